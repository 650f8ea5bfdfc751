import PyProof.Rows.All
import Wide.All
import OpenK.AllK
import Wide.FinOn
import HandS.ForMost
import HandS.Exc
import HandS.Wide
import HandS.TupAny
import HandS.TupMul
import HandS.Nested
import KE.DataEq
import HandS.IsInst
import HandS.CallSlots
import HandS.Walk
import HandS.WideMore
import HandS.WordsExc
import HandS.Style
import HandS.Star
import KE.KUnpackStar
import HandS.Dict
import KE.KRevSl
import KE.GoesMore
import HandS.ExcInit
import HandS.TryMany
import HandS.HotCalls
import HandS.ExcField
import HandS.EndTab
import KE.KExcHand
import HandS.EndOwn
import KE.KNestM
import HandS.RaiseFrom
import HandS.ExcInitHot
import HandS.SuiteRaise
import KE.KExcNote
import PySem.Challenge.RW_turndeal_k30_steps_that_do_not_fit
set_option Elab.async false
set_option linter.all false
set_option maxRecDepth 100000
/-! TD: a layer of data over HandS. Tuples are values; lists, dicts, instances stand in a memory that sees a part of the abstract heap. -/
namespace TD
open PySem L2

inductive D where
  | non | bl (b : Bool) | int (i : Int) | str (x : Str) | ref (a : Addr) | ty (n : String) | tup (l : List D) | rol (l : List D)

/-- a list that is never written -/
def SqLR (K : PySem.W.Frag) (H : Hp) (a : Addr) (xs : List V) : Prop := (∃ o, H a = some (.frz o (.lst xs))) ∨ SqL K (fun _ => none) a xs
theorem SqLR.sq {K : PySem.W.Frag} {H : Hp} {a : Addr} {xs : List V} (h : SqLR K H a xs) : SqL K H a xs := by
  rcases h with ⟨o, h⟩ | (h | ⟨o, h⟩) | h
  · exact .inl (.inr ⟨o, h⟩)
  · cases h
  · cases h
  · exact .inr h
theorem SqLR.mono {K : PySem.W.Frag} {H H' : Hp} {a : Addr} {xs : List V} (f : ∀ a o u, H a = some (.frz o u) → H' a = some (.frz o u)) (h : SqLR K H a xs) : SqLR K H' a xs := by
  rcases h with ⟨o, h⟩ | h
  · exact .inl ⟨o, f _ _ _ h⟩
  · exact .inr h
mutual
inductive Rep (K : PySem.W.Frag) (H : Hp) : V → D → Prop
  | non : Rep K H .non .non
  | bl (b : Bool) : Rep K H (.bl b) (.bl b)
  | int (i : Int) : Rep K H (.int i) (.int i)
  | str (x : Str) : Rep K H (.str x) (.str x)
  | ref (a : Addr) : Rep K H (.ref a) (.ref a)
  | ty (n : String) : Rep K H (.ty n) (.ty n)
  | tup {a : Addr} {vs : List V} {ds : List D} : SqT K H a vs → Reps K H vs ds → Rep K H (.ref a) (.tup ds)
  | rol {a : Addr} {vs : List V} {ds : List D} : SqLR K H a vs → Reps K H vs ds → Rep K H (.ref a) (.rol ds)
inductive Reps (K : PySem.W.Frag) (H : Hp) : List V → List D → Prop
  | nil : Reps K H [] []
  | cons {v : V} {d : D} {vs : List V} {ds : List D} : Rep K H v d → Reps K H vs ds → Reps K H (v :: vs) (d :: ds)
end

/-- a lambda's words -/
structure LInfo where
  qual : Str
  params : Arguments
  body : Expr
  scope : Scope
  cl : List (Str × Addr)
  dfl : Option Int := none
abbrev lamFd (L : LInfo) (dV pm ctv : Value) (c : Addr) : FuncData :=
  { name := "<lambda>", qualname := L.qual, params := L.params, body := .expr L.body, scope := L.scope, globals := mainGlobals, closure := L.cl, defaults := dV, kwdefaults := .none, doc := .none, pyModule := pm, annotations := none, code := .ref c, closureTuple := ctv, builtins := builtinsNs }
/-- the object at f is the lambda, its code object at c -/
def LamO (f : Addr) (L : LInfo) (dV : Value) (c : Addr) : HO := .ext fun h => ∃ pm ctv : Value, h.get? f = some ({ cls := .type "function", data := .func (lamFd L dV pm ctv c) } : Obj)
def LamAt (H : Hp) (f : Addr) (L : LInfo) : Prop := ∃ dV c, H f = some (LamO f L dV c) ∧ H c = some (LamX.CodeO c L.qual) ∧ ((L.dfl = none ∧ dV = .none) ∨ ∃ i dt, L.dfl = some i ∧ dV = .ref dt ∧ H dt = some (.tup [.int i]))
/-- what the memory sees -/
inductive MO where
  | lst (ds : List D)
  | ins (C dx : Addr) (fs : List (Str × D))
  | dk (kvs : List (Key × D))
  | tab (nm : Nat → Nat → Str)
  | lam (L : LInfo)
  | oth (o : HO)
abbrev Mem := Addr → Option MO
def mupd (M : Mem) (a : Addr) (o : MO) : Mem := fun b => if b = a then some o else M b
theorem mupd_same {M : Mem} {a : Addr} {o : MO} : mupd M a o a = some o := by unfold mupd; rw [if_pos rfl]
theorem mupd_ne {M : Mem} {a b : Addr} {o : MO} (h : b ≠ a) : mupd M a o b = M b := by unfold mupd; rw [if_neg h]
theorem mupd_mupd {M : Mem} {a : Addr} {o u : MO} : mupd (mupd M a o) a u = mupd M a u := by
  funext b; unfold mupd; split <;> rfl

abbrev FReps {κ : Type} (K : PySem.W.Frag) (H : Hp) : List (κ × V) → List (κ × D) → Prop := Paired fun p q => p.1 = q.1 ∧ Rep K H p.2 q.2
def MOk (K : PySem.W.Frag) (H : Hp) (a : Addr) : MO → Prop
  | .lst ds => ∃ vs, H a = some (.lst vs) ∧ Reps K H vs ds
  | .ins C dx fs => ∃ vs, H a = some (.ins C dx vs) ∧ FReps K H vs fs
  | .dk kvs => ∃ vs, H a = some (.dK vs) ∧ FReps K H vs kvs
  | .tab nm => NdefX.TabN H a nm
  | .lam L => LamAt H a L
  | .oth o => H a = some o ∧ (∀ xs, o ≠ .tup xs) ∧ (∀ ob u, o ≠ .frz ob u) ∧ ∀ ps, o ≠ .tbl ps
/-- the memory tells of the heap -/
def Sim (K : PySem.W.Frag) (H : Hp) (M : Mem) : Prop := ∀ a o, M a = some o → MOk K H a o

/-- tables of code grow; what they name stands -/
def isTbl : HO → Bool
  | .tbl _ => true
  | _ => false
/-- from one heap to a later one: tuples and locked things stand, what the memory does not see stands -/
structure Tr (H : Hp) (M : Mem) (H' : Hp) (M' : Mem) : Prop where
  tup : ∀ a vs, H a = some (.tup vs) → H' a = some (.tup vs)
  frz : ∀ a o u, H a = some (.frz o u) → H' a = some (.frz o u)
  fr : ∀ a o, H a = some o → M a = none → M' a = none
  st : ∀ a o, H a = some o → M a = none → isTbl o = false → H' a = some o
  tb : ∀ a ps, H a = some (.tbl ps) → ∃ more, H' a = some (.tbl (ps ++ more))
  dom : ∀ a o, H a = some o → ∃ u, H' a = some u
theorem Tr.refl (H : Hp) (M : Mem) : Tr H M H M := ⟨fun _ _ h => h, fun _ _ _ h => h, fun _ _ _ h => h, fun _ _ h _ _ => h, fun _ ps h => ⟨#[], by rw [h]; simp⟩, fun _ o h => ⟨o, h⟩⟩
theorem rd_mono {H H' : Hp} {a : Addr} {vs : List V} (t : ∀ a vs, H a = some (.tup vs) → H' a = some (.tup vs)) (f : ∀ a o u, H a = some (.frz o u) → H' a = some (.frz o u)) {K : PySem.W.Frag} (h : SqT K H a vs) : SqT K H' a vs := by
  rcases h with (h | ⟨o, h⟩) | h
  · exact .inl (.inl (t _ _ h))
  · exact .inl (.inr ⟨o, f _ _ _ h⟩)
  · exact .inr h
section
variable {K : PySem.W.Frag} {H H' H2 : Hp} {M M' M2 : Mem}
mutual
theorem Rep.mono0 (t : ∀ a vs, H a = some (.tup vs) → H' a = some (.tup vs)) (f : ∀ a o u, H a = some (.frz o u) → H' a = some (.frz o u)) : ∀ {v : V} {d : D}, Rep K H v d → Rep K H' v d
  | _, _, .non => .non
  | _, _, .bl b => .bl b
  | _, _, .int i => .int i
  | _, _, .str x => .str x
  | _, _, .ref a => .ref a
  | _, _, .ty n => .ty n
  | _, _, .tup h r => .tup (rd_mono t f h) (Reps.mono0 t f r)
  | _, _, .rol h r => .rol (h.mono f) (Reps.mono0 t f r)
theorem Reps.mono0 (t : ∀ a vs, H a = some (.tup vs) → H' a = some (.tup vs)) (f : ∀ a o u, H a = some (.frz o u) → H' a = some (.frz o u)) : ∀ {vs : List V} {ds : List D}, Reps K H vs ds → Reps K H' vs ds
  | _, _, .nil => .nil
  | _, _, .cons h r => .cons (Rep.mono0 t f h) (Reps.mono0 t f r)
end
theorem Rep.mono {v : V} {d : D} (h : Rep K H v d) (t : Tr H M H' M') : Rep K H' v d := h.mono0 t.tup t.frz
theorem Reps.mono {v : List V} {d : List D} (h : Reps K H v d) (t : Tr H M H' M') : Reps K H' v d := h.mono0 t.tup t.frz
theorem FReps.mono0 {κ : Type} (t : ∀ a vs, H a = some (.tup vs) → H' a = some (.tup vs)) (f : ∀ a o u, H a = some (.frz o u) → H' a = some (.frz o u)) : ∀ {vs : List (κ × V)} {ds : List (κ × D)}, FReps K H vs ds → FReps K H' vs ds
  | _, _, .nil => .nil
  | _, _, .cons h r => .cons ⟨h.1, h.2.mono0 t f⟩ (FReps.mono0 t f r)
theorem FReps.mono {κ : Type} {v : List (κ × V)} {d : List (κ × D)} (h : FReps K H v d) (t : Tr H M H' M') : FReps K H' v d := FReps.mono0 t.tup t.frz h
theorem Tr.trans (a : Tr H M H' M') (b : Tr H' M' H2 M2) : Tr H M H2 M2 where
  tup := fun c vs h => b.tup c vs (a.tup c vs h)
  frz := fun c o u h => b.frz c o u (a.frz c o u h)
  fr := fun c o h n => by
    cases e : isTbl o with
    | false => exact b.fr c o (a.st c o h n e) (a.fr c o h n)
    | true =>
      cases o with
      | tbl ps => obtain ⟨more, q⟩ := a.tb c ps h; exact b.fr c _ q (a.fr c _ h n)
      | _ => cases e
  st := fun c o h n e => b.st c o (a.st c o h n e) (a.fr c o h n) e
  tb := fun c ps h => by
    obtain ⟨m1, q1⟩ := a.tb c ps h
    obtain ⟨m2, q2⟩ := b.tb c _ q1
    exact ⟨m1 ++ m2, by rw [q2, Array.append_assoc]⟩
  dom := fun c o h => by
    obtain ⟨u, q⟩ := a.dom c o h
    exact b.dom c u q
/-- what the memory sees is no tuple, no locked thing but a read-only one, no table -/
theorem Sim.not_tup {a : Addr} {o : MO} {xs : List V} (s : Sim K H M) (h : M a = some o) : H a ≠ some (.tup xs) := fun e => by
  have q := s a o h
  cases o with
  | lst ds => obtain ⟨vs, q, _⟩ := q; rw [e] at q; cases q
  | ins C dx fs => obtain ⟨vs, q, _⟩ := q; rw [e] at q; cases q
  | dk kvs => obtain ⟨vs, q, _⟩ := q; rw [e] at q; cases q
  | tab nm => obtain ⟨vs, q, _⟩ := q; rw [e] at q; cases q
  | lam L => obtain ⟨dV, c, q, _⟩ := q; rw [e] at q; unfold LamO at q; cases q
  | oth o => obtain ⟨q, n, _⟩ := q; rw [e] at q; cases q; exact n _ rfl
theorem ext_tab {nm : Nat → Nat → Str} {P : Addr} (k : ∀ b o, H b = some o → (∀ xs, o ≠ .lst xs) → (∀ xs, o ≠ .dK xs) → (∀ C d fs, o ≠ .ins C d fs) → H' b = some o) (h : NdefX.TabN H P nm) : NdefX.TabN H' P nm := by
  obtain ⟨ps, h1, h2, h3⟩ := h
  refine ⟨ps, k P _ h1 (fun _ z => nomatch z) (fun _ z => nomatch z) (fun _ _ _ z => nomatch z), h2, fun pos cv q => ?_⟩
  obtain ⟨c, e, q⟩ := h3 pos cv q
  exact ⟨c, e, k c _ q (fun _ z => nomatch z) (fun _ z => nomatch z) fun _ _ _ z => nomatch z⟩
theorem Hfree {a b : Addr} {o : HO} (h : H a = some o) (h' : H b = none) : a ≠ b := fun e => by rw [e, h'] at h; cases h
theorem Sim.free {a : Addr} (s : Sim K H M) (h : H a = none) : M a = none := by
  cases e : M a with
  | none => rfl
  | some o =>
    have q := s a o e
    cases o with
    | lst ds => obtain ⟨vs, q, _⟩ := q; rw [h] at q; cases q
    | ins C dx fs => obtain ⟨vs, q, _⟩ := q; rw [h] at q; cases q
    | dk kvs => obtain ⟨vs, q, _⟩ := q; rw [h] at q; cases q
    | tab nm => obtain ⟨vs, q, _⟩ := q; rw [h] at q; cases q
    | lam L => obtain ⟨dV, c, q, _⟩ := q; rw [h] at q; cases q
    | oth o => obtain ⟨q, _⟩ := q; rw [h] at q; cases q
/-- a new thing, not seen by the memory | seen by it -/
theorem Tr.new {p : Addr} {o : HO} (hp : H p = none) : Tr H M (upd H p o) M :=
  ⟨fun a vs h => by rw [upd_ne (Hfree h hp)]; exact h, fun a ob u h => by rw [upd_ne (Hfree h hp)]; exact h, fun _ _ _ h => h, fun a ob h _ _ => by rw [upd_ne (Hfree h hp)]; exact h,
    fun a ps h => ⟨#[], by rw [upd_ne (Hfree h hp), h]; simp⟩, fun b u h => ⟨u, by rw [upd_ne (Hfree h hp)]; exact h⟩⟩
theorem Tr.newM {p : Addr} {o : HO} {mo : MO} (hp : H p = none) : Tr H M (upd H p o) (mupd M p mo) :=
  ⟨fun a vs h => by rw [upd_ne (Hfree h hp)]; exact h, fun a ob u h => by rw [upd_ne (Hfree h hp)]; exact h, fun a ob h n => by rw [mupd_ne (Hfree h hp)]; exact n, fun a ob h _ _ => by rw [upd_ne (Hfree h hp)]; exact h,
    fun a ps h => ⟨#[], by rw [upd_ne (Hfree h hp), h]; simp⟩, fun b u h => ⟨u, by rw [upd_ne (Hfree h hp)]; exact h⟩⟩
theorem MOk.mono {a : Addr} {o : MO} (h : MOk K H a o) (k : ∀ b o, H b = some o → (∀ xs, o ≠ .lst xs) → (∀ xs, o ≠ .dK xs) → (∀ C d fs, o ≠ .ins C d fs) → H' b = some o) (t : ∀ a vs, H a = some (.tup vs) → H' a = some (.tup vs)) (f : ∀ a o u, H a = some (.frz o u) → H' a = some (.frz o u)) (s : ∀ u, H a = some u → H' a = some u) : MOk K H' a o := by
  cases o with
  | lst ds => obtain ⟨vs, q, r⟩ := h; exact ⟨vs, s _ q, r.mono0 t f⟩
  | ins C dx fs => obtain ⟨vs, q, r⟩ := h; exact ⟨vs, s _ q, FReps.mono0 t f r⟩
  | dk kvs => obtain ⟨vs, q, r⟩ := h; exact ⟨vs, s _ q, FReps.mono0 t f r⟩
  | tab nm => exact ext_tab k h
  | lam L =>
    obtain ⟨dV, c, q1, q2, q3⟩ := h
    refine ⟨dV, c, s _ q1, k _ _ q2 (fun _ z => by unfold LamX.CodeO at z; cases z) (fun _ z => by unfold LamX.CodeO at z; cases z) (fun _ _ _ z => by unfold LamX.CodeO at z; cases z), ?_⟩
    rcases q3 with q3 | ⟨i, dt, e1, e2, e3⟩
    · exact .inl q3
    · exact .inr ⟨i, dt, e1, e2, t _ _ e3⟩
  | oth o => obtain ⟨q, r⟩ := h; exact ⟨s _ q, r⟩
theorem Sim.new {p : Addr} {o : HO} (s : Sim K H M) (hp : H p = none) : Sim K (upd H p o) M := fun a u h =>
  (s a u h).mono (fun b u h _ _ _ => by rw [upd_ne (Hfree h hp)]; exact h) (fun a vs h => by rw [upd_ne (Hfree h hp)]; exact h) (fun a ob u h => by rw [upd_ne (Hfree h hp)]; exact h) fun w h => by rw [upd_ne (Hfree h hp)]; exact h
theorem Sim.newM {p : Addr} {o : HO} {mo : MO} (s : Sim K H M) (hp : H p = none) (h : MOk K (upd H p o) p mo) : Sim K (upd H p o) (mupd M p mo) := fun a u e => by
  by_cases ha : a = p
  · subst ha; rw [mupd_same] at e; cases e; exact h
  · rw [mupd_ne ha] at e; exact s.new hp a u e
/-- a thing that the memory sees is written -/
def wkind : HO → Bool
  | .lst _ | .dK _ | .ins _ _ _ => true
  | _ => false
section
variable {p : Addr} {o u : HO} {mo mu : MO} (hm : M p = some mo) (hu : H p = some u) (hk : wkind u = true)
include hu hk
theorem ne_w {a : Addr} {v : HO} (h : H a = some v) (n : wkind v = false) : a ≠ p := fun e => by
  rw [e, hu] at h; cases h; rw [hk] at n; cases n
theorem ne_wk (b : Addr) (v : HO) (h : H b = some v) (h1 : ∀ xs, v ≠ .lst xs) (h2 : ∀ xs, v ≠ .dK xs) (h3 : ∀ C d fs, v ≠ .ins C d fs) : upd H p o b = some v := by
  rw [upd_ne (fun e => ?_)]; exact h
  rw [e, hu] at h; cases h
  cases u <;> first | exact h1 _ rfl | exact h2 _ rfl | exact h3 _ _ _ rfl | cases hk
include hm
theorem Tr.wr : Tr H M (upd H p o) (mupd M p mu) :=
  ⟨fun a vs h => by rw [upd_ne (ne_w hu hk h rfl)]; exact h, fun a ob w h => by rw [upd_ne (ne_w hu hk h rfl)]; exact h,
    fun a ob h n => by rw [mupd_ne (fun e => by rw [e, hm] at n; cases n)]; exact n, fun a ob h n _ => by rw [upd_ne (fun e => by rw [e, hm] at n; cases n)]; exact h,
    fun a ps h => ⟨#[], by rw [upd_ne (ne_w hu hk h rfl), h]; simp⟩, fun b v h => by
      by_cases e : b = p
      · subst e; exact ⟨o, upd_same⟩
      · exact ⟨v, by rw [upd_ne e]; exact h⟩⟩
theorem Sim.wr (s : Sim K H M) (h : MOk K (upd H p o) p mu) : Sim K (upd H p o) (mupd M p mu) := fun a w e => by
  by_cases ha : a = p
  · subst ha; rw [mupd_same] at e; cases e; exact h
  · rw [mupd_ne ha] at e
    exact (s a w e).mono (ne_wk hu hk) (fun a vs h => by rw [upd_ne (ne_w hu hk h rfl)]; exact h) (fun a ob w h => by rw [upd_ne (ne_w hu hk h rfl)]; exact h) fun z h => by rw [upd_ne ha]; exact h
end
/-- what is forgotten -/
def MLe (M M' : Mem) : Prop := ∀ a o, M a = some o → M' a = some o
theorem MLe.refl (M : Mem) : MLe M M := fun _ _ h => h
theorem MLe.trans (a : MLe M M') (b : MLe M' M2) : MLe M M2 := fun c o h => b c o (a c o h)
theorem MLe.new {p : Addr} {mo : MO} (h : M p = none) : MLe M (mupd M p mo) := fun a o e => by
  rw [mupd_ne (fun z => by rw [z, h] at e; cases e)]; exact e
theorem Sim.le (s : Sim K H M') (l : MLe M M') : Sim K H M := fun a o h => s a o (l a o h)
theorem Tr.fresh (t : Tr H M H' M') {a : Addr} (h : H' a = none) : H a = none := by
  cases e : H a with
  | none => rfl
  | some o => obtain ⟨u, q⟩ := t.dom a o e; rw [h] at q; cases q
theorem Tr.le {M0 : Mem} (t : Tr H M H' M') (l : MLe M0 M') : Tr H M H' M0 := by
  refine ⟨t.tup, t.frz, fun a o h n => ?_, t.st, t.tb, t.dom⟩
  cases e : M0 a with
  | none => rfl
  | some u =>
    have := l a u e
    rw [t.fr a o h n] at this
    cases this

/-! ### slots -/
abbrev DSt := List (Option D)
inductive DvL (K : PySem.W.Frag) (H : Hp) : St → DSt → Prop
  | nil : DvL K H [] []
  | no {v : Option V} {σ : St} {ρ : DSt} : DvL K H σ ρ → DvL K H (v :: σ) (none :: ρ)
  | yes {v : V} {d : D} {σ : St} {ρ : DSt} : Rep K H v d → DvL K H σ ρ → DvL K H (some v :: σ) (some d :: ρ)
theorem DvL.mono0 (t : ∀ a vs, H a = some (.tup vs) → H' a = some (.tup vs)) (f : ∀ a o u, H a = some (.frz o u) → H' a = some (.frz o u)) {σ : St} {ρ : DSt} (h : DvL K H σ ρ) : DvL K H' σ ρ := by
  induction h with
  | nil => exact .nil
  | no _ ih => exact .no ih
  | yes r _ ih => exact .yes (r.mono0 t f) ih
theorem DvL.mono {σ : St} {ρ : DSt} (h : DvL K H σ ρ) (t : Tr H M H' M') : DvL K H' σ ρ := h.mono0 t.tup t.frz
theorem DvL.get {σ : St} {ρ : DSt} (h : DvL K H σ ρ) : ∀ {i : Nat} {d : D}, ρ[i]? = some (some d) → ∃ v, σ[i]? = some (some v) ∧ Rep K H v d := by
  induction h with
  | nil => intro i d e; simp at e
  | no _ ih =>
    intro i d e
    cases i with
    | zero => simp at e
    | succ i => simpa using ih (by simpa using e)
  | @yes v d' _ _ r _ ih =>
    intro i d e
    cases i with
    | zero => simp at e; subst e; exact ⟨_, rfl, r⟩
    | succ i => simpa using ih (by simpa using e)
theorem DvL.set {σ : St} {ρ : DSt} {v : V} {d : D} (r : Rep K H v d) (h : DvL K H σ ρ) : ∀ i : Nat, DvL K H (σ.set i (some v)) (ρ.set i (some d)) := by
  induction h with
  | nil => intro i; exact .nil
  | no g ih =>
    intro i
    cases i with
    | zero => exact .yes r g
    | succ i => exact .no (ih i)
  | yes q g ih =>
    intro i
    cases i with
    | zero => exact .yes r g
    | succ i => exact .yes q (ih i)
theorem DvL.setN {σ : St} {ρ : DSt} (h : DvL K H σ ρ) : ∀ i : Nat, DvL K H (σ.set i none) (ρ.set i none) := by
  induction h with
  | nil => intro i; exact .nil
  | no g ih =>
    intro i
    cases i with
    | zero => exact .no g
    | succ i => exact .no (ih i)
  | yes q g ih =>
    intro i
    cases i with
    | zero => exact .no g
    | succ i => exact .yes q (ih i)
def dwipe (ρ : DSt) : List Nat → DSt
  | [] => ρ
  | v :: vs => (dwipe ρ vs).set v none
theorem DvL.wipe {σ : St} {ρ : DSt} (h : DvL K H σ ρ) : ∀ vs : List Nat, DvL K H (wipe σ vs) (dwipe ρ vs)
  | [] => h
  | v :: vs => (DvL.wipe h vs).setN v
theorem DvL.start : ∀ {vs : List V} {ds : List D}, Reps K H vs ds → ∀ (n : Nat), DvL K H (vs.map some ++ List.replicate n none) (ds.map some ++ List.replicate n none)
  | _, _, .nil, 0 => .nil
  | _, _, .nil, n + 1 => .no (DvL.start .nil n)
  | _, _, .cons r t, n => .yes r (DvL.start t n)
theorem Reps.length {vs : List V} {ds : List D} (h : Reps K H vs ds) : vs.length = ds.length := by
  induction ds generalizing vs with
  | nil => cases h; rfl
  | cons d ds ih => cases h with | cons r t => simp [ih t]
theorem Reps.get {vs : List V} {ds : List D} (h : Reps K H vs ds) : ∀ {i : Nat} {d : D}, ds[i]? = some d → ∃ v, vs[i]? = some v ∧ Rep K H v d := by
  induction ds generalizing vs with
  | nil => intro i d e; simp at e
  | cons c ds ih =>
    intro i d e
    cases h with
    | cons r t =>
      cases i with
      | zero => simp at e; subst e; exact ⟨_, rfl, r⟩
      | succ i => simpa using ih t (by simpa using e)
theorem Reps.append : ∀ {vs ws : List V} {ds es : List D}, Reps K H vs ds → Reps K H ws es → Reps K H (vs ++ ws) (ds ++ es)
  | _, _, _, _, .nil, s => s
  | _, _, _, _, .cons r t, s => .cons r (Reps.append t s)
theorem Reps.take : ∀ {vs : List V} {ds : List D} (n : Nat), Reps K H vs ds → Reps K H (vs.take n) (ds.take n)
  | _, _, 0, _ => .nil
  | _, _, _ + 1, .nil => .nil
  | _, _, n + 1, .cons r t => .cons r (Reps.take n t)
theorem Reps.drop : ∀ {vs : List V} {ds : List D} (n : Nat), Reps K H vs ds → Reps K H (vs.drop n) (ds.drop n)
  | _, _, 0, r => r
  | _, _, _ + 1, .nil => .nil
  | _, _, n + 1, .cons _ t => Reps.drop n t
theorem Reps.set {v : V} {d : D} (r : Rep K H v d) : ∀ {vs : List V} {ds : List D} (i : Nat), Reps K H vs ds → Reps K H (vs.set i v) (ds.set i d)
  | _, _, _, .nil => .nil
  | _, _, 0, .cons _ t => .cons r t
  | _, _, i + 1, .cons q t => .cons q (Reps.set r i t)
theorem Reps.flat : ∀ (n : Nat) {vs : List V} {ds : List D}, Reps K H vs ds → Reps K H (List.replicate n vs).flatten (List.replicate n ds).flatten
  | 0, _, _, _ => .nil
  | n + 1, _, _, h => by
    rw [List.replicate_succ, List.replicate_succ, List.flatten_cons, List.flatten_cons]
    exact h.append (Reps.flat n h)
theorem Reps.dropLast : ∀ {vs : List V} {ds : List D}, Reps K H vs ds → Reps K H vs.dropLast ds.dropLast
  | _, _, .nil => .nil
  | _, _, .cons _ .nil => .nil
  | _, _, .cons r (.cons q t) => by
    show Reps K H (_ :: List.dropLast (_ :: _)) (_ :: List.dropLast (_ :: _))
    exact .cons r (Reps.dropLast (.cons q t))
theorem Reps.reverse {vs : List V} {ds : List D} (h : Reps K H vs ds) : Reps K H vs.reverse ds.reverse := by
  induction ds generalizing vs with
  | nil => cases h; exact .nil
  | cons d ds ih => cases h with | cons r t => rw [List.reverse_cons, List.reverse_cons]; exact (ih t).append (.cons r .nil)

/-! ### exceptions, wishes -/
abbrev XD := Value → List (Str × D) → Mem → Prop
def XRep (K : PySem.W.Frag) (H : Hp) (od : Option Addr) (fs : List (Str × D)) : Prop := (od = none ∧ fs = []) ∨ ∃ dx vs, od = some dx ∧ H dx = some (.xd vs) ∧ FReps K H vs fs
def wUp (K : PySem.W.Frag) (W : WX) (σ : St) (H : Hp) (M : Mem) (E : XD) : Prop := ∀ cls fs M', E cls fs M' → ∀ od H', XRep K H' od fs → Sim K H' M' → Tr H M H' M' → W cls od σ H'
theorem wUp.mono {W : WX} {σ : St} {E : XD} (h : wUp K W σ H M E) (t : Tr H M H' M') : wUp K W σ H' M' E := fun c f m e o h2 x s t2 => h c f m e o h2 x s (t.trans t2)
def qUp (K : PySem.W.Frag) (H : Hp) (M : Mem) (Q0 : D → Mem → Prop) (Q : VK) : Prop := ∀ d M', Q0 d M' → ∀ v H', Rep K H' v d → Sim K H' M' → Tr H M H' M' → Q v H'
theorem qUp.mono {Q0 : D → Mem → Prop} {Q : VK} (h : qUp K H M Q0 Q) (t : Tr H M H' M') : qUp K H' M' Q0 Q := fun d m q v h2 r s t2 => h d m q v h2 r s (t.trans t2)

abbrev TDE := DSt → Mem → (D → Mem → Prop) → XD → Prop
abbrev TDT := DSt → Mem → (Bool → Mem → Prop) → XD → Prop
abbrev TDA := DSt → Mem → (List D → Mem → Prop) → XD → Prop
end
def upE (K : PySem.W.Frag) (W : WX) (td : TDE) : TE := fun σ H Q => ∃ ρ M Q0 E0, DvL K H σ ρ ∧ Sim K H M ∧ td ρ M Q0 E0 ∧ qUp K H M Q0 Q ∧ wUp K W σ H M E0
def upT (K : PySem.W.Frag) (W : WX) (td : TDT) : TT := fun σ H Q => ∃ ρ M Q0 E0, DvL K H σ ρ ∧ Sim K H M ∧ td ρ M Q0 E0 ∧ (∀ b M', Q0 b M' → ∀ H', Sim K H' M' → Tr H M H' M' → Q b H') ∧ wUp K W σ H M E0
def upA (K : PySem.W.Frag) (W : WX) (td : TDA) : TA := fun σ H Q => ∃ ρ M Q0 E0, DvL K H σ ρ ∧ Sim K H M ∧ td ρ M Q0 E0 ∧ (∀ ds M', Q0 ds M' → ∀ vs H', Reps K H' vs ds → Sim K H' M' → Tr H M H' M' → Q vs H') ∧ wUp K W σ H M E0
/-- an expression, a test, arguments, by data -/
def DE (X : Cx) (W : WX) (e : Expr) (td : TDE) : Prop := PE X e (upE X.K W td)
def DT (X : Cx) (W : WX) (e : Expr) (td : TDT) : Prop := PT X e (upT X.K W td)
def DA (X : Cx) (W : WX) (es : List Expr) (td : TDA) : Prop := PA X es (upA X.K W td)
theorem PE.imp {X : Cx} {e : Expr} {t t' : TE} (h : PE X e t) (k : ∀ σ H Q, t' σ H Q → t σ H Q) : PE X e t' := ⟨fun pins s σ H Q I q => h.run pins s σ H Q I (k σ H Q q)⟩
theorem PT.imp {X : Cx} {e : Expr} {t t' : TT} (h : PT X e t) (k : ∀ σ H Q, t' σ H Q → t σ H Q) : PT X e t' := ⟨fun pins s σ H Q I q => h.run pins s σ H Q I (k σ H Q q)⟩
theorem PA.imp {X : Cx} {e : List Expr} {t t' : TA} (h : PA X e t) (k : ∀ σ H Q, t' σ H Q → t σ H Q) : PA X e t' := ⟨fun pos pins s σ H Q I q => h.run pos pins s σ H Q I (k σ H Q q)⟩
theorem PW.imp {X : Cx} {e : Expr} {t t' : TT} (h : PW X e t) (k : ∀ σ H Q, t' σ H Q → t σ H Q) : PW X e t' := ⟨fun w pins s σ H Q I q => h.run w pins s σ H Q I (k σ H Q q)⟩

/-! ### names, constants -/
section
variable {X : Cx} {W : WX} {pos : Pos}
def tdVar (i : Nat) : TDE := fun ρ M Q _ => match ρ.getD i none with | some d => Q d M | none => False
def tdC (d : D) : TDE := fun _ M Q _ => Q d M
theorem getD_some {ρ : DSt} {i : Nat} {d : D} (h : ρ.getD i none = some d) : ρ[i]? = some (some d) := by
  rw [List.getD_eq_getElem?_getD] at h
  cases e : ρ[i]? with
  | none => rw [e] at h; cases h
  | some o => rw [e] at h; simp at h; rw [h]
theorem de_var {e : Expr} {i : Nat} (h : PE X e (tVar i)) : DE X W e (tdVar i) := PE.imp h fun σ H Q ⟨ρ, M, Q0, E0, dv, sm, q, hq, _⟩ => by
  unfold tdVar at q
  cases e : ρ.getD i none with
  | none => rw [e] at q; exact q.elim
  | some d =>
    rw [e] at q
    obtain ⟨v, e1, r⟩ := dv.get (getD_some e)
    exact ⟨v, e1, hq d M q v H r sm (Tr.refl H M)⟩
theorem dv (i : Nat) {x : Str} (hN : X.N[i]? = some x := by rfl) (hv : Vis X.env.scope x := by first | exact Or.inl rfl | exact Or.inr (Or.inl rfl) | exact Or.inr (Or.inr rfl)) (hd : (x == ("__debug__" : Str)) = false := by decide)
    (hcd : (x == ("__classdict__" : Str)) = false := by decide) : DE X W (.Name x pos) (tdVar i) := de_var (pe_var hN hv hd hcd)
theorem de_c {e : Expr} {v : V} {d : D} (h : PE X e (tC v)) (r : ∀ H, Rep X.K H v d) : DE X W e (tdC d) := PE.imp h fun σ H Q ⟨ρ, M, Q0, E0, dv, sm, q, hq, _⟩ => hq d M q v H (r H) sm (Tr.refl H M)
theorem de_int {i j} : DE X W (.Constant (.int i) j pos) (tdC (.int i)) := de_c pe_int fun _ => .int i
theorem de_bl {b j} : DE X W (.Constant (.bool b) j pos) (tdC (.bl b)) := de_c pe_bl fun _ => .bl b
theorem de_non {j} : DE X W (.Constant .none j pos) (tdC .non) := de_c pe_non fun _ => .non
theorem de_str {x j} : DE X W (.Constant (.str x) j pos) (tdC (.str x)) := de_c pe_str fun _ => .str x
/-- a module's constant -/
structure GC (mg : Str → Option Value) (x : Str) (v : V) : Prop where
  ex : ∃ u, mg x = some u ∧ RelV v u
theorem de_glob {x : Str} {v : V} {d : D} (g : GC X.mg x v) (r : ∀ H, Rep X.K H v d) (hg : Gl X x := by rfl) (hd : (x == ("__debug__" : Str)) = false := by decide) : DE X W (.Name x pos) (tdC d) := by
  obtain ⟨u, h, q⟩ := g.ex
  exact de_c (pe_glob hg h q hd) r

/-! ### operators -/
abbrev RD2 := D → D → Mem → (D → Mem → Prop) → Prop
def LiftR (K : PySem.W.Frag) (r : R2) (rd : RD2) : Prop := ∀ x y H M dx dy Q0 Q, Rep K H x dx → Rep K H y dy → Sim K H M → rd dx dy M Q0 → qUp K H M Q0 Q → r x y H Q
def tdOp (rd : RD2) (ta tb : TDE) : TDE := fun ρ M Q E => ta ρ M (fun x M1 => tb ρ M1 (fun y M2 => rd x y M2 Q) E) E
variable {a b c : Expr} {ta tb tc : TDE}
theorem up_two {K : PySem.W.Frag} {r : R2} {rd : RD2} (l : LiftR K r rd) {σ : St} {H : Hp} {Q : VK} (h : upE K W (tdOp rd ta tb) σ H Q) : tOp r (upE K W ta) (upE K W tb) σ H Q := by
  obtain ⟨ρ, M, Q0, E0, dv, sm, q, hq, he⟩ := h
  refine ⟨ρ, M, _, E0, dv, sm, q, fun d1 M1 q1 x H1 r1 s1 t1 => ?_, he⟩
  refine ⟨ρ, M1, _, E0, dv.mono t1, s1, q1, fun d2 M2 q2 y H2 r2 s2 t2 => ?_, he.mono t1⟩
  exact l x y H2 M2 d1 d2 Q0 Q (r1.mono t2) r2 s2 q2 (hq.mono (t1.trans t2))
theorem de_op {op : Operator} {r : R2} {rd : RD2} (ho : OpR X (binaryOp op) r) (l : LiftR X.K r rd) (ha : DE X W a ta) (hb : DE X W b tb) : DE X W (.BinOp a op b pos) (tdOp rd ta tb) := PE.imp (pe_op ho ha hb) fun _ _ _ h => up_two l h
theorem de_cmp {op : CmpOp} {r : R2} {rd : RD2} (ho : OpR X (compareOp op) r) (l : LiftR X.K r rd) (ha : DE X W a ta) (hb : DE X W b tb) (hm : behindInMarks op b = false := by first | exact nomark _ | rfl) : DE X W (.Compare a [op] [b] pos) (tdOp rd ta tb) := PE.imp (pe_cmpR ho ha hb hm) fun _ _ _ h => up_two l h
def tdTest (t : TDE) : TDT := fun ρ M Q E => t ρ M (fun x M' => match x with | .bl k => Q k M' | _ => False) E
theorem up_test {K : PySem.W.Frag} {t : TDE} {σ : St} {H : Hp} {Q : Bool → Hp → Prop} (h : upT K W (tdTest t) σ H Q) : upE K W t σ H (fun x H1 => ∃ k, x = .bl k ∧ Q k H1) := by
  obtain ⟨ρ, M, Q0, E0, dv, sm, q, hq, he⟩ := h
  refine ⟨ρ, M, _, E0, dv, sm, q, fun d1 M1 q1 x H1 r1 s1 t1 => ?_, he⟩
  cases d1 with
  | bl k => cases r1; exact ⟨k, rfl, hq k M1 q1 H1 s1 t1⟩
  | _ => exact q1.elim
theorem dt_cmp {op : CmpOp} {r : R2} {rd : RD2} (ho : OpR X (compareOp op) r) (l : LiftR X.K r rd) (ha : DE X W a ta) (hb : DE X W b tb) (hm : behindInMarks op b = false := by first | exact nomark _ | rfl) : DT X W (.Compare a [op] [b] pos) (tdTest (tdOp rd ta tb)) :=
  PT.imp (pt_cmpR ho ha hb hm) fun σ H Q h => up_two l (up_test h)
theorem dt_val {t : TDE} (h : DE X W a t) (he : ∀ whole, isTrue a X.env whole = (do let v ← whole; standAt a.pos; holding [v] (truthy v)) := by intro _; rfl) : DT X W a (tdTest t) := PT.imp (pt_val h he) fun _ _ _ h => up_test h
end
end TD

namespace TD
open PySem PySem.Spec PyProof.Rows L2
/-! ### a tuple taken once or not at all -/
theorem tuple_mul1 (l : Addr) (items : Array Value) (n : Nat) (dd : Option Addr) (sl : Array (Option Value)) (u : Tok) :
    Meets (Builtin.«tuple.__mul__» ⟨[.ref l, .int 1 u], []⟩) (fun _ R s => s.heap.get? l = some { cls := .type "tuple", dict := dd, data := .seq items n, slots := sl } ∧ R (.ok (.ret (Value.ref l))) s) :=
  .of_wp fun prog w A R s h => by
    obtain ⟨hp, g, d, tk, os⟩ := s
    obtain ⟨hl, h⟩ := h
    have f1 := AutoSeq1.idx_int
    have c0 : (decide ((1 : Int) < -(2 ^ 63)) || decide ((1 : Int) ≥ 2 ^ 63)) = false := by decide
    have c1 : (items.isEmpty || (1 : Int) == 1) = true := by simp
    wp_walk using wpAny_loadPart' hl
    repeat (first
      | (refine wpAny_ite_false (decide_eq_false (by rw [c0]; exact Bool.false_ne_true)) ?_; wp_walk using wpAny_loadPart' hl)
      | (refine wpAny_ite_true (decide_eq_true c1) ?_; wp_walk using wpAny_loadPart' hl))
    exact ⟨_, rfl, h⟩
theorem tuple_mul0 (l : Addr) (items : Array Value) (n : Nat) (dd : Option Addr) (sl : Array (Option Value)) (x : Int) (u : Tok) (c0 : (decide (x < -(2 ^ 63)) || decide (x ≥ 2 ^ 63)) = false) (c1 : (items.isEmpty || x == 1) = false) (c2 : (decide (x ≤ 0) || items.isEmpty) = true) :
    Meets (Builtin.«tuple.__mul__» ⟨[.ref l, .int x u], []⟩) (fun _ R s => s.heap.get? l = some { cls := .type "tuple", dict := dd, data := .seq items n, slots := sl } ∧
      R (.ok (.ret (Value.ref s.heap.objs.size))) { s with heap := s.heap.push { cls := Value.type "tuple", data := Data.seq #[] }, toks := s.toks }) :=
  .of_wp fun prog w A R s h => by
    obtain ⟨hp, g, d, tk, os⟩ := s
    obtain ⟨hl, h⟩ := h
    have f1 := AutoSeq1.idx_int
    wp_walk using wpAny_loadPart' hl
    repeat (first
      | (refine wpAny_ite_false (decide_eq_false (by rw [c0]; exact Bool.false_ne_true)) ?_; wp_walk using wpAny_loadPart' hl)
      | (refine wpAny_ite_false (decide_eq_false (by rw [c1]; exact Bool.false_ne_true)) ?_; wp_walk using wpAny_loadPart' hl)
      | (refine wpAny_ite_true (decide_eq_true c2) ?_; wp_walk using wpAny_loadPart' hl))
    exact ⟨_, rfl, h⟩
def rRepS (K : PySem.W.Frag) : R2 := fun x y H Q => ∃ l k xs, x = .ref l ∧ y = .int k ∧ SqT K H l xs ∧ xs ≠ [] ∧ -1000 ≤ k ∧ k ≤ 1 ∧ (k = 1 → Q (.ref l) H) ∧ (k ≤ 0 → ∀ p, H p = none → Q (.ref p) (upd H p (.tup [])))
theorem op_repS {X : Cx} : OpR X (binaryOp .Mult) (rRepS X.K) := by
  intro pins s σ H x y v u Q I rx ry h
  obtain ⟨l, k, xs, rfl, rfl, hT, hne, h1, h2, q1, q0⟩ := h
  cases rx
  obtain ⟨t, rfl⟩ := ry
  obtain ⟨its, r, ⟨⟨cls, dd, data, sl⟩, ho, hc, n, hd⟩, hs⟩ := I.tuple hT
  simp only at hc hd
  subst hc hd
  have hle : its.length = xs.length := r.length.symm
  have hn : its ≠ [] := fun e => hne (by
    rw [e] at hle
    exact List.eq_nil_of_length_eq_zero hle.symm)
  have hi : its.toArray.isEmpty = false := by
    cases its with
    | nil => exact absurd rfl hn
    | cons a b => rfl
  by_cases hk : k = 1
  · subst hk
    refine wpAny_binaryOp_repeat_ref (T := "tuple") (U := "int") (by decide) ⟨_, ho, rfl⟩ (fun s' => typeIs_int s' 1 t) noFill_tuple_mul F.fills_int_mul F.slot_int_rmul repeat_tuple F.slot_int_index.lookup
      (call_meets F.slot_int_rmul (typeIs_int s 1 t) F.entry_int_rmul (F.args_int_rmul_2 _ _) (int_rmul_tuple 1 t l its.toArray n dd sl)
        ⟨ho, rfl, ⟨_, ho, rfl⟩, call_meets F.slot_tuple_mul ⟨_, ho, rfl⟩ F.entry_tuple_mul (F.args_tuple_mul_2 _ _) (tuple_mul1 l its.toArray n dd sl t) ⟨ho, ?_⟩⟩)
    exact ⟨.ref l, H, I, rfl, q1 rfl⟩
  · have c0 : (decide (k < -(2 ^ 63)) || decide (k ≥ 2 ^ 63)) = false := by
      rw [decide_eq_false (by omega), decide_eq_false (by omega)] <;> rfl
    have c1 : (its.toArray.isEmpty || k == 1) = false := by
      rw [hi, Bool.false_or]
      exact beq_eq_false_iff_ne.mpr hk
    have c2 : (decide (k ≤ 0) || its.toArray.isEmpty) = true := by rw [decide_eq_true (show k ≤ 0 by omega)] <;> rfl
    refine wpAny_binaryOp_repeat_ref (T := "tuple") (U := "int") (by decide) ⟨_, ho, rfl⟩ (fun s' => typeIs_int s' k t) noFill_tuple_mul F.fills_int_mul F.slot_int_rmul repeat_tuple F.slot_int_index.lookup
      (call_meets F.slot_int_rmul (typeIs_int s k t) F.entry_int_rmul (F.args_int_rmul_2 _ _) (int_rmul_tuple k t l its.toArray n dd sl)
        ⟨ho, rfl, ⟨_, ho, rfl⟩, call_meets F.slot_tuple_mul ⟨_, ho, rfl⟩ F.entry_tuple_mul (F.args_tuple_mul_2 _ _) (tuple_mul0 l its.toArray n dd sl k t c0 c1 c2) ⟨ho, ?_⟩⟩)
    refine ⟨.ref s.heap.objs.size, _, I.laid (t' := s.toks) (o := .tup []) (fun b ob q => Heap.get?_push_of_some _ q) (Nat.le_refl _) ?_, rfl, q0 (by omega) _ (I.hok.fresh (Nat.le_refl _))⟩
    exact ⟨Nat.zero_le _, [], .nil, IsTup.new _ _⟩
end TD

namespace TD
open PySem L2

/-! ### sizes of ints: opaque bounds -/
def BigE : Nat := 400000
@[irreducible] def Big (i : Int) : Prop := i.natAbs < 2 ^ BigE
theorem big_of {i : Int} {n : Nat} (h : i.natAbs < 2 ^ n) (hn : n ≤ 400000 := by decide) : Big i := by
  unfold Big BigE
  exact Nat.lt_of_lt_of_le h (Nat.pow_le_pow_right (by decide) hn)
theorem Big.of64 {i : Int} (h1 : -(2 ^ 64) < i) (h2 : i < 2 ^ 64) : Big i := big_of (n := 64) (by omega)
theorem Big.of200 {i : Int} (h1 : -(2 ^ 200) < i) (h2 : i < 2 ^ 200) : Big i := big_of (n := 200) (by omega)
theorem Big.mulW {i j : Int} (hi : Big i) (hj : Big j) : CMulW i j := by
  unfold Big BigE at hi hj
  exact wide_mul hi hj (by decide) (by decide) (by decide)
def DivOk (j : Int) : Prop := 0 < j ∧ j.natAbs < 2 ^ 9000
theorem DivOk.of {j : Int} (h : 0 < j) (h2 : j < 2 ^ 200) : DivOk j := ⟨h, Nat.lt_of_lt_of_le (show j.natAbs < 2 ^ 200 by omega) (Nat.pow_le_pow_right (by decide) (by decide))⟩

section
variable {K : PySem.W.Frag} {X : Cx}
/-! ### + -/
def rdAdd0 : RD2
  | .int i, .int j, M, Q => Q (.int (i + j)) M
  | .str x, .str y, M, Q => x.length + y.length ≤ sizeLine ∧ Q (.str (x ++ y)) M
  | .tup xs, .tup ys, M, Q => xs.length + ys.length ≤ sizeLine ∧ Q (.tup (xs ++ ys)) M
  | .ref a, .ref b, M, Q => match M a, M b with
    | some (.lst xs), some (.lst ys) => xs.length + ys.length ≤ sizeLine ∧ ∀ p, M p = none → Q (.ref p) (mupd M p (.lst (xs ++ ys)))
    | _, _ => False
  | _, _, _, _ => False
def rAddAll (K : PySem.W.Frag) : R2 := fun x y H Q => rI0 (fun i j => .int (i + j)) x y H Q ∨ (∃ i j, x = .str i ∧ y = .str j ∧ i.length + j.length ≤ sizeLine ∧ Q (.str (i ++ j)) H) ∨ rCatA K x y H Q ∨ rCat x y H Q
theorem op_addAll : OpR X (binaryOp .Add) (rAddAll X.K) := op_add.or (op_add_str.or (op_catA.or op_cat))
theorem Sim.lst {H : Hp} {M : Mem} (s : Sim K H M) {a : Addr} {ds : List D} (h : M a = some (.lst ds)) : ∃ vs, H a = some (.lst vs) ∧ Reps K H vs ds := s a _ h
theorem lstNew {H : Hp} {M : Mem} {Q0 : D → Mem → Prop} {Q : VK} {vs : List V} {ds : List D} {p : Addr} (s : Sim K H M) (r : Reps K H vs ds) (hq : qUp K H M Q0 Q) (h : ∀ p, M p = none → Q0 (.ref p) (mupd M p (.lst ds))) (hp : H p = none) : Q (.ref p) (upd H p (.lst vs)) := by
  have t : Tr H M (upd H p (.lst vs)) (mupd M p (.lst ds)) := Tr.newM hp
  exact hq _ _ (h p (s.free hp)) _ _ (.ref p) (s.newM hp ⟨vs, upd_same, r.mono t⟩) t
theorem tupNew {H : Hp} {M : Mem} {Q0 : D → Mem → Prop} {Q : VK} {vs : List V} {ds : List D} {p : Addr} (s : Sim K H M) (r : Reps K H vs ds) (hq : qUp K H M Q0 Q) (h : Q0 (.tup ds) M) (hp : H p = none) : Q (.ref p) (upd H p (.tup vs)) := by
  have t : Tr H M (upd H p (.tup vs)) M := Tr.new hp
  exact hq _ _ h _ _ (.tup (SqT.of upd_same) (r.mono t)) (s.new hp) t
theorem l_add : LiftR K (rAddAll K) rdAdd0 := by
  intro x y H M dx dy Q0 Q rx ry s h hq
  cases dx <;> cases dy <;> try exact h.elim
  · cases rx; cases ry; exact .inl ⟨_, _, rfl, rfl, hq _ _ h _ H (.int _) s (Tr.refl H M)⟩
  · cases rx; cases ry; exact .inr (.inl ⟨_, _, rfl, rfl, h.1, hq _ _ h.2 _ H (.str _) s (Tr.refl H M)⟩)
  · rename_i a b
    cases rx; cases ry
    unfold rdAdd0 at h
    dsimp only at h
    split at h
    · rename_i xs ys h1 h2
      obtain ⟨v1, g1, r1⟩ := s.lst h1
      obtain ⟨v2, g2, r2⟩ := s.lst h2
      exact .inr (.inr (.inr ⟨a, b, v1, v2, rfl, rfl, g1, g2, by rw [r1.length, r2.length]; exact h.1, fun p hp => lstNew s (r1.append r2) hq h.2 hp⟩))
    · exact h.elim
  · cases rx with
    | @tup a vs _ g1 r1 =>
      cases ry with
      | @tup b ws _ g2 r2 =>
        refine .inr (.inr (.inl ⟨a, b, vs, ws, rfl, rfl, g1, g2, by rw [r1.length, r2.length]; exact h.1, fun e => ?_, fun _ e => ?_, fun _ _ p hp => tupNew s (r1.append r2) hq h.2 hp⟩))
        · subst e; cases r1; exact hq _ _ h.2 _ H (.tup g2 r2) s (Tr.refl H M)
        · subst e; cases r2; have h2 := h.2; rw [List.append_nil] at h2; exact hq _ _ h2 _ H (.tup g1 r1) s (Tr.refl H M)
/-! ### - * // % ** -/
def rdII (C : Int → Int → Prop) (g : Int → Int → D) : RD2
  | .int i, .int j, M, Q => C i j ∧ Q (g i j) M
  | _, _, _, _ => False
def rdI0 (g : Int → Int → D) : RD2
  | .int i, .int j, M, Q => Q (g i j) M
  | _, _, _, _ => False
theorem l_ii {C C' : Int → Int → Prop} {f : Int → Int → V} {g : Int → Int → D} (hc : ∀ i j, C i j → C' i j) (hr : ∀ i j H, Rep K H (f i j) (g i j)) : LiftR K (rI C' f) (rdII C g) := by
  intro x y H M dx dy Q0 Q rx ry s h hq
  cases dx <;> cases dy <;> try exact h.elim
  cases rx; cases ry
  exact ⟨_, _, rfl, rfl, hc _ _ h.1, hq _ _ h.2 _ H (hr _ _ H) s (Tr.refl H M)⟩
theorem l_i0 {f : Int → Int → V} {g : Int → Int → D} (hr : ∀ i j H, Rep K H (f i j) (g i j)) : LiftR K (rI0 f) (rdI0 g) := by
  intro x y H M dx dy Q0 Q rx ry s h hq
  cases dx <;> cases dy <;> try exact h.elim
  cases rx; cases ry
  exact ⟨_, _, rfl, rfl, hq _ _ h _ H (hr _ _ H) s (Tr.refl H M)⟩
def rdSub0 : RD2 := rdI0 fun i j => .int (i - j)
theorem l_sub : LiftR K (rI0 fun i j => .int (i - j)) rdSub0 := l_i0 fun _ _ _ => .int _
def rdFdiv0 : RD2 := rdII (fun _ j => DivOk j) fun i j => .int (i / j)
theorem l_fdiv : LiftR K (rI CDivW fun i j => .int (i / j)) rdFdiv0 := l_ii (fun _ _ h => wide_div h.1 h.2 (by decide) (by decide)) fun _ _ _ => .int _
def rdMod0 : RD2 := rdII (fun _ j => 0 < j) fun i j => .int (i % j)
theorem l_mod : LiftR K (rI (fun _ j => 0 < j) fun i j => .int (i % j)) rdMod0 := l_ii (fun _ _ h => h) fun _ _ _ => .int _
def rdPow0 : RD2 := rdII CPow fun i j => .int (i ^ j.toNat)
theorem l_pow : LiftR K (rI CPow fun i j => .int (i ^ j.toNat)) rdPow0 := l_ii (fun _ _ h => h) fun _ _ _ => .int _
def rdMul0 : RD2
  | .int i, .int j, M, Q => Big i ∧ Big j ∧ Q (.int (i * j)) M
  | .ref a, .int k, M, Q => match M a with
    | some (.lst xs) => -(2 ^ 63) ≤ k ∧ k < 2 ^ 63 ∧ xs.length * k.toNat ≤ sizeLine ∧ ∀ p, M p = none → Q (.ref p) (mupd M p (.lst (List.replicate k.toNat xs).flatten))
    | _ => False
  | .tup xs, .int k, M, Q => xs ≠ [] ∧ -1000 ≤ k ∧ k ≤ 1000 ∧ xs.length ≤ 1000 ∧ Q (.tup (List.replicate k.toNat xs).flatten) M
  | _, _, _, _ => False
def rMulAll (K : PySem.W.Frag) : R2 := fun x y H Q => rI CMulW (fun i j => .int (i * j)) x y H Q ∨ rRep x y H Q ∨ rRepT K x y H Q ∨ rRepS K x y H Q
theorem op_mulAll : OpR X (binaryOp .Mult) (rMulAll X.K) := op_mulW.or (op_rep.or (op_repT.or op_repS))
theorem l_mul : LiftR K (rMulAll K) rdMul0 := by
  intro x y H M dx dy Q0 Q rx ry s h hq
  cases dx <;> cases dy <;> try exact h.elim
  · cases rx; cases ry; exact .inl ⟨_, _, rfl, rfl, h.1.mulW h.2.1, hq _ _ h.2.2 _ H (.int _) s (Tr.refl H M)⟩
  · rename_i a k
    cases rx; cases ry
    unfold rdMul0 at h
    dsimp only at h
    split at h
    · rename_i xs h1
      obtain ⟨v1, g1, r1⟩ := s.lst h1
      obtain ⟨c1, c2, c3, h⟩ := h
      exact .inr (.inl ⟨a, k, v1, rfl, rfl, g1, c1, c2, by rw [r1.length]; exact c3, fun p hp => lstNew s (r1.flat _) hq h hp⟩)
    · exact h.elim
  · rename_i xs k
    cases ry
    cases rx with
    | @tup a vs _ g1 r1 =>
      obtain ⟨c0, c1, c2, c3, h⟩ := h
      have ne : vs ≠ [] := fun e => by subst e; cases r1; exact c0 rfl
      by_cases hk : 2 ≤ k
      · exact .inr (.inr (.inl ⟨a, _, vs, rfl, rfl, g1, ne, hk, c2, by rw [r1.length]; exact c3, fun p hp => tupNew s (r1.flat _) hq h hp⟩))
      · refine .inr (.inr (.inr ⟨a, _, vs, rfl, rfl, g1, ne, c1, by omega, fun e => ?_, fun e p hp => ?_⟩))
        · subst e
          have e2 : (List.replicate (1 : Int).toNat xs).flatten = xs := by simp [show (1 : Int).toNat = 1 from rfl, List.replicate]
          rw [e2] at h
          exact hq _ _ h _ H (.tup g1 r1) s (Tr.refl H M)
        · have e2 : k.toNat = 0 := by omega
          rw [e2] at h
          exact tupNew s .nil hq h hp

/-! ### comparisons -/
def rdCmp0 (f : Int → Int → Bool) : RD2 := rdI0 fun i j => .bl (f i j)
theorem l_lt : LiftR K (rI0 fun i j => .bl (decide (i < j))) (rdCmp0 fun i j => decide (i < j)) := l_i0 fun _ _ _ => .bl _
theorem l_le : LiftR K (rI0 fun i j => .bl (decide (i ≤ j))) (rdCmp0 fun i j => decide (i ≤ j)) := l_i0 fun _ _ _ => .bl _
theorem l_gt : LiftR K (rI0 fun i j => .bl (decide (j < i))) (rdCmp0 fun i j => decide (j < i)) := l_i0 fun _ _ _ => .bl _
theorem l_ge : LiftR K (rI0 fun i j => .bl (decide (j ≤ i))) (rdCmp0 fun i j => decide (j ≤ i)) := l_i0 fun _ _ _ => .bl _
mutual
/-- what a datum reads as -/
inductive Py (M : Mem) : D → PyData → Prop
  | non : Py M .non .none
  | bl (b : Bool) : Py M (.bl b) (.bool b)
  | int (i : Int) : Py M (.int i) (.int i)
  | str (x : Str) : Py M (.str x) (.str x)
  | tup {ds : List D} {ps : List PyData} : Pys M ds ps → Py M (.tup ds) (.tuple ps)
  | lst {a : Addr} {ds : List D} {ps : List PyData} : M a = some (.lst ds) → Pys M ds ps → Py M (.ref a) (.list ps)
  | rol {ds : List D} {ps : List PyData} : Pys M ds ps → Py M (.rol ds) (.list ps)
inductive Pys (M : Mem) : List D → List PyData → Prop
  | nil : Pys M [] []
  | cons {d : D} {p : PyData} {ds : List D} {ps : List PyData} : Py M d p → Pys M ds ps → Pys M (d :: ds) (p :: ps)
end
mutual
theorem Py.dp {M : Mem} {H : Hp} (s : Sim K H M) : ∀ {p : PyData} {d : D} {v : V}, Py M d p → Rep K H v d → Dp K H v p
  | .none, _, _, h, r => by cases h; cases r; exact .non
  | .bool b, _, _, h, r => by cases h; cases r; exact .bl b
  | .int i, _, _, h, r => by cases h; cases r; exact .int i
  | .str x, _, _, h, r => by cases h; cases r; exact .str x
  | .tuple ps, _, _, h, r => by
    cases h with
    | tup hs => cases r with | tup g rs => exact .tup g (Pys.dp s hs rs)
  | .list ps, _, _, h, r => by
    cases h with
    | lst hm hs => cases r; obtain ⟨vs, g, rs⟩ := s _ _ hm; exact .lst (SqL.of g) (Pys.dp s hs rs)
    | rol hs => cases r with | rol g rs => exact .lst g.sq (Pys.dp s hs rs)
  | .dict _, _, _, h, _ => by cases h
theorem Pys.dp {M : Mem} {H : Hp} (s : Sim K H M) : ∀ {ps : List PyData} {ds : List D} {vs : List V}, Pys M ds ps → Reps K H vs ds → DpAll K H vs ps
  | [], _, _, h, r => by cases h; cases r; exact .nil
  | p :: ps, _, _, h, r => by
    cases h with
    | cons h1 h2 => cases r with | cons r1 r2 => exact .cons (Py.dp s h1 r1) (Pys.dp s h2 r2)
end
mutual
theorem Py.plain {M : Mem} : ∀ {p : PyData} {d : D}, Py M d p → p.plain = true
  | .none, _, _ => rfl
  | .bool _, _, _ => rfl
  | .int _, _, _ => rfl
  | .str _, _, _ => rfl
  | .tuple ps, _, h => by cases h with | tup hs => exact Pys.plain hs
  | .list ps, _, h => by
    cases h with
    | lst hm hs => exact Pys.plain hs
    | rol hs => exact Pys.plain hs
  | .dict _, _, h => by cases h
theorem Pys.plain {M : Mem} : ∀ {ps : List PyData} {ds : List D}, Pys M ds ps → PyData.plainAll ps = true
  | [], _, _ => rfl
  | p :: ps, _, h => by
    cases h with
    | cons h1 h2 => unfold PyData.plainAll; rw [Py.plain h1, Pys.plain h2]; rfl
end
def rEqP (K : PySem.W.Frag) (neg : Bool) : R2 := fun x y H Q => ∃ d e, Dp K H x d ∧ Dp K H y e ∧ d.plain = true ∧ e.plain = true ∧ min d.depth e.depth ≤ 150 ∧ Q (.bl (if neg then !PyData.eqv d e else PyData.eqv d e)) H
theorem op_eqP (hu : X.A.units + 160 < cLine) : OpR X (compareOp .Eq) (rEqP X.K false) := by
  intro pins s σ H x y v u Q I rx ry h
  obtain ⟨d, e, hd, he, sd, se, hz, q⟩ := h
  obtain ⟨as, r1⟩ := Dp.reads I d x v hd rx
  obtain ⟨bs, r2⟩ := Dp.reads I e y u he ry
  exact SeqAt.eq_plain r1 r2 sd se (by omega) ⟨.bl _, H, I, rfl, q⟩
theorem op_neP (hu : X.A.units + 160 < cLine) : OpR X (compareOp .NotEq) (rEqP X.K true) := by
  intro pins s σ H x y v u Q I rx ry h
  obtain ⟨d, e, hd, he, sd, se, hz, q⟩ := h
  obtain ⟨as, r1⟩ := Dp.reads I d x v hd rx
  obtain ⟨bs, r2⟩ := Dp.reads I e y u he ry
  exact SeqAt.ne_plain r1 r2 sd se (by omega) ⟨.bl _, H, I, rfl, q⟩
theorem hu160 {A : Around} {k : Nat} (hr : Room k A) : A.units + 160 < cLine := by have := hr.un; omega
/-- == of data: computes where both are flat -/
def rdEq0 (neg : Bool) : RD2 := fun x y M Q => match x, y with
  | .int i, .int j => Q (.bl (if neg then !(i == j) else i == j)) M
  | .bl i, .bl j => Q (.bl (if neg then !(i == j) else i == j)) M
  | .str i, .str j => Q (.bl (if neg then !(i == j) else i == j)) M
  | .non, .non => Q (.bl (if neg then false else true)) M
  | _, _ => ∃ p q, Py M x p ∧ Py M y q ∧ min p.depth q.depth ≤ 150 ∧ Q (.bl (if neg then !PyData.eqv p q else PyData.eqv p q)) M
theorem l_eq (neg : Bool) : LiftR K (rEqP K neg) (rdEq0 neg) := by
  intro x y H M dx dy Q0 Q rx ry s h hq
  have key : (∃ p q, Py M dx p ∧ Py M dy q ∧ min p.depth q.depth ≤ 150 ∧ Q0 (.bl (if neg then !PyData.eqv p q else PyData.eqv p q)) M) → rEqP K neg x y H Q := fun ⟨p, q, h1, h2, hz, h3⟩ =>
    ⟨p, q, h1.dp s rx, h2.dp s ry, h1.plain, h2.plain, hz, hq _ _ h3 _ H (.bl _) s (Tr.refl H M)⟩
  unfold rdEq0 at h
  split at h
  · exact key ⟨_, _, .int _, .int _, by simp [PyData.depth], by simp only [PyData.eqv]; exact h⟩
  · exact key ⟨_, _, .bl _, .bl _, by simp [PyData.depth], by simp only [PyData.eqv]; exact h⟩
  · exact key ⟨_, _, .str _, .str _, by simp [PyData.depth], by simp only [PyData.eqv]; exact h⟩
  · exact key ⟨_, _, .non, .non, by decide, by simp only [PyData.eqv]; exact h⟩
  · exact key h
/-! ### is None -/
def isNon : D → Bool
  | .non => true
  | _ => false
def rdIs0 : RD2 := fun x y M Q => match y with
  | .non => Q (.bl (isNon x)) M
  | _ => False
def rdIsNot0 : RD2 := fun x y M Q => match y with
  | .non => Q (.bl (!isNon x)) M
  | _ => False
theorem isNon_eq {H : Hp} {v : V} {d : D} (r : Rep K H v d) : decide (v = .non) = isNon d := by
  cases r <;> first | rfl | (exact decide_eq_false (fun e => by cases e))
theorem l_is : LiftR K (fun x y H Q => y = .non ∧ Q (.bl (decide (x = .non))) H) rdIs0 := by
  intro x y H M dx dy Q0 Q rx ry s h hq
  cases dy <;> try exact h.elim
  cases ry
  exact ⟨rfl, by rw [isNon_eq rx]; exact hq _ _ h _ H (.bl _) s (Tr.refl H M)⟩
theorem l_isnot : LiftR K (fun x y H Q => y = .non ∧ Q (.bl (!decide (x = .non))) H) rdIsNot0 := by
  intro x y H M dx dy Q0 Q rx ry s h hq
  cases dy <;> try exact h.elim
  cases ry
  exact ⟨rfl, by rw [isNon_eq rx]; exact hq _ _ h _ H (.bl _) s (Tr.refl H M)⟩
/-! ### in -/
def flD : D → Option V
  | .non => some .non
  | .bl b => some (.bl b)
  | .int i => some (.int i)
  | .str x => some (.str x)
  | _ => none
theorem flD_rep {H : Hp} {v w : V} {d : D} (r : Rep K H v d) (h : flD d = some w) : v = w ∧ flatV v = true := by
  cases r <;> first | (cases h; exact ⟨rfl, rfl⟩) | cases h
def flDs : List D → Option (List V)
  | [] => some []
  | d :: ds => match flD d, flDs ds with
    | some v, some vs => some (v :: vs)
    | _, _ => none
theorem flDs_reps {H : Hp} : ∀ {ds : List D} {vs ws : List V}, Reps K H vs ds → flDs ds = some ws → vs = ws ∧ vs.all flatV = true
  | [], _, _, r, h => by cases r; cases h; exact ⟨rfl, rfl⟩
  | d :: ds, _, _, .cons r rs, h => by
    unfold flDs at h
    split at h
    · rename_i v vs e1 e2
      cases h
      obtain ⟨a1, a2⟩ := flD_rep r e1
      obtain ⟨b1, b2⟩ := flDs_reps rs e2
      subst a1 b1
      exact ⟨rfl, by simp [List.all_cons, a2]; simpa using b2⟩
    · cases h
def seqD (M : Mem) : D → Option (List D)
  | .tup ds => some ds
  | .rol ds => some ds
  | .ref a => match M a with
    | some (.lst ds) => some ds
    | _ => none
  | _ => none
theorem seqD_ok {H : Hp} {M : Mem} {v : V} {d : D} {ds : List D} (s : Sim K H M) (r : Rep K H v d) (h : seqD M d = some ds) : ∃ a vs, v = .ref a ∧ (SqL K H a vs ∨ SqT K H a vs) ∧ Reps K H vs ds := by
  cases d with
  | tup es => cases h; cases r with | tup g rs => exact ⟨_, _, rfl, .inr g, rs⟩
  | rol es => cases h; cases r with | rol g rs => exact ⟨_, _, rfl, .inl g.sq, rs⟩
  | ref a =>
    cases r
    unfold seqD at h
    dsimp only at h
    split at h
    · rename_i es e; cases h; obtain ⟨vs, g, rs⟩ := s _ _ e; exact ⟨_, _, rfl, .inl (SqL.of g), rs⟩
    · cases h
  | _ => cases h
def rdIn0 (neg : Bool) : RD2 := fun x y M Q => match x, y with
  | .str a, .str b => Q (.bl (if neg then (Builtin.Str.occurrences b a 0 b.length 1).isEmpty else !(Builtin.Str.occurrences b a 0 b.length 1).isEmpty)) M
  | x, y => match flD x, seqD M y with
    | some v, some ds => match flDs ds with
      | some ws => Q (.bl (if neg then !inV v ws else inV v ws)) M
      | none => False
    | _, _ => False
def rInAll (K : PySem.W.Frag) : R2 := fun x y H Q => (∃ i j, x = .str i ∧ y = .str j ∧ Q (.bl (!(Builtin.Str.occurrences j i 0 j.length 1).isEmpty)) H) ∨ rIn K false x y H Q
def rNotInAll (K : PySem.W.Frag) : R2 := fun x y H Q => (∃ i j, x = .str i ∧ y = .str j ∧ Q (.bl (!(!(Builtin.Str.occurrences j i 0 j.length 1).isEmpty))) H) ∨ rIn K true x y H Q
theorem op_inAll : OpR X (compareOp .In) (rInAll X.K) := op_in_str.or op_in_seq
theorem op_notInAll : OpR X (compareOp .NotIn) (rNotInAll X.K) := op_notIn_str.or op_notIn_seq
theorem in_two {H : Hp} {M : Mem} {neg : Bool} {x y : V} {dx dy : D} {Q0 : D → Mem → Prop} {Q : VK} (rx : Rep K H x dx) (ry : Rep K H y dy) (s : Sim K H M) (h : rdIn0 neg dx dy M Q0) (hq : qUp K H M Q0 Q) :
    (∃ i j, x = .str i ∧ y = .str j ∧ Q (.bl (if neg then (Builtin.Str.occurrences j i 0 j.length 1).isEmpty else !(Builtin.Str.occurrences j i 0 j.length 1).isEmpty)) H) ∨ rIn K neg x y H Q := by
  unfold rdIn0 at h
  split at h
  · cases rx; cases ry; exact .inl ⟨_, _, rfl, rfl, hq _ _ h _ H (.bl _) s (Tr.refl H M)⟩
  · split at h
    · rename_i v ds e1 e2
      split at h
      · rename_i ws e3
        obtain ⟨a, vs, rfl, g, rs⟩ := seqD_ok s ry e2
        obtain ⟨a1, a2⟩ := flD_rep rx e1
        obtain ⟨b1, b2⟩ := flDs_reps rs e3
        subst a1 b1
        exact .inr ⟨a, vs, rfl, g, a2, b2, hq _ _ h _ H (.bl _) s (Tr.refl H M)⟩
      · exact h.elim
    · exact h.elim
theorem l_in : LiftR K (rInAll K) (rdIn0 false) := fun x y H M dx dy Q0 Q rx ry s h hq => in_two rx ry s h hq
theorem l_notin : LiftR K (rNotInAll K) (rdIn0 true) := fun x y H M dx dy Q0 Q rx ry s h hq => by
  rcases in_two rx ry s h hq with ⟨i, j, e1, e2, q⟩ | q
  · refine .inl ⟨i, j, e1, e2, ?_⟩
    rw [Bool.not_not]
    exact q
  · exact .inr q
end

/-! ### closed operators, and what a reading does at each -/
@[irreducible] def cnd (k : Bool) (A B : Prop) : Prop := if k = true then A else B
theorem cnd_true {A B : Prop} : cnd true A B = A := by unfold cnd; exact if_pos rfl
theorem cnd_false {A B : Prop} : cnd false A B = B := by unfold cnd; exact if_neg Bool.false_ne_true
theorem cndT {A B : Prop} (h : A) : cnd true A B := by rw [cnd_true]; exact h
theorem cndF {A B : Prop} (h : B) : cnd false A B := by rw [cnd_false]; exact h
theorem cndI {k : Bool} {A B : Prop} (h1 : k = true → A) (h2 : k = false → B) : cnd k A B := by
  cases k
  · exact cndF (h2 rfl)
  · exact cndT (h1 rfl)
theorem cndD {c A B : Prop} [Decidable c] (h1 : c → A) (h2 : ¬ c → B) : cnd (decide c) A B := cndI (fun e => h1 (of_decide_eq_true e)) fun e => h2 (of_decide_eq_false e)
theorem cndN {c A B : Prop} [Decidable c] (h1 : ¬ c → A) (h2 : c → B) : cnd (!decide c) A B := cndI (fun e => h1 (by simpa using e)) fun e => h2 (by simpa using e)
theorem cndE {a b : Int} {A B : Prop} (h1 : a = b → A) (h2 : a ≠ b → B) : cnd (a == b) A B := cndI (fun e => h1 (by simpa using e)) fun e => h2 (by simpa using e)
theorem cndNE {a b : Int} {A B : Prop} (h1 : a ≠ b → A) (h2 : a = b → B) : cnd (!(a == b)) A B := cndI (fun e => h1 (by simpa using e)) fun e => h2 (by simpa using e)
@[irreducible] def rdAdd : RD2 := rdAdd0
@[irreducible] def rdSub : RD2 := rdSub0
@[irreducible] def rdFdiv : RD2 := rdFdiv0
@[irreducible] def rdMod : RD2 := rdMod0
@[irreducible] def rdPow : RD2 := rdPow0
@[irreducible] def rdMul : RD2 := rdMul0
@[irreducible] def rdIs : RD2 := rdIs0
@[irreducible] def rdIsNot : RD2 := rdIsNot0
@[irreducible] def rdIn (neg : Bool) : RD2 := rdIn0 neg
@[irreducible] def rdEq (neg : Bool) : RD2 := rdEq0 neg
inductive CmpK where
  | lt | le | gt | ge
def CmpK.f : CmpK → Int → Int → Bool
  | .lt, i, j => decide (i < j)
  | .le, i, j => decide (i ≤ j)
  | .gt, i, j => decide (j < i)
  | .ge, i, j => decide (j ≤ i)
@[irreducible] def rdCmp (c : CmpK) : RD2 := rdCmp0 c.f
section
variable {M : Mem} {Q : D → Mem → Prop} {i j : Int} {x y : Str} {xs ys : List D} {a b p : Addr} {d : D}
theorem add_i (h : Q (.int (i + j)) M) : rdAdd (.int i) (.int j) M Q := by unfold rdAdd; exact h
theorem add_s (hz : x.length + y.length ≤ sizeLine) (h : Q (.str (x ++ y)) M) : rdAdd (.str x) (.str y) M Q := by unfold rdAdd; exact ⟨hz, h⟩
theorem add_t (hz : xs.length + ys.length ≤ sizeLine) (h : Q (.tup (xs ++ ys)) M) : rdAdd (.tup xs) (.tup ys) M Q := by unfold rdAdd; exact ⟨hz, h⟩
theorem add_l (h1 : M a = some (.lst xs)) (h2 : M b = some (.lst ys)) (hz : xs.length + ys.length ≤ sizeLine) (h : ∀ p, M p = none → Q (.ref p) (mupd M p (.lst (xs ++ ys)))) : rdAdd (.ref a) (.ref b) M Q := by
  unfold rdAdd
  show (match M a, M b with | some (.lst xs), some (.lst ys) => _ | _, _ => False)
  rw [h1, h2]
  exact ⟨hz, h⟩
theorem sub_i (h : Q (.int (i - j)) M) : rdSub (.int i) (.int j) M Q := by unfold rdSub; exact h
theorem fdiv_i (hj : DivOk j) (h : Q (.int (i / j)) M) : rdFdiv (.int i) (.int j) M Q := by unfold rdFdiv; exact ⟨hj, h⟩
theorem mod_i (hj : 0 < j) (h : Q (.int (i % j)) M) : rdMod (.int i) (.int j) M Q := by unfold rdMod; exact ⟨hj, h⟩
theorem pow_i (hj : CPow i j) (h : Q (.int (i ^ j.toNat)) M) : rdPow (.int i) (.int j) M Q := by unfold rdPow; exact ⟨hj, h⟩
theorem mul_i (h1 : Big i) (h2 : Big j) (h : Q (.int (i * j)) M) : rdMul (.int i) (.int j) M Q := by unfold rdMul; exact ⟨h1, h2, h⟩
theorem mul_l (h1 : M a = some (.lst xs)) (h2 : -(2 ^ 63) ≤ j) (h3 : j < 2 ^ 63) (hz : xs.length * j.toNat ≤ sizeLine) (h : ∀ p, M p = none → Q (.ref p) (mupd M p (.lst (List.replicate j.toNat xs).flatten))) : rdMul (.ref a) (.int j) M Q := by
  unfold rdMul
  show (match M a with | some (.lst xs) => _ | _ => False)
  rw [h1]
  exact ⟨h2, h3, hz, h⟩
theorem mul_t (h1 : xs ≠ []) (h2 : -1000 ≤ j) (h3 : j ≤ 1000) (hz : xs.length ≤ 1000) (h : Q (.tup (List.replicate j.toNat xs).flatten) M) : rdMul (.tup xs) (.int j) M Q := by unfold rdMul; exact ⟨h1, h2, h3, hz, h⟩
theorem lt_i (h : Q (.bl (decide (i < j))) M) : rdCmp .lt (.int i) (.int j) M Q := by unfold rdCmp; exact h
theorem le_i (h : Q (.bl (decide (i ≤ j))) M) : rdCmp .le (.int i) (.int j) M Q := by unfold rdCmp; exact h
theorem gt_i (h : Q (.bl (decide (j < i))) M) : rdCmp .gt (.int i) (.int j) M Q := by unfold rdCmp; exact h
theorem ge_i (h : Q (.bl (decide (j ≤ i))) M) : rdCmp .ge (.int i) (.int j) M Q := by unfold rdCmp; exact h
theorem eq_i (h : Q (.bl (i == j)) M) : rdEq false (.int i) (.int j) M Q := by unfold rdEq; exact h
theorem ne_i (h : Q (.bl (!(i == j))) M) : rdEq true (.int i) (.int j) M Q := by unfold rdEq; exact h
theorem eq_s (h : Q (.bl (x == y)) M) : rdEq false (.str x) (.str y) M Q := by unfold rdEq; exact h
theorem ne_s (h : Q (.bl (!(x == y))) M) : rdEq true (.str x) (.str y) M Q := by unfold rdEq; exact h
theorem eq_b {k l : Bool} (h : Q (.bl (k == l)) M) : rdEq false (.bl k) (.bl l) M Q := by unfold rdEq; exact h
theorem ne_b {k l : Bool} (h : Q (.bl (!(k == l))) M) : rdEq true (.bl k) (.bl l) M Q := by unfold rdEq; exact h
theorem eq_p {c : D} {neg : Bool} (p q : PyData) (h1 : Py M d p) (h2 : Py M c q) (hz : min p.depth q.depth ≤ 150) (h : Q (.bl (if neg then !PyData.eqv p q else PyData.eqv p q)) M) : rdEq neg d c M Q := by
  unfold rdEq rdEq0
  split
  · cases h1; cases h2; simp only [PyData.eqv] at h; exact h
  · cases h1; cases h2; simp only [PyData.eqv] at h; exact h
  · cases h1; cases h2; simp only [PyData.eqv] at h; exact h
  · cases h1; cases h2; simp only [PyData.eqv] at h; exact h
  · exact ⟨p, q, h1, h2, hz, h⟩
theorem is_n (h : Q (.bl (isNon d)) M) : rdIs d .non M Q := by unfold rdIs; exact h
theorem isnot_n (h : Q (.bl (!isNon d)) M) : rdIsNot d .non M Q := by unfold rdIsNot; exact h
theorem in_s (h : Q (.bl (!(Builtin.Str.occurrences y x 0 y.length 1).isEmpty)) M) : rdIn false (.str x) (.str y) M Q := by unfold rdIn; exact h
theorem notin_s (h : Q (.bl (Builtin.Str.occurrences y x 0 y.length 1).isEmpty) M) : rdIn true (.str x) (.str y) M Q := by unfold rdIn; exact h
theorem in_q {neg : Bool} {v : V} {ws : List V} {c : D} (hc : ∀ z, c ≠ .str z) (h1 : flD d = some v) (h2 : seqD M c = some xs) (h3 : flDs xs = some ws) (h : Q (.bl (if neg then !inV v ws else inV v ws)) M) : rdIn neg d c M Q := by
  unfold rdIn rdIn0
  split
  · exact absurd rfl (hc _)
  · rw [h1, h2]; dsimp only; rw [h3]; exact h
end
theorem l_add' {K : PySem.W.Frag} : LiftR K (rAddAll K) rdAdd := by unfold rdAdd; exact l_add
theorem l_sub' {K : PySem.W.Frag} : LiftR K (rI0 fun i j => .int (i - j)) rdSub := by unfold rdSub; exact l_sub
theorem l_fdiv' {K : PySem.W.Frag} : LiftR K (rI CDivW fun i j => .int (i / j)) rdFdiv := by unfold rdFdiv; exact l_fdiv
theorem l_mod' {K : PySem.W.Frag} : LiftR K (rI (fun _ j => 0 < j) fun i j => .int (i % j)) rdMod := by unfold rdMod; exact l_mod
theorem l_pow' {K : PySem.W.Frag} : LiftR K (rI CPow fun i j => .int (i ^ j.toNat)) rdPow := by unfold rdPow; exact l_pow
theorem l_mul' {K : PySem.W.Frag} : LiftR K (rMulAll K) rdMul := by unfold rdMul; exact l_mul
theorem l_is' {K : PySem.W.Frag} : LiftR K (fun x y H Q => y = .non ∧ Q (.bl (decide (x = .non))) H) rdIs := by unfold rdIs; exact l_is
theorem l_isnot' {K : PySem.W.Frag} : LiftR K (fun x y H Q => y = .non ∧ Q (.bl (!decide (x = .non))) H) rdIsNot := by unfold rdIsNot; exact l_isnot
theorem l_in' {K : PySem.W.Frag} : LiftR K (rInAll K) (rdIn false) := by unfold rdIn; exact l_in
theorem l_notin' {K : PySem.W.Frag} : LiftR K (rNotInAll K) (rdIn true) := by unfold rdIn; exact l_notin
theorem l_eq' {K : PySem.W.Frag} (neg : Bool) : LiftR K (rEqP K neg) (rdEq neg) := by unfold rdEq; exact l_eq neg
/-! ### the operators by their names -/
section
variable {X : Cx} {W : WX} {pos : Pos} {a b : Expr} {ta tb : TDE}
theorem d_add (ha : DE X W a ta) (hb : DE X W b tb) : DE X W (.BinOp a .Add b pos) (tdOp rdAdd ta tb) := de_op op_addAll l_add' ha hb
theorem d_sub (ha : DE X W a ta) (hb : DE X W b tb) : DE X W (.BinOp a .Sub b pos) (tdOp rdSub ta tb) := de_op op_sub l_sub' ha hb
theorem d_mul (ha : DE X W a ta) (hb : DE X W b tb) : DE X W (.BinOp a .Mult b pos) (tdOp rdMul ta tb) := de_op op_mulAll l_mul' ha hb
theorem d_fdiv (ha : DE X W a ta) (hb : DE X W b tb) : DE X W (.BinOp a .FloorDiv b pos) (tdOp rdFdiv ta tb) := de_op op_fdivW l_fdiv' ha hb
theorem d_mod (ha : DE X W a ta) (hb : DE X W b tb) : DE X W (.BinOp a .Mod b pos) (tdOp rdMod ta tb) := de_op op_mod l_mod' ha hb
theorem d_pow (ha : DE X W a ta) (hb : DE X W b tb) : DE X W (.BinOp a .Pow b pos) (tdOp rdPow ta tb) := de_op op_pow l_pow' ha hb
/-- a comparison's operator by data -/
structure CmpD (X : Cx) (op : CmpOp) (rd : RD2) : Prop where
  ex : ∃ r, OpR X (compareOp op) r ∧ LiftR X.K r rd
theorem c_lt : CmpD X .Lt (rdCmp .lt) := ⟨_, op_lt, by unfold rdCmp; exact l_lt⟩
theorem c_le : CmpD X .LtE (rdCmp .le) := ⟨_, op_le, by unfold rdCmp; exact l_le⟩
theorem c_gt : CmpD X .Gt (rdCmp .gt) := ⟨_, op_gt, by unfold rdCmp; exact l_gt⟩
theorem c_ge : CmpD X .GtE (rdCmp .ge) := ⟨_, op_ge, by unfold rdCmp; exact l_ge⟩
theorem c_eq {k : Nat} (hr : Room k X.A) : CmpD X .Eq (rdEq false) := ⟨_, op_eqP (hu160 hr), l_eq' false⟩
theorem c_ne {k : Nat} (hr : Room k X.A) : CmpD X .NotEq (rdEq true) := ⟨_, op_neP (hu160 hr), l_eq' true⟩
theorem c_is : CmpD X .Is rdIs := ⟨_, op_isN, l_is'⟩
theorem c_isnot : CmpD X .IsNot rdIsNot := ⟨_, op_notN, l_isnot'⟩
theorem c_in : CmpD X .In (rdIn false) := ⟨_, op_inAll, l_in'⟩
theorem c_notin : CmpD X .NotIn (rdIn true) := ⟨_, op_notInAll, l_notin'⟩
theorem d_cmp {op : CmpOp} {rd : RD2} (o : CmpD X op rd) (ha : DE X W a ta) (hb : DE X W b tb) (hm : behindInMarks op b = false := by first | exact nomark _ | rfl) : DE X W (.Compare a [op] [b] pos) (tdOp rd ta tb) := by
  obtain ⟨r, h1, h2⟩ := o.ex
  exact de_cmp h1 h2 ha hb hm
theorem t_cmp {op : CmpOp} {rd : RD2} (o : CmpD X op rd) (ha : DE X W a ta) (hb : DE X W b tb) (hm : behindInMarks op b = false := by first | exact nomark _ | rfl) : DT X W (.Compare a [op] [b] pos) (tdTest (tdOp rd ta tb)) := by
  obtain ⟨r, h1, h2⟩ := o.ex
  exact dt_cmp h1 h2 ha hb hm
end
end TD

namespace TD
open PySem L2

/-! ### tests: and, or, not -/
section
variable {X : Cx} {W : WX} {pos : Pos} {a b c : Expr} {ta tb : TDE} {tA tB : TDT} {rest : List Expr}
def DW (X : Cx) (W : WX) (e : Expr) (td : TDT) : Prop := PW X e (upT X.K W td)
theorem DW.t (h : DW X W a tA) : DT X W a tA := PW.pt h
theorem w_and1 (h : DT X W a tA) : DW X W (.BoolOp .And [a] pos) tA := pw_and1 h
theorem w_or1 (h : DT X W a tA) : DW X W (.BoolOp .Or [a] pos) tA := pw_or1 h
def tdAnd (t u : TDT) : TDT := fun ρ M Q E => t ρ M (fun k M1 => cnd k (u ρ M1 Q E) (Q false M1)) E
def tdOr (t u : TDT) : TDT := fun ρ M Q E => t ρ M (fun k M1 => cnd k (Q true M1) (u ρ M1 Q E)) E
def tdNot (t : TDT) : TDT := fun ρ M Q E => t ρ M (fun k M1 => Q (!k) M1) E
theorem w_and (h : DT X W a tA) (g : DW X W (.BoolOp .And (b :: rest) pos) tB) : DW X W (.BoolOp .And (a :: b :: rest) pos) (tdAnd tA tB) := PW.imp (pw_and h g) fun σ H Q ⟨ρ, M, Q0, E0, dv, sm, q, hq, he⟩ => by
  refine ⟨ρ, M, _, E0, dv, sm, q, fun k M1 q1 H1 s1 t1 => ?_, he⟩
  cases k with
  | true =>
    rw [cnd_true] at q1; rw [if_pos rfl]
    exact ⟨ρ, M1, Q0, E0, dv.mono t1, s1, q1, fun k2 M2 q2 H2 s2 t2 => hq k2 M2 q2 H2 s2 (t1.trans t2), he.mono t1⟩
  | false => rw [cnd_false] at q1; rw [if_neg Bool.false_ne_true]; exact hq _ _ q1 H1 s1 t1
theorem w_or (h : DT X W a tA) (g : DW X W (.BoolOp .Or (b :: rest) pos) tB) : DW X W (.BoolOp .Or (a :: b :: rest) pos) (tdOr tA tB) := PW.imp (pw_or h g) fun σ H Q ⟨ρ, M, Q0, E0, dv, sm, q, hq, he⟩ => by
  refine ⟨ρ, M, _, E0, dv, sm, q, fun k M1 q1 H1 s1 t1 => ?_, he⟩
  cases k with
  | false =>
    rw [cnd_false] at q1; rw [if_neg Bool.false_ne_true]
    exact ⟨ρ, M1, Q0, E0, dv.mono t1, s1, q1, fun k2 M2 q2 H2 s2 t2 => hq k2 M2 q2 H2 s2 (t1.trans t2), he.mono t1⟩
  | true => rw [cnd_true] at q1; rw [if_pos rfl]; exact hq _ _ q1 H1 s1 t1
theorem t_not (h : DT X W a tA) : DT X W (.UnaryOp .Not a pos) (tdNot tA) := PT.imp (pt_not h) fun σ H Q ⟨ρ, M, Q0, E0, dv, sm, q, hq, he⟩ =>
  ⟨ρ, M, _, E0, dv, sm, q, fun k M1 q1 H1 s1 t1 => hq _ _ q1 H1 s1 t1, he⟩
/-! ### .. as values; the last operand may be anything -/
def tdAndV (ta tb : TDE) : TDE := fun ρ M Q E => ta ρ M (fun x M1 => match x with | .bl k => cnd k (tb ρ M1 Q E) (Q (.bl false) M1) | _ => False) E
def tdOrV (ta tb : TDE) : TDE := fun ρ M Q E => ta ρ M (fun x M1 => match x with | .bl k => cnd k (Q (.bl true) M1) (tb ρ M1 Q E) | _ => False) E
def tdNotV (ta : TDE) : TDE := fun ρ M Q E => ta ρ M (fun x M1 => match x with | .bl k => Q (.bl (!k)) M1 | _ => False) E
theorem d_one {op} (h : DE X W a ta) : DE X W (.BoolOp op [a] pos) ta := pe_one h
theorem d_and (h : DE X W a ta) (g : DE X W (.BoolOp .And (b :: rest) pos) tb) : DE X W (.BoolOp .And (a :: b :: rest) pos) (tdAndV ta tb) := PE.imp (pe_and h g) fun σ H Q ⟨ρ, M, Q0, E0, dv, sm, q, hq, he⟩ => by
  refine ⟨ρ, M, _, E0, dv, sm, q, fun d M1 q1 v H1 r1 s1 t1 => ?_, he⟩
  cases d <;> try exact q1.elim
  rename_i k
  cases r1
  refine ⟨k, rfl, ?_⟩
  cases k with
  | true => dsimp only at q1; rw [cnd_true] at q1; exact ⟨ρ, M1, Q0, E0, dv.mono t1, s1, q1, hq.mono t1, he.mono t1⟩
  | false => dsimp only at q1; rw [cnd_false] at q1; exact hq _ _ q1 _ H1 (.bl _) s1 t1
theorem d_or (h : DE X W a ta) (g : DE X W (.BoolOp .Or (b :: rest) pos) tb) : DE X W (.BoolOp .Or (a :: b :: rest) pos) (tdOrV ta tb) := PE.imp (pe_or h g) fun σ H Q ⟨ρ, M, Q0, E0, dv, sm, q, hq, he⟩ => by
  refine ⟨ρ, M, _, E0, dv, sm, q, fun d M1 q1 v H1 r1 s1 t1 => ?_, he⟩
  cases d <;> try exact q1.elim
  rename_i k
  cases r1
  refine ⟨k, rfl, ?_⟩
  cases k with
  | false => dsimp only at q1; rw [cnd_false] at q1; exact ⟨ρ, M1, Q0, E0, dv.mono t1, s1, q1, hq.mono t1, he.mono t1⟩
  | true => dsimp only at q1; rw [cnd_true] at q1; exact hq _ _ q1 _ H1 (.bl _) s1 t1
theorem d_not (h : DE X W a ta) : DE X W (.UnaryOp .Not a pos) (tdNotV ta) := PE.imp (pe_not h) fun σ H Q ⟨ρ, M, Q0, E0, dv, sm, q, hq, he⟩ => by
  refine ⟨ρ, M, _, E0, dv, sm, q, fun d M1 q1 v H1 r1 s1 t1 => ?_, he⟩
  cases d <;> try exact q1.elim
  rename_i k
  cases r1
  exact ⟨k, rfl, hq _ _ q1 _ H1 (.bl _) s1 t1⟩
def tdNeg (ta : TDE) : TDE := fun ρ M Q E => ta ρ M (fun x M1 => match x with | .int i => Q (.int (-i)) M1 | _ => False) E
theorem d_neg (h : DE X W a ta) : DE X W (.UnaryOp .USub a pos) (tdNeg ta) := PE.imp (pe_un un_neg h) fun σ H Q ⟨ρ, M, Q0, E0, dv, sm, q, hq, he⟩ => by
  refine ⟨ρ, M, _, E0, dv, sm, q, fun d M1 q1 v H1 r1 s1 t1 => ?_, he⟩
  cases d <;> try exact q1.elim
  cases r1
  exact ⟨_, rfl, hq _ _ q1 _ H1 (.int _) s1 t1⟩
def tdIf (t : TDT) (ta tb : TDE) : TDE := fun ρ M Q E => t ρ M (fun k M1 => cnd k (ta ρ M1 Q E) (tb ρ M1 Q E)) E
theorem d_if (h : DT X W c tA) (ha : DE X W a ta) (hb : DE X W b tb) : DE X W (.IfExp c a b pos) (tdIf tA ta tb) := PE.imp (pe_ifExp h ha hb) fun σ H Q ⟨ρ, M, Q0, E0, dv, sm, q, hq, he⟩ => by
  refine ⟨ρ, M, _, E0, dv, sm, q, fun k M1 q1 H1 s1 t1 => ?_, he⟩
  cases k with
  | true => rw [cnd_true] at q1; rw [if_pos rfl]; exact ⟨ρ, M1, Q0, E0, dv.mono t1, s1, q1, hq.mono t1, he.mono t1⟩
  | false => rw [cnd_false] at q1; rw [if_neg Bool.false_ne_true]; exact ⟨ρ, M1, Q0, E0, dv.mono t1, s1, q1, hq.mono t1, he.mono t1⟩
/-- two comparisons in a row -/
def tdChain (r r' : RD2) (ta tb tc : TDE) : TDE := fun ρ M Q E => ta ρ M (fun x M1 => tb ρ M1 (fun y M2 => r x y M2 fun z M3 => match z with
  | .bl k => cnd k (tc ρ M3 (fun u M4 => r' y u M4 Q) E) (Q (.bl false) M3)
  | _ => False) E) E
variable {tc : TDE} {op op' : CmpOp} {r r' : RD2}
theorem up_chain {K : PySem.W.Frag} {q q' : R2} (l : LiftR K q r) (l' : LiftR K q' r') {σ : St} {H : Hp} {Q : VK} (h : upE K W (tdChain r r' ta tb tc) σ H Q) : tChain q q' (upE K W ta) (upE K W tb) (upE K W tc) σ H Q := by
  obtain ⟨ρ, M, Q0, E0, dv, sm, q, hq, he⟩ := h
  refine ⟨ρ, M, _, E0, dv, sm, q, fun d1 M1 q1 x H1 r1 s1 t1 => ?_, he⟩
  refine ⟨ρ, M1, _, E0, dv.mono t1, s1, q1, fun d2 M2 q2 y H2 r2 s2 t2 => ?_, he.mono t1⟩
  refine l x y H2 M2 d1 d2 _ _ (r1.mono t2) r2 s2 q2 fun d3 M3 q3 z H3 r3 s3 t3 => ?_
  cases d3 <;> try exact q3.elim
  rename_i k
  cases r3
  refine ⟨k, rfl, ?_⟩
  have t13 := (t1.trans t2).trans t3
  cases k with
  | false => dsimp only at q3; rw [cnd_false] at q3; exact hq _ _ q3 _ H3 (.bl _) s3 t13
  | true =>
    dsimp only at q3
    rw [cnd_true] at q3
    refine ⟨ρ, M3, _, E0, dv.mono t13, s3, q3, fun d4 M4 q4 u H4 r4 s4 t4 => ?_, he.mono t13⟩
    exact l' y u H4 M4 d2 d4 _ _ (r2.mono (t3.trans t4)) r4 s4 q4 (hq.mono (t13.trans t4))
theorem d_chain (o : CmpD X op r) (o' : CmpD X op' r') (ha : DE X W a ta) (hb : DE X W b tb) (hc : DE X W c tc) (h1 : lastMarks [op, op'] [b, c] = false := by with_unfolding_all rfl) : DE X W (.Compare a [op, op'] [b, c] pos) (tdChain r r' ta tb tc) := by
  obtain ⟨q, e1, l1⟩ := o.ex
  obtain ⟨q', e2, l2⟩ := o'.ex
  exact PE.imp (pe_chain e1 e2 ha hb hc h1) fun _ _ _ h => up_chain l1 l2 h
theorem t_chain (o : CmpD X op r) (o' : CmpD X op' r') (ha : DE X W a ta) (hb : DE X W b tb) (hc : DE X W c tc) (h1 : lastMarks [op, op'] [b, c] = false := by with_unfolding_all rfl) : DT X W (.Compare a [op, op'] [b, c] pos) (tdTest (tdChain r r' ta tb tc)) := by
  obtain ⟨q, e1, l1⟩ := o.ex
  obtain ⟨q', e2, l2⟩ := o'.ex
  exact PT.imp (pt_chain e1 e2 ha hb hc h1) fun _ _ _ h => up_chain l1 l2 (up_test h)
end

/-! ### arguments, displays -/
def tdNil : TDA := fun _ M Q _ => Q [] M
def tdCons (ta : TDE) (tr : TDA) : TDA := fun ρ M Q E => ta ρ M (fun x M1 => tr ρ M1 (fun xs M2 => Q (x :: xs) M2) E) E
section
variable {X : Cx} {W : WX} {pos : Pos} {e : Expr} {es : List Expr} {te : TDE} {t : TDA}
theorem a_nil : DA X W [] tdNil := PA.imp pa_nil fun σ H Q ⟨ρ, M, Q0, E0, dv, sm, q, hq, he⟩ => hq _ _ q _ H .nil sm (Tr.refl H M)
theorem a_cons (ha : DE X W e te) (hr : DA X W es t) (hs : starEach (e :: es) X.env = (false, eval e X.env) :: starEach es X.env := by rfl) : DA X W (e :: es) (tdCons te t) := PA.imp (pa_cons ha hr hs) fun σ H Q ⟨ρ, M, Q0, E0, dv, sm, q, hq, he⟩ => by
  refine ⟨ρ, M, _, E0, dv, sm, q, fun d M1 q1 v H1 r1 s1 t1 => ?_, he⟩
  refine ⟨ρ, M1, _, E0, dv.mono t1, s1, q1, fun ds M2 q2 vs H2 r2 s2 t2 => ?_, he.mono t1⟩
  exact hq _ _ q2 _ H2 (.cons (r1.mono t2) r2) s2 (t1.trans t2)
def tdTup (t : TDA) : TDE := fun ρ M Q E => t ρ M (fun ds M1 => ds.length ≤ sizeLine ∧ Q (.tup ds) M1) E
theorem d_tup {x1} (h : DA X W es t) : DE X W (.Tuple es x1 pos) (tdTup t) := PE.imp (pe_tup h) fun σ H Q ⟨ρ, M, Q0, E0, dv, sm, q, hq, he⟩ => by
  refine ⟨ρ, M, _, E0, dv, sm, q, fun ds M1 q1 vs H1 r1 s1 t1 => ?_, he⟩
  exact ⟨by rw [r1.length]; exact q1.1, fun p hp => tupNew s1 r1 (hq.mono t1) q1.2 hp⟩
def tdLst (t : TDA) : TDE := fun ρ M Q E => t ρ M (fun ds M1 => ds.length ≤ sizeLine ∧ ∀ p, M1 p = none → Q (.ref p) (mupd M1 p (.lst ds))) E
theorem d_lst (h : DA X W es t) : DE X W (.List es pos) (tdLst t) := PE.imp (pe_lst h) fun σ H Q ⟨ρ, M, Q0, E0, dv, sm, q, hq, he⟩ => by
  refine ⟨ρ, M, _, E0, dv, sm, q, fun ds M1 q1 vs H1 r1 s1 t1 => ?_, he⟩
  exact ⟨by rw [r1.length]; exact q1.1, fun p hp => lstNew s1 r1 (hq.mono t1) q1.2 hp⟩

/-! ### a list's contents at this moment -/
abbrev TDQ := DSt → Mem → (List D → Mem → Prop) → XD → Prop
def upQ (K : PySem.W.Frag) (W : WX) (td : TDQ) : TE := fun σ H Q => ∃ ρ M Q0 E0, DvL K H σ ρ ∧ Sim K H M ∧ td ρ M Q0 E0 ∧ (∀ ds M', Q0 ds M' → ∀ a vs H', SqL K H' a vs → Reps K H' vs ds → Sim K H' M' → Tr H M H' M' → Q (.ref a) H') ∧ wUp K W σ H M E0
def DQ (X : Cx) (W : WX) (e : Expr) (td : TDQ) : Prop := PE X e (upQ X.K W td)
def lstD (M : Mem) : D → Option (List D)
  | .rol ds => some ds
  | .ref a => match M a with
    | some (.lst ds) => some ds
    | _ => none
  | _ => none
theorem lstD_ok {K : PySem.W.Frag} {H : Hp} {M : Mem} {v : V} {d : D} {ds : List D} (s : Sim K H M) (r : Rep K H v d) (h : lstD M d = some ds) : ∃ a vs, v = .ref a ∧ SqL K H a vs ∧ Reps K H vs ds := by
  cases d with
  | ref a =>
    cases r
    unfold lstD at h
    dsimp only at h
    split at h
    · rename_i es e; cases h; obtain ⟨vs, g, rs⟩ := s _ _ e; exact ⟨_, _, rfl, SqL.of g, rs⟩
    · cases h
  | rol es => cases h; cases r with | rol g rs => exact ⟨_, _, rfl, g.sq, rs⟩
  | _ => cases h
@[irreducible] def rdQof (d : D) (M : Mem) (Q : List D → Mem → Prop) : Prop := match lstD M d with | some ds => Q ds M | none => False
theorem qof_l {M : Mem} {Q : List D → Mem → Prop} {a : Addr} {ds : List D} (h1 : M a = some (.lst ds)) (h : Q ds M) : rdQof (.ref a) M Q := by
  unfold rdQof lstD
  dsimp only
  rw [h1]
  exact h
theorem qof_r {M : Mem} {Q : List D → Mem → Prop} {ds : List D} (h : Q ds M) : rdQof (.rol ds) M Q := by unfold rdQof; exact h
def tdQof (t : TDE) : TDQ := fun ρ M Q E => t ρ M (fun d M1 => rdQof d M1 Q) E
theorem q_of {t : TDE} (h : DE X W e t) : DQ X W e (tdQof t) := PE.imp h fun σ H Q ⟨ρ, M, Q0, E0, dv, sm, q, hq, he⟩ => by
  refine ⟨ρ, M, _, E0, dv, sm, q, fun d M1 q1 v H1 r1 s1 t1 => ?_, he⟩
  dsimp only at q1
  unfold rdQof at q1
  split at q1
  · rename_i ds e1
    obtain ⟨a, vs, rfl, g, rs⟩ := lstD_ok s1 r1 e1
    exact hq _ _ q1 a vs H1 g rs s1 t1
  · exact q1.elim
def tdQlst (t : TDA) : TDQ := fun ρ M Q E => t ρ M (fun ds M1 => ds.length ≤ sizeLine ∧ Q ds M1) E
theorem q_lst (h : DA X W es t) : DQ X W (.List es pos) (tdQlst t) := PE.imp (pe_lst h) fun σ H Q ⟨ρ, M, Q0, E0, dv, sm, q, hq, he⟩ => by
  refine ⟨ρ, M, _, E0, dv, sm, q, fun ds M1 q1 vs H1 r1 s1 t1 => ?_, he⟩
  refine ⟨by rw [r1.length]; exact q1.1, fun p hp => ?_⟩
  have t2 : Tr H1 M1 (upd H1 p (.lst vs)) M1 := Tr.new hp
  exact hq _ _ q1.2 p vs _ (SqL.of upd_same) (r1.mono t2) (s1.new hp) (t1.trans t2)

/-! ### built-in functions of one list -/
abbrev RQ := List D → Mem → (D → Mem → Prop) → Prop
def LiftQ (K : PySem.W.Frag) (r : List V → Hp → VK → Prop) (rq : RQ) : Prop := ∀ a vs H M ds Q0 Q, SqL K H a vs → Reps K H vs ds → Sim K H M → rq ds M Q0 → qUp K H M Q0 Q → r [.ref a] H Q
def tdQ (rq : RQ) (tq : TDQ) : TDE := fun ρ M Q E => tq ρ M (fun ds M1 => rq ds M1 Q) E
theorem up_q {K : PySem.W.Frag} {r : List V → Hp → VK → Prop} {rq : RQ} {tq : TDQ} (l : LiftQ K r rq) {σ : St} {H : Hp} {Q : VK} (h : upE K W (tdQ rq tq) σ H Q) : tCB r (tCons (upQ K W tq) tNil) σ H Q := by
  obtain ⟨ρ, M, Q0, E0, dv, sm, q, hq, he⟩ := h
  refine ⟨ρ, M, _, E0, dv, sm, q, fun ds M1 q1 a vs H1 g r1 s1 t1 => ?_, he⟩
  exact l a vs H1 M1 ds Q0 Q g r1 s1 q1 (hq.mono t1)
variable {x : Str} {p : Pos} {r : List V → Hp → VK → Prop} {rq : RQ} {tq : TDQ} {id T : String}
theorem d_bltQ (hc : CallR X (.builtin id) r) (l : LiftQ X.K r rq) (hm : X.mg x = none) (hv : bootBuiltins x = some (.builtin id)) (ha : DQ X W e tq) (hg : Gl X x := by rfl) (hn : x ≠ "__name__" := by decide) (hdb : (x == ("__debug__" : Str)) = false := by decide)
    (hs : starEach [e] X.env = (false, eval e X.env) :: starEach [] X.env := by rfl) : DE X W (.Call (.Name x p) [e] [] pos) (tdQ rq tq) := PE.imp (pe_callB hc hg hm hv (pa_cons ha pa_nil hs) hn hdb hs rfl) fun _ _ _ h => up_q l h
theorem d_tyQ (hc : CallR X (.type T) r) (l : LiftQ X.K r rq) (hm : X.mg x = none) (hv : bootBuiltins x = some (.type T)) (ha : DQ X W e tq) (hg : Gl X x := by rfl) (hn : x ≠ "__name__" := by decide) (hdb : (x == ("__debug__" : Str)) = false := by decide)
    (hs : starEach [e] X.env = (false, eval e X.env) :: starEach [] X.env := by rfl) : DE X W (.Call (.Name x p) [e] [] pos) (tdQ rq tq) := PE.imp (pe_callTy hc hg hm hv (pa_cons ha pa_nil hs) hn hdb hs rfl) fun _ _ _ h => up_q l h
def intsD : List D → Option (List Int)
  | [] => some []
  | .int i :: ds => (intsD ds).map (i :: ·)
  | _ :: _ => none
theorem intsD_ok {K : PySem.W.Frag} {H : Hp} : ∀ {ds : List D} {vs : List V} {ns : List Int}, Reps K H vs ds → intsD ds = some ns → vs = ns.map V.int
  | [], _, _, r, h => by cases r; cases h; rfl
  | d :: ds, _, _, .cons r rs, h => by
    cases d <;> try cases h
    rename_i i
    unfold intsD at h
    cases e : intsD ds with
    | none => rw [e] at h; cases h
    | some ms => rw [e] at h; cases h; cases r; rw [intsD_ok rs e]; rfl
theorem intsD_map (ns : List Int) : intsD (ns.map D.int) = some ns := by
  induction ns with
  | nil => rfl
  | cons n ns ih => simp only [List.map_cons, intsD, ih]; rfl
def blsD : List D → Option (List Bool)
  | [] => some []
  | .bl i :: ds => (blsD ds).map (i :: ·)
  | _ :: _ => none
theorem blsD_ok {K : PySem.W.Frag} {H : Hp} : ∀ {ds : List D} {vs : List V} {ns : List Bool}, Reps K H vs ds → blsD ds = some ns → vs = ns.map V.bl
  | [], _, _, r, h => by cases r; cases h; rfl
  | d :: ds, _, _, .cons r rs, h => by
    cases d <;> try cases h
    rename_i i
    unfold blsD at h
    cases e : blsD ds with
    | none => rw [e] at h; cases h
    | some ms => rw [e] at h; cases h; cases r; rw [blsD_ok rs e]; rfl
theorem blsD_map (ns : List Bool) : blsD (ns.map D.bl) = some ns := by
  induction ns with
  | nil => rfl
  | cons n ns ih => simp only [List.map_cons, blsD, ih]; rfl
@[irreducible] def rqBls (f : List Bool → Bool) : RQ := fun ds M Q => match blsD ds with | some bs => Q (.bl (f bs)) M | none => False
theorem bls_i {f : List Bool → Bool} {ds : List D} {bs : List Bool} {M : Mem} {Q : D → Mem → Prop} (h1 : blsD ds = some bs) (h : Q (.bl (f bs)) M) : rqBls f ds M Q := by unfold rqBls; rw [h1]; exact h
theorem l_all {K : PySem.W.Frag} : LiftQ K (rAll K) (rqBls fun bs => bs.all _root_.id) := fun a vs H M ds Q0 Q g r s h hq => by
  unfold rqBls at h
  split at h
  · rename_i bs e; have := blsD_ok r e; subst this; exact ⟨a, bs, rfl, g, hq _ _ h _ H (.bl _) s (Tr.refl H M)⟩
  · exact h.elim
theorem l_any {K : PySem.W.Frag} : LiftQ K (rAny K) (rqBls fun bs => bs.any _root_.id) := fun a vs H M ds Q0 Q g r s h hq => by
  unfold rqBls at h
  split at h
  · rename_i bs e; have := blsD_ok r e; subst this; exact ⟨a, bs, rfl, g, hq _ _ h _ H (.bl _) s (Tr.refl H M)⟩
  · exact h.elim
@[irreducible] def rqSum : RQ := fun ds M Q => match intsD ds with | some ns => Q (.int ns.sum) M | none => False
theorem sum_i {ds : List D} {ns : List Int} {M : Mem} {Q : D → Mem → Prop} (h1 : intsD ds = some ns) (h : Q (.int ns.sum) M) : rqSum ds M Q := by unfold rqSum; rw [h1]; exact h
theorem l_sum {K : PySem.W.Frag} : LiftQ K (rSum K) rqSum := fun a vs H M ds Q0 Q g r s h hq => by
  unfold rqSum at h
  split at h
  · rename_i bs e; have := intsD_ok r e; subst this; exact ⟨a, bs, rfl, g, hq _ _ h _ H (.int _) s (Tr.refl H M)⟩
  · exact h.elim
@[irreducible] def rqMax : RQ := fun ds M Q => match intsD ds with | some ns => 0 < ns.length ∧ ∀ m, m ∈ ns → (∀ y, y ∈ ns → y ≤ m) → Q (.int m) M | none => False
@[irreducible] def rqMin : RQ := fun ds M Q => match intsD ds with | some ns => 0 < ns.length ∧ ∀ m, m ∈ ns → (∀ y, y ∈ ns → m ≤ y) → Q (.int m) M | none => False
theorem max_i {ds : List D} {ns : List Int} {M : Mem} {Q : D → Mem → Prop} (h1 : intsD ds = some ns) (h0 : 0 < ns.length) (h : ∀ m, m ∈ ns → (∀ y, y ∈ ns → y ≤ m) → Q (.int m) M) : rqMax ds M Q := by unfold rqMax; rw [h1]; exact ⟨h0, h⟩
theorem min_i {ds : List D} {ns : List Int} {M : Mem} {Q : D → Mem → Prop} (h1 : intsD ds = some ns) (h0 : 0 < ns.length) (h : ∀ m, m ∈ ns → (∀ y, y ∈ ns → m ≤ y) → Q (.int m) M) : rqMin ds M Q := by unfold rqMin; rw [h1]; exact ⟨h0, h⟩
theorem l_max {K : PySem.W.Frag} : LiftQ K (rMax K) rqMax := fun a vs H M ds Q0 Q g r s h hq => by
  unfold rqMax at h
  split at h
  · rename_i bs e; have := intsD_ok r e; subst this; exact ⟨a, bs, rfl, g, h.1, fun m h1 h2 => hq _ _ (h.2 m h1 h2) _ H (.int _) s (Tr.refl H M)⟩
  · exact h.elim
theorem l_min {K : PySem.W.Frag} : LiftQ K (rMin K) rqMin := fun a vs H M ds Q0 Q g r s h hq => by
  unfold rqMin at h
  split at h
  · rename_i bs e; have := intsD_ok r e; subst this; exact ⟨a, bs, rfl, g, h.1, fun m h1 h2 => hq _ _ (h.2 m h1 h2) _ H (.int _) s (Tr.refl H M)⟩
  · exact h.elim
def rqTup : RQ := fun ds M Q => Q (.tup ds) M
theorem l_tuple {K : PySem.W.Frag} : LiftQ K (fun xs H Q => ∃ p ys, xs = [.ref p] ∧ ((SqL K H p ys ∧ ∀ l, H l = none → Q (.ref l) (upd H l (.tup ys))) ∨ (SqT K H p ys ∧ Q (.ref p) H))) rqTup := fun a vs H M ds Q0 Q g r s h hq =>
  ⟨a, vs, rfl, .inl ⟨g, fun l hl => tupNew s r hq h hl⟩⟩
def rqLst : RQ := fun ds M Q => ∀ p, M p = none → Q (.ref p) (mupd M p (.lst ds))
theorem l_list {K : PySem.W.Frag} : LiftQ K (fun xs H Q => ∃ p ys, xs = [.ref p] ∧ (SqL K H p ys ∨ SqT K H p ys) ∧ ∀ l, H l = none → Q (.ref l) (upd H l (.lst ys))) rqLst := fun a vs H M ds Q0 Q g r s h hq =>
  ⟨a, vs, rfl, .inl g, fun l hl => lstNew s r hq h hl⟩
theorem d_all (hm : X.mg "all" = none) (hc : X.calm = true) (ha : DQ X W e tq) (hg : Gl X "all" := by rfl) (hs : starEach [e] X.env = (false, eval e X.env) :: starEach [] X.env := by rfl) : DE X W (.Call (.Name "all" p) [e] [] pos) (tdQ (rqBls fun bs => bs.all _root_.id) tq) := d_bltQ (cr_all hc) l_all hm (by decide +kernel) ha hg (by decide) (by decide) hs
theorem d_any (hm : X.mg "any" = none) (hc : X.calm = true) (ha : DQ X W e tq) (hg : Gl X "any" := by rfl) (hs : starEach [e] X.env = (false, eval e X.env) :: starEach [] X.env := by rfl) : DE X W (.Call (.Name "any" p) [e] [] pos) (tdQ (rqBls fun bs => bs.any _root_.id) tq) := d_bltQ (cr_any hc) l_any hm (by decide +kernel) ha hg (by decide) (by decide) hs
theorem d_sum (hm : X.mg "sum" = none) (hc : X.calm = true) (ha : DQ X W e tq) (hg : Gl X "sum" := by rfl) (hs : starEach [e] X.env = (false, eval e X.env) :: starEach [] X.env := by rfl) : DE X W (.Call (.Name "sum" p) [e] [] pos) (tdQ rqSum tq) := d_bltQ (cr_sum hc) l_sum hm (by decide +kernel) ha hg (by decide) (by decide) hs
theorem d_max (hm : X.mg "max" = none) (hc : X.calm = true) (ha : DQ X W e tq) (hg : Gl X "max" := by rfl) (hs : starEach [e] X.env = (false, eval e X.env) :: starEach [] X.env := by rfl) : DE X W (.Call (.Name "max" p) [e] [] pos) (tdQ rqMax tq) := d_bltQ (cr_max hc) l_max hm (by decide +kernel) ha hg (by decide) (by decide) hs
theorem d_min (hm : X.mg "min" = none) (hc : X.calm = true) (ha : DQ X W e tq) (hg : Gl X "min" := by rfl) (hs : starEach [e] X.env = (false, eval e X.env) :: starEach [] X.env := by rfl) : DE X W (.Call (.Name "min" p) [e] [] pos) (tdQ rqMin tq) := d_bltQ (cr_min hc) l_min hm (by decide +kernel) ha hg (by decide) (by decide) hs
theorem d_tuple (hm : X.mg "tuple" = none) (ha : DQ X W e tq) (hg : Gl X "tuple" := by rfl) (hs : starEach [e] X.env = (false, eval e X.env) :: starEach [] X.env := by rfl) : DE X W (.Call (.Name "tuple" p) [e] [] pos) (tdQ rqTup tq) := d_tyQ call_tuple_of l_tuple hm (by decide +kernel) ha hg (by decide) (by decide) hs
theorem d_list (hm : X.mg "list" = none) (ha : DQ X W e tq) (hg : Gl X "list" := by rfl) (hs : starEach [e] X.env = (false, eval e X.env) :: starEach [] X.env := by rfl) : DE X W (.Call (.Name "list" p) [e] [] pos) (tdQ rqLst tq) := d_tyQ call_list_of l_list hm (by decide +kernel) ha hg (by decide) (by decide) hs
/-! ### len -/
def rdLen0 (d : D) (M1 : Mem) (Q : D → Mem → Prop) : Prop := match d with
  | .str x => x.length ≤ sizeLine ∧ Q (.int x.length) M1
  | .tup ds => Q (.int ds.length) M1
  | d => match lstD M1 d with | some ds => Q (.int ds.length) M1 | none => False
@[irreducible] def rdLen := rdLen0
theorem len_s {M : Mem} {Q : D → Mem → Prop} {x : Str} (hz : x.length ≤ sizeLine) (h : Q (.int x.length) M) : rdLen (.str x) M Q := by unfold rdLen; exact ⟨hz, h⟩
theorem len_t {M : Mem} {Q : D → Mem → Prop} {ds : List D} (h : Q (.int ds.length) M) : rdLen (.tup ds) M Q := by unfold rdLen; exact h
theorem len_l {M : Mem} {Q : D → Mem → Prop} {a : Addr} {ds : List D} (h1 : M a = some (.lst ds)) (h : Q (.int ds.length) M) : rdLen (.ref a) M Q := by
  unfold rdLen rdLen0 lstD
  dsimp only
  rw [h1]
  exact h
theorem len_r {M : Mem} {Q : D → Mem → Prop} {ds : List D} (h : Q (.int ds.length) M) : rdLen (.rol ds) M Q := by unfold rdLen; exact h
def tdLen (t : TDE) : TDE := fun ρ M Q E => t ρ M (fun d M1 => rdLen d M1 Q) E
def rLenAll (K : PySem.W.Frag) : List V → Hp → VK → Prop := fun xs H Q => (∃ p ys, xs = [.ref p] ∧ (SqL K H p ys ∨ SqT K H p ys) ∧ Q (.int ys.length) H) ∨ ∃ z, xs = [.str z] ∧ z.length ≤ sizeLine ∧ Q (.int z.length) H
theorem call_lenAll : CallR X (.builtin "len") (rLenAll X.K) := fun pins s σ H xs us Q I r h => by
  rcases h with h | h
  · exact call_len_seq pins s σ H xs us Q I r h
  · exact call_len_str pins s σ H xs us Q I r h
theorem d_len {t : TDE} (hm : X.mg "len" = none) (ha : DE X W e t) (hg : Gl X "len" := by rfl) (hs : starEach [e] X.env = (false, eval e X.env) :: starEach [] X.env := by rfl) : DE X W (.Call (.Name "len" p) [e] [] pos) (tdLen t) :=
  PE.imp (pe_callB call_lenAll hg hm (by decide +kernel) (pa_cons ha pa_nil hs) (by decide) (by decide) hs rfl) fun σ H Q ⟨ρ, M, Q0, E0, dv, sm, q, hq, he⟩ => by
    refine ⟨ρ, M, _, E0, dv, sm, q, fun d M1 q1 v H1 r1 s1 t1 => ?_, he⟩
    have fin : ∀ n : Nat, Q0 (.int n) M1 → Q (.int n) H1 := fun n h => hq _ _ h _ H1 (.int _) s1 t1
    dsimp only at q1
    unfold rdLen rdLen0 at q1
    split at q1
    · cases r1; exact .inr ⟨_, rfl, q1.1, fin _ q1.2⟩
    · cases r1 with | tup g rs => exact .inl ⟨_, _, rfl, .inr g, by rw [rs.length]; exact fin _ q1⟩
    · split at q1
      · rename_i ds e1
        obtain ⟨a, vs, rfl, g, rs⟩ := lstD_ok s1 r1 e1
        exact .inl ⟨_, _, rfl, .inl g, by rw [rs.length]; exact fin _ q1⟩
      · exact q1.elim
/-! ### a[i], a[i:j] -/
def rdIx0 : RD2 := fun x y M Q => match y with
  | .int i => match x with
    | .str z => z.length ≤ sizeLine ∧ (match atI z.cps.toList i with | some c => Q (.str ⟨#[c]⟩) M | none => False)
    | x => match seqD M x with
      | some ds => match atI ds i with | some d => Q d M | none => False
      | none => False
  | _ => False
theorem atI_reps {K : PySem.W.Frag} {H : Hp} {vs : List V} {ds : List D} {i : Int} {d : D} (r : Reps K H vs ds) (h : atI ds i = some d) : ∃ v, atI vs i = some v ∧ Rep K H v d := by
  unfold atI at h ⊢
  rw [r.length]
  cases e : ixN ds.length i with
  | none => rw [e] at h; cases h
  | some j => rw [e] at h; exact r.get h
theorem l_ix0 {K : PySem.W.Frag} : LiftR K (rIx K) rdIx0 := fun x y H M dx dy Q0 Q rx ry s h hq => by
  unfold rdIx0 at h
  split at h
  · cases ry
    split at h
    · cases rx
      obtain ⟨hz, h⟩ := h
      split at h
      · rename_i c e; exact .inr (.inr ⟨_, _, c, rfl, rfl, hz, e, hq _ _ h _ H (.str _) s (Tr.refl H M)⟩)
      · exact h.elim
    · split at h
      · rename_i ds e
        split at h
        · rename_i d e2
          obtain ⟨a, vs, rfl, g, rs⟩ := seqD_ok s rx e
          obtain ⟨v, e3, rv⟩ := atI_reps rs e2
          rcases g with g | g
          · exact .inl ⟨a, vs, _, v, rfl, rfl, g, e3, hq _ _ h _ H rv s (Tr.refl H M)⟩
          · exact .inr (.inl ⟨a, vs, _, v, rfl, rfl, g, e3, hq _ _ h _ H rv s (Tr.refl H M)⟩)
        · exact h.elim
      · exact h.elim
  · exact h.elim
@[irreducible] def rdIx : RD2 := rdIx0
theorem l_ix {K : PySem.W.Frag} : LiftR K (rIx K) rdIx := by unfold rdIx; exact l_ix0
theorem ix_s {M : Mem} {Q : D → Mem → Prop} {z : Str} {i : Int} {c : Nat} (hz : z.length ≤ sizeLine) (h1 : atI z.cps.toList i = some c) (h : Q (.str ⟨#[c]⟩) M) : rdIx (.str z) (.int i) M Q := by
  unfold rdIx rdIx0
  dsimp only
  exact ⟨hz, by rw [h1]; exact h⟩
theorem ix_q {M : Mem} {Q : D → Mem → Prop} {x d : D} {ds : List D} {i : Int} (h1 : seqD M x = some ds) (h2 : atI ds i = some d) (h : Q d M) : rdIx x (.int i) M Q := by
  unfold rdIx rdIx0
  dsimp only
  cases x with
  | str z => cases h1
  | _ => dsimp only; rw [h1]; dsimp only; rw [h2]; exact h
theorem ix_l {M : Mem} {Q : D → Mem → Prop} {a : Addr} {d : D} {ds : List D} {i : Int} (h1 : M a = some (.lst ds)) (h2 : atI ds i = some d) (h : Q d M) : rdIx (.ref a) (.int i) M Q := ix_q (by unfold seqD; dsimp only; rw [h1]) h2 h
theorem ix_t {M : Mem} {Q : D → Mem → Prop} {d : D} {ds : List D} {i : Int} (h2 : atI ds i = some d) (h : Q d M) : rdIx (.tup ds) (.int i) M Q := ix_q rfl h2 h
variable {a b : Expr} {ta tb : TDE}
theorem d_ix (ha : DE X W a ta) (hb : DE X W b tb) (hs : PlainIx b := by exact fun _ _ => rfl) : DE X W (.Subscript a b pos) (tdOp rdIx ta tb) := PE.imp (pe_ix ix_seq ha hb hs) fun _ _ _ h => up_two l_ix h
abbrev TDO := DSt → Mem → (Option Int → Mem → Prop) → XD → Prop
def upO (K : PySem.W.Frag) (W : WX) (td : TDO) : TO := fun σ H Q => ∃ ρ M Q0 E0, DvL K H σ ρ ∧ Sim K H M ∧ td ρ M Q0 E0 ∧ (∀ o M', Q0 o M' → ∀ H', Sim K H' M' → Tr H M H' M' → Q o H') ∧ wUp K W σ H M E0
def DO (X : Cx) (W : WX) (e : Option Expr) (td : TDO) : Prop := PO X e (upO X.K W td)
theorem PO.imp {e : Option Expr} {t t' : TO} (h : PO X e t) (k : ∀ σ H Q, t' σ H Q → t σ H Q) : PO X e t' := ⟨fun pins s σ H Q I q => h.run pins s σ H Q I (k σ H Q q)⟩
def tdNo : TDO := fun _ M Q _ => Q none M
def tdPart (t : TDE) : TDO := fun ρ M Q E => t ρ M (fun d M1 => match d with | .int i => Q (some i) M1 | _ => False) E
theorem o_none : DO X W none tdNo := PO.imp po_none fun σ H Q ⟨ρ, M, Q0, E0, dv, sm, q, hq, he⟩ => hq _ _ q H sm (Tr.refl H M)
theorem o_some (h : DE X W e te) : DO X W (some e) (tdPart te) := PO.imp (po_some h) fun σ H Q ⟨ρ, M, Q0, E0, dv, sm, q, hq, he⟩ => by
  refine ⟨ρ, M, _, E0, dv, sm, q, fun d M1 q1 v H1 r1 s1 t1 => ?_, he⟩
  cases d <;> try exact q1.elim
  cases r1
  exact ⟨_, rfl, hq _ _ q1 H1 s1 t1⟩
def cutD (xs : List D) (lo hi : Option Int) : List D := (xs.drop (HT.sIx xs.length 0 lo)).take (HT.sIx xs.length xs.length hi - HT.sIx xs.length 0 lo)
theorem cut_reps {K : PySem.W.Frag} {H : Hp} {vs : List V} {ds : List D} (r : Reps K H vs ds) (lo hi : Option Int) : Reps K H (cutV vs lo hi) (cutD ds lo hi) := by
  unfold cutV cutD
  rw [r.length]
  exact (r.drop _).take _
def rdSl0 (x : D) (l u : Option Int) (M3 : Mem) (Q : D → Mem → Prop) : Prop := match x with
  | .str z => z.length ≤ sizeLine ∧ Q (.str (cutS z l u)) M3
  | .tup ds => Q (.tup (cutD ds l u)) M3
  | x => match lstD M3 x with
    | some ds => ∀ p, M3 p = none → Q (.ref p) (mupd M3 p (.lst (cutD ds l u)))
    | none => False
@[irreducible] def rdSl := rdSl0
theorem sl_s {M : Mem} {Q : D → Mem → Prop} {z : Str} {l u : Option Int} (hz : z.length ≤ sizeLine) (h : Q (.str (cutS z l u)) M) : rdSl (.str z) l u M Q := by unfold rdSl; exact ⟨hz, h⟩
theorem sl_t {M : Mem} {Q : D → Mem → Prop} {ds : List D} {l u : Option Int} (h : Q (.tup (cutD ds l u)) M) : rdSl (.tup ds) l u M Q := by unfold rdSl; exact h
theorem sl_l {M : Mem} {Q : D → Mem → Prop} {a : Addr} {ds : List D} {l u : Option Int} (h1 : M a = some (.lst ds)) (h : ∀ p, M p = none → Q (.ref p) (mupd M p (.lst (cutD ds l u)))) : rdSl (.ref a) l u M Q := by
  unfold rdSl rdSl0 lstD
  dsimp only
  rw [h1]
  exact h
theorem sl_r {M : Mem} {Q : D → Mem → Prop} {ds : List D} {l u : Option Int} (h : ∀ p, M p = none → Q (.ref p) (mupd M p (.lst (cutD ds l u)))) : rdSl (.rol ds) l u M Q := by unfold rdSl; exact h
def tdSl (te : TDE) (tl th : TDO) : TDE := fun ρ M Q E => te ρ M (fun x M1 => tl ρ M1 (fun l M2 => th ρ M2 (fun u M3 => rdSl x l u M3 Q) E) E) E
def rSlAll (K : PySem.W.Frag) : V → Option Int → Option Int → Hp → VK → Prop := fun x lo hi H Q => rSlL K x lo hi H Q ∨ rSlA K x lo hi H Q ∨ rSlS x lo hi H Q
theorem sl_all : SlR X (rSlAll X.K) := sl_list.or (sl_tupA.or sl_str)
theorem d_slice {lo hi : Option Expr} {tl th : TDO} {p2 : Pos} (he : DE X W e te) (hl : DO X W lo tl) (hh : DO X W hi th) : DE X W (.Subscript e (.Slice lo hi none p2) pos) (tdSl te tl th) :=
  PE.imp (pe_slice sl_all he hl hh) fun σ H Q ⟨ρ, M, Q0, E0, dv, sm, q, hq, he⟩ => by
    refine ⟨ρ, M, _, E0, dv, sm, q, fun d M1 q1 v H1 r1 s1 t1 => ?_, he⟩
    refine ⟨ρ, M1, _, E0, dv.mono t1, s1, q1, fun l M2 q2 H2 s2 t2 => ?_, he.mono t1⟩
    have t12 := t1.trans t2
    refine ⟨ρ, M2, _, E0, dv.mono t12, s2, q2, fun u M3 q3 H3 s3 t3 => ?_, he.mono t12⟩
    have t13 := t12.trans t3
    have r3 := r1.mono (t2.trans t3)
    have hq3 := hq.mono t13
    unfold rdSl rdSl0 at q3
    split at q3
    · cases r3; exact .inr (.inr ⟨_, rfl, q3.1, hq3 _ _ q3.2 _ H3 (.str _) s3 (Tr.refl _ _)⟩)
    · rename_i ds
      cases r3 with
      | @tup a vs _ g rs =>
        refine .inr (.inl ⟨a, vs, rfl, g, fun hw => ?_, fun _ p hp => tupNew s3 (cut_reps rs l u) hq3 q3 hp⟩)
        have e : cutD ds l u = ds := by
          unfold cutD
          rw [rs.length] at hw
          rw [hw.1, hw.2, List.drop_zero, Nat.sub_zero, List.take_length]
        rw [e] at q3
        exact hq3 _ _ q3 _ H3 (.tup g rs) s3 (Tr.refl _ _)
    · split at q3
      · rename_i ds e1
        obtain ⟨a, vs, rfl, g, rs⟩ := lstD_ok s3 r3 e1
        exact .inl ⟨a, vs, rfl, g, fun p hp => lstNew s3 (cut_reps rs l u) hq3 q3 hp⟩
      · exact q3.elim
end
/-! ### isinstance of built-in types -/
inductive BT where
  | non | bool | int | str | tuple | list | dict
  deriving DecidableEq
def BT.nm : BT → String
  | .non => "NoneType" | .bool => "bool" | .int => "int" | .str => "str" | .tuple => "tuple" | .list => "list" | .dict => "dict"
def BT.sub : BT → BT → Bool
  | .bool, .int => true
  | .non, .non => true | .bool, .bool => true | .int, .int => true | .str, .str => true | .tuple, .tuple => true | .list, .list => true | .dict, .dict => true
  | _, _ => false
def btOf (M : Mem) : D → Option BT
  | .non => some .non
  | .bl _ => some .bool
  | .int _ => some .int
  | .str _ => some .str
  | .tup _ => some .tuple
  | .ref a => match M a with
    | some (.lst _) => some .list
    | some (.dk _) => some .dict
    | _ => none
  | .ty _ => none
  | .rol _ => none
theorem kit_bt {K : PySem.W.Frag} (a b : BT) : PySem.W.kitOne K (.type a.nm) (.type b.nm) = some (a.sub b) := by
  cases a <;> cases b <;> exact kit_ty (by decide +kernel)
theorem btOf_ok {K : PySem.W.Frag} {H : Hp} {M : Mem} {v : V} {d : D} {t : BT} (s : Sim K H M) (r : Rep K H v d) (h : btOf M d = some t) : TyX K H v (.type t.nm) := by
  cases d with
  | non => cases h; cases r; exact .base .non
  | bl b => cases h; cases r; exact .base (.bl b)
  | int b => cases h; cases r; exact .base (.int b)
  | str b => cases h; cases r; exact .base (.str b)
  | ty n => cases h
  | rol n => cases h
  | tup ds =>
    cases h
    cases r with
    | tup g _ =>
      rcases g with (g | ⟨o, g⟩) | ⟨o, its, n, e, c, _⟩
      · exact .base (.tup g)
      · exact .fTuple g
      · exact .kTuple e c
  | ref a =>
    cases r
    unfold btOf at h
    dsimp only at h
    split at h
    · rename_i e; cases h; obtain ⟨vs, g, _⟩ := s _ _ e; exact .base (.lst g)
    · rename_i e; cases h; obtain ⟨vs, g, _⟩ := s _ _ e; exact .base (.dK g)
    · cases h
section
variable {X : Cx} {W : WX} {pos p p2 : Pos} {e : Expr} {te : TDE}
@[irreducible] def rdIsi (bs : List BT) (d : D) (M : Mem) (Q : D → Mem → Prop) : Prop := match btOf M d with | some a => Q (.bl (bs.any a.sub)) M | none => False
theorem isi_i {bs : List BT} {d : D} {a : BT} {b : Bool} {M : Mem} {Q : D → Mem → Prop} (h1 : btOf M d = some a) (h2 : bs.any a.sub = b) (h : Q (.bl b) M) : rdIsi bs d M Q := by unfold rdIsi; rw [h1]; dsimp only; rw [h2]; exact h
theorem isi_l {bs : List BT} {p : Addr} {ds : List D} {b : Bool} {M : Mem} {Q : D → Mem → Prop} (h1 : M p = some (.lst ds)) (h2 : bs.any BT.list.sub = b) (h : Q (.bl b) M) : rdIsi bs (.ref p) M Q := isi_i (by unfold btOf; dsimp only; rw [h1]) h2 h
def tdIsi (t : TDE) (bs : List BT) : TDE := fun ρ M Q E => t ρ M (fun d M1 => rdIsi bs d M1 Q) E
theorem d_isi (B : BT) {x : Str} (hm : X.mg "isinstance" = none) (hmT : X.mg x = none) (he : DE X W e te) (hx : bootBuiltins x = some (.type B.nm) := by decide +kernel) (hg : Gl X "isinstance" := by rfl) (hgT : Gl X x := by rfl) (hn : x ≠ "__name__" := by decide) (hd : (x == ("__debug__" : Str)) = false := by decide)
    (hs : starEach [e, .Name x p2] X.env = (false, eval e X.env) :: starEach [.Name x p2] X.env := by rfl) (hs2 : starEach [.Name x p2] X.env = (false, eval (.Name x p2) X.env) :: starEach [] X.env := by rfl) (hpl : (backTo pos (starEach [.Name x p2] X.env)).any (·.1) = false := by rfl) :
    DE X W (.Call (.Name "isinstance" p) [e, .Name x p2] [] pos) (tdIsi te [B]) :=
  PE.imp (pe_callB call_isi hg hm (by decide +kernel) (pa_cons he (pa_cons (pe_bltn (v := .ty B.nm) hgT hmT hx rfl hn hd) pa_nil hs2) hs) (by decide) (by decide) hs hpl) fun σ H Q ⟨ρ, M, Q0, E0, dv, sm, q, hq, he⟩ => by
    refine ⟨ρ, M, _, E0, dv, sm, q, fun d M1 q1 v H1 r1 s1 t1 => ?_, he⟩
    dsimp only at q1
    unfold rdIsi at q1
    split at q1
    · rename_i t et
      refine ⟨v, .ty B.nm, _, _, t.sub B, rfl, .ty _, btOf_ok s1 r1 et, kit_bt t B, ?_⟩
      have e2 : ([B].any t.sub) = t.sub B := by simp
      rw [e2] at q1
      exact hq _ _ q1 _ H1 (.bl _) s1 t1
    · exact q1.elim
theorem kit_two {K : PySem.W.Frag} (t a b : BT) : PySem.W.kitAny K (.type t.nm) [.type a.nm, .type b.nm] = some ([a, b].any t.sub) := by
  refine kitAny_cons (kit_bt t a) (fun e => ?_) (fun e => by simp [e])
  refine kitAny_cons (kit_bt t b) (fun e2 => ?_) (fun e2 => by simp [e, e2])
  simp [e, e2]; rfl
theorem d_isi2 (B C : BT) {x y : Str} {k : Nat} {p3 p4 : Pos} (hm : X.mg "isinstance" = none) (hmT : X.mg x = none) (hmU : X.mg y = none) (he : DE X W e te) (hx : bootBuiltins x = some (.type B.nm) := by decide +kernel) (hy : bootBuiltins y = some (.type C.nm) := by decide +kernel) (hg : Gl X "isinstance" := by rfl) (hgT : Gl X x := by rfl) (hgU : Gl X y := by rfl)
    (hn : x ≠ "__name__" := by decide) (hd : (x == ("__debug__" : Str)) = false := by decide) (hn2 : y ≠ "__name__" := by decide) (hd2 : (y == ("__debug__" : Str)) = false := by decide)
    (hs : starEach [e, .Tuple [.Name x p2, .Name y p3] k p4] X.env = (false, eval e X.env) :: starEach [.Tuple [.Name x p2, .Name y p3] k p4] X.env := by rfl) (hpl : (backTo pos (starEach [.Tuple [.Name x p2, .Name y p3] k p4] X.env)).any (·.1) = false := by rfl) :
    DE X W (.Call (.Name "isinstance" p) [e, .Tuple [.Name x p2, .Name y p3] k p4] [] pos) (tdIsi te [B, C]) :=
  PE.imp (pe_callB call_isiT hg hm (by decide +kernel) (pa_cons he (pa_cons (pe_tup (pa_cons (pe_bltn (v := .ty B.nm) hgT hmT hx rfl hn hd) (pa_cons (pe_bltn (v := .ty C.nm) hgU hmU hy rfl hn2 hd2) pa_nil))) pa_nil) hs) (by decide) (by decide) hs hpl) fun σ H Q ⟨ρ, M, Q0, E0, dv, sm, q, hq, he⟩ => by
    refine ⟨ρ, M, _, E0, dv, sm, q, fun d M1 q1 v H1 r1 s1 t1 => ?_, he⟩
    refine ⟨by show 2 ≤ sizeLine; decide, fun tp htp => ?_⟩
    have t2 : Tr H1 M1 (upd H1 tp (.tup [.ty B.nm, .ty C.nm])) M1 := Tr.new htp
    dsimp only at q1
    unfold rdIsi at q1
    split at q1
    · rename_i t et
      refine ⟨v, tp, [.ty B.nm, .ty C.nm], _, _, [B, C].any t.sub, rfl, upd_same, .cons (.ty _) (.cons (.ty _) .nil), btOf_ok (s1.new htp) (r1.mono t2) et, kit_two t B C, ?_⟩
      exact hq _ _ q1 _ _ (.bl _) (s1.new htp) (t1.trans t2)
    · exact q1.elim
end
end TD

namespace TD
open PySem L2

structure DEnds where
  nx : DSt → Mem → Prop
  rt : D → Mem → Prop
  bk : DSt → Mem → Prop := fun _ _ => False
  ct : DSt → Mem → Prop := fun _ _ => False
  ex : Value → List (Str × D) → DSt → Mem → Prop := fun _ _ _ _ => False
abbrev TDS := DEnds → DSt → Mem → Prop
/-- the wish about exceptions at these slots -/
abbrev DEnds.at (D : DEnds) (ρ : DSt) : XD := fun c f M => D.ex c f ρ M
def fUp (K : PySem.W.Frag) (H : Hp) (M : Mem) (P : DSt → Mem → Prop) (Q : St → Hp → Prop) : Prop := ∀ ρ' M', P ρ' M' → ∀ σ' H', DvL K H' σ' ρ' → Sim K H' M' → Tr H M H' M' → Q σ' H'
structure EUp (K : PySem.W.Frag) (W : WX) (H : Hp) (M : Mem) (D0 : DEnds) (D : Ends) : Prop where
  nx : fUp K H M D0.nx D.nx
  rt : qUp K H M D0.rt D.rt
  bk : fUp K H M D0.bk D.bk
  ct : fUp K H M D0.ct D.ct
  ex : ∀ c f ρ' M', D0.ex c f ρ' M' → ∀ od σ' H', XRep K H' od f → DvL K H' σ' ρ' → Sim K H' M' → Tr H M H' M' → W c od σ' H'
section
variable {K : PySem.W.Frag} {W : WX} {H H' : Hp} {M M' : Mem} {D0 : DEnds} {D : Ends}
theorem fUp.mono {P : DSt → Mem → Prop} {Q : St → Hp → Prop} (h : fUp K H M P Q) (t : Tr H M H' M') : fUp K H' M' P Q := fun ρ m p σ h2 d s t2 => h ρ m p σ h2 d s (t.trans t2)
theorem EUp.mono (e : EUp K W H M D0 D) (t : Tr H M H' M') : EUp K W H' M' D0 D :=
  ⟨e.nx.mono t, e.rt.mono t, e.bk.mono t, e.ct.mono t, fun c f ρ m p od σ h2 x d s t2 => e.ex c f ρ m p od σ h2 x d s (t.trans t2)⟩
theorem EUp.w {σ : St} {ρ : DSt} (e : EUp K W H M D0 D) (dv : DvL K H σ ρ) : wUp K W σ H M (D0.at ρ) := fun c f M' h od H' x s t => e.ex c f ρ M' h od σ H' x (dv.mono t) s t
end
def upS (K : PySem.W.Frag) (W : WX) (td : TDS) : TS := fun D σ H => ∃ ρ M D0, DvL K H σ ρ ∧ Sim K H M ∧ td D0 ρ M ∧ EUp K W H M D0 D
def DS (X : Cx) (W : WX) (st : Stmt) (td : TDS) : Prop := PS X st (upS X.K W td)
def DSs (X : Cx) (W : WX) (st : List Stmt) (td : TDS) : Prop := PSs X st (upS X.K W td)
theorem PS.imp {X : Cx} {st : Stmt} {t t' : TS} (h : PS X st t) (k : ∀ D σ H, t' D σ H → t D σ H) : PS X st t' := ⟨fun pins s σ H D I q => h.run pins s σ H D I (k D σ H q)⟩
theorem PSs.imp {X : Cx} {st : List Stmt} {t t' : TS} (h : PSs X st t) (k : ∀ D σ H, t' D σ H → t D σ H) : PSs X st t' := ⟨fun pins s σ H D I q => h.run pins s σ H D I (k D σ H q)⟩
theorem PG.imp {X : Cx} {e : Expr} {t t' : TG} (h : PG X e t) (k : ∀ v σ H Q, t' v σ H Q → t v σ H Q) : PG X e t' := ⟨fun pins s σ H v u Q I r q => h.run pins s σ H v u Q I r (k v σ H Q q)⟩
theorem PGs.imp {X : Cx} {e : List Expr} {t t' : TGs} (h : PGs X e t) (k : ∀ v σ H Q, t' v σ H Q → t v σ H Q) : PGs X e t' := ⟨fun pins s σ H v u Q I r q => h.run pins s σ H v u Q I r (k v σ H Q q)⟩
theorem PI.imp {X : Cx} {tg e : Expr} {t t' : TI} (h : PI X tg e t) (k : ∀ σ H R, t' σ H R → t σ H R) : PI X tg e t' := ⟨fun pins s σ H R I q => h.run pins s σ H R I (k σ H R q)⟩

/-! ### blocks, small statements -/
section
variable {X : Cx} {W : WX} {st : Stmt} {rest : List Stmt} {t u : TDS} {e : Expr} {te : TDE} {pos : Pos}
def tdNext : TDS := fun D ρ M => D.nx ρ M
@[irreducible] def tdSeq (t u : TDS) : TDS := fun D ρ M => ∃ mid : DSt → Mem → Prop, t { D with nx := mid } ρ M ∧ ∀ ρ M, mid ρ M → u D ρ M
theorem ss_nil : DSs X W [] tdNext := PSs.imp pss_nil fun D σ H ⟨ρ, M, D0, dv, sm, q, eu⟩ => eu.nx ρ M q σ H dv sm (Tr.refl H M)
theorem EUp.seq {K : PySem.W.Frag} {H : Hp} {M : Mem} {D0 : DEnds} {D : Ends} {mid : DSt → Mem → Prop} (hm : ∀ ρ M, mid ρ M → u D0 ρ M) (eu : EUp K W H M D0 D) : EUp K W H M { D0 with nx := mid } { D with nx := upS K W u D } :=
  ⟨fun ρ M1 q σ H1 dv s t => ⟨ρ, M1, D0, dv, s, hm _ _ q, eu.mono t⟩, eu.rt, eu.bk, eu.ct, eu.ex⟩
theorem ss_cons (h1 : DS X W st t) (h2 : DSs X W rest u) : DSs X W (st :: rest) (tdSeq t u) := PSs.imp (pss_cons h1 h2) fun D σ H ⟨ρ, M, D0, dv, sm, q, eu⟩ => by
  unfold tdSeq at q
  obtain ⟨mid, q, hm⟩ := q
  exact ⟨ρ, M, _, dv, sm, q, eu.seq hm⟩
theorem ss_one (h1 : DS X W st t) : DSs X W [st] t := PSs.imp (pss_one h1) fun _ _ _ h => h
def tdBreak : TDS := fun D ρ M => D.bk ρ M
def tdCont : TDS := fun D ρ M => D.ct ρ M
theorem s_pass : DS X W (.Pass pos) tdNext := PS.imp ps_pass fun D σ H ⟨ρ, M, D0, dv, sm, q, eu⟩ => eu.nx ρ M q σ H dv sm (Tr.refl H M)
theorem s_break : DS X W (.Break pos) tdBreak := PS.imp ps_break fun D σ H ⟨ρ, M, D0, dv, sm, q, eu⟩ => eu.bk ρ M q σ H dv sm (Tr.refl H M)
theorem s_continue : DS X W (.Continue pos) tdCont := PS.imp ps_continue fun D σ H ⟨ρ, M, D0, dv, sm, q, eu⟩ => eu.ct ρ M q σ H dv sm (Tr.refl H M)
def tdDrop (te : TDE) : TDS := fun D ρ M => te ρ M (fun _ M1 => D.nx ρ M1) (D.at ρ)
theorem s_expr (he : DE X W e te) (hs : swapsWith e none pos.line X.env = pure false := by rfl) : DS X W (.Expr e pos) (tdDrop te) := PS.imp (ps_expr he hs) fun D σ H ⟨ρ, M, D0, dv, sm, q, eu⟩ =>
  ⟨ρ, M, _, _, dv, sm, q, fun d M1 q1 v H1 r1 s1 t1 => eu.nx ρ M1 q1 σ H1 (dv.mono t1) s1 t1, eu.w dv⟩
def tdRet (te : TDE) : TDS := fun D ρ M => te ρ M D.rt (D.at ρ)
theorem s_ret (he : DE X W e te) : DS X W (.Return (some e) pos) (tdRet te) := PS.imp (ps_ret he) fun D σ H ⟨ρ, M, D0, dv, sm, q, eu⟩ => ⟨ρ, M, _, _, dv, sm, q, eu.rt, eu.w dv⟩
def tdRetN : TDS := fun D _ M => D.rt .non M
theorem s_retN : DS X W (.Return none pos) tdRetN := PS.imp ps_retN fun D σ H ⟨ρ, M, D0, dv, sm, q, eu⟩ => eu.rt _ _ q _ H .non sm (Tr.refl H M)
def tdIfS (c : TDT) (t u : TDS) : TDS := fun D ρ M => c ρ M (fun b M1 => cnd b (t D ρ M1) (u D ρ M1)) (D.at ρ)
theorem s_if {c : Expr} {a b : List Stmt} {tc : TDT} (hc : DT X W c tc) (ha : DSs X W a t) (hb : DSs X W b u) : DS X W (.If c a b pos) (tdIfS tc t u) := PS.imp (ps_if hc ha hb) fun D σ H ⟨ρ, M, D0, dv, sm, q, eu⟩ => by
  refine ⟨ρ, M, _, _, dv, sm, q, fun k M1 q1 H1 s1 t1 => ?_, eu.w dv⟩
  cases k with
  | true => rw [cnd_true] at q1; rw [if_pos rfl]; exact ⟨ρ, M1, D0, dv.mono t1, s1, q1, eu.mono t1⟩
  | false => rw [cnd_false] at q1; rw [if_neg Bool.false_ne_true]; exact ⟨ρ, M1, D0, dv.mono t1, s1, q1, eu.mono t1⟩
def tdNever : TDS := fun _ _ _ => False
theorem s_never : DS X W st tdNever := PS.imp ps_never fun D σ H ⟨ρ, M, D0, dv, sm, q, eu⟩ => q
theorem ss_never {sts : List Stmt} : DSs X W sts tdNever := PSs.imp pss_never fun D σ H ⟨ρ, M, D0, dv, sm, q, eu⟩ => q
end

/-! ### targets -/
abbrev TDG := D → DSt → Mem → (DSt → Mem → Prop) → Prop
abbrev TDGs := List D → DSt → Mem → (DSt → Mem → Prop) → Prop
def upG (K : PySem.W.Frag) (td : TDG) : TG := fun v σ H Q => ∃ ρ M d Q0, DvL K H σ ρ ∧ Sim K H M ∧ Rep K H v d ∧ td d ρ M Q0 ∧ fUp K H M Q0 Q
def upGs (K : PySem.W.Frag) (td : TDGs) : TGs := fun vs σ H Q => ∃ ρ M ds Q0, DvL K H σ ρ ∧ Sim K H M ∧ Reps K H vs ds ∧ td ds ρ M Q0 ∧ fUp K H M Q0 Q
def DG (X : Cx) (e : Expr) (td : TDG) : Prop := PG X e (upG X.K td)
def DGs (X : Cx) (es : List Expr) (td : TDGs) : Prop := PGs X es (upGs X.K td)
section
variable {X : Cx} {W : WX} {pos : Pos} {e : Expr} {es : List Expr} {te : TDE}
def gdName (i : Nat) : TDG := fun d ρ M Q => Q (ρ.set i (some d)) M
theorem g_nameG {tg : Expr} {i : Nat} (h : PG X tg (gName i)) : DG X tg (gdName i) := PG.imp h fun v σ H Q ⟨ρ, M, d, Q0, dv, sm, r, q, f⟩ => f _ _ q _ H (dv.set r i) sm (Tr.refl H M)
theorem g_name (i : Nat) {x : Str} (hN : X.N.Nodup) (hi : X.N[i]? = some x := by rfl) (hx : Loc X.env.scope x := by first | exact .inl rfl | exact .inr rfl) (hf : X.fn x = true ∨ X.env.scope.names.lookup x = some .local := by first | exact .inl rfl | exact .inr rfl) : DG X (.Name x pos) (gdName i) := g_nameG (pg_name hN hi hx hf)
def gdNil : TDGs := fun ds ρ M Q => match ds with | [] => Q ρ M | _ => False
def gdCons (t : TDG) (u : TDGs) : TDGs := fun ds ρ M Q => match ds with | d :: ds => t d ρ M (fun ρ' M' => u ds ρ' M' Q) | [] => False
theorem gs_nil : DGs X [] gdNil := PGs.imp pgs_nil fun vs σ H Q ⟨ρ, M, ds, Q0, dv, sm, r, q, f⟩ => by
  cases ds with
  | nil => cases r; exact ⟨rfl, f _ _ q _ H dv sm (Tr.refl H M)⟩
  | cons => exact q.elim
theorem gs_cons {t : TDG} {u : TDGs} (h1 : DG X e t) (h2 : DGs X es u) (hs : (assignEach (e :: es) X.env).map (·.2) = assign e X.env :: (assignEach es X.env).map (·.2) := by rfl) : DGs X (e :: es) (gdCons t u) := PGs.imp (pgs_cons h1 h2 hs) fun vs σ H Q ⟨ρ, M, ds, Q0, dv, sm, r, q, f⟩ => by
  cases ds with
  | nil => exact q.elim
  | cons d ds =>
    cases r with
    | @cons v _ vs _ r rs =>
      refine ⟨v, vs, rfl, ρ, M, d, _, dv, sm, r, q, fun ρ1 M1 q1 σ1 H1 dv1 s1 t1 => ?_⟩
      exact ⟨ρ1, M1, ds, Q0, dv1, s1, rs.mono t1, q1, f.mono t1⟩
def gdTup (n : Nat) (t : TDGs) : TDG := fun d ρ M Q => match d with | .tup ds => ds.length = n ∧ t ds ρ M Q | _ => False
theorem g_tup {k : Nat} {t : TDGs} {n : Nat} (hc : X.calm = true) (h : DGs X es t) (hn : (assignEach es X.env).length = n := by rfl) (hst : (assignEach es X.env).findIdx? (·.1) = none := by rfl) : DG X (.Tuple es k pos) (gdTup n t) := PG.imp (pg_tup hc h hn hst) fun v σ H Q ⟨ρ, M, d, Q0, dv, sm, r, q, f⟩ => by
  cases d with
  | tup ds => cases r with | tup g rs => exact ⟨_, _, rfl, g, by rw [rs.length]; exact q.1, ρ, M, ds, Q0, dv, sm, rs, q.2, f⟩
  | _ => exact q.elim
/-- o[i] = v of a list -/
@[irreducible] def tdSetL : D → D → D → Mem → (Mem → Prop) → Prop := fun o i v M Q => match o, i with
  | .ref a, .int k => match M a with
    | some (.lst ds) => match ixN ds.length k with | some j => Q (mupd M a (.lst (ds.set j v))) | none => False
    | _ => False
  | _, _ => False
theorem setL_i {M : Mem} {Q : Mem → Prop} {a : Addr} {k : Int} {j : Nat} {v : D} {ds : List D} (h1 : M a = some (.lst ds)) (h2 : ixN ds.length k = some j) (h : Q (mupd M a (.lst (ds.set j v)))) : tdSetL (.ref a) (.int k) v M Q := by
  unfold tdSetL
  dsimp only
  rw [h1]
  dsimp only
  rw [h2]
  exact h
def gdSub (to ti : TDE) : TDG := fun d ρ M Q => to ρ M (fun o M1 => ti ρ M1 (fun i M2 => tdSetL o i d M2 fun M3 => Q ρ M3) fun _ _ _ => False) fun _ _ _ => False
theorem up_setL {K : PySem.W.Frag} {H : Hp} {M : Mem} {o i v : V} {d1 d2 d3 : D} {Q0 : Mem → Prop} {Q : Hp → Prop} (s : Sim K H M) (r1 : Rep K H o d1) (r2 : Rep K H i d2) (r3 : Rep K H v d3) (h : tdSetL d1 d2 d3 M Q0) (f : ∀ M', Q0 M' → ∀ H', Sim K H' M' → Tr H M H' M' → Q H') : rSetL o i v H Q := by
  unfold tdSetL at h
  split at h
  · cases r1; cases r2
    split at h
    · rename_i a k _ ds e
      split at h
      · rename_i j ej
        obtain ⟨vs, g, rs⟩ := s.lst e
        refine ⟨a, vs, k, j, rfl, rfl, g, by rw [rs.length]; exact ej, f _ h _ ?_ (Tr.wr e g rfl)⟩
        have t : Tr H M (upd H a (.lst (vs.set j v))) (mupd M a (.lst (ds.set j d3))) := Tr.wr e g rfl
        exact Sim.wr e g rfl s ⟨_, upd_same, (Reps.set r3 j rs).mono t⟩
      · exact h.elim
    · exact h.elim
  · exact h.elim
theorem w0_up {K : PySem.W.Frag} {W : WX} {σ : St} {H : Hp} {M : Mem} : wUp K W σ H M fun _ _ _ => False := fun _ _ _ h => h.elim
theorem g_sub {o i : Expr} {to ti : TDE} (ho : DE X W o to) (hi : DE X W i ti) (ha : ∀ v, assign (.Subscript o i pos) X.env v = (do
      let ov ← holding [v] (eval o X.env)
      let iv ← holding [v, ov] (eval i X.env)
      standAt pos
      holding [v, ov, iv] (setItem ov iv v)
      release [v, ov, iv] []) := by intro _; rfl) : DG X (.Subscript o i pos) (gdSub to ti) := PG.imp (pg_sub ho hi set_list ha) fun v σ H Q ⟨ρ, M, d, Q0, dv, sm, r, q, f⟩ => by
  refine ⟨ρ, M, _, _, dv, sm, q, fun d1 M1 q1 x H1 r1 s1 t1 => ?_, w0_up⟩
  refine ⟨ρ, M1, _, _, dv.mono t1, s1, q1, fun d2 M2 q2 y H2 r2 s2 t2 => ?_, w0_up⟩
  have t12 := t1.trans t2
  exact up_setL s2 (r1.mono t2) r2 (r.mono t12) q2 fun M3 q3 H3 s3 t3 => f _ _ q3 _ H3 (dv.mono (t12.trans t3)) s3 (t12.trans t3)
/-! ### assignments -/
def tdAsg (te : TDE) (g : TDG) : TDS := fun D ρ M => te ρ M (fun d M1 => g d ρ M1 D.nx) (D.at ρ)
theorem up_asg {K : PySem.W.Frag} {g : TDG} {gg : TG} (hgg : ∀ v σ H Q, upG K g v σ H Q → gg v σ H Q) {D : Ends} {σ : St} {H : Hp} (h : upS K W (tdAsg te g) D σ H) : tAsg (upE K W te) gg D σ H := by
  obtain ⟨ρ, M, D0, dv, sm, q, eu⟩ := h
  exact ⟨ρ, M, _, _, dv, sm, q, fun d M1 q1 v H1 r1 s1 t1 => hgg _ _ _ _ ⟨ρ, M1, d, _, dv.mono t1, s1, r1, q1, eu.nx.mono t1⟩, eu.w dv⟩
theorem s_asg {tg : Expr} {g : TDG} (he : DE X W e te) (hg : DG X tg g) (hs : swapsWithSole [tg] e pos.line X.env = pure false := by rfl) (hw : swappedStores [tg] e X.env = pure none := by rfl)
    (h1 : (assignEach [tg] X.env).map (·.2) = [assign tg X.env] := by rfl) : DS X W (.Assign [tg] e pos) (tdAsg te g) := PS.imp (ps_asg he hg hs hw h1) fun D σ H h => up_asg (fun _ _ _ _ h => h) h
theorem s_set (i : Nat) {x : Str} {pos' : Pos} (hN : X.N.Nodup) (he : DE X W e te) (hi : X.N[i]? = some x := by rfl) (hx : Loc X.env.scope x := by first | exact .inl rfl | exact .inr rfl) (hs : swapsWith e (some (.Name x pos')) pos.line X.env = pure false := by rfl) (hf : X.fn x = true ∨ X.env.scope.names.lookup x = some .local := by first | exact .inl rfl | exact .inr rfl) :
    DS X W (.Assign [.Name x pos'] e pos) (tdAsg te (gdName i)) := PS.imp (ps_set hN hi hx he hs hf) fun D σ H h => up_asg (fun v σ H Q ⟨ρ, M, d, Q0, dv, sm, r, q, f⟩ => f _ _ q _ H (dv.set r i) sm (Tr.refl H M)) h
def tdPar (i j : Nat) (ta : TDA) : TDS := fun D ρ M => ta ρ M (fun ds M1 => match ds with | [a, b] => D.nx ((ρ.set i (some a)).set j (some b)) M1 | _ => False) (D.at ρ)
theorem s_par (i j : Nat) {x y : Str} {a b : Expr} {ta : TDA} {px py pt : Pos} {kt k2 pt2} (hc : X.calm = true) (hN : X.N.Nodup) (ha : DA X W [a, b] ta) (hi : X.N[i]? = some x := by rfl) (hj : X.N[j]? = some y := by rfl) (hij : i ≠ j := by decide)
    (hx : X.env.scope.names.lookup x = some .local := by rfl) (hy : X.env.scope.names.lookup y = some .local := by rfl)
    (hw : swappedStores [.Tuple [.Name x px, .Name y py] kt pt] (.Tuple [a, b] k2 pt2) X.env = pure (some [x, y]) := by rfl)
    (hs : swapsWithSole [.Tuple [.Name x px, .Name y py] kt pt] (.Tuple [a, b] k2 pt2) pos.line X.env = pure false := by rfl) :
    DS X W (.Assign [.Tuple [.Name x px, .Name y py] kt pt] (.Tuple [a, b] k2 pt2) pos) (tdPar i j ta) := PS.imp (ps_par hc hN hi hj hij hx hy ha hw hs) fun D σ H ⟨ρ, M, D0, dv, sm, q, eu⟩ => by
  refine ⟨ρ, M, _, _, dv, sm, q, fun ds M1 q1 vs H1 r1 s1 t1 => ?_, eu.w dv⟩
  match ds, vs, r1, q1 with
  | [d1, d2], _, .cons r1 (.cons r2 .nil), q1 => exact ⟨_, _, rfl, eu.nx _ _ q1 _ H1 (((dv.mono t1).set r1 i).set r2 j) s1 t1⟩
/-- name op= e -/
def tdAug (i : Nat) (te : TDE) (rd : RD2) : TDS := fun D ρ M => match ρ.getD i none with
  | some x => te ρ M (fun y M1 => rd x y M1 fun z M2 => D.nx (ρ.set i (some z)) M2) (D.at ρ)
  | none => False
theorem s_aug (i : Nat) {x : Str} {op : Operator} {ti : TIp} {rd : RD2} {pos' : Pos} (ho : PIp X op ti) (l : LiftR X.K ti rd) (hN : X.N.Nodup) (he : DE X W e te) (hi : X.N[i]? = some x := by rfl) (hx : Loc X.env.scope x := by first | exact .inl rfl | exact .inr rfl) (hf : X.fn x = true ∨ X.env.scope.names.lookup x = some .local := by first | exact .inl rfl | exact .inr rfl) :
    DS X W (.AugAssign (.Name x pos') op e pos) (tdAug i te rd) := PS.imp (ps_aug hN hi hx he ho hf) fun D σ H ⟨ρ, M, D0, dv, sm, q, eu⟩ => by
  unfold tdAug at q
  split at q
  · rename_i d e1
    obtain ⟨v, e2, r⟩ := dv.get (getD_some e1)
    refine ⟨v, e2, ρ, M, _, _, dv, sm, q, fun d2 M1 q1 y H1 r1 s1 t1 => ?_, eu.w dv⟩
    exact l v y H1 M1 d d2 _ _ (r.mono t1) r1 s1 q1 fun z M2 q2 w H2 r2 s2 t2 => eu.nx _ _ q2 _ H2 ((dv.mono (t1.trans t2)).set r2 i) s2 (t1.trans t2)
  · exact q.elim
theorem l_ipI {K : PySem.W.Frag} (f : Int → Int → Int) : LiftR K (ipI f) (rdI0 fun i j => .int (f i j)) := fun x y H M dx dy Q0 Q rx ry s h hq => by
  cases dx <;> cases dy <;> try exact h.elim
  cases rx; cases ry
  exact ⟨_, _, rfl, rfl, hq _ _ h _ H (.int _) s (Tr.refl H M)⟩
@[irreducible] def rdAugAdd : RD2 := rdI0 fun i j => .int (i + j)
theorem augAdd_i {M : Mem} {Q : D → Mem → Prop} {i j : Int} (h : Q (.int (i + j)) M) : rdAugAdd (.int i) (.int j) M Q := by unfold rdAugAdd; exact h
theorem l_augAdd {K : PySem.W.Frag} : LiftR K (ipI (· + ·)) rdAugAdd := by unfold rdAugAdd; exact l_ipI _
theorem s_augAdd (i : Nat) {x : Str} {pos' : Pos} (hN : X.N.Nodup) (he : DE X W e te) (hi : X.N[i]? = some x := by rfl) (hx : Loc X.env.scope x := by first | exact .inl rfl | exact .inr rfl) (hf : X.fn x = true ∨ X.env.scope.names.lookup x = some .local := by first | exact .inl rfl | exact .inr rfl) :
    DS X W (.AugAssign (.Name x pos') .Add e pos) (tdAug i te rdAugAdd) := s_aug i ip_add l_augAdd hN he hi hx hf
theorem s_augFdiv (i : Nat) {x : Str} {pos' : Pos} (hN : X.N.Nodup) (he : DE X W e te) (hi : X.N[i]? = some x := by rfl) (hx : Loc X.env.scope x := by first | exact .inl rfl | exact .inr rfl) (hf : X.fn x = true ∨ X.env.scope.names.lookup x = some .local := by first | exact .inl rfl | exact .inr rfl) :
    DS X W (.AugAssign (.Name x pos') .FloorDiv e pos) (tdAug i te rdFdiv) := s_aug (ti := rI CDivW fun i j => .int (i / j)) i iop_fdivW l_fdiv' hN he hi hx hf
end

/-! ### while -/
section
variable {X : Cx} {W : WX} {pos : Pos}
@[irreducible] def tdWhile (c : TDT) (tb : TDS) : TDS := fun D ρ M => ∃ V : Nat → DSt → Mem → Prop, (∃ m, V m ρ M) ∧ ∀ m ρ M, V m ρ M →
  c ρ M (fun b M1 => cnd b (tb { D with nx := fun ρ' M' => ∃ m', m' < m ∧ V m' ρ' M', ct := fun ρ' M' => ∃ m', m' < m ∧ V m' ρ' M', bk := D.nx } ρ M1) (D.nx ρ M1)) (D.at ρ)
theorem s_while {c : Expr} {body : List Stmt} {tc : TDT} {tb : TDS} (hp : PassesOwn (model X.prog X.w) X.A X.env X.xe) (hc : DT X W c tc) (hb : DSs X W body tb) : DS X W (.While c body [] pos) (tdWhile tc tb) := PS.imp (ps_while hp hc hb) fun D σ H ⟨ρ, M, D0, dv, sm, q, eu⟩ => by
  unfold tdWhile at q
  obtain ⟨V, ⟨m0, v0⟩, turn⟩ := q
  refine ⟨fun m σ1 H1 => ∃ ρ1 M1, DvL X.K H1 σ1 ρ1 ∧ Sim X.K H1 M1 ∧ Tr H M H1 M1 ∧ V m ρ1 M1, ⟨m0, ρ, M, dv, sm, Tr.refl H M, v0⟩, ?_⟩
  rintro m σ1 H1 ⟨ρ1, M1, dv1, s1, t1, v1⟩
  have eu1 := eu.mono t1
  refine ⟨ρ1, M1, _, _, dv1, s1, turn m ρ1 M1 v1, fun b M2 q2 H2 s2 t2 => ?_, eu1.w dv1⟩
  cases b with
  | true =>
    rw [cnd_true] at q2; rw [if_pos rfl]
    have again : fUp X.K H2 M2 (fun ρ' M' => ∃ m', m' < m ∧ V m' ρ' M') fun σ' H' => ∃ m', m' < m ∧ ∃ ρ1 M1, DvL X.K H' σ' ρ1 ∧ Sim X.K H' M1 ∧ Tr H M H' M1 ∧ V m' ρ1 M1 := fun ρ' M' ⟨m', hm, v'⟩ σ' H' dv' s' t' => ⟨m', hm, ρ', M', dv', s', (t1.trans t2).trans t', v'⟩
    have eu2 := eu1.mono t2
    exact ⟨fun σ' H' => ∃ m', m' < m ∧ ∃ ρ1 M1, DvL X.K H' σ' ρ1 ∧ Sim X.K H' M1 ∧ Tr H M H' M1 ∧ V m' ρ1 M1, fun σ' H' h => h, ρ1, M2, _, dv1.mono t2, s2, q2, ⟨again, eu2.rt, eu2.nx, again, eu2.ex⟩⟩
  | false => rw [cnd_false] at q2; rw [if_neg Bool.false_ne_true]; exact eu1.nx _ _ q2 _ H2 (dv1.mono t2) s2 t2
/-- by an invariant and a measure -/
theorem while_by {c : TDT} {tb : TDS} {D : DEnds} {ρ : DSt} {M : Mem} (I : DSt → Mem → Prop) (μ : DSt → Mem → Nat) (h0 : I ρ M)
    (hs : ∀ ρ M, I ρ M → c ρ M (fun b M1 => cnd b (tb { D with nx := fun ρ' M' => ∃ m', m' < μ ρ M ∧ m' = μ ρ' M' ∧ I ρ' M', ct := fun ρ' M' => ∃ m', m' < μ ρ M ∧ m' = μ ρ' M' ∧ I ρ' M', bk := D.nx } ρ M1) (D.nx ρ M1)) (D.at ρ)) : tdWhile c tb D ρ M := by
  unfold tdWhile
  exact ⟨fun m ρ M => m = μ ρ M ∧ I ρ M, ⟨_, rfl, h0⟩, fun m ρ M ⟨e, h⟩ => by subst e; exact hs ρ M h⟩
end

/-! ### what is walked -/
structure DWalk (K : PySem.W.Frag) (J : It) (ds : List D) (Gd : Mem → Prop) (S : Hp → Mem → Prop) : Prop where
  stay : ∀ H M H' M', S H M → Tr H M H' M' → S H' M'
  goes : ∀ i H M, i < ds.length → S H M → Sim K H M → Gd M → J.go i H
  stops : ∀ H M, S H M → Sim K H M → Gd M → J.stop ds.length H
  yields : ∀ i H M x H', i < ds.length → S H M → Sim K H M → Gd M → J.yld i H x H' → ∃ d, ds[i]? = some d ∧ Rep K H' x d ∧ Sim K H' M ∧ Tr H M H' M
abbrev TDI := DSt → Mem → (List D → (Mem → Prop) → Mem → Prop) → XD → Prop
def upI (K : PySem.W.Frag) (W : WX) (td : TDI) : TI := fun σ H R => ∃ ρ M Q0 E0, DvL K H σ ρ ∧ Sim K H M ∧ td ρ M Q0 E0 ∧
  (∀ ds Gd M', Q0 ds Gd M' → ∀ J S H', DWalk K J ds Gd S → S H' M' → Sim K H' M' → Tr H M H' M' → R J H') ∧ wUp K W σ H M E0
def DI (X : Cx) (W : WX) (tg e : Expr) (td : TDI) : Prop := PI X tg e (upI X.K W td)
section
variable {X : Cx} {W : WX} {tg e : Expr} {te : TDE}
abbrev gTrue : Mem → Prop := fun _ => True
/-- a tuple, a list that may be read: as it stands at each turn -/
def tdiSeq (t : TDE) : TDI := fun ρ M Q E => t ρ M (fun d M1 => match d with
  | .tup ds => Q ds gTrue M1
  | .ref a => match M1 a with
    | some (.lst ds) => Q ds (fun M => M a = some (.lst ds)) M1
    | _ => False
  | _ => False) E
theorem dw_list {K : PySem.W.Frag} {a : Addr} {ds : List D} {Gd : Mem → Prop} {S : Hp → Mem → Prop} (hst : ∀ H M H' M', S H M → Tr H M H' M' → S H' M') (h : ∀ H M, S H M → Sim K H M → Gd M → ∃ vs, SqL K H a vs ∧ Reps K H vs ds) :
    DWalk K (Itl K a) ds Gd S where
  stay := hst
  goes := fun i H M hi hs sm hg => by
    obtain ⟨vs, g, r⟩ := h H M hs sm hg
    have hl := r.length
    exact ⟨vs, vs[i]'(by omega), g, by simp⟩
  stops := fun H M hs sm hg => by
    obtain ⟨vs, g, r⟩ := h H M hs sm hg
    exact ⟨vs, g, by rw [r.length]; exact Nat.le_refl _⟩
  yields := fun i H M x H' hi hs sm hg y => by
    obtain ⟨vs, g, r⟩ := h H M hs sm hg
    obtain ⟨rfl, y⟩ := y
    obtain ⟨v, e, rv⟩ := r.get (List.getElem?_eq_getElem hi)
    have := y vs g
    rw [e] at this; cases this
    exact ⟨_, List.getElem?_eq_getElem hi, rv, sm, Tr.refl _ _⟩
theorem dw_tup {K : PySem.W.Frag} {a : Addr} {ds : List D} {Gd : Mem → Prop} {S : Hp → Mem → Prop} (hst : ∀ H M H' M', S H M → Tr H M H' M' → S H' M') (h : ∀ H M, S H M → Sim K H M → Gd M → ∃ vs, SqT K H a vs ∧ Reps K H vs ds) : DWalk K (Itt K a) ds Gd S where
  stay := hst
  goes := fun i H M hi hs sm hg => by
    obtain ⟨vs, g, r⟩ := h H M hs sm hg
    have hl := r.length
    exact ⟨vs, vs[i]'(by omega), g, by simp⟩
  stops := fun H M hs sm hg => by
    obtain ⟨vs, g, r⟩ := h H M hs sm hg
    exact ⟨vs, g, by rw [r.length]; exact Nat.le_refl _⟩
  yields := fun i H M x H' hi hs sm hg y => by
    obtain ⟨vs, g, r⟩ := h H M hs sm hg
    obtain ⟨rfl, y⟩ := y
    obtain ⟨v, e, rv⟩ := r.get (List.getElem?_eq_getElem hi)
    have := y vs g
    rw [e] at this; cases this
    exact ⟨_, List.getElem?_eq_getElem hi, rv, sm, Tr.refl _ _⟩
/-- a list, a tuple, a text -/
theorem pi_seq {l : Expr} {tl : TE} (hl : PE X l tl) : PI X tg l (fun σ H R => tl σ H fun x H1 => (∃ a, x = .ref a ∧ (∃ xs, SqL X.K H1 a xs) ∧ R (Itl X.K a) H1) ∨ (∃ a, x = .ref a ∧ (∃ xs, SqT X.K H1 a xs) ∧ R (Itt X.K a) H1) ∨ ∃ z, x = .str z ∧ R (Its z) H1) := by
  refine ⟨fun pins s σ H R I h => ?_⟩
  refine thn (hl.run pins s σ H _ I h) fun v s1 ⟨x, H1, I1, r1, q1⟩ => ?_
  rcases q1 with ⟨a, e, ⟨xs, hq⟩, q⟩ | ⟨a, e, ⟨xs, hq⟩, q⟩ | ⟨z, e, q⟩
  · subst e
    cases r1
    obtain ⟨its, rv, p, hz⟩ := I1.list hq
    refine wpAny_pyIter_list p.isList ?_
    refine ⟨s1.heap.objs.size, [s1.heap.objs.size], _, _, H1, rfl, I1.kept (t' := s1.toks) fun b o e => Heap.get?_push_of_some _ e, turn_list a _, ⟨_, Heap.get?_push_size _ rfl, rfl, rfl⟩, fun b hb => ?_, q⟩
    have e : b = s1.heap.objs.size := by simpa using hb
    subst e
    exact I1.fpOk (Nat.le_refl _) (I1.hok.fresh (Nat.le_refl _))
  · subst e
    cases r1
    obtain ⟨its, rv, p, hz⟩ := I1.tuple hq
    refine wpAny_pyIter_tuple (show s1.heap.IsTuple a its.toArray from p) ?_
    refine ⟨s1.heap.objs.size, [s1.heap.objs.size], _, _, H1, rfl, I1.kept (t' := s1.toks) fun b o e => Heap.get?_push_of_some _ e, turn_tuple a _, ⟨_, Heap.get?_push_size _ rfl, rfl, rfl⟩, fun b hb => ?_, q⟩
    have e : b = s1.heap.objs.size := by simpa using hb
    subst e
    exact I1.fpOk (Nat.le_refl _) (I1.hok.fresh (Nat.le_refl _))
  · subst e
    obtain ⟨t, rfl⟩ := r1
    cases ha : z.cps.all (· < 128)
    · exact wpAny_pyIter_wide ha (pi_one (tk := s1.toks) I1 _ (turn_str _ z t "str_iterator" (.inr rfl)) ⟨_, Heap.get?_push_size _ rfl, rfl, rfl⟩ q)
    · exact wpAny_pyIter_ascii ha (pi_one (tk := s1.toks) I1 _ (turn_str _ z t "str_ascii_iterator" (.inl rfl)) ⟨_, Heap.get?_push_size _ rfl, rfl, rfl⟩ q)
def signsD (z : Str) : List D := z.cps.toList.map fun c => D.str ⟨#[c]⟩
theorem dw_str {K : PySem.W.Frag} {z : Str} : DWalk K (Its z) (signsD z) gTrue (fun _ _ => True) where
  stay := fun _ _ _ _ _ _ => trivial
  goes := fun i H M hi _ _ _ => by
    show i < z.cps.size
    simpa [signsD] using hi
  stops := fun H M _ _ _ => by
    show z.cps.size ≤ _
    simp [signsD]
  yields := fun i H M x H' hi _ sm _ y => by
    obtain ⟨rfl, c, hc, rfl⟩ := y
    refine ⟨_, ?_, .str _, sm, Tr.refl _ _⟩
    have e : z.cps.toList[i]? = some c := by simpa using hc
    simp [signsD, e]
@[irreducible] def rdIt (d : D) (M1 : Mem) (Q : List D → (Mem → Prop) → Mem → Prop) : Prop := match d with
  | .tup ds => Q ds gTrue M1
  | .rol ds => Q ds gTrue M1
  | .str z => Q (signsD z) gTrue M1
  | .ref a => match M1 a with
    | some (.lst ds) => Q ds (fun M => M a = some (.lst ds)) M1
    | _ => False
  | _ => False
theorem it_t {M : Mem} {Q : List D → (Mem → Prop) → Mem → Prop} {ds : List D} (h : Q ds gTrue M) : rdIt (.tup ds) M Q := by unfold rdIt; exact h
theorem it_r {M : Mem} {Q : List D → (Mem → Prop) → Mem → Prop} {ds : List D} (h : Q ds gTrue M) : rdIt (.rol ds) M Q := by unfold rdIt; exact h
theorem it_s {M : Mem} {Q : List D → (Mem → Prop) → Mem → Prop} {z : Str} (h : Q (signsD z) gTrue M) : rdIt (.str z) M Q := by unfold rdIt; exact h
theorem it_l {M : Mem} {Q : List D → (Mem → Prop) → Mem → Prop} {a : Addr} {ds : List D} (h1 : M a = some (.lst ds)) (h : Q ds (fun M => M a = some (.lst ds)) M) : rdIt (.ref a) M Q := by unfold rdIt; dsimp only; rw [h1]; exact h
def tdiAny (t : TDE) : TDI := fun ρ M Q E => t ρ M (fun d M1 => rdIt d M1 Q) E
theorem i_any (h : DE X W e te) : DI X W tg e (tdiAny te) := PI.imp (pi_seq h) fun σ H R ⟨ρ, M, Q0, E0, dv, sm, q, hq, he⟩ => by
  refine ⟨ρ, M, _, E0, dv, sm, q, fun d M1 q1 v H1 r1 s1 t1 => ?_, he⟩
  dsimp only at q1
  unfold rdIt at q1
  split at q1
  · cases r1 with
    | @tup a vs ds g rs =>
      refine .inr (.inl ⟨a, rfl, ⟨vs, g⟩, hq _ _ _ q1 _ (fun H M => SqT X.K H a vs ∧ Reps X.K H vs _) H1 (dw_tup (fun H M H' M' hs t => ⟨rd_mono t.tup t.frz hs.1, hs.2.mono t⟩) fun H M hs _ _ => ⟨vs, hs⟩) ⟨g, rs⟩ s1 t1⟩)
  · cases r1 with
    | @rol a vs ds g rs =>
      refine .inl ⟨a, rfl, ⟨vs, g.sq⟩, hq _ _ _ q1 _ (fun H M => SqLR X.K H a vs ∧ Reps X.K H vs _) H1 (dw_list (fun H M H' M' hs t => ⟨hs.1.mono t.frz, hs.2.mono t⟩) fun H M hs _ _ => ⟨vs, hs.1.sq, hs.2⟩) ⟨g, rs⟩ s1 t1⟩
  · cases r1; exact .inr (.inr ⟨_, rfl, hq _ _ _ q1 _ _ H1 dw_str trivial s1 t1⟩)
  · cases r1
    split at q1
    · rename_i a _ ds em
      obtain ⟨vs, g, rs⟩ := s1 _ _ em
      exact .inl ⟨a, rfl, ⟨vs, SqL.of g⟩, hq _ _ _ q1 _ (fun _ _ => True) H1 (dw_list (fun _ _ _ _ _ _ => trivial) fun H M _ sm hg => by
        obtain ⟨vs, g, rs⟩ := sm _ _ hg
        exact ⟨vs, SqL.of g, rs⟩) trivial s1 t1⟩
    · exact q1.elim
  · exact q1.elim
/-- a list that nobody else sees -/
abbrev TDL := DSt → Mem → (List D → Mem → Prop) → XD → Prop
def upL (K : PySem.W.Frag) (W : WX) (td : TDL) : TE := fun σ H Q => ∃ ρ M Q0 E0, DvL K H σ ρ ∧ Sim K H M ∧ td ρ M Q0 E0 ∧ (∀ ds M', Q0 ds M' → ∀ a vs H', H a = none → H' a = some (.lst vs) → M' a = none → Reps K H' vs ds → Sim K H' M' → Tr H M H' M' → Q (.ref a) H') ∧ wUp K W σ H M E0
def DL (X : Cx) (W : WX) (e : Expr) (td : TDL) : Prop := PE X e (upL X.K W td)
theorem DL.q {t : TDL} (h : DL X W e t) : DQ X W e t := PE.imp h fun σ H Q ⟨ρ, M, Q0, E0, dv, sm, q, hq, he⟩ => ⟨ρ, M, Q0, E0, dv, sm, q, fun ds M1 q1 a vs H1 _ g _ r1 s1 t1 => hq ds M1 q1 a vs H1 (SqL.of g) r1 s1 t1, he⟩
def tdLE (t : TDL) : TDE := fun ρ M Q E => t ρ M (fun ds M1 => ∀ p, M1 p = none → Q (.ref p) (mupd M1 p (.lst ds))) E
theorem DL.de {t : TDL} (h : DL X W e t) : DE X W e (tdLE t) := PE.imp h fun σ H Q ⟨ρ, M, Q0, E0, dv, sm, q, hq, he⟩ => by
  refine ⟨ρ, M, _, E0, dv, sm, q, fun ds M1 q1 a vs H1 gf g gm r1 s1 t1 => ?_, he⟩
  refine hq _ _ (q1 a gm) _ H1 (.ref a) (fun b o hb => ?_) ⟨t1.tup, t1.frz, fun b o hb n => ?_, t1.st, t1.tb, t1.dom⟩
  · by_cases e : b = a
    · subst e; rw [mupd_same] at hb; cases hb; exact ⟨vs, g, r1⟩
    · rw [mupd_ne e] at hb; exact s1 b o hb
  · rw [mupd_ne (Hfree hb gf)]; exact t1.fr b o hb n
theorem l_lst {es : List Expr} {t : TDA} {pos : Pos} (h : DA X W es t) : DL X W (.List es pos) (tdQlst t) := PE.imp (pe_lst h) fun σ H Q ⟨ρ, M, Q0, E0, dv, sm, q, hq, he⟩ => by
  refine ⟨ρ, M, _, E0, dv, sm, q, fun ds M1 q1 vs H1 r1 s1 t1 => ?_, he⟩
  refine ⟨by rw [r1.length]; exact q1.1, fun p hp => ?_⟩
  have t2 : Tr H1 M1 (upd H1 p (.lst vs)) M1 := Tr.new hp
  exact hq _ _ q1.2 p vs _ (t1.fresh hp) upd_same (s1.free hp) (r1.mono t2) (s1.new hp) (t1.trans t2)
def tdiL (t : TDL) : TDI := fun ρ M Q E => t ρ M (fun ds M1 => Q ds gTrue M1) E
theorem i_l {t : TDL} (h : DL X W e t) : DI X W tg e (tdiL t) := PI.imp (pi_list h) fun σ H R ⟨ρ, M, Q0, E0, dv, sm, q, hq, he⟩ => by
  refine ⟨ρ, M, _, E0, dv, sm, q, fun ds M1 q1 a vs H1 _ g gm r1 s1 t1 => ?_, he⟩
  exact ⟨a, rfl, ⟨vs, SqL.of g⟩, hq _ _ _ q1 _ (fun H M => H a = some (.lst vs) ∧ M a = none ∧ Reps X.K H vs ds) H1 (dw_list (fun H M H' M' hs t => ⟨t.st _ _ hs.1 hs.2.1 rfl, t.fr _ _ hs.1 hs.2.1, hs.2.2.mono t⟩) fun H M hs _ _ => ⟨vs, SqL.of hs.1, hs.2.2⟩) ⟨g, gm, r1⟩ s1 t1⟩
/-- range -/
def rngD (lo : Int) (n : Nat) : List D := (List.range n).map fun (i : Nat) => D.int (lo + (i : Int))
theorem rngD_length (lo : Int) (n : Nat) : (rngD lo n).length = n := by simp [rngD]
theorem rngD_get {lo : Int} {n i : Nat} (h : i < n) : (rngD lo n)[i]? = some (.int (lo + i)) := by simp [rngD, h]
theorem dw_range {K : PySem.W.Frag} {lo : Int} {n : Nat} : DWalk K (Itr lo n) (rngD lo n) gTrue (fun _ _ => True) where
  stay := fun _ _ _ _ _ _ => trivial
  goes := fun i H M hi _ _ _ => by rw [rngD_length] at hi; exact hi
  stops := fun H M _ _ _ => by show n ≤ _; rw [rngD_length]; exact Nat.le_refl _
  yields := fun i H M x H' hi _ sm _ y => by
    obtain ⟨rfl, rfl⟩ := y
    rw [rngD_length] at hi
    exact ⟨_, rngD_get hi, .int _, sm, Tr.refl _ _⟩
def tdiR1 (ta : TDE) : TDI := fun ρ M Q E => ta ρ M (fun d M1 => match d with | .int j => -(2 ^ 62) ≤ j ∧ j < 2 ^ 62 ∧ Q (rngD 0 j.toNat) gTrue M1 | _ => False) E
def tdiR2 (ta tb : TDE) : TDI := fun ρ M Q E => ta ρ M (fun d M1 => tb ρ M1 (fun c M2 => match d, c with | .int i, .int j => (-(2 ^ 62) ≤ i ∧ i < 2 ^ 62 ∧ -(2 ^ 62) ≤ j ∧ j < 2 ^ 62) ∧ Q (rngD i (j - i).toNat) gTrue M2 | _, _ => False) E) E
theorem i_r1 {a : Expr} {ta : TDE} {p pos : Pos} (hm : X.mg "range" = none) (ha : DE X W a ta) (hg : Gl X "range" := by rfl) (hs : starEach [a] X.env = [(false, eval a X.env)] := by rfl) : DI X W tg (.Call (.Name "range" p) [a] [] pos) (tdiR1 ta) :=
  PI.imp (pi_range1 hg hm (pa_cons ha pa_nil hs) hs) fun σ H R ⟨ρ, M, Q0, E0, dv, sm, q, hq, he⟩ => by
    refine ⟨ρ, M, _, E0, dv, sm, q, fun d M1 q1 v H1 r1 s1 t1 => ?_, he⟩
    cases d <;> try exact q1.elim
    cases r1
    exact ⟨_, rfl, q1.1, q1.2.1, hq _ _ _ q1.2.2 _ _ H1 dw_range trivial s1 t1⟩
theorem i_r2 {a b : Expr} {ta tb : TDE} {p pos : Pos} (hm : X.mg "range" = none) (ha : DE X W a ta) (hb : DE X W b tb) (hg : Gl X "range" := by rfl) (hs : starEach [a, b] X.env = [(false, eval a X.env), (false, eval b X.env)] := by rfl) (hs2 : starEach [b] X.env = [(false, eval b X.env)] := by rfl) : DI X W tg (.Call (.Name "range" p) [a, b] [] pos) (tdiR2 ta tb) :=
  PI.imp (pi_range2 hg hm (pa_cons ha (pa_cons hb pa_nil hs2) (hs.trans (by rw [hs2]))) hs hs2) fun σ H R ⟨ρ, M, Q0, E0, dv, sm, q, hq, he⟩ => by
    refine ⟨ρ, M, _, E0, dv, sm, q, fun d M1 q1 v H1 r1 s1 t1 => ?_, he⟩
    refine ⟨ρ, M1, _, E0, dv.mono t1, s1, q1, fun c M2 q2 w H2 r2 s2 t2 => ?_, he.mono t1⟩
    cases d <;> cases c <;> try exact q2.elim
    cases r1; cases r2
    exact ⟨_, _, rfl, q2.1, hq _ _ _ q2.2 _ _ H2 dw_range trivial s2 (t1.trans t2)⟩
end

/-! ### for -/
section
variable {X : Cx} {W : WX} {pos : Pos} {tg iter : Expr} {body : List Stmt} {wi : TDI} {g : TDG} {tb : TDS}
/-- by an invariant over the turn -/
@[irreducible] def ForI (ds : List D) (Gd : Mem → Prop) (g : TDG) (tb : TDS) (D : DEnds) (ρ : DSt) (M : Mem) : Prop := ∃ I : Nat → DSt → Mem → Prop, I 0 ρ M ∧ (∀ i ρ M, i ≤ ds.length → I i ρ M → Gd M) ∧
  (∀ i d ρ M, ds[i]? = some d → I i ρ M → g d ρ M fun ρ' M' => tb { D with nx := I (i + 1), ct := I (i + 1), bk := D.nx } ρ' M') ∧ ∀ ρ M, I ds.length ρ M → D.nx ρ M
def tdFor (wi : TDI) (g : TDG) (tb : TDS) : TDS := fun D ρ M => wi ρ M (fun ds Gd M1 => ForI ds Gd g tb D ρ M1) (D.at ρ)
theorem s_for (hp : PassesOwn (model X.prog X.w) X.A X.env X.xe) (hc : X.calm = true) (hi : DI X W tg iter wi) (hg : DG X tg g) (hb : DSs X W body tb)
    (hs : ∀ x, foldedSetIterable iter X.env x = pure x := by intro _; rfl) : DS X W (.For tg iter body [] pos) (tdFor wi g tb) := PS.imp (ps_for hp hc hi hg hb hs) fun D σ H ⟨ρ, M, D0, dv, sm, q, eu⟩ => by
  refine ⟨ρ, M, _, _, dv, sm, q, fun ds Gd M1 q1 J S H1 dw st s1 t1 => ?_, eu.w dv⟩
  unfold ForI at q1
  obtain ⟨I, h0, hG, hs, hd⟩ := q1
  let P : Nat → St → Hp → Prop := fun i σ' H' => ∃ ρ' M', DvL X.K H' σ' ρ' ∧ Sim X.K H' M' ∧ Tr H M H' M' ∧ S H' M' ∧ I i ρ' M'
  have pf : ∀ {i : Nat} {H2 : Hp} {M2 : Mem}, Tr H M H2 M2 → S H2 M2 → fUp X.K H2 M2 (I i) (P i) := fun {i H2 M2} t2 st2 ρ' M' hi σ' H' dv' s' t' => ⟨ρ', M', dv', s', t2.trans t', dw.stay _ _ _ _ st2 t', hi⟩
  refine ⟨fun i m σ' H' => m = ds.length - i ∧ i ≤ ds.length ∧ P i σ' H', ⟨ds.length, by simp, Nat.zero_le _, ρ, M1, dv.mono t1, s1, t1, st, h0⟩, ?_⟩
  rintro i m σ2 H2 ⟨rfl, hi, ρ2, M2, dv2, s2, t2, st2, i2⟩
  have gd := hG i ρ2 M2 hi i2
  by_cases hlt : i < ds.length
  · refine .inr ⟨dw.goes i H2 M2 hlt st2 s2 gd, P (i + 1), fun σ' H' p' => ⟨ds.length - (i + 1), by omega, rfl, hlt, p'⟩, fun x H3 y => ?_⟩
    obtain ⟨d, ed, rd, s3, t3⟩ := dw.yields i H2 M2 x H3 hlt st2 s2 gd y
    have st3 := dw.stay _ _ _ _ st2 t3
    refine ⟨ρ2, M2, d, _, dv2.mono t3, s3, rd, hs i d ρ2 M2 ed i2, fun ρ4 M4 q4 σ4 H4 dv4 s4 t4 => ?_⟩
    have t24 := (t2.trans t3).trans t4
    have eu4 := eu.mono t24
    have st4 := dw.stay _ _ _ _ st3 t4
    exact ⟨ρ4, M4, _, dv4, s4, q4, ⟨pf t24 st4, eu4.rt, eu4.nx, pf t24 st4, eu4.ex⟩⟩
  · have e : i = ds.length := by omega
    subst e
    exact .inl ⟨dw.stops H2 M2 st2 s2 gd, eu.nx _ _ (hd ρ2 M2 i2) σ2 H2 dv2 s2 t2⟩
/-- a loop by an invariant -/
theorem for_by {ds : List D} {Gd : Mem → Prop} {D : DEnds} {ρ : DSt} {M : Mem} (I : Nat → DSt → Mem → Prop) (h0 : I 0 ρ M) (hG : ∀ i ρ M, i ≤ ds.length → I i ρ M → Gd M)
    (hs : ∀ i d ρ M, ds[i]? = some d → I i ρ M → g d ρ M fun ρ' M' => tb { D with nx := I (i + 1), ct := I (i + 1), bk := D.nx } ρ' M') (hd : ∀ ρ M, I ds.length ρ M → D.nx ρ M) : ForI ds Gd g tb D ρ M := by
  unfold ForI
  exact ⟨I, h0, hG, hs, hd⟩
/-! ### comprehensions -/
abbrev W0 : WX := fun _ _ _ _ => False
structure DPTs (X : Cx) (ifs : List Expr) (t : TDT) : Prop where
  p : PTs X ifs (upT X.K W0 t)
def tdYes : TDT := fun _ M Q _ => Q true M
theorem pt_nil {X : Cx} : DPTs X [] tdYes := ⟨⟨fun pins s σ H Q I h => pts_nil.run pins s σ H Q I (by
  obtain ⟨ρ, M, Q0, E0, dv, sm, q, hq, he⟩ := h
  exact hq _ _ q H sm (Tr.refl H M))⟩⟩
theorem pt_one {X : Cx} {c : Expr} {t : TDT} (h : DT X W0 c t) : DPTs X [c] t := ⟨pts_one h⟩
theorem PTs.imp {X : Cx} {e : List Expr} {t t' : TT} (h : PTs X e t) (k : ∀ σ H Q, t' σ H Q → t σ H Q) : PTs X e t' := ⟨fun pins s σ H Q I q => h.run pins s σ H Q I (k σ H Q q)⟩
/-- by an invariant over the turn and what is made so far -/
@[irreducible] def LcI (ds : List D) (Gd : Mem → Prop) (g : TDG) (tt : TDT) (te : TDE) (ρ : DSt) (M : Mem) (Q : List D → Mem → Prop) : Prop := ∃ I : Nat → List D → Mem → Prop, I 0 [] M ∧ (∀ i acc M, i ≤ ds.length → I i acc M → Gd M) ∧
  (∀ i d acc M, ds[i]? = some d → I i acc M → g d ρ M fun ρ2 M2 => tt ρ2 M2 (fun b M3 => cnd b (te ρ2 M3 (fun y M4 => acc.length < sizeLine ∧ I (i + 1) (acc ++ [y]) M4) (fun _ _ _ => False)) (I (i + 1) acc M3)) fun _ _ _ => False) ∧
  ∀ acc M, I ds.length acc M → Q acc M
theorem lc_by {ds : List D} {Gd : Mem → Prop} {g : TDG} {tt : TDT} {te : TDE} {ρ : DSt} {M : Mem} {Q : List D → Mem → Prop} (I : Nat → List D → Mem → Prop) (h0 : I 0 [] M) (hG : ∀ i acc M, i ≤ ds.length → I i acc M → Gd M)
    (hs : ∀ i d acc M, ds[i]? = some d → I i acc M → g d ρ M fun ρ2 M2 => tt ρ2 M2 (fun b M3 => cnd b (te ρ2 M3 (fun y M4 => acc.length < sizeLine ∧ I (i + 1) (acc ++ [y]) M4) (fun _ _ _ => False)) (I (i + 1) acc M3)) fun _ _ _ => False)
    (hd : ∀ acc M, I ds.length acc M → Q acc M) : LcI ds Gd g tt te ρ M Q := by
  unfold LcI
  exact ⟨I, h0, hG, hs, hd⟩
def tdLc (wi : TDI) (g : TDG) (tt : TDT) (te : TDE) (vs : List Nat) : TDL := fun ρ M Q E => wi ρ M (fun ds Gd M1 => LcI ds Gd g tt te (dwipe ρ vs) M1 Q) E
end
end TD

namespace TD
open PySem L2

/-! ### comprehension targets -/
theorem wipe_get (σ : St) (j : Nat) : ∀ vs : List Nat, (wipe σ vs)[j]? = if j ∈ vs then (σ[j]?).map (fun _ => none) else σ[j]?
  | [] => by simp [wipe]
  | v :: vs => by
    unfold wipe
    by_cases e : v = j
    · subst e
      rw [List.getElem?_set_self', wipe_get σ v vs]
      by_cases h : v ∈ vs
      · simp [h]; rfl
      · simp [h]; rfl
    · rw [List.getElem?_set_ne e, wipe_get σ j vs]
      have : j ≠ v := fun q => e q.symm
      by_cases h : j ∈ vs <;> simp [h, this]
theorem wipe_wipe (σ : St) (vs : List Nat) : wipe (wipe σ vs) vs = wipe σ vs := by
  apply List.ext_getElem?
  intro j
  rw [wipe_get, wipe_get]
  by_cases h : j ∈ vs
  · simp [h]; rfl
  · simp [h]
theorem wipe_set (σ : St) (vs : List Nat) (i : Nat) (x : Option V) (h : i ∈ vs) : wipe (σ.set i x) vs = wipe σ vs := by
  apply List.ext_getElem?
  intro j
  rw [wipe_get, wipe_get]
  by_cases e : i = j
  · subst e
    rw [if_pos h, if_pos h, List.getElem?_set_self']
    simp; rfl
  · rw [List.getElem?_set_ne e]
def upGw (K : PySem.W.Frag) (vs : List Nat) (td : TDG) : TG := fun v σ H Q => ∃ ρ M d Q0, DvL K H σ ρ ∧ Sim K H M ∧ Rep K H v d ∧ td d ρ M Q0 ∧
  ∀ ρ' M', Q0 ρ' M' → ∀ σ' H', wipe σ' vs = wipe σ vs → DvL K H' σ' ρ' → Sim K H' M' → Tr H M H' M' → Q σ' H'
def upGsw (K : PySem.W.Frag) (vs : List Nat) (td : TDGs) : TGs := fun v σ H Q => ∃ ρ M d Q0, DvL K H σ ρ ∧ Sim K H M ∧ Reps K H v d ∧ td d ρ M Q0 ∧
  ∀ ρ' M', Q0 ρ' M' → ∀ σ' H', wipe σ' vs = wipe σ vs → DvL K H' σ' ρ' → Sim K H' M' → Tr H M H' M' → Q σ' H'
def CG (X : Cx) (vs : List Nat) (e : Expr) (td : TDG) : Prop := PG X e (upGw X.K vs td)
def CGs (X : Cx) (vs : List Nat) (e : List Expr) (td : TDGs) : Prop := PGs X e (upGsw X.K vs td)
section
variable {X : Cx} {W : WX} {pos : Pos} {e : Expr} {es : List Expr} {vs : List Nat}
theorem cg_name (i : Nat) {x : Str} (hN : X.N.Nodup) (hv : i ∈ vs := by decide) (hi : X.N[i]? = some x := by rfl) (hx : Loc X.env.scope x := by first | exact .inl rfl | exact .inr rfl) (hf : X.fn x = true ∨ X.env.scope.names.lookup x = some .local := by first | exact .inl rfl | exact .inr rfl) : CG X vs (.Name x pos) (gdName i) :=
  PG.imp (pg_name hN hi hx hf) fun v σ H Q ⟨ρ, M, d, Q0, dv, sm, r, q, f⟩ => f _ _ q _ H (wipe_set σ vs i (some v) hv) (dv.set r i) sm (Tr.refl H M)
theorem cgs_nil : CGs X vs [] gdNil := PGs.imp pgs_nil fun w σ H Q ⟨ρ, M, ds, Q0, dv, sm, r, q, f⟩ => by
  cases ds with
  | nil => cases r; exact ⟨rfl, f _ _ q _ H rfl dv sm (Tr.refl H M)⟩
  | cons => exact q.elim
theorem cgs_cons {t : TDG} {u : TDGs} (h1 : CG X vs e t) (h2 : CGs X vs es u) (hs : (assignEach (e :: es) X.env).map (·.2) = assign e X.env :: (assignEach es X.env).map (·.2) := by rfl) : CGs X vs (e :: es) (gdCons t u) := PGs.imp (pgs_cons h1 h2 hs) fun w σ H Q ⟨ρ, M, ds, Q0, dv, sm, r, q, f⟩ => by
  cases ds with
  | nil => exact q.elim
  | cons d ds =>
    cases r with
    | cons r rs =>
      refine ⟨_, _, rfl, ρ, M, d, _, dv, sm, r, q, fun ρ1 M1 q1 σ1 H1 w1 dv1 s1 t1 => ?_⟩
      exact ⟨ρ1, M1, ds, Q0, dv1, s1, rs.mono t1, q1, fun ρ2 M2 q2 σ2 H2 w2 dv2 s2 t2 => f _ _ q2 _ H2 (w2.trans w1) dv2 s2 (t1.trans t2)⟩
theorem cg_tup {k : Nat} {t : TDGs} {n : Nat} (hc : X.calm = true) (h : CGs X vs es t) (hn : (assignEach es X.env).length = n := by rfl) (hst : (assignEach es X.env).findIdx? (·.1) = none := by rfl) : CG X vs (.Tuple es k pos) (gdTup n t) := PG.imp (pg_tup hc h hn hst) fun v σ H Q ⟨ρ, M, d, Q0, dv, sm, r, q, f⟩ => by
  cases d with
  | tup ds => cases r with | tup g rs => exact ⟨_, _, rfl, g, by rw [rs.length]; exact q.1, ρ, M, ds, Q0, dv, sm, rs, q.2, f⟩
  | _ => exact q.elim
theorem Tr.hidden {H H' : Hp} {M M' : Mem} {p : Addr} {vs ws : List V} (t : Tr H M H' M') (hp : H p = none) (hl : H' p = some (.lst vs)) : Tr H M (upd H' p (.lst ws)) M' :=
  ⟨fun a xs h => by rw [upd_ne (Hfree h hp)]; exact t.tup a xs h, fun a o u h => by rw [upd_ne (Hfree h hp)]; exact t.frz a o u h, t.fr, fun a o h n e => by rw [upd_ne (Hfree h hp)]; exact t.st a o h n e,
    fun a ps h => by rw [upd_ne (Hfree h hp)]; exact t.tb a ps h,
    fun a o h => by rw [upd_ne (Hfree h hp)]; exact t.dom a o h⟩
theorem Sim.hidden {K : PySem.W.Frag} {H : Hp} {M : Mem} {p : Addr} {vs ws : List V} (s : Sim K H M) (hl : H p = some (.lst vs)) (hm : M p = none) : Sim K (upd H p (.lst ws)) M := fun a o h => by
  refine (s a o h).mono (fun b u hb h1 _ _ => by rw [upd_ne (fun e => by subst e; rw [hl] at hb; cases hb; exact h1 _ rfl)]; exact hb) (fun b xs hb => ?_) (fun b ob u hb => ?_) fun u hb => ?_
  · rw [upd_ne (fun e => by subst e; rw [hl] at hb; cases hb)]; exact hb
  · rw [upd_ne (fun e => by subst e; rw [hl] at hb; cases hb)]; exact hb
  · rw [upd_ne (fun e => by subst e; rw [hm] at h; cases h)]; exact hb
theorem Reps.hidden {K : PySem.W.Frag} {H : Hp} {p : Addr} {vs ws us : List V} {ds : List D} (r : Reps K H us ds) (hl : H p = some (.lst vs)) : Reps K (upd H p (.lst ws)) us ds :=
  r.mono0 (fun b xs hb => by rw [upd_ne (fun e => by subst e; rw [hl] at hb; cases hb)]; exact hb) fun b ob u hb => by rw [upd_ne (fun e => by subst e; rw [hl] at hb; cases hb)]; exact hb
theorem Rep.hidden {K : PySem.W.Frag} {H : Hp} {p : Addr} {vs ws : List V} {u : V} {d : D} (r : Rep K H u d) (hl : H p = some (.lst vs)) : Rep K (upd H p (.lst ws)) u d :=
  r.mono0 (fun b xs hb => by rw [upd_ne (fun e => by subst e; rw [hl] at hb; cases hb)]; exact hb) fun b ob u hb => by rw [upd_ne (fun e => by subst e; rw [hl] at hb; cases hb)]; exact hb
variable {wi : TDI} {g : TDG} {tt : TDT} {te : TDE}
theorem up_lc {K : PySem.W.Frag} {σ : St} {H : Hp} {Q : VK} (h : upL K W (tdLc wi g tt te vs) σ H Q) : tLc (upI K W wi) (upGw K vs g) (upT K W0 tt) (upE K W0 te) vs σ H Q := by
  obtain ⟨ρ, M, Q0, E0, dv, sm, q, hq, he⟩ := h
  refine ⟨ρ, M, _, E0, dv, sm, q, fun ds Gd M1 q1 J S H1 dw st s1 t1 D hD => ?_, he⟩
  unfold LcI at q1
  obtain ⟨I, h0, hG, hs, hd⟩ := q1
  have hHD : H D = none := t1.fresh hD
  let P : Nat → Hp → Prop := fun i H' => ∃ M' acc xs, H' D = some (.lst xs) ∧ Reps K H' xs acc ∧ M' D = none ∧ Sim K H' M' ∧ Tr H1 M1 H' M' ∧ I i acc M'
  refine ⟨fun i m H' => m = ds.length - i ∧ i ≤ ds.length ∧ P i H', ⟨ds.length, by simp, Nat.zero_le _, M1, [], [], upd_same, .nil, s1.free hD, s1.new hD, Tr.new hD, h0⟩, ?_⟩
  rintro i m H2 ⟨rfl, hi, M2, acc, xs, hL, hR, hM, s2, t2, i2⟩
  have st2 := dw.stay _ _ _ _ st t2
  have gd := hG i acc M2 hi i2
  by_cases hlt : i < ds.length
  · refine .inr ⟨dw.goes i H2 M2 hlt st2 s2 gd, P (i + 1), fun H' p' => ⟨ds.length - (i + 1), by omega, rfl, hlt, p'⟩, fun x H3 y => ?_⟩
    obtain ⟨d, ed, rd, s3, t3⟩ := dw.yields i H2 M2 x H3 hlt st2 s2 gd y
    have t13 := t2.trans t3
    have hL3 := t3.st _ _ hL hM rfl
    refine ⟨dwipe ρ vs, M2, d, _, ((dv.mono t1).mono t13).wipe vs, s3, rd, hs i d acc M2 ed i2, fun ρ4 M4 q4 σ4 H4 w4 dv4 s4 t4 => ⟨w4.trans (wipe_wipe σ vs), ?_⟩⟩
    have t14 := t13.trans t4
    have hL4 := t4.st _ _ hL3 hM rfl
    have hM4 := t4.fr _ _ hL3 hM
    refine ⟨ρ4, M4, _, _, dv4, s4, q4, fun b M5 q5 H5 s5 t5 => ?_, w0_up⟩
    have t15 := t14.trans t5
    have hL5 := t5.st _ _ hL4 hM4 rfl
    have hM5 := t5.fr _ _ hL4 hM4
    have hR5 := hR.mono (t3.trans (t4.trans t5))
    cases b with
    | true =>
      dsimp only at q5 ⊢
      rw [cnd_true] at q5; rw [if_pos rfl]
      refine ⟨ρ4, M5, _, _, dv4.mono t5, s5, q5, fun dy M6 q6 vy H6 r6 s6 t6 => ?_, w0_up⟩
      have hL6 := t6.st _ _ hL5 hM5 rfl
      have hM6 := t6.fr _ _ hL5 hM5
      have hR6 := hR5.mono t6
      refine ⟨xs, hL6, by rw [hR6.length]; exact q6.1, M6, acc ++ [dy], xs ++ [vy], upd_same, ?_, hM6, s6.hidden hL6 hM6, (t15.trans t6).hidden hD hL6, q6.2⟩
      exact (hR6.hidden hL6).append (.cons (r6.hidden hL6) .nil)
    | false =>
      dsimp only at q5 ⊢
      rw [cnd_false] at q5; rw [if_neg Bool.false_ne_true]
      exact ⟨M5, acc, xs, hL5, hR5, hM5, s5, t15, q5⟩
  · have e : i = ds.length := by omega
    subst e
    exact .inl ⟨dw.stops H2 M2 st2 s2 gd, hq acc M2 (hd acc M2 i2) D xs H2 hHD hL hM hR s2 (t1.trans t2)⟩
theorem l_lc {elt tg iter : Expr} {ifs : List Expr} {scope : Scope} {own : List (Str × Nat)} (hc : X.calm = true) (hN : X.N.Nodup) (hi : DI X W tg iter wi) (ok : BlkOk X.N X.env.scope scope own)
    (hg : ∀ (s : Shared) (H : Hp) (C : Addr) (cl : List (Str × Addr)) (fp : List Addr), CG (X.blk s H scope (compEnvC scope cl C X.env) fp) (own.map (·.2)) tg g) (ht : ∀ (s : Shared) (H : Hp) (C : Addr) (cl : List (Str × Addr)) (fp : List Addr), DPTs (X.blk s H scope (compEnvC scope cl C X.env) fp) ifs tt)
    (he : ∀ (s : Shared) (H : Hp) (C : Addr) (cl : List (Str × Addr)) (fp : List Addr), DE (X.blk s H scope (compEnvC scope cl C X.env) fp) W0 elt te) (hs : ∀ x, foldedSetIterable iter X.env x = pure x := by intro _; rfl) :
    DL X W (.ListComp elt [⟨tg, iter, ifs, 0⟩] scope pos) (tdLc wi g tt te (own.map (·.2))) :=
  PE.imp (pe_lc (wi := upI X.K W wi) (g := upGw X.K (List.map (fun p : Str × Nat => p.2) own) g) (tt := upT X.K W0 tt) (te := upE X.K W0 te) hc hN hi ok hg (fun s H C cl fp => (ht s H C cl fp).p) he hs) fun _ _ _ h => up_lc h
theorem up_le {K : PySem.W.Frag} {t : TDL} {σ : St} {H : Hp} {Q : VK} (h : upE K W (tdLE t) σ H Q) : upL K W t σ H Q := by
  obtain ⟨ρ, M, Q0, E0, dv, sm, q, hq, he⟩ := h
  refine ⟨ρ, M, _, E0, dv, sm, q, fun ds M1 q1 a vs H1 gf g gm r1 s1 t1 => ?_, he⟩
  refine hq _ _ (q1 a gm) _ H1 (.ref a) (fun b o hb => ?_) ⟨t1.tup, t1.frz, fun b o hb n => ?_, t1.st, t1.tb, t1.dom⟩
  · by_cases e : b = a
    · subst e; rw [mupd_same] at hb; cases hb; exact ⟨vs, g, r1⟩
    · rw [mupd_ne e] at hb; exact s1 b o hb
  · rw [mupd_ne (Hfree hb gf)]; exact t1.fr b o hb n
/-- y = [..] -/
theorem s_setLc (i : Nat) {y : Str} {py : Pos} {elt tg iter : Expr} {ifs : List Expr} {scope : Scope} {own : List (Str × Nat)} {spos : Pos} (hc : X.calm = true) (hN : X.N.Nodup) (hi : DI X W tg iter wi) (ok : BlkOk X.N X.env.scope scope own)
    (hg : ∀ (s : Shared) (H : Hp) (C : Addr) (cl : List (Str × Addr)) (fp : List Addr), CG (X.blk s H scope (compEnvC scope cl C X.env) fp) (own.map (·.2)) tg g) (ht : ∀ (s : Shared) (H : Hp) (C : Addr) (cl : List (Str × Addr)) (fp : List Addr), DPTs (X.blk s H scope (compEnvC scope cl C X.env) fp) ifs tt)
    (he : ∀ (s : Shared) (H : Hp) (C : Addr) (cl : List (Str × Addr)) (fp : List Addr), DE (X.blk s H scope (compEnvC scope cl C X.env) fp) W0 elt te) (hsw : swapsWith (.ListComp elt [⟨tg, iter, ifs, 0⟩] scope pos) (some (.Name y py)) spos.line X.env = pure true) (hy : X.N[i]? = some y := by rfl) (hyl : X.env.scope.names.lookup y = some .local := by rfl) (hs : ∀ x, foldedSetIterable iter X.env x = pure x := by intro _; rfl) :
    DS X W (.Assign [.Name y py] (.ListComp elt [⟨tg, iter, ifs, 0⟩] scope pos) spos) (tdAsg (tdLE (tdLc wi g tt te (own.map (·.2)))) (gdName i)) :=
  PS.imp (ps_setLc (wi := upI X.K W wi) (g := upGw X.K (List.map (fun p : Str × Nat => p.2) own) g) (tt := upT X.K W0 tt) (te := upE X.K W0 te) hc hN hy hyl hsw hi ok hg (fun s H C cl fp => (ht s H C cl fp).p) he hs) fun D σ H h => by
    have h2 := up_asg (gg := gName i) (fun v σ H Q ⟨ρ, M, d, Q0, dv, sm, r, q, f⟩ => f _ _ q _ H (dv.set r i) sm (Tr.refl H M)) h
    exact up_lc (up_le h2)
end

/-! ### defs -/
abbrev SpD := List D → Mem → (D → Mem → Prop) → XD → Prop
def upF (K : PySem.W.Frag) (spd : SpD) : Sp := fun vs H Q E => ∃ ds M Q0 E0, Reps K H vs ds ∧ Sim K H M ∧ spd ds M Q0 E0 ∧ qUp K H M Q0 Q ∧ ∀ c f M', E0 c f M' → ∀ od H', XRep K H' od f → Sim K H' M' → Tr H M H' M' → E c od H'
/-- a def of the text keeps a promise by data -/
structure Ok (P : Program) (w : World) (K : PySem.W.Frag) (mg : Str → Option Value) (base : Heap) (x : Str) (st : Stmt) (k : Nat) (ps : List Str) (spd : SpD) : Prop where
  ex : ∃ f fd, L2.Fun K x x st f fd ∧ mg x = some (.ref f) ∧ FnOk P w K mg base (L2.CX P w) k f fd ps (upF K spd)
/-- the def stands there -/
structure At (K : PySem.W.Frag) (mg : Str → Option Value) (x : Str) (st : Stmt) : Prop where
  ex : ∃ f fd, L2.Fun K x x st f fd ∧ mg x = some (.ref f)
section
variable {P : Program} {w : World} {K : PySem.W.Frag} {mg : Str → Option Value} {base : Heap} {x : Str} {st : Stmt} {k j : Nat} {ps : List Str} {spd spd' : SpD}
theorem Ok.mono (o : Ok P w K mg base x st j ps spd) (h : j ≤ k) : Ok P w K mg base x st k ps spd := let ⟨f, fd, a, b, c⟩ := o.ex; ⟨f, fd, a, b, c.mono h⟩
theorem Ok.imp (o : Ok P w K mg base x st k ps spd) (h : ∀ ds M Q E, spd' ds M Q E → spd ds M Q E) : Ok P w K mg base x st k ps spd' :=
  let ⟨f, fd, a, b, c⟩ := o.ex
  ⟨f, fd, a, b, c.imp fun vs H Q E ⟨ds, M, Q0, E0, r, s, q, hq, he⟩ => ⟨ds, M, Q0, E0, r, s, h _ _ _ _ q, hq, he⟩⟩
/-- what a def's body is to reach -/
def dEnds (Q : D → Mem → Prop) (E : XD) : DEnds :=
  { nx := fun _ M => ∃ M0, MLe M0 M ∧ Q .non M0, rt := fun d M => ∃ M0, MLe M0 M ∧ Q d M0, ex := fun c f _ M => ∃ M0, MLe M0 M ∧ E c f M0 }
abbrev Xd (P : Program) (w : World) (K : PySem.W.Frag) (mg : Str → Option Value) (base : Heap) (N : List Str) (qual : Str) (scope : Scope) (f : Addr) (cd : Value) (A : Around) (outer : List Env) (s : Shared) (H : Hp) (E : XK) : Cx := cxOf (L2.CX P w) P w K mg base N qual scope f cd A outer s H E
abbrev Wd (E : XK) : WX := fun c d _ H => E c d H
theorem xd_takes {N : List Str} {qual : Str} {scope : Scope} {f : Addr} {cd : Value} {A : Around} {outer : List Env} {s : Shared} {H : Hp} {E : XK} : Takes (Xd P w K mg base N qual scope f cd A outer s H E) (Wd E) := takes_of rfl rfl rfl rfl
theorem xd_owns {N : List Str} {qual : Str} {scope : Scope} {f : Addr} {cd : Value} {A : Around} {outer : List Env} {s : Shared} {H : Hp} {E : XK} : PassesOwn (model (Xd P w K mg base N qual scope f cd A outer s H E).prog (Xd P w K mg base N qual scope f cd A outer s H E).w) (Xd P w K mg base N qual scope f cd A outer s H E).A (Xd P w K mg base N qual scope f cd A outer s H E).env (Xd P w K mg base N qual scope f cd A outer s H E).xe := passes_of rfl
/-- THE RULE: a def by its body -/
theorem ok_of (a : At K mg x st) {N : List Str} (S : FnScope N ps (defScope st)) (m : Nat) (hm' : N.length - ps.length = m) (len : ∀ ds M Q E, spd ds M Q E → ds.length = ps.length)
    (body : ∀ (f : Addr) (cd : Value) (A : Around) (outer : List Env) (s : Shared) (H : Hp) (E : XK), Room k (Xd P w K mg base N x (defScope st) f cd A outer s H E).A →
      ∃ td, DSs (Xd P w K mg base N x (defScope st) f cd A outer s H E) (Wd E) (defBody st) td ∧ ∀ ds M Q E, spd ds M Q E → td (dEnds Q E) (ds.map some ++ List.replicate m none) M) : Ok P w K mg base x st (k + 1) ps spd := by
  subst hm'
  obtain ⟨f, fd, F, hm⟩ := a.ex
  refine ⟨f, fd, F, hm, F.okX S (fun vs H Q E ⟨ds, M, Q0, E0, r, s, q, _⟩ => r.length.trans (len _ _ _ _ q)) fun cdv A outer s H vs Q E hr ⟨ds, M, Q0, E0, r, sm, q, hq, he⟩ => ?_⟩
  obtain ⟨td, h1, h2⟩ := body f cdv A outer s H E hr
  refine ⟨_, h1, ds.map some ++ List.replicate (N.length - ps.length) none, M, dEnds Q0 E0, ?_, sm, h2 ds M Q0 E0 q, ⟨?_, ?_, ?_, ?_, ?_⟩⟩
  · have e : (L2.start N vs) = vs.map some ++ List.replicate (N.length - ps.length) none := by unfold L2.start; rw [r.length, len _ _ _ _ q]
    rw [e]
    exact DvL.start r _
  · rintro ρ' M' ⟨M0, le, h⟩ σ' H' dv' s' t'
    exact hq _ _ h _ H' .non (s'.le le) (t'.le le)
  · rintro d M' ⟨M0, le, h⟩ v H' r' s' t'
    exact hq _ _ h _ H' r' (s'.le le) (t'.le le)
  · rintro ρ' M' h; exact h.elim
  · rintro ρ' M' h; exact h.elim
  · rintro c g ρ' M' ⟨M0, le, h⟩ od σ' H' x dv' s' t'
    exact he _ _ _ h od H' x (s'.le le) (t'.le le)
end
/-! ### calls -/
/-- a call's promise, closed -/
@[irreducible] def onSp (spd : SpD) (ds : List D) (M : Mem) (Q : D → Mem → Prop) (E : XD) : Prop := spd ds M Q E
theorem onSp_iff {spd : SpD} {ds : List D} {M : Mem} {Q : D → Mem → Prop} {E : XD} : onSp spd ds M Q E ↔ spd ds M Q E := by unfold onSp; exact Iff.rfl
theorem call_i {spd : SpD} {ds : List D} {M : Mem} {Q : D → Mem → Prop} {E : XD} (h : spd ds M Q E) : onSp spd ds M Q E := onSp_iff.mpr h
/-- how positional arguments us and keywords ks = ws bind -/
structure Bd (x : Str) (st : Stmt) (ps : List Str) (n : Nat) (ks : List Str) (gv : List Value → List Value → List Value) (gd : List D → List D → List D) : Prop where
  to : ∀ (kV doc pm : Value) (an : Option Addr) (cdv ct : Value) (us ws : List Value), us.length = n → ws.length = ks.length → bindArgs (PySem.W.fnOf x x (defArgs st) (defBody st) (defScope st) .none kV doc pm an cdv ct) ⟨us, ks.zip ws⟩ = pure (ps.zip (gv us ws))
  rel : ∀ {K : PySem.W.Frag} {H : Hp} {us ws : List Value} {vs zs : List V} {ds es : List D}, us.length = n → ws.length = ks.length → Vals vs us → Vals zs ws → Reps K H vs ds → Reps K H zs es → ∃ xs, Vals xs (gv us ws) ∧ Reps K H xs (gd ds es)
theorem bd_pos {x : Str} {st : Stmt} {ps : List Str} (h : ∀ (kV doc pm : Value) (an : Option Addr) (cdv ct : Value) (us : List Value), us.length = ps.length → bindArgs (PySem.W.fnOf x x (defArgs st) (defBody st) (defScope st) .none kV doc pm an cdv ct) ⟨us, []⟩ = pure (ps.zip us)) : Bd x st ps ps.length [] (fun us _ => us) (fun ds _ => ds) where
  to := fun kV doc pm an cdv ct us ws h1 h2 => h kV doc pm an cdv ct us h1
  rel := fun _ _ rv _ rd _ => ⟨_, rv, rd⟩
section
variable {X : Cx} {W : WX} {x : Str} {st : Stmt} {k : Nat} {ps ks : List Str} {spd : SpD} {n : Nat} {gv : List Value → List Value → List Value} {gd : List D → List D → List D} {p pos : Pos} {e : Expr} {es : List Expr} {kws : List Keyword} {ta tk : TDA}
theorem run_ok {pins : List (Addr × Obj)} {σ : St} {H : Hp} {s : Shared} {Q : VK} {f : Addr} {fd : FuncData} {us ws : List Value} {vs zs : List V} {ds es : List D} {M : Mem} {Q0 : D → Mem → Prop} {E0 : XD} (F : L2.Fun X.K x x st f fd) (G : FnOk X.prog X.w X.K X.mg X.base (L2.CX X.prog X.w) k f fd ps (upF X.K spd)) (B : Bd x st ps n ks gv gd) (hr : Room k X.A) (tk : Takes X W)
    (I : Inv X pins σ H s) (l1 : us.length = n) (l2 : ws.length = ks.length) (r1 : Vals vs us) (r2 : Vals zs ws) (d1 : Reps X.K H vs ds) (d2 : Reps X.K H zs es) (sm : Sim X.K H M) (h : onSp spd (gd ds es) M Q0 E0) (hq : qUp X.K H M Q0 Q) (he : wUp X.K W σ H M E0) :
    wpAny (model X.prog X.w) X.A (call (.ref f) us (ks.zip ws)) (EP X pins σ Q) X.xe s := by
  obtain ⟨xs, rx, dx⟩ := B.rel l1 l2 r1 r2 d1 d2
  have hsp : upF X.K spd xs H Q (fun c d H' => W c d σ H') := ⟨_, M, Q0, E0, dx, sm, onSp_iff.mp h, hq, he⟩
  obtain ⟨oc, od, kV, doc, pm, an, cdv, ct, osl, rfl, lk, hcd⟩ := F.ex
  refine wpAny_call (codeAny_mono (G.run X.A X.stack s H ⟨us, ks.zip ws⟩ (gv us ws) xs Q _ hr I.env0 (.of_eq (B.to kV doc pm an cdv ct us ws l1 l2)) rx hsp) fun r s' hq => ?_)
  cases r with
  | error e => exact tk e s' (XE.of_call I (fun _ _ _ h => h) hq)
  | ok fl =>
    cases fl with
    | ret u => exact I.after hq
    | next => exact False.elim hq
    | brk => exact False.elim hq
    | cont => exact False.elim hq
/-- f(e, ..) -/
def tdCall (spd : SpD) (n : Nat) (ta : TDA) : TDE := fun ρ M Q E => ta ρ M (fun ds M1 => ds.length = n ∧ onSp spd ds M1 Q E) E
theorem vals_len {K : PySem.W.Frag} {H : Hp} {vs : List V} {us : List Value} {ds : List D} {n : Nat} (r : Vals vs us) (d : Reps K H vs ds) (h : ds.length = n) : us.length = n := by rw [← r.length, d.length, h]
theorem d_call (o : Ok X.prog X.w X.K X.mg X.base x st k ps spd) (B : Bd x st ps ps.length [] (fun us _ => us) (fun ds _ => ds)) (hr : Room k X.A) (tk : Takes X W) (ha : DA X W (e :: es) ta) (hg : Gl X x := by rfl) (hdb : (x == ("__debug__" : Str)) = false := by decide)
    (he : starEach (e :: es) X.env = (false, eval e X.env) :: starEach es X.env := by rfl) (hpl : (backTo pos (starEach es X.env)).any (·.1) = false := by rfl) : DE X W (.Call (.Name x p) (e :: es) [] pos) (tdCall spd ps.length ta) := by
  obtain ⟨f, fd, F, hm, G⟩ := o.ex
  refine ⟨fun pins s σ H Q I ⟨ρ, M, Q0, E0, dv, sm, q, hq, hw⟩ => ?_⟩
  refine wpAny_Call_Name_kw (ld_glob I hg hm ?_ hdb)
  refine PySem.W.callWith_K (h₀ := X.base) I.ok.mod.kin F.kp (thn (ha.run pos pins s σ H (fun vs H1 => ∃ ds M1, Reps X.K H1 vs ds ∧ Sim X.K H1 M1 ∧ Tr H M H1 M1 ∧ ds.length = ps.length ∧ onSp spd ds M1 Q0 E0) I ⟨ρ, M, _, E0, dv, sm, q, fun ds M1 q1 vs H1 r1 s1 t1 => ⟨ds, M1, r1, s1, t1, q1⟩, ?_⟩) fun us s1 ⟨vs, H1, I1, r, ds, M1, d1, s1', t1, hl, q1⟩ => ⟨I1.kIn, ?_⟩) he hpl
  · exact hw
  · exact run_ok F G B hr tk I1 (vals_len r d1 hl) rfl r .nil d1 .nil s1' q1 (hq.mono t1) (hw.mono t1)
theorem d_call0 (o : Ok X.prog X.w X.K X.mg X.base x st k ps spd) (B : Bd x st ps 0 [] (fun us _ => us) (fun ds _ => ds)) (hr : Room k X.A) (tk : Takes X W) (hg : Gl X x := by rfl) (hdb : (x == ("__debug__" : Str)) = false := by decide) : DE X W (.Call (.Name x p) [] [] pos) (tdCall spd 0 tdNil) := by
  obtain ⟨f, fd, F, hm, G⟩ := o.ex
  refine ⟨fun pins s σ H Q I ⟨ρ, M, Q0, E0, dv, sm, q, hq, hw⟩ => ?_⟩
  refine wpAny_Call_Name_kw (ld_glob I hg hm ?_ hdb)
  exact PySem.W.callWith_K0 I.kIn F.kp (run_ok (us := []) (ws := []) F G B hr tk I rfl rfl .nil .nil .nil .nil sm q.2 hq hw)
/-! ### keywords -/
structure DK (X : Cx) (W : WX) (kws : List Keyword) (t : TDA) : Prop where
  p : PK X kws (upA X.K W t)
theorem PK.imp {X : Cx} {e : List Keyword} {t t' : TA} (h : PK X e t) (k : ∀ σ H Q, t' σ H Q → t σ H Q) : PK X e t' := ⟨fun pos pins s σ H Q I q => h.run pos pins s σ H Q I (k σ H Q q)⟩
theorem k_nil : DK X W [] tdNil := ⟨PK.imp pk_nil fun σ H Q ⟨ρ, M, Q0, E0, dv, sm, q, hq, he⟩ => hq _ _ q _ H .nil sm (Tr.refl H M)⟩
theorem k_cons {te : TDE} {t : TDA} {nm : Option Str} {kpos : Pos} (ha : DE X W e te) (hr : DK X W kws t) : DK X W (⟨nm, e, kpos⟩ :: kws) (tdCons te t) := ⟨PK.imp (pk_cons ha hr.p) fun σ H Q ⟨ρ, M, Q0, E0, dv, sm, q, hq, he⟩ => by
  refine ⟨ρ, M, _, E0, dv, sm, q, fun d M1 q1 v H1 r1 s1 t1 => ?_, he⟩
  refine ⟨ρ, M1, _, E0, dv.mono t1, s1, q1, fun ds M2 q2 vs H2 r2 s2 t2 => ?_, he.mono t1⟩
  exact hq _ _ q2 _ H2 (.cons (r1.mono t2) r2) s2 (t1.trans t2)⟩
def tdCallK (spd : SpD) (n m : Nat) (gd : List D → List D → List D) (ta tk : TDA) : TDE := fun ρ M Q E => ta ρ M (fun ds M1 => tk ρ M1 (fun es M2 => ds.length = n ∧ es.length = m ∧ onSp spd (gd ds es) M2 Q E) E) E
theorem d_callK0 (o : Ok X.prog X.w X.K X.mg X.base x st k ps spd) (B : Bd x st ps 0 ks gv gd) (hr : Room k X.A) (tk' : Takes X W) (hkw : DK X W kws tk) (hall : (backToKw pos (keywordEach kws X.env)).all (·.1.isSome) = true := by rfl) (hks : (backToKw pos (keywordEach kws X.env)).filterMap (·.1) = ks := by rfl)
    (hg : Gl X x := by rfl) (hdb : (x == ("__debug__" : Str)) = false := by decide) (hpl : ((backTo pos (starEach [] X.env)).any (·.1) || (backToKw pos (keywordEach kws X.env)).any (·.1.isNone)) = false := by rfl) :
    DE X W (.Call (.Name x p) [] kws pos) (tdCallK spd 0 ks.length gd tdNil tk) := by
  obtain ⟨f, fd, F, hm, G⟩ := o.ex
  refine ⟨fun pins s σ H Q I ⟨ρ, M, Q0, E0, dv, sm, q, hq, hw⟩ => ?_⟩
  refine wpAny_Call_Name_kw (ld_glob I hg hm ?_ hdb)
  refine PySem.W.callWith_KW0 (h₀ := X.base) I.ok.mod.kin F.kp hall ?_ hpl
  refine thn (hkw.p.run pos pins s σ H (fun vs H1 => ∃ ds M1, Reps X.K H1 vs ds ∧ Sim X.K H1 M1 ∧ Tr H M H1 M1 ∧ ([] : List D).length = 0 ∧ ds.length = ks.length ∧ onSp spd (gd [] ds) M1 Q0 E0) I ⟨ρ, M, _, E0, dv, sm, q, fun ds M1 q1 vs H1 r1 s1 t1 => ⟨ds, M1, r1, s1, t1, q1⟩, hw⟩) fun ws s2 ⟨zs, H2, I2, rz, ds, M1, d1, s1', t1, _, hl, q2⟩ => ⟨I2.kIn, ?_⟩
  rw [hks]
  exact run_ok (us := []) F G B hr tk' I2 rfl (vals_len rz d1 hl) .nil rz .nil d1 s1' q2 (hq.mono t1) (hw.mono t1)
theorem d_callK (o : Ok X.prog X.w X.K X.mg X.base x st k ps spd) (B : Bd x st ps n ks gv gd) (hr : Room k X.A) (tk' : Takes X W) (ha : DA X W (e :: es) ta) (hkw : DK X W kws tk) (hall : (backToKw pos (keywordEach kws X.env)).all (·.1.isSome) = true := by rfl) (hks : (backToKw pos (keywordEach kws X.env)).filterMap (·.1) = ks := by rfl)
    (hg : Gl X x := by rfl) (hdb : (x == ("__debug__" : Str)) = false := by decide) (he : starEach (e :: es) X.env = (false, eval e X.env) :: starEach es X.env := by rfl)
    (hpl : ((backTo pos (starEach (e :: es) X.env)).any (·.1) || (backToKw pos (keywordEach kws X.env)).any (·.1.isNone)) = false := by rfl) :
    DE X W (.Call (.Name x p) (e :: es) kws pos) (tdCallK spd n ks.length gd ta tk) := by
  obtain ⟨f, fd, F, hm, G⟩ := o.ex
  refine ⟨fun pins s σ H Q I ⟨ρ, M, Q0, E0, dv, sm, q, hq, hw⟩ => ?_⟩
  refine wpAny_Call_Name_kw (ld_glob I hg hm ?_ hdb)
  refine PySem.W.callWith_KW (h₀ := X.base) I.ok.mod.kin F.kp hall (thn (ha.run pos pins s σ H (fun vs H1 => ∃ ds M1, DvL X.K H1 σ ρ ∧ Reps X.K H1 vs ds ∧ Sim X.K H1 M1 ∧ Tr H M H1 M1 ∧ tk ρ M1 (fun es M2 => ds.length = n ∧ es.length = ks.length ∧ onSp spd (gd ds es) M2 Q0 E0) E0) I ⟨ρ, M, _, E0, dv, sm, q, fun ds M1 q1 vs H1 r1 s1 t1 => ⟨ds, M1, dv.mono t1, r1, s1, t1, q1⟩, hw⟩) fun us s1 ⟨vs, H1, I1, r, ds, M1, dv1, d1, s1', t1, q1⟩ => ?_) hpl he
  refine thn (hkw.p.run pos pins s1 σ H1 (fun zs H2 => ∃ es M2, Reps X.K H2 vs ds ∧ Reps X.K H2 zs es ∧ Sim X.K H2 M2 ∧ Tr H M H2 M2 ∧ ds.length = n ∧ es.length = ks.length ∧ onSp spd (gd ds es) M2 Q0 E0) I1 ⟨ρ, M1, _, E0, dv1, s1', q1, fun es M2 q2 vs H2 r2 s2 t2 => ⟨es, M2, d1.mono t2, r2, s2, t1.trans t2, q2⟩, hw.mono t1⟩) fun ws s2 ⟨zs, H2, I2, rz, es', M2, d1', d2, s2', t2, hl, hl2, q2⟩ => ⟨I2.kIn, ?_⟩
  rw [hks]
  exact run_ok F G B hr tk' I2 (vals_len r d1' hl) (vals_len rz d2 hl2) r rz d1' d2 s2' q2 (hq.mono t2) (hw.mono t2)
end
end TD

namespace TD
open PySem L2
/-! ### list methods -/
section
variable {X : Cx} {W : WX} {pos apos : Pos} {o e : Expr} {to te : TDE}
theorem lstWr {K : PySem.W.Frag} {H : Hp} {M : Mem} {Q0 : D → Mem → Prop} {Q : VK} {a : Addr} {vs ws : List V} {ds es : List D} {d : D} {v : V} (s : Sim K H M) (e : M a = some (.lst ds)) (g : H a = some (.lst vs)) (r : Reps K H ws es) (rv : Rep K H v d) (h : Q0 d (mupd M a (.lst es))) (hq : qUp K H M Q0 Q) : Q v (upd H a (.lst ws)) := by
  have t : Tr H M (upd H a (.lst ws)) (mupd M a (.lst es)) := Tr.wr e g rfl
  exact hq _ _ h _ _ (rv.mono t) (Sim.wr e g rfl s ⟨_, upd_same, r.mono t⟩) t
@[irreducible] def onLst (M : Mem) (d : D) (k : Addr → List D → Prop) : Prop := match d with
  | .ref a => match M a with
    | some (.lst ds) => k a ds
    | _ => False
  | _ => False
theorem onLst_ok {M : Mem} {d : D} {k : Addr → List D → Prop} (h : onLst M d k) : ∃ a ds, d = .ref a ∧ M a = some (.lst ds) ∧ k a ds := by
  unfold onLst at h
  split at h
  · split at h
    · rename_i a _ ds e; exact ⟨a, ds, rfl, e, h⟩
    · exact h.elim
  · exact h.elim
theorem onL {M : Mem} {a : Addr} {ds : List D} {k : Addr → List D → Prop} (h1 : M a = some (.lst ds)) (h : k a ds) : onLst M (.ref a) k := by
  unfold onLst
  dsimp only
  rw [h1]
  exact h
theorem tyV_lst {K : PySem.W.Frag} {H : Hp} {a : Addr} {vs : List V} (h : H a = some (.lst vs)) : tyV K "list" (.ref a) H := .inl ⟨rfl, _, SqL.of h⟩
/-- xs.append(e) -/
def tdApp (to te : TDE) : TDE := fun ρ M Q E => to ρ M (fun d M1 => onLst M1 d fun _ _ => te ρ M1 (fun c M2 => onLst M2 d fun a ds => ds.length < sizeLine ∧ Q .non (mupd M2 a (.lst (ds ++ [c])))) E) E
theorem d_app (ho : DE X W o to) (he : DE X W e te) (hs : starEach [e] X.env = (false, eval e X.env) :: starEach [] X.env := by rfl) (hbase : attributeBase o "append" X.env (eval o X.env) = eval o X.env := by rfl)
    (hfew : ((backTo pos (starEach [e] X.env)).all (fun x => !x.1) && (backToKw pos (keywordEach [] X.env)).all (fun x => x.1.isSome) && decide ([e].length + ([] : List Keyword).length + (if ([] : List Keyword).isEmpty then 0 else 1) < 30)) = true := by rfl)
    (hline : (apos.endLine == pos.line) = true := by rfl) : DE X W (.Call (.Attribute o "append" apos) [e] [] pos) (tdApp to te) :=
  PE.imp (pe_bm PySem.F.plainAttrs_list PySem.F.slot_list_append PySem.F.type_list_append mt_append ho (pa_cons he pa_nil hs) hbase hfew hline hs rfl) fun σ H Q ⟨ρ, M, Q0, E0, dv, sm, q, hq, he⟩ => by
    refine ⟨ρ, M, _, E0, dv, sm, q, fun d M1 q1 v H1 r1 s1 t1 => ?_, he⟩
    obtain ⟨a, ds, rfl, e1, q1⟩ := onLst_ok q1
    obtain ⟨vs, g, rs⟩ := s1.lst e1
    cases r1
    refine ⟨tyV_lst g, ρ, M1, _, E0, dv.mono t1, s1, q1, fun c M2 q2 w H2 r2 s2 t2 => ?_, he.mono t1⟩
    obtain ⟨b, es, eb, e2, hz, q2⟩ := onLst_ok q2
    cases eb
    obtain ⟨us, g2, rs2⟩ := s2.lst e2
    exact ⟨a, us, w, rfl, rfl, g2, by rw [rs2.length]; exact hz, lstWr s2 e2 g2 (rs2.append (.cons r2 .nil)) .non q2 (hq.mono (t1.trans t2))⟩
def tdLm0 (f : List D → List D) (to : TDE) : TDE := fun ρ M Q E => to ρ M (fun d M1 => onLst M1 d fun a ds => Q .non (mupd M1 a (.lst (f ds)))) E
theorem d_lclear (ho : DE X W o to) (hbase : attributeBase o "clear" X.env (eval o X.env) = eval o X.env := by rfl) (hline : (apos.endLine == pos.line) = true := by rfl) : DE X W (.Call (.Attribute o "clear" apos) [] [] pos) (tdLm0 (fun _ => []) to) :=
  PE.imp (pe_bm0 PySem.F.plainAttrs_list PySem.F.slot_list_clear PySem.F.type_list_clear mt_clear ho hbase hline) fun σ H Q ⟨ρ, M, Q0, E0, dv, sm, q, hq, he⟩ => by
    refine ⟨ρ, M, _, E0, dv, sm, q, fun d M1 q1 v H1 r1 s1 t1 => ?_, he⟩
    obtain ⟨a, ds, rfl, e1, q1⟩ := onLst_ok q1
    obtain ⟨vs, g, rs⟩ := s1.lst e1
    cases r1
    exact ⟨tyV_lst g, a, vs, rfl, rfl, g, lstWr s1 e1 g .nil .non q1 (hq.mono t1)⟩
theorem d_lreverse (ho : DE X W o to) (hbase : attributeBase o "reverse" X.env (eval o X.env) = eval o X.env := by rfl) (hline : (apos.endLine == pos.line) = true := by rfl) : DE X W (.Call (.Attribute o "reverse" apos) [] [] pos) (tdLm0 List.reverse to) :=
  PE.imp (pe_bm0 PySem.F.plainAttrs_list PySem.F.slot_list_reverse PySem.F.type_list_reverse mt_reverse ho hbase hline) fun σ H Q ⟨ρ, M, Q0, E0, dv, sm, q, hq, he⟩ => by
    refine ⟨ρ, M, _, E0, dv, sm, q, fun d M1 q1 v H1 r1 s1 t1 => ?_, he⟩
    obtain ⟨a, ds, rfl, e1, q1⟩ := onLst_ok q1
    obtain ⟨vs, g, rs⟩ := s1.lst e1
    cases r1
    exact ⟨tyV_lst g, a, vs, rfl, rfl, g, lstWr s1 e1 g rs.reverse .non q1 (hq.mono t1)⟩
/-! ### a slice of a list, seen by nobody else -/
def tdQsl (te : TDE) (tl th : TDO) : TDL := fun ρ M Q E => te ρ M (fun x M1 => tl ρ M1 (fun l M2 => th ρ M2 (fun u M3 => rdQof x M3 fun ds M4 => Q (cutD ds l u) M4) E) E) E
theorem l_slice {lo hi : Option Expr} {tl th : TDO} {p2 : Pos} (he : DE X W e te) (hl : DO X W lo tl) (hh : DO X W hi th) : DL X W (.Subscript e (.Slice lo hi none p2) pos) (tdQsl te tl th) :=
  PE.imp (pe_slice sl_list he hl hh) fun σ H Q ⟨ρ, M, Q0, E0, dv, sm, q, hq, he⟩ => by
    refine ⟨ρ, M, _, E0, dv, sm, q, fun d M1 q1 v H1 r1 s1 t1 => ?_, he⟩
    refine ⟨ρ, M1, _, E0, dv.mono t1, s1, q1, fun l M2 q2 H2 s2 t2 => ?_, he.mono t1⟩
    have t12 := t1.trans t2
    refine ⟨ρ, M2, _, E0, dv.mono t12, s2, q2, fun u M3 q3 H3 s3 t3 => ?_, he.mono t12⟩
    have t13 := t12.trans t3
    unfold rdQof at q3
    split at q3
    · rename_i ds e1
      obtain ⟨a, vs, rfl, g, rs⟩ := lstD_ok s3 (r1.mono (t2.trans t3)) e1
      refine ⟨a, vs, rfl, g, fun p hp => ?_⟩
      have t4 : Tr H3 M3 (upd H3 p (.lst (cutV vs l u))) M3 := Tr.new hp
      exact hq _ _ q3 p _ _ (t13.fresh hp) upd_same (s3.free hp) ((cut_reps rs l u).mono t4) (s3.new hp) (t13.trans t4)
    · exact q3.elim
/-! ### a, b, c = x, y, z -/
def tdPar3 (i j l : Nat) (ta : TDA) : TDS := fun D ρ M => ta ρ M (fun ds M1 => match ds with | [a, b, c] => D.nx (((ρ.set i (some a)).set j (some b)).set l (some c)) M1 | _ => False) (D.at ρ)
theorem s_par3 (i j l : Nat) {x y z : Str} {a b c : Expr} {ta : TDA} {px py pz pt : Pos} {kt k2 pt2} (hc : X.calm = true) (hN : X.N.Nodup) (ha : DA X W [a, b, c] ta) (hi : X.N[i]? = some x := by rfl) (hj : X.N[j]? = some y := by rfl) (hl : X.N[l]? = some z := by rfl) (hij : i ≠ j := by decide) (hil : i ≠ l := by decide) (hjl : j ≠ l := by decide)
    (hx : X.env.scope.names.lookup x = some .local := by rfl) (hy : X.env.scope.names.lookup y = some .local := by rfl) (hz : X.env.scope.names.lookup z = some .local := by rfl)
    (hw : swappedStores [.Tuple [.Name x px, .Name y py, .Name z pz] kt pt] (.Tuple [a, b, c] k2 pt2) X.env = pure (some [x, y, z]) := by rfl)
    (hs : swapsWithSole [.Tuple [.Name x px, .Name y py, .Name z pz] kt pt] (.Tuple [a, b, c] k2 pt2) pos.line X.env = pure false := by rfl) :
    DS X W (.Assign [.Tuple [.Name x px, .Name y py, .Name z pz] kt pt] (.Tuple [a, b, c] k2 pt2) pos) (tdPar3 i j l ta) := PS.imp (ps_par3 hc hN hi hj hl hij hil hjl hx hy hz ha hw hs) fun D σ H ⟨ρ, M, D0, dv, sm, q, eu⟩ => by
  refine ⟨ρ, M, _, _, dv, sm, q, fun ds M1 q1 vs H1 r1 s1 t1 => ?_, eu.w dv⟩
  match ds, vs, r1, q1 with
  | [d1, d2, d3], _, .cons r1 (.cons r2 (.cons r3 .nil)), q1 => exact ⟨_, _, _, rfl, eu.nx _ _ q1 _ H1 ((((dv.mono t1).set r1 i).set r2 j).set r3 l) s1 t1⟩
end
/-! ### readings, step by step -/
/-- the statements that follow, by a name -/
theorem seqI {t u : TDS} {D : DEnds} {ρ : DSt} {M : Mem} (h : ∀ k : DSt → Mem → Prop, k = u D → t { D with nx := k } ρ M) : tdSeq t u D ρ M := by
  unfold tdSeq
  exact ⟨_, h _ rfl, fun _ _ h => h⟩
theorem seq0 {t u : TDS} {D : DEnds} {ρ : DSt} {M : Mem} (h : t { D with nx := u D } ρ M) : tdSeq t u D ρ M := by
  unfold tdSeq
  exact ⟨_, h, fun _ _ h => h⟩
/-- .. by what holds between -/
theorem seqC {t u : TDS} {D : DEnds} {ρ : DSt} {M : Mem} (mid : DSt → Mem → Prop) (h1 : t { D with nx := mid } ρ M) (h2 : ∀ ρ M, mid ρ M → u D ρ M) : tdSeq t u D ρ M := by
  unfold tdSeq
  exact ⟨mid, h1, h2⟩
theorem sz {n : Nat} (h : n ≤ 1000000) : n ≤ sizeLine := Nat.le_trans h (by decide)
theorem p_9 {M : Mem} {Q : D → Mem → Prop} (h : Q (.int 1000000000) M) : rdPow (.int 10) (.int 9) M Q := pow_i ⟨by decide, by decide, by decide⟩ h
theorem p_6 {M : Mem} {Q : D → Mem → Prop} (h : Q (.int 1000000) M) : rdPow (.int 10) (.int 6) M Q := pow_i ⟨by decide, by decide, by decide⟩ h
theorem p_14 {M : Mem} {Q : D → Mem → Prop} (h : Q (.int 100000000000000) M) : rdPow (.int 10) (.int 14) M Q := pow_i ⟨by decide, by decide, by decide⟩ h
theorem p_12 {M : Mem} {Q : D → Mem → Prop} (h : Q (.int 1000000000000) M) : rdPow (.int 10) (.int 12) M Q := pow_i ⟨by decide, by decide, by decide⟩ h
theorem p_18 {M : Mem} {Q : D → Mem → Prop} (h : Q (.int 1000000000000000000) M) : rdPow (.int 10) (.int 18) M Q := pow_i ⟨by decide, by decide, by decide⟩ h
theorem p_20 {M : Mem} {Q : D → Mem → Prop} (h : Q (.int 100000000000000000000) M) : rdPow (.int 10) (.int 20) M Q := pow_i ⟨by decide, by decide, by decide⟩ h
theorem p_29 {M : Mem} {Q : D → Mem → Prop} (h : Q (.int 100000000000000000000000000000) M) : rdPow (.int 10) (.int 29) M Q := pow_i ⟨by decide, by decide, by decide⟩ h
theorem p_30 {M : Mem} {Q : D → Mem → Prop} (h : Q (.int 1000000000000000000000000000000) M) : rdPow (.int 10) (.int 30) M Q := pow_i ⟨by decide, by decide, by decide⟩ h
theorem mne {M : Mem} {a b : Addr} {o : MO} (h : M a = some o) (h' : M b = none) : a ≠ b := fun e => by rw [e, h'] at h; cases h
theorem mne' {M : Mem} {a b : Addr} {o : MO} (h' : M b = none) (h : M a = some o) : b ≠ a := (mne h h').symm
theorem atI_of {α : Type} {xs : List α} {i : Int} (h0 : 0 ≤ i) (h1 : i < xs.length) : ∃ x, atI xs i = some x ∧ xs[i.toNat]? = some x := by
  obtain ⟨n, rfl⟩ := Int.eq_ofNat_of_zero_le h0
  have hn : n < xs.length := by omega
  exact ⟨xs[n], atI_nat (List.getElem?_eq_getElem hn), by simp⟩
theorem atI_map {α β : Type} {f : α → β} {xs : List α} {i : Int} (h0 : 0 ≤ i) (h1 : i < xs.length) : ∃ x, x ∈ xs ∧ atI (xs.map f) i = some (f x) ∧ atI xs i = some x := by
  obtain ⟨n, rfl⟩ := Int.eq_ofNat_of_zero_le h0
  have hn : n < xs.length := by omega
  exact ⟨xs[n], List.getElem_mem hn, atI_nat (by simp [hn]), atI_nat (List.getElem?_eq_getElem hn)⟩
theorem cutD_map {α : Type} (f : α → D) (xs : List α) (lo hi : Option Int) : cutD (xs.map f) lo hi = ((xs.drop (HT.sIx xs.length 0 lo)).take (HT.sIx xs.length xs.length hi - HT.sIx xs.length 0 lo)).map f := by
  unfold cutD
  rw [List.length_map, ← List.map_drop, ← List.map_take]
theorem map_get {α : Type} {f : α → D} {xs : List α} {i : Nat} {d : D} (h : (xs.map f)[i]? = some d) : ∃ x, xs[i]? = some x ∧ d = f x ∧ x ∈ xs := by
  rw [List.getElem?_map] at h
  cases e : xs[i]? with
  | none => rw [e] at h; cases h
  | some x => rw [e] at h; cases h; exact ⟨x, rfl, rfl, List.mem_of_getElem? e⟩
theorem rngD_of {lo : Int} {n i : Nat} {d : D} (h : (rngD lo n)[i]? = some d) : i < n ∧ d = .int (lo + i) := by
  have hi : i < n := by
    have := (List.getElem?_eq_some_iff.mp h).1
    rwa [rngD_length] at this
  rw [rngD_get hi] at h
  cases h
  exact ⟨hi, rfl⟩
section
variable {P : Program} {w : World} {K : PySem.W.Frag} {mg : Str → Option Value} {base : Heap} {x : Str} {st : Stmt} {ps : List Str}
def spNever : SpD := fun _ _ _ _ => False
theorem ok_never (a : At K mg x st) {N : List Str} (S : FnScope N ps (defScope st)) : Ok P w K mg base x st 1 ps spNever :=
  ok_of a S _ rfl (fun _ _ _ _ h => h.elim) fun _ _ _ _ _ _ _ _ => ⟨_, ss_never, fun _ _ _ _ h => h.elim⟩
end
theorem pys_ints (M : Mem) : ∀ ns : List Int, Pys M (ns.map D.int) (ns.map PyData.int)
  | [] => .nil
  | n :: ns => .cons (.int n) (pys_ints M ns)
theorem MLe.new2 {M : Mem} {p q : Addr} {o u : MO} (h1 : M p = none) (h2 : mupd M p o q = none) : MLe M (mupd (mupd M p o) q u) := (MLe.new h1).trans (MLe.new h2)
theorem ends {Q : D → Mem → Prop} {M : Mem} {b : Bool} (h : b = true) (hq : Q (.bl true) M) : Q (.bl b) M := by subst h; exact hq
theorem atI_zero {α : Type} {x : α} {xs : List α} : atI (x :: xs) 0 = some x := atI_nat (j := 0) rfl
theorem and_sp {spd : SpD} {ds : List D} {M : Mem} {Q : D → Mem → Prop} {E : XD} {a b : Nat} (h1 : a = b) (h : onSp spd ds M Q E) : a = b ∧ onSp spd ds M Q E := ⟨h1, h⟩
theorem and_sp2 {spd : SpD} {ds : List D} {M : Mem} {Q : D → Mem → Prop} {E : XD} {a b c e : Nat} (h1 : a = b) (h2 : c = e) (h : onSp spd ds M Q E) : a = b ∧ c = e ∧ onSp spd ds M Q E := ⟨h1, h2, h⟩
theorem and_len {xs : List D} {n : Nat} {P : Prop} (h : xs.length = n) (q : P) : xs.length = n ∧ P := ⟨h, q⟩
theorem and_sz {n : Nat} {P : Prop} (h : n ≤ 1000000) (q : P) : n ≤ sizeLine ∧ P := ⟨sz h, q⟩
theorem cnd_t {k : Bool} {A B : Prop} (h : k = true) (a : A) : cnd k A B := by subst h; exact cndT a
theorem cnd_f {k : Bool} {A B : Prop} (h : k = false) (b : B) : cnd k A B := by subst h; exact cndF b
/-! ### the law's end -/
/-- law's promise: a list of at most 63 ints, True comes out, nothing is raised -/
def spLaw : SpD := fun ds M Q _ => ∃ ns : List Int, ds = [.rol (ns.map D.int)] ∧ ns.length ≤ 63 ∧ ∀ M', Q (.bl true) M'
theorem reps_ints {K : PySem.W.Frag} {H : Hp} : ∀ ns : List Int, Reps K H (ns.map V.int) (ns.map D.int)
  | [] => .nil
  | n :: ns => .cons (.int n) (reps_ints ns)
theorem walk_law {l : PySem.W.OpenLaw} {k : Nat} {q : Program} {loose : List Str} {XP : (Str → Option Value) → Heap → Prop} {YP : World → Heap → Prop} {d : DefRec} {K : Params → PySem.W.Frag} {x : Str} (hn : l.most = some 63) (hdf : d.params.defaults = []) (hr : Room k callerA)
    (hY : ∀ (w : World) (h : Heap), YP w h → (K w.params).In h)
    (F : ∀ (w : World) (mg : Str → Option Value) (fa : Addr) (h : Heap), (K w.params).In h → h.Ns mainGlobals mg → mg d.name = some (.ref fa) →
      ∃ fd : FuncData, (∀ (s : Shared) (u : Value), BindsTo s fd ⟨[u], []⟩ [(x, u)]) ∧ ∀ base : Heap, (K w.params).In base → base.Ns mainGlobals mg → FnOk l.prog w (K w.params) mg base (L2.CX l.prog w) k fa fd [x] (upF (K w.params) spLaw)) :
    PySem.W.WalkO q loose XP YP l.row.toRowW d [] (fun f vs => PySem.call f vs) :=
  L2.walk_of (n := 63) (k := k) (x := x) (CX := fun w => L2.CX l.prog w) (sp := fun w => upF (K w.params) spLaw) hn (by decide) hdf hr hY F
    (fun w H a ns hl hO hS => by
      have hR : SqLR (K w.params) H a (ns.map V.int) := by
        rcases hS with (h | ⟨o, h⟩) | h
        · rcases hO a with z | ⟨o, xs, z⟩
          · rw [h] at z; cases z
          · rw [h] at z; cases z
        · exact .inl ⟨o, h⟩
        · exact .inr (.inr h)
      refine ⟨[.rol (ns.map D.int)], fun _ => none, fun v _ => v = .bl true, fun _ _ _ => False, .cons (.rol hR (reps_ints ns)) .nil, fun a o h => (nomatch h), ⟨ns, rfl, hl, fun _ => rfl⟩, fun d M' e v H' r _ _ => ?_, fun c f M' h => h.elim⟩
      subst e
      cases r
      rfl)
    fun w H s e s' ⟨_, _, _, _, _, _, _, _, _, _, _, _, z⟩ => z
/-- the law's def, handed to walk_law -/
theorem law_fd {P : Program} {w : World} {K : PySem.W.Frag} {mg : Str → Option Value} {x y : Str} {st : Stmt} {k : Nat} {fa : Addr} {spd : SpD} (a : At K mg x st) (hfa : mg x = some (.ref fa)) (B : Bd x st [y] 1 [] (fun us _ => us) (fun ds _ => ds))
    (o : ∀ base : Heap, K.In base → base.Ns mainGlobals mg → Ok P w K mg base x st k [y] spd) : ∃ fd : FuncData, (∀ (s : Shared) (u : Value), BindsTo s fd ⟨[u], []⟩ [(y, u)]) ∧ ∀ base : Heap, K.In base → base.Ns mainGlobals mg → FnOk P w K mg base (L2.CX P w) k fa fd [y] (upF K spd) := by
  obtain ⟨f, fd, F, hm⟩ := a.ex
  rw [hfa] at hm
  cases hm
  obtain ⟨oc, od, kV, doc, pm, an, cdv, ct, osl, rfl, lk, hcd⟩ := F.ex
  refine ⟨_, fun s u => .of_eq (B.to kV doc pm an cdv ct [u] [] rfl rfl), fun base h1 h2 => ?_⟩
  obtain ⟨f2, fd2, F2, hm2, G⟩ := (o base h1 h2).ex
  rw [hfa] at hm2
  cases hm2
  obtain ⟨oc2, od2, kV2, doc2, pm2, an2, cdv2, ct2, osl2, rfl, lk2, hcd2⟩ := F2.ex
  rw [lk] at lk2
  injection lk2 with lk2
  injection lk2 with h1 h2 h3 h4
  injection h3 with h3
  rw [h3]
  exact G
theorem fun_uniq {K : PySem.W.Frag} {x : Str} {st : Stmt} {f : Addr} {fd fd' : FuncData} (a : L2.Fun K x x st f fd) (b : L2.Fun K x x st f fd') : fd = fd' := by
  obtain ⟨oc, od, kV, doc, pm, an, cdv, ct, osl, e, lk, _⟩ := a.ex
  obtain ⟨oc2, od2, kV2, doc2, pm2, an2, cdv2, ct2, osl2, e2, lk2, _⟩ := b.ex
  rw [lk] at lk2
  injection lk2 with lk2
  injection lk2 with h1 h2 h3 h4
  injection h3 with h3
/-- many promises of one def are one -/
theorem Ok.any {ι : Type} {P : Program} {w : World} {K : PySem.W.Frag} {mg : Str → Option Value} {base : Heap} {x : Str} {st : Stmt} {k : Nat} {ps : List Str} {sp : ι → SpD} (i0 : ι) (h : ∀ i, Ok P w K mg base x st k ps (sp i)) : Ok P w K mg base x st k ps (fun ds M Q E => ∃ i, sp i ds M Q E) := by
  obtain ⟨f, fd, F, hm, G⟩ := (h i0).ex
  have key : ∀ i, FnOk P w K mg base (L2.CX P w) k f fd ps (upF K (sp i)) := fun i => by
    obtain ⟨f2, fd2, F2, hm2, G2⟩ := (h i).ex
    rw [hm] at hm2
    injection hm2 with hm2
    injection hm2 with hm2
    subst hm2
    rw [fun_uniq F F2]
    exact G2
  refine ⟨f, fd, F, hm, fun vs H Q E ⟨ds, M, Q0, E0, r, s, ⟨i, q⟩, hq, he⟩ => (key i).len vs H Q E ⟨ds, M, Q0, E0, r, s, q, hq, he⟩, fun A outer s H args us vs Q E hr he hb hv ⟨ds, M, Q0, E0, r, sm, ⟨i, q⟩, hq, hx⟩ => (key i).run A outer s H args us vs Q E hr he hb hv ⟨ds, M, Q0, E0, r, sm, q, hq, hx⟩⟩
theorem at_mk {K : PySem.W.Frag} {mg : Str → Option Value} {h : Heap} {x : Str} {st : Stmt} {f : Addr} {oc : Value} {od an : Option Addr} {osl : Array (Option Value)} {kV doc pm cdv ct : Value} (X : K.In h) (G : h.Ns mainGlobals mg) (a : PySem.W.nsIn K mainGlobals x = some (some (.ref f)))
    (l : K.lookup f = some ⟨oc, od, .func (PySem.W.fnOf x x (defArgs st) (defBody st) (defScope st) .none kV doc pm an cdv ct), osl⟩) (c : PySem.W.codeIn K cdv x = true) (k : PySem.W.keepIn K (.ref f) = true) : At K mg x st := ⟨_, _, fun_mk l c k, PySem.W.mg_of X G a⟩
end TD

namespace TD
open PySem PySem.Spec PySem.W PyProof.Rows L2 StX
/-! ### def f(a, .., *v) -/
/-- the promise: what is left over is one tuple, behind the first n -/
def upFS (K : PySem.W.Frag) (n : Nat) (spd : SpD) : Sp := fun vs H Q E => ∃ ds M Q0 E0, Reps K H vs ds ∧ Sim K H M ∧ n ≤ ds.length ∧ ds.length ≤ 1000 ∧ spd (ds.take n ++ [.tup (ds.drop n)]) M Q0 E0 ∧ qUp K H M Q0 Q ∧ ∀ c f M', E0 c f M' → ∀ od H', XRep K H' od f → Sim K H' M' → Tr H M H' M' → E c od H'
structure OkS (P : Program) (w : World) (K : PySem.W.Frag) (mg : Str → Option Value) (base : Heap) (x : Str) (st : Stmt) (k n : Nat) (spd : SpD) : Prop where
  ex : ∃ f fd, L2.Fun K x x st f fd ∧ mg x = some (.ref f) ∧ FnR P w K mg base (L2.CX P w) k f (upFS K n spd)
section
variable {P : Program} {w : World} {K : PySem.W.Frag} {mg : Str → Option Value} {base : Heap} {x : Str} {st : Stmt} {k j n : Nat} {ps : List Str} {spd spd' : SpD}
theorem OkS.mono (o : OkS P w K mg base x st j n spd) (h : j ≤ k) : OkS P w K mg base x st k n spd := let ⟨f, fd, a, b, c⟩ := o.ex; ⟨f, fd, a, b, c.mono h⟩
theorem bindS0 {B : List Value → Sem (List (Str × Value))} {pv : Str} (h0 : B [] = (newTuple [] >>= fun t => pure [(pv, t)])) (h1 : ∀ r rs, B (r :: rs) = (newTuple (r :: rs) >>= fun t => pure [(pv, t)])) :
    ∀ us rest : List Value, us.length = ([] : List Str).length → B (us ++ rest) = (newTuple rest >>= fun t => pure (([] : List Str).zip us ++ [(pv, t)]))
  | [], [], _ => h0
  | [], r :: rs, _ => h1 r rs
theorem okS_of (a : At K mg x st) {N : List Str} {pv : Str} (S : FnScope N (ps ++ [pv]) (defScope st)) (m : Nat) (hm' : N.length - (ps.length + 1) = m)
    (hb : ∀ (kV doc pm : Value) (an : Option Addr) (cdv ct : Value) (us rest : List Value), us.length = ps.length → bindArgs (PySem.W.fnOf x x (defArgs st) (defBody st) (defScope st) .none kV doc pm an cdv ct) ⟨us ++ rest, []⟩ = (newTuple rest >>= fun t => pure (ps.zip us ++ [(pv, t)])))
    (body : ∀ (f : Addr) (cd : Value) (A : Around) (outer : List Env) (s : Shared) (H : Hp) (E : XK), Room k (Xd P w K mg base N x (defScope st) f cd A outer s H E).A →
      ∃ td, DSs (Xd P w K mg base N x (defScope st) f cd A outer s H E) (Wd E) (defBody st) td ∧ ∀ ds M Q E, ds.length = ps.length + 1 → spd ds M Q E → td (dEnds Q E) (ds.map some ++ List.replicate m none) M) : OkS P w K mg base x st (k + 1) ps.length spd := by
  subst hm'
  obtain ⟨f, fd, F, hm⟩ := a.ex
  obtain ⟨oc, od, kV, doc, pm, an, cdv, ct, osl, rfl, lk, hcd⟩ := id F.ex
  refine ⟨f, _, F, hm, ?_⟩
  let sp1 : Sp := fun vs H Q E => ∃ ds M Q0 E0, vs.length = ps.length + 1 ∧ Reps K H vs ds ∧ Sim K H M ∧ spd ds M Q0 E0 ∧ qUp K H M Q0 Q ∧ ∀ c f M', E0 c f M' → ∀ od H', XRep K H' od f → Sim K H' M' → Tr H M H' M' → E c od H'
  have R := fn_star (k := k) (sp := sp1) lk hcd S (cxUp (P := P) (w := w)) (hb kV doc pm an cdv ct) fun A outer s H vs Q E hr hsp => by
    obtain ⟨ds, M, Q0, E0, hl, r, sm, q, hq, he⟩ := hsp
    obtain ⟨td, h1, h2⟩ := body f cdv A outer s H E hr
    have hl2 : ds.length = ps.length + 1 := by rw [← r.length]; exact hl
    refine ⟨_, h1, ds.map some ++ List.replicate (N.length - (ps.length + 1)) none, M, dEnds Q0 E0, ?_, sm, h2 ds M Q0 E0 hl2 q, ⟨?_, ?_, fun _ _ z => z.elim, fun _ _ z => z.elim, ?_⟩⟩
    · have e : (L2.start N vs) = vs.map some ++ List.replicate (N.length - (ps.length + 1)) none := by unfold L2.start; rw [hl]
      rw [e]
      exact DvL.start r _
    · rintro ρ' M' ⟨M0, le, h⟩ σ' H' dv' s' t'; exact hq _ _ h _ H' .non (s'.le le) (t'.le le)
    · rintro d M' ⟨M0, le, h⟩ v H' r' s' t'; exact hq _ _ h _ H' r' (s'.le le) (t'.le le)
    · rintro c g ρ' M' ⟨M0, le, h⟩ od σ' H' x dv' s' t'; exact he _ _ _ h od H' x (s'.le le) (t'.le le)
  refine R.imp fun vs H Q E ⟨ds, M, Q0, E0, r, sm, hn, hz, q, hq, he⟩ => ?_
  have hl := r.length
  refine ⟨vs.take ps.length, vs.drop ps.length, (List.take_append_drop _ _).symm, by rw [List.length_take]; omega, by rw [List.length_drop]; exact sz (by omega), fun p hp => ?_⟩
  have t : Tr H M (upd H p (.tup (vs.drop ps.length))) M := Tr.new hp
  exact ⟨_, M, Q0, E0, by rw [List.length_append, List.length_take]; show min _ _ + 1 = _; omega, ((r.take _).mono t).append (.cons (.tup (SqT.of upd_same) ((r.drop _).mono t)) .nil), sm.new hp, q, hq.mono t, fun c f M' h od H' x s' t' => he c f M' h od H' x s' (t.trans t')⟩
end
section
variable {X : Cx} {W : WX} {x : Str} {st : Stmt} {k n : Nat} {spd : SpD} {p pos : Pos} {e : Expr} {es : List Expr} {ta : TDA}
def tdCallS (spd : SpD) (n : Nat) (ta : TDA) : TDE := fun ρ M Q E => ta ρ M (fun ds M1 => n ≤ ds.length ∧ ds.length ≤ 1000 ∧ onSp spd (ds.take n ++ [.tup (ds.drop n)]) M1 Q E) E
theorem run_okS {pins : List (Addr × Obj)} {σ : L2.St} {H : Hp} {s : Shared} {Q : VK} {f : Addr} {us : List Value} {vs : List V} {ds : List D} {M : Mem} {Q0 : D → Mem → Prop} {E0 : XD} (G : FnR X.prog X.w X.K X.mg X.base (L2.CX X.prog X.w) k f (upFS X.K n spd)) (hr : Room k X.A) (tk : Takes X W)
    (I : Inv X pins σ H s) (r1 : Vals vs us) (d1 : Reps X.K H vs ds) (sm : Sim X.K H M) (hn : n ≤ ds.length) (hz : ds.length ≤ 1000) (h : onSp spd (ds.take n ++ [.tup (ds.drop n)]) M Q0 E0) (hq : qUp X.K H M Q0 Q) (he : wUp X.K W σ H M E0) :
    wpAny (model X.prog X.w) X.A (call (.ref f) us []) (EP X pins σ Q) X.xe s := by
  have hsp : upFS X.K n spd vs H Q (fun c d H' => W c d σ H') := ⟨_, M, Q0, E0, d1, sm, hn, hz, onSp_iff.mp h, hq, he⟩
  refine wpAny_call (codeAny_mono (G X.A X.stack s H us vs Q _ hr I.env0 r1 hsp) fun r s' hq => ?_)
  cases r with
  | error e => exact tk e s' (XE.of_call I (fun _ _ _ h => h) hq)
  | ok fl =>
    cases fl with
    | ret u => exact I.after hq
    | _ => exact False.elim hq
theorem d_callS (o : OkS X.prog X.w X.K X.mg X.base x st k n spd) (hr : Room k X.A) (tk : Takes X W) (ha : DA X W (e :: es) ta) (hg : Gl X x := by rfl) (hdb : (x == ("__debug__" : Str)) = false := by decide)
    (he : starEach (e :: es) X.env = (false, eval e X.env) :: starEach es X.env := by rfl) (hpl : (backTo pos (starEach es X.env)).any (·.1) = false := by rfl) : DE X W (.Call (.Name x p) (e :: es) [] pos) (tdCallS spd n ta) := by
  obtain ⟨f, fd, F, hm, G⟩ := o.ex
  refine ⟨fun pins s σ H Q I ⟨ρ, M, Q0, E0, dv, sm, q, hq, hw⟩ => ?_⟩
  refine wpAny_Call_Name_kw (ld_glob I hg hm ?_ hdb)
  refine PySem.W.callWith_K (h₀ := X.base) I.ok.mod.kin F.kp (thn (ha.run pos pins s σ H (fun vs H1 => ∃ ds M1, Reps X.K H1 vs ds ∧ Sim X.K H1 M1 ∧ Tr H M H1 M1 ∧ n ≤ ds.length ∧ ds.length ≤ 1000 ∧ onSp spd (ds.take n ++ [.tup (ds.drop n)]) M1 Q0 E0) I ⟨ρ, M, _, E0, dv, sm, q, fun ds M1 q1 vs H1 r1 s1 t1 => ⟨ds, M1, r1, s1, t1, q1⟩, ?_⟩) fun us s1 ⟨vs, H1, I1, r, ds, M1, d1, s1', t1, hl, hz, q1⟩ => ⟨I1.kIn, ?_⟩) he hpl
  · exact hw
  · exact run_okS G hr tk I1 r d1 s1' hl hz q1 (hq.mono t1) (hw.mono t1)
theorem d_callS0 (o : OkS X.prog X.w X.K X.mg X.base x st k 0 spd) (hr : Room k X.A) (tk : Takes X W) (hg : Gl X x := by rfl) (hdb : (x == ("__debug__" : Str)) = false := by decide) : DE X W (.Call (.Name x p) [] [] pos) (tdCallS spd 0 tdNil) := by
  obtain ⟨f, fd, F, hm, G⟩ := o.ex
  refine ⟨fun pins s σ H Q I ⟨ρ, M, Q0, E0, dv, sm, q, hq, hw⟩ => ?_⟩
  refine wpAny_Call_Name_kw (ld_glob I hg hm ?_ hdb)
  exact PySem.W.callWith_K0 I.kIn F.kp (run_okS (us := []) G hr tk I .nil .nil sm q.1 q.2.1 q.2.2 hq hw)
/-! ### xs.index(n), ints -/
def tdIdx (to te : TDE) : TDE := fun ρ M Q E => to ρ M (fun d M1 => onLst M1 d fun _ _ => te ρ M1 (fun c M2 => onLst M2 d fun a ds => ∃ (ns : List Int) (i : Int) (j : Nat), ds = ns.map D.int ∧ c = .int i ∧ ns[j]? = some i ∧ (∀ m, m < j → ns[m]? ≠ some i) ∧ Q (.int (j : Nat)) M2) E) E
theorem reps_ints_eq {K : PySem.W.Frag} {H : Hp} : ∀ {ns : List Int} {vs : List V}, Reps K H vs (ns.map D.int) → vs = ns.map V.int
  | [], _, .nil => rfl
  | n :: ns, _, .cons r t => by
    cases r
    rw [reps_ints_eq t]
    rfl
theorem d_index {apos : Pos} {o : Expr} {to te : TDE} (ho : DE X W o to) (he : DE X W e te) (hs : starEach [e] X.env = (false, eval e X.env) :: starEach [] X.env := by rfl) (hbase : attributeBase o "index" X.env (eval o X.env) = eval o X.env := by rfl)
    (hfew : ((backTo pos (starEach [e] X.env)).all (fun x => !x.1) && (backToKw pos (keywordEach [] X.env)).all (fun x => x.1.isSome) && decide ([e].length + ([] : List Keyword).length + (if ([] : List Keyword).isEmpty then 0 else 1) < 30)) = true := by rfl)
    (hline : (apos.endLine == pos.line) = true := by rfl) : DE X W (.Call (.Attribute o "index" apos) [e] [] pos) (tdIdx to te) :=
  PE.imp (pe_bm PySem.F.plainAttrs_list PySem.F.slot_list_index PySem.F.type_list_index mt_index ho (pa_cons he pa_nil hs) hbase hfew hline hs rfl) fun σ H Q ⟨ρ, M, Q0, E0, dv, sm, q, hq, he⟩ => by
    refine ⟨ρ, M, _, E0, dv, sm, q, fun d M1 q1 v H1 r1 s1 t1 => ?_, he⟩
    obtain ⟨a, ds, rfl, e1, q1⟩ := onLst_ok q1
    obtain ⟨vs, g, rs⟩ := s1.lst e1
    cases r1
    refine ⟨tyV_lst g, ρ, M1, _, E0, dv.mono t1, s1, q1, fun c M2 q2 w H2 r2 s2 t2 => ?_, he.mono t1⟩
    obtain ⟨b, es, eb, e2, ns, i, j, rfl, rfl, e3, e4, q2⟩ := onLst_ok q2
    cases eb
    cases r2
    obtain ⟨us, g2, rs2⟩ := s2.lst e2
    obtain rfl := reps_ints_eq rs2
    refine ⟨a, _, .int i, j, .int i, rfl, rfl, SqL.of g2, rfl, ?_, by rw [List.getElem?_map, e3]; rfl, by simp [eqV], fun m z' hm hz => ?_, hq _ _ q2 _ H2 (.int _) s2 (t1.trans t2)⟩
    · simp [List.all_map, flatV]
    · rw [List.getElem?_map] at hz
      cases ez : ns[m]? with
      | none => rw [ez] at hz; cases hz
      | some y =>
        rw [ez] at hz
        cases hz
        have hne : y ≠ i := fun z => e4 m hm (by rw [ez, z])
        simpa [eqV] using hne
/-! ### tuple(e), e a tuple or a list; list(e) too -/
@[irreducible] def rdTup (d : D) (M : Mem) (Q : D → Mem → Prop) : Prop := match d with
  | .tup ds => Q (.tup ds) M
  | d => match lstD M d with | some ds => Q (.tup ds) M | none => False
theorem tup_t {M : Mem} {Q : D → Mem → Prop} {ds : List D} (h : Q (.tup ds) M) : rdTup (.tup ds) M Q := by unfold rdTup; exact h
theorem tup_l {M : Mem} {Q : D → Mem → Prop} {a : Addr} {ds : List D} (h1 : M a = some (.lst ds)) (h : Q (.tup ds) M) : rdTup (.ref a) M Q := by
  unfold rdTup lstD
  dsimp only
  rw [h1]
  exact h
def tdTupA (t : TDE) : TDE := fun ρ M Q E => t ρ M (fun d M1 => rdTup d M1 Q) E
theorem d_tupA {te : TDE} (hm : X.mg "tuple" = none) (ha : DE X W e te) (hg : Gl X "tuple" := by rfl) (hs : starEach [e] X.env = (false, eval e X.env) :: starEach [] X.env := by rfl) : DE X W (.Call (.Name "tuple" p) [e] [] pos) (tdTupA te) :=
  PE.imp (pe_callTy call_tuple_of hg hm (by decide +kernel) (pa_cons ha pa_nil hs) (by decide) (by decide) hs rfl) fun σ H Q ⟨ρ, M, Q0, E0, dv, sm, q, hq, he⟩ => by
    refine ⟨ρ, M, _, E0, dv, sm, q, fun d M1 q1 v H1 r1 s1 t1 => ?_, he⟩
    dsimp only at q1
    unfold rdTup at q1
    split at q1
    · cases r1 with
      | @tup a vs _ g rs => exact ⟨a, vs, rfl, .inr ⟨g, hq _ _ q1 _ H1 (.tup g rs) s1 t1⟩⟩
    · split at q1
      · rename_i ds e1
        obtain ⟨a, vs, rfl, g, rs⟩ := lstD_ok s1 r1 e1
        exact ⟨a, vs, rfl, .inl ⟨g, fun l hl => tupNew s1 rs (hq.mono t1) q1 hl⟩⟩
      · exact q1.elim
end
end TD

namespace TD
open PySem PySem.Spec PySem.Calls PySem.W PyProof.Rows L2 StX
/-! ### a, .., *rest = a tuple -/
theorem unpackS {prog : Program} {w : World} {A : Around} {E : Value → Shared → Prop} {s : Shared} {l : Addr} {items : Array Value} {i : Nat} {Q : List Value → Shared → Prop} (hl : IsTup s.heap l items) (hh : A.handled = none) (hi : i ≤ items.size) (hz : items.size ≤ sizeLine)
    (h : ∀ h' tk, (∀ b o, s.heap.get? b = some o → h'.get? b = some o) → wpAny (model prog w) A (newList (items.toList.drop i) >>= fun d => pure (items.toList.take i ++ [d] ++ [])) Q E { s with heap := h', toks := tk }) :
    wpAny (model prog w) A (unpackItems (.ref l) (i + 1) (some i)) Q E s := by
  obtain ⟨o0, ho0, _⟩ := id hl
  have hlt : l ≠ s.heap.objs.size := Nat.ne_of_lt (Heap.lt_size ho0)
  unfold unpackItems
  refine wpAny_bind ?_
  unfold notIterableAtAll
  refine wpAny_bind (wpAny_specialOf hl.typeIs slot_tuple_iter.lookup ?_)
  refine wpAny_pure ?_
  simp only [Bool.false_eq_true, if_false]
  refine wpAny_bind (wpAny_holding (iter_tuple hl ?_))
  refine wpAny_bind (wpAny_holding (draw_tuple hlt i 0 _ _ ⟨_, Heap.get?_push_size _ rfl, rfl, rfl⟩ (hl.push _) (by omega) fun h₁ hit₁ hs₁ => ?_))
  have hl₁ : IsTup h₁ l items := (hl.push _).extBut hs₁.extBut hlt
  rw [Nat.zero_add] at hit₁
  obtain ⟨oi, hoi, _⟩ := id hit₁
  obtain ⟨ol, hol, _⟩ := id hl₁
  rw [List.drop_zero]
  rw [if_neg (show ¬ ((items.toList.take i).length < i) by rw [List.length_take, Array.length_toList]; omega)]
  refine wpAny_bind (wpAny_holding (kun_collect (s := { s with heap := h₁ }) (T := "tuple_iterator") (.inr (.inr (.inr rfl))) (Walks.tuple (A := A.in1) hh s.heap.objs.size l hlt items) (fun j u st => st.1.typeIs) (k := i) hi ⟨hit₁, hl₁⟩ (Heap.lt_size hoi) (Heap.lt_size hol) (fun h₂ tk hk => ?_) hz))
  rw [if_neg (show ¬ ((items.toList.drop i).length < i + 1 - 1 - i) by omega)]
  have e1 : (items.toList.drop i).length - (i + 1 - 1 - i) = (items.toList.drop i).length := by omega
  rw [e1, List.take_length, List.drop_length]
  exact h h₂ tk fun b o e => hk b o (Nat.ne_of_lt (Heap.lt_size e)) (hs₁.extBut b o (Nat.ne_of_lt (Heap.lt_size e)) (Heap.get?_push_of_some _ e))
theorem valsTake : ∀ (n : Nat) {xs : List V} {us : List Value}, Vals xs us → Vals (xs.take n) (us.take n)
  | 0, _, _, _ => .nil
  | _ + 1, _, _, .nil => .nil
  | n + 1, _, _, .cons r t => .cons r (valsTake n t)
theorem valsDrop : ∀ (n : Nat) {xs : List V} {us : List Value}, Vals xs us → Vals (xs.drop n) (us.drop n)
  | 0, _, _, r => r
  | _ + 1, _, _, .nil => .nil
  | n + 1, _, _, .cons _ t => valsDrop n t
theorem valsApp : ∀ {xs ys : List V} {us vs : List Value}, Vals xs us → Vals ys vs → Vals (xs ++ ys) (us ++ vs)
  | _, _, _, _, .nil, h => h
  | _, _, _, _, .cons r t, h => .cons r (valsApp t h)
section
variable {X : Cx} {W : WX} {pos : Pos}
def gStar (K : PySem.W.Frag) (i : Nat) (t : TGs) : TG := fun v σ H Q => ∃ a xs, v = .ref a ∧ SqT K H a xs ∧ i ≤ xs.length ∧ xs.length ≤ sizeLine ∧ ∀ p, H p = none → t (xs.take i ++ [.ref p]) σ (upd H p (.lst (xs.drop i))) Q
theorem pg_star {es : List Expr} {k : Nat} {t : TGs} {i : Nat} (hc : X.calm = true) (h : PGs X es t) (hn : (assignEach es X.env).length = i + 1 := by rfl) (hst : (assignEach es X.env).findIdx? (·.1) = some i := by rfl) : PG X (.Tuple es k pos) (gStar X.K i t) := by
  refine ⟨fun pins s σ H v u Q I r hw => ?_⟩
  obtain ⟨a, xs, e1, hq, hl, hz, hw⟩ := hw
  subst e1
  cases r
  obtain ⟨its, rv, ht, hz'⟩ := I.tuple hq
  rw [assign_Tuple]
  refine wpAny_bind (wpAny_standAt ?_)
  unfold unpack
  rw [hn, hst]
  have hsz : its.length = xs.length := rv.length.symm
  refine wpAny_bind (wpAny_holding (unpackS ht (I.ok.hd hc) (by rw [List.size_toArray]; omega) (by rw [List.size_toArray]; omega) fun h' tk hx => ?_))
  have I1 : L2.Inv X pins σ H { s with heap := h', toks := tk } := I.kept (t' := tk) hx
  have rl : Vals (xs.drop i) (its.drop i) := valsDrop i rv
  show wpAny (model X.prog X.w) X.A (newList (its.drop i) >>= fun d => pure (its.take i ++ [d] ++ [])) _ _ _
  refine wpAny_bind (wpAny_newList ?_ (by rw [List.length_drop]; omega))
  have hf : H h'.objs.size = none := I1.hok.fresh (Nat.le_refl _)
  have I2 : L2.Inv X pins σ (upd H h'.objs.size (.lst (xs.drop i))) { s with heap := h'.push { cls := .type "list", data := .seq (its.drop i).toArray }, toks := tk } := by
    refine I1.laid (t' := tk) (fun b u e => Heap.get?_push_of_some _ e) (Nat.le_refl _) ?_
    exact ⟨by rw [List.length_drop]; omega, _, 0, rl, Heap.get?_push_size _ rfl⟩
  refine wpAny_pure ?_
  refine h.run pins _ σ _ _ _ Q I2 ?_ (hw _ hf)
  rw [List.append_nil]
  exact valsApp (valsTake i rv) (.cons rfl .nil)
theorem pgs_starred {e : Expr} {es : List Expr} {p : Pos} {t : TG} {u : TGs} (h1 : PG X e t) (h2 : PGs X es u) : PGs X (.Starred e p :: es) (gCons t u) := by
  refine ⟨fun pins s σ H vs us Q I r h => ?_⟩
  obtain ⟨v, vr, e1, h⟩ := h
  subst e1
  cases r with
  | cons r rr =>
    show wpAny _ _ (assignInOrder (assign e X.env :: (assignEach es X.env).map (·.2)) _) _ _ _
    refine assignInOrder_cons (thn (h1.run pins s σ H _ _ _ I r h) fun _ s1 ⟨σ1, H1, I1, q1⟩ => ?_)
    exact h2.run pins s1 σ1 H1 _ _ Q I1 rr q1
def gdStar (i : Nat) (t : TDGs) : TDG := fun d ρ M Q => match d with | .tup ds => i ≤ ds.length ∧ ds.length ≤ sizeLine ∧ ∀ p, M p = none → t (ds.take i ++ [.ref p]) ρ (mupd M p (.lst (ds.drop i))) Q | _ => False
theorem repsSnoc {K : PySem.W.Frag} {H : Hp} {v : V} {d : D} (r : Rep K H v d) : ∀ {vs : List V} {ds : List D}, Reps K H vs ds → Reps K H (vs ++ [v]) (ds ++ [d])
  | _, _, .nil => .cons r .nil
  | _, _, .cons a t => .cons a (repsSnoc r t)
theorem g_star (i : Nat) {es : List Expr} {k : Nat} {t : TDGs} (hc : X.calm = true) (h : DGs X es t) (hn : (assignEach es X.env).length = i + 1 := by rfl) (hst : (assignEach es X.env).findIdx? (·.1) = some i := by rfl) : DG X (.Tuple es k pos) (gdStar i t) := PG.imp (pg_star hc h hn hst) fun v σ H Q ⟨ρ, M, d, Q0, dv, sm, r, q, f⟩ => by
  cases d with
  | tup ds =>
    cases r with
    | tup g rs =>
      rename_i a vs x
      obtain ⟨h1, h2, q⟩ := q
      refine ⟨_, _, rfl, g, by rw [rs.length]; exact h1, by rw [rs.length]; exact h2, fun p hp => ?_⟩
      have t : Tr H M (upd H p (.lst (vs.drop i))) (mupd M p (.lst (ds.drop i))) := Tr.newM hp
      exact ⟨ρ, _, _, Q0, dv.mono t, sm.newM (mo := .lst (ds.drop i)) hp ⟨_, upd_same, (rs.drop i).mono t⟩, repsSnoc (.ref p) ((rs.take i).mono t), q p (sm.free hp), f.mono t⟩
  | _ => exact q.elim
theorem gs_star {e : Expr} {es : List Expr} {p : Pos} {t : TDG} {u : TDGs} (h1 : DG X e t) (h2 : DGs X es u) : DGs X (.Starred e p :: es) (gdCons t u) := PGs.imp (pgs_starred h1 h2) fun vs σ H Q ⟨ρ, M, ds, Q0, dv, sm, r, q, f⟩ => by
  cases ds with
  | nil => exact q.elim
  | cons d ds =>
    cases r with
    | @cons v _ vs _ r rs =>
      refine ⟨v, vs, rfl, ρ, M, d, _, dv, sm, r, q, fun ρ1 M1 q1 σ1 H1 dv1 s1 t1 => ?_⟩
      exact ⟨ρ1, M1, ds, Q0, dv1, s1, rs.mono t1, q1, f.mono t1⟩
/-! ### match e: case "a": .. case _: .. -/
abbrev TM := V → TS
structure PMs (X : Cx) (cs : List MatchCase) (t : TM) : Prop where
  run : ∀ (pins : List (Addr × Obj)) (s : Shared) (σ : L2.St) (H : Hp) (D : Ends) (v : V) (u : Value) (b : Bool), L2.Inv X pins σ H s → RelV v u → t v D σ H → wpAny (model X.prog X.w) X.A (matchCases cs X.env u b) (SP X pins D) X.xe s
def tMat (te : TE) (t : TM) : TS := fun D σ H => te σ H fun x H1 => t x D σ H1
theorem ps_match {e : Expr} {cs : List MatchCase} {te : TE} {t : TM} (he : PE X e te) (h : PMs X cs t) : PS X (.Match e cs pos) (tMat te t) :=
  ⟨fun pins s σ H D I q => wpAny_Match (thn (he.run pins s σ H _ I q) fun v s1 ⟨x, H1, I1, r1, q1⟩ => h.run pins s1 σ H1 D x v true I1 r1 q1)⟩
theorem pms_any {p : Pos} {body : List Stmt} {rest : List MatchCase} {t : TS} (h : PSs X body t) : PMs X (⟨.MatchAs none none p, none, body⟩ :: rest) fun _ => t := ⟨fun pins s σ H D v u b I r q => by
  refine wpAny_matchCases_cons (wpAny_matchPattern_Capture ?_)
  exact assignInOrder_nil (h.run pins s σ H D I q)⟩
theorem pms_nil : PMs X [] fun _ D σ H => D.nx σ H := ⟨fun pins s σ H D v u b I r h => wpAny_matchCases_nil ⟨σ, H, I, h⟩⟩
def tCase (r : R2) (tc : TE) (tb : TS) (tr : TM) : TM := fun v D σ H => tc σ H fun y H1 => r v y H1 fun z H2 => ∃ k, z = .bl k ∧ if k = true then tb D σ H2 else tr v D σ H2
theorem pms_val {c : Expr} {p : Pos} {body : List Stmt} {rest : List MatchCase} {r : R2} {tc : TE} {tb : TS} {tr : TM} (hc : PE X c tc) (ho : OpR X (compareOp .Eq) r) (hb : PSs X body tb) (hr : PMs X rest tr) :
    PMs X (⟨.MatchValue c p, none, body⟩ :: rest) (tCase r tc tb tr) := ⟨fun pins s σ H D v u b I rv q => by
  refine wpAny_matchCases_cons (wpAny_matchPattern_Value (thn (hc.run pins s σ H _ I q) fun w s1 ⟨y, H1, I1, r1, q1⟩ => ?_))
  refine thn (ho pins s1 σ H1 v y u w _ I1 rv r1 q1) fun z s2 ⟨x, H2, I2, r2, k, e, q2⟩ => ?_
  subst e
  cases r2
  refine wpAny_truthy_bool ?_
  cases k with
  | true => exact assignInOrder_nil (hb.run pins s2 σ H2 D I2 q2)
  | false => exact hr.run pins s2 σ H2 D v u false I2 rv q2⟩
abbrev TDM := D → TDS
def upM (K : PySem.W.Frag) (W : WX) (td : TDM) : TM := fun v D σ H => ∃ ρ M D0 d, DvL K H σ ρ ∧ Sim K H M ∧ Rep K H v d ∧ td d D0 ρ M ∧ EUp K W H M D0 D
def DMs (X : Cx) (W : WX) (cs : List MatchCase) (td : TDM) : Prop := PMs X cs (upM X.K W td)
theorem PMs.imp {cs : List MatchCase} {t t' : TM} (h : PMs X cs t) (k : ∀ v D σ H, t' v D σ H → t v D σ H) : PMs X cs t' := ⟨fun pins s σ H D v u b I r q => h.run pins s σ H D v u b I r (k v D σ H q)⟩
def tdMat (te : TDE) (t : TDM) : TDS := fun D ρ M => te ρ M (fun d M1 => t d D ρ M1) (D.at ρ)
def tdCase (rd : RD2) (tc : TDE) (tb : TDS) (tr : TDM) : TDM := fun d D ρ M => tc ρ M (fun c M1 => rd d c M1 fun x M2 => match x with | .bl b => cnd b (tb D ρ M2) (tr d D ρ M2) | _ => False) (D.at ρ)
def tdDflt (tb : TDS) : TDM := fun _ => tb
def tdFall : TDM := fun _ D ρ M => D.nx ρ M
theorem s_match {e : Expr} {cs : List MatchCase} {te : TDE} {t : TDM} (he : DE X W e te) (h : DMs X W cs t) : DS X W (.Match e cs pos) (tdMat te t) := PS.imp (ps_match he h) fun D σ H ⟨ρ, M, D0, dv, sm, q, eu⟩ =>
  ⟨ρ, M, _, _, dv, sm, q, fun d M1 q1 v H1 r1 s1 t1 => ⟨ρ, M1, D0, d, dv.mono t1, s1, r1, q1, eu.mono t1⟩, eu.w dv⟩
theorem m_any {p : Pos} {body : List Stmt} {rest : List MatchCase} {t : TDS} (h : DSs X W body t) : DMs X W (⟨.MatchAs none none p, none, body⟩ :: rest) (tdDflt t) := PMs.imp (pms_any h) fun v D σ H ⟨ρ, M, D0, d, dv, sm, r, q, eu⟩ => ⟨ρ, M, D0, dv, sm, q, eu⟩
theorem m_nil : DMs X W [] tdFall := PMs.imp pms_nil fun v D σ H ⟨ρ, M, D0, d, dv, sm, r, q, eu⟩ => eu.nx _ _ q _ _ dv sm (Tr.refl H M)
theorem m_val {c : Expr} {p : Pos} {body : List Stmt} {rest : List MatchCase} {rd : RD2} {tc : TDE} {tb : TDS} {tr : TDM} (ho : CmpD X .Eq rd) (hc : DE X W c tc) (hb : DSs X W body tb) (hr : DMs X W rest tr) :
    DMs X W (⟨.MatchValue c p, none, body⟩ :: rest) (tdCase rd tc tb tr) := by
  obtain ⟨r, h1, h2⟩ := ho.ex
  refine PMs.imp (pms_val hc h1 hb hr) fun v D σ H ⟨ρ, M, D0, d, dv, sm, rv, q, eu⟩ => ?_
  refine ⟨ρ, M, _, _, dv, sm, q, fun c M1 q1 y H1 r1 s1 t1 => ?_, eu.w dv⟩
  refine h2 _ _ _ _ _ _ _ _ (rv.mono t1) r1 s1 q1 fun x M2 q2 z H2 r2 s2 t2 => ?_
  cases x with
  | bl b =>
    cases r2
    have t12 := t1.trans t2
    dsimp only at q2
    refine ⟨b, rfl, ?_⟩
    cases b with
    | true => rw [cnd_true] at q2; rw [if_pos rfl]; exact ⟨ρ, M2, D0, dv.mono t12, s2, q2, eu.mono t12⟩
    | false => rw [cnd_false] at q2; rw [if_neg Bool.false_ne_true]; exact ⟨ρ, M2, D0, d, dv.mono t12, s2, rv.mono t12, q2, eu.mono t12⟩
  | _ => exact q2.elim
end
end TD

namespace TD
open PySem PySem.Spec PySem.W PyProof.Rows L2
/-! ### [e for x in a for y in b]: the list that grows is in the memory -/
@[irreducible] def Lc2I (ds : List D) (Gd : Mem → Prop) (g : TDG) (wi1 : TDI) (g1 : TDG) (te : TDE) (vs1 : List Nat) (ρ : DSt) (M : Mem) (Q : D → Mem → Prop) : Prop := ∀ p, M p = none → ∃ I : Nat → Mem → Prop, I 0 (mupd M p (.lst [])) ∧ (∀ i M, i ≤ ds.length → I i M → Gd M) ∧
  (∀ i d M, ds[i]? = some d → I i M → g d ρ M fun ρ2 M2 => wi1 ρ2 M2 (fun ds1 Gd1 M3 => ∃ I1 : Nat → Mem → Prop, I1 0 M3 ∧ (∀ j M, j ≤ ds1.length → I1 j M → Gd1 M) ∧
    (∀ j d1 M, ds1[j]? = some d1 → I1 j M → g1 d1 (dwipe ρ2 vs1) M fun ρ3 M4 => te ρ3 M4 (fun y M5 => ∃ acc, M5 p = some (.lst acc) ∧ acc.length < sizeLine ∧ I1 (j + 1) (mupd M5 p (.lst (acc ++ [y])))) fun _ _ _ => False) ∧
    ∀ M, I1 ds1.length M → I (i + 1) M) fun _ _ _ => False) ∧ ∀ M, I ds.length M → Q (.ref p) M
def tdLc2 (wi : TDI) (g : TDG) (wi1 : TDI) (g1 : TDG) (te : TDE) (vs vs1 : List Nat) : TDE := fun ρ M Q E => wi ρ M (fun ds Gd M1 => Lc2I ds Gd g wi1 g1 te vs1 (dwipe ρ vs) M1 Q) E
theorem lc2_by {ds : List D} {Gd : Mem → Prop} {g : TDG} {wi1 : TDI} {g1 : TDG} {te : TDE} {vs1 : List Nat} {ρ : DSt} {M : Mem} {Q : D → Mem → Prop} (h : ∀ p, M p = none → ∃ I : Nat → Mem → Prop, I 0 (mupd M p (.lst [])) ∧ (∀ i M, i ≤ ds.length → I i M → Gd M) ∧
    (∀ i d M, ds[i]? = some d → I i M → g d ρ M fun ρ2 M2 => wi1 ρ2 M2 (fun ds1 Gd1 M3 => ∃ I1 : Nat → Mem → Prop, I1 0 M3 ∧ (∀ j M, j ≤ ds1.length → I1 j M → Gd1 M) ∧
      (∀ j d1 M, ds1[j]? = some d1 → I1 j M → g1 d1 (dwipe ρ2 vs1) M fun ρ3 M4 => te ρ3 M4 (fun y M5 => ∃ acc, M5 p = some (.lst acc) ∧ acc.length < sizeLine ∧ I1 (j + 1) (mupd M5 p (.lst (acc ++ [y])))) fun _ _ _ => False) ∧
      ∀ M, I1 ds1.length M → I (i + 1) M) fun _ _ _ => False) ∧ ∀ M, I ds.length M → Q (.ref p) M) : Lc2I ds Gd g wi1 g1 te vs1 ρ M Q := by unfold Lc2I; exact h
section
variable {X : Cx} {W : WX} {pos : Pos} {wi wi1 : TDI} {g g1 : TDG} {te : TDE} {vs vs1 : List Nat}
theorem up_lc2 {K : PySem.W.Frag} {σ : L2.St} {H : Hp} {Q : VK} (h : upE K W (tdLc2 wi g wi1 g1 te vs vs1) σ H Q) : tLc2 (upI K W wi) (upGw K vs g) L2.tYes (upI K W0 wi1) (upGw K vs1 g1) L2.tYes (upE K W0 te) vs vs1 σ H Q := by
  obtain ⟨ρ, M, Q0, E0, dv, sm, q, hq, he⟩ := h
  refine ⟨ρ, M, _, E0, dv, sm, q, fun ds Gd M1 q1 J S H1 dw st s1 t1 D hD => ?_, he⟩
  unfold Lc2I at q1
  obtain ⟨I, h0, hG, hs, hd⟩ := q1 D (s1.free hD)
  have t1' : Tr H1 M1 (upd H1 D (.lst [])) (mupd M1 D (.lst [])) := Tr.newM hD
  have st0 := dw.stay _ _ _ _ st t1'
  have s0 : Sim K (upd H1 D (.lst [])) (mupd M1 D (.lst [])) := s1.newM (mo := .lst []) hD ⟨[], upd_same, .nil⟩
  generalize mupd M1 D (.lst []) = M2 at *
  generalize upd H1 D (.lst []) = H2 at *
  have t12 := t1.trans t1'
  let P : Nat → Hp → Prop := fun i H' => ∃ M', Sim K H' M' ∧ Tr H2 M2 H' M' ∧ I i M'
  refine ⟨fun i m H' => m = ds.length - i ∧ i ≤ ds.length ∧ P i H', ⟨ds.length, by simp, Nat.zero_le _, M2, s0, Tr.refl H2 M2, h0⟩, ?_⟩
  rintro i m H3 ⟨rfl, hi, M3, s3, t3, i3⟩
  have st3 := dw.stay _ _ _ _ st0 t3
  have gd := hG i M3 hi i3
  by_cases hlt : i < ds.length
  · refine .inr ⟨dw.goes i H3 M3 hlt st3 s3 gd, P (i + 1), fun H' p' => ⟨ds.length - (i + 1), by omega, rfl, hlt, p'⟩, fun x H4 y => ?_⟩
    obtain ⟨d, ed, rd, s4, t4⟩ := dw.yields i H3 M3 x H4 hlt st3 s3 gd y
    refine ⟨dwipe ρ vs, M3, d, _, ((dv.mono t12).mono (t3.trans t4)).wipe vs, s4, rd, hs i d M3 ed i3, fun ρ5 M5 q5 σ5 H5 w5 dv5 s5 t5 => ⟨w5.trans (wipe_wipe σ vs), ?_⟩⟩
    dsimp only [L2.tYes]
    rw [if_pos rfl]
    refine ⟨ρ5, M5, _, _, dv5, s5, q5, fun ds1 Gd1 M6 q6 J1 S1 H6 dw1 st6 s6 t6 => ?_, w0_up⟩
    obtain ⟨I1, h10, h1G, h1s, h1d⟩ := q6
    have t26 := ((t3.trans t4).trans t5).trans t6
    let P1 : Nat → Hp → Prop := fun j H' => ∃ M', Sim K H' M' ∧ Tr H6 M6 H' M' ∧ I1 j M'
    refine ⟨fun j k H' => k = ds1.length - j ∧ j ≤ ds1.length ∧ P1 j H', ⟨ds1.length, by simp, Nat.zero_le _, M6, s6, Tr.refl H6 M6, h10⟩, ?_⟩
    rintro j k H7 ⟨rfl, hj, M7, s7, t7, i7⟩
    have st7 := dw1.stay _ _ _ _ st6 t7
    have gd7 := h1G j M7 hj i7
    by_cases hlt1 : j < ds1.length
    · refine .inr ⟨dw1.goes j H7 M7 hlt1 st7 s7 gd7, P1 (j + 1), fun H' p' => ⟨ds1.length - (j + 1), by omega, rfl, hlt1, p'⟩, fun x1 H8 y1 => ?_⟩
      obtain ⟨d1, ed1, rd1, s8, t8⟩ := dw1.yields j H7 M7 x1 H8 hlt1 st7 s7 gd7 y1
      refine ⟨dwipe ρ5 vs1, M7, d1, _, ((dv5.mono t6).mono (t7.trans t8)).wipe vs1, s8, rd1, h1s j d1 M7 ed1 i7, fun ρ9 M9 q9 σ9 H9 w9 dv9 s9 t9 => ⟨w9.trans (wipe_wipe σ5 vs1), ?_⟩⟩
      rw [if_pos rfl]
      refine ⟨ρ9, M9, _, _, dv9, s9, q9, fun dy M10 q10 vy H10 r10 s10 t10 => ?_, w0_up⟩
      obtain ⟨acc, e1, e2, e3⟩ := q10
      obtain ⟨ws, g10, rs⟩ := s10.lst e1
      have tw : Tr H10 M10 (upd H10 D (.lst (ws ++ [vy]))) (mupd M10 D (.lst (acc ++ [dy]))) := Tr.wr e1 g10 rfl
      refine ⟨ws, g10, by rw [rs.length]; exact e2, mupd M10 D (.lst (acc ++ [dy])), Sim.wr e1 g10 rfl s10 ⟨_, upd_same, (repsSnoc r10 rs).mono tw⟩, ((((t7.trans t8).trans t9).trans t10).trans tw), e3⟩
    · have e : j = ds1.length := by omega
      subst e
      exact .inl ⟨dw1.stops H7 M7 st7 s7 gd7, M7, s7, t26.trans t7, h1d M7 i7⟩
  · have e : i = ds.length := by omega
    subst e
    exact .inl ⟨dw.stops H3 M3 st3 s3 gd, hq _ _ (hd M3 i3) _ H3 (.ref D) s3 (t12.trans t3)⟩
theorem d_lc2 {elt tg iter tg1 iter1 : Expr} {scope : Scope} {own own1 : List (Str × Nat)} (hc : X.calm = true) (hN : X.N.Nodup) (hi : DI X W tg iter wi) (ok : BlkOk X.N X.env.scope scope own) (hv : ∀ i ∈ own1.map (·.2), i ∈ own.map (·.2))
    (hg : ∀ (s : Shared) (H : Hp) (C : Addr) (cl : List (Str × Addr)) (fp : List Addr), CG (X.blk s H scope (compEnvC scope cl C X.env) fp) (own.map (·.2)) tg g)
    (hi1 : ∀ (s : Shared) (H : Hp) (C : Addr) (cl : List (Str × Addr)) (fp : List Addr), DI (X.blk s H scope (compEnvC scope cl C X.env) fp) W0 tg1 iter1 wi1)
    (hg1 : ∀ (s : Shared) (H : Hp) (C : Addr) (cl : List (Str × Addr)) (fp : List Addr), CG (X.blk s H scope (compEnvC scope cl C X.env) fp) (own1.map (·.2)) tg1 g1)
    (he : ∀ (s : Shared) (H : Hp) (C : Addr) (cl : List (Str × Addr)) (fp : List Addr), DE (X.blk s H scope (compEnvC scope cl C X.env) fp) W0 elt te) (hs : ∀ x, foldedSetIterable iter X.env x = pure x := by intro _; rfl) (hs1 : ∀ env x, foldedSetIterable iter1 env x = pure x := by intro _ _; rfl) :
    DE X W (.ListComp elt [⟨tg, iter, [], 0⟩, ⟨tg1, iter1, [], 0⟩] scope pos) (tdLc2 wi g wi1 g1 te (own.map (·.2)) (own1.map (·.2))) :=
  PE.imp (pe_lc2 (wi := upI X.K W wi) (g := upGw X.K (List.map (fun p : Str × Nat => p.2) own) g) (wi1 := upI X.K W0 wi1) (g1 := upGw X.K (List.map (fun p : Str × Nat => p.2) own1) g1) (te := upE X.K W0 te) hc hN hi ok hv hg (fun _ _ _ _ _ => pts_nil) hi1 hg1 (fun _ _ _ _ _ => pts_nil) he hs hs1) fun _ _ _ h => up_lc2 h
end
end TD

namespace TD
open PySem PySem.Spec PySem.W PyProof.Rows L2
/-! ### D.get(key, e) of a dict that stands in the module: texts to numbers -/
def kdEnt (w : World) (r : Str × Tok × Int × Tok) : DictEntry := { hash := PyData.keyHash w.params r.1, key := .str r.1 r.2.1, val := .int r.2.2.1 r.2.2.2 }
structure DkAt (K : PySem.W.Frag) (mg : Str → Option Value) (w : World) (x : Str) (kvs : List (Str × Int)) : Prop where
  ex : ∃ D ep, ∃ rs : List (Str × Tok × Int × Tok), mg x = some (.ref D) ∧ K.lookup D = some ⟨.type "dict", none, .dict (rs.map (kdEnt w)).toArray ep, #[]⟩ ∧ (D == sysModules) = false ∧ rs.map (fun r => (r.1, r.2.2.1)) = kvs ∧ (kvs.map (·.1)).Nodup
def kdVs (rs : List (Str × Tok × Int × Tok)) : List (Key × Value) := rs.map fun r => (Sum.inr r.1, Value.int r.2.2.1 r.2.2.2)
theorem kd_pairs {prog : Program} {w : World} : ∀ rs : List (Str × Tok × Int × Tok), Pairs (mixKind prog w) (rs.map (kdEnt w)) (kdVs rs)
  | [] => .nil
  | r :: rs => Pairs.cons (e := kdEnt w r) (kv := (Sum.inr r.1, Value.int r.2.2.1 r.2.2.2)) (mixKind_str prog w r.1 r.2.1) rfl (kd_pairs rs)
theorem kd_val : ∀ (rs : List (Str × Tok × Int × Tok)) (k : Str), (∃ i t, valueAt (kdVs rs) (Sum.inr k : Key) = some (.int i t) ∧ (rs.map fun r => (r.1, r.2.2.1)).lookup k = some i) ∨ (valueAt (kdVs rs) (Sum.inr k : Key) = none ∧ (rs.map fun r => (r.1, r.2.2.1)).lookup k = none)
  | [], k => .inr ⟨rfl, rfl⟩
  | r :: rs, k => by
    have ih := kd_val rs k
    unfold valueAt kdVs at ih ⊢
    by_cases e : r.1 = k
    · refine .inl ⟨r.2.2.1, r.2.2.2, ?_, ?_⟩
      · rw [List.map_cons, List.find?_cons_of_pos (by simp [e])]
        rfl
      · rw [List.map_cons, List.lookup_cons, show (k == r.1) = true by simp [e]]
    · rw [List.map_cons, List.find?_cons_of_neg (by simp [e]), List.map_cons, List.lookup_cons, show (k == r.1) = false by simp [Ne.symm e]]
      exact ih
theorem kd_dict {prog : Program} {w : World} {h : Heap} {D : Addr} {ep : Nat} {rs : List (Str × Tok × Int × Tok)} (e : h.get? D = some ⟨.type "dict", none, .dict (rs.map (kdEnt w)).toArray ep, #[]⟩) (hn : ((rs.map fun r => (r.1, r.2.2.1)).map (·.1)).Nodup) : h.DictOf (mixKind prog w) D (kdVs rs) := by
  refine ⟨_, _, ep, e, ⟨rfl, rfl, rfl⟩, rfl, fun x hx => ?_, ?_, ?_⟩
  · obtain ⟨r, _, rfl⟩ := List.mem_map.mp (by simpa using hx : x ∈ rs.map (kdEnt w))
    exact ⟨Sum.inr r.1, mixKind_str prog w r.1 r.2.1, rfl⟩
  · exact kd_pairs rs
  · unfold kdVs
    rw [List.map_map] at hn ⊢
    have : ((fun x => x.1) ∘ fun r : Str × Tok × Int × Tok => ((Sum.inr r.1 : Key), Value.int r.2.2.1 r.2.2.2)) = Sum.inr ∘ ((fun x : Str × Int => x.1) ∘ fun r : Str × Tok × Int × Tok => (r.1, r.2.2.1)) := rfl
    rw [this, ← List.map_map]
    exact List.Pairwise.map _ (fun a b hab h => hab (Sum.inr.inj h)) hn
section
variable {X : Cx} {W : WX} {pos : Pos} {e f : Expr} {ty tx : TDE}
def tKGet (kvs : List (Str × Int)) (ty tx : TE) : TE := fun σ H Q => ty σ H fun y H1 => tx σ H1 fun z H2 => ∃ k, y = .str k ∧ Q (match kvs.lookup k with | some i => .int i | none => z) H2
theorem pe_kget {x : Str} {px apos cpos : Pos} {kvs : List (Str × Int)} {ty tx : TE} (d : DkAt X.K X.mg X.w x kvs) (hg : Gl X x) (hd : (x == ("__debug__" : Str)) = false) (he : PE X e ty) (hf : PE X f tx) (m : M2 X (.Name x px) "get" apos e f cpos) : PE X (.Call (.Attribute (.Name x px) "get" apos) [e, f] [] cpos) (tKGet kvs ty tx) := by
  obtain ⟨D, ep, rs, hm, hk, hs, hkv, hn⟩ := d.ex
  subst hkv
  refine ⟨fun pins s σ H Q I h => ?_⟩
  refine wpAny_Call_method m.base m.few m.line PySem.F.plainAttrs_dict PySem.F.slot_dict_get PySem.F.type_dict_get ?_
  refine ld_glob I hg hm ?_ hd
  have at_ : ∀ {s' : Shared} {H' : Hp}, L2.Inv X pins σ H' s' → s'.heap.DictOf (mixKind X.prog X.w) D (kdVs rs) := fun J => kd_dict (J.kIn D _ hk) hn
  refine ⟨(at_ I).typeIs, fun b q => ?_, ?_⟩
  · cases q
    exact ⟨_, I.kIn D _ hk, rfl⟩
  rw [m.trees]
  refine Calls.callWith_builtin rfl (Calls.evalArgs_plain (Calls.spliced_cons (thn (he.run pins s σ H _ I h) fun iv s2 ⟨y, H2, I2, ry, q2⟩ =>
    Calls.spliced_cons (thn (hf.run pins s2 σ H2 _ I2 q2) fun fv s3 ⟨z, H3, I3, rz, k, ek, q3⟩ => Calls.spliced_nil ?_))))
  subst ek
  have dd := at_ I3
  refine call_meetsIn PySem.F.slot_dict_get dd.typeIs PySem.F.entry_dict_get (PySem.F.args_dict_get_3 _ _ _) (meets_dict_get_default (mixKind X.prog X.w) D (kV_is (k := Sum.inr k) ry) hs fv) ⟨_, dd.mapOf, ?_⟩
  refine ⟨_, H3, I3.tok _, ?_, q3⟩
  rcases kd_val rs k with ⟨i, t, h1, h2⟩ | ⟨h1, h2⟩
  · rw [h1, h2]
    exact ⟨t, rfl⟩
  · rw [h1, h2]
    exact rz
def tdKGet (kvs : List (Str × Int)) (ty tx : TDE) : TDE := fun ρ M Q E => ty ρ M (fun y M1 => tx ρ M1 (fun z M2 => match y with | .str k => Q (match kvs.lookup k with | some i => .int i | none => z) M2 | _ => False) E) E
theorem d_kget {x : Str} {px apos cpos : Pos} {kvs : List (Str × Int)} (d : DkAt X.K X.mg X.w x kvs) (he : DE X W e ty) (hf : DE X W f tx) (hg : Gl X x := by rfl) (hd : (x == ("__debug__" : Str)) = false := by decide) (m : M2 X (.Name x px) "get" apos e f cpos := by exact ⟨rfl, rfl, rfl, rfl⟩) :
    DE X W (.Call (.Attribute (.Name x px) "get" apos) [e, f] [] cpos) (tdKGet kvs ty tx) := PE.imp (pe_kget d hg hd he hf m) fun σ H Q ⟨ρ, M, Q0, E0, dv, sm, q, hq, hE⟩ => by
  refine ⟨ρ, M, _, E0, dv, sm, q, fun y M1 q1 v H1 r1 s1 t1 => ?_, hE⟩
  refine ⟨ρ, M1, _, E0, dv.mono t1, s1, q1, fun z M2 q2 u H2 r2 s2 t2 => ?_, hE.mono t1⟩
  cases y with
  | str k =>
    cases r1
    refine ⟨k, rfl, ?_⟩
    dsimp only at q2
    cases h : kvs.lookup k with
    | some i => rw [h] at q2; exact hq _ _ q2 _ _ (.int i) s2 (t1.trans t2)
    | none => rw [h] at q2; exact hq _ _ q2 _ _ r2 s2 (t1.trans t2)
  | _ => exact q2.elim
end
end TD

namespace TD
open PySem PySem.Spec PySem.W PyProof.Rows L2
/-! ### t[i::k] of a tuple -/
def stepN (n i k : Nat) : Nat := if i < n then (n - i - 1) / k + 1 else 0
def stepV {α : Type} (xs : List α) (i k : Nat) : List α := (List.range (stepN xs.length i k)).filterMap fun m => xs[i + m * k]?
theorem stepN_le (n i k : Nat) : stepN n i k ≤ n := by
  unfold stepN
  split
  · have := Nat.div_le_self (n - i - 1) k
    omega
  · omega
theorem stepV_length {α : Type} (xs : List α) (i k : Nat) : (stepV xs i k).length ≤ xs.length := by
  unfold stepV
  refine Nat.le_trans (List.length_filterMap_le _ _) ?_
  rw [List.length_range]
  exact stepN_le _ _ _
section
variable {prog : Program} {w : World} {A : Around} {E : Value → Shared → Prop} {s : Shared}
theorem sliceApplied_step {sl : Addr} {vl vk : Value} {n i k : Nat} {Q : Int × Int × Nat → Shared → Prop} (hs : s.heap.IsSliceOf sl vl .none vk) (pl : IsPart vl (some (i : Int))) (pk : IsPart vk (some (k : Int))) (hi : i ≤ n) (hk : 0 < k)
    (h : Q ((i : Int), (k : Int), stepN n i k) s) : wpAny (model prog w) A (Builtin.Slice.sliceApplied (.ref sl) (pure (n : Int))) Q E s := by
  obtain ⟨os, hos, hcs, hds⟩ := id hs
  unfold Builtin.Slice.sliceApplied Builtin.Slice.sliceFields
  refine wpAny_bind (wpAny_bind (wpAny_field hos hds (x := vl) rfl (wpAny_bind (wpAny_field hos hds (x := .none) rfl (wpAny_bind (wpAny_field hos hds (x := vk) rfl (wpAny_pure ?_)))))))
  refine wpAny_bind (HT.slicePart_ pk ?_)
  show wpAny _ _ (if (((k : Nat) : Int) == 0) = true then _ else _) _ _ s
  rw [if_neg (by simp; omega)]
  refine wpAny_bind (HT.slicePart_ pl (wpAny_bind (slicePart_none (wpAny_bind (wpAny_pure ?_)))))
  have e : Builtin.Slice.sliceAdjust (some (i : Int)) none (k : Int) (n : Int) = ((i : Int), (n : Int)) := by
    have h1 : ¬ ((k : Int) < 0) := by omega
    unfold Builtin.Slice.sliceAdjust
    simp only [h1, if_false]
    refine Prod.ext ?_ rfl
    show (if (i : Int) < 0 then max ((i : Int) + (n : Int)) 0 else min (i : Int) (n : Int)) = (i : Int)
    rw [if_neg (by omega)]
    omega
  show wpAny _ _ (match Builtin.Slice.sliceAdjust (some (i : Int)) none (k : Int) (n : Int) with | (lo, hi) => pure (lo, (k : Int), Builtin.Slice.slicePlaces lo hi k)) _ _ s
  rw [e]
  have e2 : Builtin.Slice.slicePlaces (i : Int) (n : Int) (k : Int) = stepN n i k := by
    unfold Builtin.Slice.slicePlaces stepN
    rw [if_pos (show (k : Int) > 0 by omega)]
    by_cases z : i < n
    · rw [if_pos (by omega), if_pos z]
      have : ((n : Int) - i - 1) = ((n - i - 1 : Nat) : Int) := by omega
      rw [this]
      exact Int.toNat_natCast _
    · rw [if_neg (by omega), if_neg z]
      rfl
  show wpAny _ _ (pure ((i : Int), (k : Int), Builtin.Slice.slicePlaces (i : Int) (n : Int) (k : Int))) _ _ s
  rw [e2]
  exact wpAny_pure h
theorem pick_step (xs : List Value) (i k : Nat) : ((List.range (stepN xs.length i k)).filterMap fun (m : Nat) => xs.toArray[((i : Int) + (m : Int) * (k : Int)).toNat]?) = stepV xs i k := by
  unfold stepV
  congr 1
  funext m
  have : ((i : Int) + (m : Int) * (k : Int)).toNat = i + m * k := by
    have : (i : Int) + (m : Int) * (k : Int) = ((i + m * k : Nat) : Int) := by simp
    rw [this]
    exact Int.toNat_natCast _
  rw [this, List.getElem?_toArray]
theorem getItem_tuple_step {t sl : Addr} {items : List Value} {vl vk : Value} {i k : Nat} {Q : Value → Shared → Prop} (ht : IsTup s.heap t items.toArray) (hs : s.heap.IsSliceOf sl vl .none vk) (pl : IsPart vl (some (i : Int))) (pk : IsPart vk (some (k : Int)))
    (hi : i ≤ items.length) (hk : 2 ≤ k) (h : Q (.ref s.heap.objs.size) { s with heap := s.heap.push { cls := .type "tuple", data := .seq (stepV items i k).toArray } })
    (hsz : items.length ≤ sizeLine) : wpAny (model prog w) A (getItem (.ref t) (.ref sl)) Q E s := by
  have hok : sizeOk (.seq (stepV items i k).toArray) := by
    show (stepV items i k).toArray.size ≤ sizeLine
    rw [List.size_toArray]
    exact Nat.le_trans (stepV_length _ _ _) hsz
  obtain ⟨os, hos, hcs, hds⟩ := id hs
  have hTs : s.TypeIs (.ref sl) "slice" := ⟨os, hos, hcs⟩
  unfold getItem
  try with_reducible refine wpAny_holding ?_
  first | refine wpAny_bind (wpAny_pure ?_) | skip
  refine wpAny_bind (wpAny_sequenceKey ht.typeIs (by decide) ?_)
  refine wpAny_bind (wpAny_callSpecial?_slot (name := Str.ofString "__getitem__") ht.typeIs PyProof.Rows.slot_tuple_getitem
    (wpAny_call_entry PyProof.Rows.slot_tuple_getitem ht.typeIs PyProof.Rows.entry_tuple_getitem ?_ (PyProof.Rows.args_tuple_getitem _ _)))
  show wpAny _ _ (Builtin.Tuple.tupleItemsOf (.ref t) >>= _) _ _ s
  refine wpAny_bind (PyProof.Rows.tupleItemsOf_ ht ?_)
  refine wpAny_bind (wpAny_typeOf hTs ?_)
  rw [if_pos (by decide)]
  have e0 : ((items.toArray.size : Nat) : Int) = (items.length : Int) := by rw [List.size_toArray]
  refine wpAny_bind (sliceApplied_step (n := items.toArray.size) hs pl pk (by rw [List.size_toArray]; exact hi) (by omega) ?_)
  have hno : ¬ (((i : Int) == 0 && (k : Int) == 1 && stepN items.toArray.size i k == items.toArray.size) = true) := by
    intro q
    rw [Bool.and_eq_true, Bool.and_eq_true] at q
    have q1 : (k : Int) = 1 := eq_of_beq q.1.2
    omega
  show wpAny _ _ (if ((i : Int) == 0 && (k : Int) == 1 && stepN items.toArray.size i k == items.toArray.size) = true then _ else _) _ _ s
  rw [if_neg hno, List.size_toArray, pick_step]
  first
    | exact wpAny_bind (m := Builtin.Tuple.tupleExact _) (wpAny_newObj_type (wpAny_pure ⟨_, rfl, wpAny_pure h⟩) hok)
    | exact wpAny_bind (m := Builtin.Tuple.tupleExact _) (wpAny_newObj_type (wpAny_bind (wpAny_pure (wpAny_pure ⟨_, rfl, wpAny_pure h⟩))) hok)
    | exact wpAny_bind (wpAny_bind (m := Builtin.Tuple.tupleExact _) (wpAny_newObj_type (wpAny_pure (wpAny_pure ⟨_, rfl, wpAny_pure h⟩)) hok))
    | exact wpAny_bind (wpAny_bind (m := Builtin.Tuple.tupleExact _) (wpAny_newObj_type (wpAny_pure ⟨_, rfl, wpAny_pure h⟩) hok))
end
section
variable {X : Cx} {W : WX} {pos p2 : Pos} {e lo st : Expr}
def tStep (K : PySem.W.Frag) (te : TE) (tl tk : TO) : TE := fun σ H Q => te σ H fun x H1 => tl σ H1 fun l H2 => tk σ H2 fun k H3 => ∃ (a : Addr) (xs : List V) (i j : Nat), x = .ref a ∧ l = some (i : Int) ∧ k = some (j : Int) ∧ SqT K H3 a xs ∧ i ≤ xs.length ∧ 2 ≤ j ∧
  ∀ p, H3 p = none → Q (.ref p) (upd H3 p (.tup (stepV xs i j)))
theorem stepVals {xs : List V} {us : List Value} (r : Vals xs us) (i k : Nat) : Vals (stepV xs i k) (stepV us i k) := by
  unfold stepV
  rw [r.length]
  have h : ∀ l : List Nat, Vals (l.filterMap fun m => xs[i + m * k]?) (l.filterMap fun m => us[i + m * k]?) := by
    intro l
    induction l with
    | nil => exact .nil
    | cons m l ih =>
      cases e : xs[i + m * k]? with
      | none =>
        have e2 : us[i + m * k]? = none := by
          rw [List.getElem?_eq_none_iff] at e ⊢
          rw [← r.length]
          exact e
        rw [List.filterMap_cons, List.filterMap_cons, e, e2]
        exact ih
      | some x =>
        obtain ⟨u, e2, ru⟩ := r.get e
        rw [List.filterMap_cons, List.filterMap_cons, e, e2]
        exact .cons ru ih
  exact h _
theorem pe_step {te : TE} {tl tk : TO} (he : PE X e te) (hl : PO X (some lo) tl) (hk : PO X (some st) tk) : PE X (.Subscript e (.Slice (some lo) none (some st) p2) pos) (tStep X.K te tl tk) := by
  refine ⟨fun pins s σ H Q I h => ?_⟩
  refine Subscript_ (thn (he.run pins s σ H _ I h) fun v s1 ⟨x, H1, I1, r1, q1⟩ => ?_)
  refine wpAny_Slice (thn (hl.run pins s1 σ H1 _ I1 q1) fun vl s2 ⟨l, H2, I2, pl, q2⟩ => ?_)
  rw [evalPart_none]
  refine wpAny_pure (thn (hk.run pins s2 σ H2 _ I2 q2) fun vk s3 ⟨k, H3, I3, pk, q3⟩ => ?_)
  obtain ⟨a, xs, i, j, rfl, rfl, rfl, hx, hi, hj, q⟩ := q3
  cases r1
  have I4 : L2.Inv X pins σ H3 { s3 with heap := s3.heap.push { cls := .type "slice", data := .fields #[vl, .none, vk] } } := I3.kept (t' := s3.toks) fun b ob q => Heap.get?_push_of_some _ q
  obtain ⟨its, r, ht, hz⟩ := I4.tuple hx
  have hlen : its.length = xs.length := r.length.symm
  have hg : wpAny (model X.prog X.w) X.A (getItem (.ref a) (.ref s3.heap.objs.size)) (EP X pins σ Q) X.xe { s3 with heap := s3.heap.push { cls := .type "slice", data := .fields #[vl, .none, vk] } } := by
    refine getItem_tuple_step ht (Heap.IsSliceOf.new ..) pl pk (by omega) hj ?_ (by omega)
    refine ⟨.ref _, _, I4.laid (t' := s3.toks) (o := .tup (stepV xs i j)) (fun b ob q => Heap.get?_push_of_some _ q) (Nat.le_refl _) ?_, rfl, q _ (I4.hok.fresh (Nat.le_refl _))⟩
    exact ⟨Nat.le_trans (stepV_length _ _ _) hz, _, stepVals r i j, IsTup.new _ _⟩
  show wpAny (model X.prog X.w) X.A (subscriptTail e (.Slice (some lo) none (some st) p2) (.ref a) (.ref s3.heap.objs.size)) (EP X pins σ Q) X.xe { s3 with heap := s3.heap.push { cls := .type "slice", data := .fields #[vl, .none, vk] } }
  exact tail_any ht.typeIs PyProof.Rows.slot_tuple_getitem.lookup hg (by with_unfolding_all rfl)
@[irreducible] def rdStep (x : D) (l k : Option Int) (M : Mem) (Q : D → Mem → Prop) : Prop := match x with
  | .tup ds => ∃ i j : Nat, l = some (i : Int) ∧ k = some (j : Int) ∧ i ≤ ds.length ∧ 2 ≤ j ∧ Q (.tup (stepV ds i j)) M
  | _ => False
theorem step_t {ds : List D} {i j : Nat} {M : Mem} {Q : D → Mem → Prop} (hi : i ≤ ds.length) (hj : 2 ≤ j) (h : Q (.tup (stepV ds i j)) M) : rdStep (.tup ds) (some (i : Int)) (some (j : Int)) M Q := by
  unfold rdStep
  exact ⟨i, j, rfl, rfl, hi, hj, h⟩
theorem stepReps {K : PySem.W.Frag} {H : Hp} {xs : List V} {us : List D} (r : Reps K H xs us) (i k : Nat) : Reps K H (stepV xs i k) (stepV us i k) := by
  unfold stepV
  rw [r.length]
  have h : ∀ l : List Nat, Reps K H (l.filterMap fun m => xs[i + m * k]?) (l.filterMap fun m => us[i + m * k]?) := by
    intro l
    induction l with
    | nil => exact .nil
    | cons m l ih =>
      cases e : us[i + m * k]? with
      | none =>
        have e2 : xs[i + m * k]? = none := by
          rw [List.getElem?_eq_none_iff] at e ⊢
          rw [r.length]
          exact e
        rw [List.filterMap_cons, List.filterMap_cons, e, e2]
        exact ih
      | some x =>
        obtain ⟨u, e2, ru⟩ := r.get e
        rw [List.filterMap_cons, List.filterMap_cons, e, e2]
        exact .cons ru ih
  exact h _
def tdStep (te : TDE) (tl tk : TDO) : TDE := fun ρ M Q E => te ρ M (fun x M1 => tl ρ M1 (fun l M2 => tk ρ M2 (fun k M3 => rdStep x l k M3 Q) E) E) E
theorem d_step {te : TDE} {tl tk : TDO} (he : DE X W e te) (hl : DO X W (some lo) tl) (hk : DO X W (some st) tk) : DE X W (.Subscript e (.Slice (some lo) none (some st) p2) pos) (tdStep te tl tk) := PE.imp (pe_step he hl hk) fun σ H Q ⟨ρ, M, Q0, E0, dv, sm, q, hq, hE⟩ => by
  refine ⟨ρ, M, _, E0, dv, sm, q, fun x M1 q1 v H1 r1 s1 t1 => ?_, hE⟩
  refine ⟨ρ, M1, _, E0, dv.mono t1, s1, q1, fun l M2 q2 H2 s2 t2 => ?_, hE.mono t1⟩
  refine ⟨ρ, M2, _, E0, (dv.mono t1).mono t2, s2, q2, fun k M3 q3 H3 s3 t3 => ?_, (hE.mono t1).mono t2⟩
  unfold rdStep at q3
  cases x with
  | tup ds =>
    obtain ⟨i, j, e1, e2, hi, hj, q⟩ := q3
    have r3 := (r1.mono t2).mono t3
    cases r3 with
    | tup g rs =>
      rename_i a vs
      refine ⟨a, vs, i, j, rfl, e1, e2, g, by rw [rs.length]; exact hi, hj, fun p hp => ?_⟩
      have t : Tr H3 M3 (upd H3 p (.tup (stepV vs i j))) M3 := Tr.new hp
      exact hq _ _ q _ _ (.tup (.inl (.inl upd_same)) ((stepReps rs i j).mono t)) (s3.new hp) (((t1.trans t2).trans t3).trans t)
  | _ => exact q3.elim
end
end TD

namespace TD
open PySem PySem.Spec PySem.W PyProof.Rows L2
/-! ### xs[::-1] of a list: a new list -/
section
variable {X : Cx} {W : WX} {pos p2 : Pos} {e st : Expr} {te : TDE} {tk : TDO}
def tRevL (K : PySem.W.Frag) (te : TE) (tk : TO) : TE := fun σ H Q => te σ H fun x H1 => tk σ H1 fun k H2 => ∃ a xs, x = .ref a ∧ k = some (-1) ∧ SqL K H2 a xs ∧ ∀ p, H2 p = none → Q (.ref p) (upd H2 p (.lst xs.reverse))
theorem pe_rev {te : TE} {tk : TO} (he : PE X e te) (hk : PO X (some st) tk) : PE X (.Subscript e (.Slice none none (some st) p2) pos) (tRevL X.K te tk) := by
  refine ⟨fun pins s σ H Q I h => ?_⟩
  refine Subscript_ (thn (he.run pins s σ H _ I h) fun v s1 ⟨x, H1, I1, r1, q1⟩ => ?_)
  refine wpAny_Slice ?_
  rw [evalPart_none]
  refine wpAny_pure ?_
  refine wpAny_pure (thn (hk.run pins s1 σ H1 _ I1 q1) fun vk s3 ⟨k, H3, I3, pk, q3⟩ => ?_)
  obtain ⟨a, xs, rfl, rfl, hx, q⟩ := q3
  cases r1
  have I4 : L2.Inv X pins σ H3 { s3 with heap := s3.heap.push { cls := .type "slice", data := .fields #[.none, .none, vk] } } := I3.kept (t' := s3.toks) fun b ob q => Heap.get?_push_of_some _ q
  obtain ⟨its, r, ht, hz⟩ := I4.list hx
  have hlen : its.length = xs.length := r.length.symm
  have hg : wpAny (model X.prog X.w) X.A (getItem (.ref a) (.ref s3.heap.objs.size)) (EP X pins σ Q) X.xe { s3 with heap := s3.heap.push { cls := .type "slice", data := .fields #[.none, .none, vk] } } := by
    refine wpAny_getItem_list_slice ht.isList (Heap.IsSliceOf.new ..) .none .none pk (by decide) ?_ (by rw [List.size_toArray]; omega)
    rw [PySem.W.krv_pick]
    refine ⟨.ref _, _, I4.laid (t' := s3.toks) (o := .lst xs.reverse) (fun b ob q => Heap.get?_push_of_some _ q) (Nat.le_refl _) ?_, rfl, q _ (I4.hok.fresh (Nat.le_refl _))⟩
    refine ⟨by rw [List.length_reverse]; exact hz, its.reverse, 0, r.reverse, ?_⟩
    exact Heap.get?_push_size _ rfl
  show wpAny (model X.prog X.w) X.A (subscriptTail e (.Slice none none (some st) p2) (.ref a) (.ref s3.heap.objs.size)) (EP X pins σ Q) X.xe { s3 with heap := s3.heap.push { cls := .type "slice", data := .fields #[.none, .none, vk] } }
  exact tail_any ht.isList.typeIs slot_list_getitem.lookup hg (by with_unfolding_all rfl)
def tdRev (te : TDE) (tk : TDO) : TDL := fun ρ M Q E => te ρ M (fun x M1 => tk ρ M1 (fun k M2 => k = some (-1) ∧ rdQof x M2 fun ds M3 => Q ds.reverse M3) E) E
theorem l_rev (he : DE X W e te) (hk : DO X W (some st) tk) : DL X W (.Subscript e (.Slice none none (some st) p2) pos) (tdRev te tk) :=
  PE.imp (pe_rev he hk) fun σ H Q ⟨ρ, M, Q0, E0, dv, sm, q, hq, he⟩ => by
    refine ⟨ρ, M, _, E0, dv, sm, q, fun d M1 q1 v H1 r1 s1 t1 => ?_, he⟩
    refine ⟨ρ, M1, _, E0, dv.mono t1, s1, q1, fun k M2 q2 H2 s2 t2 => ?_, he.mono t1⟩
    have t12 := t1.trans t2
    obtain ⟨rfl, q3⟩ := q2
    unfold rdQof at q3
    split at q3
    · rename_i ds e1
      obtain ⟨a, vs, rfl, g, rs⟩ := lstD_ok s2 (r1.mono t2) e1
      refine ⟨a, vs, rfl, rfl, g, fun p hp => ?_⟩
      have t4 : Tr H2 M2 (upd H2 p (.lst vs.reverse)) M2 := Tr.new hp
      exact hq _ _ q3 p _ _ (t12.fresh hp) upd_same (s2.free hp) (rs.reverse.mono t4) (s2.new hp) (t12.trans t4)
    · exact q3.elim
end
end TD

namespace TD
open PySem PySem.Spec PyProof.Rows L2
open AutoSeq1 (wpAny_loadPart')
/-! ### enumerate over a tuple -/
theorem meets_enumT (l : Addr) (items : Array Value) (n : Nat) (dct : Option Addr) (sl : Array (Option Value)) :
    Meets (Builtin.«enumerate.__new__» ⟨[.type "enumerate", .ref l], []⟩) (fun _ R s => s.heap.get? l = some { cls := .type "tuple", dict := dct, data := .seq items n, slots := sl } ∧
      R (.ok (.ret (.ref (s.heap.push { cls := .type "tuple_iterator", data := .fields #[.ref l, .int 0 0] }).objs.size)))
        { s with heap := (s.heap.push { cls := .type "tuple_iterator", data := .fields #[.ref l, .int 0 0] }).push { cls := .type "enumerate", data := .fields #[.none, .bool false, .ref s.heap.objs.size, rawInt 0, .none, .none] } }) :=
  .of_wp fun prog w A R s h => by
    obtain ⟨hp, g, d, tk, os⟩ := s
    obtain ⟨hl, h⟩ := h
    have hsub := sub_enumerate
    have hL : Heap.IsTuple (Shared.heap ⟨hp, g, d, tk, os⟩) l items := ⟨_, hl, rfl, n, rfl⟩
    wp_walk using wpAny_loadPart' hl
    refine wpAny_stack_any fun st => wpAny_pure ?_
    split
    · rename_i c _ _ _ _ _
      cases (c == Value.type "enumerate")
      · wp_walk using wpAny_loadPart' hl, wpAny_pyIter_tuple hL
        exact ⟨_, rfl, h⟩
      · wp_walk using wpAny_loadPart' hl, wpAny_pyIter_tuple hL
        exact ⟨_, rfl, h⟩
    · wp_walk using wpAny_loadPart' hl, wpAny_pyIter_tuple hL
      exact ⟨_, rfl, h⟩
section
variable {prog : Program} {w : World} {A : Around} {E : Value → Shared → Prop} {s : Shared}
theorem call_enumT {l : Addr} {items : Array Value} {Q : Value → Shared → Prop} (hL : s.heap.IsTuple l items)
    (h : ∀ h', IsEnum h' (s.heap.objs.size + 1) s.heap.objs.size 0 .none → h'.IsTupleIter s.heap.objs.size l 0 → (∀ b o, s.heap.get? b = some o → h'.get? b = some o) → Q (.ref (s.heap.objs.size + 1)) { s with heap := h' }) :
    wpAny (model prog w) A (call (.type "enumerate") [.ref l]) Q E s := by
  obtain ⟨⟨c, dct, dt, sl⟩, hl, hc, n, hd⟩ := hL
  replace hc : c = .type "tuple" := hc
  replace hd : dt = .seq items n := hd
  subst hc hd
  refine callType_new F.called_enumerate (by decide) (F.typeCall_enumerate_1 _) (F.newCall_enumerate_1 _) (fun obj => F.args_object_init_2 obj _) F.entry_enumerate_new (meets_enumT l items n dct sl) ⟨hl, ?_⟩
  have hz : (s.heap.push { cls := .type "tuple_iterator", data := .fields #[.ref l, .int 0 0] }).objs.size = s.heap.objs.size + 1 := Heap.size_push ..
  show _ ∧ _
  rw [hz]
  have he : IsEnum ((s.heap.push { cls := .type "tuple_iterator", data := .fields #[.ref l, .int 0 0] }).push
      { cls := .type "enumerate", data := .fields #[.none, .bool false, .ref s.heap.objs.size, rawInt 0, .none, .none] }) (s.heap.objs.size + 1) s.heap.objs.size 0 .none := by
    have := Heap.get?_push_size (s.heap.push { cls := .type "tuple_iterator", data := .fields #[.ref l, .int 0 0] }) (o := { cls := .type "enumerate", data := .fields #[.none, .bool false, .ref s.heap.objs.size, rawInt 0, .none, .none] }) rfl
    rw [hz] at this; exact this
  exact ⟨⟨_, he, rfl⟩, h _ he ⟨_, Heap.get?_push_of_some _ (Heap.get?_push_size _ rfl), rfl, rfl⟩ fun b o x => Heap.get?_push_of_some _ (Heap.get?_push_of_some _ x)⟩
end
/-- the tuple at a, each item in a new pair -/
def IteT (K : PySem.W.Frag) (a : Addr) : It :=
  ⟨fun i H => ∃ (xs : List V) (x : V), SqT K H a xs ∧ xs[i]? = some x, fun i H v H' => ∃ T x, v = .ref T ∧ H T = none ∧ H' = upd H T (.tup [.int (i : Nat), x]) ∧ ∀ xs, SqT K H a xs → xs[i]? = some x, fun i H => ∃ xs : List V, SqT K H a xs ∧ xs.length ≤ i⟩
theorem tup_ne_enum {h : Heap} {e it a : Addr} {i : Int} {old : Value} {items : Array Value} (he : IsEnum h e it i old) (ht : h.IsTuple a items) : a ≠ e := fun z => by
  obtain ⟨o, ho, hc, _⟩ := ht
  rw [z, he] at ho
  cases ho
  exact absurd (show Value.type "enumerate" = Value.type "tuple" from hc) (by decide)
theorem tup_ne_iter {h : Heap} {it a : Addr} {i : Nat} {items : Array Value} (hit : h.IsTupleIter it a i) (ht : h.IsTuple a items) : a ≠ it := fun z => by
  obtain ⟨o, ho, hc, _⟩ := ht
  obtain ⟨o2, ho2, hc2, _⟩ := hit
  rw [z, ho2] at ho
  cases ho
  rw [hc2] at hc
  exact absurd hc (by decide)
theorem turn_enumT {P : Program} {w : World} {K : PySem.W.Frag} {elts : List Expr} {kk : Nat} {tpos : Pos} (a e it : Addr) :
    Turn P w K (.Tuple elts kk tpos) (IteT K a) [e, it] e (fun i h => (∃ old, IsEnum h e it ((i : Nat) : Int) old) ∧ h.IsTupleIter it a i ∧ e ≠ it) where
  mem := by simp
  obj := fun i h st b hb => by
    obtain ⟨⟨old, he⟩, ⟨o, ho, hc, hd⟩, _⟩ := st
    have e' : b = e ∨ b = it := by simpa using hb
    rcases e' with z | z
    · rw [z]; exact ⟨_, he, fun v q => nomatch q⟩
    · rw [z]; exact ⟨o, ho, fun v q => by rw [hd] at q; cases q⟩
  keep := fun i h h' st k => let ⟨⟨old, he⟩, hi, hne⟩ := st; ⟨⟨old, k e (by simp) _ he⟩, hi.at fun o q => k it (by simp) o q, hne⟩
  item := by
    intro X hP hw hK hc i pins s σ H E I hf st hg
    subst hP hw hK
    obtain ⟨⟨old, he⟩, hit, hne⟩ := st
    obtain ⟨xs, x, hq, hx⟩ := hg
    obtain ⟨its, rv, p, hz⟩ := I.tuple hq
    have p : s.heap.IsTuple a its.toArray := p
    obtain ⟨u, hu, ru⟩ := rv.get hx
    have hel : e < s.heap.objs.size := Heap.lt_size he
    have hil : it < s.heap.objs.size := by obtain ⟨_, q, _⟩ := hit; exact Heap.lt_size q
    have hai := tup_ne_iter hit p
    have hae := tup_ne_enum he p
    have hhd : X.A.in1.handled = none := I.ok.hd hc
    have hlt : i < its.toArray.size := by
      have : i < its.length := (List.getElem?_eq_some_iff.mp hu).1
      simpa using this
    refine wpAny_pyNext_enum_itemD (Draws.tuple hhd it a hai its.toArray) he ⟨hit, p⟩ hlt hne (by simp [hne, Ne.symm hae]) fun x2 h' tk hP2 ho hst' hT hsz hk => ?_
    have ex : x2 = u := by
      have q : its.toArray[i]? = some x2 := hP2
      have q2 : its.toArray[i]? = some u := by simpa using hu
      rw [q] at q2
      exact Option.some.inj q2
    subst ex
    refine ⟨_, rfl, wpAny_letOwnedTupleGo_enum (s := { s with heap := h', toks := tk + 1 }) ho fun h'' he' sb => ?_⟩
    have hT2 : h''.get? s.heap.objs.size = some { cls := .type "tuple", data := .seq #[.int i tk, x2] } := (sb.2 _ (Nat.ne_of_gt hel)).trans hT
    have new : ObjOk X.prog X.w (upd H s.heap.objs.size (.tup [.int (i : Nat), x])) h'' s.heap.objs.size (.tup [.int (i : Nat), x]) :=
      ⟨by show 2 ≤ sizeLine; decide, [.int i tk, x2], .cons ⟨_, rfl⟩ (.cons ru .nil), ⟨_, hT2, rfl, _, rfl⟩⟩
    have I1 : Inv X pins σ (upd H s.heap.objs.size (.tup [.int (i : Nat), x])) { s with heap := h'', toks := tk + 1 } :=
      I.turnedNew (ch := [e, it]) (fun b ob hb q => (sb.2 b (fun z => hb (by simp [z]))).trans (hk b ob (fun z => hb (by simp [z])) (fun z => hb (by simp [z])) q)) hf (Nat.le_refl _) new
    refine ⟨.ref s.heap.objs.size, _, I1, rfl, ⟨_, x, rfl, I.hok.fresh (Nat.le_refl _), rfl, fun ys hy => by rw [I.tuple_inj hy hq]; exact hx⟩, ⟨⟨x2, ?_⟩, hst'.1.at fun o q => (sb.2 it (Ne.symm hne)).trans q, hne⟩, fun b hb => ?_⟩
    · have e1 : ((i + 1 : Nat) : Int) = (i : Int) + 1 := by omega
      rw [e1]; exact he'
    · have hb' : b < s.heap.objs.size := by
        have e' : b = e ∨ b = it := by simpa using hb
        rcases e' with z | z
        · rw [z]; exact hel
        · rw [z]; exact hil
      rw [upd_ne (Nat.ne_of_lt hb')]
      exact (hf b hb).1
  done := by
    intro X hP hw hK hc i pins s σ H E I hf st hg
    subst hP hw hK
    obtain ⟨⟨old, he⟩, hit, hne⟩ := st
    obtain ⟨xs, hq, hx⟩ := hg
    obtain ⟨its, rv, p, hz⟩ := I.tuple hq
    have p : s.heap.IsTuple a its.toArray := p
    obtain ⟨f0, f1, f2, f3, f4, f5⟩ := hf it (by simp)
    have hl := rv.length
    have hT : s.TypeIs (.ref e) "enumerate" := ⟨_, he, rfl⟩
    have hhd : X.A.in1.handled = none := I.ok.hd hc
    unfold pyNext
    refine wpAny_bind (wpAny_attempt (wpAny_callSpecial?_slot (name := Str.ofString "__next__") hT F.slot_enumerate_next (wpAny_call_entry F.slot_enumerate_next hT F.entry_enumerate_next ?_ (F.args_enumerate_next_1 _))))
    show wpAny _ _ (field (.ref e) 2 >>= _) _ _ _
    refine wpAny_bind (wpAny_field he rfl (x := .ref it) rfl ?_)
    refine wpAny_bind (wpAny_nextOf_tuple_end hhd hit p (by simp; omega) fun h' x he' hx' => ?_)
    obtain ⟨o, ho, hc2⟩ := hx'
    refine wpAny_bind (wpAny_isInstance (T := "StopIteration") (b := true) ⟨o, ho, hc2⟩ isSubtype_stop ?_)
    exact wpAny_pure ⟨rfl, I.turned (t' := s.toks) (fun b o hb q => he' b o hb q) f0 f1 f3 f4 f5⟩
  self := fun A i s Q E st h => let ⟨⟨_, he⟩, _⟩ := st; wpAny_pyIter_enum he h
/-! by data: a tuple or a list -/
def enumD (ds : List D) : List D := ds.zipIdx.map fun p => .tup [.int (p.2 : Nat), p.1]
theorem enumD_len (ds : List D) : (enumD ds).length = ds.length := by simp [enumD]
theorem enumD_get {ds : List D} {i : Nat} {d : D} (h : (enumD ds)[i]? = some d) : ∃ x, ds[i]? = some x ∧ d = .tup [.int (i : Nat), x] := by
  unfold enumD at h
  rw [List.getElem?_map, List.getElem?_zipIdx] at h
  cases e : ds[i]? with
  | none => rw [e] at h; cases h
  | some x =>
    rw [e] at h
    simp at h
    exact ⟨x, rfl, h.symm⟩
theorem enumD_some {ds : List D} {i : Nat} {x : D} (h : ds[i]? = some x) : (enumD ds)[i]? = some (.tup [.int (i : Nat), x]) := by
  unfold enumD
  rw [List.getElem?_map, List.getElem?_zipIdx, h]
  simp
section
variable {X : Cx} {W : WX} {e : Expr} {te : TDE} {p pos tpos : Pos} {elts : List Expr} {kk : Nat}
theorem pi_enumA {te : TE} (hg : Gl X "enumerate") (hm : X.mg "enumerate" = none) (ha : PE X e te) (hs : starEach [e] X.env = [(false, eval e X.env)] := by rfl) (hs2 : starEach [e] X.env = (false, eval e X.env) :: starEach [] X.env := by rfl) :
    PI X (.Tuple elts kk tpos) (.Call (.Name "enumerate" p) [e] [] pos) (fun σ H R => te σ H fun x H1 => ∃ a, x = .ref a ∧ ((∃ xs, SqL X.K H1 a xs) ∧ R (Ite X.K a) H1 ∨ (∃ xs, SqT X.K H1 a xs) ∧ R (IteT X.K a) H1)) := by
  refine ⟨fun pins s σ H R I h => ?_⟩
  refine Call_ (ld_blt I hg hm boot_enumerate (PyProof.Rows.callWith_type1 (thn ((pa_cons ha pa_nil hs2).run pos pins s σ H (fun vs H1 => match vs with | [x] => ∃ a, x = .ref a ∧ ((∃ xs, SqL X.K H1 a xs) ∧ R (Ite X.K a) H1 ∨ (∃ xs, SqT X.K H1 a xs) ∧ R (IteT X.K a) H1) | _ => False) I h) fun us s1 ⟨vs, H1, I1, r1, q1⟩ => ?_) hs rfl))
  cases r1 with
  | nil => exact q1.elim
  | cons r rr =>
    cases rr with
    | cons _ _ => exact q1.elim
    | nil =>
    obtain ⟨a, ex, q⟩ := q1
    subst ex
    cases r
    have fresh : ∀ {H' : Hp} {s' : Shared}, Inv X pins σ H' s' → True := fun _ => trivial
    rcases q with ⟨⟨xs, hq⟩, q⟩ | ⟨⟨xs, hq⟩, q⟩
    · obtain ⟨its, rv, p', hz⟩ := I1.list hq
      refine call_enumerate_list p'.isList fun h' he hit hsz hk => wpAny_pyIter_enum he ?_
      have I2 : Inv X pins σ H1 { s1 with heap := h' } := I1.kept (t' := s1.toks) hk
      refine ⟨s1.heap.objs.size + 1, [s1.heap.objs.size + 1, s1.heap.objs.size], _, _, H1, rfl, I2, turn_enum a (s1.heap.objs.size + 1) s1.heap.objs.size, ⟨⟨.none, he⟩, hit, Nat.succ_ne_self _⟩, fun b hb => ?_, q⟩
      have e' : b = s1.heap.objs.size + 1 ∨ b = s1.heap.objs.size := by simpa using hb
      have hle : s1.heap.objs.size ≤ b := by
        rcases e' with z | z
        · rw [z]; exact Nat.le_add_right _ _
        · rw [z]; exact Nat.le_refl _
      exact I1.fpOk hle (I1.hok.fresh hle)
    · obtain ⟨its, rv, p', hz⟩ := I1.tuple hq
      refine call_enumT (show s1.heap.IsTuple a its.toArray from p') fun h' he hit hk => wpAny_pyIter_enum he ?_
      have I2 : Inv X pins σ H1 { s1 with heap := h' } := I1.kept (t' := s1.toks) hk
      refine ⟨s1.heap.objs.size + 1, [s1.heap.objs.size + 1, s1.heap.objs.size], _, _, H1, rfl, I2, turn_enumT a (s1.heap.objs.size + 1) s1.heap.objs.size, ⟨⟨.none, he⟩, hit, Nat.succ_ne_self _⟩, fun b hb => ?_, q⟩
      have e' : b = s1.heap.objs.size + 1 ∨ b = s1.heap.objs.size := by simpa using hb
      have hle : s1.heap.objs.size ≤ b := by
        rcases e' with z | z
        · rw [z]; exact Nat.le_add_right _ _
        · rw [z]; exact Nat.le_refl _
      exact I1.fpOk hle (I1.hok.fresh hle)
/-- a tuple, a list that stands as it is at each turn -/
def tdiEnum (t : TDE) : TDI := fun ρ M Q E => t ρ M (fun d M1 => match d with
  | .tup ds => Q (enumD ds) gTrue M1
  | .ref a => match M1 a with
    | some (.lst ds) => Q (enumD ds) (fun M => M a = some (.lst ds)) M1
    | _ => False
  | _ => False) E
theorem dw_enumT {K : PySem.W.Frag} {a : Addr} {ds : List D} {vs : List V} : DWalk K (IteT K a) (enumD ds) gTrue (fun H _ => SqT K H a vs ∧ Reps K H vs ds) where
  stay := fun H M H' M' hs t => ⟨rd_mono t.tup t.frz hs.1, hs.2.mono t⟩
  goes := fun i H M hi hs sm hg => by
    have hl := hs.2.length
    rw [enumD_len] at hi
    exact ⟨vs, vs[i]'(by omega), hs.1, by simp⟩
  stops := fun H M hs sm hg => ⟨vs, hs.1, by rw [hs.2.length, enumD_len]; exact Nat.le_refl _⟩
  yields := fun i H M x H' hi hs sm hg y => by
    obtain ⟨T, v, rfl, hT, rfl, y⟩ := y
    rw [enumD_len] at hi
    obtain ⟨u, e, ru⟩ := hs.2.get (List.getElem?_eq_getElem hi)
    have := y vs hs.1
    rw [e] at this; cases this
    have t : Tr H M (upd H T (.tup [.int (i : Nat), v])) M := Tr.new hT
    exact ⟨_, enumD_some (List.getElem?_eq_getElem hi), .tup (SqT.of upd_same) (.cons (.int _) (.cons (ru.mono t) .nil)), sm.new hT, t⟩
theorem dw_enumL {K : PySem.W.Frag} {a : Addr} {ds : List D} : DWalk K (Ite K a) (enumD ds) (fun M => M a = some (.lst ds)) (fun _ _ => True) where
  stay := fun _ _ _ _ _ _ => trivial
  goes := fun i H M hi _ sm hg => by
    obtain ⟨vs, g, r⟩ := sm _ _ hg
    have hl := r.length
    rw [enumD_len] at hi
    exact ⟨vs, vs[i]'(by omega), SqL.of g, by simp⟩
  stops := fun H M _ sm hg => by
    obtain ⟨vs, g, r⟩ := sm _ _ hg
    exact ⟨vs, SqL.of g, by rw [r.length, enumD_len]; exact Nat.le_refl _⟩
  yields := fun i H M x H' hi _ sm hg y => by
    obtain ⟨vs, g, r⟩ := sm _ _ hg
    obtain ⟨T, v, rfl, hT, rfl, y⟩ := y
    rw [enumD_len] at hi
    obtain ⟨u, e, ru⟩ := r.get (List.getElem?_eq_getElem hi)
    have := y vs (SqL.of g)
    rw [e] at this; cases this
    have t : Tr H M (upd H T (.tup [.int (i : Nat), v])) M := Tr.new hT
    exact ⟨_, enumD_some (List.getElem?_eq_getElem hi), .tup (SqT.of upd_same) (.cons (.int _) (.cons (ru.mono t) .nil)), sm.new hT, t⟩
theorem i_enum (hm : X.mg "enumerate" = none) (ha : DE X W e te) (hg : Gl X "enumerate" := by rfl) (hs : starEach [e] X.env = [(false, eval e X.env)] := by rfl) (hs2 : starEach [e] X.env = (false, eval e X.env) :: starEach [] X.env := by rfl) : DI X W (.Tuple elts kk tpos) (.Call (.Name "enumerate" p) [e] [] pos) (tdiEnum te) :=
  PI.imp (pi_enumA hg hm ha hs hs2) fun σ H R ⟨ρ, M, Q0, E0, dv, sm, q, hq, he⟩ => by
    refine ⟨ρ, M, _, E0, dv, sm, q, fun d M1 q1 v H1 r1 s1 t1 => ?_, he⟩
    cases d <;> try exact q1.elim
    · cases r1
      dsimp only at q1
      split at q1
      · rename_i a _ ds em
        obtain ⟨vs, g, rs⟩ := s1 _ _ em
        exact ⟨a, rfl, .inl ⟨⟨vs, SqL.of g⟩, hq _ _ _ q1 _ _ H1 dw_enumL trivial s1 t1⟩⟩
      · exact q1.elim
    · cases r1 with
      | @tup a vs ds g rs => exact ⟨a, rfl, .inr ⟨⟨vs, g⟩, hq _ _ _ q1 _ _ H1 dw_enumT ⟨g, rs⟩ s1 t1⟩⟩
end
end TD

namespace TD
open PySem L2

/-! ### own errors over ValueError: their __init__ stores the word and at most one argument -/
def spIni0 (C : Addr) (wd : Str) : Sp := fun vs H Q _ => ∃ a, vs = [.ref a] ∧ H a = some (exo a C none) ∧ ∀ dx, H dx = none → dx ≠ a → Q .non (upd (upd H dx (exd dx [("word", .str wd)])) a (exo a C (some dx)))
def spIni1 (C : Addr) (wd f : Str) : Sp := fun vs H Q _ => ∃ a v, vs = [.ref a, v] ∧ H a = some (exo a C none) ∧ ∀ dx, H dx = none → dx ≠ a → Q .non (upd (upd (upd H dx (exd dx [("word", .str wd)])) a (exo a C (some dx))) dx (exd dx [(f, v), ("word", .str wd)]))
section
variable {P : Program} {w : World} {K : PySem.W.Frag} {mg : Str → Option Value} {base : Heap} {C fI : Addr} {fd : FuncData} {st : Stmt} {q wd f s1 : Str} {j : Nat}
theorem ini0_ok {p1 p2 p3 p4 : Pos} (T : OexC K C) (n1 : PySem.W.findIn K (.ref C) "word" = some none) (F : L2.Fun K "__init__" q st fI fd) (S : FnScope [s1] [s1] (defScope st)) (hv : Vis (defScope st) s1) (hd1 : (s1 == ("__debug__" : Str)) = false) (hd2 : (s1 == ("__classdict__" : Str)) = false)
    (hb : defBody st = [.Assign [.Attribute (.Name s1 p1) "word" p2] (.Constant (.str wd) j p3) p4]) : FnOk P w K mg base (L2.CX P w) 1 fI fd [s1] (spIni0 C wd) := by
  refine F.okX S (fun vs H Q E ⟨a, e, _⟩ => by rw [e]; rfl) fun cdv A outer s H vs Q E hr ⟨a, e, ha, hq⟩ => ?_
  subst e
  rw [hb]
  refine ⟨_, pss_one (ps_ost (pe_var (i := 0) rfl hv hd1 hd2) pe_str), ?_⟩
  exact ⟨.ref a, rfl, a, C, rfl, T, n1, .inl ⟨ha, hq⟩⟩
theorem ini1_ok {p1 p2 p3 p4 p5 p6 p7 p8 : Pos} {s2 : Str} (T : OexC K C) (n1 : PySem.W.findIn K (.ref C) "word" = some none) (n2 : PySem.W.findIn K (.ref C) f = some none) (F : L2.Fun K "__init__" q st fI fd) (S : FnScope [s1, s2] [s1, s2] (defScope st)) (hv : Vis (defScope st) s1) (hd1 : (s1 == ("__debug__" : Str)) = false) (hd2 : (s1 == ("__classdict__" : Str)) = false)
    (hv2 : Vis (defScope st) s2) (hd3 : (s2 == ("__debug__" : Str)) = false) (hd4 : (s2 == ("__classdict__" : Str)) = false)
    (hsw : ∀ env, swapsWith (.Name s2 p7) (some (.Attribute (.Name s1 p5) f p6)) p8.line env = pure false) (hb : defBody st = [.Assign [.Attribute (.Name s1 p1) "word" p2] (.Constant (.str wd) j p3) p4, .Assign [.Attribute (.Name s1 p5) f p6] (.Name s2 p7) p8]) : FnOk P w K mg base (L2.CX P w) 1 fI fd [s1, s2] (spIni1 C wd f) := by
  refine F.okX S (fun vs H Q E ⟨a, v, e, _⟩ => by rw [e]; rfl) fun cdv A outer s H vs Q E hr ⟨a, v, e, ha, hq⟩ => ?_
  subst e
  rw [hb]
  refine ⟨_, pss_cons (ps_ost (pe_var (i := 0) rfl hv hd1 hd2) pe_str) (pss_one (ps_ost (pe_var (i := 0) rfl hv hd1 hd2) (pe_var (i := 1) rfl hv2 hd3 hd4) (hsw _))), ?_⟩
  refine ⟨.ref a, rfl, a, C, rfl, T, n1, .inl ⟨ha, fun dx h1 h2 => ?_⟩⟩
  refine ⟨v, rfl, .ref a, rfl, a, C, rfl, T, n2, .inr ⟨dx, _, upd_same, ?_, by simp, hq dx h1 h2⟩⟩
  rw [upd_ne h2, upd_same]
end
/-- what the text says of an own error's class at C, its __init__ at fI -/
structure XAt (K : PySem.W.Frag) (C fI : Addr) : Prop where
  oex : OexC K C
  ini : PySem.W.findIn K (.ref C) "__init__" = some (some (.ref fI))
  ty : PySem.W.typeIn K (.ref fI) = some (.type "function")
section
variable {X : Cx} {W : WX} {C fI : Addr} {x : Str} {p pos : Pos} {fd : FuncData} {sp : Sp} {s1 : Str} {k : Nat}
/-- C() -/
theorem pmk_none (T : XAt X.K C fI) (F1 : FnOk X.prog X.w X.K X.mg X.base (L2.CX X.prog X.w) k fI fd [s1] sp) (hr : Room (k + 1) X.A) (hb : Binds X.K fd [s1] []) (hg : Gl X x) (hm : X.mg x = some (.ref C)) (hdb : (x == ("__debug__" : Str)) = false := by decide) :
    PMk X (.Call (.Name x p) [] [] pos) (fun σ H Q => ∀ a, H a = none → sp [.ref a] (upd H a (exo a C none)) (fun v H2 => v = .non ∧ ∃ (d : Addr) (fs : List (Str × V)), H2 a = some (exo a C (some d)) ∧ H2 d = some (exd d fs) ∧ H d = none ∧ Q (.ref C) (some d) (upd (del H2 a) d (.xd fs))) (fun _ _ _ => False)) := fun pins s σ H Q I h => by
  obtain ⟨nm, q, N, bs, bm, a1, a2, a3, a4, a5, a6, a7, a8, a9, a10, hC, hbm⟩ := T.oex.cls
  refine wpAny_Call_Name_kw (ld_glob I hg hm ?_ hdb)
  refine PySem.W.callWith_K0 I.kIn T.oex.kC ?_
  show wpAny _ _ (call (.ref C) []) _ _ _
  obtain ⟨hp, g, dr, tk, os⟩ := s
  have big : hp.objs.size ≤ hp.objs.size + 1 := by omega
  have old : ∀ b o, hp.get? b = some o → ((hp.push (PySem.W.kdv_tup [])).push (PySem.HandSPX.excO C hp.objs.size)).get? b = some o := fun b o e => Heap.get?_push_of_some _ (Heap.get?_push_of_some _ e)
  have at_ : ((hp.push (PySem.W.kdv_tup [])).push (PySem.HandSPX.excO C hp.objs.size)).get? (hp.objs.size + 1) = some (PySem.HandSPX.excO C hp.objs.size) := by heap_get
  have ask := h (hp.objs.size + 1) (I.hok.fresh big)
  have J : Inv X pins σ (upd H (hp.objs.size + 1) (exo (hp.objs.size + 1) C none)) ⟨(hp.push (PySem.W.kdv_tup [])).push (PySem.HandSPX.excO C hp.objs.size), g, dr, tk, os⟩ :=
    I.laid (t' := tk) (o := exo (hp.objs.size + 1) C none) old big (exo_ok at_)
  refine wpAny_call (PySem.HandSPX.call_own F.excBase_ValueError (fun Y => PySem.HandSPX.refsVE_contains Y bm hbm) (I.kIn _ _ hC) (PySem.W.looks_findIn I.kIn T.ini) (fun self => PySem.W.bind_fn I.kIn self T.ty) (Nat.zero_le _) ?_)
  refine codeAny_mono (F1.run _ X.stack _ _ ⟨[Value.ref (hp.objs.size + 1)], []⟩ [Value.ref (hp.objs.size + 1)] [.ref (hp.objs.size + 1)] _ (fun _ _ _ => False) (hr.make C [] []) (J.env0.make C [] []) (hb _ [Value.ref (hp.objs.size + 1)] J.kIn rfl) (.cons rfl .nil) ask) fun r s' hq' => ?_
  cases r with
  | error er => exact passL pins σ _ _ er s' J hq'
  | ok fl =>
    cases fl with
    | ret u =>
      obtain ⟨v, H2, os2, bare2, un2, hok2, rv, rfl, d, fs, ea, ed, hd1, q2⟩ := hq'
      obtain ⟨h2, g2, d2, t2, os'⟩ := s'
      exact ⟨rv, mk_end (raises_own T.oex.exC T.oex.tyC) I big old un2 hok2 os2 bare2 ea ed hd1 q2⟩
    | _ => exact hq'.elim
/-- what stands behind the making: the exception's dict alone -/
theorem left0 {H : Hp} {a d C : Addr} {e : HO} {u v : HO} {fs : List (Str × V)} (ha : H a = none) (hd : d ≠ a) : upd (del (upd (upd (upd H a e) d u) a v) a) d (.xd fs) = upd H d (.xd fs) := by
  funext b
  by_cases h1 : b = d
  · subst h1; rw [upd_same, upd_same]
  · rw [upd_ne h1, upd_ne h1]
    by_cases h2 : b = a
    · subst h2; rw [del_same, ha]
    · rw [del_ne h2, upd_ne h2, upd_ne h1, upd_ne h2]
theorem left1 {H : Hp} {a d C : Addr} {e : HO} {u v u' : HO} {fs : List (Str × V)} (ha : H a = none) (hd : d ≠ a) : upd (del (upd (upd (upd (upd H a e) d u) a v) d u') a) d (.xd fs) = upd H d (.xd fs) := by
  funext b
  by_cases h1 : b = d
  · subst h1; rw [upd_same, upd_same]
  · rw [upd_ne h1, upd_ne h1]
    by_cases h2 : b = a
    · subst h2; rw [del_same, ha]
    · rw [del_ne h2, upd_ne h1, upd_ne h2, upd_ne h1, upd_ne h2]
theorem xdNew {K : PySem.W.Frag} {H : Hp} {M : Mem} {σ : St} {cls : Value} {d : Addr} {vs : List (Str × V)} {fs : List (Str × D)} {E0 : XD} (s : Sim K H M) (hd : H d = none) (r : FReps K H vs fs) (he : wUp K W σ H M E0) (h : E0 cls fs M) : W cls (some d) σ (upd H d (.xd vs)) := by
  have t : Tr H M (upd H d (.xd vs)) M := Tr.new hd
  exact he _ _ _ h _ _ (.inr ⟨d, vs, rfl, upd_same, r.mono t⟩) (s.new hd) t
/-- raise C() -/
def tdRaise0 (mg : Str → Option Value) (x wd : Str) : TDS := fun D ρ M => ∀ cls, mg x = some cls → D.ex cls [("word", .str wd)] ρ M
/-- an own error's class without an argument, with one -/
structure XOk0 (P : Program) (w : World) (K : PySem.W.Frag) (mg : Str → Option Value) (base : Heap) (x wd s1 : Str) : Prop where
  ex : ∃ C fI fd, mg x = some (.ref C) ∧ XAt K C fI ∧ FnOk P w K mg base (L2.CX P w) 1 fI fd [s1] (spIni0 C wd) ∧ Binds K fd [s1] []
structure XOk1 (P : Program) (w : World) (K : PySem.W.Frag) (mg : Str → Option Value) (base : Heap) (x wd f s1 s2 : Str) : Prop where
  ex : ∃ C fI fd, mg x = some (.ref C) ∧ XAt K C fI ∧ FnOk P w K mg base (L2.CX P w) 1 fI fd [s1, s2] (spIni1 C wd f) ∧ Binds K fd [s1, s2] []
theorem s_raise0 {wd : Str} {pos2 : Pos} (o : XOk0 X.prog X.w X.K X.mg X.base x wd s1) (hc : X.calm = true) (hr : Room (k + 2) X.A) (tk : Takes X W) (hg : Gl X x := by rfl) (hdb : (x == ("__debug__" : Str)) = false := by decide) :
    DS X W (.Raise (some (.Call (.Name x p) [] [] pos)) none pos2) (tdRaise0 X.mg x wd) := by
  obtain ⟨C, fI, fd, hm, T, F1, hb⟩ := o.ex
  refine PS.imp (ps_raise hc tk (pmk_none T F1 (hr.mono (by omega)) hb hg hm hdb)) fun D σ H ⟨ρ, M, D0, dv, sm, q, eu⟩ a ha => ?_
  refine ⟨a, rfl, upd_same, fun dx h1 h2 => ⟨rfl, dx, _, upd_same, by rw [upd_ne h2, upd_same], by rw [upd_ne h2] at h1; exact h1, ?_⟩⟩
  rw [upd_ne h2] at h1
  rw [left0 (C := C) ha h2]
  exact xdNew sm h1 (.cons ⟨rfl, .str _⟩ .nil) (eu.w dv) (q _ hm)
/-- raise C(e) -/
def tdRaise1 (mg : Str → Option Value) (x wd f : Str) (te : TDE) : TDS := fun D ρ M => te ρ M (fun d M1 => ∀ cls, mg x = some cls → D.ex cls [(f, d), ("word", .str wd)] ρ M1) (D.at ρ)
theorem s_raise1 {wd f s2 : Str} {e : Expr} {te : TDE} {pos2 : Pos} (o : XOk1 X.prog X.w X.K X.mg X.base x wd f s1 s2) (hc : X.calm = true) (hr : Room (k + 2) X.A) (tk : Takes X W) (h : DE X W e te) (hg : Gl X x := by rfl) (hdb : (x == ("__debug__" : Str)) = false := by decide)
    (he : starEach (e :: []) X.env = (false, eval e X.env) :: starEach [] X.env := by rfl) (hpl : (backTo pos (starEach [] X.env)).any (·.1) = false := by rfl) :
    DS X W (.Raise (some (.Call (.Name x p) [e] [] pos)) none pos2) (tdRaise1 X.mg x wd f te) := by
  obtain ⟨C, fI, fd, hm, T, F1, hb⟩ := o.ex
  refine PS.imp (ps_raise hc tk (pmk_oex T.oex T.ini T.ty F1 (hr.mono (by omega)) hb .nil passL hg hm (pa_cons h pa_nil he) hdb he hpl)) fun D σ H ⟨ρ, M, D0, dv, sm, q, eu⟩ => ?_
  refine ⟨ρ, M, _, _, dv, sm, q, fun d M1 q1 v H1 r1 s1 t1 => ?_, eu.w dv⟩
  refine ⟨by show 1 ≤ 1000; decide, fun a ha => ?_⟩
  refine ⟨a, v, rfl, upd_same, fun dx h1 h2 => ⟨rfl, dx, _, by rw [upd_ne (Ne.symm h2), upd_same], upd_same, by rw [upd_ne h2] at h1; exact h1, ?_⟩⟩
  rw [upd_ne h2] at h1
  rw [left1 (C := C) ha h2]
  exact xdNew s1 h1 (.cons ⟨rfl, r1⟩ (.cons ⟨rfl, .str _⟩ .nil)) ((eu.w dv).mono t1) (q1 _ hm)
end
end TD

namespace TD
open PySem L2
/-! ### try: body / except (X1, X2) as n: suite -/
/-- the clause's wish: slot i is n's -/
def wAs2 (K : PySem.W.Frag) (c1 c2 : Value) (i : Nat) (ts : Addr → Value → Option Addr → TS) (Wout : WX) (D : Ends) : WX := fun cls d σ H =>
  ∃ b, PySem.W.exmAny K cls [c1, c2] = some b ∧ (b = true → ∀ a, H a = none → ts a cls d { nx := fun σ' H' => D.nx (σ'.set i none) H', rt := D.rt, bk := fun σ' H' => D.bk (σ'.set i none) H', ct := fun σ' H' => D.ct (σ'.set i none) H' } (σ.set i (some (.ref a))) H) ∧ (b = false → Wout cls d σ H)
/-- in flight still, where the heap has grown -/
theorem fly_grow {B h h' : Heap} {l : List Env} {a : Addr} {Z : Obj → Prop} (k : ∀ q o, h.get? q = some o → h'.get? q = some o) (x : HandSPX.FlyingZ B l a Z h) : HandSPX.FlyingZ B l a Z h' := by
  obtain ⟨x1, x2, x3, oe, vs, T, oT, ts, y1, y2, y3, y4, y5, y6, y7, y8⟩ := x
  exact ⟨fun b o e => k b o (x1 b o e), x2, x3.of_keeps fun b o e _ => ⟨o, k b o e, rfl⟩, oe, vs, T, oT, ts, k _ _ y1, y2, y3, y4, y5, y6, k _ _ y7, y8⟩
section
variable {X : Cx} {x1 x2 n : Str} {c1 c2 : Value} {i kk : Nat} {body suite : List Stmt} {b0 : Stmt} {np1 np2 tpos pos pos' : Pos} {tb : WX → TS} {ts : Addr → Value → Option Addr → TS} {Wout : WX}
theorem nameGo {Y : Cx} {pins : List (Addr × Obj)} {σ : St} {H : Hp} {s : Shared} {x : Str} {c : Value} {np : Pos} {A : Around} {Q : Value → Shared → Prop} {E : Value → Shared → Prop} (hA : Y.A = A) (I : Inv Y pins σ H s) (hc : Names Y x c) (q : Q c s) : wpAny (model Y.prog Y.w) A (eval (.Name x np) Y.env) Q E s := by
  subst hA
  rcases hc with ⟨hg, hd, h | ⟨h1, h2, h3⟩⟩
  · exact ld_glob I hg h q hd
  · exact ld_blt I hg h1 h2 q h3 hd
theorem try_as2 (hs : X.stack = X.env :: X.outer) (hf : X.env.frame = some X.env.locals) (hN : X.N.Nodup) (hi : X.N[i]? = some n) (hln : X.env.kindOf n = some .local) (hc1 : Names X x1 c1) (hc2 : Names X x2 c2) (tk : Takes X Wout)
    (hb : ∀ (W : WX) (pn : List (Addr × Obj)) (xe : Value → Shared → Prop), Takes (X.tr pn xe) W → PassesOwn (model X.prog X.w) X.A X.env xe → PSs (X.tr pn xe) body (tb W))
    (hsu : ∀ (a : Addr) (oe : Obj) (cls : Value) (d : Option Addr) (pn : List (Addr × Obj)), Zc cls d oe → (∃ vs, oe.data = .fields vs) → PSs (X.suite a ((a, oe) :: pn)) (b0 :: suite) (ts a cls d)) :
    PS X (.Try body [.ExceptHandler (some (.Tuple [.Name x1 np1, .Name x2 np2] kk tpos)) (some n) (b0 :: suite) pos'] [] [] pos) (fun D σ H => tb (wAs2 X.K c1 c2 i ts Wout D) D σ H) := ⟨fun pins s σ H D I h => by
  have ok := I.ok
  have hfr : X.A.frames = some (X.env :: X.outer) := ok.frames.trans (congrArg some hs)
  let hds : List ExceptHandler := [.ExceptHandler (some (.Tuple [.Name x1 np1, .Name x2 np2] kk tpos)) (some n) (b0 :: suite) pos']
  let caught : Value → Shared → Prop := fun e sa => wpAny (model X.prog X.w) X.A (noteFrame e X.env) (fun _ sb => wpAny (model X.prog X.w) X.A (setFlight e none) (fun _ sc => wpAny (model X.prog X.w) X.A (handleBy e X.env hds) (SP X pins D) X.xe sc) X.xe sb) X.xe sa
  have tk2 : Takes (X.tr (X.pn ++ pins) caught) (wAs2 X.K c1 c2 i ts Wout D) := fun u s' ⟨a, B, sI, pins', σ', H', cls, d, eu, J', nb, up, sky, na, os, ag, b, e1, yes, no⟩ => by
    subst eu
    have J := J'.ofTry ok
    have skyL : Sky B (X.env :: X.outer) a (Zc cls d) X.env.locals s'.heap := hs ▸ sky
    refine Sky.land Zc.steady hfr hf skyL fun h3 fl3 up3 => ?_
    obtain ⟨oe3, vs3, he3, hz3, hd3⟩ := fl3.there
    -- the exception's object is none of the frames'
    have apart : ∀ {h : Heap} {o : Obj} {vs : Array Value}, h.FunFrames B (X.env :: X.outer) → h.get? a = some o → o.data = .fields vs → a ∉ frs (X.env :: X.outer) := fun ff e dd hm => by
      obtain ⟨_, o', e', no⟩ := ff.mem hm
      exact no _ ((Option.some.inj (e'.symm.trans e)) ▸ dd)
    have out := apart fl3.2.2.1 he3 hd3
    have nL : a ≠ X.env.locals := fun z => out (List.mem_filterMap.mpr ⟨X.env, List.mem_cons_self, z ▸ hf⟩)
    have nF : a ∉ X.fs := fun hm => let ⟨e, m1, m2⟩ := List.mem_filterMap.mp hm; out (List.mem_filterMap.mpr ⟨e, List.mem_cons_of_mem _ m1, m2⟩)
    have at3 : ∀ (h : Heap) {oe : Obj} {vs : Array Value}, B.StaysIn h → sI.heap.UpToSlots h → h.get? a = some oe → oe.data = .fields vs → Inv X pins σ' H' { s' with heap := h } ∧ Inv (X.suite a ((a, oe) :: (X.pn ++ pins))) [] σ' H' { s' with heap := h } := fun h _ _ st u e dd => by
      have L : Inv X pins σ' H' { s' with heap := h } := J.landed (s' := { s' with heap := h }) nb st u os ag
      exact ⟨L, L.suite e dd na nL nF⟩
    obtain ⟨J3, S3⟩ := at3 _ fl3.1 (up.trans up3) he3 hd3
    refine PySem.W.exc_clause_as (wpAny_Tuple (wpAny_items_cons (nameGo (Y := X.suite a ((a, oe3) :: (X.pn ++ pins))) rfl S3 hc1 (wpAny_items_cons (nameGo (Y := X.suite a ((a, oe3) :: (X.pn ++ pins))) rfl S3 hc2 (wpAny_items_nil ⟨by size_fits, ?_⟩))))))
    have grow : ∀ q o, h3.get? q = some o → (h3.push ({ cls := .type "tuple", data := .seq [c1, c2].toArray } : Obj)).get? q = some o := fun _ _ z => Heap.get?_push_of_some _ z
    have LT : PySem.W.Looks (model X.prog X.w) h3 (typeOf (.ref a)) cls := fun A Q E s k q => wpAny_typeOf_ref (k _ _ he3) (hz3.1 ▸ q)
    refine ⟨b, PySem.W.exm_tup2 (J3.kIn.keeps grow) (LT.keeps grow) (Heap.get?_push_size h3 rfl) e1, ?_⟩
    have fl4 := fly_grow grow fl3
    have up4 : sI.heap.UpToSlots (h3.push ({ cls := .type "tuple", data := .seq [c1, c2].toArray } : Obj)) := (up.trans up3).trans (Heap.UpToSlots.of_keeps grow)
    cases b with
    | true =>
      refine HandSPX.lands_againZ (s := { s' with heap := _ }) fl4 fun h5 fl5 up5 => ?_
      obtain ⟨oe5, vs5, he5, hz5, hd5⟩ := fl5.there
      have S5 := (at3 _ fl5.1 (up4.trans up5) he5 hd5).2
      refine store_ok (X := X.suite a ((a, oe5) :: (X.pn ++ pins))) (v := .ref a) S5 hN hi (.inl hln) rfl (fun s6 S6 => ?_) (.inr hln)
      refine wpAny_mono ((hsu a oe5 cls d (X.pn ++ pins) hz5 ⟨_, hd5⟩).run [] s6 _ H' _ S6 (yes rfl a na)) (fun f s7 out7 => ?_) (fun _ _ z => False.elim z)
      have name_goes : ∀ {σ7 : St} {H7 : Hp} {Q : Shared → Prop}, Inv (X.suite a ((a, oe5) :: (X.pn ++ pins))) [] σ7 H7 s7 → (∀ s8, Inv X pins (σ7.set i none) H7 s8 → Q s8) → wpAny (model X.prog X.w) X.A (do bindName X.env n .none; unbindBehindTheSuite X.env n pos') (fun _ s8 => Q s8) X.xe s7 :=
        fun S7 hq => gone_ok (S7.unsuite ok) hN hi hln hq
      cases f with
      | ret u => obtain ⟨v7, σ7, H7, S7, r7, q7⟩ := out7; exact name_goes S7 fun s8 J8 => ⟨v7, _, _, J8, r7, q7⟩
      | next => obtain ⟨σ7, H7, S7, q7⟩ := out7; exact name_goes S7 fun s8 J8 => ⟨_, _, J8, q7⟩
      | brk => obtain ⟨σ7, H7, S7, q7⟩ := out7; exact name_goes S7 fun s8 J8 => ⟨_, _, J8, q7⟩
      | cont => obtain ⟨σ7, H7, S7, q7⟩ := out7; exact name_goes S7 fun s8 J8 => ⟨_, _, J8, q7⟩
    | false =>
      refine wpAny_handleBy_nil ?_
      obtain ⟨k1, k2, k3, oe, vs, T, oT, tr, he, hz, hd, h1, hr⟩ := id fl4
      have goes : wpAny (model X.prog X.w) X.A (setFlight (.ref a) X.env.frame) (fun _ sx => wpAny (model X.prog X.w) X.A (throw (.ref a) : Sem Flow) (SP X pins D) X.xe sx) X.xe { s' with heap := h3.push ({ cls := .type "tuple", data := .seq [c1, c2].toArray } : Obj) } := by
        rw [hf]
        refine HandSPX.setFlight_upZ (s := { s' with heap := _ }) fl4 fun h6 held up6 => wpAny_throw (tk _ _ ⟨a, B, sI, pins, σ', H', cls, d, rfl, J, nb, up4.trans up6, ?_, na, os, ag, no rfl⟩)
        exact .inr (.inr (hs ▸ held))
      unfold PySem.passOn
      refine wpAny_bind (wpAny_field (s := { s' with heap := _ }) he hd h1 ?_)
      rw [if_neg (show ¬ ((Value.ref T == Value.none) = true) by simp)]
      first | exact wpAny_bind (wpAny_pure (wpAny_bind goes)) | exact wpAny_bind goes
  refine wpAny_Try_except (wpAny_mono ((hb _ _ caught tk2 PassesOwn.looking).run [] s σ H D (I.toTry _) h) (fun f sd out => ?_) fun _ _ he => he)
  cases f with
  | ret u => obtain ⟨v, σ', H', J', r, q⟩ := out; exact ⟨v, σ', H', J'.ofTry ok, r, q⟩
  | next => obtain ⟨σ', H', J', q⟩ := out; exact wpAny_execs_nil ⟨σ', H', J'.ofTry ok, q⟩
  | brk => obtain ⟨σ', H', J', q⟩ := out; exact ⟨σ', H', J'.ofTry ok, q⟩
  | cont => obtain ⟨σ', H', J', q⟩ := out; exact ⟨σ', H', J'.ofTry ok, q⟩⟩
end
end TD

namespace TD
open PySem PySem.Spec PyProof.Rows L2 L2H
/-! ### a def called in an except suite with the exception -/
section
variable {Y : Cx} {a : Addr} {oe : Obj} {x s1 : Str} {st : Stmt} {f : Addr} {fd : FuncData} {k : Nat} {pins : List (Addr × Obj)} {σ : L2.St} {H : Hp} {s : Shared} {Q : VK}
theorem run_hot (hp : (a, oe) ∈ Y.pn) (F : L2.Fun Y.K x x st f fd) (S : FnScope [s1] [s1] (defScope st)) (hb : Binds Y.K fd [s1] []) (hr : RoomH (k + 1) Y.A) (I : Inv Y pins σ H s)
    (body : ∀ (cd : Value) (A : Around), RoomH k (A.deeper (envOfC x (defScope st) s.heap.objs.size f cd)) → ∃ t, PSs (cxH (L2.CX Y.prog Y.w) Y.prog Y.w Y.K Y.mg Y.base [s1] x (defScope st) f cd A Y.stack s H (fun _ _ _ => False) (a, oe)) (defBody st) t ∧ t { nx := fun _ H' => Q .non H', rt := Q } (L2.start [s1] [.ref a]) H) :
    wpAny (model Y.prog Y.w) Y.A (call (.ref f) [.ref a]) (EP Y pins σ Q) Y.xe s := by
  obtain ⟨oc, od, kV, doc, pm, an, cdv, ct, osl, rfl, lk, hcd⟩ := F.ex
  obtain ⟨g1, g2, g3, g4, g5⟩ := I.pin (a, oe) (List.mem_append_left _ hp)
  have pin : PinOk Y.stack H s (a, oe) := ⟨g1, g2, fun hm => (List.mem_cons.mp (I.stkSub a hm)).elim g3 g4, g5⟩
  have b0 := hb s [.ref a] I.kIn rfl
  have e0 := I.env0
  have KX : Y.K.In s.heap := I.kIn
  have hk : ∀ y ∈ [s1].zip [Value.ref a], (defScope st).names.lookup y.1 = some .local ∨ ((defScope st).names.lookup y.1 = some .cell ∧ ((cellsFrom (s.heap.objs.size + 1) (defScope st).names []).lookup y.1).isSome = true) := fun ⟨n, v⟩ hy =>
    (S.par n (List.of_mem_zip hy).1).elim .inl fun q => .inr ⟨q, PySem.W.cellsFrom_some _ _ _ (.inl q)⟩
  refine wpAny_call (codeAny_call_function hr.depth (KX _ _ lk) rfl S.co S.gen rfl (PySem.W.codeRec_of KX hcd) (b0 _ _ _ _ (wpAny_newFunctionEnv_cells S.kind hk fun env he s2 z => ?_)))
  subst he
  refine ⟨I.nolimit.keeps z.toInCall.keep, codeAny_func ?_⟩
  obtain ⟨t, ht, hq⟩ := body cdv Y.A (hr.deeper _)
  have J := inv_startH (CX := L2.CX Y.prog Y.w) (E := fun _ _ _ => False) S pin e0 (vs := [.ref a]) rfl (.cons rfl .nil) z
  refine wpAny_mono (ht.run [] s2 _ H _ J hq) (fun fl s' hs => ?_) fun e s' hs => wpAny_mono hs (fun _ s3 ⟨_, _, _, _, _, _, _, _, _, _, _, _, no⟩ => no.elim) fun _ _ ⟨_, _, _, _, _, _, _, _, _, _, _, _, no⟩ => no.elim
  have fin : ∀ {σ' : L2.St} {H' : Hp} {v : V} {u : Value}, Inv (cxH (L2.CX Y.prog Y.w) Y.prog Y.w Y.K Y.mg Y.base [s1] x (defScope st) f cdv Y.A Y.stack s H (fun _ _ _ => False) (a, oe)) [] σ' H' s' → RelV v u → Q v H' → CE Y.stack Y.prog Y.w H s Q u s' := fun J rv q => ⟨_, _, J.os, J.bare, J.base, J.hok, rv, q⟩
  cases fl with
  | ret u => obtain ⟨v, σ', H', J, rv, q⟩ := hs; exact I.after (fin J rv q)
  | next => obtain ⟨σ', H', J, q⟩ := hs; exact I.after (fin (v := .non) (u := .none) J rfl q)
  | brk => obtain ⟨_, _, _, q⟩ := hs; exact q.elim
  | cont => obtain ⟨_, _, _, q⟩ := hs; exact q.elim
end
end TD

namespace TD
open PySem PySem.Spec PySem.W PyProof.Rows L2 LamX
section
variable {X : Cx} {pins : List (Addr × Obj)} {σ : L2.St} {H : Hp} {s : Shared} {c P : Addr} {nm : Nat → Nat → Str} {L : LInfo} {pos : Pos} {dV : Value} {Q : Value → Shared → Prop} {E : Value → Shared → Prop}
/-- what the making of a lambda leaves -/
structure Made (X : Cx) (pins : List (Addr × Obj)) (σ : L2.St) (H : Hp) (P : Addr) (nm : Nat → Nat → Str) (L : LInfo) (dV : Value) (f c' : Addr) (H1 : Hp) (s' : Shared) : Prop where
  inv : Inv X pins σ H1 s'
  ext : ExtN H H1
  free : ∀ b, H1 b = none → H b = none
  tbl : ∀ a ps, H a = some (.tbl ps) → ∃ more, H1 a = some (.tbl (ps ++ more))
  tbo : ∀ a ps, a ≠ P → H a = some (.tbl ps) → H1 a = some (.tbl ps)
  tab : NdefX.TabN H1 P nm
  new : H f = none
  at_ : H1 f = some (LamO f L dV c')
  code : H1 c' = some (CodeO c' L.qual)
theorem upd_free {a b : Addr} {o : HO} (e : upd H a o b = none) : H b = none := by
  by_cases h : b = a
  · subst h; rw [upd_same] at e; cases e
  · rwa [upd_ne h] at e
/-- the function object itself -/
theorem lam_push {H1 : Hp} {h' : Heap} {tk : Nat} {c' : Addr} {pm ctv : Value} (J : Inv X pins σ H1 { s with heap := h', toks := tk }) (e1 : ExtN H H1) (e2 : ∀ b, H1 b = none → H b = none) (e3 : ∀ a ps, H a = some (.tbl ps) → ∃ more, H1 a = some (.tbl (ps ++ more))) (e6 : ∀ a ps, a ≠ P → H a = some (.tbl ps) → H1 a = some (.tbl ps)) (e4 : NdefX.TabN H1 P nm) (e5 : H1 c' = some (CodeO c' L.qual))
    (h : ∀ f c' H1 s', Made X pins σ H P nm L dV f c' H1 s' → Q (.ref f) s') : Q (.ref h'.objs.size) { s with heap := h'.push { cls := .type "function", data := .func (lamFd L dV pm ctv c') }, toks := tk } := by
  have n : H1 h'.objs.size = none := J.hok.fresh (Nat.le_refl _)
  have at_ : (h'.push ({ cls := .type "function", data := .func (lamFd L dV pm ctv c') } : Obj)).get? h'.objs.size = some ({ cls := .type "function", data := .func (lamFd L dV pm ctv c') } : Obj) := Heap.get?_push_size _ rfl
  have J2 : Inv X pins σ (upd H1 h'.objs.size (LamO h'.objs.size L dV c')) { s with heap := h'.push { cls := .type "function", data := .func (lamFd L dV pm ctv c') }, toks := tk } :=
    J.laid (t' := tk) (a := h'.objs.size) (o := LamO h'.objs.size L dV c') (fun b u e => Heap.get?_push_of_some _ e) (Nat.le_refl _) ⟨⟨_, _, at_⟩, ⟨_, at_⟩, fun h1 h2 ⟨p, q, z⟩ st => ⟨p, q, st _ z⟩⟩
  have keep : ∀ b o, H1 b = some o → upd H1 h'.objs.size (LamO h'.objs.size L dV c') b = some o := fun b o e => by rw [upd_ne (ne_of_none e n)]; exact e
  refine h _ c' _ _ ⟨J2, fun b o e z => keep _ _ (e1 b o e z), fun b e => e2 b (upd_free e), fun a ps e => ?_, fun a ps n e => keep _ _ (e6 a ps n e), e4.ext keep, e2 _ n, upd_same, keep _ _ e5⟩
  obtain ⟨more, q⟩ := e3 a ps e
  exact ⟨more, keep _ _ q⟩
/-- behind the closure's tuple -/
theorem lam_rest {ctv : Value} (I : Inv X pins σ H s) (TB : TabB X.base X.mg c P) (hcode : X.env.code = .ref c) (hT : NdefX.TabN H P nm) (hn : nm pos.line pos.col = L.qual)
    (h : ∀ f c' H1 s', Made X pins σ H P nm L dV f c' H1 s' → Q (.ref f) s') :
    wpAny (model X.prog X.w) X.A (do
      let fd : FuncData := { name := "<lambda>", qualname := L.qual, params := L.params, body := .expr L.body, scope := L.scope, globals := mainGlobals, closure := L.cl, closureTuple := ctv,
                             code := ← functionCode X.env pos pos.line "<lambda>" L.qual L.params L.scope (.expr L.body), builtins := ← builtinsFor mainGlobals X.env.builtins,
                             defaults := dV, kwdefaults := .none, annotations := none, pyModule := (← nsGet mainGlobals "__name__").getD .none, doc := ← pure .none }
      newObj (.type "function") (.func fd)) Q E s := by
  obtain ⟨ps, hP, ht, ha⟩ := id hT
  have hP' : s.heap.get? P = some { cls := .none, data := .fields ps } := I.hok P _ hP
  have hC := TB.code.keeps I.bk
  obtain ⟨bm, ob, b1, b2, _, b3, b4, b5, b6, b7⟩ := TB.bm.keeps I.bk
  have hG := I.mod.glob.keeps I.bk
  rw [I.ok.blt]
  cases hc : codeAmong pos ps.toList with
  | none =>
    refine wpAny_bind (wpAny_functionCodeX hcode (hC.code hP' ht) (hC.tab hP') hc fun c' h' tk hx hge hlt _ hrec htb _ => ?_)
    have hG' := hG.extBut hx TB.gP
    refine wpAny_bind (wpAny_builtinsFor hG' b1 b2 (hx _ _ b3 b4) b5 b6 b7 (wpAny_bind (wpAny_nsGet hG' (wpAny_bind (wpAny_pure (wpAny_newObj_type ?_ (by size_fits)))))))
    obtain ⟨c2, oc, vs, t, z, hoc, hd, hv⟩ := hrec
    cases z
    have nC : H c' = none := I.hok.fresh hge
    have J := inv_table (t' := tk) (q := L.qual) (more := #[rawInt pos.line, rawInt pos.col, .ref c']) (h' := h') I hP (fun b o hb e => hx b o hb e) htb.2 hge ⟨oc, vs, t, hoc, hd, hv⟩
    have nPc : P ≠ c' := ne_of_none hP nC
    have eN : ExtN H (upd (upd H P (.tbl (ps ++ #[rawInt pos.line, rawInt pos.col, .ref c']))) c' (CodeO c' L.qual)) := fun b o e no => by
      rw [upd_ne (ne_of_none e nC), upd_ne (fun z => no ps (Option.some.inj (e.symm.trans (by rw [z]; exact hP))))]; exact e
    refine lam_push (c' := c') J eN (fun b e => upd_free (upd_free e)) (fun a qs e => ?_) (fun a qs hb e => by rw [upd_ne (ne_of_none e nC), upd_ne hb]; exact e) ?_ upd_same h
    · by_cases hb : a = P
      · subst hb; rw [hP] at e; cases e; exact ⟨_, by rw [upd_ne nPc, upd_same]⟩
      · exact ⟨#[], by rw [upd_ne (ne_of_none e nC), upd_ne hb, e]; simp⟩
    · have eL : (ps ++ #[rawInt pos.line, rawInt pos.col, .ref c']).toList = ps.toList ++ [rawInt pos.line, rawInt pos.col, .ref c'] := by simp
      refine ⟨_, by rw [upd_ne nPc, upd_same], by rw [eL]; exact PySem.TriplesOk_snoc _ _ _ _ ht, fun p' cv hcv => ?_⟩
      rw [eL] at hcv
      rcases NdefX.among_app2 _ ht hcv with z | ⟨z, l1, l2⟩
      · obtain ⟨c0, z1, z2⟩ := ha p' cv z
        exact ⟨c0, z1, eN _ _ z2 codeO_ne⟩
      · exact ⟨c', z, by rw [← l1, ← l2, hn]; exact upd_same⟩
  | some cv =>
    obtain ⟨c', rfl, hco⟩ := ha pos cv hc
    rw [hn] at hco
    refine wpAny_bind (wpAny_functionCode_hit hcode (hC.code hP' ht) hc ?_)
    refine wpAny_bind (wpAny_builtinsFor hG b1 b2 b4 b5 b6 b7 (wpAny_bind (wpAny_nsGet hG (wpAny_bind (wpAny_pure (wpAny_newObj_type ?_ (by size_fits)))))))
    exact lam_push (h' := s.heap) (tk := s.toks) (c' := c') I (ExtN.refl H) (fun _ e => e) (fun a qs e => ⟨#[], by rw [e]; simp⟩) (fun _ _ _ e => e) hT hco h
/-- the lambda is made -/
theorem lam_made (I : Inv X pins σ H s) (TB : TabB X.base X.mg c P) (hcode : X.env.code = .ref c) (hT : NdefX.TabN H P nm) (hn : nm pos.line pos.col = L.qual) (hcl : L.cl = cloFrom X.env.cells L.scope.names []) (hfree : ∀ y ∈ L.scope.names, y.2 = .free → ∃ c, X.env.cells.lookup y.1 = some c)
    (h : ∀ f c' H1 s', Made X pins σ H P nm L dV f c' H1 s' → Q (.ref f) s') : wpAny (model X.prog X.w) X.A (makeTail "<lambda>" L.qual L.params (.expr L.body) L.scope X.env dV .none none pos pos.line) Q E s := by
  unfold makeTail
  rw [closure_ok hfree, I.ok.glob, ← hcl]
  refine wpAny_bind (wpAny_pure ?_)
  cases hz : L.cl.isEmpty with
  | true =>
    rw [if_pos rfl]
    exact wpAny_bind (wpAny_pure (lam_rest I TB hcode hT hn h))
  | false =>
    rw [if_neg Bool.false_ne_true]
    refine wpAny_bind (wpAny_newTextTuple ?_)
    exact lam_rest (I.kept fun b o e => Heap.get?_push_of_some _ e) TB hcode hT hn h
end
/-! ### a lambda by data -/
section
variable {X : Cx} {W : WX} {c P : Addr} {nm : Nat → Nat → Str} {pos : Pos} {params : Arguments} {body : Expr} {scope : Scope}
abbrev lamI (X : Cx) (params : Arguments) (body : Expr) (scope : Scope) (d : Option Int) : LInfo := ⟨X.env.qual ++ "<lambda>", params, body, scope, cloFrom X.env.cells scope.names [], d⟩
/-- lambda: e -/
def tdLam (P : Addr) (nm : Nat → Nat → Str) (L : LInfo) : TDE := fun _ M Q _ => M P = some (.tab nm) ∧ ∀ f, M f = none → Q (.ref f) (mupd M f (.lam L))
theorem Made.up {pins : List (Addr × Obj)} {σ : L2.St} {H H1 : Hp} {L : LInfo} {dV : Value} {f c' : Addr} {s' : Shared} {M : Mem} {Q0 : D → Mem → Prop} {Q : VK} (m : Made X pins σ H P nm L dV f c' H1 s') (s : Sim X.K H M) (hM : M P = some (.tab nm)) (hd : (L.dfl = none ∧ dV = .none) ∨ ∃ i dt, L.dfl = some i ∧ dV = .ref dt ∧ H dt = some (.tup [.int i]))
    (hq : qUp X.K H M Q0 Q) (h : ∀ f, M f = none → Q0 (.ref f) (mupd M f (.lam L))) : Q (.ref f) H1 := by
  have nf : M f = none := s.free m.new
  have nt : ∀ {o : HO} {xs : List V}, o = .tup xs → ∀ ps, o ≠ .tbl ps := fun e ps z => by rw [e] at z; cases z
  refine hq _ _ (h f nf) _ H1 (.ref f) (fun a o e => ?_) ⟨fun a xs e => m.ext _ _ e (nt rfl), fun a o u e => m.ext _ _ e (fun ps z => by cases z), fun a o e n => ?_, fun a o e n t => m.ext _ _ e (fun ps z => by subst z; cases t), m.tbl, fun a o e => ?_⟩
  · by_cases ha : a = f
    · subst ha
      rw [mupd_same] at e; cases e
      refine ⟨dV, c', m.at_, m.code, ?_⟩
      rcases hd with hd | ⟨i, dt, e1, e2, e3⟩
      · exact .inl hd
      · exact .inr ⟨i, dt, e1, e2, m.ext _ _ e3 (nt rfl)⟩
    · rw [mupd_ne ha] at e
      by_cases hp : a = P
      · subst hp
        rw [hM] at e; cases e
        exact m.tab
      · have keep : ∀ u, H a = some u → H1 a = some u := fun u q => by
          cases u with
          | tbl ps => exact m.tbo _ _ hp q
          | _ => exact m.ext _ _ q (fun ps z => by cases z)
        cases o with
        | tab nm' =>
          obtain ⟨ps, q1, q2, q3⟩ := s a _ e
          refine ⟨ps, keep _ q1, q2, fun pos cv z => ?_⟩
          obtain ⟨c0, z1, z2⟩ := q3 pos cv z
          exact ⟨c0, z1, m.ext _ _ z2 codeO_ne⟩
        | lam L' =>
          obtain ⟨dV', c0, q1, q2, q3⟩ := s a _ e
          refine ⟨dV', c0, keep _ q1, m.ext _ _ q2 codeO_ne, ?_⟩
          rcases q3 with q3 | ⟨i, dt, z1, z2, z3⟩
          · exact .inl q3
          · exact .inr ⟨i, dt, z1, z2, m.ext _ _ z3 (nt rfl)⟩
        | lst ds => obtain ⟨vs, q, r⟩ := s a _ e; exact ⟨vs, keep _ q, r.mono0 (fun a xs e => m.ext _ _ e (nt rfl)) fun a o u e => m.ext _ _ e (fun ps z => by cases z)⟩
        | ins C dx fs => obtain ⟨vs, q, r⟩ := s a _ e; exact ⟨vs, keep _ q, FReps.mono0 (fun a xs e => m.ext _ _ e (nt rfl)) (fun a o u e => m.ext _ _ e (fun ps z => by cases z)) r⟩
        | dk kvs => obtain ⟨vs, q, r⟩ := s a _ e; exact ⟨vs, keep _ q, FReps.mono0 (fun a xs e => m.ext _ _ e (nt rfl)) (fun a o u e => m.ext _ _ e (fun ps z => by cases z)) r⟩
        | oth o => obtain ⟨q, r⟩ := s a _ e; exact ⟨keep _ q, r⟩
  · by_cases ha : a = f
    · subst ha; rw [m.new] at e; cases e
    · rw [mupd_ne ha]; exact n
  · cases q : H1 a with
    | some u => exact ⟨u, rfl⟩
    | none => rw [m.free a q] at e; cases e
theorem d_lam0 (TB : TabB X.base X.mg c P) (hcode : X.env.code = .ref c) (hn : nm pos.line pos.col = X.env.qual ++ "<lambda>") (hfree : ∀ y ∈ scope.names, y.2 = .free → X.env.scope.names.lookup y.1 = some .cell ∨ X.env.scope.names.lookup y.1 = some .free) (hdef : defaultsOf params X.env = ([], []) := by rfl) :
    DE X W (.Lambda params body scope pos) (tdLam P nm (lamI X params body scope none)) := ⟨fun pins s σ H Q I ⟨ρ, M, Q0, E0, dv, sm, ⟨hM, q⟩, hq, _⟩ => by
  refine PySem.W.kla_eval hdef ?_
  rw [makeFunction_eq]
  simp only [List.zip_nil_right, List.filterMap_nil, List.isEmpty_nil, if_true, pure_bind]
  exact lam_made (L := lamI X params body scope none) I TB hcode (sm _ _ hM) hn rfl (fun y hy e => I.ok.has _ (hfree y hy e)) fun f c' H1 s' m => ⟨.ref f, H1, m.inv, rfl, m.up sm hM (.inl ⟨rfl, rfl⟩) hq q⟩⟩
end
end TD

namespace TD
open PySem PySem.Spec PySem.W PyProof.Rows L2 LamX
/-! ### a lambda's body -/
/-- its names: captured ones, parameters that are none of the maker's slots -/
structure LamS2 (sc scope : Scope) (N : List Str) : Prop where
  kind : scope.kind = .function
  co : scope.isCoroutine = false
  gen : scope.isGenerator = false
  own : ∀ y ∈ scope.names, y.2 ≠ .cell ∧ (y.2 = .local → y.1 ∉ N)
  free : ∀ y ∈ scope.names, y.2 = .free → sc.names.lookup y.1 = some .cell ∨ sc.names.lookup y.1 = some .free
def lamS2B (sc scope : Scope) (N : List Str) : Bool :=
  decide (scope.kind = .function) && (!scope.isCoroutine && (!scope.isGenerator && scope.names.all fun y => !decide (y.2 = .cell) && ((!decide (y.2 = .local) || !N.contains y.1) && (!decide (y.2 = .free) || (decide (sc.names.lookup y.1 = some .cell) || decide (sc.names.lookup y.1 = some .free))))))
theorem lamS2_by {sc scope : Scope} {N : List Str} (h : lamS2B sc scope N = true) : LamS2 sc scope N := by
  unfold lamS2B at h
  simp only [Bool.and_eq_true, Bool.or_eq_true, Bool.not_eq_true', decide_eq_true_eq, decide_eq_false_iff_not, List.all_eq_true] at h
  obtain ⟨h1, h2, h3, h4⟩ := h
  refine ⟨h1, h2, h3, fun y hy => ⟨(h4 y hy).1, fun e => ?_⟩, fun y hy e => ?_⟩
  · rcases (h4 y hy).2.1 with z | z
    · exact absurd e z
    · intro m
      rw [List.contains_iff_mem.mpr m] at z
      cases z
  · rcases (h4 y hy).2.2 with z | z
    · exact absurd e z
    · exact z
/-- the context of its body, X: the maker's -/
def lcx (X : Cx) (L : LInfo) (A : Around) (outer : List Env) (s : Shared) (H : Hp) (E : XK) (f c' : Addr) : Cx where
  prog := X.prog
  w := X.w
  K := X.K
  mg := X.mg
  base := X.base
  A := A.deeper (envX L.qual L.scope s.heap.objs.size f (.ref c') L.cl)
  N := X.N
  s_0 := s
  H_0 := H
  env := envX L.qual L.scope s.heap.objs.size f (.ref c') L.cl
  outer := outer
  stack := envX L.qual L.scope s.heap.objs.size f (.ref c') L.cl :: outer
  ex := []
  fn := fun _ => false
  calm := true
  pn := []
  xe := fun e s' => wpAny (model X.prog X.w) (A.deeper (envX L.qual L.scope s.heap.objs.size f (.ref c') L.cl)) (leaving (envX L.qual L.scope s.heap.objs.size f (.ref c') L.cl) e) (fun _ s'' => L2.CX X.prog X.w outer H s E e s'') (fun e' s'' => L2.CX X.prog X.w outer H s E e' s'') s'
/-- how its cells lie to the frame that calls -/
structure LCl (X : Cx) (L : LInfo) : Prop where
  to : ∀ y c, L.cl.lookup y = some c → X.env.cells.lookup y = some c
  has : ∀ y ∈ L.scope.names, y.2 = .free → ∃ c, L.cl.lookup y.1 = some c
section
variable {X : Cx} {L : LInfo} {pins : List (Addr × Obj)} {σ : L2.St} {H : Hp} {s : Shared}
theorem lcl_made (ok : X.Ok) (S : LamS2 X.env.scope L.scope X.N) (e : L.cl = cloFrom X.env.cells L.scope.names []) : LCl X L := by
  have hf : ∀ y ∈ L.scope.names, y.2 = .free → ∃ c, X.env.cells.lookup y.1 = some c := fun y hy z => ok.has _ (S.free y hy z)
  refine ⟨fun y c q => NdefX.clo_cm hf (by rw [← e]; exact q), fun y hy z => ?_⟩
  obtain ⟨c, q⟩ := hf y hy z
  have hy' : (y.1, NameKind.free) ∈ L.scope.names := by rw [← z]; exact hy
  exact ⟨c, by rw [e]; exact NdefX.clo_has hf hy' q⟩
/-- entered from the frames outer, where X's frame is one of them -/
theorem lam_begin {A : Around} {outer : List Env} {E : XK} {f c' : Addr} {s1 : Shared} {h₁ : Heap} {tk : Nat} {m : Str → Option Value} (I : Inv X pins σ H s) (S : LamS2 X.env.scope L.scope X.N) (C : LCl X L) (e0 : Env0 X.prog X.w X.K X.mg X.base A outer s1 H) (hd : A.handled = none)
    (un : Un (frs X.stack) [] H H s.heap s1.heap) (hns : h₁.Ns s1.heap.objs.size m) (kp : ∀ b o, s1.heap.get? b = some o → h₁.get? b = some o) : Inv (lcx X L A outer s1 H E f c') [] σ H { s1 with heap := h₁, toks := tk } := by
  have celled : ∀ {y c : _}, L.cl.lookup y = some c → ∃ o v, s.heap.get? c = some o ∧ H c = none ∧ o.data = .cell v := fun {y c} e => by
    obtain ⟨v, o, z1, z2⟩ := I.cell y c (C.to y c e)
    exact ⟨o, v, z1, I.freeC y c (C.to y c e), z2⟩
  have cellK : ∀ {c : Addr} {v : Option Value}, H c = none → s.heap.IsCell c v → h₁.IsCell c v := fun {c v} n ⟨o, z1, z2⟩ => by
    obtain ⟨sl, q⟩ := un.any z1 n (by simp)
    exact ⟨_, kp _ _ q, z2⟩
  have no : ∀ b : Addr, b ∉ (lcx X L A outer s1 H E f c').ex := fun b z => by cases (show b ∈ ([] : List Addr) from z)
  have kinds : ∀ y, L.scope.names.lookup y = some .cell → False := fun y z => (S.own _ (PySem.mem_of_lookup z)).1 rfl
  constructor
  · refine ⟨e0.mod, S.kind, rfl, rfl, Nat.le_refl _, fun y z c q1 q2 => I.ok.inj y z c (C.to y c q1) (C.to z c q2), fun y hy => ?_, fun y c z => Bool.noConfusion (show false = true from z), fun _ => hd, Around.frames_deeper e0.frames, .inr ⟨rfl, rfl⟩, fun b z => absurd z (no b), e0.bs, e0.bsz, fun b _ _ => no b, fun b z => absurd z (no b), e0.funs, e0.frf⟩
    rcases (show L.scope.names.lookup y = some .cell ∨ L.scope.names.lookup y = some .free from hy) with z | z
    · exact (kinds y z).elim
    · exact C.has _ (PySem.mem_of_lookup z) rfl
  · rfl
  · exact e0.bare
  · exact Un.kept kp
  · refine ⟨m, hns, fun i y v q1 q2 q3 => ?_⟩
    rcases (show Vis L.scope y from q3) with k | k | k
    · exact absurd (List.mem_of_getElem? (show X.N[i]? = some y from q1)) ((S.own _ (PySem.mem_of_lookup k)).2 rfl)
    · exact (kinds y k).elim
    · obtain ⟨m0, _, look⟩ := I.loc
      have fr := S.free _ (PySem.mem_of_lookup k) rfl
      obtain ⟨u, r, q⟩ := look i y v q1 q2 (fr.elim (fun z => .inr (.inl z)) fun z => .inr (.inr z))
      obtain ⟨c2, h2⟩ := C.has _ (PySem.mem_of_lookup k) rfl
      refine ⟨u, r, .inr ⟨.inr k, c2, h2, ?_⟩⟩
      have c1 := C.to _ _ h2
      rcases q with ⟨k', _⟩ | ⟨_, c3, e', z⟩
      · have k2 : X.env.scope.names.lookup y = some .local := k'
        rcases fr with z | z <;> rw [z] at k2 <;> cases k2
      · rw [c1] at e'; cases e'
        exact cellK (I.freeC y _ c1) z
  · intro y c q
    obtain ⟨v, z⟩ := I.cell y c (C.to y c q)
    exact ⟨v, cellK (I.freeC y c (C.to y c q)) z⟩
  · exact e0.hok.fresh (Nat.le_refl _)
  · intro y c q
    exact I.freeC y c (C.to y c q)
  · intro q hq; simp [lcx] at hq
  · exact e0.hok.kept kp
  · exact I.len
/-- the parameters: none, or one with a default -/
structure LPar (L : LInfo) : Prop where
  b0 : L.dfl = none → ∀ (pm ctv : Value) (c : Addr), bindArgs (lamFd L .none pm ctv c) ⟨[], []⟩ = pure []
  b1 : ∀ i, L.dfl = some i → ∃ x : Str, L.scope.names.lookup x = some .local ∧ ∀ (dt : Addr) (pm ctv : Value) (c : Addr), ∃ k : Option (Array Value) → Sem (List (Str × Value)), bindArgs (lamFd L (.ref dt) pm ctv c) ⟨[], []⟩ = seqItems? (.ref dt) >>= k ∧ ∀ v : Value, k (some #[v]) = pure [(x, v)]
/-- the lambda is called, in a def that got it: Z stands in the frame that X's frame called at s -/
theorem lam_run {A : Around} {outer : List Env} {f c' : Addr} {dV : Value} {s1 : Shared} {k : Nat} {E : XK} {tb : TE} {Q : VK} (I : Inv X pins σ H s) (S : LamS2 X.env.scope L.scope X.N) (C : LCl X L) (hp : LPar L) (hf : H f = some (LamO f L dV c')) (hc : H c' = some (CodeO c' L.qual))
    (hdv : (L.dfl = none ∧ dV = .none) ∨ ∃ i dt, L.dfl = some i ∧ dV = .ref dt ∧ H dt = some (.tup [.int i])) (e0 : Env0 X.prog X.w X.K X.mg X.base A outer s1 H) (hr : Room (k + 1) A) (un : Un (frs X.stack) [] H H s.heap s1.heap) (lim : s1.heap.NoLimit)
    (hbody : Room k (A.deeper (envX L.qual L.scope s1.heap.objs.size f (.ref c') L.cl)) → PE (lcx X L A outer s1 H E f c') L.body tb) (ht : tb σ H Q) :
    codeAny (model X.prog X.w) A (.call (.ref f) ⟨[], []⟩) (CR (L2.CX X.prog X.w) outer X.prog X.w H s1 Q E) s1 := by
  obtain ⟨⟨pm, ctv, of1⟩, _⟩ := e0.hok f _ hf
  obtain ⟨⟨oc, vs, t, hoc, hdc, hvc⟩, _, _⟩ := e0.hok c' _ hc
  refine PySem.W.kla_callFunE hr.depth of1 rfl S.co S.gen rfl ⟨c', oc, vs, t, rfl, hoc, hdc, hvc⟩ ?_
  have go : ∀ (binds : List (Str × Value)) , (∀ y ∈ binds, L.scope.names.lookup y.1 = some .local) → wpAny (model X.prog X.w) A.in1 (newFunctionEnv L.scope mainGlobals L.cl binds (L.qual ++ ".<locals>.") (some f) (.ref c') none builtinsNs)
      (fun env s₂ => s₂.heap.NoLimit ∧ codeAny (model X.prog X.w) A (.expr L.body env) (CR (L2.CX X.prog X.w) outer X.prog X.w H s1 Q E) s₂) (fun e s' => CR (L2.CX X.prog X.w) outer X.prog X.w H s1 Q E (.error e) s') s1 := fun binds hb => by
    refine wpAny_newFunctionEnv (fun y hy => (S.own y hy).1) hb (fun h₁ hns hsb => ⟨lim.fresh _ hsb, ?_⟩) S.kind
    have kp : ∀ b o, s1.heap.get? b = some o → h₁.get? b = some o := fun b o e => hsb.extBut b o (Nat.ne_of_lt (Heap.lt_size e)) (Heap.get?_push_of_some _ e)
    have J : Inv (lcx X L A outer s1 H E f c') [] σ H { s1 with heap := h₁, toks := s1.toks + binds.length } := lam_begin I S C e0 hr.hd un hns kp
    refine PySem.W.kla_codeExpr (wpAny_mono ((hbody (hr.deeper _)).run [] _ σ H Q J ht) (fun v s' ⟨w', H', J', rv, q⟩ => ?_) fun e s' hq => hq)
    exact ⟨w', H', J'.os, J'.bare, J'.base, J'.hok, rv, q⟩
  rcases hdv with ⟨h0, rfl⟩ | ⟨i, dt, h1, rfl, hdt⟩
  · rw [hp.b0 h0]
    exact wpAny_pure (go [] (by simp))
  · obtain ⟨x, hx, hk⟩ := hp.b1 i h1
    obtain ⟨kk, e1, e2⟩ := hk dt pm ctv c'
    obtain ⟨_, its, r, o, e3, _, n, e4⟩ := e0.hok dt _ hdt
    cases r with
    | cons r1 r2 =>
      cases r2
      rw [e1]
      refine wpAny_bind (wpAny_seqItems e3 e4 ?_)
      rw [e2]
      exact wpAny_pure (go [(x, _)] (by simpa using hx))
end
end TD

namespace TD
open PySem PySem.Spec PySem.W PyProof.Rows L2 L2H LamX
/-! ### the fields of a caught error -/
section
variable {Y : Cx} {a C dd : Addr} {oe : Obj} {e : Expr} {te : TE} {pos : Pos} {n : Str}
theorem pe_xg (hp : (a, oe) ∈ Y.pn) (hz : Zc (.ref C) (some dd) oe) (hf : ∃ vs, oe.data = .fields vs) (T : XfC Y.K C) (he : PE Y e te) (hb : attributeBase e n Y.env (eval e Y.env) = eval e Y.env := by rfl) :
    PE Y (.Attribute e n pos) (fun σ H Q => te σ H fun x H1 => x = .ref a ∧ PySem.W.findIn Y.K (.ref C) n = some none ∧ ∃ fs v, H1 dd = some (.xd fs) ∧ fs.lookup n = some v ∧ Q v H1) := ⟨fun pins s σ H Q I h => by
  refine attr_of hb (thn (he.run pins s σ H _ I h) fun u s1 ⟨x, H1, I1, rx, ex, hno, fs, v, ea, l, q⟩ => ?_)
  subst ex
  obtain rfl : u = Value.ref a := rx
  obtain ⟨vs, hd⟩ := hf
  obtain ⟨mA, hns, hr⟩ := (show ObjOk Y.prog Y.w H1 s1.heap dd (.xd fs) from I1.hok dd _ ea)
  obtain ⟨od, ho, hl⟩ := lookIn_ns hns
  obtain ⟨w, hw, rw'⟩ := RelO.some_of (v := v) (o := mA n) (l ▸ hr n)
  have at_ : PySem.W.InstAt s1.heap a oe C (some od) := ⟨(I1.pin (a, oe) (List.mem_append_left _ hp)).1, hz.1, (by unfold PySem.W.notCls; rw [hd] <;> rfl), by rw [hz.2]; exact ho⟩
  exact HandSPX.exc_get I1.kIn at_ T.ga T.gg T.exC (PySem.W.findObj_own T.hdC hno rfl ((hl _).trans (by rw [hw]))) (handed_of rw') ⟨v, H1, I1.tok _, rw', q⟩⟩
/-- by data: the dict stands in the memory -/
def dOf : V → D
  | .non => .non
  | .bl b => .bl b
  | .int i => .int i
  | .str x => .str x
  | .ref a => .ref a
  | .ty n => .ty n
  | _ => .non
def goodV : V → Bool
  | .byt _ | .flt _ => false
  | _ => true
theorem rep_dOf {K : PySem.W.Frag} {H : Hp} {v : V} (h : goodV v = true) : Rep K H v (dOf v) := by
  cases v <;> first | exact .non | exact .bl _ | exact .int _ | exact .str _ | exact .ref _ | exact .ty _ | cases h
theorem rep_good {K : PySem.W.Frag} {H : Hp} {v : V} {d : D} (r : Rep K H v d) : goodV v = true := by cases r <;> rfl
theorem dOf_uniq {K : PySem.W.Frag} {H : Hp} {v u : V} (h : goodV v = true) (r : Rep K H u (dOf v)) : u = v := by
  cases v <;> first | (cases r; rfl) | cases h
def tdXf (K : PySem.W.Frag) (a C dd : Addr) (n : Str) (te : TDE) : TDE := fun ρ M Q E => te ρ M (fun d M1 => d = .ref a ∧ PySem.W.findIn K (.ref C) n = some none ∧ ∃ vs v, M1 dd = some (.oth (.xd vs)) ∧ vs.lookup n = some v ∧ goodV v = true ∧ Q (dOf v) M1) E
theorem d_xf {W : WX} {t : TDE} (hp : (a, oe) ∈ Y.pn) (hz : Zc (.ref C) (some dd) oe) (hf : ∃ vs, oe.data = .fields vs) (T : XfC Y.K C) (he : DE Y W e t) (hb : attributeBase e n Y.env (eval e Y.env) = eval e Y.env := by rfl) : DE Y W (.Attribute e n pos) (tdXf Y.K a C dd n t) :=
  PE.imp (pe_xg hp hz hf T he hb) fun σ H Q ⟨ρ, M, Q0, E0, dv, sm, q, hq, hw⟩ => by
    refine ⟨ρ, M, _, E0, dv, sm, q, fun d M1 q1 v H1 r1 s1 t1 => ?_, hw⟩
    obtain ⟨rfl, hno, vs, u, e1, e2, g, q1⟩ := q1
    cases r1
    exact ⟨rfl, hno, vs, u, (s1 _ _ e1).1, e2, hq _ _ q1 u H1 (rep_dOf g) s1 t1⟩
end
/-! ### the law's own try -/
/-- the field that the law reads of a caught error, by its word -/
def fieldF (w : Str) : Option Str :=
  if inV (.str w) [.str "BadStep", .str "BadCommand", .str "BadText"] then some "at"
  else if inV (.str w) [.str "TooLarge", .str "TooLong", .str "Full"] then some "most"
  else if inV (.str w) [.str "BadOwner", .str "NoItem"] then some "owner"
  else if inV (.str w) [.str "Taken", .str "Clash", .str "NoStamp"] then some "stamp"
  else if inV (.str w) [.str "BadName", .str "Unknown"] then some "name"
  else if inV (.str w) [.str "OutOfRange", .str "BadPage"] then (if (w == ("OutOfRange" : Str)) = true then some "number" else some "row")
  else if (w == ("NotEqual" : Str)) = true then some "item" else if (w == ("NoRoom" : Str)) = true then some "step" else none
/-- a caught error, its word and its field -/
def CaughtBy (K : PySem.W.Frag) (c1 c2 : Value) (cls : Value) (fs : List (Str × D)) (w : Str) (d : D) : Prop :=
  ∃ C, cls = .ref C ∧ PySem.W.exmAny K (.ref C) [c1, c2] = some true ∧ XfC K C ∧ fs.lookup ("word" : Str) = some (.str w) ∧ PySem.W.findIn K (.ref C) "word" = some none ∧
    match fieldF w with
    | some f => fs.lookup f = some d ∧ PySem.W.findIn K (.ref C) f = some none
    | none => d = .non
/-- .. by values -/
def CaughtV (K : PySem.W.Frag) (C : Addr) (vs : List (Str × V)) (w : Str) (v : V) : Prop :=
  vs.lookup ("word" : Str) = some (.str w) ∧ PySem.W.findIn K (.ref C) "word" = some none ∧ goodV v = true ∧
    match fieldF w with
    | some f => vs.lookup f = some v ∧ PySem.W.findIn K (.ref C) f = some none
    | none => v = .non
theorem freps_look {K : PySem.W.Frag} {H : Hp} {f : Str} {d : D} : ∀ {vs : List (Str × V)} {fs : List (Str × D)}, FReps K H vs fs → fs.lookup f = some d → ∃ v, vs.lookup f = some v ∧ Rep K H v d
  | _, _, .nil, h => by cases h
  | p :: vs, q :: fs, .cons ⟨e, r⟩ t, h => by
    obtain ⟨x, v⟩ := p
    obtain ⟨y, c⟩ := q
    dsimp only at e r
    subst e
    rw [List.lookup_cons] at h ⊢
    cases z : (f == x) with
    | true => rw [z] at h; cases h; exact ⟨v, rfl, r⟩
    | false => rw [z] at h; exact freps_look t h
theorem CaughtBy.vals {K : PySem.W.Frag} {H : Hp} {c1 c2 cls : Value} {fs : List (Str × D)} {vs : List (Str × V)} {w : Str} {d : D} (c : CaughtBy K c1 c2 cls fs w d) (r : FReps K H vs fs) : ∃ C v, cls = .ref C ∧ PySem.W.exmAny K (.ref C) [c1, c2] = some true ∧ XfC K C ∧ CaughtV K C vs w v ∧ Rep K H v d := by
  obtain ⟨C, e, h1, h2, h3, h4, h5⟩ := c
  obtain ⟨v0, l0, r0⟩ := freps_look r h3
  cases r0
  cases hF : fieldF w with
  | none =>
    rw [hF] at h5
    dsimp only at h5
    subst h5
    exact ⟨C, .non, e, h1, h2, ⟨l0, h4, rfl, by rw [hF]⟩, .non⟩
  | some f =>
    rw [hF] at h5
    obtain ⟨v, l, rv⟩ := freps_look r h5.1
    exact ⟨C, v, e, h1, h2, ⟨l0, h4, rep_good rv, by rw [hF]; exact ⟨l, h5.2⟩⟩, rv⟩
/-- the body of the law's try, up to places -/
def tryBody (p1 p2 p3 p4 p5 p6 p7 p8 p9 p10 p11 p12 p13 p14 p15 p16 p17 : Pos) (j k k2 k3 : Nat) : List Stmt :=
  [.Try [.Return (some (.Tuple [.Constant (.str "value") j p1, .Call (.Name "_law_ask" p2) [] [] p3] k p4)) p5]
    [.ExceptHandler (some (.Tuple [.Name "TurnError" p6, .Name "TurnMissing" p7] k2 p8)) (some "_law_e") [.Return (some (.Tuple [.Attribute (.Name "_law_e" p9) "word" p10, .Call (.Name "_law_field" p11) [.Name "_law_e" p12] [] p13] k3 p14)) p15] p16] [] [] p17]
/-- what the law's field reader reads -/
def FieldReads (P : Program) (w : World) (K : PySem.W.Frag) (mg : Str → Option Value) (base : Heap) (st : Stmt) : Prop := ∀ (f : Addr) (cd : Value) (A : Around) (outer : List Env) (s : Shared) (H : Hp) (a C dd : Addr) (oe : Obj) (vs : List (Str × V)) (wd : Str) (v : V) (M : Mem),
  Zc (.ref C) (some dd) oe → (∃ us, oe.data = .fields us) → XfC K C → CaughtV K C vs wd v → RoomH 1 (A.deeper (envOfC "_law_field" (defScope st) s.heap.objs.size f cd)) →
  ∃ t, DSs (cxH (L2.CX P w) P w K mg base ["_law_e"] "_law_field" (defScope st) f cd A outer s H (fun _ _ _ => False) (a, oe)) (fun _ _ _ _ => False) (defBody st) t ∧
    t { nx := fun _ _ => False, rt := fun d M' => d = dOf v ∧ MLe (mupd M dd (.oth (.xd vs))) M' } [some (.ref a)] (mupd M dd (.oth (.xd vs)))
section
variable {Y : Cx} {a C dd : Addr} {oe : Obj} {st : Stmt} {p p2 pos : Pos}
def tFld (K : PySem.W.Frag) (i : Nat) (a C dd : Addr) : TE := fun σ H Q => σ[i]? = some (some (.ref a)) ∧ ∃ M vs w v, Sim K H M ∧ H dd = some (.xd vs) ∧ CaughtV K C vs w v ∧ ∀ H', Sim K H' M → Tr H M H' M → Q v H'
theorem pe_fld {i : Nat} (hF : FieldReads Y.prog Y.w Y.K Y.mg Y.base st) (o : At Y.K Y.mg "_law_field" st) (B : Bd "_law_field" st ["_law_e"] 1 [] (fun us _ => us) (fun ds _ => ds)) (S : FnScope ["_law_e"] ["_law_e"] (defScope st)) (hp : (a, oe) ∈ Y.pn) (hz : Zc (.ref C) (some dd) oe) (hf : ∃ vs, oe.data = .fields vs) (T : XfC Y.K C) (hr : RoomH 2 Y.A)
    (he : PE Y (.Name "_law_e" p2) (tVar i)) (hg : Gl Y "_law_field" := by rfl) (hst : starEach [.Name "_law_e" p2] Y.env = (false, eval (.Name "_law_e" p2) Y.env) :: starEach [] Y.env := by rfl) (hpl : (backTo pos (starEach [] Y.env)).any (·.1) = false := by rfl) :
    PE Y (.Call (.Name "_law_field" p) [.Name "_law_e" p2] [] pos) (tFld Y.K i a C dd) := by
  obtain ⟨f, fd, F, hm⟩ := o.ex
  refine ⟨fun pins s σ H Q I ⟨h0, M, vs, w, v, sm, hx, hc, hq⟩ => ?_⟩
  refine wpAny_Call_Name_kw (ld_glob I hg hm ?_ (by decide))
  refine PySem.W.callWith_K (h₀ := Y.base) I.ok.mod.kin F.kp (thn ((pa_cons he pa_nil hst).run pos pins s σ H (fun us H1 => us = [.ref a] ∧ H1 = H) I ⟨.ref a, h0, rfl, rfl⟩) fun us s1 ⟨ws, H1, I1, r, e1, e2⟩ => ⟨I1.kIn, ?_⟩) hst hpl
  subst e1 e2
  cases r with
  | cons r1 r2 =>
  cases r2
  obtain rfl : _ = Value.ref a := r1
  refine run_hot (k := 1) hp F S (F.binds fun kV doc pm an cdv ct us hl => B.to kV doc pm an cdv ct us [] hl rfl) hr I1 fun cd A hr2 => ?_
  obtain ⟨t, h1, h2⟩ := hF f cd A Y.stack s1 H1 a C dd oe vs w v M hz hf T hc hr2
  refine ⟨_, h1, [some (.ref a)], _, _, .yes (.ref a) .nil, ?_, h2, ⟨fun _ _ z => z.elim, ?_, fun _ _ z => z.elim, fun _ _ z => z.elim, fun _ _ _ _ z => z.elim⟩⟩
  · intro b o e
    by_cases hb : b = dd
    · subst hb; rw [mupd_same] at e; cases e
      exact ⟨hx, (fun _ z => by cases z), (fun _ _ z => by cases z), (fun _ z => by cases z)⟩
    · rw [mupd_ne hb] at e; exact sm b o e
  · rintro d M' ⟨rfl, le⟩ u H' ru s' t'
    rw [dOf_uniq hc.2.2.1 ru]
    have mdd : ∀ o, M dd = some o → o = .oth (.xd vs) := fun o e => by
      have q := sm dd o e
      cases o with
      | lst ds => obtain ⟨vs, q, _⟩ := q; rw [hx] at q; cases q
      | ins C dx fs => obtain ⟨vs, q, _⟩ := q; rw [hx] at q; cases q
      | dk kvs => obtain ⟨vs, q, _⟩ := q; rw [hx] at q; cases q
      | tab nm => obtain ⟨vs, q, _⟩ := q; rw [hx] at q; cases q
      | lam L => obtain ⟨dV, c, q, _⟩ := q; rw [hx] at q; unfold LamO at q; cases q
      | oth o => obtain ⟨q, _⟩ := q; rw [hx] at q; cases q; rfl
    have at_ : H' dd = some (.xd vs) := (s' dd _ (le dd _ mupd_same)).1
    refine hq H' (s'.le fun b o e => ?_) ⟨t'.tup, t'.frz, fun _ _ _ n => n, fun b o e n ht => ?_, t'.tb, t'.dom⟩
    · by_cases hb : b = dd
      · subst hb; rw [mdd o e]; exact le _ _ mupd_same
      · exact le _ _ (by rw [mupd_ne hb]; exact e)
    · by_cases hb : b = dd
      · subst hb; rw [hx] at e; cases e; exact at_
      · exact t'.st b o e (by rw [mupd_ne hb]; exact n) ht
end
/-! ### the law's try, called -/
/-- the suite: (e.word, field(e)) -/
def tsTry (K : PySem.W.Frag) : Addr → Value → Option Addr → TS := fun a cls d D σ H => ∃ C dd, cls = .ref C ∧ d = some dd ∧ XfC K C ∧ σ[1]? = some (some (.ref a)) ∧ ∃ M vs w v, Sim K H M ∧ H dd = some (.xd vs) ∧ CaughtV K C vs w v ∧
  ∀ H' p, Sim K H' M → Tr H M H' M → H' p = none → D.rt (.ref p) (upd H' p (.tup [.str w, v]))
section
variable {Z : Cx} {a : Addr} {cls : Value} {d : Option Addr} {oe : Obj} {pn : List (Addr × Obj)} {st : Stmt} {p9 p10 p11 p12 p13 p14 p15 : Pos} {k3 : Nat}
theorem suite_try (hF : FieldReads Z.prog Z.w Z.K Z.mg Z.base st) (o : At Z.K Z.mg "_law_field" st) (B : Bd "_law_field" st ["_law_e"] 1 [] (fun us _ => us) (fun ds _ => ds)) (S : FnScope ["_law_e"] ["_law_e"] (defScope st)) (hz : Zc cls d oe) (hf : ∃ vs, oe.data = .fields vs) (hr : Room 2 Z.A)
    (hN : Z.N[1]? = some ("_law_e" : Str)) (hv : Z.env.scope.names.lookup ("_law_e" : Str) = some .local) (hg : Gl Z "_law_field")
    (hst : starEach [.Name "_law_e" p12] Z.env = (false, eval (.Name "_law_e" p12) Z.env) :: starEach [] Z.env := by rfl) (hpl : (backTo p13 (starEach [] Z.env)).any (·.1) = false := by rfl)
    (hs1 : starEach [.Attribute (.Name "_law_e" p9) "word" p10, .Call (.Name "_law_field" p11) [.Name "_law_e" p12] [] p13] Z.env = (false, eval (.Attribute (.Name "_law_e" p9) "word" p10) Z.env) :: starEach [.Call (.Name "_law_field" p11) [.Name "_law_e" p12] [] p13] Z.env := by rfl)
    (hs2 : starEach [.Call (.Name "_law_field" p11) [.Name "_law_e" p12] [] p13] Z.env = (false, eval (.Call (.Name "_law_field" p11) [.Name "_law_e" p12] [] p13) Z.env) :: starEach [] Z.env := by rfl)
    (hb : attributeBase (.Name "_law_e" p9) "word" Z.env (eval (.Name "_law_e" p9) Z.env) = eval (.Name "_law_e" p9) Z.env := by rfl) :
    PSs (Z.suite a ((a, oe) :: pn)) [.Return (some (.Tuple [.Attribute (.Name "_law_e" p9) "word" p10, .Call (.Name "_law_field" p11) [.Name "_law_e" p12] [] p13] k3 p14)) p15] (tsTry Z.K a cls d) := ⟨fun pins s σ H D I ⟨C, dd, e1, e2, T, h1, M, vs, w, v, sm, hx, hc, hq⟩ => by
  subst e1 e2
  have hp : (a, oe) ∈ (Z.suite a ((a, oe) :: pn)).pn := List.mem_cons_self
  have nm : ∀ {p : Pos}, PE (Z.suite a ((a, oe) :: pn)) (.Name "_law_e" p) (tVar 1) := pe_var hN (.inl hv) (by decide) (by decide)
  refine (pss_one (ps_ret (pe_tup (pa_cons (pe_xg hp hz hf T nm hb) (pa_cons (pe_fld (Y := Z.suite a ((a, oe) :: pn)) hF o B S hp hz hf T ⟨hr.dp, hr.un⟩ nm hg hst hpl) pa_nil hs2) hs1)))).run pins s σ H D I ?_
  refine ⟨.ref a, h1, rfl, hc.2.1, vs, .str w, hx, hc.1, h1, M, vs, w, v, sm, hx, hc, fun H' s' t' => ?_⟩
  exact ⟨by show 2 ≤ sizeLine; decide, fun p hp => hq H' p s' t' hp⟩⟩
end
section
variable {X : Cx} {W : WX} {st1 st2 : Stmt} {p pos : Pos} {c1 c2 : Value}
/-- _law_try(x), x a lambda of the running frame's -/
def tdTry (K : PySem.W.Frag) (c1 c2 : Value) (te : TDE) : DSt → Mem → (D → Mem → Prop) → Prop := fun ρ M Q => te ρ M (fun d M' => Q (.tup [.str "value", d]) M') (fun cls fs M' => ∃ w d, CaughtBy K c1 c2 cls fs w d ∧ Q (.tup [.str w, d]) M')
structure TryAt (P : Program) (w : World) (K : PySem.W.Frag) (mg : Str → Option Value) (base : Heap) (st1 st2 : Stmt) (c1 c2 : Value) : Prop where
  t : At K mg "_law_try" st1
  fl : At K mg "_law_field" st2
  n1 : mg "TurnError" = some c1
  n2 : mg "TurnMissing" = some c2
  bd1 : Bd "_law_try" st1 ["_law_ask"] 1 [] (fun us _ => us) (fun ds _ => ds)
  bd2 : Bd "_law_field" st2 ["_law_e"] 1 [] (fun us _ => us) (fun ds _ => ds)
  sc1 : FnScope ["_law_ask", "_law_e"] ["_law_ask"] (defScope st1)
  sc2 : FnScope ["_law_e"] ["_law_e"] (defScope st2)
  v1 : (defScope st1).names.lookup ("_law_ask" : Str) = some .local
  v2 : (defScope st1).names.lookup ("_law_e" : Str) = some .local
  g1 : (defScope st1).names.lookup ("TurnError" : Str) = some .globalImplicit
  g2 : (defScope st1).names.lookup ("TurnMissing" : Str) = some .globalImplicit
  g3 : (defScope st1).names.lookup ("_law_field" : Str) = some .globalImplicit
  body : ∃ p1 p2 p3 p4 p5 p6 p7 p8 p9 p10 p11 p12 p13 p14 p15 p16 p17 j k k2 k3, defBody st1 = tryBody p1 p2 p3 p4 p5 p6 p7 p8 p9 p10 p11 p12 p13 p14 p15 p16 p17 j k k2 k3
  rd : FieldReads P w K mg base st2
end
end TD

namespace TD
open PySem PySem.Spec PySem.W PyProof.Rows L2 L2H LamX
section
variable {X : Cx} {L : LInfo} {pins : List (Addr × Obj)} {σ : L2.St} {H : Hp} {s : Shared} {k : Nat} {te : TDE} {f c' g : Addr} {dV cd : Value}
/-- x(), x the parameter that holds the lambda -/
theorem pe_ask {N : List Str} {x a : Str} {sc : Scope} {pn : List (Addr × Obj)} {xe : Value → Shared → Prop} {W : WX} {p1 p2 : Pos} {Eg : XK} (I : Inv X pins σ H s) (S : LamS2 X.env.scope L.scope X.N) (C : LCl X L) (hp : LPar L) (hf : H f = some (LamO f L dV c')) (hc : H c' = some (CodeO c' L.qual))
    (hdv : (L.dfl = none ∧ dV = .none) ∨ ∃ i dt, L.dfl = some i ∧ dV = .ref dt ∧ H dt = some (.tup [.int i])) (hr : Room (k + 1) (X.A.deeper (envOfC x sc s.heap.objs.size g cd))) (tk : Takes ((cxOf (L2.CX X.prog X.w) X.prog X.w X.K X.mg X.base N x sc g cd X.A X.stack s H Eg).tr pn xe) W)
    (hbody : ∀ (A : Around) (outer : List Env) (s : Shared) (H : Hp) (E : XK) (f c' : Addr), Room k (A.deeper (envX L.qual L.scope s.heap.objs.size f (.ref c') L.cl)) → DE (lcx X L A outer s H E f c') (Wd E) L.body te) (hN : N[0]? = some a) (hv : sc.names.lookup a = some .local) (hd : (a == ("__debug__" : Str)) = false) (hcd : (a == ("__classdict__" : Str)) = false) :
    PE ((cxOf (L2.CX X.prog X.w) X.prog X.w X.K X.mg X.base N x sc g cd X.A X.stack s H Eg).tr pn xe) (.Call (.Name a p1) [] [] p2) (fun σZ HZ Q => σZ[0]? = some (some (.ref f)) ∧ HZ = H ∧ ∃ E' : XK, (∀ cls d H', E' cls d H' → W cls d σZ H') ∧ upE X.K (Wd E') te σ H Q) := ⟨fun pinsZ sZ σZ HZ Q IZ ⟨h0, eH, E', hW, ht⟩ => by
  refine wpAny_Call_Name_kw (thn ((pe_var (pos := p1) (i := 0) hN (.inl hv) hd hcd).run pinsZ sZ σZ HZ (fun v H1 => v = .ref f ∧ H1 = H) IZ ⟨.ref f, h0, rfl, eH⟩) fun u s1 ⟨v, H1, I1, r1, e1, e2⟩ => ?_)
  subst e1
  rw [e2] at I1
  obtain rfl : u = Value.ref f := r1
  obtain ⟨⟨pm, ctv, of1⟩, _⟩ := I1.hok f _ hf
  refine PySem.W.callWith_F0 ⟨_, _, _, _, of1⟩ ?_
  have rc := lam_run (A := X.A.deeper (envOfC x sc s.heap.objs.size g cd)) (outer := envOfC x sc s.heap.objs.size g cd :: X.stack) (E := E') (Q := Q) I S C hp hf hc hdv I1.env0 hr I1.base I1.nolimit (fun h => hbody _ _ _ _ _ _ _ h) ht
  refine wpAny_call (codeAny_mono rc fun r s' hq => ?_)
  cases r with
  | error e => exact tk e s' (XE.of_call I1 hW hq)
  | ok fl =>
    cases fl with
    | ret u => exact I1.after hq
    | _ => exact hq.elim⟩
end
section
variable {X : Cx} {W : WX} {st1 st2 : Stmt} {p pos : Pos} {c1 c2 : Value} {k : Nat} {ι : Type} {L : ι → LInfo} {te : ι → TDE} {arg : Expr} {ta : TDE}
def tdTryL (K : PySem.W.Frag) (c1 c2 : Value) (L : ι → LInfo) (te : ι → TDE) (ta : TDE) : TDE := fun ρ M Q E => ta ρ M (fun d M1 => ∃ i f, d = .ref f ∧ M1 f = some (.lam (L i)) ∧ tdTry K c1 c2 (te i) ρ M1 Q) E
theorem sim_lam {K : PySem.W.Frag} {H : Hp} {M : Mem} {f : Addr} {L : LInfo} (s : Sim K H M) (h : M f = some (.lam L)) : LamAt H f L := s f _ h
/-- _law_try called with the lambda at f; X: the frame that made it and that calls -/
theorem try_code {pins : List (Addr × Obj)} {σ : L2.St} {H1 : Hp} {s1 : Shared} {ρ : DSt} {M1 : Mem} {Q0 : D → Mem → Prop} {Q : VK} {L : LInfo} {te : TDE} {f g : Addr} {oc kV doc pm cdv ct : Value} {od an : Option Addr} {osl : Array (Option Value)} (T : TryAt X.prog X.w X.K X.mg X.base st1 st2 c1 c2) (hr : Room (k + 6) X.A)
    (lk : X.K.lookup g = some ⟨oc, od, .func (PySem.W.fnOf "_law_try" "_law_try" (defArgs st1) (defBody st1) (defScope st1) .none kV doc pm an cdv ct), osl⟩) (hcd : PySem.W.codeIn X.K cdv "_law_try" = true)
    (I1 : Inv X pins σ H1 s1) (S : LamS2 X.env.scope L.scope X.N) (C : LCl X L) (hp : LPar L)
    (hbody : ∀ (A : Around) (outer : List Env) (s : Shared) (H : Hp) (E : XK) (f c' : Addr), Room k (A.deeper (envX L.qual L.scope s.heap.objs.size f (.ref c') L.cl)) → DE (lcx X L A outer s H E f c') (Wd E) L.body te)
    (dv1 : DvL X.K H1 σ ρ) (sm1 : Sim X.K H1 M1) (hf : M1 f = some (.lam L)) (q1 : tdTry X.K c1 c2 te ρ M1 Q0) (hq : qUp X.K H1 M1 Q0 Q) :
    codeAny (model X.prog X.w) X.A (.call (.ref g) ⟨[.ref f], []⟩) (CR (L2.CX X.prog X.w) X.stack X.prog X.w H1 s1 Q (fun _ _ _ => False)) s1 := by
  obtain ⟨p1, p2, p3, p4, p5, p6, p7, p8, p9, p10, p11, p12, p13, p14, p15, p16, p17, j, k1, k2, k3, hB⟩ := T.body
  obtain ⟨dV, c', hf', hc', hdv⟩ := sim_lam sm1 hf
  refine run_ofS (N := ["_law_ask", "_law_e"]) (ps := ["_law_ask"]) (us := [.ref f]) (vs := [.ref f]) lk hcd T.sc1 (hr.mono (by omega : 5 + 1 ≤ k + 6)) I1.env0 (.of_eq (T.bd1.to kV doc pm an cdv ct [.ref f] [] rfl rfl)) (.cons rfl .nil) rfl fun _ => ?_
  rw [hB]
  let Z : Cx := cxOf (L2.CX X.prog X.w) X.prog X.w X.K X.mg X.base ["_law_ask", "_law_e"] "_law_try" (defScope st1) g cdv X.A X.stack s1 H1 (fun _ _ _ => False)
  have hrZ : Room (k + 5) Z.A := hr.deeper _
  have act : ∀ (W : WX) (pn : List (Addr × Obj)) (xe : Value → Shared → Prop), Takes (Z.tr pn xe) W → PE (Z.tr pn xe) (.Call (.Name "_law_ask" p2) [] [] p3) (fun σZ HZ Q => σZ[0]? = some (some (.ref f)) ∧ HZ = H1 ∧ ∃ E' : XK, (∀ cls d H', E' cls d H' → W cls d σZ H') ∧ upE X.K (Wd E') te σ H1 Q) := fun W pn xe tk =>
    pe_ask I1 S C hp hf' hc' hdv (hrZ.mono (by omega)) tk hbody rfl T.v1 (by decide) (by decide)
  refine ⟨_, pss_one (try_as2 (X := Z) (i := 1) (Wout := fun _ _ _ _ => False) (ts := tsTry X.K) rfl rfl T.sc1.nd rfl T.v2 ⟨T.g1, by decide, .inl T.n1⟩ ⟨T.g2, by decide, .inl T.n2⟩ L2.takes0 (fun W pn xe tk _ => pss_one (ps_ret (pe_tup (pa_cons pe_str (pa_cons (act W pn xe tk) pa_nil)))))
    (fun a oe cls d pn hz hf => suite_try (Z := Z) T.rd T.fl T.bd2 T.sc2 hz hf (hrZ.mono (by omega)) rfl T.v2 T.g3)), ?_⟩
  refine ⟨rfl, rfl, fun cls d H' => wAs2 X.K c1 c2 1 (tsTry X.K) (fun _ _ _ _ => False) { nx := fun _ H' => Q .non H', rt := Q } cls d (L2.start ["_law_ask", "_law_e"] [.ref f]) H', fun _ _ _ h => h, ρ, M1, _, _, dv1, sm1, q1, fun d M2 q2 v H2 r2 s2 t2 => ?_, fun cls fs M2 ⟨w, d, cb, q2⟩ od H2 x2 s2 t2 => ?_⟩
  · refine ⟨by show 2 ≤ sizeLine; decide, fun p hp => ?_⟩
    have t3 : Tr H2 M2 (upd H2 p (.tup [.str "value", v])) M2 := Tr.new hp
    exact hq _ _ q2 _ _ (.tup (SqT.of upd_same) (.cons (.str _) (.cons (r2.mono t3) .nil))) (s2.new hp) (t2.trans t3)
  · rcases x2 with ⟨rfl, rfl⟩ | ⟨dx, vs, rfl, hx, fr⟩
    · obtain ⟨C, _, _, _, z, _⟩ := cb; cases z
    obtain ⟨C, v, rfl, e1, T1, cv, rv⟩ := cb.vals fr
    refine ⟨true, e1, fun _ a ha => ?_, fun z => by cases z⟩
    refine ⟨C, dx, rfl, rfl, T1, rfl, M2, vs, w, v, s2, hx, cv, fun H3 p s3 t3 hp => ?_⟩
    have t4 : Tr H3 M2 (upd H3 p (.tup [.str w, v])) M2 := Tr.new hp
    exact hq _ _ q2 _ _ (.tup (SqT.of upd_same) (.cons (.str _) (.cons ((rv.mono t3).mono t4) .nil))) (s3.new hp) ((t2.trans t3).trans t4)
theorem d_try (T : TryAt X.prog X.w X.K X.mg X.base st1 st2 c1 c2) (hr : Room (k + 6) X.A) (ha : DE X W arg ta) (S : ∀ i, LamS2 X.env.scope (L i).scope X.N) (C : X.Ok → ∀ i, LCl X (L i)) (hp : ∀ i, LPar (L i))
    (hbody : ∀ i (A : Around) (outer : List Env) (s : Shared) (H : Hp) (E : XK) (f c' : Addr), Room k (A.deeper (envX (L i).qual (L i).scope s.heap.objs.size f (.ref c') (L i).cl)) → DE (lcx X (L i) A outer s H E f c') (Wd E) (L i).body (te i)) (hg : Gl X "_law_try" := by rfl)
    (hst : starEach [arg] X.env = (false, eval arg X.env) :: starEach [] X.env := by rfl) (hpl : (backTo pos (starEach [] X.env)).any (·.1) = false := by rfl) :
    DE X W (.Call (.Name "_law_try" p) [arg] [] pos) (tdTryL X.K c1 c2 L te ta) := ⟨fun pins s σ H Q I ⟨ρ, M, Q0, E0, dv, sm, q, hq, hw⟩ => by
  obtain ⟨g, fd, F, hm⟩ := T.t.ex
  obtain ⟨oc, od, kV, doc, pm, an, cdv, ct, osl, rfl, lk, hcd⟩ := F.ex
  refine wpAny_Call_Name_kw (ld_glob I hg hm ?_ (by decide))
  refine PySem.W.callWith_K (h₀ := X.base) I.ok.mod.kin F.kp (thn ((pa_cons ha pa_nil hst).run pos pins s σ H (fun vs H1 => ∃ i f M1, vs = [.ref f] ∧ DvL X.K H1 σ ρ ∧ Sim X.K H1 M1 ∧ Tr H M H1 M1 ∧ M1 f = some (.lam (L i)) ∧ tdTry X.K c1 c2 (te i) ρ M1 Q0) I ⟨ρ, M, _, E0, dv, sm, q, fun d M1 ⟨i, f, e, hf, q1⟩ v H1 r1 s1 t1 => ?_, hw⟩) fun us s1 ⟨vs, H1, I1, r, i, f, M1, ev, dv1, sm1, t1, hf, q1⟩ => ⟨I1.kIn, ?_⟩) hst hpl
  · subst e; cases r1; exact ⟨i, f, M1, rfl, dv.mono t1, s1, t1, hf, q1⟩
  subst ev
  obtain rfl : us = [.ref f] := by
    cases r with
    | cons r1 r2 => cases r2; cases r1; rfl
  refine wpAny_call (codeAny_mono (try_code T hr lk hcd I1 (S i) (C I1.ok i) (hp i) (hbody i) dv1 sm1 hf q1 (hq.mono t1)) fun r s' hq => ?_)
  cases r with
  | error e => obtain ⟨_, _, _, _, _, _, _, _, _, _, _, _, z⟩ := hq; exact z.elim
  | ok fl =>
    cases fl with
    | ret u => exact I1.after hq
    | _ => exact hq.elim⟩
end
end TD

namespace TD
open PySem PySem.Spec PySem.W PyProof.Rows L2 L2H LamX
/-! ### the def that makes lambdas -/
/-- the def stands there, its code object at c -/
structure AtC (K : PySem.W.Frag) (mg : Str → Option Value) (x : Str) (st : Stmt) (c : Addr) : Prop where
  ex : ∃ f fd, L2.Fun K x x st f fd ∧ mg x = some (.ref f) ∧ fd.code = .ref c
theorem AtC.at {K : PySem.W.Frag} {mg : Str → Option Value} {x : Str} {st : Stmt} {c : Addr} (a : AtC K mg x st c) : At K mg x st := let ⟨f, fd, h1, h2, _⟩ := a.ex; ⟨f, fd, h1, h2⟩
theorem ok_ofC {P : Program} {w : World} {K : PySem.W.Frag} {mg : Str → Option Value} {base : Heap} {x : Str} {st : Stmt} {k : Nat} {ps : List Str} {spd : SpD} {c : Addr} (a : AtC K mg x st c) {N : List Str} (S : FnScope N ps (defScope st)) (m : Nat) (hm' : N.length - ps.length = m) (len : ∀ ds M Q E, spd ds M Q E → ds.length = ps.length)
    (body : ∀ (f : Addr) (A : Around) (outer : List Env) (s : Shared) (H : Hp) (E : XK), Room k (Xd P w K mg base N x (defScope st) f (.ref c) A outer s H E).A →
      ∃ td, DSs (Xd P w K mg base N x (defScope st) f (.ref c) A outer s H E) (Wd E) (defBody st) td ∧ ∀ ds M Q E, spd ds M Q E → td (dEnds Q E) (ds.map some ++ List.replicate m none) M) : Ok P w K mg base x st (k + 1) ps spd := by
  subst hm'
  obtain ⟨f, fd, F, hm, hcode⟩ := a.ex
  obtain ⟨oc, od, kV, doc, pm, an, cdv, ct, osl, rfl, lk, hcd⟩ := id F.ex
  obtain rfl : cdv = .ref c := hcode
  refine ⟨f, _, F, hm, fn_of lk hcd S (fun vs H Q E ⟨ds, M, Q0, E0, r, s, q, _⟩ => r.length.trans (len _ _ _ _ q)) fun A outer s H vs Q E hr ⟨ds, M, Q0, E0, r, sm, q, hq, he⟩ => ?_⟩
  obtain ⟨td, h1, h2⟩ := body f A outer s H E hr
  refine ⟨_, h1, ds.map some ++ List.replicate (N.length - ps.length) none, M, dEnds Q0 E0, ?_, sm, h2 ds M Q0 E0 q, ⟨?_, ?_, fun _ _ z => z.elim, fun _ _ z => z.elim, ?_⟩⟩
  · have e : (L2.start N vs) = vs.map some ++ List.replicate (N.length - ps.length) none := by unfold L2.start; rw [r.length, len _ _ _ _ q]
    rw [e]
    exact DvL.start r _
  · rintro ρ' M' ⟨M0, le, h⟩ σ' H' dv' s' t'; exact hq _ _ h _ H' .non (s'.le le) (t'.le le)
  · rintro d M' ⟨M0, le, h⟩ v H' r' s' t'; exact hq _ _ h _ H' r' (s'.le le) (t'.le le)
  · rintro c g ρ' M' ⟨M0, le, h⟩ od σ' H' x dv' s' t'; exact he _ _ _ h od H' x (s'.le le) (t'.le le)
theorem lcx_takes {X : Cx} {L : LInfo} {A : Around} {outer : List Env} {s : Shared} {H : Hp} {E : XK} {f c' : Addr} : Takes (lcx X L A outer s H E f c') (Wd E) := L2.takes_of rfl rfl rfl rfl
/-! ### _law_try(lambda: e) -/
section
variable {X : Cx} {W : WX} {c P : Addr} {nm : Nat → Nat → Str} {lpos p pos : Pos} {params : Arguments} {body : Expr} {scope : Scope} {st1 st2 : Stmt} {c1 c2 : Value} {te : TDE} {k : Nat}
@[irreducible] def tdTryLam (K : PySem.W.Frag) (P : Addr) (nm : Nat → Nat → Str) (L : LInfo) (c1 c2 : Value) (te : TDE) (ρ : DSt) (M : Mem) (Q : D → Mem → Prop) : Prop := M P = some (.tab nm) ∧ ∀ f, M f = none → tdTry K c1 c2 te ρ (mupd M f (.lam L)) Q
theorem tryLam_i {K : PySem.W.Frag} {L : LInfo} {ρ : DSt} {M : Mem} {Q : D → Mem → Prop} (h1 : M P = some (.tab nm)) (h2 : ∀ f, M f = none → te ρ (mupd M f (.lam L)) (fun d M' => Q (.tup [.str "value", d]) M') (fun cls fs M' => ∃ w d, CaughtBy K c1 c2 cls fs w d ∧ Q (.tup [.str w, d]) M')) : tdTryLam K P nm L c1 c2 te ρ M Q := by
  unfold tdTryLam
  exact ⟨h1, h2⟩
/-- for d_try: where the argument is a lambda -/
def tdTL (K : PySem.W.Frag) (P : Addr) (nm : Nat → Nat → Str) (L : LInfo) (c1 c2 : Value) (te : TDE) : TDE := fun ρ M Q _ => tdTryLam K P nm L c1 c2 te ρ M Q
theorem d_tryLam (T : TryAt X.prog X.w X.K X.mg X.base st1 st2 c1 c2) (TB : TabB X.base X.mg c P) (hcode : X.env.code = .ref c) (hn : nm lpos.line lpos.col = X.env.qual ++ "<lambda>") (hr : Room (k + 6) X.A) (S : LamS2 X.env.scope scope X.N) (hb0 : ∀ (pm ctv : Value) (c : Addr), bindArgs (lamFd (lamI X params body scope none) .none pm ctv c) ⟨[], []⟩ = pure [])
    (hbody : ∀ (A : Around) (outer : List Env) (s : Shared) (H : Hp) (E : XK) (f c' : Addr), Room k (lcx X (lamI X params body scope none) A outer s H E f c').A → DE (lcx X (lamI X params body scope none) A outer s H E f c') (Wd E) body te) (hdef : defaultsOf params X.env = ([], []) := by rfl) (hg : Gl X "_law_try" := by rfl)
    (hst : starEach [.Lambda params body scope lpos] X.env = (false, eval (.Lambda params body scope lpos) X.env) :: starEach [] X.env := by rfl) (hpl : (backTo pos (starEach [] X.env)).any (·.1) = false := by rfl) :
    DE X W (.Call (.Name "_law_try" p) [.Lambda params body scope lpos] [] pos) (tdTL X.K P nm (lamI X params body scope none) c1 c2 te) :=
  PE.imp (d_try (W := W) (ι := Unit) (L := fun _ => lamI X params body scope none) (te := fun _ => te) T hr (d_lam0 TB hcode hn S.free hdef) (fun _ => S) (fun ok _ => lcl_made ok S rfl) (fun _ => ⟨fun _ => hb0, fun i h => by cases h⟩) (fun _ => hbody) hg hst hpl) fun σ H Q ⟨ρ, M, Q0, E0, dv, sm, q, hq, hw⟩ => by
    unfold tdTL tdTryLam at q
    exact ⟨ρ, M, Q0, E0, dv, sm, ⟨q.1, fun f hf => ⟨(), f, rfl, mupd_same, q.2 f hf⟩⟩, hq, hw⟩
end
end TD

namespace TD
open PySem PySem.Spec PySem.W PyProof.Rows L2 L2H LamX
/-! ### the law's end, where the law makes lambdas -/
/-- the script: a list of ints -/
def Scr (M : Mem) (d : D) (ns : List Int) : Prop := d = .rol (ns.map D.int) ∨ ∃ a, d = .ref a ∧ M a = some (.lst (ns.map D.int))
theorem Scr.qof {M : Mem} {d : D} {ns : List Int} {k : List D → Mem → Prop} (h : Scr M d ns) (q : k (ns.map D.int) M) : rdQof d M k := by
  rcases h with rfl | ⟨a, rfl, e⟩
  · exact qof_r q
  · exact qof_l e q
theorem Scr.sl {M : Mem} {d : D} {ns : List Int} {l u : Option Int} {Q : D → Mem → Prop} (h : Scr M d ns) (q : ∀ p, M p = none → Q (.ref p) (mupd M p (.lst (cutD (ns.map D.int) l u)))) : rdSl d l u M Q := by
  rcases h with rfl | ⟨a, rfl, e⟩
  · exact sl_r q
  · exact sl_l e q
def spLawT (P : Addr) (nm : Nat → Nat → Str) : SpD := fun ds M Q _ => ∃ (ns : List Int) (d : D), ds = [d] ∧ Scr M d ns ∧ ns.length ≤ 63 ∧ M P = some (.tab nm) ∧ ∀ M', Q (.bl true) M'
/-- what the text says of the law's def -/
structure LawC (K : PySem.W.Frag) (fa c P : Addr) (fd : FuncData) : Prop where
  fn : ∃ o, K.lookup fa = some o ∧ o.data = .func fd
  code : fd.code = .ref c
  hd : PySem.W.codeHdIn K c P = true
  no : K.lookup P = none
theorem codeHd_vs {K : PySem.W.Frag} {c P : Addr} (h : PySem.W.codeHdIn K c P = true) : ∃ e dd vs sl, K.lookup c = some ⟨e, dd, .fields vs, sl⟩ ∧ vs[11]? = some (.ref P) := by
  unfold PySem.W.codeHdIn at h
  split at h
  · rename_i dd vs sl hk
    simp only [Bool.and_eq_true] at h
    obtain ⟨⟨⟨⟨⟨e1, _⟩, _⟩, _⟩, _⟩, _⟩ := h
    split at e1
    · rename_i P' h11
      obtain rfl := beq_iff_eq.mp e1
      exact ⟨_, _, _, _, hk, h11⟩
    · cases e1
  · cases h
theorem walk_lawT {l : PySem.W.OpenLaw} {k : Nat} {q : Program} {loose : List Str} {XP : (Str → Option Value) → Heap → Prop} {YP : World → Heap → Prop} {d : DefRec} {K : Params → PySem.W.Frag} {x : Str} {nm : Nat → Nat → Str} (hn : l.most = some 63) (hdf : d.params.defaults = []) (hr : Room k callerA)
    (hrec : ((recsOf q).any fun e => e.name == d.name) = true) (hY : ∀ (w : World) (h : Heap), YP w h → (K w.params).In h)
    (F : ∀ (w : World) (mg : Str → Option Value) (fa : Addr) (h : Heap), (K w.params).In h → h.Ns mainGlobals mg → mg d.name = some (.ref fa) →
      ∃ (c P : Addr) (fd : FuncData), LawC (K w.params) fa c P fd ∧ (∀ (s : Shared) (u : Value), BindsTo s fd ⟨[u], []⟩ [(x, u)]) ∧ ∀ base : Heap, (K w.params).In base → base.Ns mainGlobals mg → TabB base mg c P → FnOk l.prog w (K w.params) mg base (L2.CX l.prog w) k fa fd [x] (upF (K w.params) (spLawT P nm))) :
    PySem.W.WalkO q loose XP YP l.row.toRowW d [] (fun f vs => PySem.call f vs) := by
  refine walk_ofOwn (n := 63) (k := k) (x := x) (CX := fun w => L2.CX l.prog w) hn (by decide) hdf hr hrec hY (fun w mg fa h Y KX hns hmg own => ?_) fun w H s e s' ⟨_, _, _, _, _, _, _, _, _, _, _, _, z⟩ => z
  obtain ⟨c, P, fd, L, hb, hF⟩ := F w mg fa h KX hns hmg
  obtain ⟨o, ho, hd⟩ := L.fn
  obtain ⟨e, dd, vs, sl, k4, k5⟩ := codeHd_vs L.hd
  have one : ∀ {R : Addr × Addr → Prop}, R (c, P) → ∀ p ∈ [(c, P)], R p := fun r p hp => by
    rw [List.mem_singleton.mp hp]; exact r
  refine ⟨fd, [(c, P)], upF (K w.params) (spLawT P nm), one (own c P o fd e dd vs sl ho hd L.code k4 k5), one L.no, one (PySem.W.codeHd_of_K KX L.hd), hb, fun H a ns hl _ hT hS => ?_, fun base h1 h2 h3 => hF base h1 h2 (h3 _ List.mem_cons_self)⟩
  have hP : H P = some (.tbl #[]) := hT (c, P) List.mem_cons_self
  have tn : NdefX.TabN H P nm := NdefX.TabN.nil hP
  have out : ∀ (d : D) (M' : Mem), (d = D.bl true) → ∀ (v : V) (H' : Hp), Rep (K w.params) H' v d → v = .bl true := fun d M' e v H' r => by subst e; cases r; rfl
  by_cases hl0 : H a = some (.lst (ns.map V.int))
  · have hne : a ≠ P := fun z => by rw [z, hP] at hl0; cases hl0
    refine ⟨[.ref a], mupd (mupd (fun _ => none) P (.tab nm)) a (.lst (ns.map D.int)), fun d _ => d = .bl true, fun _ _ _ => False, .cons (.ref a) .nil, fun b o e => ?_, ⟨ns, _, rfl, .inr ⟨a, rfl, mupd_same⟩, hl, by rw [mupd_ne hne.symm, mupd_same], fun _ => rfl⟩, fun d M' e v H' r _ _ => out d M' e v H' r, fun c f M' h => h.elim⟩
    by_cases hb : b = a
    · subst hb; rw [mupd_same] at e; cases e; exact ⟨_, hl0, reps_ints ns⟩
    · rw [mupd_ne hb] at e
      by_cases hp : b = P
      · subst hp; rw [mupd_same] at e; cases e; exact tn
      · rw [mupd_ne hp] at e; cases e
  · have hR : SqLR (K w.params) H a (ns.map V.int) := by
      rcases hS with (h | ⟨o, h⟩) | h
      · exact absurd h hl0
      · exact .inl ⟨o, h⟩
      · exact .inr (.inr h)
    refine ⟨[.rol (ns.map D.int)], mupd (fun _ => none) P (.tab nm), fun d _ => d = .bl true, fun _ _ _ => False, .cons (.rol hR (reps_ints ns)) .nil, fun b o e => ?_, ⟨ns, _, rfl, .inl rfl, hl, mupd_same, fun _ => rfl⟩, fun d M' e v H' r _ _ => out d M' e v H' r, fun c f M' h => h.elim⟩
    by_cases hp : b = P
    · subst hp; rw [mupd_same] at e; cases e; exact tn
    · rw [mupd_ne hp] at e; cases e
/-- the law's def, handed to walk_lawT -/
theorem law_fdT {P : Program} {w : World} {K : PySem.W.Frag} {mg : Str → Option Value} {x y : Str} {st : Stmt} {k : Nat} {fa c P' : Addr} {nm : Nat → Nat → Str} (a : AtC K mg x st c) (hd : PySem.W.codeHdIn K c P' = true) (no : K.lookup P' = none) (hfa : mg x = some (.ref fa)) (B : Bd x st [y] 1 [] (fun us _ => us) (fun ds _ => ds))
    (o : ∀ base : Heap, K.In base → base.Ns mainGlobals mg → TabB base mg c P' → Ok P w K mg base x st k [y] (spLawT P' nm)) : ∃ (c P' : Addr) (fd : FuncData), LawC K fa c P' fd ∧ (∀ (s : Shared) (u : Value), BindsTo s fd ⟨[u], []⟩ [(y, u)]) ∧ ∀ base : Heap, K.In base → base.Ns mainGlobals mg → TabB base mg c P' → FnOk P w K mg base (L2.CX P w) k fa fd [y] (upF K (spLawT P' nm)) := by
  obtain ⟨f, fd, F, hm, hc⟩ := a.ex
  rw [hfa] at hm
  cases hm
  obtain ⟨oc, od, kV, doc, pm, an, cdv, ct, osl, rfl, lk, hcd⟩ := id F.ex
  refine ⟨c, P', _, ⟨⟨_, lk, rfl⟩, hc, hd, no⟩, fun s u => .of_eq (B.to kV doc pm an cdv ct [u] [] rfl rfl), fun base h1 h2 h3 => ?_⟩
  obtain ⟨f2, fd2, F2, hm2, G⟩ := (o base h1 h2 h3).ex
  rw [hfa] at hm2
  cases hm2
  rw [fun_uniq F F2]
  exact G
theorem atC_mk {K : PySem.W.Frag} {mg : Str → Option Value} {h : Heap} {x : Str} {st : Stmt} {f c : Addr} {oc : Value} {od an : Option Addr} {osl : Array (Option Value)} {kV doc pm ct : Value} (X : K.In h) (G : h.Ns mainGlobals mg) (a : PySem.W.nsIn K mainGlobals x = some (some (.ref f)))
    (l : K.lookup f = some ⟨oc, od, .func (PySem.W.fnOf x x (defArgs st) (defBody st) (defScope st) .none kV doc pm an (.ref c) ct), osl⟩) (cd : PySem.W.codeIn K (.ref c) x = true) (k : PySem.W.keepIn K (.ref f) = true) : AtC K mg x st c := ⟨_, _, fun_mk l cd k, PySem.W.mg_of X G a, rfl⟩

/-! ### own errors: what the text says of them -/
theorem c_eqH {X : Cx} {k : Nat} (hr : RoomH k X.A) : CmpD X .Eq (rdEq false) := ⟨_, op_eqP (by have := hr.un; omega), l_eq' false⟩
structure ErrC (K : PySem.W.Frag) (mg : Str → Option Value) (c1 c2 : Value) (x : Str) (fo : Option Str) : Prop where
  ex : ∃ C, mg x = some (.ref C) ∧ PySem.W.exmAny K (.ref C) [c1, c2] = some true ∧ XfC K C ∧ PySem.W.findIn K (.ref C) "word" = some none ∧ ∀ f, fo = some f → PySem.W.findIn K (.ref C) f = some none
theorem ErrC.by0 {K : PySem.W.Frag} {mg : Str → Option Value} {c1 c2 cls : Value} {x wd : Str} {fo : Option Str} (e : ErrC K mg c1 c2 x fo) (h : fieldF wd = none) (hm : mg x = some cls) : CaughtBy K c1 c2 cls [("word", .str wd)] wd .non := by
  obtain ⟨C, h1, h2, h3, h4, _⟩ := e.ex
  rw [hm] at h1; cases h1
  exact ⟨C, rfl, h2, h3, by simp [List.lookup], h4, by rw [h]⟩
theorem ErrC.by1 {K : PySem.W.Frag} {mg : Str → Option Value} {c1 c2 cls : Value} {x wd f : Str} {d : D} (e : ErrC K mg c1 c2 x (some f)) (h : fieldF wd = some f) (hn : (("word" : Str) == f) = false) (hm : mg x = some cls) : CaughtBy K c1 c2 cls [(f, d), ("word", .str wd)] wd d := by
  obtain ⟨C, h1, h2, h3, h4, h5⟩ := e.ex
  rw [hm] at h1; cases h1
  exact ⟨C, rfl, h2, h3, by simp [List.lookup, hn], h4, by rw [h]; exact ⟨by simp [List.lookup], h5 f rfl⟩⟩
/-- the class, one of the two that the law catches -/
theorem exm_mk {K : PySem.W.Frag} {C T1 T2 : Addr} {b1 b2 : Bool} (h : (b1 || (b2 || false)) = true) (k1 : PySem.W.subIn K (.ref T1) (.type "BaseException") = some true) (k2 : PySem.W.isClsIn K T1 = true) (k3 : PySem.W.typeIn K (.ref T1) = some (.type "type")) (k4 : PySem.W.subIn K (.ref C) (.ref T1) = some b1)
    (m1 : PySem.W.subIn K (.ref T2) (.type "BaseException") = some true) (m2 : PySem.W.isClsIn K T2 = true) (m3 : PySem.W.typeIn K (.ref T2) = some (.type "type")) (m4 : PySem.W.subIn K (.ref C) (.ref T2) = some b2) : PySem.W.exmAny K (.ref C) [.ref T1, .ref T2] = some true := by
  have one : ∀ {S : Addr} {b : Bool}, PySem.W.subIn K (.ref S) (.type "BaseException") = some true → PySem.W.isClsIn K S = true → PySem.W.typeIn K (.ref S) = some (.type "type") → PySem.W.subIn K (.ref C) (.ref S) = some b → PySem.W.exmOne K (.ref C) (.ref S) = some b := fun {S b} h1 h2 h3 h4 => by
    have e1 : (PySem.W.subIn K (.ref S) (.type "BaseException") == some true) = true := by rw [h1] <;> rfl
    have e2 : ((PySem.W.clsIn K S).isSome && PySem.W.typeIn K (.ref S) == some (.type "type")) = true := by
      have h2' : (PySem.W.clsIn K S).isSome = true := h2
      rw [h2', h3] <;> rfl
    unfold PySem.W.exmOne PySem.W.kitCls
    rw [if_pos e1]
    dsimp only
    rw [if_pos e2]
    exact h4
  unfold PySem.W.exmAny PySem.W.exmAny PySem.W.exmAny
  rw [one k1 k2 k3 k4, one m1 m2 m3 m4]
  exact congrArg some h
/-- the text of an own __init__: the word alone -/
structure Ini0 (st : Stmt) (q wd s1 : Str) : Prop where
  sc : FnScope [s1] [s1] (defScope st)
  vis : Vis (defScope st) s1
  nd : (s1 == ("__debug__" : Str)) = false
  nc : (s1 == ("__classdict__" : Str)) = false
  bd : ∀ (kV doc pm : Value) (an : Option Addr) (cdv ct : Value) (us : List Value), us.length = 1 → bindArgs (PySem.W.fnOf "__init__" q (defArgs st) (defBody st) (defScope st) .none kV doc pm an cdv ct) ⟨us, []⟩ = pure ([s1].zip us)
  body : ∃ p1 p2 p3 p4 j, defBody st = [.Assign [.Attribute (.Name s1 p1) "word" p2] (.Constant (.str wd) j p3) p4]
/-- .. the word and a field -/
structure Ini1 (st : Stmt) (q wd f s1 s2 : Str) : Prop where
  sc : FnScope [s1, s2] [s1, s2] (defScope st)
  vis : Vis (defScope st) s1
  nd : (s1 == ("__debug__" : Str)) = false
  nc : (s1 == ("__classdict__" : Str)) = false
  vis2 : Vis (defScope st) s2
  nd2 : (s2 == ("__debug__" : Str)) = false
  nc2 : (s2 == ("__classdict__" : Str)) = false
  bd : ∀ (kV doc pm : Value) (an : Option Addr) (cdv ct : Value) (us : List Value), us.length = 2 → bindArgs (PySem.W.fnOf "__init__" q (defArgs st) (defBody st) (defScope st) .none kV doc pm an cdv ct) ⟨us, []⟩ = pure ([s1, s2].zip us)
  body : ∃ p1 p2 p3 p4 p5 p6 p7 p8 j, defBody st = [.Assign [.Attribute (.Name s1 p1) "word" p2] (.Constant (.str wd) j p3) p4, .Assign [.Attribute (.Name s1 p5) f p6] (.Name s2 p7) p8] ∧ ∀ env, swapsWith (.Name s2 p7) (some (.Attribute (.Name s1 p5) f p6)) p8.line env = pure false
section
variable {K : PySem.W.Frag} {mg : Str → Option Value} {h : Heap} {C fI : Addr} {x q wd f s1 s2 : Str} {st : Stmt} {nm qc : Str} {N : Addr} {bs bm : List Value} {sn : List Str} {sub : List Value} {ab : Bool} {col : Option Bool} {dd : Option Addr} {m0 m1 m2 m3 m5 : Option Value} {oc : Value} {od an : Option Addr} {osl : Array (Option Value)} {kV doc pm cdv ct : Value}
theorem xat_mk (xL : K.lookup C = some (excClassObj nm qc C N bs bm true sn sub ab col dd m0 m1 m2 m3 m5 "ValueError.__new__")) (hbm : PySem.HandSPX.refsVE bm = true) (sa : PySem.W.findIn K (.ref C) "__setattr__" = some (some (.builtin "object.__setattr__"))) (eC : PySem.W.subIn K (.ref C) (.type "BaseException") = some true) (tC : PySem.W.typeIn K (.ref C) = some (.type "type")) (kC : PySem.W.keepIn K (.ref C) = true)
    (ini : PySem.W.findIn K (.ref C) "__init__" = some (some (.ref fI))) (ty : PySem.W.typeIn K (.ref fI) = some (.type "function")) : XAt K C fI := ⟨⟨⟨_, _, _, _, _, _, _, _, _, _, _, _, _, _, _, xL, hbm⟩, sa, eC, tC, kC⟩, ini, ty⟩
theorem xok0_mk (X : K.In h) (G : h.Ns mainGlobals mg) (I : Ini0 st q wd s1) (a : PySem.W.nsIn K mainGlobals x = some (some (.ref C))) (T : XAt K C fI) (n1 : PySem.W.findIn K (.ref C) "word" = some none)
    (l : K.lookup fI = some ⟨oc, od, .func (PySem.W.fnOf "__init__" q (defArgs st) (defBody st) (defScope st) .none kV doc pm an cdv ct), osl⟩) (c : PySem.W.codeIn K cdv q = true) (k : PySem.W.keepIn K (.ref fI) = true) : ∀ P w base, XOk0 P w K mg base x wd s1 := fun P w base => by
  obtain ⟨p1, p2, p3, p4, j, hb⟩ := I.body
  have F : L2.Fun K "__init__" q st fI _ := fun_mk l c k
  exact ⟨C, fI, _, PySem.W.mg_of X G a, T, ini0_ok T.oex n1 F I.sc I.vis I.nd I.nc hb, F.binds fun kV doc pm an cdv ct us hl => I.bd kV doc pm an cdv ct us hl⟩
theorem xok1_mk (X : K.In h) (G : h.Ns mainGlobals mg) (I : Ini1 st q wd f s1 s2) (a : PySem.W.nsIn K mainGlobals x = some (some (.ref C))) (T : XAt K C fI) (n1 : PySem.W.findIn K (.ref C) "word" = some none) (n2 : PySem.W.findIn K (.ref C) f = some none)
    (l : K.lookup fI = some ⟨oc, od, .func (PySem.W.fnOf "__init__" q (defArgs st) (defBody st) (defScope st) .none kV doc pm an cdv ct), osl⟩) (c : PySem.W.codeIn K cdv q = true) (k : PySem.W.keepIn K (.ref fI) = true) : ∀ P w base, XOk1 P w K mg base x wd f s1 s2 := fun P w base => by
  obtain ⟨p1, p2, p3, p4, p5, p6, p7, p8, j, hb, hsw⟩ := I.body
  have F : L2.Fun K "__init__" q st fI _ := fun_mk l c k
  exact ⟨C, fI, _, PySem.W.mg_of X G a, T, ini1_ok T.oex n1 n2 F I.sc I.vis I.nd I.nc I.vis2 I.nd2 I.nc2 hsw hb, F.binds fun kV doc pm an cdv ct us hl => I.bd kV doc pm an cdv ct us hl⟩
theorem err_mk {T1 T2 : Addr} {fo : Option Str} (X : K.In h) (G : h.Ns mainGlobals mg) (a : PySem.W.nsIn K mainGlobals x = some (some (.ref C))) (m : PySem.W.exmAny K (.ref C) [.ref T1, .ref T2] = some true) (ga : PySem.W.findIn K (.ref C) "__getattribute__" = some (some (.builtin "BaseException.__getattribute__"))) (gg : PySem.W.findIn K (.ref C) "__getattr__" = some none) (eC : PySem.W.subIn K (.ref C) (.type "BaseException") = some true) (hC : PySem.W.hasDictIn K C = true)
    (n1 : PySem.W.findIn K (.ref C) "word" = some none) (n2 : ∀ f, fo = some f → PySem.W.findIn K (.ref C) f = some none) : ErrC K mg (.ref T1) (.ref T2) x fo := ⟨C, PySem.W.mg_of X G a, m, ⟨ga, gg, eC, hC⟩, n1, n2⟩
end
/-- the table of the def's own code object -/
def hdB (vs : Array Value) (c P : Addr) : Bool := (match (vs[11]? : Option Value) with | some (.ref P') => P' == P | _ => false) &&
      (match vs.getD 18 .none with | .str _ _ => true | _ => false) && (match vs.getD 7 .none with | .int _ _ => true | _ => false) &&
      (match vs.getD 9 .none with | .bool _ => true | _ => false) && (match vs.getD 10 .none with | .int _ _ => true | _ => false) && c != P
theorem codeHd_mk {K : PySem.W.Frag} {c P : Addr} {dd : Option Addr} {vs : Array Value} {sl : Array (Option Value)} (l : K.lookup c = some ⟨.type "code", dd, .fields vs, sl⟩) (h : hdB vs c P = true) : PySem.W.codeHdIn K c P = true := by
  unfold PySem.W.codeHdIn
  rw [l]
  exact h
theorem no_mk {K : PySem.W.Frag} {P : Addr} (h : (K.lookup P).isNone = true) : K.lookup P = none := by
  cases e : K.lookup P with
  | none => rfl
  | some o => rw [e] at h; cases h
end TD

namespace TD
open PySem PySem.Spec PySem.W PyProof.Rows L2 L2H LamX
/-! ### lambda with a default that is an int -/
section
variable {X : Cx} {W : WX} {c P : Addr} {nm : Nat → Nat → Str} {pos : Pos} {params : Arguments} {body : Expr} {scope : Scope}
theorem d_lam1 {v : Int} {j : Nat} {p1 : Pos} (TB : TabB X.base X.mg c P) (hcode : X.env.code = .ref c) (hn : nm pos.line pos.col = X.env.qual ++ "<lambda>") (hfree : ∀ y ∈ scope.names, y.2 = .free → X.env.scope.names.lookup y.1 = some .cell ∨ X.env.scope.names.lookup y.1 = some .free)
    (hdef : defaultsOf params X.env = ([eval (.Constant (.int v) j p1) X.env], []) := by rfl) :
    DE X W (.Lambda params body scope pos) (tdLam P nm (lamI X params body scope (some v))) := ⟨fun pins s σ H Q I ⟨ρ, M, Q0, E0, dv, sm, ⟨hM, q⟩, hq, _⟩ => by
  rw [arm_eval_Lambda, hdef]
  show wpAny _ _ (do let dv ← evalAll [eval (.Constant (.int v) j p1) X.env]; let kdv ← holding dv (evalAllOpt []); makeFunction "<lambda>" (X.env.qual ++ "<lambda>") params (.expr body) scope X.env dv kdv [] pos pos.line) _ _ _
  refine wpAny_bind (wpAny_evalAll_cons (wpAny_mono ((pe_int (X := X)).run pins s σ H (fun x H' => x = .int v ∧ H' = H) I ⟨rfl, rfl⟩) (fun u s1 ⟨x, H1, I1, r1, ex, eh⟩ => ?_) fun _ _ z => z))
  subst ex eh
  refine wpAny_evalAll_nil (wpAny_bind (wpAny_holding (wpAny_pure ?_)))
  rw [makeFunction_eq]
  simp only [List.zip_nil_right, List.filterMap_nil, List.isEmpty_nil, if_true, pure_bind, List.isEmpty_cons, Bool.false_eq_true, if_false]
  refine wpAny_bind (wpAny_newTextTuple ?_)
  have n1 : H1 s1.heap.objs.size = none := I1.hok.fresh (Nat.le_refl _)
  have J : Inv X pins σ (upd H1 s1.heap.objs.size (.tup [.int v])) { s1 with heap := s1.heap.push { cls := .type "tuple", data := .seq [u].toArray } } :=
    I1.laid (t' := s1.toks) (o := .tup [.int v]) (fun b ob q => Heap.get?_push_of_some _ q) (Nat.le_refl _) ⟨by show 1 ≤ sizeLine; decide, [u], .cons r1 .nil, IsTup.new _ _⟩
  have t : Tr H1 M (upd H1 s1.heap.objs.size (.tup [.int v])) M := Tr.new n1
  exact lam_made (L := lamI X params body scope (some v)) J TB hcode ((sm.new n1) _ _ hM) hn rfl (fun y hy e => J.ok.has _ (hfree y hy e)) fun f c' H2 s' m => ⟨.ref f, H2, m.inv, rfl, m.up (sm.new n1) hM (.inr ⟨v, _, rfl, rfl, upd_same⟩) (hq.mono t) q⟩⟩
variable {lpos p : Pos} {st1 st2 : Stmt} {c1 c2 : Value} {te : TDE} {k : Nat}
theorem lpar1 {L : LInfo} {i : Int} (hd : L.dfl = some i) {x : Str} (hx : L.scope.names.lookup x = some .local) (hb : ∀ (dt : Addr) (pm ctv : Value) (c : Addr), ∃ k : Option (Array Value) → Sem (List (Str × Value)), bindArgs (lamFd L (.ref dt) pm ctv c) ⟨[], []⟩ = seqItems? (.ref dt) >>= k ∧ ∀ v : Value, k (some #[v]) = pure [(x, v)]) : LPar L :=
  ⟨(fun h => by rw [hd] at h; cases h), fun i h => ⟨x, hx, hb⟩⟩
theorem d_tryLam1 {v : Int} {j : Nat} {p1 : Pos} (T : TryAt X.prog X.w X.K X.mg X.base st1 st2 c1 c2) (TB : TabB X.base X.mg c P) (hcode : X.env.code = .ref c) (hn : nm lpos.line lpos.col = X.env.qual ++ "<lambda>") (hr : Room (k + 6) X.A) (S : LamS2 X.env.scope scope X.N) (hp : LPar (lamI X params body scope (some v)))
    (hbody : ∀ (A : Around) (outer : List Env) (s : Shared) (H : Hp) (E : XK) (f c' : Addr), Room k (lcx X (lamI X params body scope (some v)) A outer s H E f c').A → DE (lcx X (lamI X params body scope (some v)) A outer s H E f c') (Wd E) body te) (hdef : defaultsOf params X.env = ([eval (.Constant (.int v) j p1) X.env], []) := by rfl) (hg : Gl X "_law_try" := by rfl)
    (hst : starEach [.Lambda params body scope lpos] X.env = (false, eval (.Lambda params body scope lpos) X.env) :: starEach [] X.env := by rfl) (hpl : (backTo pos (starEach [] X.env)).any (·.1) = false := by rfl) :
    DE X W (.Call (.Name "_law_try" p) [.Lambda params body scope lpos] [] pos) (tdTL X.K P nm (lamI X params body scope (some v)) c1 c2 te) :=
  PE.imp (d_try (W := W) (ι := Unit) (L := fun _ => lamI X params body scope (some v)) (te := fun _ => te) T hr (d_lam1 TB hcode hn S.free hdef) (fun _ => S) (fun ok _ => lcl_made ok S rfl) (fun _ => hp) (fun _ => hbody) hg hst hpl) fun σ H Q ⟨ρ, M, Q0, E0, dv, sm, q, hq, hw⟩ => by
    unfold tdTL tdTryLam at q
    exact ⟨ρ, M, Q0, E0, dv, sm, ⟨q.1, fun f hf => ⟨(), f, rfl, mupd_same, q.2 f hf⟩⟩, hq, hw⟩
end
end TD

namespace TD
open PySem PySem.Spec PySem.W PyProof.Rows L2 L2H LamX
/-! ### the same inside a comprehension: the lambda's cells are the block's own -/
section
variable {X : Cx} {W : WX} {c P : Addr} {nm : Nat → Nat → Str} {lpos p pos : Pos} {params : Arguments} {body : Expr} {scope : Scope} {st1 st2 : Stmt} {c1 c2 : Value} {te : TDE} {k : Nat}
@[irreducible] def tdTryU (K : PySem.W.Frag) (P : Addr) (nm : Nat → Nat → Str) (c1 c2 : Value) (te : TDE) (ρ : DSt) (M : Mem) (Q : D → Mem → Prop) : Prop := M P = some (.tab nm) ∧ ∀ f L, M f = none → tdTry K c1 c2 te ρ (mupd M f (.lam L)) Q
theorem tryU_i {K : PySem.W.Frag} {ρ : DSt} {M : Mem} {Q : D → Mem → Prop} (h1 : M P = some (.tab nm)) (h2 : ∀ f L, M f = none → te ρ (mupd M f (.lam L)) (fun d M' => Q (.tup [.str "value", d]) M') (fun cls fs M' => ∃ w d, CaughtBy K c1 c2 cls fs w d ∧ Q (.tup [.str w, d]) M')) : tdTryU K P nm c1 c2 te ρ M Q := by
  unfold tdTryU
  exact ⟨h1, h2⟩
def tdTU (K : PySem.W.Frag) (P : Addr) (nm : Nat → Nat → Str) (c1 c2 : Value) (te : TDE) : TDE := fun ρ M Q _ => tdTryU K P nm c1 c2 te ρ M Q
theorem d_tryLamU {K : PySem.W.Frag} (T : TryAt X.prog X.w X.K X.mg X.base st1 st2 c1 c2) (TB : TabB X.base X.mg c P) (hcode : X.env.code = .ref c) (hn : nm lpos.line lpos.col = X.env.qual ++ "<lambda>") (hr : Room (k + 6) X.A) (S : LamS2 X.env.scope scope X.N) (hb0 : ∀ (pm ctv : Value) (c : Addr), bindArgs (lamFd (lamI X params body scope none) .none pm ctv c) ⟨[], []⟩ = pure [])
    (hbody : ∀ (A : Around) (outer : List Env) (s : Shared) (H : Hp) (E : XK) (f c' : Addr), Room k (lcx X (lamI X params body scope none) A outer s H E f c').A → DE (lcx X (lamI X params body scope none) A outer s H E f c') (Wd E) body te) (hK : X.K = K := by rfl) (hdef : defaultsOf params X.env = ([], []) := by rfl) (hg : Gl X "_law_try" := by rfl)
    (hst : starEach [.Lambda params body scope lpos] X.env = (false, eval (.Lambda params body scope lpos) X.env) :: starEach [] X.env := by rfl) (hpl : (backTo pos (starEach [] X.env)).any (·.1) = false := by rfl) :
    DE X W (.Call (.Name "_law_try" p) [.Lambda params body scope lpos] [] pos) (tdTU K P nm c1 c2 te) := by
  subst hK
  exact PE.imp (d_tryLam (W := W) T TB hcode hn hr S hb0 hbody hdef hg hst hpl) fun σ H Q ⟨ρ, M, Q0, E0, dv, sm, q, hq, hw⟩ => by
    refine ⟨ρ, M, Q0, E0, dv, sm, ?_, hq, hw⟩
    unfold tdTU tdTryU at q
    unfold tdTL tdTryLam
    exact ⟨q.1, fun f hf => q.2 f _ hf⟩
end
end TD

namespace TD
open PySem PySem.Spec PySem.W PyProof.Rows L2 L2H LamX
/-! ### a comprehension whose element may lean on the maker's own cells -/
section
variable {X : Cx}
/-- where a block began: the maker's frame stood so -/
structure BlkFrom (X : Cx) (pins : List (Addr × Obj)) (σ : L2.St) (s1 : Shared) (H1 : Hp) (fp : List Addr) : Prop where
  inv : Inv X pins σ H1 s1
  fp : ∀ b ∈ fp, FpOk X pins H1 b
theorem BlkFrom.back {pins pins' : List (Addr × Obj)} {σ σ' : L2.St} {s1 s' : Shared} {H1 H' : Hp} {fp : List Addr} {scope : Scope} {ce : Env} (B : BlkFrom X pins σ s1 H1 fp) (J : Inv (X.blk s1 H1 scope ce fp) pins' σ' H' s') : Inv X pins σ H' s' :=
  B.inv.call' (ch := fp) J.os J.base J.hok J.bare fun b hb =>
    have z := B.fp b hb
    ⟨z.2.2.2.1, z.2.1, z.2.2.2.2.1, z.2.2.2.2.2⟩
/-- the loop's state: the block's context, the iterator's state, the word -/
def LcSt (Y : Cx) (fp : List Addr) (tn : Nat → Heap → Prop) (σ : L2.St) (W : Nat → Nat → Hp → Prop) (n : Nat) (s : Shared) : Prop :=
  ∃ i H, Inv Y [] σ H s ∧ tn i s.heap ∧ (∀ b ∈ fp, H b = none) ∧ W i n H
theorem blkFp {Y : Cx} {fp : List Addr} {σ : L2.St} {H : Hp} {s : Shared} (he : Y.ex = fp) (hp : Y.pn = []) (J : Inv Y [] σ H s) (hn : ∀ b ∈ fp, H b = none) : ∀ b ∈ fp, FpOk Y [] H b := fun b hb => by
  have hx : b ∈ Y.ex := by rw [he]; exact hb
  obtain ⟨z1, z2⟩ := J.ok.exf b hx
  refine ⟨hn b hb, z1, J.ok.exfs b hx, .inl hx, z2, fun q hq => ?_⟩
  rw [hp] at hq
  cases hq
theorem lc_own {pins : List (Addr × Obj)} {s : Shared} {σ : L2.St} {H : Hp} {Q : VK} {elt tg iter : Expr} {scope : Scope} {own : List (Str × Nat)} {pos : Pos} {wi : TI} {g : TG} {te : TE}
    (hc : X.calm = true) (hN : X.N.Nodup) (I : Inv X pins σ H s) (hi : PI X tg iter wi) (ok : BlkOk X.N X.env.scope scope own)
    (hg : ∀ (s1 : Shared) (H1 : Hp) (C : Addr) (cl : List (Str × Addr)) (fp : List Addr), PG (X.blk s1 H1 scope (compEnvC scope cl C X.env) fp) tg g)
    (he : ∀ (s1 : Shared) (H1 : Hp) (C : Addr) (cl : List (Str × Addr)) (fp : List Addr), BlkFrom X pins σ s1 H1 fp → PE (X.blk s1 H1 scope (compEnvC scope cl C X.env) fp) elt te) (hs : ∀ x, foldedSetIterable iter X.env x = pure x)
    (h : tLc wi g L2.tYes te (own.map (·.2)) σ H Q) : wpAny (model X.prog X.w) X.A (eval (.ListComp elt [⟨tg, iter, [], 0⟩] scope pos) X.env) (EP X pins σ Q) X.xe s := by
  rw [eval_ListComp]
  have free : ∀ y ∈ scope.names, y.2 = .free → ∃ c, X.env.cells.lookup y.1 = some c := fun y hy e => I.ok.has _ (ok.free y hy e)
  have nm : ∀ y ∈ scope.names, y.2 = .local → scope.names.lookup y.1 = some .local := fun y hy e => (ok.uniq y hy).trans (congrArg some e)
  refine wpAny_comprehension_free (use := none) rfl hs (closure_ok free) ok.kind nm ?_
  refine thn (hi.run pins s σ H _ I h) fun xv s1 hx => thn hx fun itv s2 ⟨it, fp, tn, J, H2, eit, I2, T, st2, f2, hq⟩ => ?_
  subst eit
  refine wpAny_newObj_type (newEnv_comp ?_) (Nat.zero_le _)
  -- the new list at D, the state s3 behind it
  let D : Addr := s2.heap.objs.size
  let o3 : Obj := { cls := .type "list", data := .seq ([] : List Value).toArray }
  let s3 : Shared := { s2 with heap := s2.heap.push o3 }
  have keep3 : ∀ b o, s2.heap.get? b = some o → s3.heap.get? b = some o := fun b o e => Heap.get?_push_of_some _ e
  obtain ⟨W, ⟨m0, w0⟩, turn⟩ := hq D (I2.hok.fresh (Nat.le_refl _))
  have I3 : Inv X pins σ (upd H2 D (.lst [])) s3 := I2.laid (t' := s2.toks) keep3 (Nat.le_refl _) ⟨Nat.zero_le _, [], 0, .nil, Heap.get?_push_size _ rfl⟩
  have lt2 : ∀ b ∈ fp, b < s2.heap.objs.size := fun b hb => let ⟨_, e, _⟩ := T.obj _ _ st2 b hb; Heap.lt_size e
  have f3 : ∀ b ∈ fp, FpOk X pins (upd H2 D (.lst [])) b := fun b hb => ⟨(upd_ne (Nat.ne_of_lt (lt2 b hb))).trans (f2 b hb).1, (f2 b hb).2⟩
  have st3 : tn 0 s3.heap := T.keep _ _ _ st2 fun b _ => keep3 b
  have sz3 : s3.heap.objs.size = s2.heap.objs.size + 1 := Heap.size_push ..
  have lt3 : ∀ b ∈ fp, b < s3.heap.objs.size := fun b hb => by
    rw [sz3]
    exact Nat.lt_succ_of_lt (lt2 b hb)
  have B : BlkFrom X pins σ s3 (upd H2 D (.lst [])) fp := ⟨I3, f3⟩
  have I4 := block_start I3 ok hN fun b hb => ⟨f3 b hb, lt3 b hb⟩
  have st4 : tn 0 (pushCells (s3.heap.push { cls := .type "dict", data := .dict #[] }) scope.names) := T.keep _ _ _ st3 fun b _ o e => pushCells_keeps _ _ _ _ (Heap.get?_push_of_some _ e)
  have pg := hg s3 (upd H2 D (.lst [])) s3.heap.objs.size (cellsFrom (s3.heap.objs.size + 1) scope.names (cloFrom X.env.cells scope.names [])) fp
  have pe := he s3 (upd H2 D (.lst [])) s3.heap.objs.size (cellsFrom (s3.heap.objs.size + 1) scope.names (cloFrom X.env.cells scope.names [])) fp B
  have nofp : ∀ b ∈ fp, upd H2 D (.lst []) b = none := fun b hb => (f3 b hb).1
  have eL : (compEnvC scope (cellsFrom (s3.heap.objs.size + 1) scope.names (cloFrom X.env.cells scope.names [])) s3.heap.objs.size X.env).locals = s3.heap.objs.size := rfl
  show codeAny _ _ (.compStart _ 0 (.ref it) (.ref D) (compEnvC scope (cellsFrom (s3.heap.objs.size + 1) scope.names (cloFrom X.env.cells scope.names [])) s3.heap.objs.size X.env)) _ { s3 with heap := pushCells (s3.heap.push { cls := .type "dict", data := .dict #[] }) scope.names }
  generalize hce : compEnvC scope (cellsFrom (s3.heap.objs.size + 1) scope.names (cloFrom X.env.cells scope.names [])) s3.heap.objs.size X.env = ce at I4 pg pe eL ⊢
  have loop : codeAny (model X.prog X.w) X.A (.compLoop (.ListComp elt [⟨tg, iter, [], 0⟩] scope pos) 0 (.ref it) (.ref D) ce) (compPost (model X.prog X.w) X.A X.xe none (EP X pins σ Q) (.ref D) s3.heap.objs.size) { s3 with heap := pushCells (s3.heap.push { cls := .type "dict", data := .dict #[] }) scope.names } := by
    refine compLoop_any (LcSt (X.blk s3 (upd H2 D (.lst [])) scope ce fp) fp tn (L2.wipe σ (own.map (·.2))) W) (fun n s5 ⟨i, H5, I5, st5, n5, w5⟩ => ?_) m0 ⟨0, _, I4, st4, nofp, w0⟩
    have fp5 := blkFp (fp := fp) rfl rfl I5 n5
    rcases turn i n H5 w5 with ⟨stop, qd⟩ | ⟨go, Nx, hNx, step⟩
    · refine thnF (T.done (X.blk s3 (upd H2 D (.lst [])) scope ce fp) rfl rfl rfl hc i [] s5 _ H5 (fun _ _ => False) I5 fp5 st5 stop) fun r s6 ⟨hr, I6⟩ => ?_
      subst hr
      have I7 := B.back I6
      have nC : H5 s3.heap.objs.size = none := by
        rw [← eL]
        exact I6.free
      obtain ⟨mm, hns, _⟩ := I6.loc
      refine ⟨mm, by rw [← eL]; exact hns, fun h'' sb => ?_⟩
      obtain ⟨z0, z1, z2, z3, z4, z5⟩ := I3.fpOk (Nat.le_refl _) nC
      exact ⟨.ref D, H5, I7.turned (t' := s6.toks) (fun b o hb e => (sb.2 b hb).trans e) z0 z1 z3 z4 z5, rfl, qd⟩
    · refine thnF (T.item (X.blk s3 (upd H2 D (.lst [])) scope ce fp) rfl rfl rfl hc i [] s5 _ H5 (fun _ _ => False) I5 fp5 st5 go) fun r s6 ⟨u, hr, h6⟩ => ?_
      subst hr
      refine thnF h6 fun _ s7 ⟨x, H7, I7, r7, y7, st7, n7⟩ => ?_
      have P7 := I7.pinned (blkFp (fp := fp) rfl rfl I7 n7) (T.obj _ _ st7)
      refine thnF (pg.run _ s7 _ H7 x u _ P7 r7 (step x H7 y7)) fun _ s8 ⟨σ8, H8, I8, ew, q8⟩ => ?_
      refine thnF ((pts_nil (X := X.blk s3 (upd H2 D (.lst [])) scope ce fp)).run _ s8 σ8 H8 _ I8 q8) fun b s9 ⟨H9, I9, q9⟩ => ?_
      have fin : ∀ {s' : Shared} {H' : Hp}, Inv (X.blk s3 (upd H2 D (.lst [])) scope ce fp) ([] ++ pinsAt fp s7.heap) σ8 H' s' → Nx H' → ∃ m, m < n ∧ LcSt (X.blk s3 (upd H2 D (.lst [])) scope ce fp) fp tn (L2.wipe σ (own.map (·.2))) W m s' := fun {s' H'} I' nx => by
        obtain ⟨m', lt, w'⟩ := hNx H' nx
        have stands : ∀ b ∈ fp, ∀ o, s7.heap.get? b = some o → s'.heap.get? b = some o ∧ H' b = none := fun b hb o e => by
          have z := I'.pin (b, o) (List.mem_append_right _ (List.mem_append_right _ (mem_pinsAt hb e)))
          exact ⟨z.1, z.2.1⟩
        have wk := (I'.unpinned (pins := [])).weak (σ' := L2.wipe σ (own.map (·.2))) (by rw [← ew, L2.wipe_length]) fun j v e => by
          rw [← ew] at e
          exact (wipe_some e).1
        refine ⟨m', lt, i + 1, H', wk, T.keep _ _ _ st7 fun b hb o e => (stands b hb o e).1, fun b hb => ?_, w'⟩
        obtain ⟨o, e, _⟩ := T.obj _ _ st7 b hb
        exact (stands b hb o e).2
      cases b with
      | false => exact fin I9 (by simpa using q9)
      | true =>
        rw [if_pos rfl] at q9 ⊢
        refine thnF (pe.run _ s9 σ8 H9 _ I9 q9) fun z s10 ⟨yv, H10, I10, r10, acc, e10, z10, nx⟩ => ?_
        exact app_ok (X := X.blk s3 (upd H2 D (.lst [])) scope ce fp) I10 e10 z10 r10 fun s11 I11 => fin I11 nx
  exact codeAny_compStart_list loop (T.self X.A 0 _ _ _ st4 loop)
end
/-! ### [_law_try(x) for x in lambdas] -/
section
variable {X : Cx} {W : WX} {st1 st2 : Stmt} {c1 c2 : Value} {k : Nat}
/-- a lambda that the frame made -/
structure LamOk (X : Cx) (k : Nat) (L : LInfo) (te : TDE) : Prop where
  S : LamS2 X.env.scope L.scope X.N
  C : X.Ok → LCl X L
  hp : LPar L
  body : ∀ (A : Around) (outer : List Env) (s : Shared) (H : Hp) (E : XK) (f c' : Addr), Room k (A.deeper (envX L.qual L.scope s.heap.objs.size f (.ref c') L.cl)) → DE (lcx X L A outer s H E f c') (Wd E) L.body te
def LamsOk (X : Cx) (k : Nat) (fam : List (LInfo × TDE)) : Prop := ∀ x, x ∈ fam → LamOk X k x.1 x.2
theorem lams_nil : LamsOk X k [] := fun x h => by cases h
theorem lams_cons {L : LInfo} {te : TDE} {fam : List (LInfo × TDE)} (h : LamOk X k L te) (r : LamsOk X k fam) : LamsOk X k ((L, te) :: fam) := fun x m => by
  rcases List.mem_cons.mp m with rfl | m
  · exact h
  · exact r x m
/-- by an invariant over the turn and what is made so far; each item is one of the lambdas -/
@[irreducible] def AskI (K : PySem.W.Frag) (c1 c2 : Value) (fam : List (LInfo × TDE)) (ds : List D) (Gd : Mem → Prop) (ρ : DSt) (M : Mem) (Q : List D → Mem → Prop) : Prop := ∃ I : Nat → List D → Mem → Prop, I 0 [] M ∧ (∀ i acc M, i ≤ ds.length → I i acc M → Gd M) ∧
  (∀ i d acc M, ds[i]? = some d → I i acc M → acc.length < sizeLine ∧ ∃ f x, d = .ref f ∧ x ∈ fam ∧ M f = some (.lam x.1) ∧ tdTry K c1 c2 x.2 ρ M fun y M' => I (i + 1) (acc ++ [y]) M') ∧ ∀ acc M, I ds.length acc M → Q acc M
theorem ask_by {K : PySem.W.Frag} {fam : List (LInfo × TDE)} {ds : List D} {Gd : Mem → Prop} {ρ : DSt} {M : Mem} {Q : List D → Mem → Prop} (I : Nat → List D → Mem → Prop) (h0 : I 0 [] M) (hG : ∀ i acc M, i ≤ ds.length → I i acc M → Gd M)
    (hs : ∀ i d acc M, ds[i]? = some d → I i acc M → acc.length < sizeLine ∧ ∃ f x, d = .ref f ∧ x ∈ fam ∧ M f = some (.lam x.1) ∧ x.2 ρ M (fun d M' => I (i + 1) (acc ++ [.tup [.str "value", d]]) M') (fun cls fs M' => ∃ w d, CaughtBy K c1 c2 cls fs w d ∧ I (i + 1) (acc ++ [.tup [.str w, d]]) M'))
    (hd : ∀ acc M, I ds.length acc M → Q acc M) : AskI K c1 c2 fam ds Gd ρ M Q := by
  unfold AskI
  exact ⟨I, h0, hG, hs, hd⟩
def tdAsks (K : PySem.W.Frag) (c1 c2 : Value) (fam : List (LInfo × TDE)) (wi : TDI) : TDL := fun ρ M Q E => wi ρ M (fun ds Gd M1 => AskI K c1 c2 fam ds Gd ρ M1 Q) E
/-- an element's question, the maker's slots at σ -/
def teAsk (K : PySem.W.Frag) (c1 c2 : Value) (fam : List (LInfo × TDE)) (j : Nat) (σ : L2.St) (ρ : DSt) : TE := fun σ8 H8 Q8 => ∃ f M Q0 x, σ8[j]? = some (some (.ref f)) ∧ x ∈ fam ∧ M f = some (.lam x.1) ∧ DvL K H8 σ ρ ∧ Sim K H8 M ∧ tdTry K c1 c2 x.2 ρ M Q0 ∧ qUp K H8 M Q0 Q8
theorem pe_askB {pins : List (Addr × Obj)} {σ : L2.St} {ρ : DSt} {s1 : Shared} {H1 : Hp} {fp : List Addr} {scope : Scope} {ce : Env} {fam : List (LInfo × TDE)} {j : Nat} {x : Str} {p pa pos : Pos} (T : TryAt X.prog X.w X.K X.mg X.base st1 st2 c1 c2) (hr : Room (k + 6) X.A) (hF : LamsOk X k fam) (B : BlkFrom X pins σ s1 H1 fp)
    (hN : X.N[j]? = some x) (hv : Vis ce.scope x) (hd : (x == ("__debug__" : Str)) = false) (hcd : (x == ("__classdict__" : Str)) = false) (hg : Gl (X.blk s1 H1 scope ce fp) "_law_try")
    (hst : starEach [.Name x pa] ce = (false, eval (.Name x pa) ce) :: starEach [] ce) (hpl : (backTo pos (starEach [] ce)).any (·.1) = false) :
    PE (X.blk s1 H1 scope ce fp) (.Call (.Name "_law_try" p) [.Name x pa] [] pos) (teAsk X.K c1 c2 fam j σ ρ) := ⟨fun pins8 s σ8 H8 Q8 I8 ⟨f, M, Q0, y, e8, hy, hf, dv, sm, q, hq⟩ => by
  obtain ⟨g, fd, F, hm⟩ := T.t.ex
  obtain ⟨oc, od, kV, doc, pm, an, cdv, ct, osl, rfl, lk, hcode⟩ := F.ex
  have F1 := hF y hy
  refine wpAny_Call_Name_kw (ld_glob I8 hg hm ?_ (by decide))
  refine PySem.W.callWith_K (h₀ := X.base) I8.ok.mod.kin F.kp (thn ((pa_cons (X := X.blk s1 H1 scope ce fp) (pe_var (pos := pa) hN hv hd hcd) pa_nil hst).run pos pins8 s σ8 H8 (fun vs H' => vs = [.ref f] ∧ H' = H8) I8 ⟨.ref f, e8, rfl, rfl⟩) fun us s2 ⟨vs, H2, I2, r, ev, eh⟩ => ⟨I2.kIn, ?_⟩) hst hpl
  subst ev eh
  obtain rfl : us = [.ref f] := by
    cases r with
    | cons r1 r2 => cases r2; cases r1; rfl
  have J := B.back I2
  refine wpAny_call (codeAny_mono (try_code (X := X) T hr lk hcode J F1.S (F1.C J.ok) F1.hp F1.body dv sm hf q hq) fun r s' hz => ?_)
  cases r with
  | error e => obtain ⟨_, _, _, _, _, _, _, _, _, _, _, _, z⟩ := hz; exact z.elim
  | ok fl =>
    cases fl with
    | ret u => exact I2.after hz
    | _ => exact hz.elim⟩
theorem up_asks {K : PySem.W.Frag} {fam : List (LInfo × TDE)} {wi : TDI} {j : Nat} {σ : L2.St} {H : Hp} {Q : VK} {ρ : DSt} {M : Mem} {Q0 : List D → Mem → Prop} {E0 : XD} {N : Nat} (hj : j < σ.length) (dv : DvL K H σ ρ) (sm : Sim K H M) (q : tdAsks K c1 c2 fam wi ρ M Q0 E0)
    (hq : ∀ ds M', Q0 ds M' → ∀ a vs H', H a = none → H' a = some (.lst vs) → M' a = none → Reps K H' vs ds → Sim K H' M' → Tr H M H' M' → Q (.ref a) H') (he : wUp K W σ H M E0) :
    tLc (upI K W wi) (gName j) L2.tYes (teAsk K c1 c2 fam j σ ρ) [j] σ H Q := by
  refine ⟨ρ, M, _, E0, dv, sm, q, fun ds Gd M1 q1 J S H1 dw st s1 t1 D hD => ?_, he⟩
  unfold AskI at q1
  obtain ⟨I, h0, hG, hs, hd⟩ := q1
  have hHD : H D = none := t1.fresh hD
  let P : Nat → Hp → Prop := fun i H' => ∃ M' acc xs, H' D = some (.lst xs) ∧ Reps K H' xs acc ∧ M' D = none ∧ Sim K H' M' ∧ Tr H1 M1 H' M' ∧ I i acc M'
  refine ⟨fun i m H' => m = ds.length - i ∧ i ≤ ds.length ∧ P i H', ⟨ds.length, by simp, Nat.zero_le _, M1, [], [], upd_same, .nil, s1.free hD, s1.new hD, Tr.new hD, h0⟩, ?_⟩
  rintro i m H2 ⟨rfl, hi, M2, acc, xs, hL, hR, hM, s2, t2, i2⟩
  have st2 := dw.stay _ _ _ _ st t2
  have gd := hG i acc M2 hi i2
  by_cases hlt : i < ds.length
  · refine .inr ⟨dw.goes i H2 M2 hlt st2 s2 gd, P (i + 1), fun H' p' => ⟨ds.length - (i + 1), by omega, rfl, hlt, p'⟩, fun x H3 y => ?_⟩
    obtain ⟨d, ed, rd, s3, t3⟩ := dw.yields i H2 M2 x H3 hlt st2 s2 gd y
    obtain ⟨hsz, f, fx, rfl, hfx, hf, hq3⟩ := hs i d acc M2 ed i2
    cases rd
    have t13 := t2.trans t3
    have hL3 := t3.st _ _ hL hM rfl
    have hR3 := hR.mono t3
    refine ⟨by rw [wipe_set _ _ _ _ (List.mem_singleton.mpr rfl), wipe_wipe], ?_⟩
    show L2.tYes _ _ _
    unfold L2.tYes
    dsimp only
    rw [if_pos rfl]
    refine ⟨f, M2, _, fx, ?_, hfx, hf, (dv.mono t1).mono t13, s3, hq3, fun dy M6 q6 vy H6 r6 s6 t6 => ?_⟩
    · rw [List.getElem?_set_self]
      rw [L2.wipe_length]
      exact hj
    have hL6 := t6.st _ _ hL3 hM rfl
    have hM6 := t6.fr _ _ hL3 hM
    have hR6 := hR3.mono t6
    refine ⟨xs, hL6, by rw [hR6.length]; exact hsz, M6, acc ++ [dy], xs ++ [vy], upd_same, ?_, hM6, s6.hidden hL6 hM6, (t13.trans t6).hidden hD hL6, q6⟩
    exact (hR6.hidden hL6).append (.cons (r6.hidden hL6) .nil)
  · have e : i = ds.length := by omega
    subst e
    exact .inl ⟨dw.stops H2 M2 st2 s2 gd, hq acc M2 (hd acc M2 i2) D xs H2 hHD hL hM hR s2 (t1.trans t2)⟩
theorem l_asks {wi : TDI} {fam : List (LInfo × TDE)} {iter : Expr} {scope : Scope} {x : Str} (j : Nat) {p pa px pos cpos : Pos} (T : TryAt X.prog X.w X.K X.mg X.base st1 st2 c1 c2) (hr : Room (k + 6) X.A) (hF : LamsOk X k fam) (hc : X.calm = true) (hN : X.N.Nodup) (hi : DI X W (.Name x px) iter wi) (ok : BlkOk X.N X.env.scope scope [(x, j)])
    (hx : X.N[j]? = some x := by rfl) (hl : ∀ (s1 : Shared) (H1 : Hp) (C : Addr) (cl : List (Str × Addr)) (fp : List Addr), Loc (compEnvC scope cl C X.env).scope x := by exact fun _ _ _ _ _ => .inl rfl)
    (hlc : ∀ (C : Addr) (cl : List (Str × Addr)), (compEnvC scope cl C X.env).scope.names.lookup x = some .local := by exact fun _ _ => rfl)
    (hd : (x == ("__debug__" : Str)) = false := by decide) (hcd : (x == ("__classdict__" : Str)) = false := by decide)
    (hg : ∀ (s1 : Shared) (H1 : Hp) (C : Addr) (cl : List (Str × Addr)) (fp : List Addr), Gl (X.blk s1 H1 scope (compEnvC scope cl C X.env) fp) "_law_try" := by exact fun _ _ _ _ _ => rfl)
    (hst : ∀ (C : Addr) (cl : List (Str × Addr)), starEach [.Name x pa] (compEnvC scope cl C X.env) = (false, eval (.Name x pa) (compEnvC scope cl C X.env)) :: starEach [] (compEnvC scope cl C X.env) := by exact fun _ _ => rfl)
    (hpl : ∀ (C : Addr) (cl : List (Str × Addr)), (backTo cpos (starEach [] (compEnvC scope cl C X.env))).any (·.1) = false := by exact fun _ _ => rfl) (hs : ∀ x, foldedSetIterable iter X.env x = pure x := by intro _; rfl) :
    DL X W (.ListComp (.Call (.Name "_law_try" p) [.Name x pa] [] cpos) [⟨.Name x px, iter, [], 0⟩] scope pos) (tdAsks X.K c1 c2 fam wi) := ⟨fun pins s σ H Q I ⟨ρ, M, Q0, E0, dv, sm, q, hq, hw⟩ => by
  have hj : j < σ.length := by
    rw [I.len]
    exact (List.getElem?_eq_some_iff.mp hx).1
  exact lc_own (own := [(x, j)]) hc hN I hi ok (fun s1 H1 C cl fp => pg_name hN hx (hl s1 H1 C cl fp) (.inr (hlc C cl)))
    (fun s1 H1 C cl fp B => pe_askB (ρ := ρ) T hr hF B hx (.inl (hlc C cl)) hd hcd (hg s1 H1 C cl fp) (hst C cl) (hpl C cl)) hs (up_asks (N := 0) hj dv sm q hq hw)⟩
end
/-! ### lambdas by their place in the text -/
def dfltP : Pos := ⟨0, 0, 0, 0⟩
def nthS (st : Stmt) (i : Nat) : Stmt := (defBody st).getD i (.Pass dfltP)
def subS : Stmt → Nat → Stmt
  | .For _ _ b _ _, i => b.getD i (.Pass dfltP)
  | .While _ b _ _, i => b.getD i (.Pass dfltP)
  | .If _ b o _, i => (b ++ o).getD i (.Pass dfltP)
  | st, _ => st
def valE : Stmt → Expr
  | .Assign _ e _ => e
  | .Return (some e) _ => e
  | .Expr e _ => e
  | _ => .Name "" dfltP
def eltN : Expr → Nat → Expr
  | .List es _, i => es.getD i (.Name "" dfltP)
  | .BinOp _ _ (.List es _) _, i => es.getD i (.Name "" dfltP)
  | _, _ => .Name "" dfltP
section
variable {X : Cx} {k : Nat} {te : TDE} {params : Arguments} {body : Expr} {scope : Scope} {pos : Pos}
theorem lam_ok0 (e : Expr) (he : e = .Lambda params body scope pos) (S : LamS2 X.env.scope scope X.N) (hb0 : ∀ (pm ctv : Value) (c : Addr), bindArgs (lamFd (lamI X params body scope none) .none pm ctv c) ⟨[], []⟩ = pure [])
    (hbody : ∀ (A : Around) (outer : List Env) (s : Shared) (H : Hp) (E : XK) (f c' : Addr), Room k (lcx X (lamI X params body scope none) A outer s H E f c').A → DE (lcx X (lamI X params body scope none) A outer s H E f c') (Wd E) body te) : LamOk X k (lamI X params body scope none) te where
  S := S
  C := fun ok => lcl_made ok S rfl
  hp := ⟨fun _ => hb0, fun i h => by cases h⟩
  body := hbody
theorem lam_ok1 {v : Int} (e : Expr) (he : e = .Lambda params body scope pos) (S : LamS2 X.env.scope scope X.N) (hp : LPar (lamI X params body scope (some v)))
    (hbody : ∀ (A : Around) (outer : List Env) (s : Shared) (H : Hp) (E : XK) (f c' : Addr), Room k (lcx X (lamI X params body scope (some v)) A outer s H E f c').A → DE (lcx X (lamI X params body scope (some v)) A outer s H E f c') (Wd E) body te) : LamOk X k (lamI X params body scope (some v)) te where
  S := S
  C := fun ok => lcl_made ok S rfl
  hp := hp
  body := hbody
end
end TD

/-! ### raise X(..) from e, e the exception that is handled -/
namespace HotX
open PySem PySem.Spec PyProof.Rows
/-- the heap behind «from v» -/
def fromSt (h : Heap) (a : Addr) (v : Value) : Heap := (h.update a (Obj.mapFields (·.setIfInBounds 3 v))).update a (Obj.mapFields (·.setIfInBounds 4 (.bool true)))
theorem fromSt_at {h : Heap} {a : Addr} {oe : Obj} {vs : Array Value} {v : Value} (ha : h.get? a = some oe) (hd : oe.data = .fields vs) :
    (fromSt h a v).get? a = some ((oe.mapFields (·.setIfInBounds 3 v)).mapFields (·.setIfInBounds 4 (.bool true))) ∧ ((oe.mapFields (·.setIfInBounds 3 v)).mapFields (·.setIfInBounds 4 (.bool true))).data = .fields ((vs.setIfInBounds 3 v).setIfInBounds 4 (.bool true)) := by
  have hd3 := Obj.data_mapFields hd (·.setIfInBounds 3 v)
  have ha3 := Heap.get?_update_self (Obj.mapFields (·.setIfInBounds 3 v)) ha (Obj.isFreed_of_fields hd3)
  have hd4 := Obj.data_mapFields hd3 (·.setIfInBounds 4 (.bool true))
  exact ⟨Heap.get?_update_self (Obj.mapFields (·.setIfInBounds 4 (.bool true))) ha3 (Obj.isFreed_of_fields hd4), hd4⟩
theorem fromSt_other {h : Heap} {a b : Addr} {v : Value} (hne : a ≠ b) : (fromSt h a v).get? b = h.get? b := by
  unfold fromSt
  rw [Heap.get?_update_other _ _ hne, Heap.get?_update_other _ _ hne]
theorem raise_made_hotF {prog : Program} {w : World} {A : Around} {E : Value → Shared → Prop} {env : Env} {s : Shared} {x c : Sem Value} {Q : Flow → Shared → Prop} {x1 : Addr}
    (h : wpAny (model prog w) A x (fun v s₁ => wpAny (model prog w) A c (fun u s₂ => ∃ a oe vs cls, v = .ref a ∧ u = .ref x1 ∧ s₂.heap.get? a = some oe ∧ oe.cls = cls ∧ oe.data = .fields vs ∧ vs[1]? = some .none ∧ 4 < vs.size ∧ x1 ≠ a ∧ HotAt A x1 s₂.heap ∧
      PySem.W.Looks (model prog w) s₂.heap (isSubtype cls (.type "BaseException")) true ∧ PySem.W.Looks (model prog w) (fromSt s₂.heap a (.ref x1)) (typeOf cls) (.type "type") ∧ PySem.W.Looks (model prog w) s₂.heap (isInstance (.ref x1) (.type "BaseException")) true ∧
      E (.ref a) { s₂ with heap := (fromSt s₂.heap a (.ref x1)).update a (Obj.mapFields (·.setIfInBounds 2 (.ref x1))) }) E s₁) E s) :
    wpAny (model prog w) A (raiseStmt env (some x) (some c)) Q E s := by
  unfold raiseStmt
  dsimp only
  refine wpAny_bind (wpAny_mono h (fun v s₁ h₁ => ?_) fun _ _ x => x)
  refine wpAny_bind (wpAny_holding (wpAny_mono h₁ (fun u s₂ h₂ => ?_) fun _ _ x => x))
  obtain ⟨a, oe, vs, cls, rfl, rfl, ha, hcls, hd, h1, hi, hne, hot, L1, L3, L4, hE⟩ := h₂
  have LT : PySem.W.Looks (model prog w) s₂.heap (typeOf (.ref a)) cls := fun A Q E s k q => wpAny_typeOf_ref (k _ _ ha) (by rw [hcls]; exact q)
  have LI : PySem.W.Looks (model prog w) s₂.heap (isInstance (.ref a) (.type "BaseException")) true := LT.andThen L1
  have hnt : ∀ {Q' : Bool → Shared → Prop}, Q' false s₂ → wpAny (model prog w) A (isType (.ref a)) Q' E s₂ := by
    intro Q' hq
    simp only [isType, loadHead]
    refine wpAny_bind (wpAny_loadPart ha ?_)
    rw [hd]; exact wpAny_pure hq
  have hnt1 : ∀ {Q' : Bool → Shared → Prop}, Q' false s₂ → wpAny (model prog w) A (isType (.ref x1)) Q' E s₂ := by
    intro Q' hq
    obtain ⟨_, o1, vs1, g1, d1, _⟩ := hot
    simp only [isType, loadHead]
    refine wpAny_bind (wpAny_loadPart g1 ?_)
    rw [d1]; exact wpAny_pure hq
  have hd3 := Obj.data_mapFields hd (·.setIfInBounds 3 (.ref x1))
  have ha3 := Heap.get?_update_self (Obj.mapFields (·.setIfInBounds 3 (.ref x1))) ha (Obj.isFreed_of_fields hd3)
  obtain ⟨ha4, hd4⟩ := fromSt_at (v := .ref x1) ha hd
  have s3 : 3 < vs.size := by omega
  have s4 : 4 < (vs.setIfInBounds 3 (Value.ref x1)).size := by rw [set_size]; exact hi
  have s2 : 2 < ((vs.setIfInBounds 3 (Value.ref x1)).setIfInBounds 4 (Value.bool true)).size := by rw [set_size, set_size]; omega
  have h14 : ((vs.setIfInBounds 3 (Value.ref x1)).setIfInBounds 4 (Value.bool true))[1]? = some Value.none := set_other (by decide) (set_other (by decide) h1)
  have hcls4 : ((oe.mapFields (·.setIfInBounds 3 (.ref x1))).mapFields (·.setIfInBounds 4 (.bool true))).cls = cls := by rw [Obj.cls_mapFields, Obj.cls_mapFields]; exact hcls
  have LT4 : PySem.W.Looks (model prog w) (fromSt s₂.heap a (.ref x1)) (typeOf (.ref a)) cls := fun A Q E s k q => wpAny_typeOf_ref (k _ _ ha4) (by rw [hcls4]; exact q)
  have hnt4 : ∀ {Q' : Bool → Shared → Prop}, Q' false { s₂ with heap := fromSt s₂.heap a (.ref x1) } → wpAny (model prog w) A (isType (.ref a)) Q' E { s₂ with heap := fromSt s₂.heap a (.ref x1) } := by
    intro Q' hq
    simp only [isType, loadHead]
    refine wpAny_bind (wpAny_loadPart ha4 ?_)
    rw [hd4]; exact wpAny_pure hq
  have hot4 : HotAt A x1 (fromSt s₂.heap a (.ref x1)) := by
    obtain ⟨q1, o, vs', q2, q3, q4⟩ := hot
    exact ⟨q1, o, vs', by rw [fromSt_other (Ne.symm hne)]; exact q2, q3, q4⟩
  have rest : wpAny (model prog w) A (do
      let b ← isType (.ref a)
      if b = true then do
        let e ← holding [.ref a] (raisedFor (.ref a) (.ref a))
        setFlight e none
        raiseNew e
      else do
        let e ← raisedInstance (.ref a)
        setFlight e none
        raiseNew e : Sem Flow) Q E { s₂ with heap := fromSt s₂.heap a (.ref x1) } := by
    refine wpAny_bind (hnt4 ?_)
    simp only [Bool.false_eq_true, if_false]
    unfold raisedInstance
    refine wpAny_bind (wpAny_bind (LT4.here (wpAny_bind (L3.here ?_))))
    rw [if_pos (beq_self_eq_true _)]
    refine wpAny_pure ?_
    unfold setFlight
    refine wpAny_bind (wpAny_bind (wpAny_field ha4 hd4 h14 ?_))
    rw [if_neg (by decide)]
    refine wpAny_pure ?_
    exact raiseNew_hot hot4 hne ha4 hd4 s2 hE
  refine wpAny_bind (wpAny_pure ?_)
  dsimp only
  refine wpAny_bind (wpAny_holding ?_)
  unfold excFromValue isExcClass
  refine wpAny_bind (wpAny_bind (hnt ?_))
  simp only [Bool.false_eq_true, if_false]
  refine wpAny_pure ?_
  simp only [Bool.false_eq_true, if_false]
  refine wpAny_bind (LI.here ?_)
  simp only [if_true]
  refine wpAny_pure ?_
  have hb : ¬ ((Value.ref x1 == Value.none) = true) := by simp
  rw [if_neg hb]
  refine wpAny_bind (wpAny_holding ?_)
  refine wpAny_bind (wpAny_bind (hnt1 ?_))
  simp only [Bool.false_eq_true, if_false]
  refine wpAny_pure ?_
  simp only [Bool.false_eq_true, if_false]
  refine wpAny_bind (L4.here ?_)
  simp only [if_true]
  refine wpAny_pure ?_
  exact wpAny_bind (wpAny_setField ha hd s3 (wpAny_bind (wpAny_setField ha3 hd3 s4 rest)))
end HotX
namespace TD
open PySem L2 HotX
/-! ### raise X(..) from e -/
section
variable {X : Cx} {W : WX}
theorem ps_raiseHF {n : Str} {i : Nat} {e : Expr} {t : L2.St → Hp → XK → Prop} {cpos pos : Pos} (p : Addr × Obj) (hot : L2H.Hot1 X.A p) (hp : p ∈ X.pn) (hN : X.N[i]? = some n) (hl : X.env.kindOf n = some .local) (hd : (n == ("__debug__" : Str)) = false) (tk : L2.Takes X W) (he : L2H.PMk5 X e t) :
    PS X (.Raise (some e) (some (.Name n cpos)) pos) (fun _ σ H => σ[i]? = some (some (.ref p.1)) ∧ Raises X p.2.cls ∧ t σ H fun cls d H' => W cls d σ H') := by
  refine ⟨fun pins s σ H D I ⟨hσ, hr1, h⟩ => ?_⟩
  obtain ⟨hh, v1, e1, c1⟩ := hot
  show wpAny _ _ (do standAt pos; raiseStmt X.env (some (do let v ← eval e X.env; standAt pos; pure v)) (some (do let v ← eval (.Name n cpos) X.env; standAt pos; pure v))) _ _ _
  refine wpAny_bind (wpAny_standAt (raise_made_hotF (x1 := p.1) (wpAny_bind (wpAny_mono (he pins s σ H _ I h) (fun u s1 hu => wpAny_bind (wpAny_standAt (wpAny_pure ?_))) fun _ _ x => x))))
  obtain ⟨⟨a, oe, vs, sI, H', cls, d, rfl, J, k, hne, ha, hz, hdt, h1, na, os, ag, r, q⟩, h5⟩ := hu
  obtain ⟨m, hn, hlk⟩ := J.loc
  obtain ⟨u, ru, lk⟩ := hlk i n _ hN hσ (.inl hl)
  have eu : u = .ref p.1 := ru
  subst eu
  have hm : m n = some (.ref p.1) := by
    rcases lk with ⟨_, hm⟩ | ⟨hk, _⟩
    · exact hm
    · rcases hk with hk | hk <;> (rw [hl] at hk; cases hk)
  refine wpAny_bind (wpAny_Name (wpAny_loadName_local J.ok.kind hl (hn.keeps k) hm (wpAny_bind (wpAny_standAt (wpAny_pure ?_)))) hd)
  have hi : 4 < vs.size := h5 a oe vs rfl ha hdt
  have k4 : ∀ b u, sI.heap.get? b = some u → (fromSt s1.heap a (.ref p.1)).get? b = some u := fun b u z => by
    have nab : a ≠ b := fun y => by
      rw [← y, hne] at z
      cases z
    rw [fromSt_other nab]
    exact k b u z
  obtain ⟨r1, _⟩ := r (model X.prog X.w) s1.heap (J.kIn.keeps k)
  obtain ⟨_, r2⟩ := r (model X.prog X.w) (fromSt s1.heap a (.ref p.1)) (J.kIn.keeps k4)
  obtain ⟨r3, _⟩ := hr1 (model X.prog X.w) s1.heap (J.kIn.keeps k)
  have P1 := (J.pin p (List.mem_append_left _ hp)).1
  have nap : p.1 ≠ a := fun z => by
    rw [z, hne] at P1
    cases P1
  have LT1 : PySem.W.Looks (model X.prog X.w) s1.heap (typeOf (.ref p.1)) p.2.cls := fun A Q E s kk q => wpAny_typeOf_ref (kk _ _ (k _ _ P1)) q
  obtain ⟨ha4, hd4⟩ := fromSt_at (v := .ref p.1) ha hdt
  have h12 : (((vs.setIfInBounds 3 (Value.ref p.1)).setIfInBounds 4 (Value.bool true)).setIfInBounds 2 (Value.ref p.1))[1]? = some Value.none := set_other (by decide) (set_other (by decide) (set_other (by decide) h1))
  refine ⟨a, oe, vs, cls, rfl, rfl, ha, hz.1, hdt, h1, hi, nap, ⟨hh, p.2, v1, k _ _ P1, e1, c1⟩, r1, r2, LT1.andThen r3, tk _ _ (XE.new J (fun b u z => ?_) hne (Heap.get?_update_self _ ha4 (Obj.isFreed_of_fields (Obj.data_mapFields hd4 _)))
    ⟨by rw [Obj.cls_mapFields, Obj.cls_mapFields, Obj.cls_mapFields]; exact hz.1, by rw [HandSPX.dict_mapFields, HandSPX.dict_mapFields, HandSPX.dict_mapFields]; exact hz.2.1⟩ (Obj.data_mapFields hd4 _) h12 na os ag q)⟩
  have nab : a ≠ b := fun y => by
    rw [← y, hne] at z
    cases z
  show ((fromSt s1.heap a (.ref p.1)).update a (Obj.mapFields (·.setIfInBounds 2 (.ref p.1)))).get? b = some u
  rw [Heap.get?_update_other _ _ nab]
  exact k4 b u z
end
/-! ### an except suite that raises: its name goes -/
section
variable {X : Cx} {pins : List (Addr × Obj)} {σ : L2.St} {H : Hp} {s : Shared}
theorem inv_gone {i : Nat} {n : Str} {m : Str → Option Value} {v : Option Value} {h' : Heap} {tk : Nat} (I : Inv X pins σ H s) (hN : X.N.Nodup) (hi : X.N[i]? = some n) (hlk : ∀ (i : Nat) (x : Str) (v : V), X.N[i]? = some x → σ[i]? = some (some v) → Vis X.env.scope x → ∃ u, RelV v u ∧ Look X.env s.heap m x u)
    (hn' : h'.Ns X.env.locals (fun x => if x = n then v else m x)) (hs : Heap.SameBut X.env.locals s.heap h') : Inv X pins (σ.set i none) H { s with heap := h', toks := tk } := by
  have neL : ∀ b o, X.s_0.heap.get? b = some o → b ≠ X.env.locals := fun b o e => Nat.ne_of_lt (Nat.lt_of_lt_of_le (Heap.lt_size e) I.ok.above)
  refine ⟨I.ok, I.os, I.bare, ⟨fun b o e n hb hx => ?_, fun b o e n hb hx => ?_, I.base.free, fun b o e hx => ?_, I.base.tups, I.base.frzs, I.base.tbls⟩, ⟨_, hn', fun j y v' e1 e2 e3 => ?_⟩, fun y c e => ?_, I.free, I.freeC, fun p hp => ?_, fun b ob e => ?_, by simpa using I.len⟩
  · exact (hs.2 b (neL b o e)).trans (I.base.keep b o e n hb hx)
  · obtain ⟨sl, e1⟩ := I.base.slot b o e n hb hx
    exact ⟨sl, (hs.2 b (neL b o e)).trans e1⟩
  · obtain ⟨o', e1⟩ := I.base.there b o e hx
    exact ⟨o', (hs.2 b (neL b o e)).trans e1⟩
  · by_cases hj : j = i
    · subst hj
      by_cases hlt : j < σ.length
      · rw [List.getElem?_set_self hlt] at e2; cases e2
      · rw [List.getElem?_eq_none (by simpa using hlt)] at e2; cases e2
    · rw [List.getElem?_set_ne (Ne.symm hj)] at e2
      obtain ⟨u', r', q⟩ := hlk j y v' e1 e2 e3
      refine ⟨u', r', ?_⟩
      rcases q with ⟨k, e⟩ | ⟨k, c, e, z⟩
      · have ny : y ≠ n := fun e => hj (nodup_ix hN e1 (e ▸ hi))
        exact .inl ⟨k, (if_neg ny).trans e⟩
      · exact .inr ⟨k, c, e, z.sameBut hs (I.cne y c e)⟩
  · obtain ⟨w', z⟩ := I.cell y c e
    exact ⟨w', z.sameBut hs (I.cne y c e)⟩
  · obtain ⟨e, n, ne, nf, d⟩ := I.pin p hp
    exact ⟨(hs.2 p.1 ne).trans e, n, ne, nf, d⟩
  · refine (I.hok b ob e).stay (fun c w' hc q => (hs.2 c ?_).trans q) (fun _ q => q) fun _ _ q => q
    intro z
    subst z
    rcases hc with hc | hc
    · rw [← hc, I.free] at e; cases e
    · rw [I.free] at hc; cases hc
theorem traced_sameBut {h h' B : Heap} {e L : Addr} {Z : Obj → Prop} {fl : Value} {m : Str → Option Value} (x : HandSPX.TracedZ h B e Z fl) (hn : h.Ns L m) (hs : Heap.SameBut L h h') : HandSPX.TracedZ h' B e Z fl := by
  obtain ⟨oe, vs, T, oT, ts, he, hz, hd, h1, hnT, hTe, hT, hdT, h3⟩ := x
  obtain ⟨oL, es, ep, hoL, hdL, _⟩ := hn
  have neE : e ≠ L := fun q => by
    rw [q, hoL] at he
    have z := Option.some.inj he
    rw [← z, hdL] at hd
    cases hd
  have neT : T ≠ L := fun q => by
    rw [q, hoL] at hT
    have z := Option.some.inj hT
    rw [← z, hdL] at hdT
    cases hdT
  exact ⟨oe, vs, T, oT, ts, (hs.2 e neE).trans he, hz, hd, h1, hnT, hTe, (hs.2 T neT).trans hT, hdT, h3⟩
/-- the heap with another object at L -/
theorem swap_at {h : Heap} {L : Addr} {o o' : Obj} (e : h.get? L = some o) (hf : o'.isFreed = false) : ∃ h', Heap.SameBut L h h' ∧ h'.get? L = some o' := by
  refine ⟨h.update L (fun _ => o'), ⟨?_, fun b hb => Heap.get?_update_other _ _ (Ne.symm hb)⟩, Heap.get?_update_self _ e hf⟩
  simp [Heap.update]
end
end TD

namespace TD
open PySem L2 HotX
/-- the context of an except suite, another wish about what flies out -/
abbrev suiteE (X : Cx) (a : Addr) (pn : List (Addr × Obj)) (xe : Value → Shared → Prop) : Cx := { X with A := X.A.mark (some (.ref a)), calm := false, pn := pn, xe := xe }
section
variable {X : Cx} {pins : List (Addr × Obj)} {σ : L2.St} {H : Hp} {s : Shared} {a : Addr} {pn pn' : List (Addr × Obj)} {xe : Value → Shared → Prop}
theorem suiteE_of (I : Inv (X.suite a pn) pn' σ H s) : Inv (suiteE X a pn xe) pn' σ H s := Inv.unwish (X := suiteE X a pn xe) (E := fun _ _ => False) I
theorem unsuiteE {q : Addr × Obj} (I : Inv (suiteE X a (q :: (X.pn ++ pins)) xe) pn' σ H s) (ok : X.Ok) : Inv X pins σ H s :=
  Inv.unsuite (X := X) (a := a) (q := q) (pn' := pn') (show Inv (X.suite a (q :: (X.pn ++ pins))) pn' σ H s from I.wish fun _ _ => False) ok
/-- what a suite that raises comes to -/
abbrev asRaised (X : Cx) (a : Addr) (n : Str) (pos : Pos) : Value → Shared → Prop := AsSuiteRaised (model X.prog X.w) (X.A.mark (some (.ref a))) X.env n pos (notedBy (model X.prog X.w) (X.A.mark (some (.ref a))) X.env (cameBackBy (model X.prog X.w) X.A X.env X.xe))
theorem takes_as {n : Str} {i : Nat} {pos : Pos} {q : Addr × Obj} {Wout : WX} (ok : X.Ok) (hs : X.stack = X.env :: X.outer) (hf : X.env.frame = some X.env.locals) (hN : X.N.Nodup) (hi : X.N[i]? = some n) (hln : X.env.kindOf n = some .local) (tk : L2.Takes X Wout) :
    L2.Takes (suiteE X a (q :: (X.pn ++ pins)) (asRaised X a n pos)) (fun c d σ H => Wout c d (σ.set i none) H) := fun u s' ⟨a2, B, sI, pn2, σ2, H2, cls, d, eu, I2, nb, up, sky, na, os, ag, w⟩ => by
  subst eu
  have J : Inv X pins σ2 H2 sI := unsuiteE I2 ok
  have hfr : (X.A.mark (some (.ref a))).frames = some (X.env :: X.outer) := ok.frames.trans (congrArg some hs)
  obtain ⟨m, hnI, hlk⟩ := id J.loc
  have hLf : X.env.locals ∈ frs X.stack := by rw [hs]; exact List.mem_filterMap.mpr ⟨X.env, List.mem_cons_self, hf⟩
  have hcls : (X.env.scope.kind == .class || (X.env.scope.kind == .module && X.env.locals != X.env.globals)) = false := by rw [J.ok.kind]; rfl
  have sky : Sky B (X.env :: X.outer) a2 (Zc cls d) X.env.locals s'.heap := hs ▸ sky
  show wpAny (model X.prog X.w) (X.A.mark (some (.ref a))) (noteFrame (.ref a2) X.env) _ _ s'
  have fin : ∀ h1, HandSPX.HeldZ B (X.env :: X.outer) a2 (Zc cls d) X.env.locals h1 → s'.heap.UpToSlots h1 → wpAny (model X.prog X.w) (X.A.mark (some (.ref a))) (do bindName X.env n .none; unbindBehindTheSuite X.env n pos)
      (fun _ s₂ => wpAny (model X.prog X.w) (X.A.mark (some (.ref a))) (passOn "try.except-as" (.ref a2) X.env : Sem Flow) (fun _ _ => False) (notedBy (model X.prog X.w) (X.A.mark (some (.ref a))) X.env (cameBackBy (model X.prog X.w) X.A X.env X.xe)) s₂)
      (fun y s₂ => wpAny (model X.prog X.w) (X.A.mark (some (.ref a))) (setFlight (.ref a2) none) (fun _ s₃ => (notedBy (model X.prog X.w) (X.A.mark (some (.ref a))) X.env (cameBackBy (model X.prog X.w) X.A X.env X.xe)) y s₃) (notedBy (model X.prog X.w) (X.A.mark (some (.ref a))) X.env (cameBackBy (model X.prog X.w) X.A X.env X.xe)) s₂) { s' with heap := h1 } := fun h1 hh u1 => by
    have hn1 : h1.Ns X.env.locals m := (up.trans u1).ns hnI
    obtain ⟨b1, b0, f1, t1⟩ := hh
    have hbL : B.get? X.env.locals = none := by
      obtain ⟨_, ⟨L', _, hf', hb', _⟩, _⟩ := f1
      rw [hf] at hf'
      rw [Option.some.inj hf']
      exact hb'
    refine wpAny_nameGoes_keeps hln hn1 hcls fun h₂ v hn₂ hs₂ => ?_
    have b2 : B.StaysIn h₂ := fun b o hb => (hs₂.2 b fun q => by rw [q, hbL] at hb; cases hb).trans (b1 b o hb)
    have f2 : h₂.FunFrames B (X.env :: X.outer) := Heap.FunFrames.sameBut hs₂ hn₂ f1
    have t2 := traced_sameBut t1 hn1 hs₂
    obtain ⟨oe, vs, T, oT, ts, he, hz, hd, h1', r⟩ := id t2
    unfold passOn
    refine wpAny_bind (wpAny_field he hd h1' ?_)
    rw [if_neg (show ¬ ((Value.ref T == Value.none) = true) from by simp)]
    rw [hf]
    have go : wpAny (model X.prog X.w) (X.A.mark (some (.ref a))) (setFlight (.ref a2) (some X.env.locals)) (fun _ s4 => wpAny (model X.prog X.w) (X.A.mark (some (.ref a))) (throw (.ref a2) : Sem Flow) (fun _ _ => False) (notedBy (model X.prog X.w) (X.A.mark (some (.ref a))) X.env (cameBackBy (model X.prog X.w) X.A X.env X.xe)) s4) (notedBy (model X.prog X.w) (X.A.mark (some (.ref a))) X.env (cameBackBy (model X.prog X.w) X.A X.env X.xe)) { s' with heap := h₂, toks := s'.toks + 1 } := by
      refine HandSPX.setFlight_anyZ (s := { s' with heap := h₂, toks := s'.toks + 1 }) (l := X.env :: X.outer) b2 f2 t2 fun h₃ b3 f3 t3 u3 => wpAny_throw ?_
      show wpAny (model X.prog X.w) (X.A.mark (some (.ref a))) (noteFrame (.ref a2) X.env) _ _ _
      refine HandSPX.againZ hf t3 ?_
      obtain ⟨oe', vs', T', oT', ts', he', hz', hd', h1'', r'⟩ := id t3
      show wpAny (model X.prog X.w) X.A (do
        if (← field (.ref a2) 1) == .none then unsupported "frame.own-activation:exception-without-traceback"
        setFlight (.ref a2) X.env.frame) _ _ _
      refine wpAny_bind (wpAny_field he' hd' h1'' ?_)
      rw [if_neg (show ¬ ((Value.ref T' == Value.none) = true) from by simp)]
      rw [hf]
      refine HandSPX.setFlight_anyZ (s := { s' with heap := h₃, toks := s'.toks + 1 }) (l := X.env :: X.outer) b3 f3 t3 fun h₄ b4 f4 t4 u4 => tk _ _ ?_
      obtain ⟨oI, esI, epI, hoI, hdI, _⟩ := id hnI
      obtain ⟨o2, es2, ep2, ho2, hd2, r2⟩ := id hn₂
      obtain ⟨hG, sG, eG⟩ := swap_at (o' := o2) hoI (Obj.isFreed_of_dict hd2)
      have I' := inv_gone (tk := sI.toks) J hN hi hlk (v := v) (h' := hG) ⟨o2, es2, ep2, eG, hd2, r2⟩ sG
      refine ⟨a2, B, { sI with heap := hG, toks := sI.toks }, pins, σ2.set i none, H2, cls, d, rfl, I', fun b o e hb => ?_, fun b o e hnf => ?_, .inr (.inr ⟨b4, b0, by rw [hs]; exact f4, t4⟩), na, os, ag, w⟩
      · have ne : b ≠ X.env.locals := fun z => hb (by rw [z]; exact hLf)
        exact nb b o ((sG.2 b ne).symm.trans e) hb
      · have e : hG.get? b = some o := e
        have u34 := u3.trans u4
        by_cases z : b = X.env.locals
        · subst z
          rw [eG] at e
          have e := Option.some.inj e
          subst e
          exact u34 _ _ ho2 hnf
        · rw [sG.2 b z] at e
          obtain ⟨sl, e1⟩ := (up.trans u1) b o e hnf
          exact let ⟨sl2, e2⟩ := u34 b _ ((hs₂.2 b z).trans e1) hnf; ⟨sl2, e2⟩
    first
    | exact wpAny_bind (wpAny_pure (wpAny_bind go))
    | exact wpAny_bind go
  rcases sky with ⟨hB, hn, hl, oe, vs, he, hz, hd, h1⟩ | fl | hh
  · exact HandSPX.look_newZ Zc.steady hfr hl hf he hB hn hd h1 hz fin
  · exact HandSPX.looks_onZ Zc.steady hfr hf fl fin
  · exact HandSPX.againZ hf hh.2.2.2 (fin s'.heap hh (Heap.UpToSlots.refl _))
end
end TD

namespace TD
open PySem L2 HotX
section
variable {X : Cx} {x1 n : Str} {c1 : Value} {i : Nat} {body suite : List Stmt} {b0 : Stmt} {np1 pos pos' : Pos} {tb : WX → TS} {ts : Addr → Obj → Value → Option Addr → TS} {Wout : WX}
/-- the clause's wish: slot i is n's; the suite may raise -/
def wAsX (K : PySem.W.Frag) (c : Value) (i : Nat) (ts : Addr → Obj → Value → Option Addr → TS) (Wout : WX) (D : Ends) : WX := fun cls d σ H =>
  ∃ b, PySem.W.exmOne K cls c = some b ∧ (b = true → ∀ a oe, oe.cls = cls → H a = none → i < σ.length → ts a oe cls d { nx := fun σ' H' => D.nx (σ'.set i none) H', rt := D.rt, bk := fun σ' H' => D.bk (σ'.set i none) H', ct := fun σ' H' => D.ct (σ'.set i none) H' } (σ.set i (some (.ref a))) H) ∧ (b = false → Wout cls d σ H)
theorem try_asX (hs : X.stack = X.env :: X.outer) (hf : X.env.frame = some X.env.locals) (hN : X.N.Nodup) (hi : X.N[i]? = some n) (hln : X.env.kindOf n = some .local) (hc1 : Names X x1 c1) (tk : L2.Takes X Wout)
    (hb : ∀ (W : WX) (pn : List (Addr × Obj)) (xe : Value → Shared → Prop), L2N.Takes (X.tr pn xe) W → PSs (X.tr pn xe) body (tb W))
    (hsu : ∀ (a : Addr) (oe : Obj) (cls : Value) (d : Option Addr) (pn : List (Addr × Obj)) (xe : Value → Shared → Prop), L2N.Zn cls d oe → L2H.Hot1 (X.A.mark (some (.ref a))) (a, oe) → L2.Takes (suiteE X a ((a, oe) :: pn) xe) (fun c d σ H => Wout c d (σ.set i none) H) → PSs (suiteE X a ((a, oe) :: pn) xe) (b0 :: suite) (ts a oe cls d)) :
    PS X (.Try body [.ExceptHandler (some (.Name x1 np1)) (some n) (b0 :: suite) pos'] [] [] pos) (fun D σ H => tb (wAsX X.K c1 i ts Wout D) D σ H) := ⟨fun pins s σ H D I h => by
  have ok := I.ok
  have hfr : X.A.frames = some (X.env :: X.outer) := ok.frames.trans (congrArg some hs)
  let hds : List ExceptHandler := [.ExceptHandler (some (.Name x1 np1)) (some n) (b0 :: suite) pos']
  let caught : Value → Shared → Prop := fun e sa => wpAny (model X.prog X.w) X.A (noteFrame e X.env) (fun _ sb => wpAny (model X.prog X.w) X.A (setFlight e none) (fun _ sc => wpAny (model X.prog X.w) X.A (handleBy e X.env hds) (SP X pins D) X.xe sc) X.xe sb) X.xe sa
  have tk2 : L2N.Takes (X.tr (X.pn ++ pins) caught) (wAsX X.K c1 i ts Wout D) := fun u s' ⟨a, B, sI, pins', σ', H', cls, d, eu, J', nb, up, sky, na, os, ag, b, e1, yes, no⟩ => by
    subst eu
    have J := J'.ofTry ok
    have skyL : Sky B (X.env :: X.outer) a (L2N.Zn cls d) X.env.locals s'.heap := hs ▸ sky
    refine L2N.Sky.land L2N.Zn.steady hfr hf skyL fun h3 fl3 up3 => ?_
    obtain ⟨oe3, vs3, he3, hz3, hd3⟩ := fl3.there
    have apart : ∀ {h : Heap} {o : Obj} {vs : Array Value}, h.FunFrames B (X.env :: X.outer) → h.get? a = some o → o.data = .fields vs → a ∉ frs (X.env :: X.outer) := fun ff e dd hm => by
      obtain ⟨_, o', e', no⟩ := ff.mem hm
      exact no _ ((Option.some.inj (e'.symm.trans e)) ▸ dd)
    have out := apart fl3.2.2.1 he3 hd3
    have nL : a ≠ X.env.locals := fun z => out (List.mem_filterMap.mpr ⟨X.env, List.mem_cons_self, z ▸ hf⟩)
    have nF : a ∉ X.fs := fun hm => let ⟨e, m1, m2⟩ := List.mem_filterMap.mp hm; out (List.mem_filterMap.mpr ⟨e, List.mem_cons_of_mem _ m1, m2⟩)
    have at3 : ∀ (h : Heap) {oe : Obj} {vs : Array Value}, B.StaysIn h → sI.heap.UpToSlots h → h.get? a = some oe → oe.data = .fields vs → Inv X pins σ' H' { s' with heap := h } ∧ Inv (X.suite a ((a, oe) :: (X.pn ++ pins))) [] σ' H' { s' with heap := h } := fun h _ _ st u e dd => by
      have L : Inv X pins σ' H' { s' with heap := h } := J.landed (s' := { s' with heap := h }) nb st u os ag
      exact ⟨L, L.suite e dd na nL nF⟩
    obtain ⟨J3, S3⟩ := at3 _ fl3.1 (up.trans up3) he3 hd3
    have LT : PySem.W.Looks (model X.prog X.w) h3 (typeOf (.ref a)) cls := fun A Q E s k q => wpAny_typeOf_ref (k _ _ he3) (hz3.1 ▸ q)
    refine PySem.W.exc_clause_as (nameGo (Y := X.suite a ((a, oe3) :: (X.pn ++ pins))) rfl S3 hc1 ⟨b, PySem.W.exm_one J3.kIn LT e1, ?_⟩)
    cases b with
    | true =>
      refine HandSPX.lands_againZ (s := { s' with heap := _ }) fl3 fun h5 fl5 up5 => ?_
      obtain ⟨oe5, vs5, he5, hz5, hd5⟩ := fl5.there
      have S5 := (at3 _ fl5.1 ((up.trans up3).trans up5) he5 hd5).2
      refine store_ok (X := X.suite a ((a, oe5) :: (X.pn ++ pins))) (v := .ref a) S5 hN hi (.inl hln) rfl (fun s6 S6 => ?_) (.inr hln)
      have hot : L2H.Hot1 (X.A.mark (some (.ref a))) (a, oe5) := ⟨rfl, vs5, hd5, hz5.2.2 vs5 hd5⟩
      refine wpAny_mono ((hsu a oe5 cls d (X.pn ++ pins) _ hz5 hot (takes_as (pos := pos') ok hs hf hN hi hln tk)).run [] s6 _ H' _ (suiteE_of S6) (yes rfl a oe5 hz5.1 na (by rw [J.len]; exact (List.getElem?_eq_some_iff.mp hi).1))) (fun f s7 out7 => ?_) (fun _ _ z => z)
      have name_goes : ∀ {σ7 : St} {H7 : Hp} {Q : Shared → Prop}, Inv (suiteE X a ((a, oe5) :: (X.pn ++ pins)) (asRaised X a n pos')) [] σ7 H7 s7 → (∀ s8, Inv X pins (σ7.set i none) H7 s8 → Q s8) → wpAny (model X.prog X.w) X.A (do bindName X.env n .none; unbindBehindTheSuite X.env n pos') (fun _ s8 => Q s8) X.xe s7 :=
        fun S7 hq => gone_ok (unsuiteE S7 ok) hN hi hln hq
      cases f with
      | ret u => obtain ⟨v7, σ7, H7, S7, r7, q7⟩ := out7; exact name_goes S7 fun s8 J8 => ⟨v7, _, _, J8, r7, q7⟩
      | next => obtain ⟨σ7, H7, S7, q7⟩ := out7; exact name_goes S7 fun s8 J8 => ⟨_, _, J8, q7⟩
      | brk => obtain ⟨σ7, H7, S7, q7⟩ := out7; exact name_goes S7 fun s8 J8 => ⟨_, _, J8, q7⟩
      | cont => obtain ⟨σ7, H7, S7, q7⟩ := out7; exact name_goes S7 fun s8 J8 => ⟨_, _, J8, q7⟩
    | false =>
      refine wpAny_handleBy_nil ?_
      obtain ⟨k1, k2, k3, oe, vs, T, oT, tr, he, hz, hd, h1, hr⟩ := id fl3
      have goes : wpAny (model X.prog X.w) X.A (setFlight (.ref a) X.env.frame) (fun _ sx => wpAny (model X.prog X.w) X.A (throw (.ref a) : Sem Flow) (SP X pins D) X.xe sx) X.xe { s' with heap := h3 } := by
        rw [hf]
        refine HandSPX.setFlight_upZ (s := { s' with heap := _ }) (L2H.flyingZ_imp (fun o z => z.zc) fl3) fun h6 held up6 => wpAny_throw (tk _ _ ⟨a, B, sI, pins, σ', H', cls, d, rfl, J, nb, (up.trans up3).trans up6, ?_, na, os, ag, no rfl⟩)
        exact .inr (.inr (hs ▸ held))
      unfold PySem.passOn
      refine wpAny_bind (wpAny_field (s := { s' with heap := _ }) he hd h1 ?_)
      rw [if_neg (show ¬ ((Value.ref T == Value.none) = true) by simp)]
      first | exact wpAny_bind (wpAny_pure (wpAny_bind goes)) | exact wpAny_bind goes
  refine wpAny_Try_except (wpAny_mono ((hb _ _ caught tk2).run [] s σ H D (I.toTry _) h) (fun f sd out => ?_) fun _ _ he => he)
  cases f with
  | ret u => obtain ⟨v, σ', H', J', r, q⟩ := out; exact ⟨v, σ', H', J'.ofTry ok, r, q⟩
  | next => obtain ⟨σ', H', J', q⟩ := out; exact wpAny_execs_nil ⟨σ', H', J'.ofTry ok, q⟩
  | brk => obtain ⟨σ', H', J', q⟩ := out; exact ⟨σ', H', J'.ofTry ok, q⟩
  | cont => obtain ⟨σ', H', J', q⟩ := out; exact ⟨σ', H', J'.ofTry ok, q⟩⟩
end
end TD

namespace TD
open PySem L2 HotX
/-! ### defs whose exceptions have no context -/
structure OkN (P : Program) (w : World) (K : PySem.W.Frag) (mg : Str → Option Value) (base : Heap) (x : Str) (st : Stmt) (k : Nat) (ps : List Str) (spd : SpD) : Prop where
  ex : ∃ f fd, L2.Fun K x x st f fd ∧ mg x = some (.ref f) ∧ FnOk P w K mg base (L2N.CX P w) k f fd ps (upF K spd)
abbrev XdN (P : Program) (w : World) (K : PySem.W.Frag) (mg : Str → Option Value) (base : Heap) (N : List Str) (qual : Str) (scope : Scope) (f : Addr) (cd : Value) (A : Around) (outer : List Env) (s : Shared) (H : Hp) (E : XK) : Cx := cxOf (L2N.CX P w) P w K mg base N qual scope f cd A outer s H E
section
variable {P : Program} {w : World} {K : PySem.W.Frag} {mg : Str → Option Value} {base : Heap} {x : Str} {st : Stmt} {k j : Nat} {ps : List Str} {spd : SpD}
theorem xdn_takes {N : List Str} {qual : Str} {scope : Scope} {f : Addr} {cd : Value} {A : Around} {outer : List Env} {s : Shared} {H : Hp} {E : XK} : L2N.Takes (XdN P w K mg base N qual scope f cd A outer s H E) (Wd E) := L2N.takes_of rfl rfl rfl rfl
theorem xdn_owns {N : List Str} {qual : Str} {scope : Scope} {f : Addr} {cd : Value} {A : Around} {outer : List Env} {s : Shared} {H : Hp} {E : XK} : PassesOwn (model (XdN P w K mg base N qual scope f cd A outer s H E).prog (XdN P w K mg base N qual scope f cd A outer s H E).w) (XdN P w K mg base N qual scope f cd A outer s H E).A (XdN P w K mg base N qual scope f cd A outer s H E).env (XdN P w K mg base N qual scope f cd A outer s H E).xe := passes_of rfl
/-- what it lets out has no context: the wider promise -/
theorem OkN.ok (o : OkN P w K mg base x st k ps spd) : Ok P w K mg base x st k ps spd := let ⟨f, fd, a, b, c⟩ := o.ex
  ⟨f, fd, a, b, ⟨c.len, fun A outer s H args us vs Q E hr e0 hb hv hs => codeAny_mono (c.run A outer s H args us vs Q E hr e0 hb hv hs) fun r s' h => by
    cases r with
    | error e => obtain ⟨a, B, H', cls, d, e1, fl, rest⟩ := h; exact ⟨a, B, H', cls, d, e1, L2H.flyingZ_imp (fun o z => z.zc) fl, rest⟩
    | ok f => cases f <;> exact h⟩⟩
/-- a def that raises nothing -/
theorem OkN.calm (o : Ok P w K mg base x st k ps spd) (hE : ∀ ds M Q E, spd ds M Q E → spd ds M Q fun _ _ _ => False) : OkN P w K mg base x st k ps spd := let ⟨f, fd, a, b, c⟩ := o.ex
  ⟨f, fd, a, b, ⟨c.len, fun A outer s H args us vs Q E hr e0 hb hv ⟨ds, M, Q0, E0, r, sm, q, hq, he⟩ =>
    codeAny_mono (c.run A outer s H args us vs Q (fun _ _ _ => False) hr e0 hb hv ⟨ds, M, Q0, _, r, sm, hE _ _ _ _ q, hq, fun _ _ _ h => h.elim⟩) fun r s' h => by
    cases r with
    | error e => obtain ⟨_, _, _, _, _, _, _, _, _, _, _, _, z⟩ := h; exact z.elim
    | ok f => cases f <;> exact h⟩⟩
theorem okN_of (a : At K mg x st) {N : List Str} (S : FnScope N ps (defScope st)) (m : Nat) (hm' : N.length - ps.length = m) (len : ∀ ds M Q E, spd ds M Q E → ds.length = ps.length)
    (body : ∀ (f : Addr) (cd : Value) (A : Around) (outer : List Env) (s : Shared) (H : Hp) (E : XK), Room k (XdN P w K mg base N x (defScope st) f cd A outer s H E).A →
      ∃ td, DSs (XdN P w K mg base N x (defScope st) f cd A outer s H E) (Wd E) (defBody st) td ∧ ∀ ds M Q E, spd ds M Q E → td (dEnds Q E) (ds.map some ++ List.replicate m none) M) : OkN P w K mg base x st (k + 1) ps spd := by
  subst hm'
  obtain ⟨f, fd, F, hm⟩ := a.ex
  obtain ⟨oc, od, kV, doc, pm, an, cdv, ct, osl, efd, lk, hcd⟩ := id F.ex
  refine ⟨f, fd, F, hm, ?_⟩
  subst efd
  refine fn_of lk hcd S (fun vs H Q E ⟨ds, M, Q0, E0, r, s, q, _⟩ => r.length.trans (len _ _ _ _ q)) fun A outer s H vs Q E hr ⟨ds, M, Q0, E0, r, sm, q, hq, he⟩ => ?_
  obtain ⟨td, h1, h2⟩ := body f cdv A outer s H E hr
  refine ⟨_, h1, ds.map some ++ List.replicate (N.length - ps.length) none, M, dEnds Q0 E0, ?_, sm, h2 ds M Q0 E0 q, ⟨?_, ?_, ?_, ?_, ?_⟩⟩
  · have e : (L2.start N vs) = vs.map some ++ List.replicate (N.length - ps.length) none := by unfold L2.start; rw [r.length, len _ _ _ _ q]
    rw [e]
    exact DvL.start r _
  · rintro ρ' M' ⟨M0, le, h⟩ σ' H' dv' s' t'
    exact hq _ _ h _ H' .non (s'.le le) (t'.le le)
  · rintro d M' ⟨M0, le, h⟩ v H' r' s' t'
    exact hq _ _ h _ H' r' (s'.le le) (t'.le le)
  · rintro ρ' M' h; exact h.elim
  · rintro ρ' M' h; exact h.elim
  · rintro c g ρ' M' ⟨M0, le, h⟩ od σ' H' x dv' s' t'
    exact he _ _ _ h od H' x (s'.le le) (t'.le le)
end
section
variable {X : Cx} {W : WX} {x : Str} {st : Stmt} {k : Nat} {ps ks : List Str} {spd : SpD} {n : Nat} {gv : List Value → List Value → List Value} {gd : List D → List D → List D} {p pos : Pos} {e : Expr} {es : List Expr} {ta : TDA}
theorem run_okN {pins : List (Addr × Obj)} {σ : St} {H : Hp} {s : Shared} {Q : VK} {f : Addr} {fd : FuncData} {us ws : List Value} {vs zs : List V} {ds es : List D} {M : Mem} {Q0 : D → Mem → Prop} {E0 : XD} (F : L2.Fun X.K x x st f fd) (G : FnOk X.prog X.w X.K X.mg X.base (L2N.CX X.prog X.w) k f fd ps (upF X.K spd)) (B : Bd x st ps n ks gv gd) (hr : Room k X.A) (tk : L2N.Takes X W)
    (I : Inv X pins σ H s) (l1 : us.length = n) (l2 : ws.length = ks.length) (r1 : Vals vs us) (r2 : Vals zs ws) (d1 : Reps X.K H vs ds) (d2 : Reps X.K H zs es) (sm : Sim X.K H M) (h : onSp spd (gd ds es) M Q0 E0) (hq : qUp X.K H M Q0 Q) (he : wUp X.K W σ H M E0) :
    wpAny (model X.prog X.w) X.A (call (.ref f) us (ks.zip ws)) (EP X pins σ Q) X.xe s := by
  obtain ⟨xs, rx, dx⟩ := B.rel l1 l2 r1 r2 d1 d2
  have hsp : upF X.K spd xs H Q (fun c d H' => W c d σ H') := ⟨_, M, Q0, E0, dx, sm, onSp_iff.mp h, hq, he⟩
  obtain ⟨oc, od, kV, doc, pm, an, cdv, ct, osl, rfl, lk, hcd⟩ := F.ex
  refine wpAny_call (codeAny_mono (G.run X.A X.stack s H ⟨us, ks.zip ws⟩ (gv us ws) xs Q _ hr I.env0 (.of_eq (B.to kV doc pm an cdv ct us ws l1 l2)) rx hsp) fun r s' hq => ?_)
  cases r with
  | error e => exact tk e s' (L2N.XE.of_call I (fun _ _ _ h => h) hq)
  | ok fl =>
    cases fl with
    | ret u => exact I.after hq
    | next => exact False.elim hq
    | brk => exact False.elim hq
    | cont => exact False.elim hq
theorem d_callN (o : OkN X.prog X.w X.K X.mg X.base x st k ps spd) (B : Bd x st ps ps.length [] (fun us _ => us) (fun ds _ => ds)) (hr : Room k X.A) (tk : L2N.Takes X W) (ha : DA X W (e :: es) ta) (hg : Gl X x := by rfl) (hdb : (x == ("__debug__" : Str)) = false := by decide)
    (he : starEach (e :: es) X.env = (false, eval e X.env) :: starEach es X.env := by rfl) (hpl : (backTo pos (starEach es X.env)).any (·.1) = false := by rfl) : DE X W (.Call (.Name x p) (e :: es) [] pos) (tdCall spd ps.length ta) := by
  obtain ⟨f, fd, F, hm, G⟩ := o.ex
  refine ⟨fun pins s σ H Q I ⟨ρ, M, Q0, E0, dv, sm, q, hq, hw⟩ => ?_⟩
  refine wpAny_Call_Name_kw (ld_glob I hg hm ?_ hdb)
  refine PySem.W.callWith_K (h₀ := X.base) I.ok.mod.kin F.kp (thn (ha.run pos pins s σ H (fun vs H1 => ∃ ds M1, Reps X.K H1 vs ds ∧ Sim X.K H1 M1 ∧ Tr H M H1 M1 ∧ ds.length = ps.length ∧ onSp spd ds M1 Q0 E0) I ⟨ρ, M, _, E0, dv, sm, q, fun ds M1 q1 vs H1 r1 s1 t1 => ⟨ds, M1, r1, s1, t1, q1⟩, ?_⟩) fun us s1 ⟨vs, H1, I1, r, ds, M1, d1, s1', t1, hl, q1⟩ => ⟨I1.kIn, ?_⟩) he hpl
  · exact hw
  · exact run_okN F G B hr tk I1 (vals_len r d1 hl) rfl r .nil d1 .nil s1' q1 (hq.mono t1) (hw.mono t1)
/-- an own error made where nothing is handled: no context -/
theorem pmkN_oex {CX : CXT} {C fI : Addr} {fd : FuncData} {ps : List Str} {sp : Sp} {ta : TA} (T : OexC X.K C) (iC : PySem.W.findIn X.K (.ref C) "__init__" = some (some (.ref fI))) (tI : PySem.W.typeIn X.K (.ref fI) = some (.type "function"))
    (F1 : FnOk X.prog X.w X.K X.mg X.base CX k fI fd ps sp) (hr : Room (k + 1) X.A) (hb : Binds X.K fd ps []) (hx : Passes CX X (fun _ _ _ => False)) (hg : Gl X x) (hm : X.mg x = some (.ref C)) (ha : PA X (e :: es) ta)
    (hdb : (x == ("__debug__" : Str)) = false := by decide) (he : starEach (e :: es) X.env = (false, eval e X.env) :: starEach es X.env := by rfl) (hpl : (backTo pos (starEach es X.env)).any (·.1) = false := by rfl) :
    L2N.PMk X (.Call (.Name x p) (e :: es) [] pos) (tMkO C sp [] ta) := by
  intro pins s σ H Q I h
  obtain ⟨nm, q, N, bs, bm, sn, sub, ab, col, dd, k0, k1, k2, k3, k5, hC, hbm⟩ := T.cls
  refine wpAny_Call_Name_kw (ld_glob I hg hm ?_ hdb)
  refine PySem.W.callWith_K (h₀ := X.base) I.ok.mod.kin T.kC (thn (ha.run pos pins s σ H _ I h) fun us s1 ⟨vs, H1, I1, r1, hz, q1⟩ => ⟨I1.kIn, ?_⟩) he hpl
  show wpAny _ _ (call (.ref C) us) _ _ _
  obtain ⟨hp, g, dr, tk, os⟩ := s1
  have hsz : hp.objs.size ≤ hp.objs.size + 1 := Nat.le_succ _
  have hn : H1 (hp.objs.size + 1) = none := I1.hok.fresh hsz
  have hq := q1 (hp.objs.size + 1) hn
  rw [List.append_nil] at hq
  have kk : ∀ b o, hp.get? b = some o → ((hp.push (PySem.W.kdv_tup us)).push (PySem.HandSPX.excO C hp.objs.size)).get? b = some o := fun b o e => Heap.get?_push_of_some _ (Heap.get?_push_of_some _ e)
  have hget : ((hp.push (PySem.W.kdv_tup us)).push (PySem.HandSPX.excO C hp.objs.size)).get? (hp.objs.size + 1) = some (PySem.HandSPX.excO C hp.objs.size) := by heap_get
  have I2 : Inv X pins σ (upd H1 (hp.objs.size + 1) (exo (hp.objs.size + 1) C none)) ⟨(hp.push (PySem.W.kdv_tup us)).push (PySem.HandSPX.excO C hp.objs.size), g, dr, tk, os⟩ :=
    I1.laid (t' := tk) (a := hp.objs.size + 1) (o := exo (hp.objs.size + 1) C none) (h' := (hp.push (PySem.W.kdv_tup us)).push (PySem.HandSPX.excO C hp.objs.size)) kk hsz (exo_ok hget)
  have r2 : Vals (V.ref (hp.objs.size + 1) :: vs) (Value.ref (hp.objs.size + 1) :: us) := .cons rfl r1
  have hl : (Value.ref (hp.objs.size + 1) :: us ++ []).length = ps.length := by
    have e := r2.length
    rw [F1.len _ _ _ _ hq] at e
    rw [List.append_nil]
    exact e.symm
  have hus : us.length ≤ sizeLine := by
    rw [← Paired.length r1, sizeLine_eq]
    omega
  have b2 := hb _ (Value.ref (hp.objs.size + 1) :: us) I2.kIn hl
  rw [List.append_nil] at b2
  refine wpAny_call (PySem.HandSPX.call_own F.excBase_ValueError (fun Y => PySem.HandSPX.refsVE_contains Y bm hbm) (I1.kIn _ _ hC) (PySem.W.looks_findIn I1.kIn iC) (fun self => PySem.W.bind_fn I1.kIn self tI) hus
    (codeAny_mono (F1.run _ X.stack _ _ ⟨Value.ref (hp.objs.size + 1) :: us, []⟩ (Value.ref (hp.objs.size + 1) :: us) _ _ (fun _ _ _ => False) (hr.make C us []) (I2.env0.make C us []) b2 r2 hq) fun r s' hq' => ?_))
  cases r with
  | error er => exact hx pins σ _ _ er s' I2 hq'
  | ok fl =>
    cases fl with
    | ret u =>
      obtain ⟨v, H2, os2, bare2, un2, hok2, rv, ev, d, fs, ea, ed, hd1, q2⟩ := hq'
      subst ev
      obtain ⟨h2, g2, d2, t2, os'⟩ := s'
      obtain ⟨t0, G, J, kG, ge, hoe, na⟩ := mk_end0 (d2 := d2) (t2 := t2) I1 hsz kk un2 hok2 os2 bare2 ea ed hd1
      refine ⟨rv, ⟨hp.objs.size + 1, _, _, ⟨G, g2, d2, t2, os'⟩, _, .ref C, some d, rfl, J, kG, ge, hoe, ⟨rfl, rfl, fun vs hv => ?_⟩, rfl, rfl, na, rfl, bare2, raises_own T.exC T.tyC, q2⟩⟩
      cases hv
      rfl
    | next => exact False.elim hq'
    | brk => exact False.elim hq'
    | cont => exact False.elim hq'
theorem s_raise1N {wd f s1 s2 : Str} {te : TDE} {pos2 : Pos} (o : XOk1 X.prog X.w X.K X.mg X.base x wd f s1 s2) (hc : X.calm = true) (hr : Room (k + 2) X.A) (tk : L2N.Takes X W) (h : DE X W e te) (hg : Gl X x := by rfl) (hdb : (x == ("__debug__" : Str)) = false := by decide)
    (he : starEach (e :: []) X.env = (false, eval e X.env) :: starEach [] X.env := by rfl) (hpl : (backTo pos (starEach [] X.env)).any (·.1) = false := by rfl) :
    DS X W (.Raise (some (.Call (.Name x p) [e] [] pos)) none pos2) (tdRaise1 X.mg x wd f te) := by
  obtain ⟨C, fI, fd, hm, T, F1, hb⟩ := o.ex
  refine PS.imp (L2N.ps_raise hc tk (pmkN_oex T.oex T.ini T.ty F1 (hr.mono (by omega)) hb passL hg hm (pa_cons h pa_nil he) hdb he hpl)) fun D σ H ⟨ρ, M, D0, dv, sm, q, eu⟩ => ?_
  refine ⟨ρ, M, _, _, dv, sm, q, fun d M1 q1 v H1 r1 s1 t1 => ?_, eu.w dv⟩
  refine ⟨by show 1 ≤ 1000; decide, fun a ha => ?_⟩
  refine ⟨a, v, rfl, upd_same, fun dx h1 h2 => ⟨rfl, dx, _, by rw [upd_ne (Ne.symm h2), upd_same], upd_same, by rw [upd_ne h2] at h1; exact h1, ?_⟩⟩
  rw [upd_ne h2] at h1
  rw [left1 (C := C) ha h2]
  exact xdNew s1 h1 (.cons ⟨rfl, r1⟩ (.cons ⟨rfl, .str _⟩ .nil)) ((eu.w dv).mono t1) (q1 _ hm)
end
/-! ### the error made while one is handled -/
section
variable {P : Program} {w : World} {K : PySem.W.Frag} {mg : Str → Option Value} {base : Heap} {C fI : Addr} {fd : FuncData} {st : Stmt} {q wd f s1 : Str} {j : Nat}
theorem ini1_okH {p1 p2 p3 p4 p5 p6 p7 p8 : Pos} {s2 : Str} (T : OexC K C) (n1 : PySem.W.findIn K (.ref C) "word" = some none) (n2 : PySem.W.findIn K (.ref C) f = some none) (F : L2.Fun K "__init__" q st fI fd) (S : FnScope [s1, s2] [s1, s2] (defScope st)) (hv : Vis (defScope st) s1) (hd1 : (s1 == ("__debug__" : Str)) = false) (hd2 : (s1 == ("__classdict__" : Str)) = false)
    (hv2 : Vis (defScope st) s2) (hd3 : (s2 == ("__debug__" : Str)) = false) (hd4 : (s2 == ("__classdict__" : Str)) = false)
    (hsw : ∀ env, swapsWith (.Name s2 p7) (some (.Attribute (.Name s1 p5) f p6)) p8.line env = pure false) (hb : defBody st = [.Assign [.Attribute (.Name s1 p1) "word" p2] (.Constant (.str wd) j p3) p4, .Assign [.Attribute (.Name s1 p5) f p6] (.Name s2 p7) p8]) : L2H.FnH P w K mg base (L2.CX P w) 1 fI fd [s1, s2] (spIni1 C wd f) := by
  obtain ⟨oc, od, kV, doc, pm, an, cdv, ct, osl, rfl, lk, hcd⟩ := F.ex
  refine L2H.fn_ofH lk hcd S (fun vs H Q E ⟨a, v, e, _⟩ => by rw [e]; rfl) fun A outer s H vs Q E p hot hr ⟨a, v, e, ha, hq⟩ => ?_
  subst e
  rw [hb]
  refine ⟨_, pss_cons (ps_ost (pe_var (i := 0) rfl hv hd1 hd2) pe_str) (pss_one (ps_ost (pe_var (i := 0) rfl hv hd1 hd2) (pe_var (i := 1) rfl hv2 hd3 hd4) (hsw _))), ?_⟩
  refine ⟨.ref a, rfl, a, C, rfl, T, n1, .inl ⟨ha, fun dx h1 h2 => ?_⟩⟩
  refine ⟨v, rfl, .ref a, rfl, a, C, rfl, T, n2, .inr ⟨dx, _, upd_same, ?_, by simp, hq dx h1 h2⟩⟩
  rw [upd_ne h2, upd_same]
end
structure XOkH1 (P : Program) (w : World) (K : PySem.W.Frag) (mg : Str → Option Value) (base : Heap) (x wd f s1 s2 : Str) : Prop where
  ex : ∃ C fI fd, mg x = some (.ref C) ∧ XAt K C fI ∧ L2H.FnH P w K mg base (L2.CX P w) 1 fI fd [s1, s2] (spIni1 C wd f) ∧ Binds K fd [s1, s2] []
theorem DvL.setX {K : PySem.W.Frag} {H : Hp} {x : Option V} {σ : St} {ρ : DSt} (h : DvL K H σ ρ) : ∀ i : Nat, DvL K H (σ.set i x) (ρ.set i none) := by
  induction h with
  | nil => intro i; exact .nil
  | no g ih =>
    intro i
    cases i with
    | zero => exact .no g
    | succ i => exact .no (ih i)
  | yes q g ih =>
    intro i
    cases i with
    | zero => exact .no g
    | succ i => exact .yes q (ih i)
/-- try: body / except x as n: raise x(arg) from n -/
def tdTryF (K : PySem.W.Frag) (mg : Str → Option Value) (x wd f : Str) (i : Nat) (tb : TDS) (ta : TDE) : TDS := fun D ρ M => tb { D with ex := fun cls fs ρ' M' => ∃ c b, mg x = some c ∧ PySem.W.exmOne K cls c = some b ∧
    (b = true → cls = c ∧ ta (ρ'.set i none) M' (fun d M1 => D.ex c [(f, d), ("word", .str wd)] (ρ'.set i none) M1) fun _ _ _ => False) ∧ (b = false → D.ex cls fs ρ' M') } ρ M
section
variable {X : Cx} {W : WX} {x n : Str} {wd f s1 s2 : Str} {i k : Nat} {body : List Stmt} {e : Expr} {np p cp rp pos pos' : Pos} {xp : Pos} {tb : TDS} {ta : TDE}
theorem s_tryF (i : Nat) (o : XOkH1 X.prog X.w X.K X.mg X.base x wd f s1 s2) (hc : X.calm = true) (hs : X.stack = X.env :: X.outer) (hf : X.env.frame = some X.env.locals) (hN : X.N.Nodup) (hr : Room (k + 3) X.A) (tk : L2.Takes X W)
    (hb : ∀ (W : WX) (pn : List (Addr × Obj)) (xe : Value → Shared → Prop), L2N.Takes (X.tr pn xe) W → DSs (X.tr pn xe) W body tb)
    (he : ∀ (a : Addr) (pn : List (Addr × Obj)) (xe : Value → Shared → Prop), DE (suiteE X a pn xe) W0 e ta)
    (hi : X.N[i]? = some n := by rfl) (hln : X.env.kindOf n = some .local := by rfl) (hg : Gl X x := by rfl) (hdb : (x == ("__debug__" : Str)) = false := by decide) (hnd : (n == ("__debug__" : Str)) = false := by decide)
    (hst : starEach (e :: []) X.env = (false, eval e X.env) :: starEach [] X.env := by rfl) (hpl : (backTo cp (starEach [] X.env)).any (·.1) = false := by rfl) :
    DS X W (.Try body [.ExceptHandler (some (.Name x np)) (some n) [.Raise (some (.Call (.Name x p) [e] [] cp)) (some (.Name n xp)) rp] pos'] [] [] pos) (tdTryF X.K X.mg x wd f i tb ta) := by
  obtain ⟨C, fI, fd, hm, T, F1, hbd⟩ := o.ex
  refine PS.imp (try_asX (c1 := .ref C) (i := i) (Wout := W) (tb := fun W => upS X.K W tb)
    (ts := fun a oe cls d D σ H => σ[i]? = some (some (.ref a)) ∧ Raises X oe.cls ∧ tMkO C (spIni1 C wd f) [] (tCons (upE X.K W0 ta) tNil) σ H fun c d' H' => W c d' (σ.set i none) H')
    hs hf hN hi hln ⟨hg, hdb, .inl hm⟩ tk hb fun a oe cls d pn xe hz hot tkS => ?_) fun D σ H ⟨ρ, M, D0, dv, sm, q, eu⟩ => ?_
  · refine pss_one (PS.imp (ps_raiseHF (X := suiteE X a ((a, oe) :: pn) xe) (n := n) (i := i) (a, oe) hot List.mem_cons_self hi hln hnd tkS
      (L2H.pmk5_oexH (X := suiteE X a ((a, oe) :: pn) xe) T.oex T.ini T.ty F1 (L2H.roomH_mark (hr.mono (by omega)) _) ⟨(a, oe), hot, List.mem_cons_self⟩ hbd passL hg hm (pa_cons (he a ((a, oe) :: pn) xe) pa_nil hst) hdb hst hpl)) fun D σ H h => h)
  · refine ⟨ρ, M, _, dv, sm, q, ⟨eu.nx, eu.rt, eu.bk, eu.ct, fun cls fs ρ' M' ⟨c, b, hmc, hb1, hyes, hno⟩ od σ' H' hx dv' s' t' => ?_⟩⟩
    rw [hm] at hmc
    cases hmc
    refine ⟨b, hb1, fun eb a oe hcl ha hlen => ?_, fun eb => eu.ex _ _ _ _ (hno eb) od σ' H' hx dv' s' t'⟩
    obtain ⟨rfl, q2⟩ := hyes eb
    refine ⟨by rw [List.getElem?_set_self hlen], by rw [hcl]; exact raises_own T.oex.exC T.oex.tyC, ?_⟩
    refine ⟨ρ'.set i none, M', _, fun _ _ _ => False, dv'.setX i, s', q2, fun d M1 q1 v H1 r1 s1 t1 => ?_, w0_up⟩
    refine ⟨by show 1 ≤ 1000; decide, fun a ha => ?_⟩
    refine ⟨a, v, rfl, upd_same, fun dx h1 h2 => ⟨rfl, dx, _, by rw [upd_ne (Ne.symm h2), upd_same], upd_same, by rw [upd_ne h2] at h1; exact h1, ?_⟩⟩
    rw [upd_ne h2] at h1
    rw [left1 (C := C) ha h2, List.set_set]
    have t : Tr H1 M1 (upd H1 dx (.xd [(f, v), ("word", .str wd)])) M1 := Tr.new h1
    have t12 := (t'.trans t1).trans t
    exact eu.ex _ _ _ _ q1 _ _ _ (.inr ⟨dx, _, rfl, upd_same, .cons ⟨rfl, r1.mono t⟩ (.cons ⟨rfl, .str _⟩ .nil)⟩) (((dv'.mono t1).mono t).setN i) (s1.new h1) t12
end
end TD

namespace TD
open PySem L2
theorem xokh1_mk {K : PySem.W.Frag} {mg : Str → Option Value} {h : Heap} {C fI : Addr} {x q wd f s1 s2 : Str} {st : Stmt} {oc : Value} {od an : Option Addr} {osl : Array (Option Value)} {kV doc pm cdv ct : Value} (X : K.In h) (G : h.Ns mainGlobals mg) (I : Ini1 st q wd f s1 s2) (a : PySem.W.nsIn K mainGlobals x = some (some (.ref C))) (T : XAt K C fI) (n1 : PySem.W.findIn K (.ref C) "word" = some none) (n2 : PySem.W.findIn K (.ref C) f = some none)
    (l : K.lookup fI = some ⟨oc, od, .func (PySem.W.fnOf "__init__" q (defArgs st) (defBody st) (defScope st) .none kV doc pm an cdv ct), osl⟩) (c : PySem.W.codeIn K cdv q = true) (k : PySem.W.keepIn K (.ref fI) = true) : ∀ P w base, XOkH1 P w K mg base x wd f s1 s2 := fun P w base => by
  obtain ⟨p1, p2, p3, p4, p5, p6, p7, p8, j, hb, hsw⟩ := I.body
  have F : L2.Fun K "__init__" q st fI _ := fun_mk l c k
  exact ⟨C, fI, _, PySem.W.mg_of X G a, T, ini1_okH T.oex n1 n2 F I.sc I.vis I.nd I.nc I.vis2 I.nd2 I.nc2 hsw hb, F.binds fun kV doc pm an cdv ct us hl => I.bd kV doc pm an cdv ct us hl⟩
/-- does a clause that names y take an error of the class x -/
structure ExQ (K : PySem.W.Frag) (mg : Str → Option Value) (x y : Str) (b : Bool) : Prop where
  q : ∀ c d, mg x = some c → mg y = some d → PySem.W.exmOne K c d = some b
theorem exq_mk {K : PySem.W.Frag} {mg : Str → Option Value} {h : Heap} {C S : Addr} {x y : Str} {b : Bool} (X : K.In h) (G : h.Ns mainGlobals mg) (a : PySem.W.nsIn K mainGlobals x = some (some (.ref C))) (a' : PySem.W.nsIn K mainGlobals y = some (some (.ref S)))
    (h1 : PySem.W.subIn K (.ref S) (.type "BaseException") = some true) (h2 : PySem.W.isClsIn K S = true) (h3 : PySem.W.typeIn K (.ref S) = some (.type "type")) (h4 : PySem.W.subIn K (.ref C) (.ref S) = some b) : ExQ K mg x y b := ⟨fun c d hc hd => by
  rw [PySem.W.mg_of X G a] at hc
  rw [PySem.W.mg_of X G a'] at hd
  cases hc; cases hd
  have e1 : (PySem.W.subIn K (.ref S) (.type "BaseException") == some true) = true := by rw [h1] <;> rfl
  have e2 : ((PySem.W.clsIn K S).isSome && PySem.W.typeIn K (.ref S) == some (.type "type")) = true := by
    have h2' : (PySem.W.clsIn K S).isSome = true := h2
    rw [h2', h3] <;> rfl
  unfold PySem.W.exmOne PySem.W.kitCls
  rw [if_pos e1]
  dsimp only
  rw [if_pos e2]
  exact h4⟩
end TD

set_option Elab.async false
set_option linter.all false
set_option maxRecDepth 100000
set_option maxHeartbeats 0
namespace LW
open PySem L2 TD
-- reading: walk_at "td" computes the data layer's terms up to the next closed step; "sd" takes a step; "run" goes on; "go" goes on through statements
local macro_rules | `(tactic| walk_at "td") => `(tactic| conv => whnf)
local macro_rules | `(tactic| walk_at "big") => `(tactic| first | assumption | exact Big.of200 (by omega) (by omega) | exact Big.of200 (by decide) (by decide))
local macro_rules | `(tactic| walk_at "ne") => `(tactic| first | assumption | exact Ne.symm (by assumption) | exact mne (by assumption) (by assumption) | exact mne' (by assumption) (by assumption))
local macro_rules | `(tactic| walk_at "mem") => `(tactic| first | assumption | exact mupd_same | (refine (mupd_ne ?_).trans ?_; (next => walk_at "ne"); walk_at "mem"))
local macro_rules | `(tactic| walk_at "len") => `(tactic| first | decide | omega | (simp only [List.length_map, List.length_append, List.length_cons, List.length_nil, List.length_replicate]; omega))
local macro_rules | `(tactic| walk_at "sd") => `(tactic| first
  | refine cndT ?_ | refine cndF ?_
  | refine add_i ?_ | refine augAdd_i ?_ | refine sub_i ?_
  | refine lt_i ?_ | refine le_i ?_ | refine gt_i ?_ | refine ge_i ?_
  | refine eq_i ?_ | refine ne_i ?_ | refine eq_s ?_ | refine ne_s ?_ | refine eq_b ?_ | refine ne_b ?_ | refine is_n ?_ | refine isnot_n ?_
  | refine call_i ?_ | refine len_t ?_ | refine len_r ?_ | refine it_t ?_ | refine it_r ?_ | refine sl_t ?_ | refine sl_r ?_ | refine qof_r ?_ | refine tup_t ?_
  | (apply ix_t; (next => exact rfl))
  | (apply ix_l; (next => walk_at "mem"); (next => first | exact rfl | exact atI_zero))
  | (apply mul_i; (next => walk_at "big"); (next => walk_at "big"))
  | (apply fdiv_i; (next => exact .of (by omega) (by omega))) | (apply mod_i; (next => omega))
  | refine p_18 ?_ | refine p_14 ?_ | refine p_12 ?_ | refine p_6 ?_ | refine p_9 ?_ | refine p_20 ?_ | refine p_29 ?_ | refine p_30 ?_
  | (apply len_l; (next => walk_at "mem"))
  | (apply setL_i; (next => walk_at "mem"); (next => exact rfl)) | (apply qof_l; (next => walk_at "mem")) | (apply tup_l; (next => walk_at "mem"))
  | (apply isi_l; (next => walk_at "mem"); (next => exact rfl)) | (apply isi_i; (next => exact rfl); (next => exact rfl))
  | (apply and_sp; (next => exact rfl)) | (apply and_sp2; (next => exact rfl); (next => exact rfl)) | (apply and_len; (next => exact rfl)) | (apply and_sz; (next => walk_at "len")))
local macro_rules | `(tactic| walk_at "run") => `(tactic| ((repeat ((conv => whnf); (walk_at "sd"))); (try (conv => whnf))))
local macro_rules | `(tactic| walk_at "go") => `(tactic| ((repeat ((conv => whnf); (first | walk_at "sd" | refine seq0 ?_))); (try (conv => whnf))))
local macro_rules | `(tactic| walk_at "look") => `(tactic| (set_option pp.maxSteps 160 in trace_state))

def top (i : Nat) : Stmt := PySem.Challenge.pw_turndeal_k30_steps_that_do_not_fit.main.body.getD i (.Pass ⟨0, 0, 0, 0⟩)
abbrev s_count_ends : Stmt := top 8
theorem sc_count_ends : FnScope ["tree", "outlet"] ["tree"] (defScope s_count_ends) := ⟨rfl, rfl, rfl, by decide +kernel, rfl, by decide +kernel, by decide +kernel⟩
theorem bd_count_ends : Bd "count_ends" s_count_ends ["tree"] 1 [] (fun us _ => us) (fun ds _ => ds) := bd_pos fun _ _ _ _ _ _ us hl => match us, hl with | [_], _ => rfl
abbrev s_levels : Stmt := top 9
theorem sc_levels : FnScope ["tree", "outlet"] ["tree"] (defScope s_levels) := ⟨rfl, rfl, rfl, by decide +kernel, rfl, by decide +kernel, by decide +kernel⟩
theorem bd_levels : Bd "levels" s_levels ["tree"] 1 [] (fun us _ => us) (fun ds _ => ds) := bd_pos fun _ _ _ _ _ _ us hl => match us, hl with | [_], _ => rfl
abbrev s_within : Stmt := top 10
theorem sc_within : FnScope ["tree"] ["tree"] (defScope s_within) := ⟨rfl, rfl, rfl, by decide +kernel, rfl, by decide +kernel, by decide +kernel⟩
theorem bd_within : Bd "within" s_within ["tree"] 1 [] (fun us _ => us) (fun ds _ => ds) := bd_pos fun _ _ _ _ _ _ us hl => match us, hl with | [_], _ => rfl
abbrev s_part_at : Stmt := top 13
theorem sc_part_at : FnScope ["tree", "path", "number"] ["tree", "path"] (defScope s_part_at) := ⟨rfl, rfl, rfl, by decide +kernel, rfl, by decide +kernel, by decide +kernel⟩
theorem bd_part_at : Bd "part_at" s_part_at ["tree", "path"] 2 [] (fun us _ => us) (fun ds _ => ds) := bd_pos fun _ _ _ _ _ _ us hl => match us, hl with | [_, _], _ => rfl
abbrev s_flattened : Stmt := top 14
theorem sc_flattened : FnScope ["node", "sizes", "outlet", "inner", "number"] ["node"] (defScope s_flattened) := ⟨rfl, rfl, rfl, by decide +kernel, rfl, by decide +kernel, by decide +kernel⟩
theorem bd_flattened : Bd "flattened" s_flattened ["node"] 1 [] (fun us _ => us) (fun ds _ => ds) := bd_pos fun _ _ _ _ _ _ us hl => match us, hl with | [_], _ => rfl
abbrev s_unflattened : Stmt := top 15
theorem sc_unflattened : FnScope ["node", "count", "number"] ["node", "count"] (defScope s_unflattened) := ⟨rfl, rfl, rfl, by decide +kernel, rfl, by decide +kernel, by decide +kernel⟩
theorem bd_unflattened : Bd "unflattened" s_unflattened ["node", "count"] 2 [] (fun us _ => us) (fun ds _ => ds) := bd_pos fun _ _ _ _ _ _ us hl => match us, hl with | [_, _], _ => rfl
abbrev s_changed : Stmt := top 16
theorem sc_changed : FnScope ["node", "word", "count", "alike", "one"] ["node", "word", "count"] (defScope s_changed) := ⟨rfl, rfl, rfl, by decide +kernel, rfl, by decide +kernel, by decide +kernel⟩
theorem bd_changed : Bd "changed" s_changed ["node", "word", "count"] 3 [] (fun us _ => us) (fun ds _ => ds) := bd_pos fun _ _ _ _ _ _ us hl => match us, hl with | [_, _, _], _ => rfl
abbrev s_put_part : Stmt := top 17
theorem sc_put_part : FnScope ["tree", "path", "node", "first", "rest", "inner", "number", "outlet"] ["tree", "path", "node"] (defScope s_put_part) := ⟨rfl, rfl, rfl, by decide +kernel, rfl, by decide +kernel, by decide +kernel⟩
theorem bd_put_part : Bd "put_part" s_put_part ["tree", "path", "node"] 3 [] (fun us _ => us) (fun ds _ => ds) := bd_pos fun _ _ _ _ _ _ us hl => match us, hl with | [_, _, _], _ => rfl
abbrev s_read_step : Stmt := top 18
theorem sc_read_step : FnScope ["step", "word", "rest"] ["step"] (defScope s_read_step) := ⟨rfl, rfl, rfl, by decide +kernel, rfl, by decide +kernel, by decide +kernel⟩
theorem bd_read_step : Bd "read_step" s_read_step ["step"] 1 [] (fun us _ => us) (fun ds _ => ds) := bd_pos fun _ _ _ _ _ _ us hl => match us, hl with | [_], _ => rfl
abbrev s_apply_step : Stmt := top 19
theorem sc_apply_step : FnScope ["tree", "step", "word", "path", "count", "node", "later"] ["tree", "step"] (defScope s_apply_step) := ⟨rfl, rfl, rfl, by decide +kernel, rfl, by decide +kernel, by decide +kernel⟩
theorem bd_apply_step : Bd "apply_step" s_apply_step ["tree", "step"] 2 [] (fun us _ => us) (fun ds _ => ds) := bd_pos fun _ _ _ _ _ _ us hl => match us, hl with | [_, _], _ => rfl
abbrev s_apply_steps : Stmt := top 20
theorem sc_apply_steps : FnScope ["tree", "steps", "at", "step", "e"] ["tree", "steps"] (defScope s_apply_steps) := ⟨rfl, rfl, rfl, by decide +kernel, rfl, by decide +kernel, by decide +kernel⟩
theorem bd_apply_steps : Bd "apply_steps" s_apply_steps ["tree", "steps"] 2 [] (fun us _ => us) (fun ds _ => ds) := bd_pos fun _ _ _ _ _ _ us hl => match us, hl with | [_, _], _ => rfl
abbrev s_back_step : Stmt := top 21
theorem sc_back_step : FnScope ["tree", "step", "word", "path", "rest", "node"] ["tree", "step"] (defScope s_back_step) := ⟨rfl, rfl, rfl, by decide +kernel, rfl, by decide +kernel, by decide +kernel⟩
theorem bd_back_step : Bd "back_step" s_back_step ["tree", "step"] 2 [] (fun us _ => us) (fun ds _ => ds) := bd_pos fun _ _ _ _ _ _ us hl => match us, hl with | [_, _], _ => rfl
abbrev s_undoing : Stmt := top 22
theorem sc_undoing : FnScope ["tree", "step"] ["tree", "step"] (defScope s_undoing) := ⟨rfl, rfl, rfl, by decide +kernel, rfl, by decide +kernel, by decide +kernel⟩
theorem bd_undoing : Bd "undoing" s_undoing ["tree", "step"] 2 [] (fun us _ => us) (fun ds _ => ds) := bd_pos fun _ _ _ _ _ _ us hl => match us, hl with | [_, _], _ => rfl
abbrev s_law_bag : Stmt := top 24
theorem sc_law_bag : FnScope ["_law_script", "_law_salt", "_law_cell"] ["_law_script"] (defScope s_law_bag) := ⟨rfl, rfl, rfl, by decide +kernel, rfl, by decide +kernel, by decide +kernel⟩
theorem bd_law_bag : Bd "_law_bag" s_law_bag ["_law_script"] 1 [] (fun us _ => us) (fun ds _ => ds) := bd_pos fun _ _ _ _ _ _ us hl => match us, hl with | [_], _ => rfl
abbrev s_law_pull : Stmt := top 25
theorem sc_law_pull : FnScope ["_law_bag_here", "_law_amount", "_law_cell", "_law_got", "_law_seed"] ["_law_bag_here", "_law_amount"] (defScope s_law_pull) := ⟨rfl, rfl, rfl, by decide +kernel, rfl, by decide +kernel, by decide +kernel⟩
theorem bd_law_pull : Bd "_law_pull" s_law_pull ["_law_bag_here", "_law_amount"] 2 [] (fun us _ => us) (fun ds _ => ds) := bd_pos fun _ _ _ _ _ _ us hl => match us, hl with | [_, _], _ => rfl
abbrev s_law_of : Stmt := top 26
theorem sc_law_of : FnScope ["_law_bag_here", "_law_things"] ["_law_bag_here", "_law_things"] (defScope s_law_of) := ⟨rfl, rfl, rfl, by decide +kernel, rfl, by decide +kernel, by decide +kernel⟩
theorem bd_law_of : Bd "_law_of" s_law_of ["_law_bag_here", "_law_things"] 2 [] (fun us _ => us) (fun ds _ => ds) := bd_pos fun _ _ _ _ _ _ us hl => match us, hl with | [_, _], _ => rfl
abbrev s_law_names : Stmt := top 27
theorem sc_law_names : FnScope ["_law_bag_here", "_law_size", "_law_letters", "_law_base", "_law_k", "_law_spot", "_law_first", "_law_step"] ["_law_bag_here", "_law_size"] (defScope s_law_names) := ⟨rfl, rfl, rfl, by decide +kernel, rfl, by decide +kernel, by decide +kernel⟩
theorem bd_law_names : Bd "_law_names" s_law_names ["_law_bag_here", "_law_size"] 2 [] (fun us _ => us) (fun ds _ => ds) := bd_pos fun _ _ _ _ _ _ us hl => match us, hl with | [_, _], _ => rfl
abbrev s_law_owners : Stmt := top 28
theorem sc_law_owners : FnScope ["_law_bag_here"] ["_law_bag_here"] (defScope s_law_owners) := ⟨rfl, rfl, rfl, by decide +kernel, rfl, by decide +kernel, by decide +kernel⟩
theorem bd_law_owners : Bd "_law_owners" s_law_owners ["_law_bag_here"] 1 [] (fun us _ => us) (fun ds _ => ds) := bd_pos fun _ _ _ _ _ _ us hl => match us, hl with | [_], _ => rfl
abbrev s_law_tree : Stmt := top 29
theorem sc_law_tree : FnScope ["_law_bag_here", "_law_pool", "_law_deep", "_law_widest", "_law_k"] ["_law_bag_here", "_law_pool", "_law_deep", "_law_widest"] (defScope s_law_tree) := ⟨rfl, rfl, rfl, by decide +kernel, rfl, by decide +kernel, by decide +kernel⟩
theorem bd_law_tree : Bd "_law_tree" s_law_tree ["_law_bag_here", "_law_pool", "_law_deep", "_law_widest"] 4 [] (fun us _ => us) (fun ds _ => ds) := bd_pos fun _ _ _ _ _ _ us hl => match us, hl with | [_, _, _, _], _ => rfl
abbrev s_law_drawn : Stmt := top 30
theorem sc_law_drawn : FnScope ["_law_bag_here", "_law_pool", "_law_deep", "_law_widest"] ["_law_bag_here", "_law_pool"] (defScope s_law_drawn) := ⟨rfl, rfl, rfl, by decide +kernel, rfl, by decide +kernel, by decide +kernel⟩
theorem bd_law_drawn : Bd "_law_drawn" s_law_drawn ["_law_bag_here", "_law_pool"] 2 [] (fun us _ => us) (fun ds _ => ds) := bd_pos fun _ _ _ _ _ _ us hl => match us, hl with | [_, _], _ => rfl
abbrev s_law_paths : Stmt := top 31
theorem sc_law_paths : FnScope ["_law_tree_here", "_law_path", "_law_found", "_law_k"] ["_law_tree_here", "_law_path"] (defScope s_law_paths) := ⟨rfl, rfl, rfl, by decide +kernel, rfl, by decide +kernel, by decide +kernel⟩
theorem bd_law_paths : Bd "_law_paths" s_law_paths ["_law_tree_here", "_law_path"] 2 [] (fun us _ => us) (fun ds _ => ds) := bd_pos fun _ _ _ _ _ _ us hl => match us, hl with | [_, _], _ => rfl
abbrev s_law_field : Stmt := top 32
theorem sc_law_field : FnScope ["_law_e"] ["_law_e"] (defScope s_law_field) := ⟨rfl, rfl, rfl, by decide +kernel, rfl, by decide +kernel, by decide +kernel⟩
theorem bd_law_field : Bd "_law_field" s_law_field ["_law_e"] 1 [] (fun us _ => us) (fun ds _ => ds) := bd_pos fun _ _ _ _ _ _ us hl => match us, hl with | [_], _ => rfl
abbrev s_law_try : Stmt := top 33
theorem sc_law_try : FnScope ["_law_ask", "_law_e"] ["_law_ask"] (defScope s_law_try) := ⟨rfl, rfl, rfl, by decide +kernel, rfl, by decide +kernel, by decide +kernel⟩
theorem bd_law_try : Bd "_law_try" s_law_try ["_law_ask"] 1 [] (fun us _ => us) (fun ds _ => ds) := bd_pos fun _ _ _ _ _ _ us hl => match us, hl with | [_], _ => rfl
abbrev s_law : Stmt := top 34
theorem sc_law : FnScope ["_law_script", "_law_bag_here", "_law_turn", "_law_pool", "_law_tree_here", "_law_path", "_law_node", "_law_odd", "_law_bad", "_law_asks", "_law_leaf", "_law_good", "_law_great", "_law_later", "_law_ask", "_law_row"] ["_law_script"] (defScope s_law) := ⟨rfl, rfl, rfl, by decide +kernel, rfl, by decide +kernel, by decide +kernel⟩
theorem bd_law : Bd "law" s_law ["_law_script"] 1 [] (fun us _ => us) (fun ds _ => ds) := bd_pos fun _ _ _ _ _ _ us hl => match us, hl with | [_], _ => rfl
abbrev s_ini_BadStep : Stmt := inClass (top 3) 0
theorem ini_BadStep : Ini1 s_ini_BadStep "BadStep.__init__" "BadStep" "at" "self" "at" := ⟨⟨rfl, rfl, rfl, by decide +kernel, rfl, by decide +kernel, by decide +kernel⟩, .inl rfl, by decide, by decide, .inl rfl, by decide, by decide, fun _ _ _ _ _ _ us hl => match us, hl with | [_, _], _ => rfl, ⟨_, _, _, _, _, _, _, _, _, rfl, fun _ => rfl⟩⟩
abbrev s_ini_TooLarge : Stmt := inClass (top 4) 0
theorem ini_TooLarge : Ini1 s_ini_TooLarge "TooLarge.__init__" "TooLarge" "most" "self" "most" := ⟨⟨rfl, rfl, rfl, by decide +kernel, rfl, by decide +kernel, by decide +kernel⟩, .inl rfl, by decide, by decide, .inl rfl, by decide, by decide, fun _ _ _ _ _ _ us hl => match us, hl with | [_, _], _ => rfl, ⟨_, _, _, _, _, _, _, _, _, rfl, fun _ => rfl⟩⟩

section
variable {P : Program} {w : World} {K : PySem.W.Frag} {mg : Str → Option Value} {base : Heap}
/-! ### the law's own reader of the script -/
def bagO (a : Addr) (i big salt : Int) : MO := .lst [.ref a, .int i, .int big, .int salt]
structure BagV (i big salt : Int) : Prop where
  i0 : 0 ≤ i
  b0 : 0 ≤ big
  s0 : 0 ≤ salt
  s1 : salt < 2147483647
structure Bag (M : Mem) (p : Addr) : Prop where
  ex : ∃ (a : Addr) (cells : List Int) (i big salt : Int), M p = some (bagO a i big salt) ∧ M a = some (.lst (cells.map D.int)) ∧ a ≠ p ∧ BagV i big salt
/-- where the bag's cells lie -/
def cellsOf (M : Mem) (p : Addr) : Option Addr := match M p with
  | some (.lst (.ref a :: _)) => some a
  | _ => none
theorem cells_bag {M : Mem} {p a : Addr} {i big salt : Int} (h : M p = some (bagO a i big salt)) : cellsOf M p = some a := by
  unfold cellsOf
  rw [h]
  rfl
theorem cells_eq {M M' : Mem} {p : Addr} (h : M' p = M p) : cellsOf M' p = cellsOf M p := by unfold cellsOf; rw [h]
/-- the bag at p has turned, all else stands -/
structure BagTo (p : Addr) (M M' : Mem) : Prop where
  bag : Bag M' p
  fr : ∀ b, b ≠ p → M' b = M b
  ad : cellsOf M' p = cellsOf M p
theorem BagTo.refl {p : Addr} {M : Mem} (h : Bag M p) : BagTo p M M := ⟨h, fun _ _ => rfl, rfl⟩
theorem BagTo.trans {p : Addr} {M M1 M2 : Mem} (a : BagTo p M M1) (b : BagTo p M1 M2) : BagTo p M M2 := ⟨b.bag, fun c h => (b.fr c h).trans (a.fr c h), b.ad.trans a.ad⟩
def sp_bag : SpD := fun ds M Q _ => ∃ (ns : List Int) (d : D), ds = [d] ∧ Scr M d ns ∧ ns.length ≤ 63 ∧ ∀ p M', M p = none → Bag M' p → (∀ b o, M b = some o → M' b = some o) → Q (.ref p) M'
def sp_pull : SpD := fun ds M Q _ => ∃ (p : Addr) (n : Int), ds = [.ref p, .int n] ∧ Bag M p ∧ 0 < n ∧ n < 2 ^ 200 ∧ ∀ v M', 0 ≤ v → v < n → BagTo p M M' → Q (.int v) M'
theorem ok_pull (a : At K mg "_law_pull" s_law_pull) (n_len : mg "len" = none) : Ok P w K mg base "_law_pull" s_law_pull 2 ["_law_bag_here", "_law_amount"] sp_pull := by
  refine ok_of a sc_law_pull 3 rfl (fun ds M Q E ⟨p, n, h, _⟩ => by rw [h]; rfl) fun f cd A outer s H E hr => ⟨_, (ss_cons (s_if (DW.t (w_and (t_cmp (c_eq hr) (d_ix (dv 0) de_int) de_int) (w_and1 (t_cmp c_lt (d_ix (dv 0) de_int) (d_len n_len (d_ix (dv 0) de_int)))))) (ss_cons (s_set 2 sc_law_pull.nd (d_ix (d_ix (dv 0) de_int) (d_ix (dv 0) de_int)))
  (ss_cons (s_asg (d_add (d_ix (dv 0) de_int) de_int) (g_sub (W := W0) (dv 0) de_int))
  (ss_one (s_if (t_cmp c_ge (dv 2) (d_pow de_int de_int)) (ss_one (s_asg (dv 2) (g_sub (W := W0) (dv 0) de_int))) (ss_one (s_asg (d_mod (d_add (d_add (d_mul (d_ix (dv 0) de_int) de_int) (d_mul (d_mod (dv 2) de_int) de_int)) de_int) de_int) (g_sub (W := W0) (dv 0) de_int))))))) ss_nil)
  (ss_cons (s_if (t_cmp c_gt (d_ix (dv 0) de_int) de_int) (ss_cons (s_set 3 sc_law_pull.nd (d_mod (d_ix (dv 0) de_int) (dv 1)))
  (ss_cons (s_asg (d_fdiv (d_ix (dv 0) de_int) (dv 1)) (g_sub (W := W0) (dv 0) de_int))
  (ss_one (s_ret (dv 3))))) ss_nil)
  (ss_cons (s_set 4 sc_law_pull.nd (d_ix (dv 0) de_int))
  (ss_cons (s_asg (d_mod (d_add (d_add (d_mul (dv 4) (dv 4)) (d_mul (dv 4) de_int)) de_int) de_int) (g_sub (W := W0) (dv 0) de_int))
  (ss_one (s_ret (d_mod (d_add (d_fdiv (d_ix (dv 0) de_int) de_int) (d_mul (d_mod (d_ix (dv 0) de_int) de_int) de_int)) (dv 1)))))))), ?_⟩
  rintro ds M Q E ⟨p, n, rfl, ⟨⟨a, cells, i, big, salt, hp, ha, hne, bv⟩⟩, h0, h1, hq⟩
  obtain ⟨v0, v1, v2, v3⟩ := bv
  refine seqC (fun ρ M1 => BagTo p M M1 ∧ ∃ x y z, ρ = [some (.ref p), some (.int n), x, y, z]) ?_ ?_
  · walk_at "go"
    refine cndE (fun hb => ?_) fun hb => ?_ <;> walk_at "go"
    · refine cndD (fun hl => ?_) fun hl => ?_ <;> walk_at "go"
      · obtain ⟨c, _, hc, _⟩ := atI_map (f := D.int) (xs := cells) v0 (by simpa using hl)
        refine ix_l ha hc ?_
        walk_at "go"
        have hz : i + 1 ≥ 0 := by omega
        refine cndD (fun hg => ?_) fun hg => ?_ <;> walk_at "go"
        · refine ⟨⟨⟨a, cells, i + 1, c, salt, by simp [mupd_mupd, mupd_same, bagO], ?_, hne, ⟨by omega, by omega, v2, v3⟩⟩, fun b hb => ?_, ?_⟩, _, _, _, rfl⟩
          · simp [mupd_ne, hne, ha]
          · simp [mupd_ne, hb]
          · rw [cells_bag hp]; exact cells_bag (by simp only [mupd_mupd, mupd_same, bagO]; rfl)
        · refine ⟨⟨⟨a, cells, i + 1, big, _, by simp only [mupd_mupd, mupd_same, bagO]; rfl, ?_, hne, ⟨by omega, by omega, by omega, by omega⟩⟩, fun b hb => ?_, ?_⟩, _, _, _, rfl⟩
          · simp [mupd_ne, hne, ha]
          · simp [mupd_ne, hb]
          · rw [cells_bag hp]; exact cells_bag (by simp only [mupd_mupd, mupd_same, bagO]; rfl)
      · exact ⟨.refl ⟨⟨a, cells, i, big, salt, hp, ha, hne, ⟨v0, v1, v2, v3⟩⟩⟩, _, _, _, rfl⟩
    · exact ⟨.refl ⟨⟨a, cells, i, big, salt, hp, ha, hne, ⟨v0, v1, v2, v3⟩⟩⟩, _, _, _, rfl⟩
  · rintro ρ M1 ⟨⟨⟨⟨a1, cells1, i1, big1, salt1, hp1, ha1, hne1, ⟨v01, v11, v21, v31⟩⟩⟩, fr1, ad1⟩, x, y, z, rfl⟩
    walk_at "go"
    refine cndD (fun hb => ?_) fun hb => ?_ <;> walk_at "go"
    · refine ⟨_, MLe.refl _, hq _ _ (Int.emod_nonneg _ (by omega)) (Int.emod_lt_of_pos _ h0) ⟨⟨a1, cells1, i1, big1 / n, salt1, by simp only [mupd_same, bagO]; rfl, by rw [mupd_ne hne1]; exact ha1, hne1, ⟨v01, Int.ediv_nonneg v11 (by omega), v21, v31⟩⟩, fun b hb => by rw [mupd_ne hb]; exact fr1 b hb, by rw [← ad1, cells_bag hp1]; exact cells_bag (by simp only [mupd_same, bagO]; rfl)⟩⟩
    · refine ⟨_, MLe.refl _, hq _ _ (Int.emod_nonneg _ (by omega)) (Int.emod_lt_of_pos _ h0) ⟨⟨a1, cells1, i1, big1, _, by simp only [mupd_same, bagO]; rfl, by rw [mupd_ne hne1]; exact ha1, hne1, ⟨v01, v11, Int.emod_nonneg _ (by omega), Int.emod_lt_of_pos _ (by omega)⟩⟩, fun b hb => by rw [mupd_ne hb]; exact fr1 b hb, by rw [← ad1, cells_bag hp1]; exact cells_bag (by simp only [mupd_same, bagO]; rfl)⟩⟩

theorem ok_bag (a : At K mg "_law_bag" s_law_bag) (n_list : mg "list" = none) : Ok P w K mg base "_law_bag" s_law_bag 2 ["_law_script"] sp_bag := by
  refine ok_of a sc_law_bag 2 rfl (fun ds M Q E ⟨ns, d, h, _⟩ => by rw [h]; rfl) fun f cd A outer s H E hr => ⟨_, (ss_cons (s_set 1 sc_law_bag.nd de_int)
  (ss_cons (s_for xd_owns rfl (i_l (l_slice (dv 0) o_none (o_some de_int))) (g_name 2 sc_law_bag.nd) (ss_one (s_set 1 sc_law_bag.nd (d_mod (d_add (d_add (d_mul (dv 1) de_int) (d_mod (dv 2) de_int)) de_int) de_int))))
  (ss_one (s_ret (d_lst (a_cons (d_list n_list (q_of (d_slice (dv 0) o_none (o_some de_int)))) (a_cons de_int (a_cons de_int (a_cons (dv 1) a_nil))))))))), ?_⟩
  rintro ds M Q E ⟨ns, d, rfl, hs, hl, hq⟩
  walk_at "go"
  refine hs.qof ?_
  walk_at "go"
  rw [cutD_map]
  refine for_by (fun i ρ M1 => M1 = M ∧ ∃ salt x, ρ = [some d, some (.int salt), x] ∧ 0 ≤ salt ∧ salt < 2147483647) ⟨rfl, 9497, _, rfl, by omega, by omega⟩ (fun _ _ _ _ _ => trivial) ?_ ?_
  · rintro i d1 ρ M1 hd ⟨rfl, salt, x, rfl, h0, h1⟩
    obtain ⟨c, _, rfl, _⟩ := map_get hd
    walk_at "go"
    exact ⟨rfl, _, _, rfl, Int.emod_nonneg _ (by omega), Int.emod_lt_of_pos _ (by omega)⟩
  · rintro ρ M1 ⟨rfl, salt, x, rfl, h0, h1⟩
    walk_at "go"
    obtain ⟨cs, hcs⟩ : ∃ cs : List Int, cutD (ns.map D.int) none (some 63) = cs.map D.int := ⟨_, cutD_map _ _ _ _⟩
    refine hs.sl ?_
    rw [hcs]
    intro p1 hp1
    walk_at "go"
    intro p2 hp2
    walk_at "go"
    intro p3 hp3
    walk_at "go"
    have n1 : ∀ b o, M1 b = some o → b ≠ p1 := fun b o e => mne e hp1
    have n2 : ∀ b o, M1 b = some o → b ≠ p2 := fun b o e e2 => by rw [← e2, mupd_ne (n1 b o e), e] at hp2; cases hp2
    have h21 : p2 ≠ p1 := fun e => by rw [e, mupd_same] at hp2; cases hp2
    have h32 : p3 ≠ p2 := fun e => by rw [e, mupd_same] at hp3; cases hp3
    have n3 : ∀ b o, M1 b = some o → b ≠ p3 := fun b o e e2 => by rw [← e2, mupd_ne (n2 b o e), mupd_ne (n1 b o e), e] at hp3; cases hp3
    refine ⟨_, MLe.refl _, hq p3 _ ?_ ⟨p2, cs, 0, 0, salt, mupd_same, ?_, h32.symm, ⟨by omega, by omega, h0, h1⟩⟩ fun b o e => ?_⟩
    · cases e : M1 p3 with
      | none => rfl
      | some o => exact absurd rfl (n3 _ _ e)
    · rw [mupd_ne h32.symm, mupd_same]
    · rw [mupd_ne (n3 _ _ e), mupd_ne (n2 _ _ e), mupd_ne (n1 _ _ e)]; exact e
theorem Bag.ne {M : Mem} {p q : Addr} (h : Bag M p) (hq : M q = none) : q ≠ p := fun e => by
  obtain ⟨a, cells, i, big, salt, h1, _⟩ := h.ex
  rw [← e, hq] at h1
  cases h1
theorem Bag.new {M : Mem} {p q : Addr} {o : MO} (h : Bag M p) (hq : M q = none) : Bag (mupd M q o) p := by
  obtain ⟨a, cells, i, big, salt, h1, h2, h3, h4⟩ := h.ex
  exact ⟨a, cells, i, big, salt, by rw [mupd_ne (mne h1 hq)]; exact h1, by rw [mupd_ne (mne h2 hq)]; exact h2, h3, h4⟩
/-! ### one of -/
inductive Things (M : Mem) (p : Addr) : D → List D → Prop
  | tup (xs : List D) : Things M p (.tup xs) xs
  | rol (xs : List D) : Things M p (.rol xs) xs
  | lst {a : Addr} {xs : List D} : M a = some (.lst xs) → a ≠ p → Things M p (.ref a) xs
  | str {z : Str} : z.length ≤ sizeLine → Things M p (.str z) (signsD z)
theorem Things.to {M M' : Mem} {p : Addr} {d : D} {xs : List D} (h : Things M p d xs) (t : BagTo p M M') : Things M' p d xs := by
  cases h with
  | tup => exact .tup _
  | rol => exact .rol _
  | lst h n => exact .lst (by rw [t.fr _ n]; exact h) n
  | str h => exact .str h
theorem Things.len {M : Mem} {p : Addr} {d : D} {xs : List D} {Q : D → Mem → Prop} (h : Things M p d xs) (q : Q (.int xs.length) M) : rdLen d M Q := by
  cases h with
  | tup => exact len_t q
  | rol => exact len_r q
  | lst h n => exact len_l h q
  | @str z hz => exact len_s hz (by have e : (signsD z).length = z.length := by { simp [signsD]; rfl }
                                    rw [e] at q; exact q)
theorem Things.ix {M : Mem} {p : Addr} {d : D} {xs : List D} {i : Int} {Q : D → Mem → Prop} (h : Things M p d xs) (h0 : 0 ≤ i) (h1 : i < xs.length) (q : ∀ d, d ∈ xs → Q d M) : rdIx d (.int i) M Q := by
  obtain ⟨x, e, e2⟩ := atI_of h0 h1
  have hm := List.mem_of_getElem? e2
  cases h with
  | tup => exact ix_t e (q _ hm)
  | rol => exact ix_q rfl e (q _ hm)
  | lst h n => exact ix_l h e (q _ hm)
  | @str z hz =>
    obtain ⟨c, hc, e3, e4⟩ := atI_map (f := fun c => D.str ⟨#[c]⟩) (xs := z.cps.toList) h0 (by simpa [signsD] using h1)
    exact ix_s hz e4 (q _ (List.mem_map.mpr ⟨c, hc, rfl⟩))
def sp_of : SpD := fun ds M Q _ => ∃ (p : Addr) (th : D) (xs : List D), ds = [.ref p, th] ∧ Bag M p ∧ Things M p th xs ∧ 0 < xs.length ∧ xs.length < 2 ^ 200 ∧ ∀ d M', d ∈ xs → BagTo p M M' → Q d M'
theorem ok_of_ (a : At K mg "_law_of" s_law_of) (n_len : mg "len" = none) (o_law_pull : Ok P w K mg base "_law_pull" s_law_pull 2 ["_law_bag_here", "_law_amount"] sp_pull) : Ok P w K mg base "_law_of" s_law_of 3 ["_law_bag_here", "_law_things"] sp_of := by
  refine ok_of a sc_law_of 0 rfl (fun ds M Q E ⟨p, th, xs, h, _⟩ => by rw [h]; rfl) fun f cd A outer s H E hr => ⟨_, (ss_one (s_ret (d_ix (dv 1) (d_call o_law_pull bd_law_pull (hr.mono (by decide)) xd_takes (a_cons (dv 0) (a_cons (d_len n_len (dv 1)) a_nil)))))), ?_⟩
  rintro ds M Q E ⟨p, th, xs, rfl, hb, ht, h0, h1, hq⟩
  walk_at "go"
  refine ht.len ?_
  walk_at "go"
  refine ⟨p, _, rfl, hb, by omega, by omega, fun v M' hv0 hv1 ht' => ?_⟩
  refine (ht.to ht').ix hv0 hv1 fun d hd => ?_
  exact ⟨_, MLe.refl _, hq d M' hd ht'⟩

/-! ### texts -/
theorem app_len (x y : Str) : (x ++ y).length = x.length + y.length := by show (x.cps ++ y.cps).size = _; simp [Str.length]
theorem app_cps (x y : Str) : (x ++ y).cps.toList = x.cps.toList ++ y.cps.toList := by show (x.cps ++ y.cps).toList = _; simp
theorem one_len (c : Nat) : (⟨#[c]⟩ : Str).length = 1 := rfl
theorem cps_len (z : Str) : z.cps.toList.length = z.length := by simp [Str.length]
theorem cut_take {z : Str} {n : Int} (h0 : 0 ≤ n) (h1 : n ≤ z.length) : cutS z none (some n) = ⟨(z.cps.toList.take n.toNat).toArray⟩ := by
  obtain ⟨k, rfl⟩ := Int.eq_ofNat_of_zero_le h0
  have e : HT.sIx z.length z.length (some ((k : Nat) : Int)) = min k z.length := by
    show (if ((k : Nat) : Int) < 0 then (((k : Nat) : Int) + (z.length : Int)).toNat else min ((k : Nat) : Int).toNat z.length) = _
    rw [if_neg (by omega), Int.toNat_natCast]
  unfold cutS
  rw [e]
  show (⟨((z.cps.toList.drop 0).take (min k z.length - 0)).toArray⟩ : Str) = _
  rw [List.drop_zero, Nat.sub_zero, Nat.min_eq_left (by omega), Int.toNat_natCast]
theorem cut_drop {z : Str} {n : Int} (h0 : 0 ≤ n) (h1 : n ≤ z.length) : cutS z (some n) none = ⟨(z.cps.toList.drop n.toNat).toArray⟩ := by
  obtain ⟨k, rfl⟩ := Int.eq_ofNat_of_zero_le h0
  have e : HT.sIx z.length 0 (some ((k : Nat) : Int)) = min k z.length := by
    show (if ((k : Nat) : Int) < 0 then (((k : Nat) : Int) + (z.length : Int)).toNat else min ((k : Nat) : Int).toNat z.length) = _
    rw [if_neg (by omega), Int.toNat_natCast]
  unfold cutS
  rw [e]
  show (⟨((z.cps.toList.drop (min k z.length)).take (z.length - min k z.length)).toArray⟩ : Str) = _
  rw [Nat.min_eq_left (by omega), Int.toNat_natCast, List.take_of_length_le (by rw [List.length_drop, cps_len]; omega)]
theorem sl_n {M : Mem} {Q : D → Mem → Prop} {z : Str} {l u : Option Int} (hz : z.length ≤ 1000000) (h : ∀ y, y = cutS z l u → y.length ≤ z.length → Q (.str y) M) : rdSl (.str z) l u M Q := sl_s (sz hz) (h _ rfl (cutS_length z l u))
theorem add_n {M : Mem} {Q : D → Mem → Prop} {x y : Str} (hz : x.length + y.length ≤ 1000000) (h : ∀ z, z = x ++ y → z.length = x.length + y.length → Q (.str z) M) : rdAdd (.str x) (.str y) M Q := add_s (sz hz) (h _ rfl (app_len x y))
theorem one_n {M : Mem} {Q : D → Mem → Prop} {z : Str} {i : Int} (hz : z.length ≤ 1000000) (h0 : 0 ≤ i) (h1 : i < z.length) (h : ∀ c, c ∈ z.cps.toList → Q (.str ⟨#[c]⟩) M) : rdIx (.str z) (.int i) M Q := by
  obtain ⟨c, e1, e2⟩ := atI_of (xs := z.cps.toList) h0 (by rw [cps_len]; exact h1)
  exact ix_s (sz hz) e1 (h c (List.mem_of_getElem? e2))
theorem take_succ_of {α : Type} {xs : List α} {i : Nat} {x : α} (h : xs[i]? = some x) : xs.take (i + 1) = xs.take i ++ [x] := by
  rw [List.take_add_one, h]; rfl
/-! ### the bag, and what is new -/
structure BagUp (p : Addr) (M M' : Mem) : Prop where
  bag : Bag M' p
  fr : ∀ b o, b ≠ p → M b = some o → M' b = some o
  ad : cellsOf M' p = cellsOf M p
theorem BagTo.up {p : Addr} {M M' : Mem} (t : BagTo p M M') : BagUp p M M' := ⟨t.bag, fun b o h e => by rw [t.fr b h]; exact e, t.ad⟩
theorem BagUp.refl {p : Addr} {M : Mem} (h : Bag M p) : BagUp p M M := ⟨h, fun _ _ _ h => h, rfl⟩
theorem BagUp.trans {p : Addr} {M M1 M2 : Mem} (a : BagUp p M M1) (b : BagUp p M1 M2) : BagUp p M M2 := ⟨b.bag, fun c o n h => b.fr c o n (a.fr c o n h), b.ad.trans a.ad⟩
theorem BagUp.new {p q : Addr} {M M1 : Mem} {o : MO} (a : BagUp p M M1) (h : M1 q = none) : BagUp p M (mupd M1 q o) := ⟨a.bag.new h, fun c u n e => by
  have := a.fr c u n e
  rw [mupd_ne (mne this h)]
  exact this, (cells_eq (mupd_ne (Ne.symm (a.bag.ne h)))).trans a.ad⟩
theorem Bag.leU {M M' : Mem} {p : Addr} (h : Bag M p) (l : ∀ b o, M b = some o → M' b = some o) : BagUp p M M' := by
  obtain ⟨a, cells, i, big, salt, h1, h2, h3, h4⟩ := h.ex
  exact ⟨⟨a, cells, i, big, salt, l _ _ h1, l _ _ h2, h3, h4⟩, fun b o _ e => l b o e, cells_eq ((l _ _ h1).trans h1.symm)⟩
/-- a list that is not the bag's is written -/
theorem Bag.wr {M : Mem} {p q : Addr} {o : MO} (h : Bag M p) (hq : q ≠ p) (hc : cellsOf M p ≠ some q) : Bag (mupd M q o) p ∧ cellsOf (mupd M q o) p = cellsOf M p := by
  obtain ⟨a, cells, i, big, salt, h1, h2, h3, h4⟩ := h.ex
  have na : a ≠ q := fun e => hc (by rw [cells_bag h1, e])
  exact ⟨⟨a, cells, i, big, salt, by rw [mupd_ne (Ne.symm hq)]; exact h1, by rw [mupd_ne na]; exact h2, h3, h4⟩, cells_eq (mupd_ne (Ne.symm hq))⟩
theorem Bag.cells_new {M : Mem} {p q : Addr} (h : Bag M p) (hq : M q = none) : cellsOf M p ≠ some q := by
  obtain ⟨a, cells, i, big, salt, h1, h2, h3, h4⟩ := h.ex
  rw [cells_bag h1]
  intro e
  cases e
  rw [h2] at hq
  cases hq
theorem BagUp.mle {p : Addr} {M M' M0 : Mem} (a : BagUp p M M') (n : M p = none) (h : MLe M0 M) : MLe M0 M' := fun b o e => a.fr b o (fun z => by
  have := h b o e
  rw [z, n] at this
  cases this) (h b o e)
/-- a list of anything but a reference first is not the bag -/
def hdRef : List D → Bool
  | .ref _ :: _ => true
  | _ => false
theorem Bag.ne_l {M : Mem} {p q : Addr} {ds : List D} (h : Bag M p) (e : M q = some (.lst ds)) (n : hdRef ds = false) : q ≠ p := fun z => by
  obtain ⟨a, cells, i, big, salt, h1, _⟩ := h.ex
  rw [z, h1] at e
  cases e
  cases n
theorem hdRef_map {α : Type} {f : α → D} (h : ∀ x, hdRef [f x] = false) : ∀ xs : List α, hdRef (xs.map f) = false
  | [] => rfl
  | x :: xs => by
    have := h x
    show hdRef (f x :: xs.map f) = false
    cases e : f x <;> first | rfl | (rw [e] at this; cases this)
theorem Bag.ne_z {M : Mem} {p q : Addr} {zs : List Str} (h : Bag M p) (e : M q = some (.lst (zs.map D.str))) : q ≠ p := h.ne_l e (hdRef_map (fun _ => rfl) zs)

/-! ### names -/
abbrev abc : Str := "abcdefghijklmnopqrstuvwxyz"
structure NameOk (z : Str) : Prop where
  lo : 0 < z.length
  hi : z.length ≤ 6
  in_ : ∀ c, c ∈ z.cps.toList → c ∈ abc.cps.toList
def sp_names : SpD := fun ds M Q _ => ∃ (p : Addr) (n : Int), ds = [.ref p, .int n] ∧ Bag M p ∧ 0 ≤ n ∧ n ≤ 1000 ∧ ∀ (r : Addr) (zs : List Str) (M' : Mem), M' r = some (.lst (zs.map D.str)) → zs.length = n.toNat → (∀ z, z ∈ zs → NameOk z) → BagUp p M M' → Q (.ref r) M'
theorem ok_names (a : At K mg "_law_names" s_law_names) (n_range : mg "range" = none) (n_len : mg "len" = none) (o_law_pull : Ok P w K mg base "_law_pull" s_law_pull 2 ["_law_bag_here", "_law_amount"] sp_pull) (o_law_of : Ok P w K mg base "_law_of" s_law_of 3 ["_law_bag_here", "_law_things"] sp_of) : Ok P w K mg base "_law_names" s_law_names 4 ["_law_bag_here", "_law_size"] sp_names := by
  refine ok_of a sc_law_names _ rfl (fun ds M Q E ⟨p, th, h, _⟩ => by rw [h]; rfl) fun f cd A outer s H E hr => ⟨_, (ss_cons (s_asg (d_tup (a_cons de_str (a_cons de_str a_nil))) (g_tup (n := 2) rfl (gs_cons (g_name 2 sc_law_names.nd) (gs_cons (g_name 3 sc_law_names.nd) gs_nil))))
  (ss_cons (s_for xd_owns rfl (i_r1 n_range (d_call o_law_pull bd_law_pull (hr.mono (by omega)) xd_takes (a_cons (dv 0) (a_cons de_int a_nil)))) (g_name 4 sc_law_names.nd) (ss_one (s_set 3 sc_law_names.nd (d_add (dv 3) (d_call o_law_of bd_law_of (hr.mono (by omega)) xd_takes (a_cons (dv 0) (a_cons (dv 2) a_nil)))))))
  (ss_cons (s_asg (d_tup (a_cons (d_call o_law_pull bd_law_pull (hr.mono (by omega)) xd_takes (a_cons (dv 0) (a_cons (d_add (d_len n_len (dv 3)) de_int) a_nil))) (a_cons (d_call o_law_pull bd_law_pull (hr.mono (by omega)) xd_takes (a_cons (dv 0) (a_cons de_int a_nil))) (a_cons (d_call o_law_of bd_law_of (hr.mono (by omega)) xd_takes (a_cons (dv 0) (a_cons (d_lst (a_cons de_int (a_cons de_int (a_cons de_int (a_cons de_int (a_cons de_int a_nil)))))) a_nil))) a_nil)))) (g_tup (n := 3) rfl (gs_cons (g_name 5 sc_law_names.nd) (gs_cons (g_name 6 sc_law_names.nd) (gs_cons (g_name 7 sc_law_names.nd) gs_nil)))))
  (ss_one (s_ret (DL.de (l_lc (own := [("_law_k", 4)]) rfl sc_law_names.nd (i_r1 n_range (dv 1)) (blkOk_by (by show blkC ["_law_bag_here", "_law_size", "_law_letters", "_law_base", "_law_k", "_law_spot", "_law_first", "_law_step"] (defScope s_law_names) _ _ = true; decide +kernel)) (fun _ _ _ _ _ => (cg_name 4 sc_law_names.nd)) (fun _ _ _ _ _ => pt_nil) (fun s1 H1 C1 cl1 fp1 => (d_add (d_add (d_slice (dv 3) o_none (o_some (dv 5))) (d_ix (dv 2) (d_mod (d_add (dv 6) (d_mul (dv 7) (dv 4))) de_int))) (d_slice (dv 3) (o_some (dv 5)) o_none)))))))))), ?_⟩
  rintro ds M Q E ⟨p, n, rfl, hb, h0, h1, hq⟩
  walk_at "go"
  refine ⟨p, 6, rfl, hb, by decide, by decide, fun v M1 hv0 hv1 t1 => ?_⟩
  walk_at "go"
  refine ⟨by omega, by omega, ?_⟩
  refine for_by (fun i ρ M1 => BagUp p M M1 ∧ ∃ (z : Str) (x1 x2 x3 x4 : Option D), ρ = [some (.ref p), some (.int n), some (.str abc), some (.str z), x1, x2, x3, x4] ∧ z.length = i ∧ ∀ c, c ∈ z.cps.toList → c ∈ abc.cps.toList) ⟨t1.up, ⟨#[]⟩, _, _, _, _, rfl, rfl, fun c h => by cases h⟩ (fun _ _ _ _ _ => trivial) ?_ ?_
  · rintro i d ρ M2 hd ⟨t2, z, x1, x2, x3, x4, rfl, hz, hc⟩
    obtain ⟨hi, rfl⟩ := rngD_of hd
    walk_at "go"
    refine ⟨p, _, _, rfl, t2.bag, .str (sz (by decide)), by decide, by decide, fun d M3 hd t3 => ?_⟩
    obtain ⟨c, hc2, rfl⟩ := List.mem_map.mp hd
    walk_at "go"
    refine add_n (by rw [one_len]; omega) fun y hy hyl => ?_
    walk_at "go"
    refine ⟨t2.trans t3.up, y, _, _, _, _, rfl, by rw [hyl, hz]; rfl, fun c' hc' => ?_⟩
    rw [hy, app_cps] at hc'
    rcases List.mem_append.mp hc' with h | h
    · exact hc c' h
    · have : c' = c := by simpa using h
      rw [this]
      exact hc2
  · rintro ρ M2 ⟨t2, z, x1, x2, x3, x4, rfl, hz, hc⟩
    rw [rngD_length] at hz
    have hz5 : z.length ≤ 5 := by omega
    walk_at "go"
    refine len_s (sz (by omega)) ?_
    walk_at "go"
    refine ⟨p, _, rfl, t2.bag, by omega, by omega, fun u M3 hu0 hu1 t3 => ?_⟩
    walk_at "go"
    refine ⟨p, 26, rfl, t3.bag, by decide, by decide, fun y M4 hy0 hy1 t4 => ?_⟩
    walk_at "go"
    intro p5 hp5
    walk_at "go"
    refine ⟨p, _, _, rfl, t4.bag.new hp5, .lst mupd_same (t4.bag.ne hp5), by decide, by decide, fun d M6 hd t6 => ?_⟩
    obtain ⟨m, rfl, hm0, hm1⟩ : ∃ m : Int, d = .int m ∧ 0 ≤ m ∧ m ≤ 9 := by
      simp at hd
      rcases hd with h | h | h | h | h <;> exact ⟨_, h, by decide, by decide⟩
    have tt : BagUp p M M6 := (((t2.trans t3.up).trans t4.up).new hp5).trans t6.up
    walk_at "go"
    refine ⟨by omega, by omega, ?_⟩
    refine lc_by (fun i acc M7 => M7 = M6 ∧ ∃ zs : List Str, acc = zs.map D.str ∧ zs.length = i ∧ ∀ z, z ∈ zs → NameOk z) ⟨rfl, [], rfl, rfl, fun z h => by cases h⟩ (fun _ _ _ _ _ => trivial) ?_ ?_
    · rintro i d acc M7 hd ⟨rfl, zs, rfl, hl, hzs⟩
      obtain ⟨hi, rfl⟩ := rngD_of hd
      have hi : i < 1000 := by omega
      walk_at "go"
      refine sl_n (by omega) fun a1 ha1 _ => ?_
      walk_at "go"
      refine one_n (by decide) (Int.emod_nonneg _ (by decide)) (Int.lt_of_lt_of_le (Int.emod_lt_of_pos _ (by decide)) (by decide)) fun c hc2 => ?_
      rw [cut_take hu0 (by omega)] at ha1
      have l1 : a1.length = u.toNat := by
        rw [ha1]
        show (List.take u.toNat z.cps.toList).toArray.size = _
        rw [List.size_toArray, List.length_take, cps_len]
        omega
      walk_at "go"
      refine add_n (by rw [one_len]; omega) fun a2 ha2 l2 => ?_
      walk_at "go"
      refine sl_n (by omega) fun a3 ha3 _ => ?_
      rw [cut_drop hu0 (by omega)] at ha3
      have l3 : a3.length = z.length - u.toNat := by
        rw [ha3]
        show (List.drop u.toNat z.cps.toList).toArray.size = _
        rw [List.size_toArray, List.length_drop, cps_len]
      rw [one_len] at l2
      walk_at "go"
      refine add_n (by omega) fun a4 ha4 l4 => ?_
      walk_at "go"
      refine ⟨rfl, zs ++ [a4], by rw [List.map_append]; rfl, by rw [List.length_append, hl]; rfl, fun y hy => ?_⟩
      rcases List.mem_append.mp hy with hy | hy
      · exact hzs y hy
      · have hy : y = a4 := by simpa using hy
        subst hy
        refine ⟨by omega, by omega, fun c' hc' => ?_⟩
        rw [ha4, app_cps, ha2, app_cps, ha1, ha3] at hc'
        rcases List.mem_append.mp hc' with h | h
        · rcases List.mem_append.mp h with h | h
          · exact hc c' (List.mem_of_mem_take (by simpa using h))
          · have : c' = c := by simpa using h
            rw [this]
            exact hc2
        · exact hc c' (List.mem_of_mem_drop (by simpa using h))
    · rintro acc M7 ⟨rfl, zs, rfl, hl, hzs⟩
      rw [rngD_length] at hl
      walk_at "go"
      intro r hr
      exact ⟨_, MLe.refl _, hq r zs _ mupd_same hl hzs (tt.new hr)⟩

/-! ### alike -/
inductive Like (M : Mem) : Nat → D → D → Prop
  | non {n : Nat} : Like M (n + 1) .non .non
  | bl {n : Nat} (b : Bool) : Like M (n + 1) (.bl b) (.bl b)
  | int {n : Nat} (i : Int) : Like M (n + 1) (.int i) (.int i)
  | str {n : Nat} (x : Str) : Like M (n + 1) (.str x) (.str x)
  | tup {n : Nat} {xs ys : List D} : xs.length = ys.length → (∀ (i : Nat) x y, xs[i]? = some x → ys[i]? = some y → Like M n x y) → xs.length ≤ 1000000 → Like M (n + 1) (.tup xs) (.tup ys)
  | lst {n : Nat} {a b : Addr} {xs ys : List D} : M a = some (.lst xs) → M b = some (.lst ys) → xs.length = ys.length → (∀ (i : Nat) x y, xs[i]? = some x → ys[i]? = some y → Like M n x y) → xs.length ≤ 1000000 → Like M (n + 1) (.ref a) (.ref b)
def sp_like (n : Nat) : SpD := fun ds M Q _ => ∃ x y, ds = [x, y] ∧ Like M n x y ∧ Q (.bl true) M

end

section
variable {P : Program} {w : World} {K : PySem.W.Frag} {mg : Str → Option Value} {base : Heap}
/-! ### the law's own reader of an error's field -/
theorem seq_l {M : Mem} {a : Addr} {ds : List D} (h : M a = some (.lst ds)) : seqD M (.ref a) = some ds := by
  unfold seqD
  dsimp only
  rw [h]
theorem field_reads : FieldReads P w K mg base s_law_field := by
  intro f cd A outer s H a C dd oe vs wd v M hz hf hx hc hr
  have hp : (a, oe) ∈ [(a, oe)] := List.mem_cons_self
  refine ⟨_, (ss_cons (s_if (t_cmp c_in (d_xf hp hz hf hx (dv 0)) (d_lst (a_cons de_str (a_cons de_str (a_cons de_str a_nil))))) (ss_one (s_ret (d_xf hp hz hf hx (dv 0)))) ss_nil)
  (ss_cons (s_if (t_cmp c_in (d_xf hp hz hf hx (dv 0)) (d_lst (a_cons de_str (a_cons de_str (a_cons de_str a_nil))))) (ss_one (s_ret (d_xf hp hz hf hx (dv 0)))) ss_nil)
  (ss_cons (s_if (t_cmp c_in (d_xf hp hz hf hx (dv 0)) (d_lst (a_cons de_str (a_cons de_str a_nil)))) (ss_one (s_ret (d_xf hp hz hf hx (dv 0)))) ss_nil)
  (ss_cons (s_if (t_cmp c_in (d_xf hp hz hf hx (dv 0)) (d_lst (a_cons de_str (a_cons de_str (a_cons de_str a_nil))))) (ss_one (s_ret (d_xf hp hz hf hx (dv 0)))) ss_nil)
  (ss_cons (s_if (t_cmp c_in (d_xf hp hz hf hx (dv 0)) (d_lst (a_cons de_str (a_cons de_str a_nil)))) (ss_one (s_ret (d_xf hp hz hf hx (dv 0)))) ss_nil)
  (ss_cons (s_if (t_cmp c_in (d_xf hp hz hf hx (dv 0)) (d_lst (a_cons de_str (a_cons de_str a_nil)))) (ss_one (s_ret (d_if (t_cmp (c_eqH hr) (d_xf hp hz hf hx (dv 0)) de_str) (d_xf hp hz hf hx (dv 0)) (d_xf hp hz hf hx (dv 0))))) ss_nil)
  (ss_one (s_ret (d_if (t_cmp (c_eqH hr) (d_xf hp hz hf hx (dv 0)) de_str) (d_xf hp hz hf hx (dv 0)) (d_if (t_cmp (c_eqH hr) (d_xf hp hz hf hx (dv 0)) de_str) (d_xf hp hz hf hx (dv 0)) de_non)))))))))), ?_⟩
  obtain ⟨h1, h2, h3, h4⟩ := hc
  unfold fieldF at h4
  have hd0 : (mupd M dd (.oth (.xd vs))) dd = some (.oth (.xd vs)) := mupd_same
  generalize mupd M dd (.oth (.xd vs)) = M0 at hd0 ⊢
  have le0 : MLe M0 M0 := MLe.refl _
  walk_at "go"
  refine ⟨rfl, h2, vs, .str wd, hd0, h1, rfl, ?_⟩
  walk_at "go"
  intro p0 hp0
  walk_at "go"
  refine in_q (fun z h => by cases h) rfl (seq_l mupd_same) rfl ?_
  have hd1 := (MLe.new (mo := (.lst [.str "BadStep", .str "BadCommand", .str "BadText"])) hp0) _ _ hd0
  have le1 := le0.trans (MLe.new (mo := (.lst [.str "BadStep", .str "BadCommand", .str "BadText"])) hp0)
  generalize mupd M0 p0 _ = M1 at hd1 le1 ⊢
  walk_at "go"
  refine cndI (fun hb => ?_) fun hb => ?_ <;> rw [if_neg Bool.false_ne_true] at hb
  · rw [if_pos hb] at h4
    walk_at "go"
    exact ⟨rfl, h4.2, vs, v, hd1, h4.1, h3, rfl, le1⟩
  rw [if_neg (by rw [hb]; exact Bool.false_ne_true)] at h4
  walk_at "go"
  refine ⟨rfl, h2, vs, .str wd, hd1, h1, rfl, ?_⟩
  walk_at "go"
  intro p1 hp1
  walk_at "go"
  refine in_q (fun z h => by cases h) rfl (seq_l mupd_same) rfl ?_
  have hd2 := (MLe.new (mo := (.lst [.str "TooLarge", .str "TooLong", .str "Full"])) hp1) _ _ hd1
  have le2 := le1.trans (MLe.new (mo := (.lst [.str "TooLarge", .str "TooLong", .str "Full"])) hp1)
  generalize mupd M1 p1 _ = M2 at hd2 le2 ⊢
  walk_at "go"
  refine cndI (fun hb => ?_) fun hb => ?_ <;> rw [if_neg Bool.false_ne_true] at hb
  · rw [if_pos hb] at h4
    walk_at "go"
    exact ⟨rfl, h4.2, vs, v, hd2, h4.1, h3, rfl, le2⟩
  rw [if_neg (by rw [hb]; exact Bool.false_ne_true)] at h4
  walk_at "go"
  refine ⟨rfl, h2, vs, .str wd, hd2, h1, rfl, ?_⟩
  walk_at "go"
  intro p2 hp2
  walk_at "go"
  refine in_q (fun z h => by cases h) rfl (seq_l mupd_same) rfl ?_
  have hd3 := (MLe.new (mo := (.lst [.str "BadOwner", .str "NoItem"])) hp2) _ _ hd2
  have le3 := le2.trans (MLe.new (mo := (.lst [.str "BadOwner", .str "NoItem"])) hp2)
  generalize mupd M2 p2 _ = M3 at hd3 le3 ⊢
  walk_at "go"
  refine cndI (fun hb => ?_) fun hb => ?_ <;> rw [if_neg Bool.false_ne_true] at hb
  · rw [if_pos hb] at h4
    walk_at "go"
    exact ⟨rfl, h4.2, vs, v, hd3, h4.1, h3, rfl, le3⟩
  rw [if_neg (by rw [hb]; exact Bool.false_ne_true)] at h4
  walk_at "go"
  refine ⟨rfl, h2, vs, .str wd, hd3, h1, rfl, ?_⟩
  walk_at "go"
  intro p3 hp3
  walk_at "go"
  refine in_q (fun z h => by cases h) rfl (seq_l mupd_same) rfl ?_
  have hd4 := (MLe.new (mo := (.lst [.str "Taken", .str "Clash", .str "NoStamp"])) hp3) _ _ hd3
  have le4 := le3.trans (MLe.new (mo := (.lst [.str "Taken", .str "Clash", .str "NoStamp"])) hp3)
  generalize mupd M3 p3 _ = M4 at hd4 le4 ⊢
  walk_at "go"
  refine cndI (fun hb => ?_) fun hb => ?_ <;> rw [if_neg Bool.false_ne_true] at hb
  · rw [if_pos hb] at h4
    walk_at "go"
    exact ⟨rfl, h4.2, vs, v, hd4, h4.1, h3, rfl, le4⟩
  rw [if_neg (by rw [hb]; exact Bool.false_ne_true)] at h4
  walk_at "go"
  refine ⟨rfl, h2, vs, .str wd, hd4, h1, rfl, ?_⟩
  walk_at "go"
  intro p4 hp4
  walk_at "go"
  refine in_q (fun z h => by cases h) rfl (seq_l mupd_same) rfl ?_
  have hd5 := (MLe.new (mo := (.lst [.str "BadName", .str "Unknown"])) hp4) _ _ hd4
  have le5 := le4.trans (MLe.new (mo := (.lst [.str "BadName", .str "Unknown"])) hp4)
  generalize mupd M4 p4 _ = M5 at hd5 le5 ⊢
  walk_at "go"
  refine cndI (fun hb => ?_) fun hb => ?_ <;> rw [if_neg Bool.false_ne_true] at hb
  · rw [if_pos hb] at h4
    walk_at "go"
    exact ⟨rfl, h4.2, vs, v, hd5, h4.1, h3, rfl, le5⟩
  rw [if_neg (by rw [hb]; exact Bool.false_ne_true)] at h4
  walk_at "go"
  refine ⟨rfl, h2, vs, .str wd, hd5, h1, rfl, ?_⟩
  walk_at "go"
  intro p5 hp5
  walk_at "go"
  refine in_q (fun z h => by cases h) rfl (seq_l mupd_same) rfl ?_
  have hd6 := (MLe.new (mo := (.lst [.str "OutOfRange", .str "BadPage"])) hp5) _ _ hd5
  have le6 := le5.trans (MLe.new (mo := (.lst [.str "OutOfRange", .str "BadPage"])) hp5)
  generalize mupd M5 p5 _ = M6 at hd6 le6 ⊢
  walk_at "go"
  refine cndI (fun hb => ?_) fun hb => ?_ <;> rw [if_neg Bool.false_ne_true] at hb
  · rw [if_pos hb] at h4
    walk_at "go"
    refine ⟨rfl, h2, vs, .str wd, hd6, h1, rfl, ?_⟩
    walk_at "go"
    refine cndI (fun hc => ?_) fun hc => ?_
    · rw [if_pos hc] at h4
      walk_at "go"
      exact ⟨rfl, h4.2, vs, v, hd6, h4.1, h3, rfl, le6⟩
    · rw [if_neg (by rw [hc]; exact Bool.false_ne_true)] at h4
      walk_at "go"
      exact ⟨rfl, h4.2, vs, v, hd6, h4.1, h3, rfl, le6⟩
  rw [if_neg (by rw [hb]; exact Bool.false_ne_true)] at h4
  walk_at "go"
  refine ⟨rfl, h2, vs, .str wd, hd6, h1, rfl, ?_⟩
  walk_at "go"
  refine cndI (fun hc => ?_) fun hc => ?_
  · rw [if_pos hc] at h4
    walk_at "go"
    exact ⟨rfl, h4.2, vs, v, hd6, h4.1, h3, rfl, le6⟩
  rw [if_neg (by rw [hc]; exact Bool.false_ne_true)] at h4
  walk_at "go"
  refine ⟨rfl, h2, vs, .str wd, hd6, h1, rfl, ?_⟩
  walk_at "go"
  refine cndI (fun hc => ?_) fun hc => ?_
  · rw [if_pos hc] at h4
    walk_at "go"
    exact ⟨rfl, h4.2, vs, v, hd6, h4.1, h3, rfl, le6⟩
  rw [if_neg (by rw [hc]; exact Bool.false_ne_true)] at h4
  walk_at "go"
  dsimp only at h4
  subst h4
  exact ⟨rfl, le6⟩
theorem try_at {c1 c2 : Value} (a1 : At K mg "_law_try" s_law_try) (a2 : At K mg "_law_field" s_law_field) (n1 : mg "TurnError" = some c1) (n2 : mg "TurnMissing" = some c2) : TryAt P w K mg base s_law_try s_law_field c1 c2 :=
  ⟨a1, a2, n1, n2, bd_law_try, bd_law_field, sc_law_try, sc_law_field, rfl, rfl, rfl, rfl, rfl, ⟨_, _, _, _, _, _, _, _, _, _, _, _, _, _, _, _, _, _, _, _, _, rfl⟩, field_reads⟩

end

section
variable {P : Program} {w : World} {K : PySem.W.Frag} {mg : Str → Option Value} {base : Heap}
/-! ### trees, in plain Lean -/
inductive T where
  | leaf (s : Str)
  | node (l : List T)
mutual
def T.enc : T → D
  | .leaf s => .str s
  | .node l => .tup (encs l)
def encs : List T → List D
  | [] => []
  | t :: l => t.enc :: encs l
end
theorem encs_map : ∀ l : List T, encs l = l.map T.enc
  | [] => rfl
  | t :: l => by simp only [encs, List.map_cons, encs_map l]
mutual
def T.pyd : T → PyData
  | .leaf s => .str s
  | .node l => .tuple (pyds l)
def pyds : List T → List PyData
  | [] => []
  | t :: l => t.pyd :: pyds l
end
mutual
theorem T.py (M : Mem) : ∀ t : T, Py M t.enc t.pyd
  | .leaf s => .str s
  | .node l => .tup (pys_encs M l)
theorem pys_encs (M : Mem) : ∀ l : List T, Pys M (encs l) (pyds l)
  | [] => .nil
  | t :: l => .cons (T.py M t) (pys_encs M l)
end
mutual
/-- levels -/
def T.lv : T → Nat
  | .leaf _ => 0
  | .node l => 1 + lvs l
def lvs : List T → Nat
  | [] => 0
  | t :: l => max t.lv (lvs l)
end
mutual
/-- ends -/
def T.cnt : T → Nat
  | .leaf _ => 1
  | .node l => cnts l
def cnts : List T → Nat
  | [] => 0
  | t :: l => t.cnt + cnts l
end
mutual
/-- two outlets at least, owners p -/
def T.Ok (p : Str → Prop) : T → Prop
  | .leaf s => p s
  | .node l => 2 ≤ l.length ∧ Oks p l
def Oks (p : Str → Prop) : List T → Prop
  | [] => True
  | t :: l => t.Ok p ∧ Oks p l
end
theorem Oks.of {p : Str → Prop} : ∀ {l : List T}, (∀ t, t ∈ l → t.Ok p) → Oks p l
  | [], _ => trivial
  | t :: l, h => ⟨h t (List.mem_cons_self ..), Oks.of fun u hu => h u (List.mem_cons_of_mem _ hu)⟩
theorem Oks.mem {p : Str → Prop} : ∀ {l : List T} {t : T}, Oks p l → t ∈ l → t.Ok p
  | u :: l, t, h, m => by
    rcases List.mem_cons.mp m with rfl | m
    · exact h.1
    · exact Oks.mem h.2 m
theorem lvs_mem : ∀ {l : List T} {t : T}, t ∈ l → t.lv ≤ lvs l
  | u :: l, t, m => by
    rcases List.mem_cons.mp m with rfl | m
    · exact Nat.le_max_left ..
    · exact Nat.le_trans (lvs_mem m) (Nat.le_max_right ..)
theorem lvs_le : ∀ {l : List T} {n : Nat}, (∀ t, t ∈ l → t.lv ≤ n) → lvs l ≤ n
  | [], _, _ => Nat.zero_le _
  | t :: l, n, h => Nat.max_le.mpr ⟨h t (List.mem_cons_self ..), lvs_le fun u hu => h u (List.mem_cons_of_mem _ hu)⟩
theorem T.cnt_pos {p : Str → Prop} : ∀ {t : T}, t.Ok p → 0 < t.cnt
  | .leaf s, _ => Nat.zero_lt_one
  | .node (t :: l), h => by
    have := T.cnt_pos (t := t) h.2.1
    simp only [T.cnt, cnts]
    omega
  | .node [], h => by have := h.1; simp at this
theorem cnts_mem : ∀ {l : List T} {t : T}, t ∈ l → t.cnt ≤ cnts l
  | u :: l, t, m => by
    simp only [cnts]
    rcases List.mem_cons.mp m with rfl | m
    · omega
    · have := cnts_mem m; omega
theorem cnts_len {p : Str → Prop} : ∀ {l : List T}, Oks p l → l.length ≤ cnts l
  | [], _ => Nat.le_refl _
  | t :: l, h => by
    have h1 := T.cnt_pos h.1
    have h2 := cnts_len h.2
    simp only [cnts, List.length_cons]
    omega
/-! owners of items -/
mutual
def T.own : T → Nat → Str
  | .leaf s, _ => s
  | .node l, i => owns l (i % l.length) (i / l.length)
def owns : List T → Nat → Nat → Str
  | [], _, _ => ⟨#[]⟩
  | t :: _, 0, j => t.own j
  | _ :: l, k + 1, j => owns l k j
end
theorem owns_get : ∀ {l : List T} {k j : Nat} {t : T}, l[k]? = some t → owns l k j = t.own j
  | t :: l, 0, j, u, h => by cases h; rfl
  | t :: l, k + 1, j, u, h => owns_get (l := l) (by simpa using h)
/-! every step-th item -/
def mk1 (l : List T) : T := match l with
  | [t] => t
  | l => .node l
mutual
def T.evr : T → Nat → Nat → T
  | .leaf s, _, _ => .leaf s
  | .node l, f, s => mk1 ((List.range (l.length / Nat.gcd l.length s)).map fun k => evrs l ((f + s * k) % l.length) ((f + s * k) / l.length) (s / Nat.gcd l.length s))
def evrs : List T → Nat → Nat → Nat → T
  | [], _, _, _ => .leaf ⟨#[]⟩
  | t :: _, 0, f, s => t.evr f s
  | _ :: l, k + 1, f, s => evrs l k f s
end
theorem evrs_get : ∀ {l : List T} {k f s : Nat} {t : T}, l[k]? = some t → evrs l k f s = t.evr f s
  | t :: l, 0, f, s, u, h => by cases h; rfl
  | t :: l, k + 1, f, s, u, h => evrs_get (l := l) (by simpa using h)
theorem own_mk1 {l : List T} {j : Nat} (h : l ≠ []) : (mk1 l).own j = owns l (j % l.length) (j / l.length) := by
  match l, h with
  | [t], _ =>
    show t.own j = owns [t] (j % 1) (j / 1)
    rw [Nat.mod_one, Nat.div_one]; rfl
  | t :: u :: l, _ => rfl
theorem own_evr {p : Str → Prop} : ∀ (t : T) (f s j : Nat), t.Ok p → 0 < s → (t.evr f s).own j = t.own (f + s * j)
  | .leaf o, f, s, j, _, _ => rfl
  | .node l, f, s, j, ⟨h2, hl⟩, hs => by
    have hn : 0 < l.length := by omega
    have hg : 0 < Nat.gcd l.length s := Nat.gcd_pos_of_pos_left _ hn
    obtain ⟨m, hm⟩ := Nat.gcd_dvd_left l.length s
    obtain ⟨q, hq⟩ := Nat.gcd_dvd_right l.length s
    have e1 : l.length / Nat.gcd l.length s = m := Nat.div_eq_of_eq_mul_right hg hm
    have e2 : s / Nat.gcd l.length s = q := Nat.div_eq_of_eq_mul_right hg hq
    have hm0 : 0 < m := Nat.pos_of_ne_zero fun e => by rw [e] at hm; omega
    have hq0 : 0 < q := Nat.pos_of_ne_zero fun e => by rw [e] at hq; omega
    have hsm : s * m = q * l.length := by
      conv => lhs; rw [hq]
      conv => rhs; rw [hm]
      rw [Nat.mul_comm q, Nat.mul_assoc, Nat.mul_assoc, Nat.mul_comm m q]
    simp only [T.evr, e1, e2]
    have hne : ((List.range m).map fun k => evrs l ((f + s * k) % l.length) ((f + s * k) / l.length) q) ≠ [] := by
      intro e
      have := congrArg List.length e
      simp at this
      omega
    rw [own_mk1 hne, List.length_map, List.length_range]
    have hk : j % m < m := Nat.mod_lt _ hm0
    have hx : (f + s * (j % m)) % l.length < l.length := Nat.mod_lt _ hn
    have hget : ((List.range m).map fun k => evrs l ((f + s * k) % l.length) ((f + s * k) / l.length) q)[j % m]? = some (evrs l ((f + s * (j % m)) % l.length) ((f + s * (j % m)) / l.length) q) := by
      rw [List.getElem?_map, List.getElem?_range hk]; rfl
    rw [owns_get hget, evrs_get (List.getElem?_eq_getElem hx)]
    have ih := own_evr (l[(f + s * (j % m)) % l.length]) ((f + s * (j % m)) / l.length) q (j / m) (hl.mem (List.getElem_mem hx)) hq0
    rw [ih]
    have e : f + s * j = (f + s * (j % m)) + l.length * (q * (j / m)) := by
      conv => lhs; rw [← Nat.mod_add_div j m]
      rw [Nat.mul_add, ← Nat.mul_assoc, hsm, ← Nat.add_assoc, Nat.mul_comm q, Nat.mul_assoc]
    show _ = owns l ((f + s * j) % l.length) ((f + s * j) / l.length)
    rw [e, Nat.add_mul_mod_self_left, Nat.add_mul_div_left _ _ hn, owns_get (List.getElem?_eq_getElem hx)]
termination_by t => sizeOf t
decreasing_by
  have := List.sizeOf_lt_of_mem (List.getElem_mem hx)
  simp only [T.node.sizeOf_spec]
  omega

/-! ### trees: sizes of taken trees, ends, gathering, paths -/
theorem mk1_ok {p : Str → Prop} {l : List T} (h0 : l ≠ []) (h : ∀ t, t ∈ l → t.Ok p) : (mk1 l).Ok p := by
  match l, h0 with
  | [t], _ => exact h t (List.mem_cons_self ..)
  | t :: u :: l, _ => exact ⟨by simp, .of h⟩
theorem mk1_lv {l : List T} {n : Nat} (h : ∀ t, t ∈ l → t.lv ≤ n) : (mk1 l).lv ≤ 1 + n := by
  match l with
  | [] => simp [mk1, T.lv, lvs]
  | [t] => exact Nat.le_trans (h t (List.mem_cons_self ..)) (Nat.le_add_left ..)
  | t :: u :: l =>
    show 1 + lvs (t :: u :: l) ≤ 1 + n
    have := lvs_le h
    omega
theorem cnt_mk1 {l : List T} (h : l ≠ []) : (mk1 l).cnt = cnts l := by
  match l, h with
  | [t], _ => simp [mk1, cnts]
  | t :: u :: l, _ => rfl
theorem evr_ok {p : Str → Prop} : ∀ (t : T) (f s : Nat), t.Ok p → 0 < s → (t.evr f s).Ok p ∧ (t.evr f s).lv ≤ t.lv
  | .leaf o, f, s, h, _ => ⟨h, Nat.le_refl _⟩
  | .node l, f, s, ⟨h2, hl⟩, hs => by
    have hn : 0 < l.length := by omega
    have hg : 0 < Nat.gcd l.length s := Nat.gcd_pos_of_pos_left _ hn
    have hm : 0 < l.length / Nat.gcd l.length s := Nat.div_pos (Nat.gcd_le_left _ hn) hg
    have hq : 0 < s / Nat.gcd l.length s := Nat.div_pos (Nat.gcd_le_right _ hs) hg
    have key : ∀ t, t ∈ ((List.range (l.length / Nat.gcd l.length s)).map fun k => evrs l ((f + s * k) % l.length) ((f + s * k) / l.length) (s / Nat.gcd l.length s)) → t.Ok p ∧ t.lv ≤ lvs l := by
      intro t ht
      obtain ⟨k, _, rfl⟩ := List.mem_map.mp ht
      have hx : (f + s * k) % l.length < l.length := Nat.mod_lt _ hn
      rw [evrs_get (List.getElem?_eq_getElem hx)]
      have := evr_ok (l[(f + s * k) % l.length]) ((f + s * k) / l.length) (s / Nat.gcd l.length s) (hl.mem (List.getElem_mem hx)) hq
      exact ⟨this.1, Nat.le_trans this.2 (lvs_mem (List.getElem_mem hx))⟩
    refine ⟨mk1_ok ?_ fun t ht => (key t ht).1, mk1_lv fun t ht => (key t ht).2⟩
    intro e
    have := congrArg List.length e
    rw [List.length_map, List.length_range, List.length_nil] at this
    omega
termination_by t => sizeOf t
decreasing_by
  have := List.sizeOf_lt_of_mem (List.getElem_mem hx)
  simp only [T.node.sizeOf_spec]
  omega
/-! ends with their classes, left to right -/
mutual
def T.ends : T → Nat → Nat → List (Nat × Nat × Str)
  | .leaf o, f, s => [(f, s, o)]
  | .node l, f, s => endss l f s (s * l.length)
def endss : List T → Nat → Nat → Nat → List (Nat × Nat × Str)
  | [], _, _, _ => []
  | t :: l, f, s, w => t.ends f w ++ endss l (f + s) s w
end
theorem endss_app : ∀ (l r : List T) (f s w : Nat), endss (l ++ r) f s w = endss l f s w ++ endss r (f + s * l.length) s w
  | [], r, f, s, w => by simp [endss]
  | t :: l, r, f, s, w => by
    simp only [List.cons_append, endss, endss_app l, List.append_assoc, List.length_cons]
    rw [Nat.mul_succ, Nat.add_assoc f s, Nat.add_comm s]
mutual
theorem ends_len : ∀ (t : T) (f s : Nat), (t.ends f s).length = t.cnt
  | .leaf _, _, _ => rfl
  | .node l, f, s => endss_len l f s (s * l.length)
theorem endss_len : ∀ (l : List T) (f s w : Nat), (endss l f s w).length = cnts l
  | [], _, _, _ => rfl
  | t :: l, f, s, w => by simp only [endss, cnts, List.length_append, ends_len t, endss_len l]
end
mutual
/-- an end's class gets its owner -/
theorem ends_own : ∀ (t : T) (f s : Nat) (x : Nat × Nat × Str), x ∈ t.ends f s → ∃ a b, x.1 = f + s * a ∧ x.2.1 = s * b ∧ 0 < b ∧ a < b ∧ ∀ j, t.own (a + b * j) = x.2.2
  | .leaf o, f, s, x, h => by
    have : x = (f, s, o) := by simpa [T.ends] using h
    subst this
    exact ⟨0, 1, by simp, by simp, by decide, by decide, fun j => rfl⟩
  | .node l, f, s, x, h => by
    obtain ⟨k, a, b, t, hk, e1, e2, hb, hab, ho⟩ := endss_own l f s (s * l.length) x h
    have hn : k < l.length := (List.getElem?_eq_some_iff.mp hk).1
    refine ⟨k + l.length * a, l.length * b, ?_, ?_, Nat.mul_pos (by omega) hb, ?_, fun j => ?_⟩
    · rw [e1, Nat.mul_add, Nat.add_assoc, Nat.mul_assoc]
    · rw [e2, Nat.mul_assoc]
    · have : l.length * a + l.length ≤ l.length * b := by rw [← Nat.mul_succ]; exact Nat.mul_le_mul_left _ hab
      omega
    · show owns l ((k + l.length * a + l.length * b * j) % l.length) ((k + l.length * a + l.length * b * j) / l.length) = _
      have e : k + l.length * a + l.length * b * j = k + l.length * (a + b * j) := by rw [Nat.mul_add, Nat.add_assoc, Nat.mul_assoc]
      rw [e, Nat.add_mul_mod_self_left, Nat.mod_eq_of_lt hn, Nat.add_mul_div_left _ _ (by omega), Nat.div_eq_of_lt hn, Nat.zero_add, owns_get hk, ho j]
theorem endss_own : ∀ (l : List T) (f s w : Nat) (x : Nat × Nat × Str), x ∈ endss l f s w → ∃ k a b t, l[k]? = some t ∧ x.1 = f + s * k + w * a ∧ x.2.1 = w * b ∧ 0 < b ∧ a < b ∧ ∀ j, t.own (a + b * j) = x.2.2
  | [], f, s, w, x, h => by cases h
  | t :: l, f, s, w, x, h => by
    rcases List.mem_append.mp (show x ∈ t.ends f w ++ endss l (f + s) s w from h) with h | h
    · obtain ⟨a, b, e1, e2, hb, hab, ho⟩ := ends_own t f w x h
      exact ⟨0, a, b, t, rfl, by rw [e1]; simp, e2, hb, hab, ho⟩
    · obtain ⟨k, a, b, u, hk, e1, e2, hb, hab, ho⟩ := endss_own l (f + s) s w x h
      exact ⟨k + 1, a, b, u, by simpa using hk, by rw [e1, Nat.mul_succ]; omega, e2, hb, hab, ho⟩
end
/-! equality of trees -/
mutual
theorem eqv_pyd : ∀ a b : T, PyData.eqv a.pyd b.pyd = true ↔ a = b
  | .leaf x, .leaf y => by simp [T.pyd, PyData.eqv]
  | .leaf x, .node l => by simp [T.pyd, PyData.eqv]
  | .node l, .leaf x => by simp [T.pyd, PyData.eqv]
  | .node l, .node r => by
    have := eqvAll_pyd l r
    simp only [T.pyd, PyData.eqv, T.node.injEq]
    exact this
theorem eqvAll_pyd : ∀ a b : List T, PyData.eqvAll (pyds a) (pyds b) = true ↔ a = b
  | [], [] => by simp [pyds, PyData.eqvAll]
  | [], t :: l => by simp [pyds, PyData.eqvAll]
  | t :: l, [] => by simp [pyds, PyData.eqvAll]
  | t :: l, u :: r => by
    have h1 := eqv_pyd t u
    have h2 := eqvAll_pyd l r
    simp only [pyds, PyData.eqvAll, Bool.and_eq_true, h1, h2, List.cons.injEq]
end

/-! ### trees: how many ends a taken tree has -/
theorem sum_set : ∀ (w : List Nat) (k : Nat), k < w.length → (w.set k 0).sum + w.getD k 0 = w.sum
  | a :: w, 0, _ => by simp; omega
  | a :: w, k + 1, h => by
    have := sum_set w k (by simpa using h)
    simp at this ⊢
    omega
theorem sum_sub : ∀ (ks : List Nat) (w : List Nat), ks.Nodup → (∀ k, k ∈ ks → k < w.length) → (ks.map fun k => w.getD k 0).sum ≤ w.sum
  | [], w, _, _ => Nat.zero_le _
  | k :: ks, w, hn, h => by
    have hk := h k (List.mem_cons_self ..)
    have h1 := sum_set w k hk
    have h2 := sum_sub ks (w.set k 0) (List.nodup_cons.mp hn).2 fun j hj => by rw [List.length_set]; exact h j (List.mem_cons_of_mem _ hj)
    have e : (ks.map fun j => (w.set k 0).getD j 0) = ks.map fun j => w.getD j 0 := by
      refine List.map_congr_left fun j hj => ?_
      have : k ≠ j := fun e => (List.nodup_cons.mp hn).1 (e ▸ hj)
      simp [List.getD_eq_getElem?_getD, List.getElem?_set_ne this]
    rw [e] at h2
    simp only [List.map_cons, List.sum_cons]
    omega
theorem cnts_sum : ∀ l : List T, cnts l = (l.map T.cnt).sum
  | [] => rfl
  | t :: l => by simp only [cnts, List.map_cons, List.sum_cons, cnts_sum l]
theorem idx_inj {n s f k j : Nat} (hn : 0 < n) (hk : k < n / Nat.gcd n s) (hj : j < n / Nat.gcd n s) (h : (f + s * k) % n = (f + s * j) % n) : k = j := by
  have hg : 0 < Nat.gcd n s := Nat.gcd_pos_of_pos_left _ hn
  obtain ⟨m, hm⟩ := Nat.gcd_dvd_left n s
  obtain ⟨q, hq⟩ := Nat.gcd_dvd_right n s
  have e1 : n / Nat.gcd n s = m := Nat.div_eq_of_eq_mul_right hg hm
  rw [e1] at hk hj
  have hc : Nat.gcd m q = 1 := by
    have := Nat.gcd_mul_left (Nat.gcd n s) m q
    rw [← hm, ← hq] at this
    exact Nat.eq_of_mul_eq_mul_left hg (by rw [Nat.mul_one]; exact this.symm)
  have hz : ((f + s * k : Nat) : Int) % n = ((f + s * j : Nat) : Int) % n := by
    have := congrArg (fun x : Nat => (x : Int)) h
    simpa using this
  have hd : (n : Int) ∣ ((f + s * k : Nat) : Int) - ((f + s * j : Nat) : Int) := Int.dvd_of_emod_eq_zero (Int.emod_eq_emod_iff_emod_sub_eq_zero.mp hz)
  have e2 : ((f + s * k : Nat) : Int) - ((f + s * j : Nat) : Int) = s * ((k : Int) - j) := by
    simp only [Int.natCast_add, Int.natCast_mul, Int.mul_sub]
    omega
  rw [e2] at hd
  have hd2 : n ∣ s * ((k : Int) - j).natAbs := by
    have := Int.natAbs_dvd_natAbs.mpr hd
    simpa [Int.natAbs_mul] using this
  have hd3 : m ∣ q * ((k : Int) - j).natAbs := by
    have h4 : Nat.gcd n s * m ∣ Nat.gcd n s * (q * ((k : Int) - j).natAbs) := by
      rw [← hm, ← Nat.mul_assoc, ← hq]; exact hd2
    exact Nat.dvd_of_mul_dvd_mul_left hg h4
  have hd4 : m ∣ ((k : Int) - j).natAbs := Nat.Coprime.dvd_of_dvd_mul_left (show Nat.Coprime m q from hc) hd3
  have : ((k : Int) - j).natAbs = 0 := Nat.eq_zero_of_dvd_of_lt hd4 (by omega)
  omega
theorem evr_cnt {p : Str → Prop} : ∀ (t : T) (f s : Nat), t.Ok p → 0 < s → (t.evr f s).cnt ≤ t.cnt
  | .leaf o, f, s, h, _ => Nat.le_refl _
  | .node l, f, s, ⟨h2, hl⟩, hs => by
    have hn : 0 < l.length := by omega
    have hg : 0 < Nat.gcd l.length s := Nat.gcd_pos_of_pos_left _ hn
    have hm : 0 < l.length / Nat.gcd l.length s := Nat.div_pos (Nat.gcd_le_left _ hn) hg
    have hq : 0 < s / Nat.gcd l.length s := Nat.div_pos (Nat.gcd_le_right _ hs) hg
    have hne : ((List.range (l.length / Nat.gcd l.length s)).map fun k => evrs l ((f + s * k) % l.length) ((f + s * k) / l.length) (s / Nat.gcd l.length s)) ≠ [] := by
      intro e
      have := congrArg List.length e
      rw [List.length_map, List.length_range, List.length_nil] at this
      omega
    show (mk1 _).cnt ≤ cnts l
    rw [cnt_mk1 hne, cnts_sum, cnts_sum l, List.map_map]
    have h1 : ((List.range (l.length / Nat.gcd l.length s)).map (T.cnt ∘ fun k => evrs l ((f + s * k) % l.length) ((f + s * k) / l.length) (s / Nat.gcd l.length s))).sum ≤ ((List.range (l.length / Nat.gcd l.length s)).map fun k => (l.map T.cnt).getD ((f + s * k) % l.length) 0).sum := by
      generalize List.range (l.length / Nat.gcd l.length s) = ks
      induction ks with
      | nil => exact Nat.le_refl _
      | cons k ks ih =>
        simp only [List.map_cons, List.sum_cons]
        refine Nat.add_le_add ?_ ih
        have hx : (f + s * k) % l.length < l.length := Nat.mod_lt _ hn
        show (evrs l _ _ _).cnt ≤ _
        rw [evrs_get (List.getElem?_eq_getElem hx)]
        have e : (l.map T.cnt).getD ((f + s * k) % l.length) 0 = (l[(f + s * k) % l.length]).cnt := by
          rw [List.getD_eq_getElem?_getD, List.getElem?_map, List.getElem?_eq_getElem hx]; rfl
        rw [e]
        exact evr_cnt (l[(f + s * k) % l.length]) _ _ (hl.mem (List.getElem_mem hx)) hq
    refine Nat.le_trans h1 ?_
    have e : ((List.range (l.length / Nat.gcd l.length s)).map fun k => (l.map T.cnt).getD ((f + s * k) % l.length) 0) = (((List.range (l.length / Nat.gcd l.length s)).map fun k => (f + s * k) % l.length).map fun k => (l.map T.cnt).getD k 0) := by rw [List.map_map]; rfl
    rw [e]
    refine sum_sub _ _ ?_ fun k hk => ?_
    · refine List.pairwise_map.mpr ?_
      refine List.Pairwise.imp_of_mem ?_ List.nodup_range
      intro a b ha hb hab e
      exact hab (idx_inj hn (List.mem_range.mp ha) (List.mem_range.mp hb) e)
    · obtain ⟨j, _, rfl⟩ := List.mem_map.mp hk
      rw [List.length_map]
      exact Nat.mod_lt _ hn
termination_by t => sizeOf t
decreasing_by
  have := List.sizeOf_lt_of_mem (List.getElem_mem hx)
  simp only [T.node.sizeOf_spec]
  omega
/-- the outlets of a taken tree -/
def taken1 (l : List T) (f s k : Nat) : T := evrs l ((f + s * k) % l.length) ((f + s * k) / l.length) (s / Nat.gcd l.length s)
theorem evr_node (l : List T) (f s : Nat) : (T.node l).evr f s = mk1 ((List.range (l.length / Nat.gcd l.length s)).map (taken1 l f s)) := rfl
/-! ### gathering -/
def T.isLf (s : Str) : T → Bool
  | .leaf x => x == s
  | .node _ => false
def gat1 (l : List T) : T := match l with
  | .leaf s :: r => if r.all (T.isLf s) then .leaf s else .node (.leaf s :: r)
  | l => .node l
mutual
def T.gat : T → T
  | .leaf s => .leaf s
  | .node l => gat1 (gats l)
def gats : List T → List T
  | [] => []
  | t :: l => t.gat :: gats l
end
theorem gats_map : ∀ l : List T, gats l = l.map T.gat
  | [] => rfl
  | t :: l => by simp only [gats, List.map_cons, gats_map l]
theorem isLf_eq {s : Str} {t : T} (h : t.isLf s = true) : t = .leaf s := by
  cases t with
  | leaf x => simp [T.isLf] at h; rw [h]
  | node l => simp [T.isLf] at h
theorem gat1_or (l : List T) : gat1 l = .node l ∨ ∃ s r, l = .leaf s :: r ∧ gat1 l = .leaf s ∧ ∀ t, t ∈ l → t = .leaf s := by
  match l with
  | [] => exact .inl rfl
  | .node r :: l => exact .inl rfl
  | .leaf s :: r =>
    cases e : r.all (T.isLf s) with
    | false => left; simp only [gat1, e]; rfl
    | true =>
      right
      refine ⟨s, r, rfl, by simp only [gat1, e]; rfl, fun t ht => ?_⟩
      rcases List.mem_cons.mp ht with rfl | ht
      · rfl
      · exact isLf_eq (List.all_eq_true.mp e t ht)
mutual
theorem gat_gat : ∀ t : T, t.gat.gat = t.gat
  | .leaf s => rfl
  | .node l => by
    simp only [T.gat]
    rcases gat1_or (gats l) with h | ⟨s, r, _, h, _⟩
    · rw [h]; simp only [T.gat, gats_gats l]; exact h
    · rw [h]; rfl
theorem gats_gats : ∀ l : List T, gats (gats l) = gats l
  | [] => rfl
  | t :: l => by simp only [gats, gat_gat t, gats_gats l]
end
theorem own_gat {p : Str → Prop} : ∀ (t : T) (j : Nat), t.Ok p → t.gat.own j = t.own j
  | .leaf s, j, _ => rfl
  | .node l, j, ⟨h2, hl⟩ => by
    have hx : j % l.length < l.length := Nat.mod_lt _ (by omega)
    have ih := own_gat (l[j % l.length]) (j / l.length) (hl.mem (List.getElem_mem hx))
    have e1 : (gats l)[j % l.length]? = some (l[j % l.length]).gat := by rw [gats_map, List.getElem?_map, List.getElem?_eq_getElem hx]; rfl
    have e2 : (gats l).length = l.length := by rw [gats_map, List.length_map]
    show (gat1 (gats l)).own j = owns l (j % l.length) (j / l.length)
    rw [owns_get (List.getElem?_eq_getElem hx), ← ih]
    rcases gat1_or (gats l) with h | ⟨s, r, _, h, ha⟩
    · rw [h]
      show owns (gats l) (j % (gats l).length) (j / (gats l).length) = _
      rw [e2, owns_get e1]
    · rw [h, ha _ (List.mem_of_getElem? e1)]; rfl
termination_by t => sizeOf t
decreasing_by
  have := List.sizeOf_lt_of_mem (List.getElem_mem hx)
  simp only [T.node.sizeOf_spec]
  omega
theorem gat_ok {p : Str → Prop} : ∀ t : T, t.Ok p → t.gat.Ok p ∧ t.gat.lv ≤ t.lv ∧ t.gat.cnt ≤ t.cnt
  | .leaf s, h => ⟨h, Nat.le_refl _, Nat.le_refl _⟩
  | .node l, ⟨h2, hl⟩ => by
    have key : ∀ t, t ∈ gats l → t.Ok p ∧ t.lv ≤ lvs l := fun t ht => by
      rw [gats_map] at ht
      obtain ⟨u, hu, rfl⟩ := List.mem_map.mp ht
      have := gat_ok u (hl.mem hu)
      exact ⟨this.1, Nat.le_trans this.2.1 (lvs_mem hu)⟩
    have hc : cnts (gats l) ≤ cnts l := by
      rw [cnts_sum, cnts_sum l, gats_map, List.map_map]
      have : ∀ r : List T, (∀ t, t ∈ r → t ∈ l) → (r.map (T.cnt ∘ T.gat)).sum ≤ (r.map T.cnt).sum := by
        intro r
        induction r with
        | nil => intro _; exact Nat.le_refl _
        | cons t r ih =>
          intro hr
          simp only [List.map_cons, List.sum_cons]
          have ht := hr t (List.mem_cons_self ..)
          exact Nat.add_le_add (gat_ok t (hl.mem ht)).2.2 (ih fun u hu => hr u (List.mem_cons_of_mem _ hu))
      exact this l fun _ h => h
    have h3 : l.length ≤ cnts l := cnts_len hl
    simp only [T.gat]
    rcases gat1_or (gats l) with h | ⟨s, r, e, h, ha⟩
    · rw [h]
      refine ⟨⟨by rw [gats_map, List.length_map]; exact h2, .of fun t ht => (key t ht).1⟩, ?_, hc⟩
      show 1 + lvs (gats l) ≤ 1 + lvs l
      have := lvs_le fun t ht => (key t ht).2
      omega
    · rw [h]
      refine ⟨?_, Nat.zero_le _, by show 1 ≤ cnts l; omega⟩
      have := (key (.leaf s) (by rw [e]; exact List.mem_cons_self ..)).1
      exact this
termination_by t => sizeOf t
decreasing_by
  all_goals
    first
    | (have := List.sizeOf_lt_of_mem hu; simp only [T.node.sizeOf_spec]; omega)
    | (have := List.sizeOf_lt_of_mem ht; simp only [T.node.sizeOf_spec]; omega)

/-! ### trees: parts by paths -/
theorem divOk_nat {n : Nat} (h0 : 0 < n) (h : n ≤ 100000) : DivOk (n : Int) := .of (by omega) (by omega)
def T.at : T → List Nat → Option T
  | t, [] => some t
  | .leaf _, _ :: _ => none
  | .node l, k :: ks => match l[k]? with
    | some u => u.at ks
    | none => none
def T.put : T → List Nat → T → T
  | _, [], u => u
  | .leaf s, _ :: _, _ => .leaf s
  | .node l, k :: ks, u => match l[k]? with
    | some v => .node (l.set k (v.put ks u))
    | none => .node l
mutual
def T.size : T → Nat
  | .leaf _ => 1
  | .node l => 1 + sizes l
def sizes : List T → Nat
  | [] => 0
  | t :: l => t.size + sizes l
end
mutual
theorem size_le {p : Str → Prop} : ∀ t : T, t.Ok p → t.size + 1 ≤ 2 * t.cnt
  | .leaf _, _ => Nat.le_refl _
  | .node l, ⟨h2, hl⟩ => by
    have := sizes_le l hl
    simp only [T.size, T.cnt]
    omega
theorem sizes_le {p : Str → Prop} : ∀ l : List T, Oks p l → sizes l + l.length ≤ 2 * cnts l
  | [], _ => Nat.le_refl _
  | t :: l, h => by
    have h1 := size_le t h.1
    have h2 := sizes_le l h.2
    simp only [sizes, cnts, List.length_cons]
    omega
end
theorem at_ok {p : Str → Prop} : ∀ (ks : List Nat) (t u : T), t.Ok p → t.at ks = some u → u.Ok p ∧ u.lv + ks.length ≤ t.lv ∧ u.cnt ≤ t.cnt
  | [], t, u, h, e => by simp [T.at] at e; subst e; exact ⟨h, Nat.le_refl _, Nat.le_refl _⟩
  | k :: ks, .leaf s, u, h, e => by simp [T.at] at e
  | k :: ks, .node l, u, h, e => by
    simp only [T.at] at e
    split at e
    · rename_i v hv
      have hm := List.mem_of_getElem? hv
      obtain ⟨h1, h2, h3⟩ := at_ok ks v u (h.2.mem hm) e
      have h4 := lvs_mem hm
      have h5 := cnts_mem hm
      refine ⟨h1, ?_, Nat.le_trans h3 h5⟩
      show u.lv + (ks.length + 1) ≤ 1 + lvs l
      omega
    · cases e
theorem cnts_set : ∀ (l : List T) (k : Nat) (v w : T), l[k]? = some v → cnts (l.set k w) + v.cnt = cnts l + w.cnt
  | t :: l, 0, v, w, h => by cases h; simp only [List.set_cons_zero, cnts]; omega
  | t :: l, k + 1, v, w, h => by
    have := cnts_set l k v w (by simpa using h)
    simp only [List.set_cons_succ, cnts]
    omega
theorem put_ok {p : Str → Prop} : ∀ (ks : List Nat) (t u v : T), t.Ok p → u.Ok p → t.at ks = some v → (t.put ks u).Ok p ∧ (t.put ks u).lv ≤ max t.lv (ks.length + u.lv) ∧ (t.put ks u).cnt + v.cnt = t.cnt + u.cnt
  | [], t, u, v, ht, hu, e => by simp [T.at] at e; subst e; exact ⟨hu, by simp only [T.put]; omega, by simp only [T.put]; omega⟩
  | k :: ks, .leaf s, u, v, ht, hu, e => by simp [T.at] at e
  | k :: ks, .node l, u, v, ht, hu, e => by
    simp only [T.at] at e
    split at e
    · rename_i x hx
      have hm := List.mem_of_getElem? hx
      obtain ⟨h1, h2, h3⟩ := put_ok ks x u v (ht.2.mem hm) hu e
      have h4 := lvs_mem hm
      have h5 := cnts_set l k x (x.put ks u) hx
      simp only [T.put, hx]
      refine ⟨⟨by rw [List.length_set]; exact ht.1, .of fun t hm2 => ?_⟩, ?_, ?_⟩
      · rcases List.mem_or_eq_of_mem_set hm2 with h | h
        · exact ht.2.mem h
        · rw [h]; exact h1
      · show 1 + lvs (l.set k (x.put ks u)) ≤ max (1 + lvs l) (ks.length + 1 + u.lv)
        have : lvs (l.set k (x.put ks u)) ≤ max (lvs l) (ks.length + u.lv) := lvs_le fun t hm2 => by
          rcases List.mem_or_eq_of_mem_set hm2 with h | h
          · have := lvs_mem h; omega
          · rw [h]; omega
        omega
      · show cnts (l.set k (x.put ks u)) + v.cnt = cnts l + u.cnt
        omega
    · cases e
/-- a path and the part there, as data -/
def natsD (ks : List Nat) : List D := ks.map fun (k : Nat) => D.int k
def pathD (x : List Nat × T) : D := .tup [.tup (natsD x.1), x.2.enc]
mutual
/-- all paths, in order -/
def T.paths : T → List Nat → List (List Nat × T)
  | .leaf s, ks => [(ks, .leaf s)]
  | .node l, ks => (ks, .node l) :: pathss l ks 0
def pathss : List T → List Nat → Nat → List (List Nat × T)
  | [], _, _ => []
  | t :: l, ks, k => t.paths (ks ++ [k]) ++ pathss l ks (k + 1)
end
mutual
theorem paths_len : ∀ (t : T) (ks : List Nat), (t.paths ks).length = t.size
  | .leaf _, _ => rfl
  | .node l, ks => by simp only [T.paths, T.size, List.length_cons, pathss_len l]; omega
theorem pathss_len : ∀ (l : List T) (ks : List Nat) (k : Nat), (pathss l ks k).length = sizes l
  | [], _, _ => rfl
  | t :: l, ks, k => by simp only [pathss, sizes, List.length_append, paths_len t, pathss_len l]
end
theorem pathss_app : ∀ (l r : List T) (ks : List Nat) (k : Nat), pathss (l ++ r) ks k = pathss l ks k ++ pathss r ks (k + l.length)
  | [], r, ks, k => by simp [pathss]
  | t :: l, r, ks, k => by
    simp only [List.cons_append, pathss, pathss_app l, List.append_assoc, List.length_cons]
    rw [Nat.add_assoc k 1, Nat.add_comm 1]
mutual
theorem paths_at : ∀ (t : T) (ks : List Nat) (x : List Nat × T), x ∈ t.paths ks → ∃ js, x.1 = ks ++ js ∧ t.at js = some x.2
  | .leaf s, ks, x, h => by
    have : x = (ks, .leaf s) := by simpa [T.paths] using h
    subst this
    exact ⟨[], by simp, rfl⟩
  | .node l, ks, x, h => by
    rcases List.mem_cons.mp (show x ∈ (ks, T.node l) :: pathss l ks 0 from h) with rfl | h
    · exact ⟨[], by simp, rfl⟩
    · obtain ⟨j, js, t, hj, e, ha⟩ := pathss_at l ks 0 x h
      refine ⟨j :: js, by rw [e, Nat.zero_add], ?_⟩
      simp only [T.at, hj]
      exact ha
theorem pathss_at : ∀ (l : List T) (ks : List Nat) (k : Nat) (x : List Nat × T), x ∈ pathss l ks k → ∃ j js t, l[j]? = some t ∧ x.1 = ks ++ (k + j) :: js ∧ t.at js = some x.2
  | [], ks, k, x, h => by cases h
  | t :: l, ks, k, x, h => by
    rcases List.mem_append.mp (show x ∈ t.paths (ks ++ [k]) ++ pathss l ks (k + 1) from h) with h | h
    · obtain ⟨js, e, ha⟩ := paths_at t (ks ++ [k]) x h
      exact ⟨0, js, t, rfl, by rw [e]; simp, ha⟩
    · obtain ⟨j, js, u, hj, e, ha⟩ := pathss_at l ks (k + 1) x h
      exact ⟨j + 1, js, u, by simpa using hj, by rw [e, Nat.add_assoc, Nat.add_comm 1], ha⟩
end
/-- an end as data -/
def endD (x : Nat × Nat × Str) : D := .tup [.int x.1, .int x.2.1, .str x.2.2]
mutual
theorem pyd_depth : ∀ t : T, t.pyd.depth ≤ t.lv + 1
  | .leaf s => by simp [T.pyd, PyData.depth, T.lv]
  | .node l => by
    have := pyds_depth l
    simp only [T.pyd, PyData.depth, T.lv]
    omega
theorem pyds_depth : ∀ l : List T, PyData.depthAll (pyds l) ≤ lvs l + 1
  | [] => by simp [pyds, PyData.depthAll]
  | t :: l => by
    have h1 := pyd_depth t
    have h2 := pyds_depth l
    simp only [pyds, PyData.depthAll, lvs]
    omega
end
/-- == and != of trees -/
theorem eq_T {M : Mem} {Q : D → Mem → Prop} {t u : T} (hl : t.lv ≤ 100 ∨ u.lv ≤ 100) (h1 : t = u → Q (.bl true) M) (h2 : t ≠ u → Q (.bl false) M) : rdEq false t.enc u.enc M Q := by
  refine eq_p t.pyd u.pyd (t.py _) (u.py _) ?_ ?_
  · have a := pyd_depth t
    have b := pyd_depth u
    omega
  · by_cases e : t = u
    · rw [(eqv_pyd t u).mpr e]; exact h1 e
    · have : PyData.eqv t.pyd u.pyd = false := by
        cases z : PyData.eqv t.pyd u.pyd with
        | false => rfl
        | true => exact absurd ((eqv_pyd t u).mp z) e
      rw [this]; exact h2 e
theorem ne_T {M : Mem} {Q : D → Mem → Prop} {t u : T} (hl : t.lv ≤ 100 ∨ u.lv ≤ 100) (h1 : t = u → Q (.bl false) M) (h2 : t ≠ u → Q (.bl true) M) : rdEq true t.enc u.enc M Q := by
  refine eq_p t.pyd u.pyd (t.py _) (u.py _) ?_ ?_
  · have a := pyd_depth t
    have b := pyd_depth u
    omega
  · by_cases e : t = u
    · rw [(eqv_pyd t u).mpr e]; exact h1 e
    · have : PyData.eqv t.pyd u.pyd = false := by
        cases z : PyData.eqv t.pyd u.pyd with
        | false => rfl
        | true => exact absurd ((eqv_pyd t u).mp z) e
      rw [this]; exact h2 e
theorem ne_Ts {M : Mem} {Q : D → Mem → Prop} {t u : T} (hl : t.lv ≤ 100 ∨ u.lv ≤ 100) (e : t = u) (h1 : Q (.bl false) M) : rdEq true t.enc u.enc M Q := ne_T hl (fun _ => h1) fun h => absurd e h
theorem eq_Ts {M : Mem} {Q : D → Mem → Prop} {t u : T} (hl : t.lv ≤ 100 ∨ u.lv ≤ 100) (e : t = u) (h1 : Q (.bl true) M) : rdEq false t.enc u.enc M Q := eq_T hl (fun _ => h1) fun h => absurd e h

end

section
variable {P : Program} {w : World} {K : PySem.W.Frag} {mg : Str → Option Value} {base : Heap}
/-! ### drawn trees -/
def OwnerOk (z : Str) : Prop := z = "-" ∨ NameOk z
def sp_owners : SpD := fun ds M Q _ => ∃ p : Addr, ds = [.ref p] ∧ Bag M p ∧ ∀ (r : Addr) (zs : List Str) (M' : Mem), M' r = some (.lst (zs.map D.str)) → 2 ≤ zs.length → zs.length ≤ 4 → (∀ z, z ∈ zs → OwnerOk z) → BagUp p M M' → Q (.ref r) M'
theorem ok_owners (a : At K mg "_law_owners" s_law_owners) (o_law_pull : Ok P w K mg base "_law_pull" s_law_pull 2 ["_law_bag_here", "_law_amount"] sp_pull) (o_law_of : Ok P w K mg base "_law_of" s_law_of 3 ["_law_bag_here", "_law_things"] sp_of) (o_law_names : Ok P w K mg base "_law_names" s_law_names 4 ["_law_bag_here", "_law_size"] sp_names) : Ok P w K mg base "_law_owners" s_law_owners 5 ["_law_bag_here"] sp_owners := by
  refine ok_of a sc_law_owners _ rfl (fun ds M Q E ⟨p, h, _⟩ => by rw [h]; rfl) fun f cd A outer s H E hr => ⟨_, (ss_one (s_ret (d_add (d_call o_law_of bd_law_of (hr.mono (by omega)) xd_takes (a_cons (dv 0) (a_cons (d_lst (a_cons (d_lst (a_cons de_str a_nil)) (a_cons (d_lst a_nil) a_nil))) a_nil))) (d_call o_law_names bd_law_names (hr.mono (by omega)) xd_takes (a_cons (dv 0) (a_cons (d_add de_int (d_call o_law_pull bd_law_pull (hr.mono (by omega)) xd_takes (a_cons (dv 0) (a_cons de_int a_nil)))) a_nil)))))), ?_⟩
  rintro ds M Q E ⟨p, rfl, hB, hq⟩
  walk_at "go"
  intro p1 hp1
  walk_at "go"
  intro p2 hp2
  walk_at "go"
  intro p3 hp3
  have m1 : ∀ {o : MO}, mupd (mupd (mupd M p1 (.lst [.str "-"])) p2 (.lst [])) p3 o p1 = some (.lst [.str "-"]) := fun {o} => by
    have n12 : p1 ≠ p2 := fun e => by rw [← e, mupd_same] at hp2; cases hp2
    have n13 : p1 ≠ p3 := fun e => by rw [← e, mupd_ne n12, mupd_same] at hp3; cases hp3
    rw [mupd_ne n13, mupd_ne n12, mupd_same]
  have m2 : ∀ {o : MO}, mupd (mupd (mupd M p1 (.lst [.str "-"])) p2 (.lst [])) p3 o p2 = some (.lst []) := fun {o} => by
    have n23 : p2 ≠ p3 := fun e => by rw [← e, mupd_same] at hp3; cases hp3
    rw [mupd_ne n23, mupd_same]
  have hB3 := ((hB.new (o := .lst [.str "-"]) hp1).new (o := .lst []) hp2).new (o := .lst [.ref p1, .ref p2]) hp3
  have u3 := (((BagUp.refl hB).new (o := .lst [.str "-"]) hp1).new (o := .lst []) hp2).new (o := .lst [.ref p1, .ref p2]) hp3
  walk_at "go"
  refine ⟨p, _, _, rfl, hB3, .lst mupd_same (((hB.new hp1).new hp2).ne hp3), (by show 0 < 2; decide), (by show 2 < _; decide), fun d M4 hd t4 => ?_⟩
  obtain ⟨q, zs, rfl, hqm, hqn, hz, hzl⟩ : ∃ (q : Addr) (zs : List Str), d = .ref q ∧ M4 q = some (.lst (zs.map D.str)) ∧ q ≠ p ∧ (∀ z, z ∈ zs → OwnerOk z) ∧ zs.length ≤ 1 := by
    simp at hd
    rcases hd with rfl | rfl
    · have n := hB3.ne_l m1 rfl
      exact ⟨p1, ["-"], rfl, by rw [t4.fr _ n]; exact m1, n, fun z hz => .inl (by simpa using hz), by decide⟩
    · have n := hB3.ne_l m2 rfl
      exact ⟨p2, [], rfl, by rw [t4.fr _ n]; exact m2, n, (fun z hz => by cases hz), by decide⟩
  walk_at "go"
  refine ⟨p, 2, rfl, t4.bag, by decide, by decide, fun v M5 hv0 hv1 t5 => ?_⟩
  walk_at "go"
  refine ⟨p, _, rfl, t5.bag, by omega, by omega, fun r ys M6 hr hyl hys t6 => ?_⟩
  have hq6 : M6 q = some (.lst (zs.map D.str)) := t6.fr q _ hqn (by rw [t5.fr _ hqn]; exact hqm)
  walk_at "go"
  refine add_l hq6 hr (sz (by simp only [List.length_map]; omega)) fun p7 hp7 => ?_
  refine ⟨_, MLe.refl _, hq p7 (zs ++ ys) _ (by rw [mupd_same, List.map_append]) (by rw [List.length_append]; omega) (by rw [List.length_append]; omega) (fun z hz' => ?_) (((u3.trans t4.up).trans t5.up).trans t6 |>.new hp7)⟩
  rcases List.mem_append.mp hz' with h | h
  · exact hz z h
  · exact .inr (hys z h)
def sp_tree (n : Nat) : SpD := fun ds M Q _ => ∃ (p q : Addr) (zs : List Str) (n' wd : Nat), n = n' + 1 ∧ ds = [.ref p, .ref q, .int n', .int wd] ∧ Bag M p ∧ q ≠ p ∧ M q = some (.lst (zs.map D.str)) ∧ 0 < zs.length ∧ zs.length ≤ 1000 ∧ 2 ≤ wd ∧ wd ≤ 1000 ∧ ∀ (t : T) (M' : Mem), t.Ok (· ∈ zs) → t.lv ≤ n' → t.cnt ≤ wd ^ n' → BagTo p M M' → Q t.enc M'
theorem cnts_all {l : List T} {c : Nat} (h : ∀ t, t ∈ l → t.cnt ≤ c) : cnts l ≤ l.length * c := by
  induction l with
  | nil => exact Nat.zero_le _
  | cons t l ih =>
    have h1 := h t (List.mem_cons_self ..)
    have h2 := ih fun u hu => h u (List.mem_cons_of_mem _ hu)
    simp only [cnts, List.length_cons, Nat.succ_mul]
    omega
theorem ok_tree_step {n : Nat} (a : At K mg "_law_tree" s_law_tree) (n_range : mg "range" = none) (n_tuple : mg "tuple" = none) (o_law_pull : Ok P w K mg base "_law_pull" s_law_pull 2 ["_law_bag_here", "_law_amount"] sp_pull) (o_law_of : Ok P w K mg base "_law_of" s_law_of 3 ["_law_bag_here", "_law_things"] sp_of)
    (ih : Ok P w K mg base "_law_tree" s_law_tree (n + 3) ["_law_bag_here", "_law_pool", "_law_deep", "_law_widest"] (sp_tree n)) : Ok P w K mg base "_law_tree" s_law_tree (n + 4) ["_law_bag_here", "_law_pool", "_law_deep", "_law_widest"] (sp_tree (n + 1)) := by
  refine ok_of a sc_law_tree _ rfl (fun ds M Q E ⟨p, q, zs, n, wd, _, h, _⟩ => by rw [h]; rfl) fun f cd A outer s H E hr => ⟨_, (ss_cons (s_if (DW.t (w_or (t_cmp (c_eq hr) (dv 2) de_int) (w_or1 (t_cmp (c_eq hr) (d_call o_law_pull bd_law_pull (hr.mono (by omega)) xd_takes (a_cons (dv 0) (a_cons de_int a_nil))) de_int)))) (ss_one (s_ret (d_call o_law_of bd_law_of (hr.mono (by omega)) xd_takes (a_cons (dv 0) (a_cons (dv 1) a_nil))))) ss_nil)
  (ss_one (s_ret (d_tuple n_tuple (DL.q (l_lc (own := [("_law_k", 4)]) rfl sc_law_tree.nd (i_r1 n_range (d_add de_int (d_call o_law_pull bd_law_pull (hr.mono (by omega)) xd_takes (a_cons (dv 0) (a_cons (d_sub (dv 3) de_int) a_nil))))) (blkOk_by (by show blkC ["_law_bag_here", "_law_pool", "_law_deep", "_law_widest", "_law_k"] (defScope s_law_tree) _ _ = true; decide +kernel)) (fun _ _ _ _ _ => (cg_name 4 sc_law_tree.nd)) (fun _ _ _ _ _ => pt_nil) (fun s1 H1 C1 cl1 fp1 => (d_call ih bd_law_tree (hr.mono (by omega)) takes0 (a_cons (dv 0) (a_cons (dv 1) (a_cons (d_sub (dv 2) de_int) (a_cons (dv 3) a_nil)))))))))))), ?_⟩
  rintro ds M Q E ⟨p, q, zs, n', wd, hn, rfl, hB, hqp, hqm, hz0, hz1, hw0, hw1, hq⟩
  cases hn
  have leafy : ∀ M1 E', BagTo p M M1 → onSp sp_of [.ref p, .ref q] M1 (dEnds Q E).rt E' := fun M1 E' t1 => by
    refine call_i ⟨p, _, _, rfl, t1.bag, .lst (by rw [t1.fr _ hqp]; exact hqm) hqp, by rw [List.length_map]; exact hz0, by rw [List.length_map]; omega, fun d M2 hd t2 => ?_⟩
    obtain ⟨z, hz, rfl⟩ := List.mem_map.mp hd
    exact ⟨_, MLe.refl _, hq (.leaf z) M2 hz (Nat.zero_le _) (Nat.pow_pos (by omega)) (t1.trans t2)⟩
  walk_at "go"
  refine cndE (fun h0 => ?_) fun h0 => ?_ <;> walk_at "td"
  · rw [cnd_true]
    walk_at "td"
    refine and_sp rfl (leafy M _ (.refl hB))
  · walk_at "go"
    refine ⟨p, 4, rfl, hB, by decide, by decide, fun v M1 hv0 hv1 t1 => ?_⟩
    walk_at "go"
    refine cndE (fun h1 => ?_) fun h1 => ?_ <;> walk_at "td"
    · exact and_sp rfl (leafy M1 _ t1)
    · walk_at "go"
      refine ⟨p, _, rfl, t1.bag, by omega, by omega, fun u M2 hu0 hu1 t2 => ?_⟩
      walk_at "go"
      refine ⟨by omega, by omega, ?_⟩
      have t12 := t1.trans t2
      obtain ⟨m, rfl⟩ : ∃ m, n = m + 1 := ⟨n - 1, by omega⟩
      refine lc_by (fun i acc M3 => BagTo p M M3 ∧ ∃ ts : List T, acc = encs ts ∧ ts.length = i ∧ ∀ t, t ∈ ts → t.Ok (· ∈ zs) ∧ t.lv ≤ m ∧ t.cnt ≤ wd ^ m) ⟨t12, [], rfl, rfl, fun t h => by cases h⟩ (fun _ _ _ _ _ => trivial) ?_ ?_
      · rintro i d acc M3 hd ⟨t3, ts, rfl, hl, hts⟩
        obtain ⟨hi, rfl⟩ := rngD_of hd
        have hi : i < 1000 := by omega
        have e : ((m + 1 : Nat) : Int) - 1 = (m : Int) := by omega
        walk_at "go"
        rw [e]
        refine ⟨p, q, zs, m, wd, rfl, rfl, t3.bag, hqp, by rw [t3.fr _ hqp]; exact hqm, hz0, hz1, hw0, hw1, fun t M4 h1 h2 h3 t4 => ?_⟩
        refine ⟨Nat.lt_of_le_of_lt (show _ ≤ 1000 by rw [encs_map, List.length_map]; omega) (by decide), t3.trans t4, ts ++ [t], by rw [encs_map, encs_map, List.map_append]; rfl, by rw [List.length_append, hl]; rfl, fun x hx => ?_⟩
        rcases List.mem_append.mp hx with h | h
        · exact hts x h
        · have : x = t := by simpa using h
          subst this
          exact ⟨h1, h2, h3⟩
      · rintro acc M3 ⟨t3, ts, rfl, hl, hts⟩
        rw [rngD_length] at hl
        walk_at "go"
        refine ⟨_, MLe.refl _, hq (.node ts) M3 ⟨by omega, .of fun t ht => (hts t ht).1⟩ ?_ ?_ t3⟩
        · show 1 + lvs ts ≤ m + 1
          have := lvs_le fun t ht => (hts t ht).2.1
          omega
        · show cnts ts ≤ _
          have h1 := cnts_all fun t ht => (hts t ht).2.2
          have h2 : ts.length * wd ^ m ≤ wd * wd ^ m := Nat.mul_le_mul_right _ (by omega)
          rw [Nat.pow_succ, Nat.mul_comm]
          omega
theorem ok_tree (a : At K mg "_law_tree" s_law_tree) (n_range : mg "range" = none) (n_tuple : mg "tuple" = none) (o_law_pull : Ok P w K mg base "_law_pull" s_law_pull 2 ["_law_bag_here", "_law_amount"] sp_pull) (o_law_of : Ok P w K mg base "_law_of" s_law_of 3 ["_law_bag_here", "_law_things"] sp_of) : ∀ n, Ok P w K mg base "_law_tree" s_law_tree (n + 3) ["_law_bag_here", "_law_pool", "_law_deep", "_law_widest"] (sp_tree n)
  | 0 => ((ok_never a sc_law_tree).imp fun ds M Q E ⟨p, q, zs, n, wd, h, _⟩ => by cases h).mono (by omega)
  | n + 1 => ok_tree_step a n_range n_tuple o_law_pull o_law_of (ok_tree a n_range n_tuple o_law_pull o_law_of n)
def sp_drawn : SpD := fun ds M Q _ => ∃ (p q : Addr) (zs : List Str), ds = [.ref p, .ref q] ∧ Bag M p ∧ q ≠ p ∧ M q = some (.lst (zs.map D.str)) ∧ 0 < zs.length ∧ zs.length ≤ 1000 ∧ ∀ (t : T) (M' : Mem), t.Ok (· ∈ zs) → t.lv ≤ 6 → t.cnt ≤ 64 → BagUp p M M' → Q t.enc M'
theorem ok_drawn (a : At K mg "_law_drawn" s_law_drawn) (o_law_of : Ok P w K mg base "_law_of" s_law_of 3 ["_law_bag_here", "_law_things"] sp_of)
    (o_law_tree0 : ∀ n, Ok P w K mg base "_law_tree" s_law_tree (n + 3) ["_law_bag_here", "_law_pool", "_law_deep", "_law_widest"] (sp_tree n)) : Ok P w K mg base "_law_drawn" s_law_drawn 11 ["_law_bag_here", "_law_pool"] sp_drawn := by
  have o_law_tree : Ok P w K mg base "_law_tree" s_law_tree 10 ["_law_bag_here", "_law_pool", "_law_deep", "_law_widest"] (fun ds M Q E => ∃ n, n ≤ 7 ∧ sp_tree n ds M Q E) := by
    refine (Ok.any (ι := { n : Nat // n ≤ 7 }) ⟨0, by omega⟩ fun i => (o_law_tree0 i.1).mono (by have := i.2; omega)).imp fun ds M Q E ⟨n, h, q⟩ => ⟨⟨n, h⟩, q⟩
  refine ok_of a sc_law_drawn _ rfl (fun ds M Q E ⟨p, q, zs, h, _⟩ => by rw [h]; rfl) fun f cd A outer s H E hr => ⟨_, (ss_cons (s_asg (d_call o_law_of bd_law_of (hr.mono (by omega)) xd_takes (a_cons (dv 0) (a_cons (d_lst (a_cons (d_tup (a_cons de_int (a_cons de_int a_nil))) (a_cons (d_tup (a_cons de_int (a_cons de_int a_nil))) (a_cons (d_tup (a_cons de_int (a_cons de_int a_nil))) (a_cons (d_tup (a_cons de_int (a_cons de_int a_nil))) (a_cons (d_tup (a_cons de_int (a_cons de_int a_nil))) (a_cons (d_tup (a_cons de_int (a_cons de_int a_nil))) a_nil))))))) a_nil))) (g_tup (n := 2) rfl (gs_cons (g_name 2 sc_law_drawn.nd) (gs_cons (g_name 3 sc_law_drawn.nd) gs_nil))))
  (ss_one (s_ret (d_call o_law_tree bd_law_tree (hr.mono (by omega)) xd_takes (a_cons (dv 0) (a_cons (dv 1) (a_cons (dv 2) (a_cons (dv 3) a_nil)))))))), ?_⟩
  rintro ds M Q E ⟨p, q, zs, rfl, hB, hqp, hqm, hz0, hz1, hq⟩
  walk_at "go"
  intro p1 hp1
  walk_at "go"
  refine ⟨p, _, _, rfl, hB.new hp1, .lst mupd_same (hB.ne hp1), by decide, by decide, fun d M2 hd t2 => ?_⟩
  have u2 : BagUp p M M2 := ((BagUp.refl hB).new hp1).trans t2.up
  obtain ⟨n, wd, rfl, hn, hw0, hw1, hc⟩ : ∃ n wd : Nat, d = .tup [.int n, .int wd] ∧ n ≤ 6 ∧ 2 ≤ wd ∧ wd ≤ 60 ∧ wd ^ n ≤ 64 := by
    simp at hd
    rcases hd with h | h | h | h | h | h
    · exact ⟨2, 8, h, by decide, by decide, by decide, by decide⟩
    · exact ⟨3, 4, h, by decide, by decide, by decide, by decide⟩
    · exact ⟨6, 2, h, by decide, by decide, by decide, by decide⟩
    · exact ⟨3, 3, h, by decide, by decide, by decide, by decide⟩
    · exact ⟨1, 60, h, by decide, by decide, by decide, by decide⟩
    · exact ⟨2, 3, h, by decide, by decide, by decide, by decide⟩
  walk_at "go"
  refine ⟨n + 1, by omega, p, q, zs, n, wd, rfl, rfl, t2.bag, hqp, u2.fr q _ hqp hqm, hz0, hz1, hw0, by omega, fun t M3 h1 h2 h3 t3 => ?_⟩
  exact ⟨_, MLe.refl _, hq t M3 h1 (by omega) (by omega) (u2.trans t3.up)⟩

end

section
variable {P : Program} {w : World} {K : PySem.W.Frag} {mg : Str → Option Value} {base : Heap}
/-! ### the law's own readers of trees -/
theorem mle_none {M M' : Mem} {r : Addr} (l : MLe M M') (h : M' r = none) : M r = none := by
  cases e : M r with
  | none => rfl
  | some o => rw [l r o e] at h; cases h
theorem encs_get {l : List T} {i : Nat} {d : D} (h : (encs l)[i]? = some d) : ∃ t, l[i]? = some t ∧ d = t.enc ∧ t ∈ l := by
  rw [encs_map] at h
  exact map_get h
theorem encs_at {l : List T} {i : Nat} (h : i < l.length) : atI (encs l) (i : Int) = some (l[i]).enc := atI_nat (by rw [encs_map, List.getElem?_map, List.getElem?_eq_getElem h]; rfl)
theorem encs_len (l : List T) : (encs l).length = l.length := by rw [encs_map, List.length_map]
theorem pow_step {b : Nat} : 2 ^ (b + 21) = 2 ^ b * 2097152 := by rw [Nat.pow_add]
theorem big_pow {x b : Nat} (h : x < 2 ^ b) (hb : b ≤ 6000) : Big (x : Int) := big_of (n := b) (by simpa using h) (by omega)
theorem lvs_max {l : List T} {m : Int} (h1 : m ∈ l.map fun t : T => (t.lv : Int)) (h2 : ∀ y, y ∈ l.map (fun t : T => (t.lv : Int)) → y ≤ m) : m = (lvs l : Nat) := by
  obtain ⟨t, ht, rfl⟩ := List.mem_map.mp h1
  have h3 := lvs_mem ht
  have h4 : lvs l ≤ t.lv := lvs_le fun u hu => by
    have := h2 _ (List.mem_map.mpr ⟨u, hu, rfl⟩)
    omega
  omega
/-- numbers of a walk over a tree's classes stay bounded -/
structure ClsB (b f s lv : Nat) : Prop where
  f1 : f < 2 ^ b
  s1 : s < 2 ^ b
  b1 : b + 21 * (lv + 1) ≤ 5000
theorem ClsB.in_ {b f s lv lv' k n : Nat} (h : ClsB b f s lv) (hl : lv' + 1 ≤ lv) (hk : k < n) (hn : n ≤ 100000) : ClsB (b + 21) (f + s * k) (s * n) lv' where
  f1 := by
    have h1 := h.f1
    have h2 : s * k ≤ 2 ^ b * 100000 := Nat.mul_le_mul (Nat.le_of_lt h.s1) (by omega)
    rw [pow_step]
    omega
  s1 := by
    have h2 : s * n ≤ 2 ^ b * 100000 := Nat.mul_le_mul (Nat.le_of_lt h.s1) hn
    have := Nat.two_pow_pos b
    rw [pow_step]
    omega
  b1 := by have := h.b1; omega
theorem ClsB.big {b f s lv : Nat} (h : ClsB b f s lv) : Big (f : Int) ∧ Big (s : Int) := ⟨big_pow h.f1 (by have := h.b1; omega), big_pow h.s1 (by have := h.b1; omega)⟩

mutual
theorem ok_mono {p q : Str → Prop} (h : ∀ s, p s → q s) : ∀ t : T, t.Ok p → t.Ok q
  | .leaf s, k => h s k
  | .node l, k => ⟨k.1, oks_mono h l k.2⟩
theorem oks_mono {p q : Str → Prop} (h : ∀ s, p s → q s) : ∀ l : List T, Oks p l → Oks q l
  | [], _ => trivial
  | t :: l, k => ⟨ok_mono h t k.1, oks_mono h l k.2⟩
end
theorem like_tree {M : Mem} {p : Str → Prop} : ∀ (n : Nat) (t : T), t.lv < n → t.Ok p → t.cnt ≤ 1000000 → Like M n t.enc t.enc
  | 0, t, h, _, _ => by omega
  | n + 1, .leaf s, _, _, _ => .str s
  | n + 1, .node l, h, ht, hc => by
    simp only [T.enc]
    refine .tup rfl (fun i x y hx hy => ?_) (by rw [encs_len]; exact Nat.le_trans (cnts_len ht.2) hc)
    rw [hx] at hy
    cases hy
    obtain ⟨t, _, rfl, hm⟩ := encs_get hx
    have h1 := lvs_mem hm
    have h9 : 1 + lvs l < n + 1 := h
    exact like_tree n t (by omega) (ht.2.mem hm) (Nat.le_trans (cnts_mem hm) hc)
theorem like2 {M : Mem} {n : Nat} {a b : Addr} {x y : D} (h1 : M a = some (.lst [x, y])) (h2 : M b = some (.lst [x, y])) (hx : Like M n x x) (hy : Like M n y y) : Like M (n + 1) (.ref a) (.ref b) := by
  refine .lst h1 h2 rfl (fun i u v hu hv => ?_) (by simp)
  rw [hu] at hv
  cases hv
  match i with
  | 0 => cases hu; exact hx
  | 1 => cases hu; exact hy
  | i + 2 => simp at hu

/-! ### pairs of a word and what is told of it -/
def pairN (w : Str) : D := .tup [.str w, .non]
def pairI (w : Str) (k : Int) : D := .tup [.str w, .int k]
theorem py_pairN {M : Mem} (w : Str) : Py M (pairN w) (.tuple [.str w, .none]) := .tup (.cons (.str _) (.cons .non .nil))
theorem py_pairI {M : Mem} (w : Str) (k : Int) : Py M (pairI w k) (.tuple [.str w, .int k]) := .tup (.cons (.str _) (.cons (.int _) .nil))
theorem pys_rep {M : Mem} {d : D} {q : PyData} (h : Py M d q) : ∀ n : Nat, Pys M (List.replicate n d) (List.replicate n q)
  | 0 => .nil
  | n + 1 => .cons h (pys_rep h n)
/-- things made one after another -/
theorem made4 {M M' : Mem} {f1 f2 f3 f4 q : Addr} {o1 o2 o3 o4 o : MO} (e : mupd (mupd (mupd (mupd (mupd M f1 o1) f2 o2) f3 o3) f4 o4) q o = M') (h1 : M f1 = none) (h2 : mupd M f1 o1 f2 = none) (h3 : mupd (mupd M f1 o1) f2 o2 f3 = none) (h4 : mupd (mupd (mupd M f1 o1) f2 o2) f3 o3 f4 = none) (hq : mupd (mupd (mupd (mupd M f1 o1) f2 o2) f3 o3) f4 o4 q = none) :
    MLe M M' ∧ M' f1 = some o1 ∧ M' f2 = some o2 ∧ M' f3 = some o3 ∧ M' f4 = some o4 ∧ M' q = some o := by
  subst e
  exact ⟨(((MLe.new h1).trans (MLe.new h2)).trans (MLe.new h3)).trans (MLe.new h4) |>.trans (MLe.new hq), (MLe.new hq) _ _ ((MLe.new h4) _ _ ((MLe.new h3) _ _ ((MLe.new h2) _ _ mupd_same))), (MLe.new hq) _ _ ((MLe.new h4) _ _ ((MLe.new h3) _ _ mupd_same)), (MLe.new hq) _ _ ((MLe.new h4) _ _ mupd_same), (MLe.new hq) _ _ mupd_same, mupd_same⟩
theorem made3 {M M' : Mem} {f1 f2 f3 q : Addr} {o1 o2 o3 o : MO} (e : mupd (mupd (mupd (mupd M f1 o1) f2 o2) f3 o3) q o = M') (h1 : M f1 = none) (h2 : mupd M f1 o1 f2 = none) (h3 : mupd (mupd M f1 o1) f2 o2 f3 = none) (hq : mupd (mupd (mupd M f1 o1) f2 o2) f3 o3 q = none) :
    MLe M M' ∧ M' f1 = some o1 ∧ M' f2 = some o2 ∧ M' f3 = some o3 ∧ M' q = some o := by
  subst e
  exact ⟨((MLe.new h1).trans (MLe.new h2)).trans (MLe.new h3) |>.trans (MLe.new hq), (MLe.new hq) _ _ ((MLe.new h3) _ _ ((MLe.new h2) _ _ mupd_same)), (MLe.new hq) _ _ ((MLe.new h3) _ _ mupd_same), (MLe.new hq) _ _ mupd_same, mupd_same⟩
theorem made1 {M M' : Mem} {f1 q : Addr} {o1 o : MO} (e : mupd (mupd M f1 o1) q o = M') (h1 : M f1 = none) (hq : mupd M f1 o1 q = none) : MLe M M' ∧ M' f1 = some o1 ∧ M' q = some o := by
  subst e
  exact ⟨(MLe.new h1).trans (MLe.new hq), (MLe.new hq) _ _ mupd_same, mupd_same⟩
theorem in2 {α : Type} {a b : α} {l : List α} : b ∈ a :: b :: l := List.mem_cons_of_mem _ (List.mem_cons_self ..)
theorem in3 {α : Type} {a b c : α} {l : List α} : c ∈ a :: b :: c :: l := List.mem_cons_of_mem _ in2
theorem in4 {α : Type} {a b c d : α} {l : List α} : d ∈ a :: b :: c :: d :: l := List.mem_cons_of_mem _ in3
theorem in5 {α : Type} {a b c d e : α} {l : List α} : e ∈ a :: b :: c :: d :: e :: l := List.mem_cons_of_mem _ in4
theorem in6 {α : Type} {a b c d e f : α} {l : List α} : f ∈ a :: b :: c :: d :: e :: f :: l := List.mem_cons_of_mem _ in5
theorem made2 {M M' : Mem} {f1 f2 q : Addr} {o1 o2 o : MO} (e : mupd (mupd (mupd M f1 o1) f2 o2) q o = M') (h1 : M f1 = none) (h2 : mupd M f1 o1 f2 = none) (hq : mupd (mupd M f1 o1) f2 o2 q = none) : MLe M M' ∧ M' f1 = some o1 ∧ M' f2 = some o2 ∧ M' q = some o := by
  subst e
  exact ⟨(MLe.new h1).trans (MLe.new h2) |>.trans (MLe.new hq), (MLe.new hq) _ _ ((MLe.new h2) _ _ mupd_same), (MLe.new hq) _ _ mupd_same, mupd_same⟩

/-! ### the same data are equal -/
mutual
theorem eqv_refl : ∀ p : PyData, p.plain = true → PyData.eqv p p = true
  | .none, _ => by simp [PyData.eqv]
  | .bool _, _ => by simp [PyData.eqv]
  | .int _, _ => by simp [PyData.eqv]
  | .str _, _ => by simp [PyData.eqv]
  | .list xs, h => by
    simp only [PyData.eqv]
    exact eqvAll_refl xs (by simpa [PyData.plain] using h)
  | .tuple xs, h => by
    simp only [PyData.eqv]
    exact eqvAll_refl xs (by simpa [PyData.plain] using h)
  | .dict _, h => by simp [PyData.plain] at h
theorem eqvAll_refl : ∀ l : List PyData, PyData.plainAll l = true → PyData.eqvAll l l = true
  | [], _ => by simp [PyData.eqvAll]
  | x :: l, h => by
    simp only [PyData.plainAll, Bool.and_eq_true] at h
    simp only [PyData.eqvAll, Bool.and_eq_true]
    exact ⟨eqv_refl x h.1, eqvAll_refl l h.2⟩
end
theorem eq_same {M : Mem} {Q : D → Mem → Prop} {d c : D} {neg : Bool} (p : PyData) (h1 : Py M d p) (h2 : Py M c p) (hz : p.depth ≤ 150) (h : Q (.bl !neg) M) : rdEq neg d c M Q := by
  refine eq_p p p h1 h2 (by omega) ?_
  rw [eqv_refl p h1.plain]
  cases neg <;> exact h
theorem depth_le {n : Nat} : ∀ {l : List PyData}, (∀ p, p ∈ l → p.depth ≤ n) → PyData.depthAll l ≤ n
  | [], _ => by simp [PyData.depthAll]
  | x :: l, h => by
    have h1 := h x (List.mem_cons_self ..)
    have h2 := depth_le (l := l) fun p hp => h p (List.mem_cons_of_mem _ hp)
    simp only [PyData.depthAll]
    omega
theorem cutD_take {xs : List D} {m : Nat} (h : m ≤ xs.length) : cutD xs none (some (m : Int)) = xs.take m := by
  unfold cutD
  rw [HT.sIx_nat, Nat.min_eq_left h]
  show (xs.drop 0).take (m - 0) = _
  rw [List.drop_zero, Nat.sub_zero]
theorem encs_take (ts : List T) (m : Nat) : (encs ts).take m = encs (ts.take m) := by rw [encs_map, encs_map, List.map_take]

end

section
variable {P : Program} {w : World} {K : PySem.W.Frag} {mg : Str → Option Value} {base : Heap}
/-! ### the package's readers of trees: count_ends, levels, owner_of -/
theorem cnts_ints (l : List T) : (l.map fun t : T => (t.cnt : Int)).sum = (cnts l : Nat) := by
  induction l with
  | nil => rfl
  | cons t l ih => simp only [List.map_cons, List.sum_cons, ih, cnts]; omega
def sp_cnt (n : Nat) : SpD := fun ds M Q _ => ∃ (t : T) (p : Str → Prop), ds = [t.enc] ∧ t.lv < n ∧ t.Ok p ∧ t.cnt ≤ 100000 ∧ Q (.int t.cnt) M
theorem ok_cnt_step {n : Nat} (a : At K mg "count_ends" s_count_ends) (n_sum : mg "sum" = none) (n_isinstance : mg "isinstance" = none) (n_str : mg "str" = none)
    (ih : Ok P w K mg base "count_ends" s_count_ends (n + 1) ["tree"] (sp_cnt n)) : Ok P w K mg base "count_ends" s_count_ends (n + 2) ["tree"] (sp_cnt (n + 1)) := by
  refine ok_of a sc_count_ends _ rfl (fun ds M Q E ⟨t, p, h, _⟩ => by rw [h]; rfl) fun f cd A outer s H E hr => ⟨_, (ss_one (s_ret (d_if (dt_val (d_isi .str n_isinstance n_str (dv 0))) de_int (d_sum n_sum rfl (DL.q (l_lc (own := [("outlet", 1)]) rfl sc_count_ends.nd (i_any (dv 0)) (blkOk_by (by show blkC ["tree", "outlet"] (defScope s_count_ends) _ _ = true; decide +kernel)) (fun _ _ _ _ _ => (cg_name 1 sc_count_ends.nd)) (fun _ _ _ _ _ => pt_nil) (fun s1 H1 C1 cl1 fp1 => (d_call ih bd_count_ends (hr.mono (by omega)) takes0 (a_cons (dv 1) a_nil))))))))), ?_⟩
  rintro ds M Q E ⟨t, p, rfl, hn, ht, hc, hq⟩
  cases t with
  | leaf z =>
    simp only [T.enc]
    walk_at "go"
    exact ⟨_, MLe.refl _, hq⟩
  | node l =>
    have hlen : l.length ≤ 100000 := Nat.le_trans (cnts_len ht.2) hc
    simp only [T.enc]
    walk_at "go"
    refine lc_by (fun i acc M1 => M1 = M ∧ acc = ((l.take i).map fun t : T => (t.cnt : Int)).map D.int) ⟨rfl, rfl⟩ (fun _ _ _ _ _ => trivial) ?_ ?_
    · rintro i d acc M1 hd ⟨rfl, rfl⟩
      obtain ⟨u, hu, rfl, hm⟩ := encs_get hd
      have hi : i < l.length := (List.getElem?_eq_some_iff.mp hu).1
      walk_at "go"
      have h1 := lvs_mem hm
      refine ⟨u, p, rfl, by have h9 : 1 + lvs l < n + 1 := hn; omega, ht.2.mem hm, Nat.le_trans (cnts_mem hm) hc, ?_⟩
      refine ⟨Nat.lt_of_le_of_lt (show _ ≤ 100000 by rw [List.length_map, List.length_map, List.length_take]; omega) (by decide), rfl, ?_⟩
      rw [take_succ_of hu, List.map_append, List.map_append]; rfl
    · rintro acc M1 ⟨rfl, rfl⟩
      walk_at "go"
      rw [encs_len, List.take_length]
      refine sum_i (intsD_map _) ?_
      rw [cnts_ints]
      exact ⟨_, MLe.refl _, hq⟩
theorem ok_cnt (a : At K mg "count_ends" s_count_ends) (n_sum : mg "sum" = none) (n_isinstance : mg "isinstance" = none) (n_str : mg "str" = none) : ∀ n, Ok P w K mg base "count_ends" s_count_ends (n + 1) ["tree"] (sp_cnt n)
  | 0 => (ok_never a sc_count_ends).imp fun ds M Q E ⟨t, p, _, h, _⟩ => by omega
  | n + 1 => ok_cnt_step a n_sum n_isinstance n_str (ok_cnt a n_sum n_isinstance n_str n)
def sp_lv (n : Nat) : SpD := fun ds M Q _ => ∃ (t : T) (p : Str → Prop), ds = [t.enc] ∧ t.lv < n ∧ t.Ok p ∧ t.cnt ≤ 100000 ∧ Q (.int t.lv) M
theorem ok_lv_step {n : Nat} (a : At K mg "levels" s_levels) (n_max : mg "max" = none) (n_isinstance : mg "isinstance" = none) (n_str : mg "str" = none)
    (ih : Ok P w K mg base "levels" s_levels (n + 1) ["tree"] (sp_lv n)) : Ok P w K mg base "levels" s_levels (n + 2) ["tree"] (sp_lv (n + 1)) := by
  refine ok_of a sc_levels _ rfl (fun ds M Q E ⟨t, p, h, _⟩ => by rw [h]; rfl) fun f cd A outer s H E hr => ⟨_, (ss_one (s_ret (d_if (dt_val (d_isi .str n_isinstance n_str (dv 0))) de_int (d_add de_int (d_max n_max rfl (DL.q (l_lc (own := [("outlet", 1)]) rfl sc_levels.nd (i_any (dv 0)) (blkOk_by (by show blkC ["tree", "outlet"] (defScope s_levels) _ _ = true; decide +kernel)) (fun _ _ _ _ _ => (cg_name 1 sc_levels.nd)) (fun _ _ _ _ _ => pt_nil) (fun s1 H1 C1 cl1 fp1 => (d_call ih bd_levels (hr.mono (by omega)) takes0 (a_cons (dv 1) a_nil)))))))))), ?_⟩
  rintro ds M Q E ⟨t, p, rfl, hn, ht, hc, hq⟩
  cases t with
  | leaf z =>
    simp only [T.enc]
    walk_at "go"
    exact ⟨_, MLe.refl _, hq⟩
  | node l =>
    have hlen : l.length ≤ 100000 := Nat.le_trans (cnts_len ht.2) hc
    simp only [T.enc]
    walk_at "go"
    refine lc_by (fun i acc M1 => M1 = M ∧ acc = ((l.take i).map fun t : T => (t.lv : Int)).map D.int) ⟨rfl, rfl⟩ (fun _ _ _ _ _ => trivial) ?_ ?_
    · rintro i d acc M1 hd ⟨rfl, rfl⟩
      obtain ⟨u, hu, rfl, hm⟩ := encs_get hd
      have hi : i < l.length := (List.getElem?_eq_some_iff.mp hu).1
      walk_at "go"
      have h1 := lvs_mem hm
      refine ⟨u, p, rfl, by have h9 : 1 + lvs l < n + 1 := hn; omega, ht.2.mem hm, Nat.le_trans (cnts_mem hm) hc, ?_⟩
      refine ⟨Nat.lt_of_le_of_lt (show _ ≤ 100000 by rw [List.length_map, List.length_map, List.length_take]; omega) (by decide), rfl, ?_⟩
      rw [take_succ_of hu, List.map_append, List.map_append]; rfl
    · rintro acc M1 ⟨rfl, rfl⟩
      walk_at "go"
      rw [encs_len, List.take_length]
      refine max_i (intsD_map _) (by rw [List.length_map]; have := ht.1; omega) fun m hm1 hm2 => ?_
      walk_at "go"
      rw [lvs_max hm1 hm2]
      exact ⟨_, MLe.refl _, hq⟩
theorem ok_lv (a : At K mg "levels" s_levels) (n_max : mg "max" = none) (n_isinstance : mg "isinstance" = none) (n_str : mg "str" = none) : ∀ n, Ok P w K mg base "levels" s_levels (n + 1) ["tree"] (sp_lv n)
  | 0 => (ok_never a sc_levels).imp fun ds M Q E ⟨t, p, _, h, _⟩ => by omega
  | n + 1 => ok_lv_step a n_max n_isinstance n_str (ok_lv a n_max n_isinstance n_str n)

/-! ### what within gives -/
def outTo (K : PySem.W.Frag) (c1 c2 : Value) (Q : D → Mem → Prop) (E : XD) (M : Mem) (r : Str × D) : Prop := (r.1 = "value" → Q r.2 M) ∧ (r.1 ≠ "value" → ∀ cls fs, CaughtBy K c1 c2 cls fs r.1 r.2 → E cls fs M)
def wthn (u : T) : Str × D := if 400 < u.cnt then ("TooLarge", .int 400) else if 40 < u.lv then ("TooLarge", .int 40) else ("value", u.enc)
def sp_within (c1 c2 : Value) (n : Nat) : SpD := fun ds M Q E => ∃ (t : T) (p : Str → Prop), ds = [t.enc] ∧ t.lv < n ∧ t.Ok p ∧ t.cnt ≤ 100000 ∧ outTo K c1 c2 Q E M (wthn t)
theorem ok_within {c1 c2 : Value} {n : Nat} (a : At K mg "within" s_within) (c_MOST_ENDS : GC mg "MOST_ENDS" (.int 400)) (c_MOST_LEVELS : GC mg "MOST_LEVELS" (.int 40)) (xo_TooLarge : XOk1 P w K mg base "TooLarge" "TooLarge" "most" "self" "most") (e_TooLarge : ErrC K mg c1 c2 "TooLarge" (some "most"))
    (o_count_ends : Ok P w K mg base "count_ends" s_count_ends (n + 1) ["tree"] (sp_cnt n)) (o_levels : Ok P w K mg base "levels" s_levels (n + 1) ["tree"] (sp_lv n)) : Ok P w K mg base "within" s_within (n + 3) ["tree"] (sp_within (K := K) c1 c2 n) := by
  refine ok_of a sc_within _ rfl (fun ds M Q E ⟨t, p, h, _⟩ => by rw [h]; rfl) fun f cd A outer s H E hr => ⟨_, (ss_cons (s_if (t_cmp c_gt (d_call o_count_ends bd_count_ends (hr.mono (by omega)) xd_takes (a_cons (dv 0) a_nil)) (de_glob c_MOST_ENDS (fun _ => .int _))) (ss_one (s_raise1 (k := 0) xo_TooLarge rfl (hr.mono (by omega)) xd_takes (de_glob c_MOST_ENDS (fun _ => .int _)))) ss_nil)
  (ss_cons (s_if (t_cmp c_gt (d_call o_levels bd_levels (hr.mono (by omega)) xd_takes (a_cons (dv 0) a_nil)) (de_glob c_MOST_LEVELS (fun _ => .int _))) (ss_one (s_raise1 (k := 0) xo_TooLarge rfl (hr.mono (by omega)) xd_takes (de_glob c_MOST_LEVELS (fun _ => .int _)))) ss_nil)
  (ss_one (s_ret (dv 0))))), ?_⟩
  rintro ds M Q E ⟨t, p, rfl, hn, ht, hc, hq⟩
  unfold wthn at hq
  walk_at "go"
  refine ⟨t, p, rfl, hn, ht, hc, ?_⟩
  walk_at "go"
  refine cndD (fun h => ?_) fun h => ?_
  · rw [if_pos (by omega)] at hq
    walk_at "go"
    intro cls hm
    exact ⟨_, MLe.refl _, hq.2 (by decide) _ _ (e_TooLarge.by1 rfl rfl hm)⟩
  rw [if_neg (by omega)] at hq
  walk_at "go"
  refine ⟨t, p, rfl, hn, ht, hc, ?_⟩
  walk_at "go"
  refine cndD (fun h => ?_) fun h => ?_
  · rw [if_pos (by omega)] at hq
    walk_at "go"
    intro cls hm
    exact ⟨_, MLe.refl _, hq.2 (by decide) _ _ (e_TooLarge.by1 rfl rfl hm)⟩
  rw [if_neg (by omega)] at hq
  walk_at "go"
  exact ⟨_, MLe.refl _, hq.1 rfl⟩

end

section
variable {P : Program} {w : World} {K : PySem.W.Frag} {mg : Str → Option Value} {base : Heap}
/-! ### paths and parts, by the law -/
theorem natsD_app (a b : List Nat) : natsD (a ++ b) = natsD a ++ natsD b := by unfold natsD; rw [List.map_append]
theorem natsD_len (a : List Nat) : (natsD a).length = a.length := by unfold natsD; rw [List.length_map]
theorem pys_nats (M : Mem) : ∀ ks : List Nat, Pys M (natsD ks) (ks.map fun (k : Nat) => PyData.int k)
  | [] => .nil
  | k :: ks => .cons (.int _) (pys_nats M ks)
theorem cnts_take {l : List T} (i : Nat) : cnts (l.take i) ≤ cnts l := by
  rw [cnts_sum, cnts_sum l]
  conv => rhs; rw [← List.take_append_drop i l]
  rw [List.map_append, List.sum_append]
  omega
theorem sizes_sum : ∀ l : List T, sizes l = (l.map T.size).sum
  | [] => rfl
  | t :: l => by simp only [sizes, List.map_cons, List.sum_cons, sizes_sum l]
theorem sizes_take {l : List T} (i : Nat) : sizes (l.take i) ≤ sizes l := by
  rw [sizes_sum, sizes_sum l]
  conv => rhs; rw [← List.take_append_drop i l]
  rw [List.map_append, List.sum_append]
  omega
def sp_lpaths (n : Nat) : SpD := fun ds M Q _ => ∃ (t : T) (ks : List Nat) (p : Str → Prop), ds = [t.enc, .tup (natsD ks)] ∧ t.lv < n ∧ t.Ok p ∧ t.cnt ≤ 100000 ∧ ks.length + t.lv ≤ 1000 ∧ ∀ (r : Addr) (M' : Mem), M' r = some (.lst ((t.paths ks).map pathD)) → M r = none → MLe M M' → Q (.ref r) M'
theorem ok_lpaths_step {n : Nat} (a : At K mg "_law_paths" s_law_paths) (n_isinstance : mg "isinstance" = none) (n_tuple : mg "tuple" = none) (n_range : mg "range" = none) (n_len : mg "len" = none)
    (ih : Ok P w K mg base "_law_paths" s_law_paths (n + 1) ["_law_tree_here", "_law_path"] (sp_lpaths n)) : Ok P w K mg base "_law_paths" s_law_paths (n + 2) ["_law_tree_here", "_law_path"] (sp_lpaths (n + 1)) := by
  refine ok_of a sc_law_paths _ rfl (fun ds M Q E ⟨t, ks, p, h, _⟩ => by rw [h]; rfl) fun f cd A outer s H E hr => ⟨_, (ss_cons (s_set 2 sc_law_paths.nd (d_lst (a_cons (d_tup (a_cons (dv 1) (a_cons (dv 0) a_nil))) a_nil)))
  (ss_cons (s_if (dt_val (d_isi .tuple n_isinstance n_tuple (dv 0))) (ss_one (s_for xd_owns rfl (i_r1 n_range (d_len n_len (dv 0))) (g_name 3 sc_law_paths.nd) (ss_one (s_set 2 sc_law_paths.nd (d_add (dv 2) (d_call ih bd_law_paths (hr.mono (by omega)) xd_takes (a_cons (d_ix (dv 0) (dv 3)) (a_cons (d_add (dv 1) (d_tup (a_cons (dv 3) a_nil))) a_nil)))))))) ss_nil)
  (ss_one (s_ret (dv 2))))), ?_⟩
  rintro ds M Q E ⟨t, ks, p, rfl, hn, ht, hc, hk, hq⟩
  cases t with
  | leaf z =>
    simp only [T.enc]
    walk_at "go"
    intro p1 hp1
    walk_at "go"
    exact ⟨_, MLe.refl _, hq p1 _ mupd_same hp1 (.new hp1)⟩
  | node l =>
    have hlen : l.length ≤ 100000 := Nat.le_trans (cnts_len ht.2) hc
    have hsz : sizes l ≤ 200000 := by
      have := sizes_le l ht.2
      have h9 : cnts l ≤ 100000 := hc
      omega
    have hk : ks.length + (1 + lvs l) ≤ 1000 := hk
    simp only [T.enc]
    walk_at "go"
    intro p1 hp1
    walk_at "go"
    rw [encs_len]
    refine ⟨by omega, by omega, ?_⟩
    refine for_by (fun i ρ M1 => ∃ (r : Addr) (x : Option D), ρ = [some (.tup (encs l)), some (.tup (natsD ks)), some (.ref r), x] ∧ M1 r = some (.lst (((ks, T.node l) :: pathss (l.take i) ks 0).map pathD)) ∧ M r = none ∧ MLe M M1) ⟨p1, _, rfl, mupd_same, hp1, .new hp1⟩ (fun _ _ _ _ _ => trivial) ?_ ?_
    · rintro i d ρ M1 hd ⟨r, x, rfl, hr1, hr2, hle⟩
      obtain ⟨hi, rfl⟩ := rngD_of hd
      have hi : i < l.length := by simpa using hi
      have e0 : (0 : Int) + (i : Int) = i := by omega
      have hm := List.getElem_mem hi
      have hlv := lvs_mem hm
      rw [e0]
      walk_at "go"
      refine ix_t (encs_at hi) ?_
      walk_at "go"
      refine add_t (sz (by rw [natsD_len]; show ks.length + 1 ≤ _; omega)) ?_
      walk_at "go"
      refine ⟨l[i], ks ++ [i], p, by rw [natsD_app]; rfl, by have h9 : 1 + lvs l < n + 1 := hn; omega, ht.2.mem hm, Nat.le_trans (cnts_mem hm) hc, by rw [List.length_append]; show ks.length + 1 + _ ≤ _; omega, fun r2 M2 h1 h2 h3 => ?_⟩
      walk_at "go"
      have hx : pathss (l.take (i + 1)) ks 0 = pathss (l.take i) ks 0 ++ (l[i]).paths (ks ++ [i]) := by
        rw [take_succ_of (List.getElem?_eq_getElem hi), pathss_app, List.length_take, Nat.min_eq_left (by omega)]
        simp [pathss]
      have hs2 : (pathss (l.take i) ks 0).length + ((l[i]).paths (ks ++ [i])).length ≤ 200000 := by
        rw [← List.length_append, ← hx, pathss_len]
        exact Nat.le_trans (sizes_take _) hsz
      refine add_l (h3 r _ hr1) h1 (sz (by rw [List.length_map, List.length_map, List.length_cons]; omega)) fun p5 hp5 => ?_
      walk_at "go"
      have hle2 : MLe M M2 := hle.trans h3
      refine ⟨p5, _, rfl, by rw [mupd_same, hx, ← List.map_append, List.cons_append], mle_none hle2 hp5, hle2.trans (.new hp5)⟩
    · rintro ρ M1 ⟨r, x, rfl, hr1, hr2, hle⟩
      rw [rngD_length] at hr1
      have e : ((l.length : Nat) : Int).toNat = l.length := by omega
      rw [e, List.take_length] at hr1
      walk_at "go"
      exact ⟨_, MLe.refl _, hq r _ hr1 hr2 hle⟩
theorem ok_lpaths (a : At K mg "_law_paths" s_law_paths) (n_isinstance : mg "isinstance" = none) (n_tuple : mg "tuple" = none) (n_range : mg "range" = none) (n_len : mg "len" = none) : ∀ n, Ok P w K mg base "_law_paths" s_law_paths (n + 1) ["_law_tree_here", "_law_path"] (sp_lpaths n)
  | 0 => (ok_never a sc_law_paths).imp fun ds M Q E ⟨t, _, p, _, h, _⟩ => by omega
  | n + 1 => ok_lpaths_step a n_isinstance n_tuple n_range n_len (ok_lpaths a n_isinstance n_tuple n_range n_len n)
/-- a part of a tree replaced by anything -/
def T.putD : T → List Nat → D → D
  | _, [], d => d
  | .leaf s, _ :: _, _ => .str s
  | .node l, k :: ks, d => match l[k]? with
    | some v => .tup ((encs l).set k (v.putD ks d))
    | none => .tup (encs l)
theorem putD_enc : ∀ (ks : List Nat) (t u v : T), t.at ks = some v → t.putD ks u.enc = (t.put ks u).enc
  | [], t, u, v, e => by simp [T.putD, T.put]
  | k :: ks, .leaf s, u, v, e => by simp [T.at] at e
  | k :: ks, .node l, u, v, e => by
    simp only [T.at] at e
    split at e
    · rename_i x hx
      simp only [T.putD, T.put, hx, putD_enc ks x u v e, T.enc]
      rw [encs_map, encs_map, List.map_set]
    · cases e
theorem set_cut {xs : List D} {k : Nat} {d : D} (h : k < xs.length) : cutD xs none (some (k : Int)) ++ [d] ++ cutD xs (some ((k : Int) + 1)) none = xs.set k d := by
  have e1 : HT.sIx xs.length xs.length (some (k : Int)) = k := by rw [HT.sIx_nat, Nat.min_eq_left (by omega)]
  have e2 : HT.sIx xs.length 0 (some ((k : Int) + 1)) = k + 1 := by
    have : ((k : Int) + 1) = ((k + 1 : Nat) : Int) := rfl
    rw [this, HT.sIx_nat, Nat.min_eq_left (by omega)]
  unfold cutD
  rw [e1, e2]
  show (xs.drop 0).take (k - 0) ++ [d] ++ (xs.drop (k + 1)).take (xs.length - (k + 1)) = _
  rw [List.drop_zero, Nat.sub_zero, List.take_of_length_le (l := xs.drop (k + 1)) (by rw [List.length_drop]; omega), List.set_eq_take_append_cons_drop, if_pos h, List.append_assoc]
  rfl

end

section
variable {P : Program} {w : World} {K : PySem.W.Frag} {mg : Str → Option Value} {base : Heap}
/-! ### steps -/
inductive Stp
  | flat (ks : List Nat)
  | unfl (ks : List Nat) (c : Nat)
  | gath (ks : List Nat)
  | spre (ks : List Nat) (c : Nat)
def Stp.path : Stp → List Nat
  | .flat ks => ks
  | .unfl ks _ => ks
  | .gath ks => ks
  | .spre ks _ => ks
def Stp.word : Stp → Str
  | .flat _ => "flatten"
  | .unfl _ _ => "unflatten"
  | .gath _ => "gather"
  | .spre _ _ => "spread"
def Stp.n : Stp → Nat
  | .flat _ => 0
  | .unfl _ c => c
  | .gath _ => 0
  | .spre _ c => c
def Stp.enc : Stp → D
  | .flat ks => .tup [.str "flatten", .tup (natsD ks)]
  | .unfl ks c => .tup [.str "unflatten", .tup (natsD ks), .int c]
  | .gath ks => .tup [.str "gather", .tup (natsD ks)]
  | .spre ks c => .tup [.str "spread", .tup (natsD ks), .int c]
def kidN : T → Nat
  | .leaf _ => 0
  | .node r => r.length
def kids : T → List T
  | .leaf _ => []
  | .node r => r
def kid (t : T) (i : Nat) : T := ((kids t)[i]?).getD (.leaf "")
def flatL (l : List T) (n : Nat) : List T := (List.range n).flatMap fun i => l.map fun u => kid u i
def flatT : List T → Option T
  | [] => none
  | u :: r => if kidN u ≠ 0 ∧ (u :: r).all (fun v => kidN v == kidN u) = true then some (.node (flatL (u :: r) (kidN u))) else none
def unflL (l : List T) (c : Nat) : List T := (List.range c).map fun i => .node (TD.stepV l i c)
def unflT (l : List T) (c : Nat) : Option T := if c < 2 ∨ l.length % c ≠ 0 ∨ l.length = c then none else some (.node (unflL l c))
def gathT : List T → Option T
  | .leaf s :: r => if r.all (T.isLf s) = true then some (.leaf s) else none
  | _ => none
def chg : T → Stp → Option T
  | .leaf z, .spre _ c => if 2 ≤ c then some (.node (List.replicate c (.leaf z))) else none
  | .node l, .flat _ => flatT l
  | .node l, .unfl _ c => unflT l c
  | .node l, .gath _ => gathT l
  | _, _ => none
def stepT (t : T) (s : Stp) : Option T := ((t.at s.path).bind fun v => chg v s).map fun u => t.put s.path u
/-! the same list, by one index -/
theorem range_two {α : Type} (m : Nat) (hm : 0 < m) (g : Nat → Nat → α) : ∀ n, (List.range (n * m)).map (fun k => g (k % m) (k / m)) = (List.range n).flatMap fun i => (List.range m).map fun j => g j i
  | 0 => by simp
  | n + 1 => by
    rw [Nat.succ_mul, List.range_add, List.map_append, range_two m hm g n, List.range_succ, List.flatMap_append, List.map_map]
    congr 1
    rw [List.flatMap_cons, List.flatMap_nil, List.append_nil]
    refine List.map_congr_left fun j hj => ?_
    have hj := List.mem_range.mp hj
    show g ((n * m + j) % m) ((n * m + j) / m) = g j n
    rw [Nat.add_comm, Nat.add_mul_mod_self_right, Nat.mod_eq_of_lt hj, Nat.add_mul_div_right _ _ hm, Nat.div_eq_of_lt hj, Nat.zero_add]
theorem map_range_get {α β : Type} (l : List α) (d : α) (f : α → β) : l.map f = (List.range l.length).map fun j => f ((l[j]?).getD d) := by
  apply List.ext_getElem?
  intro j
  rw [List.getElem?_map, List.getElem?_map]
  by_cases h : j < l.length
  · rw [List.getElem?_range h, List.getElem?_eq_getElem h]
    show some (f l[j]) = some (f ((l[j]?).getD d))
    rw [List.getElem?_eq_getElem h]
    rfl
  · rw [List.getElem?_eq_none (by omega), List.getElem?_eq_none (by rw [List.length_range]; omega)]
    rfl
theorem flat_law (l : List T) (n : Nat) (h : 0 < l.length) : (List.range (n * l.length)).map (fun k => kid ((l[k % l.length]?).getD (.leaf "")) (k / l.length)) = flatL l n := by
  rw [range_two l.length h (fun j i => kid ((l[j]?).getD (.leaf "")) i) n]
  unfold flatL
  congr 1
  funext i
  exact (map_range_get l (.leaf "") (fun u => kid u i)).symm
/-! bounds -/
theorem kid_mem {u : T} {i : Nat} (h : i < kidN u) : kid u i ∈ kids u := by
  cases u with
  | leaf z => exact absurd h (Nat.not_lt_zero _)
  | node r =>
    show ((r[i]?).getD _) ∈ r
    have h : i < r.length := h
    rw [List.getElem?_eq_getElem h]
    exact List.getElem_mem h
theorem kids_ok {p : Str → Prop} {u w : T} (h : u.Ok p) (hw : w ∈ kids u) : w.Ok p ∧ w.lv + 1 ≤ u.lv ∧ w.cnt ≤ u.cnt := by
  cases u with
  | leaf z => cases hw
  | node r =>
    have hw : w ∈ r := hw
    have := lvs_mem hw
    exact ⟨h.2.mem hw, by show w.lv + 1 ≤ 1 + lvs r; omega, cnts_mem hw⟩
theorem flatL_mem {l : List T} {n : Nat} {w : T} (hn : ∀ u, u ∈ l → kidN u = n) (h : w ∈ flatL l n) : ∃ u, u ∈ l ∧ w ∈ kids u := by
  obtain ⟨i, hi, h⟩ := List.mem_flatMap.mp h
  obtain ⟨u, hu, rfl⟩ := List.mem_map.mp h
  exact ⟨u, hu, kid_mem (by rw [hn u hu]; exact List.mem_range.mp hi)⟩
theorem flatL_len (l : List T) : ∀ n, (flatL l n).length = n * l.length
  | 0 => by simp [flatL]
  | n + 1 => by
    have := flatL_len l n
    unfold flatL at this ⊢
    rw [List.range_succ, List.flatMap_append, List.length_append, this, Nat.succ_mul]
    simp
theorem flatL_cnt {l : List T} {n : Nat} {p : Str → Prop} (hl : Oks p l) (hn : ∀ u, u ∈ l → kidN u = n) : ∀ k, k ≤ n → cnts (flatL l k) ≤ k * cnts l
  | 0, _ => by simp [flatL, cnts]
  | k + 1, hk => by
    have ih := flatL_cnt hl hn k (by omega)
    unfold flatL at ih ⊢
    rw [List.range_succ, List.flatMap_append, cnts_sum, List.map_append, List.sum_append, ← cnts_sum, Nat.succ_mul]
    refine Nat.add_le_add ih ?_
    rw [List.flatMap_cons, List.flatMap_nil, List.append_nil, ← cnts_sum]
    clear ih
    induction l with
    | nil => exact Nat.le_refl _
    | cons u r ihr =>
      have h1 := kids_ok hl.1 (kid_mem (u := u) (i := k) (by rw [hn u (List.mem_cons_self ..)]; exact hk))
      have h2 := ihr hl.2 fun v hv => hn v (List.mem_cons_of_mem _ hv)
      show (kid u k).cnt + cnts (r.map fun u => kid u k) ≤ u.cnt + cnts r
      omega
theorem stepV_mem {α : Type} {l : List α} {i k : Nat} {x : α} (h : x ∈ TD.stepV l i k) : x ∈ l := by
  obtain ⟨m, _, h⟩ := List.mem_filterMap.mp h
  exact List.mem_of_getElem? h
theorem stepV_len {α : Type} {l : List α} {i k q : Nat} (hk : 0 < k) (hq : l.length = k * q) (hi : i < k) (h0 : 0 < q) : (TD.stepV l i k).length = q := by
  have e : TD.stepN l.length i k = q := by
    unfold TD.stepN
    have h1 : k * 1 ≤ k * q := Nat.mul_le_mul_left _ h0
    rw [if_pos (by omega), hq]
    obtain ⟨r, rfl⟩ : ∃ r, q = r + 1 := ⟨q - 1, by omega⟩
    have : k * (r + 1) - i - 1 = (k - 1 - i) + k * r := by rw [Nat.mul_succ]; omega
    rw [this, Nat.add_mul_div_left _ _ hk, Nat.div_eq_of_lt (by omega), Nat.zero_add]
  unfold TD.stepV
  rw [e]
  have h : ∀ n, n ≤ q → ((List.range n).filterMap fun m => l[i + m * k]?).length = n := by
    intro n
    induction n with
    | zero => intro _; rfl
    | succ n ih =>
      intro hn
      have h2 : i + n * k < l.length := by
        rw [hq]
        have : (n + 1) * k ≤ q * k := Nat.mul_le_mul_right _ hn
        rw [Nat.succ_mul] at this
        rw [Nat.mul_comm k q]
        omega
      rw [List.range_succ, List.filterMap_append, List.length_append, ih (by omega)]
      simp [List.getElem?_eq_getElem h2]
  exact h q (Nat.le_refl _)
theorem cnts_drop : ∀ (l : List T) (k : Nat), cnts (l.drop k) ≤ cnts l
  | _, 0 => Nat.le_refl _
  | [], _ + 1 => Nat.le_refl _
  | t :: l, k + 1 => by
    have := cnts_drop l k
    show cnts (l.drop k) ≤ t.cnt + cnts l
    omega
theorem cnts_range {l : List T} {k : Nat} (i : Nat) (hk : 0 < k) : ∀ n, cnts ((List.range n).filterMap fun m => l[i + m * k]?) ≤ cnts l
  | 0 => by simp [cnts]
  | n + 1 => by
    have h : ∀ (n : Nat) (l : List T) (i : Nat), cnts ((List.range n).filterMap fun m => l[i + m * k]?) ≤ cnts (l.drop i) := by
      intro n
      induction n with
      | zero => intro l i; simp [cnts]
      | succ n ih =>
        intro l i
        have h2 := ih l (i + k)
        rw [List.range_succ_eq_map, List.filterMap_cons, List.filterMap_map]
        have e : ((fun m => l[i + m * k]?) ∘ Nat.succ) = fun m => l[i + k + m * k]? := by
          funext m
          show l[i + (m + 1) * k]? = l[i + k + m * k]?
          congr 1
          rw [Nat.succ_mul]
          omega
        rw [e]
        have d1 : cnts (l.drop (i + k)) ≤ cnts (l.drop (i + 1)) := by
          have : l.drop (i + k) = (l.drop (i + 1)).drop (k - 1) := by rw [List.drop_drop]; congr 1; omega
          rw [this]
          exact cnts_drop _ _
        cases hx : l[i + 0 * k]? with
        | none =>
          refine Nat.le_trans h2 (Nat.le_trans d1 ?_)
          have : l.drop (i + 1) = (l.drop i).drop 1 := by rw [List.drop_drop]
          rw [this]
          exact cnts_drop _ _
        | some x =>
          rw [Nat.zero_mul, Nat.add_zero] at hx
          obtain ⟨hi, rfl⟩ := List.getElem?_eq_some_iff.mp hx
          rw [List.drop_eq_getElem_cons hi]
          show (l[i]).cnt + _ ≤ (l[i]).cnt + cnts (l.drop (i + 1))
          have := Nat.le_trans h2 d1
          omega
    refine Nat.le_trans (h (n + 1) l i) ?_
    exact cnts_drop _ _
theorem stepV_cnt {l : List T} {i k : Nat} (hk : 0 < k) : cnts (TD.stepV l i k) ≤ cnts l := cnts_range i hk _

end

section
variable {P : Program} {w : World} {K : PySem.W.Frag} {mg : Str → Option Value} {base : Heap}
theorem unflT_some {l : List T} {c : Nat} {u : T} (h : unflT l c = some u) : 2 ≤ c ∧ ∃ q, l.length = c * q ∧ q ≠ 1 ∧ u = .node (unflL l c) := by
  unfold unflT at h
  split at h
  · cases h
  · rename_i g
    cases h
    have g2 : l.length % c = 0 := by
      by_cases z : l.length % c = 0
      · exact z
      · exact absurd (.inr (.inl z)) g
    refine ⟨by omega, l.length / c, (Nat.mul_div_cancel' (Nat.dvd_of_mod_eq_zero g2)).symm, fun e => g (.inr (.inr ?_)), rfl⟩
    have := Nat.mul_div_cancel' (Nat.dvd_of_mod_eq_zero g2)
    rw [e, Nat.mul_one] at this
    exact this.symm
theorem unflL_ok {p : Str → Prop} {l : List T} {c q : Nat} (hl : Oks p l) (h2 : 2 ≤ l.length) (hc : 2 ≤ c) (e : l.length = c * q) (hq : q ≠ 1) : (T.node (unflL l c)).Ok p ∧ (T.node (unflL l c)).lv ≤ 2 + lvs l ∧ (T.node (unflL l c)).cnt ≤ c * cnts l := by
  have q0 : q ≠ 0 := fun z => by rw [z, Nat.mul_zero] at e; omega
  have mem : ∀ w, w ∈ unflL l c → ∃ i, i < c ∧ w = .node (TD.stepV l i c) := fun w hw => by
    obtain ⟨i, hi, rfl⟩ := List.mem_map.mp hw
    exact ⟨i, List.mem_range.mp hi, rfl⟩
  refine ⟨⟨by unfold unflL; rw [List.length_map, List.length_range]; exact hc, .of fun w hw => ?_⟩, ?_, ?_⟩
  · obtain ⟨i, hi, rfl⟩ := mem w hw
    exact ⟨by rw [stepV_len (by omega) e hi (by omega)]; omega, .of fun x hx => hl.mem (stepV_mem hx)⟩
  · show 1 + lvs (unflL l c) ≤ 2 + lvs l
    have : lvs (unflL l c) ≤ 1 + lvs l := lvs_le fun w hw => by
      obtain ⟨i, hi, rfl⟩ := mem w hw
      show 1 + lvs _ ≤ 1 + lvs l
      have := lvs_le (l := TD.stepV l i c) (n := lvs l) fun x hx => lvs_mem (stepV_mem hx)
      omega
    omega
  · show cnts (unflL l c) ≤ c * cnts l
    have := cnts_all (l := unflL l c) (c := cnts l) fun w hw => by
      obtain ⟨i, hi, rfl⟩ := mem w hw
      exact stepV_cnt (by omega)
    have e2 : (unflL l c).length = c := by unfold unflL; rw [List.length_map, List.length_range]
    rw [e2] at this
    exact this
theorem flatT_some {l : List T} {u : T} (h : flatT l = some u) : ∃ n, n ≠ 0 ∧ 0 < l.length ∧ (∀ v, v ∈ l → kidN v = n) ∧ u = .node (flatL l n) := by
  match l with
  | [] => cases h
  | v :: r =>
    have h : (if kidN v ≠ 0 ∧ (v :: r).all (fun w => kidN w == kidN v) = true then some (T.node (flatL (v :: r) (kidN v))) else none) = some u := h
    split at h
    · rename_i g
      cases h
      refine ⟨kidN v, g.1, by simp, fun x hx => ?_, rfl⟩
      have := List.all_eq_true.mp g.2 x hx
      exact eq_of_beq this
    · cases h
theorem flatL_ok {p : Str → Prop} {l : List T} {n : Nat} (hl : Oks p l) (h2 : 2 ≤ l.length) (hn : n ≠ 0) (h : ∀ v, v ∈ l → kidN v = n) : (T.node (flatL l n)).Ok p ∧ (T.node (flatL l n)).lv ≤ 1 + lvs l ∧ (T.node (flatL l n)).cnt ≤ n * cnts l := by
  refine ⟨⟨?_, .of fun w hw => ?_⟩, ?_, flatL_cnt hl h n (Nat.le_refl _)⟩
  · rw [flatL_len]
    have := Nat.mul_le_mul (show 1 ≤ n by omega) h2
    omega
  · obtain ⟨u, hu, hk⟩ := flatL_mem h hw
    exact (kids_ok (hl.mem hu) hk).1
  · show 1 + lvs (flatL l n) ≤ 1 + lvs l
    have : lvs (flatL l n) ≤ lvs l := lvs_le fun w hw => by
      obtain ⟨u, hu, hk⟩ := flatL_mem h hw
      have h1 := (kids_ok (hl.mem hu) hk).2.1
      have h3 := lvs_mem hu
      omega
    omega
theorem kid_all {p : Str → Prop} {n : Nat} : ∀ (r : List T), Oks p r → (∀ v, v ∈ r → kidN v = n) → n * r.length ≤ cnts r
  | [], _, _ => by simp [cnts]
  | x :: r, ho, hk => by
    have i1 := kid_all r ho.2 fun v hv => hk v (List.mem_cons_of_mem _ hv)
    have i2 : n ≤ x.cnt := by
      rw [← hk x (List.mem_cons_self ..)]
      cases x with
      | leaf z => exact Nat.zero_le _
      | node y => exact cnts_len ho.1.2
    rw [List.length_cons, Nat.mul_succ]
    show _ ≤ x.cnt + cnts r
    omega
theorem cnt_pos {p : Str → Prop} {t : T} (h : t.Ok p) : 1 ≤ t.cnt := by
  cases t with
  | leaf z => exact Nat.le_refl _
  | node l => exact Nat.le_trans (by have := h.1; omega) (cnts_len h.2)
/-- what a step makes of a part -/
theorem chg_ok {p : Str → Prop} {v u : T} {s : Stp} (hv : v.Ok p) (hc : v.cnt ≤ 400) (hs : s.n ≤ 400) (h : chg v s = some u) : u.Ok p ∧ u.lv ≤ v.lv + 1 ∧ u.cnt ≤ 80000 := by
  cases v with
  | leaf z =>
    cases s with
    | spre ks c =>
      have hs : c ≤ 400 := hs
      have h : (if 2 ≤ c then some (T.node (List.replicate c (.leaf z))) else none) = some u := h
      split at h
      · cases h
        have m : ∀ t, t ∈ List.replicate c (T.leaf z) → t = .leaf z := fun t ht => (List.mem_replicate.mp ht).2
        refine ⟨⟨by rw [List.length_replicate]; assumption, .of fun t ht => by rw [m t ht]; exact hv⟩, ?_, ?_⟩
        · show 1 + lvs _ ≤ 0 + 1
          have : lvs (List.replicate c (T.leaf z)) ≤ 0 := lvs_le fun t ht => by rw [m t ht]; exact Nat.le_refl _
          omega
        · show cnts _ ≤ 80000
          have := cnts_all (l := List.replicate c (T.leaf z)) (c := 1) fun t ht => by rw [m t ht]; exact Nat.le_refl _
          rw [List.length_replicate] at this
          omega
      · cases h
    | _ => simp [chg] at h
  | node l =>
    have hc : cnts l ≤ 400 := hc
    have hl := cnts_len hv.2
    cases s with
    | flat ks =>
      obtain ⟨n, h1, h2, h3, rfl⟩ := flatT_some (show flatT l = some u from h)
      obtain ⟨a, b, c⟩ := flatL_ok hv.2 hv.1 h1 h3
      refine ⟨a, ?_, ?_⟩
      · show _ ≤ 1 + lvs l + 1
        omega
      · have e : n * l.length ≤ cnts l := by
          have g : ∀ (r : List T), Oks p r → (∀ v, v ∈ r → kidN v = n) → n * r.length ≤ cnts r := by
            intro r
            induction r with
            | nil => intro _ _; simp [cnts]
            | cons x r ih =>
              intro ho hk
              have i1 := ih ho.2 fun v hv => hk v (List.mem_cons_of_mem _ hv)
              have i2 : n ≤ x.cnt := by
                rw [← hk x (List.mem_cons_self ..)]
                cases x with
                | leaf z => exact Nat.zero_le _
                | node y => exact cnts_len ho.1.2
              rw [List.length_cons, Nat.mul_succ]
              show _ ≤ x.cnt + cnts r
              omega
          exact g l hv.2 h3
        have : n * 2 ≤ n * l.length := Nat.mul_le_mul_left _ hv.1
        have : n * cnts l ≤ 200 * 400 := Nat.mul_le_mul (by omega) hc
        omega
    | unfl ks c =>
      obtain ⟨h1, q, h2, h3, rfl⟩ := unflT_some (show unflT l c = some u from h)
      obtain ⟨a, b, d⟩ := unflL_ok hv.2 hv.1 h1 h2 h3
      refine ⟨a, ?_, ?_⟩
      · show _ ≤ 1 + lvs l + 1
        omega
      · have q0 : q ≠ 0 := fun z => by rw [z, Nat.mul_zero] at h2; have := hv.1; omega
        have : c * 2 ≤ c * q := Nat.mul_le_mul_left _ (by omega)
        have : c * cnts l ≤ 200 * 400 := Nat.mul_le_mul (by omega) hc
        omega
    | gath ks =>
      have h : gathT l = some u := h
      match l, h with
      | .leaf z :: r, h =>
        have h : (if r.all (T.isLf z) = true then some (T.leaf z) else none) = some u := h
        split at h
        · cases h
          exact ⟨hv.2.1, Nat.zero_le _, by show 1 ≤ 80000; decide⟩
        · cases h
      | [], h => simp [gathT] at h
      | .node _ :: _, h => simp [gathT] at h
    | spre ks c => simp [chg] at h
theorem step_ok {p : Str → Prop} {t u : T} {s : Stp} (ht : t.Ok p) (hc : t.cnt ≤ 400) (hs : s.n ≤ 400) (h : stepT t s = some u) : u.Ok p ∧ u.lv ≤ t.lv + 1 ∧ u.cnt ≤ 80400 := by
  unfold stepT at h
  cases ha : t.at s.path with
  | none => rw [ha] at h; cases h
  | some v =>
    rw [ha] at h
    obtain ⟨a1, a2, a3⟩ := at_ok s.path t v ht ha
    cases hg : chg v s with
    | none => simp [hg] at h
    | some w =>
      simp [hg] at h
      subst h
      obtain ⟨b1, b2, b3⟩ := chg_ok a1 (by omega) hs hg
      obtain ⟨c1, c2, c3⟩ := put_ok s.path t w v ht b1 ha
      exact ⟨c1, by omega, by omega⟩
theorem flat_none {l : List T} {u v : T} (hu : u ∈ l) (hv : v ∈ l) (h : kidN u = 0 ∨ kidN u ≠ kidN v) : flatT l = none := by
  cases e : flatT l with
  | none => rfl
  | some w =>
    obtain ⟨n, h1, h2, h3, _⟩ := flatT_some e
    have a := h3 u hu
    have b := h3 v hv
    omega
theorem flat_yes {l : List T} {n : Nat} (h0 : 0 < l.length) (hn : n ≠ 0) (h : ∀ u, u ∈ l → kidN u = n) : flatT l = some (.node (flatL l n)) := by
  match l with
  | [] => cases h0
  | v :: r =>
    have e := h v (List.mem_cons_self ..)
    show (if kidN v ≠ 0 ∧ (v :: r).all (fun w => kidN w == kidN v) = true then some (T.node (flatL (v :: r) (kidN v))) else none) = _
    rw [if_pos ⟨by omega, List.all_eq_true.mpr fun x hx => by rw [h x hx, e]; exact beq_self_eq_true _⟩, e]
theorem flatL_succ (l : List T) (i : Nat) : flatL l (i + 1) = flatL l i ++ l.map fun u => kid u i := by
  unfold flatL
  rw [List.range_succ, List.flatMap_append]
  simp
theorem kid_at {u : T} {i : Nat} (h : i < kidN u) : ∃ r, u = .node r ∧ r[i]? = some (kid u i) := by
  cases u with
  | leaf z => exact absurd h (Nat.not_lt_zero _)
  | node r =>
    have h : i < r.length := h
    refine ⟨r, rfl, ?_⟩
    show r[i]? = some ((r[i]?).getD _)
    rw [List.getElem?_eq_getElem h]
    rfl
theorem stepV_map {α β : Type} (f : α → β) (l : List α) (i k : Nat) : TD.stepV (l.map f) i k = (TD.stepV l i k).map f := by
  unfold TD.stepV
  rw [List.length_map, List.map_filterMap]
  congr 1
  funext m
  rw [List.getElem?_map]
theorem natB0 (n : Nat) : (((n : Nat) : Int) == 0) = decide (n = 0) := by
  by_cases h : n = 0
  · subst h; rfl
  · rw [decide_eq_false h]
    exact beq_false_of_ne (by omega)
theorem natBq (a b : Nat) : (((a : Nat) : Int) == ((b : Nat) : Int)) = decide (a = b) := by
  by_cases h : a = b
  · subst h; simp
  · rw [decide_eq_false h]
    exact beq_false_of_ne (by omega)
theorem isLf_iff {s : Str} {t : T} : T.isLf s t = true ↔ t = .leaf s := by
  constructor
  · intro h
    cases t with
    | leaf z => simp [T.isLf] at h; rw [h]
    | node l => simp [T.isLf] at h
  · rintro rfl
    simp [T.isLf]
theorem gath_all {s : Str} {r : List T} : gathT (.leaf s :: r) = if ((T.leaf s :: r).map fun o => PyData.eqv o.pyd (T.leaf s).pyd).all _root_.id = true then some (.leaf s) else none := by
  show (if r.all (T.isLf s) = true then some (T.leaf s) else none) = _
  have e : (r.all (T.isLf s) = true) ↔ (((T.leaf s :: r).map fun o => PyData.eqv o.pyd (T.leaf s).pyd).all _root_.id = true) := by
    rw [List.all_map, List.all_eq_true, List.all_eq_true]
    constructor
    · intro h t ht
      refine (eqv_pyd t (.leaf s)).mpr ?_
      rcases List.mem_cons.mp ht with h1 | h1
      · exact h1
      · exact isLf_iff.mp (h t h1)
    · intro h t ht
      exact isLf_iff.mpr ((eqv_pyd t (.leaf s)).mp (h t (List.mem_cons_of_mem _ ht)))
  by_cases h : r.all (T.isLf s) = true
  · rw [if_pos h, if_pos (e.mp h)]
  · rw [if_neg h, if_neg fun z => h (e.mpr z)]
theorem enc_rep (z : Str) (n : Nat) : (List.replicate n [D.str z]).flatten = encs (List.replicate n (T.leaf z)) := by
  induction n with
  | zero => rfl
  | succ n ih => rw [List.replicate_succ, List.replicate_succ, List.flatten_cons, ih]; rfl
/-- as the program does it: no spread of more than 400 outlets -/
def chgP (v : T) (s : Stp) : Option T := match s with
  | .spre ks c => if 400 < c then none else chg v (.spre ks c)
  | s => chg v s
def stepP (t : T) (s : Stp) : Option T := ((t.at s.path).bind fun v => chgP v s).map fun u => t.put s.path u
theorem chgP_eq {v : T} {s : Stp} (h : s.n ≤ 400) : chgP v s = chg v s := by
  cases s with
  | spre ks c =>
    have h : c ≤ 400 := h
    show (if 400 < c then none else _) = _
    rw [if_neg (by omega)]
  | _ => rfl
theorem stepP_eq {t : T} {s : Stp} (h : s.n ≤ 400) : stepP t s = stepT t s := by
  unfold stepP stepT
  congr 1
  congr 1
  funext v
  exact chgP_eq h
def bigSp (t : T) (s : Stp) : Bool := match s, t.at s.path with
  | .spre _ c, some (.leaf _) => decide (400 < c)
  | _, _ => false
def applyO (t : T) (s : Stp) : Str × D := match stepP t s with
  | some u => wthn u
  | none => if bigSp t s = true then ("TooLarge", .int 400) else ("BadStep", .int 0)
theorem chgP_ok {p : Str → Prop} {v u : T} {s : Stp} (hv : v.Ok p) (hc : v.cnt ≤ 400) (h : chgP v s = some u) : u.Ok p ∧ u.lv ≤ v.lv + 1 ∧ u.cnt ≤ 80000 := by
  cases s with
  | flat ks => exact chg_ok (s := .flat ks) hv hc (Nat.zero_le _) h
  | gath ks => exact chg_ok (s := .gath ks) hv hc (Nat.zero_le _) h
  | unfl ks c =>
    refine chg_ok (s := .unfl ks c) hv hc ?_ h
    cases v with
    | leaf z => simp [chgP, chg] at h
    | node l =>
      obtain ⟨h1, q, h2, _, _⟩ := unflT_some (show unflT l c = some u from h)
      have hl := cnts_len hv.2
      have hc : cnts l ≤ 400 := hc
      have q0 : q ≠ 0 := fun z => by rw [z, Nat.mul_zero] at h2; have := hv.1; omega
      have : c * 1 ≤ c * q := Nat.mul_le_mul_left _ (by omega)
      show c ≤ 400
      omega
  | spre ks c =>
    have h : (if 400 < c then none else chg v (.spre ks c)) = some u := h
    by_cases hn : 400 < c
    · rw [if_pos hn] at h; cases h
    · rw [if_neg hn] at h
      exact chg_ok (s := .spre ks c) hv hc (by show c ≤ 400; omega) h
def w401 : T := .node (List.replicate 401 (.leaf "a"))
theorem w401_ok : w401.Ok (fun _ => True) ∧ w401.lv = 1 ∧ w401.cnt = 401 := by
  have g : ∀ n, lvs (List.replicate n (T.leaf "a")) = 0 ∧ cnts (List.replicate n (T.leaf "a")) = n ∧ Oks (fun _ => True) (List.replicate n (T.leaf "a")) := by
    intro n
    induction n with
    | zero => exact ⟨rfl, rfl, trivial⟩
    | succ n ih =>
      obtain ⟨h1, h2, h3⟩ := ih
      rw [List.replicate_succ]
      refine ⟨?_, ?_, trivial, h3⟩
      · show max 0 _ = 0
        rw [h1]
        rfl
      · show 1 + _ = n + 1
        rw [h2]
        omega
  obtain ⟨h1, h2, h3⟩ := g 401
  refine ⟨⟨by rw [List.length_replicate]; decide, h3⟩, ?_, h2⟩
  show 1 + lvs _ = 1
  rw [h1]
theorem w401_wthn : wthn w401 = (("TooLarge" : Str), .int 400) := by
  unfold wthn
  rw [if_pos (by rw [w401_ok.2.2]; decide)]
theorem applyO_none {t : T} {s : Stp} (h : stepP t s = none) (hb : bigSp t s = false) : applyO t s = (("BadStep" : Str), .int 0) := by
  unfold applyO
  rw [h, hb]
  rfl
theorem applyO_big {t : T} {s : Stp} (h : stepP t s = none) (hb : bigSp t s = true) : applyO t s = (("TooLarge" : Str), .int 400) := by
  unfold applyO
  rw [h, hb]
  rfl
theorem applyO_some {t u : T} {s : Stp} (h : stepP t s = some u) : applyO t s = wthn u := by
  unfold applyO
  rw [h]
theorem gath_rep {s : Str} {r : List T} : (T.node (.leaf s :: r) = .node (List.replicate (r.length + 1) (.leaf s)) → gathT (.leaf s :: r) = some (.leaf s)) ∧ (T.node (.leaf s :: r) ≠ .node (List.replicate (r.length + 1) (.leaf s)) → gathT (.leaf s :: r) = none) := by
  have e : gathT (.leaf s :: r) = if r.all (T.isLf s) = true then some (T.leaf s) else none := rfl
  constructor
  · intro h
    injection h with h
    rw [List.replicate_succ] at h
    injection h with _ h
    rw [e, if_pos]
    rw [List.all_eq_true]
    intro t ht
    rw [h] at ht
    exact isLf_iff.mpr (List.mem_replicate.mp ht).2
  · intro h
    rw [e, if_neg]
    intro z
    refine h ?_
    congr 1
    rw [List.replicate_succ]
    congr 1
    rw [List.all_eq_true] at z
    exact List.eq_replicate_iff.mpr ⟨rfl, fun t ht => isLf_iff.mp (z t ht)⟩
def prodN : List Nat → Nat
  | [] => 1
  | n :: ns => n * prodN ns
theorem prodN_le : ∀ ns : List Nat, (∀ n, n ∈ ns → 2 ≤ n ∧ n ≤ 4) → prodN ns ≤ 4 ^ ns.length ∧ 1 ≤ prodN ns
  | [], _ => ⟨Nat.le_refl _, Nat.le_refl _⟩
  | n :: ns, h => by
    obtain ⟨h1, h2⟩ := prodN_le ns fun m hm => h m (List.mem_cons_of_mem _ hm)
    obtain ⟨h3, h4⟩ := h n (List.mem_cons_self ..)
    rw [List.length_cons, Nat.pow_succ, Nat.mul_comm]
    refine ⟨?_, ?_⟩
    · rw [Nat.mul_comm]
      show n * prodN ns ≤ _
      rw [Nat.mul_comm (4 ^ _)]
      exact Nat.mul_le_mul h4 h1
    · exact Nat.le_trans (show 1 ≤ 2 * 1 by decide) (Nat.mul_le_mul h3 h2)
theorem prodN_snoc : ∀ (ns : List Nat) (n : Nat), prodN (ns ++ [n]) = prodN ns * n
  | [], n => by simp [prodN]
  | m :: ns, n => by
    show m * prodN (ns ++ [n]) = m * prodN ns * n
    rw [prodN_snoc ns n, Nat.mul_assoc]
theorem prodN_take {ns : List Nat} {i n : Nat} (h : ns[i]? = some n) : prodN (ns.take (i + 1)) = prodN (ns.take i) * n := by
  rw [List.take_add_one, h]
  exact prodN_snoc _ _
theorem prodN_drop {ns : List Nat} {i n : Nat} (h : ns[i]? = some n) : prodN (ns.drop i) = n * prodN (ns.drop (i + 1)) := by
  obtain ⟨h1, h2⟩ := List.getElem?_eq_some_iff.mp h
  rw [List.drop_eq_getElem_cons h1, h2]
  rfl

end

section
set_option pp.maxSteps 300
variable {P : Program} {w : World} {K : PySem.W.Frag} {mg : Str → Option Value} {base : Heap}
def optD : Option T → D
  | none => .non
  | some u => u.enc
def sp_part : SpD := fun ds M Q _ => ∃ (t : T) (ks : List Nat) (p : Str → Prop), ds = [t.enc, .tup (natsD ks)] ∧ t.Ok p ∧ t.cnt ≤ 100000 ∧ Q (optD (t.at ks)) M
theorem ok_part_at (a : At K mg "part_at" s_part_at) (n_len : mg "len" = none) (n_isinstance : mg "isinstance" = none) (n_str : mg "str" = none) : Ok P w K mg base "part_at" s_part_at 2 ["tree", "path"] sp_part := by
  refine ok_of a sc_part_at _ rfl (fun ds M Q E ⟨t, ks, p, h, _⟩ => by rw [h]; rfl) fun f cd A outer s H E hr => ⟨_, (ss_cons (s_for xd_owns rfl (i_any (dv 1)) (g_name 2 sc_part_at.nd) (ss_cons (s_if (DW.t (w_or (dt_val (d_isi .str n_isinstance n_str (dv 0))) (w_or1 (t_not (t_chain c_le c_lt de_int (dv 2) (d_len n_len (dv 0))))))) (ss_one (s_ret de_non)) ss_nil)
  (ss_one (s_set 0 sc_part_at.nd (d_ix (dv 0) (dv 2))))))
  (ss_one (s_ret (dv 0)))), ?_⟩
  rintro ds M Q E ⟨t, ks, p, rfl, ht, hc, hq⟩
  walk_at "go"
  refine for_by (fun i ρ M1 => M1 = M ∧ ∃ (u : T) (x : Option D), ρ = [some u.enc, some (.tup (natsD ks)), x] ∧ u.Ok p ∧ u.cnt ≤ 100000 ∧ u.at (ks.drop i) = t.at ks) ⟨rfl, t, _, rfl, ht, hc, rfl⟩ (fun _ _ _ _ _ => trivial) ?_ ?_
  · rintro i d ρ M1 hd ⟨rfl, u, x, rfl, hu, huc, ha⟩
    unfold natsD at hd
    rw [List.getElem?_map] at hd
    obtain ⟨k, hk, rfl⟩ := Option.map_eq_some_iff.mp hd
    have hdr : ks.drop i = k :: ks.drop (i + 1) := by
      obtain ⟨h1, h2⟩ := List.getElem?_eq_some_iff.mp hk
      rw [← h2]
      exact List.drop_eq_getElem_cons h1
    rw [hdr] at ha
    cases u with
    | leaf z =>
      rw [← ha] at hq
      simp only [T.enc]
      walk_at "go"
      exact ⟨_, MLe.refl _, hq⟩
    | node l =>
      simp only [T.enc]
      walk_at "go"
      rw [encs_len]
      by_cases hk2 : k < l.length
      · rw [show (!decide ((k : Int) < (l.length : Int))) = false by simp; omega]
        walk_at "go"
        refine ix_t (encs_at hk2) ?_
        walk_at "go"
        have hm := List.getElem_mem hk2
        refine ⟨rfl, l[k], _, rfl, hu.2.mem hm, Nat.le_trans (cnts_mem hm) huc, ?_⟩
        rw [← ha]
        simp only [T.at, List.getElem?_eq_getElem hk2]
      · rw [show (!decide ((k : Int) < (l.length : Int))) = true by simp; omega]
        have e : t.at ks = none := by
          rw [← ha]
          simp only [T.at, List.getElem?_eq_none (Nat.le_of_not_lt hk2)]
        rw [e] at hq
        walk_at "go"
        exact ⟨_, MLe.refl _, hq⟩
  · rintro ρ M1 ⟨rfl, u, x, rfl, hu, huc, ha⟩
    unfold natsD at ha
    rw [List.length_map, List.drop_length] at ha
    rw [← ha] at hq
    walk_at "go"
    exact ⟨_, MLe.refl _, hq⟩
def sizesI (l : List T) : List Int := l.map fun u => ((kidN u : Nat) : Int)
def sp_flattened : SpD := fun ds M Q _ => ∃ (l : List T) (p : Str → Prop), ds = [.tup (encs l)] ∧ Oks p l ∧ 0 < l.length ∧ cnts l ≤ 1000 ∧ ∀ M', MLe M M' → Q (optD (flatT l)) M'
theorem ok_flattened (a : At K mg "flattened" s_flattened) (n_len : mg "len" = none) (n_isinstance : mg "isinstance" = none) (n_str : mg "str" = none) (n_min : mg "min" = none) (n_max : mg "max" = none) (n_range : mg "range" = none) (n_tuple : mg "tuple" = none) : Ok P w K mg base "flattened" s_flattened 2 ["node"] sp_flattened := by
  refine ok_of a sc_flattened _ rfl (fun ds M Q E ⟨l, p, h, _⟩ => by rw [h]; rfl) fun f cd A outer s H E hr => ⟨_, (ss_cons (s_setLc (own := [("outlet", 2)]) 1 rfl sc_flattened.nd (i_any (dv 0)) (blkOk_by (by show blkC ["node", "sizes", "outlet", "inner", "number"] (defScope s_flattened) _ _ = true; decide +kernel)) (fun _ _ _ _ _ => (cg_name 2 sc_flattened.nd)) (fun _ _ _ _ _ => pt_nil) (by exact (fun s1 H1 C1 cl1 fp1 => (d_if (dt_val (d_isi .str n_isinstance n_str (dv 2))) de_int (d_len n_len (dv 2))))) (sw_true rfl rfl rfl (by decide +kernel)))
  (ss_cons (s_if (DW.t (w_or (t_cmp (c_eq hr) (d_min n_min rfl (q_of (dv 1))) de_int) (w_or1 (t_cmp c_lt (d_min n_min rfl (q_of (dv 1))) (d_max n_max rfl (q_of (dv 1))))))) (ss_one (s_ret de_non)) ss_nil)
  (ss_one (s_ret (d_tuple n_tuple (q_of (d_lc2 (own := [("inner", 3), ("number", 4)]) (own1 := [("number", 4)]) rfl sc_flattened.nd (i_r1 n_range (d_ix (dv 1) de_int)) (blkOk_by (by show blkC ["node", "sizes", "outlet", "inner", "number"] (defScope s_flattened) _ _ = true; decide +kernel)) (by decide) (fun _ _ _ _ _ => (cg_name 3 sc_flattened.nd)) (fun s1 H1 C1 cl1 fp1 => (i_r1 n_range (d_len n_len (dv 0)))) (fun _ _ _ _ _ => (cg_name 4 sc_flattened.nd)) (fun s1 H1 C1 cl1 fp1 => (d_ix (d_ix (dv 0) (dv 4)) (dv 3)))))))))), ?_⟩
  rintro ds M Q E ⟨l, p, rfl, hl, h0, hc, hq⟩
  have hlen := cnts_len hl
  walk_at "go"
  refine lc_by (fun i acc M1 => M1 = M ∧ acc = (sizesI (l.take i)).map D.int) ⟨rfl, rfl⟩ (fun _ _ _ _ _ => trivial) ?_ ?_
  · rintro i d acc M1 hd ⟨rfl, rfl⟩
    obtain ⟨u, hu, rfl, hm⟩ := encs_get hd
    have hi : i < l.length := (List.getElem?_eq_some_iff.mp hu).1
    have e : (sizesI (l.take i)).map D.int ++ [D.int (kidN u)] = (sizesI (l.take (i + 1))).map D.int := by
      unfold sizesI
      rw [take_succ_of hu, List.map_append, List.map_append]
      rfl
    have sz : ((sizesI (l.take i)).map D.int).length < sizeLine := by
      unfold sizesI
      rw [List.length_map, List.length_map, List.length_take]
      exact Nat.lt_of_le_of_lt (show _ ≤ 1000 by omega) (by decide)
    cases u with
    | leaf z =>
      simp only [T.enc]
      walk_at "go"
      exact ⟨sz, rfl, e⟩
    | node r =>
      simp only [T.enc]
      walk_at "go"
      rw [encs_len]
      exact ⟨sz, rfl, e⟩
  rintro acc M1 ⟨rfl, rfl⟩
  rw [encs_len, List.take_length]
  walk_at "go"
  intro q1 hq1
  walk_at "go"
  have mem : ∀ x, x ∈ sizesI l → ∃ u, u ∈ l ∧ x = (kidN u : Nat) := fun x hx => by
    obtain ⟨u, hu, rfl⟩ := List.mem_map.mp hx
    exact ⟨u, hu, rfl⟩
  have inn : ∀ u, u ∈ l → ((kidN u : Nat) : Int) ∈ sizesI l := fun u hu => List.mem_map.mpr ⟨u, hu, rfl⟩
  have hsz : 0 < (sizesI l).length := by unfold sizesI; rw [List.length_map]; exact h0
  refine min_i (intsD_map _) hsz fun m hm1 hm2 => ?_
  obtain ⟨u, hu, rfl⟩ := mem m hm1
  walk_at "go"
  have l1 : MLe M1 (mupd M1 q1 (.lst ((sizesI l).map D.int))) := MLe.new hq1
  refine cndE (fun h => ?_) fun h => ?_
  · have e := flat_none hu hu (.inl (by omega))
    walk_at "go"
    have := hq _ l1
    rw [e] at this
    exact ⟨_, MLe.refl _, this⟩
  walk_at "go"
  refine min_i (intsD_map _) hsz fun m hm3 hm4 => ?_
  walk_at "go"
  refine max_i (intsD_map _) hsz fun x hx1 hx2 => ?_
  obtain ⟨v, hv, rfl⟩ := mem x hx1
  have em : m = (kidN u : Nat) := by
    have a := hm2 m hm3
    have b := hm4 _ hm1
    omega
  subst em
  walk_at "go"
  refine cndD (fun h => ?_) fun h => ?_
  · have e := flat_none hu hv (.inr (by omega))
    walk_at "go"
    have := hq _ l1
    rw [e] at this
    exact ⟨_, MLe.refl _, this⟩
  have all : ∀ x, x ∈ l → kidN x = kidN u := fun x hx => by
    have a := hm2 _ (inn x hx)
    have b := hx2 _ (inn x hx)
    omega
  have e := flat_yes h0 (n := kidN u) (by omega) all
  rw [e] at hq
  walk_at "go"
  have hkl := kid_all l hl all
  have hk1 : kidN u * 1 ≤ kidN u * l.length := Nat.mul_le_mul_left _ h0
  have h00 : ((sizesI l).map D.int)[0]? = some (.int (kidN u)) := by
    unfold sizesI
    rw [List.getElem?_map, List.getElem?_map, List.getElem?_eq_getElem h0]
    show some (D.int ((kidN l[0] : Nat) : Int)) = _
    rw [all _ (List.getElem_mem h0)]
  refine ix_l mupd_same (atI_nat (j := 0) h00) ?_
  generalize mupd M1 q1 (.lst ((sizesI l).map D.int)) = N2 at l1
  generalize hn : kidN u = n at *
  refine ⟨by omega, by omega, ?_⟩
  rw [Int.toNat_natCast]
  refine lc2_by fun q hq2 => ⟨fun i M => MLe N2 M ∧ M q = some (.lst (encs (flatL l i))), ⟨MLe.new hq2, mupd_same⟩, fun _ _ _ _ => trivial, ?_, ?_⟩
  · rintro i d M3 hd ⟨l3, g3⟩
    obtain ⟨hi, rfl⟩ := rngD_of hd
    have e0 : (0 : Int) + (i : Int) = i := by omega
    rw [e0]
    walk_at "go"
    rw [encs_len]
    refine ⟨by omega, by omega, fun j M => MLe N2 M ∧ M q = some (.lst (encs (flatL l i ++ (l.take j).map fun u => kid u i))), ⟨l3, by simpa using g3⟩, fun _ _ _ _ => trivial, ?_, ?_⟩
    · rintro j d1 M4 hd1 ⟨l4, g4⟩
      obtain ⟨hj, rfl⟩ := rngD_of hd1
      have hj : j < l.length := by simpa using hj
      have e1 : (0 : Int) + (j : Int) = j := by omega
      rw [e1]
      have hm := List.getElem_mem hj
      obtain ⟨r, er, hr2⟩ := kid_at (u := l[j]) (i := i) (by rw [all _ hm]; exact hi)
      walk_at "go"
      refine ix_t (encs_at hj) ?_
      rw [er]
      simp only [T.enc]
      walk_at "go"
      refine ix_t (d := (kid l[j] i).enc) (atI_nat (by rw [encs_map, List.getElem?_map, hr2]; rfl)) ?_
      refine ⟨_, g4, ?_, fun b o h => by rw [mupd_ne (mne h hq2)]; exact l4 b o h, ?_⟩
      · rw [encs_len, List.length_append, flatL_len, List.length_map, List.length_take]
        have : (i + 1) * l.length ≤ n * l.length := Nat.mul_le_mul_right _ hi
        rw [Nat.succ_mul] at this
        exact Nat.lt_of_lt_of_le (show _ < 1001 by omega) (by decide)
      · rw [mupd_same, encs_map, encs_map, take_succ_of (List.getElem?_eq_getElem hj), List.map_append]
        simp only [List.map_append, List.map_cons, List.map_nil, List.append_assoc]
    · rintro M4 ⟨l4, g4⟩
      rw [rngD_length] at g4
      refine ⟨l4, ?_⟩
      rw [flatL_succ, g4]
      simp
  · rintro M3 ⟨l3, g3⟩
    rw [rngD_length] at g3
    walk_at "go"
    exact ⟨_, MLe.refl _, hq _ (l1.trans l3)⟩
def sp_unflattened : SpD := fun ds M Q _ => ∃ (l : List T) (c : Nat) (p : Str → Prop), ds = [.tup (encs l), .int c] ∧ Oks p l ∧ 0 < l.length ∧ cnts l ≤ 1000 ∧ Q (optD (unflT l c)) M
theorem ok_unflattened (a : At K mg "unflattened" s_unflattened) (n_len : mg "len" = none) (n_range : mg "range" = none) (n_tuple : mg "tuple" = none) : Ok P w K mg base "unflattened" s_unflattened 2 ["node", "count"] sp_unflattened := by
  refine ok_of a sc_unflattened _ rfl (fun ds M Q E ⟨l, c, p, h, _⟩ => by rw [h]; rfl) fun f cd A outer s H E hr => ⟨_, (ss_cons (s_if (DW.t (w_or (t_cmp c_lt (dv 1) de_int) (w_or (t_cmp (c_ne hr) (d_mod (d_len n_len (dv 0)) (dv 1)) de_int) (w_or1 (t_cmp (c_eq hr) (d_len n_len (dv 0)) (dv 1)))))) (ss_one (s_ret de_non)) ss_nil)
  (ss_one (s_ret (d_tuple n_tuple (DL.q (l_lc (own := [("number", 2)]) rfl sc_unflattened.nd (i_r1 n_range (dv 1)) (blkOk_by (by show blkC ["node", "count", "number"] (defScope s_unflattened) _ _ = true; decide +kernel)) (fun _ _ _ _ _ => (cg_name 2 sc_unflattened.nd)) (fun _ _ _ _ _ => pt_nil) (fun s1 H1 C1 cl1 fp1 => (d_step (dv 0) (o_some (dv 2)) (o_some (dv 1)))))))))), ?_⟩
  rintro ds M Q E ⟨l, c, p, rfl, hl, h0, hc, hq⟩
  have hlen := cnts_len hl
  unfold unflT at hq
  walk_at "go"
  refine cndD (fun h => ?_) fun h => ?_
  · rw [if_pos (.inl (by omega))] at hq
    walk_at "go"
    exact ⟨_, MLe.refl _, hq⟩
  walk_at "go"
  rw [encs_len, show (l.length : Int) % (c : Int) = ((l.length % c : Nat) : Int) from rfl, natB0]
  by_cases g : l.length % c = 0
  · rw [decide_eq_true g]
    walk_at "go"
    rw [encs_len, natBq]
    by_cases g2 : l.length = c
    · rw [if_pos (.inr (.inr g2))] at hq
      rw [decide_eq_true g2]
      walk_at "go"
      exact ⟨_, MLe.refl _, hq⟩
    rw [if_neg (by omega)] at hq
    rw [decide_eq_false g2]
    have hcl : c ≤ l.length := Nat.le_of_dvd h0 (Nat.dvd_of_mod_eq_zero g)
    walk_at "go"
    refine ⟨by omega, by omega, ?_⟩
    refine lc_by (fun i acc M1 => M1 = M ∧ acc = encs ((List.range i).map fun i => T.node (TD.stepV l i c))) ⟨rfl, rfl⟩ (fun _ _ _ _ _ => trivial) ?_ ?_
    · rintro i d acc M1 hd ⟨rfl, rfl⟩
      obtain ⟨hi, rfl⟩ := rngD_of hd
      have hi : i < c := by simpa using hi
      have e0 : (0 : Int) + (i : Int) = i := by omega
      rw [e0]
      walk_at "go"
      refine step_t (by rw [encs_len]; omega) (by omega) ?_
      refine ⟨by rw [encs_len, List.length_map, List.length_range]; exact Nat.lt_of_lt_of_le (show i < 1001 by omega) (by decide), rfl, ?_⟩
      have e2 : encs ((List.range (i + 1)).map fun i => T.node (TD.stepV l i c)) = encs ((List.range i).map fun i => T.node (TD.stepV l i c)) ++ [(T.node (TD.stepV l i c)).enc] := by
        rw [List.range_succ, List.map_append, encs_map, encs_map, List.map_append]
        rfl
      rw [e2, encs_map l, stepV_map, ← encs_map]
      rfl
    · rintro acc M1 ⟨rfl, rfl⟩
      rw [rngD_length, Int.toNat_natCast]
      walk_at "go"
      exact ⟨_, MLe.refl _, hq⟩
  · rw [if_pos (.inr (.inl g))] at hq
    rw [decide_eq_false g]
    walk_at "go"
    exact ⟨_, MLe.refl _, hq⟩
def sp_put (n : Nat) : SpD := fun ds M Q _ => ∃ (t : T) (ks : List Nat) (u v : T) (p : Str → Prop), ds = [t.enc, .tup (natsD ks), u.enc] ∧ ks.length < n ∧ ks.length ≤ 1000 ∧ t.Ok p ∧ t.cnt ≤ 100000 ∧ t.at ks = some v ∧ ∀ M', MLe M M' → Q (t.put ks u).enc M'
theorem ok_put_step {n : Nat} (a : At K mg "put_part" s_put_part) (n_enumerate : mg "enumerate" = none) (n_tuple : mg "tuple" = none)
    (ih : Ok P w K mg base "put_part" s_put_part (n + 1) ["tree", "path", "node"] (sp_put n)) : Ok P w K mg base "put_part" s_put_part (n + 2) ["tree", "path", "node"] (sp_put (n + 1)) := by
  refine ok_of a sc_put_part _ rfl (fun ds M Q E ⟨t, ks, u, v, p, h, _⟩ => by rw [h]; rfl) fun f cd A outer s H E hr => ⟨_, (ss_cons (s_if (t_cmp (c_eq hr) (dv 1) (d_tup a_nil)) (ss_one (s_ret (dv 2))) ss_nil)
  (ss_cons (s_asg (dv 1) (g_star 1 rfl (gs_cons (g_name 3 sc_put_part.nd) (gs_star (g_name 4 sc_put_part.nd) gs_nil))))
  (ss_cons (s_set 5 sc_put_part.nd (d_call ih bd_put_part (hr.mono (by omega)) xd_takes (a_cons (d_ix (dv 0) (dv 3)) (a_cons (d_tupA n_tuple (dv 4)) (a_cons (dv 2) a_nil)))))
  (ss_one (s_ret (d_tuple n_tuple (DL.q (l_lc (own := [("number", 6), ("outlet", 7)]) rfl sc_put_part.nd (i_enum n_enumerate (dv 0)) (blkOk_by (by show blkC ["tree", "path", "node", "first", "rest", "inner", "number", "outlet"] (defScope s_put_part) _ _ = true; decide +kernel)) (fun _ _ _ _ _ => (cg_tup (n := 2) rfl (cgs_cons (cg_name 6 sc_put_part.nd) (cgs_cons (cg_name 7 sc_put_part.nd) cgs_nil)))) (fun _ _ _ _ _ => pt_nil) (fun s1 H1 C1 cl1 fp1 => (d_if (t_cmp (c_eq hr) (dv 6) (dv 3)) (dv 5) (dv 7))))))))))), ?_⟩
  rintro ds M Q E ⟨t, ks, u, v, p, rfl, hn, hk, ht, hc, ha, hq⟩
  walk_at "go"
  refine eq_p (.tuple (ks.map fun (k : Nat) => PyData.int k)) (.tuple []) (.tup (pys_nats _ ks)) (.tup .nil) (Nat.le_trans (Nat.min_le_right ..) (by decide)) ?_
  cases ks with
  | nil =>
    walk_at "go"
    exact ⟨_, MLe.refl _, by simpa [T.put] using hq _ (MLe.refl _)⟩
  | cons k ks =>
    cases t with
    | leaf z => simp [T.at] at ha
    | node l =>
      simp only [T.at] at ha
      split at ha
      · rename_i x hx
        have hi : k < l.length := (List.getElem?_eq_some_iff.mp hx).1
        have hlen : l.length ≤ 100000 := Nat.le_trans (cnts_len ht.2) hc
        have hm := List.mem_of_getElem? hx
        have hku : l[k] = x := by
          rw [List.getElem?_eq_getElem hi] at hx
          exact Option.some.inj hx
        simp only [T.put, hx] at hq
        simp only [T.enc]
        walk_at "go"
        refine ⟨by rw [natsD_len]; simp, by rw [natsD_len]; exact Nat.le_trans hk (by decide), fun q1 hq1 => ?_⟩
        walk_at "go"
        refine ix_t (encs_at hi) ?_
        walk_at "go"
        rw [hku]
        refine ⟨x, ks, u, v, p, rfl, by simp at hn; omega, by simp at hk; omega, ht.2.mem hm, Nat.le_trans (cnts_mem hm) hc, ha, fun M3 l3 => ?_⟩
        walk_at "go"
        refine lc_by (fun i acc M => M = M3 ∧ acc = encs ((l.set k (x.put ks u)).take i)) ⟨rfl, rfl⟩ (fun _ _ _ _ _ => trivial) ?_ ?_
        · rintro i d acc M4 hd ⟨rfl, rfl⟩
          obtain ⟨y, hy, rfl⟩ := enumD_get hd
          obtain ⟨w, hw, rfl, _⟩ := encs_get hy
          have hil : i < l.length := (List.getElem?_eq_some_iff.mp hw).1
          have sz : (encs ((l.set k (x.put ks u)).take i)).length < sizeLine := by
            rw [encs_len, List.length_take]
            exact Nat.lt_of_le_of_lt (show _ ≤ 100000 by omega) (by decide)
          have fin : ∀ z, (l.set k (x.put ks u))[i]? = some z → encs ((l.set k (x.put ks u)).take i) ++ [z.enc] = encs ((l.set k (x.put ks u)).take (i + 1)) := fun z hz => by
            rw [take_succ_of hz, encs_map, encs_map, List.map_append]
            rfl
          walk_at "go"
          rw [natBq]
          by_cases e : i = k
          · subst e
            rw [decide_eq_true rfl]
            walk_at "go"
            exact ⟨sz, rfl, fin _ (by rw [List.getElem?_set_self hil])⟩
          · rw [decide_eq_false e]
            walk_at "go"
            exact ⟨sz, rfl, fin _ (by rw [List.getElem?_set_ne (Ne.symm e)]; exact hw)⟩
        · rintro acc M4 ⟨rfl, rfl⟩
          rw [enumD_len, encs_len, List.take_of_length_le (by rw [List.length_set]; exact Nat.le_refl _)]
          walk_at "go"
          exact ⟨_, MLe.refl _, hq _ ((MLe.new hq1).trans l3)⟩
      · cases ha
theorem ok_put (a : At K mg "put_part" s_put_part) (n_enumerate : mg "enumerate" = none) (n_tuple : mg "tuple" = none) : ∀ n, Ok P w K mg base "put_part" s_put_part (n + 1) ["tree", "path", "node"] (sp_put n)
  | 0 => (ok_never a sc_put_part).imp fun ds M Q E ⟨t, _, _, _, p, _, h, _⟩ => by omega
  | n + 1 => ok_put_step a n_enumerate n_tuple (ok_put a n_enumerate n_tuple n)
def sp_changed : SpD := fun ds M Q _ => ∃ (v : T) (s : Stp) (p : Str → Prop), ds = [v.enc, .str s.word, .int s.n] ∧ v.Ok p ∧ v.cnt ≤ 400 ∧ Q (optD (chgP v s)) M
theorem ok_changed (a : At K mg "changed" s_changed) (n_isinstance : mg "isinstance" = none) (n_str : mg "str" = none) (n_tuple : mg "tuple" = none) (n_all : mg "all" = none)
    (o_flattened : Ok P w K mg base "flattened" s_flattened 2 ["node"] sp_flattened) (o_unflattened : Ok P w K mg base "unflattened" s_unflattened 2 ["node", "count"] sp_unflattened) : Ok P w K mg base "changed" s_changed 4 ["node", "word", "count"] sp_changed := by
  refine ok_of a sc_changed _ rfl (fun ds M Q E ⟨v, s, p, h, _⟩ => by rw [h]; rfl) fun f cd A outer s0 H E hr => ⟨_, (ss_one (s_match (dv 1) (m_val (c_eq hr) de_str (ss_one (s_ret (d_if (dt_val (d_isi .str n_isinstance n_str (dv 0))) de_non (d_call o_flattened bd_flattened (hr.mono (by decide)) xd_takes (a_cons (dv 0) a_nil))))) (m_val (c_eq hr) de_str (ss_one (s_ret (d_if (dt_val (d_isi .str n_isinstance n_str (dv 0))) de_non (d_call o_unflattened bd_unflattened (hr.mono (by decide)) xd_takes (a_cons (dv 0) (a_cons (dv 2) a_nil)))))) (m_val (c_eq hr) de_str (ss_cons (s_set 3 sc_changed.nd (d_and (d_isi .tuple n_isinstance n_tuple (dv 0)) (d_and (d_isi .str n_isinstance n_str (d_ix (dv 0) de_int)) (d_one (d_all n_all rfl (DL.q (l_lc (own := [("one", 4)]) rfl sc_changed.nd (i_any (dv 0)) (blkOk_by (by show blkC ["node", "word", "count", "alike", "one"] (defScope s_changed) _ _ = true; decide +kernel)) (fun _ _ _ _ _ => (cg_name 4 sc_changed.nd)) (fun _ _ _ _ _ => pt_nil) (fun s1 H1 C1 cl1 fp1 => (d_cmp (c_eq hr) (dv 4) (d_ix (dv 0) de_int))))))))))
  (ss_one (s_ret (d_if (dt_val (dv 3)) (d_ix (dv 0) de_int) de_non)))) (m_any (ss_one (s_ret (d_if (DW.t (w_and (dt_val (d_isi .str n_isinstance n_str (dv 0))) (w_and1 (t_chain c_le c_le de_int (dv 2) de_int)))) (d_mul (d_tup (a_cons (dv 0) a_nil)) (dv 2)) de_non))))))))), ?_⟩
  rintro ds M Q E ⟨v, s, p, rfl, hv, hc, hq0⟩
  have hq : ∀ M', MLe M M' → ∃ M0, MLe M0 M' ∧ Q (optD (chgP v s)) M0 := fun M' le => ⟨M, le, hq0⟩
  cases s with
  | flat ks =>
    cases v with
    | leaf z =>
      simp only [Stp.word, Stp.n, T.enc]
      walk_at "go"
      exact hq _ (MLe.refl _)
    | node l =>
      simp only [Stp.word, Stp.n, T.enc]
      walk_at "go"
      refine ⟨l, p, rfl, hv.2, by have := hv.1; omega, Nat.le_trans hc (by decide), fun M' le => ?_⟩
      walk_at "go"
      exact hq _ le
  | unfl ks c =>
    cases v with
    | leaf z =>
      simp only [Stp.word, Stp.n, T.enc]
      walk_at "go"
      exact hq _ (MLe.refl _)
    | node l =>
      simp only [Stp.word, Stp.n, T.enc]
      walk_at "go"
      refine ⟨l, c, p, rfl, hv.2, by have := hv.1; omega, Nat.le_trans hc (by decide), ?_⟩
      walk_at "go"
      exact hq _ (MLe.refl _)
  | gath ks =>
    cases v with
    | leaf z =>
      simp only [Stp.word, Stp.n, T.enc]
      walk_at "go"
      exact hq _ (MLe.refl _)
    | node l =>
      have hlen : l.length ≤ 400 := Nat.le_trans (cnts_len hv.2) hc
      have h2 := hv.1
      have hq : ∀ M', MLe M M' → ∃ M0, MLe M0 M' ∧ Q (optD (gathT l)) M0 := hq
      simp only [Stp.word, Stp.n, T.enc]
      walk_at "go"
      match l, hlen with
      | [], _ => simp at h2
      | .node k :: r, _ =>
        refine ix_t (d := .tup (encs k)) (by simp only [encs, T.enc]; exact atI_zero) ?_
        walk_at "go"
        exact hq _ (MLe.refl _)
      | .leaf z :: r, hlen =>
        refine ix_t (d := .str z) (by simp only [encs, T.enc]; exact atI_zero) ?_
        walk_at "go"
        refine lc_by (fun i acc M2 => M2 = M ∧ acc = (((T.leaf z :: r).take i).map fun o => PyData.eqv o.pyd (T.leaf z).pyd).map D.bl) ⟨rfl, rfl⟩ (fun _ _ _ _ _ => trivial) ?_ ?_
        · rintro i d acc M2 hd ⟨rfl, rfl⟩
          obtain ⟨u, hu, rfl, hm⟩ := encs_get hd
          have hi : i < (T.leaf z :: r).length := (List.getElem?_eq_some_iff.mp hu).1
          walk_at "go"
          refine ix_t (d := .str z) (by simp only [encs, T.enc]; exact atI_zero) ?_
          walk_at "go"
          refine eq_p u.pyd (T.leaf z).pyd (u.py _) ((T.leaf z).py _) (Nat.le_trans (Nat.min_le_right ..) (Nat.le_trans (pyd_depth (.leaf z)) (by show 0 + 1 ≤ 150; decide))) ?_
          refine ⟨Nat.lt_of_le_of_lt (show _ ≤ 400 by rw [List.length_map, List.length_map, List.length_take]; omega) (by decide), rfl, ?_⟩
          rw [take_succ_of hu, List.map_append, List.map_append]; rfl
        · rintro acc M2 ⟨rfl, rfl⟩
          rw [encs_len, List.take_length]
          walk_at "go"
          refine bls_i (blsD_map _) ?_
          rw [gath_all] at hq
          walk_at "go"
          refine cndI (fun h => ?_) fun h => ?_ <;> rw [h] at hq <;> walk_at "go"
          · refine ix_t (d := .str z) (by simp only [encs, T.enc]; exact atI_zero) ?_
            exact hq _ (MLe.refl _)
          · exact hq _ (MLe.refl _)
  | spre ks c =>
    cases v with
    | leaf z =>
      have hq : ∀ M', MLe M M' → ∃ M0, MLe M0 M' ∧ Q (optD (if 400 < c then none else if 2 ≤ c then some (.node (List.replicate c (.leaf z))) else none)) M0 := hq
      simp only [Stp.word, Stp.n, T.enc]
      walk_at "go"
      by_cases h : 2 ≤ c
      · rw [if_pos h] at hq
        rw [decide_eq_true (by omega)]
        walk_at "go"
        by_cases h4 : 400 < c
        · rw [if_pos h4] at hq
          rw [decide_eq_false (by omega)]
          walk_at "go"
          exact hq _ (MLe.refl _)
        · rw [if_neg h4] at hq
          rw [decide_eq_true (by omega)]
          walk_at "go"
          refine mul_t (by simp) (by omega) (by omega) (by show 1 ≤ 1000; decide) ?_
          rw [Int.toNat_natCast, enc_rep]
          exact hq _ (MLe.refl _)
      · rw [if_neg h] at hq
        have hq := hq M (MLe.refl _)
        rw [if_neg (by omega)] at hq
        rw [decide_eq_false (by omega)]
        walk_at "go"
        exact hq
    | node l =>
      have hq : ∀ M', MLe M M' → ∃ M0, MLe M0 M' ∧ Q (optD (if 400 < c then none else none)) M0 := hq
      rw [ite_self] at hq
      simp only [Stp.word, Stp.n, T.enc]
      walk_at "go"
      exact hq _ (MLe.refl _)
def sp_read : SpD := fun ds M Q _ => ∃ s : Stp, ds = [s.enc] ∧ Q (.tup [.str s.word, .tup (natsD s.path), .int s.n]) M
theorem ok_read (a : At K mg "read_step" s_read_step) (n_len : mg "len" = none) (n_isinstance : mg "isinstance" = none) (n_tuple : mg "tuple" = none) (n_int : mg "int" = none) (d_COUNTS : DkAt K mg w "COUNTS" [("flatten", 2), ("unflatten", 3), ("gather", 2), ("spread", 3)])
    (xo_BadStep : XOk1 P w K mg base "BadStep" "BadStep" "at" "self" "at") : Ok P w K mg base "read_step" s_read_step 4 ["step"] sp_read := by
  refine ok_of a sc_read_step _ rfl (fun ds M Q E ⟨s, h, _⟩ => by rw [h]; rfl) fun f cd A outer s0 H E hr => ⟨_, (ss_cons (s_asg (dv 0) (g_star 1 rfl (gs_cons (g_name 1 sc_read_step.nd) (gs_star (g_name 2 sc_read_step.nd) gs_nil))))
  (ss_cons (s_if (DW.t (w_or (t_cmp (c_ne hr) (d_kget d_COUNTS (dv 1) de_int) (d_len n_len (dv 0))) (w_or1 (t_not (dt_val (d_isi .tuple n_isinstance n_tuple (d_ix (dv 2) de_int))))))) (ss_one (s_raise1 (k := 0) xo_BadStep rfl (hr.mono (by decide)) xd_takes de_int)) ss_nil)
  (ss_cons (s_if (DW.t (w_and (t_cmp (c_eq hr) (d_len n_len (dv 2)) de_int) (w_and1 (t_not (dt_val (d_isi .int n_isinstance n_int (d_ix (dv 2) de_int))))))) (ss_one (s_raise1 (k := 0) xo_BadStep rfl (hr.mono (by decide)) xd_takes de_int)) ss_nil)
  (ss_one (s_ret (d_tup (a_cons (dv 1) (a_cons (d_ix (dv 2) de_int) (a_cons (d_if (t_cmp (c_eq hr) (d_len n_len (dv 2)) de_int) (d_ix (dv 2) de_int) de_int) a_nil))))))))), ?_⟩
  rintro ds M Q E ⟨s, rfl, hq⟩
  cases s with
  | flat ks =>
    simp only [Stp.enc]
    walk_at "go"
    refine ⟨by simp, (show 2 ≤ sizeLine by decide), fun q1 hq1 => ?_⟩
    walk_at "go"
    exact ⟨_, MLe.new hq1, hq⟩
  | gath ks =>
    simp only [Stp.enc]
    walk_at "go"
    refine ⟨by simp, (show 2 ≤ sizeLine by decide), fun q1 hq1 => ?_⟩
    walk_at "go"
    exact ⟨_, MLe.new hq1, hq⟩
  | unfl ks c =>
    simp only [Stp.enc]
    walk_at "go"
    refine ⟨by simp, (show 3 ≤ sizeLine by decide), fun q1 hq1 => ?_⟩
    walk_at "go"
    exact ⟨_, MLe.new hq1, hq⟩
  | spre ks c =>
    simp only [Stp.enc]
    walk_at "go"
    refine ⟨by simp, (show 3 ≤ sizeLine by decide), fun q1 hq1 => ?_⟩
    walk_at "go"
    exact ⟨_, MLe.new hq1, hq⟩
theorem rep_ints (i : Int) (n : Nat) : (List.replicate n [D.int i]).flatten = (List.replicate n i).map D.int := by
  induction n with
  | zero => rfl
  | succ n ih => rw [List.replicate_succ, List.replicate_succ, List.flatten_cons, ih]; rfl
theorem ints_depth (ns : List Int) : (PyData.list (ns.map PyData.int)).depth ≤ 150 := by
  have := depth_le (l := ns.map PyData.int) (n := 0) fun p hp => by
    obtain ⟨i, _, rfl⟩ := List.mem_map.mp hp
    exact Nat.le_of_eq (by simp [PyData.depth])
  simp only [PyData.depth]
  omega

end

section
set_option pp.maxSteps 300
variable {P : Program} {w : World} {K : PySem.W.Frag} {mg : Str → Option Value} {base : Heap}
def sp_apply (c1 c2 : Value) : SpD := fun ds M Q E => ∃ (t : T) (s : Stp) (p : Str → Prop), ds = [t.enc, s.enc] ∧ t.Ok p ∧ t.cnt ≤ 400 ∧ t.lv ≤ 40 ∧ outTo K c1 c2 Q E M (applyO t s)
theorem ok_apply {c1 c2 : Value} (a : At K mg "apply_step" s_apply_step) (n_isinstance : mg "isinstance" = none) (n_str : mg "str" = none) (xo_BadStep : XOk1 P w K mg base "BadStep" "BadStep" "at" "self" "at") (e_BadStep : ErrC K mg c1 c2 "BadStep" (some "at"))
    (o_read_step : Ok P w K mg base "read_step" s_read_step 4 ["step"] sp_read) (o_part_at : Ok P w K mg base "part_at" s_part_at 2 ["tree", "path"] sp_part) (o_changed : Ok P w K mg base "changed" s_changed 4 ["node", "word", "count"] sp_changed)
    (o_within : Ok P w K mg base "within" s_within 53 ["tree"] (sp_within (K := K) c1 c2 50)) (o_put_part : Ok P w K mg base "put_part" s_put_part 51 ["tree", "path", "node"] (sp_put 50)) : Ok P w K mg base "apply_step" s_apply_step 55 ["tree", "step"] (sp_apply (K := K) c1 c2) := by
  refine ok_of a sc_apply_step _ rfl (fun ds M Q E ⟨t, s, p, h, _⟩ => by rw [h]; rfl) fun f cd A outer s0 H E hr => ⟨_, (ss_cons (s_asg (d_call o_read_step bd_read_step (hr.mono (by decide)) xd_takes (a_cons (dv 1) a_nil)) (g_tup (n := 3) rfl (gs_cons (g_name 2 sc_apply_step.nd) (gs_cons (g_name 3 sc_apply_step.nd) (gs_cons (g_name 4 sc_apply_step.nd) gs_nil)))))
  (ss_cons (s_set 5 sc_apply_step.nd (d_call o_part_at bd_part_at (hr.mono (by decide)) xd_takes (a_cons (dv 0) (a_cons (dv 3) a_nil))))
  (ss_cons (s_set 6 sc_apply_step.nd (d_if (t_cmp c_is (dv 5) de_non) de_non (d_call o_changed bd_changed (hr.mono (by decide)) xd_takes (a_cons (dv 5) (a_cons (dv 2) (a_cons (dv 4) a_nil))))))
  (ss_cons (s_if (t_cmp c_is (dv 6) de_non) (ss_cons (s_if (DW.t (w_and (t_cmp (c_eq hr) (dv 2) de_str) (w_and (dt_val (d_isi .str n_isinstance n_str (dv 5))) (w_and1 (t_cmp c_gt (dv 4) de_int))))) (ss_one (s_expr (d_call o_within bd_within (hr.mono (by decide)) xd_takes (a_cons (d_mul (d_tup (a_cons de_str a_nil)) de_int) a_nil)))) ss_nil)
  (ss_one (s_raise1 (k := 0) xo_BadStep rfl (hr.mono (by decide)) xd_takes de_int))) ss_nil)
  (ss_one (s_ret (d_call o_within bd_within (hr.mono (by decide)) xd_takes (a_cons (d_call o_put_part bd_put_part (hr.mono (by decide)) xd_takes (a_cons (dv 0) (a_cons (dv 3) (a_cons (dv 6) a_nil)))) a_nil)))))))), ?_⟩
  rintro ds M Q E ⟨t, s, p, rfl, ht, hc, hlv, hq⟩
  have bad : ∀ (cls : Value), (applyO t s = (("BadStep" : Str), .int 0)) → mg "BadStep" = some cls → ∃ M0, MLe M0 M ∧ E cls [("at", .int 0), ("word", .str "BadStep")] M0 := fun cls e hm => by
    rw [e] at hq
    exact ⟨_, MLe.refl _, hq.2 (by show ("BadStep" : Str) ≠ "value"; decide) _ _ (e_BadStep.by1 rfl rfl hm)⟩
  walk_at "go"
  refine ⟨s, rfl, ?_⟩
  walk_at "go"
  refine ⟨t, s.path, p, rfl, ht, by omega, ?_⟩
  cases ha : t.at s.path with
  | none =>
    have e : applyO t s = (("BadStep" : Str), .int 0) := applyO_none (by unfold stepP; rw [ha]; rfl) (by unfold bigSp; rw [ha]; cases s <;> rfl)
    cases s <;> walk_at "go" <;> (intro cls hm; exact bad _ e hm)
  | some v =>
    obtain ⟨a1, a2, a3⟩ := at_ok s.path t v ht ha
    have hs : stepP t s = (chgP v s).map fun u => t.put s.path u := by unfold stepP; rw [ha]; rfl
    walk_at "go"
    rw [show TD.isNon (optD (some v)) = false by cases v <;> rfl]
    walk_at "go"
    refine ⟨v, s, p, rfl, a1, by omega, ?_⟩
    cases hg : chgP v s with
    | none =>
      rw [hg] at hs
      cases s with
      | spre ks c =>
        cases v with
        | leaf z =>
          walk_at "go"
          by_cases h4 : 400 < c
          · have e := applyO_big hs (by unfold bigSp; rw [ha]; exact decide_eq_true h4)
            rw [e] at hq
            walk_at "go"
            rw [decide_eq_true (show (400 : Int) < ((Stp.spre ks c).n : Int) by show (400 : Int) < (c : Int); omega)]
            walk_at "go"
            refine mul_t (by simp) (by decide) (by decide) (by show 1 ≤ 1000; decide) ?_
            walk_at "go"
            refine ⟨w401, fun _ => True, by rw [w401, T.enc, ← enc_rep]; rfl, by rw [w401_ok.2.1]; decide, w401_ok.1, by rw [w401_ok.2.2]; decide, ?_⟩
            rw [w401_wthn]
            exact ⟨fun h => absurd h (by show ("TooLarge" : Str) ≠ "value"; decide), fun _ cls fs hcb => ⟨_, MLe.refl _, hq.2 (by show ("TooLarge" : Str) ≠ "value"; decide) _ _ hcb⟩⟩
          · have e := applyO_none hs (by unfold bigSp; rw [ha]; exact decide_eq_false h4)
            walk_at "go"
            rw [decide_eq_false (show ¬ (400 : Int) < ((Stp.spre ks c).n : Int) by show ¬ (400 : Int) < (c : Int); omega)]
            walk_at "go"
            intro cls hm
            exact bad _ e hm
        | node l =>
          have e := applyO_none hs (by unfold bigSp; rw [ha])
          walk_at "go"
          intro cls hm
          exact bad _ e hm
      | flat ks =>
        have e := applyO_none hs rfl
        walk_at "go"
        intro cls hm
        exact bad _ e hm
      | unfl ks c =>
        have e := applyO_none hs rfl
        walk_at "go"
        intro cls hm
        exact bad _ e hm
      | gath ks =>
        have e := applyO_none hs rfl
        walk_at "go"
        intro cls hm
        exact bad _ e hm
    | some u =>
      rw [hg] at hs
      rw [applyO_some hs] at hq
      obtain ⟨b1, b2, b3⟩ := chgP_ok a1 (by omega) hg
      obtain ⟨d1, d2, d3⟩ := put_ok s.path t u v ht b1 ha
      walk_at "go"
      rw [show TD.isNon (optD (some u)) = false by cases u <;> rfl]
      walk_at "go"
      refine ⟨t, s.path, u, v, p, rfl, by omega, by omega, ht, by omega, ha, fun M' le => ?_⟩
      walk_at "go"
      refine ⟨t.put s.path u, p, rfl, by omega, d1, by omega, fun hv => ?_, fun hv cls fs hcb => ?_⟩
      · exact ⟨_, le, hq.1 hv⟩
      · exact ⟨_, le, hq.2 hv _ _ hcb⟩

end

section
set_option pp.maxSteps 300
variable {P : Program} {w : World} {K : PySem.W.Frag} {mg : Str → Option Value} {base : Heap}
theorem eqv_ints : ∀ ns ms : List Int, PyData.eqvAll (ns.map PyData.int) (ms.map PyData.int) = decide (ns = ms)
  | [], [] => by simp [PyData.eqvAll]
  | [], _ :: _ => by simp [PyData.eqvAll]
  | _ :: _, [] => by simp [PyData.eqvAll]
  | n :: ns, m :: ms => by
    rw [List.map_cons, List.map_cons]
    simp only [PyData.eqvAll, PyData.eqv, eqv_ints ns ms]
    by_cases h1 : n = m
    · subst h1
      by_cases h2 : ns = ms
      · subst h2; simp
      · simp [h2]
    · simp [h1]

end

section
set_option pp.maxSteps 300
variable {P : Program} {w : World} {K : PySem.W.Frag} {mg : Str → Option Value} {base : Heap}
def outS (t : T) (s : Stp) : Str × D := match stepT t s with
  | some u => wthn u
  | none => ("BadStep", .int 0)
theorem outS_eq {t : T} {s : Stp} (h : s.n ≤ 400) : applyO t s = outS t s := by
  unfold applyO outS
  rw [stepP_eq h]
  cases e : stepT t s with
  | some u => rfl
  | none =>
    have : bigSp t s = false := by
      unfold bigSp
      cases s with
      | spre ks c =>
        have h : c ≤ 400 := h
        cases ha : t.at (Stp.spre ks c).path with
        | none => rfl
        | some v => cases v with
          | leaf z => exact decide_eq_false (by omega)
          | node l => rfl
      | _ => rfl
    show (if bigSp t s = true then _ else _) = _
    rw [this]
    rfl
theorem cut_mid {xs : List D} {a n : Nat} (h : a + n ≤ xs.length) : cutD xs (some (a : Int)) (some ((a : Int) + (n : Int))) = (xs.drop a).take n := by
  unfold cutD
  rw [show ((a : Int) + (n : Int)) = ((a + n : Nat) : Int) from rfl, HT.sIx_nat, HT.sIx_nat, Nat.min_eq_left h, Nat.min_eq_left (show a ≤ xs.length by omega), Nat.add_sub_cancel_left]
theorem encs_snoc (us l : List T) : encs us ++ [.tup (encs l)] = encs (us ++ [.node l]) := by
  rw [encs_map us, encs_map (us ++ _), List.map_append]
  rfl
theorem encs_drop (ts : List T) (m : Nat) : (encs ts).drop m = encs (ts.drop m) := by rw [encs_map, encs_map, List.map_drop]

end

section
set_option pp.maxSteps 300
variable {P : Program} {w : World} {K : PySem.W.Frag} {mg : Str → Option Value} {base : Heap}
theorem Bag.leX {M M' : Mem} {p : Addr} (h : Bag M p) (l : MLe M M') : Bag M' p := by
  obtain ⟨a, cells, i, big, salt, h1, h2, h3, h4⟩ := h.ex
  exact ⟨a, cells, i, big, salt, l _ _ h1, l _ _ h2, h3, h4⟩
theorem BagUp.of_le {M M' : Mem} {p : Addr} (h : Bag M p) (l : MLe M M') : BagUp p M M' := h.leU l

/-- a try whose call's outcome is r: both ways end alike -/
theorem tryOut_i {K : PySem.W.Frag} {P : Addr} {nm : Nat → Nat → Str} {L : LInfo} {c1 c2 : Value} {te : TDE} {ρ : DSt} {M : Mem} {Q : D → Mem → Prop} (r : Str × D) (R : Mem → Mem → Prop) (h1 : M P = some (.tab nm))
    (h2 : ∀ f, M f = none → (∀ (Q' : D → Mem → Prop) (E' : XD), (∀ M', R (mupd M f (.lam L)) M' → (r.1 = "value" → Q' r.2 M') ∧ (r.1 ≠ "value" → ∀ cls fs, CaughtBy K c1 c2 cls fs r.1 r.2 → E' cls fs M')) → te ρ (mupd M f (.lam L)) Q' E') ∧ ∀ M', R (mupd M f (.lam L)) M' → Q (.tup [.str r.1, r.2]) M') : tdTryLam K P nm L c1 c2 te ρ M Q :=
  tryLam_i h1 fun f hf => (h2 f hf).1 _ _ fun M' hM => ⟨fun e => by have := (h2 f hf).2 M' hM; rw [e] at this; exact this, fun _ cls fs hcb => ⟨_, _, hcb, (h2 f hf).2 M' hM⟩⟩

theorem outS_val {t : T} {s : Stp} {p : Str → Prop} (ht : t.Ok p) (hc : t.cnt ≤ 400) (hn : s.n ≤ 400) : (∃ u, stepT t s = some u ∧ outS t s = (("value" : Str), u.enc) ∧ u.Ok p ∧ u.cnt ≤ 400 ∧ u.lv ≤ 40) ∨ ∃ (w : Str) (n : Int), outS t s = (w, .int n) ∧ w ≠ "value" := by
  unfold outS
  cases h : stepT t s with
  | none => exact .inr ⟨_, _, rfl, by decide⟩
  | some u =>
    obtain ⟨b1, b2, b3⟩ := step_ok ht hc hn h
    show (∃ u', some u = some u' ∧ wthn u = _ ∧ _) ∨ ∃ w n, wthn u = _ ∧ _
    unfold wthn
    by_cases h1 : 400 < u.cnt
    · rw [if_pos h1]; exact .inr ⟨_, _, rfl, by decide⟩
    rw [if_neg h1]
    by_cases h2 : 40 < u.lv
    · rw [if_pos h2]; exact .inr ⟨_, _, rfl, by decide⟩
    rw [if_neg h2]
    exact .inl ⟨u, rfl, rfl, b1, by omega, by omega⟩
theorem outS_like {M : Mem} {t : T} {s : Stp} {p : Str → Prop} (ht : t.Ok p) (hc : t.cnt ≤ 400) (hn : s.n ≤ 400) : Like M 49 (.tup [.str (outS t s).1, (outS t s).2]) (.tup [.str (outS t s).1, (outS t s).2]) := by
  have key : ∀ (w : Str) (x : D), Like M 48 x x → Like M 49 (.tup [.str w, x]) (.tup [.str w, x]) := fun w x h => .tup rfl (fun i y z hy hz => by
    match i with
    | 0 => cases hy; cases hz; exact .str _
    | 1 => cases hy; cases hz; exact h
    | i + 2 => simp at hy) (by simp)
  rcases outS_val ht hc hn with ⟨u, _, e, u1, u2, u3⟩ | ⟨w, n, e, _⟩
  · rw [e]; exact key _ _ (like_tree 48 u (by omega) u1 (by omega))
  · rw [e]; exact key _ _ (.int n)
theorem like_nats (M : Mem) (n : Nat) {ks : List Nat} (h : ks.length ≤ 1000000) : Like M (n + 2) (.tup (natsD ks)) (.tup (natsD ks)) := .tup rfl (fun i x y hx hy => by
  rw [hx] at hy
  cases hy
  unfold natsD at hx
  rw [List.getElem?_map] at hx
  obtain ⟨k, _, rfl⟩ := Option.map_eq_some_iff.mp hx
  exact .int _) (by unfold natsD; rw [List.length_map]; exact h)
theorem like_stp (M : Mem) (n : Nat) {s : Stp} (h : s.path.length ≤ 1000000) : Like M (n + 4) s.enc s.enc := by
  have key : ∀ (w : Str) (c : Int), Like M (n + 4) (.tup [.str w, .tup (natsD s.path), .int c]) (.tup [.str w, .tup (natsD s.path), .int c]) := fun w c => .tup rfl (fun i y z hy hz => by
    match i with
    | 0 => cases hy; cases hz; exact .str _
    | 1 => cases hy; cases hz; exact like_nats M (n + 1) h
    | 2 => cases hy; cases hz; exact .int _
    | i + 3 => simp at hy) (by simp)
  have key2 : ∀ (w : Str), Like M (n + 4) (.tup [.str w, .tup (natsD s.path)]) (.tup [.str w, .tup (natsD s.path)]) := fun w => .tup rfl (fun i y z hy hz => by
    match i with
    | 0 => cases hy; cases hz; exact .str _
    | 1 => cases hy; cases hz; exact like_nats M (n + 1) h
    | i + 2 => simp at hy) (by simp)
  cases s with
  | flat ks => exact key2 _
  | gath ks => exact key2 _
  | unfl ks c => exact key _ _
  | spre ks c => exact key _ _
theorem step_path {t u : T} {s : Stp} {p : Str → Prop} (ht : t.Ok p) (h : stepT t s = some u) : s.path.length ≤ t.lv := by
  unfold stepT at h
  cases ha : t.at s.path with
  | none => rw [ha] at h; cases h
  | some v => have := (at_ok _ _ _ ht ha).2.1; omega

end

section
/-! ### the step that leads back -/
def partN (t : T) (ks : List Nat) : Nat := match t.at ks with
  | some (.node l) => l.length
  | _ => 0
def backN (n : Nat) : Stp → Stp
  | .flat ks => .unfl ks n
  | .unfl ks _ => .flat ks
  | .gath ks => .spre ks n
  | .spre ks _ => .gath ks
def backS (t : T) (s : Stp) : Stp := backN (partN t s.path) s
theorem back_path (t : T) (s : Stp) : (backS t s).path = s.path := by cases s <;> rfl
theorem at_put : ∀ (ks : List Nat) (t u v : T), t.at ks = some v → (t.put ks u).at ks = some u
  | [], t, u, v, _ => by simp [T.put, T.at]
  | k :: ks, .leaf s, u, v, e => by simp [T.at] at e
  | k :: ks, .node l, u, v, e => by
    simp only [T.at] at e
    split at e
    · rename_i w hw
      simp only [T.put, hw, T.at]
      rw [List.getElem?_set_self (by exact (List.getElem?_eq_some_iff.mp hw).1)]
      exact at_put ks w u v e
    · cases e
theorem put_put : ∀ (ks : List Nat) (t u v : T), t.at ks = some v → (t.put ks u).put ks v = t
  | [], t, u, v, e => by simp [T.at] at e; simp [T.put, e]
  | k :: ks, .leaf s, u, v, e => by simp [T.at] at e
  | k :: ks, .node l, u, v, e => by
    simp only [T.at] at e
    split at e
    · rename_i w hw
      obtain ⟨h1, h2⟩ := List.getElem?_eq_some_iff.mp hw
      simp only [T.put, hw]
      rw [List.getElem?_set_self h1]
      simp only
      rw [put_put ks w u v e, List.set_set, ← h2, List.set_getElem_self]
    · cases e
theorem kids_of {u : T} {n : Nat} (h : kidN u = n) (hn : n ≠ 0) : u = .node (kids u) ∧ (kids u).length = n := by
  cases u with
  | leaf z => exact absurd h.symm hn
  | node r => exact ⟨rfl, h⟩
theorem stepV_get {α : Type} {l : List α} {i k q : Nat} (hk : 0 < k) (hq : l.length = k * q) (hi : i < k) (h0 : 0 < q) : TD.stepV l i k = (List.range q).filterMap fun m => l[i + m * k]? := by
  unfold TD.stepV TD.stepN
  have hq2 : k ≤ k * q := Nat.le_mul_of_pos_right k h0
  have e : (l.length - i - 1) / k + 1 = q := by
    rw [hq]
    have : k * q - i - 1 = (k - i - 1) + k * (q - 1) := by
      obtain ⟨p, rfl⟩ : ∃ p, q = p + 1 := ⟨q - 1, by omega⟩
      rw [Nat.mul_succ, Nat.add_sub_cancel]
      omega
    rw [this, Nat.add_mul_div_left _ _ hk, Nat.div_eq_of_lt (by omega)]
    omega
  rw [if_pos (by omega), e]
theorem filterMap_some {α β : Type} (f : α → Option β) (g : α → β) : ∀ l : List α, (∀ x, x ∈ l → f x = some (g x)) → l.filterMap f = l.map g
  | [], _ => rfl
  | x :: l, h => by
    rw [List.filterMap_cons, h x (List.mem_cons_self ..), List.map_cons, filterMap_some f g l fun y hy => h y (List.mem_cons_of_mem _ hy)]
theorem flatL_get {l : List T} {n j m : Nat} {x : T} (hx : l[j]? = some x) (hm : m < n) : (flatL l n)[j + m * l.length]? = some (kid x m) := by
  have hl : j < l.length := (List.getElem?_eq_some_iff.mp hx).1
  rw [← flat_law l n (by omega)]
  have hlt : j + m * l.length < n * l.length := by
    have := Nat.mul_le_mul_right l.length (show m + 1 ≤ n by omega)
    rw [Nat.succ_mul] at this
    omega
  rw [List.getElem?_map, List.getElem?_range hlt]
  show some (kid ((l[(j + m * l.length) % l.length]?).getD (.leaf "")) ((j + m * l.length) / l.length)) = _
  have h1 : (j + m * l.length) % l.length = j := by rw [Nat.add_mul_mod_self_right, Nat.mod_eq_of_lt hl]
  have h2 : (j + m * l.length) / l.length = m := by rw [Nat.add_mul_div_right _ _ (by omega), Nat.div_eq_of_lt hl, Nat.zero_add]
  rw [h1, h2, hx]
  rfl
theorem map_range_self {α : Type} (l : List α) (f : Nat → α) (h : ∀ i (hi : i < l.length), f i = l[i]) : (List.range l.length).map f = l := by
  apply List.ext_getElem
  · simp
  · intro i h1 h2
    rw [List.getElem_map, List.getElem_range]
    exact h i h2
theorem unfl_flat {l : List T} {n : Nat} (h2 : 2 ≤ l.length) (hn : 2 ≤ n) (h : ∀ u, u ∈ l → kidN u = n) : unflT (flatL l n) l.length = some (.node l) := by
  unfold unflT
  have hlen := flatL_len l n
  rw [if_neg (by
    rw [hlen, Nat.mul_mod_left]
    rintro (h | h | h)
    · omega
    · exact h rfl
    · have := Nat.mul_le_mul_right l.length hn
      omega)]
  unfold unflL
  congr 2
  refine map_range_self l _ fun i hi => ?_
  obtain ⟨k1, k2⟩ := kids_of (h _ (List.getElem_mem hi)) (by omega)
  rw [stepV_get (by omega) (by rw [hlen, Nat.mul_comm]) hi (by omega), filterMap_some _ (fun m => kid l[i] m) _ (fun m hm => flatL_get (List.getElem?_eq_getElem hi) (List.mem_range.mp hm)), k1]
  congr 1
  rw [← k2]
  refine map_range_self (kids l[i]) _ fun m hm => ?_
  show ((kids l[i])[m]?).getD _ = _
  rw [List.getElem?_eq_getElem hm]
  rfl
theorem flat_unfl {l : List T} {c q : Nat} (hc : 2 ≤ c) (e : l.length = c * q) (h0 : 0 < q) : flatT (unflL l c) = some (.node l) := by
  have hk : ∀ u, u ∈ unflL l c → kidN u = q := fun u hu => by
    unfold unflL at hu
    obtain ⟨i, hi, rfl⟩ := List.mem_map.mp hu
    exact stepV_len (by omega) e (List.mem_range.mp hi) h0
  have hl : (unflL l c).length = c := by simp [unflL]
  rw [flat_yes (by omega) (by omega) hk]
  congr 2
  apply List.ext_getElem?
  intro i
  by_cases hi : i < l.length
  · have hcq : i / c < q := by rw [Nat.div_lt_iff_lt_mul (by omega), Nat.mul_comm, ← e]; exact hi
    have hm : i % c < c := Nat.mod_lt _ (by omega)
    have := flatL_get (l := unflL l c) (n := q) (j := i % c) (m := i / c) (x := .node (TD.stepV l (i % c) c)) (by simp [unflL, hm]) hcq
    rw [hl, Nat.mul_comm, Nat.mod_add_div] at this
    rw [this]
    show some ((_ : Option T).getD _) = _
    rw [List.getElem?_eq_getElem hi]
    congr 1
    show ((TD.stepV l (i % c) c)[i / c]?).getD _ = _
    rw [stepV_get (by omega) e hm h0, filterMap_some _ (fun m => (l[i % c + m * c]?).getD (.leaf "")) _ (fun m hmm => by
      have h1 := List.mem_range.mp hmm
      have h2 : i % c + m * c < l.length := by
        rw [e]
        have := Nat.mul_le_mul_left c (show m + 1 ≤ q by omega)
        rw [Nat.mul_succ, Nat.mul_comm c m] at this
        omega
      rw [List.getElem?_eq_getElem h2]
      rfl), List.getElem?_map, List.getElem?_range hcq]
    show ((l[i % c + i / c * c]?).getD _) = _
    rw [Nat.mul_comm, Nat.mod_add_div, List.getElem?_eq_getElem hi]
    rfl
  · rw [List.getElem?_eq_none (l := flatL _ _) (by rw [flatL_len, hl, Nat.mul_comm, ← e]; omega), List.getElem?_eq_none (by omega)]
theorem rep_of {z : Str} {r : List T} (h : r.all (T.isLf z) = true) : r = List.replicate r.length (.leaf z) := by
  rw [List.eq_replicate_iff]
  exact ⟨rfl, fun b hb => isLf_iff.mp (List.all_eq_true.mp h b hb)⟩
theorem rep_all (z : Str) (n : Nat) : (List.replicate n (T.leaf z)).all (T.isLf z) = true := by
  rw [List.all_eq_true]
  intro b hb
  rw [(List.mem_replicate.mp hb).2]
  exact isLf_iff.mpr rfl
/-- the part: what the step makes of it, and the way back -/
theorem chg_back {p : Str → Prop} {v u : T} {s : Stp} (hv : v.Ok p) (h : chg v s = some u) : ∃ n, chg u (backN n s) = some v ∧ (∀ l, v = .node l → n = l.length) ∧ (∀ ks c, s = .unfl ks c ∨ s = .spre ks c → ∃ l, u = .node l ∧ l.length = c) := by
  cases v with
  | leaf z =>
    cases s with
    | spre ks c =>
      simp only [chg] at h
      split at h
      · rename_i hc
        cases h
        refine ⟨0, ?_, (fun l e => by cases e), fun ks' c' e => ?_⟩
        · obtain ⟨m, rfl⟩ : ∃ m, c = m + 1 := ⟨c - 1, by omega⟩
          simp only [backN, chg, List.replicate_succ, gathT, rep_all, if_true]
        · rcases e with e | e
          · cases e
          · cases e; exact ⟨_, rfl, List.length_replicate ..⟩
      · cases h
    | _ => simp [chg] at h
  | node l =>
    have h2 := hv.1
    cases s with
    | flat ks =>
      have h : flatT l = some u := h
      obtain ⟨n, hn, h0, hk, rfl⟩ := flatT_some h
      have hn2 : 2 ≤ n := by
        obtain ⟨x, hx⟩ : ∃ x, x ∈ l := ⟨l[0], List.getElem_mem _⟩
        have hxo := hv.2.mem hx
        have := hk x hx
        cases x with
        | leaf z => exact absurd this.symm hn
        | node r => have := hxo.1; have : r.length = n := by assumption
                    omega
      exact ⟨l.length, unfl_flat h2 hn2 hk, fun l' e => by cases e; rfl, fun ks' c' e => by rcases e with e | e <;> cases e⟩
    | unfl ks c =>
      have h : unflT l c = some u := h
      obtain ⟨hc, q, hq, hq1, rfl⟩ := unflT_some h
      have h0 : 0 < q := by
        cases q with
        | zero => rw [Nat.mul_zero] at hq; omega
        | succ q => exact Nat.succ_pos _
      exact ⟨l.length, flat_unfl hc hq h0, fun l' e => by cases e; rfl, fun ks' c' e => by
        rcases e with e | e
        · cases e; exact ⟨_, rfl, by simp [unflL]⟩
        · cases e⟩
    | gath ks =>
      have h : gathT l = some u := h
      match l, h, h2 with
      | .leaf z :: r, h, h2 =>
        simp only [gathT] at h
        split at h
        · rename_i hr
          cases h
          refine ⟨r.length + 1, ?_, fun l' e => by cases e; rfl, fun ks' c' e => by rcases e with e | e <;> cases e⟩
          have h2 : 2 ≤ r.length + 1 := h2
          simp only [backN, chg, if_pos h2, List.replicate_succ]
          rw [← rep_of hr]
        · cases h
      | [], h, _ => simp [gathT] at h
      | .node _ :: _, h, _ => simp [gathT] at h
    | spre ks c => simp [chg] at h
theorem back_ok {p : Str → Prop} {t u : T} {s : Stp} (ht : t.Ok p) (h : stepT t s = some u) : stepT u (backS t s) = some t ∧ backS u (backS t s) = s := by
  unfold stepT at h
  cases ha : t.at s.path with
  | none => rw [ha] at h; cases h
  | some v =>
    rw [ha] at h
    obtain ⟨v', hv', rfl⟩ := Option.map_eq_some_iff.mp h
    have hv' : chg v s = some v' := hv'
    obtain ⟨n, h1, h2, h3⟩ := chg_back (at_ok _ _ _ ht ha).1 hv'
    have e1 : (t.put s.path v').at s.path = some v' := at_put _ _ _ _ ha
    have e2 : (t.put s.path v').put s.path v = t := put_put _ _ _ _ ha
    have hb : backS t s = (backN n s) := by
      cases s with
      | flat ks =>
        cases v with
        | leaf z => simp [chg] at hv'
        | node l =>
          have ha : t.at ks = some (.node l) := ha
          simp only [backS, backN, partN, Stp.path, ha, h2 l rfl]
      | gath ks =>
        cases v with
        | leaf z => simp [chg] at hv'
        | node l =>
          have ha : t.at ks = some (.node l) := ha
          simp only [backS, backN, partN, Stp.path, ha, h2 l rfl]
      | _ => rfl
    refine ⟨?_, ?_⟩
    · unfold stepT
      rw [back_path, e1]
      show ((chg v' (backS t s)).map _) = _
      rw [hb, h1]
      show some ((t.put s.path v').put s.path v) = _
      rw [e2]
    · cases s with
      | flat ks => rfl
      | gath ks => rfl
      | unfl ks c =>
        obtain ⟨l, rfl, hl⟩ := h3 ks c (.inl rfl)
        have e1 : (t.put ks (.node l)).at ks = some (.node l) := e1
        simp only [backS, backN, partN, Stp.path, e1, hl]
      | spre ks c =>
        obtain ⟨l, rfl, hl⟩ := h3 ks c (.inr rfl)
        have e1 : (t.put ks (.node l)).at ks = some (.node l) := e1
        simp only [backS, backN, partN, Stp.path, e1, hl]
theorem partN_le {p : Str → Prop} {t : T} {ks : List Nat} (ht : t.Ok p) (hc : t.cnt ≤ 400) : partN t ks ≤ 400 := by
  unfold partN
  split
  · rename_i l e
    obtain ⟨h1, h2, h3⟩ := at_ok ks t _ ht e
    have := cnts_len h1.2
    have : cnts l ≤ t.cnt := h3
    omega
  · omega
theorem back_n {p : Str → Prop} {t : T} {s : Stp} (ht : t.Ok p) (hc : t.cnt ≤ 400) : (backS t s).n ≤ 400 := by
  cases s with
  | flat ks => exact partN_le ht hc
  | gath ks => exact partN_le ht hc
  | _ => exact Nat.zero_le _

end

section
variable {P : Program} {w : World} {K : PySem.W.Frag} {mg : Str → Option Value} {base : Heap}
def sp_back : SpD := fun ds M Q _ => ∃ (t u : T) (s : Stp) (p : Str → Prop), ds = [t.enc, s.enc] ∧ t.Ok p ∧ t.cnt ≤ 400 ∧ stepT t s = some u ∧ ∀ M', MLe M M' → Q (backS t s).enc M'
theorem ok_back (a : At K mg "back_step" s_back_step) (n_len : mg "len" = none) (o_part_at : Ok P w K mg base "part_at" s_part_at 2 ["tree", "path"] sp_part) : Ok P w K mg base "back_step" s_back_step 4 ["tree", "step"] sp_back := by
  refine ok_of a sc_back_step _ rfl (fun ds M Q E ⟨t, u, s, p, h, _⟩ => by rw [h]; rfl) fun f cd A outer s0 H E hr => ⟨_, (ss_cons (s_asg (dv 1) (g_star 2 rfl (gs_cons (g_name 2 sc_back_step.nd) (gs_cons (g_name 3 sc_back_step.nd) (gs_star (g_name 4 sc_back_step.nd) gs_nil)))))
  (ss_cons (s_set 5 sc_back_step.nd (d_call o_part_at bd_part_at (hr.mono (by decide)) xd_takes (a_cons (dv 0) (a_cons (dv 3) a_nil))))
  (ss_one (s_match (dv 2) (m_val (c_eq hr) de_str (ss_one (s_ret (d_tup (a_cons de_str (a_cons (dv 3) (a_cons (d_len n_len (dv 5)) a_nil)))))) (m_val (c_eq hr) de_str (ss_one (s_ret (d_tup (a_cons de_str (a_cons (dv 3) a_nil))))) (m_val (c_eq hr) de_str (ss_one (s_ret (d_tup (a_cons de_str (a_cons (dv 3) (a_cons (d_len n_len (dv 5)) a_nil)))))) (m_any (ss_one (s_ret (d_tup (a_cons de_str (a_cons (dv 3) a_nil))))))))))))), ?_⟩
  rintro ds M Q E ⟨t, u, s, p, rfl, ht, hc, hs, hq⟩
  obtain ⟨v, hv⟩ : ∃ v, t.at s.path = some v := by
    unfold stepT at hs
    cases ha : t.at s.path with
    | none => rw [ha] at hs; cases hs
    | some v => exact ⟨v, rfl⟩
  have node : ∀ x, chg v s = some x → (∀ ks c, s ≠ .spre ks c) → ∃ l, v = .node l ∧ partN t s.path = l.length := fun x hx hn => by
    cases v with
    | leaf z => cases s <;> first | (exact absurd rfl (hn _ _)) | (simp [chg] at hx)
    | node l => exact ⟨l, rfl, by unfold partN; rw [hv]⟩
  obtain ⟨x, hx⟩ : ∃ x, chg v s = some x := by
    unfold stepT at hs
    rw [hv] at hs
    obtain ⟨x, hx, _⟩ := Option.map_eq_some_iff.mp hs
    exact ⟨x, hx⟩
  unfold backS at hq
  cases s with
  | flat ks =>
    obtain ⟨l, rfl, hl⟩ := node x hx (fun _ _ e => by cases e)
    rw [hl] at hq
    simp only [Stp.enc]
    walk_at "go"
    refine ⟨by show 2 ≤ 2; decide, sz (by show 2 ≤ _; decide), fun q1 hq1 => ?_⟩
    walk_at "go"
    refine ⟨t, ks, p, rfl, ht, by omega, ?_⟩
    have hv : t.at ks = some (.node l) := hv
    rw [hv]
    walk_at "go"
    rw [encs_len]
    exact ⟨_, MLe.refl _, hq _ (MLe.new hq1)⟩
  | gath ks =>
    obtain ⟨l, rfl, hl⟩ := node x hx (fun _ _ e => by cases e)
    rw [hl] at hq
    simp only [Stp.enc]
    walk_at "go"
    refine ⟨by show 2 ≤ 2; decide, sz (by show 2 ≤ _; decide), fun q1 hq1 => ?_⟩
    walk_at "go"
    refine ⟨t, ks, p, rfl, ht, by omega, ?_⟩
    have hv : t.at ks = some (.node l) := hv
    rw [hv]
    walk_at "go"
    rw [encs_len]
    exact ⟨_, MLe.refl _, hq _ (MLe.new hq1)⟩
  | unfl ks c =>
    simp only [Stp.enc]
    walk_at "go"
    refine ⟨by show 2 ≤ 3; decide, sz (by show 3 ≤ _; decide), fun q1 hq1 => ?_⟩
    walk_at "go"
    refine ⟨t, ks, p, rfl, ht, by omega, ?_⟩
    walk_at "go"
    exact ⟨_, MLe.refl _, hq _ (MLe.new hq1)⟩
  | spre ks c =>
    simp only [Stp.enc]
    walk_at "go"
    refine ⟨by show 2 ≤ 3; decide, sz (by show 3 ≤ _; decide), fun q1 hq1 => ?_⟩
    walk_at "go"
    refine ⟨t, ks, p, rfl, ht, by omega, ?_⟩
    walk_at "go"
    exact ⟨_, MLe.refl _, hq _ (MLe.new hq1)⟩
def undO (t : T) (s : Stp) : Str × D := if (applyO t s).1 = "value" then ("value", (backS t s).enc) else applyO t s
def sp_undoing (c1 c2 : Value) : SpD := fun ds M Q E => ∃ (t : T) (s : Stp) (p : Str → Prop), ds = [t.enc, s.enc] ∧ t.Ok p ∧ t.cnt ≤ 400 ∧ t.lv ≤ 40 ∧ s.n ≤ 400 ∧ ∀ M', MLe M M' → outTo K c1 c2 Q E M' (undO t s)
theorem ok_undoing {c1 c2 : Value} (a : At K mg "undoing" s_undoing) (o_apply_step : Ok P w K mg base "apply_step" s_apply_step 55 ["tree", "step"] (sp_apply (K := K) c1 c2)) (o_back_step : Ok P w K mg base "back_step" s_back_step 4 ["tree", "step"] sp_back) :
    Ok P w K mg base "undoing" s_undoing 57 ["tree", "step"] (sp_undoing (K := K) c1 c2) := by
  refine ok_of a sc_undoing _ rfl (fun ds M Q E ⟨t, s, p, h, _⟩ => by rw [h]; rfl) fun f cd A outer s0 H E hr => ⟨_, (ss_cons (s_expr (d_call o_apply_step bd_apply_step (hr.mono (by decide)) xd_takes (a_cons (dv 0) (a_cons (dv 1) a_nil))))
  (ss_one (s_ret (d_call o_back_step bd_back_step (hr.mono (by decide)) xd_takes (a_cons (dv 0) (a_cons (dv 1) a_nil)))))), ?_⟩
  rintro ds M Q E ⟨t, s, p, rfl, ht, hc, hlv, hn, hq⟩
  unfold undO at hq
  walk_at "go"
  refine ⟨t, s, p, rfl, ht, hc, hlv, fun hv => ?_, fun hv cls fs hcb => ?_⟩
  · rw [if_pos hv] at hq
    walk_at "go"
    rw [outS_eq hn] at hv
    rcases outS_val ht hc hn with ⟨u, hu, _⟩ | ⟨wd, n, e, hwd⟩
    · refine ⟨t, u, s, p, rfl, ht, hc, hu, fun M' le => ?_⟩
      walk_at "go"
      exact ⟨_, MLe.refl _, (hq M' le).1 rfl⟩
    · rw [e] at hv; exact absurd hv hwd
  · rw [if_neg hv] at hq
    exact ⟨_, MLe.refl _, (hq M (MLe.refl _)).2 hv _ _ hcb⟩

end

section
set_option pp.maxSteps 300
variable {P : Program} {w : World} {K : PySem.W.Frag} {mg : Str → Option Value} {base : Heap}
/-! ### steps, their errors by class -/
def outToM (K : PySem.W.Frag) (mg : Str → Option Value) (c1 c2 : Value) (Q : D → Mem → Prop) (E : XD) (M : Mem) (r : Str × D) : Prop := (r.1 = "value" → Q r.2 M) ∧ (r.1 ≠ "value" → ∀ cls fs, CaughtBy K c1 c2 cls fs r.1 r.2 → mg r.1 = some cls → E cls fs M)
def sp_withinM (c1 c2 : Value) (n : Nat) : SpD := fun ds M Q E => ∃ (t : T) (p : Str → Prop), ds = [t.enc] ∧ t.lv < n ∧ t.Ok p ∧ t.cnt ≤ 100000 ∧ outToM K mg c1 c2 Q E M (wthn t)
theorem ok_withinN {c1 c2 : Value} {n : Nat} (a : At K mg "within" s_within) (c_MOST_ENDS : GC mg "MOST_ENDS" (.int 400)) (c_MOST_LEVELS : GC mg "MOST_LEVELS" (.int 40)) (xo_TooLarge : XOk1 P w K mg base "TooLarge" "TooLarge" "most" "self" "most") (e_TooLarge : ErrC K mg c1 c2 "TooLarge" (some "most"))
    (on_count_ends : OkN P w K mg base "count_ends" s_count_ends (n + 1) ["tree"] (sp_cnt n)) (on_levels : OkN P w K mg base "levels" s_levels (n + 1) ["tree"] (sp_lv n)) : OkN P w K mg base "within" s_within (n + 3) ["tree"] (sp_withinM (K := K) (mg := mg) c1 c2 n) := by
  refine okN_of a sc_within _ rfl (fun ds M Q E ⟨t, p, h, _⟩ => by rw [h]; rfl) fun f cd A outer s H E hr => ⟨_, (ss_cons (s_if (t_cmp c_gt (d_callN on_count_ends bd_count_ends (hr.mono (by omega)) xdn_takes (a_cons (dv 0) a_nil)) (de_glob c_MOST_ENDS (fun _ => .int _))) (ss_one (s_raise1N (k := 0) xo_TooLarge rfl (hr.mono (by omega)) xdn_takes (de_glob c_MOST_ENDS (fun _ => .int _)))) ss_nil)
  (ss_cons (s_if (t_cmp c_gt (d_callN on_levels bd_levels (hr.mono (by omega)) xdn_takes (a_cons (dv 0) a_nil)) (de_glob c_MOST_LEVELS (fun _ => .int _))) (ss_one (s_raise1N (k := 0) xo_TooLarge rfl (hr.mono (by omega)) xdn_takes (de_glob c_MOST_LEVELS (fun _ => .int _)))) ss_nil)
  (ss_one (s_ret (dv 0))))), ?_⟩
  rintro ds M Q E ⟨t, p, rfl, hn, ht, hc, hq⟩
  unfold wthn at hq
  walk_at "go"
  refine ⟨t, p, rfl, hn, ht, hc, ?_⟩
  walk_at "go"
  refine cndD (fun h => ?_) fun h => ?_
  · rw [if_pos (by omega)] at hq
    walk_at "go"
    intro cls hm
    exact ⟨_, MLe.refl _, hq.2 (by decide) _ _ (e_TooLarge.by1 rfl rfl hm) hm⟩
  rw [if_neg (by omega)] at hq
  walk_at "go"
  refine ⟨t, p, rfl, hn, ht, hc, ?_⟩
  walk_at "go"
  refine cndD (fun h => ?_) fun h => ?_
  · rw [if_pos (by omega)] at hq
    walk_at "go"
    intro cls hm
    exact ⟨_, MLe.refl _, hq.2 (by decide) _ _ (e_TooLarge.by1 rfl rfl hm) hm⟩
  rw [if_neg (by omega)] at hq
  walk_at "go"
  exact ⟨_, MLe.refl _, hq.1 rfl⟩
def sp_applyM (c1 c2 : Value) : SpD := fun ds M Q E => ∃ (t : T) (s : Stp) (p : Str → Prop), ds = [t.enc, s.enc] ∧ t.Ok p ∧ t.cnt ≤ 400 ∧ t.lv ≤ 40 ∧ outToM K mg c1 c2 Q E M (applyO t s)
theorem ok_applyN {c1 c2 : Value} (a : At K mg "apply_step" s_apply_step) (n_isinstance : mg "isinstance" = none) (n_str : mg "str" = none) (xo_BadStep : XOk1 P w K mg base "BadStep" "BadStep" "at" "self" "at") (e_BadStep : ErrC K mg c1 c2 "BadStep" (some "at"))
    (on_read_step : OkN P w K mg base "read_step" s_read_step 4 ["step"] sp_read) (on_part_at : OkN P w K mg base "part_at" s_part_at 2 ["tree", "path"] sp_part) (on_changed : OkN P w K mg base "changed" s_changed 4 ["node", "word", "count"] sp_changed)
    (on_within : OkN P w K mg base "within" s_within 53 ["tree"] (sp_withinM (K := K) (mg := mg) c1 c2 50)) (on_put_part : OkN P w K mg base "put_part" s_put_part 51 ["tree", "path", "node"] (sp_put 50)) : OkN P w K mg base "apply_step" s_apply_step 55 ["tree", "step"] (sp_applyM (K := K) (mg := mg) c1 c2) := by
  refine okN_of a sc_apply_step _ rfl (fun ds M Q E ⟨t, s, p, h, _⟩ => by rw [h]; rfl) fun f cd A outer s0 H E hr => ⟨_, (ss_cons (s_asg (d_callN on_read_step bd_read_step (hr.mono (by decide)) xdn_takes (a_cons (dv 1) a_nil)) (g_tup (n := 3) rfl (gs_cons (g_name 2 sc_apply_step.nd) (gs_cons (g_name 3 sc_apply_step.nd) (gs_cons (g_name 4 sc_apply_step.nd) gs_nil)))))
  (ss_cons (s_set 5 sc_apply_step.nd (d_callN on_part_at bd_part_at (hr.mono (by decide)) xdn_takes (a_cons (dv 0) (a_cons (dv 3) a_nil))))
  (ss_cons (s_set 6 sc_apply_step.nd (d_if (t_cmp c_is (dv 5) de_non) de_non (d_callN on_changed bd_changed (hr.mono (by decide)) xdn_takes (a_cons (dv 5) (a_cons (dv 2) (a_cons (dv 4) a_nil))))))
  (ss_cons (s_if (t_cmp c_is (dv 6) de_non) (ss_cons (s_if (DW.t (w_and (t_cmp (c_eq hr) (dv 2) de_str) (w_and (dt_val (d_isi .str n_isinstance n_str (dv 5))) (w_and1 (t_cmp c_gt (dv 4) de_int))))) (ss_one (s_expr (d_callN on_within bd_within (hr.mono (by decide)) xdn_takes (a_cons (d_mul (d_tup (a_cons de_str a_nil)) de_int) a_nil)))) ss_nil)
  (ss_one (s_raise1N (k := 0) xo_BadStep rfl (hr.mono (by decide)) xdn_takes de_int))) ss_nil)
  (ss_one (s_ret (d_callN on_within bd_within (hr.mono (by decide)) xdn_takes (a_cons (d_callN on_put_part bd_put_part (hr.mono (by decide)) xdn_takes (a_cons (dv 0) (a_cons (dv 3) (a_cons (dv 6) a_nil)))) a_nil)))))))), ?_⟩
  rintro ds M Q E ⟨t, s, p, rfl, ht, hc, hlv, hq⟩
  have bad : ∀ (cls : Value), (applyO t s = (("BadStep" : Str), .int 0)) → mg "BadStep" = some cls → ∃ M0, MLe M0 M ∧ E cls [("at", .int 0), ("word", .str "BadStep")] M0 := fun cls e hm => by
    rw [e] at hq
    exact ⟨_, MLe.refl _, hq.2 (by show ("BadStep" : Str) ≠ "value"; decide) _ _ (e_BadStep.by1 rfl rfl hm) hm⟩
  walk_at "go"
  refine ⟨s, rfl, ?_⟩
  walk_at "go"
  refine ⟨t, s.path, p, rfl, ht, by omega, ?_⟩
  cases ha : t.at s.path with
  | none =>
    have e : applyO t s = (("BadStep" : Str), .int 0) := applyO_none (by unfold stepP; rw [ha]; rfl) (by unfold bigSp; rw [ha]; cases s <;> rfl)
    cases s <;> walk_at "go" <;> (intro cls hm; exact bad _ e hm)
  | some v =>
    obtain ⟨a1, a2, a3⟩ := at_ok s.path t v ht ha
    have hs : stepP t s = (chgP v s).map fun u => t.put s.path u := by unfold stepP; rw [ha]; rfl
    walk_at "go"
    rw [show TD.isNon (optD (some v)) = false by cases v <;> rfl]
    walk_at "go"
    refine ⟨v, s, p, rfl, a1, by omega, ?_⟩
    cases hg : chgP v s with
    | none =>
      rw [hg] at hs
      cases s with
      | spre ks c =>
        cases v with
        | leaf z =>
          walk_at "go"
          by_cases h4 : 400 < c
          · have e := applyO_big hs (by unfold bigSp; rw [ha]; exact decide_eq_true h4)
            rw [e] at hq
            walk_at "go"
            rw [decide_eq_true (show (400 : Int) < ((Stp.spre ks c).n : Int) by show (400 : Int) < (c : Int); omega)]
            walk_at "go"
            refine mul_t (by simp) (by decide) (by decide) (by show 1 ≤ 1000; decide) ?_
            walk_at "go"
            refine ⟨w401, fun _ => True, by rw [w401, T.enc, ← enc_rep]; rfl, by rw [w401_ok.2.1]; decide, w401_ok.1, by rw [w401_ok.2.2]; decide, ?_⟩
            rw [w401_wthn]
            exact ⟨fun h => absurd h (by show ("TooLarge" : Str) ≠ "value"; decide), fun _ cls fs hcb hmc => ⟨_, MLe.refl _, hq.2 (by show ("TooLarge" : Str) ≠ "value"; decide) _ _ hcb hmc⟩⟩
          · have e := applyO_none hs (by unfold bigSp; rw [ha]; exact decide_eq_false h4)
            walk_at "go"
            rw [decide_eq_false (show ¬ (400 : Int) < ((Stp.spre ks c).n : Int) by show ¬ (400 : Int) < (c : Int); omega)]
            walk_at "go"
            intro cls hm
            exact bad _ e hm
        | node l =>
          have e := applyO_none hs (by unfold bigSp; rw [ha])
          walk_at "go"
          intro cls hm
          exact bad _ e hm
      | flat ks =>
        have e := applyO_none hs rfl
        walk_at "go"
        intro cls hm
        exact bad _ e hm
      | unfl ks c =>
        have e := applyO_none hs rfl
        walk_at "go"
        intro cls hm
        exact bad _ e hm
      | gath ks =>
        have e := applyO_none hs rfl
        walk_at "go"
        intro cls hm
        exact bad _ e hm
    | some u =>
      rw [hg] at hs
      rw [applyO_some hs] at hq
      obtain ⟨b1, b2, b3⟩ := chgP_ok a1 (by omega) hg
      obtain ⟨d1, d2, d3⟩ := put_ok s.path t u v ht b1 ha
      walk_at "go"
      rw [show TD.isNon (optD (some u)) = false by cases u <;> rfl]
      walk_at "go"
      refine ⟨t, s.path, u, v, p, rfl, by omega, by omega, ht, by omega, ha, fun M' le => ?_⟩
      walk_at "go"
      refine ⟨t.put s.path u, p, rfl, by omega, d1, by omega, fun hv => ?_, fun hv cls fs hcb hmc => ?_⟩
      · exact ⟨_, le, hq.1 hv⟩
      · exact ⟨_, le, hq.2 hv _ _ hcb hmc⟩
/-- the outcome of a row of steps -/
def runS : T → List Stp → Nat → Str × D
  | t, [], _ => ("value", t.enc)
  | t, s :: r, k => match stepT t s with
    | none => ("BadStep", .int k)
    | some u => if 400 < u.cnt then ("TooLarge", .int 400) else if 40 < u.lv then ("TooLarge", .int 40) else runS u r (k + 1)
def sp_steps (c1 c2 : Value) : SpD := fun ds M Q E => ∃ (t : T) (sq : D) (ss : List Stp) (p : Str → Prop), ds = [t.enc, sq] ∧ (sq = .tup (ss.map Stp.enc) ∨ ∃ q, sq = .ref q ∧ M q = some (.lst (ss.map Stp.enc))) ∧ t.Ok p ∧ t.cnt ≤ 400 ∧ t.lv ≤ 40 ∧ (∀ s, s ∈ ss → s.n ≤ 400) ∧ outTo K c1 c2 Q E M (runS t ss 0)
theorem ok_steps {c1 c2 : Value} (a : At K mg "apply_steps" s_apply_steps) (n_enumerate : mg "enumerate" = none) (xh_BadStep : XOkH1 P w K mg base "BadStep" "BadStep" "at" "self" "at") (e_BadStep : ErrC K mg c1 c2 "BadStep" (some "at")) (q1 : ExQ K mg "BadStep" "BadStep" true) (q2 : ExQ K mg "TooLarge" "BadStep" false)
    (on_apply_step : OkN P w K mg base "apply_step" s_apply_step 55 ["tree", "step"] (sp_applyM (K := K) (mg := mg) c1 c2)) : Ok P w K mg base "apply_steps" s_apply_steps 60 ["tree", "steps"] (sp_steps (K := K) c1 c2) := by
  refine ok_of a sc_apply_steps _ rfl (fun ds M Q E ⟨t, sq, ss, p, h, _⟩ => by rw [h]; rfl) fun f cd A outer s0 H E hr => ⟨_, (ss_cons (s_for xd_owns rfl (i_enum n_enumerate (dv 1)) (g_tup (n := 2) rfl (gs_cons (g_name 2 sc_apply_steps.nd) (gs_cons (g_name 3 sc_apply_steps.nd) gs_nil))) (ss_one (s_tryF (k := 0) 4 xh_BadStep rfl rfl rfl sc_apply_steps.nd (hr.mono (by decide)) xd_takes (fun W pn xe tkN => (ss_one (s_set 0 sc_apply_steps.nd (d_callN on_apply_step bd_apply_step (hr.mono (by decide)) tkN (a_cons (dv 0) (a_cons (dv 3) a_nil)))))) (fun a pn xe => (dv 2)))))
  (ss_one (s_ret (dv 0)))), ?_⟩
  rintro ds M Q E ⟨t, sq, ss, p, rfl, hsq, ht, hc, hlv, hn, hq⟩
  walk_at "go"
  obtain ⟨CB, hCB⟩ : ∃ CB, mg "BadStep" = some CB := by
    obtain ⟨C, fI, fd, hm, _⟩ := xh_BadStep.ex
    exact ⟨_, hm⟩
  have key : ∀ (Gd : Mem → Prop), Gd M → ForI (enumD (ss.map Stp.enc)) Gd (gdTup 2 (gdCons (gdName 2) (gdCons (gdName 3) gdNil))) (tdTryF K mg "BadStep" "BadStep" "at" 4 (tdAsg (tdCall (sp_applyM (K := K) (mg := mg) c1 c2) 2 (tdCons (tdVar 0) (tdCons (tdVar 3) tdNil))) (gdName 0)) (tdVar 2))
      { nx := fun ρ M' => tdRet (tdVar 0) (dEnds Q E) ρ M', rt := (dEnds Q E).rt, bk := (dEnds Q E).bk, ct := (dEnds Q E).ct, ex := (dEnds Q E).ex } [some t.enc, some sq, none, none, none] M := fun Gd hG => by
    refine for_by (fun i ρ M1 => M1 = M ∧ ∃ (u : T) (x2 x3 x4 : Option D), ρ = [some u.enc, some sq, x2, x3, x4] ∧ u.Ok p ∧ u.cnt ≤ 400 ∧ u.lv ≤ 40 ∧ runS u (ss.drop i) i = runS t ss 0) ⟨rfl, t, none, none, none, rfl, ht, hc, hlv, rfl⟩ (fun i ρ M1 _ ⟨h, _⟩ => by subst h; exact hG) ?_ ?_
    · rintro i d ρ M1 hd ⟨rfl, u, x2, x3, x4, rfl, hu, huc, hul, hrun⟩
      obtain ⟨z, hz, rfl⟩ := enumD_get hd
      rw [List.getElem?_map] at hz
      obtain ⟨s, hs, rfl⟩ := Option.map_eq_some_iff.mp hz
      obtain ⟨hi, hsi⟩ := List.getElem?_eq_some_iff.mp hs
      have hsn := hn s (List.mem_of_getElem? hs)
      have hdr : ss.drop i = s :: ss.drop (i + 1) := by rw [List.drop_eq_getElem_cons hi, hsi]
      rw [hdr, runS] at hrun
      have bad : ∀ (r : Str × D), r = runS t ss 0 → r.1 ≠ "value" → ∀ cls fs, CaughtBy K c1 c2 cls fs r.1 r.2 → (dEnds Q E).ex cls fs [] M1 := fun r hr hne cls fs hcb => by
        rw [← hr] at hq
        exact ⟨_, MLe.refl _, hq.2 hne _ _ hcb⟩
      walk_at "go"
      refine ⟨u, s, p, rfl, hu, huc, hul, ?_⟩
      rw [outS_eq hsn]
      unfold outS
      have nBV : ("BadStep" : Str) ≠ "value" := by decide
      have nTV : ("TooLarge" : Str) ≠ "value" := by decide
      cases hst : stepT u s with
      | none =>
        rw [hst] at hrun
        refine ⟨fun h => absurd h nBV, fun _ cls fs hcb hmc => ?_⟩
        have ec : cls = CB := Option.some.inj (hmc.symm.trans hCB)
        subst ec
        exact ⟨cls, true, hCB, q1.q _ _ hCB hCB, fun _ => ⟨rfl, bad _ hrun nBV _ _ (e_BadStep.by1 rfl rfl hCB)⟩, fun h => nomatch h⟩
      | some v =>
        rw [hst] at hrun
        dsimp only at hrun
        obtain ⟨b1, b2, b3⟩ := step_ok hu huc hsn hst
        show outToM K mg c1 c2 _ _ _ (wthn v)
        unfold wthn
        by_cases h1 : 400 < v.cnt
        · rw [if_pos h1] at hrun ⊢
          exact ⟨fun h => absurd h nTV, fun _ cls fs hcb hmc => ⟨CB, false, hCB, q2.q _ _ hmc hCB, fun h => (nomatch h), fun _ => bad _ hrun nTV _ _ hcb⟩⟩
        rw [if_neg h1] at hrun ⊢
        by_cases h2 : 40 < v.lv
        · rw [if_pos h2] at hrun ⊢
          exact ⟨fun h => absurd h nTV, fun _ cls fs hcb hmc => ⟨CB, false, hCB, q2.q _ _ hmc hCB, fun h => (nomatch h), fun _ => bad _ hrun nTV _ _ hcb⟩⟩
        rw [if_neg h2] at hrun ⊢
        exact ⟨fun _ => ⟨rfl, v, _, _, _, rfl, b1, by omega, by omega, hrun⟩, fun h => absurd rfl h⟩
    · rintro ρ M1 ⟨rfl, u, x2, x3, x4, rfl, hu, huc, hul, hrun⟩
      rw [enumD_len, List.length_map, List.drop_length, runS] at hrun
      rw [← hrun] at hq
      exact ⟨_, MLe.refl _, hq.1 rfl⟩
  rcases hsq with rfl | ⟨q, rfl, hM⟩
  · exact key _ trivial
  · dsimp only
    rw [hM]
    exact key _ hM

end

section
set_option pp.maxSteps 300
variable {P : Program} {w : World} {K : PySem.W.Frag} {mg : Str → Option Value} {base : Heap}
/-! ### steps that do not fit -/
theorem ok_any2 {x : Str} {st : Stmt} {k : Nat} {ps : List Str} {spd spd' : SpD} (o : Ok P w K mg base x st k ps spd) (o' : Ok P w K mg base x st k ps spd') : Ok P w K mg base x st k ps fun ds M Q E => spd ds M Q E ∨ spd' ds M Q E := by
  obtain ⟨f, fd, F, hm, G⟩ := o.ex
  obtain ⟨f', fd', F', hm', G'⟩ := o'.ex
  have ef : f = f' := by
    have := hm.symm.trans hm'
    cases this
    rfl
  subst ef
  have efd : fd = fd' := by
    obtain ⟨_, _, _, _, _, _, _, _, _, e1, lk, _⟩ := F.ex
    obtain ⟨_, _, _, _, _, _, _, _, _, e2, lk', _⟩ := F'.ex
    have := lk.symm.trans lk'
    have := congrArg (fun o => o.map Obj.data) this
    simp at this
    exact this
  subst efd
  refine ⟨f, fd, F, hm, ⟨?_, ?_⟩⟩
  · rintro vs H Q E ⟨ds, M, Q0, E0, r, s, h | h, hq, he⟩
    · exact G.len vs H Q E ⟨ds, M, Q0, E0, r, s, h, hq, he⟩
    · exact G'.len vs H Q E ⟨ds, M, Q0, E0, r, s, h, hq, he⟩
  · rintro A outer s H args us vs Q E hr e0 hb hv ⟨ds, M, Q0, E0, r, sm, h | h, hq, he⟩
    · exact G.run A outer s H args us vs Q E hr e0 hb hv ⟨ds, M, Q0, E0, r, sm, h, hq, he⟩
    · exact G'.run A outer s H args us vs Q E hr e0 hb hv ⟨ds, M, Q0, E0, r, sm, h, hq, he⟩
theorem okN_any2 {x : Str} {st : Stmt} {k : Nat} {ps : List Str} {spd spd' : SpD} (o : OkN P w K mg base x st k ps spd) (o' : OkN P w K mg base x st k ps spd') : OkN P w K mg base x st k ps fun ds M Q E => spd ds M Q E ∨ spd' ds M Q E := by
  obtain ⟨f, fd, F, hm, G⟩ := o.ex
  obtain ⟨f', fd', F', hm', G'⟩ := o'.ex
  have ef : f = f' := by
    have := hm.symm.trans hm'
    cases this
    rfl
  subst ef
  have efd : fd = fd' := by
    obtain ⟨_, _, _, _, _, _, _, _, _, e1, lk, _⟩ := F.ex
    obtain ⟨_, _, _, _, _, _, _, _, _, e2, lk', _⟩ := F'.ex
    have := lk.symm.trans lk'
    have := congrArg (fun o => o.map Obj.data) this
    simp at this
    exact this
  subst efd
  refine ⟨f, fd, F, hm, ⟨?_, ?_⟩⟩
  · rintro vs H Q E ⟨ds, M, Q0, E0, r, s, h | h, hq, he⟩
    · exact G.len vs H Q E ⟨ds, M, Q0, E0, r, s, h, hq, he⟩
    · exact G'.len vs H Q E ⟨ds, M, Q0, E0, r, s, h, hq, he⟩
  · rintro A outer s H args us vs Q E hr e0 hb hv ⟨ds, M, Q0, E0, r, sm, h | h, hq, he⟩
    · exact G.run A outer s H args us vs Q E hr e0 hb hv ⟨ds, M, Q0, E0, r, sm, h, hq, he⟩
    · exact G'.run A outer s H args us vs Q E hr e0 hb hv ⟨ds, M, Q0, E0, r, sm, h, hq, he⟩
inductive Odd
  | lift (xs : List D)
  | empty (xs : List D)
  | flat1
  | flat3 (xs : List D)
  | spre2 (xs : List D)
  | gath3 (xs : List D)
  | unfl2 (xs : List D)
  | gath0
  | spreT (xs : List D)
  | gatH (xs : List D)
  | unN (ks : List Nat)
  | gaN (ks : List Nat)
def Odd.enc : Odd → D
  | .lift xs => .tup [.str "lift", .tup xs]
  | .empty xs => .tup [.str "", .tup xs]
  | .flat1 => .tup [.str "flatten"]
  | .flat3 xs => .tup [.str "flatten", .tup xs, .int 2]
  | .spre2 xs => .tup [.str "spread", .tup xs]
  | .gath3 xs => .tup [.str "gather", .tup xs, .int 1]
  | .unfl2 xs => .tup [.str "unflatten", .tup xs]
  | .gath0 => .tup [.str "gather", .int 0]
  | .spreT xs => .tup [.str "spread", .tup xs, .tup []]
  | .gatH xs => .tup [.str "Gather", .tup xs]
  | .unN ks => .tup [.str "unflatten", .tup (natsD ks), .int (-2)]
  | .gaN ks => .tup [.str "gather", .tup (natsD ks ++ [.int (-1)])]
def Odd.rd : Odd → Option D
  | .unN ks => some (.tup [.str "unflatten", .tup (natsD ks), .int (-2)])
  | .gaN ks => some (.tup [.str "gather", .tup (natsD ks ++ [.int (-1)]), .int 0])
  | _ => none
def rdTo (mg : Str → Option Value) (o : Option D) (Q : D → Mem → Prop) (E : XD) (M : Mem) : Prop := match o with
  | none => ∀ cls, mg "BadStep" = some cls → E cls [("at", .int 0), ("word", .str "BadStep")] M
  | some d => Q d M
def sp_readO : SpD := fun ds M Q E => ∃ o : Odd, ds = [o.enc] ∧ rdTo mg o.rd Q E M
theorem ok_readO (a : At K mg "read_step" s_read_step) (n_len : mg "len" = none) (n_isinstance : mg "isinstance" = none) (n_tuple : mg "tuple" = none) (n_int : mg "int" = none) (d_COUNTS : DkAt K mg w "COUNTS" [("flatten", 2), ("unflatten", 3), ("gather", 2), ("spread", 3)])
    (xo_BadStep : XOk1 P w K mg base "BadStep" "BadStep" "at" "self" "at") : OkN P w K mg base "read_step" s_read_step 4 ["step"] (sp_readO (mg := mg)) := by
  refine okN_of a sc_read_step _ rfl (fun ds M Q E ⟨s, h, _⟩ => by rw [h]; rfl) fun f cd A outer s0 H E hr => ⟨_, (ss_cons (s_asg (dv 0) (g_star 1 rfl (gs_cons (g_name 1 sc_read_step.nd) (gs_star (g_name 2 sc_read_step.nd) gs_nil))))
  (ss_cons (s_if (DW.t (w_or (t_cmp (c_ne hr) (d_kget d_COUNTS (dv 1) de_int) (d_len n_len (dv 0))) (w_or1 (t_not (dt_val (d_isi .tuple n_isinstance n_tuple (d_ix (dv 2) de_int))))))) (ss_one (s_raise1N (k := 0) xo_BadStep rfl (hr.mono (by decide)) xdn_takes de_int)) ss_nil)
  (ss_cons (s_if (DW.t (w_and (t_cmp (c_eq hr) (d_len n_len (dv 2)) de_int) (w_and1 (t_not (dt_val (d_isi .int n_isinstance n_int (d_ix (dv 2) de_int))))))) (ss_one (s_raise1N (k := 0) xo_BadStep rfl (hr.mono (by decide)) xdn_takes de_int)) ss_nil)
  (ss_one (s_ret (d_tup (a_cons (dv 1) (a_cons (d_ix (dv 2) de_int) (a_cons (d_if (t_cmp (c_eq hr) (d_len n_len (dv 2)) de_int) (d_ix (dv 2) de_int) de_int) a_nil))))))))), ?_⟩
  rintro ds M Q E ⟨o, rfl, hq⟩
  have bad : ∀ (cls : Value) (M' : Mem), MLe M M' → (∀ cls, mg "BadStep" = some cls → E cls [("at", .int 0), ("word", .str "BadStep")] M) → mg "BadStep" = some cls → ∃ M0, MLe M0 M' ∧ E cls [("at", .int 0), ("word", .str "BadStep")] M0 := fun cls M' l e hm => ⟨M, l, e cls hm⟩
  cases o with
  | flat1 =>
    simp only [Odd.enc]
    walk_at "go"
    refine ⟨by simp, (show 1 ≤ sizeLine by decide), fun q1 hq1 => ?_⟩
    walk_at "go"
    intro cls hm
    exact bad cls _ (MLe.new hq1) hq hm
  | unN ks =>
    simp only [Odd.enc]
    walk_at "go"
    refine ⟨by simp, (show 3 ≤ sizeLine by decide), fun q1 hq1 => ?_⟩
    walk_at "go"
    exact ⟨_, MLe.new hq1, hq⟩
  | gaN ks =>
    simp only [Odd.enc]
    walk_at "go"
    refine ⟨by simp, (show 2 ≤ sizeLine by decide), fun q1 hq1 => ?_⟩
    walk_at "go"
    exact ⟨_, MLe.new hq1, hq⟩
  | flat3 xs =>
    simp only [Odd.enc]
    walk_at "go"
    refine ⟨by simp, (show 3 ≤ sizeLine by decide), fun q1 hq1 => ?_⟩
    walk_at "go"
    intro cls hm
    exact bad cls _ (MLe.new hq1) hq hm
  | gath3 xs =>
    simp only [Odd.enc]
    walk_at "go"
    refine ⟨by simp, (show 3 ≤ sizeLine by decide), fun q1 hq1 => ?_⟩
    walk_at "go"
    intro cls hm
    exact bad cls _ (MLe.new hq1) hq hm
  | spreT xs =>
    simp only [Odd.enc]
    walk_at "go"
    refine ⟨by simp, (show 3 ≤ sizeLine by decide), fun q1 hq1 => ?_⟩
    walk_at "go"
    intro cls hm
    exact bad cls _ (MLe.new hq1) hq hm
  | gath0 =>
    simp only [Odd.enc]
    walk_at "go"
    refine ⟨by simp, (show 2 ≤ sizeLine by decide), fun q1 hq1 => ?_⟩
    walk_at "go"
    intro cls hm
    exact bad cls _ (MLe.new hq1) hq hm
  | lift xs =>
    simp only [Odd.enc]
    walk_at "go"
    refine ⟨by simp, (show 2 ≤ sizeLine by decide), fun q1 hq1 => ?_⟩
    walk_at "go"
    intro cls hm
    exact bad cls _ (MLe.new hq1) hq hm
  | empty xs =>
    simp only [Odd.enc]
    walk_at "go"
    refine ⟨by simp, (show 2 ≤ sizeLine by decide), fun q1 hq1 => ?_⟩
    walk_at "go"
    intro cls hm
    exact bad cls _ (MLe.new hq1) hq hm
  | spre2 xs =>
    simp only [Odd.enc]
    walk_at "go"
    refine ⟨by simp, (show 2 ≤ sizeLine by decide), fun q1 hq1 => ?_⟩
    walk_at "go"
    intro cls hm
    exact bad cls _ (MLe.new hq1) hq hm
  | unfl2 xs =>
    simp only [Odd.enc]
    walk_at "go"
    refine ⟨by simp, (show 2 ≤ sizeLine by decide), fun q1 hq1 => ?_⟩
    walk_at "go"
    intro cls hm
    exact bad cls _ (MLe.new hq1) hq hm
  | gatH xs =>
    simp only [Odd.enc]
    walk_at "go"
    refine ⟨by simp, (show 2 ≤ sizeLine by decide), fun q1 hq1 => ?_⟩
    walk_at "go"
    intro cls hm
    exact bad cls _ (MLe.new hq1) hq hm
def sp_partO : SpD := fun ds M Q _ => ∃ (t : T) (ks : List Nat) (p : Str → Prop), ds = [t.enc, .tup (natsD ks ++ [.int (-1)])] ∧ t.Ok p ∧ t.cnt ≤ 100000 ∧ Q .non M
theorem ok_partO (a : At K mg "part_at" s_part_at) (n_len : mg "len" = none) (n_isinstance : mg "isinstance" = none) (n_str : mg "str" = none) : Ok P w K mg base "part_at" s_part_at 2 ["tree", "path"] sp_partO := by
  refine ok_of a sc_part_at _ rfl (fun ds M Q E ⟨t, ks, p, h, _⟩ => by rw [h]; rfl) fun f cd A outer s H E hr => ⟨_, (ss_cons (s_for xd_owns rfl (i_any (dv 1)) (g_name 2 sc_part_at.nd) (ss_cons (s_if (DW.t (w_or (dt_val (d_isi .str n_isinstance n_str (dv 0))) (w_or1 (t_not (t_chain c_le c_lt de_int (dv 2) (d_len n_len (dv 0))))))) (ss_one (s_ret de_non)) ss_nil)
  (ss_one (s_set 0 sc_part_at.nd (d_ix (dv 0) (dv 2))))))
  (ss_one (s_ret (dv 0)))), ?_⟩
  rintro ds M Q E ⟨t, ks, p, rfl, ht, hc, hq⟩
  walk_at "go"
  refine for_by (fun i ρ M1 => i ≤ ks.length ∧ M1 = M ∧ ∃ (u : T) (x : Option D), ρ = [some u.enc, some (.tup (natsD ks ++ [.int (-1)])), x] ∧ u.Ok p ∧ u.cnt ≤ 100000) ⟨Nat.zero_le _, rfl, t, _, rfl, ht, hc⟩ (fun _ _ _ _ _ => trivial) ?_ ?_
  · rintro i d ρ M1 hd ⟨hi, rfl, u, x, rfl, hu, huc⟩
    cases u with
    | leaf z =>
      simp only [T.enc]
      walk_at "go"
      exact ⟨_, MLe.refl _, hq⟩
    | node l =>
      rcases Nat.lt_or_eq_of_le hi with hi2 | rfl
      · rw [List.getElem?_append_left (by rw [natsD_len]; exact hi2)] at hd
        unfold natsD at hd
        rw [List.getElem?_map] at hd
        obtain ⟨k, hk, rfl⟩ := Option.map_eq_some_iff.mp hd
        simp only [T.enc]
        walk_at "go"
        rw [encs_len]
        by_cases hk2 : k < l.length
        · rw [show (!decide ((k : Int) < (l.length : Int))) = false by simp; omega]
          walk_at "go"
          refine ix_t (encs_at hk2) ?_
          walk_at "go"
          have hm := List.getElem_mem hk2
          exact ⟨hi2, rfl, l[k], _, rfl, hu.2.mem hm, Nat.le_trans (cnts_mem hm) huc⟩
        · rw [show (!decide ((k : Int) < (l.length : Int))) = true by simp; omega]
          walk_at "go"
          exact ⟨_, MLe.refl _, hq⟩
      · rw [List.getElem?_append_right (by rw [natsD_len]; exact Nat.le_refl _), natsD_len, Nat.sub_self] at hd
        cases hd
        simp only [T.enc]
        walk_at "go"
        exact ⟨_, MLe.refl _, hq⟩
  · rintro ρ M1 ⟨hi, _⟩
    rw [List.length_append, natsD_len] at hi
    exact absurd hi (by simp)
def sp_unflO : SpD := fun ds M Q _ => ∃ (l : List T), ds = [.tup (encs l), .int (-2)] ∧ Q .non M
theorem ok_unflO (a : At K mg "unflattened" s_unflattened) (n_len : mg "len" = none) (n_range : mg "range" = none) (n_tuple : mg "tuple" = none) : Ok P w K mg base "unflattened" s_unflattened 2 ["node", "count"] sp_unflO := by
  refine ok_of a sc_unflattened _ rfl (fun ds M Q E ⟨l, h, _⟩ => by rw [h]; rfl) fun f cd A outer s H E hr => ⟨_, (ss_cons (s_if (DW.t (w_or (t_cmp c_lt (dv 1) de_int) (w_or (t_cmp (c_ne hr) (d_mod (d_len n_len (dv 0)) (dv 1)) de_int) (w_or1 (t_cmp (c_eq hr) (d_len n_len (dv 0)) (dv 1)))))) (ss_one (s_ret de_non)) ss_nil)
  (ss_one (s_ret (d_tuple n_tuple (DL.q (l_lc (own := [("number", 2)]) rfl sc_unflattened.nd (i_r1 n_range (dv 1)) (blkOk_by (by show blkC ["node", "count", "number"] (defScope s_unflattened) _ _ = true; decide +kernel)) (fun _ _ _ _ _ => (cg_name 2 sc_unflattened.nd)) (fun _ _ _ _ _ => pt_nil) (fun s1 H1 C1 cl1 fp1 => (d_step (dv 0) (o_some (dv 2)) (o_some (dv 1)))))))))), ?_⟩
  rintro ds M Q E ⟨l, rfl, hq⟩
  walk_at "go"
  exact ⟨_, MLe.refl _, hq⟩
def sp_changedO : SpD := fun ds M Q _ => ∃ (v : T), ds = [v.enc, .str "unflatten", .int (-2)] ∧ Q .non M
theorem ok_changedO (a : At K mg "changed" s_changed) (n_isinstance : mg "isinstance" = none) (n_str : mg "str" = none) (n_tuple : mg "tuple" = none) (n_all : mg "all" = none)
    (o_flattened : Ok P w K mg base "flattened" s_flattened 2 ["node"] sp_flattened) (o_unflattened : Ok P w K mg base "unflattened" s_unflattened 2 ["node", "count"] sp_unflO) : Ok P w K mg base "changed" s_changed 4 ["node", "word", "count"] sp_changedO := by
  refine ok_of a sc_changed _ rfl (fun ds M Q E ⟨v, h, _⟩ => by rw [h]; rfl) fun f cd A outer s0 H E hr => ⟨_, (ss_one (s_match (dv 1) (m_val (c_eq hr) de_str (ss_one (s_ret (d_if (dt_val (d_isi .str n_isinstance n_str (dv 0))) de_non (d_call o_flattened bd_flattened (hr.mono (by decide)) xd_takes (a_cons (dv 0) a_nil))))) (m_val (c_eq hr) de_str (ss_one (s_ret (d_if (dt_val (d_isi .str n_isinstance n_str (dv 0))) de_non (d_call o_unflattened bd_unflattened (hr.mono (by decide)) xd_takes (a_cons (dv 0) (a_cons (dv 2) a_nil)))))) (m_val (c_eq hr) de_str (ss_cons (s_set 3 sc_changed.nd (d_and (d_isi .tuple n_isinstance n_tuple (dv 0)) (d_and (d_isi .str n_isinstance n_str (d_ix (dv 0) de_int)) (d_one (d_all n_all rfl (DL.q (l_lc (own := [("one", 4)]) rfl sc_changed.nd (i_any (dv 0)) (blkOk_by (by show blkC ["node", "word", "count", "alike", "one"] (defScope s_changed) _ _ = true; decide +kernel)) (fun _ _ _ _ _ => (cg_name 4 sc_changed.nd)) (fun _ _ _ _ _ => pt_nil) (fun s1 H1 C1 cl1 fp1 => (d_cmp (c_eq hr) (dv 4) (d_ix (dv 0) de_int))))))))))
  (ss_one (s_ret (d_if (dt_val (dv 3)) (d_ix (dv 0) de_int) de_non)))) (m_any (ss_one (s_ret (d_if (DW.t (w_and (dt_val (d_isi .str n_isinstance n_str (dv 0))) (w_and1 (t_chain c_le c_le de_int (dv 2) de_int)))) (d_mul (d_tup (a_cons (dv 0) a_nil)) (dv 2)) de_non))))))))), ?_⟩
  rintro ds M Q E ⟨v, rfl, hq⟩
  cases v with
  | leaf z =>
    simp only [T.enc]
    walk_at "go"
    exact ⟨_, MLe.refl _, hq⟩
  | node l =>
    simp only [T.enc]
    walk_at "go"
    refine ⟨l, rfl, ?_⟩
    walk_at "go"
    exact ⟨_, MLe.refl _, hq⟩

end

section
set_option pp.maxSteps 300
variable {P : Program} {w : World} {K : PySem.W.Frag} {mg : Str → Option Value} {base : Heap}
mutual
theorem enc_inj : ∀ {t u : T}, t.enc = u.enc → t = u
  | .leaf a, .leaf b, h => by simp only [T.enc] at h; injection h with h; rw [h]
  | .leaf a, .node l, h => by simp only [T.enc] at h; cases h
  | .node l, .leaf b, h => by simp only [T.enc] at h; cases h
  | .node l, .node m, h => by simp only [T.enc] at h; injection h with h; rw [encs_inj h]
theorem encs_inj : ∀ {l m : List T}, encs l = encs m → l = m
  | [], [], h => rfl
  | [], u :: m, h => by simp only [encs] at h; cases h
  | t :: l, [], h => by simp only [encs] at h; cases h
  | t :: l, u :: m, h => by simp only [encs] at h; injection h with h1 h2; rw [enc_inj h1, encs_inj h2]
end
def sp_applyOd (c1 c2 : Value) : SpD := fun ds M Q E => ∃ (t : T) (o : Odd) (p : Str → Prop), ds = [t.enc, o.enc] ∧ t.Ok p ∧ t.cnt ≤ 400 ∧ t.lv ≤ 40 ∧ ∀ cls fs, CaughtBy K c1 c2 cls fs "BadStep" (.int 0) → mg "BadStep" = some cls → E cls fs M
theorem ok_applyOd {c1 c2 : Value} (a : At K mg "apply_step" s_apply_step) (n_isinstance : mg "isinstance" = none) (n_str : mg "str" = none) (xo_BadStep : XOk1 P w K mg base "BadStep" "BadStep" "at" "self" "at") (e_BadStep : ErrC K mg c1 c2 "BadStep" (some "at"))
    (on_read_step : OkN P w K mg base "read_step" s_read_step 4 ["step"] (sp_readO (mg := mg))) (on_part_at : OkN P w K mg base "part_at" s_part_at 2 ["tree", "path"] fun ds M Q E => sp_part ds M Q E ∨ sp_partO ds M Q E) (on_changed : OkN P w K mg base "changed" s_changed 4 ["node", "word", "count"] sp_changedO)
    (on_within : OkN P w K mg base "within" s_within 53 ["tree"] (sp_withinM (K := K) (mg := mg) c1 c2 50)) (on_put_part : OkN P w K mg base "put_part" s_put_part 51 ["tree", "path", "node"] (sp_put 50)) : OkN P w K mg base "apply_step" s_apply_step 55 ["tree", "step"] (sp_applyOd (K := K) (mg := mg) c1 c2) := by
  refine okN_of a sc_apply_step _ rfl (fun ds M Q E ⟨t, s, p, h, _⟩ => by rw [h]; rfl) fun f cd A outer s0 H E hr => ⟨_, (ss_cons (s_asg (d_callN on_read_step bd_read_step (hr.mono (by decide)) xdn_takes (a_cons (dv 1) a_nil)) (g_tup (n := 3) rfl (gs_cons (g_name 2 sc_apply_step.nd) (gs_cons (g_name 3 sc_apply_step.nd) (gs_cons (g_name 4 sc_apply_step.nd) gs_nil)))))
  (ss_cons (s_set 5 sc_apply_step.nd (d_callN on_part_at bd_part_at (hr.mono (by decide)) xdn_takes (a_cons (dv 0) (a_cons (dv 3) a_nil))))
  (ss_cons (s_set 6 sc_apply_step.nd (d_if (t_cmp c_is (dv 5) de_non) de_non (d_callN on_changed bd_changed (hr.mono (by decide)) xdn_takes (a_cons (dv 5) (a_cons (dv 2) (a_cons (dv 4) a_nil))))))
  (ss_cons (s_if (t_cmp c_is (dv 6) de_non) (ss_cons (s_if (DW.t (w_and (t_cmp (c_eq hr) (dv 2) de_str) (w_and (dt_val (d_isi .str n_isinstance n_str (dv 5))) (w_and1 (t_cmp c_gt (dv 4) de_int))))) (ss_one (s_expr (d_callN on_within bd_within (hr.mono (by decide)) xdn_takes (a_cons (d_mul (d_tup (a_cons de_str a_nil)) de_int) a_nil)))) ss_nil)
  (ss_one (s_raise1N (k := 0) xo_BadStep rfl (hr.mono (by decide)) xdn_takes de_int))) ss_nil)
  (ss_one (s_ret (d_callN on_within bd_within (hr.mono (by decide)) xdn_takes (a_cons (d_callN on_put_part bd_put_part (hr.mono (by decide)) xdn_takes (a_cons (dv 0) (a_cons (dv 3) (a_cons (dv 6) a_nil)))) a_nil)))))))), ?_⟩
  rintro ds M Q E ⟨t, o, p, rfl, ht, hc, hlv, hq⟩
  have bad : ∀ (cls : Value) (M' : Mem), MLe M M' → mg "BadStep" = some cls → ∃ M0, MLe M0 M' ∧ E cls [("at", .int 0), ("word", .str "BadStep")] M0 := fun cls M' l hm => ⟨M, l, hq _ _ (e_BadStep.by1 rfl rfl hm) hm⟩
  walk_at "go"
  refine ⟨o, rfl, ?_⟩
  cases o with
  | unN ks =>
    show rdTo _ (some _) _ _ _
    unfold rdTo
    walk_at "go"
    refine .inl ⟨t, ks, p, rfl, ht, by omega, ?_⟩
    cases ha : t.at ks with
    | none =>
      walk_at "go"
      intro cls hm
      exact bad _ _ (MLe.refl _) hm
    | some v =>
      walk_at "go"
      rw [show TD.isNon (optD (some v)) = false by cases v <;> rfl]
      walk_at "go"
      refine ⟨v, rfl, ?_⟩
      walk_at "go"
      intro cls hm
      exact bad _ _ (MLe.refl _) hm
  | gaN ks =>
    show rdTo _ (some _) _ _ _
    unfold rdTo
    walk_at "go"
    refine .inr ⟨t, ks, p, rfl, ht, by omega, ?_⟩
    walk_at "go"
    intro cls hm
    exact bad _ _ (MLe.refl _) hm
  | _ =>
    show rdTo _ none _ _ _
    unfold rdTo
    intro cls hm
    exact bad _ _ (MLe.refl _) hm
theorem ok_applyAny {c1 c2 : Value} (o : Ok P w K mg base "apply_step" s_apply_step 55 ["tree", "step"] (sp_apply (K := K) c1 c2)) (on : OkN P w K mg base "apply_step" s_apply_step 55 ["tree", "step"] (sp_applyOd (K := K) (mg := mg) c1 c2)) :
    Ok P w K mg base "apply_step" s_apply_step 55 ["tree", "step"] fun ds M Q E => sp_apply (K := K) c1 c2 ds M Q E ∨ sp_applyOd (K := K) (mg := mg) c1 c2 ds M Q E := ok_any2 o on.ok
/-- a step that raises BadStep(0), of either kind -/
def BadS (t : T) (d : D) : Prop := (∃ o : Odd, d = o.enc) ∨ ∃ s : Stp, d = s.enc ∧ applyO t s = (("BadStep" : Str), .int 0)
def sp_undO (c1 c2 : Value) : SpD := fun ds M Q E => ∃ (t : T) (d : D) (p : Str → Prop), ds = [t.enc, d] ∧ t.Ok p ∧ t.cnt ≤ 400 ∧ t.lv ≤ 40 ∧ BadS t d ∧ ∀ cls fs, CaughtBy K c1 c2 cls fs "BadStep" (.int 0) → E cls fs M
theorem bad_any {c1 c2 : Value} {t : T} {d : D} {p : Str → Prop} {M : Mem} {Q : D → Mem → Prop} {E : XD} (ht : t.Ok p) (hc : t.cnt ≤ 400) (hl : t.lv ≤ 40) (hb : BadS t d) (h : ∀ cls fs, CaughtBy K c1 c2 cls fs "BadStep" (.int 0) → E cls fs M) : sp_apply (K := K) c1 c2 [t.enc, d] M Q E ∨ sp_applyOd (K := K) (mg := mg) c1 c2 [t.enc, d] M Q E := by
  rcases hb with ⟨o, rfl⟩ | ⟨s, rfl, e⟩
  · exact .inr ⟨t, o, p, rfl, ht, hc, hl, fun cls fs hcb _ => h cls fs hcb⟩
  · refine .inl ⟨t, s, p, rfl, ht, hc, hl, ?_⟩
    rw [e]
    exact ⟨fun h => absurd h (by show ("BadStep" : Str) ≠ "value"; decide), fun _ cls fs hcb => h cls fs hcb⟩
theorem ok_undO {c1 c2 : Value} (a : At K mg "undoing" s_undoing) (o_apply_step : Ok P w K mg base "apply_step" s_apply_step 55 ["tree", "step"] fun ds M Q E => sp_apply (K := K) c1 c2 ds M Q E ∨ sp_applyOd (K := K) (mg := mg) c1 c2 ds M Q E) (o_back_step : Ok P w K mg base "back_step" s_back_step 4 ["tree", "step"] fun _ _ _ _ => False) :
    Ok P w K mg base "undoing" s_undoing 57 ["tree", "step"] (sp_undO (K := K) c1 c2) := by
  refine ok_of a sc_undoing _ rfl (fun ds M Q E ⟨t, s, p, h, _⟩ => by rw [h]; rfl) fun f cd A outer s0 H E hr => ⟨_, (ss_cons (s_expr (d_call o_apply_step bd_apply_step (hr.mono (by decide)) xd_takes (a_cons (dv 0) (a_cons (dv 1) a_nil))))
  (ss_one (s_ret (d_call o_back_step bd_back_step (hr.mono (by decide)) xd_takes (a_cons (dv 0) (a_cons (dv 1) a_nil)))))), ?_⟩
  rintro ds M Q E ⟨t, d, p, rfl, ht, hc, hlv, hb, hq⟩
  walk_at "go"
  exact bad_any ht hc hlv hb fun cls fs hcb => ⟨_, MLe.refl _, hq cls fs hcb⟩
def sp_stepsO (c1 c2 : Value) : SpD := fun ds M Q E => ∃ (t : T) (q : Addr) (ss : List Stp) (d : D) (rest : List D) (p : Str → Prop), ds = [t.enc, .ref q] ∧ M q = some (.lst (ss.map Stp.enc ++ d :: rest)) ∧ t.Ok p ∧ t.cnt ≤ 400 ∧ t.lv ≤ 40 ∧ (∀ s, s ∈ ss → s.n ≤ 400) ∧ (runS t ss 0).1 = "value" ∧ (∀ u : T, runS t ss 0 = (("value" : Str), u.enc) → BadS u d) ∧ ∀ cls fs, CaughtBy K c1 c2 cls fs "BadStep" (.int ss.length) → E cls fs M
theorem ok_stepsO {c1 c2 : Value} (a : At K mg "apply_steps" s_apply_steps) (n_enumerate : mg "enumerate" = none) (xh_BadStep : XOkH1 P w K mg base "BadStep" "BadStep" "at" "self" "at") (e_BadStep : ErrC K mg c1 c2 "BadStep" (some "at")) (q1 : ExQ K mg "BadStep" "BadStep" true) (q2 : ExQ K mg "TooLarge" "BadStep" false)
    (on_apply_step : OkN P w K mg base "apply_step" s_apply_step 55 ["tree", "step"] fun ds M Q E => sp_applyM (K := K) (mg := mg) c1 c2 ds M Q E ∨ sp_applyOd (K := K) (mg := mg) c1 c2 ds M Q E) : Ok P w K mg base "apply_steps" s_apply_steps 60 ["tree", "steps"] (sp_stepsO (K := K) c1 c2) := by
  refine ok_of a sc_apply_steps _ rfl (fun ds M Q E ⟨t, q, ss, d, rest, p, h, _⟩ => by rw [h]; rfl) fun f cd A outer s0 H E hr => ⟨_, (ss_cons (s_for xd_owns rfl (i_enum n_enumerate (dv 1)) (g_tup (n := 2) rfl (gs_cons (g_name 2 sc_apply_steps.nd) (gs_cons (g_name 3 sc_apply_steps.nd) gs_nil))) (ss_one (s_tryF (k := 0) 4 xh_BadStep rfl rfl rfl sc_apply_steps.nd (hr.mono (by decide)) xd_takes (fun W pn xe tkN => (ss_one (s_set 0 sc_apply_steps.nd (d_callN on_apply_step bd_apply_step (hr.mono (by decide)) tkN (a_cons (dv 0) (a_cons (dv 3) a_nil)))))) (fun a pn xe => (dv 2)))))
  (ss_one (s_ret (dv 0)))), ?_⟩
  rintro ds M Q E ⟨t, q, ss, dd, rest, p, rfl, hM, ht, hc, hlv, hn, hv, hb, hq⟩
  walk_at "go"
  obtain ⟨CB, hCB⟩ : ∃ CB, mg "BadStep" = some CB := by
    obtain ⟨C, fI, fd, hm, _⟩ := xh_BadStep.ex
    exact ⟨_, hm⟩
  have nBV : ("BadStep" : Str) ≠ "value" := by decide
  have nTV : ("TooLarge" : Str) ≠ "value" := by decide
  dsimp only
  rw [hM]
  refine for_by (fun i ρ M1 => i ≤ ss.length ∧ M1 = M ∧ ∃ (u : T) (x2 x3 x4 : Option D), ρ = [some u.enc, some (.ref q), x2, x3, x4] ∧ u.Ok p ∧ u.cnt ≤ 400 ∧ u.lv ≤ 40 ∧ runS u (ss.drop i) i = runS t ss 0) ⟨Nat.zero_le _, rfl, t, none, none, none, rfl, ht, hc, hlv, rfl⟩ (fun i ρ M1 _ ⟨_, h, _⟩ => by subst h; exact hM) ?_ ?_
  · rintro i d ρ M1 hd ⟨hi, rfl, u, x2, x3, x4, rfl, hu, huc, hul, hrun⟩
    obtain ⟨z, hz, rfl⟩ := enumD_get hd
    rcases Nat.lt_or_eq_of_le hi with hi2 | rfl
    · rw [List.getElem?_append_left (by rw [List.length_map]; exact hi2), List.getElem?_map] at hz
      obtain ⟨s, hs, rfl⟩ := Option.map_eq_some_iff.mp hz
      obtain ⟨hi', hsi⟩ := List.getElem?_eq_some_iff.mp hs
      have hsn := hn s (List.mem_of_getElem? hs)
      have hdr : ss.drop i = s :: ss.drop (i + 1) := by rw [List.drop_eq_getElem_cons hi', hsi]
      rw [hdr, runS] at hrun
      walk_at "go"
      refine .inl ⟨u, s, p, rfl, hu, huc, hul, ?_⟩
      rw [outS_eq hsn]
      unfold outS
      cases hst : stepT u s with
      | none =>
        rw [hst] at hrun
        rw [← hrun] at hv
        exact absurd hv nBV
      | some v =>
        rw [hst] at hrun
        dsimp only at hrun
        obtain ⟨b1, b2, b3⟩ := step_ok hu huc hsn hst
        show outToM K mg c1 c2 _ _ _ (wthn v)
        unfold wthn
        by_cases h1 : 400 < v.cnt
        · rw [if_pos h1] at hrun
          rw [← hrun] at hv
          exact absurd hv nTV
        rw [if_neg h1] at hrun ⊢
        by_cases h2 : 40 < v.lv
        · rw [if_pos h2] at hrun
          rw [← hrun] at hv
          exact absurd hv nTV
        rw [if_neg h2] at hrun ⊢
        exact ⟨fun _ => ⟨hi2, rfl, v, _, _, _, rfl, b1, by omega, by omega, hrun⟩, fun h => absurd rfl h⟩
    · rw [List.getElem?_append_right (by rw [List.length_map]; exact Nat.le_refl _), List.length_map, Nat.sub_self] at hz
      cases hz
      rw [List.drop_length, runS] at hrun
      have hbd := hb u hrun.symm
      walk_at "go"
      have fin : ∀ cls fs, CaughtBy K c1 c2 cls fs "BadStep" (.int 0) → mg "BadStep" = some cls → ∃ c b, mg "BadStep" = some c ∧ PySem.W.exmOne K cls c = some b ∧ (b = true → cls = c ∧ ∃ M0, MLe M0 M1 ∧ E c [("at", .int ss.length), ("word", .str "BadStep")] M0) ∧ (b = false → ∃ M0, MLe M0 M1 ∧ E cls fs M0) := fun cls fs hcb hmc => by
        have ec : cls = CB := Option.some.inj (hmc.symm.trans hCB)
        subst ec
        exact ⟨cls, true, hCB, q1.q _ _ hCB hCB, fun _ => ⟨rfl, _, MLe.refl _, hq _ _ (e_BadStep.by1 rfl rfl hCB)⟩, fun h => nomatch h⟩
      rcases hbd with ⟨o, rfl⟩ | ⟨s, rfl, e⟩
      · exact .inr ⟨u, o, p, rfl, hu, huc, hul, fun cls fs hcb hmc => fin cls fs hcb hmc⟩
      · refine .inl ⟨u, s, p, rfl, hu, huc, hul, ?_⟩
        rw [e]
        exact ⟨fun h => absurd h nBV, fun _ cls fs hcb hmc => fin cls fs hcb hmc⟩
  · rintro ρ M1 ⟨hi, _⟩
    rw [enumD_len, List.length_append, List.length_map] at hi
    exact absurd hi (by simp)

end

section
/-! ### the odd steps, by the plain law -/
theorem natsD_snoc (ks : List Nat) (n : Nat) : natsD ks ++ [.int (n : Int)] = natsD (ks ++ [n]) := by unfold natsD; rw [List.map_append]; rfl
theorem at_far : ∀ (ks : List Nat) (t v : T) (n : Nat), t.at ks = some v → v.cnt ≤ n → (∃ p, v.Ok p) → t.at (ks ++ [n]) = none
  | [], t, v, n, h, hn, ⟨p, hp⟩ => by
    have e : t = v := by cases t <;> simpa [T.at] using h
    subst e
    cases t with
    | leaf z => rfl
    | node l =>
      have := cnts_len hp.2
      have hn : cnts l ≤ n := hn
      show T.at (.node l) [n] = none
      simp only [T.at, List.getElem?_eq_none (show l.length ≤ n by omega)]
  | k :: ks, t, v, n, h, hn, hp => by
    cases t with
    | leaf z => simp [T.at] at h
    | node l =>
      simp only [T.at] at h
      show T.at (.node l) (k :: (ks ++ [n])) = none
      simp only [T.at]
      cases hk : l[k]? with
      | none => rfl
      | some u => rw [hk] at h; exact at_far ks u v n h hn hp
theorem appl_none {t v : T} {s : Stp} (ha : t.at s.path = some v) (hg : chgP v s = none) (hb : s.n ≤ 400 ∨ ∀ ks c, s ≠ .spre ks c) : applyO t s = (("BadStep" : Str), .int 0) := by
  refine applyO_none (by unfold stepP; rw [ha]; show (chgP v s).map _ = none; rw [hg]; rfl) ?_
  unfold bigSp
  cases s with
  | spre ks c =>
    rcases hb with hb | hb
    · have ha : t.at ks = some v := ha
      have hb : c ≤ 400 := hb
      dsimp only [Stp.path]
      rw [ha]
      cases v with
      | leaf z => exact decide_eq_false (by omega)
      | node l => rfl
    · exact absurd rfl (hb ks c)
  | flat ks => rfl
  | gath ks => rfl
  | unfl ks c => rfl
theorem appl_away {t : T} {s : Stp} (ha : t.at s.path = none) : applyO t s = (("BadStep" : Str), .int 0) := by
  refine applyO_none (by unfold stepP; rw [ha]; rfl) ?_
  unfold bigSp
  cases s with
  | spre ks c => have ha : t.at ks = none := ha; dsimp only [Stp.path]; rw [ha]
  | flat ks => rfl
  | gath ks => rfl
  | unfl ks c => rfl
theorem spre_few {t v : T} {ks : List Nat} {c : Nat} (ha : t.at ks = some v) (hc : c < 2) : applyO t (.spre ks c) = (("BadStep" : Str), .int 0) := by
  refine appl_none (v := v) ha ?_ (.inl (by show c ≤ 400; omega))
  rw [chgP_eq (s := .spre ks c) (show c ≤ 400 by omega)]
  cases v with
  | leaf z => show (if 2 ≤ c then _ else _) = none; rw [if_neg (by omega)]
  | node l => rfl
theorem unfl_out {t v : T} {ks : List Nat} {c : Nat} {p : Str → Prop} (ha : t.at ks = some v) (hv : v.Ok p) (hn : v.cnt ≤ 400) (hc : c < 2 ∨ 400 < c) : applyO t (.unfl ks c) = (("BadStep" : Str), .int 0) := by
  refine appl_none (v := v) ha ?_ (.inr fun _ _ e => by cases e)
  cases v with
  | leaf z => rfl
  | node l =>
    have h1 : l.length ≤ 400 := Nat.le_trans (cnts_len hv.2) hn
    have h2 := hv.1
    show unflT l c = none
    unfold unflT
    refine if_pos ?_
    rcases hc with hc | hc
    · exact .inl hc
    · exact .inr (.inl (by rw [Nat.mod_eq_of_lt (by omega)]; omega))
/-- the eighteen steps the law draws from -/
def oddL (ks : List Nat) : List D := [(Odd.lift (natsD ks)).enc, (Odd.empty (natsD ks)).enc, Odd.flat1.enc, (Odd.flat3 (natsD ks)).enc, (Odd.spre2 (natsD ks)).enc, (Odd.gath3 (natsD ks)).enc, (Odd.unfl2 (natsD ks)).enc,
  (Stp.spre ks 1).enc, (Stp.spre ks 0).enc, (Stp.unfl ks 1).enc, (Odd.unN ks).enc, Odd.gath0.enc, (Stp.flat (ks ++ [999])).enc,
  (Odd.gaN ks).enc, (Stp.spre (ks ++ [10 ^ 20]) 2).enc, (Stp.unfl ks (10 ^ 25)).enc, (Odd.spreT (natsD ks)).enc, (Odd.gatH (natsD ks)).enc]
theorem oddL_bad {t v : T} {ks : List Nat} {p : Str → Prop} {d : D} (ha : t.at ks = some v) (hv : v.Ok p) (hn : v.cnt ≤ 400) (hd : d ∈ oddL ks) : BadS t d := by
  unfold oddL at hd
  simp only [List.mem_cons, List.mem_nil_iff, or_false] at hd
  rcases hd with h | h | h | h | h | h | h | h | h | h | h | h | h | h | h | h | h | h
  · exact .inl ⟨_, h⟩
  · exact .inl ⟨_, h⟩
  · exact .inl ⟨_, h⟩
  · exact .inl ⟨_, h⟩
  · exact .inl ⟨_, h⟩
  · exact .inl ⟨_, h⟩
  · exact .inl ⟨_, h⟩
  · exact .inr ⟨_, h, spre_few ha (by decide)⟩
  · exact .inr ⟨_, h, spre_few ha (by decide)⟩
  · exact .inr ⟨_, h, unfl_out ha hv hn (.inl (by decide))⟩
  · exact .inl ⟨_, h⟩
  · exact .inl ⟨_, h⟩
  · exact .inr ⟨_, h, appl_away (at_far ks t v 999 ha (by omega) ⟨p, hv⟩)⟩
  · exact .inl ⟨_, h⟩
  · exact .inr ⟨_, h, appl_away (at_far ks t v (10 ^ 20) ha (Nat.le_trans hn (by decide)) ⟨p, hv⟩)⟩
  · exact .inr ⟨_, h, unfl_out ha hv hn (.inr (by decide))⟩
  · exact .inl ⟨_, h⟩
  · exact .inl ⟨_, h⟩
/-! a leaf -/
mutual
theorem has_leaf {p : Str → Prop} : ∀ (t : T) (ks : List Nat), t.Ok p → ∃ x, x ∈ t.paths ks ∧ ∃ z, x.2 = .leaf z
  | .leaf z, ks, _ => ⟨(ks, .leaf z), by simp [T.paths], z, rfl⟩
  | .node l, ks, h => by
    obtain ⟨x, hx, hz⟩ := has_leafs l ks 0 h.2 (by have := h.1; omega)
    exact ⟨x, List.mem_cons_of_mem _ hx, hz⟩
theorem has_leafs {p : Str → Prop} : ∀ (l : List T) (ks : List Nat) (k : Nat), Oks p l → 0 < l.length → ∃ x, x ∈ pathss l ks k ∧ ∃ z, x.2 = .leaf z
  | [], ks, k, _, h => absurd h (Nat.lt_irrefl 0)
  | t :: l, ks, k, h, _ => by
    obtain ⟨x, hx, hz⟩ := has_leaf t (ks ++ [k]) h.1
    exact ⟨x, by simp only [pathss]; exact List.mem_append_left _ hx, hz⟩
end
def isLeaf : T → Bool
  | .leaf _ => true
  | .node _ => false
def leafD (x : List Nat × T) : Option D := if isLeaf x.2 then some (.tup (natsD x.1)) else none
theorem leafs_first {t : T} {p : Str → Prop} (h : t.Ok p) : ∃ (lf : List Nat) (z : Str), ((t.paths []).filterMap leafD)[0]? = some (.tup (natsD lf)) ∧ t.at lf = some (.leaf z) := by
  obtain ⟨x, hx, z, hz⟩ := has_leaf t [] h
  have hm : D.tup (natsD x.1) ∈ (t.paths []).filterMap leafD := List.mem_filterMap.mpr ⟨x, hx, by unfold leafD; rw [hz]; rfl⟩
  cases hl : (t.paths []).filterMap leafD with
  | nil => rw [hl] at hm; cases hm
  | cons d r =>
    have hd : d ∈ (t.paths []).filterMap leafD := by rw [hl]; exact List.mem_cons_self ..
    obtain ⟨y, hy, hy2⟩ := List.mem_filterMap.mp hd
    obtain ⟨js, e1, e2⟩ := paths_at t [] y hy
    unfold leafD at hy2
    cases hv : y.2 with
    | node l => rw [hv] at hy2; simp [isLeaf] at hy2
    | leaf z2 =>
      rw [hv] at hy2
      have hy2 : some (D.tup (natsD y.1)) = some d := hy2
      cases hy2
      refine ⟨y.1, z2, rfl, ?_⟩
      rw [e1, List.nil_append, e2, hv]
/-- the row of good steps -/
theorem run_good {t : T} {lf : List Nat} {z : Str} {p : Str → Prop} (ht : t.Ok p) (hc : t.cnt ≤ 200) (hl : t.lv ≤ 20) (ha : t.at lf = some (.leaf z)) : (runS t [.spre lf 2, .gath lf, .spre lf 2] 0).1 = "value" := by
  have s1 : stepT t (.spre lf 2) = some (t.put lf (.node [.leaf z, .leaf z])) := by
    unfold stepT
    show ((t.at lf).bind _).map _ = _
    rw [ha]
    rfl
  have hp : p z := by
    obtain ⟨a, _⟩ := at_ok lf t _ ht ha
    exact a
  have s2 : stepT (t.put lf (.node [.leaf z, .leaf z])) (.gath lf) = some t := by
    unfold stepT
    show ((T.at _ lf).bind _).map _ = _
    rw [at_put lf t _ _ ha]
    have e : chg (.node [.leaf z, .leaf z]) (.gath lf) = some (.leaf z) := by
      show (if [T.leaf z].all (T.isLf z) = true then some (T.leaf z) else none) = _
      rw [if_pos (by rw [List.all_cons, isLf_iff.mpr rfl]; rfl)]
    show (chg (.node [.leaf z, .leaf z]) (.gath lf)).map (fun u => (t.put lf _).put lf u) = _
    rw [e]
    show some ((t.put lf _).put lf (.leaf z)) = _
    rw [put_put lf t _ _ ha]
  obtain ⟨d1, d2, d3⟩ := put_ok lf t (.node [.leaf z, .leaf z]) (.leaf z) ht ⟨by show 2 ≤ 2; decide, hp, hp, trivial⟩ ha
  have hll := (at_ok lf t _ ht ha).2.1
  have c1 : (T.node [.leaf z, .leaf z]).cnt = 2 := rfl
  have c2 : (T.node [.leaf z, .leaf z]).lv = 1 := rfl
  have c3 : (T.leaf z).lv = 0 := rfl
  rw [runS, s1]
  dsimp only
  rw [if_neg (by omega), if_neg (by omega), runS, s2]
  dsimp only
  rw [if_neg (by omega), if_neg (by omega), runS, s1]
  dsimp only
  rw [if_neg (by omega), if_neg (by omega), runS]
theorem big_spre {t : T} {lf : List Nat} {z : Str} {c : Nat} (ha : t.at lf = some (.leaf z)) (h : 400 < c) : applyO t (.spre lf c) = (("TooLarge" : Str), .int 400) := by
  refine applyO_big ?_ ?_
  · unfold stepP
    show ((t.at lf).bind _).map _ = _
    rw [ha]
    show (if 400 < c then none else _ : Option T).map _ = none
    rw [if_pos h]
    rfl
  · unfold bigSp
    dsimp only [Stp.path]
    rw [ha]
    exact decide_eq_true h

end
structure Top (K : PySem.W.Frag) (mg : Str → Option Value) (c1 c2 : Value) (cL PL : Addr) (w : World) : Prop where
  t_count_ends : At K mg "count_ends" s_count_ends
  t_levels : At K mg "levels" s_levels
  t_within : At K mg "within" s_within
  t_part_at : At K mg "part_at" s_part_at
  t_flattened : At K mg "flattened" s_flattened
  t_unflattened : At K mg "unflattened" s_unflattened
  t_changed : At K mg "changed" s_changed
  t_put_part : At K mg "put_part" s_put_part
  t_read_step : At K mg "read_step" s_read_step
  t_apply_step : At K mg "apply_step" s_apply_step
  t_apply_steps : At K mg "apply_steps" s_apply_steps
  t_back_step : At K mg "back_step" s_back_step
  t_undoing : At K mg "undoing" s_undoing
  t_law_bag : At K mg "_law_bag" s_law_bag
  t_law_pull : At K mg "_law_pull" s_law_pull
  t_law_of : At K mg "_law_of" s_law_of
  t_law_names : At K mg "_law_names" s_law_names
  t_law_owners : At K mg "_law_owners" s_law_owners
  t_law_tree : At K mg "_law_tree" s_law_tree
  t_law_drawn : At K mg "_law_drawn" s_law_drawn
  t_law_paths : At K mg "_law_paths" s_law_paths
  t_law_field : At K mg "_law_field" s_law_field
  t_law_try : At K mg "_law_try" s_law_try
  t_law : AtC K mg "law" s_law cL
  hdL : PySem.W.codeHdIn K cL PL = true
  noL : K.lookup PL = none
  n_TurnError : mg "TurnError" = some c1
  n_TurnMissing : mg "TurnMissing" = some c2
  x_BadStep : ∀ P w base, XOk1 P w K mg base "BadStep" "BadStep" "at" "self" "at"
  e_BadStep : ErrC K mg c1 c2 "BadStep" (some "at")
  x_TooLarge : ∀ P w base, XOk1 P w K mg base "TooLarge" "TooLarge" "most" "self" "most"
  e_TooLarge : ErrC K mg c1 c2 "TooLarge" (some "most")
  h_BadStep : ∀ P w base, XOkH1 P w K mg base "BadStep" "BadStep" "at" "self" "at"
  q_BadStep_BadStep : ExQ K mg "BadStep" "BadStep" true
  q_TooLarge_BadStep : ExQ K mg "TooLarge" "BadStep" false
  n_all : mg "all" = none
  n_enumerate : mg "enumerate" = none
  n_int : mg "int" = none
  n_isinstance : mg "isinstance" = none
  n_len : mg "len" = none
  n_list : mg "list" = none
  n_max : mg "max" = none
  n_min : mg "min" = none
  n_range : mg "range" = none
  n_str : mg "str" = none
  n_sum : mg "sum" = none
  n_tuple : mg "tuple" = none
  c_MOST_ENDS : GC mg "MOST_ENDS" (.int 400)
  c_MOST_LEVELS : GC mg "MOST_LEVELS" (.int 40)
  d_COUNTS : DkAt K mg w "COUNTS" [("flatten", 2), ("unflatten", 3), ("gather", 2), ("spread", 3)]
theorem top_mk {w : World} {K : PySem.W.Frag} {mg : Str → Option Value} {h : Heap} (X : K.In h) (G : h.Ns mainGlobals mg)
    {f0 : Addr} {oc0 kV0 dc0 pm0 cd0 ct0 : Value} {od0 an0 : Option Addr} {sl0 : Array (Option Value)}
    (a0 : PySem.W.nsIn K mainGlobals "count_ends" = some (some (.ref f0)))
    (l0 : K.lookup f0 = some ⟨oc0, od0, .func (PySem.W.fnOf "count_ends" "count_ends" (defArgs s_count_ends) (defBody s_count_ends) (defScope s_count_ends) .none kV0 dc0 pm0 an0 cd0 ct0), sl0⟩)
    (c0 : PySem.W.codeIn K cd0 "count_ends" = true)
    (k0 : PySem.W.keepIn K (.ref f0) = true)
    {f1 : Addr} {oc1 kV1 dc1 pm1 cd1 ct1 : Value} {od1 an1 : Option Addr} {sl1 : Array (Option Value)}
    (a1 : PySem.W.nsIn K mainGlobals "levels" = some (some (.ref f1)))
    (l1 : K.lookup f1 = some ⟨oc1, od1, .func (PySem.W.fnOf "levels" "levels" (defArgs s_levels) (defBody s_levels) (defScope s_levels) .none kV1 dc1 pm1 an1 cd1 ct1), sl1⟩)
    (c1 : PySem.W.codeIn K cd1 "levels" = true)
    (k1 : PySem.W.keepIn K (.ref f1) = true)
    {f2 : Addr} {oc2 kV2 dc2 pm2 cd2 ct2 : Value} {od2 an2 : Option Addr} {sl2 : Array (Option Value)}
    (a2 : PySem.W.nsIn K mainGlobals "within" = some (some (.ref f2)))
    (l2 : K.lookup f2 = some ⟨oc2, od2, .func (PySem.W.fnOf "within" "within" (defArgs s_within) (defBody s_within) (defScope s_within) .none kV2 dc2 pm2 an2 cd2 ct2), sl2⟩)
    (c2 : PySem.W.codeIn K cd2 "within" = true)
    (k2 : PySem.W.keepIn K (.ref f2) = true)
    {f3 : Addr} {oc3 kV3 dc3 pm3 cd3 ct3 : Value} {od3 an3 : Option Addr} {sl3 : Array (Option Value)}
    (a3 : PySem.W.nsIn K mainGlobals "part_at" = some (some (.ref f3)))
    (l3 : K.lookup f3 = some ⟨oc3, od3, .func (PySem.W.fnOf "part_at" "part_at" (defArgs s_part_at) (defBody s_part_at) (defScope s_part_at) .none kV3 dc3 pm3 an3 cd3 ct3), sl3⟩)
    (c3 : PySem.W.codeIn K cd3 "part_at" = true)
    (k3 : PySem.W.keepIn K (.ref f3) = true)
    {f4 : Addr} {oc4 kV4 dc4 pm4 cd4 ct4 : Value} {od4 an4 : Option Addr} {sl4 : Array (Option Value)}
    (a4 : PySem.W.nsIn K mainGlobals "flattened" = some (some (.ref f4)))
    (l4 : K.lookup f4 = some ⟨oc4, od4, .func (PySem.W.fnOf "flattened" "flattened" (defArgs s_flattened) (defBody s_flattened) (defScope s_flattened) .none kV4 dc4 pm4 an4 cd4 ct4), sl4⟩)
    (c4 : PySem.W.codeIn K cd4 "flattened" = true)
    (k4 : PySem.W.keepIn K (.ref f4) = true)
    {f5 : Addr} {oc5 kV5 dc5 pm5 cd5 ct5 : Value} {od5 an5 : Option Addr} {sl5 : Array (Option Value)}
    (a5 : PySem.W.nsIn K mainGlobals "unflattened" = some (some (.ref f5)))
    (l5 : K.lookup f5 = some ⟨oc5, od5, .func (PySem.W.fnOf "unflattened" "unflattened" (defArgs s_unflattened) (defBody s_unflattened) (defScope s_unflattened) .none kV5 dc5 pm5 an5 cd5 ct5), sl5⟩)
    (c5 : PySem.W.codeIn K cd5 "unflattened" = true)
    (k5 : PySem.W.keepIn K (.ref f5) = true)
    {f6 : Addr} {oc6 kV6 dc6 pm6 cd6 ct6 : Value} {od6 an6 : Option Addr} {sl6 : Array (Option Value)}
    (a6 : PySem.W.nsIn K mainGlobals "changed" = some (some (.ref f6)))
    (l6 : K.lookup f6 = some ⟨oc6, od6, .func (PySem.W.fnOf "changed" "changed" (defArgs s_changed) (defBody s_changed) (defScope s_changed) .none kV6 dc6 pm6 an6 cd6 ct6), sl6⟩)
    (c6 : PySem.W.codeIn K cd6 "changed" = true)
    (k6 : PySem.W.keepIn K (.ref f6) = true)
    {f7 : Addr} {oc7 kV7 dc7 pm7 cd7 ct7 : Value} {od7 an7 : Option Addr} {sl7 : Array (Option Value)}
    (a7 : PySem.W.nsIn K mainGlobals "put_part" = some (some (.ref f7)))
    (l7 : K.lookup f7 = some ⟨oc7, od7, .func (PySem.W.fnOf "put_part" "put_part" (defArgs s_put_part) (defBody s_put_part) (defScope s_put_part) .none kV7 dc7 pm7 an7 cd7 ct7), sl7⟩)
    (c7 : PySem.W.codeIn K cd7 "put_part" = true)
    (k7 : PySem.W.keepIn K (.ref f7) = true)
    {f8 : Addr} {oc8 kV8 dc8 pm8 cd8 ct8 : Value} {od8 an8 : Option Addr} {sl8 : Array (Option Value)}
    (a8 : PySem.W.nsIn K mainGlobals "read_step" = some (some (.ref f8)))
    (l8 : K.lookup f8 = some ⟨oc8, od8, .func (PySem.W.fnOf "read_step" "read_step" (defArgs s_read_step) (defBody s_read_step) (defScope s_read_step) .none kV8 dc8 pm8 an8 cd8 ct8), sl8⟩)
    (c8 : PySem.W.codeIn K cd8 "read_step" = true)
    (k8 : PySem.W.keepIn K (.ref f8) = true)
    {f9 : Addr} {oc9 kV9 dc9 pm9 cd9 ct9 : Value} {od9 an9 : Option Addr} {sl9 : Array (Option Value)}
    (a9 : PySem.W.nsIn K mainGlobals "apply_step" = some (some (.ref f9)))
    (l9 : K.lookup f9 = some ⟨oc9, od9, .func (PySem.W.fnOf "apply_step" "apply_step" (defArgs s_apply_step) (defBody s_apply_step) (defScope s_apply_step) .none kV9 dc9 pm9 an9 cd9 ct9), sl9⟩)
    (c9 : PySem.W.codeIn K cd9 "apply_step" = true)
    (k9 : PySem.W.keepIn K (.ref f9) = true)
    {f10 : Addr} {oc10 kV10 dc10 pm10 cd10 ct10 : Value} {od10 an10 : Option Addr} {sl10 : Array (Option Value)}
    (a10 : PySem.W.nsIn K mainGlobals "apply_steps" = some (some (.ref f10)))
    (l10 : K.lookup f10 = some ⟨oc10, od10, .func (PySem.W.fnOf "apply_steps" "apply_steps" (defArgs s_apply_steps) (defBody s_apply_steps) (defScope s_apply_steps) .none kV10 dc10 pm10 an10 cd10 ct10), sl10⟩)
    (c10 : PySem.W.codeIn K cd10 "apply_steps" = true)
    (k10 : PySem.W.keepIn K (.ref f10) = true)
    {f11 : Addr} {oc11 kV11 dc11 pm11 cd11 ct11 : Value} {od11 an11 : Option Addr} {sl11 : Array (Option Value)}
    (a11 : PySem.W.nsIn K mainGlobals "back_step" = some (some (.ref f11)))
    (l11 : K.lookup f11 = some ⟨oc11, od11, .func (PySem.W.fnOf "back_step" "back_step" (defArgs s_back_step) (defBody s_back_step) (defScope s_back_step) .none kV11 dc11 pm11 an11 cd11 ct11), sl11⟩)
    (c11 : PySem.W.codeIn K cd11 "back_step" = true)
    (k11 : PySem.W.keepIn K (.ref f11) = true)
    {f12 : Addr} {oc12 kV12 dc12 pm12 cd12 ct12 : Value} {od12 an12 : Option Addr} {sl12 : Array (Option Value)}
    (a12 : PySem.W.nsIn K mainGlobals "undoing" = some (some (.ref f12)))
    (l12 : K.lookup f12 = some ⟨oc12, od12, .func (PySem.W.fnOf "undoing" "undoing" (defArgs s_undoing) (defBody s_undoing) (defScope s_undoing) .none kV12 dc12 pm12 an12 cd12 ct12), sl12⟩)
    (c12 : PySem.W.codeIn K cd12 "undoing" = true)
    (k12 : PySem.W.keepIn K (.ref f12) = true)
    {f13 : Addr} {oc13 kV13 dc13 pm13 cd13 ct13 : Value} {od13 an13 : Option Addr} {sl13 : Array (Option Value)}
    (a13 : PySem.W.nsIn K mainGlobals "_law_bag" = some (some (.ref f13)))
    (l13 : K.lookup f13 = some ⟨oc13, od13, .func (PySem.W.fnOf "_law_bag" "_law_bag" (defArgs s_law_bag) (defBody s_law_bag) (defScope s_law_bag) .none kV13 dc13 pm13 an13 cd13 ct13), sl13⟩)
    (c13 : PySem.W.codeIn K cd13 "_law_bag" = true)
    (k13 : PySem.W.keepIn K (.ref f13) = true)
    {f14 : Addr} {oc14 kV14 dc14 pm14 cd14 ct14 : Value} {od14 an14 : Option Addr} {sl14 : Array (Option Value)}
    (a14 : PySem.W.nsIn K mainGlobals "_law_pull" = some (some (.ref f14)))
    (l14 : K.lookup f14 = some ⟨oc14, od14, .func (PySem.W.fnOf "_law_pull" "_law_pull" (defArgs s_law_pull) (defBody s_law_pull) (defScope s_law_pull) .none kV14 dc14 pm14 an14 cd14 ct14), sl14⟩)
    (c14 : PySem.W.codeIn K cd14 "_law_pull" = true)
    (k14 : PySem.W.keepIn K (.ref f14) = true)
    {f15 : Addr} {oc15 kV15 dc15 pm15 cd15 ct15 : Value} {od15 an15 : Option Addr} {sl15 : Array (Option Value)}
    (a15 : PySem.W.nsIn K mainGlobals "_law_of" = some (some (.ref f15)))
    (l15 : K.lookup f15 = some ⟨oc15, od15, .func (PySem.W.fnOf "_law_of" "_law_of" (defArgs s_law_of) (defBody s_law_of) (defScope s_law_of) .none kV15 dc15 pm15 an15 cd15 ct15), sl15⟩)
    (c15 : PySem.W.codeIn K cd15 "_law_of" = true)
    (k15 : PySem.W.keepIn K (.ref f15) = true)
    {f16 : Addr} {oc16 kV16 dc16 pm16 cd16 ct16 : Value} {od16 an16 : Option Addr} {sl16 : Array (Option Value)}
    (a16 : PySem.W.nsIn K mainGlobals "_law_names" = some (some (.ref f16)))
    (l16 : K.lookup f16 = some ⟨oc16, od16, .func (PySem.W.fnOf "_law_names" "_law_names" (defArgs s_law_names) (defBody s_law_names) (defScope s_law_names) .none kV16 dc16 pm16 an16 cd16 ct16), sl16⟩)
    (c16 : PySem.W.codeIn K cd16 "_law_names" = true)
    (k16 : PySem.W.keepIn K (.ref f16) = true)
    {f17 : Addr} {oc17 kV17 dc17 pm17 cd17 ct17 : Value} {od17 an17 : Option Addr} {sl17 : Array (Option Value)}
    (a17 : PySem.W.nsIn K mainGlobals "_law_owners" = some (some (.ref f17)))
    (l17 : K.lookup f17 = some ⟨oc17, od17, .func (PySem.W.fnOf "_law_owners" "_law_owners" (defArgs s_law_owners) (defBody s_law_owners) (defScope s_law_owners) .none kV17 dc17 pm17 an17 cd17 ct17), sl17⟩)
    (c17 : PySem.W.codeIn K cd17 "_law_owners" = true)
    (k17 : PySem.W.keepIn K (.ref f17) = true)
    {f18 : Addr} {oc18 kV18 dc18 pm18 cd18 ct18 : Value} {od18 an18 : Option Addr} {sl18 : Array (Option Value)}
    (a18 : PySem.W.nsIn K mainGlobals "_law_tree" = some (some (.ref f18)))
    (l18 : K.lookup f18 = some ⟨oc18, od18, .func (PySem.W.fnOf "_law_tree" "_law_tree" (defArgs s_law_tree) (defBody s_law_tree) (defScope s_law_tree) .none kV18 dc18 pm18 an18 cd18 ct18), sl18⟩)
    (c18 : PySem.W.codeIn K cd18 "_law_tree" = true)
    (k18 : PySem.W.keepIn K (.ref f18) = true)
    {f19 : Addr} {oc19 kV19 dc19 pm19 cd19 ct19 : Value} {od19 an19 : Option Addr} {sl19 : Array (Option Value)}
    (a19 : PySem.W.nsIn K mainGlobals "_law_drawn" = some (some (.ref f19)))
    (l19 : K.lookup f19 = some ⟨oc19, od19, .func (PySem.W.fnOf "_law_drawn" "_law_drawn" (defArgs s_law_drawn) (defBody s_law_drawn) (defScope s_law_drawn) .none kV19 dc19 pm19 an19 cd19 ct19), sl19⟩)
    (c19 : PySem.W.codeIn K cd19 "_law_drawn" = true)
    (k19 : PySem.W.keepIn K (.ref f19) = true)
    {f20 : Addr} {oc20 kV20 dc20 pm20 cd20 ct20 : Value} {od20 an20 : Option Addr} {sl20 : Array (Option Value)}
    (a20 : PySem.W.nsIn K mainGlobals "_law_paths" = some (some (.ref f20)))
    (l20 : K.lookup f20 = some ⟨oc20, od20, .func (PySem.W.fnOf "_law_paths" "_law_paths" (defArgs s_law_paths) (defBody s_law_paths) (defScope s_law_paths) .none kV20 dc20 pm20 an20 cd20 ct20), sl20⟩)
    (c20 : PySem.W.codeIn K cd20 "_law_paths" = true)
    (k20 : PySem.W.keepIn K (.ref f20) = true)
    {f21 : Addr} {oc21 kV21 dc21 pm21 cd21 ct21 : Value} {od21 an21 : Option Addr} {sl21 : Array (Option Value)}
    (a21 : PySem.W.nsIn K mainGlobals "_law_field" = some (some (.ref f21)))
    (l21 : K.lookup f21 = some ⟨oc21, od21, .func (PySem.W.fnOf "_law_field" "_law_field" (defArgs s_law_field) (defBody s_law_field) (defScope s_law_field) .none kV21 dc21 pm21 an21 cd21 ct21), sl21⟩)
    (c21 : PySem.W.codeIn K cd21 "_law_field" = true)
    (k21 : PySem.W.keepIn K (.ref f21) = true)
    {f22 : Addr} {oc22 kV22 dc22 pm22 cd22 ct22 : Value} {od22 an22 : Option Addr} {sl22 : Array (Option Value)}
    (a22 : PySem.W.nsIn K mainGlobals "_law_try" = some (some (.ref f22)))
    (l22 : K.lookup f22 = some ⟨oc22, od22, .func (PySem.W.fnOf "_law_try" "_law_try" (defArgs s_law_try) (defBody s_law_try) (defScope s_law_try) .none kV22 dc22 pm22 an22 cd22 ct22), sl22⟩)
    (c22 : PySem.W.codeIn K cd22 "_law_try" = true)
    (k22 : PySem.W.keepIn K (.ref f22) = true)
    {cL PL : Addr} {ddL : Option Addr} {vsL : Array Value} {slL : Array (Option Value)}
    {f23 : Addr} {oc23 kV23 dc23 pm23 ct23 : Value} {od23 an23 : Option Addr} {sl23 : Array (Option Value)}
    (a23 : PySem.W.nsIn K mainGlobals "law" = some (some (.ref f23)))
    (l23 : K.lookup f23 = some ⟨oc23, od23, .func (PySem.W.fnOf "law" "law" (defArgs s_law) (defBody s_law) (defScope s_law) .none kV23 dc23 pm23 an23 (.ref cL) ct23), sl23⟩)
    (c23 : PySem.W.codeIn K (.ref cL) "law" = true)
    (k23 : PySem.W.keepIn K (.ref f23) = true)
    (lcL : K.lookup cL = some ⟨.type "code", ddL, .fields vsL, slL⟩)
    (vL : vsL[11]? = some (.ref PL))
    (bL : hdB vsL cL PL = true)
    (nL : (K.lookup PL).isNone = true)
    {T1 T2 : Addr}
    (aT1 : PySem.W.nsIn K mainGlobals "TurnError" = some (some (.ref T1)))
    (eT1 : PySem.W.subIn K (.ref T1) (.type "BaseException") = some true)
    (iT1 : PySem.W.isClsIn K T1 = true)
    (yT1 : PySem.W.typeIn K (.ref T1) = some (.type "type"))
    (aT2 : PySem.W.nsIn K mainGlobals "TurnMissing" = some (some (.ref T2)))
    (eT2 : PySem.W.subIn K (.ref T2) (.type "BaseException") = some true)
    (iT2 : PySem.W.isClsIn K T2 = true)
    (yT2 : PySem.W.typeIn K (.ref T2) = some (.type "type"))
    {C_BadStep F_BadStep : Addr} {nm_BadStep qc_BadStep : Str} {N_BadStep : Addr} {bs_BadStep : List Value} {sn_BadStep : List Str} {sub_BadStep : List Value} {ab_BadStep : Bool} {col_BadStep : Option Bool} {dd_BadStep : Option Addr} {m0_BadStep m1_BadStep m2_BadStep m3_BadStep m5_BadStep : Option Value} {oc_BadStep : Value} {od_BadStep an_BadStep : Option Addr} {osl_BadStep : Array (Option Value)} {kV_BadStep doc_BadStep pm_BadStep cdv_BadStep ct_BadStep : Value}
    (a_BadStep : PySem.W.nsIn K mainGlobals "BadStep" = some (some (.ref C_BadStep)))
    (xL_BadStep : K.lookup C_BadStep = some (excClassObj nm_BadStep qc_BadStep C_BadStep N_BadStep bs_BadStep [.ref T1, .type "ValueError", .type "Exception", .type "BaseException", .type "object"] true sn_BadStep sub_BadStep ab_BadStep col_BadStep dd_BadStep m0_BadStep m1_BadStep m2_BadStep m3_BadStep m5_BadStep "ValueError.__new__"))
    (sa_BadStep : PySem.W.findIn K (.ref C_BadStep) "__setattr__" = some (some (.builtin "object.__setattr__")))
    (ga_BadStep : PySem.W.findIn K (.ref C_BadStep) "__getattribute__" = some (some (.builtin "BaseException.__getattribute__")))
    (gg_BadStep : PySem.W.findIn K (.ref C_BadStep) "__getattr__" = some none)
    (nw_BadStep : PySem.W.findIn K (.ref C_BadStep) "word" = some none)
    (nf_BadStep : PySem.W.findIn K (.ref C_BadStep) "at" = some none)
    (ini_BadStep : PySem.W.findIn K (.ref C_BadStep) "__init__" = some (some (.ref F_BadStep)))
    (ty_BadStep : PySem.W.typeIn K (.ref F_BadStep) = some (.type "function"))
    (l_BadStep : K.lookup F_BadStep = some ⟨oc_BadStep, od_BadStep, .func (PySem.W.fnOf "__init__" "BadStep.__init__" (defArgs s_ini_BadStep) (defBody s_ini_BadStep) (defScope s_ini_BadStep) .none kV_BadStep doc_BadStep pm_BadStep an_BadStep cdv_BadStep ct_BadStep), osl_BadStep⟩)
    (cd_BadStep : PySem.W.codeIn K cdv_BadStep "BadStep.__init__" = true)
    (kF_BadStep : PySem.W.keepIn K (.ref F_BadStep) = true)
    (kC_BadStep : PySem.W.keepIn K (.ref C_BadStep) = true)
    (eC_BadStep : PySem.W.subIn K (.ref C_BadStep) (.type "BaseException") = some true)
    (tC_BadStep : PySem.W.typeIn K (.ref C_BadStep) = some (.type "type"))
    (hC_BadStep : PySem.W.hasDictIn K C_BadStep = true)
    (s1_BadStep : PySem.W.subIn K (.ref C_BadStep) (.ref T1) = some true)
    (s2_BadStep : PySem.W.subIn K (.ref C_BadStep) (.ref T2) = some false)
    {C_TooLarge F_TooLarge : Addr} {nm_TooLarge qc_TooLarge : Str} {N_TooLarge : Addr} {bs_TooLarge : List Value} {sn_TooLarge : List Str} {sub_TooLarge : List Value} {ab_TooLarge : Bool} {col_TooLarge : Option Bool} {dd_TooLarge : Option Addr} {m0_TooLarge m1_TooLarge m2_TooLarge m3_TooLarge m5_TooLarge : Option Value} {oc_TooLarge : Value} {od_TooLarge an_TooLarge : Option Addr} {osl_TooLarge : Array (Option Value)} {kV_TooLarge doc_TooLarge pm_TooLarge cdv_TooLarge ct_TooLarge : Value}
    (a_TooLarge : PySem.W.nsIn K mainGlobals "TooLarge" = some (some (.ref C_TooLarge)))
    (xL_TooLarge : K.lookup C_TooLarge = some (excClassObj nm_TooLarge qc_TooLarge C_TooLarge N_TooLarge bs_TooLarge [.ref T1, .type "ValueError", .type "Exception", .type "BaseException", .type "object"] true sn_TooLarge sub_TooLarge ab_TooLarge col_TooLarge dd_TooLarge m0_TooLarge m1_TooLarge m2_TooLarge m3_TooLarge m5_TooLarge "ValueError.__new__"))
    (sa_TooLarge : PySem.W.findIn K (.ref C_TooLarge) "__setattr__" = some (some (.builtin "object.__setattr__")))
    (ga_TooLarge : PySem.W.findIn K (.ref C_TooLarge) "__getattribute__" = some (some (.builtin "BaseException.__getattribute__")))
    (gg_TooLarge : PySem.W.findIn K (.ref C_TooLarge) "__getattr__" = some none)
    (nw_TooLarge : PySem.W.findIn K (.ref C_TooLarge) "word" = some none)
    (nf_TooLarge : PySem.W.findIn K (.ref C_TooLarge) "most" = some none)
    (ini_TooLarge : PySem.W.findIn K (.ref C_TooLarge) "__init__" = some (some (.ref F_TooLarge)))
    (ty_TooLarge : PySem.W.typeIn K (.ref F_TooLarge) = some (.type "function"))
    (l_TooLarge : K.lookup F_TooLarge = some ⟨oc_TooLarge, od_TooLarge, .func (PySem.W.fnOf "__init__" "TooLarge.__init__" (defArgs s_ini_TooLarge) (defBody s_ini_TooLarge) (defScope s_ini_TooLarge) .none kV_TooLarge doc_TooLarge pm_TooLarge an_TooLarge cdv_TooLarge ct_TooLarge), osl_TooLarge⟩)
    (cd_TooLarge : PySem.W.codeIn K cdv_TooLarge "TooLarge.__init__" = true)
    (kF_TooLarge : PySem.W.keepIn K (.ref F_TooLarge) = true)
    (kC_TooLarge : PySem.W.keepIn K (.ref C_TooLarge) = true)
    (eC_TooLarge : PySem.W.subIn K (.ref C_TooLarge) (.type "BaseException") = some true)
    (tC_TooLarge : PySem.W.typeIn K (.ref C_TooLarge) = some (.type "type"))
    (hC_TooLarge : PySem.W.hasDictIn K C_TooLarge = true)
    (s1_TooLarge : PySem.W.subIn K (.ref C_TooLarge) (.ref T1) = some true)
    (s2_TooLarge : PySem.W.subIn K (.ref C_TooLarge) (.ref T2) = some false)
    (ic_BadStep : PySem.W.isClsIn K C_BadStep = true)
    (sb_BadStep_BadStep : PySem.W.subIn K (.ref C_BadStep) (.ref C_BadStep) = some true)
    (sb_TooLarge_BadStep : PySem.W.subIn K (.ref C_TooLarge) (.ref C_BadStep) = some false)
    (z_all : PySem.W.nsIn K mainGlobals "all" = some none)
    (z_enumerate : PySem.W.nsIn K mainGlobals "enumerate" = some none)
    (z_int : PySem.W.nsIn K mainGlobals "int" = some none)
    (z_isinstance : PySem.W.nsIn K mainGlobals "isinstance" = some none)
    (z_len : PySem.W.nsIn K mainGlobals "len" = some none)
    (z_list : PySem.W.nsIn K mainGlobals "list" = some none)
    (z_max : PySem.W.nsIn K mainGlobals "max" = some none)
    (z_min : PySem.W.nsIn K mainGlobals "min" = some none)
    (z_range : PySem.W.nsIn K mainGlobals "range" = some none)
    (z_str : PySem.W.nsIn K mainGlobals "str" = some none)
    (z_sum : PySem.W.nsIn K mainGlobals "sum" = some none)
    (z_tuple : PySem.W.nsIn K mainGlobals "tuple" = some none)
    {v_MOST_ENDS : Value}
    (y_MOST_ENDS : PySem.W.nsIn K mainGlobals "MOST_ENDS" = some (some v_MOST_ENDS))
    (r_MOST_ENDS : RelV (.int 400) v_MOST_ENDS)
    {v_MOST_LEVELS : Value}
    (y_MOST_LEVELS : PySem.W.nsIn K mainGlobals "MOST_LEVELS" = some (some v_MOST_LEVELS))
    (r_MOST_LEVELS : RelV (.int 40) v_MOST_LEVELS)
    {D_COUNTS ep_COUNTS : Addr} {t0_COUNTS u0_COUNTS t1_COUNTS u1_COUNTS t2_COUNTS u2_COUNTS t3_COUNTS u3_COUNTS : Tok}
    (aD_COUNTS : PySem.W.nsIn K mainGlobals "COUNTS" = some (some (.ref D_COUNTS)))
    (lD_COUNTS : K.lookup D_COUNTS = some ⟨.type "dict", none, .dict #[{ hash := PyData.keyHash w.params "flatten", key := .str "flatten" t0_COUNTS, val := .int 2 u0_COUNTS }, { hash := PyData.keyHash w.params "unflatten", key := .str "unflatten" t1_COUNTS, val := .int 3 u1_COUNTS }, { hash := PyData.keyHash w.params "gather", key := .str "gather" t2_COUNTS, val := .int 2 u2_COUNTS }, { hash := PyData.keyHash w.params "spread", key := .str "spread" t3_COUNTS, val := .int 3 u3_COUNTS }] ep_COUNTS, #[]⟩)
    (sD_COUNTS : (D_COUNTS == sysModules) = false) : Top K mg (.ref T1) (.ref T2) cL PL w where
  t_count_ends := at_mk X G a0 l0 c0 k0
  t_levels := at_mk X G a1 l1 c1 k1
  t_within := at_mk X G a2 l2 c2 k2
  t_part_at := at_mk X G a3 l3 c3 k3
  t_flattened := at_mk X G a4 l4 c4 k4
  t_unflattened := at_mk X G a5 l5 c5 k5
  t_changed := at_mk X G a6 l6 c6 k6
  t_put_part := at_mk X G a7 l7 c7 k7
  t_read_step := at_mk X G a8 l8 c8 k8
  t_apply_step := at_mk X G a9 l9 c9 k9
  t_apply_steps := at_mk X G a10 l10 c10 k10
  t_back_step := at_mk X G a11 l11 c11 k11
  t_undoing := at_mk X G a12 l12 c12 k12
  t_law_bag := at_mk X G a13 l13 c13 k13
  t_law_pull := at_mk X G a14 l14 c14 k14
  t_law_of := at_mk X G a15 l15 c15 k15
  t_law_names := at_mk X G a16 l16 c16 k16
  t_law_owners := at_mk X G a17 l17 c17 k17
  t_law_tree := at_mk X G a18 l18 c18 k18
  t_law_drawn := at_mk X G a19 l19 c19 k19
  t_law_paths := at_mk X G a20 l20 c20 k20
  t_law_field := at_mk X G a21 l21 c21 k21
  t_law_try := at_mk X G a22 l22 c22 k22
  t_law := atC_mk X G a23 l23 c23 k23
  hdL := codeHd_mk lcL bL
  noL := no_mk nL
  n_TurnError := PySem.W.mg_of X G aT1
  n_TurnMissing := PySem.W.mg_of X G aT2
  x_BadStep := xok1_mk X G LW.ini_BadStep a_BadStep (xat_mk xL_BadStep rfl sa_BadStep eC_BadStep tC_BadStep kC_BadStep ini_BadStep ty_BadStep) nw_BadStep nf_BadStep l_BadStep cd_BadStep kF_BadStep
  e_BadStep := err_mk X G a_BadStep (exm_mk rfl eT1 iT1 yT1 s1_BadStep eT2 iT2 yT2 s2_BadStep) ga_BadStep gg_BadStep eC_BadStep hC_BadStep nw_BadStep (fun _ h => by cases h; exact nf_BadStep)
  x_TooLarge := xok1_mk X G LW.ini_TooLarge a_TooLarge (xat_mk xL_TooLarge rfl sa_TooLarge eC_TooLarge tC_TooLarge kC_TooLarge ini_TooLarge ty_TooLarge) nw_TooLarge nf_TooLarge l_TooLarge cd_TooLarge kF_TooLarge
  e_TooLarge := err_mk X G a_TooLarge (exm_mk rfl eT1 iT1 yT1 s1_TooLarge eT2 iT2 yT2 s2_TooLarge) ga_TooLarge gg_TooLarge eC_TooLarge hC_TooLarge nw_TooLarge (fun _ h => by cases h; exact nf_TooLarge)
  h_BadStep := xokh1_mk X G LW.ini_BadStep a_BadStep (xat_mk xL_BadStep rfl sa_BadStep eC_BadStep tC_BadStep kC_BadStep ini_BadStep ty_BadStep) nw_BadStep nf_BadStep l_BadStep cd_BadStep kF_BadStep
  q_BadStep_BadStep := exq_mk X G a_BadStep a_BadStep eC_BadStep ic_BadStep tC_BadStep sb_BadStep_BadStep
  q_TooLarge_BadStep := exq_mk X G a_TooLarge a_BadStep eC_BadStep ic_BadStep tC_BadStep sb_TooLarge_BadStep
  n_all := PySem.W.mg_none_of X G z_all
  n_enumerate := PySem.W.mg_none_of X G z_enumerate
  n_int := PySem.W.mg_none_of X G z_int
  n_isinstance := PySem.W.mg_none_of X G z_isinstance
  n_len := PySem.W.mg_none_of X G z_len
  n_list := PySem.W.mg_none_of X G z_list
  n_max := PySem.W.mg_none_of X G z_max
  n_min := PySem.W.mg_none_of X G z_min
  n_range := PySem.W.mg_none_of X G z_range
  n_str := PySem.W.mg_none_of X G z_str
  n_sum := PySem.W.mg_none_of X G z_sum
  n_tuple := PySem.W.mg_none_of X G z_tuple
  c_MOST_ENDS := ⟨_, PySem.W.mg_of X G y_MOST_ENDS, r_MOST_ENDS⟩
  c_MOST_LEVELS := ⟨_, PySem.W.mg_of X G y_MOST_LEVELS, r_MOST_LEVELS⟩
  d_COUNTS := ⟨D_COUNTS, ep_COUNTS, [("flatten", t0_COUNTS, 2, u0_COUNTS), ("unflatten", t1_COUNTS, 3, u1_COUNTS), ("gather", t2_COUNTS, 2, u2_COUNTS), ("spread", t3_COUNTS, 3, u3_COUNTS)], PySem.W.mg_of X G aD_COUNTS, lD_COUNTS, sD_COUNTS, rfl, by decide⟩
theorem top_use {R : Prop} {w : World} {K : PySem.W.Frag} {mg : Str → Option Value} {h : Heap} (X : K.In h) (G : h.Ns mainGlobals mg)
    {f0 : Addr} {oc0 kV0 dc0 pm0 cd0 ct0 : Value} {od0 an0 : Option Addr} {sl0 : Array (Option Value)}
    (a0 : PySem.W.nsIn K mainGlobals "count_ends" = some (some (.ref f0)))
    (l0 : K.lookup f0 = some ⟨oc0, od0, .func (PySem.W.fnOf "count_ends" "count_ends" (defArgs s_count_ends) (defBody s_count_ends) (defScope s_count_ends) .none kV0 dc0 pm0 an0 cd0 ct0), sl0⟩)
    (c0 : PySem.W.codeIn K cd0 "count_ends" = true)
    (k0 : PySem.W.keepIn K (.ref f0) = true)
    {f1 : Addr} {oc1 kV1 dc1 pm1 cd1 ct1 : Value} {od1 an1 : Option Addr} {sl1 : Array (Option Value)}
    (a1 : PySem.W.nsIn K mainGlobals "levels" = some (some (.ref f1)))
    (l1 : K.lookup f1 = some ⟨oc1, od1, .func (PySem.W.fnOf "levels" "levels" (defArgs s_levels) (defBody s_levels) (defScope s_levels) .none kV1 dc1 pm1 an1 cd1 ct1), sl1⟩)
    (c1 : PySem.W.codeIn K cd1 "levels" = true)
    (k1 : PySem.W.keepIn K (.ref f1) = true)
    {f2 : Addr} {oc2 kV2 dc2 pm2 cd2 ct2 : Value} {od2 an2 : Option Addr} {sl2 : Array (Option Value)}
    (a2 : PySem.W.nsIn K mainGlobals "within" = some (some (.ref f2)))
    (l2 : K.lookup f2 = some ⟨oc2, od2, .func (PySem.W.fnOf "within" "within" (defArgs s_within) (defBody s_within) (defScope s_within) .none kV2 dc2 pm2 an2 cd2 ct2), sl2⟩)
    (c2 : PySem.W.codeIn K cd2 "within" = true)
    (k2 : PySem.W.keepIn K (.ref f2) = true)
    {f3 : Addr} {oc3 kV3 dc3 pm3 cd3 ct3 : Value} {od3 an3 : Option Addr} {sl3 : Array (Option Value)}
    (a3 : PySem.W.nsIn K mainGlobals "part_at" = some (some (.ref f3)))
    (l3 : K.lookup f3 = some ⟨oc3, od3, .func (PySem.W.fnOf "part_at" "part_at" (defArgs s_part_at) (defBody s_part_at) (defScope s_part_at) .none kV3 dc3 pm3 an3 cd3 ct3), sl3⟩)
    (c3 : PySem.W.codeIn K cd3 "part_at" = true)
    (k3 : PySem.W.keepIn K (.ref f3) = true)
    {f4 : Addr} {oc4 kV4 dc4 pm4 cd4 ct4 : Value} {od4 an4 : Option Addr} {sl4 : Array (Option Value)}
    (a4 : PySem.W.nsIn K mainGlobals "flattened" = some (some (.ref f4)))
    (l4 : K.lookup f4 = some ⟨oc4, od4, .func (PySem.W.fnOf "flattened" "flattened" (defArgs s_flattened) (defBody s_flattened) (defScope s_flattened) .none kV4 dc4 pm4 an4 cd4 ct4), sl4⟩)
    (c4 : PySem.W.codeIn K cd4 "flattened" = true)
    (k4 : PySem.W.keepIn K (.ref f4) = true)
    {f5 : Addr} {oc5 kV5 dc5 pm5 cd5 ct5 : Value} {od5 an5 : Option Addr} {sl5 : Array (Option Value)}
    (a5 : PySem.W.nsIn K mainGlobals "unflattened" = some (some (.ref f5)))
    (l5 : K.lookup f5 = some ⟨oc5, od5, .func (PySem.W.fnOf "unflattened" "unflattened" (defArgs s_unflattened) (defBody s_unflattened) (defScope s_unflattened) .none kV5 dc5 pm5 an5 cd5 ct5), sl5⟩)
    (c5 : PySem.W.codeIn K cd5 "unflattened" = true)
    (k5 : PySem.W.keepIn K (.ref f5) = true)
    {f6 : Addr} {oc6 kV6 dc6 pm6 cd6 ct6 : Value} {od6 an6 : Option Addr} {sl6 : Array (Option Value)}
    (a6 : PySem.W.nsIn K mainGlobals "changed" = some (some (.ref f6)))
    (l6 : K.lookup f6 = some ⟨oc6, od6, .func (PySem.W.fnOf "changed" "changed" (defArgs s_changed) (defBody s_changed) (defScope s_changed) .none kV6 dc6 pm6 an6 cd6 ct6), sl6⟩)
    (c6 : PySem.W.codeIn K cd6 "changed" = true)
    (k6 : PySem.W.keepIn K (.ref f6) = true)
    {f7 : Addr} {oc7 kV7 dc7 pm7 cd7 ct7 : Value} {od7 an7 : Option Addr} {sl7 : Array (Option Value)}
    (a7 : PySem.W.nsIn K mainGlobals "put_part" = some (some (.ref f7)))
    (l7 : K.lookup f7 = some ⟨oc7, od7, .func (PySem.W.fnOf "put_part" "put_part" (defArgs s_put_part) (defBody s_put_part) (defScope s_put_part) .none kV7 dc7 pm7 an7 cd7 ct7), sl7⟩)
    (c7 : PySem.W.codeIn K cd7 "put_part" = true)
    (k7 : PySem.W.keepIn K (.ref f7) = true)
    {f8 : Addr} {oc8 kV8 dc8 pm8 cd8 ct8 : Value} {od8 an8 : Option Addr} {sl8 : Array (Option Value)}
    (a8 : PySem.W.nsIn K mainGlobals "read_step" = some (some (.ref f8)))
    (l8 : K.lookup f8 = some ⟨oc8, od8, .func (PySem.W.fnOf "read_step" "read_step" (defArgs s_read_step) (defBody s_read_step) (defScope s_read_step) .none kV8 dc8 pm8 an8 cd8 ct8), sl8⟩)
    (c8 : PySem.W.codeIn K cd8 "read_step" = true)
    (k8 : PySem.W.keepIn K (.ref f8) = true)
    {f9 : Addr} {oc9 kV9 dc9 pm9 cd9 ct9 : Value} {od9 an9 : Option Addr} {sl9 : Array (Option Value)}
    (a9 : PySem.W.nsIn K mainGlobals "apply_step" = some (some (.ref f9)))
    (l9 : K.lookup f9 = some ⟨oc9, od9, .func (PySem.W.fnOf "apply_step" "apply_step" (defArgs s_apply_step) (defBody s_apply_step) (defScope s_apply_step) .none kV9 dc9 pm9 an9 cd9 ct9), sl9⟩)
    (c9 : PySem.W.codeIn K cd9 "apply_step" = true)
    (k9 : PySem.W.keepIn K (.ref f9) = true)
    {f10 : Addr} {oc10 kV10 dc10 pm10 cd10 ct10 : Value} {od10 an10 : Option Addr} {sl10 : Array (Option Value)}
    (a10 : PySem.W.nsIn K mainGlobals "apply_steps" = some (some (.ref f10)))
    (l10 : K.lookup f10 = some ⟨oc10, od10, .func (PySem.W.fnOf "apply_steps" "apply_steps" (defArgs s_apply_steps) (defBody s_apply_steps) (defScope s_apply_steps) .none kV10 dc10 pm10 an10 cd10 ct10), sl10⟩)
    (c10 : PySem.W.codeIn K cd10 "apply_steps" = true)
    (k10 : PySem.W.keepIn K (.ref f10) = true)
    {f11 : Addr} {oc11 kV11 dc11 pm11 cd11 ct11 : Value} {od11 an11 : Option Addr} {sl11 : Array (Option Value)}
    (a11 : PySem.W.nsIn K mainGlobals "back_step" = some (some (.ref f11)))
    (l11 : K.lookup f11 = some ⟨oc11, od11, .func (PySem.W.fnOf "back_step" "back_step" (defArgs s_back_step) (defBody s_back_step) (defScope s_back_step) .none kV11 dc11 pm11 an11 cd11 ct11), sl11⟩)
    (c11 : PySem.W.codeIn K cd11 "back_step" = true)
    (k11 : PySem.W.keepIn K (.ref f11) = true)
    {f12 : Addr} {oc12 kV12 dc12 pm12 cd12 ct12 : Value} {od12 an12 : Option Addr} {sl12 : Array (Option Value)}
    (a12 : PySem.W.nsIn K mainGlobals "undoing" = some (some (.ref f12)))
    (l12 : K.lookup f12 = some ⟨oc12, od12, .func (PySem.W.fnOf "undoing" "undoing" (defArgs s_undoing) (defBody s_undoing) (defScope s_undoing) .none kV12 dc12 pm12 an12 cd12 ct12), sl12⟩)
    (c12 : PySem.W.codeIn K cd12 "undoing" = true)
    (k12 : PySem.W.keepIn K (.ref f12) = true)
    {f13 : Addr} {oc13 kV13 dc13 pm13 cd13 ct13 : Value} {od13 an13 : Option Addr} {sl13 : Array (Option Value)}
    (a13 : PySem.W.nsIn K mainGlobals "_law_bag" = some (some (.ref f13)))
    (l13 : K.lookup f13 = some ⟨oc13, od13, .func (PySem.W.fnOf "_law_bag" "_law_bag" (defArgs s_law_bag) (defBody s_law_bag) (defScope s_law_bag) .none kV13 dc13 pm13 an13 cd13 ct13), sl13⟩)
    (c13 : PySem.W.codeIn K cd13 "_law_bag" = true)
    (k13 : PySem.W.keepIn K (.ref f13) = true)
    {f14 : Addr} {oc14 kV14 dc14 pm14 cd14 ct14 : Value} {od14 an14 : Option Addr} {sl14 : Array (Option Value)}
    (a14 : PySem.W.nsIn K mainGlobals "_law_pull" = some (some (.ref f14)))
    (l14 : K.lookup f14 = some ⟨oc14, od14, .func (PySem.W.fnOf "_law_pull" "_law_pull" (defArgs s_law_pull) (defBody s_law_pull) (defScope s_law_pull) .none kV14 dc14 pm14 an14 cd14 ct14), sl14⟩)
    (c14 : PySem.W.codeIn K cd14 "_law_pull" = true)
    (k14 : PySem.W.keepIn K (.ref f14) = true)
    {f15 : Addr} {oc15 kV15 dc15 pm15 cd15 ct15 : Value} {od15 an15 : Option Addr} {sl15 : Array (Option Value)}
    (a15 : PySem.W.nsIn K mainGlobals "_law_of" = some (some (.ref f15)))
    (l15 : K.lookup f15 = some ⟨oc15, od15, .func (PySem.W.fnOf "_law_of" "_law_of" (defArgs s_law_of) (defBody s_law_of) (defScope s_law_of) .none kV15 dc15 pm15 an15 cd15 ct15), sl15⟩)
    (c15 : PySem.W.codeIn K cd15 "_law_of" = true)
    (k15 : PySem.W.keepIn K (.ref f15) = true)
    {f16 : Addr} {oc16 kV16 dc16 pm16 cd16 ct16 : Value} {od16 an16 : Option Addr} {sl16 : Array (Option Value)}
    (a16 : PySem.W.nsIn K mainGlobals "_law_names" = some (some (.ref f16)))
    (l16 : K.lookup f16 = some ⟨oc16, od16, .func (PySem.W.fnOf "_law_names" "_law_names" (defArgs s_law_names) (defBody s_law_names) (defScope s_law_names) .none kV16 dc16 pm16 an16 cd16 ct16), sl16⟩)
    (c16 : PySem.W.codeIn K cd16 "_law_names" = true)
    (k16 : PySem.W.keepIn K (.ref f16) = true)
    {f17 : Addr} {oc17 kV17 dc17 pm17 cd17 ct17 : Value} {od17 an17 : Option Addr} {sl17 : Array (Option Value)}
    (a17 : PySem.W.nsIn K mainGlobals "_law_owners" = some (some (.ref f17)))
    (l17 : K.lookup f17 = some ⟨oc17, od17, .func (PySem.W.fnOf "_law_owners" "_law_owners" (defArgs s_law_owners) (defBody s_law_owners) (defScope s_law_owners) .none kV17 dc17 pm17 an17 cd17 ct17), sl17⟩)
    (c17 : PySem.W.codeIn K cd17 "_law_owners" = true)
    (k17 : PySem.W.keepIn K (.ref f17) = true)
    {f18 : Addr} {oc18 kV18 dc18 pm18 cd18 ct18 : Value} {od18 an18 : Option Addr} {sl18 : Array (Option Value)}
    (a18 : PySem.W.nsIn K mainGlobals "_law_tree" = some (some (.ref f18)))
    (l18 : K.lookup f18 = some ⟨oc18, od18, .func (PySem.W.fnOf "_law_tree" "_law_tree" (defArgs s_law_tree) (defBody s_law_tree) (defScope s_law_tree) .none kV18 dc18 pm18 an18 cd18 ct18), sl18⟩)
    (c18 : PySem.W.codeIn K cd18 "_law_tree" = true)
    (k18 : PySem.W.keepIn K (.ref f18) = true)
    {f19 : Addr} {oc19 kV19 dc19 pm19 cd19 ct19 : Value} {od19 an19 : Option Addr} {sl19 : Array (Option Value)}
    (a19 : PySem.W.nsIn K mainGlobals "_law_drawn" = some (some (.ref f19)))
    (l19 : K.lookup f19 = some ⟨oc19, od19, .func (PySem.W.fnOf "_law_drawn" "_law_drawn" (defArgs s_law_drawn) (defBody s_law_drawn) (defScope s_law_drawn) .none kV19 dc19 pm19 an19 cd19 ct19), sl19⟩)
    (c19 : PySem.W.codeIn K cd19 "_law_drawn" = true)
    (k19 : PySem.W.keepIn K (.ref f19) = true)
    {f20 : Addr} {oc20 kV20 dc20 pm20 cd20 ct20 : Value} {od20 an20 : Option Addr} {sl20 : Array (Option Value)}
    (a20 : PySem.W.nsIn K mainGlobals "_law_paths" = some (some (.ref f20)))
    (l20 : K.lookup f20 = some ⟨oc20, od20, .func (PySem.W.fnOf "_law_paths" "_law_paths" (defArgs s_law_paths) (defBody s_law_paths) (defScope s_law_paths) .none kV20 dc20 pm20 an20 cd20 ct20), sl20⟩)
    (c20 : PySem.W.codeIn K cd20 "_law_paths" = true)
    (k20 : PySem.W.keepIn K (.ref f20) = true)
    {f21 : Addr} {oc21 kV21 dc21 pm21 cd21 ct21 : Value} {od21 an21 : Option Addr} {sl21 : Array (Option Value)}
    (a21 : PySem.W.nsIn K mainGlobals "_law_field" = some (some (.ref f21)))
    (l21 : K.lookup f21 = some ⟨oc21, od21, .func (PySem.W.fnOf "_law_field" "_law_field" (defArgs s_law_field) (defBody s_law_field) (defScope s_law_field) .none kV21 dc21 pm21 an21 cd21 ct21), sl21⟩)
    (c21 : PySem.W.codeIn K cd21 "_law_field" = true)
    (k21 : PySem.W.keepIn K (.ref f21) = true)
    {f22 : Addr} {oc22 kV22 dc22 pm22 cd22 ct22 : Value} {od22 an22 : Option Addr} {sl22 : Array (Option Value)}
    (a22 : PySem.W.nsIn K mainGlobals "_law_try" = some (some (.ref f22)))
    (l22 : K.lookup f22 = some ⟨oc22, od22, .func (PySem.W.fnOf "_law_try" "_law_try" (defArgs s_law_try) (defBody s_law_try) (defScope s_law_try) .none kV22 dc22 pm22 an22 cd22 ct22), sl22⟩)
    (c22 : PySem.W.codeIn K cd22 "_law_try" = true)
    (k22 : PySem.W.keepIn K (.ref f22) = true)
    {cL PL : Addr} {ddL : Option Addr} {vsL : Array Value} {slL : Array (Option Value)}
    {f23 : Addr} {oc23 kV23 dc23 pm23 ct23 : Value} {od23 an23 : Option Addr} {sl23 : Array (Option Value)}
    (a23 : PySem.W.nsIn K mainGlobals "law" = some (some (.ref f23)))
    (l23 : K.lookup f23 = some ⟨oc23, od23, .func (PySem.W.fnOf "law" "law" (defArgs s_law) (defBody s_law) (defScope s_law) .none kV23 dc23 pm23 an23 (.ref cL) ct23), sl23⟩)
    (c23 : PySem.W.codeIn K (.ref cL) "law" = true)
    (k23 : PySem.W.keepIn K (.ref f23) = true)
    (lcL : K.lookup cL = some ⟨.type "code", ddL, .fields vsL, slL⟩)
    (vL : vsL[11]? = some (.ref PL))
    (bL : hdB vsL cL PL = true)
    (nL : (K.lookup PL).isNone = true)
    {T1 T2 : Addr}
    (aT1 : PySem.W.nsIn K mainGlobals "TurnError" = some (some (.ref T1)))
    (eT1 : PySem.W.subIn K (.ref T1) (.type "BaseException") = some true)
    (iT1 : PySem.W.isClsIn K T1 = true)
    (yT1 : PySem.W.typeIn K (.ref T1) = some (.type "type"))
    (aT2 : PySem.W.nsIn K mainGlobals "TurnMissing" = some (some (.ref T2)))
    (eT2 : PySem.W.subIn K (.ref T2) (.type "BaseException") = some true)
    (iT2 : PySem.W.isClsIn K T2 = true)
    (yT2 : PySem.W.typeIn K (.ref T2) = some (.type "type"))
    {C_BadStep F_BadStep : Addr} {nm_BadStep qc_BadStep : Str} {N_BadStep : Addr} {bs_BadStep : List Value} {sn_BadStep : List Str} {sub_BadStep : List Value} {ab_BadStep : Bool} {col_BadStep : Option Bool} {dd_BadStep : Option Addr} {m0_BadStep m1_BadStep m2_BadStep m3_BadStep m5_BadStep : Option Value} {oc_BadStep : Value} {od_BadStep an_BadStep : Option Addr} {osl_BadStep : Array (Option Value)} {kV_BadStep doc_BadStep pm_BadStep cdv_BadStep ct_BadStep : Value}
    (a_BadStep : PySem.W.nsIn K mainGlobals "BadStep" = some (some (.ref C_BadStep)))
    (xL_BadStep : K.lookup C_BadStep = some (excClassObj nm_BadStep qc_BadStep C_BadStep N_BadStep bs_BadStep [.ref T1, .type "ValueError", .type "Exception", .type "BaseException", .type "object"] true sn_BadStep sub_BadStep ab_BadStep col_BadStep dd_BadStep m0_BadStep m1_BadStep m2_BadStep m3_BadStep m5_BadStep "ValueError.__new__"))
    (sa_BadStep : PySem.W.findIn K (.ref C_BadStep) "__setattr__" = some (some (.builtin "object.__setattr__")))
    (ga_BadStep : PySem.W.findIn K (.ref C_BadStep) "__getattribute__" = some (some (.builtin "BaseException.__getattribute__")))
    (gg_BadStep : PySem.W.findIn K (.ref C_BadStep) "__getattr__" = some none)
    (nw_BadStep : PySem.W.findIn K (.ref C_BadStep) "word" = some none)
    (nf_BadStep : PySem.W.findIn K (.ref C_BadStep) "at" = some none)
    (ini_BadStep : PySem.W.findIn K (.ref C_BadStep) "__init__" = some (some (.ref F_BadStep)))
    (ty_BadStep : PySem.W.typeIn K (.ref F_BadStep) = some (.type "function"))
    (l_BadStep : K.lookup F_BadStep = some ⟨oc_BadStep, od_BadStep, .func (PySem.W.fnOf "__init__" "BadStep.__init__" (defArgs s_ini_BadStep) (defBody s_ini_BadStep) (defScope s_ini_BadStep) .none kV_BadStep doc_BadStep pm_BadStep an_BadStep cdv_BadStep ct_BadStep), osl_BadStep⟩)
    (cd_BadStep : PySem.W.codeIn K cdv_BadStep "BadStep.__init__" = true)
    (kF_BadStep : PySem.W.keepIn K (.ref F_BadStep) = true)
    (kC_BadStep : PySem.W.keepIn K (.ref C_BadStep) = true)
    (eC_BadStep : PySem.W.subIn K (.ref C_BadStep) (.type "BaseException") = some true)
    (tC_BadStep : PySem.W.typeIn K (.ref C_BadStep) = some (.type "type"))
    (hC_BadStep : PySem.W.hasDictIn K C_BadStep = true)
    (s1_BadStep : PySem.W.subIn K (.ref C_BadStep) (.ref T1) = some true)
    (s2_BadStep : PySem.W.subIn K (.ref C_BadStep) (.ref T2) = some false)
    {C_TooLarge F_TooLarge : Addr} {nm_TooLarge qc_TooLarge : Str} {N_TooLarge : Addr} {bs_TooLarge : List Value} {sn_TooLarge : List Str} {sub_TooLarge : List Value} {ab_TooLarge : Bool} {col_TooLarge : Option Bool} {dd_TooLarge : Option Addr} {m0_TooLarge m1_TooLarge m2_TooLarge m3_TooLarge m5_TooLarge : Option Value} {oc_TooLarge : Value} {od_TooLarge an_TooLarge : Option Addr} {osl_TooLarge : Array (Option Value)} {kV_TooLarge doc_TooLarge pm_TooLarge cdv_TooLarge ct_TooLarge : Value}
    (a_TooLarge : PySem.W.nsIn K mainGlobals "TooLarge" = some (some (.ref C_TooLarge)))
    (xL_TooLarge : K.lookup C_TooLarge = some (excClassObj nm_TooLarge qc_TooLarge C_TooLarge N_TooLarge bs_TooLarge [.ref T1, .type "ValueError", .type "Exception", .type "BaseException", .type "object"] true sn_TooLarge sub_TooLarge ab_TooLarge col_TooLarge dd_TooLarge m0_TooLarge m1_TooLarge m2_TooLarge m3_TooLarge m5_TooLarge "ValueError.__new__"))
    (sa_TooLarge : PySem.W.findIn K (.ref C_TooLarge) "__setattr__" = some (some (.builtin "object.__setattr__")))
    (ga_TooLarge : PySem.W.findIn K (.ref C_TooLarge) "__getattribute__" = some (some (.builtin "BaseException.__getattribute__")))
    (gg_TooLarge : PySem.W.findIn K (.ref C_TooLarge) "__getattr__" = some none)
    (nw_TooLarge : PySem.W.findIn K (.ref C_TooLarge) "word" = some none)
    (nf_TooLarge : PySem.W.findIn K (.ref C_TooLarge) "most" = some none)
    (ini_TooLarge : PySem.W.findIn K (.ref C_TooLarge) "__init__" = some (some (.ref F_TooLarge)))
    (ty_TooLarge : PySem.W.typeIn K (.ref F_TooLarge) = some (.type "function"))
    (l_TooLarge : K.lookup F_TooLarge = some ⟨oc_TooLarge, od_TooLarge, .func (PySem.W.fnOf "__init__" "TooLarge.__init__" (defArgs s_ini_TooLarge) (defBody s_ini_TooLarge) (defScope s_ini_TooLarge) .none kV_TooLarge doc_TooLarge pm_TooLarge an_TooLarge cdv_TooLarge ct_TooLarge), osl_TooLarge⟩)
    (cd_TooLarge : PySem.W.codeIn K cdv_TooLarge "TooLarge.__init__" = true)
    (kF_TooLarge : PySem.W.keepIn K (.ref F_TooLarge) = true)
    (kC_TooLarge : PySem.W.keepIn K (.ref C_TooLarge) = true)
    (eC_TooLarge : PySem.W.subIn K (.ref C_TooLarge) (.type "BaseException") = some true)
    (tC_TooLarge : PySem.W.typeIn K (.ref C_TooLarge) = some (.type "type"))
    (hC_TooLarge : PySem.W.hasDictIn K C_TooLarge = true)
    (s1_TooLarge : PySem.W.subIn K (.ref C_TooLarge) (.ref T1) = some true)
    (s2_TooLarge : PySem.W.subIn K (.ref C_TooLarge) (.ref T2) = some false)
    (ic_BadStep : PySem.W.isClsIn K C_BadStep = true)
    (sb_BadStep_BadStep : PySem.W.subIn K (.ref C_BadStep) (.ref C_BadStep) = some true)
    (sb_TooLarge_BadStep : PySem.W.subIn K (.ref C_TooLarge) (.ref C_BadStep) = some false)
    (z_all : PySem.W.nsIn K mainGlobals "all" = some none)
    (z_enumerate : PySem.W.nsIn K mainGlobals "enumerate" = some none)
    (z_int : PySem.W.nsIn K mainGlobals "int" = some none)
    (z_isinstance : PySem.W.nsIn K mainGlobals "isinstance" = some none)
    (z_len : PySem.W.nsIn K mainGlobals "len" = some none)
    (z_list : PySem.W.nsIn K mainGlobals "list" = some none)
    (z_max : PySem.W.nsIn K mainGlobals "max" = some none)
    (z_min : PySem.W.nsIn K mainGlobals "min" = some none)
    (z_range : PySem.W.nsIn K mainGlobals "range" = some none)
    (z_str : PySem.W.nsIn K mainGlobals "str" = some none)
    (z_sum : PySem.W.nsIn K mainGlobals "sum" = some none)
    (z_tuple : PySem.W.nsIn K mainGlobals "tuple" = some none)
    {v_MOST_ENDS : Value}
    (y_MOST_ENDS : PySem.W.nsIn K mainGlobals "MOST_ENDS" = some (some v_MOST_ENDS))
    (r_MOST_ENDS : RelV (.int 400) v_MOST_ENDS)
    {v_MOST_LEVELS : Value}
    (y_MOST_LEVELS : PySem.W.nsIn K mainGlobals "MOST_LEVELS" = some (some v_MOST_LEVELS))
    (r_MOST_LEVELS : RelV (.int 40) v_MOST_LEVELS)
    {D_COUNTS ep_COUNTS : Addr} {t0_COUNTS u0_COUNTS t1_COUNTS u1_COUNTS t2_COUNTS u2_COUNTS t3_COUNTS u3_COUNTS : Tok}
    (aD_COUNTS : PySem.W.nsIn K mainGlobals "COUNTS" = some (some (.ref D_COUNTS)))
    (lD_COUNTS : K.lookup D_COUNTS = some ⟨.type "dict", none, .dict #[{ hash := PyData.keyHash w.params "flatten", key := .str "flatten" t0_COUNTS, val := .int 2 u0_COUNTS }, { hash := PyData.keyHash w.params "unflatten", key := .str "unflatten" t1_COUNTS, val := .int 3 u1_COUNTS }, { hash := PyData.keyHash w.params "gather", key := .str "gather" t2_COUNTS, val := .int 2 u2_COUNTS }, { hash := PyData.keyHash w.params "spread", key := .str "spread" t3_COUNTS, val := .int 3 u3_COUNTS }] ep_COUNTS, #[]⟩)
    (sD_COUNTS : (D_COUNTS == sysModules) = false) (fin : ∀ {T1 T2 : Addr} {cL PL : Addr}, Top K mg (.ref T1) (.ref T2) cL PL w → R) : R := fin (top_mk X G a0 l0 c0 k0 a1 l1 c1 k1 a2 l2 c2 k2 a3 l3 c3 k3 a4 l4 c4 k4 a5 l5 c5 k5 a6 l6 c6 k6 a7 l7 c7 k7 a8 l8 c8 k8 a9 l9 c9 k9 a10 l10 c10 k10 a11 l11 c11 k11 a12 l12 c12 k12 a13 l13 c13 k13 a14 l14 c14 k14 a15 l15 c15 k15 a16 l16 c16 k16 a17 l17 c17 k17 a18 l18 c18 k18 a19 l19 c19 k19 a20 l20 c20 k20 a21 l21 c21 k21 a22 l22 c22 k22 a23 l23 c23 k23 lcL vL bL nL aT1 eT1 iT1 yT1 aT2 eT2 iT2 yT2 a_BadStep xL_BadStep sa_BadStep ga_BadStep gg_BadStep nw_BadStep nf_BadStep ini_BadStep ty_BadStep l_BadStep cd_BadStep kF_BadStep kC_BadStep eC_BadStep tC_BadStep hC_BadStep s1_BadStep s2_BadStep a_TooLarge xL_TooLarge sa_TooLarge ga_TooLarge gg_TooLarge nw_TooLarge nf_TooLarge ini_TooLarge ty_TooLarge l_TooLarge cd_TooLarge kF_TooLarge kC_TooLarge eC_TooLarge tC_TooLarge hC_TooLarge s1_TooLarge s2_TooLarge ic_BadStep sb_BadStep_BadStep sb_TooLarge_BadStep z_all z_enumerate z_int z_isinstance z_len z_list z_max z_min z_range z_str z_sum z_tuple y_MOST_ENDS r_MOST_ENDS y_MOST_LEVELS r_MOST_LEVELS aD_COUNTS lD_COUNTS sD_COUNTS)


section
set_option pp.maxSteps 300
variable {P : Program} {w : World} {K : PySem.W.Frag} {mg : Str → Option Value} {base : Heap}
abbrev lawLevel : Nat := 80
theorem lawRoom : Room lawLevel callerA := ⟨rfl, by decide +kernel, by decide +kernel⟩
def lawNm : Nat → Nat → Str := fun _ _ => "law.<locals>.<lambda>"
theorem ok_law {c1 c2 : Value} {cL PL : Addr} (T0 : Top K mg c1 c2 cL PL w) (TB : LamX.TabB base mg cL PL) : Ok P w K mg base "law" s_law lawLevel ["_law_script"] (spLawT PL lawNm) := by
  have T_try := try_at (P := P) (w := w) (base := base) T0.t_law_try T0.t_law_field T0.n_TurnError T0.n_TurnMissing
  have o_law_bag := ok_bag (P := P) (w := w) (base := base) T0.t_law_bag T0.n_list
  have o_law_pull := ok_pull (P := P) (w := w) (base := base) T0.t_law_pull T0.n_len
  have o_law_of := ok_of_ T0.t_law_of T0.n_len o_law_pull
  have o_law_names := ok_names T0.t_law_names T0.n_range T0.n_len o_law_pull o_law_of
  have o_law_owners := ok_owners T0.t_law_owners o_law_pull o_law_of o_law_names
  have o_law_drawn := ok_drawn T0.t_law_drawn o_law_of (fun n => ok_tree T0.t_law_tree T0.n_range T0.n_tuple o_law_pull o_law_of n)
  have o_law_paths := ok_lpaths (P := P) (w := w) (base := base) T0.t_law_paths T0.n_isinstance T0.n_tuple T0.n_range T0.n_len 50
  have o_count_ends := ok_cnt (P := P) (w := w) (base := base) T0.t_count_ends T0.n_sum T0.n_isinstance T0.n_str 50
  have o_levels := ok_lv (P := P) (w := w) (base := base) T0.t_levels T0.n_max T0.n_isinstance T0.n_str 50
  have o_within := ok_within T0.t_within T0.c_MOST_ENDS T0.c_MOST_LEVELS (T0.x_TooLarge P w base) T0.e_TooLarge o_count_ends o_levels
  have o_part_at := ok_part_at (P := P) (w := w) (base := base) T0.t_part_at T0.n_len T0.n_isinstance T0.n_str
  have o_partO := ok_partO (P := P) (w := w) (base := base) T0.t_part_at T0.n_len T0.n_isinstance T0.n_str
  have o_flattened := ok_flattened (P := P) (w := w) (base := base) T0.t_flattened T0.n_len T0.n_isinstance T0.n_str T0.n_min T0.n_max T0.n_range T0.n_tuple
  have o_unflattened := ok_unflattened (P := P) (w := w) (base := base) T0.t_unflattened T0.n_len T0.n_range T0.n_tuple
  have o_changed := ok_changed T0.t_changed T0.n_isinstance T0.n_str T0.n_tuple T0.n_all o_flattened o_unflattened
  have o_changedO := ok_changedO T0.t_changed T0.n_isinstance T0.n_str T0.n_tuple T0.n_all o_flattened (ok_unflO T0.t_unflattened T0.n_len T0.n_range T0.n_tuple)
  have o_put_part := ok_put (P := P) (w := w) (base := base) T0.t_put_part T0.n_enumerate T0.n_tuple 50
  have o_read_step := ok_read (P := P) (w := w) (base := base) T0.t_read_step T0.n_len T0.n_isinstance T0.n_tuple T0.n_int T0.d_COUNTS (T0.x_BadStep P w base)
  have on_readO := ok_readO (P := P) (w := w) (base := base) T0.t_read_step T0.n_len T0.n_isinstance T0.n_tuple T0.n_int T0.d_COUNTS (T0.x_BadStep P w base)
  have on_within := ok_withinN T0.t_within T0.c_MOST_ENDS T0.c_MOST_LEVELS (T0.x_TooLarge P w base) T0.e_TooLarge (OkN.calm o_count_ends fun _ _ _ _ h => h) (OkN.calm o_levels fun _ _ _ _ h => h)
  have on_put := OkN.calm o_put_part fun _ _ _ _ h => h
  have on_apply_step := ok_applyN T0.t_apply_step T0.n_isinstance T0.n_str (T0.x_BadStep P w base) T0.e_BadStep (OkN.calm o_read_step fun _ _ _ _ h => h) (OkN.calm o_part_at fun _ _ _ _ h => h) (OkN.calm o_changed fun _ _ _ _ h => h) on_within on_put
  have on_applyO := ok_applyOd T0.t_apply_step T0.n_isinstance T0.n_str (T0.x_BadStep P w base) T0.e_BadStep on_readO (OkN.calm (ok_any2 o_part_at o_partO) fun _ _ _ _ h => h) (OkN.calm o_changedO fun _ _ _ _ h => h) on_within on_put
  have o_apply_step := ok_applyAny (ok_apply T0.t_apply_step T0.n_isinstance T0.n_str (T0.x_BadStep P w base) T0.e_BadStep o_read_step o_part_at o_changed o_within o_put_part) on_applyO
  have o_undoing := ok_undO T0.t_undoing o_apply_step ((ok_back (P := P) (w := w) (base := base) T0.t_back_step T0.n_len o_part_at).imp fun _ _ _ _ h => h.elim)
  have o_apply_steps := ok_any2 (ok_steps T0.t_apply_steps T0.n_enumerate (T0.h_BadStep P w base) T0.e_BadStep T0.q_BadStep_BadStep T0.q_TooLarge_BadStep on_apply_step) (ok_stepsO T0.t_apply_steps T0.n_enumerate (T0.h_BadStep P w base) T0.e_BadStep T0.q_BadStep_BadStep T0.q_TooLarge_BadStep (okN_any2 on_apply_step on_applyO))
  have n_range := T0.n_range
  have n_len := T0.n_len
  have n_isinstance := T0.n_isinstance
  have n_tuple := T0.n_tuple
  refine ok_ofC T0.t_law sc_law _ rfl (fun ds M Q E ⟨n, d, h, _⟩ => by rw [h]; rfl) fun f A outer s H E hr => ⟨_, (ss_cons (s_set 1 sc_law.nd (d_call o_law_bag bd_law_bag (hr.mono (by decide)) xd_takes (a_cons (dv 0) a_nil)))
  (ss_cons (s_for xd_owns rfl (i_r1 n_range de_int) (g_name 2 sc_law.nd) (ss_cons (s_set 3 sc_law.nd (d_call o_law_owners bd_law_owners (hr.mono (by decide)) xd_takes (a_cons (dv 1) a_nil)))
  (ss_cons (s_set 4 sc_law.nd (d_call o_law_drawn bd_law_drawn (hr.mono (by decide)) xd_takes (a_cons (dv 1) (a_cons (dv 3) a_nil))))
  (ss_cons (s_asg (d_call o_law_of bd_law_of (hr.mono (by decide)) xd_takes (a_cons (dv 1) (a_cons (d_call o_law_paths bd_law_paths (hr.mono (by decide)) xd_takes (a_cons (dv 4) (a_cons (d_tup a_nil) a_nil))) a_nil))) (g_tup (n := 2) rfl (gs_cons (g_name 5 sc_law.nd) (gs_cons (g_name 6 sc_law.nd) gs_nil))))
  (ss_cons (s_set 7 sc_law.nd (d_lst (a_cons (d_tup (a_cons de_str (a_cons (dv 5) a_nil))) (a_cons (d_tup (a_cons de_str (a_cons (dv 5) a_nil))) (a_cons (d_tup (a_cons de_str a_nil)) (a_cons (d_tup (a_cons de_str (a_cons (dv 5) (a_cons de_int a_nil)))) (a_cons (d_tup (a_cons de_str (a_cons (dv 5) a_nil))) (a_cons (d_tup (a_cons de_str (a_cons (dv 5) (a_cons de_int a_nil)))) (a_cons (d_tup (a_cons de_str (a_cons (dv 5) a_nil))) a_nil)))))))))
  (ss_cons (s_set 7 sc_law.nd (d_add (dv 7) (d_lst (a_cons (d_tup (a_cons de_str (a_cons (dv 5) (a_cons de_int a_nil)))) (a_cons (d_tup (a_cons de_str (a_cons (dv 5) (a_cons de_int a_nil)))) (a_cons (d_tup (a_cons de_str (a_cons (dv 5) (a_cons de_int a_nil)))) (a_cons (d_tup (a_cons de_str (a_cons (dv 5) (a_cons (d_neg de_int) a_nil)))) (a_cons (d_tup (a_cons de_str (a_cons de_int a_nil))) (a_cons (d_tup (a_cons de_str (a_cons (d_add (dv 5) (d_tup (a_cons de_int a_nil))) a_nil))) a_nil)))))))))
  (ss_cons (s_set 7 sc_law.nd (d_add (dv 7) (d_lst (a_cons (d_tup (a_cons de_str (a_cons (d_add (dv 5) (d_tup (a_cons (d_neg de_int) a_nil))) a_nil))) (a_cons (d_tup (a_cons de_str (a_cons (d_add (dv 5) (d_tup (a_cons (d_pow de_int de_int) a_nil))) (a_cons de_int a_nil)))) (a_cons (d_tup (a_cons de_str (a_cons (dv 5) (a_cons (d_pow de_int de_int) a_nil)))) (a_cons (d_tup (a_cons de_str (a_cons (dv 5) (a_cons (d_tup a_nil) a_nil)))) (a_cons (d_tup (a_cons de_str (a_cons (dv 5) a_nil))) a_nil))))))))
  (ss_cons (s_set 8 sc_law.nd (d_call o_law_of bd_law_of (hr.mono (by decide)) xd_takes (a_cons (dv 1) (a_cons (dv 7) a_nil))))
  (ss_cons (s_set 9 sc_law.nd (d_lst (a_cons (d_lam0 (nm := lawNm) TB rfl rfl (lamS2_by (by show lamS2B (defScope s_law) _ ["_law_script", "_law_bag_here", "_law_turn", "_law_pool", "_law_tree_here", "_law_path", "_law_node", "_law_odd", "_law_bad", "_law_asks", "_law_leaf", "_law_good", "_law_great", "_law_later", "_law_ask", "_law_row"] = true; decide +kernel)).free) (a_cons (d_lam1 (nm := lawNm) TB rfl rfl (lamS2_by (by show lamS2B (defScope s_law) _ ["_law_script", "_law_bag_here", "_law_turn", "_law_pool", "_law_tree_here", "_law_path", "_law_node", "_law_odd", "_law_bad", "_law_asks", "_law_leaf", "_law_good", "_law_great", "_law_later", "_law_ask", "_law_row"] = true; decide +kernel)).free) (a_cons (d_lam1 (nm := lawNm) TB rfl rfl (lamS2_by (by show lamS2B (defScope s_law) _ ["_law_script", "_law_bag_here", "_law_turn", "_law_pool", "_law_tree_here", "_law_path", "_law_node", "_law_odd", "_law_bad", "_law_asks", "_law_leaf", "_law_good", "_law_great", "_law_later", "_law_ask", "_law_row"] = true; decide +kernel)).free) a_nil)))))
  (ss_cons (s_if (t_cmp (c_ne hr) (DL.de (l_asks (k := 60) 14 T_try (hr.mono (by decide)) (lams_cons (lam_ok0 (eltN (valE (subS (nthS s_law 1) 7)) 0) rfl (lamS2_by (by show lamS2B (defScope s_law) _ ["_law_script", "_law_bag_here", "_law_turn", "_law_pool", "_law_tree_here", "_law_path", "_law_node", "_law_odd", "_law_bad", "_law_asks", "_law_leaf", "_law_good", "_law_great", "_law_later", "_law_ask", "_law_row"] = true; decide +kernel)) (fun _ _ _ => rfl) (fun _ _ _ _ _ _ _ hr => (d_call o_apply_step bd_apply_step (hr.mono (by decide)) lcx_takes (a_cons (dv 4) (a_cons (dv 8) a_nil))))) (lams_cons (lam_ok1 (v := 0) (eltN (valE (subS (nthS s_law 1) 7)) 1) rfl (lamS2_by (by show lamS2B (defScope s_law) _ ["_law_script", "_law_bag_here", "_law_turn", "_law_pool", "_law_tree_here", "_law_path", "_law_node", "_law_odd", "_law_bad", "_law_asks", "_law_leaf", "_law_good", "_law_great", "_law_later", "_law_ask", "_law_row"] = true; decide +kernel)) (lpar1 rfl rfl (fun _ _ _ _ => ⟨_, rfl, fun _ => rfl⟩)) (fun _ _ _ _ _ _ _ hr => (d_call o_undoing bd_undoing (hr.mono (by decide)) lcx_takes (a_cons (dv 4) (a_cons (dv 8) a_nil))))) (lams_cons (lam_ok1 (v := 0) (eltN (valE (subS (nthS s_law 1) 7)) 2) rfl (lamS2_by (by show lamS2B (defScope s_law) _ ["_law_script", "_law_bag_here", "_law_turn", "_law_pool", "_law_tree_here", "_law_path", "_law_node", "_law_odd", "_law_bad", "_law_asks", "_law_leaf", "_law_good", "_law_great", "_law_later", "_law_ask", "_law_row"] = true; decide +kernel)) (lpar1 rfl rfl (fun _ _ _ _ => ⟨_, rfl, fun _ => rfl⟩)) (fun _ _ _ _ _ _ _ hr => (d_call o_apply_steps bd_apply_steps (hr.mono (by decide)) lcx_takes (a_cons (dv 4) (a_cons (d_lst (a_cons (dv 8) a_nil)) a_nil))))) lams_nil))) rfl sc_law.nd (i_any (dv 9)) (blkOk_by (by show blkC ["_law_script", "_law_bag_here", "_law_turn", "_law_pool", "_law_tree_here", "_law_path", "_law_node", "_law_odd", "_law_bad", "_law_asks", "_law_leaf", "_law_good", "_law_great", "_law_later", "_law_ask", "_law_row"] (defScope s_law) _ _ = true; decide +kernel)))) (d_mul (d_lst (a_cons (d_tup (a_cons de_str (a_cons de_int a_nil))) a_nil)) de_int)) (ss_one (s_ret de_bl)) ss_nil)
  (ss_cons (s_set 10 sc_law.nd (d_ix (DL.de (l_lc (own := [("_law_row", 15)]) rfl sc_law.nd (i_any (d_call o_law_paths bd_law_paths (hr.mono (by decide)) xd_takes (a_cons (dv 4) (a_cons (d_tup a_nil) a_nil)))) (blkOk_by (by show blkC ["_law_script", "_law_bag_here", "_law_turn", "_law_pool", "_law_tree_here", "_law_path", "_law_node", "_law_odd", "_law_bad", "_law_asks", "_law_leaf", "_law_good", "_law_great", "_law_later", "_law_ask", "_law_row"] (defScope s_law) _ _ = true; decide +kernel)) (fun _ _ _ _ _ => (cg_name 15 sc_law.nd)) (fun _ _ _ _ _ => (pt_one (t_not (dt_val (d_isi .tuple n_isinstance n_tuple (d_ix (dv 15) de_int)))))) (fun s1 H1 C1 cl1 fp1 => (d_ix (dv 15) de_int)))) de_int))
  (ss_cons (s_asg (d_tup (a_cons (d_tup (a_cons de_str (a_cons (dv 10) (a_cons de_int a_nil)))) (a_cons (d_call o_law_of bd_law_of (hr.mono (by decide)) xd_takes (a_cons (dv 1) (a_cons (d_lst (a_cons de_int (a_cons (d_pow de_int de_int) a_nil))) a_nil))) a_nil))) (g_tup (n := 2) rfl (gs_cons (g_name 11 sc_law.nd) (gs_cons (g_name 12 sc_law.nd) gs_nil))))
  (ss_cons (s_if (t_cmp (c_ne hr) (d_tryLam (nm := lawNm) (k := 60) T_try TB rfl rfl (hr.mono (by decide)) (lamS2_by (by show lamS2B (defScope s_law) _ ["_law_script", "_law_bag_here", "_law_turn", "_law_pool", "_law_tree_here", "_law_path", "_law_node", "_law_odd", "_law_bad", "_law_asks", "_law_leaf", "_law_good", "_law_great", "_law_later", "_law_ask", "_law_row"] = true; decide +kernel)) (fun _ _ _ => rfl) (fun _ _ _ _ _ _ _ hr => (d_call o_apply_step bd_apply_step (hr.mono (by decide)) lcx_takes (a_cons (dv 4) (a_cons (d_tup (a_cons de_str (a_cons (dv 10) (a_cons (dv 12) a_nil)))) a_nil))))) (d_tup (a_cons de_str (a_cons de_int a_nil)))) (ss_one (s_ret de_bl)) ss_nil)
  (ss_cons (s_set 13 sc_law.nd (d_tryLam (nm := lawNm) (k := 60) T_try TB rfl rfl (hr.mono (by decide)) (lamS2_by (by show lamS2B (defScope s_law) _ ["_law_script", "_law_bag_here", "_law_turn", "_law_pool", "_law_tree_here", "_law_path", "_law_node", "_law_odd", "_law_bad", "_law_asks", "_law_leaf", "_law_good", "_law_great", "_law_later", "_law_ask", "_law_row"] = true; decide +kernel)) (fun _ _ _ => rfl) (fun _ _ _ _ _ _ _ hr => (d_call o_apply_steps bd_apply_steps (hr.mono (by decide)) lcx_takes (a_cons (dv 4) (a_cons (d_lst (a_cons (dv 11) (a_cons (d_tup (a_cons de_str (a_cons (dv 10) a_nil))) (a_cons (dv 11) (a_cons (d_tup (a_cons de_str (a_cons (d_tup a_nil) a_nil))) (a_cons (dv 11) a_nil)))))) a_nil))))))
  (ss_one (s_if (t_cmp (c_ne hr) (dv 13) (d_tup (a_cons de_str (a_cons de_int a_nil)))) (ss_one (s_ret de_bl)) ss_nil))))))))))))))))
  (ss_one (s_ret (d_cmp (c_eq hr) (d_call o_apply_steps bd_apply_steps (hr.mono (by decide)) xd_takes (a_cons de_str (a_cons (d_lst a_nil) a_nil))) de_str))))), ?_⟩
  rintro ds M Q E ⟨ns, d, rfl, hsc, hl, hP, hq⟩
  walk_at "go"
  refine ⟨ns, d, rfl, hsc, hl, fun p M1 hp hB keep => ?_⟩
  have hPp : PL ≠ p := mne hP hp
  have hT0 := keep _ _ hP
  walk_at "go"
  refine ⟨by decide, by decide, ?_⟩
  refine for_by (fun i ρ M => Bag M p ∧ M PL = some (.tab lawNm) ∧ ∃ x2 x3 x4 x5 x6 x7 x8 x9 x10 x11 x12 x13, ρ = [some d, some (.ref p), x2, x3, x4, x5, x6, x7, x8, x9, x10, x11, x12, x13, none, none]) ⟨hB, hT0, _, _, _, _, _, _, _, _, _, _, _, _, rfl⟩ (fun _ _ _ _ _ => trivial) ?_ ?_
  · rintro i d1 ρ M2 hd ⟨hB2, hT2, x2, x3, x4, x5, x6, x7, x8, x9, x10, x11, x12, x13, rfl⟩
    walk_at "go"
    refine ⟨p, rfl, hB2, fun r zs M3 hr hz1 hz2 hz t3 => ?_⟩
    have hrp := t3.bag.ne_z hr
    walk_at "go"
    refine ⟨p, r, zs, rfl, t3.bag, hrp, hr, by omega, by omega, fun t M4 ht1 ht2 ht3 t4 => ?_⟩
    walk_at "go"
    refine ⟨t, [], _, rfl, by omega, ht1, Nat.le_trans ht3 (by decide), by show 0 + _ ≤ _; omega, fun r5 M5 h5 hn5 l5 => ?_⟩
    have u5 : BagUp p M2 M5 := (t3.trans t4).trans (BagUp.of_le t4.bag l5)
    have hpl := paths_len t []
    have hsz := size_le t ht1
    walk_at "go"
    refine ⟨p, _, _, rfl, u5.bag, .lst h5 (t4.bag.ne hn5), ?_, ?_, fun d6 M6 hd6 t6 => ?_⟩
    · rw [List.length_map, hpl]; cases t <;> simp only [T.size] <;> omega
    · rw [List.length_map, hpl]; exact Nat.lt_of_le_of_lt (show _ ≤ 1000 by omega) (by decide)
    obtain ⟨⟨ks, v⟩, hy, rfl⟩ := List.mem_map.mp hd6
    obtain ⟨js, e1, hat⟩ := paths_at t [] _ hy
    have e1 : ks = js := e1
    subst e1
    have hat : t.at ks = some v := hat
    obtain ⟨hv1, hv2, hv3⟩ := at_ok ks t v ht1 hat
    have u6 := u5.trans t6.up
    have e9 : pathD (ks, v) = .tup [.tup (natsD ks), v.enc] := rfl
    rw [e9]
    have hkl : ks.length ≤ 1000 := by omega
    walk_at "go"
    intro q7 hq7
    walk_at "go"
    refine add_t (sz (by rw [natsD_len]; show ks.length + 1 ≤ _; omega)) ?_
    walk_at "go"
    intro q8 hq8
    walk_at "go"
    refine add_l ((MLe.new hq8) _ _ mupd_same) mupd_same (show 7 + 6 ≤ sizeLine by decide) fun q9 hq9 => ?_
    walk_at "go"
    refine add_t (sz (by rw [natsD_len]; show ks.length + 1 ≤ _; omega)) ?_
    walk_at "go"
    refine add_t (sz (by rw [natsD_len]; show ks.length + 1 ≤ _; omega)) ?_
    walk_at "go"
    refine pow_i ⟨by decide, by decide, by decide⟩ ?_
    walk_at "go"
    intro q10 hq10
    walk_at "go"
    refine add_l ((MLe.new hq10) _ _ mupd_same) mupd_same (show 13 + 5 ≤ sizeLine by decide) fun q11 hq11 => ?_
    walk_at "go"
    have np11 : q11 ≠ p := (Bag.leX u6.bag ((((MLe.new hq7).trans (MLe.new hq8)).trans (MLe.new hq9)).trans (MLe.new hq10))).ne hq11
    generalize hM7 : mupd (mupd (mupd (mupd (mupd M6 q7 _) q8 _) q9 _) q10 _) q11 _ = M7
    have l7 : MLe M6 M7 := by rw [← hM7]; exact ((((MLe.new hq7).trans (MLe.new hq8)).trans (MLe.new hq9)).trans (MLe.new hq10)).trans (MLe.new hq11)
    have g11 : M7 q11 = some (.lst (oddL ks)) := by
      rw [← hM7, mupd_same]
      simp only [oddL, Odd.enc, Stp.enc, ← natsD_snoc]
      rfl
    have u7 := u6.trans (BagUp.of_le u6.bag l7)
    clear hM7
    refine ⟨p, _, _, rfl, u7.bag, .lst g11 np11, (by show 0 < 18; decide), (by show 18 < _; decide), fun d8 M8 hd8 t8 => ?_⟩
    have hbad : BadS t d8 := oddL_bad hat hv1 (by omega) hd8
    have u8 := u7.trans t8.up
    have hT8 : M8 PL = some (.tab lawNm) := u8.fr _ _ hPp hT2
    walk_at "go"
    refine ⟨hT8, fun f1 hf1 => ?_⟩
    walk_at "go"
    refine ⟨(MLe.new hf1) _ _ hT8, fun f2 hf2 => ?_⟩
    walk_at "go"
    refine ⟨(MLe.new hf2) _ _ ((MLe.new hf1) _ _ hT8), fun f3 hf3 => ?_⟩
    walk_at "go"
    intro q12 hq12
    walk_at "go"
    generalize hM9 : mupd (mupd (mupd (mupd M8 f1 _) f2 _) f3 _) q12 _ = M9
    obtain ⟨l9, g1, g2, g3, g12⟩ := made3 hM9 hf1 hf2 hf3 hq12
    refine it_l g12 ?_
    refine ask_by (fun i acc M => MLe M9 M ∧ acc = List.replicate i (D.tup [.str "BadStep", .int 0])) ⟨MLe.refl _, rfl⟩ (fun i acc M _ h => h.1 _ _ g12) ?_ ?_
    · rintro i dd acc M10 hdd ⟨l10, rfl⟩
      have hi : i < 3 := (List.getElem?_eq_some_iff.mp hdd).1
      refine ⟨by rw [List.length_replicate]; exact Nat.lt_trans hi (by decide), ?_⟩
      match i, hi, hdd with
      | 0, _, hdd =>
        cases hdd
        refine ⟨f1, _, rfl, List.mem_cons_self .., l10 _ _ g1, ?_⟩
        walk_at "go"
        exact bad_any ht1 (by omega) (by omega) hbad fun cls fs hcb => ⟨_, _, hcb, l10, rfl⟩
      | 1, _, hdd =>
        cases hdd
        refine ⟨f2, _, rfl, in2, l10 _ _ g2, ?_⟩
        walk_at "go"
        exact ⟨t, d8, _, rfl, ht1, by omega, by omega, hbad, fun cls fs hcb => ⟨_, _, hcb, l10, rfl⟩⟩
      | 2, _, hdd =>
        cases hdd
        refine ⟨f3, _, rfl, in3, l10 _ _ g3, ?_⟩
        walk_at "go"
        intro q13 hq13
        walk_at "go"
        refine .inr ⟨t, q13, [], d8, [], _, rfl, mupd_same, ht1, by omega, by omega, (fun s hs => by cases hs), rfl, fun u hu => ?_, fun cls fs hcb => ⟨_, _, hcb, l10.trans (MLe.new hq13), rfl⟩⟩
        have hu : (("value" : Str), t.enc) = (("value" : Str), u.enc) := hu
        have e : t = u := enc_inj (congrArg Prod.snd hu)
        subst e
        exact hbad
    · rintro acc M10 ⟨l10, rfl⟩
      walk_at "go"
      intro q14 hq14
      walk_at "go"
      intro q15 hq15
      walk_at "go"
      refine mul_l mupd_same (by decide) (by decide) (by decide) fun q16 hq16 => ?_
      walk_at "go"
      have u9 := u8.trans (BagUp.of_le u8.bag l9)
      generalize hM11 : mupd (mupd (mupd M10 q14 _) q15 _) q16 _ = M11
      have l11 : MLe M9 M11 := by rw [← hM11]; exact ((l10.trans (MLe.new hq14)).trans (MLe.new hq15)).trans (MLe.new hq16)
      have g14 : M11 q14 = some (.lst [.tup [.str "BadStep", .int 0], .tup [.str "BadStep", .int 0], .tup [.str "BadStep", .int 0]]) := by rw [← hM11]; exact (MLe.new hq16) _ _ ((MLe.new hq15) _ _ mupd_same)
      have g16 : M11 q16 = some (.lst [.tup [.str "BadStep", .int 0], .tup [.str "BadStep", .int 0], .tup [.str "BadStep", .int 0]]) := by rw [← hM11]; exact mupd_same
      have u11 := u9.trans (BagUp.of_le u9.bag l11)
      have hT11 : M11 PL = some (.tab lawNm) := l11 _ _ (l9 _ _ hT8)
      clear hM11 hM9
      have bp : ∀ M, Py M (D.tup [.str "BadStep", .int 0]) (.tuple [.str "BadStep", .int 0]) := fun M => .tup (.cons (.str _) (.cons (.int _) .nil))
      have bps : ∀ M, Pys M [D.tup [.str "BadStep", .int 0], .tup [.str "BadStep", .int 0], .tup [.str "BadStep", .int 0]] [.tuple [.str "BadStep", .int 0], .tuple [.str "BadStep", .int 0], .tuple [.str "BadStep", .int 0]] := fun M => .cons (bp M) (.cons (bp M) (.cons (bp M) .nil))
      refine eq_same (.list [.tuple [.str "BadStep", .int 0], .tuple [.str "BadStep", .int 0], .tuple [.str "BadStep", .int 0]]) (.lst g14 (bps _)) (.lst g16 (bps _)) (by simp [PyData.depth, PyData.depthAll]) ?_
      walk_at "go"
      refine ⟨t, [], _, rfl, by omega, ht1, Nat.le_trans ht3 (by decide), by show 0 + _ ≤ _; omega, fun r12 M12 h12 hn12 l12 => ?_⟩
      walk_at "go"
      refine it_l h12 ?_
      refine lc_by (fun i acc M => M = M12 ∧ acc = ((t.paths []).take i).filterMap leafD) ⟨rfl, rfl⟩ (fun i acc M _ h => by rw [h.1]; exact h12) ?_ ?_
      · rintro i d13 acc M13 hd13 ⟨rfl, rfl⟩
        rw [List.getElem?_map] at hd13
        obtain ⟨y, hy, rfl⟩ := Option.map_eq_some_iff.mp hd13
        have hlen : (((t.paths []).take i).filterMap leafD).length < sizeLine := by
          refine Nat.lt_of_le_of_lt (Nat.le_trans (List.length_filterMap_le _ _) (List.length_take_le' _ _)) ?_
          rw [hpl]; exact Nat.lt_of_le_of_lt (show _ ≤ 1000 by omega) (by decide)
        have htk : (t.paths []).take (i + 1) = (t.paths []).take i ++ [y] := take_succ_of hy
        rw [htk, List.filterMap_append]
        obtain ⟨yk, yv⟩ := y
        have e13 : pathD (yk, yv) = .tup [.tup (natsD yk), yv.enc] := rfl
        rw [e13]
        cases yv with
        | leaf z =>
          simp only [T.enc]
          walk_at "go"
          exact ⟨hlen, rfl, rfl⟩
        | node l =>
          simp only [T.enc]
          walk_at "go"
          exact ⟨rfl, by simp [leafD, isLeaf]⟩
      · rintro acc M13 ⟨rfl, rfl⟩
        rw [List.length_map, List.take_length]
        obtain ⟨lf, z, hlf, hal⟩ := leafs_first ht1
        walk_at "go"
        intro q13 hq13
        walk_at "go"
        refine ix_l mupd_same (atI_nat (j := 0) hlf) ?_
        walk_at "go"
        intro q17 hq17
        walk_at "go"
        generalize hM14 : mupd (mupd M13 q13 _) q17 _ = M14
        have l14 : MLe M13 M14 := by rw [← hM14]; exact (MLe.new hq13).trans (MLe.new hq17)
        have g17 : M14 q17 = some (.lst [.int 401, .int 100000000000000000000]) := by rw [← hM14]; exact mupd_same
        have u12 := u11.trans (BagUp.of_le u11.bag l12)
        have np17 : q17 ≠ p := (Bag.leX u12.bag (MLe.new hq13)).ne hq17
        have u14 := u12.trans (BagUp.of_le u12.bag l14)
        clear hM14
        refine ⟨p, _, _, rfl, u14.bag, .lst g17 np17, (by show 0 < 2; decide), (by show 2 < _; decide), fun d15 M15 hd15 t15 => ?_⟩
        obtain ⟨c, rfl, hc⟩ : ∃ c : Nat, d15 = .int c ∧ 400 < c := by
          simp at hd15
          rcases hd15 with h | h
          · exact ⟨401, h, by decide⟩
          · exact ⟨100000000000000000000, h, by decide⟩
        have u15 := u14.trans t15.up
        have hT15 : M15 PL = some (.tab lawNm) := u15.fr _ _ hPp hT2
        walk_at "go"
        refine tryOut_i (("TooLarge" : Str), .int 400) (fun M0 M' => M' = M0) hT15 fun fL hfL => ⟨fun Q' E' h => ?_, ?_⟩
        · walk_at "go"
          refine .inl ⟨t, .spre lf c, _, rfl, ht1, by omega, by omega, ?_⟩
          rw [big_spre hal hc]
          exact h _ rfl
        rintro M16 rfl
        walk_at "go"
        refine eq_same (.tuple [.str "TooLarge", .int 400]) (.tup (.cons (.str _) (.cons (.int _) .nil))) (.tup (.cons (.str _) (.cons (.int _) .nil))) (by simp [PyData.depth, PyData.depthAll]) ?_
        walk_at "go"
        generalize hM16 : mupd M15 fL _ = M16
        have l16 : MLe M15 M16 := by rw [← hM16]; exact MLe.new hfL
        have u16 := u15.trans (BagUp.of_le u15.bag l16)
        have hT16 := l16 _ _ hT15
        clear hM16
        refine tryOut_i (("BadStep" : Str), .int 3) (fun M0 M' => MLe M0 M') hT16 fun fL2 hfL2 => ⟨fun Q' E' h => ?_, ?_⟩
        · walk_at "go"
          intro q18 hq18
          walk_at "go"
          refine .inr ⟨t, q18, [.spre lf 2, .gath lf, .spre lf 2], (Odd.lift []).enc, [(Stp.spre lf 2).enc], _, rfl, mupd_same, ht1, by omega, by omega, ?_, run_good ht1 (by omega) (by omega) hal, fun u hu => .inl ⟨_, rfl⟩, ?_⟩
          · intro s hs
            simp only [List.mem_cons, List.mem_nil_iff, or_false] at hs
            rcases hs with rfl | rfl | rfl <;> simp [Stp.n]
          · exact (h _ (MLe.new hq18)).2 (by decide)
        intro M17 l17
        walk_at "go"
        refine eq_same (.tuple [.str "BadStep", .int 3]) (.tup (.cons (.str _) (.cons (.int _) .nil))) (.tup (.cons (.str _) (.cons (.int _) .nil))) (by simp [PyData.depth, PyData.depthAll]) ?_
        walk_at "go"
        have l18 := (MLe.new hfL2).trans l17
        exact ⟨(u16.trans (BagUp.of_le u16.bag l18)).bag, l18 _ _ hT16, _, _, _, _, _, _, _, _, _, _, _, _, rfl⟩
  · rintro ρ M2 ⟨hB2, hT2, x2, x3, x4, x5, x6, x7, x8, x9, x10, x11, x12, x13, rfl⟩
    walk_at "go"
    intro q1 hq1
    walk_at "go"
    refine .inl ⟨.leaf "a", .ref q1, [], fun _ => True, rfl, .inr ⟨q1, rfl, mupd_same⟩, trivial, by decide, by decide, (fun s hs => by cases hs), fun _ => ?_, fun h => absurd rfl h⟩
    simp only [runS, T.enc]
    walk_at "go"
    exact ⟨_, MLe.refl _, hq _⟩

end
end LW
open PySem PySem.W PyProof.Rows
set_option maxRecDepth 100000 in
set_option maxHeartbeats 0 in
theorem PySem.Challenge.cw_turndeal_k30_steps_that_do_not_fit_holds : PySem.Challenge.rw_turndeal_k30_steps_that_do_not_fit.Holds := by
  w_on; o_law; k_head; (case hw => w_witness2)
  k_fill
  refine TD.walk_lawT (x := "_law_script") (l := PySem.Challenge.rw_turndeal_k30_steps_that_do_not_fit) (k := LW.lawLevel) (nm := LW.lawNm) rfl rfl LW.lawRoom (by decide +kernel) (fun w h Y => PySem.W.km_in_of Y) ?F
  case F =>
    intro w mg fa h KX G hmg
    refine' LW.top_use KX G ?a0 ?l0 ?c0 ?k0 ?a1 ?l1 ?c1 ?k1 ?a2 ?l2 ?c2 ?k2 ?a3 ?l3 ?c3 ?k3 ?a4 ?l4 ?c4 ?k4 ?a5 ?l5 ?c5 ?k5 ?a6 ?l6 ?c6 ?k6 ?a7 ?l7 ?c7 ?k7 ?a8 ?l8 ?c8 ?k8 ?a9 ?l9 ?c9 ?k9 ?a10 ?l10 ?c10 ?k10 ?a11 ?l11 ?c11 ?k11 ?a12 ?l12 ?c12 ?k12 ?a13 ?l13 ?c13 ?k13 ?a14 ?l14 ?c14 ?k14 ?a15 ?l15 ?c15 ?k15 ?a16 ?l16 ?c16 ?k16 ?a17 ?l17 ?c17 ?k17 ?a18 ?l18 ?c18 ?k18 ?a19 ?l19 ?c19 ?k19 ?a20 ?l20 ?c20 ?k20 ?a21 ?l21 ?c21 ?k21 ?a22 ?l22 ?c22 ?k22 ?a23 ?l23 ?c23 ?k23 ?lcL ?vL ?bL ?nL ?aT1 ?eT1 ?iT1 ?yT1 ?aT2 ?eT2 ?iT2 ?yT2 ?a_BadStep ?xL_BadStep ?sa_BadStep ?ga_BadStep ?gg_BadStep ?nw_BadStep ?nf_BadStep ?ini_BadStep ?ty_BadStep ?l_BadStep ?cd_BadStep ?kF_BadStep ?kC_BadStep ?eC_BadStep ?tC_BadStep ?hC_BadStep ?s1_BadStep ?s2_BadStep ?a_TooLarge ?xL_TooLarge ?sa_TooLarge ?ga_TooLarge ?gg_TooLarge ?nw_TooLarge ?nf_TooLarge ?ini_TooLarge ?ty_TooLarge ?l_TooLarge ?cd_TooLarge ?kF_TooLarge ?kC_TooLarge ?eC_TooLarge ?tC_TooLarge ?hC_TooLarge ?s1_TooLarge ?s2_TooLarge ?ic_BadStep ?sb_BadStep_BadStep ?sb_TooLarge_BadStep ?z_all ?z_enumerate ?z_int ?z_isinstance ?z_len ?z_list ?z_max ?z_min ?z_range ?z_str ?z_sum ?z_tuple ?y_MOST_ENDS ?r_MOST_ENDS ?y_MOST_LEVELS ?r_MOST_LEVELS ?aD_COUNTS ?lD_COUNTS ?sD_COUNTS ?fin
    (case a0 => k_is)
    (case l0 => k_is)
    (case c0 => k_is)
    (case k0 => k_is)
    (case a1 => k_is)
    (case l1 => k_is)
    (case c1 => k_is)
    (case k1 => k_is)
    (case a2 => k_is)
    (case l2 => k_is)
    (case c2 => k_is)
    (case k2 => k_is)
    (case a3 => k_is)
    (case l3 => k_is)
    (case c3 => k_is)
    (case k3 => k_is)
    (case a4 => k_is)
    (case l4 => k_is)
    (case c4 => k_is)
    (case k4 => k_is)
    (case a5 => k_is)
    (case l5 => k_is)
    (case c5 => k_is)
    (case k5 => k_is)
    (case a6 => k_is)
    (case l6 => k_is)
    (case c6 => k_is)
    (case k6 => k_is)
    (case a7 => k_is)
    (case l7 => k_is)
    (case c7 => k_is)
    (case k7 => k_is)
    (case a8 => k_is)
    (case l8 => k_is)
    (case c8 => k_is)
    (case k8 => k_is)
    (case a9 => k_is)
    (case l9 => k_is)
    (case c9 => k_is)
    (case k9 => k_is)
    (case a10 => k_is)
    (case l10 => k_is)
    (case c10 => k_is)
    (case k10 => k_is)
    (case a11 => k_is)
    (case l11 => k_is)
    (case c11 => k_is)
    (case k11 => k_is)
    (case a12 => k_is)
    (case l12 => k_is)
    (case c12 => k_is)
    (case k12 => k_is)
    (case a13 => k_is)
    (case l13 => k_is)
    (case c13 => k_is)
    (case k13 => k_is)
    (case a14 => k_is)
    (case l14 => k_is)
    (case c14 => k_is)
    (case k14 => k_is)
    (case a15 => k_is)
    (case l15 => k_is)
    (case c15 => k_is)
    (case k15 => k_is)
    (case a16 => k_is)
    (case l16 => k_is)
    (case c16 => k_is)
    (case k16 => k_is)
    (case a17 => k_is)
    (case l17 => k_is)
    (case c17 => k_is)
    (case k17 => k_is)
    (case a18 => k_is)
    (case l18 => k_is)
    (case c18 => k_is)
    (case k18 => k_is)
    (case a19 => k_is)
    (case l19 => k_is)
    (case c19 => k_is)
    (case k19 => k_is)
    (case a20 => k_is)
    (case l20 => k_is)
    (case c20 => k_is)
    (case k20 => k_is)
    (case a21 => k_is)
    (case l21 => k_is)
    (case c21 => k_is)
    (case k21 => k_is)
    (case a22 => k_is)
    (case l22 => k_is)
    (case c22 => k_is)
    (case k22 => k_is)
    (case a23 => k_is)
    (case l23 => k_is)
    (case c23 => k_is)
    (case k23 => k_is)
    (case lcL => k_is)
    (case vL => exact rfl)
    (case bL => exact rfl)
    (case nL => first | exact rfl | kernel_rfl)
    (case aT1 => k_is)
    (case eT1 => k_is)
    (case iT1 => k_is)
    (case yT1 => k_is)
    (case aT2 => k_is)
    (case eT2 => k_is)
    (case iT2 => k_is)
    (case yT2 => k_is)
    (case a_BadStep => k_is)
    (case xL_BadStep => k_is)
    (case sa_BadStep => k_is)
    (case ga_BadStep => k_is)
    (case gg_BadStep => k_is)
    (case nw_BadStep => k_is)
    (case nf_BadStep => k_is)
    (case ini_BadStep => k_is)
    (case ty_BadStep => k_is)
    (case l_BadStep => k_is)
    (case cd_BadStep => k_is)
    (case kF_BadStep => k_is)
    (case kC_BadStep => k_is)
    (case eC_BadStep => k_is)
    (case tC_BadStep => k_is)
    (case hC_BadStep => k_is)
    (case s1_BadStep => k_is)
    (case s2_BadStep => k_is)
    (case a_TooLarge => k_is)
    (case xL_TooLarge => k_is)
    (case sa_TooLarge => k_is)
    (case ga_TooLarge => k_is)
    (case gg_TooLarge => k_is)
    (case nw_TooLarge => k_is)
    (case nf_TooLarge => k_is)
    (case ini_TooLarge => k_is)
    (case ty_TooLarge => k_is)
    (case l_TooLarge => k_is)
    (case cd_TooLarge => k_is)
    (case kF_TooLarge => k_is)
    (case kC_TooLarge => k_is)
    (case eC_TooLarge => k_is)
    (case tC_TooLarge => k_is)
    (case hC_TooLarge => k_is)
    (case s1_TooLarge => k_is)
    (case s2_TooLarge => k_is)
    (case ic_BadStep => k_is)
    (case sb_BadStep_BadStep => k_is)
    (case sb_TooLarge_BadStep => k_is)
    (case z_all => k_is)
    (case z_enumerate => k_is)
    (case z_int => k_is)
    (case z_isinstance => k_is)
    (case z_len => k_is)
    (case z_list => k_is)
    (case z_max => k_is)
    (case z_min => k_is)
    (case z_range => k_is)
    (case z_str => k_is)
    (case z_sum => k_is)
    (case z_tuple => k_is)
    (case y_MOST_ENDS => k_is)
    (case r_MOST_ENDS => exact ⟨_, rfl⟩)
    (case y_MOST_LEVELS => k_is)
    (case r_MOST_LEVELS => exact ⟨_, rfl⟩)
    (case aD_COUNTS => k_is)
    (case lD_COUNTS => k_is)
    (case sD_COUNTS => exact rfl)
    case fin => exact fun T => TD.law_fdT T.t_law T.hdL T.noL hmg LW.bd_law fun base _ _ TB => LW.ok_law T TB

