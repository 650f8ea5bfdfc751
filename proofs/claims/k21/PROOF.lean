import PyProof.Rows.All
import Wide.All
import OpenK.AllK
import Wide.FinOn
import HandS.ForMost
import HandS.Exc
import HandS.Wide
import HandS.TupAny
import HandS.TupMul
import HandS.Nested
import KE.DataEq
import HandS.IsInst
import HandS.CallSlots
import HandS.Walk
import HandS.WideMore
import HandS.WordsExc
import HandS.Style
import HandS.Star
import KE.KUnpackStar
import HandS.Dict
import KE.KRevSl
import KE.GoesMore
import Wide.OneHead
import Wide.BridgeG
import Open.Head
import HandS.GenOver
import HandS.GenYield
import HandS.ExcOwn
import HandS.GenCall
import HandS.Set
import HandS.SetBool
import HandS.SetTxt0
import HandS.Strs
import PyProof.Rows.SortShellAny
import PySem.Challenge.RW_turndeal_k21_counts_of_items
set_option Elab.async false
set_option linter.all false
set_option maxRecDepth 100000
/-! TD: a layer of data over HandS. Tuples are values; lists, dicts, instances stand in a memory that sees a part of the abstract heap. -/
namespace TD
open PySem L2

inductive D where
  | non | bl (b : Bool) | int (i : Int) | str (x : Str) | ref (a : Addr) | ty (n : String) | tup (l : List D) | rol (l : List D)

/-- a list that is never written -/
def SqLR (K : PySem.W.Frag) (H : Hp) (a : Addr) (xs : List V) : Prop := (∃ o, H a = some (.frz o (.lst xs))) ∨ SqL K (fun _ => none) a xs
theorem SqLR.sq {K : PySem.W.Frag} {H : Hp} {a : Addr} {xs : List V} (h : SqLR K H a xs) : SqL K H a xs := by
  rcases h with ⟨o, h⟩ | (h | ⟨o, h⟩) | h
  · exact .inl (.inr ⟨o, h⟩)
  · cases h
  · cases h
  · exact .inr h
theorem SqLR.mono {K : PySem.W.Frag} {H H' : Hp} {a : Addr} {xs : List V} (f : ∀ a o u, H a = some (.frz o u) → H' a = some (.frz o u)) (h : SqLR K H a xs) : SqLR K H' a xs := by
  rcases h with ⟨o, h⟩ | h
  · exact .inl ⟨o, f _ _ _ h⟩
  · exact .inr h
mutual
inductive Rep (K : PySem.W.Frag) (H : Hp) : V → D → Prop
  | non : Rep K H .non .non
  | bl (b : Bool) : Rep K H (.bl b) (.bl b)
  | int (i : Int) : Rep K H (.int i) (.int i)
  | str (x : Str) : Rep K H (.str x) (.str x)
  | ref (a : Addr) : Rep K H (.ref a) (.ref a)
  | ty (n : String) : Rep K H (.ty n) (.ty n)
  | tup {a : Addr} {vs : List V} {ds : List D} : SqT K H a vs → Reps K H vs ds → Rep K H (.ref a) (.tup ds)
  | rol {a : Addr} {vs : List V} {ds : List D} : SqLR K H a vs → Reps K H vs ds → Rep K H (.ref a) (.rol ds)
inductive Reps (K : PySem.W.Frag) (H : Hp) : List V → List D → Prop
  | nil : Reps K H [] []
  | cons {v : V} {d : D} {vs : List V} {ds : List D} : Rep K H v d → Reps K H vs ds → Reps K H (v :: vs) (d :: ds)
end

/-- a lambda's words -/
structure LInfo where
  qual : Str
  params : Arguments
  body : Expr
  scope : Scope
  cl : List (Str × Addr)
  dfl : Option Int := none
abbrev lamFd (L : LInfo) (dV pm ctv : Value) (c : Addr) : FuncData :=
  { name := "<lambda>", qualname := L.qual, params := L.params, body := .expr L.body, scope := L.scope, globals := mainGlobals, closure := L.cl, defaults := dV, kwdefaults := .none, doc := .none, pyModule := pm, annotations := none, code := .ref c, closureTuple := ctv, builtins := builtinsNs }
/-- the object at f is the lambda, its code object at c -/
def LamO (f : Addr) (L : LInfo) (dV : Value) (c : Addr) : HO := .ext fun h => ∃ pm ctv : Value, h.get? f = some ({ cls := .type "function", data := .func (lamFd L dV pm ctv c) } : Obj)
def LamAt (H : Hp) (f : Addr) (L : LInfo) : Prop := ∃ dV c, H f = some (LamO f L dV c) ∧ H c = some (LamX.CodeO c L.qual) ∧ ((L.dfl = none ∧ dV = .none) ∨ ∃ i dt, L.dfl = some i ∧ dV = .ref dt ∧ H dt = some (.tup [.int i]))
/-- what the memory sees -/
inductive MO where
  | lst (ds : List D)
  | ins (C dx : Addr) (fs : List (Str × D))
  | dk (kvs : List (Key × D))
  | tab (nm : Nat → Nat → Str)
  | lam (L : LInfo)
  | oth (o : HO)
abbrev Mem := Addr → Option MO
def mupd (M : Mem) (a : Addr) (o : MO) : Mem := fun b => if b = a then some o else M b
theorem mupd_same {M : Mem} {a : Addr} {o : MO} : mupd M a o a = some o := by unfold mupd; rw [if_pos rfl]
theorem mupd_ne {M : Mem} {a b : Addr} {o : MO} (h : b ≠ a) : mupd M a o b = M b := by unfold mupd; rw [if_neg h]
theorem mupd_mupd {M : Mem} {a : Addr} {o u : MO} : mupd (mupd M a o) a u = mupd M a u := by
  funext b; unfold mupd; split <;> rfl

abbrev FReps {κ : Type} (K : PySem.W.Frag) (H : Hp) : List (κ × V) → List (κ × D) → Prop := Paired fun p q => p.1 = q.1 ∧ Rep K H p.2 q.2
def MOk (K : PySem.W.Frag) (H : Hp) (a : Addr) : MO → Prop
  | .lst ds => ∃ vs, H a = some (.lst vs) ∧ Reps K H vs ds
  | .ins C dx fs => ∃ vs, H a = some (.ins C dx vs) ∧ FReps K H vs fs
  | .dk kvs => ∃ vs, H a = some (.dK vs) ∧ FReps K H vs kvs
  | .tab nm => NdefX.TabN H a nm
  | .lam L => LamAt H a L
  | .oth o => H a = some o ∧ (∀ xs, o ≠ .tup xs) ∧ (∀ ob u, o ≠ .frz ob u) ∧ ∀ ps, o ≠ .tbl ps
/-- the memory tells of the heap -/
def Sim (K : PySem.W.Frag) (H : Hp) (M : Mem) : Prop := ∀ a o, M a = some o → MOk K H a o

/-- tables of code grow; what they name stands -/
def isTbl : HO → Bool
  | .tbl _ => true
  | _ => false
/-- from one heap to a later one: tuples and locked things stand, what the memory does not see stands -/
structure Tr (H : Hp) (M : Mem) (H' : Hp) (M' : Mem) : Prop where
  tup : ∀ a vs, H a = some (.tup vs) → H' a = some (.tup vs)
  frz : ∀ a o u, H a = some (.frz o u) → H' a = some (.frz o u)
  fr : ∀ a o, H a = some o → M a = none → M' a = none
  st : ∀ a o, H a = some o → M a = none → isTbl o = false → H' a = some o
  tb : ∀ a ps, H a = some (.tbl ps) → ∃ more, H' a = some (.tbl (ps ++ more))
  dom : ∀ a o, H a = some o → ∃ u, H' a = some u
theorem Tr.refl (H : Hp) (M : Mem) : Tr H M H M := ⟨fun _ _ h => h, fun _ _ _ h => h, fun _ _ _ h => h, fun _ _ h _ _ => h, fun _ ps h => ⟨#[], by rw [h]; simp⟩, fun _ o h => ⟨o, h⟩⟩
theorem rd_mono {H H' : Hp} {a : Addr} {vs : List V} (t : ∀ a vs, H a = some (.tup vs) → H' a = some (.tup vs)) (f : ∀ a o u, H a = some (.frz o u) → H' a = some (.frz o u)) {K : PySem.W.Frag} (h : SqT K H a vs) : SqT K H' a vs := by
  rcases h with (h | ⟨o, h⟩) | h
  · exact .inl (.inl (t _ _ h))
  · exact .inl (.inr ⟨o, f _ _ _ h⟩)
  · exact .inr h
section
variable {K : PySem.W.Frag} {H H' H2 : Hp} {M M' M2 : Mem}
mutual
theorem Rep.mono0 (t : ∀ a vs, H a = some (.tup vs) → H' a = some (.tup vs)) (f : ∀ a o u, H a = some (.frz o u) → H' a = some (.frz o u)) : ∀ {v : V} {d : D}, Rep K H v d → Rep K H' v d
  | _, _, .non => .non
  | _, _, .bl b => .bl b
  | _, _, .int i => .int i
  | _, _, .str x => .str x
  | _, _, .ref a => .ref a
  | _, _, .ty n => .ty n
  | _, _, .tup h r => .tup (rd_mono t f h) (Reps.mono0 t f r)
  | _, _, .rol h r => .rol (h.mono f) (Reps.mono0 t f r)
theorem Reps.mono0 (t : ∀ a vs, H a = some (.tup vs) → H' a = some (.tup vs)) (f : ∀ a o u, H a = some (.frz o u) → H' a = some (.frz o u)) : ∀ {vs : List V} {ds : List D}, Reps K H vs ds → Reps K H' vs ds
  | _, _, .nil => .nil
  | _, _, .cons h r => .cons (Rep.mono0 t f h) (Reps.mono0 t f r)
end
theorem Rep.mono {v : V} {d : D} (h : Rep K H v d) (t : Tr H M H' M') : Rep K H' v d := h.mono0 t.tup t.frz
theorem Reps.mono {v : List V} {d : List D} (h : Reps K H v d) (t : Tr H M H' M') : Reps K H' v d := h.mono0 t.tup t.frz
theorem FReps.mono0 {κ : Type} (t : ∀ a vs, H a = some (.tup vs) → H' a = some (.tup vs)) (f : ∀ a o u, H a = some (.frz o u) → H' a = some (.frz o u)) : ∀ {vs : List (κ × V)} {ds : List (κ × D)}, FReps K H vs ds → FReps K H' vs ds
  | _, _, .nil => .nil
  | _, _, .cons h r => .cons ⟨h.1, h.2.mono0 t f⟩ (FReps.mono0 t f r)
theorem FReps.mono {κ : Type} {v : List (κ × V)} {d : List (κ × D)} (h : FReps K H v d) (t : Tr H M H' M') : FReps K H' v d := FReps.mono0 t.tup t.frz h
theorem Tr.trans (a : Tr H M H' M') (b : Tr H' M' H2 M2) : Tr H M H2 M2 where
  tup := fun c vs h => b.tup c vs (a.tup c vs h)
  frz := fun c o u h => b.frz c o u (a.frz c o u h)
  fr := fun c o h n => by
    cases e : isTbl o with
    | false => exact b.fr c o (a.st c o h n e) (a.fr c o h n)
    | true =>
      cases o with
      | tbl ps => obtain ⟨more, q⟩ := a.tb c ps h; exact b.fr c _ q (a.fr c _ h n)
      | _ => cases e
  st := fun c o h n e => b.st c o (a.st c o h n e) (a.fr c o h n) e
  tb := fun c ps h => by
    obtain ⟨m1, q1⟩ := a.tb c ps h
    obtain ⟨m2, q2⟩ := b.tb c _ q1
    exact ⟨m1 ++ m2, by rw [q2, Array.append_assoc]⟩
  dom := fun c o h => by
    obtain ⟨u, q⟩ := a.dom c o h
    exact b.dom c u q
/-- what the memory sees is no tuple, no locked thing but a read-only one, no table -/
theorem Sim.not_tup {a : Addr} {o : MO} {xs : List V} (s : Sim K H M) (h : M a = some o) : H a ≠ some (.tup xs) := fun e => by
  have q := s a o h
  cases o with
  | lst ds => obtain ⟨vs, q, _⟩ := q; rw [e] at q; cases q
  | ins C dx fs => obtain ⟨vs, q, _⟩ := q; rw [e] at q; cases q
  | dk kvs => obtain ⟨vs, q, _⟩ := q; rw [e] at q; cases q
  | tab nm => obtain ⟨vs, q, _⟩ := q; rw [e] at q; cases q
  | lam L => obtain ⟨dV, c, q, _⟩ := q; rw [e] at q; unfold LamO at q; cases q
  | oth o => obtain ⟨q, n, _⟩ := q; rw [e] at q; cases q; exact n _ rfl
theorem ext_tab {nm : Nat → Nat → Str} {P : Addr} (k : ∀ b o, H b = some o → (∀ xs, o ≠ .lst xs) → (∀ xs, o ≠ .dK xs) → (∀ C d fs, o ≠ .ins C d fs) → H' b = some o) (h : NdefX.TabN H P nm) : NdefX.TabN H' P nm := by
  obtain ⟨ps, h1, h2, h3⟩ := h
  refine ⟨ps, k P _ h1 (fun _ z => nomatch z) (fun _ z => nomatch z) (fun _ _ _ z => nomatch z), h2, fun pos cv q => ?_⟩
  obtain ⟨c, e, q⟩ := h3 pos cv q
  exact ⟨c, e, k c _ q (fun _ z => nomatch z) (fun _ z => nomatch z) fun _ _ _ z => nomatch z⟩
theorem Hfree {a b : Addr} {o : HO} (h : H a = some o) (h' : H b = none) : a ≠ b := fun e => by rw [e, h'] at h; cases h
theorem Sim.free {a : Addr} (s : Sim K H M) (h : H a = none) : M a = none := by
  cases e : M a with
  | none => rfl
  | some o =>
    have q := s a o e
    cases o with
    | lst ds => obtain ⟨vs, q, _⟩ := q; rw [h] at q; cases q
    | ins C dx fs => obtain ⟨vs, q, _⟩ := q; rw [h] at q; cases q
    | dk kvs => obtain ⟨vs, q, _⟩ := q; rw [h] at q; cases q
    | tab nm => obtain ⟨vs, q, _⟩ := q; rw [h] at q; cases q
    | lam L => obtain ⟨dV, c, q, _⟩ := q; rw [h] at q; cases q
    | oth o => obtain ⟨q, _⟩ := q; rw [h] at q; cases q
/-- a new thing, not seen by the memory | seen by it -/
theorem Tr.new {p : Addr} {o : HO} (hp : H p = none) : Tr H M (upd H p o) M :=
  ⟨fun a vs h => by rw [upd_ne (Hfree h hp)]; exact h, fun a ob u h => by rw [upd_ne (Hfree h hp)]; exact h, fun _ _ _ h => h, fun a ob h _ _ => by rw [upd_ne (Hfree h hp)]; exact h,
    fun a ps h => ⟨#[], by rw [upd_ne (Hfree h hp), h]; simp⟩, fun b u h => ⟨u, by rw [upd_ne (Hfree h hp)]; exact h⟩⟩
theorem Tr.newM {p : Addr} {o : HO} {mo : MO} (hp : H p = none) : Tr H M (upd H p o) (mupd M p mo) :=
  ⟨fun a vs h => by rw [upd_ne (Hfree h hp)]; exact h, fun a ob u h => by rw [upd_ne (Hfree h hp)]; exact h, fun a ob h n => by rw [mupd_ne (Hfree h hp)]; exact n, fun a ob h _ _ => by rw [upd_ne (Hfree h hp)]; exact h,
    fun a ps h => ⟨#[], by rw [upd_ne (Hfree h hp), h]; simp⟩, fun b u h => ⟨u, by rw [upd_ne (Hfree h hp)]; exact h⟩⟩
theorem MOk.mono {a : Addr} {o : MO} (h : MOk K H a o) (k : ∀ b o, H b = some o → (∀ xs, o ≠ .lst xs) → (∀ xs, o ≠ .dK xs) → (∀ C d fs, o ≠ .ins C d fs) → H' b = some o) (t : ∀ a vs, H a = some (.tup vs) → H' a = some (.tup vs)) (f : ∀ a o u, H a = some (.frz o u) → H' a = some (.frz o u)) (s : ∀ u, H a = some u → H' a = some u) : MOk K H' a o := by
  cases o with
  | lst ds => obtain ⟨vs, q, r⟩ := h; exact ⟨vs, s _ q, r.mono0 t f⟩
  | ins C dx fs => obtain ⟨vs, q, r⟩ := h; exact ⟨vs, s _ q, FReps.mono0 t f r⟩
  | dk kvs => obtain ⟨vs, q, r⟩ := h; exact ⟨vs, s _ q, FReps.mono0 t f r⟩
  | tab nm => exact ext_tab k h
  | lam L =>
    obtain ⟨dV, c, q1, q2, q3⟩ := h
    refine ⟨dV, c, s _ q1, k _ _ q2 (fun _ z => by unfold LamX.CodeO at z; cases z) (fun _ z => by unfold LamX.CodeO at z; cases z) (fun _ _ _ z => by unfold LamX.CodeO at z; cases z), ?_⟩
    rcases q3 with q3 | ⟨i, dt, e1, e2, e3⟩
    · exact .inl q3
    · exact .inr ⟨i, dt, e1, e2, t _ _ e3⟩
  | oth o => obtain ⟨q, r⟩ := h; exact ⟨s _ q, r⟩
theorem Sim.new {p : Addr} {o : HO} (s : Sim K H M) (hp : H p = none) : Sim K (upd H p o) M := fun a u h =>
  (s a u h).mono (fun b u h _ _ _ => by rw [upd_ne (Hfree h hp)]; exact h) (fun a vs h => by rw [upd_ne (Hfree h hp)]; exact h) (fun a ob u h => by rw [upd_ne (Hfree h hp)]; exact h) fun w h => by rw [upd_ne (Hfree h hp)]; exact h
theorem Sim.newM {p : Addr} {o : HO} {mo : MO} (s : Sim K H M) (hp : H p = none) (h : MOk K (upd H p o) p mo) : Sim K (upd H p o) (mupd M p mo) := fun a u e => by
  by_cases ha : a = p
  · subst ha; rw [mupd_same] at e; cases e; exact h
  · rw [mupd_ne ha] at e; exact s.new hp a u e
/-- a thing that the memory sees is written -/
def wkind : HO → Bool
  | .lst _ | .dK _ | .ins _ _ _ => true
  | _ => false
section
variable {p : Addr} {o u : HO} {mo mu : MO} (hm : M p = some mo) (hu : H p = some u) (hk : wkind u = true)
include hu hk
theorem ne_w {a : Addr} {v : HO} (h : H a = some v) (n : wkind v = false) : a ≠ p := fun e => by
  rw [e, hu] at h; cases h; rw [hk] at n; cases n
theorem ne_wk (b : Addr) (v : HO) (h : H b = some v) (h1 : ∀ xs, v ≠ .lst xs) (h2 : ∀ xs, v ≠ .dK xs) (h3 : ∀ C d fs, v ≠ .ins C d fs) : upd H p o b = some v := by
  rw [upd_ne (fun e => ?_)]; exact h
  rw [e, hu] at h; cases h
  cases u <;> first | exact h1 _ rfl | exact h2 _ rfl | exact h3 _ _ _ rfl | cases hk
include hm
theorem Tr.wr : Tr H M (upd H p o) (mupd M p mu) :=
  ⟨fun a vs h => by rw [upd_ne (ne_w hu hk h rfl)]; exact h, fun a ob w h => by rw [upd_ne (ne_w hu hk h rfl)]; exact h,
    fun a ob h n => by rw [mupd_ne (fun e => by rw [e, hm] at n; cases n)]; exact n, fun a ob h n _ => by rw [upd_ne (fun e => by rw [e, hm] at n; cases n)]; exact h,
    fun a ps h => ⟨#[], by rw [upd_ne (ne_w hu hk h rfl), h]; simp⟩, fun b v h => by
      by_cases e : b = p
      · subst e; exact ⟨o, upd_same⟩
      · exact ⟨v, by rw [upd_ne e]; exact h⟩⟩
theorem Sim.wr (s : Sim K H M) (h : MOk K (upd H p o) p mu) : Sim K (upd H p o) (mupd M p mu) := fun a w e => by
  by_cases ha : a = p
  · subst ha; rw [mupd_same] at e; cases e; exact h
  · rw [mupd_ne ha] at e
    exact (s a w e).mono (ne_wk hu hk) (fun a vs h => by rw [upd_ne (ne_w hu hk h rfl)]; exact h) (fun a ob w h => by rw [upd_ne (ne_w hu hk h rfl)]; exact h) fun z h => by rw [upd_ne ha]; exact h
end
/-- what is forgotten -/
def MLe (M M' : Mem) : Prop := ∀ a o, M a = some o → M' a = some o
theorem MLe.refl (M : Mem) : MLe M M := fun _ _ h => h
theorem MLe.trans (a : MLe M M') (b : MLe M' M2) : MLe M M2 := fun c o h => b c o (a c o h)
theorem MLe.new {p : Addr} {mo : MO} (h : M p = none) : MLe M (mupd M p mo) := fun a o e => by
  rw [mupd_ne (fun z => by rw [z, h] at e; cases e)]; exact e
theorem Sim.le (s : Sim K H M') (l : MLe M M') : Sim K H M := fun a o h => s a o (l a o h)
theorem Tr.fresh (t : Tr H M H' M') {a : Addr} (h : H' a = none) : H a = none := by
  cases e : H a with
  | none => rfl
  | some o => obtain ⟨u, q⟩ := t.dom a o e; rw [h] at q; cases q
theorem Tr.le {M0 : Mem} (t : Tr H M H' M') (l : MLe M0 M') : Tr H M H' M0 := by
  refine ⟨t.tup, t.frz, fun a o h n => ?_, t.st, t.tb, t.dom⟩
  cases e : M0 a with
  | none => rfl
  | some u =>
    have := l a u e
    rw [t.fr a o h n] at this
    cases this

/-! ### slots -/
abbrev DSt := List (Option D)
inductive DvL (K : PySem.W.Frag) (H : Hp) : St → DSt → Prop
  | nil : DvL K H [] []
  | no {v : Option V} {σ : St} {ρ : DSt} : DvL K H σ ρ → DvL K H (v :: σ) (none :: ρ)
  | yes {v : V} {d : D} {σ : St} {ρ : DSt} : Rep K H v d → DvL K H σ ρ → DvL K H (some v :: σ) (some d :: ρ)
theorem DvL.mono0 (t : ∀ a vs, H a = some (.tup vs) → H' a = some (.tup vs)) (f : ∀ a o u, H a = some (.frz o u) → H' a = some (.frz o u)) {σ : St} {ρ : DSt} (h : DvL K H σ ρ) : DvL K H' σ ρ := by
  induction h with
  | nil => exact .nil
  | no _ ih => exact .no ih
  | yes r _ ih => exact .yes (r.mono0 t f) ih
theorem DvL.mono {σ : St} {ρ : DSt} (h : DvL K H σ ρ) (t : Tr H M H' M') : DvL K H' σ ρ := h.mono0 t.tup t.frz
theorem DvL.get {σ : St} {ρ : DSt} (h : DvL K H σ ρ) : ∀ {i : Nat} {d : D}, ρ[i]? = some (some d) → ∃ v, σ[i]? = some (some v) ∧ Rep K H v d := by
  induction h with
  | nil => intro i d e; simp at e
  | no _ ih =>
    intro i d e
    cases i with
    | zero => simp at e
    | succ i => simpa using ih (by simpa using e)
  | @yes v d' _ _ r _ ih =>
    intro i d e
    cases i with
    | zero => simp at e; subst e; exact ⟨_, rfl, r⟩
    | succ i => simpa using ih (by simpa using e)
theorem DvL.set {σ : St} {ρ : DSt} {v : V} {d : D} (r : Rep K H v d) (h : DvL K H σ ρ) : ∀ i : Nat, DvL K H (σ.set i (some v)) (ρ.set i (some d)) := by
  induction h with
  | nil => intro i; exact .nil
  | no g ih =>
    intro i
    cases i with
    | zero => exact .yes r g
    | succ i => exact .no (ih i)
  | yes q g ih =>
    intro i
    cases i with
    | zero => exact .yes r g
    | succ i => exact .yes q (ih i)
theorem DvL.setN {σ : St} {ρ : DSt} (h : DvL K H σ ρ) : ∀ i : Nat, DvL K H (σ.set i none) (ρ.set i none) := by
  induction h with
  | nil => intro i; exact .nil
  | no g ih =>
    intro i
    cases i with
    | zero => exact .no g
    | succ i => exact .no (ih i)
  | yes q g ih =>
    intro i
    cases i with
    | zero => exact .no g
    | succ i => exact .yes q (ih i)
def dwipe (ρ : DSt) : List Nat → DSt
  | [] => ρ
  | v :: vs => (dwipe ρ vs).set v none
theorem DvL.wipe {σ : St} {ρ : DSt} (h : DvL K H σ ρ) : ∀ vs : List Nat, DvL K H (wipe σ vs) (dwipe ρ vs)
  | [] => h
  | v :: vs => (DvL.wipe h vs).setN v
theorem DvL.start : ∀ {vs : List V} {ds : List D}, Reps K H vs ds → ∀ (n : Nat), DvL K H (vs.map some ++ List.replicate n none) (ds.map some ++ List.replicate n none)
  | _, _, .nil, 0 => .nil
  | _, _, .nil, n + 1 => .no (DvL.start .nil n)
  | _, _, .cons r t, n => .yes r (DvL.start t n)
theorem Reps.length {vs : List V} {ds : List D} (h : Reps K H vs ds) : vs.length = ds.length := by
  induction ds generalizing vs with
  | nil => cases h; rfl
  | cons d ds ih => cases h with | cons r t => simp [ih t]
theorem Reps.get {vs : List V} {ds : List D} (h : Reps K H vs ds) : ∀ {i : Nat} {d : D}, ds[i]? = some d → ∃ v, vs[i]? = some v ∧ Rep K H v d := by
  induction ds generalizing vs with
  | nil => intro i d e; simp at e
  | cons c ds ih =>
    intro i d e
    cases h with
    | cons r t =>
      cases i with
      | zero => simp at e; subst e; exact ⟨_, rfl, r⟩
      | succ i => simpa using ih t (by simpa using e)
theorem Reps.append : ∀ {vs ws : List V} {ds es : List D}, Reps K H vs ds → Reps K H ws es → Reps K H (vs ++ ws) (ds ++ es)
  | _, _, _, _, .nil, s => s
  | _, _, _, _, .cons r t, s => .cons r (Reps.append t s)
theorem Reps.take : ∀ {vs : List V} {ds : List D} (n : Nat), Reps K H vs ds → Reps K H (vs.take n) (ds.take n)
  | _, _, 0, _ => .nil
  | _, _, _ + 1, .nil => .nil
  | _, _, n + 1, .cons r t => .cons r (Reps.take n t)
theorem Reps.drop : ∀ {vs : List V} {ds : List D} (n : Nat), Reps K H vs ds → Reps K H (vs.drop n) (ds.drop n)
  | _, _, 0, r => r
  | _, _, _ + 1, .nil => .nil
  | _, _, n + 1, .cons _ t => Reps.drop n t
theorem Reps.set {v : V} {d : D} (r : Rep K H v d) : ∀ {vs : List V} {ds : List D} (i : Nat), Reps K H vs ds → Reps K H (vs.set i v) (ds.set i d)
  | _, _, _, .nil => .nil
  | _, _, 0, .cons _ t => .cons r t
  | _, _, i + 1, .cons q t => .cons q (Reps.set r i t)
theorem Reps.flat : ∀ (n : Nat) {vs : List V} {ds : List D}, Reps K H vs ds → Reps K H (List.replicate n vs).flatten (List.replicate n ds).flatten
  | 0, _, _, _ => .nil
  | n + 1, _, _, h => by
    rw [List.replicate_succ, List.replicate_succ, List.flatten_cons, List.flatten_cons]
    exact h.append (Reps.flat n h)
theorem Reps.dropLast : ∀ {vs : List V} {ds : List D}, Reps K H vs ds → Reps K H vs.dropLast ds.dropLast
  | _, _, .nil => .nil
  | _, _, .cons _ .nil => .nil
  | _, _, .cons r (.cons q t) => by
    show Reps K H (_ :: List.dropLast (_ :: _)) (_ :: List.dropLast (_ :: _))
    exact .cons r (Reps.dropLast (.cons q t))
theorem Reps.reverse {vs : List V} {ds : List D} (h : Reps K H vs ds) : Reps K H vs.reverse ds.reverse := by
  induction ds generalizing vs with
  | nil => cases h; exact .nil
  | cons d ds ih => cases h with | cons r t => rw [List.reverse_cons, List.reverse_cons]; exact (ih t).append (.cons r .nil)

/-! ### exceptions, wishes -/
abbrev XD := Value → List (Str × D) → Mem → Prop
def XRep (K : PySem.W.Frag) (H : Hp) (od : Option Addr) (fs : List (Str × D)) : Prop := (od = none ∧ fs = []) ∨ ∃ dx vs, od = some dx ∧ H dx = some (.xd vs) ∧ FReps K H vs fs
def wUp (K : PySem.W.Frag) (W : WX) (σ : St) (H : Hp) (M : Mem) (E : XD) : Prop := ∀ cls fs M', E cls fs M' → ∀ od H', XRep K H' od fs → Sim K H' M' → Tr H M H' M' → W cls od σ H'
theorem wUp.mono {W : WX} {σ : St} {E : XD} (h : wUp K W σ H M E) (t : Tr H M H' M') : wUp K W σ H' M' E := fun c f m e o h2 x s t2 => h c f m e o h2 x s (t.trans t2)
def qUp (K : PySem.W.Frag) (H : Hp) (M : Mem) (Q0 : D → Mem → Prop) (Q : VK) : Prop := ∀ d M', Q0 d M' → ∀ v H', Rep K H' v d → Sim K H' M' → Tr H M H' M' → Q v H'
theorem qUp.mono {Q0 : D → Mem → Prop} {Q : VK} (h : qUp K H M Q0 Q) (t : Tr H M H' M') : qUp K H' M' Q0 Q := fun d m q v h2 r s t2 => h d m q v h2 r s (t.trans t2)

abbrev TDE := DSt → Mem → (D → Mem → Prop) → XD → Prop
abbrev TDT := DSt → Mem → (Bool → Mem → Prop) → XD → Prop
abbrev TDA := DSt → Mem → (List D → Mem → Prop) → XD → Prop
end
def upE (K : PySem.W.Frag) (W : WX) (td : TDE) : TE := fun σ H Q => ∃ ρ M Q0 E0, DvL K H σ ρ ∧ Sim K H M ∧ td ρ M Q0 E0 ∧ qUp K H M Q0 Q ∧ wUp K W σ H M E0
def upT (K : PySem.W.Frag) (W : WX) (td : TDT) : TT := fun σ H Q => ∃ ρ M Q0 E0, DvL K H σ ρ ∧ Sim K H M ∧ td ρ M Q0 E0 ∧ (∀ b M', Q0 b M' → ∀ H', Sim K H' M' → Tr H M H' M' → Q b H') ∧ wUp K W σ H M E0
def upA (K : PySem.W.Frag) (W : WX) (td : TDA) : TA := fun σ H Q => ∃ ρ M Q0 E0, DvL K H σ ρ ∧ Sim K H M ∧ td ρ M Q0 E0 ∧ (∀ ds M', Q0 ds M' → ∀ vs H', Reps K H' vs ds → Sim K H' M' → Tr H M H' M' → Q vs H') ∧ wUp K W σ H M E0
/-- an expression, a test, arguments, by data -/
def DE (X : Cx) (W : WX) (e : Expr) (td : TDE) : Prop := PE X e (upE X.K W td)
def DT (X : Cx) (W : WX) (e : Expr) (td : TDT) : Prop := PT X e (upT X.K W td)
def DA (X : Cx) (W : WX) (es : List Expr) (td : TDA) : Prop := PA X es (upA X.K W td)
theorem PE.imp {X : Cx} {e : Expr} {t t' : TE} (h : PE X e t) (k : ∀ σ H Q, t' σ H Q → t σ H Q) : PE X e t' := ⟨fun pins s σ H Q I q => h.run pins s σ H Q I (k σ H Q q)⟩
theorem PT.imp {X : Cx} {e : Expr} {t t' : TT} (h : PT X e t) (k : ∀ σ H Q, t' σ H Q → t σ H Q) : PT X e t' := ⟨fun pins s σ H Q I q => h.run pins s σ H Q I (k σ H Q q)⟩
theorem PA.imp {X : Cx} {e : List Expr} {t t' : TA} (h : PA X e t) (k : ∀ σ H Q, t' σ H Q → t σ H Q) : PA X e t' := ⟨fun pos pins s σ H Q I q => h.run pos pins s σ H Q I (k σ H Q q)⟩
theorem PW.imp {X : Cx} {e : Expr} {t t' : TT} (h : PW X e t) (k : ∀ σ H Q, t' σ H Q → t σ H Q) : PW X e t' := ⟨fun w pins s σ H Q I q => h.run w pins s σ H Q I (k σ H Q q)⟩

/-! ### names, constants -/
section
variable {X : Cx} {W : WX} {pos : Pos}
def tdVar (i : Nat) : TDE := fun ρ M Q _ => match ρ.getD i none with | some d => Q d M | none => False
def tdC (d : D) : TDE := fun _ M Q _ => Q d M
theorem getD_some {ρ : DSt} {i : Nat} {d : D} (h : ρ.getD i none = some d) : ρ[i]? = some (some d) := by
  rw [List.getD_eq_getElem?_getD] at h
  cases e : ρ[i]? with
  | none => rw [e] at h; cases h
  | some o => rw [e] at h; simp at h; rw [h]
theorem de_var {e : Expr} {i : Nat} (h : PE X e (tVar i)) : DE X W e (tdVar i) := PE.imp h fun σ H Q ⟨ρ, M, Q0, E0, dv, sm, q, hq, _⟩ => by
  unfold tdVar at q
  cases e : ρ.getD i none with
  | none => rw [e] at q; exact q.elim
  | some d =>
    rw [e] at q
    obtain ⟨v, e1, r⟩ := dv.get (getD_some e)
    exact ⟨v, e1, hq d M q v H r sm (Tr.refl H M)⟩
theorem dv (i : Nat) {x : Str} (hN : X.N[i]? = some x := by rfl) (hv : Vis X.env.scope x := by first | exact Or.inl rfl | exact Or.inr (Or.inl rfl) | exact Or.inr (Or.inr rfl)) (hd : (x == ("__debug__" : Str)) = false := by decide)
    (hcd : (x == ("__classdict__" : Str)) = false := by decide) : DE X W (.Name x pos) (tdVar i) := de_var (pe_var hN hv hd hcd)
theorem de_c {e : Expr} {v : V} {d : D} (h : PE X e (tC v)) (r : ∀ H, Rep X.K H v d) : DE X W e (tdC d) := PE.imp h fun σ H Q ⟨ρ, M, Q0, E0, dv, sm, q, hq, _⟩ => hq d M q v H (r H) sm (Tr.refl H M)
theorem de_int {i j} : DE X W (.Constant (.int i) j pos) (tdC (.int i)) := de_c pe_int fun _ => .int i
theorem de_bl {b j} : DE X W (.Constant (.bool b) j pos) (tdC (.bl b)) := de_c pe_bl fun _ => .bl b
theorem de_non {j} : DE X W (.Constant .none j pos) (tdC .non) := de_c pe_non fun _ => .non
theorem de_str {x j} : DE X W (.Constant (.str x) j pos) (tdC (.str x)) := de_c pe_str fun _ => .str x
/-- a module's constant -/
structure GC (mg : Str → Option Value) (x : Str) (v : V) : Prop where
  ex : ∃ u, mg x = some u ∧ RelV v u
theorem de_glob {x : Str} {v : V} {d : D} (g : GC X.mg x v) (r : ∀ H, Rep X.K H v d) (hg : Gl X x := by rfl) (hd : (x == ("__debug__" : Str)) = false := by decide) : DE X W (.Name x pos) (tdC d) := by
  obtain ⟨u, h, q⟩ := g.ex
  exact de_c (pe_glob hg h q hd) r

/-! ### operators -/
abbrev RD2 := D → D → Mem → (D → Mem → Prop) → Prop
def LiftR (K : PySem.W.Frag) (r : R2) (rd : RD2) : Prop := ∀ x y H M dx dy Q0 Q, Rep K H x dx → Rep K H y dy → Sim K H M → rd dx dy M Q0 → qUp K H M Q0 Q → r x y H Q
def tdOp (rd : RD2) (ta tb : TDE) : TDE := fun ρ M Q E => ta ρ M (fun x M1 => tb ρ M1 (fun y M2 => rd x y M2 Q) E) E
variable {a b c : Expr} {ta tb tc : TDE}
theorem up_two {K : PySem.W.Frag} {r : R2} {rd : RD2} (l : LiftR K r rd) {σ : St} {H : Hp} {Q : VK} (h : upE K W (tdOp rd ta tb) σ H Q) : tOp r (upE K W ta) (upE K W tb) σ H Q := by
  obtain ⟨ρ, M, Q0, E0, dv, sm, q, hq, he⟩ := h
  refine ⟨ρ, M, _, E0, dv, sm, q, fun d1 M1 q1 x H1 r1 s1 t1 => ?_, he⟩
  refine ⟨ρ, M1, _, E0, dv.mono t1, s1, q1, fun d2 M2 q2 y H2 r2 s2 t2 => ?_, he.mono t1⟩
  exact l x y H2 M2 d1 d2 Q0 Q (r1.mono t2) r2 s2 q2 (hq.mono (t1.trans t2))
theorem de_op {op : Operator} {r : R2} {rd : RD2} (ho : OpR X (binaryOp op) r) (l : LiftR X.K r rd) (ha : DE X W a ta) (hb : DE X W b tb) : DE X W (.BinOp a op b pos) (tdOp rd ta tb) := PE.imp (pe_op ho ha hb) fun _ _ _ h => up_two l h
theorem de_cmp {op : CmpOp} {r : R2} {rd : RD2} (ho : OpR X (compareOp op) r) (l : LiftR X.K r rd) (ha : DE X W a ta) (hb : DE X W b tb) (hm : behindInMarks op b = false := by first | exact nomark _ | rfl) : DE X W (.Compare a [op] [b] pos) (tdOp rd ta tb) := PE.imp (pe_cmpR ho ha hb hm) fun _ _ _ h => up_two l h
def tdTest (t : TDE) : TDT := fun ρ M Q E => t ρ M (fun x M' => match x with | .bl k => Q k M' | _ => False) E
theorem up_test {K : PySem.W.Frag} {t : TDE} {σ : St} {H : Hp} {Q : Bool → Hp → Prop} (h : upT K W (tdTest t) σ H Q) : upE K W t σ H (fun x H1 => ∃ k, x = .bl k ∧ Q k H1) := by
  obtain ⟨ρ, M, Q0, E0, dv, sm, q, hq, he⟩ := h
  refine ⟨ρ, M, _, E0, dv, sm, q, fun d1 M1 q1 x H1 r1 s1 t1 => ?_, he⟩
  cases d1 with
  | bl k => cases r1; exact ⟨k, rfl, hq k M1 q1 H1 s1 t1⟩
  | _ => exact q1.elim
theorem dt_cmp {op : CmpOp} {r : R2} {rd : RD2} (ho : OpR X (compareOp op) r) (l : LiftR X.K r rd) (ha : DE X W a ta) (hb : DE X W b tb) (hm : behindInMarks op b = false := by first | exact nomark _ | rfl) : DT X W (.Compare a [op] [b] pos) (tdTest (tdOp rd ta tb)) :=
  PT.imp (pt_cmpR ho ha hb hm) fun σ H Q h => up_two l (up_test h)
theorem dt_val {t : TDE} (h : DE X W a t) (he : ∀ whole, isTrue a X.env whole = (do let v ← whole; standAt a.pos; holding [v] (truthy v)) := by intro _; rfl) : DT X W a (tdTest t) := PT.imp (pt_val h he) fun _ _ _ h => up_test h
end
end TD

namespace TD
open PySem PySem.Spec PyProof.Rows L2
/-! ### a tuple taken once or not at all -/
theorem tuple_mul1 (l : Addr) (items : Array Value) (n : Nat) (dd : Option Addr) (sl : Array (Option Value)) (u : Tok) :
    Meets (Builtin.«tuple.__mul__» ⟨[.ref l, .int 1 u], []⟩) (fun _ R s => s.heap.get? l = some { cls := .type "tuple", dict := dd, data := .seq items n, slots := sl } ∧ R (.ok (.ret (Value.ref l))) s) :=
  .of_wp fun prog w A R s h => by
    obtain ⟨hp, g, d, tk, os⟩ := s
    obtain ⟨hl, h⟩ := h
    have f1 := AutoSeq1.idx_int
    have c0 : (decide ((1 : Int) < -(2 ^ 63)) || decide ((1 : Int) ≥ 2 ^ 63)) = false := by decide
    have c1 : (items.isEmpty || (1 : Int) == 1) = true := by simp
    wp_walk using wpAny_loadPart' hl
    repeat (first
      | (refine wpAny_ite_false (decide_eq_false (by rw [c0]; exact Bool.false_ne_true)) ?_; wp_walk using wpAny_loadPart' hl)
      | (refine wpAny_ite_true (decide_eq_true c1) ?_; wp_walk using wpAny_loadPart' hl))
    exact ⟨_, rfl, h⟩
theorem tuple_mul0 (l : Addr) (items : Array Value) (n : Nat) (dd : Option Addr) (sl : Array (Option Value)) (x : Int) (u : Tok) (c0 : (decide (x < -(2 ^ 63)) || decide (x ≥ 2 ^ 63)) = false) (c1 : (items.isEmpty || x == 1) = false) (c2 : (decide (x ≤ 0) || items.isEmpty) = true) :
    Meets (Builtin.«tuple.__mul__» ⟨[.ref l, .int x u], []⟩) (fun _ R s => s.heap.get? l = some { cls := .type "tuple", dict := dd, data := .seq items n, slots := sl } ∧
      R (.ok (.ret (Value.ref s.heap.objs.size))) { s with heap := s.heap.push { cls := Value.type "tuple", data := Data.seq #[] }, toks := s.toks }) :=
  .of_wp fun prog w A R s h => by
    obtain ⟨hp, g, d, tk, os⟩ := s
    obtain ⟨hl, h⟩ := h
    have f1 := AutoSeq1.idx_int
    wp_walk using wpAny_loadPart' hl
    repeat (first
      | (refine wpAny_ite_false (decide_eq_false (by rw [c0]; exact Bool.false_ne_true)) ?_; wp_walk using wpAny_loadPart' hl)
      | (refine wpAny_ite_false (decide_eq_false (by rw [c1]; exact Bool.false_ne_true)) ?_; wp_walk using wpAny_loadPart' hl)
      | (refine wpAny_ite_true (decide_eq_true c2) ?_; wp_walk using wpAny_loadPart' hl))
    exact ⟨_, rfl, h⟩
def rRepS (K : PySem.W.Frag) : R2 := fun x y H Q => ∃ l k xs, x = .ref l ∧ y = .int k ∧ SqT K H l xs ∧ xs ≠ [] ∧ -1000 ≤ k ∧ k ≤ 1 ∧ (k = 1 → Q (.ref l) H) ∧ (k ≤ 0 → ∀ p, H p = none → Q (.ref p) (upd H p (.tup [])))
theorem op_repS {X : Cx} : OpR X (binaryOp .Mult) (rRepS X.K) := by
  intro pins s σ H x y v u Q I rx ry h
  obtain ⟨l, k, xs, rfl, rfl, hT, hne, h1, h2, q1, q0⟩ := h
  cases rx
  obtain ⟨t, rfl⟩ := ry
  obtain ⟨its, r, ⟨⟨cls, dd, data, sl⟩, ho, hc, n, hd⟩, hs⟩ := I.tuple hT
  simp only at hc hd
  subst hc hd
  have hle : its.length = xs.length := r.length.symm
  have hn : its ≠ [] := fun e => hne (by
    rw [e] at hle
    exact List.eq_nil_of_length_eq_zero hle.symm)
  have hi : its.toArray.isEmpty = false := by
    cases its with
    | nil => exact absurd rfl hn
    | cons a b => rfl
  by_cases hk : k = 1
  · subst hk
    refine wpAny_binaryOp_repeat_ref (T := "tuple") (U := "int") (by decide) ⟨_, ho, rfl⟩ (fun s' => typeIs_int s' 1 t) noFill_tuple_mul F.fills_int_mul F.slot_int_rmul repeat_tuple F.slot_int_index.lookup
      (call_meets F.slot_int_rmul (typeIs_int s 1 t) F.entry_int_rmul (F.args_int_rmul_2 _ _) (int_rmul_tuple 1 t l its.toArray n dd sl)
        ⟨ho, rfl, ⟨_, ho, rfl⟩, call_meets F.slot_tuple_mul ⟨_, ho, rfl⟩ F.entry_tuple_mul (F.args_tuple_mul_2 _ _) (tuple_mul1 l its.toArray n dd sl t) ⟨ho, ?_⟩⟩)
    exact ⟨.ref l, H, I, rfl, q1 rfl⟩
  · have c0 : (decide (k < -(2 ^ 63)) || decide (k ≥ 2 ^ 63)) = false := by
      rw [decide_eq_false (by omega), decide_eq_false (by omega)] <;> rfl
    have c1 : (its.toArray.isEmpty || k == 1) = false := by
      rw [hi, Bool.false_or]
      exact beq_eq_false_iff_ne.mpr hk
    have c2 : (decide (k ≤ 0) || its.toArray.isEmpty) = true := by rw [decide_eq_true (show k ≤ 0 by omega)] <;> rfl
    refine wpAny_binaryOp_repeat_ref (T := "tuple") (U := "int") (by decide) ⟨_, ho, rfl⟩ (fun s' => typeIs_int s' k t) noFill_tuple_mul F.fills_int_mul F.slot_int_rmul repeat_tuple F.slot_int_index.lookup
      (call_meets F.slot_int_rmul (typeIs_int s k t) F.entry_int_rmul (F.args_int_rmul_2 _ _) (int_rmul_tuple k t l its.toArray n dd sl)
        ⟨ho, rfl, ⟨_, ho, rfl⟩, call_meets F.slot_tuple_mul ⟨_, ho, rfl⟩ F.entry_tuple_mul (F.args_tuple_mul_2 _ _) (tuple_mul0 l its.toArray n dd sl k t c0 c1 c2) ⟨ho, ?_⟩⟩)
    refine ⟨.ref s.heap.objs.size, _, I.laid (t' := s.toks) (o := .tup []) (fun b ob q => Heap.get?_push_of_some _ q) (Nat.le_refl _) ?_, rfl, q0 (by omega) _ (I.hok.fresh (Nat.le_refl _))⟩
    exact ⟨Nat.zero_le _, [], .nil, IsTup.new _ _⟩
end TD

namespace TD
open PySem L2

/-! ### sizes of ints: opaque bounds -/
def BigE : Nat := 400000
@[irreducible] def Big (i : Int) : Prop := i.natAbs < 2 ^ BigE
theorem big_of {i : Int} {n : Nat} (h : i.natAbs < 2 ^ n) (hn : n ≤ 400000 := by decide) : Big i := by
  unfold Big BigE
  exact Nat.lt_of_lt_of_le h (Nat.pow_le_pow_right (by decide) hn)
theorem Big.of64 {i : Int} (h1 : -(2 ^ 64) < i) (h2 : i < 2 ^ 64) : Big i := big_of (n := 64) (by omega)
theorem Big.of200 {i : Int} (h1 : -(2 ^ 200) < i) (h2 : i < 2 ^ 200) : Big i := big_of (n := 200) (by omega)
theorem Big.mulW {i j : Int} (hi : Big i) (hj : Big j) : CMulW i j := by
  unfold Big BigE at hi hj
  exact wide_mul hi hj (by decide) (by decide) (by decide)
def DivOk (j : Int) : Prop := 0 < j ∧ j.natAbs < 2 ^ 9000
theorem DivOk.of {j : Int} (h : 0 < j) (h2 : j < 2 ^ 200) : DivOk j := ⟨h, Nat.lt_of_lt_of_le (show j.natAbs < 2 ^ 200 by omega) (Nat.pow_le_pow_right (by decide) (by decide))⟩

section
variable {K : PySem.W.Frag} {X : Cx}
/-! ### + -/
def rdAdd0 : RD2
  | .int i, .int j, M, Q => Q (.int (i + j)) M
  | .str x, .str y, M, Q => x.length + y.length ≤ sizeLine ∧ Q (.str (x ++ y)) M
  | .tup xs, .tup ys, M, Q => xs.length + ys.length ≤ sizeLine ∧ Q (.tup (xs ++ ys)) M
  | .ref a, .ref b, M, Q => match M a, M b with
    | some (.lst xs), some (.lst ys) => xs.length + ys.length ≤ sizeLine ∧ ∀ p, M p = none → Q (.ref p) (mupd M p (.lst (xs ++ ys)))
    | _, _ => False
  | _, _, _, _ => False
def rAddAll (K : PySem.W.Frag) : R2 := fun x y H Q => rI0 (fun i j => .int (i + j)) x y H Q ∨ (∃ i j, x = .str i ∧ y = .str j ∧ i.length + j.length ≤ sizeLine ∧ Q (.str (i ++ j)) H) ∨ rCatA K x y H Q ∨ rCat x y H Q
theorem op_addAll : OpR X (binaryOp .Add) (rAddAll X.K) := op_add.or (op_add_str.or (op_catA.or op_cat))
theorem Sim.lst {H : Hp} {M : Mem} (s : Sim K H M) {a : Addr} {ds : List D} (h : M a = some (.lst ds)) : ∃ vs, H a = some (.lst vs) ∧ Reps K H vs ds := s a _ h
theorem lstNew {H : Hp} {M : Mem} {Q0 : D → Mem → Prop} {Q : VK} {vs : List V} {ds : List D} {p : Addr} (s : Sim K H M) (r : Reps K H vs ds) (hq : qUp K H M Q0 Q) (h : ∀ p, M p = none → Q0 (.ref p) (mupd M p (.lst ds))) (hp : H p = none) : Q (.ref p) (upd H p (.lst vs)) := by
  have t : Tr H M (upd H p (.lst vs)) (mupd M p (.lst ds)) := Tr.newM hp
  exact hq _ _ (h p (s.free hp)) _ _ (.ref p) (s.newM hp ⟨vs, upd_same, r.mono t⟩) t
theorem tupNew {H : Hp} {M : Mem} {Q0 : D → Mem → Prop} {Q : VK} {vs : List V} {ds : List D} {p : Addr} (s : Sim K H M) (r : Reps K H vs ds) (hq : qUp K H M Q0 Q) (h : Q0 (.tup ds) M) (hp : H p = none) : Q (.ref p) (upd H p (.tup vs)) := by
  have t : Tr H M (upd H p (.tup vs)) M := Tr.new hp
  exact hq _ _ h _ _ (.tup (SqT.of upd_same) (r.mono t)) (s.new hp) t
theorem l_add : LiftR K (rAddAll K) rdAdd0 := by
  intro x y H M dx dy Q0 Q rx ry s h hq
  cases dx <;> cases dy <;> try exact h.elim
  · cases rx; cases ry; exact .inl ⟨_, _, rfl, rfl, hq _ _ h _ H (.int _) s (Tr.refl H M)⟩
  · cases rx; cases ry; exact .inr (.inl ⟨_, _, rfl, rfl, h.1, hq _ _ h.2 _ H (.str _) s (Tr.refl H M)⟩)
  · rename_i a b
    cases rx; cases ry
    unfold rdAdd0 at h
    dsimp only at h
    split at h
    · rename_i xs ys h1 h2
      obtain ⟨v1, g1, r1⟩ := s.lst h1
      obtain ⟨v2, g2, r2⟩ := s.lst h2
      exact .inr (.inr (.inr ⟨a, b, v1, v2, rfl, rfl, g1, g2, by rw [r1.length, r2.length]; exact h.1, fun p hp => lstNew s (r1.append r2) hq h.2 hp⟩))
    · exact h.elim
  · cases rx with
    | @tup a vs _ g1 r1 =>
      cases ry with
      | @tup b ws _ g2 r2 =>
        refine .inr (.inr (.inl ⟨a, b, vs, ws, rfl, rfl, g1, g2, by rw [r1.length, r2.length]; exact h.1, fun e => ?_, fun _ e => ?_, fun _ _ p hp => tupNew s (r1.append r2) hq h.2 hp⟩))
        · subst e; cases r1; exact hq _ _ h.2 _ H (.tup g2 r2) s (Tr.refl H M)
        · subst e; cases r2; have h2 := h.2; rw [List.append_nil] at h2; exact hq _ _ h2 _ H (.tup g1 r1) s (Tr.refl H M)
/-! ### - * // % ** -/
def rdII (C : Int → Int → Prop) (g : Int → Int → D) : RD2
  | .int i, .int j, M, Q => C i j ∧ Q (g i j) M
  | _, _, _, _ => False
def rdI0 (g : Int → Int → D) : RD2
  | .int i, .int j, M, Q => Q (g i j) M
  | _, _, _, _ => False
theorem l_ii {C C' : Int → Int → Prop} {f : Int → Int → V} {g : Int → Int → D} (hc : ∀ i j, C i j → C' i j) (hr : ∀ i j H, Rep K H (f i j) (g i j)) : LiftR K (rI C' f) (rdII C g) := by
  intro x y H M dx dy Q0 Q rx ry s h hq
  cases dx <;> cases dy <;> try exact h.elim
  cases rx; cases ry
  exact ⟨_, _, rfl, rfl, hc _ _ h.1, hq _ _ h.2 _ H (hr _ _ H) s (Tr.refl H M)⟩
theorem l_i0 {f : Int → Int → V} {g : Int → Int → D} (hr : ∀ i j H, Rep K H (f i j) (g i j)) : LiftR K (rI0 f) (rdI0 g) := by
  intro x y H M dx dy Q0 Q rx ry s h hq
  cases dx <;> cases dy <;> try exact h.elim
  cases rx; cases ry
  exact ⟨_, _, rfl, rfl, hq _ _ h _ H (hr _ _ H) s (Tr.refl H M)⟩
def rdSub0 : RD2 := rdI0 fun i j => .int (i - j)
theorem l_sub : LiftR K (rI0 fun i j => .int (i - j)) rdSub0 := l_i0 fun _ _ _ => .int _
def rdFdiv0 : RD2 := rdII (fun _ j => DivOk j) fun i j => .int (i / j)
theorem l_fdiv : LiftR K (rI CDivW fun i j => .int (i / j)) rdFdiv0 := l_ii (fun _ _ h => wide_div h.1 h.2 (by decide) (by decide)) fun _ _ _ => .int _
def rdMod0 : RD2 := rdII (fun _ j => 0 < j) fun i j => .int (i % j)
theorem l_mod : LiftR K (rI (fun _ j => 0 < j) fun i j => .int (i % j)) rdMod0 := l_ii (fun _ _ h => h) fun _ _ _ => .int _
def rdPow0 : RD2 := rdII CPow fun i j => .int (i ^ j.toNat)
theorem l_pow : LiftR K (rI CPow fun i j => .int (i ^ j.toNat)) rdPow0 := l_ii (fun _ _ h => h) fun _ _ _ => .int _
def rdMul0 : RD2
  | .int i, .int j, M, Q => Big i ∧ Big j ∧ Q (.int (i * j)) M
  | .ref a, .int k, M, Q => match M a with
    | some (.lst xs) => -(2 ^ 63) ≤ k ∧ k < 2 ^ 63 ∧ xs.length * k.toNat ≤ sizeLine ∧ ∀ p, M p = none → Q (.ref p) (mupd M p (.lst (List.replicate k.toNat xs).flatten))
    | _ => False
  | .tup xs, .int k, M, Q => xs ≠ [] ∧ -1000 ≤ k ∧ k ≤ 1000 ∧ xs.length ≤ 1000 ∧ Q (.tup (List.replicate k.toNat xs).flatten) M
  | _, _, _, _ => False
def rMulAll (K : PySem.W.Frag) : R2 := fun x y H Q => rI CMulW (fun i j => .int (i * j)) x y H Q ∨ rRep x y H Q ∨ rRepT K x y H Q ∨ rRepS K x y H Q
theorem op_mulAll : OpR X (binaryOp .Mult) (rMulAll X.K) := op_mulW.or (op_rep.or (op_repT.or op_repS))
theorem l_mul : LiftR K (rMulAll K) rdMul0 := by
  intro x y H M dx dy Q0 Q rx ry s h hq
  cases dx <;> cases dy <;> try exact h.elim
  · cases rx; cases ry; exact .inl ⟨_, _, rfl, rfl, h.1.mulW h.2.1, hq _ _ h.2.2 _ H (.int _) s (Tr.refl H M)⟩
  · rename_i a k
    cases rx; cases ry
    unfold rdMul0 at h
    dsimp only at h
    split at h
    · rename_i xs h1
      obtain ⟨v1, g1, r1⟩ := s.lst h1
      obtain ⟨c1, c2, c3, h⟩ := h
      exact .inr (.inl ⟨a, k, v1, rfl, rfl, g1, c1, c2, by rw [r1.length]; exact c3, fun p hp => lstNew s (r1.flat _) hq h hp⟩)
    · exact h.elim
  · rename_i xs k
    cases ry
    cases rx with
    | @tup a vs _ g1 r1 =>
      obtain ⟨c0, c1, c2, c3, h⟩ := h
      have ne : vs ≠ [] := fun e => by subst e; cases r1; exact c0 rfl
      by_cases hk : 2 ≤ k
      · exact .inr (.inr (.inl ⟨a, _, vs, rfl, rfl, g1, ne, hk, c2, by rw [r1.length]; exact c3, fun p hp => tupNew s (r1.flat _) hq h hp⟩))
      · refine .inr (.inr (.inr ⟨a, _, vs, rfl, rfl, g1, ne, c1, by omega, fun e => ?_, fun e p hp => ?_⟩))
        · subst e
          have e2 : (List.replicate (1 : Int).toNat xs).flatten = xs := by simp [show (1 : Int).toNat = 1 from rfl, List.replicate]
          rw [e2] at h
          exact hq _ _ h _ H (.tup g1 r1) s (Tr.refl H M)
        · have e2 : k.toNat = 0 := by omega
          rw [e2] at h
          exact tupNew s .nil hq h hp

/-! ### comparisons -/
def rdCmp0 (f : Int → Int → Bool) : RD2 := rdI0 fun i j => .bl (f i j)
theorem l_lt : LiftR K (rI0 fun i j => .bl (decide (i < j))) (rdCmp0 fun i j => decide (i < j)) := l_i0 fun _ _ _ => .bl _
theorem l_le : LiftR K (rI0 fun i j => .bl (decide (i ≤ j))) (rdCmp0 fun i j => decide (i ≤ j)) := l_i0 fun _ _ _ => .bl _
theorem l_gt : LiftR K (rI0 fun i j => .bl (decide (j < i))) (rdCmp0 fun i j => decide (j < i)) := l_i0 fun _ _ _ => .bl _
theorem l_ge : LiftR K (rI0 fun i j => .bl (decide (j ≤ i))) (rdCmp0 fun i j => decide (j ≤ i)) := l_i0 fun _ _ _ => .bl _
mutual
/-- what a datum reads as -/
inductive Py (M : Mem) : D → PyData → Prop
  | non : Py M .non .none
  | bl (b : Bool) : Py M (.bl b) (.bool b)
  | int (i : Int) : Py M (.int i) (.int i)
  | str (x : Str) : Py M (.str x) (.str x)
  | tup {ds : List D} {ps : List PyData} : Pys M ds ps → Py M (.tup ds) (.tuple ps)
  | lst {a : Addr} {ds : List D} {ps : List PyData} : M a = some (.lst ds) → Pys M ds ps → Py M (.ref a) (.list ps)
  | rol {ds : List D} {ps : List PyData} : Pys M ds ps → Py M (.rol ds) (.list ps)
inductive Pys (M : Mem) : List D → List PyData → Prop
  | nil : Pys M [] []
  | cons {d : D} {p : PyData} {ds : List D} {ps : List PyData} : Py M d p → Pys M ds ps → Pys M (d :: ds) (p :: ps)
end
mutual
theorem Py.dp {M : Mem} {H : Hp} (s : Sim K H M) : ∀ {p : PyData} {d : D} {v : V}, Py M d p → Rep K H v d → Dp K H v p
  | .none, _, _, h, r => by cases h; cases r; exact .non
  | .bool b, _, _, h, r => by cases h; cases r; exact .bl b
  | .int i, _, _, h, r => by cases h; cases r; exact .int i
  | .str x, _, _, h, r => by cases h; cases r; exact .str x
  | .tuple ps, _, _, h, r => by
    cases h with
    | tup hs => cases r with | tup g rs => exact .tup g (Pys.dp s hs rs)
  | .list ps, _, _, h, r => by
    cases h with
    | lst hm hs => cases r; obtain ⟨vs, g, rs⟩ := s _ _ hm; exact .lst (SqL.of g) (Pys.dp s hs rs)
    | rol hs => cases r with | rol g rs => exact .lst g.sq (Pys.dp s hs rs)
  | .dict _, _, _, h, _ => by cases h
theorem Pys.dp {M : Mem} {H : Hp} (s : Sim K H M) : ∀ {ps : List PyData} {ds : List D} {vs : List V}, Pys M ds ps → Reps K H vs ds → DpAll K H vs ps
  | [], _, _, h, r => by cases h; cases r; exact .nil
  | p :: ps, _, _, h, r => by
    cases h with
    | cons h1 h2 => cases r with | cons r1 r2 => exact .cons (Py.dp s h1 r1) (Pys.dp s h2 r2)
end
mutual
theorem Py.plain {M : Mem} : ∀ {p : PyData} {d : D}, Py M d p → p.plain = true
  | .none, _, _ => rfl
  | .bool _, _, _ => rfl
  | .int _, _, _ => rfl
  | .str _, _, _ => rfl
  | .tuple ps, _, h => by cases h with | tup hs => exact Pys.plain hs
  | .list ps, _, h => by
    cases h with
    | lst hm hs => exact Pys.plain hs
    | rol hs => exact Pys.plain hs
  | .dict _, _, h => by cases h
theorem Pys.plain {M : Mem} : ∀ {ps : List PyData} {ds : List D}, Pys M ds ps → PyData.plainAll ps = true
  | [], _, _ => rfl
  | p :: ps, _, h => by
    cases h with
    | cons h1 h2 => unfold PyData.plainAll; rw [Py.plain h1, Pys.plain h2]; rfl
end
def rEqP (K : PySem.W.Frag) (neg : Bool) : R2 := fun x y H Q => ∃ d e, Dp K H x d ∧ Dp K H y e ∧ d.plain = true ∧ e.plain = true ∧ min d.depth e.depth ≤ 150 ∧ Q (.bl (if neg then !PyData.eqv d e else PyData.eqv d e)) H
theorem op_eqP (hu : X.A.units + 160 < cLine) : OpR X (compareOp .Eq) (rEqP X.K false) := by
  intro pins s σ H x y v u Q I rx ry h
  obtain ⟨d, e, hd, he, sd, se, hz, q⟩ := h
  obtain ⟨as, r1⟩ := Dp.reads I d x v hd rx
  obtain ⟨bs, r2⟩ := Dp.reads I e y u he ry
  exact SeqAt.eq_plain r1 r2 sd se (by omega) ⟨.bl _, H, I, rfl, q⟩
theorem op_neP (hu : X.A.units + 160 < cLine) : OpR X (compareOp .NotEq) (rEqP X.K true) := by
  intro pins s σ H x y v u Q I rx ry h
  obtain ⟨d, e, hd, he, sd, se, hz, q⟩ := h
  obtain ⟨as, r1⟩ := Dp.reads I d x v hd rx
  obtain ⟨bs, r2⟩ := Dp.reads I e y u he ry
  exact SeqAt.ne_plain r1 r2 sd se (by omega) ⟨.bl _, H, I, rfl, q⟩
theorem hu160 {A : Around} {k : Nat} (hr : Room k A) : A.units + 160 < cLine := by have := hr.un; omega
/-- == of data: computes where both are flat -/
def rdEq0 (neg : Bool) : RD2 := fun x y M Q => match x, y with
  | .int i, .int j => Q (.bl (if neg then !(i == j) else i == j)) M
  | .bl i, .bl j => Q (.bl (if neg then !(i == j) else i == j)) M
  | .str i, .str j => Q (.bl (if neg then !(i == j) else i == j)) M
  | .non, .non => Q (.bl (if neg then false else true)) M
  | _, _ => ∃ p q, Py M x p ∧ Py M y q ∧ min p.depth q.depth ≤ 150 ∧ Q (.bl (if neg then !PyData.eqv p q else PyData.eqv p q)) M
theorem l_eq (neg : Bool) : LiftR K (rEqP K neg) (rdEq0 neg) := by
  intro x y H M dx dy Q0 Q rx ry s h hq
  have key : (∃ p q, Py M dx p ∧ Py M dy q ∧ min p.depth q.depth ≤ 150 ∧ Q0 (.bl (if neg then !PyData.eqv p q else PyData.eqv p q)) M) → rEqP K neg x y H Q := fun ⟨p, q, h1, h2, hz, h3⟩ =>
    ⟨p, q, h1.dp s rx, h2.dp s ry, h1.plain, h2.plain, hz, hq _ _ h3 _ H (.bl _) s (Tr.refl H M)⟩
  unfold rdEq0 at h
  split at h
  · exact key ⟨_, _, .int _, .int _, by simp [PyData.depth], by simp only [PyData.eqv]; exact h⟩
  · exact key ⟨_, _, .bl _, .bl _, by simp [PyData.depth], by simp only [PyData.eqv]; exact h⟩
  · exact key ⟨_, _, .str _, .str _, by simp [PyData.depth], by simp only [PyData.eqv]; exact h⟩
  · exact key ⟨_, _, .non, .non, by decide, by simp only [PyData.eqv]; exact h⟩
  · exact key h
/-! ### is None -/
def isNon : D → Bool
  | .non => true
  | _ => false
def rdIs0 : RD2 := fun x y M Q => match y with
  | .non => Q (.bl (isNon x)) M
  | _ => False
def rdIsNot0 : RD2 := fun x y M Q => match y with
  | .non => Q (.bl (!isNon x)) M
  | _ => False
theorem isNon_eq {H : Hp} {v : V} {d : D} (r : Rep K H v d) : decide (v = .non) = isNon d := by
  cases r <;> first | rfl | (exact decide_eq_false (fun e => by cases e))
theorem l_is : LiftR K (fun x y H Q => y = .non ∧ Q (.bl (decide (x = .non))) H) rdIs0 := by
  intro x y H M dx dy Q0 Q rx ry s h hq
  cases dy <;> try exact h.elim
  cases ry
  exact ⟨rfl, by rw [isNon_eq rx]; exact hq _ _ h _ H (.bl _) s (Tr.refl H M)⟩
theorem l_isnot : LiftR K (fun x y H Q => y = .non ∧ Q (.bl (!decide (x = .non))) H) rdIsNot0 := by
  intro x y H M dx dy Q0 Q rx ry s h hq
  cases dy <;> try exact h.elim
  cases ry
  exact ⟨rfl, by rw [isNon_eq rx]; exact hq _ _ h _ H (.bl _) s (Tr.refl H M)⟩
/-! ### in -/
def flD : D → Option V
  | .non => some .non
  | .bl b => some (.bl b)
  | .int i => some (.int i)
  | .str x => some (.str x)
  | _ => none
theorem flD_rep {H : Hp} {v w : V} {d : D} (r : Rep K H v d) (h : flD d = some w) : v = w ∧ flatV v = true := by
  cases r <;> first | (cases h; exact ⟨rfl, rfl⟩) | cases h
def flDs : List D → Option (List V)
  | [] => some []
  | d :: ds => match flD d, flDs ds with
    | some v, some vs => some (v :: vs)
    | _, _ => none
theorem flDs_reps {H : Hp} : ∀ {ds : List D} {vs ws : List V}, Reps K H vs ds → flDs ds = some ws → vs = ws ∧ vs.all flatV = true
  | [], _, _, r, h => by cases r; cases h; exact ⟨rfl, rfl⟩
  | d :: ds, _, _, .cons r rs, h => by
    unfold flDs at h
    split at h
    · rename_i v vs e1 e2
      cases h
      obtain ⟨a1, a2⟩ := flD_rep r e1
      obtain ⟨b1, b2⟩ := flDs_reps rs e2
      subst a1 b1
      exact ⟨rfl, by simp [List.all_cons, a2]; simpa using b2⟩
    · cases h
def seqD (M : Mem) : D → Option (List D)
  | .tup ds => some ds
  | .rol ds => some ds
  | .ref a => match M a with
    | some (.lst ds) => some ds
    | _ => none
  | _ => none
theorem seqD_ok {H : Hp} {M : Mem} {v : V} {d : D} {ds : List D} (s : Sim K H M) (r : Rep K H v d) (h : seqD M d = some ds) : ∃ a vs, v = .ref a ∧ (SqL K H a vs ∨ SqT K H a vs) ∧ Reps K H vs ds := by
  cases d with
  | tup es => cases h; cases r with | tup g rs => exact ⟨_, _, rfl, .inr g, rs⟩
  | rol es => cases h; cases r with | rol g rs => exact ⟨_, _, rfl, .inl g.sq, rs⟩
  | ref a =>
    cases r
    unfold seqD at h
    dsimp only at h
    split at h
    · rename_i es e; cases h; obtain ⟨vs, g, rs⟩ := s _ _ e; exact ⟨_, _, rfl, .inl (SqL.of g), rs⟩
    · cases h
  | _ => cases h
def rdIn0 (neg : Bool) : RD2 := fun x y M Q => match x, y with
  | .str a, .str b => Q (.bl (if neg then (Builtin.Str.occurrences b a 0 b.length 1).isEmpty else !(Builtin.Str.occurrences b a 0 b.length 1).isEmpty)) M
  | x, y => match flD x, seqD M y with
    | some v, some ds => match flDs ds with
      | some ws => Q (.bl (if neg then !inV v ws else inV v ws)) M
      | none => False
    | _, _ => False
def rInAll (K : PySem.W.Frag) : R2 := fun x y H Q => (∃ i j, x = .str i ∧ y = .str j ∧ Q (.bl (!(Builtin.Str.occurrences j i 0 j.length 1).isEmpty)) H) ∨ rIn K false x y H Q
def rNotInAll (K : PySem.W.Frag) : R2 := fun x y H Q => (∃ i j, x = .str i ∧ y = .str j ∧ Q (.bl (!(!(Builtin.Str.occurrences j i 0 j.length 1).isEmpty))) H) ∨ rIn K true x y H Q
theorem op_inAll : OpR X (compareOp .In) (rInAll X.K) := op_in_str.or op_in_seq
theorem op_notInAll : OpR X (compareOp .NotIn) (rNotInAll X.K) := op_notIn_str.or op_notIn_seq
theorem in_two {H : Hp} {M : Mem} {neg : Bool} {x y : V} {dx dy : D} {Q0 : D → Mem → Prop} {Q : VK} (rx : Rep K H x dx) (ry : Rep K H y dy) (s : Sim K H M) (h : rdIn0 neg dx dy M Q0) (hq : qUp K H M Q0 Q) :
    (∃ i j, x = .str i ∧ y = .str j ∧ Q (.bl (if neg then (Builtin.Str.occurrences j i 0 j.length 1).isEmpty else !(Builtin.Str.occurrences j i 0 j.length 1).isEmpty)) H) ∨ rIn K neg x y H Q := by
  unfold rdIn0 at h
  split at h
  · cases rx; cases ry; exact .inl ⟨_, _, rfl, rfl, hq _ _ h _ H (.bl _) s (Tr.refl H M)⟩
  · split at h
    · rename_i v ds e1 e2
      split at h
      · rename_i ws e3
        obtain ⟨a, vs, rfl, g, rs⟩ := seqD_ok s ry e2
        obtain ⟨a1, a2⟩ := flD_rep rx e1
        obtain ⟨b1, b2⟩ := flDs_reps rs e3
        subst a1 b1
        exact .inr ⟨a, vs, rfl, g, a2, b2, hq _ _ h _ H (.bl _) s (Tr.refl H M)⟩
      · exact h.elim
    · exact h.elim
theorem l_in : LiftR K (rInAll K) (rdIn0 false) := fun x y H M dx dy Q0 Q rx ry s h hq => in_two rx ry s h hq
theorem l_notin : LiftR K (rNotInAll K) (rdIn0 true) := fun x y H M dx dy Q0 Q rx ry s h hq => by
  rcases in_two rx ry s h hq with ⟨i, j, e1, e2, q⟩ | q
  · refine .inl ⟨i, j, e1, e2, ?_⟩
    rw [Bool.not_not]
    exact q
  · exact .inr q
end

/-! ### closed operators, and what a reading does at each -/
@[irreducible] def cnd (k : Bool) (A B : Prop) : Prop := if k = true then A else B
theorem cnd_true {A B : Prop} : cnd true A B = A := by unfold cnd; exact if_pos rfl
theorem cnd_false {A B : Prop} : cnd false A B = B := by unfold cnd; exact if_neg Bool.false_ne_true
theorem cndT {A B : Prop} (h : A) : cnd true A B := by rw [cnd_true]; exact h
theorem cndF {A B : Prop} (h : B) : cnd false A B := by rw [cnd_false]; exact h
theorem cndI {k : Bool} {A B : Prop} (h1 : k = true → A) (h2 : k = false → B) : cnd k A B := by
  cases k
  · exact cndF (h2 rfl)
  · exact cndT (h1 rfl)
theorem cndD {c A B : Prop} [Decidable c] (h1 : c → A) (h2 : ¬ c → B) : cnd (decide c) A B := cndI (fun e => h1 (of_decide_eq_true e)) fun e => h2 (of_decide_eq_false e)
theorem cndN {c A B : Prop} [Decidable c] (h1 : ¬ c → A) (h2 : c → B) : cnd (!decide c) A B := cndI (fun e => h1 (by simpa using e)) fun e => h2 (by simpa using e)
theorem cndE {a b : Int} {A B : Prop} (h1 : a = b → A) (h2 : a ≠ b → B) : cnd (a == b) A B := cndI (fun e => h1 (by simpa using e)) fun e => h2 (by simpa using e)
theorem cndNE {a b : Int} {A B : Prop} (h1 : a ≠ b → A) (h2 : a = b → B) : cnd (!(a == b)) A B := cndI (fun e => h1 (by simpa using e)) fun e => h2 (by simpa using e)
@[irreducible] def rdAdd : RD2 := rdAdd0
@[irreducible] def rdSub : RD2 := rdSub0
@[irreducible] def rdFdiv : RD2 := rdFdiv0
@[irreducible] def rdMod : RD2 := rdMod0
@[irreducible] def rdPow : RD2 := rdPow0
@[irreducible] def rdMul : RD2 := rdMul0
@[irreducible] def rdIs : RD2 := rdIs0
@[irreducible] def rdIsNot : RD2 := rdIsNot0
@[irreducible] def rdIn (neg : Bool) : RD2 := rdIn0 neg
@[irreducible] def rdEq (neg : Bool) : RD2 := rdEq0 neg
inductive CmpK where
  | lt | le | gt | ge
def CmpK.f : CmpK → Int → Int → Bool
  | .lt, i, j => decide (i < j)
  | .le, i, j => decide (i ≤ j)
  | .gt, i, j => decide (j < i)
  | .ge, i, j => decide (j ≤ i)
@[irreducible] def rdCmp (c : CmpK) : RD2 := rdCmp0 c.f
section
variable {M : Mem} {Q : D → Mem → Prop} {i j : Int} {x y : Str} {xs ys : List D} {a b p : Addr} {d : D}
theorem add_i (h : Q (.int (i + j)) M) : rdAdd (.int i) (.int j) M Q := by unfold rdAdd; exact h
theorem add_s (hz : x.length + y.length ≤ sizeLine) (h : Q (.str (x ++ y)) M) : rdAdd (.str x) (.str y) M Q := by unfold rdAdd; exact ⟨hz, h⟩
theorem add_t (hz : xs.length + ys.length ≤ sizeLine) (h : Q (.tup (xs ++ ys)) M) : rdAdd (.tup xs) (.tup ys) M Q := by unfold rdAdd; exact ⟨hz, h⟩
theorem add_l (h1 : M a = some (.lst xs)) (h2 : M b = some (.lst ys)) (hz : xs.length + ys.length ≤ sizeLine) (h : ∀ p, M p = none → Q (.ref p) (mupd M p (.lst (xs ++ ys)))) : rdAdd (.ref a) (.ref b) M Q := by
  unfold rdAdd
  show (match M a, M b with | some (.lst xs), some (.lst ys) => _ | _, _ => False)
  rw [h1, h2]
  exact ⟨hz, h⟩
theorem sub_i (h : Q (.int (i - j)) M) : rdSub (.int i) (.int j) M Q := by unfold rdSub; exact h
theorem fdiv_i (hj : DivOk j) (h : Q (.int (i / j)) M) : rdFdiv (.int i) (.int j) M Q := by unfold rdFdiv; exact ⟨hj, h⟩
theorem mod_i (hj : 0 < j) (h : Q (.int (i % j)) M) : rdMod (.int i) (.int j) M Q := by unfold rdMod; exact ⟨hj, h⟩
theorem pow_i (hj : CPow i j) (h : Q (.int (i ^ j.toNat)) M) : rdPow (.int i) (.int j) M Q := by unfold rdPow; exact ⟨hj, h⟩
theorem mul_i (h1 : Big i) (h2 : Big j) (h : Q (.int (i * j)) M) : rdMul (.int i) (.int j) M Q := by unfold rdMul; exact ⟨h1, h2, h⟩
theorem mul_l (h1 : M a = some (.lst xs)) (h2 : -(2 ^ 63) ≤ j) (h3 : j < 2 ^ 63) (hz : xs.length * j.toNat ≤ sizeLine) (h : ∀ p, M p = none → Q (.ref p) (mupd M p (.lst (List.replicate j.toNat xs).flatten))) : rdMul (.ref a) (.int j) M Q := by
  unfold rdMul
  show (match M a with | some (.lst xs) => _ | _ => False)
  rw [h1]
  exact ⟨h2, h3, hz, h⟩
theorem mul_t (h1 : xs ≠ []) (h2 : -1000 ≤ j) (h3 : j ≤ 1000) (hz : xs.length ≤ 1000) (h : Q (.tup (List.replicate j.toNat xs).flatten) M) : rdMul (.tup xs) (.int j) M Q := by unfold rdMul; exact ⟨h1, h2, h3, hz, h⟩
theorem lt_i (h : Q (.bl (decide (i < j))) M) : rdCmp .lt (.int i) (.int j) M Q := by unfold rdCmp; exact h
theorem le_i (h : Q (.bl (decide (i ≤ j))) M) : rdCmp .le (.int i) (.int j) M Q := by unfold rdCmp; exact h
theorem gt_i (h : Q (.bl (decide (j < i))) M) : rdCmp .gt (.int i) (.int j) M Q := by unfold rdCmp; exact h
theorem ge_i (h : Q (.bl (decide (j ≤ i))) M) : rdCmp .ge (.int i) (.int j) M Q := by unfold rdCmp; exact h
theorem eq_i (h : Q (.bl (i == j)) M) : rdEq false (.int i) (.int j) M Q := by unfold rdEq; exact h
theorem ne_i (h : Q (.bl (!(i == j))) M) : rdEq true (.int i) (.int j) M Q := by unfold rdEq; exact h
theorem eq_s (h : Q (.bl (x == y)) M) : rdEq false (.str x) (.str y) M Q := by unfold rdEq; exact h
theorem ne_s (h : Q (.bl (!(x == y))) M) : rdEq true (.str x) (.str y) M Q := by unfold rdEq; exact h
theorem eq_b {k l : Bool} (h : Q (.bl (k == l)) M) : rdEq false (.bl k) (.bl l) M Q := by unfold rdEq; exact h
theorem ne_b {k l : Bool} (h : Q (.bl (!(k == l))) M) : rdEq true (.bl k) (.bl l) M Q := by unfold rdEq; exact h
theorem eq_p {c : D} {neg : Bool} (p q : PyData) (h1 : Py M d p) (h2 : Py M c q) (hz : min p.depth q.depth ≤ 150) (h : Q (.bl (if neg then !PyData.eqv p q else PyData.eqv p q)) M) : rdEq neg d c M Q := by
  unfold rdEq rdEq0
  split
  · cases h1; cases h2; simp only [PyData.eqv] at h; exact h
  · cases h1; cases h2; simp only [PyData.eqv] at h; exact h
  · cases h1; cases h2; simp only [PyData.eqv] at h; exact h
  · cases h1; cases h2; simp only [PyData.eqv] at h; exact h
  · exact ⟨p, q, h1, h2, hz, h⟩
theorem is_n (h : Q (.bl (isNon d)) M) : rdIs d .non M Q := by unfold rdIs; exact h
theorem isnot_n (h : Q (.bl (!isNon d)) M) : rdIsNot d .non M Q := by unfold rdIsNot; exact h
theorem in_s (h : Q (.bl (!(Builtin.Str.occurrences y x 0 y.length 1).isEmpty)) M) : rdIn false (.str x) (.str y) M Q := by unfold rdIn; exact h
theorem notin_s (h : Q (.bl (Builtin.Str.occurrences y x 0 y.length 1).isEmpty) M) : rdIn true (.str x) (.str y) M Q := by unfold rdIn; exact h
theorem in_q {neg : Bool} {v : V} {ws : List V} {c : D} (hc : ∀ z, c ≠ .str z) (h1 : flD d = some v) (h2 : seqD M c = some xs) (h3 : flDs xs = some ws) (h : Q (.bl (if neg then !inV v ws else inV v ws)) M) : rdIn neg d c M Q := by
  unfold rdIn rdIn0
  split
  · exact absurd rfl (hc _)
  · rw [h1, h2]; dsimp only; rw [h3]; exact h
end
theorem l_add' {K : PySem.W.Frag} : LiftR K (rAddAll K) rdAdd := by unfold rdAdd; exact l_add
theorem l_sub' {K : PySem.W.Frag} : LiftR K (rI0 fun i j => .int (i - j)) rdSub := by unfold rdSub; exact l_sub
theorem l_fdiv' {K : PySem.W.Frag} : LiftR K (rI CDivW fun i j => .int (i / j)) rdFdiv := by unfold rdFdiv; exact l_fdiv
theorem l_mod' {K : PySem.W.Frag} : LiftR K (rI (fun _ j => 0 < j) fun i j => .int (i % j)) rdMod := by unfold rdMod; exact l_mod
theorem l_pow' {K : PySem.W.Frag} : LiftR K (rI CPow fun i j => .int (i ^ j.toNat)) rdPow := by unfold rdPow; exact l_pow
theorem l_mul' {K : PySem.W.Frag} : LiftR K (rMulAll K) rdMul := by unfold rdMul; exact l_mul
theorem l_is' {K : PySem.W.Frag} : LiftR K (fun x y H Q => y = .non ∧ Q (.bl (decide (x = .non))) H) rdIs := by unfold rdIs; exact l_is
theorem l_isnot' {K : PySem.W.Frag} : LiftR K (fun x y H Q => y = .non ∧ Q (.bl (!decide (x = .non))) H) rdIsNot := by unfold rdIsNot; exact l_isnot
theorem l_in' {K : PySem.W.Frag} : LiftR K (rInAll K) (rdIn false) := by unfold rdIn; exact l_in
theorem l_notin' {K : PySem.W.Frag} : LiftR K (rNotInAll K) (rdIn true) := by unfold rdIn; exact l_notin
theorem l_eq' {K : PySem.W.Frag} (neg : Bool) : LiftR K (rEqP K neg) (rdEq neg) := by unfold rdEq; exact l_eq neg
/-! ### the operators by their names -/
section
variable {X : Cx} {W : WX} {pos : Pos} {a b : Expr} {ta tb : TDE}
theorem d_add (ha : DE X W a ta) (hb : DE X W b tb) : DE X W (.BinOp a .Add b pos) (tdOp rdAdd ta tb) := de_op op_addAll l_add' ha hb
theorem d_sub (ha : DE X W a ta) (hb : DE X W b tb) : DE X W (.BinOp a .Sub b pos) (tdOp rdSub ta tb) := de_op op_sub l_sub' ha hb
theorem d_mul (ha : DE X W a ta) (hb : DE X W b tb) : DE X W (.BinOp a .Mult b pos) (tdOp rdMul ta tb) := de_op op_mulAll l_mul' ha hb
theorem d_fdiv (ha : DE X W a ta) (hb : DE X W b tb) : DE X W (.BinOp a .FloorDiv b pos) (tdOp rdFdiv ta tb) := de_op op_fdivW l_fdiv' ha hb
theorem d_mod (ha : DE X W a ta) (hb : DE X W b tb) : DE X W (.BinOp a .Mod b pos) (tdOp rdMod ta tb) := de_op op_mod l_mod' ha hb
theorem d_pow (ha : DE X W a ta) (hb : DE X W b tb) : DE X W (.BinOp a .Pow b pos) (tdOp rdPow ta tb) := de_op op_pow l_pow' ha hb
/-- a comparison's operator by data -/
structure CmpD (X : Cx) (op : CmpOp) (rd : RD2) : Prop where
  ex : ∃ r, OpR X (compareOp op) r ∧ LiftR X.K r rd
theorem c_lt : CmpD X .Lt (rdCmp .lt) := ⟨_, op_lt, by unfold rdCmp; exact l_lt⟩
theorem c_le : CmpD X .LtE (rdCmp .le) := ⟨_, op_le, by unfold rdCmp; exact l_le⟩
theorem c_gt : CmpD X .Gt (rdCmp .gt) := ⟨_, op_gt, by unfold rdCmp; exact l_gt⟩
theorem c_ge : CmpD X .GtE (rdCmp .ge) := ⟨_, op_ge, by unfold rdCmp; exact l_ge⟩
theorem c_eq {k : Nat} (hr : Room k X.A) : CmpD X .Eq (rdEq false) := ⟨_, op_eqP (hu160 hr), l_eq' false⟩
theorem c_ne {k : Nat} (hr : Room k X.A) : CmpD X .NotEq (rdEq true) := ⟨_, op_neP (hu160 hr), l_eq' true⟩
theorem c_is : CmpD X .Is rdIs := ⟨_, op_isN, l_is'⟩
theorem c_isnot : CmpD X .IsNot rdIsNot := ⟨_, op_notN, l_isnot'⟩
theorem c_in : CmpD X .In (rdIn false) := ⟨_, op_inAll, l_in'⟩
theorem c_notin : CmpD X .NotIn (rdIn true) := ⟨_, op_notInAll, l_notin'⟩
theorem d_cmp {op : CmpOp} {rd : RD2} (o : CmpD X op rd) (ha : DE X W a ta) (hb : DE X W b tb) (hm : behindInMarks op b = false := by first | exact nomark _ | rfl) : DE X W (.Compare a [op] [b] pos) (tdOp rd ta tb) := by
  obtain ⟨r, h1, h2⟩ := o.ex
  exact de_cmp h1 h2 ha hb hm
theorem t_cmp {op : CmpOp} {rd : RD2} (o : CmpD X op rd) (ha : DE X W a ta) (hb : DE X W b tb) (hm : behindInMarks op b = false := by first | exact nomark _ | rfl) : DT X W (.Compare a [op] [b] pos) (tdTest (tdOp rd ta tb)) := by
  obtain ⟨r, h1, h2⟩ := o.ex
  exact dt_cmp h1 h2 ha hb hm
end
end TD

namespace TD
open PySem L2

/-! ### tests: and, or, not -/
section
variable {X : Cx} {W : WX} {pos : Pos} {a b c : Expr} {ta tb : TDE} {tA tB : TDT} {rest : List Expr}
def DW (X : Cx) (W : WX) (e : Expr) (td : TDT) : Prop := PW X e (upT X.K W td)
theorem DW.t (h : DW X W a tA) : DT X W a tA := PW.pt h
theorem w_and1 (h : DT X W a tA) : DW X W (.BoolOp .And [a] pos) tA := pw_and1 h
theorem w_or1 (h : DT X W a tA) : DW X W (.BoolOp .Or [a] pos) tA := pw_or1 h
def tdAnd (t u : TDT) : TDT := fun ρ M Q E => t ρ M (fun k M1 => cnd k (u ρ M1 Q E) (Q false M1)) E
def tdOr (t u : TDT) : TDT := fun ρ M Q E => t ρ M (fun k M1 => cnd k (Q true M1) (u ρ M1 Q E)) E
def tdNot (t : TDT) : TDT := fun ρ M Q E => t ρ M (fun k M1 => Q (!k) M1) E
theorem w_and (h : DT X W a tA) (g : DW X W (.BoolOp .And (b :: rest) pos) tB) : DW X W (.BoolOp .And (a :: b :: rest) pos) (tdAnd tA tB) := PW.imp (pw_and h g) fun σ H Q ⟨ρ, M, Q0, E0, dv, sm, q, hq, he⟩ => by
  refine ⟨ρ, M, _, E0, dv, sm, q, fun k M1 q1 H1 s1 t1 => ?_, he⟩
  cases k with
  | true =>
    rw [cnd_true] at q1; rw [if_pos rfl]
    exact ⟨ρ, M1, Q0, E0, dv.mono t1, s1, q1, fun k2 M2 q2 H2 s2 t2 => hq k2 M2 q2 H2 s2 (t1.trans t2), he.mono t1⟩
  | false => rw [cnd_false] at q1; rw [if_neg Bool.false_ne_true]; exact hq _ _ q1 H1 s1 t1
theorem w_or (h : DT X W a tA) (g : DW X W (.BoolOp .Or (b :: rest) pos) tB) : DW X W (.BoolOp .Or (a :: b :: rest) pos) (tdOr tA tB) := PW.imp (pw_or h g) fun σ H Q ⟨ρ, M, Q0, E0, dv, sm, q, hq, he⟩ => by
  refine ⟨ρ, M, _, E0, dv, sm, q, fun k M1 q1 H1 s1 t1 => ?_, he⟩
  cases k with
  | false =>
    rw [cnd_false] at q1; rw [if_neg Bool.false_ne_true]
    exact ⟨ρ, M1, Q0, E0, dv.mono t1, s1, q1, fun k2 M2 q2 H2 s2 t2 => hq k2 M2 q2 H2 s2 (t1.trans t2), he.mono t1⟩
  | true => rw [cnd_true] at q1; rw [if_pos rfl]; exact hq _ _ q1 H1 s1 t1
theorem t_not (h : DT X W a tA) : DT X W (.UnaryOp .Not a pos) (tdNot tA) := PT.imp (pt_not h) fun σ H Q ⟨ρ, M, Q0, E0, dv, sm, q, hq, he⟩ =>
  ⟨ρ, M, _, E0, dv, sm, q, fun k M1 q1 H1 s1 t1 => hq _ _ q1 H1 s1 t1, he⟩
/-! ### .. as values; the last operand may be anything -/
def tdAndV (ta tb : TDE) : TDE := fun ρ M Q E => ta ρ M (fun x M1 => match x with | .bl k => cnd k (tb ρ M1 Q E) (Q (.bl false) M1) | _ => False) E
def tdOrV (ta tb : TDE) : TDE := fun ρ M Q E => ta ρ M (fun x M1 => match x with | .bl k => cnd k (Q (.bl true) M1) (tb ρ M1 Q E) | _ => False) E
def tdNotV (ta : TDE) : TDE := fun ρ M Q E => ta ρ M (fun x M1 => match x with | .bl k => Q (.bl (!k)) M1 | _ => False) E
theorem d_one {op} (h : DE X W a ta) : DE X W (.BoolOp op [a] pos) ta := pe_one h
theorem d_and (h : DE X W a ta) (g : DE X W (.BoolOp .And (b :: rest) pos) tb) : DE X W (.BoolOp .And (a :: b :: rest) pos) (tdAndV ta tb) := PE.imp (pe_and h g) fun σ H Q ⟨ρ, M, Q0, E0, dv, sm, q, hq, he⟩ => by
  refine ⟨ρ, M, _, E0, dv, sm, q, fun d M1 q1 v H1 r1 s1 t1 => ?_, he⟩
  cases d <;> try exact q1.elim
  rename_i k
  cases r1
  refine ⟨k, rfl, ?_⟩
  cases k with
  | true => dsimp only at q1; rw [cnd_true] at q1; exact ⟨ρ, M1, Q0, E0, dv.mono t1, s1, q1, hq.mono t1, he.mono t1⟩
  | false => dsimp only at q1; rw [cnd_false] at q1; exact hq _ _ q1 _ H1 (.bl _) s1 t1
theorem d_or (h : DE X W a ta) (g : DE X W (.BoolOp .Or (b :: rest) pos) tb) : DE X W (.BoolOp .Or (a :: b :: rest) pos) (tdOrV ta tb) := PE.imp (pe_or h g) fun σ H Q ⟨ρ, M, Q0, E0, dv, sm, q, hq, he⟩ => by
  refine ⟨ρ, M, _, E0, dv, sm, q, fun d M1 q1 v H1 r1 s1 t1 => ?_, he⟩
  cases d <;> try exact q1.elim
  rename_i k
  cases r1
  refine ⟨k, rfl, ?_⟩
  cases k with
  | false => dsimp only at q1; rw [cnd_false] at q1; exact ⟨ρ, M1, Q0, E0, dv.mono t1, s1, q1, hq.mono t1, he.mono t1⟩
  | true => dsimp only at q1; rw [cnd_true] at q1; exact hq _ _ q1 _ H1 (.bl _) s1 t1
theorem d_not (h : DE X W a ta) : DE X W (.UnaryOp .Not a pos) (tdNotV ta) := PE.imp (pe_not h) fun σ H Q ⟨ρ, M, Q0, E0, dv, sm, q, hq, he⟩ => by
  refine ⟨ρ, M, _, E0, dv, sm, q, fun d M1 q1 v H1 r1 s1 t1 => ?_, he⟩
  cases d <;> try exact q1.elim
  rename_i k
  cases r1
  exact ⟨k, rfl, hq _ _ q1 _ H1 (.bl _) s1 t1⟩
def tdNeg (ta : TDE) : TDE := fun ρ M Q E => ta ρ M (fun x M1 => match x with | .int i => Q (.int (-i)) M1 | _ => False) E
theorem d_neg (h : DE X W a ta) : DE X W (.UnaryOp .USub a pos) (tdNeg ta) := PE.imp (pe_un un_neg h) fun σ H Q ⟨ρ, M, Q0, E0, dv, sm, q, hq, he⟩ => by
  refine ⟨ρ, M, _, E0, dv, sm, q, fun d M1 q1 v H1 r1 s1 t1 => ?_, he⟩
  cases d <;> try exact q1.elim
  cases r1
  exact ⟨_, rfl, hq _ _ q1 _ H1 (.int _) s1 t1⟩
def tdIf (t : TDT) (ta tb : TDE) : TDE := fun ρ M Q E => t ρ M (fun k M1 => cnd k (ta ρ M1 Q E) (tb ρ M1 Q E)) E
theorem d_if (h : DT X W c tA) (ha : DE X W a ta) (hb : DE X W b tb) : DE X W (.IfExp c a b pos) (tdIf tA ta tb) := PE.imp (pe_ifExp h ha hb) fun σ H Q ⟨ρ, M, Q0, E0, dv, sm, q, hq, he⟩ => by
  refine ⟨ρ, M, _, E0, dv, sm, q, fun k M1 q1 H1 s1 t1 => ?_, he⟩
  cases k with
  | true => rw [cnd_true] at q1; rw [if_pos rfl]; exact ⟨ρ, M1, Q0, E0, dv.mono t1, s1, q1, hq.mono t1, he.mono t1⟩
  | false => rw [cnd_false] at q1; rw [if_neg Bool.false_ne_true]; exact ⟨ρ, M1, Q0, E0, dv.mono t1, s1, q1, hq.mono t1, he.mono t1⟩
/-- two comparisons in a row -/
def tdChain (r r' : RD2) (ta tb tc : TDE) : TDE := fun ρ M Q E => ta ρ M (fun x M1 => tb ρ M1 (fun y M2 => r x y M2 fun z M3 => match z with
  | .bl k => cnd k (tc ρ M3 (fun u M4 => r' y u M4 Q) E) (Q (.bl false) M3)
  | _ => False) E) E
variable {tc : TDE} {op op' : CmpOp} {r r' : RD2}
theorem up_chain {K : PySem.W.Frag} {q q' : R2} (l : LiftR K q r) (l' : LiftR K q' r') {σ : St} {H : Hp} {Q : VK} (h : upE K W (tdChain r r' ta tb tc) σ H Q) : tChain q q' (upE K W ta) (upE K W tb) (upE K W tc) σ H Q := by
  obtain ⟨ρ, M, Q0, E0, dv, sm, q, hq, he⟩ := h
  refine ⟨ρ, M, _, E0, dv, sm, q, fun d1 M1 q1 x H1 r1 s1 t1 => ?_, he⟩
  refine ⟨ρ, M1, _, E0, dv.mono t1, s1, q1, fun d2 M2 q2 y H2 r2 s2 t2 => ?_, he.mono t1⟩
  refine l x y H2 M2 d1 d2 _ _ (r1.mono t2) r2 s2 q2 fun d3 M3 q3 z H3 r3 s3 t3 => ?_
  cases d3 <;> try exact q3.elim
  rename_i k
  cases r3
  refine ⟨k, rfl, ?_⟩
  have t13 := (t1.trans t2).trans t3
  cases k with
  | false => dsimp only at q3; rw [cnd_false] at q3; exact hq _ _ q3 _ H3 (.bl _) s3 t13
  | true =>
    dsimp only at q3
    rw [cnd_true] at q3
    refine ⟨ρ, M3, _, E0, dv.mono t13, s3, q3, fun d4 M4 q4 u H4 r4 s4 t4 => ?_, he.mono t13⟩
    exact l' y u H4 M4 d2 d4 _ _ (r2.mono (t3.trans t4)) r4 s4 q4 (hq.mono (t13.trans t4))
theorem d_chain (o : CmpD X op r) (o' : CmpD X op' r') (ha : DE X W a ta) (hb : DE X W b tb) (hc : DE X W c tc) (h1 : lastMarks [op, op'] [b, c] = false := by with_unfolding_all rfl) : DE X W (.Compare a [op, op'] [b, c] pos) (tdChain r r' ta tb tc) := by
  obtain ⟨q, e1, l1⟩ := o.ex
  obtain ⟨q', e2, l2⟩ := o'.ex
  exact PE.imp (pe_chain e1 e2 ha hb hc h1) fun _ _ _ h => up_chain l1 l2 h
theorem t_chain (o : CmpD X op r) (o' : CmpD X op' r') (ha : DE X W a ta) (hb : DE X W b tb) (hc : DE X W c tc) (h1 : lastMarks [op, op'] [b, c] = false := by with_unfolding_all rfl) : DT X W (.Compare a [op, op'] [b, c] pos) (tdTest (tdChain r r' ta tb tc)) := by
  obtain ⟨q, e1, l1⟩ := o.ex
  obtain ⟨q', e2, l2⟩ := o'.ex
  exact PT.imp (pt_chain e1 e2 ha hb hc h1) fun _ _ _ h => up_chain l1 l2 (up_test h)
end

/-! ### arguments, displays -/
def tdNil : TDA := fun _ M Q _ => Q [] M
def tdCons (ta : TDE) (tr : TDA) : TDA := fun ρ M Q E => ta ρ M (fun x M1 => tr ρ M1 (fun xs M2 => Q (x :: xs) M2) E) E
section
variable {X : Cx} {W : WX} {pos : Pos} {e : Expr} {es : List Expr} {te : TDE} {t : TDA}
theorem a_nil : DA X W [] tdNil := PA.imp pa_nil fun σ H Q ⟨ρ, M, Q0, E0, dv, sm, q, hq, he⟩ => hq _ _ q _ H .nil sm (Tr.refl H M)
theorem a_cons (ha : DE X W e te) (hr : DA X W es t) (hs : starEach (e :: es) X.env = (false, eval e X.env) :: starEach es X.env := by rfl) : DA X W (e :: es) (tdCons te t) := PA.imp (pa_cons ha hr hs) fun σ H Q ⟨ρ, M, Q0, E0, dv, sm, q, hq, he⟩ => by
  refine ⟨ρ, M, _, E0, dv, sm, q, fun d M1 q1 v H1 r1 s1 t1 => ?_, he⟩
  refine ⟨ρ, M1, _, E0, dv.mono t1, s1, q1, fun ds M2 q2 vs H2 r2 s2 t2 => ?_, he.mono t1⟩
  exact hq _ _ q2 _ H2 (.cons (r1.mono t2) r2) s2 (t1.trans t2)
def tdTup (t : TDA) : TDE := fun ρ M Q E => t ρ M (fun ds M1 => ds.length ≤ sizeLine ∧ Q (.tup ds) M1) E
theorem d_tup {x1} (h : DA X W es t) : DE X W (.Tuple es x1 pos) (tdTup t) := PE.imp (pe_tup h) fun σ H Q ⟨ρ, M, Q0, E0, dv, sm, q, hq, he⟩ => by
  refine ⟨ρ, M, _, E0, dv, sm, q, fun ds M1 q1 vs H1 r1 s1 t1 => ?_, he⟩
  exact ⟨by rw [r1.length]; exact q1.1, fun p hp => tupNew s1 r1 (hq.mono t1) q1.2 hp⟩
def tdLst (t : TDA) : TDE := fun ρ M Q E => t ρ M (fun ds M1 => ds.length ≤ sizeLine ∧ ∀ p, M1 p = none → Q (.ref p) (mupd M1 p (.lst ds))) E
theorem d_lst (h : DA X W es t) : DE X W (.List es pos) (tdLst t) := PE.imp (pe_lst h) fun σ H Q ⟨ρ, M, Q0, E0, dv, sm, q, hq, he⟩ => by
  refine ⟨ρ, M, _, E0, dv, sm, q, fun ds M1 q1 vs H1 r1 s1 t1 => ?_, he⟩
  exact ⟨by rw [r1.length]; exact q1.1, fun p hp => lstNew s1 r1 (hq.mono t1) q1.2 hp⟩

/-! ### a list's contents at this moment -/
abbrev TDQ := DSt → Mem → (List D → Mem → Prop) → XD → Prop
def upQ (K : PySem.W.Frag) (W : WX) (td : TDQ) : TE := fun σ H Q => ∃ ρ M Q0 E0, DvL K H σ ρ ∧ Sim K H M ∧ td ρ M Q0 E0 ∧ (∀ ds M', Q0 ds M' → ∀ a vs H', SqL K H' a vs → Reps K H' vs ds → Sim K H' M' → Tr H M H' M' → Q (.ref a) H') ∧ wUp K W σ H M E0
def DQ (X : Cx) (W : WX) (e : Expr) (td : TDQ) : Prop := PE X e (upQ X.K W td)
def lstD (M : Mem) : D → Option (List D)
  | .rol ds => some ds
  | .ref a => match M a with
    | some (.lst ds) => some ds
    | _ => none
  | _ => none
theorem lstD_ok {K : PySem.W.Frag} {H : Hp} {M : Mem} {v : V} {d : D} {ds : List D} (s : Sim K H M) (r : Rep K H v d) (h : lstD M d = some ds) : ∃ a vs, v = .ref a ∧ SqL K H a vs ∧ Reps K H vs ds := by
  cases d with
  | ref a =>
    cases r
    unfold lstD at h
    dsimp only at h
    split at h
    · rename_i es e; cases h; obtain ⟨vs, g, rs⟩ := s _ _ e; exact ⟨_, _, rfl, SqL.of g, rs⟩
    · cases h
  | rol es => cases h; cases r with | rol g rs => exact ⟨_, _, rfl, g.sq, rs⟩
  | _ => cases h
@[irreducible] def rdQof (d : D) (M : Mem) (Q : List D → Mem → Prop) : Prop := match lstD M d with | some ds => Q ds M | none => False
theorem qof_l {M : Mem} {Q : List D → Mem → Prop} {a : Addr} {ds : List D} (h1 : M a = some (.lst ds)) (h : Q ds M) : rdQof (.ref a) M Q := by
  unfold rdQof lstD
  dsimp only
  rw [h1]
  exact h
theorem qof_r {M : Mem} {Q : List D → Mem → Prop} {ds : List D} (h : Q ds M) : rdQof (.rol ds) M Q := by unfold rdQof; exact h
def tdQof (t : TDE) : TDQ := fun ρ M Q E => t ρ M (fun d M1 => rdQof d M1 Q) E
theorem q_of {t : TDE} (h : DE X W e t) : DQ X W e (tdQof t) := PE.imp h fun σ H Q ⟨ρ, M, Q0, E0, dv, sm, q, hq, he⟩ => by
  refine ⟨ρ, M, _, E0, dv, sm, q, fun d M1 q1 v H1 r1 s1 t1 => ?_, he⟩
  dsimp only at q1
  unfold rdQof at q1
  split at q1
  · rename_i ds e1
    obtain ⟨a, vs, rfl, g, rs⟩ := lstD_ok s1 r1 e1
    exact hq _ _ q1 a vs H1 g rs s1 t1
  · exact q1.elim
def tdQlst (t : TDA) : TDQ := fun ρ M Q E => t ρ M (fun ds M1 => ds.length ≤ sizeLine ∧ Q ds M1) E
theorem q_lst (h : DA X W es t) : DQ X W (.List es pos) (tdQlst t) := PE.imp (pe_lst h) fun σ H Q ⟨ρ, M, Q0, E0, dv, sm, q, hq, he⟩ => by
  refine ⟨ρ, M, _, E0, dv, sm, q, fun ds M1 q1 vs H1 r1 s1 t1 => ?_, he⟩
  refine ⟨by rw [r1.length]; exact q1.1, fun p hp => ?_⟩
  have t2 : Tr H1 M1 (upd H1 p (.lst vs)) M1 := Tr.new hp
  exact hq _ _ q1.2 p vs _ (SqL.of upd_same) (r1.mono t2) (s1.new hp) (t1.trans t2)

/-! ### built-in functions of one list -/
abbrev RQ := List D → Mem → (D → Mem → Prop) → Prop
def LiftQ (K : PySem.W.Frag) (r : List V → Hp → VK → Prop) (rq : RQ) : Prop := ∀ a vs H M ds Q0 Q, SqL K H a vs → Reps K H vs ds → Sim K H M → rq ds M Q0 → qUp K H M Q0 Q → r [.ref a] H Q
def tdQ (rq : RQ) (tq : TDQ) : TDE := fun ρ M Q E => tq ρ M (fun ds M1 => rq ds M1 Q) E
theorem up_q {K : PySem.W.Frag} {r : List V → Hp → VK → Prop} {rq : RQ} {tq : TDQ} (l : LiftQ K r rq) {σ : St} {H : Hp} {Q : VK} (h : upE K W (tdQ rq tq) σ H Q) : tCB r (tCons (upQ K W tq) tNil) σ H Q := by
  obtain ⟨ρ, M, Q0, E0, dv, sm, q, hq, he⟩ := h
  refine ⟨ρ, M, _, E0, dv, sm, q, fun ds M1 q1 a vs H1 g r1 s1 t1 => ?_, he⟩
  exact l a vs H1 M1 ds Q0 Q g r1 s1 q1 (hq.mono t1)
variable {x : Str} {p : Pos} {r : List V → Hp → VK → Prop} {rq : RQ} {tq : TDQ} {id T : String}
theorem d_bltQ (hc : CallR X (.builtin id) r) (l : LiftQ X.K r rq) (hm : X.mg x = none) (hv : bootBuiltins x = some (.builtin id)) (ha : DQ X W e tq) (hg : Gl X x := by rfl) (hn : x ≠ "__name__" := by decide) (hdb : (x == ("__debug__" : Str)) = false := by decide)
    (hs : starEach [e] X.env = (false, eval e X.env) :: starEach [] X.env := by rfl) : DE X W (.Call (.Name x p) [e] [] pos) (tdQ rq tq) := PE.imp (pe_callB hc hg hm hv (pa_cons ha pa_nil hs) hn hdb hs rfl) fun _ _ _ h => up_q l h
theorem d_tyQ (hc : CallR X (.type T) r) (l : LiftQ X.K r rq) (hm : X.mg x = none) (hv : bootBuiltins x = some (.type T)) (ha : DQ X W e tq) (hg : Gl X x := by rfl) (hn : x ≠ "__name__" := by decide) (hdb : (x == ("__debug__" : Str)) = false := by decide)
    (hs : starEach [e] X.env = (false, eval e X.env) :: starEach [] X.env := by rfl) : DE X W (.Call (.Name x p) [e] [] pos) (tdQ rq tq) := PE.imp (pe_callTy hc hg hm hv (pa_cons ha pa_nil hs) hn hdb hs rfl) fun _ _ _ h => up_q l h
def intsD : List D → Option (List Int)
  | [] => some []
  | .int i :: ds => (intsD ds).map (i :: ·)
  | _ :: _ => none
theorem intsD_ok {K : PySem.W.Frag} {H : Hp} : ∀ {ds : List D} {vs : List V} {ns : List Int}, Reps K H vs ds → intsD ds = some ns → vs = ns.map V.int
  | [], _, _, r, h => by cases r; cases h; rfl
  | d :: ds, _, _, .cons r rs, h => by
    cases d <;> try cases h
    rename_i i
    unfold intsD at h
    cases e : intsD ds with
    | none => rw [e] at h; cases h
    | some ms => rw [e] at h; cases h; cases r; rw [intsD_ok rs e]; rfl
theorem intsD_map (ns : List Int) : intsD (ns.map D.int) = some ns := by
  induction ns with
  | nil => rfl
  | cons n ns ih => simp only [List.map_cons, intsD, ih]; rfl
def blsD : List D → Option (List Bool)
  | [] => some []
  | .bl i :: ds => (blsD ds).map (i :: ·)
  | _ :: _ => none
theorem blsD_ok {K : PySem.W.Frag} {H : Hp} : ∀ {ds : List D} {vs : List V} {ns : List Bool}, Reps K H vs ds → blsD ds = some ns → vs = ns.map V.bl
  | [], _, _, r, h => by cases r; cases h; rfl
  | d :: ds, _, _, .cons r rs, h => by
    cases d <;> try cases h
    rename_i i
    unfold blsD at h
    cases e : blsD ds with
    | none => rw [e] at h; cases h
    | some ms => rw [e] at h; cases h; cases r; rw [blsD_ok rs e]; rfl
theorem blsD_map (ns : List Bool) : blsD (ns.map D.bl) = some ns := by
  induction ns with
  | nil => rfl
  | cons n ns ih => simp only [List.map_cons, blsD, ih]; rfl
@[irreducible] def rqBls (f : List Bool → Bool) : RQ := fun ds M Q => match blsD ds with | some bs => Q (.bl (f bs)) M | none => False
theorem bls_i {f : List Bool → Bool} {ds : List D} {bs : List Bool} {M : Mem} {Q : D → Mem → Prop} (h1 : blsD ds = some bs) (h : Q (.bl (f bs)) M) : rqBls f ds M Q := by unfold rqBls; rw [h1]; exact h
theorem l_all {K : PySem.W.Frag} : LiftQ K (rAll K) (rqBls fun bs => bs.all _root_.id) := fun a vs H M ds Q0 Q g r s h hq => by
  unfold rqBls at h
  split at h
  · rename_i bs e; have := blsD_ok r e; subst this; exact ⟨a, bs, rfl, g, hq _ _ h _ H (.bl _) s (Tr.refl H M)⟩
  · exact h.elim
theorem l_any {K : PySem.W.Frag} : LiftQ K (rAny K) (rqBls fun bs => bs.any _root_.id) := fun a vs H M ds Q0 Q g r s h hq => by
  unfold rqBls at h
  split at h
  · rename_i bs e; have := blsD_ok r e; subst this; exact ⟨a, bs, rfl, g, hq _ _ h _ H (.bl _) s (Tr.refl H M)⟩
  · exact h.elim
@[irreducible] def rqSum : RQ := fun ds M Q => match intsD ds with | some ns => Q (.int ns.sum) M | none => False
theorem sum_i {ds : List D} {ns : List Int} {M : Mem} {Q : D → Mem → Prop} (h1 : intsD ds = some ns) (h : Q (.int ns.sum) M) : rqSum ds M Q := by unfold rqSum; rw [h1]; exact h
theorem l_sum {K : PySem.W.Frag} : LiftQ K (rSum K) rqSum := fun a vs H M ds Q0 Q g r s h hq => by
  unfold rqSum at h
  split at h
  · rename_i bs e; have := intsD_ok r e; subst this; exact ⟨a, bs, rfl, g, hq _ _ h _ H (.int _) s (Tr.refl H M)⟩
  · exact h.elim
@[irreducible] def rqMax : RQ := fun ds M Q => match intsD ds with | some ns => 0 < ns.length ∧ ∀ m, m ∈ ns → (∀ y, y ∈ ns → y ≤ m) → Q (.int m) M | none => False
@[irreducible] def rqMin : RQ := fun ds M Q => match intsD ds with | some ns => 0 < ns.length ∧ ∀ m, m ∈ ns → (∀ y, y ∈ ns → m ≤ y) → Q (.int m) M | none => False
theorem max_i {ds : List D} {ns : List Int} {M : Mem} {Q : D → Mem → Prop} (h1 : intsD ds = some ns) (h0 : 0 < ns.length) (h : ∀ m, m ∈ ns → (∀ y, y ∈ ns → y ≤ m) → Q (.int m) M) : rqMax ds M Q := by unfold rqMax; rw [h1]; exact ⟨h0, h⟩
theorem min_i {ds : List D} {ns : List Int} {M : Mem} {Q : D → Mem → Prop} (h1 : intsD ds = some ns) (h0 : 0 < ns.length) (h : ∀ m, m ∈ ns → (∀ y, y ∈ ns → m ≤ y) → Q (.int m) M) : rqMin ds M Q := by unfold rqMin; rw [h1]; exact ⟨h0, h⟩
theorem l_max {K : PySem.W.Frag} : LiftQ K (rMax K) rqMax := fun a vs H M ds Q0 Q g r s h hq => by
  unfold rqMax at h
  split at h
  · rename_i bs e; have := intsD_ok r e; subst this; exact ⟨a, bs, rfl, g, h.1, fun m h1 h2 => hq _ _ (h.2 m h1 h2) _ H (.int _) s (Tr.refl H M)⟩
  · exact h.elim
theorem l_min {K : PySem.W.Frag} : LiftQ K (rMin K) rqMin := fun a vs H M ds Q0 Q g r s h hq => by
  unfold rqMin at h
  split at h
  · rename_i bs e; have := intsD_ok r e; subst this; exact ⟨a, bs, rfl, g, h.1, fun m h1 h2 => hq _ _ (h.2 m h1 h2) _ H (.int _) s (Tr.refl H M)⟩
  · exact h.elim
def rqTup : RQ := fun ds M Q => Q (.tup ds) M
theorem l_tuple {K : PySem.W.Frag} : LiftQ K (fun xs H Q => ∃ p ys, xs = [.ref p] ∧ ((SqL K H p ys ∧ ∀ l, H l = none → Q (.ref l) (upd H l (.tup ys))) ∨ (SqT K H p ys ∧ Q (.ref p) H))) rqTup := fun a vs H M ds Q0 Q g r s h hq =>
  ⟨a, vs, rfl, .inl ⟨g, fun l hl => tupNew s r hq h hl⟩⟩
def rqLst : RQ := fun ds M Q => ∀ p, M p = none → Q (.ref p) (mupd M p (.lst ds))
theorem l_list {K : PySem.W.Frag} : LiftQ K (fun xs H Q => ∃ p ys, xs = [.ref p] ∧ (SqL K H p ys ∨ SqT K H p ys) ∧ ∀ l, H l = none → Q (.ref l) (upd H l (.lst ys))) rqLst := fun a vs H M ds Q0 Q g r s h hq =>
  ⟨a, vs, rfl, .inl g, fun l hl => lstNew s r hq h hl⟩
theorem d_all (hm : X.mg "all" = none) (hc : X.calm = true) (ha : DQ X W e tq) (hg : Gl X "all" := by rfl) (hs : starEach [e] X.env = (false, eval e X.env) :: starEach [] X.env := by rfl) : DE X W (.Call (.Name "all" p) [e] [] pos) (tdQ (rqBls fun bs => bs.all _root_.id) tq) := d_bltQ (cr_all hc) l_all hm (by decide +kernel) ha hg (by decide) (by decide) hs
theorem d_any (hm : X.mg "any" = none) (hc : X.calm = true) (ha : DQ X W e tq) (hg : Gl X "any" := by rfl) (hs : starEach [e] X.env = (false, eval e X.env) :: starEach [] X.env := by rfl) : DE X W (.Call (.Name "any" p) [e] [] pos) (tdQ (rqBls fun bs => bs.any _root_.id) tq) := d_bltQ (cr_any hc) l_any hm (by decide +kernel) ha hg (by decide) (by decide) hs
theorem d_sum (hm : X.mg "sum" = none) (hc : X.calm = true) (ha : DQ X W e tq) (hg : Gl X "sum" := by rfl) (hs : starEach [e] X.env = (false, eval e X.env) :: starEach [] X.env := by rfl) : DE X W (.Call (.Name "sum" p) [e] [] pos) (tdQ rqSum tq) := d_bltQ (cr_sum hc) l_sum hm (by decide +kernel) ha hg (by decide) (by decide) hs
theorem d_max (hm : X.mg "max" = none) (hc : X.calm = true) (ha : DQ X W e tq) (hg : Gl X "max" := by rfl) (hs : starEach [e] X.env = (false, eval e X.env) :: starEach [] X.env := by rfl) : DE X W (.Call (.Name "max" p) [e] [] pos) (tdQ rqMax tq) := d_bltQ (cr_max hc) l_max hm (by decide +kernel) ha hg (by decide) (by decide) hs
theorem d_min (hm : X.mg "min" = none) (hc : X.calm = true) (ha : DQ X W e tq) (hg : Gl X "min" := by rfl) (hs : starEach [e] X.env = (false, eval e X.env) :: starEach [] X.env := by rfl) : DE X W (.Call (.Name "min" p) [e] [] pos) (tdQ rqMin tq) := d_bltQ (cr_min hc) l_min hm (by decide +kernel) ha hg (by decide) (by decide) hs
theorem d_tuple (hm : X.mg "tuple" = none) (ha : DQ X W e tq) (hg : Gl X "tuple" := by rfl) (hs : starEach [e] X.env = (false, eval e X.env) :: starEach [] X.env := by rfl) : DE X W (.Call (.Name "tuple" p) [e] [] pos) (tdQ rqTup tq) := d_tyQ call_tuple_of l_tuple hm (by decide +kernel) ha hg (by decide) (by decide) hs
theorem d_list (hm : X.mg "list" = none) (ha : DQ X W e tq) (hg : Gl X "list" := by rfl) (hs : starEach [e] X.env = (false, eval e X.env) :: starEach [] X.env := by rfl) : DE X W (.Call (.Name "list" p) [e] [] pos) (tdQ rqLst tq) := d_tyQ call_list_of l_list hm (by decide +kernel) ha hg (by decide) (by decide) hs
/-! ### len -/
def rdLen0 (d : D) (M1 : Mem) (Q : D → Mem → Prop) : Prop := match d with
  | .str x => x.length ≤ sizeLine ∧ Q (.int x.length) M1
  | .tup ds => Q (.int ds.length) M1
  | d => match lstD M1 d with | some ds => Q (.int ds.length) M1 | none => False
@[irreducible] def rdLen := rdLen0
theorem len_s {M : Mem} {Q : D → Mem → Prop} {x : Str} (hz : x.length ≤ sizeLine) (h : Q (.int x.length) M) : rdLen (.str x) M Q := by unfold rdLen; exact ⟨hz, h⟩
theorem len_t {M : Mem} {Q : D → Mem → Prop} {ds : List D} (h : Q (.int ds.length) M) : rdLen (.tup ds) M Q := by unfold rdLen; exact h
theorem len_l {M : Mem} {Q : D → Mem → Prop} {a : Addr} {ds : List D} (h1 : M a = some (.lst ds)) (h : Q (.int ds.length) M) : rdLen (.ref a) M Q := by
  unfold rdLen rdLen0 lstD
  dsimp only
  rw [h1]
  exact h
theorem len_r {M : Mem} {Q : D → Mem → Prop} {ds : List D} (h : Q (.int ds.length) M) : rdLen (.rol ds) M Q := by unfold rdLen; exact h
def tdLen (t : TDE) : TDE := fun ρ M Q E => t ρ M (fun d M1 => rdLen d M1 Q) E
def rLenAll (K : PySem.W.Frag) : List V → Hp → VK → Prop := fun xs H Q => (∃ p ys, xs = [.ref p] ∧ (SqL K H p ys ∨ SqT K H p ys) ∧ Q (.int ys.length) H) ∨ ∃ z, xs = [.str z] ∧ z.length ≤ sizeLine ∧ Q (.int z.length) H
theorem call_lenAll : CallR X (.builtin "len") (rLenAll X.K) := fun pins s σ H xs us Q I r h => by
  rcases h with h | h
  · exact call_len_seq pins s σ H xs us Q I r h
  · exact call_len_str pins s σ H xs us Q I r h
theorem d_len {t : TDE} (hm : X.mg "len" = none) (ha : DE X W e t) (hg : Gl X "len" := by rfl) (hs : starEach [e] X.env = (false, eval e X.env) :: starEach [] X.env := by rfl) : DE X W (.Call (.Name "len" p) [e] [] pos) (tdLen t) :=
  PE.imp (pe_callB call_lenAll hg hm (by decide +kernel) (pa_cons ha pa_nil hs) (by decide) (by decide) hs rfl) fun σ H Q ⟨ρ, M, Q0, E0, dv, sm, q, hq, he⟩ => by
    refine ⟨ρ, M, _, E0, dv, sm, q, fun d M1 q1 v H1 r1 s1 t1 => ?_, he⟩
    have fin : ∀ n : Nat, Q0 (.int n) M1 → Q (.int n) H1 := fun n h => hq _ _ h _ H1 (.int _) s1 t1
    dsimp only at q1
    unfold rdLen rdLen0 at q1
    split at q1
    · cases r1; exact .inr ⟨_, rfl, q1.1, fin _ q1.2⟩
    · cases r1 with | tup g rs => exact .inl ⟨_, _, rfl, .inr g, by rw [rs.length]; exact fin _ q1⟩
    · split at q1
      · rename_i ds e1
        obtain ⟨a, vs, rfl, g, rs⟩ := lstD_ok s1 r1 e1
        exact .inl ⟨_, _, rfl, .inl g, by rw [rs.length]; exact fin _ q1⟩
      · exact q1.elim
/-! ### a[i], a[i:j] -/
def rdIx0 : RD2 := fun x y M Q => match y with
  | .int i => match x with
    | .str z => z.length ≤ sizeLine ∧ (match atI z.cps.toList i with | some c => Q (.str ⟨#[c]⟩) M | none => False)
    | x => match seqD M x with
      | some ds => match atI ds i with | some d => Q d M | none => False
      | none => False
  | _ => False
theorem atI_reps {K : PySem.W.Frag} {H : Hp} {vs : List V} {ds : List D} {i : Int} {d : D} (r : Reps K H vs ds) (h : atI ds i = some d) : ∃ v, atI vs i = some v ∧ Rep K H v d := by
  unfold atI at h ⊢
  rw [r.length]
  cases e : ixN ds.length i with
  | none => rw [e] at h; cases h
  | some j => rw [e] at h; exact r.get h
theorem l_ix0 {K : PySem.W.Frag} : LiftR K (rIx K) rdIx0 := fun x y H M dx dy Q0 Q rx ry s h hq => by
  unfold rdIx0 at h
  split at h
  · cases ry
    split at h
    · cases rx
      obtain ⟨hz, h⟩ := h
      split at h
      · rename_i c e; exact .inr (.inr ⟨_, _, c, rfl, rfl, hz, e, hq _ _ h _ H (.str _) s (Tr.refl H M)⟩)
      · exact h.elim
    · split at h
      · rename_i ds e
        split at h
        · rename_i d e2
          obtain ⟨a, vs, rfl, g, rs⟩ := seqD_ok s rx e
          obtain ⟨v, e3, rv⟩ := atI_reps rs e2
          rcases g with g | g
          · exact .inl ⟨a, vs, _, v, rfl, rfl, g, e3, hq _ _ h _ H rv s (Tr.refl H M)⟩
          · exact .inr (.inl ⟨a, vs, _, v, rfl, rfl, g, e3, hq _ _ h _ H rv s (Tr.refl H M)⟩)
        · exact h.elim
      · exact h.elim
  · exact h.elim
@[irreducible] def rdIx : RD2 := rdIx0
theorem l_ix {K : PySem.W.Frag} : LiftR K (rIx K) rdIx := by unfold rdIx; exact l_ix0
theorem ix_s {M : Mem} {Q : D → Mem → Prop} {z : Str} {i : Int} {c : Nat} (hz : z.length ≤ sizeLine) (h1 : atI z.cps.toList i = some c) (h : Q (.str ⟨#[c]⟩) M) : rdIx (.str z) (.int i) M Q := by
  unfold rdIx rdIx0
  dsimp only
  exact ⟨hz, by rw [h1]; exact h⟩
theorem ix_q {M : Mem} {Q : D → Mem → Prop} {x d : D} {ds : List D} {i : Int} (h1 : seqD M x = some ds) (h2 : atI ds i = some d) (h : Q d M) : rdIx x (.int i) M Q := by
  unfold rdIx rdIx0
  dsimp only
  cases x with
  | str z => cases h1
  | _ => dsimp only; rw [h1]; dsimp only; rw [h2]; exact h
theorem ix_l {M : Mem} {Q : D → Mem → Prop} {a : Addr} {d : D} {ds : List D} {i : Int} (h1 : M a = some (.lst ds)) (h2 : atI ds i = some d) (h : Q d M) : rdIx (.ref a) (.int i) M Q := ix_q (by unfold seqD; dsimp only; rw [h1]) h2 h
theorem ix_t {M : Mem} {Q : D → Mem → Prop} {d : D} {ds : List D} {i : Int} (h2 : atI ds i = some d) (h : Q d M) : rdIx (.tup ds) (.int i) M Q := ix_q rfl h2 h
variable {a b : Expr} {ta tb : TDE}
theorem d_ix (ha : DE X W a ta) (hb : DE X W b tb) (hs : PlainIx b := by exact fun _ _ => rfl) : DE X W (.Subscript a b pos) (tdOp rdIx ta tb) := PE.imp (pe_ix ix_seq ha hb hs) fun _ _ _ h => up_two l_ix h
abbrev TDO := DSt → Mem → (Option Int → Mem → Prop) → XD → Prop
def upO (K : PySem.W.Frag) (W : WX) (td : TDO) : TO := fun σ H Q => ∃ ρ M Q0 E0, DvL K H σ ρ ∧ Sim K H M ∧ td ρ M Q0 E0 ∧ (∀ o M', Q0 o M' → ∀ H', Sim K H' M' → Tr H M H' M' → Q o H') ∧ wUp K W σ H M E0
def DO (X : Cx) (W : WX) (e : Option Expr) (td : TDO) : Prop := PO X e (upO X.K W td)
theorem PO.imp {e : Option Expr} {t t' : TO} (h : PO X e t) (k : ∀ σ H Q, t' σ H Q → t σ H Q) : PO X e t' := ⟨fun pins s σ H Q I q => h.run pins s σ H Q I (k σ H Q q)⟩
def tdNo : TDO := fun _ M Q _ => Q none M
def tdPart (t : TDE) : TDO := fun ρ M Q E => t ρ M (fun d M1 => match d with | .int i => Q (some i) M1 | _ => False) E
theorem o_none : DO X W none tdNo := PO.imp po_none fun σ H Q ⟨ρ, M, Q0, E0, dv, sm, q, hq, he⟩ => hq _ _ q H sm (Tr.refl H M)
theorem o_some (h : DE X W e te) : DO X W (some e) (tdPart te) := PO.imp (po_some h) fun σ H Q ⟨ρ, M, Q0, E0, dv, sm, q, hq, he⟩ => by
  refine ⟨ρ, M, _, E0, dv, sm, q, fun d M1 q1 v H1 r1 s1 t1 => ?_, he⟩
  cases d <;> try exact q1.elim
  cases r1
  exact ⟨_, rfl, hq _ _ q1 H1 s1 t1⟩
def cutD (xs : List D) (lo hi : Option Int) : List D := (xs.drop (HT.sIx xs.length 0 lo)).take (HT.sIx xs.length xs.length hi - HT.sIx xs.length 0 lo)
theorem cut_reps {K : PySem.W.Frag} {H : Hp} {vs : List V} {ds : List D} (r : Reps K H vs ds) (lo hi : Option Int) : Reps K H (cutV vs lo hi) (cutD ds lo hi) := by
  unfold cutV cutD
  rw [r.length]
  exact (r.drop _).take _
def rdSl0 (x : D) (l u : Option Int) (M3 : Mem) (Q : D → Mem → Prop) : Prop := match x with
  | .str z => z.length ≤ sizeLine ∧ Q (.str (cutS z l u)) M3
  | .tup ds => Q (.tup (cutD ds l u)) M3
  | x => match lstD M3 x with
    | some ds => ∀ p, M3 p = none → Q (.ref p) (mupd M3 p (.lst (cutD ds l u)))
    | none => False
@[irreducible] def rdSl := rdSl0
theorem sl_s {M : Mem} {Q : D → Mem → Prop} {z : Str} {l u : Option Int} (hz : z.length ≤ sizeLine) (h : Q (.str (cutS z l u)) M) : rdSl (.str z) l u M Q := by unfold rdSl; exact ⟨hz, h⟩
theorem sl_t {M : Mem} {Q : D → Mem → Prop} {ds : List D} {l u : Option Int} (h : Q (.tup (cutD ds l u)) M) : rdSl (.tup ds) l u M Q := by unfold rdSl; exact h
theorem sl_l {M : Mem} {Q : D → Mem → Prop} {a : Addr} {ds : List D} {l u : Option Int} (h1 : M a = some (.lst ds)) (h : ∀ p, M p = none → Q (.ref p) (mupd M p (.lst (cutD ds l u)))) : rdSl (.ref a) l u M Q := by
  unfold rdSl rdSl0 lstD
  dsimp only
  rw [h1]
  exact h
theorem sl_r {M : Mem} {Q : D → Mem → Prop} {ds : List D} {l u : Option Int} (h : ∀ p, M p = none → Q (.ref p) (mupd M p (.lst (cutD ds l u)))) : rdSl (.rol ds) l u M Q := by unfold rdSl; exact h
def tdSl (te : TDE) (tl th : TDO) : TDE := fun ρ M Q E => te ρ M (fun x M1 => tl ρ M1 (fun l M2 => th ρ M2 (fun u M3 => rdSl x l u M3 Q) E) E) E
def rSlAll (K : PySem.W.Frag) : V → Option Int → Option Int → Hp → VK → Prop := fun x lo hi H Q => rSlL K x lo hi H Q ∨ rSlA K x lo hi H Q ∨ rSlS x lo hi H Q
theorem sl_all : SlR X (rSlAll X.K) := sl_list.or (sl_tupA.or sl_str)
theorem d_slice {lo hi : Option Expr} {tl th : TDO} {p2 : Pos} (he : DE X W e te) (hl : DO X W lo tl) (hh : DO X W hi th) : DE X W (.Subscript e (.Slice lo hi none p2) pos) (tdSl te tl th) :=
  PE.imp (pe_slice sl_all he hl hh) fun σ H Q ⟨ρ, M, Q0, E0, dv, sm, q, hq, he⟩ => by
    refine ⟨ρ, M, _, E0, dv, sm, q, fun d M1 q1 v H1 r1 s1 t1 => ?_, he⟩
    refine ⟨ρ, M1, _, E0, dv.mono t1, s1, q1, fun l M2 q2 H2 s2 t2 => ?_, he.mono t1⟩
    have t12 := t1.trans t2
    refine ⟨ρ, M2, _, E0, dv.mono t12, s2, q2, fun u M3 q3 H3 s3 t3 => ?_, he.mono t12⟩
    have t13 := t12.trans t3
    have r3 := r1.mono (t2.trans t3)
    have hq3 := hq.mono t13
    unfold rdSl rdSl0 at q3
    split at q3
    · cases r3; exact .inr (.inr ⟨_, rfl, q3.1, hq3 _ _ q3.2 _ H3 (.str _) s3 (Tr.refl _ _)⟩)
    · rename_i ds
      cases r3 with
      | @tup a vs _ g rs =>
        refine .inr (.inl ⟨a, vs, rfl, g, fun hw => ?_, fun _ p hp => tupNew s3 (cut_reps rs l u) hq3 q3 hp⟩)
        have e : cutD ds l u = ds := by
          unfold cutD
          rw [rs.length] at hw
          rw [hw.1, hw.2, List.drop_zero, Nat.sub_zero, List.take_length]
        rw [e] at q3
        exact hq3 _ _ q3 _ H3 (.tup g rs) s3 (Tr.refl _ _)
    · split at q3
      · rename_i ds e1
        obtain ⟨a, vs, rfl, g, rs⟩ := lstD_ok s3 r3 e1
        exact .inl ⟨a, vs, rfl, g, fun p hp => lstNew s3 (cut_reps rs l u) hq3 q3 hp⟩
      · exact q3.elim
end
/-! ### isinstance of built-in types -/
inductive BT where
  | non | bool | int | str | tuple | list | dict
  deriving DecidableEq
def BT.nm : BT → String
  | .non => "NoneType" | .bool => "bool" | .int => "int" | .str => "str" | .tuple => "tuple" | .list => "list" | .dict => "dict"
def BT.sub : BT → BT → Bool
  | .bool, .int => true
  | .non, .non => true | .bool, .bool => true | .int, .int => true | .str, .str => true | .tuple, .tuple => true | .list, .list => true | .dict, .dict => true
  | _, _ => false
def btOf (M : Mem) : D → Option BT
  | .non => some .non
  | .bl _ => some .bool
  | .int _ => some .int
  | .str _ => some .str
  | .tup _ => some .tuple
  | .ref a => match M a with
    | some (.lst _) => some .list
    | some (.dk _) => some .dict
    | _ => none
  | .ty _ => none
  | .rol _ => none
theorem kit_bt {K : PySem.W.Frag} (a b : BT) : PySem.W.kitOne K (.type a.nm) (.type b.nm) = some (a.sub b) := by
  cases a <;> cases b <;> exact kit_ty (by decide +kernel)
theorem btOf_ok {K : PySem.W.Frag} {H : Hp} {M : Mem} {v : V} {d : D} {t : BT} (s : Sim K H M) (r : Rep K H v d) (h : btOf M d = some t) : TyX K H v (.type t.nm) := by
  cases d with
  | non => cases h; cases r; exact .base .non
  | bl b => cases h; cases r; exact .base (.bl b)
  | int b => cases h; cases r; exact .base (.int b)
  | str b => cases h; cases r; exact .base (.str b)
  | ty n => cases h
  | rol n => cases h
  | tup ds =>
    cases h
    cases r with
    | tup g _ =>
      rcases g with (g | ⟨o, g⟩) | ⟨o, its, n, e, c, _⟩
      · exact .base (.tup g)
      · exact .fTuple g
      · exact .kTuple e c
  | ref a =>
    cases r
    unfold btOf at h
    dsimp only at h
    split at h
    · rename_i e; cases h; obtain ⟨vs, g, _⟩ := s _ _ e; exact .base (.lst g)
    · rename_i e; cases h; obtain ⟨vs, g, _⟩ := s _ _ e; exact .base (.dK g)
    · cases h
section
variable {X : Cx} {W : WX} {pos p p2 : Pos} {e : Expr} {te : TDE}
@[irreducible] def rdIsi (bs : List BT) (d : D) (M : Mem) (Q : D → Mem → Prop) : Prop := match btOf M d with | some a => Q (.bl (bs.any a.sub)) M | none => False
theorem isi_i {bs : List BT} {d : D} {a : BT} {b : Bool} {M : Mem} {Q : D → Mem → Prop} (h1 : btOf M d = some a) (h2 : bs.any a.sub = b) (h : Q (.bl b) M) : rdIsi bs d M Q := by unfold rdIsi; rw [h1]; dsimp only; rw [h2]; exact h
theorem isi_l {bs : List BT} {p : Addr} {ds : List D} {b : Bool} {M : Mem} {Q : D → Mem → Prop} (h1 : M p = some (.lst ds)) (h2 : bs.any BT.list.sub = b) (h : Q (.bl b) M) : rdIsi bs (.ref p) M Q := isi_i (by unfold btOf; dsimp only; rw [h1]) h2 h
def tdIsi (t : TDE) (bs : List BT) : TDE := fun ρ M Q E => t ρ M (fun d M1 => rdIsi bs d M1 Q) E
theorem d_isi (B : BT) {x : Str} (hm : X.mg "isinstance" = none) (hmT : X.mg x = none) (he : DE X W e te) (hx : bootBuiltins x = some (.type B.nm) := by decide +kernel) (hg : Gl X "isinstance" := by rfl) (hgT : Gl X x := by rfl) (hn : x ≠ "__name__" := by decide) (hd : (x == ("__debug__" : Str)) = false := by decide)
    (hs : starEach [e, .Name x p2] X.env = (false, eval e X.env) :: starEach [.Name x p2] X.env := by rfl) (hs2 : starEach [.Name x p2] X.env = (false, eval (.Name x p2) X.env) :: starEach [] X.env := by rfl) (hpl : (backTo pos (starEach [.Name x p2] X.env)).any (·.1) = false := by rfl) :
    DE X W (.Call (.Name "isinstance" p) [e, .Name x p2] [] pos) (tdIsi te [B]) :=
  PE.imp (pe_callB call_isi hg hm (by decide +kernel) (pa_cons he (pa_cons (pe_bltn (v := .ty B.nm) hgT hmT hx rfl hn hd) pa_nil hs2) hs) (by decide) (by decide) hs hpl) fun σ H Q ⟨ρ, M, Q0, E0, dv, sm, q, hq, he⟩ => by
    refine ⟨ρ, M, _, E0, dv, sm, q, fun d M1 q1 v H1 r1 s1 t1 => ?_, he⟩
    dsimp only at q1
    unfold rdIsi at q1
    split at q1
    · rename_i t et
      refine ⟨v, .ty B.nm, _, _, t.sub B, rfl, .ty _, btOf_ok s1 r1 et, kit_bt t B, ?_⟩
      have e2 : ([B].any t.sub) = t.sub B := by simp
      rw [e2] at q1
      exact hq _ _ q1 _ H1 (.bl _) s1 t1
    · exact q1.elim
theorem kit_two {K : PySem.W.Frag} (t a b : BT) : PySem.W.kitAny K (.type t.nm) [.type a.nm, .type b.nm] = some ([a, b].any t.sub) := by
  refine kitAny_cons (kit_bt t a) (fun e => ?_) (fun e => by simp [e])
  refine kitAny_cons (kit_bt t b) (fun e2 => ?_) (fun e2 => by simp [e, e2])
  simp [e, e2]; rfl
theorem d_isi2 (B C : BT) {x y : Str} {k : Nat} {p3 p4 : Pos} (hm : X.mg "isinstance" = none) (hmT : X.mg x = none) (hmU : X.mg y = none) (he : DE X W e te) (hx : bootBuiltins x = some (.type B.nm) := by decide +kernel) (hy : bootBuiltins y = some (.type C.nm) := by decide +kernel) (hg : Gl X "isinstance" := by rfl) (hgT : Gl X x := by rfl) (hgU : Gl X y := by rfl)
    (hn : x ≠ "__name__" := by decide) (hd : (x == ("__debug__" : Str)) = false := by decide) (hn2 : y ≠ "__name__" := by decide) (hd2 : (y == ("__debug__" : Str)) = false := by decide)
    (hs : starEach [e, .Tuple [.Name x p2, .Name y p3] k p4] X.env = (false, eval e X.env) :: starEach [.Tuple [.Name x p2, .Name y p3] k p4] X.env := by rfl) (hpl : (backTo pos (starEach [.Tuple [.Name x p2, .Name y p3] k p4] X.env)).any (·.1) = false := by rfl) :
    DE X W (.Call (.Name "isinstance" p) [e, .Tuple [.Name x p2, .Name y p3] k p4] [] pos) (tdIsi te [B, C]) :=
  PE.imp (pe_callB call_isiT hg hm (by decide +kernel) (pa_cons he (pa_cons (pe_tup (pa_cons (pe_bltn (v := .ty B.nm) hgT hmT hx rfl hn hd) (pa_cons (pe_bltn (v := .ty C.nm) hgU hmU hy rfl hn2 hd2) pa_nil))) pa_nil) hs) (by decide) (by decide) hs hpl) fun σ H Q ⟨ρ, M, Q0, E0, dv, sm, q, hq, he⟩ => by
    refine ⟨ρ, M, _, E0, dv, sm, q, fun d M1 q1 v H1 r1 s1 t1 => ?_, he⟩
    refine ⟨by show 2 ≤ sizeLine; decide, fun tp htp => ?_⟩
    have t2 : Tr H1 M1 (upd H1 tp (.tup [.ty B.nm, .ty C.nm])) M1 := Tr.new htp
    dsimp only at q1
    unfold rdIsi at q1
    split at q1
    · rename_i t et
      refine ⟨v, tp, [.ty B.nm, .ty C.nm], _, _, [B, C].any t.sub, rfl, upd_same, .cons (.ty _) (.cons (.ty _) .nil), btOf_ok (s1.new htp) (r1.mono t2) et, kit_two t B C, ?_⟩
      exact hq _ _ q1 _ _ (.bl _) (s1.new htp) (t1.trans t2)
    · exact q1.elim
end
end TD

namespace TD
open PySem L2

structure DEnds where
  nx : DSt → Mem → Prop
  rt : D → Mem → Prop
  bk : DSt → Mem → Prop := fun _ _ => False
  ct : DSt → Mem → Prop := fun _ _ => False
  ex : Value → List (Str × D) → DSt → Mem → Prop := fun _ _ _ _ => False
abbrev TDS := DEnds → DSt → Mem → Prop
/-- the wish about exceptions at these slots -/
abbrev DEnds.at (D : DEnds) (ρ : DSt) : XD := fun c f M => D.ex c f ρ M
def fUp (K : PySem.W.Frag) (H : Hp) (M : Mem) (P : DSt → Mem → Prop) (Q : St → Hp → Prop) : Prop := ∀ ρ' M', P ρ' M' → ∀ σ' H', DvL K H' σ' ρ' → Sim K H' M' → Tr H M H' M' → Q σ' H'
structure EUp (K : PySem.W.Frag) (W : WX) (H : Hp) (M : Mem) (D0 : DEnds) (D : Ends) : Prop where
  nx : fUp K H M D0.nx D.nx
  rt : qUp K H M D0.rt D.rt
  bk : fUp K H M D0.bk D.bk
  ct : fUp K H M D0.ct D.ct
  ex : ∀ c f ρ' M', D0.ex c f ρ' M' → ∀ od σ' H', XRep K H' od f → DvL K H' σ' ρ' → Sim K H' M' → Tr H M H' M' → W c od σ' H'
section
variable {K : PySem.W.Frag} {W : WX} {H H' : Hp} {M M' : Mem} {D0 : DEnds} {D : Ends}
theorem fUp.mono {P : DSt → Mem → Prop} {Q : St → Hp → Prop} (h : fUp K H M P Q) (t : Tr H M H' M') : fUp K H' M' P Q := fun ρ m p σ h2 d s t2 => h ρ m p σ h2 d s (t.trans t2)
theorem EUp.mono (e : EUp K W H M D0 D) (t : Tr H M H' M') : EUp K W H' M' D0 D :=
  ⟨e.nx.mono t, e.rt.mono t, e.bk.mono t, e.ct.mono t, fun c f ρ m p od σ h2 x d s t2 => e.ex c f ρ m p od σ h2 x d s (t.trans t2)⟩
theorem EUp.w {σ : St} {ρ : DSt} (e : EUp K W H M D0 D) (dv : DvL K H σ ρ) : wUp K W σ H M (D0.at ρ) := fun c f M' h od H' x s t => e.ex c f ρ M' h od σ H' x (dv.mono t) s t
end
def upS (K : PySem.W.Frag) (W : WX) (td : TDS) : TS := fun D σ H => ∃ ρ M D0, DvL K H σ ρ ∧ Sim K H M ∧ td D0 ρ M ∧ EUp K W H M D0 D
def DS (X : Cx) (W : WX) (st : Stmt) (td : TDS) : Prop := PS X st (upS X.K W td)
def DSs (X : Cx) (W : WX) (st : List Stmt) (td : TDS) : Prop := PSs X st (upS X.K W td)
theorem PS.imp {X : Cx} {st : Stmt} {t t' : TS} (h : PS X st t) (k : ∀ D σ H, t' D σ H → t D σ H) : PS X st t' := ⟨fun pins s σ H D I q => h.run pins s σ H D I (k D σ H q)⟩
theorem PSs.imp {X : Cx} {st : List Stmt} {t t' : TS} (h : PSs X st t) (k : ∀ D σ H, t' D σ H → t D σ H) : PSs X st t' := ⟨fun pins s σ H D I q => h.run pins s σ H D I (k D σ H q)⟩
theorem PG.imp {X : Cx} {e : Expr} {t t' : TG} (h : PG X e t) (k : ∀ v σ H Q, t' v σ H Q → t v σ H Q) : PG X e t' := ⟨fun pins s σ H v u Q I r q => h.run pins s σ H v u Q I r (k v σ H Q q)⟩
theorem PGs.imp {X : Cx} {e : List Expr} {t t' : TGs} (h : PGs X e t) (k : ∀ v σ H Q, t' v σ H Q → t v σ H Q) : PGs X e t' := ⟨fun pins s σ H v u Q I r q => h.run pins s σ H v u Q I r (k v σ H Q q)⟩
theorem PI.imp {X : Cx} {tg e : Expr} {t t' : TI} (h : PI X tg e t) (k : ∀ σ H R, t' σ H R → t σ H R) : PI X tg e t' := ⟨fun pins s σ H R I q => h.run pins s σ H R I (k σ H R q)⟩

/-! ### blocks, small statements -/
section
variable {X : Cx} {W : WX} {st : Stmt} {rest : List Stmt} {t u : TDS} {e : Expr} {te : TDE} {pos : Pos}
def tdNext : TDS := fun D ρ M => D.nx ρ M
@[irreducible] def tdSeq (t u : TDS) : TDS := fun D ρ M => ∃ mid : DSt → Mem → Prop, t { D with nx := mid } ρ M ∧ ∀ ρ M, mid ρ M → u D ρ M
theorem ss_nil : DSs X W [] tdNext := PSs.imp pss_nil fun D σ H ⟨ρ, M, D0, dv, sm, q, eu⟩ => eu.nx ρ M q σ H dv sm (Tr.refl H M)
theorem EUp.seq {K : PySem.W.Frag} {H : Hp} {M : Mem} {D0 : DEnds} {D : Ends} {mid : DSt → Mem → Prop} (hm : ∀ ρ M, mid ρ M → u D0 ρ M) (eu : EUp K W H M D0 D) : EUp K W H M { D0 with nx := mid } { D with nx := upS K W u D } :=
  ⟨fun ρ M1 q σ H1 dv s t => ⟨ρ, M1, D0, dv, s, hm _ _ q, eu.mono t⟩, eu.rt, eu.bk, eu.ct, eu.ex⟩
theorem ss_cons (h1 : DS X W st t) (h2 : DSs X W rest u) : DSs X W (st :: rest) (tdSeq t u) := PSs.imp (pss_cons h1 h2) fun D σ H ⟨ρ, M, D0, dv, sm, q, eu⟩ => by
  unfold tdSeq at q
  obtain ⟨mid, q, hm⟩ := q
  exact ⟨ρ, M, _, dv, sm, q, eu.seq hm⟩
theorem ss_one (h1 : DS X W st t) : DSs X W [st] t := PSs.imp (pss_one h1) fun _ _ _ h => h
def tdBreak : TDS := fun D ρ M => D.bk ρ M
def tdCont : TDS := fun D ρ M => D.ct ρ M
theorem s_pass : DS X W (.Pass pos) tdNext := PS.imp ps_pass fun D σ H ⟨ρ, M, D0, dv, sm, q, eu⟩ => eu.nx ρ M q σ H dv sm (Tr.refl H M)
theorem s_break : DS X W (.Break pos) tdBreak := PS.imp ps_break fun D σ H ⟨ρ, M, D0, dv, sm, q, eu⟩ => eu.bk ρ M q σ H dv sm (Tr.refl H M)
theorem s_continue : DS X W (.Continue pos) tdCont := PS.imp ps_continue fun D σ H ⟨ρ, M, D0, dv, sm, q, eu⟩ => eu.ct ρ M q σ H dv sm (Tr.refl H M)
def tdDrop (te : TDE) : TDS := fun D ρ M => te ρ M (fun _ M1 => D.nx ρ M1) (D.at ρ)
theorem s_expr (he : DE X W e te) (hs : swapsWith e none pos.line X.env = pure false := by rfl) : DS X W (.Expr e pos) (tdDrop te) := PS.imp (ps_expr he hs) fun D σ H ⟨ρ, M, D0, dv, sm, q, eu⟩ =>
  ⟨ρ, M, _, _, dv, sm, q, fun d M1 q1 v H1 r1 s1 t1 => eu.nx ρ M1 q1 σ H1 (dv.mono t1) s1 t1, eu.w dv⟩
def tdRet (te : TDE) : TDS := fun D ρ M => te ρ M D.rt (D.at ρ)
theorem s_ret (he : DE X W e te) : DS X W (.Return (some e) pos) (tdRet te) := PS.imp (ps_ret he) fun D σ H ⟨ρ, M, D0, dv, sm, q, eu⟩ => ⟨ρ, M, _, _, dv, sm, q, eu.rt, eu.w dv⟩
def tdRetN : TDS := fun D _ M => D.rt .non M
theorem s_retN : DS X W (.Return none pos) tdRetN := PS.imp ps_retN fun D σ H ⟨ρ, M, D0, dv, sm, q, eu⟩ => eu.rt _ _ q _ H .non sm (Tr.refl H M)
def tdIfS (c : TDT) (t u : TDS) : TDS := fun D ρ M => c ρ M (fun b M1 => cnd b (t D ρ M1) (u D ρ M1)) (D.at ρ)
theorem s_if {c : Expr} {a b : List Stmt} {tc : TDT} (hc : DT X W c tc) (ha : DSs X W a t) (hb : DSs X W b u) : DS X W (.If c a b pos) (tdIfS tc t u) := PS.imp (ps_if hc ha hb) fun D σ H ⟨ρ, M, D0, dv, sm, q, eu⟩ => by
  refine ⟨ρ, M, _, _, dv, sm, q, fun k M1 q1 H1 s1 t1 => ?_, eu.w dv⟩
  cases k with
  | true => rw [cnd_true] at q1; rw [if_pos rfl]; exact ⟨ρ, M1, D0, dv.mono t1, s1, q1, eu.mono t1⟩
  | false => rw [cnd_false] at q1; rw [if_neg Bool.false_ne_true]; exact ⟨ρ, M1, D0, dv.mono t1, s1, q1, eu.mono t1⟩
def tdNever : TDS := fun _ _ _ => False
theorem s_never : DS X W st tdNever := PS.imp ps_never fun D σ H ⟨ρ, M, D0, dv, sm, q, eu⟩ => q
theorem ss_never {sts : List Stmt} : DSs X W sts tdNever := PSs.imp pss_never fun D σ H ⟨ρ, M, D0, dv, sm, q, eu⟩ => q
end

/-! ### targets -/
abbrev TDG := D → DSt → Mem → (DSt → Mem → Prop) → Prop
abbrev TDGs := List D → DSt → Mem → (DSt → Mem → Prop) → Prop
def upG (K : PySem.W.Frag) (td : TDG) : TG := fun v σ H Q => ∃ ρ M d Q0, DvL K H σ ρ ∧ Sim K H M ∧ Rep K H v d ∧ td d ρ M Q0 ∧ fUp K H M Q0 Q
def upGs (K : PySem.W.Frag) (td : TDGs) : TGs := fun vs σ H Q => ∃ ρ M ds Q0, DvL K H σ ρ ∧ Sim K H M ∧ Reps K H vs ds ∧ td ds ρ M Q0 ∧ fUp K H M Q0 Q
def DG (X : Cx) (e : Expr) (td : TDG) : Prop := PG X e (upG X.K td)
def DGs (X : Cx) (es : List Expr) (td : TDGs) : Prop := PGs X es (upGs X.K td)
section
variable {X : Cx} {W : WX} {pos : Pos} {e : Expr} {es : List Expr} {te : TDE}
def gdName (i : Nat) : TDG := fun d ρ M Q => Q (ρ.set i (some d)) M
theorem g_nameG {tg : Expr} {i : Nat} (h : PG X tg (gName i)) : DG X tg (gdName i) := PG.imp h fun v σ H Q ⟨ρ, M, d, Q0, dv, sm, r, q, f⟩ => f _ _ q _ H (dv.set r i) sm (Tr.refl H M)
theorem g_name (i : Nat) {x : Str} (hN : X.N.Nodup) (hi : X.N[i]? = some x := by rfl) (hx : Loc X.env.scope x := by first | exact .inl rfl | exact .inr rfl) (hf : X.fn x = true ∨ X.env.scope.names.lookup x = some .local := by first | exact .inl rfl | exact .inr rfl) : DG X (.Name x pos) (gdName i) := g_nameG (pg_name hN hi hx hf)
def gdNil : TDGs := fun ds ρ M Q => match ds with | [] => Q ρ M | _ => False
def gdCons (t : TDG) (u : TDGs) : TDGs := fun ds ρ M Q => match ds with | d :: ds => t d ρ M (fun ρ' M' => u ds ρ' M' Q) | [] => False
theorem gs_nil : DGs X [] gdNil := PGs.imp pgs_nil fun vs σ H Q ⟨ρ, M, ds, Q0, dv, sm, r, q, f⟩ => by
  cases ds with
  | nil => cases r; exact ⟨rfl, f _ _ q _ H dv sm (Tr.refl H M)⟩
  | cons => exact q.elim
theorem gs_cons {t : TDG} {u : TDGs} (h1 : DG X e t) (h2 : DGs X es u) (hs : (assignEach (e :: es) X.env).map (·.2) = assign e X.env :: (assignEach es X.env).map (·.2) := by rfl) : DGs X (e :: es) (gdCons t u) := PGs.imp (pgs_cons h1 h2 hs) fun vs σ H Q ⟨ρ, M, ds, Q0, dv, sm, r, q, f⟩ => by
  cases ds with
  | nil => exact q.elim
  | cons d ds =>
    cases r with
    | @cons v _ vs _ r rs =>
      refine ⟨v, vs, rfl, ρ, M, d, _, dv, sm, r, q, fun ρ1 M1 q1 σ1 H1 dv1 s1 t1 => ?_⟩
      exact ⟨ρ1, M1, ds, Q0, dv1, s1, rs.mono t1, q1, f.mono t1⟩
def gdTup (n : Nat) (t : TDGs) : TDG := fun d ρ M Q => match d with | .tup ds => ds.length = n ∧ t ds ρ M Q | _ => False
theorem g_tup {k : Nat} {t : TDGs} {n : Nat} (hc : X.calm = true) (h : DGs X es t) (hn : (assignEach es X.env).length = n := by rfl) (hst : (assignEach es X.env).findIdx? (·.1) = none := by rfl) : DG X (.Tuple es k pos) (gdTup n t) := PG.imp (pg_tup hc h hn hst) fun v σ H Q ⟨ρ, M, d, Q0, dv, sm, r, q, f⟩ => by
  cases d with
  | tup ds => cases r with | tup g rs => exact ⟨_, _, rfl, g, by rw [rs.length]; exact q.1, ρ, M, ds, Q0, dv, sm, rs, q.2, f⟩
  | _ => exact q.elim
/-- o[i] = v of a list -/
@[irreducible] def tdSetL : D → D → D → Mem → (Mem → Prop) → Prop := fun o i v M Q => match o, i with
  | .ref a, .int k => match M a with
    | some (.lst ds) => match ixN ds.length k with | some j => Q (mupd M a (.lst (ds.set j v))) | none => False
    | _ => False
  | _, _ => False
theorem setL_i {M : Mem} {Q : Mem → Prop} {a : Addr} {k : Int} {j : Nat} {v : D} {ds : List D} (h1 : M a = some (.lst ds)) (h2 : ixN ds.length k = some j) (h : Q (mupd M a (.lst (ds.set j v)))) : tdSetL (.ref a) (.int k) v M Q := by
  unfold tdSetL
  dsimp only
  rw [h1]
  dsimp only
  rw [h2]
  exact h
def gdSub (to ti : TDE) : TDG := fun d ρ M Q => to ρ M (fun o M1 => ti ρ M1 (fun i M2 => tdSetL o i d M2 fun M3 => Q ρ M3) fun _ _ _ => False) fun _ _ _ => False
theorem up_setL {K : PySem.W.Frag} {H : Hp} {M : Mem} {o i v : V} {d1 d2 d3 : D} {Q0 : Mem → Prop} {Q : Hp → Prop} (s : Sim K H M) (r1 : Rep K H o d1) (r2 : Rep K H i d2) (r3 : Rep K H v d3) (h : tdSetL d1 d2 d3 M Q0) (f : ∀ M', Q0 M' → ∀ H', Sim K H' M' → Tr H M H' M' → Q H') : rSetL o i v H Q := by
  unfold tdSetL at h
  split at h
  · cases r1; cases r2
    split at h
    · rename_i a k _ ds e
      split at h
      · rename_i j ej
        obtain ⟨vs, g, rs⟩ := s.lst e
        refine ⟨a, vs, k, j, rfl, rfl, g, by rw [rs.length]; exact ej, f _ h _ ?_ (Tr.wr e g rfl)⟩
        have t : Tr H M (upd H a (.lst (vs.set j v))) (mupd M a (.lst (ds.set j d3))) := Tr.wr e g rfl
        exact Sim.wr e g rfl s ⟨_, upd_same, (Reps.set r3 j rs).mono t⟩
      · exact h.elim
    · exact h.elim
  · exact h.elim
theorem w0_up {K : PySem.W.Frag} {W : WX} {σ : St} {H : Hp} {M : Mem} : wUp K W σ H M fun _ _ _ => False := fun _ _ _ h => h.elim
theorem g_sub {o i : Expr} {to ti : TDE} (ho : DE X W o to) (hi : DE X W i ti) (ha : ∀ v, assign (.Subscript o i pos) X.env v = (do
      let ov ← holding [v] (eval o X.env)
      let iv ← holding [v, ov] (eval i X.env)
      standAt pos
      holding [v, ov, iv] (setItem ov iv v)
      release [v, ov, iv] []) := by intro _; rfl) : DG X (.Subscript o i pos) (gdSub to ti) := PG.imp (pg_sub ho hi set_list ha) fun v σ H Q ⟨ρ, M, d, Q0, dv, sm, r, q, f⟩ => by
  refine ⟨ρ, M, _, _, dv, sm, q, fun d1 M1 q1 x H1 r1 s1 t1 => ?_, w0_up⟩
  refine ⟨ρ, M1, _, _, dv.mono t1, s1, q1, fun d2 M2 q2 y H2 r2 s2 t2 => ?_, w0_up⟩
  have t12 := t1.trans t2
  exact up_setL s2 (r1.mono t2) r2 (r.mono t12) q2 fun M3 q3 H3 s3 t3 => f _ _ q3 _ H3 (dv.mono (t12.trans t3)) s3 (t12.trans t3)
/-! ### assignments -/
def tdAsg (te : TDE) (g : TDG) : TDS := fun D ρ M => te ρ M (fun d M1 => g d ρ M1 D.nx) (D.at ρ)
theorem up_asg {K : PySem.W.Frag} {g : TDG} {gg : TG} (hgg : ∀ v σ H Q, upG K g v σ H Q → gg v σ H Q) {D : Ends} {σ : St} {H : Hp} (h : upS K W (tdAsg te g) D σ H) : tAsg (upE K W te) gg D σ H := by
  obtain ⟨ρ, M, D0, dv, sm, q, eu⟩ := h
  exact ⟨ρ, M, _, _, dv, sm, q, fun d M1 q1 v H1 r1 s1 t1 => hgg _ _ _ _ ⟨ρ, M1, d, _, dv.mono t1, s1, r1, q1, eu.nx.mono t1⟩, eu.w dv⟩
theorem s_asg {tg : Expr} {g : TDG} (he : DE X W e te) (hg : DG X tg g) (hs : swapsWithSole [tg] e pos.line X.env = pure false := by rfl) (hw : swappedStores [tg] e X.env = pure none := by rfl)
    (h1 : (assignEach [tg] X.env).map (·.2) = [assign tg X.env] := by rfl) : DS X W (.Assign [tg] e pos) (tdAsg te g) := PS.imp (ps_asg he hg hs hw h1) fun D σ H h => up_asg (fun _ _ _ _ h => h) h
theorem s_set (i : Nat) {x : Str} {pos' : Pos} (hN : X.N.Nodup) (he : DE X W e te) (hi : X.N[i]? = some x := by rfl) (hx : Loc X.env.scope x := by first | exact .inl rfl | exact .inr rfl) (hs : swapsWith e (some (.Name x pos')) pos.line X.env = pure false := by rfl) (hf : X.fn x = true ∨ X.env.scope.names.lookup x = some .local := by first | exact .inl rfl | exact .inr rfl) :
    DS X W (.Assign [.Name x pos'] e pos) (tdAsg te (gdName i)) := PS.imp (ps_set hN hi hx he hs hf) fun D σ H h => up_asg (fun v σ H Q ⟨ρ, M, d, Q0, dv, sm, r, q, f⟩ => f _ _ q _ H (dv.set r i) sm (Tr.refl H M)) h
def tdPar (i j : Nat) (ta : TDA) : TDS := fun D ρ M => ta ρ M (fun ds M1 => match ds with | [a, b] => D.nx ((ρ.set i (some a)).set j (some b)) M1 | _ => False) (D.at ρ)
theorem s_par (i j : Nat) {x y : Str} {a b : Expr} {ta : TDA} {px py pt : Pos} {kt k2 pt2} (hc : X.calm = true) (hN : X.N.Nodup) (ha : DA X W [a, b] ta) (hi : X.N[i]? = some x := by rfl) (hj : X.N[j]? = some y := by rfl) (hij : i ≠ j := by decide)
    (hx : X.env.scope.names.lookup x = some .local := by rfl) (hy : X.env.scope.names.lookup y = some .local := by rfl)
    (hw : swappedStores [.Tuple [.Name x px, .Name y py] kt pt] (.Tuple [a, b] k2 pt2) X.env = pure (some [x, y]) := by rfl)
    (hs : swapsWithSole [.Tuple [.Name x px, .Name y py] kt pt] (.Tuple [a, b] k2 pt2) pos.line X.env = pure false := by rfl) :
    DS X W (.Assign [.Tuple [.Name x px, .Name y py] kt pt] (.Tuple [a, b] k2 pt2) pos) (tdPar i j ta) := PS.imp (ps_par hc hN hi hj hij hx hy ha hw hs) fun D σ H ⟨ρ, M, D0, dv, sm, q, eu⟩ => by
  refine ⟨ρ, M, _, _, dv, sm, q, fun ds M1 q1 vs H1 r1 s1 t1 => ?_, eu.w dv⟩
  match ds, vs, r1, q1 with
  | [d1, d2], _, .cons r1 (.cons r2 .nil), q1 => exact ⟨_, _, rfl, eu.nx _ _ q1 _ H1 (((dv.mono t1).set r1 i).set r2 j) s1 t1⟩
/-- name op= e -/
def tdAug (i : Nat) (te : TDE) (rd : RD2) : TDS := fun D ρ M => match ρ.getD i none with
  | some x => te ρ M (fun y M1 => rd x y M1 fun z M2 => D.nx (ρ.set i (some z)) M2) (D.at ρ)
  | none => False
theorem s_aug (i : Nat) {x : Str} {op : Operator} {ti : TIp} {rd : RD2} {pos' : Pos} (ho : PIp X op ti) (l : LiftR X.K ti rd) (hN : X.N.Nodup) (he : DE X W e te) (hi : X.N[i]? = some x := by rfl) (hx : Loc X.env.scope x := by first | exact .inl rfl | exact .inr rfl) (hf : X.fn x = true ∨ X.env.scope.names.lookup x = some .local := by first | exact .inl rfl | exact .inr rfl) :
    DS X W (.AugAssign (.Name x pos') op e pos) (tdAug i te rd) := PS.imp (ps_aug hN hi hx he ho hf) fun D σ H ⟨ρ, M, D0, dv, sm, q, eu⟩ => by
  unfold tdAug at q
  split at q
  · rename_i d e1
    obtain ⟨v, e2, r⟩ := dv.get (getD_some e1)
    refine ⟨v, e2, ρ, M, _, _, dv, sm, q, fun d2 M1 q1 y H1 r1 s1 t1 => ?_, eu.w dv⟩
    exact l v y H1 M1 d d2 _ _ (r.mono t1) r1 s1 q1 fun z M2 q2 w H2 r2 s2 t2 => eu.nx _ _ q2 _ H2 ((dv.mono (t1.trans t2)).set r2 i) s2 (t1.trans t2)
  · exact q.elim
theorem l_ipI {K : PySem.W.Frag} (f : Int → Int → Int) : LiftR K (ipI f) (rdI0 fun i j => .int (f i j)) := fun x y H M dx dy Q0 Q rx ry s h hq => by
  cases dx <;> cases dy <;> try exact h.elim
  cases rx; cases ry
  exact ⟨_, _, rfl, rfl, hq _ _ h _ H (.int _) s (Tr.refl H M)⟩
@[irreducible] def rdAugAdd : RD2 := rdI0 fun i j => .int (i + j)
theorem augAdd_i {M : Mem} {Q : D → Mem → Prop} {i j : Int} (h : Q (.int (i + j)) M) : rdAugAdd (.int i) (.int j) M Q := by unfold rdAugAdd; exact h
theorem l_augAdd {K : PySem.W.Frag} : LiftR K (ipI (· + ·)) rdAugAdd := by unfold rdAugAdd; exact l_ipI _
theorem s_augAdd (i : Nat) {x : Str} {pos' : Pos} (hN : X.N.Nodup) (he : DE X W e te) (hi : X.N[i]? = some x := by rfl) (hx : Loc X.env.scope x := by first | exact .inl rfl | exact .inr rfl) (hf : X.fn x = true ∨ X.env.scope.names.lookup x = some .local := by first | exact .inl rfl | exact .inr rfl) :
    DS X W (.AugAssign (.Name x pos') .Add e pos) (tdAug i te rdAugAdd) := s_aug i ip_add l_augAdd hN he hi hx hf
theorem s_augFdiv (i : Nat) {x : Str} {pos' : Pos} (hN : X.N.Nodup) (he : DE X W e te) (hi : X.N[i]? = some x := by rfl) (hx : Loc X.env.scope x := by first | exact .inl rfl | exact .inr rfl) (hf : X.fn x = true ∨ X.env.scope.names.lookup x = some .local := by first | exact .inl rfl | exact .inr rfl) :
    DS X W (.AugAssign (.Name x pos') .FloorDiv e pos) (tdAug i te rdFdiv) := s_aug (ti := rI CDivW fun i j => .int (i / j)) i iop_fdivW l_fdiv' hN he hi hx hf
end

/-! ### while -/
section
variable {X : Cx} {W : WX} {pos : Pos}
@[irreducible] def tdWhile (c : TDT) (tb : TDS) : TDS := fun D ρ M => ∃ V : Nat → DSt → Mem → Prop, (∃ m, V m ρ M) ∧ ∀ m ρ M, V m ρ M →
  c ρ M (fun b M1 => cnd b (tb { D with nx := fun ρ' M' => ∃ m', m' < m ∧ V m' ρ' M', ct := fun ρ' M' => ∃ m', m' < m ∧ V m' ρ' M', bk := D.nx } ρ M1) (D.nx ρ M1)) (D.at ρ)
theorem s_while {c : Expr} {body : List Stmt} {tc : TDT} {tb : TDS} (hp : PassesOwn (model X.prog X.w) X.A X.env X.xe) (hc : DT X W c tc) (hb : DSs X W body tb) : DS X W (.While c body [] pos) (tdWhile tc tb) := PS.imp (ps_while hp hc hb) fun D σ H ⟨ρ, M, D0, dv, sm, q, eu⟩ => by
  unfold tdWhile at q
  obtain ⟨V, ⟨m0, v0⟩, turn⟩ := q
  refine ⟨fun m σ1 H1 => ∃ ρ1 M1, DvL X.K H1 σ1 ρ1 ∧ Sim X.K H1 M1 ∧ Tr H M H1 M1 ∧ V m ρ1 M1, ⟨m0, ρ, M, dv, sm, Tr.refl H M, v0⟩, ?_⟩
  rintro m σ1 H1 ⟨ρ1, M1, dv1, s1, t1, v1⟩
  have eu1 := eu.mono t1
  refine ⟨ρ1, M1, _, _, dv1, s1, turn m ρ1 M1 v1, fun b M2 q2 H2 s2 t2 => ?_, eu1.w dv1⟩
  cases b with
  | true =>
    rw [cnd_true] at q2; rw [if_pos rfl]
    have again : fUp X.K H2 M2 (fun ρ' M' => ∃ m', m' < m ∧ V m' ρ' M') fun σ' H' => ∃ m', m' < m ∧ ∃ ρ1 M1, DvL X.K H' σ' ρ1 ∧ Sim X.K H' M1 ∧ Tr H M H' M1 ∧ V m' ρ1 M1 := fun ρ' M' ⟨m', hm, v'⟩ σ' H' dv' s' t' => ⟨m', hm, ρ', M', dv', s', (t1.trans t2).trans t', v'⟩
    have eu2 := eu1.mono t2
    exact ⟨fun σ' H' => ∃ m', m' < m ∧ ∃ ρ1 M1, DvL X.K H' σ' ρ1 ∧ Sim X.K H' M1 ∧ Tr H M H' M1 ∧ V m' ρ1 M1, fun σ' H' h => h, ρ1, M2, _, dv1.mono t2, s2, q2, ⟨again, eu2.rt, eu2.nx, again, eu2.ex⟩⟩
  | false => rw [cnd_false] at q2; rw [if_neg Bool.false_ne_true]; exact eu1.nx _ _ q2 _ H2 (dv1.mono t2) s2 t2
/-- by an invariant and a measure -/
theorem while_by {c : TDT} {tb : TDS} {D : DEnds} {ρ : DSt} {M : Mem} (I : DSt → Mem → Prop) (μ : DSt → Mem → Nat) (h0 : I ρ M)
    (hs : ∀ ρ M, I ρ M → c ρ M (fun b M1 => cnd b (tb { D with nx := fun ρ' M' => ∃ m', m' < μ ρ M ∧ m' = μ ρ' M' ∧ I ρ' M', ct := fun ρ' M' => ∃ m', m' < μ ρ M ∧ m' = μ ρ' M' ∧ I ρ' M', bk := D.nx } ρ M1) (D.nx ρ M1)) (D.at ρ)) : tdWhile c tb D ρ M := by
  unfold tdWhile
  exact ⟨fun m ρ M => m = μ ρ M ∧ I ρ M, ⟨_, rfl, h0⟩, fun m ρ M ⟨e, h⟩ => by subst e; exact hs ρ M h⟩
end

/-! ### what is walked -/
structure DWalk (K : PySem.W.Frag) (J : It) (ds : List D) (Gd : Mem → Prop) (S : Hp → Mem → Prop) : Prop where
  stay : ∀ H M H' M', S H M → Tr H M H' M' → S H' M'
  goes : ∀ i H M, i < ds.length → S H M → Sim K H M → Gd M → J.go i H
  stops : ∀ H M, S H M → Sim K H M → Gd M → J.stop ds.length H
  yields : ∀ i H M x H', i < ds.length → S H M → Sim K H M → Gd M → J.yld i H x H' → ∃ d, ds[i]? = some d ∧ Rep K H' x d ∧ Sim K H' M ∧ Tr H M H' M
abbrev TDI := DSt → Mem → (List D → (Mem → Prop) → Mem → Prop) → XD → Prop
def upI (K : PySem.W.Frag) (W : WX) (td : TDI) : TI := fun σ H R => ∃ ρ M Q0 E0, DvL K H σ ρ ∧ Sim K H M ∧ td ρ M Q0 E0 ∧
  (∀ ds Gd M', Q0 ds Gd M' → ∀ J S H', DWalk K J ds Gd S → S H' M' → Sim K H' M' → Tr H M H' M' → R J H') ∧ wUp K W σ H M E0
def DI (X : Cx) (W : WX) (tg e : Expr) (td : TDI) : Prop := PI X tg e (upI X.K W td)
section
variable {X : Cx} {W : WX} {tg e : Expr} {te : TDE}
abbrev gTrue : Mem → Prop := fun _ => True
/-- a tuple, a list that may be read: as it stands at each turn -/
def tdiSeq (t : TDE) : TDI := fun ρ M Q E => t ρ M (fun d M1 => match d with
  | .tup ds => Q ds gTrue M1
  | .ref a => match M1 a with
    | some (.lst ds) => Q ds (fun M => M a = some (.lst ds)) M1
    | _ => False
  | _ => False) E
theorem dw_list {K : PySem.W.Frag} {a : Addr} {ds : List D} {Gd : Mem → Prop} {S : Hp → Mem → Prop} (hst : ∀ H M H' M', S H M → Tr H M H' M' → S H' M') (h : ∀ H M, S H M → Sim K H M → Gd M → ∃ vs, SqL K H a vs ∧ Reps K H vs ds) :
    DWalk K (Itl K a) ds Gd S where
  stay := hst
  goes := fun i H M hi hs sm hg => by
    obtain ⟨vs, g, r⟩ := h H M hs sm hg
    have hl := r.length
    exact ⟨vs, vs[i]'(by omega), g, by simp⟩
  stops := fun H M hs sm hg => by
    obtain ⟨vs, g, r⟩ := h H M hs sm hg
    exact ⟨vs, g, by rw [r.length]; exact Nat.le_refl _⟩
  yields := fun i H M x H' hi hs sm hg y => by
    obtain ⟨vs, g, r⟩ := h H M hs sm hg
    obtain ⟨rfl, y⟩ := y
    obtain ⟨v, e, rv⟩ := r.get (List.getElem?_eq_getElem hi)
    have := y vs g
    rw [e] at this; cases this
    exact ⟨_, List.getElem?_eq_getElem hi, rv, sm, Tr.refl _ _⟩
theorem dw_tup {K : PySem.W.Frag} {a : Addr} {ds : List D} {Gd : Mem → Prop} {S : Hp → Mem → Prop} (hst : ∀ H M H' M', S H M → Tr H M H' M' → S H' M') (h : ∀ H M, S H M → Sim K H M → Gd M → ∃ vs, SqT K H a vs ∧ Reps K H vs ds) : DWalk K (Itt K a) ds Gd S where
  stay := hst
  goes := fun i H M hi hs sm hg => by
    obtain ⟨vs, g, r⟩ := h H M hs sm hg
    have hl := r.length
    exact ⟨vs, vs[i]'(by omega), g, by simp⟩
  stops := fun H M hs sm hg => by
    obtain ⟨vs, g, r⟩ := h H M hs sm hg
    exact ⟨vs, g, by rw [r.length]; exact Nat.le_refl _⟩
  yields := fun i H M x H' hi hs sm hg y => by
    obtain ⟨vs, g, r⟩ := h H M hs sm hg
    obtain ⟨rfl, y⟩ := y
    obtain ⟨v, e, rv⟩ := r.get (List.getElem?_eq_getElem hi)
    have := y vs g
    rw [e] at this; cases this
    exact ⟨_, List.getElem?_eq_getElem hi, rv, sm, Tr.refl _ _⟩
/-- a list, a tuple, a text -/
theorem pi_seq {l : Expr} {tl : TE} (hl : PE X l tl) : PI X tg l (fun σ H R => tl σ H fun x H1 => (∃ a, x = .ref a ∧ (∃ xs, SqL X.K H1 a xs) ∧ R (Itl X.K a) H1) ∨ (∃ a, x = .ref a ∧ (∃ xs, SqT X.K H1 a xs) ∧ R (Itt X.K a) H1) ∨ ∃ z, x = .str z ∧ R (Its z) H1) := by
  refine ⟨fun pins s σ H R I h => ?_⟩
  refine thn (hl.run pins s σ H _ I h) fun v s1 ⟨x, H1, I1, r1, q1⟩ => ?_
  rcases q1 with ⟨a, e, ⟨xs, hq⟩, q⟩ | ⟨a, e, ⟨xs, hq⟩, q⟩ | ⟨z, e, q⟩
  · subst e
    cases r1
    obtain ⟨its, rv, p, hz⟩ := I1.list hq
    refine wpAny_pyIter_list p.isList ?_
    refine ⟨s1.heap.objs.size, [s1.heap.objs.size], _, _, H1, rfl, I1.kept (t' := s1.toks) fun b o e => Heap.get?_push_of_some _ e, turn_list a _, ⟨_, Heap.get?_push_size _ rfl, rfl, rfl⟩, fun b hb => ?_, q⟩
    have e : b = s1.heap.objs.size := by simpa using hb
    subst e
    exact I1.fpOk (Nat.le_refl _) (I1.hok.fresh (Nat.le_refl _))
  · subst e
    cases r1
    obtain ⟨its, rv, p, hz⟩ := I1.tuple hq
    refine wpAny_pyIter_tuple (show s1.heap.IsTuple a its.toArray from p) ?_
    refine ⟨s1.heap.objs.size, [s1.heap.objs.size], _, _, H1, rfl, I1.kept (t' := s1.toks) fun b o e => Heap.get?_push_of_some _ e, turn_tuple a _, ⟨_, Heap.get?_push_size _ rfl, rfl, rfl⟩, fun b hb => ?_, q⟩
    have e : b = s1.heap.objs.size := by simpa using hb
    subst e
    exact I1.fpOk (Nat.le_refl _) (I1.hok.fresh (Nat.le_refl _))
  · subst e
    obtain ⟨t, rfl⟩ := r1
    cases ha : z.cps.all (· < 128)
    · exact wpAny_pyIter_wide ha (pi_one (tk := s1.toks) I1 _ (turn_str _ z t "str_iterator" (.inr rfl)) ⟨_, Heap.get?_push_size _ rfl, rfl, rfl⟩ q)
    · exact wpAny_pyIter_ascii ha (pi_one (tk := s1.toks) I1 _ (turn_str _ z t "str_ascii_iterator" (.inl rfl)) ⟨_, Heap.get?_push_size _ rfl, rfl, rfl⟩ q)
def signsD (z : Str) : List D := z.cps.toList.map fun c => D.str ⟨#[c]⟩
theorem dw_str {K : PySem.W.Frag} {z : Str} : DWalk K (Its z) (signsD z) gTrue (fun _ _ => True) where
  stay := fun _ _ _ _ _ _ => trivial
  goes := fun i H M hi _ _ _ => by
    show i < z.cps.size
    simpa [signsD] using hi
  stops := fun H M _ _ _ => by
    show z.cps.size ≤ _
    simp [signsD]
  yields := fun i H M x H' hi _ sm _ y => by
    obtain ⟨rfl, c, hc, rfl⟩ := y
    refine ⟨_, ?_, .str _, sm, Tr.refl _ _⟩
    have e : z.cps.toList[i]? = some c := by simpa using hc
    simp [signsD, e]
@[irreducible] def rdIt (d : D) (M1 : Mem) (Q : List D → (Mem → Prop) → Mem → Prop) : Prop := match d with
  | .tup ds => Q ds gTrue M1
  | .rol ds => Q ds gTrue M1
  | .str z => Q (signsD z) gTrue M1
  | .ref a => match M1 a with
    | some (.lst ds) => Q ds (fun M => M a = some (.lst ds)) M1
    | _ => False
  | _ => False
theorem it_t {M : Mem} {Q : List D → (Mem → Prop) → Mem → Prop} {ds : List D} (h : Q ds gTrue M) : rdIt (.tup ds) M Q := by unfold rdIt; exact h
theorem it_r {M : Mem} {Q : List D → (Mem → Prop) → Mem → Prop} {ds : List D} (h : Q ds gTrue M) : rdIt (.rol ds) M Q := by unfold rdIt; exact h
theorem it_s {M : Mem} {Q : List D → (Mem → Prop) → Mem → Prop} {z : Str} (h : Q (signsD z) gTrue M) : rdIt (.str z) M Q := by unfold rdIt; exact h
theorem it_l {M : Mem} {Q : List D → (Mem → Prop) → Mem → Prop} {a : Addr} {ds : List D} (h1 : M a = some (.lst ds)) (h : Q ds (fun M => M a = some (.lst ds)) M) : rdIt (.ref a) M Q := by unfold rdIt; dsimp only; rw [h1]; exact h
def tdiAny (t : TDE) : TDI := fun ρ M Q E => t ρ M (fun d M1 => rdIt d M1 Q) E
theorem i_any (h : DE X W e te) : DI X W tg e (tdiAny te) := PI.imp (pi_seq h) fun σ H R ⟨ρ, M, Q0, E0, dv, sm, q, hq, he⟩ => by
  refine ⟨ρ, M, _, E0, dv, sm, q, fun d M1 q1 v H1 r1 s1 t1 => ?_, he⟩
  dsimp only at q1
  unfold rdIt at q1
  split at q1
  · cases r1 with
    | @tup a vs ds g rs =>
      refine .inr (.inl ⟨a, rfl, ⟨vs, g⟩, hq _ _ _ q1 _ (fun H M => SqT X.K H a vs ∧ Reps X.K H vs _) H1 (dw_tup (fun H M H' M' hs t => ⟨rd_mono t.tup t.frz hs.1, hs.2.mono t⟩) fun H M hs _ _ => ⟨vs, hs⟩) ⟨g, rs⟩ s1 t1⟩)
  · cases r1 with
    | @rol a vs ds g rs =>
      refine .inl ⟨a, rfl, ⟨vs, g.sq⟩, hq _ _ _ q1 _ (fun H M => SqLR X.K H a vs ∧ Reps X.K H vs _) H1 (dw_list (fun H M H' M' hs t => ⟨hs.1.mono t.frz, hs.2.mono t⟩) fun H M hs _ _ => ⟨vs, hs.1.sq, hs.2⟩) ⟨g, rs⟩ s1 t1⟩
  · cases r1; exact .inr (.inr ⟨_, rfl, hq _ _ _ q1 _ _ H1 dw_str trivial s1 t1⟩)
  · cases r1
    split at q1
    · rename_i a _ ds em
      obtain ⟨vs, g, rs⟩ := s1 _ _ em
      exact .inl ⟨a, rfl, ⟨vs, SqL.of g⟩, hq _ _ _ q1 _ (fun _ _ => True) H1 (dw_list (fun _ _ _ _ _ _ => trivial) fun H M _ sm hg => by
        obtain ⟨vs, g, rs⟩ := sm _ _ hg
        exact ⟨vs, SqL.of g, rs⟩) trivial s1 t1⟩
    · exact q1.elim
  · exact q1.elim
/-- a list that nobody else sees -/
abbrev TDL := DSt → Mem → (List D → Mem → Prop) → XD → Prop
def upL (K : PySem.W.Frag) (W : WX) (td : TDL) : TE := fun σ H Q => ∃ ρ M Q0 E0, DvL K H σ ρ ∧ Sim K H M ∧ td ρ M Q0 E0 ∧ (∀ ds M', Q0 ds M' → ∀ a vs H', H a = none → H' a = some (.lst vs) → M' a = none → Reps K H' vs ds → Sim K H' M' → Tr H M H' M' → Q (.ref a) H') ∧ wUp K W σ H M E0
def DL (X : Cx) (W : WX) (e : Expr) (td : TDL) : Prop := PE X e (upL X.K W td)
theorem DL.q {t : TDL} (h : DL X W e t) : DQ X W e t := PE.imp h fun σ H Q ⟨ρ, M, Q0, E0, dv, sm, q, hq, he⟩ => ⟨ρ, M, Q0, E0, dv, sm, q, fun ds M1 q1 a vs H1 _ g _ r1 s1 t1 => hq ds M1 q1 a vs H1 (SqL.of g) r1 s1 t1, he⟩
def tdLE (t : TDL) : TDE := fun ρ M Q E => t ρ M (fun ds M1 => ∀ p, M1 p = none → Q (.ref p) (mupd M1 p (.lst ds))) E
theorem DL.de {t : TDL} (h : DL X W e t) : DE X W e (tdLE t) := PE.imp h fun σ H Q ⟨ρ, M, Q0, E0, dv, sm, q, hq, he⟩ => by
  refine ⟨ρ, M, _, E0, dv, sm, q, fun ds M1 q1 a vs H1 gf g gm r1 s1 t1 => ?_, he⟩
  refine hq _ _ (q1 a gm) _ H1 (.ref a) (fun b o hb => ?_) ⟨t1.tup, t1.frz, fun b o hb n => ?_, t1.st, t1.tb, t1.dom⟩
  · by_cases e : b = a
    · subst e; rw [mupd_same] at hb; cases hb; exact ⟨vs, g, r1⟩
    · rw [mupd_ne e] at hb; exact s1 b o hb
  · rw [mupd_ne (Hfree hb gf)]; exact t1.fr b o hb n
theorem l_lst {es : List Expr} {t : TDA} {pos : Pos} (h : DA X W es t) : DL X W (.List es pos) (tdQlst t) := PE.imp (pe_lst h) fun σ H Q ⟨ρ, M, Q0, E0, dv, sm, q, hq, he⟩ => by
  refine ⟨ρ, M, _, E0, dv, sm, q, fun ds M1 q1 vs H1 r1 s1 t1 => ?_, he⟩
  refine ⟨by rw [r1.length]; exact q1.1, fun p hp => ?_⟩
  have t2 : Tr H1 M1 (upd H1 p (.lst vs)) M1 := Tr.new hp
  exact hq _ _ q1.2 p vs _ (t1.fresh hp) upd_same (s1.free hp) (r1.mono t2) (s1.new hp) (t1.trans t2)
def tdiL (t : TDL) : TDI := fun ρ M Q E => t ρ M (fun ds M1 => Q ds gTrue M1) E
theorem i_l {t : TDL} (h : DL X W e t) : DI X W tg e (tdiL t) := PI.imp (pi_list h) fun σ H R ⟨ρ, M, Q0, E0, dv, sm, q, hq, he⟩ => by
  refine ⟨ρ, M, _, E0, dv, sm, q, fun ds M1 q1 a vs H1 _ g gm r1 s1 t1 => ?_, he⟩
  exact ⟨a, rfl, ⟨vs, SqL.of g⟩, hq _ _ _ q1 _ (fun H M => H a = some (.lst vs) ∧ M a = none ∧ Reps X.K H vs ds) H1 (dw_list (fun H M H' M' hs t => ⟨t.st _ _ hs.1 hs.2.1 rfl, t.fr _ _ hs.1 hs.2.1, hs.2.2.mono t⟩) fun H M hs _ _ => ⟨vs, SqL.of hs.1, hs.2.2⟩) ⟨g, gm, r1⟩ s1 t1⟩
/-- range -/
def rngD (lo : Int) (n : Nat) : List D := (List.range n).map fun (i : Nat) => D.int (lo + (i : Int))
theorem rngD_length (lo : Int) (n : Nat) : (rngD lo n).length = n := by simp [rngD]
theorem rngD_get {lo : Int} {n i : Nat} (h : i < n) : (rngD lo n)[i]? = some (.int (lo + i)) := by simp [rngD, h]
theorem dw_range {K : PySem.W.Frag} {lo : Int} {n : Nat} : DWalk K (Itr lo n) (rngD lo n) gTrue (fun _ _ => True) where
  stay := fun _ _ _ _ _ _ => trivial
  goes := fun i H M hi _ _ _ => by rw [rngD_length] at hi; exact hi
  stops := fun H M _ _ _ => by show n ≤ _; rw [rngD_length]; exact Nat.le_refl _
  yields := fun i H M x H' hi _ sm _ y => by
    obtain ⟨rfl, rfl⟩ := y
    rw [rngD_length] at hi
    exact ⟨_, rngD_get hi, .int _, sm, Tr.refl _ _⟩
def tdiR1 (ta : TDE) : TDI := fun ρ M Q E => ta ρ M (fun d M1 => match d with | .int j => -(2 ^ 62) ≤ j ∧ j < 2 ^ 62 ∧ Q (rngD 0 j.toNat) gTrue M1 | _ => False) E
def tdiR2 (ta tb : TDE) : TDI := fun ρ M Q E => ta ρ M (fun d M1 => tb ρ M1 (fun c M2 => match d, c with | .int i, .int j => (-(2 ^ 62) ≤ i ∧ i < 2 ^ 62 ∧ -(2 ^ 62) ≤ j ∧ j < 2 ^ 62) ∧ Q (rngD i (j - i).toNat) gTrue M2 | _, _ => False) E) E
theorem i_r1 {a : Expr} {ta : TDE} {p pos : Pos} (hm : X.mg "range" = none) (ha : DE X W a ta) (hg : Gl X "range" := by rfl) (hs : starEach [a] X.env = [(false, eval a X.env)] := by rfl) : DI X W tg (.Call (.Name "range" p) [a] [] pos) (tdiR1 ta) :=
  PI.imp (pi_range1 hg hm (pa_cons ha pa_nil hs) hs) fun σ H R ⟨ρ, M, Q0, E0, dv, sm, q, hq, he⟩ => by
    refine ⟨ρ, M, _, E0, dv, sm, q, fun d M1 q1 v H1 r1 s1 t1 => ?_, he⟩
    cases d <;> try exact q1.elim
    cases r1
    exact ⟨_, rfl, q1.1, q1.2.1, hq _ _ _ q1.2.2 _ _ H1 dw_range trivial s1 t1⟩
theorem i_r2 {a b : Expr} {ta tb : TDE} {p pos : Pos} (hm : X.mg "range" = none) (ha : DE X W a ta) (hb : DE X W b tb) (hg : Gl X "range" := by rfl) (hs : starEach [a, b] X.env = [(false, eval a X.env), (false, eval b X.env)] := by rfl) (hs2 : starEach [b] X.env = [(false, eval b X.env)] := by rfl) : DI X W tg (.Call (.Name "range" p) [a, b] [] pos) (tdiR2 ta tb) :=
  PI.imp (pi_range2 hg hm (pa_cons ha (pa_cons hb pa_nil hs2) (hs.trans (by rw [hs2]))) hs hs2) fun σ H R ⟨ρ, M, Q0, E0, dv, sm, q, hq, he⟩ => by
    refine ⟨ρ, M, _, E0, dv, sm, q, fun d M1 q1 v H1 r1 s1 t1 => ?_, he⟩
    refine ⟨ρ, M1, _, E0, dv.mono t1, s1, q1, fun c M2 q2 w H2 r2 s2 t2 => ?_, he.mono t1⟩
    cases d <;> cases c <;> try exact q2.elim
    cases r1; cases r2
    exact ⟨_, _, rfl, q2.1, hq _ _ _ q2.2 _ _ H2 dw_range trivial s2 (t1.trans t2)⟩
end

/-! ### for -/
section
variable {X : Cx} {W : WX} {pos : Pos} {tg iter : Expr} {body : List Stmt} {wi : TDI} {g : TDG} {tb : TDS}
/-- by an invariant over the turn -/
@[irreducible] def ForI (ds : List D) (Gd : Mem → Prop) (g : TDG) (tb : TDS) (D : DEnds) (ρ : DSt) (M : Mem) : Prop := ∃ I : Nat → DSt → Mem → Prop, I 0 ρ M ∧ (∀ i ρ M, i ≤ ds.length → I i ρ M → Gd M) ∧
  (∀ i d ρ M, ds[i]? = some d → I i ρ M → g d ρ M fun ρ' M' => tb { D with nx := I (i + 1), ct := I (i + 1), bk := D.nx } ρ' M') ∧ ∀ ρ M, I ds.length ρ M → D.nx ρ M
def tdFor (wi : TDI) (g : TDG) (tb : TDS) : TDS := fun D ρ M => wi ρ M (fun ds Gd M1 => ForI ds Gd g tb D ρ M1) (D.at ρ)
theorem s_for (hp : PassesOwn (model X.prog X.w) X.A X.env X.xe) (hc : X.calm = true) (hi : DI X W tg iter wi) (hg : DG X tg g) (hb : DSs X W body tb)
    (hs : ∀ x, foldedSetIterable iter X.env x = pure x := by intro _; rfl) : DS X W (.For tg iter body [] pos) (tdFor wi g tb) := PS.imp (ps_for hp hc hi hg hb hs) fun D σ H ⟨ρ, M, D0, dv, sm, q, eu⟩ => by
  refine ⟨ρ, M, _, _, dv, sm, q, fun ds Gd M1 q1 J S H1 dw st s1 t1 => ?_, eu.w dv⟩
  unfold ForI at q1
  obtain ⟨I, h0, hG, hs, hd⟩ := q1
  let P : Nat → St → Hp → Prop := fun i σ' H' => ∃ ρ' M', DvL X.K H' σ' ρ' ∧ Sim X.K H' M' ∧ Tr H M H' M' ∧ S H' M' ∧ I i ρ' M'
  have pf : ∀ {i : Nat} {H2 : Hp} {M2 : Mem}, Tr H M H2 M2 → S H2 M2 → fUp X.K H2 M2 (I i) (P i) := fun {i H2 M2} t2 st2 ρ' M' hi σ' H' dv' s' t' => ⟨ρ', M', dv', s', t2.trans t', dw.stay _ _ _ _ st2 t', hi⟩
  refine ⟨fun i m σ' H' => m = ds.length - i ∧ i ≤ ds.length ∧ P i σ' H', ⟨ds.length, by simp, Nat.zero_le _, ρ, M1, dv.mono t1, s1, t1, st, h0⟩, ?_⟩
  rintro i m σ2 H2 ⟨rfl, hi, ρ2, M2, dv2, s2, t2, st2, i2⟩
  have gd := hG i ρ2 M2 hi i2
  by_cases hlt : i < ds.length
  · refine .inr ⟨dw.goes i H2 M2 hlt st2 s2 gd, P (i + 1), fun σ' H' p' => ⟨ds.length - (i + 1), by omega, rfl, hlt, p'⟩, fun x H3 y => ?_⟩
    obtain ⟨d, ed, rd, s3, t3⟩ := dw.yields i H2 M2 x H3 hlt st2 s2 gd y
    have st3 := dw.stay _ _ _ _ st2 t3
    refine ⟨ρ2, M2, d, _, dv2.mono t3, s3, rd, hs i d ρ2 M2 ed i2, fun ρ4 M4 q4 σ4 H4 dv4 s4 t4 => ?_⟩
    have t24 := (t2.trans t3).trans t4
    have eu4 := eu.mono t24
    have st4 := dw.stay _ _ _ _ st3 t4
    exact ⟨ρ4, M4, _, dv4, s4, q4, ⟨pf t24 st4, eu4.rt, eu4.nx, pf t24 st4, eu4.ex⟩⟩
  · have e : i = ds.length := by omega
    subst e
    exact .inl ⟨dw.stops H2 M2 st2 s2 gd, eu.nx _ _ (hd ρ2 M2 i2) σ2 H2 dv2 s2 t2⟩
/-- a loop by an invariant -/
theorem for_by {ds : List D} {Gd : Mem → Prop} {D : DEnds} {ρ : DSt} {M : Mem} (I : Nat → DSt → Mem → Prop) (h0 : I 0 ρ M) (hG : ∀ i ρ M, i ≤ ds.length → I i ρ M → Gd M)
    (hs : ∀ i d ρ M, ds[i]? = some d → I i ρ M → g d ρ M fun ρ' M' => tb { D with nx := I (i + 1), ct := I (i + 1), bk := D.nx } ρ' M') (hd : ∀ ρ M, I ds.length ρ M → D.nx ρ M) : ForI ds Gd g tb D ρ M := by
  unfold ForI
  exact ⟨I, h0, hG, hs, hd⟩
/-! ### comprehensions -/
abbrev W0 : WX := fun _ _ _ _ => False
structure DPTs (X : Cx) (ifs : List Expr) (t : TDT) : Prop where
  p : PTs X ifs (upT X.K W0 t)
def tdYes : TDT := fun _ M Q _ => Q true M
theorem pt_nil {X : Cx} : DPTs X [] tdYes := ⟨⟨fun pins s σ H Q I h => pts_nil.run pins s σ H Q I (by
  obtain ⟨ρ, M, Q0, E0, dv, sm, q, hq, he⟩ := h
  exact hq _ _ q H sm (Tr.refl H M))⟩⟩
theorem pt_one {X : Cx} {c : Expr} {t : TDT} (h : DT X W0 c t) : DPTs X [c] t := ⟨pts_one h⟩
theorem PTs.imp {X : Cx} {e : List Expr} {t t' : TT} (h : PTs X e t) (k : ∀ σ H Q, t' σ H Q → t σ H Q) : PTs X e t' := ⟨fun pins s σ H Q I q => h.run pins s σ H Q I (k σ H Q q)⟩
/-- by an invariant over the turn and what is made so far -/
@[irreducible] def LcI (ds : List D) (Gd : Mem → Prop) (g : TDG) (tt : TDT) (te : TDE) (ρ : DSt) (M : Mem) (Q : List D → Mem → Prop) : Prop := ∃ I : Nat → List D → Mem → Prop, I 0 [] M ∧ (∀ i acc M, i ≤ ds.length → I i acc M → Gd M) ∧
  (∀ i d acc M, ds[i]? = some d → I i acc M → g d ρ M fun ρ2 M2 => tt ρ2 M2 (fun b M3 => cnd b (te ρ2 M3 (fun y M4 => acc.length < sizeLine ∧ I (i + 1) (acc ++ [y]) M4) (fun _ _ _ => False)) (I (i + 1) acc M3)) fun _ _ _ => False) ∧
  ∀ acc M, I ds.length acc M → Q acc M
theorem lc_by {ds : List D} {Gd : Mem → Prop} {g : TDG} {tt : TDT} {te : TDE} {ρ : DSt} {M : Mem} {Q : List D → Mem → Prop} (I : Nat → List D → Mem → Prop) (h0 : I 0 [] M) (hG : ∀ i acc M, i ≤ ds.length → I i acc M → Gd M)
    (hs : ∀ i d acc M, ds[i]? = some d → I i acc M → g d ρ M fun ρ2 M2 => tt ρ2 M2 (fun b M3 => cnd b (te ρ2 M3 (fun y M4 => acc.length < sizeLine ∧ I (i + 1) (acc ++ [y]) M4) (fun _ _ _ => False)) (I (i + 1) acc M3)) fun _ _ _ => False)
    (hd : ∀ acc M, I ds.length acc M → Q acc M) : LcI ds Gd g tt te ρ M Q := by
  unfold LcI
  exact ⟨I, h0, hG, hs, hd⟩
def tdLc (wi : TDI) (g : TDG) (tt : TDT) (te : TDE) (vs : List Nat) : TDL := fun ρ M Q E => wi ρ M (fun ds Gd M1 => LcI ds Gd g tt te (dwipe ρ vs) M1 Q) E
end
end TD

namespace TD
open PySem L2

/-! ### comprehension targets -/
theorem wipe_get (σ : St) (j : Nat) : ∀ vs : List Nat, (wipe σ vs)[j]? = if j ∈ vs then (σ[j]?).map (fun _ => none) else σ[j]?
  | [] => by simp [wipe]
  | v :: vs => by
    unfold wipe
    by_cases e : v = j
    · subst e
      rw [List.getElem?_set_self', wipe_get σ v vs]
      by_cases h : v ∈ vs
      · simp [h]; rfl
      · simp [h]; rfl
    · rw [List.getElem?_set_ne e, wipe_get σ j vs]
      have : j ≠ v := fun q => e q.symm
      by_cases h : j ∈ vs <;> simp [h, this]
theorem wipe_wipe (σ : St) (vs : List Nat) : wipe (wipe σ vs) vs = wipe σ vs := by
  apply List.ext_getElem?
  intro j
  rw [wipe_get, wipe_get]
  by_cases h : j ∈ vs
  · simp [h]; rfl
  · simp [h]
theorem wipe_set (σ : St) (vs : List Nat) (i : Nat) (x : Option V) (h : i ∈ vs) : wipe (σ.set i x) vs = wipe σ vs := by
  apply List.ext_getElem?
  intro j
  rw [wipe_get, wipe_get]
  by_cases e : i = j
  · subst e
    rw [if_pos h, if_pos h, List.getElem?_set_self']
    simp; rfl
  · rw [List.getElem?_set_ne e]
def upGw (K : PySem.W.Frag) (vs : List Nat) (td : TDG) : TG := fun v σ H Q => ∃ ρ M d Q0, DvL K H σ ρ ∧ Sim K H M ∧ Rep K H v d ∧ td d ρ M Q0 ∧
  ∀ ρ' M', Q0 ρ' M' → ∀ σ' H', wipe σ' vs = wipe σ vs → DvL K H' σ' ρ' → Sim K H' M' → Tr H M H' M' → Q σ' H'
def upGsw (K : PySem.W.Frag) (vs : List Nat) (td : TDGs) : TGs := fun v σ H Q => ∃ ρ M d Q0, DvL K H σ ρ ∧ Sim K H M ∧ Reps K H v d ∧ td d ρ M Q0 ∧
  ∀ ρ' M', Q0 ρ' M' → ∀ σ' H', wipe σ' vs = wipe σ vs → DvL K H' σ' ρ' → Sim K H' M' → Tr H M H' M' → Q σ' H'
def CG (X : Cx) (vs : List Nat) (e : Expr) (td : TDG) : Prop := PG X e (upGw X.K vs td)
def CGs (X : Cx) (vs : List Nat) (e : List Expr) (td : TDGs) : Prop := PGs X e (upGsw X.K vs td)
section
variable {X : Cx} {W : WX} {pos : Pos} {e : Expr} {es : List Expr} {vs : List Nat}
theorem cg_name (i : Nat) {x : Str} (hN : X.N.Nodup) (hv : i ∈ vs := by decide) (hi : X.N[i]? = some x := by rfl) (hx : Loc X.env.scope x := by first | exact .inl rfl | exact .inr rfl) (hf : X.fn x = true ∨ X.env.scope.names.lookup x = some .local := by first | exact .inl rfl | exact .inr rfl) : CG X vs (.Name x pos) (gdName i) :=
  PG.imp (pg_name hN hi hx hf) fun v σ H Q ⟨ρ, M, d, Q0, dv, sm, r, q, f⟩ => f _ _ q _ H (wipe_set σ vs i (some v) hv) (dv.set r i) sm (Tr.refl H M)
theorem cgs_nil : CGs X vs [] gdNil := PGs.imp pgs_nil fun w σ H Q ⟨ρ, M, ds, Q0, dv, sm, r, q, f⟩ => by
  cases ds with
  | nil => cases r; exact ⟨rfl, f _ _ q _ H rfl dv sm (Tr.refl H M)⟩
  | cons => exact q.elim
theorem cgs_cons {t : TDG} {u : TDGs} (h1 : CG X vs e t) (h2 : CGs X vs es u) (hs : (assignEach (e :: es) X.env).map (·.2) = assign e X.env :: (assignEach es X.env).map (·.2) := by rfl) : CGs X vs (e :: es) (gdCons t u) := PGs.imp (pgs_cons h1 h2 hs) fun w σ H Q ⟨ρ, M, ds, Q0, dv, sm, r, q, f⟩ => by
  cases ds with
  | nil => exact q.elim
  | cons d ds =>
    cases r with
    | cons r rs =>
      refine ⟨_, _, rfl, ρ, M, d, _, dv, sm, r, q, fun ρ1 M1 q1 σ1 H1 w1 dv1 s1 t1 => ?_⟩
      exact ⟨ρ1, M1, ds, Q0, dv1, s1, rs.mono t1, q1, fun ρ2 M2 q2 σ2 H2 w2 dv2 s2 t2 => f _ _ q2 _ H2 (w2.trans w1) dv2 s2 (t1.trans t2)⟩
theorem cg_tup {k : Nat} {t : TDGs} {n : Nat} (hc : X.calm = true) (h : CGs X vs es t) (hn : (assignEach es X.env).length = n := by rfl) (hst : (assignEach es X.env).findIdx? (·.1) = none := by rfl) : CG X vs (.Tuple es k pos) (gdTup n t) := PG.imp (pg_tup hc h hn hst) fun v σ H Q ⟨ρ, M, d, Q0, dv, sm, r, q, f⟩ => by
  cases d with
  | tup ds => cases r with | tup g rs => exact ⟨_, _, rfl, g, by rw [rs.length]; exact q.1, ρ, M, ds, Q0, dv, sm, rs, q.2, f⟩
  | _ => exact q.elim
theorem Tr.hidden {H H' : Hp} {M M' : Mem} {p : Addr} {vs ws : List V} (t : Tr H M H' M') (hp : H p = none) (hl : H' p = some (.lst vs)) : Tr H M (upd H' p (.lst ws)) M' :=
  ⟨fun a xs h => by rw [upd_ne (Hfree h hp)]; exact t.tup a xs h, fun a o u h => by rw [upd_ne (Hfree h hp)]; exact t.frz a o u h, t.fr, fun a o h n e => by rw [upd_ne (Hfree h hp)]; exact t.st a o h n e,
    fun a ps h => by rw [upd_ne (Hfree h hp)]; exact t.tb a ps h,
    fun a o h => by rw [upd_ne (Hfree h hp)]; exact t.dom a o h⟩
theorem Sim.hidden {K : PySem.W.Frag} {H : Hp} {M : Mem} {p : Addr} {vs ws : List V} (s : Sim K H M) (hl : H p = some (.lst vs)) (hm : M p = none) : Sim K (upd H p (.lst ws)) M := fun a o h => by
  refine (s a o h).mono (fun b u hb h1 _ _ => by rw [upd_ne (fun e => by subst e; rw [hl] at hb; cases hb; exact h1 _ rfl)]; exact hb) (fun b xs hb => ?_) (fun b ob u hb => ?_) fun u hb => ?_
  · rw [upd_ne (fun e => by subst e; rw [hl] at hb; cases hb)]; exact hb
  · rw [upd_ne (fun e => by subst e; rw [hl] at hb; cases hb)]; exact hb
  · rw [upd_ne (fun e => by subst e; rw [hm] at h; cases h)]; exact hb
theorem Reps.hidden {K : PySem.W.Frag} {H : Hp} {p : Addr} {vs ws us : List V} {ds : List D} (r : Reps K H us ds) (hl : H p = some (.lst vs)) : Reps K (upd H p (.lst ws)) us ds :=
  r.mono0 (fun b xs hb => by rw [upd_ne (fun e => by subst e; rw [hl] at hb; cases hb)]; exact hb) fun b ob u hb => by rw [upd_ne (fun e => by subst e; rw [hl] at hb; cases hb)]; exact hb
theorem Rep.hidden {K : PySem.W.Frag} {H : Hp} {p : Addr} {vs ws : List V} {u : V} {d : D} (r : Rep K H u d) (hl : H p = some (.lst vs)) : Rep K (upd H p (.lst ws)) u d :=
  r.mono0 (fun b xs hb => by rw [upd_ne (fun e => by subst e; rw [hl] at hb; cases hb)]; exact hb) fun b ob u hb => by rw [upd_ne (fun e => by subst e; rw [hl] at hb; cases hb)]; exact hb
variable {wi : TDI} {g : TDG} {tt : TDT} {te : TDE}
theorem up_lc {K : PySem.W.Frag} {σ : St} {H : Hp} {Q : VK} (h : upL K W (tdLc wi g tt te vs) σ H Q) : tLc (upI K W wi) (upGw K vs g) (upT K W0 tt) (upE K W0 te) vs σ H Q := by
  obtain ⟨ρ, M, Q0, E0, dv, sm, q, hq, he⟩ := h
  refine ⟨ρ, M, _, E0, dv, sm, q, fun ds Gd M1 q1 J S H1 dw st s1 t1 D hD => ?_, he⟩
  unfold LcI at q1
  obtain ⟨I, h0, hG, hs, hd⟩ := q1
  have hHD : H D = none := t1.fresh hD
  let P : Nat → Hp → Prop := fun i H' => ∃ M' acc xs, H' D = some (.lst xs) ∧ Reps K H' xs acc ∧ M' D = none ∧ Sim K H' M' ∧ Tr H1 M1 H' M' ∧ I i acc M'
  refine ⟨fun i m H' => m = ds.length - i ∧ i ≤ ds.length ∧ P i H', ⟨ds.length, by simp, Nat.zero_le _, M1, [], [], upd_same, .nil, s1.free hD, s1.new hD, Tr.new hD, h0⟩, ?_⟩
  rintro i m H2 ⟨rfl, hi, M2, acc, xs, hL, hR, hM, s2, t2, i2⟩
  have st2 := dw.stay _ _ _ _ st t2
  have gd := hG i acc M2 hi i2
  by_cases hlt : i < ds.length
  · refine .inr ⟨dw.goes i H2 M2 hlt st2 s2 gd, P (i + 1), fun H' p' => ⟨ds.length - (i + 1), by omega, rfl, hlt, p'⟩, fun x H3 y => ?_⟩
    obtain ⟨d, ed, rd, s3, t3⟩ := dw.yields i H2 M2 x H3 hlt st2 s2 gd y
    have t13 := t2.trans t3
    have hL3 := t3.st _ _ hL hM rfl
    refine ⟨dwipe ρ vs, M2, d, _, ((dv.mono t1).mono t13).wipe vs, s3, rd, hs i d acc M2 ed i2, fun ρ4 M4 q4 σ4 H4 w4 dv4 s4 t4 => ⟨w4.trans (wipe_wipe σ vs), ?_⟩⟩
    have t14 := t13.trans t4
    have hL4 := t4.st _ _ hL3 hM rfl
    have hM4 := t4.fr _ _ hL3 hM
    refine ⟨ρ4, M4, _, _, dv4, s4, q4, fun b M5 q5 H5 s5 t5 => ?_, w0_up⟩
    have t15 := t14.trans t5
    have hL5 := t5.st _ _ hL4 hM4 rfl
    have hM5 := t5.fr _ _ hL4 hM4
    have hR5 := hR.mono (t3.trans (t4.trans t5))
    cases b with
    | true =>
      dsimp only at q5 ⊢
      rw [cnd_true] at q5; rw [if_pos rfl]
      refine ⟨ρ4, M5, _, _, dv4.mono t5, s5, q5, fun dy M6 q6 vy H6 r6 s6 t6 => ?_, w0_up⟩
      have hL6 := t6.st _ _ hL5 hM5 rfl
      have hM6 := t6.fr _ _ hL5 hM5
      have hR6 := hR5.mono t6
      refine ⟨xs, hL6, by rw [hR6.length]; exact q6.1, M6, acc ++ [dy], xs ++ [vy], upd_same, ?_, hM6, s6.hidden hL6 hM6, (t15.trans t6).hidden hD hL6, q6.2⟩
      exact (hR6.hidden hL6).append (.cons (r6.hidden hL6) .nil)
    | false =>
      dsimp only at q5 ⊢
      rw [cnd_false] at q5; rw [if_neg Bool.false_ne_true]
      exact ⟨M5, acc, xs, hL5, hR5, hM5, s5, t15, q5⟩
  · have e : i = ds.length := by omega
    subst e
    exact .inl ⟨dw.stops H2 M2 st2 s2 gd, hq acc M2 (hd acc M2 i2) D xs H2 hHD hL hM hR s2 (t1.trans t2)⟩
theorem l_lc {elt tg iter : Expr} {ifs : List Expr} {scope : Scope} {own : List (Str × Nat)} (hc : X.calm = true) (hN : X.N.Nodup) (hi : DI X W tg iter wi) (ok : BlkOk X.N X.env.scope scope own)
    (hg : ∀ (s : Shared) (H : Hp) (C : Addr) (cl : List (Str × Addr)) (fp : List Addr), CG (X.blk s H scope (compEnvC scope cl C X.env) fp) (own.map (·.2)) tg g) (ht : ∀ (s : Shared) (H : Hp) (C : Addr) (cl : List (Str × Addr)) (fp : List Addr), DPTs (X.blk s H scope (compEnvC scope cl C X.env) fp) ifs tt)
    (he : ∀ (s : Shared) (H : Hp) (C : Addr) (cl : List (Str × Addr)) (fp : List Addr), DE (X.blk s H scope (compEnvC scope cl C X.env) fp) W0 elt te) (hs : ∀ x, foldedSetIterable iter X.env x = pure x := by intro _; rfl) :
    DL X W (.ListComp elt [⟨tg, iter, ifs, 0⟩] scope pos) (tdLc wi g tt te (own.map (·.2))) :=
  PE.imp (pe_lc (wi := upI X.K W wi) (g := upGw X.K (List.map (fun p : Str × Nat => p.2) own) g) (tt := upT X.K W0 tt) (te := upE X.K W0 te) hc hN hi ok hg (fun s H C cl fp => (ht s H C cl fp).p) he hs) fun _ _ _ h => up_lc h
theorem up_le {K : PySem.W.Frag} {t : TDL} {σ : St} {H : Hp} {Q : VK} (h : upE K W (tdLE t) σ H Q) : upL K W t σ H Q := by
  obtain ⟨ρ, M, Q0, E0, dv, sm, q, hq, he⟩ := h
  refine ⟨ρ, M, _, E0, dv, sm, q, fun ds M1 q1 a vs H1 gf g gm r1 s1 t1 => ?_, he⟩
  refine hq _ _ (q1 a gm) _ H1 (.ref a) (fun b o hb => ?_) ⟨t1.tup, t1.frz, fun b o hb n => ?_, t1.st, t1.tb, t1.dom⟩
  · by_cases e : b = a
    · subst e; rw [mupd_same] at hb; cases hb; exact ⟨vs, g, r1⟩
    · rw [mupd_ne e] at hb; exact s1 b o hb
  · rw [mupd_ne (Hfree hb gf)]; exact t1.fr b o hb n
/-- y = [..] -/
theorem s_setLc (i : Nat) {y : Str} {py : Pos} {elt tg iter : Expr} {ifs : List Expr} {scope : Scope} {own : List (Str × Nat)} {spos : Pos} (hc : X.calm = true) (hN : X.N.Nodup) (hi : DI X W tg iter wi) (ok : BlkOk X.N X.env.scope scope own)
    (hg : ∀ (s : Shared) (H : Hp) (C : Addr) (cl : List (Str × Addr)) (fp : List Addr), CG (X.blk s H scope (compEnvC scope cl C X.env) fp) (own.map (·.2)) tg g) (ht : ∀ (s : Shared) (H : Hp) (C : Addr) (cl : List (Str × Addr)) (fp : List Addr), DPTs (X.blk s H scope (compEnvC scope cl C X.env) fp) ifs tt)
    (he : ∀ (s : Shared) (H : Hp) (C : Addr) (cl : List (Str × Addr)) (fp : List Addr), DE (X.blk s H scope (compEnvC scope cl C X.env) fp) W0 elt te) (hsw : swapsWith (.ListComp elt [⟨tg, iter, ifs, 0⟩] scope pos) (some (.Name y py)) spos.line X.env = pure true) (hy : X.N[i]? = some y := by rfl) (hyl : X.env.scope.names.lookup y = some .local := by rfl) (hs : ∀ x, foldedSetIterable iter X.env x = pure x := by intro _; rfl) :
    DS X W (.Assign [.Name y py] (.ListComp elt [⟨tg, iter, ifs, 0⟩] scope pos) spos) (tdAsg (tdLE (tdLc wi g tt te (own.map (·.2)))) (gdName i)) :=
  PS.imp (ps_setLc (wi := upI X.K W wi) (g := upGw X.K (List.map (fun p : Str × Nat => p.2) own) g) (tt := upT X.K W0 tt) (te := upE X.K W0 te) hc hN hy hyl hsw hi ok hg (fun s H C cl fp => (ht s H C cl fp).p) he hs) fun D σ H h => by
    have h2 := up_asg (gg := gName i) (fun v σ H Q ⟨ρ, M, d, Q0, dv, sm, r, q, f⟩ => f _ _ q _ H (dv.set r i) sm (Tr.refl H M)) h
    exact up_lc (up_le h2)
end

/-! ### defs -/
abbrev SpD := List D → Mem → (D → Mem → Prop) → XD → Prop
def upF (K : PySem.W.Frag) (spd : SpD) : Sp := fun vs H Q E => ∃ ds M Q0 E0, Reps K H vs ds ∧ Sim K H M ∧ spd ds M Q0 E0 ∧ qUp K H M Q0 Q ∧ ∀ c f M', E0 c f M' → ∀ od H', XRep K H' od f → Sim K H' M' → Tr H M H' M' → E c od H'
/-- a def of the text keeps a promise by data -/
structure Ok (P : Program) (w : World) (K : PySem.W.Frag) (mg : Str → Option Value) (base : Heap) (x : Str) (st : Stmt) (k : Nat) (ps : List Str) (spd : SpD) : Prop where
  ex : ∃ f fd, L2.Fun K x x st f fd ∧ mg x = some (.ref f) ∧ FnOk P w K mg base (L2.CX P w) k f fd ps (upF K spd)
/-- the def stands there -/
structure At (K : PySem.W.Frag) (mg : Str → Option Value) (x : Str) (st : Stmt) : Prop where
  ex : ∃ f fd, L2.Fun K x x st f fd ∧ mg x = some (.ref f)
section
variable {P : Program} {w : World} {K : PySem.W.Frag} {mg : Str → Option Value} {base : Heap} {x : Str} {st : Stmt} {k j : Nat} {ps : List Str} {spd spd' : SpD}
theorem Ok.mono (o : Ok P w K mg base x st j ps spd) (h : j ≤ k) : Ok P w K mg base x st k ps spd := let ⟨f, fd, a, b, c⟩ := o.ex; ⟨f, fd, a, b, c.mono h⟩
theorem Ok.imp (o : Ok P w K mg base x st k ps spd) (h : ∀ ds M Q E, spd' ds M Q E → spd ds M Q E) : Ok P w K mg base x st k ps spd' :=
  let ⟨f, fd, a, b, c⟩ := o.ex
  ⟨f, fd, a, b, c.imp fun vs H Q E ⟨ds, M, Q0, E0, r, s, q, hq, he⟩ => ⟨ds, M, Q0, E0, r, s, h _ _ _ _ q, hq, he⟩⟩
/-- what a def's body is to reach -/
def dEnds (Q : D → Mem → Prop) (E : XD) : DEnds :=
  { nx := fun _ M => ∃ M0, MLe M0 M ∧ Q .non M0, rt := fun d M => ∃ M0, MLe M0 M ∧ Q d M0, ex := fun c f _ M => ∃ M0, MLe M0 M ∧ E c f M0 }
abbrev Xd (P : Program) (w : World) (K : PySem.W.Frag) (mg : Str → Option Value) (base : Heap) (N : List Str) (qual : Str) (scope : Scope) (f : Addr) (cd : Value) (A : Around) (outer : List Env) (s : Shared) (H : Hp) (E : XK) : Cx := cxOf (L2.CX P w) P w K mg base N qual scope f cd A outer s H E
abbrev Wd (E : XK) : WX := fun c d _ H => E c d H
theorem xd_takes {N : List Str} {qual : Str} {scope : Scope} {f : Addr} {cd : Value} {A : Around} {outer : List Env} {s : Shared} {H : Hp} {E : XK} : Takes (Xd P w K mg base N qual scope f cd A outer s H E) (Wd E) := takes_of rfl rfl rfl rfl
theorem xd_owns {N : List Str} {qual : Str} {scope : Scope} {f : Addr} {cd : Value} {A : Around} {outer : List Env} {s : Shared} {H : Hp} {E : XK} : PassesOwn (model (Xd P w K mg base N qual scope f cd A outer s H E).prog (Xd P w K mg base N qual scope f cd A outer s H E).w) (Xd P w K mg base N qual scope f cd A outer s H E).A (Xd P w K mg base N qual scope f cd A outer s H E).env (Xd P w K mg base N qual scope f cd A outer s H E).xe := passes_of rfl
/-- THE RULE: a def by its body -/
theorem ok_of (a : At K mg x st) {N : List Str} (S : FnScope N ps (defScope st)) (m : Nat) (hm' : N.length - ps.length = m) (len : ∀ ds M Q E, spd ds M Q E → ds.length = ps.length)
    (body : ∀ (f : Addr) (cd : Value) (A : Around) (outer : List Env) (s : Shared) (H : Hp) (E : XK), Room k (Xd P w K mg base N x (defScope st) f cd A outer s H E).A →
      ∃ td, DSs (Xd P w K mg base N x (defScope st) f cd A outer s H E) (Wd E) (defBody st) td ∧ ∀ ds M Q E, spd ds M Q E → td (dEnds Q E) (ds.map some ++ List.replicate m none) M) : Ok P w K mg base x st (k + 1) ps spd := by
  subst hm'
  obtain ⟨f, fd, F, hm⟩ := a.ex
  refine ⟨f, fd, F, hm, F.okX S (fun vs H Q E ⟨ds, M, Q0, E0, r, s, q, _⟩ => r.length.trans (len _ _ _ _ q)) fun cdv A outer s H vs Q E hr ⟨ds, M, Q0, E0, r, sm, q, hq, he⟩ => ?_⟩
  obtain ⟨td, h1, h2⟩ := body f cdv A outer s H E hr
  refine ⟨_, h1, ds.map some ++ List.replicate (N.length - ps.length) none, M, dEnds Q0 E0, ?_, sm, h2 ds M Q0 E0 q, ⟨?_, ?_, ?_, ?_, ?_⟩⟩
  · have e : (L2.start N vs) = vs.map some ++ List.replicate (N.length - ps.length) none := by unfold L2.start; rw [r.length, len _ _ _ _ q]
    rw [e]
    exact DvL.start r _
  · rintro ρ' M' ⟨M0, le, h⟩ σ' H' dv' s' t'
    exact hq _ _ h _ H' .non (s'.le le) (t'.le le)
  · rintro d M' ⟨M0, le, h⟩ v H' r' s' t'
    exact hq _ _ h _ H' r' (s'.le le) (t'.le le)
  · rintro ρ' M' h; exact h.elim
  · rintro ρ' M' h; exact h.elim
  · rintro c g ρ' M' ⟨M0, le, h⟩ od σ' H' x dv' s' t'
    exact he _ _ _ h od H' x (s'.le le) (t'.le le)
end
/-! ### calls -/
/-- a call's promise, closed -/
@[irreducible] def onSp (spd : SpD) (ds : List D) (M : Mem) (Q : D → Mem → Prop) (E : XD) : Prop := spd ds M Q E
theorem onSp_iff {spd : SpD} {ds : List D} {M : Mem} {Q : D → Mem → Prop} {E : XD} : onSp spd ds M Q E ↔ spd ds M Q E := by unfold onSp; exact Iff.rfl
theorem call_i {spd : SpD} {ds : List D} {M : Mem} {Q : D → Mem → Prop} {E : XD} (h : spd ds M Q E) : onSp spd ds M Q E := onSp_iff.mpr h
/-- how positional arguments us and keywords ks = ws bind -/
structure Bd (x : Str) (st : Stmt) (ps : List Str) (n : Nat) (ks : List Str) (gv : List Value → List Value → List Value) (gd : List D → List D → List D) : Prop where
  to : ∀ (kV doc pm : Value) (an : Option Addr) (cdv ct : Value) (us ws : List Value), us.length = n → ws.length = ks.length → bindArgs (PySem.W.fnOf x x (defArgs st) (defBody st) (defScope st) .none kV doc pm an cdv ct) ⟨us, ks.zip ws⟩ = pure (ps.zip (gv us ws))
  rel : ∀ {K : PySem.W.Frag} {H : Hp} {us ws : List Value} {vs zs : List V} {ds es : List D}, us.length = n → ws.length = ks.length → Vals vs us → Vals zs ws → Reps K H vs ds → Reps K H zs es → ∃ xs, Vals xs (gv us ws) ∧ Reps K H xs (gd ds es)
theorem bd_pos {x : Str} {st : Stmt} {ps : List Str} (h : ∀ (kV doc pm : Value) (an : Option Addr) (cdv ct : Value) (us : List Value), us.length = ps.length → bindArgs (PySem.W.fnOf x x (defArgs st) (defBody st) (defScope st) .none kV doc pm an cdv ct) ⟨us, []⟩ = pure (ps.zip us)) : Bd x st ps ps.length [] (fun us _ => us) (fun ds _ => ds) where
  to := fun kV doc pm an cdv ct us ws h1 h2 => h kV doc pm an cdv ct us h1
  rel := fun _ _ rv _ rd _ => ⟨_, rv, rd⟩
section
variable {X : Cx} {W : WX} {x : Str} {st : Stmt} {k : Nat} {ps ks : List Str} {spd : SpD} {n : Nat} {gv : List Value → List Value → List Value} {gd : List D → List D → List D} {p pos : Pos} {e : Expr} {es : List Expr} {kws : List Keyword} {ta tk : TDA}
theorem run_ok {pins : List (Addr × Obj)} {σ : St} {H : Hp} {s : Shared} {Q : VK} {f : Addr} {fd : FuncData} {us ws : List Value} {vs zs : List V} {ds es : List D} {M : Mem} {Q0 : D → Mem → Prop} {E0 : XD} (F : L2.Fun X.K x x st f fd) (G : FnOk X.prog X.w X.K X.mg X.base (L2.CX X.prog X.w) k f fd ps (upF X.K spd)) (B : Bd x st ps n ks gv gd) (hr : Room k X.A) (tk : Takes X W)
    (I : Inv X pins σ H s) (l1 : us.length = n) (l2 : ws.length = ks.length) (r1 : Vals vs us) (r2 : Vals zs ws) (d1 : Reps X.K H vs ds) (d2 : Reps X.K H zs es) (sm : Sim X.K H M) (h : onSp spd (gd ds es) M Q0 E0) (hq : qUp X.K H M Q0 Q) (he : wUp X.K W σ H M E0) :
    wpAny (model X.prog X.w) X.A (call (.ref f) us (ks.zip ws)) (EP X pins σ Q) X.xe s := by
  obtain ⟨xs, rx, dx⟩ := B.rel l1 l2 r1 r2 d1 d2
  have hsp : upF X.K spd xs H Q (fun c d H' => W c d σ H') := ⟨_, M, Q0, E0, dx, sm, onSp_iff.mp h, hq, he⟩
  obtain ⟨oc, od, kV, doc, pm, an, cdv, ct, osl, rfl, lk, hcd⟩ := F.ex
  refine wpAny_call (codeAny_mono (G.run X.A X.stack s H ⟨us, ks.zip ws⟩ (gv us ws) xs Q _ hr I.env0 (.of_eq (B.to kV doc pm an cdv ct us ws l1 l2)) rx hsp) fun r s' hq => ?_)
  cases r with
  | error e => exact tk e s' (XE.of_call I (fun _ _ _ h => h) hq)
  | ok fl =>
    cases fl with
    | ret u => exact I.after hq
    | next => exact False.elim hq
    | brk => exact False.elim hq
    | cont => exact False.elim hq
/-- f(e, ..) -/
def tdCall (spd : SpD) (n : Nat) (ta : TDA) : TDE := fun ρ M Q E => ta ρ M (fun ds M1 => ds.length = n ∧ onSp spd ds M1 Q E) E
theorem vals_len {K : PySem.W.Frag} {H : Hp} {vs : List V} {us : List Value} {ds : List D} {n : Nat} (r : Vals vs us) (d : Reps K H vs ds) (h : ds.length = n) : us.length = n := by rw [← r.length, d.length, h]
theorem d_call (o : Ok X.prog X.w X.K X.mg X.base x st k ps spd) (B : Bd x st ps ps.length [] (fun us _ => us) (fun ds _ => ds)) (hr : Room k X.A) (tk : Takes X W) (ha : DA X W (e :: es) ta) (hg : Gl X x := by rfl) (hdb : (x == ("__debug__" : Str)) = false := by decide)
    (he : starEach (e :: es) X.env = (false, eval e X.env) :: starEach es X.env := by rfl) (hpl : (backTo pos (starEach es X.env)).any (·.1) = false := by rfl) : DE X W (.Call (.Name x p) (e :: es) [] pos) (tdCall spd ps.length ta) := by
  obtain ⟨f, fd, F, hm, G⟩ := o.ex
  refine ⟨fun pins s σ H Q I ⟨ρ, M, Q0, E0, dv, sm, q, hq, hw⟩ => ?_⟩
  refine wpAny_Call_Name_kw (ld_glob I hg hm ?_ hdb)
  refine PySem.W.callWith_K (h₀ := X.base) I.ok.mod.kin F.kp (thn (ha.run pos pins s σ H (fun vs H1 => ∃ ds M1, Reps X.K H1 vs ds ∧ Sim X.K H1 M1 ∧ Tr H M H1 M1 ∧ ds.length = ps.length ∧ onSp spd ds M1 Q0 E0) I ⟨ρ, M, _, E0, dv, sm, q, fun ds M1 q1 vs H1 r1 s1 t1 => ⟨ds, M1, r1, s1, t1, q1⟩, ?_⟩) fun us s1 ⟨vs, H1, I1, r, ds, M1, d1, s1', t1, hl, q1⟩ => ⟨I1.kIn, ?_⟩) he hpl
  · exact hw
  · exact run_ok F G B hr tk I1 (vals_len r d1 hl) rfl r .nil d1 .nil s1' q1 (hq.mono t1) (hw.mono t1)
theorem d_call0 (o : Ok X.prog X.w X.K X.mg X.base x st k ps spd) (B : Bd x st ps 0 [] (fun us _ => us) (fun ds _ => ds)) (hr : Room k X.A) (tk : Takes X W) (hg : Gl X x := by rfl) (hdb : (x == ("__debug__" : Str)) = false := by decide) : DE X W (.Call (.Name x p) [] [] pos) (tdCall spd 0 tdNil) := by
  obtain ⟨f, fd, F, hm, G⟩ := o.ex
  refine ⟨fun pins s σ H Q I ⟨ρ, M, Q0, E0, dv, sm, q, hq, hw⟩ => ?_⟩
  refine wpAny_Call_Name_kw (ld_glob I hg hm ?_ hdb)
  exact PySem.W.callWith_K0 I.kIn F.kp (run_ok (us := []) (ws := []) F G B hr tk I rfl rfl .nil .nil .nil .nil sm q.2 hq hw)
/-! ### keywords -/
structure DK (X : Cx) (W : WX) (kws : List Keyword) (t : TDA) : Prop where
  p : PK X kws (upA X.K W t)
theorem PK.imp {X : Cx} {e : List Keyword} {t t' : TA} (h : PK X e t) (k : ∀ σ H Q, t' σ H Q → t σ H Q) : PK X e t' := ⟨fun pos pins s σ H Q I q => h.run pos pins s σ H Q I (k σ H Q q)⟩
theorem k_nil : DK X W [] tdNil := ⟨PK.imp pk_nil fun σ H Q ⟨ρ, M, Q0, E0, dv, sm, q, hq, he⟩ => hq _ _ q _ H .nil sm (Tr.refl H M)⟩
theorem k_cons {te : TDE} {t : TDA} {nm : Option Str} {kpos : Pos} (ha : DE X W e te) (hr : DK X W kws t) : DK X W (⟨nm, e, kpos⟩ :: kws) (tdCons te t) := ⟨PK.imp (pk_cons ha hr.p) fun σ H Q ⟨ρ, M, Q0, E0, dv, sm, q, hq, he⟩ => by
  refine ⟨ρ, M, _, E0, dv, sm, q, fun d M1 q1 v H1 r1 s1 t1 => ?_, he⟩
  refine ⟨ρ, M1, _, E0, dv.mono t1, s1, q1, fun ds M2 q2 vs H2 r2 s2 t2 => ?_, he.mono t1⟩
  exact hq _ _ q2 _ H2 (.cons (r1.mono t2) r2) s2 (t1.trans t2)⟩
def tdCallK (spd : SpD) (n m : Nat) (gd : List D → List D → List D) (ta tk : TDA) : TDE := fun ρ M Q E => ta ρ M (fun ds M1 => tk ρ M1 (fun es M2 => ds.length = n ∧ es.length = m ∧ onSp spd (gd ds es) M2 Q E) E) E
theorem d_callK0 (o : Ok X.prog X.w X.K X.mg X.base x st k ps spd) (B : Bd x st ps 0 ks gv gd) (hr : Room k X.A) (tk' : Takes X W) (hkw : DK X W kws tk) (hall : (backToKw pos (keywordEach kws X.env)).all (·.1.isSome) = true := by rfl) (hks : (backToKw pos (keywordEach kws X.env)).filterMap (·.1) = ks := by rfl)
    (hg : Gl X x := by rfl) (hdb : (x == ("__debug__" : Str)) = false := by decide) (hpl : ((backTo pos (starEach [] X.env)).any (·.1) || (backToKw pos (keywordEach kws X.env)).any (·.1.isNone)) = false := by rfl) :
    DE X W (.Call (.Name x p) [] kws pos) (tdCallK spd 0 ks.length gd tdNil tk) := by
  obtain ⟨f, fd, F, hm, G⟩ := o.ex
  refine ⟨fun pins s σ H Q I ⟨ρ, M, Q0, E0, dv, sm, q, hq, hw⟩ => ?_⟩
  refine wpAny_Call_Name_kw (ld_glob I hg hm ?_ hdb)
  refine PySem.W.callWith_KW0 (h₀ := X.base) I.ok.mod.kin F.kp hall ?_ hpl
  refine thn (hkw.p.run pos pins s σ H (fun vs H1 => ∃ ds M1, Reps X.K H1 vs ds ∧ Sim X.K H1 M1 ∧ Tr H M H1 M1 ∧ ([] : List D).length = 0 ∧ ds.length = ks.length ∧ onSp spd (gd [] ds) M1 Q0 E0) I ⟨ρ, M, _, E0, dv, sm, q, fun ds M1 q1 vs H1 r1 s1 t1 => ⟨ds, M1, r1, s1, t1, q1⟩, hw⟩) fun ws s2 ⟨zs, H2, I2, rz, ds, M1, d1, s1', t1, _, hl, q2⟩ => ⟨I2.kIn, ?_⟩
  rw [hks]
  exact run_ok (us := []) F G B hr tk' I2 rfl (vals_len rz d1 hl) .nil rz .nil d1 s1' q2 (hq.mono t1) (hw.mono t1)
theorem d_callK (o : Ok X.prog X.w X.K X.mg X.base x st k ps spd) (B : Bd x st ps n ks gv gd) (hr : Room k X.A) (tk' : Takes X W) (ha : DA X W (e :: es) ta) (hkw : DK X W kws tk) (hall : (backToKw pos (keywordEach kws X.env)).all (·.1.isSome) = true := by rfl) (hks : (backToKw pos (keywordEach kws X.env)).filterMap (·.1) = ks := by rfl)
    (hg : Gl X x := by rfl) (hdb : (x == ("__debug__" : Str)) = false := by decide) (he : starEach (e :: es) X.env = (false, eval e X.env) :: starEach es X.env := by rfl)
    (hpl : ((backTo pos (starEach (e :: es) X.env)).any (·.1) || (backToKw pos (keywordEach kws X.env)).any (·.1.isNone)) = false := by rfl) :
    DE X W (.Call (.Name x p) (e :: es) kws pos) (tdCallK spd n ks.length gd ta tk) := by
  obtain ⟨f, fd, F, hm, G⟩ := o.ex
  refine ⟨fun pins s σ H Q I ⟨ρ, M, Q0, E0, dv, sm, q, hq, hw⟩ => ?_⟩
  refine wpAny_Call_Name_kw (ld_glob I hg hm ?_ hdb)
  refine PySem.W.callWith_KW (h₀ := X.base) I.ok.mod.kin F.kp hall (thn (ha.run pos pins s σ H (fun vs H1 => ∃ ds M1, DvL X.K H1 σ ρ ∧ Reps X.K H1 vs ds ∧ Sim X.K H1 M1 ∧ Tr H M H1 M1 ∧ tk ρ M1 (fun es M2 => ds.length = n ∧ es.length = ks.length ∧ onSp spd (gd ds es) M2 Q0 E0) E0) I ⟨ρ, M, _, E0, dv, sm, q, fun ds M1 q1 vs H1 r1 s1 t1 => ⟨ds, M1, dv.mono t1, r1, s1, t1, q1⟩, hw⟩) fun us s1 ⟨vs, H1, I1, r, ds, M1, dv1, d1, s1', t1, q1⟩ => ?_) hpl he
  refine thn (hkw.p.run pos pins s1 σ H1 (fun zs H2 => ∃ es M2, Reps X.K H2 vs ds ∧ Reps X.K H2 zs es ∧ Sim X.K H2 M2 ∧ Tr H M H2 M2 ∧ ds.length = n ∧ es.length = ks.length ∧ onSp spd (gd ds es) M2 Q0 E0) I1 ⟨ρ, M1, _, E0, dv1, s1', q1, fun es M2 q2 vs H2 r2 s2 t2 => ⟨es, M2, d1.mono t2, r2, s2, t1.trans t2, q2⟩, hw.mono t1⟩) fun ws s2 ⟨zs, H2, I2, rz, es', M2, d1', d2, s2', t2, hl, hl2, q2⟩ => ⟨I2.kIn, ?_⟩
  rw [hks]
  exact run_ok F G B hr tk' I2 (vals_len r d1' hl) (vals_len rz d2 hl2) r rz d1' d2 s2' q2 (hq.mono t2) (hw.mono t2)
end
end TD

namespace TD
open PySem L2
/-! ### list methods -/
section
variable {X : Cx} {W : WX} {pos apos : Pos} {o e : Expr} {to te : TDE}
theorem lstWr {K : PySem.W.Frag} {H : Hp} {M : Mem} {Q0 : D → Mem → Prop} {Q : VK} {a : Addr} {vs ws : List V} {ds es : List D} {d : D} {v : V} (s : Sim K H M) (e : M a = some (.lst ds)) (g : H a = some (.lst vs)) (r : Reps K H ws es) (rv : Rep K H v d) (h : Q0 d (mupd M a (.lst es))) (hq : qUp K H M Q0 Q) : Q v (upd H a (.lst ws)) := by
  have t : Tr H M (upd H a (.lst ws)) (mupd M a (.lst es)) := Tr.wr e g rfl
  exact hq _ _ h _ _ (rv.mono t) (Sim.wr e g rfl s ⟨_, upd_same, r.mono t⟩) t
@[irreducible] def onLst (M : Mem) (d : D) (k : Addr → List D → Prop) : Prop := match d with
  | .ref a => match M a with
    | some (.lst ds) => k a ds
    | _ => False
  | _ => False
theorem onLst_ok {M : Mem} {d : D} {k : Addr → List D → Prop} (h : onLst M d k) : ∃ a ds, d = .ref a ∧ M a = some (.lst ds) ∧ k a ds := by
  unfold onLst at h
  split at h
  · split at h
    · rename_i a _ ds e; exact ⟨a, ds, rfl, e, h⟩
    · exact h.elim
  · exact h.elim
theorem onL {M : Mem} {a : Addr} {ds : List D} {k : Addr → List D → Prop} (h1 : M a = some (.lst ds)) (h : k a ds) : onLst M (.ref a) k := by
  unfold onLst
  dsimp only
  rw [h1]
  exact h
theorem tyV_lst {K : PySem.W.Frag} {H : Hp} {a : Addr} {vs : List V} (h : H a = some (.lst vs)) : tyV K "list" (.ref a) H := .inl ⟨rfl, _, SqL.of h⟩
/-- xs.append(e) -/
def tdApp (to te : TDE) : TDE := fun ρ M Q E => to ρ M (fun d M1 => onLst M1 d fun _ _ => te ρ M1 (fun c M2 => onLst M2 d fun a ds => ds.length < sizeLine ∧ Q .non (mupd M2 a (.lst (ds ++ [c])))) E) E
theorem d_app (ho : DE X W o to) (he : DE X W e te) (hs : starEach [e] X.env = (false, eval e X.env) :: starEach [] X.env := by rfl) (hbase : attributeBase o "append" X.env (eval o X.env) = eval o X.env := by rfl)
    (hfew : ((backTo pos (starEach [e] X.env)).all (fun x => !x.1) && (backToKw pos (keywordEach [] X.env)).all (fun x => x.1.isSome) && decide ([e].length + ([] : List Keyword).length + (if ([] : List Keyword).isEmpty then 0 else 1) < 30)) = true := by rfl)
    (hline : (apos.endLine == pos.line) = true := by rfl) : DE X W (.Call (.Attribute o "append" apos) [e] [] pos) (tdApp to te) :=
  PE.imp (pe_bm PySem.F.plainAttrs_list PySem.F.slot_list_append PySem.F.type_list_append mt_append ho (pa_cons he pa_nil hs) hbase hfew hline hs rfl) fun σ H Q ⟨ρ, M, Q0, E0, dv, sm, q, hq, he⟩ => by
    refine ⟨ρ, M, _, E0, dv, sm, q, fun d M1 q1 v H1 r1 s1 t1 => ?_, he⟩
    obtain ⟨a, ds, rfl, e1, q1⟩ := onLst_ok q1
    obtain ⟨vs, g, rs⟩ := s1.lst e1
    cases r1
    refine ⟨tyV_lst g, ρ, M1, _, E0, dv.mono t1, s1, q1, fun c M2 q2 w H2 r2 s2 t2 => ?_, he.mono t1⟩
    obtain ⟨b, es, eb, e2, hz, q2⟩ := onLst_ok q2
    cases eb
    obtain ⟨us, g2, rs2⟩ := s2.lst e2
    exact ⟨a, us, w, rfl, rfl, g2, by rw [rs2.length]; exact hz, lstWr s2 e2 g2 (rs2.append (.cons r2 .nil)) .non q2 (hq.mono (t1.trans t2))⟩
def tdLm0 (f : List D → List D) (to : TDE) : TDE := fun ρ M Q E => to ρ M (fun d M1 => onLst M1 d fun a ds => Q .non (mupd M1 a (.lst (f ds)))) E
theorem d_lclear (ho : DE X W o to) (hbase : attributeBase o "clear" X.env (eval o X.env) = eval o X.env := by rfl) (hline : (apos.endLine == pos.line) = true := by rfl) : DE X W (.Call (.Attribute o "clear" apos) [] [] pos) (tdLm0 (fun _ => []) to) :=
  PE.imp (pe_bm0 PySem.F.plainAttrs_list PySem.F.slot_list_clear PySem.F.type_list_clear mt_clear ho hbase hline) fun σ H Q ⟨ρ, M, Q0, E0, dv, sm, q, hq, he⟩ => by
    refine ⟨ρ, M, _, E0, dv, sm, q, fun d M1 q1 v H1 r1 s1 t1 => ?_, he⟩
    obtain ⟨a, ds, rfl, e1, q1⟩ := onLst_ok q1
    obtain ⟨vs, g, rs⟩ := s1.lst e1
    cases r1
    exact ⟨tyV_lst g, a, vs, rfl, rfl, g, lstWr s1 e1 g .nil .non q1 (hq.mono t1)⟩
theorem d_lreverse (ho : DE X W o to) (hbase : attributeBase o "reverse" X.env (eval o X.env) = eval o X.env := by rfl) (hline : (apos.endLine == pos.line) = true := by rfl) : DE X W (.Call (.Attribute o "reverse" apos) [] [] pos) (tdLm0 List.reverse to) :=
  PE.imp (pe_bm0 PySem.F.plainAttrs_list PySem.F.slot_list_reverse PySem.F.type_list_reverse mt_reverse ho hbase hline) fun σ H Q ⟨ρ, M, Q0, E0, dv, sm, q, hq, he⟩ => by
    refine ⟨ρ, M, _, E0, dv, sm, q, fun d M1 q1 v H1 r1 s1 t1 => ?_, he⟩
    obtain ⟨a, ds, rfl, e1, q1⟩ := onLst_ok q1
    obtain ⟨vs, g, rs⟩ := s1.lst e1
    cases r1
    exact ⟨tyV_lst g, a, vs, rfl, rfl, g, lstWr s1 e1 g rs.reverse .non q1 (hq.mono t1)⟩
/-! ### a slice of a list, seen by nobody else -/
def tdQsl (te : TDE) (tl th : TDO) : TDL := fun ρ M Q E => te ρ M (fun x M1 => tl ρ M1 (fun l M2 => th ρ M2 (fun u M3 => rdQof x M3 fun ds M4 => Q (cutD ds l u) M4) E) E) E
theorem l_slice {lo hi : Option Expr} {tl th : TDO} {p2 : Pos} (he : DE X W e te) (hl : DO X W lo tl) (hh : DO X W hi th) : DL X W (.Subscript e (.Slice lo hi none p2) pos) (tdQsl te tl th) :=
  PE.imp (pe_slice sl_list he hl hh) fun σ H Q ⟨ρ, M, Q0, E0, dv, sm, q, hq, he⟩ => by
    refine ⟨ρ, M, _, E0, dv, sm, q, fun d M1 q1 v H1 r1 s1 t1 => ?_, he⟩
    refine ⟨ρ, M1, _, E0, dv.mono t1, s1, q1, fun l M2 q2 H2 s2 t2 => ?_, he.mono t1⟩
    have t12 := t1.trans t2
    refine ⟨ρ, M2, _, E0, dv.mono t12, s2, q2, fun u M3 q3 H3 s3 t3 => ?_, he.mono t12⟩
    have t13 := t12.trans t3
    unfold rdQof at q3
    split at q3
    · rename_i ds e1
      obtain ⟨a, vs, rfl, g, rs⟩ := lstD_ok s3 (r1.mono (t2.trans t3)) e1
      refine ⟨a, vs, rfl, g, fun p hp => ?_⟩
      have t4 : Tr H3 M3 (upd H3 p (.lst (cutV vs l u))) M3 := Tr.new hp
      exact hq _ _ q3 p _ _ (t13.fresh hp) upd_same (s3.free hp) ((cut_reps rs l u).mono t4) (s3.new hp) (t13.trans t4)
    · exact q3.elim
/-! ### a, b, c = x, y, z -/
def tdPar3 (i j l : Nat) (ta : TDA) : TDS := fun D ρ M => ta ρ M (fun ds M1 => match ds with | [a, b, c] => D.nx (((ρ.set i (some a)).set j (some b)).set l (some c)) M1 | _ => False) (D.at ρ)
theorem s_par3 (i j l : Nat) {x y z : Str} {a b c : Expr} {ta : TDA} {px py pz pt : Pos} {kt k2 pt2} (hc : X.calm = true) (hN : X.N.Nodup) (ha : DA X W [a, b, c] ta) (hi : X.N[i]? = some x := by rfl) (hj : X.N[j]? = some y := by rfl) (hl : X.N[l]? = some z := by rfl) (hij : i ≠ j := by decide) (hil : i ≠ l := by decide) (hjl : j ≠ l := by decide)
    (hx : X.env.scope.names.lookup x = some .local := by rfl) (hy : X.env.scope.names.lookup y = some .local := by rfl) (hz : X.env.scope.names.lookup z = some .local := by rfl)
    (hw : swappedStores [.Tuple [.Name x px, .Name y py, .Name z pz] kt pt] (.Tuple [a, b, c] k2 pt2) X.env = pure (some [x, y, z]) := by rfl)
    (hs : swapsWithSole [.Tuple [.Name x px, .Name y py, .Name z pz] kt pt] (.Tuple [a, b, c] k2 pt2) pos.line X.env = pure false := by rfl) :
    DS X W (.Assign [.Tuple [.Name x px, .Name y py, .Name z pz] kt pt] (.Tuple [a, b, c] k2 pt2) pos) (tdPar3 i j l ta) := PS.imp (ps_par3 hc hN hi hj hl hij hil hjl hx hy hz ha hw hs) fun D σ H ⟨ρ, M, D0, dv, sm, q, eu⟩ => by
  refine ⟨ρ, M, _, _, dv, sm, q, fun ds M1 q1 vs H1 r1 s1 t1 => ?_, eu.w dv⟩
  match ds, vs, r1, q1 with
  | [d1, d2, d3], _, .cons r1 (.cons r2 (.cons r3 .nil)), q1 => exact ⟨_, _, _, rfl, eu.nx _ _ q1 _ H1 ((((dv.mono t1).set r1 i).set r2 j).set r3 l) s1 t1⟩
end
/-! ### readings, step by step -/
/-- the statements that follow, by a name -/
theorem seqI {t u : TDS} {D : DEnds} {ρ : DSt} {M : Mem} (h : ∀ k : DSt → Mem → Prop, k = u D → t { D with nx := k } ρ M) : tdSeq t u D ρ M := by
  unfold tdSeq
  exact ⟨_, h _ rfl, fun _ _ h => h⟩
theorem seq0 {t u : TDS} {D : DEnds} {ρ : DSt} {M : Mem} (h : t { D with nx := u D } ρ M) : tdSeq t u D ρ M := by
  unfold tdSeq
  exact ⟨_, h, fun _ _ h => h⟩
/-- .. by what holds between -/
theorem seqC {t u : TDS} {D : DEnds} {ρ : DSt} {M : Mem} (mid : DSt → Mem → Prop) (h1 : t { D with nx := mid } ρ M) (h2 : ∀ ρ M, mid ρ M → u D ρ M) : tdSeq t u D ρ M := by
  unfold tdSeq
  exact ⟨mid, h1, h2⟩
theorem sz {n : Nat} (h : n ≤ 1000000) : n ≤ sizeLine := Nat.le_trans h (by decide)
theorem p_9 {M : Mem} {Q : D → Mem → Prop} (h : Q (.int 1000000000) M) : rdPow (.int 10) (.int 9) M Q := pow_i ⟨by decide, by decide, by decide⟩ h
theorem p_6 {M : Mem} {Q : D → Mem → Prop} (h : Q (.int 1000000) M) : rdPow (.int 10) (.int 6) M Q := pow_i ⟨by decide, by decide, by decide⟩ h
theorem p_14 {M : Mem} {Q : D → Mem → Prop} (h : Q (.int 100000000000000) M) : rdPow (.int 10) (.int 14) M Q := pow_i ⟨by decide, by decide, by decide⟩ h
theorem p_12 {M : Mem} {Q : D → Mem → Prop} (h : Q (.int 1000000000000) M) : rdPow (.int 10) (.int 12) M Q := pow_i ⟨by decide, by decide, by decide⟩ h
theorem p_18 {M : Mem} {Q : D → Mem → Prop} (h : Q (.int 1000000000000000000) M) : rdPow (.int 10) (.int 18) M Q := pow_i ⟨by decide, by decide, by decide⟩ h
theorem p_20 {M : Mem} {Q : D → Mem → Prop} (h : Q (.int 100000000000000000000) M) : rdPow (.int 10) (.int 20) M Q := pow_i ⟨by decide, by decide, by decide⟩ h
theorem p_29 {M : Mem} {Q : D → Mem → Prop} (h : Q (.int 100000000000000000000000000000) M) : rdPow (.int 10) (.int 29) M Q := pow_i ⟨by decide, by decide, by decide⟩ h
theorem p_30 {M : Mem} {Q : D → Mem → Prop} (h : Q (.int 1000000000000000000000000000000) M) : rdPow (.int 10) (.int 30) M Q := pow_i ⟨by decide, by decide, by decide⟩ h
theorem mne {M : Mem} {a b : Addr} {o : MO} (h : M a = some o) (h' : M b = none) : a ≠ b := fun e => by rw [e, h'] at h; cases h
theorem mne' {M : Mem} {a b : Addr} {o : MO} (h' : M b = none) (h : M a = some o) : b ≠ a := (mne h h').symm
theorem atI_of {α : Type} {xs : List α} {i : Int} (h0 : 0 ≤ i) (h1 : i < xs.length) : ∃ x, atI xs i = some x ∧ xs[i.toNat]? = some x := by
  obtain ⟨n, rfl⟩ := Int.eq_ofNat_of_zero_le h0
  have hn : n < xs.length := by omega
  exact ⟨xs[n], atI_nat (List.getElem?_eq_getElem hn), by simp⟩
theorem atI_map {α β : Type} {f : α → β} {xs : List α} {i : Int} (h0 : 0 ≤ i) (h1 : i < xs.length) : ∃ x, x ∈ xs ∧ atI (xs.map f) i = some (f x) ∧ atI xs i = some x := by
  obtain ⟨n, rfl⟩ := Int.eq_ofNat_of_zero_le h0
  have hn : n < xs.length := by omega
  exact ⟨xs[n], List.getElem_mem hn, atI_nat (by simp [hn]), atI_nat (List.getElem?_eq_getElem hn)⟩
theorem cutD_map {α : Type} (f : α → D) (xs : List α) (lo hi : Option Int) : cutD (xs.map f) lo hi = ((xs.drop (HT.sIx xs.length 0 lo)).take (HT.sIx xs.length xs.length hi - HT.sIx xs.length 0 lo)).map f := by
  unfold cutD
  rw [List.length_map, ← List.map_drop, ← List.map_take]
theorem map_get {α : Type} {f : α → D} {xs : List α} {i : Nat} {d : D} (h : (xs.map f)[i]? = some d) : ∃ x, xs[i]? = some x ∧ d = f x ∧ x ∈ xs := by
  rw [List.getElem?_map] at h
  cases e : xs[i]? with
  | none => rw [e] at h; cases h
  | some x => rw [e] at h; cases h; exact ⟨x, rfl, rfl, List.mem_of_getElem? e⟩
theorem rngD_of {lo : Int} {n i : Nat} {d : D} (h : (rngD lo n)[i]? = some d) : i < n ∧ d = .int (lo + i) := by
  have hi : i < n := by
    have := (List.getElem?_eq_some_iff.mp h).1
    rwa [rngD_length] at this
  rw [rngD_get hi] at h
  cases h
  exact ⟨hi, rfl⟩
section
variable {P : Program} {w : World} {K : PySem.W.Frag} {mg : Str → Option Value} {base : Heap} {x : Str} {st : Stmt} {ps : List Str}
def spNever : SpD := fun _ _ _ _ => False
theorem ok_never (a : At K mg x st) {N : List Str} (S : FnScope N ps (defScope st)) : Ok P w K mg base x st 1 ps spNever :=
  ok_of a S _ rfl (fun _ _ _ _ h => h.elim) fun _ _ _ _ _ _ _ _ => ⟨_, ss_never, fun _ _ _ _ h => h.elim⟩
end
theorem pys_ints (M : Mem) : ∀ ns : List Int, Pys M (ns.map D.int) (ns.map PyData.int)
  | [] => .nil
  | n :: ns => .cons (.int n) (pys_ints M ns)
theorem MLe.new2 {M : Mem} {p q : Addr} {o u : MO} (h1 : M p = none) (h2 : mupd M p o q = none) : MLe M (mupd (mupd M p o) q u) := (MLe.new h1).trans (MLe.new h2)
theorem ends {Q : D → Mem → Prop} {M : Mem} {b : Bool} (h : b = true) (hq : Q (.bl true) M) : Q (.bl b) M := by subst h; exact hq
theorem atI_zero {α : Type} {x : α} {xs : List α} : atI (x :: xs) 0 = some x := atI_nat (j := 0) rfl
theorem and_sp {spd : SpD} {ds : List D} {M : Mem} {Q : D → Mem → Prop} {E : XD} {a b : Nat} (h1 : a = b) (h : onSp spd ds M Q E) : a = b ∧ onSp spd ds M Q E := ⟨h1, h⟩
theorem and_sp2 {spd : SpD} {ds : List D} {M : Mem} {Q : D → Mem → Prop} {E : XD} {a b c e : Nat} (h1 : a = b) (h2 : c = e) (h : onSp spd ds M Q E) : a = b ∧ c = e ∧ onSp spd ds M Q E := ⟨h1, h2, h⟩
theorem and_len {xs : List D} {n : Nat} {P : Prop} (h : xs.length = n) (q : P) : xs.length = n ∧ P := ⟨h, q⟩
theorem and_sz {n : Nat} {P : Prop} (h : n ≤ 1000000) (q : P) : n ≤ sizeLine ∧ P := ⟨sz h, q⟩
theorem cnd_t {k : Bool} {A B : Prop} (h : k = true) (a : A) : cnd k A B := by subst h; exact cndT a
theorem cnd_f {k : Bool} {A B : Prop} (h : k = false) (b : B) : cnd k A B := by subst h; exact cndF b
/-! ### the law's end -/
/-- law's promise: a list of at most 63 ints, True comes out, nothing is raised -/
def spLaw : SpD := fun ds M Q _ => ∃ ns : List Int, ds = [.rol (ns.map D.int)] ∧ ns.length ≤ 63 ∧ ∀ M', Q (.bl true) M'
theorem reps_ints {K : PySem.W.Frag} {H : Hp} : ∀ ns : List Int, Reps K H (ns.map V.int) (ns.map D.int)
  | [] => .nil
  | n :: ns => .cons (.int n) (reps_ints ns)
theorem walk_law {l : PySem.W.OpenLaw} {k : Nat} {q : Program} {loose : List Str} {XP : (Str → Option Value) → Heap → Prop} {YP : World → Heap → Prop} {d : DefRec} {K : Params → PySem.W.Frag} {x : Str} (hn : l.most = some 63) (hdf : d.params.defaults = []) (hr : Room k callerA)
    (hY : ∀ (w : World) (h : Heap), YP w h → (K w.params).In h)
    (F : ∀ (w : World) (mg : Str → Option Value) (fa : Addr) (h : Heap), (K w.params).In h → h.Ns mainGlobals mg → mg d.name = some (.ref fa) →
      ∃ fd : FuncData, (∀ (s : Shared) (u : Value), BindsTo s fd ⟨[u], []⟩ [(x, u)]) ∧ ∀ base : Heap, (K w.params).In base → base.Ns mainGlobals mg → FnOk l.prog w (K w.params) mg base (L2.CX l.prog w) k fa fd [x] (upF (K w.params) spLaw)) :
    PySem.W.WalkO q loose XP YP l.row.toRowW d [] (fun f vs => PySem.call f vs) :=
  L2.walk_of (n := 63) (k := k) (x := x) (CX := fun w => L2.CX l.prog w) (sp := fun w => upF (K w.params) spLaw) hn (by decide) hdf hr hY F
    (fun w H a ns hl hO hS => by
      have hR : SqLR (K w.params) H a (ns.map V.int) := by
        rcases hS with (h | ⟨o, h⟩) | h
        · rcases hO a with z | ⟨o, xs, z⟩
          · rw [h] at z; cases z
          · rw [h] at z; cases z
        · exact .inl ⟨o, h⟩
        · exact .inr (.inr h)
      refine ⟨[.rol (ns.map D.int)], fun _ => none, fun v _ => v = .bl true, fun _ _ _ => False, .cons (.rol hR (reps_ints ns)) .nil, fun a o h => (nomatch h), ⟨ns, rfl, hl, fun _ => rfl⟩, fun d M' e v H' r _ _ => ?_, fun c f M' h => h.elim⟩
      subst e
      cases r
      rfl)
    fun w H s e s' ⟨_, _, _, _, _, _, _, _, _, _, _, _, z⟩ => z
/-- the law's def, handed to walk_law -/
theorem law_fd {P : Program} {w : World} {K : PySem.W.Frag} {mg : Str → Option Value} {x y : Str} {st : Stmt} {k : Nat} {fa : Addr} {spd : SpD} (a : At K mg x st) (hfa : mg x = some (.ref fa)) (B : Bd x st [y] 1 [] (fun us _ => us) (fun ds _ => ds))
    (o : ∀ base : Heap, K.In base → base.Ns mainGlobals mg → Ok P w K mg base x st k [y] spd) : ∃ fd : FuncData, (∀ (s : Shared) (u : Value), BindsTo s fd ⟨[u], []⟩ [(y, u)]) ∧ ∀ base : Heap, K.In base → base.Ns mainGlobals mg → FnOk P w K mg base (L2.CX P w) k fa fd [y] (upF K spd) := by
  obtain ⟨f, fd, F, hm⟩ := a.ex
  rw [hfa] at hm
  cases hm
  obtain ⟨oc, od, kV, doc, pm, an, cdv, ct, osl, rfl, lk, hcd⟩ := F.ex
  refine ⟨_, fun s u => .of_eq (B.to kV doc pm an cdv ct [u] [] rfl rfl), fun base h1 h2 => ?_⟩
  obtain ⟨f2, fd2, F2, hm2, G⟩ := (o base h1 h2).ex
  rw [hfa] at hm2
  cases hm2
  obtain ⟨oc2, od2, kV2, doc2, pm2, an2, cdv2, ct2, osl2, rfl, lk2, hcd2⟩ := F2.ex
  rw [lk] at lk2
  injection lk2 with lk2
  injection lk2 with h1 h2 h3 h4
  injection h3 with h3
  rw [h3]
  exact G
theorem fun_uniq {K : PySem.W.Frag} {x : Str} {st : Stmt} {f : Addr} {fd fd' : FuncData} (a : L2.Fun K x x st f fd) (b : L2.Fun K x x st f fd') : fd = fd' := by
  obtain ⟨oc, od, kV, doc, pm, an, cdv, ct, osl, e, lk, _⟩ := a.ex
  obtain ⟨oc2, od2, kV2, doc2, pm2, an2, cdv2, ct2, osl2, e2, lk2, _⟩ := b.ex
  rw [lk] at lk2
  injection lk2 with lk2
  injection lk2 with h1 h2 h3 h4
  injection h3 with h3
/-- many promises of one def are one -/
theorem Ok.any {ι : Type} {P : Program} {w : World} {K : PySem.W.Frag} {mg : Str → Option Value} {base : Heap} {x : Str} {st : Stmt} {k : Nat} {ps : List Str} {sp : ι → SpD} (i0 : ι) (h : ∀ i, Ok P w K mg base x st k ps (sp i)) : Ok P w K mg base x st k ps (fun ds M Q E => ∃ i, sp i ds M Q E) := by
  obtain ⟨f, fd, F, hm, G⟩ := (h i0).ex
  have key : ∀ i, FnOk P w K mg base (L2.CX P w) k f fd ps (upF K (sp i)) := fun i => by
    obtain ⟨f2, fd2, F2, hm2, G2⟩ := (h i).ex
    rw [hm] at hm2
    injection hm2 with hm2
    injection hm2 with hm2
    subst hm2
    rw [fun_uniq F F2]
    exact G2
  refine ⟨f, fd, F, hm, fun vs H Q E ⟨ds, M, Q0, E0, r, s, ⟨i, q⟩, hq, he⟩ => (key i).len vs H Q E ⟨ds, M, Q0, E0, r, s, q, hq, he⟩, fun A outer s H args us vs Q E hr he hb hv ⟨ds, M, Q0, E0, r, sm, ⟨i, q⟩, hq, hx⟩ => (key i).run A outer s H args us vs Q E hr he hb hv ⟨ds, M, Q0, E0, r, sm, q, hq, hx⟩⟩
theorem at_mk {K : PySem.W.Frag} {mg : Str → Option Value} {h : Heap} {x : Str} {st : Stmt} {f : Addr} {oc : Value} {od an : Option Addr} {osl : Array (Option Value)} {kV doc pm cdv ct : Value} (X : K.In h) (G : h.Ns mainGlobals mg) (a : PySem.W.nsIn K mainGlobals x = some (some (.ref f)))
    (l : K.lookup f = some ⟨oc, od, .func (PySem.W.fnOf x x (defArgs st) (defBody st) (defScope st) .none kV doc pm an cdv ct), osl⟩) (c : PySem.W.codeIn K cdv x = true) (k : PySem.W.keepIn K (.ref f) = true) : At K mg x st := ⟨_, _, fun_mk l c k, PySem.W.mg_of X G a⟩
end TD

namespace TD
open PySem PySem.Spec PySem.W PyProof.Rows L2 StX
/-! ### def f(a, .., *v) -/
/-- the promise: what is left over is one tuple, behind the first n -/
def upFS (K : PySem.W.Frag) (n : Nat) (spd : SpD) : Sp := fun vs H Q E => ∃ ds M Q0 E0, Reps K H vs ds ∧ Sim K H M ∧ n ≤ ds.length ∧ ds.length ≤ 1000 ∧ spd (ds.take n ++ [.tup (ds.drop n)]) M Q0 E0 ∧ qUp K H M Q0 Q ∧ ∀ c f M', E0 c f M' → ∀ od H', XRep K H' od f → Sim K H' M' → Tr H M H' M' → E c od H'
structure OkS (P : Program) (w : World) (K : PySem.W.Frag) (mg : Str → Option Value) (base : Heap) (x : Str) (st : Stmt) (k n : Nat) (spd : SpD) : Prop where
  ex : ∃ f fd, L2.Fun K x x st f fd ∧ mg x = some (.ref f) ∧ FnR P w K mg base (L2.CX P w) k f (upFS K n spd)
section
variable {P : Program} {w : World} {K : PySem.W.Frag} {mg : Str → Option Value} {base : Heap} {x : Str} {st : Stmt} {k j n : Nat} {ps : List Str} {spd spd' : SpD}
theorem OkS.mono (o : OkS P w K mg base x st j n spd) (h : j ≤ k) : OkS P w K mg base x st k n spd := let ⟨f, fd, a, b, c⟩ := o.ex; ⟨f, fd, a, b, c.mono h⟩
theorem bindS0 {B : List Value → Sem (List (Str × Value))} {pv : Str} (h0 : B [] = (newTuple [] >>= fun t => pure [(pv, t)])) (h1 : ∀ r rs, B (r :: rs) = (newTuple (r :: rs) >>= fun t => pure [(pv, t)])) :
    ∀ us rest : List Value, us.length = ([] : List Str).length → B (us ++ rest) = (newTuple rest >>= fun t => pure (([] : List Str).zip us ++ [(pv, t)]))
  | [], [], _ => h0
  | [], r :: rs, _ => h1 r rs
theorem okS_of (a : At K mg x st) {N : List Str} {pv : Str} (S : FnScope N (ps ++ [pv]) (defScope st)) (m : Nat) (hm' : N.length - (ps.length + 1) = m)
    (hb : ∀ (kV doc pm : Value) (an : Option Addr) (cdv ct : Value) (us rest : List Value), us.length = ps.length → bindArgs (PySem.W.fnOf x x (defArgs st) (defBody st) (defScope st) .none kV doc pm an cdv ct) ⟨us ++ rest, []⟩ = (newTuple rest >>= fun t => pure (ps.zip us ++ [(pv, t)])))
    (body : ∀ (f : Addr) (cd : Value) (A : Around) (outer : List Env) (s : Shared) (H : Hp) (E : XK), Room k (Xd P w K mg base N x (defScope st) f cd A outer s H E).A →
      ∃ td, DSs (Xd P w K mg base N x (defScope st) f cd A outer s H E) (Wd E) (defBody st) td ∧ ∀ ds M Q E, ds.length = ps.length + 1 → spd ds M Q E → td (dEnds Q E) (ds.map some ++ List.replicate m none) M) : OkS P w K mg base x st (k + 1) ps.length spd := by
  subst hm'
  obtain ⟨f, fd, F, hm⟩ := a.ex
  obtain ⟨oc, od, kV, doc, pm, an, cdv, ct, osl, rfl, lk, hcd⟩ := id F.ex
  refine ⟨f, _, F, hm, ?_⟩
  let sp1 : Sp := fun vs H Q E => ∃ ds M Q0 E0, vs.length = ps.length + 1 ∧ Reps K H vs ds ∧ Sim K H M ∧ spd ds M Q0 E0 ∧ qUp K H M Q0 Q ∧ ∀ c f M', E0 c f M' → ∀ od H', XRep K H' od f → Sim K H' M' → Tr H M H' M' → E c od H'
  have R := fn_star (k := k) (sp := sp1) lk hcd S (cxUp (P := P) (w := w)) (hb kV doc pm an cdv ct) fun A outer s H vs Q E hr hsp => by
    obtain ⟨ds, M, Q0, E0, hl, r, sm, q, hq, he⟩ := hsp
    obtain ⟨td, h1, h2⟩ := body f cdv A outer s H E hr
    have hl2 : ds.length = ps.length + 1 := by rw [← r.length]; exact hl
    refine ⟨_, h1, ds.map some ++ List.replicate (N.length - (ps.length + 1)) none, M, dEnds Q0 E0, ?_, sm, h2 ds M Q0 E0 hl2 q, ⟨?_, ?_, fun _ _ z => z.elim, fun _ _ z => z.elim, ?_⟩⟩
    · have e : (L2.start N vs) = vs.map some ++ List.replicate (N.length - (ps.length + 1)) none := by unfold L2.start; rw [hl]
      rw [e]
      exact DvL.start r _
    · rintro ρ' M' ⟨M0, le, h⟩ σ' H' dv' s' t'; exact hq _ _ h _ H' .non (s'.le le) (t'.le le)
    · rintro d M' ⟨M0, le, h⟩ v H' r' s' t'; exact hq _ _ h _ H' r' (s'.le le) (t'.le le)
    · rintro c g ρ' M' ⟨M0, le, h⟩ od σ' H' x dv' s' t'; exact he _ _ _ h od H' x (s'.le le) (t'.le le)
  refine R.imp fun vs H Q E ⟨ds, M, Q0, E0, r, sm, hn, hz, q, hq, he⟩ => ?_
  have hl := r.length
  refine ⟨vs.take ps.length, vs.drop ps.length, (List.take_append_drop _ _).symm, by rw [List.length_take]; omega, by rw [List.length_drop]; exact sz (by omega), fun p hp => ?_⟩
  have t : Tr H M (upd H p (.tup (vs.drop ps.length))) M := Tr.new hp
  exact ⟨_, M, Q0, E0, by rw [List.length_append, List.length_take]; show min _ _ + 1 = _; omega, ((r.take _).mono t).append (.cons (.tup (SqT.of upd_same) ((r.drop _).mono t)) .nil), sm.new hp, q, hq.mono t, fun c f M' h od H' x s' t' => he c f M' h od H' x s' (t.trans t')⟩
end
section
variable {X : Cx} {W : WX} {x : Str} {st : Stmt} {k n : Nat} {spd : SpD} {p pos : Pos} {e : Expr} {es : List Expr} {ta : TDA}
def tdCallS (spd : SpD) (n : Nat) (ta : TDA) : TDE := fun ρ M Q E => ta ρ M (fun ds M1 => n ≤ ds.length ∧ ds.length ≤ 1000 ∧ onSp spd (ds.take n ++ [.tup (ds.drop n)]) M1 Q E) E
theorem run_okS {pins : List (Addr × Obj)} {σ : L2.St} {H : Hp} {s : Shared} {Q : VK} {f : Addr} {us : List Value} {vs : List V} {ds : List D} {M : Mem} {Q0 : D → Mem → Prop} {E0 : XD} (G : FnR X.prog X.w X.K X.mg X.base (L2.CX X.prog X.w) k f (upFS X.K n spd)) (hr : Room k X.A) (tk : Takes X W)
    (I : Inv X pins σ H s) (r1 : Vals vs us) (d1 : Reps X.K H vs ds) (sm : Sim X.K H M) (hn : n ≤ ds.length) (hz : ds.length ≤ 1000) (h : onSp spd (ds.take n ++ [.tup (ds.drop n)]) M Q0 E0) (hq : qUp X.K H M Q0 Q) (he : wUp X.K W σ H M E0) :
    wpAny (model X.prog X.w) X.A (call (.ref f) us []) (EP X pins σ Q) X.xe s := by
  have hsp : upFS X.K n spd vs H Q (fun c d H' => W c d σ H') := ⟨_, M, Q0, E0, d1, sm, hn, hz, onSp_iff.mp h, hq, he⟩
  refine wpAny_call (codeAny_mono (G X.A X.stack s H us vs Q _ hr I.env0 r1 hsp) fun r s' hq => ?_)
  cases r with
  | error e => exact tk e s' (XE.of_call I (fun _ _ _ h => h) hq)
  | ok fl =>
    cases fl with
    | ret u => exact I.after hq
    | _ => exact False.elim hq
theorem d_callS (o : OkS X.prog X.w X.K X.mg X.base x st k n spd) (hr : Room k X.A) (tk : Takes X W) (ha : DA X W (e :: es) ta) (hg : Gl X x := by rfl) (hdb : (x == ("__debug__" : Str)) = false := by decide)
    (he : starEach (e :: es) X.env = (false, eval e X.env) :: starEach es X.env := by rfl) (hpl : (backTo pos (starEach es X.env)).any (·.1) = false := by rfl) : DE X W (.Call (.Name x p) (e :: es) [] pos) (tdCallS spd n ta) := by
  obtain ⟨f, fd, F, hm, G⟩ := o.ex
  refine ⟨fun pins s σ H Q I ⟨ρ, M, Q0, E0, dv, sm, q, hq, hw⟩ => ?_⟩
  refine wpAny_Call_Name_kw (ld_glob I hg hm ?_ hdb)
  refine PySem.W.callWith_K (h₀ := X.base) I.ok.mod.kin F.kp (thn (ha.run pos pins s σ H (fun vs H1 => ∃ ds M1, Reps X.K H1 vs ds ∧ Sim X.K H1 M1 ∧ Tr H M H1 M1 ∧ n ≤ ds.length ∧ ds.length ≤ 1000 ∧ onSp spd (ds.take n ++ [.tup (ds.drop n)]) M1 Q0 E0) I ⟨ρ, M, _, E0, dv, sm, q, fun ds M1 q1 vs H1 r1 s1 t1 => ⟨ds, M1, r1, s1, t1, q1⟩, ?_⟩) fun us s1 ⟨vs, H1, I1, r, ds, M1, d1, s1', t1, hl, hz, q1⟩ => ⟨I1.kIn, ?_⟩) he hpl
  · exact hw
  · exact run_okS G hr tk I1 r d1 s1' hl hz q1 (hq.mono t1) (hw.mono t1)
theorem d_callS0 (o : OkS X.prog X.w X.K X.mg X.base x st k 0 spd) (hr : Room k X.A) (tk : Takes X W) (hg : Gl X x := by rfl) (hdb : (x == ("__debug__" : Str)) = false := by decide) : DE X W (.Call (.Name x p) [] [] pos) (tdCallS spd 0 tdNil) := by
  obtain ⟨f, fd, F, hm, G⟩ := o.ex
  refine ⟨fun pins s σ H Q I ⟨ρ, M, Q0, E0, dv, sm, q, hq, hw⟩ => ?_⟩
  refine wpAny_Call_Name_kw (ld_glob I hg hm ?_ hdb)
  exact PySem.W.callWith_K0 I.kIn F.kp (run_okS (us := []) G hr tk I .nil .nil sm q.1 q.2.1 q.2.2 hq hw)
/-! ### xs.index(n), ints -/
def tdIdx (to te : TDE) : TDE := fun ρ M Q E => to ρ M (fun d M1 => onLst M1 d fun _ _ => te ρ M1 (fun c M2 => onLst M2 d fun a ds => ∃ (ns : List Int) (i : Int) (j : Nat), ds = ns.map D.int ∧ c = .int i ∧ ns[j]? = some i ∧ (∀ m, m < j → ns[m]? ≠ some i) ∧ Q (.int (j : Nat)) M2) E) E
theorem reps_ints_eq {K : PySem.W.Frag} {H : Hp} : ∀ {ns : List Int} {vs : List V}, Reps K H vs (ns.map D.int) → vs = ns.map V.int
  | [], _, .nil => rfl
  | n :: ns, _, .cons r t => by
    cases r
    rw [reps_ints_eq t]
    rfl
theorem d_index {apos : Pos} {o : Expr} {to te : TDE} (ho : DE X W o to) (he : DE X W e te) (hs : starEach [e] X.env = (false, eval e X.env) :: starEach [] X.env := by rfl) (hbase : attributeBase o "index" X.env (eval o X.env) = eval o X.env := by rfl)
    (hfew : ((backTo pos (starEach [e] X.env)).all (fun x => !x.1) && (backToKw pos (keywordEach [] X.env)).all (fun x => x.1.isSome) && decide ([e].length + ([] : List Keyword).length + (if ([] : List Keyword).isEmpty then 0 else 1) < 30)) = true := by rfl)
    (hline : (apos.endLine == pos.line) = true := by rfl) : DE X W (.Call (.Attribute o "index" apos) [e] [] pos) (tdIdx to te) :=
  PE.imp (pe_bm PySem.F.plainAttrs_list PySem.F.slot_list_index PySem.F.type_list_index mt_index ho (pa_cons he pa_nil hs) hbase hfew hline hs rfl) fun σ H Q ⟨ρ, M, Q0, E0, dv, sm, q, hq, he⟩ => by
    refine ⟨ρ, M, _, E0, dv, sm, q, fun d M1 q1 v H1 r1 s1 t1 => ?_, he⟩
    obtain ⟨a, ds, rfl, e1, q1⟩ := onLst_ok q1
    obtain ⟨vs, g, rs⟩ := s1.lst e1
    cases r1
    refine ⟨tyV_lst g, ρ, M1, _, E0, dv.mono t1, s1, q1, fun c M2 q2 w H2 r2 s2 t2 => ?_, he.mono t1⟩
    obtain ⟨b, es, eb, e2, ns, i, j, rfl, rfl, e3, e4, q2⟩ := onLst_ok q2
    cases eb
    cases r2
    obtain ⟨us, g2, rs2⟩ := s2.lst e2
    obtain rfl := reps_ints_eq rs2
    refine ⟨a, _, .int i, j, .int i, rfl, rfl, SqL.of g2, rfl, ?_, by rw [List.getElem?_map, e3]; rfl, by simp [eqV], fun m z' hm hz => ?_, hq _ _ q2 _ H2 (.int _) s2 (t1.trans t2)⟩
    · simp [List.all_map, flatV]
    · rw [List.getElem?_map] at hz
      cases ez : ns[m]? with
      | none => rw [ez] at hz; cases hz
      | some y =>
        rw [ez] at hz
        cases hz
        have hne : y ≠ i := fun z => e4 m hm (by rw [ez, z])
        simpa [eqV] using hne
/-! ### tuple(e), e a tuple or a list; list(e) too -/
@[irreducible] def rdTup (d : D) (M : Mem) (Q : D → Mem → Prop) : Prop := match d with
  | .tup ds => Q (.tup ds) M
  | d => match lstD M d with | some ds => Q (.tup ds) M | none => False
theorem tup_t {M : Mem} {Q : D → Mem → Prop} {ds : List D} (h : Q (.tup ds) M) : rdTup (.tup ds) M Q := by unfold rdTup; exact h
theorem tup_l {M : Mem} {Q : D → Mem → Prop} {a : Addr} {ds : List D} (h1 : M a = some (.lst ds)) (h : Q (.tup ds) M) : rdTup (.ref a) M Q := by
  unfold rdTup lstD
  dsimp only
  rw [h1]
  exact h
def tdTupA (t : TDE) : TDE := fun ρ M Q E => t ρ M (fun d M1 => rdTup d M1 Q) E
theorem d_tupA {te : TDE} (hm : X.mg "tuple" = none) (ha : DE X W e te) (hg : Gl X "tuple" := by rfl) (hs : starEach [e] X.env = (false, eval e X.env) :: starEach [] X.env := by rfl) : DE X W (.Call (.Name "tuple" p) [e] [] pos) (tdTupA te) :=
  PE.imp (pe_callTy call_tuple_of hg hm (by decide +kernel) (pa_cons ha pa_nil hs) (by decide) (by decide) hs rfl) fun σ H Q ⟨ρ, M, Q0, E0, dv, sm, q, hq, he⟩ => by
    refine ⟨ρ, M, _, E0, dv, sm, q, fun d M1 q1 v H1 r1 s1 t1 => ?_, he⟩
    dsimp only at q1
    unfold rdTup at q1
    split at q1
    · cases r1 with
      | @tup a vs _ g rs => exact ⟨a, vs, rfl, .inr ⟨g, hq _ _ q1 _ H1 (.tup g rs) s1 t1⟩⟩
    · split at q1
      · rename_i ds e1
        obtain ⟨a, vs, rfl, g, rs⟩ := lstD_ok s1 r1 e1
        exact ⟨a, vs, rfl, .inl ⟨g, fun l hl => tupNew s1 rs (hq.mono t1) q1 hl⟩⟩
      · exact q1.elim
end
end TD

namespace TD
open PySem PySem.Spec PySem.Calls PySem.W PyProof.Rows L2 StX
/-! ### a, .., *rest = a tuple -/
theorem unpackS {prog : Program} {w : World} {A : Around} {E : Value → Shared → Prop} {s : Shared} {l : Addr} {items : Array Value} {i : Nat} {Q : List Value → Shared → Prop} (hl : IsTup s.heap l items) (hh : A.handled = none) (hi : i ≤ items.size) (hz : items.size ≤ sizeLine)
    (h : ∀ h' tk, (∀ b o, s.heap.get? b = some o → h'.get? b = some o) → wpAny (model prog w) A (newList (items.toList.drop i) >>= fun d => pure (items.toList.take i ++ [d] ++ [])) Q E { s with heap := h', toks := tk }) :
    wpAny (model prog w) A (unpackItems (.ref l) (i + 1) (some i)) Q E s := by
  obtain ⟨o0, ho0, _⟩ := id hl
  have hlt : l ≠ s.heap.objs.size := Nat.ne_of_lt (Heap.lt_size ho0)
  unfold unpackItems
  refine wpAny_bind ?_
  unfold notIterableAtAll
  refine wpAny_bind (wpAny_specialOf hl.typeIs slot_tuple_iter.lookup ?_)
  refine wpAny_pure ?_
  simp only [Bool.false_eq_true, if_false]
  refine wpAny_bind (wpAny_holding (iter_tuple hl ?_))
  refine wpAny_bind (wpAny_holding (draw_tuple hlt i 0 _ _ ⟨_, Heap.get?_push_size _ rfl, rfl, rfl⟩ (hl.push _) (by omega) fun h₁ hit₁ hs₁ => ?_))
  have hl₁ : IsTup h₁ l items := (hl.push _).extBut hs₁.extBut hlt
  rw [Nat.zero_add] at hit₁
  obtain ⟨oi, hoi, _⟩ := id hit₁
  obtain ⟨ol, hol, _⟩ := id hl₁
  rw [List.drop_zero]
  rw [if_neg (show ¬ ((items.toList.take i).length < i) by rw [List.length_take, Array.length_toList]; omega)]
  refine wpAny_bind (wpAny_holding (kun_collect (s := { s with heap := h₁ }) (T := "tuple_iterator") (.inr (.inr (.inr rfl))) (Walks.tuple (A := A.in1) hh s.heap.objs.size l hlt items) (fun j u st => st.1.typeIs) (k := i) hi ⟨hit₁, hl₁⟩ (Heap.lt_size hoi) (Heap.lt_size hol) (fun h₂ tk hk => ?_) hz))
  rw [if_neg (show ¬ ((items.toList.drop i).length < i + 1 - 1 - i) by omega)]
  have e1 : (items.toList.drop i).length - (i + 1 - 1 - i) = (items.toList.drop i).length := by omega
  rw [e1, List.take_length, List.drop_length]
  exact h h₂ tk fun b o e => hk b o (Nat.ne_of_lt (Heap.lt_size e)) (hs₁.extBut b o (Nat.ne_of_lt (Heap.lt_size e)) (Heap.get?_push_of_some _ e))
theorem valsTake : ∀ (n : Nat) {xs : List V} {us : List Value}, Vals xs us → Vals (xs.take n) (us.take n)
  | 0, _, _, _ => .nil
  | _ + 1, _, _, .nil => .nil
  | n + 1, _, _, .cons r t => .cons r (valsTake n t)
theorem valsDrop : ∀ (n : Nat) {xs : List V} {us : List Value}, Vals xs us → Vals (xs.drop n) (us.drop n)
  | 0, _, _, r => r
  | _ + 1, _, _, .nil => .nil
  | n + 1, _, _, .cons _ t => valsDrop n t
theorem valsApp : ∀ {xs ys : List V} {us vs : List Value}, Vals xs us → Vals ys vs → Vals (xs ++ ys) (us ++ vs)
  | _, _, _, _, .nil, h => h
  | _, _, _, _, .cons r t, h => .cons r (valsApp t h)
section
variable {X : Cx} {W : WX} {pos : Pos}
def gStar (K : PySem.W.Frag) (i : Nat) (t : TGs) : TG := fun v σ H Q => ∃ a xs, v = .ref a ∧ SqT K H a xs ∧ i ≤ xs.length ∧ xs.length ≤ sizeLine ∧ ∀ p, H p = none → t (xs.take i ++ [.ref p]) σ (upd H p (.lst (xs.drop i))) Q
theorem pg_star {es : List Expr} {k : Nat} {t : TGs} {i : Nat} (hc : X.calm = true) (h : PGs X es t) (hn : (assignEach es X.env).length = i + 1 := by rfl) (hst : (assignEach es X.env).findIdx? (·.1) = some i := by rfl) : PG X (.Tuple es k pos) (gStar X.K i t) := by
  refine ⟨fun pins s σ H v u Q I r hw => ?_⟩
  obtain ⟨a, xs, e1, hq, hl, hz, hw⟩ := hw
  subst e1
  cases r
  obtain ⟨its, rv, ht, hz'⟩ := I.tuple hq
  rw [assign_Tuple]
  refine wpAny_bind (wpAny_standAt ?_)
  unfold unpack
  rw [hn, hst]
  have hsz : its.length = xs.length := rv.length.symm
  refine wpAny_bind (wpAny_holding (unpackS ht (I.ok.hd hc) (by rw [List.size_toArray]; omega) (by rw [List.size_toArray]; omega) fun h' tk hx => ?_))
  have I1 : L2.Inv X pins σ H { s with heap := h', toks := tk } := I.kept (t' := tk) hx
  have rl : Vals (xs.drop i) (its.drop i) := valsDrop i rv
  show wpAny (model X.prog X.w) X.A (newList (its.drop i) >>= fun d => pure (its.take i ++ [d] ++ [])) _ _ _
  refine wpAny_bind (wpAny_newList ?_ (by rw [List.length_drop]; omega))
  have hf : H h'.objs.size = none := I1.hok.fresh (Nat.le_refl _)
  have I2 : L2.Inv X pins σ (upd H h'.objs.size (.lst (xs.drop i))) { s with heap := h'.push { cls := .type "list", data := .seq (its.drop i).toArray }, toks := tk } := by
    refine I1.laid (t' := tk) (fun b u e => Heap.get?_push_of_some _ e) (Nat.le_refl _) ?_
    exact ⟨by rw [List.length_drop]; omega, _, 0, rl, Heap.get?_push_size _ rfl⟩
  refine wpAny_pure ?_
  refine h.run pins _ σ _ _ _ Q I2 ?_ (hw _ hf)
  rw [List.append_nil]
  exact valsApp (valsTake i rv) (.cons rfl .nil)
theorem pgs_starred {e : Expr} {es : List Expr} {p : Pos} {t : TG} {u : TGs} (h1 : PG X e t) (h2 : PGs X es u) : PGs X (.Starred e p :: es) (gCons t u) := by
  refine ⟨fun pins s σ H vs us Q I r h => ?_⟩
  obtain ⟨v, vr, e1, h⟩ := h
  subst e1
  cases r with
  | cons r rr =>
    show wpAny _ _ (assignInOrder (assign e X.env :: (assignEach es X.env).map (·.2)) _) _ _ _
    refine assignInOrder_cons (thn (h1.run pins s σ H _ _ _ I r h) fun _ s1 ⟨σ1, H1, I1, q1⟩ => ?_)
    exact h2.run pins s1 σ1 H1 _ _ Q I1 rr q1
def gdStar (i : Nat) (t : TDGs) : TDG := fun d ρ M Q => match d with | .tup ds => i ≤ ds.length ∧ ds.length ≤ sizeLine ∧ ∀ p, M p = none → t (ds.take i ++ [.ref p]) ρ (mupd M p (.lst (ds.drop i))) Q | _ => False
theorem repsSnoc {K : PySem.W.Frag} {H : Hp} {v : V} {d : D} (r : Rep K H v d) : ∀ {vs : List V} {ds : List D}, Reps K H vs ds → Reps K H (vs ++ [v]) (ds ++ [d])
  | _, _, .nil => .cons r .nil
  | _, _, .cons a t => .cons a (repsSnoc r t)
theorem g_star (i : Nat) {es : List Expr} {k : Nat} {t : TDGs} (hc : X.calm = true) (h : DGs X es t) (hn : (assignEach es X.env).length = i + 1 := by rfl) (hst : (assignEach es X.env).findIdx? (·.1) = some i := by rfl) : DG X (.Tuple es k pos) (gdStar i t) := PG.imp (pg_star hc h hn hst) fun v σ H Q ⟨ρ, M, d, Q0, dv, sm, r, q, f⟩ => by
  cases d with
  | tup ds =>
    cases r with
    | tup g rs =>
      rename_i a vs x
      obtain ⟨h1, h2, q⟩ := q
      refine ⟨_, _, rfl, g, by rw [rs.length]; exact h1, by rw [rs.length]; exact h2, fun p hp => ?_⟩
      have t : Tr H M (upd H p (.lst (vs.drop i))) (mupd M p (.lst (ds.drop i))) := Tr.newM hp
      exact ⟨ρ, _, _, Q0, dv.mono t, sm.newM (mo := .lst (ds.drop i)) hp ⟨_, upd_same, (rs.drop i).mono t⟩, repsSnoc (.ref p) ((rs.take i).mono t), q p (sm.free hp), f.mono t⟩
  | _ => exact q.elim
theorem gs_star {e : Expr} {es : List Expr} {p : Pos} {t : TDG} {u : TDGs} (h1 : DG X e t) (h2 : DGs X es u) : DGs X (.Starred e p :: es) (gdCons t u) := PGs.imp (pgs_starred h1 h2) fun vs σ H Q ⟨ρ, M, ds, Q0, dv, sm, r, q, f⟩ => by
  cases ds with
  | nil => exact q.elim
  | cons d ds =>
    cases r with
    | @cons v _ vs _ r rs =>
      refine ⟨v, vs, rfl, ρ, M, d, _, dv, sm, r, q, fun ρ1 M1 q1 σ1 H1 dv1 s1 t1 => ?_⟩
      exact ⟨ρ1, M1, ds, Q0, dv1, s1, rs.mono t1, q1, f.mono t1⟩
/-! ### match e: case "a": .. case _: .. -/
abbrev TM := V → TS
structure PMs (X : Cx) (cs : List MatchCase) (t : TM) : Prop where
  run : ∀ (pins : List (Addr × Obj)) (s : Shared) (σ : L2.St) (H : Hp) (D : Ends) (v : V) (u : Value) (b : Bool), L2.Inv X pins σ H s → RelV v u → t v D σ H → wpAny (model X.prog X.w) X.A (matchCases cs X.env u b) (SP X pins D) X.xe s
def tMat (te : TE) (t : TM) : TS := fun D σ H => te σ H fun x H1 => t x D σ H1
theorem ps_match {e : Expr} {cs : List MatchCase} {te : TE} {t : TM} (he : PE X e te) (h : PMs X cs t) : PS X (.Match e cs pos) (tMat te t) :=
  ⟨fun pins s σ H D I q => wpAny_Match (thn (he.run pins s σ H _ I q) fun v s1 ⟨x, H1, I1, r1, q1⟩ => h.run pins s1 σ H1 D x v true I1 r1 q1)⟩
theorem pms_any {p : Pos} {body : List Stmt} {rest : List MatchCase} {t : TS} (h : PSs X body t) : PMs X (⟨.MatchAs none none p, none, body⟩ :: rest) fun _ => t := ⟨fun pins s σ H D v u b I r q => by
  refine wpAny_matchCases_cons (wpAny_matchPattern_Capture ?_)
  exact assignInOrder_nil (h.run pins s σ H D I q)⟩
theorem pms_nil : PMs X [] fun _ D σ H => D.nx σ H := ⟨fun pins s σ H D v u b I r h => wpAny_matchCases_nil ⟨σ, H, I, h⟩⟩
def tCase (r : R2) (tc : TE) (tb : TS) (tr : TM) : TM := fun v D σ H => tc σ H fun y H1 => r v y H1 fun z H2 => ∃ k, z = .bl k ∧ if k = true then tb D σ H2 else tr v D σ H2
theorem pms_val {c : Expr} {p : Pos} {body : List Stmt} {rest : List MatchCase} {r : R2} {tc : TE} {tb : TS} {tr : TM} (hc : PE X c tc) (ho : OpR X (compareOp .Eq) r) (hb : PSs X body tb) (hr : PMs X rest tr) :
    PMs X (⟨.MatchValue c p, none, body⟩ :: rest) (tCase r tc tb tr) := ⟨fun pins s σ H D v u b I rv q => by
  refine wpAny_matchCases_cons (wpAny_matchPattern_Value (thn (hc.run pins s σ H _ I q) fun w s1 ⟨y, H1, I1, r1, q1⟩ => ?_))
  refine thn (ho pins s1 σ H1 v y u w _ I1 rv r1 q1) fun z s2 ⟨x, H2, I2, r2, k, e, q2⟩ => ?_
  subst e
  cases r2
  refine wpAny_truthy_bool ?_
  cases k with
  | true => exact assignInOrder_nil (hb.run pins s2 σ H2 D I2 q2)
  | false => exact hr.run pins s2 σ H2 D v u false I2 rv q2⟩
abbrev TDM := D → TDS
def upM (K : PySem.W.Frag) (W : WX) (td : TDM) : TM := fun v D σ H => ∃ ρ M D0 d, DvL K H σ ρ ∧ Sim K H M ∧ Rep K H v d ∧ td d D0 ρ M ∧ EUp K W H M D0 D
def DMs (X : Cx) (W : WX) (cs : List MatchCase) (td : TDM) : Prop := PMs X cs (upM X.K W td)
theorem PMs.imp {cs : List MatchCase} {t t' : TM} (h : PMs X cs t) (k : ∀ v D σ H, t' v D σ H → t v D σ H) : PMs X cs t' := ⟨fun pins s σ H D v u b I r q => h.run pins s σ H D v u b I r (k v D σ H q)⟩
def tdMat (te : TDE) (t : TDM) : TDS := fun D ρ M => te ρ M (fun d M1 => t d D ρ M1) (D.at ρ)
def tdCase (rd : RD2) (tc : TDE) (tb : TDS) (tr : TDM) : TDM := fun d D ρ M => tc ρ M (fun c M1 => rd d c M1 fun x M2 => match x with | .bl b => cnd b (tb D ρ M2) (tr d D ρ M2) | _ => False) (D.at ρ)
def tdDflt (tb : TDS) : TDM := fun _ => tb
def tdFall : TDM := fun _ D ρ M => D.nx ρ M
theorem s_match {e : Expr} {cs : List MatchCase} {te : TDE} {t : TDM} (he : DE X W e te) (h : DMs X W cs t) : DS X W (.Match e cs pos) (tdMat te t) := PS.imp (ps_match he h) fun D σ H ⟨ρ, M, D0, dv, sm, q, eu⟩ =>
  ⟨ρ, M, _, _, dv, sm, q, fun d M1 q1 v H1 r1 s1 t1 => ⟨ρ, M1, D0, d, dv.mono t1, s1, r1, q1, eu.mono t1⟩, eu.w dv⟩
theorem m_any {p : Pos} {body : List Stmt} {rest : List MatchCase} {t : TDS} (h : DSs X W body t) : DMs X W (⟨.MatchAs none none p, none, body⟩ :: rest) (tdDflt t) := PMs.imp (pms_any h) fun v D σ H ⟨ρ, M, D0, d, dv, sm, r, q, eu⟩ => ⟨ρ, M, D0, dv, sm, q, eu⟩
theorem m_nil : DMs X W [] tdFall := PMs.imp pms_nil fun v D σ H ⟨ρ, M, D0, d, dv, sm, r, q, eu⟩ => eu.nx _ _ q _ _ dv sm (Tr.refl H M)
theorem m_val {c : Expr} {p : Pos} {body : List Stmt} {rest : List MatchCase} {rd : RD2} {tc : TDE} {tb : TDS} {tr : TDM} (ho : CmpD X .Eq rd) (hc : DE X W c tc) (hb : DSs X W body tb) (hr : DMs X W rest tr) :
    DMs X W (⟨.MatchValue c p, none, body⟩ :: rest) (tdCase rd tc tb tr) := by
  obtain ⟨r, h1, h2⟩ := ho.ex
  refine PMs.imp (pms_val hc h1 hb hr) fun v D σ H ⟨ρ, M, D0, d, dv, sm, rv, q, eu⟩ => ?_
  refine ⟨ρ, M, _, _, dv, sm, q, fun c M1 q1 y H1 r1 s1 t1 => ?_, eu.w dv⟩
  refine h2 _ _ _ _ _ _ _ _ (rv.mono t1) r1 s1 q1 fun x M2 q2 z H2 r2 s2 t2 => ?_
  cases x with
  | bl b =>
    cases r2
    have t12 := t1.trans t2
    dsimp only at q2
    refine ⟨b, rfl, ?_⟩
    cases b with
    | true => rw [cnd_true] at q2; rw [if_pos rfl]; exact ⟨ρ, M2, D0, dv.mono t12, s2, q2, eu.mono t12⟩
    | false => rw [cnd_false] at q2; rw [if_neg Bool.false_ne_true]; exact ⟨ρ, M2, D0, d, dv.mono t12, s2, rv.mono t12, q2, eu.mono t12⟩
  | _ => exact q2.elim
end
end TD

namespace TD
open PySem PySem.Spec PySem.W PyProof.Rows L2
/-! ### [e for x in a for y in b]: the list that grows is in the memory -/
@[irreducible] def Lc2I (ds : List D) (Gd : Mem → Prop) (g : TDG) (wi1 : TDI) (g1 : TDG) (te : TDE) (vs1 : List Nat) (ρ : DSt) (M : Mem) (Q : D → Mem → Prop) : Prop := ∀ p, M p = none → ∃ I : Nat → Mem → Prop, I 0 (mupd M p (.lst [])) ∧ (∀ i M, i ≤ ds.length → I i M → Gd M) ∧
  (∀ i d M, ds[i]? = some d → I i M → g d ρ M fun ρ2 M2 => wi1 ρ2 M2 (fun ds1 Gd1 M3 => ∃ I1 : Nat → Mem → Prop, I1 0 M3 ∧ (∀ j M, j ≤ ds1.length → I1 j M → Gd1 M) ∧
    (∀ j d1 M, ds1[j]? = some d1 → I1 j M → g1 d1 (dwipe ρ2 vs1) M fun ρ3 M4 => te ρ3 M4 (fun y M5 => ∃ acc, M5 p = some (.lst acc) ∧ acc.length < sizeLine ∧ I1 (j + 1) (mupd M5 p (.lst (acc ++ [y])))) fun _ _ _ => False) ∧
    ∀ M, I1 ds1.length M → I (i + 1) M) fun _ _ _ => False) ∧ ∀ M, I ds.length M → Q (.ref p) M
def tdLc2 (wi : TDI) (g : TDG) (wi1 : TDI) (g1 : TDG) (te : TDE) (vs vs1 : List Nat) : TDE := fun ρ M Q E => wi ρ M (fun ds Gd M1 => Lc2I ds Gd g wi1 g1 te vs1 (dwipe ρ vs) M1 Q) E
theorem lc2_by {ds : List D} {Gd : Mem → Prop} {g : TDG} {wi1 : TDI} {g1 : TDG} {te : TDE} {vs1 : List Nat} {ρ : DSt} {M : Mem} {Q : D → Mem → Prop} (h : ∀ p, M p = none → ∃ I : Nat → Mem → Prop, I 0 (mupd M p (.lst [])) ∧ (∀ i M, i ≤ ds.length → I i M → Gd M) ∧
    (∀ i d M, ds[i]? = some d → I i M → g d ρ M fun ρ2 M2 => wi1 ρ2 M2 (fun ds1 Gd1 M3 => ∃ I1 : Nat → Mem → Prop, I1 0 M3 ∧ (∀ j M, j ≤ ds1.length → I1 j M → Gd1 M) ∧
      (∀ j d1 M, ds1[j]? = some d1 → I1 j M → g1 d1 (dwipe ρ2 vs1) M fun ρ3 M4 => te ρ3 M4 (fun y M5 => ∃ acc, M5 p = some (.lst acc) ∧ acc.length < sizeLine ∧ I1 (j + 1) (mupd M5 p (.lst (acc ++ [y])))) fun _ _ _ => False) ∧
      ∀ M, I1 ds1.length M → I (i + 1) M) fun _ _ _ => False) ∧ ∀ M, I ds.length M → Q (.ref p) M) : Lc2I ds Gd g wi1 g1 te vs1 ρ M Q := by unfold Lc2I; exact h
section
variable {X : Cx} {W : WX} {pos : Pos} {wi wi1 : TDI} {g g1 : TDG} {te : TDE} {vs vs1 : List Nat}
theorem up_lc2 {K : PySem.W.Frag} {σ : L2.St} {H : Hp} {Q : VK} (h : upE K W (tdLc2 wi g wi1 g1 te vs vs1) σ H Q) : tLc2 (upI K W wi) (upGw K vs g) L2.tYes (upI K W0 wi1) (upGw K vs1 g1) L2.tYes (upE K W0 te) vs vs1 σ H Q := by
  obtain ⟨ρ, M, Q0, E0, dv, sm, q, hq, he⟩ := h
  refine ⟨ρ, M, _, E0, dv, sm, q, fun ds Gd M1 q1 J S H1 dw st s1 t1 D hD => ?_, he⟩
  unfold Lc2I at q1
  obtain ⟨I, h0, hG, hs, hd⟩ := q1 D (s1.free hD)
  have t1' : Tr H1 M1 (upd H1 D (.lst [])) (mupd M1 D (.lst [])) := Tr.newM hD
  have st0 := dw.stay _ _ _ _ st t1'
  have s0 : Sim K (upd H1 D (.lst [])) (mupd M1 D (.lst [])) := s1.newM (mo := .lst []) hD ⟨[], upd_same, .nil⟩
  generalize mupd M1 D (.lst []) = M2 at *
  generalize upd H1 D (.lst []) = H2 at *
  have t12 := t1.trans t1'
  let P : Nat → Hp → Prop := fun i H' => ∃ M', Sim K H' M' ∧ Tr H2 M2 H' M' ∧ I i M'
  refine ⟨fun i m H' => m = ds.length - i ∧ i ≤ ds.length ∧ P i H', ⟨ds.length, by simp, Nat.zero_le _, M2, s0, Tr.refl H2 M2, h0⟩, ?_⟩
  rintro i m H3 ⟨rfl, hi, M3, s3, t3, i3⟩
  have st3 := dw.stay _ _ _ _ st0 t3
  have gd := hG i M3 hi i3
  by_cases hlt : i < ds.length
  · refine .inr ⟨dw.goes i H3 M3 hlt st3 s3 gd, P (i + 1), fun H' p' => ⟨ds.length - (i + 1), by omega, rfl, hlt, p'⟩, fun x H4 y => ?_⟩
    obtain ⟨d, ed, rd, s4, t4⟩ := dw.yields i H3 M3 x H4 hlt st3 s3 gd y
    refine ⟨dwipe ρ vs, M3, d, _, ((dv.mono t12).mono (t3.trans t4)).wipe vs, s4, rd, hs i d M3 ed i3, fun ρ5 M5 q5 σ5 H5 w5 dv5 s5 t5 => ⟨w5.trans (wipe_wipe σ vs), ?_⟩⟩
    dsimp only [L2.tYes]
    rw [if_pos rfl]
    refine ⟨ρ5, M5, _, _, dv5, s5, q5, fun ds1 Gd1 M6 q6 J1 S1 H6 dw1 st6 s6 t6 => ?_, w0_up⟩
    obtain ⟨I1, h10, h1G, h1s, h1d⟩ := q6
    have t26 := ((t3.trans t4).trans t5).trans t6
    let P1 : Nat → Hp → Prop := fun j H' => ∃ M', Sim K H' M' ∧ Tr H6 M6 H' M' ∧ I1 j M'
    refine ⟨fun j k H' => k = ds1.length - j ∧ j ≤ ds1.length ∧ P1 j H', ⟨ds1.length, by simp, Nat.zero_le _, M6, s6, Tr.refl H6 M6, h10⟩, ?_⟩
    rintro j k H7 ⟨rfl, hj, M7, s7, t7, i7⟩
    have st7 := dw1.stay _ _ _ _ st6 t7
    have gd7 := h1G j M7 hj i7
    by_cases hlt1 : j < ds1.length
    · refine .inr ⟨dw1.goes j H7 M7 hlt1 st7 s7 gd7, P1 (j + 1), fun H' p' => ⟨ds1.length - (j + 1), by omega, rfl, hlt1, p'⟩, fun x1 H8 y1 => ?_⟩
      obtain ⟨d1, ed1, rd1, s8, t8⟩ := dw1.yields j H7 M7 x1 H8 hlt1 st7 s7 gd7 y1
      refine ⟨dwipe ρ5 vs1, M7, d1, _, ((dv5.mono t6).mono (t7.trans t8)).wipe vs1, s8, rd1, h1s j d1 M7 ed1 i7, fun ρ9 M9 q9 σ9 H9 w9 dv9 s9 t9 => ⟨w9.trans (wipe_wipe σ5 vs1), ?_⟩⟩
      rw [if_pos rfl]
      refine ⟨ρ9, M9, _, _, dv9, s9, q9, fun dy M10 q10 vy H10 r10 s10 t10 => ?_, w0_up⟩
      obtain ⟨acc, e1, e2, e3⟩ := q10
      obtain ⟨ws, g10, rs⟩ := s10.lst e1
      have tw : Tr H10 M10 (upd H10 D (.lst (ws ++ [vy]))) (mupd M10 D (.lst (acc ++ [dy]))) := Tr.wr e1 g10 rfl
      refine ⟨ws, g10, by rw [rs.length]; exact e2, mupd M10 D (.lst (acc ++ [dy])), Sim.wr e1 g10 rfl s10 ⟨_, upd_same, (repsSnoc r10 rs).mono tw⟩, ((((t7.trans t8).trans t9).trans t10).trans tw), e3⟩
    · have e : j = ds1.length := by omega
      subst e
      exact .inl ⟨dw1.stops H7 M7 st7 s7 gd7, M7, s7, t26.trans t7, h1d M7 i7⟩
  · have e : i = ds.length := by omega
    subst e
    exact .inl ⟨dw.stops H3 M3 st3 s3 gd, hq _ _ (hd M3 i3) _ H3 (.ref D) s3 (t12.trans t3)⟩
theorem d_lc2 {elt tg iter tg1 iter1 : Expr} {scope : Scope} {own own1 : List (Str × Nat)} (hc : X.calm = true) (hN : X.N.Nodup) (hi : DI X W tg iter wi) (ok : BlkOk X.N X.env.scope scope own) (hv : ∀ i ∈ own1.map (·.2), i ∈ own.map (·.2))
    (hg : ∀ (s : Shared) (H : Hp) (C : Addr) (cl : List (Str × Addr)) (fp : List Addr), CG (X.blk s H scope (compEnvC scope cl C X.env) fp) (own.map (·.2)) tg g)
    (hi1 : ∀ (s : Shared) (H : Hp) (C : Addr) (cl : List (Str × Addr)) (fp : List Addr), DI (X.blk s H scope (compEnvC scope cl C X.env) fp) W0 tg1 iter1 wi1)
    (hg1 : ∀ (s : Shared) (H : Hp) (C : Addr) (cl : List (Str × Addr)) (fp : List Addr), CG (X.blk s H scope (compEnvC scope cl C X.env) fp) (own1.map (·.2)) tg1 g1)
    (he : ∀ (s : Shared) (H : Hp) (C : Addr) (cl : List (Str × Addr)) (fp : List Addr), DE (X.blk s H scope (compEnvC scope cl C X.env) fp) W0 elt te) (hs : ∀ x, foldedSetIterable iter X.env x = pure x := by intro _; rfl) (hs1 : ∀ env x, foldedSetIterable iter1 env x = pure x := by intro _ _; rfl) :
    DE X W (.ListComp elt [⟨tg, iter, [], 0⟩, ⟨tg1, iter1, [], 0⟩] scope pos) (tdLc2 wi g wi1 g1 te (own.map (·.2)) (own1.map (·.2))) :=
  PE.imp (pe_lc2 (wi := upI X.K W wi) (g := upGw X.K (List.map (fun p : Str × Nat => p.2) own) g) (wi1 := upI X.K W0 wi1) (g1 := upGw X.K (List.map (fun p : Str × Nat => p.2) own1) g1) (te := upE X.K W0 te) hc hN hi ok hv hg (fun _ _ _ _ _ => pts_nil) hi1 hg1 (fun _ _ _ _ _ => pts_nil) he hs hs1) fun _ _ _ h => up_lc2 h
end
end TD

namespace TD
open PySem PySem.Spec PySem.W PyProof.Rows L2
/-! ### D.get(key, e) of a dict that stands in the module: texts to numbers -/
def kdEnt (w : World) (r : Str × Tok × Int × Tok) : DictEntry := { hash := PyData.keyHash w.params r.1, key := .str r.1 r.2.1, val := .int r.2.2.1 r.2.2.2 }
structure DkAt (K : PySem.W.Frag) (mg : Str → Option Value) (w : World) (x : Str) (kvs : List (Str × Int)) : Prop where
  ex : ∃ D ep, ∃ rs : List (Str × Tok × Int × Tok), mg x = some (.ref D) ∧ K.lookup D = some ⟨.type "dict", none, .dict (rs.map (kdEnt w)).toArray ep, #[]⟩ ∧ (D == sysModules) = false ∧ rs.map (fun r => (r.1, r.2.2.1)) = kvs ∧ (kvs.map (·.1)).Nodup
def kdVs (rs : List (Str × Tok × Int × Tok)) : List (Key × Value) := rs.map fun r => (Sum.inr r.1, Value.int r.2.2.1 r.2.2.2)
theorem kd_pairs {prog : Program} {w : World} : ∀ rs : List (Str × Tok × Int × Tok), Pairs (mixKind prog w) (rs.map (kdEnt w)) (kdVs rs)
  | [] => .nil
  | r :: rs => Pairs.cons (e := kdEnt w r) (kv := (Sum.inr r.1, Value.int r.2.2.1 r.2.2.2)) (mixKind_str prog w r.1 r.2.1) rfl (kd_pairs rs)
theorem kd_val : ∀ (rs : List (Str × Tok × Int × Tok)) (k : Str), (∃ i t, valueAt (kdVs rs) (Sum.inr k : Key) = some (.int i t) ∧ (rs.map fun r => (r.1, r.2.2.1)).lookup k = some i) ∨ (valueAt (kdVs rs) (Sum.inr k : Key) = none ∧ (rs.map fun r => (r.1, r.2.2.1)).lookup k = none)
  | [], k => .inr ⟨rfl, rfl⟩
  | r :: rs, k => by
    have ih := kd_val rs k
    unfold valueAt kdVs at ih ⊢
    by_cases e : r.1 = k
    · refine .inl ⟨r.2.2.1, r.2.2.2, ?_, ?_⟩
      · rw [List.map_cons, List.find?_cons_of_pos (by simp [e])]
        rfl
      · rw [List.map_cons, List.lookup_cons, show (k == r.1) = true by simp [e]]
    · rw [List.map_cons, List.find?_cons_of_neg (by simp [e]), List.map_cons, List.lookup_cons, show (k == r.1) = false by simp [Ne.symm e]]
      exact ih
theorem kd_dict {prog : Program} {w : World} {h : Heap} {D : Addr} {ep : Nat} {rs : List (Str × Tok × Int × Tok)} (e : h.get? D = some ⟨.type "dict", none, .dict (rs.map (kdEnt w)).toArray ep, #[]⟩) (hn : ((rs.map fun r => (r.1, r.2.2.1)).map (·.1)).Nodup) : h.DictOf (mixKind prog w) D (kdVs rs) := by
  refine ⟨_, _, ep, e, ⟨rfl, rfl, rfl⟩, rfl, fun x hx => ?_, ?_, ?_⟩
  · obtain ⟨r, _, rfl⟩ := List.mem_map.mp (by simpa using hx : x ∈ rs.map (kdEnt w))
    exact ⟨Sum.inr r.1, mixKind_str prog w r.1 r.2.1, rfl⟩
  · exact kd_pairs rs
  · unfold kdVs
    rw [List.map_map] at hn ⊢
    have : ((fun x => x.1) ∘ fun r : Str × Tok × Int × Tok => ((Sum.inr r.1 : Key), Value.int r.2.2.1 r.2.2.2)) = Sum.inr ∘ ((fun x : Str × Int => x.1) ∘ fun r : Str × Tok × Int × Tok => (r.1, r.2.2.1)) := rfl
    rw [this, ← List.map_map]
    exact List.Pairwise.map _ (fun a b hab h => hab (Sum.inr.inj h)) hn
section
variable {X : Cx} {W : WX} {pos : Pos} {e f : Expr} {ty tx : TDE}
def tKGet (kvs : List (Str × Int)) (ty tx : TE) : TE := fun σ H Q => ty σ H fun y H1 => tx σ H1 fun z H2 => ∃ k, y = .str k ∧ Q (match kvs.lookup k with | some i => .int i | none => z) H2
theorem pe_kget {x : Str} {px apos cpos : Pos} {kvs : List (Str × Int)} {ty tx : TE} (d : DkAt X.K X.mg X.w x kvs) (hg : Gl X x) (hd : (x == ("__debug__" : Str)) = false) (he : PE X e ty) (hf : PE X f tx) (m : M2 X (.Name x px) "get" apos e f cpos) : PE X (.Call (.Attribute (.Name x px) "get" apos) [e, f] [] cpos) (tKGet kvs ty tx) := by
  obtain ⟨D, ep, rs, hm, hk, hs, hkv, hn⟩ := d.ex
  subst hkv
  refine ⟨fun pins s σ H Q I h => ?_⟩
  refine wpAny_Call_method m.base m.few m.line PySem.F.plainAttrs_dict PySem.F.slot_dict_get PySem.F.type_dict_get ?_
  refine ld_glob I hg hm ?_ hd
  have at_ : ∀ {s' : Shared} {H' : Hp}, L2.Inv X pins σ H' s' → s'.heap.DictOf (mixKind X.prog X.w) D (kdVs rs) := fun J => kd_dict (J.kIn D _ hk) hn
  refine ⟨(at_ I).typeIs, fun b q => ?_, ?_⟩
  · cases q
    exact ⟨_, I.kIn D _ hk, rfl⟩
  rw [m.trees]
  refine Calls.callWith_builtin rfl (Calls.evalArgs_plain (Calls.spliced_cons (thn (he.run pins s σ H _ I h) fun iv s2 ⟨y, H2, I2, ry, q2⟩ =>
    Calls.spliced_cons (thn (hf.run pins s2 σ H2 _ I2 q2) fun fv s3 ⟨z, H3, I3, rz, k, ek, q3⟩ => Calls.spliced_nil ?_))))
  subst ek
  have dd := at_ I3
  refine call_meetsIn PySem.F.slot_dict_get dd.typeIs PySem.F.entry_dict_get (PySem.F.args_dict_get_3 _ _ _) (meets_dict_get_default (mixKind X.prog X.w) D (kV_is (k := Sum.inr k) ry) hs fv) ⟨_, dd.mapOf, ?_⟩
  refine ⟨_, H3, I3.tok _, ?_, q3⟩
  rcases kd_val rs k with ⟨i, t, h1, h2⟩ | ⟨h1, h2⟩
  · rw [h1, h2]
    exact ⟨t, rfl⟩
  · rw [h1, h2]
    exact rz
def tdKGet (kvs : List (Str × Int)) (ty tx : TDE) : TDE := fun ρ M Q E => ty ρ M (fun y M1 => tx ρ M1 (fun z M2 => match y with | .str k => Q (match kvs.lookup k with | some i => .int i | none => z) M2 | _ => False) E) E
theorem d_kget {x : Str} {px apos cpos : Pos} {kvs : List (Str × Int)} (d : DkAt X.K X.mg X.w x kvs) (he : DE X W e ty) (hf : DE X W f tx) (hg : Gl X x := by rfl) (hd : (x == ("__debug__" : Str)) = false := by decide) (m : M2 X (.Name x px) "get" apos e f cpos := by exact ⟨rfl, rfl, rfl, rfl⟩) :
    DE X W (.Call (.Attribute (.Name x px) "get" apos) [e, f] [] cpos) (tdKGet kvs ty tx) := PE.imp (pe_kget d hg hd he hf m) fun σ H Q ⟨ρ, M, Q0, E0, dv, sm, q, hq, hE⟩ => by
  refine ⟨ρ, M, _, E0, dv, sm, q, fun y M1 q1 v H1 r1 s1 t1 => ?_, hE⟩
  refine ⟨ρ, M1, _, E0, dv.mono t1, s1, q1, fun z M2 q2 u H2 r2 s2 t2 => ?_, hE.mono t1⟩
  cases y with
  | str k =>
    cases r1
    refine ⟨k, rfl, ?_⟩
    dsimp only at q2
    cases h : kvs.lookup k with
    | some i => rw [h] at q2; exact hq _ _ q2 _ _ (.int i) s2 (t1.trans t2)
    | none => rw [h] at q2; exact hq _ _ q2 _ _ r2 s2 (t1.trans t2)
  | _ => exact q2.elim
end
end TD

namespace TD
open PySem PySem.Spec PySem.W PyProof.Rows L2
/-! ### t[i::k] of a tuple -/
def stepN (n i k : Nat) : Nat := if i < n then (n - i - 1) / k + 1 else 0
def stepV {α : Type} (xs : List α) (i k : Nat) : List α := (List.range (stepN xs.length i k)).filterMap fun m => xs[i + m * k]?
theorem stepN_le (n i k : Nat) : stepN n i k ≤ n := by
  unfold stepN
  split
  · have := Nat.div_le_self (n - i - 1) k
    omega
  · omega
theorem stepV_length {α : Type} (xs : List α) (i k : Nat) : (stepV xs i k).length ≤ xs.length := by
  unfold stepV
  refine Nat.le_trans (List.length_filterMap_le _ _) ?_
  rw [List.length_range]
  exact stepN_le _ _ _
section
variable {prog : Program} {w : World} {A : Around} {E : Value → Shared → Prop} {s : Shared}
theorem sliceApplied_step {sl : Addr} {vl vk : Value} {n i k : Nat} {Q : Int × Int × Nat → Shared → Prop} (hs : s.heap.IsSliceOf sl vl .none vk) (pl : IsPart vl (some (i : Int))) (pk : IsPart vk (some (k : Int))) (hi : i ≤ n) (hk : 0 < k)
    (h : Q ((i : Int), (k : Int), stepN n i k) s) : wpAny (model prog w) A (Builtin.Slice.sliceApplied (.ref sl) (pure (n : Int))) Q E s := by
  obtain ⟨os, hos, hcs, hds⟩ := id hs
  unfold Builtin.Slice.sliceApplied Builtin.Slice.sliceFields
  refine wpAny_bind (wpAny_bind (wpAny_field hos hds (x := vl) rfl (wpAny_bind (wpAny_field hos hds (x := .none) rfl (wpAny_bind (wpAny_field hos hds (x := vk) rfl (wpAny_pure ?_)))))))
  refine wpAny_bind (HT.slicePart_ pk ?_)
  show wpAny _ _ (if (((k : Nat) : Int) == 0) = true then _ else _) _ _ s
  rw [if_neg (by simp; omega)]
  refine wpAny_bind (HT.slicePart_ pl (wpAny_bind (slicePart_none (wpAny_bind (wpAny_pure ?_)))))
  have e : Builtin.Slice.sliceAdjust (some (i : Int)) none (k : Int) (n : Int) = ((i : Int), (n : Int)) := by
    have h1 : ¬ ((k : Int) < 0) := by omega
    unfold Builtin.Slice.sliceAdjust
    simp only [h1, if_false]
    refine Prod.ext ?_ rfl
    show (if (i : Int) < 0 then max ((i : Int) + (n : Int)) 0 else min (i : Int) (n : Int)) = (i : Int)
    rw [if_neg (by omega)]
    omega
  show wpAny _ _ (match Builtin.Slice.sliceAdjust (some (i : Int)) none (k : Int) (n : Int) with | (lo, hi) => pure (lo, (k : Int), Builtin.Slice.slicePlaces lo hi k)) _ _ s
  rw [e]
  have e2 : Builtin.Slice.slicePlaces (i : Int) (n : Int) (k : Int) = stepN n i k := by
    unfold Builtin.Slice.slicePlaces stepN
    rw [if_pos (show (k : Int) > 0 by omega)]
    by_cases z : i < n
    · rw [if_pos (by omega), if_pos z]
      have : ((n : Int) - i - 1) = ((n - i - 1 : Nat) : Int) := by omega
      rw [this]
      exact Int.toNat_natCast _
    · rw [if_neg (by omega), if_neg z]
      rfl
  show wpAny _ _ (pure ((i : Int), (k : Int), Builtin.Slice.slicePlaces (i : Int) (n : Int) (k : Int))) _ _ s
  rw [e2]
  exact wpAny_pure h
theorem pick_step (xs : List Value) (i k : Nat) : ((List.range (stepN xs.length i k)).filterMap fun (m : Nat) => xs.toArray[((i : Int) + (m : Int) * (k : Int)).toNat]?) = stepV xs i k := by
  unfold stepV
  congr 1
  funext m
  have : ((i : Int) + (m : Int) * (k : Int)).toNat = i + m * k := by
    have : (i : Int) + (m : Int) * (k : Int) = ((i + m * k : Nat) : Int) := by simp
    rw [this]
    exact Int.toNat_natCast _
  rw [this, List.getElem?_toArray]
theorem getItem_tuple_step {t sl : Addr} {items : List Value} {vl vk : Value} {i k : Nat} {Q : Value → Shared → Prop} (ht : IsTup s.heap t items.toArray) (hs : s.heap.IsSliceOf sl vl .none vk) (pl : IsPart vl (some (i : Int))) (pk : IsPart vk (some (k : Int)))
    (hi : i ≤ items.length) (hk : 2 ≤ k) (h : Q (.ref s.heap.objs.size) { s with heap := s.heap.push { cls := .type "tuple", data := .seq (stepV items i k).toArray } })
    (hsz : items.length ≤ sizeLine) : wpAny (model prog w) A (getItem (.ref t) (.ref sl)) Q E s := by
  have hok : sizeOk (.seq (stepV items i k).toArray) := by
    show (stepV items i k).toArray.size ≤ sizeLine
    rw [List.size_toArray]
    exact Nat.le_trans (stepV_length _ _ _) hsz
  obtain ⟨os, hos, hcs, hds⟩ := id hs
  have hTs : s.TypeIs (.ref sl) "slice" := ⟨os, hos, hcs⟩
  unfold getItem
  try with_reducible refine wpAny_holding ?_
  first | refine wpAny_bind (wpAny_pure ?_) | skip
  refine wpAny_bind (wpAny_sequenceKey ht.typeIs (by decide) ?_)
  refine wpAny_bind (wpAny_callSpecial?_slot (name := Str.ofString "__getitem__") ht.typeIs PyProof.Rows.slot_tuple_getitem
    (wpAny_call_entry PyProof.Rows.slot_tuple_getitem ht.typeIs PyProof.Rows.entry_tuple_getitem ?_ (PyProof.Rows.args_tuple_getitem _ _)))
  show wpAny _ _ (Builtin.Tuple.tupleItemsOf (.ref t) >>= _) _ _ s
  refine wpAny_bind (PyProof.Rows.tupleItemsOf_ ht ?_)
  refine wpAny_bind (wpAny_typeOf hTs ?_)
  rw [if_pos (by decide)]
  have e0 : ((items.toArray.size : Nat) : Int) = (items.length : Int) := by rw [List.size_toArray]
  refine wpAny_bind (sliceApplied_step (n := items.toArray.size) hs pl pk (by rw [List.size_toArray]; exact hi) (by omega) ?_)
  have hno : ¬ (((i : Int) == 0 && (k : Int) == 1 && stepN items.toArray.size i k == items.toArray.size) = true) := by
    intro q
    rw [Bool.and_eq_true, Bool.and_eq_true] at q
    have q1 : (k : Int) = 1 := eq_of_beq q.1.2
    omega
  show wpAny _ _ (if ((i : Int) == 0 && (k : Int) == 1 && stepN items.toArray.size i k == items.toArray.size) = true then _ else _) _ _ s
  rw [if_neg hno, List.size_toArray, pick_step]
  first
    | exact wpAny_bind (m := Builtin.Tuple.tupleExact _) (wpAny_newObj_type (wpAny_pure ⟨_, rfl, wpAny_pure h⟩) hok)
    | exact wpAny_bind (m := Builtin.Tuple.tupleExact _) (wpAny_newObj_type (wpAny_bind (wpAny_pure (wpAny_pure ⟨_, rfl, wpAny_pure h⟩))) hok)
    | exact wpAny_bind (wpAny_bind (m := Builtin.Tuple.tupleExact _) (wpAny_newObj_type (wpAny_pure (wpAny_pure ⟨_, rfl, wpAny_pure h⟩)) hok))
    | exact wpAny_bind (wpAny_bind (m := Builtin.Tuple.tupleExact _) (wpAny_newObj_type (wpAny_pure ⟨_, rfl, wpAny_pure h⟩) hok))
end
section
variable {X : Cx} {W : WX} {pos p2 : Pos} {e lo st : Expr}
def tStep (K : PySem.W.Frag) (te : TE) (tl tk : TO) : TE := fun σ H Q => te σ H fun x H1 => tl σ H1 fun l H2 => tk σ H2 fun k H3 => ∃ (a : Addr) (xs : List V) (i j : Nat), x = .ref a ∧ l = some (i : Int) ∧ k = some (j : Int) ∧ SqT K H3 a xs ∧ i ≤ xs.length ∧ 2 ≤ j ∧
  ∀ p, H3 p = none → Q (.ref p) (upd H3 p (.tup (stepV xs i j)))
theorem stepVals {xs : List V} {us : List Value} (r : Vals xs us) (i k : Nat) : Vals (stepV xs i k) (stepV us i k) := by
  unfold stepV
  rw [r.length]
  have h : ∀ l : List Nat, Vals (l.filterMap fun m => xs[i + m * k]?) (l.filterMap fun m => us[i + m * k]?) := by
    intro l
    induction l with
    | nil => exact .nil
    | cons m l ih =>
      cases e : xs[i + m * k]? with
      | none =>
        have e2 : us[i + m * k]? = none := by
          rw [List.getElem?_eq_none_iff] at e ⊢
          rw [← r.length]
          exact e
        rw [List.filterMap_cons, List.filterMap_cons, e, e2]
        exact ih
      | some x =>
        obtain ⟨u, e2, ru⟩ := r.get e
        rw [List.filterMap_cons, List.filterMap_cons, e, e2]
        exact .cons ru ih
  exact h _
theorem pe_step {te : TE} {tl tk : TO} (he : PE X e te) (hl : PO X (some lo) tl) (hk : PO X (some st) tk) : PE X (.Subscript e (.Slice (some lo) none (some st) p2) pos) (tStep X.K te tl tk) := by
  refine ⟨fun pins s σ H Q I h => ?_⟩
  refine Subscript_ (thn (he.run pins s σ H _ I h) fun v s1 ⟨x, H1, I1, r1, q1⟩ => ?_)
  refine wpAny_Slice (thn (hl.run pins s1 σ H1 _ I1 q1) fun vl s2 ⟨l, H2, I2, pl, q2⟩ => ?_)
  rw [evalPart_none]
  refine wpAny_pure (thn (hk.run pins s2 σ H2 _ I2 q2) fun vk s3 ⟨k, H3, I3, pk, q3⟩ => ?_)
  obtain ⟨a, xs, i, j, rfl, rfl, rfl, hx, hi, hj, q⟩ := q3
  cases r1
  have I4 : L2.Inv X pins σ H3 { s3 with heap := s3.heap.push { cls := .type "slice", data := .fields #[vl, .none, vk] } } := I3.kept (t' := s3.toks) fun b ob q => Heap.get?_push_of_some _ q
  obtain ⟨its, r, ht, hz⟩ := I4.tuple hx
  have hlen : its.length = xs.length := r.length.symm
  have hg : wpAny (model X.prog X.w) X.A (getItem (.ref a) (.ref s3.heap.objs.size)) (EP X pins σ Q) X.xe { s3 with heap := s3.heap.push { cls := .type "slice", data := .fields #[vl, .none, vk] } } := by
    refine getItem_tuple_step ht (Heap.IsSliceOf.new ..) pl pk (by omega) hj ?_ (by omega)
    refine ⟨.ref _, _, I4.laid (t' := s3.toks) (o := .tup (stepV xs i j)) (fun b ob q => Heap.get?_push_of_some _ q) (Nat.le_refl _) ?_, rfl, q _ (I4.hok.fresh (Nat.le_refl _))⟩
    exact ⟨Nat.le_trans (stepV_length _ _ _) hz, _, stepVals r i j, IsTup.new _ _⟩
  show wpAny (model X.prog X.w) X.A (subscriptTail e (.Slice (some lo) none (some st) p2) (.ref a) (.ref s3.heap.objs.size)) (EP X pins σ Q) X.xe { s3 with heap := s3.heap.push { cls := .type "slice", data := .fields #[vl, .none, vk] } }
  exact tail_any ht.typeIs PyProof.Rows.slot_tuple_getitem.lookup hg (by with_unfolding_all rfl)
@[irreducible] def rdStep (x : D) (l k : Option Int) (M : Mem) (Q : D → Mem → Prop) : Prop := match x with
  | .tup ds => ∃ i j : Nat, l = some (i : Int) ∧ k = some (j : Int) ∧ i ≤ ds.length ∧ 2 ≤ j ∧ Q (.tup (stepV ds i j)) M
  | _ => False
theorem step_t {ds : List D} {i j : Nat} {M : Mem} {Q : D → Mem → Prop} (hi : i ≤ ds.length) (hj : 2 ≤ j) (h : Q (.tup (stepV ds i j)) M) : rdStep (.tup ds) (some (i : Int)) (some (j : Int)) M Q := by
  unfold rdStep
  exact ⟨i, j, rfl, rfl, hi, hj, h⟩
theorem stepReps {K : PySem.W.Frag} {H : Hp} {xs : List V} {us : List D} (r : Reps K H xs us) (i k : Nat) : Reps K H (stepV xs i k) (stepV us i k) := by
  unfold stepV
  rw [r.length]
  have h : ∀ l : List Nat, Reps K H (l.filterMap fun m => xs[i + m * k]?) (l.filterMap fun m => us[i + m * k]?) := by
    intro l
    induction l with
    | nil => exact .nil
    | cons m l ih =>
      cases e : us[i + m * k]? with
      | none =>
        have e2 : xs[i + m * k]? = none := by
          rw [List.getElem?_eq_none_iff] at e ⊢
          rw [r.length]
          exact e
        rw [List.filterMap_cons, List.filterMap_cons, e, e2]
        exact ih
      | some x =>
        obtain ⟨u, e2, ru⟩ := r.get e
        rw [List.filterMap_cons, List.filterMap_cons, e, e2]
        exact .cons ru ih
  exact h _
def tdStep (te : TDE) (tl tk : TDO) : TDE := fun ρ M Q E => te ρ M (fun x M1 => tl ρ M1 (fun l M2 => tk ρ M2 (fun k M3 => rdStep x l k M3 Q) E) E) E
theorem d_step {te : TDE} {tl tk : TDO} (he : DE X W e te) (hl : DO X W (some lo) tl) (hk : DO X W (some st) tk) : DE X W (.Subscript e (.Slice (some lo) none (some st) p2) pos) (tdStep te tl tk) := PE.imp (pe_step he hl hk) fun σ H Q ⟨ρ, M, Q0, E0, dv, sm, q, hq, hE⟩ => by
  refine ⟨ρ, M, _, E0, dv, sm, q, fun x M1 q1 v H1 r1 s1 t1 => ?_, hE⟩
  refine ⟨ρ, M1, _, E0, dv.mono t1, s1, q1, fun l M2 q2 H2 s2 t2 => ?_, hE.mono t1⟩
  refine ⟨ρ, M2, _, E0, (dv.mono t1).mono t2, s2, q2, fun k M3 q3 H3 s3 t3 => ?_, (hE.mono t1).mono t2⟩
  unfold rdStep at q3
  cases x with
  | tup ds =>
    obtain ⟨i, j, e1, e2, hi, hj, q⟩ := q3
    have r3 := (r1.mono t2).mono t3
    cases r3 with
    | tup g rs =>
      rename_i a vs
      refine ⟨a, vs, i, j, rfl, e1, e2, g, by rw [rs.length]; exact hi, hj, fun p hp => ?_⟩
      have t : Tr H3 M3 (upd H3 p (.tup (stepV vs i j))) M3 := Tr.new hp
      exact hq _ _ q _ _ (.tup (.inl (.inl upd_same)) ((stepReps rs i j).mono t)) (s3.new hp) (((t1.trans t2).trans t3).trans t)
  | _ => exact q3.elim
end
end TD

namespace TD
open PySem PySem.Spec PySem.W PyProof.Rows L2
/-! ### xs[::-1] of a list: a new list -/
section
variable {X : Cx} {W : WX} {pos p2 : Pos} {e st : Expr} {te : TDE} {tk : TDO}
def tRevL (K : PySem.W.Frag) (te : TE) (tk : TO) : TE := fun σ H Q => te σ H fun x H1 => tk σ H1 fun k H2 => ∃ a xs, x = .ref a ∧ k = some (-1) ∧ SqL K H2 a xs ∧ ∀ p, H2 p = none → Q (.ref p) (upd H2 p (.lst xs.reverse))
theorem pe_rev {te : TE} {tk : TO} (he : PE X e te) (hk : PO X (some st) tk) : PE X (.Subscript e (.Slice none none (some st) p2) pos) (tRevL X.K te tk) := by
  refine ⟨fun pins s σ H Q I h => ?_⟩
  refine Subscript_ (thn (he.run pins s σ H _ I h) fun v s1 ⟨x, H1, I1, r1, q1⟩ => ?_)
  refine wpAny_Slice ?_
  rw [evalPart_none]
  refine wpAny_pure ?_
  refine wpAny_pure (thn (hk.run pins s1 σ H1 _ I1 q1) fun vk s3 ⟨k, H3, I3, pk, q3⟩ => ?_)
  obtain ⟨a, xs, rfl, rfl, hx, q⟩ := q3
  cases r1
  have I4 : L2.Inv X pins σ H3 { s3 with heap := s3.heap.push { cls := .type "slice", data := .fields #[.none, .none, vk] } } := I3.kept (t' := s3.toks) fun b ob q => Heap.get?_push_of_some _ q
  obtain ⟨its, r, ht, hz⟩ := I4.list hx
  have hlen : its.length = xs.length := r.length.symm
  have hg : wpAny (model X.prog X.w) X.A (getItem (.ref a) (.ref s3.heap.objs.size)) (EP X pins σ Q) X.xe { s3 with heap := s3.heap.push { cls := .type "slice", data := .fields #[.none, .none, vk] } } := by
    refine wpAny_getItem_list_slice ht.isList (Heap.IsSliceOf.new ..) .none .none pk (by decide) ?_ (by rw [List.size_toArray]; omega)
    rw [PySem.W.krv_pick]
    refine ⟨.ref _, _, I4.laid (t' := s3.toks) (o := .lst xs.reverse) (fun b ob q => Heap.get?_push_of_some _ q) (Nat.le_refl _) ?_, rfl, q _ (I4.hok.fresh (Nat.le_refl _))⟩
    refine ⟨by rw [List.length_reverse]; exact hz, its.reverse, 0, r.reverse, ?_⟩
    exact Heap.get?_push_size _ rfl
  show wpAny (model X.prog X.w) X.A (subscriptTail e (.Slice none none (some st) p2) (.ref a) (.ref s3.heap.objs.size)) (EP X pins σ Q) X.xe { s3 with heap := s3.heap.push { cls := .type "slice", data := .fields #[.none, .none, vk] } }
  exact tail_any ht.isList.typeIs slot_list_getitem.lookup hg (by with_unfolding_all rfl)
def tdRev (te : TDE) (tk : TDO) : TDL := fun ρ M Q E => te ρ M (fun x M1 => tk ρ M1 (fun k M2 => k = some (-1) ∧ rdQof x M2 fun ds M3 => Q ds.reverse M3) E) E
theorem l_rev (he : DE X W e te) (hk : DO X W (some st) tk) : DL X W (.Subscript e (.Slice none none (some st) p2) pos) (tdRev te tk) :=
  PE.imp (pe_rev he hk) fun σ H Q ⟨ρ, M, Q0, E0, dv, sm, q, hq, he⟩ => by
    refine ⟨ρ, M, _, E0, dv, sm, q, fun d M1 q1 v H1 r1 s1 t1 => ?_, he⟩
    refine ⟨ρ, M1, _, E0, dv.mono t1, s1, q1, fun k M2 q2 H2 s2 t2 => ?_, he.mono t1⟩
    have t12 := t1.trans t2
    obtain ⟨rfl, q3⟩ := q2
    unfold rdQof at q3
    split at q3
    · rename_i ds e1
      obtain ⟨a, vs, rfl, g, rs⟩ := lstD_ok s2 (r1.mono t2) e1
      refine ⟨a, vs, rfl, rfl, g, fun p hp => ?_⟩
      have t4 : Tr H2 M2 (upd H2 p (.lst vs.reverse)) M2 := Tr.new hp
      exact hq _ _ q3 p _ _ (t12.fresh hp) upd_same (s2.free hp) (rs.reverse.mono t4) (s2.new hp) (t12.trans t4)
    · exact q3.elim
end
end TD

namespace TD
open PySem PySem.Spec PyProof.Rows L2
open AutoSeq1 (wpAny_loadPart')
/-! ### enumerate over a tuple -/
theorem meets_enumT (l : Addr) (items : Array Value) (n : Nat) (dct : Option Addr) (sl : Array (Option Value)) :
    Meets (Builtin.«enumerate.__new__» ⟨[.type "enumerate", .ref l], []⟩) (fun _ R s => s.heap.get? l = some { cls := .type "tuple", dict := dct, data := .seq items n, slots := sl } ∧
      R (.ok (.ret (.ref (s.heap.push { cls := .type "tuple_iterator", data := .fields #[.ref l, .int 0 0] }).objs.size)))
        { s with heap := (s.heap.push { cls := .type "tuple_iterator", data := .fields #[.ref l, .int 0 0] }).push { cls := .type "enumerate", data := .fields #[.none, .bool false, .ref s.heap.objs.size, rawInt 0, .none, .none] } }) :=
  .of_wp fun prog w A R s h => by
    obtain ⟨hp, g, d, tk, os⟩ := s
    obtain ⟨hl, h⟩ := h
    have hsub := sub_enumerate
    have hL : Heap.IsTuple (Shared.heap ⟨hp, g, d, tk, os⟩) l items := ⟨_, hl, rfl, n, rfl⟩
    wp_walk using wpAny_loadPart' hl
    refine wpAny_stack_any fun st => wpAny_pure ?_
    split
    · rename_i c _ _ _ _ _
      cases (c == Value.type "enumerate")
      · wp_walk using wpAny_loadPart' hl, wpAny_pyIter_tuple hL
        exact ⟨_, rfl, h⟩
      · wp_walk using wpAny_loadPart' hl, wpAny_pyIter_tuple hL
        exact ⟨_, rfl, h⟩
    · wp_walk using wpAny_loadPart' hl, wpAny_pyIter_tuple hL
      exact ⟨_, rfl, h⟩
section
variable {prog : Program} {w : World} {A : Around} {E : Value → Shared → Prop} {s : Shared}
theorem call_enumT {l : Addr} {items : Array Value} {Q : Value → Shared → Prop} (hL : s.heap.IsTuple l items)
    (h : ∀ h', IsEnum h' (s.heap.objs.size + 1) s.heap.objs.size 0 .none → h'.IsTupleIter s.heap.objs.size l 0 → (∀ b o, s.heap.get? b = some o → h'.get? b = some o) → Q (.ref (s.heap.objs.size + 1)) { s with heap := h' }) :
    wpAny (model prog w) A (call (.type "enumerate") [.ref l]) Q E s := by
  obtain ⟨⟨c, dct, dt, sl⟩, hl, hc, n, hd⟩ := hL
  replace hc : c = .type "tuple" := hc
  replace hd : dt = .seq items n := hd
  subst hc hd
  refine callType_new F.called_enumerate (by decide) (F.typeCall_enumerate_1 _) (F.newCall_enumerate_1 _) (fun obj => F.args_object_init_2 obj _) F.entry_enumerate_new (meets_enumT l items n dct sl) ⟨hl, ?_⟩
  have hz : (s.heap.push { cls := .type "tuple_iterator", data := .fields #[.ref l, .int 0 0] }).objs.size = s.heap.objs.size + 1 := Heap.size_push ..
  show _ ∧ _
  rw [hz]
  have he : IsEnum ((s.heap.push { cls := .type "tuple_iterator", data := .fields #[.ref l, .int 0 0] }).push
      { cls := .type "enumerate", data := .fields #[.none, .bool false, .ref s.heap.objs.size, rawInt 0, .none, .none] }) (s.heap.objs.size + 1) s.heap.objs.size 0 .none := by
    have := Heap.get?_push_size (s.heap.push { cls := .type "tuple_iterator", data := .fields #[.ref l, .int 0 0] }) (o := { cls := .type "enumerate", data := .fields #[.none, .bool false, .ref s.heap.objs.size, rawInt 0, .none, .none] }) rfl
    rw [hz] at this; exact this
  exact ⟨⟨_, he, rfl⟩, h _ he ⟨_, Heap.get?_push_of_some _ (Heap.get?_push_size _ rfl), rfl, rfl⟩ fun b o x => Heap.get?_push_of_some _ (Heap.get?_push_of_some _ x)⟩
end
/-- the tuple at a, each item in a new pair -/
def IteT (K : PySem.W.Frag) (a : Addr) : It :=
  ⟨fun i H => ∃ (xs : List V) (x : V), SqT K H a xs ∧ xs[i]? = some x, fun i H v H' => ∃ T x, v = .ref T ∧ H T = none ∧ H' = upd H T (.tup [.int (i : Nat), x]) ∧ ∀ xs, SqT K H a xs → xs[i]? = some x, fun i H => ∃ xs : List V, SqT K H a xs ∧ xs.length ≤ i⟩
theorem tup_ne_enum {h : Heap} {e it a : Addr} {i : Int} {old : Value} {items : Array Value} (he : IsEnum h e it i old) (ht : h.IsTuple a items) : a ≠ e := fun z => by
  obtain ⟨o, ho, hc, _⟩ := ht
  rw [z, he] at ho
  cases ho
  exact absurd (show Value.type "enumerate" = Value.type "tuple" from hc) (by decide)
theorem tup_ne_iter {h : Heap} {it a : Addr} {i : Nat} {items : Array Value} (hit : h.IsTupleIter it a i) (ht : h.IsTuple a items) : a ≠ it := fun z => by
  obtain ⟨o, ho, hc, _⟩ := ht
  obtain ⟨o2, ho2, hc2, _⟩ := hit
  rw [z, ho2] at ho
  cases ho
  rw [hc2] at hc
  exact absurd hc (by decide)
theorem turn_enumT {P : Program} {w : World} {K : PySem.W.Frag} {elts : List Expr} {kk : Nat} {tpos : Pos} (a e it : Addr) :
    Turn P w K (.Tuple elts kk tpos) (IteT K a) [e, it] e (fun i h => (∃ old, IsEnum h e it ((i : Nat) : Int) old) ∧ h.IsTupleIter it a i ∧ e ≠ it) where
  mem := by simp
  obj := fun i h st b hb => by
    obtain ⟨⟨old, he⟩, ⟨o, ho, hc, hd⟩, _⟩ := st
    have e' : b = e ∨ b = it := by simpa using hb
    rcases e' with z | z
    · rw [z]; exact ⟨_, he, fun v q => nomatch q⟩
    · rw [z]; exact ⟨o, ho, fun v q => by rw [hd] at q; cases q⟩
  keep := fun i h h' st k => let ⟨⟨old, he⟩, hi, hne⟩ := st; ⟨⟨old, k e (by simp) _ he⟩, hi.at fun o q => k it (by simp) o q, hne⟩
  item := by
    intro X hP hw hK hc i pins s σ H E I hf st hg
    subst hP hw hK
    obtain ⟨⟨old, he⟩, hit, hne⟩ := st
    obtain ⟨xs, x, hq, hx⟩ := hg
    obtain ⟨its, rv, p, hz⟩ := I.tuple hq
    have p : s.heap.IsTuple a its.toArray := p
    obtain ⟨u, hu, ru⟩ := rv.get hx
    have hel : e < s.heap.objs.size := Heap.lt_size he
    have hil : it < s.heap.objs.size := by obtain ⟨_, q, _⟩ := hit; exact Heap.lt_size q
    have hai := tup_ne_iter hit p
    have hae := tup_ne_enum he p
    have hhd : X.A.in1.handled = none := I.ok.hd hc
    have hlt : i < its.toArray.size := by
      have : i < its.length := (List.getElem?_eq_some_iff.mp hu).1
      simpa using this
    refine wpAny_pyNext_enum_itemD (Draws.tuple hhd it a hai its.toArray) he ⟨hit, p⟩ hlt hne (by simp [hne, Ne.symm hae]) fun x2 h' tk hP2 ho hst' hT hsz hk => ?_
    have ex : x2 = u := by
      have q : its.toArray[i]? = some x2 := hP2
      have q2 : its.toArray[i]? = some u := by simpa using hu
      rw [q] at q2
      exact Option.some.inj q2
    subst ex
    refine ⟨_, rfl, wpAny_letOwnedTupleGo_enum (s := { s with heap := h', toks := tk + 1 }) ho fun h'' he' sb => ?_⟩
    have hT2 : h''.get? s.heap.objs.size = some { cls := .type "tuple", data := .seq #[.int i tk, x2] } := (sb.2 _ (Nat.ne_of_gt hel)).trans hT
    have new : ObjOk X.prog X.w (upd H s.heap.objs.size (.tup [.int (i : Nat), x])) h'' s.heap.objs.size (.tup [.int (i : Nat), x]) :=
      ⟨by show 2 ≤ sizeLine; decide, [.int i tk, x2], .cons ⟨_, rfl⟩ (.cons ru .nil), ⟨_, hT2, rfl, _, rfl⟩⟩
    have I1 : Inv X pins σ (upd H s.heap.objs.size (.tup [.int (i : Nat), x])) { s with heap := h'', toks := tk + 1 } :=
      I.turnedNew (ch := [e, it]) (fun b ob hb q => (sb.2 b (fun z => hb (by simp [z]))).trans (hk b ob (fun z => hb (by simp [z])) (fun z => hb (by simp [z])) q)) hf (Nat.le_refl _) new
    refine ⟨.ref s.heap.objs.size, _, I1, rfl, ⟨_, x, rfl, I.hok.fresh (Nat.le_refl _), rfl, fun ys hy => by rw [I.tuple_inj hy hq]; exact hx⟩, ⟨⟨x2, ?_⟩, hst'.1.at fun o q => (sb.2 it (Ne.symm hne)).trans q, hne⟩, fun b hb => ?_⟩
    · have e1 : ((i + 1 : Nat) : Int) = (i : Int) + 1 := by omega
      rw [e1]; exact he'
    · have hb' : b < s.heap.objs.size := by
        have e' : b = e ∨ b = it := by simpa using hb
        rcases e' with z | z
        · rw [z]; exact hel
        · rw [z]; exact hil
      rw [upd_ne (Nat.ne_of_lt hb')]
      exact (hf b hb).1
  done := by
    intro X hP hw hK hc i pins s σ H E I hf st hg
    subst hP hw hK
    obtain ⟨⟨old, he⟩, hit, hne⟩ := st
    obtain ⟨xs, hq, hx⟩ := hg
    obtain ⟨its, rv, p, hz⟩ := I.tuple hq
    have p : s.heap.IsTuple a its.toArray := p
    obtain ⟨f0, f1, f2, f3, f4, f5⟩ := hf it (by simp)
    have hl := rv.length
    have hT : s.TypeIs (.ref e) "enumerate" := ⟨_, he, rfl⟩
    have hhd : X.A.in1.handled = none := I.ok.hd hc
    unfold pyNext
    refine wpAny_bind (wpAny_attempt (wpAny_callSpecial?_slot (name := Str.ofString "__next__") hT F.slot_enumerate_next (wpAny_call_entry F.slot_enumerate_next hT F.entry_enumerate_next ?_ (F.args_enumerate_next_1 _))))
    show wpAny _ _ (field (.ref e) 2 >>= _) _ _ _
    refine wpAny_bind (wpAny_field he rfl (x := .ref it) rfl ?_)
    refine wpAny_bind (wpAny_nextOf_tuple_end hhd hit p (by simp; omega) fun h' x he' hx' => ?_)
    obtain ⟨o, ho, hc2⟩ := hx'
    refine wpAny_bind (wpAny_isInstance (T := "StopIteration") (b := true) ⟨o, ho, hc2⟩ isSubtype_stop ?_)
    exact wpAny_pure ⟨rfl, I.turned (t' := s.toks) (fun b o hb q => he' b o hb q) f0 f1 f3 f4 f5⟩
  self := fun A i s Q E st h => let ⟨⟨_, he⟩, _⟩ := st; wpAny_pyIter_enum he h
/-! by data: a tuple or a list -/
def enumD (ds : List D) : List D := ds.zipIdx.map fun p => .tup [.int (p.2 : Nat), p.1]
theorem enumD_len (ds : List D) : (enumD ds).length = ds.length := by simp [enumD]
theorem enumD_get {ds : List D} {i : Nat} {d : D} (h : (enumD ds)[i]? = some d) : ∃ x, ds[i]? = some x ∧ d = .tup [.int (i : Nat), x] := by
  unfold enumD at h
  rw [List.getElem?_map, List.getElem?_zipIdx] at h
  cases e : ds[i]? with
  | none => rw [e] at h; cases h
  | some x =>
    rw [e] at h
    simp at h
    exact ⟨x, rfl, h.symm⟩
theorem enumD_some {ds : List D} {i : Nat} {x : D} (h : ds[i]? = some x) : (enumD ds)[i]? = some (.tup [.int (i : Nat), x]) := by
  unfold enumD
  rw [List.getElem?_map, List.getElem?_zipIdx, h]
  simp
section
variable {X : Cx} {W : WX} {e : Expr} {te : TDE} {p pos tpos : Pos} {elts : List Expr} {kk : Nat}
theorem pi_enumA {te : TE} (hg : Gl X "enumerate") (hm : X.mg "enumerate" = none) (ha : PE X e te) (hs : starEach [e] X.env = [(false, eval e X.env)] := by rfl) (hs2 : starEach [e] X.env = (false, eval e X.env) :: starEach [] X.env := by rfl) :
    PI X (.Tuple elts kk tpos) (.Call (.Name "enumerate" p) [e] [] pos) (fun σ H R => te σ H fun x H1 => ∃ a, x = .ref a ∧ ((∃ xs, SqL X.K H1 a xs) ∧ R (Ite X.K a) H1 ∨ (∃ xs, SqT X.K H1 a xs) ∧ R (IteT X.K a) H1)) := by
  refine ⟨fun pins s σ H R I h => ?_⟩
  refine Call_ (ld_blt I hg hm boot_enumerate (PyProof.Rows.callWith_type1 (thn ((pa_cons ha pa_nil hs2).run pos pins s σ H (fun vs H1 => match vs with | [x] => ∃ a, x = .ref a ∧ ((∃ xs, SqL X.K H1 a xs) ∧ R (Ite X.K a) H1 ∨ (∃ xs, SqT X.K H1 a xs) ∧ R (IteT X.K a) H1) | _ => False) I h) fun us s1 ⟨vs, H1, I1, r1, q1⟩ => ?_) hs rfl))
  cases r1 with
  | nil => exact q1.elim
  | cons r rr =>
    cases rr with
    | cons _ _ => exact q1.elim
    | nil =>
    obtain ⟨a, ex, q⟩ := q1
    subst ex
    cases r
    have fresh : ∀ {H' : Hp} {s' : Shared}, Inv X pins σ H' s' → True := fun _ => trivial
    rcases q with ⟨⟨xs, hq⟩, q⟩ | ⟨⟨xs, hq⟩, q⟩
    · obtain ⟨its, rv, p', hz⟩ := I1.list hq
      refine call_enumerate_list p'.isList fun h' he hit hsz hk => wpAny_pyIter_enum he ?_
      have I2 : Inv X pins σ H1 { s1 with heap := h' } := I1.kept (t' := s1.toks) hk
      refine ⟨s1.heap.objs.size + 1, [s1.heap.objs.size + 1, s1.heap.objs.size], _, _, H1, rfl, I2, turn_enum a (s1.heap.objs.size + 1) s1.heap.objs.size, ⟨⟨.none, he⟩, hit, Nat.succ_ne_self _⟩, fun b hb => ?_, q⟩
      have e' : b = s1.heap.objs.size + 1 ∨ b = s1.heap.objs.size := by simpa using hb
      have hle : s1.heap.objs.size ≤ b := by
        rcases e' with z | z
        · rw [z]; exact Nat.le_add_right _ _
        · rw [z]; exact Nat.le_refl _
      exact I1.fpOk hle (I1.hok.fresh hle)
    · obtain ⟨its, rv, p', hz⟩ := I1.tuple hq
      refine call_enumT (show s1.heap.IsTuple a its.toArray from p') fun h' he hit hk => wpAny_pyIter_enum he ?_
      have I2 : Inv X pins σ H1 { s1 with heap := h' } := I1.kept (t' := s1.toks) hk
      refine ⟨s1.heap.objs.size + 1, [s1.heap.objs.size + 1, s1.heap.objs.size], _, _, H1, rfl, I2, turn_enumT a (s1.heap.objs.size + 1) s1.heap.objs.size, ⟨⟨.none, he⟩, hit, Nat.succ_ne_self _⟩, fun b hb => ?_, q⟩
      have e' : b = s1.heap.objs.size + 1 ∨ b = s1.heap.objs.size := by simpa using hb
      have hle : s1.heap.objs.size ≤ b := by
        rcases e' with z | z
        · rw [z]; exact Nat.le_add_right _ _
        · rw [z]; exact Nat.le_refl _
      exact I1.fpOk hle (I1.hok.fresh hle)
/-- a tuple, a list that stands as it is at each turn -/
def tdiEnum (t : TDE) : TDI := fun ρ M Q E => t ρ M (fun d M1 => match d with
  | .tup ds => Q (enumD ds) gTrue M1
  | .ref a => match M1 a with
    | some (.lst ds) => Q (enumD ds) (fun M => M a = some (.lst ds)) M1
    | _ => False
  | _ => False) E
theorem dw_enumT {K : PySem.W.Frag} {a : Addr} {ds : List D} {vs : List V} : DWalk K (IteT K a) (enumD ds) gTrue (fun H _ => SqT K H a vs ∧ Reps K H vs ds) where
  stay := fun H M H' M' hs t => ⟨rd_mono t.tup t.frz hs.1, hs.2.mono t⟩
  goes := fun i H M hi hs sm hg => by
    have hl := hs.2.length
    rw [enumD_len] at hi
    exact ⟨vs, vs[i]'(by omega), hs.1, by simp⟩
  stops := fun H M hs sm hg => ⟨vs, hs.1, by rw [hs.2.length, enumD_len]; exact Nat.le_refl _⟩
  yields := fun i H M x H' hi hs sm hg y => by
    obtain ⟨T, v, rfl, hT, rfl, y⟩ := y
    rw [enumD_len] at hi
    obtain ⟨u, e, ru⟩ := hs.2.get (List.getElem?_eq_getElem hi)
    have := y vs hs.1
    rw [e] at this; cases this
    have t : Tr H M (upd H T (.tup [.int (i : Nat), v])) M := Tr.new hT
    exact ⟨_, enumD_some (List.getElem?_eq_getElem hi), .tup (SqT.of upd_same) (.cons (.int _) (.cons (ru.mono t) .nil)), sm.new hT, t⟩
theorem dw_enumL {K : PySem.W.Frag} {a : Addr} {ds : List D} : DWalk K (Ite K a) (enumD ds) (fun M => M a = some (.lst ds)) (fun _ _ => True) where
  stay := fun _ _ _ _ _ _ => trivial
  goes := fun i H M hi _ sm hg => by
    obtain ⟨vs, g, r⟩ := sm _ _ hg
    have hl := r.length
    rw [enumD_len] at hi
    exact ⟨vs, vs[i]'(by omega), SqL.of g, by simp⟩
  stops := fun H M _ sm hg => by
    obtain ⟨vs, g, r⟩ := sm _ _ hg
    exact ⟨vs, SqL.of g, by rw [r.length, enumD_len]; exact Nat.le_refl _⟩
  yields := fun i H M x H' hi _ sm hg y => by
    obtain ⟨vs, g, r⟩ := sm _ _ hg
    obtain ⟨T, v, rfl, hT, rfl, y⟩ := y
    rw [enumD_len] at hi
    obtain ⟨u, e, ru⟩ := r.get (List.getElem?_eq_getElem hi)
    have := y vs (SqL.of g)
    rw [e] at this; cases this
    have t : Tr H M (upd H T (.tup [.int (i : Nat), v])) M := Tr.new hT
    exact ⟨_, enumD_some (List.getElem?_eq_getElem hi), .tup (SqT.of upd_same) (.cons (.int _) (.cons (ru.mono t) .nil)), sm.new hT, t⟩
theorem i_enum (hm : X.mg "enumerate" = none) (ha : DE X W e te) (hg : Gl X "enumerate" := by rfl) (hs : starEach [e] X.env = [(false, eval e X.env)] := by rfl) (hs2 : starEach [e] X.env = (false, eval e X.env) :: starEach [] X.env := by rfl) : DI X W (.Tuple elts kk tpos) (.Call (.Name "enumerate" p) [e] [] pos) (tdiEnum te) :=
  PI.imp (pi_enumA hg hm ha hs hs2) fun σ H R ⟨ρ, M, Q0, E0, dv, sm, q, hq, he⟩ => by
    refine ⟨ρ, M, _, E0, dv, sm, q, fun d M1 q1 v H1 r1 s1 t1 => ?_, he⟩
    cases d <;> try exact q1.elim
    · cases r1
      dsimp only at q1
      split at q1
      · rename_i a _ ds em
        obtain ⟨vs, g, rs⟩ := s1 _ _ em
        exact ⟨a, rfl, .inl ⟨⟨vs, SqL.of g⟩, hq _ _ _ q1 _ _ H1 dw_enumL trivial s1 t1⟩⟩
      · exact q1.elim
    · cases r1 with
      | @tup a vs ds g rs => exact ⟨a, rfl, .inr ⟨⟨vs, g⟩, hq _ _ _ q1 _ _ H1 dw_enumT ⟨g, rs⟩ s1 t1⟩⟩
end
end TD

/-! XG: a model of one's own in which a delegating generator sleeps without the clean-up mark; the mark stands at the head of what it keeps alive. -/
namespace XG
open PySem
def isYf : Code → Bool
  | .builtin i _ => i == "proto.yield_from"
  | _ => false
/-- the object is a generator -/
def isGenO (o : Obj) : Bool := o.genNumber?.isSome
/-- whom the code delegates to -/
def deleg : Code → Option Addr
  | .builtin _ ⟨.ref a :: _, _⟩ => some a
  | _ => none
def quietly {α : Type} (d : Option Addr) : Sem α → Sem α
  | .pure a => .pure a
  | .raise e => .raise e
  | .unsupported x => .unsupported x
  | .finish e => .finish e
  | .rule t k => .rule t fun x => quietly d (k x)
  | .at p k => .at p fun x => quietly d (k x)
  | .load a p k => .load a p fun x => quietly d (k x)
  | .update a p f k => .update a p f fun x => quietly d (k x)
  | .alloc o k => .alloc o fun x => quietly d (k x)
  | .loadIfAlive a k => .loadIfAlive a fun x => quietly d (k x)
  | .point l k => .point l fun x => quietly d (k x)
  | .register a k => .register a fun x => quietly d (k x)
  | .fresh k => .fresh fun x => quietly d (k x)
  | .ask k => .ask fun x => quietly d (k x)
  | .choose s n k => .choose s n fun x => quietly d (k x)
  | .os q l k => .os q l fun x => quietly d (k x)
  | .call c h g l k => .call c h g l fun x => quietly d (k x)
  | .handled o k => .handled o fun x => quietly d (k x)
  | .newGen c k => .newGen c fun x => quietly d (k x)
  | .genState g k => .genState g fun x => quietly d (k x)
  | .resume g r l k => .resume g r l fun x => quietly d (k x)
  | .yield v false l k => .yield v false (.bool false :: l) fun x => quietly d (k x)
  | .yield v true l k => match d with
    | some a => .load a none fun o => bif isGenO o then .yield v false (.bool true :: l) fun x => quietly d (k x) else .unsupported "delegate"
    | none => .unsupported "delegate"
  | .stack k => .stack fun x => quietly d (k x)
  | .fork c k => .fork c fun x => quietly d (k x)
  | .thread k => .thread fun x => quietly d (k x)
  | .await a f tm l k => .await a f tm l fun x => quietly d (k x)
def px (c : Code) (t : Sem PySem.Fin) : Sem PySem.Fin := bif isYf c then quietly (deleg c) t else t
def pl (c : Code) (g : Bool) (l : List Value) : List Value := bif isYf c then .bool g :: l else l
def modelX (P : Program) (w : World) : Model := ⟨fun c => px c (denote table c), P, w⟩
def pxF : Frame → Frame
  | .ret k h g l c p kp => .ret (fun r => px c (k r)) h g l c p kp
  | .gen g k l c p => .gen g (fun r => px c (k r)) l c p
def pxE : End → End
  | .ret r => .ret r
  | .susp v g l k c p fs => .susp v g (pl c g l) (fun r => px c (k r)) c p (fs.map pxF)
def pxG : GenState → GenState
  | .fresh c => .fresh c
  | .suspended k l c p fs cl => .suspended (fun r => px c (k r)) (pl c false l) c p (fs.map pxF) cl
  | .running => .running
  | .finished => .finished
section
variable {c : Code}
theorem px_pure {a : PySem.Fin} : px c (.pure a) = .pure a := by unfold px; cases isYf c <;> rfl
theorem px_raise {e : Value} : px c (.raise e) = .raise e := by unfold px; cases isYf c <;> rfl
theorem px_rule {t k} : px c (.rule t k) = .rule t fun x => px c (k x) := by unfold px; cases isYf c <;> rfl
theorem px_at {t k} : px c (.at t k) = .at t fun x => px c (k x) := by unfold px; cases isYf c <;> rfl
theorem px_load {a t k} : px c (.load a t k) = .load a t fun x => px c (k x) := by unfold px; cases isYf c <;> rfl
theorem px_update {a t f k} : px c (.update a t f k) = .update a t f fun x => px c (k x) := by unfold px; cases isYf c <;> rfl
theorem px_alloc {o k} : px c (.alloc o k) = .alloc o fun x => px c (k x) := by unfold px; cases isYf c <;> rfl
theorem px_alive {o k} : px c (.loadIfAlive o k) = .loadIfAlive o fun x => px c (k x) := by unfold px; cases isYf c <;> rfl
theorem px_point {o k} : px c (.point o k) = .point o fun x => px c (k x) := by unfold px; cases isYf c <;> rfl
theorem px_fresh {k} : px c (.fresh k) = .fresh fun x => px c (k x) := by unfold px; cases isYf c <;> rfl
theorem px_ask {k} : px c (.ask k) = .ask fun x => px c (k x) := by unfold px; cases isYf c <;> rfl
theorem px_choose {s n k} : px c (.choose s n k) = .choose s n fun x => px c (k x) := by unfold px; cases isYf c <;> rfl
theorem px_os {s n k} : px c (.os s n k) = .os s n fun x => px c (k x) := by unfold px; cases isYf c <;> rfl
theorem px_call {d h g l k} : px c (.call d h g l k) = .call d h g l fun x => px c (k x) := by unfold px; cases isYf c <;> rfl
theorem px_handled {o k} : px c (.handled o k) = .handled o fun x => px c (k x) := by unfold px; cases isYf c <;> rfl
theorem px_newGen {o k} : px c (.newGen o k) = .newGen o fun x => px c (k x) := by unfold px; cases isYf c <;> rfl
theorem px_genState {o k} : px c (.genState o k) = .genState o fun x => px c (k x) := by unfold px; cases isYf c <;> rfl
theorem px_resume {g r l k} : px c (.resume g r l k) = .resume g r l fun x => px c (k x) := by unfold px; cases isYf c <;> rfl
theorem px_yield {v l k} : px c (.yield v false l k) = .yield v false (pl c false l) fun x => px c (k x) := by unfold px pl; cases isYf c <;> rfl
theorem px_stack {k} : px c (.stack k) = .stack fun x => px c (k x) := by unfold px; cases isYf c <;> rfl
theorem px_thread {k} : px c (.thread k) = .thread fun x => px c (k x) := by unfold px; cases isYf c <;> rfl
end
/-! ### frames -/
theorem where_px (f : Frame) : (pxF f).where_ = f.where_ := by cases f <;> rfl
theorem guarded_px (f : Frame) : (pxF f).guarded = f.guarded := by cases f <;> rfl
theorem wheres_px (fs : List Frame) : (fs.map pxF).map Frame.where_ = fs.map Frame.where_ := by
  rw [List.map_map]
  exact List.map_congr_left fun f _ => where_px f
theorem guards_px (fs : List Frame) : (fs.map pxF).any Frame.guarded = fs.any Frame.guarded := by
  rw [List.any_map]
  congr 1
  funext f
  exact guarded_px f
theorem marks_px (f : Frame) (x : Option Value × Option Value) : (pxF f).marks x = f.marks x := by cases f <;> rfl
theorem marksOver_px : ∀ (fs : List Frame) (x : Option Value × Option Value), marksOver (fs.map pxF) x = marksOver fs x
  | [], _ => rfl
  | f :: fs, x => by
    show (pxF f).marks (marksOver (fs.map pxF) x) = f.marks (marksOver fs x)
    rw [marks_px, marksOver_px fs]
theorem topGo_px : ∀ (fs : List Frame) (b : Bool), topHandled.go b (fs.map pxF) = topHandled.go b fs
  | [], _ => rfl
  | .gen g k l c p :: fs, b => by
    show topHandled.go b (.gen g _ l c p :: fs.map pxF) = _
    cases b <;> (simp only [topHandled.go]; exact topGo_px fs false)
  | .ret k h g l c p kp :: fs, true => by
    show topHandled.go true (.ret _ h g l c p kp :: fs.map pxF) = _
    simp only [topHandled.go]
    exact topGo_px fs true
  | .ret k none g l c p kp :: fs, false => by
    show topHandled.go false (.ret _ none g l c p kp :: fs.map pxF) = _
    simp only [topHandled.go]
    exact topGo_px fs false
  | .ret k (some e) g l c p kp :: fs, false => by
    show topHandled.go false (.ret _ (some e) g l c p kp :: fs.map pxF) = _
    simp only [topHandled.go]
    rw [topGo_px fs true]
theorem split_px : ∀ fs : List Frame, splitAtGen (fs.map pxF) = (splitAtGen fs).map fun x => (x.1.map pxF, (x.2.1.1, (fun r => px x.2.1.2.2.1 (x.2.1.2.1 r)), x.2.1.2.2.1, x.2.1.2.2.2), x.2.2.map pxF)
  | [] => rfl
  | .gen g k l c p :: fs => rfl
  | .ret k h g l c p kp :: fs => by
    show (splitAtGen (fs.map pxF)).map _ = ((splitAtGen fs).map _).map _
    rw [split_px fs]
    cases splitAtGen fs <;> rfl
theorem split_none {fs : List Frame} (h : splitAtGen fs = none) : splitAtGen (fs.map pxF) = none := by rw [split_px, h]; rfl
theorem over_px (Γ : Ctx) (fs : List Frame) : Γ.over (fs.map pxF) = Γ.over fs := by
  unfold Ctx.over
  rw [marksOver_px, marksOver_px, wheres_px, split_px]
  cases h : splitAtGen fs with
  | none => rfl
  | some x =>
    show Ctx.mk _ _ (topHandled (x.1.map pxF)) _ _ = _
    unfold topHandled
    rw [topGo_px]
/-! ### ends -/
theorem quiet_px {e : End} (h : e.quiet = true) : (pxE e).quiet = true ∧ (pxE e).genState = pxG e.genState ∧ (pxE e).result = e.result := by
  cases e with
  | ret r => exact ⟨rfl, rfl, rfl⟩
  | susp v g l k c p fs =>
    have h : (!(g || fs.any Frame.guarded)) = true := h
    have h1 : g = false := by cases g <;> simp_all
    have h2 : fs.any Frame.guarded = false := by cases g <;> simp_all
    subst h1
    refine ⟨?_, ?_, rfl⟩
    · show (!(false || (fs.map pxF).any Frame.guarded)) = true
      rw [guards_px, h2]; rfl
    · show GenState.suspended _ _ _ _ _ (false || (fs.map pxF).any Frame.guarded) = GenState.suspended _ _ _ _ _ (false || fs.any Frame.guarded)
      rw [guards_px]
def EndOk : End → Prop
  | .ret _ => True
  | .susp _ _ _ _ _ _ fs => splitAtGen fs = none
/-! ### states -/
def isSus : GenState → Bool
  | .suspended .. => true
  | _ => false
def poison : GenState → GenState
  | .suspended _ l c p fs _ => .suspended (fun _ => .unsupported "asleep") l c p fs false
  | x => x
theorem poison_seen (x : GenState) : (poison x).seen = x.seen := by cases x <;> rfl
theorem pxG_seen (x : GenState) : (pxG x).seen = x.seen := by
  cases x with
  | suspended k l c p fs cl => show (_, some (_ :: (fs.map pxF).map Frame.where_)) = (_, some (_ :: fs.map Frame.where_)); rw [wheres_px]
  | _ => rfl
structure SR (B : Nat → Option GenState) (s1 s2 : Shared) : Prop where
  heap : s2.heap = s1.heap
  drawn : s2.drawn = s1.drawn
  toks : s2.toks = s1.toks
  os : s2.os = s1.os
  size : s2.gens.size = s1.gens.size
  bad : ∀ i x, B i = some x → isSus x = true ∧ s1.gens[i]? = some (poison x) ∧ s2.gens[i]? = some x
  good : ∀ i, B i = none → s2.gens[i]? = (s1.gens[i]?).map pxG
  cut : ∀ i k l c p fs cl, B i = none → s1.gens[i]? = some (.suspended k l c p fs cl) → splitAtGen fs = none
section
variable {B : Nat → Option GenState} {s1 s2 : Shared}
theorem SR.with (h : SR B s1 s2) {hp : Heap} {d : Drawn} {t : Nat} {o : OsState} : SR B { s1 with heap := hp, drawn := d, toks := t, os := o } { s2 with heap := hp, drawn := d, toks := t, os := o } :=
  ⟨rfl, rfl, rfl, rfl, h.size, h.bad, h.good, h.cut⟩
theorem SR.eq (h : SR B s1 s2) : ∃ G, s2 = ⟨s1.heap, G, s1.drawn, s1.toks, s1.os⟩ := by
  obtain ⟨hp, G, d, t, o⟩ := s2
  have e1 : hp = _ := h.heap
  have e2 : d = _ := h.drawn
  have e3 : t = _ := h.toks
  have e4 : o = _ := h.os
  subst e1 e2 e3 e4
  exact ⟨G, rfl⟩
theorem SR.go {G1 G2 : Array GenState} {hp hp' : Heap} {d d' : Drawn} {t t' : Nat} {o o' : OsState} (h : SR B ⟨hp, G1, d, t, o⟩ ⟨hp, G2, d, t, o⟩) : SR B ⟨hp', G1, d', t', o'⟩ ⟨hp', G2, d', t', o'⟩ :=
  ⟨rfl, rfl, rfl, rfl, h.size, h.bad, h.good, h.cut⟩
theorem SR.seen (h : SR B s1 s2) {g : Nat} {x : GenState} (e : s1.gens[g]? = some x) : ∃ x2, s2.gens[g]? = some x2 ∧ x2.seen = x.seen := by
  cases hb : B g with
  | none => exact ⟨pxG x, by rw [h.good g hb, e]; rfl, pxG_seen x⟩
  | some y =>
    obtain ⟨_, a, b⟩ := h.bad g y hb
    rw [e] at a; cases a
    exact ⟨y, b, (poison_seen y).symm⟩
theorem SR.awake (h : SR B s1 s2) {g : Nat} {x : GenState} (e : s1.gens[g]? = some x) (n : isSus x = false) : B g = none ∧ s2.gens[g]? = some (pxG x) := by
  cases hb : B g with
  | none => exact ⟨rfl, by rw [h.good g hb, e]; rfl⟩
  | some y =>
    obtain ⟨q, a, b⟩ := h.bad g y hb
    rw [e] at a; cases a
    cases y <;> first | (cases q; done) | exact absurd n (by show true ≠ false; decide)
theorem get_set {G : Array GenState} {g i : Nat} {x : GenState} : (G.setIfInBounds g x)[i]? = if i = g ∧ g < G.size then some x else G[i]? := by
  by_cases h : i = g
  · subst h
    by_cases h2 : i < G.size
    · rw [if_pos ⟨rfl, h2⟩]; simp [h2]
    · rw [if_neg (fun z => h2 z.2)]
      simp [h2]
  · rw [if_neg (fun z => h z.1)]
    exact Array.getElem?_setIfInBounds_ne (Ne.symm h)
theorem SR.set (h : SR B s1 s2) {g : Nat} {x : GenState} (hb : B g = none) (hx : ∀ k l c p fs cl, x = .suspended k l c p fs cl → splitAtGen fs = none) : SR B (s1.setGen g x) (s2.setGen g (pxG x)) := by
  refine ⟨h.heap, h.drawn, h.toks, h.os, ?_, fun i y hy => ?_, fun i hi => ?_, fun i k l c p fs cl hi e => ?_⟩
  · show (s2.gens.setIfInBounds g _).size = (s1.gens.setIfInBounds g _).size
    rw [Array.size_setIfInBounds, Array.size_setIfInBounds, h.size]
  · obtain ⟨q, a, b⟩ := h.bad i y hy
    have ne : i ≠ g := fun z => by rw [z, hb] at hy; cases hy
    refine ⟨q, ?_, ?_⟩
    · show (s1.gens.setIfInBounds g _)[i]? = _
      rw [get_set, if_neg (fun z => ne z.1)]; exact a
    · show (s2.gens.setIfInBounds g _)[i]? = _
      rw [get_set, if_neg (fun z => ne z.1)]; exact b
  · show (s2.gens.setIfInBounds g _)[i]? = ((s1.gens.setIfInBounds g _)[i]?).map pxG
    rw [get_set, get_set, h.size]
    split
    · rfl
    · exact h.good i hi
  · have e : (s1.gens.setIfInBounds g x)[i]? = _ := e
    rw [get_set] at e
    split at e
    · cases e; exact hx _ _ _ _ _ _ rfl
    · exact h.cut i k l c p fs cl hi e
theorem SR.fin (h : SR B s1 s2) {g : Nat} (hb : B g = none) : SR B (s1.setGen g .finished) (s2.setGen g .finished) := h.set hb fun _ _ _ _ _ _ e => by cases e
theorem SR.push (h : SR B s1 s2) {c : Code} : SR B { s1 with gens := s1.gens.push (.fresh c) } { s2 with gens := s2.gens.push (.fresh c) } := by
  have hb : B s1.gens.size = none := by
    cases e : B s1.gens.size with
    | none => rfl
    | some y =>
      obtain ⟨_, a, _⟩ := h.bad _ y e
      simp at a
  refine ⟨h.heap, h.drawn, h.toks, h.os, by simp [h.size], fun i y hy => ?_, fun i hi => ?_, fun i k l c' p fs cl hi e => ?_⟩
  · obtain ⟨q, a, b⟩ := h.bad i y hy
    have l1 : i < s1.gens.size := (Array.getElem?_eq_some_iff.mp a).1
    exact ⟨q, by show (s1.gens.push _)[i]? = _; rw [Array.getElem?_push_lt l1, ← Array.getElem?_eq_getElem l1]; exact a, by
      have l2 : i < s2.gens.size := by rw [h.size]; exact l1
      show (s2.gens.push _)[i]? = _; rw [Array.getElem?_push_lt l2, ← Array.getElem?_eq_getElem l2]; exact b⟩
  · show (s2.gens.push _)[i]? = ((s1.gens.push _)[i]?).map pxG
    rw [Array.getElem?_push, Array.getElem?_push, h.size]
    split
    · rfl
    · exact h.good i hi
  · have e : (s1.gens.push (.fresh c))[i]? = _ := e
    rw [Array.getElem?_push] at e
    split at e
    · cases e
    · exact h.cut i k l c' p fs cl hi e
end
/-! ### a run of the model is a run of this one -/
theorem pxE_app {v : Value} {g : Bool} {l : List Value} {k : Resume → Sem PySem.Fin} {c : Code} {p : Pos} {fs gs : List Frame} : pxE (.susp v g l k c p (fs ++ gs)) = .susp v g (pl c g l) (fun r => px c (k r)) c p (fs.map pxF ++ gs.map pxF) := by
  show End.susp _ _ _ _ _ _ (List.map pxF (fs ++ gs)) = _
  rw [List.map_append]
theorem quiet_app {v : Value} {g : Bool} {l : List Value} {k : Resume → Sem PySem.Fin} {c : Code} {p : Pos} {fs gs : List Frame} (h : (End.susp v g l k c p (fs ++ gs)).quiet = true) : (End.susp v g l k c p fs).quiet = true := by
  have h : (!(g || (fs ++ gs).any Frame.guarded)) = true := h
  show (!(g || fs.any Frame.guarded)) = true
  rw [List.any_append] at h
  cases g <;> simp_all
theorem quiet_g {v : Value} {g : Bool} {l : List Value} {k : Resume → Sem PySem.Fin} {c : Code} {p : Pos} {fs : List Frame} (h : (End.susp v g l k c p fs).quiet = true) : g = false := by
  have h : (!(g || fs.any Frame.guarded)) = true := h
  cases g <;> simp_all
theorem split_app {fs gs : List Frame} (h : splitAtGen fs = none) (h2 : splitAtGen gs = none) : splitAtGen (fs ++ gs) = none := by rw [splitAtGen_append_none gs h, h2]; rfl
theorem split_tail {k h g l c p kp} {fs : List Frame} (hf : splitAtGen (.ret k h g l c p kp :: fs) = none) : splitAtGen fs = none := by
  cases e : splitAtGen fs with
  | none => rfl
  | some x =>
    have : splitAtGen (.ret k h g l c p kp :: fs) = (splitAtGen fs).map fun (fs, b, r) => (.ret k h g l c p kp :: fs, b, r) := rfl
    rw [this, e] at hf
    cases hf
theorem cut_of {e : End} (ok : EndOk e) {k : Resume → Sem PySem.Fin} {l : List Value} {c : Code} {p : Pos} {fs : List Frame} {cl : Bool} (z : e.genState = .suspended k l c p fs cl) : splitAtGen fs = none := by
  cases e with
  | ret r => cases z
  | susp v g l k c p fs => cases z; exact ok
theorem SR.woken {B : Nat → Option GenState} {s1 s2 : Shared} (h : SR B s1 s2) {g : Nat} {k : Resume → Sem PySem.Fin} {l : List Value} {c : Code} {p : Pos} {fs : List Frame} {cl : Bool} {r : Resume} (e : s1.gens[g]? = some (.suspended k l c p fs cl)) (n : k r ≠ .unsupported "asleep") :
    B g = none ∧ s2.gens[g]? = some (.suspended (fun r => px c (k r)) (pl c false l) c p (fs.map pxF) cl) ∧ splitAtGen fs = none := by
  cases hb : B g with
  | none => exact ⟨rfl, by rw [h.good g hb, e]; rfl, h.cut _ _ _ _ _ _ _ hb e⟩
  | some y =>
    obtain ⟨q, a, _⟩ := h.bad g y hb
    rw [e] at a
    cases y <;> first | (cases q; done) | (cases a; exact absurd rfl n)

theorem under_none {M : Model} : ∀ {Γ : Ctx} {p : Pos} {t : Sem PySem.Fin} {fs : List Frame} {s s' : Shared} {e : End}, Runs M Γ p t fs s e s' → ∀ x, t ≠ .unsupported x := by
  intro Γ p t fs s s' e h
  induction h <;> intro x z <;> first | (cases z; done) | (rename_i ih _; exact ih x z) | (rename_i ih; exact ih x z) | (rename_i ih1 ih2; exact ih1 x z) | (simp_all)
theorem runs_px {P : Program} {w : World} {Γ : Ctx} {p : Pos} {t : Sem PySem.Fin} {fs : List Frame} {s1 s1' : Shared} {e : End} (h : Runs (model P w) Γ p t fs s1 e s1') : splitAtGen fs = none → e.quiet = true → ∀ {B : Nat → Option GenState} {s2 : Shared}, SR B s1 s2 →
    ∃ s2', Runs (modelX P w) Γ p (px Γ.code t) (fs.map pxF) s2 (pxE e) s2' ∧ SR B s1' s2' ∧ EndOk e := by
  induction h with
  | done => intro _ _ B s2 h; rw [px_pure]; exact ⟨s2, .done, h, trivial⟩
  | raise => intro _ _ B s2 h; rw [px_raise]; exact ⟨s2, .raise, h, trivial⟩
  | again hqc _ ih =>
    intro hf hq B s2 h
    obtain ⟨s3, r, h3, ok⟩ := ih hf hq h
    rw [px_pure]
    exact ⟨s3, .again hqc r, h3, ok⟩
  | rule _ ih => intro hf hq B s2 h; obtain ⟨s3, r, h3, ok⟩ := ih hf hq h; rw [px_rule]; exact ⟨s3, .rule r, h3, ok⟩
  | «at» _ ih => intro hf hq B s2 h; obtain ⟨s3, r, h3, ok⟩ := ih hf hq h; rw [px_at]; exact ⟨s3, .at r, h3, ok⟩
  | load e _ ih => intro hf hq B s2 h; obtain ⟨s3, r, h3, ok⟩ := ih hf hq h; rw [px_load]; exact ⟨s3, .load (by rw [h.heap]; exact e) r, h3, ok⟩
  | update e _ ih =>
    intro hf hq B s2 h
    obtain ⟨G, rfl⟩ := h.eq
    obtain ⟨s3, r, h3, ok⟩ := ih hf hq h.go
    rw [px_update]
    exact ⟨s3, .update e r, h3, ok⟩
  | loadIfAlive _ ih =>
    intro hf hq B s2 h
    obtain ⟨s3, r, h3, ok⟩ := ih hf hq h
    rw [px_alive]
    exact ⟨s3, .loadIfAlive (by rw [h.heap]; exact r), h3, ok⟩
  | point _ ih => intro hf hq B s2 h; obtain ⟨s3, r, h3, ok⟩ := ih hf hq h; rw [px_point]; exact ⟨s3, .point r, h3, ok⟩
  | alloc _ ih =>
    intro hf hq B s2 h
    obtain ⟨G, rfl⟩ := h.eq
    obtain ⟨s3, r, h3, ok⟩ := ih hf hq h.go
    rw [px_alloc]
    exact ⟨s3, .alloc r, h3, ok⟩
  | fresh _ ih =>
    intro hf hq B s2 h
    obtain ⟨G, rfl⟩ := h.eq
    obtain ⟨s3, r, h3, ok⟩ := ih hf hq h.go
    rw [px_fresh]
    exact ⟨s3, .fresh r, h3, ok⟩
  | ask _ ih => intro hf hq B s2 h; obtain ⟨s3, r, h3, ok⟩ := ih hf hq h; rw [px_ask]; exact ⟨s3, .ask r, h3, ok⟩
  | choose e _ ih =>
    intro hf hq B s2 h
    obtain ⟨G, rfl⟩ := h.eq
    obtain ⟨s3, r, h3, ok⟩ := ih hf hq h.go
    rw [px_choose]
    exact ⟨s3, .choose e r, h3, ok⟩
  | os _ ih =>
    intro hf hq B s2 h
    obtain ⟨G, rfl⟩ := h.eq
    obtain ⟨s3, r, h3, ok⟩ := ih hf hq h.go
    rw [px_os]
    exact ⟨s3, .os r, h3, ok⟩
  | handled _ ih => intro hf hq B s2 h; obtain ⟨s3, r, h3, ok⟩ := ih hf hq h; rw [px_handled]; exact ⟨s3, .handled r, h3, ok⟩
  | genState e _ ih =>
    intro hf hq B s2 h
    obtain ⟨s3, r, h3, ok⟩ := ih hf hq h
    obtain ⟨x2, e2, q2⟩ := h.seen e
    rw [px_genState]
    exact ⟨s3, .genState e2 (by rw [q2]; exact r), h3, ok⟩
  | stack _ ih => intro hf hq B s2 h; obtain ⟨s3, r, h3, ok⟩ := ih hf hq h; rw [px_stack]; exact ⟨s3, .stack r, h3, ok⟩
  | thread _ ih => intro hf hq B s2 h; obtain ⟨s3, r, h3, ok⟩ := ih hf hq h; rw [px_thread]; exact ⟨s3, .thread r, h3, ok⟩
  | newGen _ ih =>
    intro hf hq B s2 h
    obtain ⟨s3, r, h3, ok⟩ := ih hf hq h.push
    rw [px_newGen]
    exact ⟨s3, .newGen (by rw [h.size]; exact r), h3, ok⟩
  | call _ _ ih1 ih2 =>
    intro hf hq B s2 h
    obtain ⟨s3, r3, h3, ok3⟩ := ih1 rfl rfl h
    obtain ⟨s4, r4, h4, ok4⟩ := ih2 rfl hq h3
    rw [px_call]
    exact ⟨s4, .call r3 r4, h4, ok4⟩
  | callSusp _ ih =>
    intro hf hq B s2 h
    obtain ⟨s3, r3, h3, ok3⟩ := ih rfl (quiet_app hq) h
    rw [px_call]
    refine ⟨s3, ?_, h3, split_app ok3 rfl⟩
    rw [pxE_app]
    exact .callSusp r3
  | «yield» =>
    intro hf hq B s2 h
    rw [quiet_g hq, px_yield]
    exact ⟨s2, .yield, h, rfl⟩
  | resumeFresh e _ q _ ih1 ih2 =>
    intro hf hq B s2 h
    obtain ⟨hb, e2⟩ := h.awake e rfl
    obtain ⟨s3, r3, h3, ok3⟩ := ih1 rfl q (h.set hb fun _ _ _ _ _ _ z => by cases z)
    obtain ⟨q1, q2, q3⟩ := quiet_px q
    obtain ⟨s5, r5, h5, ok5⟩ := ih2 rfl hq (h3.set hb fun _ _ _ _ _ _ => cut_of ok3)
    rw [px_resume]
    exact ⟨s5, .resumeFresh e2 r3 q1 (by rw [q2, q3]; exact r5), h5, ok5⟩
  | resumeSuspended e hr q _ ih1 ih2 =>
    intro hf hq B s2 h
    obtain ⟨hb, e2, hcut⟩ := h.woken e (fun z => under_none hr _ z)
    obtain ⟨s3, r3, h3, ok3⟩ := ih1 hcut q (h.set hb fun _ _ _ _ _ _ z => by cases z)
    obtain ⟨q1, q2, q3⟩ := quiet_px q
    obtain ⟨s5, r5, h5, ok5⟩ := ih2 rfl hq (h3.set hb fun _ _ _ _ _ _ => cut_of ok3)
    rw [px_resume]
    exact ⟨s5, .resumeSuspended e2 r3 q1 (by rw [q2, q3]; exact r5), h5, ok5⟩
  | resumeJustStarted e hv _ ih =>
    intro hf hq B s2 h
    obtain ⟨s3, r, h3, ok⟩ := ih rfl hq h
    rw [px_resume]
    exact ⟨s3, .resumeJustStarted (h.awake e rfl).2 hv r, h3, ok⟩
  | resumeThrowFresh e _ ih =>
    intro hf hq B s2 h
    obtain ⟨hb, e2⟩ := h.awake e rfl
    obtain ⟨s3, r, h3, ok⟩ := ih rfl hq (h.fin hb)
    rw [px_resume]
    exact ⟨s3, .resumeThrowFresh e2 r, h3, ok⟩
  | resumeRunning e _ ih =>
    intro hf hq B s2 h
    obtain ⟨s3, r, h3, ok⟩ := ih rfl hq h
    rw [px_resume]
    exact ⟨s3, .resumeRunning (h.awake e rfl).2 r, h3, ok⟩
  | resumeFinished e _ ih =>
    intro hf hq B s2 h
    obtain ⟨s3, r, h3, ok⟩ := ih rfl hq h
    rw [px_resume]
    exact ⟨s3, .resumeFinished (h.awake e rfl).2 r, h3, ok⟩
  | @segRet Γ p t k hh g l c1 p1 kp fs s r sa e s' _ _ ih1 ih2 =>
    intro hf hq B s2 h
    obtain ⟨s3, r3, h3, ok3⟩ := ih1 rfl rfl h
    obtain ⟨s4, r4, h4, ok4⟩ := ih2 (split_tail hf) hq h3
    refine ⟨s4, .segRet (s₁ := s3) ?_ r4, h4, ok4⟩
    have e := over_px Γ (.ret k hh g l c1 p1 kp :: fs)
    rw [← e] at r3
    exact r3
  | segGen => intro hf; cases hf
  | @segSuspOut Γ p t F fs s v g0 l0 k0 c0 p0 fs0 s' hs _ ih =>
    intro hf hq B s2 h
    obtain ⟨s3, r3, h3, ok3⟩ := ih rfl (quiet_app hq) h
    refine ⟨s3, ?_, h3, split_app ok3 hs⟩
    rw [pxE_app]
    have e := over_px Γ (F :: fs)
    rw [← e] at r3
    exact .segSuspOut (split_none hs) r3
  | segSuspGen hs => intro hf; rw [hs] at hf; cases hf
end XG

namespace XG
open PySem L2
/-! ### wishes -/
section
variable {P : Program} {w : World} {B : Nat → Option GenState}
theorem returns_px {Γ : Ctx} {p : Pos} {s1 s1' s2 : Shared} {r : Result} (h : Returns (model P w) Γ p s1 r s1') (hs : SR B s1 s2) : ∃ s2', Returns (modelX P w) Γ p s2 r s2' ∧ SR B s1' s2' := by
  obtain ⟨s3, r3, h3, _⟩ := runs_px h rfl rfl hs
  exact ⟨s3, r3, h3⟩
theorem wakes_px {Γ : Ctx} {p : Pos} {g : Nat} {r : Resume} {s1 s1' s2 : Shared} {res : GenResult} (h : Wakes (model P w) Γ p g r s1 res s1') (hs : SR B s1 s2) : ∃ s2', Wakes (modelX P w) Γ p g r s2 res s2' ∧ SR B s1' s2' := by
  unfold Wakes at h
  cases hg : s1.gens[g]? with
  | none => rw [hg] at h; exact h.elim
  | some x =>
    rw [hg] at h
    cases x with
    | fresh c =>
      obtain ⟨hb, e2⟩ := hs.awake hg rfl
      have e2 : s2.gens[g]? = some (.fresh c) := e2
      unfold Wakes
      rw [e2]
      cases r with
      | send v =>
        cases v with
        | none =>
          obtain ⟨e1, sa, hr, q, rfl, rfl⟩ := h
          obtain ⟨s3, r3, h3, ok3⟩ := runs_px hr rfl q (hs.set hb fun _ _ _ _ _ _ z => by cases z)
          obtain ⟨q1, q2, q3⟩ := quiet_px q
          exact ⟨_, ⟨_, s3, r3, q1, q3.symm, rfl⟩, by rw [q2]; exact h3.set hb fun _ _ _ _ _ _ => cut_of ok3⟩
        | _ => obtain ⟨rfl, rfl⟩ := h; exact ⟨s2, ⟨rfl, rfl⟩, hs⟩
      | throw x => obtain ⟨rfl, rfl⟩ := h; exact ⟨_, ⟨rfl, rfl⟩, hs.fin hb⟩
    | suspended k l c p0 fs cl =>
      obtain ⟨e1, sa, hr, q, rfl, rfl⟩ := h
      obtain ⟨hb, e2, hcut⟩ := hs.woken hg (fun z => under_none hr _ z)
      obtain ⟨s3, r3, h3, ok3⟩ := runs_px hr hcut q (hs.set hb fun _ _ _ _ _ _ z => by cases z)
      obtain ⟨q1, q2, q3⟩ := quiet_px q
      unfold Wakes
      rw [e2]
      exact ⟨_, ⟨_, s3, r3, q1, q3.symm, rfl⟩, by rw [q2]; exact h3.set hb fun _ _ _ _ _ _ => cut_of ok3⟩
    | running =>
      have e2 : s2.gens[g]? = some .running := (hs.awake hg rfl).2
      unfold Wakes
      rw [e2]
      obtain ⟨rfl, rfl⟩ := h
      exact ⟨s2, ⟨rfl, rfl⟩, hs⟩
    | finished =>
      have e2 : s2.gens[g]? = some .finished := (hs.awake hg rfl).2
      unfold Wakes
      rw [e2]
      obtain ⟨rfl, rfl⟩ := h
      exact ⟨s2, ⟨rfl, rfl⟩, hs⟩
/-- the same wish, of the state here -/
abbrev like (B : Nat → Option GenState) {α : Type} (Q : α → Pos → Shared → Prop) : α → Pos → Shared → Prop := fun a p s2 => ∃ s1, SR B s1 s2 ∧ Q a p s1
theorem wp_px {α : Type} {Γ : Ctx} : ∀ (t : Sem α) {Q : α → Pos → Shared → Prop} {E : Value → Pos → Shared → Prop} {p : Pos} {s1 s2 : Shared}, SR B s1 s2 → Sem.wp (model P w) Γ t Q E p s1 → Sem.wp (modelX P w) Γ t (like B Q) (like B E) p s2
  | .pure a, _, _, _, s1, _, hs, h => ⟨s1, hs, h⟩
  | .raise a, _, _, _, s1, _, hs, h => ⟨s1, hs, h⟩
  | .unsupported _, _, _, _, _, _, _, h => h.elim
  | .finish _, _, _, _, _, _, _, h => h.elim
  | .rule _ k, _, _, _, _, _, hs, h => wp_px (k ()) hs h
  | .at _ k, _, _, _, _, _, hs, h => wp_px (k ()) hs h
  | .load a _ k, _, _, _, _, _, hs, h => by
    obtain ⟨o, e, h⟩ := h
    exact ⟨o, by rw [hs.heap]; exact e, wp_px (k o) hs h⟩
  | .update a _ f k, _, _, _, _, _, hs, h => by
    obtain ⟨e, h⟩ := h
    obtain ⟨G, rfl⟩ := hs.eq
    exact ⟨e, wp_px (k ()) hs.go h⟩
  | .loadIfAlive a k, _, _, _, s1, _, hs, h => by
    show Sem.wp _ _ (k (_)) _ _ _ _
    rw [hs.heap]
    exact wp_px (k _) hs h
  | .point _ k, _, _, _, _, _, hs, h => wp_px (k ()) hs h
  | .register _ _, _, _, _, _, _, _, h => h.elim
  | .alloc o k, _, _, _, _, _, hs, h => by
    obtain ⟨G, rfl⟩ := hs.eq
    exact wp_px (k _) hs.go h
  | .fresh k, _, _, _, _, _, hs, h => by
    obtain ⟨G, rfl⟩ := hs.eq
    exact wp_px (k _) hs.go h
  | .ask k, _, _, _, _, _, hs, h => wp_px (k _) hs h
  | .choose src n k, _, _, _, _, _, hs, h => by
    obtain ⟨e, h⟩ := h
    obtain ⟨G, rfl⟩ := hs.eq
    exact ⟨e, wp_px (k _) hs.go h⟩
  | .os q _ k, _, _, _, _, _, hs, h => by
    obtain ⟨G, rfl⟩ := hs.eq
    exact wp_px (k _) hs.go h
  | .call c hd _ _ k, _, _, _, _, _, hs, h => by
    obtain ⟨r, s1', hr, h⟩ := h
    obtain ⟨s2', r2, h2⟩ := returns_px hr hs
    exact ⟨r, s2', r2, wp_px (k r) h2 h⟩
  | .handled own k, _, _, _, _, _, hs, h => wp_px (k _) hs h
  | .genState g k, _, _, _, _, _, hs, h => by
    obtain ⟨x, e, h⟩ := h
    obtain ⟨x2, e2, q2⟩ := hs.seen e
    exact ⟨x2, e2, by rw [q2]; exact wp_px (k _) hs h⟩
  | .newGen c k, _, _, _, _, _, hs, h => by
    show Sem.wp _ _ (k (_)) _ _ _ _
    rw [hs.size]
    exact wp_px (k _) hs.push h
  | .resume g r _ k, _, _, _, _, _, hs, h => by
    obtain ⟨res, s1', hw, h⟩ := h
    obtain ⟨s2', w2, h2⟩ := wakes_px hw hs
    exact ⟨res, s2', w2, wp_px (k res) h2 h⟩
  | .yield .., _, _, _, _, _, _, h => h.elim
  | .stack k, _, _, _, _, _, hs, h => wp_px (k _) hs h
  | .fork .., _, _, _, _, _, _, h => h.elim
  | .thread k, _, _, _, _, _, hs, h => wp_px (k _) hs h
  | .await .., _, _, _, _, _, _, h => h.elim
theorem wpAny_px {α : Type} {A : Around} {t : Sem α} {Q : α → Shared → Prop} {E : Value → Shared → Prop} {s1 s2 : Shared} (hs : SR B s1 s2) (h : wpAny (model P w) A t Q E s1) :
    wpAny (modelX P w) A t (fun a s2' => ∃ s1', SR B s1' s2' ∧ Q a s1') (fun e s2' => ∃ s1', SR B s1' s2' ∧ E e s1') s2 := fun Γ p hΓ => wp_px t hs (h Γ p hΓ)
theorem codeAny_px {A : Around} {c : Code} {R : Result → Shared → Prop} {s1 s2 : Shared} (hs : SR B s1 s2) (h : codeAny (model P w) A c R s1) : codeAny (modelX P w) A c (fun r s2' => ∃ s1', SR B s1' s2' ∧ R r s1') s2 := fun Γ p hc hΓ => by
  obtain ⟨r, s1', hr, h⟩ := h Γ p hc hΓ
  obtain ⟨s2', r2, h2⟩ := returns_px hr hs
  exact ⟨r, s2', r2, s1', h2, h⟩
end
/-! ### the sleepers poisoned -/
def sleepers (s : Shared) : Nat → Option GenState := fun i => match s.gens[i]? with
  | some x => if isSus x then some x else none
  | none => none
def asleepG (s : Shared) : Array GenState := s.gens.map poison
theorem poison_aw {x : GenState} (h : isSus x = false) : poison x = x ∧ pxG x = x := by
  cases x <;> first | (cases h; done) | exact ⟨rfl, rfl⟩
theorem sr_start (s : Shared) : SR (sleepers s) { s with gens := asleepG s } s := by
  have key : ∀ i, (asleepG s)[i]? = (s.gens[i]?).map poison := fun i => by unfold asleepG; rw [Array.getElem?_map]
  refine ⟨rfl, rfl, rfl, rfl, by show s.gens.size = (asleepG s).size; unfold asleepG; rw [Array.size_map], fun i x h => ?_, fun i h => ?_, fun i k l c p fs cl h e => ?_⟩
  · unfold sleepers at h
    cases e : s.gens[i]? with
    | none => rw [e] at h; cases h
    | some y =>
      rw [e] at h
      dsimp only at h
      split at h
      · rename_i q
        cases h
        exact ⟨q, by show (asleepG s)[i]? = _; rw [key, e]; rfl, rfl⟩
      · cases h
  · show s.gens[i]? = ((asleepG s)[i]?).map pxG
    rw [key]
    unfold sleepers at h
    cases e : s.gens[i]? with
    | none => rfl
    | some y =>
      rw [e] at h
      dsimp only at h
      split at h
      · cases h
      · rename_i q
        obtain ⟨a, b⟩ := poison_aw (by simpa using q)
        show some y = some (pxG (poison y))
        rw [a, b]
  · have e : (asleepG s)[i]? = _ := e
    rw [key] at e
    unfold sleepers at h
    cases e2 : s.gens[i]? with
    | none => rw [e2] at e; cases e
    | some y =>
      rw [e2] at e h
      dsimp only at h
      split at h
      · cases h
      · rename_i q
        have e : some (poison y) = _ := e
        rw [(poison_aw (by simpa using q)).1] at e
        cases e
        exact absurd rfl q
/-- nothing that sleeps is touched -/
theorem SR.kept {s s1 s2 : Shared} (h : SR (sleepers s) s1 s2) {i : Nat} {x : GenState} (e : s.gens[i]? = some x) (q : isSus x = true) : s2.gens[i]? = some x := by
  have : sleepers s i = some x := by unfold sleepers; rw [e]; exact if_pos q
  exact (h.bad i x this).2.2
end XG

namespace XG
open PySem
/-! ### the machine beside its quiet twin -/
inductive GX : GenState → GenState → Prop
  | fresh (c : Code) : GX (.fresh c) (.fresh c)
  | running : GX .running .running
  | finished : GX .finished .finished
  | sus (k : Resume → Sem PySem.Fin) (l : List Value) (c : Code) (p : Pos) (fs : List Frame) (g : Bool) :
      GX (.suspended k l c p fs (g || fs.any Frame.guarded)) (.suspended (fun r => px c (k r)) (pl c g l) c p (fs.map pxF) ((bif isYf c then false else g) || fs.any Frame.guarded))
structure SX (s1 s2 : Shared) : Prop where
  heap : s2.heap = s1.heap
  drawn : s2.drawn = s1.drawn
  toks : s2.toks = s1.toks
  os : s2.os = s1.os
  size : s2.gens.size = s1.gens.size
  gen : ∀ (i : Nat) (x : GenState), s1.gens[i]? = some x → ∃ y, s2.gens[i]? = some y ∧ GX x y
def loudG : GenState → Bool
  | .suspended _ (.bool true :: _) c _ _ _ => isYf c
  | _ => false
/-- whom it delegates to -/
def delegG : GenState → Option Addr
  | .suspended _ _ c _ _ _ => deleg c
  | _ => none
/-- whoever sleeps over another one: that one is still a generator -/
def SureG (s : Shared) : Prop := ∀ (i : Nat) (x : GenState), s.gens[i]? = some x → loudG x = true → ∃ a o, delegG x = some a ∧ s.heap.get? a = some o ∧ isGenO o = true
section
variable {s1 s2 : Shared}
theorem SX.eq (h : SX s1 s2) : ∃ G, s2 = ⟨s1.heap, G, s1.drawn, s1.toks, s1.os⟩ := by
  obtain ⟨hp, G, d, t, o⟩ := s2
  have e1 : hp = _ := h.heap
  have e2 : d = _ := h.drawn
  have e3 : t = _ := h.toks
  have e4 : o = _ := h.os
  subst e1 e2 e3 e4
  exact ⟨G, rfl⟩
theorem SX.go {G1 G2 : Array GenState} {hp hp' : Heap} {d d' : Drawn} {t t' : Nat} {o o' : OsState} (h : SX ⟨hp, G1, d, t, o⟩ ⟨hp, G2, d, t, o⟩) : SX ⟨hp', G1, d', t', o'⟩ ⟨hp', G2, d', t', o'⟩ := ⟨rfl, rfl, rfl, rfl, h.size, h.gen⟩
theorem SX.none {i : Nat} (h : SX s1 s2) (e : s1.gens[i]? = none) : s2.gens[i]? = none := by
  rw [Array.getElem?_eq_none_iff] at e ⊢
  rw [h.size]; exact e
theorem SX.set {G1 G2 : Array GenState} {hp : Heap} {d : Drawn} {t : Nat} {o : OsState} (h : SX ⟨hp, G1, d, t, o⟩ ⟨hp, G2, d, t, o⟩) {g : Nat} {x y : GenState} (r : GX x y) : SX ⟨hp, G1.setIfInBounds g x, d, t, o⟩ ⟨hp, G2.setIfInBounds g y, d, t, o⟩ := by
  have hz : G2.size = G1.size := h.size
  refine ⟨rfl, rfl, rfl, rfl, by simp [hz], fun i z e => ?_⟩
  have e : (G1.setIfInBounds g x)[i]? = _ := e
  show ∃ y', (G2.setIfInBounds g y)[i]? = some y' ∧ _
  rw [get_set] at e ⊢
  rw [hz]
  split at e
  · rename_i q
    cases e
    rw [if_pos q]
    exact ⟨y, rfl, r⟩
  · rename_i q
    rw [if_neg q]
    exact h.gen i z e
theorem SX.push {G1 G2 : Array GenState} {hp : Heap} {d : Drawn} {t : Nat} {o : OsState} (h : SX ⟨hp, G1, d, t, o⟩ ⟨hp, G2, d, t, o⟩) {c : Code} : SX ⟨hp, G1.push (.fresh c), d, t, o⟩ ⟨hp, G2.push (.fresh c), d, t, o⟩ := by
  have hz : G2.size = G1.size := h.size
  refine ⟨rfl, rfl, rfl, rfl, by simp [hz], fun i z e => ?_⟩
  have e : (G1.push (.fresh c))[i]? = _ := e
  show ∃ y', (G2.push (.fresh c))[i]? = some y' ∧ _
  rw [Array.getElem?_push] at e ⊢
  rw [hz]
  split at e
  · cases e; rename_i q; rw [if_pos q]; exact ⟨_, rfl, .fresh c⟩
  · rename_i q; rw [if_neg q]; exact h.gen i z e
theorem deleg_code {c : Code} {a : Addr} (h : isYf c = true) (hd : deleg c = some a) : ∃ r kw, c = .builtin "proto.yield_from" ⟨.ref a :: r, kw⟩ := by
  unfold isYf at h
  split at h
  · rename_i i args
    have e : i = "proto.yield_from" := by simpa using h
    subst e
    obtain ⟨ps, kw⟩ := args
    unfold deleg at hd
    split at hd
    · rename_i i' a' r' kw' e
      cases e
      cases hd
      exact ⟨_, _, rfl⟩
    · cases hd
  · cases h
/-- at its end the thread forgets all that sleep -/
theorem SX.lets {s3 : Shared} (h : SX s1 s2) (hl : leftWithCleanup s2.gens = false) (hn : SureG s2) (hf : s3.forget = s1.forget) (hr : s3.heap.life.registered = []) (all : Bool) : leftWithCleanup (forgetSuspended all s3).gens = false := by
  obtain ⟨eh, _, _, _, eg⟩ := Shared.forget_eq hf
  unfold leftWithCleanup at hl ⊢
  unfold forgetSuspended
  rw [Array.any_eq_false'] at hl ⊢
  intro x hx
  obtain ⟨y, hy, rfl⟩ := Array.mem_map.mp hx
  obtain ⟨i, hi, rfl⟩ := Array.mem_iff_getElem.mp hy
  have e3 : s3.gens[i]? = some s3.gens[i] := Array.getElem?_eq_getElem hi
  generalize s3.gens[i] = y at e3 hx hy ⊢
  have e1 : (s1.gens[i]?).map GenState.forget = some y.forget := by
    rw [← Array.getElem?_map, ← eg, Array.getElem?_map, e3]
    rfl
  cases y with
  | suspended k l c p fs cl =>
    cases cl with
    | false => simp
    | true =>
      obtain ⟨z, ez, hz⟩ := Option.map_eq_some_iff.mp e1
      obtain ⟨y2, e2, r⟩ := h.gen i z ez
      have l2 := hl y2 (Array.mem_of_getElem? e2)
      have n2 := hn i y2 e2
      cases r with
      | sus k0 l0 c0 p0 fs0 g =>
        simp only [GenState.forget_suspended, GenState.suspended.injEq] at hz
        obtain ⟨_, _, rfl, _, efs, eg0⟩ := hz
        have hguard : fs.any Frame.guarded = fs0.any Frame.guarded := by rw [← any_guarded_forgetAll, ← efs, any_guarded_forgetAll]
        simp only at l2
        have l2 : ((bif isYf c0 then false else g) || fs0.any Frame.guarded) = false := by simpa using l2
        obtain ⟨l3, l4⟩ := Bool.or_eq_false_iff.mp l2
        rw [l4, Bool.or_false] at eg0
        subst eg0
        cases hc : isYf c0 with
        | false => rw [hc] at l3; cases l3
        | true =>
          have lo : loudG (.suspended (fun r => px c0 (k0 r)) (pl c0 true l0) c0 p0 (fs0.map pxF) ((bif isYf c0 then false else true) || fs0.any Frame.guarded)) = true := by
            unfold pl
            rw [hc]
            exact hc
          obtain ⟨a, o, d1, d2, d3⟩ := n2 lo
          have d1 : deleg c0 = some a := d1
          obtain ⟨rr, kw, rfl⟩ := deleg_code hc d1
          have d2 : s3.heap.get? a = some o := by rw [eh, ← h.heap]; exact d2
          have sh : closingShows s3 fs (.builtin "proto.yield_from" ⟨.ref a :: rr, kw⟩) true = false := by
            unfold closingShows
            rw [hguard, l4]
            show delegateShows s3 (.ref a) = false
            unfold delegateShows
            unfold isGenO at d3
            simp only [d2]
            cases q : o.genNumber? with
            | none => rw [q] at d3; cases d3
            | some n => simp [hr]
          simp [sh]
      | _ => cases hz
  | _ => simp
end
/-! ### one step -/
/-- a thread at its end -/
def AtEnd (t : Thread) (r : Result) : Prop := t.stack = [] ∧ ((∃ f, t.cur = .pure (.done f) ∧ r = .ok f) ∨ ∃ e, t.cur = .raise e ∧ r = .error e)
inductive StepR (t1 : Thread) (s2 : Shared) : Step → Step → Prop
  | go {sa sb : Shared} {cur : Sem PySem.Fin} {code : Code} {pos : Pos} {st : List Frame} : SX sa sb → StepR t1 s2 (.go sa ⟨cur, code, pos, st⟩) (.go sb ⟨px code cur, code, pos, st.map pxF⟩)
  | fin {x : Step} (r : Result) : AtEnd t1 r → StepR t1 s2 x (finish (outcomeOf r) s2)
  | none {x : Step} {o2 : Outcome} {sb : Shared} : (∀ r, o2 ≠ outcomeOf r) → StepR t1 s2 x (.halt o2 sb)
theorem StepR.no {t1 : Thread} {s2 : Shared} {x : Step} {o2 : Outcome} {sb : Shared} (h : ∀ r, o2 ≠ outcomeOf r) : StepR t1 s2 x (.halt o2 sb) := .none h
theorem StepR.nofin {t1 : Thread} {s2 : Shared} {x : Step} {o2 : Outcome} {sb : Shared} (h : ∀ r, o2 ≠ outcomeOf r) : StepR t1 s2 x (finish o2 sb) := by
  unfold finish
  split
  · exact .none fun r e => by cases r <;> cases e
  · exact .none h
theorem px_unsup {c : Code} {x : String} : px c (.unsupported x) = .unsupported x := by unfold px; cases isYf c <;> rfl
theorem px_finish {c : Code} {x : Ending} : px c (.finish x) = .finish x := by unfold px; cases isYf c <;> rfl
theorem px_register {c : Code} {a k} : px c (.register a k) = .register a fun x => px c (k x) := by unfold px; cases isYf c <;> rfl
theorem px_fork {c : Code} {a k} : px c (.fork a k) = .fork a fun x => px c (k x) := by unfold px; cases isYf c <;> rfl
theorem px_await {c : Code} {a f d l k} : px c (.await a f d l k) = .await a f d l fun x => px c (k x) := by unfold px; cases isYf c <;> rfl
section
variable {P : Program} {w : World} {heap : Heap} {G1 G2 : Array GenState} {dr : Drawn} {tk : Nat} {os : OsState} {code : Code} {pos : Pos} {st : List Frame}
abbrev den1 : Code → Sem PySem.Fin := denote table
abbrev den2 : Code → Sem PySem.Fin := fun c => px c (denote table c)
theorem px_den (c : Code) : den2 c = px c (den1 c) := rfl
theorem sim_same {cur : Sem PySem.Fin} (h : SX ⟨heap, G1, dr, tk, os⟩ ⟨heap, G2, dr, tk, os⟩) (hn : ∀ v l k, cur = .yield v true l k → isYf code = false) :
    StepR ⟨cur, code, pos, st⟩ ⟨heap, G2, dr, tk, os⟩ (stepK den1 P w ⟨heap, G1, dr, tk, os⟩ ⟨cur, code, pos, st⟩) (stepK den2 P w ⟨heap, G2, dr, tk, os⟩ ⟨px code cur, code, pos, st.map pxF⟩) := by
  cases cur with
  | pure f =>
    rw [px_pure]
    cases f with
    | again c => exact .go h
    | done f =>
      cases st with
      | nil => exact .fin (.ok f) ⟨rfl, .inl ⟨f, rfl, rfl⟩⟩
      | cons F rest =>
        cases F with
        | ret k hd g l c p kp => exact .go h
        | gen g k l c p => exact .go (h.set .finished)
  | raise e =>
    rw [px_raise]
    cases st with
    | nil => exact .fin (.error e) ⟨rfl, .inr ⟨e, rfl, rfl⟩⟩
    | cons F rest =>
      cases F with
      | ret k hd g l c p kp => exact .go h
      | gen g k l c p => exact .go (h.set .finished)
  | unsupported x => rw [px_unsup]; exact .no fun r e => by cases r <;> cases e
  | finish e =>
    rw [px_finish]
    show StepR _ _ _ (if leftWithCleanup G2 then _ else _)
    split <;> exact .no fun r e => by cases r <;> cases e
  | rule t k => rw [px_rule]; exact .go h
  | «at» p k => rw [px_at]; exact .go h
  | load a q k =>
    rw [px_load]
    show StepR _ _ (match heap.get? a with | some o => _ | none => _) (match heap.get? a with | some o => _ | none => _)
    cases heap.get? a with
    | none => exact .no fun r e => by cases r <;> cases e
    | some o => exact .go h
  | update a q f k =>
    rw [px_update]
    show StepR _ _ (if (heap.get? a).isSome then _ else _) (if (heap.get? a).isSome then _ else _)
    split
    · exact .go h.go
    · exact .no fun r e => by cases r <;> cases e
  | alloc o k => rw [px_alloc]; exact .go h.go
  | loadIfAlive a k => rw [px_alive]; exact .go h
  | point l k => rw [px_point]; exact .go h
  | register a k => rw [px_register]; exact .no fun r e => by cases r <;> cases e
  | fresh k => rw [px_fresh]; exact .go h.go
  | ask k => rw [px_ask]; exact .go h
  | choose s n k =>
    rw [px_choose]
    show StepR _ _ (if n = 0 then _ else _) (if n = 0 then _ else _)
    split
    · exact .no fun r e => by cases r <;> cases e
    · exact .go h.go
  | os q l k => rw [px_os]; exact .go h.go
  | call c hd g l k => rw [px_call]; exact .go h
  | handled own k =>
    rw [px_handled]
    have e : (if own then (match splitAtGen (st.map pxF) with | some (fs, _, _) => fs | none => st.map pxF) else st.map pxF) = (if own then (match splitAtGen st with | some (fs, _, _) => fs | none => st) else st).map pxF := by
      cases own
      · rfl
      · rw [split_px]
        cases splitAtGen st <;> rfl
    show StepR _ _ (.go _ _) (.go _ ⟨px code (k (topHandled (if own then (match splitAtGen (st.map pxF) with | some (fs, _, _) => fs | none => st.map pxF) else st.map pxF))), _, _, _⟩)
    rw [e]
    unfold topHandled
    rw [topGo_px]
    exact .go h
  | newGen c k =>
    rw [px_newGen]
    have hz : G2.size = G1.size := h.size
    show StepR _ _ (.go _ ⟨k G1.size, _, _, _⟩) (.go _ ⟨px code (k G2.size), _, _, _⟩)
    rw [hz]
    exact .go h.push
  | genState g k =>
    rw [px_genState]
    show StepR _ _ (match G1[g]? with | none => _ | some x => _) (match G2[g]? with | none => _ | some x => _)
    cases e1 : G1[g]? with
    | none =>
      have e2 : G2[g]? = none := h.none e1
      rw [e2]
      exact .no fun r e => by cases r <;> cases e
    | some x =>
      obtain ⟨y, e2, r⟩ := h.gen g x e1
      have e2 : G2[g]? = some y := e2
      rw [e2]
      cases r with
      | sus k0 l c p fs b =>
        show StepR _ _ (.go _ _) (.go _ ⟨px code (k (.suspended, some ((c, p) :: (fs.map pxF).map Frame.where_))), _, _, _⟩)
        rw [wheres_px]
        exact .go h
      | _ => exact .go h
  | resume g r l k =>
    rw [px_resume]
    show StepR _ _ (match G1[g]? with | none => _ | some (.fresh c) => _ | some (.suspended kk _ c p frames _) => _ | some .running => _ | some .finished => _) (match G2[g]? with | none => _ | some (.fresh c) => _ | some (.suspended kk _ c p frames _) => _ | some .running => _ | some .finished => _)
    cases e1 : G1[g]? with
    | none =>
      have e2 : G2[g]? = none := h.none e1
      rw [e2]
      exact .no fun r e => by cases r <;> cases e
    | some x =>
      obtain ⟨y, e2, rr⟩ := h.gen g x e1
      have e2 : G2[g]? = some y := e2
      rw [e2]
      cases rr with
      | sus k0 l0 c p fs b =>
        show StepR _ _ (.go _ ⟨k0 r, c, p, fs ++ .gen g k l code pos :: st⟩) (.go _ ⟨px c (k0 r), c, p, fs.map pxF ++ pxF (.gen g k l code pos) :: st.map pxF⟩)
        have : fs.map pxF ++ pxF (.gen g k l code pos) :: st.map pxF = (fs ++ .gen g k l code pos :: st).map pxF := by rw [List.map_append]; rfl
        rw [this]
        exact .go (h.set .running)
      | fresh c =>
        cases r with
        | send v => cases v <;> first | exact .go (h.set .running) | exact .go h
        | throw e => exact .go (h.set .finished)
      | _ => exact .go h
  | «yield» v g l k =>
    have hp : px code (.yield v g l k) = .yield v g (pl code g l) fun x => px code (k x) := by
      cases g with
      | false => exact px_yield
      | true =>
        have := hn v l k rfl
        unfold px pl
        rw [this]
        rfl
    rw [hp]
    show StepR _ _ (match splitAtGen st with | some (frames, (g0, k0, c, p), rest) => _ | none => _) (match splitAtGen (st.map pxF) with | some (frames, (g0, k0, c, p), rest) => _ | none => _)
    rw [split_px]
    cases splitAtGen st with
    | none => exact .no fun r e => by cases r <;> cases e
    | some x =>
      obtain ⟨fs, ⟨g0, k0, c, p⟩, rest⟩ := x
      refine .go (h.set ?_)
      have e : (g || (fs.map pxF).any Frame.guarded) = ((bif isYf code then false else g) || fs.any Frame.guarded) := by
        rw [guards_px]
        cases g with
        | false => cases isYf code <;> rfl
        | true => rw [hn v l k rfl]; rfl
      show GX _ (.suspended _ _ _ _ _ (g || (fs.map pxF).any Frame.guarded))
      rw [e]
      exact .sus k l code pos fs g
  | stack k =>
    rw [px_stack]
    show StepR _ _ (.go _ _) (.go _ ⟨px code (k ((code, pos) :: (st.map pxF).map Frame.where_)), _, _, _⟩)
    rw [wheres_px]
    exact .go h
  | fork c k => rw [px_fork]; exact .no fun r e => by cases r <;> cases e
  | thread k => rw [px_thread]; exact .go h
  | await a f d l k => rw [px_await]; exact .no fun r e => by cases r <;> cases e
end
end XG

namespace XG
open PySem
/-! ### the schedule: a generator that sleeps over a delegate is let -/
structure LateY (s : Shared) (t : Thread) : Prop where
  ex : ∃ v l k a o, t.cur = .yield v true l k ∧ isYf t.code = true ∧ deleg t.code = some a ∧ s.heap.get? a = some o ∧ isGenO o = true
  fr : ∀ x, splitAtGen t.stack = some x → x.1.any Frame.guarded = false
def Fine (s : Shared) (t : Thread) : Prop := t.calm = true ∨ LateY s t
section
variable {den : Code → Sem PySem.Fin} {P : Program} {w : World}
theorem yf_code {c : Code} {a : Addr} (h : isYf c = true) (hd : deleg c = some a) : ∃ r kw, c = .builtin "proto.yield_from" ⟨.ref a :: r, kw⟩ := by
  unfold isYf at h
  split at h
  · rename_i i args
    have e : i = "proto.yield_from" := by simpa using h
    subst e
    obtain ⟨ps, kw⟩ := args
    unfold deleg at hd
    split at hd
    · rename_i i' a' r' kw' e
      cases e
      cases hd
      exact ⟨_, _, rfl⟩
    · cases hd
  · cases h
theorem late_moves (pr : Profile) (s : Shared) (v : Value) (l : List Value) (k : Resume → Sem PySem.Fin) (code : Code) (pos : Pos) (st : List Frame) : (Config.single s ⟨.yield v true l k, code, pos, st⟩).moves pr = [.run 0] := by
  simp [Config.moves, Config.single, movesFrom, Thread.moves, Thread.atomic, Thread.rests, Thread.tells]
theorem late_pick (s : Shared) (v : Value) (l : List Value) (k : Resume → Sem PySem.Fin) (code : Code) (pos : Pos) (st : List Frame) (hr : s.heap.life.registered = []) :
    (Config.single s ⟨.yield v true l k, code, pos, st⟩).pick w = .ok (.run 0, .single s ⟨.yield v true l k, code, pos, st⟩) := by
  have a1 : (Config.single s ⟨.yield v true l k, code, pos, st⟩).collect? w.params = none := by simp [Config.collect?, Config.single, (nothing_to_collect _ _ _ s _ hr).1]
  have a2 : (Config.single s ⟨.yield v true l k, code, pos, st⟩).collectable = [] := by simp [Config.collectable, Config.single, (nothing_to_collect w.params _ _ s _ hr).2]
  simp only [Config.pick, a1, a2, Config.pickThread, late_moves]
  cases w.params.lifetimes <;> simp
theorem late_life (others : List Value) {s : Shared} {t : Thread} (hz : s.asleep) (h : LateY s t) : lifeStep den P w others s t = step den P w s t := by
  obtain ⟨hr, hc⟩ := hz
  obtain ⟨⟨v, l, k, a, o, e, hy, hd, ho, hg⟩, hf⟩ := h
  obtain ⟨cur, code, pos, st⟩ := t
  have e : cur = .yield v true l k := e
  subst e
  obtain ⟨r, kw, rfl⟩ := yf_code hy hd
  have hshow : ∀ fs : List Frame, fs.any Frame.guarded = false → closingShows s fs (.builtin "proto.yield_from" ⟨.ref a :: r, kw⟩) true = false := fun fs hfs => by
    unfold closingShows
    rw [hfs]
    show delegateShows s (.ref a) = false
    unfold delegateShows
    unfold isGenO at hg
    simp only [ho]
    cases q : o.genNumber? with
    | none => rw [q] at hg; cases hg
    | some n => simp [hr]
  have sp : Thread.special ⟨.yield v true l k, .builtin "proto.yield_from" ⟨.ref a :: r, kw⟩, pos, st⟩ = true := by simp [Thread.special, Thread.atItsEnd, Thread.yieldsInsideHandler]
  unfold lifeStep
  rw [if_pos sp]
  cases q : splitAtGen st with
  | none => simp [collectorTurn?, Thread.atItsEnd, stepCounting, hc, q]
  | some x =>
    obtain ⟨fs, b, rest⟩ := x
    have := hshow fs (hf _ q)
    simp [collectorTurn?, Thread.atItsEnd, stepCounting, hc, q, this]
theorem late_sstep {s : Shared} {t : Thread} (hz : s.asleep) (h : LateY s t) : sstep den P w (.single s t) = (step den P w s t).lift := by
  have hl := fun others => late_life (den := den) (P := P) (w := w) others hz h
  obtain ⟨⟨v, l, k, a, o, e, hy, hd, ho, hg⟩, hf⟩ := h
  obtain ⟨cur, code, pos, st⟩ := t
  have e : cur = .yield v true l k := e
  subst e
  simp only [sstep, late_pick s v l k code pos st hz.1, Config.move]
  simp only [Config.run, Config.single]
  simp [hl, others_single, frozenBadly, ThreadState.insideWrite, Thread.finalizes, Thread.result?]
  cases step den P w s ⟨.yield v true l k, code, pos, st⟩ <;> simp [Step.lift, Config.single]
theorem fine_sstep {s : Shared} {t : Thread} (hz : s.asleep) (h : Fine s t) (hne : step den P w s t ≠ .halt (.unsupported "lifetime:generator-with-cleanup-left-suspended") s) : sstep den P w (.single s t) = (step den P w s t).lift := by
  rcases h with h | h
  · exact (sstep_single den P w s t h hz).resolve_right hne
  · exact late_sstep hz h
theorem sched_run {r : Result} {s' : Shared} : ∀ (n : Nat) (s : Shared) (t : Thread), s.asleep → runN den P w n s t = .halted (outcomeOf r) s' → (∀ k s1 t1, runN den P w k s t = .running s1 t1 → Fine s1 t1) → schedN den P w n (.single s t) = .halted (outcomeOf r) s'
  | 0, _, _, _, h, _ => by cases h
  | n + 1, s, t, hz, h, hf => by
    simp only [runN] at h
    have f0 := hf 0 s t rfl
    cases hs : step den P w s t with
    | go s1 t1 =>
      rw [hs] at h
      have e := fine_sstep (den := den) (P := P) (w := w) hz f0 (by rw [hs]; intro z; cases z)
      simp only [schedN, e, hs, Step.lift]
      refine sched_run n s1 t1 (by simp only [Shared.asleep, step_life den P w s s1 t t1 hs]; exact hz) h fun k s2 t2 hk => hf (k + 1) s2 t2 (by simp only [runN, hs]; exact hk)
    | halt o s1 =>
      rw [hs] at h
      simp only at h
      injection h with h1 h2
      have e := fine_sstep (den := den) (P := P) (w := w) hz f0 (by rw [hs]; intro z; injection z with z1 z2; rw [h1] at z1; cases r <;> cases z1)
      simp only [schedN, e, hs, Step.lift, h1, h2]
end
/-! ### the twins run -/
theorem fine_forget {s1 s2 : Shared} {t1 t2 : Thread} (hs : s1.forget = s2.forget) (ht : t1.forget = t2.forget) (h : Fine s1 t1) : Fine s2 t2 := by
  rcases h with h | h
  · left
    rw [← Thread.calm_forget t2, ← ht, Thread.calm_forget]
    exact h
  · right
    obtain ⟨⟨v, l, k, a, o, e, hy, hd, ho, hg⟩, hf⟩ := h
    have eh := (Shared.forget_eq hs).1
    obtain ⟨c1, d1, p1, st1⟩ := t1
    obtain ⟨c2, d2, p2, st2⟩ := t2
    simp only [Thread.forget, Thread.mk.injEq] at ht
    obtain ⟨rfl, rfl, rfl, hst⟩ := ht
    refine ⟨⟨v, l, k, a, o, e, hy, hd, by rw [← eh]; exact ho, hg⟩, fun x hx => ?_⟩
    have q := splitAtGen_forgetAll st2
    rw [← hst, splitAtGen_forgetAll] at q
    have hx : splitAtGen st2 = some x := hx
    rw [hx] at q
    cases q1 : splitAtGen st1 with
    | none => rw [q1] at q; cases q
    | some y =>
      rw [q1] at q
      simp only [Option.map_some, Option.some.injEq, Prod.mk.injEq] at q
      have h3 := hf y q1
      rw [← any_guarded_forgetAll, ← q.1, any_guarded_forgetAll]
      exact h3
end XG

namespace XG
open PySem
inductive TX (h : Heap) : Thread → Thread → Prop
  | same (cur : Sem PySem.Fin) (code : Code) (pos : Pos) (st : List Frame) : TX h ⟨cur, code, pos, st⟩ ⟨px code cur, code, pos, st.map pxF⟩
  | late (v : Value) (l : List Value) (k : Resume → Sem PySem.Fin) (code : Code) (pos : Pos) (st : List Frame) (a : Addr) (o : Obj) : isYf code = true → deleg code = some a → h.get? a = some o → isGenO o = true →
      TX h ⟨.yield v true l k, code, pos, st⟩ ⟨.yield v false (.bool true :: l) (fun x => px code (k x)), code, pos, st.map pxF⟩
  | dead (t1 : Thread) (x : String) (code : Code) (pos : Pos) (st : List Frame) : TX h t1 ⟨.unsupported x, code, pos, st⟩
theorem calm_px {cur : Sem PySem.Fin} {code : Code} {pos : Pos} {st : List Frame} (hn : ∀ v l k, cur = .yield v true l k → isYf code = false) (h : Thread.calm ⟨px code cur, code, pos, st.map pxF⟩ = true) : Thread.calm ⟨cur, code, pos, st⟩ = true := by
  cases cur with
  | pure f => rw [px_pure] at h; exact h
  | raise e => rw [px_raise] at h; exact h
  | unsupported x => rw [px_unsup] at h; exact h
  | finish e => rw [px_finish] at h; exact h
  | rule t k => rfl
  | «at» p k => rfl
  | load a q k => rfl
  | update a q f k => rfl
  | alloc o k => rfl
  | loadIfAlive a k => rfl
  | point l k => rfl
  | register a k => rw [px_register] at h; cases h
  | fresh k => rfl
  | ask k => rfl
  | choose s n k => rfl
  | os q l k => rfl
  | call c hd g l k => rfl
  | handled own k => rfl
  | newGen c k => rfl
  | genState g k => rfl
  | resume g r l k => rfl
  | «yield» v g l k =>
    have key : Thread.calm ⟨.yield v g (pl code g l) (fun x => px code (k x)), code, pos, st.map pxF⟩ = Thread.calm ⟨.yield v g l k, code, pos, st⟩ := by
      simp only [Thread.calm, Thread.atCollectorCode, Thread.atExit, Thread.yieldsInsideHandler, split_px]
      cases splitAtGen st with
      | none => rfl
      | some x =>
        obtain ⟨fs, b, rest⟩ := x
        simp only [Option.map_some, guards_px]
    have hp : px code (.yield v g l k) = .yield v g (pl code g l) fun x => px code (k x) := by
      cases g with
      | false => exact px_yield
      | true =>
        have := hn v l k rfl
        unfold px pl
        rw [this]
        rfl
    rw [hp, key] at h
    exact h
  | stack k => rfl
  | fork c k => rw [px_fork] at h; cases h
  | thread k => rfl
  | await a f d l k => rw [px_await] at h; cases h
section
variable {P : Program} {w : World} {r : Result} {s2' : Shared}
theorem run_dead {n : Nat} {s : Shared} {x : String} {code : Code} {pos : Pos} {st : List Frame} : runNK den2 P w n s ⟨.unsupported x, code, pos, st⟩ ≠ .halted (outcomeOf r) s2' := by
  cases n with
  | zero => intro h; cases h
  | succ n =>
    intro h
    have : runNK den2 P w (n + 1) s ⟨.unsupported x, code, pos, st⟩ = .halted (.unsupported x) s := rfl
    rw [this] at h
    cases r <;> cases h
theorem sim_run : ∀ (n : Nat) (s1 s2 : Shared) (t1 t2 : Thread), SX s1 s2 → TX s1.heap t1 t2 → runNK den2 P w n s2 t2 = .halted (outcomeOf r) s2' → (∀ k sA tA, runNK den2 P w k s2 t2 = .running sA tA → tA.calm = true) →
    ∃ m sE tE, runNK den1 P w m s1 t1 = .running sE tE ∧ AtEnd tE r ∧ SX sE s2' ∧ leftWithCleanup s2'.gens = false ∧ ∀ k sA tA, k < m → runNK den1 P w k s1 t1 = .running sA tA → Fine sA tA
  | 0, _, _, _, _, _, _, h, _ => by cases h
  | n + 1, s1, s2, t1, t2, hs, ht, h, hc => by
    have c0 := hc 0 s2 t2 rfl
    simp only [runNK] at h
    have hc' : ∀ {sB tB}, stepK den2 P w s2 t2 = .go sB tB → ∀ k sA tA, runNK den2 P w k sB tB = .running sA tA → tA.calm = true := fun {sB tB} e k sA tA hk => hc (k + 1) sA tA (by simp only [runNK, e]; exact hk)
    -- one step of both
    have both : StepR t1 s2 (stepK den1 P w s1 t1) (stepK den2 P w s2 t2) → Fine s1 t1 → ∃ m sE tE, runNK den1 P w m s1 t1 = .running sE tE ∧ AtEnd tE r ∧ SX sE s2' ∧ leftWithCleanup s2'.gens = false ∧ ∀ k sA tA, k < m → runNK den1 P w k s1 t1 = .running sA tA → Fine sA tA := fun R f0 => by
      generalize e1 : stepK den1 P w s1 t1 = x1 at R
      generalize e2 : stepK den2 P w s2 t2 = x2 at R h hc'
      cases R with
      | @go sa sb cur code pos st q =>
        obtain ⟨m, sE, tE, a, b, c, d, e⟩ := sim_run n sa sb _ _ q (.same cur code pos st) h (hc' rfl)
        refine ⟨m + 1, sE, tE, by simp only [runNK, e1]; exact a, b, c, d, fun k sA tA hk hr => ?_⟩
        cases k with
        | zero => injection hr with z1 z2; rw [← z1, ← z2]; exact f0
        | succ k => simp only [runNK, e1] at hr; exact e k sA tA (by omega) hr
      | fin r0 q =>
        unfold finish at h
        cases hl : leftWithCleanup s2.gens with
        | true =>
          rw [hl, if_pos rfl] at h
          injection h with z1 z2
          cases r <;> cases z1
        | false =>
          rw [hl, if_neg Bool.false_ne_true] at h
          injection h with z1 z2
          have er : r0 = r := by cases r0 <;> cases r <;> cases z1 <;> rfl
          subst er z2
          exact ⟨0, s1, t1, rfl, q, hs, hl, fun k sA tA hk => absurd hk (Nat.not_lt_zero _)⟩
      | none q =>
        injection h with z1 z2
        exact absurd z1 (q r)
    obtain ⟨G, rfl⟩ := hs.eq
    cases ht with
    | same cur code pos st =>
      by_cases hl : ∃ v l k, cur = .yield v true l k ∧ isYf code = true
      · obtain ⟨v, l, k, rfl, hy⟩ := hl
        have hp : px code (.yield v true l k) = (match deleg code with
            | some a => Sem.load a none fun o => bif isGenO o then .yield v false (.bool true :: l) (fun x => px code (k x)) else .unsupported "delegate"
            | none => .unsupported "delegate") := by
          unfold px
          rw [hy]
          cases deleg code <;> rfl
        rw [hp] at h hc
        cases hd : deleg code with
        | none =>
          rw [hd] at h
          exact absurd (show runNK den2 P w (n + 1) ⟨s1.heap, G, s1.drawn, s1.toks, s1.os⟩ ⟨.unsupported "delegate", code, pos, st.map pxF⟩ = .halted (outcomeOf r) s2' from h) run_dead
        | some a =>
          rw [hd] at h hc
          cases ho : s1.heap.get? a with
          | none =>
            simp only [stepK, step, ho] at h
            cases r <;> cases h
          | some o =>
            have e : stepK den2 P w ⟨s1.heap, G, s1.drawn, s1.toks, s1.os⟩ ⟨.load a none fun o => bif isGenO o then .yield v false (.bool true :: l) (fun x => px code (k x)) else .unsupported "delegate", code, pos, st.map pxF⟩ = .go ⟨s1.heap, G, s1.drawn, s1.toks, s1.os⟩ ⟨bif isGenO o then .yield v false (.bool true :: l) (fun x => px code (k x)) else .unsupported "delegate", code, pos, st.map pxF⟩ := by
              simp only [stepK, step, ho]
            have h : runNK den2 P w n ⟨s1.heap, G, s1.drawn, s1.toks, s1.os⟩ ⟨bif isGenO o then .yield v false (.bool true :: l) (fun x => px code (k x)) else .unsupported "delegate", code, pos, st.map pxF⟩ = .halted (outcomeOf r) s2' := by
              simp only [] at h
              rw [e] at h
              exact h
            cases hg : isGenO o with
            | false =>
              rw [hg] at h
              exact absurd h run_dead
            | true =>
              rw [hg] at h e
              exact sim_run n s1 _ _ _ hs (.late v l k code pos st a o hy hd ho hg) h fun j sA tA hk => hc (j + 1) sA tA (by simp only [runNK]; rw [e]; exact hk)
      · have hno : ∀ v l k, cur = .yield v true l k → isYf code = false := fun v l k e => by
          cases q : isYf code with
          | false => rfl
          | true => exact absurd ⟨v, l, k, e, q⟩ hl
        refine both ?_ (.inl (calm_px hno c0))
        obtain ⟨hp, G1, d, t, o⟩ := s1
        exact sim_same hs hno
    | late v l k code pos st a o hy hd ho hg =>
      have hguard : ∀ x, splitAtGen st = some x → x.1.any Frame.guarded = false := fun x hx => by
        have c1 : Thread.calm ⟨.yield v false (.bool true :: l) (fun x => px code (k x)), code, pos, st.map pxF⟩ = true := c0
        simp only [Thread.calm, Thread.yieldsInsideHandler, split_px, hx, Option.map_some, guards_px] at c1
        cases q : x.1.any Frame.guarded with
        | false => rfl
        | true => rw [q] at c1; simp at c1
      refine both ?_ (.inr ⟨⟨v, l, k, a, o, rfl, hy, hd, ho, hg⟩, hguard⟩)
      obtain ⟨hp, G1, d, t, o'⟩ := s1
      show StepR _ _ (match splitAtGen st with | some (frames, (g0, k0, c, p), rest) => _ | none => _) (match splitAtGen (st.map pxF) with | some (frames, (g0, k0, c, p), rest) => _ | none => _)
      rw [split_px]
      cases hsp : splitAtGen st with
      | none => exact .no fun r e => by cases r <;> cases e
      | some x =>
        obtain ⟨fs, ⟨g0, k0, c, p⟩, rest⟩ := x
        refine .go (hs.set ?_)
        have e : (false || (fs.map pxF).any Frame.guarded) = ((bif isYf code then false else true) || fs.any Frame.guarded) := by rw [guards_px, hy]; rfl
        have e2 : Value.bool true :: l = pl code true l := by unfold pl; rw [hy]; rfl
        show GX _ (.suspended _ (.bool true :: l) _ _ _ (false || (fs.map pxF).any Frame.guarded))
        rw [e, e2]
        exact .sus k l code pos fs true
    | dead t1 x code pos st => exact absurd (show runNK den2 P w (n + 1) ⟨s1.heap, G, s1.drawn, s1.toks, s1.os⟩ ⟨.unsupported x, code, pos, st⟩ = .halted (outcomeOf r) s2' from h) run_dead
theorem ends_outcome (r : Result) : (outcomeOf r).ends = true := by cases r <;> rfl
/-- the thread at its end -/
theorem end_step {den : Code → Sem PySem.Fin} {s : Shared} {t : Thread} (h : AtEnd t r) (hl : leftWithCleanup s.gens = false) : step den P w s t = .halt (outcomeOf r) s := by
  obtain ⟨cur, code, pos, st⟩ := t
  obtain ⟨h1, h2⟩ := h
  have h1 : st = [] := h1
  subst h1
  have fin : ∀ o, finish o s = .halt o s := fun o => by unfold finish; rw [hl]; rfl
  rcases h2 with ⟨f, e, rfl⟩ | ⟨x, e, rfl⟩
  · have e : cur = .pure (.done f) := e
    subst e
    exact fin _
  · have e : cur = .raise x := e
    subst e
    exact fin _
theorem end_sstep {den : Code → Sem PySem.Fin} {s : Shared} {t : Thread} (hz : s.asleep) (h : AtEnd t r) (hl : ∀ all, leftWithCleanup (forgetSuspended all s).gens = false) : ∃ s', sstep den P w (.single s t) = .halt (outcomeOf r) s' ∧ s'.heap = s.heap ∧ s'.os = s.os := by
  have hc : t.calm = true := by
    obtain ⟨cur, code, pos, st⟩ := t
    obtain ⟨h1, h2⟩ := h
    rcases h2 with ⟨f, e, rfl⟩ | ⟨x, e, rfl⟩
    · have e : cur = .pure (.done f) := e
      subst e; rfl
    · have e : cur = .raise x := e
      subst e; rfl
  have he : t.atItsEnd = true := by
    obtain ⟨cur, code, pos, st⟩ := t
    obtain ⟨h1, h2⟩ := h
    have h1 : st = [] := h1
    subst h1
    rcases h2 with ⟨f, e, rfl⟩ | ⟨x, e, rfl⟩
    · have e : cur = .pure (.done f) := e
      subst e; rfl
    · have e : cur = .raise x := e
      subst e; rfl
  have hs : ∀ others, lifeStep den P w others s t = .halt (outcomeOf r) (forgetSuspended (w.params.lifetimes == .anyTime) s) := fun others => by
    rw [lifeStep_calm0 den P w others s t hc hz, he, if_pos rfl]
    exact end_step h (hl _)
  refine ⟨forgetSuspended (w.params.lifetimes == .anyTime) s, ?_, rfl, rfl⟩
  simp only [sstep, pick_single w s t hc hz.1, Config.move]
  obtain ⟨cur, code, pos, st⟩ := t
  obtain ⟨h1, h2⟩ := h
  have h1 : st = [] := h1
  subst h1
  rcases h2 with ⟨f, e, rfl⟩ | ⟨x, e, rfl⟩
  · have e : cur = .pure (.done f) := e
    subst e
    simp only [Config.run, Config.single]
    simp [hs, others_single, frozenBadly, ThreadState.insideWrite, Thread.finalizes]
  · have e : cur = .raise x := e
    subst e
    simp only [Config.run, Config.single]
    simp [hs, others_single, frozenBadly, ThreadState.insideWrite, Thread.finalizes]
theorem sched_go {den : Code → Sem PySem.Fin} {sE : Shared} {tE : Thread} : ∀ (m : Nat) (s : Shared) (t : Thread), s.asleep → runN den P w m s t = .running sE tE → (∀ k s1 t1, k < m → runN den P w k s t = .running s1 t1 → Fine s1 t1) → sE.asleep ∧ ∀ n, schedN den P w (m + n) (.single s t) = schedN den P w n (.single sE tE)
  | 0, s, t, hz, h, _ => by
    injection h with h1 h2
    subst h1 h2
    exact ⟨hz, fun n => by rw [Nat.zero_add]⟩
  | m + 1, s, t, hz, h, hf => by
    simp only [runN] at h
    have f0 := hf 0 s t (Nat.zero_lt_succ m) rfl
    cases hs : step den P w s t with
    | go s1 t1 =>
      rw [hs] at h
      have e := fine_sstep (den := den) (P := P) (w := w) hz f0 (by rw [hs]; intro z; cases z)
      obtain ⟨a, b⟩ := sched_go m s1 t1 (by simp only [Shared.asleep, step_life den P w s s1 t t1 hs]; exact hz) h fun k s2 t2 hk hr => hf (k + 1) s2 t2 (Nat.succ_lt_succ hk) (by simp only [runN, hs]; exact hr)
      refine ⟨a, fun n => ?_⟩
      rw [Nat.succ_add]
      simp only [schedN, e, hs, Step.lift]
      exact b n
    | halt o s1 => rw [hs] at h; cases h
/-- a thread ends, by a wish in the quiet model -/
theorem thread_endsX {t : Sem PySem.Fin} {s : Shared} {R : Result → Shared → Prop} (hz : s.asleep) (hg : s.gens = #[])
    (h : wpAny (modelX P w) callerA t (fun fin s' => ∃ f, fin = .done f ∧ R (.ok f) s' ∧ leftWithCleanup s'.gens = false ∧ SureG s') (fun e s' => R (.error e) s' ∧ leftWithCleanup s'.gens = false ∧ SureG s') s) :
    ∃ n r s' s'', schedN (denote table) P w n (.single s ⟨t, .builtin "claim.caller" {}, default, []⟩) = .halted (outcomeOf r) s' ∧ s'.heap.life = s.heap.life ∧ s'.heap = s''.heap ∧ s'.os = s''.os ∧ R r s'' := by
  have h1 := PySem.wp_of_wpAny_done (R := fun r s' => (R r s' ∧ SureG s') ∧ leftWithCleanup s'.gens = false) PySem.caller_in (wpAny_mono h (fun fin s' ⟨f, e, a, b, c⟩ => ⟨f, e, ⟨a, c⟩, b⟩) fun e s' ⟨a, b, c⟩ => ⟨⟨a, c⟩, b⟩) default
  obtain ⟨n, r, s2, hn, hR, hN⟩ := (wp_iff_halts (M := modelX P w) t (fun r s' => R r s' ∧ SureG s') default s).mp h1
  obtain ⟨hk, hc⟩ := runNI_runNK den2 P w hn (ends_outcome r)
  obtain ⟨m, sE, tE, a, b, c, d, e⟩ := sim_run n s s _ _ ⟨rfl, rfl, rfl, rfl, rfl, fun i x e => by rw [hg] at e; simp at e⟩ (.same t _ _ []) (by
    have : px (Code.builtin "claim.caller" {}) t = t := rfl
    rw [this]; exact hk) (by
    have : px (Code.builtin "claim.caller" {}) t = t := rfl
    rw [this]; exact hc)
  have same := fun k => runNK_same (denote table) P w k (s₁ := s) (s₂ := s) (t₁ := ⟨t, .builtin "claim.caller" {}, default, []⟩) (t₂ := ⟨t, .builtin "claim.caller" {}, default, []⟩) rfl rfl
  have fine : ∀ k sA tA, k < m → runN (denote table) P w k s ⟨t, .builtin "claim.caller" {}, default, []⟩ = .running sA tA → Fine sA tA := fun k sA tA hkm hk => by
    have ee := same k
    rw [hk] at ee
    cases q : runNK (denote table) P w k s ⟨t, .builtin "claim.caller" {}, default, []⟩ with
    | halted o2 s4 => rw [q] at ee; cases ee
    | running s4 t4 =>
      rw [q] at ee
      simp only [Run.forget] at ee
      injection ee with e1 e2
      exact fine_forget e1 e2 (e k s4 t4 hkm q)
  obtain ⟨sF, tF, hrun, ef, et⟩ : ∃ sF tF, runN (denote table) P w m s ⟨t, .builtin "claim.caller" {}, default, []⟩ = .running sF tF ∧ sF.forget = sE.forget ∧ tF.forget = tE.forget := by
    have ee := same m
    rw [a] at ee
    cases q : runN (denote table) P w m s ⟨t, .builtin "claim.caller" {}, default, []⟩ with
    | halted o2 s4 => rw [q] at ee; cases ee
    | running s4 t4 =>
      rw [q] at ee
      simp only [Run.forget] at ee
      injection ee with e1 e2
      exact ⟨s4, t4, rfl, e1.symm, e2.symm⟩
  have bF : AtEnd tF r := by
    obtain ⟨c1, d1, p1, st1⟩ := tE
    obtain ⟨c2, d2, p2, st2⟩ := tF
    simp only [Thread.forget, Thread.mk.injEq] at et
    obtain ⟨rfl, rfl, rfl, hst⟩ := et
    obtain ⟨b1, b2⟩ := b
    have b1 : st1 = [] := b1
    subst b1
    refine ⟨?_, b2⟩
    cases st2 with
    | nil => rfl
    | cons f fs => cases hst
  obtain ⟨hzF, hgo⟩ := sched_go m s _ hz hrun fine
  obtain ⟨s3, hs3, h3, h4⟩ := end_sstep (P := P) (w := w) (den := denote table) hzF bF (fun all => c.lets d hN ef hzF.1 all)
  have eF := Shared.forget_eq ef
  refine ⟨m + 1, r, s3, s2, ?_, ?_, ?_, ?_, hR⟩
  · rw [hgo 1]
    simp only [schedN, hs3]
  · rw [h3]
    exact runN_life_running hrun
  · rw [h3, eF.1, c.heap]
  · rw [h4, eF.2.2.2.1, c.os]
end
end XG


namespace XG
open PySem PySem.W PySem.Calls PyProof.Rows
/-- what a walk of the quiet model is given -/
structure Given (q : Program) (loose : List Str) (XP : (Str → Option Value) → Heap → Prop) (YP : World → Heap → Prop) (r : RowW) (d : DefRec) (kwd : List (Str × Expr)) (w : World) (s0 s1 : Shared) (mg mb : Str → Option Value) (a : Addr) (o : Obj) (pm cd doc dV kV : Value) (args : List WData) (vals : List Value) (as : List Addr) : Prop where
  ground : Ground q loose r.records XP w s0 mg mb s1.heap
  yp : YP w s1.heap
  obj : s1.heap.get? a = some o
  func : o.data = .func { docDef d.name d.params d.body d.scope pm cd doc with defaults := dV, kwdefaults := kV }
  code : s1.heap.CodeRec cd d.name
  dfl : Dflts mg s1.heap d.params kwd dV kV
  name : mg d.name = some (.ref a)
  gens : s1.gens = #[]
  pre : r.claim.pre args = true
  lay : WData.layableAll args = true
  reads : ReadsAllW r.records (classAt s0.heap) s1.heap vals args as
  well : WellAll w.params s1.heap vals args
  low : ∀ b ∈ as, (b == sysModules) = false
/-- a walk in the quiet model -/
def WalkX (q : Program) (loose : List Str) (XP : (Str → Option Value) → Heap → Prop) (YP : World → Heap → Prop) (r : RowW) (d : DefRec) (kwd : List (Str × Expr)) (run : Value → List Value → Sem Value) : Prop :=
  ∀ {w : World} {s0 s1 : Shared} {mg mb : Str → Option Value} {a : Addr} {o : Obj} {pm cd doc dV kV : Value} {args : List WData} {vals : List Value} {as : List Addr}, Given q loose XP YP r d kwd w s0 s1 mg mb a o pm cd doc dV kV args vals as →
    wpAny (modelX r.prog w) callerA (run (.ref a) vals) (fun v s' => GoodWG r.claim (classAt s0.heap) (ExcName.means s0.heap) args s1 (.ok (.ret v)) s' ∧ SureG s') (fun e s' => GoodWG r.claim (classAt s0.heap) (ExcName.means s0.heap) args s1 (.error e) s' ∧ SureG s') s1
theorem callFrom_quiet {c : ClaimW} {tree : List Value → Sem PySem.Fin} {w : World} {s : Shared} {free : Addr → Prop} {gens : Prop} {kept : Heap → Prop} (hz : s.asleep) (hg : s.gens = #[])
    (spec : ∀ args, c.pre args = true → WData.layableAll args = true → ∀ ord : List DictEntry → List DictEntry, (∀ l, (ord l).Perm l) → ∃ vs s1, layAllW c.records (classAt s.heap) w.params ord args s = some (vs, s1) ∧
      wpAny (modelX c.prog w) callerA (tree vs) (fun fin s' => ∃ f, fin = .done f ∧ (c.Ends s args vs s1 (.ok f) s' ∧ s'.os = s.os ∧ kept s'.heap) ∧ AllBare s'.gens ∧ SureG s') (fun e s' => (c.Ends s args vs s1 (.error e) s' ∧ s'.os = s.os ∧ kept s'.heap) ∧ AllBare s'.gens ∧ SureG s') s1) :
    c.CallFrom (fun vs => ⟨tree vs, .builtin "claim.caller" {}, default, []⟩) w free gens kept s := fun args hp hl ord ho => by
  obtain ⟨vs, s1, laid, h⟩ := spec args hp hl ord ho
  have hr := layAllW_rest _ _ _ laid
  have g1 : s1.gens = #[] := hr.1.trans hg
  have bare : ∀ {G : Array GenState}, AllBare G → leftWithCleanup G = false := fun x => leftWithCleanup_false_of_bare x
  obtain ⟨n, r, s', s2, sched, life, eh, eo, ends, os2, kp⟩ := thread_endsX (P := c.prog) (w := w) (t := tree vs) (s := s1) (R := fun r s' => c.Ends s args vs s1 r s' ∧ s'.os = s.os ∧ kept s'.heap) (Shared.asleep_of_life hr.2.2.2 hz) g1
    (wpAny_mono h (fun fin s' ⟨f, e, a, b, d⟩ => ⟨f, e, a, bare b, d⟩) fun e s' ⟨a, b, d⟩ => ⟨a, bare b, d⟩)
  have ends := ClaimW.Ends.congr eh ends
  rw [← eh] at kp
  rw [← eo] at os2
  refine ⟨vs, s1, laid, n, outcomeOf r, s', sched, ?_, (fun _ i x hx => by rw [hg] at hx; simp at hx), kp, by rw [life.trans hr.2.2.2], Shared.rest_eq os2⟩
  rcases ends with ⟨v, rfl, a1, a2, a3, a4, a5⟩ | ⟨e, ob, cls, rfl, a1, a2, a3, a4, a5⟩
  · exact .inl ⟨v, rfl, a1, a2, a3, fun b o y _ => a4 b o y, a5⟩
  · exact .inr ⟨e, ob, cls, rfl, a1, a2, a3, a4, fun b o y _ => a5 b o y⟩
/-- the head of a law takes this one where this namespace is open -/
theorem PySem.W.holds_open {r : OpenRow} {q : Program} {loose : List Str} {Xt : Shared → Bool} {XP : (Str → Option Value) → Heap → Prop} {α : Type} {Yf : Shared → α} {Ya : World → α} {YP : World → Heap → Prop} {d : DefRec} {kwd : List (Str × Expr)} {N : Nat}
    (left : LeftO r.prog q loose Xt Yf Ya N) (hY : ∀ w s, Yf s = Ya w → YP w s.heap) (hYk : ∀ w h h', YP w h → (∀ b o, h.get? b = some o → h'.get? b = some o) → YP w h') (hX : ∀ s, Xt s = true → XP (s.heap.nsMap mainGlobals) s.heap)
    (hXk : ∀ mg h h', XP mg h → (∀ b o, h.get? b = some o → h'.get? b = some o) → XP mg h') (hdef : defOf q r.name = some (d, kwd)) (hp : r.prog.theDef r.name = some (d.params, d.body, d.scope)) (hk : kwWritten? d.params.kwonlyargs d.params.kw_defaults = some kwd)
    (hRf : ∀ s, Xt s = true → RecFacts r.records s.heap) (hwr : (!r.writes || r.records.isEmpty) = true) (k1 : r.wellSaid = true) (ok : (chainsOk q && opensWell r.prog && (frees r.toRowW && r.within.isEmpty)) = true) (hb : r.prog.bare) (hw : r.toRowW.promised)
    (call : WalkX q loose XP YP r.toRowW d kwd fun f vs => PySem.call f vs) : r.Holds := by
  have ⟨ok1, ok2⟩ := Bool.and_eq_true_iff.mp ok
  have ⟨chains, opens⟩ := Bool.and_eq_true_iff.mp ok1
  have ⟨fr, wi⟩ := Bool.and_eq_true_iff.mp ok2
  obtain ⟨hsame, hu, ha, hap, hm⟩ := frees_parts fr
  refine ⟨k1, hw, ⟨hb, opens, by show r.toRowW.makers.map _ = []; rw [hm]; rfl⟩, hw.witness, fun w => ⟨(left.behind hX chains w).1, fun s' hs' => ?_⟩⟩
  obtain ⟨s0, fence, g0, s, top, hz, done, hg, G, y⟩ := (left.behind (XP := fun mg h => XP mg h ∧ RecFacts r.records h) (fun s hs => ⟨hX s hs, hRf s hs⟩) chains w).2 s' hs'
  have plain : Ground q loose [] XP w s (s.heap.nsMap mainGlobals) (s.heap.nsMap builtinsNs) s.heap := ⟨G.T, G.B, G.D, G.TE, G.TD, G.W, G.X.1, G.cls, G.has, G.apart, G.once, G.K⟩
  have RF := G.X.2
  have none : s.gens = #[] := Array.eq_empty_of_size_eq_zero (beq_iff_eq.mp done)
  refine ⟨s0, fence, g0, s, top, fun n hn => ?_, RF.1, RF.2.1, ?_⟩
  · obtain rfl : n = r.name := by split at hn <;> simp_all
    exact pinned_of_view hg plain hdef hp hk
  have full : Ground q loose r.records XP w s _ _ s.heap := RF.ground plain
  refine callFrom_quiet (c := r.toRowW.claim) hz none fun args hpre hlay ord hord => ?_
  obtain ⟨⟨vs, s1⟩, laid⟩ := Option.isSome_iff_exists.mp (layAllW_isSome (P := w.params) (ord := ord) full.has args r.toRowW.args s (pre_splitW hpre).1)
  have kp := layAllW_keeps _ _ _ laid
  have rest := layAllW_rest _ _ _ laid
  obtain ⟨as, rd, ins, old⟩ := reads_layAllW hord _ _ _ laid hlay s1.heap (fun _ _ e => e)
  have L : Laid r.records w s s1 args vs as := ⟨⟨ord, hord, laid⟩, rd, ins, old, kp, rest.1.trans none, rest.2.2.1⟩
  have full1 := full.keeps hXk kp
  obtain ⟨a, o, pm, cd, doc, dV, kV, e1, e2, e3, e4, e5⟩ := full1.fn hdef
  have hn := defOf_name hdef
  have run := call ⟨full1, hYk _ _ _ (hY w s y) kp, e2, e3, e4, e5, hn ▸ e1, L.gens, hpre, hlay, L.reads, L.well, L.low full.low⟩
  have hi := ident_freeW hu ha hap
  have hwi : r.toRowW.claim.within = [] := List.isEmpty_iff.mp wi
  refine ⟨vs, s1, laid, ?_⟩
  refine wpAny_bind (wpAny_nsGet full1.T.g ?_)
  have hf : Ground q loose r.records XP w s (s.heap.nsMap mainGlobals) (s.heap.nsMap builtinsNs) s1.heap := full1
  rw [show s.heap.nsMap mainGlobals r.name = some (.ref a) from e1]
  have fin : ∀ {res s'}, GoodWG r.toRowW.claim (classAt s.heap) (ExcName.means s.heap) args s1 res s' ∧ SureG s' → (r.toRowW.claim.Ends s args vs s1 res s' ∧ s'.os = s.os ∧ (r.writes = true → namesKept r.prog r.keeps s.heap s'.heap ∧ ∀ x ∈ r.records, ∀ c, classAt s.heap x.1 = some c → recordClass s'.heap c x.1 (x.2.map (·.1)) = true)) ∧ AllBare s'.gens ∧ SureG s' := fun {res s'} ⟨g, nl⟩ => by
    have z := g.laid (c := r.toRowW.claim) hsame hwi hi L
    exact ⟨⟨z.1, z.2.1, fun q => ⟨namesKept_of top hg r.keeps kp g.2.1.old, noTable hwr q⟩⟩, z.2.2, nl⟩
  refine wpAny_bind (wpAny_mono run (fun v s' g => wpAny_pure ⟨_, rfl, fin g⟩) fun e s' g => fin g)
end XG

/-! XG: the heap never shrinks. -/
namespace XG
open _root_.PySem L2
open Sem (wp)
theorem upd_sz {h : Heap} {a : Addr} {f : Obj → Obj} : (h.update a f).objs.size = h.objs.size := by unfold Heap.update; exact Array.size_modify ..
theorem push_sz {h : Heap} {o : Obj} : (h.push o).objs.size = h.objs.size + 1 := by unfold Heap.push; exact Array.size_push ..
theorem runs_hsz {M : Model} {Γ : Ctx} {p : Pos} {t : Sem PySem.Fin} {fs : List Frame} {s s' : Shared} {e : End} (h : Runs M Γ p t fs s e s') : s.heap.objs.size ≤ s'.heap.objs.size := by
  induction h <;> (try simp only [Shared.setGen, upd_sz, push_sz] at *) <;> (try simp only [show ∀ s : Shared, s.1 = s.heap from fun _ => rfl] at *) <;> omega
theorem returns_hsz {M : Model} {Γ : Ctx} {p : Pos} {s s' : Shared} {r : Result} (h : Returns M Γ p s r s') : s.heap.objs.size ≤ s'.heap.objs.size := runs_hsz h
theorem wakes_hsz {M : Model} {Γ : Ctx} {p : Pos} {g : Nat} {r : Resume} {s s' : Shared} {res : GenResult} (h : Wakes M Γ p g r s res s') : s.heap.objs.size ≤ s'.heap.objs.size := by
  unfold Wakes at h
  split at h
  · exact h.elim
  · split at h
    · obtain ⟨e₁, s₁, hr, _, _, rfl⟩ := h
      exact (runs_hsz hr : (s.setGen g .running).heap.objs.size ≤ s₁.heap.objs.size)
    · rw [h.2]; exact Nat.le_refl _
    · rw [h.2]; exact Nat.le_refl _
  · obtain ⟨e₁, s₁, hr, _, _, rfl⟩ := h
    exact (runs_hsz hr : (s.setGen g .running).heap.objs.size ≤ s₁.heap.objs.size)
  · rw [h.2]; exact Nat.le_refl _
  · rw [h.2]; exact Nat.le_refl _
theorem wp_hsz {α : Type} {M : Model} {Γ : Ctx} {n : Nat} (t : Sem α) : ∀ {Q : α → Pos → Shared → Prop} {E : Value → Pos → Shared → Prop} {p : Pos} {s : Shared}, n ≤ s.heap.objs.size → wp M Γ t Q E p s →
    wp M Γ t (fun a p' s' => n ≤ s'.heap.objs.size ∧ Q a p' s') (fun e p' s' => n ≤ s'.heap.objs.size ∧ E e p' s') p s := by
  induction t with
  | pure a => intro Q E p s hn h; exact ⟨hn, h⟩
  | raise e => intro Q E p s hn h; exact ⟨hn, h⟩
  | unsupported _ => intro Q E p s _ h; exact h
  | finish _ => intro Q E p s _ h; exact h
  | rule _ k ih => intro Q E p s hn h; exact ih () hn h
  | «at» p' k ih => intro Q E p s hn h; exact ih () hn h
  | load a _ k ih => intro Q E p s hn h; obtain ⟨o, ho, h⟩ := h; exact ⟨o, ho, ih o hn h⟩
  | update a _ f k ih => intro Q E p s hn h; exact ⟨h.1, ih () (by show n ≤ (s.heap.update a f).objs.size; rw [upd_sz]; exact hn) h.2⟩
  | loadIfAlive a k ih => intro Q E p s hn h; exact ih _ hn h
  | point _ k ih => intro Q E p s hn h; exact ih () hn h
  | register _ _ => intro Q E p s _ h; exact h
  | alloc o k ih => intro Q E p s hn h; exact ih _ (by show n ≤ (s.heap.push o).objs.size; rw [push_sz]; exact Nat.le_succ_of_le hn) h
  | fresh k ih => intro Q E p s hn h; exact ih _ hn h
  | ask k ih => intro Q E p s hn h; exact ih _ hn h
  | choose src m k ih => intro Q E p s hn h; exact ⟨h.1, ih _ hn h.2⟩
  | os q _ k ih => intro Q E p s hn h; exact ih _ hn h
  | call c hd _ _ k ih => intro Q E p s hn h; obtain ⟨r, s', hr, h⟩ := h; exact ⟨r, s', hr, ih r (Nat.le_trans hn (returns_hsz hr)) h⟩
  | handled own k ih => intro Q E p s hn h; exact ih _ hn h
  | genState g k ih => intro Q E p s hn h; obtain ⟨st, hs, h⟩ := h; exact ⟨st, hs, ih _ hn h⟩
  | newGen c k ih => intro Q E p s hn h; exact ih _ hn h
  | resume g r _ k ih => intro Q E p s hn h; obtain ⟨res, s', hw, h⟩ := h; exact ⟨res, s', hw, ih res (Nat.le_trans hn (wakes_hsz hw)) h⟩
  | yield _ _ _ _ => intro Q E p s _ h; exact h
  | stack k ih => intro Q E p s hn h; exact ih _ hn h
  | fork _ _ => intro Q E p s _ h; exact h
  | thread k ih => intro Q E p s hn h; exact ih _ hn h
  | await _ _ _ _ _ => intro Q E p s _ h; exact h
theorem wpAny_hsz {α : Type} {M : Model} {A : Around} {s : Shared} {t : Sem α} {Q : α → Shared → Prop} {E : Value → Shared → Prop} {n : Nat} (hn : n ≤ s.heap.objs.size)
    (h : wpAny M A t (fun a s' => n ≤ s'.heap.objs.size → Q a s') (fun e s' => n ≤ s'.heap.objs.size → E e s') s) : wpAny M A t Q E s :=
  wpAny_mono (fun Γ p hΓ => wp_hsz t hn (h Γ p hΓ) : wpAny M A t (fun a s' => n ≤ s'.heap.objs.size ∧ (n ≤ s'.heap.objs.size → Q a s')) (fun e s' => n ≤ s'.heap.objs.size ∧ (n ≤ s'.heap.objs.size → E e s')) s)
    (fun _ _ x => x.2 x.1) fun _ _ x => x.2 x.1
theorem codeAny_hsz {M : Model} {A : Around} {c : Code} {s : Shared} {R : Result → Shared → Prop} {n : Nat} (hn : n ≤ s.heap.objs.size) (h : codeAny M A c (fun r s' => n ≤ s'.heap.objs.size → R r s') s) : codeAny M A c R s := fun Γ p hc hΓ => by
  obtain ⟨r, s', hr, h⟩ := h Γ p hc hΓ
  exact ⟨r, s', hr, h (Nat.le_trans hn (returns_hsz hr))⟩
end XG

/-! XG: the judgements at the quiet model. -/
namespace XG
open _root_.PySem L2
open PyProof.Rows (AllBare)
/-- f: who sleeps through it all; z: who else may sleep over another one for ever -/
structure Bk where
  f : Nat → Option GenState
  z : Nat → GenState → Prop
instance : CoeFun Bk (fun _ => Nat → Option GenState) := ⟨Bk.f⟩
/-- B sleeps; who else sleeps over another one is let -/
structure SG (B : Bk) (s : Shared) : Prop where
  sl : ∀ i x, B i = some x → s.gens[i]? = some x ∧ isSus x = true
  nl : ∀ i x, B i = none → s.gens[i]? = some x → loudG x = true → B.z i x
theorem SG.at {B : Bk} {s s' : Shared} (g : SG B s) (e : s'.gens = s.gens) : SG B s' := ⟨fun i x h => by rw [e]; exact g.sl i x h, fun i x h => by rw [e]; exact g.nl i x h⟩
/-- those that sleep over another one for ever now -/
def Bk.now (B : Bk) (s : Shared) : Bk := ⟨B.f, fun i x => B i = none ∧ s.gens[i]? = some x ∧ loudG x = true⟩
theorem SG.now {B : Bk} {s : Shared} (g : SG B s) : SG (B.now s) s := ⟨g.sl, fun _ _ h e l => ⟨h, e, l⟩⟩
theorem SG.wide {B B' : Bk} {s : Shared} (g : SG B s) (e : B'.f = B.f) (h : ∀ i x, B i = none → s.gens[i]? = some x → loudG x = true → B.z i x → B'.z i x) : SG B' s := ⟨fun i x q => g.sl i x (by rw [← e]; exact q), fun i x q r l => have q : B i = none := by rw [← e]; exact q
  h i x q r l (g.nl i x q r l)⟩
theorem bare_all {G : Array GenState} : AllBare G ↔ ∀ (i : Nat) x, G[i]? = some x → x.bare = true := by
  refine ⟨fun h i x e => h x (Array.mem_of_getElem? e), fun h x hx => ?_⟩
  obtain ⟨i, hi, e⟩ := Array.mem_iff_getElem.mp hx
  exact h i x (by rw [Array.getElem?_eq_getElem hi, e])
theorem bare_px {x : GenState} (h : x.bare = true) : (pxG x).bare = true := by cases x <;> exact h
theorem loud_px (x : GenState) : loudG (pxG x) = false := by
  cases x with
  | suspended k l c p fs cl =>
    show loudG (.suspended _ (pl c false l) c p _ cl) = false
    unfold pl
    cases e : isYf c with
    | true => rfl
    | false =>
      show loudG (.suspended _ l c p _ cl) = false
      unfold loudG
      split
      · rename_i z; cases z; exact e
      · rfl
  | _ => rfl
theorem bare_poison {G : Array GenState} (h : AllBare G) : AllBare (G.map poison) := bare_all.mpr fun i x e => by
  rw [Array.getElem?_map] at e
  cases q : G[i]? with
  | none => rw [q] at e; cases e
  | some y =>
    rw [q] at e
    have e : some (poison y) = some x := e
    cases e
    have := bare_all.mp h i y q
    cases y <;> first | exact this | rfl
section
variable {s s1 s2 : Shared} {B : Bk}
theorem sr_bare (h : SR (sleepers s) s1 s2) (hb : AllBare s.gens) (h1 : AllBare s1.gens) : AllBare s2.gens := bare_all.mpr fun i x e => by
  cases q : sleepers s i with
  | some y =>
    have := (h.bad i y q).2.2
    rw [e] at this
    cases this
    unfold sleepers at q
    cases r : s.gens[i]? with
    | none => rw [r] at q; cases q
    | some z =>
      rw [r] at q
      dsimp only at q
      split at q
      · cases q; exact bare_all.mp hb i _ r
      · cases q
  | none =>
    have := h.good i q
    rw [e] at this
    cases r : s1.gens[i]? with
    | none => rw [r] at this; cases this
    | some z =>
      rw [r] at this
      have this : some x = some (pxG z) := this
      cases this
      exact bare_px (bare_all.mp h1 i z r)
theorem sr_sg (h : SR (sleepers s) s1 s2) (g : SG B s) : SG B s2 := by
  refine ⟨fun i x e => ?_, fun i x e q l => ?_⟩
  · obtain ⟨a, b⟩ := g.sl i x e
    exact ⟨h.kept a b, b⟩
  · cases r : sleepers s i with
    | some y =>
      have h2 := (h.bad i y r).2.2
      rw [q] at h2
      cases h2
      unfold sleepers at r
      cases t : s.gens[i]? with
      | none => rw [t] at r; cases r
      | some z =>
        rw [t] at r
        dsimp only at r
        split at r
        · cases r; exact g.nl i _ e t l
        · cases r
    | none =>
      have h2 := h.good i r
      rw [q] at h2
      cases t : s1.gens[i]? with
      | none => rw [t] at h2; cases h2
      | some z =>
        rw [t] at h2
        have h2 : some x = some (pxG z) := h2
        cases h2
        rw [loud_px z] at l
        cases l
/-- the wish sees nothing of the generators but that they are bare -/
def Blind (E : Value → Shared → Prop) : Prop := ∀ e (s : Shared) (G : Array GenState), E e s → (AllBare s.gens → AllBare G) → E e { s with gens := G }
/-- a run of code that wakes no sleeper -/
theorem lift {P : Program} {w : World} {A : Around} {α : Type} {t : Sem α} {Q Q' : α → Shared → Prop} {E E' : Value → Shared → Prop} (hb : AllBare s.gens) (g : SG B s) (h : wpAny (model P w) A t Q E { s with gens := asleepG s })
    (hQ : ∀ a (s1 : Shared) (G : Array GenState), Q a s1 → (AllBare s1.gens → AllBare G) → SG B { s1 with gens := G } → Q' a { s1 with gens := G })
    (hE : ∀ a (s1 : Shared) (G : Array GenState), E a s1 → (AllBare s1.gens → AllBare G) → SG B { s1 with gens := G } → E' a { s1 with gens := G }) : wpAny (modelX P w) A t Q' E' s := by
  refine wpAny_mono (wpAny_px (sr_start s) h) (fun a s2 ⟨s1, r, q⟩ => ?_) fun a s2 ⟨s1, r, q⟩ => ?_
  · obtain ⟨G, rfl⟩ := r.eq
    exact hQ a s1 G q (sr_bare r hb) (sr_sg r g)
  · obtain ⟨G, rfl⟩ := r.eq
    exact hE a s1 G q (sr_bare r hb) (sr_sg r g)
theorem liftC {P : Program} {w : World} {A : Around} {c : Code} {Q Q' : Result → Shared → Prop} (hb : AllBare s.gens) (g : SG B s) (h : codeAny (model P w) A c Q { s with gens := asleepG s })
    (hQ : ∀ a (s1 : Shared) (G : Array GenState), Q a s1 → (AllBare s1.gens → AllBare G) → SG B { s1 with gens := G } → Q' a { s1 with gens := G }) : codeAny (modelX P w) A c Q' s := by
  refine codeAny_mono (codeAny_px (sr_start s) h) fun a s2 ⟨s1, r, q⟩ => ?_
  obtain ⟨G, rfl⟩ := r.eq
  exact hQ a s1 G q (sr_bare r hb) (sr_sg r g)
end
section
variable {X : Cx} {pins : List (Addr × Obj)} {σ : St} {H : Hp} {s : Shared} {G : Array GenState}
theorem inv_gens (I : Inv X pins σ H s) (h : AllBare s.gens → AllBare G) : Inv X pins σ H { s with gens := G } := ⟨I.ok, I.os, h I.bare, I.base, I.loc, I.cell, I.free, I.freeC, I.pin, I.hok, I.len⟩
theorem inv_poison (I : Inv X pins σ H s) : Inv X pins σ H { s with gens := asleepG s } := inv_gens I bare_poison
theorem ep_gens {Q : VK} {u : Value} (h : EP X pins σ Q u s) (b : AllBare s.gens → AllBare G) : EP X pins σ Q u { s with gens := G } := let ⟨v, H', I, r, q⟩ := h; ⟨v, H', inv_gens I b, r, q⟩
theorem tp_gens {Q : Bool → Hp → Prop} {u : Bool} (h : TP X pins σ Q u s) (b : AllBare s.gens → AllBare G) : TP X pins σ Q u { s with gens := G } := let ⟨H', I, q⟩ := h; ⟨H', inv_gens I b, q⟩
theorem ap_gens {Q : List V → Hp → Prop} {u : List Value} (h : AP X pins σ Q u s) (b : AllBare s.gens → AllBare G) : AP X pins σ Q u { s with gens := G } := let ⟨v, H', I, r, q⟩ := h; ⟨v, H', inv_gens I b, r, q⟩
theorem sp_gens {D : Ends} {f : Flow} (h : SP X pins D f s) (b : AllBare s.gens → AllBare G) : SP X pins D f { s with gens := G } := by
  cases f with
  | next => obtain ⟨σ', H', I, q⟩ := h; exact ⟨σ', H', inv_gens I b, q⟩
  | brk => obtain ⟨σ', H', I, q⟩ := h; exact ⟨σ', H', inv_gens I b, q⟩
  | cont => obtain ⟨σ', H', I, q⟩ := h; exact ⟨σ', H', inv_gens I b, q⟩
  | ret u => obtain ⟨v, σ', H', I, r, q⟩ := h; exact ⟨v, σ', H', inv_gens I b, r, q⟩
theorem xe_blind {W : WX} : Blind (XE X W) := fun e s G ⟨a, B, sI, pins, σ, H, cls, d, e1, I, nb, up, sky, na, os, ag, w⟩ b => ⟨a, B, sI, pins, σ, H, cls, d, e1, I, nb, up, sky, na, os, b ag, w⟩
end
/-! ### those that sleep for ever -/
theorem gen_fields {o : Obj} (h : isGenO o = true) : ∃ vs, o.data = .fields vs := by
  unfold isGenO Obj.genNumber? at h
  split at h
  · rename_i e; exact ⟨_, e⟩
  · rename_i e; exact ⟨_, e⟩
  · rename_i e; exact ⟨_, e⟩
  · cases h
/-- whom they sleep over stands, untracked; what is younger may be slept over -/
structure Dd (B : Bk) (H : Hp) (s : Shared) : Prop where
  un : ∀ i x a, B i = none → s.gens[i]? = some x → loudG x = true → delegG x = some a → H a = none ∧ ∃ o, s.heap.get? a = some o ∧ isGenO o = true
  fr : ∀ i x a, delegG x = some a → s.heap.objs.size ≤ a → B.z i x
structure InvX (X : Cx) (B : Bk) (pins : List (Addr × Obj)) (σ : St) (H : Hp) (s : Shared) : Prop extends Inv X pins σ H s where
  dd : Dd B H s
/-- their delegates, as pins -/
def dls (B : Bk) (s : Shared) : List (Addr × Obj) := (List.range s.gens.size).filterMap fun i => match B i, s.gens[i]? with
  | none, some x => if loudG x then (match delegG x with
    | some a => (s.heap.get? a).map fun o => (a, o)
    | none => none) else none
  | _, _ => none
theorem mem_dls {B : Bk} {s : Shared} {p : Addr × Obj} (h : p ∈ dls B s) : ∃ i x, B i = none ∧ s.gens[i]? = some x ∧ loudG x = true ∧ delegG x = some p.1 ∧ s.heap.get? p.1 = some p.2 := by
  unfold dls at h
  obtain ⟨i, _, h⟩ := List.mem_filterMap.mp h
  split at h
  · rename_i x e1 e2
    split at h
    · rename_i l
      split at h
      · rename_i a e3
        obtain ⟨o, e4, e5⟩ := Option.map_eq_some_iff.mp h
        subst e5
        exact ⟨i, x, e1, e2, l, e3, e4⟩
      · cases h
    · cases h
  · cases h
theorem dls_mem {B : Bk} {s : Shared} {i : Nat} {x : GenState} {a : Addr} {o : Obj} (h1 : B i = none) (h2 : s.gens[i]? = some x) (h3 : loudG x = true) (h4 : delegG x = some a) (h5 : s.heap.get? a = some o) : (a, o) ∈ dls B s := by
  unfold dls
  refine List.mem_filterMap.mpr ⟨i, List.mem_range.mpr (Array.getElem?_eq_some_iff.mp h2).1, ?_⟩
  rw [h1, h2]
  dsimp only
  rw [if_pos h3, h4]
  dsimp only
  rw [h5]
  rfl
section
variable {X : Cx} {B : Bk} {pins : List (Addr × Obj)} {σ σ' : St} {H H' : Hp} {s s' : Shared}
theorem inv_gen_apart (I : Inv X pins σ H s) {a : Addr} {o : Obj} (h1 : s.heap.get? a = some o) (h2 : isGenO o = true) : a ≠ X.env.locals ∧ a ∉ X.fs ∧ ∀ v, o.data ≠ .cell v := by
  obtain ⟨vs, e⟩ := gen_fields h2
  refine ⟨fun z => ?_, fun z => ?_, fun v z => by rw [e] at z; cases z⟩
  · obtain ⟨m, ⟨o', es, ep, ho, h3, _⟩, _⟩ := I.loc
    rw [← z, h1] at ho
    cases ho
    rw [e] at h3; cases h3
  · obtain ⟨_, o', ho, hd⟩ := I.funs.mem z
    rw [h1] at ho
    cases ho
    exact hd vs e
/-- .. pinned -/
theorem InvX.pinned (J : InvX X B pins σ H s) : Inv X (pins ++ dls B s) σ H s := J.toInv.pins_of fun p hp => by
  rcases List.mem_append.mp hp with hp | hp
  · exact J.pin p (List.mem_append_right _ hp)
  · obtain ⟨i, x, h1, h2, h3, h4, h5⟩ := mem_dls hp
    obtain ⟨n, o, e, g⟩ := J.dd.un i x p.1 h1 h2 h3 h4
    rw [h5] at e
    cases e
    obtain ⟨a1, a2, a3⟩ := inv_gen_apart J.toInv h5 g
    exact ⟨h5, n, a1, a2, a3⟩
/-- behind a run that kept them -/
theorem Dd.behind (d : Dd B H s) (g' : SG (B.now s) s') (k : ∀ p ∈ dls B s, H' p.1 = none ∧ s'.heap.get? p.1 = some p.2) (sz : s.heap.objs.size ≤ s'.heap.objs.size) : Dd B H' s' :=
  ⟨fun i x a h1 h2 h3 h4 => by
    obtain ⟨z1, z2, z3⟩ := g'.nl i x h1 h2 h3
    obtain ⟨_, o, e, q⟩ := d.un i x a h1 z2 h3 h4
    obtain ⟨k1, k2⟩ := k _ (dls_mem h1 z2 h3 h4 e)
    exact ⟨k1, o, k2, q⟩, fun i x a h1 h2 => d.fr i x a h1 (Nat.le_trans sz h2)⟩
theorem SG.behind (g : SG B s) (g' : SG (B.now s) s') : SG B s' := g'.wide rfl fun i x _ _ _ ⟨a, b, c⟩ => g.nl i x a b c
theorem InvX.behind (J : InvX X B pins σ H s) (I' : Inv X (pins ++ dls B s) σ' H' s') (g' : SG (B.now s) s') (sz : s.heap.objs.size ≤ s'.heap.objs.size) : InvX X B pins σ' H' s' :=
  ⟨I'.pins_of fun p hp => I'.pin p (List.mem_append_right _ (List.mem_append_left _ hp)), J.dd.behind g' (fun p hp => by
    obtain ⟨a, b, _⟩ := I'.pin p (List.mem_append_right _ (List.mem_append_right _ hp))
    exact ⟨b, a⟩) sz⟩
end
/-! ### judgements -/
/-- a run at the quiet model -/
def RunX (X : Cx) (B : Bk) {α : Type} (t : Sem α) (Q : α → Shared → Prop) (s : Shared) : Prop := wpAny (modelX X.prog X.w) X.A t (fun a s' => Q a s' ∧ SG B s') (fun e s' => X.xe e s' ∧ SG B s') s
theorem thx {X : Cx} {B : Bk} {α : Type} {t : Sem α} {Q : α → Shared → Prop} {Q' : α → Shared → Prop} {E : Value → Shared → Prop} {s : Shared} (h : RunX X B t Q s) (hQ : ∀ a s', Q a s' → SG B s' → Q' a s') (hE : ∀ e s', X.xe e s' → SG B s' → E e s' := by intro _ _ a b; exact ⟨a, b⟩) : wpAny (modelX X.prog X.w) X.A t Q' E s :=
  wpAny_mono h (fun a s' x => hQ a s' x.1 x.2) fun e s' x => hE e s' x.1 x.2
/-! plain code, where nobody sleeps for ever but those of B -/
section
variable {X : Cx}
theorem lfE {e : Expr} {t : TE} (bl : Blind X.xe) (h : PE X e t) (B : Bk) (pins : List (Addr × Obj)) (s : Shared) (σ : St) (H : Hp) (Q : VK) (I : Inv X pins σ H s) (g : SG B s) (q : t σ H Q) : RunX X B (eval e X.env) (EP X pins σ Q) s := lift I.bare g (h.run pins _ σ H Q (inv_poison I) q) (fun _ _ _ z b g => ⟨ep_gens z b, g⟩) fun _ _ _ z b g => ⟨bl _ _ _ z b, g⟩
theorem lfT {e : Expr} {t : TT} (bl : Blind X.xe) (h : PT X e t) (B : Bk) (pins : List (Addr × Obj)) (s : Shared) (σ : St) (H : Hp) (Q : Bool → Hp → Prop) (I : Inv X pins σ H s) (g : SG B s) (q : t σ H Q) : RunX X B (isTrue e X.env (eval e X.env)) (TP X pins σ Q) s := lift I.bare g (h.run pins _ σ H Q (inv_poison I) q) (fun _ _ _ z b g => ⟨tp_gens z b, g⟩) fun _ _ _ z b g => ⟨bl _ _ _ z b, g⟩
theorem lfW {e : Expr} {t : TT} (bl : Blind X.xe) (h : PW X e t) (B : Bk) (wh : Sem Value) (pins : List (Addr × Obj)) (s : Shared) (σ : St) (H : Hp) (Q : Bool → Hp → Prop) (I : Inv X pins σ H s) (g : SG B s) (q : t σ H Q) : RunX X B (isTrue e X.env wh) (TP X pins σ Q) s := lift I.bare g (h.run wh pins _ σ H Q (inv_poison I) q) (fun _ _ _ z b g => ⟨tp_gens z b, g⟩) fun _ _ _ z b g => ⟨bl _ _ _ z b, g⟩
theorem lfA {es : List Expr} {t : TA} (bl : Blind X.xe) (h : PA X es t) (B : Bk) (pos : Pos) (pins : List (Addr × Obj)) (s : Shared) (σ : St) (H : Hp) (Q : List V → Hp → Prop) (I : Inv X pins σ H s) (g : SG B s) (q : t σ H Q) : RunX X B (spliced (backTo pos (starEach es X.env))) (AP X pins σ Q) s := lift I.bare g (h.run pos pins _ σ H Q (inv_poison I) q) (fun _ _ _ z b g => ⟨ap_gens z b, g⟩) fun _ _ _ z b g => ⟨bl _ _ _ z b, g⟩
theorem lfK {kws : List Keyword} {t : TA} (bl : Blind X.xe) (h : PK X kws t) (B : Bk) (pos : Pos) (pins : List (Addr × Obj)) (s : Shared) (σ : St) (H : Hp) (Q : List V → Hp → Prop) (I : Inv X pins σ H s) (g : SG B s) (q : t σ H Q) : RunX X B (evalAll ((backToKw pos (keywordEach kws X.env)).map (·.2))) (AP X pins σ Q) s := lift I.bare g (h.run pos pins _ σ H Q (inv_poison I) q) (fun _ _ _ z b g => ⟨ap_gens z b, g⟩) fun _ _ _ z b g => ⟨bl _ _ _ z b, g⟩
theorem lfS {st : Stmt} {t : TS} (bl : Blind X.xe) (h : PS X st t) (B : Bk) (pins : List (Addr × Obj)) (s : Shared) (σ : St) (H : Hp) (D : Ends) (I : Inv X pins σ H s) (g : SG B s) (q : t D σ H) : RunX X B (exec st X.env) (SP X pins D) s := lift I.bare g (h.run pins _ σ H D (inv_poison I) q) (fun _ _ _ z b g => ⟨sp_gens z b, g⟩) fun _ _ _ z b g => ⟨bl _ _ _ z b, g⟩
theorem lfSs {st : List Stmt} {t : TS} (bl : Blind X.xe) (h : PSs X st t) (B : Bk) (pins : List (Addr × Obj)) (s : Shared) (σ : St) (H : Hp) (D : Ends) (I : Inv X pins σ H s) (g : SG B s) (q : t D σ H) : RunX X B (execs st X.env) (SP X pins D) s := lift I.bare g (h.run pins _ σ H D (inv_poison I) q) (fun _ _ _ z b g => ⟨sp_gens z b, g⟩) fun _ _ _ z b g => ⟨bl _ _ _ z b, g⟩
theorem lfG {tg : Expr} {t : TG} (bl : Blind X.xe) (h : PG X tg t) (B : Bk) (pins : List (Addr × Obj)) (s : Shared) (σ : St) (H : Hp) (v : V) (u : Value) (Q : St → Hp → Prop) (I : Inv X pins σ H s) (g : SG B s) (r : RelV v u) (q : t v σ H Q) : RunX X B (assign tg X.env u) (fun _ s' => ∃ σ' H', Inv X pins σ' H' s' ∧ Q σ' H') s := lift I.bare g (h.run pins _ σ H v u Q (inv_poison I) r q) (fun _ _ _ ⟨σ', H', z, q⟩ b g => ⟨⟨σ', H', inv_gens z b, q⟩, g⟩) fun _ _ _ z b g => ⟨bl _ _ _ z b, g⟩
end
def EPX (X : Cx) (B : Bk) (pins : List (Addr × Obj)) (σ : St) (Q : VK) (u : Value) (s' : Shared) : Prop := ∃ v H', InvX X B pins σ H' s' ∧ RelV v u ∧ Q v H'
def TPX (X : Cx) (B : Bk) (pins : List (Addr × Obj)) (σ : St) (Q : Bool → Hp → Prop) (b : Bool) (s' : Shared) : Prop := ∃ H', InvX X B pins σ H' s' ∧ Q b H'
def APX (X : Cx) (B : Bk) (pins : List (Addr × Obj)) (σ : St) (Q : List V → Hp → Prop) (us : List Value) (s' : Shared) : Prop := ∃ vs H', InvX X B pins σ H' s' ∧ Vals vs us ∧ Q vs H'
def SPX (X : Cx) (B : Bk) (pins : List (Addr × Obj)) (D : Ends) (f : Flow) (s' : Shared) : Prop :=
  match f with
  | .next => ∃ σ' H', InvX X B pins σ' H' s' ∧ D.nx σ' H'
  | .brk => ∃ σ' H', InvX X B pins σ' H' s' ∧ D.bk σ' H'
  | .cont => ∃ σ' H', InvX X B pins σ' H' s' ∧ D.ct σ' H'
  | .ret u => ∃ v σ' H', InvX X B pins σ' H' s' ∧ RelV v u ∧ D.rt v H'
structure PEx (X : Cx) (e : Expr) (t : TE) : Prop where
  run : ∀ (B : Bk) (pins : List (Addr × Obj)) (s : Shared) (σ : St) (H : Hp) (Q : VK), InvX X B pins σ H s → SG B s → t σ H Q → RunX X B (eval e X.env) (EPX X B pins σ Q) s
structure PTx (X : Cx) (e : Expr) (t : TT) : Prop where
  run : ∀ (B : Bk) (pins : List (Addr × Obj)) (s : Shared) (σ : St) (H : Hp) (Q : Bool → Hp → Prop), InvX X B pins σ H s → SG B s → t σ H Q → RunX X B (isTrue e X.env (eval e X.env)) (TPX X B pins σ Q) s
structure PWx (X : Cx) (e : Expr) (t : TT) : Prop where
  run : ∀ (B : Bk) (whole : Sem Value) (pins : List (Addr × Obj)) (s : Shared) (σ : St) (H : Hp) (Q : Bool → Hp → Prop), InvX X B pins σ H s → SG B s → t σ H Q → RunX X B (isTrue e X.env whole) (TPX X B pins σ Q) s
structure PAx (X : Cx) (es : List Expr) (t : TA) : Prop where
  run : ∀ (B : Bk) (pos : Pos) (pins : List (Addr × Obj)) (s : Shared) (σ : St) (H : Hp) (Q : List V → Hp → Prop), InvX X B pins σ H s → SG B s → t σ H Q → RunX X B (spliced (backTo pos (starEach es X.env))) (APX X B pins σ Q) s
structure PKx (X : Cx) (kws : List Keyword) (t : TA) : Prop where
  run : ∀ (B : Bk) (pos : Pos) (pins : List (Addr × Obj)) (s : Shared) (σ : St) (H : Hp) (Q : List V → Hp → Prop), InvX X B pins σ H s → SG B s → t σ H Q → RunX X B (evalAll ((backToKw pos (keywordEach kws X.env)).map (·.2))) (APX X B pins σ Q) s
structure PSx (X : Cx) (st : Stmt) (t : TS) : Prop where
  run : ∀ (B : Bk) (pins : List (Addr × Obj)) (s : Shared) (σ : St) (H : Hp) (D : Ends), InvX X B pins σ H s → SG B s → t D σ H → RunX X B (exec st X.env) (SPX X B pins D) s
structure PSsx (X : Cx) (st : List Stmt) (t : TS) : Prop where
  run : ∀ (B : Bk) (pins : List (Addr × Obj)) (s : Shared) (σ : St) (H : Hp) (D : Ends), InvX X B pins σ H s → SG B s → t D σ H → RunX X B (execs st X.env) (SPX X B pins D) s
structure PGx (X : Cx) (target : Expr) (t : TG) : Prop where
  run : ∀ (B : Bk) (pins : List (Addr × Obj)) (s : Shared) (σ : St) (H : Hp) (v : V) (u : Value) (Q : St → Hp → Prop), InvX X B pins σ H s → SG B s → RelV v u → t v σ H Q →
    RunX X B (assign target X.env u) (fun _ s' => ∃ σ' H', InvX X B pins σ' H' s' ∧ Q σ' H') s
section
variable {X : Cx} {B : Bk} {pins : List (Addr × Obj)} {σ : St} {H : Hp} {s : Shared}
/-- a run of plain code: those that sleep for ever are pinned -/
theorem upX {α : Type} {t : Sem α} {Q Q' : α → Shared → Prop} (J : InvX X B pins σ H s) (g : SG B s) (h : RunX X (B.now s) t Q s)
    (k : ∀ a s', Q a s' → (∀ σ' H', Inv X (pins ++ dls B s) σ' H' s' → InvX X B pins σ' H' s') → Q' a s') : RunX X B t Q' s :=
  wpAny_hsz (Nat.le_refl _) (wpAny_mono h (fun a s' ⟨q, g'⟩ sz => ⟨k a s' q fun σ' H' I => J.behind I g' sz, g.behind g'⟩) fun e s' ⟨q, g'⟩ _ => ⟨q, g.behind g'⟩)
theorem sp_up {D : Ends} {f : Flow} {s' : Shared} {pins' : List (Addr × Obj)} (h : SP X pins' D f s') (k : ∀ σ' H', Inv X pins' σ' H' s' → InvX X B pins σ' H' s') : SPX X B pins D f s' := by
  cases f with
  | next => obtain ⟨σ', H', I, q⟩ := h; exact ⟨σ', H', k _ _ I, q⟩
  | brk => obtain ⟨σ', H', I, q⟩ := h; exact ⟨σ', H', k _ _ I, q⟩
  | cont => obtain ⟨σ', H', I, q⟩ := h; exact ⟨σ', H', k _ _ I, q⟩
  | ret u => obtain ⟨v, σ', H', I, r, q⟩ := h; exact ⟨v, σ', H', k _ _ I, r, q⟩
theorem PEx.of {e : Expr} {t : TE} (bl : Blind X.xe) (h : PE X e t) : PEx X e t := ⟨fun B pins s σ H Q J g q => upX J g (lfE bl h _ _ s σ H Q J.pinned g.now q) fun _ _ ⟨v, H', I, r, q⟩ k => ⟨v, H', k _ _ I, r, q⟩⟩
theorem PTx.of {e : Expr} {t : TT} (bl : Blind X.xe) (h : PT X e t) : PTx X e t := ⟨fun B pins s σ H Q J g q => upX J g (lfT bl h _ _ s σ H Q J.pinned g.now q) fun _ _ ⟨H', I, q⟩ k => ⟨H', k _ _ I, q⟩⟩
theorem PWx.of {e : Expr} {t : TT} (bl : Blind X.xe) (h : PW X e t) : PWx X e t := ⟨fun B wh pins s σ H Q J g q => upX J g (lfW bl h _ wh _ s σ H Q J.pinned g.now q) fun _ _ ⟨H', I, q⟩ k => ⟨H', k _ _ I, q⟩⟩
theorem PAx.of {e : List Expr} {t : TA} (bl : Blind X.xe) (h : PA X e t) : PAx X e t := ⟨fun B pos pins s σ H Q J g q => upX J g (lfA bl h _ pos _ s σ H Q J.pinned g.now q) fun _ _ ⟨v, H', I, r, q⟩ k => ⟨v, H', k _ _ I, r, q⟩⟩
theorem PKx.of {e : List Keyword} {t : TA} (bl : Blind X.xe) (h : PK X e t) : PKx X e t := ⟨fun B pos pins s σ H Q J g q => upX J g (lfK bl h _ pos _ s σ H Q J.pinned g.now q) fun _ _ ⟨v, H', I, r, q⟩ k => ⟨v, H', k _ _ I, r, q⟩⟩
theorem PSx.of {e : Stmt} {t : TS} (bl : Blind X.xe) (h : PS X e t) : PSx X e t := ⟨fun B pins s σ H D J g q => upX J g (lfS bl h _ _ s σ H D J.pinned g.now q) fun _ _ z k => sp_up z k⟩
theorem PSsx.of {e : List Stmt} {t : TS} (bl : Blind X.xe) (h : PSs X e t) : PSsx X e t := ⟨fun B pins s σ H D J g q => upX J g (lfSs bl h _ _ s σ H D J.pinned g.now q) fun _ _ z k => sp_up z k⟩
theorem PGx.of {e : Expr} {t : TG} (bl : Blind X.xe) (h : PG X e t) : PGx X e t := ⟨fun B pins s σ H v u Q J g r q => upX J g (lfG bl h _ _ s σ H v u Q J.pinned g.now r q) fun _ _ ⟨σ', H', I, q⟩ k => ⟨σ', H', k _ _ I, q⟩⟩
theorem PWx.pt {e : Expr} {t : TT} (h : PWx X e t) : PTx X e t := ⟨fun B => h.run B _⟩
/-- a step by hand: the heap grows, keeps what stands -/
theorem Dd.grow {s' : Shared} {H' : Hp} (d : Dd B H s) (eg : s'.gens = s.gens) (k : ∀ a o, s.heap.get? a = some o → isGenO o = true → H a = none → H' a = none ∧ ∃ o', s'.heap.get? a = some o' ∧ isGenO o' = true) (sz : s.heap.objs.size ≤ s'.heap.objs.size) : Dd B H' s' :=
  ⟨fun i x a h1 h2 h3 h4 => by
    rw [eg] at h2
    obtain ⟨n, o, e, q⟩ := d.un i x a h1 h2 h3 h4
    exact k a o e q n, fun i x a h1 h2 => d.fr i x a h1 (Nat.le_trans sz h2)⟩
end
end XG

/-! XG: one stretch of a generator's code, up to its next item or its end. -/
namespace XG
open _root_.PySem L2 GenW
open PyProof.Rows (AllBare)
/-- one stretch -/
def One (M : Model) (A : Around) (c : Code) (t : Sem PySem.Fin) (fs : List Frame) (s : Shared) (Φ : End → Shared → Prop) : Prop :=
  ∀ (Γ : Ctx) (p : Pos), Γ.code = c → Γ.Woken A → ∃ e s', Runs M Γ p t fs s e s' ∧ Φ e s'
section
variable {M : Model} {A : Around} {c : Code} {fs : List Frame} {s : Shared} {Φ : End → Shared → Prop}
theorem one_wrap {α : Type} {m : Sem α} {K : α → Sem PySem.Fin} {H : Value → Sem PySem.Fin} {gd : Bool → Bool} {lv : List Value → List Value}
    (h : wpAny M (A.over c fs) m (fun a s' => One M A c (K a) fs s' Φ) (fun x s' => One M A c (H x) fs s' Φ) s) : One M A c (m.wrap K H gd lv) fs s Φ := by
  intro Γ p e hΓ
  subst e
  exact runs_wrap_of_wp (Φ := Φ) K H gd lv m (h _ p (hΓ.over fs)) (fun a q s1 o => o Γ q rfl hΓ) fun x q s1 o => o Γ q rfl hΓ
theorem one_bind {α : Type} {m : Sem α} {K : α → Sem PySem.Fin} (h : wpAny M (A.over c fs) m (fun a s' => One M A c (K a) fs s' Φ) (fun x s' => One M A c (.raise x) fs s' Φ) s) : One M A c (m >>= K) fs s Φ := by
  rw [Sem.bind_eq_wrap']
  exact one_wrap h
theorem one_at {p : Pos} {k : Unit → Sem PySem.Fin} (h : One M A c (k ()) fs s Φ) : One M A c (.at p k) fs s Φ :=
  one_wrap (m := standAt p) (K := k) (H := fun e => .raise e) (gd := fun b => b) (lv := fun l => l) (wpAny_standAt h)
theorem one_point {l : List Value} {k : Unit → Sem PySem.Fin} (h : One M A c (k ()) fs s Φ) : One M A c (.point l k) fs s Φ :=
  one_wrap (m := point) (K := k) (H := fun e => .raise e) (gd := fun b => b) (lv := fun _ => l) (wpAny_point h)
/-- a code is entered, its frame behind it -/
theorem one_call {c' : Code} {hd : Option Value} {g : Bool} {l : List Value} {k : Result → Sem PySem.Fin} (h : ∀ p, One M A c' (M.den c') (.ret k hd g l c p [] :: fs) s Φ) : One M A c (.call c' hd g l k) fs s Φ := by
  intro Γ p e hΓ
  subst e
  obtain ⟨e, s1, r, q⟩ := h p (Γ.goto c') p rfl (hΓ.goto c')
  exact ⟨e, s1, runs_call_seg r, q⟩
/-- .. and left -/
theorem one_leaf {hd : Option Value} {g : Bool} {l kp : List Value} {k : Result → Sem PySem.Fin} {c1 : Code} {p1 : Pos} (r : Result) (h : One M A c1 (k r) fs s Φ) : One M A c (leafOf r) (.ret k hd g l c1 p1 kp :: fs) s Φ := by
  intro Γ p e hΓ
  subst e
  obtain ⟨e, s1, x, q⟩ := h (Γ.goto c1) p1 rfl (hΓ.goto c1)
  exact ⟨e, s1, Runs.pop r x, q⟩
theorem one_again {c' : Code} (hq : c'.quiet = true) (h : One M A c' (M.den c') fs s Φ) : One M A c (.pure (.again c')) fs s Φ := by
  intro Γ p e hΓ
  subst e
  obtain ⟨e, s1, x, q⟩ := h (Γ.goto c') p rfl (hΓ.goto c')
  exact ⟨e, s1, Runs.head (c₁ := c') (fun _ _ y => .again hq y) x, q⟩
theorem one_end (r : Result) (h : Φ (.ret r) s) : One M A c (leafOf r) [] s Φ := by
  intro Γ p e _
  subst e
  exact ⟨_, s, Runs.leaf r, h⟩
theorem one_yield {v : Value} {g : Bool} {l : List Value} {k : Resume → Sem PySem.Fin} (hfs : splitAtGen fs = none) (h : ∀ p, Φ (.susp v g l k c p fs) s) : One M A c (.yield v g l k) fs s Φ := by
  intro Γ p e _
  subst e
  exact ⟨_, s, Runs.yield' fs hfs, h p⟩
theorem One.mono {t : Sem PySem.Fin} {Φ' : End → Shared → Prop} (h : One M A c t fs s Φ) (k : ∀ e s', Φ e s' → Φ' e s') : One M A c t fs s Φ' := fun Γ p e hΓ =>
  let ⟨e, s1, r, q⟩ := h Γ p e hΓ
  ⟨e, s1, r, k _ _ q⟩
/-- how a generator goes on -/
def Onward (M : Model) (A : Around) (gs : GenState) (s : Shared) (Φ : End → Shared → Prop) : Prop := match gs with
  | .fresh c => One M A c (M.den c) [] s Φ
  | .suspended k _ c _ fs _ => One M A c (k (.send .none)) fs s Φ
  | _ => False
theorem wpAny_wake {E : Value → Shared → Prop} {g : Nat} {gs : GenState} {l : List Value} {α : Type} {k : GenResult → Sem α} {Q : α → Shared → Prop} (hg : s.gens[g]? = some gs) (h : Onward M A gs (s.setGen g .running) Φ)
    (hq : ∀ e s1, Φ e s1 → s.gens.size ≤ s1.gens.size → e.quiet = true ∧ wpAny M A (k e.result) Q E (s1.setGen g e.genState)) : wpAny M A (.resume g (.send .none) l k) Q E s := by
  intro Γ p hΓ
  rw [Sem.wp_resume]
  cases gs with
  | fresh c =>
    obtain ⟨e, s1, r, q⟩ := h (Γ.wake c p) p rfl (hΓ.wake c p)
    obtain ⟨q1, q2⟩ := hq e s1 q (by have z := runs_gsz r; rw [setGen_size] at z; exact z)
    exact ⟨e.result, s1.setGen g e.genState, by unfold Wakes; rw [hg]; exact ⟨e, s1, r, q1, rfl, rfl⟩, q2 Γ p hΓ⟩
  | suspended k0 l0 c p0 fs0 cl =>
    obtain ⟨e, s1, r, q⟩ := h (Γ.wake c p) p0 rfl (hΓ.wake c p)
    obtain ⟨q1, q2⟩ := hq e s1 q (by have z := runs_gsz r; rw [setGen_size] at z; exact z)
    exact ⟨e.result, s1.setGen g e.genState, by unfold Wakes; rw [hg]; exact ⟨e, s1, r, q1, rfl, rfl⟩, q2 Γ p hΓ⟩
  | running => exact h.elim
  | finished => exact h.elim
end
/-! ### quietly -/
theorem quietly_bind {α β : Type} (d : Option Addr) : ∀ (m : Sem α) (f : α → Sem β), quietly d (m >>= f) = quietly d m >>= fun a => quietly d (f a) := by
  intro m f
  show quietly d (m.bind f) = (quietly d m).bind fun a => quietly d (f a)
  induction m with
  | yield v g l k ih =>
    cases g with
    | false => simp only [Sem.bind, quietly, ih]
    | true =>
      cases d with
      | none => rfl
      | some a =>
        simp only [Sem.bind, quietly, ih]
        congr 1
        funext o
        cases isGenO o <;> rfl
  | _ => simp only [Sem.bind, quietly, *]
theorem wp_quietly {α : Type} {M : Model} {d : Option Addr} {Γ : Ctx} : ∀ (t : Sem α) {Q : α → Pos → Shared → Prop} {E : Value → Pos → Shared → Prop} {p : Pos} {s : Shared}, Sem.wp M Γ t Q E p s → Sem.wp M Γ (quietly d t) Q E p s
  | .pure a, _, _, _, _, h => h
  | .raise a, _, _, _, _, h => h
  | .unsupported _, _, _, _, _, h => h.elim
  | .finish _, _, _, _, _, h => h.elim
  | .rule _ k, _, _, _, _, h => wp_quietly (k ()) h
  | .at _ k, _, _, _, _, h => wp_quietly (k ()) h
  | .load a _ k, _, _, _, _, h => let ⟨o, e, h⟩ := h; ⟨o, e, wp_quietly (k o) h⟩
  | .update a _ f k, _, _, _, _, h => ⟨h.1, wp_quietly (k ()) h.2⟩
  | .loadIfAlive a k, _, _, _, _, h => wp_quietly (k _) h
  | .point _ k, _, _, _, _, h => wp_quietly (k ()) h
  | .register _ _, _, _, _, _, h => h.elim
  | .alloc o k, _, _, _, _, h => wp_quietly (k _) h
  | .fresh k, _, _, _, _, h => wp_quietly (k _) h
  | .ask k, _, _, _, _, h => wp_quietly (k _) h
  | .choose src n k, _, _, _, _, h => ⟨h.1, wp_quietly (k _) h.2⟩
  | .os q _ k, _, _, _, _, h => wp_quietly (k _) h
  | .call c hd _ _ k, _, _, _, _, h => let ⟨r, s1, hr, h⟩ := h; ⟨r, s1, hr, wp_quietly (k r) h⟩
  | .handled own k, _, _, _, _, h => wp_quietly (k _) h
  | .genState g k, _, _, _, _, h => let ⟨x, e, h⟩ := h; ⟨x, e, wp_quietly (k _) h⟩
  | .newGen c k, _, _, _, _, h => wp_quietly (k _) h
  | .resume g r _ k, _, _, _, _, h => let ⟨res, s1, hw, h⟩ := h; ⟨res, s1, hw, wp_quietly (k res) h⟩
  | .yield .., _, _, _, _, h => h.elim
  | .stack k, _, _, _, _, h => wp_quietly (k _) h
  | .fork .., _, _, _, _, h => h.elim
  | .thread k, _, _, _, _, h => wp_quietly (k _) h
  | .await .., _, _, _, _, h => h.elim
theorem wpAny_quietly {α : Type} {M : Model} {A : Around} {d : Option Addr} {t : Sem α} {Q : α → Shared → Prop} {E : Value → Shared → Prop} {s : Shared} (h : wpAny M A t Q E s) : wpAny M A (quietly d t) Q E s := fun Γ p hΓ => wp_quietly t (h Γ p hΓ)
/-- a plain head of a quiet tree -/
theorem one_q {α : Type} {M : Model} {A : Around} {c : Code} {fs : List Frame} {s : Shared} {Φ : End → Shared → Prop} {d : Option Addr} {m : Sem α} {K : α → Sem PySem.Fin}
    (h : wpAny M (A.over c fs) m (fun a s' => One M A c (quietly d (K a)) fs s' Φ) (fun x s' => One M A c (.raise x) fs s' Φ) s) : One M A c (quietly d (m >>= K)) fs s Φ := by
  rw [quietly_bind]
  exact one_bind (wpAny_quietly h)
end XG

/-! XG: a generator is asked for its next item. -/
namespace XG
open _root_.PySem L2 GenW
open PyProof.Rows (AllBare)
/-- a generator object; n delegators sleep over it -/
structure GObj (o : Obj) (g : Nat) (n : Int) : Prop where
  cls : o.cls = .type "generator"
  data : ∃ nm qn, o.data = .fields #[.int g 0, nm, qn]
  slot : (o.slots = #[] ∧ n = 0) ∨ o.slots = #[some (.int n 0)]
theorem GObj.isGen {o : Obj} {g : Nat} {n : Int} (h : GObj o g n) : isGenO o = true := by
  obtain ⟨nm, qn, d⟩ := h.data
  unfold isGenO Obj.genNumber?
  rw [h.cls, d]
  rfl
section
variable {M : Model} {A : Around} {E : Value → Shared → Prop} {s : Shared} {a : Addr} {o : Obj} {g : Nat}
theorem genNumber_of {Q : Nat → Shared → Prop} (ho : s.heap.get? a = some o) (h : GObj o g 0) (hq : Q g s) : wpAny M A (Builtin.Generator.genNumber (.ref a)) Q E s := by
  obtain ⟨nm, qn, d⟩ := h.data
  unfold Builtin.Generator.genNumber
  refine wpAny_bind (wpAny_load ho ?_)
  have fin : wpAny M A (pure ((g : Int).toNat)) Q E s := by rw [Int.toNat_natCast]; exact wpAny_pure hq
  rcases h.slot with ⟨e, _⟩ | e
  · rw [e, d]
    exact fin
  · rw [e, d]
    exact fin
theorem setSlot0 {v : Value} {Q : Unit → Shared → Prop} {o' : Obj} (ho : s.heap.get? a = some o) (hs : (o.slots ++ Array.replicate (0 + 1 - o.slots.size) none).setIfInBounds 0 (some v) = o'.slots) (h1 : o'.cls = o.cls) (h2 : o'.dict = o.dict) (h3 : o'.data = o.data) (hf : o'.isFreed = false)
    (hq : ∀ h', h'.get? a = some o' → Heap.SameBut a s.heap h' → Q () { s with heap := h' }) : wpAny M A (setSlotAt a 0 (some v)) Q E s := by
  have e : ({ o with slots := (o.slots ++ Array.replicate (0 + 1 - o.slots.size) none).setIfInBounds 0 (some v) } : Obj) = o' := by
    obtain ⟨c, d, t, l⟩ := o'
    obtain ⟨c0, d0, t0, l0⟩ := o
    cases h1; cases h2; cases h3; cases hs; rfl
  unfold setSlotAt
  dsimp only
  rw [if_neg (show ¬ (0 ≥ sizeLine) by decide)]
  refine (wpAny_updatePart ho (hq _ ((Heap.get?_update_self _ ho (by rw [e]; exact hf)).trans (by rw [e])) (Heap.SameBut.update ..)))
/-- .. asleep under a delegator, awake again -/
theorem sleptOver_of {n : Int} {b : Bool} {Q : Unit → Shared → Prop} (ho : s.heap.get? a = some o) (h : GObj o g n)
    (hq : ∀ h' o', h'.get? a = some o' → GObj o' g (if b then n + 1 else n - 1) → Heap.SameBut a s.heap h' → Q () { s with heap := h' }) : wpAny M A (Builtin.Generator.sleptOver (.ref a) b) Q E s := by
  obtain ⟨nm, qn, d⟩ := h.data
  unfold Builtin.Generator.sleptOver
  refine wpAny_bind (wpAny_load ho ?_)
  rw [h.cls]
  show wpAny M A (setSlotAt a 0 (some (rawInt (if b = true then (match (o.slots[0]? : Option (Option Value)) with | some (some (Value.int n _)) => n | _ => 0) + 1 else (match (o.slots[0]? : Option (Option Value)) with | some (some (Value.int n _)) => n | _ => 0) - 1)))) Q E s
  have nn : (match (o.slots[0]? : Option (Option Value)) with | some (some (Value.int n _)) => n | _ => 0) = n := by
    rcases h.slot with ⟨e, e2⟩ | e
    · rw [e, e2]; rfl
    · rw [e]; rfl
  rw [nn]
  refine setSlot0 (o' := { o with slots := #[some (.int (if b then n + 1 else n - 1) 0)] }) ho ?_ rfl rfl rfl (Obj.isFreed_of_fields d) fun h' e1 e2 => hq h' _ e1 ⟨h.cls, ⟨nm, qn, d⟩, .inr rfl⟩ e2
  rcases h.slot with ⟨e, e2⟩ | e
  · rw [e]; cases b <;> rfl
  · rw [e]; cases b <;> rfl
end
/-! ### the next item, at the quiet model -/
section
variable {P : Program} {w : World} {A : Around} {E : Value → Shared → Prop} {s : Shared} {a : Addr} {o : Obj} {g : Nat}
theorem codeX_builtin {id : String} {args : Args} {b : Builtin} {R : Result → Shared → Prop} (hn : (id == "proto.yield_from") = false) (hp : plainId id = true) (hb : entryFor table id = some b)
    (h : wpAny (modelX P w) A.in1 (checkBuiltinCall id args) (fun _ s1 => wpAny (modelX P w) A.in1 (b args) (fun fin s' => ∃ v, fin = .done (.ret v) ∧ R (.ok (.ret v)) s') (fun e s' => R (.error e) s') s1) (fun e s' => R (.error e) s') s) : codeAny (modelX P w) A (.call (.builtin id) args) R s := by
  have hpx : (modelX P w).den (.builtin id args) = b args := by
    show px (.builtin id args) (match entryFor table id with | some b => b args | none => _) = _
    rw [hb]
    have e : isYf (.builtin id args) = false := hn
    unfold px
    rw [e]
    rfl
  refine codeAny_of_tree ?_
  show wpAny _ A.in1 (checkBuiltinCall id args >>= fun _ => again (.builtin id args)) _ _ s
  refine wpAny_bind (wpAny_mono h (fun _ s1 h1 => wpAny_pure ⟨plainId_quiet hp args, codeAny_of_tree ?_⟩) fun _ _ x => x)
  rw [hpx, Around.under_plainId hp args]
  exact wpAny_mono h1 (fun fin s' ⟨v, e, q⟩ => by subst e; exact q) fun _ _ x => x
theorem callX_slot {T : String} {name : Str} {id : String} {b : Builtin} {self : Value} {Q : Option Value → Shared → Prop} (hn : (id == "proto.yield_from") = false) (h : Slot T name id) (hT : s.TypeIs self T) (hb : entryFor table id = some b) (ha : argsOk id ⟨[self], []⟩)
    (hc : wpAny (modelX P w) A.in1 (b ⟨[self], []⟩) (fun fin s' => ∃ v, fin = .done (.ret v) ∧ Q (some v) s') E s) : wpAny (modelX P w) A (callSpecial? self name) Q E s :=
  wpAny_callSpecial?_slot hT h (wpAny_call (codeX_builtin hn h.plain hb (h.check _ _ _ _ _ _ _ _ hT ha hc)))
/-- the exception that tells of the end -/
theorem stop_made {A : Around} {M : Model} {Q : Value → Shared → Prop} {s : Shared} (h : ∀ x h' (tb : True), StopX x h' → (∀ b o, s.heap.get? b = some o → h'.get? b = some o) → Q x { s with heap := h' }) : wpAny M A (newExc (.type "StopIteration") []) Q E s := by
  simp only [newExc, newTuple]
  have st : firstArgMember (.type "StopIteration") [] = pure Value.none := by first | rfl | simp only [firstArgMember]; rfl
  refine wpAny_bind (wpAny_newObj_type (wpAny_bind (by rw [st]; refine wpAny_pure (wpAny_newObj_type (h _ _ trivial ⟨_, _, _, rfl, Heap.get?_push_size _ rfl, rfl, rfl, ?_⟩ fun b o hb => Heap.get?_push_of_some _ (Heap.get?_push_of_some _ hb)) (by size_fits)); first | rfl | (rw [Array.getElem?_append_left (by decide)]; rfl) | kernel_rfl)) (by size_fits))
theorem raised_new {A : Around} {M : Model} {α : Type} {Q : α → Shared → Prop} {s : Shared} {x : Value} (hh : A.handled = none) (h : E x s) (_ : True) : wpAny M A.in1 (raiseNew x : Sem α) Q E s := by
  simp only [raiseNew]
  refine wpAny_bind (wpAny_handled ?_)
  have e : A.in1.handled = none := hh
  rw [e]
  cases x <;> exact wpAny_throw h
/-- generator.__next__ -/
theorem next_special {gs : GenState} {Φ : End → Shared → Prop} {Q : Option Value → Shared → Prop} (hh : A.handled = none) (hl : s.heap.NoLimit) (hd : A.depth < recursionLimit) (ho : s.heap.get? a = some o) (hg : GObj o g 0) (hs : s.gens[g]? = some gs)
    (h : Onward (modelX P w) A.in1 gs (s.setGen g .running) Φ) (hy : ∀ v g0 l k c p fs s1, Φ (.susp v g0 l k c p fs) s1 → s.gens.size ≤ s1.gens.size → (End.susp v g0 l k c p fs).quiet = true ∧ Q (some v) (s1.setGen g (End.susp v g0 l k c p fs).genState))
    (he : ∀ r s1, Φ (.ret r) s1 → s.gens.size ≤ s1.gens.size → r = .ok (.ret .none) ∧ ∀ e h', StopX e h' → (∀ b o, s1.heap.get? b = some o → h'.get? b = some o) → E e { s1.setGen g .finished with heap := h' }) :
    wpAny (modelX P w) A (callSpecial? (.ref a) "__next__") Q E s := by
  have hT : s.TypeIs (.ref a) "generator" := ⟨o, ho, hg.cls⟩
  refine callX_slot (by decide) slot_gen_next hT entry_gen_next (args_gen_next _) ?_
  show wpAny _ _ (Builtin.Generator.genWake (.ref a) (.send .none)) _ _ s
  unfold Builtin.Generator.genWake
  refine wpAny_bind (wpAny_holding (genNumber_of ho hg (wpAny_bind (wpAny_genState hs ?_))))
  have go : ∀ (gs : GenState), s.gens[g]? = some gs → Onward (modelX P w) A.in1 gs (s.setGen g .running) Φ → wpAny (modelX P w) A.in1 (do
      match ← resume g (.send .none) with
      | .yielded v => ret v
      | .returned v =>
        if v == .none then raiseNew (← newExc (.type "StopIteration") [])
        rule "generator.return-value"; throw (← newExc (.type "StopIteration") [v])
      | .raised e =>
        if let .throw _ := (Resume.send Value.none) then
          if gs.status == GenStatus.fresh then rule "generator.throw.into-fresh"; throw e
        Builtin.Generator.genLeft (.ref a) e
      | .running => rule "generator.already-executing"; raiseError "ValueError" "generator already executing"
      | .justStarted => rule "generator.send-to-fresh"; raiseError "TypeError" "can't send non-None value to a just-started generator"
      | .finished =>
        match (Resume.send Value.none) with
        | .send _ => raiseNew (← newExc (.type "StopIteration") [])
        | .throw e => throw e) (fun fin s' => ∃ v, fin = .done (.ret v) ∧ Q (some v) s') E s := fun gs hs h => by
    show wpAny _ _ (.resume g (.send .none) [] _) _ _ s
    refine wpAny_wake hs h fun e s1 q sz => ?_
    cases e with
    | susp v g0 l k c p fs =>
      obtain ⟨q1, q2⟩ := hy _ _ _ _ _ _ _ _ q sz
      exact ⟨q1, wpAny_pure ⟨v, rfl, q2⟩⟩
    | ret r =>
      obtain ⟨rfl, q2⟩ := he _ _ q sz
      refine ⟨rfl, ?_⟩
      show wpAny (modelX P w) A.in1 (newExc (.type "StopIteration") [] >>= _) _ _ _
      exact wpAny_bind (stop_made fun x h' tb st k => wpAny_bind (raised_new hh (q2 x h' st k) tb))
  cases gs with
  | running => exact h.elim
  | finished => exact h.elim
  | fresh c => exact wpAny_bind (wpAny_roomToWake hl hd (go _ hs h))
  | suspended k l c p fs cl => exact wpAny_bind (wpAny_roomToWake hl hd (go _ hs h))
/-- next(it) of a loop -/
theorem next_turn {gs : GenState} {Φ : End → Shared → Prop} {Q : Option Value → Shared → Prop} (hh : A.handled = none) (hl : s.heap.NoLimit) (hd : A.depth < recursionLimit) (ho : s.heap.get? a = some o) (hg : GObj o g 0) (hs : s.gens[g]? = some gs)
    (h : Onward (modelX P w) A.in1 gs (s.setGen g .running) Φ) (hy : ∀ v g0 l k c p fs s1, Φ (.susp v g0 l k c p fs) s1 → s.gens.size ≤ s1.gens.size → (End.susp v g0 l k c p fs).quiet = true ∧ Q (some v) (s1.setGen g (End.susp v g0 l k c p fs).genState))
    (he : ∀ r s1, Φ (.ret r) s1 → s.gens.size ≤ s1.gens.size → r = .ok (.ret .none) ∧ ∀ h', (∀ b o, s1.heap.get? b = some o → h'.get? b = some o) → Q none { s1.setGen g .finished with heap := h' }) :
    wpAny (modelX P w) A (pyNext (.ref a)) Q E s := by
  unfold pyNext
  refine wpAny_bind (wpAny_attempt (next_special hh hl hd ho hg hs h (fun v g0 l k c p fs s1 q sz => ?_) fun r s1 q sz => ?_))
  · obtain ⟨q1, q2⟩ := hy _ _ _ _ _ _ _ _ q sz
    exact ⟨q1, wpAny_pure q2⟩
  · obtain ⟨q1, q2⟩ := he _ _ q sz
    refine ⟨q1, fun e h' st k => ?_⟩
    obtain ⟨b, oe, vs, rfl, e1, e2, _, _⟩ := st
    refine wpAny_bind (wpAny_isInstance (T := "StopIteration") (b := true) ⟨_, e1, e2⟩ isSubtype_stop ?_)
    exact wpAny_pure (q2 h' k)
end
end XG

/-! XG: a generator's frame over its life: each waking is a new entry. -/
namespace XG
open _root_.PySem L2 GenW TD
open PyProof.Rows (AllBare)
/-! ### the heap below L -/
def cut (h : Heap) (L : Addr) : Heap := { h with objs := h.objs.extract 0 L }
theorem cut_get {h : Heap} {L b : Nat} {o : Obj} : (cut h L).get? b = some o ↔ b < L ∧ h.get? b = some o := by
  rw [Heap.get?_some_iff, Heap.get?_some_iff]
  show (h.objs.extract 0 L)[b]? = some o ∧ _ ↔ _
  rw [Array.getElem?_extract]
  by_cases hb : b < L
  · by_cases hz : b < h.objs.size
    · have : b < min L h.objs.size - 0 := by omega
      have t2 : b < min L h.objs.size := by omega
      simp [hb, t2]
    · have e : h.objs[b]? = none := Array.getElem?_eq_none (by omega)
      simp [hb, hz, e]
  · have : ¬ b < min L h.objs.size - 0 := by omega
    have t2 : ¬ b < min L h.objs.size := by omega
    simp [hb, t2]
theorem cut_size {h : Heap} {L : Nat} (hl : L ≤ h.objs.size) : (cut h L).objs.size = L := by
  show (h.objs.extract 0 L).size = L
  rw [Array.size_extract]; omega
def cutH (H : Hp) (L : Addr) : Hp := fun b => if b < L then H b else none
theorem cutH_lt {H : Hp} {L b : Addr} (h : b < L) : cutH H L b = H b := if_pos h
theorem cutH_some {H : Hp} {L b : Addr} {o : HO} (h : cutH H L b = some o) : b < L ∧ H b = some o := by
  unfold cutH at h
  split at h
  · rename_i q; exact ⟨q, h⟩
  · cases h
def isCell (o : Obj) : Bool := match o.data with
  | .cell _ => true
  | _ => false
/-- what is younger than the frame, held by others -/
def young (h : Heap) (H : Hp) (L : Addr) (ex : List Addr) : List (Addr × Obj) := (List.range h.objs.size).filterMap fun b => match h.get? b with
  | some o => if L < b ∧ H b = none ∧ b ∉ ex ∧ isCell o = false then some (b, o) else none
  | none => none
theorem mem_young {h : Heap} {H : Hp} {L : Addr} {ex : List Addr} {p : Addr × Obj} : p ∈ young h H L ex ↔ h.get? p.1 = some p.2 ∧ L < p.1 ∧ H p.1 = none ∧ p.1 ∉ ex ∧ isCell p.2 = false := by
  unfold young
  rw [List.mem_filterMap]
  constructor
  · rintro ⟨b, _, e⟩
    cases q : h.get? b with
    | none => rw [q] at e; cases e
    | some o =>
      rw [q] at e
      dsimp only at e
      split at e
      · rename_i z
        cases e
        exact ⟨q, z⟩
      · cases e
  · rintro ⟨e, z⟩
    exact ⟨p.1, List.mem_range.mpr (Heap.lt_size e), by rw [e]; dsimp only; rw [if_pos z]⟩
/-- the cells that are younger -/
def youngC (h : Heap) (L : Addr) : List Addr := (List.range h.objs.size).filter fun b => match h.get? b with
  | some o => decide (L < b) && isCell o
  | none => false
theorem mem_youngC {h : Heap} {L b : Addr} : b ∈ youngC h L ↔ L < b ∧ ∃ o, h.get? b = some o ∧ isCell o = true := by
  unfold youngC
  rw [List.mem_filter]
  constructor
  · rintro ⟨_, e⟩
    cases q : h.get? b with
    | none => rw [q] at e; cases e
    | some o =>
      rw [q] at e
      simp only [Bool.and_eq_true, decide_eq_true_eq] at e
      exact ⟨e.1, o, rfl, e.2⟩
  · rintro ⟨h1, o, h2, h3⟩
    refine ⟨List.mem_range.mpr (Heap.lt_size h2), ?_⟩
    rw [h2]
    simp [h1, h3]
/-! ### the frame -/
/-- what stays: the program, the frames below, the generator's frame -/
structure Gn where
  P : Program
  w : World
  K : PySem.W.Frag
  mg : Str → Option Value
  base : Heap
  A : Around
  stk : List Env
  N : List Str
  env : Env
  num : Nat
abbrev Gn.L (G : Gn) : Addr := G.env.locals
structure Gn.Ok (G : Gn) : Prop where
  kind : G.env.scope.kind = .function
  glob : G.env.globals = mainGlobals
  blt : G.env.builtins = builtinsNs
  cells : G.env.cells = []
  frame : G.env.frame = some G.env.locals
  bsz : G.base.objs.size ≤ G.L
  old : ∀ b ∈ frs G.stk, b < G.L
  names : ∀ y ∈ G.env.scope.names, y.2 = .local ∨ y.2 = .globalImplicit ∨ y.2 = .globalExplicit
/-- the context of one stretch -/
def Gn.cx (G : Gn) (s : Shared) (H : Hp) : Cx where
  prog := G.P
  w := G.w
  K := G.K
  mg := G.mg
  base := G.base
  A := G.A.deeper G.env
  N := G.N
  s_0 := { s with heap := cut s.heap G.L }
  H_0 := cutH H G.L
  env := G.env
  outer := G.stk
  stack := G.env :: G.stk
  ex := []
  fn := fun _ => true
  calm := true
  pn := []
  xe := fun _ _ => False
/-- the frame's slots at its object -/
def FrO (G : Gn) (o : Obj) (σ : St) : Prop := ∃ (m : Str → Option Value) (es : Array DictEntry) (ep : Nat), o.data = .dict es ep ∧ StrKeys es ∧ (∀ name, nsFind es name = m name) ∧ σ.length = G.N.length ∧
  ∀ (i : Nat) (x : Str) (v : V), G.N[i]? = some x → σ[i]? = some (some v) → Vis G.env.scope x → ∃ u, RelV v u ∧ G.env.kindOf x = some .local ∧ m x = some u
section
variable {G : Gn} {s s1 : Shared} {H H1 : Hp} {σ : St} {o : Obj} {ex : List Addr}
theorem no_cell {y : Str} {k : NameKind} (g : G.Ok) (h : G.env.kindOf y = some k) : k ≠ .cell ∧ k ≠ .free := by
  have := g.names _ (PySem.mem_of_lookup h)
  rcases this with e | e | e <;> (constructor <;> (intro z; rw [z] at e; cases e))
/-- woken: an entry -/
theorem enter (g : G.Ok) (hd : G.A.handled = none) (e0 : Env0 G.P G.w G.K G.mg G.base G.A G.stk s H) (ho : s.heap.get? G.L = some o) (hf : H G.L = none) (hs : FrO G o σ) : Inv (G.cx s H) (young s.heap H G.L ex) σ H s := by
  have hsz : G.L ≤ s.heap.objs.size := Nat.le_of_lt (Heap.lt_size ho)
  obtain ⟨m, es, ep, h1, h2, h3, h4, h5⟩ := hs
  have nc : ∀ {x : Str} {c : Addr}, ¬ G.env.cells.lookup x = some c := fun {x c} e => by rw [g.cells] at e; cases e
  have nofs : ∀ b ∈ frs G.stk, b < G.L := g.old
  refine ⟨⟨e0.mod, g.kind, g.glob, g.blt, ?_, fun x y c e => absurd e nc, fun x hx => ?_, fun x c _ e => absurd e nc, fun _ => hd, Around.frames_deeper e0.frames, .inr ⟨rfl, g.frame⟩, (fun b z => by cases z), fun b ob e => ?_, ?_, (fun _ _ _ z => by cases z), (fun _ z => by cases z), ?_, fun b hb => ?_⟩,
    rfl, e0.bare, ⟨fun b ob e _ _ _ => (cut_get.mp e).2, fun b ob e _ _ _ => ⟨ob.slots, (cut_get.mp e).2⟩, fun b ob e n _ => ?_, fun b ob e _ => ⟨ob, (cut_get.mp e).2⟩, fun b xs e => (cutH_some e).2, fun b ob u e => (cutH_some e).2, fun b ps e => ⟨#[], by rw [(cutH_some e).2]; simp⟩⟩,
    ⟨m, ⟨o, es, ep, ho, h1, h2, h3⟩, fun i x v e1 e2 e3 => ?_⟩, fun x c e => absurd e nc, hf, fun x c e => absurd e nc, fun p hp => ?_, e0.hok, h4⟩
  · show (cut s.heap G.L).objs.size ≤ G.L
    rw [cut_size hsz]; exact Nat.le_refl _
  · rcases hx with hx | hx
    · exact absurd rfl (no_cell g hx).1
    · exact absurd rfl (no_cell g hx).2
  · obtain ⟨a, b2⟩ := e0.bs b ob e
    have hb : b < G.L := Nat.lt_of_lt_of_le (Heap.lt_size e) g.bsz
    exact ⟨cut_get.mpr ⟨hb, a⟩, (cutH_lt hb).trans b2⟩
  · show G.base.objs.size ≤ (cut s.heap G.L).objs.size
    rw [cut_size hsz]; exact g.bsz
  · have all : ∀ (l : List Env), (∀ b ∈ frs l, b < G.L) → s.heap.FunFrames G.base l → (cut s.heap G.L).FunFrames G.base l := by
      intro l
      induction l with
      | nil => intro _ _; trivial
      | cons env r ih =>
        intro hs hl
        obtain ⟨hk, ⟨L, ob, hf, hn, hb, hd⟩, hr⟩ := hl
        have hL : L < G.L := hs L (by unfold frs; rw [List.filterMap_cons, hf]; exact List.mem_cons_self)
        exact ⟨hk, ⟨L, ob, hf, hn, cut_get.mpr ⟨hL, hb⟩, hd⟩, ih (fun b hb => hs b (by unfold frs; rw [List.filterMap_cons, hf]; exact List.mem_cons_of_mem _ hb)) hr⟩
    exact all G.stk nofs e0.funs
  · exact (cutH_lt (nofs b hb)).trans (e0.frf b hb)
  · have hb := (cut_get.mp e).1
    exact (cutH_lt hb).symm.trans n
  · obtain ⟨u, r, k, l⟩ := h5 i x v e1 e2 e3
    exact ⟨u, r, .inl ⟨k, l⟩⟩
  · obtain ⟨p1, p2, p3, p4, p5⟩ := mem_young.mp (show p ∈ young s.heap H G.L ex from hp)
    refine ⟨p1, p3, Nat.ne_of_gt p2, fun hb => absurd (nofs _ hb) (Nat.not_lt.mpr (Nat.le_of_lt p2)), fun v e => ?_⟩
    unfold isCell at p5
    rw [e] at p5
    cases p5
/-- asleep again, or at its end: what changed -/
theorem leave (g : G.Ok) (hsz : G.L ≤ s.heap.objs.size) {pins : List (Addr × Obj)} (hp : ∀ p ∈ young s.heap H G.L ex, p ∈ pins) {M M1 : Mem} (t : Tr H M H1 M1) (I : Inv (G.cx s H) pins σ H1 s1) : Un (frs G.stk) (G.L :: (ex ++ youngC s.heap G.L)) H H1 s.heap s1.heap := by
  have nex : ∀ b, b ∉ (G.cx s H).ex := fun b z => by cases z
  have hpin : ∀ b ob, s.heap.get? b = some ob → H b = none → ¬ b < G.L → b ∉ G.L :: (ex ++ youngC s.heap G.L) → (b, ob) ∈ (G.cx s H).pn ++ pins := fun b ob e n hl hx => by
    have hne : b ≠ G.L := fun z => hx (by rw [z]; exact List.mem_cons_self)
    refine List.mem_append_right _ (hp _ (mem_young.mpr ⟨e, Nat.lt_of_le_of_ne (Nat.not_lt.mp hl) (Ne.symm hne), n, fun z => hx (List.mem_cons_of_mem _ (List.mem_append_left _ z)), ?_⟩))
    cases q : isCell ob with
    | false => rfl
    | true => exact absurd (List.mem_cons_of_mem _ (List.mem_append_right _ (mem_youngC.mpr ⟨Nat.lt_of_le_of_ne (Nat.not_lt.mp hl) (Ne.symm hne), ob, e, q⟩))) hx
  refine ⟨fun b ob e n hb hx => ?_, fun b ob e n hb hx => ?_, fun b ob e n hx => ?_, fun b ob e hx => ?_, t.tup, t.frz, t.tb⟩
  · by_cases hl : b < G.L
    · exact I.base.keep b ob (cut_get.mpr ⟨hl, e⟩) ((cutH_lt hl).trans n) hb (nex b)
    · exact (I.pin (b, ob) (hpin b ob e n hl hx)).1
  · have hl := g.old b hb
    exact I.base.slot b ob (cut_get.mpr ⟨hl, e⟩) ((cutH_lt hl).trans n) hb (nex b)
  · by_cases hl : b < G.L
    · exact I.base.free b ob (cut_get.mpr ⟨hl, e⟩) ((cutH_lt hl).trans n) (nex b)
    · exact (I.pin (b, ob) (hpin b ob e n hl hx)).2.1
  · by_cases hl : b < G.L
    · exact I.base.there b ob (cut_get.mpr ⟨hl, e⟩) (nex b)
    · cases n : H b with
      | none => exact ⟨ob, (I.pin (b, ob) (hpin b ob e n hl hx)).1⟩
      | some u =>
        obtain ⟨u', e1⟩ := t.dom b u n
        cases q : s1.heap.get? b with
        | some o1 => exact ⟨o1, rfl⟩
        | none =>
          have := I.hok.gone q
          rw [e1] at this; cases this
/-- the frame's object at a rest -/
theorem rest_of (g : G.Ok) {pins : List (Addr × Obj)} (I : Inv (G.cx s H) pins σ H1 s1) : ∃ o, s1.heap.get? G.L = some o ∧ H1 G.L = none ∧ FrO G o σ ∧ isCell o = false := by
  obtain ⟨m, ⟨o, es, ep, ho, h1, h2, h3⟩, hl⟩ := I.loc
  refine ⟨o, ho, I.free, ⟨m, es, ep, h1, h2, h3, I.len, fun i x v e1 e2 e3 => ?_⟩, by unfold isCell; rw [h1]⟩
  obtain ⟨u, r, l⟩ := hl i x v e1 e2 e3
  rcases l with ⟨k, l⟩ | ⟨k, _⟩
  · exact ⟨u, r, k, l⟩
  · rcases k with k | k
    · exact absurd rfl (no_cell g k).1
    · exact absurd rfl (no_cell g k).2
end
end XG

/-! XG: what a generator will hand out. -/
namespace XG
open _root_.PySem L2 GenW TD
open PyProof.Rows (AllBare)
def ovr (B : Bk) (l : List (Nat × GenState)) : Bk := ⟨fun i => match l.lookup i with
  | some x => some x
  | none => B i, B.z⟩
theorem ovr_nil (B : Bk) : ovr B [] = B := rfl
/-- whom it sleeps over is one of the objects -/
def Under (fo : List (Addr × Obj)) (x : GenState) : Prop := loudG x = true → ∃ a o, delegG x = some a ∧ (a, o) ∈ fo ∧ isGenO o = true
theorem Under.more {fo fo' : List (Addr × Obj)} {x : GenState} (h : Under fo x) (k : ∀ p ∈ fo, p ∈ fo') : Under fo' x := fun l => let ⟨a, o, h1, h2, h3⟩ := h l; ⟨a, o, h1, k _ h2, h3⟩
/-- as it is woken -/
structure Wake (G : Gn) (fo : List (Addr × Obj)) (fg : List (Nat × GenState)) (B : Bk) (H0 : Hp) (M0 : Mem) (s : Shared) (H : Hp) (M : Mem) : Prop where
  env : Env0 G.P G.w G.K G.mg G.base G.A G.stk s H
  sim : Sim G.K H M
  tr : Tr H0 M0 H M
  obj : ∀ p ∈ fo, s.heap.get? p.1 = some p.2 ∧ H p.1 = none
  sg : SG (ovr B fg) s
  apart : ∀ q ∈ fg, B q.1 = none ∧ G.num < q.1
  num : G.num < s.gens.size
/-- as it rests -/
structure Done (G : Gn) (fo fo1 : List (Addr × Obj)) (fg1 : List (Nat × GenState)) (B : Bk) (s : Shared) (H : Hp) (M : Mem) (s1 : Shared) (H1 : Hp) : Prop where
  os : s1.os = s.os
  bare : AllBare s1.gens
  un : Un (frs G.stk) (G.L :: (fo.map (·.1) ++ youngC s.heap G.L)) H H1 s.heap s1.heap
  hok : HOk G.P G.w H1 s1.heap
  sim : Sim G.K H1 M
  tr : Tr H M H1 M
  sg : SG (ovr B fg1) s1
  apart : ∀ q ∈ fg1, B q.1 = none ∧ G.num < q.1
  obj : ∀ p ∈ fo1, s1.heap.get? p.1 = some p.2 ∧ H1 p.1 = none ∧ isCell p.2 = false ∧ G.L ≤ p.1 ∧ (∀ q ∈ young s.heap H G.L (fo.map (·.1)), q.1 ≠ p.1)
/-- one stretch of it, from s on: it hands out the first item, the rest later -/
def Post (G : Gn) : List D → List (Addr × Obj) → Bk → Shared → Hp → Mem → End → Shared → Prop
  | [], fo, B, s, H, M, e, s1 => ∃ H1, e = .ret (.ok (.ret .none)) ∧ Done G fo [] [] B s H M s1 H1
  | d :: ds, fo, B, s, H, M, e, s1 => ∃ (v : V) (u : Value) (H1 : Hp) (fo1 : List (Addr × Obj)) (fg1 : List (Nat × GenState)) (l : List Value) (k : Resume → Sem PySem.Fin) (c : Code) (p : Pos) (fs : List Frame),
      e = .susp u false l k c p fs ∧ fs.any Frame.guarded = false ∧ RelV v u ∧ Rep G.K H1 v d ∧ (G.L ∈ fo1.map (·.1) ∧ Under fo1 (End.susp u false l k c p fs).genState ∧ ∀ q ∈ fg1, Under fo1 q.2) ∧ Done G fo fo1 fg1 B s H M s1 H1 ∧
      ∀ (B2 : Bk) (s2 : Shared) (H2 : Hp) (M2 : Mem), Wake G fo1 fg1 B2 H1 M s2 H2 M2 → One (modelX G.P G.w) G.A c (k (.send .none)) fs s2 (Post G ds fo1 B2 s2 H2 M2)
/-- it will hand out ds -/
def Alive (G : Gn) (ds : List D) (gs : GenState) (fo : List (Addr × Obj)) (fg : List (Nat × GenState)) (H0 : Hp) (M0 : Mem) : Prop :=
  ∀ (B : Bk) (s : Shared) (H : Hp) (M : Mem), Wake G fo fg B H0 M0 s H M → Onward (modelX G.P G.w) G.A gs s (Post G ds fo B s H M)
/-- amid a stretch that began at s0; aux: objects of its own that stand still now -/
structure Mid (G : Gn) (fo : List (Addr × Obj)) (B : Bk) (s0 : Shared) (H0 : Hp) (M : Mem) (aux : List (Addr × Obj)) (σ : St) (fg : List (Nat × GenState)) (s : Shared) (H : Hp) : Prop where
  sz : G.L ≤ s0.heap.objs.size
  inv : Inv (G.cx s0 H0) (young s0.heap H0 G.L (fo.map (·.1)) ++ aux) σ H s
  aux : ∀ p ∈ aux, G.L < p.1 ∧ isCell p.2 = false ∧ (∀ q ∈ young s0.heap H0 G.L (fo.map (·.1)), q.1 ≠ p.1)
  sim : Sim G.K H M
  tr : Tr H0 M H M
  sg : SG (ovr B fg) s
  apart : ∀ q ∈ fg, B q.1 = none ∧ G.num < q.1
  num : G.num < s.gens.size
section
variable {G : Gn} {fo : List (Addr × Obj)} {B : Bk} {s0 s s1 : Shared} {H0 H H1 : Hp} {M : Mem} {aux : List (Addr × Obj)} {σ : St} {fg : List (Nat × GenState)}
theorem Mid.get (m : Mid G fo B s0 H0 M aux σ fg s H) {p : Addr × Obj} (h : p ∈ aux) : s.heap.get? p.1 = some p.2 ∧ H p.1 = none :=
  let z := m.inv.pin p (List.mem_append_right _ (List.mem_append_right _ h))
  ⟨z.1, z.2.1⟩
theorem notcell {o : Obj} (h : isCell o = false) : ∀ v, o.data ≠ .cell v := fun v e => by
  unfold isCell at h
  rw [e] at h
  cases h
theorem iscell {o : Obj} (h : isCell o = true) : ∃ v, o.data = .cell v := by
  unfold isCell at h
  split at h
  · rename_i v e; exact ⟨v, e⟩
  · cases h
/-- other objects stand still -/
theorem Mid.re (g : G.Ok) (m : Mid G fo B s0 H0 M aux σ fg s H) {aux' : List (Addr × Obj)} (h : ∀ p ∈ aux', p ∈ aux ∨ (s.heap.get? p.1 = some p.2 ∧ H p.1 = none ∧ G.L < p.1 ∧ isCell p.2 = false ∧ (∀ q ∈ young s0.heap H0 G.L (fo.map (·.1)), q.1 ≠ p.1))) : Mid G fo B s0 H0 M aux' σ fg s H := by
  have st : ∀ p ∈ aux', G.L < p.1 ∧ isCell p.2 = false ∧ (∀ q ∈ young s0.heap H0 G.L (fo.map (·.1)), q.1 ≠ p.1) := fun p hp => by
    rcases h p hp with z | ⟨_, _, z⟩
    · exact m.aux p z
    · exact z
  refine ⟨m.sz, m.inv.pins_of fun p hp => ?_, st, m.sim, m.tr, m.sg, m.apart, m.num⟩
  rcases List.mem_append.mp hp with z | z
  · exact m.inv.pin p (List.mem_append_right _ (List.mem_append_left _ z))
  · rcases h p z with y | ⟨y1, y2, y3, y4, _⟩
    · exact m.inv.pin p (List.mem_append_right _ (List.mem_append_right _ y))
    · exact ⟨y1, y2, Nat.ne_of_gt y3, fun hb => absurd (g.old _ hb) (Nat.not_lt.mpr (Nat.le_of_lt y3)), notcell y4⟩
/-- an object of its own may turn -/
theorem Mid.fp (g : G.Ok) (m : Mid G fo B s0 H0 M aux σ fg s H) {b : Addr} (h1 : H b = none) (h2 : G.L < b) (h3 : ∀ q ∈ young s0.heap H0 G.L (fo.map (·.1)), q.1 ≠ b) (h4 : ∀ p ∈ aux, p.1 ≠ b) : FpOk (G.cx s0 H0) (young s0.heap H0 G.L (fo.map (·.1)) ++ aux) H b := by
  refine ⟨h1, Nat.ne_of_gt h2, fun hb => absurd (g.old _ hb) (Nat.not_lt.mpr (Nat.le_of_lt h2)), .inr ?_, fun x c e => ?_, fun p hp => ?_⟩
  · show (cut s0.heap G.L).objs.size ≤ b
    rw [cut_size m.sz]; exact Nat.le_of_lt h2
  · have e : G.env.cells.lookup x = some c := e
    rw [g.cells] at e; cases e
  · rcases List.mem_append.mp (show p ∈ young s0.heap H0 G.L (fo.map (·.1)) ++ aux from hp) with z | z
    · exact h3 p z
    · exact h4 p z
theorem Mid.done (g : G.Ok) (m : Mid G fo B s0 H0 M aux σ fg s H) {fo1 : List (Addr × Obj)} (h : ∀ p ∈ fo1, s.heap.get? p.1 = some p.2 ∧ H p.1 = none ∧ isCell p.2 = false ∧ G.L ≤ p.1 ∧ (∀ q ∈ young s0.heap H0 G.L (fo.map (·.1)), q.1 ≠ p.1)) : Done G fo fo1 fg B s0 H0 M s H :=
  ⟨m.inv.os, m.inv.bare, leave g m.sz (fun p hp => List.mem_append_left _ hp) m.tr m.inv, m.inv.hok, m.sim, m.tr, m.sg, m.apart, h⟩
/-- a plain piece of code -/
theorem Mid.step (m : Mid G fo B s0 H0 M aux σ fg s H) {σ' : St} (I : Inv (G.cx s0 H0) (young s0.heap H0 G.L (fo.map (·.1)) ++ aux) σ' H1 s1) (sm : Sim G.K H1 M) (t : Tr H M H1 M) (sg : SG (ovr B fg) s1) (sz : s.gens.size ≤ s1.gens.size) : Mid G fo B s0 H0 M aux σ' fg s1 H1 :=
  ⟨m.sz, I, m.aux, sm, m.tr.trans t, sg, m.apart, Nat.lt_of_lt_of_le m.num sz⟩
/-- .. changes one object of its own -/
theorem Mid.turned (m : Mid G fo B s0 H0 M aux σ fg s H) {b : Addr} {h' : Heap} (f : FpOk (G.cx s0 H0) (young s0.heap H0 G.L (fo.map (·.1)) ++ aux) H b) (k : ∀ c o, c ≠ b → s.heap.get? c = some o → h'.get? c = some o) : Mid G fo B s0 H0 M aux σ fg { s with heap := h' } H :=
  m.step (m.inv.turned (t' := s.toks) k f.1 f.2.1 f.2.2.2.1 f.2.2.2.2.1 f.2.2.2.2.2) m.sim (Tr.refl _ _) (m.sg.at rfl) (Nat.le_refl _)
end
end XG

/-! XG: «yield from» a generator. -/
namespace XG
open _root_.PySem L2 GenW TD
open PyProof.Rows (AllBare)
section
variable {B : Bk} {s : Shared} {g : Nat} {x : GenState} {fg : List (Nat × GenState)}
theorem setGen_get {i : Nat} : (s.setGen g x).gens[i]? = if i = g ∧ g < s.gens.size then some x else s.gens[i]? := get_set
theorem ovr_cons {i : Nat} : ovr B ((g, x) :: fg) i = if i = g then some x else ovr B fg i := by
  show (match List.lookup i ((g, x) :: fg) with | some x => some x | none => B i) = if i = g then some x else (match List.lookup i fg with | some x => some x | none => B i)
  by_cases e : i = g
  · subst e; simp [List.lookup]
  · rw [if_neg e, List.lookup_cons, show (i == g) = false by simpa using e]
theorem sg_set (h : SG B s) (n : B g = none) (l : loudG x = false) : SG B (s.setGen g x) := by
  refine ⟨fun i y e => ?_, fun i y e q lo => ?_⟩
  · rw [setGen_get]
    rw [if_neg (fun z => by rw [z.1, n] at e; cases e)]
    exact h.sl i y e
  · rw [setGen_get] at q
    split at q
    · cases q; rw [l] at lo; cases lo
    · exact h.nl i y e q lo
theorem sg_sleep (h : SG (ovr B fg) s) (z : g < s.gens.size) (q : isSus x = true) : SG (ovr B ((g, x) :: fg)) (s.setGen g x) := by
  refine ⟨fun i y e => ?_, fun i y e r lo => ?_⟩
  · rw [ovr_cons] at e
    rw [setGen_get]
    split at e
    · rename_i ei
      cases e
      rw [if_pos ⟨ei, z⟩]; exact ⟨rfl, q⟩
    · rename_i ei
      rw [if_neg fun w => ei w.1]
      exact h.sl i y e
  · rw [ovr_cons] at e
    split at e
    · cases e
    · rename_i ei
      rw [setGen_get, if_neg fun w => ei w.1] at r
      exact h.nl i y e r lo
theorem lookup_none {l : List (Nat × GenState)} {i : Nat} (h : ∀ q ∈ l, q.1 ≠ i) : l.lookup i = none := by
  induction l with
  | nil => rfl
  | cons p l ih =>
    rw [List.lookup_cons, show (i == p.1) = false by simpa using (h p List.mem_cons_self).symm]
    exact ih fun q hq => h q (List.mem_cons_of_mem _ hq)
theorem ovr_none {l : List (Nat × GenState)} {i : Nat} (h : ∀ q ∈ l, q.1 ≠ i) (n : B i = none) : ovr B l i = none := by
  show (match List.lookup i l with | some x => some x | none => B i) = none
  rw [lookup_none h]
  exact n
theorem sg_run (h : SG (ovr B ((g, x) :: fg)) s) (k : ∀ q ∈ fg, q.1 ≠ g) (n : B g = none) : SG (ovr B fg) (s.setGen g .running) := by
  have ng : ovr B fg g = none := ovr_none k n
  have hx : s.gens[g]? = some x := (h.sl g x (by rw [ovr_cons, if_pos rfl])).1
  have z : g < s.gens.size := (Array.getElem?_eq_some_iff.mp hx).1
  refine ⟨fun i y e => ?_, fun i y e r lo => ?_⟩
  · have ei : i ≠ g := fun w => by rw [w, ng] at e; cases e
    rw [setGen_get, if_neg fun w => ei w.1]
    exact h.sl i y (by rw [ovr_cons, if_neg ei]; exact e)
  · rw [setGen_get] at r
    split at r
    · cases r; cases lo
    · rename_i w
      have ei : i ≠ g := fun e => w ⟨e, z⟩
      exact h.nl i y (by rw [ovr_cons, if_neg ei]; exact e) r lo
theorem bare_set (h : AllBare s.gens) (b : x.bare = true) : AllBare (s.setGen g x).gens := bare_all.mpr fun i y e => by
  rw [setGen_get] at e
  split at e
  · cases e; exact b
  · exact bare_all.mp h i y e
end
theorem close_gen : typeLookup (.type "generator") "close" = pure (some (.builtin "generator.close")) := by rw [typeLookup_type, builtinLookup_eq_fast]; kernel_rfl
theorem one_load {M : Model} {A : Around} {c : Code} {fs : List Frame} {s : Shared} {Φ : End → Shared → Prop} {a : Addr} {o : Obj} {k : Obj → Sem PySem.Fin} (ho : s.heap.get? a = some o) (h : One M A c (k o) fs s Φ) : One M A c (.load a none k) fs s Φ :=
  one_wrap (m := load a) (K := k) (H := fun e => .raise e) (gd := fun b => b) (lv := fun l => l) (wpAny_load ho h)
abbrev yfc (a : Addr) : Code := .builtin "proto.yield_from" ⟨[.ref a, .bool false, .none], []⟩
theorem denX {P : Program} {w : World} {id : String} {args : Args} {b : Builtin} (hb : entryFor table id = some b) : (modelX P w).den (.builtin id args) = px (.builtin id args) (b args) := by
  show px (.builtin id args) (match entryFor table id with | some b => b args | none => _) = _
  rw [hb]
theorem px_yf {a : Addr} {t : Sem PySem.Fin} : px (yfc a) t = quietly (some a) t := by
  have e : isYf (yfc a) = true := by unfold isYf yfc; exact beq_self_eq_true _
  unfold px
  rw [e]
  rfl
theorem den_yfX {P : Program} {w : World} {a : Addr} : (modelX P w).den (yfc a) = quietly (some a) (Builtin.«proto.yield_from» ⟨[.ref a, .bool false, .none], []⟩) := (denX entry_yf).trans px_yf
/-- whom it delegates to -/
abbrev Gn.under (G : Gn) (a : Addr) (fs : List Frame) (e : Env) (n : Nat) : Gn := { G with A := (G.A.over (yfc a) fs).in1, stk := G.env :: G.stk, env := e, num := n }
/-- its objects -/
structure Inn (G : Gn) (fo : List (Addr × Obj)) (s0 : Shared) (H0 : Hp) (L : Addr) (fo' aux : List (Addr × Obj)) (s : Shared) (H : Hp) : Prop where
  obj : ∀ p ∈ fo', s.heap.get? p.1 = some p.2 ∧ H p.1 = none ∧ isCell p.2 = false ∧ L ≤ p.1 ∧ ∀ q ∈ young s0.heap H0 G.L (fo.map (·.1)), q.1 ≠ p.1
  ne : ∀ p ∈ fo', ∀ q ∈ aux, q.1 ≠ p.1
  fr : ∀ q ∈ aux, q.1 ≠ L
  fry : ∀ q ∈ young s0.heap H0 G.L (fo.map (·.1)), q.1 ≠ L
section
variable {G : Gn} {a' g' : Nat} {fs : List Frame} {e' : Env} {aux fi fo fo' fo1 : List (Addr × Obj)} {σ : St} {rest : List D} {Hb H0 H H1 : Hp} {Mb M : Mem} {B : Bk} {s0 s s1 : Shared} {fgs fg1 : List (Nat × GenState)}
/-- behind its stretch -/
theorem Mid.inner (g : G.Ok) (m : Mid G fo B s0 H0 M aux σ fgs s H) (hL : G.L < e'.locals) (z : Inn G fo s0 H0 e'.locals fo' aux s H) (hn : G.num < g') (sz : s.gens.size ≤ s1.gens.size) (dn : Done (G.under a' fs e' g') fo' fo1 fg1 B (s.setGen g' .running) H M s1 H1) : Mid G fo B s0 H0 M aux σ fg1 s1 H1 := by
  refine ⟨m.sz, m.inv.call' dn.os dn.un dn.hok dn.bare fun b hb => ?_, m.aux, dn.sim, m.tr.trans dn.tr, dn.sg, fun q hq => ⟨(dn.apart q hq).1, Nat.lt_trans hn (dn.apart q hq).2⟩, Nat.lt_of_lt_of_le m.num sz⟩
  have fin : G.L < b → (∀ q ∈ aux, q.1 ≠ b) → (∀ q ∈ young s0.heap H0 G.L (fo.map (·.1)), q.1 ≠ b) → (b ∈ (G.cx s0 H0).ex ∨ (G.cx s0 H0).s_0.heap.objs.size ≤ b) ∧ b ≠ (G.cx s0 H0).env.locals ∧ (∀ x c, (G.cx s0 H0).env.cells.lookup x = some c → c ≠ b) ∧ ∀ p ∈ (G.cx s0 H0).pn ++ (young s0.heap H0 G.L (fo.map (·.1)) ++ aux), p.1 ≠ b := fun h1 h2 h3 => by
    refine ⟨.inr ?_, Nat.ne_of_gt h1, fun x c e => ?_, fun p hp => ?_⟩
    · show (cut s0.heap G.L).objs.size ≤ b
      rw [cut_size m.sz]; exact Nat.le_of_lt h1
    · have e : G.env.cells.lookup x = some c := e
      rw [g.cells] at e; cases e
    · rcases List.mem_append.mp (show p ∈ young s0.heap H0 G.L (fo.map (·.1)) ++ aux from hp) with y | y
      · exact h3 p y
      · exact h2 p y
  rcases List.mem_cons.mp hb with e | hb
  · rw [e]
    rw [e] at fin
    exact fin hL z.fr z.fry
  · rcases List.mem_append.mp hb with hb | hb
    · obtain ⟨p, hp, e⟩ := List.mem_map.mp hb
      subst e
      obtain ⟨_, _, _, q4, q5⟩ := z.obj p hp
      exact fin (Nat.lt_of_lt_of_le hL q4) (z.ne p hp) q5
    · obtain ⟨q1, o, q2, q3⟩ := mem_youngC.mp hb
      have q2 : s.heap.get? b = some o := q2
      obtain ⟨v, q3⟩ := iscell q3
      have no : ∀ p ∈ (G.cx s0 H0).pn ++ (young s0.heap H0 G.L (fo.map (·.1)) ++ aux), p.1 ≠ b := fun p hp e => by
        obtain ⟨p1, _, _, _, p5⟩ := m.inv.pin p hp
        rw [e, q2] at p1
        cases p1
        exact p5 v q3
      exact fin (Nat.lt_trans hL q1) (fun p hp => no p (List.mem_append_right _ (List.mem_append_right _ hp))) fun p hp => no p (List.mem_append_right _ (List.mem_append_left _ hp))
/-- .. its objects then -/
theorem Inn.behind (g : G.Ok) (m : Mid G fo B s0 H0 M aux σ fgs s H) (z : Inn G fo s0 H0 e'.locals fo' aux s H) (hL : G.L < e'.locals) (dn : Done (G.under a' fs e' g') fo' fo1 fg1 B (s.setGen g' .running) H M s1 H1) : Inn G fo s0 H0 e'.locals fo1 aux s1 H1 := by
  have key : ∀ {b : Addr} {o : Obj}, s.heap.get? b = some o → H b = none → isCell o = false → (∀ p ∈ fo', b ≠ p.1) → b ≠ e'.locals → ∀ p ∈ fo1, b ≠ p.1 := fun {b o} h1 h2 h3 h4 h5 p hp e => by
    obtain ⟨_, _, _, q4, q5⟩ := dn.obj p hp
    have q4 : e'.locals ≤ p.1 := q4
    refine q5 (b, o) (mem_young.mpr ⟨h1, ?_, h2, fun w => ?_, h3⟩) e
    · exact Nat.lt_of_le_of_ne (by rw [e]; exact q4) (Ne.symm h5)
    · obtain ⟨q, hq, e2⟩ := List.mem_map.mp w
      exact h4 q hq e2.symm
  refine ⟨fun p hp => ?_, fun p hp q hq => ?_, z.fr, z.fry⟩
  · obtain ⟨q1, q2, q3, q4, q5⟩ := dn.obj p hp
    refine ⟨q1, q2, q3, q4, fun y hy => ?_⟩
    obtain ⟨p1, p2, _, _, p5⟩ := m.inv.pin y (List.mem_append_right _ (List.mem_append_left _ hy))
    exact key p1 p2 (mem_young.mp hy).2.2.2.2 (fun w hw => (z.obj w hw).2.2.2.2 y hy) (z.fry y hy) p hp
  · obtain ⟨p1, p2⟩ := m.get hq
    exact key p1 p2 (m.aux q hq).2.1 (fun w hw => z.ne w hw q hq) (z.fr q hq) p hp
end
section
variable {G : Gn} {a' g' : Nat} {fs : List Frame} {e' : Env} {fi : List (Addr × Obj)} {σ : St} {rest : List D} {Hb : Hp} {Mb : Mem}
theorem yf_loop (g : G.Ok) (hd0 : G.A.handled = none) (hL : G.L < e'.locals) (hh : (G.A.over (yfc a') fs).handled = none) (hd : (G.A.over (yfc a') fs).depth < recursionLimit) (hf : (G.A.over (yfc a') fs).frames = some (G.env :: G.stk)) (hsp : splitAtGen fs = none) (hgu : fs.any Frame.guarded = false) (hne : ∀ p ∈ fi, p.1 ≠ a')
    (hend : ∀ (fo : List (Addr × Obj)) (B : Bk) (s0 : Shared) (H0 : Hp) (M : Mem) (s : Shared) (H : Hp), Mid G fo B s0 H0 M fi σ [] s H → Tr Hb Mb H M → One (modelX G.P G.w) G.A (yfc a') (.pure (.done (.ret .none))) fs s (Post G rest fo B s0 H0 M)) :
    ∀ (ds : List D) (gs : GenState) (fo' : List (Addr × Obj)) (fg' fgs : List (Nat × GenState)) (Hq : Hp) (Mq : Mem) (fo : List (Addr × Obj)) (B : Bk) (s0 : Shared) (H0 : Hp) (M : Mem) (s : Shared) (H : Hp) (o' : Obj),
      Mid G fo B s0 H0 M ((a', o') :: fi) σ fgs s H → Tr Hb Mb H M → Tr Hq Mq H M → GObj o' g' 0 → s.gens[g']? = some gs → B g' = none → G.num < g' → SG (ovr B fg') (s.setGen g' .running) → (∀ q ∈ fg', B q.1 = none ∧ g' < q.1) →
      Inn G fo s0 H0 e'.locals fo' ((a', o') :: fi) s H → Alive (G.under a' fs e' g') ds gs fo' fg' Hq Mq →
      One (modelX G.P G.w) G.A (yfc a') ((modelX G.P G.w).den (yfc a')) fs s (Post G (ds ++ rest) fo B s0 H0 M) := by
  intro ds
  induction ds with
  | nil =>
    intro gs fo' fg' fgs Hq Mq fo B s0 H0 M s H o' m tb tq go hg hB hn hsg ha z al
    have I := m.inv
    have e0 : Env0 G.P G.w G.K G.mg G.base (G.under a' fs e' g').A (G.env :: G.stk) (s.setGen g' .running) H := ⟨hf, I.env0.mod, I.env0.bs, I.env0.bsz, I.env0.funs, I.env0.frf, I.env0.hok, bare_set I.bare rfl⟩
    have wk : Wake (G.under a' fs e' g') fo' fg' B Hq Mq (s.setGen g' .running) H M := ⟨e0, m.sim, tq, fun p hp => ⟨(z.obj p hp).1, (z.obj p hp).2.1⟩, hsg, ha, by rw [setGen_size]; exact (Array.getElem?_eq_some_iff.mp hg).1⟩
    have on := al B _ H M wk
    rw [den_yfX]
    unfold Builtin.«proto.yield_from»
    refine one_q (wpAny_pure ?_)
    refine one_q (wpAny_attempt (wpAny_holding ?_))
    rw [if_neg Bool.false_ne_true, if_pos (show (Value.none == Value.none) = true from rfl)]
    refine wpAny_bind (wpAny_rule (wpAny_bind ?_))
    refine next_special hh I.nolimit hd (m.get List.mem_cons_self).1 go hg on (fun v g0 l k c p f s1 q _ => ?_) fun r s1 q sz => ?_
    · obtain ⟨H1, e, _⟩ := q; cases e
    · obtain ⟨H1, e, dn⟩ := q
      cases e
      refine ⟨rfl, fun e h' st kp => ?_⟩
      have m1 := m.inner g hL z hn sz dn
      have m2 : Mid G fo B s0 H0 M ((a', o') :: fi) σ [] { s1.setGen g' .finished with heap := h' } H1 :=
        m1.step (inv_gens (G := (s1.setGen g' .finished).gens) (m1.inv.kept (h' := h') (t' := s1.toks) kp) fun b => bare_set b rfl) m1.sim (Tr.refl _ _) ((sg_set m1.sg (by rw [ovr_nil]; exact hB) rfl).at rfl) (by show _ ≤ (s1.setGen g' .finished).gens.size; rw [setGen_size]; exact Nat.le_refl _)
      obtain ⟨ax, o, vs, rfl, hoa, hcls, hdat, h5⟩ := st
      refine one_q (wpAny_endsTurn hoa hcls ?_)
      rw [if_pos rfl, if_neg Bool.false_ne_true]
      refine one_q (wpAny_rule ?_)
      refine one_q (wpAny_field hoa hdat h5 ?_)
      exact hend fo B s0 H0 M _ H1 (m2.re g fun p hp => .inl (List.mem_cons_of_mem _ hp)) (tb.trans dn.tr)
  | cons d ds ih =>
    intro gs fo' fg' fgs Hq Mq fo B s0 H0 M s H o' m tb tq go hg hB hn hsg ha z al
    have I := m.inv
    have e0 : Env0 G.P G.w G.K G.mg G.base (G.under a' fs e' g').A (G.env :: G.stk) (s.setGen g' .running) H := ⟨hf, I.env0.mod, I.env0.bs, I.env0.bsz, I.env0.funs, I.env0.frf, I.env0.hok, bare_set I.bare rfl⟩
    have wk : Wake (G.under a' fs e' g') fo' fg' B Hq Mq (s.setGen g' .running) H M := ⟨e0, m.sim, tq, fun p hp => ⟨(z.obj p hp).1, (z.obj p hp).2.1⟩, hsg, ha, by rw [setGen_size]; exact (Array.getElem?_eq_some_iff.mp hg).1⟩
    have on := al B _ H M wk
    rw [den_yfX]
    unfold Builtin.«proto.yield_from»
    refine one_q (wpAny_pure ?_)
    refine one_q (wpAny_attempt (wpAny_holding ?_))
    rw [if_neg Bool.false_ne_true, if_pos (show (Value.none == Value.none) = true from rfl)]
    refine wpAny_bind (wpAny_rule (wpAny_bind ?_))
    refine next_special hh I.nolimit hd (m.get List.mem_cons_self).1 go hg on (fun v g0 l k c pz f s1 q sz => ?_) fun r s1 q sz => ?_
    · obtain ⟨w, u, H1, fo1, fg1, l1, k1, c1, p1, f1, e, hgd, rw_, rd, ⟨hin, hun, hunf⟩, dn, next⟩ := q
      cases e
      refine ⟨by show (!(false || f.any Frame.guarded)) = true; rw [hgd]; rfl, ?_⟩
      have m1 := m.inner g hL z hn sz dn
      have z1 := z.behind g m hL dn
      have hz : g' < s1.gens.size := Nat.lt_of_lt_of_le (Array.getElem?_eq_some_iff.mp hg).1 sz
      refine wpAny_pure ?_
      have ho1 := (m1.get List.mem_cons_self).1
      have na := (m1.get List.mem_cons_self).2
      have xa := m1.aux _ List.mem_cons_self
      have mA : Mid G fo B s0 H0 M ((a', o') :: fi) σ ((g', (End.susp v false l k c pz f).genState) :: fg1) (s1.setGen g' (End.susp v false l k c pz f).genState) H1 :=
        ⟨m1.sz, inv_gens m1.inv fun b => bare_set b (by show (!(false || f.any Frame.guarded)) = true; rw [hgd]; rfl), m1.aux, m1.sim, m1.tr, sg_sleep m1.sg hz rfl, fun q hq => by
          rcases List.mem_cons.mp hq with e | hq
          · rw [e]; exact ⟨hB, hn⟩
          · exact m1.apart q hq, by rw [setGen_size]; exact m1.num⟩
      refine one_q (wpAny_typeOf (T := "generator") ⟨o', ho1, go.cls⟩ ?_)
      refine one_q (wpAny_of_eq close_gen ?_)
      refine one_q (wpAny_pure ?_)
      refine one_q (sleptOver_of (b := true) ho1 go fun h2 o2 q1 q2 q3 => ?_)
      show One _ _ _ (Sem.load a' none _) _ _ _
      refine one_load q1 ?_
      dsimp only
      rw [q2.isGen, cond_true]
      refine one_yield hsp fun p2 => ?_
      have nc2 : isCell o2 = false := by
        obtain ⟨_, _, e⟩ := q2.data
        unfold isCell
        rw [e]
      have drop : ∀ p ∈ fi, p ∈ (a', o') :: fi := fun p hp => List.mem_cons_of_mem _ hp
      have mB0 := (mA.re g (aux' := fi) fun p hp => .inl (drop p hp))
      have mB1 := mB0.turned (h' := h2) (mB0.fp g na xa.1 xa.2.2 hne) fun b ob hb e => (q3.2 b hb).trans e
      have mB := mB1.re g (aux' := (a', o2) :: fi) fun p hp => by
        rcases List.mem_cons.mp hp with e | hp
        · rw [e]; exact .inr ⟨q1, na, xa.1, nc2, xa.2.2⟩
        · exact .inl hp
      obtain ⟨oL, eL, nL, fL, cL⟩ := rest_of g mB.inv
      have objs : ∀ p ∈ (G.L, oL) :: (a', o2) :: (fi ++ fo1), ({ (s1.setGen g' (End.susp v false l k c pz f).genState) with heap := h2 } : Shared).heap.get? p.1 = some p.2 ∧ H1 p.1 = none ∧ isCell p.2 = false ∧ G.L ≤ p.1 ∧ ∀ q ∈ young s0.heap H0 G.L (fo.map (·.1)), q.1 ≠ p.1 := fun p hp => by
        rcases List.mem_cons.mp hp with e | hp
        · rw [e]; exact ⟨eL, nL, cL, Nat.le_refl _, fun q hq => Nat.ne_of_gt (mem_young.mp hq).2.1⟩
        · rcases List.mem_cons.mp hp with e | hp
          · rw [e]; exact ⟨q1, na, nc2, Nat.le_of_lt xa.1, xa.2.2⟩
          · rcases List.mem_append.mp hp with hp | hp
            · obtain ⟨y1, y2⟩ := mB.get (List.mem_cons_of_mem _ hp)
              obtain ⟨y3, y4, y5⟩ := mB.aux p (List.mem_cons_of_mem _ hp)
              exact ⟨y1, y2, y4, Nat.le_of_lt y3, y5⟩
            · obtain ⟨y1, y2, y3, y4, y5⟩ := z1.obj p hp
              exact ⟨(q3.2 p.1 fun w => z1.ne p hp _ List.mem_cons_self w.symm).trans y1, y2, y3, Nat.le_of_lt (Nat.lt_of_lt_of_le hL y4), y5⟩
      refine ⟨w, v, H1, (G.L, oL) :: (a', o2) :: (fi ++ fo1), (g', (End.susp v false l k c pz f).genState) :: fg1, _, _, _, _, _, rfl, hgu, rw_, rd, ⟨List.mem_cons_self, fun _ => ⟨a', o2, rfl, List.mem_cons_of_mem _ List.mem_cons_self, q2.isGen⟩, fun q hq => ?_⟩, mB.done g objs, fun B2 s2 H2 M2 wk2 => ?_⟩
      · have up : ∀ p ∈ fo1, p ∈ (G.L, oL) :: (a', o2) :: (fi ++ fo1) := fun p hp => List.mem_cons_of_mem _ (List.mem_cons_of_mem _ (List.mem_append_right _ hp))
        rcases List.mem_cons.mp hq with e | hq
        · rw [e]; exact hun.more up
        · exact (hunf q hq).more up
      have I2 := enter (ex := List.map (·.1) ((G.L, oL) :: (a', o2) :: (fi ++ fo1))) g hd0 wk2.env (wk2.obj (G.L, oL) List.mem_cons_self).1 (wk2.obj (G.L, oL) List.mem_cons_self).2 fL
      have hsz2 : G.L ≤ s2.heap.objs.size := Nat.le_of_lt (Heap.lt_size (wk2.obj (G.L, oL) List.mem_cons_self).1)
      have cc : ∀ p ∈ (G.L, oL) :: (a', o2) :: (fi ++ fo1), ∀ q ∈ young s2.heap H2 G.L (List.map (·.1) ((G.L, oL) :: (a', o2) :: (fi ++ fo1))), q.1 ≠ p.1 := fun p hp q hq e => (mem_young.mp hq).2.2.2.1 (by rw [e]; exact List.mem_map_of_mem hp)
      have m2 : Mid G ((G.L, oL) :: (a', o2) :: (fi ++ fo1)) B2 s2 H2 M2 [] σ ((g', (End.susp v false l k c pz f).genState) :: fg1) s2 H2 :=
        ⟨hsz2, by rw [List.append_nil]; exact I2, fun p hp => (by cases hp), wk2.sim, Tr.refl _ _, wk2.sg, wk2.apart, wk2.num⟩
      have inn : ∀ p ∈ fi, p ∈ (G.L, oL) :: (a', o2) :: (fi ++ fo1) := fun p hp => List.mem_cons_of_mem _ (List.mem_cons_of_mem _ (List.mem_append_left _ hp))
      have inn2 : ∀ p ∈ fo1, p ∈ (G.L, oL) :: (a', o2) :: (fi ++ fo1) := fun p hp => List.mem_cons_of_mem _ (List.mem_cons_of_mem _ (List.mem_append_right _ hp))
      have ina : (a', o2) ∈ (G.L, oL) :: (a', o2) :: (fi ++ fo1) := List.mem_cons_of_mem _ List.mem_cons_self
      have m3 := m2.re g (aux' := fi) fun p hp => .inr ⟨(wk2.obj p (inn p hp)).1, (wk2.obj p (inn p hp)).2, (mB.aux p (List.mem_cons_of_mem _ hp)).1, (mB.aux p (List.mem_cons_of_mem _ hp)).2.1, cc p (inn p hp)⟩
      obtain ⟨wa, wna⟩ := wk2.obj _ ina
      refine one_q (wpAny_pure ?_)
      refine one_q (sleptOver_of (b := false) wa q2 fun h3 o3 q4 q5 q6 => ?_)
      refine one_q (wpAny_pure ?_)
      refine one_again (plainId_quiet plain_yf _) ?_
      have nc3 : isCell o3 = false := by
        obtain ⟨_, _, e⟩ := q5.data
        unfold isCell
        rw [e]
      have m4 := (m3.turned (h' := h3) (m3.fp g wna xa.1 (cc _ ina) hne) fun b ob hb e => (q6.2 b hb).trans e).re g (aux' := (a', o3) :: fi) fun p hp => by
        rcases List.mem_cons.mp hp with e | hp
        · rw [e]; exact .inr ⟨q4, wna, xa.1, nc3, cc (a', o2) ina⟩
        · exact .inl hp
      have g2 : s2.gens[g']? = some (End.susp v false l k c pz f).genState := (wk2.sg.sl g' _ (by rw [ovr_cons, if_pos rfl])).1
      refine ih _ fo1 fg1 _ H1 M _ B2 s2 H2 M2 _ H2 o3 m4 ((tb.trans dn.tr).trans wk2.tr) wk2.tr q5 g2 (wk2.apart _ List.mem_cons_self).1 hn ((sg_run wk2.sg (fun q hq => Nat.ne_of_gt (dn.apart q hq).2) (wk2.apart _ List.mem_cons_self).1).at rfl) (fun q hq => ⟨(wk2.apart q (List.mem_cons_of_mem _ hq)).1, (dn.apart q hq).2⟩) ⟨fun p hp => ?_, fun p hp q hq => ?_, fun q hq => ?_, fun q hq => ?_⟩ fun B s H M wk' => next B s H M wk'
      · obtain ⟨y1, y2⟩ := wk2.obj p (inn2 p hp)
        obtain ⟨_, _, y3, y4, _⟩ := z1.obj p hp
        exact ⟨(q6.2 p.1 fun w => z1.ne p hp _ List.mem_cons_self w.symm).trans y1, y2, y3, y4, cc p (inn2 p hp)⟩
      · rcases List.mem_cons.mp hq with e | hq
        · rw [e]; exact z1.ne p hp (a', o') List.mem_cons_self
        · exact z1.ne p hp q (List.mem_cons_of_mem _ hq)
      · rcases List.mem_cons.mp hq with e | hq
        · rw [e]; exact z1.fr (a', o') List.mem_cons_self
        · exact z1.fr q (List.mem_cons_of_mem _ hq)
      · obtain ⟨p, hp, e⟩ := List.mem_map.mp hin
        have e : p.1 = e'.locals := e
        rw [← e]
        exact cc p (inn2 p hp) q hq
    · obtain ⟨_, _, _, _, _, _, _, _, _, _, e, _⟩ := q; cases e
end
end XG

/-! XG: a generator def is called. -/
namespace XG
open _root_.PySem L2 GenW TD
open PyProof.Rows (AllBare envOfC)
/-- a run that wakes no sleeper; what was awake behind it -/
theorem liftC2 {P : Program} {w : World} {A : Around} {c : Code} {s : Shared} {B : Bk} {Q Q' : Result → Shared → Prop} (hb : AllBare s.gens) (g : SG B s) (h : codeAny (model P w) A c Q { s with gens := asleepG s })
    (hQ : ∀ a (s1 : Shared) (G : Array GenState), Q a s1 → (AllBare s1.gens → AllBare G) → SG B { s1 with gens := G } → (∀ (i : Nat) x, s1.gens[i]? = some x → isSus x = false → G[i]? = some (pxG x)) → G.size = s1.gens.size → Q' a { s1 with gens := G }) : codeAny (modelX P w) A c Q' s := by
  refine codeAny_mono (codeAny_px (sr_start s) h) fun a s2 ⟨s1, r, q⟩ => ?_
  obtain ⟨G, rfl⟩ := r.eq
  exact hQ a s1 G q (sr_bare r hb) (sr_sg r g) (fun i x e n => (r.awake e n).2) r.size
/-- what a call of a generator def gives -/
structure Born (s : Shared) (G : Gn) (body : List Stmt) (σ : St) (a : Addr) (s' : Shared) : Prop where
  at_ : G.L = s.heap.objs.size
  lt : G.L < a
  fr : ∃ o, s'.heap.get? G.L = some o ∧ FrO G o σ ∧ isCell o = false
  obj : ∃ o, s'.heap.get? a = some o ∧ GObj o s.gens.size 0
  gen : s'.gens[s.gens.size]? = some (.fresh (.func body G.env))
  keep : ∀ b o, s.heap.get? b = some o → s'.heap.get? b = some o
  os : s'.os = s.os
  sz : s.gens.size < s'.gens.size
theorem born {X : Cx} {pins : List (Addr × Obj)} {σ : St} {H : Hp} {s : Shared} {B : Bk} {k : Nat} {G : Gn} {f : Addr} {name qual : Str} {params : Arguments} {body : List Stmt} {scope : Scope} {dV kV doc pm cdv ct oc : Value} {an od : Option Addr} {osl : Array (Option Value)} {N ps : List Str} {args : Args} {us : List Value} {vs : List V} {Q : Value → Shared → Prop} {E : Value → Shared → Prop}
    (I : Inv X pins σ H s) (g : SG B s) (hr : Room k X.A) (hN : G.N = N) (hE : G.env = envOfC qual scope s.heap.objs.size f cdv) (lk : X.K.lookup f = some ⟨oc, od, .func (PySem.W.fnOf name qual params body scope dV kV doc pm an cdv ct), osl⟩) (hcd : PySem.W.codeIn X.K cdv qual = true) (S : GScope N ps scope) (nc : ∀ y ∈ scope.names, y.2 ≠ .cell)
    (hb : ∀ G : Array GenState, BindsTo { s with gens := G } (PySem.W.fnOf name qual params body scope dV kV doc pm an cdv ct) args (ps.zip us)) (r : Vals vs us) (hl : vs.length = ps.length)
    (hq : ∀ a s', Inv X pins σ H s' → SG B s' → Born s G body (start N vs) a s' → Q (.ref a) s') : wpAny (modelX X.prog X.w) X.A (call (.ref f) args.pos args.kw) Q E s := by
  have Ip := inv_poison I
  have e0 := Ip.env0
  have KX : X.K.In s.heap := I.kIn
  have lim : s.heap.NoLimit := I.nolimit
  have hkind : ∀ y ∈ ps.zip us, scope.names.lookup y.1 = some .local ∨ (scope.names.lookup y.1 = some .cell ∧ ((cellsFrom (s.heap.objs.size + 1) scope.names []).lookup y.1).isSome = true) := fun ⟨n, v⟩ hy => by
    rcases S.par n (List.of_mem_zip hy).1 with q | q
    · exact .inl q
    · exact absurd rfl (nc _ (PySem.mem_of_lookup q))
  refine wpAny_call (liftC2 (Q := fun r s1 => ∃ a, r = .ok (.ret (.ref a)) ∧ s1.gens = (asleepG s).push (.fresh (.func body G.env)) ∧ G.L = s.heap.objs.size ∧ G.L < a ∧ (∃ o, s1.heap.get? G.L = some o ∧ FrO G o (start N vs) ∧ isCell o = false) ∧ (∃ o, s1.heap.get? a = some o ∧ GObj o s.gens.size 0) ∧ (∀ b o, s.heap.get? b = some o → s1.heap.get? b = some o) ∧ s1.os = s.os) I.bare g ?_ fun r s1 Gs q bare sg aw sz => ?_)
  · refine codeAny_call_generator hr.depth (KX _ _ lk) rfl S.co S.gen rfl (PySem.W.codeRec_of KX hcd) (hb _ _ _ _ _ ?_)
    refine wpAny_newFunctionEnv_cells S.kind hkind fun env he s1 x => ?_
    subst he
    have lim1 : s1.heap.NoLimit := lim.keeps x.toInCall.keep
    refine ⟨lim1, ?_⟩
    obtain ⟨h1, tk, es1, hk1⟩ := x.done
    have I1 : Inv (gcxOf X.prog X.w X.K X.mg X.base N qual scope f cdv X.A X.stack { s with gens := asleepG s } H (fun _ _ _ => False) []) [] (start N vs) H s1 := inv_startG S hr.hd e0 hl r x
    have gz : (asleepG s).size = s.gens.size := by unfold asleepG; rw [Array.size_map]
    have hg1 : s1.gens = asleepG s := by rw [es1]
    have lt1 : s.heap.objs.size < s1.heap.objs.size := x.toInCall.ns.lt
    have eL : G.L = s.heap.objs.size := by show G.env.locals = _; rw [hE]; rfl
    refine ⟨_, rfl, ?_, eL, by rw [eL]; exact lt1, ?_, ⟨_, Heap.get?_push_size _ rfl, rfl, ⟨_, _, by rw [hg1, gz]⟩, .inl ⟨rfl, rfl⟩⟩, fun b o e => Heap.get?_push_of_some _ (x.toInCall.keep b o e), ?_⟩
    · show s1.gens.push _ = _
      rw [hg1, hE]; rfl
    · obtain ⟨m, ⟨o, es, ep, ho, a1, a2, a3⟩, hl2⟩ := I1.loc
      have ho : s1.heap.get? s.heap.objs.size = some o := ho
      refine ⟨o, Heap.get?_push_of_some _ (by rw [eL]; exact ho), ⟨m, es, ep, a1, a2, a3, by rw [hN]; exact I1.len, fun i y v b1 b2 b3 => ?_⟩, by unfold isCell; rw [a1]⟩
      rw [hN] at b1
      rw [hE] at b3 ⊢
      obtain ⟨u, ru, l⟩ := hl2 i y v b1 b2 b3
      rcases l with ⟨k, l⟩ | ⟨k, _⟩
      · exact ⟨u, ru, k, l⟩
      · rcases k with k | k
        · exact absurd rfl (nc _ (PySem.mem_of_lookup k))
        · exact absurd rfl (S.nofree _ (PySem.mem_of_lookup k))
    · show s1.os = s.os
      rw [es1]
  · obtain ⟨a, rfl, q1, q2, q3, q4, q5, q6, q7⟩ := q
    have gz : (asleepG s).size = s.gens.size := by unfold asleepG; rw [Array.size_map]
    refine hq a _ ?_ sg ⟨q2, q3, q4, q5, ?_, q6, q7, ?_⟩
    · exact I.call' (s' := { s1 with gens := Gs }) (ch := []) q7 (Un.kept q6) (I.hok.kept q6) (bare (by rw [q1]; exact AllBare.push (bare_poison I.bare) rfl)) fun b z => by cases z
    · refine (aw s.gens.size (.fresh (.func body G.env)) ?_ rfl)
      rw [q1, ← gz, Array.getElem?_push_size]
    · show s.gens.size < Gs.size
      rw [sz, q1, Array.size_push, gz]; exact Nat.lt_succ_self _
end XG

/-! XG: plain code amid a generator's stretch. -/
namespace XG
open _root_.PySem L2 GenW TD
open PyProof.Rows (AllBare envOfC)
section
variable {G : Gn} {fo : List (Addr × Obj)} {B : Bk} {s0 s s1 : Shared} {H0 H H1 : Hp} {M : Mem} {aux : List (Addr × Obj)} {σ : St} {ρ : DSt} {fg : List (Nat × GenState)} {E : Value → Shared → Prop}
theorem blindF : Blind (fun _ _ => False) := fun _ _ _ h _ => h
/-- an expression -/
theorem mid_e (m : Mid G fo B s0 H0 M aux σ fg s H) (dv : DvL G.K H σ ρ) {e : Expr} {td : TDE} (he : DE (G.cx s0 H0) W0 e td) {Q : D → Prop} (q : td ρ M (fun d M' => M' = M ∧ Q d) fun _ _ _ => False) {R : Value → Shared → Prop}
    (k : ∀ u s1 H1 v d, Mid G fo B s0 H0 M aux σ fg s1 H1 → Tr H M H1 M → RelV v u → Rep G.K H1 v d → Q d → R u s1) : wpAny (modelX G.P G.w) (G.A.deeper G.env) (eval e G.env) R E s := by
  have run := lfE (X := G.cx s0 H0) blindF he (ovr B fg) _ s σ H (fun v H1 => ∃ d, Rep G.K H1 v d ∧ Sim G.K H1 M ∧ Tr H M H1 M ∧ Q d) m.inv m.sg ⟨ρ, M, _, _, dv, m.sim, q, fun d M' ⟨e, qd⟩ v H' r sm t => (by subst e; exact ⟨d, r, sm, t, qd⟩), w0_up⟩
  exact wpAny_gsz (Nat.le_refl _) (wpAny_mono run (fun u s1 ⟨⟨v, H1, I1, rv, d, r, sm, t, qd⟩, sg⟩ sz => k u s1 H1 v d (m.step I1 sm t sg sz) t rv r qd) fun e s1 x => x.1.elim)
/-- a test -/
theorem mid_t (m : Mid G fo B s0 H0 M aux σ fg s H) (dv : DvL G.K H σ ρ) {e : Expr} {td : TDT} (he : DT (G.cx s0 H0) W0 e td) {Q : Bool → Prop} (q : td ρ M (fun d M' => M' = M ∧ Q d) fun _ _ _ => False) {R : Bool → Shared → Prop}
    (k : ∀ u s1 H1, Mid G fo B s0 H0 M aux σ fg s1 H1 → Tr H M H1 M → Q u → R u s1) : wpAny (modelX G.P G.w) (G.A.deeper G.env) (isTrue e G.env (eval e G.env)) R E s := by
  have run := lfT (X := G.cx s0 H0) blindF he (ovr B fg) _ s σ H (fun b H1 => Sim G.K H1 M ∧ Tr H M H1 M ∧ Q b) m.inv m.sg ⟨ρ, M, _, _, dv, m.sim, q, fun d M' ⟨e, qd⟩ H' sm t => (by subst e; exact ⟨sm, t, qd⟩), w0_up⟩
  exact wpAny_gsz (Nat.le_refl _) (wpAny_mono run (fun u s1 ⟨⟨H1, I1, sm, t, qd⟩, sg⟩ sz => k u s1 H1 (m.step I1 sm t sg sz) t qd) fun e s1 x => x.1.elim)
/-- arguments -/
theorem mid_a (m : Mid G fo B s0 H0 M aux σ fg s H) (dv : DvL G.K H σ ρ) {es : List Expr} {td : TDA} (he : DA (G.cx s0 H0) W0 es td) {Q : List D → Prop} (q : td ρ M (fun d M' => M' = M ∧ Q d) fun _ _ _ => False) {pos : Pos} {R : List Value → Shared → Prop}
    (k : ∀ us s1 H1 vs ds, Mid G fo B s0 H0 M aux σ fg s1 H1 → Tr H M H1 M → Vals vs us → Reps G.K H1 vs ds → Q ds → R us s1) : wpAny (modelX G.P G.w) (G.A.deeper G.env) (spliced (backTo pos (starEach es G.env))) R E s := by
  have run := lfA (X := G.cx s0 H0) blindF he (ovr B fg) pos _ s σ H (fun v H1 => ∃ d, Reps G.K H1 v d ∧ Sim G.K H1 M ∧ Tr H M H1 M ∧ Q d) m.inv m.sg ⟨ρ, M, _, _, dv, m.sim, q, fun d M' ⟨e, qd⟩ v H' r sm t => (by subst e; exact ⟨d, r, sm, t, qd⟩), w0_up⟩
  exact wpAny_gsz (Nat.le_refl _) (wpAny_mono run (fun u s1 ⟨⟨v, H1, I1, rv, d, r, sm, t, qd⟩, sg⟩ sz => k u s1 H1 v d (m.step I1 sm t sg sz) t rv r qd) fun e s1 x => x.1.elim)
/-- a plain statement -/
theorem mid_s (m : Mid G fo B s0 H0 M aux σ fg s H) (dv : DvL G.K H σ ρ) {st : Stmt} {td : TDS} (he : DS (G.cx s0 H0) W0 st td) {Q : DSt → Prop} (q : td { nx := fun ρ' M' => M' = M ∧ Q ρ', rt := fun _ _ => False } ρ M) {R : Flow → Shared → Prop}
    (k : ∀ s1 H1 σ1 ρ1, Mid G fo B s0 H0 M aux σ1 fg s1 H1 → Tr H M H1 M → DvL G.K H1 σ1 ρ1 → Q ρ1 → R .next s1) : wpAny (modelX G.P G.w) (G.A.deeper G.env) (exec st G.env) R E s := by
  have run := lfS (X := G.cx s0 H0) blindF he (ovr B fg) _ s σ H { nx := fun σ1 H1 => ∃ ρ1, DvL G.K H1 σ1 ρ1 ∧ Sim G.K H1 M ∧ Tr H M H1 M ∧ Q ρ1, rt := fun _ _ => False } m.inv m.sg ⟨ρ, M, _, dv, m.sim, q, ⟨fun ρ' M' ⟨e, qd⟩ σ' H' dv' sm t => (by subst e; exact ⟨ρ', dv', sm, t, qd⟩), fun d M' h => h.elim, fun d M' h => h.elim, fun d M' h => h.elim, fun _ _ _ _ h => h.elim⟩⟩
  refine wpAny_gsz (Nat.le_refl _) (wpAny_mono run (fun f s1 ⟨q, sg⟩ sz => ?_) fun e s1 x => x.1.elim)
  cases f with
  | next => obtain ⟨σ1, H1, I1, ρ1, dv1, sm, t, qd⟩ := q; exact k s1 H1 σ1 ρ1 (m.step I1 sm t sg sz) t dv1 qd
  | brk => obtain ⟨_, _, _, h⟩ := q; exact h.elim
  | cont => obtain ⟨_, _, _, h⟩ := q; exact h.elim
  | ret u => obtain ⟨_, _, _, _, _, h⟩ := q; exact h.elim
/-- a target -/
theorem mid_g (m : Mid G fo B s0 H0 M aux σ fg s H) (dv : DvL G.K H σ ρ) {tg : Expr} {td : TDG} (he : DG (G.cx s0 H0) tg td) {u : Value} {v : V} {d : D} (rv : RelV v u) (r : Rep G.K H v d) {Q : DSt → Prop} (q : td d ρ M fun ρ' M' => M' = M ∧ Q ρ') {R : Unit → Shared → Prop}
    (k : ∀ s1 H1 σ1 ρ1, Mid G fo B s0 H0 M aux σ1 fg s1 H1 → Tr H M H1 M → DvL G.K H1 σ1 ρ1 → Q ρ1 → R () s1) : wpAny (modelX G.P G.w) (G.A.deeper G.env) (assign tg G.env u) R E s := by
  have run := lfG (X := G.cx s0 H0) blindF he (ovr B fg) _ s σ H v u (fun σ1 H1 => ∃ ρ1, DvL G.K H1 σ1 ρ1 ∧ Sim G.K H1 M ∧ Tr H M H1 M ∧ Q ρ1) m.inv m.sg rv ⟨ρ, M, d, _, dv, m.sim, r, q, fun ρ' M' ⟨e, qd⟩ σ' H' dv' sm t => by subst e; exact ⟨ρ', dv', sm, t, qd⟩⟩
  exact wpAny_gsz (Nat.le_refl _) (wpAny_mono run (fun f s1 ⟨⟨σ1, H1, I1, ρ1, dv1, sm, t, qd⟩, sg⟩ sz => k s1 H1 σ1 ρ1 (m.step I1 sm t sg sz) t dv1 qd) fun e s1 x => x.1.elim)
/-- where an iterator stands -/
structure Itr (G : Gn) (fo : List (Addr × Obj)) (s0 : Shared) (H0 : Hp) (fp : List Addr) (H : Hp) : Prop where
  ok : ∀ b ∈ fp, H b = none ∧ G.L < b ∧ ∀ q ∈ young s0.heap H0 G.L (fo.map (·.1)), q.1 ≠ b
theorem itr_fp (g : G.Ok) (m : Mid G fo B s0 H0 M [] σ fg s H) {fp : List Addr} (h : Itr G fo s0 H0 fp H) : ∀ b ∈ fp, FpOk (G.cx s0 H0) (young s0.heap H0 G.L (fo.map (·.1)) ++ []) H b := fun b hb =>
  let ⟨h1, h2, h3⟩ := h.ok b hb
  m.fp g h1 h2 h3 fun p hp => by cases hp
/-- .. made -/
theorem mid_i (g : G.Ok) (m : Mid G fo B s0 H0 M [] σ fg s H) (dv : DvL G.K H σ ρ) {tg iter : Expr} {td : TDI} (he : DI (G.cx s0 H0) W0 tg iter td) {Q : List D → (Mem → Prop) → Prop} (q : td ρ M (fun ds Gd M' => M' = M ∧ Q ds Gd) fun _ _ _ => False) {R : Value → Shared → Prop}
    (k : ∀ s1 H1 it fp tn J ds Gd S, Mid G fo B s0 H0 M [] σ fg s1 H1 → Tr H M H1 M → Turn G.P G.w G.K tg J fp it tn → tn 0 s1.heap → Itr G fo s0 H0 fp H1 → DWalk G.K J ds Gd S → S H1 M → Q ds Gd → R (.ref it) s1) :
    wpAny (modelX G.P G.w) (G.A.deeper G.env) (eval iter G.env) (fun v s1 => wpAny (modelX G.P G.w) (G.A.deeper G.env) (pyIter v) R E s1) E s := by
  have run := he.run _ _ σ H (fun J H1 => ∃ ds Gd S, DWalk G.K J ds Gd S ∧ S H1 M ∧ Sim G.K H1 M ∧ Tr H M H1 M ∧ Q ds Gd) (inv_poison m.inv) ⟨ρ, M, _, _, dv, m.sim, q, fun ds Gd M' ⟨e, qd⟩ J S H' dw st sm t => (by subst e; exact ⟨ds, Gd, S, dw, st, sm, t, qd⟩), w0_up⟩
  refine wpAny_gsz (Nat.le_refl _) (wpAny_mono (wpAny_px (sr_start s) run) (fun v s2 ⟨s1, r, h⟩ sz => ?_) fun e s2 ⟨s1, r, h⟩ => h.elim)
  refine wpAny_gsz sz (wpAny_mono (wpAny_px r h) (fun u s4 ⟨s3, r3, h3⟩ sz3 => ?_) fun e s2 ⟨s1, r, h⟩ => h.elim)
  obtain ⟨it, fp, tn, J, H1, e, I1, T, t0, f, ds, Gd, S, dw, st, sm, t, qd⟩ := h3
  obtain ⟨Gs, rfl⟩ := r3.eq
  subst e
  refine k _ H1 it fp tn J ds Gd S (m.step (inv_gens I1 (sr_bare r3 m.inv.bare)) sm t (sr_sg r3 m.sg) sz3) t T t0 ⟨fun b hb => ?_⟩ dw st qd
  obtain ⟨f1, f2, _, f4, _, f6⟩ := f b hb
  have f4 : (cut s0.heap G.L).objs.size ≤ b := f4.elim (fun z => by cases z) fun z => z
  rw [cut_size m.sz] at f4
  exact ⟨f1, Nat.lt_of_le_of_ne f4 (Ne.symm f2), fun q hq => f6 q (List.mem_append_right _ (List.mem_append_left _ hq))⟩
/-- .. gives an item -/
theorem mid_n (g : G.Ok) (m : Mid G fo B s0 H0 M [] σ fg s H) {tg : Expr} {it : Addr} {fp : List Addr} {tn : Nat → Heap → Prop} {J : It} {ds : List D} {Gd : Mem → Prop} {S : Hp → Mem → Prop} (T : Turn G.P G.w G.K tg J fp it tn) (f : Itr G fo s0 H0 fp H) (dw : DWalk G.K J ds Gd S) (st : S H M) (hG : Gd M) {i : Nat} (t0 : tn i s.heap) (hi : i < ds.length) {R : Value → Shared → Prop}
    (k : ∀ u s1 H1 v d, ds[i]? = some d → Mid G fo B s0 H0 M [] σ fg s1 H1 → Tr H M H1 M → RelV v u → Rep G.K H1 v d → S H1 M → tn (i + 1) s1.heap → Itr G fo s0 H0 fp H1 → R u s1) :
    wpAny (modelX G.P G.w) (G.A.deeper G.env) (pyNext (.ref it)) (fun r s1 => ∃ u, r = some u ∧ wpAny (modelX G.P G.w) (G.A.deeper G.env) (letOwnedTupleGo tg (.ref it) u) (fun _ s2 => R u s2) E s1) E s := by
  have run := T.item (G.cx s0 H0) rfl rfl rfl rfl i _ { s with gens := asleepG s } σ H (fun _ _ => False) (inv_poison m.inv) (itr_fp g m f) t0 (dw.goes i H M hi st m.sim hG)
  refine wpAny_gsz (Nat.le_refl _) (wpAny_mono (wpAny_px (sr_start s) run) (fun v s2 ⟨s1, r, u, e, h⟩ sz => ⟨u, e, ?_⟩) fun e s2 ⟨s1, r, h⟩ => h.elim)
  refine wpAny_gsz sz (wpAny_mono (wpAny_px r h) (fun _ s4 ⟨s3, r3, x, H1, I1, rx, y, t1, f1⟩ sz3 => ?_) fun e s2 ⟨s1, r, h⟩ => h.elim)
  obtain ⟨Gs, rfl⟩ := r3.eq
  obtain ⟨d, ed, rd, sm, t⟩ := dw.yields i H M x H1 hi st m.sim hG y
  exact k u _ H1 x d ed (m.step (inv_gens I1 (sr_bare r3 m.inv.bare)) sm t (sr_sg r3 m.sg) sz3) t rx rd (dw.stay _ _ _ _ st t) t1 ⟨fun b hb => ⟨f1 b hb, (f.ok b hb).2⟩⟩
/-- .. is at its end -/
theorem mid_z (g : G.Ok) (m : Mid G fo B s0 H0 M [] σ fg s H) {tg : Expr} {it : Addr} {fp : List Addr} {tn : Nat → Heap → Prop} {J : It} {ds : List D} {Gd : Mem → Prop} {S : Hp → Mem → Prop} (T : Turn G.P G.w G.K tg J fp it tn) (f : Itr G fo s0 H0 fp H) (dw : DWalk G.K J ds Gd S) (st : S H M) (hG : Gd M) (t0 : tn ds.length s.heap) {R : Option Value → Shared → Prop}
    (k : ∀ s1, Mid G fo B s0 H0 M [] σ fg s1 H → R none s1) : wpAny (modelX G.P G.w) (G.A.deeper G.env) (pyNext (.ref it)) R E s := by
  have run := T.done (G.cx s0 H0) rfl rfl rfl rfl ds.length _ { s with gens := asleepG s } σ H (fun _ _ => False) (inv_poison m.inv) (itr_fp g m f) t0 (dw.stops H M st m.sim hG)
  refine wpAny_gsz (Nat.le_refl _) (wpAny_mono (wpAny_px (sr_start s) run) (fun v s2 ⟨s1, r, e, I1⟩ sz => ?_) fun e s2 ⟨s1, r, h⟩ => h.elim)
  obtain ⟨Gs, rfl⟩ := r.eq
  subst e
  exact k _ (m.step (inv_gens I1 (sr_bare r m.inv.bare)) m.sim (Tr.refl _ _) (sr_sg r m.sg) sz)
end
end XG

/-! XG: a loop that delegates at each turn. -/
namespace XG
open _root_.PySem L2 GenW TD
open PyProof.Rows (AllBare envOfC)
section
variable {M : Model} {A : Around} {c : Code} {fs : List Frame} {s : Shared} {Φ : End → Shared → Prop} {K : Flow → Sem PySem.Fin}
theorem one_bindw {α β : Type} {m : Sem α} {f : α → Sem β} {K : β → Sem PySem.Fin} {J : Value → Sem PySem.Fin} {gd : Bool → Bool} {lv : List Value → List Value}
    (h : wpAny M (A.over c fs) m (fun a s' => One M A c ((f a).wrap K J gd lv) fs s' Φ) (fun x s' => One M A c (J x) fs s' Φ) s) : One M A c ((m >>= f).wrap K J gd lv) fs s Φ := by
  rw [Sem.bind_eq_wrap', Sem.wrap_wrap]
  exact one_wrap h
theorem one_bindw2 {α β γ : Type} {m : Sem α} {f : α → Sem β} {f2 : β → Sem γ} {K : γ → Sem PySem.Fin} {J : Value → Sem PySem.Fin} {gd : Bool → Bool} {lv : List Value → List Value}
    (h : wpAny M (A.over c fs) m (fun a s' => One M A c ((f a).wrap (fun b => (f2 b).wrap K J gd lv) J gd lv) fs s' Φ) (fun x s' => One M A c (J x) fs s' Φ) s) : One M A c (((m >>= f) >>= f2).wrap K J gd lv) fs s Φ := by
  rw [Sem.bind_eq_wrap' (m >>= f) f2, Sem.wrap_wrap]
  exact one_bindw h
end
/-- iter(g) -/
theorem iterX {P : Program} {w : World} {A : Around} {E : Value → Shared → Prop} {s : Shared} {a : Addr} {o : Obj} {Q : Value → Shared → Prop} (ho : s.heap.get? a = some o) (hc : o.cls = .type "generator") (h : Q (.ref a) s) : wpAny (modelX P w) A (pyIter (.ref a)) Q E s := by
  have hT : s.TypeIs (.ref a) "generator" := ⟨o, ho, hc⟩
  refine wpAny_pyIter_slot hT slot_gen_iter (wpAny_call (codeX_builtin (by decide) slot_gen_iter.plain entry_gen_iter (slot_gen_iter.check _ _ _ _ _ _ _ _ hT (args_gen_iter _) ?_)))
  show wpAny _ _ (ret (.ref a)) _ _ s
  exact wpAny_pure ⟨_, rfl, "generator", _, hT, slot_gen_next.lookup, h⟩
theorem pins_cell {o : Obj} (h : ∀ v, o.data ≠ .cell v) : isCell o = false := by
  cases e : isCell o with
  | false => rfl
  | true => obtain ⟨v, q⟩ := iscell e; exact absurd q (h v)
theorem gobj_cell {o : Obj} {g : Nat} {n : Int} (h : GObj o g n) : isCell o = false := pins_cell fun v e => by
  obtain ⟨_, _, d⟩ := h.data
  rw [d] at e; cases e
theorem over_one {A : Around} {c c' : Code} {fs : List Frame} (h1 : c.weight = 0) (h2 : c'.weight = 0) (u1 : c.cUnits = 0) (u2 : c'.cUnits = 1) : A.over c' fs = (A.over c fs).in1 := by
  unfold Around.over
  rw [Code.envs_of_weight h1, Code.envs_of_weight h2, Code.guards_of_weight h1, Code.guards_of_weight h2, h1, h2, u1, u2]
  rfl
/-- a text's generator def, fresh -/
def FreshOk (P : Program) (w : World) (K : PySem.W.Frag) (mg : Str → Option Value) (base : Heap) (N : List Str) (x : Str) (scope : Scope) (f : Addr) (cdv : Value) (body : List Stmt) (k : Nat) (ds items : List D) : Prop :=
  ∀ G : Gn, G.P = P → G.w = w → G.K = K → G.mg = mg → G.base = base → G.N = N → (∃ L, G.env = envOfC x scope L f cdv) → G.Ok → Room k G.A → G.A.frames = some G.stk →
    ∀ (σ : St) (H0 : Hp) (M0 : Mem) (o : Obj), FrO G o σ → DvL K H0 σ (ds.map some ++ List.replicate (N.length - ds.length) none) → Alive G items (.fresh (.func body G.env)) [(G.L, o)] [] H0 M0
/-- the def in the text -/
structure GDef (K : PySem.W.Frag) (mg : Str → Option Value) (N ps : List Str) (x : Str) (scope : Scope) (f : Addr) (cdv : Value) (body : List Stmt) (fd : FuncData) : Prop where
  ex : ∃ (oc : Value) (od : Option Addr) (params : Arguments) (dV kV doc pm ct : Value) (an : Option Addr) (osl : Array (Option Value)), fd = PySem.W.fnOf x x params body scope dV kV doc pm an cdv ct ∧ K.lookup f = some ⟨oc, od, .func fd, osl⟩
  code : PySem.W.codeIn K cdv x = true
  sc : GScope N ps scope
  kp : PySem.W.keepIn K (.ref f) = true
  mg : mg x = some (.ref f)
  names : ∀ y ∈ scope.names, y.2 = .local ∨ y.2 = .globalImplicit ∨ y.2 = .globalExplicit
  cells : ∀ n, cellsFrom n scope.names [] = []
  bd : ∀ (s : Shared) (us : List Value), K.In s.heap → us.length = ps.length → BindsTo s fd ⟨us, []⟩ (ps.zip us)
def tailI (cit : Nat → List D) : Nat → Nat → List D
  | 0, _ => []
  | n + 1, i => cit i ++ tailI cit n (i + 1)
section
variable {G : Gn} {x : Str} {f : Addr} {cdv : Value} {body : List Stmt} {scope : Scope} {N ps : List Str} {fd : FuncData} {k : Nat} {L0 : Addr}
/-- the generator that it delegates to -/
theorem under_ok (g : G.Ok) (gd : GDef G.K G.mg N ps x scope f cdv body fd) {fo : List (Addr × Obj)} {B : Bk} {s0 s : Shared} {H0 H : Hp} {M : Mem} {aux : List (Addr × Obj)} {σ : St} {fg : List (Nat × GenState)} (m : Mid G fo B s0 H0 M aux σ fg s H) (a : Addr) (fs : List Frame) (n : Nat) :
    (G.under a fs (envOfC x scope s.heap.objs.size f cdv) n).Ok where
  kind := gd.sc.kind
  glob := rfl
  blt := rfl
  cells := gd.cells _
  frame := rfl
  bsz := Nat.le_trans g.bsz (Nat.le_of_lt m.inv.lt)
  old := fun b hb => by
    obtain ⟨_, o, e, _⟩ := m.inv.stack.mem (show b ∈ frs (G.env :: G.stk) from hb)
    exact Heap.lt_size e
  names := gd.names
theorem loop_gen (g : G.Ok) (hr : Room (k + 3) G.A) (hfr : G.A.frames = some G.stk) (hN : G.N = N) (gd : GDef G.K G.mg N ps x scope f cdv body fd) {tg : Expr} {it : Addr} {a1 : Expr} {es : List Expr} {p cp yp ep : Pos} {fsL : List Frame}
    (hA : G.A.over (.forLoop tg (.ref it) [.Expr (.YieldFrom (.Call (.Name x p) (a1 :: es) [] cp) yp) ep] [] G.env) fsL = G.A.deeper G.env) (hsp : splitAtGen fsL = none) (hgu : fsL.any Frame.guarded = false)
    {tdg : TDG} {ta : TDA} (hg : ∀ s0 H0, DG (G.cx s0 H0) tg tdg) (ha : ∀ s0 H0, DA (G.cx s0 H0) W0 (a1 :: es) ta) (hgl : G.env.kindOf x = some .globalImplicit) (hdb : (x == ("__debug__" : Str)) = false) (hst : starEach (a1 :: es) G.env = (false, eval a1 G.env) :: starEach es G.env) (hpl : (backTo cp (starEach es G.env)).any (·.1) = false) (hint : interactive G.env = false)
    {fp : List Addr} {tn : Nat → Heap → Prop} {J : It} {ds : List D} {Gd : Mem → Prop} {S : Hp → Mem → Prop} (T : Turn G.P G.w G.K tg J fp it tn) (dw : DWalk G.K J ds Gd S) (hG : ∀ M, Gd M) {cit : Nat → List D} {Rρ : Nat → DSt → Prop}
    (hread : ∀ i d ρ M, ds[i]? = some d → Rρ i ρ → tdg d ρ M fun ρ' M' => M' = M ∧ Rρ (i + 1) ρ' ∧ ta ρ' M (fun es' M'' => M'' = M ∧ es'.length = ps.length ∧ FreshOk G.P G.w G.K G.mg G.base N x scope f cdv body k es' (cit i)) fun _ _ _ => False)
    (hend : ∀ (fo : List (Addr × Obj)) (B : Bk) (s0 : Shared) (H0 : Hp) (M : Mem) (s : Shared) (H : Hp) (σ : St), Mid G fo B s0 H0 M [] σ [] s H → One (modelX G.P G.w) G.A (.block [] G.env) (.pure (.done .next)) fsL s (Post G [] fo B s0 H0 M)) :
    ∀ (n i : Nat), i + n = ds.length → ∀ (fo : List (Addr × Obj)) (B : Bk) (s0 : Shared) (H0 : Hp) (M : Mem) (s : Shared) (H : Hp) (σ : St) (ρ : DSt), Mid G fo B s0 H0 M [] σ [] s H → DvL G.K H σ ρ → Rρ i ρ → S H M → tn i s.heap → Itr G fo s0 H0 fp H →
      One (modelX G.P G.w) G.A (.forLoop tg (.ref it) [.Expr (.YieldFrom (.Call (.Name x p) (a1 :: es) [] cp) yp) ep] [] G.env) ((modelX G.P G.w).den (.forLoop tg (.ref it) [.Expr (.YieldFrom (.Call (.Name x p) (a1 :: es) [] cp) yp) ep] [] G.env)) fsL s (Post G (tailI cit n i) fo B s0 H0 M) := by
  intro n
  induction n with
  | zero =>
    intro i hi fo B s0 H0 M s H σ ρ m dv hR st t0 f0
    show One _ _ _ ((forTurn tg (.ref it) _ [] G.env).onRaise (fun x => do noteFrame x G.env; theTreesLotGoes x)) _ _ _
    rw [Sem.onRaise_eq_wrap]
    unfold forTurn
    refine one_bindw (wpAny_standAt (one_bindw (wpAny_onRaise ?_)))
    rw [hA]
    have e : i = ds.length := by omega
    subst e
    refine mid_z g m T f0 dw st (hG M) t0 fun s1 m1 => ?_
    refine one_again rfl ?_
    show One _ _ _ ((execs [] G.env).onRaise (fun x => do noteFrame x G.env; theTreesLotGoes x) >>= fun r => pure (Fin.done r)) _ _ _
    refine one_bind (wpAny_onRaise (wpAny_execs_nil ?_))
    exact hend fo B s0 H0 M s1 H σ m1
  | succ n ih =>
    intro i hi fo B s0 H0 M s H σ ρ m dv hR st t0 f0
    show One _ _ _ ((forTurn tg (.ref it) _ [] G.env).onRaise (fun x => do noteFrame x G.env; theTreesLotGoes x)) _ _ _
    rw [Sem.onRaise_eq_wrap]
    unfold forTurn
    refine one_bindw (wpAny_standAt (one_bindw (wpAny_onRaise ?_)))
    rw [hA]
    refine wpAny_mono (mid_n (E := fun _ _ => False) g m T f0 dw st (hG M) t0 (by omega) (R := fun u s1 => ∃ H1 v d, ds[i]? = some d ∧ Mid G fo B s0 H0 M [] σ [] s1 H1 ∧ Tr H M H1 M ∧ RelV v u ∧ Rep G.K H1 v d ∧ S H1 M ∧ tn (i + 1) s1.heap ∧ Itr G fo s0 H0 fp H1) fun u s1 H1 v d ed m1 t1 rv rd st1 tn1 f1 => ⟨H1, v, d, ed, m1, t1, rv, rd, st1, tn1, f1⟩) (fun r s1 ⟨u, e, h⟩ => ?_) fun _ _ h => h.elim
    subst e
    refine one_bindw ?_
    rw [hA]
    refine wpAny_mono h (fun _ s2 ⟨H2, v, d, ed, m2, t2, rv, rd, st2, tn2, f2⟩ => ?_) fun _ _ h => h.elim
    have pa : ∀ p ∈ pinsAt fp s2.heap, p.1 ∈ fp ∧ s2.heap.get? p.1 = some p.2 ∧ isCell p.2 = false := fun p hp => by
      obtain ⟨hb, e⟩ := of_pinsAt hp
      obtain ⟨o, e2, nc⟩ := T.obj _ _ tn2 p.1 hb
      rw [e] at e2; cases e2
      exact ⟨hb, e, pins_cell nc⟩
    have m3 := m2.re g (aux' := pinsAt fp s2.heap) fun p hp => .inr ⟨(pa p hp).2.1, (f2.ok _ (pa p hp).1).1, (f2.ok _ (pa p hp).1).2.1, (pa p hp).2.2, (f2.ok _ (pa p hp).1).2.2⟩
    refine one_bindw ?_
    rw [hA]
    refine mid_g m3 (dv.mono t2) (hg s0 H0) rv rd (hread i d ρ M ed hR) fun s3 H3 σ3 ρ3 m4 t3 dv3 ⟨hR3, hta⟩ => ?_
    rw [Sem.bind_eq_wrap', Sem.wrap_wrap, execs_cons_wrap, exec_Expr G.env _ ep hint rfl]
    refine one_at ?_
    refine one_bindw2 ?_
    rw [hA]
    have nm := lfE (X := G.cx s0 H0) blindF (pe_glob (v := .ref f) (pos := p) hgl gd.mg rfl hdb) (ovr B []) _ s3 σ3 H3 (fun v H' => v = .ref f ∧ H' = H3) m4.inv m4.sg ⟨rfl, rfl⟩
    refine wpAny_Call_Name_kw (wpAny_gsz (Nat.le_refl _) (wpAny_mono nm (fun u s4 ⟨⟨v4, H4, I4, r4, e4, e5⟩, sg4⟩ sz4 => ?_) fun _ _ h => h.1.elim))
    subst e4 e5
    cases r4
    have m5 := m4.step I4 m4.sim (Tr.refl _ _) sg4 sz4
    refine PySem.W.callWith_K (h₀ := G.base) m5.inv.ok.mod.kin gd.kp (mid_a m5 dv3 (ha s0 H0) hta fun us s5 H5 vs ds5 m6 t6 rvs reps ⟨len, fresh⟩ => ⟨m6.inv.kIn, ?_⟩) hst hpl
    obtain ⟨oc, od, params, dV, kV, doc, pm, ct, an, osl, efd, lk⟩ := gd.ex
    subst efd
    have ncs : ∀ y ∈ scope.names, y.2 ≠ .cell := fun y hy e => by
      rcases gd.names y hy with z | z | z <;> (rw [z] at e; cases e)
    have lus : us.length = ps.length := vals_len rvs reps len
    refine born (X := G.cx s0 H0) (args := ⟨us, []⟩) (G := { G with env := envOfC x scope s5.heap.objs.size f cdv }) m6.inv m6.sg (hr.deeper _) hN rfl lk gd.code gd.sc ncs (fun Gs => gd.bd _ us m6.inv.kIn lus) rvs (by rw [reps.length, len]) fun a s6 I6 sg6 bn => ?_
    have m7 := m6.step I6 m6.sim (Tr.refl _ _) sg6 (Nat.le_of_lt bn.sz)
    obtain ⟨oL, eL, fL, cL⟩ := bn.fr
    obtain ⟨oa, ea, goa⟩ := bn.obj
    have hlt : s5.heap.objs.size < a := bn.lt
    have young5 : ∀ q ∈ young s0.heap H0 G.L (fo.map (·.1)), q.1 < s5.heap.objs.size := fun q hq => Heap.lt_size (m6.inv.pin q (List.mem_append_right _ (List.mem_append_left _ hq))).1
    have fi5 : ∀ q ∈ pinsAt fp s2.heap, q.1 < s5.heap.objs.size := fun q hq => Heap.lt_size (m6.get hq).1
    have ca : ∀ q ∈ young s0.heap H0 G.L (fo.map (·.1)), q.1 ≠ a := fun q hq => Nat.ne_of_lt (Nat.lt_trans (young5 q hq) hlt)
    have cL' : ∀ q ∈ young s0.heap H0 G.L (fo.map (·.1)), q.1 ≠ s5.heap.objs.size := fun q hq => Nat.ne_of_lt (young5 q hq)
    have na : H5 a = none := m6.inv.hok.fresh (Nat.le_of_lt hlt)
    have nL : H5 s5.heap.objs.size = none := m6.inv.hok.fresh (Nat.le_refl _)
    have lL : G.L < s5.heap.objs.size := m6.inv.lt
    have m8 := m7.re g (aux' := (a, oa) :: pinsAt fp s2.heap) fun p hp => by
      rcases List.mem_cons.mp hp with e | hp
      · rw [e]; exact .inr ⟨ea, na, Nat.lt_trans lL hlt, gobj_cell goa, ca⟩
      · exact .inl hp
    have bN : B s5.gens.size = none := by
      cases e : B s5.gens.size with
      | none => rfl
      | some y =>
        have z := (m6.sg.sl s5.gens.size y (by rw [ovr_nil]; exact e)).1
        rw [Array.getElem?_eq_none (Nat.le_refl _)] at z
        cases z
    refine one_at ?_
    show One _ _ _ ((yieldFrom G.env (.ref a)).wrap _ _ _ _) _ _ _
    unfold yieldFrom
    refine one_bindw (wpAny_typeOf (T := "generator") ⟨oa, ea, goa.cls⟩ ?_)
    rw [if_neg (by decide)]
    refine one_bindw (wpAny_holding (iterX ea goa.cls ?_))
    refine one_call fun pz => ?_
    have hA2 : ∀ (kk : Result → Sem PySem.Fin) (gg : Bool) (ll : List Value), G.A.over (yfc a) (.ret kk none gg ll (.forLoop tg (.ref it) [.Expr (.YieldFrom (.Call (.Name x p) (a1 :: es) [] cp) yp) ep] [] G.env) pz [] :: fsL) = (G.A.deeper G.env).in1 := fun kk gg ll => (over_one (c := .forLoop tg (.ref it) [.Expr (.YieldFrom (.Call (.Name x p) (a1 :: es) [] cp) yp) ep] [] G.env) rfl rfl rfl rfl).trans (congrArg Around.in1 ((over_loop rfl rfl).trans hA))
    have hr1 : Room (k + 1) (G.A.deeper G.env).in1 := (hr.deeper _).in1
    refine yf_loop (g' := s5.gens.size) (e' := envOfC x scope s5.heap.objs.size f cdv) (fi := pinsAt fp s2.heap) (σ := σ3) (rest := tailI cit n (i + 1)) (Hb := H5) (Mb := M) g hr.hd lL (by rw [hA2]; exact hr1.hd) (by rw [hA2]; exact hr1.depth) (by rw [hA2]; exact Around.frames_deeper hfr) ?_ ?_ (fun q hq => Nat.ne_of_lt (Nat.lt_trans (fi5 q hq) hlt)) (fun fo9 B9 s90 H90 M9 s9 H9 m9 t9 => ?_) (cit i) (.fresh (.func body (envOfC x scope s5.heap.objs.size f cdv))) [(s5.heap.objs.size, oL)] [] [] H5 M fo B s0 H0 M s6 H5 oa m8 (Tr.refl _ _) (Tr.refl _ _) goa bn.gen bN m6.num (sg_set m7.sg (by rw [ovr_nil]; exact bN) rfl) (fun q hq => by cases hq) ⟨fun q hq => ?_, fun q hq r hr => ?_, fun q hq => ?_, cL'⟩ ?_
    · show (splitAtGen fsL).map _ = none
      rw [hsp]; rfl
    · show (false || fsL.any Frame.guarded) = false
      rw [hgu]; rfl
    · refine one_leaf (.ok (.ret .none)) ?_
      show One _ _ _ (.pure (.again _)) _ _ _
      refine one_again rfl ?_
      have kp : ∀ b ∈ fp, ∀ o, s2.heap.get? b = some o → s9.heap.get? b = some o := fun b hb o e => (m9.get (mem_pinsAt hb e)).1
      refine ih (i + 1) (by omega) fo9 B9 s90 H90 M9 s9 H9 σ3 ρ3 (m9.re g fun q hq => by cases hq) (((dv3.mono t6).mono t9)) hR3 (dw.stay _ _ _ _ st2 ((t3.trans t6).trans t9)) (T.keep _ _ _ tn2 kp) ⟨fun b hb => ?_⟩
      obtain ⟨o, e, _⟩ := T.obj _ _ tn2 b hb
      have z := mem_pinsAt hb e
      exact ⟨(m9.get z).2, (m9.aux _ z).1, (m9.aux _ z).2.2⟩
    · rw [List.mem_singleton.mp hq]
      exact ⟨by have := eL; rw [bn.at_] at this; exact this, nL, cL, Nat.le_refl _, cL'⟩
    · rw [List.mem_singleton.mp hq]
      rcases List.mem_cons.mp hr with e | hr
      · rw [e]; exact Nat.ne_of_gt hlt
      · exact Nat.ne_of_lt (fi5 r hr)
    · rcases List.mem_cons.mp hq with e | hq
      · rw [e]; exact Nat.ne_of_gt hlt
      · exact Nat.ne_of_lt (fi5 q hq)
    · have key : ∀ fr : List Frame, G.A.over (yfc a) fr = (G.A.deeper G.env).in1 → Alive (G.under a fr (envOfC x scope s5.heap.objs.size f cdv) s5.gens.size) (cit i) (.fresh (.func body (envOfC x scope s5.heap.objs.size f cdv))) [(s5.heap.objs.size, oL)] [] H5 M := fun fr hA3 => by
        refine fresh (G.under a fr (envOfC x scope s5.heap.objs.size f cdv) s5.gens.size) rfl rfl rfl rfl rfl hN ⟨_, rfl⟩ (under_ok g gd m6 a _ _) ?_ ?_ (start N vs) H5 M oL fL ?_
        · show Room k (G.A.over (yfc a) fr).in1
          rw [hA3]; exact hr1.in1
        · show (G.A.over (yfc a) fr).in1.frames = some (G.env :: G.stk)
          rw [hA3]; exact Around.frames_deeper hfr
        · have e : start N vs = vs.map some ++ List.replicate (N.length - ds5.length) none := by unfold L2.start; rw [reps.length]
          rw [e]
          exact DvL.start reps _
      exact key _ (hA2 _ _ _)
end
end XG

/-! XG: a generator def by its body: one item where a test holds, else a loop that delegates to the def itself. -/
namespace XG
open _root_.PySem L2 GenW TD
open PyProof.Rows (AllBare envOfC)
section
variable {P : Program} {w : World} {K : PySem.W.Frag} {mg : Str → Option Value} {base : Heap} {N ps : List Str} {x : Str} {scope : Scope} {f : Addr} {cdv : Value} {body : List Stmt} {fd : FuncData} {k : Nat} {ds0 items : List D}
abbrev mkG (P : Program) (w : World) (K : PySem.W.Frag) (mg : Str → Option Value) (base : Heap) (N : List Str) (x : Str) (scope : Scope) (f : Addr) (cdv : Value) (A : Around) (stk : List Env) (L : Addr) (num : Nat) : Gn := ⟨P, w, K, mg, base, A, stk, N, envOfC x scope L f cdv, num⟩
/-- for .. in ..: yield from f(..) -/
theorem one_for {G : Gn} {c0 : Code} (g : G.Ok) (hr : Room (k + 3) G.A) (hfr : G.A.frames = some G.stk) (hN : G.N = N) (gd : GDef G.K G.mg N ps x scope f cdv body fd) (h0 : G.A.over c0 [] = G.A.deeper G.env) {tg iter a1 : Expr} {es : List Expr} {p cp yp ep fpz : Pos} {tdg : TDG} {ta : TDA} {wi : TDI} {Kf : Flow → Sem PySem.Fin} {Jf : Value → Sem PySem.Fin} (hK : Kf .next = .pure (.done (.ret .none)))
    (hi : ∀ s0 H0, DI (G.cx s0 H0) W0 tg iter wi) (hg : ∀ s0 H0, DG (G.cx s0 H0) tg tdg) (ha : ∀ s0 H0, DA (G.cx s0 H0) W0 (a1 :: es) ta) (hgl : G.env.kindOf x = some .globalImplicit) (hdb : (x == ("__debug__" : Str)) = false) (hst : starEach (a1 :: es) G.env = (false, eval a1 G.env) :: starEach es G.env) (hpl : (backTo cp (starEach es G.env)).any (·.1) = false) (hint : interactive G.env = false) (hfs : ∀ v, foldedSetIterable iter G.env v = pure v)
    {fo : List (Addr × Obj)} {B : Bk} {s0 s : Shared} {H0 H : Hp} {M : Mem} {σ : St} {ρ : DSt} (m : Mid G fo B s0 H0 M [] σ [] s H) (dv : DvL G.K H σ ρ)
    (q : wi ρ M (fun ds Gd M' => M' = M ∧ (∀ M, Gd M) ∧ ∃ (cit : Nat → List D) (Rρ : Nat → DSt → Prop), items = tailI cit ds.length 0 ∧ Rρ 0 ρ ∧ ∀ i d ρ M, ds[i]? = some d → Rρ i ρ → tdg d ρ M fun ρ' M' => M' = M ∧ Rρ (i + 1) ρ' ∧ ta ρ' M (fun es' M'' => M'' = M ∧ es'.length = ps.length ∧ FreshOk G.P G.w G.K G.mg G.base N x scope f cdv body k es' (cit i)) fun _ _ _ => False) fun _ _ _ => False) :
    One (modelX G.P G.w) G.A c0 ((exec (.For tg iter [.Expr (.YieldFrom (.Call (.Name x p) (a1 :: es) [] cp) yp) ep] [] fpz) G.env).wrap Kf Jf id id) [] s (Post G items fo B s0 H0 M) := by
  rw [exec_For]
  refine one_bindw (wpAny_standAt (one_bindw ?_))
  rw [h0]
  refine wpAny_mono (mid_i (E := fun _ _ => False) g m dv (hi s0 H0) q (R := fun u s1 => ∃ H1 it fp tn J ds Gd S, u = .ref it ∧ Mid G fo B s0 H0 M [] σ [] s1 H1 ∧ Tr H M H1 M ∧ Turn G.P G.w G.K tg J fp it tn ∧ tn 0 s1.heap ∧ Itr G fo s0 H0 fp H1 ∧ DWalk G.K J ds Gd S ∧ S H1 M ∧ (∀ M, Gd M) ∧ ∃ (cit : Nat → List D) (Rρ : Nat → DSt → Prop), items = tailI cit ds.length 0 ∧ Rρ 0 ρ ∧ ∀ i d ρ M, ds[i]? = some d → Rρ i ρ → tdg d ρ M fun ρ' M' => M' = M ∧ Rρ (i + 1) ρ' ∧ ta ρ' M (fun es' M'' => M'' = M ∧ es'.length = ps.length ∧ FreshOk G.P G.w G.K G.mg G.base N x scope f cdv body k es' (cit i)) fun _ _ _ => False) fun s1 H1 it fp tn J ds Gd S m1 t1 T t0 f1 dw st qd => ⟨H1, it, fp, tn, J, ds, Gd, S, rfl, m1, t1, T, t0, f1, dw, st, qd⟩) (fun v s1 h => ?_) fun _ _ h => h.elim
  refine one_bindw (wpAny_of_eq (hfs v) ?_)
  refine one_bindw (wpAny_standAt (one_bindw (wpAny_holding ?_)))
  rw [h0]
  refine wpAny_mono h (fun u s2 ⟨H2, it, fp, tn, J, ds, Gd, S, e, m2, t2, T, t0, f2, dw, st, hG, cit, Rρ, ei, r0, hread⟩ => ?_) fun _ _ h => h.elim
  subst e
  refine one_call fun pz => ?_
  rw [ei]
  refine loop_gen g hr hfr hN gd ((over_loop rfl rfl).trans h0) rfl rfl hg ha hgl hdb hst hpl hint T dw hG hread (fun fo9 B9 s90 H90 M9 s9 H9 σ9 m9 => ?_) ds.length 0 (by omega) fo B s0 H0 M s2 H2 σ ρ m2 (dv.mono t2) r0 st t0 f2
  refine one_leaf (.ok .next) ?_
  show One _ _ _ (Kf .next) _ _ _
  rw [hK]
  exact one_end (.ok (.ret .none)) ⟨H9, rfl, m9.done g fun p hp => by cases hp⟩
/-- if ..: yield ..  else: ..; for ..: yield from f(..) -/
theorem fresh_step (gd : GDef K mg N ps x scope f cdv body fd) {c e tg iter a1 : Expr} {es : List Expr} {pre : Stmt} {p cp yp ep fpz ip yp2 yp3 : Pos} {tdp : TDS} {tc : TDT} {te : TDE} {tdg : TDG} {ta : TDA} {wi : TDI}
    (hbody : body = [.If c [.Expr (.Yield (some e) yp2) yp3] [pre, .For tg iter [.Expr (.YieldFrom (.Call (.Name x p) (a1 :: es) [] cp) yp) ep] [] fpz] ip])
    (hc : ∀ A stk L num s0 H0, DT (Gn.cx (mkG P w K mg base N x scope f cdv A stk L num) s0 H0) W0 c tc) (he : ∀ A stk L num s0 H0, DE (Gn.cx (mkG P w K mg base N x scope f cdv A stk L num) s0 H0) W0 e te) (hp : ∀ A stk L num s0 H0, DS (Gn.cx (mkG P w K mg base N x scope f cdv A stk L num) s0 H0) W0 pre tdp)
    (hi : ∀ A stk L num s0 H0, DI (Gn.cx (mkG P w K mg base N x scope f cdv A stk L num) s0 H0) W0 tg iter wi) (hg : ∀ A stk L num s0 H0, DG (Gn.cx (mkG P w K mg base N x scope f cdv A stk L num) s0 H0) tg tdg) (ha : ∀ A stk L num s0 H0, DA (Gn.cx (mkG P w K mg base N x scope f cdv A stk L num) s0 H0) W0 (a1 :: es) ta)
    (hgl : scope.names.lookup x = some .globalImplicit) (hdb : (x == ("__debug__" : Str)) = false) (hst : ∀ L, starEach (a1 :: es) (envOfC x scope L f cdv) = (false, eval a1 (envOfC x scope L f cdv)) :: starEach es (envOfC x scope L f cdv)) (hpl : ∀ L, (backTo cp (starEach es (envOfC x scope L f cdv))).any (·.1) = false) (hfs : ∀ L v, foldedSetIterable iter (envOfC x scope L f cdv) v = pure v)
    (hread : ∀ M,
      tc (ds0.map some ++ List.replicate (N.length - ds0.length) none) M (fun b M' => M' = M ∧ cnd b (te (ds0.map some ++ List.replicate (N.length - ds0.length) none) M (fun d M' => M' = M ∧ items = [d]) fun _ _ _ => False)
        (tdp { nx := fun ρ M' => M' = M ∧ wi ρ M (fun ds Gd M' => M' = M ∧ (∀ M, Gd M) ∧ ∃ (cit : Nat → List D) (Rρ : Nat → DSt → Prop), items = tailI cit ds.length 0 ∧ Rρ 0 ρ ∧ ∀ i d ρ M, ds[i]? = some d → Rρ i ρ → tdg d ρ M fun ρ' M' => M' = M ∧ Rρ (i + 1) ρ' ∧ ta ρ' M (fun es' M'' => M'' = M ∧ es'.length = ps.length ∧ FreshOk P w K mg base N x scope f cdv body k es' (cit i)) fun _ _ _ => False) fun _ _ _ => False, rt := fun _ _ => False } (ds0.map some ++ List.replicate (N.length - ds0.length) none) M)) fun _ _ _ => False) :
    FreshOk P w K mg base N x scope f cdv body (k + 3) ds0 items := by
  rintro ⟨P', w', K', mg', base', A, stk, N', env, num⟩ rfl rfl rfl rfl rfl rfl ⟨L, rfl⟩ g hr hfr σ H0 M0 o hfo dv0
  intro B s H M wk
  have hro : Room (k + 3) A := hr
  have hsz : L ≤ s.heap.objs.size := Nat.le_of_lt (Heap.lt_size (wk.obj _ List.mem_cons_self).1)
  have I := enter (ex := List.map (·.1) [((envOfC x scope L f cdv).locals, o)]) g hro.hd wk.env (wk.obj _ List.mem_cons_self).1 (wk.obj _ List.mem_cons_self).2 hfo
  have m : Mid (mkG P' w' K' mg' base' N' x scope f cdv A stk L num) [((envOfC x scope L f cdv).locals, o)] B s H M [] σ [] s H := ⟨hsz, by rw [List.append_nil]; exact I, fun p hp => (by cases hp), wk.sim, Tr.refl _ _, wk.sg, wk.apart, wk.num⟩
  have rd2 := hread M
  have dv := dv0.mono wk.tr
  have h0 : A.over (.func body (envOfC x scope L f cdv)) [] = A.deeper (envOfC x scope L f cdv) := over_func
  show One _ A (.func body (envOfC x scope L f cdv)) (.point [] fun _ => ((execs body (envOfC x scope L f cdv)).onRaise (leaving (envOfC x scope L f cdv))) >>= fun fl => match fl with | .ret v => ret v | _ => ret .none) [] s _
  refine one_point ?_
  rw [Sem.onRaise_eq_wrap, Sem.bind_eq_wrap', Sem.wrap_wrap]
  conv => arg 4; rw [hbody]
  rw [execs_cons_wrap, exec_If]
  refine one_bindw (wpAny_standAt (one_bindw ?_))
  rw [h0]
  refine mid_t m dv (hc A stk L num s H) rd2 fun b s2 H2 m2 t2 rd3 => ?_
  have hint : interactive (envOfC x scope L f cdv) = false := by
    unfold interactive
    rw [show (envOfC x scope L f cdv).scope.kind = .function from gd.sc.kind]
    rfl
  cases b with
  | true =>
    rw [cnd_true] at rd3
    rw [if_pos rfl, execs_cons_wrap, exec_Expr _ _ yp3 hint rfl]
    refine one_at ?_
    show One _ A _ (((eval e (envOfC x scope L f cdv) >>= fun v => (standAt yp2 >>= fun _ => yieldOut (envOfC x scope L f cdv) v)) >>= fun z => dropValue (.Yield (some e) yp2) yp3 z).wrap _ _ id id) [] s2 _
    refine one_bindw2 ?_
    rw [h0]
    refine mid_e m2 (dv.mono t2) (he A stk L num s H) rd3 fun u s3 H3 v d m3 t3 rv rd e3 => ?_
    subst e3
    refine one_at ?_
    have hy : yieldOut (envOfC x scope L f cdv) u = yieldValue u := by
      unfold yieldOut
      rw [show (envOfC x scope L f cdv).scope.isCoroutine = false from gd.sc.co]
      rfl
    show One _ A _ ((yieldOut (envOfC x scope L f cdv) u).wrap _ _ id id) [] s3 _
    rw [hy]
    show One _ A _ (.yield u false [] _) [] s3 _
    refine one_yield rfl fun pz => ?_
    obtain ⟨oL, eL, nL, fL, cL⟩ := rest_of g m3.inv
    refine ⟨v, u, H3, [((envOfC x scope L f cdv).locals, oL)], [], _, _, _, _, _, rfl, rfl, rv, rd, ⟨List.mem_cons_self, ?_, ?_⟩, m3.done g fun q hq => ?_, fun B2 s9 H9 M9 wk9 => ?_⟩
    · intro l; cases l
    · intro q hq; cases hq
    · rw [List.mem_singleton.mp hq]
      exact ⟨eL, nL, cL, Nat.le_refl _, fun y hy => Nat.ne_of_gt (mem_young.mp hy).2.1⟩
    · have I9 := enter (ex := List.map (·.1) [((envOfC x scope L f cdv).locals, oL)]) g hro.hd wk9.env (wk9.obj _ List.mem_cons_self).1 (wk9.obj _ List.mem_cons_self).2 fL
      have m9 : Mid (mkG P' w' K' mg' base' N' x scope f cdv A stk L num) [((envOfC x scope L f cdv).locals, oL)] B2 s9 H9 M9 [] σ [] s9 H9 := ⟨Nat.le_of_lt (Heap.lt_size (wk9.obj _ List.mem_cons_self).1), by rw [List.append_nil]; exact I9, fun p hp => (by cases hp), wk9.sim, Tr.refl _ _, wk9.sg, wk9.apart, wk9.num⟩
      show One _ A _ (.pure (.done (.ret .none))) [] s9 _
      exact one_end (.ok (.ret .none)) ⟨H9, rfl, m9.done g fun q hq => by cases hq⟩
  | false =>
    rw [cnd_false] at rd3
    rw [if_neg Bool.false_ne_true, execs_cons_wrap]
    refine one_wrap ?_
    rw [h0]
    refine mid_s m2 (dv.mono t2) (hp A stk L num s H) rd3 fun s3 H3 σ3 ρ3 m3 t3 dv3 rd4 => ?_
    dsimp only
    rw [execs_cons_wrap]
    exact one_for (G := mkG P' w' K' mg' base' N' x scope f cdv A stk L num) g hr hfr rfl gd h0 rfl (hi A stk L num) (hg A stk L num) (ha A stk L num) hgl hdb (hst L) (hpl L) hint (hfs L) m3 dv3 rd4
end
end XG

/-! XG: a loop over a generator. -/
namespace XG
open _root_.PySem L2 GenW TD
open PyProof.Rows (AllBare envOfC)
abbrev EF : Value → Shared → Prop := fun _ _ => False
theorem forX2 {P : Program} {w : World} {A : Around} {tg : Expr} {it : Value} {body : List Stmt} {env : Env} {R : Flow → Shared → Prop} (I : Nat → Shared → Prop)
    (turn : ∀ n s, I n s → wpAny (modelX P w) A (pyNext it) (fun r s1 => match r with
      | none => R .next s1
      | some v => wpAny (modelX P w) A (letOwnedTupleGo tg it v) (fun _ s2 => wpAny (modelX P w) A (assign tg env v) (fun _ s3 => wpAny (modelX P w) A (execs body env) (fun f s4 => match f with
        | .next => ∃ m, m < n ∧ I m s4
        | .cont => ∃ m, m < n ∧ I m s4
        | .brk => R .next s4
        | .ret v => R (.ret v) s4) EF s3) EF s2) EF s1) EF s)
    (n : Nat) {s : Shared} (h : I n s) : codeAny (modelX P w) A (.forLoop tg it body [] env) (fun r s' => match r with | .ok f => R f s' | .error _ => False) s := by
  refine codeAny_loop' rfl I (fun n s hI => ?_) n h
  show wpAny _ A ((forTurn tg it body [] env).onRaise _) _ _ s
  refine wpAny_onRaise ?_
  unfold forTurn
  refine wpAny_bind (wpAny_standAt (wpAny_bind (wpAny_onRaise (wpAny_mono (turn n s hI) (fun r s1 h1 => ?_) fun _ _ x => x.elim))))
  cases r with
  | none =>
    refine wpAny_pure (.inr ⟨rfl, codeAny_of_tree ?_⟩)
    show wpAny _ _ ((execs [] env).onRaise _ >>= fun r => pure (Fin.done r)) _ _ _
    exact wpAny_bind (wpAny_onRaise (wpAny_execs_nil (wpAny_pure h1)))
  | some v =>
    refine wpAny_bind (wpAny_mono h1 (fun _ s2 h2 => wpAny_bind (wpAny_mono h2 (fun _ s3 h3 => wpAny_bind (wpAny_mono h3 (fun f s4 h4 => ?_) fun _ _ x => x.elim)) fun _ _ x => x.elim)) fun _ _ x => x.elim)
    cases f with
    | next => exact wpAny_pure (.inl ⟨rfl, h4⟩)
    | cont => exact wpAny_pure (.inl ⟨rfl, h4⟩)
    | brk => exact wpAny_pure h4
    | ret v => exact wpAny_pure h4
/-- none of the objects is slept over for ever -/
def Bk.off (B : Bk) (fo : List (Addr × Obj)) : Bk := ⟨B.f, fun i x => B.z i x ∧ ∀ a, delegG x = some a → ∀ p ∈ fo, p.1 ≠ a⟩
section
variable {B : Bk} {s : Shared} {H : Hp} {g : Nat} {x : GenState} {fg : List (Nat × GenState)}
theorem dd_set (d : Dd B H s) (l : loudG x = false) : Dd B H (s.setGen g x) :=
  ⟨fun i y a h1 h2 h3 h4 => by
    rw [setGen_get] at h2
    split at h2
    · cases h2; rw [l] at h3; cases h3
    · exact d.un i y a h1 h2 h3 h4, fun i y a h1 h2 => d.fr i y a h1 h2⟩
theorem dd_sleep (d : Dd (ovr B fg) H s) (z : g < s.gens.size) : Dd (ovr B ((g, x) :: fg)) H (s.setGen g x) :=
  ⟨fun i y a h1 h2 h3 h4 => by
    rw [ovr_cons] at h1
    split at h1
    · cases h1
    · rename_i ei
      rw [setGen_get, if_neg fun w => ei w.1] at h2
      exact d.un i y a h1 h2 h3 h4, fun i y a h1 h2 => d.fr i y a h1 h2⟩
theorem dd_run (d : Dd (ovr B ((g, x) :: fg)) H s) (hx : s.gens[g]? = some x) : Dd (ovr B fg) H (s.setGen g .running) :=
  ⟨fun i y a h1 h2 h3 h4 => by
    have z : g < s.gens.size := (Array.getElem?_eq_some_iff.mp hx).1
    rw [setGen_get] at h2
    split at h2
    · cases h2; cases h3
    · rename_i w
      have ei : i ≠ g := fun e => w ⟨e, z⟩
      exact d.un i y a (by rw [ovr_cons, if_neg ei]; exact h1) h2 h3 h4, fun i y a h1 h2 => d.fr i y a h1 h2⟩
theorem Dd.at {s' : Shared} (d : Dd B H s) (e : s'.gens = s.gens) (h : s'.heap = s.heap) : Dd B H s' := ⟨fun i x a h1 h2 h3 h4 => by rw [e] at h2; rw [h]; exact d.un i x a h1 h2 h3 h4, fun i x a h1 h2 => d.fr i x a h1 (by rw [← h]; exact h2)⟩
/-- who sleeps for ever, over a stretch of a generator -/
theorem stretch {G : Gn} {fo fo1 : List (Addr × Obj)} {fg1 : List (Nat × GenState)} {M : Mem} {s1 : Shared} {H1 : Hp} (sg : SG (ovr (B.off fo) fg) s) (dd : Dd (ovr (B.off fo) fg) H s) (hL : ∃ o, (G.L, o) ∈ fo) (hst : ∀ b ∈ frs G.stk, ∃ o, s.heap.get? b = some o ∧ ∀ vs, o.data ≠ .fields vs)
    (dn : Done G fo fo1 fg1 ⟨B.f, fun i x => ovr B fg i = none ∧ s.gens[i]? = some x ∧ loudG x = true⟩ s H M s1 H1) (sz : s.heap.objs.size ≤ s1.heap.objs.size) : SG (ovr (B.off fo1) fg1) s1 ∧ Dd (ovr (B.off fo1) fg1) H1 s1 := by
  obtain ⟨oL, hL⟩ := hL
  have key : ∀ i x, ovr B fg1 i = none → s1.gens[i]? = some x → loudG x = true → B.z i x ∧ ∀ a, delegG x = some a → (∀ p ∈ fo1, p.1 ≠ a) ∧ H1 a = none ∧ ∃ o, s1.heap.get? a = some o ∧ isGenO o = true := fun i x h1 h2 h3 => by
    obtain ⟨z1, z2, z3⟩ := dn.sg.nl i x h1 h2 h3
    obtain ⟨w1, w2⟩ := sg.nl i x z1 z2 h3
    refine ⟨w1, fun a h4 => ?_⟩
    obtain ⟨n, o, e, q⟩ := dd.un i x a z1 z2 h3 h4
    obtain ⟨vs, ed⟩ := gen_fields q
    have nc : isCell o = false := by unfold isCell; rw [ed]
    have nfo : ∀ p ∈ fo, p.1 ≠ a := w2 a h4
    have nL : a ≠ G.L := fun z => nfo _ hL z.symm
    have nch : a ∉ G.L :: (fo.map (·.1) ++ youngC s.heap G.L) := fun hb => by
      rcases List.mem_cons.mp hb with z | hb
      · exact nL z
      · rcases List.mem_append.mp hb with hb | hb
        · obtain ⟨p, hp, z⟩ := List.mem_map.mp hb
          exact nfo p hp z
        · obtain ⟨_, ob, q2, q3⟩ := mem_youngC.mp hb
          rw [e] at q2; cases q2
          rw [nc] at q3; cases q3
    have nst : a ∉ frs G.stk := fun hb => by
      obtain ⟨ob, e2, hd⟩ := hst a hb
      rw [e] at e2; cases e2
      exact hd vs ed
    refine ⟨fun p hp z => ?_, dn.un.free a o e n nch, o, dn.un.keep a o e n nst nch, q⟩
    obtain ⟨_, _, _, q4, q5⟩ := dn.obj p hp
    refine q5 (a, o) (mem_young.mpr ⟨e, ?_, n, fun w => ?_, nc⟩) z.symm
    · exact Nat.lt_of_le_of_ne (by rw [← z]; exact q4) (Ne.symm nL)
    · obtain ⟨p2, hp2, e2⟩ := List.mem_map.mp w
      exact nfo p2 hp2 e2
  refine ⟨⟨dn.sg.sl, fun i x h1 h2 h3 => ?_⟩, fun i x a h1 h2 h3 h4 => ?_, fun i x a h1 h2 => ?_⟩
  · obtain ⟨k1, k2⟩ := key i x h1 h2 h3
    exact ⟨k1, fun a h4 => (k2 a h4).1⟩
  · obtain ⟨_, k2⟩ := key i x h1 h2 h3
    exact (k2 a h4).2
  · obtain ⟨f1, _⟩ := dd.fr i x a h1 (Nat.le_trans sz h2)
    refine ⟨f1, fun b hb p hp z => ?_⟩
    rw [h1] at hb
    cases hb
    have lt := Heap.lt_size (dn.obj p hp).1
    rw [z] at lt
    exact absurd lt (Nat.not_lt.mpr h2)
/-- .. it is at its end -/
theorem stretch' {G : Gn} {fo : List (Addr × Obj)} {M : Mem} {s1 : Shared} {H1 : Hp} (sg : SG (ovr (B.off fo) fg) s) (dd : Dd (ovr (B.off fo) fg) H s) (hL : ∃ o, (G.L, o) ∈ fo) (hst : ∀ b ∈ frs G.stk, ∃ o, s.heap.get? b = some o ∧ ∀ vs, o.data ≠ .fields vs)
    (dn : Done G fo [] [] ⟨B.f, fun i x => ovr B fg i = none ∧ s.gens[i]? = some x ∧ loudG x = true⟩ s H M s1 H1) : SG (B.off []) s1 ∧ ∀ i x a, B i = none → s1.gens[i]? = some x → loudG x = true → delegG x = some a → H1 a = none ∧ ∃ o, s1.heap.get? a = some o ∧ isGenO o = true := by
  obtain ⟨oL, hL⟩ := hL
  have key : ∀ i x, B i = none → s1.gens[i]? = some x → loudG x = true → B.z i x ∧ ∀ a, delegG x = some a → H1 a = none ∧ ∃ o, s1.heap.get? a = some o ∧ isGenO o = true := fun i x h1 h2 h3 => by
    obtain ⟨z1, z2, z3⟩ := dn.sg.nl i x h1 h2 h3
    obtain ⟨w1, w2⟩ := sg.nl i x z1 z2 h3
    refine ⟨w1, fun a h4 => ?_⟩
    obtain ⟨n, o, e, q⟩ := dd.un i x a z1 z2 h3 h4
    obtain ⟨vs, ed⟩ := gen_fields q
    have nc : isCell o = false := by unfold isCell; rw [ed]
    have nfo : ∀ p ∈ fo, p.1 ≠ a := w2 a h4
    have nch : a ∉ G.L :: (fo.map (·.1) ++ youngC s.heap G.L) := fun hb => by
      rcases List.mem_cons.mp hb with z | hb
      · exact nfo _ hL z.symm
      · rcases List.mem_append.mp hb with hb | hb
        · obtain ⟨p, hp, z⟩ := List.mem_map.mp hb
          exact nfo p hp z
        · obtain ⟨_, ob, q2, q3⟩ := mem_youngC.mp hb
          rw [e] at q2; cases q2
          rw [nc] at q3; cases q3
    have nst : a ∉ frs G.stk := fun hb => by
      obtain ⟨ob, e2, hd⟩ := hst a hb
      rw [e] at e2; cases e2
      exact hd vs ed
    exact ⟨dn.un.free a o e n nch, o, dn.un.keep a o e n nst nch, q⟩
  exact ⟨⟨dn.sg.sl, fun i x h1 h2 h3 => ⟨(key i x h1 h2 h3).1, fun a _ p hp => by cases hp⟩⟩, fun i x a h1 h2 h3 h4 => (key i x h1 h2 h3).2 a h4⟩
/-- its consumer leaves it asleep -/
theorem dead_exit {fo1 : List (Addr × Obj)} {L : Addr} (hb : ∀ q ∈ (g, x) :: fg, B q.1 = none) (sg : SG (ovr (B.off fo1) ((g, x) :: fg)) s) (dd : Dd (ovr (B.off fo1) ((g, x) :: fg)) H s) (hu : ∀ q ∈ (g, x) :: fg, Under fo1 q.2) (hL : ∀ p ∈ fo1, L ≤ p.1 ∧ s.heap.get? p.1 = some p.2 ∧ H p.1 = none)
    (hz : ∀ i x a, delegG x = some a → L ≤ a → B.z i x) : SG B s ∧ Dd B H s := by
  have look : ∀ {l : List (Nat × GenState)} {i : Nat} {y : GenState}, l.lookup i = some y → (i, y) ∈ l := fun {l i y} h => by
    induction l with
    | nil => cases h
    | cons p l ih =>
      rw [List.lookup_cons] at h
      split at h
      · rename_i e
        cases h
        have e : i = p.1 := by simpa using e
        rw [e]; exact List.mem_cons_self
      · exact List.mem_cons_of_mem _ (ih h)
  have cs : ∀ i y, B i = none → s.gens[i]? = some y → loudG y = true → (ovr (B.off fo1) ((g, x) :: fg) i = none) ∨ Under fo1 y := fun i y h1 h2 h3 => by
    cases e : ((g, x) :: fg).lookup i with
    | none =>
      left
      show (match ((g, x) :: fg).lookup i with | some x => some x | none => B i) = none
      rw [e]; exact h1
    | some w =>
      right
      have : ovr (B.off fo1) ((g, x) :: fg) i = some w := by
        show (match ((g, x) :: fg).lookup i with | some x => some x | none => B i) = some w
        rw [e]
      have := (sg.sl i w this).1
      rw [h2] at this
      cases this
      exact hu _ (look e)
  refine ⟨⟨fun i y e => ?_, fun i y h1 h2 h3 => ?_⟩, fun i y a h1 h2 h3 h4 => ?_, fun i y a h1 h2 => (dd.fr i y a h1 h2).1⟩
  · refine sg.sl i y ?_
    show (match ((g, x) :: fg).lookup i with | some x => some x | none => B i) = some y
    cases q : ((g, x) :: fg).lookup i with
    | none => exact e
    | some w => have := hb _ (look q); rw [e] at this; cases this
  · rcases cs i y h1 h2 h3 with c | c
    · exact (sg.nl i y c h2 h3).1
    · obtain ⟨a, o, d1, d2, d3⟩ := c h3
      exact hz i y a d1 (hL _ d2).1
  · rcases cs i y h1 h2 h3 with c | c
    · exact dd.un i y a c h2 h3 h4
    · obtain ⟨a', o, d1, d2, d3⟩ := c h3
      rw [h4] at d1
      cases d1
      obtain ⟨_, k2, k3⟩ := hL _ d2
      exact ⟨k3, o, k2, d3⟩
end
/-- what its consumer knows of a generator that sleeps -/
structure Held (X : Cx) (G : Gn) (B : Bk) (pins : List (Addr × Obj)) (a g : Addr) (o : Obj) (fo : List (Addr × Obj)) (fg : List (Nat × GenState)) (s : Shared) (H : Hp) : Prop where
  obj : s.heap.get? a = some o ∧ GObj o g 0 ∧ FpOk X pins H a ∧ G.L < a
  fr : ∃ o, (G.L, o) ∈ fo
  fo : ∀ p ∈ fo, s.heap.get? p.1 = some p.2 ∧ FpOk X pins H p.1 ∧ isCell p.2 = false ∧ G.L ≤ p.1 ∧ p.1 ≠ a
  fg : ∀ q ∈ fg, B q.1 = none ∧ g < q.1
  b : B g = none
  lt : X.env.locals < G.L ∧ X.s_0.heap.objs.size ≤ G.L ∧ (∀ b ∈ X.fs, b < G.L) ∧ ∀ x c, X.env.cells.lookup x = some c → c < G.L
section
variable {X : Cx} {G : Gn} {B : Bk} {pins : List (Addr × Obj)} {σ : St} {a g : Nat} {o : Obj} {fo fo1 : List (Addr × Obj)} {fg fg1 : List (Nat × GenState)} {s s1 : Shared} {H H1 : Hp} {M : Mem}
/-- behind its stretch -/
theorem Held.behind {B' : Bk} (I : Inv X pins σ H s) (h : Held X G B pins a g o fo fg s H) (hs : G.stk = X.stack) (hP : G.P = X.prog) (hw : G.w = X.w) (hn : G.num = g) (dn : Done G fo fo1 fg1 B' (s.setGen g .running) H M s1 H1) : Inv X pins σ H1 s1 ∧ s1.heap.get? a = some o ∧ FpOk X pins H1 a ∧ ∀ p ∈ fo1, s1.heap.get? p.1 = some p.2 ∧ FpOk X pins H1 p.1 ∧ isCell p.2 = false ∧ G.L ≤ p.1 ∧ p.1 ≠ a := by
  obtain ⟨oL, hL⟩ := h.fr
  obtain ⟨l1, l2, l3, l4⟩ := h.lt
  have un := dn.un
  rw [hs] at un
  have hok := dn.hok
  rw [hP, hw] at hok
  have nfs : ∀ b ∈ frs X.stack, b < G.L := fun b hb => by
    rcases List.mem_cons.mp (I.stkSub b hb) with e | hb
    · rw [e]; exact l1
    · exact l3 b hb
  have pinne : ∀ p ∈ X.pn ++ pins, p.1 ≠ G.L := fun p hp => (h.fo _ hL).2.1.2.2.2.2.2 p hp
  have I1 : Inv X pins σ H1 s1 := I.call' dn.os un hok dn.bare fun b hb => by
    rcases List.mem_cons.mp hb with e | hb
    · subst e
      exact ⟨.inr l2, Nat.ne_of_gt l1, fun x c e => Nat.ne_of_lt (l4 x c e), pinne⟩
    · rcases List.mem_append.mp hb with hb | hb
      · obtain ⟨p, hp, e⟩ := List.mem_map.mp hb
        subst e
        obtain ⟨_, f1, _, f3, f4, f5⟩ := (h.fo p hp).2.1
        exact ⟨f3, f1, f4, f5⟩
      · obtain ⟨q1, ob, q2, q3⟩ := mem_youngC.mp hb
        have q2 : s.heap.get? b = some ob := q2
        obtain ⟨v, q3⟩ := iscell q3
        refine ⟨.inr (Nat.le_trans l2 (Nat.le_of_lt q1)), Nat.ne_of_gt (Nat.lt_trans l1 q1), fun x c e => Nat.ne_of_lt (Nat.lt_trans (l4 x c e) q1), fun p hp e => ?_⟩
        obtain ⟨p1, _, _, _, p5⟩ := I.pin p hp
        rw [e, q2] at p1
        cases p1
        exact p5 v q3
  -- an untracked object that is none of its own is none of the new ones
  have key : ∀ {b : Addr} {ob : Obj}, s.heap.get? b = some ob → H b = none → isCell ob = false → (∀ p ∈ fo, b ≠ p.1) → ∀ p ∈ fo1, b ≠ p.1 := fun {b ob} h1 h2 h3 h4 p hp e => by
    obtain ⟨_, _, _, q4, q5⟩ := dn.obj p hp
    refine q5 (b, ob) (mem_young.mpr ⟨h1, ?_, h2, fun w => ?_, h3⟩) e
    · exact Nat.lt_of_le_of_ne (by rw [e]; exact q4) (Ne.symm (h4 _ hL))
    · obtain ⟨q, hq, e2⟩ := List.mem_map.mp w
      exact h4 q hq e2.symm
  obtain ⟨o1, o2, o3, o4⟩ := h.obj
  have aL : ∀ p ∈ fo, a ≠ p.1 := fun p hp e => (h.fo p hp).2.2.2.2 e.symm
  have ach : a ∉ G.L :: (fo.map (·.1) ++ youngC s.heap G.L) := fun hb => by
    rcases List.mem_cons.mp hb with e | hb
    · rw [e] at o4; exact absurd o4 (Nat.lt_irrefl _)
    · rcases List.mem_append.mp hb with hb | hb
      · obtain ⟨p, hp, e⟩ := List.mem_map.mp hb
        exact aL p hp e.symm
      · obtain ⟨_, ob, q2, q3⟩ := mem_youngC.mp hb
        rw [o1] at q2; cases q2
        rw [gobj_cell o2] at q3; cases q3
  have afs : a ∉ frs X.stack := fun hb => absurd (nfs a hb) (Nat.not_lt.mpr (Nat.le_of_lt o4))
  refine ⟨I1, un.keep a o o1 o3.1 afs ach, ⟨un.free a o o1 o3.1 ach, o3.2⟩, fun p hp => ?_⟩
  obtain ⟨q1, q2, q3, q4, q5⟩ := dn.obj p hp
  refine ⟨q1, ⟨q2, Nat.ne_of_gt (Nat.lt_of_lt_of_le l1 q4), fun hb => absurd (l3 _ hb) (Nat.not_lt.mpr q4), .inr (Nat.le_trans l2 q4), fun x c e => Nat.ne_of_lt (Nat.lt_of_lt_of_le (l4 x c e) q4), fun y hy => ?_⟩, q3, q4, ?_⟩
  · obtain ⟨y1, y2, _, _, y5⟩ := I.pin y hy
    exact key y1 y2 (pins_cell y5) (fun w hw e => (h.fo w hw).2.1.2.2.2.2.2 y hy e) p hp
  · exact (key o1 o3.1 (gobj_cell o2) aL p hp).symm
end
end XG

/-! XG: for .. in f(..), f a generator def. -/
namespace XG
open _root_.PySem L2 GenW TD
open PyProof.Rows (AllBare envOfC)
def DEx (X : Cx) (W : WX) (e : Expr) (td : TDE) : Prop := PEx X e (upE X.K W td)
def DTx (X : Cx) (W : WX) (e : Expr) (td : TDT) : Prop := PTx X e (upT X.K W td)
def DWx (X : Cx) (W : WX) (e : Expr) (td : TDT) : Prop := PWx X e (upT X.K W td)
def DAx (X : Cx) (W : WX) (es : List Expr) (td : TDA) : Prop := PAx X es (upA X.K W td)
def DSx (X : Cx) (W : WX) (st : Stmt) (td : TDS) : Prop := PSx X st (upS X.K W td)
def DSsx (X : Cx) (W : WX) (st : List Stmt) (td : TDS) : Prop := PSsx X st (upS X.K W td)
/-- the call of a generator def, missing arguments by the defaults -/
structure GBd (K : PySem.W.Frag) (fd : FuncData) (ps : List Str) (n : Nat) (dds : List D) : Prop where
  ex : ∃ (dvs : List Value) (vds : List V), (∀ (s : Shared) (us : List Value), K.In s.heap → us.length = n → BindsTo s fd ⟨us, []⟩ (ps.zip (us ++ dvs))) ∧ Vals vds dvs ∧ (∀ H, Reps K H vds dds) ∧ n + dds.length = ps.length
@[irreducible] def ForG (items : List D) (g : TDG) (tb : TDS) (D : DEnds) (ρ : DSt) (M : Mem) : Prop := ∃ I : Nat → DSt → Mem → Prop, I 0 ρ M ∧
  (∀ i d ρ M, items[i]? = some d → I i ρ M → g d ρ M fun ρ' M' => tb { nx := I (i + 1), ct := I (i + 1), rt := D.rt, bk := D.nx } ρ' M') ∧ ∀ ρ M, I items.length ρ M → D.nx ρ M
theorem forG_by {items : List D} {g : TDG} {tb : TDS} {D : DEnds} {ρ : DSt} {M : Mem} (I : Nat → DSt → Mem → Prop) (h0 : I 0 ρ M) (hs : ∀ i d ρ M, items[i]? = some d → I i ρ M → g d ρ M fun ρ' M' => tb { nx := I (i + 1), ct := I (i + 1), rt := D.rt, bk := D.nx } ρ' M') (hd : ∀ ρ M, I items.length ρ M → D.nx ρ M) : ForG items g tb D ρ M := by
  unfold ForG
  exact ⟨I, h0, hs, hd⟩
/-- what a generator def promises: its arguments, its items -/
abbrev SpGn := List D → List D → Prop
structure GOk (X : Cx) (N ps : List Str) (x : Str) (scope : Scope) (f : Addr) (cdv : Value) (body : List Stmt) (fd : FuncData) (k : Nat) (sp : SpGn) : Prop where
  def_ : GDef X.K X.mg N ps x scope f cdv body fd
  fresh : ∀ ds items, sp ds items → FreshOk X.prog X.w X.K X.mg X.base N x scope f cdv body k ds items
def tdForG (sp : SpGn) (n : Nat) (dds : List D) (ta : TDA) (g : TDG) (tb : TDS) : TDS := fun D ρ M => ta ρ M (fun es M1 => es.length = n ∧ ∃ items, sp (es ++ dds) items ∧ ForG items g tb D ρ M1) (D.at ρ)
section
variable {X : Cx} {W : WX} {N ps : List Str} {x : Str} {scope : Scope} {f : Addr} {cdv : Value} {body0 : List Stmt} {fd : FuncData} {k n : Nat} {sp : SpGn} {dds : List D}
/-- at the top of the loop -/
structure Top' (X : Cx) (G : Gn) (B : Bk) (pins : List (Addr × Obj)) (a g : Addr) (H0 : Hp) (M0 : Mem) (items : List D) (I : Nat → DSt → Mem → Prop) (i : Nat) (s : Shared) : Prop where
  ex : ∃ (gs : GenState) (o : Obj) (fo : List (Addr × Obj)) (fg : List (Nat × GenState)) (Hq : Hp) (Mq : Mem) (σ : St) (H : Hp) (ρ : DSt) (M : Mem), Inv X pins σ H s ∧ DvL X.K H σ ρ ∧ Sim X.K H M ∧ Tr H0 M0 H M ∧ I i ρ M ∧ i ≤ items.length ∧
    Held X G B pins a g o fo fg s H ∧ Alive G (items.drop i) gs fo fg Hq Mq ∧ Tr Hq Mq H M ∧ s.gens[g]? = some gs ∧ SG (ovr (B.off fo) fg) (s.setGen g .running) ∧ Dd (ovr (B.off fo) fg) H (s.setGen g .running) ∧ ∀ i x a, delegG x = some a → G.L ≤ a → B.z i x
theorem next_top {G : Gn} {B : Bk} {pins : List (Addr × Obj)} {a g : Nat} {H0 : Hp} {M0 : Mem} {items : List D} {I : Nat → DSt → Mem → Prop} {tg : Expr} {body : List Stmt} {tdg : TDG} {tb : TDS} {s : Shared} {i : Nat} {D : Ends} {Rt : TD.D → Mem → Prop} {Bkk : DSt → Mem → Prop} (hc : X.calm = true) (hd : X.A.depth < recursionLimit)
    (hP : G.P = X.prog) (hw : G.w = X.w) (hK : G.K = X.K) (hmg : G.mg = X.mg) (hba : G.base = X.base) (hA : G.A = X.A.in1) (hS : G.stk = X.stack) (hn : G.num = g) (hg : DG X.nox tg tdg) (hb : DSsx X.nox W0 body tb)
    (hI : ∀ i d ρ M, items[i]? = some d → I i ρ M → tdg d ρ M fun ρ' M' => tb { nx := I (i + 1), ct := I (i + 1), rt := Rt, bk := Bkk } ρ' M') (hD : ∀ (ρ : DSt) (M : Mem) (σ : St) (H : Hp), I items.length ρ M → DvL X.K H σ ρ → Sim X.K H M → Tr H0 M0 H M → D.nx σ H)
    (hR : ∀ (d : TD.D) (M : Mem) (v : V) (H : Hp), Rt d M → Rep X.K H v d → Sim X.K H M → Tr H0 M0 H M → D.rt v H) (hB : ∀ (ρ : DSt) (M : Mem) (σ : St) (H : Hp), Bkk ρ M → DvL X.K H σ ρ → Sim X.K H M → Tr H0 M0 H M → D.nx σ H) (t : Top' X G B pins a g H0 M0 items I i s) :
    wpAny (modelX X.prog X.w) X.A (pyNext (.ref a)) (fun r s1 => match r with
      | none => SPX X B pins D .next s1 ∧ SG B s1
      | some v => wpAny (modelX X.prog X.w) X.A (letOwnedTupleGo tg (.ref a) v) (fun _ s2 => wpAny (modelX X.prog X.w) X.A (assign tg X.env v) (fun _ s3 => wpAny (modelX X.prog X.w) X.A (execs body X.env) (fun f s4 => match f with
        | .next => i < items.length ∧ Top' X G B pins a g H0 M0 items I (i + 1) s4
        | .cont => i < items.length ∧ Top' X G B pins a g H0 M0 items I (i + 1) s4
        | .brk => SPX X B pins D .next s4 ∧ SG B s4
        | .ret v => SPX X B pins D (.ret v) s4 ∧ SG B s4) EF s3) EF s2) EF s1) EF s := by
  obtain ⟨gs, o, fo, fg, Hq, Mq, σ, H, ρ, M, J, dv, sm, t0, hi, hle, hld, al, tq, hgs, hsg, hdd, hz⟩ := t.ex
  have zg : g < s.gens.size := (Array.getElem?_eq_some_iff.mp hgs).1
  have wk : Wake G fo fg ⟨B.f, fun i x => ovr B fg i = none ∧ (s.setGen g .running).gens[i]? = some x ∧ loudG x = true⟩ Hq Mq (s.setGen g .running) H M := by
    refine ⟨?_, by rw [hK]; exact sm, tq, fun p hp => ⟨(hld.fo p hp).1, (hld.fo p hp).2.1.1⟩, ⟨hsg.sl, fun i x h1 h2 h3 => ⟨h1, h2, h3⟩⟩, fun q hq => by rw [hn]; exact hld.fg q hq, by rw [hn, setGen_size]; exact zg⟩
    rw [hP, hw, hK, hmg, hba, hA, hS]
    exact ⟨J.env0.frames, J.env0.mod, J.env0.bs, J.env0.bsz, J.env0.funs, J.env0.frf, J.env0.hok, bare_set J.bare rfl⟩
  have on := al _ _ H M wk
  have hst : ∀ b ∈ frs G.stk, ∃ o, (s.setGen g .running).heap.get? b = some o ∧ ∀ vs, o.data ≠ .fields vs := fun b hb => by rw [hS] at hb; exact (J.stack.mem hb).2
  rw [hP, hw, hA] at on
  obtain ⟨o1, o2, o3, o4⟩ := hld.obj
  cases e : items.drop i with
  | nil =>
    rw [e] at on
    refine wpAny_hsz (Nat.le_refl _) (next_turn (J.ok.hd hc) J.nolimit hd o1 o2 hgs on (fun v g0 l k c p fs s1 q _ => ?_) fun r s1 q sz => ?_)
    · obtain ⟨_, z, _⟩ := q; cases z
    · obtain ⟨H1, z, dn⟩ := q
      cases z
      refine ⟨rfl, fun h' kp hsz => ?_⟩
      obtain ⟨I1, _, _, _⟩ := hld.behind J hS hP hw hn dn
      have il : i = items.length := by
        have := congrArg List.length e
        simp at this
        omega
      have I2 := inv_gens (G := (s1.setGen g .finished).gens) (I1.kept (h' := h') (t' := s1.toks) kp) fun b => bare_set b rfl
      have szz : s.heap.objs.size ≤ h'.objs.size := hsz
      have st2 := stretch' hsg hdd hld.fr hst dn
      have dd2 : Dd B H1 { s1.setGen g .finished with heap := h' } := ⟨fun i x a h1 h2 h3 h4 => by
        have h2 : (s1.setGen g .finished).gens[i]? = some x := h2
        rw [setGen_get] at h2
        split at h2
        · cases h2; cases h3
        · obtain ⟨u1, o', u2, u3⟩ := st2.2 i x a h1 h2 h3 h4
          exact ⟨u1, o', kp _ _ u2, u3⟩, fun i x a h1 h2 => (hdd.fr i x a h1 (Nat.le_trans szz h2)).1⟩
      have sg2 : SG B s1 := st2.1.wide rfl fun i x _ _ _ z => z.1
      refine ⟨⟨σ, H1, ⟨I2, dd2⟩, hD ρ M σ H1 (by rw [← il]; exact hi) (dv.mono (by have := dn.tr; exact this)) (by have := dn.sim; rw [hK] at this; exact this) (t0.trans dn.tr)⟩, (sg_set (x := .finished) sg2 hld.b rfl).at rfl⟩
  | cons d rest =>
    rw [e] at on
    have ed : items[i]? = some d := by
      have := congrArg (fun l => l[0]?) e
      simpa using this
    have er : items.drop (i + 1) = rest := by
      rw [← List.drop_drop, e]; rfl
    have hlt : i < items.length := (List.getElem?_eq_some_iff.mp ed).1
    refine wpAny_hsz (Nat.le_refl _) (next_turn (J.ok.hd hc) J.nolimit hd o1 o2 hgs on (fun v g0 l k c pz fs s1 q sz => ?_) fun r s1 q sz => ?_)
    · obtain ⟨w, u, H1, fo1, fg1, l1, k1, c1, p1, f1, z, hgd, rw_, rd, ⟨hin, hun, hunf⟩, dn, next⟩ := q
      cases z
      refine ⟨by show (!(false || fs.any Frame.guarded)) = true; rw [hgd]; rfl, fun hsz => ?_⟩
      obtain ⟨sgS, ddS⟩ := stretch hsg hdd hld.fr hst dn hsz
      obtain ⟨I1, a1, fa, ffo⟩ := hld.behind J hS hP hw hn dn
      have z1 : g < s1.gens.size := Nat.lt_of_lt_of_le zg sz
      have I2 := inv_gens (G := (s1.setGen g (End.susp v false l k c pz fs).genState).gens) I1 fun b => bare_set b (by show (!(false || fs.any Frame.guarded)) = true; rw [hgd]; rfl)
      obtain ⟨nm, qn, dat⟩ := o2.data
      refine go_of a1 o2.cls dat (by decide) ?_
      rw [hK] at rd
      have sm1 : Sim X.K H1 M := by have := dn.sim; rw [hK] at this; exact this
      have I30 : Inv X.nox (pins ++ ((a, o) :: fo1)) σ H1 { s1 with gens := (s1.setGen g (End.susp v false l k c pz fs).genState).gens } := (I2.pins_of (pins' := pins ++ ((a, o) :: fo1)) fun y hy => by
        rcases List.mem_append.mp hy with hy | hy
        · exact I2.pin y (List.mem_append_right _ hy)
        · rcases List.mem_cons.mp hy with e | hy
          · rw [e]; exact ⟨a1, fa.1, fa.2.1, fa.2.2.1, notcell (gobj_cell o2)⟩
          · obtain ⟨y1, y2, y3, _⟩ := ffo y hy
            exact ⟨y1, y2.1, y2.2.1, y2.2.2.1, notcell y3⟩).wish _
      have I3 : InvX X.nox (ovr (B.off fo1) ((g, (End.susp v false l k c pz fs).genState) :: fg1)) (pins ++ ((a, o) :: fo1)) σ H1 { s1 with gens := (s1.setGen g (End.susp v false l k c pz fs).genState).gens } := ⟨I30, (dd_sleep ddS z1).at rfl rfl⟩
      have ra := (PGx.of (X := X.nox) blindF hg).run (ovr (B.off fo1) ((g, (End.susp v false l k c pz fs).genState) :: fg1)) _ _ σ H1 w v (fun σ2 H2 => ∃ ρ2 M2, DvL X.K H2 σ2 ρ2 ∧ Sim X.K H2 M2 ∧ Tr H1 M H2 M2 ∧ tb { nx := I (i + 1), ct := I (i + 1), rt := Rt, bk := Bkk } ρ2 M2) I3 ((sg_sleep sgS z1 rfl).at rfl) rw_
        ⟨ρ, M, d, _, dv.mono dn.tr, sm1, rd, hI i d ρ M ed hi, fun ρ' M' q σ' H' dv' s' t' => ⟨ρ', M', dv', s', t', q⟩⟩
      refine wpAny_mono ra (fun _ s3 ⟨⟨σ2, H2, I4, ρ2, M2, dv2, sm2, t2, q2⟩, sg2⟩ => ?_) fun _ _ z => z.1.elim
      have rb := hb.run (ovr (B.off fo1) ((g, (End.susp v false l k c pz fs).genState) :: fg1)) _ s3 σ2 H2 { nx := fun σ' H' => ∃ ρ' M', DvL X.K H' σ' ρ' ∧ Sim X.K H' M' ∧ Tr H1 M H' M' ∧ I (i + 1) ρ' M', ct := fun σ' H' => ∃ ρ' M', DvL X.K H' σ' ρ' ∧ Sim X.K H' M' ∧ Tr H1 M H' M' ∧ I (i + 1) ρ' M', rt := D.rt, bk := D.nx } I4 sg2
        ⟨ρ2, M2, _, dv2, sm2, q2, ⟨fun ρ' M' q σ' H' dv' s' t' => ⟨ρ', M', dv', s', t2.trans t', q⟩, fun d' M' q v' H' r' s' t' => hR d' M' v' H' q r' s' (((t0.trans dn.tr).trans t2).trans t'), fun ρ' M' q σ' H' dv' s' t' => hB ρ' M' σ' H' q dv' s' (((t0.trans dn.tr).trans t2).trans t'), fun ρ' M' q σ' H' dv' s' t' => ⟨ρ', M', dv', s', t2.trans t', q⟩, fun _ _ _ _ h => h.elim⟩⟩
      refine wpAny_mono rb (fun fl s4 ⟨hsp, sg4⟩ => ?_) fun _ _ z => z.1.elim
      have pinX : ∀ {σ4 : St} {H4 : Hp}, InvX X.nox (ovr (B.off fo1) ((g, (End.susp v false l k c pz fs).genState) :: fg1)) (pins ++ ((a, o) :: fo1)) σ4 H4 s4 → Inv X pins σ4 H4 s4 ∧ ∀ y ∈ (a, o) :: fo1, s4.heap.get? y.1 = some y.2 ∧ H4 y.1 = none := fun {σ4 H4} I5 => by
        have I6 := I5.toInv.unwish
        refine ⟨I6.pins_of fun y hy => I6.pin y (List.mem_append_right _ (List.mem_append_left _ hy)), fun y hy => ?_⟩
        obtain ⟨p1, p2, _⟩ := I6.pin y (List.mem_append_right _ (List.mem_append_right _ hy))
        exact ⟨p1, p2⟩
      have quit : ∀ {σ4 : St} {H4 : Hp}, InvX X.nox (ovr (B.off fo1) ((g, (End.susp v false l k c pz fs).genState) :: fg1)) (pins ++ ((a, o) :: fo1)) σ4 H4 s4 → InvX X B pins σ4 H4 s4 ∧ SG B s4 := fun {σ4 H4} I5 => by
        obtain ⟨J4, pin4⟩ := pinX I5
        obtain ⟨g4, d4⟩ := dead_exit (L := G.L) (fun q hq => by
          rcases List.mem_cons.mp hq with e | hq
          · rw [e]; exact hld.b
          · exact (dn.apart q hq).1) sg4 I5.dd (fun q hq => by
          rcases List.mem_cons.mp hq with e | hq
          · rw [e]; exact hun
          · exact hunf q hq) (fun p hp => ⟨(ffo p hp).2.2.2.1, pin4 p (List.mem_cons_of_mem _ hp)⟩) hz
        exact ⟨⟨J4, d4⟩, g4⟩
      have fin : ∀ {σ4 : St} {H4 : Hp}, InvX X.nox (ovr (B.off fo1) ((g, (End.susp v false l k c pz fs).genState) :: fg1)) (pins ++ ((a, o) :: fo1)) σ4 H4 s4 → (∃ ρ' M', DvL X.K H4 σ4 ρ' ∧ Sim X.K H4 M' ∧ Tr H1 M H4 M' ∧ I (i + 1) ρ' M') → Top' X G B pins a g H0 M0 items I (i + 1) s4 := fun {σ4 H4} I5 ⟨ρ4, M4, dv4, sm4, t4, hi4⟩ => by
        have I6 := I5.toInv.unwish
        have gg4 : s4.gens[g]? = some (End.susp v false l k c pz fs).genState := (sg4.sl g _ (by rw [ovr_cons, if_pos rfl])).1
        have pin : ∀ y ∈ (a, o) :: fo1, s4.heap.get? y.1 = some y.2 ∧ H4 y.1 = none := fun y hy => by
          obtain ⟨p1, p2, _⟩ := I6.pin y (List.mem_append_right _ (List.mem_append_right _ hy))
          exact ⟨p1, p2⟩
        refine ⟨(End.susp v false l k c pz fs).genState, o, fo1, fg1, H1, M, σ4, H4, ρ4, M4, I6.pins_of fun y hy => I6.pin y (List.mem_append_right _ (List.mem_append_left _ hy)), dv4, sm4, (t0.trans dn.tr).trans t4, hi4, hlt, ?_, ?_, t4, gg4, sg_run sg4 (fun q hq => Nat.ne_of_gt (by have := (dn.apart q hq).2; rw [hn] at this; exact this)) hld.b, dd_run I5.dd gg4, hz⟩
        · refine ⟨⟨(pin _ List.mem_cons_self).1, o2, ⟨(pin _ List.mem_cons_self).2, fa.2⟩, o4⟩, ?_, fun y hy => ?_, fun q hq => ?_, hld.b, hld.lt⟩
          · obtain ⟨y, hy, e⟩ := List.mem_map.mp hin
            exact ⟨y.2, by have e : y.1 = G.L := e; rw [← e]; exact hy⟩
          · obtain ⟨y1, y2, y3, y4, y5⟩ := ffo y hy
            exact ⟨(pin y (List.mem_cons_of_mem _ hy)).1, ⟨(pin y (List.mem_cons_of_mem _ hy)).2, y2.2⟩, y3, y4, y5⟩
          · have := dn.apart q hq
            rw [hn] at this
            exact this
        · rw [er]
          exact fun B s H M wk' => next B s H M wk'
      cases fl with
      | next => obtain ⟨σ4, H4, I5, q5⟩ := hsp; exact ⟨hlt, fin I5 q5⟩
      | cont => obtain ⟨σ4, H4, I5, q5⟩ := hsp; exact ⟨hlt, fin I5 q5⟩
      | brk => obtain ⟨σ4, H4, I5, q5⟩ := hsp; exact ⟨⟨σ4, H4, (quit I5).1, q5⟩, (quit I5).2⟩
      | ret u => obtain ⟨x4, σ4, H4, I5, r4, q5⟩ := hsp; exact ⟨⟨x4, σ4, H4, (quit I5).1, r4, q5⟩, (quit I5).2⟩
    · obtain ⟨_, _, _, _, _, _, _, _, _, _, z, _⟩ := q; cases z
theorem gn_ok {pins : List (Addr × Obj)} {σ : St} {H : Hp} {s : Shared} (gd : GDef X.K X.mg N ps x scope f cdv body0 fd) (J : Inv X pins σ H s) : (mkG X.prog X.w X.K X.mg X.base N x scope f cdv X.A.in1 X.stack s.heap.objs.size s.gens.size).Ok where
  kind := gd.sc.kind
  glob := rfl
  blt := rfl
  cells := gd.cells _
  frame := rfl
  bsz := Nat.le_trans J.ok.bsz J.sz
  old := fun b hb => by
    obtain ⟨_, o, e, _⟩ := J.stack.mem (show b ∈ frs X.stack from hb)
    exact Heap.lt_size e
  names := gd.names
/-- the generator is made: what follows knows its items -/
theorem made_gen {B : Bk} {pins : List (Addr × Obj)} {s : Shared} {σ : St} {H : Hp} {ρ : DSt} {M : Mem} {a1 : Expr} {es : List Expr} {p cp : Pos} {ta : TDA} {R : List D → Mem → Prop} {E0 : XD} (bl : Blind X.xe) (hr : Room (k + 1) X.A) (go : GOk X N ps x scope f cdv body0 fd k sp) (bd : GBd X.K fd ps n dds) (ha : DAx X W (a1 :: es) ta) (hgl : Gl X x) (hdb : (x == ("__debug__" : Str)) = false) (hst : starEach (a1 :: es) X.env = (false, eval a1 X.env) :: starEach es X.env) (hpl : (backTo cp (starEach es X.env)).any (·.1) = false)
    (J : InvX X B pins σ H s) (sg : SG B s) (dv : DvL X.K H σ ρ) (sm : Sim X.K H M) (q : ta ρ M (fun es M1 => es.length = n ∧ ∃ items, sp (es ++ dds) items ∧ R items M1) E0) (he : wUp X.K W σ H M E0) {Q : Value → Shared → Prop}
    (kk : ∀ a g L items H1 M1 s1, R items M1 → Tr H M H1 M1 → (∀ I : Nat → DSt → Mem → Prop, I 0 ρ M1 → Top' X (mkG X.prog X.w X.K X.mg X.base N x scope f cdv X.A.in1 X.stack L g) B pins a g H1 M1 items I 0 s1) → (∃ o, s1.heap.get? a = some o ∧ o.cls = .type "generator") → Q (.ref a) s1) :
    wpAny (modelX X.prog X.w) X.A (eval (.Call (.Name x p) (a1 :: es) [] cp) X.env) Q (fun e s' => X.xe e s' ∧ SG B s') s := by
  have gd := go.def_
  obtain ⟨dvs, vds, hbd, hvd, hrd, hlen⟩ := bd.ex
  have nm := (PEx.of bl (pe_glob (v := .ref f) (pos := p) hgl gd.mg rfl hdb)).run B pins s σ H (fun v H' => v = .ref f ∧ H' = H) J sg ⟨rfl, rfl⟩
  refine wpAny_Call_Name_kw (wpAny_mono nm (fun u s4 ⟨⟨v4, H4, I4, r4, e4, e5⟩, sg4⟩ => ?_) fun _ _ h => h)
  subst e4 e5
  cases r4
  refine PySem.W.callWith_K (h₀ := X.base) J.ok.mod.kin gd.kp (wpAny_mono (ha.run B cp pins s4 σ H4 (fun vs H1 => ∃ ds M1, Reps X.K H1 vs ds ∧ Sim X.K H1 M1 ∧ Tr H4 M H1 M1 ∧ ds.length = n ∧ ∃ items, sp (ds ++ dds) items ∧ R items M1) I4 sg4 ⟨ρ, M, _, E0, dv, sm, q, fun ds M1 q1 vs H1 r1 s1 t1 => ⟨ds, M1, r1, s1, t1, q1⟩, he⟩) (fun us s5 ⟨⟨vs, H5, I5, rvs, ds5, M5, reps, sm5, t5, len, items, hsp, hR⟩, sg5⟩ => ⟨I5.kIn, ?_⟩) fun _ _ h => h) hst hpl
  obtain ⟨oc, od, params, dV, kV, doc, pm, ct, an, osl, efd, lk⟩ := gd.ex
  subst efd
  have ncs : ∀ y ∈ scope.names, y.2 ≠ .cell := fun y hy e => by
    rcases gd.names y hy with z | z | z <;> (rw [z] at e; cases e)
  have lus : us.length = n := vals_len rvs reps len
  have lvd : vds.length = dds.length := (hrd H5).length
  refine wpAny_hsz (Nat.le_refl s5.heap.objs.size) (born (pins := pins ++ dls B s5) (B := B.now s5) (args := ⟨us, []⟩) (G := mkG X.prog X.w X.K X.mg X.base N x scope f cdv X.A.in1 X.stack s5.heap.objs.size s5.gens.size) I5.pinned sg5.now (hr.mono (Nat.le_succ k)) rfl rfl lk gd.code gd.sc ncs (fun Gs => hbd { s5 with gens := Gs } us I5.kIn lus) (rvs.append hvd) (by rw [List.length_append, reps.length, len, lvd]; exact hlen) fun a s6 I60 sg60 bn hsz => ?_)
  have J6 := I5.behind I60 sg60 hsz
  have I6 := J6.toInv
  have sg6 := sg5.behind sg60
  obtain ⟨oL, eL, fL, cL⟩ := bn.fr
  obtain ⟨oa, ea, goa⟩ := bn.obj
  have hlt : s5.heap.objs.size < a := bn.lt
  have na : H5 a = none := I5.hok.fresh (Nat.le_of_lt hlt)
  have nL : H5 s5.heap.objs.size = none := I5.hok.fresh (Nat.le_refl _)
  have bN : B s5.gens.size = none := by
    cases e : B s5.gens.size with
    | none => rfl
    | some y =>
      have z := (sg5.sl s5.gens.size y e).1
      rw [Array.getElem?_eq_none (Nat.le_refl _)] at z
      cases z
  refine kk a s5.gens.size s5.heap.objs.size items H5 M5 s6 hR t5 (fun I h0 => ?_) ⟨oa, ea, goa.cls⟩
  have fa : FpOk X pins H5 a := I5.fpOk (Nat.le_of_lt hlt) na
  have fL5 : FpOk X pins H5 s5.heap.objs.size := I5.fpOk (Nat.le_refl _) nL
  have offS : SG (B.off [(s5.heap.objs.size, oL)]) s6 := sg6.wide rfl fun i x h1 h2 h3 z => ⟨z, fun b hb p hp e => by
    obtain ⟨z1, z2, z3⟩ := sg60.nl i x h1 h2 h3
    obtain ⟨_, ob, e2, _⟩ := I5.dd.un i x b z1 z2 h3 hb
    have lt := Heap.lt_size e2
    rw [List.mem_singleton.mp hp] at e
    have e : s5.heap.objs.size = b := e
    rw [← e] at lt
    exact absurd lt (Nat.lt_irrefl _)⟩
  have offD : Dd (B.off [(s5.heap.objs.size, oL)]) H5 s6 := ⟨J6.dd.un, fun i x b h1 h2 => ⟨J6.dd.fr i x b h1 h2, fun c hc p hp e => by
    rw [h1] at hc
    cases hc
    rw [List.mem_singleton.mp hp] at e
    have e : s5.heap.objs.size = b := e
    have lt := Heap.lt_size eL
    have lt : s5.heap.objs.size < s6.heap.objs.size := lt
    rw [e] at lt
    exact absurd lt (Nat.not_lt.mpr h2)⟩⟩
  have sz : ∀ b ∈ frs X.stack, b < s5.heap.objs.size := fun b hb => by
    obtain ⟨_, o, e, _⟩ := I5.stack.mem hb
    exact Heap.lt_size e
  refine ⟨.fresh (.func body0 (envOfC x scope s5.heap.objs.size f cdv)), oa, [(s5.heap.objs.size, oL)], [], H5, M5, σ, H5, ρ, M5, I6, dv.mono t5, sm5, Tr.refl _ _, h0, Nat.zero_le _, ⟨⟨ea, goa, fa, hlt⟩, ⟨oL, List.mem_singleton.mpr rfl⟩, fun y hy => ?_, (fun q hq => by cases hq), bN, I5.lt, I5.sz, fun b hb => ?_, fun y c e => ?_⟩, ?_, Tr.refl _ _, bn.gen, sg_set (x := .running) (B := B.off [(s5.heap.objs.size, oL)]) offS bN rfl, dd_set offD rfl, fun i x a e hl => I5.dd.fr i x a e hl⟩
  · rw [List.mem_singleton.mp hy]
    exact ⟨eL, fL5, cL, Nat.le_refl _, Nat.ne_of_lt hlt⟩
  · obtain ⟨_, o, e, _⟩ := I5.funs.mem hb
    exact Heap.lt_size e
  · obtain ⟨v, o, e, _⟩ := I5.cell y c e
    exact Heap.lt_size e
  · rw [List.drop_zero]
    refine go.fresh _ _ hsp (mkG X.prog X.w X.K X.mg X.base N x scope f cdv X.A.in1 X.stack s5.heap.objs.size s5.gens.size) rfl rfl rfl rfl rfl rfl ⟨_, rfl⟩ (gn_ok gd I5.toInv) hr.in1 I5.ok.frames (start N (vs ++ vds)) H5 M5 oL fL ?_
    have rr : Reps X.K H5 (vs ++ vds) (ds5 ++ dds) := reps.append (hrd H5)
    have e : L2.start N (vs ++ vds) = (vs ++ vds).map some ++ List.replicate (N.length - (ds5 ++ dds).length) none := by unfold L2.start; rw [rr.length]
    rw [e]
    exact DvL.start rr _
theorem sx_for {a1 : Expr} {es : List Expr} {p cp pos : Pos} {ta : TDA} {tg : Expr} {tdg : TDG} {body : List Stmt} {tb : TDS} (hc : X.calm = true) (bl : Blind X.xe) (hr : Room (k + 1) X.A) (go : GOk X N ps x scope f cdv body0 fd k sp) (bd : GBd X.K fd ps n dds) (ha : DAx X W (a1 :: es) ta) (hg : DG X.nox tg tdg) (hb : DSsx X.nox W0 body tb) (hgl : Gl X x := by rfl) (hdb : (x == ("__debug__" : Str)) = false := by decide) (hst : starEach (a1 :: es) X.env = (false, eval a1 X.env) :: starEach es X.env := by rfl) (hpl : (backTo cp (starEach es X.env)).any (·.1) = false := by rfl)
    (hfs : ∀ v, foldedSetIterable (.Call (.Name x p) (a1 :: es) [] cp) X.env v = pure v := by intro _; rfl) : DSx X W (.For tg (.Call (.Name x p) (a1 :: es) [] cp) body [] pos) (tdForG sp n dds ta tdg tb) := by
  refine ⟨fun B pins s σ H D J sg ⟨ρ, M, D0, dv, sm, q, eu⟩ => ?_⟩
  refine wpAny_For (made_gen bl hr go bd ha hgl hdb hst hpl J sg dv sm q (eu.w dv) fun a g L items H1 M1 s1 hF t1 tp ⟨o, ho, hcl⟩ => iterX ho hcl ?_) hfs
  unfold ForG at hF
  obtain ⟨I, h0, hI, hd⟩ := hF
  have loop := forX2 (P := X.prog) (w := X.w) (A := X.A) (tg := tg) (it := .ref a) (body := body) (env := X.env) (R := fun f s' => SPX X B pins D f s' ∧ SG B s') (fun m s' => ∃ i, m = items.length - i ∧ Top' X (mkG X.prog X.w X.K X.mg X.base N x scope f cdv X.A.in1 X.stack L g) B pins a g H1 M1 items I i s') (fun m s' hm => by
    obtain ⟨i, em, t⟩ := hm
    refine wpAny_mono (next_top (D := D) (Rt := D0.rt) (Bkk := D0.nx) hc hr.depth rfl rfl rfl rfl rfl rfl rfl rfl hg hb hI (fun ρ' M' σ' H' hi dv' sm' t' => eu.nx ρ' M' (hd ρ' M' hi) σ' H' dv' sm' (t1.trans t')) (fun d' M' v' H' q' r' s' t' => eu.rt d' M' q' v' H' r' s' (t1.trans t')) (fun ρ' M' σ' H' q' dv' sm' t' => eu.nx ρ' M' q' σ' H' dv' sm' (t1.trans t')) t) (fun r s1 h => ?_) fun _ _ z => z
    cases r with
    | none => exact h
    | some v => exact wpAny_mono h (fun _ s2 h => wpAny_mono h (fun _ s3 h => wpAny_mono h (fun f s4 h4 => by
        cases f with
        | next => exact ⟨items.length - (i + 1), by have := h4.1; omega, i + 1, rfl, h4.2⟩
        | cont => exact ⟨items.length - (i + 1), by have := h4.1; omega, i + 1, rfl, h4.2⟩
        | brk => exact h4
        | ret v => exact h4) fun _ _ z => z) fun _ _ z => z) fun _ _ z => z) items.length ⟨0, rfl, tp I h0⟩
  refine codeAny_mono loop fun r s' h => ?_
  cases r with
  | ok f => exact h
  | error e => exact h.elim
end
end XG

/-! XG: statements and expressions through which a consumer is reached. -/
namespace XG
open _root_.PySem L2 GenW TD
open PyProof.Rows (AllBare envOfC isTrue_not isTrue_and isTrue_or isTrue_and_nil isTrue_or_nil BoolOp_one BoolOp_and BoolOp_or UnaryOp_ isTrue_plain not_of)
section
variable {X : Cx} {st : Stmt} {rest a b : List Stmt} {t u : TS} {e e1 e2 c : Expr} {es el : List Expr} {te ta tb : TE} {tt tA tB2 : TT} {tl : TA} {pos : Pos}
theorem InvX.pushed {B : Bk} {pins : List (Addr × Obj)} {σ σ' : St} {H : Hp} {s : Shared} {o : Obj} {ob : HO} (J : InvX X B pins σ H s) (I' : Inv X pins σ' (upd H s.heap.objs.size ob) { s with heap := s.heap.push o }) : InvX X B pins σ' (upd H s.heap.objs.size ob) { s with heap := s.heap.push o } :=
  ⟨I', J.dd.grow rfl (fun a u e q n => ⟨(upd_ne (Nat.ne_of_lt (Heap.lt_size e))).trans n, u, Heap.get?_push_of_some _ e, q⟩) (by show _ ≤ (s.heap.push o).objs.size; rw [push_sz]; exact Nat.le_succ _)⟩
theorem pssx_nil : PSsx X [] tNext := ⟨fun _ _ _ σ H _ J g h => wpAny_execs_nil ⟨⟨σ, H, J, h⟩, g⟩⟩
theorem pssx_cons (h1 : PSx X st t) (h2 : PSsx X rest u) : PSsx X (st :: rest) (tSeq t u) := ⟨fun B pins s σ H D J g h => wpAny_execs_cons (thx (h1.run B pins s σ H { D with nx := u D } J g h) fun f s1 q g1 => by
  cases f with
  | next => obtain ⟨σ', H', J', q⟩ := q; exact h2.run B pins s1 σ' H' D J' g1 q
  | ret v => exact ⟨q, g1⟩
  | brk => exact ⟨q, g1⟩
  | cont => exact ⟨q, g1⟩)⟩
theorem pssx_one (h1 : PSx X st t) : PSsx X [st] t := ⟨fun B pins s σ H D J g h => wpAny_execs_cons (thx (h1.run B pins s σ H D J g h) fun f s1 q g1 => by
  cases f with
  | next => exact wpAny_execs_nil ⟨q, g1⟩
  | ret v => exact ⟨q, g1⟩
  | brk => exact ⟨q, g1⟩
  | cont => exact ⟨q, g1⟩)⟩
theorem psx_if (hc : PTx X c tt) (ha : PSsx X a t) (hb : PSsx X b u) : PSx X (.If c a b pos) (tIfS tt t u) := ⟨fun B pins s σ H D J g h => wpAny_If (thx (hc.run B pins s σ H _ J g h) fun d s1 ⟨H1, J1, q1⟩ g1 => by
  cases d with
  | true => exact ha.run B pins s1 σ H1 D J1 g1 q1
  | false => exact hb.run B pins s1 σ H1 D J1 g1 q1)⟩
theorem psx_ret (he : PEx X e te) : PSx X (.Return (some e) pos) (tRet te) := ⟨fun B pins s σ H D J g h => wpAny_Return_some (thx (he.run B pins s σ H _ J g h) fun v s1 ⟨x, H1, J1, r1, q1⟩ g1 => ⟨⟨x, σ, H1, J1, r1, q1⟩, g1⟩)⟩
theorem psx_asg {tg : Expr} {gt : TG} (he : PEx X e te) (hg : PGx X tg gt) (hs : swapsWithSole [tg] e pos.line X.env = pure false := by rfl) (hw : swappedStores [tg] e X.env = pure none := by rfl) (h1 : (assignEach [tg] X.env).map (·.2) = [assign tg X.env] := by rfl) : PSx X (.Assign [tg] e pos) (tAsg te gt) :=
  ⟨fun B pins s σ H D J g h => wpAny_Assign_stores (thx (he.run B pins s σ H _ J g h) fun v s1 ⟨x, H1, J1, r1, q1⟩ g1 => by
    rw [h1]
    exact thx (hg.run B pins s1 σ H1 x v _ J1 g1 r1 q1) fun _ s2 q g2 => ⟨q, g2⟩) hs hw⟩
/-- name = .. -/
theorem psx_set {i : Nat} {x : Str} {pos' : Pos} (hN : X.N.Nodup) (hi : X.N[i]? = some x) (hx : Loc X.env.scope x) (he : PEx X e te) (hs : swapsWith e (some (.Name x pos')) pos.line X.env = pure false := by rfl) (hf : X.fn x = true ∨ X.env.scope.names.lookup x = some .local := by first | exact .inl rfl | exact .inr rfl | assumption) :
    PSx X (.Assign [.Name x pos'] e pos) (tAsg te (gName i)) :=
  ⟨fun B pins s σ H D J g h => wpAny_Assign_Name (thx (he.run B pins s σ H _ J g h) fun v s1 ⟨y, H1, J1, r1, q1⟩ g1 =>
    upX (Q := fun _ s' => ∃ σ', Inv X (pins ++ dls B s1) σ' H1 s' ∧ D.nx σ' H1) J1 g1 (lift (Q := fun _ s' => ∃ σ', Inv X (pins ++ dls B s1) σ' H1 s' ∧ D.nx σ' H1) (E := fun _ _ => False) J1.bare g1.now (store_ok (inv_poison J1.pinned) hN hi hx r1 (fun s2 J2 => ⟨_, J2, q1⟩) hf) (fun _ s2 G ⟨σ', J2, q⟩ b g2 => ⟨⟨σ', inv_gens J2 b, q⟩, g2⟩) fun _ _ _ z => z.elim) fun _ _ ⟨σ', I', q⟩ k => ⟨σ', H1, k _ _ I', q⟩) hs⟩
/-- two in a row -/
theorem xbin {B : Bk} {pins : List (Addr × Obj)} {s : Shared} {σ : St} {H : Hp} {R : V → V → Hp → Prop} (ha : PEx X e1 ta) (hb : PEx X e2 tb) (J : InvX X B pins σ H s) (g : SG B s) (h : ta σ H fun x H1 => tb σ H1 fun y H2 => R x y H2) {α : Type} {Q : α → Shared → Prop} {f : Value → Value → Sem α}
    (hf : ∀ v u s2 x y H2, InvX X B pins σ H2 s2 → SG B s2 → RelV x v → RelV y u → R x y H2 → RunX X B (f v u) Q s2) :
    wpAny (modelX X.prog X.w) X.A (eval e1 X.env) (fun v s₁ => wpAny (modelX X.prog X.w) X.A (eval e2 X.env) (fun u s₂ => RunX X B (f v u) Q s₂) (fun e s' => X.xe e s' ∧ SG B s') s₁) (fun e s' => X.xe e s' ∧ SG B s') s :=
  thx (ha.run B pins s σ H _ J g h) fun v s1 ⟨x, H1, J1, r1, q1⟩ g1 => thx (hb.run B pins s1 σ H1 _ J1 g1 q1) fun u s2 ⟨y, H2, J2, r2, q2⟩ g2 => hf v u s2 x y H2 J2 g2 r1 r2 q2
theorem opx {f : Value → Value → Sem Value} {r : R2} (bl : Blind X.xe) (ho : OpR X f r) {B : Bk} {pins : List (Addr × Obj)} {s : Shared} {σ : St} {H : Hp} {x y : V} {v u : Value} {Q : VK} (J : InvX X B pins σ H s) (g : SG B s) (rx : RelV x v) (ry : RelV y u) (q : r x y H Q) : RunX X B (f v u) (EPX X B pins σ Q) s :=
  upX J g (Q := EP X (pins ++ dls B s) σ Q) (lift J.bare g.now (ho (pins ++ dls B s) _ σ H x y v u Q (inv_poison J.pinned) rx ry q) (fun _ _ _ z b g => ⟨ep_gens z b, g⟩) fun _ _ _ z b g => ⟨bl _ _ _ z b, g⟩) fun _ _ ⟨v, H', I, r, q⟩ k => ⟨v, H', k _ _ I, r, q⟩
theorem pex_cmp {op : CmpOp} {r : R2} (bl : Blind X.xe) (ho : OpR X (compareOp op) r) (ha : PEx X e1 ta) (hb : PEx X e2 tb) (hm : behindInMarks op e2 = false) : PEx X (.Compare e1 [op] [e2] pos) (tOp r ta tb) :=
  ⟨fun B pins s σ H Q J g h => wpAny_Compare1 (xbin ha hb J g h fun v u s2 x y H2 J2 g2 rx ry q => opx bl ho J2 g2 rx ry q) hm⟩
theorem ptx_cmp {op : CmpOp} {r : R2} (bl : Blind X.xe) (ho : OpR X (compareOp op) r) (ha : PEx X e1 ta) (hb : PEx X e2 tb) (hm : behindInMarks op e2 = false) : PTx X (.Compare e1 [op] [e2] pos) (tTest (tOp r ta tb)) :=
  ⟨fun B pins s σ H Q J g h => wpAny_isTrue_Compare1 (thx (ha.run B pins s σ H _ J g h) fun v s1 ⟨x, H1, J1, r1, q1⟩ g1 => thx (hb.run B pins s1 σ H1 _ J1 g1 q1) fun u s2 ⟨y, H2, J2, r2, q2⟩ g2 => thx (opx bl ho J2 g2 r1 r2 q2) fun cv s3 ⟨z, H3, J3, r3, k, e, q3⟩ g3 => by
    subst e
    cases r3
    exact wpAny_truthy_bool ⟨⟨H3, J3, q3⟩, g3⟩) hm⟩
theorem ptx_val (h : PEx X e te) (he : ∀ whole, isTrue e X.env whole = (do let v ← whole; standAt e.pos; holding [v] (truthy v)) := by intro _; rfl) : PTx X e (tB te) :=
  ⟨fun B pins s σ H Q J g hw => isTrue_plain (thx (h.run B pins s σ H _ J g hw) fun v s1 ⟨x, H1, J1, r1, q1⟩ g1 => by
    obtain ⟨d, rfl, q⟩ := q1
    cases r1
    exact wpAny_truthy_bool ⟨⟨H1, J1, q⟩, g1⟩) (he _)⟩
theorem ptx_not (ha : PTx X e tA) : PTx X (.UnaryOp .Not e pos) (tNot tA) := ⟨fun B pins s σ H Q J g h => isTrue_not (ha.run B pins s σ H (fun c H1 => Q (!c) H1) J g h)⟩
theorem pwx_and1 (ha : PTx X e tA) : PWx X (.BoolOp .And [e] pos) tA := ⟨fun B wh pins s σ H Q J g h => isTrue_and (thx (ha.run B pins s σ H Q J g h) fun c s1 q g1 => by
  cases c with
  | true => exact isTrue_and_nil ⟨q, g1⟩
  | false => exact ⟨q, g1⟩)⟩
theorem pwx_or1 (ha : PTx X e tA) : PWx X (.BoolOp .Or [e] pos) tA := ⟨fun B wh pins s σ H Q J g h => isTrue_or (thx (ha.run B pins s σ H Q J g h) fun c s1 q g1 => by
  cases c with
  | false => exact isTrue_or_nil ⟨q, g1⟩
  | true => exact ⟨q, g1⟩)⟩
theorem pwx_and (ha : PTx X e1 tA) (hb : PWx X (.BoolOp .And (e2 :: es) pos) tB2) : PWx X (.BoolOp .And (e1 :: e2 :: es) pos) (tAnd tA tB2) := ⟨fun B wh pins s σ H Q J g h => isTrue_and (thx (ha.run B pins s σ H _ J g h) fun c s1 ⟨H1, J1, q1⟩ g1 => by
  cases c with
  | true => exact hb.run B wh pins s1 σ H1 Q J1 g1 q1
  | false => exact ⟨⟨H1, J1, q1⟩, g1⟩)⟩
theorem pwx_or (ha : PTx X e1 tA) (hb : PWx X (.BoolOp .Or (e2 :: es) pos) tB2) : PWx X (.BoolOp .Or (e1 :: e2 :: es) pos) (tOr tA tB2) := ⟨fun B wh pins s σ H Q J g h => isTrue_or (thx (ha.run B pins s σ H _ J g h) fun c s1 ⟨H1, J1, q1⟩ g1 => by
  cases c with
  | true => exact ⟨⟨H1, J1, q1⟩, g1⟩
  | false => exact hb.run B wh pins s1 σ H1 Q J1 g1 q1)⟩
theorem pex_one {op : BoolOp} (h : PEx X e te) : PEx X (.BoolOp op [e] pos) te := ⟨fun B pins s σ H Q J g hw => BoolOp_one (h.run B pins s σ H Q J g hw)⟩
theorem pex_and (ha : PEx X e1 ta) (hb : PEx X (.BoolOp .And (e2 :: es) pos) tb) : PEx X (.BoolOp .And (e1 :: e2 :: es) pos) (tAndV ta tb) := ⟨fun B pins s σ H Q J g h => BoolOp_and (thx (ha.run B pins s σ H _ J g h) fun v s1 ⟨x, H1, J1, r1, q1⟩ g1 => by
  obtain ⟨c, rfl, q1⟩ := q1
  cases r1
  refine wpAny_truthy_bool ?_
  cases c with
  | true => exact hb.run B pins s1 σ H1 Q J1 g1 q1
  | false => exact ⟨⟨.bl false, H1, J1, rfl, q1⟩, g1⟩)⟩
theorem pex_or (ha : PEx X e1 ta) (hb : PEx X (.BoolOp .Or (e2 :: es) pos) tb) : PEx X (.BoolOp .Or (e1 :: e2 :: es) pos) (tOrV ta tb) := ⟨fun B pins s σ H Q J g h => BoolOp_or (thx (ha.run B pins s σ H _ J g h) fun v s1 ⟨x, H1, J1, r1, q1⟩ g1 => by
  obtain ⟨c, rfl, q1⟩ := q1
  cases r1
  refine wpAny_truthy_bool ?_
  cases c with
  | false => exact hb.run B pins s1 σ H1 Q J1 g1 q1
  | true => exact ⟨⟨.bl true, H1, J1, rfl, q1⟩, g1⟩)⟩
theorem pex_not (ha : PEx X e ta) : PEx X (.UnaryOp .Not e pos) (tNotV ta) := ⟨fun B pins s σ H Q J g h => UnaryOp_ (thx (ha.run B pins s σ H _ J g h) fun v s1 ⟨x, H1, J1, r1, q1⟩ g1 => by
  obtain ⟨c, rfl, q1⟩ := q1
  cases r1
  exact not_of (wpAny_truthy_bool ⟨⟨.bl (!c), H1, J1, rfl, q1⟩, g1⟩))⟩
theorem pex_if (hc : PTx X c tA) (ha : PEx X e1 ta) (hb : PEx X e2 tb) : PEx X (.IfExp c e1 e2 pos) (tIf tA ta tb) := ⟨fun B pins s σ H Q J g h => wpAny_IfExp (thx (hc.run B pins s σ H _ J g h) fun d s1 ⟨H1, J1, q1⟩ g1 => by
  cases d with
  | true => exact ha.run B pins s1 σ H1 Q J1 g1 q1
  | false => exact hb.run B pins s1 σ H1 Q J1 g1 q1)⟩
theorem pax_nil : PAx X [] tNil := ⟨fun _ _ _ _ _ H Q J g h => Calls.spliced_nil ⟨⟨[], H, J, .nil, h⟩, g⟩⟩
theorem pax_cons (ha : PEx X e te) (hr : PAx X es tl) (hs : starEach (e :: es) X.env = (false, eval e X.env) :: starEach es X.env := by rfl) : PAx X (e :: es) (tCons te tl) := ⟨fun B pos pins s σ H Q J g h => by
  have run : RunX X B (spliced ((false, eval e X.env) :: backTo pos (starEach es X.env))) (APX X B pins σ Q) s :=
    Calls.spliced_cons (thx (ha.run B pins s σ H _ J g h) fun u s1 ⟨x, H1, J1, r1, q1⟩ g1 => thx (hr.run B pos pins s1 σ H1 _ J1 g1 q1) fun us s2 ⟨xs, H2, J2, r2, q2⟩ g2 => ⟨⟨x :: xs, H2, J2, .cons r1 r2, q2⟩, g2⟩)
  rw [hs]
  exact run⟩
theorem pkx_nil : PKx X [] tNil := ⟨fun _ _ _ _ _ H Q J g h => wpAny_evalAll_nil ⟨⟨[], H, J, .nil, h⟩, g⟩⟩
theorem pkx_cons {kws : List Keyword} {nm : Option Str} {kpos : Pos} (ha : PEx X e te) (hr : PKx X kws tl) : PKx X (⟨nm, e, kpos⟩ :: kws) (tCons te tl) := ⟨fun B pos pins s σ H Q J g h => by
  have run : RunX X B (evalAll ((do let v ← eval e X.env; standAt pos; pure v) :: (backToKw pos (keywordEach kws X.env)).map (·.2))) (APX X B pins σ Q) s :=
    wpAny_evalAll_cons (wpAny_bind (thx (ha.run B pins s σ H _ J g h) fun u s1 ⟨x, H1, J1, r1, q1⟩ g1 => wpAny_bind (wpAny_standAt (wpAny_pure (thx (hr.run B pos pins s1 σ H1 _ J1 g1 q1) fun us s2 ⟨xs, H2, J2, r2, q2⟩ g2 => ⟨⟨x :: xs, H2, J2, .cons r1 r2, q2⟩, g2⟩)))))
  exact run⟩
theorem tupX {P : Program} {w : World} {A : Around} {E : Value → Shared → Prop} {s : Shared} {env : Env} {elts : List Expr} {x1 : Nat} {Q : Value → Shared → Prop} (h : wpAny (modelX P w) A (spliced (backTo pos (starEach elts env))) (fun vs s1 => vs.length ≤ sizeLine ∧ Q (.ref s1.heap.objs.size) { s1 with heap := s1.heap.push { cls := .type "tuple", data := .seq vs.toArray } }) E s) : wpAny (modelX P w) A (eval (.Tuple elts x1 pos) env) Q E s := by
  rw [arm_eval_Tuple]
  exact wpAny_bind (wpAny_standAt (wpAny_bind (wpAny_mono h (fun vs s1 z => wpAny_newTuple z.2 z.1) fun _ _ x => x)))
theorem lstX {P : Program} {w : World} {A : Around} {E : Value → Shared → Prop} {s : Shared} {env : Env} {elts : List Expr} {Q : Value → Shared → Prop} (h : wpAny (modelX P w) A (spliced (backTo pos (starEach elts env))) (fun vs s1 => vs.length ≤ sizeLine ∧ Q (.ref s1.heap.objs.size) { s1 with heap := s1.heap.push { cls := .type "list", data := .seq vs.toArray } }) E s) : wpAny (modelX P w) A (eval (.List elts pos) env) Q E s := by
  rw [arm_eval_List]
  exact wpAny_bind (wpAny_standAt (wpAny_bind (wpAny_mono h (fun vs s1 z => wpAny_newList z.2 z.1) fun _ _ x => x)))
theorem pex_tup {x1} (h : PAx X es tl) : PEx X (.Tuple es x1 pos) (tTup tl) := ⟨fun B pins s σ H Q J g hq => tupX (thx (h.run B pos pins s σ H _ J g hq) fun us s1 ⟨xs, H1, J1, r, z, q⟩ g1 => ⟨by rw [← r.length]; exact z, by
  have hf : H1 s1.heap.objs.size = none := J1.hok.fresh (Nat.le_refl _)
  exact ⟨⟨.ref s1.heap.objs.size, upd H1 s1.heap.objs.size (.tup xs), J1.pushed (J1.toInv.laid (t' := s1.toks) (fun b u e => Heap.get?_push_of_some _ e) (Nat.le_refl _) ⟨z, us, r, ⟨_, Heap.get?_push_size _ rfl, rfl, _, rfl⟩⟩), rfl, q _ hf⟩, g1.at rfl⟩⟩)⟩
theorem pex_lst (h : PAx X es tl) : PEx X (.List es pos) (tLst tl) := ⟨fun B pins s σ H Q J g hq => lstX (thx (h.run B pos pins s σ H _ J g hq) fun us s1 ⟨xs, H1, J1, r, z, q⟩ g1 => ⟨by rw [← r.length]; exact z, by
  have hf : H1 s1.heap.objs.size = none := J1.hok.fresh (Nat.le_refl _)
  exact ⟨⟨.ref s1.heap.objs.size, upd H1 s1.heap.objs.size (.lst xs), J1.pushed (J1.toInv.laid (t' := s1.toks) (fun b u e => Heap.get?_push_of_some _ e) (Nat.le_refl _) ⟨z, us, 0, r, Heap.get?_push_size _ rfl⟩), rfl, q _ hf⟩, g1.at rfl⟩⟩)⟩
end
end XG

/-! XG: the rules by data (printed by gen/mkx.py). -/
namespace XG
open _root_.PySem L2 GenW TD
open PyProof.Rows (AllBare envOfC)
theorem PEx.imp {X : Cx} {e : Expr} {t t' : TE} (h : PEx X e t) (k : ∀ σ H Q, t' σ H Q → t σ H Q) : PEx X e t' := ⟨fun B pins s σ H Q J g q => h.run B pins s σ H Q J g (k σ H Q q)⟩
theorem PTx.imp {X : Cx} {e : Expr} {t t' : TT} (h : PTx X e t) (k : ∀ σ H Q, t' σ H Q → t σ H Q) : PTx X e t' := ⟨fun B pins s σ H Q J g q => h.run B pins s σ H Q J g (k σ H Q q)⟩
theorem PWx.imp {X : Cx} {e : Expr} {t t' : TT} (h : PWx X e t) (k : ∀ σ H Q, t' σ H Q → t σ H Q) : PWx X e t' := ⟨fun B w pins s σ H Q J g q => h.run B w pins s σ H Q J g (k σ H Q q)⟩
theorem PAx.imp {X : Cx} {e : List Expr} {t t' : TA} (h : PAx X e t) (k : ∀ σ H Q, t' σ H Q → t σ H Q) : PAx X e t' := ⟨fun B pos pins s σ H Q J g q => h.run B pos pins s σ H Q J g (k σ H Q q)⟩
theorem PKx.imp {X : Cx} {e : List Keyword} {t t' : TA} (h : PKx X e t) (k : ∀ σ H Q, t' σ H Q → t σ H Q) : PKx X e t' := ⟨fun B pos pins s σ H Q J g q => h.run B pos pins s σ H Q J g (k σ H Q q)⟩
theorem PSx.imp {X : Cx} {st : Stmt} {t t' : TS} (h : PSx X st t) (k : ∀ D σ H, t' D σ H → t D σ H) : PSx X st t' := ⟨fun B pins s σ H D J g q => h.run B pins s σ H D J g (k D σ H q)⟩
theorem PSsx.imp {X : Cx} {st : List Stmt} {t t' : TS} (h : PSsx X st t) (k : ∀ D σ H, t' D σ H → t D σ H) : PSsx X st t' := ⟨fun B pins s σ H D J g q => h.run B pins s σ H D J g (k D σ H q)⟩
def DKx (X : Cx) (W : WX) (kws : List Keyword) (t : TDA) : Prop := PKx X kws (upA X.K W t)
section
variable {X : Cx} {W : WX}
theorem dx {e : Expr} {td : TDE} (bl : Blind X.xe) (h : DE X W e td) : DEx X W e td := PEx.of bl h
theorem tx {e : Expr} {td : TDT} (bl : Blind X.xe) (h : DT X W e td) : DTx X W e td := PTx.of bl h
theorem ax {e : List Expr} {td : TDA} (bl : Blind X.xe) (h : DA X W e td) : DAx X W e td := PAx.of bl h
theorem kx {e : List Keyword} {td : TDA} (bl : Blind X.xe) (h : DK X W e td) : DKx X W e td := PKx.of bl h.p
theorem sx {e : Stmt} {td : TDS} (bl : Blind X.xe) (h : DS X W e td) : DSx X W e td := PSx.of bl h
theorem ssx {e : List Stmt} {td : TDS} (bl : Blind X.xe) (h : DSs X W e td) : DSsx X W e td := PSsx.of bl h
theorem DWx.t {e : Expr} {td : TDT} (h : DWx X W e td) : DTx X W e td := PWx.pt h
end
section
variable {X : Cx} {W : WX} {pos : Pos} {a b c e : Expr} {ta tb te : TDE} {tA tB : TDT} {rest es : List Expr} {t : TDA}
theorem dx_cmp {op : CmpOp} {r : R2} {rd : RD2} (bl : Blind X.xe) (ho : OpR X (compareOp op) r) (l : LiftR X.K r rd) (ha : DEx X W a ta) (hb : DEx X W b tb) (hm : behindInMarks op b = false := by first | exact nomark _ | rfl) : DEx X W (.Compare a [op] [b] pos) (tdOp rd ta tb) := PEx.imp (pex_cmp bl ho ha hb hm) fun _ _ _ h => up_two l h
theorem tx_cmp {op : CmpOp} {r : R2} {rd : RD2} (bl : Blind X.xe) (ho : OpR X (compareOp op) r) (l : LiftR X.K r rd) (ha : DEx X W a ta) (hb : DEx X W b tb) (hm : behindInMarks op b = false := by first | exact nomark _ | rfl) : DTx X W (.Compare a [op] [b] pos) (tdTest (tdOp rd ta tb)) :=
  PTx.imp (ptx_cmp bl ho ha hb hm) fun σ H Q h => up_two l (up_test h)
theorem tx_val {t : TDE} (h : DEx X W a t) (he : ∀ whole, isTrue a X.env whole = (do let v ← whole; standAt a.pos; holding [v] (truthy v)) := by intro _; rfl) : DTx X W a (tdTest t) := PTx.imp (ptx_val h he) fun _ _ _ h => up_test h
theorem wx_and1 (h : DTx X W a tA) : DWx X W (.BoolOp .And [a] pos) tA := pwx_and1 h
theorem wx_or1 (h : DTx X W a tA) : DWx X W (.BoolOp .Or [a] pos) tA := pwx_or1 h
theorem wx_and (h : DTx X W a tA) (g : DWx X W (.BoolOp .And (b :: rest) pos) tB) : DWx X W (.BoolOp .And (a :: b :: rest) pos) (tdAnd tA tB) := PWx.imp (pwx_and h g) fun σ H Q ⟨ρ, M, Q0, E0, dv, sm, q, hq, he⟩ => by
  refine ⟨ρ, M, _, E0, dv, sm, q, fun k M1 q1 H1 s1 t1 => ?_, he⟩
  cases k with
  | true =>
    rw [cnd_true] at q1; rw [if_pos rfl]
    exact ⟨ρ, M1, Q0, E0, dv.mono t1, s1, q1, fun k2 M2 q2 H2 s2 t2 => hq k2 M2 q2 H2 s2 (t1.trans t2), he.mono t1⟩
  | false => rw [cnd_false] at q1; rw [if_neg Bool.false_ne_true]; exact hq _ _ q1 H1 s1 t1
theorem wx_or (h : DTx X W a tA) (g : DWx X W (.BoolOp .Or (b :: rest) pos) tB) : DWx X W (.BoolOp .Or (a :: b :: rest) pos) (tdOr tA tB) := PWx.imp (pwx_or h g) fun σ H Q ⟨ρ, M, Q0, E0, dv, sm, q, hq, he⟩ => by
  refine ⟨ρ, M, _, E0, dv, sm, q, fun k M1 q1 H1 s1 t1 => ?_, he⟩
  cases k with
  | false =>
    rw [cnd_false] at q1; rw [if_neg Bool.false_ne_true]
    exact ⟨ρ, M1, Q0, E0, dv.mono t1, s1, q1, fun k2 M2 q2 H2 s2 t2 => hq k2 M2 q2 H2 s2 (t1.trans t2), he.mono t1⟩
  | true => rw [cnd_true] at q1; rw [if_pos rfl]; exact hq _ _ q1 H1 s1 t1
theorem tx_not (h : DTx X W a tA) : DTx X W (.UnaryOp .Not a pos) (tdNot tA) := PTx.imp (ptx_not h) fun σ H Q ⟨ρ, M, Q0, E0, dv, sm, q, hq, he⟩ =>
  ⟨ρ, M, _, E0, dv, sm, q, fun k M1 q1 H1 s1 t1 => hq _ _ q1 H1 s1 t1, he⟩
theorem dx_one {op} (h : DEx X W a ta) : DEx X W (.BoolOp op [a] pos) ta := pex_one h
theorem dx_and (h : DEx X W a ta) (g : DEx X W (.BoolOp .And (b :: rest) pos) tb) : DEx X W (.BoolOp .And (a :: b :: rest) pos) (tdAndV ta tb) := PEx.imp (pex_and h g) fun σ H Q ⟨ρ, M, Q0, E0, dv, sm, q, hq, he⟩ => by
  refine ⟨ρ, M, _, E0, dv, sm, q, fun d M1 q1 v H1 r1 s1 t1 => ?_, he⟩
  cases d <;> try exact q1.elim
  rename_i k
  cases r1
  refine ⟨k, rfl, ?_⟩
  cases k with
  | true => dsimp only at q1; rw [cnd_true] at q1; exact ⟨ρ, M1, Q0, E0, dv.mono t1, s1, q1, hq.mono t1, he.mono t1⟩
  | false => dsimp only at q1; rw [cnd_false] at q1; exact hq _ _ q1 _ H1 (.bl _) s1 t1
theorem dx_or (h : DEx X W a ta) (g : DEx X W (.BoolOp .Or (b :: rest) pos) tb) : DEx X W (.BoolOp .Or (a :: b :: rest) pos) (tdOrV ta tb) := PEx.imp (pex_or h g) fun σ H Q ⟨ρ, M, Q0, E0, dv, sm, q, hq, he⟩ => by
  refine ⟨ρ, M, _, E0, dv, sm, q, fun d M1 q1 v H1 r1 s1 t1 => ?_, he⟩
  cases d <;> try exact q1.elim
  rename_i k
  cases r1
  refine ⟨k, rfl, ?_⟩
  cases k with
  | false => dsimp only at q1; rw [cnd_false] at q1; exact ⟨ρ, M1, Q0, E0, dv.mono t1, s1, q1, hq.mono t1, he.mono t1⟩
  | true => dsimp only at q1; rw [cnd_true] at q1; exact hq _ _ q1 _ H1 (.bl _) s1 t1
theorem dx_not (h : DEx X W a ta) : DEx X W (.UnaryOp .Not a pos) (tdNotV ta) := PEx.imp (pex_not h) fun σ H Q ⟨ρ, M, Q0, E0, dv, sm, q, hq, he⟩ => by
  refine ⟨ρ, M, _, E0, dv, sm, q, fun d M1 q1 v H1 r1 s1 t1 => ?_, he⟩
  cases d <;> try exact q1.elim
  rename_i k
  cases r1
  exact ⟨k, rfl, hq _ _ q1 _ H1 (.bl _) s1 t1⟩
theorem dx_if (h : DTx X W c tA) (ha : DEx X W a ta) (hb : DEx X W b tb) : DEx X W (.IfExp c a b pos) (tdIf tA ta tb) := PEx.imp (pex_if h ha hb) fun σ H Q ⟨ρ, M, Q0, E0, dv, sm, q, hq, he⟩ => by
  refine ⟨ρ, M, _, E0, dv, sm, q, fun k M1 q1 H1 s1 t1 => ?_, he⟩
  cases k with
  | true => rw [cnd_true] at q1; rw [if_pos rfl]; exact ⟨ρ, M1, Q0, E0, dv.mono t1, s1, q1, hq.mono t1, he.mono t1⟩
  | false => rw [cnd_false] at q1; rw [if_neg Bool.false_ne_true]; exact ⟨ρ, M1, Q0, E0, dv.mono t1, s1, q1, hq.mono t1, he.mono t1⟩
theorem ax_nil : DAx X W [] tdNil := PAx.imp pax_nil fun σ H Q ⟨ρ, M, Q0, E0, dv, sm, q, hq, he⟩ => hq _ _ q _ H .nil sm (Tr.refl H M)
theorem ax_cons (ha : DEx X W e te) (hr : DAx X W es t) (hs : starEach (e :: es) X.env = (false, eval e X.env) :: starEach es X.env := by rfl) : DAx X W (e :: es) (tdCons te t) := PAx.imp (pax_cons ha hr hs) fun σ H Q ⟨ρ, M, Q0, E0, dv, sm, q, hq, he⟩ => by
  refine ⟨ρ, M, _, E0, dv, sm, q, fun d M1 q1 v H1 r1 s1 t1 => ?_, he⟩
  refine ⟨ρ, M1, _, E0, dv.mono t1, s1, q1, fun ds M2 q2 vs H2 r2 s2 t2 => ?_, he.mono t1⟩
  exact hq _ _ q2 _ H2 (.cons (r1.mono t2) r2) s2 (t1.trans t2)
theorem dx_tup {x1} (h : DAx X W es t) : DEx X W (.Tuple es x1 pos) (tdTup t) := PEx.imp (pex_tup h) fun σ H Q ⟨ρ, M, Q0, E0, dv, sm, q, hq, he⟩ => by
  refine ⟨ρ, M, _, E0, dv, sm, q, fun ds M1 q1 vs H1 r1 s1 t1 => ?_, he⟩
  exact ⟨by rw [r1.length]; exact q1.1, fun p hp => tupNew s1 r1 (hq.mono t1) q1.2 hp⟩
theorem dx_lst (h : DAx X W es t) : DEx X W (.List es pos) (tdLst t) := PEx.imp (pex_lst h) fun σ H Q ⟨ρ, M, Q0, E0, dv, sm, q, hq, he⟩ => by
  refine ⟨ρ, M, _, E0, dv, sm, q, fun ds M1 q1 vs H1 r1 s1 t1 => ?_, he⟩
  exact ⟨by rw [r1.length]; exact q1.1, fun p hp => lstNew s1 r1 (hq.mono t1) q1.2 hp⟩
end
section
variable {X : Cx} {W : WX} {st : Stmt} {rest : List Stmt} {t u : TDS} {e : Expr} {te : TDE} {pos : Pos}
theorem ssx_nil : DSsx X W [] tdNext := PSsx.imp pssx_nil fun D σ H ⟨ρ, M, D0, dv, sm, q, eu⟩ => eu.nx ρ M q σ H dv sm (Tr.refl H M)
theorem ssx_cons (h1 : DSx X W st t) (h2 : DSsx X W rest u) : DSsx X W (st :: rest) (tdSeq t u) := PSsx.imp (pssx_cons h1 h2) fun D σ H ⟨ρ, M, D0, dv, sm, q, eu⟩ => by
  unfold tdSeq at q
  obtain ⟨mid, q, hm⟩ := q
  exact ⟨ρ, M, _, dv, sm, q, eu.seq hm⟩
theorem ssx_one (h1 : DSx X W st t) : DSsx X W [st] t := PSsx.imp (pssx_one h1) fun _ _ _ h => h
theorem sx_if {c : Expr} {a b : List Stmt} {tc : TDT} (hc : DTx X W c tc) (ha : DSsx X W a t) (hb : DSsx X W b u) : DSx X W (.If c a b pos) (tdIfS tc t u) := PSx.imp (psx_if hc ha hb) fun D σ H ⟨ρ, M, D0, dv, sm, q, eu⟩ => by
  refine ⟨ρ, M, _, _, dv, sm, q, fun k M1 q1 H1 s1 t1 => ?_, eu.w dv⟩
  cases k with
  | true => rw [cnd_true] at q1; rw [if_pos rfl]; exact ⟨ρ, M1, D0, dv.mono t1, s1, q1, eu.mono t1⟩
  | false => rw [cnd_false] at q1; rw [if_neg Bool.false_ne_true]; exact ⟨ρ, M1, D0, dv.mono t1, s1, q1, eu.mono t1⟩
theorem sx_ret (he : DEx X W e te) : DSx X W (.Return (some e) pos) (tdRet te) := PSx.imp (psx_ret he) fun D σ H ⟨ρ, M, D0, dv, sm, q, eu⟩ => ⟨ρ, M, _, _, dv, sm, q, eu.rt, eu.w dv⟩
theorem sx_asg {tg : Expr} {g : TDG} (he : DEx X W e te) (bl : Blind X.xe) (hg : DG X tg g) (hs : swapsWithSole [tg] e pos.line X.env = pure false := by rfl) (hw : swappedStores [tg] e X.env = pure none := by rfl)
    (h1 : (assignEach [tg] X.env).map (·.2) = [assign tg X.env] := by rfl) : DSx X W (.Assign [tg] e pos) (tdAsg te g) := PSx.imp (psx_asg he (PGx.of bl hg) hs hw h1) fun D σ H h => up_asg (fun _ _ _ _ h => h) h
theorem sx_set (i : Nat) {x : Str} {pos' : Pos} (hN : X.N.Nodup) (he : DEx X W e te) (hi : X.N[i]? = some x := by rfl) (hx : Loc X.env.scope x := by first | exact .inl rfl | exact .inr rfl) (hs : swapsWith e (some (.Name x pos')) pos.line X.env = pure false := by rfl) (hf : X.fn x = true ∨ X.env.scope.names.lookup x = some .local := by first | exact .inl rfl | exact .inr rfl) :
    DSx X W (.Assign [.Name x pos'] e pos) (tdAsg te (gdName i)) := PSx.imp (psx_set hN hi hx he hs hf) fun D σ H h => up_asg (fun v σ H Q ⟨ρ, M, d, Q0, dv, sm, r, q, f⟩ => f _ _ q _ H (dv.set r i) sm (Tr.refl H M)) h
end
end XG

/-! XG: defs that reach a consumer. -/
namespace XG
open _root_.PySem L2 GenW TD
open PyProof.Rows (AllBare envOfC)
section
variable {P : Program} {w : World} {K : PySem.W.Frag} {mg : Str → Option Value} {base : Heap} {x : Str} {st : Stmt} {k j : Nat} {ps : List Str}
/-- whom the dead sleep over, in the ground Bh of an exception -/
structure DdE (B : Bk) (H : Hp) (Bh : Heap) (s : Shared) : Prop where
  un : ∀ i x a, B i = none → s.gens[i]? = some x → loudG x = true → delegG x = some a → H a = none ∧ ∃ o, Bh.get? a = some o ∧ isGenO o = true
  fr : ∀ i x a, delegG x = some a → s.heap.objs.size ≤ a → B.z i x
theorem DdE.dd {B : Bk} {H : Hp} {Bh : Heap} {s : Shared} (d : DdE B H Bh s) (st : Bh.StaysIn s.heap) : Dd B H s := ⟨fun i x a h1 h2 h3 h4 => let ⟨n, o, e, g⟩ := d.un i x a h1 h2 h3 h4; ⟨n, o, st _ _ e, g⟩, d.fr⟩
/-- behind a call that let an exception out -/
def CXX (P : Program) (w : World) (outer : List Env) (B : Bk) (H : Hp) (s : Shared) (E : XK) (u : Value) (s' : Shared) : Prop :=
  ∃ (a : Addr) (Bh : Heap) (H' : Hp) (cls : Value) (d : Option Addr), u = .ref a ∧ HandSPX.FlyingZ Bh outer a (Zc cls d) s'.heap ∧ HOk P w H' Bh ∧ UB (frs outer) H H' s.heap Bh s'.heap ∧ H' a = none ∧ s'.os = s.os ∧ AllBare s'.gens ∧ DdE B H' Bh s' ∧ E cls d H'
theorem CXX.cx {B : Bk} {outer : List Env} {H : Hp} {s s' : Shared} {E : XK} {u : Value} (h : CXX P w outer B H s E u s') : L2.CX P w outer H s E u s' := let ⟨a, Bh, H', cls, d, h1, h2, h3, h4, h5, h6, h7, _, h9⟩ := h; ⟨a, Bh, H', cls, d, h1, h2, h3, h4, h5, h6, h7, h9⟩
def CRX (outer : List Env) (P : Program) (w : World) (B : Bk) (H : Hp) (s : Shared) (Q : VK) (E : XK) (r : Result) (s' : Shared) : Prop :=
  match r with
  | .ok (.ret u) => CE outer P w H s (fun v H' => Q v H' ∧ Dd B H' s') u s'
  | .ok _ => False
  | .error e => CXX P w outer B H s E e s'
structure FnOkX (P : Program) (w : World) (K : PySem.W.Frag) (mg : Str → Option Value) (base : Heap) (k : Nat) (f : Addr) (fd : FuncData) (ps : List Str) (sp : Sp) : Prop where
  run : ∀ (B : Bk) (A : Around) (outer : List Env) (s : Shared) (H : Hp) (args : Args) (us : List Value) (vs : List V) (Q : VK) (E : XK), Room k A → Env0 P w K mg base A outer s H → SG B s → Dd B H s → (∀ G : Array GenState, BindsTo { s with gens := G } fd args (ps.zip us)) → Vals vs us → sp vs H Q E →
    codeAny (modelX P w) A (.call (.ref f) args) (fun r s' => CRX outer P w B H s Q E r s' ∧ SG B s') s
theorem dls_apart {B : Bk} {A : Around} {outer : List Env} {H : Hp} {s : Shared} (e0 : Env0 P w K mg base A outer s H) (d : Dd B H s) {p : Addr × Obj} (hp : p ∈ dls B s) : s.heap.get? p.1 = some p.2 ∧ H p.1 = none ∧ p.1 ∉ frs outer := by
  obtain ⟨i, x, h1, h2, h3, h4, h5⟩ := mem_dls hp
  obtain ⟨n, o, e, gn⟩ := d.un i x p.1 h1 h2 h3 h4
  rw [h5] at e
  cases e
  obtain ⟨vs, ed⟩ := gen_fields gn
  exact ⟨h5, n, fun hb => by
    obtain ⟨_, ob, e2, hd⟩ := e0.funs.mem hb
    rw [h5] at e2; cases e2
    exact hd vs ed⟩
/-- a plain call, at the quiet model -/
theorem crx_of {B : Bk} {A : Around} {outer : List Env} {H : Hp} {s s1 : Shared} {Q : VK} {E : XK} {r : Result} {G : Array GenState} (e0 : Env0 P w K mg base A outer s H) (d : Dd B H s) (g : SG (B.now s) { s1 with gens := G }) (b : AllBare s1.gens → AllBare G) (sz : s.heap.objs.size ≤ s1.heap.objs.size) (h : CR (L2.CX P w) outer P w H s Q E r s1) : CRX outer P w B H s Q E r { s1 with gens := G } := by
  cases r with
  | error e =>
    obtain ⟨a, Bh, H', cls, dd, e1, fl, hok, ub, na, os, ag, hE⟩ := h
    refine ⟨a, Bh, H', cls, dd, e1, fl, hok, ub, na, os, b ag, ⟨fun i x c h1 h2 h3 h4 => ?_, fun i x c h1 h2 => d.fr i x c h1 (Nat.le_trans sz h2)⟩, hE⟩
    obtain ⟨z1, z2, z3⟩ := g.nl i x h1 h2 h3
    obtain ⟨n, o, e, q⟩ := d.un i x c h1 z2 h3 h4
    obtain ⟨k1, k2, k3⟩ := dls_apart e0 d (dls_mem h1 z2 h3 h4 e)
    exact ⟨ub.free _ _ e n, o, ub.keep _ _ e n k3, q⟩
  | ok f =>
    cases f with
    | ret u =>
      obtain ⟨v, H', os, ag, un, hok, r, q⟩ := h
      refine ⟨v, H', os, b ag, un, hok, r, q, d.behind g (fun p hp => ?_) sz⟩
      obtain ⟨h5, n, nst⟩ := dls_apart e0 d hp
      exact ⟨un.free _ _ h5 n (by intro z; cases z), un.keep _ _ h5 n nst (by intro z; cases z)⟩
    | next => exact h
    | brk => exact h
    | cont => exact h
theorem FnOkX.of {f : Addr} {fd : FuncData} {sp : Sp} (F : FnOk P w K mg base (L2.CX P w) k f fd ps sp) : FnOkX P w K mg base k f fd ps sp := ⟨fun B A outer s H args us vs Q E hr e0 sg dd hb hv hs =>
  codeAny_hsz (Nat.le_refl _) (liftC e0.bare sg.now (F.run A outer { s with gens := asleepG s } H args us vs Q E hr ⟨e0.frames, e0.mod, e0.bs, e0.bsz, e0.funs, e0.frf, e0.hok, bare_poison e0.bare⟩ (hb _) hv hs) fun r s1 G q b g hsz => ⟨crx_of (s := s) e0 dd g b hsz q, sg.behind g⟩)⟩
/-- a def of the text keeps a promise by data, at the quiet model -/
structure OkX (P : Program) (w : World) (K : PySem.W.Frag) (mg : Str → Option Value) (base : Heap) (x : Str) (st : Stmt) (k : Nat) (ps : List Str) (spd : SpD) : Prop where
  ex : ∃ f fd, L2.Fun K x x st f fd ∧ mg x = some (.ref f) ∧ FnOkX P w K mg base k f fd ps (upF K spd)
theorem OkX.of {spd : SpD} (o : Ok P w K mg base x st k ps spd) : OkX P w K mg base x st k ps spd := let ⟨f, fd, a, b, c⟩ := o.ex; ⟨f, fd, a, b, .of c⟩
theorem OkX.mono {spd : SpD} (o : OkX P w K mg base x st j ps spd) (h : j ≤ k) : OkX P w K mg base x st k ps spd := let ⟨f, fd, a, b, c⟩ := o.ex
  ⟨f, fd, a, b, ⟨fun B A outer s H args us vs Q E hr => c.run B A outer s H args us vs Q E (hr.mono h)⟩⟩
theorem OkX.imp {spd spd' : SpD} (o : OkX P w K mg base x st k ps spd) (h : ∀ ds M Q E, spd' ds M Q E → spd ds M Q E) : OkX P w K mg base x st k ps spd' := let ⟨f, fd, a, b, c⟩ := o.ex
  ⟨f, fd, a, b, ⟨fun B A outer s H args us vs Q E hr e0 sg dd hb hv ⟨ds, M, Q0, E0, r, s, q, hq, he⟩ => c.run B A outer _ H args us vs Q E hr e0 sg dd hb hv ⟨ds, M, Q0, E0, r, s, h _ _ _ _ q, hq, he⟩⟩⟩
/-! ### the codes -/
theorem codeX_func {A : Around} {body : List Stmt} {env : Env} {R : Result → Shared → Prop} {s : Shared}
    (h : wpAny (modelX P w) (A.deeper env) (execs body env) (fun f s' => R (.ok (.ret (match f with | .ret v => v | _ => .none))) s') EF s) : codeAny (modelX P w) A (.func body env) R s := by
  refine codeAny_of_tree ?_
  show wpAny (modelX P w) (A.deeper env) (do point; match ← (execs body env).onRaise (leaving env) with | .ret v => ret v | _ => ret .none) _ _ s
  exact wpAny_bind (wpAny_point (wpAny_bind (wpAny_onRaise (wpAny_mono h (fun f s' z => by cases f <;> exact wpAny_pure z) fun _ _ z => z.elim))))
theorem codeX_def {A : Around} {a : Addr} {args : Args} {o : Obj} {fd : FuncData} {body : List Stmt} {R : Result → Shared → Prop} {s : Shared} (hd : A.depth < recursionLimit) (ho : s.heap.get? a = some o) (hf : o.data = .func fd) (h1 : fd.scope.isCoroutine = false) (h2 : fd.scope.isGenerator = false) (h3 : fd.body = .stmts body) (h4 : s.heap.CodeRec fd.code fd.qualname)
    (h : wpAny (modelX P w) A.in1 (bindArgs fd args) (fun bs s1 => wpAny (modelX P w) A.in1 (newFunctionEnv fd.scope fd.globals fd.closure bs (fd.qualname ++ ".<locals>.") (some a) fd.code none fd.builtins) (fun env s2 => s2.heap.NoLimit ∧ codeAny (modelX P w) A (.func body env) R s2) (fun e s' => R (.error e) s') s1) (fun e s' => R (.error e) s') s) :
    codeAny (modelX P w) A (.call (.ref a) args) R s := by
  refine codeAny_of_tree ?_
  show wpAny (modelX P w) A.in1 (callAny (.ref a) args) _ _ s
  simp only [callAny]
  obtain ⟨c, oc, vs, tq, e1, e2, e3, e4⟩ := h4
  refine wpAny_bind (wpAny_load ho ?_)
  rw [e1] at h
  simp only [hf, callFunction, h1, h2, h3, e1]
  exact wpAny_bind (m := field (.ref c) 1) (wpAny_field e2 e3 e4 (wpAny_bind (wpAny_pure (wpAny_bind (wpAny_mono h (fun bs s1 z1 => wpAny_bind (wpAny_mono z1 (fun env s2 z2 => wpAny_bind (wpAny_enterFrame z2.1 hd (wpAny_pure ⟨rfl, z2.2⟩))) fun _ _ z => z)) fun _ _ z => z)))))
/-- no exception leaves these defs -/
abbrev E0 : XK := fun _ _ _ => False
/-- THE RULE: a def that raises nothing, by its body -/
theorem okx_of {spd : SpD} (a : At K mg x st) {N : List Str} (S : FnScope N ps (defScope st)) (m : Nat) (hm' : N.length - ps.length = m) (len : ∀ ds M Q E, spd ds M Q E → ds.length = ps.length)
    (body : ∀ (f : Addr) (cd : Value) (A : Around) (outer : List Env) (s : Shared) (H : Hp), Room k (Xd P w K mg base N x (defScope st) f cd A outer s H E0).nox.A →
      ∃ td, DSsx (Xd P w K mg base N x (defScope st) f cd A outer s H E0).nox W0 (defBody st) td ∧ ∀ ds M Q E, spd ds M Q E → td (dEnds Q fun _ _ _ => False) (ds.map some ++ List.replicate m none) M) : OkX P w K mg base x st (k + 1) ps spd := by
  subst hm'
  obtain ⟨f, fd, F, hm⟩ := a.ex
  refine ⟨f, fd, F, hm, ⟨fun B A outer s H args us vs Q E hr e0 sg dd hb hv hsp => ?_⟩⟩
  obtain ⟨ds, M, Q0, E0', r, sm, q, hq, he⟩ := hsp
  obtain ⟨oc, od, kV, doc, pm, an, cdv, ct, osl, efd, lk, hcd⟩ := F.ex
  subst efd
  have hl : vs.length = ps.length := r.length.trans (len _ _ _ _ q)
  have KX : K.In s.heap := e0.mod.kin.keeps fun b o e => (e0.bs b o e).1
  have lim : s.heap.NoLimit := e0.mod.nolimit.keeps fun b o e => (e0.bs b o e).1
  have hkind : ∀ y ∈ ps.zip us, (defScope st).names.lookup y.1 = some .local ∨ ((defScope st).names.lookup y.1 = some .cell ∧ ((cellsFrom (s.heap.objs.size + 1) (defScope st).names []).lookup y.1).isSome = true) := fun ⟨n, v⟩ hy => by
    rcases S.par n (List.of_mem_zip hy).1 with z | z
    · exact .inl z
    · exact .inr ⟨z, PySem.W.cellsFrom_some _ _ _ (.inl z)⟩
  refine codeX_def hr.depth (KX _ _ lk) rfl S.co S.gen rfl (PySem.W.codeRec_of KX hcd) (hb s.gens _ _ _ _ ?_)
  refine wpAny_newFunctionEnv_cells S.kind hkind fun env he' s1 xc => ?_
  subst he'
  obtain ⟨td, h1, h2⟩ := body f cdv A outer s H (hr.deeper _)
  have J : Inv (Xd P w K mg base N x (defScope st) f cdv A outer s H E0) [] (L2.start N vs) H s1 := inv_start S hr.hd e0 hl hv xc
  have sg1 : SG B s1 := by
    obtain ⟨h', tk, es, _⟩ := xc.done
    exact sg.at (by rw [es])
  have dd1 : Dd B H s1 := dd.grow (by obtain ⟨h', tk, es, _⟩ := xc.done; rw [es]) (fun a o e q n => ⟨n, o, xc.toInCall.keep a o e, q⟩) (Nat.le_of_lt xc.toInCall.ns.lt)
  refine ⟨lim.keeps xc.toInCall.keep, codeX_func ?_⟩
  refine wpAny_mono (h1.run B [] s1 (L2.start N vs) H { nx := fun _ H' => Q .non H', rt := Q } ⟨J.wish _, dd1⟩ sg1 ⟨ds.map some ++ List.replicate (N.length - ps.length) none, M, dEnds Q0 (fun _ _ _ => False), ?_, sm, h2 ds M Q0 _ q, ⟨?_, ?_, ?_, ?_, ?_⟩⟩) (fun fl s' hs => ?_) fun e s' z => z.1.elim
  · have e : (L2.start N vs) = vs.map some ++ List.replicate (N.length - ps.length) none := by unfold L2.start; rw [r.length, len _ _ _ _ q]
    rw [e]
    exact DvL.start r _
  · rintro ρ' M' ⟨M0, le, z⟩ σ' H' dv' s' t'
    exact hq _ _ z _ H' .non (s'.le le) (t'.le le)
  · rintro d M' ⟨M0, le, z⟩ v H' r' s' t'
    exact hq _ _ z _ H' r' (s'.le le) (t'.le le)
  · rintro ρ' M' z; exact z.elim
  · rintro ρ' M' z; exact z.elim
  · rintro c g ρ' M' ⟨_, _, z⟩; exact z.elim
  · obtain ⟨hs, sg2⟩ := hs
    cases fl with
    | ret u => obtain ⟨v, σ', H', J', rv, z⟩ := hs; exact ⟨⟨v, H', J'.os, J'.bare, J'.base, J'.hok, rv, z, J'.dd⟩, sg2⟩
    | next => obtain ⟨σ', H', J', z⟩ := hs; exact ⟨⟨.non, H', J'.os, J'.bare, J'.base, J'.hok, rfl, z, J'.dd⟩, sg2⟩
    | brk => obtain ⟨_, _, _, z⟩ := hs; exact z.elim
    | cont => obtain ⟨_, _, _, z⟩ := hs; exact z.elim
end
end XG


/-! XG: the law's end. -/
namespace XG
open _root_.PySem L2 GenW TD
open PyProof.Rows (AllBare envOfC)
/-- nobody sleeps at first -/
def B0 : Bk := ⟨fun _ => none, fun _ x => ∃ a, delegG x = some a⟩
theorem sg_none {s : Shared} (h : s.gens = #[]) : SG B0 s := ⟨(fun i x e => by cases e), fun i x _ e => by rw [h] at e; simp at e⟩
theorem dd_none {s : Shared} {H : Hp} (h : s.gens = #[]) : Dd B0 H s := ⟨fun i x a _ e => by rw [h] at e; simp at e, fun i x a e _ => ⟨a, e⟩⟩
theorem sure_of {s : Shared} {H : Hp} (g : SG B0 s) (d : Dd B0 H s) : SureG s := fun i x e l => by
  obtain ⟨a, ha⟩ := g.nl i x rfl e l
  obtain ⟨_, o, h1, h2⟩ := d.un i x a rfl e l ha
  exact ⟨a, o, ha, h1, h2⟩
/-- the law's def, called with its script -/
theorem law_callX {P : Program} {w : World} {K : PySem.W.Frag} {mg mb : Str → Option Value} {k : Nat} {fa a : Addr} {fd : FuncData} {x : Str} {s1 : Shared} {vs : List Value} {ns : List Int} (KX : K.In s1.heap) (hns : s1.heap.Ns mainGlobals mg) (hb : s1.heap.Ns builtinsNs mb) (hbb : ∀ x : Str, x ≠ "__name__" → mb x = bootBuiltins x) (hlim : s1.heap.NoLimit) (hg : s1.gens = #[])
    (ha : s1.heap.get? a = some { cls := .type "list", data := .seq vs.toArray }) (hi : Vals (ns.map V.int) vs) (hl : ns.length ≤ 63) (hr : Room k callerA) (F : ∀ base : Heap, K.In base → base.Ns mainGlobals mg → FnOkX P w K mg base k fa fd [x] (upF K spLaw)) (hbind : ∀ (s : Shared) (u : Value), BindsTo s fd ⟨[u], []⟩ [(x, u)]) :
    codeAny (modelX P w) callerA (.call (.ref fa) ⟨[.ref a], []⟩) (fun r s' => r = .ok (.ret (.bool true)) ∧ OldK s1.heap s'.heap ∧ s'.os = s1.os ∧ AllBare s'.gens ∧ SureG s') s1 := by
  have hl2 : ns.length ≤ sizeLine := Nat.le_trans hl (by decide)
  have lenV : vs.length = ns.length := by rw [← hi.length, List.length_map]
  have go : ∀ H : Hp, (∀ b u, H b = some u → b = a ∧ u = .frz { cls := .type "list", data := .seq vs.toArray } (.lst (ns.map V.int)) ∧ K.lookup a = none) → SqLR K H a (ns.map V.int) →
      codeAny (modelX P w) callerA (.call (.ref fa) ⟨[.ref a], []⟩) (fun r s' => r = .ok (.ret (.bool true)) ∧ OldK s1.heap s'.heap ∧ s'.os = s1.os ∧ AllBare s'.gens ∧ SureG s') s1 := fun H hH hS => by
    have hok : HOk P w H s1.heap := fun b u e => by
      obtain ⟨e1, e2, _⟩ := hH b u e
      subst e1 e2
      exact ⟨ha, by rw [List.length_map]; exact hl2, vs, _, hi, ha⟩
    have free : ∀ {b : Addr} {o : Obj}, s1.heap.get? b = some o → (b = a → False) → (hidT s1.heap H).get? b = some o := fun {b o} e n => hidT_get e (by
      cases z : H b with
      | none => rfl
      | some u => exact (n (hH b u z).1).elim)
    have ns' : ∀ {b : Addr} {m : Str → Option Value}, s1.heap.Ns b m → (hidT s1.heap H).Ns b m := fun {b m} ⟨o, es, ep, e, d, r⟩ => ⟨o, es, ep, free e (fun z => by rw [z, ha] at e; cases e; cases d), d, r⟩
    have Kb : K.In (hidT s1.heap H) := fun b o e => hidT_get (KX b o e) (by
      cases z : H b with
      | none => rfl
      | some u =>
        obtain ⟨z1, _, z3⟩ := hH b u z
        rw [z1, z3] at e; cases e)
    have e0 : Env0 P w K mg (hidT s1.heap H) callerA [] s1 H := ⟨rfl, ⟨Kb, ns' hns, ⟨mb, ns' hb, hbb⟩, let ⟨mc, h1, h2⟩ := hlim; ⟨mc, ns' h1, h2⟩⟩, fun b o e => of_hidT e, Nat.le_of_eq (hidT_size _ _), trivial, fun b hb => (by cases hb), hok, .of_eq hg⟩
    have sp : upF K spLaw [.ref a] H (fun v _ => v = .bl true) (fun _ _ _ => False) := ⟨[.rol (ns.map D.int)], fun _ => none, fun v _ => v = .bl true, fun _ _ _ => False, .cons (.rol hS (reps_ints ns)) .nil, fun b o h => (nomatch h), ⟨ns, rfl, hl, fun _ => rfl⟩, fun d M' e v H' r _ _ => (by subst e; cases r; rfl), fun c f M' h => h.elim⟩
    refine codeAny_mono ((F _ Kb (ns' hns)).run B0 callerA [] s1 H ⟨[.ref a], []⟩ [.ref a] [.ref a] _ _ hr e0 (sg_none hg) (dd_none hg) (fun G => hbind _ _) (.cons rfl .nil) sp) fun r s' ⟨h, sg⟩ => ?_
    cases r with
    | error e => obtain ⟨_, _, _, _, _, _, _, _, _, _, _, _, _, z⟩ := h; exact z.elim
    | ok fl =>
      cases fl with
      | next => exact h.elim
      | brk => exact h.elim
      | cont => exact h.elim
      | ret u =>
        obtain ⟨v, H', os, bare, un, hok', rv, q, dd⟩ := h
        subst q
        cases rv
        refine ⟨rfl, OldK.of_keep fun b o e => ?_, os, bare, sure_of sg dd⟩
        cases z : H b with
        | none => exact un.keep b o e z (fun y => by cases y) (fun y => by cases y)
        | some u =>
          obtain ⟨z1, z2, _⟩ := hH b u z
          subst z1 z2
          obtain ⟨y1, _⟩ := hok' b _ (un.frzs b _ _ z)
          rw [ha] at e; cases e
          exact y1
  cases hk : K.lookup a with
  | some o =>
    have e := KX a o hk
    rw [ha] at e
    cases e
    exact go (fun _ => none) (fun b u z => by cases z) (.inr (.inr ⟨_, vs.toArray, _, hk, rfl, rfl, rfl, by rw [List.size_toArray, lenV]; exact hl2, by simpa using hi⟩))
  | none =>
    refine go (fun b => if b = a then some (.frz { cls := .type "list", data := .seq vs.toArray } (.lst (ns.map V.int))) else none) (fun b u z => ?_) (.inl ⟨_, if_pos rfl⟩)
    by_cases hb : b = a
    · rw [if_pos hb] at z; cases z; exact ⟨hb, rfl, hk⟩
    · rw [if_neg hb] at z; cases z
theorem walk_lawX {l : PySem.W.OpenLaw} {k : Nat} {q : Program} {loose : List Str} {XP : (Str → Option Value) → Heap → Prop} {YP : World → Heap → Prop} {d : DefRec} {K : Params → PySem.W.Frag} {x : Str} (hn : l.most = some 63) (hdf : d.params.defaults = []) (hr : Room k callerA) (hY : ∀ (w : World) (h : Heap), YP w h → (K w.params).In h)
    (F : ∀ (w : World) (mg : Str → Option Value) (fa : Addr) (h : Heap), (K w.params).In h → h.Ns mainGlobals mg → mg d.name = some (.ref fa) → ∃ fd : FuncData, (∀ (s : Shared) (u : Value), BindsTo s fd ⟨[u], []⟩ [(x, u)]) ∧ ∀ base : Heap, (K w.params).In base → base.Ns mainGlobals mg → FnOkX l.prog w (K w.params) mg base k fa fd [x] (upF (K w.params) spLaw)) :
    WalkX q loose XP YP l.row.toRowW d [] (fun f vs => PySem.call f vs) := by
  intro w s0 s1 mg mb fa o pm cd doc dV kV args vals as g
  obtain ⟨a, vs, ns, e1, e2, hobj, hints, hlen⟩ := Att.script_of hn g.pre g.well
  subst e1 e2
  have KX := hY w _ g.yp
  obtain ⟨fd, hb, hF⟩ := F w mg fa _ KX g.ground.T.g g.name
  refine wpAny_call (codeAny_mono (law_callX KX g.ground.T.g g.ground.T.b g.ground.T.builtins g.ground.T.nolimit g.gens hobj (vals_ints hints) hlen hr hF hb) fun r s' ⟨e, h2, h3, h4, h5⟩ => ?_)
  subst e
  exact ⟨⟨.inl ⟨.bool true, .bool true, [], rfl, fun _ => rfl, .bool true, Att.post_true l _, fun _ => ⟨List.Pairwise.nil, fun _ hm => (nomatch hm)⟩⟩, h2, h3, h4⟩, h5⟩
/-- the law's def, handed to walk_lawX -/
theorem law_fdX {P : Program} {w : World} {K : PySem.W.Frag} {mg : Str → Option Value} {x y : Str} {st : Stmt} {k : Nat} {fa : Addr} {spd : SpD} (a : At K mg x st) (hfa : mg x = some (.ref fa)) (B : Bd x st [y] 1 [] (fun us _ => us) (fun ds _ => ds))
    (o : ∀ base : Heap, K.In base → base.Ns mainGlobals mg → OkX P w K mg base x st k [y] spd) : ∃ fd : FuncData, (∀ (s : Shared) (u : Value), BindsTo s fd ⟨[u], []⟩ [(y, u)]) ∧ ∀ base : Heap, K.In base → base.Ns mainGlobals mg → FnOkX P w K mg base k fa fd [y] (upF K spd) := by
  obtain ⟨f, fd, F, hm⟩ := a.ex
  rw [hfa] at hm
  cases hm
  obtain ⟨oc, od, kV, doc, pm, an, cdv, ct, osl, e, lk, hcd⟩ := id F.ex
  refine ⟨fd, fun s u => by rw [e]; exact .of_eq (B.to kV doc pm an cdv ct [u] [] rfl rfl), fun base h1 h2 => ?_⟩
  obtain ⟨f2, fd2, F2, hm2, G⟩ := (o base h1 h2).ex
  rw [hfa] at hm2
  cases hm2
  rw [fun_uniq F F2]
  exact G
end XG

/-! XG: calls of defs, loops over plain iterators. -/
namespace XG
open _root_.PySem L2 GenW TD
open PyProof.Rows (AllBare envOfC)
section
variable {X : Cx} {W : WX} {x : Str} {st : Stmt} {k : Nat} {ps ks : List Str} {spd : SpD} {n : Nat} {gv : List Value → List Value → List Value} {gd : List D → List D → List D} {p pos : Pos} {e : Expr} {es : List Expr} {kws : List Keyword} {ta tk : TDA}
theorem run_okx {B : Bk} {pins : List (Addr × Obj)} {σ : St} {H : Hp} {s : Shared} {Q : VK} {f : Addr} {fd : FuncData} {us ws : List Value} {vs zs : List V} {ds es : List D} {M : Mem} {Q0 : D → Mem → Prop} {E0 : XD} (F : L2.Fun X.K x x st f fd) (G : FnOkX X.prog X.w X.K X.mg X.base k f fd ps (upF X.K spd)) (Bd' : Bd x st ps n ks gv gd) (hr : Room k X.A) (tk : Takes X W)
    (J : InvX X B pins σ H s) (g : SG B s) (l1 : us.length = n) (l2 : ws.length = ks.length) (r1 : Vals vs us) (r2 : Vals zs ws) (d1 : Reps X.K H vs ds) (d2 : Reps X.K H zs es) (sm : Sim X.K H M) (h : onSp spd (gd ds es) M Q0 E0) (hq : qUp X.K H M Q0 Q) (he : wUp X.K W σ H M E0) : RunX X B (call (.ref f) us (ks.zip ws)) (EPX X B pins σ Q) s := by
  obtain ⟨xs, rx, dx⟩ := Bd'.rel l1 l2 r1 r2 d1 d2
  obtain ⟨oc, od, kV, doc, pm, an, cdv, ct, osl, rfl, lk, hcd⟩ := F.ex
  refine wpAny_call (codeAny_mono (G.run B X.A X.stack s H ⟨us, ks.zip ws⟩ (gv us ws) xs Q (fun c d H' => W c d σ H') hr J.env0 g J.dd (fun _ => .of_eq (Bd'.to kV doc pm an cdv ct us ws l1 l2)) rx ⟨_, M, Q0, E0, dx, sm, onSp_iff.mp h, hq, he⟩) fun r s' ⟨z, g'⟩ => ?_)
  cases r with
  | error e => exact ⟨tk e s' (XE.of_call J.toInv (fun _ _ _ h => h) (CXX.cx z)), g'⟩
  | ok fl =>
    cases fl with
    | ret u =>
      obtain ⟨v, H', I', r', q', d'⟩ := J.toInv.after (Q := fun v H' => Q v H' ∧ Dd B H' s') z
      exact ⟨⟨v, H', ⟨I', d'⟩, r', q'⟩, g'⟩
    | next => exact z.elim
    | brk => exact z.elim
    | cont => exact z.elim
/-- a def's name -/
theorem glx {B : Bk} {pins : List (Addr × Obj)} {σ : St} {H : Hp} {s : Shared} {f : Addr} (bl : Blind X.xe) (hg : Gl X x) (hm : X.mg x = some (.ref f)) (hdb : (x == ("__debug__" : Str)) = false) (J : InvX X B pins σ H s) (g : SG B s) {Q : Value → Shared → Prop} (h : ∀ s', InvX X B pins σ H s' → SG B s' → Q (.ref f) s') :
    wpAny (modelX X.prog X.w) X.A (eval (.Name x p) X.env) Q (fun e s' => X.xe e s' ∧ SG B s') s :=
  thx ((PEx.of bl (pe_glob (v := .ref f) (pos := p) hg hm rfl hdb)).run B pins s σ H (fun v H' => v = .ref f ∧ H' = H) J g ⟨rfl, rfl⟩) fun u s4 ⟨v4, H4, I4, r4, e4, e5⟩ g4 => by
    subst e4 e5
    cases r4
    exact h s4 I4 g4
/-- f(e, ..) -/
theorem dx_call (bl : Blind X.xe) (o : OkX X.prog X.w X.K X.mg X.base x st k ps spd) (Bd' : Bd x st ps ps.length [] (fun us _ => us) (fun ds _ => ds)) (hr : Room k X.A) (tk : Takes X W) (ha : DAx X W (e :: es) ta) (hg : Gl X x := by rfl) (hdb : (x == ("__debug__" : Str)) = false := by decide)
    (he : starEach (e :: es) X.env = (false, eval e X.env) :: starEach es X.env := by rfl) (hpl : (backTo pos (starEach es X.env)).any (·.1) = false := by rfl) : DEx X W (.Call (.Name x p) (e :: es) [] pos) (tdCall spd ps.length ta) := by
  obtain ⟨f, fd, F, hm, G⟩ := o.ex
  refine ⟨fun B pins s σ H Q J g ⟨ρ, M, Q0, E0, dv, sm, q, hq, hw⟩ => ?_⟩
  refine wpAny_Call_Name_kw (glx bl hg hm hdb J g fun s4 J4 g4 => ?_)
  refine PySem.W.callWith_K (h₀ := X.base) J.ok.mod.kin F.kp (thx (ha.run B pos pins s4 σ H (fun vs H1 => ∃ ds M1, Reps X.K H1 vs ds ∧ Sim X.K H1 M1 ∧ Tr H M H1 M1 ∧ ds.length = ps.length ∧ onSp spd ds M1 Q0 E0) J4 g4 ⟨ρ, M, _, E0, dv, sm, q, fun ds M1 q1 vs H1 r1 s1 t1 => ⟨ds, M1, r1, s1, t1, q1⟩, hw⟩) fun us s1 ⟨vs, H1, J1, r, ds, M1, d1, s1', t1, hl, q1⟩ g1 => ⟨J1.kIn, ?_⟩) he hpl
  exact run_okx F G Bd' hr tk J1 g1 (vals_len r d1 hl) rfl r .nil d1 .nil s1' q1 (hq.mono t1) (hw.mono t1)
/-- f(k = e, ..) -/
theorem dx_callK0 (bl : Blind X.xe) (o : OkX X.prog X.w X.K X.mg X.base x st k ps spd) (Bd' : Bd x st ps 0 ks gv gd) (hr : Room k X.A) (tk' : Takes X W) (hkw : DKx X W kws tk) (hall : (backToKw pos (keywordEach kws X.env)).all (·.1.isSome) = true := by rfl) (hks : (backToKw pos (keywordEach kws X.env)).filterMap (·.1) = ks := by rfl)
    (hg : Gl X x := by rfl) (hdb : (x == ("__debug__" : Str)) = false := by decide) (hpl : ((backTo pos (starEach [] X.env)).any (·.1) || (backToKw pos (keywordEach kws X.env)).any (·.1.isNone)) = false := by rfl) : DEx X W (.Call (.Name x p) [] kws pos) (tdCallK spd 0 ks.length gd tdNil tk) := by
  obtain ⟨f, fd, F, hm, G⟩ := o.ex
  refine ⟨fun B pins s σ H Q J g ⟨ρ, M, Q0, E0, dv, sm, q, hq, hw⟩ => ?_⟩
  refine wpAny_Call_Name_kw (glx bl hg hm hdb J g fun s4 J4 g4 => ?_)
  refine PySem.W.callWith_KW0 (h₀ := X.base) J.ok.mod.kin F.kp hall (thx (hkw.run B pos pins s4 σ H (fun vs H1 => ∃ ds M1, Reps X.K H1 vs ds ∧ Sim X.K H1 M1 ∧ Tr H M H1 M1 ∧ ([] : List D).length = 0 ∧ ds.length = ks.length ∧ onSp spd (gd [] ds) M1 Q0 E0) J4 g4 ⟨ρ, M, _, E0, dv, sm, q, fun ds M1 q1 vs H1 r1 s1 t1 => ⟨ds, M1, r1, s1, t1, q1⟩, hw⟩) fun ws s2 ⟨zs, H2, J2, rz, ds, M1, d1, s1', t1, _, hl, q2⟩ g2 => ⟨J2.kIn, ?_⟩) hpl
  rw [hks]
  exact run_okx (us := []) F G Bd' hr tk' J2 g2 rfl (vals_len rz d1 hl) .nil rz .nil d1 s1' q2 (hq.mono t1) (hw.mono t1)
/-- f(e, .., k = e, ..) -/
theorem dx_callK (bl : Blind X.xe) (o : OkX X.prog X.w X.K X.mg X.base x st k ps spd) (Bd' : Bd x st ps n ks gv gd) (hr : Room k X.A) (tk' : Takes X W) (ha : DAx X W (e :: es) ta) (hkw : DKx X W kws tk) (hall : (backToKw pos (keywordEach kws X.env)).all (·.1.isSome) = true := by rfl) (hks : (backToKw pos (keywordEach kws X.env)).filterMap (·.1) = ks := by rfl)
    (hg : Gl X x := by rfl) (hdb : (x == ("__debug__" : Str)) = false := by decide) (he : starEach (e :: es) X.env = (false, eval e X.env) :: starEach es X.env := by rfl) (hpl : ((backTo pos (starEach (e :: es) X.env)).any (·.1) || (backToKw pos (keywordEach kws X.env)).any (·.1.isNone)) = false := by rfl) : DEx X W (.Call (.Name x p) (e :: es) kws pos) (tdCallK spd n ks.length gd ta tk) := by
  obtain ⟨f, fd, F, hm, G⟩ := o.ex
  refine ⟨fun B pins s σ H Q J g ⟨ρ, M, Q0, E0, dv, sm, q, hq, hw⟩ => ?_⟩
  refine wpAny_Call_Name_kw (glx bl hg hm hdb J g fun s4 J4 g4 => ?_)
  refine PySem.W.callWith_KW (h₀ := X.base) J.ok.mod.kin F.kp hall (thx (ha.run B pos pins s4 σ H (fun vs H1 => ∃ ds M1, DvL X.K H1 σ ρ ∧ Reps X.K H1 vs ds ∧ Sim X.K H1 M1 ∧ Tr H M H1 M1 ∧ tk ρ M1 (fun es M2 => ds.length = n ∧ es.length = ks.length ∧ onSp spd (gd ds es) M2 Q0 E0) E0) J4 g4 ⟨ρ, M, _, E0, dv, sm, q, fun ds M1 q1 vs H1 r1 s1 t1 => ⟨ds, M1, dv.mono t1, r1, s1, t1, q1⟩, hw⟩) fun us s1 ⟨vs, H1, J1, r, ds, M1, dv1, d1, s1', t1, q1⟩ g1 => ?_) hpl he
  refine thx (hkw.run B pos pins s1 σ H1 (fun zs H2 => ∃ es M2, Reps X.K H2 vs ds ∧ Reps X.K H2 zs es ∧ Sim X.K H2 M2 ∧ Tr H M H2 M2 ∧ ds.length = n ∧ es.length = ks.length ∧ onSp spd (gd ds es) M2 Q0 E0) J1 g1 ⟨ρ, M1, _, E0, dv1, s1', q1, fun es M2 q2 vs H2 r2 s2 t2 => ⟨es, M2, d1.mono t2, r2, s2, t1.trans t2, q2⟩, hw.mono t1⟩) fun ws s2 ⟨zs, H2, J2, rz, es', M2, d1', d2, s2', t2, hl, hl2, q2⟩ g2 => ⟨J2.kIn, ?_⟩
  rw [hks]
  exact run_okx F G Bd' hr tk' J2 g2 (vals_len r d1' hl) (vals_len rz d2 hl2) r rz d1' d2 s2' q2 (hq.mono t2) (hw.mono t2)
/-- a built-in function called with lists, tuples that a consumer gave -/
theorem pex_callB {id : String} {r : List V → Hp → VK → Prop} {t : TA} (bl : Blind X.xe) (hc : CallR X (.builtin id) r) (hg : Gl X x) (hm : X.mg x = none) (hv : bootBuiltins x = some (.builtin id)) (ha : PAx X (e :: es) t) (hn : x ≠ "__name__" := by decide) (hdb : (x == ("__debug__" : Str)) = false := by decide)
    (he : starEach (e :: es) X.env = (false, eval e X.env) :: starEach es X.env := by rfl) (hpl : (backTo pos (starEach es X.env)).any (·.1) = false := by rfl) : PEx X (.Call (.Name x p) (e :: es) [] pos) (tCB r t) := by
  refine ⟨fun B pins s σ H Q J g h => ?_⟩
  refine wpAny_Call_Name_kw (thx (upX (Q := fun u s' => u = .builtin id ∧ Inv X (pins ++ dls B s) σ H s') (Q' := fun u s' => u = .builtin id ∧ InvX X B pins σ H s') J g (lift (Q := fun u s' => u = .builtin id ∧ Inv X (pins ++ dls B s) σ H s') (E := fun _ _ => False) J.bare g.now (ld_blt (inv_poison J.pinned) hg hm hv (And.intro rfl (inv_poison J.pinned)) hn hdb) (fun u s1 G ⟨eu, J1⟩ b g1 => ⟨⟨eu, inv_gens J1 b⟩, g1⟩) fun _ _ _ z => z.elim) fun _ _ ⟨eu, I'⟩ k => ⟨eu, k _ _ I'⟩) fun u s1 ⟨eu, J1⟩ g1 => ?_)
  subst eu
  exact PyProof.Rows.callWith_builtin1 (thx (ha.run B pos pins _ σ H _ J1 g1 h) fun us s2 ⟨vs, H2, J2, r2, q2⟩ g2 => upX J2 g2 (Q := EP X (pins ++ dls B s2) σ Q) (lift J2.bare g2.now (hc (pins ++ dls B s2) _ σ H2 vs us Q (inv_poison J2.pinned) r2 q2) (fun _ _ _ z b g => ⟨ep_gens z b, g⟩) fun _ _ _ z b g => ⟨bl _ _ _ z b, g⟩) fun _ _ ⟨v, H', I, r, q⟩ k => ⟨v, H', k _ _ I, r, q⟩) he hpl
end
end XG

/-! XG: a loop over a plain iterator whose body reaches a consumer; nothing is raised. -/
namespace XG
open _root_.PySem L2 GenW TD
open PyProof.Rows (AllBare envOfC)
section
variable {X : Cx} {tg : Expr}
/-- none of the addresses is slept over for ever -/
def Bk.offA (B : Bk) (l : List Addr) : Bk := ⟨B.f, fun i x => B.z i x ∧ ∀ a, delegG x = some a → a ∉ l⟩
theorem SG.onA {B : Bk} {l : List Addr} {s : Shared} (g : SG (B.offA l) s) : SG B s := g.wide rfl fun _ _ _ _ _ z => z.1
theorem InvX.onA {B : Bk} {l : List Addr} {pins : List (Addr × Obj)} {σ : St} {H : Hp} {s : Shared} (J : InvX X (B.offA l) pins σ H s) : InvX X B pins σ H s := ⟨J.toInv, J.dd.un, fun i x a h1 h2 => (J.dd.fr i x a h1 h2).1⟩
theorem dls_off {B : Bk} {l : List Addr} {s : Shared} (g : SG (B.offA l) s) {p : Addr × Obj} (h : p ∈ dls (B.offA l) s) : p.1 ∉ l := by
  obtain ⟨i, x, h1, h2, h3, h4, _⟩ := mem_dls h
  exact (g.nl i x h1 h2 h3).2 _ h4
theorem psx_for {iter : Expr} {body : List Stmt} {wi : TI} {g : TG} {tb : TS} {pos : Pos} (hx : X.xe = EF) (hc : X.calm = true) (hi : PI X tg iter wi) (hg : PG X tg g) (hb : PSsx X body tb) (hs : ∀ x, foldedSetIterable iter X.env x = pure x := by intro _; rfl) : PSx X (.For tg iter body [] pos) (tFor wi g tb) := by
  have bl : Blind X.xe := by rw [hx]; exact blindF
  refine ⟨fun B pins s σ H D J sg h => ?_⟩
  have run := hi.run (pins ++ dls B s) _ σ H _ (inv_poison J.pinned) h
  refine wpAny_For (wpAny_hsz (Nat.le_refl _) (wpAny_mono (wpAny_px (sr_start s) run) (fun v s2 ⟨s1, r, h1⟩ sz2 => ?_) fun e s2 ⟨s1, r, z⟩ => by rw [hx] at z; exact z.elim)) hs
  refine wpAny_hsz sz2 (wpAny_mono (wpAny_px r h1) (fun u s4 ⟨s3, r3, h3⟩ sz4 => ?_) fun e s2 ⟨s1, r, z⟩ => by rw [hx] at z; exact z.elim)
  obtain ⟨it, fp, tn, K, H2, e, J2, T, st2, f2, W, ⟨m0, w0⟩, turn⟩ := h3
  obtain ⟨Gs, rfl⟩ := r3.eq
  subst e
  have bare0 : AllBare Gs := sr_bare r3 J.bare J2.bare
  have sgN : SG (B.now s) { s3 with gens := Gs } := sr_sg r3 sg.now
  have JX0 : InvX X B pins σ H2 { s3 with gens := Gs } := J.behind (inv_gens J2 fun _ => bare0) sgN sz4
  have sg0 : SG (B.offA fp) { s3 with gens := Gs } := (sg.behind sgN).wide rfl fun i x h1 h2 h3 z => ⟨z, fun a ha hin => by
    obtain ⟨z1, z2, z3⟩ := sgN.nl i x h1 h2 h3
    obtain ⟨_, o, e, _⟩ := J.dd.un i x a z1 z2 h3 ha
    exact (f2 a hin).2.2.2.2.2 (a, o) (List.mem_append_right _ (List.mem_append_right _ (dls_mem z1 z2 h3 ha e))) rfl⟩
  have JX1 : InvX X (B.offA fp) pins σ H2 { s3 with gens := Gs } := ⟨JX0.toInv, JX0.dd.un, fun i x a h1 h2 => ⟨JX0.dd.fr i x a h1 h2, fun c hc hin => by
    rw [h1] at hc
    cases hc
    obtain ⟨o, e, _⟩ := T.obj _ _ st2 a hin
    exact absurd (Heap.lt_size e) (Nat.not_lt.mpr h2)⟩⟩
  have stat : ∀ {H' : Hp} {s' : Shared}, SG (B.offA fp) s' → (∀ b ∈ fp, H' b = none) → ∀ b ∈ fp, FpOk X (pins ++ dls (B.offA fp) s') H' b := fun g' hn b hb => by
    obtain ⟨_, q1, q2, q3, q4, q5⟩ := f2 b hb
    refine ⟨hn b hb, q1, q2, q3, q4, fun p hp => ?_⟩
    rcases List.mem_append.mp hp with hp | hp
    · exact q5 p (List.mem_append_left _ hp)
    · rcases List.mem_append.mp hp with hp | hp
      · exact q5 p (List.mem_append_right _ (List.mem_append_left _ hp))
      · intro z
        exact dls_off g' hp (by rw [z]; exact hb)
  have stat0 : ∀ {H' : Hp}, (∀ b ∈ fp, H' b = none) → ∀ b ∈ fp, FpOk X pins H' b := fun hn b hb => by
    obtain ⟨_, q1, q2, q3, q4, q5⟩ := f2 b hb
    refine ⟨hn b hb, q1, q2, q3, q4, fun p hp => ?_⟩
    rcases List.mem_append.mp hp with hp | hp
    · exact q5 p (List.mem_append_left _ hp)
    · exact q5 p (List.mem_append_right _ (List.mem_append_left _ hp))
  have loop := forX2 (P := X.prog) (w := X.w) (A := X.A) (tg := tg) (it := .ref it) (body := body) (env := X.env) (R := fun f s' => SPX X B pins D f s' ∧ SG B s') (fun n s' => ∃ i σ' H', InvX X (B.offA fp) pins σ' H' s' ∧ SG (B.offA fp) s' ∧ tn i s'.heap ∧ (∀ b ∈ fp, H' b = none) ∧ W i n σ' H') (fun n s3 hn => by
    obtain ⟨i, σ3, H3, J3, g3, st3, fr3, w3⟩ := hn
    rcases turn i n σ3 H3 w3 with ⟨stop, qn⟩ | ⟨go, N, hN, step⟩
    · have run := T.done X rfl rfl rfl hc i (pins ++ dls (B.offA fp) s3) { s3 with gens := asleepG s3 } σ3 H3 EF (inv_poison J3.pinned) (stat g3 fr3) st3 stop
      refine wpAny_hsz (Nat.le_refl _) (wpAny_mono (wpAny_px (sr_start s3) run) (fun v s2 ⟨s1, r, er, J4⟩ sz => ?_) fun e s2 ⟨s1, r, z⟩ => z.elim)
      subst er
      obtain ⟨Gs, rfl⟩ := r.eq
      have g4 := sr_sg r g3.now
      exact ⟨⟨σ3, H3, (J3.behind (inv_gens J4 (sr_bare r J3.bare)) g4 sz).onA, qn⟩, (g3.behind g4).onA⟩
    · have run := T.item X rfl rfl rfl hc i (pins ++ dls (B.offA fp) s3) { s3 with gens := asleepG s3 } σ3 H3 EF (inv_poison J3.pinned) (stat g3 fr3) st3 go
      refine wpAny_hsz (Nat.le_refl _) (wpAny_mono (wpAny_px (sr_start s3) run) (fun v s2 ⟨s1, r, u, er, h4⟩ szA => ?_) fun e s2 ⟨s1, r, z⟩ => z.elim)
      subst er
      refine wpAny_hsz szA (wpAny_mono (wpAny_px r h4) (fun _ s5 ⟨s6, r5, y, H5, J5, ry, yl, st5, fr5⟩ szB => ?_) fun e s2 ⟨s1, r, z⟩ => z.elim)
      obtain ⟨Gs5, rfl⟩ := r5.eq
      have g5N := sr_sg r5 g3.now
      have J6 := J3.behind (inv_gens J5 (sr_bare r5 J3.bare)) g5N szB
      have g6 := g3.behind g5N
      have J7 : InvX X (B.offA fp) (pins ++ pinsAt fp s6.heap) σ3 H5 { s6 with gens := Gs5 } := ⟨J6.toInv.pinned (stat0 fr5) (T.obj _ _ st5), J6.dd⟩
      refine wpAny_mono ((PGx.of bl hg).run (B.offA fp) _ _ σ3 H5 y u _ J7 g6 ry (step y H5 yl)) (fun _ s7 ⟨⟨σ7, H7, J8, q7⟩, g7⟩ => ?_) fun e s' z => by rw [hx] at z; exact z.1.elim
      refine wpAny_mono (hb.run (B.offA fp) _ s7 σ7 H7 _ J8 g7 q7) (fun f s8 ⟨q8, g8⟩ => ?_) fun e s' z => by rw [hx] at z; exact z.1.elim
      have low : ∀ {σ9 : St} {H9 : Hp}, InvX X (B.offA fp) (pins ++ pinsAt fp s6.heap) σ9 H9 s8 → InvX X (B.offA fp) pins σ9 H9 s8 := fun J9 => ⟨J9.toInv.unpinned, J9.dd⟩
      have again : ∀ {σ9 : St} {H9 : Hp}, InvX X (B.offA fp) (pins ++ pinsAt fp s6.heap) σ9 H9 s8 → N σ9 H9 → ∃ m, m < n ∧ ∃ i σ' H', InvX X (B.offA fp) pins σ' H' s8 ∧ SG (B.offA fp) s8 ∧ tn i s8.heap ∧ (∀ b ∈ fp, H' b = none) ∧ W i m σ' H' := fun {σ9 H9} J9 n9 => by
        obtain ⟨m', hm, w9⟩ := hN σ9 H9 n9
        refine ⟨m', hm, i + 1, σ9, H9, low J9, g8, T.keep _ _ _ st5 fun b hb o e => (J9.pin (b, o) (List.mem_append_right _ (List.mem_append_right _ (mem_pinsAt hb e)))).1, fun b hb => ?_, w9⟩
        obtain ⟨o, e, d⟩ := T.obj _ _ st5 b hb
        exact (J9.pin (b, o) (List.mem_append_right _ (List.mem_append_right _ (mem_pinsAt hb e)))).2.1
      cases f with
      | next => obtain ⟨σ9, H9, J9, n9⟩ := q8; exact again J9 n9
      | cont => obtain ⟨σ9, H9, J9, n9⟩ := q8; exact again J9 n9
      | brk => obtain ⟨σ9, H9, J9, z⟩ := q8; exact ⟨⟨σ9, H9, (low J9).onA, z⟩, g8.onA⟩
      | ret v => obtain ⟨x9, σ9, H9, J9, r9, z⟩ := q8; exact ⟨⟨x9, σ9, H9, (low J9).onA, r9, z⟩, g8.onA⟩) m0 ⟨0, σ, H2, JX1, sg0, st2, fun b hb => (f2 b hb).1, w0⟩
  refine codeAny_mono loop fun r s' h => ?_
  cases r with
  | ok f => exact h
  | error e => exact h.elim
end
end XG

/-! XG: more rules by data (printed by gen/mkx.py). -/
namespace XG
open _root_.PySem L2 GenW TD
open PyProof.Rows (AllBare envOfC)
section
variable {X : Cx} {W : WX} {pos : Pos} {tg iter : Expr} {body : List Stmt} {wi : TDI} {g : TDG} {tb : TDS}
theorem sx_forP (hx : X.xe = EF) (hc : X.calm = true) (hi : DI X W tg iter wi) (hg : DG X tg g) (hb : DSsx X W body tb)
    (hs : ∀ x, foldedSetIterable iter X.env x = pure x := by intro _; rfl) : DSx X W (.For tg iter body [] pos) (tdFor wi g tb) := PSx.imp (psx_for hx hc hi hg hb hs) fun D σ H ⟨ρ, M, D0, dv, sm, q, eu⟩ => by
  refine ⟨ρ, M, _, _, dv, sm, q, fun ds Gd M1 q1 J S H1 dw st s1 t1 => ?_, eu.w dv⟩
  unfold ForI at q1
  obtain ⟨I, h0, hG, hs, hd⟩ := q1
  let P : Nat → St → Hp → Prop := fun i σ' H' => ∃ ρ' M', DvL X.K H' σ' ρ' ∧ Sim X.K H' M' ∧ Tr H M H' M' ∧ S H' M' ∧ I i ρ' M'
  have pf : ∀ {i : Nat} {H2 : Hp} {M2 : Mem}, Tr H M H2 M2 → S H2 M2 → fUp X.K H2 M2 (I i) (P i) := fun {i H2 M2} t2 st2 ρ' M' hi σ' H' dv' s' t' => ⟨ρ', M', dv', s', t2.trans t', dw.stay _ _ _ _ st2 t', hi⟩
  refine ⟨fun i m σ' H' => m = ds.length - i ∧ i ≤ ds.length ∧ P i σ' H', ⟨ds.length, by simp, Nat.zero_le _, ρ, M1, dv.mono t1, s1, t1, st, h0⟩, ?_⟩
  rintro i m σ2 H2 ⟨rfl, hi, ρ2, M2, dv2, s2, t2, st2, i2⟩
  have gd := hG i ρ2 M2 hi i2
  by_cases hlt : i < ds.length
  · refine .inr ⟨dw.goes i H2 M2 hlt st2 s2 gd, P (i + 1), fun σ' H' p' => ⟨ds.length - (i + 1), by omega, rfl, hlt, p'⟩, fun x H3 y => ?_⟩
    obtain ⟨d, ed, rd, s3, t3⟩ := dw.yields i H2 M2 x H3 hlt st2 s2 gd y
    have st3 := dw.stay _ _ _ _ st2 t3
    refine ⟨ρ2, M2, d, _, dv2.mono t3, s3, rd, hs i d ρ2 M2 ed i2, fun ρ4 M4 q4 σ4 H4 dv4 s4 t4 => ?_⟩
    have t24 := (t2.trans t3).trans t4
    have eu4 := eu.mono t24
    have st4 := dw.stay _ _ _ _ st3 t4
    exact ⟨ρ4, M4, _, dv4, s4, q4, ⟨pf t24 st4, eu4.rt, eu4.nx, pf t24 st4, eu4.ex⟩⟩
  · have e : i = ds.length := by omega
    subst e
    exact .inl ⟨dw.stops H2 M2 st2 s2 gd, eu.nx _ _ (hd ρ2 M2 i2) σ2 H2 dv2 s2 t2⟩
end
section
variable {X : Cx} {W : WX} {pos : Pos} {a b : Expr} {ta tb : TDE} {op : CmpOp} {r : RD2}
theorem dx_cmpD (bl : Blind X.xe) (o : CmpD X op r) (ha : DEx X W a ta) (hb : DEx X W b tb) (hm : behindInMarks op b = false := by first | exact nomark _ | rfl) : DEx X W (.Compare a [op] [b] pos) (tdOp r ta tb) := let ⟨_, h1, h2⟩ := o; dx_cmp bl h1 h2 ha hb hm
theorem tx_cmpD (bl : Blind X.xe) (o : CmpD X op r) (ha : DEx X W a ta) (hb : DEx X W b tb) (hm : behindInMarks op b = false := by first | exact nomark _ | rfl) : DTx X W (.Compare a [op] [b] pos) (tdTest (tdOp r ta tb)) := let ⟨_, h1, h2⟩ := o; tx_cmp bl h1 h2 ha hb hm
end
section
variable {X : Cx} {W : WX} {e : Expr} {te : TDE} {t : TDA} {kws : List Keyword}
theorem kx_nil : DKx X W [] tdNil := PKx.imp pkx_nil fun σ H Q ⟨ρ, M, Q0, E0, dv, sm, q, hq, he⟩ => hq _ _ q _ H .nil sm (Tr.refl H M)
theorem kx_cons {nm : Option Str} {kpos : Pos} (ha : DEx X W e te) (hr : DKx X W kws t) : DKx X W (⟨nm, e, kpos⟩ :: kws) (tdCons te t) := PKx.imp (pkx_cons ha hr) fun σ H Q ⟨ρ, M, Q0, E0, dv, sm, q, hq, he⟩ => by
  refine ⟨ρ, M, _, E0, dv, sm, q, fun d M1 q1 v H1 r1 s1 t1 => ?_, he⟩
  refine ⟨ρ, M1, _, E0, dv.mono t1, s1, q1, fun ds M2 q2 vs H2 r2 s2 t2 => ?_, he.mono t1⟩
  exact hq _ _ q2 _ H2 (.cons (r1.mono t2) r2) s2 (t1.trans t2)
end
end XG

/-! XG: the text's generator def with two int defaults. -/
namespace XG
open _root_.PySem L2 GenW TD
open PyProof.Rows (AllBare envOfC)
/-- the def stands there; its defaults i, j -/
structure AtG (K : PySem.W.Frag) (mg : Str → Option Value) (x : Str) (st : Stmt) (i j : Int) : Prop where
  ex : ∃ (f : Addr) (cdv : Value) (T : Addr) (oc : Value) (od an : Option Addr) (kV doc pm ct : Value) (osl : Array (Option Value)) (toc : Value) (tod : Option Addr) (t0 t1 : Tok) (nn : Nat) (tsl : Array (Option Value)), K.lookup f = some ⟨oc, od, .func (PySem.W.fnOf x x (defArgs st) (defBody st) (defScope st) (.ref T) kV doc pm an cdv ct), osl⟩ ∧
    PySem.W.codeIn K cdv x = true ∧ PySem.W.keepIn K (.ref f) = true ∧ mg x = some (.ref f) ∧ K.lookup T = some ⟨toc, tod, .seq #[.int i t0, .int j t1] nn, tsl⟩
theorem at_mkG {K : PySem.W.Frag} {mg : Str → Option Value} {h : Heap} {x : Str} {st : Stmt} {f T : Addr} {oc : Value} {od an : Option Addr} {osl : Array (Option Value)} {kV doc pm cdv ct toc : Value} {tod : Option Addr} {t0 t1 : Tok} {nn : Nat} {tsl : Array (Option Value)} {i j : Int} (X : K.In h) (G : h.Ns mainGlobals mg) (a : PySem.W.nsIn K mainGlobals x = some (some (.ref f)))
    (l : K.lookup f = some ⟨oc, od, .func (PySem.W.fnOf x x (defArgs st) (defBody st) (defScope st) (.ref T) kV doc pm an cdv ct), osl⟩) (c : PySem.W.codeIn K cdv x = true) (k : PySem.W.keepIn K (.ref f) = true) (d : K.lookup T = some ⟨toc, tod, .seq #[.int i t0, .int j t1] nn, tsl⟩) : AtG K mg x st i j :=
  ⟨_, _, _, _, _, _, _, _, _, _, _, _, _, _, _, _, _, l, c, k, PySem.W.mg_of X G a, d⟩
theorem AtG.def_ {K : PySem.W.Frag} {mg : Str → Option Value} {x : Str} {st : Stmt} {i j : Int} {N ps : List Str} (a : AtG K mg x st i j) (S : GScope N ps (defScope st)) (hn : ∀ y ∈ (defScope st).names, y.2 = .local ∨ y.2 = .globalImplicit ∨ y.2 = .globalExplicit) (hc : ∀ n, cellsFrom n (defScope st).names [] = [])
    (b3 : ∀ (T : Addr) (kV doc pm : Value) (an : Option Addr) (cdv ct : Value) (us : List Value) (v w : Value), us.length = ps.length → ∃ k, bindArgs (PySem.W.fnOf x x (defArgs st) (defBody st) (defScope st) (.ref T) kV doc pm an cdv ct) ⟨us, []⟩ = (seqItems? (.ref T) >>= k) ∧ k (some #[v, w]) = pure (ps.zip us))
    (b1 : ∀ (T : Addr) (kV doc pm : Value) (an : Option Addr) (cdv ct u v w : Value), ∃ k, bindArgs (PySem.W.fnOf x x (defArgs st) (defBody st) (defScope st) (.ref T) kV doc pm an cdv ct) ⟨[u], []⟩ = (seqItems? (.ref T) >>= k) ∧ k (some #[v, w]) = pure (ps.zip [u, v, w])) (h3 : ps.length = 3) :
    ∃ (f : Addr) (cdv : Value) (fd : FuncData), GDef K mg N ps x (defScope st) f cdv (defBody st) fd ∧ GBd K fd ps 1 [.int i, .int j] := by
  obtain ⟨f, cdv, T, oc, od, an, kV, doc, pm, ct, osl, toc, tod, t0, t1, nn, tsl, l, c, k, m, d⟩ := a.ex
  refine ⟨f, cdv, _, ⟨⟨oc, od, _, _, kV, doc, pm, ct, an, osl, rfl, l⟩, c, S, k, m, hn, hc, fun s us KX hl => let ⟨_, e1, e2⟩ := b3 T kV doc pm an cdv ct us (.int i t0) (.int j t1) hl; BindsTo.of_defaults rfl (KX _ _ d) rfl e1 e2⟩, ⟨[.int i t0, .int j t1], [.int i, .int j], fun s us KX hl => ?_, .cons ⟨_, rfl⟩ (.cons ⟨_, rfl⟩ .nil), fun H => .cons (.int i) (.cons (.int j) .nil), by rw [h3]; rfl⟩⟩
  match us, hl with
  | [u], _ =>
    obtain ⟨kk, e1, e2⟩ := b1 T kV doc pm an cdv ct u (.int i t0) (.int j t1)
    exact BindsTo.of_defaults rfl (KX _ _ d) rfl e1 e2
theorem FreshOk.mono {P : Program} {w : World} {K : PySem.W.Frag} {mg : Str → Option Value} {base : Heap} {N : List Str} {x : Str} {scope : Scope} {f : Addr} {cdv : Value} {body : List Stmt} {k j : Nat} {ds items : List D} (h : FreshOk P w K mg base N x scope f cdv body j ds items) (l : j ≤ k) : FreshOk P w K mg base N x scope f cdv body k ds items :=
  fun G a b c d e n en g hr => h G a b c d e n en g (hr.mono l)
end XG

/-! XG: a list comprehension over a generator. -/
namespace XG
open _root_.PySem L2 GenW TD
open PyProof.Rows (AllBare envOfC)
/-- what its consumer knows of a generator that sleeps; the consumer may be a block that began behind its birth -/
structure Held2 (X : Cx) (G : Gn) (B : Bk) (pins : List (Addr × Obj)) (a g : Addr) (o : Obj) (fo : List (Addr × Obj)) (fg : List (Nat × GenState)) (s : Shared) (H : Hp) : Prop where
  obj : s.heap.get? a = some o ∧ GObj o g 0 ∧ FpOk X pins H a ∧ G.L < a
  fr : ∃ o, (G.L, o) ∈ fo
  fo : ∀ p ∈ fo, s.heap.get? p.1 = some p.2 ∧ FpOk X pins H p.1 ∧ isCell p.2 = false ∧ G.L ≤ p.1 ∧ p.1 ≠ a
  fg : ∀ q ∈ fg, B q.1 = none ∧ g < q.1
  b : B g = none
  lt : (∀ b ∈ frs X.stack, b < G.L) ∧ X.s_0.heap.objs.size ≤ G.L ∧ (∀ b ∈ X.fs, b < G.L) ∧ ∀ x c, X.env.cells.lookup x = some c → c < G.L
section
variable {X : Cx} {G : Gn} {B : Bk} {pins : List (Addr × Obj)} {σ : St} {a g : Nat} {o : Obj} {fo fo1 : List (Addr × Obj)} {fg fg1 : List (Nat × GenState)} {s s1 : Shared} {H H1 : Hp} {M : Mem}
/-- behind its stretch -/
theorem Held2.behind {B' : Bk} (I : Inv X pins σ H s) (h : Held2 X G B pins a g o fo fg s H) (hs : G.stk = X.stack) (hP : G.P = X.prog) (hw : G.w = X.w) (hn : G.num = g) (dn : Done G fo fo1 fg1 B' (s.setGen g .running) H M s1 H1) : Inv X pins σ H1 s1 ∧ s1.heap.get? a = some o ∧ FpOk X pins H1 a ∧ ∀ p ∈ fo1, s1.heap.get? p.1 = some p.2 ∧ FpOk X pins H1 p.1 ∧ isCell p.2 = false ∧ G.L ≤ p.1 ∧ p.1 ≠ a := by
  obtain ⟨oL, hL⟩ := h.fr
  obtain ⟨l1, l2, l3, l4⟩ := h.lt
  have un := dn.un
  rw [hs] at un
  have hok := dn.hok
  rw [hP, hw] at hok
  have nfs : ∀ b ∈ frs X.stack, b < G.L := l1
  have nLo : G.L ≠ X.env.locals := (h.fo _ hL).2.1.2.1
  obtain ⟨ml, ol, esl, epl, hol, hdl, _⟩ : ∃ m o es ep, s.heap.get? X.env.locals = some o ∧ o.data = .dict es ep ∧ (s.heap.Ns X.env.locals m) := by
    obtain ⟨m, hn, _⟩ := I.loc
    obtain ⟨o, es, ep, e1, e2, r⟩ := id hn
    exact ⟨m, o, es, ep, e1, e2, hn⟩
  have pinne : ∀ p ∈ X.pn ++ pins, p.1 ≠ G.L := fun p hp => (h.fo _ hL).2.1.2.2.2.2.2 p hp
  have I1 : Inv X pins σ H1 s1 := I.call' dn.os un hok dn.bare fun b hb => by
    rcases List.mem_cons.mp hb with e | hb
    · subst e
      exact ⟨.inr l2, nLo, fun x c e => Nat.ne_of_lt (l4 x c e), pinne⟩
    · rcases List.mem_append.mp hb with hb | hb
      · obtain ⟨p, hp, e⟩ := List.mem_map.mp hb
        subst e
        obtain ⟨_, f1, _, f3, f4, f5⟩ := (h.fo p hp).2.1
        exact ⟨f3, f1, f4, f5⟩
      · obtain ⟨q1, ob, q2, q3⟩ := mem_youngC.mp hb
        have q2 : s.heap.get? b = some ob := q2
        obtain ⟨v, q3⟩ := iscell q3
        refine ⟨.inr (Nat.le_trans l2 (Nat.le_of_lt q1)), fun e => (by rw [e, hol] at q2; cases q2; rw [hdl] at q3; cases q3), fun x c e => Nat.ne_of_lt (Nat.lt_trans (l4 x c e) q1), fun p hp e => ?_⟩
        obtain ⟨p1, _, _, _, p5⟩ := I.pin p hp
        rw [e, q2] at p1
        cases p1
        exact p5 v q3
  -- an untracked object that is none of its own is none of the new ones
  have key : ∀ {b : Addr} {ob : Obj}, s.heap.get? b = some ob → H b = none → isCell ob = false → (∀ p ∈ fo, b ≠ p.1) → ∀ p ∈ fo1, b ≠ p.1 := fun {b ob} h1 h2 h3 h4 p hp e => by
    obtain ⟨_, _, _, q4, q5⟩ := dn.obj p hp
    refine q5 (b, ob) (mem_young.mpr ⟨h1, ?_, h2, fun w => ?_, h3⟩) e
    · exact Nat.lt_of_le_of_ne (by rw [e]; exact q4) (Ne.symm (h4 _ hL))
    · obtain ⟨q, hq, e2⟩ := List.mem_map.mp w
      exact h4 q hq e2.symm
  obtain ⟨o1, o2, o3, o4⟩ := h.obj
  have aL : ∀ p ∈ fo, a ≠ p.1 := fun p hp e => (h.fo p hp).2.2.2.2 e.symm
  have ach : a ∉ G.L :: (fo.map (·.1) ++ youngC s.heap G.L) := fun hb => by
    rcases List.mem_cons.mp hb with e | hb
    · rw [e] at o4; exact absurd o4 (Nat.lt_irrefl _)
    · rcases List.mem_append.mp hb with hb | hb
      · obtain ⟨p, hp, e⟩ := List.mem_map.mp hb
        exact aL p hp e.symm
      · obtain ⟨_, ob, q2, q3⟩ := mem_youngC.mp hb
        rw [o1] at q2; cases q2
        rw [gobj_cell o2] at q3; cases q3
  have afs : a ∉ frs X.stack := fun hb => absurd (nfs a hb) (Nat.not_lt.mpr (Nat.le_of_lt o4))
  refine ⟨I1, un.keep a o o1 o3.1 afs ach, ⟨un.free a o o1 o3.1 ach, o3.2⟩, fun p hp => ?_⟩
  obtain ⟨q1, q2, q3, q4, q5⟩ := dn.obj p hp
  refine ⟨q1, ⟨q2, (key hol I.free (by unfold isCell; rw [hdl]) (fun w hw => Ne.symm (h.fo w hw).2.1.2.1) p hp).symm, fun hb => absurd (l3 _ hb) (Nat.not_lt.mpr q4), .inr (Nat.le_trans l2 q4), fun x c e => Nat.ne_of_lt (Nat.lt_of_lt_of_le (l4 x c e) q4), fun y hy => ?_⟩, q3, q4, ?_⟩
  · obtain ⟨y1, y2, _, _, y5⟩ := I.pin y hy
    exact key y1 y2 (pins_cell y5) (fun w hw e => (h.fo w hw).2.1.2.2.2.2.2 y hy e) p hp
  · exact (key o1 o3.1 (gobj_cell o2) aL p hp).symm
end
section
variable {X : Cx}
/-- at the top of the loop -/
structure Top2 (X : Cx) (G : Gn) (B : Bk) (pins : List (Addr × Obj)) (a g : Addr) (H0 : Hp) (M0 : Mem) (items : List D) (Z : Nat → St → DSt → Mem → Hp → Prop) (i : Nat) (s : Shared) : Prop where
  ex : ∃ (gs : GenState) (o : Obj) (fo : List (Addr × Obj)) (fg : List (Nat × GenState)) (Hq : Hp) (Mq : Mem) (σ : St) (H : Hp) (ρ : DSt) (M : Mem), Inv X pins σ H s ∧ DvL X.K H σ ρ ∧ Sim X.K H M ∧ Tr H0 M0 H M ∧ Z i σ ρ M H ∧ i ≤ items.length ∧
    Held2 X G B pins a g o fo fg s H ∧ Alive G (items.drop i) gs fo fg Hq Mq ∧ Tr Hq Mq H M ∧ s.gens[g]? = some gs ∧ SG (ovr (B.off fo) fg) (s.setGen g .running) ∧ Dd (ovr (B.off fo) fg) H (s.setGen g .running)
theorem next_top2 {G : Gn} {B : Bk} {pins : List (Addr × Obj)} {a g : Nat} {H0 : Hp} {M0 : Mem} {items : List D} {Z : Nat → St → DSt → Mem → Hp → Prop} {tg : Expr} {gt : TG} {s : Shared} {i : Nat} {R : Nat → St → Hp → DSt → Mem → St → Hp → Prop} {N : Shared → Prop} {Post : Nat → Shared → Prop} (hc : X.calm = true) (hd : X.A.depth < recursionLimit)
    (hP : G.P = X.prog) (hw : G.w = X.w) (hK : G.K = X.K) (hmg : G.mg = X.mg) (hba : G.base = X.base) (hA : G.A = X.A.in1) (hS : G.stk = X.stack) (hn : G.num = g) (hg : PG X.nox tg gt)
    (hZ : ∀ i σ ρ M H H1, Z i σ ρ M H → Sim X.K H1 M → Tr H M H1 M → Z i σ ρ M H1)
    (hI : ∀ i d w σ H ρ M, items[i]? = some d → Z i σ ρ M H → DvL X.K H σ ρ → Sim X.K H M → Rep X.K H w d → gt w σ H (fun σ2 H2 => R i σ H ρ M σ2 H2))
    (hN : ∀ σ H ρ M s1, InvX X B pins σ H s1 → SG B s1 → DvL X.K H σ ρ → Sim X.K H M → Tr H0 M0 H M → Z items.length σ ρ M H → N s1)
    (hKo : ∀ i (B' : Bk) (pins' : List (Addr × Obj)) σ H ρ M σ2 H2 s3, i < items.length → InvX X.nox B' (pins ++ pins') σ2 H2 s3 → SG B' s3 → R i σ H ρ M σ2 H2 → DvL X.K H σ ρ → Sim X.K H M → Z i σ ρ M H →
      (∀ s4 σ4 H4 ρ4 M4, InvX X.nox B' (pins ++ pins') σ4 H4 s4 → SG B' s4 → DvL X.K H4 σ4 ρ4 → Sim X.K H4 M4 → Tr H M H4 M4 → Z (i + 1) σ4 ρ4 M4 H4 → Top2 X G B pins a g H0 M0 items Z (i + 1) s4) → Post i s3)
    (t : Top2 X G B pins a g H0 M0 items Z i s) :
    wpAny (modelX X.prog X.w) X.A (pyNext (.ref a)) (fun r s1 => match r with
      | none => N s1
      | some v => wpAny (modelX X.prog X.w) X.A (letOwnedTupleGo tg (.ref a) v) (fun _ s2 => wpAny (modelX X.prog X.w) X.A (assign tg X.env v) (fun _ s3 => Post i s3) EF s2) EF s1) EF s := by
  obtain ⟨gs, o, fo, fg, Hq, Mq, σ, H, ρ, M, J, dv, sm, t0, hi, hle, hld, al, tq, hgs, hsg, hdd⟩ := t.ex
  have zg : g < s.gens.size := (Array.getElem?_eq_some_iff.mp hgs).1
  have wk : Wake G fo fg ⟨B.f, fun i x => ovr B fg i = none ∧ (s.setGen g .running).gens[i]? = some x ∧ loudG x = true⟩ Hq Mq (s.setGen g .running) H M := by
    refine ⟨?_, by rw [hK]; exact sm, tq, fun p hp => ⟨(hld.fo p hp).1, (hld.fo p hp).2.1.1⟩, ⟨hsg.sl, fun i x h1 h2 h3 => ⟨h1, h2, h3⟩⟩, fun q hq => by rw [hn]; exact hld.fg q hq, by rw [hn, setGen_size]; exact zg⟩
    rw [hP, hw, hK, hmg, hba, hA, hS]
    exact ⟨J.env0.frames, J.env0.mod, J.env0.bs, J.env0.bsz, J.env0.funs, J.env0.frf, J.env0.hok, bare_set J.bare rfl⟩
  have on := al _ _ H M wk
  have hst : ∀ b ∈ frs G.stk, ∃ o, (s.setGen g .running).heap.get? b = some o ∧ ∀ vs, o.data ≠ .fields vs := fun b hb => by rw [hS] at hb; exact (J.stack.mem hb).2
  rw [hP, hw, hA] at on
  obtain ⟨o1, o2, o3, o4⟩ := hld.obj
  cases e : items.drop i with
  | nil =>
    rw [e] at on
    refine wpAny_hsz (Nat.le_refl _) (next_turn (J.ok.hd hc) J.nolimit hd o1 o2 hgs on (fun v g0 l k c p fs s1 q _ => ?_) fun r s1 q sz => ?_)
    · obtain ⟨_, z, _⟩ := q; cases z
    · obtain ⟨H1, z, dn⟩ := q
      cases z
      refine ⟨rfl, fun h' kp hsz => ?_⟩
      obtain ⟨I1, _, _, _⟩ := hld.behind J hS hP hw hn dn
      have il : i = items.length := by
        have := congrArg List.length e
        simp at this
        omega
      have I2 := inv_gens (G := (s1.setGen g .finished).gens) (I1.kept (h' := h') (t' := s1.toks) kp) fun b => bare_set b rfl
      have smE : Sim X.K H1 M := by have := dn.sim; rw [hK] at this; exact this
      have szz : s.heap.objs.size ≤ h'.objs.size := hsz
      have st2 := stretch' hsg hdd hld.fr hst dn
      have dd2 : Dd B H1 { s1.setGen g .finished with heap := h' } := ⟨fun i x a h1 h2 h3 h4 => by
        have h2 : (s1.setGen g .finished).gens[i]? = some x := h2
        rw [setGen_get] at h2
        split at h2
        · cases h2; cases h3
        · obtain ⟨u1, o', u2, u3⟩ := st2.2 i x a h1 h2 h3 h4
          exact ⟨u1, o', kp _ _ u2, u3⟩, fun i x a h1 h2 => (hdd.fr i x a h1 (Nat.le_trans szz h2)).1⟩
      have sg2 : SG B s1 := st2.1.wide rfl fun i x _ _ _ z => z.1
      exact hN σ H1 ρ M _ ⟨I2, dd2⟩ ((sg_set (x := .finished) sg2 hld.b rfl).at rfl) (dv.mono dn.tr) smE (t0.trans dn.tr) (by rw [← il]; exact hZ _ _ _ _ _ _ hi smE dn.tr)
  | cons d rest =>
    rw [e] at on
    have ed : items[i]? = some d := by
      have := congrArg (fun l => l[0]?) e
      simpa using this
    have er : items.drop (i + 1) = rest := by
      rw [← List.drop_drop, e]; rfl
    have hlt : i < items.length := (List.getElem?_eq_some_iff.mp ed).1
    refine wpAny_hsz (Nat.le_refl _) (next_turn (J.ok.hd hc) J.nolimit hd o1 o2 hgs on (fun v g0 l k c pz fs s1 q sz => ?_) fun r s1 q sz => ?_)
    · obtain ⟨w, u, H1, fo1, fg1, l1, k1, c1, p1, f1, z, hgd, rw_, rd, ⟨hin, hun, hunf⟩, dn, next⟩ := q
      cases z
      refine ⟨by show (!(false || fs.any Frame.guarded)) = true; rw [hgd]; rfl, fun hsz => ?_⟩
      obtain ⟨sgS, ddS⟩ := stretch hsg hdd hld.fr hst dn hsz
      obtain ⟨I1, a1, fa, ffo⟩ := hld.behind J hS hP hw hn dn
      have z1 : g < s1.gens.size := Nat.lt_of_lt_of_le zg sz
      have I2 := inv_gens (G := (s1.setGen g (End.susp v false l k c pz fs).genState).gens) I1 fun b => bare_set b (by show (!(false || fs.any Frame.guarded)) = true; rw [hgd]; rfl)
      obtain ⟨nm, qn, dat⟩ := o2.data
      refine go_of a1 o2.cls dat (by decide) ?_
      rw [hK] at rd
      have sm1 : Sim X.K H1 M := by have := dn.sim; rw [hK] at this; exact this
      have I30 : Inv X.nox (pins ++ ((a, o) :: fo1)) σ H1 { s1 with gens := (s1.setGen g (End.susp v false l k c pz fs).genState).gens } := (I2.pins_of (pins' := pins ++ ((a, o) :: fo1)) fun y hy => by
        rcases List.mem_append.mp hy with hy | hy
        · exact I2.pin y (List.mem_append_right _ hy)
        · rcases List.mem_cons.mp hy with e | hy
          · rw [e]; exact ⟨a1, fa.1, fa.2.1, fa.2.2.1, notcell (gobj_cell o2)⟩
          · obtain ⟨y1, y2, y3, _⟩ := ffo y hy
            exact ⟨y1, y2.1, y2.2.1, y2.2.2.1, notcell y3⟩).wish _
      have I3 : InvX X.nox (ovr (B.off fo1) ((g, (End.susp v false l k c pz fs).genState) :: fg1)) (pins ++ ((a, o) :: fo1)) σ H1 { s1 with gens := (s1.setGen g (End.susp v false l k c pz fs).genState).gens } := ⟨I30, (dd_sleep ddS z1).at rfl rfl⟩
      have zi := hZ _ _ _ _ _ _ hi sm1 dn.tr
      have ra := (PGx.of (X := X.nox) blindF hg).run (ovr (B.off fo1) ((g, (End.susp v false l k c pz fs).genState) :: fg1)) _ _ σ H1 w v (fun σ2 H2 => R i σ H1 ρ M σ2 H2) I3 ((sg_sleep sgS z1 rfl).at rfl) rw_
        (hI i d w σ H1 ρ M ed zi (dv.mono dn.tr) sm1 rd)
      refine wpAny_mono ra (fun _ s3 ⟨⟨σ2, H2, I4, q2⟩, sg2⟩ => ?_) fun _ _ z => z.1.elim
      refine hKo i _ ((a, o) :: fo1) σ H1 ρ M σ2 H2 s3 hlt I4 sg2 q2 (dv.mono dn.tr) sm1 zi fun s4 σ4 H4 ρ4 M4 I5 sg4 dv4 sm4 t4 hi4 => ?_
      have I6 := I5.toInv.unwish
      have gg4 : s4.gens[g]? = some (End.susp v false l k c pz fs).genState := (sg4.sl g _ (by rw [ovr_cons, if_pos rfl])).1
      have pin : ∀ y ∈ (a, o) :: fo1, s4.heap.get? y.1 = some y.2 ∧ H4 y.1 = none := fun y hy => by
        obtain ⟨p1, p2, _⟩ := I6.pin y (List.mem_append_right _ (List.mem_append_right _ hy))
        exact ⟨p1, p2⟩
      refine ⟨(End.susp v false l k c pz fs).genState, o, fo1, fg1, H1, M, σ4, H4, ρ4, M4, I6.pins_of fun y hy => I6.pin y (List.mem_append_right _ (List.mem_append_left _ hy)), dv4, sm4, (t0.trans dn.tr).trans t4, hi4, hlt, ?_, ?_, t4, gg4, sg_run sg4 (fun q hq => Nat.ne_of_gt (by have := (dn.apart q hq).2; rw [hn] at this; exact this)) hld.b, dd_run I5.dd gg4⟩
      · refine ⟨⟨(pin _ List.mem_cons_self).1, o2, ⟨(pin _ List.mem_cons_self).2, fa.2⟩, o4⟩, ?_, fun y hy => ?_, fun q hq => ?_, hld.b, hld.lt⟩
        · obtain ⟨y, hy, e⟩ := List.mem_map.mp hin
          exact ⟨y.2, by have e : y.1 = G.L := e; rw [← e]; exact hy⟩
        · obtain ⟨y1, y2, y3, y4, y5⟩ := ffo y hy
          exact ⟨(pin y (List.mem_cons_of_mem _ hy)).1, ⟨(pin y (List.mem_cons_of_mem _ hy)).2, y2.2⟩, y3, y4, y5⟩
        · have := dn.apart q hq
          rw [hn] at this
          exact this
      · rw [er]
        exact fun B s H M wk' => next B s H M wk'
    · obtain ⟨_, _, _, _, _, _, _, _, _, _, z, _⟩ := q; cases z
end
end XG

namespace XG
open _root_.PySem PySem.W L2 GenW TD
open PyProof.Rows (AllBare envOfC)
section
variable {X : Cx} {W : WX} {N ps : List Str} {x : Str} {scope : Scope} {f : Addr} {cdv : Value} {body0 : List Stmt} {fd : FuncData} {k n : Nat} {sp : SpGn} {dds : List D}
/-- the generator is made: what follows knows its items -/
theorem made_gen2 {B : Bk} {pins : List (Addr × Obj)} {s : Shared} {σ : St} {H : Hp} {ρ : DSt} {M : Mem} {a1 : Expr} {es : List Expr} {p cp : Pos} {ta : TDA} {R : List D → Mem → Prop} {E0 : XD} (bl : Blind X.xe) (hr : Room (k + 1) X.A) (go : GOk X N ps x scope f cdv body0 fd k sp) (bd : GBd X.K fd ps n dds) (ha : DAx X W (a1 :: es) ta) (hgl : Gl X x) (hdb : (x == ("__debug__" : Str)) = false) (hst : starEach (a1 :: es) X.env = (false, eval a1 X.env) :: starEach es X.env) (hpl : (backTo cp (starEach es X.env)).any (·.1) = false)
    (J : InvX X B pins σ H s) (sg : SG B s) (dv : DvL X.K H σ ρ) (sm : Sim X.K H M) (q : ta ρ M (fun es M1 => es.length = n ∧ ∃ items, sp (es ++ dds) items ∧ R items M1) E0) (he : wUp X.K W σ H M E0) {Q : Value → Shared → Prop}
    (kk : ∀ (a g : Nat) (items : List D) (H5 : Hp) (M5 : Mem) (s5 s6 : Shared) (oa oL : Obj) (gs : GenState), R items M5 → Tr H M H5 M5 → DvL X.K H5 σ ρ → Sim X.K H5 M5 → InvX X B pins σ H5 s5 → InvX X B pins σ H5 s6 → SG (B.off [(s5.heap.objs.size, oL)]) s6 → Dd (B.off [(s5.heap.objs.size, oL)]) H5 s6 → (∀ b o, s5.heap.get? b = some o → s6.heap.get? b = some o) → s6.os = s5.os → s6.heap.get? a = some oa → GObj oa g 0 → s5.heap.objs.size < a →
      s6.heap.get? s5.heap.objs.size = some oL → isCell oL = false → B g = none → s6.gens[g]? = some gs → Alive (mkG X.prog X.w X.K X.mg X.base N x scope f cdv X.A.in1 X.stack s5.heap.objs.size g) items gs [(s5.heap.objs.size, oL)] [] H5 M5 → Q (.ref a) s6) :
    wpAny (modelX X.prog X.w) X.A (eval (.Call (.Name x p) (a1 :: es) [] cp) X.env) Q (fun e s' => X.xe e s' ∧ SG B s') s := by
  have gd := go.def_
  obtain ⟨dvs, vds, hbd, hvd, hrd, hlen⟩ := bd.ex
  have nm := (PEx.of bl (pe_glob (v := .ref f) (pos := p) hgl gd.mg rfl hdb)).run B pins s σ H (fun v H' => v = .ref f ∧ H' = H) J sg ⟨rfl, rfl⟩
  refine wpAny_Call_Name_kw (wpAny_mono nm (fun u s4 ⟨⟨v4, H4, I4, r4, e4, e5⟩, sg4⟩ => ?_) fun _ _ h => h)
  subst e4 e5
  cases r4
  refine PySem.W.callWith_K (h₀ := X.base) J.ok.mod.kin gd.kp (wpAny_mono (ha.run B cp pins s4 σ H4 (fun vs H1 => ∃ ds M1, Reps X.K H1 vs ds ∧ Sim X.K H1 M1 ∧ Tr H4 M H1 M1 ∧ ds.length = n ∧ ∃ items, sp (ds ++ dds) items ∧ R items M1) I4 sg4 ⟨ρ, M, _, E0, dv, sm, q, fun ds M1 q1 vs H1 r1 s1 t1 => ⟨ds, M1, r1, s1, t1, q1⟩, he⟩) (fun us s5 ⟨⟨vs, H5, I5, rvs, ds5, M5, reps, sm5, t5, len, items, hsp, hR⟩, sg5⟩ => ⟨I5.kIn, ?_⟩) fun _ _ h => h) hst hpl
  obtain ⟨oc, od, params, dV, kV, doc, pm, ct, an, osl, efd, lk⟩ := gd.ex
  subst efd
  have ncs : ∀ y ∈ scope.names, y.2 ≠ .cell := fun y hy e => by
    rcases gd.names y hy with z | z | z <;> (rw [z] at e; cases e)
  have lus : us.length = n := vals_len rvs reps len
  have lvd : vds.length = dds.length := (hrd H5).length
  refine wpAny_hsz (Nat.le_refl s5.heap.objs.size) (born (pins := pins ++ dls B s5) (B := B.now s5) (args := ⟨us, []⟩) (G := mkG X.prog X.w X.K X.mg X.base N x scope f cdv X.A.in1 X.stack s5.heap.objs.size s5.gens.size) I5.pinned sg5.now (hr.mono (Nat.le_succ k)) rfl rfl lk gd.code gd.sc ncs (fun Gs => hbd { s5 with gens := Gs } us I5.kIn lus) (rvs.append hvd) (by rw [List.length_append, reps.length, len, lvd]; exact hlen) fun a s6 I60 sg60 bn hsz => ?_)
  have J6 := I5.behind I60 sg60 hsz
  have sg6 := sg5.behind sg60
  obtain ⟨oL, eL, fL, cL⟩ := bn.fr
  obtain ⟨oa, ea, goa⟩ := bn.obj
  have hlt : s5.heap.objs.size < a := bn.lt
  have na : H5 a = none := I5.hok.fresh (Nat.le_of_lt hlt)
  have nL : H5 s5.heap.objs.size = none := I5.hok.fresh (Nat.le_refl _)
  have bN : B s5.gens.size = none := by
    cases e : B s5.gens.size with
    | none => rfl
    | some y =>
      have z := (sg5.sl s5.gens.size y e).1
      rw [Array.getElem?_eq_none (Nat.le_refl _)] at z
      cases z
  have offS : SG (B.off [(s5.heap.objs.size, oL)]) s6 := sg6.wide rfl fun i x h1 h2 h3 z => ⟨z, fun b hb p hp e => by
    obtain ⟨z1, z2, z3⟩ := sg60.nl i x h1 h2 h3
    obtain ⟨_, ob, e2, _⟩ := I5.dd.un i x b z1 z2 h3 hb
    have lt := Heap.lt_size e2
    rw [List.mem_singleton.mp hp] at e
    have e : s5.heap.objs.size = b := e
    rw [← e] at lt
    exact absurd lt (Nat.lt_irrefl _)⟩
  have offD : Dd (B.off [(s5.heap.objs.size, oL)]) H5 s6 := ⟨J6.dd.un, fun i x b h1 h2 => ⟨J6.dd.fr i x b h1 h2, fun c hc p hp e => by
    rw [h1] at hc
    cases hc
    rw [List.mem_singleton.mp hp] at e
    have e : s5.heap.objs.size = b := e
    have lt := Heap.lt_size eL
    have lt : s5.heap.objs.size < s6.heap.objs.size := lt
    rw [e] at lt
    exact absurd lt (Nat.not_lt.mpr h2)⟩⟩
  refine kk a s5.gens.size items H5 M5 s5 s6 oa oL (.fresh (.func body0 (envOfC x scope s5.heap.objs.size f cdv))) hR t5 (dv.mono t5) sm5 I5 J6 offS offD bn.keep bn.os ea goa hlt eL cL bN bn.gen ?_
  refine go.fresh _ _ hsp (mkG X.prog X.w X.K X.mg X.base N x scope f cdv X.A.in1 X.stack s5.heap.objs.size s5.gens.size) rfl rfl rfl rfl rfl rfl ⟨_, rfl⟩ (gn_ok gd I5.toInv) hr.in1 I5.ok.frames (start N (vs ++ vds)) H5 M5 oL fL ?_
  have rr : Reps X.K H5 (vs ++ vds) (ds5 ++ dds) := reps.append (hrd H5)
  have e : L2.start N (vs ++ vds) = (vs ++ vds).map some ++ List.replicate (N.length - (ds5 ++ dds).length) none := by unfold L2.start; rw [rr.length]
  rw [e]
  exact DvL.start rr _
end
/-! ### the block of a comprehension, told from the state ahead of the generator's birth -/
section
variable {X : Cx}
theorem blk_rebase {scope : Scope} {ce : Env} {pins0 pins : List (Addr × Obj)} {σ0 σ : St} {H5 H3 H : Hp} {s5 s3 s : Shared} (I5 : Inv X pins0 σ0 H5 s5) (hk : ∀ b o, s5.heap.get? b = some o → s3.heap.get? b = some o) (hH : ∀ b o, s5.heap.get? b = some o → H3 b = H5 b) (hH2 : ∀ b u, H5 b = some u → H3 b = some u) (hsz : s5.heap.objs.size ≤ s3.heap.objs.size) (hos : s3.os = s5.os)
    (J : Inv (X.blk s3 H3 scope ce []) pins σ H s) (nocell : ∀ y, scope.names.lookup y ≠ some .cell) : Inv (X.blk s5 H5 scope ce []) pins σ H s :=
  ⟨⟨J.ok.mod, J.ok.kind, J.ok.glob, J.ok.blt, Nat.le_trans hsz J.ok.above, J.ok.inj, J.ok.has, (fun y c z e => absurd (show scope.names.lookup y = some .cell by simpa using (show (scope.names.lookup y == some NameKind.cell) = true from z)) (nocell y)), J.ok.hd, J.ok.frames, .inl rfl, (fun b hb => by cases hb), I5.bs, Nat.le_trans I5.ok.bsz I5.sz, (fun b o e hb => by cases hb), (fun b hb => by cases hb), I5.stack, I5.stkFree⟩,
    J.os.trans hos, J.bare, ⟨fun b o e n hb hx => J.base.keep b o (hk b o e) (by show H3 b = none; rw [hH b o e]; exact n) hb hx, fun b o e n hb hx => J.base.slot b o (hk b o e) (by show H3 b = none; rw [hH b o e]; exact n) hb hx, fun b o e n hx => J.base.free b o (hk b o e) (by show H3 b = none; rw [hH b o e]; exact n) hx, fun b o e hx => J.base.there b o (hk b o e) hx, fun b xs e => J.base.tups b xs (hH2 _ _ e), fun b o u e => J.base.frzs b o u (hH2 _ _ e), fun b ps e => J.base.tbls b ps (hH2 _ _ e)⟩,
    J.loc, J.cell, J.free, J.freeC, J.pin, J.hok, J.len⟩
theorem blk_cells {scope : Scope} {ce : Env} {n : Nat} {own : List (Str × Nat)} {sc : Scope} (ok : BlkOk X.N sc scope own) (nocell : ∀ y, scope.names.lookup y ≠ some .cell) {h : Heap} (has : ∀ y ∈ scope.names, y.2 = .free → ∃ c, X.env.cells.lookup y.1 = some c) {y : Str} {c : Addr} (e : (cellsFrom h.objs.size scope.names (cloFrom X.env.cells scope.names [])).lookup y = some c) : X.env.cells.lookup y = some c := by
  rcases cells_mem (PySem.mem_of_lookup e) with hm | ⟨h1, _, _⟩
  · rcases cloFrom_mem hm with hm | ⟨h1, rfl⟩
    · cases hm
    · obtain ⟨c, hc⟩ := has _ h1 rfl
      rw [hc]; rfl
  · exact absurd (ok.uniq _ h1) (nocell y)
end
/-! ### the loop of its block -/
theorem compX {P : Program} {w : World} {A : Around} {R : Result → Shared → Prop} {s : Shared} {elt target iter : Expr} {ifs : List Expr} {scope : Scope} {pos : Pos} {it acc : Value} {env : Env} (I : Nat → Shared → Prop)
    (turn : ∀ n s, I n s → wpAny (modelX P w) A (pyNext it) (fun r s₁ => match r with
      | none => R (.ok .next) s₁
      | some v => wpAny (modelX P w) A (letOwnedTupleGo target it v) (fun _ s₁' => wpAny (modelX P w) A (assign target env v) (fun _ s₂ =>
          wpAny (modelX P w) A (forIn ifs true fun c r => if r = true then do let ok ← isTrue c env (eval c env); pure (ForInStep.yield ok) else pure (ForInStep.yield r)) (fun ok s₃ =>
            if ok = true then wpAny (modelX P w) A (eval elt env) (fun x s₄ =>
              wpAny (modelX P w) A (call (.builtin "list.append") [acc, x]) (fun _ s₅ => ∃ m, m < n ∧ I m s₅) EF s₄) EF s₃
            else ∃ m, m < n ∧ I m s₃) EF s₂) EF s₁') EF s₁) EF s)
    (n : Nat) (h : I n s) : codeAny (modelX P w) A (.compLoop (.ListComp elt [⟨target, iter, ifs, 0⟩] scope pos) 0 it acc env) R s := by
  refine codeAny_loop' rfl I (fun n s hI => ?_) n h
  show wpAny _ A ((compTurn (.ListComp elt [⟨target, iter, ifs, 0⟩] scope pos) 0 it acc env).onRaise _) _ _ s
  refine wpAny_onRaise ?_
  rw [compTurn_list]
  refine wpAny_bind (wpAny_standAt (wpAny_bind (wpAny_mono (turn n s hI) (fun r s₁ h₁ => ?_) fun _ _ h' => h'.elim)))
  cases r with
  | none => exact wpAny_pure h₁
  | some v =>
    refine wpAny_bind (wpAny_mono h₁ (fun _ s₁' h₁' => ?_) fun _ _ h' => h'.elim)
    refine wpAny_bind (wpAny_mono h₁' (fun _ s₂ h₂ => wpAny_bind (wpAny_mono h₂ (fun ok s₃ h₃ => ?_) fun _ _ h' => h'.elim)) fun _ _ h' => h'.elim)
    cases ok with
    | false => exact wpAny_pure (.inl ⟨rfl, h₃⟩)
    | true =>
      exact wpAny_bind (wpAny_bind (wpAny_mono h₃ (fun x s₄ h₄ => wpAny_bind (wpAny_mono h₄ (fun _ s₅ h₅ => wpAny_pure (wpAny_pure (.inl ⟨rfl, h₅⟩))) fun _ _ h' => h'.elim)) fun _ _ h' => h'.elim))
theorem compStartX {P : Program} {w : World} {A : Around} {R : Result → Shared → Prop} {s : Shared} {elt target iter : Expr} {ifs : List Expr} {rest : List Comprehension} {scope : Scope} {pos : Pos} {it acc : Value} {env : Env}
    (h0 : codeAny (modelX P w) A (.compLoop (.ListComp elt (⟨target, iter, ifs, 0⟩ :: rest) scope pos) 0 it acc env) R s)
    (h : wpAny (modelX P w) A (pyIter it) (fun it' s' => codeAny (modelX P w) A (.compLoop (.ListComp elt (⟨target, iter, ifs, 0⟩ :: rest) scope pos) 0 it' acc env) R s') EF s) :
    codeAny (modelX P w) A (.compStart (.ListComp elt (⟨target, iter, ifs, 0⟩ :: rest) scope pos) 0 it acc env) R s := by
  refine codeAny_of_tree ?_
  show wpAny _ _ ((compStart (.ListComp elt (⟨target, iter, ifs, 0⟩ :: rest) scope pos) 0 it acc env).onRaise _) _ _ s
  refine wpAny_onRaise ?_
  unfold compStart
  show wpAny _ _ (ask >>= _) _ _ s
  refine wpAny_bind (wpAny_askSetting (wpAny_ite ?_))
  split
  · first
      | exact wpAny_bind (wpAny_pure (wpAny_pure (And.intro rfl h0)))
      | exact wpAny_pure (And.intro rfl h0)
  · first
      | exact wpAny_bind (wpAny_rule (wpAny_bind (wpAny_standAt (wpAny_bind (wpAny_mono h (fun it' s' h' => wpAny_pure (And.intro rfl h')) fun _ _ x => x.elim)))))
      | (refine wpAny_bind (wpAny_rule ?_); show wpAny _ _ (standAt iter.pos >>= _) _ _ s; exact wpAny_bind (wpAny_standAt (wpAny_bind (wpAny_mono h (fun it' s' h' => wpAny_pure (And.intro rfl h')) fun _ _ x => x.elim))))
end XG

namespace XG
open _root_.PySem PySem.W L2 GenW TD
open PyProof.Rows (AllBare envOfC)
/-! ### the rule: [e for t in f(..) if c] -/
theorem tr_vis {H H' : Hp} {M M' : Mem} {D : Addr} {mo mo' : MO} (t : Tr H M H' M') : Tr H (mupd M D mo) H' (mupd M' D mo') := by
  have ne : ∀ a, mupd M D mo a = none → a ≠ D ∧ M a = none := fun a h => by
    by_cases e : a = D
    · subst e; rw [mupd_same] at h; cases h
    · rw [mupd_ne e] at h; exact ⟨e, h⟩
  refine ⟨t.tup, t.frz, fun a o h n => ?_, fun a o h n => t.st a o h (ne a n).2, t.tb, t.dom⟩
  obtain ⟨e, n⟩ := ne a n
  rw [mupd_ne e]
  exact t.fr a o h n
theorem sim_vis {K : PySem.W.Frag} {H : Hp} {M : Mem} {D : Addr} {xs : List V} {acc : List TD.D} (s : Sim K H M) (hL : H D = some (.lst xs)) (hR : Reps K H xs acc) : Sim K H (mupd M D (.lst acc)) := fun a o h => by
  by_cases e : a = D
  · subst e; rw [mupd_same] at h; cases h; exact ⟨xs, hL, hR⟩
  · rw [mupd_ne e] at h; exact s a o h
def DLx (X : Cx) (W : WX) (e : Expr) (td : TDL) : Prop := PEx X e (upL X.K W td)
def tdLcG (sp : SpGn) (n : Nat) (dds : List D) (ta : TDA) (g : TDG) (tt : TDT) (te : TDE) (vs : List Nat) : TDL := fun ρ M Q E => ta ρ M (fun es M1 => es.length = n ∧ ∃ items, sp (es ++ dds) items ∧ LcI items gTrue g tt te (dwipe ρ vs) M1 Q) E
section
variable {X : Cx} {W : WX} {N ps : List Str} {x : Str} {scope cscope : Scope} {f : Addr} {cdv : Value} {body0 : List Stmt} {fd : FuncData} {k n : Nat} {sp : SpGn} {dds : List D}
theorem dd_sb {B : Bk} {H : Hp} {s : Shared} {h' : Heap} {C : Addr} {m : Str → Option Value} (d : Dd B H s) (hns : s.heap.Ns C m) (sb : s.heap.SameBut C h') : Dd B H { s with heap := h' } :=
  d.grow rfl (fun a o e q n => ⟨n, o, (sb.2 a (fun z => by
    obtain ⟨o', es, ep, ho, h3, _⟩ := hns
    obtain ⟨vs, ed⟩ := gen_fields q
    rw [z, ho] at e
    cases e
    rw [ed] at h3; cases h3)).trans e, q⟩) (by show _ ≤ h'.objs.size; exact Nat.le_of_eq sb.1.symm)
theorem lx_core {use : Option (Value → Sem Unit)} {Qf : Value → Shared → Prop} {B : Bk} {pins : List (Addr × Obj)} {s : Shared} {σ : St} {H : Hp} {ρ : DSt} {M : Mem} {Q0 : List D → Mem → Prop} {E0 : XD} {a1 : Expr} {es ifs : List Expr} {p cp pos : Pos} {ta : TDA} {tg elt : Expr} {g : TDG} {tt : TDT} {te : TDE} {own : List (Str × Nat)} (hx : X.xe = EF) (hc : X.calm = true) (hN : X.N.Nodup) (hr : Room (k + 1) X.A) (go : GOk X N ps x scope f cdv body0 fd k sp) (bd : GBd X.K fd ps n dds) (ha : DAx X W (a1 :: es) ta) (ok : BlkOk X.N X.env.scope cscope own) (nocell : ∀ y, cscope.names.lookup y ≠ some .cell)
    (hg : ∀ (s : Shared) (H : Hp) (C : Addr) (cl : List (Str × Addr)) (fp : List Addr), CG (X.blk s H cscope (compEnvC cscope cl C X.env) fp) (own.map (·.2)) tg g) (ht : ∀ (s : Shared) (H : Hp) (C : Addr) (cl : List (Str × Addr)) (fp : List Addr), DPTs (X.blk s H cscope (compEnvC cscope cl C X.env) fp) ifs tt)
    (he : ∀ (s : Shared) (H : Hp) (C : Addr) (cl : List (Str × Addr)) (fp : List Addr), DE (X.blk s H cscope (compEnvC cscope cl C X.env) fp) W0 elt te)
    (hgl : Gl X x := by rfl) (hdb : (x == ("__debug__" : Str)) = false := by decide) (hst : starEach (a1 :: es) X.env = (false, eval a1 X.env) :: starEach es X.env := by rfl) (hpl : (backTo cp (starEach es X.env)).any (·.1) = false := by rfl)
    (hfs : ∀ v, foldedSetIterable (.Call (.Name x p) (a1 :: es) [] cp) X.env v = pure v := by intro _; rfl) 
    (J : InvX X B pins σ H s) (sg : SG B s) (dv : DvL X.K H σ ρ) (sm : Sim X.K H M) (q : tdLcG sp n dds ta g tt te (own.map (·.2)) ρ M Q0 E0) (hw : wUp X.K W σ H M E0)
    (hfin : ∀ (Dl C : Addr) (s1 : Shared) (m : Str → Option Value) (H1 : Hp) (acc : List TD.D) (M2 : Mem) (xs : List V), InvX X B pins σ H1 s1 → SG B s1 → s1.heap.Ns C m → FpOk X pins H1 C → H Dl = none → H1 Dl = some (.lst xs) → M2 Dl = none → Reps X.K H1 xs acc → Sim X.K H1 M2 → Tr H M H1 M2 → Q0 acc M2 → compPost (modelX X.prog X.w) X.A (fun e s' => X.xe e s' ∧ SG B s') use Qf (.ref Dl) C (.ok .next) s1) :
    wpAny (modelX X.prog X.w) X.A (comprehension (.ListComp elt [⟨tg, .Call (.Name x p) (a1 :: es) [] cp, ifs, 0⟩] cscope pos) cscope X.env (firstIterPos [⟨tg, .Call (.Name x p) (a1 :: es) [] cp, ifs, 0⟩] pos) (newList []) false (eval (.Call (.Name x p) (a1 :: es) [] cp) X.env) use) Qf (fun e s' => X.xe e s' ∧ SG B s') s := by
  have bl : Blind X.xe := by rw [hx]; exact blindF
  generalize hvs : own.map (fun p : Str × Nat => p.2) = vs at *
  have q : ta ρ M (fun es M1 => es.length = n ∧ ∃ items, sp (es ++ dds) items ∧ LcI items gTrue g tt te (dwipe ρ vs) M1 Q0) E0 := q
  have free : ∀ y ∈ cscope.names, y.2 = .free → ∃ c, X.env.cells.lookup y.1 = some c := fun y hy e => J.ok.has _ (ok.free y hy e)
  have nm : ∀ y ∈ cscope.names, y.2 = .local → cscope.names.lookup y.1 = some .local := fun y hy e => (ok.uniq y hy).trans (congrArg some e)
  refine wpAny_comprehension_free (use := use) rfl hfs (closure_ok free) ok.kind nm ?_
  refine made_gen2 (W := W) (R := fun items M1 => LcI items gTrue g tt te (dwipe ρ vs) M1 Q0) bl hr go bd ha hgl hdb hst hpl J sg dv sm q hw fun a g0 items H5 M5 s5 s6 oa oL gs hF t5 dv5 sm5 I5 I6 offS offD kp os6 hoa hga hlt hoL hcL bN hgs al => ?_
  refine iterX hoa hga.cls ?_
  refine wpAny_newObj_type (newEnv_comp ?_) (Nat.zero_le _)
  let Dq : Addr := s6.heap.objs.size
  let o3 : Obj := { cls := .type "list", data := .seq ([] : List Value).toArray }
  let s7 : Shared := { s6 with heap := s6.heap.push o3 }
  have keep67 : ∀ b o, s6.heap.get? b = some o → s7.heap.get? b = some o := fun b o e => Heap.get?_push_of_some _ e
  have hD5 : H5 Dq = none := I6.hok.fresh (Nat.le_refl _)
  have I7 : Inv X pins σ (upd H5 Dq (.lst [])) s7 := I6.toInv.laid (t' := s6.toks) keep67 (Nat.le_refl _) ⟨Nat.zero_le _, [], 0, .nil, Heap.get?_push_size _ rfl⟩
  have I8 := block_start I7 ok hN (fp := []) fun b hb => by cases hb
  have sz56 : s5.heap.objs.size ≤ s6.heap.objs.size := Nat.le_of_lt (Nat.lt_trans hlt (Heap.lt_size hoa))
  have sz7 : s7.heap.objs.size = s6.heap.objs.size + 1 := Heap.size_push ..
  have JY := blk_rebase I5.toInv (fun b o e => keep67 b o (kp b o e)) (fun b o e => upd_ne (Nat.ne_of_lt (Nat.lt_of_lt_of_le (Heap.lt_size e) sz56))) (fun b u e => (upd_ne (fun z => by rw [z, hD5] at e; cases e)).trans e) (by rw [sz7]; exact Nat.le_succ_of_le sz56) (show s7.os = s5.os from os6) I8 nocell
  rw [hvs] at JY
  have hcl : ∀ y c, (compEnvC cscope (cellsFrom (s7.heap.objs.size + 1) cscope.names (cloFrom X.env.cells cscope.names [])) s7.heap.objs.size X.env).cells.lookup y = some c → X.env.cells.lookup y = some c := fun y c e =>
    blk_cells (ce := X.env) (n := 0) ok nocell (h := s7.heap.push { cls := .type "dict", data := .dict #[] }) free (by rw [Heap.size_push]; exact e)
  have eL : (compEnvC cscope (cellsFrom (s7.heap.objs.size + 1) cscope.names (cloFrom X.env.cells cscope.names [])) s7.heap.objs.size X.env).locals = s7.heap.objs.size := rfl
  have pg := hg s5 H5 s7.heap.objs.size (cellsFrom (s7.heap.objs.size + 1) cscope.names (cloFrom X.env.cells cscope.names [])) []
  have pt := ht s5 H5 s7.heap.objs.size (cellsFrom (s7.heap.objs.size + 1) cscope.names (cloFrom X.env.cells cscope.names [])) []
  have pe := he s5 H5 s7.heap.objs.size (cellsFrom (s7.heap.objs.size + 1) cscope.names (cloFrom X.env.cells cscope.names [])) []
  show codeAny _ _ (.compStart _ 0 (.ref a) (.ref Dq) (compEnvC cscope (cellsFrom (s7.heap.objs.size + 1) cscope.names (cloFrom X.env.cells cscope.names [])) s7.heap.objs.size X.env)) _ { s7 with heap := pushCells (s7.heap.push { cls := .type "dict", data := .dict #[] }) cscope.names }
  generalize hce : compEnvC cscope (cellsFrom (s7.heap.objs.size + 1) cscope.names (cloFrom X.env.cells cscope.names [])) s7.heap.objs.size X.env = ce at JY pg pt pe hcl eL ⊢
  unfold LcI at hF
  obtain ⟨Iv, h0, _, hs, hd⟩ := hF
  have kp8 : ∀ b o, s6.heap.get? b = some o → (pushCells (s7.heap.push { cls := .type "dict", data := .dict #[] }) cscope.names).get? b = some o := fun b o e => pushCells_keeps _ _ _ _ (Heap.get?_push_of_some _ (keep67 b o e))
  have frsLt : ∀ b ∈ frs X.stack, b < s5.heap.objs.size := fun b hb => by
    obtain ⟨_, o, e, _⟩ := I5.stack.mem hb
    exact Heap.lt_size e
  have cellLt : ∀ y c, ce.cells.lookup y = some c → c < s5.heap.objs.size := fun y c e => by
    obtain ⟨v, z⟩ := I5.cell y c (hcl y c e)
    exact z.lt
  have gone : ∀ b, s5.heap.objs.size ≤ b → b < s6.heap.objs.size → FpOk (X.blk s5 H5 cscope ce []) [] (upd H5 Dq (.lst [])) b := fun b h1 h2 => by
    refine ⟨(upd_ne (Nat.ne_of_lt h2)).trans (I5.hok.fresh h1), ?_, fun hb => ?_, .inr h1, fun y c e => Nat.ne_of_lt (Nat.lt_of_lt_of_le (cellLt y c e) h1), fun p hp => by cases hp⟩
    · show b ≠ ce.locals
      rw [eL, sz7]
      exact Nat.ne_of_lt (Nat.lt_succ_of_lt h2)
    · exact absurd (frsLt b hb) (Nat.not_lt.mpr h1)
  let Z : Nat → St → DSt → Mem → Hp → Prop := fun i σ' ρ' M' H' => σ' = L2.wipe σ vs ∧ ρ' = dwipe ρ vs ∧ ∃ acc M1, M' = mupd M1 Dq (.lst acc) ∧ M1 Dq = none ∧ Iv i acc M1
  let Rr : Nat → St → Hp → DSt → Mem → St → Hp → Prop := fun i σ' H' ρ' M' σ2 H2 => ∃ ρ2 M2 acc M1, L2.wipe σ2 vs = L2.wipe σ' vs ∧ DvL X.K H2 σ2 ρ2 ∧ Sim X.K H2 M2 ∧ Tr H' M1 H2 M2 ∧ M' = mupd M1 Dq (.lst acc) ∧ M1 Dq = none ∧
    tt ρ2 M2 (fun b M3 => cnd b (te ρ2 M3 (fun y M4 => acc.length < sizeLine ∧ Iv (i + 1) (acc ++ [y]) M4) (fun _ _ _ => False)) (Iv (i + 1) acc M3)) (fun _ _ _ => False)
  let Tp : Nat → Shared → Prop := fun i s' => Top2 (X.blk s5 H5 cscope ce []) (mkG X.prog X.w X.K X.mg X.base N x scope f cdv X.A.in1 X.stack s5.heap.objs.size g0) B [] a g0 H5 M5 items Z i s'
  have start : Tp 0 { s7 with heap := pushCells (s7.heap.push { cls := .type "dict", data := .dict #[] }) cscope.names } := by
    have smD : Sim X.K (upd H5 Dq (.lst [])) (mupd M5 Dq (.lst [])) := sm5.newM hD5 ⟨[], upd_same, .nil⟩
    have tD : Tr H5 M5 (upd H5 Dq (.lst [])) (mupd M5 Dq (.lst [])) := Tr.newM hD5
    have gL := Heap.lt_size hoL
    refine ⟨gs, oa, [(s5.heap.objs.size, oL)], [], H5, M5, L2.wipe σ vs, upd H5 Dq (.lst []), dwipe ρ vs, mupd M5 Dq (.lst []), JY, (dv5.mono tD).wipe _, smD, tD, ⟨rfl, rfl, [], M5, rfl, sm5.free hD5, h0⟩, Nat.zero_le _, ?_, by rw [List.drop_zero]; exact al, tD, hgs, (sg_set (x := .running) (B := B.off [(s5.heap.objs.size, oL)]) offS bN rfl).at rfl, dd_set (B := B.off [(s5.heap.objs.size, oL)]) (offD.grow rfl (fun b ob e q n => ⟨(upd_ne (Nat.ne_of_lt (Heap.lt_size e))).trans n, ob, kp8 b ob e, q⟩) (by have z := JY.lt; have z : ce.locals < _ := z; rw [eL, sz7] at z; exact Nat.le_of_lt (Nat.lt_of_succ_lt z))) rfl⟩
    refine ⟨⟨kp8 _ _ hoa, hga, gone a (Nat.le_of_lt hlt) (Heap.lt_size hoa), hlt⟩, ⟨oL, List.mem_singleton.mpr rfl⟩, fun y hy => ?_, (fun q hq => by cases hq), bN, frsLt, Nat.le_refl _, frsLt, cellLt⟩
    rw [List.mem_singleton.mp hy]
    exact ⟨kp8 _ _ hoL, gone _ (Nat.le_refl _) gL, hcL, Nat.le_refl _, Nat.ne_of_lt hlt⟩
  have loop : codeAny (modelX X.prog X.w) X.A (.compLoop (.ListComp elt [⟨tg, .Call (.Name x p) (a1 :: es) [] cp, ifs, 0⟩] cscope pos) 0 (.ref a) (.ref Dq) ce) (compPost (modelX X.prog X.w) X.A (fun e s' => X.xe e s' ∧ SG B s') use Qf (.ref Dq) ce.locals) { s7 with heap := pushCells (s7.heap.push { cls := .type "dict", data := .dict #[] }) cscope.names } := by
    refine compX (fun m s' => ∃ i, m = items.length - i ∧ Tp i s') (fun m s' hm => ?_) items.length ⟨0, rfl, start⟩
    obtain ⟨i, em, t⟩ := hm
    refine wpAny_mono (next_top2 (X := X.blk s5 H5 cscope ce []) (R := Rr) (N := fun s1 => compPost (modelX X.prog X.w) X.A (fun e s' => X.xe e s' ∧ SG B s') use Qf (.ref Dq) ce.locals (.ok .next) s1)
      (Post := fun i s3 => wpAny (modelX X.prog X.w) X.A (forIn ifs true fun c r => if r = true then do let ok ← isTrue c ce (eval c ce); pure (ForInStep.yield ok) else pure (ForInStep.yield r)) (fun ok s₃ =>
            if ok = true then wpAny (modelX X.prog X.w) X.A (eval elt ce) (fun x s₄ =>
              wpAny (modelX X.prog X.w) X.A (call (.builtin "list.append") [.ref Dq, x]) (fun _ s₅ => i < items.length ∧ Tp (i + 1) s₅) EF s₄) EF s₃
            else i < items.length ∧ Tp (i + 1) s₃) EF s3) hc hr.depth rfl rfl rfl rfl rfl rfl rfl rfl pg ?hZ ?hI ?hN ?hK t) (fun r s1 h => ?hF) fun _ _ z => z
    case hZ => exact fun _ _ _ _ _ _ h _ _ => h
    case hI =>
      rintro i d w σ1 H1 ρ1 M1 hd1 ⟨eσ, eρ, acc, M2, eM, hMD, iv⟩ dv1 sm1 rd
      subst eσ eρ eM
      exact ⟨dwipe ρ vs, M2, d, _, dv1, sm1.le (MLe.new hMD), rd, hs i d acc M2 hd1 iv, fun ρ2 M3 q2 σ2 H2 w2 dv2 sm2 t2 => ⟨ρ2, M3, acc, M2, w2, dv2, sm2, t2, rfl, hMD, q2⟩⟩
    case hN =>
      rintro σ1 H1 ρ1 M1 s1 J1 sg1 dv1 sm1 t1 ⟨eσ, eρ, acc, M2, eM, hMD, iv⟩
      subst eσ eρ eM
      obtain ⟨xs, hL, hR⟩ := sm1 Dq _ mupd_same
      have I9 : Inv X pins σ H1 s1 := I5.call' (ch := []) J1.os J1.base J1.hok J1.bare (fun b hb => by cases hb)
      have nC : H1 ce.locals = none := J1.free
      obtain ⟨mm, hns, _⟩ := J1.loc
      exact hfin Dq ce.locals s1 mm H1 acc M2 xs ⟨I9, J1.dd⟩ sg1 hns (I5.fpOk J1.ok.above nC) (t5.fresh hD5) hL hMD hR (sm1.le (MLe.new hMD)) (t5.trans (t1.le (MLe.new hMD))) (hd acc M2 iv)
    case hK =>
      rintro i B' pins' σ1 H1 ρ1 M1 σ2 H2 s3 hlt3 J3 sg3 ⟨ρ2, M3, acc, M2, ew, dv2, sm2, t2, eM, hMD, q2⟩ dv1 sm1 ⟨eσ, eρ, _, _, _, _, _⟩ next
      subst eσ eρ eM
      obtain ⟨xs, hL, hR⟩ := sm1 Dq _ mupd_same
      have hL2 := t2.st _ _ hL hMD rfl
      have hM2 := t2.fr _ _ hL hMD
      have hR2 := hR.mono t2
      have fin : ∀ {s' : Shared} {H' : Hp} {M' : Mem}, InvX (X.blk s5 H5 cscope ce []).nox B' ([] ++ pins') σ2 H' s' → SG B' s' → Sim X.K H' M' → Tr H1 (mupd M2 Dq (.lst acc)) H' M' → (∃ acc' M4, M' = mupd M4 Dq (.lst acc') ∧ M4 Dq = none ∧ Iv (i + 1) acc' M4) → i < items.length ∧ Tp (i + 1) s' := fun {s' H' M'} I' g' sm' t' ex => by
        refine ⟨hlt3, next s' (L2.wipe σ vs) H' (dwipe ρ vs) M' ⟨I'.toInv.weak (σ' := L2.wipe σ vs) ((L2.wipe_length (L2.wipe σ vs) vs).symm.trans ((congrArg List.length ew.symm).trans (L2.wipe_length σ2 vs))) fun j v e => ?_, I'.dd⟩ g' (dv1.mono t') sm' t' ⟨rfl, rfl, ex⟩⟩
        rw [← wipe_wipe σ vs, ← ew] at e
        exact (wipe_some e).1
      have rt := upX (X := (X.blk s5 H5 cscope ce []).nox) (Q' := TPX (X.blk s5 H5 cscope ce []).nox B' ([] ++ pins') σ2 (fun b H' => ∃ M4, Sim X.K H' M4 ∧ Tr H2 M3 H' M4 ∧ cnd b (te ρ2 M4 (fun y M5 => acc.length < sizeLine ∧ Iv (i + 1) (acc ++ [y]) M5) (fun _ _ _ => False)) (Iv (i + 1) acc M4))) J3 sg3 (lift J3.bare sg3.now (pt.p.run _ _ σ2 H2 (fun b H' => ∃ M4, Sim X.K H' M4 ∧ Tr H2 M3 H' M4 ∧ cnd b (te ρ2 M4 (fun y M5 => acc.length < sizeLine ∧ Iv (i + 1) (acc ++ [y]) M5) (fun _ _ _ => False)) (Iv (i + 1) acc M4)) (inv_poison J3.pinned) ⟨ρ2, M3, _, _, dv2, sm2, q2, fun b M4 q4 H4 s4 t4 => ⟨M4, s4, t4, q4⟩, w0_up⟩) (fun b s4 Gs hz hb sg4 => ⟨tp_gens hz hb, sg4⟩) fun _ _ _ z _ _ => z.elim) fun _ _ ⟨H4, I4, q4⟩ k => ⟨H4, k _ _ I4, q4⟩
      refine wpAny_mono rt (fun b s4 ⟨hz, sg4⟩ => ?_) fun _ _ z => z.1.elim
      obtain ⟨H4, I4, M4, sm4, t4, q4⟩ := hz
      have hL4 := t4.st _ _ hL2 hM2 rfl
      have hM4 := t4.fr _ _ hL2 hM2
      have hR4 := hR2.mono t4
      cases b with
      | false =>
        rw [cnd_false] at q4
        rw [if_neg Bool.false_ne_true]
        exact fin I4 sg4 (sim_vis sm4 hL4 hR4) (tr_vis (t2.trans t4)) ⟨acc, M4, rfl, hM4, q4⟩
      | true =>
        rw [cnd_true] at q4
        rw [if_pos rfl]
        have re := (PEx.of (X := (X.blk s5 H5 cscope ce []).nox) blindF pe).run B' _ _ σ2 H4 (fun v H' => ∃ y M6, Rep X.K H' v y ∧ Sim X.K H' M6 ∧ Tr H4 M4 H' M6 ∧ acc.length < sizeLine ∧ Iv (i + 1) (acc ++ [y]) M6) I4 sg4 ⟨ρ2, M4, _, _, dv2.mono t4, sm4, q4, fun y M6 q6 vy H6 r6 s6 t6 => ⟨y, M6, r6, s6, t6, q6⟩, w0_up⟩
        refine wpAny_mono re (fun u s6 ⟨⟨vy, H6, I6, ru, y, M6, r6, sm6, t6, hsz, q6⟩, sg6⟩ => ?_) fun _ _ z => z.1.elim
        have hL6 := t6.st _ _ hL4 hM4 rfl
        have hM6 := t6.fr _ _ hL4 hM4
        have hR6 := hR4.mono t6
        have ra := upX (X := (X.blk s5 H5 cscope ce []).nox) (Q' := fun _ s' => InvX (X.blk s5 H5 cscope ce []).nox B' ([] ++ pins') σ2 (upd H6 Dq (.lst (xs ++ [vy]))) s') I6 sg6 (lift I6.bare sg6.now (app_ok (X := (X.blk s5 H5 cscope ce []).nox) (Q := fun _ s' => Inv (X.blk s5 H5 cscope ce []).nox ([] ++ pins' ++ dls B' s6) σ2 (upd H6 Dq (.lst (xs ++ [vy]))) s') (E := EF) (inv_poison I6.pinned) hL6 (by rw [hR6.length]; exact hsz) ru fun s' I' => I') (fun _ s7 Gs I7 hb sg7 => ⟨inv_gens I7 hb, sg7⟩) fun _ _ _ z _ _ => z.elim) fun _ _ I' k => k _ _ I'
        refine wpAny_mono ra (fun _ s7 ⟨I7, sg7⟩ => ?_) fun _ _ z => z.1.elim
        have rR : Reps X.K (upd H6 Dq (.lst (xs ++ [vy]))) (xs ++ [vy]) (acc ++ [y]) := (hR6.hidden hL6).append (.cons (r6.hidden hL6) .nil)
        have smE := sim_vis (sm6.hidden (ws := xs ++ [vy]) hL6 hM6) upd_same rR
        have tE : Tr H1 (mupd M2 Dq (.lst acc)) H6 (mupd M6 Dq (.lst acc)) := tr_vis ((t2.trans t4).trans t6)
        have tW : Tr H6 (mupd M6 Dq (.lst acc)) (upd H6 Dq (.lst (xs ++ [vy]))) (mupd (mupd M6 Dq (.lst acc)) Dq (.lst (acc ++ [y]))) := Tr.wr mupd_same hL6 rfl
        rw [mupd_mupd] at tW
        exact fin I7 sg7 smE (tE.trans tW) ⟨acc ++ [y], M6, rfl, hM6, q6⟩
    case hF =>
      cases r with
      | none => exact h
      | some v =>
        have dn : ∀ s', i < items.length ∧ Tp (i + 1) s' → ∃ m1, m1 < m ∧ ∃ i, m1 = items.length - i ∧ Tp i s' := fun s' ⟨h1, h2⟩ => ⟨items.length - (i + 1), by omega, i + 1, rfl, h2⟩
        refine wpAny_mono h (fun _ s2 h => wpAny_mono h (fun _ s3 h => wpAny_mono h (fun ok s4 h => ?_) fun _ _ z => z) fun _ _ z => z) fun _ _ z => z
        cases ok with
        | false => rw [if_neg Bool.false_ne_true] at h ⊢; exact dn _ h
        | true =>
          rw [if_pos rfl] at h ⊢
          exact wpAny_mono h (fun _ s5 h => wpAny_mono h (fun _ s6 h => dn _ h) fun _ _ z => z) fun _ _ z => z
  rw [eL] at loop
  exact compStartX loop (iterX (kp8 _ _ hoa) hga.cls loop)
theorem lx_gen {a1 : Expr} {es ifs : List Expr} {p cp pos : Pos} {ta : TDA} {tg elt : Expr} {g : TDG} {tt : TDT} {te : TDE} {own : List (Str × Nat)} (hx : X.xe = EF) (hc : X.calm = true) (hN : X.N.Nodup) (hr : Room (k + 1) X.A) (go : GOk X N ps x scope f cdv body0 fd k sp) (bd : GBd X.K fd ps n dds) (ha : DAx X W (a1 :: es) ta) (ok : BlkOk X.N X.env.scope cscope own) (nocell : ∀ y, cscope.names.lookup y ≠ some .cell)
    (hg : ∀ (s : Shared) (H : Hp) (C : Addr) (cl : List (Str × Addr)) (fp : List Addr), CG (X.blk s H cscope (compEnvC cscope cl C X.env) fp) (own.map (·.2)) tg g) (ht : ∀ (s : Shared) (H : Hp) (C : Addr) (cl : List (Str × Addr)) (fp : List Addr), DPTs (X.blk s H cscope (compEnvC cscope cl C X.env) fp) ifs tt)
    (he : ∀ (s : Shared) (H : Hp) (C : Addr) (cl : List (Str × Addr)) (fp : List Addr), DE (X.blk s H cscope (compEnvC cscope cl C X.env) fp) W0 elt te)
    (hgl : Gl X x := by rfl) (hdb : (x == ("__debug__" : Str)) = false := by decide) (hst : starEach (a1 :: es) X.env = (false, eval a1 X.env) :: starEach es X.env := by rfl) (hpl : (backTo cp (starEach es X.env)).any (·.1) = false := by rfl)
    (hfs : ∀ v, foldedSetIterable (.Call (.Name x p) (a1 :: es) [] cp) X.env v = pure v := by intro _; rfl) :
    DLx X W (.ListComp elt [⟨tg, .Call (.Name x p) (a1 :: es) [] cp, ifs, 0⟩] cscope pos) (tdLcG sp n dds ta g tt te (own.map (·.2))) := by
  refine ⟨fun B pins s σ H Q J sg ⟨ρ, M, Q0, E0, dv, sm, q, hqq, hw⟩ => ?_⟩
  show wpAny (modelX X.prog X.w) X.A (eval (.ListComp elt [⟨tg, .Call (.Name x p) (a1 :: es) [] cp, ifs, 0⟩] cscope pos) X.env) (fun u s' => EPX X B pins σ Q u s' ∧ SG B s') (fun e s' => X.xe e s' ∧ SG B s') s
  rw [eval_ListComp]
  refine lx_core (use := none) hx hc hN hr go bd ha ok nocell hg ht he hgl hdb hst hpl hfs J sg dv sm q hw fun Dl C s1 mm H1 acc M2 xs I9 sg1 hns fpC hD hL hMD hR sm1 t1 hq0 => ⟨mm, hns, fun h'' sb => ?_⟩
  obtain ⟨z0, z1, z2, z3, z4, z5⟩ := fpC
  exact ⟨⟨.ref Dl, H1, ⟨I9.toInv.turned (t' := s1.toks) (fun b o hb e => (sb.2 b hb).trans e) z0 z1 z3 z4 z5, dd_sb I9.dd hns sb⟩, rfl, hqq acc M2 hq0 Dl xs H1 hD hL hMD hR sm1 t1⟩, sg1.at rfl⟩
theorem sx_setLcG (i : Nat) {y : Str} {py spos : Pos} {a1 : Expr} {es ifs : List Expr} {p cp pos : Pos} {ta : TDA} {tg elt : Expr} {g : TDG} {tt : TDT} {te : TDE} {own : List (Str × Nat)} (hx : X.xe = EF) (hc : X.calm = true) (hN : X.N.Nodup) (hr : Room (k + 1) X.A) (go : GOk X N ps x scope f cdv body0 fd k sp) (bd : GBd X.K fd ps n dds) (ha : DAx X W (a1 :: es) ta) (ok : BlkOk X.N X.env.scope cscope own) (nocell : ∀ y, cscope.names.lookup y ≠ some .cell)
    (hg : ∀ (s : Shared) (H : Hp) (C : Addr) (cl : List (Str × Addr)) (fp : List Addr), CG (X.blk s H cscope (compEnvC cscope cl C X.env) fp) (own.map (·.2)) tg g) (ht : ∀ (s : Shared) (H : Hp) (C : Addr) (cl : List (Str × Addr)) (fp : List Addr), DPTs (X.blk s H cscope (compEnvC cscope cl C X.env) fp) ifs tt)
    (he : ∀ (s : Shared) (H : Hp) (C : Addr) (cl : List (Str × Addr)) (fp : List Addr), DE (X.blk s H cscope (compEnvC cscope cl C X.env) fp) W0 elt te)
    (hgl : Gl X x := by rfl) (hdb : (x == ("__debug__" : Str)) = false := by decide) (hst : starEach (a1 :: es) X.env = (false, eval a1 X.env) :: starEach es X.env := by rfl) (hpl : (backTo cp (starEach es X.env)).any (·.1) = false := by rfl)
    (hfs : ∀ v, foldedSetIterable (.Call (.Name x p) (a1 :: es) [] cp) X.env v = pure v := by intro _; rfl) 
    (hsw : swapsWith (.ListComp elt [⟨tg, .Call (.Name x p) (a1 :: es) [] cp, ifs, 0⟩] cscope pos) (some (.Name y py)) spos.line X.env = pure true) (hy : X.N[i]? = some y := by rfl) (hyl : X.env.scope.names.lookup y = some .local := by rfl) :
    DSx X W (.Assign [.Name y py] (.ListComp elt [⟨tg, .Call (.Name x p) (a1 :: es) [] cp, ifs, 0⟩] cscope pos) spos) (tdAsg (tdLE (tdLcG sp n dds ta g tt te (own.map (·.2)))) (gdName i)) := by
  refine ⟨fun B pins s σ H D J sg h => ?_⟩
  have h2 := up_asg (gg := gName i) (fun v σ H Q ⟨ρ, M, d, Q0, dv, sm, r, q, f⟩ => f _ _ q _ H (dv.set r i) sm (Tr.refl H M)) h
  obtain ⟨ρ, M, Q0, E0, dv, sm, q, hqq, hw⟩ := up_le h2
  show wpAny (modelX X.prog X.w) X.A _ _ _ s
  rw [exec_Assign_Name_used _ _ _ _ hsw]
  refine wpAny_bind (wpAny_standAt (wpAny_bind ?_))
  show wpAny (modelX X.prog X.w) X.A (do let _ ← comprehension (.ListComp elt [⟨tg, .Call (.Name x p) (a1 :: es) [] cp, ifs, 0⟩] cscope pos) cscope X.env (firstIterPos [⟨tg, .Call (.Name x p) (a1 :: es) [] cp, ifs, 0⟩] pos) (newList []) false (eval (.Call (.Name x p) (a1 :: es) [] cp) X.env) (some (assign (.Name y py) X.env))) _ _ s
  refine wpAny_bind (wpAny_mono (lx_core (Qf := fun _ s' => SPX X B pins D .next s' ∧ SG B s') hx hc hN hr go bd ha ok nocell hg ht he hgl hdb hst hpl hfs J sg dv sm q hw fun Dl C s1 mm H1 acc M2 xs I9 sg1 hns fpC hD hL hMD hR sm1 t1 hq0 => ?_) (fun _ s' hq => wpAny_pure (wpAny_pure hq)) fun _ _ z => z)
  show wpAny (modelX X.prog X.w) X.A (assign (.Name y py) X.env (.ref Dl)) _ _ _
  obtain ⟨f0, f1, f2, f3, f4, f5⟩ := fpC
  refine wpAny_mono (upX (Q := fun _ s' => Inv X (pins ++ dls B s1) (σ.set i (some (V.ref Dl))) H1 s' ∧ s'.heap.Ns C mm) (Q' := fun _ s' => InvX X B pins (σ.set i (some (V.ref Dl))) H1 s' ∧ s'.heap.Ns C mm) I9 sg1 (lift (E := fun _ _ => False) I9.bare sg1.now (wpAny_assign_Name (store_ok2 (Q := fun _ s2 => Inv X (pins ++ dls B s1) (σ.set i (some (V.ref Dl))) H1 s2 ∧ s2.heap.Ns C mm) (v := V.ref Dl) (inv_poison I9.pinned) hN hy (.inl hyl) rfl (fun s2 I2 ⟨a, sb, ha⟩ => ⟨I2, hns.sameBut sb (by
    rcases ha with z | z
    · rw [z]; exact f1
    · exact fun e => f4 y a z e.symm)⟩) (.inr hyl))) (fun _ s2 Gs ⟨I2, hn2⟩ hb sg2 => ⟨⟨inv_gens I2 hb, hn2⟩, sg2⟩) fun _ _ _ z _ _ => (show False from z).elim) fun _ _ ⟨I', hn'⟩ k => ⟨k _ _ I', hn'⟩) (fun _ s2 ⟨⟨I2, hn2⟩, sg2⟩ => ?_) fun _ _ z => z
  refine ⟨mm, hn2, fun h3 sb3 => ?_⟩
  exact ⟨⟨_, H1, ⟨I2.toInv.turned (t' := s2.toks) (fun b o hb e => (sb3.2 b hb).trans e) f0 f1 f3 f4 f5, dd_sb I2.dd hn2 sb3⟩, hqq acc M2 hq0 Dl xs H1 hD hL hMD hR sm1 t1⟩, sg2.at rfl⟩
end
end XG

/-! XG: built-in functions of a list that a comprehension over a generator makes. -/
namespace XG
open _root_.PySem PySem.W L2 GenW TD
section
variable {X : Cx} {W : WX} {e : Expr} {p pos : Pos} {x : Str} {r : List V → Hp → VK → Prop} {rq : RQ} {tq : TDQ} {id : String}
def DQx (X : Cx) (W : WX) (e : Expr) (td : TDQ) : Prop := PEx X e (upQ X.K W td)
theorem DLx.q {t : TDL} (h : DLx X W e t) : DQx X W e t := PEx.imp h fun σ H Q ⟨ρ, M, Q0, E0, dv, sm, q, hq, he⟩ => ⟨ρ, M, Q0, E0, dv, sm, q, fun ds M1 q1 a vs H1 _ g _ r1 s1 t1 => hq ds M1 q1 a vs H1 (SqL.of g) r1 s1 t1, he⟩
theorem DLx.de {t : TDL} (h : DLx X W e t) : DEx X W e (tdLE t) := PEx.imp h fun σ H Q ⟨ρ, M, Q0, E0, dv, sm, q, hq, he⟩ => by
  refine ⟨ρ, M, _, E0, dv, sm, q, fun ds M1 q1 a vs H1 gf g gm r1 s1 t1 => ?_, he⟩
  refine hq _ _ (q1 a gm) _ H1 (.ref a) (fun b o hb => ?_) ⟨t1.tup, t1.frz, fun b o hb n => ?_, t1.st, t1.tb, t1.dom⟩
  · by_cases e : b = a
    · subst e; rw [mupd_same] at hb; cases hb; exact ⟨vs, g, r1⟩
    · rw [mupd_ne e] at hb; exact s1 b o hb
  · rw [mupd_ne (Hfree hb gf)]; exact t1.fr b o hb n
theorem dx_bltQ (bl : Blind X.xe) (hc : CallR X (.builtin id) r) (l : LiftQ X.K r rq) (hm : X.mg x = none) (hv : bootBuiltins x = some (.builtin id)) (ha : DQx X W e tq) (hg : Gl X x := by rfl) (hn : x ≠ "__name__" := by decide) (hdb : (x == ("__debug__" : Str)) = false := by decide)
    (hs : starEach [e] X.env = (false, eval e X.env) :: starEach [] X.env := by rfl) : DEx X W (.Call (.Name x p) [e] [] pos) (tdQ rq tq) := PEx.imp (pex_callB bl hc hg hm hv (pax_cons ha pax_nil hs) hn hdb hs rfl) fun _ _ _ h => up_q l h
theorem dx_all (bl : Blind X.xe) (hm : X.mg "all" = none) (hc : X.calm = true) (ha : DQx X W e tq) (hg : Gl X "all" := by rfl) (hs : starEach [e] X.env = (false, eval e X.env) :: starEach [] X.env := by rfl) : DEx X W (.Call (.Name "all" p) [e] [] pos) (tdQ (rqBls fun bs => bs.all _root_.id) tq) := dx_bltQ bl (cr_all hc) l_all hm (by decide +kernel) ha hg (by decide) (by decide) hs
theorem dx_sum (bl : Blind X.xe) (hm : X.mg "sum" = none) (hc : X.calm = true) (ha : DQx X W e tq) (hg : Gl X "sum" := by rfl) (hs : starEach [e] X.env = (false, eval e X.env) :: starEach [] X.env := by rfl) : DEx X W (.Call (.Name "sum" p) [e] [] pos) (tdQ rqSum tq) := dx_bltQ bl (cr_sum hc) l_sum hm (by decide +kernel) ha hg (by decide) (by decide) hs
theorem dx_max (bl : Blind X.xe) (hm : X.mg "max" = none) (hc : X.calm = true) (ha : DQx X W e tq) (hg : Gl X "max" := by rfl) (hs : starEach [e] X.env = (false, eval e X.env) :: starEach [] X.env := by rfl) : DEx X W (.Call (.Name "max" p) [e] [] pos) (tdQ rqMax tq) := dx_bltQ bl (cr_max hc) l_max hm (by decide +kernel) ha hg (by decide) (by decide) hs
theorem dx_min (bl : Blind X.xe) (hm : X.mg "min" = none) (hc : X.calm = true) (ha : DQx X W e tq) (hg : Gl X "min" := by rfl) (hs : starEach [e] X.env = (false, eval e X.env) :: starEach [] X.env := by rfl) : DEx X W (.Call (.Name "min" p) [e] [] pos) (tdQ rqMin tq) := dx_bltQ bl (cr_min hc) l_min hm (by decide +kernel) ha hg (by decide) (by decide) hs
end
theorem nocell_by {scope : Scope} (h : (scope.names.all fun p => match p.2 with | .cell => false | _ => true) = true) : ∀ y, scope.names.lookup y ≠ some .cell := fun y e => by
  have z := List.all_eq_true.mp h _ (PySem.mem_of_lookup e)
  cases z
end XG

/-! XG: a, b = x, y with a consumer. -/
namespace XG
open _root_.PySem PySem.W L2 GenW TD
open PyProof.Rows (AllBare envOfC Tuple_ unpackItems_tuple assignInOrder_cons assignInOrder_nil)
section
variable {X : Cx} {W : WX}
theorem psx_par {i j : Nat} {x y : Str} {a b : Expr} {ta : TA} {px py pt pos : Pos} {kt k2 pt2} (hc : X.calm = true) (hN : X.N.Nodup) (hi : X.N[i]? = some x) (hj : X.N[j]? = some y) (hij : i ≠ j)
    (hx : X.env.scope.names.lookup x = some .local) (hy : X.env.scope.names.lookup y = some .local) (ha : PAx X [a, b] ta)
    (hw : swappedStores [.Tuple [.Name x px, .Name y py] kt pt] (.Tuple [a, b] k2 pt2) X.env = pure (some [x, y]))
    (hs : swapsWithSole [.Tuple [.Name x px, .Name y py] kt pt] (.Tuple [a, b] k2 pt2) pos.line X.env = pure false := by rfl) :
    PSx X (.Assign [.Tuple [.Name x px, .Name y py] kt pt] (.Tuple [a, b] k2 pt2) pos) (tPar i j ta) := by
  refine ⟨fun B pins s σ H D J g h => ?_⟩
  show wpAny (modelX X.prog X.w) X.A _ _ _ s
  rw [exec_Assign_arm]
  refine wpAny_bind (wpAny_standAt ?_)
  rw [hs]
  refine wpAny_bind (wpAny_pure ?_)
  rw [if_neg (by decide)]
  refine wpAny_bind (Tuple_ (thx (ha.run B _ pins s σ H _ J g h) fun us s1 ⟨vs, H1, J1, r1, q1⟩ g1 => ?_))
  obtain ⟨v, w, e1, q1⟩ := q1
  subst e1
  obtain ⟨u1, u2, rfl, rv, rw'⟩ : ∃ u1 u2, us = [u1, u2] ∧ RelV v u1 ∧ RelV w u2 := by
    cases r1 with
    | cons p q =>
      cases q with
      | cons p' q' =>
        cases q'
        exact ⟨_, _, rfl, p, p'⟩
  refine wpAny_newObj_type ?_ (by show 2 ≤ sizeLine; decide)
  have I2 : Inv X pins σ H1 { s1 with heap := s1.heap.push { cls := .type "tuple", data := .seq [u1, u2].toArray } } := J1.toInv.kept (t' := s1.toks) fun b o e => Heap.get?_push_of_some _ e
  have J2 : InvX X B pins σ H1 { s1 with heap := s1.heap.push { cls := .type "tuple", data := .seq [u1, u2].toArray } } := ⟨I2, J1.dd.grow rfl (fun a o e q n => ⟨n, o, Heap.get?_push_of_some _ e, q⟩) (by show _ ≤ (s1.heap.push _).objs.size; rw [push_sz]; exact Nat.le_succ _)⟩
  have g2 : SG B { s1 with heap := s1.heap.push { cls := .type "tuple", data := .seq [u1, u2].toArray } } := g1.at rfl
  have tup := PyProof.Rows.IsTup.new s1.heap [u1, u2].toArray
  rw [hw]
  refine wpAny_bind (wpAny_pure ?_)
  show wpAny (modelX X.prog X.w) X.A (do rule "assign.swapped-stores"; let items ← unpackItems (.ref s1.heap.objs.size) 2 none; assignInOrder [fun v => bindName X.env y v, fun v => bindName X.env x v] items.reverse; pure Flow.next) _ _ _
  refine wpAny_mono (upX (Q := fun f s' => f = .next ∧ Inv X (pins ++ dls B { s1 with heap := s1.heap.push { cls := .type "tuple", data := .seq [u1, u2].toArray } }) ((σ.set i (some v)).set j (some w)) H1 s') (Q' := fun f s' => f = .next ∧ InvX X B pins ((σ.set i (some v)).set j (some w)) H1 s') J2 g2 (lift (Q := fun f s' => f = .next ∧ Inv X (pins ++ dls B { s1 with heap := s1.heap.push { cls := .type "tuple", data := .seq [u1, u2].toArray } }) ((σ.set i (some v)).set j (some w)) H1 s') (E := fun _ _ => False) J2.bare g2.now ?run (fun f s' G ⟨e, I'⟩ b g' => ⟨⟨e, inv_gens I' b⟩, g'⟩) fun _ _ _ z _ _ => z.elim) fun _ _ ⟨e, I'⟩ k => ⟨e, k _ _ I'⟩) (fun f s' ⟨⟨e, I'⟩, g'⟩ => by subst e; exact ⟨⟨_, H1, I', q1⟩, g'⟩) fun _ _ z => z
  have Ip := inv_poison J2.pinned
  refine wpAny_bind (wpAny_rule (wpAny_bind (unpackItems_tuple (items := #[u1, u2]) (J.ok.hd hc) tup fun h' hx' => ?_)))
  have I3 := Ip.kept (h' := h') (t' := s1.toks) fun b o e => hx' b o (Nat.ne_of_lt (Heap.lt_size e)) e
  show wpAny _ _ (assignInOrder [fun v => bindName X.env y v, fun v => bindName X.env x v] [u2, u1] >>= fun _ => pure Flow.next) _ _ _
  refine wpAny_bind (assignInOrder_cons (wpAny_bindName (store_ok I3 hN hj (.inl hy) rw' (fun s2 I4 => ?_) (.inr hy))))
  refine assignInOrder_cons (wpAny_bindName (store_ok I4 hN hi (.inl hx) rv (fun s3 I5 => assignInOrder_nil (wpAny_pure ?_)) (.inr hx)))
  rw [List.set_comm _ _ (Ne.symm hij)] at I5
  exact ⟨rfl, I5⟩
theorem sx_par (i j : Nat) {x y : Str} {a b : Expr} {ta : TDA} {px py pt pos : Pos} {kt k2 pt2} (hc : X.calm = true) (hN : X.N.Nodup) (ha : DAx X W [a, b] ta) (hi : X.N[i]? = some x := by rfl) (hj : X.N[j]? = some y := by rfl) (hij : i ≠ j := by decide)
    (hx : X.env.scope.names.lookup x = some .local := by rfl) (hy : X.env.scope.names.lookup y = some .local := by rfl)
    (hw : swappedStores [.Tuple [.Name x px, .Name y py] kt pt] (.Tuple [a, b] k2 pt2) X.env = pure (some [x, y]) := by rfl)
    (hs : swapsWithSole [.Tuple [.Name x px, .Name y py] kt pt] (.Tuple [a, b] k2 pt2) pos.line X.env = pure false := by rfl) :
    DSx X W (.Assign [.Tuple [.Name x px, .Name y py] kt pt] (.Tuple [a, b] k2 pt2) pos) (tdPar i j ta) := PSx.imp (psx_par hc hN hi hj hij hx hy ha hw hs) fun D σ H ⟨ρ, M, D0, dv, sm, q, eu⟩ => by
  refine ⟨ρ, M, _, _, dv, sm, q, fun ds M1 q1 vs H1 r1 s1 t1 => ?_, eu.w dv⟩
  match ds, vs, r1, q1 with
  | [d1, d2], _, .cons r1 (.cons r2 .nil), q1 => exact ⟨_, _, rfl, eu.nx _ _ q1 _ H1 (((dv.mono t1).set r1 i).set r2 j) s1 t1⟩
end
end XG

/-! XG: a, b, c = x, y, z with a consumer. -/
namespace XG
open _root_.PySem PySem.W L2 GenW TD
open PyProof.Rows (AllBare envOfC Tuple_ unpackItems_tuple assignInOrder_cons assignInOrder_nil)
section
variable {X : Cx} {W : WX}
theorem psx_par3 {i j l : Nat} {x y z : Str} {a b c : Expr} {ta : TA} {px py pz pt pos : Pos} {kt k2 pt2} (hc : X.calm = true) (hN : X.N.Nodup) (hi : X.N[i]? = some x) (hj : X.N[j]? = some y) (hl : X.N[l]? = some z) (hij : i ≠ j) (hil : i ≠ l) (hjl : j ≠ l)
    (hx : X.env.scope.names.lookup x = some .local) (hy : X.env.scope.names.lookup y = some .local) (hz : X.env.scope.names.lookup z = some .local) (ha : PAx X [a, b, c] ta)
    (hw : swappedStores [.Tuple [.Name x px, .Name y py, .Name z pz] kt pt] (.Tuple [a, b, c] k2 pt2) X.env = pure (some [x, y, z]))
    (hs : swapsWithSole [.Tuple [.Name x px, .Name y py, .Name z pz] kt pt] (.Tuple [a, b, c] k2 pt2) pos.line X.env = pure false := by rfl) :
    PSx X (.Assign [.Tuple [.Name x px, .Name y py, .Name z pz] kt pt] (.Tuple [a, b, c] k2 pt2) pos) (tPar3 i j l ta) := by
  refine ⟨fun B pins s σ H D J g h => ?_⟩
  show wpAny (modelX X.prog X.w) X.A _ _ _ s
  rw [exec_Assign_arm]
  refine wpAny_bind (wpAny_standAt ?_)
  rw [hs]
  refine wpAny_bind (wpAny_pure ?_)
  rw [if_neg (by decide)]
  refine wpAny_bind (Tuple_ (thx (ha.run B _ pins s σ H _ J g h) fun us s1 ⟨vs, H1, J1, r1, q1⟩ g1 => ?_))
  obtain ⟨v, w, t, e1, q1⟩ := q1
  subst e1
  obtain ⟨u1, u2, u3, rfl, rv, rw', rt⟩ : ∃ u1 u2 u3, us = [u1, u2, u3] ∧ RelV v u1 ∧ RelV w u2 ∧ RelV t u3 := by
    cases r1 with
    | cons p q =>
      cases q with
      | cons p' q' =>
        cases q' with
        | cons p'' q'' =>
          cases q''
          exact ⟨_, _, _, rfl, p, p', p''⟩
  refine wpAny_newObj_type ?_ (by show 3 ≤ sizeLine; decide)
  have I2 : Inv X pins σ H1 { s1 with heap := s1.heap.push { cls := .type "tuple", data := .seq [u1, u2, u3].toArray } } := J1.toInv.kept (t' := s1.toks) fun b o e => Heap.get?_push_of_some _ e
  have J2 : InvX X B pins σ H1 { s1 with heap := s1.heap.push { cls := .type "tuple", data := .seq [u1, u2, u3].toArray } } := ⟨I2, J1.dd.grow rfl (fun a o e q n => ⟨n, o, Heap.get?_push_of_some _ e, q⟩) (by show _ ≤ (s1.heap.push _).objs.size; rw [push_sz]; exact Nat.le_succ _)⟩
  have g2 : SG B { s1 with heap := s1.heap.push { cls := .type "tuple", data := .seq [u1, u2, u3].toArray } } := g1.at rfl
  have tup := PyProof.Rows.IsTup.new s1.heap [u1, u2, u3].toArray
  rw [hw]
  refine wpAny_bind (wpAny_pure ?_)
  show wpAny (modelX X.prog X.w) X.A (do rule "assign.swapped-stores"; let items ← unpackItems (.ref s1.heap.objs.size) 3 none; assignInOrder [fun v => bindName X.env z v, fun v => bindName X.env y v, fun v => bindName X.env x v] items.reverse; pure Flow.next) _ _ _
  refine wpAny_mono (upX (Q := fun f s' => f = .next ∧ Inv X (pins ++ dls B { s1 with heap := s1.heap.push { cls := .type "tuple", data := .seq [u1, u2, u3].toArray } }) (((σ.set i (some v)).set j (some w)).set l (some t)) H1 s') (Q' := fun f s' => f = .next ∧ InvX X B pins (((σ.set i (some v)).set j (some w)).set l (some t)) H1 s') J2 g2 (lift (Q := fun f s' => f = .next ∧ Inv X (pins ++ dls B { s1 with heap := s1.heap.push { cls := .type "tuple", data := .seq [u1, u2, u3].toArray } }) (((σ.set i (some v)).set j (some w)).set l (some t)) H1 s') (E := fun _ _ => False) J2.bare g2.now ?run (fun f s' G ⟨e, I'⟩ b g' => ⟨⟨e, inv_gens I' b⟩, g'⟩) fun _ _ _ z _ _ => z.elim) fun _ _ ⟨e, I'⟩ k => ⟨e, k _ _ I'⟩) (fun f s' ⟨⟨e, I'⟩, g'⟩ => by subst e; exact ⟨⟨_, H1, I', q1⟩, g'⟩) fun _ _ z => z
  have Ip := inv_poison J2.pinned
  refine wpAny_bind (wpAny_rule (wpAny_bind (unpackItems_tuple (items := #[u1, u2, u3]) (J.ok.hd hc) tup fun h' hx' => ?_)))
  have I3 := Ip.kept (h' := h') (t' := s1.toks) fun b o e => hx' b o (Nat.ne_of_lt (Heap.lt_size e)) e
  show wpAny _ _ (assignInOrder [fun v => bindName X.env z v, fun v => bindName X.env y v, fun v => bindName X.env x v] [u3, u2, u1] >>= fun _ => pure Flow.next) _ _ _
  refine wpAny_bind (assignInOrder_cons (wpAny_bindName (store_ok I3 hN hl (.inl hz) rt (fun s2 I4 => ?_) (.inr hz))))
  refine assignInOrder_cons (wpAny_bindName (store_ok I4 hN hj (.inl hy) rw' (fun s3 I5 => ?_) (.inr hy)))
  refine assignInOrder_cons (wpAny_bindName (store_ok I5 hN hi (.inl hx) rv (fun s4 I6 => assignInOrder_nil (wpAny_pure ?_)) (.inr hx)))
  rw [List.set_comm _ _ (Ne.symm hij), List.set_comm _ _ (Ne.symm hil), List.set_comm _ _ (Ne.symm hjl)] at I6
  exact ⟨rfl, I6⟩
theorem sx_par3 (i j l : Nat) {x y z : Str} {a b c : Expr} {ta : TDA} {px py pz pt pos : Pos} {kt k2 pt2} (hc : X.calm = true) (hN : X.N.Nodup) (ha : DAx X W [a, b, c] ta) (hi : X.N[i]? = some x := by rfl) (hj : X.N[j]? = some y := by rfl) (hl : X.N[l]? = some z := by rfl) (hij : i ≠ j := by decide) (hil : i ≠ l := by decide) (hjl : j ≠ l := by decide)
    (hx : X.env.scope.names.lookup x = some .local := by rfl) (hy : X.env.scope.names.lookup y = some .local := by rfl) (hz : X.env.scope.names.lookup z = some .local := by rfl)
    (hw : swappedStores [.Tuple [.Name x px, .Name y py, .Name z pz] kt pt] (.Tuple [a, b, c] k2 pt2) X.env = pure (some [x, y, z]) := by rfl)
    (hs : swapsWithSole [.Tuple [.Name x px, .Name y py, .Name z pz] kt pt] (.Tuple [a, b, c] k2 pt2) pos.line X.env = pure false := by rfl) :
    DSx X W (.Assign [.Tuple [.Name x px, .Name y py, .Name z pz] kt pt] (.Tuple [a, b, c] k2 pt2) pos) (tdPar3 i j l ta) := PSx.imp (psx_par3 hc hN hi hj hl hij hil hjl hx hy hz ha hw hs) fun D σ H ⟨ρ, M, D0, dv, sm, q, eu⟩ => by
  refine ⟨ρ, M, _, _, dv, sm, q, fun ds M1 q1 vs H1 r1 s1 t1 => ?_, eu.w dv⟩
  match ds, vs, r1, q1 with
  | [d1, d2, d3], _, .cons r1 (.cons r2 (.cons r3 .nil)), q1 => exact ⟨_, _, _, rfl, eu.nx _ _ q1 _ H1 ((((dv.mono t1).set r1 i).set r2 j).set r3 l) s1 t1⟩
end
end XG

/-! XG: a list comprehension over a plain iterator whose element reaches a consumer. -/
namespace XG
open _root_.PySem PySem.W L2 GenW TD
open PyProof.Rows (AllBare envOfC)
section
variable {X : Cx}
/-- where a block began: the maker's frame stood so -/
structure BlkFrom (X : Cx) (pins : List (Addr × Obj)) (σ : L2.St) (s1 : Shared) (H1 : Hp) (fp : List Addr) : Prop where
  inv : Inv X pins σ H1 s1
  fp : ∀ b ∈ fp, FpOk X pins H1 b
theorem BlkFrom.back {pins pins' : List (Addr × Obj)} {σ σ' : L2.St} {s1 s' : Shared} {H1 H' : Hp} {fp : List Addr} {scope : Scope} {ce : Env} (B : BlkFrom X pins σ s1 H1 fp) (J : Inv (X.blk s1 H1 scope ce fp) pins' σ' H' s') : Inv X pins σ H' s' :=
  B.inv.call' (ch := fp) J.os J.base J.hok J.bare fun b hb =>
    have z := B.fp b hb
    ⟨z.2.2.2.1, z.2.1, z.2.2.2.2.1, z.2.2.2.2.2⟩
/-- the loop's state: the block's context, the iterator's state, the word -/
def LcSt (Y : Cx) (B : Bk) (fp : List Addr) (tn : Nat → Heap → Prop) (σ : L2.St) (W : Nat → Nat → Hp → Prop) (n : Nat) (s : Shared) : Prop :=
  ∃ i H, InvX Y (B.offA fp) [] σ H s ∧ SG (B.offA fp) s ∧ tn i s.heap ∧ (∀ b ∈ fp, H b = none) ∧ W i n H
theorem blkFp {Y : Cx} {B : Bk} {fp : List Addr} {σ : L2.St} {H : Hp} {s : Shared} (he : Y.ex = fp) (hp : Y.pn = []) (J : InvX Y (B.offA fp) [] σ H s) (g : SG (B.offA fp) s) (hn : ∀ b ∈ fp, H b = none) : ∀ b ∈ fp, FpOk Y ([] ++ dls (B.offA fp) s) H b := fun b hb => by
  have hx : b ∈ Y.ex := by rw [he]; exact hb
  obtain ⟨z1, z2⟩ := J.ok.exf b hx
  refine ⟨hn b hb, z1, J.ok.exfs b hx, .inl hx, z2, fun q hq => ?_⟩
  rw [hp] at hq
  exact fun z => dls_off g hq (by rw [z]; exact hb)
theorem blkFp0 {Y : Cx} {B : Bk} {fp : List Addr} {σ : L2.St} {H : Hp} {s : Shared} (he : Y.ex = fp) (hp : Y.pn = []) (J : InvX Y (B.offA fp) [] σ H s) (hn : ∀ b ∈ fp, H b = none) : ∀ b ∈ fp, FpOk Y [] H b := fun b hb => by
  have hx : b ∈ Y.ex := by rw [he]; exact hb
  obtain ⟨z1, z2⟩ := J.ok.exf b hx
  refine ⟨hn b hb, z1, J.ok.exfs b hx, .inl hx, z2, fun q hq => ?_⟩
  rw [hp] at hq
  cases hq
theorem plc_core {use : Option (Value → Sem Unit)} {Qf : Value → Shared → Prop} {B : Bk} {pins : List (Addr × Obj)} {s : Shared} {σ : L2.St} {H : Hp} {Q : VK} {elt tg iter : Expr} {ifs : List Expr} {scope : Scope} {own : List (Str × Nat)} {pos : Pos} {wi : TI} {g : TG} {tt : TT} {te : TE} (hx : X.xe = EF) (hc : X.calm = true) (hN : X.N.Nodup) (hi : PI X tg iter wi) (ok : BlkOk X.N X.env.scope scope own)
    (hg : ∀ (s : Shared) (H : Hp) (C : Addr) (cl : List (Str × Addr)) (fp : List Addr), PG (X.blk s H scope (compEnvC scope cl C X.env) fp) tg g) (ht : ∀ (s : Shared) (H : Hp) (C : Addr) (cl : List (Str × Addr)) (fp : List Addr), PTs (X.blk s H scope (compEnvC scope cl C X.env) fp) ifs tt)
    (he : ∀ (s : Shared) (H : Hp) (C : Addr) (cl : List (Str × Addr)) (fp : List Addr), PEx (X.blk s H scope (compEnvC scope cl C X.env) fp).nox elt te) (hs : ∀ x, foldedSetIterable iter X.env x = pure x)
    (I : InvX X B pins σ H s) (sg : SG B s) (h : tLc wi g tt te (own.map (·.2)) σ H Q)
    (hfin : ∀ (D C : Addr) (s1 : Shared) (m : Str → Option Value) (H1 : Hp), InvX X B pins σ H1 s1 → SG B s1 → s1.heap.Ns C m → FpOk X pins H1 C → Q (.ref D) H1 → compPost (modelX X.prog X.w) X.A (fun e s' => X.xe e s' ∧ SG B s') use Qf (.ref D) C (.ok .next) s1) :
    wpAny (modelX X.prog X.w) X.A (comprehension (.ListComp elt [⟨tg, iter, ifs, 0⟩] scope pos) scope X.env (firstIterPos [⟨tg, iter, ifs, 0⟩] pos) (newList []) false (eval iter X.env) use) Qf (fun e s' => X.xe e s' ∧ SG B s') s := by
  have free : ∀ y ∈ scope.names, y.2 = .free → ∃ c, X.env.cells.lookup y.1 = some c := fun y hy e => I.ok.has _ (ok.free y hy e)
  have nm : ∀ y ∈ scope.names, y.2 = .local → scope.names.lookup y.1 = some .local := fun y hy e => (ok.uniq y hy).trans (congrArg some e)
  refine wpAny_comprehension_free (use := use) rfl hs (closure_ok free) ok.kind nm ?_
  have run := hi.run (pins ++ dls B s) _ σ H _ (inv_poison I.pinned) h
  refine wpAny_hsz (Nat.le_refl _) (wpAny_mono (wpAny_px (sr_start s) run) (fun v s2 ⟨s1, r, h1⟩ sz2 => ?_) fun e s2 ⟨s1, r, z⟩ => by rw [hx] at z; exact z.elim)
  refine wpAny_hsz sz2 (wpAny_mono (wpAny_px r h1) (fun u s4 ⟨s3, r3, h3⟩ sz4 => ?_) fun e s2 ⟨s1, r, z⟩ => by rw [hx] at z; exact z.elim)
  obtain ⟨it, fp, tn, K, H2, e, J2, T, st2, f2, hq⟩ := h3
  obtain ⟨Gs, rfl⟩ := r3.eq
  subst e
  have bare0 : AllBare Gs := sr_bare r3 I.bare J2.bare
  have sgN : SG (B.now s) { s3 with gens := Gs } := sr_sg r3 sg.now
  have JX0 : InvX X B pins σ H2 { s3 with gens := Gs } := I.behind (inv_gens J2 fun _ => bare0) sgN sz4
  have sg0 : SG (B.offA fp) { s3 with gens := Gs } := (sg.behind sgN).wide rfl fun i x h1 h2 h3 z => ⟨z, fun a ha hin => by
    obtain ⟨z1, z2, z3⟩ := sgN.nl i x h1 h2 h3
    obtain ⟨_, o, e, _⟩ := I.dd.un i x a z1 z2 h3 ha
    exact (f2 a hin).2.2.2.2.2 (a, o) (List.mem_append_right _ (List.mem_append_right _ (dls_mem z1 z2 h3 ha e))) rfl⟩
  have I2 : InvX X (B.offA fp) pins σ H2 { s3 with gens := Gs } := ⟨JX0.toInv, JX0.dd.un, fun i x a h1 h2 => ⟨JX0.dd.fr i x a h1 h2, fun c hc hin => by
    rw [h1] at hc
    cases hc
    obtain ⟨o, e, _⟩ := T.obj _ _ st2 a hin
    exact absurd (Heap.lt_size e) (Nat.not_lt.mpr h2)⟩⟩
  have f20 : ∀ b ∈ fp, FpOk X pins H2 b := fun b hb => by
    obtain ⟨q0, q1, q2, q3, q4, q5⟩ := f2 b hb
    refine ⟨q0, q1, q2, q3, q4, fun p hp => ?_⟩
    rcases List.mem_append.mp hp with hp | hp
    · exact q5 p (List.mem_append_left _ hp)
    · exact q5 p (List.mem_append_right _ (List.mem_append_left _ hp))
  have st2 : tn 0 ({ s3 with gens := Gs } : Shared).heap := st2
  generalize ({ s3 with gens := Gs } : Shared) = s2 at I2 sg0 st2 ⊢
  clear JX0 sgN
  refine wpAny_newObj_type (newEnv_comp ?_) (Nat.zero_le _)
  let D : Addr := s2.heap.objs.size
  let o3 : Obj := { cls := .type "list", data := .seq ([] : List Value).toArray }
  let s3 : Shared := { s2 with heap := s2.heap.push o3 }
  have keep3 : ∀ b o, s2.heap.get? b = some o → s3.heap.get? b = some o := fun b o e => Heap.get?_push_of_some _ e
  obtain ⟨W, ⟨m0, w0⟩, turn⟩ := hq D (I2.hok.fresh (Nat.le_refl _))
  have I3 : Inv X pins σ (upd H2 D (.lst [])) s3 := I2.toInv.laid (t' := s2.toks) keep3 (Nat.le_refl _) ⟨Nat.zero_le _, [], 0, .nil, Heap.get?_push_size _ rfl⟩
  have lt2 : ∀ b ∈ fp, b < s2.heap.objs.size := fun b hb => let ⟨_, e, _⟩ := T.obj _ _ st2 b hb; Heap.lt_size e
  have f3 : ∀ b ∈ fp, FpOk X pins (upd H2 D (.lst [])) b := fun b hb => ⟨(upd_ne (Nat.ne_of_lt (lt2 b hb))).trans (f20 b hb).1, (f20 b hb).2⟩
  have st3 : tn 0 s3.heap := T.keep _ _ _ st2 fun b _ => keep3 b
  have sz3 : s3.heap.objs.size = s2.heap.objs.size + 1 := Heap.size_push ..
  have lt3 : ∀ b ∈ fp, b < s3.heap.objs.size := fun b hb => by
    rw [sz3]
    exact Nat.lt_succ_of_lt (lt2 b hb)
  have Bk : BlkFrom X pins σ s3 (upd H2 D (.lst [])) fp := ⟨I3, f3⟩
  have I4 := block_start I3 ok hN fun b hb => ⟨f3 b hb, lt3 b hb⟩
  have kp4 : ∀ b o, s2.heap.get? b = some o → (pushCells (s3.heap.push { cls := .type "dict", data := .dict #[] }) scope.names).get? b = some o := fun b o e => pushCells_keeps _ _ _ _ (Heap.get?_push_of_some _ (keep3 b o e))
  have st4 : tn 0 (pushCells (s3.heap.push { cls := .type "dict", data := .dict #[] }) scope.names) := T.keep _ _ _ st2 fun b _ => kp4 b
  have pg := hg s3 (upd H2 D (.lst [])) s3.heap.objs.size (cellsFrom (s3.heap.objs.size + 1) scope.names (cloFrom X.env.cells scope.names [])) fp
  have pt := ht s3 (upd H2 D (.lst [])) s3.heap.objs.size (cellsFrom (s3.heap.objs.size + 1) scope.names (cloFrom X.env.cells scope.names [])) fp
  have pe := he s3 (upd H2 D (.lst [])) s3.heap.objs.size (cellsFrom (s3.heap.objs.size + 1) scope.names (cloFrom X.env.cells scope.names [])) fp
  have nofp : ∀ b ∈ fp, upd H2 D (.lst []) b = none := fun b hb => (f3 b hb).1
  have eL : (compEnvC scope (cellsFrom (s3.heap.objs.size + 1) scope.names (cloFrom X.env.cells scope.names [])) s3.heap.objs.size X.env).locals = s3.heap.objs.size := rfl
  show codeAny _ _ (.compStart _ 0 (.ref it) (.ref D) (compEnvC scope (cellsFrom (s3.heap.objs.size + 1) scope.names (cloFrom X.env.cells scope.names [])) s3.heap.objs.size X.env)) _ { s3 with heap := pushCells (s3.heap.push { cls := .type "dict", data := .dict #[] }) scope.names }
  generalize hce : compEnvC scope (cellsFrom (s3.heap.objs.size + 1) scope.names (cloFrom X.env.cells scope.names [])) s3.heap.objs.size X.env = ce at I4 pg pt pe eL ⊢
  have loop : ∀ sq : Shared, LcSt (X.blk s3 (upd H2 D (.lst [])) scope ce fp) B fp tn (L2.wipe σ (own.map (·.2))) W m0 sq → codeAny (modelX X.prog X.w) X.A (.compLoop (.ListComp elt [⟨tg, iter, ifs, 0⟩] scope pos) 0 (.ref it) (.ref D) ce) (compPost (modelX X.prog X.w) X.A (fun e s' => X.xe e s' ∧ SG B s') use Qf (.ref D) s3.heap.objs.size) sq := by
    intro sq hsq
    refine compX (fun n s' => LcSt (X.blk s3 (upd H2 D (.lst [])) scope ce fp) B fp tn (L2.wipe σ (own.map (·.2))) W n s') (fun n s5 ⟨i, H5, I5, g5, st5, n5, w5⟩ => ?_) m0 hsq
    have fp5 := blkFp (fp := fp) rfl rfl I5 g5 n5
    rcases turn i n H5 w5 with ⟨stop, qd⟩ | ⟨go, Nx, hNx, step⟩
    · have run := T.done (X.blk s3 (upd H2 D (.lst [])) scope ce fp) rfl rfl rfl hc i ([] ++ dls (B.offA fp) s5) { s5 with gens := asleepG s5 } _ H5 EF (inv_poison I5.pinned) fp5 st5 stop
      refine wpAny_hsz (Nat.le_refl _) (wpAny_mono (wpAny_px (sr_start s5) run) (fun v s6' ⟨s6, r, er, I6'⟩ sz => ?_) fun e s2 ⟨s1, r, z⟩ => z.elim)
      subst er
      obtain ⟨Gs, rfl⟩ := r.eq
      have g6N := sr_sg r g5.now
      have I6 := I5.behind (inv_gens I6' (sr_bare r I5.bare)) g6N sz
      have g6 := g5.behind g6N
      have I7 : InvX X (B.offA fp) pins σ H5 { s6 with gens := Gs } := ⟨Bk.back I6.toInv, I6.dd⟩
      have nC : H5 s3.heap.objs.size = none := by
        rw [← eL]
        exact I6.free
      obtain ⟨mm, hns, _⟩ := I6.loc
      exact hfin D s3.heap.objs.size _ mm H5 I7.onA g6.onA (by rw [← eL]; exact hns) (I3.fpOk (Nat.le_refl _) nC) qd
    · have run := T.item (X.blk s3 (upd H2 D (.lst [])) scope ce fp) rfl rfl rfl hc i ([] ++ dls (B.offA fp) s5) { s5 with gens := asleepG s5 } _ H5 EF (inv_poison I5.pinned) fp5 st5 go
      refine wpAny_hsz (Nat.le_refl _) (wpAny_mono (wpAny_px (sr_start s5) run) (fun v s6' ⟨s6, r, u, er, h6⟩ szA => ?_) fun e s2 ⟨s1, r, z⟩ => z.elim)
      subst er
      refine wpAny_hsz szA (wpAny_mono (wpAny_px r h6) (fun _ s7' ⟨s7, r7s, x, H7, I7', r7, y7, st7, n7⟩ szB => ?_) fun e s2 ⟨s1, r, z⟩ => z.elim)
      obtain ⟨Gs7, rfl⟩ := r7s.eq
      have g7N := sr_sg r7s g5.now
      have I7 := I5.behind (inv_gens I7' (sr_bare r7s I5.bare)) g7N szB
      have g7 := g5.behind g7N
      have P7 : InvX (X.blk s3 (upd H2 D (.lst [])) scope ce fp) (B.offA fp) ([] ++ pinsAt fp s7.heap) _ H7 { s7 with gens := Gs7 } := ⟨I7.toInv.pinned (blkFp0 (fp := fp) rfl rfl I7 n7) (T.obj _ _ st7), I7.dd⟩
      refine wpAny_mono ((PGx.of (X := X.blk s3 (upd H2 D (.lst [])) scope ce fp) blindF pg).run (B.offA fp) _ _ _ H7 x u _ P7 g7 r7 (step x H7 y7)) (fun _ s8 ⟨⟨σ8, H8, I8, ew, q8⟩, g8⟩ => ?_) fun _ _ z => z.1.elim
      have rt := upX (X := X.blk s3 (upd H2 D (.lst [])) scope ce fp) (Q' := TPX (X.blk s3 (upd H2 D (.lst [])) scope ce fp) (B.offA fp) ([] ++ pinsAt fp s7.heap) σ8 (fun b H9 => if b = true then te σ8 H9 _ else Nx H9)) I8 g8 (lift I8.bare g8.now (pt.run _ _ σ8 H8 _ (inv_poison I8.pinned) q8) (fun b s9 Gs9 hz hb g9 => ⟨tp_gens hz hb, g9⟩) fun _ _ _ z _ _ => z.elim) fun _ _ ⟨H9, I9, q9⟩ k => ⟨H9, k _ _ I9, q9⟩
      refine wpAny_mono rt (fun b s9 ⟨⟨H9, I9, q9⟩, g9⟩ => ?_) fun _ _ z => z.1.elim
      have fin : ∀ {s' : Shared} {H' : Hp}, InvX (X.blk s3 (upd H2 D (.lst [])) scope ce fp) (B.offA fp) ([] ++ pinsAt fp s7.heap) σ8 H' s' → SG (B.offA fp) s' → Nx H' → ∃ m, m < n ∧ LcSt (X.blk s3 (upd H2 D (.lst [])) scope ce fp) B fp tn (L2.wipe σ (own.map (·.2))) W m s' := fun {s' H'} I' g' nx => by
        obtain ⟨m', lt, w'⟩ := hNx H' nx
        have stands : ∀ b ∈ fp, ∀ o, s7.heap.get? b = some o → s'.heap.get? b = some o ∧ H' b = none := fun b hb o e => by
          have z := I'.pin (b, o) (List.mem_append_right _ (List.mem_append_right _ (mem_pinsAt hb e)))
          exact ⟨z.1, z.2.1⟩
        have wk := (I'.toInv.unpinned (pins := [])).weak (σ' := L2.wipe σ (own.map (·.2))) (by rw [← ew, L2.wipe_length]) fun j v e => by
          rw [← ew] at e
          exact (wipe_some e).1
        refine ⟨m', lt, i + 1, H', ⟨wk, I'.dd⟩, g', T.keep _ _ _ st7 fun b hb o e => (stands b hb o e).1, fun b hb => ?_, w'⟩
        obtain ⟨o, e, _⟩ := T.obj _ _ st7 b hb
        exact (stands b hb o e).2
      cases b with
      | false => exact fin I9 g9 (by simpa using q9)
      | true =>
        rw [if_pos rfl] at q9 ⊢
        have I9n : InvX (X.blk s3 (upd H2 D (.lst [])) scope ce fp).nox (B.offA fp) ([] ++ pinsAt fp s7.heap) σ8 H9 s9 := ⟨I9.toInv.wish _, I9.dd⟩
        refine wpAny_mono (pe.run (B.offA fp) _ _ σ8 H9 _ I9n g9 q9) (fun z s10 ⟨⟨yv, H10, I10, r10, acc, e10, z10, nx⟩, g10⟩ => ?_) fun _ _ z => z.1.elim
        have ra := upX (X := (X.blk s3 (upd H2 D (.lst [])) scope ce fp).nox) (Q' := fun _ s' => InvX (X.blk s3 (upd H2 D (.lst [])) scope ce fp).nox (B.offA fp) ([] ++ pinsAt fp s7.heap) σ8 (upd H10 D (.lst (acc ++ [yv]))) s') I10 g10 (lift I10.bare g10.now (app_ok (X := (X.blk s3 (upd H2 D (.lst [])) scope ce fp).nox) (Q := fun _ s' => Inv (X.blk s3 (upd H2 D (.lst [])) scope ce fp).nox ([] ++ pinsAt fp s7.heap ++ dls (B.offA fp) s10) σ8 (upd H10 D (.lst (acc ++ [yv]))) s') (E := EF) (inv_poison I10.pinned) e10 z10 r10 fun s' I' => I') (fun _ s11 Gs I11 hb g11 => ⟨inv_gens I11 hb, g11⟩) fun _ _ _ z _ _ => z.elim) fun _ _ I' k => k _ _ I'
        refine wpAny_mono ra (fun _ s11 ⟨I11, g11⟩ => ?_) fun _ _ z => z.1.elim
        exact fin ⟨I11.toInv.unwish, I11.dd⟩ g11 nx
  have start : LcSt (X.blk s3 (upd H2 D (.lst [])) scope ce fp) B fp tn (L2.wipe σ (own.map (·.2))) W m0 { s3 with heap := pushCells (s3.heap.push { cls := .type "dict", data := .dict #[] }) scope.names } := ⟨0, _, ⟨I4, I2.dd.grow rfl (fun b ob e q n => ⟨(upd_ne (Nat.ne_of_lt (Heap.lt_size e))).trans n, ob, kp4 b ob e, q⟩) (by have z := I4.lt; have z : ce.locals < _ := z; rw [eL, sz3] at z; exact Nat.le_of_lt (Nat.lt_of_succ_lt z))⟩, sg0.at rfl, st4, nofp, w0⟩
  generalize ({ s3 with heap := pushCells (s3.heap.push { cls := .type "dict", data := .dict #[] }) scope.names } : Shared) = sq at start ⊢
  refine compStartX (loop sq start) ?_
  obtain ⟨i0, H0, J0, g0, t0, n0, w0⟩ := start
  have run := T.self X.A i0 { sq with gens := asleepG sq } (fun v s' => v = .ref it ∧ s'.heap = sq.heap ∧ Inv (X.blk s3 (upd H2 D (.lst [])) scope ce fp) ([] ++ dls (B.offA fp) sq) (L2.wipe σ (own.map (·.2))) H0 s') EF t0 ⟨rfl, rfl, inv_poison J0.pinned⟩
  have rs := upX (X := X.blk s3 (upd H2 D (.lst [])) scope ce fp) (t := pyIter (.ref it)) (Q := fun v s' => v = .ref it ∧ s'.heap = sq.heap ∧ Inv (X.blk s3 (upd H2 D (.lst [])) scope ce fp) ([] ++ dls (B.offA fp) sq) (L2.wipe σ (own.map (·.2))) H0 s') (Q' := fun v s' => v = .ref it ∧ s'.heap = sq.heap ∧ InvX (X.blk s3 (upd H2 D (.lst [])) scope ce fp) (B.offA fp) [] (L2.wipe σ (own.map (·.2))) H0 s') J0 g0 (lift J0.bare g0.now run (fun v s' Gs ⟨e1, e2, I'⟩ hb g' => ⟨⟨e1, e2, inv_gens I' hb⟩, g'⟩) fun _ _ _ z _ _ => z.elim) fun _ _ ⟨e1, e2, I'⟩ k => ⟨e1, e2, k _ _ I'⟩
  refine wpAny_mono rs (fun v s' ⟨⟨e1, eh, J1⟩, hg⟩ => ?_) fun _ _ z => z.1.elim
  subst e1
  exact loop _ ⟨i0, H0, J1, hg, by show tn i0 s'.heap; rw [eh]; exact t0, n0, w0⟩
theorem pex_lc {elt tg iter : Expr} {ifs : List Expr} {scope : Scope} {own : List (Str × Nat)} {pos : Pos} {wi : TI} {g : TG} {tt : TT} {te : TE} (hx : X.xe = EF) (hc : X.calm = true) (hN : X.N.Nodup) (hi : PI X tg iter wi) (ok : BlkOk X.N X.env.scope scope own)
    (hg : ∀ (s : Shared) (H : Hp) (C : Addr) (cl : List (Str × Addr)) (fp : List Addr), PG (X.blk s H scope (compEnvC scope cl C X.env) fp) tg g) (ht : ∀ (s : Shared) (H : Hp) (C : Addr) (cl : List (Str × Addr)) (fp : List Addr), PTs (X.blk s H scope (compEnvC scope cl C X.env) fp) ifs tt)
    (he : ∀ (s : Shared) (H : Hp) (C : Addr) (cl : List (Str × Addr)) (fp : List Addr), PEx (X.blk s H scope (compEnvC scope cl C X.env) fp).nox elt te) (hs : ∀ x, foldedSetIterable iter X.env x = pure x := by intro _; rfl) :
    PEx X (.ListComp elt [⟨tg, iter, ifs, 0⟩] scope pos) (tLc wi g tt te (own.map (·.2))) := by
  refine ⟨fun B pins s σ H Q I sg h => ?_⟩
  show wpAny (modelX X.prog X.w) X.A (eval (.ListComp elt [⟨tg, iter, ifs, 0⟩] scope pos) X.env) (fun u s' => EPX X B pins σ Q u s' ∧ SG B s') (fun e s' => X.xe e s' ∧ SG B s') s
  rw [eval_ListComp]
  refine plc_core (use := none) hx hc hN hi ok hg ht he hs I sg h fun Dl C s1 mm H1 I9 sg1 hns fpC hq0 => ⟨mm, hns, fun h'' sb => ?_⟩
  obtain ⟨z0, z1, z2, z3, z4, z5⟩ := fpC
  exact ⟨⟨.ref Dl, H1, ⟨I9.toInv.turned (t' := s1.toks) (fun b o hb e => (sb.2 b hb).trans e) z0 z1 z3 z4 z5, dd_sb I9.dd hns sb⟩, rfl, hq0⟩, sg1.at rfl⟩
theorem lx_lc {W : WX} {elt tg iter : Expr} {ifs : List Expr} {scope : Scope} {own : List (Str × Nat)} {pos : Pos} {wi : TDI} {g : TDG} {tt : TDT} {te : TDE} (hx : X.xe = EF) (hc : X.calm = true) (hN : X.N.Nodup) (hi : DI X W tg iter wi) (ok : BlkOk X.N X.env.scope scope own)
    (hg : ∀ (s : Shared) (H : Hp) (C : Addr) (cl : List (Str × Addr)) (fp : List Addr), CG (X.blk s H scope (compEnvC scope cl C X.env) fp) (own.map (·.2)) tg g) (ht : ∀ (s : Shared) (H : Hp) (C : Addr) (cl : List (Str × Addr)) (fp : List Addr), DPTs (X.blk s H scope (compEnvC scope cl C X.env) fp) ifs tt)
    (he : ∀ (s : Shared) (H : Hp) (C : Addr) (cl : List (Str × Addr)) (fp : List Addr), DEx (X.blk s H scope (compEnvC scope cl C X.env) fp).nox W0 elt te) (hs : ∀ x, foldedSetIterable iter X.env x = pure x := by intro _; rfl) :
    DLx X W (.ListComp elt [⟨tg, iter, ifs, 0⟩] scope pos) (tdLc wi g tt te (own.map (·.2))) :=
  PEx.imp (pex_lc (wi := upI X.K W wi) (g := upGw X.K (List.map (fun p : Str × Nat => p.2) own) g) (tt := upT X.K W0 tt) (te := upE X.K W0 te) hx hc hN hi ok hg (fun s H C cl fp => (ht s H C cl fp).p) he hs) fun _ _ _ h => up_lc h
/-- x = [..], on one line -/
theorem sx_setLcX {W : WX} (i : Nat) {y : Str} {py spos : Pos} {elt tg iter : Expr} {ifs : List Expr} {scope : Scope} {own : List (Str × Nat)} {pos : Pos} {wi : TDI} {g : TDG} {tt : TDT} {te : TDE} (hx : X.xe = EF) (hc : X.calm = true) (hN : X.N.Nodup) (hi : DI X W tg iter wi) (ok : BlkOk X.N X.env.scope scope own)
    (hg : ∀ (s : Shared) (H : Hp) (C : Addr) (cl : List (Str × Addr)) (fp : List Addr), CG (X.blk s H scope (compEnvC scope cl C X.env) fp) (own.map (·.2)) tg g) (ht : ∀ (s : Shared) (H : Hp) (C : Addr) (cl : List (Str × Addr)) (fp : List Addr), DPTs (X.blk s H scope (compEnvC scope cl C X.env) fp) ifs tt)
    (he : ∀ (s : Shared) (H : Hp) (C : Addr) (cl : List (Str × Addr)) (fp : List Addr), DEx (X.blk s H scope (compEnvC scope cl C X.env) fp).nox W0 elt te)
    (hsw : swapsWith (.ListComp elt [⟨tg, iter, ifs, 0⟩] scope pos) (some (.Name y py)) spos.line X.env = pure true) (hs : ∀ x, foldedSetIterable iter X.env x = pure x := by intro _; rfl) (hy : X.N[i]? = some y := by rfl) (hyl : X.env.scope.names.lookup y = some .local := by rfl) :
    DSx X W (.Assign [.Name y py] (.ListComp elt [⟨tg, iter, ifs, 0⟩] scope pos) spos) (tdAsg (tdLE (tdLc wi g tt te (own.map (·.2)))) (gdName i)) := by
  refine ⟨fun B pins s σ H D J sg h => ?_⟩
  have h2 := up_asg (gg := gName i) (fun v σ H Q ⟨ρ, M, d, Q0, dv, sm, r, q, f⟩ => f _ _ q _ H (dv.set r i) sm (Tr.refl H M)) h
  have h3 := up_lc (up_le h2)
  show wpAny (modelX X.prog X.w) X.A _ _ _ s
  rw [exec_Assign_Name_used _ _ _ _ hsw]
  refine wpAny_bind (wpAny_standAt (wpAny_bind ?_))
  show wpAny (modelX X.prog X.w) X.A (do let _ ← comprehension (.ListComp elt [⟨tg, iter, ifs, 0⟩] scope pos) scope X.env (firstIterPos [⟨tg, iter, ifs, 0⟩] pos) (newList []) false (eval iter X.env) (some (assign (.Name y py) X.env))) _ _ s
  refine wpAny_bind (wpAny_mono (plc_core (wi := upI X.K W wi) (g := upGw X.K (List.map (fun p : Str × Nat => p.2) own) g) (tt := upT X.K W0 tt) (te := upE X.K W0 te) (Qf := fun _ s' => SPX X B pins D .next s' ∧ SG B s') hx hc hN hi ok hg (fun s H C cl fp => (ht s H C cl fp).p) he hs J sg h3 fun Dl C s1 mm H1 I9 sg1 hns fpC hq0 => ?_) (fun _ s' hq => wpAny_pure (wpAny_pure hq)) fun _ _ z => z)
  show wpAny (modelX X.prog X.w) X.A (assign (.Name y py) X.env (.ref Dl)) _ _ _
  obtain ⟨f0, f1, f2, f3, f4, f5⟩ := fpC
  refine wpAny_mono (upX (Q := fun _ s' => Inv X (pins ++ dls B s1) (σ.set i (some (V.ref Dl))) H1 s' ∧ s'.heap.Ns C mm) (Q' := fun _ s' => InvX X B pins (σ.set i (some (V.ref Dl))) H1 s' ∧ s'.heap.Ns C mm) I9 sg1 (lift (E := fun _ _ => False) I9.bare sg1.now (wpAny_assign_Name (store_ok2 (Q := fun _ s2 => Inv X (pins ++ dls B s1) (σ.set i (some (V.ref Dl))) H1 s2 ∧ s2.heap.Ns C mm) (v := V.ref Dl) (inv_poison I9.pinned) hN hy (.inl hyl) rfl (fun s2 I2 ⟨a, sb, ha⟩ => ⟨I2, hns.sameBut sb (by
    rcases ha with z | z
    · rw [z]; exact f1
    · exact fun e => f4 y a z e.symm)⟩) (.inr hyl))) (fun _ s2 Gs ⟨I2, hn2⟩ hb sg2 => ⟨⟨inv_gens I2 hb, hn2⟩, sg2⟩) fun _ _ _ z _ _ => (show False from z).elim) fun _ _ ⟨I', hn'⟩ k => ⟨k _ _ I', hn'⟩) (fun _ s2 ⟨⟨I2, hn2⟩, sg2⟩ => ?_) fun _ _ z => z
  refine ⟨mm, hn2, fun h3 sb3 => ?_⟩
  exact ⟨⟨_, H1, ⟨I2.toInv.turned (t' := s2.toks) (fun b o hb e => (sb3.2 b hb).trans e) f0 f1 f3 f4 f5, dd_sb I2.dd hn2 sb3⟩, hq0⟩, sg2.at rfl⟩
end
end XG

/-! sets of texts: made, grown, sorted. -/
namespace TD
open PySem PySem.Spec PyProof.Rows L2 PySem.Froz
/-- the set of texts at a, its members in some order -/
def StrSet (P : Program) (w : World) (h : Heap) (a : Addr) (l : List Str) : Prop :=
  ∃ D : SD, h.get? a = some (sObj "set" D) ∧ TxOk P w D l ∧ l.Nodup ∧ l.length < scanBound ∧ Ris D.2.2.place.toList ∧ (w.params.followText "set-order" = true ∨ D.2.2.led = true)
theorem StrSet.at {P : Program} {w : World} {h h' : Heap} {a : Addr} {l : List Str} (R : StrSet P w h a l) (k : ∀ o, h.get? a = some o → h'.get? a = some o) : StrSet P w h' a l := by
  obtain ⟨D, ho, r⟩ := R
  exact ⟨D, k _ ho, r⟩
theorem strset_fresh {P : Program} {h : Heap} (w : World) : StrSet P w (h.push { cls := .type "set", dict := none, data := .set #[] 0 (.fresh 0 0 (!w.params.followText "set-order")) }) h.objs.size [] :=
  ⟨(#[], 0, .fresh 0 0 (!w.params.followText "set-order")), Heap.get?_push_size _ rfl, TxOk.nil (by rfl), .nil, by decide, List.Pairwise.nil, by
    show _ ∨ (!w.params.followText "set-order") = true
    cases w.params.followText "set-order"
    · exact .inr rfl
    · exact .inl rfl⟩
theorem tail_ris {ep : Nat} {es1 : Array (Int × Value)} {t2 : SetTable} {wd : Bool} (r : Ris t2.place.toList) : Ris (tailTx ep es1 t2 wd).2.2.place.toList := by
  unfold tailTx
  split
  · exact relayAll_ris _ _ _
  · exact r
theorem tail_led {ep : Nat} {es1 : Array (Int × Value)} {t2 : SetTable} {wd : Bool} : (tailTx ep es1 t2 wd).2.2.led = t2.led := by
  unfold tailTx
  split
  · exact relayAll_led _ _ _
  · rfl
theorem addTx_ris {h : Int} {v : Value} {D : SD} (r : Ris D.2.2.place.toList) : Ris (addTx h v D).2.2.place.toList := by
  have hr1 := layNew_ris D.2.2 D.1 h v r
  unfold addTx
  refine tail_ris ?_
  split <;> exact hr1
theorem addTx_led {h : Int} {v : Value} {D : SD} : (addTx h v D).2.2.led = D.2.2.led := by
  have hl1 := layNew_led D.2.2 D.1 h v
  unfold addTx
  rw [tail_led]
  split <;> exact hl1
section
variable {P : Program} {w : World} {A : Around} {E : Value → Shared → Prop} {s : Shared} {a : Addr} {l : List Str}
theorem strset_hashed {k : Str} {u : Tok} {Q : Bool → Shared → Prop} (R : StrSet P w s.heap a l) (hb : l.length + 1 < scanBound)
    (hQ : ∀ b h', Heap.SameBut a s.heap h' → StrSet P w h' a (if k ∈ l then l else k :: l) → Q b { s with heap := h' }) : wpAny (model P w) A (setAddHashed a (.str k u) (hashStr w k)) Q E s := by
  obtain ⟨D, ho, F, nd, hlb, hr, hl⟩ := R
  by_cases hk : k ∈ l
  · have hq := hQ false s.heap (Heap.SameBut.refl a s.heap) (by rw [if_pos hk]; exact ⟨D, ho, F, nd, hlb, hr, hl⟩)
    obtain ⟨es, ep, t⟩ := D
    have hd : (sObj "set" (es, ep, t)).data = .set es ep t := rfl
    have hf : t.fits es.size = true := F.fit
    have hel : ElemsOf (strKind P w) es.toList := F.el
    have hsz : es.size = l.length := F.sz
    have hb0 : es.size < scanBound := by omega
    have hkey : (strKind P w).is k (.str k u) = true := is_str k u
    unfold setAddHashed setAddHashedIn
    refine wpAny_holding (wpAny_bind (wpAny_setState_of ho hd hf ?_))
    dsimp only
    rw [byScan_of rfl hb0 hel]
    simp only [↓reduceIte]
    unfold setAddByScan
    refine wpAny_bind ?_
    refine wpAny_bind (wpAny_rule ?_)
    refine wpAny_bind (wpAny_setScan_of (knd := strKind P w) (k := k) hkey ho hd hf hel ?_)
    cases hfi : List.findIdx? (fun e => (strKind P w).is k e.2) es.toList with
    | none =>
      obtain ⟨e, he, q⟩ := (F.mem k).mp hk
      have c := List.findIdx?_eq_none_iff.mp hfi e he
      rw [q] at c
      cases c
    | some j =>
      dsimp only
      exact wpAny_pure (wpAny_pure hq)
  · refine add_x ho F hk hb ?_
    refine hQ true _ (Heap.SameBut.update s.heap a _) ?_
    rw [if_neg hk]
    refine ⟨addTx (hashStr w k) (.str k u) D, get_upd _ ho rfl, add_ok u F, List.nodup_cons.mpr ⟨hk, nd⟩, by simpa using hb, addTx_ris hr, by rw [addTx_led]; exact hl⟩
theorem strset_add {k : Str} {u : Tok} {Q : Value → Shared → Prop} (R : StrSet P w s.heap a l) (hb : l.length + 1 < scanBound)
    (hQ : ∀ h', Heap.SameBut a s.heap h' → StrSet P w h' a (if k ∈ l then l else k :: l) → Q .none { s with heap := h', toks := s.toks + 1 }) : wpAny (model P w) A (call (.builtin "set.add") [.ref a, .str k u]) Q E s := by
  have hT : s.TypeIs (.ref a) "set" := by
    obtain ⟨D, ho, _⟩ := R
    exact ⟨_, ho, rfl⟩
  refine wpAny_call_entry F.slot_set_add hT F.entry_set_add ?_ (F.args_set_add_2 _ _)
  unfold Builtin.«set.add» Builtin.Frozenset.oneOther
  simp only [List.isEmpty_nil, bind_assoc]
  unfold Builtin.Frozenset.addrOf setAdd
  refine wpAny_bind (wpAny_pure ?_)
  try dsimp only
  refine wpAny_bind (wpAny_pure ?_)
  try dsimp only
  refine wpAny_bind ?_
  refine wpAny_holding ?_
  refine wpAny_bind ((strKind P w).pyHash (k := k) (is_str _ _) ?_)
  refine strset_hashed (s := { s with toks := s.toks + 1 }) R hb fun b h' sb r => ?_
  show wpAny _ _ (ret Value.none) _ _ _
  exact wpAny_pure ⟨_, rfl, hQ h' sb r⟩
theorem txts_of : ∀ (vs : List Value), (∀ v ∈ vs, ∃ k tk, v = Value.str k tk) → ∃ ks, StrsAre vs ks
  | [], _ => ⟨[], .nil⟩
  | v :: vs, h => by
    obtain ⟨k, tk, rfl⟩ := h v List.mem_cons_self
    obtain ⟨ks, r⟩ := txts_of vs fun u hu => h u (List.mem_cons_of_mem _ hu)
    exact ⟨k :: ks, .cons k tk r⟩
theorem strs_mem {k : Str} : ∀ {vs : List Value} {ks : List Str}, StrsAre vs ks → (k ∈ ks ↔ ∃ t, Value.str k t ∈ vs)
  | _, _, .nil => by simp
  | _, _, .cons x t r => by
    rw [List.mem_cons, strs_mem r]
    constructor
    · rintro (rfl | ⟨t2, h⟩)
      · exact ⟨t, List.mem_cons_self⟩
      · exact ⟨t2, List.mem_cons_of_mem _ h⟩
    · rintro ⟨t2, h⟩
      rcases List.mem_cons.mp h with h | h
      · cases h; exact .inl rfl
      · exact .inr ⟨t2, h⟩
theorem perm_sub : ∀ {l ks : List Str}, l.Nodup → (∀ k, k ∈ l → k ∈ ks) → ks.length = l.length → ks.Perm l
  | [], ks, _, _, h => by rw [List.eq_nil_of_length_eq_zero h]
  | x :: l, ks, nd, hm, h => by
    obtain ⟨n1, n2⟩ := List.nodup_cons.mp nd
    have hx := hm x List.mem_cons_self
    have pe := List.perm_cons_erase hx
    refine pe.trans (List.Perm.cons x (perm_sub n2 (fun k hk => ?_) ?_))
    · exact (List.mem_erase_of_ne (fun e : k = x => n1 (e ▸ hk))).mpr (hm k (List.mem_cons_of_mem _ hk))
    · have := pe.length_eq
      simp only [List.length_cons] at this h
      omega
/-- sorted(found) -/
theorem strset_sorted {Q : Value → Shared → Prop} (R : StrSet P w s.heap a l) (hh : A.handled = none)
    (hQ : ∀ s' p (out : Array Value) (c : Nat) (ys : List Str), (∀ b o, s.heap.get? b = some o → s'.heap.get? b = some o) → s'.gens = s.gens → s'.os = s.os → s.heap.objs.size ≤ p →
      s'.heap.get? p = some (seqObj "list" out c) → StrsAre out.toList ys → sortedS ys = true → ys.Perm l → Q (.ref p) s') :
    wpAny (model P w) A (call (.builtin "sorted") [.ref a]) Q E s := by
  obtain ⟨⟨es, ep, t⟩, ho, F, nd, hlb, hr, hl⟩ := R
  have hsz : es.size = l.length := F.sz
  refine Calls.call_function_entry kind_sorted plain_sorted entry_sorted (args_sorted1 _) ?_
  unfold Builtin.«sorted»
  refine wpAny_bind (m := checkCount "sorted" 1 1 _) (wpAny_pure ?_)
  refine wpAny_bind (collect_set (A := A.in1) hh ⟨_, ho, rfl, rfl⟩ F.fit (by show es.size < _; omega) hr hl fun s1 vs k1 hz g1 o1 pm => ?_)
  have hvl : vs.length = l.length := by rw [pm.length_eq, List.length_map, Array.length_toList]; exact hsz
  have hel : ElemsOf (strKind P w) es.toList := F.el
  have hstr : ∀ v ∈ vs, ∃ k tk, v = Value.str k tk := fun v hv => by
    obtain ⟨e, he, q⟩ := List.mem_map.mp (pm.mem_iff.mp hv)
    obtain ⟨⟨k, hk, _⟩, _⟩ := hel e he
    subst q
    have hk : Value.isStrOf k e.2 = true := hk
    cases hv2 : e.2 with
    | str z t => exact ⟨z, t, rfl⟩
    | _ => rw [hv2] at hk; cases hk
  obtain ⟨ks, hS⟩ := txts_of vs hstr
  have hpk : ks.Perm l := by
    have hkl : ks.length = l.length := by rw [← hvl]; exact (StrsAre.length hS).symm
    refine perm_sub nd (fun k hk => ?_) hkl
    obtain ⟨e, he, hk2⟩ := (F.mem k).mp hk
    have hk2 : Value.isStrOf k e.2 = true := hk2
    refine (strs_mem hS).mpr ?_
    have hm := pm.mem_iff.mpr (List.mem_map.mpr ⟨e, he, rfl⟩)
    cases hv2 : e.2 with
    | str z t =>
      rw [hv2] at hk2 hm
      have : z = k := by simpa [Value.isStrOf] using hk2
      subst this
      exact ⟨t, hm⟩
    | _ => rw [hv2] at hk2; cases hk2
  have hL : vs.length ≤ sizeLine := by rw [hvl]; exact fits_of_scanBound hlb
  refine wpAny_bind (wpAny_newList ?_ hL)
  have hoL : (s1.heap.push (seqObj "list" vs.toArray 0)).get? s1.heap.objs.size = some (seqObj "list" vs.toArray 0) := Heap.get?_push_size _ rfl
  refine wpAny_bind (wpAny_holding (wpAny_call_entry slot_list_sort ⟨_, hoL, rfl⟩ entry_list_sort (list_sort_treeKAny strKind_oneLt hoL hS.keysOf (fun v₁ v₂ rest e => keyKind_strs (by rw [← e]; exact hS)) hL fun st' hp hs => ⟨_, rfl, ?_⟩) (args_list_sort _)))
  obtain ⟨ss', h1, h2, h3⟩ := sorted_out_str hS hp hs
  obtain ⟨c, hc⟩ := sortedHeap_at (vs := vs) (out := (arrOf st').map (·.2)) hoL
  refine wpAny_pure ⟨_, rfl, hQ _ s1.heap.objs.size _ c ss' (fun b u e => ?_) g1 o1 hz hc h1 h3 (h2.trans hpk)⟩
  have q := k1 b u e
  have hlt := Heap.lt_size q
  show (sortedHeap (s1.heap.push (seqObj "list" vs.toArray 0)) s1.heap.objs.size vs _).get? b = some u
  rw [sortedHeap_old (Nat.ne_of_lt hlt) (by rw [size_push']; exact Nat.lt_succ_of_lt hlt)]
  exact Heap.get?_push_of_some _ q
end
/-! ### as a thing of the heap -/
def StrO (P : Program) (w : World) (a : Addr) (l : List Str) : HO := .ext fun h => StrSet P w h a l
section
variable {X : Cx}
theorem strO_new {w : World} {P : Program} {H : Hp} {h : Heap} {a : Addr} {l : List Str} (R : StrSet P w h a l) : ObjOk P w H h a (StrO P w a l) := by
  have ⟨D, ho, _⟩ := R
  exact ⟨R, ⟨_, ho⟩, fun h1 h2 p k => StrSet.at p k⟩
theorem strO_get {pins : List (Addr × Obj)} {σ : L2.St} {H : Hp} {s : Shared} {a : Addr} {l : List Str} (I : Inv X pins σ H s) (ha : H a = some (StrO X.prog X.w a l)) : StrSet X.prog X.w s.heap a l := (I.hok a _ ha).1
theorem addS_ok {pins : List (Addr × Obj)} {σ : L2.St} {H : Hp} {s : Shared} {E : Value → Shared → Prop} {D : Addr} {l : List Str} {y : Str} {u : Tok} {Q : Value → Shared → Prop} (I : Inv X pins σ H s) (hD : H D = some (StrO X.prog X.w D l)) (room : l.length + 1 < scanBound)
    (h : ∀ s', Inv X pins σ (upd H D (StrO X.prog X.w D (if y ∈ l then l else y :: l))) s' → Q .none s') : wpAny (model X.prog X.w) X.A (call (.builtin "set.add") [.ref D, .str y u]) Q E s := by
  have R := strO_get I hD
  refine strset_add R room fun h' sb new => ?_
  have he : ∃ u, h'.get? D = some u := by
    have ⟨o, ho, _⟩ := new
    exact ⟨_, ho⟩
  exact h _ (I.write (e := D) (t' := s.toks + 1) (by rw [hD]; trivial) (.inl rfl) (fun b u hb hu => (sb.2 b hb).trans hu) he (strO_new new))
def rSortStr (P : Program) (w : World) : List V → Hp → VK → Prop := fun vs H Q => ∃ (a : Addr) (l : List Str), vs = [V.ref a] ∧ H a = some (StrO P w a l) ∧
  ∀ (ys : List Str) (p : Addr), sortedS ys = true → ys.Perm l → H p = none → Q (.ref p) (upd H p (.lst (ys.map V.str)))
theorem cr_sortStr (hc : X.calm = true) : CallR X (.builtin "sorted") (rSortStr X.prog X.w) := by
  intro pins s σ H vs us Q I r h
  obtain ⟨a, l, rfl, ha, q⟩ := h
  have R := strO_get I ha
  rw [Vals.ref1 r]
  refine strset_sorted R (I.ok.hd hc) fun s' p out c ys k g o hp hg hi hs hm => ?_
  obtain ⟨_, _, _, _, hlb, _⟩ := R
  have hlen : (ys.map V.str).length ≤ sizeLine := by rw [List.length_map, hm.length_eq]; exact fits_of_scanBound hlb
  have hn : H p = none := I.hok.fresh hp
  have J : Inv X pins σ (upd H p (.lst (ys.map V.str))) { s with heap := s'.heap, gens := s'.gens, drawn := s'.drawn, toks := s'.toks } :=
    I.call (ch := []) (Un.laid k hp hn) (I.hok.laid k hp ⟨hlen, out.toList, c, vals_of_strs hi, hg⟩) (by rw [g]; exact I.bare) (fun _ z => nomatch z)
  have e : s' = { s with heap := s'.heap, gens := s'.gens, drawn := s'.drawn, toks := s'.toks } := by
    cases s'
    cases s
    cases o
    rfl
  rw [e]
  exact ⟨.ref p, _, J, rfl, q ys p hs hm hn⟩
end
end TD

/-! XG: a set comprehension over a generator, sorted. -/
namespace XG
open _root_.PySem PySem.W L2 GenW TD
open PyProof.Rows (AllBare envOfC)
/-! ### the set as a thing that the memory sees or not -/
theorem mok_set {K : PySem.W.Frag} {P : Program} {w : World} {H : Hp} {a : Addr} {l : List Str} (h : H a = some (StrO P w a l)) : MOk K H a (.oth (StrO P w a l)) := ⟨h, (fun _ z => by unfold StrO at z; cases z), (fun _ _ z => by unfold StrO at z; cases z), fun _ z => by unfold StrO at z; cases z⟩
theorem sim_visE {K : PySem.W.Frag} {P : Program} {w : World} {H : Hp} {M : Mem} {p : Addr} {l : List Str} (s : Sim K H M) (h : H p = some (StrO P w p l)) : Sim K H (mupd M p (.oth (StrO P w p l))) := fun a o e => by
  by_cases ea : a = p
  · subst ea; rw [mupd_same] at e; cases e; exact mok_set h
  · rw [mupd_ne ea] at e; exact s a o e
theorem sim_hidE {K : PySem.W.Frag} {P : Program} {w : World} {H : Hp} {M : Mem} {p : Addr} {l : List Str} (s : Sim K H M) (hl : H p = some (StrO P w p l)) (hm : M p = none) (hc : ∀ c q, H c = some (LamX.CodeO c q) → c ≠ p) (o' : HO) : Sim K (upd H p o') M := fun a o h => by
  have nt : ∀ b xs, H b = some (.tup xs) → upd H p o' b = some (.tup xs) := fun b xs hb => by rw [upd_ne (fun e => by subst e; rw [hl] at hb; unfold StrO at hb; cases hb)]; exact hb
  have nf : ∀ b ob u, H b = some (.frz ob u) → upd H p o' b = some (.frz ob u) := fun b ob u hb => by rw [upd_ne (fun e => by subst e; rw [hl] at hb; unfold StrO at hb; cases hb)]; exact hb
  have na : ∀ u, H a = some u → upd H p o' a = some u := fun u hb => by rw [upd_ne (fun e => by subst e; rw [hm] at h; cases h)]; exact hb
  have r := s a o h
  cases o with
  | lst ds => obtain ⟨vs, q, r⟩ := r; exact ⟨vs, na _ q, r.mono0 nt nf⟩
  | ins C dx fs => obtain ⟨vs, q, r⟩ := r; exact ⟨vs, na _ q, FReps.mono0 nt nf r⟩
  | dk kvs => obtain ⟨vs, q, r⟩ := r; exact ⟨vs, na _ q, FReps.mono0 nt nf r⟩
  | tab nm =>
    obtain ⟨ps, h1, h2, h3⟩ := r
    refine ⟨ps, na _ h1, h2, fun pos cv q => ?_⟩
    obtain ⟨c, e, q⟩ := h3 pos cv q
    exact ⟨c, e, by rw [upd_ne (hc _ _ q)]; exact q⟩
  | lam L =>
    obtain ⟨dV, c, q1, q2, q3⟩ := r
    refine ⟨dV, c, na _ q1, by rw [upd_ne (hc _ _ q2)]; exact q2, ?_⟩
    rcases q3 with q3 | ⟨i, dt, e1, e2, e3⟩
    · exact .inl q3
    · exact .inr ⟨i, dt, e1, e2, nt _ _ e3⟩
  | oth o => obtain ⟨q, r⟩ := r; exact ⟨na _ q, r⟩
theorem tr_wrE {P : Program} {w : World} {H : Hp} {M : Mem} {p : Addr} {l : List Str} {o : HO} {mo mu : MO} (hm : M p = some mo) (hl : H p = some (StrO P w p l)) : Tr H M (upd H p o) (mupd M p mu) := by
  have ne : ∀ {a : Addr} {v : HO}, H a = some v → (∀ f, v ≠ .ext f) → a ≠ p := fun {a v} h n e => by
    subst e; rw [hl] at h; cases h; exact n _ rfl
  exact ⟨fun a vs h => by rw [upd_ne (ne h fun _ z => nomatch z)]; exact h, fun a ob w h => by rw [upd_ne (ne h fun _ z => nomatch z)]; exact h,
    fun a ob h n => by rw [mupd_ne (fun e => by rw [e, hm] at n; cases n)]; exact n, fun a ob h n _ => by rw [upd_ne (fun e => by rw [e, hm] at n; cases n)]; exact h,
    fun a ps h => ⟨#[], by rw [upd_ne (ne h fun _ z => nomatch z), h]; simp⟩, fun b v h => by
      by_cases e : b = p
      · subst e; exact ⟨o, upd_same⟩
      · exact ⟨v, by rw [upd_ne e]; exact h⟩⟩
theorem code_ne {P : Program} {w : World} {H : Hp} {h : Heap} {p c : Addr} {q : Str} {l : List Str} (ok : HOk P w H h) (e : H c = some (LamX.CodeO c q)) (hl : H p = some (StrO P w p l)) : c ≠ p := fun z => by
  subst z
  obtain ⟨⟨oc, vs, t, e1, e2, _⟩, _⟩ := ok c _ e
  obtain ⟨⟨D, ho, _⟩, _⟩ := ok c _ hl
  rw [e1] at ho
  cases ho
  cases e2
structure SetOfAcc (l : List Str) (acc : List TD.D) (i : Nat) : Prop where
  nd : l.Nodup
  mem : ∀ z, z ∈ l ↔ TD.D.str z ∈ acc
  len : l.length ≤ i
theorem SetOfAcc.nil : SetOfAcc [] [] 0 := ⟨.nil, (fun z => by simp), Nat.le_refl _⟩
theorem SetOfAcc.step {l : List Str} {acc : List TD.D} {i : Nat} (h : SetOfAcc l acc i) : SetOfAcc l acc (i + 1) := ⟨h.nd, h.mem, Nat.le_succ_of_le h.len⟩
theorem SetOfAcc.add {l : List Str} {acc : List TD.D} {i : Nat} {y : Str} (h : SetOfAcc l acc i) : SetOfAcc (if y ∈ l then l else y :: l) (acc ++ [.str y]) (i + 1) := by
  by_cases hy : y ∈ l
  · rw [if_pos hy]
    refine ⟨h.nd, fun z => ?_, Nat.le_succ_of_le h.len⟩
    rw [h.mem z, List.mem_append, List.mem_singleton]
    exact ⟨.inl, fun e => e.elim id fun e => by cases e; exact (h.mem _).mp hy⟩
  · rw [if_neg hy]
    refine ⟨List.nodup_cons.mpr ⟨hy, h.nd⟩, fun z => ?_, by simpa using h.len⟩
    rw [List.mem_cons, List.mem_append, List.mem_singleton, ← h.mem z]
    exact ⟨fun e => e.elim (fun e => .inr (by rw [e])) .inl, fun e => e.elim .inr fun e => .inl (by cases e; rfl)⟩
/-- an element that is a text -/
def teStr (te : TDE) : TDE := fun ρ M Q E => te ρ M (fun y M' => (∃ z, y = .str z) ∧ Q y M') E
theorem reps_strs (K : PySem.W.Frag) (H : Hp) : ∀ ys : List Str, Reps K H (ys.map V.str) (ys.map TD.D.str)
  | [] => .nil
  | y :: ys => .cons (.str y) (reps_strs K H ys)
theorem newSet_okX {P : Program} {w : World} {A : Around} {E : Value → Shared → Prop} {s : Shared} {Q : Value → Shared → Prop} (h : Q (.ref s.heap.objs.size) { s with heap := s.heap.push { cls := .type "set", dict := none, data := .set #[] 0 (.fresh 0 0 (!w.params.followText "set-order")) } }) :
    wpAny (modelX P w) A (newSet (.type "set")) Q E s := by
  unfold newSet setsByText
  refine wpAny_bind (wpAny_bind (wpAny_askSetting (wpAny_pure ?_)))
  dsimp only
  simp only [newObj]
  exact wpAny_bind (wpAny_alloc (wpAny_pure h))
theorem compXs {P : Program} {w : World} {A : Around} {R : Result → Shared → Prop} {s : Shared} {elt target iter : Expr} {ifs : List Expr} {scope : Scope} {pos : Pos} {it acc : Value} {env : Env} (I : Nat → Shared → Prop)
    (turn : ∀ n s, I n s → wpAny (modelX P w) A (pyNext it) (fun r s₁ => match r with
      | none => R (.ok .next) s₁
      | some v => wpAny (modelX P w) A (letOwnedTupleGo target it v) (fun _ s₁' => wpAny (modelX P w) A (assign target env v) (fun _ s₂ =>
          wpAny (modelX P w) A (forIn ifs true fun c r => if r = true then do let ok ← isTrue c env (eval c env); pure (ForInStep.yield ok) else pure (ForInStep.yield r)) (fun ok s₃ =>
            if ok = true then wpAny (modelX P w) A (eval elt env) (fun x s₄ =>
              wpAny (modelX P w) A (call (.builtin "set.add") [acc, x]) (fun _ s₅ => ∃ m, m < n ∧ I m s₅) EF s₄) EF s₃
            else ∃ m, m < n ∧ I m s₃) EF s₂) EF s₁') EF s₁) EF s)
    (n : Nat) (h : I n s) : codeAny (modelX P w) A (.compLoop (.SetComp elt [⟨target, iter, ifs, 0⟩] scope pos) 0 it acc env) R s := by
  refine codeAny_loop' rfl I (fun n s hI => ?_) n h
  show wpAny _ A ((compTurn (.SetComp elt [⟨target, iter, ifs, 0⟩] scope pos) 0 it acc env).onRaise _) _ _ s
  refine wpAny_onRaise ?_
  rw [PpSet.compTurn_set]
  refine wpAny_bind (wpAny_standAt (wpAny_bind (wpAny_mono (turn n s hI) (fun r s₁ h₁ => ?_) fun _ _ h' => h'.elim)))
  cases r with
  | none => exact wpAny_pure h₁
  | some v =>
    refine wpAny_bind (wpAny_mono h₁ (fun _ s₁' h₁' => ?_) fun _ _ h' => h'.elim)
    refine wpAny_bind (wpAny_mono h₁' (fun _ s₂ h₂ => wpAny_bind (wpAny_mono h₂ (fun ok s₃ h₃ => ?_) fun _ _ h' => h'.elim)) fun _ _ h' => h'.elim)
    cases ok with
    | false => exact wpAny_pure (.inl ⟨rfl, h₃⟩)
    | true =>
      exact wpAny_bind (wpAny_bind (wpAny_mono h₃ (fun x s₄ h₄ => wpAny_bind (wpAny_standAt (wpAny_bind (wpAny_mono h₄ (fun _ s₅ h₅ => wpAny_pure (wpAny_pure (.inl ⟨rfl, h₅⟩))) fun _ _ h' => h'.elim)))) fun _ _ h' => h'.elim))
theorem compStartXs {P : Program} {w : World} {A : Around} {R : Result → Shared → Prop} {s : Shared} {elt target iter : Expr} {ifs : List Expr} {rest : List Comprehension} {scope : Scope} {pos : Pos} {it acc : Value} {env : Env}
    (h0 : codeAny (modelX P w) A (.compLoop (.SetComp elt (⟨target, iter, ifs, 0⟩ :: rest) scope pos) 0 it acc env) R s)
    (h : wpAny (modelX P w) A (pyIter it) (fun it' s' => codeAny (modelX P w) A (.compLoop (.SetComp elt (⟨target, iter, ifs, 0⟩ :: rest) scope pos) 0 it' acc env) R s') EF s) :
    codeAny (modelX P w) A (.compStart (.SetComp elt (⟨target, iter, ifs, 0⟩ :: rest) scope pos) 0 it acc env) R s := by
  refine codeAny_of_tree ?_
  show wpAny _ _ ((compStart (.SetComp elt (⟨target, iter, ifs, 0⟩ :: rest) scope pos) 0 it acc env).onRaise _) _ _ s
  refine wpAny_onRaise ?_
  unfold compStart
  show wpAny _ _ (ask >>= _) _ _ s
  refine wpAny_bind (wpAny_askSetting (wpAny_ite ?_))
  split
  · first
      | exact wpAny_bind (wpAny_pure (wpAny_pure (And.intro rfl h0)))
      | exact wpAny_pure (And.intro rfl h0)
  · first
      | exact wpAny_bind (wpAny_rule (wpAny_bind (wpAny_standAt (wpAny_bind (wpAny_mono h (fun it' s' h' => wpAny_pure (And.intro rfl h')) fun _ _ x => x.elim)))))
      | (refine wpAny_bind (wpAny_rule ?_); show wpAny _ _ (standAt iter.pos >>= _) _ _ s; exact wpAny_bind (wpAny_standAt (wpAny_bind (wpAny_mono h (fun it' s' h' => wpAny_pure (And.intro rfl h')) fun _ _ x => x.elim))))
section
variable {X : Cx} {W : WX} {N ps : List Str} {x : Str} {scope cscope : Scope} {f : Addr} {cdv : Value} {body0 : List Stmt} {fd : FuncData} {k n : Nat} {sp : SpGn} {dds : List D}
theorem sc_core {use : Option (Value → Sem Unit)} {Qf : Value → Shared → Prop} {B : Bk} {pins : List (Addr × Obj)} {s : Shared} {σ : St} {H : Hp} {ρ : DSt} {M : Mem} {Q0 : List D → Mem → Prop} {E0 : XD} {a1 : Expr} {es ifs : List Expr} {p cp pos : Pos} {ta : TDA} {tg elt : Expr} {g : TDG} {tt : TDT} {te : TDE} {own : List (Str × Nat)} (hx : X.xe = EF) (hc : X.calm = true) (hN : X.N.Nodup) (hr : Room (k + 1) X.A) (go : GOk X N ps x scope f cdv body0 fd k sp) (bd : GBd X.K fd ps n dds) (ha : DAx X W (a1 :: es) ta) (ok : BlkOk X.N X.env.scope cscope own) (nocell : ∀ y, cscope.names.lookup y ≠ some .cell)
    (hg : ∀ (s : Shared) (H : Hp) (C : Addr) (cl : List (Str × Addr)) (fp : List Addr), CG (X.blk s H cscope (compEnvC cscope cl C X.env) fp) (own.map (·.2)) tg g) (ht : ∀ (s : Shared) (H : Hp) (C : Addr) (cl : List (Str × Addr)) (fp : List Addr), DPTs (X.blk s H cscope (compEnvC cscope cl C X.env) fp) ifs tt)
    (he : ∀ (s : Shared) (H : Hp) (C : Addr) (cl : List (Str × Addr)) (fp : List Addr), DE (X.blk s H cscope (compEnvC cscope cl C X.env) fp) W0 elt te)
    (hgl : Gl X x := by rfl) (hdb : (x == ("__debug__" : Str)) = false := by decide) (hst : starEach (a1 :: es) X.env = (false, eval a1 X.env) :: starEach es X.env := by rfl) (hpl : (backTo cp (starEach es X.env)).any (·.1) = false := by rfl)
    (hfs : ∀ v, foldedSetIterable (.Call (.Name x p) (a1 :: es) [] cp) X.env v = pure v := by intro _; rfl) 
    (J : InvX X B pins σ H s) (sg : SG B s) (dv : DvL X.K H σ ρ) (sm : Sim X.K H M) (q : ta ρ M (fun es M1 => es.length = n ∧ ∃ items, sp (es ++ dds) items ∧ items.length + 1 < scanBound ∧ LcI items gTrue g tt (teStr te) (dwipe ρ (own.map (·.2))) M1 Q0) E0) (hw : wUp X.K W σ H M E0)
    (hfin : ∀ (Dl C : Addr) (s1 : Shared) (m : Str → Option Value) (H1 : Hp) (acc : List TD.D) (M2 : Mem) (l : List Str), InvX X B pins σ H1 s1 → SG B s1 → s1.heap.Ns C m → FpOk X pins H1 C → H Dl = none → H1 Dl = some (StrO X.prog X.w Dl l) → M2 Dl = none → l.Nodup → (∀ z, z ∈ l ↔ TD.D.str z ∈ acc) → Sim X.K H1 M2 → Tr H M H1 M2 → Q0 acc M2 → compPost (modelX X.prog X.w) X.A (fun e s' => X.xe e s' ∧ SG B s') use Qf (.ref Dl) C (.ok .next) s1) :
    wpAny (modelX X.prog X.w) X.A (comprehension (.SetComp elt [⟨tg, .Call (.Name x p) (a1 :: es) [] cp, ifs, 0⟩] cscope pos) cscope X.env (firstIterPos [⟨tg, .Call (.Name x p) (a1 :: es) [] cp, ifs, 0⟩] pos) (newSet (.type "set")) false (eval (.Call (.Name x p) (a1 :: es) [] cp) X.env) use) Qf (fun e s' => X.xe e s' ∧ SG B s') s := by
  have bl : Blind X.xe := by rw [hx]; exact blindF
  generalize hvs : own.map (fun p : Str × Nat => p.2) = vs at *
  have free : ∀ y ∈ cscope.names, y.2 = .free → ∃ c, X.env.cells.lookup y.1 = some c := fun y hy e => J.ok.has _ (ok.free y hy e)
  have nm : ∀ y ∈ cscope.names, y.2 = .local → cscope.names.lookup y.1 = some .local := fun y hy e => (ok.uniq y hy).trans (congrArg some e)
  refine wpAny_comprehension_free (use := use) rfl hfs (closure_ok free) ok.kind nm ?_
  refine made_gen2 (W := W) (R := fun items M1 => items.length + 1 < scanBound ∧ LcI items gTrue g tt (teStr te) (dwipe ρ vs) M1 Q0) bl hr go bd ha hgl hdb hst hpl J sg dv sm q hw fun a g0 items H5 M5 s5 s6 oa oL gs hF t5 dv5 sm5 I5 I6 offS offD kp os6 hoa hga hlt hoL hcL bN hgs al => ?_
  refine iterX hoa hga.cls ?_
  refine newSet_okX (newEnv_comp ?_)
  let Dq : Addr := s6.heap.objs.size
  let o3 : Obj := { cls := .type "set", dict := none, data := .set #[] 0 (.fresh 0 0 (!X.w.params.followText "set-order")) }
  let s7 : Shared := { s6 with heap := s6.heap.push o3 }
  have keep67 : ∀ b o, s6.heap.get? b = some o → s7.heap.get? b = some o := fun b o e => Heap.get?_push_of_some _ e
  have hD5 : H5 Dq = none := I6.hok.fresh (Nat.le_refl _)
  have I7 : Inv X pins σ (upd H5 Dq (StrO X.prog X.w Dq [])) s7 := I6.toInv.laid (t' := s6.toks) keep67 (Nat.le_refl _) (strO_new (strset_fresh X.w))
  have I8 := block_start I7 ok hN (fp := []) fun b hb => by cases hb
  have sz56 : s5.heap.objs.size ≤ s6.heap.objs.size := Nat.le_of_lt (Nat.lt_trans hlt (Heap.lt_size hoa))
  have sz7 : s7.heap.objs.size = s6.heap.objs.size + 1 := Heap.size_push ..
  have JY := blk_rebase I5.toInv (fun b o e => keep67 b o (kp b o e)) (fun b o e => upd_ne (Nat.ne_of_lt (Nat.lt_of_lt_of_le (Heap.lt_size e) sz56))) (fun b u e => (upd_ne (fun z => by rw [z, hD5] at e; cases e)).trans e) (by rw [sz7]; exact Nat.le_succ_of_le sz56) (show s7.os = s5.os from os6) I8 nocell
  rw [hvs] at JY
  have hcl : ∀ y c, (compEnvC cscope (cellsFrom (s7.heap.objs.size + 1) cscope.names (cloFrom X.env.cells cscope.names [])) s7.heap.objs.size X.env).cells.lookup y = some c → X.env.cells.lookup y = some c := fun y c e =>
    blk_cells (ce := X.env) (n := 0) ok nocell (h := s7.heap.push { cls := .type "dict", data := .dict #[] }) free (by rw [Heap.size_push]; exact e)
  have eL : (compEnvC cscope (cellsFrom (s7.heap.objs.size + 1) cscope.names (cloFrom X.env.cells cscope.names [])) s7.heap.objs.size X.env).locals = s7.heap.objs.size := rfl
  have pg := hg s5 H5 s7.heap.objs.size (cellsFrom (s7.heap.objs.size + 1) cscope.names (cloFrom X.env.cells cscope.names [])) []
  have pt := ht s5 H5 s7.heap.objs.size (cellsFrom (s7.heap.objs.size + 1) cscope.names (cloFrom X.env.cells cscope.names [])) []
  have pe := he s5 H5 s7.heap.objs.size (cellsFrom (s7.heap.objs.size + 1) cscope.names (cloFrom X.env.cells cscope.names [])) []
  show codeAny _ _ (.compStart _ 0 (.ref a) (.ref Dq) (compEnvC cscope (cellsFrom (s7.heap.objs.size + 1) cscope.names (cloFrom X.env.cells cscope.names [])) s7.heap.objs.size X.env)) _ { s7 with heap := pushCells (s7.heap.push { cls := .type "dict", data := .dict #[] }) cscope.names }
  generalize hce : compEnvC cscope (cellsFrom (s7.heap.objs.size + 1) cscope.names (cloFrom X.env.cells cscope.names [])) s7.heap.objs.size X.env = ce at JY pg pt pe hcl eL ⊢
  unfold LcI at hF
  obtain ⟨hroom, Iv, h0, _, hs, hd⟩ := hF
  have kp8 : ∀ b o, s6.heap.get? b = some o → (pushCells (s7.heap.push { cls := .type "dict", data := .dict #[] }) cscope.names).get? b = some o := fun b o e => pushCells_keeps _ _ _ _ (Heap.get?_push_of_some _ (keep67 b o e))
  have frsLt : ∀ b ∈ frs X.stack, b < s5.heap.objs.size := fun b hb => by
    obtain ⟨_, o, e, _⟩ := I5.stack.mem hb
    exact Heap.lt_size e
  have cellLt : ∀ y c, ce.cells.lookup y = some c → c < s5.heap.objs.size := fun y c e => by
    obtain ⟨v, z⟩ := I5.cell y c (hcl y c e)
    exact z.lt
  have gone : ∀ b, s5.heap.objs.size ≤ b → b < s6.heap.objs.size → FpOk (X.blk s5 H5 cscope ce []) [] (upd H5 Dq (StrO X.prog X.w Dq [])) b := fun b h1 h2 => by
    refine ⟨(upd_ne (Nat.ne_of_lt h2)).trans (I5.hok.fresh h1), ?_, fun hb => ?_, .inr h1, fun y c e => Nat.ne_of_lt (Nat.lt_of_lt_of_le (cellLt y c e) h1), fun p hp => by cases hp⟩
    · show b ≠ ce.locals
      rw [eL, sz7]
      exact Nat.ne_of_lt (Nat.lt_succ_of_lt h2)
    · exact absurd (frsLt b hb) (Nat.not_lt.mpr h1)
  let Z : Nat → St → DSt → Mem → Hp → Prop := fun i σ' ρ' M' H' => σ' = L2.wipe σ vs ∧ ρ' = dwipe ρ vs ∧ ∃ acc M1 l, M' = mupd M1 Dq (.oth (StrO X.prog X.w Dq l)) ∧ M1 Dq = none ∧ SetOfAcc l acc i ∧ Iv i acc M1
  let Rr : Nat → St → Hp → DSt → Mem → St → Hp → Prop := fun i σ' H' ρ' M' σ2 H2 => ∃ ρ2 M2 acc M1 l, L2.wipe σ2 vs = L2.wipe σ' vs ∧ DvL X.K H2 σ2 ρ2 ∧ Sim X.K H2 M2 ∧ Tr H' M1 H2 M2 ∧ M' = mupd M1 Dq (.oth (StrO X.prog X.w Dq l)) ∧ M1 Dq = none ∧ SetOfAcc l acc i ∧
    tt ρ2 M2 (fun b M3 => cnd b (teStr te ρ2 M3 (fun y M4 => acc.length < sizeLine ∧ Iv (i + 1) (acc ++ [y]) M4) (fun _ _ _ => False)) (Iv (i + 1) acc M3)) (fun _ _ _ => False)
  let Tp : Nat → Shared → Prop := fun i s' => Top2 (X.blk s5 H5 cscope ce []) (mkG X.prog X.w X.K X.mg X.base N x scope f cdv X.A.in1 X.stack s5.heap.objs.size g0) B [] a g0 H5 M5 items Z i s'
  have start : Tp 0 { s7 with heap := pushCells (s7.heap.push { cls := .type "dict", data := .dict #[] }) cscope.names } := by
    have smD : Sim X.K (upd H5 Dq (StrO X.prog X.w Dq [])) (mupd M5 Dq (.oth (StrO X.prog X.w Dq []))) := sm5.newM hD5 (mok_set upd_same)
    have tD : Tr H5 M5 (upd H5 Dq (StrO X.prog X.w Dq [])) (mupd M5 Dq (.oth (StrO X.prog X.w Dq []))) := Tr.newM hD5
    have gL := Heap.lt_size hoL
    refine ⟨gs, oa, [(s5.heap.objs.size, oL)], [], H5, M5, L2.wipe σ vs, upd H5 Dq (StrO X.prog X.w Dq []), dwipe ρ vs, mupd M5 Dq (.oth (StrO X.prog X.w Dq [])), JY, (dv5.mono tD).wipe _, smD, tD, ⟨rfl, rfl, [], M5, [], rfl, sm5.free hD5, SetOfAcc.nil, h0⟩, Nat.zero_le _, ?_, by rw [List.drop_zero]; exact al, tD, hgs, (sg_set (x := .running) (B := B.off [(s5.heap.objs.size, oL)]) offS bN rfl).at rfl, dd_set (B := B.off [(s5.heap.objs.size, oL)]) (offD.grow rfl (fun b ob e q n => ⟨(upd_ne (Nat.ne_of_lt (Heap.lt_size e))).trans n, ob, kp8 b ob e, q⟩) (by have z := JY.lt; have z : ce.locals < _ := z; rw [eL, sz7] at z; exact Nat.le_of_lt (Nat.lt_of_succ_lt z))) rfl⟩
    refine ⟨⟨kp8 _ _ hoa, hga, gone a (Nat.le_of_lt hlt) (Heap.lt_size hoa), hlt⟩, ⟨oL, List.mem_singleton.mpr rfl⟩, fun y hy => ?_, (fun q hq => by cases hq), bN, frsLt, Nat.le_refl _, frsLt, cellLt⟩
    rw [List.mem_singleton.mp hy]
    exact ⟨kp8 _ _ hoL, gone _ (Nat.le_refl _) gL, hcL, Nat.le_refl _, Nat.ne_of_lt hlt⟩
  have loop : codeAny (modelX X.prog X.w) X.A (.compLoop (.SetComp elt [⟨tg, .Call (.Name x p) (a1 :: es) [] cp, ifs, 0⟩] cscope pos) 0 (.ref a) (.ref Dq) ce) (compPost (modelX X.prog X.w) X.A (fun e s' => X.xe e s' ∧ SG B s') use Qf (.ref Dq) ce.locals) { s7 with heap := pushCells (s7.heap.push { cls := .type "dict", data := .dict #[] }) cscope.names } := by
    refine compXs (fun m s' => ∃ i, m = items.length - i ∧ Tp i s') (fun m s' hm => ?_) items.length ⟨0, rfl, start⟩
    obtain ⟨i, em, t⟩ := hm
    refine wpAny_mono (next_top2 (X := X.blk s5 H5 cscope ce []) (R := Rr) (N := fun s1 => compPost (modelX X.prog X.w) X.A (fun e s' => X.xe e s' ∧ SG B s') use Qf (.ref Dq) ce.locals (.ok .next) s1)
      (Post := fun i s3 => wpAny (modelX X.prog X.w) X.A (forIn ifs true fun c r => if r = true then do let ok ← isTrue c ce (eval c ce); pure (ForInStep.yield ok) else pure (ForInStep.yield r)) (fun ok s₃ =>
            if ok = true then wpAny (modelX X.prog X.w) X.A (eval elt ce) (fun x s₄ =>
              wpAny (modelX X.prog X.w) X.A (call (.builtin "set.add") [.ref Dq, x]) (fun _ s₅ => i < items.length ∧ Tp (i + 1) s₅) EF s₄) EF s₃
            else i < items.length ∧ Tp (i + 1) s₃) EF s3) hc hr.depth rfl rfl rfl rfl rfl rfl rfl rfl pg ?hZ ?hI ?hN ?hK t) (fun r s1 h => ?hF) fun _ _ z => z
    case hZ => exact fun _ _ _ _ _ _ h _ _ => h
    case hI =>
      rintro i d w σ1 H1 ρ1 M1 hd1 ⟨eσ, eρ, acc, M2, l, eM, hMD, hla, iv⟩ dv1 sm1 rd
      subst eσ eρ eM
      exact ⟨dwipe ρ vs, M2, d, _, dv1, sm1.le (MLe.new hMD), rd, hs i d acc M2 hd1 iv, fun ρ2 M3 q2 σ2 H2 w2 dv2 sm2 t2 => ⟨ρ2, M3, acc, M2, l, w2, dv2, sm2, t2, rfl, hMD, hla, q2⟩⟩
    case hN =>
      rintro σ1 H1 ρ1 M1 s1 J1 sg1 dv1 sm1 t1 ⟨eσ, eρ, acc, M2, l, eM, hMD, hla, iv⟩
      subst eσ eρ eM
      obtain ⟨hL, _⟩ := sm1 Dq _ mupd_same
      have I9 : Inv X pins σ H1 s1 := I5.call' (ch := []) J1.os J1.base J1.hok J1.bare (fun b hb => by cases hb)
      have nC : H1 ce.locals = none := J1.free
      obtain ⟨mm, hns, _⟩ := J1.loc
      exact hfin Dq ce.locals s1 mm H1 acc M2 l ⟨I9, J1.dd⟩ sg1 hns (I5.fpOk J1.ok.above nC) (t5.fresh hD5) hL hMD hla.nd hla.mem (sm1.le (MLe.new hMD)) (t5.trans (t1.le (MLe.new hMD))) (hd acc M2 iv)
    case hK =>
      rintro i B' pins' σ1 H1 ρ1 M1 σ2 H2 s3 hlt3 J3 sg3 ⟨ρ2, M3, acc, M2, l, ew, dv2, sm2, t2, eM, hMD, hla, q2⟩ dv1 sm1 ⟨eσ, eρ, _, _, _, _, _, _⟩ next
      subst eσ eρ eM
      obtain ⟨hL, _⟩ := sm1 Dq _ mupd_same
      have hL2 := t2.st _ _ hL hMD rfl
      have hM2 := t2.fr _ _ hL hMD
      have fin : ∀ {s' : Shared} {H' : Hp} {M' : Mem}, InvX (X.blk s5 H5 cscope ce []).nox B' ([] ++ pins') σ2 H' s' → SG B' s' → Sim X.K H' M' → Tr H1 (mupd M2 Dq (.oth (StrO X.prog X.w Dq l))) H' M' → (∃ acc' M4 l', M' = mupd M4 Dq (.oth (StrO X.prog X.w Dq l')) ∧ M4 Dq = none ∧ SetOfAcc l' acc' (i + 1) ∧ Iv (i + 1) acc' M4) → i < items.length ∧ Tp (i + 1) s' := fun {s' H' M'} I' g' sm' t' ex => by
        refine ⟨hlt3, next s' (L2.wipe σ vs) H' (dwipe ρ vs) M' ⟨I'.toInv.weak (σ' := L2.wipe σ vs) ((L2.wipe_length (L2.wipe σ vs) vs).symm.trans ((congrArg List.length ew.symm).trans (L2.wipe_length σ2 vs))) fun j v e => ?_, I'.dd⟩ g' (dv1.mono t') sm' t' ⟨rfl, rfl, ex⟩⟩
        rw [← wipe_wipe σ vs, ← ew] at e
        exact (wipe_some e).1
      have rt := upX (X := (X.blk s5 H5 cscope ce []).nox) (Q' := TPX (X.blk s5 H5 cscope ce []).nox B' ([] ++ pins') σ2 (fun b H' => ∃ M4, Sim X.K H' M4 ∧ Tr H2 M3 H' M4 ∧ cnd b (teStr te ρ2 M4 (fun y M5 => acc.length < sizeLine ∧ Iv (i + 1) (acc ++ [y]) M5) (fun _ _ _ => False)) (Iv (i + 1) acc M4))) J3 sg3 (lift J3.bare sg3.now (pt.p.run _ _ σ2 H2 (fun b H' => ∃ M4, Sim X.K H' M4 ∧ Tr H2 M3 H' M4 ∧ cnd b (teStr te ρ2 M4 (fun y M5 => acc.length < sizeLine ∧ Iv (i + 1) (acc ++ [y]) M5) (fun _ _ _ => False)) (Iv (i + 1) acc M4)) (inv_poison J3.pinned) ⟨ρ2, M3, _, _, dv2, sm2, q2, fun b M4 q4 H4 s4 t4 => ⟨M4, s4, t4, q4⟩, w0_up⟩) (fun b s4 Gs hz hb sg4 => ⟨tp_gens hz hb, sg4⟩) fun _ _ _ z _ _ => z.elim) fun _ _ ⟨H4, I4, q4⟩ k => ⟨H4, k _ _ I4, q4⟩
      refine wpAny_mono rt (fun b s4 ⟨hz, sg4⟩ => ?_) fun _ _ z => z.1.elim
      obtain ⟨H4, I4, M4, sm4, t4, q4⟩ := hz
      have hL4 := t4.st _ _ hL2 hM2 rfl
      have hM4 := t4.fr _ _ hL2 hM2
      cases b with
      | false =>
        rw [cnd_false] at q4
        rw [if_neg Bool.false_ne_true]
        exact fin I4 sg4 (sim_visE sm4 hL4) (tr_vis (t2.trans t4)) ⟨acc, M4, l, rfl, hM4, hla.step, q4⟩
      | true =>
        rw [cnd_true] at q4
        rw [if_pos rfl]
        have re := (PEx.of (X := (X.blk s5 H5 cscope ce []).nox) blindF pe).run B' _ _ σ2 H4 (fun v H' => ∃ y M6, Rep X.K H' v y ∧ Sim X.K H' M6 ∧ Tr H4 M4 H' M6 ∧ (∃ z, y = .str z) ∧ acc.length < sizeLine ∧ Iv (i + 1) (acc ++ [y]) M6) I4 sg4 ⟨ρ2, M4, _, _, dv2.mono t4, sm4, q4, fun y M6 q6 vy H6 r6 s6 t6 => ⟨y, M6, r6, s6, t6, q6⟩, w0_up⟩
        refine wpAny_mono re (fun u s6 ⟨⟨vy, H6, I6, ru, y, M6, r6, sm6, t6, ⟨zz, ey⟩, hsz, q6⟩, sg6⟩ => ?_) fun _ _ z => z.1.elim
        subst ey
        cases r6
        obtain ⟨tk, rfl⟩ := ru
        have hL6 := t6.st _ _ hL4 hM4 rfl
        have hM6 := t6.fr _ _ hL4 hM4
        have hcode : ∀ c q, H6 c = some (LamX.CodeO c q) → c ≠ Dq := fun c q e => code_ne I6.hok e hL6
        have hl1 : l.length + 1 < scanBound := by have := hla.len; omega
        have ra := upX (X := (X.blk s5 H5 cscope ce []).nox) (Q' := fun _ s' => InvX (X.blk s5 H5 cscope ce []).nox B' ([] ++ pins') σ2 (upd H6 Dq (StrO X.prog X.w Dq (if zz ∈ l then l else zz :: l))) s') I6 sg6 (lift I6.bare sg6.now (addS_ok (X := (X.blk s5 H5 cscope ce []).nox) (u := tk) (Q := fun _ s' => Inv (X.blk s5 H5 cscope ce []).nox ([] ++ pins' ++ dls B' s6) σ2 (upd H6 Dq (StrO X.prog X.w Dq (if zz ∈ l then l else zz :: l))) s') (E := EF) (inv_poison I6.pinned) hL6 hl1 fun s' I' => I') (fun _ s7 Gs I7 hb sg7 => ⟨inv_gens I7 hb, sg7⟩) fun _ _ _ z _ _ => z.elim) fun _ _ I' k => k _ _ I'
        refine wpAny_mono ra (fun _ s7 ⟨I7, sg7⟩ => ?_) fun _ _ z => z.1.elim
        have smE := sim_visE (sim_hidE sm6 hL6 hM6 hcode (StrO X.prog X.w Dq (if zz ∈ l then l else zz :: l))) upd_same
        have tE : Tr H1 (mupd M2 Dq (.oth (StrO X.prog X.w Dq l))) H6 (mupd M6 Dq (.oth (StrO X.prog X.w Dq l))) := tr_vis ((t2.trans t4).trans t6)
        have tW : Tr H6 (mupd M6 Dq (.oth (StrO X.prog X.w Dq l))) (upd H6 Dq (StrO X.prog X.w Dq (if zz ∈ l then l else zz :: l))) (mupd (mupd M6 Dq (.oth (StrO X.prog X.w Dq l))) Dq (.oth (StrO X.prog X.w Dq (if zz ∈ l then l else zz :: l)))) := tr_wrE mupd_same hL6
        rw [mupd_mupd] at tW
        exact fin I7 sg7 smE (tE.trans tW) ⟨acc ++ [.str zz], M6, _, rfl, hM6, hla.add, q6⟩
    case hF =>
      cases r with
      | none => exact h
      | some v =>
        have dn : ∀ s', i < items.length ∧ Tp (i + 1) s' → ∃ m1, m1 < m ∧ ∃ i, m1 = items.length - i ∧ Tp i s' := fun s' ⟨h1, h2⟩ => ⟨items.length - (i + 1), by omega, i + 1, rfl, h2⟩
        refine wpAny_mono h (fun _ s2 h => wpAny_mono h (fun _ s3 h => wpAny_mono h (fun ok s4 h => ?_) fun _ _ z => z) fun _ _ z => z) fun _ _ z => z
        cases ok with
        | false => rw [if_neg Bool.false_ne_true] at h ⊢; exact dn _ h
        | true =>
          rw [if_pos rfl] at h ⊢
          exact wpAny_mono h (fun _ s5 h => wpAny_mono h (fun _ s6 h => dn _ h) fun _ _ z => z) fun _ _ z => z
  rw [eL] at loop
  exact compStartXs loop (iterX (kp8 _ _ hoa) hga.cls loop)
/-- sorted({e for t in f(..) if c}) of texts: ascending, each once -/
def tdSortG (sp : SpGn) (n : Nat) (dds : List D) (ta : TDA) (g : TDG) (tt : TDT) (te : TDE) (vs : List Nat) : TDE := fun ρ M Q E => ta ρ M (fun es M1 => es.length = n ∧ ∃ items, sp (es ++ dds) items ∧ items.length + 1 < PySem.scanBound ∧ LcI items gTrue g tt (teStr te) (dwipe ρ vs) M1 (fun acc M2 => ∀ (ys : List Str) (q : Addr), PyProof.Rows.sortedS ys = true → ys.Nodup → (∀ z, z ∈ ys ↔ TD.D.str z ∈ acc) → M2 q = none → Q (.ref q) (mupd M2 q (.lst (ys.map D.str))))) E
theorem pex_sc {B0 : Unit} {a1 : Expr} {es ifs : List Expr} {p cp pos : Pos} {ta : TDA} {tg elt : Expr} {g : TDG} {tt : TDT} {te : TDE} {own : List (Str × Nat)} (hx : X.xe = EF) (hc : X.calm = true) (hN : X.N.Nodup) (hr : Room (k + 1) X.A) (go : GOk X N ps x scope f cdv body0 fd k sp) (bd : GBd X.K fd ps n dds) (ha : DAx X W (a1 :: es) ta) (ok : BlkOk X.N X.env.scope cscope own) (nocell : ∀ y, cscope.names.lookup y ≠ some .cell)
    (hg : ∀ (s : Shared) (H : Hp) (C : Addr) (cl : List (Str × Addr)) (fp : List Addr), CG (X.blk s H cscope (compEnvC cscope cl C X.env) fp) (own.map (·.2)) tg g) (ht : ∀ (s : Shared) (H : Hp) (C : Addr) (cl : List (Str × Addr)) (fp : List Addr), DPTs (X.blk s H cscope (compEnvC cscope cl C X.env) fp) ifs tt)
    (he : ∀ (s : Shared) (H : Hp) (C : Addr) (cl : List (Str × Addr)) (fp : List Addr), DE (X.blk s H cscope (compEnvC cscope cl C X.env) fp) W0 elt te)
    (hgl : Gl X x) (hdb : (x == ("__debug__" : Str)) = false) (hst : starEach (a1 :: es) X.env = (false, eval a1 X.env) :: starEach es X.env) (hpl : (backTo cp (starEach es X.env)).any (·.1) = false)
    (hfs : ∀ v, foldedSetIterable (.Call (.Name x p) (a1 :: es) [] cp) X.env v = pure v) :
    PEx X (.SetComp elt [⟨tg, .Call (.Name x p) (a1 :: es) [] cp, ifs, 0⟩] cscope pos) (fun σ H Q => ∃ ρ M Q0 E0, DvL X.K H σ ρ ∧ Sim X.K H M ∧ (ta ρ M (fun es M1 => es.length = n ∧ ∃ items, sp (es ++ dds) items ∧ items.length + 1 < PySem.scanBound ∧ LcI items gTrue g tt (teStr te) (dwipe ρ (own.map (·.2))) M1 Q0) E0) ∧
      (∀ acc M2, Q0 acc M2 → ∀ Dl l H1, H Dl = none → H1 Dl = some (StrO X.prog X.w Dl l) → M2 Dl = none → l.Nodup → (∀ z, z ∈ l ↔ TD.D.str z ∈ acc) → Sim X.K H1 M2 → Tr H M H1 M2 → Q (.ref Dl) H1) ∧ wUp X.K W σ H M E0) := by
  refine ⟨fun B pins s σ H Q J sg ⟨ρ, M, Q0, E0, dv, sm, q, hqq, hw⟩ => ?_⟩
  show wpAny (modelX X.prog X.w) X.A (eval (.SetComp elt [⟨tg, .Call (.Name x p) (a1 :: es) [] cp, ifs, 0⟩] cscope pos) X.env) (fun u s' => EPX X B pins σ Q u s' ∧ SG B s') (fun e s' => X.xe e s' ∧ SG B s') s
  rw [PpSet.eval_SetComp]
  refine sc_core (use := none) hx hc hN hr go bd ha ok nocell hg ht he hgl hdb hst hpl hfs J sg dv sm q hw fun Dl C s1 mm H1 acc M2 l I9 sg1 hns fpC hD hL hMD nd mem sm1 t1 hq0 => ⟨mm, hns, fun h'' sb => ?_⟩
  obtain ⟨z0, z1, z2, z3, z4, z5⟩ := fpC
  exact ⟨⟨.ref Dl, H1, ⟨I9.toInv.turned (t' := s1.toks) (fun b o hb e => (sb.2 b hb).trans e) z0 z1 z3 z4 z5, dd_sb I9.dd hns sb⟩, rfl, hqq acc M2 hq0 Dl l H1 hD hL hMD nd mem sm1 t1⟩, sg1.at rfl⟩
theorem dx_sortG {a1 : Expr} {es ifs : List Expr} {p cp pos p0 pos0 : Pos} {ta : TDA} {tg elt : Expr} {g : TDG} {tt : TDT} {te : TDE} {own : List (Str × Nat)} (hm : X.mg "sorted" = none) (hx : X.xe = EF) (hc : X.calm = true) (hN : X.N.Nodup) (hr : Room (k + 1) X.A) (go : GOk X N ps x scope f cdv body0 fd k sp) (bd : GBd X.K fd ps n dds) (ha : DAx X W (a1 :: es) ta) (ok : BlkOk X.N X.env.scope cscope own) (nocell : ∀ y, cscope.names.lookup y ≠ some .cell)
    (hg : ∀ (s : Shared) (H : Hp) (C : Addr) (cl : List (Str × Addr)) (fp : List Addr), CG (X.blk s H cscope (compEnvC cscope cl C X.env) fp) (own.map (·.2)) tg g) (ht : ∀ (s : Shared) (H : Hp) (C : Addr) (cl : List (Str × Addr)) (fp : List Addr), DPTs (X.blk s H cscope (compEnvC cscope cl C X.env) fp) ifs tt)
    (he : ∀ (s : Shared) (H : Hp) (C : Addr) (cl : List (Str × Addr)) (fp : List Addr), DE (X.blk s H cscope (compEnvC cscope cl C X.env) fp) W0 elt te)
    (hg0 : Gl X "sorted" := by rfl) (hgl : Gl X x := by rfl) (hdb : (x == ("__debug__" : Str)) = false := by decide) (hst : starEach (a1 :: es) X.env = (false, eval a1 X.env) :: starEach es X.env := by rfl) (hpl : (backTo cp (starEach es X.env)).any (·.1) = false := by rfl)
    (hfs : ∀ v, foldedSetIterable (.Call (.Name x p) (a1 :: es) [] cp) X.env v = pure v := by intro _; rfl)
    (hst0 : starEach [.SetComp elt [⟨tg, .Call (.Name x p) (a1 :: es) [] cp, ifs, 0⟩] cscope pos] X.env = (false, eval (.SetComp elt [⟨tg, .Call (.Name x p) (a1 :: es) [] cp, ifs, 0⟩] cscope pos) X.env) :: starEach [] X.env := by rfl) :
    DEx X W (.Call (.Name "sorted" p0) [.SetComp elt [⟨tg, .Call (.Name x p) (a1 :: es) [] cp, ifs, 0⟩] cscope pos] [] pos0) (tdSortG sp n dds ta g tt te (own.map (·.2))) :=
  have bl : Blind X.xe := by rw [hx]; exact blindF
  PEx.imp (pex_callB bl (cr_sortStr hc) hg0 hm (by decide +kernel) (pax_cons (pex_sc (B0 := ()) hx hc hN hr go bd ha ok nocell hg ht he hgl hdb hst hpl hfs) pax_nil hst0) (by decide) (by decide) hst0 rfl) fun σ H Q ⟨ρ, M, Q0, E0, dv, sm, q, hq, hw⟩ => by
    refine ⟨ρ, M, _, E0, dv, sm, q, fun acc M2 q2 Dl l H1 hD hL hMD nd mem sm1 t1 => ?_, hw⟩
    refine ⟨Dl, l, rfl, hL, fun ys r hs hp hr => ?_⟩
    have hm2 : M2 r = none := sm1.free hr
    have h := q2 ys r hs (hp.nodup_iff.mpr nd) (fun z => hp.mem_iff.trans (mem z)) hm2
    refine hq _ _ h (.ref r) _ (.ref r) ?_ ?_
    · exact sm1.newM hr ⟨_, upd_same, reps_strs _ _ ys⟩
    · exact t1.trans (Tr.newM hr)
end
end XG

/-! XG: a loop over what a consumer answers; while; an operator's expression. -/
namespace XG
open _root_.PySem PySem.W L2 GenW TD
open PyProof.Rows (AllBare envOfC)
section
variable {X : Cx} {tg : Expr}
def forR (g : TG) (tb : TS) (D : Ends) (σ : St) : It → Hp → Prop := fun J H1 => ∃ W : Nat → Nat → St → Hp → Prop, (∃ m, W 0 m σ H1) ∧ ∀ i m σ H, W i m σ H →
  (J.stop i H ∧ D.nx σ H) ∨ (J.go i H ∧ ∃ N : St → Hp → Prop, (∀ σ' H', N σ' H' → ∃ m', m' < m ∧ W (i + 1) m' σ' H') ∧ ∀ x H', J.yld i H x H' → g x σ H' fun σ2 H2 => tb { D with nx := N, ct := N, bk := D.nx } σ2 H2)
/-- the loop, its iterable's value found -/
theorem psx_forV {B : Bk} {pins : List (Addr × Obj)} {s : Shared} {σ : St} {H : Hp} {D : Ends} {body : List Stmt} {g : TG} {tb : TS} {v : Value} {pos : Pos} (hx : X.xe = EF) (hc : X.calm = true) (hg : PG X tg g) (hb : PSsx X body tb) (J : InvX X B pins σ H s) (sg : SG B s)
    (run : wpAny (model X.prog X.w) X.A (pyIter v) (PIE X (pins ++ dls B s) σ tg (forR g tb D σ)) X.xe { s with gens := asleepG s }) :
    wpAny (modelX X.prog X.w) X.A (pyIter v) (fun u s4 => codeAny (modelX X.prog X.w) X.A (.forLoop tg u body [] X.env) (fun r s' => match r with | .ok f => (fun f s' => SPX X B pins D f s' ∧ SG B s') f s' | .error e => cameBackBy (modelX X.prog X.w) X.A X.env (fun e s' => X.xe e s' ∧ SG B s') e s') s4) (fun e s' => X.xe e s' ∧ SG B s') s := by
  have bl : Blind X.xe := by rw [hx]; exact blindF
  refine wpAny_hsz (Nat.le_refl _) (wpAny_mono (wpAny_px (sr_start s) run) (fun u s4 ⟨s3, r3, h3⟩ sz4 => ?_) fun e s2 ⟨s1, r, z⟩ => by rw [hx] at z; exact z.elim)
  obtain ⟨it, fp, tn, K, H2, e, J2, T, st2, f2, W, ⟨m0, w0⟩, turn⟩ := h3
  obtain ⟨Gs, rfl⟩ := r3.eq
  subst e
  have bare0 : AllBare Gs := sr_bare r3 J.bare J2.bare
  have sgN : SG (B.now s) { s3 with gens := Gs } := sr_sg r3 sg.now
  have JX0 : InvX X B pins σ H2 { s3 with gens := Gs } := J.behind (inv_gens J2 fun _ => bare0) sgN sz4
  have sg0 : SG (B.offA fp) { s3 with gens := Gs } := (sg.behind sgN).wide rfl fun i x h1 h2 h3 z => ⟨z, fun a ha hin => by
    obtain ⟨z1, z2, z3⟩ := sgN.nl i x h1 h2 h3
    obtain ⟨_, o, e, _⟩ := J.dd.un i x a z1 z2 h3 ha
    exact (f2 a hin).2.2.2.2.2 (a, o) (List.mem_append_right _ (List.mem_append_right _ (dls_mem z1 z2 h3 ha e))) rfl⟩
  have JX1 : InvX X (B.offA fp) pins σ H2 { s3 with gens := Gs } := ⟨JX0.toInv, JX0.dd.un, fun i x a h1 h2 => ⟨JX0.dd.fr i x a h1 h2, fun c hc hin => by
    rw [h1] at hc
    cases hc
    obtain ⟨o, e, _⟩ := T.obj _ _ st2 a hin
    exact absurd (Heap.lt_size e) (Nat.not_lt.mpr h2)⟩⟩
  have stat : ∀ {H' : Hp} {s' : Shared}, SG (B.offA fp) s' → (∀ b ∈ fp, H' b = none) → ∀ b ∈ fp, FpOk X (pins ++ dls (B.offA fp) s') H' b := fun g' hn b hb => by
    obtain ⟨_, q1, q2, q3, q4, q5⟩ := f2 b hb
    refine ⟨hn b hb, q1, q2, q3, q4, fun p hp => ?_⟩
    rcases List.mem_append.mp hp with hp | hp
    · exact q5 p (List.mem_append_left _ hp)
    · rcases List.mem_append.mp hp with hp | hp
      · exact q5 p (List.mem_append_right _ (List.mem_append_left _ hp))
      · intro z
        exact dls_off g' hp (by rw [z]; exact hb)
  have stat0 : ∀ {H' : Hp}, (∀ b ∈ fp, H' b = none) → ∀ b ∈ fp, FpOk X pins H' b := fun hn b hb => by
    obtain ⟨_, q1, q2, q3, q4, q5⟩ := f2 b hb
    refine ⟨hn b hb, q1, q2, q3, q4, fun p hp => ?_⟩
    rcases List.mem_append.mp hp with hp | hp
    · exact q5 p (List.mem_append_left _ hp)
    · exact q5 p (List.mem_append_right _ (List.mem_append_left _ hp))
  have loop := forX2 (P := X.prog) (w := X.w) (A := X.A) (tg := tg) (it := .ref it) (body := body) (env := X.env) (R := fun f s' => SPX X B pins D f s' ∧ SG B s') (fun n s' => ∃ i σ' H', InvX X (B.offA fp) pins σ' H' s' ∧ SG (B.offA fp) s' ∧ tn i s'.heap ∧ (∀ b ∈ fp, H' b = none) ∧ W i n σ' H') (fun n s3 hn => by
    obtain ⟨i, σ3, H3, J3, g3, st3, fr3, w3⟩ := hn
    rcases turn i n σ3 H3 w3 with ⟨stop, qn⟩ | ⟨go, N, hN, step⟩
    · have run := T.done X rfl rfl rfl hc i (pins ++ dls (B.offA fp) s3) { s3 with gens := asleepG s3 } σ3 H3 EF (inv_poison J3.pinned) (stat g3 fr3) st3 stop
      refine wpAny_hsz (Nat.le_refl _) (wpAny_mono (wpAny_px (sr_start s3) run) (fun v s2 ⟨s1, r, er, J4⟩ sz => ?_) fun e s2 ⟨s1, r, z⟩ => z.elim)
      subst er
      obtain ⟨Gs, rfl⟩ := r.eq
      have g4 := sr_sg r g3.now
      exact ⟨⟨σ3, H3, (J3.behind (inv_gens J4 (sr_bare r J3.bare)) g4 sz).onA, qn⟩, (g3.behind g4).onA⟩
    · have run := T.item X rfl rfl rfl hc i (pins ++ dls (B.offA fp) s3) { s3 with gens := asleepG s3 } σ3 H3 EF (inv_poison J3.pinned) (stat g3 fr3) st3 go
      refine wpAny_hsz (Nat.le_refl _) (wpAny_mono (wpAny_px (sr_start s3) run) (fun v s2 ⟨s1, r, u, er, h4⟩ szA => ?_) fun e s2 ⟨s1, r, z⟩ => z.elim)
      subst er
      refine wpAny_hsz szA (wpAny_mono (wpAny_px r h4) (fun _ s5 ⟨s6, r5, y, H5, J5, ry, yl, st5, fr5⟩ szB => ?_) fun e s2 ⟨s1, r, z⟩ => z.elim)
      obtain ⟨Gs5, rfl⟩ := r5.eq
      have g5N := sr_sg r5 g3.now
      have J6 := J3.behind (inv_gens J5 (sr_bare r5 J3.bare)) g5N szB
      have g6 := g3.behind g5N
      have J7 : InvX X (B.offA fp) (pins ++ pinsAt fp s6.heap) σ3 H5 { s6 with gens := Gs5 } := ⟨J6.toInv.pinned (stat0 fr5) (T.obj _ _ st5), J6.dd⟩
      refine wpAny_mono ((PGx.of bl hg).run (B.offA fp) _ _ σ3 H5 y u _ J7 g6 ry (step y H5 yl)) (fun _ s7 ⟨⟨σ7, H7, J8, q7⟩, g7⟩ => ?_) fun e s' z => by rw [hx] at z; exact z.1.elim
      refine wpAny_mono (hb.run (B.offA fp) _ s7 σ7 H7 _ J8 g7 q7) (fun f s8 ⟨q8, g8⟩ => ?_) fun e s' z => by rw [hx] at z; exact z.1.elim
      have low : ∀ {σ9 : St} {H9 : Hp}, InvX X (B.offA fp) (pins ++ pinsAt fp s6.heap) σ9 H9 s8 → InvX X (B.offA fp) pins σ9 H9 s8 := fun J9 => ⟨J9.toInv.unpinned, J9.dd⟩
      have again : ∀ {σ9 : St} {H9 : Hp}, InvX X (B.offA fp) (pins ++ pinsAt fp s6.heap) σ9 H9 s8 → N σ9 H9 → ∃ m, m < n ∧ ∃ i σ' H', InvX X (B.offA fp) pins σ' H' s8 ∧ SG (B.offA fp) s8 ∧ tn i s8.heap ∧ (∀ b ∈ fp, H' b = none) ∧ W i m σ' H' := fun {σ9 H9} J9 n9 => by
        obtain ⟨m', hm, w9⟩ := hN σ9 H9 n9
        refine ⟨m', hm, i + 1, σ9, H9, low J9, g8, T.keep _ _ _ st5 fun b hb o e => (J9.pin (b, o) (List.mem_append_right _ (List.mem_append_right _ (mem_pinsAt hb e)))).1, fun b hb => ?_, w9⟩
        obtain ⟨o, e, d⟩ := T.obj _ _ st5 b hb
        exact (J9.pin (b, o) (List.mem_append_right _ (List.mem_append_right _ (mem_pinsAt hb e)))).2.1
      cases f with
      | next => obtain ⟨σ9, H9, J9, n9⟩ := q8; exact again J9 n9
      | cont => obtain ⟨σ9, H9, J9, n9⟩ := q8; exact again J9 n9
      | brk => obtain ⟨σ9, H9, J9, z⟩ := q8; exact ⟨⟨σ9, H9, (low J9).onA, z⟩, g8.onA⟩
      | ret v => obtain ⟨x9, σ9, H9, J9, r9, z⟩ := q8; exact ⟨⟨x9, σ9, H9, (low J9).onA, r9, z⟩, g8.onA⟩) m0 ⟨0, σ, H2, JX1, sg0, st2, fun b hb => (f2 b hb).1, w0⟩
  refine codeAny_mono loop fun r s' h => ?_
  cases r with
  | ok f => exact h
  | error e => exact h.elim

/-- what an iterable's value hands out: a list, a tuple, a text -/
theorem seq_iter {pins : List (Addr × Obj)} {s1 : Shared} {σ : St} {H1 : Hp} {R : It → Hp → Prop} {x : V} {v : Value} (I1 : Inv X pins σ H1 s1) (r1 : RelV x v)
    (q1 : (∃ a, x = .ref a ∧ (∃ xs, SqL X.K H1 a xs) ∧ R (Itl X.K a) H1) ∨ (∃ a, x = .ref a ∧ (∃ xs, SqT X.K H1 a xs) ∧ R (Itt X.K a) H1) ∨ ∃ z, x = .str z ∧ R (Its z) H1) : wpAny (model X.prog X.w) X.A (pyIter v) (PIE X pins σ tg R) X.xe s1 := by
  rcases q1 with ⟨a, e, ⟨xs, hq⟩, q⟩ | ⟨a, e, ⟨xs, hq⟩, q⟩ | ⟨z, e, q⟩
  · subst e
    cases r1
    obtain ⟨its, rv, p, hz⟩ := I1.list hq
    refine wpAny_pyIter_list p.isList ?_
    refine ⟨s1.heap.objs.size, [s1.heap.objs.size], _, _, H1, rfl, I1.kept (t' := s1.toks) fun b o e => Heap.get?_push_of_some _ e, turn_list a _, ⟨_, Heap.get?_push_size _ rfl, rfl, rfl⟩, fun b hb => ?_, q⟩
    have e : b = s1.heap.objs.size := by simpa using hb
    subst e
    exact I1.fpOk (Nat.le_refl _) (I1.hok.fresh (Nat.le_refl _))
  · subst e
    cases r1
    obtain ⟨its, rv, p, hz⟩ := I1.tuple hq
    refine wpAny_pyIter_tuple (show s1.heap.IsTuple a its.toArray from p) ?_
    refine ⟨s1.heap.objs.size, [s1.heap.objs.size], _, _, H1, rfl, I1.kept (t' := s1.toks) fun b o e => Heap.get?_push_of_some _ e, turn_tuple a _, ⟨_, Heap.get?_push_size _ rfl, rfl, rfl⟩, fun b hb => ?_, q⟩
    have e : b = s1.heap.objs.size := by simpa using hb
    subst e
    exact I1.fpOk (Nat.le_refl _) (I1.hok.fresh (Nat.le_refl _))
  · subst e
    obtain ⟨t, rfl⟩ := r1
    cases ha : z.cps.all (· < 128)
    · exact wpAny_pyIter_wide ha (pi_one (tk := s1.toks) I1 _ (turn_str _ z t "str_iterator" (.inr rfl)) ⟨_, Heap.get?_push_size _ rfl, rfl, rfl⟩ q)
    · exact wpAny_pyIter_ascii ha (pi_one (tk := s1.toks) I1 _ (turn_str _ z t "str_ascii_iterator" (.inl rfl)) ⟨_, Heap.get?_push_size _ rfl, rfl, rfl⟩ q)
theorem psx_forI {iter : Expr} {body : List Stmt} {tl : TE} {g : TG} {tb : TS} {pos : Pos} (hx : X.xe = EF) (hc : X.calm = true) (hl : PEx X iter tl) (hg : PG X tg g) (hb : PSsx X body tb) (hs : ∀ x, foldedSetIterable iter X.env x = pure x := by intro _; rfl) :
    PSx X (.For tg iter body [] pos) (tFor (fun σ H R => tl σ H fun x H1 => (∃ a, x = .ref a ∧ (∃ xs, SqL X.K H1 a xs) ∧ R (Itl X.K a) H1) ∨ (∃ a, x = .ref a ∧ (∃ xs, SqT X.K H1 a xs) ∧ R (Itt X.K a) H1) ∨ ∃ z, x = .str z ∧ R (Its z) H1) g tb) := by
  refine ⟨fun B pins s σ H D J sg h => ?_⟩
  refine wpAny_For (wpAny_mono (hl.run B pins s σ H _ J sg h) (fun v s1 ⟨⟨x, H1, J1, r1, q1⟩, sg1⟩ => ?_) fun e s' z => z) hs
  exact psx_forV (pos := pos) hx hc hg hb J1 sg1 (seq_iter (R := forR g tb D σ) (inv_poison J1.pinned) r1 q1)
end
section
variable {X : Cx} {W : WX} {pos : Pos} {tg iter : Expr} {body : List Stmt} {te : TDE} {g : TDG} {tb : TDS}
theorem up_any {σ : St} {H : Hp} {R : It → Hp → Prop} (h : upI X.K W (tdiAny te) σ H R) : upE X.K W te σ H (fun x H1 => (∃ a, x = .ref a ∧ (∃ xs, SqL X.K H1 a xs) ∧ R (Itl X.K a) H1) ∨ (∃ a, x = .ref a ∧ (∃ xs, SqT X.K H1 a xs) ∧ R (Itt X.K a) H1) ∨ ∃ z, x = .str z ∧ R (Its z) H1) := by
  obtain ⟨ρ, M, Q0, E0, dv, sm, q, hq, he⟩ := h
  refine ⟨ρ, M, _, E0, dv, sm, q, fun d M1 q1 v H1 r1 s1 t1 => ?_, he⟩
  dsimp only at q1
  unfold rdIt at q1
  split at q1
  · cases r1 with
    | @tup a vs ds g rs =>
      refine .inr (.inl ⟨a, rfl, ⟨vs, g⟩, hq _ _ _ q1 _ (fun H M => SqT X.K H a vs ∧ Reps X.K H vs _) H1 (dw_tup (fun H M H' M' hs t => ⟨rd_mono t.tup t.frz hs.1, hs.2.mono t⟩) fun H M hs _ _ => ⟨vs, hs⟩) ⟨g, rs⟩ s1 t1⟩)
  · cases r1 with
    | @rol a vs ds g rs =>
      refine .inl ⟨a, rfl, ⟨vs, g.sq⟩, hq _ _ _ q1 _ (fun H M => SqLR X.K H a vs ∧ Reps X.K H vs _) H1 (dw_list (fun H M H' M' hs t => ⟨hs.1.mono t.frz, hs.2.mono t⟩) fun H M hs _ _ => ⟨vs, hs.1.sq, hs.2⟩) ⟨g, rs⟩ s1 t1⟩
  · cases r1; exact .inr (.inr ⟨_, rfl, hq _ _ _ q1 _ _ H1 dw_str trivial s1 t1⟩)
  · cases r1
    split at q1
    · rename_i a _ ds em
      obtain ⟨vs, g, rs⟩ := s1 _ _ em
      exact .inl ⟨a, rfl, ⟨vs, SqL.of g⟩, hq _ _ _ q1 _ (fun _ _ => True) H1 (dw_list (fun _ _ _ _ _ _ => trivial) fun H M _ sm hg => by
        obtain ⟨vs, g, rs⟩ := sm _ _ hg
        exact ⟨vs, SqL.of g, rs⟩) trivial s1 t1⟩
    · exact q1.elim
  · exact q1.elim
theorem up_for {wi : TDI} {D : Ends} {σ : St} {H : Hp} (h : upS X.K W (tdFor wi g tb) D σ H) : tFor (upI X.K W wi) (upG X.K g) (upS X.K W tb) D σ H := by
  obtain ⟨ρ, M, D0, dv, sm, q, eu⟩ := h
  refine ⟨ρ, M, _, _, dv, sm, q, fun ds Gd M1 q1 J S H1 dw st s1 t1 => ?_, eu.w dv⟩
  unfold ForI at q1
  obtain ⟨I, h0, hG, hs, hd⟩ := q1
  let P : Nat → St → Hp → Prop := fun i σ' H' => ∃ ρ' M', DvL X.K H' σ' ρ' ∧ Sim X.K H' M' ∧ Tr H M H' M' ∧ S H' M' ∧ I i ρ' M'
  have pf : ∀ {i : Nat} {H2 : Hp} {M2 : Mem}, Tr H M H2 M2 → S H2 M2 → fUp X.K H2 M2 (I i) (P i) := fun {i H2 M2} t2 st2 ρ' M' hi σ' H' dv' s' t' => ⟨ρ', M', dv', s', t2.trans t', dw.stay _ _ _ _ st2 t', hi⟩
  refine ⟨fun i m σ' H' => m = ds.length - i ∧ i ≤ ds.length ∧ P i σ' H', ⟨ds.length, by simp, Nat.zero_le _, ρ, M1, dv.mono t1, s1, t1, st, h0⟩, ?_⟩
  rintro i m σ2 H2 ⟨rfl, hi, ρ2, M2, dv2, s2, t2, st2, i2⟩
  have gd := hG i ρ2 M2 hi i2
  by_cases hlt : i < ds.length
  · refine .inr ⟨dw.goes i H2 M2 hlt st2 s2 gd, P (i + 1), fun σ' H' p' => ⟨ds.length - (i + 1), by omega, rfl, hlt, p'⟩, fun x H3 y => ?_⟩
    obtain ⟨d, ed, rd, s3, t3⟩ := dw.yields i H2 M2 x H3 hlt st2 s2 gd y
    have st3 := dw.stay _ _ _ _ st2 t3
    refine ⟨ρ2, M2, d, _, dv2.mono t3, s3, rd, hs i d ρ2 M2 ed i2, fun ρ4 M4 q4 σ4 H4 dv4 s4 t4 => ?_⟩
    have t24 := (t2.trans t3).trans t4
    have eu4 := eu.mono t24
    have st4 := dw.stay _ _ _ _ st3 t4
    exact ⟨ρ4, M4, _, dv4, s4, q4, ⟨pf t24 st4, eu4.rt, eu4.nx, pf t24 st4, eu4.ex⟩⟩
  · have e : i = ds.length := by omega
    subst e
    exact .inl ⟨dw.stops H2 M2 st2 s2 gd, eu.nx _ _ (hd ρ2 M2 i2) σ2 H2 dv2 s2 t2⟩
theorem sx_forI (hx : X.xe = EF) (hc : X.calm = true) (hi : DEx X W iter te) (hg : DG X tg g) (hb : DSsx X W body tb)
    (hs : ∀ x, foldedSetIterable iter X.env x = pure x := by intro _; rfl) : DSx X W (.For tg iter body [] pos) (tdFor (tdiAny te) g tb) :=
  PSx.imp (psx_forI (pos := pos) hx hc hi hg hb hs) fun D σ H h => by
    have h2 := up_for h
    unfold tFor at h2 ⊢
    exact up_any h2
/-- an operator's expression -/
theorem pex_bin {op : Operator} {r : R2} {a b : Expr} {ta tb : TE} {pos : Pos} (bl : Blind X.xe) (ho : OpR X (binaryOp op) r) (ha : PEx X a ta) (hb : PEx X b tb) : PEx X (.BinOp a op b pos) (tOp r ta tb) :=
  ⟨fun B pins s σ H Q J g h => wpAny_BinOp (xbin ha hb J g h fun v u s2 x y H2 J2 g2 rx ry q => opx bl ho J2 g2 rx ry q)⟩
theorem dx_bin {op : Operator} {r : R2} {rd : RD2} {a b : Expr} {ta tb : TDE} (bl : Blind X.xe) (ho : OpR X (binaryOp op) r) (l : LiftR X.K r rd) (ha : DEx X W a ta) (hb : DEx X W b tb) : DEx X W (.BinOp a op b pos) (tdOp rd ta tb) := PEx.imp (pex_bin bl ho ha hb) fun _ _ _ h => up_two l h
theorem dx_add {a b : Expr} {ta tb : TDE} (bl : Blind X.xe) (ha : DEx X W a ta) (hb : DEx X W b tb) : DEx X W (.BinOp a .Add b pos) (tdOp rdAdd ta tb) := dx_bin bl op_addAll l_add' ha hb
theorem dx_sub {a b : Expr} {ta tb : TDE} (bl : Blind X.xe) (ha : DEx X W a ta) (hb : DEx X W b tb) : DEx X W (.BinOp a .Sub b pos) (tdOp rdSub ta tb) := dx_bin bl op_sub l_sub' ha hb
theorem dx_mul {a b : Expr} {ta tb : TDE} (bl : Blind X.xe) (ha : DEx X W a ta) (hb : DEx X W b tb) : DEx X W (.BinOp a .Mult b pos) (tdOp rdMul ta tb) := dx_bin bl op_mulAll l_mul' ha hb
theorem dx_fdiv {a b : Expr} {ta tb : TDE} (bl : Blind X.xe) (ha : DEx X W a ta) (hb : DEx X W b tb) : DEx X W (.BinOp a .FloorDiv b pos) (tdOp rdFdiv ta tb) := dx_bin bl op_fdivW l_fdiv' ha hb
theorem dx_mod {a b : Expr} {ta tb : TDE} (bl : Blind X.xe) (ha : DEx X W a ta) (hb : DEx X W b tb) : DEx X W (.BinOp a .Mod b pos) (tdOp rdMod ta tb) := dx_bin bl op_mod l_mod' ha hb
/-! ### while -/
theorem whileX {P : Program} {w : World} {A : Around} {test : Expr} {body : List Stmt} {env : Env} {R : Flow → Shared → Prop} (I : Nat → Shared → Prop)
    (turn : ∀ n s, I n s → wpAny (modelX P w) A (isTrue test env (eval test env)) (fun b s₂ =>
        if b then wpAny (modelX P w) A (execs body env) (fun f s₃ => match f with
            | .next | .cont => ∃ m, m < n ∧ I m s₃
            | .brk => R .next s₃
            | .ret v => R (.ret v) s₃) EF s₂
        else R .next s₂) EF s)
    (n : Nat) {s : Shared} (h : I n s) : codeAny (modelX P w) A (.whileLoop test body [] env) (fun r s' => match r with | .ok f => R f s' | .error _ => False) s := by
  refine codeAny_loop' rfl I (fun n s hI => ?_) n h
  show wpAny _ A ((whileTurn test body [] env).onRaise _) _ _ s
  refine wpAny_onRaise ?_
  simp only [whileTurn]
  refine wpAny_bind (wpAny_mono (turn n s hI) (fun b s₂ h₂ => ?_) fun _ _ x => x.elim)
  cases b with
  | false =>
    simp only [Bool.false_eq_true, if_false] at h₂ ⊢
    exact wpAny_bind (wpAny_execs_nil (wpAny_pure h₂))
  | true =>
    simp only [if_true] at h₂ ⊢
    refine wpAny_bind (wpAny_mono h₂ (fun f s₃ h₃ => ?_) fun _ _ x => x.elim)
    cases f with
    | next => exact wpAny_pure (.inl ⟨rfl, h₃⟩)
    | cont => exact wpAny_pure (.inl ⟨rfl, h₃⟩)
    | brk => exact wpAny_pure h₃
    | ret v => exact wpAny_pure h₃
theorem psx_while {c : Expr} {body : List Stmt} {tc : TT} {tb : TS} (hx : X.xe = EF) (hc : PTx X c tc) (hb : PSsx X body tb) : PSx X (.While c body [] pos) (tWhile tc tb) := by
  refine ⟨fun B pins s σ H D J sg h => ?_⟩
  obtain ⟨W, ⟨m0, w0⟩, turn⟩ := h
  refine wpAny_While (codeAny_mono (whileX (R := fun f s' => SPX X B pins D f s' ∧ SG B s') (fun n s' => ∃ σ' H', InvX X B pins σ' H' s' ∧ SG B s' ∧ W n σ' H') (fun n s1 ⟨σ1, H1, J1, g1, w1⟩ => ?_) m0 ⟨σ, H, J, sg, w0⟩) fun r s' h => ?_)
  · refine wpAny_mono (hc.run B pins s1 σ1 H1 _ J1 g1 (turn n σ1 H1 w1)) (fun b s2 ⟨⟨H2, J2, q2⟩, g2⟩ => ?_) fun e s' z => by rw [hx] at z; exact z.1.elim
    cases b with
    | true =>
      obtain ⟨N, hN, q2⟩ := q2
      rw [if_pos rfl]
      refine wpAny_mono (hb.run B pins s2 σ1 H2 _ J2 g2 q2) (fun f s3 ⟨q3, g3⟩ => ?_) fun e s' z => by rw [hx] at z; exact z.1.elim
      cases f with
      | next =>
        obtain ⟨σ3, H3, J3, n3⟩ := q3
        obtain ⟨m', hm, w3⟩ := hN σ3 H3 n3
        exact ⟨m', hm, σ3, H3, J3, g3, w3⟩
      | cont =>
        obtain ⟨σ3, H3, J3, n3⟩ := q3
        obtain ⟨m', hm, w3⟩ := hN σ3 H3 n3
        exact ⟨m', hm, σ3, H3, J3, g3, w3⟩
      | brk => exact ⟨q3, g3⟩
      | ret v => exact ⟨q3, g3⟩
    | false =>
      rw [if_neg Bool.false_ne_true]
      exact ⟨⟨σ1, H2, J2, q2⟩, g2⟩
  · cases r with
    | ok f => exact h
    | error e => exact h.elim
theorem sx_while {c : Expr} {tc : TDT} (hx : X.xe = EF) (hc : DTx X W c tc) (hb : DSsx X W body tb) : DSx X W (.While c body [] pos) (tdWhile tc tb) := PSx.imp (psx_while hx hc hb) fun D σ H ⟨ρ, M, D0, dv, sm, q, eu⟩ => by
  unfold tdWhile at q
  obtain ⟨V, ⟨m0, v0⟩, turn⟩ := q
  refine ⟨fun m σ1 H1 => ∃ ρ1 M1, DvL X.K H1 σ1 ρ1 ∧ Sim X.K H1 M1 ∧ Tr H M H1 M1 ∧ V m ρ1 M1, ⟨m0, ρ, M, dv, sm, Tr.refl H M, v0⟩, ?_⟩
  rintro m σ1 H1 ⟨ρ1, M1, dv1, s1, t1, v1⟩
  have eu1 := eu.mono t1
  refine ⟨ρ1, M1, _, _, dv1, s1, turn m ρ1 M1 v1, fun b M2 q2 H2 s2 t2 => ?_, eu1.w dv1⟩
  cases b with
  | true =>
    rw [cnd_true] at q2; rw [if_pos rfl]
    have again : fUp X.K H2 M2 (fun ρ' M' => ∃ m', m' < m ∧ V m' ρ' M') fun σ' H' => ∃ m', m' < m ∧ ∃ ρ1 M1, DvL X.K H' σ' ρ1 ∧ Sim X.K H' M1 ∧ Tr H M H' M1 ∧ V m' ρ1 M1 := fun ρ' M' ⟨m', hm, v'⟩ σ' H' dv' s' t' => ⟨m', hm, ρ', M', dv', s', (t1.trans t2).trans t', v'⟩
    have eu2 := eu1.mono t2
    exact ⟨fun σ' H' => ∃ m', m' < m ∧ ∃ ρ1 M1, DvL X.K H' σ' ρ1 ∧ Sim X.K H' M1 ∧ Tr H M H' M1 ∧ V m' ρ1 M1, fun σ' H' h => h, ρ1, M2, _, dv1.mono t2, s2, q2, ⟨again, eu2.rt, eu2.nx, again, eu2.ex⟩⟩
  | false => rw [cnd_false] at q2; rw [if_neg Bool.false_ne_true]; exact eu1.nx _ _ q2 _ H2 (dv1.mono t2) s2 t2
end
end XG

/-! set(xs) of a list of texts. -/
namespace TD
open PySem PySem.Spec PyProof.Rows L2 PySem.Froz
section
variable {prog : Program} {w : World} {A : Around} {E : Value → Shared → Prop} {s : Shared}
theorem code_set_new_led (a : Value) {Q₁ : Value → Shared → Prop}
    (h : Q₁ (.ref s.heap.objs.size) { s with heap := s.heap.push { cls := .type "set", dict := none, data := .set #[] 0 (.fresh 0 0 (!w.params.followText "set-order")) } }) :
    codeAny (model prog w) A (.call (.builtin "set.__new__") ⟨[.type "set", a], []⟩) (wants Q₁ E) s := by
  refine codeAny_of_tree ?_
  show wpAny _ A.in1 (do checkBuiltinCall "set.__new__" ⟨[.type "set", a], []⟩; again (.builtin "set.__new__" ⟨[.type "set", a], []⟩)) _ _ s
  refine wpAny_bind (wpAny_of_eq (F.newCall_set_1 a) (wpAny_pure ⟨plainId_quiet F.plain_set_new _, codeAny_builtin F.entry_set_new ?_⟩))
  rw [Around.under_plainId F.plain_set_new _]
  unfold Builtin.«set.__new__» Builtin.Frozenset.newClass
  have hsub := sub_set_self
  obtain ⟨hp, g, d, tk, os⟩ := s
  dsimp only
  wp_walk
  refine wpAny_askSetting (wpAny_pure ?_)
  dsimp only
  simp only [newObj]
  refine wpAny_bind (wpAny_alloc (wpAny_pure ?_))
  exact wpAny_pure h
end
section
variable {prog : Program} {w : World} {A : Around} {R : Result → Shared → Prop} {I : Addr} {fp wr : List Addr} {G : Array GenState → Array GenState → Prop} {n : Nat} {P : Nat → Value → Prop} {St : Nat → Shared → Prop}
/-- the set as far as it has grown -/
def Grown (prog : Program) (w : World) (h : Heap) (S : Addr) (xs : List Str) (i : Nat) : Prop := ∃ l : List Str, StrSet prog w h S l ∧ (∀ k, k ∈ l ↔ k ∈ xs.take i) ∧ l.length ≤ i
theorem loopStrs (W : WalksS prog w A.in1 I fp wr G n P St) (S : Addr) (hSf : S ∉ fp) (xs : List Str) (hsz : xs.length = n) (hn1 : n + 1 < scanBound)
    (hval : ∀ i v, P i v → ∃ t, v = .str (xs.getD i Str.empty) t) :
    ∀ (k i : Nat) (s : Shared), n - i = k → i ≤ n → St i s → Grown prog w s.heap S xs i →
      (∀ s', Moved (S :: wr) G s s' → Grown prog w s'.heap S xs n → R (.ok (.ret .none)) s') →
      codeAny (model prog w) A (.builtin "set.update.loop" ⟨[.ref S, .ref I], []⟩) R s := by
  have hSw : S ∉ wr := fun h => hSf (W.sub _ h)
  have hsub : ∀ b ∈ wr, b ∈ S :: wr := fun b hb => List.mem_cons_of_mem _ hb
  intro k
  induction k with
  | zero =>
    intro i s hk hi hst hS hR
    have hin : i = n := by omega
    subst hin
    refine codeAny_builtin PyProof.Rows.F.entry_set_update_loop ?_
    rw [Around.under_plainId PyProof.Rows.F.plain_set_update_loop _]
    show wpAny _ A.in1 (pyNext (.ref I) >>= _) _ _ s
    refine wpAny_bind (W.done s _ _ hst fun s' hm => ?_)
    show wpAny _ A.in1 (ret Value.none) _ _ s'
    exact wpAny_pure (hR s' (hm.mono hsub) (by
      obtain ⟨l, h1, h2⟩ := hS
      exact ⟨l, h1.at fun o ho => hm.heap S _ hSw ho, h2⟩))
  | succ k ih =>
    intro i s hk hi hst hS hR
    have hlt : i < n := by omega
    refine codeAny_builtin PyProof.Rows.F.entry_set_update_loop ?_
    rw [Around.under_plainId PyProof.Rows.F.plain_set_update_loop _]
    show wpAny _ A.in1 (pyNext (.ref I) >>= _) _ _ s
    refine wpAny_bind (W.item i s _ _ hlt hst fun v s' hP hst' hm => ?_)
    obtain ⟨t, rfl⟩ := hval i v hP
    obtain ⟨l, h1, h2, h3⟩ := hS
    have h1' : StrSet prog w s'.heap S l := h1.at fun o ho => hm.heap S _ hSw ho
    show wpAny _ A.in1 (holding [Value.str (xs.getD i Str.empty) t] (setAdd S (.str (xs.getD i Str.empty) t)) >>= _) _ _ s'
    refine wpAny_bind (wpAny_holding ?_)
    unfold setAdd
    refine wpAny_holding ?_
    refine wpAny_bind ((PySem.strKind prog w).pyHash (k := xs.getD i Str.empty) (strKind_is _ _ _ _) ?_)
    refine strset_hashed (s := { s' with toks := s'.toks + 1 }) h1' (by omega) fun b h' hsb r => ?_
    have hx : xs[i]? = some (xs.getD i Str.empty) := by rw [List.getD_eq_getElem?_getD, List.getElem?_eq_getElem (by omega)]; rfl
    have hSi : Grown prog w h' S xs (i + 1) := by
      refine ⟨_, r, fun k => ?_, ?_⟩
      · rw [List.take_add_one, hx, List.mem_append, ← h2 k]
        by_cases e : xs.getD i Str.empty ∈ l
        · rw [if_pos e]
          constructor
          · exact .inl
          · rintro (h | h)
            · exact h
            · have : k = xs.getD i Str.empty := by simpa using h
              rw [this]; exact e
        · rw [if_neg e, List.mem_cons]
          constructor
          · rintro (h | h)
            · exact .inr (by rw [h]; exact List.mem_singleton.mpr rfl)
            · exact .inl h
          · rintro (h | h)
            · exact .inr h
            · exact .inl (by simpa using h)
      · split
        · omega
        · rw [List.length_cons]; omega
    refine wpAny_pure ⟨plainId_quiet PyProof.Rows.F.plain_set_update_loop _, ih (i + 1) _ (by omega) hlt (W.frame _ s' _ _ hst' (Nat.le_succ _) fun b hb o e => ?_) hSi fun s'' hm'' hS'' => ?_⟩
    · rw [hsb.2 b (fun h : b = S => hSf (by rw [← h]; exact hb))]; exact e
    · refine hR s'' (Moved.trans W.gtrans ((hm.mono hsub).then_heap (Nat.le_succ _) fun b o hb e => ?_) hm'') hS''
      rw [hsb.2 b (fun h : b = S => hb (by rw [h]; exact List.mem_cons_self))]; exact e
end
section
variable {prog : Program} {w : World} {A : Around} {E : Value → Shared → Prop} {s : Shared}
theorem call_set_strs {l : Addr} {items : Array Value} {xs : List Str} {Q : Value → Shared → Prop}
    (hh : A.handled = none) (hl : s.heap.IsList l items) (hi : PyProof.Rows.StrsAre items.toList xs) (hn1 : xs.length + 1 < scanBound)
    (h : ∀ (h' : Heap) (tk : Nat), Grown prog w h' s.heap.objs.size xs xs.length →
      (∀ b o, b < s.heap.objs.size → s.heap.get? b = some o → h'.get? b = some o) → Q (.ref s.heap.objs.size) { s with heap := h', toks := tk }) :
    wpAny (model prog w) A (call (.type "set") [.ref l]) Q E s := by
  obtain ⟨c, tl, hmro⟩ := PySem.F.called_set.mro
  have hmade := PySem.F.called_set.made
  have hsub := PySem.F.called_set.sub
  refine wpAny_call (codeAny_of_tree ?_)
  show wpAny _ _ (callAny (.type "set") _) _ _ _
  refine wpAny_pure ⟨Code.quiet_builtin _ (by decide +kernel), codeAny_builtin PySem.F.entry_type_call ?_⟩
  rw [Around.under_plain (weight_type_call_type "set" [.ref l] []) rfl]
  have h1 := PySem.F.called_set.notType
  have h2 := PySem.F.called_set.canCreate
  have hct := PySem.F.typeCall_set_1 (.ref l)
  repeat (any_goals (first | assumption | wp_step))

  refine codeAny_mono (code_set_new_led (.ref l) (E := E) (Q₁ := fun obj s₁ => obj = .ref s.heap.objs.size ∧ s₁ = { s with heap := s.heap.push { cls := .type "set", dict := none, data := .set #[] 0 (.fresh 0 0 (!w.params.followText "set-order")) } }) ⟨rfl, rfl⟩) fun r s₁ hr => ?_
  cases r with
  | error e => exact hr
  | ok fl =>
    cases fl with
    | ret obj =>
      obtain ⟨rfl, rfl⟩ := hr
      have hFr := strset_fresh (P := prog) (h := s.heap) w
      generalize (!w.params.followText "set-order") = led at hFr ⊢
      have hS : (s.heap.push { cls := .type "set", dict := none, data := .set #[] 0 (.fresh 0 0 led) }).get? s.heap.objs.size = some { cls := .type "set", dict := none, data := .set #[] 0 (.fresh 0 0 led) } := Heap.get?_push_size _ rfl
      have hT : Shared.TypeIs { s with heap := s.heap.push { cls := .type "set", dict := none, data := .set #[] 0 (.fresh 0 0 led) } } (.ref s.heap.objs.size) "set" := ⟨_, hS, rfl⟩
      have hli := PySem.F.called_set.init.lookup
      have hbi := PySem.F.called_set.init.bind (.ref s.heap.objs.size)
      repeat (any_goals (first | assumption | wp_step))

      refine codeAny_mono (codeAny_call_builtin (R := wants (fun r s₂ => r = .none ∧ ∃ h' tk, s₂ = { s with heap := h', toks := tk } ∧
          Grown prog w h' s.heap.objs.size xs xs.length ∧
          (∀ b o, b < s.heap.objs.size → s.heap.get? b = some o → h'.get? b = some o)) E) PySem.F.called_set.init.plain PySem.F.entry_set_init (check_set_init_1 hT ?_)) fun r₂ s₂ hr₂ => ?_
      · obtain ⟨ol, hol, hcl, nl, hdl⟩ := hl
        obtain ⟨ocls, odict, odata, oslots⟩ := ol
        simp only at hcl hdl
        subst hcl; subst hdl
        have hol' : (s.heap.push { cls := .type "set", dict := none, data := .set #[] 0 (.fresh 0 0 led) }).get? l = some { cls := .type "list", dict := odict, data := .seq items nl, slots := oslots } := Heap.get?_push_of_some _ hol
        have hsls := PySem.F.sub_list_set
        have hslf := PySem.F.sub_list_frozenset
        have hne : (Value.type "list" == Value.type "dict") = false := by decide
        have hl1 : (s.heap.push { cls := .type "set", dict := none, data := .set #[] 0 (.fresh 0 0 led) }).IsList l items := ⟨_, hol', rfl, nl, rfl⟩
        unfold Builtin.«set.__init__» noKeywords Builtin.Frozenset.updateFrom
        generalize hPI : pyIter = PI
        wp_walk
        subst hPI

        refine wpAny_pyIter_list hl1 ?_
        refine wpAny_bind (wpAny_runValue ?_)
        have hlS : l < s.heap.objs.size := Heap.lt_size hol
        have hh3 : A.in1.in1.in1.handled = none := by simp [hh]
        have hneI : l ≠ (s.heap.push { cls := .type "set", dict := none, data := .set #[] 0 (.fresh 0 0 led) }).objs.size := by
          rw [Heap.size_push]; exact Nat.ne_of_lt (Nat.lt_succ_of_lt hlS)
        have hSf : s.heap.objs.size ∉ [(s.heap.push { cls := .type "set", dict := none, data := .set #[] 0 (.fresh 0 0 led) }).objs.size, l] := by
          rw [Heap.size_push]; simp only [List.mem_cons, List.mem_singleton, List.not_mem_nil, or_false, not_or]
          exact ⟨Nat.ne_of_lt (Nat.lt_succ_self _), Nat.ne_of_gt hlS⟩
        have hsz : xs.length = items.size := by rw [← StrsAre.len_eq hi, Array.length_toList]
        have hval : ∀ (i : Nat) (v : Value), items[i]? = some v → ∃ t, v = .str (xs.getD i Str.empty) t := fun i v hv => SS.strs_at hi i v (by rw [Array.getElem?_toList]; exact hv)
        refine loopStrs ((Walks.list hh3 _ l hneI items).toS) s.heap.objs.size
          hSf xs hsz (by rw [← hsz]; exact hn1) hval (items.size - 0) 0 _ (by omega) (Nat.zero_le _)
          ⟨⟨_, Heap.get?_push_size _ rfl, rfl, rfl⟩, (hl1.push _)⟩ ?hS0 ?hR
        case hS0 =>
          exact ⟨[], hFr.at fun o ho => Heap.get?_push_of_some _ ho, fun k => by simp, Nat.le_refl _⟩
        case hR =>
          intro s' hm hS'
          obtain ⟨h', g', d', tk', os'⟩ := s'
          have eg : g' = s.gens := hm.gens
          have ed : d' = s.drawn := hm.drawn
          have eo : os' = s.os := hm.os
          subst eg; subst ed; subst eo
          show wpAny _ _ _ _ _ _
          refine wpAny_pure ?_
          show wpAny _ _ (ret Value.none) _ _ _
          rw [← hsz] at hS'
          refine wpAny_pure ⟨rfl, h', tk', rfl, hS', fun b o hb e => ?_⟩
          have hb1 : b ≠ s.heap.objs.size := Nat.ne_of_lt hb
          have hb2 : b ≠ (s.heap.push { cls := .type "set", dict := none, data := .set #[] 0 (.fresh 0 0 led) }).objs.size := by
            rw [Heap.size_push]; exact Nat.ne_of_lt (Nat.lt_succ_of_lt hb)
          exact hm.heap b o (by simp only [List.mem_cons, List.mem_singleton, List.not_mem_nil, or_false, not_or]; exact ⟨hb1, hb2⟩) (Heap.get?_push_of_some _ (Heap.get?_push_of_some _ e))

      · cases r₂ with
        | error e => exact hr₂
        | ok fl₂ =>
          cases fl₂ with
          | ret r =>
            obtain ⟨rfl, h', tk, rfl, hS', hk'⟩ := hr₂
            repeat (any_goals (first | assumption | wp_step))
            exact h _ _ hS' hk'
          | _ => exact hr₂.elim
    | _ => exact hr.elim
end
theorem strs_of_vals : ∀ {xs : List Str} {us : List Value}, Vals (xs.map V.str) us → StrsAre us xs
  | [], _, r => by cases r; exact .nil
  | x :: xs, _, r => by
    cases r with
    | cons h hs =>
      obtain ⟨t, rfl⟩ := h
      exact .cons x t (strs_of_vals hs)
section
variable {X : Cx} {W : WX}
def rSetStr (K : PySem.W.Frag) (P : Program) (w : World) : List V → Hp → VK → Prop := fun vs H Q => ∃ (a : Addr) (xs : List Str), vs = [V.ref a] ∧ SqL K H a (xs.map V.str) ∧ xs.length + 1 < scanBound ∧
  ∀ (p : Addr) (l : List Str), H p = none → l.Nodup → (∀ k, k ∈ l ↔ k ∈ xs) → Q (.ref p) (upd H p (StrO P w p l))
theorem cr_setStr (hc : X.calm = true) : CallR X (.type "set") (rSetStr X.K X.prog X.w) := by
  intro pins s σ H vs us Q I r h
  obtain ⟨a, xs, rfl, hx, hb, q⟩ := h
  rw [Vals.ref1 r]
  obtain ⟨its, rv, ht, hz⟩ := I.list hx
  refine call_set_strs (I.ok.hd hc) ht.isList (by rw [List.toList_toArray]; exact strs_of_vals rv) hb fun h' tk hG keep => ?_
  obtain ⟨l, R, hm, hl⟩ := hG
  have nd : l.Nodup := by obtain ⟨_, _, _, nd, _⟩ := R; exact nd
  rw [List.take_length] at hm
  have hn : H s.heap.objs.size = none := I.hok.fresh (Nat.le_refl _)
  exact ⟨.ref _, _, I.laid (t' := tk) (fun b u e => keep b u (Heap.lt_size e) e) (Nat.le_refl _) (strO_new R), rfl, q _ l hn nd hm⟩
/-- sorted(set(xs)) of a list of texts: ascending, each once -/
def rdSortS (d : D) (M : Mem) (Q : D → Mem → Prop) : Prop := ∃ (a : Addr) (xs : List Str), d = .ref a ∧ M a = some (.lst (xs.map D.str)) ∧ xs.length + 1 < scanBound ∧
  ∀ (ys : List Str) (r : Addr), sortedS ys = true → ys.Nodup → (∀ z, z ∈ ys ↔ z ∈ xs) → M r = none → Q (.ref r) (mupd M r (.lst (ys.map D.str)))
def tdSortS (te : TDE) : TDE := fun ρ M Q E => te ρ M (fun d M1 => rdSortS d M1 Q) E
theorem strs_reps {K : PySem.W.Frag} {H : Hp} : ∀ {xs : List Str} {vs : List V}, Reps K H vs (xs.map D.str) → vs = xs.map V.str
  | [], _, r => by cases r; rfl
  | x :: xs, _, r => by
    cases r with
    | cons h hs =>
      cases h
      rw [strs_reps hs]; rfl
theorem reps_strs2 (K : PySem.W.Frag) (H : Hp) : ∀ ys : List Str, Reps K H (ys.map V.str) (ys.map D.str)
  | [] => .nil
  | y :: ys => .cons (.str y) (reps_strs2 K H ys)
theorem d_sortset {e : Expr} {te : TDE} {p1 p2 q1 q2 : Pos} (hc : X.calm = true) (hm : X.mg "sorted" = none) (hm2 : X.mg "set" = none) (he : DE X W e te) (hg : Gl X "sorted" := by rfl) (hg2 : Gl X "set" := by rfl)
    (hs : starEach [e] X.env = (false, eval e X.env) :: starEach [] X.env := by rfl)
    (hs2 : starEach [.Call (.Name "set" p2) [e] [] q2] X.env = (false, eval (.Call (.Name "set" p2) [e] [] q2) X.env) :: starEach [] X.env := by rfl) :
    DE X W (.Call (.Name "sorted" p1) [.Call (.Name "set" p2) [e] [] q2] [] q1) (tdSortS te) :=
  PE.imp (pe_callB (cr_sortStr hc) hg hm (by decide +kernel) (pa_cons (pe_callTy (cr_setStr hc) hg2 hm2 (by decide +kernel) (pa_cons he pa_nil hs) (by decide) (by decide) hs rfl) pa_nil hs2) (by decide) (by decide) hs2 rfl) fun σ H Q ⟨ρ, M, Q0, E0, dv, sm, q, hq, hw⟩ => by
    refine ⟨ρ, M, _, E0, dv, sm, q, fun d M1 q1 v H1 r1 s1 t1 => ?_, hw⟩
    obtain ⟨a, xs, rfl, e1, hb, q1⟩ := q1
    obtain ⟨vs, hv, rs⟩ := s1.lst e1
    cases r1
    have ev := strs_reps rs
    subst ev
    refine ⟨a, xs, rfl, .inl (.inl hv), hb, fun p l hp nd hmem => ?_⟩
    have s2 := s1.new (o := StrO X.prog X.w p l) hp
    have t2 := t1.trans (Tr.new (M := M1) (o := StrO X.prog X.w p l) hp)
    refine ⟨p, l, rfl, upd_same, fun ys r hso hpm hr => ?_⟩
    have hm2 : M1 r = none := s2.free hr
    have h := q1 ys r hso (hpm.nodup_iff.mpr nd) (fun z => hpm.mem_iff.trans (hmem z)) hm2
    exact hq _ _ h (.ref r) _ (.ref r) (s2.newM hr ⟨_, upd_same, reps_strs2 _ _ ys⟩) (t2.trans (Tr.newM hr))
end
end TD

set_option Elab.async false
set_option linter.all false
set_option maxRecDepth 100000
set_option maxHeartbeats 0
namespace LW
open PySem L2 TD
open XG (ssx_nil ssx_cons ssx_one sx ssx dx tx ax kx sx_if sx_ret sx_asg sx_set sx_for sx_forP dx_call dx_callK dx_callK0 dx_cmpD tx_cmpD dx_and dx_or dx_one dx_not dx_if dx_tup dx_lst ax_nil ax_cons kx_nil kx_cons tx_not tx_val wx_and wx_or wx_and1 wx_or1 blindF dx_all)
-- reading: walk_at "td" computes the data layer's terms up to the next closed step; "sd" takes a step; "run" goes on; "go" goes on through statements
local macro_rules | `(tactic| walk_at "td") => `(tactic| conv => whnf)
local macro_rules | `(tactic| walk_at "big") => `(tactic| first | assumption | exact Big.of200 (by omega) (by omega) | exact Big.of200 (by decide) (by decide))
local macro_rules | `(tactic| walk_at "ne") => `(tactic| first | assumption | exact Ne.symm (by assumption) | exact mne (by assumption) (by assumption) | exact mne' (by assumption) (by assumption))
local macro_rules | `(tactic| walk_at "mem") => `(tactic| first | assumption | exact mupd_same | (refine (mupd_ne ?_).trans ?_; (next => walk_at "ne"); walk_at "mem"))
local macro_rules | `(tactic| walk_at "len") => `(tactic| first | decide | omega | (simp only [List.length_map, List.length_append, List.length_cons, List.length_nil, List.length_replicate]; omega))
local macro_rules | `(tactic| walk_at "sd") => `(tactic| first
  | refine cndT ?_ | refine cndF ?_
  | refine add_i ?_ | refine augAdd_i ?_ | refine sub_i ?_
  | refine lt_i ?_ | refine le_i ?_ | refine gt_i ?_ | refine ge_i ?_
  | refine eq_i ?_ | refine ne_i ?_ | refine eq_s ?_ | refine ne_s ?_ | refine eq_b ?_ | refine ne_b ?_ | refine is_n ?_ | refine isnot_n ?_
  | refine call_i ?_ | refine len_t ?_ | refine len_r ?_ | refine it_t ?_ | refine it_r ?_ | refine sl_t ?_ | refine sl_r ?_ | refine qof_r ?_ | refine tup_t ?_
  | (apply ix_t; (next => exact rfl))
  | (apply ix_l; (next => walk_at "mem"); (next => first | exact rfl | exact atI_zero))
  | (apply mul_i; (next => walk_at "big"); (next => walk_at "big"))
  | (apply fdiv_i; (next => exact .of (by omega) (by omega))) | (apply mod_i; (next => omega))
  | refine p_18 ?_ | refine p_14 ?_ | refine p_12 ?_ | refine p_6 ?_ | refine p_9 ?_ | refine p_20 ?_ | refine p_29 ?_ | refine p_30 ?_
  | (apply len_l; (next => walk_at "mem"))
  | (apply setL_i; (next => walk_at "mem"); (next => exact rfl)) | (apply qof_l; (next => walk_at "mem")) | (apply tup_l; (next => walk_at "mem"))
  | (apply isi_l; (next => walk_at "mem"); (next => exact rfl)) | (apply isi_i; (next => exact rfl); (next => exact rfl))
  | (apply and_sp; (next => exact rfl)) | (apply and_sp2; (next => exact rfl); (next => exact rfl)) | (apply and_len; (next => exact rfl)) | (apply and_sz; (next => walk_at "len")))
local macro_rules | `(tactic| walk_at "run") => `(tactic| ((repeat ((conv => whnf); (walk_at "sd"))); (try (conv => whnf))))
local macro_rules | `(tactic| walk_at "go") => `(tactic| ((repeat ((conv => whnf); (first | walk_at "sd" | refine seq0 ?_))); (try (conv => whnf))))
local macro_rules | `(tactic| walk_at "look") => `(tactic| (set_option pp.maxSteps 160 in trace_state))

def top (i : Nat) : Stmt := PySem.Challenge.pw_turndeal_k21_counts_of_items.main.body.getD i (.Pass ⟨0, 0, 0, 0⟩)
abbrev s_ends : Stmt := top 1
theorem sc_ends : GScope ["tree", "first", "step", "width", "number", "outlet"] ["tree", "first", "step"] (defScope s_ends) := ⟨rfl, rfl, rfl, by decide +kernel, rfl, by decide +kernel, by decide +kernel⟩
abbrev s_count : Stmt := top 3
theorem sc_count : FnScope ["tree", "owner", "items", "found", "first", "step", "other"] ["tree", "owner", "items"] (defScope s_count) := ⟨rfl, rfl, rfl, by decide +kernel, rfl, by decide +kernel, by decide +kernel⟩
theorem bd_count : Bd "count" s_count ["tree", "owner", "items"] 3 [] (fun us _ => us) (fun ds _ => ds) := bd_pos fun _ _ _ _ _ _ us hl => match us, hl with | [_, _, _], _ => rfl
abbrev s_law_bag : Stmt := top 5
theorem sc_law_bag : FnScope ["_law_script", "_law_salt", "_law_cell"] ["_law_script"] (defScope s_law_bag) := ⟨rfl, rfl, rfl, by decide +kernel, rfl, by decide +kernel, by decide +kernel⟩
theorem bd_law_bag : Bd "_law_bag" s_law_bag ["_law_script"] 1 [] (fun us _ => us) (fun ds _ => ds) := bd_pos fun _ _ _ _ _ _ us hl => match us, hl with | [_], _ => rfl
abbrev s_law_pull : Stmt := top 6
theorem sc_law_pull : FnScope ["_law_bag_here", "_law_amount", "_law_cell", "_law_got", "_law_seed"] ["_law_bag_here", "_law_amount"] (defScope s_law_pull) := ⟨rfl, rfl, rfl, by decide +kernel, rfl, by decide +kernel, by decide +kernel⟩
theorem bd_law_pull : Bd "_law_pull" s_law_pull ["_law_bag_here", "_law_amount"] 2 [] (fun us _ => us) (fun ds _ => ds) := bd_pos fun _ _ _ _ _ _ us hl => match us, hl with | [_, _], _ => rfl
abbrev s_law_of : Stmt := top 7
theorem sc_law_of : FnScope ["_law_bag_here", "_law_things"] ["_law_bag_here", "_law_things"] (defScope s_law_of) := ⟨rfl, rfl, rfl, by decide +kernel, rfl, by decide +kernel, by decide +kernel⟩
theorem bd_law_of : Bd "_law_of" s_law_of ["_law_bag_here", "_law_things"] 2 [] (fun us _ => us) (fun ds _ => ds) := bd_pos fun _ _ _ _ _ _ us hl => match us, hl with | [_, _], _ => rfl
abbrev s_law_like : Stmt := top 8
theorem sc_law_like : FnScope ["_law_found", "_law_due", "_law_k", "_law_key"] ["_law_found", "_law_due"] (defScope s_law_like) := ⟨rfl, rfl, rfl, by decide +kernel, rfl, by decide +kernel, by decide +kernel⟩
theorem bd_law_like : Bd "_law_like" s_law_like ["_law_found", "_law_due"] 2 [] (fun us _ => us) (fun ds _ => ds) := bd_pos fun _ _ _ _ _ _ us hl => match us, hl with | [_, _], _ => rfl
abbrev s_law_names : Stmt := top 9
theorem sc_law_names : FnScope ["_law_bag_here", "_law_size", "_law_letters", "_law_base", "_law_k", "_law_spot", "_law_first", "_law_step"] ["_law_bag_here", "_law_size"] (defScope s_law_names) := ⟨rfl, rfl, rfl, by decide +kernel, rfl, by decide +kernel, by decide +kernel⟩
theorem bd_law_names : Bd "_law_names" s_law_names ["_law_bag_here", "_law_size"] 2 [] (fun us _ => us) (fun ds _ => ds) := bd_pos fun _ _ _ _ _ _ us hl => match us, hl with | [_, _], _ => rfl
abbrev s_law_owners : Stmt := top 10
theorem sc_law_owners : FnScope ["_law_bag_here"] ["_law_bag_here"] (defScope s_law_owners) := ⟨rfl, rfl, rfl, by decide +kernel, rfl, by decide +kernel, by decide +kernel⟩
theorem bd_law_owners : Bd "_law_owners" s_law_owners ["_law_bag_here"] 1 [] (fun us _ => us) (fun ds _ => ds) := bd_pos fun _ _ _ _ _ _ us hl => match us, hl with | [_], _ => rfl
abbrev s_law_tree : Stmt := top 11
theorem sc_law_tree : FnScope ["_law_bag_here", "_law_pool", "_law_deep", "_law_widest", "_law_k"] ["_law_bag_here", "_law_pool", "_law_deep", "_law_widest"] (defScope s_law_tree) := ⟨rfl, rfl, rfl, by decide +kernel, rfl, by decide +kernel, by decide +kernel⟩
theorem bd_law_tree : Bd "_law_tree" s_law_tree ["_law_bag_here", "_law_pool", "_law_deep", "_law_widest"] 4 [] (fun us _ => us) (fun ds _ => ds) := bd_pos fun _ _ _ _ _ _ us hl => match us, hl with | [_, _, _, _], _ => rfl
abbrev s_law_drawn : Stmt := top 12
theorem sc_law_drawn : FnScope ["_law_bag_here", "_law_pool", "_law_deep", "_law_widest"] ["_law_bag_here", "_law_pool"] (defScope s_law_drawn) := ⟨rfl, rfl, rfl, by decide +kernel, rfl, by decide +kernel, by decide +kernel⟩
theorem bd_law_drawn : Bd "_law_drawn" s_law_drawn ["_law_bag_here", "_law_pool"] 2 [] (fun us _ => us) (fun ds _ => ds) := bd_pos fun _ _ _ _ _ _ us hl => match us, hl with | [_, _], _ => rfl
abbrev s_law_owner_of : Stmt := top 13
theorem sc_law_owner_of : FnScope ["_law_tree_z", "_law_item"] ["_law_tree_z", "_law_item"] (defScope s_law_owner_of) := ⟨rfl, rfl, rfl, by decide +kernel, rfl, by decide +kernel, by decide +kernel⟩
theorem bd_law_owner_of : Bd "_law_owner_of" s_law_owner_of ["_law_tree_z", "_law_item"] 2 [] (fun us _ => us) (fun ds _ => ds) := bd_pos fun _ _ _ _ _ _ us hl => match us, hl with | [_, _], _ => rfl
abbrev s_law_ends : Stmt := top 14
theorem sc_law_ends : FnScope ["_law_tree_z", "_law_first", "_law_step", "_law_found", "_law_k"] ["_law_tree_z", "_law_first", "_law_step"] (defScope s_law_ends) := ⟨rfl, rfl, rfl, by decide +kernel, rfl, by decide +kernel, by decide +kernel⟩
theorem bd_law_ends : Bd "_law_ends" s_law_ends ["_law_tree_z", "_law_first", "_law_step"] 3 [] (fun us _ => us) (fun ds _ => ds) := bd_pos fun _ _ _ _ _ _ us hl => match us, hl with | [_, _, _], _ => rfl
abbrev s_law_great : Stmt := top 15
theorem sc_law_great : FnScope ["_law_bag_here"] ["_law_bag_here"] (defScope s_law_great) := ⟨rfl, rfl, rfl, by decide +kernel, rfl, by decide +kernel, by decide +kernel⟩
theorem bd_law_great : Bd "_law_great" s_law_great ["_law_bag_here"] 1 [] (fun us _ => us) (fun ds _ => ds) := bd_pos fun _ _ _ _ _ _ us hl => match us, hl with | [_], _ => rfl
abbrev s_law_count : Stmt := top 16
theorem sc_law_count : FnScope ["_law_tree_z", "_law_owner_z", "_law_items_z", "_law_found", "_law_first", "_law_step", "_law_name"] ["_law_tree_z", "_law_owner_z", "_law_items_z"] (defScope s_law_count) := ⟨rfl, rfl, rfl, by decide +kernel, rfl, by decide +kernel, by decide +kernel⟩
theorem bd_law_count : Bd "_law_count" s_law_count ["_law_tree_z", "_law_owner_z", "_law_items_z"] 3 [] (fun us _ => us) (fun ds _ => ds) := bd_pos fun _ _ _ _ _ _ us hl => match us, hl with | [_, _, _], _ => rfl
abbrev s_law_deep_tree : Stmt := top 17
theorem sc_law_deep_tree : FnScope ["_law_bag_here", "_law_high", "_law_tree_z", "_law_first", "_law_step", "_law_turns", "_law_turn", "_law_k"] ["_law_bag_here", "_law_high"] (defScope s_law_deep_tree) := ⟨rfl, rfl, rfl, by decide +kernel, rfl, by decide +kernel, by decide +kernel⟩
theorem bd_law_deep_tree : Bd "_law_deep_tree" s_law_deep_tree ["_law_bag_here", "_law_high"] 2 [] (fun us _ => us) (fun ds _ => ds) := bd_pos fun _ _ _ _ _ _ us hl => match us, hl with | [_, _], _ => rfl
abbrev s_law_wide_tree : Stmt := top 18
theorem sc_law_wide_tree : FnScope ["_law_bag_here", "_law_pool", "_law_size", "_law_width", "_law_j", "_law_k"] ["_law_bag_here", "_law_pool"] (defScope s_law_wide_tree) := ⟨rfl, rfl, rfl, by decide +kernel, rfl, by decide +kernel, by decide +kernel⟩
theorem bd_law_wide_tree : Bd "_law_wide_tree" s_law_wide_tree ["_law_bag_here", "_law_pool"] 2 [] (fun us _ => us) (fun ds _ => ds) := bd_pos fun _ _ _ _ _ _ us hl => match us, hl with | [_, _], _ => rfl
abbrev s_law : Stmt := top 19
theorem sc_law : FnScope ["_law_script", "_law_bag_here", "_law_turn", "_law_pool", "_law_tree_z", "_law_owner_z", "_law_few", "_law_many", "_law_due", "_law_wide", "_law_deep", "_law_first", "_law_step", "_law_item", "_law_name"] ["_law_script"] (defScope s_law) := ⟨rfl, rfl, rfl, by decide +kernel, rfl, by decide +kernel, by decide +kernel⟩
theorem bd_law : Bd "law" s_law ["_law_script"] 1 [] (fun us _ => us) (fun ds _ => ds) := bd_pos fun _ _ _ _ _ _ us hl => match us, hl with | [_], _ => rfl
theorem bk_count_0_items_owner_tree : Bd "count" s_count ["tree", "owner", "items"] 0 ["items", "owner", "tree"] (fun us ws => match us, ws with | [], [w0, w1, w2] => [w2, w1, w0] | _, _ => []) (fun us ws => match us, ws with | [], [w0, w1, w2] => [w2, w1, w0] | _, _ => []) where
  to := fun _ _ _ _ _ _ us ws h1 h2 => match us, h1, ws, h2 with | [], _, [_, _, _], _ => rfl
  rel := fun {_ _ us ws _ _ _ _} h1 h2 r1 r2 d1 d2 => match us, h1, ws, h2, r1, r2, d1, d2 with | [], _, [_, _, _], _, .nil, .cons rw0 (.cons rw1 (.cons rw2 .nil)), .nil, .cons dw0 (.cons dw1 (.cons dw2 .nil)) => ⟨_, .cons rw2 (.cons rw1 (.cons rw0 .nil)), .cons dw2 (.cons dw1 (.cons dw0 .nil))⟩

section
variable {P : Program} {w : World} {K : PySem.W.Frag} {mg : Str → Option Value} {base : Heap}
/-! ### the law's own reader of the script -/
def bagO (a : Addr) (i big salt : Int) : MO := .lst [.ref a, .int i, .int big, .int salt]
structure BagV (i big salt : Int) : Prop where
  i0 : 0 ≤ i
  b0 : 0 ≤ big
  s0 : 0 ≤ salt
  s1 : salt < 2147483647
structure Bag (M : Mem) (p : Addr) : Prop where
  ex : ∃ (a : Addr) (cells : List Int) (i big salt : Int), M p = some (bagO a i big salt) ∧ M a = some (.lst (cells.map D.int)) ∧ a ≠ p ∧ BagV i big salt
/-- where the bag's cells lie -/
def cellsOf (M : Mem) (p : Addr) : Option Addr := match M p with
  | some (.lst (.ref a :: _)) => some a
  | _ => none
theorem cells_bag {M : Mem} {p a : Addr} {i big salt : Int} (h : M p = some (bagO a i big salt)) : cellsOf M p = some a := by
  unfold cellsOf
  rw [h]
  rfl
theorem cells_eq {M M' : Mem} {p : Addr} (h : M' p = M p) : cellsOf M' p = cellsOf M p := by unfold cellsOf; rw [h]
/-- the bag at p has turned, all else stands -/
structure BagTo (p : Addr) (M M' : Mem) : Prop where
  bag : Bag M' p
  fr : ∀ b, b ≠ p → M' b = M b
  ad : cellsOf M' p = cellsOf M p
theorem BagTo.refl {p : Addr} {M : Mem} (h : Bag M p) : BagTo p M M := ⟨h, fun _ _ => rfl, rfl⟩
theorem BagTo.trans {p : Addr} {M M1 M2 : Mem} (a : BagTo p M M1) (b : BagTo p M1 M2) : BagTo p M M2 := ⟨b.bag, fun c h => (b.fr c h).trans (a.fr c h), b.ad.trans a.ad⟩
def sp_bag : SpD := fun ds M Q _ => ∃ ns : List Int, ds = [.rol (ns.map D.int)] ∧ ns.length ≤ 63 ∧ ∀ p M', M p = none → Bag M' p → (∀ b o, M b = some o → M' b = some o) → Q (.ref p) M'
def sp_pull : SpD := fun ds M Q _ => ∃ (p : Addr) (n : Int), ds = [.ref p, .int n] ∧ Bag M p ∧ 0 < n ∧ n < 2 ^ 200 ∧ ∀ v M', 0 ≤ v → v < n → BagTo p M M' → Q (.int v) M'
theorem ok_pull (a : At K mg "_law_pull" s_law_pull) (n_len : mg "len" = none) : Ok P w K mg base "_law_pull" s_law_pull 2 ["_law_bag_here", "_law_amount"] sp_pull := by
  refine ok_of a sc_law_pull 3 rfl (fun ds M Q E ⟨p, n, h, _⟩ => by rw [h]; rfl) fun f cd A outer s H E hr => ⟨_, (ss_cons (s_if (DW.t (w_and (t_cmp (c_eq hr) (d_ix (dv 0) de_int) de_int) (w_and1 (t_cmp c_lt (d_ix (dv 0) de_int) (d_len n_len (d_ix (dv 0) de_int)))))) (ss_cons (s_set 2 sc_law_pull.nd (d_ix (d_ix (dv 0) de_int) (d_ix (dv 0) de_int)))
  (ss_cons (s_asg (d_add (d_ix (dv 0) de_int) de_int) (g_sub (W := W0) (dv 0) de_int))
  (ss_one (s_if (t_cmp c_ge (dv 2) (d_pow de_int de_int)) (ss_one (s_asg (dv 2) (g_sub (W := W0) (dv 0) de_int))) (ss_one (s_asg (d_mod (d_add (d_add (d_mul (d_ix (dv 0) de_int) de_int) (d_mul (d_mod (dv 2) de_int) de_int)) de_int) de_int) (g_sub (W := W0) (dv 0) de_int))))))) ss_nil)
  (ss_cons (s_if (t_cmp c_gt (d_ix (dv 0) de_int) de_int) (ss_cons (s_set 3 sc_law_pull.nd (d_mod (d_ix (dv 0) de_int) (dv 1)))
  (ss_cons (s_asg (d_fdiv (d_ix (dv 0) de_int) (dv 1)) (g_sub (W := W0) (dv 0) de_int))
  (ss_one (s_ret (dv 3))))) ss_nil)
  (ss_cons (s_set 4 sc_law_pull.nd (d_ix (dv 0) de_int))
  (ss_cons (s_asg (d_mod (d_add (d_add (d_mul (dv 4) (dv 4)) (d_mul (dv 4) de_int)) de_int) de_int) (g_sub (W := W0) (dv 0) de_int))
  (ss_one (s_ret (d_mod (d_add (d_fdiv (d_ix (dv 0) de_int) de_int) (d_mul (d_mod (d_ix (dv 0) de_int) de_int) de_int)) (dv 1)))))))), ?_⟩
  rintro ds M Q E ⟨p, n, rfl, ⟨⟨a, cells, i, big, salt, hp, ha, hne, bv⟩⟩, h0, h1, hq⟩
  obtain ⟨v0, v1, v2, v3⟩ := bv
  refine seqC (fun ρ M1 => BagTo p M M1 ∧ ∃ x y z, ρ = [some (.ref p), some (.int n), x, y, z]) ?_ ?_
  · walk_at "go"
    refine cndE (fun hb => ?_) fun hb => ?_ <;> walk_at "go"
    · refine cndD (fun hl => ?_) fun hl => ?_ <;> walk_at "go"
      · obtain ⟨c, _, hc, _⟩ := atI_map (f := D.int) (xs := cells) v0 (by simpa using hl)
        refine ix_l ha hc ?_
        walk_at "go"
        have hz : i + 1 ≥ 0 := by omega
        refine cndD (fun hg => ?_) fun hg => ?_ <;> walk_at "go"
        · refine ⟨⟨⟨a, cells, i + 1, c, salt, by simp [mupd_mupd, mupd_same, bagO], ?_, hne, ⟨by omega, by omega, v2, v3⟩⟩, fun b hb => ?_, ?_⟩, _, _, _, rfl⟩
          · simp [mupd_ne, hne, ha]
          · simp [mupd_ne, hb]
          · rw [cells_bag hp]; exact cells_bag (by simp only [mupd_mupd, mupd_same, bagO]; rfl)
        · refine ⟨⟨⟨a, cells, i + 1, big, _, by simp only [mupd_mupd, mupd_same, bagO]; rfl, ?_, hne, ⟨by omega, by omega, by omega, by omega⟩⟩, fun b hb => ?_, ?_⟩, _, _, _, rfl⟩
          · simp [mupd_ne, hne, ha]
          · simp [mupd_ne, hb]
          · rw [cells_bag hp]; exact cells_bag (by simp only [mupd_mupd, mupd_same, bagO]; rfl)
      · exact ⟨.refl ⟨⟨a, cells, i, big, salt, hp, ha, hne, ⟨v0, v1, v2, v3⟩⟩⟩, _, _, _, rfl⟩
    · exact ⟨.refl ⟨⟨a, cells, i, big, salt, hp, ha, hne, ⟨v0, v1, v2, v3⟩⟩⟩, _, _, _, rfl⟩
  · rintro ρ M1 ⟨⟨⟨⟨a1, cells1, i1, big1, salt1, hp1, ha1, hne1, ⟨v01, v11, v21, v31⟩⟩⟩, fr1, ad1⟩, x, y, z, rfl⟩
    walk_at "go"
    refine cndD (fun hb => ?_) fun hb => ?_ <;> walk_at "go"
    · refine ⟨_, MLe.refl _, hq _ _ (Int.emod_nonneg _ (by omega)) (Int.emod_lt_of_pos _ h0) ⟨⟨a1, cells1, i1, big1 / n, salt1, by simp only [mupd_same, bagO]; rfl, by rw [mupd_ne hne1]; exact ha1, hne1, ⟨v01, Int.ediv_nonneg v11 (by omega), v21, v31⟩⟩, fun b hb => by rw [mupd_ne hb]; exact fr1 b hb, by rw [← ad1, cells_bag hp1]; exact cells_bag (by simp only [mupd_same, bagO]; rfl)⟩⟩
    · refine ⟨_, MLe.refl _, hq _ _ (Int.emod_nonneg _ (by omega)) (Int.emod_lt_of_pos _ h0) ⟨⟨a1, cells1, i1, big1, _, by simp only [mupd_same, bagO]; rfl, by rw [mupd_ne hne1]; exact ha1, hne1, ⟨v01, v11, Int.emod_nonneg _ (by omega), Int.emod_lt_of_pos _ (by omega)⟩⟩, fun b hb => by rw [mupd_ne hb]; exact fr1 b hb, by rw [← ad1, cells_bag hp1]; exact cells_bag (by simp only [mupd_same, bagO]; rfl)⟩⟩

theorem ok_bag (a : At K mg "_law_bag" s_law_bag) (n_list : mg "list" = none) : Ok P w K mg base "_law_bag" s_law_bag 2 ["_law_script"] sp_bag := by
  refine ok_of a sc_law_bag 2 rfl (fun ds M Q E ⟨ns, h, _⟩ => by rw [h]; rfl) fun f cd A outer s H E hr => ⟨_, (ss_cons (s_set 1 sc_law_bag.nd de_int)
  (ss_cons (s_for xd_owns rfl (i_l (l_slice (dv 0) o_none (o_some de_int))) (g_name 2 sc_law_bag.nd) (ss_one (s_set 1 sc_law_bag.nd (d_mod (d_add (d_add (d_mul (dv 1) de_int) (d_mod (dv 2) de_int)) de_int) de_int))))
  (ss_one (s_ret (d_lst (a_cons (d_list n_list (q_of (d_slice (dv 0) o_none (o_some de_int)))) (a_cons de_int (a_cons de_int (a_cons (dv 1) a_nil))))))))), ?_⟩
  rintro ds M Q E ⟨ns, rfl, hl, hq⟩
  walk_at "go"
  rw [cutD_map]
  refine for_by (fun i ρ M1 => M1 = M ∧ ∃ salt x, ρ = [some (.rol (ns.map D.int)), some (.int salt), x] ∧ 0 ≤ salt ∧ salt < 2147483647) ⟨rfl, 9497, _, rfl, by omega, by omega⟩ (fun _ _ _ _ _ => trivial) ?_ ?_
  · rintro i d ρ M1 hd ⟨rfl, salt, x, rfl, h0, h1⟩
    obtain ⟨c, _, rfl, _⟩ := map_get hd
    walk_at "go"
    exact ⟨rfl, _, _, rfl, Int.emod_nonneg _ (by omega), Int.emod_lt_of_pos _ (by omega)⟩
  · rintro ρ M1 ⟨rfl, salt, x, rfl, h0, h1⟩
    walk_at "go"
    obtain ⟨cs, hcs⟩ : ∃ cs : List Int, cutD (ns.map D.int) none (some 63) = cs.map D.int := ⟨_, cutD_map _ _ _ _⟩
    rw [hcs]
    intro p1 hp1
    walk_at "go"
    intro p2 hp2
    walk_at "go"
    intro p3 hp3
    walk_at "go"
    have n1 : ∀ b o, M1 b = some o → b ≠ p1 := fun b o e => mne e hp1
    have n2 : ∀ b o, M1 b = some o → b ≠ p2 := fun b o e e2 => by rw [← e2, mupd_ne (n1 b o e), e] at hp2; cases hp2
    have h21 : p2 ≠ p1 := fun e => by rw [e, mupd_same] at hp2; cases hp2
    have h32 : p3 ≠ p2 := fun e => by rw [e, mupd_same] at hp3; cases hp3
    have n3 : ∀ b o, M1 b = some o → b ≠ p3 := fun b o e e2 => by rw [← e2, mupd_ne (n2 b o e), mupd_ne (n1 b o e), e] at hp3; cases hp3
    refine ⟨_, MLe.refl _, hq p3 _ ?_ ⟨p2, cs, 0, 0, salt, mupd_same, ?_, h32.symm, ⟨by omega, by omega, h0, h1⟩⟩ fun b o e => ?_⟩
    · cases e : M1 p3 with
      | none => rfl
      | some o => exact absurd rfl (n3 _ _ e)
    · rw [mupd_ne h32.symm, mupd_same]
    · rw [mupd_ne (n3 _ _ e), mupd_ne (n2 _ _ e), mupd_ne (n1 _ _ e)]; exact e
theorem Bag.ne {M : Mem} {p q : Addr} (h : Bag M p) (hq : M q = none) : q ≠ p := fun e => by
  obtain ⟨a, cells, i, big, salt, h1, _⟩ := h.ex
  rw [← e, hq] at h1
  cases h1
theorem Bag.new {M : Mem} {p q : Addr} {o : MO} (h : Bag M p) (hq : M q = none) : Bag (mupd M q o) p := by
  obtain ⟨a, cells, i, big, salt, h1, h2, h3, h4⟩ := h.ex
  exact ⟨a, cells, i, big, salt, by rw [mupd_ne (mne h1 hq)]; exact h1, by rw [mupd_ne (mne h2 hq)]; exact h2, h3, h4⟩
/-! ### one of -/
inductive Things (M : Mem) (p : Addr) : D → List D → Prop
  | tup (xs : List D) : Things M p (.tup xs) xs
  | rol (xs : List D) : Things M p (.rol xs) xs
  | lst {a : Addr} {xs : List D} : M a = some (.lst xs) → a ≠ p → Things M p (.ref a) xs
  | str {z : Str} : z.length ≤ sizeLine → Things M p (.str z) (signsD z)
theorem Things.to {M M' : Mem} {p : Addr} {d : D} {xs : List D} (h : Things M p d xs) (t : BagTo p M M') : Things M' p d xs := by
  cases h with
  | tup => exact .tup _
  | rol => exact .rol _
  | lst h n => exact .lst (by rw [t.fr _ n]; exact h) n
  | str h => exact .str h
theorem Things.len {M : Mem} {p : Addr} {d : D} {xs : List D} {Q : D → Mem → Prop} (h : Things M p d xs) (q : Q (.int xs.length) M) : rdLen d M Q := by
  cases h with
  | tup => exact len_t q
  | rol => exact len_r q
  | lst h n => exact len_l h q
  | @str z hz => exact len_s hz (by have e : (signsD z).length = z.length := by { simp [signsD]; rfl }
                                    rw [e] at q; exact q)
theorem Things.ix {M : Mem} {p : Addr} {d : D} {xs : List D} {i : Int} {Q : D → Mem → Prop} (h : Things M p d xs) (h0 : 0 ≤ i) (h1 : i < xs.length) (q : ∀ d, d ∈ xs → Q d M) : rdIx d (.int i) M Q := by
  obtain ⟨x, e, e2⟩ := atI_of h0 h1
  have hm := List.mem_of_getElem? e2
  cases h with
  | tup => exact ix_t e (q _ hm)
  | rol => exact ix_q rfl e (q _ hm)
  | lst h n => exact ix_l h e (q _ hm)
  | @str z hz =>
    obtain ⟨c, hc, e3, e4⟩ := atI_map (f := fun c => D.str ⟨#[c]⟩) (xs := z.cps.toList) h0 (by simpa [signsD] using h1)
    exact ix_s hz e4 (q _ (List.mem_map.mpr ⟨c, hc, rfl⟩))
def sp_of : SpD := fun ds M Q _ => ∃ (p : Addr) (th : D) (xs : List D), ds = [.ref p, th] ∧ Bag M p ∧ Things M p th xs ∧ 0 < xs.length ∧ xs.length < 2 ^ 200 ∧ ∀ d M', d ∈ xs → BagTo p M M' → Q d M'
theorem ok_of_ (a : At K mg "_law_of" s_law_of) (n_len : mg "len" = none) (o_law_pull : Ok P w K mg base "_law_pull" s_law_pull 2 ["_law_bag_here", "_law_amount"] sp_pull) : Ok P w K mg base "_law_of" s_law_of 3 ["_law_bag_here", "_law_things"] sp_of := by
  refine ok_of a sc_law_of 0 rfl (fun ds M Q E ⟨p, th, xs, h, _⟩ => by rw [h]; rfl) fun f cd A outer s H E hr => ⟨_, (ss_one (s_ret (d_ix (dv 1) (d_call o_law_pull bd_law_pull (hr.mono (by decide)) xd_takes (a_cons (dv 0) (a_cons (d_len n_len (dv 1)) a_nil)))))), ?_⟩
  rintro ds M Q E ⟨p, th, xs, rfl, hb, ht, h0, h1, hq⟩
  walk_at "go"
  refine ht.len ?_
  walk_at "go"
  refine ⟨p, _, rfl, hb, by omega, by omega, fun v M' hv0 hv1 ht' => ?_⟩
  refine (ht.to ht').ix hv0 hv1 fun d hd => ?_
  exact ⟨_, MLe.refl _, hq d M' hd ht'⟩

/-! ### texts -/
theorem app_len (x y : Str) : (x ++ y).length = x.length + y.length := by show (x.cps ++ y.cps).size = _; simp [Str.length]
theorem app_cps (x y : Str) : (x ++ y).cps.toList = x.cps.toList ++ y.cps.toList := by show (x.cps ++ y.cps).toList = _; simp
theorem one_len (c : Nat) : (⟨#[c]⟩ : Str).length = 1 := rfl
theorem cps_len (z : Str) : z.cps.toList.length = z.length := by simp [Str.length]
theorem cut_take {z : Str} {n : Int} (h0 : 0 ≤ n) (h1 : n ≤ z.length) : cutS z none (some n) = ⟨(z.cps.toList.take n.toNat).toArray⟩ := by
  obtain ⟨k, rfl⟩ := Int.eq_ofNat_of_zero_le h0
  have e : HT.sIx z.length z.length (some ((k : Nat) : Int)) = min k z.length := by
    show (if ((k : Nat) : Int) < 0 then (((k : Nat) : Int) + (z.length : Int)).toNat else min ((k : Nat) : Int).toNat z.length) = _
    rw [if_neg (by omega), Int.toNat_natCast]
  unfold cutS
  rw [e]
  show (⟨((z.cps.toList.drop 0).take (min k z.length - 0)).toArray⟩ : Str) = _
  rw [List.drop_zero, Nat.sub_zero, Nat.min_eq_left (by omega), Int.toNat_natCast]
theorem cut_drop {z : Str} {n : Int} (h0 : 0 ≤ n) (h1 : n ≤ z.length) : cutS z (some n) none = ⟨(z.cps.toList.drop n.toNat).toArray⟩ := by
  obtain ⟨k, rfl⟩ := Int.eq_ofNat_of_zero_le h0
  have e : HT.sIx z.length 0 (some ((k : Nat) : Int)) = min k z.length := by
    show (if ((k : Nat) : Int) < 0 then (((k : Nat) : Int) + (z.length : Int)).toNat else min ((k : Nat) : Int).toNat z.length) = _
    rw [if_neg (by omega), Int.toNat_natCast]
  unfold cutS
  rw [e]
  show (⟨((z.cps.toList.drop (min k z.length)).take (z.length - min k z.length)).toArray⟩ : Str) = _
  rw [Nat.min_eq_left (by omega), Int.toNat_natCast, List.take_of_length_le (by rw [List.length_drop, cps_len]; omega)]
theorem sl_n {M : Mem} {Q : D → Mem → Prop} {z : Str} {l u : Option Int} (hz : z.length ≤ 1000000) (h : ∀ y, y = cutS z l u → y.length ≤ z.length → Q (.str y) M) : rdSl (.str z) l u M Q := sl_s (sz hz) (h _ rfl (cutS_length z l u))
theorem add_n {M : Mem} {Q : D → Mem → Prop} {x y : Str} (hz : x.length + y.length ≤ 1000000) (h : ∀ z, z = x ++ y → z.length = x.length + y.length → Q (.str z) M) : rdAdd (.str x) (.str y) M Q := add_s (sz hz) (h _ rfl (app_len x y))
theorem one_n {M : Mem} {Q : D → Mem → Prop} {z : Str} {i : Int} (hz : z.length ≤ 1000000) (h0 : 0 ≤ i) (h1 : i < z.length) (h : ∀ c, c ∈ z.cps.toList → Q (.str ⟨#[c]⟩) M) : rdIx (.str z) (.int i) M Q := by
  obtain ⟨c, e1, e2⟩ := atI_of (xs := z.cps.toList) h0 (by rw [cps_len]; exact h1)
  exact ix_s (sz hz) e1 (h c (List.mem_of_getElem? e2))
theorem take_succ_of {α : Type} {xs : List α} {i : Nat} {x : α} (h : xs[i]? = some x) : xs.take (i + 1) = xs.take i ++ [x] := by
  rw [List.take_add_one, h]; rfl
/-! ### the bag, and what is new -/
structure BagUp (p : Addr) (M M' : Mem) : Prop where
  bag : Bag M' p
  fr : ∀ b o, b ≠ p → M b = some o → M' b = some o
  ad : cellsOf M' p = cellsOf M p
theorem BagTo.up {p : Addr} {M M' : Mem} (t : BagTo p M M') : BagUp p M M' := ⟨t.bag, fun b o h e => by rw [t.fr b h]; exact e, t.ad⟩
theorem BagUp.refl {p : Addr} {M : Mem} (h : Bag M p) : BagUp p M M := ⟨h, fun _ _ _ h => h, rfl⟩
theorem BagUp.trans {p : Addr} {M M1 M2 : Mem} (a : BagUp p M M1) (b : BagUp p M1 M2) : BagUp p M M2 := ⟨b.bag, fun c o n h => b.fr c o n (a.fr c o n h), b.ad.trans a.ad⟩
theorem BagUp.new {p q : Addr} {M M1 : Mem} {o : MO} (a : BagUp p M M1) (h : M1 q = none) : BagUp p M (mupd M1 q o) := ⟨a.bag.new h, fun c u n e => by
  have := a.fr c u n e
  rw [mupd_ne (mne this h)]
  exact this, (cells_eq (mupd_ne (Ne.symm (a.bag.ne h)))).trans a.ad⟩
theorem Bag.leU {M M' : Mem} {p : Addr} (h : Bag M p) (l : ∀ b o, M b = some o → M' b = some o) : BagUp p M M' := by
  obtain ⟨a, cells, i, big, salt, h1, h2, h3, h4⟩ := h.ex
  exact ⟨⟨a, cells, i, big, salt, l _ _ h1, l _ _ h2, h3, h4⟩, fun b o _ e => l b o e, cells_eq ((l _ _ h1).trans h1.symm)⟩
/-- a list that is not the bag's is written -/
theorem Bag.wr {M : Mem} {p q : Addr} {o : MO} (h : Bag M p) (hq : q ≠ p) (hc : cellsOf M p ≠ some q) : Bag (mupd M q o) p ∧ cellsOf (mupd M q o) p = cellsOf M p := by
  obtain ⟨a, cells, i, big, salt, h1, h2, h3, h4⟩ := h.ex
  have na : a ≠ q := fun e => hc (by rw [cells_bag h1, e])
  exact ⟨⟨a, cells, i, big, salt, by rw [mupd_ne (Ne.symm hq)]; exact h1, by rw [mupd_ne na]; exact h2, h3, h4⟩, cells_eq (mupd_ne (Ne.symm hq))⟩
theorem Bag.cells_new {M : Mem} {p q : Addr} (h : Bag M p) (hq : M q = none) : cellsOf M p ≠ some q := by
  obtain ⟨a, cells, i, big, salt, h1, h2, h3, h4⟩ := h.ex
  rw [cells_bag h1]
  intro e
  cases e
  rw [h2] at hq
  cases hq
theorem BagUp.mle {p : Addr} {M M' M0 : Mem} (a : BagUp p M M') (n : M p = none) (h : MLe M0 M) : MLe M0 M' := fun b o e => a.fr b o (fun z => by
  have := h b o e
  rw [z, n] at this
  cases this) (h b o e)
/-- a list of anything but a reference first is not the bag -/
def hdRef : List D → Bool
  | .ref _ :: _ => true
  | _ => false
theorem Bag.ne_l {M : Mem} {p q : Addr} {ds : List D} (h : Bag M p) (e : M q = some (.lst ds)) (n : hdRef ds = false) : q ≠ p := fun z => by
  obtain ⟨a, cells, i, big, salt, h1, _⟩ := h.ex
  rw [z, h1] at e
  cases e
  cases n
theorem hdRef_map {α : Type} {f : α → D} (h : ∀ x, hdRef [f x] = false) : ∀ xs : List α, hdRef (xs.map f) = false
  | [] => rfl
  | x :: xs => by
    have := h x
    show hdRef (f x :: xs.map f) = false
    cases e : f x <;> first | rfl | (rw [e] at this; cases this)
theorem Bag.ne_z {M : Mem} {p q : Addr} {zs : List Str} (h : Bag M p) (e : M q = some (.lst (zs.map D.str))) : q ≠ p := h.ne_l e (hdRef_map (fun _ => rfl) zs)

/-! ### names -/
abbrev abc : Str := "abcdefghijklmnopqrstuvwxyz"
structure NameOk (z : Str) : Prop where
  lo : 0 < z.length
  hi : z.length ≤ 6
  in_ : ∀ c, c ∈ z.cps.toList → c ∈ abc.cps.toList
def sp_names : SpD := fun ds M Q _ => ∃ (p : Addr) (n : Int), ds = [.ref p, .int n] ∧ Bag M p ∧ 0 ≤ n ∧ n ≤ 1000 ∧ ∀ (r : Addr) (zs : List Str) (M' : Mem), M' r = some (.lst (zs.map D.str)) → zs.length = n.toNat → (∀ z, z ∈ zs → NameOk z) → BagUp p M M' → Q (.ref r) M'
theorem ok_names (a : At K mg "_law_names" s_law_names) (n_range : mg "range" = none) (n_len : mg "len" = none) (o_law_pull : Ok P w K mg base "_law_pull" s_law_pull 2 ["_law_bag_here", "_law_amount"] sp_pull) (o_law_of : Ok P w K mg base "_law_of" s_law_of 3 ["_law_bag_here", "_law_things"] sp_of) : Ok P w K mg base "_law_names" s_law_names 4 ["_law_bag_here", "_law_size"] sp_names := by
  refine ok_of a sc_law_names _ rfl (fun ds M Q E ⟨p, th, h, _⟩ => by rw [h]; rfl) fun f cd A outer s H E hr => ⟨_, (ss_cons (s_asg (d_tup (a_cons de_str (a_cons de_str a_nil))) (g_tup (n := 2) rfl (gs_cons (g_name 2 sc_law_names.nd) (gs_cons (g_name 3 sc_law_names.nd) gs_nil))))
  (ss_cons (s_for xd_owns rfl (i_r1 n_range (d_call o_law_pull bd_law_pull (hr.mono (by omega)) xd_takes (a_cons (dv 0) (a_cons de_int a_nil)))) (g_name 4 sc_law_names.nd) (ss_one (s_set 3 sc_law_names.nd (d_add (dv 3) (d_call o_law_of bd_law_of (hr.mono (by omega)) xd_takes (a_cons (dv 0) (a_cons (dv 2) a_nil)))))))
  (ss_cons (s_asg (d_tup (a_cons (d_call o_law_pull bd_law_pull (hr.mono (by omega)) xd_takes (a_cons (dv 0) (a_cons (d_add (d_len n_len (dv 3)) de_int) a_nil))) (a_cons (d_call o_law_pull bd_law_pull (hr.mono (by omega)) xd_takes (a_cons (dv 0) (a_cons de_int a_nil))) (a_cons (d_call o_law_of bd_law_of (hr.mono (by omega)) xd_takes (a_cons (dv 0) (a_cons (d_lst (a_cons de_int (a_cons de_int (a_cons de_int (a_cons de_int (a_cons de_int a_nil)))))) a_nil))) a_nil)))) (g_tup (n := 3) rfl (gs_cons (g_name 5 sc_law_names.nd) (gs_cons (g_name 6 sc_law_names.nd) (gs_cons (g_name 7 sc_law_names.nd) gs_nil)))))
  (ss_one (s_ret (DL.de (l_lc (own := [("_law_k", 4)]) rfl sc_law_names.nd (i_r1 n_range (dv 1)) (blkOk_by (by show blkC ["_law_bag_here", "_law_size", "_law_letters", "_law_base", "_law_k", "_law_spot", "_law_first", "_law_step"] (defScope s_law_names) _ _ = true; decide +kernel)) (fun _ _ _ _ _ => (cg_name 4 sc_law_names.nd)) (fun _ _ _ _ _ => pt_nil) (fun s1 H1 C1 cl1 fp1 => (d_add (d_add (d_slice (dv 3) o_none (o_some (dv 5))) (d_ix (dv 2) (d_mod (d_add (dv 6) (d_mul (dv 7) (dv 4))) de_int))) (d_slice (dv 3) (o_some (dv 5)) o_none)))))))))), ?_⟩
  rintro ds M Q E ⟨p, n, rfl, hb, h0, h1, hq⟩
  walk_at "go"
  refine ⟨p, 6, rfl, hb, by decide, by decide, fun v M1 hv0 hv1 t1 => ?_⟩
  walk_at "go"
  refine ⟨by omega, by omega, ?_⟩
  refine for_by (fun i ρ M1 => BagUp p M M1 ∧ ∃ (z : Str) (x1 x2 x3 x4 : Option D), ρ = [some (.ref p), some (.int n), some (.str abc), some (.str z), x1, x2, x3, x4] ∧ z.length = i ∧ ∀ c, c ∈ z.cps.toList → c ∈ abc.cps.toList) ⟨t1.up, ⟨#[]⟩, _, _, _, _, rfl, rfl, fun c h => by cases h⟩ (fun _ _ _ _ _ => trivial) ?_ ?_
  · rintro i d ρ M2 hd ⟨t2, z, x1, x2, x3, x4, rfl, hz, hc⟩
    obtain ⟨hi, rfl⟩ := rngD_of hd
    walk_at "go"
    refine ⟨p, _, _, rfl, t2.bag, .str (sz (by decide)), by decide, by decide, fun d M3 hd t3 => ?_⟩
    obtain ⟨c, hc2, rfl⟩ := List.mem_map.mp hd
    walk_at "go"
    refine add_n (by rw [one_len]; omega) fun y hy hyl => ?_
    walk_at "go"
    refine ⟨t2.trans t3.up, y, _, _, _, _, rfl, by rw [hyl, hz]; rfl, fun c' hc' => ?_⟩
    rw [hy, app_cps] at hc'
    rcases List.mem_append.mp hc' with h | h
    · exact hc c' h
    · have : c' = c := by simpa using h
      rw [this]
      exact hc2
  · rintro ρ M2 ⟨t2, z, x1, x2, x3, x4, rfl, hz, hc⟩
    rw [rngD_length] at hz
    have hz5 : z.length ≤ 5 := by omega
    walk_at "go"
    refine len_s (sz (by omega)) ?_
    walk_at "go"
    refine ⟨p, _, rfl, t2.bag, by omega, by omega, fun u M3 hu0 hu1 t3 => ?_⟩
    walk_at "go"
    refine ⟨p, 26, rfl, t3.bag, by decide, by decide, fun y M4 hy0 hy1 t4 => ?_⟩
    walk_at "go"
    intro p5 hp5
    walk_at "go"
    refine ⟨p, _, _, rfl, t4.bag.new hp5, .lst mupd_same (t4.bag.ne hp5), by decide, by decide, fun d M6 hd t6 => ?_⟩
    obtain ⟨m, rfl, hm0, hm1⟩ : ∃ m : Int, d = .int m ∧ 0 ≤ m ∧ m ≤ 9 := by
      simp at hd
      rcases hd with h | h | h | h | h <;> exact ⟨_, h, by decide, by decide⟩
    have tt : BagUp p M M6 := (((t2.trans t3.up).trans t4.up).new hp5).trans t6.up
    walk_at "go"
    refine ⟨by omega, by omega, ?_⟩
    refine lc_by (fun i acc M7 => M7 = M6 ∧ ∃ zs : List Str, acc = zs.map D.str ∧ zs.length = i ∧ ∀ z, z ∈ zs → NameOk z) ⟨rfl, [], rfl, rfl, fun z h => by cases h⟩ (fun _ _ _ _ _ => trivial) ?_ ?_
    · rintro i d acc M7 hd ⟨rfl, zs, rfl, hl, hzs⟩
      obtain ⟨hi, rfl⟩ := rngD_of hd
      have hi : i < 1000 := by omega
      walk_at "go"
      refine sl_n (by omega) fun a1 ha1 _ => ?_
      walk_at "go"
      refine one_n (by decide) (Int.emod_nonneg _ (by decide)) (Int.lt_of_lt_of_le (Int.emod_lt_of_pos _ (by decide)) (by decide)) fun c hc2 => ?_
      rw [cut_take hu0 (by omega)] at ha1
      have l1 : a1.length = u.toNat := by
        rw [ha1]
        show (List.take u.toNat z.cps.toList).toArray.size = _
        rw [List.size_toArray, List.length_take, cps_len]
        omega
      walk_at "go"
      refine add_n (by rw [one_len]; omega) fun a2 ha2 l2 => ?_
      walk_at "go"
      refine sl_n (by omega) fun a3 ha3 _ => ?_
      rw [cut_drop hu0 (by omega)] at ha3
      have l3 : a3.length = z.length - u.toNat := by
        rw [ha3]
        show (List.drop u.toNat z.cps.toList).toArray.size = _
        rw [List.size_toArray, List.length_drop, cps_len]
      rw [one_len] at l2
      walk_at "go"
      refine add_n (by omega) fun a4 ha4 l4 => ?_
      walk_at "go"
      refine ⟨rfl, zs ++ [a4], by rw [List.map_append]; rfl, by rw [List.length_append, hl]; rfl, fun y hy => ?_⟩
      rcases List.mem_append.mp hy with hy | hy
      · exact hzs y hy
      · have hy : y = a4 := by simpa using hy
        subst hy
        refine ⟨by omega, by omega, fun c' hc' => ?_⟩
        rw [ha4, app_cps, ha2, app_cps, ha1, ha3] at hc'
        rcases List.mem_append.mp hc' with h | h
        · rcases List.mem_append.mp h with h | h
          · exact hc c' (List.mem_of_mem_take (by simpa using h))
          · have : c' = c := by simpa using h
            rw [this]
            exact hc2
        · exact hc c' (List.mem_of_mem_drop (by simpa using h))
    · rintro acc M7 ⟨rfl, zs, rfl, hl, hzs⟩
      rw [rngD_length] at hl
      walk_at "go"
      intro r hr
      exact ⟨_, MLe.refl _, hq r zs _ mupd_same hl hzs (tt.new hr)⟩

/-! ### alike -/
inductive Like (M : Mem) : Nat → D → D → Prop
  | non {n : Nat} : Like M (n + 1) .non .non
  | bl {n : Nat} (b : Bool) : Like M (n + 1) (.bl b) (.bl b)
  | int {n : Nat} (i : Int) : Like M (n + 1) (.int i) (.int i)
  | str {n : Nat} (x : Str) : Like M (n + 1) (.str x) (.str x)
  | tup {n : Nat} {xs ys : List D} : xs.length = ys.length → (∀ (i : Nat) x y, xs[i]? = some x → ys[i]? = some y → Like M n x y) → xs.length ≤ 1000000 → Like M (n + 1) (.tup xs) (.tup ys)
  | lst {n : Nat} {a b : Addr} {xs ys : List D} : M a = some (.lst xs) → M b = some (.lst ys) → xs.length = ys.length → (∀ (i : Nat) x y, xs[i]? = some x → ys[i]? = some y → Like M n x y) → xs.length ≤ 1000000 → Like M (n + 1) (.ref a) (.ref b)
def sp_like (n : Nat) : SpD := fun ds M Q _ => ∃ x y, ds = [x, y] ∧ Like M n x y ∧ Q (.bl true) M
theorem ok_like_step {n : Nat} (a : At K mg "_law_like" s_law_like) (n_isinstance : mg "isinstance" = none) (n_tuple : mg "tuple" = none) (n_list : mg "list" = none) (n_dict : mg "dict" = none) (n_bool : mg "bool" = none) (n_len : mg "len" = none) (n_all : mg "all" = none) (n_range : mg "range" = none)
    (ih : Ok P w K mg base "_law_like" s_law_like (n + 1) ["_law_found", "_law_due"] (sp_like n)) : Ok P w K mg base "_law_like" s_law_like (n + 2) ["_law_found", "_law_due"] (sp_like (n + 1)) := by
  refine ok_of a sc_law_like _ rfl (fun ds M Q E ⟨x, y, h, _⟩ => by rw [h]; rfl) fun f cd A outer s H E hr => ⟨_, (ss_cons (s_if (DW.t (w_or (t_cmp (c_ne hr) (d_isi .tuple n_isinstance n_tuple (dv 1)) (d_isi .tuple n_isinstance n_tuple (dv 0))) (w_or1 (t_cmp (c_ne hr) (d_isi .list n_isinstance n_list (dv 1)) (d_isi .list n_isinstance n_list (dv 0)))))) (ss_one (s_ret de_bl)) ss_nil)
  (ss_cons (s_if (dt_val (d_isi .dict n_isinstance n_dict (dv 1))) (ss_one s_never) ss_nil)
  (ss_cons (s_if (t_not (dt_val (d_isi2 .tuple .list n_isinstance n_tuple n_list (dv 1)))) (ss_one (s_ret (d_and (d_cmp (c_eq hr) (d_isi .bool n_isinstance n_bool (dv 0)) (d_isi .bool n_isinstance n_bool (dv 1))) (d_one (d_cmp (c_eq hr) (dv 0) (dv 1)))))) ss_nil)
  (ss_one (s_ret (d_and (d_cmp (c_eq hr) (d_len n_len (dv 0)) (d_len n_len (dv 1))) (d_one (d_all n_all rfl (DL.q (l_lc (own := [("_law_k", 2)]) rfl sc_law_like.nd (i_r1 n_range (d_len n_len (dv 1))) (blkOk_by (by show blkC ["_law_found", "_law_due", "_law_k", "_law_key"] (defScope s_law_like) _ _ = true; decide +kernel)) (fun _ _ _ _ _ => (cg_name 2 sc_law_like.nd)) (fun _ _ _ _ _ => pt_nil) (fun s1 H1 C1 cl1 fp1 => (d_call ih bd_law_like (hr.mono (by omega)) takes0 (a_cons (d_ix (dv 0) (dv 2)) (a_cons (d_ix (dv 1) (dv 2)) a_nil)))))))))))))), ?_⟩
  rintro ds M Q E ⟨x, y, rfl, hL, hq⟩
  have fin : ∀ b, b = true → (dEnds Q E).rt (.bl b) M := fun b e => by subst e; exact ⟨_, MLe.refl _, hq⟩
  cases hL with
  | non =>
    walk_at "go"
    refine eq_p .none .none .non .non (by decide) ?_
    exact fin _ rfl
  | bl b =>
    walk_at "go"
    exact fin _ (by simp)
  | int i =>
    walk_at "go"
    exact fin _ (by simp)
  | str z =>
    walk_at "go"
    exact fin _ (by simp)
  | @tup _ xs ys hl hi hz =>
    walk_at "go"
    refine cndE (fun _ => ?_) fun e => absurd (by rw [hl]) e
    walk_at "go"
    refine ⟨by omega, by omega, ?_⟩
    refine lc_by (fun i acc M1 => M1 = M ∧ acc = (List.replicate i true).map D.bl) ⟨rfl, rfl⟩ (fun _ _ _ _ _ => trivial) ?_ ?_
    · rintro i d acc M1 hd ⟨rfl, rfl⟩
      obtain ⟨hi2, rfl⟩ := rngD_of hd
      have i2 : i < ys.length := by simpa using hi2
      have i1 : i < xs.length := by omega
      walk_at "go"
      rw [Int.zero_add]
      refine ix_t (atI_nat (List.getElem?_eq_getElem i1)) ?_
      walk_at "go"
      refine ix_t (atI_nat (List.getElem?_eq_getElem i2)) ?_
      walk_at "go"
      refine ⟨_, _, rfl, hi i _ _ (List.getElem?_eq_getElem i1) (List.getElem?_eq_getElem i2), ?_⟩
      refine ⟨?_, rfl, ?_⟩
      · simp
        exact Nat.lt_of_lt_of_le (show i < 1000001 by omega) (by decide)
      · rw [List.replicate_succ', List.map_append]; rfl
    · rintro acc M1 ⟨rfl, rfl⟩
      walk_at "go"
      refine bls_i (blsD_map _) ?_
      exact fin _ (by simp)
  | @lst _ b c xs ys hb hc hl hi hz =>
    walk_at "go"
    refine cndE (fun _ => ?_) fun e => absurd (by rw [hl]) e
    walk_at "go"
    refine ⟨by omega, by omega, ?_⟩
    refine lc_by (fun i acc M1 => M1 = M ∧ acc = (List.replicate i true).map D.bl) ⟨rfl, rfl⟩ (fun _ _ _ _ _ => trivial) ?_ ?_
    · rintro i d acc M1 hd ⟨rfl, rfl⟩
      obtain ⟨hi2, rfl⟩ := rngD_of hd
      have i2 : i < ys.length := by simpa using hi2
      have i1 : i < xs.length := by omega
      walk_at "go"
      rw [Int.zero_add]
      refine ix_l hb (atI_nat (List.getElem?_eq_getElem i1)) ?_
      walk_at "go"
      refine ix_l hc (atI_nat (List.getElem?_eq_getElem i2)) ?_
      walk_at "go"
      refine ⟨_, _, rfl, hi i _ _ (List.getElem?_eq_getElem i1) (List.getElem?_eq_getElem i2), ?_⟩
      refine ⟨?_, rfl, ?_⟩
      · simp
        exact Nat.lt_of_lt_of_le (show i < 1000001 by omega) (by decide)
      · rw [List.replicate_succ', List.map_append]; rfl
    · rintro acc M1 ⟨rfl, rfl⟩
      walk_at "go"
      refine bls_i (blsD_map _) ?_
      exact fin _ (by simp)
theorem ok_like (a : At K mg "_law_like" s_law_like) (n_isinstance : mg "isinstance" = none) (n_tuple : mg "tuple" = none) (n_list : mg "list" = none) (n_dict : mg "dict" = none) (n_bool : mg "bool" = none) (n_len : mg "len" = none) (n_all : mg "all" = none) (n_range : mg "range" = none) :
    ∀ n, Ok P w K mg base "_law_like" s_law_like (n + 1) ["_law_found", "_law_due"] (sp_like n)
  | 0 => (ok_never a sc_law_like).imp fun ds M Q E ⟨x, y, _, h, _⟩ => by cases h
  | n + 1 => ok_like_step a n_isinstance n_tuple n_list n_dict n_bool n_len n_all n_range (ok_like a n_isinstance n_tuple n_list n_dict n_bool n_len n_all n_range n)

end

section
variable {P : Program} {w : World} {K : PySem.W.Frag} {mg : Str → Option Value} {base : Heap}
/-! ### trees, in plain Lean -/
inductive T where
  | leaf (s : Str)
  | node (l : List T)
mutual
def T.enc : T → D
  | .leaf s => .str s
  | .node l => .tup (encs l)
def encs : List T → List D
  | [] => []
  | t :: l => t.enc :: encs l
end
theorem encs_map : ∀ l : List T, encs l = l.map T.enc
  | [] => rfl
  | t :: l => by simp only [encs, List.map_cons, encs_map l]
mutual
def T.pyd : T → PyData
  | .leaf s => .str s
  | .node l => .tuple (pyds l)
def pyds : List T → List PyData
  | [] => []
  | t :: l => t.pyd :: pyds l
end
mutual
theorem T.py (M : Mem) : ∀ t : T, Py M t.enc t.pyd
  | .leaf s => .str s
  | .node l => .tup (pys_encs M l)
theorem pys_encs (M : Mem) : ∀ l : List T, Pys M (encs l) (pyds l)
  | [] => .nil
  | t :: l => .cons (T.py M t) (pys_encs M l)
end
mutual
/-- levels -/
def T.lv : T → Nat
  | .leaf _ => 0
  | .node l => 1 + lvs l
def lvs : List T → Nat
  | [] => 0
  | t :: l => max t.lv (lvs l)
end
mutual
/-- ends -/
def T.cnt : T → Nat
  | .leaf _ => 1
  | .node l => cnts l
def cnts : List T → Nat
  | [] => 0
  | t :: l => t.cnt + cnts l
end
mutual
/-- two outlets at least, owners p -/
def T.Ok (p : Str → Prop) : T → Prop
  | .leaf s => p s
  | .node l => 2 ≤ l.length ∧ Oks p l
def Oks (p : Str → Prop) : List T → Prop
  | [] => True
  | t :: l => t.Ok p ∧ Oks p l
end
theorem Oks.of {p : Str → Prop} : ∀ {l : List T}, (∀ t, t ∈ l → t.Ok p) → Oks p l
  | [], _ => trivial
  | t :: l, h => ⟨h t (List.mem_cons_self ..), Oks.of fun u hu => h u (List.mem_cons_of_mem _ hu)⟩
theorem Oks.mem {p : Str → Prop} : ∀ {l : List T} {t : T}, Oks p l → t ∈ l → t.Ok p
  | u :: l, t, h, m => by
    rcases List.mem_cons.mp m with rfl | m
    · exact h.1
    · exact Oks.mem h.2 m
theorem lvs_mem : ∀ {l : List T} {t : T}, t ∈ l → t.lv ≤ lvs l
  | u :: l, t, m => by
    rcases List.mem_cons.mp m with rfl | m
    · exact Nat.le_max_left ..
    · exact Nat.le_trans (lvs_mem m) (Nat.le_max_right ..)
theorem lvs_le : ∀ {l : List T} {n : Nat}, (∀ t, t ∈ l → t.lv ≤ n) → lvs l ≤ n
  | [], _, _ => Nat.zero_le _
  | t :: l, n, h => Nat.max_le.mpr ⟨h t (List.mem_cons_self ..), lvs_le fun u hu => h u (List.mem_cons_of_mem _ hu)⟩
theorem T.cnt_pos {p : Str → Prop} : ∀ {t : T}, t.Ok p → 0 < t.cnt
  | .leaf s, _ => Nat.zero_lt_one
  | .node (t :: l), h => by
    have := T.cnt_pos (t := t) h.2.1
    simp only [T.cnt, cnts]
    omega
  | .node [], h => by have := h.1; simp at this
theorem cnts_mem : ∀ {l : List T} {t : T}, t ∈ l → t.cnt ≤ cnts l
  | u :: l, t, m => by
    simp only [cnts]
    rcases List.mem_cons.mp m with rfl | m
    · omega
    · have := cnts_mem m; omega
theorem cnts_len {p : Str → Prop} : ∀ {l : List T}, Oks p l → l.length ≤ cnts l
  | [], _ => Nat.le_refl _
  | t :: l, h => by
    have h1 := T.cnt_pos h.1
    have h2 := cnts_len h.2
    simp only [cnts, List.length_cons]
    omega
/-! owners of items -/
mutual
def T.own : T → Nat → Str
  | .leaf s, _ => s
  | .node l, i => owns l (i % l.length) (i / l.length)
def owns : List T → Nat → Nat → Str
  | [], _, _ => ⟨#[]⟩
  | t :: _, 0, j => t.own j
  | _ :: l, k + 1, j => owns l k j
end
theorem owns_get : ∀ {l : List T} {k j : Nat} {t : T}, l[k]? = some t → owns l k j = t.own j
  | t :: l, 0, j, u, h => by cases h; rfl
  | t :: l, k + 1, j, u, h => owns_get (l := l) (by simpa using h)
/-! every step-th item -/
def mk1 (l : List T) : T := match l with
  | [t] => t
  | l => .node l
mutual
def T.evr : T → Nat → Nat → T
  | .leaf s, _, _ => .leaf s
  | .node l, f, s => mk1 ((List.range (l.length / Nat.gcd l.length s)).map fun k => evrs l ((f + s * k) % l.length) ((f + s * k) / l.length) (s / Nat.gcd l.length s))
def evrs : List T → Nat → Nat → Nat → T
  | [], _, _, _ => .leaf ⟨#[]⟩
  | t :: _, 0, f, s => t.evr f s
  | _ :: l, k + 1, f, s => evrs l k f s
end
theorem evrs_get : ∀ {l : List T} {k f s : Nat} {t : T}, l[k]? = some t → evrs l k f s = t.evr f s
  | t :: l, 0, f, s, u, h => by cases h; rfl
  | t :: l, k + 1, f, s, u, h => evrs_get (l := l) (by simpa using h)
theorem own_mk1 {l : List T} {j : Nat} (h : l ≠ []) : (mk1 l).own j = owns l (j % l.length) (j / l.length) := by
  match l, h with
  | [t], _ =>
    show t.own j = owns [t] (j % 1) (j / 1)
    rw [Nat.mod_one, Nat.div_one]; rfl
  | t :: u :: l, _ => rfl
theorem own_evr {p : Str → Prop} : ∀ (t : T) (f s j : Nat), t.Ok p → 0 < s → (t.evr f s).own j = t.own (f + s * j)
  | .leaf o, f, s, j, _, _ => rfl
  | .node l, f, s, j, ⟨h2, hl⟩, hs => by
    have hn : 0 < l.length := by omega
    have hg : 0 < Nat.gcd l.length s := Nat.gcd_pos_of_pos_left _ hn
    obtain ⟨m, hm⟩ := Nat.gcd_dvd_left l.length s
    obtain ⟨q, hq⟩ := Nat.gcd_dvd_right l.length s
    have e1 : l.length / Nat.gcd l.length s = m := Nat.div_eq_of_eq_mul_right hg hm
    have e2 : s / Nat.gcd l.length s = q := Nat.div_eq_of_eq_mul_right hg hq
    have hm0 : 0 < m := Nat.pos_of_ne_zero fun e => by rw [e] at hm; omega
    have hq0 : 0 < q := Nat.pos_of_ne_zero fun e => by rw [e] at hq; omega
    have hsm : s * m = q * l.length := by
      conv => lhs; rw [hq]
      conv => rhs; rw [hm]
      rw [Nat.mul_comm q, Nat.mul_assoc, Nat.mul_assoc, Nat.mul_comm m q]
    simp only [T.evr, e1, e2]
    have hne : ((List.range m).map fun k => evrs l ((f + s * k) % l.length) ((f + s * k) / l.length) q) ≠ [] := by
      intro e
      have := congrArg List.length e
      simp at this
      omega
    rw [own_mk1 hne, List.length_map, List.length_range]
    have hk : j % m < m := Nat.mod_lt _ hm0
    have hx : (f + s * (j % m)) % l.length < l.length := Nat.mod_lt _ hn
    have hget : ((List.range m).map fun k => evrs l ((f + s * k) % l.length) ((f + s * k) / l.length) q)[j % m]? = some (evrs l ((f + s * (j % m)) % l.length) ((f + s * (j % m)) / l.length) q) := by
      rw [List.getElem?_map, List.getElem?_range hk]; rfl
    rw [owns_get hget, evrs_get (List.getElem?_eq_getElem hx)]
    have ih := own_evr (l[(f + s * (j % m)) % l.length]) ((f + s * (j % m)) / l.length) q (j / m) (hl.mem (List.getElem_mem hx)) hq0
    rw [ih]
    have e : f + s * j = (f + s * (j % m)) + l.length * (q * (j / m)) := by
      conv => lhs; rw [← Nat.mod_add_div j m]
      rw [Nat.mul_add, ← Nat.mul_assoc, hsm, ← Nat.add_assoc, Nat.mul_comm q, Nat.mul_assoc]
    show _ = owns l ((f + s * j) % l.length) ((f + s * j) / l.length)
    rw [e, Nat.add_mul_mod_self_left, Nat.add_mul_div_left _ _ hn, owns_get (List.getElem?_eq_getElem hx)]
termination_by t => sizeOf t
decreasing_by
  have := List.sizeOf_lt_of_mem (List.getElem_mem hx)
  simp only [T.node.sizeOf_spec]
  omega

/-! ### trees: sizes of taken trees, ends, gathering, paths -/
theorem mk1_ok {p : Str → Prop} {l : List T} (h0 : l ≠ []) (h : ∀ t, t ∈ l → t.Ok p) : (mk1 l).Ok p := by
  match l, h0 with
  | [t], _ => exact h t (List.mem_cons_self ..)
  | t :: u :: l, _ => exact ⟨by simp, .of h⟩
theorem mk1_lv {l : List T} {n : Nat} (h : ∀ t, t ∈ l → t.lv ≤ n) : (mk1 l).lv ≤ 1 + n := by
  match l with
  | [] => simp [mk1, T.lv, lvs]
  | [t] => exact Nat.le_trans (h t (List.mem_cons_self ..)) (Nat.le_add_left ..)
  | t :: u :: l =>
    show 1 + lvs (t :: u :: l) ≤ 1 + n
    have := lvs_le h
    omega
theorem cnt_mk1 {l : List T} (h : l ≠ []) : (mk1 l).cnt = cnts l := by
  match l, h with
  | [t], _ => simp [mk1, cnts]
  | t :: u :: l, _ => rfl
theorem evr_ok {p : Str → Prop} : ∀ (t : T) (f s : Nat), t.Ok p → 0 < s → (t.evr f s).Ok p ∧ (t.evr f s).lv ≤ t.lv
  | .leaf o, f, s, h, _ => ⟨h, Nat.le_refl _⟩
  | .node l, f, s, ⟨h2, hl⟩, hs => by
    have hn : 0 < l.length := by omega
    have hg : 0 < Nat.gcd l.length s := Nat.gcd_pos_of_pos_left _ hn
    have hm : 0 < l.length / Nat.gcd l.length s := Nat.div_pos (Nat.gcd_le_left _ hn) hg
    have hq : 0 < s / Nat.gcd l.length s := Nat.div_pos (Nat.gcd_le_right _ hs) hg
    have key : ∀ t, t ∈ ((List.range (l.length / Nat.gcd l.length s)).map fun k => evrs l ((f + s * k) % l.length) ((f + s * k) / l.length) (s / Nat.gcd l.length s)) → t.Ok p ∧ t.lv ≤ lvs l := by
      intro t ht
      obtain ⟨k, _, rfl⟩ := List.mem_map.mp ht
      have hx : (f + s * k) % l.length < l.length := Nat.mod_lt _ hn
      rw [evrs_get (List.getElem?_eq_getElem hx)]
      have := evr_ok (l[(f + s * k) % l.length]) ((f + s * k) / l.length) (s / Nat.gcd l.length s) (hl.mem (List.getElem_mem hx)) hq
      exact ⟨this.1, Nat.le_trans this.2 (lvs_mem (List.getElem_mem hx))⟩
    refine ⟨mk1_ok ?_ fun t ht => (key t ht).1, mk1_lv fun t ht => (key t ht).2⟩
    intro e
    have := congrArg List.length e
    rw [List.length_map, List.length_range, List.length_nil] at this
    omega
termination_by t => sizeOf t
decreasing_by
  have := List.sizeOf_lt_of_mem (List.getElem_mem hx)
  simp only [T.node.sizeOf_spec]
  omega
/-! ends with their classes, left to right -/
mutual
def T.ends : T → Nat → Nat → List (Nat × Nat × Str)
  | .leaf o, f, s => [(f, s, o)]
  | .node l, f, s => endss l f s (s * l.length)
def endss : List T → Nat → Nat → Nat → List (Nat × Nat × Str)
  | [], _, _, _ => []
  | t :: l, f, s, w => t.ends f w ++ endss l (f + s) s w
end
theorem endss_app : ∀ (l r : List T) (f s w : Nat), endss (l ++ r) f s w = endss l f s w ++ endss r (f + s * l.length) s w
  | [], r, f, s, w => by simp [endss]
  | t :: l, r, f, s, w => by
    simp only [List.cons_append, endss, endss_app l, List.append_assoc, List.length_cons]
    rw [Nat.mul_succ, Nat.add_assoc f s, Nat.add_comm s]
mutual
theorem ends_len : ∀ (t : T) (f s : Nat), (t.ends f s).length = t.cnt
  | .leaf _, _, _ => rfl
  | .node l, f, s => endss_len l f s (s * l.length)
theorem endss_len : ∀ (l : List T) (f s w : Nat), (endss l f s w).length = cnts l
  | [], _, _, _ => rfl
  | t :: l, f, s, w => by simp only [endss, cnts, List.length_append, ends_len t, endss_len l]
end
mutual
/-- an end's class gets its owner -/
theorem ends_own : ∀ (t : T) (f s : Nat) (x : Nat × Nat × Str), x ∈ t.ends f s → ∃ a b, x.1 = f + s * a ∧ x.2.1 = s * b ∧ 0 < b ∧ a < b ∧ ∀ j, t.own (a + b * j) = x.2.2
  | .leaf o, f, s, x, h => by
    have : x = (f, s, o) := by simpa [T.ends] using h
    subst this
    exact ⟨0, 1, by simp, by simp, by decide, by decide, fun j => rfl⟩
  | .node l, f, s, x, h => by
    obtain ⟨k, a, b, t, hk, e1, e2, hb, hab, ho⟩ := endss_own l f s (s * l.length) x h
    have hn : k < l.length := (List.getElem?_eq_some_iff.mp hk).1
    refine ⟨k + l.length * a, l.length * b, ?_, ?_, Nat.mul_pos (by omega) hb, ?_, fun j => ?_⟩
    · rw [e1, Nat.mul_add, Nat.add_assoc, Nat.mul_assoc]
    · rw [e2, Nat.mul_assoc]
    · have : l.length * a + l.length ≤ l.length * b := by rw [← Nat.mul_succ]; exact Nat.mul_le_mul_left _ hab
      omega
    · show owns l ((k + l.length * a + l.length * b * j) % l.length) ((k + l.length * a + l.length * b * j) / l.length) = _
      have e : k + l.length * a + l.length * b * j = k + l.length * (a + b * j) := by rw [Nat.mul_add, Nat.add_assoc, Nat.mul_assoc]
      rw [e, Nat.add_mul_mod_self_left, Nat.mod_eq_of_lt hn, Nat.add_mul_div_left _ _ (by omega), Nat.div_eq_of_lt hn, Nat.zero_add, owns_get hk, ho j]
theorem endss_own : ∀ (l : List T) (f s w : Nat) (x : Nat × Nat × Str), x ∈ endss l f s w → ∃ k a b t, l[k]? = some t ∧ x.1 = f + s * k + w * a ∧ x.2.1 = w * b ∧ 0 < b ∧ a < b ∧ ∀ j, t.own (a + b * j) = x.2.2
  | [], f, s, w, x, h => by cases h
  | t :: l, f, s, w, x, h => by
    rcases List.mem_append.mp (show x ∈ t.ends f w ++ endss l (f + s) s w from h) with h | h
    · obtain ⟨a, b, e1, e2, hb, hab, ho⟩ := ends_own t f w x h
      exact ⟨0, a, b, t, rfl, by rw [e1]; simp, e2, hb, hab, ho⟩
    · obtain ⟨k, a, b, u, hk, e1, e2, hb, hab, ho⟩ := endss_own l (f + s) s w x h
      exact ⟨k + 1, a, b, u, by simpa using hk, by rw [e1, Nat.mul_succ]; omega, e2, hb, hab, ho⟩
end
/-! equality of trees -/
mutual
theorem eqv_pyd : ∀ a b : T, PyData.eqv a.pyd b.pyd = true ↔ a = b
  | .leaf x, .leaf y => by simp [T.pyd, PyData.eqv]
  | .leaf x, .node l => by simp [T.pyd, PyData.eqv]
  | .node l, .leaf x => by simp [T.pyd, PyData.eqv]
  | .node l, .node r => by
    have := eqvAll_pyd l r
    simp only [T.pyd, PyData.eqv, T.node.injEq]
    exact this
theorem eqvAll_pyd : ∀ a b : List T, PyData.eqvAll (pyds a) (pyds b) = true ↔ a = b
  | [], [] => by simp [pyds, PyData.eqvAll]
  | [], t :: l => by simp [pyds, PyData.eqvAll]
  | t :: l, [] => by simp [pyds, PyData.eqvAll]
  | t :: l, u :: r => by
    have h1 := eqv_pyd t u
    have h2 := eqvAll_pyd l r
    simp only [pyds, PyData.eqvAll, Bool.and_eq_true, h1, h2, List.cons.injEq]
end

/-! ### trees: how many ends a taken tree has -/
theorem sum_set : ∀ (w : List Nat) (k : Nat), k < w.length → (w.set k 0).sum + w.getD k 0 = w.sum
  | a :: w, 0, _ => by simp; omega
  | a :: w, k + 1, h => by
    have := sum_set w k (by simpa using h)
    simp at this ⊢
    omega
theorem sum_sub : ∀ (ks : List Nat) (w : List Nat), ks.Nodup → (∀ k, k ∈ ks → k < w.length) → (ks.map fun k => w.getD k 0).sum ≤ w.sum
  | [], w, _, _ => Nat.zero_le _
  | k :: ks, w, hn, h => by
    have hk := h k (List.mem_cons_self ..)
    have h1 := sum_set w k hk
    have h2 := sum_sub ks (w.set k 0) (List.nodup_cons.mp hn).2 fun j hj => by rw [List.length_set]; exact h j (List.mem_cons_of_mem _ hj)
    have e : (ks.map fun j => (w.set k 0).getD j 0) = ks.map fun j => w.getD j 0 := by
      refine List.map_congr_left fun j hj => ?_
      have : k ≠ j := fun e => (List.nodup_cons.mp hn).1 (e ▸ hj)
      simp [List.getD_eq_getElem?_getD, List.getElem?_set_ne this]
    rw [e] at h2
    simp only [List.map_cons, List.sum_cons]
    omega
theorem cnts_sum : ∀ l : List T, cnts l = (l.map T.cnt).sum
  | [] => rfl
  | t :: l => by simp only [cnts, List.map_cons, List.sum_cons, cnts_sum l]
theorem idx_inj {n s f k j : Nat} (hn : 0 < n) (hk : k < n / Nat.gcd n s) (hj : j < n / Nat.gcd n s) (h : (f + s * k) % n = (f + s * j) % n) : k = j := by
  have hg : 0 < Nat.gcd n s := Nat.gcd_pos_of_pos_left _ hn
  obtain ⟨m, hm⟩ := Nat.gcd_dvd_left n s
  obtain ⟨q, hq⟩ := Nat.gcd_dvd_right n s
  have e1 : n / Nat.gcd n s = m := Nat.div_eq_of_eq_mul_right hg hm
  rw [e1] at hk hj
  have hc : Nat.gcd m q = 1 := by
    have := Nat.gcd_mul_left (Nat.gcd n s) m q
    rw [← hm, ← hq] at this
    exact Nat.eq_of_mul_eq_mul_left hg (by rw [Nat.mul_one]; exact this.symm)
  have hz : ((f + s * k : Nat) : Int) % n = ((f + s * j : Nat) : Int) % n := by
    have := congrArg (fun x : Nat => (x : Int)) h
    simpa using this
  have hd : (n : Int) ∣ ((f + s * k : Nat) : Int) - ((f + s * j : Nat) : Int) := Int.dvd_of_emod_eq_zero (Int.emod_eq_emod_iff_emod_sub_eq_zero.mp hz)
  have e2 : ((f + s * k : Nat) : Int) - ((f + s * j : Nat) : Int) = s * ((k : Int) - j) := by
    simp only [Int.natCast_add, Int.natCast_mul, Int.mul_sub]
    omega
  rw [e2] at hd
  have hd2 : n ∣ s * ((k : Int) - j).natAbs := by
    have := Int.natAbs_dvd_natAbs.mpr hd
    simpa [Int.natAbs_mul] using this
  have hd3 : m ∣ q * ((k : Int) - j).natAbs := by
    have h4 : Nat.gcd n s * m ∣ Nat.gcd n s * (q * ((k : Int) - j).natAbs) := by
      rw [← hm, ← Nat.mul_assoc, ← hq]; exact hd2
    exact Nat.dvd_of_mul_dvd_mul_left hg h4
  have hd4 : m ∣ ((k : Int) - j).natAbs := Nat.Coprime.dvd_of_dvd_mul_left (show Nat.Coprime m q from hc) hd3
  have : ((k : Int) - j).natAbs = 0 := Nat.eq_zero_of_dvd_of_lt hd4 (by omega)
  omega
theorem evr_cnt {p : Str → Prop} : ∀ (t : T) (f s : Nat), t.Ok p → 0 < s → (t.evr f s).cnt ≤ t.cnt
  | .leaf o, f, s, h, _ => Nat.le_refl _
  | .node l, f, s, ⟨h2, hl⟩, hs => by
    have hn : 0 < l.length := by omega
    have hg : 0 < Nat.gcd l.length s := Nat.gcd_pos_of_pos_left _ hn
    have hm : 0 < l.length / Nat.gcd l.length s := Nat.div_pos (Nat.gcd_le_left _ hn) hg
    have hq : 0 < s / Nat.gcd l.length s := Nat.div_pos (Nat.gcd_le_right _ hs) hg
    have hne : ((List.range (l.length / Nat.gcd l.length s)).map fun k => evrs l ((f + s * k) % l.length) ((f + s * k) / l.length) (s / Nat.gcd l.length s)) ≠ [] := by
      intro e
      have := congrArg List.length e
      rw [List.length_map, List.length_range, List.length_nil] at this
      omega
    show (mk1 _).cnt ≤ cnts l
    rw [cnt_mk1 hne, cnts_sum, cnts_sum l, List.map_map]
    have h1 : ((List.range (l.length / Nat.gcd l.length s)).map (T.cnt ∘ fun k => evrs l ((f + s * k) % l.length) ((f + s * k) / l.length) (s / Nat.gcd l.length s))).sum ≤ ((List.range (l.length / Nat.gcd l.length s)).map fun k => (l.map T.cnt).getD ((f + s * k) % l.length) 0).sum := by
      generalize List.range (l.length / Nat.gcd l.length s) = ks
      induction ks with
      | nil => exact Nat.le_refl _
      | cons k ks ih =>
        simp only [List.map_cons, List.sum_cons]
        refine Nat.add_le_add ?_ ih
        have hx : (f + s * k) % l.length < l.length := Nat.mod_lt _ hn
        show (evrs l _ _ _).cnt ≤ _
        rw [evrs_get (List.getElem?_eq_getElem hx)]
        have e : (l.map T.cnt).getD ((f + s * k) % l.length) 0 = (l[(f + s * k) % l.length]).cnt := by
          rw [List.getD_eq_getElem?_getD, List.getElem?_map, List.getElem?_eq_getElem hx]; rfl
        rw [e]
        exact evr_cnt (l[(f + s * k) % l.length]) _ _ (hl.mem (List.getElem_mem hx)) hq
    refine Nat.le_trans h1 ?_
    have e : ((List.range (l.length / Nat.gcd l.length s)).map fun k => (l.map T.cnt).getD ((f + s * k) % l.length) 0) = (((List.range (l.length / Nat.gcd l.length s)).map fun k => (f + s * k) % l.length).map fun k => (l.map T.cnt).getD k 0) := by rw [List.map_map]; rfl
    rw [e]
    refine sum_sub _ _ ?_ fun k hk => ?_
    · refine List.pairwise_map.mpr ?_
      refine List.Pairwise.imp_of_mem ?_ List.nodup_range
      intro a b ha hb hab e
      exact hab (idx_inj hn (List.mem_range.mp ha) (List.mem_range.mp hb) e)
    · obtain ⟨j, _, rfl⟩ := List.mem_map.mp hk
      rw [List.length_map]
      exact Nat.mod_lt _ hn
termination_by t => sizeOf t
decreasing_by
  have := List.sizeOf_lt_of_mem (List.getElem_mem hx)
  simp only [T.node.sizeOf_spec]
  omega
/-- the outlets of a taken tree -/
def taken1 (l : List T) (f s k : Nat) : T := evrs l ((f + s * k) % l.length) ((f + s * k) / l.length) (s / Nat.gcd l.length s)
theorem evr_node (l : List T) (f s : Nat) : (T.node l).evr f s = mk1 ((List.range (l.length / Nat.gcd l.length s)).map (taken1 l f s)) := rfl
/-! ### gathering -/
def T.isLf (s : Str) : T → Bool
  | .leaf x => x == s
  | .node _ => false
def gat1 (l : List T) : T := match l with
  | .leaf s :: r => if r.all (T.isLf s) then .leaf s else .node (.leaf s :: r)
  | l => .node l
mutual
def T.gat : T → T
  | .leaf s => .leaf s
  | .node l => gat1 (gats l)
def gats : List T → List T
  | [] => []
  | t :: l => t.gat :: gats l
end
theorem gats_map : ∀ l : List T, gats l = l.map T.gat
  | [] => rfl
  | t :: l => by simp only [gats, List.map_cons, gats_map l]
theorem isLf_eq {s : Str} {t : T} (h : t.isLf s = true) : t = .leaf s := by
  cases t with
  | leaf x => simp [T.isLf] at h; rw [h]
  | node l => simp [T.isLf] at h
theorem gat1_or (l : List T) : gat1 l = .node l ∨ ∃ s r, l = .leaf s :: r ∧ gat1 l = .leaf s ∧ ∀ t, t ∈ l → t = .leaf s := by
  match l with
  | [] => exact .inl rfl
  | .node r :: l => exact .inl rfl
  | .leaf s :: r =>
    cases e : r.all (T.isLf s) with
    | false => left; simp only [gat1, e]; rfl
    | true =>
      right
      refine ⟨s, r, rfl, by simp only [gat1, e]; rfl, fun t ht => ?_⟩
      rcases List.mem_cons.mp ht with rfl | ht
      · rfl
      · exact isLf_eq (List.all_eq_true.mp e t ht)
mutual
theorem gat_gat : ∀ t : T, t.gat.gat = t.gat
  | .leaf s => rfl
  | .node l => by
    simp only [T.gat]
    rcases gat1_or (gats l) with h | ⟨s, r, _, h, _⟩
    · rw [h]; simp only [T.gat, gats_gats l]; exact h
    · rw [h]; rfl
theorem gats_gats : ∀ l : List T, gats (gats l) = gats l
  | [] => rfl
  | t :: l => by simp only [gats, gat_gat t, gats_gats l]
end
theorem own_gat {p : Str → Prop} : ∀ (t : T) (j : Nat), t.Ok p → t.gat.own j = t.own j
  | .leaf s, j, _ => rfl
  | .node l, j, ⟨h2, hl⟩ => by
    have hx : j % l.length < l.length := Nat.mod_lt _ (by omega)
    have ih := own_gat (l[j % l.length]) (j / l.length) (hl.mem (List.getElem_mem hx))
    have e1 : (gats l)[j % l.length]? = some (l[j % l.length]).gat := by rw [gats_map, List.getElem?_map, List.getElem?_eq_getElem hx]; rfl
    have e2 : (gats l).length = l.length := by rw [gats_map, List.length_map]
    show (gat1 (gats l)).own j = owns l (j % l.length) (j / l.length)
    rw [owns_get (List.getElem?_eq_getElem hx), ← ih]
    rcases gat1_or (gats l) with h | ⟨s, r, _, h, ha⟩
    · rw [h]
      show owns (gats l) (j % (gats l).length) (j / (gats l).length) = _
      rw [e2, owns_get e1]
    · rw [h, ha _ (List.mem_of_getElem? e1)]; rfl
termination_by t => sizeOf t
decreasing_by
  have := List.sizeOf_lt_of_mem (List.getElem_mem hx)
  simp only [T.node.sizeOf_spec]
  omega
theorem gat_ok {p : Str → Prop} : ∀ t : T, t.Ok p → t.gat.Ok p ∧ t.gat.lv ≤ t.lv ∧ t.gat.cnt ≤ t.cnt
  | .leaf s, h => ⟨h, Nat.le_refl _, Nat.le_refl _⟩
  | .node l, ⟨h2, hl⟩ => by
    have key : ∀ t, t ∈ gats l → t.Ok p ∧ t.lv ≤ lvs l := fun t ht => by
      rw [gats_map] at ht
      obtain ⟨u, hu, rfl⟩ := List.mem_map.mp ht
      have := gat_ok u (hl.mem hu)
      exact ⟨this.1, Nat.le_trans this.2.1 (lvs_mem hu)⟩
    have hc : cnts (gats l) ≤ cnts l := by
      rw [cnts_sum, cnts_sum l, gats_map, List.map_map]
      have : ∀ r : List T, (∀ t, t ∈ r → t ∈ l) → (r.map (T.cnt ∘ T.gat)).sum ≤ (r.map T.cnt).sum := by
        intro r
        induction r with
        | nil => intro _; exact Nat.le_refl _
        | cons t r ih =>
          intro hr
          simp only [List.map_cons, List.sum_cons]
          have ht := hr t (List.mem_cons_self ..)
          exact Nat.add_le_add (gat_ok t (hl.mem ht)).2.2 (ih fun u hu => hr u (List.mem_cons_of_mem _ hu))
      exact this l fun _ h => h
    have h3 : l.length ≤ cnts l := cnts_len hl
    simp only [T.gat]
    rcases gat1_or (gats l) with h | ⟨s, r, e, h, ha⟩
    · rw [h]
      refine ⟨⟨by rw [gats_map, List.length_map]; exact h2, .of fun t ht => (key t ht).1⟩, ?_, hc⟩
      show 1 + lvs (gats l) ≤ 1 + lvs l
      have := lvs_le fun t ht => (key t ht).2
      omega
    · rw [h]
      refine ⟨?_, Nat.zero_le _, by show 1 ≤ cnts l; omega⟩
      have := (key (.leaf s) (by rw [e]; exact List.mem_cons_self ..)).1
      exact this
termination_by t => sizeOf t
decreasing_by
  all_goals
    first
    | (have := List.sizeOf_lt_of_mem hu; simp only [T.node.sizeOf_spec]; omega)
    | (have := List.sizeOf_lt_of_mem ht; simp only [T.node.sizeOf_spec]; omega)

/-! ### trees: parts by paths -/
theorem divOk_nat {n : Nat} (h0 : 0 < n) (h : n ≤ 100000) : DivOk (n : Int) := .of (by omega) (by omega)
def T.at : T → List Nat → Option T
  | t, [] => some t
  | .leaf _, _ :: _ => none
  | .node l, k :: ks => match l[k]? with
    | some u => u.at ks
    | none => none
def T.put : T → List Nat → T → T
  | _, [], u => u
  | .leaf s, _ :: _, _ => .leaf s
  | .node l, k :: ks, u => match l[k]? with
    | some v => .node (l.set k (v.put ks u))
    | none => .node l
mutual
def T.size : T → Nat
  | .leaf _ => 1
  | .node l => 1 + sizes l
def sizes : List T → Nat
  | [] => 0
  | t :: l => t.size + sizes l
end
mutual
theorem size_le {p : Str → Prop} : ∀ t : T, t.Ok p → t.size + 1 ≤ 2 * t.cnt
  | .leaf _, _ => Nat.le_refl _
  | .node l, ⟨h2, hl⟩ => by
    have := sizes_le l hl
    simp only [T.size, T.cnt]
    omega
theorem sizes_le {p : Str → Prop} : ∀ l : List T, Oks p l → sizes l + l.length ≤ 2 * cnts l
  | [], _ => Nat.le_refl _
  | t :: l, h => by
    have h1 := size_le t h.1
    have h2 := sizes_le l h.2
    simp only [sizes, cnts, List.length_cons]
    omega
end
theorem at_ok {p : Str → Prop} : ∀ (ks : List Nat) (t u : T), t.Ok p → t.at ks = some u → u.Ok p ∧ u.lv + ks.length ≤ t.lv ∧ u.cnt ≤ t.cnt
  | [], t, u, h, e => by simp [T.at] at e; subst e; exact ⟨h, Nat.le_refl _, Nat.le_refl _⟩
  | k :: ks, .leaf s, u, h, e => by simp [T.at] at e
  | k :: ks, .node l, u, h, e => by
    simp only [T.at] at e
    split at e
    · rename_i v hv
      have hm := List.mem_of_getElem? hv
      obtain ⟨h1, h2, h3⟩ := at_ok ks v u (h.2.mem hm) e
      have h4 := lvs_mem hm
      have h5 := cnts_mem hm
      refine ⟨h1, ?_, Nat.le_trans h3 h5⟩
      show u.lv + (ks.length + 1) ≤ 1 + lvs l
      omega
    · cases e
theorem cnts_set : ∀ (l : List T) (k : Nat) (v w : T), l[k]? = some v → cnts (l.set k w) + v.cnt = cnts l + w.cnt
  | t :: l, 0, v, w, h => by cases h; simp only [List.set_cons_zero, cnts]; omega
  | t :: l, k + 1, v, w, h => by
    have := cnts_set l k v w (by simpa using h)
    simp only [List.set_cons_succ, cnts]
    omega
theorem put_ok {p : Str → Prop} : ∀ (ks : List Nat) (t u v : T), t.Ok p → u.Ok p → t.at ks = some v → (t.put ks u).Ok p ∧ (t.put ks u).lv ≤ max t.lv (ks.length + u.lv) ∧ (t.put ks u).cnt + v.cnt = t.cnt + u.cnt
  | [], t, u, v, ht, hu, e => by simp [T.at] at e; subst e; exact ⟨hu, by simp only [T.put]; omega, by simp only [T.put]; omega⟩
  | k :: ks, .leaf s, u, v, ht, hu, e => by simp [T.at] at e
  | k :: ks, .node l, u, v, ht, hu, e => by
    simp only [T.at] at e
    split at e
    · rename_i x hx
      have hm := List.mem_of_getElem? hx
      obtain ⟨h1, h2, h3⟩ := put_ok ks x u v (ht.2.mem hm) hu e
      have h4 := lvs_mem hm
      have h5 := cnts_set l k x (x.put ks u) hx
      simp only [T.put, hx]
      refine ⟨⟨by rw [List.length_set]; exact ht.1, .of fun t hm2 => ?_⟩, ?_, ?_⟩
      · rcases List.mem_or_eq_of_mem_set hm2 with h | h
        · exact ht.2.mem h
        · rw [h]; exact h1
      · show 1 + lvs (l.set k (x.put ks u)) ≤ max (1 + lvs l) (ks.length + 1 + u.lv)
        have : lvs (l.set k (x.put ks u)) ≤ max (lvs l) (ks.length + u.lv) := lvs_le fun t hm2 => by
          rcases List.mem_or_eq_of_mem_set hm2 with h | h
          · have := lvs_mem h; omega
          · rw [h]; omega
        omega
      · show cnts (l.set k (x.put ks u)) + v.cnt = cnts l + u.cnt
        omega
    · cases e
/-- a path and the part there, as data -/
def natsD (ks : List Nat) : List D := ks.map fun (k : Nat) => D.int k
def pathD (x : List Nat × T) : D := .tup [.tup (natsD x.1), x.2.enc]
mutual
/-- all paths, in order -/
def T.paths : T → List Nat → List (List Nat × T)
  | .leaf s, ks => [(ks, .leaf s)]
  | .node l, ks => (ks, .node l) :: pathss l ks 0
def pathss : List T → List Nat → Nat → List (List Nat × T)
  | [], _, _ => []
  | t :: l, ks, k => t.paths (ks ++ [k]) ++ pathss l ks (k + 1)
end
mutual
theorem paths_len : ∀ (t : T) (ks : List Nat), (t.paths ks).length = t.size
  | .leaf _, _ => rfl
  | .node l, ks => by simp only [T.paths, T.size, List.length_cons, pathss_len l]; omega
theorem pathss_len : ∀ (l : List T) (ks : List Nat) (k : Nat), (pathss l ks k).length = sizes l
  | [], _, _ => rfl
  | t :: l, ks, k => by simp only [pathss, sizes, List.length_append, paths_len t, pathss_len l]
end
theorem pathss_app : ∀ (l r : List T) (ks : List Nat) (k : Nat), pathss (l ++ r) ks k = pathss l ks k ++ pathss r ks (k + l.length)
  | [], r, ks, k => by simp [pathss]
  | t :: l, r, ks, k => by
    simp only [List.cons_append, pathss, pathss_app l, List.append_assoc, List.length_cons]
    rw [Nat.add_assoc k 1, Nat.add_comm 1]
mutual
theorem paths_at : ∀ (t : T) (ks : List Nat) (x : List Nat × T), x ∈ t.paths ks → ∃ js, x.1 = ks ++ js ∧ t.at js = some x.2
  | .leaf s, ks, x, h => by
    have : x = (ks, .leaf s) := by simpa [T.paths] using h
    subst this
    exact ⟨[], by simp, rfl⟩
  | .node l, ks, x, h => by
    rcases List.mem_cons.mp (show x ∈ (ks, T.node l) :: pathss l ks 0 from h) with rfl | h
    · exact ⟨[], by simp, rfl⟩
    · obtain ⟨j, js, t, hj, e, ha⟩ := pathss_at l ks 0 x h
      refine ⟨j :: js, by rw [e, Nat.zero_add], ?_⟩
      simp only [T.at, hj]
      exact ha
theorem pathss_at : ∀ (l : List T) (ks : List Nat) (k : Nat) (x : List Nat × T), x ∈ pathss l ks k → ∃ j js t, l[j]? = some t ∧ x.1 = ks ++ (k + j) :: js ∧ t.at js = some x.2
  | [], ks, k, x, h => by cases h
  | t :: l, ks, k, x, h => by
    rcases List.mem_append.mp (show x ∈ t.paths (ks ++ [k]) ++ pathss l ks (k + 1) from h) with h | h
    · obtain ⟨js, e, ha⟩ := paths_at t (ks ++ [k]) x h
      exact ⟨0, js, t, rfl, by rw [e]; simp, ha⟩
    · obtain ⟨j, js, u, hj, e, ha⟩ := pathss_at l ks (k + 1) x h
      exact ⟨j + 1, js, u, by simpa using hj, by rw [e, Nat.add_assoc, Nat.add_comm 1], ha⟩
end
/-- an end as data -/
def endD (x : Nat × Nat × Str) : D := .tup [.int x.1, .int x.2.1, .str x.2.2]
mutual
theorem pyd_depth : ∀ t : T, t.pyd.depth ≤ t.lv + 1
  | .leaf s => by simp [T.pyd, PyData.depth, T.lv]
  | .node l => by
    have := pyds_depth l
    simp only [T.pyd, PyData.depth, T.lv]
    omega
theorem pyds_depth : ∀ l : List T, PyData.depthAll (pyds l) ≤ lvs l + 1
  | [] => by simp [pyds, PyData.depthAll]
  | t :: l => by
    have h1 := pyd_depth t
    have h2 := pyds_depth l
    simp only [pyds, PyData.depthAll, lvs]
    omega
end
/-- == and != of trees -/
theorem eq_T {M : Mem} {Q : D → Mem → Prop} {t u : T} (hl : t.lv ≤ 100 ∨ u.lv ≤ 100) (h1 : t = u → Q (.bl true) M) (h2 : t ≠ u → Q (.bl false) M) : rdEq false t.enc u.enc M Q := by
  refine eq_p t.pyd u.pyd (t.py _) (u.py _) ?_ ?_
  · have a := pyd_depth t
    have b := pyd_depth u
    omega
  · by_cases e : t = u
    · rw [(eqv_pyd t u).mpr e]; exact h1 e
    · have : PyData.eqv t.pyd u.pyd = false := by
        cases z : PyData.eqv t.pyd u.pyd with
        | false => rfl
        | true => exact absurd ((eqv_pyd t u).mp z) e
      rw [this]; exact h2 e
theorem ne_T {M : Mem} {Q : D → Mem → Prop} {t u : T} (hl : t.lv ≤ 100 ∨ u.lv ≤ 100) (h1 : t = u → Q (.bl false) M) (h2 : t ≠ u → Q (.bl true) M) : rdEq true t.enc u.enc M Q := by
  refine eq_p t.pyd u.pyd (t.py _) (u.py _) ?_ ?_
  · have a := pyd_depth t
    have b := pyd_depth u
    omega
  · by_cases e : t = u
    · rw [(eqv_pyd t u).mpr e]; exact h1 e
    · have : PyData.eqv t.pyd u.pyd = false := by
        cases z : PyData.eqv t.pyd u.pyd with
        | false => rfl
        | true => exact absurd ((eqv_pyd t u).mp z) e
      rw [this]; exact h2 e
theorem ne_Ts {M : Mem} {Q : D → Mem → Prop} {t u : T} (hl : t.lv ≤ 100 ∨ u.lv ≤ 100) (e : t = u) (h1 : Q (.bl false) M) : rdEq true t.enc u.enc M Q := ne_T hl (fun _ => h1) fun h => absurd e h
theorem eq_Ts {M : Mem} {Q : D → Mem → Prop} {t u : T} (hl : t.lv ≤ 100 ∨ u.lv ≤ 100) (e : t = u) (h1 : Q (.bl true) M) : rdEq false t.enc u.enc M Q := eq_T hl (fun _ => h1) fun h => absurd e h

end

section
variable {P : Program} {w : World} {K : PySem.W.Frag} {mg : Str → Option Value} {base : Heap}
/-! ### drawn trees -/
def OwnerOk (z : Str) : Prop := z = "-" ∨ NameOk z
def sp_owners : SpD := fun ds M Q _ => ∃ p : Addr, ds = [.ref p] ∧ Bag M p ∧ ∀ (r : Addr) (zs : List Str) (M' : Mem), M' r = some (.lst (zs.map D.str)) → 2 ≤ zs.length → zs.length ≤ 4 → (∀ z, z ∈ zs → OwnerOk z) → BagUp p M M' → Q (.ref r) M'
theorem ok_owners (a : At K mg "_law_owners" s_law_owners) (o_law_pull : Ok P w K mg base "_law_pull" s_law_pull 2 ["_law_bag_here", "_law_amount"] sp_pull) (o_law_of : Ok P w K mg base "_law_of" s_law_of 3 ["_law_bag_here", "_law_things"] sp_of) (o_law_names : Ok P w K mg base "_law_names" s_law_names 4 ["_law_bag_here", "_law_size"] sp_names) : Ok P w K mg base "_law_owners" s_law_owners 5 ["_law_bag_here"] sp_owners := by
  refine ok_of a sc_law_owners _ rfl (fun ds M Q E ⟨p, h, _⟩ => by rw [h]; rfl) fun f cd A outer s H E hr => ⟨_, (ss_one (s_ret (d_add (d_call o_law_of bd_law_of (hr.mono (by omega)) xd_takes (a_cons (dv 0) (a_cons (d_lst (a_cons (d_lst (a_cons de_str a_nil)) (a_cons (d_lst a_nil) a_nil))) a_nil))) (d_call o_law_names bd_law_names (hr.mono (by omega)) xd_takes (a_cons (dv 0) (a_cons (d_add de_int (d_call o_law_pull bd_law_pull (hr.mono (by omega)) xd_takes (a_cons (dv 0) (a_cons de_int a_nil)))) a_nil)))))), ?_⟩
  rintro ds M Q E ⟨p, rfl, hB, hq⟩
  walk_at "go"
  intro p1 hp1
  walk_at "go"
  intro p2 hp2
  walk_at "go"
  intro p3 hp3
  have m1 : ∀ {o : MO}, mupd (mupd (mupd M p1 (.lst [.str "-"])) p2 (.lst [])) p3 o p1 = some (.lst [.str "-"]) := fun {o} => by
    have n12 : p1 ≠ p2 := fun e => by rw [← e, mupd_same] at hp2; cases hp2
    have n13 : p1 ≠ p3 := fun e => by rw [← e, mupd_ne n12, mupd_same] at hp3; cases hp3
    rw [mupd_ne n13, mupd_ne n12, mupd_same]
  have m2 : ∀ {o : MO}, mupd (mupd (mupd M p1 (.lst [.str "-"])) p2 (.lst [])) p3 o p2 = some (.lst []) := fun {o} => by
    have n23 : p2 ≠ p3 := fun e => by rw [← e, mupd_same] at hp3; cases hp3
    rw [mupd_ne n23, mupd_same]
  have hB3 := ((hB.new (o := .lst [.str "-"]) hp1).new (o := .lst []) hp2).new (o := .lst [.ref p1, .ref p2]) hp3
  have u3 := (((BagUp.refl hB).new (o := .lst [.str "-"]) hp1).new (o := .lst []) hp2).new (o := .lst [.ref p1, .ref p2]) hp3
  walk_at "go"
  refine ⟨p, _, _, rfl, hB3, .lst mupd_same (((hB.new hp1).new hp2).ne hp3), (by show 0 < 2; decide), (by show 2 < _; decide), fun d M4 hd t4 => ?_⟩
  obtain ⟨q, zs, rfl, hqm, hqn, hz, hzl⟩ : ∃ (q : Addr) (zs : List Str), d = .ref q ∧ M4 q = some (.lst (zs.map D.str)) ∧ q ≠ p ∧ (∀ z, z ∈ zs → OwnerOk z) ∧ zs.length ≤ 1 := by
    simp at hd
    rcases hd with rfl | rfl
    · have n := hB3.ne_l m1 rfl
      exact ⟨p1, ["-"], rfl, by rw [t4.fr _ n]; exact m1, n, fun z hz => .inl (by simpa using hz), by decide⟩
    · have n := hB3.ne_l m2 rfl
      exact ⟨p2, [], rfl, by rw [t4.fr _ n]; exact m2, n, (fun z hz => by cases hz), by decide⟩
  walk_at "go"
  refine ⟨p, 2, rfl, t4.bag, by decide, by decide, fun v M5 hv0 hv1 t5 => ?_⟩
  walk_at "go"
  refine ⟨p, _, rfl, t5.bag, by omega, by omega, fun r ys M6 hr hyl hys t6 => ?_⟩
  have hq6 : M6 q = some (.lst (zs.map D.str)) := t6.fr q _ hqn (by rw [t5.fr _ hqn]; exact hqm)
  walk_at "go"
  refine add_l hq6 hr (sz (by simp only [List.length_map]; omega)) fun p7 hp7 => ?_
  refine ⟨_, MLe.refl _, hq p7 (zs ++ ys) _ (by rw [mupd_same, List.map_append]) (by rw [List.length_append]; omega) (by rw [List.length_append]; omega) (fun z hz' => ?_) (((u3.trans t4.up).trans t5.up).trans t6 |>.new hp7)⟩
  rcases List.mem_append.mp hz' with h | h
  · exact hz z h
  · exact .inr (hys z h)
def sp_tree (n : Nat) : SpD := fun ds M Q _ => ∃ (p q : Addr) (zs : List Str) (n' wd : Nat), n = n' + 1 ∧ ds = [.ref p, .ref q, .int n', .int wd] ∧ Bag M p ∧ q ≠ p ∧ M q = some (.lst (zs.map D.str)) ∧ 0 < zs.length ∧ zs.length ≤ 1000 ∧ 2 ≤ wd ∧ wd ≤ 1000 ∧ ∀ (t : T) (M' : Mem), t.Ok (· ∈ zs) → t.lv ≤ n' → t.cnt ≤ wd ^ n' → BagTo p M M' → Q t.enc M'
theorem cnts_all {l : List T} {c : Nat} (h : ∀ t, t ∈ l → t.cnt ≤ c) : cnts l ≤ l.length * c := by
  induction l with
  | nil => exact Nat.zero_le _
  | cons t l ih =>
    have h1 := h t (List.mem_cons_self ..)
    have h2 := ih fun u hu => h u (List.mem_cons_of_mem _ hu)
    simp only [cnts, List.length_cons, Nat.succ_mul]
    omega
theorem ok_tree_step {n : Nat} (a : At K mg "_law_tree" s_law_tree) (n_range : mg "range" = none) (n_tuple : mg "tuple" = none) (o_law_pull : Ok P w K mg base "_law_pull" s_law_pull 2 ["_law_bag_here", "_law_amount"] sp_pull) (o_law_of : Ok P w K mg base "_law_of" s_law_of 3 ["_law_bag_here", "_law_things"] sp_of)
    (ih : Ok P w K mg base "_law_tree" s_law_tree (n + 3) ["_law_bag_here", "_law_pool", "_law_deep", "_law_widest"] (sp_tree n)) : Ok P w K mg base "_law_tree" s_law_tree (n + 4) ["_law_bag_here", "_law_pool", "_law_deep", "_law_widest"] (sp_tree (n + 1)) := by
  refine ok_of a sc_law_tree _ rfl (fun ds M Q E ⟨p, q, zs, n, wd, _, h, _⟩ => by rw [h]; rfl) fun f cd A outer s H E hr => ⟨_, (ss_cons (s_if (DW.t (w_or (t_cmp (c_eq hr) (dv 2) de_int) (w_or1 (t_cmp (c_eq hr) (d_call o_law_pull bd_law_pull (hr.mono (by omega)) xd_takes (a_cons (dv 0) (a_cons de_int a_nil))) de_int)))) (ss_one (s_ret (d_call o_law_of bd_law_of (hr.mono (by omega)) xd_takes (a_cons (dv 0) (a_cons (dv 1) a_nil))))) ss_nil)
  (ss_one (s_ret (d_tuple n_tuple (DL.q (l_lc (own := [("_law_k", 4)]) rfl sc_law_tree.nd (i_r1 n_range (d_add de_int (d_call o_law_pull bd_law_pull (hr.mono (by omega)) xd_takes (a_cons (dv 0) (a_cons (d_sub (dv 3) de_int) a_nil))))) (blkOk_by (by show blkC ["_law_bag_here", "_law_pool", "_law_deep", "_law_widest", "_law_k"] (defScope s_law_tree) _ _ = true; decide +kernel)) (fun _ _ _ _ _ => (cg_name 4 sc_law_tree.nd)) (fun _ _ _ _ _ => pt_nil) (fun s1 H1 C1 cl1 fp1 => (d_call ih bd_law_tree (hr.mono (by omega)) takes0 (a_cons (dv 0) (a_cons (dv 1) (a_cons (d_sub (dv 2) de_int) (a_cons (dv 3) a_nil)))))))))))), ?_⟩
  rintro ds M Q E ⟨p, q, zs, n', wd, hn, rfl, hB, hqp, hqm, hz0, hz1, hw0, hw1, hq⟩
  cases hn
  have leafy : ∀ M1 E', BagTo p M M1 → onSp sp_of [.ref p, .ref q] M1 (dEnds Q E).rt E' := fun M1 E' t1 => by
    refine call_i ⟨p, _, _, rfl, t1.bag, .lst (by rw [t1.fr _ hqp]; exact hqm) hqp, by rw [List.length_map]; exact hz0, by rw [List.length_map]; omega, fun d M2 hd t2 => ?_⟩
    obtain ⟨z, hz, rfl⟩ := List.mem_map.mp hd
    exact ⟨_, MLe.refl _, hq (.leaf z) M2 hz (Nat.zero_le _) (Nat.pow_pos (by omega)) (t1.trans t2)⟩
  walk_at "go"
  refine cndE (fun h0 => ?_) fun h0 => ?_ <;> walk_at "td"
  · rw [cnd_true]
    walk_at "td"
    refine and_sp rfl (leafy M _ (.refl hB))
  · walk_at "go"
    refine ⟨p, 4, rfl, hB, by decide, by decide, fun v M1 hv0 hv1 t1 => ?_⟩
    walk_at "go"
    refine cndE (fun h1 => ?_) fun h1 => ?_ <;> walk_at "td"
    · exact and_sp rfl (leafy M1 _ t1)
    · walk_at "go"
      refine ⟨p, _, rfl, t1.bag, by omega, by omega, fun u M2 hu0 hu1 t2 => ?_⟩
      walk_at "go"
      refine ⟨by omega, by omega, ?_⟩
      have t12 := t1.trans t2
      obtain ⟨m, rfl⟩ : ∃ m, n = m + 1 := ⟨n - 1, by omega⟩
      refine lc_by (fun i acc M3 => BagTo p M M3 ∧ ∃ ts : List T, acc = encs ts ∧ ts.length = i ∧ ∀ t, t ∈ ts → t.Ok (· ∈ zs) ∧ t.lv ≤ m ∧ t.cnt ≤ wd ^ m) ⟨t12, [], rfl, rfl, fun t h => by cases h⟩ (fun _ _ _ _ _ => trivial) ?_ ?_
      · rintro i d acc M3 hd ⟨t3, ts, rfl, hl, hts⟩
        obtain ⟨hi, rfl⟩ := rngD_of hd
        have hi : i < 1000 := by omega
        have e : ((m + 1 : Nat) : Int) - 1 = (m : Int) := by omega
        walk_at "go"
        rw [e]
        refine ⟨p, q, zs, m, wd, rfl, rfl, t3.bag, hqp, by rw [t3.fr _ hqp]; exact hqm, hz0, hz1, hw0, hw1, fun t M4 h1 h2 h3 t4 => ?_⟩
        refine ⟨Nat.lt_of_le_of_lt (show _ ≤ 1000 by rw [encs_map, List.length_map]; omega) (by decide), t3.trans t4, ts ++ [t], by rw [encs_map, encs_map, List.map_append]; rfl, by rw [List.length_append, hl]; rfl, fun x hx => ?_⟩
        rcases List.mem_append.mp hx with h | h
        · exact hts x h
        · have : x = t := by simpa using h
          subst this
          exact ⟨h1, h2, h3⟩
      · rintro acc M3 ⟨t3, ts, rfl, hl, hts⟩
        rw [rngD_length] at hl
        walk_at "go"
        refine ⟨_, MLe.refl _, hq (.node ts) M3 ⟨by omega, .of fun t ht => (hts t ht).1⟩ ?_ ?_ t3⟩
        · show 1 + lvs ts ≤ m + 1
          have := lvs_le fun t ht => (hts t ht).2.1
          omega
        · show cnts ts ≤ _
          have h1 := cnts_all fun t ht => (hts t ht).2.2
          have h2 : ts.length * wd ^ m ≤ wd * wd ^ m := Nat.mul_le_mul_right _ (by omega)
          rw [Nat.pow_succ, Nat.mul_comm]
          omega
theorem ok_tree (a : At K mg "_law_tree" s_law_tree) (n_range : mg "range" = none) (n_tuple : mg "tuple" = none) (o_law_pull : Ok P w K mg base "_law_pull" s_law_pull 2 ["_law_bag_here", "_law_amount"] sp_pull) (o_law_of : Ok P w K mg base "_law_of" s_law_of 3 ["_law_bag_here", "_law_things"] sp_of) : ∀ n, Ok P w K mg base "_law_tree" s_law_tree (n + 3) ["_law_bag_here", "_law_pool", "_law_deep", "_law_widest"] (sp_tree n)
  | 0 => ((ok_never a sc_law_tree).imp fun ds M Q E ⟨p, q, zs, n, wd, h, _⟩ => by cases h).mono (by omega)
  | n + 1 => ok_tree_step a n_range n_tuple o_law_pull o_law_of (ok_tree a n_range n_tuple o_law_pull o_law_of n)
def sp_drawn : SpD := fun ds M Q _ => ∃ (p q : Addr) (zs : List Str), ds = [.ref p, .ref q] ∧ Bag M p ∧ q ≠ p ∧ M q = some (.lst (zs.map D.str)) ∧ 0 < zs.length ∧ zs.length ≤ 1000 ∧ ∀ (t : T) (M' : Mem), t.Ok (· ∈ zs) → t.lv ≤ 6 → t.cnt ≤ 64 → BagUp p M M' → Q t.enc M'
theorem ok_drawn (a : At K mg "_law_drawn" s_law_drawn) (o_law_of : Ok P w K mg base "_law_of" s_law_of 3 ["_law_bag_here", "_law_things"] sp_of)
    (o_law_tree0 : ∀ n, Ok P w K mg base "_law_tree" s_law_tree (n + 3) ["_law_bag_here", "_law_pool", "_law_deep", "_law_widest"] (sp_tree n)) : Ok P w K mg base "_law_drawn" s_law_drawn 11 ["_law_bag_here", "_law_pool"] sp_drawn := by
  have o_law_tree : Ok P w K mg base "_law_tree" s_law_tree 10 ["_law_bag_here", "_law_pool", "_law_deep", "_law_widest"] (fun ds M Q E => ∃ n, n ≤ 7 ∧ sp_tree n ds M Q E) := by
    refine (Ok.any (ι := { n : Nat // n ≤ 7 }) ⟨0, by omega⟩ fun i => (o_law_tree0 i.1).mono (by have := i.2; omega)).imp fun ds M Q E ⟨n, h, q⟩ => ⟨⟨n, h⟩, q⟩
  refine ok_of a sc_law_drawn _ rfl (fun ds M Q E ⟨p, q, zs, h, _⟩ => by rw [h]; rfl) fun f cd A outer s H E hr => ⟨_, (ss_cons (s_asg (d_call o_law_of bd_law_of (hr.mono (by omega)) xd_takes (a_cons (dv 0) (a_cons (d_lst (a_cons (d_tup (a_cons de_int (a_cons de_int a_nil))) (a_cons (d_tup (a_cons de_int (a_cons de_int a_nil))) (a_cons (d_tup (a_cons de_int (a_cons de_int a_nil))) (a_cons (d_tup (a_cons de_int (a_cons de_int a_nil))) (a_cons (d_tup (a_cons de_int (a_cons de_int a_nil))) (a_cons (d_tup (a_cons de_int (a_cons de_int a_nil))) a_nil))))))) a_nil))) (g_tup (n := 2) rfl (gs_cons (g_name 2 sc_law_drawn.nd) (gs_cons (g_name 3 sc_law_drawn.nd) gs_nil))))
  (ss_one (s_ret (d_call o_law_tree bd_law_tree (hr.mono (by omega)) xd_takes (a_cons (dv 0) (a_cons (dv 1) (a_cons (dv 2) (a_cons (dv 3) a_nil)))))))), ?_⟩
  rintro ds M Q E ⟨p, q, zs, rfl, hB, hqp, hqm, hz0, hz1, hq⟩
  walk_at "go"
  intro p1 hp1
  walk_at "go"
  refine ⟨p, _, _, rfl, hB.new hp1, .lst mupd_same (hB.ne hp1), by decide, by decide, fun d M2 hd t2 => ?_⟩
  have u2 : BagUp p M M2 := ((BagUp.refl hB).new hp1).trans t2.up
  obtain ⟨n, wd, rfl, hn, hw0, hw1, hc⟩ : ∃ n wd : Nat, d = .tup [.int n, .int wd] ∧ n ≤ 6 ∧ 2 ≤ wd ∧ wd ≤ 60 ∧ wd ^ n ≤ 64 := by
    simp at hd
    rcases hd with h | h | h | h | h | h
    · exact ⟨2, 8, h, by decide, by decide, by decide, by decide⟩
    · exact ⟨3, 4, h, by decide, by decide, by decide, by decide⟩
    · exact ⟨6, 2, h, by decide, by decide, by decide, by decide⟩
    · exact ⟨3, 3, h, by decide, by decide, by decide, by decide⟩
    · exact ⟨1, 60, h, by decide, by decide, by decide, by decide⟩
    · exact ⟨2, 3, h, by decide, by decide, by decide, by decide⟩
  walk_at "go"
  refine ⟨n + 1, by omega, p, q, zs, n, wd, rfl, rfl, t2.bag, hqp, u2.fr q _ hqp hqm, hz0, hz1, hw0, by omega, fun t M3 h1 h2 h3 t3 => ?_⟩
  exact ⟨_, MLe.refl _, hq t M3 h1 (by omega) (by omega) (u2.trans t3.up)⟩

/-! ### the law's own readers of trees -/
theorem mle_none {M M' : Mem} {r : Addr} (l : MLe M M') (h : M' r = none) : M r = none := by
  cases e : M r with
  | none => rfl
  | some o => rw [l r o e] at h; cases h
theorem encs_get {l : List T} {i : Nat} {d : D} (h : (encs l)[i]? = some d) : ∃ t, l[i]? = some t ∧ d = t.enc ∧ t ∈ l := by
  rw [encs_map] at h
  exact map_get h
theorem encs_at {l : List T} {i : Nat} (h : i < l.length) : atI (encs l) (i : Int) = some (l[i]).enc := atI_nat (by rw [encs_map, List.getElem?_map, List.getElem?_eq_getElem h]; rfl)
theorem encs_len (l : List T) : (encs l).length = l.length := by rw [encs_map, List.length_map]
theorem pow_step {b : Nat} : 2 ^ (b + 21) = 2 ^ b * 2097152 := by rw [Nat.pow_add]
theorem big_pow {x b : Nat} (h : x < 2 ^ b) (hb : b ≤ 6000) : Big (x : Int) := big_of (n := b) (by simpa using h) (by omega)
theorem lvs_max {l : List T} {m : Int} (h1 : m ∈ l.map fun t : T => (t.lv : Int)) (h2 : ∀ y, y ∈ l.map (fun t : T => (t.lv : Int)) → y ≤ m) : m = (lvs l : Nat) := by
  obtain ⟨t, ht, rfl⟩ := List.mem_map.mp h1
  have h3 := lvs_mem ht
  have h4 : lvs l ≤ t.lv := lvs_le fun u hu => by
    have := h2 _ (List.mem_map.mpr ⟨u, hu, rfl⟩)
    omega
  omega
/-- numbers of a walk over a tree's classes stay bounded -/
structure ClsB (b f s lv : Nat) : Prop where
  f1 : f < 2 ^ b
  s1 : s < 2 ^ b
  b1 : b + 21 * (lv + 1) ≤ 5000
theorem ClsB.in_ {b f s lv lv' k n : Nat} (h : ClsB b f s lv) (hl : lv' + 1 ≤ lv) (hk : k < n) (hn : n ≤ 100000) : ClsB (b + 21) (f + s * k) (s * n) lv' where
  f1 := by
    have h1 := h.f1
    have h2 : s * k ≤ 2 ^ b * 100000 := Nat.mul_le_mul (Nat.le_of_lt h.s1) (by omega)
    rw [pow_step]
    omega
  s1 := by
    have h2 : s * n ≤ 2 ^ b * 100000 := Nat.mul_le_mul (Nat.le_of_lt h.s1) hn
    have := Nat.two_pow_pos b
    rw [pow_step]
    omega
  b1 := by have := h.b1; omega
theorem ClsB.big {b f s lv : Nat} (h : ClsB b f s lv) : Big (f : Int) ∧ Big (s : Int) := ⟨big_pow h.f1 (by have := h.b1; omega), big_pow h.s1 (by have := h.b1; omega)⟩
def sp_lends (n : Nat) : SpD := fun ds M Q _ => ∃ (t : T) (f s b : Nat) (p : Str → Prop), ds = [t.enc, .int f, .int s] ∧ t.lv < n ∧ t.Ok p ∧ t.cnt ≤ 100000 ∧ ClsB b f s t.lv ∧ ∀ (r : Addr) (M' : Mem), M' r = some (.lst ((t.ends f s).map endD)) → M r = none → MLe M M' → Q (.ref r) M'
theorem ok_lends_step {n : Nat} (a : At K mg "_law_ends" s_law_ends) (n_isinstance : mg "isinstance" = none) (n_tuple : mg "tuple" = none) (n_range : mg "range" = none) (n_len : mg "len" = none)
    (ih : Ok P w K mg base "_law_ends" s_law_ends (n + 1) ["_law_tree_z", "_law_first", "_law_step"] (sp_lends n)) : Ok P w K mg base "_law_ends" s_law_ends (n + 2) ["_law_tree_z", "_law_first", "_law_step"] (sp_lends (n + 1)) := by
  refine ok_of a sc_law_ends _ rfl (fun ds M Q E ⟨t, f, s, b, p, h, _⟩ => by rw [h]; rfl) fun f cd A outer s H E hr => ⟨_, (ss_cons (s_if (t_not (dt_val (d_isi .tuple n_isinstance n_tuple (dv 0)))) (ss_one (s_ret (d_lst (a_cons (d_tup (a_cons (dv 1) (a_cons (dv 2) (a_cons (dv 0) a_nil)))) a_nil)))) ss_nil)
  (ss_cons (s_set 3 sc_law_ends.nd (d_lst a_nil))
  (ss_cons (s_for xd_owns rfl (i_r1 n_range (d_len n_len (dv 0))) (g_name 4 sc_law_ends.nd) (ss_one (s_set 3 sc_law_ends.nd (d_add (dv 3) (d_call ih bd_law_ends (hr.mono (by omega)) xd_takes (a_cons (d_ix (dv 0) (dv 4)) (a_cons (d_add (dv 1) (d_mul (dv 2) (dv 4))) (a_cons (d_mul (dv 2) (d_len n_len (dv 0))) a_nil))))))))
  (ss_one (s_ret (dv 3)))))), ?_⟩
  rintro ds M Q E ⟨t, f, s, b, p, rfl, hn, ht, hc, hb, hq⟩
  cases t with
  | leaf z =>
    simp only [T.enc]
    walk_at "go"
    intro p1 hp1
    exact ⟨_, MLe.refl _, hq p1 _ mupd_same hp1 (.new hp1)⟩
  | node l =>
    have hlen : l.length ≤ 100000 := Nat.le_trans (cnts_len ht.2) hc
    simp only [T.enc]
    walk_at "go"
    intro p1 hp1
    walk_at "go"
    rw [encs_len]
    refine ⟨by omega, by omega, ?_⟩
    refine for_by (fun i ρ M1 => ∃ (r : Addr) (x : Option D), ρ = [some (.tup (encs l)), some (.int f), some (.int s), some (.ref r), x] ∧ M1 r = some (.lst ((endss (l.take i) f s (s * l.length)).map endD)) ∧ M r = none ∧ MLe M M1) ⟨p1, _, rfl, mupd_same, hp1, .new hp1⟩ (fun _ _ _ _ _ => trivial) ?_ ?_
    · rintro i d ρ M1 hd ⟨r, x, rfl, hr1, hr2, hle⟩
      obtain ⟨hi, rfl⟩ := rngD_of hd
      have hi : i < l.length := by simpa using hi
      have e0 : (0 : Int) + (i : Int) = i := by omega
      have hm := List.getElem_mem hi
      have hB := hb.in_ (lv' := (l[i]).lv) (by have := lvs_mem hm; show _ ≤ 1 + lvs l; omega) hi hlen
      have g1 := hb.big.2
      have g2 : Big (i : Int) := .of200 (by omega) (by omega)
      have g3 : Big (l.length : Int) := .of200 (by omega) (by omega)
      rw [e0]
      walk_at "go"
      refine ix_t (encs_at hi) ?_
      walk_at "go"
      rw [encs_len]
      walk_at "go"
      refine ⟨l[i], f + s * i, s * l.length, b + 21, p, rfl, by have := lvs_mem hm; have : 1 + lvs l < n + 1 := hn; omega, ht.2.mem hm, Nat.le_trans (cnts_mem hm) hc, hB, fun r2 M2 h1 h2 h3 => ?_⟩
      walk_at "go"
      have hx : endss (l.take (i + 1)) f s (s * l.length) = endss (l.take i) f s (s * l.length) ++ (l[i]).ends (f + s * i) (s * l.length) := by
        rw [take_succ_of (List.getElem?_eq_getElem hi), endss_app, List.length_take, Nat.min_eq_left (by omega)]
        simp [endss]
      have hsz : (endss (l.take i) f s (s * l.length)).length + ((l[i]).ends (f + s * i) (s * l.length)).length ≤ 100000 := by
        rw [← List.length_append, ← hx, endss_len]
        refine Nat.le_trans ?_ hc
        show cnts (l.take (i + 1)) ≤ cnts l
        rw [cnts_sum, cnts_sum l]
        conv => rhs; rw [← List.take_append_drop (i + 1) l]
        rw [List.map_append, List.sum_append]
        omega
      refine add_l (h3 r _ hr1) h1 (sz (by rw [List.length_map, List.length_map]; omega)) fun p5 hp5 => ?_
      walk_at "go"
      have hle2 : MLe M M2 := hle.trans h3
      refine ⟨p5, _, rfl, by rw [mupd_same, hx, List.map_append], mle_none hle2 hp5, hle2.trans (.new hp5)⟩
    · rintro ρ M1 ⟨r, x, rfl, hr1, hr2, hle⟩
      rw [rngD_length] at hr1
      have e : ((l.length : Nat) : Int).toNat = l.length := by omega
      rw [e, List.take_length] at hr1
      walk_at "go"
      exact ⟨_, MLe.refl _, hq r _ hr1 hr2 hle⟩
theorem ok_lends (a : At K mg "_law_ends" s_law_ends) (n_isinstance : mg "isinstance" = none) (n_tuple : mg "tuple" = none) (n_range : mg "range" = none) (n_len : mg "len" = none) : ∀ n, Ok P w K mg base "_law_ends" s_law_ends (n + 1) ["_law_tree_z", "_law_first", "_law_step"] (sp_lends n)
  | 0 => (ok_never a sc_law_ends).imp fun ds M Q E ⟨t, _, _, _, p, _, h, _⟩ => by omega
  | n + 1 => ok_lends_step a n_isinstance n_tuple n_range n_len (ok_lends a n_isinstance n_tuple n_range n_len n)

mutual
theorem ok_mono {p q : Str → Prop} (h : ∀ s, p s → q s) : ∀ t : T, t.Ok p → t.Ok q
  | .leaf s, k => h s k
  | .node l, k => ⟨k.1, oks_mono h l k.2⟩
theorem oks_mono {p q : Str → Prop} (h : ∀ s, p s → q s) : ∀ l : List T, Oks p l → Oks q l
  | [], _ => trivial
  | t :: l, k => ⟨ok_mono h t k.1, oks_mono h l k.2⟩
end
theorem like_tree {M : Mem} {p : Str → Prop} : ∀ (n : Nat) (t : T), t.lv < n → t.Ok p → t.cnt ≤ 1000000 → Like M n t.enc t.enc
  | 0, t, h, _, _ => by omega
  | n + 1, .leaf s, _, _, _ => .str s
  | n + 1, .node l, h, ht, hc => by
    simp only [T.enc]
    refine .tup rfl (fun i x y hx hy => ?_) (by rw [encs_len]; exact Nat.le_trans (cnts_len ht.2) hc)
    rw [hx] at hy
    cases hy
    obtain ⟨t, _, rfl, hm⟩ := encs_get hx
    have h1 := lvs_mem hm
    have h9 : 1 + lvs l < n + 1 := h
    exact like_tree n t (by omega) (ht.2.mem hm) (Nat.le_trans (cnts_mem hm) hc)
theorem like2 {M : Mem} {n : Nat} {a b : Addr} {x y : D} (h1 : M a = some (.lst [x, y])) (h2 : M b = some (.lst [x, y])) (hx : Like M n x x) (hy : Like M n y y) : Like M (n + 1) (.ref a) (.ref b) := by
  refine .lst h1 h2 rfl (fun i u v hu hv => ?_) (by simp)
  rw [hu] at hv
  cases hv
  match i with
  | 0 => cases hu; exact hx
  | 1 => cases hu; exact hy
  | i + 2 => simp at hu

end

section
variable {P : Program} {w : World} {K : PySem.W.Frag} {mg : Str → Option Value} {base : Heap}
/-! ### paths and parts, by the law -/
theorem natsD_app (a b : List Nat) : natsD (a ++ b) = natsD a ++ natsD b := by unfold natsD; rw [List.map_append]
theorem natsD_len (a : List Nat) : (natsD a).length = a.length := by unfold natsD; rw [List.length_map]
theorem pys_nats (M : Mem) : ∀ ks : List Nat, Pys M (natsD ks) (ks.map fun (k : Nat) => PyData.int k)
  | [] => .nil
  | k :: ks => .cons (.int _) (pys_nats M ks)
theorem cnts_take {l : List T} (i : Nat) : cnts (l.take i) ≤ cnts l := by
  rw [cnts_sum, cnts_sum l]
  conv => rhs; rw [← List.take_append_drop i l]
  rw [List.map_append, List.sum_append]
  omega
theorem sizes_sum : ∀ l : List T, sizes l = (l.map T.size).sum
  | [] => rfl
  | t :: l => by simp only [sizes, List.map_cons, List.sum_cons, sizes_sum l]
theorem sizes_take {l : List T} (i : Nat) : sizes (l.take i) ≤ sizes l := by
  rw [sizes_sum, sizes_sum l]
  conv => rhs; rw [← List.take_append_drop i l]
  rw [List.map_append, List.sum_append]
  omega
/-- a part of a tree replaced by anything -/
def T.putD : T → List Nat → D → D
  | _, [], d => d
  | .leaf s, _ :: _, _ => .str s
  | .node l, k :: ks, d => match l[k]? with
    | some v => .tup ((encs l).set k (v.putD ks d))
    | none => .tup (encs l)
theorem putD_enc : ∀ (ks : List Nat) (t u v : T), t.at ks = some v → t.putD ks u.enc = (t.put ks u).enc
  | [], t, u, v, e => by simp [T.putD, T.put]
  | k :: ks, .leaf s, u, v, e => by simp [T.at] at e
  | k :: ks, .node l, u, v, e => by
    simp only [T.at] at e
    split at e
    · rename_i x hx
      simp only [T.putD, T.put, hx, putD_enc ks x u v e, T.enc]
      rw [encs_map, encs_map, List.map_set]
    · cases e
theorem set_cut {xs : List D} {k : Nat} {d : D} (h : k < xs.length) : cutD xs none (some (k : Int)) ++ [d] ++ cutD xs (some ((k : Int) + 1)) none = xs.set k d := by
  have e1 : HT.sIx xs.length xs.length (some (k : Int)) = k := by rw [HT.sIx_nat, Nat.min_eq_left (by omega)]
  have e2 : HT.sIx xs.length 0 (some ((k : Int) + 1)) = k + 1 := by
    have : ((k : Int) + 1) = ((k + 1 : Nat) : Int) := rfl
    rw [this, HT.sIx_nat, Nat.min_eq_left (by omega)]
  unfold cutD
  rw [e1, e2]
  show (xs.drop 0).take (k - 0) ++ [d] ++ (xs.drop (k + 1)).take (xs.length - (k + 1)) = _
  rw [List.drop_zero, Nat.sub_zero, List.take_of_length_le (l := xs.drop (k + 1)) (by rw [List.length_drop]; omega), List.set_eq_take_append_cons_drop, if_pos h, List.append_assoc]
  rfl

/-! ### numbers of any size -/
def sp_great : SpD := fun ds M Q _ => ∃ p : Addr, ds = [.ref p] ∧ Bag M p ∧ ∀ (v : Nat) (M' : Mem), v < 10 ^ 30 → BagUp p M M' → Q (.int v) M'
theorem ok_great (a : At K mg "_law_great" s_law_great) (o_law_pull : Ok P w K mg base "_law_pull" s_law_pull 2 ["_law_bag_here", "_law_amount"] sp_pull) (o_law_of : Ok P w K mg base "_law_of" s_law_of 3 ["_law_bag_here", "_law_things"] sp_of) : Ok P w K mg base "_law_great" s_law_great 4 ["_law_bag_here"] sp_great := by
  refine ok_of a sc_law_great _ rfl (fun ds M Q E ⟨p, h, _⟩ => by rw [h]; rfl) fun f cd A outer s H E hr => ⟨_, (ss_one (s_ret (d_call o_law_of bd_law_of (hr.mono (by decide)) xd_takes (a_cons (dv 0) (a_cons (d_lst (a_cons (d_call o_law_pull bd_law_pull (hr.mono (by decide)) xd_takes (a_cons (dv 0) (a_cons de_int a_nil))) (a_cons (d_call o_law_pull bd_law_pull (hr.mono (by decide)) xd_takes (a_cons (dv 0) (a_cons (d_pow de_int de_int) a_nil))) (a_cons (d_call o_law_pull bd_law_pull (hr.mono (by decide)) xd_takes (a_cons (dv 0) (a_cons (d_pow de_int de_int) a_nil))) (a_cons (d_sub (d_pow de_int de_int) de_int) (a_cons de_int a_nil)))))) a_nil))))), ?_⟩
  rintro ds M Q E ⟨p, rfl, hB, hq⟩
  walk_at "go"
  refine ⟨p, _, rfl, hB, by decide, by decide, fun v1 M1 a1 b1 t1 => ?_⟩
  walk_at "go"
  refine ⟨p, _, rfl, t1.bag, by decide, by decide, fun v2 M2 a2 b2 t2 => ?_⟩
  walk_at "go"
  refine ⟨p, _, rfl, t2.bag, by decide, by decide, fun v3 M3 a3 b3 t3 => ?_⟩
  walk_at "go"
  intro q hq1
  walk_at "go"
  refine ⟨p, _, _, rfl, t3.bag.new hq1, .lst mupd_same (t3.bag.ne hq1), by simp, by simp, fun d M4 hd t4 => ?_⟩
  have up : BagUp p M M4 := (((t1.up.trans t2.up).trans t3.up).new hq1).trans t4.up
  have fin : ∀ v : Int, 0 ≤ v → v < 10 ^ 30 → (dEnds Q E).rt (.int v) M4 := fun v h0 h1 => by
    obtain ⟨n, rfl⟩ := Int.eq_ofNat_of_zero_le h0
    exact ⟨_, MLe.refl _, hq n M4 (by omega) up⟩
  simp only [List.mem_cons, List.mem_nil_iff, or_false] at hd
  rcases hd with rfl | rfl | rfl | rfl | rfl
  · exact fin _ a1 (by omega)
  · exact fin _ a2 (by omega)
  · exact fin _ a3 (by omega)
  · exact fin _ (by decide) (by decide)
  · exact fin _ (by decide) (by decide)

def sp_own : SpD := fun ds M Q _ => ∃ (t : T) (i : Nat) (p : Str → Prop), ds = [t.enc, .int i] ∧ t.Ok p ∧ t.cnt ≤ 100000 ∧ Q (.str (t.own i)) M

/-! ### the owner of an item, by the law -/
theorem ok_lown (a : At K mg "_law_owner_of" s_law_owner_of) (n_len : mg "len" = none) (n_isinstance : mg "isinstance" = none) (n_tuple : mg "tuple" = none) : Ok P w K mg base "_law_owner_of" s_law_owner_of 2 ["_law_tree_z", "_law_item"] sp_own := by
  refine ok_of a sc_law_owner_of _ rfl (fun ds M Q E ⟨t, i, p, h, _⟩ => by rw [h]; rfl) fun f cd A outer s H E hr => ⟨_, (ss_cons (s_while xd_owns (dt_val (d_isi .tuple n_isinstance n_tuple (dv 0))) (ss_one (s_par 1 0 rfl sc_law_owner_of.nd (a_cons (d_fdiv (dv 1) (d_len n_len (dv 0))) (a_cons (d_ix (dv 0) (d_mod (dv 1) (d_len n_len (dv 0)))) a_nil)))))
  (ss_one (s_ret (dv 0)))), ?_⟩
  rintro ds M Q E ⟨t, i, p, rfl, ht, hc, hq⟩
  walk_at "go"
  refine while_by (fun ρ M1 => M1 = M ∧ ∃ (u : T) (j : Nat), ρ = [some u.enc, some (.int j)] ∧ u.Ok p ∧ u.cnt ≤ 100000 ∧ u.own j = t.own i) (fun ρ _ => match ρ with | [some (.tup l), _] => sizeOf l | _ => 0) ⟨rfl, t, i, rfl, ht, hc, rfl⟩ ?_
  rintro ρ M1 ⟨rfl, u, j, rfl, hu, huc, ho⟩
  cases u with
  | leaf z =>
    simp only [T.enc]
    walk_at "go"
    have e : z = t.own i := ho
    rw [e]
    exact ⟨_, MLe.refl _, hq⟩
  | node l =>
    have hlen : l.length ≤ 100000 := Nat.le_trans (cnts_len hu.2) huc
    have hn0 : 0 < l.length := by have := hu.1; omega
    have d2 := divOk_nat hn0 hlen
    have hx : j % l.length < l.length := Nat.mod_lt _ hn0
    have hm := List.getElem_mem hx
    simp only [T.enc]
    walk_at "go"
    rw [encs_len]
    try refine fdiv_i d2 ?_
    walk_at "go"
    rw [encs_len]
    try refine mod_i (by omega) ?_
    walk_at "go"
    refine ix_t (encs_at hx) ?_
    walk_at "go"
    refine ⟨_, ?_, rfl, rfl, l[j % l.length], j / l.length, rfl, hu.2.mem hm, Nat.le_trans (cnts_mem hm) huc, ?_⟩
    · have hmem : (l[j % l.length]).enc ∈ encs l := by rw [encs_map]; exact List.mem_map.mpr ⟨_, hm, rfl⟩
      have hlt := List.sizeOf_lt_of_mem hmem
      generalize (l[j % l.length]).enc = e at hlt ⊢
      cases e <;> simp_all <;> omega
    · rw [← ho]
      exact (owns_get (List.getElem?_eq_getElem hx)).symm

end

section
variable {P : Program} {w : World} {K : PySem.W.Frag} {mg : Str → Option Value} {base : Heap}
/-! ### the generator of the ends -/
def sp_ends (n : Nat) : XG.SpGn := fun ds items => ∃ (t : T) (f s b : Nat) (p : Str → Prop), ds = [t.enc, .int f, .int s] ∧ t.lv < n ∧ t.Ok p ∧ t.cnt ≤ 100000 ∧ ClsB b f s t.lv ∧ items = (t.ends f s).map endD
theorem tail_ends {l : List T} {f s w : Nat} {cit : Nat → List D} (hc : ∀ i (h : i < l.length), cit i = ((l[i]).ends (f + s * i) w).map endD) : ∀ n i, i + n = l.length → XG.tailI cit n i = (endss (l.drop i) (f + s * i) s w).map endD
  | 0, i, h => by
    rw [List.drop_eq_nil_of_le (by omega)]; rfl
  | n + 1, i, h => by
    have hi : i < l.length := by omega
    rw [List.drop_eq_getElem_cons hi]
    show cit i ++ XG.tailI cit n (i + 1) = _
    rw [tail_ends hc n (i + 1) (by omega), hc i hi]
    simp only [endss, List.map_append, Nat.mul_succ, Nat.add_assoc]
theorem fr_ends_step {f : Addr} {cdv : Value} {fd : FuncData} {n k : Nat} (gd : XG.GDef K mg ["tree", "first", "step", "width", "number", "outlet"] ["tree", "first", "step"] "ends" (defScope s_ends) f cdv (defBody s_ends) fd) (n_isinstance : mg "isinstance" = none) (n_str : mg "str" = none) (n_len : mg "len" = none) (n_enumerate : mg "enumerate" = none)
    (ih : ∀ ds items, sp_ends n ds items → XG.FreshOk P w K mg base ["tree", "first", "step", "width", "number", "outlet"] "ends" (defScope s_ends) f cdv (defBody s_ends) k ds items) : ∀ ds items, sp_ends (n + 1) ds items → XG.FreshOk P w K mg base ["tree", "first", "step", "width", "number", "outlet"] "ends" (defScope s_ends) f cdv (defBody s_ends) (k + 3) ds items := by
  rintro ds items ⟨t, f0, s0, b, p, rfl, hn, ht, hc, hb, rfl⟩
  refine XG.fresh_step gd rfl (fun A stk L num s0 H0 => dt_val (d_isi .str n_isinstance n_str (dv 0))) (fun A stk L num s0 H0 => d_tup (a_cons (dv 1) (a_cons (dv 2) (a_cons (dv 0) a_nil)))) (fun A stk L num s0 H0 => s_set 3 sc_ends.nd (d_mul (dv 2) (d_len n_len (dv 0)))) (fun A stk L num s0 H0 => i_enum n_enumerate (dv 0))
    (fun A stk L num s0 H0 => g_tup (n := 2) rfl (gs_cons (g_name 4 sc_ends.nd) (gs_cons (g_name 5 sc_ends.nd) gs_nil))) (fun A stk L num s0 H0 => a_cons (dv 5) (a_cons (d_add (dv 1) (d_mul (dv 2) (dv 4))) (a_cons (dv 3) a_nil))) rfl (by decide) (fun _ => rfl) (fun _ => rfl) (fun _ _ => rfl) fun M => ?_
  cases t with
  | leaf z =>
    simp only [T.enc]
    walk_at "go"
    refine ⟨rfl, ?_⟩
    walk_at "go"
    exact ⟨rfl, rfl⟩
  | node l =>
    have hlen : l.length ≤ 100000 := Nat.le_trans (cnts_len ht.2) hc
    simp only [T.enc]
    walk_at "go"
    refine ⟨rfl, ?_⟩
    have g1 := hb.big.2
    have g3 : Big (l.length : Int) := .of200 (by omega) (by omega)
    walk_at "go"
    rw [encs_len]
    walk_at "go"
    refine ⟨rfl, ?_⟩
    walk_at "go"
    refine ⟨rfl, fun _ => trivial, fun i => if h : i < l.length then ((l[i]).ends (f0 + s0 * i) (s0 * l.length)).map endD else [], fun i ρ => ∃ x y : Option D, ρ = [some (.tup (encs l)), some (.int f0), some (.int s0), some (.int (s0 * l.length)), x, y], ?_, ⟨none, none, rfl⟩, ?_⟩
    · rw [enumD_len, encs_len, tail_ends (w := s0 * l.length) (fun i h => dif_pos h) l.length 0 (by omega)]
      rfl
    · rintro i d ρ M1 hd ⟨x, y, rfl⟩
      obtain ⟨z, hz, rfl⟩ := enumD_get hd
      obtain ⟨u, hu, rfl, hm⟩ := encs_get hz
      obtain ⟨hi, hui⟩ := List.getElem?_eq_some_iff.mp hu
      have hB := hb.in_ (lv' := u.lv) (by have := lvs_mem hm; show _ ≤ 1 + lvs l; omega) hi hlen
      have g2 : Big (i : Int) := .of200 (by omega) (by omega)
      walk_at "go"
      refine ⟨rfl, ⟨_, _, rfl⟩, ?_⟩
      walk_at "go"
      refine ⟨rfl, rfl, ih _ _ ⟨u, f0 + s0 * i, s0 * l.length, b + 21, p, rfl, by have := lvs_mem hm; have : 1 + lvs l < n + 1 := hn; omega, ht.2.mem hm, Nat.le_trans (cnts_mem hm) hc, hB, ?_⟩⟩
      show (if h : i < l.length then _ else _) = _
      rw [dif_pos hi, hui]
/-- .. by levels -/
theorem fr_ends {f : Addr} {cdv : Value} {fd : FuncData} (gd : XG.GDef K mg ["tree", "first", "step", "width", "number", "outlet"] ["tree", "first", "step"] "ends" (defScope s_ends) f cdv (defBody s_ends) fd) (n_isinstance : mg "isinstance" = none) (n_str : mg "str" = none) (n_len : mg "len" = none) (n_enumerate : mg "enumerate" = none) :
    ∀ n ds items, sp_ends n ds items → XG.FreshOk P w K mg base ["tree", "first", "step", "width", "number", "outlet"] "ends" (defScope s_ends) f cdv (defBody s_ends) (3 * n) ds items
  | 0 => fun ds items ⟨t, _, _, _, _, _, h, _⟩ => by omega
  | n + 1 => fr_ends_step (k := 3 * n) gd n_isinstance n_str n_len n_enumerate (fr_ends gd n_isinstance n_str n_len n_enumerate n)
/-- the def in the text: it may be called with one argument -/
theorem gd_ends (a : XG.AtG K mg "ends" s_ends 0 1) : ∃ (f : Addr) (cdv : Value) (fd : FuncData), XG.GDef K mg ["tree", "first", "step", "width", "number", "outlet"] ["tree", "first", "step"] "ends" (defScope s_ends) f cdv (defBody s_ends) fd ∧ XG.GBd K fd ["tree", "first", "step"] 1 [.int 0, .int 1] :=
  a.def_ sc_ends (by decide +kernel) (fun _ => rfl) (fun T kV doc pm an cdv ct us v w hl => match us, hl with | [_, _, _], _ => ⟨_, rfl, rfl⟩) (fun T kV doc pm an cdv ct u v w => ⟨_, rfl, rfl⟩) rfl

/-! ### the package's readers of trees: count_ends, levels, owner_of -/
theorem cnts_ints (l : List T) : (l.map fun t : T => (t.cnt : Int)).sum = (cnts l : Nat) := by
  induction l with
  | nil => rfl
  | cons t l ih => simp only [List.map_cons, List.sum_cons, ih, cnts]; omega

/-! ### every item lies in the class of an end -/
theorem endss_get : ∀ (l : List T) (f s w k : Nat) (t : T) (e : Nat × Nat × Str), l[k]? = some t → e ∈ t.ends (f + s * k) w → e ∈ endss l f s w
  | [], _, _, _, _, _, _, h, _ => by simp at h
  | u :: l, f, s, w, 0, t, e, h, he => by
    cases h
    rw [Nat.mul_zero, Nat.add_zero] at he
    simp only [endss]
    exact List.mem_append_left _ he
  | u :: l, f, s, w, k + 1, t, e, h, he => by
    simp only [endss]
    refine List.mem_append_right _ (endss_get l (f + s) s w k t e (by simpa using h) ?_)
    have e1 : f + s + s * k = f + s * (k + 1) := by rw [Nat.mul_succ]; omega
    rw [e1]
    exact he
theorem ends_cover {p : Str → Prop} : ∀ (t : T) (f s n : Nat), t.Ok p → ∃ e, e ∈ t.ends f s ∧ e.2.2 = t.own n ∧ ∃ a b, e.1 = f + s * a ∧ e.2.1 = s * b ∧ n % b = a
  | .leaf z, f, s, n, _ => ⟨(f, s, z), by simp [T.ends], rfl, 0, 1, by simp, by simp, Nat.mod_one n⟩
  | .node l, f, s, n, h => by
    have hn : 0 < l.length := by have := h.1; omega
    have hm : n % l.length < l.length := Nat.mod_lt _ hn
    have hx : l[n % l.length]? = some l[n % l.length] := List.getElem?_eq_getElem hm
    obtain ⟨e, he, ho, a, b, e1, e2, e3⟩ := ends_cover (l[n % l.length]) (f + s * (n % l.length)) (s * l.length) (n / l.length) (h.2.mem (List.getElem_mem hm))
    refine ⟨e, ?_, ?_, n % l.length + l.length * a, l.length * b, ?_, ?_, ?_⟩
    · simp only [T.ends]
      exact endss_get l f s (s * l.length) _ _ e hx he
    · rw [ho]
      show _ = owns l (n % l.length) (n / l.length)
      rw [owns_get hx]
    · rw [e1, Nat.mul_add, Nat.mul_assoc, Nat.add_assoc]
    · rw [e2, Nat.mul_assoc]
    · rw [Nat.mod_mul, e3]
termination_by t => sizeOf t
decreasing_by
  have := List.sizeOf_lt_of_mem (List.getElem_mem hm)
  simp only [T.node.sizeOf_spec]
  omega
/-- the class of the item n -/
theorem cover1 {p : Str → Prop} {t : T} (ht : t.Ok p) (n : Nat) : ∃ e, e ∈ t.ends 0 1 ∧ e.2.2 = t.own n ∧ n % e.2.1 = e.1 := by
  obtain ⟨e, he, ho, a, b, e1, e2, e3⟩ := ends_cover t 0 1 n ht
  exact ⟨e, he, ho, by rw [e2, Nat.one_mul, e1, e3]; omega⟩
theorem in_class {t : T} {e : Nat × Nat × Str} (he : e ∈ t.ends 0 1) {n : Nat} (h : n % e.2.1 = e.1) : t.own n = e.2.2 := by
  obtain ⟨a, b, e1, e2, _, _, ho⟩ := ends_own t 0 1 e he
  have := ho (n / e.2.1)
  have e3 := Nat.mod_add_div n e.2.1
  rw [h] at e3
  have e4 : a + b * (n / e.2.1) = n := by
    have h1 : e.1 = a := by omega
    have h2 : e.2.1 = b := by omega
    rw [← h1, ← h2]; exact e3
  rw [e4] at this
  exact this
theorem ends_lt {t : T} {e : Nat × Nat × Str} (he : e ∈ t.ends 0 1) : e.1 < e.2.1 := by
  obtain ⟨a, b, e1, e2, _, h, _⟩ := ends_own t 0 1 e he
  omega
/-! ### meetings -/
def Hit (t u : T) (l r : Str) (n : Nat) : Prop := t.own n = l ∧ u.own n = r

/-! ### the steps of the ends are bounded -/
theorem endss_mem : ∀ (l : List T) (f s w : Nat) (e : Nat × Nat × Str), e ∈ endss l f s w → ∃ t, t ∈ l ∧ ∃ f', e ∈ t.ends f' w
  | [], f, s, w, e, h => by simp [endss] at h
  | t :: l, f, s, w, e, h => by
    simp only [endss, List.mem_append] at h
    rcases h with h | h
    · exact ⟨t, List.mem_cons_self .., f, h⟩
    · obtain ⟨u, hu, f', h'⟩ := endss_mem l (f + s) s w e h
      exact ⟨u, List.mem_cons_of_mem _ hu, f', h'⟩
theorem ends_stepb {p : Str → Prop} {n : Nat} : ∀ (t : T) (f s : Nat) (e : Nat × Nat × Str), t.Ok p → t.cnt ≤ n → e ∈ t.ends f s → e.2.1 ≤ s * n ^ t.lv
  | .leaf o, f, s, e, _, _, h => by
    have : e = (f, s, o) := by simpa [T.ends] using h
    subst this
    simp [T.lv]
  | .node l, f, s, e, ⟨h2, hl⟩, hc, h => by
    obtain ⟨u, hu, f', he⟩ := endss_mem l f s (s * l.length) e h
    have ih := ends_stepb u f' (s * l.length) e (hl.mem hu) (Nat.le_trans (cnts_mem hu) hc) he
    have hln : l.length ≤ n := Nat.le_trans (cnts_len hl) hc
    have hn : 0 < n := by omega
    show e.2.1 ≤ s * n ^ (1 + lvs l)
    have h1 : n ^ u.lv ≤ n ^ lvs l := Nat.pow_le_pow_right hn (lvs_mem hu)
    calc e.2.1 ≤ s * l.length * n ^ u.lv := ih
      _ ≤ s * n * n ^ lvs l := Nat.mul_le_mul (Nat.mul_le_mul_left s hln) h1
      _ = s * n ^ (1 + lvs l) := by rw [Nat.pow_add, Nat.pow_one, Nat.mul_assoc]
termination_by t => sizeOf t
decreasing_by
  have := List.sizeOf_lt_of_mem hu
  simp only [T.node.sizeOf_spec]
  omega
/-- .. as share and _law_width want it -/
theorem ends_steps {p : Str → Prop} {t : T} {n c : Nat} (ht : t.Ok p) (hc : t.cnt ≤ n) (h : n ^ t.lv < 2 ^ c) : ∀ e, e ∈ t.ends 0 1 → 0 < e.2.1 ∧ e.2.1 < 2 ^ c := fun e he => by
  have h1 := ends_stepb t 0 1 e ht hc he
  obtain ⟨a, b, _, e2, hb, _⟩ := ends_own t 0 1 e he
  exact ⟨by rw [e2]; omega, by omega⟩

end

section
variable {P : Program} {w : World} {K : PySem.W.Frag} {mg : Str → Option Value} {base : Heap}
/-! ### _law_wide_tree -/
def sp_wide : SpD := fun ds M Q _ => ∃ (p q : Addr) (zs : List Str), ds = [.ref p, .ref q] ∧ Bag M p ∧ q ≠ p ∧ M q = some (.lst (zs.map D.str)) ∧ 0 < zs.length ∧ zs.length ≤ 1000 ∧ ∀ (t : T) (M' : Mem), t.Ok (· ∈ zs) → t.lv ≤ 2 → t.cnt ≤ 400 → BagUp p M M' → Q t.enc M'
theorem ok_wide (a : At K mg "_law_wide_tree" s_law_wide_tree) (n_tuple : mg "tuple" = none) (n_range : mg "range" = none) (o_law_of : Ok P w K mg base "_law_of" s_law_of 3 ["_law_bag_here", "_law_things"] sp_of) : Ok P w K mg base "_law_wide_tree" s_law_wide_tree 6 ["_law_bag_here", "_law_pool"] sp_wide := by
  refine ok_of a sc_law_wide_tree _ rfl (fun ds M Q E ⟨p, q, zs, h, _⟩ => by rw [h]; rfl) fun f cd A outer s H E hr => ⟨_, (ss_cons (s_asg (d_call o_law_of bd_law_of (hr.mono (by omega)) xd_takes (a_cons (dv 0) (a_cons (d_lst (a_cons (d_tup (a_cons de_int (a_cons de_int a_nil))) (a_cons (d_tup (a_cons de_int (a_cons de_int a_nil))) (a_cons (d_tup (a_cons de_int (a_cons de_int a_nil))) (a_cons (d_tup (a_cons de_int (a_cons de_int a_nil))) (a_cons (d_tup (a_cons de_int (a_cons de_int a_nil))) a_nil)))))) a_nil))) (g_tup (n := 2) rfl (gs_cons (g_name 2 sc_law_wide_tree.nd) (gs_cons (g_name 3 sc_law_wide_tree.nd) gs_nil))))
  (ss_cons (s_if (t_cmp (c_eq hr) (dv 3) de_int) (ss_one (s_ret (d_tuple n_tuple (DL.q (l_lc (own := [("_law_k", 5)]) rfl sc_law_wide_tree.nd (i_r1 n_range (dv 2)) (blkOk_by (by show blkC ["_law_bag_here", "_law_pool", "_law_size", "_law_width", "_law_j", "_law_k"] (defScope s_law_wide_tree) _ _ = true; decide +kernel)) (fun _ _ _ _ _ => (cg_name 5 sc_law_wide_tree.nd)) (fun _ _ _ _ _ => pt_nil) (fun s1 H1 C1 cl1 fp1 => (d_call o_law_of bd_law_of (hr.mono (by omega)) takes0 (a_cons (dv 0) (a_cons (dv 1) a_nil))))))))) ss_nil)
  (ss_one (s_ret (d_tuple n_tuple (DL.q (l_lc (own := [("_law_j", 4)]) rfl sc_law_wide_tree.nd (i_r1 n_range (dv 2)) (blkOk_by (by show blkC ["_law_bag_here", "_law_pool", "_law_size", "_law_width", "_law_j", "_law_k"] (defScope s_law_wide_tree) _ _ = true; decide +kernel)) (fun _ _ _ _ _ => (cg_name 4 sc_law_wide_tree.nd)) (fun _ _ _ _ _ => pt_nil) (fun s1 H1 C1 cl1 fp1 => (d_tuple n_tuple (DL.q (l_lc (own := [("_law_k", 5)]) rfl sc_law_wide_tree.nd (i_r1 n_range (dv 3)) (blkOk_by (by first | rfl | (show blkC ["_law_bag_here", "_law_pool", "_law_size", "_law_width", "_law_j", "_law_k"] (defScope s_law_wide_tree) _ _ = true; decide +kernel))) (fun _ _ _ _ _ => (cg_name 5 sc_law_wide_tree.nd)) (fun _ _ _ _ _ => pt_nil) (fun s1 H1 C1 cl1 fp1 => (d_call o_law_of bd_law_of (hr.mono (by omega)) takes0 (a_cons (dv 0) (a_cons (dv 1) a_nil))))))))))))))), ?_⟩
  rintro ds M Q E ⟨p, q, zs, rfl, hB, hqp, hqm, hz0, hz1, hq⟩
  walk_at "go"
  intro p1 hp1
  walk_at "go"
  have hB1 := hB.new (o := .lst [D.tup [D.int 301, D.int 1], D.tup [D.int 397, D.int 1], D.tup [D.int 400, D.int 1], D.tup [D.int 19, D.int 21], D.tup [D.int 20, D.int 20]]) hp1
  refine ⟨p, _, _, rfl, hB1, .lst mupd_same (hB.ne hp1), by decide, by decide, fun d M2 hd t2 => ?_⟩
  have key : ∃ u v : Nat, d = D.tup [D.int u, D.int v] ∧ u ≤ 400 ∧ ((v = 1 ∧ 2 ≤ u) ∨ (2 ≤ v ∧ v ≤ 21 ∧ 2 ≤ u ∧ u ≤ 20 ∧ u * v ≤ 400)) := by
    simp only [List.mem_cons, List.not_mem_nil, or_false] at hd
    rcases hd with e | e | e | e | e
    · exact ⟨301, 1, e, by decide, by decide⟩
    · exact ⟨397, 1, e, by decide, by decide⟩
    · exact ⟨400, 1, e, by decide, by decide⟩
    · exact ⟨19, 21, e, by decide, by decide⟩
    · exact ⟨20, 20, e, by decide, by decide⟩
  obtain ⟨u, v, rfl, hu, huv⟩ := key
  have u2 : BagUp p M M2 := ((BagUp.refl hB).new hp1).trans t2.up
  walk_at "go"
  refine cndE (fun h => ?_) fun h => ?_ <;> walk_at "go"
  · refine ⟨by omega, by omega, ?_⟩
    refine lc_by (fun i acc M3 => BagUp p M M3 ∧ ∃ ts : List T, acc = encs ts ∧ ts.length = i ∧ ∀ t, t ∈ ts → t.Ok (· ∈ zs) ∧ t.lv ≤ 0 ∧ t.cnt ≤ 1) ⟨u2, [], rfl, rfl, fun t h => by cases h⟩ (fun _ _ _ _ _ => trivial) ?_ ?_
    · rintro i2 d2 acc2 M4 hd2 ⟨t4, ts, rfl, hl, hts⟩
      obtain ⟨hi2, rfl⟩ := rngD_of hd2
      walk_at "go"
      refine ⟨p, _, _, rfl, t4.bag, .lst (t4.fr _ _ hqp hqm) hqp, by rw [List.length_map]; exact hz0, by rw [List.length_map]; omega, fun d3 M5 hd3 t5 => ?_⟩
      obtain ⟨z, hz, rfl⟩ := List.mem_map.mp hd3
      refine ⟨Nat.lt_of_le_of_lt (show _ ≤ 1000 by rw [encs_map, List.length_map]; omega) (by decide), t4.trans t5.up, ts ++ [.leaf z], by rw [encs_map, encs_map, List.map_append]; rfl, by rw [List.length_append, hl]; rfl, fun x hx => ?_⟩
      rcases List.mem_append.mp hx with h5 | h5
      · exact hts x h5
      · have e5 : x = .leaf z := by simpa using h5
        subst e5
        exact ⟨hz, Nat.le_refl _, Nat.le_refl _⟩
    · rintro acc M3 ⟨t3, ts, rfl, hl, hts⟩
      rw [rngD_length] at hl
      have hl2 : ts.length = u := by omega
      walk_at "go"
      refine ⟨_, MLe.refl _, hq (.node ts) M3 ⟨by omega, .of fun x hx => (hts x hx).1⟩ ?_ ?_ t3⟩
      · have := lvs_le fun x hx => (hts x hx).2.1
        show 1 + lvs ts ≤ 2
        omega
      · have := cnts_all fun x hx => (hts x hx).2.2
        show cnts ts ≤ 400
        omega
  · have hv : 2 ≤ v ∧ v ≤ 21 ∧ 2 ≤ u ∧ u ≤ 20 ∧ u * v ≤ 400 := by
      rcases huv with ⟨e, _⟩ | e
      · exact absurd (by rw [e]; rfl) h
      · exact e
    obtain ⟨v1, v2, v3, v4, v5⟩ := hv
    refine ⟨by omega, by omega, ?_⟩
    refine lc_by (fun i acc M3 => BagUp p M M3 ∧ ∃ us : List T, acc = encs us ∧ us.length = i ∧ ∀ t, t ∈ us → t.Ok (· ∈ zs) ∧ t.lv ≤ 1 ∧ t.cnt ≤ v) ⟨u2, [], rfl, rfl, fun t h => by cases h⟩ (fun _ _ _ _ _ => trivial) ?_ ?_
    · rintro i d acc M3 hd ⟨t3, us, rfl, hul, hus⟩
      obtain ⟨hi, rfl⟩ := rngD_of hd
      walk_at "go"
      refine ⟨by omega, by omega, ?_⟩
      refine lc_by (fun i acc M3 => BagUp p M M3 ∧ ∃ ts : List T, acc = encs ts ∧ ts.length = i ∧ ∀ t, t ∈ ts → t.Ok (· ∈ zs) ∧ t.lv ≤ 0 ∧ t.cnt ≤ 1) ⟨t3, [], rfl, rfl, fun t h => by cases h⟩ (fun _ _ _ _ _ => trivial) ?_ ?_
      · rintro i2 d2 acc2 M4 hd2 ⟨t4, ts, rfl, hl, hts⟩
        obtain ⟨hi2, rfl⟩ := rngD_of hd2
        walk_at "go"
        refine ⟨p, _, _, rfl, t4.bag, .lst (t4.fr _ _ hqp hqm) hqp, by rw [List.length_map]; exact hz0, by rw [List.length_map]; omega, fun d3 M5 hd3 t5 => ?_⟩
        obtain ⟨z, hz, rfl⟩ := List.mem_map.mp hd3
        refine ⟨Nat.lt_of_le_of_lt (show _ ≤ 1000 by rw [encs_map, List.length_map]; omega) (by decide), t4.trans t5.up, ts ++ [.leaf z], by rw [encs_map, encs_map, List.map_append]; rfl, by rw [List.length_append, hl]; rfl, fun x hx => ?_⟩
        rcases List.mem_append.mp hx with h5 | h5
        · exact hts x h5
        · have e5 : x = .leaf z := by simpa using h5
          subst e5
          exact ⟨hz, Nat.le_refl _, Nat.le_refl _⟩
      · rintro acc2 M4 ⟨t4, ts, rfl, hl, hts⟩
        rw [rngD_length] at hl
        have hl2 : ts.length = v := by omega
        walk_at "go"
        refine ⟨Nat.lt_of_le_of_lt (show _ ≤ 1000 by rw [encs_map, List.length_map]; omega) (by decide), t4, us ++ [.node ts], by rw [encs_map us, encs_map (us ++ [T.node ts]), List.map_append]; rfl, by rw [List.length_append, hul]; rfl, fun x hx => ?_⟩
        rcases List.mem_append.mp hx with h5 | h5
        · exact hus x h5
        · have e5 : x = .node ts := by simpa using h5
          subst e5
          refine ⟨⟨by omega, .of fun y hy => (hts y hy).1⟩, ?_, ?_⟩
          · have := lvs_le fun y hy => (hts y hy).2.1
            show 1 + lvs ts ≤ 1
            omega
          · have := cnts_all fun y hy => (hts y hy).2.2
            show cnts ts ≤ v
            omega
    · rintro acc M3 ⟨t3, us, rfl, hul, hus⟩
      rw [rngD_length] at hul
      have hl2 : us.length = u := by omega
      walk_at "go"
      refine ⟨_, MLe.refl _, hq (.node us) M3 ⟨by omega, .of fun x hx => (hus x hx).1⟩ ?_ ?_ t3⟩
      · have := lvs_le fun x hx => (hus x hx).2.1
        show 1 + lvs us ≤ 2
        omega
      · have := cnts_all fun x hx => (hus x hx).2.2
        rw [hl2] at this
        exact Nat.le_trans this v5

end

section
variable {P : Program} {w : World} {K : PySem.W.Frag} {mg : Str → Option Value} {base : Heap}
/-! ### _law_deep_tree -/
/-- the chain; turns from the top down -/
def deepT : List Nat → T
  | [] => .node [.leaf "x", .leaf "y"]
  | j :: r => if j = 0 then .node [deepT r, .leaf "-"] else .node [.leaf "-", deepT r]
/-- the class of the lowest dealer -/
def deepC : List Nat → Nat → Nat → Nat × Nat
  | [], f, s => (f, s)
  | j :: r, f, s => deepC r (f + s * j) (s * 2)
theorem deepT_ok : ∀ R : List Nat, (deepT R).Ok fun _ => True
  | [] => ⟨by decide, trivial, trivial, trivial⟩
  | j :: r => by
    unfold deepT
    split
    · exact ⟨Nat.le_refl 2, deepT_ok r, trivial, trivial⟩
    · exact ⟨Nat.le_refl 2, trivial, deepT_ok r, trivial⟩
theorem deepT_lv : ∀ R : List Nat, (deepT R).lv = R.length + 1
  | [] => rfl
  | j :: r => by
    have ih := deepT_lv r
    unfold deepT
    split
    · show 1 + max (deepT r).lv (max 0 0) = r.length + 1 + 1
      rw [ih]; omega
    · show 1 + max 0 (max (deepT r).lv 0) = r.length + 1 + 1
      rw [ih]; omega
theorem deepT_cnt : ∀ R : List Nat, (deepT R).cnt = R.length + 2
  | [] => rfl
  | j :: r => by
    have ih := deepT_cnt r
    unfold deepT
    split
    · show (deepT r).cnt + (1 + 0) = r.length + 1 + 2
      rw [ih]
    · show 1 + ((deepT r).cnt + 0) = r.length + 1 + 2
      rw [ih]; omega
theorem deepC_bd : ∀ (R : List Nat) (f s : Nat), (∀ j, j ∈ R → j < 2) → f < s → (deepC R f s).2 = s * 2 ^ R.length ∧ (deepC R f s).1 < (deepC R f s).2
  | [], f, s, _, h => ⟨by simp [deepC], h⟩
  | j :: r, f, s, hj, h => by
    have h1 : j < 2 := hj j (List.mem_cons_self ..)
    have h2 : s * j ≤ s * 1 := Nat.mul_le_mul_left s (by omega)
    obtain ⟨e, l⟩ := deepC_bd r (f + s * j) (s * 2) (fun i hi => hj i (List.mem_cons_of_mem _ hi)) (by omega)
    exact ⟨by rw [deepC, e, List.length_cons, Nat.pow_succ, Nat.mul_assoc, Nat.mul_comm 2], l⟩
/-- the ends of the chain -/
theorem deepT_ends : ∀ (R : List Nat) (f s : Nat), (∀ j, j ∈ R → j < 2) → ∃ l1 l2 : List (Nat × Nat × Str), (deepT R).ends f s = l1 ++ ((deepC R f s).1, (deepC R f s).2 * 2, ("x" : Str)) :: ((deepC R f s).1 + (deepC R f s).2, (deepC R f s).2 * 2, ("y" : Str)) :: l2 ∧ (∀ e, e ∈ l1 → e.2.2 = "-") ∧ ∀ e, e ∈ l2 → e.2.2 = "-"
  | [], f, s, _ => ⟨[], [], rfl, (fun _ h => by cases h), fun _ h => by cases h⟩
  | j :: r, f, s, hj => by
    have h1 : j < 2 := hj j (List.mem_cons_self ..)
    have hr : ∀ i, i ∈ r → i < 2 := fun i hi => hj i (List.mem_cons_of_mem _ hi)
    unfold deepT
    split
    · rename_i e
      subst e
      obtain ⟨l1, l2, h, n1, n2⟩ := deepT_ends r f (s * 2) hr
      refine ⟨l1, l2 ++ [(f + s, s * 2, ("-" : Str))], ?_, n1, fun e he => ?_⟩
      · show (deepT r).ends f (s * 2) ++ ([(f + s, s * 2, ("-" : Str))] ++ []) = _
        rw [h]
        simp [deepC]
      · rcases List.mem_append.mp he with he | he
        · exact n2 e he
        · rw [List.mem_singleton.mp he]
    · rename_i e
      have e1 : j = 1 := by omega
      subst e1
      obtain ⟨l1, l2, h, n1, n2⟩ := deepT_ends r (f + s) (s * 2) hr
      refine ⟨(f, s * 2, ("-" : Str)) :: l1, l2, ?_, fun e he => ?_, n2⟩
      · show [(f, s * 2, ("-" : Str))] ++ ((deepT r).ends (f + s) (s * 2) ++ []) = _
        rw [h]
        simp [deepC]
      · rcases List.mem_cons.mp he with he | he
        · rw [he]
        · exact n1 e he
def sp_deep : SpD := fun ds M Q _ => ∃ (p : Addr) (h : Nat), ds = [.ref p, .int h] ∧ Bag M p ∧ 1 ≤ h ∧ h ≤ 60 ∧ ∀ (R : List Nat) (M' : Mem), R.length + 1 = h → (∀ j, j ∈ R → j < 2) → BagUp p M M' → Q (.tup [(deepT R).enc, .int (deepC R 0 1).1, .int (deepC R 0 1).2]) M'
theorem natD_get {js : List Nat} {i : Nat} {d : D} (h : (js.map fun (j : Nat) => D.int j)[i]? = some d) : ∃ j, js[i]? = some j ∧ d = .int j := by
  rw [List.getElem?_map] at h
  obtain ⟨j, e, rfl⟩ := Option.map_eq_some_iff.mp h
  exact ⟨j, e, rfl⟩
theorem ok_deep (a : At K mg "_law_deep_tree" s_law_deep_tree) (n_range : mg "range" = none) (o_law_pull : Ok P w K mg base "_law_pull" s_law_pull 2 ["_law_bag_here", "_law_amount"] sp_pull) : Ok P w K mg base "_law_deep_tree" s_law_deep_tree 5 ["_law_bag_here", "_law_high"] sp_deep := by
  refine ok_of a sc_law_deep_tree _ rfl (fun ds M Q E ⟨p, h, e, _⟩ => by rw [e]; rfl) fun f cd A outer s H E hr => ⟨_, (ss_cons (s_asg (d_tup (a_cons (d_tup (a_cons de_str (a_cons de_str a_nil))) (a_cons de_int (a_cons de_int a_nil)))) (g_tup (n := 3) rfl (gs_cons (g_name 2 sc_law_deep_tree.nd) (gs_cons (g_name 3 sc_law_deep_tree.nd) (gs_cons (g_name 4 sc_law_deep_tree.nd) gs_nil)))))
  (ss_cons (s_setLc (own := [("_law_k", 7)]) 5 rfl sc_law_deep_tree.nd (i_r1 n_range (d_sub (dv 1) de_int)) (blkOk_by (by show blkC ["_law_bag_here", "_law_high", "_law_tree_z", "_law_first", "_law_step", "_law_turns", "_law_turn", "_law_k"] (defScope s_law_deep_tree) _ _ = true; decide +kernel)) (fun _ _ _ _ _ => (cg_name 7 sc_law_deep_tree.nd)) (fun _ _ _ _ _ => pt_nil) (by exact (fun s1 H1 C1 cl1 fp1 => (d_call o_law_pull bd_law_pull (hr.mono (by omega)) takes0 (a_cons (dv 0) (a_cons de_int a_nil))))) (sw_true rfl rfl rfl (by decide +kernel)))
  (ss_cons (s_for xd_owns rfl (i_any (dv 5)) (g_name 6 sc_law_deep_tree.nd) (ss_one (s_set 2 sc_law_deep_tree.nd (d_if (t_cmp (c_eq hr) (dv 6) de_int) (d_tup (a_cons (dv 2) (a_cons de_str a_nil))) (d_tup (a_cons de_str (a_cons (dv 2) a_nil)))))))
  (ss_cons (s_for xd_owns rfl (i_l (l_rev (dv 5) (o_some (d_neg de_int)))) (g_name 6 sc_law_deep_tree.nd) (ss_one (s_par 3 4 rfl sc_law_deep_tree.nd (a_cons (d_add (dv 3) (d_mul (dv 4) (dv 6))) (a_cons (d_mul (dv 4) de_int) a_nil)))))
  (ss_one (s_ret (d_tup (a_cons (dv 2) (a_cons (dv 3) (a_cons (dv 4) a_nil)))))))))), ?_⟩
  rintro ds M Q E ⟨p, h, rfl, hB, hh1, hh2, hq⟩
  walk_at "go"
  refine ⟨by omega, by omega, ?_⟩
  refine lc_by (fun i acc M1 => BagUp p M M1 ∧ ∃ js : List Nat, acc = js.map (fun (j : Nat) => D.int j) ∧ js.length = i ∧ ∀ j, j ∈ js → j < 2) ⟨BagUp.refl hB, [], rfl, rfl, fun _ h => by cases h⟩ (fun _ _ _ _ _ => trivial) ?_ ?_
  · rintro i d acc M1 hd ⟨t1, js, rfl, hl, hj⟩
    obtain ⟨hi, rfl⟩ := rngD_of hd
    walk_at "go"
    refine ⟨p, _, rfl, t1.bag, by omega, by omega, fun v M2 hv0 hv1 t2 => ?_⟩
    obtain ⟨k, rfl⟩ := Int.eq_ofNat_of_zero_le hv0
    refine ⟨Nat.lt_of_le_of_lt (show _ ≤ 1000 by rw [List.length_map]; omega) (by decide), t1.trans t2.up, js ++ [k], by rw [List.map_append]; rfl, by rw [List.length_append, hl]; rfl, fun j hj2 => ?_⟩
    rcases List.mem_append.mp hj2 with h3 | h3
    · exact hj j h3
    · rw [List.mem_singleton.mp h3]; omega
  · rintro acc M1 ⟨t1, js, rfl, hl, hj⟩
    rw [rngD_length] at hl
    have hjl : js.length + 1 = h := by omega
    walk_at "go"
    intro q hqn
    walk_at "go"
    have hm : mupd M1 q (.lst (js.map fun (j : Nat) => D.int j)) q = some (.lst (js.map fun (j : Nat) => D.int j)) := mupd_same
    refine it_l hm ?_
    refine for_by (fun i ρ M2 => M2 = mupd M1 q (.lst (js.map fun (j : Nat) => D.int j)) ∧ ∃ x6 x7 : Option D, ρ = [some (.ref p), some (.int h), some (deepT (js.take i).reverse).enc, some (.int 0), some (.int 1), some (.ref q), x6, x7]) ⟨rfl, _, _, rfl⟩ (fun i ρ M2 _ ⟨h, _⟩ => by subst h; exact hm) ?_ ?_
    · rintro i d ρ M2 hd ⟨rfl, x6, x7, rfl⟩
      obtain ⟨j, hji, rfl⟩ := natD_get hd
      have e : (js.take (i + 1)).reverse = j :: (js.take i).reverse := by rw [take_succ_of hji]; simp
      walk_at "go"
      refine cndE (fun hz => ?_) fun hz => ?_ <;> walk_at "go"
      · refine ⟨rfl, some (.int j), x7, ?_⟩
        have hz : j = 0 := by omega
        rw [e, deepT, if_pos hz]; rfl
      · refine ⟨rfl, some (.int j), x7, ?_⟩
        have hz : ¬ j = 0 := by omega
        rw [e, deepT, if_neg hz]; rfl
    · rintro ρ M2 ⟨rfl, x6, x7, rfl⟩
      rw [List.length_map, List.take_length]
      walk_at "go"
      refine ⟨rfl, ?_⟩
      walk_at "go"
      rw [← List.map_reverse]
      have hjr : ∀ j, j ∈ js.reverse → j < 2 := fun j hj2 => hj j (List.mem_reverse.mp hj2)
      generalize hR : js.reverse = R at hjr ⊢
      have hRl : R.length = js.length := by rw [← hR]; simp
      refine for_by (fun i ρ M2 => M2 = mupd M1 q (.lst (js.map fun (j : Nat) => D.int j)) ∧ ∃ (f s : Nat) (x6 x7 : Option D), ρ = [some (.ref p), some (.int h), some (deepT R).enc, some (.int f), some (.int s), some (.ref q), x6, x7] ∧ f < s ∧ s = 2 ^ i ∧ deepC (R.drop i) f s = deepC R 0 1) ⟨rfl, 0, 1, _, _, rfl, by decide, rfl, rfl⟩ (fun _ _ _ _ _ => trivial) ?_ ?_
      · rintro i d ρ M2 hd ⟨rfl, f, s, x6, x7, rfl, hfs, hs, hc⟩
        obtain ⟨j, hji, rfl⟩ := natD_get hd
        have hj2 : j < 2 := hjr j (List.mem_of_getElem? hji)
        obtain ⟨hi, hei⟩ := List.getElem?_eq_some_iff.mp hji
        have hd2 : R.drop i = j :: R.drop (i + 1) := by rw [List.drop_eq_getElem_cons hi, hei]
        rw [hd2] at hc
        have hsb : s < 2 ^ 61 := by rw [hs]; exact Nat.pow_lt_pow_right (by decide) (by omega)
        have g1 : Big (s : Int) := big_of (n := 61) hsb (by decide)
        have g2 : Big (j : Int) := .of200 (by omega) (by omega)
        walk_at "go"
        refine ⟨rfl, f + s * j, s * 2, _, _, by push_cast; rfl, ?_, by rw [hs, Nat.pow_succ], hc⟩
        have := Nat.mul_le_mul_left s (show j ≤ 1 by omega)
        omega
      · rintro ρ M2 ⟨rfl, f, s, x6, x7, rfl, hfs, hs, hc⟩
        rw [List.length_map, List.drop_length] at hc
        walk_at "go"
        refine ⟨_, MLe.refl _, ?_⟩
        have := hq R (mupd M1 q (.lst (js.map fun (j : Nat) => D.int j))) (by omega) hjr (t1.new hqn)
        rw [← hc] at this
        exact this

end

section
variable {P : Program} {w : World} {K : PySem.W.Frag} {mg : Str → Option Value} {base : Heap}
/-! ### how many of the first items an owner gets -/
def occ (t : T) (z : Str) : Nat → Nat
  | 0 => 0
  | N + 1 => occ t z N + if t.own N = z then 1 else 0
theorem occ_le (t : T) (z : Str) : ∀ N, occ t z N ≤ N
  | 0 => Nat.le_refl _
  | N + 1 => by
    have := occ_le t z N
    unfold occ
    split <;> omega
theorem occ_mono (t : T) (z : Str) : ∀ {N N' : Nat}, N ≤ N' → occ t z N ≤ occ t z N'
  | N, N', h => by
    induction N' with
    | zero => have : N = 0 := by omega
              subst this; exact Nat.le_refl _
    | succ k ih =>
      by_cases e : N = k + 1
      · subst e; exact Nat.le_refl _
      · exact Nat.le_trans (ih (by omega)) (by rw [occ]; omega)
def clsN (f s N : Nat) : Nat := if f < N then (N - f - 1) / s + 1 else 0
theorem clsN_succ {f s N : Nat} (hf : f < s) : clsN f s (N + 1) = clsN f s N + if N % s = f then 1 else 0 := by
  unfold clsN
  by_cases h1 : N < f
  · rw [if_neg (by omega), if_neg (by omega), if_neg (by rw [Nat.mod_eq_of_lt (by omega)]; omega)]
  · by_cases h2 : N = f
    · subst h2
      rw [if_pos (by omega), if_neg (by omega), if_pos (Nat.mod_eq_of_lt hf), show N + 1 - N - 1 = 0 by omega, Nat.zero_div]
    · have e : N + 1 - f - 1 = (N - f - 1) + 1 := by omega
      rw [if_pos (by omega), if_pos (by omega), e, Nat.succ_div]
      have e2 : N - f - 1 + 1 = N - f := by omega
      rw [e2]
      have key : s ∣ N - f ↔ N % s = f := by
        constructor
        · rintro ⟨k, hk⟩
          have : N = f + s * k := by omega
          rw [this, Nat.add_mul_mod_self_left, Nat.mod_eq_of_lt hf]
        · intro h
          have h3 := Nat.mod_add_div N s
          exact ⟨N / s, by omega⟩
      by_cases h3 : N % s = f
      · rw [if_pos h3, if_pos (key.mpr h3)]
      · rw [if_neg h3, if_neg fun h => h3 (key.mp h)]
def hitE (z : Str) (i : Nat) : List (Nat × Nat × Str) → Nat
  | [] => 0
  | e :: r => (if e.2.2 = z ∧ i % e.2.1 = e.1 then 1 else 0) + hitE z i r
def cntE (z : Str) (N : Nat) : List (Nat × Nat × Str) → Nat
  | [] => 0
  | e :: r => (if e.2.2 = z then clsN e.1 e.2.1 N else 0) + cntE z N r
theorem hitE_app (z : Str) (i : Nat) : ∀ a b : List (Nat × Nat × Str), hitE z i (a ++ b) = hitE z i a + hitE z i b
  | [], b => (Nat.zero_add _).symm
  | e :: a, b => by
    show _ + hitE z i (a ++ b) = _ + hitE z i a + hitE z i b
    rw [hitE_app z i a b, Nat.add_assoc]
theorem cntE_succ {z : Str} {N : Nat} : ∀ {l : List (Nat × Nat × Str)}, (∀ e, e ∈ l → e.1 < e.2.1) → cntE z (N + 1) l = cntE z N l + hitE z N l
  | [], _ => rfl
  | e :: r, h => by
    have h1 := h e List.mem_cons_self
    have ih := cntE_succ (z := z) (N := N) (l := r) fun u hu => h u (List.mem_cons_of_mem _ hu)
    show (if e.2.2 = z then clsN e.1 e.2.1 (N + 1) else 0) + cntE z (N + 1) r = (if e.2.2 = z then clsN e.1 e.2.1 N else 0) + cntE z N r + ((if e.2.2 = z ∧ N % e.2.1 = e.1 then 1 else 0) + hitE z N r)
    rw [ih]
    by_cases hz : e.2.2 = z
    · rw [if_pos hz, if_pos hz, clsN_succ h1]
      by_cases hm : N % e.2.1 = e.1
      · rw [if_pos hm, if_pos ⟨hz, hm⟩]; omega
      · rw [if_neg hm, if_neg fun h => hm h.2]; omega
    · rw [if_neg hz, if_neg hz, if_neg fun h => hz h.1]; omega
mutual
theorem hit_ends {p : Str → Prop} {z : Str} {i : Nat} : ∀ (t : T) (f s : Nat), t.Ok p → f < s → hitE z i (t.ends f s) = if i % s = f then (if t.own (i / s) = z then 1 else 0) else 0
  | .leaf o, f, s, _, hf => by
    show (if o = z ∧ i % s = f then 1 else 0) + 0 = if i % s = f then (if o = z then 1 else 0) else 0
    by_cases h1 : i % s = f
    · rw [if_pos h1]
      by_cases h2 : o = z
      · rw [if_pos ⟨h2, h1⟩, if_pos h2]
      · rw [if_neg fun h => h2 h.1, if_neg h2]
    · rw [if_neg fun h => h1 h.2, if_neg h1]
  | .node l, f, s, ht, hf => by
    have h0 := hit_endss (z := z) (i := i) l f s l.length 0 ht.2 hf (by omega)
    rw [Nat.mul_zero, Nat.add_zero, Nat.zero_add, Nat.sub_zero] at h0
    show hitE z i (endss l f s (s * l.length)) = _
    rw [h0]
    have hn : 0 < l.length := by have := ht.1; omega
    have hm := Nat.mod_lt (i / s) hn
    by_cases h1 : i % s = f
    · rw [if_pos ⟨h1, Nat.zero_le _, hm⟩, if_pos h1]
      rfl
    · rw [if_neg fun h => h1 h.1, if_neg h1]
theorem hit_endss {p : Str → Prop} {z : Str} {i : Nat} : ∀ (l : List T) (f s n k : Nat), Oks p l → f < s → k + l.length ≤ n → hitE z i (endss l (f + s * k) s (s * n)) = if i % s = f ∧ k ≤ (i / s) % n ∧ (i / s) % n < k + l.length then (if owns l ((i / s) % n - k) (i / s / n) = z then 1 else 0) else 0
  | [], f, s, n, k, _, hf, hk => by
    show 0 = _
    rw [if_neg]
    rintro ⟨_, h1, h2⟩
    rw [List.length_nil] at h2
    omega
  | t :: l, f, s, n, k, ht, hf, hk => by
    rw [List.length_cons] at hk
    have hs : 0 < s := by omega
    have hlt : f + s * k < s * n := by
      have h1 : s * (k + 1) ≤ s * n := Nat.mul_le_mul_left s (by omega)
      rw [Nat.mul_succ] at h1
      omega
    have h1 := hit_ends (z := z) (i := i) t (f + s * k) (s * n) ht.1 hlt
    have h2 := hit_endss (z := z) (i := i) l f s n (k + 1) ht.2 hf (by omega)
    show hitE z i (t.ends (f + s * k) (s * n) ++ endss l (f + s * k + s) s (s * n)) = _
    rw [hitE_app, h1, show f + s * k + s = f + s * (k + 1) by rw [Nat.mul_succ, Nat.add_assoc], h2]
    have key : i % (s * n) = f + s * k ↔ i % s = f ∧ (i / s) % n = k := by
      have e := Nat.mod_mul (x := i) (a := s) (b := n)
      rw [e]
      have hm := Nat.mod_lt i hs
      constructor
      · intro h
        have h3 : (i % s + s * (i / s % n)) % s = (f + s * k) % s := by rw [h]
        rw [Nat.add_mul_mod_self_left, Nat.add_mul_mod_self_left, Nat.mod_eq_of_lt hm, Nat.mod_eq_of_lt hf] at h3
        refine ⟨h3, ?_⟩
        rw [h3] at h
        exact Nat.eq_of_mul_eq_mul_left hs (by omega)
      · rintro ⟨a, b⟩; rw [a, b]
    have hd : i / (s * n) = i / s / n := (Nat.div_div_eq_div_mul i s n).symm
    rw [hd]
    generalize hj : i / s / n = v at *
    generalize hu : (i / s) % n = u at *
    by_cases g1 : i % s = f
    · by_cases g2 : u = k
      · rw [if_pos (key.mpr ⟨g1, g2⟩), if_neg (c := i % s = f ∧ k + 1 ≤ u ∧ u < k + 1 + l.length) (fun h => by have := h.2.1; omega), if_pos (c := i % s = f ∧ k ≤ u ∧ u < k + (t :: l).length) ⟨g1, by omega, by rw [List.length_cons]; omega⟩, Nat.add_zero, g2, Nat.sub_self]
        rfl
      · rw [if_neg (c := i % (s * n) = f + s * k) (fun h => g2 (key.mp h).2), Nat.zero_add]
        by_cases g3 : k + 1 ≤ u ∧ u < k + 1 + l.length
        · rw [if_pos (c := i % s = f ∧ k + 1 ≤ u ∧ u < k + 1 + l.length) ⟨g1, g3⟩, if_pos (c := i % s = f ∧ k ≤ u ∧ u < k + (t :: l).length) ⟨g1, by omega, by rw [List.length_cons]; omega⟩]
          obtain ⟨m, hm⟩ : ∃ m, u - k = m + 1 := ⟨u - k - 1, by omega⟩
          rw [hm, show u - (k + 1) = m by omega]
          rfl
        · rw [if_neg (c := i % s = f ∧ k + 1 ≤ u ∧ u < k + 1 + l.length) (fun h => g3 h.2), if_neg (c := i % s = f ∧ k ≤ u ∧ u < k + (t :: l).length) fun h => g3 ⟨by have := h.2.1; omega, by have := h.2.2; rw [List.length_cons] at this; omega⟩]
    · rw [if_neg (c := i % (s * n) = f + s * k) (fun h => g1 (key.mp h).1), if_neg (c := i % s = f ∧ k + 1 ≤ u ∧ u < k + 1 + l.length) (fun h => g1 h.1), if_neg (c := i % s = f ∧ k ≤ u ∧ u < k + (t :: l).length) fun h => g1 h.1]
end
theorem cnt_occ {p : Str → Prop} {t : T} {z : Str} (ht : t.Ok p) : ∀ N, cntE z N (t.ends 0 1) = occ t z N
  | 0 => by
    have : ∀ l : List (Nat × Nat × Str), cntE z 0 l = 0 := fun l => by
      induction l with
      | nil => rfl
      | cons e r ih =>
        show (if e.2.2 = z then clsN e.1 e.2.1 0 else 0) + cntE z 0 r = 0
        rw [ih]
        unfold clsN
        rw [if_neg (show ¬ e.1 < 0 from Nat.not_lt_zero _)]
        simp
    exact this _
  | N + 1 => by
    rw [cntE_succ fun e he => ends_lt he, cnt_occ ht N, hit_ends (p := p) t 0 1 ht (by decide), if_pos (Nat.mod_one _), Nat.div_one]
    rfl
/-- all owners together -/
theorem occ_sum {t : T} {N : Nat} (ys : List Str) (nd : ys.Nodup) (hm : ∀ j, t.own j ∈ ys) : (ys.map fun z => occ t z N).sum = N := by
  induction N with
  | zero => 
    have : ∀ l : List Str, (l.map fun z => occ t z 0).sum = 0 := fun l => by
      induction l with
      | nil => rfl
      | cons a l ih => rw [List.map_cons, List.sum_cons, ih]; rfl
    exact this ys
  | succ N ih =>
    have key : ∀ l : List Str, l.Nodup → (l.map fun z => occ t z (N + 1)).sum = (l.map fun z => occ t z N).sum + if t.own N ∈ l then 1 else 0 := fun l hn => by
      induction l with
      | nil => rfl
      | cons a l ih2 =>
        obtain ⟨n1, n2⟩ := List.nodup_cons.mp hn
        rw [List.map_cons, List.sum_cons, List.map_cons, List.sum_cons, ih2 n2, occ]
        by_cases h1 : t.own N = a
        · rw [if_pos (c := t.own N = a) h1, if_pos (c := t.own N ∈ a :: l) (by rw [h1]; exact List.mem_cons_self), if_neg (c := t.own N ∈ l) (by rw [h1]; exact n1)]; omega
        · rw [if_neg (c := t.own N = a) h1]
          by_cases h2 : t.own N ∈ l
          · rw [if_pos (c := t.own N ∈ l) h2, if_pos (c := t.own N ∈ a :: l) (List.mem_cons_of_mem _ h2)]; omega
          · rw [if_neg (c := t.own N ∈ l) h2, if_neg (c := t.own N ∈ a :: l) (by rintro h; rcases List.mem_cons.mp h with h | h <;> contradiction)]; omega
    rw [key ys nd, ih, if_pos (hm N)]
/-- the item that an owner gets after some others -/
theorem occ_uniq {t : T} {z : Str} {x y : Nat} (hx : t.own x = z) (hy : t.own y = z) (h : occ t z x = occ t z y) : x = y := by
  rcases Nat.lt_trichotomy x y with g | g | g
  · have h1 := occ_mono t z (show x + 1 ≤ y by omega)
    rw [occ, if_pos hx] at h1; omega
  · exact g
  · have h1 := occ_mono t z (show y + 1 ≤ x by omega)
    rw [occ, if_pos hy] at h1; omega
theorem clsN_le {f s N : Nat} : clsN f s N ≤ N := by
  unfold clsN
  split
  · have := Nat.div_le_self (N - f - 1) s
    omega
  · exact Nat.zero_le _
theorem cntE_app (z : Str) (N : Nat) : ∀ a b : List (Nat × Nat × Str), cntE z N (a ++ b) = cntE z N a + cntE z N b
  | [], b => (Nat.zero_add _).symm
  | e :: a, b => by
    show _ + cntE z N (a ++ b) = _ + cntE z N a + cntE z N b
    rw [cntE_app z N a b, Nat.add_assoc]
theorem cntE_le (z : Str) (N : Nat) : ∀ a : List (Nat × Nat × Str), cntE z N a ≤ a.length * N
  | [] => Nat.zero_le _
  | e :: a => by
    have h1 := cntE_le z N a
    have h2 := clsN_le (f := e.1) (s := e.2.1) (N := N)
    rw [List.length_cons, Nat.succ_mul]
    show (if e.2.2 = z then clsN e.1 e.2.1 N else 0) + cntE z N a ≤ _
    split <;> omega
def sp_count (n : Nat) : SpD := fun ds M Q _ => ∃ (t : T) (z : Str) (N : Int) (p : Str → Prop), ds = [t.enc, .str z, .int N] ∧ t.lv < n ∧ t.lv ≤ 45 ∧ t.Ok p ∧ t.cnt ≤ 400 ∧ N.natAbs < 2 ^ 5000 ∧ Q (.int (occ t z N.toNat : Nat)) M
theorem ok_count {n : Nat} (a : At K mg "count" s_count) (ae : XG.AtG K mg "ends" s_ends 0 1) (n_isinstance : mg "isinstance" = none) (n_str : mg "str" = none) (n_len : mg "len" = none) (n_enumerate : mg "enumerate" = none) :
    XG.OkX P w K mg base "count" s_count (3 * n + 4) ["tree", "owner", "items"] (sp_count n) := by
  obtain ⟨fe, cde, fde, gd_ends, gb_ends_1⟩ := gd_ends ae
  have fr_ends := fr_ends (P := P) (w := w) (base := base) gd_ends n_isinstance n_str n_len n_enumerate n
  refine XG.okx_of a sc_count _ rfl (fun ds M Q E ⟨t, z, N, p, h, _⟩ => by rw [h]; rfl) fun f cd A outer s H hr => ⟨_, (ssx_cons (sx blindF (s_set 3 sc_count.nd de_int))
  (ssx_cons (sx_for rfl blindF (hr.mono (by omega)) (XG.GOk.mk gd_ends fr_ends) gb_ends_1 (ax_cons (dx blindF (dv 0)) ax_nil) (g_tup (n := 3) rfl (gs_cons (g_name 4 sc_count.nd) (gs_cons (g_name 5 sc_count.nd) (gs_cons (g_name 6 sc_count.nd) gs_nil)))) (ssx blindF (ss_one (s_if (DW.t (w_and (t_cmp (c_eq hr) (dv 6) (dv 1)) (w_and1 (t_cmp c_gt (dv 2) (dv 4))))) (ss_one (s_augAdd 3 sc_count.nd (d_add (d_fdiv (d_sub (d_sub (dv 2) (dv 4)) de_int) (dv 5)) de_int))) ss_nil))))
  (ssx blindF (ss_one (s_ret (dv 3)))))), ?_⟩
  rintro ds M Q E ⟨t, z, N, p, rfl, hn, hl, ht, hc, hN, hq⟩
  have hst := ends_steps (c := 400) ht hc (Nat.lt_of_le_of_lt (Nat.pow_le_pow_right (by decide) hl) (by decide +kernel))
  have gN : Big N := big_of hN
  rw [← cnt_occ ht] at hq
  walk_at "go"
  refine ⟨(t.ends 0 1).map endD, ⟨t, 0, 1, 1, p, rfl, hn, ht, by omega, ⟨by decide, by decide, by omega⟩, rfl⟩, XG.forG_by (fun i ρ M1 => M1 = M ∧ ∃ (c : Nat) (x4 x5 x6 : Option D), ρ = [some t.enc, some (.str z), some (.int N), some (.int c), x4, x5, x6] ∧ c = cntE z N.toNat ((t.ends 0 1).take i)) ⟨rfl, 0, none, none, none, rfl, rfl⟩ ?_ ?_⟩
  · rintro i d ρ M1 hd ⟨rfl, c, x4, x5, x6, rfl, hcc⟩
    rw [List.getElem?_map] at hd
    obtain ⟨e, he, rfl⟩ := Option.map_eq_some_iff.mp hd
    obtain ⟨hi, hei⟩ := List.getElem?_eq_some_iff.mp he
    have hil : i < t.cnt := by rw [← ends_len t 0 1]; exact hi
    obtain ⟨hs0, hsc⟩ := hst e (List.mem_of_getElem? he)
    have hlt := ends_lt (List.mem_of_getElem? he)
    have hcle : c ≤ 400 * N.toNat := by
      rw [hcc]
      refine Nat.le_trans (cntE_le ..) (Nat.mul_le_mul_right _ (Nat.le_trans (List.length_take_le ..) (by omega)))
    have gS : DivOk (e.2.1 : Int) := ⟨by omega, Nat.lt_of_lt_of_le (show e.2.1 < 2 ^ 400 from hsc) (Nat.pow_le_pow_right (by decide) (by decide))⟩
    have gF : Big (e.1 : Int) := big_of (n := 400) (by show e.1 < _; omega)
    have gC : Big (c : Int) := big_of (n := 5009) (by
      show c < _
      have h2 : (2 : Nat) ^ 5009 = 512 * 2 ^ 5000 := by decide +kernel
      have : N.toNat ≤ N.natAbs := by omega
      omega)
    have hcn : cntE z N.toNat ((t.ends 0 1).take (i + 1)) = c + if e.2.2 = z then clsN e.1 e.2.1 N.toNat else 0 := by
      rw [take_succ_of he, cntE_app, ← hcc]; rfl
    have hlb : (2 : Nat) ^ 130 ≤ 2 ^ 5000 := Nat.pow_le_pow_right (by decide) (by decide)
    have h51 : (2 : Nat) ^ 5001 = 2 * 2 ^ 5000 := by rw [Nat.pow_succ]; omega
    have h52 : (2 : Nat) ^ 5002 = 4 * 2 ^ 5000 := by rw [Nat.pow_succ, Nat.pow_succ]; omega
    have gN1 : Big (N - e.1) := big_of (n := 5001) (by omega)
    have gN2 : Big (N - e.1 - 1) := big_of (n := 5002) (by omega)
    walk_at "go"
    refine cndI (fun h => ?_) fun h => ?_
    · have hez : e.2.2 = z := by simpa using h
      rw [if_pos hez] at hcn
      walk_at "go"
      refine cndI (fun h => ?_) fun h => ?_
      · have hgt : (e.1 : Int) < N := by simpa using h
        walk_at "go"
        have hv : (N - e.1 - 1) / (e.2.1 : Int) + 1 = (clsN e.1 e.2.1 N.toNat : Nat) := by
          unfold clsN
          rw [if_pos (by omega)]
          have : N - e.1 - 1 = ((N.toNat - e.1 - 1 : Nat) : Int) := by omega
          rw [this]; push_cast; rfl
        have hcl := clsN_le (f := e.1) (s := e.2.1) (N := N.toNat)
        first | (refine fdiv_i gS ?_; walk_at "go") | skip
        rw [hv]
        exact ⟨rfl, c + clsN e.1 e.2.1 N.toNat, _, _, _, by push_cast; rfl, hcn.symm⟩
      · have hgt : ¬ (e.1 : Int) < N := by simpa using h
        walk_at "go"
        refine ⟨rfl, c, _, _, _, rfl, ?_⟩
        rw [hcn]; unfold clsN; rw [if_neg (by omega)]; rfl
    · have hez : ¬ e.2.2 = z := by simpa using h
      rw [if_neg hez] at hcn
      walk_at "go"
      exact ⟨rfl, c, _, _, _, rfl, hcn.symm⟩
  · rintro ρ M1 ⟨rfl, c, x4, x5, x6, rfl, hcc⟩
    rw [List.length_map, List.take_length] at hcc
    subst hcc
    walk_at "go"
    exact ⟨_, MLe.refl _, hq⟩

/-! ### counts, plainly -/
theorem occ_ahead {p : Str → Prop} {t : T} {z : Str} (ht : t.Ok p) (f : Nat) : ∀ m, occ (t.evr f 1) z m + occ t z f = occ t z (f + m)
  | 0 => Nat.zero_add _
  | m + 1 => by
    have h := occ_ahead (z := z) ht f m
    rw [occ, ← Nat.add_assoc f m 1, occ, ← h, own_evr t f 1 m ht (by decide), Nat.one_mul]
    omega
theorem occ_both {p : Str → Prop} {t : T} {z : Str} (ht : t.Ok p) : ∀ m, occ (t.evr 0 2) z m + occ (t.evr 1 2) z m = occ t z (2 * m)
  | 0 => rfl
  | m + 1 => by
    have h := occ_both (z := z) ht m
    rw [occ, occ, Nat.mul_succ, occ, occ, ← h, own_evr t 0 2 m ht (by decide), own_evr t 1 2 m ht (by decide), Nat.zero_add, Nat.add_comm 1]
    omega
mutual
theorem ends_in {p : Str → Prop} : ∀ (t : T) (f s : Nat) (e : Nat × Nat × Str), t.Ok p → e ∈ t.ends f s → p e.2.2
  | .leaf o, f, s, e, ht, h => by
    have : e = (f, s, o) := by simpa [T.ends] using h
    subst this
    exact ht
  | .node l, f, s, e, ht, h => endss_in l f s (s * l.length) e ht.2 h
theorem endss_in {p : Str → Prop} : ∀ (l : List T) (f s w : Nat) (e : Nat × Nat × Str), Oks p l → e ∈ endss l f s w → p e.2.2
  | [], f, s, w, e, _, h => by cases h
  | t :: l, f, s, w, e, ht, h => by
    rcases List.mem_append.mp (show e ∈ t.ends f w ++ endss l (f + s) s w from h) with h | h
    · exact ends_in t f w e ht.1 h
    · exact endss_in l (f + s) s w e ht.2 h
end
theorem own_in {p : Str → Prop} (t : T) (ht : t.Ok p) (j : Nat) : p (t.own j) := by
  obtain ⟨e, he, ho, _⟩ := cover1 ht j
  rw [← ho]
  exact ends_in t 0 1 e ht he
theorem Bag.leX {M M' : Mem} {p : Addr} (h : Bag M p) (l : MLe M M') : Bag M' p := by
  obtain ⟨a, cells, i, big, salt, h1, h2, h3, h4⟩ := h.ex
  exact ⟨a, cells, i, big, salt, l _ _ h1, l _ _ h2, h3, h4⟩
theorem occ_sum_le {t : T} {W : Nat} : ∀ l : List Str, (l.map fun z => occ t z W).sum ≤ l.length * W
  | [] => Nat.zero_le _
  | z :: l => by
    rw [List.map_cons, List.sum_cons, List.length_cons, Nat.succ_mul]
    have := occ_sum_le (t := t) (W := W) l
    have := occ_le t z W
    omega
theorem big_i {k : Nat} {n : Nat} (h : k < 2 ^ n) (hn : n ≤ 400000 := by decide) : Big (k : Int) := big_of (n := n) h hn
theorem BagUp.of_le {M M' : Mem} {p : Addr} (h : Bag M p) (l : MLe M M') : BagUp p M M' := h.leU l
theorem big_m {x y a b : Nat} (hx : x < 2 ^ a) (hy : y < 2 ^ b) (hn : a + b ≤ 400000 := by decide) : Big ((x : Int) * (y : Int)) := by
  refine big_of (n := a + b) ?_ hn
  rw [← Int.natCast_mul, Nat.pow_add]
  exact Nat.mul_lt_mul'' hx hy

theorem clsN_law {f s N : Nat} (hs : 0 < s) (h : f < N) : (N - f + s - 1) / s = clsN f s N := by
  unfold clsN
  rw [if_pos h, show N - f + s - 1 = (N - f - 1) + s by omega, Nat.add_div_right _ hs]
theorem ok_lcount {n : Nat} (a : At K mg "_law_count" s_law_count) (o_law_ends : Ok P w K mg base "_law_ends" s_law_ends (n + 1) ["_law_tree_z", "_law_first", "_law_step"] (sp_lends n)) :
    Ok P w K mg base "_law_count" s_law_count (n + 2) ["_law_tree_z", "_law_owner_z", "_law_items_z"] (sp_count n) := by
  refine ok_of a sc_law_count _ rfl (fun ds M Q E ⟨t, z, N, p, h, _⟩ => by rw [h]; rfl) fun f cd A outer s H E hr => ⟨_, (ss_cons (s_set 3 sc_law_count.nd de_int)
  (ss_cons (s_for xd_owns rfl (i_any (d_call o_law_ends bd_law_ends (hr.mono (by omega)) xd_takes (a_cons (dv 0) (a_cons de_int (a_cons de_int a_nil))))) (g_tup (n := 3) rfl (gs_cons (g_name 4 sc_law_count.nd) (gs_cons (g_name 5 sc_law_count.nd) (gs_cons (g_name 6 sc_law_count.nd) gs_nil)))) (ss_one (s_if (DW.t (w_and (t_cmp (c_eq hr) (dv 6) (dv 1)) (w_and1 (t_cmp c_gt (dv 2) (dv 4))))) (ss_one (s_set 3 sc_law_count.nd (d_add (dv 3) (d_fdiv (d_sub (d_add (d_sub (dv 2) (dv 4)) (dv 5)) de_int) (dv 5))))) ss_nil)))
  (ss_one (s_ret (dv 3))))), ?_⟩
  rintro ds M Q E ⟨t, z, N, p, rfl, hn, hl, ht, hc, hN, hq⟩
  have hst := ends_steps (c := 400) ht hc (Nat.lt_of_le_of_lt (Nat.pow_le_pow_right (by decide) hl) (by decide +kernel))
  have gN : Big N := big_of hN
  rw [← cnt_occ ht] at hq
  walk_at "go"
  refine ⟨t, 0, 1, 1, p, rfl, hn, ht, by omega, ⟨by decide, by decide, by omega⟩, fun r0 M0 hr0 hn0 hle0 => ?_⟩
  walk_at "go"
  refine it_l hr0 ?_
  refine for_by (fun i ρ M1 => M1 = M0 ∧ ∃ (c : Nat) (x4 x5 x6 : Option D), ρ = [some t.enc, some (.str z), some (.int N), some (.int c), x4, x5, x6] ∧ c = cntE z N.toNat ((t.ends 0 1).take i)) ⟨rfl, 0, _, _, _, rfl, rfl⟩ (fun _ _ _ _ h => by rw [h.1]; exact hr0) ?_ ?_
  · rintro i d ρ M1 hd ⟨rfl, c, x4, x5, x6, rfl, hcc⟩
    rw [List.getElem?_map] at hd
    obtain ⟨e, he, rfl⟩ := Option.map_eq_some_iff.mp hd
    obtain ⟨hi, hei⟩ := List.getElem?_eq_some_iff.mp he
    have hil : i < t.cnt := by rw [← ends_len t 0 1]; exact hi
    obtain ⟨hs0, hsc⟩ := hst e (List.mem_of_getElem? he)
    have hlt := ends_lt (List.mem_of_getElem? he)
    have hcle : c ≤ 400 * N.toNat := by
      rw [hcc]
      refine Nat.le_trans (cntE_le ..) (Nat.mul_le_mul_right _ (Nat.le_trans (List.length_take_le ..) (by omega)))
    have gS : DivOk (e.2.1 : Int) := ⟨by omega, Nat.lt_of_lt_of_le (show e.2.1 < 2 ^ 400 from hsc) (Nat.pow_le_pow_right (by decide) (by decide))⟩
    have gF : Big (e.1 : Int) := big_of (n := 400) (by show e.1 < _; omega)
    have gC : Big (c : Int) := big_of (n := 5009) (by
      show c < _
      have h2 : (2 : Nat) ^ 5009 = 512 * 2 ^ 5000 := by decide +kernel
      have : N.toNat ≤ N.natAbs := by omega
      omega)
    have hcn : cntE z N.toNat ((t.ends 0 1).take (i + 1)) = c + if e.2.2 = z then clsN e.1 e.2.1 N.toNat else 0 := by
      rw [take_succ_of he, cntE_app, ← hcc]; rfl
    have hlb : (2 : Nat) ^ 130 ≤ 2 ^ 5000 := Nat.pow_le_pow_right (by decide) (by decide)
    have h51 : (2 : Nat) ^ 5001 = 2 * 2 ^ 5000 := by rw [Nat.pow_succ]; omega
    have h52 : (2 : Nat) ^ 5002 = 4 * 2 ^ 5000 := by rw [Nat.pow_succ, Nat.pow_succ]; omega
    have gN1 : Big (N - e.1) := big_of (n := 5001) (by omega)
    have gN2 : Big (N - e.1 + e.2.1) := big_of (n := 5002) (by omega)
    have gN3 : Big (N - e.1 + e.2.1 - 1) := big_of (n := 5002) (by omega)
    have gS2 : Big (e.2.1 : Int) := big_of (n := 400) (by show e.2.1 < _; omega)
    walk_at "go"
    refine cndI (fun h => ?_) fun h => ?_
    · have hez : e.2.2 = z := by simpa using h
      rw [if_pos hez] at hcn
      walk_at "go"
      refine cndI (fun h => ?_) fun h => ?_
      · have hgt : (e.1 : Int) < N := by simpa using h
        walk_at "go"
        have hv : (N - e.1 + e.2.1 - 1) / (e.2.1 : Int) = (clsN e.1 e.2.1 N.toNat : Nat) := by
          rw [← clsN_law hs0 (show e.1 < N.toNat by omega)]
          have : N - e.1 + e.2.1 - 1 = ((N.toNat - e.1 + e.2.1 - 1 : Nat) : Int) := by omega
          rw [this]; push_cast; rfl
        have hcl := clsN_le (f := e.1) (s := e.2.1) (N := N.toNat)
        first | (refine fdiv_i gS ?_; walk_at "go") | skip
        rw [hv]
        exact ⟨rfl, c + clsN e.1 e.2.1 N.toNat, _, _, _, by push_cast; rfl, hcn.symm⟩
      · have hgt : ¬ (e.1 : Int) < N := by simpa using h
        walk_at "go"
        refine ⟨rfl, c, _, _, _, rfl, ?_⟩
        rw [hcn]; unfold clsN; rw [if_neg (by omega)]; rfl
    · have hez : ¬ e.2.2 = z := by simpa using h
      rw [if_neg hez] at hcn
      walk_at "go"
      exact ⟨rfl, c, _, _, _, rfl, hcn.symm⟩
  · rintro ρ M1 ⟨rfl, c, x4, x5, x6, rfl, hcc⟩
    rw [List.length_map, List.take_length] at hcc
    subst hcc
    walk_at "go"
    exact ⟨_, hle0, hq⟩

end

structure Top (K : PySem.W.Frag) (mg : Str → Option Value) : Prop where
  t_ends : XG.AtG K mg "ends" s_ends 0 1
  t_count : At K mg "count" s_count
  t_law_bag : At K mg "_law_bag" s_law_bag
  t_law_pull : At K mg "_law_pull" s_law_pull
  t_law_of : At K mg "_law_of" s_law_of
  t_law_like : At K mg "_law_like" s_law_like
  t_law_names : At K mg "_law_names" s_law_names
  t_law_owners : At K mg "_law_owners" s_law_owners
  t_law_tree : At K mg "_law_tree" s_law_tree
  t_law_drawn : At K mg "_law_drawn" s_law_drawn
  t_law_owner_of : At K mg "_law_owner_of" s_law_owner_of
  t_law_ends : At K mg "_law_ends" s_law_ends
  t_law_great : At K mg "_law_great" s_law_great
  t_law_count : At K mg "_law_count" s_law_count
  t_law_deep_tree : At K mg "_law_deep_tree" s_law_deep_tree
  t_law_wide_tree : At K mg "_law_wide_tree" s_law_wide_tree
  t_law : At K mg "law" s_law
  n_all : mg "all" = none
  n_bool : mg "bool" = none
  n_dict : mg "dict" = none
  n_enumerate : mg "enumerate" = none
  n_isinstance : mg "isinstance" = none
  n_len : mg "len" = none
  n_list : mg "list" = none
  n_range : mg "range" = none
  n_set : mg "set" = none
  n_sorted : mg "sorted" = none
  n_str : mg "str" = none
  n_sum : mg "sum" = none
  n_tuple : mg "tuple" = none
theorem top_mk {K : PySem.W.Frag} {mg : Str → Option Value} {h : Heap} (X : K.In h) (G : h.Ns mainGlobals mg)
    {f0 T0 : Addr} {oc0 kV0 dc0 pm0 cd0 ct0 to0 : Value} {od0 an0 td0 : Option Addr} {sl0 ts0 : Array (Option Value)} {ta0 tb0 : Tok} {tn0 : Nat}
    (a0 : PySem.W.nsIn K mainGlobals "ends" = some (some (.ref f0)))
    (l0 : K.lookup f0 = some ⟨oc0, od0, .func (PySem.W.fnOf "ends" "ends" (defArgs s_ends) (defBody s_ends) (defScope s_ends) (.ref T0) kV0 dc0 pm0 an0 cd0 ct0), sl0⟩)
    (c0 : PySem.W.codeIn K cd0 "ends" = true)
    (k0 : PySem.W.keepIn K (.ref f0) = true)
    (d0 : K.lookup T0 = some ⟨to0, td0, .seq #[.int 0 ta0, .int 1 tb0] tn0, ts0⟩)
    {f1 : Addr} {oc1 kV1 dc1 pm1 cd1 ct1 : Value} {od1 an1 : Option Addr} {sl1 : Array (Option Value)}
    (a1 : PySem.W.nsIn K mainGlobals "count" = some (some (.ref f1)))
    (l1 : K.lookup f1 = some ⟨oc1, od1, .func (PySem.W.fnOf "count" "count" (defArgs s_count) (defBody s_count) (defScope s_count) .none kV1 dc1 pm1 an1 cd1 ct1), sl1⟩)
    (c1 : PySem.W.codeIn K cd1 "count" = true)
    (k1 : PySem.W.keepIn K (.ref f1) = true)
    {f2 : Addr} {oc2 kV2 dc2 pm2 cd2 ct2 : Value} {od2 an2 : Option Addr} {sl2 : Array (Option Value)}
    (a2 : PySem.W.nsIn K mainGlobals "_law_bag" = some (some (.ref f2)))
    (l2 : K.lookup f2 = some ⟨oc2, od2, .func (PySem.W.fnOf "_law_bag" "_law_bag" (defArgs s_law_bag) (defBody s_law_bag) (defScope s_law_bag) .none kV2 dc2 pm2 an2 cd2 ct2), sl2⟩)
    (c2 : PySem.W.codeIn K cd2 "_law_bag" = true)
    (k2 : PySem.W.keepIn K (.ref f2) = true)
    {f3 : Addr} {oc3 kV3 dc3 pm3 cd3 ct3 : Value} {od3 an3 : Option Addr} {sl3 : Array (Option Value)}
    (a3 : PySem.W.nsIn K mainGlobals "_law_pull" = some (some (.ref f3)))
    (l3 : K.lookup f3 = some ⟨oc3, od3, .func (PySem.W.fnOf "_law_pull" "_law_pull" (defArgs s_law_pull) (defBody s_law_pull) (defScope s_law_pull) .none kV3 dc3 pm3 an3 cd3 ct3), sl3⟩)
    (c3 : PySem.W.codeIn K cd3 "_law_pull" = true)
    (k3 : PySem.W.keepIn K (.ref f3) = true)
    {f4 : Addr} {oc4 kV4 dc4 pm4 cd4 ct4 : Value} {od4 an4 : Option Addr} {sl4 : Array (Option Value)}
    (a4 : PySem.W.nsIn K mainGlobals "_law_of" = some (some (.ref f4)))
    (l4 : K.lookup f4 = some ⟨oc4, od4, .func (PySem.W.fnOf "_law_of" "_law_of" (defArgs s_law_of) (defBody s_law_of) (defScope s_law_of) .none kV4 dc4 pm4 an4 cd4 ct4), sl4⟩)
    (c4 : PySem.W.codeIn K cd4 "_law_of" = true)
    (k4 : PySem.W.keepIn K (.ref f4) = true)
    {f5 : Addr} {oc5 kV5 dc5 pm5 cd5 ct5 : Value} {od5 an5 : Option Addr} {sl5 : Array (Option Value)}
    (a5 : PySem.W.nsIn K mainGlobals "_law_like" = some (some (.ref f5)))
    (l5 : K.lookup f5 = some ⟨oc5, od5, .func (PySem.W.fnOf "_law_like" "_law_like" (defArgs s_law_like) (defBody s_law_like) (defScope s_law_like) .none kV5 dc5 pm5 an5 cd5 ct5), sl5⟩)
    (c5 : PySem.W.codeIn K cd5 "_law_like" = true)
    (k5 : PySem.W.keepIn K (.ref f5) = true)
    {f6 : Addr} {oc6 kV6 dc6 pm6 cd6 ct6 : Value} {od6 an6 : Option Addr} {sl6 : Array (Option Value)}
    (a6 : PySem.W.nsIn K mainGlobals "_law_names" = some (some (.ref f6)))
    (l6 : K.lookup f6 = some ⟨oc6, od6, .func (PySem.W.fnOf "_law_names" "_law_names" (defArgs s_law_names) (defBody s_law_names) (defScope s_law_names) .none kV6 dc6 pm6 an6 cd6 ct6), sl6⟩)
    (c6 : PySem.W.codeIn K cd6 "_law_names" = true)
    (k6 : PySem.W.keepIn K (.ref f6) = true)
    {f7 : Addr} {oc7 kV7 dc7 pm7 cd7 ct7 : Value} {od7 an7 : Option Addr} {sl7 : Array (Option Value)}
    (a7 : PySem.W.nsIn K mainGlobals "_law_owners" = some (some (.ref f7)))
    (l7 : K.lookup f7 = some ⟨oc7, od7, .func (PySem.W.fnOf "_law_owners" "_law_owners" (defArgs s_law_owners) (defBody s_law_owners) (defScope s_law_owners) .none kV7 dc7 pm7 an7 cd7 ct7), sl7⟩)
    (c7 : PySem.W.codeIn K cd7 "_law_owners" = true)
    (k7 : PySem.W.keepIn K (.ref f7) = true)
    {f8 : Addr} {oc8 kV8 dc8 pm8 cd8 ct8 : Value} {od8 an8 : Option Addr} {sl8 : Array (Option Value)}
    (a8 : PySem.W.nsIn K mainGlobals "_law_tree" = some (some (.ref f8)))
    (l8 : K.lookup f8 = some ⟨oc8, od8, .func (PySem.W.fnOf "_law_tree" "_law_tree" (defArgs s_law_tree) (defBody s_law_tree) (defScope s_law_tree) .none kV8 dc8 pm8 an8 cd8 ct8), sl8⟩)
    (c8 : PySem.W.codeIn K cd8 "_law_tree" = true)
    (k8 : PySem.W.keepIn K (.ref f8) = true)
    {f9 : Addr} {oc9 kV9 dc9 pm9 cd9 ct9 : Value} {od9 an9 : Option Addr} {sl9 : Array (Option Value)}
    (a9 : PySem.W.nsIn K mainGlobals "_law_drawn" = some (some (.ref f9)))
    (l9 : K.lookup f9 = some ⟨oc9, od9, .func (PySem.W.fnOf "_law_drawn" "_law_drawn" (defArgs s_law_drawn) (defBody s_law_drawn) (defScope s_law_drawn) .none kV9 dc9 pm9 an9 cd9 ct9), sl9⟩)
    (c9 : PySem.W.codeIn K cd9 "_law_drawn" = true)
    (k9 : PySem.W.keepIn K (.ref f9) = true)
    {f10 : Addr} {oc10 kV10 dc10 pm10 cd10 ct10 : Value} {od10 an10 : Option Addr} {sl10 : Array (Option Value)}
    (a10 : PySem.W.nsIn K mainGlobals "_law_owner_of" = some (some (.ref f10)))
    (l10 : K.lookup f10 = some ⟨oc10, od10, .func (PySem.W.fnOf "_law_owner_of" "_law_owner_of" (defArgs s_law_owner_of) (defBody s_law_owner_of) (defScope s_law_owner_of) .none kV10 dc10 pm10 an10 cd10 ct10), sl10⟩)
    (c10 : PySem.W.codeIn K cd10 "_law_owner_of" = true)
    (k10 : PySem.W.keepIn K (.ref f10) = true)
    {f11 : Addr} {oc11 kV11 dc11 pm11 cd11 ct11 : Value} {od11 an11 : Option Addr} {sl11 : Array (Option Value)}
    (a11 : PySem.W.nsIn K mainGlobals "_law_ends" = some (some (.ref f11)))
    (l11 : K.lookup f11 = some ⟨oc11, od11, .func (PySem.W.fnOf "_law_ends" "_law_ends" (defArgs s_law_ends) (defBody s_law_ends) (defScope s_law_ends) .none kV11 dc11 pm11 an11 cd11 ct11), sl11⟩)
    (c11 : PySem.W.codeIn K cd11 "_law_ends" = true)
    (k11 : PySem.W.keepIn K (.ref f11) = true)
    {f12 : Addr} {oc12 kV12 dc12 pm12 cd12 ct12 : Value} {od12 an12 : Option Addr} {sl12 : Array (Option Value)}
    (a12 : PySem.W.nsIn K mainGlobals "_law_great" = some (some (.ref f12)))
    (l12 : K.lookup f12 = some ⟨oc12, od12, .func (PySem.W.fnOf "_law_great" "_law_great" (defArgs s_law_great) (defBody s_law_great) (defScope s_law_great) .none kV12 dc12 pm12 an12 cd12 ct12), sl12⟩)
    (c12 : PySem.W.codeIn K cd12 "_law_great" = true)
    (k12 : PySem.W.keepIn K (.ref f12) = true)
    {f13 : Addr} {oc13 kV13 dc13 pm13 cd13 ct13 : Value} {od13 an13 : Option Addr} {sl13 : Array (Option Value)}
    (a13 : PySem.W.nsIn K mainGlobals "_law_count" = some (some (.ref f13)))
    (l13 : K.lookup f13 = some ⟨oc13, od13, .func (PySem.W.fnOf "_law_count" "_law_count" (defArgs s_law_count) (defBody s_law_count) (defScope s_law_count) .none kV13 dc13 pm13 an13 cd13 ct13), sl13⟩)
    (c13 : PySem.W.codeIn K cd13 "_law_count" = true)
    (k13 : PySem.W.keepIn K (.ref f13) = true)
    {f14 : Addr} {oc14 kV14 dc14 pm14 cd14 ct14 : Value} {od14 an14 : Option Addr} {sl14 : Array (Option Value)}
    (a14 : PySem.W.nsIn K mainGlobals "_law_deep_tree" = some (some (.ref f14)))
    (l14 : K.lookup f14 = some ⟨oc14, od14, .func (PySem.W.fnOf "_law_deep_tree" "_law_deep_tree" (defArgs s_law_deep_tree) (defBody s_law_deep_tree) (defScope s_law_deep_tree) .none kV14 dc14 pm14 an14 cd14 ct14), sl14⟩)
    (c14 : PySem.W.codeIn K cd14 "_law_deep_tree" = true)
    (k14 : PySem.W.keepIn K (.ref f14) = true)
    {f15 : Addr} {oc15 kV15 dc15 pm15 cd15 ct15 : Value} {od15 an15 : Option Addr} {sl15 : Array (Option Value)}
    (a15 : PySem.W.nsIn K mainGlobals "_law_wide_tree" = some (some (.ref f15)))
    (l15 : K.lookup f15 = some ⟨oc15, od15, .func (PySem.W.fnOf "_law_wide_tree" "_law_wide_tree" (defArgs s_law_wide_tree) (defBody s_law_wide_tree) (defScope s_law_wide_tree) .none kV15 dc15 pm15 an15 cd15 ct15), sl15⟩)
    (c15 : PySem.W.codeIn K cd15 "_law_wide_tree" = true)
    (k15 : PySem.W.keepIn K (.ref f15) = true)
    {f16 : Addr} {oc16 kV16 dc16 pm16 cd16 ct16 : Value} {od16 an16 : Option Addr} {sl16 : Array (Option Value)}
    (a16 : PySem.W.nsIn K mainGlobals "law" = some (some (.ref f16)))
    (l16 : K.lookup f16 = some ⟨oc16, od16, .func (PySem.W.fnOf "law" "law" (defArgs s_law) (defBody s_law) (defScope s_law) .none kV16 dc16 pm16 an16 cd16 ct16), sl16⟩)
    (c16 : PySem.W.codeIn K cd16 "law" = true)
    (k16 : PySem.W.keepIn K (.ref f16) = true)
    (z_all : PySem.W.nsIn K mainGlobals "all" = some none)
    (z_bool : PySem.W.nsIn K mainGlobals "bool" = some none)
    (z_dict : PySem.W.nsIn K mainGlobals "dict" = some none)
    (z_enumerate : PySem.W.nsIn K mainGlobals "enumerate" = some none)
    (z_isinstance : PySem.W.nsIn K mainGlobals "isinstance" = some none)
    (z_len : PySem.W.nsIn K mainGlobals "len" = some none)
    (z_list : PySem.W.nsIn K mainGlobals "list" = some none)
    (z_range : PySem.W.nsIn K mainGlobals "range" = some none)
    (z_set : PySem.W.nsIn K mainGlobals "set" = some none)
    (z_sorted : PySem.W.nsIn K mainGlobals "sorted" = some none)
    (z_str : PySem.W.nsIn K mainGlobals "str" = some none)
    (z_sum : PySem.W.nsIn K mainGlobals "sum" = some none)
    (z_tuple : PySem.W.nsIn K mainGlobals "tuple" = some none) : Top K mg where
  t_ends := XG.at_mkG X G a0 l0 c0 k0 d0
  t_count := at_mk X G a1 l1 c1 k1
  t_law_bag := at_mk X G a2 l2 c2 k2
  t_law_pull := at_mk X G a3 l3 c3 k3
  t_law_of := at_mk X G a4 l4 c4 k4
  t_law_like := at_mk X G a5 l5 c5 k5
  t_law_names := at_mk X G a6 l6 c6 k6
  t_law_owners := at_mk X G a7 l7 c7 k7
  t_law_tree := at_mk X G a8 l8 c8 k8
  t_law_drawn := at_mk X G a9 l9 c9 k9
  t_law_owner_of := at_mk X G a10 l10 c10 k10
  t_law_ends := at_mk X G a11 l11 c11 k11
  t_law_great := at_mk X G a12 l12 c12 k12
  t_law_count := at_mk X G a13 l13 c13 k13
  t_law_deep_tree := at_mk X G a14 l14 c14 k14
  t_law_wide_tree := at_mk X G a15 l15 c15 k15
  t_law := at_mk X G a16 l16 c16 k16
  n_all := PySem.W.mg_none_of X G z_all
  n_bool := PySem.W.mg_none_of X G z_bool
  n_dict := PySem.W.mg_none_of X G z_dict
  n_enumerate := PySem.W.mg_none_of X G z_enumerate
  n_isinstance := PySem.W.mg_none_of X G z_isinstance
  n_len := PySem.W.mg_none_of X G z_len
  n_list := PySem.W.mg_none_of X G z_list
  n_range := PySem.W.mg_none_of X G z_range
  n_set := PySem.W.mg_none_of X G z_set
  n_sorted := PySem.W.mg_none_of X G z_sorted
  n_str := PySem.W.mg_none_of X G z_str
  n_sum := PySem.W.mg_none_of X G z_sum
  n_tuple := PySem.W.mg_none_of X G z_tuple
theorem top_use {R : Prop} {K : PySem.W.Frag} {mg : Str → Option Value} {h : Heap} (X : K.In h) (G : h.Ns mainGlobals mg)
    {f0 T0 : Addr} {oc0 kV0 dc0 pm0 cd0 ct0 to0 : Value} {od0 an0 td0 : Option Addr} {sl0 ts0 : Array (Option Value)} {ta0 tb0 : Tok} {tn0 : Nat}
    (a0 : PySem.W.nsIn K mainGlobals "ends" = some (some (.ref f0)))
    (l0 : K.lookup f0 = some ⟨oc0, od0, .func (PySem.W.fnOf "ends" "ends" (defArgs s_ends) (defBody s_ends) (defScope s_ends) (.ref T0) kV0 dc0 pm0 an0 cd0 ct0), sl0⟩)
    (c0 : PySem.W.codeIn K cd0 "ends" = true)
    (k0 : PySem.W.keepIn K (.ref f0) = true)
    (d0 : K.lookup T0 = some ⟨to0, td0, .seq #[.int 0 ta0, .int 1 tb0] tn0, ts0⟩)
    {f1 : Addr} {oc1 kV1 dc1 pm1 cd1 ct1 : Value} {od1 an1 : Option Addr} {sl1 : Array (Option Value)}
    (a1 : PySem.W.nsIn K mainGlobals "count" = some (some (.ref f1)))
    (l1 : K.lookup f1 = some ⟨oc1, od1, .func (PySem.W.fnOf "count" "count" (defArgs s_count) (defBody s_count) (defScope s_count) .none kV1 dc1 pm1 an1 cd1 ct1), sl1⟩)
    (c1 : PySem.W.codeIn K cd1 "count" = true)
    (k1 : PySem.W.keepIn K (.ref f1) = true)
    {f2 : Addr} {oc2 kV2 dc2 pm2 cd2 ct2 : Value} {od2 an2 : Option Addr} {sl2 : Array (Option Value)}
    (a2 : PySem.W.nsIn K mainGlobals "_law_bag" = some (some (.ref f2)))
    (l2 : K.lookup f2 = some ⟨oc2, od2, .func (PySem.W.fnOf "_law_bag" "_law_bag" (defArgs s_law_bag) (defBody s_law_bag) (defScope s_law_bag) .none kV2 dc2 pm2 an2 cd2 ct2), sl2⟩)
    (c2 : PySem.W.codeIn K cd2 "_law_bag" = true)
    (k2 : PySem.W.keepIn K (.ref f2) = true)
    {f3 : Addr} {oc3 kV3 dc3 pm3 cd3 ct3 : Value} {od3 an3 : Option Addr} {sl3 : Array (Option Value)}
    (a3 : PySem.W.nsIn K mainGlobals "_law_pull" = some (some (.ref f3)))
    (l3 : K.lookup f3 = some ⟨oc3, od3, .func (PySem.W.fnOf "_law_pull" "_law_pull" (defArgs s_law_pull) (defBody s_law_pull) (defScope s_law_pull) .none kV3 dc3 pm3 an3 cd3 ct3), sl3⟩)
    (c3 : PySem.W.codeIn K cd3 "_law_pull" = true)
    (k3 : PySem.W.keepIn K (.ref f3) = true)
    {f4 : Addr} {oc4 kV4 dc4 pm4 cd4 ct4 : Value} {od4 an4 : Option Addr} {sl4 : Array (Option Value)}
    (a4 : PySem.W.nsIn K mainGlobals "_law_of" = some (some (.ref f4)))
    (l4 : K.lookup f4 = some ⟨oc4, od4, .func (PySem.W.fnOf "_law_of" "_law_of" (defArgs s_law_of) (defBody s_law_of) (defScope s_law_of) .none kV4 dc4 pm4 an4 cd4 ct4), sl4⟩)
    (c4 : PySem.W.codeIn K cd4 "_law_of" = true)
    (k4 : PySem.W.keepIn K (.ref f4) = true)
    {f5 : Addr} {oc5 kV5 dc5 pm5 cd5 ct5 : Value} {od5 an5 : Option Addr} {sl5 : Array (Option Value)}
    (a5 : PySem.W.nsIn K mainGlobals "_law_like" = some (some (.ref f5)))
    (l5 : K.lookup f5 = some ⟨oc5, od5, .func (PySem.W.fnOf "_law_like" "_law_like" (defArgs s_law_like) (defBody s_law_like) (defScope s_law_like) .none kV5 dc5 pm5 an5 cd5 ct5), sl5⟩)
    (c5 : PySem.W.codeIn K cd5 "_law_like" = true)
    (k5 : PySem.W.keepIn K (.ref f5) = true)
    {f6 : Addr} {oc6 kV6 dc6 pm6 cd6 ct6 : Value} {od6 an6 : Option Addr} {sl6 : Array (Option Value)}
    (a6 : PySem.W.nsIn K mainGlobals "_law_names" = some (some (.ref f6)))
    (l6 : K.lookup f6 = some ⟨oc6, od6, .func (PySem.W.fnOf "_law_names" "_law_names" (defArgs s_law_names) (defBody s_law_names) (defScope s_law_names) .none kV6 dc6 pm6 an6 cd6 ct6), sl6⟩)
    (c6 : PySem.W.codeIn K cd6 "_law_names" = true)
    (k6 : PySem.W.keepIn K (.ref f6) = true)
    {f7 : Addr} {oc7 kV7 dc7 pm7 cd7 ct7 : Value} {od7 an7 : Option Addr} {sl7 : Array (Option Value)}
    (a7 : PySem.W.nsIn K mainGlobals "_law_owners" = some (some (.ref f7)))
    (l7 : K.lookup f7 = some ⟨oc7, od7, .func (PySem.W.fnOf "_law_owners" "_law_owners" (defArgs s_law_owners) (defBody s_law_owners) (defScope s_law_owners) .none kV7 dc7 pm7 an7 cd7 ct7), sl7⟩)
    (c7 : PySem.W.codeIn K cd7 "_law_owners" = true)
    (k7 : PySem.W.keepIn K (.ref f7) = true)
    {f8 : Addr} {oc8 kV8 dc8 pm8 cd8 ct8 : Value} {od8 an8 : Option Addr} {sl8 : Array (Option Value)}
    (a8 : PySem.W.nsIn K mainGlobals "_law_tree" = some (some (.ref f8)))
    (l8 : K.lookup f8 = some ⟨oc8, od8, .func (PySem.W.fnOf "_law_tree" "_law_tree" (defArgs s_law_tree) (defBody s_law_tree) (defScope s_law_tree) .none kV8 dc8 pm8 an8 cd8 ct8), sl8⟩)
    (c8 : PySem.W.codeIn K cd8 "_law_tree" = true)
    (k8 : PySem.W.keepIn K (.ref f8) = true)
    {f9 : Addr} {oc9 kV9 dc9 pm9 cd9 ct9 : Value} {od9 an9 : Option Addr} {sl9 : Array (Option Value)}
    (a9 : PySem.W.nsIn K mainGlobals "_law_drawn" = some (some (.ref f9)))
    (l9 : K.lookup f9 = some ⟨oc9, od9, .func (PySem.W.fnOf "_law_drawn" "_law_drawn" (defArgs s_law_drawn) (defBody s_law_drawn) (defScope s_law_drawn) .none kV9 dc9 pm9 an9 cd9 ct9), sl9⟩)
    (c9 : PySem.W.codeIn K cd9 "_law_drawn" = true)
    (k9 : PySem.W.keepIn K (.ref f9) = true)
    {f10 : Addr} {oc10 kV10 dc10 pm10 cd10 ct10 : Value} {od10 an10 : Option Addr} {sl10 : Array (Option Value)}
    (a10 : PySem.W.nsIn K mainGlobals "_law_owner_of" = some (some (.ref f10)))
    (l10 : K.lookup f10 = some ⟨oc10, od10, .func (PySem.W.fnOf "_law_owner_of" "_law_owner_of" (defArgs s_law_owner_of) (defBody s_law_owner_of) (defScope s_law_owner_of) .none kV10 dc10 pm10 an10 cd10 ct10), sl10⟩)
    (c10 : PySem.W.codeIn K cd10 "_law_owner_of" = true)
    (k10 : PySem.W.keepIn K (.ref f10) = true)
    {f11 : Addr} {oc11 kV11 dc11 pm11 cd11 ct11 : Value} {od11 an11 : Option Addr} {sl11 : Array (Option Value)}
    (a11 : PySem.W.nsIn K mainGlobals "_law_ends" = some (some (.ref f11)))
    (l11 : K.lookup f11 = some ⟨oc11, od11, .func (PySem.W.fnOf "_law_ends" "_law_ends" (defArgs s_law_ends) (defBody s_law_ends) (defScope s_law_ends) .none kV11 dc11 pm11 an11 cd11 ct11), sl11⟩)
    (c11 : PySem.W.codeIn K cd11 "_law_ends" = true)
    (k11 : PySem.W.keepIn K (.ref f11) = true)
    {f12 : Addr} {oc12 kV12 dc12 pm12 cd12 ct12 : Value} {od12 an12 : Option Addr} {sl12 : Array (Option Value)}
    (a12 : PySem.W.nsIn K mainGlobals "_law_great" = some (some (.ref f12)))
    (l12 : K.lookup f12 = some ⟨oc12, od12, .func (PySem.W.fnOf "_law_great" "_law_great" (defArgs s_law_great) (defBody s_law_great) (defScope s_law_great) .none kV12 dc12 pm12 an12 cd12 ct12), sl12⟩)
    (c12 : PySem.W.codeIn K cd12 "_law_great" = true)
    (k12 : PySem.W.keepIn K (.ref f12) = true)
    {f13 : Addr} {oc13 kV13 dc13 pm13 cd13 ct13 : Value} {od13 an13 : Option Addr} {sl13 : Array (Option Value)}
    (a13 : PySem.W.nsIn K mainGlobals "_law_count" = some (some (.ref f13)))
    (l13 : K.lookup f13 = some ⟨oc13, od13, .func (PySem.W.fnOf "_law_count" "_law_count" (defArgs s_law_count) (defBody s_law_count) (defScope s_law_count) .none kV13 dc13 pm13 an13 cd13 ct13), sl13⟩)
    (c13 : PySem.W.codeIn K cd13 "_law_count" = true)
    (k13 : PySem.W.keepIn K (.ref f13) = true)
    {f14 : Addr} {oc14 kV14 dc14 pm14 cd14 ct14 : Value} {od14 an14 : Option Addr} {sl14 : Array (Option Value)}
    (a14 : PySem.W.nsIn K mainGlobals "_law_deep_tree" = some (some (.ref f14)))
    (l14 : K.lookup f14 = some ⟨oc14, od14, .func (PySem.W.fnOf "_law_deep_tree" "_law_deep_tree" (defArgs s_law_deep_tree) (defBody s_law_deep_tree) (defScope s_law_deep_tree) .none kV14 dc14 pm14 an14 cd14 ct14), sl14⟩)
    (c14 : PySem.W.codeIn K cd14 "_law_deep_tree" = true)
    (k14 : PySem.W.keepIn K (.ref f14) = true)
    {f15 : Addr} {oc15 kV15 dc15 pm15 cd15 ct15 : Value} {od15 an15 : Option Addr} {sl15 : Array (Option Value)}
    (a15 : PySem.W.nsIn K mainGlobals "_law_wide_tree" = some (some (.ref f15)))
    (l15 : K.lookup f15 = some ⟨oc15, od15, .func (PySem.W.fnOf "_law_wide_tree" "_law_wide_tree" (defArgs s_law_wide_tree) (defBody s_law_wide_tree) (defScope s_law_wide_tree) .none kV15 dc15 pm15 an15 cd15 ct15), sl15⟩)
    (c15 : PySem.W.codeIn K cd15 "_law_wide_tree" = true)
    (k15 : PySem.W.keepIn K (.ref f15) = true)
    {f16 : Addr} {oc16 kV16 dc16 pm16 cd16 ct16 : Value} {od16 an16 : Option Addr} {sl16 : Array (Option Value)}
    (a16 : PySem.W.nsIn K mainGlobals "law" = some (some (.ref f16)))
    (l16 : K.lookup f16 = some ⟨oc16, od16, .func (PySem.W.fnOf "law" "law" (defArgs s_law) (defBody s_law) (defScope s_law) .none kV16 dc16 pm16 an16 cd16 ct16), sl16⟩)
    (c16 : PySem.W.codeIn K cd16 "law" = true)
    (k16 : PySem.W.keepIn K (.ref f16) = true)
    (z_all : PySem.W.nsIn K mainGlobals "all" = some none)
    (z_bool : PySem.W.nsIn K mainGlobals "bool" = some none)
    (z_dict : PySem.W.nsIn K mainGlobals "dict" = some none)
    (z_enumerate : PySem.W.nsIn K mainGlobals "enumerate" = some none)
    (z_isinstance : PySem.W.nsIn K mainGlobals "isinstance" = some none)
    (z_len : PySem.W.nsIn K mainGlobals "len" = some none)
    (z_list : PySem.W.nsIn K mainGlobals "list" = some none)
    (z_range : PySem.W.nsIn K mainGlobals "range" = some none)
    (z_set : PySem.W.nsIn K mainGlobals "set" = some none)
    (z_sorted : PySem.W.nsIn K mainGlobals "sorted" = some none)
    (z_str : PySem.W.nsIn K mainGlobals "str" = some none)
    (z_sum : PySem.W.nsIn K mainGlobals "sum" = some none)
    (z_tuple : PySem.W.nsIn K mainGlobals "tuple" = some none) (fin : Top K mg → R) : R := fin (top_mk X G a0 l0 c0 k0 d0 a1 l1 c1 k1 a2 l2 c2 k2 a3 l3 c3 k3 a4 l4 c4 k4 a5 l5 c5 k5 a6 l6 c6 k6 a7 l7 c7 k7 a8 l8 c8 k8 a9 l9 c9 k9 a10 l10 c10 k10 a11 l11 c11 k11 a12 l12 c12 k12 a13 l13 c13 k13 a14 l14 c14 k14 a15 l15 c15 k15 a16 l16 c16 k16 z_all z_bool z_dict z_enumerate z_isinstance z_len z_list z_range z_set z_sorted z_str z_sum z_tuple)

section
variable {P : Program} {w : World} {K : PySem.W.Frag} {mg : Str → Option Value} {base : Heap}
abbrev lawLevel : Nat := 200
theorem lawRoom : Room lawLevel callerA := ⟨rfl, by decide +kernel, by decide +kernel⟩
theorem nodup_len : ∀ {l ks : List Str}, l.Nodup → (∀ k, k ∈ l → k ∈ ks) → l.length ≤ ks.length
  | [], ks, _, _ => Nat.zero_le _
  | x :: l, ks, nd, hm => by
    obtain ⟨n1, n2⟩ := List.nodup_cons.mp nd
    have hx := hm x List.mem_cons_self
    have h := nodup_len (ks := ks.erase x) n2 fun k hk => (List.mem_erase_of_ne (fun e : k = x => n1 (e ▸ hk))).mpr (hm k (List.mem_cons_of_mem _ hk))
    have := List.length_erase_of_mem hx
    have : 0 < ks.length := List.length_pos_of_mem hx
    simp only [List.length_cons]
    omega
theorem intsD_nat {α : Type} (f : α → Nat) : ∀ l : List α, intsD (l.map fun x => D.int (f x)) = some (l.map fun x => (f x : Int))
  | [] => rfl
  | x :: l => by
    show (intsD (l.map fun x => D.int (f x))).map _ = _
    rw [intsD_nat f l]; rfl
theorem nat_sum {α : Type} (f : α → Nat) : ∀ l : List α, (l.map fun x => ((f x : Nat) : Int)).sum = (((l.map f).sum : Nat) : Int)
  | [] => rfl
  | x :: l => by
    rw [List.map_cons, List.sum_cons, nat_sum f l, List.map_cons, List.sum_cons]
    push_cast; rfl
theorem occ_len {t : T} {z : Str} : ∀ N, ((List.range N).filter fun j => t.own j == z).length = occ t z N
  | 0 => rfl
  | N + 1 => by
    rw [List.range_succ, List.filter_append, List.length_append, occ_len N, occ]
    by_cases h : t.own N = z
    · rw [if_pos h, List.filter_cons_of_pos (p := fun j => t.own j == z) (by simpa using h)]; rfl
    · rw [if_neg h, List.filter_cons_of_neg (p := fun j => t.own j == z) (by simpa using h)]; rfl
theorem occ_none {t : T} {z : Str} (h : ∀ j, t.own j ≠ z) : ∀ N, occ t z N = 0
  | 0 => rfl
  | N + 1 => by rw [occ, occ_none h N, if_neg (h N)]
theorem cntE_none {z : Str} {N : Nat} : ∀ l : List (Nat × Nat × Str), (∀ e, e ∈ l → e.2.2 ≠ z) → cntE z N l = 0
  | [], _ => rfl
  | e :: l, h => by
    show (if e.2.2 = z then clsN e.1 e.2.1 N else 0) + cntE z N l = 0
    rw [if_neg (h e List.mem_cons_self), cntE_none l fun u hu => h u (List.mem_cons_of_mem _ hu)]
theorem deep_cnt {R : List Nat} (h : ∀ j, j ∈ R → j < 2) : ((deepC R 0 1).1 + (deepC R 0 1).2, (deepC R 0 1).2 * 2, ("y" : Str)) ∈ (deepT R).ends 0 1 ∧ occ (deepT R) "y" ((deepC R 0 1).1 + (deepC R 0 1).2) = 0 ∧ occ (deepT R) "y" ((deepC R 0 1).1 + 3 * (deepC R 0 1).2 + 1) = 2 := by
  obtain ⟨l1, l2, e, n1, n2⟩ := deepT_ends R 0 1 h
  have ny : ("-" : Str) ≠ "y" := by decide
  have nx : ("x" : Str) ≠ "y" := by decide
  have hm : ((deepC R 0 1).1 + (deepC R 0 1).2, (deepC R 0 1).2 * 2, ("y" : Str)) ∈ (deepT R).ends 0 1 := by rw [e]; simp
  have hs := ends_lt hm
  have key : ∀ N, occ (deepT R) "y" N = clsN ((deepC R 0 1).1 + (deepC R 0 1).2) ((deepC R 0 1).2 * 2) N := fun N => by
    rw [← cnt_occ (deepT_ok R), e, cntE_app, cntE_none l1 fun u hu => by rw [n1 u hu]; exact ny]
    show 0 + ((if ("x" : Str) = "y" then _ else 0) + ((if ("y" : Str) = "y" then clsN ((deepC R 0 1).1 + (deepC R 0 1).2) ((deepC R 0 1).2 * 2) N else 0) + cntE "y" N l2)) = _
    rw [if_neg nx, if_pos rfl, cntE_none l2 fun u hu => by rw [n2 u hu]; exact ny]
    omega
  generalize (deepC R 0 1).1 = f at hm hs key ⊢
  generalize (deepC R 0 1).2 = s at hm hs key ⊢
  simp only at hs
  refine ⟨hm, ?_, ?_⟩
  · rw [key]; unfold clsN; rw [if_neg (by omega)]
  · rw [key]; unfold clsN
    rw [if_pos (by omega), show f + 3 * s + 1 - (f + s) - 1 = s * 2 by omega, Nat.div_self (by omega)]
theorem ok_law (T0 : Top K mg) : XG.OkX P w K mg base "law" s_law lawLevel ["_law_script"] spLaw := by
  have o_law_bag := ok_bag (P := P) (w := w) (base := base) T0.t_law_bag T0.n_list
  have o_law_pull := ok_pull (P := P) (w := w) (base := base) T0.t_law_pull T0.n_len
  have o_law_of := ok_of_ T0.t_law_of T0.n_len o_law_pull
  have o_law_names := ok_names T0.t_law_names T0.n_range T0.n_len o_law_pull o_law_of
  have o_law_owners := ok_owners T0.t_law_owners o_law_pull o_law_of o_law_names
  have o_law_like := ok_like (P := P) (w := w) (base := base) T0.t_law_like T0.n_isinstance T0.n_tuple T0.n_list T0.n_dict T0.n_bool T0.n_len T0.n_all T0.n_range 20
  have otree := ok_tree T0.t_law_tree T0.n_range T0.n_tuple o_law_pull o_law_of
  have o_law_drawn := ok_drawn T0.t_law_drawn o_law_of otree
  have o_law_great := ok_great T0.t_law_great o_law_pull o_law_of
  have o_law_owner_of := ok_lown (P := P) (w := w) (base := base) T0.t_law_owner_of T0.n_len T0.n_isinstance T0.n_tuple
  have o_law_ends := ok_lends (P := P) (w := w) (base := base) T0.t_law_ends T0.n_isinstance T0.n_tuple T0.n_range T0.n_len 46
  have o_law_count := ok_lcount T0.t_law_count o_law_ends
  have o_law_deep_tree := ok_deep T0.t_law_deep_tree T0.n_range o_law_pull
  have o_law_wide_tree := ok_wide T0.t_law_wide_tree T0.n_tuple T0.n_range o_law_of
  have ox_count := ok_count (P := P) (w := w) (base := base) (n := 46) T0.t_count T0.t_ends T0.n_isinstance T0.n_str T0.n_len T0.n_enumerate
  have n_range := T0.n_range
  have n_sum := T0.n_sum
  have n_len := T0.n_len
  have n_set := T0.n_set
  have n_sorted := T0.n_sorted
  refine XG.okx_of T0.t_law sc_law _ rfl (fun ds M Q E ⟨n, h, _⟩ => by rw [h]; rfl) fun f cd A outer s H hr => ⟨_, (ssx_cons (sx blindF (s_set 1 sc_law.nd (d_call o_law_bag bd_law_bag (hr.mono (by omega)) takes0 (a_cons (dv 0) a_nil))))
  (ssx_cons (sx_forP rfl rfl (i_r1 n_range de_int) (g_name 2 sc_law.nd) (ssx_cons (sx blindF (s_set 3 sc_law.nd (d_call o_law_owners bd_law_owners (hr.mono (by omega)) takes0 (a_cons (dv 1) a_nil))))
  (ssx_cons (sx blindF (s_asg (d_tup (a_cons (d_call o_law_drawn bd_law_drawn (hr.mono (by omega)) takes0 (a_cons (dv 1) (a_cons (dv 3) a_nil))) (a_cons (d_call o_law_of bd_law_of (hr.mono (by omega)) takes0 (a_cons (dv 1) (a_cons (d_add (dv 3) (d_lst (a_cons de_str a_nil))) a_nil))) a_nil))) (g_tup (n := 2) rfl (gs_cons (g_name 4 sc_law.nd) (gs_cons (g_name 5 sc_law.nd) gs_nil)))))
  (ssx_cons (sx blindF (s_asg (d_tup (a_cons (d_call o_law_pull bd_law_pull (hr.mono (by omega)) takes0 (a_cons (dv 1) (a_cons de_int a_nil))) (a_cons (d_call o_law_great bd_law_great (hr.mono (by omega)) takes0 (a_cons (dv 1) a_nil)) a_nil))) (g_tup (n := 2) rfl (gs_cons (g_name 6 sc_law.nd) (gs_cons (g_name 7 sc_law.nd) gs_nil)))))
  (ssx_cons (sx blindF (s_set 8 sc_law.nd (d_len n_len (DL.de (l_lc (own := [("_law_item", 13)]) rfl sc_law.nd (i_r1 n_range (dv 6)) (blkOk_by (by show blkC ["_law_script", "_law_bag_here", "_law_turn", "_law_pool", "_law_tree_z", "_law_owner_z", "_law_few", "_law_many", "_law_due", "_law_wide", "_law_deep", "_law_first", "_law_step", "_law_item", "_law_name"] (defScope s_law) _ _ = true; decide +kernel)) (fun _ _ _ _ _ => (cg_name 13 sc_law.nd)) (fun _ _ _ _ _ => (pt_one (t_cmp (c_eq hr) (d_call o_law_owner_of bd_law_owner_of (hr.mono (by omega)) takes0 (a_cons (dv 4) (a_cons (dv 13) a_nil))) (dv 5)))) (fun s1 H1 C1 cl1 fp1 => (dv 13)))))))
  (ssx_cons (sx_if (tx_not (tx_val (dx_call blindF (XG.OkX.of o_law_like) bd_law_like (hr.mono (by omega)) takes0 (ax_cons (dx_lst (ax_cons (dx_call blindF ox_count bd_count (hr.mono (by omega)) takes0 (ax_cons (dx blindF (dv 4)) (ax_cons (dx blindF (dv 5)) (ax_cons (dx blindF (dv 6)) ax_nil)))) (ax_cons (dx_callK0 blindF ox_count bk_count_0_items_owner_tree (hr.mono (by omega)) takes0 (kx_cons (dx blindF (dv 6)) (kx_cons (dx blindF (dv 5)) (kx_cons (dx blindF (dv 4)) kx_nil)))) ax_nil))) (ax_cons (dx blindF (d_lst (a_cons (dv 8) (a_cons (dv 8) a_nil)))) ax_nil))))) (ssx blindF (ss_one (s_ret de_bl))) ssx_nil)
  (ssx_cons (sx_if (tx_not (tx_val (dx_call blindF (XG.OkX.of o_law_like) bd_law_like (hr.mono (by omega)) takes0 (ax_cons (dx_call blindF ox_count bd_count (hr.mono (by omega)) takes0 (ax_cons (dx blindF (dv 4)) (ax_cons (dx blindF (dv 5)) (ax_cons (dx blindF (dv 7)) ax_nil)))) (ax_cons (dx blindF (d_call o_law_count bd_law_count (hr.mono (by omega)) takes0 (a_cons (dv 4) (a_cons (dv 5) (a_cons (dv 7) a_nil))))) ax_nil))))) (ssx blindF (ss_one (s_ret de_bl))) ssx_nil)
  (ssx_one (sx_if (tx_cmpD blindF (c_ne hr) (XG.dx_sum blindF n_sum rfl (XG.DLx.q (XG.lx_lc (own := [("_law_name", 14)]) rfl rfl sc_law.nd (i_any (d_sortset rfl n_sorted n_set (dv 3))) (blkOk_by (by show blkC ["_law_script", "_law_bag_here", "_law_turn", "_law_pool", "_law_tree_z", "_law_owner_z", "_law_few", "_law_many", "_law_due", "_law_wide", "_law_deep", "_law_first", "_law_step", "_law_item", "_law_name"] (defScope s_law) _ _ = true; decide +kernel)) (fun _ _ _ _ _ => (cg_name 14 sc_law.nd)) (fun _ _ _ _ _ => pt_nil) (fun s1 H1 C1 cl1 fp1 => (dx_call blindF ox_count bd_count (hr.mono (by omega)) takes0 (ax_cons (dx blindF (dv 4)) (ax_cons (dx blindF (dv 14)) (ax_cons (dx blindF (dv 7)) ax_nil)))))))) (dx blindF (dv 7))) (ssx blindF (ss_one (s_ret de_bl))) ssx_nil)))))))))
  (ssx_cons (sx blindF (s_asg (d_tup (a_cons (d_call o_law_owners bd_law_owners (hr.mono (by omega)) takes0 (a_cons (dv 1) a_nil)) (a_cons (d_call o_law_great bd_law_great (hr.mono (by omega)) takes0 (a_cons (dv 1) a_nil)) a_nil))) (g_tup (n := 2) rfl (gs_cons (g_name 3 sc_law.nd) (gs_cons (g_name 7 sc_law.nd) gs_nil)))))
  (ssx_cons (sx blindF (s_set 9 sc_law.nd (d_call o_law_wide_tree bd_law_wide_tree (hr.mono (by omega)) takes0 (a_cons (dv 1) (a_cons (dv 3) a_nil)))))
  (ssx_cons (sx blindF (s_asg (d_call o_law_deep_tree bd_law_deep_tree (hr.mono (by omega)) takes0 (a_cons (dv 1) (a_cons (d_add de_int (d_call o_law_pull bd_law_pull (hr.mono (by omega)) takes0 (a_cons (dv 1) (a_cons de_int a_nil)))) a_nil))) (g_tup (n := 3) rfl (gs_cons (g_name 10 sc_law.nd) (gs_cons (g_name 11 sc_law.nd) (gs_cons (g_name 12 sc_law.nd) gs_nil))))))
  (ssx_cons (sx_if (tx_not (tx_val (dx_call blindF (XG.OkX.of o_law_like) bd_law_like (hr.mono (by omega)) takes0 (ax_cons (XG.DLx.de (XG.lx_lc (own := [("_law_name", 14)]) rfl rfl sc_law.nd (i_any (dv 3)) (blkOk_by (by show blkC ["_law_script", "_law_bag_here", "_law_turn", "_law_pool", "_law_tree_z", "_law_owner_z", "_law_few", "_law_many", "_law_due", "_law_wide", "_law_deep", "_law_first", "_law_step", "_law_item", "_law_name"] (defScope s_law) _ _ = true; decide +kernel)) (fun _ _ _ _ _ => (cg_name 14 sc_law.nd)) (fun _ _ _ _ _ => pt_nil) (fun s1 H1 C1 cl1 fp1 => (dx_call blindF ox_count bd_count (hr.mono (by omega)) takes0 (ax_cons (dx blindF (dv 9)) (ax_cons (dx blindF (dv 14)) (ax_cons (dx blindF (dv 7)) ax_nil))))))) (ax_cons (dx blindF (DL.de (l_lc (own := [("_law_name", 14)]) rfl sc_law.nd (i_any (dv 3)) (blkOk_by (by show blkC ["_law_script", "_law_bag_here", "_law_turn", "_law_pool", "_law_tree_z", "_law_owner_z", "_law_few", "_law_many", "_law_due", "_law_wide", "_law_deep", "_law_first", "_law_step", "_law_item", "_law_name"] (defScope s_law) _ _ = true; decide +kernel)) (fun _ _ _ _ _ => (cg_name 14 sc_law.nd)) (fun _ _ _ _ _ => pt_nil) (fun s1 H1 C1 cl1 fp1 => (d_call o_law_count bd_law_count (hr.mono (by omega)) takes0 (a_cons (dv 9) (a_cons (dv 14) (a_cons (dv 7) a_nil)))))))) ax_nil))))) (ssx blindF (ss_one (s_ret de_bl))) ssx_nil)
  (ssx_cons (sx_if (tx_not (tx_val (dx_call blindF (XG.OkX.of o_law_like) bd_law_like (hr.mono (by omega)) takes0 (ax_cons (dx_lst (ax_cons (dx_call blindF ox_count bd_count (hr.mono (by omega)) takes0 (ax_cons (dx blindF (dv 10)) (ax_cons (dx blindF de_str) (ax_cons (dx blindF (d_add (dv 11) (dv 12))) ax_nil)))) (ax_cons (dx_call blindF ox_count bd_count (hr.mono (by omega)) takes0 (ax_cons (dx blindF (dv 10)) (ax_cons (dx blindF de_str) (ax_cons (dx blindF (d_add (d_add (dv 11) (d_mul de_int (dv 12))) de_int)) ax_nil)))) ax_nil))) (ax_cons (dx blindF (d_lst (a_cons de_int (a_cons de_int a_nil)))) ax_nil))))) (ssx blindF (ss_one (s_ret de_bl))) ssx_nil)
  (ssx_one (sx_ret (dx_and (dx_cmpD blindF (c_eq hr) (dx_call blindF ox_count bd_count (hr.mono (by omega)) takes0 (ax_cons (dx blindF de_str) (ax_cons (dx blindF de_str) (ax_cons (dx blindF de_int) ax_nil)))) (dx blindF de_int)) (dx_one (dx_cmpD blindF (c_eq hr) (dx_call blindF ox_count bd_count (hr.mono (by omega)) takes0 (ax_cons (dx blindF de_str) (ax_cons (dx blindF de_str) (ax_cons (dx blindF de_int) ax_nil)))) (dx blindF de_int))))))))))))), ?_⟩
  rintro ds M Q E ⟨ns, rfl, hl, hq⟩
  walk_at "go"
  refine ⟨ns, rfl, hl, fun p M1 hp hB _ => ?_⟩
  walk_at "go"
  refine ⟨by decide, by decide, ?_⟩
  refine for_by (fun i ρ M1 => Bag M1 p ∧ ∃ x2 x3 x4 x5 x6 x7 x8 x9 x10 x11 x12 x13 x14, ρ = [some (.rol (ns.map D.int)), some (.ref p), x2, x3, x4, x5, x6, x7, x8, x9, x10, x11, x12, x13, x14]) ⟨hB, _, _, _, _, _, _, _, _, _, _, _, _, _, rfl⟩ (fun _ _ _ _ _ => trivial) ?_ ?_
  · rintro i0 d ρ M2 hd ⟨hB, x2, x3, x4, x5, x6, x7, x8, x9, x10, x11, x12, x13, x14, rfl⟩
    obtain ⟨hi, rfl⟩ := rngD_of hd
    walk_at "go"
    refine ⟨p, rfl, hB, fun r zs M3 hr hz1 hz2 hz t3 => ?_⟩
    walk_at "go"
    have hrp := t3.bag.ne_z hr
    refine ⟨p, r, zs, rfl, t3.bag, hrp, hr, by omega, by omega, fun t M4 ht hl4 hc4 t4 => ?_⟩
    have hr4 := t4.fr _ _ hrp hr
    walk_at "go"
    intro p6 hp6
    walk_at "go"
    refine add_l (by rw [mupd_ne (mne hr4 hp6)]; exact hr4) mupd_same (sz (by rw [List.length_map]; show _ + 1 ≤ _; omega)) fun p7 hp7 => ?_
    walk_at "go"
    have hB7 := (t4.bag.new (o := .lst [D.str "zz"]) hp6).new (o := .lst (zs.map D.str ++ [D.str "zz"])) hp7
    refine ⟨p, _, _, rfl, hB7, .lst mupd_same ((t4.bag.new hp6).ne hp7), by simp, Nat.lt_of_le_of_lt (show _ ≤ 1001 by rw [List.length_append, List.length_map]; show _ + 1 ≤ _; omega) (by decide), fun d M6 hd6 t6 => ?_⟩
    obtain ⟨z, rfl⟩ : ∃ z : Str, d = .str z := by
      rcases List.mem_append.mp hd6 with h | h
      · obtain ⟨z, _, rfl⟩ := List.mem_map.mp h; exact ⟨z, rfl⟩
      · exact ⟨_, List.mem_singleton.mp h⟩
    have u6 : BagUp p M4 M6 := (((BagUp.refl t4.bag).new hp6).new hp7).trans t6.up
    have hr6 := u6.fr _ _ hrp hr4
    clear hd6
    walk_at "go"
    refine ⟨p, 80, rfl, u6.bag, by decide, by decide, fun few M7 f0 f1 t7 => ?_⟩
    obtain ⟨few, rfl⟩ := Int.eq_ofNat_of_zero_le f0
    walk_at "go"
    refine ⟨p, rfl, t7.bag, fun many M8 hmany t8 => ?_⟩
    have hr8 := t8.fr _ _ hrp (t7.up.fr _ _ hrp hr6)
    have hB8 := t8.bag
    have h5k : (10 : Nat) ^ 30 < 2 ^ 5000 := Nat.lt_trans (show (10 : Nat) ^ 30 < 2 ^ 100 by decide) (Nat.pow_lt_pow_right (by decide) (by decide))
    clear t8 t7 t6 t4 t3
    walk_at "go"
    refine ⟨by omega, by omega, ?_⟩
    refine lc_by (fun i acc M => M = M8 ∧ acc = ((List.range i).filter fun j => t.own j == z).map fun (j : Nat) => D.int j) ⟨rfl, rfl⟩ (fun _ _ _ _ _ => trivial) ?_ ?_
    · rintro i di acc M9 hdi ⟨rfl, rfl⟩
      obtain ⟨hi2, rfl⟩ := rngD_of hdi
      rw [show (0 : Int) + (i : Int) = (i : Int) by omega]
      walk_at "go"
      refine ⟨t, i, _, rfl, ht, by omega, ?_⟩
      walk_at "go"
      rw [List.range_succ, List.filter_append, List.map_append]
      refine cndI (fun h => ?_) fun h => ?_
      · rw [List.filter_cons_of_pos (p := fun j => t.own j == z) h]
        walk_at "go"
        refine ⟨Nat.lt_of_le_of_lt (show _ ≤ 80 by rw [List.length_map]; refine Nat.le_trans (List.length_filter_le _ _) ?_; rw [List.length_range]; omega) (by decide), rfl, rfl⟩
      · rw [List.filter_cons_of_neg (p := fun j => t.own j == z) (by simpa using h)]
        walk_at "go"
        exact ⟨rfl, by simp⟩
    · rintro acc M9 ⟨rfl, rfl⟩
      rw [rngD_length, Int.toNat_natCast]
      intro q10 hq10
      refine len_l mupd_same ?_
      rw [List.length_map, occ_len]
      have l10 : MLe M9 _ := MLe.new (mo := .lst (((List.range few).filter fun j => t.own j == z).map fun (j : Nat) => D.int j)) hq10
      generalize mupd M9 q10 _ = M10 at l10 ⊢
      walk_at "go"
      refine ⟨t, z, (few : Int), _, rfl, by omega, by omega, ht, by omega, by omega, ?_⟩
      rw [show (few : Int).toNat = few from rfl]
      walk_at "go"
      refine ⟨t, z, (few : Int), _, rfl, by omega, by omega, ht, by omega, by omega, ?_⟩
      rw [show (few : Int).toNat = few from rfl]
      walk_at "go"
      intro q11 hq11
      walk_at "go"
      intro q12 hq12
      walk_at "go"
      refine ⟨_, _, rfl, like2 ((MLe.new hq12) _ _ mupd_same) mupd_same (.int _) (.int _), ?_⟩
      have l12 := (l10.trans (MLe.new (mo := .lst [D.int (occ t z few : Nat), D.int (occ t z few : Nat)]) hq11)).trans (MLe.new (mo := .lst [D.int (occ t z few : Nat), D.int (occ t z few : Nat)]) hq12)
      generalize mupd (mupd M10 q11 _) q12 _ = M12 at l12 ⊢
      walk_at "go"
      refine ⟨t, z, (many : Int), _, rfl, by omega, by omega, ht, by omega, by omega, ?_⟩
      rw [show (many : Int).toNat = many from rfl]
      walk_at "go"
      refine ⟨t, z, (many : Int), _, rfl, by omega, by omega, ht, by omega, by omega, ?_⟩
      rw [show (many : Int).toNat = many from rfl]
      walk_at "go"
      refine ⟨_, _, rfl, .int _, ?_⟩
      walk_at "go"
      have hr12 := l12 _ _ hr8
      refine ⟨r, zs, rfl, hr12, Nat.lt_of_le_of_lt (show _ ≤ 5 by omega) (by decide), fun ys q hs hnd hmem hq13 => ?_⟩
      have hqm : mupd M12 q (.lst (ys.map D.str)) q = some (.lst (ys.map D.str)) := mupd_same
      have l13 := l12.trans (MLe.new (mo := .lst (ys.map D.str)) hq13)
      generalize mupd M12 q (.lst (ys.map D.str)) = M13 at hqm l13 ⊢
      have hy4 : ys.length ≤ 4 := Nat.le_trans (nodup_len hnd fun z hz => (hmem z).mp hz) hz2
      walk_at "go"
      refine it_l hqm ?_
      refine lc_by (fun i acc M' => M' = M13 ∧ acc = (ys.take i).map fun z => D.int ((occ t z many : Nat) : Int)) ⟨rfl, rfl⟩ (fun _ _ _ _ h => by rw [h.1]; exact hqm) ?_ ?_
      · rintro i d acc M' hd ⟨rfl, rfl⟩
        rw [List.getElem?_map] at hd
        obtain ⟨z, hz, rfl⟩ := Option.map_eq_some_iff.mp hd
        walk_at "go"
        refine ⟨t, z, (many : Int), _, rfl, by omega, by omega, ht, by omega, by omega, ?_⟩
        rw [show (many : Int).toNat = many from rfl]
        refine ⟨Nat.lt_of_le_of_lt (show _ ≤ 4 by rw [List.length_map]; exact Nat.le_trans (List.length_take_le' ..) hy4) (by decide), rfl, ?_⟩
        rw [take_succ_of hz, List.map_append]
        rfl
      · rintro acc M' ⟨rfl, rfl⟩
        rw [List.length_map, List.take_length]
        refine sum_i (intsD_nat _ _) ?_
        have hsum : (ys.map fun z => ((occ t z many : Nat) : Int)).sum = ((many : Nat) : Int) := by
          rw [nat_sum, occ_sum ys hnd fun j => (hmem _).mpr (own_in t ht j)]
        rw [hsum]
        walk_at "go"
        refine cndNE (fun h => absurd rfl h) fun _ => ?_
        walk_at "go"
        exact ⟨hB8.leX l13, _, _, _, _, _, _, _, _, _, _, _, _, _, rfl⟩
  · rintro ρ M2 ⟨hB, x2, x3, x4, x5, x6, x7, x8, x9, x10, x11, x12, x13, x14, rfl⟩
    walk_at "go"
    refine ⟨p, rfl, hB, fun r zs M3 hr hz1 hz2 hz t3 => ?_⟩
    walk_at "go"
    have hrp := t3.bag.ne_z hr
    refine ⟨p, rfl, t3.bag, fun many M4 hmany t4 => ?_⟩
    have hr4 := t4.fr _ _ hrp hr
    have h5k : (10 : Nat) ^ 30 < 2 ^ 5000 := Nat.lt_trans (show (10 : Nat) ^ 30 < 2 ^ 100 by decide) (Nat.pow_lt_pow_right (by decide) (by decide))
    walk_at "go"
    refine ⟨p, r, zs, rfl, t4.bag, hrp, hr4, by omega, by omega, fun tw M5 hw hwl hwc t5 => ?_⟩
    walk_at "go"
    refine ⟨p, 10, rfl, t5.bag, by decide, by decide, fun h M6 h0 h1 t6 => ?_⟩
    obtain ⟨h, rfl⟩ := Int.eq_ofNat_of_zero_le h0
    walk_at "go"
    refine ⟨p, 31 + h, by push_cast; rfl, t6.bag, by omega, by omega, fun R M7 hRl hRj t7 => ?_⟩
    have hr7 := t7.fr _ _ hrp (t6.up.fr _ _ hrp (t5.fr _ _ hrp hr4))
    walk_at "go"
    refine it_l hr7 ?_
    refine lc_by (fun i acc M' => M' = M7 ∧ acc = (zs.take i).map fun z => D.int ((occ tw z many : Nat) : Int)) ⟨rfl, rfl⟩ (fun _ _ _ _ h => by rw [h.1]; exact hr7) ?_ ?_
    · rintro i d acc M' hd ⟨rfl, rfl⟩
      rw [List.getElem?_map] at hd
      obtain ⟨z, hz, rfl⟩ := Option.map_eq_some_iff.mp hd
      walk_at "go"
      refine ⟨tw, z, (many : Int), _, rfl, by omega, by omega, hw, by omega, by omega, ?_⟩
      rw [show (many : Int).toNat = many from rfl]
      refine ⟨Nat.lt_of_le_of_lt (show _ ≤ 4 by rw [List.length_map]; exact Nat.le_trans (List.length_take_le' ..) hz2) (by decide), rfl, ?_⟩
      rw [take_succ_of hz, List.map_append]
      rfl
    rintro acc M8 ⟨rfl, rfl⟩
    rw [List.length_map, List.take_length]
    intro q8 hq8
    have l8 : MLe M8 _ := MLe.new (mo := .lst (zs.map fun z => D.int ((occ tw z many : Nat) : Int))) hq8
    have e8 : mupd M8 q8 (.lst (zs.map fun z => D.int ((occ tw z many : Nat) : Int))) q8 = some (.lst (zs.map fun z => D.int ((occ tw z many : Nat) : Int))) := mupd_same
    have hr8 := l8 _ _ hr7
    generalize mupd M8 q8 (.lst (zs.map fun z => D.int ((occ tw z many : Nat) : Int))) = M9 at l8 e8 hr8 ⊢
    walk_at "go"
    refine it_l hr8 ?_
    refine lc_by (fun i acc M' => M' = M9 ∧ acc = (zs.take i).map fun z => D.int ((occ tw z many : Nat) : Int)) ⟨rfl, rfl⟩ (fun _ _ _ _ h => by rw [h.1]; exact hr8) ?_ ?_
    · rintro i d acc M' hd ⟨rfl, rfl⟩
      rw [List.getElem?_map] at hd
      obtain ⟨z, hz, rfl⟩ := Option.map_eq_some_iff.mp hd
      walk_at "go"
      refine ⟨tw, z, (many : Int), _, rfl, by omega, by omega, hw, by omega, by omega, ?_⟩
      rw [show (many : Int).toNat = many from rfl]
      refine ⟨Nat.lt_of_le_of_lt (show _ ≤ 4 by rw [List.length_map]; exact Nat.le_trans (List.length_take_le' ..) hz2) (by decide), rfl, ?_⟩
      rw [take_succ_of hz, List.map_append]
      rfl
    rintro acc M10 ⟨rfl, rfl⟩
    rw [List.length_map, List.take_length]
    intro q10 hq10
    walk_at "go"
    refine ⟨_, _, rfl, .lst ((MLe.new hq10) _ _ e8) mupd_same rfl (fun i x y hx hy => ?_) (by rw [List.length_map]; omega), ?_⟩
    · rw [hx] at hy
      cases hy
      rw [List.getElem?_map] at hx
      obtain ⟨z, _, rfl⟩ := Option.map_eq_some_iff.mp hx
      exact .int _
    walk_at "go"
    have hdk := deepT_ok R
    have hdl := deepT_lv R
    have hdc := deepT_cnt R
    have hst := ends_steps (c := 400) hdk (show (deepT R).cnt ≤ 400 by omega) (Nat.lt_of_le_of_lt (Nat.pow_le_pow_right (by decide) (show (deepT R).lv ≤ 45 by omega)) (by decide +kernel))
    obtain ⟨c1, c2, c3⟩ := deep_cnt hRj
    generalize (deepC R 0 1).1 = f at c1 c2 c3 ⊢
    generalize (deepC R 0 1).2 = s at c1 c2 c3 ⊢
    have hsb := (hst _ c1).2
    have h4k : (2 : Nat) ^ 404 < 2 ^ 5000 := Nat.pow_lt_pow_right (by decide) (by decide)
    have h40 : (2 : Nat) ^ 404 = 16 * 2 ^ 400 := by rw [show 404 = 400 + 4 by rfl, Nat.pow_add]; omega
    have hfb := ends_lt c1
    simp only at hsb hfb
    have gs : Big (s : Int) := big_i (n := 400) (by omega)
    refine ⟨deepT R, "y", (f : Int) + s, _, rfl, by omega, by omega, hdk, by omega, by omega, ?_⟩
    rw [show ((f : Int) + s).toNat = f + s by omega, c2]
    walk_at "go"
    refine ⟨deepT R, "y", (f : Int) + 3 * s + 1, _, rfl, by omega, by omega, hdk, by omega, by omega, ?_⟩
    rw [show ((f : Int) + 3 * s + 1).toNat = f + 3 * s + 1 by omega, c3]
    walk_at "go"
    intro q11 hq11
    walk_at "go"
    intro q12 hq12
    walk_at "go"
    refine ⟨_, _, rfl, like2 ((MLe.new hq12) _ _ mupd_same) mupd_same (.int _) (.int _), ?_⟩
    walk_at "go"
    refine ⟨.leaf "a", "a", 0, (fun _ => True), rfl, by decide, by decide, trivial, by decide, by decide, ?_⟩
    rw [show occ (.leaf "a") "a" (0 : Int).toNat = 0 from rfl]
    walk_at "go"
    refine ⟨.leaf "a", "b", 9, (fun _ => True), rfl, by decide, by decide, trivial, by decide, by decide, ?_⟩
    rw [occ_none (t := .leaf "a") (z := "b") (fun j => by show ("a" : Str) ≠ "b"; decide)]
    walk_at "go"
    exact ⟨_, MLe.refl _, hq _⟩

end
end LW
namespace XG
open _root_.PySem _root_.PySem.W PyProof.Rows
set_option maxRecDepth 100000 in
set_option maxHeartbeats 0 in
theorem law_holds : _root_.PySem.Challenge.rw_turndeal_k21_counts_of_items.Holds := by
  w_on; o_law; k_head; (case hw => w_witness2)
  k_fill
  refine walk_lawX (x := "_law_script") (l := _root_.PySem.Challenge.rw_turndeal_k21_counts_of_items) (k := LW.lawLevel) rfl rfl LW.lawRoom (fun w h Y => _root_.PySem.W.kIn_of Y) ?F
  case F =>
    intro w mg fa h KX G hmg
    refine' LW.top_use KX G ?a0 ?l0 ?c0 ?k0 ?d0 ?a1 ?l1 ?c1 ?k1 ?a2 ?l2 ?c2 ?k2 ?a3 ?l3 ?c3 ?k3 ?a4 ?l4 ?c4 ?k4 ?a5 ?l5 ?c5 ?k5 ?a6 ?l6 ?c6 ?k6 ?a7 ?l7 ?c7 ?k7 ?a8 ?l8 ?c8 ?k8 ?a9 ?l9 ?c9 ?k9 ?a10 ?l10 ?c10 ?k10 ?a11 ?l11 ?c11 ?k11 ?a12 ?l12 ?c12 ?k12 ?a13 ?l13 ?c13 ?k13 ?a14 ?l14 ?c14 ?k14 ?a15 ?l15 ?c15 ?k15 ?a16 ?l16 ?c16 ?k16 ?z_all ?z_bool ?z_dict ?z_enumerate ?z_isinstance ?z_len ?z_list ?z_range ?z_set ?z_sorted ?z_str ?z_sum ?z_tuple ?fin
    (case a0 => k_is)
    (case l0 => k_is)
    (case c0 => k_is)
    (case k0 => k_is)
    (case d0 => k_is)
    (case a1 => k_is)
    (case l1 => k_is)
    (case c1 => k_is)
    (case k1 => k_is)
    (case a2 => k_is)
    (case l2 => k_is)
    (case c2 => k_is)
    (case k2 => k_is)
    (case a3 => k_is)
    (case l3 => k_is)
    (case c3 => k_is)
    (case k3 => k_is)
    (case a4 => k_is)
    (case l4 => k_is)
    (case c4 => k_is)
    (case k4 => k_is)
    (case a5 => k_is)
    (case l5 => k_is)
    (case c5 => k_is)
    (case k5 => k_is)
    (case a6 => k_is)
    (case l6 => k_is)
    (case c6 => k_is)
    (case k6 => k_is)
    (case a7 => k_is)
    (case l7 => k_is)
    (case c7 => k_is)
    (case k7 => k_is)
    (case a8 => k_is)
    (case l8 => k_is)
    (case c8 => k_is)
    (case k8 => k_is)
    (case a9 => k_is)
    (case l9 => k_is)
    (case c9 => k_is)
    (case k9 => k_is)
    (case a10 => k_is)
    (case l10 => k_is)
    (case c10 => k_is)
    (case k10 => k_is)
    (case a11 => k_is)
    (case l11 => k_is)
    (case c11 => k_is)
    (case k11 => k_is)
    (case a12 => k_is)
    (case l12 => k_is)
    (case c12 => k_is)
    (case k12 => k_is)
    (case a13 => k_is)
    (case l13 => k_is)
    (case c13 => k_is)
    (case k13 => k_is)
    (case a14 => k_is)
    (case l14 => k_is)
    (case c14 => k_is)
    (case k14 => k_is)
    (case a15 => k_is)
    (case l15 => k_is)
    (case c15 => k_is)
    (case k15 => k_is)
    (case a16 => k_is)
    (case l16 => k_is)
    (case c16 => k_is)
    (case k16 => k_is)
    (case z_all => k_is)
    (case z_bool => k_is)
    (case z_dict => k_is)
    (case z_enumerate => k_is)
    (case z_isinstance => k_is)
    (case z_len => k_is)
    (case z_list => k_is)
    (case z_range => k_is)
    (case z_set => k_is)
    (case z_sorted => k_is)
    (case z_str => k_is)
    (case z_sum => k_is)
    (case z_tuple => k_is)
    case fin => exact fun T => law_fdX T.t_law hmg LW.bd_law fun base _ _ => LW.ok_law T
end XG
theorem PySem.Challenge.cw_turndeal_k21_counts_of_items_holds : PySem.Challenge.rw_turndeal_k21_counts_of_items.Holds :=
  XG.law_holds

