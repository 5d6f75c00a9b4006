import PyProof.Rows.All
import HandS.Base
import HandS.Call
import HandS.Codes
import HandS.Comp
import HandS.Conv
import HandS.Deep
import HandS.Defaults
import HandS.EndTab
import HandS.Ends
import HandS.Exc
import HandS.ExcCtx
import HandS.ExcField
import HandS.ExcIs
import HandS.ExcOwn
import HandS.Head0
import HandS.Head1
import HandS.Head2
import HandS.HeadEnd
import HandS.HeadHook1
import HandS.HeadHook2
import HandS.HeadWalk
import HandS.Hot
import HandS.HotCalls
import HandS.IsInst
import HandS.Iter
import HandS.Lambda
import HandS.List
import HandS.MakeKwOnly
import HandS.More
import HandS.Set
import HandS.Strs
import HandS.Style
import HandS.Text
import HandS.TryMany
import HandS.TupAny
import HandS.TupLe
import HandS.TupMul
import HandS.Walk
import HandS.Wide
import HandS.Words
import HandS.WordsExc
import HandS.Zip
import KE.KStateDown
import Lean
import OpenK.AllK
import PyProof.EqAt
import PyProof.EqKinds
import PyProof.Rows.SetFrom
import PyProof.Rows.TupIter
import PyProof.TupleCall
import PyProof.ZipIter
import Wide.All
import Wide.FinOn
import PySem.Challenge.RW_roomnights_k13_houses_changed
set_option Elab.async false
set_option linter.all false
set_option maxRecDepth 100000
set_option maxHeartbeats 4000000
/-! Rm: values by value, an abstract heap, meanings of Python pieces as plain functions, and what ties them to HandS's readings. -/
namespace Rm
open PySem PySem.Spec PyProof.Rows L2
abbrev St := L2.St

/-! ### values, cells, results -/
inductive D where
  | non
  | bl (b : Bool)
  | int (i : Int)
  | str (s : Str)
  | tup (xs : List D)
  | fl (xs : List D)
  | kl (xs : List D)
  | lst (a : Nat)
  | ins (a : Nat)
  | adr (a : Nat)

inductive Cell where
  | dead
  | lst (xs : List D)
  | ins (C : Str) (fs : List (Str × D))

abbrev AH := List Cell
structure Er where
  cls : Str
  fld : Option (Str × D)
inductive R (α : Type) where
  | ok (a : α) (h : AH)
  | err (e : Er) (h : AH)
  | bad
def R.bind {α β : Type} (r : R α) (k : α → AH → R β) : R β := match r with
  | .ok a h => k a h
  | .err e h => .err e h
  | .bad => .bad
@[simp] theorem R.bind_ok {α β : Type} (a : α) (h : AH) (k : α → AH → R β) : (R.ok a h).bind k = k a h := rfl
@[simp] theorem R.bind_err {α β : Type} (e : Er) (h : AH) (k : α → AH → R β) : (R.err e h : R α).bind k = .err e h := rfl
@[simp] theorem R.bind_bad {α β : Type} (k : α → AH → R β) : (R.bad : R α).bind k = .bad := rfl

abbrev En := List (Option D)
/-- where the cells lie; what is hidden (a list that a comprehension is making) -/
structure Bt where
  b : List (Option Addr)
  hid : List Addr

/-! ### what stands for a value -/
def Off (β : Bt) (p : Addr) : Prop := ∀ i : Nat, β.b[i]? ≠ some (some p)
def NotIn (β : Bt) (p : Addr) : Prop := Off β p ∧ p ∉ β.hid
def kL (K : PySem.W.Frag) (p : Addr) (vs : List V) : Prop := ∃ (o : Obj) (its : Array Value) (n : Nat), K.lookup p = some o ∧ o.cls = .type "list" ∧ o.dict = none ∧ o.data = .seq its n ∧ its.size ≤ sizeLine ∧ Vals vs its.toList
def kT (K : PySem.W.Frag) (p : Addr) (vs : List V) : Prop := ∃ (o : Obj) (its : Array Value) (n : Nat), K.lookup p = some o ∧ o.cls = .type "tuple" ∧ o.data = .seq its n ∧ its.size ≤ sizeLine ∧ Vals vs its.toList
def KlAt (K : PySem.W.Frag) (β : Bt) (H : Hp) (p : Addr) (vs : List V) : Prop := (Rd H p (.lst vs) ∧ NotIn β p) ∨ kL K p vs
def FlAt (β : Bt) (H : Hp) (p : Addr) (vs : List V) : Prop := H p = some (.lst vs) ∧ NotIn β p
def TupAt (K : PySem.W.Frag) (β : Bt) (H : Hp) (p : Addr) (vs : List V) : Prop := (Rd H p (.tup vs) ∧ NotIn β p) ∨ kT K p vs
mutual
def Rep (K : PySem.W.Frag) (β : Bt) (H : Hp) : D → V → Prop
  | .non, v => v = .non
  | .bl b, v => v = .bl b
  | .int i, v => v = .int i
  | .str s, v => v = .str s
  | .tup xs, v => xs.length ≤ sizeLine ∧ ∃ p vs, v = .ref p ∧ TupAt K β H p vs ∧ Reps K β H xs vs
  | .fl xs, v => xs.length ≤ sizeLine ∧ ∃ p vs, v = .ref p ∧ FlAt β H p vs ∧ Reps K β H xs vs
  | .kl xs, v => xs.length ≤ sizeLine ∧ ∃ p vs, v = .ref p ∧ KlAt K β H p vs ∧ Reps K β H xs vs
  | .lst a, v => a < β.b.length ∧ ∀ p, β.b[a]? = some (some p) → v = .ref p
  | .ins a, v => a < β.b.length ∧ ∀ p, β.b[a]? = some (some p) → v = .ref p
  | .adr a, v => v = .ref a
def Reps (K : PySem.W.Frag) (β : Bt) (H : Hp) : List D → List V → Prop
  | [], vs => vs = []
  | x :: xs, vs => ∃ v r, vs = v :: r ∧ Rep K β H x v ∧ Reps K β H xs r
end
/-- fields by name -/
def Flds (K : PySem.W.Frag) (β : Bt) (H : Hp) : List (Str × D) → List (Str × V) → Prop
  | [], vs => vs = []
  | (f, x) :: xs, vs => ∃ v r, vs = (f, v) :: r ∧ Rep K β H x v ∧ Flds K β H xs r
/-- what is kept: what is no live cell stays; new cells are new -/
structure Ext (β : Bt) (H : Hp) (β' : Bt) (H' : Hp) : Prop where
  len : β.b.length ≤ β'.b.length
  old : ∀ (i : Nat) (p : Addr), i < β.b.length → β'.b[i]? = some (some p) → β.b[i]? = some (some p)
  new : ∀ (i : Nat) (p : Addr), β.b.length ≤ i → β'.b[i]? = some (some p) → H p = none
  hsub : ∀ p ∈ β.hid, p ∈ β'.hid
  hnew : ∀ p ∈ β'.hid, p ∈ β.hid ∨ H p = none
  per : ∀ p o, H p = some o → Off β p → (∀ ps, o ≠ .tbl ps) → H' p = some o
  dom : ∀ p, H p ≠ none → H' p ≠ none
def CellOk (K : PySem.W.Frag) (mg : Str → Option Value) (β : Bt) (H : Hp) (i : Nat) : Cell → Prop
  | .dead => β.b[i]? = some none
  | .lst xs => xs.length ≤ sizeLine ∧ ∃ p vs, β.b[i]? = some (some p) ∧ H p = some (.lst vs) ∧ Reps K β H xs vs
  | .ins C fs => ∃ p c dx gs, β.b[i]? = some (some p) ∧ mg C = some (.ref c) ∧ H p = some (.ins c dx gs) ∧ Flds K β H fs gs
/-! ### tables of code objects -/
/-- the code objects that K tells, each with its table and the name of what is within -/
def csAt (K : PySem.W.Frag) (c : Addr) (o : Obj) : Option (Addr × Addr × Str) := match o.data with
  | .fields vs => (match (vs[11]? : Option Value), (vs[1]? : Option Value) with
    | some (.ref P), some (.str q _) => if PySem.W.codeHdIn K c P && (K.lookup P).isNone then some (c, P, q ++ ".<locals>." ++ "<lambda>") else none
    | _, _ => none)
  | _ => none
def csOf (K : PySem.W.Frag) : List (Addr × Addr × Str) := K.filterMap fun x => csAt K x.1 x.2
def tabsOf (K : PySem.W.Frag) : List (Addr × Str) := (csOf K).map (·.2)
/-- neither table nor code object -/
def NoTab (o : HO) : Prop := (∀ ps, o ≠ .tbl ps) ∧ ∀ φ, o ≠ .ext φ
theorem Tabs.keep {T : List (Addr × Str)} {H H' : Hp} (t : LamX.Tabs T H) (e : ∀ b o, H b = some o → ¬ NoTab o → H' b = some o) : LamX.Tabs T H' := fun p hp => by
  obtain ⟨ps, h1, h2, h3⟩ := t p hp
  refine ⟨ps, e _ _ h1 (fun z => z.1 _ rfl), h2, fun pos cv hc => ?_⟩
  obtain ⟨c, e1, e2⟩ := h3 pos cv hc
  exact ⟨c, e1, e _ _ e2 (fun z => z.2 _ rfl)⟩
theorem NoTab.lst {xs : List V} : NoTab (.lst xs) := ⟨fun _ z => (by cases z), fun _ z => (by cases z)⟩
theorem NoTab.ins {c : Addr} {d : Addr} {fs : List (Str × V)} : NoTab (.ins c d fs) := ⟨fun _ z => (by cases z), fun _ z => (by cases z)⟩
theorem Tabs.upd {T : List (Addr × Str)} {H : Hp} {p : Addr} {o : HO} (t : LamX.Tabs T H) (n : ∀ u, H p = some u → NoTab u) : LamX.Tabs T (upd H p o) := Tabs.keep t fun b u e nt => by
  rw [upd_ne]; exact e
  intro z; subst z; exact nt (n u e)
structure Rl (K : PySem.W.Frag) (mg : Str → Option Value) (β : Bt) (h : AH) (H : Hp) : Prop where
  len : β.b.length = h.length
  inj : ∀ (i j : Nat) (p : Addr), β.b[i]? = some (some p) → β.b[j]? = some (some p) → i = j
  cell : ∀ (i : Nat) (c : Cell), h[i]? = some c → CellOk K mg β H i c
  hid : ∀ p ∈ β.hid, (∃ xs, H p = some (.lst xs)) ∧ Off β p
  tabs : LamX.Tabs (tabsOf K) H
structure RelE (K : PySem.W.Frag) (β : Bt) (H : Hp) (env : En) (σ : St) : Prop where
  len : env.length = σ.length
  at_ : ∀ (i : Nat) (d : D), env[i]? = some (some d) → ∃ v, σ[i]? = some (some v) ∧ Rep K β H d v
def ErOk (K : PySem.W.Frag) (mg : Str → Option Value) (β : Bt) (H : Hp) (e : Er) (cls : Value) (dd : Option Addr) : Prop :=
  ∃ C, mg e.cls = some (.ref C) ∧ cls = .ref C ∧ match e.fld with
    | none => dd = none
    | some (n, x) => ∃ a v, dd = some a ∧ H a = some (.xd [(n, v)]) ∧ NotIn β a ∧ Rep K β H x v

section
variable {K : PySem.W.Frag} {mg : Str → Option Value} {β β' β'' : Bt} {H H' H'' : Hp} {h h' : AH}

theorem Ext.off (x : Ext β H β' H') {p : Addr} (hp : H p ≠ none) (n : Off β p) : Off β' p := fun i e => by
  rcases Nat.lt_or_ge i β.b.length with hi | hi
  · exact n i (x.old i p hi e)
  · exact hp (x.new i p hi e)
theorem Ext.notIn (x : Ext β H β' H') {p : Addr} (hp : H p ≠ none) (n : NotIn β p) : NotIn β' p := ⟨x.off hp n.1, fun e => (x.hnew p e).elim n.2 hp⟩
theorem Ext.refl : Ext β H β H := ⟨Nat.le_refl _, fun _ _ _ e => e, fun i p hi e => (by rw [List.getElem?_eq_none hi] at e; cases e), fun _ e => e, fun _ e => .inl e, fun _ _ e _ _ => e, fun _ e => e⟩
theorem Ext.trans (a : Ext β H β' H') (b : Ext β' H' β'' H'') : Ext β H β'' H'' where
  len := Nat.le_trans a.len b.len
  old := fun i p hi e => a.old i p hi (b.old i p (Nat.lt_of_lt_of_le hi a.len) e)
  new := fun i p hi e => by
    rcases Nat.lt_or_ge i β'.b.length with h1 | h1
    · exact a.new i p hi (b.old i p h1 e)
    · have z := b.new i p h1 e
      cases q : H p with
      | none => rfl
      | some o => exact absurd z (a.dom p (by rw [q]; simp))
  hsub := fun p e => b.hsub p (a.hsub p e)
  hnew := fun p e => (b.hnew p e).elim (a.hnew p) fun z => by
    cases q : H p with
    | none => exact .inr rfl
    | some o => exact absurd z (a.dom p (by rw [q]; simp))
  per := fun p o e n t => b.per p o (a.per p o e n t) (a.off (by rw [e]; simp) n) t
  dom := fun p e => b.dom p (a.dom p e)
theorem Rd.ext (x : Ext β H β' H') {p : Addr} {u : HO} (r : Rd H p u) (n : NotIn β p) (hu : ∀ ps, u ≠ .tbl ps) : Rd H' p u ∧ NotIn β' p := by
  rcases r with r | ⟨o, r⟩
  · exact ⟨.inl (x.per p _ r n.1 hu), x.notIn (by rw [r]; simp) n⟩
  · exact ⟨.inr ⟨o, x.per p _ r n.1 (fun ps z => by cases z)⟩, x.notIn (by rw [r]; simp) n⟩
theorem KlAt.ext (x : Ext β H β' H') {p : Addr} {vs : List V} (r : KlAt K β H p vs) : KlAt K β' H' p vs := by
  rcases r with ⟨r, n⟩ | r
  · exact .inl (Rd.ext x r n fun ps z => by cases z)
  · exact .inr r
theorem FlAt.ext (x : Ext β H β' H') {p : Addr} {vs : List V} (r : FlAt β H p vs) : FlAt β' H' p vs :=
  ⟨x.per p _ r.1 r.2.1 (fun ps z => by cases z), x.notIn (by rw [r.1]; simp) r.2⟩
theorem TupAt.ext (x : Ext β H β' H') {p : Addr} {vs : List V} (r : TupAt K β H p vs) : TupAt K β' H' p vs := by
  rcases r with ⟨r, n⟩ | r
  · exact .inl (Rd.ext x r n fun ps z => by cases z)
  · exact .inr r
mutual
theorem Rep.ext (x : Ext β H β' H') : ∀ (d : D) (v : V), Rep K β H d v → Rep K β' H' d v
  | .non, _, r => r
  | .bl _, _, r => r
  | .int _, _, r => r
  | .str _, _, r => r
  | .tup xs, _, ⟨z, p, vs, e, t, r⟩ => ⟨z, p, vs, e, t.ext x, Reps.ext x xs vs r⟩
  | .fl xs, _, ⟨z, p, vs, e, t, r⟩ => ⟨z, p, vs, e, t.ext x, Reps.ext x xs vs r⟩
  | .kl xs, _, ⟨z, p, vs, e, t, r⟩ => ⟨z, p, vs, e, t.ext x, Reps.ext x xs vs r⟩
  | .lst a, _, ⟨l, r⟩ => ⟨Nat.lt_of_lt_of_le l x.len, fun p e => r p (x.old a p l e)⟩
  | .ins a, _, ⟨l, r⟩ => ⟨Nat.lt_of_lt_of_le l x.len, fun p e => r p (x.old a p l e)⟩
  | .adr _, _, r => r
theorem Reps.ext (x : Ext β H β' H') : ∀ (ds : List D) (vs : List V), Reps K β H ds vs → Reps K β' H' ds vs
  | [], _, r => r
  | d :: ds, _, ⟨v, r, e, r1, r2⟩ => ⟨v, r, e, Rep.ext x d v r1, Reps.ext x ds r r2⟩
end
theorem Flds.ext (x : Ext β H β' H') : ∀ {fs : List (Str × D)} {gs : List (Str × V)}, Flds K β H fs gs → Flds K β' H' fs gs
  | [], _, r => r
  | (_, _) :: _, _, ⟨v, r, e, r1, r2⟩ => ⟨v, r, e, r1.ext x, Flds.ext x r2⟩
theorem RelE.ext (x : Ext β H β' H') {env : En} {σ : St} (r : RelE K β H env σ) : RelE K β' H' env σ :=
  ⟨r.len, fun i d e => let ⟨v, e1, r1⟩ := r.at_ i d e; ⟨v, e1, r1.ext x⟩⟩
theorem Reps.length : ∀ {ds : List D} {vs : List V}, Reps K β H ds vs → ds.length = vs.length
  | [], _, r => by cases r; rfl
  | _ :: _, _, ⟨v, r, e, _, r2⟩ => by rw [e]; simp [Reps.length r2]
theorem Reps.append : ∀ {ds es : List D} {vs us : List V}, Reps K β H ds vs → Reps K β H es us → Reps K β H (ds ++ es) (vs ++ us)
  | [], _, _, _, r, s => by cases r; exact s
  | _ :: _, _, _, _, ⟨v, r, e, r1, r2⟩, s => ⟨v, r ++ _, by rw [e]; rfl, r1, Reps.append r2 s⟩
theorem Reps.get : ∀ {ds : List D} {vs : List V} {i : Nat} {d : D}, Reps K β H ds vs → ds[i]? = some d → ∃ v, vs[i]? = some v ∧ Rep K β H d v
  | [], _, _, _, _, e => by simp at e
  | _ :: _, _, 0, _, ⟨v, r, e, r1, _⟩, q => by cases q; rw [e]; exact ⟨v, rfl, r1⟩
  | _ :: _, _, i + 1, _, ⟨v, r, e, _, r2⟩, q => by
    obtain ⟨u, h1, h2⟩ := Reps.get (i := i) r2 (by simpa using q)
    rw [e]
    exact ⟨u, by simpa using h1, h2⟩
theorem Reps.getV : ∀ {ds : List D} {vs : List V} {i : Nat} {v : V}, Reps K β H ds vs → vs[i]? = some v → ∃ d, ds[i]? = some d ∧ Rep K β H d v
  | [], _, _, _, r, e => by cases r; simp at e
  | d :: _, _, 0, _, ⟨v, r, e, r1, _⟩, q => by rw [e] at q; cases q; exact ⟨d, rfl, r1⟩
  | _ :: _, _, i + 1, _, ⟨v, r, e, _, r2⟩, q => by
    rw [e] at q
    obtain ⟨u, h1, h2⟩ := Reps.getV (i := i) r2 (by simpa using q)
    exact ⟨u, by simpa using h1, h2⟩
theorem Reps.set : ∀ {ds : List D} {vs : List V} (i : Nat) {d : D} {v : V}, Reps K β H ds vs → Rep K β H d v → Reps K β H (ds.set i d) (vs.set i v)
  | [], _, _, _, _, r, _ => by cases r; exact rfl
  | _ :: _, _, 0, _, _, ⟨v, r, e, _, r2⟩, q => by rw [e]; exact ⟨_, r, rfl, q, r2⟩
  | _ :: _, _, i + 1, _, _, ⟨v, r, e, r1, r2⟩, q => by rw [e]; exact ⟨v, r.set i _, rfl, r1, Reps.set i r2 q⟩
theorem Reps.take : ∀ {ds : List D} {vs : List V} (n : Nat), Reps K β H ds vs → Reps K β H (ds.take n) (vs.take n)
  | _, _, 0, _ => by simp [Reps]
  | [], _, n + 1, r => by cases r; simp [Reps]
  | _ :: _, _, n + 1, ⟨v, r, e, r1, r2⟩ => by rw [e]; exact ⟨v, r.take n, rfl, r1, Reps.take n r2⟩
theorem Reps.drop : ∀ {ds : List D} {vs : List V} (n : Nat), Reps K β H ds vs → Reps K β H (ds.drop n) (vs.drop n)
  | _, _, 0, r => r
  | [], _, n + 1, r => by cases r; simp [Reps]
  | _ :: _, _, n + 1, ⟨v, r, e, _, r2⟩ => by rw [e]; exact Reps.drop n r2
theorem Reps.one {d : D} {v : V} (r : Rep K β H d v) : Reps K β H [d] [v] := ⟨v, [], rfl, r, rfl⟩
theorem KlAt.sq {p : Addr} {vs : List V} (r : KlAt K β H p vs) : SqL K H p vs := by
  rcases r with ⟨r, _⟩ | r
  · exact .inl r
  · exact .inr r
theorem FlAt.sq {p : Addr} {vs : List V} (r : FlAt β H p vs) : SqL K H p vs := SqL.of r.1
theorem TupAt.sq {p : Addr} {vs : List V} (r : TupAt K β H p vs) : SqT K H p vs := by
  rcases r with ⟨r, _⟩ | r
  · exact .inl r
  · exact .inr r

/-! ### heaps that grow -/
theorem Ext.upd_new {p : Addr} {o : HO} (hp : H p = none) : Ext β H β (upd H p o) :=
  ⟨Nat.le_refl _, fun _ _ _ e => e, fun i p hi e => (by rw [List.getElem?_eq_none hi] at e; cases e), fun _ e => e, fun _ e => .inl e, fun q u e _ _ => (by rw [upd_ne (ne_of_none e hp)]; exact e),
    fun q e => (by
      by_cases z : q = p
      · subst z; exact absurd hp e
      · rw [upd_ne z]; exact e)⟩
/-- what lies outside of the cells has grown -/
theorem Rl.hidN (rl : Rl K mg β h H) {p : Addr} (hp : p ∈ β.hid) : H p ≠ none := by
  obtain ⟨xs, e⟩ := (rl.hid p hp).1
  rw [e]; simp
theorem Rl.grow (rl : Rl K mg β h H) (x : Ext β H β H') (k : ∀ p, H p ≠ none → H' p = H p) : Rl K mg β h H' := by
  refine ⟨rl.len, rl.inj, fun i c e => ?_, fun p hp => ⟨?_, (rl.hid p hp).2⟩, rl.tabs.ext fun b o e => by rw [k b (by rw [e]; simp)]; exact e⟩
  rotate_left
  · obtain ⟨xs, e⟩ := (rl.hid p hp).1
    exact ⟨xs, by rw [k p (by rw [e]; simp)]; exact e⟩
  have q := rl.cell i c e
  cases c with
  | dead => exact q
  | lst xs =>
    obtain ⟨z, p, vs, e1, e2, r⟩ := q
    exact ⟨z, p, vs, e1, by rw [k p (by rw [e2]; simp)]; exact e2, r.ext x⟩
  | ins C fs =>
    obtain ⟨p, c, dx, gs, e1, e2, e3, r⟩ := q
    exact ⟨p, c, dx, gs, e1, e2, by rw [k p (by rw [e3]; simp)]; exact e3, r.ext x⟩
theorem Rl.upd_new (rl : Rl K mg β h H) {p : Addr} {o : HO} (hp : H p = none) : Rl K mg β h (upd H p o) :=
  rl.grow (Ext.upd_new hp) fun q e => upd_ne (fun z => by subst z; exact e hp)
theorem Rl.live (rl : Rl K mg β h H) {i : Nat} {p : Addr} (e : β.b[i]? = some (some p)) : H p ≠ none ∧ ((∃ vs, H p = some (.lst vs)) ∨ ∃ c dx gs, H p = some (.ins c dx gs)) := by
  have hi : i < β.b.length := (List.getElem?_eq_some_iff.mp e).1
  have hi2 : i < h.length := by rw [← rl.len]; exact hi
  have q := rl.cell i h[i] (List.getElem?_eq_getElem hi2)
  cases hc : h[i] with
  | dead => rw [hc] at q; have q : β.b[i]? = some none := q; rw [e] at q; cases q
  | lst xs =>
    rw [hc] at q
    obtain ⟨_, p', vs, e1, e2, _⟩ := q
    rw [e] at e1; cases e1
    exact ⟨by rw [e2]; simp, .inl ⟨vs, e2⟩⟩
  | ins C fs =>
    rw [hc] at q
    obtain ⟨p', c, dx, gs, e1, _, e3, _⟩ := q
    rw [e] at e1; cases e1
    exact ⟨by rw [e3]; simp, .inr ⟨c, dx, gs, e3⟩⟩
theorem Rl.off_new (rl : Rl K mg β h H) {p : Addr} (hp : H p = none) : Off β p := fun i e => (rl.live e).1 hp
theorem Rl.notIn_new (rl : Rl K mg β h H) {p : Addr} (hp : H p = none) : NotIn β p := ⟨rl.off_new hp, fun e => rl.hidN e hp⟩
theorem Rl.liveN (rl : Rl K mg β h H) {i : Nat} {p : Addr} (e : β.b[i]? = some (some p)) : ∀ u, H p = some u → NoTab u := fun u eu => by
  rcases (rl.live e).2 with ⟨vs, e2⟩ | ⟨c, dx, gs, e2⟩
  · rw [e2] at eu; cases eu; exact .lst
  · rw [e2] at eu; cases eu; exact .ins
/-- a new cell -/
theorem Ext.push {p : Addr} {o : HO} (hp : H p = none) : Ext β H ⟨β.b ++ [some p], β.hid⟩ (upd H p o) where
  len := by simp
  old := fun i q hi e => by rw [List.getElem?_append_left hi] at e; exact e
  new := fun i q hi e => by
    rw [List.getElem?_append_right hi] at e
    cases j : i - β.b.length with
    | zero => rw [j] at e; cases e; exact hp
    | succ n => rw [j] at e; simp at e
  hsub := fun _ e => e
  hnew := fun _ e => .inl e
  per := fun q u e _ _ => by rw [upd_ne (ne_of_none e hp)]; exact e
  dom := (Ext.upd_new (β := β) hp).dom
theorem getElem?_snoc {α : Type} {l : List α} {x : α} {i : Nat} {y : α} (e : (l ++ [x])[i]? = some y) : (i < l.length ∧ l[i]? = some y) ∨ (i = l.length ∧ y = x) := by
  rcases Nat.lt_or_ge i l.length with hi | hi
  · rw [List.getElem?_append_left hi] at e; exact .inl ⟨hi, e⟩
  · rw [List.getElem?_append_right hi] at e
    cases j : i - l.length with
    | zero => rw [j] at e; cases e; exact .inr ⟨by omega, rfl⟩
    | succ n => rw [j] at e; simp at e
theorem CellOk.ext (x : Ext β H β' H') (hb : ∀ (i : Nat) (p : Option Addr), β.b[i]? = some p → β'.b[i]? = some p) (k : ∀ (i : Nat) (p : Addr), β.b[i]? = some (some p) → H' p = H p) {i : Nat} {c : Cell} (q : CellOk K mg β H i c) : CellOk K mg β' H' i c := by
  cases c with
  | dead => exact hb _ _ q
  | lst xs =>
    obtain ⟨z, p, vs, e1, e2, r⟩ := q
    exact ⟨z, p, vs, hb _ _ e1, by rw [k i p e1]; exact e2, r.ext x⟩
  | ins C fs =>
    obtain ⟨p, c, dx, gs, e1, e2, e3, r⟩ := q
    exact ⟨p, c, dx, gs, hb _ _ e1, e2, by rw [k i p e1]; exact e3, r.ext x⟩
theorem Rl.push (rl : Rl K mg β h H) {p : Addr} {vs : List V} {xs : List D} (hp : H p = none) (hz : xs.length ≤ sizeLine) (r : Reps K β H xs vs) : Rl K mg ⟨β.b ++ [some p], β.hid⟩ (h ++ [.lst xs]) (upd H p (.lst vs)) := by
  have x : Ext β H ⟨β.b ++ [some p], β.hid⟩ (upd H p (.lst vs)) := Ext.push hp
  refine ⟨by simp [rl.len], fun i j q e1 e2 => ?_, fun i c e => ?_, fun q hq => ⟨?_, x.off (rl.hidN hq) (rl.hid q hq).2⟩, Tabs.upd rl.tabs fun u eu => by rw [hp] at eu; cases eu⟩
  rotate_right
  · obtain ⟨ys, ey⟩ := (rl.hid q hq).1
    exact ⟨ys, by rw [upd_ne (ne_of_none ey hp)]; exact ey⟩
  · rcases getElem?_snoc e1 with ⟨l1, e1⟩ | ⟨l1, e1⟩ <;> rcases getElem?_snoc e2 with ⟨l2, e2⟩ | ⟨l2, e2⟩
    · exact rl.inj i j q e1 e2
    · cases e2; exact absurd hp (rl.live e1).1
    · cases e1; exact absurd hp (rl.live e2).1
    · omega
  · rcases getElem?_snoc e with ⟨l, e⟩ | ⟨l, e⟩
    · refine (rl.cell i c e).ext x (fun j q e => ?_) fun j q e => upd_ne fun z => by subst z; exact (rl.live e).1 hp
      rw [List.getElem?_append_left (List.getElem?_eq_some_iff.mp e).1]; exact e
    · subst e; subst l
      exact ⟨hz, p, vs, by rw [← rl.len, List.getElem?_append_right (Nat.le_refl _)]; simp, upd_same, r.ext x⟩
/-- a cell is written -/
theorem Ext.write {i : Nat} {p : Addr} {o : HO} (e : β.b[i]? = some (some p)) : Ext β H β (upd H p o) :=
  ⟨Nat.le_refl _, fun _ _ _ e => e, fun i p hi e => (by rw [List.getElem?_eq_none hi] at e; cases e), fun _ e => e, fun _ e => .inl e, fun q u e1 n _ => (by rw [upd_ne (fun z => by subst z; exact n i e)]; exact e1),
    fun q e1 => (by
      by_cases z : q = p
      · subst z; rw [upd_same]; simp
      · rw [upd_ne z]; exact e1)⟩
theorem Rl.write (rl : Rl K mg β h H) {i : Nat} {p : Addr} {vs : List V} {xs : List D} (e : β.b[i]? = some (some p)) (hz : xs.length ≤ sizeLine) (r : Reps K β H xs vs) : Rl K mg β (h.set i (.lst xs)) (upd H p (.lst vs)) := by
  have x : Ext β H β (upd H p (.lst vs)) := Ext.write e
  refine ⟨by simp [rl.len], rl.inj, fun j c ec => ?_, fun q hq => ⟨?_, (rl.hid q hq).2⟩, Tabs.upd rl.tabs (rl.liveN e)⟩
  rotate_left
  · obtain ⟨ys, ey⟩ := (rl.hid q hq).1
    exact ⟨ys, by rw [upd_ne (fun z => by subst z; exact (rl.hid q hq).2 i e)]; exact ey⟩
  by_cases hj : j = i
  · subst hj
    have hl : j < h.length := by rw [← rl.len]; exact (List.getElem?_eq_some_iff.mp e).1
    rw [List.getElem?_set_self hl] at ec
    cases ec
    exact ⟨hz, p, vs, e, upd_same, r.ext x⟩
  · rw [List.getElem?_set_ne (Ne.symm hj)] at ec
    have q := rl.cell j c ec
    cases c with
    | dead => exact q
    | lst ys =>
      obtain ⟨z, q, us, e1, e2, r⟩ := q
      exact ⟨z, q, us, e1, by rw [upd_ne (fun z => by subst z; exact hj (rl.inj _ _ _ e1 e))]; exact e2, r.ext x⟩
    | ins C fs =>
      obtain ⟨q, c, dx, gs, e1, e2, e3, r⟩ := q
      exact ⟨q, c, dx, gs, e1, e2, by rw [upd_ne (fun z => by subst z; exact hj (rl.inj _ _ _ e1 e))]; exact e3, r.ext x⟩
theorem Rl.at_lst (rl : Rl K mg β h H) {a : Nat} {xs : List D} {v : V} (e : h[a]? = some (.lst xs)) (r : Rep K β H (.lst a) v) :
    xs.length ≤ sizeLine ∧ ∃ p vs, v = .ref p ∧ β.b[a]? = some (some p) ∧ H p = some (.lst vs) ∧ Reps K β H xs vs := by
  obtain ⟨z, p, vs, e1, e2, r2⟩ := rl.cell a _ e
  exact ⟨z, p, vs, r.2 p e1, e1, e2, r2⟩
/-- a cell is given up: its list lies there for good -/
theorem Ext.kill {i : Nat} {p : Addr} (e : β.b[i]? = some (some p)) : Ext β H ⟨β.b.set i none, β.hid⟩ H where
  len := by simp
  old := fun j q _ e1 => by
    by_cases hj : j = i
    · subst hj
      rw [List.getElem?_set_self (List.getElem?_eq_some_iff.mp e).1] at e1; cases e1
    · rw [List.getElem?_set_ne (Ne.symm hj)] at e1; exact e1
  new := fun j q hj e1 => by rw [List.getElem?_eq_none (by simpa using hj)] at e1; cases e1
  hsub := fun _ e => e
  hnew := fun _ e => .inl e
  per := fun _ _ e1 _ _ => e1
  dom := fun _ e1 => e1
theorem Rl.kill (rl : Rl K mg β h H) {i : Nat} {p : Addr} (e : β.b[i]? = some (some p)) : Rl K mg ⟨β.b.set i none, β.hid⟩ (h.set i .dead) H := by
  have x : Ext β H ⟨β.b.set i none, β.hid⟩ H := Ext.kill e
  have hil : i < β.b.length := (List.getElem?_eq_some_iff.mp e).1
  refine ⟨by simp [rl.len], fun j k q e1 e2 => ?_, fun j c ec => ?_, fun q hq => ⟨(rl.hid q hq).1, x.off (rl.hidN hq) (rl.hid q hq).2⟩, rl.tabs⟩
  · have hj : j < β.b.length := by have := (List.getElem?_eq_some_iff.mp e1).1; simpa using this
    have hk : k < β.b.length := by have := (List.getElem?_eq_some_iff.mp e2).1; simpa using this
    exact rl.inj j k q (x.old j q hj e1) (x.old k q hk e2)
  · by_cases hj : j = i
    · subst hj
      rw [List.getElem?_set_self (by rw [← rl.len]; exact hil)] at ec
      cases ec
      show (β.b.set j none)[j]? = some none
      rw [List.getElem?_set_self hil]
    · rw [List.getElem?_set_ne (Ne.symm hj)] at ec
      have q := rl.cell j c ec
      have hb : ∀ o, β.b[j]? = some o → (β.b.set i none)[j]? = some o := fun o e1 => by rw [List.getElem?_set_ne (Ne.symm hj)]; exact e1
      cases c with
      | dead => exact hb _ q
      | lst ys =>
        obtain ⟨z, q, us, e1, e2, r⟩ := q
        exact ⟨z, q, us, hb _ e1, e2, r.ext x⟩
      | ins C fs =>
        obtain ⟨q, c, dx, gs, e1, e2, e3, r⟩ := q
        exact ⟨q, c, dx, gs, hb _ e1, e2, e3, r.ext x⟩
theorem Rl.notIn_kill (rl : Rl K mg β h H) {i : Nat} {p : Addr} (e : β.b[i]? = some (some p)) : NotIn ⟨β.b.set i none, β.hid⟩ p := by
  refine ⟨fun j e1 => ?_, fun hp => (rl.hid p hp).2 i e⟩
  have e1 : (β.b.set i none)[j]? = some (some p) := e1
  have hil : i < β.b.length := (List.getElem?_eq_some_iff.mp e).1
  by_cases hj : j = i
  · subst hj
    rw [List.getElem?_set_self hil] at e1; cases e1
  · rw [List.getElem?_set_ne (Ne.symm hj)] at e1
    exact hj (rl.inj _ _ _ e1 e)
/-! ### hidden lists -/
theorem NotIn.unhide {β : Bt} {D p : Addr} {x : List Addr} (n : NotIn ⟨β.b, x⟩ p) (hx : ∀ q ∈ β.hid, q ∈ x) : NotIn β p := ⟨n.1, fun e => n.2 (hx p e)⟩
mutual
theorem Rep.unhide {x : List Addr} (hx : ∀ q ∈ β.hid, q ∈ x) : ∀ (d : D) (v : V), Rep K ⟨β.b, x⟩ H d v → Rep K β H d v
  | .non, _, r => r
  | .bl _, _, r => r
  | .int _, _, r => r
  | .str _, _, r => r
  | .tup xs, _, ⟨z, p, vs, e, t, r⟩ => ⟨z, p, vs, e, t.imp (fun t => ⟨t.1, t.2.1, fun q => t.2.2 (hx p q)⟩) id, Reps.unhide hx xs vs r⟩
  | .fl xs, _, ⟨z, p, vs, e, t, r⟩ => ⟨z, p, vs, e, ⟨t.1, t.2.1, fun q => t.2.2 (hx p q)⟩, Reps.unhide hx xs vs r⟩
  | .kl xs, _, ⟨z, p, vs, e, t, r⟩ => ⟨z, p, vs, e, t.imp (fun t => ⟨t.1, t.2.1, fun q => t.2.2 (hx p q)⟩) id, Reps.unhide hx xs vs r⟩
  | .lst _, _, r => r
  | .ins _, _, r => r
  | .adr _, _, r => r
theorem Reps.unhide {x : List Addr} (hx : ∀ q ∈ β.hid, q ∈ x) : ∀ (ds : List D) (vs : List V), Reps K ⟨β.b, x⟩ H ds vs → Reps K β H ds vs
  | [], _, r => r
  | d :: ds, _, ⟨v, r, e, r1, r2⟩ => ⟨v, r, e, Rep.unhide hx d v r1, Reps.unhide hx ds r r2⟩
end
theorem Flds.unhide {x : List Addr} (hx : ∀ q ∈ β.hid, q ∈ x) : ∀ {fs : List (Str × D)} {gs : List (Str × V)}, Flds K ⟨β.b, x⟩ H fs gs → Flds K β H fs gs
  | [], _, r => r
  | (_, _) :: _, _, ⟨v, r, e, r1, r2⟩ => ⟨v, r, e, r1.unhide hx, Flds.unhide hx r2⟩
theorem Rl.unhide {x : List Addr} (hx : ∀ q ∈ β.hid, q ∈ x) (rl : Rl K mg ⟨β.b, x⟩ h H) : Rl K mg β h H := by
  refine ⟨rl.len, rl.inj, fun i c e => ?_, fun p hp => rl.hid p (hx p hp), rl.tabs⟩
  have q := rl.cell i c e
  cases c with
  | dead => exact q
  | lst xs =>
    obtain ⟨z, p, vs, e1, e2, r⟩ := q
    exact ⟨z, p, vs, e1, e2, Reps.unhide hx _ _ r⟩
  | ins C fs =>
    obtain ⟨p, c, dx, gs, e1, e2, e3, r⟩ := q
    exact ⟨p, c, dx, gs, e1, e2, e3, r.unhide hx⟩
/-- a new object is hidden -/
theorem Ext.hide {D : Addr} {o : HO} (hD : H D = none) : Ext β H ⟨β.b, D :: β.hid⟩ (upd H D o) where
  len := Nat.le_refl _
  old := fun _ _ _ e => e
  new := fun i p hi e => by rw [List.getElem?_eq_none hi] at e; cases e
  hsub := fun _ e => List.mem_cons_of_mem _ e
  hnew := fun p e => (List.mem_cons.mp e).elim (fun z => .inr (by rw [z]; exact hD)) .inl
  per := fun q u e _ _ => by rw [upd_ne (ne_of_none e hD)]; exact e
  dom := (Ext.upd_new (β := β) hD).dom
theorem Rl.hide (rl : Rl K mg β h H) {D : Addr} {xs : List V} (hD : H D = none) : Rl K mg ⟨β.b, D :: β.hid⟩ h (upd H D (.lst xs)) := by
  have x : Ext β H ⟨β.b, D :: β.hid⟩ (upd H D (.lst xs)) := Ext.hide hD
  have nd : ∀ p, H p ≠ none → p ≠ D := fun p e z => by subst z; exact e hD
  refine ⟨rl.len, rl.inj, fun i c e => ?_, fun p hp => ?_, Tabs.upd rl.tabs fun u eu => by rw [hD] at eu; cases eu⟩
  · exact (rl.cell i c e).ext x (fun _ _ e => e) fun j p e => upd_ne (nd p (rl.live e).1)
  · rcases List.mem_cons.mp hp with z | hp
    · subst z; exact ⟨⟨xs, upd_same⟩, rl.off_new hD⟩
    · obtain ⟨ys, ey⟩ := (rl.hid p hp).1
      exact ⟨⟨ys, by rw [upd_ne (ne_of_none ey hD)]; exact ey⟩, (rl.hid p hp).2⟩
/-- a hidden object is written -/
theorem NotIn.ne {p D : Addr} (n : NotIn β p) (hD : D ∈ β.hid) : p ≠ D := fun z => by subst z; exact n.2 hD
theorem Rd.hidw {D p : Addr} {o u : HO} (n : p ≠ D) (r : Rd H p u) : Rd (upd H D o) p u := by
  rcases r with r | ⟨q, r⟩
  · exact .inl (by rw [upd_ne n]; exact r)
  · exact .inr ⟨q, by rw [upd_ne n]; exact r⟩
mutual
theorem Rep.hidw {D : Addr} {o : HO} (hD : D ∈ β.hid) : ∀ (d : Rm.D) (v : V), Rep K β H d v → Rep K β (upd H D o) d v
  | .non, _, r => r
  | .bl _, _, r => r
  | .int _, _, r => r
  | .str _, _, r => r
  | .tup xs, _, ⟨z, p, vs, e, t, r⟩ => ⟨z, p, vs, e, t.imp (fun t => ⟨Rd.hidw (t.2.ne hD) t.1, t.2⟩) id, Reps.hidw hD xs vs r⟩
  | .fl xs, _, ⟨z, p, vs, e, t, r⟩ => ⟨z, p, vs, e, ⟨by rw [upd_ne (t.2.ne hD)]; exact t.1, t.2⟩, Reps.hidw hD xs vs r⟩
  | .kl xs, _, ⟨z, p, vs, e, t, r⟩ => ⟨z, p, vs, e, t.imp (fun t => ⟨Rd.hidw (t.2.ne hD) t.1, t.2⟩) id, Reps.hidw hD xs vs r⟩
  | .lst _, _, r => r
  | .ins _, _, r => r
  | .adr _, _, r => r
theorem Reps.hidw {D : Addr} {o : HO} (hD : D ∈ β.hid) : ∀ (ds : List Rm.D) (vs : List V), Reps K β H ds vs → Reps K β (upd H D o) ds vs
  | [], _, r => r
  | d :: ds, _, ⟨v, r, e, r1, r2⟩ => ⟨v, r, e, Rep.hidw hD d v r1, Reps.hidw hD ds r r2⟩
end
theorem Flds.hidw {D : Addr} {o : HO} (hD : D ∈ β.hid) : ∀ {fs : List (Str × Rm.D)} {gs : List (Str × V)}, Flds K β H fs gs → Flds K β (upd H D o) fs gs
  | [], _, r => r
  | (_, _) :: _, _, ⟨v, r, e, r1, r2⟩ => ⟨v, r, e, r1.hidw hD, Flds.hidw hD r2⟩
theorem Rl.hidw (rl : Rl K mg β h H) {D : Addr} {xs : List V} (hD : D ∈ β.hid) : Rl K mg β h (upd H D (.lst xs)) := by
  have off := (rl.hid D hD).2
  refine ⟨rl.len, rl.inj, fun i c e => ?_, fun p hp => ⟨?_, (rl.hid p hp).2⟩, Tabs.upd rl.tabs fun u eu => by
    obtain ⟨ys, ey⟩ := (rl.hid D hD).1
    rw [ey] at eu; cases eu; exact .lst⟩
  · have q := rl.cell i c e
    cases c with
    | dead => exact q
    | lst xs =>
      obtain ⟨z, p, vs, e1, e2, r⟩ := q
      exact ⟨z, p, vs, e1, by rw [upd_ne (fun z => by subst z; exact off i e1)]; exact e2, Reps.hidw hD _ _ r⟩
    | ins C fs =>
      obtain ⟨p, c, dx, gs, e1, e2, e3, r⟩ := q
      exact ⟨p, c, dx, gs, e1, e2, by rw [upd_ne (fun z => by subst z; exact off i e1)]; exact e3, r.hidw hD⟩
  · by_cases z : p = D
    · subst z; exact ⟨xs, upd_same⟩
    · obtain ⟨ys, ey⟩ := (rl.hid p hp).1
      exact ⟨ys, by rw [upd_ne z]; exact ey⟩
theorem RelE.hidw {D : Addr} {o : HO} (hD : D ∈ β.hid) {env : En} {σ : St} (r : RelE K β H env σ) : RelE K β (upd H D o) env σ :=
  ⟨r.len, fun i d e => let ⟨v, e1, r1⟩ := r.at_ i d e; ⟨v, e1, r1.hidw hD⟩⟩
/-- what was not there may be written at will -/
theorem Ext.over (x : Ext β H β' H') {D : Addr} {o : HO} (hD : H D = none) : Ext β H β' (upd H' D o) where
  len := x.len
  old := x.old
  new := x.new
  hsub := x.hsub
  hnew := x.hnew
  per := fun q u e n t => by rw [upd_ne (ne_of_none e hD)]; exact x.per q u e n t
  dom := fun q e => by
    by_cases z : q = D
    · subst z; exact absurd hD e
    · rw [upd_ne z]; exact x.dom q e
theorem Ext.unhide {y : List Addr} (x : Ext β H β' H') : Ext β H ⟨β'.b, β.hid⟩ H' := ⟨x.len, x.old, x.new, fun _ e => e, fun _ e => .inl e, x.per, x.dom⟩
end
end Rm

namespace Rm
open PySem PySem.Spec PyProof.Rows L2

/-! ### outcomes -/
def OutG {α : Type} (K : PySem.W.Frag) (mg : Str → Option Value) (E : XK) (β : Bt) (H : Hp) (r : R α) (P : α → Bt → AH → Hp → Prop) : Prop := match r with
  | .ok a h' => ∀ β' H', Ext β H β' H' → Rl K mg β' h' H' → P a β' h' H'
  | .err e h' => ∀ β' H' cls dd, Ext β H β' H' → Rl K mg β' h' H' → ErOk K mg β' H' e cls dd → E cls dd H'
  | .bad => False
section
variable {K : PySem.W.Frag} {mg : Str → Option Value} {E : XK} {β β1 : Bt} {H H1 : Hp} {h h1 : AH} {α γ : Type}
theorem OutG.weak {r : R α} {P : α → Bt → AH → Hp → Prop} (x : Ext β H β1 H1) (o : OutG K mg E β H r P) : OutG K mg E β1 H1 r P := by
  cases r with
  | ok a h' => exact fun β' H' y rl => o β' H' (x.trans y) rl
  | err e h' => exact fun β' H' c d y rl er => o β' H' c d (x.trans y) rl er
  | bad => exact o
theorem OutG.mono {r : R α} {P P' : α → Bt → AH → Hp → Prop} (o : OutG K mg E β H r P) (k : ∀ a β' h' H', Ext β H β' H' → Rl K mg β' h' H' → P a β' h' H' → P' a β' h' H') : OutG K mg E β H r P' := by
  cases r with
  | ok a h' => exact fun β' H' y rl => k a β' h' H' y rl (o β' H' y rl)
  | err e h' => exact o
  | bad => exact o
theorem OutG.bind {r : R α} {k : α → AH → R γ} {P : γ → Bt → AH → Hp → Prop} (o : OutG K mg E β H (r.bind k) P) : OutG K mg E β H r fun a β' h' H' => OutG K mg E β' H' (k a h') P := by
  cases r with
  | ok a h' => exact fun β' H' y _ => OutG.weak y o
  | err e h' => exact o
  | bad => exact o
theorem OutG.ok {a : α} {P : α → Bt → AH → Hp → Prop} (o : OutG K mg E β H (.ok a h) P) (rl : Rl K mg β h H) : P a β h H := o β H Ext.refl rl
theorem OutG.okx {a : α} {P : α → Bt → AH → Hp → Prop} (o : OutG K mg E β H (.ok a h) P) (x : Ext β H β1 H1) (rl : Rl K mg β1 h H1) : P a β1 h H1 := o β1 H1 x rl
end
abbrev PV (K : PySem.W.Frag) (Q : VK) : D → Bt → AH → Hp → Prop := fun d β' _ H' => ∀ v, Rep K β' H' d v → Q v H'
abbrev PVs (K : PySem.W.Frag) (Q : List V → Hp → Prop) : List D → Bt → AH → Hp → Prop := fun ds β' _ H' => ∀ vs, Reps K β' H' ds vs → Q vs H'
abbrev PB (Q : Bool → Hp → Prop) : Bool → Bt → AH → Hp → Prop := fun b _ _ H' => Q b H'

abbrev Ev := En → AH → R D
abbrev Tv := En → AH → R Bool
abbrev Av := En → AH → R (List D)
inductive Fl where
  | nx (env : En)
  | rt (d : D)
  | bk (env : En)
  | ct (env : En)
abbrev Sv := En → AH → R Fl
abbrev Gv := D → En → AH → R En
abbrev PF (K : PySem.W.Frag) (Dn : Ends) : Fl → Bt → AH → Hp → Prop := fun fl β' _ H' => match fl with
  | .nx env => ∀ σ', RelE K β' H' env σ' → Dn.nx σ' H'
  | .rt d => ∀ v, Rep K β' H' d v → Dn.rt v H'
  | .bk env => ∀ σ', RelE K β' H' env σ' → Dn.bk σ' H'
  | .ct env => ∀ σ', RelE K β' H' env σ' → Dn.ct σ' H'
abbrev PEn (K : PySem.W.Frag) (Q : St → Hp → Prop) : En → Bt → AH → Hp → Prop := fun env β' _ H' => ∀ σ', RelE K β' H' env σ' → Q σ' H'

/-! ### readings of meanings -/
def TX (K : PySem.W.Frag) (mg : Str → Option Value) (E : XK) (f : Ev) : TE := fun σ H Q => ∃ β env h, Rl K mg β h H ∧ RelE K β H env σ ∧ OutG K mg E β H (f env h) (PV K Q)
def TT (K : PySem.W.Frag) (mg : Str → Option Value) (E : XK) (f : Tv) : L2.TT := fun σ H Q => ∃ β env h, Rl K mg β h H ∧ RelE K β H env σ ∧ OutG K mg E β H (f env h) (PB Q)
def TAr (K : PySem.W.Frag) (mg : Str → Option Value) (E : XK) (f : Av) : TA := fun σ H Q => ∃ β env h, Rl K mg β h H ∧ RelE K β H env σ ∧ OutG K mg E β H (f env h) (PVs K Q)
def TSt (K : PySem.W.Frag) (mg : Str → Option Value) (E : XK) (f : Sv) : TS := fun Dn σ H => ∃ β env h, Rl K mg β h H ∧ RelE K β H env σ ∧ OutG K mg E β H (f env h) (PF K Dn)
def TGt (K : PySem.W.Frag) (mg : Str → Option Value) (E : XK) (g : Gv) : TG := fun v σ H Q => ∃ β env h d, Rl K mg β h H ∧ RelE K β H env σ ∧ Rep K β H d v ∧ OutG K mg E β H (g d env h) (PEn K Q)

def Ex (X : Cx) (E : XK) (e : Expr) (f : Ev) : Prop := PE X e (TX X.K X.mg E f)
def Tx (X : Cx) (E : XK) (e : Expr) (f : Tv) : Prop := PT X e (TT X.K X.mg E f)
def Wx (X : Cx) (E : XK) (e : Expr) (f : Tv) : Prop := PW X e (TT X.K X.mg E f)
def Ax (X : Cx) (E : XK) (es : List Expr) (f : Av) : Prop := PA X es (TAr X.K X.mg E f)
def Sx (X : Cx) (E : XK) (st : Stmt) (f : Sv) : Prop := PS X st (TSt X.K X.mg E f)
def Bx (X : Cx) (E : XK) (sts : List Stmt) (f : Sv) : Prop := PSs X sts (TSt X.K X.mg E f)
def Gx (X : Cx) (E : XK) (tg : Expr) (g : Gv) : Prop := PG X tg (TGt X.K X.mg E g)

theorem pe_imp {X : Cx} {e : Expr} {t t' : TE} (h : PE X e t) (k : ∀ σ H Q, t' σ H Q → t σ H Q) : PE X e t' := ⟨fun pins s σ H Q I q => h.run pins s σ H Q I (k σ H Q q)⟩
theorem pt_imp {X : Cx} {e : Expr} {t t' : L2.TT} (h : PT X e t) (k : ∀ σ H Q, t' σ H Q → t σ H Q) : PT X e t' := ⟨fun pins s σ H Q I q => h.run pins s σ H Q I (k σ H Q q)⟩
theorem pw_imp {X : Cx} {e : Expr} {t t' : L2.TT} (h : PW X e t) (k : ∀ σ H Q, t' σ H Q → t σ H Q) : PW X e t' := ⟨fun w pins s σ H Q I q => h.run w pins s σ H Q I (k σ H Q q)⟩
theorem pa_imp {X : Cx} {es : List Expr} {t t' : TA} (h : PA X es t) (k : ∀ σ H Q, t' σ H Q → t σ H Q) : PA X es t' := ⟨fun pos pins s σ H Q I q => h.run pos pins s σ H Q I (k σ H Q q)⟩
theorem ps_imp {X : Cx} {st : Stmt} {t t' : TS} (h : PS X st t) (k : ∀ Dn σ H, t' Dn σ H → t Dn σ H) : PS X st t' := ⟨fun pins s σ H Dn I q => h.run pins s σ H Dn I (k Dn σ H q)⟩
theorem pss_imp {X : Cx} {st : List Stmt} {t t' : TS} (h : PSs X st t) (k : ∀ Dn σ H, t' Dn σ H → t Dn σ H) : PSs X st t' := ⟨fun pins s σ H Dn I q => h.run pins s σ H Dn I (k Dn σ H q)⟩
theorem pg_imp {X : Cx} {tg : Expr} {t t' : TG} (h : PG X tg t) (k : ∀ v σ H Q, t' v σ H Q → t v σ H Q) : PG X tg t' := ⟨fun pins s σ H v u Q I r q => h.run pins s σ H v u Q I r (k v σ H Q q)⟩

/-! ### meanings -/
def mLoc (i : Nat) : Ev := fun env h => match env[i]? with
  | some (some d) => .ok d h
  | _ => .bad
def mCon (d : D) : Ev := fun _ h => .ok d h
def m2 (g : D → D → AH → R D) (fa fb : Ev) : Ev := fun env h => (fa env h).bind fun a h1 => (fb env h1).bind fun b h2 => g a b h2
def m1 (g : D → AH → R D) (fa : Ev) : Ev := fun env h => (fa env h).bind fun a h1 => g a h1
def mNil : Av := fun _ h => .ok [] h
def mCons (fe : Ev) (fr : Av) : Av := fun env h => (fe env h).bind fun a h1 => (fr env h1).bind fun ds h2 => .ok (a :: ds) h2
def SL : Nat := 16777216
theorem SL_eq : sizeLine = SL := sizeLine_eq
def mTup (es : Av) : Ev := fun env h => (es env h).bind fun ds h1 => if ds.length ≤ SL then .ok (.tup ds) h1 else .bad
def mLf (es : Av) : Ev := fun env h => (es env h).bind fun ds h1 => if ds.length ≤ SL then .ok (.fl ds) h1 else .bad
def mLm (es : Av) : Ev := fun env h => (es env h).bind fun ds h1 => if ds.length ≤ SL then .ok (.lst h1.length) (h1 ++ [.lst ds]) else .bad
def mCall (sem : List D → AH → R D) (es : Av) : Ev := fun env h => (es env h).bind fun ds h1 => sem ds h1
def rdT (h : AH) : D → Option (List D)
  | .fl xs => some xs
  | .lst a => match h[a]? with
    | some (.lst xs) => some xs
    | _ => none
  | _ => none
def rdL (h : AH) : D → Option (List D)
  | .fl xs => some xs
  | .kl xs => some xs
  | .lst a => match h[a]? with
    | some (.lst xs) => some xs
    | _ => none
  | _ => none
def rdS (h : AH) : D → Option (List D)
  | .tup xs => some xs
  | d => rdL h d

section
variable {X : Cx} {E : XK} {pos : Pos}
theorem x_loc (i : Nat) {x : Str} (hN : X.N[i]? = some x := by rfl) (hv : Vis X.env.scope x := by first | exact Or.inl rfl | exact Or.inr (Or.inl rfl) | exact Or.inr (Or.inr rfl)) (hd : (x == ("__debug__" : Str)) = false := by decide)
    (hcd : (x == ("__classdict__" : Str)) = false := by decide) : Ex X E (.Name x pos) (mLoc i) :=
  pe_imp (pe_var hN hv hd hcd) fun σ H Q ⟨β, env, h, rl, re, o⟩ => by
    unfold mLoc at o
    cases e : env[i]? with
    | none => rw [e] at o; exact o.elim
    | some od =>
      cases od with
      | none => rw [e] at o; exact o.elim
      | some d =>
        rw [e] at o
        obtain ⟨v, e1, r⟩ := re.at_ i d e
        exact ⟨v, e1, o.ok rl v r⟩
theorem x_con {e : Expr} {v : V} {d : D} (h : PE X e (tC v)) (r : ∀ β H, Rep X.K β H d v) : Ex X E e (mCon d) :=
  pe_imp h fun σ H Q ⟨β, env, hh, rl, re, o⟩ => o.ok rl v (r β H)
theorem x_int {i : Int} {j : Nat} : Ex X E (.Constant (.int i) j pos) (mCon (.int i)) := x_con pe_int fun _ _ => rfl
theorem x_bl {b : Bool} {j : Nat} : Ex X E (.Constant (.bool b) j pos) (mCon (.bl b)) := x_con pe_bl fun _ _ => rfl
theorem x_non {j : Nat} : Ex X E (.Constant .none j pos) (mCon .non) := x_con pe_non fun _ _ => rfl
theorem x_str {z : Str} {j : Nat} : Ex X E (.Constant (.str z) j pos) (mCon (.str z)) := x_con pe_str fun _ _ => rfl
/-- a module's constant that is an int -/
theorem x_gint {x : Str} {i : Int} (hm : ∃ t, X.mg x = some (.int i t)) (hg : Gl X x := by rfl) (hd : (x == ("__debug__" : Str)) = false := by decide) : Ex X E (.Name x pos) (mCon (.int i)) := by
  obtain ⟨t, hm⟩ := hm
  exact x_con (v := .int i) (pe_glob hg hm ⟨t, rfl⟩ hd) fun _ _ => rfl
theorem x_gstr {x : Str} {i : Str} (hm : ∃ t, X.mg x = some (.str i t)) (hg : Gl X x := by rfl) (hd : (x == ("__debug__" : Str)) = false := by decide) : Ex X E (.Name x pos) (mCon (.str i)) := by
  obtain ⟨t, hm⟩ := hm
  exact x_con (v := .str i) (pe_glob hg hm ⟨t, rfl⟩ hd) fun _ _ => rfl

/-! operators by values -/
def OpX (X : Cx) (E : XK) (f : Value → Value → Sem Value) (g : D → D → AH → R D) : Prop :=
  ∃ r, OpR X f r ∧ ∀ β h H a b x y Q, Rl X.K X.mg β h H → Rep X.K β H a x → Rep X.K β H b y → OutG X.K X.mg E β H (g a b h) (PV X.K Q) → r x y H Q
theorem tx2 {fa fb : Ev} {g : D → D → AH → R D} {σ : St} {H : Hp} {Q : VK} {r : R2} {K : PySem.W.Frag} {mg : Str → Option Value}
    (hr : ∀ β h H a b x y Q, Rl K mg β h H → Rep K β H a x → Rep K β H b y → OutG K mg E β H (g a b h) (PV K Q) → r x y H Q)
    (q : TX K mg E (m2 g fa fb) σ H Q) : tOp r (TX K mg E fa) (TX K mg E fb) σ H Q := by
  obtain ⟨β, env, h, rl, re, o⟩ := q
  refine ⟨β, env, h, rl, re, (OutG.bind o).mono fun a β1 h1 H1 x1 rl1 o1 v1 r1 => ⟨β1, env, h1, rl1, re.ext x1, (OutG.bind o1).mono fun b β2 h2 H2 x2 rl2 o2 v2 r2 => ?_⟩⟩
  exact hr β2 h2 H2 a b v1 v2 Q rl2 (r1.ext x2) r2 o2
theorem x_bin {a b : Expr} {op : Operator} {fa fb : Ev} {g : D → D → AH → R D} (ho : OpX X E (binaryOp op) g) (ha : Ex X E a fa) (hb : Ex X E b fb) : Ex X E (.BinOp a op b pos) (m2 g fa fb) := by
  obtain ⟨r, h1, h2⟩ := ho
  exact pe_imp (pe_op h1 ha hb) fun σ H Q q => tx2 h2 q
theorem x_cmp {a b : Expr} {op : CmpOp} {fa fb : Ev} {g : D → D → AH → R D} (ho : OpX X E (compareOp op) g) (ha : Ex X E a fa) (hb : Ex X E b fb) (hm : behindInMarks op b = false := by rfl) : Ex X E (.Compare a [op] [b] pos) (m2 g fa fb) := by
  obtain ⟨r, h1, h2⟩ := ho
  exact pe_imp (pe_cmpR h1 ha hb hm) fun σ H Q q => tx2 h2 q
def UnX (X : Cx) (E : XK) (f : Value → Sem Value) (g : D → AH → R D) : Prop :=
  ∃ r, UnR X f r ∧ ∀ β h H a x Q, Rl X.K X.mg β h H → Rep X.K β H a x → OutG X.K X.mg E β H (g a h) (PV X.K Q) → r x H Q
theorem x_un {a : Expr} {op : UnaryOp} {fa : Ev} {g : D → AH → R D} (ho : UnX X E (unaryOp op) g) (ha : Ex X E a fa) : Ex X E (.UnaryOp op a pos) (m1 g fa) := by
  obtain ⟨r, h1, h2⟩ := ho
  exact pe_imp (pe_un h1 ha) fun σ H Q ⟨β, env, h, rl, re, o⟩ => ⟨β, env, h, rl, re, (OutG.bind o).mono fun a β1 h1 H1 x1 rl1 o1 v1 r1 => h2 β1 h1 H1 a v1 Q rl1 r1 o1⟩

/-! tests -/
def tBl (g : D → AH → R D) : D → AH → R D := g
def asB : D → AH → R Bool
  | .bl b, h => .ok b h
  | _, _ => .bad
/-- an expression's value is a bool: as a test -/
def mTest (f : Ev) : Tv := fun env h => (f env h).bind fun d h1 => asB d h1
theorem TX.test {f : Ev} {σ : St} {H : Hp} {Q : Bool → Hp → Prop} {K : PySem.W.Frag} {mg : Str → Option Value} (q : TT K mg E (mTest f) σ H Q) : TX K mg E f σ H fun x H' => ∃ k, x = .bl k ∧ Q k H' := by
  obtain ⟨β, env, h, rl, re, o⟩ := q
  refine ⟨β, env, h, rl, re, (OutG.bind o).mono fun d β1 h1 H1 x1 rl1 o1 v1 r1 => ?_⟩
  cases d with
  | bl b => exact ⟨b, r1, o1.ok rl1⟩
  | _ => exact o1.elim
theorem t_cmp {a b : Expr} {op : CmpOp} {fa fb : Ev} {g : D → D → AH → R D} (ho : OpX X E (compareOp op) g) (ha : Ex X E a fa) (hb : Ex X E b fb) (hm : behindInMarks op b = false := by rfl) : Tx X E (.Compare a [op] [b] pos) (mTest (m2 g fa fb)) := by
  obtain ⟨r, h1, h2⟩ := ho
  refine pt_imp (pt_cmpR h1 ha hb hm) fun σ H Q q => ?_
  exact tx2 h2 (TX.test q)
theorem t_val {e : Expr} {f : Ev} (h : Ex X E e f) (he : ∀ whole, isTrue e X.env whole = (do let v ← whole; standAt e.pos; holding [v] (truthy v)) := by intro _; rfl) : Tx X E e (mTest f) :=
  pt_imp (pt_val h he) fun σ H Q q => TX.test q
def mNotT (f : Tv) : Tv := fun env h => (f env h).bind fun b h1 => .ok (!b) h1
theorem t_not {a : Expr} {f : Tv} (ha : Tx X E a f) : Tx X E (.UnaryOp .Not a pos) (mNotT f) :=
  pt_imp (pt_not ha) fun σ H Q ⟨β, env, h, rl, re, o⟩ => ⟨β, env, h, rl, re, (OutG.bind o).mono fun b β1 h1 H1 x1 rl1 o1 => o1.ok rl1⟩
def mAndT (f g : Tv) : Tv := fun env h => (f env h).bind fun b h1 => if b = true then g env h1 else .ok false h1
def mOrT (f g : Tv) : Tv := fun env h => (f env h).bind fun b h1 => if b = true then .ok true h1 else g env h1
variable {a b : Expr} {rest : List Expr}
theorem w_and1 {f : Tv} (ha : Tx X E a f) : Wx X E (.BoolOp .And [a] pos) f := pw_and1 ha
theorem w_or1 {f : Tv} (ha : Tx X E a f) : Wx X E (.BoolOp .Or [a] pos) f := pw_or1 ha
theorem w_and {f g : Tv} (ha : Tx X E a f) (hb : Wx X E (.BoolOp .And (b :: rest) pos) g) : Wx X E (.BoolOp .And (a :: b :: rest) pos) (mAndT f g) :=
  pw_imp (pw_and ha hb) fun σ H Q ⟨β, env, h, rl, re, o⟩ => ⟨β, env, h, rl, re, (OutG.bind o).mono fun c β1 h1 H1 x1 rl1 o1 => by
    cases c with
    | true => exact ⟨β1, env, h1, rl1, re.ext x1, o1⟩
    | false => exact o1.ok rl1⟩
theorem w_or {f g : Tv} (ha : Tx X E a f) (hb : Wx X E (.BoolOp .Or (b :: rest) pos) g) : Wx X E (.BoolOp .Or (a :: b :: rest) pos) (mOrT f g) :=
  pw_imp (pw_or ha hb) fun σ H Q ⟨β, env, h, rl, re, o⟩ => ⟨β, env, h, rl, re, (OutG.bind o).mono fun c β1 h1 H1 x1 rl1 o1 => by
    cases c with
    | false => exact ⟨β1, env, h1, rl1, re.ext x1, o1⟩
    | true => exact o1.ok rl1⟩
theorem t_w {e : Expr} {f : Tv} (h : Wx X E e f) : Tx X E e f := PW.pt h
/-- and, or, not as values -/
def mAnd (f g : Ev) : Ev := fun env h => (f env h).bind fun d h1 => (asB d h1).bind fun b h1 => if b = true then g env h1 else .ok (.bl false) h1
def mOr (f g : Ev) : Ev := fun env h => (f env h).bind fun d h1 => (asB d h1).bind fun b h1 => if b = true then .ok (.bl true) h1 else g env h1
def mNot (f : Ev) : Ev := fun env h => (f env h).bind fun d h1 => (asB d h1).bind fun b h1 => .ok (.bl (!b)) h1
theorem x_one {op : BoolOp} {f : Ev} (h : Ex X E a f) : Ex X E (.BoolOp op [a] pos) f := pe_one h
theorem x_and {f g : Ev} (ha : Ex X E a f) (hb : Ex X E (.BoolOp .And (b :: rest) pos) g) : Ex X E (.BoolOp .And (a :: b :: rest) pos) (mAnd f g) :=
  pe_imp (pe_and ha hb) fun σ H Q ⟨β, env, h, rl, re, o⟩ => ⟨β, env, h, rl, re, (OutG.bind o).mono fun d β1 h1 H1 x1 rl1 o1 v r => by
    cases d with
    | bl c =>
      refine ⟨c, r, ?_⟩
      cases c with
      | true => exact ⟨β1, env, h1, rl1, re.ext x1, o1⟩
      | false => exact o1.ok rl1 _ rfl
    | _ => exact o1.elim⟩
theorem x_or {f g : Ev} (ha : Ex X E a f) (hb : Ex X E (.BoolOp .Or (b :: rest) pos) g) : Ex X E (.BoolOp .Or (a :: b :: rest) pos) (mOr f g) :=
  pe_imp (pe_or ha hb) fun σ H Q ⟨β, env, h, rl, re, o⟩ => ⟨β, env, h, rl, re, (OutG.bind o).mono fun d β1 h1 H1 x1 rl1 o1 v r => by
    cases d with
    | bl c =>
      refine ⟨c, r, ?_⟩
      cases c with
      | false => exact ⟨β1, env, h1, rl1, re.ext x1, o1⟩
      | true => exact o1.ok rl1 _ rfl
    | _ => exact o1.elim⟩
theorem x_not {f : Ev} (ha : Ex X E a f) : Ex X E (.UnaryOp .Not a pos) (mNot f) :=
  pe_imp (pe_not ha) fun σ H Q ⟨β, env, h, rl, re, o⟩ => ⟨β, env, h, rl, re, (OutG.bind o).mono fun d β1 h1 H1 x1 rl1 o1 v r => by
    cases d with
    | bl c => exact ⟨c, r, o1.ok rl1 _ rfl⟩
    | _ => exact o1.elim⟩
def mIfE (c : Tv) (f g : Ev) : Ev := fun env h => (c env h).bind fun b h1 => if b = true then f env h1 else g env h1
theorem x_ife {c : Expr} {fc : Tv} {f g : Ev} (hc : Tx X E c fc) (ha : Ex X E a f) (hb : Ex X E b g) : Ex X E (.IfExp c a b pos) (mIfE fc f g) :=
  pe_imp (pe_ifExp hc ha hb) fun σ H Q ⟨β, env, h, rl, re, o⟩ => ⟨β, env, h, rl, re, (OutG.bind o).mono fun c β1 h1 H1 x1 rl1 o1 => by
    cases c with
    | true => exact ⟨β1, env, h1, rl1, re.ext x1, o1⟩
    | false => exact ⟨β1, env, h1, rl1, re.ext x1, o1⟩⟩
/-- a < b < c -/
def m3c (g g' : D → D → AH → R D) (fa fb fc : Ev) : Ev := fun env h => (fa env h).bind fun a h1 => (fb env h1).bind fun b h2 => (g a b h2).bind fun z h3 => (asB z h3).bind fun k h3 => if k = true then (fc env h3).bind fun c h4 => g' b c h4 else .ok (.bl false) h3
theorem chain_ok {r r' : R2} {g g' : D → D → AH → R D} {fa fb fc : Ev} {σ : St} {H : Hp} {Q : VK} {K : PySem.W.Frag} {mg : Str → Option Value}
    (hr : ∀ β h H a b x y Q, Rl K mg β h H → Rep K β H a x → Rep K β H b y → OutG K mg E β H (g a b h) (PV K Q) → r x y H Q)
    (hr' : ∀ β h H a b x y Q, Rl K mg β h H → Rep K β H a x → Rep K β H b y → OutG K mg E β H (g' a b h) (PV K Q) → r' x y H Q)
    (q : TX K mg E (m3c g g' fa fb fc) σ H Q) : tChain r r' (TX K mg E fa) (TX K mg E fb) (TX K mg E fc) σ H Q := by
  obtain ⟨β, env, h, rl, re, o⟩ := q
  refine ⟨β, env, h, rl, re, (OutG.bind o).mono fun a β1 h1 H1 x1 rl1 o1 v1 r1 => ⟨β1, env, h1, rl1, re.ext x1, (OutG.bind o1).mono fun b β2 h2 H2 x2 rl2 o2 v2 r2 => ?_⟩⟩
  refine hr β2 h2 H2 a b v1 v2 _ rl2 (r1.ext x2) r2 ((OutG.bind o2).mono fun z β3 h3 H3 x3 rl3 o3 v3 r3 => ?_)
  cases z with
  | bl k =>
    refine ⟨k, r3, ?_⟩
    cases k with
    | true =>
      have o3' : OutG K mg E β3 H3 ((fc env h3).bind fun c h4 => g' b c h4) (PV K Q) := o3
      exact ⟨β3, env, h3, rl3, ((re.ext x1).ext x2).ext x3, (OutG.bind o3').mono fun c β4 h4 H4 x4 rl4 o4 v4 r4 => hr' β4 h4 H4 b c v2 v4 Q rl4 ((r2.ext x3).ext x4) r4 o4⟩
    | false => exact o3.ok rl3 _ rfl
  | _ => exact o3.elim
theorem x_chain {c : Expr} {op op' : CmpOp} {g g' : D → D → AH → R D} {fa fb fc : Ev} (ho : OpX X E (compareOp op) g) (ho' : OpX X E (compareOp op') g') (ha : Ex X E a fa) (hb : Ex X E b fb) (hc : Ex X E c fc)
    (hm : lastMarks [op, op'] [b, c] = false := by rfl) : Ex X E (.Compare a [op, op'] [b, c] pos) (m3c g g' fa fb fc) := by
  obtain ⟨r, h1, h2⟩ := ho
  obtain ⟨r', h1', h2'⟩ := ho'
  exact pe_imp (pe_chain h1 h1' ha hb hc hm) fun σ H Q q => chain_ok h2 h2' q
theorem t_chain {c : Expr} {op op' : CmpOp} {g g' : D → D → AH → R D} {fa fb fc : Ev} (ho : OpX X E (compareOp op) g) (ho' : OpX X E (compareOp op') g') (ha : Ex X E a fa) (hb : Ex X E b fb) (hc : Ex X E c fc)
    (hm : lastMarks [op, op'] [b, c] = false := by rfl) : Tx X E (.Compare a [op, op'] [b, c] pos) (mTest (m3c g g' fa fb fc)) := by
  obtain ⟨r, h1, h2⟩ := ho
  obtain ⟨r', h1', h2'⟩ := ho'
  exact pt_imp (pt_chain h1 h1' ha hb hc hm) fun σ H Q q => chain_ok h2 h2' (TX.test q)

/-! arguments, displays -/
theorem ar_nil : Ax X E [] mNil := pa_imp pa_nil fun σ H Q ⟨β, env, h, rl, re, o⟩ => o.ok rl [] rfl
theorem ar_cons {e : Expr} {es : List Expr} {fe : Ev} {fr : Av} (he : Ex X E e fe) (hr : Ax X E es fr) (hs : starEach (e :: es) X.env = (false, eval e X.env) :: starEach es X.env := by rfl) : Ax X E (e :: es) (mCons fe fr) :=
  pa_imp (pa_cons he hr hs) fun σ H Q ⟨β, env, h, rl, re, o⟩ => ⟨β, env, h, rl, re, (OutG.bind o).mono fun a β1 h1 H1 x1 rl1 o1 v1 r1 => ⟨β1, env, h1, rl1, re.ext x1, (OutG.bind o1).mono fun ds β2 h2 H2 x2 rl2 o2 vs rs => o2.ok rl2 (v1 :: vs) ⟨v1, vs, rfl, r1.ext x2, rs⟩⟩⟩
theorem Rep.newTup {K : PySem.W.Frag} {mg : Str → Option Value} {β : Bt} {h : AH} {H : Hp} {ds : List D} {vs : List V} {p : Addr} (rl : Rl K mg β h H) (hp : H p = none) (r : Reps K β H ds vs) (hz : ds.length ≤ SL) : Rep K β (upd H p (.tup vs)) (.tup ds) (.ref p) := by
  refine ⟨by rw [SL_eq]; exact hz, p, vs, rfl, .inl ⟨.inl upd_same, rl.notIn_new hp⟩, r.ext (Ext.upd_new hp)⟩
theorem Rep.newFl {K : PySem.W.Frag} {mg : Str → Option Value} {β : Bt} {h : AH} {H : Hp} {ds : List D} {vs : List V} {p : Addr} (rl : Rl K mg β h H) (hp : H p = none) (r : Reps K β H ds vs) (hz : ds.length ≤ SL) : Rep K β (upd H p (.lst vs)) (.fl ds) (.ref p) := by
  refine ⟨by rw [SL_eq]; exact hz, p, vs, rfl, ⟨upd_same, rl.notIn_new hp⟩, r.ext (Ext.upd_new hp)⟩
theorem Rep.newLst {K : PySem.W.Frag} {β : Bt} {H : Hp} {p : Addr} : Rep K ⟨β.b ++ [some p], β.hid⟩ H (.lst β.b.length) (.ref p) := by
  refine ⟨by simp, fun q e => ?_⟩
  have e : (β.b ++ [some p])[β.b.length]? = some (some q) := e
  rw [List.getElem?_append_right (Nat.le_refl _)] at e
  simp at e
  rw [e]
theorem x_tup {es : List Expr} {f : Av} {x1} (h : Ax X E es f) : Ex X E (.Tuple es x1 pos) (mTup f) :=
  pe_imp (pe_tup h) fun σ H Q ⟨β, env, hh, rl, re, o⟩ => ⟨β, env, hh, rl, re, (OutG.bind o).mono fun ds β1 h1 H1 x1 rl1 o1 vs rs => by
    by_cases hz : ds.length ≤ SL
    · rw [if_pos hz] at o1
      exact ⟨by rw [SL_eq, ← rs.length]; exact hz, fun p hp => o1.okx (Ext.upd_new hp) (rl1.upd_new hp) _ (Rep.newTup rl1 hp rs hz)⟩
    · rw [if_neg hz] at o1; exact o1.elim⟩
theorem x_lf {es : List Expr} {f : Av} (h : Ax X E es f) : Ex X E (.List es pos) (mLf f) :=
  pe_imp (pe_lst h) fun σ H Q ⟨β, env, hh, rl, re, o⟩ => ⟨β, env, hh, rl, re, (OutG.bind o).mono fun ds β1 h1 H1 x1 rl1 o1 vs rs => by
    by_cases hz : ds.length ≤ SL
    · rw [if_pos hz] at o1
      exact ⟨by rw [SL_eq, ← rs.length]; exact hz, fun p hp => o1.okx (Ext.upd_new hp) (rl1.upd_new hp) _ (Rep.newFl rl1 hp rs hz)⟩
    · rw [if_neg hz] at o1; exact o1.elim⟩
theorem x_lm {es : List Expr} {f : Av} (h : Ax X E es f) : Ex X E (.List es pos) (mLm f) :=
  pe_imp (pe_lst h) fun σ H Q ⟨β, env, hh, rl, re, o⟩ => ⟨β, env, hh, rl, re, (OutG.bind o).mono fun ds β1 h1 H1 x1 rl1 o1 vs rs => by
    by_cases hz : ds.length ≤ SL
    · rw [if_pos hz] at o1
      refine ⟨by rw [SL_eq, ← rs.length]; exact hz, fun p hp => o1.okx (Ext.push hp) (rl1.push hp (by rw [SL_eq]; exact hz) rs) _ ?_⟩
      rw [← rl1.len]
      exact Rep.newLst
    · rw [if_neg hz] at o1; exact o1.elim⟩

/-! calls -/
def spS (K : PySem.W.Frag) (mg : Str → Option Value) (n : Nat) (sem : List D → AH → R D) : Sp := fun vs H Q E => vs.length = n ∧ ∃ β h ds, Rl K mg β h H ∧ Reps K β H ds vs ∧ OutG K mg E β H (sem ds h) (PV K Q)
theorem spS_of {K : PySem.W.Frag} {mg : Str → Option Value} {n : Nat} {sem : List D → AH → R D} {β : Bt} {h : AH} {H : Hp} {ds : List D} {vs : List V} {Q : VK} (hl : ∀ ds h, ds.length ≠ n → sem ds h = .bad)
    (rl : Rl K mg β h H) (rs : Reps K β H ds vs) (o : OutG K mg E β H (sem ds h) (PV K Q)) : spS K mg n sem vs H Q E := by
  by_cases z : ds.length = n
  · exact ⟨by rw [← rs.length]; exact z, β, h, ds, rl, rs, o⟩
  · rw [hl ds h z] at o; exact o.elim
theorem x_call {es : List Expr} {e : Expr} {f : Av} {k n : Nat} {CX : CXT} {g : Addr} {fd : FuncData} {ps : List Str} {x : Str} {p : Pos} {sem : List D → AH → R D} (F : FnOk X.prog X.w X.K X.mg X.base CX k g fd ps (spS X.K X.mg n sem)) (hl : ∀ ds h, ds.length ≠ n → sem ds h = .bad) (hr : Room k X.A) (hm : X.mg x = some (.ref g)) (hk : PySem.W.keepIn X.K (.ref g) = true) (hb : Binds X.K fd ps []) (hx : Passes CX X E)
    (ha : Ax X E (e :: es) f) (hg : Gl X x := by rfl) (hdb : (x == ("__debug__" : Str)) = false := by decide) (he : starEach (e :: es) X.env = (false, eval e X.env) :: starEach es X.env := by rfl) (hpl : (backTo pos (starEach es X.env)).any (·.1) = false := by rfl) :
    Ex X E (.Call (.Name x p) (e :: es) [] pos) (mCall sem f) :=
  pe_imp (pe_call F hr hg hm hk hb .nil hx ha hdb he hpl) fun σ H Q ⟨β, env, h, rl, re, o⟩ => ⟨β, env, h, rl, re, (OutG.bind o).mono fun ds β1 h1 H1 x1 rl1 o1 vs rs => by
    show spS X.K X.mg n sem (vs ++ []) H1 Q E
    rw [List.append_nil]
    exact spS_of hl rl1 rs o1⟩
end
end Rm

namespace Rm
open PySem PySem.Spec PyProof.Rows L2

/-! ### a value as data -/
def pdOf : Nat → AH → D → Option PyData
  | 0, _, _ => none
  | _ + 1, _, .non => some .none
  | _ + 1, _, .bl b => some (.bool b)
  | _ + 1, _, .int i => some (.int i)
  | _ + 1, _, .str s => if PyData.canLay0 (.str s) = true then some (.str s) else none
  | n + 1, h, .tup xs => (xs.mapM (pdOf n h)).map .tuple
  | n + 1, h, .fl xs => (xs.mapM (pdOf n h)).map .list
  | n + 1, h, .kl xs => (xs.mapM (pdOf n h)).map .list
  | n + 1, h, .lst a => match h[a]? with
    | some (.lst xs) => (xs.mapM (pdOf n h)).map .list
    | _ => none
  | _ + 1, _, .ins _ => none
  | _ + 1, _, .adr _ => none
theorem mapM_cons_some {α γ : Type} {f : α → Option γ} {x : α} {xs : List α} {ys : List γ} (e : (x :: xs).mapM f = some ys) : ∃ y r, f x = some y ∧ xs.mapM f = some r ∧ ys = y :: r := by
  rw [List.mapM_cons] at e
  cases h1 : f x with
  | none => rw [h1] at e; cases e
  | some y =>
    rw [h1] at e
    cases h2 : xs.mapM f with
    | none => rw [h2] at e; cases e
    | some r => rw [h2] at e; cases e; exact ⟨y, r, rfl, rfl, rfl⟩
def PdGood (n : Nat) (p : PyData) : Prop := p.canLay0 = true ∧ p.depth ≤ n
section
variable {K : PySem.W.Frag} {mg : Str → Option Value} {β : Bt} {H : Hp} {h : AH}
theorem pdAll {f : D → Option PyData} {n : Nat} (hf : ∀ d v p, f d = some p → Rep K β H d v → Dp K H v p ∧ PdGood n p) : ∀ (ds : List D) (vs : List V) (ps : List PyData), ds.mapM f = some ps → Reps K β H ds vs → DpAll K H vs ps ∧ PyData.canLayAll0 ps = true ∧ PyData.depthAll ps ≤ n
  | [], _, _, e, r => by cases e; cases r; exact ⟨.nil, by simp [PyData.canLayAll0], by simp [PyData.depthAll]⟩
  | d :: ds, _, _, e, ⟨v, r, ev, r1, r2⟩ => by
    obtain ⟨y, ys, e1, e2, e3⟩ := mapM_cons_some e
    subst e3 ev
    obtain ⟨a, b1, b2⟩ := hf d v y e1 r1
    obtain ⟨c, c1, c2⟩ := pdAll hf ds r ys e2 r2
    exact ⟨.cons a c, by simp [PyData.canLayAll0, b1, c1], by simp [PyData.depthAll]; omega⟩
theorem pdOf_ok (rl : Rl K mg β h H) : ∀ (n : Nat) (d : D) (v : V) (p : PyData), pdOf n h d = some p → Rep K β H d v → Dp K H v p ∧ PdGood n p
  | 0, _, _, _, e, _ => by cases e
  | n + 1, .non, _, _, e, r => by cases e; cases r; exact ⟨.non, by simp [PyData.canLay0], by simp [PyData.depth]⟩
  | n + 1, .bl b, _, _, e, r => by cases e; cases r; exact ⟨.bl b, by simp [PyData.canLay0], by simp [PyData.depth]⟩
  | n + 1, .int b, _, _, e, r => by cases e; cases r; exact ⟨.int b, by simp [PyData.canLay0], by simp [PyData.depth]⟩
  | n + 1, .str b, _, _, e, r => by
    unfold pdOf at e
    split at e
    · rename_i hc
      cases e; cases r; exact ⟨.str b, hc, by simp [PyData.depth]⟩
    · cases e
  | n + 1, .tup xs, _, _, e, ⟨_, p, vs, e1, t, rs⟩ => by
    unfold pdOf at e
    obtain ⟨ps, e2, e3⟩ := Option.map_eq_some_iff.mp e
    subst e1 e3
    obtain ⟨a, b, c⟩ := pdAll (pdOf_ok rl n) xs vs ps e2 rs
    exact ⟨.tup t.sq a, by simpa [PyData.canLay0] using b, by simp [PyData.depth]; omega⟩
  | n + 1, .fl xs, _, _, e, ⟨_, p, vs, e1, t, rs⟩ => by
    unfold pdOf at e
    obtain ⟨ps, e2, e3⟩ := Option.map_eq_some_iff.mp e
    subst e1 e3
    obtain ⟨a, b, c⟩ := pdAll (pdOf_ok rl n) xs vs ps e2 rs
    exact ⟨.lst t.sq a, by simpa [PyData.canLay0] using b, by simp [PyData.depth]; omega⟩
  | n + 1, .kl xs, _, _, e, ⟨_, p, vs, e1, t, rs⟩ => by
    unfold pdOf at e
    obtain ⟨ps, e2, e3⟩ := Option.map_eq_some_iff.mp e
    subst e1 e3
    obtain ⟨a, b, c⟩ := pdAll (pdOf_ok rl n) xs vs ps e2 rs
    exact ⟨.lst t.sq a, by simpa [PyData.canLay0] using b, by simp [PyData.depth]; omega⟩
  | n + 1, .lst i, _, _, e, r => by
    unfold pdOf at e
    split at e
    · rename_i xs hx
      obtain ⟨_, p, vs, e1, _, e2, rs⟩ := rl.at_lst hx r
      obtain ⟨ps, e4, e5⟩ := Option.map_eq_some_iff.mp e
      subst e1 e5
      obtain ⟨a, b, c⟩ := pdAll (pdOf_ok rl n) xs vs ps e4 rs
      exact ⟨.lst (SqL.of e2) a, by simpa [PyData.canLay0] using b, by simp [PyData.depth]; omega⟩
    · cases e
  | n + 1, .ins i, _, _, e, _ => by cases e
  | n + 1, .adr i, _, _, e, _ => by cases e
theorem shaped_of {p : PyData} (g : PdGood 60 p) : SeqAt.shaped p = true := by
  unfold SeqAt.shaped
  rw [g.1, decide_eq_true (show p.depth ≤ 64 from Nat.le_trans g.2 (by decide))]
  rfl
end

/-! ### what operators give -/
def gAdd : D → D → AH → R D
  | .int i, .int j, h => .ok (.int (i + j)) h
  | .str a, .str b, h => if a.length + b.length ≤ SL then .ok (.str (a ++ b)) h else .bad
  | .tup a, .tup b, h => if a.length + b.length ≤ SL then .ok (.tup (a ++ b)) h else .bad
  | a, b, h => match rdT h a, rdT h b with
    | some xs, some ys => if xs.length + ys.length ≤ SL then .ok (.fl (xs ++ ys)) h else .bad
    | _, _ => .bad
def gSub : D → D → AH → R D
  | .int i, .int j, h => .ok (.int (i - j)) h
  | _, _, _ => .bad
/-- both factors below 2^100000 -/
def MulOk (i j : Int) : Prop := i.natAbs < 2 ^ 100000 ∧ j.natAbs < 2 ^ 100000
open Classical in
noncomputable def gMul : D → D → AH → R D
  | .int i, .int j, h => if MulOk i j then .ok (.int (i * j)) h else .bad
  | .fl xs, .int k, h => if -(2 ^ 63) ≤ k ∧ k < 2 ^ 63 ∧ xs.length * k.toNat ≤ SL then .ok (.fl (List.replicate k.toNat xs).flatten) h else .bad
  | .tup xs, .int k, h => if -(2 ^ 63) ≤ k ∧ k < 2 ^ 63 ∧ (k ≤ 1 ∨ xs = [] ∨ (k ≤ 1000 ∧ xs.length ≤ 1000)) then .ok (.tup (List.replicate k.toNat xs).flatten) h else .bad
  | _, _, _ => .bad
open Classical in
noncomputable def gDiv : D → D → AH → R D
  | .int i, .int j, h => if 0 < j ∧ j.natAbs < 2 ^ 9000 then .ok (.int (i / j)) h else .bad
  | _, _, _ => .bad
def gMod : D → D → AH → R D
  | .int i, .int j, h => if 0 < j then .ok (.int (i % j)) h else .bad
  | _, _, _ => .bad
open Classical in
noncomputable def gPow : D → D → AH → R D
  | .int i, .int j, h => if 0 ≤ j ∧ j ≤ 1000000 ∧ i.natAbs < 2 ^ 64 then .ok (.int (i ^ j.toNat)) h else .bad
  | _, _, _ => .bad
def gLt : D → D → AH → R D
  | .int i, .int j, h => .ok (.bl (decide (i < j))) h
  | _, _, _ => .bad
def gLe : D → D → AH → R D
  | .int i, .int j, h => .ok (.bl (decide (i ≤ j))) h
  | _, _, _ => .bad
def gGt : D → D → AH → R D
  | .int i, .int j, h => .ok (.bl (decide (j < i))) h
  | _, _, _ => .bad
def gGe : D → D → AH → R D
  | .int i, .int j, h => .ok (.bl (decide (j ≤ i))) h
  | _, _, _ => .bad
def gNeg : D → AH → R D
  | .int i, h => .ok (.int (-i)) h
  | _, _ => .bad
def gEq (a b : D) (h : AH) : R D := match pdOf 60 h a, pdOf 60 h b with
  | some d, some e => .ok (.bl (PyData.eqv d e)) h
  | _, _ => .bad
def gNe (a b : D) (h : AH) : R D := match pdOf 60 h a, pdOf 60 h b with
  | some d, some e => .ok (.bl (!PyData.eqv d e)) h
  | _, _ => .bad
def isN (h : AH) : D → Option Bool
  | .non => some true
  | .lst a => match h[a]? with
    | some (.lst _) => some false
    | _ => none
  | .ins a => match h[a]? with
    | some (.ins _ _) => some false
    | _ => none
  | .adr _ => none
  | _ => some false
def gIsN (a b : D) (h : AH) : R D := match b, isN h a with
  | .non, some k => .ok (.bl k) h
  | _, _ => .bad
def gNotN (a b : D) (h : AH) : R D := match b, isN h a with
  | .non, some k => .ok (.bl (!k)) h
  | _, _ => .bad

section
variable {X : Cx} {E : XK}
section
variable {K : PySem.W.Frag} {mg : Str → Option Value} {β : Bt} {H : Hp} {h : AH}
theorem rdL_lst {a : Nat} {xs : List D} (e : rdL h (.lst a) = some xs) : h[a]? = some (.lst xs) := by
  cases hx : h[a]? with
  | none => simp [Rm.rdL, hx] at e
  | some c =>
    cases c with
    | lst ys => simp [Rm.rdL, hx] at e; rw [e]
    | _ => simp [Rm.rdL, hx] at e
theorem rdT_L {d : D} {xs : List D} (e : rdT h d = some xs) : rdL h d = some xs := by
  cases d <;> first | exact e | (simp [Rm.rdT] at e)
theorem Rep.rdT (rl : Rl K mg β h H) {d : D} {v : V} {xs : List D} (r : Rep K β H d v) (e : rdT h d = some xs) : xs.length ≤ SL ∧ ∃ p vs, v = .ref p ∧ H p = some (.lst vs) ∧ Reps K β H xs vs := by
  cases d with
  | fl ys =>
    cases e
    obtain ⟨z, p, vs, e1, t, rs⟩ := r
    exact ⟨by rw [← SL_eq]; exact z, p, vs, e1, t.1, rs⟩
  | lst a =>
    have hx := rdL_lst (rdT_L e)
    obtain ⟨z, p, vs, e1, _, e2, rs⟩ := rl.at_lst hx r
    exact ⟨by rw [← SL_eq]; exact z, p, vs, e1, e2, rs⟩
  | _ => cases e
theorem Rep.rdL (rl : Rl K mg β h H) {d : D} {v : V} {xs : List D} (r : Rep K β H d v) (e : rdL h d = some xs) : xs.length ≤ SL ∧ ∃ p vs, v = .ref p ∧ SqL K H p vs ∧ Reps K β H xs vs := by
  cases d with
  | fl ys =>
    cases e
    obtain ⟨z, p, vs, e1, t, rs⟩ := r
    exact ⟨by rw [← SL_eq]; exact z, p, vs, e1, t.sq, rs⟩
  | kl ys =>
    cases e
    obtain ⟨z, p, vs, e1, t, rs⟩ := r
    exact ⟨by rw [← SL_eq]; exact z, p, vs, e1, t.sq, rs⟩
  | lst a =>
    have hx := rdL_lst e
    obtain ⟨z, p, vs, e1, _, e2, rs⟩ := rl.at_lst hx r
    exact ⟨by rw [← SL_eq]; exact z, p, vs, e1, SqL.of e2, rs⟩
  | _ => cases e
theorem isN_ok (rl : Rl K mg β h H) {d : D} {v : V} {k : Bool} (r : Rep K β H d v) (e : isN h d = some k) : k = decide (v = .non) := by
  cases d with
  | non => cases r; cases e; rfl
  | bl _ => cases r; cases e; rfl
  | int _ => cases r; cases e; rfl
  | str _ => cases r; cases e; rfl
  | tup _ => obtain ⟨_, _, _, e1, _⟩ := r; subst e1; cases e; rfl
  | fl _ => obtain ⟨_, _, _, e1, _⟩ := r; subst e1; cases e; rfl
  | kl _ => obtain ⟨_, _, _, e1, _⟩ := r; subst e1; cases e; rfl
  | lst a =>
    cases hx : h[a]? with
    | none => simp [isN, hx] at e
    | some c =>
      cases c with
      | lst xs =>
        obtain ⟨_, p, vs, e1, _⟩ := rl.at_lst hx r
        subst e1; simp [isN, hx] at e; rw [e]; rfl
      | _ => simp [isN, hx] at e
  | adr a => cases e
  | ins a =>
    cases hx : h[a]? with
    | none => simp [isN, hx] at e
    | some c =>
      cases c with
      | ins C fs =>
        obtain ⟨p, c, dx, gs, e1, _⟩ := rl.cell a _ hx
        have e2 := r.2 p e1
        subst e2; simp [isN, hx] at e; rw [e]; rfl
      | _ => simp [isN, hx] at e
end
variable {X : Cx} {E : XK}
theorem o_sub : OpX X E (binaryOp .Sub) gSub := ⟨_, op_sub, fun β h H a b x y Q rl ra rb o => by
  cases a <;> try exact o.elim
  cases b <;> try exact o.elim
  exact ⟨_, _, ra, rb, o.ok rl _ rfl⟩⟩
theorem o_neg : UnX X E (unaryOp .USub) gNeg := ⟨_, un_neg, fun β h H a x Q rl ra o => by
  cases a <;> try exact o.elim
  exact ⟨_, ra, o.ok rl _ rfl⟩⟩
theorem o_lt : OpX X E (compareOp .Lt) gLt := ⟨_, op_lt, fun β h H a b x y Q rl ra rb o => by
  cases a <;> try exact o.elim
  cases b <;> try exact o.elim
  exact ⟨_, _, ra, rb, o.ok rl _ rfl⟩⟩
theorem o_le : OpX X E (compareOp .LtE) gLe := ⟨_, op_le, fun β h H a b x y Q rl ra rb o => by
  cases a <;> try exact o.elim
  cases b <;> try exact o.elim
  exact ⟨_, _, ra, rb, o.ok rl _ rfl⟩⟩
theorem o_gt : OpX X E (compareOp .Gt) gGt := ⟨_, op_gt, fun β h H a b x y Q rl ra rb o => by
  cases a <;> try exact o.elim
  cases b <;> try exact o.elim
  exact ⟨_, _, ra, rb, o.ok rl _ rfl⟩⟩
theorem o_ge : OpX X E (compareOp .GtE) gGe := ⟨_, op_ge, fun β h H a b x y Q rl ra rb o => by
  cases a <;> try exact o.elim
  cases b <;> try exact o.elim
  exact ⟨_, _, ra, rb, o.ok rl _ rfl⟩⟩
theorem o_mod : OpX X E (binaryOp .Mod) gMod := ⟨_, op_mod, fun β h H a b x y Q rl ra rb o => by
  cases a <;> try exact o.elim
  cases b <;> try exact o.elim
  rename_i i j
  by_cases hj : 0 < j
  · have o' : OutG X.K X.mg E β H (.ok (.int (i % j)) h) (PV X.K Q) := by simpa [gMod, hj] using o
    exact ⟨_, _, ra, rb, hj, o'.ok rl _ rfl⟩
  · have o' : OutG X.K X.mg E β H (.bad : R D) (PV X.K Q) := by simpa [gMod, hj] using o
    exact o'.elim⟩
theorem o_div : OpX X E (binaryOp .FloorDiv) gDiv := ⟨_, op_fdivW, fun β h H a b x y Q rl ra rb o => by
  cases a <;> try exact o.elim
  cases b <;> try exact o.elim
  rename_i i j
  by_cases hj : 0 < j ∧ j.natAbs < 2 ^ 9000
  · have o' : OutG X.K X.mg E β H (.ok (.int (i / j)) h) (PV X.K Q) := by rw [gDiv, if_pos hj] at o; exact o
    exact ⟨_, _, ra, rb, wide_div hj.1 hj.2 (by decide) (by decide), o'.ok rl _ rfl⟩
  · have o' : OutG X.K X.mg E β H (.bad : R D) (PV X.K Q) := by rw [gDiv, if_neg hj] at o; exact o
    exact o'.elim⟩
theorem o_pow : OpX X E (binaryOp .Pow) gPow := ⟨_, op_pow, fun β h H a b x y Q rl ra rb o => by
  cases a <;> try exact o.elim
  cases b <;> try exact o.elim
  rename_i i j
  by_cases hj : 0 ≤ j ∧ j ≤ 1000000 ∧ i.natAbs < 2 ^ 64
  · have o' : OutG X.K X.mg E β H (.ok (.int (i ^ j.toNat)) h) (PV X.K Q) := by rw [gPow, if_pos hj] at o; exact o
    exact ⟨_, _, ra, rb, hj, o'.ok rl _ rfl⟩
  · have o' : OutG X.K X.mg E β H (.bad : R D) (PV X.K Q) := by rw [gPow, if_neg hj] at o; exact o
    exact o'.elim⟩
theorem o_eq (hu : X.A.units + 64 < cLine) : OpX X E (compareOp .Eq) gEq := ⟨_, op_eqD hu, fun β h H a b x y Q rl ra rb o => by
  unfold gEq at o
  cases e1 : pdOf 60 h a with
  | none => rw [e1] at o; exact o.elim
  | some d =>
    cases e2 : pdOf 60 h b with
    | none => rw [e1, e2] at o; exact o.elim
    | some e =>
      rw [e1, e2] at o
      obtain ⟨d1, g1⟩ := pdOf_ok rl 60 a x d e1 ra
      obtain ⟨d2, g2⟩ := pdOf_ok rl 60 b y e e2 rb
      exact ⟨d, e, d1, d2, shaped_of g1, shaped_of g2, o.ok rl _ rfl⟩⟩
theorem o_ne (hu : X.A.units + 64 < cLine) : OpX X E (compareOp .NotEq) gNe := ⟨_, op_neD hu, fun β h H a b x y Q rl ra rb o => by
  unfold gNe at o
  cases e1 : pdOf 60 h a with
  | none => rw [e1] at o; exact o.elim
  | some d =>
    cases e2 : pdOf 60 h b with
    | none => rw [e1, e2] at o; exact o.elim
    | some e =>
      rw [e1, e2] at o
      obtain ⟨d1, g1⟩ := pdOf_ok rl 60 a x d e1 ra
      obtain ⟨d2, g2⟩ := pdOf_ok rl 60 b y e e2 rb
      exact ⟨d, e, d1, d2, shaped_of g1, shaped_of g2, o.ok rl _ rfl⟩⟩
theorem o_isN : OpX X E (compareOp .Is) gIsN := ⟨_, op_isN, fun β h H a b x y Q rl ra rb o => by
  cases b <;> try exact o.elim
  cases e1 : isN h a with
  | none => unfold gIsN at o; rw [e1] at o; exact o.elim
  | some k =>
    unfold gIsN at o; rw [e1] at o
    exact ⟨rb, o.ok rl _ (by rw [isN_ok rl ra e1]; exact rfl)⟩⟩
theorem o_notN : OpX X E (compareOp .IsNot) gNotN := ⟨_, op_notN, fun β h H a b x y Q rl ra rb o => by
  cases b <;> try exact o.elim
  cases e1 : isN h a with
  | none => unfold gNotN at o; rw [e1] at o; exact o.elim
  | some k =>
    unfold gNotN at o; rw [e1] at o
    exact ⟨rb, o.ok rl _ (by rw [isN_ok rl ra e1]; exact rfl)⟩⟩
theorem o_add : OpX X E (binaryOp .Add) gAdd := by
  refine ⟨_, OpR.or op_add (OpR.or op_add_str (OpR.or op_catA op_cat)), fun β h H a b x y Q rl ra rb o => ?_⟩
  have lists : (∀ i j, a = .int i → b = .int j → False) → (∀ i j, a = .str i → b = .str j → False) → (∀ i j, a = .tup i → b = .tup j → False) → rCat x y H Q := fun n1 n2 n3 => by
    have o' : OutG X.K X.mg E β H (match rdT h a, rdT h b with
      | some xs, some ys => if xs.length + ys.length ≤ SL then R.ok (.fl (xs ++ ys)) h else .bad
      | _, _ => .bad) (PV X.K Q) := by
      unfold gAdd at o
      split at o
      · exact (n1 _ _ rfl rfl).elim
      · exact (n2 _ _ rfl rfl).elim
      · exact (n3 _ _ rfl rfl).elim
      · exact o
    cases e1 : rdT h a with
    | none => rw [e1] at o'; exact o'.elim
    | some xs =>
      cases e2 : rdT h b with
      | none => rw [e1, e2] at o'; exact o'.elim
      | some ys =>
        rw [e1, e2] at o'
        by_cases hz : xs.length + ys.length ≤ SL
        · simp only [hz, if_true] at o'
          obtain ⟨_, p, vs, rfl, h1, r1⟩ := ra.rdT rl e1
          obtain ⟨_, q, us, rfl, h2, r2⟩ := rb.rdT rl e2
          refine ⟨p, q, vs, us, rfl, rfl, h1, h2, by rw [SL_eq, ← r1.length, ← r2.length]; exact hz, fun p' hp => ?_⟩
          exact o'.okx (Ext.upd_new hp) (rl.upd_new hp) _ (Rep.newFl rl hp (r1.append r2) (by simpa using hz))
        · simp only [hz, if_false] at o'; exact o'.elim
  cases a with
  | int i =>
    cases b with
    | int j => exact .inl ⟨i, j, ra, rb, o.ok rl _ rfl⟩
    | _ => exact .inr (.inr (.inr (lists (fun _ _ _ z => nomatch z) (fun _ _ z => nomatch z) (fun _ _ z => nomatch z))))
  | str i =>
    cases b with
    | str j =>
      refine .inr (.inl ⟨i, j, ra, rb, ?_⟩)
      by_cases hz : i.length + j.length ≤ SL
      · simp only [gAdd, hz, if_true] at o
        exact ⟨by rw [SL_eq]; exact hz, o.ok rl _ rfl⟩
      · simp only [gAdd, hz, if_false] at o; exact o.elim
    | _ => exact .inr (.inr (.inr (lists (fun _ _ z => nomatch z) (fun _ _ _ z => nomatch z) (fun _ _ z => nomatch z))))
  | tup i =>
    cases b with
    | tup j =>
      refine .inr (.inr (.inl ?_))
      by_cases hz : i.length + j.length ≤ SL
      · simp only [gAdd, hz, if_true] at o
        obtain ⟨_, p, vs, rfl, t1, r1⟩ := id ra
        obtain ⟨_, q, us, rfl, t2, r2⟩ := id rb
        refine ⟨p, q, vs, us, rfl, rfl, t1.sq, t2.sq, by rw [SL_eq, ← r1.length, ← r2.length]; exact hz, fun z => ?_, fun _ z => ?_, fun _ _ p' hp => ?_⟩
        · subst z
          have e : i = [] := List.eq_nil_of_length_eq_zero (by rw [r1.length]; rfl)
          subst e
          exact o.ok rl _ rb
        · subst z
          have e : j = [] := List.eq_nil_of_length_eq_zero (by rw [r2.length]; rfl)
          subst e
          rw [List.append_nil] at o
          exact o.ok rl _ ra
        · exact o.okx (Ext.upd_new hp) (rl.upd_new hp) _ (Rep.newTup rl hp (r1.append r2) (by simpa using hz))
      · simp only [gAdd, hz, if_false] at o; exact o.elim
    | _ => exact .inr (.inr (.inr (lists (fun _ _ z => nomatch z) (fun _ _ z => nomatch z) (fun _ _ _ z => nomatch z))))
  | _ => exact .inr (.inr (.inr (lists (fun _ _ z => nomatch z) (fun _ _ z => nomatch z) (fun _ _ z => nomatch z))))
theorem replicate_reps {K : PySem.W.Frag} {β : Bt} {H : Hp} {xs : List D} {vs : List V} (r : Reps K β H xs vs) : ∀ n, Reps K β H (List.replicate n xs).flatten (List.replicate n vs).flatten
  | 0 => by simp [Reps]
  | n + 1 => by
    rw [List.replicate_succ, List.replicate_succ, List.flatten_cons, List.flatten_cons]
    exact r.append (replicate_reps r n)
end
end Rm

namespace Rm
open PySem PySem.Spec PyProof.Rows L2

/-! ### tuple * 1, () * n, tuple * 0 -/
theorem tuple_mul_same (l : Addr) (items : Array Value) (n : Nat) (dd : Option Addr) (sl : Array (Option Value)) (x : Int) (u : Tok) (c0 : (decide (x < -(2 ^ 63)) || decide (x ≥ 2 ^ 63)) = false) (c1 : (items.isEmpty || x == 1) = true) :
    Meets (Builtin.«tuple.__mul__» ⟨[.ref l, .int x u], []⟩) (fun _ R s => s.heap.get? l = some { cls := .type "tuple", dict := dd, data := .seq items n, slots := sl } ∧ R (.ok (.ret (Value.ref l))) s) :=
  .of_wp fun prog w A R s h => by
    obtain ⟨hp, g, d, tk, os⟩ := s
    obtain ⟨hl, h⟩ := h
    have f1 := AutoSeq1.idx_int
    wp_walk using wpAny_loadPart' hl
    repeat (first
      | (refine wpAny_ite_false (decide_eq_false (by rw [c0]; exact Bool.false_ne_true)) ?_; wp_walk using wpAny_loadPart' hl)
      | (refine wpAny_ite_true (decide_eq_true (by rw [c1])) ?_; wp_walk using wpAny_loadPart' hl))
    exact ⟨_, rfl, h⟩
theorem tuple_mul_none (l : Addr) (items : Array Value) (n : Nat) (dd : Option Addr) (sl : Array (Option Value)) (x : Int) (u : Tok) (c0 : (decide (x < -(2 ^ 63)) || decide (x ≥ 2 ^ 63)) = false) (c1 : (items.isEmpty || x == 1) = false) (c2 : (decide (x ≤ 0) || items.isEmpty) = true) :
    Meets (Builtin.«tuple.__mul__» ⟨[.ref l, .int x u], []⟩) (fun _ R s => s.heap.get? l = some { cls := .type "tuple", dict := dd, data := .seq items n, slots := sl } ∧
      R (.ok (.ret (Value.ref s.heap.objs.size))) { s with heap := s.heap.push { cls := Value.type "tuple", data := Data.seq #[] }, toks := s.toks }) :=
  .of_wp fun prog w A R s h => by
    obtain ⟨hp, g, d, tk, os⟩ := s
    obtain ⟨hl, h⟩ := h
    have f1 := AutoSeq1.idx_int
    wp_walk using wpAny_loadPart' hl
    repeat (first
      | (refine wpAny_ite_false (decide_eq_false (by rw [c0]; exact Bool.false_ne_true)) ?_; wp_walk using wpAny_loadPart' hl)
      | (refine wpAny_ite_false (decide_eq_false (by rw [c1]; exact Bool.false_ne_true)) ?_; wp_walk using wpAny_loadPart' hl)
      | (refine wpAny_ite_true (decide_eq_true (by rw [c2])) ?_; wp_walk using wpAny_loadPart' hl))
    exact ⟨_, rfl, h⟩
/-- tuple * int, any int within 63 bits -/
def rRepA (K : PySem.W.Frag) : R2 := fun x y H Q => ∃ l k xs, x = .ref l ∧ y = .int k ∧ SqT K H l xs ∧ -(2 ^ 63) ≤ k ∧ k < 2 ^ 63 ∧ (((xs = [] ∨ k = 1) ∧ Q (.ref l) H) ∨ (xs ≠ [] ∧ k ≤ 0 ∧ ∀ p, H p = none → Q (.ref p) (upd H p (.tup []))))
theorem op_repA {X : Cx} : OpR X (binaryOp .Mult) (rRepA X.K) := by
  intro pins s σ H x y v u Q I rx ry h
  obtain ⟨l, k, xs, rfl, rfl, hT, h1, h2, q⟩ := h
  cases rx
  obtain ⟨t, rfl⟩ := ry
  obtain ⟨its, r, ⟨⟨cls, dd, data, sl⟩, ho, hc, n, hd⟩, hs⟩ := I.tuple hT
  simp only at hc hd
  subst hc hd
  have hle : its.length = xs.length := r.length.symm
  have c0 : (decide (k < -(2 ^ 63)) || decide (k ≥ 2 ^ 63)) = false := by
    rw [decide_eq_false (by omega), decide_eq_false (by omega)] <;> rfl
  have hemp : its.toArray.isEmpty = decide (xs = []) := by
    cases its with
    | nil =>
      have : xs = [] := List.eq_nil_of_length_eq_zero (by rw [← hle]; rfl)
      rw [this]; rfl
    | cons a b =>
      have : xs ≠ [] := fun e => by rw [e] at hle; simp at hle
      rw [decide_eq_false this]; rfl
  rcases q with ⟨hk, q⟩ | ⟨hne, hk, q⟩
  · have c1 : (its.toArray.isEmpty || k == 1) = true := by
      rw [hemp]
      rcases hk with e | e
      · rw [decide_eq_true e]; rfl
      · rw [e]; simp
    refine wpAny_binaryOp_repeat_ref (T := "tuple") (U := "int") (by decide) ⟨_, ho, rfl⟩ (fun s' => typeIs_int s' k t) noFill_tuple_mul F.fills_int_mul F.slot_int_rmul repeat_tuple F.slot_int_index.lookup
      (call_meets F.slot_int_rmul (typeIs_int s k t) F.entry_int_rmul (F.args_int_rmul_2 _ _) (int_rmul_tuple k t l its.toArray n dd sl)
        ⟨ho, rfl, ⟨_, ho, rfl⟩, call_meets F.slot_tuple_mul ⟨_, ho, rfl⟩ F.entry_tuple_mul (F.args_tuple_mul_2 _ _) (tuple_mul_same l its.toArray n dd sl k t c0 c1) ⟨ho, ?_⟩⟩)
    exact ⟨.ref l, H, I, rfl, q⟩
  · have c1 : (its.toArray.isEmpty || k == 1) = false := by
      rw [hemp, decide_eq_false hne, Bool.false_or]
      exact beq_eq_false_iff_ne.mpr (by omega)
    have c2 : (decide (k ≤ 0) || its.toArray.isEmpty) = true := by rw [decide_eq_true hk]; rfl
    refine wpAny_binaryOp_repeat_ref (T := "tuple") (U := "int") (by decide) ⟨_, ho, rfl⟩ (fun s' => typeIs_int s' k t) noFill_tuple_mul F.fills_int_mul F.slot_int_rmul repeat_tuple F.slot_int_index.lookup
      (call_meets F.slot_int_rmul (typeIs_int s k t) F.entry_int_rmul (F.args_int_rmul_2 _ _) (int_rmul_tuple k t l its.toArray n dd sl)
        ⟨ho, rfl, ⟨_, ho, rfl⟩, call_meets F.slot_tuple_mul ⟨_, ho, rfl⟩ F.entry_tuple_mul (F.args_tuple_mul_2 _ _) (tuple_mul_none l its.toArray n dd sl k t c0 c1 c2) ⟨ho, ?_⟩⟩)
    refine ⟨.ref s.heap.objs.size, _, I.laid (t' := s.toks) (o := .tup []) (fun b ob q => Heap.get?_push_of_some _ q) (Nat.le_refl _) ?_, rfl, q _ (I.hok.fresh (Nat.le_refl _))⟩
    exact ⟨Nat.zero_le _, [], .nil, IsTup.new _ _⟩
end Rm

namespace Rm
open PySem PySem.Spec PyProof.Rows L2

/-! ### product, subscript, slice -/
section
variable {X : Cx} {E : XK} {pos : Pos}
theorem flat_len {α : Type} (xs : List α) : ∀ n : Nat, (List.replicate n xs).flatten.length = n * xs.length
  | 0 => by simp
  | n + 1 => by rw [List.replicate_succ, List.flatten_cons, List.length_append, flat_len xs n, Nat.succ_mul, Nat.add_comm]
theorem MulOk.w {i j : Int} (h : MulOk i j) : CMulW i j := wide_mul h.1 h.2 (by decide) (by decide) (by decide)
theorem o_mul : OpX X E (binaryOp .Mult) gMul := by
  refine ⟨_, OpR.or op_mulW (OpR.or op_rep (OpR.or (op_repT (X := X)) (op_repA (X := X)))), fun β h H a b x y Q rl ra rb o => ?_⟩
  cases a with
  | int i =>
    cases b with
    | int j =>
      by_cases hm : MulOk i j
      · rw [gMul, if_pos hm] at o
        exact .inl ⟨i, j, ra, rb, hm.w, o.ok rl _ rfl⟩
      · rw [gMul, if_neg hm] at o; exact o.elim
    | _ => exact o.elim
  | fl xs =>
    cases b with
    | int k =>
      by_cases hm : -(2 ^ 63) ≤ k ∧ k < 2 ^ 63 ∧ xs.length * k.toNat ≤ SL
      · rw [gMul, if_pos hm] at o
        obtain ⟨_, p, vs, rfl, t, rs⟩ := ra
        refine .inr (.inl ⟨p, k, vs, rfl, rb, t.1, hm.1, hm.2.1, by rw [SL_eq, ← rs.length]; exact hm.2.2, fun q hq => ?_⟩)
        refine o.okx (Ext.upd_new hq) (rl.upd_new hq) _ (Rep.newFl rl hq (replicate_reps rs _) ?_)
        rw [flat_len, Nat.mul_comm]; exact hm.2.2
      · rw [gMul, if_neg hm] at o; exact o.elim
    | _ => exact o.elim
  | tup xs =>
    cases b with
    | int k =>
      by_cases hm : -(2 ^ 63) ≤ k ∧ k < 2 ^ 63 ∧ (k ≤ 1 ∨ xs = [] ∨ (k ≤ 1000 ∧ xs.length ≤ 1000))
      · rw [gMul, if_pos hm] at o
        obtain ⟨hz, p, vs, rfl, t, rs⟩ := ra
        have xv : xs = [] ↔ vs = [] := by
          constructor
          · intro e; subst e; cases rs; rfl
          · intro e; exact List.eq_nil_of_length_eq_zero (by rw [rs.length, e]; rfl)
        by_cases hs : xs = [] ∨ k = 1
        · have e : (List.replicate k.toNat xs).flatten = xs := by
            rcases hs with e | e
            · subst e; induction k.toNat with
              | zero => rfl
              | succ n ih => rw [List.replicate_succ, List.flatten_cons, ih]; rfl
            · subst e; simp
          rw [e] at o
          exact .inr (.inr (.inr ⟨p, k, vs, rfl, rb, t.sq, hm.1, hm.2.1, .inl ⟨hs.imp xv.mp id, o.ok rl _ ⟨hz, p, vs, rfl, t, rs⟩⟩⟩))
        · by_cases h0 : k ≤ 0
          · have e : (List.replicate k.toNat xs).flatten = [] := by rw [show k.toNat = 0 by omega]; rfl
            rw [e] at o
            exact .inr (.inr (.inr ⟨p, k, vs, rfl, rb, t.sq, hm.1, hm.2.1, .inr ⟨fun z => hs (.inl (xv.mpr z)), h0, fun q hq => o.okx (Ext.upd_new hq) (rl.upd_new hq) _ (Rep.newTup rl hq (ds := []) rfl (Nat.zero_le _))⟩⟩))
          · have h2 : 2 ≤ k := by have : k ≠ 1 := fun e => hs (.inr e); omega
            have h3 : k ≤ 1000 ∧ xs.length ≤ 1000 := by
              rcases hm.2.2 with z | z | z
              · omega
              · exact absurd (.inl z) hs
              · exact z
            refine .inr (.inr (.inl ⟨p, k, vs, rfl, rb, t.sq, fun z => hs (.inl (xv.mpr z)), h2, h3.1, by rw [← rs.length]; exact h3.2, fun q hq => ?_⟩))
            refine o.okx (Ext.upd_new hq) (rl.upd_new hq) _ (Rep.newTup rl hq (replicate_reps rs _) ?_)
            rw [flat_len]
            exact Nat.le_trans (Nat.mul_le_mul (show k.toNat ≤ 1000 by omega) h3.2) (by decide)
      · rw [gMul, if_neg hm] at o; exact o.elim
    | _ => exact o.elim
  | _ => exact o.elim

def gIx (a b : D) (h : AH) : R D := match a, b with
  | .str z, .int i => if z.length ≤ SL then (match atI z.cps.toList i with
    | some c => .ok (.str ⟨#[c]⟩) h
    | none => .bad) else .bad
  | a, .int i => match rdS h a with
    | some xs => (match atI xs i with
      | some d => .ok d h
      | none => .bad)
    | none => .bad
  | _, _ => .bad
theorem Reps.atI {K : PySem.W.Frag} {β : Bt} {H : Hp} {xs : List D} {vs : List V} {i : Int} {d : D} (r : Reps K β H xs vs) (e : L2.atI xs i = some d) : ∃ v, L2.atI vs i = some v ∧ Rep K β H d v := by
  unfold L2.atI at e ⊢
  rw [← r.length]
  cases h : ixN xs.length i with
  | none => rw [h] at e; cases e
  | some j => rw [h] at e; exact r.get e
theorem x_ix {a b : Expr} {fa fb : Ev} (ha : Ex X E a fa) (hb : Ex X E b fb) (hs : PlainIx b := by intro _ _; rfl) : Ex X E (.Subscript a b pos) (m2 gIx fa fb) := by
  refine pe_imp (pe_ix ix_seq ha hb hs) fun σ H Q q => tx2 (fun β h H a b x y Q rl ra rb o => ?_) q
  have seqs : ∀ xs, rdL h a = some xs → OutG X.K X.mg E β H (match b with
      | .int i => (match L2.atI xs i with
        | some d => R.ok d h
        | none => .bad)
      | _ => .bad) (PV X.K Q) → rIx X.K x y H Q := fun xs e o => by
    obtain ⟨_, p, vs, rfl, t, rs⟩ := ra.rdL rl e
    cases b with
    | int i =>
      cases e2 : L2.atI xs i with
      | none => simp only [e2] at o; exact o.elim
      | some d =>
        simp only [e2] at o
        obtain ⟨v, e3, r3⟩ := rs.atI e2
        exact .inl ⟨p, vs, i, v, rfl, rb, t, e3, o.ok rl v r3⟩
    | _ => exact o.elim
  cases a with
  | str z =>
    cases b with
    | int i =>
      by_cases hz : z.length ≤ SL
      · cases e2 : L2.atI z.cps.toList i with
        | none => simp only [gIx, hz, if_true, e2] at o; exact o.elim
        | some c =>
          simp only [gIx, hz, if_true, e2] at o
          exact .inr (.inr ⟨z, i, c, ra, rb, by rw [SL_eq]; exact hz, e2, o.ok rl _ rfl⟩)
      · simp only [gIx, hz, if_false] at o; exact o.elim
    | _ => exact o.elim
  | tup xs =>
    obtain ⟨_, p, vs, rfl, t, rs⟩ := ra
    cases b with
    | int i =>
      cases e2 : L2.atI xs i with
      | none => simp only [gIx, rdS, e2] at o; exact o.elim
      | some d =>
        simp only [gIx, rdS, e2] at o
        obtain ⟨v, e3, r3⟩ := rs.atI e2
        exact .inr (.inl ⟨p, vs, i, v, rfl, rb, t.sq, e3, o.ok rl v r3⟩)
    | _ => exact o.elim
  | fl xs => exact seqs xs rfl (by cases b <;> first | exact o | exact o.elim)
  | kl xs => exact seqs xs rfl (by cases b <;> first | exact o | exact o.elim)
  | lst i =>
    cases e : rdL h (.lst i) with
    | none =>
      cases b with
      | int j => simp only [gIx, rdS, e] at o; exact o.elim
      | _ => exact o.elim
    | some xs =>
      refine seqs xs e ?_
      cases b with
      | int j => simp only [gIx, rdS, e] at o; exact o
      | _ => exact o.elim
  | _ => cases b <;> exact o.elim

/-! slices -/
def cutD (xs : List D) (lo hi : Option Int) : List D := (xs.drop (HT.sIx xs.length 0 lo)).take (HT.sIx xs.length xs.length hi - HT.sIx xs.length 0 lo)
theorem Reps.cut {K : PySem.W.Frag} {β : Bt} {H : Hp} {xs : List D} {vs : List V} (r : Reps K β H xs vs) (lo hi : Option Int) : Reps K β H (cutD xs lo hi) (cutV vs lo hi) := by
  unfold cutD cutV
  rw [r.length]
  exact (r.drop _).take _
theorem cutD_length (xs : List D) (lo hi : Option Int) : (cutD xs lo hi).length ≤ xs.length := by
  unfold cutD
  rw [List.length_take, List.length_drop]
  omega
def gSl (a : D) (lo hi : Option Int) (h : AH) : R D := match a with
  | .tup xs => .ok (.tup (cutD xs lo hi)) h
  | a => match rdL h a with
    | some xs => .ok (.fl (cutD xs lo hi)) h
    | none => .bad
abbrev Ov := En → AH → R (Option Int)
def oNone : Ov := fun _ h => .ok none h
def oSome (f : Ev) : Ov := fun env h => (f env h).bind fun d h1 => match d with
  | .int i => .ok (some i) h1
  | _ => .bad
def mSl (f : Ev) (lo hi : Ov) : Ev := fun env h => (f env h).bind fun a h1 => (lo env h1).bind fun l h2 => (hi env h2).bind fun u h3 => gSl a l u h3
def TOp (K : PySem.W.Frag) (mg : Str → Option Value) (E : XK) (f : Ov) : TO := fun σ H Q => ∃ β env h, Rl K mg β h H ∧ RelE K β H env σ ∧ OutG K mg E β H (f env h) fun o β' _ H' => Q o H'
def Ox (X : Cx) (E : XK) (o : Option Expr) (f : Ov) : Prop := PO X o (TOp X.K X.mg E f)
theorem po_imp {o : Option Expr} {t t' : TO} (h : PO X o t) (k : ∀ σ H Q, t' σ H Q → t σ H Q) : PO X o t' := ⟨fun pins s σ H Q I q => h.run pins s σ H Q I (k σ H Q q)⟩
theorem ox_none : Ox X E none oNone := po_imp po_none fun σ H Q ⟨β, env, h, rl, re, o⟩ => o.ok rl
theorem ox_some {e : Expr} {f : Ev} (h : Ex X E e f) : Ox X E (some e) (oSome f) := po_imp (po_some h) fun σ H Q ⟨β, env, h, rl, re, o⟩ => ⟨β, env, h, rl, re, (OutG.bind o).mono fun d β1 h1 H1 x1 rl1 o1 v r => by
  cases d with
  | int i => exact ⟨i, r, o1.ok rl1⟩
  | _ => exact o1.elim⟩
theorem x_slice {e : Expr} {lo hi : Option Expr} {f : Ev} {fl fh : Ov} {p2 : Pos} (he : Ex X E e f) (hl : Ox X E lo fl) (hu : Ox X E hi fh) : Ex X E (.Subscript e (.Slice lo hi none p2) pos) (mSl f fl fh) := by
  refine pe_imp (pe_slice (SlR.or sl_tupA sl_list) he hl hu) fun σ H Q ⟨β, env, h, rl, re, o⟩ => ⟨β, env, h, rl, re, (OutG.bind o).mono fun a β1 h1 H1 x1 rl1 o1 v1 r1 => ⟨β1, env, h1, rl1, re.ext x1, (OutG.bind o1).mono fun l β2 h2 H2 x2 rl2 o2 => ⟨β2, env, h2, rl2, (re.ext x1).ext x2, (OutG.bind o2).mono fun u β3 h3 H3 x3 rl3 o3 => ?_⟩⟩⟩
  have r3 : Rep X.K β3 H3 a v1 := (r1.ext x2).ext x3
  have lists : ∀ xs, rdL h3 a = some xs → OutG X.K X.mg E β3 H3 (R.ok (.fl (cutD xs l u)) h3) (PV X.K Q) → rSlL X.K v1 l u H3 Q := fun xs e o => by
    obtain ⟨hz, p, vs, rfl, t, rs⟩ := r3.rdL rl3 e
    exact ⟨p, vs, rfl, t, fun q hq => o.okx (Ext.upd_new hq) (rl3.upd_new hq) _ (Rep.newFl rl3 hq (rs.cut l u) (Nat.le_trans (cutD_length _ _ _) hz))⟩
  cases a with
  | tup xs =>
    obtain ⟨hz, p, vs, rfl, t, rs⟩ := r3
    refine .inl ⟨p, vs, rfl, t.sq, fun ⟨w1, w2⟩ => ?_, fun _ q hq => ?_⟩
    · have e : cutD xs l u = xs := by
        unfold cutD
        rw [rs.length, w1, w2]; simp [rs.length]
        exact List.take_of_length_le (by rw [rs.length]; exact Nat.le_refl _)
      rw [show gSl (.tup xs) l u h3 = .ok (.tup (cutD xs l u)) h3 from rfl, e] at o3
      exact o3.ok rl3 _ ⟨hz, p, vs, rfl, t, rs⟩
    · exact OutG.okx (show OutG X.K X.mg E β3 H3 (R.ok (.tup (cutD xs l u)) h3) (PV X.K Q) from o3) (Ext.upd_new hq) (rl3.upd_new hq) _ (Rep.newTup rl3 hq (rs.cut l u) (Nat.le_trans (cutD_length _ _ _) (by rw [← SL_eq]; exact hz)))
  | fl xs => exact .inr (lists xs rfl o3)
  | kl xs => exact .inr (lists xs rfl o3)
  | lst i =>
    cases e : rdL h3 (.lst i) with
    | none => simp only [gSl, e] at o3; exact o3.elim
    | some xs => simp only [gSl, e] at o3; exact .inr (lists xs e o3)
  | _ => exact o3.elim

/-! ### built-in functions by values -/
def CallX (X : Cx) (E : XK) (f : Value) (g : List D → AH → R D) : Prop :=
  ∃ r, CallR X f r ∧ ∀ β h H ds vs Q, Rl X.K X.mg β h H → Reps X.K β H ds vs → OutG X.K X.mg E β H (g ds h) (PV X.K Q) → r vs H Q
theorem x_blt {x : Str} {id : String} {p : Pos} {e : Expr} {es : List Expr} {f : Av} {g : List D → AH → R D} (hc : CallX X E (.builtin id) g) (hm : X.mg x = none) (hv : bootBuiltins x = some (.builtin id)) (ha : Ax X E (e :: es) f) (hg : Gl X x := by rfl) (hn : x ≠ "__name__" := by decide) (hdb : (x == ("__debug__" : Str)) = false := by decide)
    (he : starEach (e :: es) X.env = (false, eval e X.env) :: starEach es X.env := by rfl) (hpl : (backTo pos (starEach es X.env)).any (·.1) = false := by rfl) : Ex X E (.Call (.Name x p) (e :: es) [] pos) (mCall g f) := by
  obtain ⟨r, h1, h2⟩ := hc
  exact pe_imp (pe_callB h1 hg hm hv ha hn hdb he hpl) fun σ H Q ⟨β, env, h, rl, re, o⟩ => ⟨β, env, h, rl, re, (OutG.bind o).mono fun ds β1 h1 H1 x1 rl1 o1 vs rs => h2 β1 h1 H1 ds vs Q rl1 rs o1⟩
theorem x_bty {x : Str} {id : String} {p : Pos} {e : Expr} {es : List Expr} {f : Av} {g : List D → AH → R D} (hc : CallX X E (.type id) g) (hm : X.mg x = none) (hv : bootBuiltins x = some (.type id)) (ha : Ax X E (e :: es) f) (hg : Gl X x := by rfl) (hn : x ≠ "__name__" := by decide) (hdb : (x == ("__debug__" : Str)) = false := by decide)
    (he : starEach (e :: es) X.env = (false, eval e X.env) :: starEach es X.env := by rfl) (hpl : (backTo pos (starEach es X.env)).any (·.1) = false := by rfl) : Ex X E (.Call (.Name x p) (e :: es) [] pos) (mCall g f) := by
  obtain ⟨r, h1, h2⟩ := hc
  exact pe_imp (pe_callTy h1 hg hm hv ha hn hdb he hpl) fun σ H Q ⟨β, env, h, rl, re, o⟩ => ⟨β, env, h, rl, re, (OutG.bind o).mono fun ds β1 h1 H1 x1 rl1 o1 vs rs => h2 β1 h1 H1 ds vs Q rl1 rs o1⟩
def bLen : List D → AH → R D
  | [.str z], h => if z.length ≤ SL then .ok (.int z.length) h else .bad
  | [d], h => match rdS h d with
    | some xs => .ok (.int xs.length) h
    | none => .bad
  | _, _ => .bad
theorem c_len : CallX X E (.builtin "len") bLen := by
  refine ⟨_, call_len, fun β h H ds vs Q rl rs o => ?_⟩
  cases ds with
  | nil => exact o.elim
  | cons d r =>
    cases r with
    | cons _ _ => exact (by cases d <;> exact o.elim)
    | nil =>
      obtain ⟨v, r, rfl, r1, r2⟩ := rs
      cases r2
      have lists : ∀ xs, rdL h d = some xs → OutG X.K X.mg E β H (R.ok (.int xs.length) h) (PV X.K Q) → ∃ x n, [v] = [x] ∧ LenV X.K x H n ∧ Q (.int n) H := fun xs e o => by
        obtain ⟨_, p, us, rfl, t, rs⟩ := r1.rdL rl e
        exact ⟨_, xs.length, rfl, .inl ⟨us, t, rs.length⟩, o.ok rl _ rfl⟩
      cases d with
      | str z =>
        by_cases hz : z.length ≤ SL
        · simp only [bLen, hz, if_true] at o
          cases r1
          exact ⟨_, z.length, rfl, ⟨by rw [SL_eq]; exact hz, rfl⟩, o.ok rl _ rfl⟩
        · simp only [bLen, hz, if_false] at o; exact o.elim
      | tup xs =>
        obtain ⟨_, p, us, rfl, t, rs⟩ := r1
        exact ⟨_, xs.length, rfl, .inr ⟨us, t.sq, rs.length⟩, OutG.ok (show OutG X.K X.mg E β H (R.ok (.int xs.length) h) (PV X.K Q) from o) rl _ rfl⟩
      | fl xs => exact lists xs rfl o
      | kl xs => exact lists xs rfl o
      | lst i =>
        cases e : rdL h (.lst i) with
        | none => simp only [bLen, rdS, e] at o; exact o.elim
        | some xs => simp only [bLen, rdS, e] at o; exact lists xs e o
      | _ => exact o.elim
/-- a list's dInts -/
def dInts : List D → Option (List Int)
  | [] => some []
  | .int i :: r => (dInts r).map (i :: ·)
  | _ :: _ => none
theorem dInts_reps {K : PySem.W.Frag} {β : Bt} {H : Hp} : ∀ {xs : List D} {vs : List V} {ns : List Int}, Reps K β H xs vs → dInts xs = some ns → vs = ns.map V.int
  | [], _, _, r, e => by cases r; cases e; rfl
  | .int i :: xs, _, ns, ⟨v, r, e1, r1, r2⟩, e => by
    obtain ⟨ms, e2, e3⟩ := Option.map_eq_some_iff.mp e
    subst e1 e3
    rw [dInts_reps r2 e2]
    cases r1; rfl
  | .non :: _, _, _, _, e => by cases e
  | .bl _ :: _, _, _, _, e => by cases e
  | .str _ :: _, _, _, _, e => by cases e
  | .tup _ :: _, _, _, _, e => by cases e
  | .fl _ :: _, _, _, _, e => by cases e
  | .kl _ :: _, _, _, _, e => by cases e
  | .lst _ :: _, _, _, _, e => by cases e
  | .ins _ :: _, _, _, _, e => by cases e
  | .adr _ :: _, _, _, _, e => by cases e
def dBools : List D → Option (List Bool)
  | [] => some []
  | .bl i :: r => (dBools r).map (i :: ·)
  | _ :: _ => none
theorem dBools_reps {K : PySem.W.Frag} {β : Bt} {H : Hp} : ∀ {xs : List D} {vs : List V} {ns : List Bool}, Reps K β H xs vs → dBools xs = some ns → vs = ns.map V.bl
  | [], _, _, r, e => by cases r; cases e; rfl
  | .bl i :: xs, _, ns, ⟨v, r, e1, r1, r2⟩, e => by
    obtain ⟨ms, e2, e3⟩ := Option.map_eq_some_iff.mp e
    subst e1 e3
    rw [dBools_reps r2 e2]
    cases r1; rfl
  | .non :: _, _, _, _, e => by cases e
  | .int _ :: _, _, _, _, e => by cases e
  | .str _ :: _, _, _, _, e => by cases e
  | .tup _ :: _, _, _, _, e => by cases e
  | .fl _ :: _, _, _, _, e => by cases e
  | .kl _ :: _, _, _, _, e => by cases e
  | .lst _ :: _, _, _, _, e => by cases e
  | .ins _ :: _, _, _, _, e => by cases e
  | .adr _ :: _, _, _, _, e => by cases e
@[simp] theorem dInts_map (ns : List Int) : dInts (ns.map D.int) = some ns := by
  induction ns with
  | nil => rfl
  | cons a r ih => simp [dInts, ih]
@[simp] theorem dBools_map (ns : List Bool) : dBools (ns.map D.bl) = some ns := by
  induction ns with
  | nil => rfl
  | cons a r ih => simp [dBools, ih]
end
end Rm

namespace Rm
open PySem PySem.Spec PyProof.Rows L2

/-! ### sum, min, max of a tuple, at the library's level -/
section
variable {prog : Program} {w : World} {A : Around} {E : Value → Shared → Prop} {s : Shared} {l : Addr} {xs : Array (Int × Tok)}
theorem iter_intTup {Q : Value → Shared → Prop} (hl : s.heap.IsTuple l (intItems xs))
    (h : ∀ s₂ : Shared, s₂ = { s with heap := s.heap.push { cls := .type "tuple_iterator", data := .fields #[.ref l, .int 0 0] } } →
      (s₂.heap.IsTupleIter s.heap.objs.size l 0 ∧ s₂.heap.IsTuple l (intItems xs)) → (∀ b ∈ [s.heap.objs.size, l], b < s₂.heap.objs.size) → l ≠ s.heap.objs.size → Q (.ref s.heap.objs.size) s₂) :
    wpAny (model prog w) A (pyIter (.ref l)) Q E s := by
  have hlt : l < s.heap.objs.size := by obtain ⟨_, e, _⟩ := hl; exact Heap.lt_size e
  refine wpAny_pyIter_tuple hl (h _ rfl ⟨⟨_, Heap.get?_push_size _ rfl, rfl, rfl⟩, hl.push _⟩ (fun b hb => ?_) (Nat.ne_of_lt hlt))
  show b < (s.heap.push _).objs.size
  rw [Heap.size_push]
  rcases List.mem_cons.mp hb with rfl | hb
  · exact Nat.lt_succ_self _
  · rcases List.mem_cons.mp hb with rfl | hb
    · exact Nat.lt_succ_of_lt hlt
    · cases hb
theorem old_keptT {h' : Heap} (hk : ∀ b o, b ∉ [s.heap.objs.size] → (s.heap.push { cls := .type "tuple_iterator", data := .fields #[.ref l, .int 0 0] }).get? b = some o → h'.get? b = some o) :
    ∀ b o, s.heap.get? b = some o → h'.get? b = some o := fun b o e => by
  refine hk b o (fun hm => ?_) (Heap.get?_push_of_some _ e)
  rcases List.mem_cons.mp hm with e1 | hm
  · exact absurd (e1 ▸ Heap.lt_size e) (Nat.lt_irrefl _)
  · cases hm
theorem sum_intTup {Q : Value → Shared → Prop} (hh : A.handled = none) (hl : s.heap.IsTuple l (intItems xs))
    (h : ∀ h' tk t', (∀ b o, s.heap.get? b = some o → h'.get? b = some o) → Q (.int (preSum (numAt xs) xs.size) t') { s with heap := h', toks := tk }) :
    wpAny (model prog w) A (call (.builtin "sum") [.ref l]) Q E s := by
  refine call_sum_walkG (iter_intTup hl fun s₂ e st hfp hlI => ?_)
  subst e
  refine ⟨_, _, _, _, _, _, numAt xs, rfl, Walks.tuple (A := A.in1) hh _ l hlI (intItems xs), st, hfp, (fun _ _ => intItems_at), fun h' tk t' hk => ?_⟩
  have := h h' tk t' (old_keptT hk)
  simpa [intItems] using this
theorem max_intTup {Q : Value → Shared → Prop} (hh : A.handled = none) (hl : s.heap.IsTuple l (intItems xs)) (hne : 0 < xs.size)
    (h : ∀ v h' tk, (intItems xs)[argBest (fun i j => decide (numAt xs i > numAt xs j)) (xs.size - 1)]? = some v → (∀ b o, s.heap.get? b = some o → h'.get? b = some o) → Q v { s with heap := h', toks := tk }) :
    wpAny (model prog w) A (call (.builtin "max") [.ref l]) Q E s := by
  refine call_max_walk (iter_intTup hl fun s₂ e st hfp hlI => ?_)
  subst e
  refine ⟨_, _, _, _, _, _, _, rfl, Walks.tuple (A := A.in1) hh _ l hlI (intItems xs), st, hfp, by simpa [intItems] using hne, CmpOf.ints_gt (numAt xs) (fun _ _ => intItems_at), fun v h' tk hP hk => ?_⟩
  exact h v h' tk (by simpa [intItems] using hP) (old_keptT hk)
theorem min_intTup {Q : Value → Shared → Prop} (hh : A.handled = none) (hl : s.heap.IsTuple l (intItems xs)) (hne : 0 < xs.size)
    (h : ∀ v h' tk, (intItems xs)[argBest (fun i j => decide (numAt xs i < numAt xs j)) (xs.size - 1)]? = some v → (∀ b o, s.heap.get? b = some o → h'.get? b = some o) → Q v { s with heap := h', toks := tk }) :
    wpAny (model prog w) A (call (.builtin "min") [.ref l]) Q E s := by
  refine call_min_walk (iter_intTup hl fun s₂ e st hfp hlI => ?_)
  subst e
  refine ⟨_, _, _, _, _, _, _, rfl, Walks.tuple (A := A.in1) hh _ l hlI (intItems xs), st, hfp, by simpa [intItems] using hne, CmpOf.ints_lt (numAt xs) (fun _ _ => intItems_at), fun v h' tk hP hk => ?_⟩
  exact h v h' tk (by simpa [intItems] using hP) (old_keptT hk)
end
section
variable {prog : Program} {w : World} {A : Around} {E : Value → Shared → Prop} {s : Shared} {l : Addr} {its : List Value} {ns : List Int} {Q : Value → Shared → Prop}
theorem sum_rawT (hh : A.handled = none) (hl : s.heap.IsTuple l its.toArray) (hi : IntsAre its ns)
    (h : ∀ h' tk t', (∀ b o, s.heap.get? b = some o → h'.get? b = some o) → Q (.int ns.sum t') { s with heap := h', toks := tk }) : wpAny (model prog w) A (call (.builtin "sum") [.ref l]) Q E s := by
  obtain ⟨xs, e⟩ := hi.allInts.items
  have hn : numsOf (intItems xs).toList = ns := by rw [← e]; exact hi.numsOf
  rw [nums_intItems] at hn
  rw [e] at hl
  refine sum_intTup hh hl fun h' tk t' hk => ?_
  have := h h' tk t' hk
  rw [preSum_eq, List.take_of_length_le (by simp), hn]; exact this
theorem max_rawT (hh : A.handled = none) (hl : s.heap.IsTuple l its.toArray) (hi : IntsAre its ns) (hne : 0 < ns.length)
    (h : ∀ h' tk M t', (∀ b o, s.heap.get? b = some o → h'.get? b = some o) → M ∈ ns → (∀ a, a ∈ ns → a ≤ M) → Q (.int M t') { s with heap := h', toks := tk }) : wpAny (model prog w) A (call (.builtin "max") [.ref l]) Q E s := by
  obtain ⟨xs, e⟩ := hi.allInts.items
  have hn : numsOf (intItems xs).toList = ns := by rw [← e]; exact hi.numsOf
  rw [nums_intItems] at hn
  subst hn
  rw [e] at hl
  have hsz : 0 < xs.size := by simpa using hne
  refine max_intTup hh hl hsz fun v h' tk hv hk => ?_
  obtain ⟨t, rfl⟩ := intItems_at hv
  obtain ⟨h1, h2⟩ := argBest_gt (numAt xs) (xs.size - 1)
  refine h h' tk _ t hk ?_ fun a ha => ?_
  · rw [numAt_eq]; exact PySem.getD_mem (by rw [List.length_map, Array.length_toList]; omega)
  · obtain ⟨j, hj, rfl⟩ := mem_getD ha
    rw [List.length_map, Array.length_toList] at hj
    rw [← numAt_eq]; exact h2 j (by omega)
theorem min_rawT (hh : A.handled = none) (hl : s.heap.IsTuple l its.toArray) (hi : IntsAre its ns) (hne : 0 < ns.length)
    (h : ∀ h' tk M t', (∀ b o, s.heap.get? b = some o → h'.get? b = some o) → M ∈ ns → (∀ a, a ∈ ns → M ≤ a) → Q (.int M t') { s with heap := h', toks := tk }) : wpAny (model prog w) A (call (.builtin "min") [.ref l]) Q E s := by
  obtain ⟨xs, e⟩ := hi.allInts.items
  have hn : numsOf (intItems xs).toList = ns := by rw [← e]; exact hi.numsOf
  rw [nums_intItems] at hn
  subst hn
  rw [e] at hl
  have hsz : 0 < xs.size := by simpa using hne
  refine min_intTup hh hl hsz fun v h' tk hv hk => ?_
  obtain ⟨t, rfl⟩ := intItems_at hv
  obtain ⟨h1, h2⟩ := argBest_lt (numAt xs) (xs.size - 1)
  refine h h' tk _ t hk ?_ fun a ha => ?_
  · rw [numAt_eq]; exact PySem.getD_mem (by rw [List.length_map, Array.length_toList]; omega)
  · obtain ⟨j, hj, rfl⟩ := mem_getD ha
    rw [List.length_map, Array.length_toList] at hj
    rw [← numAt_eq]; exact h2 j (by omega)
end
def SqB (K : PySem.W.Frag) (H : Hp) (a : Addr) (vs : List V) : Prop := SqL K H a vs ∨ SqT K H a vs
def rSumB (K : PySem.W.Frag) : List V → Hp → VK → Prop := fun vs H Q => ∃ (a : Addr) (ns : List Int), vs = [V.ref a] ∧ SqB K H a (ns.map V.int) ∧ Q (.int ns.sum) H
def rMaxB (K : PySem.W.Frag) : List V → Hp → VK → Prop := fun vs H Q => ∃ (a : Addr) (ns : List Int), vs = [V.ref a] ∧ SqB K H a (ns.map V.int) ∧ 0 < ns.length ∧ ∀ m, m ∈ ns → (∀ y, y ∈ ns → y ≤ m) → Q (.int m) H
def rMinB (K : PySem.W.Frag) : List V → Hp → VK → Prop := fun vs H Q => ∃ (a : Addr) (ns : List Int), vs = [V.ref a] ∧ SqB K H a (ns.map V.int) ∧ 0 < ns.length ∧ ∀ m, m ∈ ns → (∀ y, y ∈ ns → m ≤ y) → Q (.int m) H
section
variable {X : Cx} {E : XK}
theorem cr_sumB (hc : X.calm = true) : CallR X (.builtin "sum") (rSumB X.K) := by
  intro pins s σ H vs us Q I r h
  obtain ⟨a, ns, rfl, hs | hs, q⟩ := h
  · obtain ⟨its, rv, hl, _⟩ := I.list hs
    rw [Vals.ref1 r]
    exact sum_raw (I.ok.hd hc) hl.isList rv.ints fun h' tk t' hk => ⟨.int _, H, I.kept hk, ⟨_, rfl⟩, q⟩
  · obtain ⟨its, rv, hl, _⟩ := I.tuple hs
    rw [Vals.ref1 r]
    exact sum_rawT (I.ok.hd hc) hl rv.ints fun h' tk t' hk => ⟨.int _, H, I.kept hk, ⟨_, rfl⟩, q⟩
theorem cr_maxB (hc : X.calm = true) : CallR X (.builtin "max") (rMaxB X.K) := by
  intro pins s σ H vs us Q I r h
  obtain ⟨a, ns, rfl, hs | hs, hne, q⟩ := h
  · obtain ⟨its, rv, hl, _⟩ := I.list hs
    rw [Vals.ref1 r]
    exact max_raw (I.ok.hd hc) hl.isList rv.ints hne fun h' tk m t' hk h1 h2 => ⟨.int _, H, I.kept hk, ⟨_, rfl⟩, q m h1 h2⟩
  · obtain ⟨its, rv, hl, _⟩ := I.tuple hs
    rw [Vals.ref1 r]
    exact max_rawT (I.ok.hd hc) hl rv.ints hne fun h' tk m t' hk h1 h2 => ⟨.int _, H, I.kept hk, ⟨_, rfl⟩, q m h1 h2⟩
theorem cr_minB (hc : X.calm = true) : CallR X (.builtin "min") (rMinB X.K) := by
  intro pins s σ H vs us Q I r h
  obtain ⟨a, ns, rfl, hs | hs, hne, q⟩ := h
  · obtain ⟨its, rv, hl, _⟩ := I.list hs
    rw [Vals.ref1 r]
    exact min_raw (I.ok.hd hc) hl.isList rv.ints hne fun h' tk m t' hk h1 h2 => ⟨.int _, H, I.kept hk, ⟨_, rfl⟩, q m h1 h2⟩
  · obtain ⟨its, rv, hl, _⟩ := I.tuple hs
    rw [Vals.ref1 r]
    exact min_rawT (I.ok.hd hc) hl rv.ints hne fun h' tk m t' hk h1 h2 => ⟨.int _, H, I.kept hk, ⟨_, rfl⟩, q m h1 h2⟩

/-! ### by values -/
def rdI (h : AH) (d : D) : Option (List Int) := (rdS h d).bind dInts
theorem rdI_ok {K : PySem.W.Frag} {mg : Str → Option Value} {β : Bt} {H : Hp} {h : AH} (rl : Rl K mg β h H) {d : D} {v : V} {ns : List Int} (r : Rep K β H d v) (e : rdI h d = some ns) : ∃ p, v = .ref p ∧ SqB K H p (ns.map V.int) := by
  obtain ⟨xs, e1, e2⟩ := Option.bind_eq_some_iff.mp e
  have lists : rdL h d = some xs → ∃ p, v = .ref p ∧ SqB K H p (ns.map V.int) := fun e1 => by
    obtain ⟨_, p, vs, e3, t, rs⟩ := r.rdL rl e1
    exact ⟨p, e3, .inl (by rw [← dInts_reps rs e2]; exact t)⟩
  cases d with
  | tup ys =>
    cases e1
    obtain ⟨_, p, vs, e3, t, rs⟩ := r
    exact ⟨p, e3, .inr (by rw [← dInts_reps rs e2]; exact t.sq)⟩
  | fl ys => exact lists e1
  | kl ys => exact lists e1
  | lst i => exact lists e1
  | _ => cases e1
def bSum : List D → AH → R D
  | [d], h => match rdI h d with
    | some ns => .ok (.int ns.sum) h
    | none => .bad
  | _, _ => .bad
def minL : Int → List Int → Int
  | a, [] => a
  | a, b :: r => minL (min a b) r
def maxL : Int → List Int → Int
  | a, [] => a
  | a, b :: r => maxL (max a b) r
theorem minL_le : ∀ (r : List Int) (a : Int), minL a r ≤ a ∧ ∀ y ∈ r, minL a r ≤ y
  | [], a => ⟨Int.le_refl _, fun _ h => nomatch h⟩
  | b :: r, a => by
    obtain ⟨h1, h2⟩ := minL_le r (min a b)
    refine ⟨Int.le_trans h1 (Int.min_le_left _ _), fun y hy => ?_⟩
    rcases List.mem_cons.mp hy with rfl | hy
    · exact Int.le_trans h1 (Int.min_le_right _ _)
    · exact h2 y hy
theorem minL_mem : ∀ (r : List Int) (a : Int), minL a r = a ∨ minL a r ∈ r
  | [], a => .inl rfl
  | b :: r, a => by
    rcases minL_mem r (min a b) with h | h
    · by_cases c : a ≤ b
      · rw [show min a b = a by omega] at h; exact .inl (by rw [minL, show min a b = a by omega]; exact h)
      · rw [show min a b = b by omega] at h; exact .inr (by rw [minL, show min a b = b by omega, h]; exact List.mem_cons_self)
    · exact .inr (List.mem_cons_of_mem _ h)
theorem maxL_ge : ∀ (r : List Int) (a : Int), a ≤ maxL a r ∧ ∀ y ∈ r, y ≤ maxL a r
  | [], a => ⟨Int.le_refl _, fun _ h => nomatch h⟩
  | b :: r, a => by
    obtain ⟨h1, h2⟩ := maxL_ge r (max a b)
    refine ⟨Int.le_trans (Int.le_max_left _ _) h1, fun y hy => ?_⟩
    rcases List.mem_cons.mp hy with rfl | hy
    · exact Int.le_trans (Int.le_max_right _ _) h1
    · exact h2 y hy
theorem maxL_mem : ∀ (r : List Int) (a : Int), maxL a r = a ∨ maxL a r ∈ r
  | [], a => .inl rfl
  | b :: r, a => by
    rcases maxL_mem r (max a b) with h | h
    · by_cases c : b ≤ a
      · rw [show max a b = a by omega] at h; exact .inl (by rw [maxL, show max a b = a by omega]; exact h)
      · rw [show max a b = b by omega] at h; exact .inr (by rw [maxL, show max a b = b by omega, h]; exact List.mem_cons_self)
    · exact .inr (List.mem_cons_of_mem _ h)
def bMin : List D → AH → R D
  | [.int i, .int j], h => .ok (.int (min i j)) h
  | [d], h => match rdI h d with
    | some (a :: r) => .ok (.int (minL a r)) h
    | _ => .bad
  | _, _ => .bad
def bMax : List D → AH → R D
  | [.int i, .int j], h => .ok (.int (max i j)) h
  | [d], h => match rdI h d with
    | some (a :: r) => .ok (.int (maxL a r)) h
    | _ => .bad
  | _, _ => .bad
theorem reps1 {K : PySem.W.Frag} {β : Bt} {H : Hp} {d : D} {vs : List V} (r : Reps K β H [d] vs) : ∃ v, vs = [v] ∧ Rep K β H d v := by
  obtain ⟨v, r, rfl, r1, r2⟩ := r
  cases r2
  exact ⟨v, rfl, r1⟩
theorem reps2 {K : PySem.W.Frag} {β : Bt} {H : Hp} {d e : D} {vs : List V} (r : Reps K β H [d, e] vs) : ∃ v u, vs = [v, u] ∧ Rep K β H d v ∧ Rep K β H e u := by
  obtain ⟨v, r, rfl, r1, r2⟩ := r
  obtain ⟨u, rfl, r3⟩ := reps1 r2
  exact ⟨v, u, rfl, r1, r3⟩
theorem c_sum (hc : X.calm = true) : CallX X E (.builtin "sum") bSum := by
  refine ⟨_, cr_sumB hc, fun β h H ds vs Q rl rs o => ?_⟩
  match ds, rs, o with
  | [d], rs, o =>
    obtain ⟨v, rfl, r⟩ := reps1 rs
    cases e : rdI h d with
    | none => simp only [bSum, e] at o; exact o.elim
    | some ns =>
      simp only [bSum, e] at o
      obtain ⟨p, rfl, t⟩ := rdI_ok rl r e
      exact ⟨p, ns, rfl, t, o.ok rl _ rfl⟩
  | [], _, o => exact o.elim
  | _ :: _ :: _, _, o => exact o.elim
theorem c_min (hc : X.calm = true) : CallX X E (.builtin "min") bMin := by
  refine ⟨_, CallR.or (call_min2 hc) (cr_minB hc), fun β h H ds vs Q rl rs o => ?_⟩
  have one : ∀ d, Reps X.K β H [d] vs → OutG X.K X.mg E β H (match rdI h d with
    | some (a :: r) => R.ok (.int (minL a r)) h
    | _ => .bad) (PV X.K Q) → rMinB X.K vs H Q := fun d rs o => by
    obtain ⟨v, rfl, r⟩ := reps1 rs
    cases e : rdI h d with
    | none => simp only [e] at o; exact o.elim
    | some ns =>
      cases ns with
      | nil => simp only [e] at o; exact o.elim
      | cons a r' =>
        simp only [e] at o
        obtain ⟨p, rfl, t⟩ := rdI_ok rl r e
        refine ⟨p, a :: r', rfl, t, by simp, fun m hm hle => ?_⟩
        have h1 := minL_le r' a
        have e2 : m = minL a r' := by
          have ha := hle (minL a r') (by rcases minL_mem r' a with z | z <;> simp [z])
          rcases List.mem_cons.mp hm with z | z
          · have := h1.1; omega
          · have := h1.2 m z; omega
        rw [e2]
        exact o.ok rl _ rfl
  match ds, rs, o with
  | [], _, o => exact o.elim
  | [d], rs, o => exact .inr (one d rs (by cases d <;> exact o))
  | [d, e], rs, o =>
    obtain ⟨v, u, rfl, r1, r2⟩ := reps2 rs
    cases d <;> cases e <;> try exact o.elim
    rename_i i j
    cases r1; cases r2
    refine .inl ⟨i, j, rfl, ?_⟩
    have e3 : (if j < i then j else i) = min i j := by split <;> omega
    rw [e3]
    exact OutG.ok (show OutG X.K X.mg E β H (R.ok (.int (min i j)) h) (PV X.K Q) from o) rl _ rfl
  | _ :: _ :: _ :: _, _, o => exact (by rename_i a b c r _; cases a <;> cases b <;> exact o.elim)
theorem c_max (hc : X.calm = true) : CallX X E (.builtin "max") bMax := by
  refine ⟨_, CallR.or (call_max2 hc) (cr_maxB hc), fun β h H ds vs Q rl rs o => ?_⟩
  have one : ∀ d, Reps X.K β H [d] vs → OutG X.K X.mg E β H (match rdI h d with
    | some (a :: r) => R.ok (.int (maxL a r)) h
    | _ => .bad) (PV X.K Q) → rMaxB X.K vs H Q := fun d rs o => by
    obtain ⟨v, rfl, r⟩ := reps1 rs
    cases e : rdI h d with
    | none => simp only [e] at o; exact o.elim
    | some ns =>
      cases ns with
      | nil => simp only [e] at o; exact o.elim
      | cons a r' =>
        simp only [e] at o
        obtain ⟨p, rfl, t⟩ := rdI_ok rl r e
        refine ⟨p, a :: r', rfl, t, by simp, fun m hm hle => ?_⟩
        have h1 := maxL_ge r' a
        have e2 : m = maxL a r' := by
          have ha := hle (maxL a r') (by rcases maxL_mem r' a with z | z <;> simp [z])
          rcases List.mem_cons.mp hm with z | z
          · have := h1.1; omega
          · have := h1.2 m z; omega
        rw [e2]
        exact o.ok rl _ rfl
  match ds, rs, o with
  | [], _, o => exact o.elim
  | [d], rs, o => exact .inr (one d rs (by cases d <;> exact o))
  | [d, e], rs, o =>
    obtain ⟨v, u, rfl, r1, r2⟩ := reps2 rs
    cases d <;> cases e <;> try exact o.elim
    rename_i i j
    cases r1; cases r2
    refine .inl ⟨i, j, rfl, ?_⟩
    have e3 : (if j > i then j else i) = max i j := by split <;> omega
    rw [e3]
    exact OutG.ok (show OutG X.K X.mg E β H (R.ok (.int (max i j)) h) (PV X.K Q) from o) rl _ rfl
  | _ :: _ :: _ :: _, _, o => exact (by rename_i a b c r _; cases a <;> cases b <;> exact o.elim)
def bAll : List D → AH → R D
  | [d], h => match (rdL h d).bind dBools with
    | some bs => .ok (.bl (bs.all id)) h
    | none => .bad
  | _, _ => .bad
def bAny : List D → AH → R D
  | [d], h => match (rdL h d).bind dBools with
    | some bs => .ok (.bl (bs.any id)) h
    | none => .bad
  | _, _ => .bad
theorem rdBo_ok {K : PySem.W.Frag} {mg : Str → Option Value} {β : Bt} {H : Hp} {h : AH} (rl : Rl K mg β h H) {d : D} {v : V} {bs : List Bool} (r : Rep K β H d v) (e : (rdL h d).bind dBools = some bs) : ∃ p, v = .ref p ∧ SqL K H p (bs.map V.bl) := by
  obtain ⟨xs, e1, e2⟩ := Option.bind_eq_some_iff.mp e
  obtain ⟨_, p, vs, e3, t, rs⟩ := r.rdL rl e1
  exact ⟨p, e3, by rw [← dBools_reps rs e2]; exact t⟩
theorem c_all (hc : X.calm = true) : CallX X E (.builtin "all") bAll := by
  refine ⟨_, cr_all hc, fun β h H ds vs Q rl rs o => ?_⟩
  match ds, rs, o with
  | [d], rs, o =>
    obtain ⟨v, rfl, r⟩ := reps1 rs
    cases e : (rdL h d).bind dBools with
    | none => simp only [bAll, e] at o; exact o.elim
    | some bs =>
      simp only [bAll, e] at o
      obtain ⟨p, rfl, t⟩ := rdBo_ok rl r e
      exact ⟨p, bs, rfl, t, o.ok rl _ rfl⟩
  | [], _, o => exact o.elim
  | _ :: _ :: _, _, o => exact o.elim
theorem c_any (hc : X.calm = true) : CallX X E (.builtin "any") bAny := by
  refine ⟨_, cr_any hc, fun β h H ds vs Q rl rs o => ?_⟩
  match ds, rs, o with
  | [d], rs, o =>
    obtain ⟨v, rfl, r⟩ := reps1 rs
    cases e : (rdL h d).bind dBools with
    | none => simp only [bAny, e] at o; exact o.elim
    | some bs =>
      simp only [bAny, e] at o
      obtain ⟨p, rfl, t⟩ := rdBo_ok rl r e
      exact ⟨p, bs, rfl, t, o.ok rl _ rfl⟩
  | [], _, o => exact o.elim
  | _ :: _ :: _, _, o => exact o.elim
def bInt : List D → AH → R D
  | [.int i], h => .ok (.int i) h
  | [.bl b], h => .ok (.int (if b then 1 else 0)) h
  | _, _ => .bad
theorem c_int : CallX X E (.type "int") bInt := by
  refine ⟨_, call_int1, fun β h H ds vs Q rl rs o => ?_⟩
  match ds, rs, o with
  | [d], rs, o =>
    obtain ⟨v, rfl, r⟩ := reps1 rs
    cases d with
    | int i => cases r; exact .inl ⟨i, rfl, OutG.ok (show OutG X.K X.mg E β H (R.ok (.int i) h) (PV X.K Q) from o) rl _ rfl⟩
    | bl b => cases r; exact .inr ⟨b, rfl, OutG.ok (show OutG X.K X.mg E β H (R.ok (.int (if b then 1 else 0)) h) (PV X.K Q) from o) rl _ rfl⟩
    | _ => exact o.elim
  | [], _, o => exact o.elim
  | a :: _ :: _, _, o => exact (by cases a <;> exact o.elim)
def bAbs : List D → AH → R D
  | [.int i], h => .ok (.int (if i < 0 then -i else i)) h
  | _, _ => .bad
theorem c_abs : CallX X E (.builtin "abs") bAbs := by
  refine ⟨_, call_abs, fun β h H ds vs Q rl rs o => ?_⟩
  match ds, rs, o with
  | [d], rs, o =>
    obtain ⟨v, rfl, r⟩ := reps1 rs
    cases d with
    | int i => cases r; exact ⟨i, rfl, OutG.ok (show OutG X.K X.mg E β H (R.ok (.int (if i < 0 then -i else i)) h) (PV X.K Q) from o) rl _ rfl⟩
    | _ => exact o.elim
  | [], _, o => exact o.elim
  | a :: _ :: _, _, o => exact (by cases a <;> exact o.elim)
def bTup : List D → AH → R D
  | [d], h => match rdS h d with
    | some xs => .ok (.tup xs) h
    | none => .bad
  | _, _ => .bad
theorem rdS_tup {h : AH} {d : D} {xs : List D} (e : rdS h d = some xs) : d = .tup xs ∨ rdL h d = some xs := by
  cases d <;> first | exact .inl (by cases e; rfl) | exact .inr e
theorem c_tuple : CallX X E (.type "tuple") bTup := by
  refine ⟨_, call_tuple_of, fun β h H ds vs Q rl rs o => ?_⟩
  match ds, rs, o with
  | [d], rs, o =>
    obtain ⟨v, rfl, r⟩ := reps1 rs
    cases e : rdS h d with
    | none => simp only [bTup, e] at o; exact o.elim
    | some xs =>
      simp only [bTup, e] at o
      rcases rdS_tup e with e1 | e1
      · subst e1
        obtain ⟨z, p, us, rfl, t, r2⟩ := id r
        exact ⟨p, us, rfl, .inr ⟨t.sq, o.ok rl _ r⟩⟩
      · obtain ⟨hz, p, us, rfl, t, r2⟩ := r.rdL rl e1
        exact ⟨p, us, rfl, .inl ⟨t, fun q hq => o.okx (Ext.upd_new hq) (rl.upd_new hq) _ (Rep.newTup rl hq r2 hz)⟩⟩
  | [], _, o => exact o.elim
  | _ :: _ :: _, _, o => exact o.elim
def bLst : List D → AH → R D
  | [d], h => match rdS h d with
    | some xs => .ok (.fl xs) h
    | none => .bad
  | _, _ => .bad
def bLstM : List D → AH → R D
  | [d], h => match rdS h d with
    | some xs => .ok (.lst h.length) (h ++ [.lst xs])
    | none => .bad
  | _, _ => .bad
theorem rdS_any {K : PySem.W.Frag} {mg : Str → Option Value} {β : Bt} {H : Hp} {h : AH} (rl : Rl K mg β h H) {d : D} {v : V} {xs : List D} (r : Rep K β H d v) (e : rdS h d = some xs) : xs.length ≤ SL ∧ ∃ p vs, v = .ref p ∧ SqB K H p vs ∧ Reps K β H xs vs := by
  rcases rdS_tup e with e1 | e1
  · subst e1
    obtain ⟨z, p, us, e2, t, r2⟩ := r
    exact ⟨by rw [← SL_eq]; exact z, p, us, e2, .inr t.sq, r2⟩
  · obtain ⟨hz, p, us, e2, t, r2⟩ := r.rdL rl e1
    exact ⟨hz, p, us, e2, .inl t, r2⟩
theorem c_list : CallX X E (.type "list") bLst := by
  refine ⟨_, call_list_of, fun β h H ds vs Q rl rs o => ?_⟩
  match ds, rs, o with
  | [d], rs, o =>
    obtain ⟨v, rfl, r⟩ := reps1 rs
    cases e : rdS h d with
    | none => simp only [bLst, e] at o; exact o.elim
    | some xs =>
      simp only [bLst, e] at o
      obtain ⟨hz, p, us, rfl, t, r2⟩ := rdS_any rl r e
      exact ⟨p, us, rfl, t, fun q hq => o.okx (Ext.upd_new hq) (rl.upd_new hq) _ (Rep.newFl rl hq r2 hz)⟩
  | [], _, o => exact o.elim
  | _ :: _ :: _, _, o => exact o.elim
theorem c_listM : CallX X E (.type "list") bLstM := by
  refine ⟨_, call_list_of, fun β h H ds vs Q rl rs o => ?_⟩
  match ds, rs, o with
  | [d], rs, o =>
    obtain ⟨v, rfl, r⟩ := reps1 rs
    cases e : rdS h d with
    | none => simp only [bLstM, e] at o; exact o.elim
    | some xs =>
      simp only [bLstM, e] at o
      obtain ⟨hz, p, us, rfl, t, r2⟩ := rdS_any rl r e
      refine ⟨p, us, rfl, t, fun q hq => o.okx (Ext.push hq) (rl.push hq (by rw [SL_eq]; exact hz) r2) _ ?_⟩
      rw [← rl.len]
      exact Rep.newLst
  | [], _, o => exact o.elim
  | _ :: _ :: _, _, o => exact o.elim
end
end Rm

namespace Rm
open PySem PySem.Spec PyProof.Rows L2

/-! ### isinstance of built-in types -/
def tyD (h : AH) : D → Option String
  | .non => some "NoneType"
  | .bl _ => some "bool"
  | .int _ => some "int"
  | .str _ => some "str"
  | .tup _ => some "tuple"
  | .fl _ => some "list"
  | .kl _ => some "list"
  | .lst a => match h[a]? with
    | some (.lst _) => some "list"
    | _ => none
  | .ins _ => none
  | .adr _ => none
def isTy (t c : String) : Bool := t == c || (t == "bool" && c == "int")
def knownT (c : String) : Bool := c == "int" || c == "bool" || c == "tuple" || c == "list" || c == "str"
def gIs (cs : List String) (d : D) (h : AH) : R D := match tyD h d with
  | some t => .ok (.bl (cs.any fun c => isTy t c)) h
  | none => .bad
theorem kit_tab : (["NoneType", "bool", "int", "str", "tuple", "list"].all fun t => ["int", "bool", "tuple", "list", "str"].all fun c => kitB t c == some (isTy t c)) = true := by decide +kernel
theorem kit_at {t c : String} (ht : t ∈ ["NoneType", "bool", "int", "str", "tuple", "list"]) (hc : c ∈ ["int", "bool", "tuple", "list", "str"]) : kitB t c = some (isTy t c) := by
  have h1 := List.all_eq_true.mp kit_tab t ht
  exact eq_of_beq (List.all_eq_true.mp h1 c hc)
theorem tyD_mem {h : AH} {d : D} {t : String} (e : tyD h d = some t) : t ∈ ["NoneType", "bool", "int", "str", "tuple", "list"] := by
  cases d <;> first
    | (cases e; simp; done)
    | (simp only [tyD] at e; split at e <;> first | (cases e; simp; done) | cases e)
    | cases e
section
variable {X : Cx} {E : XK} {pos : Pos}
theorem tyx_of {K : PySem.W.Frag} {mg : Str → Option Value} {β : Bt} {H : Hp} {h : AH} (rl : Rl K mg β h H) {d : D} {v : V} {t : String} (r : Rep K β H d v) (e : tyD h d = some t) : TyX K H v (.type t) := by
  cases d with
  | non => cases e; cases r; exact .base .non
  | bl b => cases e; cases r; exact .base (.bl b)
  | int i => cases e; cases r; exact .base (.int i)
  | str z => cases e; cases r; exact .base (.str z)
  | tup xs =>
    cases e
    obtain ⟨_, p, vs, rfl, t, _⟩ := r
    rcases t with ⟨t | ⟨o, t⟩, _⟩ | ⟨o, its, n, k1, k2, _⟩
    · exact .base (.tup t)
    · exact .fTuple t
    · exact .kTuple k1 k2
  | fl xs =>
    cases e
    obtain ⟨_, p, vs, rfl, t, _⟩ := r
    exact .base (.lst t.1)
  | kl xs =>
    cases e
    obtain ⟨_, p, vs, rfl, t, _⟩ := r
    rcases t with ⟨t | ⟨o, t⟩, _⟩ | ⟨o, its, n, k1, k2, _⟩
    · exact .base (.lst t)
    · exact .base (.frz t)
    · exact .kList k1 k2
  | lst a =>
    simp only [tyD] at e
    split at e
    · rename_i xs hx
      cases e
      obtain ⟨_, p, vs, rfl, _, e2, _⟩ := rl.at_lst hx r
      exact .base (.lst e2)
    · cases e
  | ins a => cases e
  | adr a => cases e
/-- isinstance(x, T) -/
theorem x_isi {a : Expr} {fa : Ev} {c : Str} {n : String} {p p2 : Pos} (hn : n ∈ ["int", "bool", "tuple", "list", "str"]) (hm : X.mg "isinstance" = none) (hc : X.mg c = none) (hv : bootBuiltins c = some (.type n)) (ha : Ex X E a fa) (hg : Gl X "isinstance" := by rfl) (hgc : Gl X c := by rfl)
    (hnn : c ≠ "__name__" := by decide) (hdb : (c == ("__debug__" : Str)) = false := by decide)
    (he : starEach [a, .Name c p2] X.env = (false, eval a X.env) :: starEach [.Name c p2] X.env := by rfl) (hpl : (backTo pos (starEach [.Name c p2] X.env)).any (·.1) = false := by rfl) :
    Ex X E (.Call (.Name "isinstance" p) [a, .Name c p2] [] pos) (m1 (gIs [n]) fa) := by
  have pc : PE X (.Name c p2) (tC (.ty n)) := pe_bltn hgc hc hv rfl hnn hdb
  refine pe_imp (pe_callB call_isi hg hm PyProof.Rows.boot_isinstance (pa_cons ha (pa_cons pc pa_nil) he) (by decide) (by decide) he hpl) fun σ H Q ⟨β, env, h, rl, re, o⟩ => ⟨β, env, h, rl, re, (OutG.bind o).mono fun d β1 h1 H1 x1 rl1 o1 v r => ?_⟩
  cases e : tyD h1 d with
  | none => simp only [gIs, e] at o1; exact o1.elim
  | some t =>
    simp only [gIs, e] at o1
    have k := kit_at (tyD_mem e) hn
    refine ⟨v, .ty n, .type t, .type n, isTy t n, rfl, .ty n, tyx_of rl1 r e, kit_ty k, ?_⟩
    have e2 : ([n].any fun c => isTy t c) = isTy t n := by simp
    rw [e2] at o1
    exact o1.ok rl1 _ rfl
/-- names of built-in types -/
inductive TyNames (X : Cx) : List Expr → List String → Prop
  | nil : TyNames X [] []
  | cons {c : Str} {n : String} {p2 : Pos} {es : List Expr} {ns : List String} (hn : n ∈ ["int", "bool", "tuple", "list", "str"]) (hc : X.mg c = none) (hv : bootBuiltins c = some (.type n)) (hgc : Gl X c) (hnn : c ≠ "__name__") (hdb : (c == ("__debug__" : Str)) = false)
      (he : starEach (.Name c p2 :: es) X.env = (false, eval (.Name c p2) X.env) :: starEach es X.env) (r : TyNames X es ns) : TyNames X (.Name c p2 :: es) (n :: ns)
def tTys (ns : List String) : TA := fun _ H Q => Q (ns.map V.ty) H
theorem TyNames.pa {es : List Expr} {ns : List String} (t : TyNames X es ns) : PA X es (tTys ns) := by
  induction t with
  | nil => exact pa_imp pa_nil fun σ H Q q => q
  | cons hn hc hv hgc hnn hdb he r ih =>
    rename_i c n p2 es ns
    exact pa_imp (pa_cons (pe_bltn (v := .ty n) hgc hc hv rfl hnn hdb) ih he) fun σ H Q q => q
theorem TyNames.mem {es : List Expr} {ns : List String} (t : TyNames X es ns) : ∀ n ∈ ns, n ∈ ["int", "bool", "tuple", "list", "str"] := by
  induction t with
  | nil => intro n h; cases h
  | cons hn hc hv hgc hnn hdb he r ih =>
    intro n h
    rcases List.mem_cons.mp h with rfl | h
    · exact hn
    · exact ih n h
theorem kit_any {K : PySem.W.Frag} {t : String} (ht : t ∈ ["NoneType", "bool", "int", "str", "tuple", "list"]) : ∀ ns : List String, (∀ n ∈ ns, n ∈ ["int", "bool", "tuple", "list", "str"]) → PySem.W.kitAny K (.type t) (ns.map Value.type) = some (ns.any fun c => isTy t c)
  | [], _ => rfl
  | n :: ns, h => by
    have k := kit_ty (K := K) (kit_at ht (h n List.mem_cons_self))
    show (match PySem.W.kitOne K (.type t) (.type n) with
      | some true => some true
      | some false => PySem.W.kitAny K (.type t) (ns.map Value.type)
      | none => none) = _
    rw [k]
    cases q : isTy t n with
    | true => simp [q]
    | false =>
      show PySem.W.kitAny K (.type t) (ns.map Value.type) = _
      rw [kit_any ht ns fun m hm => h m (List.mem_cons_of_mem _ hm)]
      simp [q]
theorem clsv_tys : ∀ ns : List String, Paired ClsV (ns.map V.ty) (ns.map Value.type)
  | [] => .nil
  | n :: ns => .cons (.ty n) (clsv_tys ns)
/-- isinstance(x, (T1, T2, ..)) -/
theorem x_isiT {a : Expr} {fa : Ev} {es : List Expr} {ns : List String} {k : Nat} {p p2 : Pos} (t : TyNames X es ns) (hz : ns.length ≤ 100) (hm : X.mg "isinstance" = none) (ha : Ex X E a fa) (hg : Gl X "isinstance" := by rfl)
    (he : starEach [a, .Tuple es k p2] X.env = (false, eval a X.env) :: starEach [.Tuple es k p2] X.env := by rfl) (hpl : (backTo pos (starEach [.Tuple es k p2] X.env)).any (·.1) = false := by rfl) :
    Ex X E (.Call (.Name "isinstance" p) [a, .Tuple es k p2] [] pos) (m1 (gIs ns) fa) := by
  refine pe_imp (pe_callB call_isiT hg hm PyProof.Rows.boot_isinstance (pa_cons ha (pa_cons (pe_tup t.pa) pa_nil) he) (by decide) (by decide) he hpl) fun σ H Q ⟨β, env, h, rl, re, o⟩ => ⟨β, env, h, rl, re, (OutG.bind o).mono fun d β1 h1 H1 x1 rl1 o1 v r => ?_⟩
  cases e : tyD h1 d with
  | none => simp only [gIs, e] at o1; exact o1.elim
  | some t' =>
    simp only [gIs, e] at o1
    refine ⟨by rw [List.length_map, sizeLine_eq]; omega, fun q hq => ?_⟩
    have x2 := Ext.upd_new (β := β1) (o := .tup (ns.map V.ty)) hq
    have rl2 := rl1.upd_new (o := .tup (ns.map V.ty)) hq
    refine ⟨v, q, ns.map V.ty, .type t', ns.map Value.type, ns.any fun c => isTy t' c, rfl, upd_same, clsv_tys ns, tyx_of rl2 (r.ext x2) e, kit_any (tyD_mem e) ns t.mem, ?_⟩
    exact o1.okx x2 rl2 _ rfl

/-! ### targets -/
def gNm (i : Nat) : Gv := fun d env h => .ok (env.set i (some d)) h
theorem RelE.set {K : PySem.W.Frag} {β : Bt} {H : Hp} {env : En} {σ : St} (r : RelE K β H env σ) (i : Nat) {d : D} {v : V} (rd : Rep K β H d v) : RelE K β H (env.set i (some d)) (σ.set i (some v)) := by
  refine ⟨by simp [r.len], fun j d' e => ?_⟩
  by_cases hj : j = i
  · subst hj
    have hl : j < env.length := by
      have := (List.getElem?_eq_some_iff.mp e).1
      simpa using this
    rw [List.getElem?_set_self hl] at e
    cases e
    exact ⟨v, List.getElem?_set_self (by rw [← r.len]; exact hl), rd⟩
  · rw [List.getElem?_set_ne (Ne.symm hj)] at e
    obtain ⟨u, e1, r1⟩ := r.at_ j d' e
    exact ⟨u, by rw [List.getElem?_set_ne (Ne.symm hj)]; exact e1, r1⟩
theorem g_nm (i : Nat) {x : Str} (hN : X.N.Nodup) (hi : X.N[i]? = some x := by rfl) (hx : Loc X.env.scope x := by first | exact Or.inl rfl | exact Or.inr rfl) (hf : X.fn x = true ∨ X.env.scope.names.lookup x = some .local := by first | exact .inl rfl | exact .inr rfl) : Gx X E (.Name x pos) (gNm i) :=
  pg_imp (pg_name hN hi hx hf) fun v σ H Q ⟨β, env, h, d, rl, re, rd, o⟩ => o.ok rl _ (re.set i rd)
abbrev Gvs := List D → En → AH → R En
def gsNil : Gvs := fun ds env h => match ds with
  | [] => .ok env h
  | _ => .bad
def gsCons (g : Gv) (r : Gvs) : Gvs := fun ds env h => match ds with
  | d :: ds => (g d env h).bind fun env1 h1 => r ds env1 h1
  | [] => .bad
def TGs (K : PySem.W.Frag) (mg : Str → Option Value) (E : XK) (g : Gvs) : L2.TGs := fun vs σ H Q => ∃ β env h ds, Rl K mg β h H ∧ RelE K β H env σ ∧ Reps K β H ds vs ∧ OutG K mg E β H (g ds env h) (PEn K Q)
def Gsx (X : Cx) (E : XK) (ts : List Expr) (g : Gvs) : Prop := PGs X ts (TGs X.K X.mg E g)
theorem pgs_imp {ts : List Expr} {t t' : L2.TGs} (h : PGs X ts t) (k : ∀ v σ H Q, t' v σ H Q → t v σ H Q) : PGs X ts t' := ⟨fun pins s σ H v u Q I r q => h.run pins s σ H v u Q I r (k v σ H Q q)⟩
theorem gs_nil : Gsx X E [] gsNil := pgs_imp pgs_nil fun vs σ H Q ⟨β, env, h, ds, rl, re, rs, o⟩ => by
  cases ds with
  | nil => cases rs; exact ⟨rfl, o.ok rl _ re⟩
  | cons _ _ => exact o.elim
theorem gs_cons {e : Expr} {es : List Expr} {g : Gv} {r : Gvs} (h1 : Gx X E e g) (h2 : Gsx X E es r) (hs : (assignEach (e :: es) X.env).map (·.2) = assign e X.env :: (assignEach es X.env).map (·.2) := by rfl) : Gsx X E (e :: es) (gsCons g r) :=
  pgs_imp (pgs_cons h1 h2 hs) fun vs σ H Q ⟨β, env, h, ds, rl, re, rs, o⟩ => by
    cases ds with
    | nil => exact o.elim
    | cons d ds =>
      obtain ⟨v, us, rfl, r1, r2⟩ := rs
      exact ⟨v, us, rfl, β, env, h, d, rl, re, r1, (OutG.bind o).mono fun env1 β1 h1 H1 x1 rl1 o1 σ1 re1 => ⟨β1, env1, h1, ds, rl1, re1, Reps.ext x1 _ _ r2, o1⟩⟩
def gTp (n : Nat) (g : Gvs) : Gv := fun d env h => match d with
  | .tup ds => if ds.length = n then g ds env h else .bad
  | _ => .bad
theorem g_tp {es : List Expr} {k n : Nat} {g : Gvs} (hc : X.calm = true) (h : Gsx X E es g) (hn : (assignEach es X.env).length = n := by rfl) (hst : (assignEach es X.env).findIdx? (·.1) = none := by rfl) : Gx X E (.Tuple es k pos) (gTp n g) :=
  pg_imp (pg_tup hc h hn hst) fun v σ H Q ⟨β, env, h, d, rl, re, rd, o⟩ => by
    cases d with
    | tup ds =>
      by_cases hl : ds.length = n
      · simp only [gTp, hl, if_true] at o
        obtain ⟨_, p, us, rfl, t, rs⟩ := rd
        exact ⟨p, us, rfl, t.sq, by rw [← rs.length]; exact hl, β, env, h, ds, rl, re, rs, o⟩
      · simp only [gTp, hl, if_false] at o; exact o.elim
    | _ => exact o.elim

/-! ### statements -/
def sSeq (f g : Sv) : Sv := fun env h => (f env h).bind fun fl h1 => match fl with
  | .nx e1 => g e1 h1
  | o => .ok o h1
def sNil : Sv := fun env h => .ok (.nx env) h
def sAsg (f : Ev) (g : Gv) : Sv := fun env h => (f env h).bind fun d h1 => (g d env h1).bind fun e1 h2 => .ok (.nx e1) h2
def sRet (f : Ev) : Sv := fun env h => (f env h).bind fun d h1 => .ok (.rt d) h1
def sRetN : Sv := fun _ h => .ok (.rt .non) h
def sIf (c : Tv) (f g : Sv) : Sv := fun env h => (c env h).bind fun b h1 => if b = true then f env h1 else g env h1
def sExp (f : Ev) : Sv := fun env h => (f env h).bind fun _ h1 => .ok (.nx env) h1
def sBad : Sv := fun _ _ => .bad
theorem b_nil : Bx X E [] sNil := pss_imp pss_nil fun Dn σ H ⟨β, env, h, rl, re, o⟩ => o.ok rl _ re
theorem b_cons {st : Stmt} {rest : List Stmt} {f g : Sv} (h1 : Sx X E st f) (h2 : Bx X E rest g) : Bx X E (st :: rest) (sSeq f g) :=
  pss_imp (pss_cons h1 h2) fun Dn σ H ⟨β, env, h, rl, re, o⟩ => ⟨β, env, h, rl, re, (OutG.bind o).mono fun fl β1 h1 H1 x1 rl1 o1 => by
    cases fl with
    | nx e1 => exact fun σ1 re1 => ⟨β1, e1, h1, rl1, re1, o1⟩
    | rt d => exact o1.ok rl1
    | bk e1 => exact o1.ok rl1
    | ct e1 => exact o1.ok rl1⟩
theorem b_one {st : Stmt} {f : Sv} (h1 : Sx X E st f) : Bx X E [st] f := pss_imp (pss_one h1) fun Dn σ H q => q
theorem s_asg {tg e : Expr} {f : Ev} {g : Gv} (he : Ex X E e f) (hg : Gx X E tg g) (hs : swapsWithSole [tg] e pos.line X.env = pure false := by rfl) (hw : swappedStores [tg] e X.env = pure none := by rfl)
    (h1 : (assignEach [tg] X.env).map (·.2) = [assign tg X.env] := by rfl) : Sx X E (.Assign [tg] e pos) (sAsg f g) :=
  ps_imp (ps_asg he hg hs hw h1) fun Dn σ H ⟨β, env, h, rl, re, o⟩ => ⟨β, env, h, rl, re, (OutG.bind o).mono fun d β1 h1 H1 x1 rl1 o1 v r => ⟨β1, env, h1, d, rl1, re.ext x1, r, (OutG.bind o1).mono fun e1 β2 h2 H2 x2 rl2 o2 σ2 re2 => o2.ok rl2 σ2 re2⟩⟩
theorem s_set (i : Nat) {x : Str} {e : Expr} {f : Ev} {pos' : Pos} (hN : X.N.Nodup) (he : Ex X E e f) (hi : X.N[i]? = some x := by rfl) (hx : Loc X.env.scope x := by first | exact Or.inl rfl | exact Or.inr rfl) (hs : swapsWith e (some (.Name x pos')) pos.line X.env = pure false := by rfl) (hf : X.fn x = true ∨ X.env.scope.names.lookup x = some .local := by first | exact .inl rfl | exact .inr rfl) :
    Sx X E (.Assign [.Name x pos'] e pos) (sAsg f (gNm i)) :=
  ps_imp (ps_set hN hi hx he hs hf) fun Dn σ H ⟨β, env, h, rl, re, o⟩ => ⟨β, env, h, rl, re, (OutG.bind o).mono fun d β1 h1 H1 x1 rl1 o1 v r => OutG.ok (show OutG X.K X.mg E β1 H1 (R.ok (.nx (env.set i (some d))) h1) (PF X.K Dn) from o1) rl1 _ ((re.ext x1).set i r)⟩
theorem s_ret {e : Expr} {f : Ev} (he : Ex X E e f) : Sx X E (.Return (some e) pos) (sRet f) :=
  ps_imp (ps_ret he) fun Dn σ H ⟨β, env, h, rl, re, o⟩ => ⟨β, env, h, rl, re, (OutG.bind o).mono fun d β1 h1 H1 x1 rl1 o1 v r => o1.ok rl1 v r⟩
theorem s_retN : Sx X E (.Return none pos) sRetN := ps_imp ps_retN fun Dn σ H ⟨β, env, h, rl, re, o⟩ => o.ok rl _ rfl
theorem s_if {c : Expr} {a b : List Stmt} {fc : Tv} {f g : Sv} (hc : Tx X E c fc) (ha : Bx X E a f) (hb : Bx X E b g) : Sx X E (.If c a b pos) (sIf fc f g) :=
  ps_imp (ps_if hc ha hb) fun Dn σ H ⟨β, env, h, rl, re, o⟩ => ⟨β, env, h, rl, re, (OutG.bind o).mono fun c β1 h1 H1 x1 rl1 o1 => by
    cases c with
    | true => exact ⟨β1, env, h1, rl1, re.ext x1, o1⟩
    | false => exact ⟨β1, env, h1, rl1, re.ext x1, o1⟩⟩
theorem s_exp {e : Expr} {f : Ev} (he : Ex X E e f) (hs : swapsWith e none pos.line X.env = pure false := by rfl) : Sx X E (.Expr e pos) (sExp f) :=
  ps_imp (ps_expr he hs) fun Dn σ H ⟨β, env, h, rl, re, o⟩ => ⟨β, env, h, rl, re, (OutG.bind o).mono fun d β1 h1 H1 x1 rl1 o1 v r => o1.ok rl1 σ (re.ext x1)⟩
theorem s_pass : Sx X E (.Pass pos) sNil := ps_imp ps_pass fun Dn σ H ⟨β, env, h, rl, re, o⟩ => o.ok rl _ re
/-- a statement that the proof never comes to -/
theorem s_bad {st : Stmt} : Sx X E st sBad := ps_imp ps_never fun Dn σ H ⟨β, env, h, rl, re, o⟩ => o
theorem b_bad {sts : List Stmt} : Bx X E sts sBad := pss_imp pss_never fun Dn σ H ⟨β, env, h, rl, re, o⟩ => o
/-- a, b = x, y -/
def sPar (i j : Nat) (es : Av) : Sv := fun env h => (es env h).bind fun ds h1 => match ds with
  | [a, b] => .ok (.nx ((env.set i (some a)).set j (some b))) h1
  | _ => .bad
theorem s_par (i j : Nat) {x y : Str} {a b : Expr} {f : Av} {px py pt : Pos} {kt k2 : Nat} {pt2 : Pos} (hc : X.calm = true) (hN : X.N.Nodup) (ha : Ax X E [a, b] f) (hij : i ≠ j := by decide) (hi : X.N[i]? = some x := by rfl) (hj : X.N[j]? = some y := by rfl)
    (hx : X.env.scope.names.lookup x = some .local := by rfl) (hy : X.env.scope.names.lookup y = some .local := by rfl)
    (hw : swappedStores [.Tuple [.Name x px, .Name y py] kt pt] (.Tuple [a, b] k2 pt2) X.env = pure (some [x, y]) := by rfl)
    (hs : swapsWithSole [.Tuple [.Name x px, .Name y py] kt pt] (.Tuple [a, b] k2 pt2) pos.line X.env = pure false := by rfl) :
    Sx X E (.Assign [.Tuple [.Name x px, .Name y py] kt pt] (.Tuple [a, b] k2 pt2) pos) (sPar i j f) :=
  ps_imp (ps_par hc hN hi hj hij hx hy ha hw hs) fun Dn σ H ⟨β, env, h, rl, re, o⟩ => ⟨β, env, h, rl, re, (OutG.bind o).mono fun ds β1 h1 H1 x1 rl1 o1 vs rs => by
    match ds, rs, o1 with
    | [d, e], rs, o1 =>
      obtain ⟨v, u, rfl, r1, r2⟩ := reps2 rs
      exact ⟨v, u, rfl, OutG.ok (show OutG X.K X.mg E β1 H1 (R.ok (.nx ((env.set i (some d)).set j (some e))) h1) (PF X.K Dn) from o1) rl1 _ (((re.ext x1).set i r1).set j r2)⟩
    | [], _, o1 => exact o1.elim
    | [_], _, o1 => exact o1.elim
    | _ :: _ :: _ :: _, _, o1 => exact o1.elim⟩
/-- x op= e -/
def sAug (i : Nat) (g : D → D → AH → R D) (f : Ev) : Sv := fun env h => match env[i]? with
  | some (some a) => (f env h).bind fun b h1 => (g a b h1).bind fun z h2 => .ok (.nx (env.set i (some z))) h2
  | _ => .bad
def IpX (X : Cx) (E : XK) (op : Operator) (g : D → D → AH → R D) : Prop :=
  ∃ r, PIp X op r ∧ ∀ β h H a b x y Q, Rl X.K X.mg β h H → Rep X.K β H a x → Rep X.K β H b y → OutG X.K X.mg E β H (g a b h) (PV X.K Q) → r x y H Q
theorem s_aug (i : Nat) {x : Str} {e : Expr} {f : Ev} {op : Operator} {g : D → D → AH → R D} {pos' : Pos} (hN : X.N.Nodup) (ho : IpX X E op g) (he : Ex X E e f) (hi : X.N[i]? = some x := by rfl) (hx : Loc X.env.scope x := by first | exact Or.inl rfl | exact Or.inr rfl) (hf : X.fn x = true ∨ X.env.scope.names.lookup x = some .local := by first | exact .inl rfl | exact .inr rfl) :
    Sx X E (.AugAssign (.Name x pos') op e pos) (sAug i g f) := by
  obtain ⟨r, h1, h2⟩ := ho
  refine ps_imp (ps_aug hN hi hx he h1 hf) fun Dn σ H ⟨β, env, h, rl, re, o⟩ => ?_
  unfold sAug at o
  cases q : env[i]? with
  | none => rw [q] at o; exact o.elim
  | some od =>
    cases od with
    | none => rw [q] at o; exact o.elim
    | some a =>
      rw [q] at o
      obtain ⟨v, e1, ra⟩ := re.at_ i a q
      refine ⟨v, e1, β, env, h, rl, re, (OutG.bind o).mono fun b β1 h1' H1 x1 rl1 o1 u ru => ?_⟩
      exact h2 β1 h1' H1 a b v u _ rl1 (ra.ext x1) ru ((OutG.bind o1).mono fun z β2 h2' H2 x2 rl2 o2 w rw' => o2.ok rl2 _ (((re.ext x1).ext x2).set i rw'))
def iAdd : D → D → AH → R D
  | .int i, .int j, h => .ok (.int (i + j)) h
  | _, _, _ => .bad
theorem i_add : IpX X E .Add iAdd := ⟨ipI fun i j => i + j, ip_add, fun β h H a b x y Q rl ra rb o => by
  cases a <;> try exact o.elim
  cases b <;> try exact o.elim
  exact ⟨_, _, ra, rb, o.ok rl _ rfl⟩⟩
theorem i_sub : IpX X E .Sub gSub := ⟨ipI fun i j => i - j, ip_sub, fun β h H a b x y Q rl ra rb o => by
  cases a <;> try exact o.elim
  cases b <;> try exact o.elim
  exact ⟨_, _, ra, rb, o.ok rl _ rfl⟩⟩
end
end Rm

namespace Rm
open PySem PySem.Spec PyProof.Rows L2
open PySem.Sem (wp)
/-! ### sequences that are walked: lists or tuples -/
inductive SK where
  | l | t
def SK.itc : SK → String
  | .l => "list_iterator"
  | .t => "tuple_iterator"
def IsIt (k : SK) (h : Heap) (it a : Addr) (i : Nat) : Prop := match k with
  | .l => h.IsListIter it a i
  | .t => h.IsTupleIter it a i
def IsSq (k : SK) (h : Heap) (a : Addr) (xs : Array Value) : Prop := match k with
  | .l => h.IsList a xs
  | .t => h.IsTuple a xs
theorem IsIt.at {k : SK} {h h' : Heap} {it a : Addr} {i : Nat} (x : IsIt k h it a i) (f : ∀ o, h.get? it = some o → h'.get? it = some o) : IsIt k h' it a i := by
  cases k
  · exact Heap.IsListIter.at x f
  · exact Heap.IsTupleIter.at x f
theorem IsIt.ex {k : SK} {h : Heap} {it a : Addr} {i : Nat} (x : IsIt k h it a i) : ∃ o vs, h.get? it = some o ∧ o.data = .fields vs := by
  cases k
  · obtain ⟨o, e, _, d⟩ := (show h.IsListIter it a i from x); exact ⟨o, _, e, d⟩
  · obtain ⟨o, e, _, d⟩ := (show h.IsTupleIter it a i from x); exact ⟨o, _, e, d⟩
theorem IsIt.extBut {k : SK} {h h' : Heap} {it a b : Addr} {i : Nat} (x : IsIt k h it a i) (f : Heap.ExtBut b h h') (n : it ≠ b) : IsIt k h' it a i := x.at fun o e => f it o n e
theorem IsSq.at {k : SK} {h h' : Heap} {a : Addr} {xs : Array Value} (x : IsSq k h a xs) (f : ∀ o, h.get? a = some o → h'.get? a = some o) : IsSq k h' a xs := by
  cases k
  · exact Heap.IsList.at x f
  · exact Heap.IsTuple.at x f
theorem IsSq.push {k : SK} {h : Heap} {a : Addr} {xs : Array Value} (x : IsSq k h a xs) (o : Obj) : IsSq k (h.push o) a xs := x.at fun _ e => Heap.get?_push_of_some _ e
theorem IsSq.lt {k : SK} {h : Heap} {a : Addr} {xs : Array Value} (x : IsSq k h a xs) : a < h.objs.size := by
  cases k
  · obtain ⟨o, e, _⟩ := (show h.IsList a xs from x); exact Heap.lt_size e
  · obtain ⟨o, e, _⟩ := (show h.IsTuple a xs from x); exact Heap.lt_size e
theorem IsIt.new {k : SK} {h : Heap} {it a : Addr} (e : h.get? it = some { cls := .type k.itc, data := .fields #[.ref a, .int 0 0] }) : IsIt k h it a 0 := by
  cases k
  · exact ⟨_, e, rfl, rfl⟩
  · exact ⟨_, e, rfl, rfl⟩
section
variable {prog : Program} {w : World} {A : Around} {E : Value → Shared → Prop} {s : Shared}
theorem nxt_item {k : SK} {it l : Addr} {i : Nat} {items : Array Value} {x : Value} {Q : Value → Shared → Prop} (hit : IsIt k s.heap it l i) (hl : IsSq k s.heap l items) (hx : items[i]? = some x)
    (hQ : ∀ h', IsIt k h' it l (i + 1) → Heap.SameBut it s.heap h' → Q x { s with heap := h' }) : wpAny (model prog w) A (Builtin.SmallTypes.nextOf (.ref it)) Q E s := by
  cases k
  · exact wpAny_nextOf_list_item hit hl hx hQ
  · exact RZ.nextOf_tuple_item hit hl hx hQ
theorem nxt_end {k : SK} {it l : Addr} {i : Nat} {items : Array Value} {Q : Value → Shared → Prop} (hh : A.handled = none) (hit : IsIt k s.heap it l i) (hl : IsSq k s.heap l items) (hx : items[i]? = none)
    (hE : ∀ h' e, Heap.ExtBut it s.heap h' → (∃ o, h'.get? e = some o ∧ o.cls = .type "StopIteration") → E (.ref e) { s with heap := h' }) : wpAny (model prog w) A (Builtin.SmallTypes.nextOf (.ref it)) Q E s := by
  cases k
  · exact wpAny_nextOf_list_end hh hit hl hx hE
  · exact RZ.nextOf_tuple_end hh hit hl hx hE
theorem iter_sq {k : SK} {l : Addr} {items : Array Value} {Q : Value → Shared → Prop} (hl : IsSq k s.heap l items) (hQ : Q (.ref s.heap.objs.size) { s with heap := s.heap.push { cls := .type k.itc, data := .fields #[.ref l, .int 0 0] } }) :
    wpAny (model prog w) A (pyIter (.ref l)) Q E s := by
  cases k
  · exact wpAny_pyIter_list hl hQ
  · exact wpAny_pyIter_tuple hl hQ
end
abbrev IsTp2 (h : Heap) (T : Addr) (a1 a2 : Value) : Prop := h.get? T = some { cls := .type "tuple", data := .seq #[a1, a2] }
structure Ap2 (z TI TO i1 i2 l1 l2 : Addr) : Prop where
  TIz : @Ne Nat TI z
  TOz : @Ne Nat TO z
  TITO : @Ne Nat TI TO
  i1z : @Ne Nat i1 z
  TIi1 : @Ne Nat TI i1
  TOi1 : @Ne Nat TO i1
  l1z : @Ne Nat l1 z
  l1TO : @Ne Nat l1 TO
  i2z : @Ne Nat i2 z
  TIi2 : @Ne Nat TI i2
  TOi2 : @Ne Nat TO i2
  l2z : @Ne Nat l2 z
  l2TO : @Ne Nat l2 TO
  l1i1 : @Ne Nat l1 i1
  i12 : @Ne Nat i1 i2
  l1i2 : @Ne Nat l1 i2
  l2i1 : @Ne Nat l2 i1
  l2i2 : @Ne Nat l2 i2
section
variable {prog : Program} {w : World} {A : Around} {E : Value → Shared → Prop} {s : Shared}
theorem updSeq2 {T : Addr} {a1 a2 x : Value} {k : Nat} {Q : Unit → Shared → Prop} (hT : IsTp2 s.heap T a1 a2)
    (h : ∀ h', h'.get? T = some { cls := .type "tuple", data := .seq ((#[a1, a2] : Array Value).setIfInBounds k x) } → Heap.SameBut T s.heap h' → Q () { s with heap := h' }) :
    wpAny (model prog w) A (updateSeq T (·.setIfInBounds k x)) Q E s := by
  refine wpAny_updateSeq hT rfl (h _ ?_ (Heap.SameBut.update ..))
  rw [Heap.get?_update_self _ hT rfl]
  simp [Obj.mapSeq]
theorem zip2_item {z TI TO i1 i2 l1 l2 : Addr} {k1 k2 : SK} {n1 n2 : Nat} {xs1 xs2 : Array Value} {a1 a2 : Value} {x1 x2 : Value} {Q : Value → Shared → Prop} (D : Ap2 z TI TO i1 i2 l1 l2) (hz : IsZip s.heap z TI TO .none) (hTI : IsTp2 s.heap TI (.ref i1) (.ref i2)) (hTO : IsTp2 s.heap TO a1 a2)
    (h1 : IsIt k1 s.heap i1 l1 n1) (hl1 : IsSq k1 s.heap l1 xs1) (h2 : IsIt k2 s.heap i2 l2 n2) (hl2 : IsSq k2 s.heap l2 xs2)
    (hx1 : xs1[n1]? = some x1) (hx2 : xs2[n2]? = some x2)
    (hQ : ∀ h', IsZip h' z TI TO (rawInt s.heap.objs.size) → IsTp2 h' TO x1 x2 → IsIt k1 h' i1 l1 (n1 + 1) → IsIt k2 h' i2 l2 (n2 + 1) → IsTp2 h' s.heap.objs.size x1 x2 → h'.objs.size = s.heap.objs.size + 1 →
      (∀ c o, c ≠ z → c ≠ TO → c ≠ i1 → c ≠ i2 → s.heap.get? c = some o → h'.get? c = some o) → Q (.ref s.heap.objs.size) { s with heap := h' }) :
    wpAny (model prog w) A (Builtin.«zip.__next__» ⟨[.ref z], []⟩) (fun fin s' => ∃ v, fin = .done (.ret v) ∧ Q v s') E s := by
  show wpAny _ _ (field (.ref z) 2 >>= _) _ _ _
  refine wpAny_bind (wpAny_field hz rfl (x := .bool false) rfl ?_)
  show wpAny _ _ (field (.ref z) 3 >>= _) _ _ _
  refine wpAny_bind (wpAny_field hz rfl (x := .ref TI) rfl ?_)
  refine wpAny_bind (wpAny_seqItems hTI rfl ?_)
  show wpAny _ _ (Builtin.SmallTypes.ownedTupleIsFree (.ref z) >>= _) _ _ _
  refine wpAny_bind ?_
  unfold Builtin.SmallTypes.ownedTupleIsFree
  refine wpAny_bind (wpAny_field hz rfl (x := .none) rfl (wpAny_pure ?_))
  simp only [if_true]
  refine wpAny_bind (wpAny_rule ?_)
  refine wpAny_bind (wpAny_field hz rfl (x := .ref TO) rfl ?_)
  refine wpAny_bind (wpAny_setField_rec hz (by simp) fun g0 hz0 hs0 => ?_)
  replace hz0 : IsZip g0 z TI TO .ellipsis := hz0
  refine wpAny_bind ?_
  simp only [List.zipIdx_cons, List.zipIdx_nil, List.forIn_cons, List.forIn_nil]
  have c0 : ∀ c o, c ≠ z → s.heap.get? c = some o → g0.get? c = some o := fun c o q e => hs0.extBut c o q e
  refine wpAny_bind (wpAny_bind (wpAny_onRaise ?_))
  show wpAny _ _ (Builtin.SmallTypes.nextOf (.ref i1) >>= _) _ _ _
  refine wpAny_bind (nxt_item (h1.at fun o e => c0 _ o D.i1z  e) (hl1.at fun o e => c0 _ o D.l1z  e) hx1 fun e1 e1n hs1e => wpAny_pure ?_)
  have t1 : IsTp2 e1 TO a1 a2 := (hs1e.extBut _ _ D.TOi1 (c0 _ _ D.TOz hTO))
  refine wpAny_bind (wpAny_seqItems t1 rfl ?_)
  refine wpAny_bind (updSeq2 t1 fun g1 tO1 hs1g => ?_)
  replace tO1 : IsTp2 g1 TO x1 a2 := tO1
  have c1 : ∀ c o, c ≠ z → c ≠ TO → c ≠ i1 → s.heap.get? c = some o → g1.get? c = some o := fun c o q0 q1 r1 e => hs1g.extBut c o q1 (hs1e.extBut c o r1 (c0 c o q0  e))
  have z1 : IsZip g1 z TI TO .ellipsis := hs1g.extBut _ _ D.TOz.symm (hs1e.extBut _ _ D.i1z.symm hz0)
  have m1_1 := e1n.extBut hs1g.extBut D.TOi1.symm
  refine wpAny_bind (wpAny_letGo (wpAny_pure ?_))
  refine wpAny_bind (wpAny_bind (wpAny_onRaise ?_))
  show wpAny _ _ (Builtin.SmallTypes.nextOf (.ref i2) >>= _) _ _ _
  refine wpAny_bind (nxt_item (h2.at fun o e => c1 _ o D.i2z (Ne.symm D.TOi2) (Ne.symm D.i12) e) (hl2.at fun o e => c1 _ o D.l2z D.l2TO D.l2i1 e) hx2 fun e2 e2n hs2e => wpAny_pure ?_)
  have t2 : IsTp2 e2 TO x1 a2 := (hs2e.extBut _ _ D.TOi2 tO1)
  refine wpAny_bind (wpAny_seqItems t2 rfl ?_)
  refine wpAny_bind (updSeq2 t2 fun g2 tO2 hs2g => ?_)
  replace tO2 : IsTp2 g2 TO x1 x2 := tO2
  have c2 : ∀ c o, c ≠ z → c ≠ TO → c ≠ i1 → c ≠ i2 → s.heap.get? c = some o → g2.get? c = some o := fun c o q0 q1 r1 r2 e => hs2g.extBut c o q1 (hs2e.extBut c o r2 (c1 c o q0 q1 r1 e))
  have z2 : IsZip g2 z TI TO .ellipsis := hs2g.extBut _ _ D.TOz.symm (hs2e.extBut _ _ D.i2z.symm z1)
  have m1_2 := (m1_1.extBut hs2e.extBut D.i12).extBut hs2g.extBut D.TOi1.symm
  have m2_2 := e2n.extBut hs2g.extBut D.TOi2.symm
  refine wpAny_bind (wpAny_letGo (wpAny_pure (wpAny_pure ?_)))
  refine wpAny_bind (wpAny_seqItems tO2 rfl ?_)
  refine wpAny_bind (wpAny_newTuple ?_)
  have hsz : g2.objs.size = s.heap.objs.size := by rw [hs2g.1, hs2e.1, hs1g.1, hs1e.1, hs0.1]
  have hzlt : z < g2.objs.size := Heap.lt_size z2
  show wpAny _ _ (Builtin.SmallTypes.ownedTupleHandOut (.ref z) (.ref g2.objs.size) >>= _) _ _ _
  refine wpAny_bind ?_
  unfold Builtin.SmallTypes.ownedTupleHandOut
  have hz6 : IsZip (g2.push { cls := .type "tuple", data := .seq #[x1, x2] }) z TI TO .ellipsis := Heap.get?_push_of_some _ z2
  refine wpAny_bind (wpAny_setField_rec hz6 (by simp) fun h7 hz7 hs7 => ?_)
  replace hz7 : IsZip h7 z TI TO (rawInt g2.objs.size) := hz7
  refine wpAny_setField_rec hz7 (by simp) fun h8 hz8 hs8 => ?_
  replace hz8 : IsZip h8 z TI TO (rawInt g2.objs.size) := hz8
  have up : ∀ c o, c ≠ z → g2.get? c = some o → h8.get? c = some o := fun c o q e => hs8.extBut _ _ q (hs7.extBut _ _ q (Heap.get?_push_of_some _ e))
  have hT8 : IsTp2 h8 g2.objs.size x1 x2 := hs8.extBut _ _ (Nat.ne_of_gt hzlt) (hs7.extBut _ _ (Nat.ne_of_gt hzlt) (Heap.get?_push_size _ rfl))
  have hz8' : h8.objs.size = g2.objs.size + 1 := by rw [hs8.1, hs7.1, Heap.size_push]
  rw [hsz] at hz8 hT8 hz8'
  refine wpAny_pure ⟨_, rfl, ?_⟩
  show Q (.ref g2.objs.size) _
  rw [hsz]
  exact hQ h8 hz8 (up _ _ D.TOz tO2) (m1_2.at fun o e => up _ o D.i1z e) (m2_2.at fun o e => up _ o D.i2z e) hT8 hz8' fun c o q0 q1 r1 r2 e => up c o q0 (c2 c o q0 q1 r1 r2 e)

theorem zip2_end {z TI TO i1 i2 l1 l2 : Addr} {k1 k2 : SK} {n1 n2 : Nat} {xs1 xs2 : Array Value} {a1 a2 : Value} {Q : Fin → Shared → Prop} (hh : A.handled = none) (D : Ap2 z TI TO i1 i2 l1 l2) (hz : IsZip s.heap z TI TO .none) (hTI : IsTp2 s.heap TI (.ref i1) (.ref i2)) (hTO : IsTp2 s.heap TO a1 a2)
    (h1 : IsIt k1 s.heap i1 l1 n1) (hl1 : IsSq k1 s.heap l1 xs1) (h2 : IsIt k2 s.heap i2 l2 n2) (hl2 : IsSq k2 s.heap l2 xs2)
    (hend : xs1[n1]? = none ∨ xs2[n2]? = none)
    (hE : ∀ h' e, (∀ c o, c ≠ z → c ≠ TO → c ≠ i1 → c ≠ i2 → s.heap.get? c = some o → h'.get? c = some o) → (∃ o, h'.get? e = some o ∧ o.cls = .type "StopIteration") → E (.ref e) { s with heap := h' }) :
    wpAny (model prog w) A (Builtin.«zip.__next__» ⟨[.ref z], []⟩) Q E s := by
  show wpAny _ _ (field (.ref z) 2 >>= _) _ _ _
  refine wpAny_bind (wpAny_field hz rfl (x := .bool false) rfl ?_)
  show wpAny _ _ (field (.ref z) 3 >>= _) _ _ _
  refine wpAny_bind (wpAny_field hz rfl (x := .ref TI) rfl ?_)
  refine wpAny_bind (wpAny_seqItems hTI rfl ?_)
  show wpAny _ _ (Builtin.SmallTypes.ownedTupleIsFree (.ref z) >>= _) _ _ _
  refine wpAny_bind ?_
  unfold Builtin.SmallTypes.ownedTupleIsFree
  refine wpAny_bind (wpAny_field hz rfl (x := .none) rfl (wpAny_pure ?_))
  simp only [if_true]
  refine wpAny_bind (wpAny_rule ?_)
  refine wpAny_bind (wpAny_field hz rfl (x := .ref TO) rfl ?_)
  refine wpAny_bind (wpAny_setField_rec hz (by simp) fun g0 hz0 hs0 => ?_)
  replace hz0 : IsZip g0 z TI TO .ellipsis := hz0
  refine wpAny_bind ?_
  simp only [List.zipIdx_cons, List.zipIdx_nil, List.forIn_cons, List.forIn_nil]
  have c0 : ∀ c o, c ≠ z → s.heap.get? c = some o → g0.get? c = some o := fun c o q e => hs0.extBut c o q e
  refine wpAny_bind (wpAny_bind (wpAny_onRaise ?_))
  show wpAny _ _ (Builtin.SmallTypes.nextOf (.ref i1) >>= _) _ _ _
  cases hx1 : xs1[n1]? with
  | none =>
    refine wpAny_bind (nxt_end hh (h1.at fun o e => c0 _ o D.i1z  e) (hl1.at fun o e => c0 _ o D.l1z  e) hx1 fun e1 e hs1e he => ?_)
    obtain ⟨oe, hoe, hce⟩ := he
    have hzE : IsZip e1 z TI TO .ellipsis := hs1e _ _ D.i1z.symm hz0
    have hez : e ≠ z := fun q => by subst q; rw [hzE] at hoe; cases hoe; simp at hce
    refine wpAny_setField_rec hzE (by simp) fun hF _ hsF => hE hF e (fun c o q0 q1 r1 r2 q => hsF.extBut _ _ q0 (hs1e _ _ r1 (c0 c o q0  q))) ⟨oe, hsF.extBut _ _ hez hoe, hce⟩
  | some x1 =>
    refine wpAny_bind (nxt_item (h1.at fun o e => c0 _ o D.i1z  e) (hl1.at fun o e => c0 _ o D.l1z  e) hx1 fun e1 e1n hs1e => wpAny_pure ?_)
    have t1 : IsTp2 e1 TO a1 a2 := (hs1e.extBut _ _ D.TOi1 (c0 _ _ D.TOz hTO))
    refine wpAny_bind (wpAny_seqItems t1 rfl ?_)
    refine wpAny_bind (updSeq2 t1 fun g1 tO1 hs1g => ?_)
    replace tO1 : IsTp2 g1 TO x1 a2 := tO1
    have c1 : ∀ c o, c ≠ z → c ≠ TO → c ≠ i1 → s.heap.get? c = some o → g1.get? c = some o := fun c o q0 q1 r1 e => hs1g.extBut c o q1 (hs1e.extBut c o r1 (c0 c o q0  e))
    have z1 : IsZip g1 z TI TO .ellipsis := hs1g.extBut _ _ D.TOz.symm (hs1e.extBut _ _ D.i1z.symm hz0)
    have m1_1 := e1n.extBut hs1g.extBut D.TOi1.symm
    refine wpAny_bind (wpAny_letGo (wpAny_pure ?_))
    refine wpAny_bind (wpAny_bind (wpAny_onRaise ?_))
    show wpAny _ _ (Builtin.SmallTypes.nextOf (.ref i2) >>= _) _ _ _
    have hx2 : xs2[n2]? = none := by
      rcases hend with q | q
      · rw [hx1] at q; cases q
      · exact q
    refine wpAny_bind (nxt_end hh (h2.at fun o e => c1 _ o D.i2z (Ne.symm D.TOi2) (Ne.symm D.i12) e) (hl2.at fun o e => c1 _ o D.l2z D.l2TO D.l2i1 e) hx2 fun e2 e hs2e he => ?_)
    obtain ⟨oe, hoe, hce⟩ := he
    have hzE : IsZip e2 z TI TO .ellipsis := hs2e _ _ D.i2z.symm z1
    have hez : e ≠ z := fun q => by subst q; rw [hzE] at hoe; cases hoe; simp at hce
    refine wpAny_setField_rec hzE (by simp) fun hF _ hsF => hE hF e (fun c o q0 q1 r1 r2 q => hsF.extBut _ _ q0 (hs2e _ _ r2 (c1 c o q0 q1 r1 q))) ⟨oe, hsF.extBut _ _ hez hoe, hce⟩

theorem nx_zip2_item {z TI TO i1 i2 l1 l2 : Addr} {k1 k2 : SK} {n1 n2 : Nat} {xs1 xs2 : Array Value} {a1 a2 : Value} {x1 x2 : Value} {Q : Option Value → Shared → Prop} (D : Ap2 z TI TO i1 i2 l1 l2) (hz : IsZip s.heap z TI TO .none) (hTI : IsTp2 s.heap TI (.ref i1) (.ref i2)) (hTO : IsTp2 s.heap TO a1 a2)
    (h1 : IsIt k1 s.heap i1 l1 n1) (hl1 : IsSq k1 s.heap l1 xs1) (h2 : IsIt k2 s.heap i2 l2 n2) (hl2 : IsSq k2 s.heap l2 xs2)
    (hx1 : xs1[n1]? = some x1) (hx2 : xs2[n2]? = some x2)
    (hQ : ∀ h', IsZip h' z TI TO (rawInt s.heap.objs.size) → IsTp2 h' TO x1 x2 → IsIt k1 h' i1 l1 (n1 + 1) → IsIt k2 h' i2 l2 (n2 + 1) → IsTp2 h' s.heap.objs.size x1 x2 → h'.objs.size = s.heap.objs.size + 1 →
      (∀ c o, c ≠ z → c ≠ TO → c ≠ i1 → c ≠ i2 → s.heap.get? c = some o → h'.get? c = some o) → Q (some (.ref s.heap.objs.size)) { s with heap := h' }) :
    wpAny (model prog w) A (pyNext (.ref z)) Q E s := by
  have hT : s.TypeIs (.ref z) "zip" := ⟨_, hz, rfl⟩
  unfold pyNext
  exact wpAny_bind (wpAny_attempt (wpAny_callSpecial?_slot (name := Str.ofString "__next__") hT F.slot_zip_next
    (wpAny_call_entry F.slot_zip_next hT F.entry_zip_next
      (zip2_item D hz hTI hTO h1 hl1 h2 hl2 hx1 hx2 fun h' a1 a2 b1 b2 a5 a6 a7 => wpAny_pure (hQ h' a1 a2 b1 b2 a5 a6 a7)) (F.args_zip_next_1 _))))

theorem nx_zip2_end {z TI TO i1 i2 l1 l2 : Addr} {k1 k2 : SK} {n1 n2 : Nat} {xs1 xs2 : Array Value} {a1 a2 : Value} {Q : Option Value → Shared → Prop} (hh : A.handled = none) (D : Ap2 z TI TO i1 i2 l1 l2) (hz : IsZip s.heap z TI TO .none) (hTI : IsTp2 s.heap TI (.ref i1) (.ref i2)) (hTO : IsTp2 s.heap TO a1 a2)
    (h1 : IsIt k1 s.heap i1 l1 n1) (hl1 : IsSq k1 s.heap l1 xs1) (h2 : IsIt k2 s.heap i2 l2 n2) (hl2 : IsSq k2 s.heap l2 xs2)
    (hend : xs1[n1]? = none ∨ xs2[n2]? = none)
    (hQ : ∀ h', (∀ c o, c ≠ z → c ≠ TO → c ≠ i1 → c ≠ i2 → s.heap.get? c = some o → h'.get? c = some o) → Q none { s with heap := h' }) : wpAny (model prog w) A (pyNext (.ref z)) Q E s := by
  have hT : s.TypeIs (.ref z) "zip" := ⟨_, hz, rfl⟩
  unfold pyNext
  refine wpAny_bind (wpAny_attempt (wpAny_callSpecial?_slot (name := Str.ofString "__next__") hT F.slot_zip_next
    (wpAny_call_entry F.slot_zip_next hT F.entry_zip_next (zip2_end hh D hz hTI hTO h1 hl1 h2 hl2 hend fun h' e hk he => ?_) (F.args_zip_next_1 _))))
  obtain ⟨o, ho, hc⟩ := he
  refine wpAny_bind (wpAny_isInstance (T := "StopIteration") (b := true) ⟨o, ho, hc⟩ isSubtype_stop ?_)
  exact wpAny_pure (hQ _ hk)

end
abbrev zh2_1 (h : Heap) (l1 : Addr) (k1 : SK) : Heap := h.push { cls := .type k1.itc, data := .fields #[.ref l1, .int 0 0] }
abbrev zh2_2 (h : Heap) (l1 l2 : Addr) (k1 k2 : SK) : Heap := (zh2_1 h l1 k1).push { cls := .type k2.itc, data := .fields #[.ref l2, .int 0 0] }
abbrev zhA_2 (h : Heap) (l1 l2 : Addr) (k1 k2 : SK) : Heap := (zh2_2 h l1 l2 k1 k2).push { cls := .type "tuple", data := .seq #[.ref h.objs.size, .ref (zh2_1 h l1 k1).objs.size] }
abbrev zhB_2 (h : Heap) (l1 l2 : Addr) (k1 k2 : SK) : Heap := (zhA_2 h l1 l2 k1 k2).push { cls := .type "tuple", data := .seq #[.none, .none] }
abbrev zhC_2 (h : Heap) (l1 l2 : Addr) (k1 k2 : SK) : Heap := (zhB_2 h l1 l2 k1 k2).push { cls := .type "zip", data := .fields #[.none, .bool false, .bool false, .ref (zh2_2 h l1 l2 k1 k2).objs.size, .ref (zhA_2 h l1 l2 k1 k2).objs.size] }
theorem meets_zip2_new (l1 l2 : Addr) (k1 k2 : SK) (xs1 xs2 : Array Value) :
    Meets (Builtin.«zip.__new__» ⟨[.type "zip", .ref l1, .ref l2], []⟩) (fun _ R s => IsSq k1 s.heap l1 xs1 ∧ IsSq k2 s.heap l2 xs2 ∧
      R (.ok (.ret (.ref (zhB_2 s.heap l1 l2 k1 k2).objs.size))) { s with heap := zhC_2 s.heap l1 l2 k1 k2 }) :=
  .of_wp fun prog w A R s h => by
    obtain ⟨hp, g, d, tk, os⟩ := s; obtain ⟨hl1, hl2, h⟩ := h
    have hsub := sub_zip
    have hL1 : IsSq k1 (Shared.heap ⟨hp, g, d, tk, os⟩) l1 xs1 := hl1
    have hL2 : IsSq k2 (Shared.heap ⟨(hp.push { cls := .type k1.itc, data := .fields #[.ref l1, .int 0 0] }), g, d, tk, os⟩) l2 xs2 := (IsSq.push hl2 _)
    wp_walk using iter_sq hL1, iter_sq hL2
    exact ⟨_, rfl, h⟩

abbrev IsTp3 (h : Heap) (T : Addr) (a1 a2 a3 : Value) : Prop := h.get? T = some { cls := .type "tuple", data := .seq #[a1, a2, a3] }
structure Ap3 (z TI TO i1 i2 i3 l1 l2 l3 : Addr) : Prop where
  TIz : @Ne Nat TI z
  TOz : @Ne Nat TO z
  TITO : @Ne Nat TI TO
  i1z : @Ne Nat i1 z
  TIi1 : @Ne Nat TI i1
  TOi1 : @Ne Nat TO i1
  l1z : @Ne Nat l1 z
  l1TO : @Ne Nat l1 TO
  i2z : @Ne Nat i2 z
  TIi2 : @Ne Nat TI i2
  TOi2 : @Ne Nat TO i2
  l2z : @Ne Nat l2 z
  l2TO : @Ne Nat l2 TO
  i3z : @Ne Nat i3 z
  TIi3 : @Ne Nat TI i3
  TOi3 : @Ne Nat TO i3
  l3z : @Ne Nat l3 z
  l3TO : @Ne Nat l3 TO
  l1i1 : @Ne Nat l1 i1
  i12 : @Ne Nat i1 i2
  l1i2 : @Ne Nat l1 i2
  i13 : @Ne Nat i1 i3
  l1i3 : @Ne Nat l1 i3
  l2i1 : @Ne Nat l2 i1
  l2i2 : @Ne Nat l2 i2
  i23 : @Ne Nat i2 i3
  l2i3 : @Ne Nat l2 i3
  l3i1 : @Ne Nat l3 i1
  l3i2 : @Ne Nat l3 i2
  l3i3 : @Ne Nat l3 i3
section
variable {prog : Program} {w : World} {A : Around} {E : Value → Shared → Prop} {s : Shared}
theorem updSeq3 {T : Addr} {a1 a2 a3 x : Value} {k : Nat} {Q : Unit → Shared → Prop} (hT : IsTp3 s.heap T a1 a2 a3)
    (h : ∀ h', h'.get? T = some { cls := .type "tuple", data := .seq ((#[a1, a2, a3] : Array Value).setIfInBounds k x) } → Heap.SameBut T s.heap h' → Q () { s with heap := h' }) :
    wpAny (model prog w) A (updateSeq T (·.setIfInBounds k x)) Q E s := by
  refine wpAny_updateSeq hT rfl (h _ ?_ (Heap.SameBut.update ..))
  rw [Heap.get?_update_self _ hT rfl]
  simp [Obj.mapSeq]
theorem zip3_item {z TI TO i1 i2 i3 l1 l2 l3 : Addr} {k1 k2 k3 : SK} {n1 n2 n3 : Nat} {xs1 xs2 xs3 : Array Value} {a1 a2 a3 : Value} {x1 x2 x3 : Value} {Q : Value → Shared → Prop} (D : Ap3 z TI TO i1 i2 i3 l1 l2 l3) (hz : IsZip s.heap z TI TO .none) (hTI : IsTp3 s.heap TI (.ref i1) (.ref i2) (.ref i3)) (hTO : IsTp3 s.heap TO a1 a2 a3)
    (h1 : IsIt k1 s.heap i1 l1 n1) (hl1 : IsSq k1 s.heap l1 xs1) (h2 : IsIt k2 s.heap i2 l2 n2) (hl2 : IsSq k2 s.heap l2 xs2) (h3 : IsIt k3 s.heap i3 l3 n3) (hl3 : IsSq k3 s.heap l3 xs3)
    (hx1 : xs1[n1]? = some x1) (hx2 : xs2[n2]? = some x2) (hx3 : xs3[n3]? = some x3)
    (hQ : ∀ h', IsZip h' z TI TO (rawInt s.heap.objs.size) → IsTp3 h' TO x1 x2 x3 → IsIt k1 h' i1 l1 (n1 + 1) → IsIt k2 h' i2 l2 (n2 + 1) → IsIt k3 h' i3 l3 (n3 + 1) → IsTp3 h' s.heap.objs.size x1 x2 x3 → h'.objs.size = s.heap.objs.size + 1 →
      (∀ c o, c ≠ z → c ≠ TO → c ≠ i1 → c ≠ i2 → c ≠ i3 → s.heap.get? c = some o → h'.get? c = some o) → Q (.ref s.heap.objs.size) { s with heap := h' }) :
    wpAny (model prog w) A (Builtin.«zip.__next__» ⟨[.ref z], []⟩) (fun fin s' => ∃ v, fin = .done (.ret v) ∧ Q v s') E s := by
  show wpAny _ _ (field (.ref z) 2 >>= _) _ _ _
  refine wpAny_bind (wpAny_field hz rfl (x := .bool false) rfl ?_)
  show wpAny _ _ (field (.ref z) 3 >>= _) _ _ _
  refine wpAny_bind (wpAny_field hz rfl (x := .ref TI) rfl ?_)
  refine wpAny_bind (wpAny_seqItems hTI rfl ?_)
  show wpAny _ _ (Builtin.SmallTypes.ownedTupleIsFree (.ref z) >>= _) _ _ _
  refine wpAny_bind ?_
  unfold Builtin.SmallTypes.ownedTupleIsFree
  refine wpAny_bind (wpAny_field hz rfl (x := .none) rfl (wpAny_pure ?_))
  simp only [if_true]
  refine wpAny_bind (wpAny_rule ?_)
  refine wpAny_bind (wpAny_field hz rfl (x := .ref TO) rfl ?_)
  refine wpAny_bind (wpAny_setField_rec hz (by simp) fun g0 hz0 hs0 => ?_)
  replace hz0 : IsZip g0 z TI TO .ellipsis := hz0
  refine wpAny_bind ?_
  simp only [List.zipIdx_cons, List.zipIdx_nil, List.forIn_cons, List.forIn_nil]
  have c0 : ∀ c o, c ≠ z → s.heap.get? c = some o → g0.get? c = some o := fun c o q e => hs0.extBut c o q e
  refine wpAny_bind (wpAny_bind (wpAny_onRaise ?_))
  show wpAny _ _ (Builtin.SmallTypes.nextOf (.ref i1) >>= _) _ _ _
  refine wpAny_bind (nxt_item (h1.at fun o e => c0 _ o D.i1z  e) (hl1.at fun o e => c0 _ o D.l1z  e) hx1 fun e1 e1n hs1e => wpAny_pure ?_)
  have t1 : IsTp3 e1 TO a1 a2 a3 := (hs1e.extBut _ _ D.TOi1 (c0 _ _ D.TOz hTO))
  refine wpAny_bind (wpAny_seqItems t1 rfl ?_)
  refine wpAny_bind (updSeq3 t1 fun g1 tO1 hs1g => ?_)
  replace tO1 : IsTp3 g1 TO x1 a2 a3 := tO1
  have c1 : ∀ c o, c ≠ z → c ≠ TO → c ≠ i1 → s.heap.get? c = some o → g1.get? c = some o := fun c o q0 q1 r1 e => hs1g.extBut c o q1 (hs1e.extBut c o r1 (c0 c o q0  e))
  have z1 : IsZip g1 z TI TO .ellipsis := hs1g.extBut _ _ D.TOz.symm (hs1e.extBut _ _ D.i1z.symm hz0)
  have m1_1 := e1n.extBut hs1g.extBut D.TOi1.symm
  refine wpAny_bind (wpAny_letGo (wpAny_pure ?_))
  refine wpAny_bind (wpAny_bind (wpAny_onRaise ?_))
  show wpAny _ _ (Builtin.SmallTypes.nextOf (.ref i2) >>= _) _ _ _
  refine wpAny_bind (nxt_item (h2.at fun o e => c1 _ o D.i2z (Ne.symm D.TOi2) (Ne.symm D.i12) e) (hl2.at fun o e => c1 _ o D.l2z D.l2TO D.l2i1 e) hx2 fun e2 e2n hs2e => wpAny_pure ?_)
  have t2 : IsTp3 e2 TO x1 a2 a3 := (hs2e.extBut _ _ D.TOi2 tO1)
  refine wpAny_bind (wpAny_seqItems t2 rfl ?_)
  refine wpAny_bind (updSeq3 t2 fun g2 tO2 hs2g => ?_)
  replace tO2 : IsTp3 g2 TO x1 x2 a3 := tO2
  have c2 : ∀ c o, c ≠ z → c ≠ TO → c ≠ i1 → c ≠ i2 → s.heap.get? c = some o → g2.get? c = some o := fun c o q0 q1 r1 r2 e => hs2g.extBut c o q1 (hs2e.extBut c o r2 (c1 c o q0 q1 r1 e))
  have z2 : IsZip g2 z TI TO .ellipsis := hs2g.extBut _ _ D.TOz.symm (hs2e.extBut _ _ D.i2z.symm z1)
  have m1_2 := (m1_1.extBut hs2e.extBut D.i12).extBut hs2g.extBut D.TOi1.symm
  have m2_2 := e2n.extBut hs2g.extBut D.TOi2.symm
  refine wpAny_bind (wpAny_letGo (wpAny_pure ?_))
  refine wpAny_bind (wpAny_bind (wpAny_onRaise ?_))
  show wpAny _ _ (Builtin.SmallTypes.nextOf (.ref i3) >>= _) _ _ _
  refine wpAny_bind (nxt_item (h3.at fun o e => c2 _ o D.i3z (Ne.symm D.TOi3) (Ne.symm D.i13) (Ne.symm D.i23) e) (hl3.at fun o e => c2 _ o D.l3z D.l3TO D.l3i1 D.l3i2 e) hx3 fun e3 e3n hs3e => wpAny_pure ?_)
  have t3 : IsTp3 e3 TO x1 x2 a3 := (hs3e.extBut _ _ D.TOi3 tO2)
  refine wpAny_bind (wpAny_seqItems t3 rfl ?_)
  refine wpAny_bind (updSeq3 t3 fun g3 tO3 hs3g => ?_)
  replace tO3 : IsTp3 g3 TO x1 x2 x3 := tO3
  have c3 : ∀ c o, c ≠ z → c ≠ TO → c ≠ i1 → c ≠ i2 → c ≠ i3 → s.heap.get? c = some o → g3.get? c = some o := fun c o q0 q1 r1 r2 r3 e => hs3g.extBut c o q1 (hs3e.extBut c o r3 (c2 c o q0 q1 r1 r2 e))
  have z3 : IsZip g3 z TI TO .ellipsis := hs3g.extBut _ _ D.TOz.symm (hs3e.extBut _ _ D.i3z.symm z2)
  have m1_3 := (m1_2.extBut hs3e.extBut D.i13).extBut hs3g.extBut D.TOi1.symm
  have m2_3 := (m2_2.extBut hs3e.extBut D.i23).extBut hs3g.extBut D.TOi2.symm
  have m3_3 := e3n.extBut hs3g.extBut D.TOi3.symm
  refine wpAny_bind (wpAny_letGo (wpAny_pure (wpAny_pure ?_)))
  refine wpAny_bind (wpAny_seqItems tO3 rfl ?_)
  refine wpAny_bind (wpAny_newTuple ?_)
  have hsz : g3.objs.size = s.heap.objs.size := by rw [hs3g.1, hs3e.1, hs2g.1, hs2e.1, hs1g.1, hs1e.1, hs0.1]
  have hzlt : z < g3.objs.size := Heap.lt_size z3
  show wpAny _ _ (Builtin.SmallTypes.ownedTupleHandOut (.ref z) (.ref g3.objs.size) >>= _) _ _ _
  refine wpAny_bind ?_
  unfold Builtin.SmallTypes.ownedTupleHandOut
  have hz6 : IsZip (g3.push { cls := .type "tuple", data := .seq #[x1, x2, x3] }) z TI TO .ellipsis := Heap.get?_push_of_some _ z3
  refine wpAny_bind (wpAny_setField_rec hz6 (by simp) fun h7 hz7 hs7 => ?_)
  replace hz7 : IsZip h7 z TI TO (rawInt g3.objs.size) := hz7
  refine wpAny_setField_rec hz7 (by simp) fun h8 hz8 hs8 => ?_
  replace hz8 : IsZip h8 z TI TO (rawInt g3.objs.size) := hz8
  have up : ∀ c o, c ≠ z → g3.get? c = some o → h8.get? c = some o := fun c o q e => hs8.extBut _ _ q (hs7.extBut _ _ q (Heap.get?_push_of_some _ e))
  have hT8 : IsTp3 h8 g3.objs.size x1 x2 x3 := hs8.extBut _ _ (Nat.ne_of_gt hzlt) (hs7.extBut _ _ (Nat.ne_of_gt hzlt) (Heap.get?_push_size _ rfl))
  have hz8' : h8.objs.size = g3.objs.size + 1 := by rw [hs8.1, hs7.1, Heap.size_push]
  rw [hsz] at hz8 hT8 hz8'
  refine wpAny_pure ⟨_, rfl, ?_⟩
  show Q (.ref g3.objs.size) _
  rw [hsz]
  exact hQ h8 hz8 (up _ _ D.TOz tO3) (m1_3.at fun o e => up _ o D.i1z e) (m2_3.at fun o e => up _ o D.i2z e) (m3_3.at fun o e => up _ o D.i3z e) hT8 hz8' fun c o q0 q1 r1 r2 r3 e => up c o q0 (c3 c o q0 q1 r1 r2 r3 e)

theorem zip3_end {z TI TO i1 i2 i3 l1 l2 l3 : Addr} {k1 k2 k3 : SK} {n1 n2 n3 : Nat} {xs1 xs2 xs3 : Array Value} {a1 a2 a3 : Value} {Q : Fin → Shared → Prop} (hh : A.handled = none) (D : Ap3 z TI TO i1 i2 i3 l1 l2 l3) (hz : IsZip s.heap z TI TO .none) (hTI : IsTp3 s.heap TI (.ref i1) (.ref i2) (.ref i3)) (hTO : IsTp3 s.heap TO a1 a2 a3)
    (h1 : IsIt k1 s.heap i1 l1 n1) (hl1 : IsSq k1 s.heap l1 xs1) (h2 : IsIt k2 s.heap i2 l2 n2) (hl2 : IsSq k2 s.heap l2 xs2) (h3 : IsIt k3 s.heap i3 l3 n3) (hl3 : IsSq k3 s.heap l3 xs3)
    (hend : xs1[n1]? = none ∨ xs2[n2]? = none ∨ xs3[n3]? = none)
    (hE : ∀ h' e, (∀ c o, c ≠ z → c ≠ TO → c ≠ i1 → c ≠ i2 → c ≠ i3 → s.heap.get? c = some o → h'.get? c = some o) → (∃ o, h'.get? e = some o ∧ o.cls = .type "StopIteration") → E (.ref e) { s with heap := h' }) :
    wpAny (model prog w) A (Builtin.«zip.__next__» ⟨[.ref z], []⟩) Q E s := by
  show wpAny _ _ (field (.ref z) 2 >>= _) _ _ _
  refine wpAny_bind (wpAny_field hz rfl (x := .bool false) rfl ?_)
  show wpAny _ _ (field (.ref z) 3 >>= _) _ _ _
  refine wpAny_bind (wpAny_field hz rfl (x := .ref TI) rfl ?_)
  refine wpAny_bind (wpAny_seqItems hTI rfl ?_)
  show wpAny _ _ (Builtin.SmallTypes.ownedTupleIsFree (.ref z) >>= _) _ _ _
  refine wpAny_bind ?_
  unfold Builtin.SmallTypes.ownedTupleIsFree
  refine wpAny_bind (wpAny_field hz rfl (x := .none) rfl (wpAny_pure ?_))
  simp only [if_true]
  refine wpAny_bind (wpAny_rule ?_)
  refine wpAny_bind (wpAny_field hz rfl (x := .ref TO) rfl ?_)
  refine wpAny_bind (wpAny_setField_rec hz (by simp) fun g0 hz0 hs0 => ?_)
  replace hz0 : IsZip g0 z TI TO .ellipsis := hz0
  refine wpAny_bind ?_
  simp only [List.zipIdx_cons, List.zipIdx_nil, List.forIn_cons, List.forIn_nil]
  have c0 : ∀ c o, c ≠ z → s.heap.get? c = some o → g0.get? c = some o := fun c o q e => hs0.extBut c o q e
  refine wpAny_bind (wpAny_bind (wpAny_onRaise ?_))
  show wpAny _ _ (Builtin.SmallTypes.nextOf (.ref i1) >>= _) _ _ _
  cases hx1 : xs1[n1]? with
  | none =>
    refine wpAny_bind (nxt_end hh (h1.at fun o e => c0 _ o D.i1z  e) (hl1.at fun o e => c0 _ o D.l1z  e) hx1 fun e1 e hs1e he => ?_)
    obtain ⟨oe, hoe, hce⟩ := he
    have hzE : IsZip e1 z TI TO .ellipsis := hs1e _ _ D.i1z.symm hz0
    have hez : e ≠ z := fun q => by subst q; rw [hzE] at hoe; cases hoe; simp at hce
    refine wpAny_setField_rec hzE (by simp) fun hF _ hsF => hE hF e (fun c o q0 q1 r1 r2 r3 q => hsF.extBut _ _ q0 (hs1e _ _ r1 (c0 c o q0  q))) ⟨oe, hsF.extBut _ _ hez hoe, hce⟩
  | some x1 =>
    refine wpAny_bind (nxt_item (h1.at fun o e => c0 _ o D.i1z  e) (hl1.at fun o e => c0 _ o D.l1z  e) hx1 fun e1 e1n hs1e => wpAny_pure ?_)
    have t1 : IsTp3 e1 TO a1 a2 a3 := (hs1e.extBut _ _ D.TOi1 (c0 _ _ D.TOz hTO))
    refine wpAny_bind (wpAny_seqItems t1 rfl ?_)
    refine wpAny_bind (updSeq3 t1 fun g1 tO1 hs1g => ?_)
    replace tO1 : IsTp3 g1 TO x1 a2 a3 := tO1
    have c1 : ∀ c o, c ≠ z → c ≠ TO → c ≠ i1 → s.heap.get? c = some o → g1.get? c = some o := fun c o q0 q1 r1 e => hs1g.extBut c o q1 (hs1e.extBut c o r1 (c0 c o q0  e))
    have z1 : IsZip g1 z TI TO .ellipsis := hs1g.extBut _ _ D.TOz.symm (hs1e.extBut _ _ D.i1z.symm hz0)
    have m1_1 := e1n.extBut hs1g.extBut D.TOi1.symm
    refine wpAny_bind (wpAny_letGo (wpAny_pure ?_))
    refine wpAny_bind (wpAny_bind (wpAny_onRaise ?_))
    show wpAny _ _ (Builtin.SmallTypes.nextOf (.ref i2) >>= _) _ _ _
    cases hx2 : xs2[n2]? with
    | none =>
      refine wpAny_bind (nxt_end hh (h2.at fun o e => c1 _ o D.i2z (Ne.symm D.TOi2) (Ne.symm D.i12) e) (hl2.at fun o e => c1 _ o D.l2z D.l2TO D.l2i1 e) hx2 fun e2 e hs2e he => ?_)
      obtain ⟨oe, hoe, hce⟩ := he
      have hzE : IsZip e2 z TI TO .ellipsis := hs2e _ _ D.i2z.symm z1
      have hez : e ≠ z := fun q => by subst q; rw [hzE] at hoe; cases hoe; simp at hce
      refine wpAny_setField_rec hzE (by simp) fun hF _ hsF => hE hF e (fun c o q0 q1 r1 r2 r3 q => hsF.extBut _ _ q0 (hs2e _ _ r2 (c1 c o q0 q1 r1 q))) ⟨oe, hsF.extBut _ _ hez hoe, hce⟩
    | some x2 =>
      refine wpAny_bind (nxt_item (h2.at fun o e => c1 _ o D.i2z (Ne.symm D.TOi2) (Ne.symm D.i12) e) (hl2.at fun o e => c1 _ o D.l2z D.l2TO D.l2i1 e) hx2 fun e2 e2n hs2e => wpAny_pure ?_)
      have t2 : IsTp3 e2 TO x1 a2 a3 := (hs2e.extBut _ _ D.TOi2 tO1)
      refine wpAny_bind (wpAny_seqItems t2 rfl ?_)
      refine wpAny_bind (updSeq3 t2 fun g2 tO2 hs2g => ?_)
      replace tO2 : IsTp3 g2 TO x1 x2 a3 := tO2
      have c2 : ∀ c o, c ≠ z → c ≠ TO → c ≠ i1 → c ≠ i2 → s.heap.get? c = some o → g2.get? c = some o := fun c o q0 q1 r1 r2 e => hs2g.extBut c o q1 (hs2e.extBut c o r2 (c1 c o q0 q1 r1 e))
      have z2 : IsZip g2 z TI TO .ellipsis := hs2g.extBut _ _ D.TOz.symm (hs2e.extBut _ _ D.i2z.symm z1)
      have m1_2 := (m1_1.extBut hs2e.extBut D.i12).extBut hs2g.extBut D.TOi1.symm
      have m2_2 := e2n.extBut hs2g.extBut D.TOi2.symm
      refine wpAny_bind (wpAny_letGo (wpAny_pure ?_))
      refine wpAny_bind (wpAny_bind (wpAny_onRaise ?_))
      show wpAny _ _ (Builtin.SmallTypes.nextOf (.ref i3) >>= _) _ _ _
      have hx3 : xs3[n3]? = none := by
        rcases hend with q | q | q
        · rw [hx1] at q; cases q
        · rw [hx2] at q; cases q
        · exact q
      refine wpAny_bind (nxt_end hh (h3.at fun o e => c2 _ o D.i3z (Ne.symm D.TOi3) (Ne.symm D.i13) (Ne.symm D.i23) e) (hl3.at fun o e => c2 _ o D.l3z D.l3TO D.l3i1 D.l3i2 e) hx3 fun e3 e hs3e he => ?_)
      obtain ⟨oe, hoe, hce⟩ := he
      have hzE : IsZip e3 z TI TO .ellipsis := hs3e _ _ D.i3z.symm z2
      have hez : e ≠ z := fun q => by subst q; rw [hzE] at hoe; cases hoe; simp at hce
      refine wpAny_setField_rec hzE (by simp) fun hF _ hsF => hE hF e (fun c o q0 q1 r1 r2 r3 q => hsF.extBut _ _ q0 (hs3e _ _ r3 (c2 c o q0 q1 r1 r2 q))) ⟨oe, hsF.extBut _ _ hez hoe, hce⟩

theorem nx_zip3_item {z TI TO i1 i2 i3 l1 l2 l3 : Addr} {k1 k2 k3 : SK} {n1 n2 n3 : Nat} {xs1 xs2 xs3 : Array Value} {a1 a2 a3 : Value} {x1 x2 x3 : Value} {Q : Option Value → Shared → Prop} (D : Ap3 z TI TO i1 i2 i3 l1 l2 l3) (hz : IsZip s.heap z TI TO .none) (hTI : IsTp3 s.heap TI (.ref i1) (.ref i2) (.ref i3)) (hTO : IsTp3 s.heap TO a1 a2 a3)
    (h1 : IsIt k1 s.heap i1 l1 n1) (hl1 : IsSq k1 s.heap l1 xs1) (h2 : IsIt k2 s.heap i2 l2 n2) (hl2 : IsSq k2 s.heap l2 xs2) (h3 : IsIt k3 s.heap i3 l3 n3) (hl3 : IsSq k3 s.heap l3 xs3)
    (hx1 : xs1[n1]? = some x1) (hx2 : xs2[n2]? = some x2) (hx3 : xs3[n3]? = some x3)
    (hQ : ∀ h', IsZip h' z TI TO (rawInt s.heap.objs.size) → IsTp3 h' TO x1 x2 x3 → IsIt k1 h' i1 l1 (n1 + 1) → IsIt k2 h' i2 l2 (n2 + 1) → IsIt k3 h' i3 l3 (n3 + 1) → IsTp3 h' s.heap.objs.size x1 x2 x3 → h'.objs.size = s.heap.objs.size + 1 →
      (∀ c o, c ≠ z → c ≠ TO → c ≠ i1 → c ≠ i2 → c ≠ i3 → s.heap.get? c = some o → h'.get? c = some o) → Q (some (.ref s.heap.objs.size)) { s with heap := h' }) :
    wpAny (model prog w) A (pyNext (.ref z)) Q E s := by
  have hT : s.TypeIs (.ref z) "zip" := ⟨_, hz, rfl⟩
  unfold pyNext
  exact wpAny_bind (wpAny_attempt (wpAny_callSpecial?_slot (name := Str.ofString "__next__") hT F.slot_zip_next
    (wpAny_call_entry F.slot_zip_next hT F.entry_zip_next
      (zip3_item D hz hTI hTO h1 hl1 h2 hl2 h3 hl3 hx1 hx2 hx3 fun h' a1 a2 b1 b2 b3 a5 a6 a7 => wpAny_pure (hQ h' a1 a2 b1 b2 b3 a5 a6 a7)) (F.args_zip_next_1 _))))

theorem nx_zip3_end {z TI TO i1 i2 i3 l1 l2 l3 : Addr} {k1 k2 k3 : SK} {n1 n2 n3 : Nat} {xs1 xs2 xs3 : Array Value} {a1 a2 a3 : Value} {Q : Option Value → Shared → Prop} (hh : A.handled = none) (D : Ap3 z TI TO i1 i2 i3 l1 l2 l3) (hz : IsZip s.heap z TI TO .none) (hTI : IsTp3 s.heap TI (.ref i1) (.ref i2) (.ref i3)) (hTO : IsTp3 s.heap TO a1 a2 a3)
    (h1 : IsIt k1 s.heap i1 l1 n1) (hl1 : IsSq k1 s.heap l1 xs1) (h2 : IsIt k2 s.heap i2 l2 n2) (hl2 : IsSq k2 s.heap l2 xs2) (h3 : IsIt k3 s.heap i3 l3 n3) (hl3 : IsSq k3 s.heap l3 xs3)
    (hend : xs1[n1]? = none ∨ xs2[n2]? = none ∨ xs3[n3]? = none)
    (hQ : ∀ h', (∀ c o, c ≠ z → c ≠ TO → c ≠ i1 → c ≠ i2 → c ≠ i3 → s.heap.get? c = some o → h'.get? c = some o) → Q none { s with heap := h' }) : wpAny (model prog w) A (pyNext (.ref z)) Q E s := by
  have hT : s.TypeIs (.ref z) "zip" := ⟨_, hz, rfl⟩
  unfold pyNext
  refine wpAny_bind (wpAny_attempt (wpAny_callSpecial?_slot (name := Str.ofString "__next__") hT F.slot_zip_next
    (wpAny_call_entry F.slot_zip_next hT F.entry_zip_next (zip3_end hh D hz hTI hTO h1 hl1 h2 hl2 h3 hl3 hend fun h' e hk he => ?_) (F.args_zip_next_1 _))))
  obtain ⟨o, ho, hc⟩ := he
  refine wpAny_bind (wpAny_isInstance (T := "StopIteration") (b := true) ⟨o, ho, hc⟩ isSubtype_stop ?_)
  exact wpAny_pure (hQ _ hk)

end
abbrev zh3_1 (h : Heap) (l1 : Addr) (k1 : SK) : Heap := h.push { cls := .type k1.itc, data := .fields #[.ref l1, .int 0 0] }
abbrev zh3_2 (h : Heap) (l1 l2 : Addr) (k1 k2 : SK) : Heap := (zh3_1 h l1 k1).push { cls := .type k2.itc, data := .fields #[.ref l2, .int 0 0] }
abbrev zh3_3 (h : Heap) (l1 l2 l3 : Addr) (k1 k2 k3 : SK) : Heap := (zh3_2 h l1 l2 k1 k2).push { cls := .type k3.itc, data := .fields #[.ref l3, .int 0 0] }
abbrev zhA_3 (h : Heap) (l1 l2 l3 : Addr) (k1 k2 k3 : SK) : Heap := (zh3_3 h l1 l2 l3 k1 k2 k3).push { cls := .type "tuple", data := .seq #[.ref h.objs.size, .ref (zh3_1 h l1 k1).objs.size, .ref (zh3_2 h l1 l2 k1 k2).objs.size] }
abbrev zhB_3 (h : Heap) (l1 l2 l3 : Addr) (k1 k2 k3 : SK) : Heap := (zhA_3 h l1 l2 l3 k1 k2 k3).push { cls := .type "tuple", data := .seq #[.none, .none, .none] }
abbrev zhC_3 (h : Heap) (l1 l2 l3 : Addr) (k1 k2 k3 : SK) : Heap := (zhB_3 h l1 l2 l3 k1 k2 k3).push { cls := .type "zip", data := .fields #[.none, .bool false, .bool false, .ref (zh3_3 h l1 l2 l3 k1 k2 k3).objs.size, .ref (zhA_3 h l1 l2 l3 k1 k2 k3).objs.size] }
theorem meets_zip3_new (l1 l2 l3 : Addr) (k1 k2 k3 : SK) (xs1 xs2 xs3 : Array Value) :
    Meets (Builtin.«zip.__new__» ⟨[.type "zip", .ref l1, .ref l2, .ref l3], []⟩) (fun _ R s => IsSq k1 s.heap l1 xs1 ∧ IsSq k2 s.heap l2 xs2 ∧ IsSq k3 s.heap l3 xs3 ∧
      R (.ok (.ret (.ref (zhB_3 s.heap l1 l2 l3 k1 k2 k3).objs.size))) { s with heap := zhC_3 s.heap l1 l2 l3 k1 k2 k3 }) :=
  .of_wp fun prog w A R s h => by
    obtain ⟨hp, g, d, tk, os⟩ := s; obtain ⟨hl1, hl2, hl3, h⟩ := h
    have hsub := sub_zip
    have hL1 : IsSq k1 (Shared.heap ⟨hp, g, d, tk, os⟩) l1 xs1 := hl1
    have hL2 : IsSq k2 (Shared.heap ⟨(hp.push { cls := .type k1.itc, data := .fields #[.ref l1, .int 0 0] }), g, d, tk, os⟩) l2 xs2 := (IsSq.push hl2 _)
    have hL3 : IsSq k3 (Shared.heap ⟨((hp.push { cls := .type k1.itc, data := .fields #[.ref l1, .int 0 0] }).push { cls := .type k2.itc, data := .fields #[.ref l2, .int 0 0] }), g, d, tk, os⟩) l3 xs3 := (IsSq.push (IsSq.push hl3 _) _)
    wp_walk using iter_sq hL1, iter_sq hL2, iter_sq hL3
    exact ⟨_, rfl, h⟩

end Rm

namespace Rm
open PySem PySem.Spec PyProof.Rows L2
open PySem.Sem (wp)
theorem typeCall_zip_3 (a b c : Value) : checkTypeCall "zip" ⟨[a, b, c], []⟩ = pure () := by kernel_rfl
theorem newCall_zip_3 (a b c : Value) : checkBuiltinCall "zip.__new__" ⟨[.type "zip", a, b, c], []⟩ = pure () := by kernel_rfl
theorem args_object_init_4 (a b c d : Value) : argsOk "object.__init__" ⟨[a, b, c, d], []⟩ := by
  unfold argsOk; rw [PySem.signature?_of (id := "object.__init__") (n := ['_', '_', 't', 'i', 'n', 'i', '_', '_']) (o := ['t', 'c', 'e', 'j', 'b', 'o']) (by kernel_rfl) PySem.F.owner_object]; kernel_rfl
def SqK (k : SK) (K : PySem.W.Frag) (H : Hp) (a : Addr) (xs : List V) : Prop := match k with
  | .l => SqL K H a xs
  | .t => SqT K H a xs
theorem inv_sq {X : Cx} {pins : List (Addr × Obj)} {σ : St} {H : Hp} {s : Shared} (I : Inv X pins σ H s) {k : SK} {a : Addr} {xs : List V} (h : SqK k X.K H a xs) : ∃ its : List Value, Vals xs its ∧ IsSq k s.heap a its.toArray ∧ xs.length ≤ sizeLine := by
  cases k
  · obtain ⟨its, r, p, z⟩ := I.list h
    exact ⟨its, r, p.isList, z⟩
  · obtain ⟨its, r, p, z⟩ := I.tuple h
    exact ⟨its, r, p, z⟩
theorem inv_sq_inj {X : Cx} {pins : List (Addr × Obj)} {σ : St} {H : Hp} {s : Shared} (I : Inv X pins σ H s) {k : SK} {a : Addr} {xs ys : List V} (h : SqK k X.K H a xs) (h' : SqK k X.K H a ys) : xs = ys := by
  cases k
  · exact I.list_inj h h'
  · exact I.tuple_inj h h'
section
variable {prog : Program} {w : World} {A : Around} {E : Value → Shared → Prop} {s : Shared}
theorem ap2 (m : Nat) (a1 a2 : Nat) (h1 : a1 < m) (h2 : a2 < m) : Ap2 (m + 4) (m + 2) (m + 3) m (m + 1) a1 a2 := by
  constructor <;> omega

theorem zcall2 {a1 a2 : Addr} {k1 k2 : SK} {xs1 xs2 : Array Value} {Q : Value → Shared → Prop} (hl1 : IsSq k1 s.heap a1 xs1) (hl2 : IsSq k2 s.heap a2 xs2)
    (h : ∀ h', IsZip h' (s.heap.objs.size + 4) (s.heap.objs.size + 2) (s.heap.objs.size + 3) .none → IsTp2 h' (s.heap.objs.size + 2) (.ref s.heap.objs.size) (.ref (s.heap.objs.size + 1)) → IsTp2 h' (s.heap.objs.size + 3) .none .none → IsIt k1 h' s.heap.objs.size a1 0 → IsIt k2 h' (s.heap.objs.size + 1) a2 0 →
      (∀ c o, s.heap.get? c = some o → h'.get? c = some o) → Q (.ref (s.heap.objs.size + 4)) { s with heap := h' }) :
    wpAny (model prog w) A (call (.type "zip") [.ref a1, .ref a2]) Q E s := by
  refine callType_new F.called_zip (by decide) (F.typeCall_zip_2 _ _) (F.newCall_zip_2 _ _) (fun obj => F.args_object_init_3 obj _ _) F.entry_zip_new
    (meets_zip2_new a1 a2 k1 k2 xs1 xs2) ⟨hl1, hl2, ?_⟩

  have z1 : (zh2_1 s.heap a1 k1).objs.size = s.heap.objs.size + 1 := Heap.size_push ..
  have z2 : (zh2_2 s.heap a1 a2 k1 k2).objs.size = s.heap.objs.size + 2 := by rw [Heap.size_push, z1]
  have zA : (zhA_2 s.heap a1 a2 k1 k2).objs.size = s.heap.objs.size + 3 := by rw [Heap.size_push, z2]
  have zB : (zhB_2 s.heap a1 a2 k1 k2).objs.size = s.heap.objs.size + 4 := by rw [Heap.size_push, zA]
  have gC : (zhC_2 s.heap a1 a2 k1 k2).get? (zhB_2 s.heap a1 a2 k1 k2).objs.size = some _ := Heap.get?_push_size _ rfl
  have gB : (zhC_2 s.heap a1 a2 k1 k2).get? (zhA_2 s.heap a1 a2 k1 k2).objs.size = some _ := Heap.get?_push_of_some _ (Heap.get?_push_size _ rfl)
  have gA : (zhC_2 s.heap a1 a2 k1 k2).get? (zh2_2 s.heap a1 a2 k1 k2).objs.size = some _ := Heap.get?_push_of_some _ (Heap.get?_push_of_some _ (Heap.get?_push_size _ rfl))
  have g2 : (zhC_2 s.heap a1 a2 k1 k2).get? (zh2_1 s.heap a1 k1).objs.size = some { cls := .type k2.itc, data := .fields #[.ref a2, .int 0 0] } := Heap.get?_push_of_some _ (Heap.get?_push_of_some _ (Heap.get?_push_of_some _ (Heap.get?_push_size _ rfl)))
  have g1 : (zhC_2 s.heap a1 a2 k1 k2).get? s.heap.objs.size = some { cls := .type k1.itc, data := .fields #[.ref a1, .int 0 0] } := Heap.get?_push_of_some _ (Heap.get?_push_of_some _ (Heap.get?_push_of_some _ (Heap.get?_push_of_some _ (Heap.get?_push_size _ rfl))))
  show _ ∧ _
  rw [z2, zA, zB] at gC
  rw [z1, z2] at gA
  rw [zA] at gB
  rw [z1] at g2
  rw [zB]
  exact ⟨⟨_, gC, rfl⟩, h _ gC gA gB (IsIt.new g1) (IsIt.new g2) fun c o x =>
    Heap.get?_push_of_some _ (Heap.get?_push_of_some _ (Heap.get?_push_of_some _ (Heap.get?_push_of_some _ (Heap.get?_push_of_some _ (x)))))⟩

def ItZ2 (K : PySem.W.Frag) (k1 k2 : SK) (a1 a2 : Addr) : It :=
  ⟨fun i H => ∃ (xs1 xs2 : List V) (x1 x2 : V), SqK k1 K H a1 xs1 ∧ SqK k2 K H a2 xs2 ∧ xs1[i]? = some x1 ∧ xs2[i]? = some x2,
    fun i H v H' => ∃ T x1 x2, v = .ref T ∧ H T = none ∧ H' = upd H T (.tup [x1, x2]) ∧ (∀ xs, SqK k1 K H a1 xs → xs[i]? = some x1) ∧ (∀ xs, SqK k2 K H a2 xs → xs[i]? = some x2),
    fun i H => ∃ xs1 xs2 : List V, SqK k1 K H a1 xs1 ∧ SqK k2 K H a2 xs2 ∧ (xs1.length ≤ i ∨ xs2.length ≤ i)⟩
theorem turn_z2 {P : Program} {w : World} {K : PySem.W.Frag} {elts : List Expr} {kk : Nat} {tpos : Pos} {z TI TO i1 i2 a1 a2 : Addr} {k1 k2 : SK} (D : Ap2 z TI TO i1 i2 a1 a2) :
    Turn P w K (.Tuple elts kk tpos) (ItZ2 K k1 k2 a1 a2) [z, TI, TO, i1, i2] z (fun i h => IsZip h z TI TO .none ∧ IsTp2 h TI (.ref i1) (.ref i2) ∧ (∃ v1 v2, IsTp2 h TO v1 v2) ∧ IsIt k1 h i1 a1 i ∧ IsIt k2 h i2 a2 i) where
  mem := by simp
  obj := fun i h st c hc => by
    obtain ⟨hz, hTI, ⟨v1, v2, hTO⟩, h1, h2⟩ := st
    have e' : c = z ∨ c = TI ∨ c = TO ∨ c = i1 ∨ c = i2 := by simpa using hc
    rcases e' with q | q | q | q | q
    · rw [q]; exact ⟨_, hz, fun v q => nomatch q⟩
    · rw [q]; exact ⟨_, hTI, fun v q => nomatch q⟩
    · rw [q]; exact ⟨_, hTO, fun v q => nomatch q⟩
    · obtain ⟨o, vs, e1, d1⟩ := h1.ex; rw [q]; exact ⟨o, e1, fun v q => by rw [d1] at q; cases q⟩
    · obtain ⟨o, vs, e1, d1⟩ := h2.ex; rw [q]; exact ⟨o, e1, fun v q => by rw [d1] at q; cases q⟩
  keep := fun i h h' st k => by
    obtain ⟨hz, hTI, ⟨v1, v2, hTO⟩, h1, h2⟩ := st
    exact ⟨k z (by simp) _ hz, k TI (by simp) _ hTI, ⟨v1, v2, k TO (by simp) _ hTO⟩, h1.at fun o q => k i1 (by simp) o q, h2.at fun o q => k i2 (by simp) o q⟩
  item := by
    intro X hP hw hK hc i pins s σ H E I hf st hg
    subst hP hw hK
    obtain ⟨hz, hTI, ⟨v1, v2, hTO⟩, h1, h2⟩ := st
    obtain ⟨xs1, xs2, x1, x2, hq1, hq2, hx1, hx2⟩ := hg
    obtain ⟨its1, rv1, p1, _⟩ := inv_sq I hq1
    obtain ⟨u1, hu1, ru1⟩ := rv1.get hx1
    obtain ⟨its2, rv2, p2, _⟩ := inv_sq I hq2
    obtain ⟨u2, hu2, ru2⟩ := rv2.get hx2
    have hzl : z < s.heap.objs.size := Heap.lt_size hz
    refine nx_zip2_item D hz hTI hTO h1 p1 h2 p2 (by simpa using hu1) (by simpa using hu2) fun h' z' TO' n1 n2 hT hsz hk => ?_
    refine ⟨_, rfl, wpAny_letOwnedTupleGo_zip (s := { s with heap := h' }) z' fun h'' z'' sb => ?_⟩
    have hT2 : h''.get? s.heap.objs.size = some { cls := .type "tuple", data := .seq #[u1, u2] } := (sb.2 _ (Nat.ne_of_gt hzl)).trans hT
    have new : ObjOk X.prog X.w (upd H s.heap.objs.size (.tup [x1, x2])) h'' s.heap.objs.size (.tup [x1, x2]) :=
      ⟨by show 2 ≤ sizeLine; decide, [u1, u2], .cons ru1 (.cons ru2 .nil), ⟨_, hT2, rfl, _, rfl⟩⟩
    have I1 : Inv X pins σ (upd H s.heap.objs.size (.tup [x1, x2])) { s with heap := h'' } :=
      I.turnedNew (t' := s.toks) (ch := [z, TI, TO, i1, i2]) (fun c o hb q => (sb.2 c (fun q' => hb (by simp [q']))).trans (hk c o (fun q' => hb (by simp [q'])) (fun q' => hb (by simp [q'])) (fun q' => hb (by simp [q'])) (fun q' => hb (by simp [q'])) q)) hf (Nat.le_refl _) new
    refine ⟨.ref s.heap.objs.size, _, I1, rfl, ⟨_, x1, x2, rfl, I.hok.fresh (Nat.le_refl _), rfl, fun l hl => by rw [inv_sq_inj I hl hq1]; exact hx1, fun l hl => by rw [inv_sq_inj I hl hq2]; exact hx2⟩, ⟨z'', ?_, ⟨u1, u2, ?_⟩, ?_, ?_⟩, fun c hcm => ?_⟩
    · exact (sb.2 _ D.TIz).trans (hk _ _ D.TIz D.TITO D.TIi1 D.TIi2 hTI)
    · exact (sb.2 _ D.TOz).trans TO'
    · exact n1.at fun o q => (sb.2 _ D.i1z).trans q
    · exact n2.at fun o q => (sb.2 _ D.i2z).trans q
    · have hlt : c < s.heap.objs.size := by
        have e' : c = z ∨ c = TI ∨ c = TO ∨ c = i1 ∨ c = i2 := by simpa using hcm
        rcases e' with q | q | q | q | q
        · rw [q]; exact hzl
        · rw [q]; exact Heap.lt_size hTI
        · rw [q]; exact Heap.lt_size hTO
        · obtain ⟨_, _, e1, _⟩ := h1.ex; rw [q]; exact Heap.lt_size e1
        · obtain ⟨_, _, e1, _⟩ := h2.ex; rw [q]; exact Heap.lt_size e1
      rw [upd_ne (Nat.ne_of_lt hlt)]
      exact (hf c hcm).1
  done := by
    intro X hP hw hK hc i pins s σ H E I hf st hg
    subst hP hw hK
    obtain ⟨hz, hTI, ⟨v1, v2, hTO⟩, h1, h2⟩ := st
    obtain ⟨xs1, xs2, hq1, hq2, hend⟩ := hg
    obtain ⟨its1, rv1, p1, _⟩ := inv_sq I hq1
    have len1 := rv1.length
    obtain ⟨its2, rv2, p2, _⟩ := inv_sq I hq2
    have len2 := rv2.length
    have he : its1.toArray[i]? = none ∨ its2.toArray[i]? = none := by
      rcases hend with q | q
      · exact .inl (by simp; omega)
      · exact .inr ((by simp; omega))
    exact nx_zip2_end (I.ok.hd hc) D hz hTI hTO h1 p1 h2 p2 he fun h' hk => ⟨rfl, I.turnedL (t' := s.toks) (ch := [z, TI, TO, i1, i2]) (fun c o hb q =>
      hk c o (fun q' => hb (by simp [q'])) (fun q' => hb (by simp [q'])) (fun q' => hb (by simp [q'])) (fun q' => hb (by simp [q'])) q) hf⟩
  self := fun A i s Q E st h => wpAny_pyIter_zip st.1 h

def iZ2 (K : PySem.W.Frag) (ta : TA) : TI := fun σ H R => ta σ H fun vs H1 => ∃ a1 a2 k1 k2 xs1 xs2, vs = [.ref a1, .ref a2] ∧ SqK k1 K H1 a1 xs1 ∧ SqK k2 K H1 a2 xs2 ∧ R (ItZ2 K k1 k2 a1 a2) H1
theorem pi_z2 {X : Cx} {e1 e2 : Expr} {ta : TA} {p pos tpos : Pos} {elts : List Expr} {kk : Nat} (hg : Gl X "zip") (hm : X.mg "zip" = none) (ha : PA X [e1, e2] ta)
    (hs : starEach [e1, e2] X.env = (false, eval e1 X.env) :: starEach [e2] X.env := by rfl) (hpl : (backTo pos (starEach [e2] X.env)).any (·.1) = false := by rfl) :
    PI X (.Tuple elts kk tpos) (.Call (.Name "zip" p) [e1, e2] [] pos) (iZ2 X.K ta) := by
  refine ⟨fun pins s σ H R I h => ?_⟩
  refine Call_ (ld_blt I hg hm PyProof.Rows.boot_zip (PyProof.Rows.callWith_type1 (thn (ha.run pos pins s σ H _ I h) fun us s1 ⟨vs, H1, I1, r1, q1⟩ => ?_) hs hpl))
  obtain ⟨a1, a2, k1, k2, xs1, xs2, ex, hq1, hq2, q⟩ := q1
  subst ex
  obtain rfl : us = [.ref a1, .ref a2] := by
    cases r1 with
    | cons r rr =>
      cases rr with
      | cons r' rr => cases rr; cases r; cases r'; rfl
  obtain ⟨its1, rv1, p1, _⟩ := inv_sq I1 hq1
  obtain ⟨its2, rv2, p2, _⟩ := inv_sq I1 hq2
  have fresh : ∀ c, c ∈ [s1.heap.objs.size + 4, s1.heap.objs.size + 2, s1.heap.objs.size + 3, s1.heap.objs.size, s1.heap.objs.size + 1] → FpOk X pins H1 c := fun c hcm => by
    have hle : s1.heap.objs.size ≤ c := by
      simp only [List.mem_cons, List.not_mem_nil, or_false] at hcm
      rcases hcm with q | q | q | q | q <;> rw [q] <;> first | exact Nat.le_add_right _ _ | exact Nat.le_refl _
    exact I1.fpOk hle (I1.hok.fresh hle)
  refine zcall2 p1 p2 fun h' hz hTI hTO m1 m2 hk => wpAny_pyIter_zip hz ?_
  have I2 : Inv X pins σ H1 { s1 with heap := h' } := I1.kept (t' := s1.toks) hk
  exact ⟨s1.heap.objs.size + 4, [s1.heap.objs.size + 4, s1.heap.objs.size + 2, s1.heap.objs.size + 3, s1.heap.objs.size, s1.heap.objs.size + 1], _, _, H1, rfl, I2, turn_z2 (ap2 s1.heap.objs.size a1 a2 p1.lt p2.lt), ⟨hz, hTI, ⟨_, _, hTO⟩, m1, m2⟩, fresh, q⟩

theorem ap3 (m : Nat) (a1 a2 a3 : Nat) (h1 : a1 < m) (h2 : a2 < m) (h3 : a3 < m) : Ap3 (m + 5) (m + 3) (m + 4) m (m + 1) (m + 2) a1 a2 a3 := by
  constructor <;> omega

theorem zcall3 {a1 a2 a3 : Addr} {k1 k2 k3 : SK} {xs1 xs2 xs3 : Array Value} {Q : Value → Shared → Prop} (hl1 : IsSq k1 s.heap a1 xs1) (hl2 : IsSq k2 s.heap a2 xs2) (hl3 : IsSq k3 s.heap a3 xs3)
    (h : ∀ h', IsZip h' (s.heap.objs.size + 5) (s.heap.objs.size + 3) (s.heap.objs.size + 4) .none → IsTp3 h' (s.heap.objs.size + 3) (.ref s.heap.objs.size) (.ref (s.heap.objs.size + 1)) (.ref (s.heap.objs.size + 2)) → IsTp3 h' (s.heap.objs.size + 4) .none .none .none → IsIt k1 h' s.heap.objs.size a1 0 → IsIt k2 h' (s.heap.objs.size + 1) a2 0 → IsIt k3 h' (s.heap.objs.size + 2) a3 0 →
      (∀ c o, s.heap.get? c = some o → h'.get? c = some o) → Q (.ref (s.heap.objs.size + 5)) { s with heap := h' }) :
    wpAny (model prog w) A (call (.type "zip") [.ref a1, .ref a2, .ref a3]) Q E s := by
  refine callType_new F.called_zip (by decide) (typeCall_zip_3 _ _ _) (newCall_zip_3 _ _ _) (fun obj => args_object_init_4 obj _ _ _) F.entry_zip_new
    (meets_zip3_new a1 a2 a3 k1 k2 k3 xs1 xs2 xs3) ⟨hl1, hl2, hl3, ?_⟩

  have z1 : (zh3_1 s.heap a1 k1).objs.size = s.heap.objs.size + 1 := Heap.size_push ..
  have z2 : (zh3_2 s.heap a1 a2 k1 k2).objs.size = s.heap.objs.size + 2 := by rw [Heap.size_push, z1]
  have z3 : (zh3_3 s.heap a1 a2 a3 k1 k2 k3).objs.size = s.heap.objs.size + 3 := by rw [Heap.size_push, z2]
  have zA : (zhA_3 s.heap a1 a2 a3 k1 k2 k3).objs.size = s.heap.objs.size + 4 := by rw [Heap.size_push, z3]
  have zB : (zhB_3 s.heap a1 a2 a3 k1 k2 k3).objs.size = s.heap.objs.size + 5 := by rw [Heap.size_push, zA]
  have gC : (zhC_3 s.heap a1 a2 a3 k1 k2 k3).get? (zhB_3 s.heap a1 a2 a3 k1 k2 k3).objs.size = some _ := Heap.get?_push_size _ rfl
  have gB : (zhC_3 s.heap a1 a2 a3 k1 k2 k3).get? (zhA_3 s.heap a1 a2 a3 k1 k2 k3).objs.size = some _ := Heap.get?_push_of_some _ (Heap.get?_push_size _ rfl)
  have gA : (zhC_3 s.heap a1 a2 a3 k1 k2 k3).get? (zh3_3 s.heap a1 a2 a3 k1 k2 k3).objs.size = some _ := Heap.get?_push_of_some _ (Heap.get?_push_of_some _ (Heap.get?_push_size _ rfl))
  have g3 : (zhC_3 s.heap a1 a2 a3 k1 k2 k3).get? (zh3_2 s.heap a1 a2 k1 k2).objs.size = some { cls := .type k3.itc, data := .fields #[.ref a3, .int 0 0] } := Heap.get?_push_of_some _ (Heap.get?_push_of_some _ (Heap.get?_push_of_some _ (Heap.get?_push_size _ rfl)))
  have g2 : (zhC_3 s.heap a1 a2 a3 k1 k2 k3).get? (zh3_1 s.heap a1 k1).objs.size = some { cls := .type k2.itc, data := .fields #[.ref a2, .int 0 0] } := Heap.get?_push_of_some _ (Heap.get?_push_of_some _ (Heap.get?_push_of_some _ (Heap.get?_push_of_some _ (Heap.get?_push_size _ rfl))))
  have g1 : (zhC_3 s.heap a1 a2 a3 k1 k2 k3).get? s.heap.objs.size = some { cls := .type k1.itc, data := .fields #[.ref a1, .int 0 0] } := Heap.get?_push_of_some _ (Heap.get?_push_of_some _ (Heap.get?_push_of_some _ (Heap.get?_push_of_some _ (Heap.get?_push_of_some _ (Heap.get?_push_size _ rfl)))))
  show _ ∧ _
  rw [z3, zA, zB] at gC
  rw [z1, z2, z3] at gA
  rw [zA] at gB
  rw [z1] at g2
  rw [z2] at g3
  rw [zB]
  exact ⟨⟨_, gC, rfl⟩, h _ gC gA gB (IsIt.new g1) (IsIt.new g2) (IsIt.new g3) fun c o x =>
    Heap.get?_push_of_some _ (Heap.get?_push_of_some _ (Heap.get?_push_of_some _ (Heap.get?_push_of_some _ (Heap.get?_push_of_some _ (Heap.get?_push_of_some _ (x))))))⟩

def ItZ3 (K : PySem.W.Frag) (k1 k2 k3 : SK) (a1 a2 a3 : Addr) : It :=
  ⟨fun i H => ∃ (xs1 xs2 xs3 : List V) (x1 x2 x3 : V), SqK k1 K H a1 xs1 ∧ SqK k2 K H a2 xs2 ∧ SqK k3 K H a3 xs3 ∧ xs1[i]? = some x1 ∧ xs2[i]? = some x2 ∧ xs3[i]? = some x3,
    fun i H v H' => ∃ T x1 x2 x3, v = .ref T ∧ H T = none ∧ H' = upd H T (.tup [x1, x2, x3]) ∧ (∀ xs, SqK k1 K H a1 xs → xs[i]? = some x1) ∧ (∀ xs, SqK k2 K H a2 xs → xs[i]? = some x2) ∧ (∀ xs, SqK k3 K H a3 xs → xs[i]? = some x3),
    fun i H => ∃ xs1 xs2 xs3 : List V, SqK k1 K H a1 xs1 ∧ SqK k2 K H a2 xs2 ∧ SqK k3 K H a3 xs3 ∧ (xs1.length ≤ i ∨ xs2.length ≤ i ∨ xs3.length ≤ i)⟩
theorem turn_z3 {P : Program} {w : World} {K : PySem.W.Frag} {elts : List Expr} {kk : Nat} {tpos : Pos} {z TI TO i1 i2 i3 a1 a2 a3 : Addr} {k1 k2 k3 : SK} (D : Ap3 z TI TO i1 i2 i3 a1 a2 a3) :
    Turn P w K (.Tuple elts kk tpos) (ItZ3 K k1 k2 k3 a1 a2 a3) [z, TI, TO, i1, i2, i3] z (fun i h => IsZip h z TI TO .none ∧ IsTp3 h TI (.ref i1) (.ref i2) (.ref i3) ∧ (∃ v1 v2 v3, IsTp3 h TO v1 v2 v3) ∧ IsIt k1 h i1 a1 i ∧ IsIt k2 h i2 a2 i ∧ IsIt k3 h i3 a3 i) where
  mem := by simp
  obj := fun i h st c hc => by
    obtain ⟨hz, hTI, ⟨v1, v2, v3, hTO⟩, h1, h2, h3⟩ := st
    have e' : c = z ∨ c = TI ∨ c = TO ∨ c = i1 ∨ c = i2 ∨ c = i3 := by simpa using hc
    rcases e' with q | q | q | q | q | q
    · rw [q]; exact ⟨_, hz, fun v q => nomatch q⟩
    · rw [q]; exact ⟨_, hTI, fun v q => nomatch q⟩
    · rw [q]; exact ⟨_, hTO, fun v q => nomatch q⟩
    · obtain ⟨o, vs, e1, d1⟩ := h1.ex; rw [q]; exact ⟨o, e1, fun v q => by rw [d1] at q; cases q⟩
    · obtain ⟨o, vs, e1, d1⟩ := h2.ex; rw [q]; exact ⟨o, e1, fun v q => by rw [d1] at q; cases q⟩
    · obtain ⟨o, vs, e1, d1⟩ := h3.ex; rw [q]; exact ⟨o, e1, fun v q => by rw [d1] at q; cases q⟩
  keep := fun i h h' st k => by
    obtain ⟨hz, hTI, ⟨v1, v2, v3, hTO⟩, h1, h2, h3⟩ := st
    exact ⟨k z (by simp) _ hz, k TI (by simp) _ hTI, ⟨v1, v2, v3, k TO (by simp) _ hTO⟩, h1.at fun o q => k i1 (by simp) o q, h2.at fun o q => k i2 (by simp) o q, h3.at fun o q => k i3 (by simp) o q⟩
  item := by
    intro X hP hw hK hc i pins s σ H E I hf st hg
    subst hP hw hK
    obtain ⟨hz, hTI, ⟨v1, v2, v3, hTO⟩, h1, h2, h3⟩ := st
    obtain ⟨xs1, xs2, xs3, x1, x2, x3, hq1, hq2, hq3, hx1, hx2, hx3⟩ := hg
    obtain ⟨its1, rv1, p1, _⟩ := inv_sq I hq1
    obtain ⟨u1, hu1, ru1⟩ := rv1.get hx1
    obtain ⟨its2, rv2, p2, _⟩ := inv_sq I hq2
    obtain ⟨u2, hu2, ru2⟩ := rv2.get hx2
    obtain ⟨its3, rv3, p3, _⟩ := inv_sq I hq3
    obtain ⟨u3, hu3, ru3⟩ := rv3.get hx3
    have hzl : z < s.heap.objs.size := Heap.lt_size hz
    refine nx_zip3_item D hz hTI hTO h1 p1 h2 p2 h3 p3 (by simpa using hu1) (by simpa using hu2) (by simpa using hu3) fun h' z' TO' n1 n2 n3 hT hsz hk => ?_
    refine ⟨_, rfl, wpAny_letOwnedTupleGo_zip (s := { s with heap := h' }) z' fun h'' z'' sb => ?_⟩
    have hT2 : h''.get? s.heap.objs.size = some { cls := .type "tuple", data := .seq #[u1, u2, u3] } := (sb.2 _ (Nat.ne_of_gt hzl)).trans hT
    have new : ObjOk X.prog X.w (upd H s.heap.objs.size (.tup [x1, x2, x3])) h'' s.heap.objs.size (.tup [x1, x2, x3]) :=
      ⟨by show 3 ≤ sizeLine; decide, [u1, u2, u3], .cons ru1 (.cons ru2 (.cons ru3 .nil)), ⟨_, hT2, rfl, _, rfl⟩⟩
    have I1 : Inv X pins σ (upd H s.heap.objs.size (.tup [x1, x2, x3])) { s with heap := h'' } :=
      I.turnedNew (t' := s.toks) (ch := [z, TI, TO, i1, i2, i3]) (fun c o hb q => (sb.2 c (fun q' => hb (by simp [q']))).trans (hk c o (fun q' => hb (by simp [q'])) (fun q' => hb (by simp [q'])) (fun q' => hb (by simp [q'])) (fun q' => hb (by simp [q'])) (fun q' => hb (by simp [q'])) q)) hf (Nat.le_refl _) new
    refine ⟨.ref s.heap.objs.size, _, I1, rfl, ⟨_, x1, x2, x3, rfl, I.hok.fresh (Nat.le_refl _), rfl, fun l hl => by rw [inv_sq_inj I hl hq1]; exact hx1, fun l hl => by rw [inv_sq_inj I hl hq2]; exact hx2, fun l hl => by rw [inv_sq_inj I hl hq3]; exact hx3⟩, ⟨z'', ?_, ⟨u1, u2, u3, ?_⟩, ?_, ?_, ?_⟩, fun c hcm => ?_⟩
    · exact (sb.2 _ D.TIz).trans (hk _ _ D.TIz D.TITO D.TIi1 D.TIi2 D.TIi3 hTI)
    · exact (sb.2 _ D.TOz).trans TO'
    · exact n1.at fun o q => (sb.2 _ D.i1z).trans q
    · exact n2.at fun o q => (sb.2 _ D.i2z).trans q
    · exact n3.at fun o q => (sb.2 _ D.i3z).trans q
    · have hlt : c < s.heap.objs.size := by
        have e' : c = z ∨ c = TI ∨ c = TO ∨ c = i1 ∨ c = i2 ∨ c = i3 := by simpa using hcm
        rcases e' with q | q | q | q | q | q
        · rw [q]; exact hzl
        · rw [q]; exact Heap.lt_size hTI
        · rw [q]; exact Heap.lt_size hTO
        · obtain ⟨_, _, e1, _⟩ := h1.ex; rw [q]; exact Heap.lt_size e1
        · obtain ⟨_, _, e1, _⟩ := h2.ex; rw [q]; exact Heap.lt_size e1
        · obtain ⟨_, _, e1, _⟩ := h3.ex; rw [q]; exact Heap.lt_size e1
      rw [upd_ne (Nat.ne_of_lt hlt)]
      exact (hf c hcm).1
  done := by
    intro X hP hw hK hc i pins s σ H E I hf st hg
    subst hP hw hK
    obtain ⟨hz, hTI, ⟨v1, v2, v3, hTO⟩, h1, h2, h3⟩ := st
    obtain ⟨xs1, xs2, xs3, hq1, hq2, hq3, hend⟩ := hg
    obtain ⟨its1, rv1, p1, _⟩ := inv_sq I hq1
    have len1 := rv1.length
    obtain ⟨its2, rv2, p2, _⟩ := inv_sq I hq2
    have len2 := rv2.length
    obtain ⟨its3, rv3, p3, _⟩ := inv_sq I hq3
    have len3 := rv3.length
    have he : its1.toArray[i]? = none ∨ its2.toArray[i]? = none ∨ its3.toArray[i]? = none := by
      rcases hend with q | q | q
      · exact .inl (by simp; omega)
      · exact .inr (.inl (by simp; omega))
      · exact .inr (.inr ((by simp; omega)))
    exact nx_zip3_end (I.ok.hd hc) D hz hTI hTO h1 p1 h2 p2 h3 p3 he fun h' hk => ⟨rfl, I.turnedL (t' := s.toks) (ch := [z, TI, TO, i1, i2, i3]) (fun c o hb q =>
      hk c o (fun q' => hb (by simp [q'])) (fun q' => hb (by simp [q'])) (fun q' => hb (by simp [q'])) (fun q' => hb (by simp [q'])) (fun q' => hb (by simp [q'])) q) hf⟩
  self := fun A i s Q E st h => wpAny_pyIter_zip st.1 h

def iZ3 (K : PySem.W.Frag) (ta : TA) : TI := fun σ H R => ta σ H fun vs H1 => ∃ a1 a2 a3 k1 k2 k3 xs1 xs2 xs3, vs = [.ref a1, .ref a2, .ref a3] ∧ SqK k1 K H1 a1 xs1 ∧ SqK k2 K H1 a2 xs2 ∧ SqK k3 K H1 a3 xs3 ∧ R (ItZ3 K k1 k2 k3 a1 a2 a3) H1
theorem pi_z3 {X : Cx} {e1 e2 e3 : Expr} {ta : TA} {p pos tpos : Pos} {elts : List Expr} {kk : Nat} (hg : Gl X "zip") (hm : X.mg "zip" = none) (ha : PA X [e1, e2, e3] ta)
    (hs : starEach [e1, e2, e3] X.env = (false, eval e1 X.env) :: starEach [e2, e3] X.env := by rfl) (hpl : (backTo pos (starEach [e2, e3] X.env)).any (·.1) = false := by rfl) :
    PI X (.Tuple elts kk tpos) (.Call (.Name "zip" p) [e1, e2, e3] [] pos) (iZ3 X.K ta) := by
  refine ⟨fun pins s σ H R I h => ?_⟩
  refine Call_ (ld_blt I hg hm PyProof.Rows.boot_zip (PyProof.Rows.callWith_type1 (thn (ha.run pos pins s σ H _ I h) fun us s1 ⟨vs, H1, I1, r1, q1⟩ => ?_) hs hpl))
  obtain ⟨a1, a2, a3, k1, k2, k3, xs1, xs2, xs3, ex, hq1, hq2, hq3, q⟩ := q1
  subst ex
  obtain rfl : us = [.ref a1, .ref a2, .ref a3] := by
    cases r1 with
    | cons r rr =>
      cases rr with
      | cons r' rr =>
        cases rr with
        | cons r2 rr => cases rr; cases r; cases r'; cases r2; rfl
  obtain ⟨its1, rv1, p1, _⟩ := inv_sq I1 hq1
  obtain ⟨its2, rv2, p2, _⟩ := inv_sq I1 hq2
  obtain ⟨its3, rv3, p3, _⟩ := inv_sq I1 hq3
  have fresh : ∀ c, c ∈ [s1.heap.objs.size + 5, s1.heap.objs.size + 3, s1.heap.objs.size + 4, s1.heap.objs.size, s1.heap.objs.size + 1, s1.heap.objs.size + 2] → FpOk X pins H1 c := fun c hcm => by
    have hle : s1.heap.objs.size ≤ c := by
      simp only [List.mem_cons, List.not_mem_nil, or_false] at hcm
      rcases hcm with q | q | q | q | q | q <;> rw [q] <;> first | exact Nat.le_add_right _ _ | exact Nat.le_refl _
    exact I1.fpOk hle (I1.hok.fresh hle)
  refine zcall3 p1 p2 p3 fun h' hz hTI hTO m1 m2 m3 hk => wpAny_pyIter_zip hz ?_
  have I2 : Inv X pins σ H1 { s1 with heap := h' } := I1.kept (t' := s1.toks) hk
  exact ⟨s1.heap.objs.size + 5, [s1.heap.objs.size + 5, s1.heap.objs.size + 3, s1.heap.objs.size + 4, s1.heap.objs.size, s1.heap.objs.size + 1, s1.heap.objs.size + 2], _, _, H1, rfl, I2, turn_z3 (ap3 s1.heap.objs.size a1 a2 a3 p1.lt p2.lt p3.lt), ⟨hz, hTI, ⟨_, _, _, hTO⟩, m1, m2, m3⟩, fresh, q⟩

end
end Rm

namespace Rm
open PySem PySem.Spec PyProof.Rows L2
open PySem.Sem (wp)
/-! ### enumerate of a list or a tuple -/
section
variable {prog : Program} {w : World} {A : Around} {E : Value → Shared → Prop} {s : Shared}
theorem enu_item {k : SK} {e it l : Addr} {i : Nat} {items : Array Value} {x old : Value} {Q : Value → Shared → Prop}
    (he : IsEnum s.heap e it i old) (hit : IsIt k s.heap it l i) (hl : IsSq k s.heap l items) (hx : items[i]? = some x) (hne : e ≠ it)
    (hQ : ∀ g, IsEnumOut g e it ((i : Int) + 1) x s.heap.objs.size → IsIt k g it l (i + 1) → g.get? s.heap.objs.size = some { cls := .type "tuple", data := .seq #[.int i s.toks, x] } →
      (∀ b o, b ≠ e → b ≠ it → s.heap.get? b = some o → g.get? b = some o) → Q (.ref s.heap.objs.size) { s with heap := g, toks := s.toks + 1 }) :
    wpAny (model prog w) A (Builtin.«enumerate.__next__» ⟨[.ref e], []⟩) (fun fin s' => ∃ v, fin = .done (.ret v) ∧ Q v s') E s := by
  obtain ⟨hp, g0, d0, tk, os⟩ := s
  have hp_e : e < hp.objs.size := Heap.lt_size he
  show wpAny _ _ (field (.ref e) 2 >>= _) _ _ _
  refine wpAny_bind (wpAny_field he rfl (x := .ref it) rfl ?_)
  refine wpAny_bind (nxt_item hit hl hx fun p1 it1 sb1 => ?_)
  have sb1 : Heap.SameBut it hp p1 := sb1
  have e1 : IsEnum p1 e it i old := (sb1.2 e hne).trans he
  show wpAny _ _ (field (.ref e) 3 >>= _) _ _ ⟨p1, g0, d0, tk, os⟩
  refine wpAny_bind (wpAny_field e1 rfl (x := rawInt i) rfl ?_)
  show wpAny _ _ (field (.ref e) 4 >>= _) _ _ ⟨p1, g0, d0, tk, os⟩
  refine wpAny_bind (wpAny_field e1 rfl (x := .none) rfl ?_)
  show wpAny _ _ (mkInt i >>= _) _ _ ⟨p1, g0, d0, tk, os⟩
  refine wpAny_bind (wpAny_mkInt ?_)
  show wpAny _ _ (setField (.ref e) 3 (rawInt ((i : Int) + 1)) >>= _) _ _ ⟨p1, g0, d0, tk + 1, os⟩
  refine wpAny_bind (wpAny_setField_rec e1 (by simp) fun p2 e2 sb2 => ?_)
  have sb2 : Heap.SameBut e p1 p2 := sb2
  have e2 : IsEnum p2 e it ((i : Int) + 1) old := e2
  show wpAny _ _ (setField (.ref e) 4 .none >>= _) _ _ ⟨p2, g0, d0, tk + 1, os⟩
  refine wpAny_bind (wpAny_setField_rec e2 (by simp) fun p3 e3 sb3 => ?_)
  have sb3 : Heap.SameBut e p2 p3 := sb3
  have e3 : IsEnum p3 e it ((i : Int) + 1) old := e3
  have n3 : p3.objs.size = hp.objs.size := by rw [sb3.1, sb2.1, sb1.1]
  show wpAny _ _ (newTuple [.int i tk, x] >>= _) _ _ ⟨p3, g0, d0, tk + 1, os⟩
  refine wpAny_bind (wpAny_newTuple ?_)
  obtain ⟨p4, q4⟩ : ∃ p4, p4 = p3.push { cls := .type "tuple", data := .seq #[.int i tk, x] } := ⟨_, rfl⟩
  have e4 : IsEnum p4 e it ((i : Int) + 1) old := by rw [q4]; exact Heap.get?_push_of_some _ e3
  have t4 : p4.get? hp.objs.size = some { cls := .type "tuple", data := .seq #[.int i tk, x] } := by rw [q4, ← n3]; exact Heap.get?_push_size _ rfl
  have k4 : ∀ b o, b ≠ e → b ≠ it → hp.get? b = some o → p4.get? b = some o := fun b o ne ni q => by
    rw [q4]; exact Heap.get?_push_of_some _ (sb3.extBut b o ne (sb2.extBut b o ne (sb1.extBut b o ni q)))
  have i4 : IsIt k p4 it l (i + 1) := it1.at fun o q => by
    rw [q4]; exact Heap.get?_push_of_some _ (sb3.extBut it o (Ne.symm hne) (sb2.extBut it o (Ne.symm hne) q))
  show wpAny _ _ (Builtin.SmallTypes.ownedTupleIsFree (.ref e) >>= _) _ _ ⟨p3.push { cls := .type "tuple", data := .seq #[.int i tk, x] }, g0, d0, tk + 1, os⟩
  rw [n3, ← q4]
  refine wpAny_bind ?_
  unfold Builtin.SmallTypes.ownedTupleIsFree
  refine wpAny_bind (wpAny_field e4 rfl (x := .none) rfl (wpAny_pure ?_))
  simp only [if_true]
  refine wpAny_bind (wpAny_rule ?_)
  refine wpAny_bind (wpAny_field e4 rfl (x := old) rfl ?_)
  refine wpAny_bind (wpAny_setField_rec e4 (by simp) fun p5 e5 sb5 => ?_)
  have sb5 : Heap.SameBut e p4 p5 := sb5
  have e5 : IsEnum p5 e it ((i : Int) + 1) x := e5
  show wpAny _ _ (Builtin.SmallTypes.ownedTupleHandOut (.ref e) (.ref hp.objs.size) >>= _) _ _ ⟨p5, g0, d0, tk + 1, os⟩
  refine wpAny_bind ?_
  unfold Builtin.SmallTypes.ownedTupleHandOut
  refine wpAny_bind (wpAny_setField_rec e5 (by simp) fun p6 e6 sb6 => ?_)
  have sb6 : Heap.SameBut e p5 p6 := sb6
  have e6 : IsEnumOut p6 e it ((i : Int) + 1) x hp.objs.size := e6
  refine wpAny_setField_rec e6 (by simp) fun p7 e7 sb7 => ?_
  have sb7 : Heap.SameBut e p6 p7 := sb7
  have e7 : IsEnumOut p7 e it ((i : Int) + 1) x hp.objs.size := e7
  have up : ∀ b o, b ≠ e → p4.get? b = some o → p7.get? b = some o := fun b o ne q => sb7.extBut b o ne (sb6.extBut b o ne (sb5.extBut b o ne q))
  exact wpAny_bind (wpAny_letGo (wpAny_pure ⟨_, rfl, hQ p7 e7 (i4.at fun o q => up it o (Ne.symm hne) q) (up _ _ (Nat.ne_of_gt hp_e) t4) fun b o ne ni q => up b o ne (k4 b o ne ni q)⟩))
theorem nx_enu_item {k : SK} {e it l : Addr} {i : Nat} {items : Array Value} {x old : Value} {Q : Option Value → Shared → Prop}
    (he : IsEnum s.heap e it i old) (hit : IsIt k s.heap it l i) (hl : IsSq k s.heap l items) (hx : items[i]? = some x) (hne : e ≠ it)
    (hQ : ∀ g, IsEnumOut g e it ((i : Int) + 1) x s.heap.objs.size → IsIt k g it l (i + 1) → g.get? s.heap.objs.size = some { cls := .type "tuple", data := .seq #[.int i s.toks, x] } →
      (∀ b o, b ≠ e → b ≠ it → s.heap.get? b = some o → g.get? b = some o) → Q (some (.ref s.heap.objs.size)) { s with heap := g, toks := s.toks + 1 }) :
    wpAny (model prog w) A (pyNext (.ref e)) Q E s := by
  have hT : s.TypeIs (.ref e) "enumerate" := ⟨_, he, rfl⟩
  unfold pyNext
  exact wpAny_bind (wpAny_attempt (wpAny_callSpecial?_slot (name := Str.ofString "__next__") hT F.slot_enumerate_next
    (wpAny_call_entry F.slot_enumerate_next hT F.entry_enumerate_next (enu_item he hit hl hx hne fun g a b c d => wpAny_pure (hQ g a b c d)) (F.args_enumerate_next_1 _))))
theorem nx_enu_end {k : SK} {e it l : Addr} {i : Nat} {items : Array Value} {old : Value} {Q : Option Value → Shared → Prop} (hh : A.handled = none)
    (he : IsEnum s.heap e it i old) (hit : IsIt k s.heap it l i) (hl : IsSq k s.heap l items) (hx : items[i]? = none)
    (hQ : ∀ g, Heap.ExtBut it s.heap g → Q none { s with heap := g }) : wpAny (model prog w) A (pyNext (.ref e)) Q E s := by
  have hT : s.TypeIs (.ref e) "enumerate" := ⟨_, he, rfl⟩
  unfold pyNext
  refine wpAny_bind (wpAny_attempt (wpAny_callSpecial?_slot (name := Str.ofString "__next__") hT F.slot_enumerate_next
    (wpAny_call_entry F.slot_enumerate_next hT F.entry_enumerate_next ?_ (F.args_enumerate_next_1 _))))
  show wpAny _ _ (field (.ref e) 2 >>= _) _ _ _
  refine wpAny_bind (wpAny_field he rfl (x := .ref it) rfl ?_)
  refine wpAny_bind (nxt_end hh hit hl hx fun g x hg hx' => ?_)
  obtain ⟨o, ho, hc⟩ := hx'
  exact wpAny_bind (wpAny_isInstance (T := "StopIteration") (b := true) ⟨o, ho, hc⟩ isSubtype_stop (wpAny_pure (hQ _ hg)))
abbrev ehA (h : Heap) (l : Addr) (k : SK) : Heap := h.push { cls := .type k.itc, data := .fields #[.ref l, .int 0 0] }
abbrev ehB (h : Heap) (l : Addr) (k : SK) : Heap := (ehA h l k).push { cls := .type "enumerate", data := .fields #[.none, .bool false, .ref h.objs.size, rawInt 0, .none, .none] }
theorem meets_enu_new (l : Addr) (k : SK) (xs : Array Value) :
    Meets (Builtin.«enumerate.__new__» ⟨[.type "enumerate", .ref l], []⟩) (fun _ R s => IsSq k s.heap l xs ∧ R (.ok (.ret (.ref (ehA s.heap l k).objs.size))) { s with heap := ehB s.heap l k }) :=
  .of_wp fun prog w A R s h => by
    obtain ⟨hp, g, d, tk, os⟩ := s; obtain ⟨hl, h⟩ := h
    have hsub := sub_enumerate
    have hL : IsSq k (Shared.heap ⟨hp, g, d, tk, os⟩) l xs := hl
    wp_walk
    refine wpAny_stack_any fun st => wpAny_pure ?_
    split
    · rename_i c _ _ _ _ _
      cases (c == Value.type "enumerate")
      · wp_walk using iter_sq hL
        exact ⟨_, rfl, h⟩
      · wp_walk using iter_sq hL
        exact ⟨_, rfl, h⟩
    · wp_walk using iter_sq hL
      exact ⟨_, rfl, h⟩
theorem ecall {a : Addr} {k : SK} {xs : Array Value} {Q : Value → Shared → Prop} (hl : IsSq k s.heap a xs)
    (h : ∀ g, IsEnum g (s.heap.objs.size + 1) s.heap.objs.size 0 .none → IsIt k g s.heap.objs.size a 0 → (∀ b o, s.heap.get? b = some o → g.get? b = some o) → Q (.ref (s.heap.objs.size + 1)) { s with heap := g }) :
    wpAny (model prog w) A (call (.type "enumerate") [.ref a]) Q E s := by
  refine callType_new F.called_enumerate (by decide) (F.typeCall_enumerate_1 _) (F.newCall_enumerate_1 _) (fun obj => F.args_object_init_2 obj _) F.entry_enumerate_new (meets_enu_new a k xs) ⟨hl, ?_⟩
  have zA : (ehA s.heap a k).objs.size = s.heap.objs.size + 1 := Heap.size_push ..
  have gB : (ehB s.heap a k).get? (ehA s.heap a k).objs.size = some _ := Heap.get?_push_size _ rfl
  have g1 : (ehB s.heap a k).get? s.heap.objs.size = some { cls := .type k.itc, data := .fields #[.ref a, .int 0 0] } := Heap.get?_push_of_some _ (Heap.get?_push_size _ rfl)
  show _ ∧ _
  rw [zA] at gB
  rw [zA]
  exact ⟨⟨_, gB, rfl⟩, h _ gB (IsIt.new g1) fun c o x => Heap.get?_push_of_some _ (Heap.get?_push_of_some _ x)⟩
def ItE (K : PySem.W.Frag) (k : SK) (a : Addr) : It :=
  ⟨fun i H => ∃ (xs : List V) (x : V), SqK k K H a xs ∧ xs[i]? = some x,
    fun i H v H' => ∃ T x, v = .ref T ∧ H T = none ∧ H' = upd H T (.tup [.int (i : Nat), x]) ∧ ∀ xs, SqK k K H a xs → xs[i]? = some x,
    fun i H => ∃ xs : List V, SqK k K H a xs ∧ xs.length ≤ i⟩
theorem turn_e {P : Program} {w : World} {K : PySem.W.Frag} {elts : List Expr} {kk : Nat} {tpos : Pos} {k : SK} (a e it : Addr) :
    Turn P w K (.Tuple elts kk tpos) (ItE K k a) [e, it] e (fun i h => (∃ old, IsEnum h e it ((i : Nat) : Int) old) ∧ IsIt k h it a i ∧ e ≠ it) where
  mem := by simp
  obj := fun i h st b hb => by
    obtain ⟨⟨old, he⟩, hi, _⟩ := st
    have e' : b = e ∨ b = it := by simpa using hb
    rcases e' with z | z
    · rw [z]; exact ⟨_, he, fun v q => nomatch q⟩
    · obtain ⟨o, vs, ho, hd⟩ := hi.ex
      rw [z]; exact ⟨o, ho, fun v q => by rw [hd] at q; cases q⟩
  keep := fun i h h' st f => let ⟨⟨old, he⟩, hi, hne⟩ := st; ⟨⟨old, f e (by simp) _ he⟩, hi.at fun o q => f it (by simp) o q, hne⟩
  item := by
    intro X hP hw hK hc i pins s σ H E I hf st hg
    subst hP hw hK
    obtain ⟨⟨old, he⟩, hit, hne⟩ := st
    obtain ⟨xs, x, hq, hx⟩ := hg
    obtain ⟨its, rv, p, hz⟩ := inv_sq I hq
    obtain ⟨u, hu, ru⟩ := rv.get hx
    have hel : e < s.heap.objs.size := Heap.lt_size he
    have hil : it < s.heap.objs.size := by obtain ⟨_, _, q, _⟩ := hit.ex; exact Heap.lt_size q
    refine nx_enu_item he hit p (x := u) (by simpa using hu) hne fun g ho hit' hT hk => ?_
    refine ⟨_, rfl, wpAny_letOwnedTupleGo_enum (s := { s with heap := g, toks := s.toks + 1 }) ho fun g2 he' sb => ?_⟩
    have hT2 : g2.get? s.heap.objs.size = some { cls := .type "tuple", data := .seq #[.int i s.toks, u] } := (sb.2 _ (Nat.ne_of_gt hel)).trans hT
    have new : ObjOk X.prog X.w (upd H s.heap.objs.size (.tup [.int (i : Nat), x])) g2 s.heap.objs.size (.tup [.int (i : Nat), x]) :=
      ⟨by show 2 ≤ sizeLine; decide, [.int i s.toks, u], .cons ⟨_, rfl⟩ (.cons ru .nil), ⟨_, hT2, rfl, _, rfl⟩⟩
    have I1 : Inv X pins σ (upd H s.heap.objs.size (.tup [.int (i : Nat), x])) { s with heap := g2, toks := s.toks + 1 } :=
      I.turnedNew (ch := [e, it]) (fun b ob hb q => (sb.2 b (fun z => hb (by simp [z]))).trans (hk b ob (fun z => hb (by simp [z])) (fun z => hb (by simp [z])) q)) hf (Nat.le_refl _) new
    refine ⟨.ref s.heap.objs.size, _, I1, rfl, ⟨_, x, rfl, I.hok.fresh (Nat.le_refl _), rfl, fun ys hy => by rw [inv_sq_inj I hy hq]; exact hx⟩, ⟨⟨u, ?_⟩, hit'.at fun o q => (sb.2 it (Ne.symm hne)).trans q, hne⟩, fun b hb => ?_⟩
    · have e1 : ((i + 1 : Nat) : Int) = (i : Int) + 1 := by omega
      rw [e1]; exact he'
    · have hb' : b < s.heap.objs.size := by
        have e' : b = e ∨ b = it := by simpa using hb
        rcases e' with z | z
        · rw [z]; exact hel
        · rw [z]; exact hil
      rw [upd_ne (Nat.ne_of_lt hb')]
      exact (hf b hb).1
  done := by
    intro X hP hw hK hc i pins s σ H E I hf st hg
    subst hP hw hK
    obtain ⟨⟨old, he⟩, hit, hne⟩ := st
    obtain ⟨xs, hq, hx⟩ := hg
    obtain ⟨its, rv, p, hz⟩ := inv_sq I hq
    obtain ⟨f0, f1, f2, f3, f4, f5⟩ := hf it (by simp)
    have hl := rv.length
    exact nx_enu_end (I.ok.hd hc) he hit p (by simp; omega) fun g eb => ⟨rfl, I.turned (t' := s.toks) (fun b o hb q => eb b o hb q) f0 f1 f3 f4 f5⟩
  self := fun A i s Q E st h => let ⟨⟨_, he⟩, _⟩ := st; wpAny_pyIter_enum he h
def iE (K : PySem.W.Frag) (te : TA) : TI := fun σ H R => te σ H fun vs H1 => ∃ k a xs, vs = [.ref a] ∧ SqK k K H1 a xs ∧ R (ItE K k a) H1
theorem pi_e {X : Cx} {e : Expr} {ta : TA} {p pos tpos : Pos} {elts : List Expr} {kk : Nat} (hg : Gl X "enumerate") (hm : X.mg "enumerate" = none) (ha : PA X [e] ta) (hs : starEach [e] X.env = [(false, eval e X.env)] := by rfl) :
    PI X (.Tuple elts kk tpos) (.Call (.Name "enumerate" p) [e] [] pos) (iE X.K ta) := by
  refine ⟨fun pins s σ H R I h => ?_⟩
  refine Call_ (ld_blt I hg hm boot_enumerate (PyProof.Rows.callWith_type1 (thn (ha.run pos pins s σ H _ I h) fun us s1 ⟨vs, H1, I1, r1, q1⟩ => ?_) hs rfl))
  obtain ⟨k, a, xs, ex, hq, q⟩ := q1
  subst ex
  cases r1 with
  | cons r rr =>
    cases rr
    cases r
    obtain ⟨its, rv, p', hz⟩ := inv_sq I1 hq
    refine ecall p' fun g he hit hk => wpAny_pyIter_enum he ?_
    have I2 : Inv X pins σ H1 { s1 with heap := g } := I1.kept (t' := s1.toks) hk
    refine ⟨s1.heap.objs.size + 1, [s1.heap.objs.size + 1, s1.heap.objs.size], _, _, H1, rfl, I2, turn_e a (s1.heap.objs.size + 1) s1.heap.objs.size, ⟨⟨.none, he⟩, hit, Nat.succ_ne_self _⟩, fun b hb => ?_, q⟩
    have hle : s1.heap.objs.size ≤ b := by
      simp only [List.mem_cons, List.not_mem_nil, or_false] at hb
      rcases hb with z | z <;> rw [z] <;> first | exact Nat.le_add_right _ _ | exact Nat.le_refl _
    exact I1.fpOk hle (I1.hok.fresh hle)
end
end Rm

namespace Rm
open PySem PySem.Spec PyProof.Rows L2

/-! ### what is walked -/
structure ItD where
  items : List D
  watch : List (Nat × List D)
def watchOk : List (Nat × List D) → AH → Prop
  | [], _ => True
  | (a, xs) :: r, h => h[a]? = some (.lst xs) ∧ watchOk r h
abbrev Iv := En → AH → R ItD
structure WalkD (K : PySem.W.Frag) (mg : Str → Option Value) (β : Bt) (H : Hp) (J : It) (it : ItD) : Prop where
  goes : ∀ β' h' H' i, Ext β H β' H' → Rl K mg β' h' H' → watchOk it.watch h' → i < it.items.length → J.go i H'
  stops : ∀ β' h' H', Ext β H β' H' → Rl K mg β' h' H' → watchOk it.watch h' → J.stop it.items.length H'
  yields : ∀ β' h' H' i x H2, Ext β H β' H' → Rl K mg β' h' H' → watchOk it.watch h' → i < it.items.length → J.yld i H' x H2 →
    ∃ d, it.items[i]? = some d ∧ Ext β' H' β' H2 ∧ Rl K mg β' h' H2 ∧ Rep K β' H2 d x ∧ ∀ p, H' p ≠ none → H2 p = H' p
def TIt (K : PySem.W.Frag) (mg : Str → Option Value) (E : XK) (f : Iv) : TI := fun σ H R => ∃ β env h, Rl K mg β h H ∧ RelE K β H env σ ∧ OutG K mg E β H (f env h) fun it β' _ H' => ∀ J, WalkD K mg β' H' J it → R J H'
def Ix (X : Cx) (E : XK) (tg e : Expr) (f : Iv) : Prop := PI X tg e (TIt X.K X.mg E f)
theorem pi_imp {X : Cx} {tg e : Expr} {t t' : TI} (h : PI X tg e t) (k : ∀ σ H R, t' σ H R → t σ H R) : PI X tg e t' := ⟨fun pins s σ H R I q => h.run pins s σ H R I (k σ H R q)⟩

/-- a sequence as it is read again at each turn -/
structure SeqOf (K : PySem.W.Frag) (mg : Str → Option Value) (β : Bt) (H : Hp) (k : SK) (p : Addr) (xs : List D) (w : List (Nat × List D)) : Prop where
  at_ : ∀ β' h' H', Ext β H β' H' → Rl K mg β' h' H' → watchOk w h' → ∃ vs, SqK k K H' p vs ∧ Reps K β' H' xs vs
def wOf (h : AH) : D → List (Nat × List D)
  | .lst a => match h[a]? with
    | some (.lst xs) => [(a, xs)]
    | _ => []
  | _ => []
theorem seq_of {K : PySem.W.Frag} {mg : Str → Option Value} {β : Bt} {H : Hp} {h : AH} (rl : Rl K mg β h H) {d : D} {v : V} {xs : List D} (r : Rep K β H d v) (e : rdS h d = some xs) : ∃ k p, v = .ref p ∧ (∃ vs, SqK k K H p vs) ∧ SeqOf K mg β H k p xs (wOf h d) := by
  cases d with
  | tup ys =>
    cases e
    obtain ⟨z, p, vs, rfl, t, rs⟩ := r
    exact ⟨.t, p, rfl, ⟨vs, t.sq⟩, ⟨fun β' h' H' x rl' w => ⟨vs, (t.ext x).sq, Reps.ext x _ _ rs⟩⟩⟩
  | fl ys =>
    cases e
    obtain ⟨z, p, vs, rfl, t, rs⟩ := r
    exact ⟨.l, p, rfl, ⟨vs, t.sq⟩, ⟨fun β' h' H' x rl' w => ⟨vs, (t.ext x).sq, Reps.ext x _ _ rs⟩⟩⟩
  | kl ys =>
    cases e
    obtain ⟨z, p, vs, rfl, t, rs⟩ := r
    exact ⟨.l, p, rfl, ⟨vs, t.sq⟩, ⟨fun β' h' H' x rl' w => ⟨vs, (t.ext x).sq, Reps.ext x _ _ rs⟩⟩⟩
  | lst a =>
    have hx := rdL_lst e
    obtain ⟨z, p, vs, rfl, e1, e2, rs⟩ := rl.at_lst hx r
    refine ⟨.l, p, rfl, ⟨vs, SqL.of e2⟩, ⟨fun β' h' H' x rl' w => ?_⟩⟩
    have w2 : h'[a]? = some (.lst xs) := by
      simp only [wOf, hx] at w
      exact w.1
    obtain ⟨_, p', vs', e3, _, e4, rs'⟩ := rl'.at_lst w2 (r.ext x)
    cases e3
    exact ⟨vs', SqL.of e4, rs'⟩
  | _ => cases e
section
variable {K : PySem.W.Frag} {mg : Str → Option Value} {β : Bt} {H : Hp}
theorem walk_seq {k : SK} {p : Addr} {xs : List D} {w : List (Nat × List D)} (s : SeqOf K mg β H k p xs w) : WalkD K mg β H (match k with | .l => Itl K p | .t => Itt K p) ⟨xs, w⟩ := by
  cases k with
  | l =>
    refine ⟨fun β' h' H' i x rl wk hi => ?_, fun β' h' H' x rl wk => ?_, fun β' h' H' i v H2 x rl wk hi y => ?_⟩
    · obtain ⟨vs, q, rs⟩ := s.at_ β' h' H' x rl wk
      have hi' : i < vs.length := by rw [← rs.length]; exact hi
      exact ⟨vs, vs[i], q, List.getElem?_eq_getElem hi'⟩
    · obtain ⟨vs, q, rs⟩ := s.at_ β' h' H' x rl wk
      exact ⟨vs, q, by rw [← rs.length]; exact Nat.le_refl _⟩
    · obtain ⟨vs, q, rs⟩ := s.at_ β' h' H' x rl wk
      obtain ⟨e, y⟩ := y
      obtain ⟨d, e1, r1⟩ := rs.getV (y vs q)
      rw [e]
      exact ⟨d, e1, Ext.refl, rl, r1, fun _ _ => rfl⟩
  | t =>
    refine ⟨fun β' h' H' i x rl wk hi => ?_, fun β' h' H' x rl wk => ?_, fun β' h' H' i v H2 x rl wk hi y => ?_⟩
    · obtain ⟨vs, q, rs⟩ := s.at_ β' h' H' x rl wk
      have hi' : i < vs.length := by rw [← rs.length]; exact hi
      exact ⟨vs, vs[i], q, List.getElem?_eq_getElem hi'⟩
    · obtain ⟨vs, q, rs⟩ := s.at_ β' h' H' x rl wk
      exact ⟨vs, q, by rw [← rs.length]; exact Nat.le_refl _⟩
    · obtain ⟨vs, q, rs⟩ := s.at_ β' h' H' x rl wk
      obtain ⟨e, y⟩ := y
      obtain ⟨d, e1, r1⟩ := rs.getV (y vs q)
      rw [e]
      exact ⟨d, e1, Ext.refl, rl, r1, fun _ _ => rfl⟩
theorem walk_rng {lo : Int} {n : Nat} : WalkD K mg β H (Itr lo n) ⟨(List.range n).map fun i => .int (lo + (i : Nat)), []⟩ := by
  refine ⟨fun β' h' H' i x rl wk hi => ?_, fun β' h' H' x rl wk => ?_, fun β' h' H' i v H2 x rl wk hi y => ?_⟩
  · show i < n
    simpa using hi
  · show n ≤ _
    simp
  · obtain ⟨e, y⟩ := y
    rw [e, y]
    have hi' : i < n := by simpa using hi
    exact ⟨.int (lo + i), by simp [hi'], Ext.refl, rl, rfl, fun _ _ => rfl⟩
def pair (p : D × D) : D := .tup [p.1, p.2]
theorem fresh_step {β' : Bt} {h' : AH} {H' H2 : Hp} {T : Addr} {us : List V} {ds : List D} {x : V} (rl : Rl K mg β' h' H') (hT : H' T = none) (e : H2 = upd H' T (.tup us)) (ex : x = .ref T) (rs : Reps K β' H' ds us) (hz : ds.length ≤ SL) :
    Ext β' H' β' H2 ∧ Rl K mg β' h' H2 ∧ Rep K β' H2 (.tup ds) x ∧ ∀ p, H' p ≠ none → H2 p = H' p := by
  subst e ex
  exact ⟨Ext.upd_new hT, rl.upd_new hT, Rep.newTup rl hT rs hz, fun p hp => upd_ne fun z => by subst z; exact hp hT⟩
theorem walk_enumD {k : SK} {p : Addr} {xs : List D} {w : List (Nat × List D)} (s : SeqOf K mg β H k p xs w) : WalkD K mg β H (ItE K k p) ⟨(xs.zipIdx).map fun q => .tup [.int q.2, q.1], w⟩ := by
  refine ⟨fun β' h' H' i x rl wk hi => ?_, fun β' h' H' x rl wk => ?_, fun β' h' H' i v H2 x rl wk hi y => ?_⟩
  · obtain ⟨vs, q, rs⟩ := s.at_ β' h' H' x rl wk
    have hi' : i < vs.length := by rw [← rs.length]; simpa using hi
    exact ⟨vs, vs[i], q, List.getElem?_eq_getElem hi'⟩
  · obtain ⟨vs, q, rs⟩ := s.at_ β' h' H' x rl wk
    exact ⟨vs, q, by rw [← rs.length]; simp⟩
  · obtain ⟨vs, q, rs⟩ := s.at_ β' h' H' x rl wk
    obtain ⟨T, u, ev, hT, eH, y⟩ := y
    obtain ⟨d, e1, r1⟩ := rs.getV (y vs q)
    refine ⟨.tup [.int i, d], ?_, fresh_step rl hT eH ev ⟨_, _, rfl, rfl, Reps.one r1⟩ (by simp [SL])⟩
    simp [List.getElem?_map, List.getElem?_zipIdx, e1]
theorem walk_z2 {k1 k2 : SK} {p1 p2 : Addr} {xs ys : List D} {w1 w2 : List (Nat × List D)} (s1 : SeqOf K mg β H k1 p1 xs w1) (s2 : SeqOf K mg β H k2 p2 ys w2) (hw : ∀ h, watchOk (w1 ++ w2) h → watchOk w1 h ∧ watchOk w2 h) :
    WalkD K mg β H (ItZ2 K k1 k2 p1 p2) ⟨(xs.zip ys).map fun q => .tup [q.1, q.2], w1 ++ w2⟩ := by
  refine ⟨fun β' h' H' i x rl wk hi => ?_, fun β' h' H' x rl wk => ?_, fun β' h' H' i v H2 x rl wk hi y => ?_⟩
  · obtain ⟨vs, q, rs⟩ := s1.at_ β' h' H' x rl (hw _ wk).1
    obtain ⟨us, q2, rs2⟩ := s2.at_ β' h' H' x rl (hw _ wk).2
    have hi' : i < min xs.length ys.length := by simpa using hi
    have h1 : i < vs.length := by rw [← rs.length]; omega
    have h2 : i < us.length := by rw [← rs2.length]; omega
    exact ⟨vs, us, vs[i], us[i], q, q2, List.getElem?_eq_getElem h1, List.getElem?_eq_getElem h2⟩
  · obtain ⟨vs, q, rs⟩ := s1.at_ β' h' H' x rl (hw _ wk).1
    obtain ⟨us, q2, rs2⟩ := s2.at_ β' h' H' x rl (hw _ wk).2
    exact ⟨vs, us, q, q2, by rw [← rs.length, ← rs2.length]; simp; omega⟩
  · obtain ⟨vs, q, rs⟩ := s1.at_ β' h' H' x rl (hw _ wk).1
    obtain ⟨us, q2, rs2⟩ := s2.at_ β' h' H' x rl (hw _ wk).2
    obtain ⟨T, u1, u2, ev, hT, eH, y1, y2⟩ := y
    obtain ⟨d1, e1, r1⟩ := rs.getV (y1 vs q)
    obtain ⟨d2, e2, r2⟩ := rs2.getV (y2 us q2)
    refine ⟨.tup [d1, d2], ?_, fresh_step rl hT eH ev ⟨_, _, rfl, r1, Reps.one r2⟩ (by simp [SL])⟩
    rw [List.getElem?_map, show (xs.zip ys)[i]? = some (d1, d2) from List.getElem?_zip_eq_some.mpr ⟨e1, e2⟩]
    rfl
theorem walk_z3 {k1 k2 k3 : SK} {p1 p2 p3 : Addr} {xs ys zs : List D} {w1 w2 w3 : List (Nat × List D)} (s1 : SeqOf K mg β H k1 p1 xs w1) (s2 : SeqOf K mg β H k2 p2 ys w2) (s3 : SeqOf K mg β H k3 p3 zs w3)
    (hw : ∀ h, watchOk (w1 ++ (w2 ++ w3)) h → watchOk w1 h ∧ watchOk w2 h ∧ watchOk w3 h) :
    WalkD K mg β H (ItZ3 K k1 k2 k3 p1 p2 p3) ⟨(xs.zip (ys.zip zs)).map fun q => .tup [q.1, q.2.1, q.2.2], w1 ++ (w2 ++ w3)⟩ := by
  refine ⟨fun β' h' H' i x rl wk hi => ?_, fun β' h' H' x rl wk => ?_, fun β' h' H' i v H2 x rl wk hi y => ?_⟩
  · obtain ⟨vs, q, rs⟩ := s1.at_ β' h' H' x rl (hw _ wk).1
    obtain ⟨us, q2, rs2⟩ := s2.at_ β' h' H' x rl (hw _ wk).2.1
    obtain ⟨ts, q3, rs3⟩ := s3.at_ β' h' H' x rl (hw _ wk).2.2
    have hi' : i < min xs.length (min ys.length zs.length) := by simpa using hi
    have h1 : i < vs.length := by rw [← rs.length]; omega
    have h2 : i < us.length := by rw [← rs2.length]; omega
    have h3 : i < ts.length := by rw [← rs3.length]; omega
    exact ⟨vs, us, ts, vs[i], us[i], ts[i], q, q2, q3, List.getElem?_eq_getElem h1, List.getElem?_eq_getElem h2, List.getElem?_eq_getElem h3⟩
  · obtain ⟨vs, q, rs⟩ := s1.at_ β' h' H' x rl (hw _ wk).1
    obtain ⟨us, q2, rs2⟩ := s2.at_ β' h' H' x rl (hw _ wk).2.1
    obtain ⟨ts, q3, rs3⟩ := s3.at_ β' h' H' x rl (hw _ wk).2.2
    exact ⟨vs, us, ts, q, q2, q3, by rw [← rs.length, ← rs2.length, ← rs3.length]; simp; omega⟩
  · obtain ⟨vs, q, rs⟩ := s1.at_ β' h' H' x rl (hw _ wk).1
    obtain ⟨us, q2, rs2⟩ := s2.at_ β' h' H' x rl (hw _ wk).2.1
    obtain ⟨ts, q3, rs3⟩ := s3.at_ β' h' H' x rl (hw _ wk).2.2
    obtain ⟨T, u1, u2, u3, ev, hT, eH, y1, y2, y3⟩ := y
    obtain ⟨d1, e1, r1⟩ := rs.getV (y1 vs q)
    obtain ⟨d2, e2, r2⟩ := rs2.getV (y2 us q2)
    obtain ⟨d3, e3, r3⟩ := rs3.getV (y3 ts q3)
    refine ⟨.tup [d1, d2, d3], ?_, fresh_step rl hT eH ev ⟨_, _, rfl, r1, _, _, rfl, r2, Reps.one r3⟩ (by simp [SL])⟩
    rw [List.getElem?_map, show (xs.zip (ys.zip zs))[i]? = some (d1, (d2, d3)) from List.getElem?_zip_eq_some.mpr ⟨e1, List.getElem?_zip_eq_some.mpr ⟨e2, e3⟩⟩]
    rfl
theorem watch_app : ∀ {w1 w2 : List (Nat × List D)} {h : AH}, watchOk (w1 ++ w2) h → watchOk w1 h ∧ watchOk w2 h
  | [], _, _, q => ⟨trivial, q⟩
  | (_, _) :: _, _, _, q => ⟨⟨q.1, (watch_app q.2).1⟩, (watch_app q.2).2⟩
end

/-! ### what iterates -/
def itSeq (f : Ev) : Iv := fun env h => (f env h).bind fun d h1 => match rdS h1 d with
  | some xs => .ok ⟨xs, wOf h1 d⟩ h1
  | none => .bad
def itEnum (f : Ev) : Iv := fun env h => (f env h).bind fun d h1 => match rdS h1 d with
  | some xs => .ok ⟨(xs.zipIdx).map fun q => .tup [.int q.2, q.1], wOf h1 d⟩ h1
  | none => .bad
def itZip2 (fs : Av) : Iv := fun env h => (fs env h).bind fun ds h1 => match ds with
  | [a, b] => (match rdS h1 a, rdS h1 b with
    | some xs, some ys => .ok ⟨(xs.zip ys).map fun q => .tup [q.1, q.2], wOf h1 a ++ wOf h1 b⟩ h1
    | _, _ => .bad)
  | _ => .bad
def itZip3 (fs : Av) : Iv := fun env h => (fs env h).bind fun ds h1 => match ds with
  | [a, b, c] => (match rdS h1 a, rdS h1 b, rdS h1 c with
    | some xs, some ys, some zs => .ok ⟨(xs.zip (ys.zip zs)).map fun q => .tup [q.1, q.2.1, q.2.2], wOf h1 a ++ (wOf h1 b ++ wOf h1 c)⟩ h1
    | _, _, _ => .bad)
  | _ => .bad
def RgOk2 (i j : Int) : Prop := -(2 ^ 62) ≤ i ∧ i < 2 ^ 62 ∧ -(2 ^ 62) ≤ j ∧ j < 2 ^ 62
open Classical in
noncomputable def itRange1 (fs : Av) : Iv := fun env h => (fs env h).bind fun ds h1 => match ds with
  | [.int j] => if RgOk2 0 j then .ok ⟨(List.range j.toNat).map fun k => .int ((0 : Int) + (k : Nat)), []⟩ h1 else .bad
  | _ => .bad
open Classical in
noncomputable def itRange2 (fs : Av) : Iv := fun env h => (fs env h).bind fun ds h1 => match ds with
  | [.int i, .int j] => if RgOk2 i j then .ok ⟨(List.range (j - i).toNat).map fun k => .int (i + (k : Nat)), []⟩ h1 else .bad
  | _ => .bad
section
variable {X : Cx} {E : XK} {pos : Pos} {tg : Expr}
def iAny (K : PySem.W.Frag) (tl : TE) : TI := fun σ H R => tl σ H fun x H1 => ∃ a, x = .ref a ∧ ((∃ xs, SqL K H1 a xs) ∧ R (Itl K a) H1 ∨ (∃ xs, SqT K H1 a xs) ∧ R (Itt K a) H1)
theorem pi_any {l : Expr} {tl : TE} (hl : PE X l tl) : PI X tg l (iAny X.K tl) := by
  refine ⟨fun pins s σ H R I h => ?_⟩
  refine thn (hl.run pins s σ H _ I h) fun v s1 ⟨x, H1, I1, r1, q1⟩ => ?_
  obtain ⟨a, e, q1⟩ := q1
  subst e
  cases r1
  have fr : ∀ b ∈ [s1.heap.objs.size], FpOk X pins H1 b := fun b hb => by
    have e : b = s1.heap.objs.size := by simpa using hb
    subst e
    exact I1.fpOk (Nat.le_refl _) (I1.hok.fresh (Nat.le_refl _))
  rcases q1 with ⟨⟨xs, hq⟩, q⟩ | ⟨⟨xs, hq⟩, q⟩
  · obtain ⟨its, rv, p, hz⟩ := I1.list hq
    refine wpAny_pyIter_list p.isList ?_
    exact ⟨s1.heap.objs.size, [s1.heap.objs.size], _, _, H1, rfl, I1.kept (t' := s1.toks) fun b o e => Heap.get?_push_of_some _ e, turn_list a _, ⟨_, Heap.get?_push_size _ rfl, rfl, rfl⟩, fr, q⟩
  · obtain ⟨its, rv, p, hz⟩ := I1.tuple hq
    refine wpAny_pyIter_tuple (show s1.heap.IsTuple a its.toArray from p) ?_
    exact ⟨s1.heap.objs.size, [s1.heap.objs.size], _, _, H1, rfl, I1.kept (t' := s1.toks) fun b o e => Heap.get?_push_of_some _ e, turn_tuple a _, ⟨_, Heap.get?_push_size _ rfl, rfl, rfl⟩, fr, q⟩
theorem it_seq {e : Expr} {f : Ev} (h : Ex X E e f) : Ix X E tg e (itSeq f) :=
  pi_imp (pi_any h) fun σ H R ⟨β, env, h, rl, re, o⟩ => ⟨β, env, h, rl, re, (OutG.bind o).mono fun d β1 h1 H1 x1 rl1 o1 v r => by
    cases e : rdS h1 d with
    | none => simp only [e] at o1; exact o1.elim
    | some xs =>
      simp only [e] at o1
      obtain ⟨k, p, rfl, ⟨vs, q⟩, s⟩ := seq_of rl1 r e
      have w := walk_seq s
      cases k with
      | l => exact ⟨p, rfl, .inl ⟨⟨vs, q⟩, o1.ok rl1 _ w⟩⟩
      | t => exact ⟨p, rfl, .inr ⟨⟨vs, q⟩, o1.ok rl1 _ w⟩⟩⟩
theorem it_enum {e : Expr} {f : Ev} {p tpos : Pos} {elts : List Expr} {kk : Nat} (h : Ex X E e f) (hm : X.mg "enumerate" = none) (hg : Gl X "enumerate" := by rfl) (hs : starEach [e] X.env = [(false, eval e X.env)] := by rfl) :
    Ix X E (.Tuple elts kk tpos) (.Call (.Name "enumerate" p) [e] [] pos) (itEnum f) :=
  pi_imp (pi_e hg hm (ar_cons h ar_nil (by rw [hs]; rfl)) hs) fun σ H R ⟨β, env, h, rl, re, o⟩ => ⟨β, env, h, rl, re, by
    cases q : f env h with
    | bad => unfold itEnum at o; rw [q] at o; exact o.elim
    | err e h1 => unfold itEnum at o; unfold mCons; rw [q] at o ⊢; exact o
    | ok d h1 =>
      have o' : OutG X.K X.mg E β H (match rdS h1 d with
        | some xs => Rm.R.ok (⟨(xs.zipIdx).map fun q => .tup [.int q.2, q.1], wOf h1 d⟩ : ItD) h1
        | none => .bad) (fun it β' _ H' => ∀ J, WalkD X.K X.mg β' H' J it → R J H') := by unfold itEnum at o; rw [q] at o; exact o
      unfold mCons mNil
      rw [q]
      intro β1 H1 x1 rl1 vs rs
      obtain ⟨v, rfl, r⟩ := reps1 rs
      cases e1 : rdS h1 d with
      | none => simp only [e1] at o'; exact o'.elim
      | some xs =>
        simp only [e1] at o'
        obtain ⟨k, p, rfl, ⟨us, qq⟩, s⟩ := seq_of rl1 r e1
        exact ⟨k, p, us, rfl, qq, OutG.okx o' x1 rl1 _ (walk_enumD s)⟩⟩
theorem it_zip2 {a b : Expr} {fs : Av} {p tpos : Pos} {elts : List Expr} {kk : Nat} (h : Ax X E [a, b] fs) (hm : X.mg "zip" = none) (hg : Gl X "zip" := by rfl)
    (hs : starEach [a, b] X.env = (false, eval a X.env) :: starEach [b] X.env := by rfl) (hpl : (backTo pos (starEach [b] X.env)).any (·.1) = false := by rfl) :
    Ix X E (.Tuple elts kk tpos) (.Call (.Name "zip" p) [a, b] [] pos) (itZip2 fs) :=
  pi_imp (pi_z2 hg hm h hs hpl) fun σ H R ⟨β, env, h, rl, re, o⟩ => ⟨β, env, h, rl, re, (OutG.bind o).mono fun ds β1 h1 H1 x1 rl1 o1 vs rs => by
    match ds, rs, o1 with
    | [d1, d2], rs, o1 =>
      obtain ⟨v1, v2, rfl, r1, r2⟩ := reps2 rs
      cases e1 : rdS h1 d1 with
      | none => simp only [e1] at o1; exact o1.elim
      | some xs =>
        cases e2 : rdS h1 d2 with
        | none => simp only [e1, e2] at o1; exact o1.elim
        | some ys =>
          simp only [e1, e2] at o1
          obtain ⟨k1, p1, rfl, ⟨u1, q1⟩, s1⟩ := seq_of rl1 r1 e1
          obtain ⟨k2, p2, rfl, ⟨u2, q2⟩, s2⟩ := seq_of rl1 r2 e2
          exact ⟨p1, p2, k1, k2, u1, u2, rfl, q1, q2, o1.ok rl1 _ (walk_z2 s1 s2 fun _ => watch_app)⟩
    | [], _, o1 => exact o1.elim
    | [_], _, o1 => exact o1.elim
    | _ :: _ :: _ :: _, _, o1 => exact o1.elim⟩
theorem it_zip3 {a b c : Expr} {fs : Av} {p tpos : Pos} {elts : List Expr} {kk : Nat} (h : Ax X E [a, b, c] fs) (hm : X.mg "zip" = none) (hg : Gl X "zip" := by rfl)
    (hs : starEach [a, b, c] X.env = (false, eval a X.env) :: starEach [b, c] X.env := by rfl) (hpl : (backTo pos (starEach [b, c] X.env)).any (·.1) = false := by rfl) :
    Ix X E (.Tuple elts kk tpos) (.Call (.Name "zip" p) [a, b, c] [] pos) (itZip3 fs) :=
  pi_imp (pi_z3 hg hm h hs hpl) fun σ H R ⟨β, env, h, rl, re, o⟩ => ⟨β, env, h, rl, re, (OutG.bind o).mono fun ds β1 h1 H1 x1 rl1 o1 vs rs => by
    match ds, rs, o1 with
    | [d1, d2, d3], rs, o1 =>
      obtain ⟨v1, r, rfl, r1, r'⟩ := rs
      obtain ⟨v2, v3, rfl, r2, r3⟩ := reps2 r'
      cases e1 : rdS h1 d1 with
      | none => simp only [e1] at o1; exact o1.elim
      | some xs =>
        cases e2 : rdS h1 d2 with
        | none => simp only [e1, e2] at o1; exact o1.elim
        | some ys =>
          cases e3 : rdS h1 d3 with
          | none => simp only [e1, e2, e3] at o1; exact o1.elim
          | some zs =>
            simp only [e1, e2, e3] at o1
            obtain ⟨k1, p1, rfl, ⟨u1, q1⟩, s1⟩ := seq_of rl1 r1 e1
            obtain ⟨k2, p2, rfl, ⟨u2, q2⟩, s2⟩ := seq_of rl1 r2 e2
            obtain ⟨k3, p3, rfl, ⟨u3, q3⟩, s3⟩ := seq_of rl1 r3 e3
            exact ⟨p1, p2, p3, k1, k2, k3, u1, u2, u3, rfl, q1, q2, q3, o1.ok rl1 _ (walk_z3 s1 s2 s3 fun _ w => ⟨(watch_app w).1, watch_app (watch_app w).2⟩)⟩
    | [], _, o1 => exact o1.elim
    | [_], _, o1 => exact o1.elim
    | [_, _], _, o1 => exact o1.elim
    | _ :: _ :: _ :: _ :: _, _, o1 => exact o1.elim⟩
theorem it_range1 {a : Expr} {fs : Av} {p : Pos} (h : Ax X E [a] fs) (hm : X.mg "range" = none) (hg : Gl X "range" := by rfl) (hs : starEach [a] X.env = [(false, eval a X.env)] := by rfl) : Ix X E tg (.Call (.Name "range" p) [a] [] pos) (itRange1 fs) :=
  pi_imp (pi_range1 hg hm h hs) fun σ H R ⟨β, env, h, rl, re, o⟩ => ⟨β, env, h, rl, re, (OutG.bind o).mono fun ds β1 h1 H1 x1 rl1 o1 vs rs => by
    match ds, rs, o1 with
    | [d], rs, o1 =>
      obtain ⟨v, rfl, r⟩ := reps1 rs
      cases d with
      | int j =>
        cases r
        by_cases hj : RgOk2 0 j
        · simp only [hj, if_true] at o1
          refine ⟨j, rfl, hj.2.2.1, hj.2.2.2, o1.ok rl1 _ ?_⟩
          exact walk_rng
        · simp only [hj, if_false] at o1; exact o1.elim
      | _ => exact o1.elim
    | [], _, o1 => exact o1.elim
    | d :: _ :: _, _, o1 => exact (by cases d <;> exact o1.elim)⟩
theorem it_range2 {a b : Expr} {fs : Av} {p : Pos} (h : Ax X E [a, b] fs) (hm : X.mg "range" = none) (hg : Gl X "range" := by rfl) (hs : starEach [a, b] X.env = [(false, eval a X.env), (false, eval b X.env)] := by rfl) (hs2 : starEach [b] X.env = [(false, eval b X.env)] := by rfl) : Ix X E tg (.Call (.Name "range" p) [a, b] [] pos) (itRange2 fs) :=
  pi_imp (pi_range2 hg hm h hs hs2) fun σ H R ⟨β, env, h, rl, re, o⟩ => ⟨β, env, h, rl, re, (OutG.bind o).mono fun ds β1 h1 H1 x1 rl1 o1 vs rs => by
    match ds, rs, o1 with
    | [d, e], rs, o1 =>
      obtain ⟨v, u, rfl, r1, r2⟩ := reps2 rs
      cases d <;> try exact o1.elim
      cases e <;> try exact o1.elim
      rename_i i j
      cases r1; cases r2
      by_cases hj : RgOk2 i j
      · simp only [hj, if_true] at o1
        refine ⟨i, j, rfl, hj, o1.ok rl1 _ ?_⟩
        exact walk_rng
      · simp only [hj, if_false] at o1; exact o1.elim
    | [], _, o1 => exact o1.elim
    | [d], _, o1 => exact (by cases d <;> exact o1.elim)
    | d :: e :: _ :: _, _, o1 => exact (by cases d <;> cases e <;> exact o1.elim)⟩

/-! ### for -/
def wipeE (env : En) : List Nat → En
  | [] => env
  | i :: r => wipeE (env.set i none) r
theorem RelE.wipe {K : PySem.W.Frag} {β : Bt} {H : Hp} {σ : St} : ∀ {is : List Nat} {env : En}, RelE K β H env σ → RelE K β H (wipeE env is) σ
  | [], _, r => r
  | i :: is, env, r => by
    refine RelE.wipe (is := is) ⟨by simp [r.len], fun j d e => ?_⟩
    by_cases hj : j = i
    · subst hj
      have hl : j < env.length := by
        have := (List.getElem?_eq_some_iff.mp e).1
        simpa using this
      rw [List.getElem?_set_self hl] at e; cases e
    · rw [List.getElem?_set_ne (Ne.symm hj)] at e
      exact r.at_ j d e
open Classical in
noncomputable def forL (w : List (Nat × List D)) (g : Gv) (b : Sv) (W : List Nat) : List D → En → AH → R Fl
  | [], env, h => if watchOk w h then .ok (.nx env) h else .bad
  | d :: ds, env, h => if watchOk w h then (g d env h).bind fun e1 h1 => (b e1 h1).bind fun fl h2 => match fl with
    | .nx e2 => forL w g b W ds (wipeE e2 W) h2
    | .ct e2 => forL w g b W ds (wipeE e2 W) h2
    | .bk e2 => .ok (.nx e2) h2
    | .rt d => .ok (.rt d) h2 else .bad
noncomputable def sFor (f : Iv) (g : Gv) (b : Sv) (W : List Nat) : Sv := fun env h => (f env h).bind fun it h1 => forL it.watch g b W it.items (wipeE env W) h1
theorem s_for {iter : Expr} {body : List Stmt} {f : Iv} {g : Gv} {b : Sv} (W : List Nat) (hp : PassesOwn (model X.prog X.w) X.A X.env X.xe) (hc : X.calm = true) (hi : Ix X E tg iter f) (hg : Gx X E tg g) (hb : Bx X E body b)
    (hs : ∀ x, foldedSetIterable iter X.env x = pure x := by intro _; rfl) : Sx X E (.For tg iter body [] pos) (sFor f g b W) := by
  refine ps_imp (ps_for hp hc hi hg hb hs) fun Dn σ H ⟨β, env, h, rl, re, o⟩ => ⟨β, env, h, rl, re, (OutG.bind o).mono fun it β1 h1 H1 x1 rl1 o1 J wd => ?_⟩
  -- what holds at each turn
  let Good : Hp → Prop := fun H' => ∃ β' h', Ext β1 H1 β' H' ∧ Rl X.K X.mg β' h' H' ∧ watchOk it.watch h'
  let Pv : Nat → St → Hp → Prop := fun i σ' H' => ∃ β' env' h', Ext β1 H1 β' H' ∧ Rl X.K X.mg β' h' H' ∧ RelE X.K β' H' env' σ' ∧ OutG X.K X.mg E β' H' (forL it.watch g b W (it.items.drop i) env' h') (PF X.K Dn)
  have wk : ∀ {i β' env' h' H'} {P : Fl → Bt → AH → Hp → Prop}, OutG X.K X.mg E β' H' (forL it.watch g b W (it.items.drop i) env' h') P → watchOk it.watch h' := fun {i β' env' h' H' P} oo => by
    by_cases q : watchOk it.watch h'
    · exact q
    · cases e : it.items.drop i with
      | nil => rw [e] at oo; simp only [forL, q, if_false] at oo; exact oo.elim
      | cons d ds => rw [e] at oo; simp only [forL, q, if_false] at oo; exact oo.elim
  have walk : Walk J it.items.length Good (fun i H' x H2 => ∀ β' h', Ext β1 H1 β' H' → Rl X.K X.mg β' h' H' → watchOk it.watch h' → ∃ d, it.items[i]? = some d ∧ Ext β' H' β' H2 ∧ Rl X.K X.mg β' h' H2 ∧ Rep X.K β' H2 d x) :=
    ⟨fun i H' hi ⟨β', h', a, c, d⟩ => wd.goes β' h' H' i a c d hi, fun H' ⟨β', h', a, c, d⟩ => wd.stops β' h' H' a c d, fun i H' x H2 hi _ y β' h' a c d => by
      obtain ⟨d, e1, e2, e3, e4, _⟩ := wd.yields β' h' H' i x H2 a c d hi y
      exact ⟨d, e1, e2, e3, e4⟩⟩
  refine for_it walk Pv ⟨β1, _, h1, Ext.refl, rl1, (re.ext x1).wipe, by rw [List.drop_zero]; exact o1⟩ (fun i σ' H' _ ⟨β', env', h', a, c, _, oo⟩ => ⟨β', h', a, c, wk oo⟩) (fun i x σ' H' H2 hi ⟨β', env', h', a, c, re', oo⟩ y => ?_) fun σ' H' ⟨β', env', h', a, c, re', oo⟩ => ?_
  · have q := wk oo
    obtain ⟨d, e1, x2, rl2, rd⟩ := y β' h' a c q
    have e2 : it.items.drop i = d :: it.items.drop (i + 1) := by
      have hi2 : it.items[i] = d := by
        rw [List.getElem?_eq_getElem hi] at e1; exact Option.some.inj e1
      rw [List.drop_eq_getElem_cons hi, hi2]
    rw [e2] at oo
    simp only [forL, q, if_true] at oo
    refine ⟨β', env', h', d, rl2, re'.ext x2, rd, (OutG.bind (OutG.weak x2 oo)).mono fun env2 β3 h3 H3 x3 rl3 o3 σ3 re3 => ⟨β3, env2, h3, rl3, re3, (OutG.bind o3).mono fun fl β4 h4 H4 x4 rl4 o4 => ?_⟩⟩
    have xx := ((a.trans x2).trans x3).trans x4
    cases fl with
    | nx e => exact fun σ4 re4 => ⟨β4, _, h4, xx, rl4, re4.wipe, o4⟩
    | ct e => exact fun σ4 re4 => ⟨β4, _, h4, xx, rl4, re4.wipe, o4⟩
    | bk e => exact o4.ok rl4
    | rt e => exact o4.ok rl4
  · have q := wk oo
    rw [List.drop_length] at oo
    simp only [forL, q, if_true] at oo
    exact oo.ok c σ' re'
end
end Rm

namespace Rm
open PySem PySem.Spec PyProof.Rows L2

/-! ### targets whose slots are known -/
def TGc (K : PySem.W.Frag) (mg : Str → Option Value) (E : XK) (is : List Nat) (g : Gv) : TG := fun v σ H Q => ∃ β env h d, Rl K mg β h H ∧ RelE K β H env σ ∧ Rep K β H d v ∧
  OutG K mg E β H (g d env h) fun env' β' _ H' => ∀ σ', RelE K β' H' env' σ' → σ'.length = σ.length → (∀ i, i ∉ is → σ'[i]? = σ[i]?) → Q σ' H'
def Gc (X : Cx) (E : XK) (is : List Nat) (tg : Expr) (g : Gv) : Prop := PG X tg (TGc X.K X.mg E is g)
def TGcs (K : PySem.W.Frag) (mg : Str → Option Value) (E : XK) (is : List Nat) (g : Gvs) : L2.TGs := fun vs σ H Q => ∃ β env h ds, Rl K mg β h H ∧ RelE K β H env σ ∧ Reps K β H ds vs ∧
  OutG K mg E β H (g ds env h) fun env' β' _ H' => ∀ σ', RelE K β' H' env' σ' → σ'.length = σ.length → (∀ i, i ∉ is → σ'[i]? = σ[i]?) → Q σ' H'
def Gcs (X : Cx) (E : XK) (is : List Nat) (ts : List Expr) (g : Gvs) : Prop := PGs X ts (TGcs X.K X.mg E is g)
section
variable {X : Cx} {E : XK} {pos : Pos}
theorem c_nm (i : Nat) {x : Str} (hN : X.N.Nodup) (hi : X.N[i]? = some x := by rfl) (hx : Loc X.env.scope x := by first | exact Or.inl rfl | exact Or.inr rfl) (hf : X.fn x = true ∨ X.env.scope.names.lookup x = some .local := by first | exact .inl rfl | exact .inr rfl) : Gc X E [i] (.Name x pos) (gNm i) :=
  pg_imp (pg_name hN hi hx hf) fun v σ H Q ⟨β, env, h, d, rl, re, rd, o⟩ => OutG.ok (a := env.set i (some d)) o rl _ (re.set i rd) (by simp) fun j hj => List.getElem?_set_ne (fun z => hj (by rw [z]; exact List.mem_cons_self))
theorem cs_nil {is : List Nat} : Gcs X E is [] gsNil := pgs_imp pgs_nil fun vs σ H Q ⟨β, env, h, ds, rl, re, rs, o⟩ => by
  cases ds with
  | nil => cases rs; exact ⟨rfl, OutG.ok (a := env) o rl _ re rfl fun _ _ => rfl⟩
  | cons _ _ => exact o.elim
theorem cs_cons {e : Expr} {es : List Expr} {g : Gv} {r : Gvs} {is js : List Nat} (h1 : Gc X E is e g) (h2 : Gcs X E js es r) (hs : (assignEach (e :: es) X.env).map (·.2) = assign e X.env :: (assignEach es X.env).map (·.2) := by rfl) : Gcs X E (is ++ js) (e :: es) (gsCons g r) :=
  pgs_imp (pgs_cons h1 h2 hs) fun vs σ H Q ⟨β, env, h, ds, rl, re, rs, o⟩ => by
    cases ds with
    | nil => exact o.elim
    | cons d ds =>
      obtain ⟨v, us, rfl, r1, r2⟩ := rs
      refine ⟨v, us, rfl, β, env, h, d, rl, re, r1, (OutG.bind o).mono fun env1 β1 h1 H1 x1 rl1 o1 σ1 re1 l1 k1 => ⟨β1, env1, h1, ds, rl1, re1, Reps.ext x1 _ _ r2, o1.mono fun env2 β2 h2 H2 x2 rl2 q σ2 re2 l2 k2 => q σ2 re2 (l2.trans l1) fun i hi => ?_⟩⟩
      rw [List.mem_append, not_or] at hi
      rw [k2 i hi.2, k1 i hi.1]
theorem c_tp {es : List Expr} {k n : Nat} {g : Gvs} {is : List Nat} (hc : X.calm = true) (h : Gcs X E is es g) (hn : (assignEach es X.env).length = n := by rfl) (hst : (assignEach es X.env).findIdx? (·.1) = none := by rfl) : Gc X E is (.Tuple es k pos) (gTp n g) :=
  pg_imp (pg_tup hc h hn hst) fun v σ H Q ⟨β, env, h, d, rl, re, rd, o⟩ => by
    cases d with
    | tup ds =>
      by_cases hl : ds.length = n
      · simp only [gTp, hl, if_true] at o
        obtain ⟨_, p, us, rfl, t, rs⟩ := rd
        exact ⟨p, us, rfl, t.sq, by rw [← rs.length]; exact hl, β, env, h, ds, rl, re, rs, o⟩
      · simp only [gTp, hl, if_false] at o; exact o.elim
    | _ => exact o.elim

/-! ### errors are not foreseen -/
def noE : XK := fun _ _ _ => False
def nE {α : Type} : R α → R α
  | .ok a h => .ok a h
  | _ => .bad
theorem OutG.ne {K : PySem.W.Frag} {mg : Str → Option Value} {β : Bt} {H : Hp} {α : Type} {r : R α} {P : α → Bt → AH → Hp → Prop} (o : OutG K mg E β H (nE r) P) : OutG K mg noE β H r P := by
  cases r with
  | ok a h => exact o
  | err e h => exact o.elim
  | bad => exact o.elim
theorem OutG.bind0 {K : PySem.W.Frag} {mg : Str → Option Value} {β : Bt} {H : Hp} {α γ : Type} {r : R α} {k : α → AH → R γ} {P : γ → Bt → AH → Hp → Prop} (o : OutG K mg E β H (r.bind k) P) : OutG K mg E β H r fun a β' h' H' => OutG K mg E β H (k a h') P := by
  cases r with
  | ok a h' => exact fun β' H' y _ => o
  | err e h' => exact o
  | bad => exact o
theorem passes_no {X : Cx} : Passes (L2N.CX X.prog X.w) X noE := fun pins σ H s e s' I c => by
  obtain ⟨a, B, H', cls, d, rfl, fl, hok, ub, na, os, ag, hE⟩ := c
  exact hE.elim

/-! ### tests of a clause -/
def Tsx (X : Cx) (E : XK) (ifs : List Expr) (c : Tv) : Prop := PTs X ifs (L2.TT.out (TT X.K X.mg E c))
where L2.TT.out (t : L2.TT) : L2.TT := t
def cYes : Tv := fun _ h => .ok true h
theorem ts_nil : Tsx X E [] cYes := ⟨fun pins s σ H Q I q => pts_nil.run pins s σ H Q I (by
  obtain ⟨β, env, h, rl, re, o⟩ := q
  exact OutG.ok (a := true) o rl)⟩
theorem ts_one {c : Expr} {f : Tv} (h : Tx X E c f) : Tsx X E [c] f := pts_one h

/-! ### a comprehension -/
open Classical in
noncomputable def lcL (w : List (Nat × List D)) (g : Gv) (c : Tv) (e : Ev) (env : En) : List D → AH → R (List D)
  | [], h => if watchOk w h then .ok [] h else .bad
  | d :: ds, h => if watchOk w h then (nE (g d env h)).bind fun e1 h1 => (nE (c e1 h1)).bind fun b h2 => if b = true then (nE (e e1 h2)).bind fun y h3 => (lcL w g c e env ds h3).bind fun ys h4 => .ok (y :: ys) h4 else lcL w g c e env ds h2 else .bad
noncomputable def mLcF (f : Iv) (g : Gv) (c : Tv) (e : Ev) (vs : List Nat) : Ev := fun env h => (f env h).bind fun it h1 => if it.items.length ≤ SL then (lcL it.watch g c e (wipeE env vs) it.items h1).bind fun ys h2 => .ok (.fl ys) h2 else .bad
noncomputable def mLcM (f : Iv) (g : Gv) (c : Tv) (e : Ev) (vs : List Nat) : Ev := fun env h => (f env h).bind fun it h1 => if it.items.length ≤ SL then (lcL it.watch g c e (wipeE env vs) it.items h1).bind fun ys h2 => .ok (.lst h2.length) (h2 ++ [.lst ys]) else .bad

theorem wipe_in {σ : St} {i : Nat} : ∀ {vs : List Nat}, i ∈ vs → (wipe σ vs)[i]? = if i < σ.length then some none else none
  | [], h => by cases h
  | v :: vs, h => by
    unfold wipe
    by_cases hv : v = i
    · subst hv
      by_cases hl : v < σ.length
      · rw [List.getElem?_set_self (by rw [wipe_length]; exact hl), if_pos hl]
      · rw [List.getElem?_eq_none (by rw [List.length_set, wipe_length]; omega), if_neg hl]
    · rw [List.getElem?_set_ne hv]
      exact wipe_in ((List.mem_cons.mp h).resolve_left fun e => hv e.symm)
theorem wipe_same {σ σ' : St} {vs is : List Nat} (hl : σ'.length = σ.length) (hi : ∀ i ∈ is, i ∈ vs) (k : ∀ i, i ∉ is → σ'[i]? = (wipe σ vs)[i]?) : wipe σ' vs = wipe σ vs := by
  apply List.ext_getElem?
  intro i
  by_cases h : i ∈ vs
  · rw [wipe_in h, wipe_in h, hl]
  · rw [wipe_out h, wipe_out h, k i fun z => h (hi i z), wipe_out h]
theorem RelE.wipeL {K : PySem.W.Frag} {β : Bt} {H : Hp} {env : En} {σ : St} {vs : List Nat} (r : RelE K β H env σ) : RelE K β H (wipeE env vs) (L2.wipe σ vs) := by
  have hlen : ∀ (is : List Nat) (env : En), (wipeE env is).length = env.length := by
    intro is
    induction is with
    | nil => intro env; rfl
    | cons i is ih => intro env; unfold wipeE; rw [ih]; simp
  have hget : ∀ (is : List Nat) (env : En) (i : Nat) (d : D), (wipeE env is)[i]? = some (some d) → env[i]? = some (some d) ∧ i ∉ is := by
    intro is
    induction is with
    | nil => intro env i d e; exact ⟨e, by simp⟩
    | cons j is ih =>
      intro env i d e
      unfold wipeE at e
      obtain ⟨e1, n⟩ := ih _ i d e
      by_cases hj : j = i
      · subst hj
        have hl : j < env.length := by have := (List.getElem?_eq_some_iff.mp e1).1; simpa using this
        rw [List.getElem?_set_self hl] at e1; cases e1
      · rw [List.getElem?_set_ne hj] at e1
        exact ⟨e1, by simp only [List.mem_cons, not_or]; exact ⟨fun z => hj z.symm, n⟩⟩
  refine ⟨by rw [hlen, wipe_length]; exact r.len, fun i d e => ?_⟩
  obtain ⟨e1, n⟩ := hget vs env i d e
  obtain ⟨v, e2, rv⟩ := r.at_ i d e1
  exact ⟨v, by rw [wipe_out n]; exact e2, rv⟩
theorem watch_of {K : PySem.W.Frag} {mg : Str → Option Value} {β : Bt} {H : Hp} {w : List (Nat × List D)} {g : Gv} {c : Tv} {e : Ev} {env : En} {ds : List D} {h : AH} {P : List D → Bt → AH → Hp → Prop} (o : OutG K mg E β H (lcL w g c e env ds h) P) : watchOk w h := by
  by_cases q : watchOk w h
  · exact q
  · cases ds with
    | nil => simp only [lcL, q, if_false] at o; exact o.elim
    | cons d ds => simp only [lcL, q, if_false] at o; exact o.elim
/-- the cell is taken into the table -/
theorem Ext.adopt {β β' : Bt} {H H' : Hp} {p : Addr} (x : Ext β H β' H') (hp : H p = none) : Ext β H ⟨β'.b ++ [some p], β'.hid⟩ H' where
  len := by simp; exact Nat.le_succ_of_le x.len
  old := fun i q hi e => by
    have hi2 := Nat.lt_of_lt_of_le hi x.len
    rw [List.getElem?_append_left hi2] at e; exact x.old i q hi e
  new := fun i q hi e => by
    rcases getElem?_snoc e with ⟨_, e⟩ | ⟨_, e⟩
    · exact x.new i q hi e
    · cases e; exact hp
  hsub := x.hsub
  hnew := x.hnew
  per := x.per
  dom := x.dom
end
theorem NotIn.adopt {β : Bt} {p D : Addr} {y : List Addr} (n : NotIn β p) (hD : D ∈ β.hid) (hy : ∀ q ∈ y, q ∈ β.hid) : NotIn ⟨β.b ++ [some D], y⟩ p := by
  refine ⟨fun i e => ?_, fun e => n.2 (hy p e)⟩
  rcases getElem?_snoc e with ⟨_, e⟩ | ⟨_, e⟩
  · exact n.1 i e
  · cases e; exact n.2 hD
section
variable {K : PySem.W.Frag} {mg : Str → Option Value} {β : Bt} {H : Hp} {h : AH} {y : List Addr} {D : Addr}
theorem ref_adopt {a : Nat} {v : V} (r : a < β.b.length ∧ ∀ p, β.b[a]? = some (some p) → v = .ref p) : a < (β.b ++ [some D]).length ∧ ∀ p, (β.b ++ [some D])[a]? = some (some p) → v = .ref p := by
  refine ⟨by simp; omega, fun p e => ?_⟩
  rw [List.getElem?_append_left r.1] at e
  exact r.2 p e
mutual
theorem Rep.adopt (hD : D ∈ β.hid) (hy : ∀ q ∈ y, q ∈ β.hid) : ∀ (d : Rm.D) (v : V), Rep K β H d v → Rep K ⟨β.b ++ [some D], y⟩ H d v
  | .non, _, r => r
  | .bl _, _, r => r
  | .int _, _, r => r
  | .str _, _, r => r
  | .tup xs, _, ⟨z, p, vs, e, t, r⟩ => ⟨z, p, vs, e, t.imp (fun t => ⟨t.1, t.2.adopt hD hy⟩) id, Reps.adopt hD hy xs vs r⟩
  | .fl xs, _, ⟨z, p, vs, e, t, r⟩ => ⟨z, p, vs, e, ⟨t.1, t.2.adopt hD hy⟩, Reps.adopt hD hy xs vs r⟩
  | .kl xs, _, ⟨z, p, vs, e, t, r⟩ => ⟨z, p, vs, e, t.imp (fun t => ⟨t.1, t.2.adopt hD hy⟩) id, Reps.adopt hD hy xs vs r⟩
  | .lst _, _, r => ref_adopt r
  | .ins _, _, r => ref_adopt r
  | .adr _, _, r => r
theorem Reps.adopt (hD : D ∈ β.hid) (hy : ∀ q ∈ y, q ∈ β.hid) : ∀ (ds : List Rm.D) (vs : List V), Reps K β H ds vs → Reps K ⟨β.b ++ [some D], y⟩ H ds vs
  | [], _, r => r
  | d :: ds, _, ⟨v, r, e, r1, r2⟩ => ⟨v, r, e, Rep.adopt hD hy d v r1, Reps.adopt hD hy ds r r2⟩
end
theorem Flds.adopt (hD : D ∈ β.hid) (hy : ∀ q ∈ y, q ∈ β.hid) : ∀ {fs : List (Str × Rm.D)} {gs : List (Str × V)}, Flds K β H fs gs → Flds K ⟨β.b ++ [some D], y⟩ H fs gs
  | [], _, r => r
  | (_, _) :: _, _, ⟨v, r, e, r1, r2⟩ => ⟨v, r, e, r1.adopt hD hy, Flds.adopt hD hy r2⟩
theorem Rl.adopt (rl : Rl K mg β h H) {vs : List V} {xs : List Rm.D} (hD : D ∈ β.hid) (hy : ∀ q ∈ y, q ∈ β.hid) (ny : D ∉ y) (hp : H D = some (.lst vs)) (hz : xs.length ≤ sizeLine) (r : Reps K β H xs vs) : Rl K mg ⟨β.b ++ [some D], y⟩ (h ++ [.lst xs]) H := by
  have off := (rl.hid D hD).2
  refine ⟨by simp [rl.len], fun i j q e1 e2 => ?_, fun i c e => ?_, fun q hq => ⟨(rl.hid q (hy q hq)).1, fun i e => ?_⟩, rl.tabs⟩
  · rcases getElem?_snoc e1 with ⟨l1, e1⟩ | ⟨l1, e1⟩ <;> rcases getElem?_snoc e2 with ⟨l2, e2⟩ | ⟨l2, e2⟩
    · exact rl.inj i j q e1 e2
    · cases e2; exact absurd e1 (off i)
    · cases e1; exact absurd e2 (off j)
    · omega
  · rcases getElem?_snoc e with ⟨l, e⟩ | ⟨l, e⟩
    · have q := rl.cell i c e
      have hb : ∀ o, β.b[i]? = some o → (β.b ++ [some D])[i]? = some o := fun o e1 => by
        rw [List.getElem?_append_left (List.getElem?_eq_some_iff.mp e1).1]; exact e1
      cases c with
      | dead => exact hb _ q
      | lst ys =>
        obtain ⟨z, q, us, e1, e2, r⟩ := q
        exact ⟨z, q, us, hb _ e1, e2, Reps.adopt hD hy _ _ r⟩
      | ins C fs =>
        obtain ⟨q, c, dx, gs, e1, e2, e3, r⟩ := q
        exact ⟨q, c, dx, gs, hb _ e1, e2, e3, r.adopt hD hy⟩
    · subst e; subst l
      exact ⟨hz, D, vs, by rw [← rl.len, List.getElem?_append_right (Nat.le_refl _)]; simp, hp, Reps.adopt hD hy _ _ r⟩
  · rcases getElem?_snoc e with ⟨_, e⟩ | ⟨_, e⟩
    · exact (rl.hid q (hy q hq)).2 i e
    · cases e; exact ny hq
end

/-- the walk of a comprehension, its end as one likes -/
theorem lc_walk {K : PySem.W.Frag} {mg : Str → Option Value} {E : XK} {f : Iv} {g : Gv} {c : Tv} {e : Ev} {own is : List Nat} {σ : St} {H : Hp} {Q : VK} {fin : List Rm.D → AH → R Rm.D}
    (hi : ∀ i ∈ is, i ∈ own)
    (hf : ∀ (β1 β' : Bt) (H1 H' : Hp) (h' : AH) (D : Addr) (xs : List Rm.D) (vs : List V), H1 D = none → (∀ p ∈ β1.hid, H1 p ≠ none) → Ext β1 H1 β' H' → Rl K mg β' h' H' → D ∈ β'.hid → H' D = some (.lst vs) → Reps K β' H' xs vs → xs.length ≤ SL →
      OutG K mg E β1 H1 (fin xs h') (PV K Q) → Q (.ref D) H')
    (q : TX K mg E (fun env h => (f env h).bind fun it h1 => if it.items.length ≤ SL then (lcL it.watch g c e (wipeE env own) it.items h1).bind fin else .bad) σ H Q) :
    tLc (TIt K mg E f) (TGc K mg noE is g) (TT K mg noE c) (TX K mg noE e) own σ H Q := by
  obtain ⟨β, env, h, rl, re, o⟩ := q
  refine ⟨β, env, h, rl, re, (OutG.bind o).mono fun it β1 h1 H1 x1 rl1 o1 J wd D hD => ?_⟩
  have hz : it.items.length ≤ SL := by
    by_cases z : it.items.length ≤ SL
    · exact z
    · rw [if_neg z] at o1; exact o1.elim
  rw [if_pos hz] at o1
  -- what holds ahead of turn i
  let W : Nat → Nat → Hp → Prop := fun i m H' => m = it.items.length - i ∧ i ≤ it.items.length ∧ ∃ β' h' xs vs, Ext β1 H1 β' H' ∧ D ∈ β'.hid ∧ Rl K mg β' h' H' ∧ RelE K β' H' (wipeE env own) (wipe σ own) ∧ H' D = some (.lst vs) ∧ Reps K β' H' xs vs ∧ xs.length ≤ i ∧
    OutG K mg E β1 H1 (lcL it.watch g c e (wipeE env own) (it.items.drop i) h') fun ys β2 h2 H2 => OutG K mg E β1 H1 (fin (xs ++ ys) h2) (PV K Q)
  refine ⟨W, ⟨it.items.length, by simp, Nat.zero_le _, ⟨β1.b, D :: β1.hid⟩, h1, [], [], Ext.hide hD, List.mem_cons_self, rl1.hide hD, ((re.ext x1).ext (Ext.hide hD)).wipeL, upd_same, rfl, Nat.le_refl _, ?_⟩, ?_⟩
  · rw [List.drop_zero]
    exact (OutG.bind0 o1).mono fun ys β2 h2 H2 x2 rl2 o2 => by simpa using o2
  · rintro i m H' ⟨rfl, hil, β', h', xs, vs, x', hDh, rl', re', hDv, rs, hxl, oo⟩
    have wk := watch_of oo
    have off := (rl'.hid D hDh).2
    rcases Nat.lt_or_ge i it.items.length with hlt | hge
    · refine .inr ⟨wd.goes β' h' H' i x' rl' wk hlt, W (i + 1) (it.items.length - (i + 1)), fun H2 w2 => ⟨_, by omega, w2⟩, fun x H2 y => ?_⟩
      obtain ⟨d, e1, x2, rl2, rd, _⟩ := wd.yields β' h' H' i x H2 x' rl' wk hlt y
      have e2 : it.items.drop i = d :: it.items.drop (i + 1) := by
        have hi2 : it.items[i] = d := by
          rw [List.getElem?_eq_getElem hlt] at e1; exact Option.some.inj e1
        rw [List.drop_eq_getElem_cons hlt, hi2]
      rw [e2] at oo
      simp only [lcL, wk, if_true] at oo
      have xa := x'.trans x2
      refine ⟨β', wipeE env own, h', d, rl2, re'.ext x2, rd, (OutG.bind0 oo).ne.weak xa |>.mono fun env1 β3 h3 H3 x3 rl3 o3 σ3 re3 l3 k3 => ⟨wipe_same (l3.trans (wipe_length _ _)) hi k3, β3, env1, h3, rl3, re3, ?_⟩⟩
      refine ((OutG.bind0 o3).ne.weak (xa.trans x3)).mono fun b β4 h4 H4 x4 rl4 o4 => ?_
      cases b with
      | false =>
        simp only [Bool.false_eq_true, if_false] at o4 ⊢
        have xb := (x2.trans x3).trans x4
        exact ⟨rfl, hlt, β4, h4, xs, vs, x'.trans xb, xb.hsub D hDh, rl4, re'.ext xb, xb.per D _ hDv off (fun _ z => nomatch z), Reps.ext xb _ _ rs, Nat.le_succ_of_le hxl, o4⟩
      | true =>
        simp only [if_true] at o4 ⊢
        refine ⟨β4, env1, h4, rl4, re3.ext x4, ((OutG.bind0 o4).ne.weak ((xa.trans x3).trans x4)).mono fun dy β5 h5 H5 x5 rl5 o5 v rv => ?_⟩
        have xb := ((x2.trans x3).trans x4).trans x5
        have h5D := xb.per D _ hDv off (fun _ z => nomatch z)
        have hv5 := xb.hsub D hDh
        refine ⟨vs, h5D, by rw [← rs.length, SL_eq]; omega, rfl, hlt, β5, h5, xs ++ [dy], vs ++ [v], (x'.trans xb).over hD, hv5, rl5.hidw hv5, (re'.ext xb).hidw hv5, upd_same, Reps.hidw hv5 _ _ ((Reps.ext xb _ _ rs).append (Reps.one rv)), by simp; exact hxl, ?_⟩
        refine (OutG.bind0 o5).mono fun ys β6 h6 H6 x6 rl6 o6 => ?_
        have := o6.okx x6 rl6
        simpa using this
    · have e : i = it.items.length := by omega
      subst e
      rw [List.drop_length] at oo
      simp only [lcL, wk, if_true] at oo
      refine .inl ⟨wd.stops β' h' H' x' rl' wk, ?_⟩
      have o2 := oo.okx x' rl'
      rw [List.append_nil] at o2
      exact hf β1 β' H1 H' h' D xs vs hD (fun p hp => rl1.hidN hp) x' rl' hDh hDv rs (Nat.le_trans hxl hz) o2

section
variable {X : Cx} {E : XK} {pos : Pos} {K : PySem.W.Frag} {mg : Str → Option Value} {f : Iv} {g : Gv} {c : Tv} {e : Ev} {own is : List Nat} {σ : St} {H : Hp} {Q : VK}
theorem lcF_imp (hi : ∀ i ∈ is, i ∈ own) (q : TX K mg E (mLcF f g c e own) σ H Q) : tLc (TIt K mg E f) (TGc K mg noE is g) (TT K mg noE c) (TX K mg noE e) own σ H Q :=
  lc_walk hi (fun β1 β' H1 H' h' D xs vs hD hh x rl hDh hDv rs hz o => by
    have nD : D ∉ β1.hid := fun z => hh D z hD
    have hs : ∀ q ∈ β1.hid, q ∈ β'.hid := x.hsub
    have rl2 : Rl K mg ⟨β'.b, β1.hid⟩ h' H' := Rl.unhide (β := ⟨β'.b, β1.hid⟩) (x := β'.hid) hs rl
    have rs2 : Reps K ⟨β'.b, β1.hid⟩ H' xs vs := Reps.unhide (β := ⟨β'.b, β1.hid⟩) (x := β'.hid) hs _ _ rs
    exact o.okx (x.unhide (y := [])) rl2 _ ⟨by rw [SL_eq]; exact hz, D, vs, rfl, ⟨hDv, (rl.hid D hDh).2, nD⟩, rs2⟩) q
theorem lcM_imp (hi : ∀ i ∈ is, i ∈ own) (q : TX K mg E (mLcM f g c e own) σ H Q) : tLc (TIt K mg E f) (TGc K mg noE is g) (TT K mg noE c) (TX K mg noE e) own σ H Q :=
  lc_walk hi (fun β1 β' H1 H' h' D xs vs hD hh x rl hDh hDv rs hz o => by
    have nD : D ∉ β1.hid := fun z => hh D z hD
    have hs : ∀ q ∈ β1.hid, q ∈ β'.hid := x.hsub
    have x3 : Ext β1 H1 ⟨β'.b ++ [some D], β1.hid⟩ H' := Ext.adopt (β' := ⟨β'.b, β1.hid⟩) (x.unhide (y := [])) hD
    have rl3 : Rl K mg ⟨β'.b ++ [some D], β1.hid⟩ (h' ++ [.lst xs]) H' := rl.adopt hDh hs nD hDv (by rw [SL_eq]; exact hz) rs
    refine o.okx x3 rl3 _ ?_
    rw [← rl.len]
    exact Rep.newLst (β := ⟨β'.b, β1.hid⟩)) q

variable {elt tg iter : Expr} {ifs : List Expr} {scope : Scope} {owns : List (Str × Nat)}
abbrev blkX (X : Cx) (scope : Scope) (s : Shared) (H : Hp) (C : Addr) (cl : List (Str × Addr)) (fp : List Addr) : Cx := X.blk s H scope (compEnvC scope cl C X.env) fp
theorem x_lcF (hc : X.calm = true) (hN : X.N.Nodup) (hi : Ix X E tg iter f) (ok : blkC X.N X.env.scope scope owns = true) (hg : ∀ s H C cl fp, Gc (blkX X scope s H C cl fp) noE is tg g) (ht : ∀ s H C cl fp, Tsx (blkX X scope s H C cl fp) noE ifs c)
    (he : ∀ s H C cl fp, Ex (blkX X scope s H C cl fp) noE elt e) (hii : ∀ i ∈ is, i ∈ owns.map (·.2) := by decide) (hs : ∀ x, foldedSetIterable iter X.env x = pure x := by intro _; rfl) :
    Ex X E (.ListComp elt [⟨tg, iter, ifs, 0⟩] scope pos) (mLcF f g c e (owns.map (·.2))) :=
  pe_imp (pe_lc (g := TGc X.K X.mg noE is g) (tt := TT X.K X.mg noE c) (te := TX X.K X.mg noE e) hc hN hi (blkOk_by ok) hg ht he hs) fun σ H Q q => lcF_imp hii q
theorem x_lcM (hc : X.calm = true) (hN : X.N.Nodup) (hi : Ix X E tg iter f) (ok : blkC X.N X.env.scope scope owns = true) (hg : ∀ s H C cl fp, Gc (blkX X scope s H C cl fp) noE is tg g) (ht : ∀ s H C cl fp, Tsx (blkX X scope s H C cl fp) noE ifs c)
    (he : ∀ s H C cl fp, Ex (blkX X scope s H C cl fp) noE elt e) (hii : ∀ i ∈ is, i ∈ owns.map (·.2) := by decide) (hs : ∀ x, foldedSetIterable iter X.env x = pure x := by intro _; rfl) :
    Ex X E (.ListComp elt [⟨tg, iter, ifs, 0⟩] scope pos) (mLcM f g c e (owns.map (·.2))) :=
  pe_imp (pe_lc (g := TGc X.K X.mg noE is g) (tt := TT X.K X.mg noE c) (te := TX X.K X.mg noE e) hc hN hi (blkOk_by ok) hg ht he hs) fun σ H Q q => lcM_imp hii q
/-- name = [..] on one line -/
theorem s_lcF (i : Nat) {y : Str} {py spos : Pos} (hc : X.calm = true) (hN : X.N.Nodup) (hi : Ix X E tg iter f) (ok : blkC X.N X.env.scope scope owns = true) (hg : ∀ s H C cl fp, Gc (blkX X scope s H C cl fp) noE is tg g) (ht : ∀ s H C cl fp, Tsx (blkX X scope s H C cl fp) noE ifs c)
    (he : ∀ s H C cl fp, Ex (blkX X scope s H C cl fp) noE elt e) (hii : ∀ i ∈ is, i ∈ owns.map (·.2) := by decide) (hy : X.N[i]? = some y := by rfl) (hyl : X.env.scope.names.lookup y = some .local := by rfl)
    (hsw : swapsWith (.ListComp elt [⟨tg, iter, ifs, 0⟩] scope pos) (some (.Name y py)) spos.line X.env = pure true := by exact sw_true rfl rfl rfl rfl) (hs : ∀ x, foldedSetIterable iter X.env x = pure x := by intro _; rfl) :
    Sx X E (.Assign [.Name y py] (.ListComp elt [⟨tg, iter, ifs, 0⟩] scope pos) spos) (sAsg (mLcF f g c e (owns.map (·.2))) (gNm i)) :=
  ps_imp (ps_setLc (g := TGc X.K X.mg noE is g) (tt := TT X.K X.mg noE c) (te := TX X.K X.mg noE e) hc hN hy hyl hsw hi (blkOk_by ok) hg ht he hs) fun Dn σ H ⟨β, env, h, rl, re, o⟩ => lcF_imp hii ⟨β, env, h, rl, re, (OutG.bind o).mono fun d β1 h1 H1 x1 rl1 o1 v r => OutG.ok (show OutG X.K X.mg E β1 H1 (R.ok (.nx (env.set i (some d))) h1) (PF X.K Dn) from o1) rl1 _ ((re.ext x1).set i r)⟩
theorem s_lcM (i : Nat) {y : Str} {py spos : Pos} (hc : X.calm = true) (hN : X.N.Nodup) (hi : Ix X E tg iter f) (ok : blkC X.N X.env.scope scope owns = true) (hg : ∀ s H C cl fp, Gc (blkX X scope s H C cl fp) noE is tg g) (ht : ∀ s H C cl fp, Tsx (blkX X scope s H C cl fp) noE ifs c)
    (he : ∀ s H C cl fp, Ex (blkX X scope s H C cl fp) noE elt e) (hii : ∀ i ∈ is, i ∈ owns.map (·.2) := by decide) (hy : X.N[i]? = some y := by rfl) (hyl : X.env.scope.names.lookup y = some .local := by rfl)
    (hsw : swapsWith (.ListComp elt [⟨tg, iter, ifs, 0⟩] scope pos) (some (.Name y py)) spos.line X.env = pure true := by exact sw_true rfl rfl rfl rfl) (hs : ∀ x, foldedSetIterable iter X.env x = pure x := by intro _; rfl) :
    Sx X E (.Assign [.Name y py] (.ListComp elt [⟨tg, iter, ifs, 0⟩] scope pos) spos) (sAsg (mLcM f g c e (owns.map (·.2))) (gNm i)) :=
  ps_imp (ps_setLc (g := TGc X.K X.mg noE is g) (tt := TT X.K X.mg noE c) (te := TX X.K X.mg noE e) hc hN hy hyl hsw hi (blkOk_by ok) hg ht he hs) fun Dn σ H ⟨β, env, h, rl, re, o⟩ => lcM_imp hii ⟨β, env, h, rl, re, (OutG.bind o).mono fun d β1 h1 H1 x1 rl1 o1 v r => OutG.ok (show OutG X.K X.mg E β1 H1 (R.ok (.nx (env.set i (some d))) h1) (PF X.K Dn) from o1) rl1 _ ((re.ext x1).set i r)⟩
end
end Rm

namespace Rm
open PySem PySem.Spec PyProof.Rows L2

/-! ### what a def leaves behind -/
mutual
def belowB (n : Nat) : D → Bool
  | .lst a => decide (a < n)
  | .ins a => decide (a < n)
  | .tup xs => belowBs n xs
  | .fl xs => belowBs n xs
  | .kl xs => belowBs n xs
  | _ => true
def belowBs (n : Nat) : List D → Bool
  | [] => true
  | x :: xs => belowB n x && belowBs n xs
end
def belowF (n : Nat) : List (Str × D) → Bool
  | [] => true
  | (_, x) :: xs => belowB n x && belowF n xs
def belowC (n : Nat) : Cell → Bool
  | .dead => true
  | .lst xs => belowBs n xs
  | .ins _ fs => belowF n fs
/-- the new cells are given up, where nothing that stays refers to them -/
def CutOk (h0 : AH) (d : D) (h : AH) : Prop := belowB h0.length d = true ∧ ∀ (i : Nat) (c : Cell), i < h0.length → h[i]? = some c → h0[i]? = some c ∨ belowC h0.length c = true
open Classical in
noncomputable def cut (h0 : AH) (d : D) (h : AH) : R D := if CutOk h0 d h then .ok d (h.take h0.length) else .ok d h
noncomputable def finD (h0 : AH) (fl : Fl) (h : AH) : R D := match fl with
  | .nx _ => cut h0 .non h
  | .rt d => cut h0 d h
  | _ => .bad
def belowE (n : Nat) (e : Er) : Bool := match e.fld with
  | none => true
  | some (_, d) => belowB n d
def CutEOk (h0 : AH) (e : Er) (h : AH) : Prop := belowE h0.length e = true ∧ ∀ (i : Nat) (c : Cell), i < h0.length → h[i]? = some c → h0[i]? = some c ∨ belowC h0.length c = true
open Classical in
noncomputable def cutE (h0 : AH) (e : Er) (h : AH) : R D := if CutEOk h0 e h then .err e (h.take h0.length) else .err e h
noncomputable def fin (h0 : AH) : R Fl → R D
  | .ok fl h => finD h0 fl h
  | .err e h => cutE h0 e h
  | .bad => .bad
/-- a def's run: np parameters, m slots -/
noncomputable def runDef (np m : Nat) (body : Sv) (ds : List D) (h : AH) : R D := if ds.length = np then fin h (body (ds.map some ++ List.replicate (m - np) none) h) else .bad
theorem runDef_len {np m : Nat} {body : Sv} (ds : List D) (h : AH) (z : ds.length ≠ np) : runDef np m body ds h = .bad := by unfold runDef; rw [if_neg z]

section
variable {K : PySem.W.Frag} {mg : Str → Option Value} {β β' : Bt} {H H' : Hp} {h h' : AH} {n : Nat}
theorem get_cut {i : Nat} {x : Option Addr} (e : (β.b.take n)[i]? = some x) : i < n ∧ β.b[i]? = some x := by
  have hl := (List.getElem?_eq_some_iff.mp e).1
  have hn : i < n := by simp at hl; omega
  rw [List.getElem?_take_of_lt hn] at e
  exact ⟨hn, e⟩
theorem NotIn.clip {p : Addr} (q : NotIn β p) : NotIn ⟨β.b.take n, β.hid⟩ p := ⟨fun i e => q.1 i (get_cut e).2, q.2⟩
theorem ref_cut {a : Nat} {v : V} (hn : n ≤ β.b.length) (l : decide (a < n) = true) (r : a < β.b.length ∧ ∀ p, β.b[a]? = some (some p) → v = .ref p) : a < (β.b.take n).length ∧ ∀ p, (β.b.take n)[a]? = some (some p) → v = .ref p := by
  have l := of_decide_eq_true l
  exact ⟨by simp; omega, fun p e => r.2 p (get_cut e).2⟩
mutual
theorem Rep.clip (hn : n ≤ β.b.length) : ∀ (d : D) (v : V), belowB n d = true → Rep K β H d v → Rep K ⟨β.b.take n, β.hid⟩ H d v
  | .non, _, _, r => r
  | .bl _, _, _, r => r
  | .int _, _, _, r => r
  | .str _, _, _, r => r
  | .tup xs, _, b, ⟨z, p, vs, e, t, r⟩ => ⟨z, p, vs, e, t.imp (fun t => ⟨t.1, t.2.clip⟩) id, Reps.clip hn xs vs b r⟩
  | .fl xs, _, b, ⟨z, p, vs, e, t, r⟩ => ⟨z, p, vs, e, ⟨t.1, t.2.clip⟩, Reps.clip hn xs vs b r⟩
  | .kl xs, _, b, ⟨z, p, vs, e, t, r⟩ => ⟨z, p, vs, e, t.imp (fun t => ⟨t.1, t.2.clip⟩) id, Reps.clip hn xs vs b r⟩
  | .lst _, _, b, r => ref_cut hn b r
  | .ins _, _, b, r => ref_cut hn b r
  | .adr _, _, _, r => r
theorem Reps.clip (hn : n ≤ β.b.length) : ∀ (ds : List D) (vs : List V), belowBs n ds = true → Reps K β H ds vs → Reps K ⟨β.b.take n, β.hid⟩ H ds vs
  | [], _, _, r => r
  | d :: ds, _, b, ⟨v, r, e, r1, r2⟩ => by
    have b : (belowB n d && belowBs n ds) = true := b
    rw [Bool.and_eq_true] at b
    exact ⟨v, r, e, Rep.clip hn d v b.1 r1, Reps.clip hn ds r b.2 r2⟩
end
theorem Flds.clip (hn : n ≤ β.b.length) : ∀ {fs : List (Str × D)} {gs : List (Str × V)}, belowF n fs = true → Flds K β H fs gs → Flds K ⟨β.b.take n, β.hid⟩ H fs gs
  | [], _, _, r => r
  | (_, d) :: fs, _, b, ⟨v, r, e, r1, r2⟩ => by
    have b : (belowB n d && belowF n fs) = true := b
    rw [Bool.and_eq_true] at b
    exact ⟨v, r, e, r1.clip hn _ _ b.1, Flds.clip hn b.2 r2⟩
mutual
theorem Rep.below : ∀ (d : D) (v : V), Rep K β H d v → belowB β.b.length d = true
  | .non, _, _ => rfl
  | .bl _, _, _ => rfl
  | .int _, _, _ => rfl
  | .str _, _, _ => rfl
  | .tup xs, _, ⟨_, _, vs, _, _, r⟩ => Reps.below xs vs r
  | .fl xs, _, ⟨_, _, vs, _, _, r⟩ => Reps.below xs vs r
  | .kl xs, _, ⟨_, _, vs, _, _, r⟩ => Reps.below xs vs r
  | .lst a, _, r => decide_eq_true r.1
  | .ins a, _, r => decide_eq_true r.1
  | .adr _, _, _ => rfl
theorem Reps.below : ∀ (ds : List D) (vs : List V), Reps K β H ds vs → belowBs β.b.length ds = true
  | [], _, _ => rfl
  | d :: ds, _, ⟨v, r, _, r1, r2⟩ => by
    show (belowB β.b.length d && belowBs β.b.length ds) = true
    rw [Rep.below d v r1, Reps.below ds r r2]; rfl
end
theorem Flds.below : ∀ {fs : List (Str × D)} {gs : List (Str × V)}, Flds K β H fs gs → belowF β.b.length fs = true
  | [], _, _ => rfl
  | (_, d) :: fs, _, ⟨v, r, _, r1, r2⟩ => by
    show (belowB β.b.length d && belowF β.b.length fs) = true
    rw [r1.below, Flds.below r2]; rfl
theorem Rl.below (rl : Rl K mg β h H) {i : Nat} {c : Cell} (e : h[i]? = some c) : belowC h.length c = true := by
  have q := rl.cell i c e
  rw [← rl.len]
  cases c with
  | dead => rfl
  | lst ys =>
    obtain ⟨z, q, us, e1, e2, r⟩ := q
    exact Reps.below _ _ r
  | ins C fs =>
    obtain ⟨q, c, dx, gs, e1, e2, e3, r⟩ := q
    exact r.below
theorem Rl.cut (rl : Rl K mg β h H) (hn : n ≤ h.length) (b : ∀ (i : Nat) (c : Cell), i < n → h[i]? = some c → belowC n c = true) : Rl K mg ⟨β.b.take n, β.hid⟩ (h.take n) H := by
  refine ⟨by simp [rl.len], fun i j p e1 e2 => rl.inj i j p (get_cut e1).2 (get_cut e2).2, fun i c e => ?_, fun p hp => ⟨(rl.hid p hp).1, fun i e => (rl.hid p hp).2 i (get_cut e).2⟩, rl.tabs⟩
  have hl := (List.getElem?_eq_some_iff.mp e).1
  have hi : i < n := by simp at hl; omega
  rw [List.getElem?_take_of_lt hi] at e
  have bc : belowC n c = true := b i c hi e
  have q := rl.cell i c e
  have hb : ∀ o, β.b[i]? = some o → (β.b.take n)[i]? = some o := fun o e1 => by rw [List.getElem?_take_of_lt hi]; exact e1
  have hn2 : n ≤ β.b.length := by rw [rl.len]; exact hn
  cases c with
  | dead => exact hb _ q
  | lst ys =>
    obtain ⟨z, q, us, e1, e2, r⟩ := q
    exact ⟨z, q, us, hb _ e1, e2, Reps.clip hn2 _ _ bc r⟩
  | ins C fs =>
    obtain ⟨q, c, dx, gs, e1, e2, e3, r⟩ := q
    exact ⟨q, c, dx, gs, hb _ e1, e2, e3, r.clip hn2 bc⟩
theorem Ext.cut (x : Ext β H β' H') : Ext β H ⟨β'.b.take β.b.length, β'.hid⟩ H' where
  len := by have := x.len; simp; omega
  old := fun i p hi e => x.old i p hi (get_cut e).2
  new := fun i p hi e => by have := (get_cut e).1; omega
  hsub := x.hsub
  hnew := x.hnew
  per := x.per
  dom := x.dom
theorem cut_ok {E : XK} {d : D} {Q : VK} (rl : Rl K mg β h H) (x : Ext β H β' H') (rl' : Rl K mg β' h' H') (o : OutG K mg E β H (cut h d h') (PV K Q)) : ∀ v, Rep K β' H' d v → Q v H' := fun v r => by
  unfold Rm.cut at o
  split at o
  · rename_i b
    have l : h.length ≤ β'.b.length := by rw [← rl.len]; exact x.len
    have x2 := x.cut
    rw [rl.len] at x2
    exact o.okx x2 (rl'.cut (by rw [← rl'.len]; exact l) fun i c hi e => (b.2 i c hi e).elim (fun e => rl.below e) id) v (r.clip l _ _ b.1)
  · exact o.okx x rl' v r
theorem ErOk.cut {e : Er} {cls : Value} {dd : Option Addr} (hn : n ≤ β.b.length) (b : belowE n e = true) (r : ErOk K mg β H e cls dd) : ErOk K mg ⟨β.b.take n, β.hid⟩ H e cls dd := by
  obtain ⟨C, e1, e2, r⟩ := r
  refine ⟨C, e1, e2, ?_⟩
  obtain ⟨ec, ef⟩ := e
  cases ef with
  | none => exact r
  | some q =>
    obtain ⟨nm, d⟩ := q
    obtain ⟨a, v, e3, e4, e5, e6⟩ := r
    exact ⟨a, v, e3, e4, e5.clip, e6.clip hn _ _ b⟩
theorem fin_out {E : XK} {r : R Fl} {Q : VK} (rl : Rl K mg β h H) (o : OutG K mg E β H (fin h r) (PV K Q)) : OutG K mg E β H r fun fl β' h' H' => OutG K mg E β H (finD h fl h') (PV K Q) := by
  cases r with
  | ok fl h' => exact fun β' H' y _ => o
  | bad => exact o
  | err e h' =>
    intro β' H' cls dd x rl' er
    have o : OutG K mg E β H (cutE h e h') (PV K Q) := o
    unfold cutE at o
    split at o
    · rename_i b
      have l : h.length ≤ β'.b.length := by rw [← rl.len]; exact x.len
      have x2 := x.cut
      rw [rl.len] at x2
      exact o _ _ cls dd x2 (rl'.cut (by rw [← rl'.len]; exact l) fun i c hi e => (b.2 i c hi e).elim (fun e => rl.below e) id) (er.cut l b.1)
    · exact o _ _ cls dd x rl' er
end

/-! ### THE RULE for a def -/
theorem rel_start {K : PySem.W.Frag} {β : Bt} {H : Hp} {N : List Str} {ds : List D} {vs : List V} {np : Nat} (r : Reps K β H ds vs) (hl : ds.length = np) : RelE K β H (ds.map some ++ List.replicate (N.length - np) none) (L2.start N vs) := by
  have hl2 : vs.length = np := by rw [← r.length]; exact hl
  refine ⟨by unfold L2.start; simp [hl, hl2], fun i d e => ?_⟩
  unfold L2.start
  rcases Nat.lt_or_ge i np with hi | hi
  · rw [List.getElem?_append_left (by simp [hl]; exact hi)] at e
    rw [List.getElem?_append_left (by simp [hl2]; exact hi)]
    rw [List.getElem?_map] at e ⊢
    obtain ⟨d', e1, e2⟩ := Option.map_eq_some_iff.mp e
    cases e2
    obtain ⟨v, e3, r3⟩ := r.get e1
    exact ⟨v, by rw [e3]; rfl, r3⟩
  · rw [List.getElem?_append_right (by simp [hl]; exact hi)] at e
    rw [List.getElem?_replicate] at e
    split at e <;> cases e
section
variable {P : Program} {w : World} {K : PySem.W.Frag} {mg : Str → Option Value} {base : Heap} {x qual : Str} {params : Arguments} {body : List Stmt} {scope : Scope} {dvs : List V} {kws : List (Str × V)} {f : Addr} {fd : FuncData}
abbrev bX (P : Program) (w : World) (K : PySem.W.Frag) (mg : Str → Option Value) (base : Heap) (N : List Str) (qual : Str) (scope : Scope) (f : Addr) (cdv : Value) (A : Around) (outer : List Env) (s : Shared) (H : Hp) (E : XK) : Cx := cxOf (L2N.CX P w) P w K mg base N qual scope f cdv A outer s H E
theorem bX_own {N : List Str} {cdv : Value} {A : Around} {outer : List Env} {s : Shared} {H : Hp} {E : XK} : PassesOwn (model P w) (bX P w K mg base N qual scope f cdv A outer s H E).A (bX P w K mg base N qual scope f cdv A outer s H E).env (bX P w K mg base N qual scope f cdv A outer s H E).xe :=
  L2.passes_of (X := bX P w K mg base N qual scope f cdv A outer s H E) (K := fun e s'' => L2N.CX P w outer H s E e s'') (E₁ := fun e' s'' => L2N.CX P w outer H s E e' s'') rfl
theorem bX_takes {N : List Str} {cdv : Value} {A : Around} {outer : List Env} {s : Shared} {H : Hp} {E : XK} : L2N.Takes (bX P w K mg base N qual scope f cdv A outer s H E) (fun c d _ H => E c d H) :=
  L2N.takes_of (X := bX P w K mg base N qual scope f cdv A outer s H E) (E₁ := fun e' s'' => L2N.CX P w outer H s E e' s'') rfl rfl rfl rfl
theorem bX_pass {N : List Str} {cdv : Value} {A : Around} {outer : List Env} {s : Shared} {H : Hp} {E : XK} : Passes (L2N.CX P w) (bX P w K mg base N qual scope f cdv A outer s H E) E :=
  L2N.passes_call (X := bX P w K mg base N qual scope f cdv A outer s H E) (W := fun c d _ H => E c d H) bX_takes fun _ _ _ _ h => h
theorem fn_ok {N ps : List Str} {k : Nat} {sem : Sv} (F : FunD K x qual params body scope dvs kws f fd) (S : C8.scC N ps scope = true)
    (hb : ∀ (cdv : Value) (A : Around) (outer : List Env) (s : Shared) (H : Hp) (E : XK), Room k (A.deeper (envOfC qual scope s.heap.objs.size f cdv)) → Bx (bX P w K mg base N qual scope f cdv A outer s H E) E body sem) :
    FnOk P w K mg base (L2N.CX P w) (k + 1) f fd ps (spS K mg ps.length (runDef ps.length N.length sem)) := by
  refine F.ok (C8.fnScope_by S) (fun vs H Q E q => q.1) fun cdv A outer s H vs Q E hr q => ⟨_, hb cdv A outer s H E hr, ?_⟩
  obtain ⟨hl, β, h, ds, rl, rs, o⟩ := q
  have hd : ds.length = ps.length := by rw [rs.length]; exact hl
  unfold runDef at o
  rw [if_pos hd] at o
  refine ⟨β, _, h, rl, rel_start rs hd, (fin_out rl o).mono fun fl β' h' H' x rl' o' => ?_⟩
  cases fl with
  | nx env => exact fun σ' _ => cut_ok rl x rl' o' .non rfl
  | rt d => exact cut_ok rl x rl' o'
  | bk env => exact o'.elim
  | ct env => exact o'.elim
end
end Rm

namespace Rm
open PySem PySem.Spec PyProof.Rows L2

/-! ### a list that is given up for good is read by value from here on -/
def fz (d : D) (h : AH) : R D := match d with
  | .lst a => match h[a]? with
    | some (.lst xs) => .ok (.fl xs) (h.set a .dead)
    | _ => .bad
  | _ => .bad
def mFz (f : Ev) : Ev := m1 fz f
section
variable {X : Cx} {E : XK} {pos : Pos}
theorem x_fz {e : Expr} {f : Ev} (h : Ex X E e f) : Ex X E e (mFz f) :=
  pe_imp h fun σ H Q ⟨β, env, hh, rl, re, o⟩ => ⟨β, env, hh, rl, re, (OutG.bind0 o).mono fun d β1 h1 H1 x1 rl1 o1 v r => by
    cases d with
    | lst a =>
      have o1 := OutG.weak x1 o1
      cases e : h1[a]? with
      | none => simp only [fz, e] at o1; exact o1.elim
      | some c =>
        cases c with
        | lst xs =>
          simp only [fz, e] at o1
          obtain ⟨hz, p, vs, rfl, e1, e2, rs⟩ := rl1.at_lst e r
          have x2 : Ext β1 H1 ⟨β1.b.set a none, β1.hid⟩ H1 := Ext.kill e1
          exact o1.okx x2 (rl1.kill e1) _ ⟨hz, p, vs, rfl, ⟨e2, rl1.notIn_kill e1⟩, Reps.ext x2 _ _ rs⟩
        | dead => simp only [fz, e] at o1; exact o1.elim
        | ins C fs => simp only [fz, e] at o1; exact o1.elim
    | _ => exact o1.elim⟩

/-! ### xs[i] = v -/
def gSet (fo fi : Ev) : Gv := fun d env h => (fo env h).bind fun o h1 => (fi env h1).bind fun i h2 => match o, i with
  | .lst a, .int k => (match h2[a]? with
    | some (.lst xs) => (match ixN xs.length k with
      | some j => .ok env (h2.set a (.lst (xs.set j d)))
      | none => .bad)
    | _ => .bad)
  | _, _ => .bad
theorem g_set {o i : Expr} {fo fi : Ev} (ho : Ex X E o fo) (hi : Ex X E i fi) (ha : ∀ v, assign (.Subscript o i pos) X.env v = (do
      let ov ← holding [v] (eval o X.env)
      let iv ← holding [v, ov] (eval i X.env)
      standAt pos
      holding [v, ov, iv] (setItem ov iv v)
      release [v, ov, iv] []) := by intro _; rfl) : Gx X E (.Subscript o i pos) (gSet fo fi) :=
  pg_imp (pg_sub ho hi set_list ha) fun v σ H Q ⟨β, env, h, d, rl, re, rd, oo⟩ => ⟨β, env, h, rl, re, (OutG.bind oo).mono fun od β1 h1 H1 x1 rl1 o1 ov r1 => ⟨β1, env, h1, rl1, re.ext x1, (OutG.bind o1).mono fun id β2 h2 H2 x2 rl2 o2 iv r2 => by
    cases od with
    | lst a =>
      cases id with
      | int k =>
        cases r2
        cases e : h2[a]? with
        | none => simp only [e] at o2; exact o2.elim
        | some c =>
          cases c with
          | lst xs =>
            cases e3 : ixN xs.length k with
            | none => simp only [e, e3] at o2; exact o2.elim
            | some j =>
              simp only [e, e3] at o2
              obtain ⟨hz, p, vs, rfl, e1, e2, rs⟩ := rl2.at_lst e (r1.ext x2)
              refine ⟨p, vs, k, j, rfl, rfl, e2, by rw [← rs.length]; exact e3, ?_⟩
              have rd2 := (rd.ext x1).ext x2
              have x3 : Ext β2 H2 β2 (upd H2 p (.lst (vs.set j v))) := Ext.write e1
              exact o2.okx x3 (rl2.write e1 (by rw [List.length_set]; exact hz) (rs.set j rd2)) _ (((re.ext x1).ext x2).ext x3)
          | dead => simp only [e] at o2; exact o2.elim
          | ins C fs => simp only [e] at o2; exact o2.elim
      | _ => exact o2.elim
    | _ => exact o2.elim⟩⟩

/-! ### xs.append(v) -/
def gApp (o d : D) (h : AH) : R D := match o with
  | .lst a => match h[a]? with
    | some (.lst xs) => if xs.length < SL then .ok .non (h.set a (.lst (xs ++ [d]))) else .bad
    | _ => .bad
  | _ => .bad
theorem OutG.args1 {K : PySem.W.Frag} {mg : Str → Option Value} {β : Bt} {H : Hp} {γ : Type} {r : R D} {env : En} {k : D → AH → R γ} {P : γ → Bt → AH → Hp → Prop} {Q : List V → Hp → Prop} (o : OutG K mg E β H (r.bind k) P)
    (step : ∀ d β' h' H', Ext β H β' H' → Rl K mg β' h' H' → OutG K mg E β' H' (k d h') P → ∀ v, Rep K β' H' d v → Q [v] H') :
    OutG K mg E β H (r.bind fun a h2 => (mNil env h2).bind fun ds h3 => .ok (a :: ds) h3) (PVs K Q) := by
  cases r with
  | bad => exact o
  | err e h1 => exact o
  | ok d h1 =>
    intro β1 H1 x1 rl1 vs rs
    obtain ⟨v, rfl, r⟩ := reps1 rs
    exact step d β1 h1 H1 x1 rl1 (OutG.weak x1 o) v r
def mApp (fo fe : Ev) : Ev := fun env h => (fo env h).bind fun o h1 => match o with
  | .lst a => (match h1[a]? with
    | some (.lst _) => (fe env h1).bind fun d h2 => gApp (.lst a) d h2
    | _ => .bad)
  | _ => .bad
theorem x_app {o e : Expr} {fo fe : Ev} {apos cpos : Pos} (ho : Ex X E o fo) (he : Ex X E e fe)
    (hbase : attributeBase o "append" X.env (eval o X.env) = eval o X.env := by rfl)
    (hfew : ((backTo cpos (starEach [e] X.env)).all (fun x => !x.1) && (backToKw cpos (keywordEach [] X.env)).all (fun x => x.1.isSome)
      && decide (([e] : List Expr).length + ([] : List Keyword).length + (if ([] : List Keyword).isEmpty then 0 else 1) < 30)) = true := by rfl)
    (hline : (apos.endLine == cpos.line) = true := by rfl) (hs : starEach [e] X.env = (false, eval e X.env) :: starEach [] X.env := by rfl) (hplain : (backTo cpos (starEach [] X.env)).any (·.1) = false := by rfl) :
    Ex X E (.Call (.Attribute o "append" apos) [e] [] cpos) (mApp fo fe) :=
  pe_imp (pe_bm F.plainAttrs_list F.slot_list_append F.type_list_append mt_append ho (ar_cons he ar_nil hs) hbase hfew hline hs hplain) fun σ H Q ⟨β, env, h, rl, re, oo⟩ => ⟨β, env, h, rl, re, (OutG.bind oo).mono fun od β1 h1 H1 x1 rl1 o1 ov r1 => by
    cases od with
    | lst a =>
      cases hx : h1[a]? with
      | none => simp only [hx] at o1; exact o1.elim
      | some c =>
        cases c with
        | lst ys =>
          simp only [hx] at o1
          obtain ⟨_, p, vs, rfl, e1, e2, rs⟩ := rl1.at_lst hx r1
          refine ⟨.inl ⟨rfl, vs, SqL.of e2⟩, β1, env, h1, rl1, re.ext x1, OutG.args1 o1 fun d β2 h2 H2 x2 rl2 o2 u ru => ?_⟩
          cases e3 : h2[a]? with
          | none => simp only [gApp, e3] at o2; exact o2.elim
          | some c =>
            cases c with
            | lst xs =>
              by_cases hz : xs.length < SL
              · simp only [gApp, e3, hz, if_true] at o2
                obtain ⟨_, p', vs', e4, e5, e6, rs'⟩ := rl2.at_lst e3 (r1.ext x2)
                cases e4
                have x3 : Ext β2 H2 β2 (upd H2 p (.lst (vs' ++ [u]))) := Ext.write e5
                refine ⟨p, vs', u, rfl, rfl, e6, by rw [SL_eq, ← rs'.length]; exact hz, ?_⟩
                exact o2.okx x3 (rl2.write e5 (by rw [SL_eq]; simp; exact hz) (rs'.append (Reps.one ru))) _ rfl
              · simp only [gApp, e3, hz, if_false] at o2; exact o2.elim
            | dead => simp only [gApp, e3] at o2; exact o2.elim
            | ins C fs => simp only [gApp, e3] at o2; exact o2.elim
        | dead => simp only [hx] at o1; exact o1.elim
        | ins C fs => simp only [hx] at o1; exact o1.elim
    | _ => exact o1.elim⟩
end
end Rm

/-! Rm: set(xs) of a list of ints, its table kept walkable (HandS.Set's SetR), for sorted(set(..)). -/
namespace Rm
open PySem PySem.Spec PyProof.Rows L2

/-- the members met so far -/
abbrev met (val : Nat → Int) (i : Nat) : Int → Bool := fun k => (firstMet val i).any (· == k)
/-- a set's place among heaps that moved elsewhere -/
theorem SetR.moved {w : World} {G : Array GenState → Array GenState → Prop} {wr : List Addr} {s s' : Shared} {S : Addr} {M : Int → Bool} {n : Nat} (hm : Moved wr G s s') (hS : S ∉ wr) (r : SetR w s.heap S M n) : SetR w s'.heap S M n :=
  SetR.at r fun o e => hm.heap S o hS e
section
variable {prog : Program} {w : World} {A : Around} {I S : Addr} {fp wr : List Addr} {G : Array GenState → Array GenState → Prop} {n : Nat} {P : Nat → Value → Prop} {St : Nat → Shared → Prop} {R : Result → Shared → Prop} {val : Nat → Int}
/-- the set takes what the walk still gives -/
theorem fill_set (W : WalksS prog w A.in1 I fp wr G n P St) (away : S ∉ fp) (num : ∀ i v, P i v → ∃ t, v = .int (val i) t) (room : n + 1 < scanBound) (todo : Nat) :
    ∀ (i : Nat) (s : Shared), i + todo = n → St i s → SetR w s.heap S (met val i) (firstMet val i).length →
      (∀ s', Moved (S :: wr) G s s' → SetR w s'.heap S (met val n) (firstMet val n).length → R (.ok (.ret .none)) s') →
      codeAny (model prog w) A (.builtin "set.update.loop" ⟨[.ref S, .ref I], []⟩) R s := by
  have apart : S ∉ wr := fun z => away (W.sub S z)
  have wider : ∀ b ∈ wr, b ∈ S :: wr := fun b z => .tail _ z
  induction todo with
  | zero =>
    intro i s e at_ set_ done
    have e : i = n := e
    rw [e] at at_ set_
    refine codeAny_builtin PyProof.Rows.F.entry_set_update_loop (by
      rw [Around.under_plainId PyProof.Rows.F.plain_set_update_loop _]
      exact wpAny_bind (W.done s _ _ at_ fun s' mv => wpAny_pure (done s' (mv.mono wider) (SetR.moved mv apart set_))))
  | succ todo more =>
    intro i s e at_ set_ done
    refine codeAny_builtin PyProof.Rows.F.entry_set_update_loop (by
      rw [Around.under_plainId PyProof.Rows.F.plain_set_update_loop _]
      refine wpAny_bind (W.item i s _ _ (by omega) at_ fun v s' given at' mv => ?_)
      obtain ⟨tk, ev⟩ := num i v given
      subst ev
      have few := firstMet_length_le val i
      have set1 := SetR.moved mv apart set_
      refine wpAny_bind (wpAny_holding (wpAny_holding (wpAny_bind ((intKind prog w).pyHash (k := val i) (intKind_is _ _ _ _) ?_))))
      refine setR_add_hashed (s := { s' with toks := s'.toks + 1 }) set1 (by omega) fun h2 same set2 => wpAny_pure ?_
      have other : ∀ b, b ≠ S → ∀ o, s'.heap.get? b = some o → h2.get? b = some o := fun b nb o eo => by rw [same.2 b nb]; exact eo
      have set3 : SetR w h2 S (met val (i + 1)) (firstMet val (i + 1)).length := by
        have len : (firstMet val (i + 1)).length = if met val i (val i) = true then (firstMet val i).length else (firstMet val i).length + 1 := by
          rw [firstMet_succ]; exact step_length _ _
        rw [len]
        exact set2.congr fun k => by show (firstMet val (i + 1)).any (· == k) = _; rw [firstMet_succ, step_any]
      refine ⟨plainId_quiet PyProof.Rows.F.plain_set_update_loop _, more (i + 1) _ (by omega) (W.frame _ s' _ _ at' (Nat.le_succ _) fun b hb o eo => other b (fun z => away (z ▸ hb)) o eo) set3 fun s2 mv2 set4 => done s2 ?_ set4⟩
      exact Moved.trans W.gtrans ((mv.mono wider).then_heap (Nat.le_succ _) fun b o nb eo => other b (fun z => nb (z ▸ .head _)) o eo) mv2)
end
section
variable {prog : Program} {w : World} {A : Around} {E : Value → Shared → Prop} {s : Shared} {Q : Value → Shared → Prop} {l : Addr} {items : Array Value} {ns : List Int}
/-- an empty set as the world makes it -/
abbrev noSet (w : World) : Obj := { cls := .type "set", dict := none, data := .set #[] 0 (.fresh 0 0 (!w.params.followText "set-order")) }
/-- set.__new__ -/
theorem new_set (a : Value) (q : Q (.ref s.heap.objs.size) { s with heap := s.heap.push (noSet w) }) : codeAny (model prog w) A (.call (.builtin "set.__new__") ⟨[.type "set", a], []⟩) (wants Q E) s := by
  have sub := PySem.sub_set_self
  refine codeAny_of_tree (show wpAny _ A.in1 (checkBuiltinCall "set.__new__" ⟨[.type "set", a], []⟩ >>= fun _ => again (.builtin "set.__new__" ⟨[.type "set", a], []⟩)) _ _ s from ?_)
  refine wpAny_bind (wpAny_of_eq (PySem.F.newCall_set_1 a) (wpAny_pure ⟨plainId_quiet PySem.F.plain_set_new _, codeAny_builtin PySem.F.entry_set_new ?_⟩))
  rw [Around.under_plainId PySem.F.plain_set_new _]
  revert q
  obtain ⟨h0, g0, d0, k0, o0⟩ := s
  intro q
  unfold Builtin.«set.__new__» Builtin.Frozenset.newClass
  wp_walk
  exact wpAny_askSetting (wpAny_pure (by simp only [newObj]; exact wpAny_bind (wpAny_alloc (wpAny_pure (wpAny_pure q)))))
/-- set.__init__ of an empty set and a list of ints -/
theorem init_set {S : Addr} (calm : A.handled = none) (new_ : s.heap.get? S = some (noSet w)) (ls : s.heap.IsList l items) (lS : l < S) (nums : IntsAre items.toList ns) (room : items.size + 1 < scanBound)
    (q : ∀ (h' : Heap) (tk : Nat), SetR w h' S (met (fun i => ns.getD i 0) items.size) (firstMet (fun i => ns.getD i 0) items.size).length → (∀ b o, b ≠ S → s.heap.get? b = some o → h'.get? b = some o) → Q .none { s with heap := h', toks := tk }) :
    codeAny (model prog w) A (.call (.builtin "set.__init__") ⟨[.ref S, .ref l], []⟩) (wants Q E) s := by
  have isSet : s.TypeIs (.ref S) "set" := ⟨_, new_, rfl⟩
  refine codeAny_call_builtin PySem.F.called_set.init.plain PySem.F.entry_set_init (PySem.check_set_init_1 isSet ?_)
  obtain ⟨⟨oc, od, oD, os⟩, at_, oc', m, oD'⟩ := ls
  simp only at oc' oD'
  subst oc' oD'
  have ls : s.heap.IsList l items := ⟨_, at_, rfl, m, rfl⟩
  have n1 := PySem.F.sub_list_set
  have n2 := PySem.F.sub_list_frozenset
  have n3 : (Value.type "list" == Value.type "dict") = false := by decide
  have Ssz : S < s.heap.objs.size := Heap.lt_size new_
  unfold Builtin.«set.__init__» noKeywords Builtin.Frozenset.updateFrom
  generalize same : pyIter = it
  wp_walk
  subst same
  refine wpAny_pyIter_list ls (wpAny_bind (wpAny_runValue ?_))
  have lI : l ≠ s.heap.objs.size := Nat.ne_of_lt (Nat.lt_trans lS Ssz)
  have away : S ∉ [s.heap.objs.size, l] := by
    simp only [List.mem_cons, List.not_mem_nil, or_false, not_or]
    exact ⟨Nat.ne_of_lt Ssz, Nat.ne_of_gt lS⟩
  refine fill_set ((Walks.list (by simp [calm]) _ l lI items).toS) away (fun i v hv => IntsAre.int_at nums i v (by rw [Array.getElem?_toList]; exact hv)) room items.size 0 _ (Nat.zero_add _) ⟨⟨_, Heap.get?_push_size _ rfl, rfl, rfl⟩, ls.push _⟩ ?_ fun s' mv set' => ?_
  · refine ⟨_, #[], 0, _, Heap.get?_push_of_some _ new_, ⟨rfl, rfl, rfl⟩, rfl, fun _ z => ?_, ?_, fun k => ?_, by decide, rfl, rfl, .nil, ?_⟩
    · simp at z
    · simp
    · simp [met, firstMet_zero]
    · show _ ∨ (!w.params.followText "set-order") = true
      cases w.params.followText "set-order" <;> simp
  · obtain ⟨h', g', d', k', o'⟩ := s'
    obtain ⟨eg, ed, eo⟩ : g' = s.gens ∧ d' = s.drawn ∧ o' = s.os := ⟨mv.gens, mv.drawn, mv.os⟩
    subst eg ed eo
    exact wpAny_pure (wpAny_pure (q h' k' set' fun b o nb e => mv.heap b o (by
      have := Heap.lt_size e
      simp only [List.mem_cons, List.not_mem_nil, or_false, not_or]
      exact ⟨nb, Nat.ne_of_lt this⟩) (Heap.get?_push_of_some _ e)))
/-- set(xs) -/
theorem call_setR (calm : A.handled = none) (ls : s.heap.IsList l items) (nums : IntsAre items.toList ns) (room : items.size + 1 < scanBound)
    (q : ∀ (h' : Heap) (tk : Nat), SetR w h' s.heap.objs.size (met (fun i => ns.getD i 0) items.size) (firstMet (fun i => ns.getD i 0) items.size).length →
      (∀ b o, b < s.heap.objs.size → s.heap.get? b = some o → h'.get? b = some o) → Q (.ref s.heap.objs.size) { s with heap := h', toks := tk }) :
    wpAny (model prog w) A (call (.type "set") [.ref l]) Q E s := by
  obtain ⟨c, rest, mro⟩ := PySem.F.called_set.mro
  have f1 := PySem.F.called_set.made
  have f2 := PySem.F.called_set.sub
  have f3 := PySem.F.called_set.notType
  have f4 := PySem.F.called_set.canCreate
  have f5 := PySem.F.typeCall_set_1 (.ref l)
  have lz : l < s.heap.objs.size := by obtain ⟨o, e, _⟩ := ls; exact Heap.lt_size e
  refine wpAny_call (codeAny_of_tree (wpAny_pure ⟨Code.quiet_builtin _ (by decide +kernel), codeAny_builtin PySem.F.entry_type_call ?_⟩))
  rw [Around.under_plain (weight_type_call_type "set" [.ref l] []) rfl]
  repeat (any_goals (first | assumption | wp_step))
  refine codeAny_mono (new_set (E := E) (Q := fun r s' => r = .ref s.heap.objs.size ∧ s' = { s with heap := s.heap.push (noSet w) }) (.ref l) ⟨rfl, rfl⟩) fun r s' end_ => ?_
  match r, end_ with
  | .error e, end_ => exact end_
  | .ok (.ret v), end_ =>
    obtain ⟨ev, es⟩ := end_
    subst ev es
    have there : (s.heap.push (noSet w)).get? s.heap.objs.size = some (noSet w) := Heap.get?_push_size _ rfl
    have kind : Shared.TypeIs { s with heap := s.heap.push (noSet w) } (.ref s.heap.objs.size) "set" := ⟨_, there, rfl⟩
    have g1 := PySem.F.called_set.init.lookup
    have g2 := PySem.F.called_set.init.bind (.ref s.heap.objs.size)
    repeat (any_goals (first | assumption | wp_step))
    refine codeAny_mono (init_set (E := E) (Q := fun v s' => v = .none ∧ Q (.ref s.heap.objs.size) s') (by first | exact calm | simp [calm]) there (ls.push _) lz nums room fun h' tk set' keep => ⟨rfl, q h' tk set' fun b o hb e => keep b o (Nat.ne_of_lt hb) (Heap.get?_push_of_some _ e)⟩) fun r s' end_ => ?_
    match r, end_ with
    | .error e, end_ => exact end_
    | .ok (.ret v), end_ =>
      obtain ⟨ev, end_⟩ := end_
      subst ev
      repeat (any_goals (first | assumption | wp_step))
end
end Rm

namespace Rm
open PySem PySem.Spec PyProof.Rows L2

/-! ### sorted(set(xs)) of ints -/
def insU (k : Int) : List Int → List Int
  | [] => [k]
  | x :: xs => if k < x then k :: x :: xs else if k = x then x :: xs else x :: insU k xs
def sdd : List Int → List Int
  | [] => []
  | k :: ks => insU k (sdd ks)
theorem insU_mem (k a : Int) : ∀ xs : List Int, a ∈ insU k xs ↔ a = k ∨ a ∈ xs
  | [] => by simp [insU]
  | x :: xs => by
    unfold insU
    split
    · simp
    · split
      · rename_i h; subst h; simp
      · simp [insU_mem k a xs]
        constructor
        · rintro (h | h | h) <;> simp [h]
        · rintro (h | h | h) <;> simp [h]
theorem insU_sorted (k : Int) : ∀ xs : List Int, xs.Pairwise (· < ·) → (insU k xs).Pairwise (· < ·)
  | [], _ => by simp [insU]
  | x :: xs, h => by
    obtain ⟨h1, h2⟩ := List.pairwise_cons.mp h
    unfold insU
    split
    · rename_i hk
      refine List.pairwise_cons.mpr ⟨fun y hy => ?_, h⟩
      rcases List.mem_cons.mp hy with rfl | hy
      · exact hk
      · have := h1 y hy; omega
    · split
      · exact h
      · refine List.pairwise_cons.mpr ⟨fun y hy => ?_, insU_sorted k xs h2⟩
        rcases (insU_mem k y xs).mp hy with rfl | hy
        · omega
        · exact h1 y hy
theorem sdd_mem (a : Int) : ∀ xs : List Int, a ∈ sdd xs ↔ a ∈ xs
  | [] => by simp [sdd]
  | x :: xs => by unfold sdd; rw [insU_mem, sdd_mem a xs]; simp
theorem sdd_sorted : ∀ xs : List Int, (sdd xs).Pairwise (· < ·)
  | [] => .nil
  | x :: xs => insU_sorted x _ (sdd_sorted xs)
theorem sorted_ext : ∀ {xs ys : List Int}, xs.Pairwise (· < ·) → ys.Pairwise (· < ·) → (∀ a, a ∈ xs ↔ a ∈ ys) → xs = ys
  | [], [], _, _, _ => rfl
  | [], y :: ys, _, _, h => absurd ((h y).mpr List.mem_cons_self) (by simp)
  | x :: xs, [], _, _, h => absurd ((h x).mp List.mem_cons_self) (by simp)
  | x :: xs, y :: ys, h1, h2, h => by
    obtain ⟨a1, a2⟩ := List.pairwise_cons.mp h1
    obtain ⟨b1, b2⟩ := List.pairwise_cons.mp h2
    have e : x = y := by
      rcases List.mem_cons.mp ((h x).mp List.mem_cons_self) with e | e
      · exact e
      · rcases List.mem_cons.mp ((h y).mpr List.mem_cons_self) with e' | e'
        · exact e'.symm
        · have := a1 y e'; have := b1 x e; omega
    subst e
    refine congrArg (x :: ·) (sorted_ext a2 b2 fun a => ⟨fun ha => ?_, fun ha => ?_⟩)
    · rcases List.mem_cons.mp ((h a).mp (List.mem_cons_of_mem _ ha)) with e | e
      · have := a1 a ha; omega
      · exact e
    · rcases List.mem_cons.mp ((h a).mpr (List.mem_cons_of_mem _ ha)) with e | e
      · have := b1 a ha; omega
      · exact e
theorem sdd_length_le : ∀ xs : List Int, (sdd xs).length ≤ xs.length
  | [] => Nat.le_refl _
  | x :: xs => by
    have h : ∀ ys : List Int, (insU x ys).length ≤ ys.length + 1 := by
      intro ys
      induction ys with
      | nil => simp [insU]
      | cons y ys ih =>
        unfold insU
        split
        · simp
        · split
          · simp
          · simp; omega
    have := sdd_length_le xs
    have := h (sdd xs)
    unfold sdd
    simp; omega
section
variable {X : Cx} {E : XK} {pos : Pos}
def tSS (K : PySem.W.Frag) (ta : TE) : TE := fun σ H Q => ta σ H fun x H1 => ∃ (l : Addr) (ns : List Int), x = .ref l ∧ SqL K H1 l (ns.map V.int) ∧ ns.length < 64 ∧
  ∀ (ns' : List Int) (p : Addr), ns'.Pairwise (· < ·) → (∀ k, k ∈ ns' ↔ k ∈ ns) → H1 p = none → Q (.ref p) (upd H1 p (.lst (ns'.map V.int)))
theorem range_getD (ns : List Int) : (List.range ns.length).map (fun i => ns.getD i 0) = ns := by
  apply List.ext_getElem
  · simp
  · intro i h1 h2
    simp only [List.length_map, List.length_range] at h1
    simp [List.getElem?_eq_getElem h1]
theorem pe_sortSet {a : Expr} {ta : TE} {p p2 q pos : Pos} (hg : Gl X "sorted") (hm : X.mg "sorted" = none) (hg2 : Gl X "set") (hm2 : X.mg "set" = none) (ha : PE X a ta) (hc : X.calm = true)
    (na : starEach [a] X.env = (false, eval a X.env) :: starEach [] X.env := by rfl) : PE X (.Call (.Name "sorted" p) [.Call (.Name "set" p2) [a] [] q] [] pos) (tSS X.K ta) := by
  refine ⟨fun pins s σ H Q I h => ?_⟩
  refine Call_ (ld_blt I hg hm boot_sorted ?_)
  refine PyProof.Rows.callWith_builtin1 (PyProof.Rows.args_cons ?_ rfl) rfl rfl
  refine Call_ (ld_blt I hg2 hm2 boot_set ?_)
  refine PyProof.Rows.callWith_type1 (PyProof.Rows.args_cons (thn (ha.run pins s σ H _ I h) fun v s1 ⟨x, H1, I1, r1, q1⟩ => PyProof.Rows.args_nil ?_) na) na rfl
  obtain ⟨l, ns, rfl, hq, hl, q1⟩ := q1
  cases r1
  obtain ⟨its, r, pl, hz⟩ := I1.list hq
  have hlen : its.toArray.size = ns.length := by rw [List.size_toArray, ← r.length, List.length_map]
  refine call_setR (I1.ok.hd hc) pl.isList (by simpa using RZ.intsAre_vals r) (by rw [hlen]; unfold scanBound; omega) fun h' tk hS hk => ?_
  refine PyProof.Rows.args_nil ?_
  rw [hlen] at hS
  have I2 : Inv X pins σ H1 { s1 with heap := h', toks := tk } := I1.kept fun b o e => hk b o (Heap.lt_size e) e
  have hn64 : (firstMet (fun i => ns.getD i 0) ns.length).length < 64 := Nat.lt_of_le_of_lt (firstMet_length_le _ _) hl
  have hS' : SetR X.w ({ s1 with heap := h', toks := tk } : Shared).heap s1.heap.objs.size (fun k' => (firstMet (fun i => ns.getD i 0) ns.length).any (· == k')) (firstMet (fun i => ns.getD i 0) ns.length).length := hS
  generalize hs2 : ({ s1 with heap := h', toks := tk } : Shared) = s2 at I2 hS' ⊢
  refine sorted_set (s := s2) hS' (I2.ok.hd hc) hn64 fun s' p out c ms k g o hp hg hi hs hm hl2 => ?_
  have hlen2 : (ms.map V.int).length ≤ sizeLine := by rw [List.length_map, hl2, sizeLine_eq]; omega
  have hn : H1 p = none := I2.hok.fresh hp
  have J : Inv X pins σ (upd H1 p (.lst (ms.map V.int))) { s2 with heap := s'.heap, gens := s'.gens, drawn := s'.drawn, toks := s'.toks } :=
    I2.call (ch := []) (Un.laid k hp hn) (I2.hok.laid k hp ⟨hlen2, out.toList, c, vals_of_ints hi, hg⟩) (by rw [g]; exact I2.bare) (fun _ z => nomatch z)
  have e : s' = { s2 with heap := s'.heap, gens := s'.gens, drawn := s'.drawn, toks := s'.toks } := by
    cases s'
    clear hs2
    cases s2
    cases o
    rfl
  rw [e]
  refine ⟨.ref p, _, J, rfl, q1 ms p hs (fun k => ?_) hn⟩
  rw [hm k, firstMet_any, range_getD, List.any_eq_true]
  exact ⟨fun ⟨y, hy, ey⟩ => by rw [← eq_of_beq ey]; exact hy, fun hk => ⟨k, hk, by simp⟩⟩
/-- sorted(set(xs)): the list by value -/
def gSdd (d : D) (h : AH) : R D := match rdL h d with
  | some xs => (match dInts xs with
    | some ns => if ns.length < 64 then .ok (.fl ((sdd ns).map D.int)) h else .bad
    | none => .bad)
  | none => .bad
theorem ints_reps {K : PySem.W.Frag} {β : Bt} {H : Hp} : ∀ ns : List Int, Reps K β H (ns.map D.int) (ns.map V.int)
  | [] => rfl
  | n :: ns => ⟨_, _, rfl, rfl, ints_reps ns⟩
theorem x_sortSet {a : Expr} {fa : Ev} {p p2 q pos : Pos} (hm : X.mg "sorted" = none) (hm2 : X.mg "set" = none) (ha : Ex X E a fa) (hc : X.calm = true) (hg : Gl X "sorted" := by rfl) (hg2 : Gl X "set" := by rfl)
    (na : starEach [a] X.env = (false, eval a X.env) :: starEach [] X.env := by rfl) : Ex X E (.Call (.Name "sorted" p) [.Call (.Name "set" p2) [a] [] q] [] pos) (m1 gSdd fa) :=
  pe_imp (pe_sortSet hg hm hg2 hm2 ha hc na) fun σ H Q ⟨β, env, h, rl, re, o⟩ => ⟨β, env, h, rl, re, (OutG.bind o).mono fun d β1 h1 H1 x1 rl1 o1 v r => by
    cases e : rdL h1 d with
    | none => simp only [gSdd, e] at o1; exact o1.elim
    | some xs =>
      cases e2 : dInts xs with
      | none => simp only [gSdd, e, e2] at o1; exact o1.elim
      | some ns =>
        by_cases hl : ns.length < 64
        · simp only [gSdd, e, e2, hl, if_true] at o1
          obtain ⟨_, p, vs, rfl, t, rs⟩ := r.rdL rl1 e
          have ev := dInts_reps rs e2
          subst ev
          refine ⟨p, ns, rfl, t, hl, fun ns' q h1' h2' hq => ?_⟩
          have en : ns' = sdd ns := sorted_ext h1' (sdd_sorted ns) fun a => (h2' a).trans (sdd_mem a ns).symm
          subst en
          refine o1.okx (Ext.upd_new hq) (rl1.upd_new hq) _ (Rep.newFl rl1 hq (ints_reps _) ?_)
          have := sdd_length_le ns
          simp [SL]; omega
        · simp only [gSdd, e, e2, hl, if_false] at o1; exact o1.elim⟩
end
end Rm

namespace Rm
open PySem PySem.Spec PyProof.Rows L2

/-! ### a def that may be called by its name -/
structure FnT (P : Program) (w : World) (K : PySem.W.Frag) (mg : Str → Option Value) (base : Heap) (x : Str) (k n : Nat) (sem : List D → AH → R D) : Prop where
  ex : ∃ (f : Addr) (fd : FuncData) (ps : List Str), FnOk P w K mg base (L2N.CX P w) k f fd ps (spS K mg n sem) ∧ mg x = some (.ref f) ∧ PySem.W.keepIn K (.ref f) = true ∧ Binds K fd ps []
  hl : ∀ ds h, ds.length ≠ n → sem ds h = .bad
theorem FnT.of {P : Program} {w : World} {K : PySem.W.Frag} {mg : Str → Option Value} {base : Heap} {x qual nm : Str} {params : Arguments} {body : List Stmt} {scope : Scope} {dvs : List V} {kws : List (Str × V)} {f : Addr} {fd : FuncData} {N ps : List Str} {k n : Nat} {sem : Sv}
    (F : FunD K nm qual params body scope dvs kws f fd) (hm : mg x = some (.ref f)) (b : Binds K fd ps []) (hn : ps.length = n) (S : C8.scC N ps scope = true)
    (hb : ∀ (cdv : Value) (A : Around) (outer : List Env) (s : Shared) (H : Hp) (E : XK), Room k (A.deeper (envOfC qual scope s.heap.objs.size f cdv)) → Bx (bX P w K mg base N qual scope f cdv A outer s H E) E body sem) :
    FnT P w K mg base x (k + 1) n (runDef n N.length sem) := by
  subst hn
  exact ⟨⟨f, fd, ps, fn_ok F S hb, hm, F.kp, b⟩, runDef_len⟩
section
variable {X : Cx} {E : XK} {pos : Pos}
theorem x_fn {es : List Expr} {e : Expr} {f : Av} {j k n : Nat} {x : Str} {p : Pos} {sem : List D → AH → R D} (C : FnT X.prog X.w X.K X.mg X.base x k n sem) (hr : Room j X.A) (hx : Passes (L2N.CX X.prog X.w) X E)
    (ha : Ax X E (e :: es) f) (hk : k ≤ j := by decide) (hg : Gl X x := by rfl) (hdb : (x == ("__debug__" : Str)) = false := by decide) (he : starEach (e :: es) X.env = (false, eval e X.env) :: starEach es X.env := by rfl) (hpl : (backTo pos (starEach es X.env)).any (·.1) = false := by rfl) :
    Ex X E (.Call (.Name x p) (e :: es) [] pos) (mCall sem f) := by
  obtain ⟨f, fd, ps, F, hm, hkp, b⟩ := C.ex
  exact x_call (F.mono hk) C.hl hr hm hkp b hx ha hg hdb he hpl
end

/-! ### the law's own def -/
/-- what is in the air, in whatever world -/
def CXw (P : Program) : CXT := fun outer H s E u s' => ∃ w, L2N.CX P w outer H s E u s'
theorem cxw_no {P : Program} : ∀ (H : Hp) (s : Shared) (e : Value) (s' : Shared), CXw P [] H s (fun _ _ _ => False) e s' → False := fun H s e s' ⟨w, c⟩ => by
  obtain ⟨a, B, H', cls, d, rfl, fl, hok, ub, na, os, ag, hE⟩ := c
  exact hE
theorem fnok_cxw {P : Program} {w : World} {K : PySem.W.Frag} {mg : Str → Option Value} {base : Heap} {k : Nat} {f : Addr} {fd : FuncData} {ps : List Str} {sp : Sp} (F : FnOk P w K mg base (L2N.CX P w) k f fd ps sp) : FnOk P w K mg base (CXw P) k f fd ps sp :=
  ⟨F.len, fun A outer s H args us vs Q E hr he hb hv hs => codeAny_mono (F.run A outer s H args us vs Q E hr he hb hv hs) fun r s' q => by
    cases r with
    | error e => exact ⟨w, q⟩
    | ok fl => cases fl <;> exact q⟩
/-- the code objects and their tables -/
def csL (K : PySem.W.Frag) : List (Addr × Addr) := (csOf K).map fun t => (t.1, t.2.1)
theorem tabs_start {K : PySem.W.Frag} {H : Hp} (hT : ∀ p ∈ csL K, H p.2 = some (.tbl #[])) : LamX.Tabs (tabsOf K) H := fun p hp => by
  obtain ⟨t, ht, e⟩ := List.mem_map.mp hp
  have q := hT (t.1, t.2.1) (List.mem_map.mpr ⟨t, ht, rfl⟩)
  rw [← e]
  exact LamX.TabS.nil q
theorem law_sp {K : PySem.W.Frag} {mg : Str → Option Value} {sem : List D → AH → R D} (ok : ∀ (ns : List Int) (h : AH), ∃ h', sem [.kl (ns.map D.int)] h = .ok (.bl true) h') {H : Hp} {a : Addr} {ns : List Int} (hT : ∀ p ∈ csL K, H p.2 = some (.tbl #[])) (hS : SqL K H a (ns.map V.int)) (hz : ns.length ≤ 63 := by assumption) :
    spS K mg 1 sem [.ref a] H (fun v _ => v = .bl true) fun _ _ _ => False := by
  obtain ⟨h', e⟩ := ok ns []
  refine ⟨rfl, ⟨[], []⟩, [], [.kl (ns.map D.int)], ⟨rfl, fun i j p e1 => by simp at e1, fun i c e => by simp at e, fun p hp => (nomatch hp), tabs_start hT⟩, ?_, ?_⟩
  · refine Reps.one ⟨by rw [SL_eq, List.length_map]; unfold SL; omega, a, ns.map V.int, rfl, ?_, ints_reps ns⟩
    rcases hS with r | r
    · exact .inl ⟨r, fun i e => by simp at e, fun e => nomatch e⟩
    · exact .inr r
  · rw [e]
    intro β' H' x rl v r
    exact r
end Rm

namespace Rm
open PySem PySem.Spec PyProof.Rows L2

/-! ### break, continue, while, three stores, in -/
def sBrk : Sv := fun env h => .ok (.bk env) h
def sCnt : Sv := fun env h => .ok (.ct env) h
/-- while, at most n turns -/
def whN (c : Tv) (b : Sv) : Nat → Sv
  | 0, _, _ => .bad
  | n + 1, env, h => (c env h).bind fun k h1 => if k = true then (b env h1).bind fun fl h2 => match fl with
    | .nx e2 => whN c b n e2 h2
    | .ct e2 => whN c b n e2 h2
    | .bk e2 => .ok (.nx e2) h2
    | .rt d => .ok (.rt d) h2 else .ok (.nx env) h1
open Classical in
noncomputable def sWh (c : Tv) (b : Sv) : Sv := fun env h => if q : ∃ n, whN c b n env h ≠ .bad then whN c b q.choose env h else .bad
def sPar3 (i j k : Nat) (es : Av) : Sv := fun env h => (es env h).bind fun ds h1 => match ds with
  | [a, b, c] => .ok (.nx (((env.set i (some a)).set j (some b)).set k (some c))) h1
  | _ => .bad
section
variable {X : Cx} {E : XK} {pos : Pos}
theorem s_brk : Sx X E (.Break pos) sBrk := ps_imp ps_break fun Dn σ H ⟨β, env, h, rl, re, o⟩ => OutG.ok (a := Fl.bk env) o rl σ re
theorem s_cnt : Sx X E (.Continue pos) sCnt := ps_imp ps_continue fun Dn σ H ⟨β, env, h, rl, re, o⟩ => OutG.ok (a := Fl.ct env) o rl σ re
theorem reps3 {K : PySem.W.Frag} {β : Bt} {H : Hp} {a b c : D} {vs : List V} (r : Reps K β H [a, b, c] vs) : ∃ x y z, vs = [x, y, z] ∧ Rep K β H a x ∧ Rep K β H b y ∧ Rep K β H c z := by
  obtain ⟨x, r, rfl, r1, r2⟩ := r
  obtain ⟨y, z, rfl, r3, r4⟩ := reps2 r2
  exact ⟨x, y, z, rfl, r1, r3, r4⟩
theorem s_par3 (i j k : Nat) {x y z : Str} {a b c : Expr} {f : Av} {px py pz pt : Pos} {kt k2 : Nat} {pt2 : Pos} (hc : X.calm = true) (hN : X.N.Nodup) (ha : Ax X E [a, b, c] f) (hij : i ≠ j := by decide) (hik : i ≠ k := by decide) (hjk : j ≠ k := by decide) (hi : X.N[i]? = some x := by rfl) (hj : X.N[j]? = some y := by rfl) (hk : X.N[k]? = some z := by rfl)
    (hx : X.env.scope.names.lookup x = some .local := by rfl) (hy : X.env.scope.names.lookup y = some .local := by rfl) (hz : X.env.scope.names.lookup z = some .local := by rfl)
    (hw : swappedStores [.Tuple [.Name x px, .Name y py, .Name z pz] kt pt] (.Tuple [a, b, c] k2 pt2) X.env = pure (some [x, y, z]) := by rfl)
    (hs : swapsWithSole [.Tuple [.Name x px, .Name y py, .Name z pz] kt pt] (.Tuple [a, b, c] k2 pt2) pos.line X.env = pure false := by rfl) :
    Sx X E (.Assign [.Tuple [.Name x px, .Name y py, .Name z pz] kt pt] (.Tuple [a, b, c] k2 pt2) pos) (sPar3 i j k f) :=
  ps_imp (ps_par3 hc hN hi hj hk hij hik hjk hx hy hz ha hw hs) fun Dn σ H ⟨β, env, h, rl, re, o⟩ => ⟨β, env, h, rl, re, (OutG.bind o).mono fun ds β1 h1 H1 x1 rl1 o1 vs rs => by
    match ds, rs, o1 with
    | [d, e, g], rs, o1 =>
      obtain ⟨v, u, w, rfl, r1, r2, r3⟩ := reps3 rs
      exact ⟨v, u, w, rfl, OutG.ok (show OutG X.K X.mg E β1 H1 (R.ok (.nx (((env.set i (some d)).set j (some e)).set k (some g))) h1) (PF X.K Dn) from o1) rl1 _ ((((re.ext x1).set i r1).set j r2).set k r3)⟩
    | [], _, o1 => exact o1.elim
    | [_], _, o1 => exact o1.elim
    | [_, _], _, o1 => exact o1.elim
    | _ :: _ :: _ :: _ :: _, _, o1 => exact o1.elim⟩
theorem s_wh {c : Expr} {body : List Stmt} {fc : Tv} {fb : Sv} (hp : PassesOwn (model X.prog X.w) X.A X.env X.xe) (hc : Tx X E c fc) (hb : Bx X E body fb) : Sx X E (.While c body [] pos) (sWh fc fb) := by
  refine ps_imp (ps_while hp hc hb) fun Dn σ H ⟨β, env, h, rl, re, o⟩ => ?_
  have q : ∃ n, whN fc fb n env h ≠ .bad := by
    by_cases q : ∃ n, whN fc fb n env h ≠ .bad
    · exact q
    · unfold sWh at o; rw [dif_neg q] at o; exact o.elim
  unfold sWh at o
  rw [dif_pos q] at o
  generalize q.choose = n at o
  refine ⟨fun m σ' H' => ∃ β' env' h', Rl X.K X.mg β' h' H' ∧ RelE X.K β' H' env' σ' ∧ OutG X.K X.mg E β' H' (whN fc fb m env' h') (PF X.K Dn), ⟨n, β, env, h, rl, re, o⟩, ?_⟩
  rintro m σ1 H1 ⟨β1, env1, h1, rl1, re1, o1⟩
  cases m with
  | zero => exact o1.elim
  | succ m =>
    refine ⟨β1, env1, h1, rl1, re1, (OutG.bind o1).mono fun k β2 h2 H2 x2 rl2 o2 => ?_⟩
    cases k with
    | true =>
      refine ⟨fun σ' H' => ∃ β' env' h', Rl X.K X.mg β' h' H' ∧ RelE X.K β' H' env' σ' ∧ OutG X.K X.mg E β' H' (whN fc fb m env' h') (PF X.K Dn), fun σ' H' w => ⟨m, Nat.lt_succ_self m, w⟩, β2, env1, h2, rl2, re1.ext x2, (OutG.bind o2).mono fun fl β3 h3 H3 x3 rl3 o3 => ?_⟩
      cases fl with
      | nx e => exact fun σ4 re4 => ⟨β3, e, h3, rl3, re4, o3⟩
      | ct e => exact fun σ4 re4 => ⟨β3, e, h3, rl3, re4, o3⟩
      | bk e => exact o3.ok rl3
      | rt e => exact o3.ok rl3
    | false => exact o2.ok rl2 σ1 (re1.ext x2)
end

/-! ### a def that calls itself -/
theorem FnT.bad {P : Program} {w : World} {K : PySem.W.Frag} {mg : Str → Option Value} {base : Heap} {x qual nm : Str} {params : Arguments} {body : List Stmt} {scope : Scope} {dvs : List V} {kws : List (Str × V)} {f : Addr} {fd : FuncData} {N ps : List Str} {n : Nat}
    (F : FunD K nm qual params body scope dvs kws f fd) (hm : mg x = some (.ref f)) (b : Binds K fd ps []) (hn : ps.length = n) : FnT P w K mg base x 0 n fun _ _ => .bad := by
  subst hn
  refine ⟨⟨f, fd, ps, ⟨fun vs H Q E q => q.1, fun A outer s H args us vs Q E _ _ _ _ q => ?_⟩, hm, F.kp, b⟩, fun _ _ _ => rfl⟩
  obtain ⟨_, β, h, ds, rl, rs, o⟩ := q
  exact o.elim
theorem FnT.mono {P : Program} {w : World} {K : PySem.W.Frag} {mg : Str → Option Value} {base : Heap} {x : Str} {j k n : Nat} {sem : List D → AH → R D} (F : FnT P w K mg base x j n sem) (h : j ≤ k) : FnT P w K mg base x k n sem := by
  obtain ⟨⟨f, fd, ps, F1, a, b, c⟩, hl⟩ := F
  exact ⟨⟨f, fd, ps, F1.mono h, a, b, c⟩, hl⟩
/-! ### membership, by what the values stand for -/
def gIn (a b : D) (h : AH) : R D := match pdOf 60 h a, pdOf 60 h b with
  | some d, some (.list ds) => .ok (.bl (ds.any fun z => PyData.eqv z d)) h
  | _, _ => .bad
def gNotIn (a b : D) (h : AH) : R D := match pdOf 60 h a, pdOf 60 h b with
  | some d, some (.list ds) => .ok (.bl (!ds.any fun z => PyData.eqv z d)) h
  | _, _ => .bad
theorem room65 {k : Nat} {A : Around} (r : Room k A) : A.units + 65 < cLine := by have := r.un; omega
section
variable {X : Cx} {E : XK}
theorem o_in (hu : X.A.units + 65 < cLine) : OpX X E (compareOp .In) gIn := ⟨_, op_inD hu, fun β h H a b x y Q rl ra rb o => by
  unfold gIn at o
  cases e1 : pdOf 60 h a with
  | none => rw [e1] at o; exact o.elim
  | some d =>
    cases e2 : pdOf 60 h b with
    | none => rw [e1, e2] at o; exact o.elim
    | some e =>
      cases e with
      | list ds =>
        rw [e1, e2] at o
        obtain ⟨d1, g1⟩ := pdOf_ok rl 60 a x d e1 ra
        obtain ⟨d2, g2⟩ := pdOf_ok rl 60 b y _ e2 rb
        exact ⟨d, ds, d1, d2, shaped_of g1, shaped_of g2, o.ok rl _ rfl⟩
      | _ => rw [e1, e2] at o; exact o.elim⟩
theorem o_notIn (hu : X.A.units + 65 < cLine) : OpX X E (compareOp .NotIn) gNotIn := ⟨_, op_notInD hu, fun β h H a b x y Q rl ra rb o => by
  unfold gNotIn at o
  cases e1 : pdOf 60 h a with
  | none => rw [e1] at o; exact o.elim
  | some d =>
    cases e2 : pdOf 60 h b with
    | none => rw [e1, e2] at o; exact o.elim
    | some e =>
      cases e with
      | list ds =>
        rw [e1, e2] at o
        obtain ⟨d1, g1⟩ := pdOf_ok rl 60 a x d e1 ra
        obtain ⟨d2, g2⟩ := pdOf_ok rl 60 b y _ e2 rb
        exact ⟨d, ds, d1, d2, shaped_of g1, shaped_of g2, o.ok rl _ rfl⟩
      | _ => rw [e1, e2] at o; exact o.elim⟩
end
end Rm

namespace Rm
open PySem PySem.Spec PyProof.Rows HotX

/-! ### walks that end while an exception is handled -/
section
variable {prog : Program} {w : World} {A : Around} {E : Value → Shared → Prop} {s : Shared} {x1 : Addr}
theorem HotAt.keeps {h h' : Heap} (hot : HotAt A x1 h) (k : ∀ o, h.get? x1 = some o → h'.get? x1 = some o) : HotAt A x1 h' := by
  obtain ⟨hh, o, vs, e, d, c⟩ := hot
  exact ⟨hh, o, vs, k o e, d, c⟩
/-- a StopIteration is made and raised -/
theorem stop_hot {α : Type} {Q : α → Shared → Prop} (hot : HotAt A x1 s.heap)
    (hE : ∀ h' e, (∀ b o, s.heap.get? b = some o → h'.get? b = some o) → (∃ o, h'.get? e = some o ∧ o.cls = .type "StopIteration") → E (.ref e) { s with heap := h' }) :
    wpAny (model prog w) A (newExc (.type "StopIteration") [] >>= fun e => (raiseNew e : Sem α)) Q E s := by
  refine wpAny_bind ?_
  simp only [newExc, newTuple]
  refine wpAny_bind (wpAny_newObj_type ?_ (by size_fits))
  refine wpAny_bind (m := firstArgMember _ _) (wpAny_of_eq (a := Value.none) (by first | rfl | (simp only [firstArgMember]; rfl)) ?_)
  refine wpAny_newObj_type ?_ (by size_fits)
  obtain ⟨hh, o1, vs1, e1, d1, c1⟩ := hot
  refine raiseNew_hot ⟨hh, o1, vs1, Heap.get?_push_of_some _ (Heap.get?_push_of_some _ e1), d1, c1⟩ (Nat.ne_of_lt (Heap.lt_size (Heap.get?_push_of_some _ e1))) (Heap.get?_push_size _ rfl) rfl (by first | (simp; done) | (simp; omega) | (simp only [Array.size_append]; simp; omega)) ?_
  · refine hE _ _ (fun b o e => ?_) ⟨_, Heap.get?_update_self _ (Heap.get?_push_size _ rfl) rfl, rfl⟩
    rw [Heap.get?_update_other _ _ (Nat.ne_of_gt (Heap.lt_size (Heap.get?_push_of_some _ e)))]
    exact Heap.get?_push_of_some _ (Heap.get?_push_of_some _ e)
/-- what is not at these places stays -/
abbrev But (ps : List Addr) (h h' : Heap) : Prop := ∀ b o, b ∉ ps → h.get? b = some o → h'.get? b = some o
abbrev Stops (h : Heap) (e : Addr) : Prop := ∃ o, h.get? e = some o ∧ o.cls = .type "StopIteration"
theorem nextOf_list_hot {it l : Addr} {i : Nat} {items : Array Value} {Q : Value → Shared → Prop} (hot : HotAt A x1 s.heap) (away : x1 ≠ it) (hit : s.heap.IsListIter it l i) (hl : s.heap.IsList l items) (hx : items[i]? = none)
    (hE : ∀ h' e, But [it] s.heap h' → Stops h' e → E (.ref e) { s with heap := h' }) : wpAny (model prog w) A (Builtin.SmallTypes.nextOf (.ref it)) Q E s := by
  obtain ⟨o, ho, hc, hd⟩ := id hit
  obtain ⟨ol, hol, _, nl, hdl⟩ := hl
  unfold Builtin.SmallTypes.nextOf
  refine wpAny_bind (wpAny_callSpecial?_slot (name := Str.ofString "__next__") hit.typeIs slot_listiter_next (wpAny_call_entry slot_listiter_next hit.typeIs entry_listiter_next ?_ (args_listiter_next _)))
  show wpAny _ _ (field (.ref it) 0 >>= _) _ _ s
  refine wpAny_bind (wpAny_field ho hd (x := .ref l) rfl ?_)
  show wpAny _ _ (if (Value.ref l == Value.none) = true then _ else _) _ _ s
  rw [if_neg (show ¬ ((Value.ref l == Value.none) = true) from Bool.false_ne_true)]
  show wpAny _ _ (field (.ref it) 1 >>= _) _ _ s
  refine wpAny_bind (wpAny_field ho hd (x := .int i 0) rfl ?_)
  show wpAny _ _ (seqItems? (.ref l) >>= _) _ _ s
  refine wpAny_bind (wpAny_seqItems hol hdl ?_)
  simp only [Int.toNat_natCast, hx]
  refine wpAny_bind (wpAny_rule (wpAny_bind (wpAny_setField ho hd (by simp) ?_)))
  refine stop_hot (HotAt.keeps hot fun o e => (Heap.get?_update_other _ _ (Ne.symm away)).trans e) fun h' e k st => hE h' e (fun b o nb eo => k b o ?_) st
  rw [Heap.get?_update_other _ _ (fun z => nb (by rw [← z]; exact List.mem_cons_self))]
  exact eo
theorem pyNext_tuple_hot {it t : Addr} {i : Nat} {items : Array Value} {Q : Option Value → Shared → Prop} (hot : HotAt A x1 s.heap) (away : x1 ≠ it) (hit : IsTupIter s.heap it t i) (ht : IsTup s.heap t items) (hx : items[i]? = none)
    (hQ : ∀ h', But [it] s.heap h' → Q none { s with heap := h' }) : wpAny (model prog w) A (pyNext (.ref it)) Q E s := by
  obtain ⟨o, ho, hc, hd⟩ := id hit
  obtain ⟨ol, hol, _, nl, hdl⟩ := ht
  unfold pyNext
  refine wpAny_bind (wpAny_attempt (wpAny_callSpecial?_slot (name := Str.ofString "__next__") hit.typeIs slot_tupleiter_next (wpAny_call_entry slot_tupleiter_next hit.typeIs entry_tupleiter_next ?_ (args_tupleiter_next _))))
  show wpAny _ _ (field (.ref it) 0 >>= _) _ _ s
  refine wpAny_bind (wpAny_field ho hd (x := .ref t) rfl ?_)
  show wpAny _ _ (if (Value.ref t == Value.none) = true then _ else _) _ _ s
  rw [if_neg (show ¬ ((Value.ref t == Value.none) = true) from Bool.false_ne_true)]
  show wpAny _ _ (field (.ref it) 1 >>= _) _ _ s
  refine wpAny_bind (wpAny_field ho hd (x := .int i 0) rfl ?_)
  show wpAny _ _ (seqItems? (.ref t) >>= _) _ _ s
  refine wpAny_bind (wpAny_seqItems hol hdl ?_)
  simp only [Int.toNat_natCast, hx]
  refine wpAny_bind (wpAny_rule (wpAny_bind (wpAny_setField ho hd (by simp) ?_)))
  refine stop_hot (HotAt.keeps hot fun o e => (Heap.get?_update_other _ _ (Ne.symm away)).trans e) fun h' e k st => ?_
  obtain ⟨oe, he, hce⟩ := st
  refine wpAny_bind (wpAny_isInstance (T := "StopIteration") (b := true) ⟨oe, he, hce⟩ isSubtype_stop ?_)
  refine wpAny_pure (hQ _ fun b o nb eo => k b o ?_)
  rw [Heap.get?_update_other _ _ (fun z => nb (by rw [← z]; exact List.mem_cons_self))]
  exact eo
/-- (a, b, ..) = a tuple -/
theorem unpack_hot {t : Addr} {items : Array Value} {targets : List (Bool × (Value → Sem Unit))} {Q : Unit → Shared → Prop} (hot : HotAt A x1 s.heap) (ht : IsTup s.heap t items) (hn : targets.length = items.size) (hstar : targets.findIdx? (·.1) = none)
    (q : ∀ h', But [s.heap.objs.size] s.heap h' → wpAny (model prog w) A (assignInOrder (targets.map (·.2)) items.toList) Q E { s with heap := h' }) : wpAny (model prog w) A (unpack (.ref t) targets) Q E s := by
  have tl : t ≠ s.heap.objs.size := by obtain ⟨o, ho, _⟩ := ht; exact Nat.ne_of_lt (Heap.lt_size ho)
  have xl : x1 ≠ s.heap.objs.size := by obtain ⟨_, o, _, ho, _⟩ := hot; exact Nat.ne_of_lt (Heap.lt_size ho)
  unfold unpack
  rw [hn, hstar]
  refine wpAny_bind (wpAny_holding ?_)
  unfold unpackItems notIterableAtAll
  refine wpAny_bind (wpAny_bind (wpAny_specialOf ht.typeIs slot_tuple_iter.lookup (wpAny_pure ?_)))
  simp only [Bool.false_eq_true, if_false]
  refine wpAny_bind (wpAny_holding (iter_tuple ht ?_))
  refine wpAny_bind (wpAny_holding (draw_tuple tl items.size 0 _ _ ⟨_, Heap.get?_push_size _ rfl, rfl, rfl⟩ (ht.push _) (by omega) fun h1 it1 same => ?_))
  rw [show List.take items.size (List.drop 0 items.toList) = items.toList from by rw [List.drop_zero]; exact List.take_of_length_le (by simp), if_neg (by simp)]
  have old : ∀ b o, b ≠ s.heap.objs.size → s.heap.get? b = some o → h1.get? b = some o := fun b o nb e => same.extBut b o nb (Heap.get?_push_of_some _ e)
  refine wpAny_bind (wpAny_holding (pyNext_tuple_hot (HotAt.keeps hot fun o e => old _ _ xl e) xl it1 ((ht.push _).extBut same.extBut tl) (by simp) fun h2 bt => ?_))
  simp only [Option.isSome_none, Bool.false_eq_true, if_false]
  exact wpAny_pure (q h2 fun b o nb e => bt b o nb (old b o (fun z => nb (by rw [z]; exact List.mem_cons_self)) e))
/-- a zip of two lists, one of them at its end -/
theorem zip_hot {z TI TO i1 i2 l1 l2 : Addr} {k1 k2 : Nat} {xs ys : Array Value} {a b : Value} {Q : Option Value → Shared → Prop} (hot : HotAt A x1 s.heap) (away : x1 ∉ [z, TO, i1, i2]) (D : ZipApart z TI TO i1 i2 l1 l2)
    (hz : IsZip s.heap z TI TO .none) (hTI : IsPair s.heap TI (.ref i1) (.ref i2)) (hTO : IsPair s.heap TO a b)
    (h1 : s.heap.IsListIter i1 l1 k1) (h2 : s.heap.IsListIter i2 l2 k2) (hl1 : s.heap.IsList l1 xs) (hl2 : s.heap.IsList l2 ys) (hend : xs[k1]? = none ∨ ys[k2]? = none)
    (hQ : ∀ h', But [z, TO, i1, i2] s.heap h' → Q none { s with heap := h' }) : wpAny (model prog w) A (pyNext (.ref z)) Q E s := by
  simp only [List.mem_cons, List.not_mem_nil, or_false, not_or] at away
  obtain ⟨xz, xT, xa, xb⟩ := away
  have kind : s.TypeIs (.ref z) "zip" := ⟨_, hz, rfl⟩
  -- the zip's end, the StopIteration of a part of it in the air
  have fin : ∀ (h' : Heap) (e : Addr), But [z, TO, i1, i2] s.heap h' → Stops h' e → (fun (v : Value) (s' : Shared) => wpAny (model prog w) A (do if ← isInstance v (.type "StopIteration") then pure none else throw v) Q E s') (.ref e) { s with heap := h' } := fun h' e bt ⟨o, ho, hc⟩ => by
    refine wpAny_bind (wpAny_isInstance (T := "StopIteration") (b := true) ⟨o, ho, hc⟩ isSubtype_stop ?_)
    exact wpAny_pure (hQ h' bt)
  unfold pyNext
  refine wpAny_bind (wpAny_attempt (wpAny_callSpecial?_slot (name := Str.ofString "__next__") kind F.slot_zip_next (wpAny_call_entry F.slot_zip_next kind F.entry_zip_next ?_ (F.args_zip_next_1 _))))
  show wpAny _ _ (field (.ref z) 2 >>= _) _ _ _
  refine wpAny_bind (wpAny_field hz rfl (x := .bool false) rfl ?_)
  show wpAny _ _ (field (.ref z) 3 >>= _) _ _ _
  refine wpAny_bind (wpAny_field hz rfl (x := .ref TI) rfl ?_)
  refine wpAny_bind (wpAny_seqItems hTI rfl (wpAny_bind ?_))
  unfold Builtin.SmallTypes.ownedTupleIsFree
  refine wpAny_bind (wpAny_field hz rfl (x := .none) rfl (wpAny_pure ?_))
  simp only [if_true]
  refine wpAny_bind (wpAny_rule (wpAny_bind (wpAny_field hz rfl (x := .ref TO) rfl (wpAny_bind (wpAny_setField_rec hz (by simp) fun g1 hz1 s1 => ?_)))))
  have hz1 : IsZip g1 z TI TO .ellipsis := hz1
  have hot1 := HotAt.keeps hot fun o e => s1.extBut _ _ xz e
  refine wpAny_bind ?_
  simp only [List.zipIdx_cons, List.zipIdx_nil, List.forIn_cons, List.forIn_nil]
  refine wpAny_bind (wpAny_bind (wpAny_onRaise (wpAny_bind ?_)))
  cases hx : xs[k1]? with
  | none =>
    refine nextOf_list_hot hot1 xa (h1.extBut s1.extBut D.i1z) (hl1.extBut s1.extBut D.l1z) hx fun g2 e b2 st => ?_
    obtain ⟨oe, hoe, hce⟩ := st
    have hz2 : IsZip g2 z TI TO .ellipsis := b2 _ _ (by simp only [List.mem_cons, List.not_mem_nil, or_false]; exact D.i1z.symm) hz1
    have ez : e ≠ z := fun y => by subst y; rw [hz2] at hoe; cases hoe; simp at hce
    refine wpAny_setField_rec hz2 (by simp) fun g3 _ s3 => fin g3 e (fun c o nc eo => ?_) ⟨oe, s3.extBut _ _ ez hoe, hce⟩
    simp only [List.mem_cons, List.not_mem_nil, or_false, not_or] at nc
    exact s3.extBut _ _ nc.1 (b2 _ _ (by simp only [List.mem_cons, List.not_mem_nil, or_false]; exact nc.2.2.1) (s1.extBut _ _ nc.1 eo))
  | some x =>
    have hy : ys[k2]? = none := by
      rcases hend with q | q
      · rw [hx] at q; cases q
      · exact q
    refine wpAny_nextOf_list_item (h1.extBut s1.extBut D.i1z) (hl1.extBut s1.extBut D.l1z) hx fun g2 _ s2 => wpAny_pure ?_
    have hTO2 : IsPair g2 TO a b := s2.extBut _ _ D.TOi1 (s1.extBut _ _ D.TOz hTO)
    refine wpAny_bind (wpAny_seqItems hTO2 rfl (wpAny_bind (wpAny_updateSeq_pair hTO2 fun g3 _ s3 => wpAny_bind (wpAny_letGo (wpAny_pure ?_)))))
    refine wpAny_bind (wpAny_bind (wpAny_onRaise (wpAny_bind ?_)))
    have up : ∀ c o, c ≠ z → c ≠ i1 → c ≠ TO → s.heap.get? c = some o → g3.get? c = some o := fun c o c1 c2 c3 e => s3.extBut _ _ c3 (s2.extBut _ _ c2 (s1.extBut _ _ c1 e))
    refine nextOf_list_hot (HotAt.keeps hot fun o e => up _ _ xz xa xT e) xb (((h2.extBut s1.extBut D.i2z).extBut s2.extBut D.i12.symm).extBut s3.extBut D.TOi2.symm) (((hl2.extBut s1.extBut D.l2z).extBut s2.extBut D.l2i1).extBut s3.extBut D.l2TO) hy fun g4 e b4 st => ?_
    obtain ⟨oe, hoe, hce⟩ := st
    have hz4 : IsZip g4 z TI TO .ellipsis := b4 _ _ (by simp only [List.mem_cons, List.not_mem_nil, or_false]; exact D.i2z.symm) (s3.extBut _ _ D.TOz.symm (s2.extBut _ _ D.i1z.symm hz1))
    have ez : e ≠ z := fun y => by subst y; rw [hz4] at hoe; cases hoe; simp at hce
    refine wpAny_setField_rec hz4 (by simp) fun g5 _ s5 => fin g5 e (fun c o nc eo => ?_) ⟨oe, s5.extBut _ _ ez hoe, hce⟩
    simp only [List.mem_cons, List.not_mem_nil, or_false, not_or] at nc
    exact s5.extBut _ _ nc.1 (b4 _ _ (by simp only [List.mem_cons, List.not_mem_nil, or_false]; exact nc.2.2.2) (up _ _ nc.1 nc.2.2.1 nc.2.1 eo))
end
end Rm

namespace Rm
open PySem PySem.Spec PyProof.Rows L2 L2H

/-! ### a comprehension while an exception is handled -/
/-- the block's context, the handled exception kept in sight -/
abbrev blkH (X : Cx) (s : Shared) (H : Hp) (scope : Scope) (cenv : Env) (fp : List Addr) : Cx := { X.blk s H scope cenv fp with pn := X.pn }
section
variable {X : Cx} {pins : List (Addr × Obj)} {σ : St} {H : Hp} {s : Shared}
theorem startH {scope : Scope} {own : List (Str × Nat)} {fp : List Addr} (I : Inv X pins σ H s) (ok : BlkOk X.N X.env.scope scope own) (hN : X.N.Nodup) (hfp : ∀ b ∈ fp, FpOk X pins H b ∧ b < s.heap.objs.size) :
    Inv (blkH X s H scope (compEnvC scope (cellsFrom (s.heap.objs.size + 1) scope.names (cloFrom X.env.cells scope.names [])) s.heap.objs.size X.env) fp) [] (wipe σ (own.map (·.2))) H { s with heap := pushCells (s.heap.push { cls := .type "dict", data := .dict #[] }) scope.names } := by
  have B := block_start I ok hN hfp
  have o := B.ok
  refine ⟨⟨o.mod, o.kind, o.glob, o.blt, o.above, o.inj, o.has, o.cab, o.hd, o.frames, o.stk, o.exf, o.bs, o.bsz, o.noex, o.exfs, o.funs, o.frf⟩, B.os, B.bare, B.base, B.loc, B.cell, B.free, B.freeC, fun p hp => ?_, B.hok, B.len⟩
  have hp : p ∈ X.pn := by simpa using hp
  obtain ⟨e, n, nl, nf, nc⟩ := I.pin p (List.mem_append_left _ hp)
  refine ⟨pushCells_keeps _ _ _ _ (Heap.get?_push_of_some _ e), n, Nat.ne_of_lt (Heap.lt_size e), fun z => ?_, nc⟩
  rcases List.mem_cons.mp (I.stkSub p.1 z) with q | q
  · exact nl q
  · exact nf q
/-- the iterator's records, seen from the block -/
theorem statH {scope : Scope} {cenv : Env} {fp : List Addr} {s0 : Shared} {H0 : Hp} {σ' : St} {H' : Hp} {s' : Shared} (I' : Inv (blkH X s0 H0 scope cenv fp) [] σ' H' s') (f : ∀ b ∈ fp, ∀ p ∈ X.pn, p.1 ≠ b) (n : ∀ b ∈ fp, H' b = none) : ∀ b ∈ fp, FpOk (blkH X s0 H0 scope cenv fp) [] H' b := fun b hb =>
  ⟨n b hb, (I'.ok.exf b hb).1, I'.ok.exfs b hb, .inl hb, (I'.ok.exf b hb).2, fun p hp => f b hb p (by simpa using hp)⟩
theorem pe_lcH {elt tg iter : Expr} {ifs : List Expr} {scope : Scope} {own : List (Str × Nat)} {pos : Pos} {wi : TI} {g : TG} {tt : L2.TT} {te : TE} (hc : HotC X) (hN : X.N.Nodup) (hi : PIH X tg iter wi) (ok : BlkOk X.N X.env.scope scope own)
    (hg : ∀ (s : Shared) (H : Hp) (C : Addr) (cl : List (Str × Addr)) (fp : List Addr), PG (blkH X s H scope (compEnvC scope cl C X.env) fp) tg g) (ht : ∀ (s : Shared) (H : Hp) (C : Addr) (cl : List (Str × Addr)) (fp : List Addr), PTs (blkH X s H scope (compEnvC scope cl C X.env) fp) ifs tt)
    (he : ∀ (s : Shared) (H : Hp) (C : Addr) (cl : List (Str × Addr)) (fp : List Addr), PE (blkH X s H scope (compEnvC scope cl C X.env) fp) elt te) (hs : ∀ x, foldedSetIterable iter X.env x = pure x := by intro _; rfl) :
    PE X (.ListComp elt [⟨tg, iter, ifs, 0⟩] scope pos) (tLc wi g tt te (own.map (·.2))) := by
  refine ⟨fun pins s σ H Q I h => ?_⟩
  rw [eval_ListComp]
  have seen : ∀ y ∈ scope.names, y.2 = .free → ∃ c, X.env.cells.lookup y.1 = some c := fun y hy e => (ok.free y hy e).elim (fun k => I.ok.has _ (.inl k)) fun k => I.ok.has _ (.inr k)
  refine wpAny_comprehension_free (use := none) rfl hs (closure_ok seen) ok.kind (fun y hy e => by rw [ok.uniq y hy, e]) (thn (hi.run pins s σ H _ I h) fun xv s1 hx => thn hx fun itv s2 got => ?_)
  obtain ⟨it, fp, tn, J, H2, ei, I2, T, st2, f2, q⟩ := got
  subst ei
  refine wpAny_newObj_type (newEnv_comp ?_) (by show 0 ≤ sizeLine; decide)
  obtain ⟨W, ⟨m0, w0⟩, turn⟩ := q s2.heap.objs.size (I2.hok.fresh (Nat.le_refl _))
  generalize eD : s2.heap.objs.size = L at w0 turn
  have fresh : H2 L = none := I2.hok.fresh (Nat.le_of_eq eD)
  -- the list that is made
  generalize e3 : ({ s2 with heap := s2.heap.push { cls := .type "list", data := .seq ([] : List Value).toArray } } : Shared) = s3
  have p3 : s3.heap = s2.heap.push { cls := .type "list", data := .seq ([] : List Value).toArray } := by rw [← e3]
  have I3 : Inv X pins σ (upd H2 L (.lst [])) s3 := by
    rw [← e3]
    refine I2.laid (t' := s2.toks) (fun b o e => Heap.get?_push_of_some _ e) (Nat.le_of_eq eD) ⟨Nat.zero_le _, [], 0, .nil, ?_⟩
    rw [← eD]; exact Heap.get?_push_size _ rfl
  have low : ∀ b ∈ fp, b < s2.heap.objs.size := fun b hb => by
    obtain ⟨o, e, _⟩ := T.obj _ _ st2 b hb
    exact Heap.lt_size e
  have f3 : ∀ b ∈ fp, FpOk X pins (upd H2 L (.lst [])) b ∧ b < s3.heap.objs.size := fun b hb => by
    have lt := low b hb
    exact ⟨⟨by rw [upd_ne (by rw [← eD]; exact Nat.ne_of_lt lt)]; exact (f2 b hb).1, (f2 b hb).2⟩, by rw [p3, Heap.size_push]; exact Nat.lt_succ_of_lt lt⟩
  have far : ∀ b ∈ fp, ∀ p ∈ X.pn, p.1 ≠ b := fun b hb p hp => (f2 b hb).2.2.2.2.2 p (List.mem_append_left _ hp)
  have st3 : tn 0 s3.heap := T.keep _ _ _ st2 fun b _ o e => by rw [p3]; exact Heap.get?_push_of_some _ e
  have I4 := startH I3 ok hN f3
  have pg := hg s3 (upd H2 L (.lst [])) s3.heap.objs.size (cellsFrom (s3.heap.objs.size + 1) scope.names (cloFrom X.env.cells scope.names [])) fp
  have pt := ht s3 (upd H2 L (.lst [])) s3.heap.objs.size (cellsFrom (s3.heap.objs.size + 1) scope.names (cloFrom X.env.cells scope.names [])) fp
  have pe := he s3 (upd H2 L (.lst [])) s3.heap.objs.size (cellsFrom (s3.heap.objs.size + 1) scope.names (cloFrom X.env.cells scope.names [])) fp
  have none3 : ∀ b ∈ fp, upd H2 L (.lst []) b = none := fun b hb => (f3 b hb).1.1
  show codeAny _ _ (.compStart (.ListComp elt [⟨tg, iter, ifs, 0⟩] scope pos) 0 (.ref it) (.ref L) (compEnvC scope (cellsFrom (s3.heap.objs.size + 1) scope.names (cloFrom X.env.cells scope.names [])) s3.heap.objs.size X.env)) (compPost (model X.prog X.w) X.A X.xe none (EP X pins σ Q) (.ref L) s3.heap.objs.size) { s3 with heap := pushCells (s3.heap.push { cls := .type "dict", data := .dict #[] }) scope.names }
  generalize ec : compEnvC scope (cellsFrom (s3.heap.objs.size + 1) scope.names (cloFrom X.env.cells scope.names [])) s3.heap.objs.size X.env = cenv at I4 pg pt pe ⊢
  have loc : cenv.locals = s3.heap.objs.size := by subst ec; rfl
  generalize eH : upd H2 L (.lst []) = H3 at I3 I4 pg pt pe w0 none3 f3
  have st4 : tn 0 (pushCells (s3.heap.push { cls := .type "dict", data := .dict #[] }) scope.names) := T.keep _ _ _ st3 fun b _ o e => pushCells_keeps _ _ _ _ (Heap.get?_push_of_some _ e)
  generalize e4 : ({ s3 with heap := pushCells (s3.heap.push { cls := .type "dict", data := .dict #[] }) scope.names } : Shared) = s4 at I4 ⊢
  have st4 : tn 0 s4.heap := by rw [← e4]; exact st4
  have run : codeAny (model X.prog X.w) X.A (.compLoop (.ListComp elt [⟨tg, iter, ifs, 0⟩] scope pos) 0 (.ref it) (.ref L) cenv) (compPost (model X.prog X.w) X.A X.xe none (EP X pins σ Q) (.ref L) s3.heap.objs.size) s4 := by
    refine compLoop_any (fun n s' => ∃ i H', Inv (blkH X s3 H3 scope cenv fp) [] (wipe σ (own.map (·.2))) H' s' ∧ tn i s'.heap ∧ (∀ b ∈ fp, H' b = none) ∧ W i n H') (fun n s5 ⟨i, H5, I5, st5, n5, w5⟩ => ?_) m0 ⟨0, H3, I4, st4, none3, w0⟩
    have sp := statH I5 far n5
    rcases turn i n H5 w5 with ⟨stop, fin⟩ | ⟨go, Nx, next, step⟩
    · refine thnF (T.done (blkH X s3 H3 scope cenv fp) rfl rfl rfl hc i [] s5 _ H5 (fun _ _ => False) I5 sp st5 stop) fun r s6 ⟨hr, I6⟩ => ?_
      subst hr
      have back : Inv X pins σ H5 s6 := I3.call' (ch := fp) I6.os I6.base I6.hok I6.bare fun b hb => ⟨(f3 b hb).1.2.2.2.1, (f3 b hb).1.2.1, (f3 b hb).1.2.2.2.2.1, (f3 b hb).1.2.2.2.2.2⟩
      have nC : H5 s3.heap.objs.size = none := by have z : H5 cenv.locals = none := I6.free; rwa [loc] at z
      obtain ⟨m, hm, _⟩ := I6.loc
      have hm : s6.heap.Ns cenv.locals m := hm
      rw [loc] at hm
      refine ⟨m, hm, fun h'' sb => ?_⟩
      obtain ⟨a0, a1, a2, a3, a4, a5⟩ := I3.fpOk (H' := H5) (Nat.le_refl _) nC
      exact ⟨.ref L, H5, back.turned (t' := s6.toks) (fun b o hb e => (sb.2 b hb).trans e) a0 a1 a3 a4 a5, rfl, fin⟩
    · refine thnF (T.item (blkH X s3 H3 scope cenv fp) rfl rfl rfl hc i [] s5 _ H5 (fun _ _ => False) I5 sp st5 go) fun r s6 ⟨u, hr, h6⟩ => ?_
      subst hr
      refine thnF h6 fun _ s7 ⟨x, H7, I7, r7, y7, st7, n7⟩ => ?_
      have I7' := I7.pinned (statH I7 far n7) (T.obj _ _ st7)
      refine thnF (pg.run _ s7 _ H7 x u _ I7' r7 (step x H7 y7)) fun _ s8 ⟨σ8, H8, I8, same, q8⟩ => ?_
      refine thnF (pt.run _ s8 σ8 H8 _ I8 q8) fun b s9 ⟨H9, I9, q9⟩ => ?_
      have again : ∀ {s' : Shared} {H' : Hp}, Inv (blkH X s3 H3 scope cenv fp) ([] ++ pinsAt fp s7.heap) σ8 H' s' → Nx H' → ∃ m, m < n ∧ ∃ i H', Inv (blkH X s3 H3 scope cenv fp) [] (wipe σ (own.map (·.2))) H' s' ∧ tn i s'.heap ∧ (∀ b ∈ fp, H' b = none) ∧ W i m H' := fun {s' H'} I' nx => by
        obtain ⟨m', less, w'⟩ := next H' nx
        have kept : ∀ b ∈ fp, ∀ o, s7.heap.get? b = some o → s'.heap.get? b = some o ∧ H' b = none := fun b hb o e =>
          have z := I'.pin (b, o) (List.mem_append_right _ (List.mem_append_right _ (mem_pinsAt hb e)))
          ⟨z.1, z.2.1⟩
        refine ⟨m', less, i + 1, H', (I'.unpinned (pins := [])).weak (by rw [← same, wipe_length]) (fun j v e => by rw [← same] at e; exact (wipe_some e).1), T.keep _ _ _ st7 fun b hb o e => (kept b hb o e).1, fun b hb => ?_, w'⟩
        obtain ⟨o, e, _⟩ := T.obj _ _ st7 b hb
        exact (kept b hb o e).2
      cases b with
      | false =>
        simp only [Bool.false_eq_true, if_false] at q9 ⊢
        exact again I9 q9
      | true =>
        simp only [if_true] at q9 ⊢
        exact thnF (pe.run _ s9 σ8 H9 _ I9 q9) fun z s10 ⟨yv, H10, I10, r10, acc, hD10, hz10, nx⟩ => app_ok (X := blkH X s3 H3 scope cenv fp) I10 hD10 hz10 r10 fun s11 I11 => again I11 nx
  exact codeAny_compStart_list run (T.self X.A 0 _ _ _ st4 run)
end
end Rm

namespace Rm
open PySem PySem.Spec PyProof.Rows L2
theorem turn_zH {P : Program} {w : World} {K : PySem.W.Frag} {elts : List Expr} {kk : Nat} {tpos : Pos} {z TI TO i1 i2 a1 a2 : Addr} (D : Ap2 z TI TO i1 i2 a1 a2) :
    L2H.TurnH P w K (.Tuple elts kk tpos) (ItZ2 K .l .l a1 a2) [z, TI, TO, i1, i2] z (fun i h => IsZip h z TI TO .none ∧ IsTp2 h TI (.ref i1) (.ref i2) ∧ (∃ v1 v2, IsTp2 h TO v1 v2) ∧ IsIt .l h i1 a1 i ∧ IsIt .l h i2 a2 i) where
  mem := by simp
  obj := fun i h st c hc => by
    obtain ⟨hz, hTI, ⟨v1, v2, hTO⟩, h1, h2⟩ := st
    have e' : c = z ∨ c = TI ∨ c = TO ∨ c = i1 ∨ c = i2 := by simpa using hc
    rcases e' with q | q | q | q | q
    · rw [q]; exact ⟨_, hz, fun v q => nomatch q⟩
    · rw [q]; exact ⟨_, hTI, fun v q => nomatch q⟩
    · rw [q]; exact ⟨_, hTO, fun v q => nomatch q⟩
    · obtain ⟨o, vs, e1, d1⟩ := h1.ex; rw [q]; exact ⟨o, e1, fun v q => by rw [d1] at q; cases q⟩
    · obtain ⟨o, vs, e1, d1⟩ := h2.ex; rw [q]; exact ⟨o, e1, fun v q => by rw [d1] at q; cases q⟩
  keep := fun i h h' st k => by
    obtain ⟨hz, hTI, ⟨v1, v2, hTO⟩, h1, h2⟩ := st
    exact ⟨k z (by simp) _ hz, k TI (by simp) _ hTI, ⟨v1, v2, k TO (by simp) _ hTO⟩, h1.at fun o q => k i1 (by simp) o q, h2.at fun o q => k i2 (by simp) o q⟩
  item := by
    intro X hP hw hK hc i pins s σ H E I hf st hg
    subst hP hw hK
    obtain ⟨hz, hTI, ⟨v1, v2, hTO⟩, h1, h2⟩ := st
    obtain ⟨xs1, xs2, x1, x2, hq1, hq2, hx1, hx2⟩ := hg
    obtain ⟨its1, rv1, p1, _⟩ := inv_sq (k := .l) I hq1
    obtain ⟨u1, hu1, ru1⟩ := rv1.get hx1
    obtain ⟨its2, rv2, p2, _⟩ := inv_sq (k := .l) I hq2
    obtain ⟨u2, hu2, ru2⟩ := rv2.get hx2
    have hzl : z < s.heap.objs.size := Heap.lt_size hz
    refine nx_zip2_item D hz hTI hTO h1 p1 h2 p2 (by simpa using hu1) (by simpa using hu2) fun h' z' TO' n1 n2 hT hsz hk => ?_
    refine ⟨_, rfl, wpAny_letOwnedTupleGo_zip (s := { s with heap := h' }) z' fun h'' z'' sb => ?_⟩
    have hT2 : h''.get? s.heap.objs.size = some { cls := .type "tuple", data := .seq #[u1, u2] } := (sb.2 _ (Nat.ne_of_gt hzl)).trans hT
    have new : ObjOk X.prog X.w (upd H s.heap.objs.size (.tup [x1, x2])) h'' s.heap.objs.size (.tup [x1, x2]) :=
      ⟨by show 2 ≤ sizeLine; decide, [u1, u2], .cons ru1 (.cons ru2 .nil), ⟨_, hT2, rfl, _, rfl⟩⟩
    have I1 : Inv X pins σ (upd H s.heap.objs.size (.tup [x1, x2])) { s with heap := h'' } :=
      I.turnedNew (t' := s.toks) (ch := [z, TI, TO, i1, i2]) (fun c o hb q => (sb.2 c (fun q' => hb (by simp [q']))).trans (hk c o (fun q' => hb (by simp [q'])) (fun q' => hb (by simp [q'])) (fun q' => hb (by simp [q'])) (fun q' => hb (by simp [q'])) q)) hf (Nat.le_refl _) new
    refine ⟨.ref s.heap.objs.size, _, I1, rfl, ⟨_, x1, x2, rfl, I.hok.fresh (Nat.le_refl _), rfl, fun l hl => by rw [inv_sq_inj I hl hq1]; exact hx1, fun l hl => by rw [inv_sq_inj I hl hq2]; exact hx2⟩, ⟨z'', ?_, ⟨u1, u2, ?_⟩, ?_, ?_⟩, fun c hcm => ?_⟩
    · exact (sb.2 _ D.TIz).trans (hk _ _ D.TIz D.TITO D.TIi1 D.TIi2 hTI)
    · exact (sb.2 _ D.TOz).trans TO'
    · exact n1.at fun o q => (sb.2 _ D.i1z).trans q
    · exact n2.at fun o q => (sb.2 _ D.i2z).trans q
    · have hlt : c < s.heap.objs.size := by
        have e' : c = z ∨ c = TI ∨ c = TO ∨ c = i1 ∨ c = i2 := by simpa using hcm
        rcases e' with q | q | q | q | q
        · rw [q]; exact hzl
        · rw [q]; exact Heap.lt_size hTI
        · rw [q]; exact Heap.lt_size hTO
        · obtain ⟨_, _, e1, _⟩ := h1.ex; rw [q]; exact Heap.lt_size e1
        · obtain ⟨_, _, e1, _⟩ := h2.ex; rw [q]; exact Heap.lt_size e1
      rw [upd_ne (Nat.ne_of_lt hlt)]
      exact (hf c hcm).1
  done := by
    intro X hP hw hK hc i pins s σ H E I hf st hg
    subst hP hw hK
    obtain ⟨hz, hTI, ⟨v1, v2, hTO⟩, h1, h2⟩ := st
    obtain ⟨xs1, xs2, hq1, hq2, hend⟩ := hg
    obtain ⟨its1, rv1, p1, _⟩ := inv_sq (k := .l) I hq1
    have len1 := rv1.length
    obtain ⟨its2, rv2, p2, _⟩ := inv_sq (k := .l) I hq2
    have len2 := rv2.length
    have he : its1.toArray[i]? = none ∨ its2.toArray[i]? = none := by
      rcases hend with q | q
      · exact .inl (by simp; omega)
      · exact .inr ((by simp; omega))
    obtain ⟨p, ⟨hh, v1', e1', c1'⟩, hp⟩ := hc
    have hot : HotX.HotAt X.A p.1 s.heap := ⟨hh, p.2, v1', (I.pin p (List.mem_append_left _ hp)).1, e1', c1'⟩
    have ne : ∀ b ∈ [z, TI, TO, i1, i2], p.1 ≠ b := fun b hb => (hf b hb).2.2.2.2.2 p (List.mem_append_left _ hp)
    have D' : ZipApart z TI TO i1 i2 a1 a2 := ⟨D.TIz, D.TOz, D.i1z, D.i2z, D.TITO, D.TIi1, D.TIi2, D.TOi1, D.TOi2, D.i12, D.l1z, D.l1TO, D.l1i1, D.l1i2, D.l2z, D.l2TO, D.l2i1, D.l2i2⟩
    exact zip_hot hot (by simp only [List.mem_cons, List.not_mem_nil, or_false, not_or]; exact ⟨ne z (by simp), ne TO (by simp), ne i1 (by simp), ne i2 (by simp)⟩) D' hz hTI hTO h1 h2 p1 p2 he fun h' hk => ⟨rfl, I.turnedL (t' := s.toks) (ch := [z, TI, TO, i1, i2]) (fun c o hb q => hk c o (fun q' => hb (by
      simp only [List.mem_cons, List.not_mem_nil, or_false] at q' ⊢
      rcases q' with q' | q' | q' | q' <;> simp [q'])) q) hf⟩
  self := fun A i s Q E st h => wpAny_pyIter_zip st.1 h

def iZH (K : PySem.W.Frag) (ta : TA) : TI := fun σ H R => ta σ H fun vs H1 => ∃ a1 a2 xs1 xs2, vs = [.ref a1, .ref a2] ∧ SqK .l K H1 a1 xs1 ∧ SqK .l K H1 a2 xs2 ∧ R (ItZ2 K .l .l a1 a2) H1
theorem pi_zH {X : Cx} {e1 e2 : Expr} {ta : TA} {p pos tpos : Pos} {elts : List Expr} {kk : Nat} (hg : Gl X "zip") (hm : X.mg "zip" = none) (ha : PA X [e1, e2] ta)
    (hs : starEach [e1, e2] X.env = (false, eval e1 X.env) :: starEach [e2] X.env := by rfl) (hpl : (backTo pos (starEach [e2] X.env)).any (·.1) = false := by rfl) :
    L2H.PIH X (.Tuple elts kk tpos) (.Call (.Name "zip" p) [e1, e2] [] pos) (iZH X.K ta) := by
  refine ⟨fun pins s σ H R I h => ?_⟩
  refine Call_ (ld_blt I hg hm PyProof.Rows.boot_zip (PyProof.Rows.callWith_type1 (thn (ha.run pos pins s σ H _ I h) fun us s1 ⟨vs, H1, I1, r1, q1⟩ => ?_) hs hpl))
  obtain ⟨a1, a2, xs1, xs2, ex, hq1, hq2, q⟩ := q1
  subst ex
  obtain rfl : us = [.ref a1, .ref a2] := by
    cases r1 with
    | cons r rr =>
      cases rr with
      | cons r' rr => cases rr; cases r; cases r'; rfl
  obtain ⟨its1, rv1, p1, _⟩ := inv_sq (k := .l) I1 hq1
  obtain ⟨its2, rv2, p2, _⟩ := inv_sq (k := .l) I1 hq2
  have fresh : ∀ c, c ∈ [s1.heap.objs.size + 4, s1.heap.objs.size + 2, s1.heap.objs.size + 3, s1.heap.objs.size, s1.heap.objs.size + 1] → FpOk X pins H1 c := fun c hcm => by
    have hle : s1.heap.objs.size ≤ c := by
      simp only [List.mem_cons, List.not_mem_nil, or_false] at hcm
      rcases hcm with q | q | q | q | q <;> rw [q] <;> first | exact Nat.le_add_right _ _ | exact Nat.le_refl _
    exact I1.fpOk hle (I1.hok.fresh hle)
  refine zcall2 p1 p2 fun h' hz hTI hTO m1 m2 hk => wpAny_pyIter_zip hz ?_
  have I2 : Inv X pins σ H1 { s1 with heap := h' } := I1.kept (t' := s1.toks) hk
  exact ⟨s1.heap.objs.size + 4, [s1.heap.objs.size + 4, s1.heap.objs.size + 2, s1.heap.objs.size + 3, s1.heap.objs.size, s1.heap.objs.size + 1], _, _, H1, rfl, I2, turn_zH (ap2 s1.heap.objs.size a1 a2 p1.lt p2.lt), ⟨hz, hTI, ⟨_, _, hTO⟩, m1, m2⟩, fresh, q⟩
end Rm

namespace Rm
open PySem PySem.Spec PyProof.Rows L2 L2H

/-! ### Rm's rules while an exception is handled -/
section
variable {X : Cx} {E : XK} {pos : Pos}
theorem pg_tupH {es : List Expr} {k : Nat} {t : L2.TGs} {n : Nat} (hc : HotC X) (h : PGs X es t) (hn : (assignEach es X.env).length = n := by rfl) (hst : (assignEach es X.env).findIdx? (·.1) = none := by rfl) : PG X (.Tuple es k pos) (gTup X.K n t) := by
  refine ⟨fun pins s σ H v u Q I r hw => ?_⟩
  obtain ⟨a, xs, rfl, hq, hl, hw⟩ := hw
  cases r
  obtain ⟨its, rv, ht, hz⟩ := I.tuple hq
  obtain ⟨x1, hot⟩ := hc.at I
  rw [assign_Tuple]
  refine wpAny_bind (wpAny_standAt (unpack_hot hot ht (by simp [hn, ← hl, rv.length]) hst fun h' bt => ?_))
  have I1 : Inv X pins σ H { s with heap := h' } := I.kept (t' := s.toks) fun b o e => bt b o (fun z => by
    have := Heap.lt_size e
    rw [List.mem_singleton] at z
    rw [z] at this
    exact absurd this (Nat.lt_irrefl _)) e
  exact h.run pins _ σ H xs _ Q I1 (by simpa using rv) hw
theorem c_tpH {es : List Expr} {k n : Nat} {g : Gvs} {is : List Nat} (hc : HotC X) (h : Gcs X E is es g) (hn : (assignEach es X.env).length = n := by rfl) (hst : (assignEach es X.env).findIdx? (·.1) = none := by rfl) : Gc X E is (.Tuple es k pos) (gTp n g) :=
  pg_imp (pg_tupH hc h hn hst) fun v σ H Q ⟨β, env, h, d, rl, re, rd, o⟩ => by
    cases d with
    | tup ds =>
      by_cases hl : ds.length = n
      · simp only [gTp, hl, if_true] at o
        obtain ⟨_, p, us, rfl, t, rs⟩ := rd
        exact ⟨p, us, rfl, t.sq, by rw [← rs.length]; exact hl, β, env, h, ds, rl, re, rs, o⟩
      · simp only [gTp, hl, if_false] at o; exact o.elim
    | _ => exact o.elim
def IxH (X : Cx) (E : XK) (tg e : Expr) (f : Iv) : Prop := PIH X tg e (TIt X.K X.mg E f)
/-- zip of two frozen lists -/
def itZipF (fs : Av) : Iv := fun env h => (fs env h).bind fun ds h1 => match ds with
  | [a, b] => (match a, b with
    | .fl xs, .fl ys => .ok ⟨(xs.zip ys).map fun q => .tup [q.1, q.2], [] ++ []⟩ h1
    | _, _ => .bad)
  | _ => .bad
theorem seq_fl {K : PySem.W.Frag} {mg : Str → Option Value} {β : Bt} {H : Hp} {p : Addr} {vs : List V} {xs : List D} (t : FlAt β H p vs) (rs : Reps K β H xs vs) : SeqOf K mg β H .l p xs [] := ⟨fun β' h' H' x rl' w => ⟨vs, (t.ext x).sq, Reps.ext x _ _ rs⟩⟩
theorem it_zipH {a b : Expr} {fs : Av} {p tpos : Pos} {elts : List Expr} {kk : Nat} (h : Ax X E [a, b] fs) (hm : X.mg "zip" = none) (hg : Gl X "zip" := by rfl)
    (hs : starEach [a, b] X.env = (false, eval a X.env) :: starEach [b] X.env := by rfl) (hpl : (backTo pos (starEach [b] X.env)).any (·.1) = false := by rfl) :
    IxH X E (.Tuple elts kk tpos) (.Call (.Name "zip" p) [a, b] [] pos) (itZipF fs) := by
  have base := pi_zH (tpos := tpos) (elts := elts) (kk := kk) (pos := pos) (p := p) hg hm h hs hpl
  refine ⟨fun pins s σ H R I q => base.run pins s σ H R I ?_⟩
  obtain ⟨β, env, h, rl, re, o⟩ := q
  refine ⟨β, env, h, rl, re, (OutG.bind o).mono fun ds β1 h1 H1 x1 rl1 o1 vs rs => ?_⟩
  match ds, rs, o1 with
  | [d1, d2], rs, o1 =>
    obtain ⟨v1, v2, rfl, r1, r2⟩ := reps2 rs
    cases d1 <;> try exact o1.elim
    cases d2 <;> try exact o1.elim
    obtain ⟨_, p1, u1, rfl, t1, s1⟩ := r1
    obtain ⟨_, p2, u2, rfl, t2, s2⟩ := r2
    exact ⟨p1, p2, u1, u2, rfl, t1.sq, t2.sq, o1.ok rl1 _ (walk_z2 (seq_fl t1 s1) (seq_fl t2 s2) fun _ => watch_app)⟩
  | [], _, o1 => exact o1.elim
  | [_], _, o1 => exact o1.elim
  | _ :: _ :: _ :: _, _, o1 => exact o1.elim
variable {f : Iv} {g : Gv} {c : Tv} {e : Ev} {is : List Nat} {elt tg iter : Expr} {ifs : List Expr} {scope : Scope} {owns : List (Str × Nat)}
abbrev blkXH (X : Cx) (scope : Scope) (s : Shared) (H : Hp) (C : Addr) (cl : List (Str × Addr)) (fp : List Addr) : Cx := blkH X s H scope (compEnvC scope cl C X.env) fp
theorem x_lcFH (hc : HotC X) (hN : X.N.Nodup) (hi : IxH X E tg iter f) (ok : blkC X.N X.env.scope scope owns = true) (hg : ∀ s H C cl fp, Gc (blkXH X scope s H C cl fp) noE is tg g) (ht : ∀ s H C cl fp, Tsx (blkXH X scope s H C cl fp) noE ifs c)
    (he : ∀ s H C cl fp, Ex (blkXH X scope s H C cl fp) noE elt e) (hii : ∀ i ∈ is, i ∈ owns.map (·.2) := by decide) (hs : ∀ x, foldedSetIterable iter X.env x = pure x := by intro _; rfl) :
    Ex X E (.ListComp elt [⟨tg, iter, ifs, 0⟩] scope pos) (mLcF f g c e (owns.map (·.2))) :=
  pe_imp (pe_lcH (g := TGc X.K X.mg noE is g) (tt := TT X.K X.mg noE c) (te := TX X.K X.mg noE e) hc hN hi (blkOk_by ok) hg ht he hs) fun σ H Q q => lcF_imp hii q
end
end Rm

namespace Rm
open PySem PySem.Spec PyProof.Rows L2 L2H

/-! ### the handled exception, asked for its class -/
section
variable {X : Cx} {E : XK} {pos : Pos}
/-- isinstance(e, c), e an exception in sight, without a dict of its own -/
theorem call_isP {a C : Addr} {oe : Obj} (hp : (a, oe) ∈ X.pn) (F : ExcC X.K C) (hz : Zc (.ref C) none oe) (hf : ∃ vs, oe.data = .fields vs) : CallR X (.builtin "isinstance") (rIsE X.K C a) := by
  intro pins s σ H xs us Q I r h
  obtain ⟨c, cv, b, rfl, hcv, e, q⟩ := h
  obtain ⟨u1, u2, rfl, r1, r2⟩ := Vals.two r
  cases r1
  have ec := hcv _ r2
  subst ec
  have at_ := (I.pin (a, oe) (List.mem_append_left _ hp)).1
  have J : PySem.W.InstAt s.heap a oe C none := by
    obtain ⟨vs, hv⟩ := hf
    obtain ⟨oc, od, oda, osl⟩ := oe
    obtain ⟨z1, z2⟩ := hz
    dsimp only at z1 z2 hv
    subst z1 z2 hv
    exact ⟨at_, rfl, rfl, trivial⟩
  exact PySem.W.kia_one (PySem.W.handS_kitx_exc F.hg F.hk F.hs F.hd F.ha F.hn F.ht F.hm) I.kIn J e (fun z => nomatch z) fun tk => ⟨.bl b, H, I.kept (t' := tk) fun _ _ z => z, rfl, q⟩
end
end Rm

namespace Rm
open PySem PySem.Spec PyProof.Rows L2 LamX

/-! ### several except clauses, each with a name -/
/-- D with slot i wiped at the end of a clause -/
def wipeEnd (D : Ends) (i : Nat) : Ends := { nx := fun σ' H' => D.nx (σ'.set i none) H', rt := D.rt, bk := fun σ' H' => D.bk (σ'.set i none) H', ct := fun σ' H' => D.ct (σ'.set i none) H' }
def wManyA (K : PySem.W.Frag) (Wout : WX) (D : Ends) (i : Nat) : List (Value × (Addr → Value → Option Addr → TS)) → WX
  | [] => Wout
  | (c, ts) :: r => fun cls d σ H => ∃ b, PySem.W.exmOne K cls c = some b ∧ (b = true → ∀ a, H a = none → ts a cls d (wipeEnd D i) (σ.set i (some (.ref a))) H) ∧ (b = false → wManyA K Wout D i r cls d σ H)
def wLen (X : Cx) (W : WX) : WX := fun cls d σ H => σ.length = X.N.length → W cls d σ H
inductive HdsA (X : Cx) (n : Str) : List ExceptHandler → List (Value × (Addr → Value → Option Addr → TS)) → Prop
  | nil : HdsA X n [] []
  | cons {x : Str} {c : Value} {ts : Addr → Value → Option Addr → TS} {b₀ : Stmt} {suite : List Stmt} {np pos' : Pos} {hds : List ExceptHandler} {l : List (Value × (Addr → Value → Option Addr → TS))} (hc : Names X x c)
      (hsu : ∀ (a : Addr) (oe : Obj) (cls : Value) (d : Option Addr) (pn : List (Addr × Obj)), L2N.Zn cls d oe → (∃ vs, oe.data = .fields vs) → PSs (X.suite a ((a, oe) :: pn)) (b₀ :: suite) (ts a cls d)) (r : HdsA X n hds l) :
      HdsA X n (.ExceptHandler (some (.Name x np)) (some n) (b₀ :: suite) pos' :: hds) ((c, ts) :: l)
section
variable {X : Cx} {n : Str} {i : Nat} {body : List Stmt} {h₀ : ExceptHandler} {hds : List ExceptHandler} {l : List (Value × (Addr → Value → Option Addr → TS))} {pos : Pos} {tb : WX → TS} {Wout : WX}
theorem ps_try_manyA (hs : X.stack = X.env :: X.outer) (hf : X.env.frame = some X.env.locals) (hN : X.N.Nodup) (hi : X.N[i]? = some n) (hln : X.env.kindOf n = some .local) (tk : L2N.Takes X Wout)
    (hb : ∀ (W : WX) (pn : List (Addr × Obj)) (xe : Value → Shared → Prop), L2N.Takes (X.tr pn xe) W → PassesOwn (model X.prog X.w) X.A X.env xe → PSs (X.tr pn xe) body (tb W))
    (hh : HdsA X n (h₀ :: hds) l) : PS X (.Try body (h₀ :: hds) [] [] pos) (fun D σ H => tb (wLen X (wManyA X.K Wout D i l)) D σ H) := by
  refine ⟨fun pins s σ H D I h => ?_⟩
  have ok := I.ok
  have hfr : X.A.frames = some (X.env :: X.outer) := by rw [ok.frames, hs]
  have hloc : Loc X.env.scope n := .inl hln
  refine wpAny_Try_except ?_
  refine wpAny_mono ((hb (wLen X (wManyA X.K Wout D i l)) (X.pn ++ pins) (fun e s₁ => wpAny (model X.prog X.w) X.A (noteFrame e X.env) (fun _ s₂ => wpAny (model X.prog X.w) X.A (setFlight e none) (fun _ s₃ =>
    wpAny (model X.prog X.w) X.A (handleBy e X.env (h₀ :: hds)) (SP X pins D) X.xe s₃) X.xe s₂) X.xe s₁) (fun u s' xx => ?_) PassesOwn.looking).run [] s σ H D (I.toTry _) h) (fun f s1 hsp => ?_) (fun e s1 he => he)
  · -- the catch
    obtain ⟨a, B, sI, pins', σ', H', cls, d, rfl, J', nb, up, sky, na, os, ag, w⟩ := xx
    have J : Inv X pins σ' H' sI := J'.ofTry ok
    have sky' : L2.Sky B (X.env :: X.outer) a (L2N.Zn cls d) X.env.locals s'.heap := by rw [← hs]; exact sky
    show wpAny (model X.prog X.w) X.A (noteFrame (.ref a) X.env) _ _ _
    refine L2N.Sky.land L2N.Zn.steady hfr hf sky' fun h3 fl3 up3 => ?_
    have J3 : Inv X pins σ' H' { s' with heap := h3 } := J.landed nb fl3.1 (up.trans up3) os ag
    obtain ⟨oe3, vs3, he3, hz3, hd3⟩ := fl3.there
    have notFr : ∀ {h : Heap} {o : Obj} {vs : Array Value}, h.FunFrames B (X.env :: X.outer) → h.get? a = some o → o.data = .fields vs → a ∉ frs (X.env :: X.outer) := fun {h o vs} ff e dd hm => by
      obtain ⟨_, o', e', hnf⟩ := ff.mem hm
      rw [e] at e'; cases e'
      exact hnf _ dd
    have nfr := notFr fl3.2.2.1 he3 hd3
    have nL : a ≠ X.env.locals := fun z => nfr (List.mem_filterMap.mpr ⟨X.env, List.mem_cons_self, by rw [hf, z]⟩)
    have nF : a ∉ X.fs := fun hm => by
      obtain ⟨e, he, q⟩ := List.mem_filterMap.mp hm
      exact nfr (List.mem_filterMap.mpr ⟨e, List.mem_cons_of_mem _ he, q⟩)
    have S3 := J3.suite he3 hd3 na nL nF
    have go : ∀ {hds' : List ExceptHandler} {l' : List (Value × (Addr → Value → Option Addr → TS))}, HdsA X n hds' l' → wManyA X.K Wout D i l' cls d σ' H' →
        wpAny (model X.prog X.w) X.A (handleBy (.ref a) X.env hds') (SP X pins D) X.xe { s' with heap := h3 } := by
      intro hds' l' hk
      induction hk with
      | nil =>
        intro w
        refine wpAny_handleBy_nil ?_
        obtain ⟨k1, k2, k3, oe, vs, T, oT, ts', he, hz, hd, h1, hr⟩ := id fl3
        unfold PySem.passOn
        refine wpAny_bind (wpAny_field he hd h1 ?_)
        rw [if_neg (show ¬ ((Value.ref T == Value.none) = true) from by simp)]
        have fin : wpAny (model X.prog X.w) X.A (setFlight (.ref a) X.env.frame) (fun _ s4 => wpAny (model X.prog X.w) X.A (throw (.ref a) : Sem Flow) (SP X pins D) X.xe s4) X.xe { s' with heap := h3 } := by
          rw [hf]
          refine HandSPX.setFlight_upZ fl3 fun h4 hh4 up4 => wpAny_throw (tk _ _ ?_)
          exact ⟨a, B, sI, pins, σ', H', cls, d, rfl, J, nb, (up.trans up3).trans up4, .inr (.inr (by rw [hs]; exact hh4)), na, os, ag, w⟩
        first
          | exact wpAny_bind (wpAny_pure (wpAny_bind fin))
          | exact wpAny_bind fin
      | @cons x c ts b₀ suite np pos' hds2 l2 hc hsu r ih =>
        intro w
        obtain ⟨b, hb1, hyes, hno⟩ := w
        refine wpAny_handleBy_cons (codeAny_handlers_test ?_) (by intro q; cases q)
        have LT : PySem.W.Looks (model X.prog X.w) h3 (typeOf (.ref a)) cls := fun A Q E s k q => wpAny_typeOf_ref (k _ _ he3) (by rw [hz3.1]; exact q)
        have LM := PySem.W.exm_one (M := model X.prog X.w) (J3.kIn) LT hb1
        have test : ∀ {Q : Value → Shared → Prop} {E : Value → Shared → Prop}, Q c { s' with heap := h3 } → wpAny (model X.prog X.w) (X.A.mark (some (.ref a))) (eval (.Name x np) X.env) Q E { s' with heap := h3 } := fun {Q E} q => by
          obtain ⟨hg, hdbg, hm | ⟨hm, hv, hnn⟩⟩ := hc
          · exact ld_glob (X := X.suite a ((a, oe3) :: (X.pn ++ pins))) S3 hg hm q hdbg
          · exact ld_blt (X := X.suite a ((a, oe3) :: (X.pn ++ pins))) S3 hg hm hv q hnn hdbg
        refine test (LM.here ?_)
        cases b with
        | true =>
          refine codeAny_handlers_suite_as ?_
          refine HandSPX.lands_againZ fl3 fun h4 fl4 up4 => ?_
          have J4 : Inv X pins σ' H' { s' with heap := h4 } := J.landed nb fl4.1 ((up.trans up3).trans up4) os ag
          obtain ⟨oe4, vs4, he4, hz4, hd4⟩ := fl4.there
          have S4 := J4.suite he4 hd4 na nL nF
          refine store_ok (X := X.suite a ((a, oe4) :: (X.pn ++ pins))) (v := .ref a) S4 hN hi hloc rfl (fun s5 S5 => ?_) (.inr hln)
          refine wpAny_mono ((hsu a oe4 cls d (X.pn ++ pins) hz4 ⟨_, hd4⟩).run [] s5 _ H' _ S5 (hyes rfl a na)) (fun f s6 hsp => ?_) (fun _ _ z => False.elim z)
          have end_ : ∀ {σ6 : L2.St} {H6 : Hp} {Q : Shared → Prop}, Inv (X.suite a ((a, oe4) :: (X.pn ++ pins))) [] σ6 H6 s6 → (∀ s7, Inv X pins (σ6.set i none) H6 s7 → Q s7) →
              wpAny (model X.prog X.w) X.A (do bindName X.env n .none; unbindBehindTheSuite X.env n pos') (fun _ s7 => Q s7) X.xe s6 := fun {σ6 H6 Q} S6 hq => gone_ok (S6.unsuite ok) hN hi hln hq
          cases f with
          | next =>
            obtain ⟨σ6, H6, S6, q6⟩ := hsp
            exact end_ S6 fun s7 J7 => ⟨_, _, J7, q6⟩
          | brk =>
            obtain ⟨σ6, H6, S6, q6⟩ := hsp
            exact end_ S6 fun s7 J7 => ⟨_, _, J7, q6⟩
          | cont =>
            obtain ⟨σ6, H6, S6, q6⟩ := hsp
            exact end_ S6 fun s7 J7 => ⟨_, _, J7, q6⟩
          | ret u =>
            obtain ⟨v6, σ6, H6, S6, r6, q6⟩ := hsp
            exact end_ S6 fun s7 J7 => ⟨_, _, _, J7, r6, q6⟩
        | false =>
          show wpAny _ X.A (handleBy (.ref a) X.env hds2) _ _ _
          exact ih (hno rfl)
    exact go hh (w J.len)
  · cases f with
    | next =>
      obtain ⟨σ', H', J', q⟩ := hsp
      exact wpAny_execs_nil ⟨σ', H', J'.ofTry ok, q⟩
    | brk =>
      obtain ⟨σ', H', J', q⟩ := hsp
      exact ⟨σ', H', J'.ofTry ok, q⟩
    | cont =>
      obtain ⟨σ', H', J', q⟩ := hsp
      exact ⟨σ', H', J'.ofTry ok, q⟩
    | ret u =>
      obtain ⟨v, σ', H', J', r, q⟩ := hsp
      exact ⟨v, σ', H', J'.ofTry ok, r, q⟩
end

/-! ### a lambda without parameters, called in the def that got it -/
/-- the context of the lambda's body, entered at s from the frames outer -/
def lamCxN (X : Cx) (A : Around) (outer : List Env) (s : Shared) (H : Hp) (E : XK) (scope : Scope) (f c' : Addr) : Cx where
  prog := X.prog
  w := X.w
  K := X.K
  mg := X.mg
  base := X.base
  A := A.deeper (lamEnv X scope s.heap.objs.size f c')
  N := X.N
  s_0 := s
  H_0 := H
  env := lamEnv X scope s.heap.objs.size f c'
  outer := outer
  stack := lamEnv X scope s.heap.objs.size f c' :: outer
  ex := []
  fn := fun _ => false
  calm := true
  pn := []
  xe := fun e s' => wpAny (model X.prog X.w) (A.deeper (lamEnv X scope s.heap.objs.size f c')) (leaving (lamEnv X scope s.heap.objs.size f c') e) (fun _ s'' => L2N.CX X.prog X.w outer H s E e s'') (fun e' s'' => L2N.CX X.prog X.w outer H s E e' s'') s'
section
variable {X : Cx} {pins : List (Addr × Obj)} {σ : L2.St} {H HZ : Hp} {s s1 : Shared}
theorem lam_startN {A : Around} {outer : List Env} {E : XK} {scope : Scope} {f c' : Addr} {h₁ : Heap} {tk : Nat} (I : Inv X pins σ H s) (L : LamS X.env.scope scope) (e0 : Env0 X.prog X.w X.K X.mg X.base A outer s1 HZ) (hd : A.handled = none)
    (un : Un (frs X.stack) [] H HZ s.heap s1.heap) (hns : h₁.Ns s1.heap.objs.size fun y => ([] : List (Str × Value)).reverse.lookup y) (kp : ∀ b o, s1.heap.get? b = some o → h₁.get? b = some o) :
    Inv (lamCxN X A outer s1 HZ E scope f c') [] σ HZ { s1 with heap := h₁, toks := tk } :=
  (lam_start2 (E := E) I L e0 hd un hns kp).wish _
theorem pe_actN {CXg : CXT} {Eg : XK} {Ng : List Str} {qg : Str} {sg : Scope} {g f c' : Addr} {cdg pm ctv : Value} {params : Arguments} {body : Expr} {scope : Scope} {k i : Nat} {a : Str} {pn : List (Addr × Obj)} {xe : Value → Shared → Prop} {W : WX} {E : XK} {tb : TE} {p1 p2 : Pos}
    (I : Inv X pins σ H s) (L : LamS X.env.scope scope) (hf : s.heap.get? f = some (PySem.W.kla_obj "<lambda>" (X.env.qual ++ "<lambda>") params body scope (cloFrom X.env.cells scope.names []) pm c' ctv)) (hfn : H f = none) (hfr : f ∉ frs X.stack)
    (hbind : bindArgs (PySem.W.kla_fn "<lambda>" (X.env.qual ++ "<lambda>") params body scope (cloFrom X.env.cells scope.names []) pm (.ref c') ctv) ⟨[], []⟩ = pure [])
    (tk : L2N.Takes ((cxOf CXg X.prog X.w X.K X.mg X.base Ng qg sg g cdg X.A X.stack s H Eg).tr pn xe) W) (hW : ∀ cls d σ' H', E cls d H' → W cls d σ' H') (hr : Room (k + 1) (X.A.deeper (envOfC qg sg s.heap.objs.size g cdg)))
    (hbody : ∀ (A : Around) (outer : List Env) (s : Shared) (H : Hp), Room k (A.deeper (lamEnv X scope s.heap.objs.size f c')) → PE (lamCxN X A outer s H E scope f c') body tb)
    (hN : Ng[i]? = some a) (hv : Vis sg a) (hd : (a == ("__debug__" : Str)) = false := by decide) (hcd : (a == ("__classdict__" : Str)) = false := by decide) :
    PE ((cxOf CXg X.prog X.w X.K X.mg X.base Ng qg sg g cdg X.A X.stack s H Eg).tr pn xe) (.Call (.Name a p1) [] [] p2)
      (fun σZ HZ Q => σZ[i]? = some (some (.ref f)) ∧ HZ c' = some (CodeO c' (X.env.qual ++ "<lambda>")) ∧ tb σ HZ Q) := by
  refine ⟨fun pinsZ sZ σZ HZ Q IZ h => ?_⟩
  obtain ⟨hs, hc, ht⟩ := h
  refine wpAny_Call_Name_kw (thn ((pe_var (pos := p1) (i := i) hN hv hd hcd).run pinsZ sZ σZ HZ (fun v H1 => v = .ref f ∧ H1 = HZ) IZ ⟨.ref f, hs, rfl, rfl⟩) fun u s1 ⟨v, H1, I1, r1, q1⟩ => ?_)
  obtain ⟨ev, eH⟩ := q1
  subst ev
  rw [eH] at I1
  obtain rfl : u = Value.ref f := r1
  have of1 : s1.heap.get? f = some (PySem.W.kla_obj "<lambda>" (X.env.qual ++ "<lambda>") params body scope (cloFrom X.env.cells scope.names []) pm c' ctv) := I1.base.keep f _ hf hfn hfr (fun z => nomatch (show f ∈ ([] : List Addr) from z))
  refine PySem.W.callWith_F0 ⟨_, _, _, _, of1⟩ ?_
  have un : Un (frs X.stack) [] H HZ s.heap s1.heap := I1.base
  obtain ⟨⟨oc, vs, t, hoc, hdc, hvc⟩, _, _⟩ := I1.hok c' _ hc
  have rc : codeAny (model X.prog X.w) (X.A.deeper (envOfC qg sg s.heap.objs.size g cdg)) (.call (.ref f) ⟨[], []⟩) (CR (L2N.CX X.prog X.w) (envOfC qg sg s.heap.objs.size g cdg :: X.stack) X.prog X.w HZ s1 Q E) s1 := by
    refine PySem.W.kla_callFunE hr.depth of1 rfl L.co L.gen rfl ⟨c', oc, vs, t, rfl, hoc, hdc, hvc⟩ ?_
    rw [hbind]
    refine wpAny_pure (wpAny_newFunctionEnv (fun y hy => (L.own y hy).2) (fun y hy => absurd hy (by simp)) (fun h₁ hns hsb => ⟨I1.nolimit.fresh _ hsb, ?_⟩) L.kind)
    show codeAny _ _ (.expr body (lamEnv X scope s1.heap.objs.size f c')) _ _
    have kp : ∀ b o, s1.heap.get? b = some o → h₁.get? b = some o := fun b o e => hsb.extBut b o (Nat.ne_of_lt (Heap.lt_size e)) (Heap.get?_push_of_some _ e)
    have J : Inv (lamCxN X (X.A.deeper (envOfC qg sg s.heap.objs.size g cdg)) (envOfC qg sg s.heap.objs.size g cdg :: X.stack) s1 HZ E scope f c') [] σ HZ { s1 with heap := h₁, toks := s1.toks + ([] : List (Str × Value)).length } :=
      lam_startN I L I1.env0 hr.hd un hns kp
    refine PySem.W.kla_codeExpr (wpAny_mono ((hbody _ _ s1 HZ (hr.deeper _)).run [] _ _ HZ Q J ht) (fun v s' hq => ?_) fun e s' hq => hq)
    obtain ⟨w', H', J', rv, q⟩ := hq
    exact ⟨w', H', J'.os, J'.bare, J'.base, J'.hok, rv, q⟩
  have hx : Passes (L2N.CX X.prog X.w) ((cxOf CXg X.prog X.w X.K X.mg X.base Ng qg sg g cdg X.A X.stack s H Eg).tr pn xe) E := L2N.passes_call tk hW
  refine wpAny_call (codeAny_mono rc fun r s' hq => ?_)
  cases r with
  | error e => exact hx pinsZ σZ HZ s1 e s' I1 hq
  | ok fl =>
    cases fl with
    | ret u => exact I1.after hq
    | next => exact False.elim hq
    | brk => exact False.elim hq
    | cont => exact False.elim hq
end
section
variable {X : Cx} {pins : List (Addr × Obj)} {σ : L2.St} {H : Hp} {s : Shared}
/-- the lambda is made, as the kit's rule has it, with one word more: nothing that was tracked goes -/
theorem lam_make3 {T : List (Addr × Str)} {c P : Addr} {params : Arguments} {body : Expr} {scope : Scope} {pos : Pos} {E : Value → Shared → Prop} {Q : Value → Shared → Prop} (I : Inv X pins σ H s) (TB : TabB X.base X.mg c P) (hcode : X.env.code = .ref c)
    (hm : (P, X.env.qual ++ "<lambda>") ∈ T) (hu : ∀ p ∈ T, p.1 = P → p.2 = X.env.qual ++ "<lambda>") (hT : Tabs T H) (hdef : defaultsOf params X.env = ([], [])) (hfree : ∀ y ∈ scope.names, y.2 = .free → ∃ c, X.env.cells.lookup y.1 = some c)
    (h : ∀ (f c' : Addr) (pm ctv : Value) (H1 : Hp) (s' : Shared), Inv X pins σ H1 s' → ExtN H H1 → (∀ b, H b ≠ none → H1 b ≠ none) → Tabs T H1 →
      s'.heap.get? f = some (PySem.W.kla_obj "<lambda>" (X.env.qual ++ "<lambda>") params body scope (cloFrom X.env.cells scope.names []) pm c' ctv) → H1 f = none → f ∉ frs X.stack → H1 c' = some (CodeO c' (X.env.qual ++ "<lambda>")) → Q (.ref f) s') :
    wpAny (model X.prog X.w) X.A (eval (.Lambda params body scope pos) X.env) Q E s := by
  obtain ⟨ps, hP, ht, ha⟩ := hT _ hm
  refine PySem.W.kla_eval hdef ?_
  have bP : s.heap.BuiltinsAt X.mg P := TB.bm.keeps I.bk
  have hP' : s.heap.get? P = some { cls := .none, data := .fields ps } := I.hok P _ hP
  have nofr : ∀ f, s.heap.objs.size ≤ f → f ∉ frs X.stack := fun f hf z => by
    rcases List.mem_cons.mp (I.stkSub _ z) with e | e
    · have h1 := I.lt
      rw [← e] at h1
      exact Nat.lt_irrefl _ (Nat.lt_of_lt_of_le h1 hf)
    · exact I.nofs hf e
  cases hc : codeAmong pos ps.toList with
  | none =>
    refine PySem.W.kla_makeFunction (mg := X.mg) (c := c) (P := P) (ps := ps) (closure_ok hfree) I.ok.glob (I.mod.glob.keeps I.bk) hcode (TB.code.keeps I.bk) hP' ht hc TB.gP bP fun c' ctv h' tk hx hge hlt hrec htb => ?_
    obtain ⟨c2, oc, vs, t, e2, hoc, hd, hv⟩ := hrec
    cases e2
    have hsz : s.heap.objs.size ≤ h'.objs.size := Nat.le_trans hge (Nat.le_of_lt hlt)
    have nC : H c' = none := I.hok.fresh hge
    have I1 := inv_table (t' := tk) (more := #[rawInt pos.line, rawInt pos.col, .ref c']) (h' := h'.push (PySem.W.kla_obj "<lambda>" (X.env.qual ++ "<lambda>") params body scope (cloFrom X.env.cells scope.names []) ((X.mg "__name__").getD .none) c' ctv)) I hP
      (fun b o hb e => Heap.get?_push_of_some _ (hx b o hb e)) (Heap.get?_push_of_some _ htb) hge ⟨oc, vs, t, Heap.get?_push_of_some _ hoc, hd, hv⟩
    have hE : ExtN H (upd (upd H P (.tbl (ps ++ #[rawInt pos.line, rawInt pos.col, .ref c']))) c' (CodeO c' (X.env.qual ++ "<lambda>"))) := fun b o e n => by
      rw [upd_ne (ne_of_none e nC), upd_ne (fun z => n ps (Option.some.inj (e.symm.trans (by rw [z]; exact hP))))]
      exact e
    have hDom : ∀ b, H b ≠ none → (upd (upd H P (.tbl (ps ++ #[rawInt pos.line, rawInt pos.col, .ref c']))) c' (CodeO c' (X.env.qual ++ "<lambda>"))) b ≠ none := fun b hb => by
      by_cases z1 : b = c'
      · rw [z1, upd_same]; simp
      · rw [upd_ne z1]
        by_cases z2 : b = P
        · rw [z2, upd_same]; simp
        · rw [upd_ne z2]; exact hb
    have eL : (ps ++ #[rawInt pos.line, rawInt pos.col, .ref c']).toList = ps.toList ++ [rawInt pos.line, rawInt pos.col, .ref c'] := by simp
    refine h h'.objs.size c' ((X.mg "__name__").getD .none) ctv _ _ I1 hE hDom (fun p hp => ?_) (Heap.get?_push_size _ rfl) ?_ (nofr _ hsz) upd_same
    · by_cases hb : p.1 = P
      · rw [hu p hp hb, hb]
        refine ⟨_, by rw [upd_ne (ne_of_none hP nC), upd_same], by rw [eL]; exact PySem.TriplesOk_snoc _ _ _ _ ht, fun p' cv hcv => ?_⟩
        rw [eL] at hcv
        rcases among_app _ ht hcv with z | z
        · obtain ⟨c0, e1, e2⟩ := ha p' cv z
          exact ⟨c0, e1, hE _ _ e2 codeO_ne⟩
        · exact ⟨c', z, upd_same⟩
      · obtain ⟨ps', a1, a2, a3⟩ := hT p hp
        refine ⟨ps', by rw [upd_ne (ne_of_none a1 nC), upd_ne hb]; exact a1, a2, fun p' cv hcv => ?_⟩
        obtain ⟨c0, e1, e2⟩ := a3 p' cv hcv
        exact ⟨c0, e1, hE _ _ e2 codeO_ne⟩
    · have n1 : h'.objs.size ≠ c' := Nat.ne_of_gt hlt
      have n2 : h'.objs.size ≠ P := Nat.ne_of_gt (Nat.lt_of_lt_of_le (Heap.lt_size hP') hsz)
      rw [upd_ne n1, upd_ne n2]
      exact I.hok.fresh hsz
  | some cv =>
    obtain ⟨c', e, hco⟩ := ha pos cv hc
    subst e
    refine PySem.W.kla_makeFunctionHit (mg := X.mg) (c := c) (P := P) (ps := ps) (closure_ok hfree) I.ok.glob (I.mod.glob.keeps I.bk) hcode (TB.code.keeps I.bk) hP' ht hc bP fun ctv h' tk hx hsz => ?_
    have I1 : Inv X pins σ H { s with heap := h'.push (PySem.W.kla_obj "<lambda>" (X.env.qual ++ "<lambda>") params body scope (cloFrom X.env.cells scope.names []) ((X.mg "__name__").getD .none) c' ctv), toks := tk } := I.kept fun b o e => Heap.get?_push_of_some _ (hx b o e)
    exact h h'.objs.size c' ((X.mg "__name__").getD .none) ctv H _ I1 (ExtN.refl H) (fun _ z => z) hT (Heap.get?_push_size _ rfl) (I.hok.fresh hsz) (nofr _ hsz) hco
end
/-- the def that calls what it got: a calls it; the result's wish is Q, nothing leaves it -/
def GivesN (j : Nat) (X : Cx) (Ng : List Str) (x : Str) (sg : Scope) (g : Addr) (cdg : Value) (bg : List Stmt) (a : Str) (q : Str) (TT : (XK → Hp → VK → Prop) → Hp → VK → Prop) : Prop :=
  ∀ (f c' : Addr) (s : Shared) (H : Hp) (Q : VK) (tl : XK → Hp → VK → Prop),
    (∀ (W : WX) (pn : List (Addr × Obj)) (xe : Value → Shared → Prop) (E : XK) (p1 p2 : Pos), L2N.Takes ((cxOf (L2N.CX X.prog X.w) X.prog X.w X.K X.mg X.base Ng x sg g cdg X.A X.stack s H fun _ _ _ => False).tr pn xe) W → (∀ cls d σ' H', E cls d H' → W cls d σ' H') →
      PE ((cxOf (L2N.CX X.prog X.w) X.prog X.w X.K X.mg X.base Ng x sg g cdg X.A X.stack s H fun _ _ _ => False).tr pn xe) (.Call (.Name a p1) [] [] p2) (fun σZ HZ Q => σZ[0]? = some (some (.ref f)) ∧ HZ c' = some (CodeO c' q) ∧ tl E HZ Q)) →
    H c' = some (CodeO c' q) → Room j (X.A.deeper (envOfC x sg s.heap.objs.size g cdg)) → TT tl H Q →
    ∃ t, PSs (cxOf (L2N.CX X.prog X.w) X.prog X.w X.K X.mg X.base Ng x sg g cdg X.A X.stack s H fun _ _ _ => False) bg t ∧ t { nx := fun _ H' => Q .non H', rt := Q } (L2.start Ng [.ref f]) H
def tLamN (T : List (Addr × Str)) (TT : (XK → Hp → VK → Prop) → Hp → VK → Prop) (t : XK → TE) : TE := fun σ H Q => Tabs T H ∧ ∀ H1, ExtN H H1 → (∀ b, H b ≠ none → H1 b ≠ none) → Tabs T H1 → TT (fun E H' Q' => t E σ H' Q') H1 Q
section
variable {X : Cx}
/-- x(lambda: body) -/
theorem pe_lamcallN {T : List (Addr × Str)} {TT : (XK → Hp → VK → Prop) → Hp → VK → Prop} {x a : Str} {g c P : Addr} {k : Nat} {pg : Arguments} {bg : List Stmt} {sg : Scope} {dV kV doc pm cdv ct oc : Value} {an od : Option Addr} {osl : Array (Option Value)} {Ng : List Str}
    {params : Arguments} {body : Expr} {scope : Scope} {t : XK → TE} {p lpos pos : Pos} (hg : Gl X x) (hm : X.mg x = some (.ref g)) (hk : PySem.W.keepIn X.K (.ref g) = true)
    (lk : X.K.lookup g = some ⟨oc, od, .func (PySem.W.fnOf x x pg bg sg dV kV doc pm an cdv ct), osl⟩) (hcg : PySem.W.codeIn X.K cdv x = true) (hb : L2.Binds X.K (PySem.W.fnOf x x pg bg sg dV kV doc pm an cdv ct) [a] []) (Sg : FnScope Ng [a] sg) (hNg : Ng[0]? = some a) (hva : Vis sg a)
    (hG : GivesN (k + 1) X Ng x sg g cdv bg a (X.env.qual ++ "<lambda>") TT)
    (TB : TabB X.base X.mg c P) (hcode : X.env.code = .ref c) (hmT : (P, X.env.qual ++ "<lambda>") ∈ T) (hu : ∀ p ∈ T, p.1 = P → p.2 = X.env.qual ++ "<lambda>") (hr : Room (k + 2) X.A) (L : LamS X.env.scope scope) (hdef : defaultsOf params X.env = ([], []))
    (hbind : ∀ (q : Str) (cl : List (Str × Addr)) (pm cv ctv : Value), bindArgs (PySem.W.kla_fn "<lambda>" q params body scope cl pm cv ctv) ⟨[], []⟩ = pure [])
    (hbody : ∀ (A : Around) (outer : List Env) (s : Shared) (H : Hp) (E : XK) (f c' : Addr), Room k (A.deeper (lamEnv X scope s.heap.objs.size f c')) → PE (lamCxN X A outer s H E scope f c') body (t E))
    (hdb : (x == ("__debug__" : Str)) = false := by decide) (hd : (a == ("__debug__" : Str)) = false := by decide) (hcd : (a == ("__classdict__" : Str)) = false := by decide) :
    PE X (.Call (.Name x p) [.Lambda params body scope lpos] [] pos) (tLamN T TT t) := by
  refine ⟨fun pins s σ H Q I h => ?_⟩
  obtain ⟨hT, h⟩ := h
  refine wpAny_Call_Name_kw (ld_glob I hg hm ?_ hdb)
  refine PySem.W.callWith_K (h₀ := X.base) I.ok.mod.kin hk ?_ (by rfl) (by rfl)
  show wpAny _ _ (spliced ((false, eval (.Lambda params body scope lpos) X.env) :: backTo pos (starEach [] X.env))) _ _ s
  refine Calls.spliced_cons (lam_make3 I TB hcode hmT hu hT hdef (L.has I.ok) fun f c' pm' ctv H1 s' I1 eN dN T1 hf hfn hfr hco => ?_)
  refine Calls.spliced_nil ⟨I1.kIn, ?_⟩
  have rc : codeAny (model X.prog X.w) X.A (.call (.ref g) ⟨[.ref f], []⟩) (CR (L2N.CX X.prog X.w) X.stack X.prog X.w H1 s' Q fun _ _ _ => False) s' := by
    refine run_ofS (N := Ng) (ps := [a]) (us := [.ref f]) (vs := [.ref f]) lk hcg Sg hr I1.env0 (hb s' [.ref f] I1.kIn rfl) (.cons rfl .nil) rfl fun hr' => ?_
    exact hG f c' s' H1 Q (fun E H' Q' => t E σ H' Q') (fun W pn xe E p1 p2 tk hW => pe_actN (i := 0) I1 L hf hfn hfr (hbind _ _ _ _ _) tk hW hr' (fun A outer s H hr2 => hbody A outer s H E f c' hr2) hNg hva hd hcd) hco hr' (h H1 eN dN T1)
  refine wpAny_call (codeAny_mono rc fun r s2 hq => ?_)
  cases r with
  | error e =>
    obtain ⟨_, _, _, _, _, _, _, _, _, _, _, _, z⟩ := hq
    exact z.elim
  | ok fl =>
    cases fl with
    | ret u => exact I1.after hq
    | next => exact False.elim hq
    | brk => exact False.elim hq
    | cont => exact False.elim hq
end
end Rm

namespace Rm
open PySem PySem.Spec PyProof.Rows L2 L2H LamX

/-! ### raise -/
/-- an own exception class without own __init__ -/
structure ExcF (K : PySem.W.Frag) (mg : Str → Option Value) (cn : Str) (C : Addr) : Prop where
  mg : mg cn = some (.ref C)
  exc : PySem.W.excIn K C He.veBase "ValueError.__new__" = true
  kp : PySem.W.keepIn K (.ref C) = true
  sub : PySem.W.subIn K (.ref C) (.type "BaseException") = some true
  ty : PySem.W.typeIn K (.ref C) = some (.type "type")
def sRaise (cn : Str) : Sv := fun _ h => .err ⟨cn, none⟩ h
abbrev WOf (E : XK) : WX := fun c d _ H => E c d H
section
variable {X : Cx} {E : XK} {pos : Pos}
theorem s_raise {cn m : Str} {C : Addr} {j : Nat} {p p2 p3 : Pos} (F : ExcF X.K X.mg cn C) (tk : L2N.Takes X (WOf E)) (hc : X.calm = true := by rfl) (hg : Gl X cn := by rfl) (hdb : (cn == ("__debug__" : Str)) = false := by decide) :
    Sx X E (.Raise (some (.Call (.Name cn p) [.Constant (.str m) j p2] [] p3)) none pos) (sRaise cn) :=
  ps_imp (L2N.ps_raise hc tk (L2N.pmk_own PySem.F.excBase_ValueError F.exc F.mg F.kp (raises_own F.sub F.ty) hg hdb)) fun Dn σ H ⟨β, env, h, rl, re, o⟩ => o β H _ _ Ext.refl rl ⟨C, F.mg, rfl, rfl⟩
theorem b_raise {st : Stmt} {rest : List Stmt} {f : Sv} (h1 : Sx X E st f) (h : ∀ env h, ∃ e h', f env h = .err e h' ∨ f env h = .bad) : Bx X E (st :: rest) f := by
  refine pss_imp (pss_cons h1 (u := fun _ _ _ => False) ?_) fun Dn σ H ⟨β, env, hh, rl, re, o⟩ => ⟨β, env, hh, rl, re, ?_⟩
  · exact pss_imp pss_never fun _ _ _ z => z
  · obtain ⟨e, h', q | q⟩ := h env hh
    · rw [q] at o ⊢; exact o
    · rw [q] at o; exact o.elim
end

/-! ### sep.join(texts) -/
def dStrs : List D → Option (List Str)
  | [] => some []
  | .str i :: r => (dStrs r).map (i :: ·)
  | _ :: _ => none
@[simp] theorem dStrs_map (ns : List Str) : dStrs (ns.map D.str) = some ns := by
  induction ns with
  | nil => rfl
  | cons a r ih => simp [dStrs, ih]
theorem dStrs_reps {K : PySem.W.Frag} {β : Bt} {H : Hp} : ∀ {xs : List D} {vs : List V} {ns : List Str}, Reps K β H xs vs → dStrs xs = some ns → vs = ns.map V.str
  | [], _, _, r, e => by cases r; cases e; rfl
  | .str i :: xs, _, ns, ⟨v, r, e1, r1, r2⟩, e => by
    obtain ⟨ms, e2, e3⟩ := Option.map_eq_some_iff.mp e
    subst e1 e3
    rw [dStrs_reps r2 e2]
    cases r1; rfl
  | .non :: _, _, _, _, e => by cases e
  | .bl _ :: _, _, _, _, e => by cases e
  | .int _ :: _, _, _, _, e => by cases e
  | .tup _ :: _, _, _, _, e => by cases e
  | .fl _ :: _, _, _, _, e => by cases e
  | .kl _ :: _, _, _, _, e => by cases e
  | .lst _ :: _, _, _, _, e => by cases e
  | .ins _ :: _, _, _, _, e => by cases e
  | .adr _ :: _, _, _, _, e => by cases e
def gJoin (a b : D) (h : AH) : R D := match a, rdS h b with
  | .str z, some xs => (match dStrs xs with
    | some ys => if (ys.map (·.length)).sum + ys.length * z.length ≤ SL then .ok (.str (PySem.Txt.join z ys)) h else .bad
    | none => .bad)
  | _, _ => .bad
section
variable {X : Cx} {E : XK}
def mJoin (fo fe : Ev) : Ev := fun env h => (fo env h).bind fun o h1 => match o with
  | .str z => (fe env h1).bind fun d h2 => gJoin (.str z) d h2
  | _ => .bad
theorem x_join {o e : Expr} {fo fe : Ev} {apos pos : Pos} (ho : Ex X E o fo) (he : Ex X E e fe) (hs : starEach [e] X.env = [(false, eval e X.env)] := by rfl) (hbase : attributeBase o "join" X.env (eval o X.env) = eval o X.env := by rfl) (hline : (apos.endLine == pos.line) = true := by rfl) :
    Ex X E (.Call (.Attribute o "join" apos) [e] [] pos) (mJoin fo fe) :=
  pe_imp (pe_join ho he hs hbase hline) fun σ H Q ⟨β, env, h, rl, re, oo⟩ => ⟨β, env, h, rl, re, (OutG.bind oo).mono fun od β1 h1 H1 x1 rl1 o1 ov r1 => by
    cases od with
    | str z =>
      have r1 : ov = .str z := r1
      subst r1
      refine ⟨⟨z, rfl⟩, β1, env, h1, rl1, re.ext x1, (OutG.bind o1).mono fun d β2 h2 H2 x2 rl2 o2 v r2 => ?_⟩
      unfold gJoin at o2
      cases e1 : rdS h2 d with
      | none => simp only [e1] at o2; exact o2.elim
      | some xs =>
        simp only [e1] at o2
        cases e2 : dStrs xs with
        | none => simp only [e2] at o2; exact o2.elim
        | some ys =>
          simp only [e2] at o2
          by_cases hz : (ys.map (·.length)).sum + ys.length * z.length ≤ SL
          · rw [if_pos hz] at o2
            have fin : ∀ p us, v = .ref p → (SqL X.K H2 p us ∨ SqT X.K H2 p us) → Reps X.K β2 H2 xs us → ∃ a p, ∃ ys : List Str, V.str z = .str a ∧ [v] = [.ref p] ∧ (SqL X.K H2 p (ys.map V.str) ∨ SqT X.K H2 p (ys.map V.str)) ∧ (ys.map (·.length)).sum + ys.length * a.length ≤ 16777216 ∧ Q (.str (PySem.Txt.join a ys)) H2 := fun p us ev sq rs => by
              have eu := dStrs_reps rs e2
              subst eu
              exact ⟨z, p, ys, rfl, by rw [ev], sq, hz, o2.ok rl2 _ rfl⟩
            cases d with
            | tup ts =>
              cases e1
              obtain ⟨_, p, us, ev, t, rs⟩ := r2
              exact fin p us ev (.inr t.sq) rs
            | _ =>
              first
                | (obtain ⟨_, p, us, ev, t, rs⟩ := r2.rdL rl2 e1
                   exact fin p us ev (.inl t) rs)
                | cases e1
          · rw [if_neg hz] at o2; exact o2.elim
    | _ => exact o1.elim⟩
end

/-! ### defs that are called while an exception p is handled -/
/-- p's class bears the name cn -/
structure PinX (K : PySem.W.Frag) (mg : Str → Option Value) (cn : Str) (C : Addr) (p : Addr × Obj) : Prop where
  mg : mg cn = some (.ref C)
  cls : p.2.cls = .ref C
  dct : p.2.dict = none
  fld : ∃ vs, p.2.data = .fields vs
structure FnP (P : Program) (w : World) (K : PySem.W.Frag) (mg : Str → Option Value) (base : Heap) (k : Nat) (f : Addr) (fd : FuncData) (ps : List Str) (cn : Str) (sp : Addr → Sp) : Prop where
  len : ∀ a vs H Q E, sp a vs H Q E → vs.length = ps.length
  run : ∀ (A : Around) (outer : List Env) (s : Shared) (H : Hp) (args : Args) (us : List Value) (vs : List V) (Q : VK) (E : XK) (p : Addr × Obj) (C : Addr), RoomH k A → Hot1 A p → PinOk outer H s p → PinX K mg cn C p → Env0 P w K mg base A outer s H → BindsTo s fd args (ps.zip us) → Vals vs us → sp p.1 vs H Q E →
    codeAny (model P w) A (.call (.ref f) args) (CR (L2N.CX P w) outer P w H s Q E) s
abbrev cxP (P : Program) (w : World) (K : PySem.W.Frag) (mg : Str → Option Value) (base : Heap) (N : List Str) (qual : Str) (scope : Scope) (f : Addr) (cd : Value) (A : Around) (outer : List Env) (s : Shared) (H : Hp) (E : XK) (p : Addr × Obj) : Cx := cxH (L2N.CX P w) P w K mg base N qual scope f cd A outer s H E p
theorem fn_ofP {P : Program} {w : World} {K : PySem.W.Frag} {mg : Str → Option Value} {base : Heap} {k : Nat} {x qual : Str} {params : Arguments} {body : List Stmt} {scope : Scope} {dvs : List V} {kws : List (Str × V)} {f : Addr} {fd : FuncData} {N ps : List Str} {cn : Str} {sp : Addr → Sp}
    (F : FunD K x qual params body scope dvs kws f fd) (S : FnScope N ps scope)
    (len : ∀ a vs H Q E, sp a vs H Q E → vs.length = ps.length)
    (hbody : ∀ (cdv : Value) (A : Around) (outer : List Env) (s : Shared) (H : Hp) (vs : List V) (Q : VK) (E : XK) (p : Addr × Obj) (C : Addr), Hot1 A p → PinX K mg cn C p → RoomH k (A.deeper (envOfC qual scope s.heap.objs.size f cdv)) → sp p.1 vs H Q E →
      ∃ t, PSs (cxP P w K mg base N qual scope f cdv A outer s H E p) body t ∧ t { nx := fun _ H' => Q .non H', rt := Q } (L2.start N vs) H) :
    FnP P w K mg base (k + 1) f fd ps cn sp := by
  obtain ⟨oc, od, dV, kV, doc, pm, an, cdv, ct, osl, rfl, lk, hcd, _, _⟩ := F.ex
  refine ⟨len, fun A outer s H args us vs Q E p C hr hot hpin hpx e0 hb r hsp => ?_⟩
  have hl := len _ _ _ _ _ hsp
  have KX : K.In s.heap := e0.mod.kin.keeps fun b o e => (e0.bs b o e).1
  have lim : s.heap.NoLimit := e0.mod.nolimit.keeps fun b o e => (e0.bs b o e).1
  have hkind : ∀ y ∈ ps.zip us, scope.names.lookup y.1 = some .local ∨ (scope.names.lookup y.1 = some .cell ∧ ((cellsFrom (s.heap.objs.size + 1) scope.names []).lookup y.1).isSome = true) := fun ⟨n, v⟩ hy => by
    rcases S.par n (List.of_mem_zip hy).1 with q | q
    · exact .inl q
    · exact .inr ⟨q, PySem.W.cellsFrom_some _ _ _ (.inl q)⟩
  refine codeAny_call_function hr.depth (KX _ _ lk) rfl S.co S.gen rfl (PySem.W.codeRec_of KX hcd) (hb _ _ _ _ ?_)
  refine wpAny_newFunctionEnv_cells S.kind hkind fun env he s1 x => ?_
  subst he
  refine ⟨lim.keeps x.toInCall.keep, codeAny_func ?_⟩
  obtain ⟨t, ht, hq⟩ := hbody cdv A outer s H vs Q E p C hot hpx (hr.deeper _) hsp
  have I : Inv (cxP P w K mg base N qual scope f cdv A outer s H E p) [] (L2.start N vs) H s1 := inv_startH S hpin e0 hl r x
  refine wpAny_mono (ht.run [] s1 (L2.start N vs) H _ I hq) (fun fl s' hs => ?_) fun e s' hs => hs
  have fin : ∀ {σ' : L2.St} {H' : Hp} {v : V} {u : Value}, Inv (cxP P w K mg base N qual scope f cdv A outer s H E p) [] σ' H' s' → RelV v u → Q v H' → CE outer P w H s Q u s' :=
    fun {σ' H' v u} J rv q => ⟨v, H', J.os, J.bare, J.base, J.hok, rv, q⟩
  cases fl with
  | ret u =>
    obtain ⟨v, σ', H', J, rv, q⟩ := hs
    exact fin J rv q
  | next =>
    obtain ⟨σ', H', J, q⟩ := hs
    exact fin (v := V.non) (u := Value.none) J rfl q
  | brk =>
    obtain ⟨_, _, _, q⟩ := hs
    exact False.elim q
  | cont =>
    obtain ⟨_, _, _, q⟩ := hs
    exact False.elim q
/-- its promise by a meaning: the only argument is the exception -/
def spP (K : PySem.W.Frag) (mg : Str → Option Value) (sem : Addr → List D → AH → R D) : Addr → Sp := fun a vs H Q E => vs = [.ref a] ∧ ∃ β h, Rl K mg β h H ∧ OutG K mg E β H (sem a [.adr a] h) (PV K Q)
theorem fnP_ok {P : Program} {w : World} {K : PySem.W.Frag} {mg : Str → Option Value} {base : Heap} {k : Nat} {x qual a : Str} {params : Arguments} {body : List Stmt} {scope : Scope} {dvs : List V} {kws : List (Str × V)} {f : Addr} {fd : FuncData} {N : List Str} {cn : Str} {sem : Addr → Sv}
    (F : FunD K x qual params body scope dvs kws f fd) (S : C8.scC N [a] scope = true)
    (hb : ∀ (cdv : Value) (A : Around) (outer : List Env) (s : Shared) (H : Hp) (E : XK) (p : Addr × Obj) (C : Addr), Hot1 A p → PinX K mg cn C p → RoomH k (A.deeper (envOfC qual scope s.heap.objs.size f cdv)) → Bx (cxP P w K mg base N qual scope f cdv A outer s H E p) E body (sem p.1)) :
    FnP P w K mg base (k + 1) f fd [a] cn (spP K mg fun a => runDef 1 N.length (sem a)) := by
  refine fn_ofP F (C8.fnScope_by S) (fun a vs H Q E q => by rw [q.1]; rfl) fun cdv A outer s H vs Q E p C hot hpx hr q => ⟨_, hb cdv A outer s H E p C hot hpx hr, ?_⟩
  obtain ⟨rfl, β, h, rl, o⟩ := q
  have o : OutG K mg E β H (runDef 1 N.length (sem p.1) [.adr p.1] h) (PV K Q) := o
  unfold runDef at o
  rw [if_pos (show [D.adr p.1].length = 1 from rfl)] at o
  refine ⟨β, _, h, rl, rel_start (np := 1) (Reps.one (d := .adr p.1) (v := .ref p.1) rfl) rfl, (fin_out rl o).mono fun fl β' h' H' x rl' o' => ?_⟩
  cases fl with
  | nx env => exact fun σ' _ => cut_ok rl x rl' o' .non rfl
  | rt d => exact cut_ok rl x rl' o'
  | bk env => exact o'.elim
  | ct env => exact o'.elim
section
variable {X : Cx} {E : XK} {pos : Pos}
/-- isinstance(e, Cls), e the exception in sight at a0 -/
def gIsX (a0 : Addr) (b : Bool) (d : D) (h : AH) : R D := match d with
  | .adr a => if a = a0 then .ok (.bl b) h else .bad
  | _ => .bad
theorem x_isX {cx x : Str} {i : Nat} {cn : Str} {C Dc : Addr} {b : Bool} {p : Addr × Obj} {q q2 p3 : Pos} (hp : p ∈ X.pn) (px : PinX X.K X.mg cn C p) (F : ExcC X.K C) (hD : X.mg cx = some (.ref Dc)) (hk : PySem.W.kitOne X.K (.ref C) (.ref Dc) = some b)
    (hm : X.mg "isinstance" = none) (hN : X.N[i]? = some x := by rfl) (hv : Vis X.env.scope x := by first | exact Or.inl rfl | exact Or.inr (Or.inl rfl) | exact Or.inr (Or.inr rfl)) (hgc : Gl X cx := by rfl) (hd1 : (x == ("__debug__" : Str)) = false := by decide) (hd2 : (x == ("__classdict__" : Str)) = false := by decide) (hd3 : (cx == ("__debug__" : Str)) = false := by decide) (hg : Gl X "isinstance" := by rfl)
    (he : starEach [.Name x p3, .Name cx q2] X.env = (false, eval (.Name x p3) X.env) :: starEach [.Name cx q2] X.env := by rfl) (hpl : (backTo pos (starEach [.Name cx q2] X.env)).any (·.1) = false := by rfl) :
    Ex X E (.Call (.Name "isinstance" q) [.Name x p3, .Name cx q2] [] pos) (m1 (gIsX p.1 b) (mLoc i)) := by
  have c : CallR X (.builtin "isinstance") (rIsE X.K C p.1) := call_isP (oe := p.2) hp F ⟨px.cls, px.dct⟩ px.fld
  refine pe_imp (pe_callB c hg hm PyProof.Rows.boot_isinstance (pa_cons (pe_var hN hv hd1 hd2) (pa_cons (pe_glob (v := .ref Dc) hgc hD rfl hd3) pa_nil) he) (by decide) (by decide) he hpl) fun σ H Q ⟨β, env, h, rl, re, o⟩ => ?_
  cases e : env[i]? with
  | none => simp only [m1, mLoc, e] at o; exact o.elim
  | some od =>
    cases od with
    | none => simp only [m1, mLoc, e] at o; exact o.elim
    | some d =>
      obtain ⟨v, e1, r⟩ := re.at_ i d e
      cases d with
      | adr a =>
        by_cases ha : a = p.1
        · subst ha
          cases r
          have o' : OutG X.K X.mg E β H (R.ok (.bl b) h) (PV X.K Q) := by simpa [m1, mLoc, e, gIsX] using o
          exact ⟨.ref p.1, e1, .ref Dc, .ref Dc, b, rfl, fun u r => r, hk, o'.ok rl _ rfl⟩
        · have o' : OutG X.K X.mg E β H (R.bad : R D) (PV X.K Q) := by simpa [m1, mLoc, e, gIsX, ha] using o
          exact o'.elim
      | _ => simp only [m1, mLoc, e] at o; exact o.elim
end
end Rm

namespace Rm
open PySem PySem.Spec PyProof.Rows L2 L2H LamX

/-! ### _law_tried(lambda: e): what a call comes to, or which error -/
/-- the classes of errors without a field -/
def kinds : List Str := ["InvalidHouse", "InvalidGroups", "InvalidPlan", "InvalidWeights", "InvalidNight", "InvalidPlace", "InvalidSpan", "InvalidKind", "InvalidWishes", "InvalidSpans", "InvalidName", "RoomsOutOfRange", "TooManyGroups", "NoPlan", "NothingToUndo", "TrialOpen"]
/-- and with one -/
def fkinds : List (Str × Str) := [("NoRoom", "night"), ("UnknownName", "name"), ("InvalidText", "line")]
def triedE (e : Er) : Option D := match e.fld with
  | none => if e.cls ∈ kinds then some (.tup [.str e.cls]) else none
  | some _ => none
def tried : R D → R D
  | .ok d h => .ok (.tup [.str "told", d]) h
  | .err e h => (match triedE e with
    | some t => .ok t h
    | none => .bad)
  | .bad => .bad
def mTried (f : Ev) : Ev := fun env h => tried (f env h)

/-- a def that may be called while an exception of class cn is handled -/
structure FnPT (P : Program) (w : World) (K : PySem.W.Frag) (mg : Str → Option Value) (base : Heap) (x : Str) (k : Nat) (cn : Str) (sem : Addr → List D → AH → R D) : Prop where
  ex : ∃ (f : Addr) (fd : FuncData) (a : Str), FnP P w K mg base k f fd [a] cn (spP K mg sem) ∧ mg x = some (.ref f) ∧ PySem.W.keepIn K (.ref f) = true ∧ Binds K fd [a] []
/-- what is known of the classes -/
structure KindC (K : PySem.W.Frag) (mg : Str → Option Value) (NR UN IT RE : Addr) (cn : Str) (C : Addr) : Prop where
  mg : mg cn = some (.ref C)
  nr : PySem.W.exmOne K (.ref C) (.ref NR) = some false
  un : PySem.W.exmOne K (.ref C) (.ref UN) = some false
  it : PySem.W.exmOne K (.ref C) (.ref IT) = some false
  re : PySem.W.exmOne K (.ref C) (.ref RE) = some true
structure TriedF (P : Program) (w : World) (K : PySem.W.Frag) (mg : Str → Option Value) (base : Heap) (j : Nat) (NR UN IT RE : Addr) (sk : Str → Addr → List D → AH → R D) : Prop where
  nr : mg "NoRoom" = some (.ref NR)
  un : mg "UnknownName" = some (.ref UN)
  it : mg "InvalidText" = some (.ref IT)
  re : mg "RoomError" = some (.ref RE)
  kc : ∀ cn ∈ kinds, ∃ C, KindC K mg NR UN IT RE cn C
  kind : ∀ cn ∈ kinds, FnPT P w K mg base "_law_kind" j cn (sk cn)
  says : ∀ cn ∈ kinds, ∀ a h, sk cn a [.adr a] h = .ok (.str cn) h

section
variable {X : Cx} {E : XK} {k : Nat} {f : Addr} {fd : FuncData} {ps : List Str} {cn : Str} {sp : Addr → Sp} {p : Addr × Obj} {C : Addr} {x : Str} {q pos : Pos} {e : Expr} {es : List Expr} {t : TA}
theorem pe_callP (F : FnP X.prog X.w X.K X.mg X.base k f fd ps cn sp) (hr : RoomH k X.A) (hp : p ∈ X.pn) (hot : Hot1 X.A p) (px : PinX X.K X.mg cn C p) (hg : Gl X x) (hm : X.mg x = some (.ref f)) (hk : PySem.W.keepIn X.K (.ref f) = true) (hb : Binds X.K fd ps []) (hx : Passes (L2N.CX X.prog X.w) X E)
    (ha : PA X (e :: es) t) (hdb : (x == ("__debug__" : Str)) = false := by decide) (he : starEach (e :: es) X.env = (false, eval e X.env) :: starEach es X.env := by rfl) (hpl : (backTo pos (starEach es X.env)).any (·.1) = false := by rfl) :
    PE X (.Call (.Name x q) (e :: es) [] pos) (fun σ H Q => t σ H fun vs H1 => sp p.1 vs H1 Q E) := by
  refine ⟨fun pins s σ H Q I h => ?_⟩
  refine wpAny_Call_Name_kw (ld_glob I hg hm ?_ hdb)
  refine PySem.W.callWith_K (h₀ := X.base) I.ok.mod.kin hk (thn (ha.run pos pins s σ H _ I h) fun us s1 ⟨vs, H1, I1, r, qq⟩ => ⟨I1.kIn, ?_⟩) he hpl
  have hl : us.length = ps.length := by rw [← r.length]; exact F.len _ _ _ _ _ qq
  have b := hb s1 us I1.kIn (by rw [List.append_nil]; exact hl)
  rw [List.append_nil] at b
  have P1 := I1.pin p (List.mem_append_left _ hp)
  have hpin : PinOk X.stack H1 s1 p := ⟨P1.1, P1.2.1, fun hm => (List.mem_cons.mp (I1.stkSub p.1 hm)).elim P1.2.2.1 P1.2.2.2.1, P1.2.2.2.2⟩
  refine wpAny_call (codeAny_mono (F.run X.A X.stack s1 H1 ⟨us, []⟩ us vs Q E p C hr hot hpin px I1.env0 b r qq) fun r s' hq => ?_)
  cases r with
  | error e => exact hx pins σ H1 s1 e s' I1 hq
  | ok fl =>
    cases fl with
    | ret u => exact I1.after hq
    | next => exact False.elim hq
    | brk => exact False.elim hq
    | cont => exact False.elim hq
end
theorem pe_weak {X : Cx} {e : Expr} {t : TE} (h : PE X e t) : PE X e (fun σ H Q => ∃ VQ : VK, (∀ v H', VQ v H' → Q v H') ∧ t σ H VQ) :=
  ⟨fun pins s σ H Q I ⟨VQ, m, q⟩ => wpAny_mono (h.run pins s σ H VQ I q) (fun u s1 ⟨v, H1, I1, r, q1⟩ => ⟨v, H1, I1, r, m _ _ q1⟩) (fun _ _ z => z)⟩
/-- what _law_tried asks of the call -/
def TTried (K : PySem.W.Frag) (mg : Str → Option Value) : (XK → Hp → VK → Prop) → Hp → VK → Prop := fun tl H Q =>
  ∀ p, H p = none → tl (fun cls d H' => ∃ e β h, Rl K mg β h H' ∧ ErOk K mg β H' e cls d ∧ OutG K mg noE β H' (match triedE e with
    | some t => .ok t h
    | none => .bad : R D) (PV K Q)) (upd H p (.tup [.str "none"])) fun v H' => ∃ β h d, Rl K mg β h H' ∧ Rep K β H' d v ∧ OutG K mg noE β H' (.ok (.tup [.str "told", d]) h : R D) (PV K Q)
abbrev zX (X : Cx) (sg : Scope) (g : Addr) (cdg : Value) (s : Shared) (H : Hp) : Cx := cxOf (L2N.CX X.prog X.w) X.prog X.w X.K X.mg X.base (["call", "found", "e"] : List Str) "_law_tried" sg g cdg X.A X.stack s H (fun _ _ _ => False)
/-- the suite of RoomError -/
def tsRE (K : PySem.W.Frag) (mg : Str → Option Value) : Addr → Value → Option Addr → TS := fun a cls d Dn σ H => ∃ cn ∈ kinds, ∃ C, cls = .ref C ∧ mg cn = some (.ref C) ∧ d = none ∧ σ[2]? = some (some (.ref a)) ∧ ∃ β h, Rl K mg β h H ∧ OutG K mg noE β H (.ok (.str cn) h : R D) (PV K fun v H1 => ∀ p, H1 p = none → Dn.nx (σ.set 1 (some (.ref p))) (upd H1 p (.tup [v])))
theorem suite_RE {X : Cx} {j k : Nat} {NR UN IT RE : Addr} {sk : Str → Addr → List D → AH → R D} {sg : Scope} {g : Addr} {cdg : Value} {s : Shared} {H : Hp} {kk3 : Nat} {d2 d3 d4 d5 d6 d7 : Pos} (T : TriedF X.prog X.w X.K X.mg X.base j NR UN IT RE sk) (hjk : j ≤ k) (hr : Room k (X.A.deeper (envOfC "_law_tried" sg s.heap.objs.size g cdg)))
    (hl : ∀ x ∈ (["call", "found", "e"] : List Str), sg.names.lookup x = some .local) (hgl : ∀ x ∈ (["NoRoom", "UnknownName", "InvalidText", "RoomError", "_law_kind"] : List Str), sg.names.lookup x = some .globalImplicit)
    (a : Addr) (oe : Obj) (cls : Value) (d : Option Addr) (pn : List (Addr × Obj)) (hz : L2N.Zn cls d oe) (hf : ∃ vs, oe.data = .fields vs) :
    PSs ((zX X sg g cdg s H).suite a ((a, oe) :: pn)) [.Assign [.Name "found" d2] (.Tuple [.Call (.Name "_law_kind" d3) [.Name "e" d4] [] d5] kk3 d6) d7] (tsRE X.K X.mg a cls d) := by
  refine ⟨fun pins s' σ H' D I ⟨cn, hcn, C, ec, hC, ed, e2, β, h, rl, o⟩ => ?_⟩
  subst ec ed
  obtain ⟨f, fd, pa, F, hm, hk, hb⟩ := (T.kind cn hcn).ex
  have hot : Hot1 ((zX X sg g cdg s H).suite a ((a, oe) :: pn)).A (a, oe) := by
    obtain ⟨vs, hv⟩ := hf
    exact ⟨rfl, vs, hv, hz.2.2 vs hv⟩
  have px : PinX X.K X.mg cn C (a, oe) := ⟨hC, hz.1, hz.2.1, hf⟩
  have p1 := pe_callP (X := (zX X sg g cdg s H).suite a ((a, oe) :: pn)) (E := noE) (p := (a, oe)) (q := d3) (pos := d5) (F := F) ((show RoomH k ((X.A.deeper (envOfC "_law_tried" sg s.heap.objs.size g cdg)).mark (some (.ref a))) from ⟨hr.dp, hr.un⟩).mono hjk) List.mem_cons_self hot px (hgl "_law_kind" (by simp)) hm hk hb passes_no
    (pa_cons (pe_var (X := (zX X sg g cdg s H).suite a ((a, oe) :: pn)) (pos := d4) (i := 2) (x := "e") rfl (.inl (hl "e" (by simp))) (by decide) (by decide)) pa_nil)
  have p2 := pss_one (ps_set (X := (zX X sg g cdg s H).suite a ((a, oe) :: pn)) (pos := d7) (pos' := d2) (i := 1) (x := "found") (show (["call", "found", "e"] : List Str).Nodup by decide) rfl (.inl (hl "found" (by simp))) (pe_tup (x1 := kk3) (pos := d6) (pa_cons p1 pa_nil)) rfl (.inr (hl "found" (by simp))))
  refine p2.run pins s' σ H' D I ⟨.ref a, e2, rfl, β, h, rl, ?_⟩
  rw [T.says cn hcn a h]
  refine o.mono fun dd β1 h1 H1 x1 rl1 q v r => ⟨by show 1 ≤ sizeLine; rw [sizeLine_eq]; omega, fun p np => q v r p np⟩
theorem tried_gives {X : Cx} {j k : Nat} {NR UN IT RE : Addr} {sk : Str → Addr → List D → AH → R D} {q : Str} {sg : Scope} {g : Addr} {cdg : Value} {jn jt kk kk2 kk3 : Nat}
    {a1 a2 a3 a4 b1 b2 b3 b4 b5 b6 b7 c1 c2 d1 d2 d3 d4 d5 d6 d7 d8 e1 e2 f1 f2 g1 g2 : Pos} {s1 s2 s3 : Stmt} {r1 r2 r3 : List Stmt} (T : TriedF X.prog X.w X.K X.mg X.base j NR UN IT RE sk) (hjk : j ≤ k)
    (hlB : (((["call", "found", "e"] : List Str).all fun x => decide (sg.names.lookup x = some .local)) && ((["NoRoom", "UnknownName", "InvalidText", "RoomError", "_law_kind"] : List Str).all fun x => decide (sg.names.lookup x = some .globalImplicit))) = true) :
    GivesN k X (["call", "found", "e"] : List Str) "_law_tried" sg g cdg
      [.Assign [.Name "found" a1] (.Tuple [.Constant (.str "none") jn a2] kk a3) a4,
       .Try [.Assign [.Name "found" b1] (.Tuple [.Constant (.str "told") jt b2, .Call (.Name "call" b3) [] [] b4] kk2 b5) b6]
        [.ExceptHandler (some (.Name "NoRoom" e1)) (some "e") (s1 :: r1) e2, .ExceptHandler (some (.Name "UnknownName" f1)) (some "e") (s2 :: r2) f2, .ExceptHandler (some (.Name "InvalidText" g1)) (some "e") (s3 :: r3) g2,
         .ExceptHandler (some (.Name "RoomError" d1)) (some "e") [.Assign [.Name "found" d2] (.Tuple [.Call (.Name "_law_kind" d3) [.Name "e" d4] [] d5] kk3 d6) d7] d8] [] [] b7,
       .Return (some (.Name "found" c1)) c2] "call" q (TTried X.K X.mg) := by
  rw [Bool.and_eq_true, List.all_eq_true, List.all_eq_true] at hlB
  have hl : ∀ x ∈ (["call", "found", "e"] : List Str), sg.names.lookup x = some .local := fun x hx => of_decide_eq_true (hlB.1 x hx)
  have hgl : ∀ x ∈ (["NoRoom", "UnknownName", "InvalidText", "RoomError", "_law_kind"] : List Str), sg.names.lookup x = some .globalImplicit := fun x hx => of_decide_eq_true (hlB.2 x hx)
  intro f c' s H Q tl act hc hr h
  have nd : (zX X sg g cdg s H).N.Nodup := show (["call", "found", "e"] : List Str).Nodup by decide
  have nm : ∀ (x : Str) (C : Addr), x ∈ (["NoRoom", "UnknownName", "InvalidText", "RoomError", "_law_kind"] : List Str) → (x == ("__debug__" : Str)) = false → X.mg x = some (.ref C) → Names (zX X sg g cdg s H) x (.ref C) := fun x C hx hd hm => ⟨hgl x hx, hd, .inl hm⟩
  have lf : (zX X sg g cdg s H).env.scope.names.lookup ("found" : Str) = some .local := hl _ (by simp)
  have pt := ps_try_manyA (X := zX X sg g cdg s H) (n := "e") (i := 2) (pos := b7) (Wout := fun _ _ _ _ => False)
    (body := [.Assign [.Name "found" b1] (.Tuple [.Constant (.str "told") jt b2, .Call (.Name "call" b3) [] [] b4] kk2 b5) b6])
    (tb := fun W D σ H1 => ∃ Ech : XK, (∀ cls d σ' H', Ech cls d H' → W cls d σ' H') ∧ σ[0]? = some (some (.ref f)) ∧ H1 c' = some (CodeO c' q) ∧ ∃ VQ : VK, (∀ v H', VQ v H' → 2 ≤ sizeLine ∧ ∀ p, H' p = none → D.nx (σ.set 1 (some (.ref p))) (upd H' p (.tup [.str "told", v]))) ∧ tl Ech H1 VQ)
    rfl rfl nd rfl (hl "e" (by simp)) (fun _ _ ⟨_, _, _, _, _, _, _, _, _, _, _, _, _, _, _, _, z⟩ => z.elim)
    (fun W pn xe tk _ => ⟨fun pins s' σ H1 D I ⟨Ech, hW, h1, h2, VQ, h4, h3⟩ => by
      have hp := pe_weak (act W pn xe Ech b3 b4 tk hW)
      have hq := pss_one (ps_set (X := (zX X sg g cdg s H).tr pn xe) (pos := b6) (pos' := b1) (i := 1) (x := "found") nd rfl (.inl lf) (pe_tup (x1 := kk2) (pos := b5) (pa_cons (pe_str (x := "told") (j := jt) (pos := b2)) (pa_cons hp pa_nil))) rfl (.inr lf))
      exact hq.run pins s' σ H1 D I ⟨VQ, h4, h1, h2, h3⟩⟩)
    (.cons (ts := fun _ _ _ _ _ _ => False) (np := e1) (pos' := e2) (b₀ := s1) (suite := r1) (nm "NoRoom" NR (by simp) (by decide) T.nr) (fun a oe cls d pn _ _ => pss_imp pss_never fun _ _ _ z => z)
      (.cons (ts := fun _ _ _ _ _ _ => False) (np := f1) (pos' := f2) (b₀ := s2) (suite := r2) (nm "UnknownName" UN (by simp) (by decide) T.un) (fun a oe cls d pn _ _ => pss_imp pss_never fun _ _ _ z => z)
        (.cons (ts := fun _ _ _ _ _ _ => False) (np := g1) (pos' := g2) (b₀ := s3) (suite := r3) (nm "InvalidText" IT (by simp) (by decide) T.it) (fun a oe cls d pn _ _ => pss_imp pss_never fun _ _ _ z => z)
          (.cons (np := d1) (pos' := d8) (nm "RoomError" RE (by simp) (by decide) T.re) (suite_RE (d2 := d2) (d3 := d3) (d4 := d4) (d5 := d5) (d6 := d6) (d7 := d7) (kk3 := kk3) T hjk hr hl hgl) .nil))))
  refine ⟨_, pss_cons (ps_set (X := zX X sg g cdg s H) (pos := a4) (pos' := a1) (i := 1) (x := "found") nd rfl (.inl lf) (pe_tup (x1 := kk) (pos := a3) (pa_cons (pe_str (x := "none") (j := jn) (pos := a2)) pa_nil)) rfl (.inr lf))
    (pss_cons pt (pss_one (ps_ret (pos := c2) (pe_var (X := zX X sg g cdg s H) (pos := c1) (i := 1) (x := "found") rfl (.inl lf) (by decide) (by decide))))), ?_⟩
  refine ⟨by show 1 ≤ sizeLine; rw [sizeLine_eq]; omega, fun p np => ?_⟩
  refine ⟨fun cls d H' => ∃ e β h, Rl X.K X.mg β h H' ∧ ErOk X.K X.mg β H' e cls d ∧ OutG X.K X.mg noE β H' (match triedE e with
    | some t => .ok t h
    | none => .bad : R D) (PV X.K Q), fun cls d σ' H' ⟨e, β, h', rl, er, o⟩ hlen => ?_, rfl, by rw [upd_ne (fun z => by subst z; rw [hc] at np; cases np)]; exact hc, _, fun v H' ⟨β, hh, d, rl, r, o⟩ => ⟨by show 2 ≤ sizeLine; rw [sizeLine_eq]; omega, fun p2 np2 => ⟨.ref p2, rfl, ?_⟩⟩, h p np⟩
  · -- an error
    obtain ⟨ecls, efld⟩ := e
    cases efld with
    | some z => exact o.elim
    | none =>
      by_cases hcn : ecls ∈ kinds
      · obtain ⟨C, hC, rfl, ed⟩ := er
        have ed : d = none := ed
        obtain ⟨C2, kc⟩ := T.kc ecls hcn
        have eC : C2 = C := by have z := kc.mg; rw [hC] at z; cases z; rfl
        subst eC
        have o : OutG X.K X.mg noE β H' (match (if ecls ∈ kinds then some (D.tup [.str ecls]) else none) with
          | some t => .ok t h'
          | none => .bad : R D) (PV X.K Q) := o
        rw [if_pos hcn] at o
        have o : OutG X.K X.mg noE β H' (R.ok (D.tup [.str ecls]) h') (PV X.K Q) := o
        have hlen : σ'.length = 3 := hlen
        refine ⟨false, kc.nr, fun z => (by cases z), fun _ => ⟨false, kc.un, fun z => (by cases z), fun _ => ⟨false, kc.it, fun z => (by cases z), fun _ => ⟨true, kc.re, fun _ a na => ?_, fun z => (by cases z)⟩⟩⟩⟩
        refine ⟨ecls, hcn, C2, rfl, hC, ed, by rw [List.getElem?_set_self (by omega)], β, h', rl, fun β1 H1 x1 rl1 v r p2 np2 => ?_⟩
        have r : v = .str ecls := r
        subst r
        refine ⟨.ref p2, ?_, ?_⟩
        · rw [List.getElem?_set_ne (by decide), List.getElem?_set_self (by rw [List.length_set]; omega)]
        · exact o.okx (x1.trans (Ext.upd_new np2)) (rl1.upd_new np2) _ (Rep.newTup rl1 np2 (Reps.one (d := .str ecls) rfl) (by show 1 ≤ SL; decide))
      · have o : OutG X.K X.mg noE β H' (match (if ecls ∈ kinds then some (D.tup [.str ecls]) else none) with
          | some t => .ok t h'
          | none => .bad : R D) (PV X.K Q) := o
        rw [if_neg hcn] at o
        exact o.elim
  · exact o.okx (Ext.upd_new np2) (rl.upd_new np2) _ (Rep.newTup rl np2 (ds := [.str "told", d]) ⟨_, _, rfl, rfl, Reps.one r⟩ (by show 2 ≤ SL; decide))
end Rm

namespace Rm
open PySem PySem.Spec PyProof.Rows L2 L2H LamX

theorem Ext.extN {β : Bt} {H H1 : Hp} (e : ExtN H H1) (d : ∀ b, H b ≠ none → H1 b ≠ none) : Ext β H β H1 :=
  ⟨Nat.le_refl _, fun _ _ _ e => e, fun i p hi e => (by rw [List.getElem?_eq_none hi] at e; cases e), fun _ e => e, fun _ e => .inl e, fun p o eo _ t => e p o eo t, fun p hp => d p hp⟩
theorem Rl.extN {K : PySem.W.Frag} {mg : Str → Option Value} {β : Bt} {h : AH} {H H1 : Hp} (rl : Rl K mg β h H) (e : ExtN H H1) (d : ∀ b, H b ≠ none → H1 b ≠ none) (t : Tabs (tabsOf K) H1) : Rl K mg β h H1 := by
  have x : Ext β H β H1 := Ext.extN e d
  refine ⟨rl.len, rl.inj, fun i c ec => ?_, fun p hp => ⟨?_, (rl.hid p hp).2⟩, t⟩
  · have q := rl.cell i c ec
    cases c with
    | dead => exact q
    | lst xs =>
      obtain ⟨z, p, vs, e1, e2, r⟩ := q
      exact ⟨z, p, vs, e1, e _ _ e2 (fun ps z => by cases z), Reps.ext x _ _ r⟩
    | ins C fs =>
      obtain ⟨p, c, dx, gs, e1, e2, e3, r⟩ := q
      exact ⟨p, c, dx, gs, e1, e2, e _ _ e3 (fun ps z => by cases z), r.ext x⟩
  · obtain ⟨xs, ex⟩ := (rl.hid p hp).1
    exact ⟨xs, e _ _ ex (fun ps z => by cases z)⟩
/-- where lambdas may be made: the def's code object and its table -/
def LamOk (X : Cx) : Prop := ∃ c P, X.env.code = .ref c ∧ TabB X.base X.mg c P ∧ (P, X.env.qual ++ "<lambda>") ∈ tabsOf X.K ∧ ∀ p ∈ tabsOf X.K, p.1 = P → p.2 = X.env.qual ++ "<lambda>"
/-- what the head says of the def q's code objects -/
def lamB (K : PySem.W.Frag) (q : Str) : Bool := K.all fun x => !PySem.W.codeIn K (.ref x.1) q || (match csAt K x.1 x.2 with
  | some t => t.2.2 == q ++ ".<locals>." ++ "<lambda>" && (tabsOf K).all fun p => !(p.1 == t.2.1) || p.2 == t.2.2
  | none => false)
theorem lamB_ok {K : PySem.W.Frag} {q : Str} {cdv : Value} (h : lamB K q = true) (hc : PySem.W.codeIn K cdv q = true) : ∃ c P, cdv = .ref c ∧ (c, P, q ++ ".<locals>." ++ "<lambda>") ∈ csOf K ∧ ∀ p ∈ tabsOf K, p.1 = P → p.2 = q ++ ".<locals>." ++ "<lambda>" := by
  cases cdv with
  | ref c =>
    have hl : ∃ o, K.lookup c = some o := by
      have hc2 := hc
      unfold PySem.W.codeIn at hc2
      cases e : K.lookup c with
      | none => simp only [e] at hc2; cases hc2
      | some o => exact ⟨o, rfl⟩
    obtain ⟨o, eo⟩ := hl
    have hm := PySem.W.mem_of_lookupK eo
    have q1 := List.all_eq_true.mp h (c, o) hm
    simp only [hc, Bool.not_true, Bool.false_or] at q1
    cases e : csAt K c o with
    | none => simp only [e] at q1; cases q1
    | some t =>
      simp only [e, Bool.and_eq_true, List.all_eq_true, beq_iff_eq] at q1
      obtain ⟨q2, q3⟩ := q1
      obtain ⟨t1, P, nm⟩ := t
      have ec : t1 = c := by
        unfold csAt at e
        split at e
        · split at e
          · split at e
            · cases e; rfl
            · cases e
          · cases e
        · cases e
      subst ec
      dsimp only at q2 q3
      refine ⟨t1, P, rfl, ?_, fun p hp ep => ?_⟩
      · rw [← q2]
        exact List.mem_filterMap.mpr ⟨(t1, o), hm, e⟩
      · have := q3 p hp
        rw [Bool.or_eq_true] at this
        rcases this with z | z
        · rw [ep] at z; simp at z
        · rw [← q2]; exact beq_iff_eq.mp z
  | _ => cases hc
/-- the tables of a base -/
def TBs (K : PySem.W.Frag) (mg : Str → Option Value) (base : Heap) : Prop := ∀ p ∈ csL K, TabB base mg p.1 p.2
theorem lamOk_of {P : Program} {w : World} {K : PySem.W.Frag} {mg : Str → Option Value} {base : Heap} {N : List Str} {qual : Str} {scope : Scope} {f : Addr} {cdv : Value} {A : Around} {outer : List Env} {s : Shared} {H : Hp} {E : XK} (hb : lamB K qual = true) (hc : PySem.W.codeIn K cdv qual = true) (tb : TBs K mg base) :
    LamOk (bX P w K mg base N qual scope f cdv A outer s H E) := by
  obtain ⟨c, P', e1, e2, e3⟩ := lamB_ok hb hc
  exact ⟨c, P', e1, tb (c, P') (List.mem_map.mpr ⟨_, e2, rfl⟩), List.mem_map.mpr ⟨_, e2, rfl⟩, e3⟩
structure TriedD (P : Program) (w : World) (K : PySem.W.Frag) (mg : Str → Option Value) (base : Heap) (k : Nat) : Prop where
  ex : ∃ (g : Addr) (fd : FuncData) (params : Arguments) (bg : List Stmt) (sg : Scope), FunD K "_law_tried" "_law_tried" params bg sg [] [] g fd ∧ mg "_law_tried" = some (.ref g) ∧ Binds K fd ["call"] [] ∧ C8.scC ["call", "found", "e"] ["call"] sg = true ∧ sg.names.lookup ("call" : Str) = some .local ∧
    ∀ (X : Cx) (cdg : Value) (q : Str), X.prog = P → X.w = w → X.K = K → X.mg = mg → X.base = base → GivesN k X (["call", "found", "e"] : List Str) "_law_tried" sg g cdg bg "call" q (TTried X.K X.mg)
theorem x_tried {X : Cx} {E : XK} {k : Nat} {params : Arguments} {body : Expr} {scope : Scope} {p lpos pos : Pos} {fe : Ev} (T : TriedD X.prog X.w X.K X.mg X.base (k + 1)) (LO : LamOk X) (hr : Room (k + 2) X.A) (L : lamSB X.env.scope scope = true)
    (hbody : ∀ (A : Around) (outer : List Env) (s : Shared) (H : Hp) (E : XK) (f c' : Addr), Room k (A.deeper (lamEnv X scope s.heap.objs.size f c')) → Ex (lamCxN X A outer s H E scope f c') E body fe)
    (hdef : defaultsOf params X.env = ([], []) := by kernel_rfl) (hbind : ∀ (q : Str) (cl : List (Str × Addr)) (pm cv ctv : Value), bindArgs (PySem.W.kla_fn "<lambda>" q params body scope cl pm cv ctv) ⟨[], []⟩ = pure [] := by intros; kernel_rfl) (hg : Gl X "_law_tried" := by rfl) :
    Ex X E (.Call (.Name "_law_tried" p) [.Lambda params body scope lpos] [] pos) (mTried fe) := by
  obtain ⟨g, fd, pg, bg, sg, F, hm, hb, hsc, hlc, hG⟩ := T.ex
  obtain ⟨c, P, hcode, TB, hmT, hu⟩ := LO
  obtain ⟨oc, od, dV, kV, doc, pm, an, cdv, ct, osl, rfl, lk, hcd, _, _⟩ := F.ex
  refine pe_imp (pe_lamcallN (t := fun E => TX X.K X.mg E fe) hg hm F.kp lk hcd hb (C8.fnScope_by hsc) rfl (.inl hlc) (hG X cdv _ rfl rfl rfl rfl rfl) TB hcode hmT hu hr (lamS_by L) hdef hbind (fun A outer s H E f c' hr => hbody A outer s H E f c' hr)) fun σ H Q ⟨β, env, h, rl, re, o⟩ => ⟨rl.tabs, fun H1 eN dN T1 => ?_⟩
  intro q nq
  have x1 : Ext β H β H1 := Ext.extN eN dN
  have rl1 : Rl X.K X.mg β h H1 := rl.extN eN dN T1
  have x2 := Ext.upd_new (β := β) (o := .tup [.str "none"]) nq
  have o2 : OutG X.K X.mg E β (upd H1 q (.tup [.str "none"])) (tried (fe env h)) (PV X.K Q) := OutG.weak (x1.trans x2) o
  refine ⟨β, env, h, rl1.upd_new nq, (re.ext x1).ext x2, ?_⟩
  cases e : fe env h with
  | bad => rw [e] at o2; exact o2.elim
  | ok d h' =>
    rw [e] at o2
    intro β' H' x rl' v r
    exact ⟨β', h', d, rl', r, OutG.weak x o2⟩
  | err er h' =>
    rw [e] at o2
    intro β' H' cls dd x rl' ek
    refine ⟨er, β', h', rl', ek, ?_⟩
    have o3 : OutG X.K X.mg E β (upd H1 q (.tup [.str "none"])) (match triedE er with
      | some t => .ok t h'
      | none => .bad : R D) (PV X.K Q) := o2
    cases e2 : triedE er with
    | none => rw [e2] at o3; exact o3.elim
    | some t => rw [e2] at o3; exact OutG.weak x o3
/-- what is known of the classes, for _law_kind -/
def KindF (K : PySem.W.Frag) (mg : Str → Option Value) : Prop := ∀ cn ∈ kinds, ∀ C, mg cn = some (.ref C) → ExcC K C ∧ ∀ dn ∈ kinds ++ fkinds.map (·.1), ∃ Dc, mg dn = some (.ref Dc) ∧ PySem.W.kitOne K (.ref C) (.ref Dc) = some (cn == dn)
/-- the body of a lambda in a def's body: errors pass -/
theorem lam_takes {X : Cx} {A : Around} {outer : List Env} {s : Shared} {H : Hp} {E : XK} {scope : Scope} {f c' : Addr} : L2N.Takes (lamCxN X A outer s H E scope f c') (WOf E) :=
  L2N.takes_of (X := lamCxN X A outer s H E scope f c') (E₁ := fun e' s'' => L2N.CX X.prog X.w outer H s E e' s'') rfl rfl rfl rfl
theorem lam_pass {X : Cx} {A : Around} {outer : List Env} {s : Shared} {H : Hp} {E : XK} {scope : Scope} {f c' : Addr} : Passes (L2N.CX (lamCxN X A outer s H E scope f c').prog (lamCxN X A outer s H E scope f c').w) (lamCxN X A outer s H E scope f c') E :=
  L2N.passes_call (X := lamCxN X A outer s H E scope f c') (W := fun c d _ H => E c d H) lam_takes fun _ _ _ _ h => h
/-- a def's promise, where the def makes lambdas -/
theorem FnT.ofL {P : Program} {w : World} {K : PySem.W.Frag} {mg : Str → Option Value} {base : Heap} {qual nm : Str} {params : Arguments} {body : List Stmt} {scope : Scope} {dvs : List V} {kws : List (Str × V)} {f : Addr} {fd : FuncData} {N ps : List Str} {k : Nat} {sem : Sv}
    (F : FunD K nm qual params body scope dvs kws f fd) (S : C8.scC N ps scope = true) (hl : lamB K qual = true) (tb : TBs K mg base)
    (hb : ∀ (cdv : Value) (A : Around) (outer : List Env) (s : Shared) (H : Hp) (E : XK), Room k (A.deeper (envOfC qual scope s.heap.objs.size f cdv)) → LamOk (bX P w K mg base N qual scope f cdv A outer s H E) → Bx (bX P w K mg base N qual scope f cdv A outer s H E) E body sem) :
    FnOk P w K mg base (L2N.CX P w) (k + 1) f fd ps (spS K mg ps.length (runDef ps.length N.length sem)) := by
  obtain ⟨oc, od, dV, kV, doc, pm, an, cdv, ct, osl, rfl, lk, hcd, _, _⟩ := F.ex
  refine fn_of lk hcd (C8.fnScope_by S) (fun vs H Q E q => q.1) fun A outer s H vs Q E hr q => ⟨_, hb cdv A outer s H E hr (lamOk_of hl hcd tb), ?_⟩
  obtain ⟨hl, β, h, ds, rl, rs, o⟩ := q
  have hd : ds.length = ps.length := by rw [rs.length]; exact hl
  unfold runDef at o
  rw [if_pos hd] at o
  refine ⟨β, _, h, rl, rel_start rs hd, (fin_out rl o).mono fun fl β' h' H' x rl' o' => ?_⟩
  cases fl with
  | nx env => exact fun σ' _ => cut_ok rl x rl' o' .non rfl
  | rt d => exact cut_ok rl x rl' o'
  | bk env => exact o'.elim
  | ct env => exact o'.elim
end Rm

namespace Rm
open PySem PySem.Spec PyProof.Rows L2 LamX

/-! ### the head, its empty tables left out of what is told -/
def isTabO (o : Obj) : Bool := match o with
  | ⟨.none, none, .fields vs, sl⟩ => vs.toList.isEmpty && sl.toList.isEmpty
  | _ => false
theorem isTabO_ok {o : Obj} (h : isTabO o = true) : o = PySem.W.tabObj #[] := by
  unfold isTabO at h
  split at h
  · rename_i vs sl
    rw [Bool.and_eq_true] at h
    have h1 : vs = #[] := by
      have z := List.isEmpty_iff.mp h.1
      exact Array.toList_inj.mp (by rw [z])
    have h2 : sl = #[] := by
      have z := List.isEmpty_iff.mp h.2
      exact Array.toList_inj.mp (by rw [z])
    subst h1 h2
    rfl
  · cases h
def frL (g : Addr → Option Obj) (as : List Addr) : PySem.W.Frag := He.frG g (as.filter fun a => match g a with
  | some o => !isTabO o
  | none => true)
def obsL (n : Nat) (fa : List He.Fa) (fn : List He.DefD) (ex : PySem.W.Frag → Bool) (g : Addr → Option Obj) : He.AlD × Bool :=
  (He.obsD fa fn (frL g (He.asD g n)), ex (frL g (He.asD g n)) && (csL (frL g (He.asD g n))).all fun p => match g p.2 with
    | some o => isTabO o
    | none => false)
def hookL (n : Nat) (fa : List He.Fa) (fn : List He.DefD) (ex : PySem.W.Frag → Bool) : PySem.W.Hook where
  α := He.AlD × Bool
  obs := fun s => obsL n fa fn ex s.heap.get?
  val := fun _ => (He.valD fn, true)
  says := fun _ h => ∃ K : PySem.W.Frag, K.In h ∧ He.SaysD fa fn K ∧ ex K = true ∧ ∀ p ∈ csL K, h.get? p.2 = some (PySem.W.tabObj #[])
  of := fun _ s e => by
    have e1 := (Prod.mk.inj e).1
    have e2 := (Prod.mk.inj e).2
    rw [Bool.and_eq_true, List.all_eq_true] at e2
    refine ⟨_, He.frG_in, e1, e2.1, fun p hp => ?_⟩
    have q := e2.2 p hp
    cases z : s.heap.get? p.2 with
    | none => simp only [z] at q; cases q
    | some o => simp only [z] at q; rw [isTabO_ok q]
  keeps := fun _ _ _ ⟨K, hK, c, x, t⟩ k => ⟨K, PySem.W.Frag.In.keeps hK k, c, x, fun p hp => k _ _ (t p hp)⟩
theorem obsL_eq {n : Nat} {fa : List He.Fa} {fn : List He.DefD} {ex : PySem.W.Frag → Bool} {g : Addr → Option Obj} {s : Shared} (h : ∀ a, g a = s.heap.get? a) : obsL n fa fn ex g = (hookL n fa fn ex).obs s := by
  have e : g = s.heap.get? := funext h
  rw [e] <;> rfl
theorem csAt_ok {K : PySem.W.Frag} {c : Addr} {o : Obj} {t : Addr × Addr × Str} (e : csAt K c o = some t) : t.1 = c ∧ PySem.W.codeHdIn K c t.2.1 = true ∧ K.lookup t.2.1 = none := by
  unfold csAt at e
  split at e
  · split at e
    · split at e
      · rename_i h
        cases e
        rw [Bool.and_eq_true] at h
        exact ⟨rfl, h.1, Option.isNone_iff_eq_none.mp h.2⟩
      · cases e
    · cases e
  · cases e
theorem csL_ok {K : PySem.W.Frag} {p : Addr × Addr} (h : p ∈ csL K) : PySem.W.codeHdIn K p.1 p.2 = true ∧ K.lookup p.2 = none := by
  obtain ⟨t, ht, e⟩ := List.mem_map.mp h
  obtain ⟨x, hx, ex⟩ := List.mem_filterMap.mp ht
  obtain ⟨e1, e2, e3⟩ := csAt_ok ex
  rw [← e]
  exact ⟨by rw [e1]; exact e2, e3⟩
/-- the law's promise, at the head's heap -/
theorem lawAt {l : PySem.W.OpenLaw} {w : World} {K : PySem.W.Frag} {mg : Str → Option Value} {fa : Addr} {h : Heap} {k : Nat} {fd : FuncData} {sem : List D → AH → R D} (KX : K.In h) (hT : ∀ p ∈ csL K, h.get? p.2 = some (PySem.W.tabObj #[]))
    (hb : ∀ (s : Shared) (u : Value), BindsTo s fd ⟨[u], []⟩ [("script", u)]) (ok : ∀ (ns : List Int) (h : AH), ∃ h', sem [.kl (ns.map D.int)] h = .ok (.bl true) h')
    (F : ∀ base : Heap, TBs K mg base → FnOk l.prog w K mg base (L2N.CX l.prog w) k fa fd ["script"] (spS K mg 1 sem)) : LawAtS l w K (L2N.CX l.prog w) k 63 "script" mg fa h :=
  ⟨fd, csL K, spS K mg 1 sem, hT, fun p hp => (csL_ok hp).2, fun p hp => PySem.W.codeHd_of_K KX (csL_ok hp).1, hb, fun H a ns hl _ hT2 hS => law_sp ok hT2 hS hl, fun base _ _ tb => F base tb⟩
/-- .. where the numbers' sizes count -/
theorem law_spB {K : PySem.W.Frag} {mg : Str → Option Value} {sem : List D → AH → R D} {H : Hp} {a : Addr} {ns : List Int} (ok : ∀ (h : AH), ∃ h', sem [.kl (ns.map D.int)] h = .ok (.bl true) h') (hT : ∀ p ∈ csL K, H p.2 = some (.tbl #[])) (hS : SqL K H a (ns.map V.int)) (hz : ns.length ≤ 63) :
    spS K mg 1 sem [.ref a] H (fun v _ => v = .bl true) fun _ _ _ => False := by
  obtain ⟨h', e⟩ := ok []
  refine ⟨rfl, ⟨[], []⟩, [], [.kl (ns.map D.int)], ⟨rfl, fun i j p e1 => by simp at e1, fun i c e => by simp at e, fun p hp => (nomatch hp), tabs_start hT⟩, ?_, ?_⟩
  · refine Reps.one ⟨by rw [SL_eq, List.length_map]; unfold SL; omega, a, ns.map V.int, rfl, ?_, ints_reps ns⟩
    rcases hS with r | r
    · exact .inl ⟨r, fun i e => by simp at e, fun e => nomatch e⟩
    · exact .inr r
  · rw [e]
    intro β' H' x rl v r
    exact r
theorem cxn_no {P : Program} {w : World} : ∀ (H : Hp) (s : Shared) (e : Value) (s' : Shared), L2N.CX P w [] H s (fun _ _ _ => False) e s' → False := fun H s e s' c => by
  obtain ⟨a, B, H', cls, d, rfl, fl, hok, ub, na, os, ag, hE⟩ := c
  exact hE
/-! ### the classes of errors, looked at once -/
def excCB (K : PySem.W.Frag) (C : Addr) : Bool := decide (PySem.W.findIn K (.ref C) "__getattribute__" = some (some (.builtin "BaseException.__getattribute__"))) && (decide (PySem.W.findIn K (.ref C) "__getattr__" = some none) && (decide (PySem.W.subIn K (.ref C) (.type "BaseException") = some true) && (PySem.W.hasDictIn K C
  && (decide (PySem.W.findIn K (.ref C) "__class__" = some (some (.builtin "object.__class__"))) && (decide (PySem.W.specialIn K (.builtin "object.__class__") "__get__" = some (some (.builtin "getset_descriptor.__get__"))) && (decide (PySem.W.takesIn K (.builtin "object.__class__") = some true) && decide (PySem.W.mroIn K C (.type "object") = some true)))))))
theorem excCB_ok {K : PySem.W.Frag} {C : Addr} (h : excCB K C = true) : ExcC K C := by
  simp only [excCB, Bool.and_eq_true, decide_eq_true_eq] at h
  obtain ⟨h1, h2, h3, h4, h5, h6, h7, h8⟩ := h
  exact ⟨h1, h2, h3, h4, h5, h6, h7, h8⟩
def names20 : List Str := "RoomError" :: (kinds ++ fkinds.map (·.1))
def kindB (K : PySem.W.Frag) : Bool := (names20.all fun x => (He.Fa.glo x).ok K) && kinds.all fun cn => excCB K (He.ga K cn) && ((kinds ++ fkinds.map (·.1)).all fun dn => decide (PySem.W.kitOne K (.ref (He.ga K cn)) (.ref (He.ga K dn)) = some (cn == dn)))
  && ((fkinds.map (·.1)).all fun dn => decide (PySem.W.exmOne K (.ref (He.ga K cn)) (.ref (He.ga K dn)) = some false)) && decide (PySem.W.exmOne K (.ref (He.ga K cn)) (.ref (He.ga K "RoomError")) = some true)
theorem kindB_glo {K : PySem.W.Frag} {h : Heap} {mg : Str → Option Value} (X : K.In h) (G : h.Ns mainGlobals mg) (b : kindB K = true) : ∀ x ∈ names20, mg x = some (.ref (He.ga K x)) := fun x hx => by
  unfold kindB at b
  rw [Bool.and_eq_true, List.all_eq_true] at b
  exact He.glo_ok X G (b.1 x hx)
theorem kindB_F {K : PySem.W.Frag} {h : Heap} {mg : Str → Option Value} (X : K.In h) (G : h.Ns mainGlobals mg) (b : kindB K = true) : KindF K mg := fun cn hcn C hC => by
  have gl := kindB_glo X G b
  unfold kindB at b
  simp only [Bool.and_eq_true, List.all_eq_true, decide_eq_true_eq] at b
  obtain ⟨⟨⟨b1, b2⟩, b3⟩, b4⟩ := b.2 cn hcn
  have e := gl cn (List.mem_cons_of_mem _ (List.mem_append_left _ hcn))
  rw [hC] at e
  cases e
  exact ⟨excCB_ok b1, fun dn hd => ⟨_, gl dn (List.mem_cons_of_mem _ hd), b2 dn hd⟩⟩
theorem kindB_T {P : Program} {w : World} {K : PySem.W.Frag} {h : Heap} {mg : Str → Option Value} {base : Heap} {j : Nat} {sk : Str → Addr → List D → AH → R D} (X : K.In h) (G : h.Ns mainGlobals mg) (b : kindB K = true)
    (kind : ∀ cn ∈ kinds, FnPT P w K mg base "_law_kind" j cn (sk cn)) (says : ∀ cn ∈ kinds, ∀ a h, sk cn a [.adr a] h = .ok (.str cn) h) : TriedF P w K mg base j (He.ga K "NoRoom") (He.ga K "UnknownName") (He.ga K "InvalidText") (He.ga K "RoomError") sk := by
  have gl := kindB_glo X G b
  refine ⟨gl _ (by decide), gl _ (by decide), gl _ (by decide), gl _ (by decide), fun cn hcn => ?_, kind, says⟩
  unfold kindB at b
  simp only [Bool.and_eq_true, List.all_eq_true, decide_eq_true_eq] at b
  obtain ⟨⟨⟨b1, b2⟩, b3⟩, b4⟩ := b.2 cn hcn
  exact ⟨_, gl cn (List.mem_cons_of_mem _ (List.mem_append_left _ hcn)), b3 _ (by decide), b3 _ (by decide), b3 _ (by decide), b4⟩
theorem excF_of {K : PySem.W.Frag} {h : Heap} {mg : Str → Option Value} {x : Str} (X : K.In h) (G : h.Ns mainGlobals mg) (c1 : (He.Fa.glo x).ok K = true) (c2 : (He.Fa.exc x).ok K = true) : ∃ C, ExcF K mg x C := by
  obtain ⟨e1, e2, e3, e4⟩ := He.exc_ok c2
  exact ⟨_, He.glo_ok X G c1, e1, e2, e3, e4⟩
end Rm

namespace Rm
open PySem PySem.Spec PyProof.Rows L2

/-! ### meanings, unfolded at their place -/
section
variable {env : En} {h : AH}
noncomputable def sSeq1 (r : R Fl) (g : Sv) : R Fl := r.bind fun fl h1 => match fl with | .nx e1 => g e1 h1 | o => .ok o h1
@[simp] theorem sSeq_at (f g : Sv) : sSeq f g env h = sSeq1 (f env h) g := rfl
@[simp] theorem sSeq1_nx (g : Sv) : sSeq1 (.ok (.nx env) h) g = g env h := rfl
@[simp] theorem sSeq1_rt (g : Sv) (d : D) : sSeq1 (.ok (.rt d) h) g = .ok (.rt d) h := rfl
@[simp] theorem sSeq1_bk (g : Sv) : sSeq1 (.ok (.bk env) h) g = .ok (.bk env) h := rfl
@[simp] theorem sSeq1_ct (g : Sv) : sSeq1 (.ok (.ct env) h) g = .ok (.ct env) h := rfl
@[simp] theorem sSeq1_er (g : Sv) (e : Er) : sSeq1 (.err e h) g = .err e h := rfl
@[simp] theorem sNil_at  : sNil env h = .ok (.nx env) h := rfl
noncomputable def sAsg2 (r : R En) : R Fl := r.bind fun e1 h2 => .ok (.nx e1) h2
noncomputable def sAsg1 (r : R D) (g : Gv) (env : En) : R Fl := r.bind fun d h1 => sAsg2 (g d env h1)
@[simp] theorem sAsg_at (f : Ev) (g : Gv) : sAsg f g env h = sAsg1 (f env h) g env := rfl
@[simp] theorem sAsg1_ok (d : D) (g : Gv) : sAsg1 (.ok d h) g env = sAsg2 (g d env h) := rfl
@[simp] theorem sAsg1_er (e : Er) (g : Gv) : sAsg1 (.err e h) g env = .err e h := rfl
@[simp] theorem sAsg2_ok  : sAsg2 (.ok env h) = .ok (.nx env) h := rfl
noncomputable def sRet1 (r : R D) : R Fl := r.bind fun d h1 => .ok (.rt d) h1
@[simp] theorem sRet_at (f : Ev) : sRet f env h = sRet1 (f env h) := rfl
@[simp] theorem sRet1_ok (d : D) : sRet1 (.ok d h) = .ok (.rt d) h := rfl
@[simp] theorem sRet1_er (e : Er) : sRet1 (.err e h) = .err e h := rfl
@[simp] theorem sRetN_at  : sRetN env h = .ok (.rt .non) h := rfl
noncomputable def sIf1 (r : R Bool) (f g : Sv) (env : En) : R Fl := r.bind fun b h1 => if b = true then f env h1 else g env h1
@[simp] theorem sIf_at (c : Tv) (f g : Sv) : sIf c f g env h = sIf1 (c env h) f g env := rfl
@[simp] theorem sIf1_t (f g : Sv) : sIf1 (.ok true h) f g env = f env h := rfl
@[simp] theorem sIf1_f (f g : Sv) : sIf1 (.ok false h) f g env = g env h := rfl
@[simp] theorem sIf1_er (f g : Sv) (e : Er) : sIf1 (.err e h) f g env = .err e h := rfl
noncomputable def sExp1 (r : R D) (env : En) : R Fl := r.bind fun _ h1 => .ok (.nx env) h1
@[simp] theorem sExp_at (f : Ev) : sExp f env h = sExp1 (f env h) env := rfl
@[simp] theorem sExp1_ok (d : D) : sExp1 (.ok d h) env = .ok (.nx env) h := rfl
@[simp] theorem sExp1_er (e : Er) : sExp1 (.err e h) env = .err e h := rfl
noncomputable def sPar1 (i j : Nat) (r : R (List D)) (env : En) : R Fl := r.bind fun ds h1 => match ds with | [a, b] => .ok (.nx ((env.set i (some a)).set j (some b))) h1 | _ => .bad
@[simp] theorem sPar_at (i j : Nat) (es : Av) : sPar i j es env h = sPar1 i j (es env h) env := rfl
@[simp] theorem sPar1_ok (i j : Nat) (a b : D) : sPar1 i j (.ok [a, b] h) env = .ok (.nx ((env.set i (some a)).set j (some b))) h := rfl
noncomputable def sAug2 (r : R D) (i : Nat) (env : En) : R Fl := r.bind fun z h2 => .ok (.nx (env.set i (some z))) h2
noncomputable def sAug1 (o : Option (Option D)) (i : Nat) (g : D → D → AH → R D) (f : Ev) (env : En) (h : AH) : R Fl := match o with | some (some a) => (f env h).bind fun b h1 => sAug2 (g a b h1) i env | _ => .bad
noncomputable def sAug3 (r : R D) (a : D) (i : Nat) (g : D → D → AH → R D) (env : En) : R Fl := r.bind fun b h1 => sAug2 (g a b h1) i env
@[simp] theorem sAug_at (i : Nat) (g : D → D → AH → R D) (f : Ev) : sAug i g f env h = sAug1 env[i]? i g f env h := rfl
@[simp] theorem sAug1_ok (a : D) (i : Nat) (g : D → D → AH → R D) (f : Ev) : sAug1 (some (some a)) i g f env h = sAug3 (f env h) a i g env := rfl
@[simp] theorem sAug3_ok (a b : D) (i : Nat) (g : D → D → AH → R D) : sAug3 (.ok b h) a i g env = sAug2 (g a b h) i env := rfl
@[simp] theorem sAug2_ok (i : Nat) (z : D) : sAug2 (.ok z h) i env = .ok (.nx (env.set i (some z))) h := rfl
noncomputable def mLoc1 (o : Option (Option D)) (h : AH) : R D := match o with | some (some d) => .ok d h | _ => .bad
@[simp] theorem mLoc_at (i : Nat) : mLoc i env h = mLoc1 env[i]? h := rfl
@[simp] theorem mLoc1_ok (d : D) : mLoc1 (some (some d)) h = .ok d h := rfl
@[simp] theorem mCon_at (d : D) : mCon d env h = .ok d h := rfl
noncomputable def m2b (r : R D) (g : D → D → AH → R D) (a : D) : R D := r.bind fun b h2 => g a b h2
noncomputable def m2a (r : R D) (g : D → D → AH → R D) (fb : Ev) (env : En) : R D := r.bind fun a h1 => m2b (fb env h1) g a
@[simp] theorem m2_at (g : D → D → AH → R D) (fa fb : Ev) : m2 g fa fb env h = m2a (fa env h) g fb env := rfl
@[simp] theorem m2a_ok (g : D → D → AH → R D) (fb : Ev) (a : D) : m2a (.ok a h) g fb env = m2b (fb env h) g a := rfl
@[simp] theorem m2b_ok (g : D → D → AH → R D) (a b : D) : m2b (.ok b h) g a = g a b h := rfl
@[simp] theorem m2a_er (g : D → D → AH → R D) (fb : Ev) (e : Er) : m2a (.err e h) g fb env = .err e h := rfl
@[simp] theorem m2b_er (g : D → D → AH → R D) (a : D) (e : Er) : m2b (.err e h) g a = .err e h := rfl
noncomputable def m1a (r : R D) (g : D → AH → R D) : R D := r.bind fun a h1 => g a h1
@[simp] theorem m1_at (g : D → AH → R D) (fa : Ev) : m1 g fa env h = m1a (fa env h) g := rfl
@[simp] theorem m1a_ok (g : D → AH → R D) (a : D) : m1a (.ok a h) g = g a h := rfl
@[simp] theorem m1a_er (g : D → AH → R D) (e : Er) : m1a (.err e h) g = .err e h := rfl
@[simp] theorem mNil_at  : mNil env h = .ok [] h := rfl
noncomputable def mCons2 (a : D) (r : R (List D)) : R (List D) := r.bind fun ds h2 => .ok (a :: ds) h2
noncomputable def mCons1 (r : R D) (fr : Av) (env : En) : R (List D) := r.bind fun a h1 => mCons2 a (fr env h1)
@[simp] theorem mCons_at (fe : Ev) (fr : Av) : mCons fe fr env h = mCons1 (fe env h) fr env := rfl
@[simp] theorem mCons1_ok (fr : Av) (a : D) : mCons1 (.ok a h) fr env = mCons2 a (fr env h) := rfl
@[simp] theorem mCons2_ok (a : D) (ds : List D) : mCons2 a (.ok ds h) = .ok (a :: ds) h := rfl
@[simp] theorem mCons1_er (fr : Av) (e : Er) : mCons1 (.err e h) fr env = .err e h := rfl
@[simp] theorem mCons2_er (a : D) (e : Er) : mCons2 a (.err e h) = .err e h := rfl
noncomputable def mTup1 (r : R (List D)) : R D := r.bind fun ds h1 => if ds.length ≤ SL then .ok (.tup ds) h1 else .bad
@[simp] theorem mTup_at (es : Av) : mTup es env h = mTup1 (es env h) := rfl
@[simp] theorem mTup1_ok (ds : List D) : mTup1 (.ok ds h) = if ds.length ≤ SL then .ok (.tup ds) h else .bad := rfl
noncomputable def mLf1 (r : R (List D)) : R D := r.bind fun ds h1 => if ds.length ≤ SL then .ok (.fl ds) h1 else .bad
@[simp] theorem mLf_at (es : Av) : mLf es env h = mLf1 (es env h) := rfl
@[simp] theorem mLf1_ok (ds : List D) : mLf1 (.ok ds h) = if ds.length ≤ SL then .ok (.fl ds) h else .bad := rfl
noncomputable def mLm1 (r : R (List D)) : R D := r.bind fun ds h1 => if ds.length ≤ SL then .ok (.lst h1.length) (h1 ++ [.lst ds]) else .bad
@[simp] theorem mLm_at (es : Av) : mLm es env h = mLm1 (es env h) := rfl
@[simp] theorem mLm1_ok (ds : List D) : mLm1 (.ok ds h) = if ds.length ≤ SL then .ok (.lst h.length) (h ++ [.lst ds]) else .bad := rfl
noncomputable def mCall1 (r : R (List D)) (sem : List D → AH → R D) : R D := r.bind fun ds h1 => sem ds h1
@[simp] theorem mCall_at (sem : List D → AH → R D) (es : Av) : mCall sem es env h = mCall1 (es env h) sem := rfl
@[simp] theorem mCall1_ok (sem : List D → AH → R D) (ds : List D) : mCall1 (.ok ds h) sem = sem ds h := rfl
@[simp] theorem mCall1_er (sem : List D → AH → R D) (e : Er) : mCall1 (.err e h) sem = .err e h := rfl
noncomputable def mTest1 (r : R D) : R Bool := r.bind fun d h1 => asB d h1
@[simp] theorem mTest_at (f : Ev) : mTest f env h = mTest1 (f env h) := rfl
@[simp] theorem mTest1_ok (b : Bool) : mTest1 (.ok (.bl b) h) = .ok b h := rfl
@[simp] theorem mTest1_er (e : Er) : mTest1 (.err e h) = .err e h := rfl
@[simp] theorem asB_bl (b : Bool) : asB (.bl b) h = .ok b h := rfl
noncomputable def mNotT1 (r : R Bool) : R Bool := r.bind fun b h1 => .ok (!b) h1
@[simp] theorem mNotT_at (f : Tv) : mNotT f env h = mNotT1 (f env h) := rfl
@[simp] theorem mNotT1_ok (b : Bool) : mNotT1 (.ok b h) = .ok (!b) h := rfl
noncomputable def mAndT1 (r : R Bool) (g : Tv) (env : En) : R Bool := r.bind fun b h1 => if b = true then g env h1 else .ok false h1
@[simp] theorem mAndT_at (f g : Tv) : mAndT f g env h = mAndT1 (f env h) g env := rfl
@[simp] theorem mAndT1_t (g : Tv) : mAndT1 (.ok true h) g env = g env h := rfl
@[simp] theorem mAndT1_f (g : Tv) : mAndT1 (.ok false h) g env = .ok false h := rfl
noncomputable def mOrT1 (r : R Bool) (g : Tv) (env : En) : R Bool := r.bind fun b h1 => if b = true then .ok true h1 else g env h1
@[simp] theorem mOrT_at (f g : Tv) : mOrT f g env h = mOrT1 (f env h) g env := rfl
@[simp] theorem mOrT1_t (g : Tv) : mOrT1 (.ok true h) g env = .ok true h := rfl
@[simp] theorem mOrT1_f (g : Tv) : mOrT1 (.ok false h) g env = g env h := rfl
noncomputable def mAnd1 (r : R D) (g : Ev) (env : En) : R D := r.bind fun d h1 => (asB d h1).bind fun b h1 => if b = true then g env h1 else .ok (.bl false) h1
@[simp] theorem mAnd_at (f g : Ev) : mAnd f g env h = mAnd1 (f env h) g env := rfl
@[simp] theorem mAnd1_t (g : Ev) : mAnd1 (.ok (.bl true) h) g env = g env h := rfl
@[simp] theorem mAnd1_f (g : Ev) : mAnd1 (.ok (.bl false) h) g env = .ok (.bl false) h := rfl
noncomputable def mOr1 (r : R D) (g : Ev) (env : En) : R D := r.bind fun d h1 => (asB d h1).bind fun b h1 => if b = true then .ok (.bl true) h1 else g env h1
@[simp] theorem mOr_at (f g : Ev) : mOr f g env h = mOr1 (f env h) g env := rfl
@[simp] theorem mOr1_t (g : Ev) : mOr1 (.ok (.bl true) h) g env = .ok (.bl true) h := rfl
@[simp] theorem mOr1_f (g : Ev) : mOr1 (.ok (.bl false) h) g env = g env h := rfl
noncomputable def mNot1 (r : R D) : R D := r.bind fun d h1 => (asB d h1).bind fun b h1 => .ok (.bl (!b)) h1
@[simp] theorem mNot_at (f : Ev) : mNot f env h = mNot1 (f env h) := rfl
@[simp] theorem mNot1_ok (b : Bool) : mNot1 (.ok (.bl b) h) = .ok (.bl (!b)) h := rfl
noncomputable def mIfE1 (r : R Bool) (f g : Ev) (env : En) : R D := r.bind fun b h1 => if b = true then f env h1 else g env h1
@[simp] theorem mIfE_at (c : Tv) (f g : Ev) : mIfE c f g env h = mIfE1 (c env h) f g env := rfl
@[simp] theorem mIfE1_t (f g : Ev) : mIfE1 (.ok true h) f g env = f env h := rfl
@[simp] theorem mIfE1_f (f g : Ev) : mIfE1 (.ok false h) f g env = g env h := rfl
noncomputable def m3c3 (r : R D) (b : D) (g : D → D → AH → R D) : R D := r.bind fun c h4 => g b c h4
noncomputable def m3c2 (r : R D) (b : D) (g : D → D → AH → R D) (fc : Ev) (env : En) : R D := r.bind fun z h3 => (asB z h3).bind fun k h3 => if k = true then m3c3 (fc env h3) b g else .ok (.bl false) h3
noncomputable def m3c1 (r : R D) (a : D) (g g2 : D → D → AH → R D) (fc : Ev) (env : En) : R D := r.bind fun b h2 => m3c2 (g a b h2) b g2 fc env
noncomputable def m3c0 (r : R D) (g g2 : D → D → AH → R D) (fb fc : Ev) (env : En) : R D := r.bind fun a h1 => m3c1 (fb env h1) a g g2 fc env
@[simp] theorem m3c_at (g g2 : D → D → AH → R D) (fa fb fc : Ev) : m3c g g2 fa fb fc env h = m3c0 (fa env h) g g2 fb fc env := rfl
@[simp] theorem m3c0_ok (a : D) (g g2 : D → D → AH → R D) (fb fc : Ev) : m3c0 (.ok a h) g g2 fb fc env = m3c1 (fb env h) a g g2 fc env := rfl
@[simp] theorem m3c1_ok (a b : D) (g g2 : D → D → AH → R D) (fc : Ev) : m3c1 (.ok b h) a g g2 fc env = m3c2 (g a b h) b g2 fc env := rfl
@[simp] theorem m3c2_t (b : D) (g2 : D → D → AH → R D) (fc : Ev) : m3c2 (.ok (.bl true) h) b g2 fc env = m3c3 (fc env h) b g2 := rfl
@[simp] theorem m3c2_f (b : D) (g2 : D → D → AH → R D) (fc : Ev) : m3c2 (.ok (.bl false) h) b g2 fc env = .ok (.bl false) h := rfl
@[simp] theorem m3c3_ok (b c : D) (g2 : D → D → AH → R D) : m3c3 (.ok c h) b g2 = g2 b c h := rfl
@[simp] theorem gNm_at (i : Nat) (d : D) : gNm i d env h = .ok (env.set i (some d)) h := rfl
@[simp] theorem gsNil_at  : gsNil [] env h = .ok env h := rfl
noncomputable def gsCons1 (r : R En) (g : Gvs) (ds : List D) : R En := r.bind fun e1 h1 => g ds e1 h1
@[simp] theorem gsCons_at (g : Gv) (r : Gvs) (d : D) (ds : List D) : gsCons g r (d :: ds) env h = gsCons1 (g d env h) r ds := rfl
@[simp] theorem gsCons1_ok (r : Gvs) (ds : List D) : gsCons1 (.ok env h) r ds = r ds env h := rfl
@[simp] theorem gTp_at (n : Nat) (g : Gvs) (ds : List D) : gTp n g (.tup ds) env h = if ds.length = n then g ds env h else .bad := rfl
noncomputable def mFz1 (r : R D) : R D := r.bind fun a h1 => fz a h1
@[simp] theorem mFz_at (f : Ev) : mFz f env h = mFz1 (f env h) := rfl
@[simp] theorem mFz1_ok (a : D) : mFz1 (.ok a h) = fz a h := rfl
noncomputable def fz1 (o : Option Cell) (a : Nat) (h : AH) : R D := match o with | some (.lst xs) => .ok (.fl xs) (h.set a .dead) | _ => .bad
@[simp] theorem fz_lst (a : Nat) : fz (.lst a) h = fz1 h[a]? a h := rfl
@[simp] theorem fz1_ok (a : Nat) (xs : List D) : fz1 (some (.lst xs)) a h = .ok (.fl xs) (h.set a .dead) := rfl
noncomputable def gApp1 (o : Option Cell) (a : Nat) (d : D) (h : AH) : R D := match o with | some (.lst xs) => if xs.length < SL then .ok .non (h.set a (.lst (xs ++ [d]))) else .bad | _ => .bad
@[simp] theorem gApp_lst (a : Nat) (d : D) : gApp (.lst a) d h = gApp1 h[a]? a d h := rfl
@[simp] theorem gApp1_ok (a : Nat) (d : D) (xs : List D) : gApp1 (some (.lst xs)) a d h = if xs.length < SL then .ok .non (h.set a (.lst (xs ++ [d]))) else .bad := rfl
noncomputable def mApp3 (r : R D) (a : Nat) : R D := r.bind fun d h2 => gApp (.lst a) d h2
noncomputable def mApp2 (o : Option Cell) (a : Nat) (fe : Ev) (env : En) (h : AH) : R D := match o with | some (.lst _) => mApp3 (fe env h) a | _ => .bad
noncomputable def mApp1 (r : R D) (fe : Ev) (env : En) : R D := r.bind fun o h1 => match o with | .lst a => mApp2 h1[a]? a fe env h1 | _ => .bad
@[simp] theorem mApp_at (fo fe : Ev) : mApp fo fe env h = mApp1 (fo env h) fe env := rfl
@[simp] theorem mApp1_ok (fe : Ev) (a : Nat) : mApp1 (.ok (.lst a) h) fe env = mApp2 h[a]? a fe env h := rfl
@[simp] theorem mApp2_ok (fe : Ev) (a : Nat) (xs : List D) : mApp2 (some (.lst xs)) a fe env h = mApp3 (fe env h) a := rfl
@[simp] theorem mApp3_ok (a : Nat) (d : D) : mApp3 (.ok d h) a = gApp (.lst a) d h := rfl
noncomputable def gSet4 (o : Option Nat) (a : Nat) (xs : List D) (d : D) (env : En) (h : AH) : R En := match o with | some j => .ok env (h.set a (.lst (xs.set j d))) | none => .bad
noncomputable def gSet3 (o : Option Cell) (a : Nat) (k : Int) (d : D) (env : En) (h : AH) : R En := match o with | some (.lst xs) => gSet4 (ixN xs.length k) a xs d env h | _ => .bad
noncomputable def gSet2 (r : R D) (o : D) (d : D) (env : En) : R En := r.bind fun i h2 => match o, i with | .lst a, .int k => gSet3 h2[a]? a k d env h2 | _, _ => .bad
noncomputable def gSet1 (r : R D) (fi : Ev) (d : D) (env : En) : R En := r.bind fun o h1 => gSet2 (fi env h1) o d env
@[simp] theorem gSet_at (fo fi : Ev) (d : D) : gSet fo fi d env h = gSet1 (fo env h) fi d env := rfl
@[simp] theorem gSet1_ok (o : D) (fi : Ev) (d : D) : gSet1 (.ok o h) fi d env = gSet2 (fi env h) o d env := rfl
@[simp] theorem gSet2_ok (a : Nat) (k : Int) (d : D) : gSet2 (.ok (.int k) h) (.lst a) d env = gSet3 h[a]? a k d env h := rfl
@[simp] theorem gSet3_ok (a : Nat) (k : Int) (d : D) (xs : List D) : gSet3 (some (.lst xs)) a k d env h = gSet4 (ixN xs.length k) a xs d env h := rfl
@[simp] theorem gSet4_ok (a j : Nat) (d : D) (xs : List D) : gSet4 (some j) a xs d env h = .ok env (h.set a (.lst (xs.set j d))) := rfl
noncomputable def itSeq2 (o : Option (List D)) (d : D) (h : AH) : R ItD := match o with | some xs => .ok ⟨xs, wOf h d⟩ h | none => .bad
noncomputable def itSeq1 (r : R D) : R ItD := r.bind fun d h1 => itSeq2 (rdS h1 d) d h1
@[simp] theorem itSeq_at (f : Ev) : itSeq f env h = itSeq1 (f env h) := rfl
@[simp] theorem itSeq1_ok (d : D) : itSeq1 (.ok d h) = itSeq2 (rdS h d) d h := rfl
@[simp] theorem itSeq2_ok (d : D) (xs : List D) : itSeq2 (some xs) d h = .ok ⟨xs, wOf h d⟩ h := rfl
noncomputable def itEnum2 (o : Option (List D)) (d : D) (h : AH) : R ItD := match o with | some xs => .ok ⟨(xs.zipIdx).map fun q => .tup [.int q.2, q.1], wOf h d⟩ h | none => .bad
noncomputable def itEnum1 (r : R D) : R ItD := r.bind fun d h1 => itEnum2 (rdS h1 d) d h1
@[simp] theorem itEnum_at (f : Ev) : itEnum f env h = itEnum1 (f env h) := rfl
@[simp] theorem itEnum1_ok (d : D) : itEnum1 (.ok d h) = itEnum2 (rdS h d) d h := rfl
@[simp] theorem itEnum2_ok (d : D) (xs : List D) : itEnum2 (some xs) d h = .ok ⟨(xs.zipIdx).map fun q => .tup [.int q.2, q.1], wOf h d⟩ h := rfl
noncomputable def itZip22 (oa ob : Option (List D)) (a b : D) (h : AH) : R ItD := match oa, ob with | some xs, some ys => .ok ⟨(xs.zip ys).map fun q => .tup [q.1, q.2], wOf h a ++ wOf h b⟩ h | _, _ => .bad
noncomputable def itZip21 (r : R (List D)) : R ItD := r.bind fun ds h1 => match ds with | [a, b] => itZip22 (rdS h1 a) (rdS h1 b) a b h1 | _ => .bad
@[simp] theorem itZip2_at (fs : Av) : itZip2 fs env h = itZip21 (fs env h) := rfl
@[simp] theorem itZip21_ok (a b : D) : itZip21 (.ok [a, b] h) = itZip22 (rdS h a) (rdS h b) a b h := rfl
@[simp] theorem itZip22_ok (a b : D) (xs ys : List D) : itZip22 (some xs) (some ys) a b h = .ok ⟨(xs.zip ys).map fun q => .tup [q.1, q.2], wOf h a ++ wOf h b⟩ h := rfl
noncomputable def itZip32 (oa ob oc : Option (List D)) (a b c : D) (h : AH) : R ItD := match oa, ob, oc with | some xs, some ys, some zs => .ok ⟨(xs.zip (ys.zip zs)).map fun q => .tup [q.1, q.2.1, q.2.2], wOf h a ++ (wOf h b ++ wOf h c)⟩ h | _, _, _ => .bad
noncomputable def itZip31 (r : R (List D)) : R ItD := r.bind fun ds h1 => match ds with | [a, b, c] => itZip32 (rdS h1 a) (rdS h1 b) (rdS h1 c) a b c h1 | _ => .bad
@[simp] theorem itZip3_at (fs : Av) : itZip3 fs env h = itZip31 (fs env h) := rfl
@[simp] theorem itZip31_ok (a b c : D) : itZip31 (.ok [a, b, c] h) = itZip32 (rdS h a) (rdS h b) (rdS h c) a b c h := rfl
@[simp] theorem itZip32_ok (a b c : D) (xs ys zs : List D) : itZip32 (some xs) (some ys) (some zs) a b c h = .ok ⟨(xs.zip (ys.zip zs)).map fun q => .tup [q.1, q.2.1, q.2.2], wOf h a ++ (wOf h b ++ wOf h c)⟩ h := rfl
open Classical in
noncomputable def itRange11 (r : R (List D)) : R ItD := r.bind fun ds h1 => match ds with | [.int j] => if RgOk2 0 j then .ok ⟨(List.range j.toNat).map fun k => .int ((0 : Int) + (k : Nat)), []⟩ h1 else .bad | _ => .bad
@[simp] theorem itRange1_at (fs : Av) : itRange1 fs env h = itRange11 (fs env h) := rfl
theorem itRange11_ok {j : Int} (hj : 0 ≤ j) (hj2 : j < 2 ^ 62) : itRange11 (.ok [.int j] h) = .ok ⟨(List.range j.toNat).map fun (k : Nat) => .int k, []⟩ h := by
  have : RgOk2 0 j := ⟨by decide, by decide, by omega, hj2⟩
  simp [itRange11, this]
theorem itRange11_nat {j : Nat} (hj2 : j < 2 ^ 62) : itRange11 (.ok [.int (j : Int)] h) = .ok ⟨(List.range j).map fun (k : Nat) => .int k, []⟩ h := by
  have := itRange11_ok (h := h) (j := (j : Int)) (by omega) (by omega)
  rwa [Int.toNat_natCast] at this
open Classical in
noncomputable def itRange21 (r : R (List D)) : R ItD := r.bind fun ds h1 => match ds with | [.int i, .int j] => if RgOk2 i j then .ok ⟨(List.range (j - i).toNat).map fun k => .int (i + (k : Nat)), []⟩ h1 else .bad | _ => .bad
@[simp] theorem itRange2_at (fs : Av) : itRange2 fs env h = itRange21 (fs env h) := rfl
theorem itRange21_ok {i j : Int} (hj : RgOk2 i j) : itRange21 (.ok [.int i, .int j] h) = .ok ⟨(List.range (j - i).toNat).map fun (k : Nat) => .int (i + k), []⟩ h := by
  simp [itRange21, hj]
noncomputable def sFor1 (r : R ItD) (g : Gv) (b : Sv) (W : List Nat) (env : En) : R Fl := r.bind fun it h1 => forL it.watch g b W it.items (wipeE env W) h1
@[simp] theorem sFor_at (f : Iv) (g : Gv) (b : Sv) (W : List Nat) : sFor f g b W env h = sFor1 (f env h) g b W env := rfl
@[simp] theorem sFor1_ok (xs : List D) (w : List (Nat × List D)) (g : Gv) (b : Sv) (W : List Nat) : sFor1 (.ok ⟨xs, w⟩ h) g b W env = forL w g b W xs (wipeE env W) h := rfl
noncomputable def mLcF2 (r : R (List D)) : R D := r.bind fun ys h2 => .ok (.fl ys) h2
noncomputable def mLcF1 (r : R ItD) (g : Gv) (c : Tv) (e : Ev) (vs : List Nat) (env : En) : R D := r.bind fun it h1 => if it.items.length ≤ SL then mLcF2 (lcL it.watch g c e (wipeE env vs) it.items h1) else .bad
@[simp] theorem mLcF_at (f : Iv) (g : Gv) (c : Tv) (e : Ev) (vs : List Nat) : mLcF f g c e vs env h = mLcF1 (f env h) g c e vs env := rfl
@[simp] theorem mLcF1_ok (xs : List D) (w : List (Nat × List D)) (g : Gv) (c : Tv) (e : Ev) (vs : List Nat) : mLcF1 (.ok ⟨xs, w⟩ h) g c e vs env = if xs.length ≤ SL then mLcF2 (lcL w g c e (wipeE env vs) xs h) else .bad := rfl
@[simp] theorem mLcF2_ok (ys : List D) : mLcF2 (.ok ys h) = .ok (.fl ys) h := rfl
noncomputable def mLcM2 (r : R (List D)) : R D := r.bind fun ys h2 => .ok (.lst h2.length) (h2 ++ [.lst ys])
noncomputable def mLcM1 (r : R ItD) (g : Gv) (c : Tv) (e : Ev) (vs : List Nat) (env : En) : R D := r.bind fun it h1 => if it.items.length ≤ SL then mLcM2 (lcL it.watch g c e (wipeE env vs) it.items h1) else .bad
@[simp] theorem mLcM_at (f : Iv) (g : Gv) (c : Tv) (e : Ev) (vs : List Nat) : mLcM f g c e vs env h = mLcM1 (f env h) g c e vs env := rfl
@[simp] theorem mLcM1_ok (xs : List D) (w : List (Nat × List D)) (g : Gv) (c : Tv) (e : Ev) (vs : List Nat) : mLcM1 (.ok ⟨xs, w⟩ h) g c e vs env = if xs.length ≤ SL then mLcM2 (lcL w g c e (wipeE env vs) xs h) else .bad := rfl
@[simp] theorem mLcM2_ok (ys : List D) : mLcM2 (.ok ys h) = .ok (.lst h.length) (h ++ [.lst ys]) := rfl
@[simp] theorem wipeE_nil : wipeE env [] = env := rfl
@[simp] theorem wipeE_cons (i : Nat) (r : List Nat) : wipeE env (i :: r) = wipeE (env.set i none) r := rfl
@[simp] theorem cYes_at : cYes env h = .ok true h := rfl
@[simp] theorem nE_ok {α : Type} (a : α) : nE (.ok a h) = .ok a h := rfl
@[simp] theorem oNone_at : oNone env h = .ok none h := rfl
noncomputable def oSome1 (r : R D) : R (Option Int) := r.bind fun d h1 => match d with
  | .int i => .ok (some i) h1
  | _ => .bad
@[simp] theorem oSome_at (f : Ev) : oSome f env h = oSome1 (f env h) := rfl
@[simp] theorem oSome1_ok (i : Int) : oSome1 (.ok (.int i) h) = .ok (some i) h := rfl
noncomputable def mSl3 (r : R (Option Int)) (a : D) (l : Option Int) : R D := r.bind fun u h3 => gSl a l u h3
noncomputable def mSl2 (r : R (Option Int)) (a : D) (hi : Ov) (env : En) : R D := r.bind fun l h2 => mSl3 (hi env h2) a l
noncomputable def mSl1 (r : R D) (lo hi : Ov) (env : En) : R D := r.bind fun a h1 => mSl2 (lo env h1) a hi env
@[simp] theorem mSl_at (f : Ev) (lo hi : Ov) : mSl f lo hi env h = mSl1 (f env h) lo hi env := rfl
@[simp] theorem mSl1_ok (a : D) (lo hi : Ov) : mSl1 (.ok a h) lo hi env = mSl2 (lo env h) a hi env := rfl
@[simp] theorem mSl2_ok (a : D) (l : Option Int) (hi : Ov) : mSl2 (.ok l h) a hi env = mSl3 (hi env h) a l := rfl
@[simp] theorem mSl3_ok (a : D) (l u : Option Int) : mSl3 (.ok u h) a l = gSl a l u h := rfl
@[simp] theorem gSl_tup (xs : List D) (lo hi : Option Int) : gSl (.tup xs) lo hi h = .ok (.tup (cutD xs lo hi)) h := rfl
@[simp] theorem gSl_fl (xs : List D) (lo hi : Option Int) : gSl (.fl xs) lo hi h = .ok (.fl (cutD xs lo hi)) h := rfl
@[simp] theorem gSl_kl (xs : List D) (lo hi : Option Int) : gSl (.kl xs) lo hi h = .ok (.fl (cutD xs lo hi)) h := rfl
@[simp] theorem rdS_tupE (xs : List D) : rdS h (.tup xs) = some xs := rfl
@[simp] theorem rdS_fl (xs : List D) : rdS h (.fl xs) = some xs := rfl
@[simp] theorem rdS_kl (xs : List D) : rdS h (.kl xs) = some xs := rfl
@[simp] theorem rdL_fl (xs : List D) : rdL h (.fl xs) = some xs := rfl
@[simp] theorem rdL_kl (xs : List D) : rdL h (.kl xs) = some xs := rfl
@[simp] theorem rdT_fl (xs : List D) : rdT h (.fl xs) = some xs := rfl
@[simp] theorem rdS_lst (a : Nat) : rdS h (.lst a) = match h[a]? with
  | some (.lst xs) => some xs
  | _ => none := rfl
@[simp] theorem wOf_tup (xs : List D) : wOf h (.tup xs) = [] := rfl
@[simp] theorem wOf_fl (xs : List D) : wOf h (.fl xs) = [] := rfl
@[simp] theorem wOf_kl (xs : List D) : wOf h (.kl xs) = [] := rfl
/-! operators -/
@[simp] theorem gAdd_int (i j : Int) : gAdd (.int i) (.int j) h = .ok (.int (i + j)) h := rfl
@[simp] theorem gAdd_tup (xs ys : List D) : gAdd (.tup xs) (.tup ys) h = if xs.length + ys.length ≤ SL then .ok (.tup (xs ++ ys)) h else .bad := rfl
@[simp] theorem gAdd_fl (xs ys : List D) : gAdd (.fl xs) (.fl ys) h = if xs.length + ys.length ≤ SL then .ok (.fl (xs ++ ys)) h else .bad := rfl
@[simp] theorem iAdd_int (i j : Int) : iAdd (.int i) (.int j) h = .ok (.int (i + j)) h := rfl
@[simp] theorem gSub_int (i j : Int) : gSub (.int i) (.int j) h = .ok (.int (i - j)) h := rfl
theorem gMul_tup {xs : List D} {k : Int} (h1 : -(2 ^ 63) ≤ k) (h2 : k < 2 ^ 63) (h3 : k ≤ 1 ∨ xs = [] ∨ (k ≤ 1000 ∧ xs.length ≤ 1000)) : gMul (.tup xs) (.int k) h = .ok (.tup (List.replicate k.toNat xs).flatten) h := if_pos ⟨h1, h2, h3⟩
theorem gMul_int {i j : Int} (m : MulOk i j) : gMul (.int i) (.int j) h = .ok (.int (i * j)) h := if_pos m
theorem gDiv_int {i j : Int} (m : 0 < j ∧ j.natAbs < 2 ^ 9000) : gDiv (.int i) (.int j) h = .ok (.int (i / j)) h := if_pos m
theorem gMod_int {i j : Int} (m : 0 < j) : gMod (.int i) (.int j) h = .ok (.int (i % j)) h := if_pos m
theorem gPow_int {i j : Int} (m : 0 ≤ j ∧ j ≤ 1000000 ∧ i.natAbs < 2 ^ 64) : gPow (.int i) (.int j) h = .ok (.int (i ^ j.toNat)) h := if_pos m
@[simp] theorem gLt_int (i j : Int) : gLt (.int i) (.int j) h = .ok (.bl (decide (i < j))) h := rfl
@[simp] theorem gLe_int (i j : Int) : gLe (.int i) (.int j) h = .ok (.bl (decide (i ≤ j))) h := rfl
@[simp] theorem gGt_int (i j : Int) : gGt (.int i) (.int j) h = .ok (.bl (decide (j < i))) h := rfl
@[simp] theorem gGe_int (i j : Int) : gGe (.int i) (.int j) h = .ok (.bl (decide (j ≤ i))) h := rfl
@[simp] theorem gNeg_int (i : Int) : gNeg (.int i) h = .ok (.int (-i)) h := rfl
@[simp] theorem gIs_non (cs : List String) : gIs cs .non h = .ok (.bl (cs.any fun c => isTy "NoneType" c)) h := rfl
@[simp] theorem gIs_bl (cs : List String) (b : Bool) : gIs cs (.bl b) h = .ok (.bl (cs.any fun c => isTy "bool" c)) h := rfl
@[simp] theorem gIs_int (cs : List String) (i : Int) : gIs cs (.int i) h = .ok (.bl (cs.any fun c => isTy "int" c)) h := rfl
@[simp] theorem gIs_str (cs : List String) (i : Str) : gIs cs (.str i) h = .ok (.bl (cs.any fun c => isTy "str" c)) h := rfl
@[simp] theorem gIs_tup (cs : List String) (xs : List D) : gIs cs (.tup xs) h = .ok (.bl (cs.any fun c => isTy "tuple" c)) h := rfl
@[simp] theorem gIs_fl (cs : List String) (xs : List D) : gIs cs (.fl xs) h = .ok (.bl (cs.any fun c => isTy "list" c)) h := rfl
@[simp] theorem isTy_1 : isTy "int" "int" = true := by decide
@[simp] theorem isTy_2 : isTy "int" "bool" = false := by decide
@[simp] theorem isTy_3 : isTy "tuple" "tuple" = true := by decide
@[simp] theorem isTy_4 : isTy "tuple" "int" = false := by decide
@[simp] theorem isTy_5 : isTy "int" "tuple" = false := by decide
@[simp] theorem isTy_6 : isTy "tuple" "bool" = false := by decide
@[simp] theorem isTy_7 : isTy "bool" "int" = true := by decide
@[simp] theorem isTy_8 : isTy "bool" "bool" = true := by decide
@[simp] theorem isTy_9 : isTy "list" "tuple" = false := by decide
@[simp] theorem bLen_tup (xs : List D) : bLen [.tup xs] h = .ok (.int xs.length) h := rfl
@[simp] theorem bLen_fl (xs : List D) : bLen [.fl xs] h = .ok (.int xs.length) h := rfl
@[simp] theorem bLen_kl (xs : List D) : bLen [.kl xs] h = .ok (.int xs.length) h := rfl
@[simp] theorem bMin_2 (i j : Int) : bMin [.int i, .int j] h = .ok (.int (min i j)) h := rfl
@[simp] theorem bMax_2 (i j : Int) : bMax [.int i, .int j] h = .ok (.int (max i j)) h := rfl
@[simp] theorem dInts_map' (ns : List Int) : dInts (ns.map D.int) = some ns := dInts_map ns
theorem dInts_f {α : Type} (f : α → Int) (xs : List α) : dInts (xs.map fun x => D.int (f x)) = some (xs.map f) := by
  rw [← dInts_map (xs.map f), List.map_map]; rfl
theorem bSum_map {α : Type} (f : α → Int) (xs : List α) : bSum [.fl (xs.map fun x => D.int (f x))] h = .ok (.int (xs.map f).sum) h := by
  simp [bSum, rdI, dInts_f]
theorem bSum_tup (xs : List Int) : bSum [.tup (xs.map D.int)] h = .ok (.int xs.sum) h := by
  simp [bSum, rdI]
theorem dBools_f {α : Type} (f : α → Bool) : ∀ xs : List α, dBools (xs.map fun x => D.bl (f x)) = some (xs.map f)
  | [] => rfl
  | x :: xs => by
    show (dBools (xs.map fun x => D.bl (f x))).map (f x :: ·) = _
    rw [dBools_f f xs]; rfl
theorem bAll_map {α : Type} (f : α → Bool) (xs : List α) : bAll [.fl (xs.map fun x => D.bl (f x))] h = .ok (.bl (xs.all f)) h := by
  simp [bAll, dBools_f]
theorem bAny_map {α : Type} (f : α → Bool) (xs : List α) : bAny [.fl (xs.map fun x => D.bl (f x))] h = .ok (.bl (xs.any f)) h := by
  simp [bAny, dBools_f]
@[simp] theorem bInt_bl (b : Bool) : bInt [.bl b] h = .ok (.int (if b then 1 else 0)) h := rfl
@[simp] theorem bTup_fl (xs : List D) : bTup [.fl xs] h = .ok (.tup xs) h := rfl
@[simp] theorem bTup_tup (xs : List D) : bTup [.tup xs] h = .ok (.tup xs) h := rfl
theorem gIx_tup {xs : List D} {i : Int} {d : D} (e : atI xs i = some d) : gIx (.tup xs) (.int i) h = .ok d h := by simp [gIx, e]
theorem gIx_fl {xs : List D} {i : Int} {d : D} (e : atI xs i = some d) : gIx (.fl xs) (.int i) h = .ok d h := by simp [gIx, e]
theorem atI_nat {α : Type} {xs : List α} {i : Nat} : atI xs (i : Int) = xs[i]? := by
  unfold atI ixN
  by_cases hl : i < xs.length
  · rw [if_pos (by omega), if_pos (by omega)]; simp
  · rw [if_pos (by omega), if_neg (by omega), List.getElem?_eq_none (by omega)]; rfl
@[simp] theorem gIx_t0 (a : D) (r : List D) : gIx (.tup (a :: r)) (.int 0) h = .ok a h := gIx_tup (atI_nat (i := 0))
@[simp] theorem gIx_t1 (a b : D) (r : List D) : gIx (.tup (a :: b :: r)) (.int 1) h = .ok b h := gIx_tup (atI_nat (i := 1))
@[simp] theorem gIx_t2 (a b c : D) (r : List D) : gIx (.tup (a :: b :: c :: r)) (.int 2) h = .ok c h := gIx_tup (atI_nat (i := 2))
@[simp] theorem gIx_t3 (a b c d : D) (r : List D) : gIx (.tup (a :: b :: c :: d :: r)) (.int 3) h = .ok d h := gIx_tup (atI_nat (i := 3))
@[simp] theorem gIx_t4 (a b c d e : D) (r : List D) : gIx (.tup (a :: b :: c :: d :: e :: r)) (.int 4) h = .ok e h := gIx_tup (atI_nat (i := 4))
@[simp] theorem gIx_f0 (a : D) (r : List D) : gIx (.fl (a :: r)) (.int 0) h = .ok a h := gIx_fl (atI_nat (i := 0))
@[simp] theorem gIx_f1 (a b : D) (r : List D) : gIx (.fl (a :: b :: r)) (.int 1) h = .ok b h := gIx_fl (atI_nat (i := 1))
theorem gIx_l {a : Nat} {xs : List D} {i : Int} {d : D} (ea : h[a]? = some (.lst xs)) (e : atI xs i = some d) : gIx (.lst a) (.int i) h = .ok d h := by simp [gIx, ea, e]
theorem gIx_l0 {n : Nat} {a : D} {r : List D} (e : h[n]? = some (.lst (a :: r))) : gIx (.lst n) (.int 0) h = .ok a h := gIx_l e (atI_nat (i := 0))
theorem gIx_l1 {n : Nat} {a b : D} {r : List D} (e : h[n]? = some (.lst (a :: b :: r))) : gIx (.lst n) (.int 1) h = .ok b h := gIx_l e (atI_nat (i := 1))
theorem gIx_l2 {n : Nat} {a b c : D} {r : List D} (e : h[n]? = some (.lst (a :: b :: c :: r))) : gIx (.lst n) (.int 2) h = .ok c h := gIx_l e (atI_nat (i := 2))
end

/-! ### products that fit -/
theorem MulOk.of {i j : Int} (h1 : -(10 ^ 60) ≤ i) (h2 : i ≤ 10 ^ 60) (h3 : -(10 ^ 60) ≤ j) (h4 : j ≤ 10 ^ 60) : MulOk i j := by
  have e : (10 : Nat) ^ 60 < 2 ^ 200 := by decide
  have e2 : (2 : Nat) ^ 200 ≤ 2 ^ 100000 := Nat.pow_le_pow_right (by decide) (by decide)
  exact ⟨Nat.lt_of_lt_of_le (by omega) e2, Nat.lt_of_lt_of_le (by omega) e2⟩

/-! ### what a def gives back -/
theorem cut_same {h : AH} {d : D} : cut h d h = .ok d h := by
  unfold cut
  split
  · rw [List.take_length]
  · rfl
mutual
def gr : D → Bool
  | .lst _ => false
  | .ins _ => false
  | .tup xs => grs xs
  | .fl xs => grs xs
  | .kl xs => grs xs
  | _ => true
def grs : List D → Bool
  | [] => true
  | x :: xs => gr x && grs xs
end
mutual
theorem below_gr (n : Nat) : ∀ d : D, gr d = true → belowB n d = true
  | .non, _ => rfl
  | .bl _, _ => rfl
  | .int _, _ => rfl
  | .str _, _ => rfl
  | .tup xs, h => below_grs n xs h
  | .fl xs, h => below_grs n xs h
  | .kl xs, h => below_grs n xs h
  | .lst _, h => nomatch h
  | .ins _, h => nomatch h
  | .adr _, _ => rfl
theorem below_grs (n : Nat) : ∀ ds : List D, grs ds = true → belowBs n ds = true
  | [], _ => rfl
  | d :: ds, h => by
    have h : (gr d && grs ds) = true := h
    rw [Bool.and_eq_true] at h
    show (belowB n d && belowBs n ds) = true
    rw [below_gr n d h.1, below_grs n ds h.2]; rfl
end
theorem grs_map {α : Type} (f : α → D) (hf : ∀ x, gr (f x) = true) : ∀ xs : List α, grs (xs.map f) = true
  | [] => rfl
  | x :: xs => by show (gr (f x) && grs (xs.map f)) = true; rw [hf x, grs_map f hf xs]; rfl
theorem grs_all {ds : List D} (h : ∀ d ∈ ds, gr d = true) : grs ds = true := by
  induction ds with
  | nil => rfl
  | cons d ds ih => show (gr d && grs ds) = true; rw [h d List.mem_cons_self, ih fun x hx => h x (List.mem_cons_of_mem _ hx)]; rfl
@[simp] theorem gr_non : gr .non = true := rfl
@[simp] theorem gr_int (i : Int) : gr (.int i) = true := rfl
@[simp] theorem gr_bl (i : Bool) : gr (.bl i) = true := rfl
@[simp] theorem gr_str (i : Str) : gr (.str i) = true := rfl
@[simp] theorem gr_tup (xs : List D) : gr (.tup xs) = grs xs := rfl
@[simp] theorem gr_fl (xs : List D) : gr (.fl xs) = grs xs := rfl
@[simp] theorem grs_nil : grs [] = true := rfl
@[simp] theorem grs_cons (x : D) (xs : List D) : grs (x :: xs) = (gr x && grs xs) := rfl
@[simp] theorem grs_ints (xs : List Int) : grs (xs.map D.int) = true := grs_map _ (fun _ => rfl) xs
/-- new cells are given up -/
theorem cut_app {h t : AH} {d : D} (g : gr d = true) : cut h d (h ++ t) = .ok d h := by
  unfold cut
  rw [if_pos ⟨below_gr _ _ g, fun i c hi e => .inl (by rw [List.getElem?_append_left hi] at e; exact e)⟩, List.take_left]
/-- the cell at a is another one now -/
theorem cut_set {h t : AH} {d : D} {a : Nat} {xs : List D} (g : gr d = true) (gx : grs xs = true) (ha : a < h.length) : cut h d (h.set a (.lst xs) ++ t) = .ok d (h.set a (.lst xs)) := by
  unfold cut
  have hl : (h.set a (.lst xs)).length = h.length := by simp
  have hc : CutOk h d (h.set a (.lst xs) ++ t) := by
    refine ⟨below_gr _ _ g, fun i c hi e => ?_⟩
    rw [List.getElem?_append_left (by simp; exact hi)] at e
    by_cases hia : i = a
    · subst hia
      rw [List.getElem?_set_self ha] at e
      cases e
      exact .inr (below_grs _ _ gx)
    · rw [List.getElem?_set_ne (Ne.symm hia)] at e
      exact .inl e
  rw [if_pos hc, ← hl, List.take_left]
theorem cut_set0 {h : AH} {d : D} {a : Nat} {xs : List D} (g : gr d = true) (gx : grs xs = true) (ha : a < h.length) : cut h d (h.set a (.lst xs)) = .ok d (h.set a (.lst xs)) := by
  have := cut_set (t := []) g gx ha
  rwa [List.append_nil] at this
@[simp] theorem finD_nx (h0 h : AH) (e : En) : finD h0 (.nx e) h = cut h0 .non h := rfl
@[simp] theorem finD_rt (h0 h : AH) (d : D) : finD h0 (.rt d) h = cut h0 d h := rfl
@[simp] theorem mNotT1_er (e : Er) (h : AH) : mNotT1 (.err e h) = .err e h := rfl
@[simp] theorem mAndT1_er (e : Er) (h : AH) (g : Tv) (env : En) : mAndT1 (.err e h) g env = .err e h := rfl
@[simp] theorem mOrT1_er (e : Er) (h : AH) (g : Tv) (env : En) : mOrT1 (.err e h) g env = .err e h := rfl
@[simp] theorem mIfE1_er (e : Er) (h : AH) (f g : Ev) (env : En) : mIfE1 (.err e h) f g env = .err e h := rfl
@[simp] theorem mNot1_er (e : Er) (h : AH) : mNot1 (.err e h) = .err e h := rfl
@[simp] theorem mAnd1_er (e : Er) (h : AH) (g : Ev) (env : En) : mAnd1 (.err e h) g env = .err e h := rfl
@[simp] theorem mTup1_er (e : Er) (h : AH) : mTup1 (.err e h) = .err e h := rfl
@[simp] theorem mLf1_er (e : Er) (h : AH) : mLf1 (.err e h) = .err e h := rfl
@[simp] theorem fin_ok (h0 h : AH) (fl : Fl) : fin h0 (.ok fl h) = finD h0 fl h := rfl
@[simp] theorem fin_er (h0 h : AH) (e : Er) : fin h0 (.err e h) = cutE h0 e h := rfl
@[simp] theorem sRaise_at (cn : Str) (env : En) (h : AH) : sRaise cn env h = .err ⟨cn, none⟩ h := rfl
theorem cutE_app {h t : AH} {cn : Str} : cutE h ⟨cn, none⟩ (h ++ t) = .err ⟨cn, none⟩ h := by
  unfold cutE
  rw [if_pos ⟨rfl, fun i c hi e => .inl (by rw [List.getElem?_append_left hi] at e; exact e)⟩, List.take_left]
@[simp] theorem cutE_same {h : AH} {cn : Str} : cutE h ⟨cn, none⟩ h = .err ⟨cn, none⟩ h := by
  have := cutE_app (h := h) (t := []) (cn := cn)
  rwa [List.append_nil] at this
theorem run_er {np m : Nat} {body : Sv} {ds : List D} {h : AH} {cn : Str} (hl : ds.length = np) (e : body (ds.map some ++ List.replicate (m - np) none) h = .err ⟨cn, none⟩ h) : runDef np m body ds h = .err ⟨cn, none⟩ h := by
  unfold runDef
  rw [if_pos hl, e]
  exact cutE_same
theorem run_nx {np m : Nat} {body : Sv} {ds : List D} {h : AH} {env : En} (hl : ds.length = np) (e : body (ds.map some ++ List.replicate (m - np) none) h = .ok (.nx env) h) : runDef np m body ds h = .ok .non h := by
  unfold runDef
  rw [if_pos hl, e]
  exact cut_same
/-- a body that ends by a value, the heap as it was -/
theorem run_eq {np m : Nat} {body : Sv} {ds : List D} {h : AH} {d : D} (hl : ds.length = np) (e : body (ds.map some ++ List.replicate (m - np) none) h = .ok (.rt d) h) : runDef np m body ds h = .ok d h := by
  unfold runDef
  rw [if_pos hl, e]
  exact cut_same
theorem run_app {np m : Nat} {body : Sv} {ds : List D} {h t : AH} {d : D} (hl : ds.length = np) (g : gr d = true) (e : body (ds.map some ++ List.replicate (m - np) none) h = .ok (.rt d) (h ++ t)) : runDef np m body ds h = .ok d h := by
  unfold runDef
  rw [if_pos hl, e]
  exact cut_app g
theorem run_set {np m : Nat} {body : Sv} {ds : List D} {h t : AH} {d : D} {a : Nat} {xs : List D} (hl : ds.length = np) (g : gr d = true) (gx : grs xs = true) (ha : a < h.length) (e : body (ds.map some ++ List.replicate (m - np) none) h = .ok (.rt d) (h.set a (.lst xs) ++ t)) : runDef np m body ds h = .ok d (h.set a (.lst xs)) := by
  unfold runDef
  rw [if_pos hl, e]
  exact cut_set g gx ha

/-! ### calls tried, texts joined -/
section
variable {env : En} {h : AH}
@[simp] theorem mTried_at (f : Ev) : mTried f env h = tried (f env h) := rfl
@[simp] theorem tried_ok (d : D) : tried (.ok d h) = .ok (.tup [.str "told", d]) h := rfl
theorem tried_er {cn : Str} (hc : cn ∈ kinds) : tried (.err ⟨cn, none⟩ h) = .ok (.tup [.str cn]) h := by
  unfold tried triedE
  simp only [hc, if_true]
noncomputable def mJoin2 (r : R D) (z : Str) : R D := r.bind fun d h2 => gJoin (.str z) d h2
noncomputable def mJoin1 (r : R D) (fe : Ev) (env : En) : R D := r.bind fun o h1 => match o with | .str z => mJoin2 (fe env h1) z | _ => .bad
@[simp] theorem mJoin_at (fo fe : Ev) : mJoin fo fe env h = mJoin1 (fo env h) fe env := rfl
@[simp] theorem mJoin1_ok (z : Str) (fe : Ev) : mJoin1 (.ok (.str z) h) fe env = mJoin2 (fe env h) z := rfl
@[simp] theorem mJoin2_ok (d : D) (z : Str) : mJoin2 (.ok d h) z = gJoin (.str z) d h := rfl
theorem gJoin_fl (z : Str) (ys : List Str) (hz : (ys.map (·.length)).sum + ys.length * z.length ≤ SL) : gJoin (.str z) (.fl (ys.map D.str)) h = .ok (.str (PySem.Txt.join z ys)) h := by
  unfold gJoin
  simp only [rdS, Rm.rdL, dStrs_map, if_pos hz]
@[simp] theorem gIsX_at (a : Nat) (b : Bool) : gIsX a b (.adr a) h = .ok (.bl b) h := by
  unfold gIsX
  simp
end

/-! ### loops, turn by turn -/
noncomputable def stB (r : R En) (b : Sv) : R Fl := r.bind fun e1 h1 => b e1 h1
@[simp] theorem stB_ok (env : En) (h : AH) (b : Sv) : stB (.ok env h) b = b env h := rfl
noncomputable def stE (r : R En) (e : Ev) : R D := r.bind fun e1 h1 => e e1 h1
@[simp] theorem stE_ok (env : En) (h : AH) (e : Ev) : stE (.ok env h) e = e env h := rfl
noncomputable def for2 (r : R Fl) (w : List (Nat × List D)) (g : Gv) (b : Sv) (W : List Nat) (ds : List D) : R Fl := r.bind fun fl h2 => match fl with
  | .nx e2 => forL w g b W ds (wipeE e2 W) h2
  | .ct e2 => forL w g b W ds (wipeE e2 W) h2
  | .bk e2 => .ok (.nx e2) h2
  | .rt d => .ok (.rt d) h2
@[simp] theorem forL_nil (g : Gv) (b : Sv) (W : List Nat) (env : En) (h : AH) : forL [] g b W [] env h = .ok (.nx env) h := by simp [forL, watchOk]
theorem forL_cons (g : Gv) (b : Sv) (W : List Nat) (d : D) (ds : List D) (env : En) (h : AH) : forL [] g b W (d :: ds) env h = for2 (stB (g d env h) b) [] g b W ds := by
  have : watchOk [] h := trivial
  unfold forL
  rw [if_pos this]
  cases g d env h <;> rfl
@[simp] theorem for2_nx (w : List (Nat × List D)) (g : Gv) (b : Sv) (W : List Nat) (ds : List D) (env : En) (h : AH) : for2 (.ok (.nx env) h) w g b W ds = forL w g b W ds (wipeE env W) h := rfl
@[simp] theorem for2_ct (w : List (Nat × List D)) (g : Gv) (b : Sv) (W : List Nat) (ds : List D) (env : En) (h : AH) : for2 (.ok (.ct env) h) w g b W ds = forL w g b W ds (wipeE env W) h := rfl
@[simp] theorem for2_bk (w : List (Nat × List D)) (g : Gv) (b : Sv) (W : List Nat) (ds : List D) (env : En) (h : AH) : for2 (.ok (.bk env) h) w g b W ds = .ok (.nx env) h := rfl
@[simp] theorem for2_rt (w : List (Nat × List D)) (g : Gv) (b : Sv) (W : List Nat) (ds : List D) (d : D) (h : AH) : for2 (.ok (.rt d) h) w g b W ds = .ok (.rt d) h := rfl
noncomputable def lc4 (y : D) (r : R (List D)) : R (List D) := r.bind fun ys h4 => .ok (y :: ys) h4
noncomputable def lc3 (r : R D) (g : Gv) (c : Tv) (e : Ev) (env : En) (ds : List D) : R (List D) := r.bind fun y h3 => lc4 y (lcL [] g c e env ds h3)
noncomputable def lc2 (r : R Bool) (e1 : En) (g : Gv) (c : Tv) (e : Ev) (env : En) (ds : List D) : R (List D) := r.bind fun b h2 => if b = true then lc3 (nE (e e1 h2)) g c e env ds else lcL [] g c e env ds h2
noncomputable def lc1 (r : R En) (g : Gv) (c : Tv) (e : Ev) (env : En) (ds : List D) : R (List D) := r.bind fun e1 h1 => lc2 (nE (c e1 h1)) e1 g c e env ds
@[simp] theorem lcL_nil (g : Gv) (c : Tv) (e : Ev) (env : En) (h : AH) : lcL [] g c e env [] h = .ok [] h := by simp [lcL, watchOk]
theorem lcL_cons (g : Gv) (c : Tv) (e : Ev) (env : En) (d : D) (ds : List D) (h : AH) : lcL [] g c e env (d :: ds) h = lc1 (nE (g d env h)) g c e env ds := by
  have : watchOk [] h := trivial
  rw [lcL, if_pos this]
  rfl
@[simp] theorem lc1_ok (g : Gv) (c : Tv) (e : Ev) (env e1 : En) (ds : List D) (h : AH) : lc1 (.ok e1 h) g c e env ds = lc2 (nE (c e1 h)) e1 g c e env ds := rfl
@[simp] theorem lc2_t (g : Gv) (c : Tv) (e : Ev) (env e1 : En) (ds : List D) (h : AH) : lc2 (.ok true h) e1 g c e env ds = lc3 (nE (e e1 h)) g c e env ds := rfl
@[simp] theorem lc2_f (g : Gv) (c : Tv) (e : Ev) (env e1 : En) (ds : List D) (h : AH) : lc2 (.ok false h) e1 g c e env ds = lcL [] g c e env ds h := rfl
@[simp] theorem lc3_ok (g : Gv) (c : Tv) (e : Ev) (env : En) (ds : List D) (y : D) (h : AH) : lc3 (.ok y h) g c e env ds = lc4 y (lcL [] g c e env ds h) := rfl
@[simp] theorem lc4_ok (y : D) (ys : List D) (h : AH) : lc4 y (.ok ys h) = .ok (y :: ys) h := rfl
theorem stE_inv {r : R En} {e : Ev} {d : D} {h : AH} (q : stE r e = .ok d h) : ∃ e1 h1, r = .ok e1 h1 ∧ e e1 h1 = .ok d h := by
  cases r with
  | ok e1 h1 => exact ⟨e1, h1, rfl, q⟩
  | err e h => cases q
  | bad => cases q
theorem stB_inv {r : R En} {b : Sv} {d : Fl} {h : AH} (q : stB r b = .ok d h) : ∃ e1 h1, r = .ok e1 h1 ∧ b e1 h1 = .ok d h := by
  cases r with
  | ok e1 h1 => exact ⟨e1, h1, rfl, q⟩
  | err e h => cases q
  | bad => cases q

/-! ### loops without effects on the heap -/
theorem forL_pure {S α : Type} {g : Gv} {b : Sv} {W : List Nat} {h : AH} (env : S → En) (f : α → D) (step : S → α → S) : ∀ (xs : List α) (s : S),
    (∀ s x, x ∈ xs → ∃ e2, stB (g (f x) (env s) h) b = .ok (.nx e2) h ∧ wipeE e2 W = env (step s x)) → forL [] g b W (xs.map f) (env s) h = .ok (.nx (env (xs.foldl step s))) h
  | [], s, _ => by simp
  | x :: xs, s, k => by
    obtain ⟨e2, h1, h2⟩ := k s x List.mem_cons_self
    have ih := forL_pure env f step xs (step s x) fun s y hy => k s y (List.mem_cons_of_mem _ hy)
    rw [List.map_cons, forL_cons, h1, for2_nx, h2, ih, List.foldl_cons]
theorem forL_state {S α : Type} {g : Gv} {b : Sv} {W : List Nat} (n : Nat) (env : S → En) (hp : S → AH) (f : α → D) (step : S → α → S) (I : Nat → S → Prop) : ∀ (xs : List α) (k : Nat) (s : S), k + xs.length = n → I k s →
    (∀ k s x, k < n → x ∈ xs → I k s → I (k + 1) (step s x) ∧ ∃ e2, stB (g (f x) (env s) (hp s)) b = .ok (.nx e2) (hp (step s x)) ∧ wipeE e2 W = env (step s x)) →
    forL [] g b W (xs.map f) (env s) (hp s) = .ok (.nx (env (xs.foldl step s))) (hp (xs.foldl step s)) ∧ I n (xs.foldl step s)
  | [], k, s, hk, i, _ => by
    have : k = n := by simpa using hk
    subst this
    simpa using i
  | x :: xs, k, s, hk, i, p => by
    have hk2 : (k + 1) + xs.length = n := by simp at hk; omega
    obtain ⟨i2, e2, h1, h2⟩ := p k s x (by omega) List.mem_cons_self i
    have ih := forL_state n env hp f step I xs (k + 1) (step s x) hk2 i2 fun k s y hk hy => p k s y hk (List.mem_cons_of_mem _ hy)
    rw [List.map_cons, forL_cons, h1, for2_nx, h2, List.foldl_cons]
    exact ih
theorem foldl_snoc {α γ : Type} (k : α → γ) : ∀ (xs : List α) (acc : List γ), xs.foldl (fun acc x => acc ++ [k x]) acc = acc ++ xs.map k
  | [], acc => by simp
  | x :: xs, acc => by rw [List.foldl_cons, foldl_snoc k xs]; simp
theorem foldl_add {α : Type} (k : α → Int) : ∀ (xs : List α) (t : Int), xs.foldl (fun t x => t + k x) t = t + (xs.map k).sum
  | [], t => by simp
  | x :: xs, t => by rw [List.foldl_cons, foldl_add k xs]; simp; omega
theorem enum_map {α : Type} (f : α → D) (xs : List α) : ((xs.map f).zipIdx).map (fun q => D.tup [.int q.2, q.1]) = xs.zipIdx.map fun q => D.tup [.int q.2, f q.1] := by
  rw [List.zipIdx_map, List.map_map]; rfl
theorem zip_map2 {α γ : Type} (f : α → D) (k : γ → D) (xs : List α) (ys : List γ) : ((xs.map f).zip (ys.map k)).map (fun q => D.tup [q.1, q.2]) = (xs.zip ys).map fun q => D.tup [f q.1, k q.2] := by
  rw [List.zip_map, List.map_map]; rfl
theorem zip_map3 {α γ δ : Type} (f : α → D) (k : γ → D) (l : δ → D) (xs : List α) (ys : List γ) (zs : List δ) : ((xs.map f).zip ((ys.map k).zip (zs.map l))).map (fun q => D.tup [q.1, q.2.1, q.2.2]) = (xs.zip (ys.zip zs)).map fun q => D.tup [f q.1, k q.2.1, l q.2.2] := by
  rw [List.zip_map, List.zip_map, List.map_map]; rfl
/-- a loop that may leave by a value -/
theorem forL_ret {α : Type} {g : Gv} {b : Sv} {W : List Nat} {h : AH} (env : En) (f : α → D) (test : α → Option D) : ∀ (xs : List α),
    (∀ x, x ∈ xs → match test x with
      | some d => stB (g (f x) env h) b = .ok (.rt d) h
      | none => ∃ e2, stB (g (f x) env h) b = .ok (.nx e2) h ∧ wipeE e2 W = env) →
    forL [] g b W (xs.map f) env h = .ok (match xs.findSome? test with | some d => .rt d | none => .nx env) h
  | [], _ => by simp
  | x :: xs, k => by
    have ih := forL_ret (W := W) env f test xs fun y hy => k y (List.mem_cons_of_mem _ hy)
    have k1 := k x List.mem_cons_self
    cases ht : test x with
    | some d =>
      rw [ht] at k1
      have k1 : stB (g (f x) env h) b = .ok (.rt d) h := k1
      rw [List.map_cons, forL_cons, k1, for2_rt]
      simp [ht]
    | none =>
      rw [ht] at k1
      obtain ⟨e2, k1, k2⟩ := k1
      rw [List.map_cons, forL_cons, k1, for2_nx, k2, ih]
      simp [ht]
/-- a comprehension without effects -/
theorem lcL_map {α : Type} {g : Gv} {e : Ev} {env : En} {h : AH} (f k : α → D) : ∀ (xs : List α), (∀ x, x ∈ xs → stE (g (f x) env h) e = .ok (k x) h) → (∀ x, x ∈ xs → ∃ e1, g (f x) env h = .ok e1 h) → lcL [] g cYes e env (xs.map f) h = .ok (xs.map k) h
  | [], _, _ => by simp
  | x :: xs, p, q => by
    have ih := lcL_map (e := e) f k xs (fun y hy => p y (List.mem_cons_of_mem _ hy)) fun y hy => q y (List.mem_cons_of_mem _ hy)
    obtain ⟨e1, q1⟩ := q x List.mem_cons_self
    have p1 := p x List.mem_cons_self
    rw [q1] at p1
    have p1 : e e1 h = .ok (k x) h := p1
    rw [List.map_cons, lcL_cons, q1, nE_ok, lc1_ok, cYes_at, nE_ok, lc2_t, p1, nE_ok, lc3_ok, ih, lc4_ok]
    rfl
theorem lcL_if {α : Type} {g : Gv} {c : Tv} {e : Ev} {env : En} {h : AH} (f k : α → D) (t : α → Bool) : ∀ (xs : List α), (∀ x, x ∈ xs → ∃ e1, g (f x) env h = .ok e1 h ∧ c e1 h = .ok (t x) h ∧ (t x = true → e e1 h = .ok (k x) h)) → lcL [] g c e env (xs.map f) h = .ok ((xs.filter t).map k) h
  | [], _ => by simp
  | x :: xs, p => by
    have ih := lcL_if f k t xs fun y hy => p y (List.mem_cons_of_mem _ hy)
    obtain ⟨e1, p1, p2, p3⟩ := p x List.mem_cons_self
    rw [List.map_cons, lcL_cons, p1, nE_ok, lc1_ok, p2, nE_ok]
    cases ht : t x with
    | true => simp [ht, p3 ht, ih]
    | false => simp [ht, ih]
/-- targets -/
theorem gNm_ok {i : Nat} {d : D} {env : En} {h : AH} : ∃ e1, gNm i d env h = .ok e1 h := ⟨_, rfl⟩

/-! ### values that are told apart as what they stand for -/
structure EncD {α : Type} [DecidableEq α] (n : Nat) (f : α → D) (pd : α → PyData) : Prop where
  of : ∀ m h a, n ≤ m → pdOf m h (f a) = some (pd a)
  eq : ∀ a b, PyData.eqv (pd a) (pd b) = decide (a = b)
theorem mapM_map {α : Type} {f : α → D} {pd : α → PyData} {k : D → Option PyData} (hk : ∀ a, k (f a) = some (pd a)) : ∀ xs : List α, (xs.map f).mapM k = some (xs.map pd)
  | [] => rfl
  | x :: xs => by
    rw [List.map_cons, List.mapM_cons, hk x, mapM_map hk xs]; rfl
theorem eqvAll_map {α : Type} [DecidableEq α] {pd : α → PyData} (e : ∀ a b, PyData.eqv (pd a) (pd b) = decide (a = b)) : ∀ xs ys : List α, PyData.eqvAll (xs.map pd) (ys.map pd) = decide (xs = ys)
  | [], [] => by simp [PyData.eqvAll]
  | [], _ :: _ => by simp [PyData.eqvAll]
  | _ :: _, [] => by simp [PyData.eqvAll]
  | x :: xs, y :: ys => by
    rw [List.map_cons, List.map_cons, PyData.eqvAll, e x y, eqvAll_map e xs ys]
    by_cases h1 : x = y <;> by_cases h2 : xs = ys <;> simp [h1, h2]
theorem encInt : EncD 1 D.int PyData.int := ⟨fun m h a hm => by
  cases m with
  | zero => omega
  | succ m => rfl, fun a b => by
    simp only [PyData.eqv]
    by_cases h : a = b <;> simp [h]⟩
theorem encTup {α : Type} [DecidableEq α] {n : Nat} {f : α → D} {pd : α → PyData} (e : EncD n f pd) : EncD (n + 1) (fun xs : List α => D.tup (xs.map f)) fun xs => PyData.tuple (xs.map pd) := ⟨fun m h xs hm => by
  cases m with
  | zero => omega
  | succ m =>
    show ((xs.map f).mapM (pdOf m h)).map PyData.tuple = _
    rw [mapM_map (fun a => e.of m h a (by omega)) xs]; rfl, fun a b => by
    simp only [PyData.eqv]
    exact eqvAll_map e.eq a b⟩
theorem encFl {α : Type} [DecidableEq α] {n : Nat} {f : α → D} {pd : α → PyData} (e : EncD n f pd) : EncD (n + 1) (fun xs : List α => D.fl (xs.map f)) fun xs => PyData.list (xs.map pd) := ⟨fun m h xs hm => by
  cases m with
  | zero => omega
  | succ m =>
    show ((xs.map f).mapM (pdOf m h)).map PyData.list = _
    rw [mapM_map (fun a => e.of m h a (by omega)) xs]; rfl, fun a b => by
    simp only [PyData.eqv]
    exact eqvAll_map e.eq a b⟩
theorem gEq_enc {α : Type} [DecidableEq α] {n : Nat} {f : α → D} {pd : α → PyData} (e : EncD n f pd) (hn : n ≤ 60) (a b : α) (h : AH) : gEq (f a) (f b) h = .ok (.bl (decide (a = b))) h := by
  unfold gEq
  rw [e.of 60 h a hn, e.of 60 h b hn]
  simp only [e.eq]
theorem gNe_enc {α : Type} [DecidableEq α] {n : Nat} {f : α → D} {pd : α → PyData} (e : EncD n f pd) (hn : n ≤ 60) (a b : α) (h : AH) : gNe (f a) (f b) h = .ok (.bl (!decide (a = b))) h := by
  unfold gNe
  rw [e.of 60 h a hn, e.of 60 h b hn]
  simp only [e.eq]
@[simp] theorem gEq_int (i j : Int) (h : AH) : gEq (.int i) (.int j) h = .ok (.bl (decide (i = j))) h := gEq_enc encInt (by decide) i j h
@[simp] theorem gNe_int (i j : Int) (h : AH) : gNe (.int i) (.int j) h = .ok (.bl (!decide (i = j))) h := gNe_enc encInt (by decide) i j h

/-! ### slices -/
def cutG {α : Type} (xs : List α) (lo hi : Option Int) : List α := (xs.drop (HT.sIx xs.length 0 lo)).take (HT.sIx xs.length xs.length hi - HT.sIx xs.length 0 lo)
theorem cutD_map {α : Type} (f : α → D) (xs : List α) (lo hi : Option Int) : cutD (xs.map f) lo hi = (cutG xs lo hi).map f := by
  unfold cutD cutG
  rw [List.length_map, List.map_take, List.map_drop]
theorem cutD_tail {x : D} {xs : List D} : cutD (x :: xs) (some 1) none = xs := by
  unfold cutD
  have e1 : HT.sIx (x :: xs).length 0 (some 1) = 1 := by
    simp [HT.sIx]
  have e2 : HT.sIx (x :: xs).length (x :: xs).length none = (x :: xs).length := by
    simp [HT.sIx]
  rw [e1, e2]
  simp
end Rm

namespace Rm
open PySem PySem.Spec PyProof.Rows L2

/-! ### is, is not of truth values -/
def gIsB : D → D → AH → R D
  | .bl a, .bl b, h => .ok (.bl (decide (a = b))) h
  | _, _, _ => .bad
def gNotB : D → D → AH → R D
  | .bl a, .bl b, h => .ok (.bl (!decide (a = b))) h
  | _, _, _ => .bad
section
variable {X : Cx} {E : XK} {pos : Pos}
theorem o_isB : OpX X E (compareOp .Is) gIsB := ⟨_, op_is_bl, fun β h H a b x y Q rl ra rb o => by
  cases a <;> try exact o.elim
  cases b <;> try exact o.elim
  exact ⟨_, _, ra, rb, o.ok rl _ rfl⟩⟩
theorem o_notB : OpX X E (compareOp .IsNot) gNotB := ⟨_, op_isnot_bl, fun β h H a b x y Q rl ra rb o => by
  cases a <;> try exact o.elim
  cases b <;> try exact o.elim
  exact ⟨_, _, ra, rb, o.ok rl _ rfl⟩⟩
@[simp] theorem gIsB_bl (a b : Bool) (h : AH) : gIsB (.bl a) (.bl b) h = .ok (.bl (decide (a = b))) h := rfl
@[simp] theorem gNotB_bl (a b : Bool) (h : AH) : gNotB (.bl a) (.bl b) h = .ok (.bl (!decide (a = b))) h := rfl

/-! ### list(range(a, b)) -/
def rgD (a b : Int) : List D := (List.range (b - a).toNat).map fun k => .int (a + (k : Nat))
open Classical in
noncomputable def gListRg (a b : D) (h : AH) : R D := match a, b with
  | .int i, .int j => if RgOk i j ∧ (j - i).toNat ≤ SL then .ok (.fl (rgD i j)) h else .bad
  | _, _ => .bad
theorem gListRg_ok {i j : Int} {h : AH} (h1 : RgOk i j) (h2 : (j - i).toNat ≤ SL) : gListRg (.int i) (.int j) h = .ok (.fl (rgD i j)) h := if_pos ⟨h1, h2⟩
theorem rg_reps {K : PySem.W.Frag} {β : Bt} {H : Hp} (a b : Int) : Reps K β H (rgD a b) (rgV a b) := by
  unfold rgD rgV
  generalize List.range (b - a).toNat = l
  induction l with
  | nil => exact rfl
  | cons x l ih => exact ⟨_, _, rfl, rfl, ih⟩
open Classical in
theorem x_listRg2 {a b : Expr} {fa fb : Ev} {p p2 pos2 : Pos} (ha : Ex X E a fa) (hb : Ex X E b fb) (hm : X.mg "list" = none) (hm2 : X.mg "range" = none) (hc : X.calm = true := by rfl) (hg : Gl X "list" := by rfl) (hg2 : Gl X "range" := by rfl)
    (na : starEach [a, b] X.env = (false, eval a X.env) :: starEach [b] X.env := by rfl) (nb : starEach [b] X.env = (false, eval b X.env) :: starEach [] X.env := by rfl) (hp : (backTo pos2 (starEach [b] X.env)).any (·.1) = false := by rfl)
    (nc : starEach [.Call (.Name "range" p2) [a, b] [] pos2] X.env = (false, eval (.Call (.Name "range" p2) [a, b] [] pos2) X.env) :: starEach [] X.env := by rfl) :
    Ex X E (.Call (.Name "list" p) [.Call (.Name "range" p2) [a, b] [] pos2] [] pos) (m2 gListRg fa fb) :=
  pe_imp (pe_listRg hc hg hm (prg_2 hg2 hm2 ha hb na nb hp) nc) fun σ H Q ⟨β, env, h, rl, re, o⟩ => ⟨β, env, h, rl, re, (OutG.bind o).mono fun d β1 h1 H1 x1 rl1 o1 v r => ⟨β1, env, h1, rl1, re.ext x1, (OutG.bind o1).mono fun d2 β2 h2 H2 x2 rl2 o2 v2 r2 => by
    cases d <;> try exact o2.elim
    cases d2 <;> try exact o2.elim
    rename_i i j
    cases r; cases r2
    by_cases hh : RgOk i j ∧ (j - i).toNat ≤ SL
    · have o2 : OutG X.K X.mg E β2 H2 (if RgOk i j ∧ (j - i).toNat ≤ SL then R.ok (D.fl (rgD i j)) h2 else R.bad) (PV X.K Q) := o2
      rw [if_pos hh] at o2
      refine ⟨i, j, rfl, rfl, hh.1, fun q nq => o2.okx (Ext.upd_new nq) (rl2.upd_new nq) _ (Rep.newFl rl2 nq (rg_reps i j) ?_)⟩
      unfold rgD; simpa using hh.2
    · have o2 : OutG X.K X.mg E β2 H2 (if RgOk i j ∧ (j - i).toNat ≤ SL then R.ok (D.fl (rgD i j)) h2 else R.bad) (PV X.K Q) := o2
      rw [if_neg hh] at o2
      exact o2.elim⟩⟩
end
end Rm

namespace Rm
open PySem PySem.Spec PyProof.Rows L2
/-! ### defs with keyword-only parameters, all of them given, in their order -/
structure FnK (P : Program) (w : World) (K : PySem.W.Frag) (mg : Str → Option Value) (base : Heap) (x : Str) (k n : Nat) (ks : List Str) (sem : List D → AH → R D) : Prop where
  ex : ∃ (f : Addr) (fd : FuncData) (ps : List Str), FnOk P w K mg base (L2N.CX P w) k f fd ps (spS K mg (n + ks.length) sem) ∧ mg x = some (.ref f) ∧ PySem.W.keepIn K (.ref f) = true ∧ KBn K fd ps n ks (fun us ws => us ++ ws) (fun vs zs => vs ++ zs)
  hl : ∀ ds h, ds.length ≠ n + ks.length → sem ds h = .bad
theorem kbn_of {K : PySem.W.Frag} {x qual : Str} {params : Arguments} {body : List Stmt} {scope : Scope} {f : Addr} {fd : FuncData} {ps ks : List Str} {n : Nat} (F : FunD K x qual params body scope [] [] f fd)
    (h : ∀ (kV doc pm : Value) (an : Option Addr) (cdv ct : Value) (us ws : List Value), us.length = n → ws.length = ks.length → bindArgs (PySem.W.fnOf x qual params body scope .none kV doc pm an cdv ct) ⟨us, ks.zip ws⟩ = pure (ps.zip (us ++ ws))) : KBn K fd ps n ks (fun us ws => us ++ ws) (fun vs zs => vs ++ zs) := by
  obtain ⟨oc, od, dV, kV, doc, pm, an, cdv, ct, osl, rfl, lk, hcd, hD, hK⟩ := F.ex
  rcases hD with ⟨_, rfl⟩ | ⟨e, _⟩
  · exact ⟨fun s us ws _ l1 l2 => .of_eq (h kV doc pm an cdv ct us ws l1 l2), fun r1 r2 => r1.append r2⟩
  · exact absurd rfl e
theorem FnK.of {P : Program} {w : World} {K : PySem.W.Frag} {mg : Str → Option Value} {base : Heap} {x qual nm : Str} {params : Arguments} {body : List Stmt} {scope : Scope} {dvs : List V} {kws : List (Str × V)} {f : Addr} {fd : FuncData} {N ps ks : List Str} {k n : Nat} {sem : Sv}
    (F : FunD K nm qual params body scope dvs kws f fd) (hm : mg x = some (.ref f)) (b : KBn K fd ps n ks (fun us ws => us ++ ws) (fun vs zs => vs ++ zs)) (hn : ps.length = n + ks.length) (S : C8.scC N ps scope = true)
    (hb : ∀ (cdv : Value) (A : Around) (outer : List Env) (s : Shared) (H : Hp) (E : XK), Room k (A.deeper (envOfC qual scope s.heap.objs.size f cdv)) → Bx (bX P w K mg base N qual scope f cdv A outer s H E) E body sem) :
    FnK P w K mg base x (k + 1) n ks (runDef (n + ks.length) N.length sem) := by
  rw [← hn]
  refine ⟨⟨f, fd, ps, ?_, hm, F.kp, b⟩, ?_⟩
  · rw [← hn]; exact fn_ok F S hb
  · rw [← hn]; exact runDef_len
def Kx (X : Cx) (E : XK) (kws : List Keyword) (f : Av) : Prop := PK X kws (TAr X.K X.mg E f)
noncomputable def mCallK (n m : Nat) (sem : List D → AH → R D) (f g : Av) : Ev := fun env h => (f env h).bind fun ds h1 => (g env h1).bind fun zs h2 => if ds.length = n ∧ zs.length = m then sem (ds ++ zs) h2 else .bad
section
variable {X : Cx} {E : XK} {pos : Pos}
theorem pk_imp {X : Cx} {es : List Keyword} {t t' : TA} (h : PK X es t) (k : ∀ σ H Q, t' σ H Q → t σ H Q) : PK X es t' := ⟨fun pos pins s σ H Q I q => h.run pos pins s σ H Q I (k σ H Q q)⟩
theorem kx_nil : Kx X E [] mNil := pk_imp pk_nil fun σ H Q ⟨β, env, h, rl, re, o⟩ => o.ok rl [] rfl
theorem kx_cons {nm : Option Str} {kpos : Pos} {e : Expr} {es : List Keyword} {fe : Ev} {fr : Av} (he : Ex X E e fe) (hr : Kx X E es fr) : Kx X E (⟨nm, e, kpos⟩ :: es) (mCons fe fr) :=
  pk_imp (pk_cons he hr) fun σ H Q ⟨β, env, h, rl, re, o⟩ => ⟨β, env, h, rl, re, (OutG.bind o).mono fun a β1 h1 H1 x1 rl1 o1 v1 r1 => ⟨β1, env, h1, rl1, re.ext x1, (OutG.bind o1).mono fun ds β2 h2 H2 x2 rl2 o2 vs rs => o2.ok rl2 (v1 :: vs) ⟨v1, vs, rfl, r1.ext x2, rs⟩⟩⟩
theorem x_fnK {es : List Expr} {e : Expr} {kws : List Keyword} {f g : Av} {j k n : Nat} {x : Str} {ks : List Str} {p : Pos} {sem : List D → AH → R D} (C : FnK X.prog X.w X.K X.mg X.base x k n ks sem) (hr : Room j X.A) (hx : Passes (L2N.CX X.prog X.w) X E)
    (ha : Ax X E (e :: es) f) (hkw : Kx X E kws g) (hk : k ≤ j := by decide) (hg : Gl X x := by rfl)
    (hall : (backToKw pos (keywordEach kws X.env)).all (·.1.isSome) = true := by rfl) (hks : (backToKw pos (keywordEach kws X.env)).filterMap (·.1) = ks := by rfl)
    (hdb : (x == ("__debug__" : Str)) = false := by decide) (he : starEach (e :: es) X.env = (false, eval e X.env) :: starEach es X.env := by rfl)
    (hpl : ((backTo pos (starEach (e :: es) X.env)).any (·.1) || (backToKw pos (keywordEach kws X.env)).any (·.1.isNone)) = false := by rfl) :
    Ex X E (.Call (.Name x p) (e :: es) kws pos) (mCallK n ks.length sem f g) := by
  obtain ⟨fa, fd, ps, F, hm, hkp, b⟩ := C.ex
  refine pe_imp (pe_callN (F.mono hk) hr hg hm hkp b hx ha hkw hall hks hdb he hpl) fun σ H Q ⟨β, env, h, rl, re, o⟩ => ⟨β, env, h, rl, re, (OutG.bind o).mono fun ds β1 h1 H1 x1 rl1 o1 vs rs => ⟨β1, env, h1, rl1, re.ext x1, (OutG.bind o1).mono fun zs β2 h2 H2 x2 rl2 o2 ws rz => ?_⟩⟩
  split at o2
  · rename_i c
    exact ⟨by rw [← rs.length]; exact c.1, by rw [← rz.length]; exact c.2, spS_of C.hl rl2 ((rs.ext x2).append rz) o2⟩
  · exact o2.elim
end
/-! for the mathematics -/
noncomputable def mCallK2 (r : R (List D)) (n m : Nat) (sem : List D → AH → R D) (ds : List D) : R D := r.bind fun zs h2 => if ds.length = n ∧ zs.length = m then sem (ds ++ zs) h2 else .bad
noncomputable def mCallK1 (r : R (List D)) (n m : Nat) (sem : List D → AH → R D) (g : Av) (env : En) : R D := r.bind fun ds h1 => mCallK2 (g env h1) n m sem ds
section
variable {env : En} {h : AH}
@[simp] theorem mCallK_at (n m : Nat) (sem : List D → AH → R D) (f g : Av) : mCallK n m sem f g env h = mCallK1 (f env h) n m sem g env := rfl
@[simp] theorem mCallK1_ok (n m : Nat) (sem : List D → AH → R D) (g : Av) (ds : List D) : mCallK1 (.ok ds h) n m sem g env = mCallK2 (g env h) n m sem ds := rfl
@[simp] theorem mCallK2_ok (n m : Nat) (sem : List D → AH → R D) (ds zs : List D) : mCallK2 (.ok zs h) n m sem ds = if ds.length = n ∧ zs.length = m then sem (ds ++ zs) h else .bad := rfl
end
end Rm

namespace Rm
open PySem PySem.Spec PyProof.Rows L2
/-! ### defs with keyword-only parameters that have defaults, called with some of them, in any order -/
/-- the keyword-only values in the parameters' order: (true, i): the i-th that is given; (false, i): the i-th default that is wanted -/
def sel {α : Type} (sp : List (Bool × Nat)) (mv ws : List α) : List α := sp.filterMap fun q => if q.1 = true then ws[q.2]? else mv[q.2]?
theorem sel_vals {mz zs : List V} {mv ws : List Value} (r1 : Vals mz mv) (r2 : Vals zs ws) : ∀ sp : List (Bool × Nat), Vals (sel sp mz zs) (sel sp mv ws)
  | [] => .nil
  | (b, i) :: sp => by
    have ih := sel_vals r1 r2 sp
    have one : ∀ {xs : List V} {us : List Value}, Vals xs us → (xs[i]? = none ∧ us[i]? = none) ∨ ∃ x u, xs[i]? = some x ∧ us[i]? = some u ∧ RelV x u := fun {xs us} r => by
      cases e : xs[i]? with
      | none =>
        refine .inl ⟨rfl, ?_⟩
        rw [List.getElem?_eq_none_iff] at e ⊢
        rw [← r.length]; exact e
      | some x =>
        obtain ⟨u, e2, r3⟩ := r.get e
        exact .inr ⟨x, u, rfl, e2, r3⟩
    have k : ∀ {xs : List V} {us : List Value}, Vals xs us → Vals ((xs[i]?).toList ++ sel sp mz zs) ((us[i]?).toList ++ sel sp mv ws) := fun {xs us} r => by
      rcases one r with ⟨e1, e2⟩ | ⟨x, u, e1, e2, r3⟩
      · rw [e1, e2]; exact ih
      · rw [e1, e2]; exact .cons r3 ih
    have e : ∀ {α : Type} (p q : List α), sel ((b, i) :: sp) p q = (if b = true then q[i]? else p[i]?).toList ++ sel sp p q := fun {α} p q => by
      unfold sel
      rw [List.filterMap_cons]
      cases h : (if b = true then q[i]? else p[i]?) with
      | none => simp only [h]; rfl
      | some x => simp only [h]; rfl
    rw [e, e]
    cases b with
    | true => rw [if_pos rfl, if_pos rfl]; exact k r2
    | false => rw [if_neg Bool.false_ne_true, if_neg Bool.false_ne_true]; exact k r1
theorem sel_reps {K : PySem.W.Frag} {β : Bt} {H : Hp} {md zd : List D} {mz zs : List V} (r1 : Reps K β H md mz) (r2 : Reps K β H zd zs) : ∀ sp : List (Bool × Nat), Reps K β H (sel sp md zd) (sel sp mz zs)
  | [] => rfl
  | (b, i) :: sp => by
    have ih := sel_reps r1 r2 sp
    have one : ∀ {xs : List D} {us : List V}, Reps K β H xs us → (xs[i]? = none ∧ us[i]? = none) ∨ ∃ x u, xs[i]? = some x ∧ us[i]? = some u ∧ Rep K β H x u := fun {xs us} r => by
      cases e : xs[i]? with
      | none =>
        refine .inl ⟨rfl, ?_⟩
        rw [List.getElem?_eq_none_iff] at e ⊢
        rw [← r.length]; exact e
      | some x =>
        obtain ⟨u, e2, r3⟩ := r.get e
        exact .inr ⟨x, u, rfl, e2, r3⟩
    have k : ∀ {xs : List D} {us : List V}, Reps K β H xs us → Reps K β H ((xs[i]?).toList ++ sel sp md zd) ((us[i]?).toList ++ sel sp mz zs) := fun {xs us} r => by
      rcases one r with ⟨e1, e2⟩ | ⟨x, u, e1, e2, r3⟩
      · rw [e1, e2]; exact ih
      · rw [e1, e2]; exact ⟨u, _, rfl, r3, ih⟩
    have e : ∀ {α : Type} (p q : List α), sel ((b, i) :: sp) p q = (if b = true then q[i]? else p[i]?).toList ++ sel sp p q := fun {α} p q => by
      unfold sel
      rw [List.filterMap_cons]
      cases h : (if b = true then q[i]? else p[i]?) with
      | none => simp only [h]; rfl
      | some x => simp only [h]; rfl
    rw [e, e]
    cases b with
    | true => rw [if_pos rfl, if_pos rfl]; exact k r2
    | false => rw [if_neg Bool.false_ne_true, if_neg Bool.false_ne_true]; exact k r1
/-- values that have no place in the heap -/
def immD : D → Option V
  | .non => some .non
  | .bl b => some (.bl b)
  | .int i => some (.int i)
  | .str s => some (.str s)
  | _ => none
theorem imm_rep {K : PySem.W.Frag} {β : Bt} {H : Hp} {d : D} {v : V} (e : immD d = some v) : Rep K β H d v := by
  cases d <;> first | (cases e; rfl) | cases e
theorem imms_reps {K : PySem.W.Frag} {β : Bt} {H : Hp} : ∀ {ds : List D} {vs : List V}, ds.map immD = vs.map some → Reps K β H ds vs
  | [], [], _ => rfl
  | d :: ds, v :: vs, e => by
    simp only [List.map_cons, List.cons.injEq] at e
    exact ⟨v, vs, rfl, imm_rep e.1, imms_reps e.2⟩
  | [], _ :: _, e => by simp at e
  | _ :: _, [], e => by simp at e
structure FnKD (P : Program) (w : World) (K : PySem.W.Frag) (mg : Str → Option Value) (base : Heap) (x : Str) (params : Arguments) (body : List Stmt) (scope : Scope) (kws : List (Str × V)) (ps : List Str) (k : Nat) (sem : List D → AH → R D) : Prop where
  ex : ∃ (f : Addr) (fd : FuncData), FunD K x x params body scope [] kws f fd ∧ FnOk P w K mg base (L2N.CX P w) k f fd ps (spS K mg ps.length sem) ∧ mg x = some (.ref f)
  hl : ∀ ds h, ds.length ≠ ps.length → sem ds h = .bad
theorem FnKD.of {P : Program} {w : World} {K : PySem.W.Frag} {mg : Str → Option Value} {base : Heap} {x : Str} {params : Arguments} {body : List Stmt} {scope : Scope} {kws : List (Str × V)} {f : Addr} {fd : FuncData} {N ps : List Str} {k : Nat} {sem : Sv}
    (F : FunD K x x params body scope [] kws f fd) (hm : mg x = some (.ref f)) (S : C8.scC N ps scope = true)
    (hb : ∀ (cdv : Value) (A : Around) (outer : List Env) (s : Shared) (H : Hp) (E : XK), Room k (A.deeper (envOfC x scope s.heap.objs.size f cdv)) → Bx (bX P w K mg base N x scope f cdv A outer s H E) E body sem) :
    FnKD P w K mg base x params body scope kws ps (k + 1) (runDef ps.length N.length sem) :=
  ⟨⟨f, fd, F, fn_ok F S hb, hm⟩, runDef_len⟩
noncomputable def mCallD (n m : Nat) (sem : List D → AH → R D) (md : List D) (sp : List (Bool × Nat)) (f g : Av) : Ev := fun env h => (f env h).bind fun ds h1 => (g env h1).bind fun zs h2 => if ds.length = n ∧ zs.length = m then sem (ds ++ sel sp md zs) h2 else .bad
section
variable {X : Cx} {E : XK} {pos : Pos}
theorem x_fnD {es : List Expr} {e : Expr} {kws : List Keyword} {f g : Av} {j k n : Nat} {x : Str} {params : Arguments} {body : List Stmt} {scope : Scope} {dk : List (Str × V)} {ps ks : List Str} {ms : List (Str × V)} {md : List D} {sp : List (Bool × Nat)} {p : Pos} {sem : List D → AH → R D}
    (C : FnKD X.prog X.w X.K X.mg X.base x params body scope dk ps k sem) (hr : Room j X.A) (hx : Passes (L2N.CX X.prog X.w) X E)
    (hd : dk ≠ []) (hms : ∀ q ∈ ms, q ∈ dk) (hmd : md.map immD = (ms.map (·.2)).map some)
    (hbind : ∀ (D : Addr) (doc pm : Value) (an : Option Addr) (cdv ct : Value) (us mv ws : List Value), us.length = n → mv.length = ms.length → ws.length = ks.length →
      KwChain D ((ms.map (·.1)).zip mv) (bindArgs (PySem.W.fnOf x x params body scope .none (.ref D) doc pm an cdv ct) ⟨us, ks.zip ws⟩) (ps.zip (us ++ sel sp mv ws)))
    (ha : Ax X E (e :: es) f) (hkw : Kx X E kws g) (hk : k ≤ j := by decide) (hg : Gl X x := by rfl)
    (hall : (backToKw pos (keywordEach kws X.env)).all (·.1.isSome) = true := by rfl) (hks : (backToKw pos (keywordEach kws X.env)).filterMap (·.1) = ks := by rfl)
    (hdb : (x == ("__debug__" : Str)) = false := by decide) (he : starEach (e :: es) X.env = (false, eval e X.env) :: starEach es X.env := by rfl)
    (hpl : ((backTo pos (starEach (e :: es) X.env)).any (·.1) || (backToKw pos (keywordEach kws X.env)).any (·.1.isNone)) = false := by rfl) :
    Ex X E (.Call (.Name x p) (e :: es) kws pos) (mCallD n ks.length sem md sp f g) := by
  obtain ⟨fa, fd, F, O, hm⟩ := C.ex
  obtain ⟨mv, b⟩ := F.kbinds0 n ks ms (fun us mv ws => us ++ sel sp mv ws) hd hms (fun r1 r2 r3 => r1.append (sel_vals r2 r3 sp)) hbind
  refine pe_imp (pe_callN (O.mono hk) hr hg hm F.kp b hx ha hkw hall hks hdb he hpl) fun σ H Q ⟨β, env, h, rl, re, o⟩ => ⟨β, env, h, rl, re, (OutG.bind o).mono fun ds β1 h1 H1 x1 rl1 o1 vs rs => ⟨β1, env, h1, rl1, re.ext x1, (OutG.bind o1).mono fun zs β2 h2 H2 x2 rl2 o2 ws rz => ?_⟩⟩
  split at o2
  · rename_i c
    exact ⟨by rw [← rs.length]; exact c.1, by rw [← rz.length]; exact c.2, spS_of C.hl rl2 ((rs.ext x2).append (sel_reps (imms_reps hmd) rz sp)) o2⟩
  · exact o2.elim
end
/-! for the mathematics -/
noncomputable def mCallD2 (r : R (List D)) (n m : Nat) (sem : List D → AH → R D) (md : List D) (sp : List (Bool × Nat)) (ds : List D) : R D := r.bind fun zs h2 => if ds.length = n ∧ zs.length = m then sem (ds ++ sel sp md zs) h2 else .bad
noncomputable def mCallD1 (r : R (List D)) (n m : Nat) (sem : List D → AH → R D) (md : List D) (sp : List (Bool × Nat)) (g : Av) (env : En) : R D := r.bind fun ds h1 => mCallD2 (g env h1) n m sem md sp ds
section
variable {env : En} {h : AH}
@[simp] theorem mCallD_at (n m : Nat) (sem : List D → AH → R D) (md : List D) (sp : List (Bool × Nat)) (f g : Av) : mCallD n m sem md sp f g env h = mCallD1 (f env h) n m sem md sp g env := rfl
@[simp] theorem mCallD1_ok (n m : Nat) (sem : List D → AH → R D) (md : List D) (sp : List (Bool × Nat)) (g : Av) (ds : List D) : mCallD1 (.ok ds h) n m sem md sp g env = mCallD2 (g env h) n m sem md sp ds := rfl
@[simp] theorem mCallD2_ok (n m : Nat) (sem : List D → AH → R D) (md : List D) (sp : List (Bool × Nat)) (ds zs : List D) : mCallD2 (.ok zs h) n m sem md sp ds = if ds.length = n ∧ zs.length = m then sem (ds ++ sel sp md zs) h else .bad := rfl
end
/-! ### a global that is a constant tuple -/
def valsB : List V → List Value → Bool
  | [], [] => true
  | v :: vs, u :: us => He.relB v u && valsB vs us
  | _, _ => false
theorem valsB_ok : ∀ {vs : List V} {us : List Value}, valsB vs us = true → Vals vs us
  | [], [], _ => .nil
  | v :: vs, u :: us, h => by
    have h : (He.relB v u && valsB vs us) = true := h
    rw [Bool.and_eq_true] at h
    exact .cons (He.relB_ok h.1) (valsB_ok h.2)
  | [], _ :: _, h => nomatch h
  | _ :: _, [], h => nomatch h
def tupB (K : PySem.W.Frag) (x : Str) (vs : List V) : Bool := (He.Fa.glo x).ok K && (match K.lookup (He.ga K x) with
  | some o => decide (o.cls = .type "tuple") && (match o.data with
    | .seq its _ => decide (its.size ≤ sizeLine) && valsB vs its.toList
    | _ => false)
  | none => false)
def GTup (K : PySem.W.Frag) (mg : Str → Option Value) (x : Str) (vs : List V) : Prop := ∃ p, mg x = some (.ref p) ∧ kT K p vs
theorem tupB_ok {K : PySem.W.Frag} {h : Heap} {mg : Str → Option Value} (X : K.In h) (G : h.Ns mainGlobals mg) {x : Str} {vs : List V} (b : tupB K x vs = true) : GTup K mg x vs := by
  unfold tupB at b
  rw [Bool.and_eq_true] at b
  refine ⟨_, He.glo_ok X G b.1, ?_⟩
  have b2 := b.2
  cases e : K.lookup (He.ga K x) with
  | none => rw [e] at b2; cases b2
  | some o =>
    rw [e] at b2
    simp only [Bool.and_eq_true, decide_eq_true_eq] at b2
    obtain ⟨c1, c2⟩ := b2
    cases e2 : o.data with
    | seq its n =>
      rw [e2] at c2
      simp only [Bool.and_eq_true, decide_eq_true_eq] at c2
      exact ⟨o, its, n, e, c1, e2, c2.1, valsB_ok c2.2⟩
    | _ => rw [e2] at c2; cases c2
theorem x_gtup {X : Cx} {E : XK} {pos : Pos} {x : Str} {ds : List D} {vs : List V} (C : GTup X.K X.mg x vs) (hi : ds.map immD = vs.map some) (hz : ds.length ≤ 1000) (hg : Gl X x := by rfl) (hd : (x == ("__debug__" : Str)) = false := by decide) : Ex X E (.Name x pos) (mCon (.tup ds)) := by
  obtain ⟨p, hm, k⟩ := C
  exact x_con (v := .ref p) (pe_glob hg hm rfl hd) fun β H => ⟨by rw [SL_eq]; unfold SL; omega, p, vs, rfl, .inr k, imms_reps hi⟩
end Rm

namespace Rm
open PySem PySem.Spec PyProof.Rows L2
/-! ### a text in a tuple of texts -/
def strsD : List D → Option (List Str)
  | [] => some []
  | .str s :: r => (strsD r).map (s :: ·)
  | _ :: _ => none
theorem strsD_ok : ∀ {ds : List D} {ss : List Str}, strsD ds = some ss → ds = ss.map D.str
  | [], ss, e => by cases e; rfl
  | d :: ds, ss, e => by
    cases d with
    | str s =>
      have e : (strsD ds).map (s :: ·) = some ss := e
      cases h : strsD ds with
      | none => rw [h] at e; cases e
      | some r =>
        rw [h] at e
        cases e
        rw [List.map_cons, strsD_ok h]
    | _ => cases e
def gInT (a b : D) (h : AH) : R D := match a, b with
  | .str x, .tup ds => (match strsD ds with
    | some ss => .ok (.bl (ss.any (· == x))) h
    | none => .bad)
  | _, _ => .bad
def gNotInT (a b : D) (h : AH) : R D := match a, b with
  | .str x, .tup ds => (match strsD ds with
    | some ss => .ok (.bl (!ss.any (· == x))) h
    | none => .bad)
  | _, _ => .bad
theorem strs_reps {K : PySem.W.Frag} {β : Bt} {H : Hp} : ∀ {ss : List Str} {vs : List V}, Reps K β H (ss.map D.str) vs → vs = ss.map V.str
  | [], vs, r => r
  | s :: ss, vs, r => by
    obtain ⟨v, r', rfl, r1, r2⟩ := r
    have r1 : v = .str s := r1
    rw [r1, strs_reps r2]; rfl
theorem inV_strs (x : Str) (ss : List Str) : inV (.str x) (ss.map V.str) = ss.any (· == x) := by
  induction ss with
  | nil => rfl
  | cons s ss ih =>
    show (eqV (.str s) (.str x) || inV (.str x) (ss.map V.str)) = _
    rw [ih]; rfl
theorem flat_strs (ss : List Str) : (ss.map V.str).all flatV = true := by
  induction ss with
  | nil => rfl
  | cons s ss ih => show (true && (ss.map V.str).all flatV) = true; rw [ih]; rfl
section
variable {X : Cx} {E : XK}
theorem o_inT : OpX X E (compareOp .In) gInT := ⟨_, op_in_seq, fun β h H a b x y Q rl ra rb o => by
  unfold gInT at o
  split at o
  · rename_i s ds
    split at o
    · rename_i ss e
      have ra : x = .str s := ra
      obtain ⟨_, p, vs, rfl, t, rs⟩ := rb
      rw [strsD_ok e] at rs
      have hv := strs_reps rs
      subst ra hv
      refine ⟨p, ss.map V.str, rfl, .inr t.sq, rfl, flat_strs ss, ?_⟩
      rw [if_neg (by decide), inV_strs]
      exact o.ok rl _ rfl
    · exact o.elim
  · exact o.elim⟩
theorem o_notInT : OpX X E (compareOp .NotIn) gNotInT := ⟨_, op_notIn_seq, fun β h H a b x y Q rl ra rb o => by
  unfold gNotInT at o
  split at o
  · rename_i s ds
    split at o
    · rename_i ss e
      have ra : x = .str s := ra
      obtain ⟨_, p, vs, rfl, t, rs⟩ := rb
      rw [strsD_ok e] at rs
      have hv := strs_reps rs
      subst ra hv
      refine ⟨p, ss.map V.str, rfl, .inr t.sq, rfl, flat_strs ss, ?_⟩
      rw [if_pos rfl, inV_strs]
      exact o.ok rl _ rfl
    · exact o.elim
  · exact o.elim⟩
end
end Rm

namespace Rm
open PySem PySem.Spec PyProof.Rows L2

noncomputable def b_is_integer : Sv := sRet (mAnd (m1 (gIs ["int"]) (mLoc 0)) (mNot (m1 (gIs ["bool"]) (mLoc 0))))
noncomputable def s_is_integer : List D → AH → R D := runDef 1 1 b_is_integer

noncomputable def b_is_row : Sv := sRet (mAnd (m1 (gIs ["tuple"]) (mLoc 0)) (m2 gEq (mCall bLen (mCons (mLoc 0) (mNil))) (mLoc 1)))
noncomputable def s_is_row : List D → AH → R D := runDef 2 2 b_is_row

noncomputable def b_check_kind : Sv := sIf (mOrT (mNotT (mTest (m1 (gIs ["str"]) (mLoc 0)))) (mTest (m2 gNotInT (mLoc 0) (mCon (.tup [.str "standard", .str "better"]))))) (sRaise "InvalidKind") (sNil)
noncomputable def s_check_kind : List D → AH → R D := runDef 1 1 b_check_kind

noncomputable def b_last_night : Sv := sRet (mIfE (mTest (m2 gIsN (mLoc 1) (mCon .non))) (m2 gSub (mCall bLen (mCons (m2 gIx (mLoc 0) (mCon (.int 0))) (mNil))) (mCon (.int 1))) (mLoc 1))
noncomputable def s_last_night : List D → AH → R D := runDef 2 2 b_last_night

noncomputable def b__law_well : Sv := sSeq (sIf (mTest (m2 gGe (mLoc 0) (m2 gPow (mCon (.int 10)) (mCon (.int 18))))) (sRet (mLm (mCons (m2 gSub (mLoc 0) (m2 gPow (mCon (.int 10)) (mCon (.int 18)))) (mCons (m2 gMod (mLoc 0) (mCon (.int 2305843009213693951))) (mCons (mLoc 1) (mNil)))))) (sNil)) (sRet (mLm (mCons (mCon (.int 0)) (mCons (m2 gMod (mLoc 0) (mCon (.int 2305843009213693951))) (mCons (mLoc 1) (mNil))))))
noncomputable def s__law_well : List D → AH → R D := runDef 2 2 b__law_well

noncomputable def b__law_take : Sv := sSeq (sIf (mTest (m2 gGt (m2 gIx (mLoc 0) (mCon (.int 0))) (mCon (.int 0)))) (sSeq (sAsg (m2 gMod (m2 gIx (mLoc 0) (mCon (.int 0))) (mLoc 1)) (gNm 2)) (sSeq (sAsg (m2 gDiv (m2 gIx (mLoc 0) (mCon (.int 0))) (mLoc 1)) (gSet (mLoc 0) (mCon (.int 0)))) (sRet (mLoc 2)))) (sNil)) (sSeq (sAsg (m2 gAdd (m2 gIx (mLoc 0) (mCon (.int 2))) (mCon (.int 1))) (gSet (mLoc 0) (mCon (.int 2)))) (sSeq (sAsg (mCon (.int 2305843009213693951)) (gNm 3)) (sSeq (sAsg (m2 gMod (m2 gAdd (m2 gIx (mLoc 0) (mCon (.int 1))) (m2 gMul (mCon (.int 1000003)) (m2 gIx (mLoc 0) (mCon (.int 2))))) (mLoc 3)) (gNm 4)) (sSeq (sAsg (m2 gMod (m2 gAdd (m2 gAdd (m2 gMul (mLoc 4) (mLoc 4)) (m2 gMul (mCon (.int 7919)) (m2 gPow (m2 gIx (mLoc 0) (mCon (.int 2))) (mCon (.int 2))))) (mCon (.int 5))) (mLoc 3)) (gNm 4)) (sRet (m2 gMod (m2 gDiv (m2 gMod (m2 gPow (mLoc 4) (mCon (.int 3))) (mLoc 3)) (mCon (.int 13))) (mLoc 1)))))))
noncomputable def s__law_take : List D → AH → R D := runDef 2 5 b__law_take

noncomputable def b__law_most : Sv := sRet (mCall bSum (mCons (mLcF (itSeq (m2 gIx (mLoc 0) (mCon (.int 4)))) (gTp 2 (gsCons (gNm 1) (gsCons (gNm 2) (gsNil)))) (cYes) (mLoc 1) [1, 2]) (mNil)))
noncomputable def s__law_most : List D → AH → R D := runDef 1 3 b__law_most

noncomputable def b__law_on : Sv := sRet (mCall bSum (mCons (mLcF (itZip2 (mCons (mLoc 0) (mCons (mLoc 1) (mNil)))) (gTp 2 (gsCons (gNm 3) (gsCons (gNm 4) (gsNil)))) (mTest (m3c gLe gLe (m2 gIx (mLoc 3) (mCon (.int 0))) (mLoc 2) (m2 gIx (mLoc 3) (mCon (.int 1))))) (mLoc 4) [3, 4]) (mNil)))
noncomputable def s__law_on : List D → AH → R D := runDef 3 5 b__law_on

noncomputable def b__law_kind (cn : Str) (a0 : Nat) : Sv := sSeq (sAsg (mLf (mCons (m1 (gIsX a0 (cn == "InvalidHouse")) (mLoc 0)) (mCons (m1 (gIsX a0 (cn == "InvalidGroups")) (mLoc 0)) (mCons (m1 (gIsX a0 (cn == "InvalidPlan")) (mLoc 0)) (mNil))))) (gNm 1)) (sSeq (sAsg (m2 gAdd (mLoc 1) (mLf (mCons (m1 (gIsX a0 (cn == "InvalidWeights")) (mLoc 0)) (mCons (m1 (gIsX a0 (cn == "InvalidNight")) (mLoc 0)) (mCons (m1 (gIsX a0 (cn == "InvalidPlace")) (mLoc 0)) (mNil)))))) (gNm 1)) (sSeq (sAsg (m2 gAdd (mLoc 1) (mLf (mCons (m1 (gIsX a0 (cn == "InvalidSpan")) (mLoc 0)) (mCons (m1 (gIsX a0 (cn == "InvalidKind")) (mLoc 0)) (mCons (m1 (gIsX a0 (cn == "InvalidWishes")) (mLoc 0)) (mNil)))))) (gNm 1)) (sSeq (sAsg (m2 gAdd (mLoc 1) (mLf (mCons (m1 (gIsX a0 (cn == "InvalidSpans")) (mLoc 0)) (mCons (m1 (gIsX a0 (cn == "InvalidName")) (mLoc 0)) (mCons (m1 (gIsX a0 (cn == "RoomsOutOfRange")) (mLoc 0)) (mNil)))))) (gNm 1)) (sSeq (sAsg (m2 gAdd (mLoc 1) (mLf (mCons (m1 (gIsX a0 (cn == "TooManyGroups")) (mLoc 0)) (mCons (m1 (gIsX a0 (cn == "NoPlan")) (mLoc 0)) (mCons (m1 (gIsX a0 (cn == "NothingToUndo")) (mLoc 0)) (mNil)))))) (gNm 1)) (sSeq (sAsg (m2 gAdd (mLoc 1) (mLf (mCons (m1 (gIsX a0 (cn == "TrialOpen")) (mLoc 0)) (mCons (m1 (gIsX a0 (cn == "NoRoom")) (mLoc 0)) (mCons (m1 (gIsX a0 (cn == "UnknownName")) (mLoc 0)) (mNil)))))) (gNm 1)) (sSeq (sAsg (mLf (mCons (mCon (.str "InvalidHouse")) (mCons (mCon (.str "InvalidGroups")) (mCons (mCon (.str "InvalidPlan")) (mCons (mCon (.str "InvalidWeights")) (mCons (mCon (.str "InvalidNight")) (mCons (mCon (.str "InvalidPlace")) (mNil)))))))) (gNm 2)) (sSeq (sAsg (m2 gAdd (mLoc 2) (mLf (mCons (mCon (.str "InvalidSpan")) (mCons (mCon (.str "InvalidKind")) (mCons (mCon (.str "InvalidWishes")) (mCons (mCon (.str "InvalidSpans")) (mCons (mCon (.str "InvalidName")) (mCons (mCon (.str "RoomsOutOfRange")) (mNil))))))))) (gNm 2)) (sSeq (sAsg (m2 gAdd (mLoc 2) (mLf (mCons (mCon (.str "TooManyGroups")) (mCons (mCon (.str "NoPlan")) (mCons (mCon (.str "NothingToUndo")) (mCons (mCon (.str "TrialOpen")) (mCons (mCon (.str "NoRoom")) (mCons (mCon (.str "UnknownName")) (mCons (mCon (.str "InvalidText")) (mNil)))))))))) (gNm 2)) (sRet (mJoin (mCon (.str "")) (mLcF (itZipF (mCons (mLoc 2) (mCons (m2 gAdd (mLoc 1) (mLf (mCons (m1 (gIsX a0 (cn == "InvalidText")) (mLoc 0)) (mNil)))) (mNil)))) (gTp 2 (gsCons (gNm 3) (gsCons (gNm 4) (gsNil)))) (mTest (mLoc 4)) (mLoc 3) [3, 4])))))))))))
noncomputable def s__law_kind (cn : Str) (a0 : Nat) : List D → AH → R D := runDef 1 5 (b__law_kind cn a0)

noncomputable def b__law_opened : Sv := sSeq (sAsg (mLm (mNil)) (gNm 5)) (sSeq (sFor (itZip2 (mCons (mLf (mCons (mCon (.str "standard")) (mCons (mCon (.str "better")) (mNil)))) (mCons (mLoc 0) (mNil)))) (gTp 2 (gsCons (gNm 6) (gsCons (gNm 7) (gsNil)))) (sSeq (sAsg (mLcF (itEnum (mLoc 7)) (gTp 2 (gsCons (gNm 9) (gsCons (gNm 10) (gsNil)))) (cYes) (m2 gAdd (mLoc 10) (m2 gMul (mLoc 4) (mCall bInt (mCons (mAnd (m2 gEq (mLoc 6) (mLoc 1)) (m3c gLe gLe (mLoc 2) (mLoc 9) (mLoc 3))) (mNil))))) [9, 10]) (gNm 8)) (sExp (mApp (mLoc 5) (mCall bTup (mCons (mLoc 8) (mNil)))))) [6, 7, 8]) (sRet (mTup (mCons (m2 gIx (mLoc 5) (mCon (.int 0))) (mCons (m2 gIx (mLoc 5) (mCon (.int 1))) (mNil))))))
noncomputable def s__law_opened : List D → AH → R D := runDef 5 11 b__law_opened

noncomputable def b_is_between : Sv := sRet (mAnd (mCall s_is_integer (mCons (mLoc 0) (mNil))) (m3c gLe gLe (mLoc 1) (mLoc 0) (mLoc 2)))
noncomputable def s_is_between : List D → AH → R D := runDef 3 3 b_is_between

noncomputable def b__law_bags : Sv := sRet (mLcF (itEnum (m2 gAdd (mSl (mLoc 0) (oNone) (oSome (mLoc 1))) (mLf (mCons (mCon (.int 0)) (mNil))))) (gTp 2 (gsCons (gNm 2) (gsCons (gNm 3) (gsNil)))) (cYes) (mCall s__law_well (mCons (mLoc 3) (mCons (m2 gMul (mCon (.int 977)) (mLoc 2)) (mNil)))) [2, 3])
noncomputable def s__law_bags : List D → AH → R D := runDef 2 4 b__law_bags

noncomputable def b__law_many : Sv := sSeq (sAsg (mCall s__law_take (mCons (mLoc 0) (mCons (mCon (.int 4)) (mNil)))) (gNm 2)) (sSeq (sIf (mTest (m2 gLt (mLoc 2) (mCon (.int 2)))) (sRet (mCall s__law_take (mCons (mLoc 0) (mCons (m2 gAdd (mCall bMin (mCons (mLoc 1) (mCons (mCon (.int 5)) (mNil)))) (mCon (.int 1))) (mNil))))) (sNil)) (sRet (m2 gIx (mLf (mCons (mLoc 1) (mCons (mCall s__law_take (mCons (mLoc 0) (mCons (m2 gAdd (mLoc 1) (mCon (.int 1))) (mNil)))) (mNil)))) (m2 gSub (mLoc 2) (mCon (.int 2))))))
noncomputable def s__law_many : List D → AH → R D := runDef 2 3 b__law_many

noncomputable def b__law_costs : Sv := sSeq (sAsg (m2 gIx (mLf (mCons (mCon (.int 6)) (mCons (mCon (.int 9)) (mCons (m2 gPow (mCon (.int 10)) (mCon (.int 9))) (mNil))))) (mCall s__law_take (mCons (mLoc 0) (mCons (mCon (.int 3)) (mNil))))) (gNm 2)) (sSeq (sAsg (m2 gIx (mLf (mCons (mLoc 2) (mCons (m2 gDiv (mLoc 2) (mCon (.int 3))) (mNil)))) (mCall s__law_take (mCons (mLoc 0) (mCons (mCon (.int 2)) (mNil))))) (gNm 3)) (sRet (m1 gSdd (mLcF (itRange1 (mCons (mLoc 1) (mNil))) (gNm 4) (cYes) (mCall bMin (mCons (m2 gPow (mCon (.int 10)) (mCon (.int 9))) (mCons (m2 gSub (mCall s__law_take (mCons (mLoc 0) (mCons (m2 gAdd (m2 gMul (mCon (.int 2)) (mLoc 2)) (mCon (.int 1))) (mNil)))) (mLoc 3)) (mNil)))) [4]))))
noncomputable def s__law_costs : List D → AH → R D := runDef 2 5 b__law_costs

noncomputable def b__law_house_for : Sv := sSeq (sAsg (mLf (mCons (mLm (mNil)) (mCons (mLm (mNil)) (mNil)))) (gNm 4)) (sSeq (sAsg (mCall bInt (mCons (m2 gEq (mCall s__law_take (mCons (mLoc 0) (mCons (mCon (.int 5)) (mNil)))) (mCon (.int 0))) (mNil))) (gNm 5)) (sSeq (sFor (itRange1 (mCons (mLoc 3) (mNil))) (gNm 6) (sSeq (sAsg (mCall s__law_on (mCons (mLoc 1) (mCons (mLoc 2) (mCons (mLoc 6) (mNil))))) (gNm 7)) (sSeq (sAsg (mCall s__law_on (mCons (mLoc 1) (mCons (mLcF (itSeq (mLoc 1)) (gNm 9) (cYes) (m2 gIx (mLoc 9) (mCon (.int 2))) [9]) (mCons (mLoc 6) (mNil))))) (gNm 8)) (sFor (itZip2 (mCons (mLoc 4) (mCons (mLf (mCons (m2 gSub (mLoc 8) (mLoc 7)) (mCons (mLoc 7) (mNil)))) (mNil)))) (gTp 2 (gsCons (gNm 10) (gsCons (gNm 11) (gsNil)))) (sSeq (sAsg (m2 gIx (mLf (mCons (mCon (.int 0)) (mCons (mCon (.int 0)) (mCons (mCall s__law_take (mCons (mLoc 0) (mCons (mCon (.int 3)) (mNil)))) (mCons (mCall s__law_take (mCons (mLoc 0) (mCons (mCon (.int 1000)) (mNil)))) (mNil)))))) (mCall s__law_take (mCons (mLoc 0) (mCons (mCon (.int 4)) (mNil))))) (gNm 12)) (sSeq (sAsg (m2 gMul (mLoc 5) (mCall bInt (mCons (m2 gEq (mCall s__law_take (mCons (mLoc 0) (mCons (mCon (.int 3)) (mNil)))) (mCon (.int 0))) (mNil)))) (gNm 13)) (sExp (mApp (mLoc 10) (mCall bMax (mCons (mCon (.int 0)) (mCons (m2 gSub (m2 gAdd (mLoc 11) (mLoc 12)) (mLoc 13)) (mNil)))))))) [10, 11, 12, 13]))) [6, 7, 8, 10, 11, 12, 13]) (sRet (mTup (mCons (mCall bTup (mCons (m2 gIx (mLoc 4) (mCon (.int 0))) (mNil))) (mCons (mCall bTup (mCons (m2 gIx (mLoc 4) (mCon (.int 1))) (mNil))) (mNil)))))))
noncomputable def s__law_house_for : List D → AH → R D := runDef 4 14 b__law_house_for

noncomputable def b_is_house : Sv := sSeq (sIf (mOrT (mNotT (mTest (mCall s_is_row (mCons (mLoc 0) (mCons (mCon (.int 2)) (mNil)))))) (mOrT (mNotT (mTest (m1 (gIs ["tuple"]) (m2 gIx (mLoc 0) (mCon (.int 0)))))) (mNotT (mTest (m3c gLe gLe (mCon (.int 1)) (mCall bLen (mCons (m2 gIx (mLoc 0) (mCon (.int 0))) (mNil))) (mCon (.int 30))))))) (sRet (mCon (.bl false))) (sNil)) (sSeq (sIf (mNotT (mTest (mCall s_is_row (mCons (m2 gIx (mLoc 0) (mCon (.int 1))) (mCons (mCall bLen (mCons (m2 gIx (mLoc 0) (mCon (.int 0))) (mNil))) (mNil)))))) (sRet (mCon (.bl false))) (sNil)) (sRet (mCall bAll (mCons (mLcF (itSeq (m2 gAdd (m2 gIx (mLoc 0) (mCon (.int 0))) (m2 gIx (mLoc 0) (mCon (.int 1))))) (gNm 1) (cYes) (mCall s_is_between (mCons (mLoc 1) (mCons (mCon (.int 0)) (mCons (mCon (.int 1000000000000)) (mNil))))) [1]) (mNil)))))
noncomputable def s_is_house : List D → AH → R D := runDef 1 2 b_is_house

noncomputable def b_check_span : Sv := sSeq (sAsg (mCall bLen (mCons (m2 gIx (mLoc 0) (mCon (.int 0))) (mNil))) (gNm 3)) (sIf (mOrT (mNotT (mTest (mCall s_is_between (mCons (mLoc 1) (mCons (mCon (.int 0)) (mCons (m2 gSub (mLoc 3) (mCon (.int 1))) (mNil))))))) (mNotT (mTest (mCall s_is_between (mCons (mLoc 2) (mCons (mLoc 1) (mCons (m2 gSub (mLoc 3) (mCon (.int 1))) (mNil)))))))) (sRaise "InvalidSpan") (sNil))
noncomputable def s_check_span : List D → AH → R D := runDef 3 4 b_check_span

noncomputable def b_moved : Sv := sSeq (sAsg (mLm (mNil)) (gNm 5)) (sSeq (sFor (itZip2 (mCons (mCon (.tup [.str "standard", .str "better"])) (mCons (mLoc 0) (mNil)))) (gTp 2 (gsCons (gNm 6) (gsCons (gNm 7) (gsNil)))) (sSeq (sAsg (mLcF (itEnum (mLoc 7)) (gTp 2 (gsCons (gNm 9) (gsCons (gNm 10) (gsNil)))) (cYes) (m2 gAdd (mLoc 10) (m2 gMul (mLoc 4) (mCall bInt (mCons (mAnd (m2 gEq (mLoc 6) (mLoc 1)) (m3c gLe gLe (mLoc 2) (mLoc 9) (mLoc 3))) (mNil))))) [9, 10]) (gNm 8)) (sExp (mApp (mLoc 5) (mCall bTup (mCons (mLoc 8) (mNil)))))) [6, 7, 8]) (sSeq (sIf (mNotT (mTest (mCall bAll (mCons (mLcF (itSeq (m2 gAdd (m2 gIx (mLoc 5) (mCon (.int 0))) (m2 gIx (mLoc 5) (mCon (.int 1))))) (gNm 10) (cYes) (mCall s_is_between (mCons (mLoc 10) (mCons (mCon (.int 0)) (mCons (mCon (.int 1000000000000)) (mNil))))) [10]) (mNil))))) (sRaise "RoomsOutOfRange") (sNil)) (sRet (mTup (mCons (m2 gIx (mLoc 5) (mCon (.int 0))) (mCons (m2 gIx (mLoc 5) (mCon (.int 1))) (mNil)))))))
noncomputable def s_moved : List D → AH → R D := runDef 5 11 b_moved

noncomputable def b__law_group : Sv := sSeq (sAsg (mCall s__law_take (mCons (mLoc 0) (mCons (mLoc 1) (mNil)))) (gNm 3)) (sSeq (sAsg (m2 gAdd (mLoc 3) (mCall s__law_take (mCons (mLoc 0) (mCons (m2 gSub (mLoc 1) (mLoc 3)) (mNil))))) (gNm 4)) (sSeq (sAsg (m2 gAdd (mCon (.int 1)) (mCall s__law_many (mCons (mLoc 0) (mCons (m2 gSub (mLoc 2) (mCon (.int 1))) (mNil))))) (gNm 5)) (sSeq (sPar 6 7 (mCons (mLm (mNil)) (mCons (mLoc 5) mNil))) (sSeq (sFor (itSeq (mCall s__law_costs (mCons (mLoc 0) (mCons (mCall s__law_take (mCons (mLoc 0) (mCons (mCon (.int 4)) (mNil)))) (mNil))))) (gNm 8) (sIf (mTest (m2 gGt (mLoc 7) (mCon (.int 0)))) (sSeq (sAsg (m2 gAdd (mCon (.int 1)) (mCall s__law_many (mCons (mLoc 0) (mCons (m2 gSub (mLoc 7) (mCon (.int 1))) (mNil))))) (gNm 9)) (sSeq (sExp (mApp (mLoc 6) (mTup (mCons (mLoc 9) (mCons (mLoc 8) (mNil)))))) (sAsg (m2 gSub (mLoc 7) (mLoc 9)) (gNm 7)))) (sNil)) [8, 9]) (sSeq (sAsg (m2 gIx (mLf (mCons (mCon (.int 0)) (mCons (mCon (.int 0)) (mCons (mCall s__law_many (mCons (mLoc 0) (mCons (m2 gSub (mLoc 5) (mLoc 7)) (mNil)))) (mNil))))) (mCall s__law_take (mCons (mLoc 0) (mCons (mCon (.int 3)) (mNil))))) (gNm 10)) (sRet (mTup (mCons (mLoc 3) (mCons (mLoc 4) (mCons (mLoc 5) (mCons (mLoc 10) (mCons (mCall bTup (mCons (mLoc 6) (mNil))) (mNil)))))))))))))
noncomputable def s__law_group : List D → AH → R D := runDef 3 11 b__law_group

noncomputable def b_check_house : Sv := sIf (mNotT (mTest (mCall s_is_house (mCons (mLoc 0) (mNil))))) (sRaise "InvalidHouse") (sNil)
noncomputable def s_check_house : List D → AH → R D := runDef 1 1 b_check_house

noncomputable def b__law_made : Sv := sSeq (sAsg (mCall bTup (mCons (mLcF (itRange1 (mCons (mLoc 2) (mNil))) (gNm 5) (cYes) (mCall s__law_group (mCons (mLoc 0) (mCons (mLoc 1) (mCons (mLoc 3) (mNil))))) [5]) (mNil))) (gNm 4)) (sSeq (sAsg (mCall bTup (mCons (mLcF (itSeq (mLoc 4)) (gNm 7) (cYes) (m2 gAdd (m2 gIx (mLoc 7) (mCon (.int 3))) (mCall s__law_many (mCons (mLoc 0) (mCons (m2 gSub (mCall s__law_most (mCons (mLoc 7) (mNil))) (m2 gIx (mLoc 7) (mCon (.int 3)))) (mNil))))) [7]) (mNil))) (gNm 6)) (sRet (mTup (mCons (mCall s__law_house_for (mCons (mLoc 0) (mCons (mLoc 4) (mCons (mLoc 6) (mCons (mLoc 1) (mNil)))))) (mCons (mLoc 4) (mCons (mLoc 6) (mNil)))))))
noncomputable def s__law_made : List D → AH → R D := runDef 4 8 b__law_made

noncomputable def b_changed : Sv := sSeq (sExp (mCall s_check_house (mCons (mLoc 0) (mNil)))) (sSeq (sExp (mCall s_check_kind (mCons (mLoc 1) (mNil)))) (sSeq (sAsg (mCall s_last_night (mCons (mLoc 0) (mCons (mLoc 3) (mNil)))) (gNm 5)) (sSeq (sExp (mCall s_check_span (mCons (mLoc 0) (mCons (mLoc 2) (mCons (mLoc 5) (mNil)))))) (sRet (mCall s_moved (mCons (mLoc 0) (mCons (mLoc 1) (mCons (mLoc 2) (mCons (mLoc 5) (mCons (mLoc 4) (mNil)))))))))))
noncomputable def s_changed : List D → AH → R D := runDef 5 6 b_changed

noncomputable def b__law_small : Sv := sSeq (sPar 1 2 (mCons (m2 gAdd (mCon (.int 1)) (mCall s__law_take (mCons (mLoc 0) (mCons (mCon (.int 4)) (mNil))))) (mCons (mCall s__law_take (mCons (mLoc 0) (mCons (mCon (.int 5)) (mNil)))) mNil))) (sRet (mCall s__law_made (mCons (mLoc 0) (mCons (mLoc 1) (mCons (mLoc 2) (mCons (mCon (.int 3)) (mNil)))))))
noncomputable def s__law_small : List D → AH → R D := runDef 1 3 b__law_small

noncomputable def b__law_great : Sv := sSeq (sPar 1 2 (mCons (m2 gAdd (mCon (.int 1)) (mCall s__law_take (mCons (mLoc 0) (mCons (mCon (.int 8)) (mNil))))) (mCons (mCall s__law_take (mCons (mLoc 0) (mCons (mCon (.int 8)) (mNil)))) mNil))) (sRet (mCall s__law_made (mCons (mLoc 0) (mCons (mLoc 1) (mCons (mLoc 2) (mCons (m2 gIx (mLf (mCons (mCon (.int 5)) (mCons (m2 gPow (mCon (.int 10)) (mCon (.int 11))) (mNil)))) (mCall s__law_take (mCons (mLoc 0) (mCons (mCon (.int 2)) (mNil))))) (mNil)))))))
noncomputable def s__law_great : List D → AH → R D := runDef 1 3 b__law_great

noncomputable def b__law_same (rec : List D → AH → R D) : Sv := sSeq (sIf (mOrT (mAndT (mTest (m1 (gIs ["list"]) (mLoc 0))) (mTest (m1 (gIs ["list"]) (mLoc 1)))) (mAndT (mTest (m1 (gIs ["tuple"]) (mLoc 0))) (mTest (m1 (gIs ["tuple"]) (mLoc 1))))) (sRet (mAnd (m2 gEq (mCall bLen (mCons (mLoc 0) (mNil))) (mCall bLen (mCons (mLoc 1) (mNil)))) (mCall bAll (mCons (mLcF (itZip2 (mCons (mLoc 0) (mCons (mLoc 1) (mNil)))) (gTp 2 (gsCons (gNm 2) (gsCons (gNm 3) (gsNil)))) (cYes) (mCall rec (mCons (mLoc 2) (mCons (mLoc 3) (mNil)))) [2, 3]) (mNil))))) (sNil)) (sSeq (sIf (mOrT (mTest (m1 (gIs ["bool", "list", "tuple"]) (mLoc 0))) (mTest (m1 (gIs ["bool", "list", "tuple"]) (mLoc 1)))) (sRet (mAnd (m1 (gIs ["bool"]) (mLoc 0)) (mAnd (m1 (gIs ["bool"]) (mLoc 1)) (m2 gEq (mLoc 0) (mLoc 1))))) (sNil)) (sSeq (sIf (mOrT (mTest (m1 (gIs ["int"]) (mLoc 0))) (mTest (m1 (gIs ["int"]) (mLoc 1)))) (sRet (mAnd (m1 (gIs ["int"]) (mLoc 0)) (mAnd (m1 (gIs ["int"]) (mLoc 1)) (m2 gEq (mLoc 0) (mLoc 1))))) (sNil)) (sSeq (sIf (mOrT (mTest (m1 (gIs ["str"]) (mLoc 0))) (mTest (m1 (gIs ["str"]) (mLoc 1)))) (sRet (mAnd (m1 (gIs ["str"]) (mLoc 0)) (mAnd (m1 (gIs ["str"]) (mLoc 1)) (m2 gEq (mLoc 0) (mLoc 1))))) (sNil)) (sRet (mAnd (m2 gIsN (mLoc 0) (mCon .non)) (m2 gIsN (mLoc 1) (mCon .non)))))))
noncomputable def s__law_same : Nat → List D → AH → R D
  | 0 => fun _ _ => .bad
  | n + 1 => runDef 2 4 (b__law_same (s__law_same n))

noncomputable def b_law_turn : Sv := sSeq (sAsg (m2 gIx (m2 gIx (mLf (mCons (mCall s__law_small (mCons (mLoc 1) (mNil))) (mCons (mCall s__law_great (mCons (mLoc 1) (mNil))) (mNil)))) (mCall s__law_take (mCons (mLoc 1) (mCons (mCon (.int 2)) (mNil))))) (mCon (.int 0))) (gNm 2)) (sSeq (sAsg (mCall bLen (mCons (m2 gIx (mLoc 2) (mCon (.int 0))) (mNil))) (gNm 3)) (sSeq (sFor (itRange1 (mCons (mCon (.int 6)) (mNil))) (gNm 4) (sSeq (sAsg (mCall s__law_take (mCons (mLoc 1) (mCons (mLoc 3) (mNil)))) (gNm 5)) (sSeq (sAsg (m2 gAdd (mLoc 5) (mCall s__law_take (mCons (mLoc 1) (mCons (m2 gSub (mLoc 3) (mLoc 5)) (mNil))))) (gNm 6)) (sSeq (sAsg (m2 gIx (mLf (mCons (mCon (.str "standard")) (mCons (mCon (.str "better")) (mNil)))) (mCall s__law_take (mCons (mLoc 1) (mCons (mCon (.int 2)) (mNil))))) (gNm 7)) (sSeq (sAsg (m2 gIx (mLoc 2) (mCall bInt (mCons (m2 gEq (mLoc 7) (mCon (.str "better"))) (mNil)))) (gNm 8)) (sSeq (sPar 9 10 (mCons (m2 gSub (mCon (.int 0)) (mCall bMin (mCons (mSl (mLoc 8) (oSome (mLoc 5)) (oSome (m2 gAdd (mLoc 6) (mCon (.int 1))))) (mNil)))) (mCons (m2 gSub (m2 gPow (mCon (.int 10)) (mCon (.int 12))) (mCall bMax (mCons (mSl (mLoc 8) (oSome (mLoc 5)) (oSome (m2 gAdd (mLoc 6) (mCon (.int 1))))) (mNil)))) mNil))) (sFor (itSeq (mLf (mCons (mLoc 9) (mCons (mLoc 10) (mCons (m2 gSub (mLoc 9) (mCon (.int 1))) (mCons (m2 gAdd (mLoc 10) (mCon (.int 1))) (mCons (m2 gSub (mCall s__law_take (mCons (mLoc 1) (mCons (mCon (.int 5)) (mNil)))) (mCon (.int 2))) (mNil)))))))) (gNm 11) (sIf (mTest (m3c gLe gLe (m1 gNeg (m2 gPow (mCon (.int 10)) (mCon (.int 12)))) (mLoc 11) (m2 gPow (mCon (.int 10)) (mCon (.int 12))))) (sSeq (sAsg (m3c gLe gLe (mLoc 9) (mLoc 11) (mLoc 10)) (gNm 12)) (sSeq (sAsg (mIfE (mTest (mLoc 12)) (mTup (mCons (mCon (.str "told")) (mCons (mCall s__law_opened (mCons (mLoc 2) (mCons (mLoc 7) (mCons (mLoc 5) (mCons (mLoc 6) (mCons (mLoc 11) (mNil))))))) (mNil)))) (mTup (mCons (mCon (.str "RoomsOutOfRange")) (mNil)))) (gNm 13)) (sSeq (sIf (mNotT (mTest (mCall (s__law_same 8) (mCons (mTried (mCallD 1 4 s_changed [] [(true, 1), (true, 3), (true, 2), (true, 0)] (mCons (mLoc 2) (mNil)) (mCons (mLoc 11) (mCons (mLoc 7) (mCons (mLoc 6) (mCons (mLoc 5) (mNil))))))) (mCons (mLoc 13) (mNil)))))) (sRet (mCon (.bl false))) (sNil)) (sFor (itSeq (mLf (mCons (mTup (mCons (m1 gNeg (mCon (.int 1))) (mCons (mLoc 6) (mNil)))) (mCons (mTup (mCons (mLoc 5) (mCons (mLoc 3) (mNil)))) (mCons (mTup (mCons (mLoc 6) (mCons (m2 gSub (mLoc 5) (mCon (.int 1))) (mNil)))) (mCons (mTup (mCons (mCon .non) (mCons (mCon .non) (mNil)))) (mCons (mTup (mCons (mLoc 5) (mCons (mCon (.bl true)) (mNil)))) (mCons (mTup (mCons (mCon (.str "0")) (mCons (mLoc 6) (mNil)))) (mNil))))))))) (gTp 2 (gsCons (gNm 14) (gsCons (gNm 15) (gsNil)))) (sSeq (sAsg (mTried (mCallD 1 4 s_changed [] [(true, 0), (true, 1), (true, 2), (true, 3)] (mCons (mLoc 2) (mNil)) (mCons (mLoc 7) (mCons (mLoc 14) (mCons (mLoc 15) (mCons (mLoc 11) (mNil))))))) (gNm 16)) (sIf (mTest (m2 gNe (mLoc 16) (mTup (mCons (mCon (.str "InvalidSpan")) (mNil))))) (sRet (mCon (.bl false))) (sNil))) [14, 15, 16])))) (sNil)) [11, 12, 13, 14, 15, 16])))))) [4, 5, 6, 7, 8, 9, 10, 11, 12, 13, 14, 15, 16]) (sSeq (sAsg (m2 gPow (mCon (.int 10)) (mCon (.int 12))) (gNm 17)) (sSeq (sAsg (mCall s__law_opened (mCons (mLoc 2) (mCons (mCon (.str "better")) (mCons (mCon (.int 0)) (mCons (m2 gSub (mLoc 3) (mCon (.int 1))) (mCons (mCon (.int 1)) (mNil))))))) (gNm 13)) (sSeq (sAsg (mAnd (m2 gLt (mCall bMax (mCons (m2 gIx (mLoc 2) (mCon (.int 1))) (mNil))) (mLoc 17)) (m2 gLt (mCall bMax (mCons (m2 gIx (mLoc 2) (mCon (.int 0))) (mNil))) (mLoc 17))) (gNm 12)) (sSeq (sIf (mAndT (mTest (mLoc 12)) (mTest (m2 gNe (mCallD 1 0 s_changed [.str "better", .int 0, .non, .int 1] [(false, 0), (false, 1), (false, 2), (false, 3)] (mCons (mLoc 2) (mNil)) (mNil)) (mLoc 13)))) (sRet (mCon (.bl false))) (sNil)) (sSeq (sIf (mAndT (mTest (mLoc 12)) (mTest (m2 gNe (mCallD 1 1 s_changed [.int 0, .non, .int 1] [(true, 0), (false, 0), (false, 1), (false, 2)] (mCons (mLoc 2) (mNil)) (mCons (mCon (.str "standard")) (mNil))) (mCall s__law_opened (mCons (mLoc 2) (mCons (mCon (.str "standard")) (mCons (mCon (.int 0)) (mCons (m2 gSub (mLoc 3) (mCon (.int 1))) (mCons (mCon (.int 1)) (mNil)))))))))) (sRet (mCon (.bl false))) (sNil)) (sSeq (sAsg (m2 gSub (mLoc 3) (mCon (.int 1))) (gNm 18)) (sSeq (sIf (mAndT (mTest (mLoc 12)) (mTest (m2 gNe (mCallD 1 1 s_changed [.str "better", .non, .int 1] [(false, 0), (true, 0), (false, 1), (false, 2)] (mCons (mLoc 2) (mNil)) (mCons (mLoc 18) (mNil))) (mCall s__law_opened (mCons (mLoc 2) (mCons (mCon (.str "better")) (mCons (mLoc 18) (mCons (mLoc 18) (mCons (mCon (.int 1)) (mNil)))))))))) (sRet (mCon (.bl false))) (sNil)) (sSeq (sIf (mAndT (mTest (mLoc 12)) (mTest (m2 gNe (mCallD 1 2 s_changed [.str "better", .int 0] [(false, 0), (false, 1), (true, 0), (true, 1)] (mCons (mLoc 2) (mNil)) (mCons (mCon (.int 0)) (mCons (mCon (.int 0)) (mNil)))) (mLoc 2)))) (sRet (mCon (.bl false))) (sNil)) (sIf (mTest (m2 gNe (mTried (mCallD 1 2 s_changed [.non, .int 1] [(true, 0), (true, 1), (false, 0), (false, 1)] (mCons (mLoc 2) (mNil)) (mCons (mCon (.str "rooms")) (mCons (m1 gNeg (mCon (.int 1))) (mNil))))) (mTup (mCons (mCon (.str "InvalidKind")) (mNil))))) (sRet (mCon (.bl false))) (sNil))))))))))))
noncomputable def b_law : Sv := sSeq (sFor (itSeq (mCall s__law_bags (mCons (mLoc 0) (mCons (mCon (.int 10)) (mNil))))) (gNm 1) b_law_turn [1, 2, 3, 4, 5, 6, 7, 8, 9, 10, 11, 12, 13, 14, 15, 16, 17, 18]) (sRet (m2 gEq (mTried (mCallD 1 1 s_changed [.int 0, .non, .int 1] [(true, 0), (false, 0), (false, 1), (false, 2)] (mCons (mTup (mNil)) (mNil)) (mCons (mCon (.str "rooms")) (mNil)))) (mTup (mCons (mCon (.str "InvalidHouse")) (mNil)))))
noncomputable def s_law : List D → AH → R D := runDef 1 19 b_law

end Rm

namespace Rm
open PySem PySem.Spec PyProof.Rows L2
/-! ### what the law speaks of -/
structure Gp where
  first : Int
  last : Int
  rooms : Int
  least : Int
  steps : List (Int × Int)
def dSt (s : Int × Int) : D := .tup [.int s.1, .int s.2]
def dGp (g : Gp) : D := .tup [.int g.first, .int g.last, .int g.rooms, .int g.least, .tup (g.steps.map dSt)]
def dGs (gs : List Gp) : D := .tup (gs.map dGp)
def dIs (xs : List Int) : D := .tup (xs.map .int)
def dHo (a b : List Int) : D := .tup [dIs a, dIs b]
def mostI (g : Gp) : Int := (g.steps.map (·.1)).sum
def HoOk (a b : List Int) : Prop := 1 ≤ a.length ∧ a.length ≤ 30 ∧ b.length = a.length ∧ (∀ x ∈ a, 0 ≤ x ∧ x ≤ 1000000000000) ∧ ∀ x ∈ b, 0 ≤ x ∧ x ≤ 1000000000000
structure GpOk (n : Int) (g : Gp) : Prop where
  first0 : 0 ≤ g.first
  last1 : g.first ≤ g.last
  last2 : g.last ≤ n - 1
  rooms1 : 1 ≤ g.rooms
  rooms2 : g.rooms ≤ 1000000000000
  few : g.steps.length ≤ 3
  step : ∀ s ∈ g.steps, 1 ≤ s.1 ∧ s.1 ≤ 1000000000000 ∧ -1000000000 ≤ s.2 ∧ s.2 ≤ 1000000000
  incr : ∀ p ∈ g.steps.zip g.steps.tail, p.1.2 < p.2.2
  most1 : mostI g ≤ g.rooms
  least0 : 0 ≤ g.least
  least1 : g.least ≤ mostI g
def GsOk (n : Int) (gs : List Gp) : Prop := gs.length ≤ 20 ∧ ∀ g ∈ gs, GpOk n g
@[simp] theorem gr_dSt (s : Int × Int) : gr (dSt s) = true := rfl
@[simp] theorem gr_dGp (g : Gp) : gr (dGp g) = true := by
  have : grs (g.steps.map dSt) = true := grs_map _ gr_dSt _
  simp [dGp, this]
@[simp] theorem gr_dGs (gs : List Gp) : gr (dGs gs) = true := grs_map _ gr_dGp _
@[simp] theorem gr_dIs (xs : List Int) : gr (dIs xs) = true := by simp [dIs]
@[simp] theorem gr_dHo (a b : List Int) : gr (dHo a b) = true := by simp [dHo]
theorem SL_small {n : Nat} (h : n ≤ 100) : n ≤ SL := by unfold SL; omega
theorem all_true {α : Type} (xs : List α) (h : AH) : bAll [.fl (xs.map fun _ => D.bl true)] h = .ok (.bl true) h := by
  have := bAll_map (h := h) (fun _ => true) xs
  rw [show (xs.all fun _ => true) = true from List.all_eq_true.mpr fun _ _ => rfl] at this
  exact this
theorem is_integer_int (i : Int) (h : AH) : s_is_integer [.int i] h = .ok (.bl true) h := run_eq rfl (by simp [b_is_integer])
theorem is_between_int (i l u : Int) (h : AH) : s_is_between [.int i, .int l, .int u] h = .ok (.bl (decide (l ≤ i) && decide (i ≤ u))) h := by
  refine run_eq rfl ?_
  simp [b_is_between, is_integer_int]
  by_cases h1 : l ≤ i <;> simp [h1]
theorem is_between_t {i l u : Int} (h1 : l ≤ i) (h2 : i ≤ u) (h : AH) : s_is_between [.int i, .int l, .int u] h = .ok (.bl true) h := by
  rw [is_between_int]; simp [h1, h2]
theorem is_row_tup (xs : List D) (n : Int) (h : AH) : s_is_row [.tup xs, .int n] h = .ok (.bl (decide ((xs.length : Int) = n))) h := run_eq rfl (by simp [b_is_row])
theorem is_house_ok {a b : List Int} (o : HoOk a b) (h : AH) : s_is_house [dHo a b] h = .ok (.bl true) h := by
  obtain ⟨o1, o2, o3, o4, o5⟩ := o
  refine run_eq rfl ?_
  have z : a.length + b.length ≤ SL := SL_small (by omega)
  have t1 : (1 : Int) ≤ (a.length : Int) := by omega
  have t2 : (a.length : Int) ≤ 30 := by omega
  have c : lcL [] (gNm 1) cYes (mCall s_is_between (mCons (mLoc 1) (mCons (mCon (.int 0)) (mCons (mCon (.int 1000000000000)) mNil)))) [some (dHo a b), none] (a.map D.int ++ b.map D.int) h = .ok ((a ++ b).map fun _ => D.bl true) h := by
    rw [← List.map_append]
    refine lcL_map D.int (fun _ => .bl true) (a ++ b) (fun x hx => ?_) fun _ _ => gNm_ok
    have : 0 ≤ x ∧ x ≤ 1000000000000 := by
      rcases List.mem_append.mp hx with hx | hx
      · exact o4 x hx
      · exact o5 x hx
    simp [is_between_t this.1 this.2]
  have c2 := all_true (a ++ b) h
  simp [b_is_house, dHo, dIs, is_row_tup, t1, t2, o3] at c c2 ⊢
  simp [show a.length + a.length ≤ SL from by omega, z, c, c2]
theorem check_house_ok {a b : List Int} (o : HoOk a b) (h : AH) : s_check_house [dHo a b] h = .ok .non h := by
  unfold s_check_house runDef
  simp [b_check_house, is_house_ok o, cut_same]
def onG (i : Nat) (g : Gp) : Bool := decide (g.first ≤ (i : Int)) && decide ((i : Int) ≤ g.last)
theorem sum_le {M : Int} : ∀ {xs : List Int}, (∀ x ∈ xs, 0 ≤ x ∧ x ≤ M) → 0 ≤ xs.sum ∧ xs.sum ≤ M * xs.length
  | [], _ => by simp
  | x :: xs, h => by
    have ih := sum_le (xs := xs) fun y hy => h y (List.mem_cons_of_mem _ hy)
    have hx := h x List.mem_cons_self
    have e : M * ((xs.length : Int) + 1) = M * (xs.length : Int) + M := by rw [Int.mul_add, Int.mul_one]
    simp only [List.sum_cons, List.length_cons, Int.natCast_succ]
    omega
theorem mul_le_len {M : Int} (hM : 0 ≤ M) {n k : Nat} (h : n ≤ k) : M * (n : Int) ≤ M * (k : Int) := Int.mul_le_mul_of_nonneg_left (by omega) hM
def upI (gs : List Gp) (xs : List Int) (i : Nat) : Int := (((gs.zip xs).filter fun q => onG i q.1).map (·.2)).sum
theorem on_test2 {gs : List Gp} {xs : List Int} {i : Nat} {h : AH} {env : En} {v u x : Nat} (hv : env.length > v) (hu : env.length > u) (hvu : v ≠ u) (hx : env[x]? = some (some (.int i))) (hvx : v ≠ x) (hux : u ≠ x) :
    lcL [] (gTp 2 (gsCons (gNm v) (gsCons (gNm u) gsNil))) (mTest (m3c gLe gLe (m2 gIx (mLoc v) (mCon (.int 0))) (mLoc x) (m2 gIx (mLoc v) (mCon (.int 1))))) (mLoc u) env ((gs.zip xs).map fun q => D.tup [dGp q.1, .int q.2]) h = .ok (((gs.zip xs).filter fun q => onG i q.1).map fun q => D.int q.2) h :=
  lcL_if (fun q : Gp × Int => D.tup [dGp q.1, .int q.2]) (fun q => D.int q.2) (fun q => onG i q.1) _ fun q _ => by
    have e1 : ((env.set v (some (dGp q.1))).set u (some (.int q.2)))[v]? = some (some (dGp q.1)) := by rw [List.getElem?_set_ne (Ne.symm hvu), List.getElem?_set_self hv]
    have e2 : ((env.set v (some (dGp q.1))).set u (some (.int q.2)))[x]? = some (some (.int i)) := by rw [List.getElem?_set_ne hux, List.getElem?_set_ne hvx]; exact hx
    have e3 : ((env.set v (some (dGp q.1))).set u (some (.int q.2)))[u]? = some (some (.int q.2)) := List.getElem?_set_self (by simpa using hu)
    refine ⟨(env.set v (some (dGp q.1))).set u (some (.int q.2)), by simp, ?_, fun _ => by simp only [mLoc_at, e3, mLoc1_ok]⟩
    generalize (env.set v (some (dGp q.1))).set u (some (.int q.2)) = env' at e1 e2 ⊢
    by_cases c : q.1.first ≤ (i : Int)
    · simp [e1, e2, dGp, c, onG]
    · simp [e1, e2, dGp, c, onG]
/-! ### the bag: where the draws come from -/
structure Bag where
  a : Int
  b : Int
  c : Int
def bagC (x : Bag) : Cell := .lst [.int x.a, .int x.b, .int x.c]
def BagOk (n : Nat) (x : Bag) : Prop := 0 ≤ x.a ∧ 0 ≤ x.b ∧ x.b < 2305843009213693951 ∧ 0 ≤ x.c ∧ x.c + n ≤ 4611686018427387904
theorem BagOk.mono {n k : Nat} {x : Bag} (o : BagOk n x) (h : k ≤ n) : BagOk k x := ⟨o.1, o.2.1, o.2.2.1, o.2.2.2.1, by have := o.2.2.2.2; omega⟩
/-- a heap: the bag at a, behind it new cells -/
def hp (h : AH) (a : Nat) (x : Bag) (t : AH) : AH := h.set a (bagC x) ++ t
section
variable {h t : AH} {a : Nat} {x y : Bag} {c d : Cell}
@[simp] theorem hp_len : (hp h a x t).length = h.length + t.length := by simp [hp]
theorem hp_bag (ha : a < h.length) : (hp h a x t)[a]? = some (.lst [.int x.a, .int x.b, .int x.c]) := by
  unfold hp
  rw [List.getElem?_append_left (by simpa using ha), List.getElem?_set_self ha]; rfl
theorem hp_setbag (ha : a < h.length) : (hp h a x t).set a (.lst [.int y.a, .int y.b, .int y.c]) = hp h a y t := by
  unfold hp
  rw [List.set_append_left _ _ (by simpa using ha), List.set_set]; rfl
@[simp] theorem hp_push : hp h a x t ++ [c] = hp h a x (t ++ [c]) := by unfold hp; rw [List.append_assoc]
theorem hp_at {i : Nat} : (hp h a x t)[h.length + i]? = t[i]? := by
  unfold hp
  rw [List.getElem?_append_right (by simp)]
  simp
@[simp] theorem hp_last : (hp h a x (t ++ [c]))[h.length + t.length]? = some c := by rw [hp_at]; simp
@[simp] theorem hp_lastG (hl : h.length + t.length < (hp h a x (t ++ [c])).length) : (hp h a x (t ++ [c]))[h.length + t.length]'hl = c := by
  have := hp_last (h := h) (a := a) (x := x) (t := t) (c := c)
  rw [List.getElem?_eq_getElem hl] at this
  exact Option.some.inj this
theorem hp_set {i : Nat} : (hp h a x t).set (h.length + i) d = hp h a x (t.set i d) := by
  unfold hp
  rw [List.set_append_right _ _ (by simp)]
  simp
@[simp] theorem hp_setlast : (hp h a x (t ++ [c])).set (h.length + t.length) d = hp h a x (t ++ [d]) := by
  rw [hp_set, List.set_append_right _ _ (Nat.le_refl _)]; simp
theorem hp_of (e : h[a]? = some (bagC x)) : h = hp h a x [] := by
  obtain ⟨hl, e2⟩ := List.getElem?_eq_some_iff.mp e
  unfold hp
  rw [← e2, List.set_getElem_self, List.append_nil]
theorem cut_hp {d : D} {t' : AH} (ha : a < h.length) (g : gr d = true) : cut (hp h a x t) d (hp h a y (t ++ t')) = .ok d (hp h a y t) := by
  have hl : (hp h a y t).length = (hp h a x t).length := by simp
  have e : hp h a y (t ++ t') = hp h a y t ++ t' := by unfold hp; rw [List.append_assoc]
  have hc : CutOk (hp h a x t) d (hp h a y (t ++ t')) := by
    refine ⟨below_gr _ _ g, fun i c hi ei => ?_⟩
    rw [e, List.getElem?_append_left (by rw [hl]; exact hi)] at ei
    rcases Nat.lt_or_ge i h.length with h1 | h1
    · by_cases hia : i = a
      · subst hia
        rw [hp_bag ha] at ei
        cases ei
        exact .inr rfl
      · unfold hp at ei ⊢
        rw [List.getElem?_append_left (by simpa using h1), List.getElem?_set_ne (Ne.symm hia)] at ei ⊢
        exact .inl ei
    · obtain ⟨j, rfl⟩ := Nat.exists_eq_add_of_le h1
      rw [hp_at] at ei ⊢
      exact .inl ei
  unfold cut
  rw [if_pos hc, e, ← hl, List.take_left]
/-- a body that draws -/
theorem run_hp {np m : Nat} {body : Sv} {ds : List D} {d : D} {t' : AH} (hl : ds.length = np) (ha : a < h.length) (g : gr d = true) (e : body (ds.map some ++ List.replicate (m - np) none) (hp h a x t) = .ok (.rt d) (hp h a y (t ++ t'))) : runDef np m body ds (hp h a x t) = .ok d (hp h a y t) := by
  unfold runDef
  rw [if_pos hl, e]
  exact cut_hp ha g
theorem run_hp0 {np m : Nat} {body : Sv} {ds : List D} {d : D} (hl : ds.length = np) (ha : a < h.length) (g : gr d = true) (e : body (ds.map some ++ List.replicate (m - np) none) (hp h a x t) = .ok (.rt d) (hp h a y t)) : runDef np m body ds (hp h a x t) = .ok d (hp h a y t) := by
  refine run_hp (t' := []) hl ha g ?_
  rw [List.append_nil]; exact e
end
/-- r draws from the bag and makes what P says -/
def Made (h : AH) (a : Nat) (t : AH) (n : Nat) (P : D → Prop) (r : R D) : Prop := ∃ d y, r = .ok d (hp h a y t) ∧ P d ∧ BagOk n y
/-- a comprehension that draws -/
theorem lcL_made {h : AH} {a : Nat} {t : AH} {g : Gv} {e : Ev} {env : En} {n k : Nat} {P : D → Prop} : ∀ (ds : List D) (x : Bag), BagOk (n + k * ds.length) x →
    (∀ d ∈ ds, ∃ e1, (∀ h', g d env h' = .ok e1 h') ∧ ∀ (x : Bag) (m : Nat), BagOk (m + k) x → Made h a t m P (e e1 (hp h a x t))) →
    ∃ ys y, lcL [] g cYes e env ds (hp h a x t) = .ok ys (hp h a y t) ∧ ys.length = ds.length ∧ (∀ d ∈ ys, P d) ∧ BagOk n y
  | [], x, o, _ => ⟨[], x, by simp, rfl, (fun _ h => nomatch h), o⟩
  | d :: ds, x, o, p => by
    obtain ⟨e1, q1, q2⟩ := p d List.mem_cons_self
    obtain ⟨z, x1, q3, q4, q5⟩ := q2 x (n + k * ds.length) (by
      have : n + k * (d :: ds).length = n + k * ds.length + k := by simp [Nat.mul_add]; omega
      rwa [this] at o)
    obtain ⟨ys, y, r1, r2, r3, r4⟩ := lcL_made ds x1 q5 fun d hd => p d (List.mem_cons_of_mem _ hd)
    refine ⟨z :: ys, y, ?_, by simp [r2], fun w hw => ?_, r4⟩
    · rw [lcL_cons, q1, nE_ok, lc1_ok, cYes_at, nE_ok, lc2_t, q3, nE_ok, lc3_ok, r1, lc4_ok]
    · rcases List.mem_cons.mp hw with e | e
      · exact e ▸ q4
      · exact r3 w e
@[simp] theorem ix30 : ixN 3 0 = some 0 := by decide
@[simp] theorem ix32 : ixN 3 2 = some 2 := by decide
theorem fit9000 {j : Int} (h0 : 1 ≤ j) (h : j ≤ 1000000000000000000000000000000000000) : 0 < j ∧ j.natAbs < 2 ^ 9000 := by
  have e : (10 : Nat) ^ 60 < 2 ^ 200 := by decide
  have e2 : (2 : Nat) ^ 200 ≤ 2 ^ 9000 := Nat.pow_le_pow_right (by decide) (by decide)
  exact ⟨by omega, Nat.lt_of_lt_of_le (by omega) e2⟩
theorem take_ok {h : AH} {a : Nat} {t : AH} {n : Nat} {x : Bag} {size : Int} (ha : a < h.length) (o : BagOk (n + 1) x) (h0 : 1 ≤ size) (h1 : size ≤ 1000000000000000000000000000000000000) :
    ∃ r y, s__law_take [.lst a, .int size] (hp h a x t) = .ok (.int r) (hp h a y t) ∧ 0 ≤ r ∧ r < size ∧ BagOk n y := by
  obtain ⟨o1, o2, o3, o4, o5⟩ := o
  have eb := hp_bag (x := x) (t := t) ha
  have i0 := gIx_l0 eb
  have i1 := gIx_l1 eb
  have i2 := gIx_l2 eb
  by_cases c : 0 < x.a
  · refine ⟨x.a % size, ⟨x.a / size, x.b, x.c⟩, run_hp0 rfl ha rfl ?_, Int.emod_nonneg _ (by omega), Int.emod_lt_of_pos _ (by omega), Int.ediv_nonneg o1 (by omega), o2, o3, o4, by simp only; omega⟩
    have es := hp_setbag (x := x) (t := t) (y := ⟨x.a / size, x.b, x.c⟩) ha
    simp only at es
    simp [b__law_take, i0, c, gMod_int (show 0 < size by omega), gDiv_int (fit9000 h0 h1), eb, es]
  · have es := hp_setbag (x := x) (t := t) (y := ⟨x.a, x.b, x.c + 1⟩) ha
    have eb2 := hp_bag (x := ⟨x.a, x.b, x.c + 1⟩) (t := t) ha
    have j1 := gIx_l1 eb2
    have j2 := gIx_l2 eb2
    simp only at es j1 j2
    have m1 : MulOk 1000003 (x.c + 1) := MulOk.of (by omega) (by omega) (by omega) (by omega)
    have p1 : 0 ≤ (2 : Int) ∧ (2 : Int) ≤ 1000000 ∧ (x.c + 1).natAbs < 2 ^ 64 := ⟨by omega, by omega, by omega⟩
    have w0 : 0 ≤ (x.b + 1000003 * (x.c + 1)) % 2305843009213693951 := Int.emod_nonneg _ (by omega)
    have w1 : (x.b + 1000003 * (x.c + 1)) % 2305843009213693951 < 2305843009213693951 := Int.emod_lt_of_pos _ (by omega)
    generalize hw : (x.b + 1000003 * (x.c + 1)) % 2305843009213693951 = w at w0 w1
    have m2 : MulOk w w := MulOk.of (by omega) (by omega) (by omega) (by omega)
    have sq : 0 ≤ (x.c + 1) ^ 2 ∧ (x.c + 1) ^ 2 ≤ 4611686018427387904 * 4611686018427387904 := by
      rw [Int.pow_succ, Int.pow_succ, Int.pow_zero, Int.one_mul]
      exact ⟨Int.mul_nonneg (by omega) (by omega), Int.mul_le_mul (by omega) (by omega) (by omega) (by omega)⟩
    have m3 : MulOk 7919 ((x.c + 1) ^ 2) := MulOk.of (by omega) (by omega) (by omega) (by omega)
    have v0 : 0 ≤ (w * w + 7919 * (x.c + 1) ^ 2 + 5) % 2305843009213693951 := Int.emod_nonneg _ (by omega)
    have v1 : (w * w + 7919 * (x.c + 1) ^ 2 + 5) % 2305843009213693951 < 2305843009213693951 := Int.emod_lt_of_pos _ (by omega)
    generalize hv : (w * w + 7919 * (x.c + 1) ^ 2 + 5) % 2305843009213693951 = v at v0 v1
    have p2 : 0 ≤ (3 : Int) ∧ (3 : Int) ≤ 1000000 ∧ v.natAbs < 2 ^ 64 := ⟨by omega, by omega, by omega⟩
    refine ⟨v ^ 3 % 2305843009213693951 / 13 % size, ⟨x.a, x.b, x.c + 1⟩, run_hp0 rfl ha rfl ?_, Int.emod_nonneg _ (by omega), Int.emod_lt_of_pos _ (by omega), o1, o2, o3, by simp only; omega, by simp only; omega⟩
    have q2 : ((2 : Int)).toNat = 2 := rfl
    have q3 : ((3 : Int)).toNat = 3 := rfl
    simp [b__law_take, i0, i2, c, eb, es, j1, j2, gMul_int m1, gMul_int m2, gMul_int m3, gPow_int p1, gPow_int p2, gMod_int, hw, hv, gMod_int (show 0 < size by omega), gDiv_int (fit9000 (j := 13) (by omega) (by omega))]
theorem many_ok {h : AH} {a : Nat} {t : AH} {n : Nat} {x : Bag} {most : Int} (ha : a < h.length) (o : BagOk (n + 2) x) (h0 : 0 ≤ most) (h1 : most ≤ 1000000000000000) :
    ∃ r y, s__law_many [.lst a, .int most] (hp h a x t) = .ok (.int r) (hp h a y t) ∧ 0 ≤ r ∧ r ≤ most ∧ BagOk n y := by
  obtain ⟨r1, x1, e1, a1, a2, o1⟩ := take_ok (t := t) ha o (size := 4) (by omega) (by omega)
  by_cases c : r1 < 2
  · obtain ⟨r2, x2, e2, b1, b2, o2⟩ := take_ok (t := t) ha o1 (size := min most 5 + 1) (by omega) (by omega)
    refine ⟨r2, x2, run_hp0 rfl ha rfl ?_, b1, by omega, o2⟩
    simp [b__law_many, e1, c, e2]
  · obtain ⟨r2, x2, e2, b1, b2, o2⟩ := take_ok (t := t) ha o1 (size := most + 1) (by omega) (by omega)
    have hr : r1 = 2 ∨ r1 = 3 := by omega
    rcases hr with rfl | rfl
    · refine ⟨most, x2, run_hp0 rfl ha rfl ?_, h0, by omega, o2⟩
      simp [b__law_many, e1, e2, SL]
    · refine ⟨r2, x2, run_hp0 rfl ha rfl ?_, b1, by omega, o2⟩
      simp [b__law_many, e1, e2, SL]
theorem pickI {xs : List Int} {r : Int} (h0 : 0 ≤ r) (h1 : r < xs.length) : ∃ v ∈ xs, ∀ h : AH, gIx (.fl (xs.map D.int)) (.int r) h = .ok (.int v) h := by
  obtain ⟨i, rfl⟩ := Int.eq_ofNat_of_zero_le h0
  have hi : i < xs.length := by omega
  exact ⟨xs[i], List.getElem_mem hi, fun h => gIx_fl (by rw [show ((i : Nat) : Int) = (i : Int) from rfl, atI_nat, List.getElem?_map, List.getElem?_eq_getElem hi]; rfl)⟩
theorem ints_of {Q : Int → Prop} : ∀ {ys : List D}, (∀ d ∈ ys, ∃ i, d = .int i ∧ Q i) → ∃ is : List Int, ys = is.map D.int ∧ ∀ i ∈ is, Q i
  | [], _ => ⟨[], rfl, fun _ h => nomatch h⟩
  | d :: ds, h => by
    obtain ⟨i, e, q⟩ := h d List.mem_cons_self
    obtain ⟨is, e2, q2⟩ := ints_of (ys := ds) fun x hx => h x (List.mem_cons_of_mem _ hx)
    exact ⟨i :: is, by rw [e, e2]; rfl, fun j hj => (List.mem_cons.mp hj).elim (fun z => z ▸ q) (q2 j)⟩
theorem forL_rel {α : Type} {g : Gv} {b : Sv} {W : List Nat} (f : α → D) (I : List α → En → AH → Prop)
    (step : ∀ x r env h, I (x :: r) env h → ∃ e2 h2, stB (g (f x) env h) b = .ok (.nx e2) h2 ∧ I r (wipeE e2 W) h2) : ∀ (xs : List α) (env : En) (h : AH), I xs env h → ∃ env' h', forL [] g b W (xs.map f) env h = .ok (.nx env') h' ∧ I [] env' h'
  | [], env, h, i => ⟨env, h, by simp, i⟩
  | x :: xs, env, h, i => by
    obtain ⟨e2, h2, q, i2⟩ := step x xs env h i
    obtain ⟨env', h', q2, i3⟩ := forL_rel f I step xs _ _ i2
    exact ⟨env', h', by rw [List.map_cons, forL_cons, q, for2_nx, q2], i3⟩
theorem sum1_nonneg : ∀ {st : List (Int × Int)}, (∀ s ∈ st, 1 ≤ s.1 ∧ s.1 ≤ 1000000000000 ∧ -1000000000 ≤ s.2 ∧ s.2 ≤ 1000000000) → 0 ≤ (st.map (·.1)).sum
  | [], _ => by simp
  | s :: st, h => by
    have h1 := h s List.mem_cons_self
    have h2 := sum1_nonneg (st := st) fun x hx => h x (List.mem_cons_of_mem _ hx)
    simp only [List.map_cons, List.sum_cons]; omega
theorem bTup_lst {h : AH} {n : Nat} {xs : List D} (e : h[n]? = some (.lst xs)) : bTup [.lst n] h = .ok (.tup xs) h := by simp [bTup, e]
theorem incr_of : ∀ {st : List (Int × Int)}, (st.map (·.2)).Pairwise (· < ·) → ∀ p ∈ st.zip st.tail, p.1.2 < p.2.2
  | [], _, p, h => by cases h
  | [s], _, p, h => by simp at h
  | s :: s2 :: r, h, p, hp => by
    have hp : p ∈ (s, s2) :: (s2 :: r).zip (s2 :: r).tail := hp
    obtain ⟨h1, h2⟩ := List.pairwise_cons.mp h
    rcases List.mem_cons.mp hp with e | e
    · rw [e]; exact h1 _ (by simp)
    · exact incr_of h2 p e
section
variable {h : AH}
@[simp] theorem pow9 : gPow (.int 10) (.int 9) h = .ok (.int 1000000000) h := gPow_int ⟨by omega, by omega, by decide⟩
@[simp] theorem pow11 : gPow (.int 10) (.int 11) h = .ok (.int 100000000000) h := gPow_int ⟨by omega, by omega, by decide⟩
@[simp] theorem pow18 : gPow (.int 10) (.int 18) h = .ok (.int 1000000000000000000) h := gPow_int ⟨by omega, by omega, by decide⟩
@[simp] theorem pow30 : gPow (.int 10) (.int 30) h = .ok (.int 1000000000000000000000000000000) h := gPow_int ⟨by omega, by omega, by decide⟩
end
theorem costs_ok {h : AH} {a : Nat} {t : AH} {n : Nat} {x : Bag} {count : Nat} (ha : a < h.length) (o : BagOk (n + count + 2) x) (h1 : count ≤ 50) :
    ∃ (cs : List Int) (y : Bag), s__law_costs [.lst a, .int count] (hp h a x t) = .ok (.fl (cs.map D.int)) (hp h a y t) ∧ cs.Pairwise (· < ·) ∧ (∀ c ∈ cs, -1000000000 ≤ c ∧ c ≤ 1000000000) ∧ cs.length ≤ count ∧ BagOk n y := by
  obtain ⟨r1, x1, e1, a1, a2, o1⟩ := take_ok (t := t) ha o (size := 3) (by omega) (by omega)
  obtain ⟨r2, x2, e2, b1, b2, o2⟩ := take_ok (t := t) ha o1 (size := 2) (by omega) (by omega)
  obtain ⟨far, hf, p1⟩ := pickI (xs := [6, 9, 1000000000]) a1 (by simpa using a2)
  have hfar : 6 ≤ far ∧ far ≤ 1000000000 := by simp at hf; omega
  obtain ⟨low, hl, p2⟩ := pickI (xs := [far, far / 3]) b1 (by simpa using b2)
  have hlow : 0 ≤ low ∧ low ≤ far := by simp at hl; omega
  have mm : MulOk 2 far := MulOk.of (by omega) (by omega) (by omega) (by omega)
  obtain ⟨ys, x3, e3, l3, q3, o3⟩ := lcL_made (h := h) (a := a) (t := t) (g := gNm 4) (e := mCall bMin (mCons (m2 gPow (mCon (.int 10)) (mCon (.int 9))) (mCons (m2 gSub (mCall s__law_take (mCons (mLoc 0) (mCons (m2 gAdd (m2 gMul (mCon (.int 2)) (mLoc 2)) (mCon (.int 1))) (mNil)))) (mLoc 3)) (mNil)))) (env := [some (.lst a), some (.int count), some (.int far), some (.int low), none]) (n := n) (k := 1) (P := fun d => ∃ i : Int, d = .int i ∧ -1000000000 ≤ i ∧ i ≤ 1000000000)
    ((List.range count).map fun k => .int (k : Nat)) x2 (by simpa [Nat.add_comm] using o2) fun d hd => ⟨_, fun _ => rfl, fun x m om => by
      obtain ⟨r, y, e, c1, c2, oy⟩ := take_ok (t := t) ha om (size := 2 * far + 1) (by omega) (by omega)
      refine ⟨.int (min 1000000000 (r - low)), y, ?_, ⟨_, rfl, by omega, by omega⟩, oy⟩
      simp [gMul_int mm, e]⟩
  obtain ⟨is, rfl, qi⟩ := ints_of q3
  simp at l3
  have hz := sdd_length_le is
  refine ⟨sdd is, x3, run_hp0 rfl ha (by simp) ?_, sdd_sorted _, fun c hc => qi c ((sdd_mem c is).mp hc), by omega, o3⟩
  have hs : gSdd (.fl (is.map D.int)) (hp h a x3 t) = .ok (.fl ((sdd is).map D.int)) (hp h a x3 t) := by
    simp [gSdd, l3]; omega
  simp only [List.map_cons, List.map_nil] at p1 p2
  simp [b__law_costs, e1, SL, p1, e2, gDiv_int (fit9000 (j := 3) (by omega) (by omega)), p2, itRange11_nat (show count < 2 ^ 62 by omega), show count ≤ 16777216 by omega]
  simp [e3, hs]
theorem group_ok {h : AH} {a : Nat} {t : AH} {n : Nat} {x : Bag} {nights size : Int} (ha : a < h.length) (o : BagOk (n + 20) x) (h0 : 1 ≤ nights) (h1 : nights ≤ 30) (h2 : 1 ≤ size) (h3 : size ≤ 1000000000000) :
    ∃ (g : Gp) (y : Bag), s__law_group [.lst a, .int nights, .int size] (hp h a x t) = .ok (dGp g) (hp h a y t) ∧ GpOk nights g ∧ g.rooms ≤ size ∧ BagOk n y := by
  obtain ⟨bg, x1, e1, a1, a2, o1⟩ := take_ok (t := t) ha o (size := nights) (by omega) (by omega)
  obtain ⟨en, x2, e2, b1, b2, o2⟩ := take_ok (t := t) ha o1 (size := nights - bg) (by omega) (by omega)
  obtain ⟨rm, x3, e3, c1, c2, o3⟩ := many_ok (t := t) ha o2 (most := size - 1) (by omega) (by omega)
  obtain ⟨ct, x4, e4, d1, d2, o4⟩ := take_ok (t := t ++ [.lst []]) ha o3 (size := 4) (by omega) (by omega)
  obtain ⟨ctn, rfl⟩ := Int.eq_ofNat_of_zero_le d1
  obtain ⟨cs, x5, e5, f1, f2, f3, o5⟩ := costs_ok (t := t ++ [.lst []]) (n := n + 9) (count := ctn) ha (o4.mono (by omega)) (by omega)
  obtain ⟨env', h', e6, st, left, x6, i1, i2, i3, i4, i5, i6, i7, i8⟩ := forL_rel (g := gNm 8) (b := sIf (mTest (m2 gGt (mLoc 7) (mCon (.int 0)))) (sSeq (sAsg (m2 gAdd (mCon (.int 1)) (mCall s__law_many (mCons (mLoc 0) (mCons (m2 gSub (mLoc 7) (mCon (.int 1))) (mNil))))) (gNm 9)) (sSeq (sExp (mApp (mLoc 6) (mTup (mCons (mLoc 9) (mCons (mLoc 8) (mNil)))))) (sAsg (m2 gSub (mLoc 7) (mLoc 9)) (gNm 7)))) (sNil)) (W := [8, 9]) D.int
    (fun r env hh => ∃ (st : List (Int × Int)) (left : Int) (y : Bag), env = [some (.lst a), some (.int nights), some (.int size), some (.int bg), some (.int (bg + en)), some (.int (1 + rm)), some (.lst (h.length + t.length)), some (.int left), none, none, none] ∧ hh = hp h a y (t ++ [.lst (st.map dSt)]) ∧
      BagOk (n + 3 + 2 * r.length) y ∧ (st.map (·.1)).sum = 1 + rm - left ∧ 0 ≤ left ∧ (∀ s ∈ st, 1 ≤ s.1 ∧ s.1 ≤ 1000000000000 ∧ -1000000000 ≤ s.2 ∧ s.2 ≤ 1000000000) ∧ ((st.map (·.2)) ++ r).Pairwise (· < ·) ∧ st.length + r.length ≤ 3 ∧ ∀ c ∈ r, -1000000000 ≤ c ∧ c ≤ 1000000000)
    (by
      intro c r env hh hi
      obtain ⟨st, left, y, i1, i2, i3, i4, i5, i6, i7, i8, i9⟩ := hi
      subst i1 i2
      have hc := i9 c List.mem_cons_self
      have hs0 := sum1_nonneg i6
      by_cases hl : 0 < left
      · obtain ⟨k, y2, ek, k1, k2, ok⟩ := many_ok (t := t ++ [.lst (st.map dSt)]) (n := n + 3 + 2 * r.length) ha (i3.mono (by simp; omega)) (most := left - 1) (by omega) (by omega)
        have l : st.length < SL := by unfold SL; simp at i8; omega
        refine ⟨[some (.lst a), some (.int nights), some (.int size), some (.int bg), some (.int (bg + en)), some (.int (1 + rm)), some (.lst (h.length + t.length)), some (.int (left - (1 + k))), some (.int c), some (.int (1 + k)), none], hp h a y2 (t ++ [.lst ((st ++ [(1 + k, c)]).map dSt)]), ?_, st ++ [(1 + k, c)], left - (1 + k), y2, by simp, rfl, ok, by simp; omega, by omega, fun s hs => ?_, by simpa using i7, by simp at i8 ⊢; omega, fun d hd => i9 d (List.mem_cons_of_mem _ hd)⟩
        · simp [hl, ek, SL, show st.length < 16777216 from l, dSt]
        · rcases List.mem_append.mp hs with hs | hs
          · exact i6 s hs
          · rw [List.mem_singleton.mp hs]
            exact ⟨by simp only; omega, by simp only; omega, hc.1, hc.2⟩
      · refine ⟨[some (.lst a), some (.int nights), some (.int size), some (.int bg), some (.int (bg + en)), some (.int (1 + rm)), some (.lst (h.length + t.length)), some (.int left), some (.int c), none, none], hp h a y (t ++ [.lst (st.map dSt)]), ?_, st, left, y, by simp, rfl, i3.mono (by simp; omega), i4, i5, i6, ?_, by simp at i8; omega, fun d hd => i9 d (List.mem_cons_of_mem _ hd)⟩
        · simp [hl]
        · exact i7.sublist (List.Sublist.append_left (List.sublist_cons_self _ _) _))
    cs _ _ ⟨[], 1 + rm, x5, rfl, rfl, o5.mono (by omega), by simp, by omega, (fun _ h => nomatch h), by simpa using f1, by simp; omega, f2⟩
  subst i1 i2
  have hs0 := sum1_nonneg i6
  obtain ⟨ls, x7, e7, g1, g2, o7⟩ := many_ok (t := t ++ [.lst (st.map dSt)]) (n := n + 1) ha (i3.mono (by simp)) (most := 1 + rm - left) (by omega) (by omega)
  obtain ⟨r8, x8, e8, j1, j2, o8⟩ := take_ok (t := t ++ [.lst (st.map dSt)]) ha o7 (size := 3) (by omega) (by omega)
  obtain ⟨least, hl, p8⟩ := pickI (xs := [0, 0, ls]) j1 (by simpa using j2)
  have hleast : 0 ≤ least ∧ least ≤ 1 + rm - left := by simp at hl; omega
  refine ⟨⟨bg, bg + en, 1 + rm, least, st⟩, x8, run_hp (t' := [.lst (st.map dSt)]) rfl ha (by simp) ?_, ⟨a1, by simp only; omega, by simp only; omega, by simp only; omega, by simp only; omega, by simpa using i8, i6, incr_of (by simpa using i7), by simp only [mostI]; omega, hleast.1, by simp only [mostI]; omega⟩, by simp only; omega, o8⟩
  simp only [List.map_cons, List.map_nil] at p8
  have bt := bTup_lst (h := hp h a x8 (t ++ [.lst (st.map dSt)])) (n := h.length + t.length) hp_last
  simp [b__law_group, e1, e2, e3, SL, e4, e5]
  simp at e6
  simp [e6, e7, e8, p8, bt, dGp, SL]
theorem lmost_ok (g : Gp) (hl : g.steps.length ≤ 3) (h : AH) : s__law_most [dGp g] h = .ok (.int (mostI g)) h := by
  refine run_eq rfl ?_
  have c : lcL [] (gTp 2 (gsCons (gNm 1) (gsCons (gNm 2) gsNil))) cYes (mLoc 1) [some (dGp g), none, none] (g.steps.map dSt) h = .ok (g.steps.map fun s => D.int s.1) h :=
    lcL_map dSt (fun s => .int s.1) g.steps (fun x hx => by simp [dSt]) fun x _ => by simp [dSt]
  have z : g.steps.length ≤ SL := SL_small (by omega)
  simp [b__law_most, dGp]
  simp only [dGp] at c
  simp [z, c, bSum_map, mostI]
theorem on_ok {gs : List Gp} {xs : List Int} {i : Nat} {h : AH} {d : D} (hd : rdS h d = some (xs.map D.int)) (hw : wOf h d = []) (hg : gs.length ≤ 20) : s__law_on [dGs gs, d, .int i] h = .ok (.int (upI gs xs i)) h := by
  refine run_eq rfl ?_
  have z : (gs.zip xs).length ≤ SL := SL_small (by simp; omega)
  have e5 : lcL [] (gTp 2 (gsCons (gNm 3) (gsCons (gNm 4) gsNil))) (mTest (m3c gLe gLe (m2 gIx (mLoc 3) (mCon (.int 0))) (mLoc 2) (m2 gIx (mLoc 3) (mCon (.int 1))))) (mLoc 4) [some (dGs gs), some d, some (.int i), none, none] ((gs.zip xs).map fun q => D.tup [dGp q.1, .int q.2]) h = .ok (((gs.zip xs).filter fun p => onG i p.1).map fun q => D.int q.2) h :=
    on_test2 (by simp) (by simp) (by decide) rfl (by decide) (by decide)
  have e6 := zip_map2 dGp D.int gs xs
  have e10 : bSum [.fl (((gs.zip xs).filter fun p => onG i p.1).map fun q => D.int q.2)] h = .ok (.int (upI gs xs i)) h := bSum_map _ _
  simp only [dGs] at e5
  simp [b__law_on, dGs, hd, hw]
  simp only [e6]
  simp at z
  simp only [if_pos z, e5, mLcF2_ok, mCons1_ok, mNil_at, mCons2_ok, mCall1_ok, e10, sRet1_ok]
theorem rooms_comp {gs : List Gp} {v : Nat} {env : En} {h : AH} (hv : v < env.length) : lcL [] (gNm v) cYes (m2 gIx (mLoc v) (mCon (.int 2))) env (gs.map dGp) h = .ok ((gs.map (·.rooms)).map D.int) h := by
  have := lcL_map (g := gNm v) (e := m2 gIx (mLoc v) (mCon (.int 2))) (env := env) (h := h) dGp (fun g => D.int g.rooms) gs (fun g _ => by
    have e1 : (env.set v (some (dGp g)))[v]? = some (some (dGp g)) := List.getElem?_set_self hv
    generalize env.set v (some (dGp g)) = env' at e1
    have : stE (gNm v (dGp g) env h) (m2 gIx (mLoc v) (mCon (.int 2))) = m2 gIx (mLoc v) (mCon (.int 2)) (env.set v (some (dGp g))) h := rfl
    rw [this]
    have e1 : (env.set v (some (dGp g)))[v]? = some (some (dGp g)) := List.getElem?_set_self hv
    simp only [m2_at, mLoc_at, e1, mLoc1_ok, m2a_ok, mCon_at, m2b_ok]
    simp [dGp]) fun _ _ => gNm_ok
  rw [this, List.map_map]; rfl
theorem up_le2 {gs : List Gp} {xs : List Int} {M : Int} (hM : 0 ≤ M) (hx : ∀ x ∈ xs, 0 ≤ x ∧ x ≤ M) (i : Nat) : 0 ≤ upI gs xs i ∧ upI gs xs i ≤ M * gs.length := by
  have h := sum_le (M := M) (xs := ((gs.zip xs).filter fun q => onG i q.1).map (·.2)) fun x hx' => by
    obtain ⟨q, hq, e⟩ := List.mem_map.mp hx'
    have := hx _ (List.of_mem_zip (List.mem_filter.mp hq).1).2
    rw [← e]; exact this
  have l : (((gs.zip xs).filter fun q => onG i q.1).map (·.2)).length ≤ gs.length := by
    rw [List.length_map]
    refine Nat.le_trans (List.length_filter_le _ _) ?_
    simp; omega
  have := mul_le_len hM l
  unfold upI
  omega
theorem hp_2a {h t : AH} {a : Nat} {x : Bag} {c d : Cell} : (hp h a x (t ++ [c, d]))[h.length + t.length]? = some c := by rw [hp_at]; simp
theorem hp_2b {h t : AH} {a : Nat} {x : Bag} {c d : Cell} : (hp h a x (t ++ [c, d]))[h.length + (t.length + 1)]? = some d := by rw [hp_at]; simp
theorem hp_2sa {h t : AH} {a : Nat} {x : Bag} {c d e : Cell} : (hp h a x (t ++ [c, d])).set (h.length + t.length) e = hp h a x (t ++ [e, d]) := by rw [hp_set, List.set_append_right _ _ (Nat.le_refl _)]; simp
theorem hp_2sb {h t : AH} {a : Nat} {x : Bag} {c d e : Cell} : (hp h a x (t ++ [c, d])).set (h.length + (t.length + 1)) e = hp h a x (t ++ [c, e]) := by rw [hp_set, List.set_append_right _ _ (by omega)]; simp
/-- one row of one night -/
theorem row_ok {h : AH} {a : Nat} {t : AH} {n : Nat} {x : Bag} {short cnt : Int} {env : En} {r : Nat} (ha : a < h.length) (o : BagOk (n + 4) x) (hs : short = 0 ∨ short = 1) (hc : -100000000000000 ≤ cnt ∧ cnt ≤ 100000000000000)
    (hv : ∃ e0 e1 e2 e3 e4 e5 e6 e7, env = [some (.lst a), e0, e1, e2, e3, some (.int short), e4, e5, e6, e7, none, none, none, none]) :
    ∃ (v : Int) (y : Bag) (env2 : En), 0 ≤ v ∧ v ≤ max 0 (cnt + 999) ∧ BagOk n y ∧ wipeE env2 [10, 11, 12, 13] = env ∧
      ∀ (xs : List Int) (T T' : AH), T = t → (hp h a y T)[r]? = some (.lst (xs.map D.int)) → (∀ z, (hp h a z T)[r]? = some (.lst (xs.map D.int))) → xs.length ≤ 100 → (hp h a y T).set r (.lst ((xs ++ [v]).map D.int)) = hp h a y T' →
      stB (gTp 2 (gsCons (gNm 10) (gsCons (gNm 11) gsNil)) (.tup [.lst r, .int cnt]) env (hp h a x T)) (sSeq (sAsg (m2 gIx (mLf (mCons (mCon (.int 0)) (mCons (mCon (.int 0)) (mCons (mCall s__law_take (mCons (mLoc 0) (mCons (mCon (.int 3)) (mNil)))) (mCons (mCall s__law_take (mCons (mLoc 0) (mCons (mCon (.int 1000)) (mNil)))) (mNil)))))) (mCall s__law_take (mCons (mLoc 0) (mCons (mCon (.int 4)) (mNil))))) (gNm 12)) (sSeq (sAsg (m2 gMul (mLoc 5) (mCall bInt (mCons (m2 gEq (mCall s__law_take (mCons (mLoc 0) (mCons (mCon (.int 3)) (mNil)))) (mCon (.int 0))) (mNil)))) (gNm 13)) (sExp (mApp (mLoc 10) (mCall bMax (mCons (mCon (.int 0)) (mCons (m2 gSub (m2 gAdd (mLoc 11) (mLoc 12)) (mLoc 13)) (mNil)))))))) = .ok (.nx env2) (hp h a y T') := by
  obtain ⟨f0, f1, f2, f3, f4, f5, f6, f7, rfl⟩ := hv
  obtain ⟨r1, x1, e1, a1, a2, o1⟩ := take_ok (t := t) ha o (size := 3) (by omega) (by omega)
  obtain ⟨r2, x2, e2, b1, b2, o2⟩ := take_ok (t := t) ha o1 (size := 1000) (by omega) (by omega)
  obtain ⟨r3, x3, e3, c1, c2, o3⟩ := take_ok (t := t) ha o2 (size := 4) (by omega) (by omega)
  obtain ⟨r4, x4, e4, d1, d2, o4⟩ := take_ok (t := t) ha o3 (size := 3) (by omega) (by omega)
  obtain ⟨sp, hsp, p⟩ := pickI (xs := [0, 0, r1, r2]) c1 (by simpa using c2)
  have hsp2 : 0 ≤ sp ∧ sp ≤ 999 := by simp at hsp; omega
  have mm : MulOk short (if r4 = 0 then 1 else 0) := MulOk.of (by omega) (by omega) (by split <;> omega) (by split <;> omega)
  have hle : 0 ≤ short * (if r4 = 0 then 1 else 0) ∧ short * (if r4 = 0 then 1 else 0) ≤ 1 := by
    rcases hs with rfl | rfl <;> split <;> simp
  refine ⟨max 0 (cnt + sp - short * (if r4 = 0 then 1 else 0)), x4, [some (.lst a), f0, f1, f2, f3, some (.int short), f4, f5, f6, f7, some (.lst r), some (.int cnt), some (.int sp), some (.int (short * (if r4 = 0 then 1 else 0)))], by omega, by omega, o4, by simp, ?_⟩
  intro xs T T' hT hr hrz hx hset
  subst hT
  have hr3 := hrz x3
  have hr4 := hrz x4
  have l : xs.length < SL := by unfold SL; omega
  simp only [List.map_cons, List.map_nil] at p
  have bi : ∀ H : AH, bInt [.bl (decide (r4 = 0))] H = .ok (.int (if r4 = 0 then 1 else 0)) H := fun H => by simp
  simp only [List.map_append, List.map_cons, List.map_nil] at hset
  simp only [gTp_at, gsCons_at, gNm_at, gsCons1_ok, gsNil_at, List.length_cons, List.length_nil, stB_ok, if_true, sSeq_at, sAsg_at, m2_at, mLf_at, mCons_at, mCon_at, mCons1_ok, mCall_at, mLoc_at, List.set_cons_zero, List.set_cons_succ, List.getElem?_cons_zero, List.getElem?_cons_succ, mLoc1_ok, mNil_at, mCons2_ok, mCall1_ok, e1, e2, mLf1_ok, m2a_ok]
  simp [SL, e3, p, e4, gMul_int mm, hr4, show xs.length < 16777216 from l, hset]
theorem house_for_ok {h : AH} {a : Nat} {t : AH} {n nn : Nat} {x : Bag} {gs : List Gp} {xs : List Int} {R : Int} (ha : a < h.length) (hn : nn ≤ 30) (o : BagOk (n + 8 * nn + 1) x) (og : gs.length ≤ 20) (hR : 0 ≤ R) (hR2 : R * gs.length + 1000 ≤ 1000000000000)
    (h1 : ∀ g ∈ gs, 0 ≤ g.rooms ∧ g.rooms ≤ R) (h2 : ∀ x ∈ xs, 0 ≤ x ∧ x ≤ R) :
    ∃ (u v : List Int) (y : Bag), s__law_house_for [.lst a, dGs gs, dIs xs, .int nn] (hp h a x t) = .ok (dHo u v) (hp h a y t) ∧ u.length = nn ∧ v.length = nn ∧ (∀ c ∈ u, 0 ≤ c ∧ c ≤ 1000000000000) ∧ (∀ c ∈ v, 0 ≤ c ∧ c ≤ 1000000000000) ∧ BagOk n y := by
  obtain ⟨r1, x1, e1, a1, a2, o1⟩ := take_ok (t := t ++ [.lst [], .lst []]) ha o (size := 5) (by omega) (by omega)
  have hsh : (if r1 = 0 then (1 : Int) else 0) = 0 ∨ (if r1 = 0 then (1 : Int) else 0) = 1 := by split <;> simp
  generalize hsv : (if r1 = 0 then (1 : Int) else 0) = short at hsh
  have z : gs.length ≤ SL := SL_small (by omega)
  obtain ⟨env', h', e6, u, v, x6, i1, i2, i3, i4, i5, i6, i7⟩ := forL_rel (g := gNm 6) (b := sSeq (sAsg (mCall s__law_on (mCons (mLoc 1) (mCons (mLoc 2) (mCons (mLoc 6) (mNil))))) (gNm 7)) (sSeq (sAsg (mCall s__law_on (mCons (mLoc 1) (mCons (mLcF (itSeq (mLoc 1)) (gNm 9) (cYes) (m2 gIx (mLoc 9) (mCon (.int 2))) [9]) (mCons (mLoc 6) (mNil))))) (gNm 8)) (sFor (itZip2 (mCons (mLoc 4) (mCons (mLf (mCons (m2 gSub (mLoc 8) (mLoc 7)) (mCons (mLoc 7) (mNil)))) (mNil)))) (gTp 2 (gsCons (gNm 10) (gsCons (gNm 11) (gsNil)))) (sSeq (sAsg (m2 gIx (mLf (mCons (mCon (.int 0)) (mCons (mCon (.int 0)) (mCons (mCall s__law_take (mCons (mLoc 0) (mCons (mCon (.int 3)) (mNil)))) (mCons (mCall s__law_take (mCons (mLoc 0) (mCons (mCon (.int 1000)) (mNil)))) (mNil)))))) (mCall s__law_take (mCons (mLoc 0) (mCons (mCon (.int 4)) (mNil))))) (gNm 12)) (sSeq (sAsg (m2 gMul (mLoc 5) (mCall bInt (mCons (m2 gEq (mCall s__law_take (mCons (mLoc 0) (mCons (mCon (.int 3)) (mNil)))) (mCon (.int 0))) (mNil)))) (gNm 13)) (sExp (mApp (mLoc 10) (mCall bMax (mCons (mCon (.int 0)) (mCons (m2 gSub (m2 gAdd (mLoc 11) (mLoc 12)) (mLoc 13)) (mNil)))))))) [10, 11, 12, 13]))) (W := [6, 7, 8, 10, 11, 12, 13]) (fun k : Nat => D.int k)
    (fun r env hh => ∃ (u v : List Int) (y : Bag), env = [some (.lst a), some (dGs gs), some (dIs xs), some (.int nn), some (.fl [.lst (h.length + t.length), .lst (h.length + (t.length + 1))]), some (.int short), none, none, none, none, none, none, none, none] ∧ hh = hp h a y (t ++ [.lst (u.map D.int), .lst (v.map D.int)]) ∧
      BagOk (n + 8 * r.length) y ∧ u.length + r.length = nn ∧ v.length + r.length = nn ∧ (∀ c ∈ u, 0 ≤ c ∧ c ≤ 1000000000000) ∧ (∀ c ∈ v, 0 ≤ c ∧ c ≤ 1000000000000))
    (by
      intro k r env hh hi
      obtain ⟨u, v, y, i1, i2, i3, i4, i5, i6, i7⟩ := hi
      subst i1 i2
      have up := up_le2 (gs := gs) hR h2 k
      have st := up_le2 (gs := gs) (xs := gs.map (·.rooms)) hR (fun x hx => by
        obtain ⟨g, hg, e⟩ := List.mem_map.mp hx
        rw [← e]; exact h1 g hg) k
      have on1 := fun H : AH => on_ok (gs := gs) (xs := xs) (i := k) (h := H) (d := dIs xs) rfl rfl og
      have on2 := fun H : AH => on_ok (gs := gs) (xs := gs.map (·.rooms)) (i := k) (h := H) (d := .fl ((gs.map (·.rooms)).map D.int)) rfl rfl og
      generalize upI gs xs k = U at up on1
      generalize upI gs (gs.map (·.rooms)) k = S at st on2
      simp only [List.length_cons] at i3 i4 i5
      obtain ⟨w1, y1, v1, b1, b2, b3, b4, row1⟩ := row_ok (t := t ++ [.lst (u.map D.int), .lst (v.map D.int)]) (n := n + 8 * r.length + 4) (x := y) (short := short) (cnt := S - U) (env := [some (.lst a), some (dGs gs), some (dIs xs), some (.int nn), some (.fl [.lst (h.length + t.length), .lst (h.length + (t.length + 1))]), some (.int short), some (.int k), some (.int U), some (.int S), none, none, none, none, none]) (r := h.length + t.length) ha (i3.mono (by omega)) hsh (by omega) ⟨_, _, _, _, _, _, _, _, rfl⟩
      have row1 := row1 u (t ++ [.lst (u.map D.int), .lst (v.map D.int)]) (t ++ [.lst ((u ++ [w1]).map D.int), .lst (v.map D.int)]) rfl hp_2a (fun z => hp_2a) (by omega) hp_2sa
      obtain ⟨w2, y2, v2, c1, c2, c3, c4, row2⟩ := row_ok (t := t ++ [.lst ((u ++ [w1]).map D.int), .lst (v.map D.int)]) (n := n + 8 * r.length) (x := y1) (short := short) (cnt := U) (env := [some (.lst a), some (dGs gs), some (dIs xs), some (.int nn), some (.fl [.lst (h.length + t.length), .lst (h.length + (t.length + 1))]), some (.int short), some (.int k), some (.int U), some (.int S), none, none, none, none, none]) (r := h.length + (t.length + 1)) ha b3 hsh (by omega) ⟨_, _, _, _, _, _, _, _, rfl⟩
      have row2 := row2 v (t ++ [.lst ((u ++ [w1]).map D.int), .lst (v.map D.int)]) (t ++ [.lst ((u ++ [w1]).map D.int), .lst ((v ++ [w2]).map D.int)]) rfl hp_2b (fun z => hp_2b) (by omega) hp_2sb
      refine ⟨[some (.lst a), some (dGs gs), some (dIs xs), some (.int nn), some (.fl [.lst (h.length + t.length), .lst (h.length + (t.length + 1))]), some (.int short), some (.int k), some (.int U), some (.int S), none, none, none, none, none], hp h a y2 (t ++ [.lst ((u ++ [w1]).map D.int), .lst ((v ++ [w2]).map D.int)]), ?_, u ++ [w1], v ++ [w2], y2, ?_, rfl, c3, by simp; omega, by simp; omega, fun c hc => ?_, fun c hc => ?_⟩
      · have rc := fun H : AH => rooms_comp (gs := gs) (v := 9) (env := [some (.lst a), some (dGs gs), some (dIs xs), some (.int nn), some (.fl [.lst (h.length + t.length), .lst (h.length + (t.length + 1))]), some (.int short), some (.int k), some (.int U), none, none, none, none, none, none]) (h := H) (by simp)
        simp only [dGs] at on1 on2 rc row1 row2 b4 c4 ⊢
        simp only [stB_ok, gNm_at, List.set_cons_zero, List.set_cons_succ, sSeq_at, sAsg_at, mCall_at, mCons_at, mLoc_at, List.getElem?_cons_zero, List.getElem?_cons_succ, mLoc1_ok, mCons1_ok, mNil_at, mCons2_ok, mCall1_ok, on1, sAsg1_ok, sAsg2_ok, sSeq1_nx, mLcF_at, itSeq_at, itSeq1_ok, rdS_tupE, itSeq2_ok, wOf_tup, mLcF1_ok, List.length_map, if_pos z, wipeE_cons, wipeE_nil, rc, mLcF2_ok, on2]
        simp only [sFor_at, itZip2_at, mCons_at, mLoc_at, List.getElem?_cons_zero, List.getElem?_cons_succ, mLoc1_ok, mCons1_ok, mLf_at, m2_at, m2a_ok, m2b_ok, gSub_int, mNil_at, mCons2_ok, mLf1_ok, List.length_cons, List.length_nil, show 0 + 1 + 1 ≤ SL by decide, if_true, itZip21_ok, rdS_fl, itZip22_ok, wOf_fl, List.append_nil, List.zip_cons_cons, List.zip_nil_right, List.map_cons, List.map_nil, sFor1_ok, wipeE_cons, wipeE_nil, List.set_cons_zero, List.set_cons_succ, forL_cons, row1, for2_nx, b4, row2, c4, forL_nil]
      · simp
      · rcases List.mem_append.mp hc with hc | hc
        · exact i6 c hc
        · rw [List.mem_singleton.mp hc]; omega
      · rcases List.mem_append.mp hc with hc | hc
        · exact i7 c hc
        · rw [List.mem_singleton.mp hc]; omega)
    (List.range nn) _ _ ⟨[], [], x1, rfl, rfl, by simpa using o1, by simp, by simp, (fun _ h => nomatch h), (fun _ h => nomatch h)⟩
  subst i1 i2
  simp only [List.length_nil, Nat.add_zero] at i4 i5
  refine ⟨u, v, x6, run_hp (t' := [.lst (u.map D.int), .lst (v.map D.int)]) rfl ha (by simp) ?_, i4, i5, i6, i7, by simpa using i3⟩
  have g0 := bTup_lst (hp_2a (h := h) (t := t) (a := a) (x := x6) (c := .lst (u.map D.int)) (d := .lst (v.map D.int)))
  have g1 := bTup_lst (hp_2b (h := h) (t := t) (a := a) (x := x6) (c := .lst (u.map D.int)) (d := .lst (v.map D.int)))
  have bi : ∀ H : AH, bInt [.bl (decide (r1 = 0))] H = .ok (.int short) H := fun H => by simp [hsv]
  have ra : itRange11 (.ok [.int (nn : Int)] (hp h a x1 (t ++ [.lst [], .lst []]))) = .ok ⟨(List.range nn).map fun (k : Nat) => .int k, []⟩ _ := itRange11_nat (by omega)
  simp only [List.map_nil] at e6
  simp only [b__law_house_for, List.map_cons, List.map_nil, List.length_cons, List.length_nil, sSeq_at, sAsg_at, mLf_at, mCons_at, mLm_at, mNil_at, mLm1_ok, hp_len, hp_push, List.length_append, show 0 ≤ SL by decide, if_true, mCons1_ok, mCons2_ok, mLf1_ok, show 0 + 1 + 1 ≤ SL by decide, sAsg1_ok, gNm_at, sAsg2_ok, sSeq1_nx]
  simp only [List.append_assoc, List.cons_append, List.nil_append, List.replicate, List.set_cons_zero, List.set_cons_succ, sSeq_at, sAsg_at, mCall_at, mCons_at, m2_at, mLoc_at, List.getElem?_cons_zero, List.getElem?_cons_succ, mLoc1_ok, mCon_at, mCons1_ok, mCons2_ok, mNil_at, mCall1_ok, Nat.zero_add, e1, m2a_ok, m2b_ok, gEq_int, bi, sAsg1_ok, gNm_at, sAsg2_ok, sSeq1_nx, sFor_at, itRange1_at, ra, sFor1_ok, wipeE_cons, wipeE_nil]
  simp [e6, g0, g1, SL]
  simp [dHo, dIs]
theorem maps_of {α : Type} {f : α → D} {Q : α → Prop} : ∀ {ys : List D}, (∀ d ∈ ys, ∃ i, d = f i ∧ Q i) → ∃ is : List α, ys = is.map f ∧ ∀ i ∈ is, Q i
  | [], _ => ⟨[], rfl, fun _ h => nomatch h⟩
  | d :: ds, h => by
    obtain ⟨i, e, q⟩ := h d List.mem_cons_self
    obtain ⟨is, e2, q2⟩ := maps_of (ys := ds) fun x hx => h x (List.mem_cons_of_mem _ hx)
    exact ⟨i :: is, by rw [e, e2]; rfl, fun j hj => (List.mem_cons.mp hj).elim (fun z => z ▸ q) (q2 j)⟩
theorem made_ok {h : AH} {a : Nat} {t : AH} {n nn cn : Nat} {x : Bag} {R : Int} (ha : a < h.length) (hn : 1 ≤ nn) (hn2 : nn ≤ 30) (hc : cn ≤ 20) (o : BagOk (n + 8 * nn + 1 + 2 * cn + 20 * cn) x) (h1 : 1 ≤ R) (hR2 : R * cn + 1000 ≤ 1000000000000) (h3 : R ≤ 1000000000000) :
    ∃ (u v : List Int) (gs : List Gp) (xs : List Int) (y : Bag), s__law_made [.lst a, .int nn, .int cn, .int R] (hp h a x t) = .ok (.tup [dHo u v, dGs gs, dIs xs]) (hp h a y t) ∧ HoOk u v ∧ u.length = nn ∧ (GsOk nn gs ∧ ∀ g ∈ gs, g.rooms ≤ R) ∧ gs.length = cn ∧ xs.length = cn ∧ BagOk n y := by
  obtain ⟨ys, x1, e1, l1, q1, o1⟩ := lcL_made (h := h) (a := a) (t := t) (g := gNm 5) (e := mCall s__law_group (mCons (mLoc 0) (mCons (mLoc 1) (mCons (mLoc 3) (mNil))))) (env := [some (.lst a), some (.int nn), some (.int cn), some (.int R), none, none, none, none]) (n := n + 8 * nn + 1 + 2 * cn) (k := 20) (P := fun d => ∃ g : Gp, d = dGp g ∧ GpOk nn g ∧ g.rooms ≤ R)
    ((List.range cn).map fun (k : Nat) => .int k) x (by simpa using o) fun d hd => ⟨_, fun _ => rfl, fun x m om => by
      obtain ⟨g, y, e, c1, c2, oy⟩ := group_ok (t := t) ha om (nights := nn) (size := R) (by omega) (by omega) h1 h3
      exact ⟨dGp g, y, by simp [e], ⟨g, rfl, c1, c2⟩, oy⟩⟩
  obtain ⟨gs, rfl, qg⟩ := maps_of q1
  have lg : gs.length = cn := by simpa using l1
  obtain ⟨ys, x2, e2, l2, q2, o2⟩ := lcL_made (h := h) (a := a) (t := t) (g := gNm 7) (e := m2 gAdd (m2 gIx (mLoc 7) (mCon (.int 3))) (mCall s__law_many (mCons (mLoc 0) (mCons (m2 gSub (mCall s__law_most (mCons (mLoc 7) (mNil))) (m2 gIx (mLoc 7) (mCon (.int 3)))) (mNil))))) (env := [some (.lst a), some (.int nn), some (.int cn), some (.int R), some (dGs gs), none, none, none]) (n := n + 8 * nn + 1) (k := 2) (P := fun d => ∃ i : Int, d = .int i ∧ 0 ≤ i ∧ i ≤ R)
    (gs.map dGp) x1 (by simpa [lg] using o1) fun d hd => by
      obtain ⟨g, hg, rfl⟩ := List.mem_map.mp hd
      obtain ⟨og, hr⟩ := qg g hg
      have h0 := og.least0
      have h1 := og.least1
      have h2 := og.most1
      have h4 := og.rooms2
      refine ⟨_, fun _ => rfl, fun x m om => ?_⟩
      obtain ⟨r, y, e, c1, c2, oy⟩ := many_ok (t := t) ha om (most := mostI g - g.least) (by omega) (by omega)
      have mo := lmost_ok g og.few (hp h a x t)
      simp only [dGp] at mo
      exact ⟨.int (g.least + r), y, by simp [dGp, mo, e], ⟨_, rfl, by omega, by omega⟩, oy⟩
  obtain ⟨xs, rfl, qx⟩ := maps_of q2
  have lx : xs.length = cn := by simp at l2; omega
  have z : cn ≤ SL := SL_small (by omega)
  obtain ⟨u, v, x3, e3, lu, lv, qu, qv, o3⟩ := house_for_ok (t := t) (gs := gs) (xs := xs) (R := R) (n := n) (nn := nn) ha hn2 o2 (by omega) (by omega) (by rw [lg]; exact hR2) (fun g hg => ⟨by have := (qg g hg).1.rooms1; omega, (qg g hg).2⟩) qx
  refine ⟨u, v, gs, xs, x3, run_hp0 rfl ha (by simp) ?_, ⟨by omega, by omega, by omega, qu, qv⟩, lu, ⟨⟨by omega, fun g hg => (qg g hg).1⟩, fun g hg => (qg g hg).2⟩, lg, lx, o3⟩
  have ra : itRange11 (.ok [.int (cn : Int)] (hp h a x t)) = .ok ⟨(List.range cn).map fun (k : Nat) => .int k, []⟩ _ := itRange11_nat (by omega)
  simp [b__law_made, ra, z, e1]
  simp only [dGs] at e2 e3
  simp [lg, z, e2]
  simp only [dIs] at e3
  simp [e3, dGs, dIs, SL]
theorem small_ok2 {h : AH} {a : Nat} {t : AH} {n : Nat} {x : Bag} (ha : a < h.length) (o : BagOk (n + 200) x) :
    ∃ (u v : List Int) (gs : List Gp) (xs : List Int) (y : Bag), s__law_small [.lst a] (hp h a x t) = .ok (.tup [dHo u v, dGs gs, dIs xs]) (hp h a y t) ∧ HoOk u v ∧ GsOk u.length gs ∧ xs.length = gs.length ∧ BagOk n y ∧ ∀ g ∈ gs, g.rooms ≤ 100000000000 := by
  obtain ⟨r1, x1, e1, a1, a2, o1⟩ := take_ok (t := t) (n := n + 199) ha o (size := 4) (by omega) (by omega)
  obtain ⟨r2, x2, e2, b1, b2, o2⟩ := take_ok (t := t) (n := n + 198) ha o1 (size := 5) (by omega) (by omega)
  obtain ⟨k1, rfl⟩ := Int.eq_ofNat_of_zero_le a1
  obtain ⟨k2, rfl⟩ := Int.eq_ofNat_of_zero_le b1
  obtain ⟨u, v, gs, xs, y, e3, hh, lu, hg, lg, lx, o3⟩ := made_ok (t := t) (n := n) (nn := 1 + k1) (cn := k2) (R := 3) (x := x2) ha (by omega) (by omega) (by omega) (o2.mono (by omega)) (by omega) (by omega) (by omega)
  refine ⟨u, v, gs, xs, y, run_hp0 rfl ha (by simp) ?_, hh, by rw [lu]; exact hg.1, by omega, o3, fun g hh => by have := hg.2 g hh; omega⟩
  have ec : ((1 + k1 : Nat) : Int) = 1 + (k1 : Int) := by simp
  rw [ec] at e3
  simp [b__law_small, e1, e2, e3]
theorem great_ok2 {h : AH} {a : Nat} {t : AH} {n : Nat} {x : Bag} (ha : a < h.length) (o : BagOk (n + 300) x) :
    ∃ (u v : List Int) (gs : List Gp) (xs : List Int) (y : Bag), s__law_great [.lst a] (hp h a x t) = .ok (.tup [dHo u v, dGs gs, dIs xs]) (hp h a y t) ∧ HoOk u v ∧ GsOk u.length gs ∧ xs.length = gs.length ∧ BagOk n y ∧ ∀ g ∈ gs, g.rooms ≤ 100000000000 := by
  obtain ⟨r1, x1, e1, a1, a2, o1⟩ := take_ok (t := t) (n := n + 299) ha o (size := 8) (by omega) (by omega)
  obtain ⟨r2, x2, e2, b1, b2, o2⟩ := take_ok (t := t) (n := n + 298) ha o1 (size := 8) (by omega) (by omega)
  obtain ⟨r3, x3, e3, c1, c2, o3⟩ := take_ok (t := t) (n := n + 297) ha o2 (size := 2) (by omega) (by omega)
  obtain ⟨k1, rfl⟩ := Int.eq_ofNat_of_zero_le a1
  obtain ⟨k2, rfl⟩ := Int.eq_ofNat_of_zero_le b1
  obtain ⟨sz, hsz, p⟩ := pickI (xs := [5, 100000000000]) c1 (by simpa using c2)
  have hs : 1 ≤ sz ∧ sz ≤ 100000000000 := by simp at hsz; omega
  have hm : sz * (k2 : Int) ≤ 100000000000 * 7 := Int.mul_le_mul hs.2 (by omega) (by omega) (by omega)
  obtain ⟨u, v, gs, xs, y, e4, hh, lu, hg, lg, lx, o4⟩ := made_ok (t := t) (n := n) (nn := 1 + k1) (cn := k2) (R := sz) (x := x3) ha (by omega) (by omega) (by omega) (o3.mono (by omega)) hs.1 (by omega) (by omega)
  refine ⟨u, v, gs, xs, y, run_hp0 rfl ha (by simp) ?_, hh, by rw [lu]; exact hg.1, by omega, o4, fun g hh => by have := hg.2 g hh; omega⟩
  have ec : ((1 + k1 : Nat) : Int) = 1 + (k1 : Int) := by simp
  rw [ec] at e4
  simp only [List.map_cons, List.map_nil] at p
  simp [b__law_great, e1, e2, e3, p, SL, e4]
theorem pick2 {A B : D} {r : Int} (h0 : 0 ≤ r) (h1 : r < 2) : (∀ h : AH, gIx (.fl [A, B]) (.int r) h = .ok A h) ∨ (∀ h : AH, gIx (.fl [A, B]) (.int r) h = .ok B h) := by
  have : r = 0 ∨ r = 1 := by omega
  rcases this with rfl | rfl
  · exact .inl fun h => by simp
  · exact .inr fun h => by simp
theorem cut_keep {h h' : AH} {d : D} (hb : belowB h.length d = false) : cut h d h' = .ok d h' := by
  unfold cut
  rw [if_neg fun c => by have := c.1; rw [hb] at this; exact absurd this (by simp)]
theorem well_ok {cell turn : Int} {n : Nat} (h0 : 0 ≤ turn) (h1 : turn + n ≤ 4611686018427387904) (h : AH) : ∃ x : Bag, s__law_well [.int cell, .int turn] h = .ok (.lst h.length) (h ++ [bagC x]) ∧ BagOk n x := by
  have m0 : 0 ≤ cell % 2305843009213693951 := Int.emod_nonneg _ (by omega)
  have m1 : cell % 2305843009213693951 < 2305843009213693951 := Int.emod_lt_of_pos _ (by omega)
  have kp : ∀ h' : AH, cut h (.lst h.length) h' = .ok (.lst h.length) h' := fun h' => cut_keep (by simp [belowB])
  by_cases c : 1000000000000000000 ≤ cell
  · refine ⟨⟨cell - 1000000000000000000, cell % 2305843009213693951, turn⟩, ?_, by simp only; omega, m0, m1, h0, h1⟩
    unfold s__law_well runDef
    simp [b__law_well, c, gMod_int, SL, kp, bagC]
  · refine ⟨⟨0, cell % 2305843009213693951, turn⟩, ?_, by simp only; omega, m0, m1, h0, h1⟩
    unfold s__law_well runDef
    simp [b__law_well, c, gMod_int, SL, kp, bagC]
theorem lcL_push {g : Gv} {e : Ev} {env : En} {n : Nat} : ∀ (ds : List D) (h : AH), (∀ d ∈ ds, ∃ e1, (∀ h', g d env h' = .ok e1 h') ∧ ∀ h' : AH, ∃ x : Bag, e e1 h' = .ok (.lst h'.length) (h' ++ [bagC x]) ∧ BagOk n x) →
    ∃ bs : List Bag, bs.length = ds.length ∧ (∀ x ∈ bs, BagOk n x) ∧ lcL [] g cYes e env ds h = .ok ((List.range bs.length).map fun i => .lst (h.length + i)) (h ++ bs.map bagC)
  | [], h, _ => ⟨[], rfl, (fun _ h => nomatch h), by simp⟩
  | d :: ds, h, p => by
    obtain ⟨e1, q1, q2⟩ := p d List.mem_cons_self
    obtain ⟨x, q3, q4⟩ := q2 h
    obtain ⟨bs, r1, r2, r3⟩ := lcL_push ds (h ++ [bagC x]) fun d hd => p d (List.mem_cons_of_mem _ hd)
    refine ⟨x :: bs, by simp [r1], fun y hy => (List.mem_cons.mp hy).elim (fun z => z ▸ q4) (r2 y), ?_⟩
    rw [lcL_cons, q1, nE_ok, lc1_ok, cYes_at, nE_ok, lc2_t, q3, nE_ok, lc3_ok, r3, lc4_ok]
    rw [List.length_cons, List.range_succ_eq_map, List.map_cons, List.map_map]
    have e1 : (List.range bs.length).map (fun i => D.lst ((h ++ [bagC x]).length + i)) = (List.range bs.length).map ((fun i => D.lst (h.length + i)) ∘ Nat.succ) := by
      apply List.map_congr_left
      intro i _
      simp only [Function.comp, List.length_append, List.length_cons, List.length_nil]
      congr 1
      omega
    rw [e1]
    simp
theorem bags_ok {ns : List Int} {n : Nat} {m : Nat} (hm : m ≤ 60) (hn : n ≤ 100000) (h : AH) : ∃ bs : List Bag, s__law_bags [.kl (ns.map D.int), .int m] h = .ok (.fl ((List.range bs.length).map fun i => .lst (h.length + i))) (h ++ bs.map bagC) ∧ (∀ x ∈ bs, BagOk n x) ∧ bs.length ≤ m + 1 := by
  have lz : (cutG ns none (some (m : Int)) ++ [0]).length ≤ m + 1 := by
    unfold cutG
    have e : HT.sIx ns.length ns.length (some (m : Int)) = min m ns.length := HT.sIx_nat _ _ _
    rw [e]
    simp; omega
  obtain ⟨bs, b1, b2, b3⟩ := lcL_push (g := gTp 2 (gsCons (gNm 2) (gsCons (gNm 3) gsNil))) (e := mCall s__law_well (mCons (mLoc 3) (mCons (m2 gMul (mCon (.int 977)) (mLoc 2)) (mNil)))) (env := [some (.kl (ns.map D.int)), some (.int m), none, none]) (n := n) ((cutG ns none (some (m : Int)) ++ [0]).zipIdx.map fun q : Int × Nat => D.tup [.int q.2, .int q.1]) h fun d hd => by
    obtain ⟨q, hq, rfl⟩ := List.mem_map.mp hd
    have hi : q.2 < m + 1 := by
      obtain ⟨j, hj⟩ := List.mem_iff_getElem?.mp hq
      rw [List.getElem?_zipIdx] at hj
      obtain ⟨y, hy, e2⟩ := Option.map_eq_some_iff.mp hj
      cases e2
      have := (List.getElem?_eq_some_iff.mp hy).1
      simp only; omega
    refine ⟨[some (.kl (ns.map D.int)), some (.int m), some (.int q.2), some (.int q.1)], fun h' => by simp, fun h' => ?_⟩
    have mm : MulOk 977 (q.2 : Int) := MulOk.of (by omega) (by omega) (by omega) (by omega)
    obtain ⟨x, ex, ox⟩ := well_ok (cell := q.1) (turn := 977 * (q.2 : Int)) (n := n) (by omega) (by omega) h'
    exact ⟨x, by simp [gMul_int mm, ex], ox⟩
  simp only [List.length_map, List.length_zipIdx] at b1
  refine ⟨bs, ?_, b2, by omega⟩
  have hp0 : 0 < bs.length := by rw [b1]; simp
  have kp : ∀ h' : AH, cut h (.fl ((List.range bs.length).map fun i => .lst (h.length + i))) h' = .ok (.fl ((List.range bs.length).map fun i => .lst (h.length + i))) h' := fun h' => cut_keep (by
    obtain ⟨k, hk⟩ := Nat.exists_eq_succ_of_ne_zero (Nat.ne_of_gt hp0)
    rw [hk, List.range_succ_eq_map, List.map_cons]
    simp [belowB, belowBs])
  have e1 := enum_map D.int (cutG ns none (some (m : Int)) ++ [0])
  rw [List.map_append] at e1
  simp only [List.map_cons, List.map_nil] at e1
  have z1 : (cutG ns none (some (m : Int))).length + 1 ≤ SL := by simp at lz; unfold SL; omega
  unfold s__law_bags runDef
  simp [b__law_bags, cutD_map, SL]
  have e2 : itEnum2 (some ((cutG ns none (some (m : Int))).map D.int ++ [.int 0])) (.fl ((cutG ns none (some (m : Int))).map D.int ++ [.int 0])) h = .ok ⟨(cutG ns none (some (m : Int)) ++ [0]).zipIdx.map fun q : Int × Nat => D.tup [.int q.2, .int q.1], []⟩ h := by
    rw [itEnum2_ok, e1]; rfl
  rw [if_pos (by simp at lz; omega)]
  simp only [itEnum1_ok, rdS_fl, e2, mLcF1_ok, List.length_map, List.length_zipIdx, List.length_append, List.length_cons, List.length_nil, Nat.zero_add, if_pos z1, wipeE_cons, wipeE_nil, List.set_cons_zero, List.set_cons_succ, b3, mLcF2_ok, sRet1_ok, fin_ok, finD_rt, kp]
theorem encI : EncD 2 dIs fun xs => PyData.tuple (xs.map PyData.int) := encTup encInt
/-! ### values of any kind -/
def pl1 : D → Bool
  | .lst _ => false
  | .ins _ => false
  | .adr _ => false
  | _ => true
mutual
def pld : D → Bool
  | .lst _ => false
  | .ins _ => false
  | .adr _ => false
  | .tup xs => plds xs
  | .fl xs => plds xs
  | .kl xs => plds xs
  | _ => true
def plds : List D → Bool
  | [] => true
  | x :: xs => pld x && plds xs
end
theorem plds_mem {xs : List D} (h : plds xs = true) : ∀ x ∈ xs, pld x = true := by
  induction xs with
  | nil => intro x hx; cases hx
  | cons y ys ih =>
    have h : (pld y && plds ys) = true := h
    rw [Bool.and_eq_true] at h
    intro x hx
    rcases List.mem_cons.mp hx with rfl | hx
    · exact h.1
    · exact ih h.2 x hx
theorem pl1_of {d : D} (h : pld d = true) : pl1 d = true := by cases d <;> first | rfl | cases h
def isI : D → Bool
  | .int _ => true
  | _ => false
def betw (d : D) (l u : Int) : Bool := match d with
  | .int i => decide (l ≤ i) && decide (i ≤ u)
  | _ => false
def rowB (d : D) (n : Int) : Bool := match d with
  | .tup xs => decide ((xs.length : Int) = n)
  | _ => false
def houseB (d : D) : Bool := match d with
  | .tup [.tup a, .tup b] => decide (1 ≤ a.length) && decide (a.length ≤ 30) && decide (b.length = a.length) && (a ++ b).all fun x => betw x 0 1000000000000
  | _ => false
theorem lcL_id {g : Gv} {e : Ev} {env : En} {h : AH} (out : D → D) : ∀ (xs : List D), (∀ x ∈ xs, stE (g x env h) e = .ok (out x) h) → (∀ x ∈ xs, ∃ e1, g x env h = .ok e1 h) → lcL [] g cYes e env xs h = .ok (xs.map out) h := fun xs h1 h2 => by
  have := lcL_map (g := g) (e := e) (env := env) (h := h) (fun x : D => x) out xs h1 h2
  rwa [List.map_id'] at this
theorem is_integer_tot {d : D} (hd : pl1 d = true) (h : AH) : s_is_integer [d] h = .ok (.bl (isI d)) h := by
  cases d <;> first | (cases hd; done) | exact run_eq rfl (by simp [b_is_integer, isI, gIs, tyD, isTy])
theorem is_between_tot {d : D} (hd : pl1 d = true) (l u : Int) (h : AH) : s_is_between [d, .int l, .int u] h = .ok (.bl (betw d l u)) h := by
  have e := is_integer_tot hd h
  cases d with
  | int i => exact is_between_int i l u h
  | _ => first | (cases hd; done) | exact run_eq rfl (by simp [b_is_between, e, isI, betw])
theorem is_row_tot {d : D} (hd : pl1 d = true) (n : Int) (h : AH) : s_is_row [d, .int n] h = .ok (.bl (rowB d n)) h := by
  cases d with
  | tup xs => exact is_row_tup xs n h
  | _ => first | (cases hd; done) | exact run_eq rfl (by simp [b_is_row, rowB, gIs, tyD, isTy])
theorem is_house_tot {d : D} (hd : pld d = true) (h : AH) : s_is_house [d] h = .ok (.bl (houseB d)) h := by
  have r := is_row_tot (pl1_of hd) 2 h
  by_cases hr : rowB d 2 = true
  · cases d with
    | tup xs =>
      have hl : xs.length = 2 := by simp [rowB] at hr; omega
      match xs, hl with
      | [x, y], _ =>
        have px : pld x = true := plds_mem hd x (by simp)
        have py : pld y = true := plds_mem hd y (by simp)
        cases x with
        | tup a =>
          by_cases c1 : 1 ≤ a.length
          · by_cases c2 : a.length ≤ 30
            · have k1 : (1 : Int) ≤ (a.length : Int) := by omega
              have k2 : (a.length : Int) ≤ 30 := by omega
              have r2 := is_row_tot (pl1_of py) (a.length : Int) h
              by_cases c3 : rowB y (a.length : Int) = true
              · cases y with
                | tup b =>
                  have hlb : b.length = a.length := by simp [rowB] at c3; omega
                  have c : lcL [] (gNm 1) cYes (mCall s_is_between (mCons (mLoc 1) (mCons (mCon (.int 0)) (mCons (mCon (.int 1000000000000)) mNil)))) [some (.tup [.tup a, .tup b]), none] (a ++ b) h = .ok ((a ++ b).map fun x => .bl (betw x 0 1000000000000)) h :=
                    lcL_id (fun x => .bl (betw x 0 1000000000000)) (a ++ b) (fun x hx => by
                      have pxx : pl1 x = true := pl1_of (by
                        rcases List.mem_append.mp hx with hx | hx
                        · exact plds_mem px x hx
                        · exact plds_mem py x hx)
                      simp [is_between_tot pxx]) fun _ _ => gNm_ok
                  have c2' := bAll_map (h := h) (fun x => betw x 0 1000000000000) (a ++ b)
                  have z : a.length + b.length ≤ SL := SL_small (by omega)
                  refine run_eq rfl ?_
                  rw [rowB] at r r2
                  simp only [List.length_cons, List.length_nil] at r
                  simp [b_is_house, r, r2, k1, k2, hlb, houseB, c1, c2]
                  have z2 := z
                  rw [hlb] at z
                  simp [z, c]
                  rw [List.map_append, List.all_append] at c2'
                  rw [if_pos z2]
                  simp only [mCons1_ok, mNil_at, mCons2_ok, mCall1_ok, c2', sRet1_ok]
                | _ => cases c3
              · refine run_eq rfl ?_
                have c3' : rowB y (a.length : Int) = false := by simpa using c3
                have hb : houseB (.tup [.tup a, y]) = false := by
                  cases y with
                  | tup b =>
                    have : b.length ≠ a.length := by simp [rowB] at c3'; omega
                    simp [houseB, this]
                  | _ => rfl
                rw [hr] at r
                rw [c3'] at r2
                simp [b_is_house, r, r2, k1, k2, hb]
            · refine run_eq rfl ?_
              have k2 : ¬ (a.length : Int) ≤ 30 := by omega
              have k1 : (1 : Int) ≤ (a.length : Int) := by omega
              have hb : houseB (.tup [.tup a, y]) = false := by cases y <;> simp [houseB, c2]
              rw [hr] at r
              simp [b_is_house, r, k1, k2, hb]
          · refine run_eq rfl ?_
            have k1 : ¬ (1 : Int) ≤ (a.length : Int) := by omega
            have hb : houseB (.tup [.tup a, y]) = false := by cases y <;> simp [houseB, c1]
            rw [hr] at r
            simp [b_is_house, r, k1, hb]
        | _ =>
          first
          | (cases px; done)
          | (refine run_eq rfl ?_
             rw [hr] at r
             simp [b_is_house, r, gIs, tyD, isTy, houseB])
    | _ => cases hr
  · have hr' : rowB d 2 = false := by simpa using hr
    rw [hr'] at r
    have hb : houseB d = false := by
      cases d with
      | tup xs =>
        have hl : xs.length ≠ 2 := by simp [rowB] at hr'; omega
        unfold houseB
        split
        · rename_i e; cases e; simp at hl
        · rfl
      | _ => rfl
    refine run_eq rfl ?_
    simp [b_is_house, r, hb]
theorem check_house_bad {d : D} (hd : pld d = true) (hb : houseB d = false) (h : AH) : s_check_house [d] h = .err ⟨"InvalidHouse", none⟩ h := by
  refine run_er rfl ?_
  simp [b_check_house, is_house_tot hd, hb]
/-! ### programs step by step -/
def Nx (f : Sv) (P : En → AH → Prop) (env : En) (h : AH) : Prop := ∃ e h', f env h = .ok (.nx e) h' ∧ P e h'
section
variable {f g b : Sv} {P Q : En → AH → Prop} {env : En} {h : AH} {e : Ev} {c : Tv} {i : Nat} {W : List Nat}
theorem Nx.seq (q : Nx f (Nx g P) env h) : Nx (sSeq f g) P env h := by
  obtain ⟨e1, h1, q1, e2, h2, q2, p⟩ := q
  exact ⟨e2, h2, by rw [sSeq_at, q1, sSeq1_nx, q2], p⟩
theorem Nx.nil (p : P env h) : Nx sNil P env h := ⟨env, h, rfl, p⟩
theorem Nx.mono (q : Nx f P env h) (k : ∀ e h, P e h → Q e h) : Nx f Q env h := by
  obtain ⟨e1, h1, q1, p⟩ := q
  exact ⟨e1, h1, q1, k _ _ p⟩
theorem Nx.asg {d : D} {h1 : AH} (q : e env h = .ok d h1) (p : P (env.set i (some d)) h1) : Nx (sAsg e (gNm i)) P env h := ⟨_, h1, by rw [sAsg_at, q]; rfl, p⟩
/-- a check that is passed -/
theorem Nx.pass {h1 : AH} (q : c env h = .ok false h1) (p : P env h1) : Nx (sIf c f sNil) P env h := ⟨env, h1, by rw [sIf_at, q]; rfl, p⟩
theorem Nx.ifT {h1 : AH} (q : c env h = .ok true h1) (p : Nx f P env h1) : Nx (sIf c f g) P env h := by
  obtain ⟨e1, h2, q1, p⟩ := p
  exact ⟨e1, h2, by rw [sIf_at, q, sIf1_t, q1], p⟩
theorem Nx.ifF {h1 : AH} (q : c env h = .ok false h1) (p : Nx g P env h1) : Nx (sIf c f g) P env h := by
  obtain ⟨e1, h2, q1, p⟩ := p
  exact ⟨e1, h2, by rw [sIf_at, q, sIf1_f, q1], p⟩
theorem Nx.forw {it : Iv} {t : Gv} {xs : List D} {w : List (Nat × List D)} {h1 : AH} (q : it env h = .ok ⟨xs, w⟩ h1) (p : Nx (fun e1 h2 => forL w t b W xs e1 h2) P (wipeE env W) h1) : Nx (sFor it t b W) P env h := by
  obtain ⟨e1, h2, q1, p⟩ := p
  exact ⟨e1, h2, by unfold sFor; rw [q]; exact q1, p⟩
/-- turns that leave all as it was -/
theorem forL_pass {α : Type} {w : List (Nat × List D)} {t : Gv} (k : α → D) (hw : watchOk w h) (xs : List α) (q : ∀ x ∈ xs, ∃ e1, t (k x) env h = .ok e1 h ∧ Nx b (fun e2 h1 => wipeE e2 W = env ∧ h1 = h) e1 h) : forL w t b W (xs.map k) env h = .ok (.nx env) h := by
  induction xs with
  | nil => simp [forL, hw]
  | cons x xs ih =>
    obtain ⟨e1, q2, e2, h2, q1, w1, eh⟩ := q x List.mem_cons_self
    have ih := ih fun y hy => q y (List.mem_cons_of_mem _ hy)
    show forL w t b W (k x :: xs.map k) env h = _
    unfold forL
    rw [if_pos hw, q2, R.bind_ok, q1, R.bind_ok, eh]
    show forL w t b W (xs.map k) (wipeE e2 W) h = _
    rw [w1, ih]
theorem Nx.for_pass {α : Type} {it : Iv} {j : Nat} {w : List (Nat × List D)} {h1 : AH} (k : α → D) (xs : List α) (q : it env h = .ok ⟨xs.map k, w⟩ h1) (hw : watchOk w h1)
    (p : ∀ x ∈ xs, Nx b (fun e1 h2 => wipeE e1 W = wipeE env W ∧ h2 = h1) ((wipeE env W).set j (some (k x))) h1) (r : P (wipeE env W) h1) : Nx (sFor it (gNm j) b W) P env h :=
  Nx.forw q ⟨_, _, forL_pass k hw xs fun x hx => ⟨_, rfl, p x hx⟩, r⟩
end
theorem forL_relI {α : Type} {g : Gv} {b : Sv} {W : List Nat} (f : α → D) (I : List α → En → AH → Prop)
    (step : ∀ x r env h, I (x :: r) env h → ∃ e1, g (f x) env h = .ok e1 h ∧ Nx b (fun e2 h2 => I r (wipeE e2 W) h2) e1 h) (xs : List α) (env : En) (h : AH) (i : I xs env h) : Nx (fun e1 h2 => forL [] g b W (xs.map f) e1 h2) (fun e h => I [] e h) env h := by
  obtain ⟨e, h', q, i⟩ := forL_rel (g := g) (b := b) (W := W) f I (fun x r env h i => by
    obtain ⟨e1, q1, e2, h2, q2, i2⟩ := step x r env h i
    exact ⟨e2, h2, by rw [q1, stB_ok, q2], i2⟩) xs env h i
  exact ⟨e, h', q, i⟩
theorem Nx.for_rel {α : Type} {it : Iv} {j : Nat} {b : Sv} {W : List Nat} {P : En → AH → Prop} {env : En} {h h1 : AH} (k : α → D) (xs : List α) (I : List α → En → AH → Prop) (q : it env h = .ok ⟨xs.map k, []⟩ h1) (i : I xs (wipeE env W) h1)
    (step : ∀ x r env h, I (x :: r) env h → Nx b (fun e2 h2 => I r (wipeE e2 W) h2) (env.set j (some (k x))) h) (r : ∀ e h, I [] e h → P e h) : Nx (sFor it (gNm j) b W) P env h :=
  Nx.forw q ((forL_relI k I (fun x r env h i => ⟨_, rfl, step x r env h i⟩) xs _ _ i).mono r)
@[simp] theorem SL_1 : 1 ≤ SL := by unfold SL; omega
@[simp] theorem SL_2 : 2 ≤ SL := by unfold SL; omega
@[simp] theorem SL_3 : 3 ≤ SL := by unfold SL; omega
@[simp] theorem SL_4 : 4 ≤ SL := by unfold SL; omega
@[simp] theorem SL_5 : 5 ≤ SL := by unfold SL; omega
@[simp] theorem SL_6 : 6 ≤ SL := by unfold SL; omega
@[simp] theorem SL_7 : 7 ≤ SL := by unfold SL; omega
@[simp] theorem SL_8 : 8 ≤ SL := by unfold SL; omega
@[simp] theorem SL_9 : 9 ≤ SL := by unfold SL; omega
@[simp] theorem SL_10 : 10 ≤ SL := by unfold SL; omega
@[simp] theorem SL_11 : 11 ≤ SL := by unfold SL; omega
@[simp] theorem SL_12 : 12 ≤ SL := by unfold SL; omega
@[simp] theorem SL_13 : 13 ≤ SL := by unfold SL; omega
@[simp] theorem SL_14 : 14 ≤ SL := by unfold SL; omega
@[simp] theorem SL_15 : 15 ≤ SL := by unfold SL; omega
@[simp] theorem SL_16 : 16 ≤ SL := by unfold SL; omega
@[simp] theorem SL_17 : 17 ≤ SL := by unfold SL; omega
@[simp] theorem SL_18 : 18 ≤ SL := by unfold SL; omega
@[simp] theorem SL_19 : 19 ≤ SL := by unfold SL; omega
@[simp] theorem SL_20 : 20 ≤ SL := by unfold SL; omega
@[simp] theorem SL_21 : 21 ≤ SL := by unfold SL; omega
@[simp] theorem SL_22 : 22 ≤ SL := by unfold SL; omega
@[simp] theorem SL_23 : 23 ≤ SL := by unfold SL; omega
@[simp] theorem SL_24 : 24 ≤ SL := by unfold SL; omega
@[simp] theorem SL_25 : 25 ≤ SL := by unfold SL; omega
@[simp] theorem SL_26 : 26 ≤ SL := by unfold SL; omega
@[simp] theorem SL_27 : 27 ≤ SL := by unfold SL; omega
@[simp] theorem SL_28 : 28 ≤ SL := by unfold SL; omega
@[simp] theorem SL_29 : 29 ≤ SL := by unfold SL; omega
@[simp] theorem SL_30 : 30 ≤ SL := by unfold SL; omega
theorem rng_ok {j : Nat} (hj : j ≤ 1000000) (H : AH) : itRange11 (.ok [.int (j : Int)] H) = .ok ⟨(List.range j).map fun (k : Nat) => .int k, []⟩ H := itRange11_nat (j := j) (by omega)
theorem bTup_ints (zs : List Int) (H : AH) : bTup [.fl (zs.map D.int)] H = .ok (dIs zs) H := rfl
/-! ### equality of a value with itself -/
mutual
def dep : D → Nat
  | .tup xs => deps xs + 1
  | .fl xs => deps xs + 1
  | _ => 1
def deps : List D → Nat
  | [] => 0
  | x :: xs => max (dep x) (deps xs)
end
mutual
/-- values that _law_same finds equal to themselves -/
def smp : D → Bool
  | .tup xs => decide (xs.length ≤ SL) && smps xs
  | .fl xs => decide (xs.length ≤ SL) && smps xs
  | .non => true
  | .bl _ => true
  | .int _ => true
  | .str s => PyData.canLay0 (.str s)
  | _ => false
def smps : List D → Bool
  | [] => true
  | x :: xs => smp x && smps xs
end
theorem smps_mem {xs : List D} (h : smps xs = true) : ∀ x ∈ xs, smp x = true := by
  induction xs with
  | nil => intro x hx; cases hx
  | cons y ys ih =>
    have h : (smp y && smps ys) = true := h
    rw [Bool.and_eq_true] at h
    intro x hx
    rcases List.mem_cons.mp hx with rfl | hx
    · exact h.1
    · exact ih h.2 x hx
theorem deps_mem {xs : List D} : ∀ x ∈ xs, dep x ≤ deps xs := by
  induction xs with
  | nil => intro x hx; cases hx
  | cons y ys ih =>
    intro x hx
    show _ ≤ max (dep y) (deps ys)
    rcases List.mem_cons.mp hx with rfl | hx
    · omega
    · have := ih x hx; omega
theorem smps_map {α : Type} {f : α → D} (hf : ∀ x, smp (f x) = true) : ∀ xs : List α, smps (xs.map f) = true
  | [] => rfl
  | x :: xs => by show (smp (f x) && smps (xs.map f)) = true; rw [hf x, smps_map hf xs]; rfl
theorem deps_map {α : Type} {f : α → D} {n : Nat} (hf : ∀ x, dep (f x) ≤ n) : ∀ xs : List α, deps (xs.map f) ≤ n
  | [] => Nat.zero_le _
  | x :: xs => by
    show max (dep (f x)) (deps (xs.map f)) ≤ n
    have := hf x
    have := deps_map hf xs
    omega
theorem zip_self (xs : List D) : (xs.zip xs).map (fun q => D.tup [q.1, q.2]) = xs.map fun x => D.tup [x, x] := by
  induction xs with
  | nil => rfl
  | cons x xs ih => simp [ih]
theorem gEq_bl (i : Bool) (h : AH) : gEq (.bl i) (.bl i) h = .ok (.bl true) h := by simp [gEq, pdOf, PyData.eqv]
theorem gEq_strs {s : Str} (hs : PyData.canLay0 (.str s) = true) (h : AH) : gEq (.str s) (.str s) h = .ok (.bl true) h := by simp [gEq, pdOf, hs, PyData.eqv]
theorem same_refl : ∀ (n : Nat) (d : D), smp d = true → dep d ≤ n → ∀ (h : AH), s__law_same n [d, d] h = .ok (.bl true) h
  | 0, d, _, hd, h => by cases d <;> simp [dep] at hd
  | n + 1, d, hs, hd, h => by
    have seqs : ∀ (xs : List D) (env : En), xs.length ≤ SL → smps xs = true → deps xs ≤ n → 2 < env.length → 3 < env.length → lcL [] (gTp 2 (gsCons (gNm 2) (gsCons (gNm 3) gsNil))) cYes (mCall (s__law_same n) (mCons (mLoc 2) (mCons (mLoc 3) mNil))) env ((xs.zip xs).map fun q => .tup [q.1, q.2]) h = .ok (xs.map fun _ => .bl true) h := fun xs env _ hp hd l2 l3 => by
      rw [zip_self]
      exact lcL_map (fun x => .tup [x, x]) (fun _ => .bl true) xs (fun x hx => by
        have := same_refl n x (smps_mem hp x hx) (Nat.le_trans (deps_mem x hx) hd) h
        simp [l2, l3, this]) fun x _ => by simp
    refine run_eq rfl ?_
    cases d with
    | tup xs =>
      have hs : (decide (xs.length ≤ SL) && smps xs) = true := hs
      rw [Bool.and_eq_true, decide_eq_true_eq] at hs
      have hd : deps xs ≤ n := by have : deps xs + 1 ≤ n + 1 := hd; omega
      have c := seqs xs [some (.tup xs), some (.tup xs), none, none] hs.1 hs.2 hd (by simp) (by simp)
      have al := all_true xs h
      simp [b__law_same, gIs, tyD, isTy]
      simp [c, hs.1, al]
    | fl xs =>
      have hs : (decide (xs.length ≤ SL) && smps xs) = true := hs
      rw [Bool.and_eq_true, decide_eq_true_eq] at hs
      have hd : deps xs ≤ n := by have : deps xs + 1 ≤ n + 1 := hd; omega
      have c := seqs xs [some (.fl xs), some (.fl xs), none, none] hs.1 hs.2 hd (by simp) (by simp)
      have al := all_true xs h
      simp [b__law_same, gIs, tyD, isTy]
      simp [c, hs.1, al]
    | str s => simp [b__law_same, gIs, tyD, isTy, gEq_strs hs]
    | int i => simp [b__law_same, gIs, tyD, isTy]
    | bl i => simp [b__law_same, gIs, tyD, isTy, gEq_bl]
    | non => simp [b__law_same, gIs, tyD, isTy, gIsN, isN]
    | _ => cases hs
theorem told_same {d : D} (hs : smp d = true) (hd : dep d ≤ 7) (h : AH) : s__law_same 8 [.tup [.str "told", d], .tup [.str "told", d]] h = .ok (.bl true) h := by
  refine same_refl 8 _ ?_ ?_ h
  · have hc : smp (.str "told") = true := by decide +kernel
    show (decide ([D.str "told", d].length ≤ SL) && (smp (.str "told") && (smp d && true))) = true
    rw [hc, hs]; simp
  · show max (dep (.str "told")) (max (dep d) 0) + 1 ≤ 8
    have : dep (.str "told") = 1 := rfl
    omega
theorem smp_kind : ∀ cn ∈ kinds, smp (.tup [.str cn]) = true := by decide +kernel
theorem kind_same {cn : Str} (hc : cn ∈ kinds) (h : AH) : s__law_same 8 [.tup [.str cn], .tup [.str cn]] h = .ok (.bl true) h :=
  same_refl 8 _ (smp_kind cn hc) (by show max 1 0 + 1 ≤ 8; omega) h
noncomputable def itZipF1 (r : R (List D)) : R ItD := r.bind fun ds h1 => match ds with
  | [a, b] => (match a, b with
    | .fl xs, .fl ys => .ok ⟨(xs.zip ys).map fun q => .tup [q.1, q.2], [] ++ []⟩ h1
    | _, _ => .bad)
  | _ => .bad
@[simp] theorem itZipF_at (fs : Av) (env : En) (h : AH) : itZipF fs env h = itZipF1 (fs env h) := rfl
@[simp] theorem itZipF1_ok (xs ys : List D) (h : AH) : itZipF1 (.ok [.fl xs, .fl ys] h) = .ok ⟨(xs.zip ys).map fun q => .tup [q.1, q.2], []⟩ h := rfl
def kinds19 : List Str := ["InvalidHouse", "InvalidGroups", "InvalidPlan", "InvalidWeights", "InvalidNight", "InvalidPlace", "InvalidSpan", "InvalidKind", "InvalidWishes", "InvalidSpans", "InvalidName", "RoomsOutOfRange", "TooManyGroups", "NoPlan", "NothingToUndo", "TrialOpen", "NoRoom", "UnknownName", "InvalidText"]
theorem kinds_one : ∀ cn ∈ kinds, kinds19.filter (fun n => cn == n) = [cn] ∧ cn.length ≤ 100 ∧ PySem.Txt.join "" [cn] = cn := by decide +kernel
theorem kind_says : ∀ cn ∈ kinds, ∀ a h, s__law_kind cn a [.adr a] h = .ok (.str cn) h := by
  intro cn hcn a h
  obtain ⟨k1, k2, k3⟩ := kinds_one cn hcn
  have c : ∀ e1 e2, lcL [] (gTp 2 (gsCons (gNm 3) (gsCons (gNm 4) gsNil))) (mTest (mLoc 4)) (mLoc 3) [some (.adr a), e1, e2, none, none] (kinds19.map fun n => D.tup [.str n, .bl (cn == n)]) h = .ok ((kinds19.filter fun n => cn == n).map fun n => D.str n) h := fun e1 e2 =>
    lcL_if (fun n : Str => D.tup [.str n, .bl (cn == n)]) (fun n => D.str n) (fun n => cn == n) kinds19 fun n _ => ⟨_, rfl, by simp, fun _ => by simp⟩
  rw [k1] at c
  refine run_eq rfl ?_
  have e0 : ("" : Str).length = 0 := rfl
  have j := gJoin_fl (h := h) "" [cn] (by simp [e0]; unfold SL; omega)
  rw [k3] at j
  simp only [List.map_cons, List.map_nil] at j c
  have z3 : ∀ n : Nat, n ≤ 30 → n ≤ SL := fun n hn => by unfold SL; omega
  simp [b__law_kind, z3, SL]
  simp only [kinds19, List.map_cons, List.map_nil] at c
  simp [c, j]
/-- the bags' loop: each turn leaves the slots as they were and touches its own bag alone -/
theorem bags_loop {body : Sv} {W : List Nat} {S : List Int} {k m N : Nat} (hm : m ≤ 60) (hN : N ≤ 100000) (hk : wipeE (some (.kl (S.map D.int)) :: List.replicate k none) W = some (.kl (S.map D.int)) :: List.replicate k none)
    (turn : ∀ (h : AH) (a : Nat) (x : Bag), a < h.length → BagOk N x → Nx body (fun e h' => wipeE e W = some (.kl (S.map D.int)) :: List.replicate k none ∧ ∃ y t, h' = hp h a y t) ((some (.kl (S.map D.int)) :: List.replicate k none).set 1 (some (.lst a))) (hp h a x [])) (h : AH) :
    Nx (sFor (itSeq (mCall s__law_bags (mCons (mLoc 0) (mCons (mCon (.int m)) mNil)))) (gNm 1) body W) (fun e _ => e = some (.kl (S.map D.int)) :: List.replicate k none) (some (.kl (S.map D.int)) :: List.replicate k none) h := by
  obtain ⟨bs, e1, q1, l1⟩ := bags_ok (ns := S) (n := N) (m := m) hm hN h
  refine Nx.for_rel (fun i : Nat => D.lst (h.length + i)) (List.range bs.length) (fun r e h' => e = some (.kl (S.map D.int)) :: List.replicate k none ∧ r.Nodup ∧ ∀ i ∈ r, ∃ x : Bag, h'[h.length + i]? = some (bagC x) ∧ BagOk N x) (h1 := h ++ bs.map bagC) (by simp [e1]) ⟨hk, List.nodup_range, fun i hi => ⟨bs[i]'(List.mem_range.mp hi), by
      rw [List.getElem?_append_right (by omega), show h.length + i - h.length = i by omega, List.getElem?_map, List.getElem?_eq_getElem (List.mem_range.mp hi)]; rfl, q1 _ (List.getElem_mem _)⟩⟩ (fun i r env hh hi => ?_) fun e h' i => i.1
  obtain ⟨rfl, i2, i3⟩ := hi
  obtain ⟨x, hx, ox⟩ := i3 i List.mem_cons_self
  have ha : h.length + i < hh.length := (List.getElem?_eq_some_iff.mp hx).1
  have t1 := turn hh (h.length + i) x ha ox
  rw [← hp_of hx] at t1
  refine t1.mono fun e h' ⟨w, y, t, eh⟩ => ⟨w, (List.nodup_cons.mp i2).2, fun j hj => ?_⟩
  obtain ⟨z, hz, oz⟩ := i3 j (List.mem_cons_of_mem _ hj)
  have hne : h.length + i ≠ h.length + j := fun e => (List.nodup_cons.mp i2).1 (by rw [show i = j by omega]; exact hj)
  refine ⟨z, ?_, oz⟩
  rw [eh]
  unfold hp
  rw [List.getElem?_append_left (by rw [List.length_set]; exact (List.getElem?_eq_some_iff.mp hz).1), List.getElem?_set_ne hne]
  exact hz
/-- a law by its loop and its last row -/
theorem law_end {S : List Int} {k : Nat} {f : Sv} {e : Ev} {b : Sv} (hb : b = sSeq f (sRet e)) (loop : ∀ h, Nx f (fun e _ => e = some (.kl (S.map D.int)) :: List.replicate k none) (some (.kl (S.map D.int)) :: List.replicate k none) h)
    (fin_ : ∀ h, ∃ h', e (some (.kl (S.map D.int)) :: List.replicate k none) h = .ok (.bl true) h') (h : AH) : ∃ h', runDef 1 (k + 1) b [.kl (S.map D.int)] h = .ok (.bl true) h' := by
  obtain ⟨e1, h1, q1, rfl⟩ := loop h
  obtain ⟨h2, q2⟩ := fin_ h1
  have ct : ∃ h'', cut h (.bl true) h2 = .ok (.bl true) h'' := by
    unfold cut
    split
    · exact ⟨_, rfl⟩
    · exact ⟨_, rfl⟩
  obtain ⟨h3, ct⟩ := ct
  refine ⟨h3, ?_⟩
  unfold runDef
  rw [if_pos (show [D.kl (S.map D.int)].length = 1 from rfl), hb]
  have q1 : f ((List.map some [D.kl (S.map D.int)]) ++ List.replicate (k + 1 - 1) none) h = _ := q1
  rw [sSeq_at, q1, sSeq1_nx, sRet_at, q2]
  exact ct
noncomputable def E_pick : Ev := m2 gIx (mLf (mCons (mCall s__law_small (mCons (mLoc 1) (mNil))) (mCons (mCall s__law_great (mCons (mLoc 1) (mNil))) (mNil)))) (mCall s__law_take (mCons (mLoc 1) (mCons (mCon (.int 2)) (mNil))))
theorem pick_ok2 {h : AH} {a : Nat} {n : Nat} {x : Bag} {env : En} (he : env[1]? = some (some (.lst a))) (ha : a < h.length) (ob : BagOk (n + 501) x) :
    ∃ (u v : List Int) (gs : List Gp) (xs : List Int) (y : Bag), E_pick env (hp h a x []) = .ok (.tup [dHo u v, dGs gs, dIs xs]) (hp h a y []) ∧ HoOk u v ∧ GsOk u.length gs ∧ xs.length = gs.length ∧ BagOk n y ∧ ∀ g ∈ gs, g.rooms ≤ 100000000000 := by
  obtain ⟨u1, v1, gs1, xs1, x1, e1, o1, g1, l1, b1, f1⟩ := small_ok2 (t := []) (n := n + 301) ha ob
  obtain ⟨u2, v2, gs2, xs2, x2, e2, o2, g2, l2, b2, f2⟩ := great_ok2 (t := []) (n := n + 1) ha b1
  obtain ⟨r, x3, e3, r0, r1, b3⟩ := take_ok (t := []) (n := n) ha b2 (size := 2) (by omega) (by omega)
  have pk : ∃ u v gs xs, HoOk u v ∧ GsOk u.length gs ∧ xs.length = gs.length ∧ (∀ g ∈ gs, g.rooms ≤ 100000000000) ∧ ∀ H : AH, gIx (.fl [.tup [dHo u1 v1, dGs gs1, dIs xs1], .tup [dHo u2 v2, dGs gs2, dIs xs2]]) (.int r) H = .ok (.tup [dHo u v, dGs gs, dIs xs]) H := by
    rcases pick2 (A := .tup [dHo u1 v1, dGs gs1, dIs xs1]) (B := .tup [dHo u2 v2, dGs gs2, dIs xs2]) r0 r1 with p | p
    · exact ⟨u1, v1, gs1, xs1, o1, g1, l1, f1, p⟩
    · exact ⟨u2, v2, gs2, xs2, o2, g2, l2, f2, p⟩
  obtain ⟨u, v, gs, xs, o, og, lx, fw, pk⟩ := pk
  exact ⟨u, v, gs, xs, x3, by simp [E_pick, he, e1, e2, e3, pk, SL], o, og, lx, b3, fw⟩
theorem gNe_kind {cn : Str} (hc : cn ∈ kinds) (h : AH) : gNe (.tup [.str cn]) (.tup [.str cn]) h = .ok (.bl false) h := by
  have hs : ∀ cn ∈ kinds, PyData.canLay0 (.str cn) = true := by decide +kernel
  simp [gNe, pdOf, hs cn hc, PyData.eqv, PyData.eqvAll]
theorem gEq_kind {cn : Str} (hc : cn ∈ kinds) (h : AH) : gEq (.tup [.str cn]) (.tup [.str cn]) h = .ok (.bl true) h := by
  have hs : ∀ cn ∈ kinds, PyData.canLay0 (.str cn) = true := by decide +kernel
  simp [gEq, pdOf, hs cn hc, PyData.eqv, PyData.eqvAll]
/-! ### rows with more rooms -/
def mvI (on : Bool) (f l m : Int) (row : List Int) : List Int := row.zipIdx.map fun q => q.1 + m * (if (on && decide (f ≤ (q.2 : Int)) && decide ((q.2 : Int) ≤ l)) = true then 1 else 0)
abbrev kStd : Str := "standard"
abbrev kBet : Str := "better"
theorem keq {a b : Str} (ha : a = kStd ∨ a = kBet) (hb : b = kStd ∨ b = kBet) (h : AH) : gEq (.str a) (.str b) h = .ok (.bl (decide (a = b))) h := by
  have h1 : PyData.canLay0 (.str kStd) = true := by decide +kernel
  have h2 : PyData.canLay0 (.str kBet) = true := by decide +kernel
  rcases ha with rfl | rfl <;> rcases hb with rfl | rfl <;> simp [gEq, pdOf, h1, h2, PyData.eqv] <;> decide
noncomputable abbrev eMv : Ev := m2 gAdd (mLoc 10) (m2 gMul (mLoc 4) (mCall bInt (mCons (mAnd (m2 gEq (mLoc 6) (mLoc 1)) (m3c gLe gLe (mLoc 2) (mLoc 9) (mLoc 3))) (mNil))))
theorem mv_comp {ho rs p : D} {y9 y10 : Option D} {a k : Str} {f l m : Int} {row : List Int} (ha : a = kStd ∨ a = kBet) (hk : k = kStd ∨ k = kBet) (hm : -1000000000000 ≤ m ∧ m ≤ 1000000000000) (h : AH) (e8 : Option D) :
    lcL [] (gTp 2 (gsCons (gNm 9) (gsCons (gNm 10) (gsNil)))) cYes eMv [some ho, some (.str k), some (.int f), some (.int l), some (.int m), some rs, some (.str a), some p, e8, y9, y10] (row.zipIdx.map fun q => D.tup [.int q.2, .int q.1]) h = .ok ((mvI (decide (a = k)) f l m row).map D.int) h := by
  unfold mvI
  rw [List.map_map]
  refine lcL_map (fun q : Int × Nat => D.tup [.int q.2, .int q.1]) _ row.zipIdx (fun q _ => ?_) fun q _ => by simp
  have m0 : MulOk m 0 := MulOk.of (by omega) (by omega) (by omega) (by omega)
  have m1 : MulOk m 1 := MulOk.of (by omega) (by omega) (by omega) (by omega)
  have g0 := gMul_int (h := h) m0
  have g1 := gMul_int (h := h) m1
  by_cases c : a = k
  · subst c
    have ke : gEq (.str a) (.str a) h = .ok (.bl true) h := by rw [keq ha hk]; simp
    by_cases c1 : f ≤ (q.2 : Int)
    · by_cases c2 : (q.2 : Int) ≤ l
      · simp [ke, c1, c2, g1]
      · simp [ke, c1, c2, g0]
    · simp [ke, c1, g0]
  · have ke : gEq (.str a) (.str k) h = .ok (.bl false) h := by rw [keq ha hk]; simp [c]
    simp [ke, c, g0]
noncomputable abbrev bRow : Sv := sSeq (sAsg (mLcF (itEnum (mLoc 7)) (gTp 2 (gsCons (gNm 9) (gsCons (gNm 10) (gsNil)))) (cYes) eMv [9, 10]) (gNm 8)) (sExp (mApp (mLoc 5) (mCall bTup (mCons (mLoc 8) (mNil)))))
theorem row_step {ho : D} {a k : Str} {f l m : Int} {row : List Int} {n : Nat} {xs : List D} {H : AH} (hl : row.length ≤ 30) (hx : xs.length ≤ 2) (at_ : H[n]? = some (.lst xs)) (ha : a = kStd ∨ a = kBet) (hk : k = kStd ∨ k = kBet) (hm : -1000000000000 ≤ m ∧ m ≤ 1000000000000) :
    stB (gTp 2 (gsCons (gNm 6) (gsCons (gNm 7) gsNil)) (.tup [.str a, dIs row]) [some ho, some (.str k), some (.int f), some (.int l), some (.int m), some (.lst n), none, none, none, none, none] H) bRow
      = .ok (.nx [some ho, some (.str k), some (.int f), some (.int l), some (.int m), some (.lst n), some (.str a), some (dIs row), some (.fl ((mvI (decide (a = k)) f l m row).map D.int)), none, none]) (H.set n (.lst (xs ++ [dIs (mvI (decide (a = k)) f l m row)]))) := by
  have c := fun (e8 y9 y10 : Option D) => mv_comp (ho := ho) (rs := .lst n) (p := dIs row) (y9 := y9) (y10 := y10) (f := f) (l := l) (row := row) ha hk hm H e8
  have z : row.length ≤ SL := SL_small (by omega)
  have zx : xs.length < SL := by unfold SL; omega
  have en := enum_map D.int row
  have bt := bTup_ints (mvI (decide (a = k)) f l m row) H
  simp only [dIs] at c bt
  simp [dIs, en, z, c, bt, at_, zx]
theorem rows_loop {k : Str} {f l m : Int} {u v : List Int} {h : AH} (hu : u.length ≤ 30) (hv : v.length ≤ 30) (hk : k = kStd ∨ k = kBet) (hm : -1000000000000 ≤ m ∧ m ≤ 1000000000000) :
    forL [] (gTp 2 (gsCons (gNm 6) (gsCons (gNm 7) gsNil))) bRow [6, 7, 8] [.tup [.str kStd, dIs u], .tup [.str kBet, dIs v]] [some (dHo u v), some (.str k), some (.int f), some (.int l), some (.int m), some (.lst h.length), none, none, none, none, none] (h ++ [.lst []])
      = .ok (.nx [some (dHo u v), some (.str k), some (.int f), some (.int l), some (.int m), some (.lst h.length), none, none, none, none, none]) (h ++ [.lst [dIs (mvI (decide (kStd = k)) f l m u), dIs (mvI (decide (kBet = k)) f l m v)]]) := by
  rw [forL_cons, row_step (xs := []) hu (by simp) (by simp) (.inl rfl) hk hm, for2_nx]
  have e1 : (h ++ [Cell.lst []]).set h.length (.lst ([] ++ [dIs (mvI (decide (kStd = k)) f l m u)])) = h ++ [.lst [dIs (mvI (decide (kStd = k)) f l m u)]] := by simp
  rw [e1]
  show forL [] _ _ _ _ [some (dHo u v), some (.str k), some (.int f), some (.int l), some (.int m), some (.lst h.length), none, none, none, none, none] _ = _
  rw [forL_cons, row_step (xs := [dIs (mvI (decide (kStd = k)) f l m u)]) hv (by simp) (by simp) (.inr rfl) hk hm, for2_nx]
  have e2 : (h ++ [Cell.lst [dIs (mvI (decide (kStd = k)) f l m u)]]).set h.length (.lst ([dIs (mvI (decide (kStd = k)) f l m u)] ++ [dIs (mvI (decide (kBet = k)) f l m v)])) = h ++ [.lst [dIs (mvI (decide (kStd = k)) f l m u), dIs (mvI (decide (kBet = k)) f l m v)]] := by simp
  rw [e2, forL_nil]
  rfl
theorem ix_l0 {h : AH} (A B : D) : gIx (.lst h.length) (.int 0) (h ++ [.lst [A, B]]) = .ok A (h ++ [.lst [A, B]]) := gIx_l (xs := [A, B]) (by simp) rfl
theorem ix_l1 {h : AH} (A B : D) : gIx (.lst h.length) (.int 1) (h ++ [.lst [A, B]]) = .ok B (h ++ [.lst [A, B]]) := gIx_l (xs := [A, B]) (by simp) rfl
theorem law_opened_ok {u v : List Int} {k : Str} {f l m : Int} (hu : u.length ≤ 30) (hv : v.length ≤ 30) (hk : k = kStd ∨ k = kBet) (hm : -1000000000000 ≤ m ∧ m ≤ 1000000000000) (h : AH) :
    s__law_opened [dHo u v, .str k, .int f, .int l, .int m] h = .ok (dHo (mvI (decide (kStd = k)) f l m u) (mvI (decide (kBet = k)) f l m v)) h := by
  refine run_app (t := [.lst [dIs (mvI (decide (kStd = k)) f l m u), dIs (mvI (decide (kBet = k)) f l m v)]]) rfl (by simp [dHo, dIs]) ?_
  have c := rows_loop (f := f) (l := l) (h := h) hu hv hk hm
  simp only [dHo, dIs] at c
  have i0 := ix_l0 (h := h) (dIs (mvI (decide (kStd = k)) f l m u)) (dIs (mvI (decide (kBet = k)) f l m v))
  have i1 := ix_l1 (h := h) (dIs (mvI (decide (kStd = k)) f l m u)) (dIs (mvI (decide (kBet = k)) f l m v))
  simp only [dIs] at i0 i1
  simp [b__law_opened, dHo, dIs]
  simp [c, i0, i1]
def rngB (xs : List Int) : Bool := xs.all fun x => decide (0 ≤ x) && decide (x ≤ 1000000000000)
theorem moved_ok {u v : List Int} {k : Str} {f l m : Int} (hu : u.length ≤ 30) (hv : v.length ≤ 30) (hk : k = kStd ∨ k = kBet) (hm : -1000000000000 ≤ m ∧ m ≤ 1000000000000) (hr : rngB (mvI (decide (kStd = k)) f l m u ++ mvI (decide (kBet = k)) f l m v) = true) (h : AH) :
    s_moved [dHo u v, .str k, .int f, .int l, .int m] h = .ok (dHo (mvI (decide (kStd = k)) f l m u) (mvI (decide (kBet = k)) f l m v)) h := by
  refine run_app (t := [.lst [dIs (mvI (decide (kStd = k)) f l m u), dIs (mvI (decide (kBet = k)) f l m v)]]) rfl (by simp [dHo, dIs]) ?_
  have c := rows_loop (f := f) (l := l) (h := h) hu hv hk hm
  have lu : (mvI (decide (kStd = k)) f l m u).length = u.length := by simp [mvI]
  have lv : (mvI (decide (kBet = k)) f l m v).length = v.length := by simp [mvI]
  generalize mvI (decide (kStd = k)) f l m u = p at c hr lu ⊢
  generalize mvI (decide (kBet = k)) f l m v = q at c hr lv ⊢
  have z : p.length + q.length ≤ SL := SL_small (by omega)
  have cc : ∀ (env : En) (H : AH), 10 < env.length → lcL [] (gNm 10) cYes (mCall s_is_between (mCons (mLoc 10) (mCons (mCon (.int 0)) (mCons (mCon (.int 1000000000000)) (mNil))))) env ((p ++ q).map D.int) H = .ok ((p ++ q).map fun x => D.bl (decide (0 ≤ x) && decide (x ≤ 1000000000000))) H := fun env H hv =>
    lcL_map D.int (fun x => D.bl (decide (0 ≤ x) && decide (x ≤ 1000000000000))) _ (fun x _ => by
      have e := is_between_int x 0 1000000000000 H
      simp [hv, e]) fun _ _ => gNm_ok
  have al := fun H : AH => bAll_map (h := H) (fun x : Int => decide (0 ≤ x) && decide (x ≤ 1000000000000)) (p ++ q)
  have hr2 : ((p ++ q).all fun x => decide (0 ≤ x) && decide (x ≤ 1000000000000)) = true := hr
  rw [hr2] at al
  simp only [List.map_append] at cc al
  simp only [dHo, dIs] at c
  have i0 := ix_l0 (h := h) (dIs p) (dIs q)
  have i1 := ix_l1 (h := h) (dIs p) (dIs q)
  simp only [dIs] at i0 i1
  have z2 : (p.map D.int ++ q.map D.int).length ≤ SL := by simpa using z
  simp [b_moved, dHo, dIs]
  simp [c, i0, i1, z, cc, al]
theorem run_erapp {np m : Nat} {body : Sv} {ds : List D} {h t : AH} {cn : Str} (hl : ds.length = np) (e : body (ds.map some ++ List.replicate (m - np) none) h = .err ⟨cn, none⟩ (h ++ t)) : runDef np m body ds h = .err ⟨cn, none⟩ h := by
  unfold runDef
  rw [if_pos hl, e]
  show cutE h ⟨cn, none⟩ (h ++ t) = _
  unfold cutE
  rw [if_pos ⟨rfl, fun i c hi ei => .inl (by rwa [List.getElem?_append_left hi] at ei)⟩, List.take_left]
theorem moved_bad {u v : List Int} {k : Str} {f l m : Int} (hu : u.length ≤ 30) (hv : v.length ≤ 30) (hk : k = kStd ∨ k = kBet) (hm : -1000000000000 ≤ m ∧ m ≤ 1000000000000) (hr : rngB (mvI (decide (kStd = k)) f l m u ++ mvI (decide (kBet = k)) f l m v) = false) (h : AH) :
    s_moved [dHo u v, .str k, .int f, .int l, .int m] h = .err ⟨"RoomsOutOfRange", none⟩ h := by
  refine run_erapp (t := [.lst [dIs (mvI (decide (kStd = k)) f l m u), dIs (mvI (decide (kBet = k)) f l m v)]]) rfl ?_
  have c := rows_loop (f := f) (l := l) (h := h) hu hv hk hm
  have lu : (mvI (decide (kStd = k)) f l m u).length = u.length := by simp [mvI]
  have lv : (mvI (decide (kBet = k)) f l m v).length = v.length := by simp [mvI]
  generalize mvI (decide (kStd = k)) f l m u = p at c hr lu ⊢
  generalize mvI (decide (kBet = k)) f l m v = q at c hr lv ⊢
  have z : p.length + q.length ≤ SL := SL_small (by omega)
  have cc : ∀ (env : En) (H : AH), 10 < env.length → lcL [] (gNm 10) cYes (mCall s_is_between (mCons (mLoc 10) (mCons (mCon (.int 0)) (mCons (mCon (.int 1000000000000)) (mNil))))) env ((p ++ q).map D.int) H = .ok ((p ++ q).map fun x => D.bl (decide (0 ≤ x) && decide (x ≤ 1000000000000))) H := fun env H hv =>
    lcL_map D.int (fun x => D.bl (decide (0 ≤ x) && decide (x ≤ 1000000000000))) _ (fun x _ => by
      have e := is_between_int x 0 1000000000000 H
      simp [hv, e]) fun _ _ => gNm_ok
  have al := fun H : AH => bAll_map (h := H) (fun x : Int => decide (0 ≤ x) && decide (x ≤ 1000000000000)) (p ++ q)
  have hr2 : ((p ++ q).all fun x => decide (0 ≤ x) && decide (x ≤ 1000000000000)) = false := hr
  rw [hr2] at al
  simp only [List.map_append] at cc al
  simp only [dHo, dIs] at c
  have i0 := ix_l0 (h := h) (dIs p) (dIs q)
  have i1 := ix_l1 (h := h) (dIs p) (dIs q)
  simp only [dIs] at i0 i1
  simp [b_moved, dHo, dIs]
  simp [c, i0, i1, z, cc, al]
theorem notin_kinds (k : Str) (h : AH) : gNotInT (.str k) (.tup [.str kStd, .str kBet]) h = .ok (.bl (!(kStd == k || kBet == k))) h := by
  simp [gNotInT, strsD]
theorem check_kind_ok {k : Str} (hk : k = kStd ∨ k = kBet) (h : AH) : s_check_kind [.str k] h = .ok .non h := by
  have e : (kStd == k || kBet == k) = true := by rcases hk with rfl | rfl <;> decide
  have n := notin_kinds k h
  rw [e] at n
  unfold s_check_kind runDef
  simp [b_check_kind, gIs, tyD, isTy, n, cut_same]
theorem check_kind_rooms (h : AH) : s_check_kind [.str "rooms"] h = .err ⟨"InvalidKind", none⟩ h := by
  have e : (kStd == ("rooms" : Str) || kBet == ("rooms" : Str)) = false := by decide
  have n := notin_kinds "rooms" h
  rw [e] at n
  refine run_er rfl ?_
  simp [b_check_kind, gIs, tyD, isTy, n]
theorem check_span_ok {u v : List Int} {f l : Int} (h0 : 0 ≤ f) (h1 : f ≤ l) (h2 : l ≤ (u.length : Int) - 1) (h : AH) : s_check_span [dHo u v, .int f, .int l] h = .ok .non h := by
  have a1 : s_is_between [.int f, .int 0, .int ((u.length : Int) - 1)] h = .ok (.bl true) h := by rw [is_between_int]; simp [h0]; omega
  have a2 : s_is_between [.int l, .int f, .int ((u.length : Int) - 1)] h = .ok (.bl true) h := by rw [is_between_int]; simp [h1, h2]
  unfold s_check_span runDef
  simp [b_check_span, dHo, dIs, a1, a2, cut_same]
theorem check_span_first {u v : List Int} {d d2 : D} (hd : pl1 d = true) (hb : betw d 0 ((u.length : Int) - 1) = false) (h : AH) : s_check_span [dHo u v, d, d2] h = .err ⟨"InvalidSpan", none⟩ h := by
  have a1 := is_between_tot hd 0 ((u.length : Int) - 1) h
  rw [hb] at a1
  refine run_er rfl ?_
  simp [b_check_span, dHo, dIs, a1]
theorem check_span_last {u v : List Int} {f : Int} {d : D} (hf : 0 ≤ f ∧ f ≤ (u.length : Int) - 1) (hd : pl1 d = true) (hb : betw d f ((u.length : Int) - 1) = false) (h : AH) : s_check_span [dHo u v, .int f, d] h = .err ⟨"InvalidSpan", none⟩ h := by
  have a1 : s_is_between [.int f, .int 0, .int ((u.length : Int) - 1)] h = .ok (.bl true) h := by rw [is_between_int]; simp [hf.1]; omega
  have a2 := is_between_tot hd f ((u.length : Int) - 1) h
  rw [hb] at a2
  refine run_er rfl ?_
  simp [b_check_span, dHo, dIs, a1, a2]
theorem last_night_int {u v : List Int} (l : Int) (h : AH) : s_last_night [dHo u v, .int l] h = .ok (.int l) h := by
  refine run_eq rfl ?_
  simp [b_last_night, dHo, dIs, gIsN, isN]
theorem last_night_non {u v : List Int} (h : AH) : s_last_night [dHo u v, .non] h = .ok (.int ((u.length : Int) - 1)) h := by
  refine run_eq rfl ?_
  simp [b_last_night, dHo, dIs, gIsN, isN]
theorem last_night_bl {u v : List Int} (l : Bool) (h : AH) : s_last_night [dHo u v, .bl l] h = .ok (.bl l) h := by
  refine run_eq rfl ?_
  simp [b_last_night, dHo, dIs, gIsN, isN]
theorem changed_ok {u v : List Int} {k : Str} {f l m : Int} {d : D} (o : HoOk u v) (hk : k = kStd ∨ k = kBet) (h0 : 0 ≤ f) (h1 : f ≤ l) (h2 : l ≤ (u.length : Int) - 1) (hm : -1000000000000 ≤ m ∧ m ≤ 1000000000000) (h : AH) (hd : s_last_night [dHo u v, d] h = .ok (.int l) h)
    (hr : rngB (mvI (decide (kStd = k)) f l m u ++ mvI (decide (kBet = k)) f l m v) = true) :
    s_changed [dHo u v, .str k, .int f, d, .int m] h = .ok (dHo (mvI (decide (kStd = k)) f l m u) (mvI (decide (kBet = k)) f l m v)) h := by
  have a1 := check_house_ok o h
  have a2 := check_kind_ok hk h
  have a3 := check_span_ok (v := v) h0 h1 h2 h
  have a4 := moved_ok (f := f) (l := l) o.2.1 (by have := o.2.2.1; have := o.2.1; omega) hk hm hr h
  refine run_eq rfl ?_
  simp [b_changed, a1, a2, hd, a3, a4]
theorem changed_out {u v : List Int} {k : Str} {f l m : Int} {d : D} (o : HoOk u v) (hk : k = kStd ∨ k = kBet) (h0 : 0 ≤ f) (h1 : f ≤ l) (h2 : l ≤ (u.length : Int) - 1) (hm : -1000000000000 ≤ m ∧ m ≤ 1000000000000) (h : AH) (hd : s_last_night [dHo u v, d] h = .ok (.int l) h)
    (hr : rngB (mvI (decide (kStd = k)) f l m u ++ mvI (decide (kBet = k)) f l m v) = false) :
    s_changed [dHo u v, .str k, .int f, d, .int m] h = .err ⟨"RoomsOutOfRange", none⟩ h := by
  have a1 := check_house_ok o h
  have a2 := check_kind_ok hk h
  have a3 := check_span_ok (v := v) h0 h1 h2 h
  have a4 := moved_bad (f := f) (l := l) o.2.1 (by have := o.2.2.1; have := o.2.1; omega) hk hm hr h
  refine run_er rfl ?_
  simp [b_changed, a1, a2, hd, a3, a4]
theorem changed_span {u v : List Int} {k : Str} {d1 d2 d3 d4 : D} (o : HoOk u v) (hk : k = kStd ∨ k = kBet) (h : AH) (hd : s_last_night [dHo u v, d2] h = .ok d4 h) (hs : s_check_span [dHo u v, d1, d4] h = .err ⟨"InvalidSpan", none⟩ h) :
    s_changed [dHo u v, .str k, d1, d2, d3] h = .err ⟨"InvalidSpan", none⟩ h := by
  have a1 := check_house_ok o h
  have a2 := check_kind_ok hk h
  refine run_er rfl ?_
  simp [b_changed, a1, a2, hd, hs]
theorem changed_kind {u v : List Int} {d1 d2 d3 : D} (o : HoOk u v) (h : AH) : s_changed [dHo u v, .str "rooms", d1, d2, d3] h = .err ⟨"InvalidKind", none⟩ h := by
  have a1 := check_house_ok o h
  have a2 := check_kind_rooms h
  refine run_er rfl ?_
  simp [b_changed, a1, a2]
theorem changed_house {d d1 d2 d3 d4 : D} (hd : pld d = true) (hb : houseB d = false) (h : AH) : s_changed [d, d1, d2, d3, d4] h = .err ⟨"InvalidHouse", none⟩ h := by
  have a1 := check_house_bad hd hb h
  refine run_er rfl ?_
  simp [b_changed, a1]
/-! ### within the bounds -/
theorem rng_move {u v : List Int} {on1 on2 : Bool} {f l m : Int} : rngB (mvI on1 f l m u ++ mvI on2 f l m v) = (rngB (mvI on1 f l m u) && rngB (mvI on2 f l m v)) := by
  unfold rngB
  rw [List.all_append]
theorem rng_off {f l m : Int} {row : List Int} (hr : ∀ x ∈ row, 0 ≤ x ∧ x ≤ 1000000000000) : rngB (mvI false f l m row) = true := by
  unfold rngB mvI
  rw [List.all_eq_true]
  intro x hx
  obtain ⟨q, hq, rfl⟩ := List.mem_map.mp hx
  have hq1 : q.1 ∈ row := (List.mem_zipIdx hq).2.2 ▸ List.getElem_mem _
  have := hr _ hq1
  simp; omega
theorem mem_cut {row : List Int} {a b : Nat} {x : Int} : x ∈ (row.drop a).take (b + 1 - a) ↔ ∃ i, a ≤ i ∧ i ≤ b ∧ row[i]? = some x := by
  rw [List.mem_iff_getElem?]
  constructor
  · rintro ⟨j, hj⟩
    rw [List.getElem?_take] at hj
    split at hj
    · rw [List.getElem?_drop] at hj
      exact ⟨a + j, by omega, by omega, hj⟩
    · cases hj
  · rintro ⟨i, h1, h2, h3⟩
    refine ⟨i - a, ?_⟩
    rw [List.getElem?_take, if_pos (by omega), List.getElem?_drop, show a + (i - a) = i by omega, h3]
theorem mv_mem {on : Bool} {f l m : Int} {row : List Int} {y : Int} : y ∈ mvI on f l m row ↔ ∃ (i : Nat) (x : Int), row[i]? = some x ∧ y = x + m * (if (on && decide (f ≤ (i : Int)) && decide ((i : Int) ≤ l)) = true then 1 else 0) := by
  unfold mvI
  rw [List.mem_map]
  constructor
  · rintro ⟨⟨x, i⟩, hq, rfl⟩
    obtain ⟨k, hk⟩ := List.mem_iff_getElem?.mp hq
    rw [List.getElem?_zipIdx] at hk
    obtain ⟨z, hz, e⟩ := Option.map_eq_some_iff.mp hk
    cases e
    exact ⟨0 + k, x, by rwa [Nat.zero_add], rfl⟩
  · rintro ⟨i, x, hx, rfl⟩
    refine ⟨(x, i), List.mem_iff_getElem?.mpr ⟨i, ?_⟩, rfl⟩
    rw [List.getElem?_zipIdx, hx]; simp
theorem rng_on {a b : Nat} {m x : Int} {r row : List Int} (hr : ∀ x ∈ row, 0 ≤ x ∧ x ≤ 1000000000000) (e : (row.drop a).take (b + 1 - a) = x :: r) : rngB (mvI true a b m row) = (decide (0 - minL x r ≤ m) && decide (m ≤ 1000000000000 - maxL x r)) := by
  have mn := minL_le r x
  have mx := maxL_ge r x
  have mnm := minL_mem r x
  have mxm := maxL_mem r x
  have inn : ∀ z, z = x ∨ z ∈ r → ∃ i : Nat, a ≤ i ∧ i ≤ b ∧ row[i]? = some z := fun z hz => mem_cut.mp (by rw [e]; exact List.mem_cons.mpr hz)
  rw [Bool.eq_iff_iff]
  unfold rngB
  rw [List.all_eq_true, Bool.and_eq_true, decide_eq_true_eq, decide_eq_true_eq]
  constructor
  · intro h
    have one : ∀ z, z = x ∨ z ∈ r → 0 ≤ z + m ∧ z + m ≤ 1000000000000 := fun z hz => by
      obtain ⟨i, h1, h2, h3⟩ := inn z hz
      have := h (z + m * 1) (mv_mem.mpr ⟨i, z, h3, by rw [if_pos]; simp; omega⟩)
      simp at this
      omega
    have o1 := one _ mnm
    have o2 := one _ mxm
    omega
  · intro ⟨h1, h2⟩ y hy
    obtain ⟨i, z, hz, rfl⟩ := mv_mem.mp hy
    have hz2 := hr z (List.mem_of_getElem? hz)
    by_cases c : a ≤ i ∧ i ≤ b
    · have hm : z ∈ x :: r := by rw [← e]; exact mem_cut.mpr ⟨i, c.1, c.2, hz⟩
      rcases List.mem_cons.mp hm with rfl | hm
      · have := mn.1; have := mx.1
        rw [if_pos (by simp; omega)]
        simp; omega
      · have := mn.2 z hm; have := mx.2 z hm
        rw [if_pos (by simp; omega)]
        simp; omega
    · rw [if_neg (by simp; omega)]
      simp; omega
theorem gNe_house (u v u2 v2 : List Int) (h : AH) : gNe (dHo u v) (dHo u2 v2) h = .ok (.bl (!decide ([u, v] = [u2, v2]))) h := gNe_enc (encTup encI) (by decide) [u, v] [u2, v2] h
theorem gNe_self (u v : List Int) (h : AH) : gNe (dHo u v) (dHo u v) h = .ok (.bl false) h := by rw [gNe_house]; simp
theorem mv_zero (on : Bool) (f l : Int) (row : List Int) : mvI on f l 0 row = row := by
  unfold mvI
  have e : (fun q : Int × Nat => q.1 + 0 * (if (on && decide (f ≤ (q.2 : Int)) && decide ((q.2 : Int) ≤ l)) = true then 1 else 0)) = fun q => q.1 := by funext q; simp
  rw [e]
  exact List.zipIdx_map_fst 0 row
/-- a row with all in its bounds: one more stays in them -/
theorem rng_one {on : Bool} {f l : Int} {row : List Int} (hr : ∀ x ∈ row, 0 ≤ x ∧ x < 1000000000000) : rngB (mvI on f l 1 row) = true := by
  unfold rngB
  rw [List.all_eq_true]
  intro y hy
  obtain ⟨i, z, hz, rfl⟩ := mv_mem.mp hy
  have := hr z (List.mem_of_getElem? hz)
  simp only [Bool.and_eq_true, decide_eq_true_eq]
  split <;> omega
theorem told_house {u v : List Int} (hu : u.length ≤ 30) (hv : v.length ≤ 30) (h : AH) : s__law_same 8 [.tup [.str "told", dHo u v], .tup [.str "told", dHo u v]] h = .ok (.bl true) h := by
  refine told_same ?_ ?_ h
  · have zu : u.length ≤ SL := SL_small (by omega)
    have zv : v.length ≤ SL := SL_small (by omega)
    have su : smps (u.map D.int) = true := smps_map (fun _ => rfl) u
    have sv : smps (v.map D.int) = true := smps_map (fun _ => rfl) v
    show (decide ([dIs u, dIs v].length ≤ SL) && ((decide ((u.map D.int).length ≤ SL) && smps (u.map D.int)) && ((decide ((v.map D.int).length ≤ SL) && smps (v.map D.int)) && true))) = true
    rw [su, sv]; simp [zu, zv]
  · have du : deps (u.map D.int) ≤ 1 := deps_map (fun _ => Nat.le_refl 1) u
    have dv : deps (v.map D.int) ≤ 1 := deps_map (fun _ => Nat.le_refl 1) v
    show max (deps (u.map D.int) + 1) (max (deps (v.map D.int) + 1) 0) + 1 ≤ 7
    omega
theorem Nx.for_passG {α : Type} {P : En → AH → Prop} {env : En} {h h1 : AH} {b : Sv} {W : List Nat} {it : Iv} {t : Gv} {w : List (Nat × List D)} (k : α → D) (xs : List α) (q : it env h = .ok ⟨xs.map k, w⟩ h1) (hw : watchOk w h1)
    (p : ∀ x ∈ xs, ∃ e1, t (k x) (wipeE env W) h1 = .ok e1 h1 ∧ Nx b (fun e1 h2 => wipeE e1 W = wipeE env W ∧ h2 = h1) e1 h1) (r : P (wipeE env W) h1) : Nx (sFor it t b W) P env h :=
  Nx.forw q ⟨_, _, forL_pass k hw xs p, r⟩
theorem Nx.for_relG {α : Type} {it : Iv} {t : Gv} {b : Sv} {W : List Nat} {P : En → AH → Prop} {env : En} {h h1 : AH} (k : α → D) (xs : List α) (I : List α → En → AH → Prop) (q : it env h = .ok ⟨xs.map k, []⟩ h1) (i : I xs (wipeE env W) h1)
    (step : ∀ x r env h, I (x :: r) env h → ∃ e1, t (k x) env h = .ok e1 h ∧ Nx b (fun e2 h2 => I r (wipeE e2 W) h2) e1 h) (r : ∀ e h, I [] e h → P e h) : Nx (sFor it t b W) P env h :=
  Nx.forw q ((forL_relI k I step xs _ _ i).mono r)

theorem span_bad {u v : List Int} {a b : Nat} (h1 : a ≤ b) (h2 : b < u.length) (h : AH) : ∀ q ∈ [(D.int (-1), D.int b), (.int a, .int u.length), (.int b, .int ((a : Int) - 1)), (.non, .non), (.int a, .bl true), (.str "0", .int b)],
    ∃ d4, s_last_night [dHo u v, q.2] h = .ok d4 h ∧ s_check_span [dHo u v, q.1, d4] h = .err ⟨"InvalidSpan", none⟩ h := by
  intro q hq
  simp only [List.mem_cons, List.not_mem_nil, or_false] at hq
  rcases hq with rfl | rfl | rfl | rfl | rfl | rfl
  · exact ⟨_, last_night_int _ h, check_span_first rfl rfl h⟩
  · exact ⟨_, last_night_int _ h, check_span_last ⟨by omega, by omega⟩ rfl (by simp only [betw, Bool.and_eq_false_iff, decide_eq_false_iff_not]; omega) h⟩
  · exact ⟨_, last_night_int _ h, check_span_last ⟨by omega, by omega⟩ rfl (by simp only [betw, Bool.and_eq_false_iff, decide_eq_false_iff_not]; omega) h⟩
  · exact ⟨_, last_night_non h, check_span_first rfl rfl h⟩
  · exact ⟨_, last_night_bl _ h, check_span_last ⟨by omega, by omega⟩ rfl rfl h⟩
  · exact ⟨_, last_night_int _ h, check_span_first rfl rfl h⟩
theorem spans_pass {e0 e1 e4 e8 e9 e10 e12 e13 : Option D} {u v : List Int} {a b : Nat} {k : Str} {m : Int} {H : AH} (o : HoOk u v) (hk : k = kStd ∨ k = kBet) (h1 : a ≤ b) (h2 : b < u.length) :
    Nx (sFor (itSeq (mLf (mCons (mTup (mCons (m1 gNeg (mCon (.int 1))) (mCons (mLoc 6) (mNil)))) (mCons (mTup (mCons (mLoc 5) (mCons (mLoc 3) (mNil)))) (mCons (mTup (mCons (mLoc 6) (mCons (m2 gSub (mLoc 5) (mCon (.int 1))) (mNil)))) (mCons (mTup (mCons (mCon .non) (mCons (mCon .non) (mNil)))) (mCons (mTup (mCons (mLoc 5) (mCons (mCon (.bl true)) (mNil)))) (mCons (mTup (mCons (mCon (.str "0")) (mCons (mLoc 6) (mNil)))) (mNil))))))))) (gTp 2 (gsCons (gNm 14) (gsCons (gNm 15) (gsNil)))) (sSeq (sAsg (mTried (mCallD 1 4 s_changed [] [(true, 0), (true, 1), (true, 2), (true, 3)] (mCons (mLoc 2) (mNil)) (mCons (mLoc 7) (mCons (mLoc 14) (mCons (mLoc 15) (mCons (mLoc 11) (mNil))))))) (gNm 16)) (sIf (mTest (m2 gNe (mLoc 16) (mTup (mCons (mCon (.str "InvalidSpan")) (mNil))))) (sRet (mCon (.bl false))) (sNil))) [14, 15, 16]) (fun e h' => e = [e0, e1, some (dHo u v), some (.int u.length), e4, some (.int a), some (.int b), some (.str k), e8, e9, e10, some (.int m), e12, e13, none, none, none, none, none] ∧ h' = H)
      [e0, e1, some (dHo u v), some (.int u.length), e4, some (.int a), some (.int b), some (.str k), e8, e9, e10, some (.int m), e12, e13, none, none, none, none, none] H := by
  refine Nx.for_passG (fun q : D × D => D.tup [q.1, q.2]) [(D.int (-1), D.int b), (.int a, .int u.length), (.int b, .int ((a : Int) - 1)), (.non, .non), (.int a, .bl true), (.str "0", .int b)] (w := []) (h1 := H) (by simp) trivial (fun q hq => ?_) ⟨by simp, rfl⟩
  obtain ⟨d4, q1, q2⟩ := span_bad (v := v) h1 h2 H q hq
  have cs := changed_span (d3 := .int m) o hk H q1 q2
  refine ⟨_, by simp; rfl, ?_⟩
  refine Nx.seq (Nx.asg (d := .tup [.str "InvalidSpan"]) (h1 := H) (by simp [sel, cs, tried_er (cn := "InvalidSpan") (by decide)]) ?_)
  exact Nx.pass (h1 := H) (by simp [gNe_kind (cn := "InvalidSpan") (by decide)]) ⟨by simp, rfl⟩
theorem p12 (H : AH) : gPow (.int 10) (.int 12) H = .ok (.int 1000000000000) H := gPow_int (i := 10) (j := 12) ⟨by decide, by decide, by decide⟩
theorem more_turn {e0 e1 e4 e8 : Option D} {u v : List Int} {a b : Nat} {k : Str} {m low high : Int} {H : AH} (o : HoOk u v) (hk : k = kStd ∨ k = kBet) (h1 : a ≤ b) (h2 : b < u.length)
    (hR : ∀ m : Int, rngB (mvI (decide (kStd = k)) a b m u ++ mvI (decide (kBet = k)) a b m v) = (decide (low ≤ m) && decide (m ≤ high))) :
    Nx (sIf (mTest (m3c gLe gLe (m1 gNeg (m2 gPow (mCon (.int 10)) (mCon (.int 12)))) (mLoc 11) (m2 gPow (mCon (.int 10)) (mCon (.int 12))))) (sSeq (sAsg (m3c gLe gLe (mLoc 9) (mLoc 11) (mLoc 10)) (gNm 12)) (sSeq (sAsg (mIfE (mTest (mLoc 12)) (mTup (mCons (mCon (.str "told")) (mCons (mCall s__law_opened (mCons (mLoc 2) (mCons (mLoc 7) (mCons (mLoc 5) (mCons (mLoc 6) (mCons (mLoc 11) (mNil))))))) (mNil)))) (mTup (mCons (mCon (.str "RoomsOutOfRange")) (mNil)))) (gNm 13)) (sSeq (sIf (mNotT (mTest (mCall (s__law_same 8) (mCons (mTried (mCallD 1 4 s_changed [] [(true, 1), (true, 3), (true, 2), (true, 0)] (mCons (mLoc 2) (mNil)) (mCons (mLoc 11) (mCons (mLoc 7) (mCons (mLoc 6) (mCons (mLoc 5) (mNil))))))) (mCons (mLoc 13) (mNil)))))) (sRet (mCon (.bl false))) (sNil)) (sFor (itSeq (mLf (mCons (mTup (mCons (m1 gNeg (mCon (.int 1))) (mCons (mLoc 6) (mNil)))) (mCons (mTup (mCons (mLoc 5) (mCons (mLoc 3) (mNil)))) (mCons (mTup (mCons (mLoc 6) (mCons (m2 gSub (mLoc 5) (mCon (.int 1))) (mNil)))) (mCons (mTup (mCons (mCon .non) (mCons (mCon .non) (mNil)))) (mCons (mTup (mCons (mLoc 5) (mCons (mCon (.bl true)) (mNil)))) (mCons (mTup (mCons (mCon (.str "0")) (mCons (mLoc 6) (mNil)))) (mNil))))))))) (gTp 2 (gsCons (gNm 14) (gsCons (gNm 15) (gsNil)))) (sSeq (sAsg (mTried (mCallD 1 4 s_changed [] [(true, 0), (true, 1), (true, 2), (true, 3)] (mCons (mLoc 2) (mNil)) (mCons (mLoc 7) (mCons (mLoc 14) (mCons (mLoc 15) (mCons (mLoc 11) (mNil))))))) (gNm 16)) (sIf (mTest (m2 gNe (mLoc 16) (mTup (mCons (mCon (.str "InvalidSpan")) (mNil))))) (sRet (mCon (.bl false))) (sNil))) [14, 15, 16])))) (sNil)) (fun e h' => wipeE e [11, 12, 13, 14, 15, 16] = [e0, e1, some (dHo u v), some (.int u.length), e4, some (.int a), some (.int b), some (.str k), e8, some (.int low), some (.int high), none, none, none, none, none, none, none, none] ∧ h' = H)
      [e0, e1, some (dHo u v), some (.int u.length), e4, some (.int a), some (.int b), some (.str k), e8, some (.int low), some (.int high), some (.int m), none, none, none, none, none, none, none] H := by
  have lu := o.2.1
  have lv : v.length ≤ 30 := by have := o.2.2.1; omega
  by_cases c1 : -1000000000000 ≤ m
  · by_cases c2 : m ≤ 1000000000000
    · refine Nx.ifT (h1 := H) (by simp [p12, c1, c2]) ?_
      refine Nx.seq (Nx.asg (d := .bl (decide (low ≤ m) && decide (m ≤ high))) (h1 := H) ?_ ?_)
      · by_cases g1 : low ≤ m
        · by_cases g2 : m ≤ high <;> simp [g1, g2]
        · simp [g1]
      have hRm := hR m
      have ln := last_night_int (u := u) (v := v) (b : Int) H
      by_cases g : (decide (low ≤ m) && decide (m ≤ high)) = true
      · rw [g] at hRm ⊢
        have lo := law_opened_ok (u := u) (v := v) (f := a) (l := b) lu lv hk ⟨c1, c2⟩ H
        have ch := changed_ok (d := .int b) o hk (by omega) (by omega) (by omega) ⟨c1, c2⟩ H ln hRm
        have sm := told_house (u := mvI (decide (kStd = k)) a b m u) (v := mvI (decide (kBet = k)) a b m v) (by simp [mvI]; omega) (by simp [mvI]; omega) H
        refine Nx.seq (Nx.asg (d := .tup [.str "told", dHo (mvI (decide (kStd = k)) a b m u) (mvI (decide (kBet = k)) a b m v)]) (h1 := H) (by simp [lo]) ?_)
        refine Nx.seq (Nx.pass (h1 := H) (by simp [sel, ch, sm]) ?_)
        exact (spans_pass (e0 := e0) (e1 := e1) (e4 := e4) o hk h1 h2).mono fun e h' ⟨q1, q2⟩ => ⟨by rw [q1]; simp, q2⟩
      · have g : (decide (low ≤ m) && decide (m ≤ high)) = false := by simpa using g
        rw [g] at hRm ⊢
        have ch := changed_out (d := .int b) o hk (by omega) (by omega) (by omega) ⟨c1, c2⟩ H ln hRm
        have sm := kind_same (cn := "RoomsOutOfRange") (by decide) H
        refine Nx.seq (Nx.asg (d := .tup [.str "RoomsOutOfRange"]) (h1 := H) (by simp) ?_)
        refine Nx.seq (Nx.pass (h1 := H) (by simp [sel, ch, tried_er (cn := "RoomsOutOfRange") (by decide), sm]) ?_)
        exact (spans_pass (e0 := e0) (e1 := e1) (e4 := e4) o hk h1 h2).mono fun e h' ⟨q1, q2⟩ => ⟨by rw [q1]; simp, q2⟩
    · exact Nx.ifF (h1 := H) (by simp [p12, c1, c2]) (Nx.nil ⟨by simp, rfl⟩)
  · exact Nx.ifF (h1 := H) (by simp [p12, c1]) (Nx.nil ⟨by simp, rfl⟩)
theorem slice_ne {row : List Int} {a b : Nat} (h1 : a ≤ b) (h2 : b < row.length) : ∃ x r, (row.drop a).take (b + 1 - a) = x :: r := by
  cases e : (row.drop a).take (b + 1 - a) with
  | nil => have := congrArg List.length e; simp at this; omega
  | cons x r => exact ⟨x, r, rfl⟩
theorem slice_cut {row : List Int} {a b : Nat} (h1 : a ≤ b) (h2 : b < row.length) : cutD (row.map D.int) (some (a : Int)) (some ((b : Int) + 1)) = ((row.drop a).take (b + 1 - a)).map D.int := by
  rw [cutD_map, show ((b : Int) + 1) = ((b + 1 : Nat) : Int) by omega]
  unfold cutG
  rw [HT.sIx_nat, HT.sIx_nat, show min a row.length = a by omega, show min (b + 1) row.length = b + 1 by omega]
theorem ints_tup (x : Int) (r : List Int) (H : AH) : rdI H (.tup ((x :: r).map D.int)) = some (x :: r) := by
  show dInts ((x :: r).map fun i => D.int ((fun i : Int => i) i)) = _
  rw [dInts_f]; simp
theorem bMin_tup (x : Int) (r : List Int) (H : AH) : bMin [.tup ((x :: r).map D.int)] H = .ok (.int (minL x r)) H := by
  show (match rdI H (.tup ((x :: r).map D.int)) with
    | some (a :: r) => R.ok (D.int (minL a r)) H
    | _ => .bad) = _
  rw [ints_tup]
theorem bMax_tup (x : Int) (r : List Int) (H : AH) : bMax [.tup ((x :: r).map D.int)] H = .ok (.int (maxL x r)) H := by
  show (match rdI H (.tup ((x :: r).map D.int)) with
    | some (a :: r) => R.ok (D.int (maxL a r)) H
    | _ => .bad) = _
  rw [ints_tup]
theorem rng_both {u v : List Int} {a b : Nat} {k : Str} {x : Int} {r : List Int} (o : HoOk u v) (hk : k = kStd ∨ k = kBet) (e : (((if k = kBet then v else u)).drop a).take (b + 1 - a) = x :: r) (m : Int) :
    rngB (mvI (decide (kStd = k)) a b m u ++ mvI (decide (kBet = k)) a b m v) = (decide (0 - minL x r ≤ m) && decide (m ≤ 1000000000000 - maxL x r)) := by
  have n1 : ¬ (kBet = kStd) := by decide
  have n2 : ¬ (kStd = kBet) := by decide
  rw [rng_move]
  rcases hk with rfl | rfl
  · rw [if_neg n2] at e
    rw [show decide (kBet = kStd) = false by simp [n1], rng_off o.2.2.2.2, Bool.and_true, show decide (kStd = kStd) = true by simp, rng_on o.2.2.2.1 e]
  · rw [if_pos rfl] at e
    rw [show decide (kStd = kBet) = false by simp [n2], rng_off o.2.2.2.1, Bool.true_and, show decide (kBet = kBet) = true by simp, rng_on o.2.2.2.2 e]
theorem Nx.par {i j : Nat} {es : Av} {P : En → AH → Prop} {env : En} {h h1 : AH} {a b : D} (q : es env h = .ok [a, b] h1) (p : P ((env.set i (some a)).set j (some b)) h1) : Nx (sPar i j es) P env h := ⟨_, h1, by rw [sPar_at, q]; rfl, p⟩
theorem in13 {sc : D} {c : Nat} {u v : List Int} {h : AH} {x : Bag} {n j : Nat} (ha : c < h.length) (o : HoOk u v) (ob : BagOk (n + 4) x) :
    ∃ y : Bag, BagOk n y ∧ Nx (sSeq (sAsg (mCall s__law_take (mCons (mLoc 1) (mCons (mLoc 3) (mNil)))) (gNm 5)) (sSeq (sAsg (m2 gAdd (mLoc 5) (mCall s__law_take (mCons (mLoc 1) (mCons (m2 gSub (mLoc 3) (mLoc 5)) (mNil))))) (gNm 6)) (sSeq (sAsg (m2 gIx (mLf (mCons (mCon (.str "standard")) (mCons (mCon (.str "better")) (mNil)))) (mCall s__law_take (mCons (mLoc 1) (mCons (mCon (.int 2)) (mNil))))) (gNm 7)) (sSeq (sAsg (m2 gIx (mLoc 2) (mCall bInt (mCons (m2 gEq (mLoc 7) (mCon (.str "better"))) (mNil)))) (gNm 8)) (sSeq (sPar 9 10 (mCons (m2 gSub (mCon (.int 0)) (mCall bMin (mCons (mSl (mLoc 8) (oSome (mLoc 5)) (oSome (m2 gAdd (mLoc 6) (mCon (.int 1))))) (mNil)))) (mCons (m2 gSub (m2 gPow (mCon (.int 10)) (mCon (.int 12))) (mCall bMax (mCons (mSl (mLoc 8) (oSome (mLoc 5)) (oSome (m2 gAdd (mLoc 6) (mCon (.int 1))))) (mNil)))) mNil))) (sFor (itSeq (mLf (mCons (mLoc 9) (mCons (mLoc 10) (mCons (m2 gSub (mLoc 9) (mCon (.int 1))) (mCons (m2 gAdd (mLoc 10) (mCon (.int 1))) (mCons (m2 gSub (mCall s__law_take (mCons (mLoc 1) (mCons (mCon (.int 5)) (mNil)))) (mCon (.int 2))) (mNil)))))))) (gNm 11) (sIf (mTest (m3c gLe gLe (m1 gNeg (m2 gPow (mCon (.int 10)) (mCon (.int 12)))) (mLoc 11) (m2 gPow (mCon (.int 10)) (mCon (.int 12))))) (sSeq (sAsg (m3c gLe gLe (mLoc 9) (mLoc 11) (mLoc 10)) (gNm 12)) (sSeq (sAsg (mIfE (mTest (mLoc 12)) (mTup (mCons (mCon (.str "told")) (mCons (mCall s__law_opened (mCons (mLoc 2) (mCons (mLoc 7) (mCons (mLoc 5) (mCons (mLoc 6) (mCons (mLoc 11) (mNil))))))) (mNil)))) (mTup (mCons (mCon (.str "RoomsOutOfRange")) (mNil)))) (gNm 13)) (sSeq (sIf (mNotT (mTest (mCall (s__law_same 8) (mCons (mTried (mCallD 1 4 s_changed [] [(true, 1), (true, 3), (true, 2), (true, 0)] (mCons (mLoc 2) (mNil)) (mCons (mLoc 11) (mCons (mLoc 7) (mCons (mLoc 6) (mCons (mLoc 5) (mNil))))))) (mCons (mLoc 13) (mNil)))))) (sRet (mCon (.bl false))) (sNil)) (sFor (itSeq (mLf (mCons (mTup (mCons (m1 gNeg (mCon (.int 1))) (mCons (mLoc 6) (mNil)))) (mCons (mTup (mCons (mLoc 5) (mCons (mLoc 3) (mNil)))) (mCons (mTup (mCons (mLoc 6) (mCons (m2 gSub (mLoc 5) (mCon (.int 1))) (mNil)))) (mCons (mTup (mCons (mCon .non) (mCons (mCon .non) (mNil)))) (mCons (mTup (mCons (mLoc 5) (mCons (mCon (.bl true)) (mNil)))) (mCons (mTup (mCons (mCon (.str "0")) (mCons (mLoc 6) (mNil)))) (mNil))))))))) (gTp 2 (gsCons (gNm 14) (gsCons (gNm 15) (gsNil)))) (sSeq (sAsg (mTried (mCallD 1 4 s_changed [] [(true, 0), (true, 1), (true, 2), (true, 3)] (mCons (mLoc 2) (mNil)) (mCons (mLoc 7) (mCons (mLoc 14) (mCons (mLoc 15) (mCons (mLoc 11) (mNil))))))) (gNm 16)) (sIf (mTest (m2 gNe (mLoc 16) (mTup (mCons (mCon (.str "InvalidSpan")) (mNil))))) (sRet (mCon (.bl false))) (sNil))) [14, 15, 16])))) (sNil)) [11, 12, 13, 14, 15, 16])))))) (fun e h' => wipeE e [4, 5, 6, 7, 8, 9, 10, 11, 12, 13, 14, 15, 16] = [some sc, some (.lst c), some (dHo u v), some (.int u.length), none, none, none, none, none, none, none, none, none, none, none, none, none, none, none] ∧ h' = hp h c y [])
      [some sc, some (.lst c), some (dHo u v), some (.int u.length), some (.int j), none, none, none, none, none, none, none, none, none, none, none, none, none, none] (hp h c x []) := by
  have lu1 := o.1
  have lu := o.2.1
  have lv := o.2.2.1
  obtain ⟨r1, x1, e1, a1, a2, o1⟩ := take_ok (t := []) (n := n + 3) ha ob (size := u.length) (by omega) (by omega)
  obtain ⟨a, rfl⟩ := Int.eq_ofNat_of_zero_le a1
  obtain ⟨r2, x2, e2, b1, b2, o2⟩ := take_ok (t := []) (n := n + 2) ha o1 (size := (u.length : Int) - a) (by omega) (by omega)
  obtain ⟨b', rfl⟩ := Int.eq_ofNat_of_zero_le b1
  obtain ⟨r3, x3, e3, c1, c2, o3⟩ := take_ok (t := []) (n := n + 1) ha o2 (size := 2) (by omega) (by omega)
  obtain ⟨r4, x4, e4, d1, d2, o4⟩ := take_ok (t := []) (n := n) ha o3 (size := 5) (by omega) (by omega)
  obtain ⟨b, hb⟩ : ∃ b : Nat, b = a + b' := ⟨_, rfl⟩
  have eb : (a : Int) + (b' : Int) = (b : Int) := by omega
  have h1 : a ≤ b := by omega
  have h2 : b < u.length := by omega
  obtain ⟨k, hk, pk⟩ : ∃ k : Str, (k = kStd ∨ k = kBet) ∧ ∀ H : AH, gIx (.fl [.str kStd, .str kBet]) (.int r3) H = .ok (.str k) H := by
    rcases pick2 (A := .str kStd) (B := .str kBet) c1 c2 with p | p
    · exact ⟨_, .inl rfl, p⟩
    · exact ⟨_, .inr rfl, p⟩
  refine ⟨x4, o4, ?_⟩
  refine Nx.seq (Nx.asg (d := .int a) (h1 := hp h c x1 []) (by simp [e1]) ?_)
  refine Nx.seq (Nx.asg (d := .int b) (h1 := hp h c x2 []) (by simp [e2, eb]) ?_)
  refine Nx.seq (Nx.asg (d := .str k) (h1 := hp h c x3 []) (by simp [e3, pk]) ?_)
  obtain ⟨row, hrow⟩ : ∃ row : List Int, row = if k = kBet then v else u := ⟨_, rfl⟩
  have lr : row.length = u.length := by rw [hrow]; split <;> omega
  refine Nx.seq (Nx.asg (d := dIs row) (h1 := hp h c x3 []) ?_ ?_)
  · have ke := keq hk (.inr rfl) (hp h c x3 [])
    by_cases hc : k = kBet
    · subst hc
      have ke : gEq (.str kBet) (.str kBet) (hp h c x3 []) = .ok (.bl true) (hp h c x3 []) := by rw [ke]; simp
      simp [ke, dHo, hrow]
    · simp [ke, hc, dHo, hrow]
  obtain ⟨z, r, ez⟩ := slice_ne (row := row) h1 (by omega)
  have sl := slice_cut (row := row) h1 (by omega)
  rw [ez] at sl
  have mn := bMin_tup z r (hp h c x3 [])
  have mx := bMax_tup z r (hp h c x3 [])
  refine Nx.seq (Nx.par (a := .int (0 - minL z r)) (b := .int (1000000000000 - maxL z r)) (h1 := hp h c x3 []) ?_ ?_)
  · generalize hp h c x3 [] = H3 at mn mx ⊢
    simp only [dIs]
    generalize row.map D.int = rr at sl ⊢
    generalize (z :: r).map D.int = zz at sl mn mx ⊢
    simp [sl, mn, mx, p12]
  have hR := rng_both (a := a) (b := b) o hk (by rw [← hrow]; exact ez)
  refine Nx.for_pass D.int [0 - minL z r, 1000000000000 - maxL z r, 0 - minL z r - 1, 1000000000000 - maxL z r + 1, r4 - 2] (w := []) (h1 := hp h c x4 []) ?_ trivial (fun m hm => ?_) ⟨by simp, rfl⟩
  · generalize hp h c x3 [] = H3 at e4 ⊢
    generalize hp h c x4 [] = H4 at e4 ⊢
    simp [e4]
  · have p := more_turn (e0 := some sc) (e1 := some (.lst c)) (e4 := some (.int j)) (e8 := some (dIs row)) (m := m) (H := hp h c x4 []) o hk h1 h2 hR
    simpa using p
theorem max_row {u : List Int} (h1 : 1 ≤ u.length) (H : AH) : ∃ M, bMax [dIs u] H = .ok (.int M) H ∧ ∀ x ∈ u, x ≤ M := by
  cases u with
  | nil => simp at h1
  | cons x r => exact ⟨maxL x r, bMax_tup x r H, fun y hy => (List.mem_cons.mp hy).elim (fun e => by rw [e]; exact (maxL_ge r x).1) ((maxL_ge r x).2 y)⟩
theorem k13_turn {S : List Int} (h : AH) (a : Nat) (x : Bag) (ha : a < h.length) (ob : BagOk 600 x) :
    Nx b_law_turn (fun e h' => wipeE e [1, 2, 3, 4, 5, 6, 7, 8, 9, 10, 11, 12, 13, 14, 15, 16, 17, 18] = some (.kl (S.map D.int)) :: List.replicate 18 none ∧ ∃ y t, h' = hp h a y t) ((some (.kl (S.map D.int)) :: List.replicate 18 none).set 1 (some (.lst a))) (hp h a x []) := by
  generalize D.kl (S.map D.int) = sc
  obtain ⟨u, v, gs, xs, y, e1, o, og, lx, oy, fw⟩ := pick_ok2 (n := 99) (x := x) (env := (some sc :: List.replicate 18 none).set 1 (some (.lst a))) rfl ha (ob.mono (by omega))
  have e1' : m2 gIx E_pick (mCon (.int 0)) ((some sc :: List.replicate 18 none).set 1 (some (.lst a))) (hp h a x []) = .ok (dHo u v) (hp h a y []) := by rw [m2_at, e1]; simp
  refine Nx.seq (Nx.asg (d := dHo u v) (h1 := hp h a y []) e1' ?_)
  refine Nx.seq (Nx.asg (d := .int u.length) (h1 := hp h a y []) (by simp [dHo, dIs]) ?_)
  refine Nx.seq (Nx.for_rel (fun k : Nat => D.int k) (List.range 6) (fun r e h' => ∃ y : Bag, e = [some sc, some (.lst a), some (dHo u v), some (.int u.length), none, none, none, none, none, none, none, none, none, none, none, none, none, none, none] ∧ h' = hp h a y [] ∧ BagOk (9 + 4 * r.length) y) (by simpa using rng_ok (j := 6) (by omega) _) ⟨y, rfl, rfl, oy.mono (by simp)⟩ (fun k r env H ⟨y1, e1, e2, o1⟩ => ?_) fun e H ⟨y1, e1, e2, o1⟩ => ?_)
  · subst e1 e2
    obtain ⟨y2, o2, p⟩ := in13 (sc := sc) (j := k) (n := 9 + 4 * r.length) ha o (o1.mono (by simp; omega))
    exact p.mono fun e h' ⟨q1, q2⟩ => ⟨y2, q1, q2, o2⟩
  subst e1 e2
  have fin_ : ∃ y' t', hp h a y1 [] = hp h a y' t' := ⟨_, _, rfl⟩
  generalize hp h a y1 [] = H at fin_ ⊢
  have lu1 := o.1
  have lu := o.2.1
  have lv : v.length ≤ 30 := by have := o.2.2.1; omega
  have n1 : ¬ (kBet = kStd) := by decide
  have n2 : ¬ (kStd = kBet) := by decide
  obtain ⟨mu, bu, hu⟩ := max_row (u := u) lu1 H
  obtain ⟨mv, bv, hv⟩ := max_row (u := v) (by have := o.2.2.1; omega) H
  have op : ∀ (k : Str) (hk : k = kStd ∨ k = kBet) (f l : Int), s__law_opened [dHo u v, .str k, .int f, .int l, .int 1] H = .ok (dHo (mvI (decide (kStd = k)) f l 1 u) (mvI (decide (kBet = k)) f l 1 v)) H := fun k hk f l =>
    law_opened_ok lu lv hk ⟨by omega, by omega⟩ H
  have opB := op kBet (.inr rfl) 0 ((u.length : Int) - 1)
  have opS := op kStd (.inl rfl) 0 ((u.length : Int) - 1)
  have opL := op kBet (.inr rfl) ((u.length : Int) - 1) ((u.length : Int) - 1)
  refine Nx.seq (Nx.asg (d := .int 1000000000000) (h1 := H) (by simp [p12]) ?_)
  refine Nx.seq (Nx.asg (d := dHo (mvI (decide (kStd = kBet)) 0 ((u.length : Int) - 1) 1 u) (mvI (decide (kBet = kBet)) 0 ((u.length : Int) - 1) 1 v)) (h1 := H) (by simp [opB]) ?_)
  have i1 : gIx (dHo u v) (.int 1) H = .ok (dIs v) H := rfl
  have i0 : gIx (dHo u v) (.int 0) H = .ok (dIs u) H := rfl
  refine Nx.seq (Nx.asg (d := .bl (decide (mv < 1000000000000) && decide (mu < 1000000000000))) (h1 := H) ?_ ?_)
  · by_cases c : mv < 1000000000000
    · simp [i1, i0, bv, bu, c]
    · simp [i1, i0, bv, bu, c]
  have lnN := last_night_non (u := u) (v := v) H
  have ck := changed_kind (d1 := .int (-1)) (d2 := .non) (d3 := .int 1) o H
  have tr : tried (R.err ⟨"InvalidKind", none⟩ H : R D) = .ok (.tup [.str "InvalidKind"]) H := by simp [tried_er (cn := "InvalidKind") (by decide)]
  have last : ∀ (x12 x13 x17 x18 : Option D), Nx (sIf (mTest (m2 gNe (mTried (mCallD 1 2 s_changed [.non, .int 1] [(true, 0), (true, 1), (false, 0), (false, 1)] (mCons (mLoc 2) (mNil)) (mCons (mCon (.str "rooms")) (mCons (m1 gNeg (mCon (.int 1))) (mNil))))) (mTup (mCons (mCon (.str "InvalidKind")) (mNil))))) (sRet (mCon (.bl false))) (sNil)) (fun e h' => wipeE e [1, 2, 3, 4, 5, 6, 7, 8, 9, 10, 11, 12, 13, 14, 15, 16, 17, 18] = some sc :: List.replicate 18 none ∧ ∃ y t, h' = hp h a y t)
      [some sc, some (.lst a), some (dHo u v), some (.int u.length), none, none, none, none, none, none, none, none, x12, x13, none, none, none, x17, x18] H := fun x12 x13 x17 x18 =>
    Nx.pass (h1 := H) (by simp [sel, ck, tr, gNe_kind (cn := "InvalidKind") (by decide)]) ⟨by simp, fin_⟩
  by_cases g : (decide (mv < 1000000000000) && decide (mu < 1000000000000)) = true
  · have g' := g
    rw [Bool.and_eq_true, decide_eq_true_eq, decide_eq_true_eq] at g'
    have ru : ∀ x ∈ u, 0 ≤ x ∧ x < 1000000000000 := fun x hx => ⟨(o.2.2.2.1 x hx).1, by have := hu x hx; omega⟩
    have rv : ∀ x ∈ v, 0 ≤ x ∧ x < 1000000000000 := fun x hx => ⟨(o.2.2.2.2 x hx).1, by have := hv x hx; omega⟩
    have rg : ∀ (on1 on2 : Bool) (f l : Int), rngB (mvI on1 f l 1 u ++ mvI on2 f l 1 v) = true := fun on1 on2 f l => by rw [rng_move, rng_one ru, rng_one rv]; rfl
    have c1 := changed_ok (d := .non) (f := 0) (l := (u.length : Int) - 1) (m := 1) o (.inr rfl) (by omega) (by omega) (by omega) ⟨by omega, by omega⟩ H lnN (rg _ _ _ _)
    have c2 := changed_ok (d := .non) (f := 0) (l := (u.length : Int) - 1) (m := 1) o (.inl rfl) (by omega) (by omega) (by omega) ⟨by omega, by omega⟩ H lnN (rg _ _ _ _)
    have c3 := changed_ok (d := .non) (f := (u.length : Int) - 1) (l := (u.length : Int) - 1) (m := 1) o (.inr rfl) (by omega) (by omega) (by omega) ⟨by omega, by omega⟩ H lnN (rg _ _ _ _)
    have c4 := changed_ok (k := kBet) (d := .int 0) (f := 0) (l := 0) (m := 0) o (.inr rfl) (by omega) (by omega) (by omega) ⟨by omega, by omega⟩ H (last_night_int _ H) (by
      rw [rng_move, mv_zero, mv_zero]
      unfold rngB
      rw [Bool.and_eq_true, List.all_eq_true, List.all_eq_true]
      exact ⟨fun x hx => by have := ru x hx; simp; omega, fun x hx => by have := rv x hx; simp; omega⟩)
    rw [mv_zero, mv_zero] at c4
    have sf := fun (p q : List Int) => gNe_self p q H
    rw [g]
    refine Nx.seq (Nx.pass (h1 := H) (by simp [sel, c1, sf]) ?_)
    refine Nx.seq (Nx.pass (h1 := H) (by simp [sel, c2, opS, sf]) ?_)
    refine Nx.seq (Nx.asg (d := .int ((u.length : Int) - 1)) (h1 := H) (by simp) ?_)
    refine Nx.seq (Nx.pass (h1 := H) (by simp [sel, c3, opL, sf]) ?_)
    refine Nx.seq (Nx.pass (h1 := H) (by simp [sel, c4, sf]) ?_)
    exact last _ _ _ _
  · have g : (decide (mv < 1000000000000) && decide (mu < 1000000000000)) = false := by simpa using g
    rw [g]
    refine Nx.seq (Nx.pass (h1 := H) (by simp) ?_)
    refine Nx.seq (Nx.pass (h1 := H) (by simp) ?_)
    refine Nx.seq (Nx.asg (d := .int ((u.length : Int) - 1)) (h1 := H) (by simp) ?_)
    refine Nx.seq (Nx.pass (h1 := H) (by simp) ?_)
    refine Nx.seq (Nx.pass (h1 := H) (by simp) ?_)
    exact last _ _ _ _
theorem law_ok (ns : List Int) (h : AH) : ∃ h', s_law [.kl (ns.map D.int)] h = .ok (.bl true) h' :=
  law_end (S := ns) (k := 18) (b := b_law) rfl (bags_loop (m := 10) (N := 600) (by omega) (by omega) rfl fun h a x ha ob => k13_turn h a x ha ob) (fun h => ⟨h, by
    have e := changed_house (d := .tup []) (d1 := .str "rooms") (d2 := .int 0) (d3 := .non) (d4 := .int 1) rfl rfl h
    simp [sel, e, tried_er (cn := "InvalidHouse") (by decide), gEq_kind (cn := "InvalidHouse") (by decide)]⟩) h

end Rm

namespace Rm
open PySem PySem.Spec PyProof.Rows L2
namespace K13

def top (i : Nat) : Stmt := PySem.Challenge.pw_roomnights_k13_houses_changed.main.body.getD i (.Pass ⟨0, 0, 0, 0⟩)
structure Gs (K : PySem.W.Frag) (mg : Str → Option Value) : Prop where
  b_all : mg "all" = none
  b_bool : mg "bool" = none
  b_enumerate : mg "enumerate" = none
  b_int : mg "int" = none
  b_isinstance : mg "isinstance" = none
  b_len : mg "len" = none
  b_list : mg "list" = none
  b_max : mg "max" = none
  b_min : mg "min" = none
  b_range : mg "range" = none
  b_set : mg "set" = none
  b_sorted : mg "sorted" = none
  b_str : mg "str" = none
  b_sum : mg "sum" = none
  b_tuple : mg "tuple" = none
  b_zip : mg "zip" = none
  i_MOST_NIGHTS : ∃ t, mg "MOST_NIGHTS" = some (.int 30 t)
  i_MOST_ROOMS : ∃ t, mg "MOST_ROOMS" = some (.int 1000000000000 t)
  e_InvalidHouse : ∃ C, ExcF K mg "InvalidHouse" C
  e_InvalidKind : ∃ C, ExcF K mg "InvalidKind" C
  e_InvalidSpan : ∃ C, ExcF K mg "InvalidSpan" C
  e_RoomsOutOfRange : ∃ C, ExcF K mg "RoomsOutOfRange" C
  t_KINDS : GTup K mg "KINDS" [.str "standard", .str "better"]
section
variable {P : Program} {w : World} {K : PySem.W.Frag} {mg : Str → Option Value} {base : Heap} {f : Addr} {fd : FuncData}

theorem w_is_integer (G : Gs K mg) (F : FunD K "is_integer" "is_integer" (defArgs (top 25)) (defBody (top 25)) (defScope (top 25)) [] [] f fd) (hm : mg "is_integer" = some (.ref f)) : FnT P w K mg base "is_integer" 1 1 s_is_integer := by
  have hN : (["value"] : List Str).Nodup := by decide
  exact FnT.of (N := ["value"]) (ps := ["value"]) F hm (F.bindsN fun _ _ _ _ _ _ us hl => match us, hl with | [_], _ => rfl) rfl (by kernel_rfl) fun cdv A outer s H E hr =>
    show Bx _ _ _ b_is_integer from
    b_one (s_ret (x_and (x_isi (n := "int") (by decide) G.b_isinstance G.b_int boot_int (x_loc 0)) (x_one (x_not (x_isi (n := "bool") (by decide) G.b_isinstance G.b_bool boot_bool (x_loc 0))))))

theorem w_is_row (G : Gs K mg) (F : FunD K "is_row" "is_row" (defArgs (top 27)) (defBody (top 27)) (defScope (top 27)) [] [] f fd) (hm : mg "is_row" = some (.ref f)) : FnT P w K mg base "is_row" 1 2 s_is_row := by
  have hN : (["value", "size"] : List Str).Nodup := by decide
  exact FnT.of (N := ["value", "size"]) (ps := ["value", "size"]) F hm (F.bindsN fun _ _ _ _ _ _ us hl => match us, hl with | [_, _], _ => rfl) rfl (by kernel_rfl) fun cdv A outer s H E hr =>
    show Bx _ _ _ b_is_row from
    b_one (s_ret (x_and (x_isi (n := "tuple") (by decide) G.b_isinstance G.b_tuple boot_tuple (x_loc 0)) (x_one (x_cmp (o_eq hr.units) (x_blt (c_len) G.b_len boot_len (ar_cons (x_loc 0) (ar_nil))) (x_loc 1)))))

theorem w_check_kind (G : Gs K mg) (F : FunD K "check_kind" "check_kind" (defArgs (top 30)) (defBody (top 30)) (defScope (top 30)) [] [] f fd) (hm : mg "check_kind" = some (.ref f)) : FnT P w K mg base "check_kind" 1 1 s_check_kind := by
  have hN : (["kind"] : List Str).Nodup := by decide
  exact FnT.of (N := ["kind"]) (ps := ["kind"]) F hm (F.bindsN fun _ _ _ _ _ _ us hl => match us, hl with | [_], _ => rfl) rfl (by kernel_rfl) fun cdv A outer s H E hr =>
    show Bx _ _ _ b_check_kind from
    b_one (s_if (t_w (w_or (t_not (t_val (x_isi (n := "str") (by decide) G.b_isinstance G.b_str boot_str (x_loc 0)))) (w_or1 (t_cmp o_notInT (x_loc 0) (x_gtup (ds := [.str "standard", .str "better"]) G.t_KINDS rfl (by decide)))))) (b_one (s_raise G.e_InvalidKind.choose_spec bX_takes)) (b_nil))

theorem w_last_night (G : Gs K mg) (F : FunD K "last_night" "last_night" (defArgs (top 34)) (defBody (top 34)) (defScope (top 34)) [] [] f fd) (hm : mg "last_night" = some (.ref f)) : FnT P w K mg base "last_night" 1 2 s_last_night := by
  have hN : (["house", "last"] : List Str).Nodup := by decide
  exact FnT.of (N := ["house", "last"]) (ps := ["house", "last"]) F hm (F.bindsN fun _ _ _ _ _ _ us hl => match us, hl with | [_, _], _ => rfl) rfl (by kernel_rfl) fun cdv A outer s H E hr =>
    show Bx _ _ _ b_last_night from
    b_one (s_ret (x_ife (t_cmp o_isN (x_loc 1) (x_non)) (x_bin o_sub (x_blt (c_len) G.b_len boot_len (ar_cons (x_ix (x_loc 0) (x_int)) (ar_nil))) (x_int)) (x_loc 1)))

theorem w__law_well (G : Gs K mg) (F : FunD K "_law_well" "_law_well" (defArgs (top 37)) (defBody (top 37)) (defScope (top 37)) [] [] f fd) (hm : mg "_law_well" = some (.ref f)) : FnT P w K mg base "_law_well" 1 2 s__law_well := by
  have hN : (["cell", "turn"] : List Str).Nodup := by decide
  exact FnT.of (N := ["cell", "turn"]) (ps := ["cell", "turn"]) F hm (F.bindsN fun _ _ _ _ _ _ us hl => match us, hl with | [_, _], _ => rfl) rfl (by kernel_rfl) fun cdv A outer s H E hr =>
    show Bx _ _ _ b__law_well from
    b_cons (s_if (t_cmp o_ge (x_loc 0) (x_bin o_pow (x_int) (x_int))) (b_one (s_ret (x_lm (ar_cons (x_bin o_sub (x_loc 0) (x_bin o_pow (x_int) (x_int))) (ar_cons (x_bin o_mod (x_loc 0) (x_int)) (ar_cons (x_loc 1) (ar_nil))))))) (b_nil)) (b_one (s_ret (x_lm (ar_cons (x_int) (ar_cons (x_bin o_mod (x_loc 0) (x_int)) (ar_cons (x_loc 1) (ar_nil)))))))

theorem w__law_take (G : Gs K mg) (F : FunD K "_law_take" "_law_take" (defArgs (top 38)) (defBody (top 38)) (defScope (top 38)) [] [] f fd) (hm : mg "_law_take" = some (.ref f)) : FnT P w K mg base "_law_take" 1 2 s__law_take := by
  have hN : (["bag", "size", "found", "p", "n"] : List Str).Nodup := by decide
  exact FnT.of (N := ["bag", "size", "found", "p", "n"]) (ps := ["bag", "size"]) F hm (F.bindsN fun _ _ _ _ _ _ us hl => match us, hl with | [_, _], _ => rfl) rfl (by kernel_rfl) fun cdv A outer s H E hr =>
    show Bx _ _ _ b__law_take from
    b_cons (s_if (t_cmp o_gt (x_ix (x_loc 0) (x_int)) (x_int)) (b_cons (s_set 2 hN (x_bin o_mod (x_ix (x_loc 0) (x_int)) (x_loc 1))) (b_cons (s_asg (x_bin o_div (x_ix (x_loc 0) (x_int)) (x_loc 1)) (g_set (x_loc 0) (x_int))) (b_one (s_ret (x_loc 2))))) (b_nil)) (b_cons (s_asg (x_bin o_add (x_ix (x_loc 0) (x_int)) (x_int)) (g_set (x_loc 0) (x_int))) (b_cons (s_set 3 hN (x_int)) (b_cons (s_set 4 hN (x_bin o_mod (x_bin o_add (x_ix (x_loc 0) (x_int)) (x_bin o_mul (x_int) (x_ix (x_loc 0) (x_int)))) (x_loc 3))) (b_cons (s_set 4 hN (x_bin o_mod (x_bin o_add (x_bin o_add (x_bin o_mul (x_loc 4) (x_loc 4)) (x_bin o_mul (x_int) (x_bin o_pow (x_ix (x_loc 0) (x_int)) (x_int)))) (x_int)) (x_loc 3))) (b_one (s_ret (x_bin o_mod (x_bin o_div (x_bin o_mod (x_bin o_pow (x_loc 4) (x_int)) (x_loc 3)) (x_int)) (x_loc 1))))))))

theorem w__law_most (G : Gs K mg) (F : FunD K "_law_most" "_law_most" (defArgs (top 44)) (defBody (top 44)) (defScope (top 44)) [] [] f fd) (hm : mg "_law_most" = some (.ref f)) : FnT P w K mg base "_law_most" 1 1 s__law_most := by
  have hN : (["group", "count", "fee"] : List Str).Nodup := by decide
  exact FnT.of (N := ["group", "count", "fee"]) (ps := ["group"]) F hm (F.bindsN fun _ _ _ _ _ _ us hl => match us, hl with | [_], _ => rfl) rfl (by kernel_rfl) fun cdv A outer s H E hr =>
    show Bx _ _ _ b__law_most from
    b_one (s_ret (x_blt (c_sum rfl) G.b_sum boot_sum (ar_cons (x_lcF (owns := [("count", 1), ("fee", 2)]) rfl hN (it_seq (x_ix (x_loc 0) (x_int))) (by kernel_rfl) (fun _ _ _ _ _ => c_tp rfl (cs_cons (c_nm 1 hN) (cs_cons (c_nm 2 hN) (cs_nil (is := []))))) (fun _ _ _ _ _ => ts_nil) (fun _ _ _ _ _ => x_loc 1)) (ar_nil))))

theorem w__law_on (G : Gs K mg) (F : FunD K "_law_on" "_law_on" (defArgs (top 45)) (defBody (top 45)) (defScope (top 45)) [] [] f fd) (hm : mg "_law_on" = some (.ref f)) : FnT P w K mg base "_law_on" 1 3 s__law_on := by
  have hN : (["groups", "numbers", "night", "group", "count"] : List Str).Nodup := by decide
  exact FnT.of (N := ["groups", "numbers", "night", "group", "count"]) (ps := ["groups", "numbers", "night"]) F hm (F.bindsN fun _ _ _ _ _ _ us hl => match us, hl with | [_, _, _], _ => rfl) rfl (by kernel_rfl) fun cdv A outer s H E hr =>
    show Bx _ _ _ b__law_on from
    b_one (s_ret (x_blt (c_sum rfl) G.b_sum boot_sum (ar_cons (x_lcF (owns := [("group", 3), ("count", 4)]) rfl hN (it_zip2 (ar_cons (x_loc 0) (ar_cons (x_loc 1) (ar_nil))) G.b_zip) (by kernel_rfl) (fun _ _ _ _ _ => c_tp rfl (cs_cons (c_nm 3 hN) (cs_cons (c_nm 4 hN) (cs_nil (is := []))))) (fun _ _ _ _ _ => ts_one (t_chain o_le o_le (x_ix (x_loc 3) (x_int)) (x_loc 2) (x_ix (x_loc 3) (x_int)))) (fun _ _ _ _ _ => x_loc 4)) (ar_nil))))
theorem w__law_kind (G : Gs K mg) (KF : KindF K mg) (F : FunD K "_law_kind" "_law_kind" (defArgs (top 50)) (defBody (top 50)) (defScope (top 50)) [] [] f fd) (hm : mg "_law_kind" = some (.ref f)) : ∀ cn ∈ kinds, FnPT P w K mg base "_law_kind" 1 cn (s__law_kind cn) := fun cn hcn => by
  have hN : (["e", "some", "names", "name", "good"] : List Str).Nodup := by decide
  refine ⟨⟨f, fd, "e", fnP_ok (sem := b__law_kind cn) (N := ["e", "some", "names", "name", "good"]) F (by kernel_rfl) fun cdv A outer s H E p C hot px hr => ?_, hm, F.kp, F.bindsN fun _ _ _ _ _ _ us hl => match us, hl with | [_], _ => rfl⟩⟩
  have Q := KF cn hcn C px.mg
  exact show Bx _ _ _ (b__law_kind cn p.1) from
    b_cons (s_set 1 hN (x_lf (ar_cons (x_isX (b := cn == "InvalidHouse") List.mem_cons_self px Q.1 (Q.2 "InvalidHouse" (by decide)).choose_spec.1 (Q.2 "InvalidHouse" (by decide)).choose_spec.2 G.b_isinstance) (ar_cons (x_isX (b := cn == "InvalidGroups") List.mem_cons_self px Q.1 (Q.2 "InvalidGroups" (by decide)).choose_spec.1 (Q.2 "InvalidGroups" (by decide)).choose_spec.2 G.b_isinstance) (ar_cons (x_isX (b := cn == "InvalidPlan") List.mem_cons_self px Q.1 (Q.2 "InvalidPlan" (by decide)).choose_spec.1 (Q.2 "InvalidPlan" (by decide)).choose_spec.2 G.b_isinstance) (ar_nil)))))) (b_cons (s_set 1 hN (x_bin o_add (x_loc 1) (x_lf (ar_cons (x_isX (b := cn == "InvalidWeights") List.mem_cons_self px Q.1 (Q.2 "InvalidWeights" (by decide)).choose_spec.1 (Q.2 "InvalidWeights" (by decide)).choose_spec.2 G.b_isinstance) (ar_cons (x_isX (b := cn == "InvalidNight") List.mem_cons_self px Q.1 (Q.2 "InvalidNight" (by decide)).choose_spec.1 (Q.2 "InvalidNight" (by decide)).choose_spec.2 G.b_isinstance) (ar_cons (x_isX (b := cn == "InvalidPlace") List.mem_cons_self px Q.1 (Q.2 "InvalidPlace" (by decide)).choose_spec.1 (Q.2 "InvalidPlace" (by decide)).choose_spec.2 G.b_isinstance) (ar_nil))))))) (b_cons (s_set 1 hN (x_bin o_add (x_loc 1) (x_lf (ar_cons (x_isX (b := cn == "InvalidSpan") List.mem_cons_self px Q.1 (Q.2 "InvalidSpan" (by decide)).choose_spec.1 (Q.2 "InvalidSpan" (by decide)).choose_spec.2 G.b_isinstance) (ar_cons (x_isX (b := cn == "InvalidKind") List.mem_cons_self px Q.1 (Q.2 "InvalidKind" (by decide)).choose_spec.1 (Q.2 "InvalidKind" (by decide)).choose_spec.2 G.b_isinstance) (ar_cons (x_isX (b := cn == "InvalidWishes") List.mem_cons_self px Q.1 (Q.2 "InvalidWishes" (by decide)).choose_spec.1 (Q.2 "InvalidWishes" (by decide)).choose_spec.2 G.b_isinstance) (ar_nil))))))) (b_cons (s_set 1 hN (x_bin o_add (x_loc 1) (x_lf (ar_cons (x_isX (b := cn == "InvalidSpans") List.mem_cons_self px Q.1 (Q.2 "InvalidSpans" (by decide)).choose_spec.1 (Q.2 "InvalidSpans" (by decide)).choose_spec.2 G.b_isinstance) (ar_cons (x_isX (b := cn == "InvalidName") List.mem_cons_self px Q.1 (Q.2 "InvalidName" (by decide)).choose_spec.1 (Q.2 "InvalidName" (by decide)).choose_spec.2 G.b_isinstance) (ar_cons (x_isX (b := cn == "RoomsOutOfRange") List.mem_cons_self px Q.1 (Q.2 "RoomsOutOfRange" (by decide)).choose_spec.1 (Q.2 "RoomsOutOfRange" (by decide)).choose_spec.2 G.b_isinstance) (ar_nil))))))) (b_cons (s_set 1 hN (x_bin o_add (x_loc 1) (x_lf (ar_cons (x_isX (b := cn == "TooManyGroups") List.mem_cons_self px Q.1 (Q.2 "TooManyGroups" (by decide)).choose_spec.1 (Q.2 "TooManyGroups" (by decide)).choose_spec.2 G.b_isinstance) (ar_cons (x_isX (b := cn == "NoPlan") List.mem_cons_self px Q.1 (Q.2 "NoPlan" (by decide)).choose_spec.1 (Q.2 "NoPlan" (by decide)).choose_spec.2 G.b_isinstance) (ar_cons (x_isX (b := cn == "NothingToUndo") List.mem_cons_self px Q.1 (Q.2 "NothingToUndo" (by decide)).choose_spec.1 (Q.2 "NothingToUndo" (by decide)).choose_spec.2 G.b_isinstance) (ar_nil))))))) (b_cons (s_set 1 hN (x_bin o_add (x_loc 1) (x_lf (ar_cons (x_isX (b := cn == "TrialOpen") List.mem_cons_self px Q.1 (Q.2 "TrialOpen" (by decide)).choose_spec.1 (Q.2 "TrialOpen" (by decide)).choose_spec.2 G.b_isinstance) (ar_cons (x_isX (b := cn == "NoRoom") List.mem_cons_self px Q.1 (Q.2 "NoRoom" (by decide)).choose_spec.1 (Q.2 "NoRoom" (by decide)).choose_spec.2 G.b_isinstance) (ar_cons (x_isX (b := cn == "UnknownName") List.mem_cons_self px Q.1 (Q.2 "UnknownName" (by decide)).choose_spec.1 (Q.2 "UnknownName" (by decide)).choose_spec.2 G.b_isinstance) (ar_nil))))))) (b_cons (s_set 2 hN (x_lf (ar_cons (x_str) (ar_cons (x_str) (ar_cons (x_str) (ar_cons (x_str) (ar_cons (x_str) (ar_cons (x_str) (ar_nil))))))))) (b_cons (s_set 2 hN (x_bin o_add (x_loc 2) (x_lf (ar_cons (x_str) (ar_cons (x_str) (ar_cons (x_str) (ar_cons (x_str) (ar_cons (x_str) (ar_cons (x_str) (ar_nil)))))))))) (b_cons (s_set 2 hN (x_bin o_add (x_loc 2) (x_lf (ar_cons (x_str) (ar_cons (x_str) (ar_cons (x_str) (ar_cons (x_str) (ar_cons (x_str) (ar_cons (x_str) (ar_cons (x_str) (ar_nil))))))))))) (b_one (s_ret (x_join (x_str) (x_lcFH (owns := [("name", 3), ("good", 4)]) ⟨p, hot, List.mem_cons_self⟩ hN (it_zipH (ar_cons (x_loc 2) (ar_cons (x_bin o_add (x_loc 1) (x_lf (ar_cons (x_isX (b := cn == "InvalidText") List.mem_cons_self px Q.1 (Q.2 "InvalidText" (by decide)).choose_spec.1 (Q.2 "InvalidText" (by decide)).choose_spec.2 G.b_isinstance) (ar_nil)))) (ar_nil))) G.b_zip) (by kernel_rfl) (fun _ _ _ _ _ => c_tpH ⟨p, hot, List.mem_cons_self⟩ (cs_cons (c_nm 3 hN) (cs_cons (c_nm 4 hN) (cs_nil (is := []))))) (fun _ _ _ _ _ => ts_one (t_val (x_loc 4))) (fun _ _ _ _ _ => x_loc 3)))))))))))))
theorem w__law_tried {j k : Nat} {NR UN IT RE : Addr} {sk : Str → Addr → List D → AH → R D} (T : TriedF P w K mg base j NR UN IT RE sk) (hjk : j ≤ k) (F : FunD K "_law_tried" "_law_tried" (defArgs (top 51)) (defBody (top 51)) (defScope (top 51)) [] [] f fd) (hm : mg "_law_tried" = some (.ref f)) : TriedD P w K mg base k := by
  refine ⟨⟨f, fd, _, _, _, F, hm, F.bindsN fun _ _ _ _ _ _ us hl => match us, hl with | [_], _ => rfl, by kernel_rfl, by kernel_rfl, fun X cdg q e1 e2 e3 e4 e5 => ?_⟩⟩
  subst e1 e2 e3 e4 e5
  exact tried_gives T hjk (by kernel_rfl)

theorem w__law_opened (G : Gs K mg) (F : FunD K "_law_opened" "_law_opened" (defArgs (top 52)) (defBody (top 52)) (defScope (top 52)) [] [] f fd) (hm : mg "_law_opened" = some (.ref f)) : FnT P w K mg base "_law_opened" 1 5 s__law_opened := by
  have hN : (["house", "word", "begin", "end", "count", "rows", "name", "row", "part", "night", "rooms"] : List Str).Nodup := by decide
  exact FnT.of (N := ["house", "word", "begin", "end", "count", "rows", "name", "row", "part", "night", "rooms"]) (ps := ["house", "word", "begin", "end", "count"]) F hm (F.bindsN fun _ _ _ _ _ _ us hl => match us, hl with | [_, _, _, _, _], _ => rfl) rfl (by kernel_rfl) fun cdv A outer s H E hr =>
    show Bx _ _ _ b__law_opened from
    b_cons (s_set 5 hN (x_lm (ar_nil))) (b_cons (s_for [6, 7, 8] bX_own rfl (it_zip2 (ar_cons (x_lf (ar_cons (x_str) (ar_cons (x_str) (ar_nil)))) (ar_cons (x_loc 0) (ar_nil))) G.b_zip) (g_tp rfl (gs_cons (g_nm 6 hN) (gs_cons (g_nm 7 hN) (gs_nil)))) (b_cons (s_lcF 8 (owns := [("night", 9), ("rooms", 10)]) rfl hN (it_enum (x_loc 7) G.b_enumerate) (by kernel_rfl) (fun _ _ _ _ _ => c_tp rfl (cs_cons (c_nm 9 hN) (cs_cons (c_nm 10 hN) (cs_nil (is := []))))) (fun _ _ _ _ _ => ts_nil) (fun _ _ _ _ _ => x_bin o_add (x_loc 10) (x_bin o_mul (x_loc 4) (x_bty (c_int) G.b_int boot_int (ar_cons (x_and (x_cmp (o_eq hr.units) (x_loc 6) (x_loc 1)) (x_one (x_chain o_le o_le (x_loc 2) (x_loc 9) (x_loc 3)))) (ar_nil)))))) (b_one (s_exp (x_app (x_loc 5) (x_bty (c_tuple) G.b_tuple boot_tuple (ar_cons (x_loc 8) (ar_nil)))))))) (b_one (s_ret (x_tup (ar_cons (x_ix (x_loc 5) (x_int)) (ar_cons (x_ix (x_loc 5) (x_int)) (ar_nil)))))))
structure U_is_between (P : Program) (w : World) (K : PySem.W.Frag) (mg : Str → Option Value) (base : Heap) : Prop where
  w_is_integer : FnT P w K mg base "is_integer" 1 1 s_is_integer
theorem w_is_between (G : Gs K mg) (W : U_is_between P w K mg base) (F : FunD K "is_between" "is_between" (defArgs (top 26)) (defBody (top 26)) (defScope (top 26)) [] [] f fd) (hm : mg "is_between" = some (.ref f)) : FnT P w K mg base "is_between" 2 3 s_is_between := by
  have hN : (["value", "low", "high"] : List Str).Nodup := by decide
  exact FnT.of (N := ["value", "low", "high"]) (ps := ["value", "low", "high"]) F hm (F.bindsN fun _ _ _ _ _ _ us hl => match us, hl with | [_, _, _], _ => rfl) rfl (by kernel_rfl) fun cdv A outer s H E hr =>
    show Bx _ _ _ b_is_between from
    b_one (s_ret (x_and (x_fn W.w_is_integer hr bX_pass (ar_cons (x_loc 0) (ar_nil))) (x_one (x_chain o_le o_le (x_loc 1) (x_loc 0) (x_loc 2)))))
structure U__law_bags (P : Program) (w : World) (K : PySem.W.Frag) (mg : Str → Option Value) (base : Heap) : Prop where
  w__law_well : FnT P w K mg base "_law_well" 1 2 s__law_well
theorem w__law_bags (G : Gs K mg) (W : U__law_bags P w K mg base) (F : FunD K "_law_bags" "_law_bags" (defArgs (top 39)) (defBody (top 39)) (defScope (top 39)) [] [] f fd) (hm : mg "_law_bags" = some (.ref f)) : FnT P w K mg base "_law_bags" 2 2 s__law_bags := by
  have hN : (["script", "most", "k", "cell"] : List Str).Nodup := by decide
  exact FnT.of (N := ["script", "most", "k", "cell"]) (ps := ["script", "most"]) F hm (F.bindsN fun _ _ _ _ _ _ us hl => match us, hl with | [_, _], _ => rfl) rfl (by kernel_rfl) fun cdv A outer s H E hr =>
    show Bx _ _ _ b__law_bags from
    b_one (s_ret (x_lcF (owns := [("k", 2), ("cell", 3)]) rfl hN (it_enum (x_bin o_add (x_slice (x_loc 0) (ox_none) (ox_some (x_loc 1))) (x_lf (ar_cons (x_int) (ar_nil)))) G.b_enumerate) (by kernel_rfl) (fun _ _ _ _ _ => c_tp rfl (cs_cons (c_nm 2 hN) (cs_cons (c_nm 3 hN) (cs_nil (is := []))))) (fun _ _ _ _ _ => ts_nil) (fun _ _ _ _ _ => x_fn W.w__law_well hr passes_no (ar_cons (x_loc 3) (ar_cons (x_bin o_mul (x_int) (x_loc 2)) (ar_nil))))))
structure U__law_many (P : Program) (w : World) (K : PySem.W.Frag) (mg : Str → Option Value) (base : Heap) : Prop where
  w__law_take : FnT P w K mg base "_law_take" 1 2 s__law_take
theorem w__law_many (G : Gs K mg) (W : U__law_many P w K mg base) (F : FunD K "_law_many" "_law_many" (defArgs (top 41)) (defBody (top 41)) (defScope (top 41)) [] [] f fd) (hm : mg "_law_many" = some (.ref f)) : FnT P w K mg base "_law_many" 2 2 s__law_many := by
  have hN : (["bag", "most", "way"] : List Str).Nodup := by decide
  exact FnT.of (N := ["bag", "most", "way"]) (ps := ["bag", "most"]) F hm (F.bindsN fun _ _ _ _ _ _ us hl => match us, hl with | [_, _], _ => rfl) rfl (by kernel_rfl) fun cdv A outer s H E hr =>
    show Bx _ _ _ b__law_many from
    b_cons (s_set 2 hN (x_fn W.w__law_take hr bX_pass (ar_cons (x_loc 0) (ar_cons (x_int) (ar_nil))))) (b_cons (s_if (t_cmp o_lt (x_loc 2) (x_int)) (b_one (s_ret (x_fn W.w__law_take hr bX_pass (ar_cons (x_loc 0) (ar_cons (x_bin o_add (x_blt (c_min rfl) G.b_min boot_min (ar_cons (x_loc 1) (ar_cons (x_int) (ar_nil)))) (x_int)) (ar_nil)))))) (b_nil)) (b_one (s_ret (x_ix (x_lf (ar_cons (x_loc 1) (ar_cons (x_fn W.w__law_take hr bX_pass (ar_cons (x_loc 0) (ar_cons (x_bin o_add (x_loc 1) (x_int)) (ar_nil)))) (ar_nil)))) (x_bin o_sub (x_loc 2) (x_int))))))
structure U__law_costs (P : Program) (w : World) (K : PySem.W.Frag) (mg : Str → Option Value) (base : Heap) : Prop where
  w__law_take : FnT P w K mg base "_law_take" 1 2 s__law_take
theorem w__law_costs (G : Gs K mg) (W : U__law_costs P w K mg base) (F : FunD K "_law_costs" "_law_costs" (defArgs (top 42)) (defBody (top 42)) (defScope (top 42)) [] [] f fd) (hm : mg "_law_costs" = some (.ref f)) : FnT P w K mg base "_law_costs" 2 2 s__law_costs := by
  have hN : (["bag", "count", "far", "low", "turn"] : List Str).Nodup := by decide
  exact FnT.of (N := ["bag", "count", "far", "low", "turn"]) (ps := ["bag", "count"]) F hm (F.bindsN fun _ _ _ _ _ _ us hl => match us, hl with | [_, _], _ => rfl) rfl (by kernel_rfl) fun cdv A outer s H E hr =>
    show Bx _ _ _ b__law_costs from
    b_cons (s_set 2 hN (x_ix (x_lf (ar_cons (x_int) (ar_cons (x_int) (ar_cons (x_bin o_pow (x_int) (x_int)) (ar_nil))))) (x_fn W.w__law_take hr bX_pass (ar_cons (x_loc 0) (ar_cons (x_int) (ar_nil)))))) (b_cons (s_set 3 hN (x_ix (x_lf (ar_cons (x_loc 2) (ar_cons (x_bin o_div (x_loc 2) (x_int)) (ar_nil)))) (x_fn W.w__law_take hr bX_pass (ar_cons (x_loc 0) (ar_cons (x_int) (ar_nil)))))) (b_one (s_ret (x_sortSet G.b_sorted G.b_set (x_lcF (owns := [("turn", 4)]) rfl hN (it_range1 (ar_cons (x_loc 1) (ar_nil)) G.b_range) (by kernel_rfl) (fun _ _ _ _ _ => c_nm 4 hN) (fun _ _ _ _ _ => ts_nil) (fun _ _ _ _ _ => x_blt (c_min rfl) G.b_min boot_min (ar_cons (x_bin o_pow (x_int) (x_int)) (ar_cons (x_bin o_sub (x_fn W.w__law_take hr passes_no (ar_cons (x_loc 0) (ar_cons (x_bin o_add (x_bin o_mul (x_int) (x_loc 2)) (x_int)) (ar_nil)))) (x_loc 3)) (ar_nil))))) rfl))))
structure U__law_house_for (P : Program) (w : World) (K : PySem.W.Frag) (mg : Str → Option Value) (base : Heap) : Prop where
  w__law_on : FnT P w K mg base "_law_on" 1 3 s__law_on
  w__law_take : FnT P w K mg base "_law_take" 1 2 s__law_take
theorem w__law_house_for (G : Gs K mg) (W : U__law_house_for P w K mg base) (F : FunD K "_law_house_for" "_law_house_for" (defArgs (top 46)) (defBody (top 46)) (defScope (top 46)) [] [] f fd) (hm : mg "_law_house_for" = some (.ref f)) : FnT P w K mg base "_law_house_for" 2 4 s__law_house_for := by
  have hN : (["bag", "groups", "numbers", "nights", "rows", "short", "night", "up", "stays", "group", "row", "count", "spare", "less"] : List Str).Nodup := by decide
  exact FnT.of (N := ["bag", "groups", "numbers", "nights", "rows", "short", "night", "up", "stays", "group", "row", "count", "spare", "less"]) (ps := ["bag", "groups", "numbers", "nights"]) F hm (F.bindsN fun _ _ _ _ _ _ us hl => match us, hl with | [_, _, _, _], _ => rfl) rfl (by kernel_rfl) fun cdv A outer s H E hr =>
    show Bx _ _ _ b__law_house_for from
    b_cons (s_set 4 hN (x_lf (ar_cons (x_lm (ar_nil)) (ar_cons (x_lm (ar_nil)) (ar_nil))))) (b_cons (s_set 5 hN (x_bty (c_int) G.b_int boot_int (ar_cons (x_cmp (o_eq hr.units) (x_fn W.w__law_take hr bX_pass (ar_cons (x_loc 0) (ar_cons (x_int) (ar_nil)))) (x_int)) (ar_nil)))) (b_cons (s_for [6, 7, 8, 10, 11, 12, 13] bX_own rfl (it_range1 (ar_cons (x_loc 3) (ar_nil)) G.b_range) (g_nm 6 hN) (b_cons (s_set 7 hN (x_fn W.w__law_on hr bX_pass (ar_cons (x_loc 1) (ar_cons (x_loc 2) (ar_cons (x_loc 6) (ar_nil)))))) (b_cons (s_set 8 hN (x_fn W.w__law_on hr bX_pass (ar_cons (x_loc 1) (ar_cons (x_lcF (owns := [("group", 9)]) rfl hN (it_seq (x_loc 1)) (by kernel_rfl) (fun _ _ _ _ _ => c_nm 9 hN) (fun _ _ _ _ _ => ts_nil) (fun _ _ _ _ _ => x_ix (x_loc 9) (x_int))) (ar_cons (x_loc 6) (ar_nil)))))) (b_one (s_for [10, 11, 12, 13] bX_own rfl (it_zip2 (ar_cons (x_loc 4) (ar_cons (x_lf (ar_cons (x_bin o_sub (x_loc 8) (x_loc 7)) (ar_cons (x_loc 7) (ar_nil)))) (ar_nil))) G.b_zip) (g_tp rfl (gs_cons (g_nm 10 hN) (gs_cons (g_nm 11 hN) (gs_nil)))) (b_cons (s_set 12 hN (x_ix (x_lf (ar_cons (x_int) (ar_cons (x_int) (ar_cons (x_fn W.w__law_take hr bX_pass (ar_cons (x_loc 0) (ar_cons (x_int) (ar_nil)))) (ar_cons (x_fn W.w__law_take hr bX_pass (ar_cons (x_loc 0) (ar_cons (x_int) (ar_nil)))) (ar_nil)))))) (x_fn W.w__law_take hr bX_pass (ar_cons (x_loc 0) (ar_cons (x_int) (ar_nil)))))) (b_cons (s_set 13 hN (x_bin o_mul (x_loc 5) (x_bty (c_int) G.b_int boot_int (ar_cons (x_cmp (o_eq hr.units) (x_fn W.w__law_take hr bX_pass (ar_cons (x_loc 0) (ar_cons (x_int) (ar_nil)))) (x_int)) (ar_nil))))) (b_one (s_exp (x_app (x_loc 10) (x_blt (c_max rfl) G.b_max boot_max (ar_cons (x_int) (ar_cons (x_bin o_sub (x_bin o_add (x_loc 11) (x_loc 12)) (x_loc 13)) (ar_nil)))))))))))))) (b_one (s_ret (x_tup (ar_cons (x_bty (c_tuple) G.b_tuple boot_tuple (ar_cons (x_ix (x_loc 4) (x_int)) (ar_nil))) (ar_cons (x_bty (c_tuple) G.b_tuple boot_tuple (ar_cons (x_ix (x_loc 4) (x_int)) (ar_nil))) (ar_nil))))))))
structure U_is_house (P : Program) (w : World) (K : PySem.W.Frag) (mg : Str → Option Value) (base : Heap) : Prop where
  w_is_between : FnT P w K mg base "is_between" 2 3 s_is_between
  w_is_row : FnT P w K mg base "is_row" 1 2 s_is_row
theorem w_is_house (G : Gs K mg) (W : U_is_house P w K mg base) (F : FunD K "is_house" "is_house" (defArgs (top 28)) (defBody (top 28)) (defScope (top 28)) [] [] f fd) (hm : mg "is_house" = some (.ref f)) : FnT P w K mg base "is_house" 3 1 s_is_house := by
  have hN : (["value", "many"] : List Str).Nodup := by decide
  exact FnT.of (N := ["value", "many"]) (ps := ["value"]) F hm (F.bindsN fun _ _ _ _ _ _ us hl => match us, hl with | [_], _ => rfl) rfl (by kernel_rfl) fun cdv A outer s H E hr =>
    show Bx _ _ _ b_is_house from
    b_cons (s_if (t_w (w_or (t_not (t_val (x_fn W.w_is_row hr bX_pass (ar_cons (x_loc 0) (ar_cons (x_int) (ar_nil)))))) (w_or (t_not (t_val (x_isi (n := "tuple") (by decide) G.b_isinstance G.b_tuple boot_tuple (x_ix (x_loc 0) (x_int))))) (w_or1 (t_not (t_chain o_le o_le (x_int) (x_blt (c_len) G.b_len boot_len (ar_cons (x_ix (x_loc 0) (x_int)) (ar_nil))) (x_gint G.i_MOST_NIGHTS))))))) (b_one (s_ret (x_bl))) (b_nil)) (b_cons (s_if (t_not (t_val (x_fn W.w_is_row hr bX_pass (ar_cons (x_ix (x_loc 0) (x_int)) (ar_cons (x_blt (c_len) G.b_len boot_len (ar_cons (x_ix (x_loc 0) (x_int)) (ar_nil))) (ar_nil)))))) (b_one (s_ret (x_bl))) (b_nil)) (b_one (s_ret (x_blt (c_all rfl) G.b_all boot_all (ar_cons (x_lcF (owns := [("many", 1)]) rfl hN (it_seq (x_bin o_add (x_ix (x_loc 0) (x_int)) (x_ix (x_loc 0) (x_int)))) (by kernel_rfl) (fun _ _ _ _ _ => c_nm 1 hN) (fun _ _ _ _ _ => ts_nil) (fun _ _ _ _ _ => x_fn W.w_is_between hr passes_no (ar_cons (x_loc 1) (ar_cons (x_int) (ar_cons (x_gint G.i_MOST_ROOMS) (ar_nil)))))) (ar_nil))))))
structure U_check_span (P : Program) (w : World) (K : PySem.W.Frag) (mg : Str → Option Value) (base : Heap) : Prop where
  w_is_between : FnT P w K mg base "is_between" 2 3 s_is_between
theorem w_check_span (G : Gs K mg) (W : U_check_span P w K mg base) (F : FunD K "check_span" "check_span" (defArgs (top 31)) (defBody (top 31)) (defScope (top 31)) [] [] f fd) (hm : mg "check_span" = some (.ref f)) : FnT P w K mg base "check_span" 3 3 s_check_span := by
  have hN : (["house", "first", "last", "nights"] : List Str).Nodup := by decide
  exact FnT.of (N := ["house", "first", "last", "nights"]) (ps := ["house", "first", "last"]) F hm (F.bindsN fun _ _ _ _ _ _ us hl => match us, hl with | [_, _, _], _ => rfl) rfl (by kernel_rfl) fun cdv A outer s H E hr =>
    show Bx _ _ _ b_check_span from
    b_cons (s_set 3 hN (x_blt (c_len) G.b_len boot_len (ar_cons (x_ix (x_loc 0) (x_int)) (ar_nil)))) (b_one (s_if (t_w (w_or (t_not (t_val (x_fn W.w_is_between hr bX_pass (ar_cons (x_loc 1) (ar_cons (x_int) (ar_cons (x_bin o_sub (x_loc 3) (x_int)) (ar_nil))))))) (w_or1 (t_not (t_val (x_fn W.w_is_between hr bX_pass (ar_cons (x_loc 2) (ar_cons (x_loc 1) (ar_cons (x_bin o_sub (x_loc 3) (x_int)) (ar_nil)))))))))) (b_one (s_raise G.e_InvalidSpan.choose_spec bX_takes)) (b_nil)))
structure U_moved (P : Program) (w : World) (K : PySem.W.Frag) (mg : Str → Option Value) (base : Heap) : Prop where
  w_is_between : FnT P w K mg base "is_between" 2 3 s_is_between
theorem w_moved (G : Gs K mg) (W : U_moved P w K mg base) (F : FunD K "moved" "moved" (defArgs (top 33)) (defBody (top 33)) (defScope (top 33)) [] [] f fd) (hm : mg "moved" = some (.ref f)) : FnT P w K mg base "moved" 3 5 s_moved := by
  have hN : (["house", "kind", "first", "last", "many", "rows", "each", "row", "part", "night", "rooms"] : List Str).Nodup := by decide
  exact FnT.of (N := ["house", "kind", "first", "last", "many", "rows", "each", "row", "part", "night", "rooms"]) (ps := ["house", "kind", "first", "last", "many"]) F hm (F.bindsN fun _ _ _ _ _ _ us hl => match us, hl with | [_, _, _, _, _], _ => rfl) rfl (by kernel_rfl) fun cdv A outer s H E hr =>
    show Bx _ _ _ b_moved from
    b_cons (s_set 5 hN (x_lm (ar_nil))) (b_cons (s_for [6, 7, 8] bX_own rfl (it_zip2 (ar_cons (x_gtup (ds := [.str "standard", .str "better"]) G.t_KINDS rfl (by decide)) (ar_cons (x_loc 0) (ar_nil))) G.b_zip) (g_tp rfl (gs_cons (g_nm 6 hN) (gs_cons (g_nm 7 hN) (gs_nil)))) (b_cons (s_lcF 8 (owns := [("night", 9), ("rooms", 10)]) rfl hN (it_enum (x_loc 7) G.b_enumerate) (by kernel_rfl) (fun _ _ _ _ _ => c_tp rfl (cs_cons (c_nm 9 hN) (cs_cons (c_nm 10 hN) (cs_nil (is := []))))) (fun _ _ _ _ _ => ts_nil) (fun _ _ _ _ _ => x_bin o_add (x_loc 10) (x_bin o_mul (x_loc 4) (x_bty (c_int) G.b_int boot_int (ar_cons (x_and (x_cmp (o_eq hr.units) (x_loc 6) (x_loc 1)) (x_one (x_chain o_le o_le (x_loc 2) (x_loc 9) (x_loc 3)))) (ar_nil)))))) (b_one (s_exp (x_app (x_loc 5) (x_bty (c_tuple) G.b_tuple boot_tuple (ar_cons (x_loc 8) (ar_nil)))))))) (b_cons (s_if (t_not (t_val (x_blt (c_all rfl) G.b_all boot_all (ar_cons (x_lcF (owns := [("rooms", 10)]) rfl hN (it_seq (x_bin o_add (x_ix (x_loc 5) (x_int)) (x_ix (x_loc 5) (x_int)))) (by kernel_rfl) (fun _ _ _ _ _ => c_nm 10 hN) (fun _ _ _ _ _ => ts_nil) (fun _ _ _ _ _ => x_fn W.w_is_between hr passes_no (ar_cons (x_loc 10) (ar_cons (x_int) (ar_cons (x_gint G.i_MOST_ROOMS) (ar_nil)))))) (ar_nil))))) (b_one (s_raise G.e_RoomsOutOfRange.choose_spec bX_takes)) (b_nil)) (b_one (s_ret (x_tup (ar_cons (x_ix (x_loc 5) (x_int)) (ar_cons (x_ix (x_loc 5) (x_int)) (ar_nil))))))))
structure U__law_group (P : Program) (w : World) (K : PySem.W.Frag) (mg : Str → Option Value) (base : Heap) : Prop where
  w__law_costs : FnT P w K mg base "_law_costs" 2 2 s__law_costs
  w__law_many : FnT P w K mg base "_law_many" 2 2 s__law_many
  w__law_take : FnT P w K mg base "_law_take" 1 2 s__law_take
theorem w__law_group (G : Gs K mg) (W : U__law_group P w K mg base) (F : FunD K "_law_group" "_law_group" (defArgs (top 43)) (defBody (top 43)) (defScope (top 43)) [] [] f fd) (hm : mg "_law_group" = some (.ref f)) : FnT P w K mg base "_law_group" 3 3 s__law_group := by
  have hN : (["bag", "nights", "size", "begin", "end", "rooms", "steps", "left", "fee", "count", "least"] : List Str).Nodup := by decide
  exact FnT.of (N := ["bag", "nights", "size", "begin", "end", "rooms", "steps", "left", "fee", "count", "least"]) (ps := ["bag", "nights", "size"]) F hm (F.bindsN fun _ _ _ _ _ _ us hl => match us, hl with | [_, _, _], _ => rfl) rfl (by kernel_rfl) fun cdv A outer s H E hr =>
    show Bx _ _ _ b__law_group from
    b_cons (s_set 3 hN (x_fn W.w__law_take hr bX_pass (ar_cons (x_loc 0) (ar_cons (x_loc 1) (ar_nil))))) (b_cons (s_set 4 hN (x_bin o_add (x_loc 3) (x_fn W.w__law_take hr bX_pass (ar_cons (x_loc 0) (ar_cons (x_bin o_sub (x_loc 1) (x_loc 3)) (ar_nil)))))) (b_cons (s_set 5 hN (x_bin o_add (x_int) (x_fn W.w__law_many hr bX_pass (ar_cons (x_loc 0) (ar_cons (x_bin o_sub (x_loc 2) (x_int)) (ar_nil)))))) (b_cons (s_par 6 7 rfl hN (ar_cons (x_lm (ar_nil)) (ar_cons (x_loc 5) ar_nil))) (b_cons (s_for [8, 9] bX_own rfl (it_seq (x_fn W.w__law_costs hr bX_pass (ar_cons (x_loc 0) (ar_cons (x_fn W.w__law_take hr bX_pass (ar_cons (x_loc 0) (ar_cons (x_int) (ar_nil)))) (ar_nil))))) (g_nm 8 hN) (b_one (s_if (t_cmp o_gt (x_loc 7) (x_int)) (b_cons (s_set 9 hN (x_bin o_add (x_int) (x_fn W.w__law_many hr bX_pass (ar_cons (x_loc 0) (ar_cons (x_bin o_sub (x_loc 7) (x_int)) (ar_nil)))))) (b_cons (s_exp (x_app (x_loc 6) (x_tup (ar_cons (x_loc 9) (ar_cons (x_loc 8) (ar_nil)))))) (b_one (s_set 7 hN (x_bin o_sub (x_loc 7) (x_loc 9)))))) (b_nil)))) (b_cons (s_set 10 hN (x_ix (x_lf (ar_cons (x_int) (ar_cons (x_int) (ar_cons (x_fn W.w__law_many hr bX_pass (ar_cons (x_loc 0) (ar_cons (x_bin o_sub (x_loc 5) (x_loc 7)) (ar_nil)))) (ar_nil))))) (x_fn W.w__law_take hr bX_pass (ar_cons (x_loc 0) (ar_cons (x_int) (ar_nil)))))) (b_one (s_ret (x_tup (ar_cons (x_loc 3) (ar_cons (x_loc 4) (ar_cons (x_loc 5) (ar_cons (x_loc 10) (ar_cons (x_bty (c_tuple) G.b_tuple boot_tuple (ar_cons (x_loc 6) (ar_nil))) (ar_nil))))))))))))))
structure U_check_house (P : Program) (w : World) (K : PySem.W.Frag) (mg : Str → Option Value) (base : Heap) : Prop where
  w_is_house : FnT P w K mg base "is_house" 3 1 s_is_house
theorem w_check_house (G : Gs K mg) (W : U_check_house P w K mg base) (F : FunD K "check_house" "check_house" (defArgs (top 29)) (defBody (top 29)) (defScope (top 29)) [] [] f fd) (hm : mg "check_house" = some (.ref f)) : FnT P w K mg base "check_house" 4 1 s_check_house := by
  have hN : (["house"] : List Str).Nodup := by decide
  exact FnT.of (N := ["house"]) (ps := ["house"]) F hm (F.bindsN fun _ _ _ _ _ _ us hl => match us, hl with | [_], _ => rfl) rfl (by kernel_rfl) fun cdv A outer s H E hr =>
    show Bx _ _ _ b_check_house from
    b_one (s_if (t_not (t_val (x_fn W.w_is_house hr bX_pass (ar_cons (x_loc 0) (ar_nil))))) (b_one (s_raise G.e_InvalidHouse.choose_spec bX_takes)) (b_nil))
structure U__law_made (P : Program) (w : World) (K : PySem.W.Frag) (mg : Str → Option Value) (base : Heap) : Prop where
  w__law_group : FnT P w K mg base "_law_group" 3 3 s__law_group
  w__law_house_for : FnT P w K mg base "_law_house_for" 2 4 s__law_house_for
  w__law_many : FnT P w K mg base "_law_many" 2 2 s__law_many
  w__law_most : FnT P w K mg base "_law_most" 1 1 s__law_most
theorem w__law_made (G : Gs K mg) (W : U__law_made P w K mg base) (F : FunD K "_law_made" "_law_made" (defArgs (top 47)) (defBody (top 47)) (defScope (top 47)) [] [] f fd) (hm : mg "_law_made" = some (.ref f)) : FnT P w K mg base "_law_made" 4 4 s__law_made := by
  have hN : (["bag", "nights", "count", "size", "groups", "turn", "numbers", "group"] : List Str).Nodup := by decide
  exact FnT.of (N := ["bag", "nights", "count", "size", "groups", "turn", "numbers", "group"]) (ps := ["bag", "nights", "count", "size"]) F hm (F.bindsN fun _ _ _ _ _ _ us hl => match us, hl with | [_, _, _, _], _ => rfl) rfl (by kernel_rfl) fun cdv A outer s H E hr =>
    show Bx _ _ _ b__law_made from
    b_cons (s_set 4 hN (x_bty (c_tuple) G.b_tuple boot_tuple (ar_cons (x_lcF (owns := [("turn", 5)]) rfl hN (it_range1 (ar_cons (x_loc 2) (ar_nil)) G.b_range) (by kernel_rfl) (fun _ _ _ _ _ => c_nm 5 hN) (fun _ _ _ _ _ => ts_nil) (fun _ _ _ _ _ => x_fn W.w__law_group hr passes_no (ar_cons (x_loc 0) (ar_cons (x_loc 1) (ar_cons (x_loc 3) (ar_nil)))))) (ar_nil)))) (b_cons (s_set 6 hN (x_bty (c_tuple) G.b_tuple boot_tuple (ar_cons (x_lcF (owns := [("group", 7)]) rfl hN (it_seq (x_loc 4)) (by kernel_rfl) (fun _ _ _ _ _ => c_nm 7 hN) (fun _ _ _ _ _ => ts_nil) (fun _ _ _ _ _ => x_bin o_add (x_ix (x_loc 7) (x_int)) (x_fn W.w__law_many hr passes_no (ar_cons (x_loc 0) (ar_cons (x_bin o_sub (x_fn W.w__law_most hr passes_no (ar_cons (x_loc 7) (ar_nil))) (x_ix (x_loc 7) (x_int))) (ar_nil)))))) (ar_nil)))) (b_one (s_ret (x_tup (ar_cons (x_fn W.w__law_house_for hr bX_pass (ar_cons (x_loc 0) (ar_cons (x_loc 4) (ar_cons (x_loc 6) (ar_cons (x_loc 1) (ar_nil)))))) (ar_cons (x_loc 4) (ar_cons (x_loc 6) (ar_nil))))))))
structure U_changed (P : Program) (w : World) (K : PySem.W.Frag) (mg : Str → Option Value) (base : Heap) : Prop where
  w_check_house : FnT P w K mg base "check_house" 4 1 s_check_house
  w_check_kind : FnT P w K mg base "check_kind" 1 1 s_check_kind
  w_check_span : FnT P w K mg base "check_span" 3 3 s_check_span
  w_last_night : FnT P w K mg base "last_night" 1 2 s_last_night
  w_moved : FnT P w K mg base "moved" 3 5 s_moved
theorem w_changed (G : Gs K mg) (W : U_changed P w K mg base) (F : FunD K "changed" "changed" (defArgs (top 35)) (defBody (top 35)) (defScope (top 35)) [] [("kind", .str "better"), ("first", .int 0), ("last", .non), ("many", .int 1)] f fd) (hm : mg "changed" = some (.ref f)) : FnKD P w K mg base "changed" (defArgs (top 35)) (defBody (top 35)) (defScope (top 35)) [("kind", .str "better"), ("first", .int 0), ("last", .non), ("many", .int 1)] ["house", "kind", "first", "last", "many"] 5 s_changed := by
  have hN : (["house", "kind", "first", "last", "many", "end"] : List Str).Nodup := by decide
  exact FnKD.of (N := ["house", "kind", "first", "last", "many", "end"]) F hm (by kernel_rfl) fun cdv A outer s H E hr =>
    show Bx _ _ _ b_changed from
    b_cons (s_exp (x_fn W.w_check_house hr bX_pass (ar_cons (x_loc 0) (ar_nil)))) (b_cons (s_exp (x_fn W.w_check_kind hr bX_pass (ar_cons (x_loc 1) (ar_nil)))) (b_cons (s_set 5 hN (x_fn W.w_last_night hr bX_pass (ar_cons (x_loc 0) (ar_cons (x_loc 3) (ar_nil))))) (b_cons (s_exp (x_fn W.w_check_span hr bX_pass (ar_cons (x_loc 0) (ar_cons (x_loc 2) (ar_cons (x_loc 5) (ar_nil)))))) (b_one (s_ret (x_fn W.w_moved hr bX_pass (ar_cons (x_loc 0) (ar_cons (x_loc 1) (ar_cons (x_loc 2) (ar_cons (x_loc 5) (ar_cons (x_loc 4) (ar_nil))))))))))))
structure U__law_small (P : Program) (w : World) (K : PySem.W.Frag) (mg : Str → Option Value) (base : Heap) : Prop where
  w__law_made : FnT P w K mg base "_law_made" 4 4 s__law_made
  w__law_take : FnT P w K mg base "_law_take" 1 2 s__law_take
theorem w__law_small (G : Gs K mg) (W : U__law_small P w K mg base) (F : FunD K "_law_small" "_law_small" (defArgs (top 48)) (defBody (top 48)) (defScope (top 48)) [] [] f fd) (hm : mg "_law_small" = some (.ref f)) : FnT P w K mg base "_law_small" 5 1 s__law_small := by
  have hN : (["bag", "nights", "count"] : List Str).Nodup := by decide
  exact FnT.of (N := ["bag", "nights", "count"]) (ps := ["bag"]) F hm (F.bindsN fun _ _ _ _ _ _ us hl => match us, hl with | [_], _ => rfl) rfl (by kernel_rfl) fun cdv A outer s H E hr =>
    show Bx _ _ _ b__law_small from
    b_cons (s_par 1 2 rfl hN (ar_cons (x_bin o_add (x_int) (x_fn W.w__law_take hr bX_pass (ar_cons (x_loc 0) (ar_cons (x_int) (ar_nil))))) (ar_cons (x_fn W.w__law_take hr bX_pass (ar_cons (x_loc 0) (ar_cons (x_int) (ar_nil)))) ar_nil))) (b_one (s_ret (x_fn W.w__law_made hr bX_pass (ar_cons (x_loc 0) (ar_cons (x_loc 1) (ar_cons (x_loc 2) (ar_cons (x_int) (ar_nil))))))))
structure U__law_great (P : Program) (w : World) (K : PySem.W.Frag) (mg : Str → Option Value) (base : Heap) : Prop where
  w__law_made : FnT P w K mg base "_law_made" 4 4 s__law_made
  w__law_take : FnT P w K mg base "_law_take" 1 2 s__law_take
theorem w__law_great (G : Gs K mg) (W : U__law_great P w K mg base) (F : FunD K "_law_great" "_law_great" (defArgs (top 49)) (defBody (top 49)) (defScope (top 49)) [] [] f fd) (hm : mg "_law_great" = some (.ref f)) : FnT P w K mg base "_law_great" 5 1 s__law_great := by
  have hN : (["bag", "nights", "count"] : List Str).Nodup := by decide
  exact FnT.of (N := ["bag", "nights", "count"]) (ps := ["bag"]) F hm (F.bindsN fun _ _ _ _ _ _ us hl => match us, hl with | [_], _ => rfl) rfl (by kernel_rfl) fun cdv A outer s H E hr =>
    show Bx _ _ _ b__law_great from
    b_cons (s_par 1 2 rfl hN (ar_cons (x_bin o_add (x_int) (x_fn W.w__law_take hr bX_pass (ar_cons (x_loc 0) (ar_cons (x_int) (ar_nil))))) (ar_cons (x_fn W.w__law_take hr bX_pass (ar_cons (x_loc 0) (ar_cons (x_int) (ar_nil)))) ar_nil))) (b_one (s_ret (x_fn W.w__law_made hr bX_pass (ar_cons (x_loc 0) (ar_cons (x_loc 1) (ar_cons (x_loc 2) (ar_cons (x_ix (x_lf (ar_cons (x_int) (ar_cons (x_bin o_pow (x_int) (x_int)) (ar_nil)))) (x_fn W.w__law_take hr bX_pass (ar_cons (x_loc 0) (ar_cons (x_int) (ar_nil))))) (ar_nil))))))))

theorem w__law_same (G : Gs K mg) (F : FunD K "_law_same" "_law_same" (defArgs (top 40)) (defBody (top 40)) (defScope (top 40)) [] [] f fd) (hm : mg "_law_same" = some (.ref f)) : FnT P w K mg base "_law_same" 9 2 (s__law_same 8) := by
  have hN : (["a", "b", "x", "y"] : List Str).Nodup := by decide
  have b : Binds K fd ["a", "b"] [] := F.bindsN fun _ _ _ _ _ _ us hl => match us, hl with | [_, _], _ => rfl
  have all : ∀ m, FnT P w K mg base "_law_same" (m + 1) 2 (s__law_same m) := by
    intro m
    induction m with
    | zero => exact (FnT.bad (N := []) F hm b rfl).mono (Nat.zero_le _)
    | succ m rec =>
      exact (FnT.of (k := m + 1) (N := ["a", "b", "x", "y"]) (ps := ["a", "b"]) F hm b rfl (by kernel_rfl) fun cdv A outer s H E hr =>
        show Bx _ _ _ (b__law_same (s__law_same m)) from
        b_cons (s_if (t_w (w_or (t_w (w_and (t_val (x_isi (n := "list") (by decide) G.b_isinstance G.b_list boot_list (x_loc 0))) (w_and1 (t_val (x_isi (n := "list") (by decide) G.b_isinstance G.b_list boot_list (x_loc 1)))))) (w_or1 (t_w (w_and (t_val (x_isi (n := "tuple") (by decide) G.b_isinstance G.b_tuple boot_tuple (x_loc 0))) (w_and1 (t_val (x_isi (n := "tuple") (by decide) G.b_isinstance G.b_tuple boot_tuple (x_loc 1))))))))) (b_one (s_ret (x_and (x_cmp (o_eq hr.units) (x_blt (c_len) G.b_len boot_len (ar_cons (x_loc 0) (ar_nil))) (x_blt (c_len) G.b_len boot_len (ar_cons (x_loc 1) (ar_nil)))) (x_one (x_blt (c_all rfl) G.b_all boot_all (ar_cons (x_lcF (owns := [("x", 2), ("y", 3)]) rfl hN (it_zip2 (ar_cons (x_loc 0) (ar_cons (x_loc 1) (ar_nil))) G.b_zip) (by kernel_rfl) (fun _ _ _ _ _ => c_tp rfl (cs_cons (c_nm 2 hN) (cs_cons (c_nm 3 hN) (cs_nil (is := []))))) (fun _ _ _ _ _ => ts_nil) (fun _ _ _ _ _ => x_fn rec hr passes_no (ar_cons (x_loc 2) (ar_cons (x_loc 3) (ar_nil))) (by omega))) (ar_nil))))))) (b_nil)) (b_cons (s_if (t_w (w_or (t_val (x_isiT (ns := ["bool", "list", "tuple"]) (TyNames.cons (n := "bool") (by decide) G.b_bool boot_bool rfl (by decide) (by decide) rfl (TyNames.cons (n := "list") (by decide) G.b_list boot_list rfl (by decide) (by decide) rfl (TyNames.cons (n := "tuple") (by decide) G.b_tuple boot_tuple rfl (by decide) (by decide) rfl TyNames.nil))) (by decide) G.b_isinstance (x_loc 0))) (w_or1 (t_val (x_isiT (ns := ["bool", "list", "tuple"]) (TyNames.cons (n := "bool") (by decide) G.b_bool boot_bool rfl (by decide) (by decide) rfl (TyNames.cons (n := "list") (by decide) G.b_list boot_list rfl (by decide) (by decide) rfl (TyNames.cons (n := "tuple") (by decide) G.b_tuple boot_tuple rfl (by decide) (by decide) rfl TyNames.nil))) (by decide) G.b_isinstance (x_loc 1)))))) (b_one (s_ret (x_and (x_isi (n := "bool") (by decide) G.b_isinstance G.b_bool boot_bool (x_loc 0)) (x_and (x_isi (n := "bool") (by decide) G.b_isinstance G.b_bool boot_bool (x_loc 1)) (x_one (x_cmp (o_eq hr.units) (x_loc 0) (x_loc 1))))))) (b_nil)) (b_cons (s_if (t_w (w_or (t_val (x_isi (n := "int") (by decide) G.b_isinstance G.b_int boot_int (x_loc 0))) (w_or1 (t_val (x_isi (n := "int") (by decide) G.b_isinstance G.b_int boot_int (x_loc 1)))))) (b_one (s_ret (x_and (x_isi (n := "int") (by decide) G.b_isinstance G.b_int boot_int (x_loc 0)) (x_and (x_isi (n := "int") (by decide) G.b_isinstance G.b_int boot_int (x_loc 1)) (x_one (x_cmp (o_eq hr.units) (x_loc 0) (x_loc 1))))))) (b_nil)) (b_cons (s_if (t_w (w_or (t_val (x_isi (n := "str") (by decide) G.b_isinstance G.b_str boot_str (x_loc 0))) (w_or1 (t_val (x_isi (n := "str") (by decide) G.b_isinstance G.b_str boot_str (x_loc 1)))))) (b_one (s_ret (x_and (x_isi (n := "str") (by decide) G.b_isinstance G.b_str boot_str (x_loc 0)) (x_and (x_isi (n := "str") (by decide) G.b_isinstance G.b_str boot_str (x_loc 1)) (x_one (x_cmp (o_eq hr.units) (x_loc 0) (x_loc 1))))))) (b_nil)) (b_one (s_ret (x_and (x_cmp o_isN (x_loc 0) (x_non)) (x_one (x_cmp o_isN (x_loc 1) (x_non)))))))))).mono (by omega)
  exact all 8
end
end K13
end Rm

namespace Rm
open PySem PySem.Spec PyProof.Rows L2
namespace K13
section
variable {P : Program} {w : World} {K : PySem.W.Frag} {mg : Str → Option Value} {base : Heap} {f : Addr} {fd : FuncData}
structure U_law (P : Program) (w : World) (K : PySem.W.Frag) (mg : Str → Option Value) (base : Heap) : Prop where
  t_tried : TriedD P w K mg base 8
  w__law_bags : FnT P w K mg base "_law_bags" 2 2 s__law_bags
  w__law_great : FnT P w K mg base "_law_great" 5 1 s__law_great
  w__law_opened : FnT P w K mg base "_law_opened" 1 5 s__law_opened
  w__law_same : FnT P w K mg base "_law_same" 9 2 (s__law_same 8)
  w__law_small : FnT P w K mg base "_law_small" 5 1 s__law_small
  w__law_take : FnT P w K mg base "_law_take" 1 2 s__law_take
  w_changed : FnKD P w K mg base "changed" (defArgs (top 35)) (defBody (top 35)) (defScope (top 35)) [("kind", .str "better"), ("first", .int 0), ("last", .non), ("many", .int 1)] ["house", "kind", "first", "last", "many"] 5 s_changed
theorem wl_law (G : Gs K mg) (hlam : lamB K "law" = true) (tb : TBs K mg base) (W : U_law P w K mg base) (F : FunD K "law" "law" (defArgs (top 53)) (defBody (top 53)) (defScope (top 53)) [] [] f fd) : FnOk P w K mg base (L2N.CX P w) 10 f fd ["script"] (spS K mg 1 s_law) := by
  have hN : (["script", "bag", "house", "nights", "turn", "a", "b", "word", "row", "low", "high", "more", "good", "due", "x", "y", "found", "top", "at"] : List Str).Nodup := by decide
  exact FnT.ofL (N := ["script", "bag", "house", "nights", "turn", "a", "b", "word", "row", "low", "high", "more", "good", "due", "x", "y", "found", "top", "at"]) (ps := ["script"]) F (by kernel_rfl) hlam tb fun cdv A outer s H E hr LO =>
    show Bx _ _ _ b_law from
    b_cons (s_for [1, 2, 3, 4, 5, 6, 7, 8, 9, 10, 11, 12, 13, 14, 15, 16, 17, 18] bX_own rfl (it_seq (x_fn W.w__law_bags hr bX_pass (ar_cons (x_loc 0) (ar_cons (x_int) (ar_nil))))) (g_nm 1 hN) (b_cons (s_set 2 hN (x_ix (x_ix (x_lf (ar_cons (x_fn W.w__law_small hr bX_pass (ar_cons (x_loc 1) (ar_nil))) (ar_cons (x_fn W.w__law_great hr bX_pass (ar_cons (x_loc 1) (ar_nil))) (ar_nil)))) (x_fn W.w__law_take hr bX_pass (ar_cons (x_loc 1) (ar_cons (x_int) (ar_nil))))) (x_int))) (b_cons (s_set 3 hN (x_blt (c_len) G.b_len boot_len (ar_cons (x_ix (x_loc 2) (x_int)) (ar_nil)))) (b_cons (s_for [4, 5, 6, 7, 8, 9, 10, 11, 12, 13, 14, 15, 16] bX_own rfl (it_range1 (ar_cons (x_int) (ar_nil)) G.b_range) (g_nm 4 hN) (b_cons (s_set 5 hN (x_fn W.w__law_take hr bX_pass (ar_cons (x_loc 1) (ar_cons (x_loc 3) (ar_nil))))) (b_cons (s_set 6 hN (x_bin o_add (x_loc 5) (x_fn W.w__law_take hr bX_pass (ar_cons (x_loc 1) (ar_cons (x_bin o_sub (x_loc 3) (x_loc 5)) (ar_nil)))))) (b_cons (s_set 7 hN (x_ix (x_lf (ar_cons (x_str) (ar_cons (x_str) (ar_nil)))) (x_fn W.w__law_take hr bX_pass (ar_cons (x_loc 1) (ar_cons (x_int) (ar_nil)))))) (b_cons (s_set 8 hN (x_ix (x_loc 2) (x_bty (c_int) G.b_int boot_int (ar_cons (x_cmp (o_eq hr.units) (x_loc 7) (x_str)) (ar_nil))))) (b_cons (s_par 9 10 rfl hN (ar_cons (x_bin o_sub (x_int) (x_blt (c_min rfl) G.b_min boot_min (ar_cons (x_slice (x_loc 8) (ox_some (x_loc 5)) (ox_some (x_bin o_add (x_loc 6) (x_int)))) (ar_nil)))) (ar_cons (x_bin o_sub (x_bin o_pow (x_int) (x_int)) (x_blt (c_max rfl) G.b_max boot_max (ar_cons (x_slice (x_loc 8) (ox_some (x_loc 5)) (ox_some (x_bin o_add (x_loc 6) (x_int)))) (ar_nil)))) ar_nil))) (b_one (s_for [11, 12, 13, 14, 15, 16] bX_own rfl (it_seq (x_lf (ar_cons (x_loc 9) (ar_cons (x_loc 10) (ar_cons (x_bin o_sub (x_loc 9) (x_int)) (ar_cons (x_bin o_add (x_loc 10) (x_int)) (ar_cons (x_bin o_sub (x_fn W.w__law_take hr bX_pass (ar_cons (x_loc 1) (ar_cons (x_int) (ar_nil)))) (x_int)) (ar_nil)))))))) (g_nm 11 hN) (b_one (s_if (t_chain o_le o_le (x_un o_neg (x_bin o_pow (x_int) (x_int))) (x_loc 11) (x_bin o_pow (x_int) (x_int))) (b_cons (s_set 12 hN (x_chain o_le o_le (x_loc 9) (x_loc 11) (x_loc 10))) (b_cons (s_set 13 hN (x_ife (t_val (x_loc 12)) (x_tup (ar_cons (x_str) (ar_cons (x_fn W.w__law_opened hr bX_pass (ar_cons (x_loc 2) (ar_cons (x_loc 7) (ar_cons (x_loc 5) (ar_cons (x_loc 6) (ar_cons (x_loc 11) (ar_nil))))))) (ar_nil)))) (x_tup (ar_cons (x_str) (ar_nil))))) (b_cons (s_if (t_not (t_val (x_fn W.w__law_same hr bX_pass (ar_cons (x_tried (k := 7) W.t_tried LO hr (by kernel_rfl) (fun A outer s H E f c' hr => x_fnD (n := 1) (ks := ["many", "kind", "last", "first"]) (ms := []) (md := []) (sp := [(true, 1), (true, 3), (true, 2), (true, 0)]) W.w_changed hr lam_pass (List.cons_ne_nil _ _) (by simp) rfl (fun _ _ _ _ _ _ us mv ws l1 l2 l3 => match us, mv, ws, l1, l2, l3 with | [_], [], [_, _, _, _], _, _, _ => rfl) (ar_cons (x_loc 2) (ar_nil)) (kx_cons (x_loc 11) (kx_cons (x_loc 7) (kx_cons (x_loc 6) (kx_cons (x_loc 5) (kx_nil))))))) (ar_cons (x_loc 13) (ar_nil)))))) (b_one (s_ret (x_bl))) (b_nil)) (b_one (s_for [14, 15, 16] bX_own rfl (it_seq (x_lf (ar_cons (x_tup (ar_cons (x_un o_neg (x_int)) (ar_cons (x_loc 6) (ar_nil)))) (ar_cons (x_tup (ar_cons (x_loc 5) (ar_cons (x_loc 3) (ar_nil)))) (ar_cons (x_tup (ar_cons (x_loc 6) (ar_cons (x_bin o_sub (x_loc 5) (x_int)) (ar_nil)))) (ar_cons (x_tup (ar_cons (x_non) (ar_cons (x_non) (ar_nil)))) (ar_cons (x_tup (ar_cons (x_loc 5) (ar_cons (x_bl) (ar_nil)))) (ar_cons (x_tup (ar_cons (x_str) (ar_cons (x_loc 6) (ar_nil)))) (ar_nil))))))))) (g_tp rfl (gs_cons (g_nm 14 hN) (gs_cons (g_nm 15 hN) (gs_nil)))) (b_cons (s_set 16 hN (x_tried (k := 7) W.t_tried LO hr (by kernel_rfl) (fun A outer s H E f c' hr => x_fnD (n := 1) (ks := ["kind", "first", "last", "many"]) (ms := []) (md := []) (sp := [(true, 0), (true, 1), (true, 2), (true, 3)]) W.w_changed hr lam_pass (List.cons_ne_nil _ _) (by simp) rfl (fun _ _ _ _ _ _ us mv ws l1 l2 l3 => match us, mv, ws, l1, l2, l3 with | [_], [], [_, _, _, _], _, _, _ => rfl) (ar_cons (x_loc 2) (ar_nil)) (kx_cons (x_loc 7) (kx_cons (x_loc 14) (kx_cons (x_loc 15) (kx_cons (x_loc 11) (kx_nil)))))))) (b_one (s_if (t_cmp (o_ne hr.units) (x_loc 16) (x_tup (ar_cons (x_str) (ar_nil)))) (b_one (s_ret (x_bl))) (b_nil))))))))) (b_nil))))))))))) (b_cons (s_set 17 hN (x_bin o_pow (x_int) (x_int))) (b_cons (s_set 13 hN (x_fn W.w__law_opened hr bX_pass (ar_cons (x_loc 2) (ar_cons (x_str) (ar_cons (x_int) (ar_cons (x_bin o_sub (x_loc 3) (x_int)) (ar_cons (x_int) (ar_nil)))))))) (b_cons (s_set 12 hN (x_and (x_cmp o_lt (x_blt (c_max rfl) G.b_max boot_max (ar_cons (x_ix (x_loc 2) (x_int)) (ar_nil))) (x_loc 17)) (x_one (x_cmp o_lt (x_blt (c_max rfl) G.b_max boot_max (ar_cons (x_ix (x_loc 2) (x_int)) (ar_nil))) (x_loc 17))))) (b_cons (s_if (t_w (w_and (t_val (x_loc 12)) (w_and1 (t_cmp (o_ne hr.units) (x_fnD (n := 1) (ks := []) (ms := [("kind", .str "better"), ("first", .int 0), ("last", .non), ("many", .int 1)]) (md := [.str "better", .int 0, .non, .int 1]) (sp := [(false, 0), (false, 1), (false, 2), (false, 3)]) W.w_changed hr bX_pass (List.cons_ne_nil _ _) (by simp) rfl (fun _ _ _ _ _ _ us mv ws l1 l2 l3 => match us, mv, ws, l1, l2, l3 with | [_], [_, _, _, _], [], _, _, _ => ⟨_, _, _, _, _, _, rfl, rfl, _, _, _, _, _, _, rfl, rfl, _, _, _, _, _, _, rfl, rfl, _, _, _, _, _, _, rfl, rfl, rfl⟩) (ar_cons (x_loc 2) (ar_nil)) (kx_nil)) (x_loc 13))))) (b_one (s_ret (x_bl))) (b_nil)) (b_cons (s_if (t_w (w_and (t_val (x_loc 12)) (w_and1 (t_cmp (o_ne hr.units) (x_fnD (n := 1) (ks := ["kind"]) (ms := [("first", .int 0), ("last", .non), ("many", .int 1)]) (md := [.int 0, .non, .int 1]) (sp := [(true, 0), (false, 0), (false, 1), (false, 2)]) W.w_changed hr bX_pass (List.cons_ne_nil _ _) (by simp) rfl (fun _ _ _ _ _ _ us mv ws l1 l2 l3 => match us, mv, ws, l1, l2, l3 with | [_], [_, _, _], [_], _, _, _ => ⟨_, _, _, _, _, _, rfl, rfl, _, _, _, _, _, _, rfl, rfl, _, _, _, _, _, _, rfl, rfl, rfl⟩) (ar_cons (x_loc 2) (ar_nil)) (kx_cons (x_str) (kx_nil))) (x_fn W.w__law_opened hr bX_pass (ar_cons (x_loc 2) (ar_cons (x_str) (ar_cons (x_int) (ar_cons (x_bin o_sub (x_loc 3) (x_int)) (ar_cons (x_int) (ar_nil))))))))))) (b_one (s_ret (x_bl))) (b_nil)) (b_cons (s_set 18 hN (x_bin o_sub (x_loc 3) (x_int))) (b_cons (s_if (t_w (w_and (t_val (x_loc 12)) (w_and1 (t_cmp (o_ne hr.units) (x_fnD (n := 1) (ks := ["first"]) (ms := [("kind", .str "better"), ("last", .non), ("many", .int 1)]) (md := [.str "better", .non, .int 1]) (sp := [(false, 0), (true, 0), (false, 1), (false, 2)]) W.w_changed hr bX_pass (List.cons_ne_nil _ _) (by simp) rfl (fun _ _ _ _ _ _ us mv ws l1 l2 l3 => match us, mv, ws, l1, l2, l3 with | [_], [_, _, _], [_], _, _, _ => ⟨_, _, _, _, _, _, rfl, rfl, _, _, _, _, _, _, rfl, rfl, _, _, _, _, _, _, rfl, rfl, rfl⟩) (ar_cons (x_loc 2) (ar_nil)) (kx_cons (x_loc 18) (kx_nil))) (x_fn W.w__law_opened hr bX_pass (ar_cons (x_loc 2) (ar_cons (x_str) (ar_cons (x_loc 18) (ar_cons (x_loc 18) (ar_cons (x_int) (ar_nil))))))))))) (b_one (s_ret (x_bl))) (b_nil)) (b_cons (s_if (t_w (w_and (t_val (x_loc 12)) (w_and1 (t_cmp (o_ne hr.units) (x_fnD (n := 1) (ks := ["last", "many"]) (ms := [("kind", .str "better"), ("first", .int 0)]) (md := [.str "better", .int 0]) (sp := [(false, 0), (false, 1), (true, 0), (true, 1)]) W.w_changed hr bX_pass (List.cons_ne_nil _ _) (by simp) rfl (fun _ _ _ _ _ _ us mv ws l1 l2 l3 => match us, mv, ws, l1, l2, l3 with | [_], [_, _], [_, _], _, _, _ => ⟨_, _, _, _, _, _, rfl, rfl, _, _, _, _, _, _, rfl, rfl, rfl⟩) (ar_cons (x_loc 2) (ar_nil)) (kx_cons (x_int) (kx_cons (x_int) (kx_nil)))) (x_loc 2))))) (b_one (s_ret (x_bl))) (b_nil)) (b_one (s_if (t_cmp (o_ne hr.units) (x_tried (k := 7) W.t_tried LO hr (by kernel_rfl) (fun A outer s H E f c' hr => x_fnD (n := 1) (ks := ["kind", "first"]) (ms := [("last", .non), ("many", .int 1)]) (md := [.non, .int 1]) (sp := [(true, 0), (true, 1), (false, 0), (false, 1)]) W.w_changed hr lam_pass (List.cons_ne_nil _ _) (by simp) rfl (fun _ _ _ _ _ _ us mv ws l1 l2 l3 => match us, mv, ws, l1, l2, l3 with | [_], [_, _], [_, _], _, _, _ => ⟨_, _, _, _, _, _, rfl, rfl, _, _, _, _, _, _, rfl, rfl, rfl⟩) (ar_cons (x_loc 2) (ar_nil)) (kx_cons (x_str) (kx_cons (x_un o_neg (x_int)) (kx_nil))))) (x_tup (ar_cons (x_str) (ar_nil)))) (b_one (s_ret (x_bl))) (b_nil))))))))))))))) (b_one (s_ret (x_cmp (o_eq hr.units) (x_tried (k := 7) W.t_tried LO hr (by kernel_rfl) (fun A outer s H E f c' hr => x_fnD (n := 1) (ks := ["kind"]) (ms := [("first", .int 0), ("last", .non), ("many", .int 1)]) (md := [.int 0, .non, .int 1]) (sp := [(true, 0), (false, 0), (false, 1), (false, 2)]) W.w_changed hr lam_pass (List.cons_ne_nil _ _) (by simp) rfl (fun _ _ _ _ _ _ us mv ws l1 l2 l3 => match us, mv, ws, l1, l2, l3 with | [_], [_, _, _], [_], _, _, _ => ⟨_, _, _, _, _, _, rfl, rfl, _, _, _, _, _, _, rfl, rfl, _, _, _, _, _, _, rfl, rfl, rfl⟩) (ar_cons (x_tup (ar_nil)) (ar_nil)) (kx_cons (x_str) (kx_nil)))) (x_tup (ar_cons (x_str) (ar_nil))))))
end
end K13
end Rm

namespace Rm
open PySem PySem.Spec PyProof.Rows L2
namespace K13
/-! ### the head, with facts -/
def nm0 : List PySem.Str := ["RoomError", "InvalidHouse", "InvalidGroups", "InvalidPlan", "InvalidWeights", "InvalidNight", "InvalidPlace", "InvalidSpan", "InvalidKind", "InvalidWishes", "InvalidSpans", "InvalidName", "RoomsOutOfRange", "TooManyGroups", "NoPlan", "NothingToUndo", "TrialOpen", "NoRoom", "UnknownName", "InvalidText", "MOST_NIGHTS", "MOST_ROOMS", "KINDS", "is_integer", "is_between", "is_row", "is_house", "check_house", "check_kind", "check_span"]
def nm1 : List PySem.Str := ["moved", "last_night", "changed", "_law_well", "_law_take", "_law_bags", "_law_same", "_law_many", "_law_costs", "_law_group", "_law_most", "_law_on", "_law_house_for", "_law_made", "_law_small", "_law_great", "_law_kind", "_law_tried", "_law_opened"]
def loose : List PySem.Str := nm0 ++ nm1
def d_is_integer : He.DefD := ⟨("is_integer", none), "is_integer", "is_integer", defArgs (top 25), defBody (top 25), defScope (top 25), [], []⟩
def d_is_row : He.DefD := ⟨("is_row", none), "is_row", "is_row", defArgs (top 27), defBody (top 27), defScope (top 27), [], []⟩
def d_check_kind : He.DefD := ⟨("check_kind", none), "check_kind", "check_kind", defArgs (top 30), defBody (top 30), defScope (top 30), [], []⟩
def d_last_night : He.DefD := ⟨("last_night", none), "last_night", "last_night", defArgs (top 34), defBody (top 34), defScope (top 34), [], []⟩
def d__law_well : He.DefD := ⟨("_law_well", none), "_law_well", "_law_well", defArgs (top 37), defBody (top 37), defScope (top 37), [], []⟩
def d__law_take : He.DefD := ⟨("_law_take", none), "_law_take", "_law_take", defArgs (top 38), defBody (top 38), defScope (top 38), [], []⟩
def d__law_most : He.DefD := ⟨("_law_most", none), "_law_most", "_law_most", defArgs (top 44), defBody (top 44), defScope (top 44), [], []⟩
def d__law_on : He.DefD := ⟨("_law_on", none), "_law_on", "_law_on", defArgs (top 45), defBody (top 45), defScope (top 45), [], []⟩
def d__law_kind : He.DefD := ⟨("_law_kind", none), "_law_kind", "_law_kind", defArgs (top 50), defBody (top 50), defScope (top 50), [], []⟩
def d__law_tried : He.DefD := ⟨("_law_tried", none), "_law_tried", "_law_tried", defArgs (top 51), defBody (top 51), defScope (top 51), [], []⟩
def d__law_opened : He.DefD := ⟨("_law_opened", none), "_law_opened", "_law_opened", defArgs (top 52), defBody (top 52), defScope (top 52), [], []⟩
def d_is_between : He.DefD := ⟨("is_between", none), "is_between", "is_between", defArgs (top 26), defBody (top 26), defScope (top 26), [], []⟩
def d__law_bags : He.DefD := ⟨("_law_bags", none), "_law_bags", "_law_bags", defArgs (top 39), defBody (top 39), defScope (top 39), [], []⟩
def d__law_many : He.DefD := ⟨("_law_many", none), "_law_many", "_law_many", defArgs (top 41), defBody (top 41), defScope (top 41), [], []⟩
def d__law_costs : He.DefD := ⟨("_law_costs", none), "_law_costs", "_law_costs", defArgs (top 42), defBody (top 42), defScope (top 42), [], []⟩
def d__law_house_for : He.DefD := ⟨("_law_house_for", none), "_law_house_for", "_law_house_for", defArgs (top 46), defBody (top 46), defScope (top 46), [], []⟩
def d_is_house : He.DefD := ⟨("is_house", none), "is_house", "is_house", defArgs (top 28), defBody (top 28), defScope (top 28), [], []⟩
def d_check_span : He.DefD := ⟨("check_span", none), "check_span", "check_span", defArgs (top 31), defBody (top 31), defScope (top 31), [], []⟩
def d_moved : He.DefD := ⟨("moved", none), "moved", "moved", defArgs (top 33), defBody (top 33), defScope (top 33), [], []⟩
def d__law_group : He.DefD := ⟨("_law_group", none), "_law_group", "_law_group", defArgs (top 43), defBody (top 43), defScope (top 43), [], []⟩
def d_check_house : He.DefD := ⟨("check_house", none), "check_house", "check_house", defArgs (top 29), defBody (top 29), defScope (top 29), [], []⟩
def d__law_made : He.DefD := ⟨("_law_made", none), "_law_made", "_law_made", defArgs (top 47), defBody (top 47), defScope (top 47), [], []⟩
def d_changed : He.DefD := ⟨("changed", none), "changed", "changed", defArgs (top 35), defBody (top 35), defScope (top 35), [], [("kind", .str "better"), ("first", .int 0), ("last", .non), ("many", .int 1)]⟩
def d__law_small : He.DefD := ⟨("_law_small", none), "_law_small", "_law_small", defArgs (top 48), defBody (top 48), defScope (top 48), [], []⟩
def d__law_great : He.DefD := ⟨("_law_great", none), "_law_great", "_law_great", defArgs (top 49), defBody (top 49), defScope (top 49), [], []⟩
def d__law_same : He.DefD := ⟨("_law_same", none), "_law_same", "_law_same", defArgs (top 40), defBody (top 40), defScope (top 40), [], []⟩
def d_law : He.DefD := ⟨("law", none), "law", "law", defArgs (top 53), defBody (top 53), defScope (top 53), [], []⟩
def fn : List He.DefD := [d_is_integer, d_is_row, d_check_kind, d_last_night, d__law_well, d__law_take, d__law_most, d__law_on, d__law_kind, d__law_tried, d__law_opened, d_is_between, d__law_bags, d__law_many, d__law_costs, d__law_house_for, d_is_house, d_check_span, d_moved, d__law_group, d_check_house, d__law_made, d_changed, d__law_small, d__law_great, d__law_same, d_law]
def fa : List He.Fa := [.glo "is_integer", .glo "is_row", .glo "check_kind", .glo "last_night", .glo "_law_well", .glo "_law_take", .glo "_law_most", .glo "_law_on", .glo "_law_kind", .glo "_law_tried", .glo "_law_opened", .glo "is_between", .glo "_law_bags", .glo "_law_many", .glo "_law_costs", .glo "_law_house_for", .glo "is_house", .glo "check_span", .glo "moved", .glo "_law_group", .glo "check_house", .glo "_law_made", .glo "changed", .glo "_law_small", .glo "_law_great", .glo "_law_same", .glo "law", .glo "InvalidHouse", .glo "InvalidKind", .glo "InvalidSpan", .glo "RoomsOutOfRange", .exc "InvalidHouse", .exc "InvalidKind", .exc "InvalidSpan", .exc "RoomsOutOfRange", .free "all", .free "bool", .free "enumerate", .free "int", .free "isinstance", .free "len", .free "list", .free "max", .free "min", .free "range", .free "set", .free "sorted", .free "str", .free "sum", .free "tuple", .free "zip", .int "MOST_NIGHTS" 30, .int "MOST_ROOMS" 1000000000000]
def exF (K : PySem.W.Frag) : Bool := lamB K "law" && tupB K "KINDS" [.str "standard", .str "better"] && kindB K
abbrev R : PySem.W.OpenRow := PySem.W.OpenLaw.row PySem.Challenge.rw_roomnights_k13_houses_changed
abbrev hk : PySem.W.Hook := hookL 6 fa fn exF
def ob (s : PySem.W.SharedT) : He.AlD × Bool := obsL 6 fa fn exF (HandSHeadRun.getT s)
theorem ob_eq (s : PySem.W.SharedT) : ob s = hk.obs s.abs := obsL_eq (HandSHeadRun.getT_eq s)
theorem run (w : World) : HandSHeadRun.RunEq R (PySem.W.view R.prog [53]) hk ob 6000 loose w := by
  intro os
  kernel_rfl
theorem facts {P : Program} {w : World} {K : PySem.W.Frag} {h : Heap} {mg : Str → Option Value} {f : Addr} (X : K.In h) (G : h.Ns mainGlobals mg) (hfa : mg ("law" : Str) = some (.ref f)) (c : He.SaysD fa fn K) (hx : exF K = true) :
    ∃ fd : FuncData, (∀ (s : Shared) (v : Value), BindsTo s fd ⟨[v], []⟩ [("script", v)]) ∧ ∀ base : Heap, TBs K mg base → FnOk P w K mg base (L2N.CX P w) 10 f fd ["script"] (spS K mg 1 s_law) := by
  unfold exF at hx
  simp only [Bool.and_eq_true] at hx
  obtain ⟨⟨hx0, hx1⟩, hx2⟩ := hx
  have gs : Gs K mg := ⟨He.free_ok X G (c.fact 35 (f := .free "all") rfl), He.free_ok X G (c.fact 36 (f := .free "bool") rfl), He.free_ok X G (c.fact 37 (f := .free "enumerate") rfl), He.free_ok X G (c.fact 38 (f := .free "int") rfl), He.free_ok X G (c.fact 39 (f := .free "isinstance") rfl), He.free_ok X G (c.fact 40 (f := .free "len") rfl), He.free_ok X G (c.fact 41 (f := .free "list") rfl), He.free_ok X G (c.fact 42 (f := .free "max") rfl), He.free_ok X G (c.fact 43 (f := .free "min") rfl), He.free_ok X G (c.fact 44 (f := .free "range") rfl), He.free_ok X G (c.fact 45 (f := .free "set") rfl), He.free_ok X G (c.fact 46 (f := .free "sorted") rfl), He.free_ok X G (c.fact 47 (f := .free "str") rfl), He.free_ok X G (c.fact 48 (f := .free "sum") rfl), He.free_ok X G (c.fact 49 (f := .free "tuple") rfl), He.free_ok X G (c.fact 50 (f := .free "zip") rfl), He.int_ok X G (c.fact 51 (f := .int "MOST_NIGHTS" 30) rfl), He.int_ok X G (c.fact 52 (f := .int "MOST_ROOMS" 1000000000000) rfl), excF_of X G (c.fact 27 (f := .glo "InvalidHouse") rfl) (c.fact 31 (f := .exc "InvalidHouse") rfl), excF_of X G (c.fact 28 (f := .glo "InvalidKind") rfl) (c.fact 32 (f := .exc "InvalidKind") rfl), excF_of X G (c.fact 29 (f := .glo "InvalidSpan") rfl) (c.fact 33 (f := .exc "InvalidSpan") rfl), excF_of X G (c.fact 30 (f := .glo "RoomsOutOfRange") rfl) (c.fact 34 (f := .exc "RoomsOutOfRange") rfl), tupB_ok X G hx1⟩
  obtain ⟨_, F_is_integer⟩ := c.def_ 0 (d := d_is_integer) rfl
  have w_is_integer := fun base : Heap => K13.w_is_integer (P := P) (w := w) (base := base) gs F_is_integer (He.glo_ok X G (c.fact 0 (f := .glo "is_integer") rfl))
  obtain ⟨_, F_is_row⟩ := c.def_ 1 (d := d_is_row) rfl
  have w_is_row := fun base : Heap => K13.w_is_row (P := P) (w := w) (base := base) gs F_is_row (He.glo_ok X G (c.fact 1 (f := .glo "is_row") rfl))
  obtain ⟨_, F_check_kind⟩ := c.def_ 2 (d := d_check_kind) rfl
  have w_check_kind := fun base : Heap => K13.w_check_kind (P := P) (w := w) (base := base) gs F_check_kind (He.glo_ok X G (c.fact 2 (f := .glo "check_kind") rfl))
  obtain ⟨_, F_last_night⟩ := c.def_ 3 (d := d_last_night) rfl
  have w_last_night := fun base : Heap => K13.w_last_night (P := P) (w := w) (base := base) gs F_last_night (He.glo_ok X G (c.fact 3 (f := .glo "last_night") rfl))
  obtain ⟨_, F__law_well⟩ := c.def_ 4 (d := d__law_well) rfl
  have w__law_well := fun base : Heap => K13.w__law_well (P := P) (w := w) (base := base) gs F__law_well (He.glo_ok X G (c.fact 4 (f := .glo "_law_well") rfl))
  obtain ⟨_, F__law_take⟩ := c.def_ 5 (d := d__law_take) rfl
  have w__law_take := fun base : Heap => K13.w__law_take (P := P) (w := w) (base := base) gs F__law_take (He.glo_ok X G (c.fact 5 (f := .glo "_law_take") rfl))
  obtain ⟨_, F__law_most⟩ := c.def_ 6 (d := d__law_most) rfl
  have w__law_most := fun base : Heap => K13.w__law_most (P := P) (w := w) (base := base) gs F__law_most (He.glo_ok X G (c.fact 6 (f := .glo "_law_most") rfl))
  obtain ⟨_, F__law_on⟩ := c.def_ 7 (d := d__law_on) rfl
  have w__law_on := fun base : Heap => K13.w__law_on (P := P) (w := w) (base := base) gs F__law_on (He.glo_ok X G (c.fact 7 (f := .glo "_law_on") rfl))
  obtain ⟨_, F__law_kind⟩ := c.def_ 8 (d := d__law_kind) rfl
  have w__law_kind := fun base : Heap => K13.w__law_kind (P := P) (w := w) (base := base) gs (kindB_F X G hx2) F__law_kind (He.glo_ok X G (c.fact 8 (f := .glo "_law_kind") rfl))
  obtain ⟨_, F__law_tried⟩ := c.def_ 9 (d := d__law_tried) rfl
  have w__law_tried := fun base : Heap => fun kk => fun hkk => K13.w__law_tried (P := P) (w := w) (base := base) (k := kk) (kindB_T X G hx2 (w__law_kind base) kind_says) hkk F__law_tried (He.glo_ok X G (c.fact 9 (f := .glo "_law_tried") rfl))
  obtain ⟨_, F__law_opened⟩ := c.def_ 10 (d := d__law_opened) rfl
  have w__law_opened := fun base : Heap => K13.w__law_opened (P := P) (w := w) (base := base) gs F__law_opened (He.glo_ok X G (c.fact 10 (f := .glo "_law_opened") rfl))
  obtain ⟨_, F_is_between⟩ := c.def_ 11 (d := d_is_between) rfl
  have w_is_between := fun base : Heap => K13.w_is_between (P := P) (w := w) (base := base) gs ⟨w_is_integer base⟩ F_is_between (He.glo_ok X G (c.fact 11 (f := .glo "is_between") rfl))
  obtain ⟨_, F__law_bags⟩ := c.def_ 12 (d := d__law_bags) rfl
  have w__law_bags := fun base : Heap => K13.w__law_bags (P := P) (w := w) (base := base) gs ⟨w__law_well base⟩ F__law_bags (He.glo_ok X G (c.fact 12 (f := .glo "_law_bags") rfl))
  obtain ⟨_, F__law_many⟩ := c.def_ 13 (d := d__law_many) rfl
  have w__law_many := fun base : Heap => K13.w__law_many (P := P) (w := w) (base := base) gs ⟨w__law_take base⟩ F__law_many (He.glo_ok X G (c.fact 13 (f := .glo "_law_many") rfl))
  obtain ⟨_, F__law_costs⟩ := c.def_ 14 (d := d__law_costs) rfl
  have w__law_costs := fun base : Heap => K13.w__law_costs (P := P) (w := w) (base := base) gs ⟨w__law_take base⟩ F__law_costs (He.glo_ok X G (c.fact 14 (f := .glo "_law_costs") rfl))
  obtain ⟨_, F__law_house_for⟩ := c.def_ 15 (d := d__law_house_for) rfl
  have w__law_house_for := fun base : Heap => K13.w__law_house_for (P := P) (w := w) (base := base) gs ⟨w__law_on base, w__law_take base⟩ F__law_house_for (He.glo_ok X G (c.fact 15 (f := .glo "_law_house_for") rfl))
  obtain ⟨_, F_is_house⟩ := c.def_ 16 (d := d_is_house) rfl
  have w_is_house := fun base : Heap => K13.w_is_house (P := P) (w := w) (base := base) gs ⟨w_is_between base, w_is_row base⟩ F_is_house (He.glo_ok X G (c.fact 16 (f := .glo "is_house") rfl))
  obtain ⟨_, F_check_span⟩ := c.def_ 17 (d := d_check_span) rfl
  have w_check_span := fun base : Heap => K13.w_check_span (P := P) (w := w) (base := base) gs ⟨w_is_between base⟩ F_check_span (He.glo_ok X G (c.fact 17 (f := .glo "check_span") rfl))
  obtain ⟨_, F_moved⟩ := c.def_ 18 (d := d_moved) rfl
  have w_moved := fun base : Heap => K13.w_moved (P := P) (w := w) (base := base) gs ⟨w_is_between base⟩ F_moved (He.glo_ok X G (c.fact 18 (f := .glo "moved") rfl))
  obtain ⟨_, F__law_group⟩ := c.def_ 19 (d := d__law_group) rfl
  have w__law_group := fun base : Heap => K13.w__law_group (P := P) (w := w) (base := base) gs ⟨w__law_costs base, w__law_many base, w__law_take base⟩ F__law_group (He.glo_ok X G (c.fact 19 (f := .glo "_law_group") rfl))
  obtain ⟨_, F_check_house⟩ := c.def_ 20 (d := d_check_house) rfl
  have w_check_house := fun base : Heap => K13.w_check_house (P := P) (w := w) (base := base) gs ⟨w_is_house base⟩ F_check_house (He.glo_ok X G (c.fact 20 (f := .glo "check_house") rfl))
  obtain ⟨_, F__law_made⟩ := c.def_ 21 (d := d__law_made) rfl
  have w__law_made := fun base : Heap => K13.w__law_made (P := P) (w := w) (base := base) gs ⟨w__law_group base, w__law_house_for base, w__law_many base, w__law_most base⟩ F__law_made (He.glo_ok X G (c.fact 21 (f := .glo "_law_made") rfl))
  obtain ⟨_, F_changed⟩ := c.def_ 22 (d := d_changed) rfl
  have w_changed := fun base : Heap => K13.w_changed (P := P) (w := w) (base := base) gs ⟨w_check_house base, w_check_kind base, w_check_span base, w_last_night base, w_moved base⟩ F_changed (He.glo_ok X G (c.fact 22 (f := .glo "changed") rfl))
  obtain ⟨_, F__law_small⟩ := c.def_ 23 (d := d__law_small) rfl
  have w__law_small := fun base : Heap => K13.w__law_small (P := P) (w := w) (base := base) gs ⟨w__law_made base, w__law_take base⟩ F__law_small (He.glo_ok X G (c.fact 23 (f := .glo "_law_small") rfl))
  obtain ⟨_, F__law_great⟩ := c.def_ 24 (d := d__law_great) rfl
  have w__law_great := fun base : Heap => K13.w__law_great (P := P) (w := w) (base := base) gs ⟨w__law_made base, w__law_take base⟩ F__law_great (He.glo_ok X G (c.fact 24 (f := .glo "_law_great") rfl))
  obtain ⟨_, F__law_same⟩ := c.def_ 25 (d := d__law_same) rfl
  have w__law_same := fun base : Heap => K13.w__law_same (P := P) (w := w) (base := base) gs F__law_same (He.glo_ok X G (c.fact 25 (f := .glo "_law_same") rfl))
  obtain ⟨fd, F⟩ := c.def_ 26 (d := d_law) rfl
  have e := hfa.symm.trans (He.glo_ok X G (c.fact 26 (f := .glo "law") rfl))
  cases e
  have b := FunD.bindsA (ps := ["script"]) F fun _ _ _ _ _ _ us hl => match us, hl with | [_], _ => rfl
  exact ⟨fd, fun s v => b s [v] rfl, fun base tb => K13.wl_law gs hx0 tb ⟨w__law_tried base 8 (by decide), w__law_bags base, w__law_great base, w__law_opened base, w__law_same base, w__law_small base, w__law_take base, w_changed base⟩ F⟩
end K13
end Rm

open PySem PySem.W PySem.Calls PyProof.Rows
theorem PySem.Challenge.cw_roomnights_k13_houses_changed_holds : PySem.Challenge.rw_roomnights_k13_houses_changed.Holds := by
  w_on; o_law
  refine HandSHeadRun.head_any (r := OpenLaw.row PySem.Challenge.rw_roomnights_k13_houses_changed) (q := view (OpenLaw.row PySem.Challenge.rw_roomnights_k13_houses_changed).prog [53]) (H := Rm.K13.hk) (ob := Rm.K13.ob) (M := 6000) (loose := Rm.K13.loose) (d := HandSHeadRun.topDef (OpenLaw.row PySem.Challenge.rw_roomnights_k13_houses_changed).prog 53) (kwd := []) Rm.K13.ob_eq
    (by kernel_rfl) (fun s => by kernel_rfl) Rm.K13.run (by kernel_rfl) (by kernel_rfl) (by kernel_rfl) (by rfl) (by first | assumption | decide +kernel) (by decide +kernel) ⟨rfl, rfl, rfl, rfl, rfl, by decide +kernel⟩ ?hw ?hc
  case hw => w_witness2
  case hc =>
    refine LamX.walk_ofTsE (l := PySem.Challenge.rw_roomnights_k13_houses_changed) (n := 63) (k := 10) (x := "script") (CX := fun w => L2N.CX (PySem.Challenge.rw_roomnights_k13_houses_changed).prog w) rfl (by decide) (by kernel_rfl) ⟨by decide, by decide, by decide⟩ ?F (fun w => Rm.cxn_no)
    intro w mg fa h Y G hmg0
    obtain ⟨K, KX, c, hx, hT⟩ := Y
    have hmg : mg ("law" : PySem.Str) = some (.ref fa) := by
      have e : (HandSHeadRun.topDef (OpenLaw.row PySem.Challenge.rw_roomnights_k13_houses_changed).prog 53).name = ("law" : PySem.Str) := by kernel_rfl
      rw [← e]
      exact hmg0
    obtain ⟨fd, hb, hF⟩ := Rm.K13.facts (P := (PySem.Challenge.rw_roomnights_k13_houses_changed).prog) (w := w) KX G hmg c hx
    exact ⟨K, KX, Rm.lawAt (l := PySem.Challenge.rw_roomnights_k13_houses_changed) KX hT hb Rm.law_ok fun base tb => hF base tb⟩
