import PyProof.Rows.All
import Wide.All
import OpenK.AllK
import Wide.FinOn
import PySem.Challenge.RW_turncouple_k01_numbers_made
import HandS.ForMost
import HandS.Exc
import HandS.ExcOwn
import HandS.CallSlots
import HandS.Lambda
import HandS.Wide
import HandS.TupAny
import HandS.TupMul
import KE.DataMinMax
import KE.SortKeyHeap
import HandS.DictEq
import HandS.Deep
import HandS.Dict
import HandS.TupLe
import HandS.Flow
import HandS.Defaults
import HandS.HeadEnd
import HandS.SortInts
import HandS.TryOnly
import HandS.Style
import HandS.More
import HandS.RaiseMore
import HandS.IsInst
import HandS.Conv
import HandS.Flt
import HandS.AnyAll
import HandS.WordsDict
import KE.KTupSum
import HandS.Iter
import KE.KSortKey
import HandS.Small
import HandS.Comp
import HandS.OwnEq
import KE.KCallOwn
import KE.KFmtOwn
import HandS.FStr
import HandS.ExcIs
import PyProof.ExcBaseAll.ValueError
import HandS.Ends
import KE.KStateDown
import HandS.Head0
import HandS.Head1
import HandS.Head2
import HandS.HeadHook1
import HandS.HeadHook2
import HandS.MakeKwOnly
import HandS.Words
section
set_option Elab.async false
set_option linter.all false
set_option maxRecDepth 100000
set_option maxHeartbeats 4000000
set_option autoImplicit false
namespace L2.T
open PySem PySem.Spec PyProof.Rows

/-! ### data -/
inductive D where
  | non | bl (b : Bool) | int (i : Int) | str (x : Str)
  | tup (xs : List D) | lst (xs : List D) | dk (kvs : List (Key × D)) | dt (kvs : List (List Key × D)) | ins (c : Nat) (fs : List D)
  | ty (n : String) | scr (ns : List Int) | exc (c : Nat)

/-- what is known of the classes: where each stands, its fields' names in order -/
structure Ct where
  K : PySem.W.Frag
  cl : Nat → Addr × List Str
  tb : List (Addr × Str)
/-- an error's object of the class at c -/
def ExO (a c : Addr) : HO := .ext fun h => ∃ (o : Obj) (vs : Array Value), h.get? a = some o ∧ o.cls = .ref c ∧ o.dict = none ∧ o.data = .fields vs

mutual
inductive Rep (C : Ct) (Z : Hp) : D → V → Prop
  | non : Rep C Z .non .non
  | bl (b) : Rep C Z (.bl b) (.bl b)
  | int (i) : Rep C Z (.int i) (.int i)
  | str (x) : Rep C Z (.str x) (.str x)
  | ty (n) : Rep C Z (.ty n) (.ty n)
  | tup {a ds vs} : SqT C.K Z a vs → Reps C Z ds vs → Rep C Z (.tup ds) (.ref a)
  | lst {a ds vs} : Z a = some (.lst vs) → Reps C Z ds vs → Rep C Z (.lst ds) (.ref a)
  | dk {a vs} {kvs : List (Key × D)} : Rd Z a (.dK ((kvs.map (·.1)).zip vs)) → Reps C Z (kvs.map (·.2)) vs → Rep C Z (.dk kvs) (.ref a)
  | dt {a vs} {kvs : List (List Key × D)} : Rd Z a (.dT ((kvs.map (·.1)).zip vs)) → Reps C Z (kvs.map (·.2)) vs → Rep C Z (.dt kvs) (.ref a)
  | scr {a ns} : SqL C.K Z a (ns.map V.int) → Rep C Z (.scr ns) (.ref a)
  | exc {a c} : Z a = some (ExO a (C.cl c).1) → Rep C Z (.exc c) (.ref a)
  | ins {c fs a dx vs} : Z a = some (.ins (C.cl c).1 dx ((C.cl c).2.zip vs)) → vs.length ≤ (C.cl c).2.length → Reps C Z fs vs → Rep C Z (.ins c fs) (.ref a)
inductive Reps (C : Ct) (Z : Hp) : List D → List V → Prop
  | nil : Reps C Z [] []
  | cons {d v ds vs} : Rep C Z d v → Reps C Z ds vs → Reps C Z (d :: ds) (v :: vs)
end

/-- more is frozen -/
def Le (Z Z' : Hp) : Prop := ∀ a o, Z a = some o → Z' a = some o
theorem Le.refl (Z : Hp) : Le Z Z := fun _ _ h => h
theorem Le.trans {Z Z1 Z2 : Hp} (a : Le Z Z1) (b : Le Z1 Z2) : Le Z Z2 := fun c o h => b c o (a c o h)
theorem Le.upd {Z : Hp} {a : Addr} {o : HO} (h : Z a = none) : Le Z (upd Z a o) := fun b u e => by
  rw [upd_ne (fun z => by subst z; rw [h] at e; cases e)]; exact e
theorem Le.rd {Z Z' : Hp} {a : Addr} {u : HO} (e : Le Z Z') (h : Rd Z a u) : Rd Z' a u := by
  rcases h with h | ⟨o, h⟩
  · exact .inl (e _ _ h)
  · exact .inr ⟨o, e _ _ h⟩
theorem Le.sqL {K : PySem.W.Frag} {Z Z' : Hp} {a : Addr} {xs : List V} (e : Le Z Z') (h : SqL K Z a xs) : SqL K Z' a xs := by
  rcases h with (h | ⟨o, h⟩) | h
  · exact .inl (.inl (e _ _ h))
  · exact .inl (.inr ⟨o, e _ _ h⟩)
  · exact .inr h
theorem Le.sqT {K : PySem.W.Frag} {Z Z' : Hp} {a : Addr} {xs : List V} (e : Le Z Z') (h : SqT K Z a xs) : SqT K Z' a xs := by
  rcases h with (h | ⟨o, h⟩) | h
  · exact .inl (.inl (e _ _ h))
  · exact .inl (.inr ⟨o, e _ _ h⟩)
  · exact .inr h
mutual
theorem Rep.mono {C : Ct} {Z Z' : Hp} (l : Le Z Z') : ∀ {d : D} {v : V}, Rep C Z d v → Rep C Z' d v
  | _, _, .non => .non
  | _, _, .bl b => .bl b
  | _, _, .int i => .int i
  | _, _, .str x => .str x
  | _, _, .ty n => .ty n
  | _, _, .tup h r => .tup (l.sqT h) (Reps.mono l r)
  | _, _, .lst h r => .lst (l _ _ h) (Reps.mono l r)
  | _, _, .scr h => .scr (l.sqL h)
  | _, _, .exc h => .exc (l _ _ h)
  | _, _, .dk h r => .dk (l.rd h) (Reps.mono l r)
  | _, _, .dt h r => .dt (l.rd h) (Reps.mono l r)
  | _, _, .ins h n r => .ins (l _ _ h) n (Reps.mono l r)
theorem Reps.mono {C : Ct} {Z Z' : Hp} (l : Le Z Z') : ∀ {ds : List D} {vs : List V}, Reps C Z ds vs → Reps C Z' ds vs
  | _, _, .nil => .nil
  | _, _, .cons h r => .cons (Rep.mono l h) (Reps.mono l r)
end
theorem Reps.length {C : Ct} {Z : Hp} : ∀ {ds : List D} {vs : List V}, Reps C Z ds vs → ds.length = vs.length
  | _, _, .nil => rfl
  | _, _, .cons _ r => congrArg Nat.succ (Reps.length r)
theorem Reps.append {C : Ct} {Z : Hp} : ∀ {ds : List D} {vs : List V} {es : List D} {us : List V}, Reps C Z ds vs → Reps C Z es us → Reps C Z (ds ++ es) (vs ++ us)
  | _, _, _, _, .nil, s => s
  | _, _, _, _, .cons h r, s => .cons h (Reps.append r s)
theorem Reps.get {C : Ct} {Z : Hp} : ∀ {ds : List D} {vs : List V} {i : Nat} {d : D}, Reps C Z ds vs → ds[i]? = some d → ∃ v, vs[i]? = some v ∧ Rep C Z d v
  | _, _, _, _, .nil, e => by simp at e
  | _, _, 0, _, .cons h _, e => by simp at e; subst e; exact ⟨_, rfl, h⟩
  | _, _, i + 1, d, .cons _ r, e => by
    obtain ⟨v, h1, h2⟩ := Reps.get (i := i) (d := d) r (by simpa using e)
    exact ⟨v, by simpa using h1, h2⟩
theorem Reps.getV {C : Ct} {Z : Hp} : ∀ {ds : List D} {vs : List V} {i : Nat} {v : V}, Reps C Z ds vs → vs[i]? = some v → ∃ d, ds[i]? = some d ∧ Rep C Z d v
  | _, _, _, _, .nil, e => by simp at e
  | _, _, 0, _, .cons h _, e => by simp at e; subst e; exact ⟨_, rfl, h⟩
  | _, _, i + 1, d, .cons _ r, e => by
    obtain ⟨v, h1, h2⟩ := Reps.getV (i := i) (v := d) r (by simpa using e)
    exact ⟨v, by simpa using h1, h2⟩

/-! ### frames -/
inductive Sl where
  | un | sh (d : D) | ow (d : D)

/-- an owned object: not frozen, its content frozen data -/
def Own (C : Ct) (Z H : Hp) : D → Addr → Prop
  | .lst ds, a => Z a = none ∧ ∃ vs, H a = some (.lst vs) ∧ Reps C Z ds vs
  | .dk kvs, a => Z a = none ∧ ∃ vs, H a = some (.dK ((kvs.map (·.1)).zip vs)) ∧ Reps C Z (kvs.map (·.2)) vs
  | .dt kvs, a => Z a = none ∧ ∃ vs, H a = some (.dT ((kvs.map (·.1)).zip vs)) ∧ Reps C Z (kvs.map (·.2)) vs
  | .ins c fs, a => Z a = none ∧ ∃ dx vs, H a = some (.ins (C.cl c).1 dx ((C.cl c).2.zip vs)) ∧ vs.length ≤ (C.cl c).2.length ∧ Reps C Z fs vs
  | _, _ => False
theorem Own.zn {C : Ct} {Z H : Hp} : ∀ {d : D} {a : Addr}, Own C Z H d a → Z a = none
  | .lst _, _, h => h.1
  | .ins _ _, _, h => h.1
  | .dk _, _, h => h.1
  | .dt _, _, h => h.1
  | .non, _, h => h.elim
  | .bl _, _, h => h.elim
  | .int _, _, h => h.elim
  | .str _, _, h => h.elim
  | .tup _, _, h => h.elim
  | .ty _, _, h => h.elim
  | .scr _, _, h => h.elim
  | .exc _, _, h => h.elim
theorem Own.here {C : Ct} {Z H : Hp} : ∀ {d : D} {a : Addr}, Own C Z H d a → ∃ o, H a = some o
  | .lst _, _, ⟨_, _, h, _⟩ => ⟨_, h⟩
  | .ins _ _, _, ⟨_, _, _, h, _⟩ => ⟨_, h⟩
  | .dk _, _, ⟨_, _, h, _⟩ => ⟨_, h⟩
  | .dt _, _, ⟨_, _, h, _⟩ => ⟨_, h⟩
  | .non, _, h => h.elim
  | .bl _, _, h => h.elim
  | .int _, _, h => h.elim
  | .str _, _, h => h.elim
  | .tup _, _, h => h.elim
  | .ty _, _, h => h.elim
  | .scr _, _, h => h.elim
  | .exc _, _, h => h.elim
theorem Own.move {C : Ct} {Z Z' H H' : Hp} (l : Le Z Z') : ∀ {d : D} {a : Addr}, Own C Z H d a → Z' a = none → (∀ o, H a = some o → H' a = some o) → Own C Z' H' d a
  | .lst _, _, ⟨_, vs, h, r⟩, hz, hh => ⟨hz, vs, hh _ h, r.mono l⟩
  | .dk _, _, ⟨_, vs, h, r⟩, hz, hh => ⟨hz, vs, hh _ h, r.mono l⟩
  | .dt _, _, ⟨_, vs, h, r⟩, hz, hh => ⟨hz, vs, hh _ h, r.mono l⟩
  | .ins _ _, _, ⟨_, dx, vs, h, n, r⟩, hz, hh => ⟨hz, dx, vs, hh _ h, n, r.mono l⟩
  | .non, _, h, _, _ => h.elim
  | .bl _, _, h, _, _ => h.elim
  | .int _, _, h, _, _ => h.elim
  | .str _, _, h, _, _ => h.elim
  | .tup _, _, h, _, _ => h.elim
  | .ty _, _, h, _, _ => h.elim
  | .scr _, _, h, _, _ => h.elim
  | .exc _, _, h, _, _ => h.elim
/-- frozen -/
theorem Own.freeze {C : Ct} {Z H : Hp} : ∀ {d : D} {a : Addr}, Own C Z H d a → ∃ o, H a = some o ∧ Rep C (upd Z a o) d (.ref a)
  | .lst _, _, ⟨hz, vs, h, r⟩ => ⟨_, h, .lst upd_same (r.mono (Le.upd hz))⟩
  | .dk _, _, ⟨hz, vs, h, r⟩ => ⟨_, h, .dk (.inl upd_same) (r.mono (Le.upd hz))⟩
  | .dt _, _, ⟨hz, vs, h, r⟩ => ⟨_, h, .dt (.inl upd_same) (r.mono (Le.upd hz))⟩
  | .ins _ _, _, ⟨hz, dx, vs, h, n, r⟩ => ⟨_, h, .ins upd_same n (r.mono (Le.upd hz))⟩
  | .non, _, h => h.elim
  | .bl _, _, h => h.elim
  | .int _, _, h => h.elim
  | .str _, _, h => h.elim
  | .tup _, _, h => h.elim
  | .ty _, _, h => h.elim
  | .scr _, _, h => h.elim
  | .exc _, _, h => h.elim

/-- no table, nothing of another kind -/
def Pln (o : HO) : Prop := (∀ ps, o ≠ .tbl ps) ∧ ∀ f, o ≠ .ext f
theorem pln_lst {vs : List V} : Pln (.lst vs) := ⟨fun _ z => (nomatch z), fun _ z => (nomatch z)⟩
theorem Own.kind {C : Ct} {Z H : Hp} {d : D} {a : Addr} (w : Own C Z H d a) : ∃ o, H a = some o ∧ Pln o := by
  cases d <;> first | exact w.elim | skip
  · obtain ⟨_, vs, h, _⟩ := w
    exact ⟨_, h, ⟨fun _ z => (nomatch z), fun _ z => (nomatch z)⟩⟩
  · obtain ⟨_, vs, h, _⟩ := w
    exact ⟨_, h, ⟨fun _ z => (nomatch z), fun _ z => (nomatch z)⟩⟩
  · obtain ⟨_, vs, h, _⟩ := w
    exact ⟨_, h, ⟨fun _ z => (nomatch z), fun _ z => (nomatch z)⟩⟩
  · obtain ⟨_, _, vs, h, _⟩ := w
    exact ⟨_, h, ⟨fun _ z => (nomatch z), fun _ z => (nomatch z)⟩⟩
/-- no table -/
def Nt (o : HO) : Prop := ∀ ps, o ≠ .tbl ps
theorem Own.plnOf {C : Ct} {Z H : Hp} {d : D} {a : Addr} {ob : HO} (w : Own C Z H d a) (h : H a = some ob) : Pln ob := by
  obtain ⟨o, h1, h2⟩ := w.kind
  rw [h] at h1
  cases h1
  exact h2
/-- the tables of code objects: told, neither frozen nor lent -/
structure TbOk (C : Ct) (Z L H : Hp) : Prop where
  tabs : LamX.Tabs C.tb H
  zn : ∀ p ∈ C.tb, Z p.1 = none
  ln : ∀ p ∈ C.tb, L p.1 = none
  zt : ∀ a o, Z a = some o → Nt o
  lt : ∀ a o, L a = some o → Nt o
section
variable {C : Ct} {Z L H : Hp}
theorem nt_upd {Z : Hp} {a : Addr} {u : HO} (h : ∀ a o, Z a = some o → Nt o) (k : Nt u) : ∀ b o, upd Z a u b = some o → Nt o := fun b o e => by
  by_cases hb : b = a
  · rw [hb, upd_same] at e
    cases e
    exact k
  · rw [upd_ne hb] at e
    exact h b o e
theorem TbOk.ne (t : TbOk C Z L H) {a : Addr} {o : HO} (h : H a = some o) (k : Nt o) : ∀ p ∈ C.tb, p.1 ≠ a := fun p hp z => by
  obtain ⟨ps, h1, _⟩ := t.tabs p hp
  rw [z, h] at h1
  cases h1
  exact k _ rfl
theorem TbOk.ext (t : TbOk C Z L H) {H' : Hp} (l : Le H H') : TbOk C Z L H' := ⟨t.tabs.ext l, t.zn, t.ln, t.zt, t.lt⟩
theorem TbOk.frz (t : TbOk C Z L H) {a : Addr} {o : HO} (h : H a = some o) (k : Nt o) : TbOk C (upd Z a o) L H := ⟨t.tabs, fun p hp => by rw [upd_ne (t.ne h k p hp)]; exact t.zn p hp, t.ln, nt_upd t.zt k, t.lt⟩
theorem TbOk.len (t : TbOk C Z L H) {a : Addr} {o : HO} (h : H a = some o) (k : Nt o) : TbOk C Z (upd L a o) H := ⟨t.tabs, t.zn, fun p hp => by rw [upd_ne (t.ne h k p hp)]; exact t.ln p hp, t.zt, nt_upd t.lt k⟩
theorem TbOk.put (t : TbOk C Z L H) {a : Addr} {o u : HO} (h : H a = some o) (k : Pln o) : TbOk C Z L (upd H a u) := by
  refine ⟨fun p hp => ?_, t.zn, t.ln, t.zt, t.lt⟩
  obtain ⟨ps, h1, h2, h3⟩ := t.tabs p hp
  refine ⟨ps, by rw [upd_ne (t.ne h k.1 p hp)]; exact h1, h2, fun pos cv hc => ?_⟩
  obtain ⟨c, e1, e2⟩ := h3 pos cv hc
  refine ⟨c, e1, ?_⟩
  rw [upd_ne]
  · exact e2
  · intro z
    rw [z, h] at e2
    exact k.2 _ (Option.some.inj e2)
theorem TbOk.fresh (t : TbOk C Z L H) {a : Addr} (h : H a = none) : ∀ p ∈ C.tb, p.1 ≠ a := fun p hp z => by
  obtain ⟨ps, h1, _⟩ := t.tabs p hp
  rw [z, h] at h1
  cases h1
theorem TbOk.newZ (t : TbOk C Z L H) {a : Addr} {o u : HO} (h : H a = none) (k : Nt u) : TbOk C (upd Z a u) L (upd H a o) := ⟨(t.ext (Le.upd h)).tabs, fun p hp => by
  rw [upd_ne (t.fresh h p hp)]
  exact t.zn p hp, t.ln, nt_upd t.zt k, t.lt⟩
theorem TbOk.newL (t : TbOk C Z L H) {a : Addr} {o u : HO} (h : H a = none) (k : Nt u) : TbOk C Z (upd L a u) (upd H a o) := ⟨(t.ext (Le.upd h)).tabs, t.zn, fun p hp => by
  rw [upd_ne (t.fresh h p hp)]
  exact t.ln p hp, t.zt, nt_upd t.lt k⟩
theorem TbOk.off {a : Addr} {o : HO} (t : TbOk C Z (upd L a o) H) : ∀ p ∈ C.tb, p.1 ≠ a := fun p hp z => by
  have := t.ln p hp
  rw [z, upd_same] at this
  cases this
theorem TbOk.pop {a : Addr} {o : HO} (t : TbOk C Z (upd L a o) H) (la : L a = none) : TbOk C Z L H := ⟨t.tabs, t.zn, fun p hp => by
  have := t.ln p hp
  rw [upd_ne (t.off p hp)] at this
  exact this, t.zt, fun b u e => by
  refine t.lt b u ?_
  rw [upd_ne (fun z => by rw [z, la] at e; cases e)]
  exact e⟩
theorem TbOk.re {a : Addr} {o u : HO} (t : TbOk C Z (upd L a o) H) (h : H a = some o) (k : Pln o) (ku : Nt u) : TbOk C Z (upd L a u) (upd H a u) := ⟨(t.put h k).tabs, t.zn, fun p hp => by
  have := t.ln p hp
  rw [upd_ne (t.off p hp)] at this
  rw [upd_ne (t.off p hp)]
  exact this, t.zt, fun b w e => by
  by_cases hb : b = a
  · rw [hb, upd_same] at e
    cases e
    exact ku
  · rw [upd_ne hb] at e
    exact t.lt b w (by rw [upd_ne hb]; exact e)⟩
theorem TbOk.sub (t : TbOk C Z L H) {L' : Hp} (l : Le L' L) : TbOk C Z L' H := ⟨t.tabs, t.zn, fun p hp => by
  cases q : L' p.1 with
  | none => rfl
  | some o =>
    have := l _ _ q
    rw [t.ln p hp] at this
    exact (nomatch this), t.zt, fun a o e => t.lt a o (l a o e)⟩
end
/-- a slot and what stands in the frame -/
def SlR (C : Ct) (Z L H : Hp) : Sl → Option V → Prop
  | .un, _ => True
  | .sh d, v => ∃ u, v = some u ∧ Rep C Z d u
  | .ow d, v => ∃ a, v = some (.ref a) ∧ Own C Z H d a ∧ L a = none

/-- the frame ρ, what is frozen Z, what others own L, and the slots and the heap as they stand -/
structure Rel (C : Ct) (P : List (Nat × V)) (ρ : List Sl) (Z L : Hp) (σ : St) (H : Hp) : Prop where
  zh : Le Z H
  lh : Le L H
  zl : ∀ a o, Z a = some o → L a = none
  len : ρ.length = σ.length
  sl : ∀ (i : Nat) (s : Sl) (v : Option V), ρ[i]? = some s → σ[i]? = some v → SlR C Z L H s v
  ap : ∀ (i j : Nat) (d e : D) (a : Addr), ρ[i]? = some (.ow d) → ρ[j]? = some (.ow e) → σ[i]? = some (some (.ref a)) → σ[j]? = some (some (.ref a)) → i = j
  pin : ∀ (j : Nat) (v : V), (j, v) ∈ P → σ[j]? = some (some v)
  tb : TbOk C Z L H

/-- a value told: fresh (nobody else holds it) or frozen -/
def RepR (C : Ct) (ρ : List Sl) (Z L : Hp) (σ : St) (H : Hp) (fr : Bool) (d : D) (v : V) : Prop :=
  if fr = true then ∃ a, v = .ref a ∧ Own C Z H d a ∧ L a = none ∧ ∀ (i : Nat) (e : D), ρ[i]? = some (Sl.ow e) → σ[i]? ≠ some (some (V.ref a)) else Rep C Z d v

section
variable {C : Ct} {P : List (Nat × V)} {ρ : List Sl} {Z L : Hp} {σ : St} {H : Hp}
theorem Rel.freeze (r : Rel C P ρ Z L σ H) {fr : Bool} {d : D} {v : V} (h : RepR C ρ Z L σ H fr d v) : ∃ Z', Le Z Z' ∧ Rel C P ρ Z' L σ H ∧ Rep C Z' d v := by
  cases fr with
  | false => exact ⟨Z, Le.refl Z, r, h⟩
  | true =>
    obtain ⟨a, rfl, o, la, na⟩ : ∃ a, v = .ref a ∧ Own C Z H d a ∧ L a = none ∧ ∀ (i : Nat) (e : D), ρ[i]? = some (Sl.ow e) → σ[i]? ≠ some (some (V.ref a)) := h
    obtain ⟨ob, hob, q⟩ := o.freeze
    have le : Le Z (upd Z a ob) := Le.upd o.zn
    refine ⟨upd Z a ob, le, ⟨fun b u e => ?_, r.lh, fun b u e => ?_, r.len, fun i s w h1 h2 => ?_, r.ap, r.pin, r.tb.frz hob (o.plnOf hob).1⟩, q⟩
    · by_cases hb : b = a
      · subst hb; rw [upd_same] at e; cases e; exact hob
      · rw [upd_ne hb] at e; exact r.zh b u e
    · by_cases hb : b = a
      · subst hb; exact la
      · rw [upd_ne hb] at e; exact r.zl b u e
    · have q := r.sl i s w h1 h2
      cases s with
      | un => trivial
      | sh e =>
        obtain ⟨u, h3, h4⟩ := q
        exact ⟨u, h3, h4.mono le⟩
      | ow e =>
        obtain ⟨b, h3, h4, h5⟩ := q
        have hb : b ≠ a := fun z => na i e h1 (by rw [h2, h3, z])
        exact ⟨b, h3, h4.move le (by rw [upd_ne hb]; exact h4.zn) (fun _ z => z), h5⟩
end
end L2.T
end

section
set_option Elab.async false
set_option linter.all false
set_option maxRecDepth 100000
set_option maxHeartbeats 4000000
set_option autoImplicit false
namespace L2.T
open PySem PySem.Spec PyProof.Rows

/-! ### the results -/
/-- an exception: its class, its fields -/
structure Exn where
  c : Nat
  fs : List D
inductive R (α : Type) where
  | ok (a : α) (ρ : List Sl)
  | ex (x : Exn) (ρ : List Sl)
  | stuck
def R.bind {α β : Type} (r : R α) (f : α → List Sl → R β) : R β := match r with
  | .ok a ρ => f a ρ
  | .ex x ρ => .ex x ρ
  | .stuck => .stuck
def R.of {α : Type} (o : Option α) (ρ : List Sl) : R α := match o with
  | some a => .ok a ρ
  | none => .stuck
def R.wp {α : Type} (r : R α) (Q : α → List Sl → Prop) (E : Exn → List Sl → Prop) : Prop := match r with
  | .ok a ρ => Q a ρ
  | .ex x ρ => E x ρ
  | .stuck => False
theorem R.wp_bind {α β : Type} {r : R α} {f : α → List Sl → R β} {Q : β → List Sl → Prop} {E : Exn → List Sl → Prop} (h : (r.bind f).wp Q E) : r.wp (fun a ρ => (f a ρ).wp Q E) E := by
  cases r with
  | ok a ρ => exact h
  | ex x ρ => exact h
  | stuck => exact h
theorem R.wp_mono {α : Type} {r : R α} {Q Q' : α → List Sl → Prop} {E E' : Exn → List Sl → Prop} (h : r.wp Q E) (hq : ∀ a ρ, Q a ρ → Q' a ρ) (he : ∀ x ρ, E x ρ → E' x ρ) : r.wp Q' E' := by
  cases r with
  | ok a ρ => exact hq _ _ h
  | ex x ρ => exact he _ _ h
  | stuck => exact h
theorem R.wp_of {α : Type} {o : Option α} {ρ : List Sl} {Q : α → List Sl → Prop} {E : Exn → List Sl → Prop} (h : (R.of o ρ).wp Q E) : ∃ a, o = some a ∧ Q a ρ := by
  cases o with
  | none => exact h.elim
  | some a => exact ⟨a, rfl, h⟩

/-! ### operands -/
inductive Op where
  | val (d : D) | sl (i : Nat)
/-- its data, at the time of use -/
def Op.rs (ρ : List Sl) : Op → Option D
  | .val d => some d
  | .sl i => match ρ[i]? with
    | some (.sh d) => some d
    | some (.ow d) => some d
    | _ => none
def rsL (ρ : List Sl) : List Op → Option (List D)
  | [] => some []
  | o :: os => match o.rs ρ, rsL ρ os with
    | some d, some ds => some (d :: ds)
    | _, _ => none
/-- frozen -/
def Op.fz (ρ : List Sl) : Op → Option (D × List Sl)
  | .val d => some (d, ρ)
  | .sl i => match ρ[i]? with
    | some (.sh d) => some (d, ρ)
    | some (.ow d) => some (d, ρ.set i (.sh d))
    | _ => none
def fzL (ρ : List Sl) : List Op → Option (List D × List Sl)
  | [] => some ([], ρ)
  | o :: os => match o.fz ρ with
    | some (d, ρ1) => (match fzL ρ1 os with
      | some (ds, ρ2) => some (d :: ds, ρ2)
      | none => none)
    | none => none

/-! ### the text -/
inductive Tg where
  | nm (i : Nat) | tu (ts : List Tg)
mutual
inductive E where
  | c (d : D)
  | v (i : Nat)
  | bin (o : Operator) (a b : E)
  | neg (a : E) | not (a : E)
  | and (a b : E) | or (a b : E)
  | ife (c a b : E)
  | cmp (o : CmpOp) (a b : E)
  | chn (o p : CmpOp) (a b c : E)
  | tup (es : Es) | lst (es : Es)
  | idx (a b : E)
  | sli (a : E) (lo hi : Es)
  | call (f : Nat) (es : Es)
  | callk (f : Nat) (es ks : Es) (pm : List (Sum Nat D))
  | no
  | dk0 | dt0
  | lrg (es : Es)
  | isi (a : E) (ks : List String)
  | isc (a : E) (tb : List Bool)
  | said (n w : Nat) (e : E)
  | bi (b : String) (es : Es)
  | me (m : String) (a : E) (es : Es)
  | mm (m : String) (i : Nat) (es : Es)
  | rng (es : Es)
  | lc (own : List Nat) (t : Tg) (it : E) (ifs : Es) (el : E)
  | dd (a b : E)
  | fld (c i : Nat) (a : E)
  | mk (c id : Nat) (es : Es)
  | isx (c : Nat) (a : E)
  | cmpx (ne : Bool) (c id : Nat) (a b : E)
  | ownx (rp : Bool) (c id : Nat) (es : Es)
  | fmt (a : E)
  | fst (es : Es)
inductive Es where
  | nil | cons (e : E) (es : Es)
end
def Es.len : Es → Nat
  | .nil => 0
  | .cons _ r => r.len + 1
mutual
inductive S where
  | asg (t : Tg) (e : E)
  | par (is : List Nat) (es : Es)
  | asgs (is : List Nat) (e : E)
  | aug (o : Operator) (i : Nat) (e : E)
  | six (i : Nat) (ix e : E)
  | ex (e : E)
  | ret (e : E)
  | ite (c : E) (a b : Ss)
  | for_ (t : Tg) (it : E) (b : Ss)
  | whl (c : E) (b : Ss)
  | brk | cnt | pas | no
  | rse (c : Nat)
  | fset (c i j : Nat) (e : E)
inductive Ss where
  | nil | cons (s : S) (r : Ss)
end
/-- a def: its parameters' number, those that may be moved in, its slots' number, its body -/
structure Fd where
  n : Nat
  mv : List Nat
  ns : Nat
  body : Ss

/-! ### data operations -/
def D.truth : D → Option Bool
  | .non => some false
  | .bl b => some b
  | .int i => some (i != 0)
  | .str x => if x.length ≤ sizeLine then some (x.length != 0) else none
  | .tup xs => some (!xs.isEmpty)
  | .lst xs => some (!xs.isEmpty)
  | _ => none
def mulOk (i j : Int) : Bool := decide (i.natAbs.log2 + j.natAbs.log2 < 1000000)
def divOk (j : Int) : Bool := decide (j ≠ 0) && decide (j.natAbs.log2 < 9000)
def powOk (i j : Int) : Bool := decide (0 ≤ j) && (decide (j ≤ 1000000) && decide (i.natAbs < 2 ^ 64))
def bop : Operator → D → D → Option (Bool × D)
  | .Add, .int i, .int j => some (false, .int (i + j))
  | .Sub, .int i, .int j => some (false, .int (i - j))
  | .Mult, .int i, .int j => if mulOk i j = true then some (false, .int (i * j)) else none
  | .FloorDiv, .int i, .int j => if divOk j = true then some (false, .int (i.fdiv j)) else none
  | .Mod, .int i, .int j => if j = 0 then none else some (false, .int (i.fmod j))
  | .Pow, .int i, .int j => if powOk i j = true then some (false, .int (i ^ j.toNat)) else none
  | .LShift, .int i, .int j => if powOk i j = true then some (false, .int (i * 2 ^ j.toNat)) else none
  | .Add, .str x, .str y => if x.length + y.length ≤ sizeLine then some (false, .str (x ++ y)) else none
  | .Add, .lst xs, .lst ys => if xs.length + ys.length ≤ sizeLine then some (true, .lst (xs ++ ys)) else none
  | .Add, .tup xs, .tup ys => if xs.length + ys.length ≤ sizeLine then some (false, .tup (xs ++ ys)) else none
  | .Mult, .lst xs, .int k => if 0 ≤ k ∧ k ≤ 1000 ∧ xs.length ≤ 1000 then some (true, .lst (List.replicate k.toNat xs).flatten) else none
  | .Mult, .tup xs, .int k => if 2 ≤ k ∧ k ≤ 1000 ∧ xs ≠ [] ∧ xs.length ≤ 1000 then some (false, .tup (List.replicate k.toNat xs).flatten) else none
  | _, _, _ => none
/-- x op= e of ints -/
def augI : Operator → Int → Int → Option Int
  | .Add, i, j => some (i + j)
  | .Sub, i, j => some (i - j)
  | .Mult, i, j => if mulOk i j = true then some (i * j) else none
  | .FloorDiv, i, j => if divOk j = true then some (i.fdiv j) else none
  | .Mod, i, j => if j = 0 then none else some (i.fmod j)
  | _, _, _ => none
def augD (o : Operator) : D → D → Option D
  | .int i, .int j => (augI o i j).map .int
  | _, _ => none
mutual
def D.py : D → Option PyData
  | .non => some .none
  | .bl b => some (.bool b)
  | .int i => some (.int i)
  | .str x => some (.str x)
  | .tup xs => (pyL xs).map .tuple
  | .lst xs => (pyL xs).map .list
  | _ => none
def pyL : List D → Option (List PyData)
  | [] => some []
  | d :: ds => match d.py, pyL ds with
    | some x, some xs => some (x :: xs)
    | _, _ => none
end
def eqD (d e : D) : Option Bool := match d.py, e.py with
  | some x, some y => if SeqAt.shaped x && SeqAt.shaped y then some (PyData.eqv x y) else none
  | _, _ => none
def D.isNon : D → Bool
  | .non => true
  | _ => false
/-- x < y of tuples -/
def ltD (d e : D) : Option Bool := match d.py, e.py with
  | some x, some y => if (PySem.W.alike x y && (SeqAt.shaped x && SeqAt.shaped y)) = true then some (PySem.W.dataLt x y) else none
  | _, _ => none
mutual
def D.of : PyData → D
  | .none => .non
  | .bool b => .bl b
  | .int i => .int i
  | .str x => .str x
  | .tuple xs => .tup (ofL xs)
  | .list xs => .lst (ofL xs)
  | .dict _ => .non
def ofL : List PyData → List D
  | [] => []
  | x :: xs => D.of x :: ofL xs
end
def notNone : PyData → Bool
  | .none => false
  | _ => true
/-- the least of alike data -/
def minData (ds : List D) : Option D := match pyL ds with
  | some (x :: r) => if ((x :: r).all fun a => (x :: r).all fun b => PySem.W.alike a b) && ((x :: r).all fun a => notNone a && SeqAt.shaped a) then some (D.of (PySem.W.minD x r)) else none
  | _ => none
def lenOf : D → Nat
  | .lst xs => xs.length
  | .tup xs => xs.length
  | _ => 0
def isSeq : D → Bool
  | .lst _ => true
  | .tup _ => true
  | _ => false
/-- the order of sorted(.., key=len) -/
def lenLe (a b : D) : Bool := PySem.W.dataLe false (fun d => PyData.int (lenOf d : Int)) a b
def reprD (d : D) : Option Str := match d.py with
  | some x => if x.showable && (!x.hasDict && (SeqAt.shaped x && decide (x.shown.length ≤ sizeLine))) then some x.shown else none
  | none => none
/-- x in a list of data -/
def inL (d : D) (xs : List D) : Option Bool := match d.py, pyL xs with
  | some x, some ys => if SeqAt.shaped x && SeqAt.shaped (.list ys) then some (ys.any fun z => PyData.eqv z x) else none
  | _, _ => none
def keyD : D → Option Key
  | .int i => some (.inl i)
  | .str x => some (.inr x)
  | _ => none
def valA {κ α : Type} [DecidableEq κ] (kvs : List (κ × α)) (k : κ) : Option α := (kvs.find? fun kv => decide (kv.1 = k)).map (·.2)
/-- x in a list, in a dict -/
def memD (d e : D) : Option Bool := match e with
  | .lst xs => inL d xs
  | .dk kvs => (keyD d).map fun k => (valA kvs k).isSome
  | _ => none
/-- a dict asked whether it is empty -/
def eqK (d e : D) : Option Bool := match d, e with
  | .dk kvs, .dk [] => some kvs.isEmpty
  | d, e => eqD d e
def cop : CmpOp → D → D → Option Bool
  | .Eq, d, e => eqK d e
  | .NotEq, d, e => (eqD d e).map not
  | .Lt, .int i, .int j => some (decide (i < j))
  | .Lt, .tup xs, .tup ys => ltD (.tup xs) (.tup ys)
  | .LtE, .int i, .int j => some (decide (i ≤ j))
  | .Gt, .int i, .int j => some (decide (j < i))
  | .GtE, .int i, .int j => some (decide (j ≤ i))
  | .Is, d, .non => some d.isNon
  | .IsNot, d, .non => some (!d.isNon)
  | .Is, .bl a, .bl b => some (decide (a = b))
  | .IsNot, .bl a, .bl b => some (!decide (a = b))
  | .In, d, e => memD d e
  | .NotIn, d, e => (memD d e).map not
  | _, _, _ => none
def intsOf : List D → Option (List Int)
  | [] => some []
  | .int i :: r => (intsOf r).map (i :: ·)
  | _ => none
def maxI : List Int → Int
  | [] => 0
  | [x] => x
  | x :: r => if maxI r > x then maxI r else x
def minI : List Int → Int
  | [] => 0
  | [x] => x
  | x :: r => if minI r < x then minI r else x
def blsOf : List D → Option (List Bool)
  | [] => some []
  | .bl b :: r => (blsOf r).map (b :: ·)
  | _ => none
/-- ints in order -/
def sortI (ns : List Int) : List Int := ns.mergeSort fun i j => decide (i ≤ j)
theorem sortI_perm (ns : List Int) : (sortI ns).Perm ns := List.mergeSort_perm _ _
theorem sortI_up (ns : List Int) : (sortI ns).Pairwise (· ≤ ·) := by
  have h := List.pairwise_mergeSort (le := fun (i j : Int) => decide (i ≤ j)) (fun a b c h1 h2 => by simp only [decide_eq_true_eq] at *; omega) (fun a b => by simp only [Bool.or_eq_true, decide_eq_true_eq]; omega) ns
  exact h.imp fun h => by simpa only [decide_eq_true_eq] using h
theorem sortI_uniq {ns ms : List Int} (h : ms.Perm ns) (h2 : ms.Pairwise (· ≤ ·)) : ms = sortI ns :=
  (h.trans (sortI_perm ns).symm).eq_of_pairwise (le := (· ≤ ·)) (fun a b _ _ h1 h2 => Int.le_antisymm h1 h2) h2 (sortI_up ns)
/-- a key as data -/
def keyV : Key → D
  | .inl i => .int i
  | .inr x => .str x
/-- the keys, all of them ints -/
def intKs : List Key → Option (List Int)
  | [] => some []
  | .inl i :: r => (intKs r).map (i :: ·)
  | _ => none
def bfn (b : String) (ds : List D) : Option (Bool × D) :=
  if b = "len" then (match ds with
    | [.lst xs] => some (false, .int xs.length)
    | [.tup xs] => some (false, .int xs.length)
    | [.dk kvs] => some (false, .int kvs.length)
    | [.str x] => if x.length ≤ sizeLine then some (false, .int x.length) else none
    | _ => none)
  else if b = "abs" then (match ds with
    | [.int i] => some (false, .int (if i < 0 then -i else i))
    | _ => none)
  else if b = "list" then (match ds with
    | [.lst xs] => some (true, .lst xs)
    | [.tup xs] => some (true, .lst xs)
    | [.dk kvs] => some (true, .lst ((kvs.map (·.1)).map keyV))
    | _ => none)
  else if b = "tuple" then (match ds with
    | [.lst xs] => some (false, .tup xs)
    | [.tup xs] => some (false, .tup xs)
    | _ => none)
  else if b = "sum" then (match ds with
    | [.lst xs] => (intsOf xs).map fun ns => (false, .int ns.sum)
    | [.tup xs] => (intsOf xs).map fun ns => (false, .int ns.sum)
    | _ => none)
  else if b = "max" then (match ds with
    | [.int i, .int j] => some (false, .int (if j > i then j else i))
    | [.int i, .int j, .int l] => some (false, .int (if (if i < j then j else i) < l then l else (if i < j then j else i)))
    | [.lst xs] => (match intsOf xs with
      | some ns => if 0 < ns.length then some (false, .int (maxI ns)) else none
      | none => none)
    | [.tup xs] => (match intsOf xs with
      | some ns => if 0 < ns.length then some (false, .int (maxI ns)) else none
      | none => none)
    | _ => none)
  else if b = "sorted" then (match ds with
    | [.lst xs] => (intsOf xs).map fun ns => (true, .lst ((sortI ns).map D.int))
    | [.tup xs] => (intsOf xs).map fun ns => (true, .lst ((sortI ns).map D.int))
    | [.dk kvs] => if kvs.length ≤ 1000 then (intKs (kvs.map (·.1))).map fun ns => (true, .lst ((sortI ns).map D.int)) else none
    | _ => none)
  else if b = "min" then (match ds with
    | [.int i, .int j] => some (false, .int (if j < i then j else i))
    | [.int i, .int j, .int l] => some (false, .int (if l < (if j < i then j else i) then l else (if j < i then j else i)))
    | [.lst xs] => (match intsOf xs with
      | some ns => if 0 < ns.length then some (false, .int (minI ns)) else none
      | none => (minData xs).map fun d => (false, d))
    | _ => none)
  else if b = "int" then (match ds with
    | [.int i] => some (false, .int i)
    | [.bl k] => some (false, .int (if k then 1 else 0))
    | _ => none)
  else if b = "all" then (match ds with
    | [.lst xs] => (blsOf xs).map fun bs => (false, .bl (bs.all id))
    | _ => none)
  else if b = "any" then (match ds with
    | [.lst xs] => (blsOf xs).map fun bs => (false, .bl (bs.any id))
    | _ => none)
  else if b = "sorted:len" then (match ds with
    | [.lst xs] => if xs.all isSeq && decide (xs.length ≤ sizeLine) then some (true, .lst (xs.mergeSort lenLe)) else none
    | _ => none)
  else if b = "repr" then (match ds with
    | [.tup xs] => (reprD (.tup xs)).map fun x => (false, .str x)
    | [.lst xs] => (reprD (.lst xs)).map fun x => (false, .str x)
    | [.bl b] => some (false, .str (if b then "True" else "False"))
    | _ => none)
  else if b = "dict" then (match ds with
    | [.dk kvs] => some (true, .dk kvs)
    | _ => none)
  else if b = "str" then (match ds with
    | [.str x] => some (false, .str x)
    | [.int i] => if i.natAbs.log2 < 1920 then some (false, .str (toString i)) else none
    | _ => none)
  else none
def itD : D → Option (List D)
  | .lst xs => some xs
  | .tup xs => some xs
  | _ => none
def intsUp (lo : Int) : Nat → List D
  | 0 => []
  | n + 1 => .int lo :: intsUp (lo + 1) n
def rng1D : List D → Option (List D)
  | [.int j] => if -(2 ^ 62) ≤ j ∧ j < 2 ^ 62 then some (intsUp 0 j.toNat) else none
  | _ => none
def rng2D : List D → Option (List D)
  | [.int i, .int j] => if (-(2 ^ 62) ≤ i ∧ i < 2 ^ 62) ∧ -(2 ^ 62) ≤ j ∧ j < 2 ^ 62 then some (intsUp i (j - i).toNat) else none
  | _ => none
/-- range with a step too -/
def intsBy (lo c : Int) : Nat → List D
  | 0 => []
  | n + 1 => .int lo :: intsBy (lo + c) c n
def rngS : List D → Option (List D)
  | [.int i, .int j, .int c] => if c = 2 ∧ (-1000000 ≤ i ∧ i ≤ 1000000) ∧ (-1000000 ≤ j ∧ j ≤ 1000000) then some (intsBy i 2 (Builtin.Range.rangeSize i j 2).toNat) else none
  | _ => none
def rng3D : List D → Option (List D)
  | [.int i, .int j, .int c] => if (c = 2 ∨ c = -1 ∨ c = -2) ∧ (-1000000 ≤ i ∧ i ≤ 1000000) ∧ (-1000000 ≤ j ∧ j ≤ 1000000) then some (intsBy i c (Builtin.Range.rangeSize i j c).toNat) else none
  | _ => none
def rngD : List D → Option (List D)
  | [d] => rng1D [d]
  | [d, e] => rng2D [d, e]
  | [d, e, f] => rng3D [d, e, f]
  | _ => none
/-- the built-in class of data -/
def D.cls : D → Option String
  | .non => some "NoneType"
  | .bl _ => some "bool"
  | .int _ => some "int"
  | .str _ => some "str"
  | .tup _ => some "tuple"
  | .lst _ => some "list"
  | .dk _ => some "dict"
  | _ => none
def isiOne (c k : String) : Option Bool := if k = "int" then some (decide (c = "int") || decide (c = "bool"))
  else if k = "bool" ∨ k = "str" ∨ k = "tuple" ∨ k = "list" ∨ k = "dict" then some (decide (c = k)) else none
def isiAny (c : String) : List String → Option Bool
  | [] => some false
  | k :: ks => match isiOne c k with
    | some true => some true
    | some false => isiAny c ks
    | none => none
def isiD (d : D) (ks : List String) : Option Bool := d.cls.bind fun c => isiAny c ks
/-- what an instance of the class c is compared with -/
def tyK (c : Nat) : List D → Bool
  | [_, .ins c' _] => decide (c' = c)
  | [_, d] => d.cls.isSome
  | _ => false
/-- a method that changes its object: the new object, the value -/
def mmD (m : String) (o : D) (ds : List D) : Option (D × Bool × D) := match o with
  | .lst xs =>
    if m = "append" then (match ds with
      | [d] => if xs.length < sizeLine then some (.lst (xs ++ [d]), false, .non) else none
      | _ => none)
    else if m = "extend" then (match ds with
      | [.lst ys] => if xs.length + ys.length ≤ sizeLine then some (.lst (xs ++ ys), false, .non) else none
      | _ => none)
    else if m = "pop" then (match ds with
      | [.int i] => (match ixN xs.length i with
        | some k => (match xs[k]? with
          | some y => some (.lst (xs.eraseIdx k), false, y)
          | none => none)
        | none => none)
      | _ => none)
    else if m = "reverse" then (match ds with
      | [] => some (.lst xs.reverse, false, .non)
      | _ => none)
    else if m = "clear" then (match ds with
      | [] => some (.lst [], false, .non)
      | _ => none)
    else if m = "count" then (match ds with
      | [.bl b] => (match blsOf xs with
        | some bs => some (.lst xs, false, .int (bs.count b : Nat))
        | none => none)
      | _ => none)
    else if m = "index" then (match ds with
      | [.bl b] => (match blsOf xs with
        | some bs => (match bs.findIdx? (fun c => c == b) with
          | some k => some (.lst xs, false, .int (k : Nat))
          | none => none)
        | none => none)
      | _ => none)
    else none
  | _ => none
def dropA {κ α : Type} [DecidableEq κ] (kvs : List (κ × α)) (k : κ) : List (κ × α) := kvs.filter fun kv => decide (kv.1 ≠ k)
/-- d.pop(k) -/
def popD (kvs : List (Key × D)) (ds : List D) : Option (D × Bool × D) := match ds with
  | [k] => (match keyD k with
    | some key => (match valA kvs key with
      | some y => some (.dk (dropA kvs key), false, y)
      | none => none)
    | none => none)
  | _ => none
/-- a method that changes nothing: d.get(k, x) -/
def meD (m : String) (o : D) (ds : List D) : Option D := match o with
  | .dk kvs => if m = "get" then (match ds with
    | [k, d] => (keyD k).map fun key => (valA kvs key).getD d
    | _ => none) else none
  | _ => none
/-- what .me stands on -/
def isDk : D → Bool
  | .dk _ => true
  | _ => false
/-- a value stored by its key: a list's item, a dict's -/
def putA {κ α : Type} [DecidableEq κ] (kvs : List (κ × α)) (k : κ) (v : α) : List (κ × α) := if kvs.any (fun kv => decide (kv.1 = k)) = true then kvs.map (fun kv => if kv.1 = k then (kv.1, v) else kv) else kvs ++ [(k, v)]
def keyT : List D → Option (List Key)
  | [] => some []
  | d :: r => match keyD d, keyT r with
    | some k, some ks => some (k :: ks)
    | _, _ => none
def setD (o i d : D) : Option D := match o, i with
  | .lst xs, .int n => (ixN xs.length n).map fun j => .lst (xs.set j d)
  | .dk kvs, i => (match keyD i with
    | some k => if kvs.length < sizeLine then some (.dk (putA kvs k d)) else none
    | none => none)
  | _, _ => none

def ixD : D → D → Option D
  | .lst xs, .int i => atI xs i
  | .tup xs, .int i => atI xs i
  | .dk kvs, i => (keyD i).bind (valA kvs)
  | .str x, .int i => if x.length ≤ sizeLine then (match atI x.cps.toList i with
    | some c => some (.str ⟨#[c]⟩)
    | none => none) else none
  | _, _ => none
/-- a cut -/
def cutA {α : Type} (xs : List α) (lo hi : Option Int) : List α := (xs.drop (HT.sIx xs.length 0 lo)).take (HT.sIx xs.length xs.length hi - HT.sIx xs.length 0 lo)
def cutD (o : D) (lo hi : Option Int) : Option (Bool × D) := match o with
  | .lst xs => some (true, .lst (cutA xs lo hi))
  | .scr ns => some (true, .lst (cutA (ns.map D.int) lo hi))
  | .tup xs => some (false, .tup (cutA xs lo hi))
  | _ => none

/-! ### the evaluator -/
def asgN (mv : List Nat) (i : Nat) (fr : Bool) (d : D) (ρ : List Sl) : Option (List Sl) := if mv.contains i then none else some (ρ.set i (if fr then .ow d else .sh d))
mutual
def asgT (mv : List Nat) : Tg → Bool → D → List Sl → Option (List Sl)
  | .nm i, fr, d, ρ => asgN mv i fr d ρ
  | .tu ts, _, .tup ds, ρ => asgTs mv ts ds ρ
  | .tu ts, _, .lst ds, ρ => asgTs mv ts ds ρ
  | .tu _, _, _, _ => none
def asgTs (mv : List Nat) : List Tg → List D → List Sl → Option (List Sl)
  | [], [], ρ => some ρ
  | t :: ts, d :: ds, ρ => match asgT mv t false d ρ with
    | some ρ1 => asgTs mv ts ds ρ1
    | none => none
  | _, _, _ => none
end
abbrev Ev := List Sl → R (Bool × D)
abbrev CF := Nat → List Sl → R (Bool × D)
def rdV (i : Nat) (ρ : List Sl) : R (Bool × D) := match ρ[i]? with
  | some (.sh d) => .ok (false, d) ρ
  | some (.ow d) => .ok (false, d) (ρ.set i (.sh d))
  | _ => .stuck
def opOf (e : E) (f : Ev) (ρ : List Sl) : R Op := match e with
  | .v i => (match ρ[i]? with
    | some (.sh _) => .ok (.sl i) ρ
    | some (.ow _) => .ok (.sl i) ρ
    | _ => .stuck)
  | _ => (f ρ).bind fun x ρ1 => .ok (.val x.2) ρ1
def binOp {α : Type} (a b : E) (fa fb : Ev) (g : D → D → Option α) (ρ : List Sl) : R α :=
  (opOf a fa ρ).bind fun x ρ1 => (opOf b fb ρ1).bind fun y ρ2 => match x.rs ρ2, y.rs ρ2 with
    | some d, some e => R.of (g d e) ρ2
    | _, _ => .stuck
/-- a test's truth -/
def tru (f : Ev) (ρ : List Sl) : R Bool := (f ρ).bind fun x ρ1 => R.of x.2.truth ρ1
/-- the arguments of a call: moved, or frozen -/
def argsIn (mv : List Nat) : Nat → List Op → List Sl → Option (List Sl × List Sl)
  | _, [], ρ => some ([], ρ)
  | j, o :: os, ρ => match o with
    | .val d => (match argsIn mv (j + 1) os ρ with
      | some (as, ρ') => some (.sh d :: as, ρ')
      | none => none)
    | .sl i => (match ρ[i]? with
      | some (.sh d) => (match argsIn mv (j + 1) os ρ with
        | some (as, ρ') => some (.sh d :: as, ρ')
        | none => none)
      | some (.ow d) => if mv.contains j then (match argsIn mv (j + 1) os (ρ.set i .un) with
          | some (as, ρ') => some (.ow d :: as, ρ')
          | none => none)
        else (match argsIn mv (j + 1) os (ρ.set i (.sh d)) with
          | some (as, ρ') => some (.sh d :: as, ρ')
          | none => none)
      | _ => none)
/-- what was moved comes back -/
def argsOut : List Op → List Sl → List Sl → List Sl → List Sl
  | .sl i :: os, .ow _ :: as, o :: outs, ρ => argsOut os as outs (ρ.set i o)
  | _ :: os, _ :: as, _ :: outs, ρ => argsOut os as outs ρ
  | _, _, _, ρ => ρ
def callOp (T : Nat → Option Fd) (cf : CF) (f : Nat) (os : List Op) (ρ : List Sl) : R (Bool × D) := match T f with
  | none => .stuck
  | some fd => match argsIn fd.mv 0 os ρ with
    | none => .stuck
    | some (as, ρ1) => match cf f as with
      | .ok x outs => .ok x (argsOut os as outs ρ1)
      | .ex x outs => .ex x (argsOut os as outs ρ1)
      | .stuck => .stuck
/-- the operands in the parameters' order -/
def pmO : List (Sum Nat D) → List Op → Option (List Op)
  | [], _ => some []
  | .inl i :: pm, os => (match os[i]?, pmO pm os with
    | some o, some r => some (o :: r)
    | _, _ => none)
  | .inr d :: pm, os => (match pmO pm os with
    | some r => some (.val d :: r)
    | none => none)
def restoreAt (own : List Nat) : Nat → List Sl → List Sl → List Sl
  | j, s0 :: r0, s :: r => (if own.contains j then s0 else s) :: restoreAt own (j + 1) r0 r
  | _, _, r => r
def restore (own : List Nat) (ρ0 ρ : List Sl) : List Sl := restoreAt own 0 ρ0 ρ
/-- the slots that a target sets -/
def Tg.slots : Tg → List Nat
  | .nm i => [i]
  | .tu ts => slotsL ts
where slotsL : List Tg → List Nat
  | [] => []
  | t :: ts => t.slots ++ slotsL ts
def noOwn (own : List Nat) (ρ : List Sl) : Bool := own.all fun i => match ρ[i]? with
  | some (.ow _) => false
  | some _ => true
  | none => false
/-- the slots of a block's own names forgotten -/
def wipeAt (own : List Nat) : Nat → List Sl → List Sl
  | j, s :: r => (if own.contains j then .un else s) :: wipeAt own (j + 1) r
  | _, [] => []
def wipeS (own : List Nat) (ρ : List Sl) : List Sl := wipeAt own 0 ρ
/-- the block of a comprehension -/
def lcGo (own : List Nat) (t : Tg) (tests : List Sl → R Bool) (el : Ev) : List D → List D → List Sl → R (List D)
  | [], acc, ρ => .ok acc ρ
  | d :: ds, acc, ρ => match asgT [] t false d (wipeS own ρ) with
    | none => .stuck
    | some ρ1 => (tests ρ1).bind fun b ρ2 => if b then (el ρ2).bind fun x ρ3 => if acc.length < sizeLine then lcGo own t tests el ds (acc ++ [x.2]) ρ3 else .stuck else lcGo own t tests el ds acc ρ2
/-- a dict's keys, where a name is walked -/
def keysV : E → D → Option (List D)
  | .v _, .dk kvs => some ((kvs.map (·.1)).map keyV)
  | _, _ => none
inductive Fl where
  | nx | rt (fr : Bool) (d : D) | bk | ct
def forGo (mv : List Nat) (t : Tg) (body : List Sl → R Fl) : List D → List Sl → R Fl
  | [], ρ => .ok .nx ρ
  | d :: ds, ρ => match asgT mv t false d ρ with
    | none => .stuck
    | some ρ1 => (body ρ1).bind fun fl ρ2 => match fl with
      | .nx => forGo mv t body ds ρ2
      | .ct => forGo mv t body ds ρ2
      | .bk => .ok .nx ρ2
      | .rt fr d => .ok (.rt fr d) ρ2
def whlGo (c : List Sl → R Bool) (body : List Sl → R Fl) : Nat → List Sl → R Fl
  | 0, _ => .stuck
  | n + 1, ρ => (c ρ).bind fun b ρ1 => if b then (body ρ1).bind fun fl ρ2 => match fl with
      | .nx => whlGo c body n ρ2
      | .ct => whlGo c body n ρ2
      | .bk => .ok .nx ρ2
      | .rt fr d => .ok (.rt fr d) ρ2
    else .ok .nx ρ1
/-- what the law's way of asking makes of an answer: told, or refused with the word of the error's class (classes below n) -/
def saidR (cf : CF) (n w : Nat) (r : R (Bool × D)) : R (Bool × D) := match r with
  | .ok x ρ => .ok (false, .tup [.str "told", x.2]) ρ
  | .ex x ρ => if x.c < n then (match cf w [.sh (.exc x.c)] with
    | .ok (_, .str y) _ => .ok (false, .tup [.str "refused", .str y]) ρ
    | _ => .stuck) else .stuck
  | .stuck => .stuck
/-- ids of calls that stand one, two frames deeper; the id that tells whether there is room for these -/
def BB : Nat := 1000000
def R.noex {α : Type} (r : R α) : R α := match r with
  | .ex _ _ => .stuck
  | r => r
/-- one instance of an own class -/
def insC : List D → Option Nat
  | [.ins c _] => some c
  | _ => none
section
variable (T : Nat → Option Fd) (cf : CF)
mutual
def evE : E → Ev
  | .c d, ρ => .ok (false, d) ρ
  | .v i, ρ => rdV i ρ
  | .bin o a b, ρ => binOp a b (evE a) (evE b) (bop o) ρ
  | .neg a, ρ => (opOf a (evE a) ρ).bind fun x ρ1 => match x.rs ρ1 with
    | some (.int i) => .ok (false, .int (-i)) ρ1
    | _ => .stuck
  | .not a, ρ => (tru (evE a) ρ).bind fun b ρ1 => .ok (false, .bl (!b)) ρ1
  | .and a b, ρ => (evE a ρ).bind fun x ρ1 => match x.2 with
    | .bl true => evE b ρ1
    | .bl false => .ok (false, .bl false) ρ1
    | _ => .stuck
  | .or a b, ρ => (evE a ρ).bind fun x ρ1 => match x.2 with
    | .bl false => evE b ρ1
    | .bl true => .ok (false, .bl true) ρ1
    | _ => .stuck
  | .ife c a b, ρ => (tru (evE c) ρ).bind fun t ρ1 => if t then evE a ρ1 else evE b ρ1
  | .cmp o a b, ρ => (binOp a b (evE a) (evE b) (cop o) ρ).bind fun b ρ1 => .ok (false, .bl b) ρ1
  | .chn o p a b c, ρ => (opOf a (evE a) ρ).bind fun x ρ1 => (opOf b (evE b) ρ1).bind fun y ρ2 => match x.rs ρ2, y.rs ρ2 with
    | some d, some e => (match cop o d e with
      | some true => (opOf c (evE c) ρ2).bind fun z ρ3 => (match y.rs ρ3, z.rs ρ3 with
        | some e, some g => (match cop p e g with
          | some r => .ok (false, .bl r) ρ3
          | none => .stuck)
        | _, _ => .stuck)
      | some false => .ok (false, .bl false) ρ2
      | none => .stuck)
    | _, _ => .stuck
  | .tup es, ρ => (evEs es ρ).bind fun os ρ1 => match fzL ρ1 os with
    | some (ds, ρ2) => if ds.length ≤ sizeLine then .ok (false, .tup ds) ρ2 else .stuck
    | none => .stuck
  | .lst es, ρ => (evEs es ρ).bind fun os ρ1 => match fzL ρ1 os with
    | some (ds, ρ2) => if ds.length ≤ sizeLine then .ok (true, .lst ds) ρ2 else .stuck
    | none => .stuck
  | .idx a b, ρ => (binOp a b (evE a) (evE b) ixD ρ).bind fun d ρ1 => .ok (false, d) ρ1
  | .sli a lo hi, ρ => (opOf a (evE a) ρ).bind fun x ρ1 => (evP lo ρ1).bind fun l ρ2 => (evP hi ρ2).bind fun h ρ3 => match x.rs ρ3 with
    | some d => R.of (cutD d l h) ρ3
    | none => .stuck
  | .no, ρ => .stuck
  | .dk0, ρ => .ok (true, .dk []) ρ
  | .dt0, ρ => .ok (true, .dt []) ρ
  | .lrg es, ρ => (evEs es ρ).bind fun os ρ1 => match rsL ρ1 os with
    | some ds => (R.of (rngS ds) ρ1).bind fun ds ρ2 => .ok (true, .lst ds) ρ2
    | none => .stuck
  | .isi a ks, ρ => (opOf a (evE a) ρ).bind fun x ρ1 => match x.rs ρ1 with
    | some d => (match isiD d ks with
      | some b => .ok (false, .bl b) ρ1
      | none => .stuck)
    | none => .stuck
  | .isc a tb, ρ => (opOf a (evE a) ρ).bind fun x ρ1 => match x.rs ρ1 with
    | some (.exc c) => (match tb[c]? with
      | some b => .ok (false, .bl b) ρ1
      | none => .stuck)
    | _ => .stuck
  | .said n w e, ρ => (match cf (3 * BB) [] with
    | .ok _ _ => saidR cf n w (evE e ρ)
    | _ => .stuck)
  | .call f es, ρ => (evEs es ρ).bind fun os ρ1 => callOp T cf f os ρ1
  | .callk f es ks pm, ρ => (evEs es ρ).bind fun os ρ1 => (evEs ks ρ1).bind fun zs ρ2 => match pmO pm (os ++ zs) with
    | some os' => callOp T cf f os' ρ2
    | none => .stuck
  | .bi b es, ρ => (evEs es ρ).bind fun os ρ1 => match rsL ρ1 os with
    | some ds => R.of (bfn b ds) ρ1
    | none => .stuck
  | .me m a es, ρ => (opOf a (evE a) ρ).bind fun x ρ1 => (match x.rs ρ1 with
    | some o => if isDk o = true then (evEs es ρ1).bind fun os ρ2 => (match fzL ρ2 os with
      | some (ds, ρ3) => (match x.rs ρ3 with
        | some o => (match meD m o ds with
          | some d => .ok (false, d) ρ3
          | none => .stuck)
        | none => .stuck)
      | none => .stuck) else .stuck
    | none => .stuck)
  | .dd a b, ρ => (opOf a (evE a) ρ).bind fun x ρ1 => (opOf b (evE b) ρ1).bind fun y ρ2 => (match x.rs ρ2, y.fz ρ2 with
    | some k, some (d, ρ3) => (match keyD k with
      | some key => .ok (true, .dk [(key, d)]) ρ3
      | none => .stuck)
    | _, _ => .stuck)
  | .fld c i a, ρ => (opOf a (evE a) ρ).bind fun x ρ1 => (match x.rs ρ1 with
    | some (.ins c' fs) => if c' = c then (match fs[i]? with
      | some d => .ok (false, d) ρ1
      | none => .stuck) else .stuck
    | _ => .stuck)
  | .mk c id es, ρ => (match cf (3 * BB) [] with
    | .ok _ _ => (evEs es ρ).bind fun os ρ1 => (match fzL ρ1 os with
      | some (ds, ρ2) => (match cf id (.ow (.ins c []) :: ds.map .sh) with
        | .ok (false, .non) (.ow (.ins c' fs) :: _) => if c' = c then .ok (false, .ins c fs) ρ2 else .stuck
        | _ => .stuck)
      | none => .stuck)
    | _ => .stuck)
  | .isx c a, ρ => (opOf a (evE a) ρ).bind fun x ρ1 => (match x.rs ρ1 with
    | some (.ins c' _) => if c' = c then .ok (false, .bl true) ρ1 else .stuck
    | some d => (match d.cls with
      | some _ => .ok (false, .bl false) ρ1
      | none => .stuck)
    | none => .stuck)
  | .cmpx ne c id a b, ρ => (match cf (3 * BB) [] with
    | .ok _ _ => (opOf a (evE a) ρ).bind fun x ρ1 => (opOf b (evE b) ρ1).bind fun y ρ2 => (match x.rs ρ2 with
      | some (.ins c' fs) => if c' = c then (match fzL ρ2 [x, y] with
        | some (ds, ρ3) => if tyK c ds = true then (match cf id (ds.map .sh) with
          | .ok (false, .bl b) _ => .ok (false, .bl (if ne then !b else b)) ρ3
          | _ => .stuck) else .stuck
        | none => .stuck) else .stuck
      | some d => (match y.rs ρ2 with
        | some e => (match cop (if ne then .NotEq else .Eq) d e with
          | some b => .ok (false, .bl b) ρ2
          | none => .stuck)
        | none => .stuck)
      | none => .stuck)
    | _ => .stuck)
  | .ownx rp c id es, ρ => (match cf (3 * BB) [] with
    | .ok _ _ => (evEs es ρ).bind fun os ρ1 => (match rsL ρ1 os with
      | some ds => (match insC ds with
        | some c' => if c' = c then (match fzL ρ1 os with
          | some (ds, ρ2) => (match cf id (ds.map .sh) with
            | .ok (false, .str y) _ => .ok (false, .str y) ρ2
            | _ => .stuck)
          | none => .stuck) else .stuck
        | none => R.of (bfn (if rp then "repr" else "str") ds) ρ1)
      | none => .stuck)
    | _ => .stuck)
  | .fmt a, ρ => (opOf a (evE a) ρ).bind fun x ρ1 => (match x.rs ρ1 with
    | some (.str y) => if y.length ≤ sizeLine then .ok (false, .str y) ρ1 else .stuck
    | some (.int i) => if i.natAbs.log2 < 1920 then .ok (false, .str (toString i)) ρ1 else .stuck
    | _ => .stuck)
  | .fst es, ρ => (evJ es Str.empty ρ).bind fun y ρ1 => .ok (false, .str y) ρ1
  | .mm m i es, ρ => match ρ[i]? with
    | some (.ow (.lst _)) => (evEs es ρ).bind fun os ρ1 => (match fzL ρ1 os with
      | some (ds, ρ2) => (match ρ2[i]? with
        | some (.ow o) => (match mmD m o ds with
          | some (o', x) => .ok x (ρ2.set i (.ow o'))
          | none => .stuck)
        | _ => .stuck)
      | none => .stuck)
    | some (.ow (.dk _)) => if m = "pop" then (evEs es ρ).bind fun os ρ1 => (match fzL ρ1 os with
      | some (ds, ρ2) => (match ρ2[i]? with
        | some (.ow (.dk kvs)) => (match popD kvs ds with
          | some (o', x) => .ok x (ρ2.set i (.ow o'))
          | none => .stuck)
        | _ => .stuck)
      | none => .stuck) else .stuck
    | _ => .stuck
  | .rng es, ρ => (evEs es ρ).bind fun os ρ1 => match rsL ρ1 os with
    | some ds => (R.of (rngD ds) ρ1).bind fun ds ρ2 => .ok (false, .lst ds) ρ2
    | none => .stuck
  | .lc own t it ifs el, ρ => ((evE it ρ).bind fun x ρ1 => (R.of (itD x.2) ρ1)).bind fun ds ρ1 => if noOwn own ρ1 then
      (R.noex (lcGo own t (evTs ifs) (evE el) ds [] ρ1)).bind fun acc ρ2 => .ok (true, .lst acc) (restore own ρ1 ρ2) else .stuck
/-- a slice's bound -/
def evP : Es → List Sl → R (Option Int)
  | .nil, ρ => .ok none ρ
  | .cons e _, ρ => (opOf e (evE e) ρ).bind fun x ρ1 => match x.rs ρ1 with
    | some (.int i) => .ok (some i) ρ1
    | _ => .stuck
def evEs : Es → List Sl → R (List Op)
  | .nil, ρ => .ok [] ρ
  | .cons e es, ρ => (opOf e (evE e) ρ).bind fun o ρ1 => (evEs es ρ1).bind fun os ρ2 => .ok (o :: os) ρ2
/-- an f-string's parts, one behind the other -/
def evJ : Es → Str → List Sl → R Str
  | .nil, acc, ρ => .ok acc ρ
  | .cons e es, acc, ρ => (evE e ρ).bind fun x ρ1 => (match x.2 with
    | .str y => if (acc ++ y).length ≤ sizeLine then evJ es (acc ++ y) ρ1 else .stuck
    | _ => .stuck)
/-- tests, all -/
def evTs : Es → List Sl → R Bool
  | .nil, ρ => .ok true ρ
  | .cons e es, ρ => (tru (evE e) ρ).bind fun b ρ1 => if b then evTs es ρ1 else .ok false ρ1
end
end
/-- one value for several names -/
def asm (mv : List Nat) : List Nat → D → List Sl → Option (List Sl)
  | [], _, ρ => some ρ
  | i :: is, d, ρ => match asgN mv i false d ρ with
    | some ρ1 => asm mv is d ρ1
    | none => none
def parIn (mv : List Nat) : List Nat → List (Bool × D) → List Sl → Option (List Sl)
  | [], [], ρ => some ρ
  | i :: is, (fr, d) :: ds, ρ => match asgN mv i fr d ρ with
    | some ρ1 => parIn mv is ds ρ1
    | none => none
  | _, _, _ => none
section
variable (T : Nat → Option Fd) (cf : CF)
/-- values one by one, each as fresh as it is -/
def evVs : Es → List Sl → R (List (Bool × D))
  | .nil, ρ => .ok [] ρ
  | .cons e es, ρ => (evE T cf e ρ).bind fun x ρ1 => (evVs es ρ1).bind fun xs ρ2 => .ok (x :: xs) ρ2
variable (fuel : Nat) (mv : List Nat)
mutual
def evS : S → List Sl → R Fl
  | .asg t e, ρ => (evE T cf e ρ).bind fun x ρ1 => (R.of (asgT mv t x.1 x.2 ρ1) ρ1).bind fun ρ2 _ => .ok .nx ρ2
  | .par is es, ρ => (evVs T cf es ρ).bind fun xs ρ1 => (R.of (parIn mv is xs ρ1) ρ1).bind fun ρ2 _ => .ok .nx ρ2
  | .asgs is e, ρ => (evE T cf e ρ).bind fun x ρ1 => (R.of (if x.1 = true then none else asm mv is x.2 ρ1) ρ1).bind fun ρ2 _ => .ok .nx ρ2
  | .aug o i e, ρ => (binOp (.v i) e (rdV i) (evE T cf e) (augD o) ρ).bind fun x ρ1 => (R.of (asgN mv i false x ρ1) ρ1).bind fun ρ2 _ => .ok .nx ρ2
  | .six i ix e, ρ => match ρ[i]? with
    | some (.ow _) => (opOf e (evE T cf e) ρ).bind fun y ρ1 => (opOf ix (evE T cf ix) ρ1).bind fun k ρ2 => (match y.fz ρ2 with
      | some (d, ρ3) => (match k.rs ρ3, ρ3[i]? with
        | some kd, some (.ow o) => (match setD o kd d with
          | some o' => .ok .nx (ρ3.set i (.ow o'))
          | none => .stuck)
        | _, _ => .stuck)
      | none => .stuck)
    | _ => .stuck
  | .ex e, ρ => (evE T cf e ρ).bind fun _ ρ1 => .ok .nx ρ1
  | .ret e, ρ => (evE T cf e ρ).bind fun x ρ1 => .ok (.rt x.1 x.2) ρ1
  | .ite c a b, ρ => (tru (evE T cf c) ρ).bind fun t ρ1 => if t then evB a ρ1 else evB b ρ1
  | .for_ t it b, ρ => (evE T cf it ρ).bind fun x ρ1 => (match keysV it x.2 with
    | some ks => R.noex (forGo mv t (evB b) ks ρ1)
    | none => (R.of (itD x.2) ρ1).bind fun ds ρ2 => forGo mv t (evB b) ds ρ2)
  | .whl c b, ρ => whlGo (tru (evE T cf c)) (evB b) fuel ρ
  | .brk, ρ => .ok .bk ρ
  | .cnt, ρ => .ok .ct ρ
  | .pas, ρ => .ok .nx ρ
  | .no, ρ => .stuck
  | .rse c, ρ => .ex ⟨c, []⟩ ρ
  | .fset c i j e, ρ => (opOf e (evE T cf e) ρ).bind fun y ρ1 => (match y.fz ρ1 with
    | some (d, ρ2) => (match ρ2[i]? with
      | some (.ow (.ins c' fs)) => if c' = c ∧ fs.length = j then .ok .nx (ρ2.set i (.ow (.ins c (fs ++ [d])))) else .stuck
      | _ => .stuck)
    | none => .stuck)
def evB : Ss → List Sl → R Fl
  | .nil, ρ => .ok .nx ρ
  | .cons s r, ρ => (evS s ρ).bind fun fl ρ1 => match fl with
    | .nx => evB r ρ1
    | fl => .ok fl ρ1
end
end
/-- a def run -/
def runF (T : Nat → Option Fd) (fuel : Nat) (cf : CF) : CF := fun f as => match T f with
  | none => .stuck
  | some fd => if as.length = fd.n then match evB T cf fuel fd.mv fd.body (as ++ List.replicate (fd.ns - fd.n) .un) with
      | .ok (.rt fr d) ρ => .ok (fr, d) (ρ.take fd.n)
      | .ok .nx ρ => .ok (false, .non) (ρ.take fd.n)
      | .ok _ _ => .stuck
      | .ex x ρ => .ex x (ρ.take fd.n)
      | .stuck => .stuck
    else .stuck
/-- one depth more -/
def stepF (T : Nat → Option Fd) (fuel k : Nat) (p q : CF) : CF := fun f as => if f < BB then runF T fuel p f as else if f < 2 * BB then p (f - BB) as else if f < 3 * BB then q (f - 2 * BB) as else (match k with
  | 0 => .stuck
  | _ + 1 => .ok (false, .non) [])
/-- the defs at depth k, and at the depth below -/
def callP (T : Nat → Option Fd) (fuel : Nat) : Nat → CF × CF
  | 0 => (fun _ _ => .stuck, fun _ _ => .stuck)
  | k + 1 => (stepF T fuel k (callP T fuel k).1 (callP T fuel k).2, (callP T fuel k).1)
@[irreducible] def callF (T : Nat → Option Fd) (fuel : Nat) (k : Nat) : CF := (callP T fuel k).1
theorem callF_s (T : Nat → Option Fd) (fuel k : Nat) : callF T fuel (k + 1) = stepF T fuel k (callF T fuel k) (callP T fuel k).2 := by
  unfold callF
  rfl
theorem callF_run {T : Nat → Option Fd} {fuel k f : Nat} {as : List Sl} (h : f < BB) : callF T fuel (k + 1) f as = runF T fuel (callF T fuel k) f as := by
  have e := callF_s T fuel k
  simp only [e, stepF]
  rw [if_pos h]
theorem callF_one {T : Nat → Option Fd} {fuel k f : Nat} {as : List Sl} (h : f < BB) : callF T fuel (k + 1) (f + BB) as = callF T fuel k f as := by
  have e := callF_s T fuel k
  simp only [e, stepF]
  rw [if_neg (by omega), if_pos (by omega), Nat.add_sub_cancel]
theorem callF_two {T : Nat → Option Fd} {fuel k f : Nat} {as : List Sl} (h : f < BB) : callF T fuel (k + 2) (f + 2 * BB) as = callF T fuel k f as := by
  have e : callF T fuel (k + 2) = stepF T fuel (k + 1) (callF T fuel (k + 1)) (callF T fuel k) := by unfold callF; rfl
  simp only [e, stepF]
  rw [if_neg (by omega), if_neg (by omega), if_pos (by omega), Nat.add_sub_cancel]
theorem callF_dep {T : Nat → Option Fd} {fuel k : Nat} {r : Bool × D} {o : List Sl} (h : callF T fuel k (3 * BB) [] = .ok r o) : 2 ≤ k := by
  match k, h with
  | 0, h =>
    unfold callF at h
    exact nomatch h
  | 1, h =>
    have e := callF_s T fuel 0
    have h1 : ¬ 3 * BB < BB := by unfold BB; decide
    have h2 : ¬ 3 * BB < 2 * BB := by unfold BB; decide
    simp only [e, stepF] at h
    rw [if_neg h1, if_neg h2, if_neg (Nat.lt_irrefl _)] at h
    exact nomatch h
  | k + 2, _ => omega
end L2.T
end

section
set_option Elab.async false
set_option linter.all false
set_option maxRecDepth 100000
set_option maxHeartbeats 4000000
set_option autoImplicit false
namespace L2.T
open PySem PySem.Spec PyProof.Rows

/-! ### how data is seen at the time of use -/
def Vw (C : Ct) (Z H : Hp) : D → V → Prop
  | .lst ds, v => ∃ a vs, v = .ref a ∧ H a = some (.lst vs) ∧ Reps C Z ds vs
  | .scr ns, v => ∃ a, v = .ref a ∧ SqL C.K H a (ns.map V.int)
  | .tup ds, v => ∃ a vs, v = .ref a ∧ SqT C.K Z a vs ∧ Reps C Z ds vs
  | .ins c fs, v => ∃ a dx vs, v = .ref a ∧ H a = some (.ins (C.cl c).1 dx ((C.cl c).2.zip vs)) ∧ vs.length ≤ (C.cl c).2.length ∧ Reps C Z fs vs
  | .int i, v => v = .int i
  | .bl b, v => v = .bl b
  | .str x, v => v = .str x
  | .non, v => v = .non
  | .ty n, v => v = .ty n
  | .dk kvs, v => ∃ a vs, v = .ref a ∧ Rd H a (.dK ((kvs.map (·.1)).zip vs)) ∧ Reps C Z (kvs.map (·.2)) vs
  | .dt kvs, v => ∃ a vs, v = .ref a ∧ Rd H a (.dT ((kvs.map (·.1)).zip vs)) ∧ Reps C Z (kvs.map (·.2)) vs
  | .exc c, v => ∃ a, v = .ref a ∧ H a = some (ExO a (C.cl c).1)
theorem Rep.vw {C : Ct} {Z H : Hp} (zh : Le Z H) {d : D} {v : V} (h : Rep C Z d v) : Vw C Z H d v := by
  cases h with
  | non => rfl
  | bl b => rfl
  | int i => rfl
  | str x => rfl
  | ty n => rfl
  | tup h r => exact ⟨_, _, rfl, h, r⟩
  | lst h r => exact ⟨_, _, rfl, zh _ _ h, r⟩
  | scr h => exact ⟨_, rfl, zh.sqL h⟩
  | dk h r => exact ⟨_, _, rfl, zh.rd h, r⟩
  | dt h r => exact ⟨_, _, rfl, zh.rd h, r⟩
  | ins h n r => exact ⟨_, _, _, rfl, zh _ _ h, n, r⟩
  | exc h => exact ⟨_, rfl, zh _ _ h⟩
theorem Own.vw {C : Ct} {Z H : Hp} : ∀ {d : D} {a : Addr}, Own C Z H d a → Vw C Z H d (.ref a)
  | .lst _, _, ⟨_, vs, h, r⟩ => ⟨_, vs, rfl, h, r⟩
  | .ins _ _, _, ⟨_, dx, vs, h, n, r⟩ => ⟨_, dx, vs, rfl, h, n, r⟩
  | .non, _, h => h.elim
  | .bl _, _, h => h.elim
  | .int _, _, h => h.elim
  | .str _, _, h => h.elim
  | .tup _, _, h => h.elim
  | .dk _, _, ⟨_, vs, h, r⟩ => ⟨_, vs, rfl, .inl h, r⟩
  | .dt _, _, ⟨_, vs, h, r⟩ => ⟨_, vs, rfl, .inl h, r⟩
  | .ty _, _, h => h.elim
  | .scr _, _, h => h.elim

/-- an operand and its value -/
def OpV (C : Ct) (Z : Hp) (σ : St) : Op → V → Prop
  | .val d, v => Rep C Z d v
  | .sl i, v => σ[i]? = some (some v)
theorem OpV.mono {C : Ct} {Z Z' : Hp} {σ : St} (l : Le Z Z') : ∀ {o : Op} {v : V}, OpV C Z σ o v → OpV C Z' σ o v
  | .val _, _, h => Rep.mono l h
  | .sl _, _, h => h

section
variable {C : Ct} {P : List (Nat × V)} {ρ : List Sl} {Z L : Hp} {σ : St} {H : Hp}
theorem Rel.slot (r : Rel C P ρ Z L σ H) {i : Nat} {s : Sl} (h : ρ[i]? = some s) : ∃ v, σ[i]? = some v ∧ SlR C Z L H s v := by
  have hi : i < σ.length := by rw [← r.len]; exact (List.getElem?_eq_some_iff.mp h).1
  exact ⟨σ[i], by simp [hi], r.sl i s _ h (by simp [hi])⟩
theorem Rel.rs (r : Rel C P ρ Z L σ H) {o : Op} {v : V} {d : D} (h : OpV C Z σ o v) (e : o.rs ρ = some d) : Vw C Z H d v := by
  cases o with
  | val d' =>
    have e' : d' = d := Option.some.inj e
    subst e'
    exact Rep.vw r.zh h
  | sl i =>
    have h : σ[i]? = some (some v) := h
    have e : (match ρ[i]? with | some (.sh d) => some d | some (.ow d) => some d | _ => none) = some d := e
    cases q : ρ[i]? with
    | none => rw [q] at e; cases e
    | some s =>
      rw [q] at e
      have sr := r.sl i s _ q h
      cases s with
      | un => cases e
      | sh d' =>
        have e' : d' = d := Option.some.inj e
        subst e'
        obtain ⟨u, h1, h2⟩ := sr
        cases h1
        exact h2.vw r.zh
      | ow d' =>
        have e' : d' = d := Option.some.inj e
        subst e'
        obtain ⟨a, h1, h2, _⟩ := sr
        cases h1
        exact h2.vw
/-- a new object, nobody's yet -/
theorem Rel.alloc (r : Rel C P ρ Z L σ H) {p : Addr} {o : HO} (hp : H p = none) : Rel C P ρ Z L σ (upd H p o) := by
  have le : Le H (upd H p o) := Le.upd hp
  refine ⟨r.zh.trans le, r.lh.trans le, r.zl, r.len, fun i s v h1 h2 => ?_, r.ap, r.pin, r.tb.ext le⟩
  have q := r.sl i s v h1 h2
  cases s with
  | un => trivial
  | sh d => exact q
  | ow d =>
    obtain ⟨a, h3, h4, h5⟩ := q
    exact ⟨a, h3, h4.move (Le.refl Z) h4.zn (fun o z => le _ _ z), h5⟩
theorem Rel.zfree (r : Rel C P ρ Z L σ H) {p : Addr} (hp : H p = none) : Z p = none := by
  cases q : Z p with
  | none => rfl
  | some o => rw [r.zh _ _ q] at hp; cases hp
theorem Rel.lfree (r : Rel C P ρ Z L σ H) {p : Addr} (hp : H p = none) : L p = none := by
  cases q : L p with
  | none => rfl
  | some o => rw [r.lh _ _ q] at hp; cases hp
theorem Rel.noslot (r : Rel C P ρ Z L σ H) {p : Addr} (hp : H p = none) : ∀ (i : Nat) (e : D), ρ[i]? = some (Sl.ow e) → σ[i]? ≠ some (some (V.ref p)) := fun i e h z => by
  obtain ⟨a, h1, h2, _⟩ := r.sl i _ _ h z
  cases h1
  obtain ⟨o, ho⟩ := h2.here
  rw [hp] at ho; cases ho
/-- a new object, frozen at once -/
theorem Rel.allocZ (r : Rel C P ρ Z L σ H) {p : Addr} {o : HO} (hp : H p = none) (ho : Nt o) : Le Z (upd Z p o) ∧ Rel C P ρ (upd Z p o) L σ (upd H p o) := by
  have hz := r.zfree hp
  have le : Le H (upd H p o) := Le.upd hp
  have lz : Le Z (upd Z p o) := Le.upd hz
  refine ⟨lz, ⟨fun b u e => ?_, r.lh.trans le, fun b u e => ?_, r.len, fun i s v h1 h2 => ?_, r.ap, r.pin, r.tb.newZ hp ho⟩⟩
  · by_cases hb : b = p
    · subst hb; rw [upd_same] at e ⊢; exact e
    · rw [upd_ne hb] at e ⊢; exact r.zh b u e
  · by_cases hb : b = p
    · subst hb; exact r.lfree hp
    · rw [upd_ne hb] at e; exact r.zl b u e
  · have q := r.sl i s v h1 h2
    cases s with
    | un => trivial
    | sh d => obtain ⟨u, h3, h4⟩ := q; exact ⟨u, h3, h4.mono lz⟩
    | ow d =>
      obtain ⟨a, h3, h4, h5⟩ := q
      have hb : a ≠ p := fun z => by subst z; obtain ⟨o, ho⟩ := h4.here; rw [hp] at ho; cases ho
      exact ⟨a, h3, h4.move lz (by rw [upd_ne hb]; exact h4.zn) (fun o z => le _ _ z), h5⟩
theorem Rel.newList (r : Rel C P ρ Z L σ H) {p : Addr} {ds : List D} {vs : List V} (hp : H p = none) (q : Reps C Z ds vs) : Rel C P ρ Z L σ (upd H p (.lst vs)) ∧ RepR C ρ Z L σ (upd H p (.lst vs)) true (.lst ds) (.ref p) :=
  ⟨r.alloc hp, p, rfl, ⟨r.zfree hp, vs, upd_same, q⟩, r.lfree hp, r.noslot hp⟩
theorem Rel.newTup (r : Rel C P ρ Z L σ H) {p : Addr} {ds : List D} {vs : List V} (hp : H p = none) (q : Reps C Z ds vs) : Le Z (upd Z p (.tup vs)) ∧ Rel C P ρ (upd Z p (.tup vs)) L σ (upd H p (.tup vs)) ∧ Rep C (upd Z p (.tup vs)) (.tup ds) (.ref p) := by
  obtain ⟨h1, h2⟩ := r.allocZ (o := .tup vs) hp (fun _ z => nomatch z)
  exact ⟨h1, h2, .tup (.inl (.inl upd_same)) (q.mono h1)⟩
/-- an owned slot is frozen -/
theorem Rel.fzSlot (r : Rel C P ρ Z L σ H) {i : Nat} {d : D} (h : ρ[i]? = some (.ow d)) : ∃ Z' v, Le Z Z' ∧ Rel C P (ρ.set i (.sh d)) Z' L σ H ∧ σ[i]? = some (some v) ∧ Rep C Z' d v := by
  obtain ⟨v, hv, a, h1, h2, h3⟩ := r.slot h
  subst h1
  obtain ⟨ob, hob, q⟩ := h2.freeze
  have le : Le Z (upd Z a ob) := Le.upd h2.zn
  have hi : i < ρ.length := (List.getElem?_eq_some_iff.mp h).1
  refine ⟨upd Z a ob, .ref a, le, ⟨fun b u e => ?_, r.lh, fun b u e => ?_, by rw [List.length_set]; exact r.len, fun j s w g1 g2 => ?_, fun j k d1 d2 b g1 g2 g3 g4 => ?_, r.pin, r.tb.frz hob (h2.plnOf hob).1⟩, hv, q⟩
  · by_cases hb : b = a
    · subst hb; rw [upd_same] at e; cases e; exact hob
    · rw [upd_ne hb] at e; exact r.zh b u e
  · by_cases hb : b = a
    · subst hb; exact h3
    · rw [upd_ne hb] at e; exact r.zl b u e
  · by_cases hj : i = j
    · subst hj
      rw [List.getElem?_set_self hi] at g1
      cases g1
      rw [hv] at g2; cases g2
      exact ⟨_, rfl, q⟩
    · rw [List.getElem?_set_ne hj] at g1
      have z := r.sl j s w g1 g2
      cases s with
      | un => trivial
      | sh e => obtain ⟨u, h4, h5⟩ := z; exact ⟨u, h4, h5.mono le⟩
      | ow e =>
        obtain ⟨b, h4, h5, h6⟩ := z
        have hb : b ≠ a := fun z => hj (r.ap i j d e a h g1 hv (by rw [g2, h4, z]))
        exact ⟨b, h4, h5.move le (by rw [upd_ne hb]; exact h5.zn) (fun _ z => z), h6⟩
  · have w : ∀ {j : Nat} {d1 : D}, (ρ.set i (.sh d))[j]? = some (.ow d1) → ρ[j]? = some (.ow d1) := fun {j d1} g => by
      by_cases hj : i = j
      · subst hj; rw [List.getElem?_set_self hi] at g; cases g
      · rw [List.getElem?_set_ne hj] at g; exact g
    exact r.ap j k d1 d2 b (w g1) (w g2) g3 g4
theorem Rel.fz (r : Rel C P ρ Z L σ H) {o : Op} {v : V} {d : D} {ρ' : List Sl} (h : OpV C Z σ o v) (e : o.fz ρ = some (d, ρ')) : ∃ Z', Le Z Z' ∧ Rel C P ρ' Z' L σ H ∧ Rep C Z' d v := by
  cases o with
  | val d' =>
    have e' : (d', ρ) = (d, ρ') := Option.some.inj e
    cases e'
    exact ⟨Z, Le.refl Z, r, h⟩
  | sl i =>
    have h : σ[i]? = some (some v) := h
    have e : (match ρ[i]? with | some (.sh d) => some (d, ρ) | some (.ow d) => some (d, ρ.set i (.sh d)) | _ => none) = some (d, ρ') := e
    cases q : ρ[i]? with
    | none => rw [q] at e; cases e
    | some s =>
      rw [q] at e
      cases s with
      | un => cases e
      | sh d' =>
        cases e
        obtain ⟨u, h1, h2⟩ := r.sl i _ _ q h
        cases h1
        exact ⟨Z, Le.refl Z, r, h2⟩
      | ow d' =>
        cases e
        obtain ⟨Z', w, l, r', hw, q'⟩ := r.fzSlot q
        rw [h] at hw; cases hw
        exact ⟨Z', l, r', q'⟩
inductive OpVs (C : Ct) (Z : Hp) (σ : St) : List Op → List V → Prop
  | nil : OpVs C Z σ [] []
  | cons {o v os vs} : OpV C Z σ o v → OpVs C Z σ os vs → OpVs C Z σ (o :: os) (v :: vs)
theorem OpVs.mono {C : Ct} {Z Z' : Hp} {σ : St} (l : Le Z Z') : ∀ {os : List Op} {vs : List V}, OpVs C Z σ os vs → OpVs C Z' σ os vs
  | _, _, .nil => .nil
  | _, _, .cons h r => .cons (h.mono l) (OpVs.mono l r)
inductive Vws (C : Ct) (Z H : Hp) : List D → List V → Prop
  | nil : Vws C Z H [] []
  | cons {d v ds vs} : Vw C Z H d v → Vws C Z H ds vs → Vws C Z H (d :: ds) (v :: vs)
theorem Rel.rsL (r : Rel C P ρ Z L σ H) : ∀ {os : List Op} {vs : List V} {ds : List D}, OpVs C Z σ os vs → rsL ρ os = some ds → Vws C Z H ds vs
  | _, _, _, .nil, e => by cases e; exact .nil
  | _, _, _, .cons (o := o) (os := os) h q, e => by
    unfold T.rsL at e
    cases e1 : o.rs ρ with
    | none => rw [e1] at e; cases e
    | some d =>
      cases e2 : T.rsL ρ os with
      | none => rw [e1, e2] at e; cases e
      | some ds =>
        rw [e1, e2] at e
        cases e
        exact .cons (r.rs h e1) (r.rsL q e2)
theorem Rel.fzL : ∀ {os : List Op} {vs : List V} {ds : List D} {ρ ρ' : List Sl} {Z : Hp}, Rel C P ρ Z L σ H → OpVs C Z σ os vs → fzL ρ os = some (ds, ρ') → ∃ Z', Le Z Z' ∧ Rel C P ρ' Z' L σ H ∧ Reps C Z' ds vs
  | _, _, _, _, _, Z, r, .nil, e => by cases e; exact ⟨Z, Le.refl Z, r, .nil⟩
  | _, _, _, ρ, _, Z, r, .cons (o := o) (os := os) h q, e => by
    unfold T.fzL at e
    cases e1 : o.fz ρ with
    | none => rw [e1] at e; cases e
    | some p =>
      obtain ⟨d, ρ1⟩ := p
      rw [e1] at e
      obtain ⟨Z1, l1, r1, q1⟩ := r.fz h e1
      have e : (match T.fzL ρ1 os with | some (ds, ρ2) => some (d :: ds, ρ2) | none => none) = some _ := e
      cases e2 : T.fzL ρ1 os with
      | none => rw [e2] at e; cases e
      | some p2 =>
        obtain ⟨ds, ρ2⟩ := p2
        rw [e2] at e
        cases e
        obtain ⟨Z2, l2, r2, q2⟩ := r1.fzL (q.mono l1) e2
        exact ⟨Z2, l1.trans l2, r2, .cons (q1.mono l2) q2⟩
end
end L2.T
end

section
set_option Elab.async false
set_option linter.all false
set_option maxRecDepth 100000
set_option maxHeartbeats 4000000
set_option autoImplicit false
namespace L2.T
open PySem PySem.Spec PyProof.Rows

/-! ### readings by the evaluator -/
/-- an exception and how it lies -/
def XRep (C : Ct) (x : Exn) (cls : Value) (dd : Option Addr) : Prop := cls = .ref (C.cl x.c).1 ∧ dd = none ∧ x.fs = []
abbrev KT (α : Type) := α → List Sl → Hp → Hp → Prop
def Cont {α : Type} (C : Ct) (W : WX) (P : List (Nat × V)) (Z L : Hp) (σ : St) (r : R α) (K : KT α) : Prop :=
  r.wp (fun a ρ' => ∀ Z' H', Le Z Z' → Rel C P ρ' Z' L σ H' → K a ρ' Z' H') (fun x ρ' => ∀ cls dd Z' H', Le Z Z' → Rel C P ρ' Z' L σ H' → XRep C x cls dd → W cls dd σ H')
section
variable {C : Ct} {W : WX} {P : List (Nat × V)} {Z L : Hp} {σ : St} {α β : Type}
theorem Cont.mono {r : R α} {K K' : KT α} (h : Cont C W P Z L σ r K) (k : ∀ a ρ' Z' H', Le Z Z' → Rel C P ρ' Z' L σ H' → K a ρ' Z' H' → K' a ρ' Z' H') : Cont C W P Z L σ r K' :=
  R.wp_mono h (fun a ρ' q Z' H' l r => k a ρ' Z' H' l r (q Z' H' l r)) fun _ _ q => q
theorem Cont.bind {r : R α} {g : α → List Sl → R β} {K : KT β} (h : Cont C W P Z L σ (r.bind g) K) : Cont C W P Z L σ r fun a ρ1 Z1 _ => Cont C W P Z1 L σ (g a ρ1) K :=
  R.wp_mono (R.wp_bind h) (fun a ρ1 q Z1 H1 l1 r1 => R.wp_mono q (fun b ρ2 q2 Z2 H2 l2 r2 => q2 Z2 H2 (l1.trans l2) r2) fun x ρ2 q2 cls dd Z2 H2 l2 r2 => q2 cls dd Z2 H2 (l1.trans l2) r2) fun _ _ q => q
theorem Cont.of {o : Option α} {ρ : List Sl} {K : KT α} (h : Cont C W P Z L σ (R.of o ρ) K) : ∃ a, o = some a ∧ ∀ Z' H', Le Z Z' → Rel C P ρ Z' L σ H' → K a ρ Z' H' := R.wp_of h
theorem Cont.ok {a : α} {ρ : List Sl} {K : KT α} (h : Cont C W P Z L σ (.ok a ρ) K) : ∀ Z' H', Le Z Z' → Rel C P ρ Z' L σ H' → K a ρ Z' H' := h
end
def rdG {α : Type} (C : Ct) (W : WX) (f : List Sl → R α) (σ : St) (H : Hp) (K : List (Nat × V) → Hp → KT α) : Prop := ∃ P ρ Z L, Rel C P ρ Z L σ H ∧ Cont C W P Z L σ (f ρ) (K P L)
def rdE (C : Ct) (W : WX) (f : Ev) : TE := fun σ H Q => rdG C W f σ H fun _ L x ρ' Z' H' => ∀ v, RepR C ρ' Z' L σ H' x.1 x.2 v → Q v H'
def rdO (C : Ct) (W : WX) (f : List Sl → R Op) : TE := fun σ H Q => rdG C W f σ H fun _ _ o _ Z' H' => ∀ v, OpV C Z' σ o v → Q v H'
def rdT (C : Ct) (W : WX) (f : List Sl → R Bool) : TT := fun σ H Q => rdG C W f σ H fun _ _ b _ _ H' => Q b H'
def rdA (C : Ct) (W : WX) (f : List Sl → R (List Op)) : TA := fun σ H Q => rdG C W f σ H fun _ _ os _ Z' H' => ∀ vs, OpVs C Z' σ os vs → Q vs H'

section
variable {C : Ct} {W : WX} {P : List (Nat × V)} {ρ : List Sl} {Z L : Hp} {σ : St} {H : Hp} {α : Type}
theorem rd_binOp {a b : E} {fa fb : Ev} {g : D → D → Option α} {K : KT α} (r : Rel C P ρ Z L σ H) (h : Cont C W P Z L σ (binOp a b fa fb g ρ) K) :
    rdO C W (opOf a fa) σ H fun x H1 => rdO C W (opOf b fb) σ H1 fun y H2 => ∃ ρ2 Z2 d e res, Rel C P ρ2 Z2 L σ H2 ∧ Vw C Z2 H2 d x ∧ Vw C Z2 H2 e y ∧ g d e = some res ∧ ∀ Z' H', Le Z2 Z' → Rel C P ρ2 Z' L σ H' → K res ρ2 Z' H' := by
  refine ⟨P, ρ, Z, L, r, h.bind.mono fun o ρ1 Z1 H1 l1 r1 h1 x hx => ⟨P, ρ1, Z1, L, r1, h1.bind.mono fun p ρ2 Z2 H2 l2 r2 h2 y hy => ?_⟩⟩
  have hx2 := hx.mono l2
  cases e1 : o.rs ρ2 with
  | none => simp only [e1] at h2; exact h2.elim
  | some d =>
    cases e2 : p.rs ρ2 with
    | none => simp only [e1, e2] at h2; exact h2.elim
    | some e =>
      simp only [e1, e2] at h2
      obtain ⟨res, e3, k⟩ := h2.of
      exact ⟨ρ2, Z2, d, e, res, r2, r2.rs hx2 e1, r2.rs hy e2, e3, k⟩
end

/-! ### operators by values -/
def r2B (C : Ct) (σ0 : St) (g : D → D → Option (Bool × D)) : R2 := fun x y H Q => ∃ P ρ Z L d e fr res, Rel C P ρ Z L σ0 H ∧ Vw C Z H d x ∧ Vw C Z H e y ∧ g d e = some (fr, res) ∧
  ∀ Z' H', Le Z Z' → Rel C P ρ Z' L σ0 H' → ∀ v, RepR C ρ Z' L σ0 H' fr res v → Q v H'
section
variable {X : Cx} {C : Ct} {σ0 : St}
theorem Vw.int {C : Ct} {Z H : Hp} {i : Int} {v : V} (h : Vw C Z H (.int i) v) : v = .int i := h
theorem sv {C : Ct} {σ0 : St} {P : List (Nat × V)} {ρ : List Sl} {Z L H : Hp} {d : D} {v : V} {Q : VK} (r : Rel C P ρ Z L σ0 H) (q : Rep C Z d v) (k : ∀ Z' H', Le Z Z' → Rel C P ρ Z' L σ0 H' → ∀ v, RepR C ρ Z' L σ0 H' false d v → Q v H') : Q v H :=
  k Z H (Le.refl Z) r _ q
theorem mulOk_ok {i j : Int} (h : mulOk i j = true) : CMulW i j := by
  unfold mulOk at h
  simp only [decide_eq_true_eq] at h
  exact h
theorem powOk_ok {i j : Int} (h : powOk i j = true) : CPow i j := by
  unfold powOk at h
  simp only [Bool.and_eq_true, decide_eq_true_eq] at h
  exact h
theorem Reps.rep {C : Ct} {Z : Hp} {ds : List D} {vs : List V} (h : Reps C Z ds vs) : ∀ k : Nat, Reps C Z (List.replicate k ds).flatten (List.replicate k vs).flatten
  | 0 => .nil
  | k + 1 => by
    rw [List.replicate_succ, List.replicate_succ, List.flatten_cons, List.flatten_cons]
    exact h.append (Reps.rep h k)
theorem Reps.ne {C : Ct} {Z : Hp} {ds : List D} {vs : List V} (h : Reps C Z ds vs) : ds ≠ [] → vs ≠ [] := fun hn hv => by
  subst hv
  cases h
  exact hn rfl
theorem opr_bin (hk : C.K = X.K) (o : Operator) : OpR X (binaryOp o) (r2B C σ0 (bop o)) := by
  intro pins s σ H x y v u Q I rx ry h
  obtain ⟨P, ρ, Z, L, d, e, fr, res, r, hx, hy, hb, k⟩ := h
  cases o <;> cases d <;> (try (cases hb; done)) <;> cases e <;> (try (cases hb; done))
  case Add.int.int i j =>
    cases hb; cases hx; cases hy
    exact op_add pins s σ H _ _ v u Q I rx ry ⟨i, j, rfl, rfl, sv r (.int _) k⟩
  case Sub.int.int i j =>
    cases hb; cases hx; cases hy
    exact op_sub pins s σ H _ _ v u Q I rx ry ⟨i, j, rfl, rfl, sv r (.int _) k⟩
  case Mult.int.int i j =>
    simp only [bop] at hb
    split at hb
    · rename_i hm
      cases hb; cases hx; cases hy
      exact op_mulW pins s σ H _ _ v u Q I rx ry ⟨i, j, rfl, rfl, mulOk_ok hm, sv r (.int _) k⟩
    · cases hb
  case FloorDiv.int.int i j =>
    simp only [bop] at hb
    split at hb
    · rename_i hm
      cases hb; cases hx; cases hy
      unfold divOk at hm
      simp only [Bool.and_eq_true, decide_eq_true_eq] at hm
      have rule : OpR X (binaryOp .FloorDiv) (rI (fun _ j => j ≠ 0 ∧ j.natAbs.log2 < 9000) fun i j => .int (i.fdiv j)) := opI fun i j _ _ _ _ _ hc q => floordiv_int hc.1 q (.inl (PyProof.noPylong_of_log2 hc.2))
      exact rule pins s σ H _ _ v u Q I rx ry ⟨i, j, rfl, rfl, hm, sv r (.int _) k⟩
    · cases hb
  case Mod.int.int i j =>
    simp only [bop] at hb
    split at hb
    · cases hb
    · rename_i hm
      cases hb; cases hx; cases hy
      exact op_modN pins s σ H _ _ v u Q I rx ry ⟨i, j, rfl, rfl, hm, sv r (.int _) k⟩
  case Pow.int.int i j =>
    simp only [bop] at hb
    split at hb
    · rename_i hm
      cases hb; cases hx; cases hy
      exact op_pow pins s σ H _ _ v u Q I rx ry ⟨i, j, rfl, rfl, powOk_ok hm, sv r (.int _) k⟩
    · cases hb
  case LShift.int.int i j =>
    simp only [bop] at hb
    split at hb
    · rename_i hm
      cases hb; cases hx; cases hy
      exact op_shl pins s σ H _ _ v u Q I rx ry ⟨i, j, rfl, rfl, powOk_ok hm, sv r (.int _) k⟩
    · cases hb
  case Add.str.str a b =>
    simp only [bop] at hb
    split at hb
    · rename_i hm
      cases hb; cases hx; cases hy
      exact op_add_str pins s σ H _ _ v u Q I rx ry ⟨a, b, rfl, rfl, hm, sv r (.str _) k⟩
    · cases hb
  case Add.lst.lst xs ys =>
    simp only [bop] at hb
    split at hb
    · rename_i hm
      cases hb
      obtain ⟨a, vs, rfl, ha, ra⟩ := hx
      obtain ⟨b, us, rfl, hb, rb⟩ := hy
      refine op_cat pins s σ H _ _ v u Q I rx ry ⟨a, b, vs, us, rfl, rfl, ha, hb, by rw [← ra.length, ← rb.length]; exact hm, fun p hp => ?_⟩
      obtain ⟨r1, q1⟩ := r.newList hp (ra.append rb)
      exact k Z _ (Le.refl Z) r1 _ q1
    · cases hb
  case Add.tup.tup xs ys =>
    simp only [bop] at hb
    split at hb
    · rename_i hm
      cases hb
      obtain ⟨a, vs, rfl, ha, ra⟩ := hx
      obtain ⟨b, us, rfl, hb, rb⟩ := hy
      have ha' := r.zh.sqT ha
      have hb' := r.zh.sqT hb
      rw [hk] at ha' hb'
      refine op_catA pins s σ H _ _ v u Q I rx ry ⟨a, b, vs, us, rfl, rfl, ha', hb', by rw [← ra.length, ← rb.length]; exact hm, fun e => ?_, fun _ e => ?_, fun _ _ p hp => ?_⟩
      · subst e
        cases ra
        exact k Z H (Le.refl Z) r _ (Rep.tup hb rb)
      · subst e
        cases rb
        rw [List.append_nil] at k
        exact k Z H (Le.refl Z) r _ (Rep.tup ha ra)
      · obtain ⟨l1, r1, q1⟩ := r.newTup hp (ra.append rb)
        exact k _ _ l1 r1 _ q1
    · cases hb
  case Mult.lst.int xs n =>
    simp only [bop] at hb
    split at hb
    · rename_i hm
      cases hb; cases hy
      obtain ⟨a, vs, rfl, ha, ra⟩ := hx
      obtain ⟨h0, h1, h2⟩ := hm
      have hl := ra.length
      refine op_rep pins s σ H _ _ v u Q I rx ry ⟨a, n, vs, rfl, rfl, ha, by omega, by omega, ?_, fun p hp => ?_⟩
      · have : vs.length * n.toNat ≤ 1000 * 1000 := Nat.mul_le_mul (by omega) (by omega)
        rw [sizeLine_eq]; omega
      · obtain ⟨r1, q1⟩ := r.newList hp (ra.rep n.toNat)
        exact k Z _ (Le.refl Z) r1 _ q1
    · cases hb
  case Mult.tup.int xs n =>
    simp only [bop] at hb
    split at hb
    · rename_i hm
      cases hb; cases hy
      obtain ⟨a, vs, rfl, ha, ra⟩ := hx
      obtain ⟨h0, h1, h2, h3⟩ := hm
      have hl := ra.length
      have ha := r.zh.sqT ha
      rw [hk] at ha
      refine op_repT pins s σ H _ _ v u Q I rx ry ⟨a, n, vs, rfl, rfl, ha, ra.ne h2, h0, h1, by omega, fun p hp => ?_⟩
      obtain ⟨l1, r1, q1⟩ := r.newTup hp (ra.rep n.toNat)
      exact k _ _ l1 r1 _ q1
    · cases hb
end
end L2.T
end

section
set_option Elab.async false
set_option linter.all false
set_option maxRecDepth 100000
set_option maxHeartbeats 4000000
set_option autoImplicit false
namespace L2.T
open PySem PySem.Spec PyProof.Rows

theorem PE.imp {X : Cx} {e : Expr} {t t' : TE} (h : PE X e t) (i : ∀ σ H Q, t' σ H Q → t σ H Q) : PE X e t' := ⟨fun pins s σ H Q I q => h.run pins s σ H Q I (i σ H Q q)⟩
theorem PT.imp {X : Cx} {e : Expr} {t t' : TT} (h : PT X e t) (i : ∀ σ H Q, t' σ H Q → t σ H Q) : PT X e t' := ⟨fun pins s σ H Q I q => h.run pins s σ H Q I (i σ H Q q)⟩

structure Cxk (X : Cx) (C : Ct) (W : WX) : Prop where
  hk : C.K = X.K
  nd : X.N.Nodup
  calm : X.calm = true
  un2 : X.A.units + 190 < cLine
  gd : X.A.guards = some []
  tk : Takes X W

theorem Cxk.un {X : Cx} {C : Ct} {W : WX} (k : Cxk X C W) : X.A.units + 66 < cLine := by have := k.un2; omega

/-! ### comparisons by values -/
mutual
theorem Rep.dp {C : Ct} {Z H : Hp} (zh : Le Z H) : ∀ {d : D} {v : V} {x : PyData}, Rep C Z d v → d.py = some x → Dp C.K H v x
  | _, _, _, .non, e => by cases e; exact .non
  | _, _, _, .bl b, e => by cases e; exact .bl b
  | _, _, _, .int i, e => by cases e; exact .int i
  | _, _, _, .str i, e => by cases e; exact .str i
  | _, _, _, .ty _, e => by cases e
  | _, _, _, .scr _, e => by cases e
  | _, _, _, .dk _ _, e => by cases e
  | _, _, _, .dt _ _, e => by cases e
  | _, _, _, .ins _ _ _, e => by cases e
  | _, _, _, .tup (ds := ds) h r, e => by
    simp only [D.py, Option.map_eq_some_iff] at e
    obtain ⟨xs, e, rfl⟩ := e
    exact .tup (zh.sqT h) (Reps.dp zh r e)
  | _, _, _, .lst (ds := ds) h r, e => by
    simp only [D.py, Option.map_eq_some_iff] at e
    obtain ⟨xs, e, rfl⟩ := e
    exact .lst (.inl (.inl (zh _ _ h))) (Reps.dp zh r e)
theorem Reps.dp {C : Ct} {Z H : Hp} (zh : Le Z H) : ∀ {ds : List D} {vs : List V} {xs : List PyData}, Reps C Z ds vs → pyL ds = some xs → DpAll C.K H vs xs
  | _, _, _, .nil, e => by cases e; exact .nil
  | _, _, _, .cons (d := d) (ds := ds) h r, e => by
    unfold pyL at e
    cases e1 : d.py with
    | none => rw [e1] at e; cases e
    | some x =>
      cases e2 : pyL ds with
      | none => rw [e1, e2] at e; cases e
      | some xs =>
        rw [e1, e2] at e
        cases e
        exact .cons (Rep.dp zh h e1) (Reps.dp zh r e2)
end
theorem Vw.dp {C : Ct} {Z H : Hp} (zh : Le Z H) {d : D} {v : V} {x : PyData} (h : Vw C Z H d v) (e : d.py = some x) : Dp C.K H v x := by
  cases d with
  | non => cases e; cases h; exact .non
  | bl b => cases e; cases h; exact .bl b
  | int b => cases e; cases h; exact .int b
  | str b => cases e; cases h; exact .str b
  | ty _ => cases e
  | exc _ => cases e
  | scr _ => cases e
  | ins _ _ => cases e
  | dk _ => cases e
  | dt _ => cases e
  | tup ds =>
    obtain ⟨a, vs, rfl, h, r⟩ := h
    exact Rep.dp zh (.tup h r) e
  | lst ds =>
    obtain ⟨a, vs, rfl, h, r⟩ := h
    simp only [D.py, Option.map_eq_some_iff] at e
    obtain ⟨xs, e, rfl⟩ := e
    exact .lst (.inl (.inl h)) (Reps.dp zh r e)
def r2C (C : Ct) (σ0 : St) (g : D → D → Option Bool) : R2 := fun x y H Q => ∃ P ρ Z L d e b, Rel C P ρ Z L σ0 H ∧ Vw C Z H d x ∧ Vw C Z H e y ∧ g d e = some b ∧ Q (.bl b) H
theorem Vw.isnon {C : Ct} {Z H : Hp} {d : D} {v : V} (h : Vw C Z H d v) : decide (v = .non) = d.isNon := by
  cases d with
  | non => cases h; rfl
  | bl b => cases h; rfl
  | int b => cases h; rfl
  | str b => cases h; rfl
  | ty b => cases h; rfl
  | dk _ => obtain ⟨a, _, rfl, _⟩ := h; rfl
  | dt _ => obtain ⟨a, _, rfl, _⟩ := h; rfl
  | scr _ => obtain ⟨a, rfl, _⟩ := h; rfl
  | exc _ => obtain ⟨a, rfl, _⟩ := h; rfl
  | ins _ _ => obtain ⟨a, _, _, rfl, _⟩ := h; rfl
  | tup _ => obtain ⟨a, _, rfl, _⟩ := h; rfl
  | lst _ => obtain ⟨a, _, rfl, _⟩ := h; rfl
theorem kV_key {C : Ct} {Z H : Hp} {e : D} {y : V} {key : Key} (h : Vw C Z H e y) (g : keyD e = some key) : y = kV key := by
  cases e <;> cases g <;> exact h
theorem valV_reps {C : Ct} {Z : Hp} {κ : Type} [DecidableEq κ] {key : κ} {d : D} : ∀ {kvs : List (κ × D)} {vs : List V}, Reps C Z (kvs.map (·.2)) vs → valA kvs key = some d → ∃ v, valV ((kvs.map (·.1)).zip vs) key = some v ∧ Rep C Z d v
  | [], _, _, e => by cases e
  | (k0, d0) :: kvs, _, .cons (v := v) (vs := vs) h r, e => by
    unfold valA valV at *
    by_cases hk : k0 = key
    · simp only [List.find?_cons, hk, decide_true, Option.map_some, Option.some.injEq] at e
      subst e
      exact ⟨v, by simp [hk], h⟩
    · simp only [List.find?_cons, hk, decide_false] at e
      obtain ⟨w, h1, h2⟩ := valV_reps (key := key) r e
      refine ⟨w, ?_, h2⟩
      simp only [List.map_cons, List.zip_cons_cons, List.find?_cons, hk, decide_false]
      exact h1
theorem valV_some {C : Ct} {Z : Hp} {κ : Type} [DecidableEq κ] {key : κ} : ∀ {kvs : List (κ × D)} {vs : List V}, Reps C Z (kvs.map (·.2)) vs → (valV ((kvs.map (·.1)).zip vs) key).isSome = (valA kvs key).isSome
  | [], _, _ => by rfl
  | (k0, d0) :: kvs, _, .cons (v := v) (vs := vs) h r => by
    have ih := valV_some (key := key) r
    unfold valA valV at *
    by_cases hk : k0 = key
    · simp [hk]
    · simp only [List.map_cons, List.zip_cons_cons, List.find?_cons, hk, decide_false]
      exact ih
theorem valV_none {C : Ct} {Z : Hp} {κ : Type} [DecidableEq κ] {key : κ} {kvs : List (κ × D)} {vs : List V} (h : Reps C Z (kvs.map (·.2)) vs) (e : valA kvs key = none) : valV ((kvs.map (·.1)).zip vs) key = none := by
  have := valV_some (key := key) h
  rw [e] at this
  exact Option.isNone_iff_eq_none.mp (by rw [← Option.not_isSome, this]; rfl)
section
variable {X : Cx} {C : Ct} {W : WX} {σ0 : St}
theorem opr_cmp (k : Cxk X C W) (o : CmpOp) : OpR X (compareOp o) (r2C C σ0 (cop o)) := by
  intro pins s σ H x y v u Q I rx ry h
  obtain ⟨P, ρ, Z, L, d, e, b, r, hx, hy, hb, q⟩ := h
  cases o
  case Eq =>
    have hb : eqK d e = some b := hb
    unfold eqK at hb
    split at hb
    · rename_i kvs _
      cases hb
      obtain ⟨a, vs, rfl, ha, ra⟩ := hx
      obtain ⟨a', vs', rfl, ha', ra'⟩ := hy
      cases rx
      cases ry
      obtain ⟨z1, z2, ws, z3, z4⟩ := dk_rd I.hok ha
      obtain ⟨y1, y2, ws', y3, y4⟩ := dk_rd I.hok ha'
      have e1 : kvs.length = ws.length := by
        have := z3.length
        rw [List.length_zip, List.length_map] at this
        have l := ra.length
        rw [List.length_map] at l
        omega
      have e2 : ws' = [] := by
        have := y3.length
        simp only [List.map_nil, List.zip_nil_left, List.length_nil] at this
        exact List.length_eq_zero_iff.mp this.symm
      subst e2
      refine PySem.W.rcP_dicts (knd := mixKind X.prog X.w) (r := true) z2 y2 z4 y4 (by have := k.un; omega) (fun h0 => ?_) _ _ ⟨.bl _, H, I, rfl, ?_⟩
      · rw [List.length_eq_zero_iff.mp (show ws.length = 0 from h0)]
        exact .nil
      · have e3 : (ws.length == ([] : List (Key × Value)).length && true) = kvs.isEmpty := by
          rw [← e1, Bool.and_true]
          cases kvs <;> rfl
        rw [e3]
        exact q
    unfold eqD at hb
    split at hb
    · rename_i x' y' e1 e2
      split at hb
      · rename_i sh
        simp only [Bool.and_eq_true] at sh
        have h1 := hx.dp r.zh e1
        have h2 := hy.dp r.zh e2
        rw [k.hk] at h1 h2
        cases hb
        exact op_eqD (by have := k.un; omega) pins s σ H _ _ v u Q I rx ry ⟨x', y', h1, h2, sh.1, sh.2, q⟩
      · cases hb
    · cases hb
  case NotEq =>
    simp only [cop, eqD] at hb
    split at hb
    · rename_i x' y' e1 e2
      split at hb
      · rename_i sh
        simp only [Bool.and_eq_true] at sh
        have h1 := hx.dp r.zh e1
        have h2 := hy.dp r.zh e2
        rw [k.hk] at h1 h2
        cases hb
        exact op_neD (by have := k.un; omega) pins s σ H _ _ v u Q I rx ry ⟨x', y', h1, h2, sh.1, sh.2, q⟩
      · cases hb
    · cases hb
  case Lt =>
    cases d <;> (try (cases hb; done)) <;> cases e <;> (try (cases hb; done))
    · cases hb; cases hx; cases hy
      exact op_lt pins s σ H _ _ v u Q I rx ry ⟨_, _, rfl, rfl, q⟩
    · rename_i xs ys
      have hb : ltD (.tup xs) (.tup ys) = some b := hb
      unfold ltD at hb
      split at hb
      · rename_i x' y' e1 e2
        split at hb
        · rename_i sh
          simp only [Bool.and_eq_true] at sh
          cases hb
          have h1 := hx.dp r.zh e1
          have h2 := hy.dp r.zh e2
          rw [k.hk] at h1 h2
          obtain ⟨as, r1⟩ := Dp.reads I x' _ v h1 rx
          obtain ⟨bs, r2⟩ := Dp.reads I y' _ u h2 ry
          have nn : x' ≠ .none := fun z => by
            subst z
            simp only [D.py] at e1
            obtain ⟨_, _, z⟩ := Option.map_eq_some_iff.mp e1
            cases z
          have hd : x'.depth ≤ 64 := by
            have z : (x'.canLay0 && decide (x'.depth ≤ 64)) = true := sh.2.1
            simp only [Bool.and_eq_true, decide_eq_true_eq] at z
            exact z.2
          exact PySem.W.rcLt_alike x' y' X.A s v u as bs r1 r2 sh.1 nn (by have := k.un; omega) X.prog X.w X.xe (EP X pins σ Q) ⟨.bl _, H, I, rfl, q⟩
        · cases hb
      · cases hb
  case LtE =>
    cases d <;> (try (cases hb; done)) <;> cases e <;> (try (cases hb; done))
    cases hb; cases hx; cases hy
    exact op_le pins s σ H _ _ v u Q I rx ry ⟨_, _, rfl, rfl, q⟩
  case Gt =>
    cases d <;> (try (cases hb; done)) <;> cases e <;> (try (cases hb; done))
    cases hb; cases hx; cases hy
    exact op_gt pins s σ H _ _ v u Q I rx ry ⟨_, _, rfl, rfl, q⟩
  case GtE =>
    cases d <;> (try (cases hb; done)) <;> cases e <;> (try (cases hb; done))
    cases hb; cases hx; cases hy
    exact op_ge pins s σ H _ _ v u Q I rx ry ⟨_, _, rfl, rfl, q⟩
  case Is =>
    cases e <;> (try (cases d <;> cases hb; done))
    · have hb' : d.isNon = b := Option.some.inj (by cases d <;> exact hb)
      cases hy
      exact op_isN pins s σ H _ _ v u Q I rx ry ⟨rfl, by rw [hx.isnon, hb']; exact q⟩
    · cases d <;> (try (cases hb; done))
      cases hb; cases hx; cases hy
      exact op_is_bl pins s σ H _ _ v u Q I rx ry ⟨_, _, rfl, rfl, q⟩
  case IsNot =>
    cases e <;> (try (cases d <;> cases hb; done))
    · have hb' : (!d.isNon) = b := Option.some.inj (by cases d <;> exact hb)
      cases hy
      exact op_notN pins s σ H _ _ v u Q I rx ry ⟨rfl, by rw [hx.isnon, hb']; exact q⟩
    · cases d <;> (try (cases hb; done))
      cases hb; cases hx; cases hy
      exact op_isnot_bl pins s σ H _ _ v u Q I rx ry ⟨_, _, rfl, rfl, q⟩
  case In =>
    have hb : memD d e = some b := hb
    cases e <;> (try (cases hb; done))
    · have hb : inL d _ = some b := hb
      unfold inL at hb
      split at hb
      · rename_i x' y' e1 e2
        split at hb
        · rename_i sh
          simp only [Bool.and_eq_true] at sh
          have h1 := hx.dp r.zh e1
          have h2 := hy.dp (x := .list y') r.zh (by simp only [D.py, e2, Option.map_some])
          rw [k.hk] at h1 h2
          cases hb
          exact op_inD (by have := k.un; omega) pins s σ H _ _ v u Q I rx ry ⟨x', y', h1, h2, sh.1, sh.2, q⟩
        · cases hb
      · cases hb
    · have hb : (keyD d).map (fun k => (valA _ k).isSome) = some b := hb
      obtain ⟨key, hk, rfl⟩ := Option.map_eq_some_iff.mp hb
      obtain ⟨a, vs, rfl, ha, ra⟩ := hy
      have hy := kV_key hx hk
      subst hy
      cases ry
      refine d_in (by have := k.un; omega) I (.inl ⟨_, key, ha, rfl, rfl⟩) rx fun s' I' => ⟨.bl _, H, I', rfl, ?_⟩
      rw [valV_some ra]
      exact q
  case NotIn =>
    have hb : (memD d e).map not = some b := hb
    obtain ⟨b', hc, rfl⟩ := Option.map_eq_some_iff.mp hb
    clear hb
    cases e <;> (try (cases hc; done))
    · have hb : inL d _ = some b' := hc
      unfold inL at hb
      split at hb
      · rename_i x' y' e1 e2
        split at hb
        · rename_i sh
          simp only [Bool.and_eq_true] at sh
          have h1 := hx.dp r.zh e1
          have h2 := hy.dp (x := .list y') r.zh (by simp only [D.py, e2, Option.map_some])
          rw [k.hk] at h1 h2
          cases hb
          exact op_notInD (by have := k.un; omega) pins s σ H _ _ v u Q I rx ry ⟨x', y', h1, h2, sh.1, sh.2, q⟩
        · cases hb
      · cases hb
    · have hb : (keyD d).map (fun k => (valA _ k).isSome) = some b' := hc
      obtain ⟨key, hk, rfl⟩ := Option.map_eq_some_iff.mp hb
      obtain ⟨a, vs, rfl, ha, ra⟩ := hy
      have hy := kV_key hx hk
      subst hy
      cases ry
      refine d_notIn (by have := k.un; omega) I (.inl ⟨_, key, ha, rfl, rfl⟩) rx fun s' I' => ⟨.bl _, H, I', rfl, ?_⟩
      rw [valV_some ra]
      exact q
def r2X (C : Ct) (σ0 : St) (g : D → D → Option D) : R2 := fun x y H Q => ∃ P ρ Z L d e res, Rel C P ρ Z L σ0 H ∧ Vw C Z H d x ∧ Vw C Z H e y ∧ g d e = some res ∧ ∀ v, Rep C Z res v → Q v H
theorem Reps.atI {C : Ct} {Z : Hp} {ds : List D} {vs : List V} {i : Int} {d : D} (h : Reps C Z ds vs) (e : L2.atI ds i = some d) : ∃ v, L2.atI vs i = some v ∧ Rep C Z d v := by
  unfold L2.atI at e ⊢
  rw [← h.length]
  cases q : ixN ds.length i with
  | none => rw [q] at e; cases e
  | some j =>
    rw [q] at e
    exact h.get e
theorem ix_dk (hu : X.A.units + 1 < cLine) : IxR X (fun x y H Q => ∃ a v, x = .ref a ∧ DGet H a y (some v) ∧ Q v H) := by
  intro value slice pins s σ H x y v u Q I rx ry h hs
  obtain ⟨a, w, rfl, g, q⟩ := h
  cases rx
  have ty := dict_typeIs I g
  have last : wpAny (model X.prog X.w) X.A (subscripted slice false (.ref a) u) (fun r s3 => wpAny (model X.prog X.w) X.A (letTemporaryGo value (.ref a) r >>= fun _ => pure r) (EP X pins σ Q) X.xe s3) X.xe s := by
    rw [hs]
    exact wpAny_operating (d_getItem hu I g ry fun w' s' I' rw' => wpAny_bind (wpAny_letTemporaryGo (wpAny_pure ⟨w, H, I', rw', q⟩)))
  unfold subscriptTail
  apply wpAny_bind
  rw [getitemInPython_of_ne ty.not_modules]
  apply wpAny_bind
  apply wpAny_specialOf ty PySem.F.slot_dict_getitem.lookup
  first
    | exact wpAny_pure (wpAny_bind last)
    | exact wpAny_pure last
theorem ixr (k : Cxk X C W) : IxR X (r2X C σ0 ixD) := by
  intro value slice pins s σ H x y v u Q I rx ry h hs
  obtain ⟨P, ρ, Z, L, d, e, res, r, hx, hy, hb, q⟩ := h
  cases d <;> (try (cases hb; done))
  case tup ds =>
    cases e <;> (try (cases hb; done))
    rename_i i
    cases hy
    obtain ⟨a, vs, rfl, ha, ra⟩ := hx
    obtain ⟨w, hw, rw'⟩ := ra.atI hb
    have ha := r.zh.sqT ha
    rw [k.hk] at ha
    exact ix_tup value slice pins s σ H _ _ v u Q I rx ry ⟨a, vs, i, w, rfl, rfl, ha, hw, q _ rw'⟩ hs
  case lst ds =>
    cases e <;> (try (cases hb; done))
    rename_i i
    cases hy
    obtain ⟨a, vs, rfl, ha, ra⟩ := hx
    obtain ⟨w, hw, rw'⟩ := ra.atI hb
    exact ix_list value slice pins s σ H _ _ v u Q I rx ry ⟨a, vs, i, w, rfl, rfl, SqL.of ha, hw, q _ rw'⟩ hs
  case str z =>
    cases e <;> (try (cases hb; done))
    rename_i i
    cases hy
    cases hx
    simp only [ixD] at hb
    split at hb
    · rename_i hz
      split at hb
      · rename_i c hc
        cases hb
        exact ix_str value slice pins s σ H _ _ v u Q I rx ry ⟨z, i, c, rfl, rfl, hz, hc, q _ (.str _)⟩ hs
      · cases hb
    · cases hb
  case dk kvs =>
    obtain ⟨a, vs, rfl, ha, ra⟩ := hx
    have hb : (keyD e).bind (valA kvs) = some res := by cases e <;> exact hb
    cases hk : keyD e with
    | none => rw [hk] at hb; cases hb
    | some key =>
      rw [hk] at hb
      obtain ⟨w, hw, rw'⟩ := valV_reps ra hb
      have hy := kV_key hy hk
      subst hy
      refine ix_dk (by have := k.un; omega) value slice pins s σ H _ _ v u Q I rx ry ⟨a, w, rfl, ?_, q _ rw'⟩ hs
      exact .inl ⟨_, key, ha, rfl, hw.symm⟩
end

/-! ### expressions -/
section
variable {X : Cx} {C : Ct} {W : WX} {a b c : Expr} {ea eb ec : E} {fa fb fc : Ev} {pos : Pos}
/-- a constant, or any value that is there -/
theorem pe_val {e : Expr} {v : V} {d : D} (h : PE X e (tC v)) (hr : ∀ Z, Rep C Z d v) : PE X e (rdE C W fun ρ => .ok (false, d) ρ) :=
  PE.imp h fun σ H Q ⟨P, ρ, Z, L, r, q⟩ => q Z H (Le.refl Z) r v (hr Z)
theorem pe_vE {x : Str} {i : Nat} (h : PE X (.Name x pos) (tVar i)) : PE X (.Name x pos) (rdE C W (rdV i)) := by
  refine PE.imp h fun σ H Q ⟨P, ρ, Z, L, r, q⟩ => ?_
  unfold rdV at q
  cases e : ρ[i]? with
  | none => rw [e] at q; exact q.elim
  | some s =>
    rw [e] at q
    cases s with
    | un => exact q.elim
    | sh d =>
      obtain ⟨w, hw, u, rfl, hu⟩ := r.slot e
      exact ⟨u, hw, q Z H (Le.refl Z) r u hu⟩
    | ow d =>
      obtain ⟨Z', u, l, r', hu, qu⟩ := r.fzSlot e
      exact ⟨u, hu, q Z' H l r' u qu⟩
theorem pe_vO {x : Str} {i : Nat} {f : Ev} (h : PE X (.Name x pos) (tVar i)) : PE X (.Name x pos) (rdO C W (opOf (.v i) f)) := by
  refine PE.imp h fun σ H Q ⟨P, ρ, Z, L, r, q⟩ => ?_
  unfold opOf at q
  cases e : ρ[i]? with
  | none => simp only [e] at q; exact q.elim
  | some s =>
    simp only [e] at q
    cases s with
    | un => exact q.elim
    | sh d =>
      obtain ⟨w, hw, u, rfl, hu⟩ := r.slot e
      exact ⟨u, hw, q Z H (Le.refl Z) r u hw⟩
    | ow d =>
      obtain ⟨w, hw, u, rfl, hu⟩ := r.slot e
      exact ⟨_, hw, q Z H (Le.refl Z) r _ hw⟩
/-- an operand that is no name -/
theorem pe_O (h : PE X a (rdE C W fa)) (hn : ∀ i, ea ≠ .v i) : PE X a (rdO C W (opOf ea fa)) := by
  refine PE.imp h fun σ H Q ⟨P, ρ, Z, L, r, q⟩ => ?_
  have e : opOf ea fa ρ = (fa ρ).bind fun x ρ1 => .ok (.val x.2) ρ1 := by
    cases ea <;> first | rfl | exact absurd rfl (hn _)
  rw [e] at q
  refine ⟨P, ρ, Z, L, r, q.bind.mono fun x ρ1 Z1 H1 l1 r1 q1 v hv => ?_⟩
  obtain ⟨Z2, l2, r2, h2⟩ := r1.freeze hv
  exact q1 Z2 H1 l2 r2 v h2
theorem pe_bin (k : Cxk X C W) {o : Operator} (ha : PE X a (rdO C W (opOf ea fa))) (hb : PE X b (rdO C W (opOf eb fb))) : PE X (.BinOp a o b pos) (rdE C W fun ρ => binOp ea eb fa fb (bop o) ρ) := by
  refine ⟨fun pins s σ H Q I ⟨P, ρ, Z, L, r, q⟩ => ?_⟩
  refine (pe_op (opr_bin (σ0 := σ) k.hk o) ha hb).run pins s σ H Q I ?_
  obtain ⟨P', ρ', Z', L', r', q'⟩ := rd_binOp r q
  refine ⟨P', ρ', Z', L', r', q'.mono fun x ρ1 Z1 H1 l1 r1 q1 v hv => ?_⟩
  obtain ⟨P2, ρ2, Z2, L2, r2, q2⟩ := q1 v hv
  refine ⟨P2, ρ2, Z2, L2, r2, q2.mono fun y ρ3 Z3 H3 l3 r3 q3 w hw => ?_⟩
  obtain ⟨ρ4, Z4, d, e, res, r4, h1, h2, h3, h4⟩ := q3 w hw
  exact ⟨P, ρ4, Z4, L, d, e, res.1, res.2, r4, h1, h2, h3, h4⟩
theorem pe_cmpE (k : Cxk X C W) {o : CmpOp} (hm : behindInMarks o b = false) (ha : PE X a (rdO C W (opOf ea fa))) (hb : PE X b (rdO C W (opOf eb fb))) :
    PE X (.Compare a [o] [b] pos) (rdE C W fun ρ => (binOp ea eb fa fb (cop o) ρ).bind fun b ρ1 => .ok (false, .bl b) ρ1) := by
  refine ⟨fun pins s σ H Q I ⟨P, ρ, Z, L, r, q⟩ => ?_⟩
  refine (pe_cmpR (opr_cmp (σ0 := σ) k o) ha hb hm).run pins s σ H Q I ?_
  obtain ⟨P', ρ', Z', L', r', q'⟩ := rd_binOp r q.bind
  refine ⟨P', ρ', Z', L', r', q'.mono fun x ρ1 Z1 H1 l1 r1 q1 v hv => ?_⟩
  obtain ⟨P2, ρ2, Z2, L2, r2, q2⟩ := q1 v hv
  refine ⟨P2, ρ2, Z2, L2, r2, q2.mono fun y ρ3 Z3 H3 l3 r3 q3 w hw => ?_⟩
  obtain ⟨ρ4, Z4, d, e, res, r4, h1, h2, h3, h4⟩ := q3 w hw
  exact ⟨P, ρ4, Z4, L, d, e, res, r4, h1, h2, h3, h4 Z4 H3 (Le.refl _) r4 Z4 H3 (Le.refl _) r4 _ (Rep.bl res)⟩
theorem pe_idx (k : Cxk X C W) (hs : PlainIx b) (ha : PE X a (rdO C W (opOf ea fa))) (hb : PE X b (rdO C W (opOf eb fb))) :
    PE X (.Subscript a b pos) (rdE C W fun ρ => (binOp ea eb fa fb ixD ρ).bind fun d ρ1 => .ok (false, d) ρ1) := by
  refine ⟨fun pins s σ H Q I ⟨P, ρ, Z, L, r, q⟩ => ?_⟩
  refine (pe_ix (ixr (σ0 := σ) k) ha hb hs).run pins s σ H Q I ?_
  obtain ⟨P', ρ', Z', L', r', q'⟩ := rd_binOp r q.bind
  refine ⟨P', ρ', Z', L', r', q'.mono fun x ρ1 Z1 H1 l1 r1 q1 v hv => ?_⟩
  obtain ⟨P2, ρ2, Z2, L2, r2, q2⟩ := q1 v hv
  refine ⟨P2, ρ2, Z2, L2, r2, q2.mono fun y ρ3 Z3 H3 l3 r3 q3 w hw => ?_⟩
  obtain ⟨ρ4, Z4, d, e, res, r4, h1, h2, h3, h4⟩ := q3 w hw
  exact ⟨P, ρ4, Z4, L, d, e, res, r4, h1, h2, h3, fun v hv => h4 Z4 H3 (Le.refl _) r4 Z4 H3 (Le.refl _) r4 v hv⟩
theorem pe_negE (k : Cxk X C W) (ha : PE X a (rdO C W (opOf ea fa))) : PE X (.UnaryOp .USub a pos) (rdE C W fun ρ => (opOf ea fa ρ).bind fun x ρ1 => match x.rs ρ1 with | some (.int i) => .ok (false, .int (-i)) ρ1 | _ => .stuck) := by
  refine ⟨fun pins s σ H Q I ⟨P, ρ, Z, L, r, q⟩ => ?_⟩
  refine (pe_un un_neg ha).run pins s σ H Q I ?_
  refine ⟨P, ρ, Z, L, r, q.bind.mono fun x ρ1 Z1 H1 l1 r1 q1 v hv => ?_⟩
  cases e : x.rs ρ1 with
  | none => simp only [e] at q1; exact q1.elim
  | some d =>
    cases d <;> simp only [e] at q1 <;> try (exact q1.elim)
    have z := r1.rs hv e
    cases z
    exact ⟨_, rfl, q1 Z1 H1 (Le.refl _) r1 _ (Rep.int _)⟩
end
end L2.T
end

section
set_option Elab.async false
set_option linter.all false
set_option maxRecDepth 100000
set_option maxHeartbeats 4000000
set_option autoImplicit false
namespace L2.T
open PySem PySem.Spec PyProof.Rows

/-! ### tests -/
theorem Vw.tru {C : Ct} {Z H : Hp} (zh : Le Z H) {d : D} {v : V} {b : Bool} (h : Vw C Z H d v) (e : d.truth = some b) : TruV C.K v H b := by
  cases d with
  | non => cases h; cases e; rfl
  | bl _ => cases h; cases e; rfl
  | int _ => cases h; cases e; rfl
  | str x =>
    cases h
    have e : (if x.length ≤ sizeLine then some (x.length != 0) else none) = some b := e
    by_cases hl : x.length ≤ sizeLine
    · rw [if_pos hl] at e
      cases e
      exact ⟨hl, by cases x.length with | zero => rfl | succ n => simp; omega⟩
    · rw [if_neg hl] at e
      cases e
  | ty _ => cases e
  | dk _ => cases e
  | dt _ => cases e
  | ins _ _ => cases e
  | exc _ => cases e
  | scr _ => cases e
  | tup ds =>
    obtain ⟨a, vs, rfl, h, r⟩ := h
    cases e
    exact .inr (.inl ⟨vs, zh.sqT h, by cases r <;> rfl⟩)
  | lst ds =>
    obtain ⟨a, vs, rfl, h, r⟩ := h
    cases e
    exact .inl ⟨vs, .inl (.inl h), by cases r <;> rfl⟩
theorem RepR.vw {C : Ct} {P : List (Nat × V)} {ρ : List Sl} {Z L : Hp} {σ : St} {H : Hp} (r : Rel C P ρ Z L σ H) {fr : Bool} {d : D} {v : V} (h : RepR C ρ Z L σ H fr d v) : Vw C Z H d v := by
  cases fr with
  | false => exact Rep.vw r.zh h
  | true =>
    obtain ⟨a, rfl, o, _⟩ : ∃ a, v = .ref a ∧ Own C Z H d a ∧ L a = none ∧ ∀ (i : Nat) (e : D), ρ[i]? = some (Sl.ow e) → σ[i]? ≠ some (some (V.ref a)) := h
    exact o.vw
section
variable {X : Cx} {C : Ct} {W : WX} {a b c : Expr} {ea eb ec : E} {fa fb fc : Ev} {pos : Pos} {rest : List Expr}
theorem pt_plain (k : Cxk X C W) (ha : PE X a (rdE C W fa)) (he : ∀ whole, isTrue a X.env whole = (do let v ← whole; standAt a.pos; holding [v] (truthy v))) : PT X a (rdT C W (tru fa)) := by
  refine PT.imp (pt_truth ha he) fun σ H Q ⟨P, ρ, Z, L, r, q⟩ => ⟨P, ρ, Z, L, r, q.bind.mono fun x ρ1 Z1 H1 l1 r1 q1 v hv => ?_⟩
  obtain ⟨b, hb, k1⟩ := q1.of
  have z := (hv.vw r1).tru r1.zh hb
  rw [k.hk] at z
  exact ⟨b, z, k1 Z1 H1 (Le.refl _) r1⟩
theorem pt_cmpT (k : Cxk X C W) {o : CmpOp} (hm : behindInMarks o b = false) (ha : PE X a (rdO C W (opOf ea fa))) (hb : PE X b (rdO C W (opOf eb fb))) :
    PT X (.Compare a [o] [b] pos) (rdT C W (tru fun ρ => (binOp ea eb fa fb (cop o) ρ).bind fun b ρ1 => .ok (false, .bl b) ρ1)) := by
  refine ⟨fun pins s σ H Q I ⟨P, ρ, Z, L, r, q⟩ => ?_⟩
  refine (pt_cmpR (opr_cmp (σ0 := σ) k o) ha hb hm).run pins s σ H Q I ?_
  have q : Cont C W P Z L σ ((binOp ea eb fa fb (cop o) ρ).bind fun b ρ1 => R.ok b ρ1) fun b _ _ H' => Q b H' := by
    revert q
    show Cont C W P Z L σ (((binOp ea eb fa fb (cop o) ρ).bind fun b ρ1 => R.ok (false, D.bl b) ρ1).bind fun x ρ1 => R.of x.2.truth ρ1) _ → _
    cases binOp ea eb fa fb (cop o) ρ <;> exact fun q => q
  obtain ⟨P', ρ', Z', L', r', q'⟩ := rd_binOp r q.bind
  refine ⟨P', ρ', Z', L', r', q'.mono fun x ρ1 Z1 H1 l1 r1 q1 v hv => ?_⟩
  obtain ⟨P2, ρ2, Z2, L2, r2, q2⟩ := q1 v hv
  refine ⟨P2, ρ2, Z2, L2, r2, q2.mono fun y ρ3 Z3 H3 l3 r3 q3 w hw => ?_⟩
  obtain ⟨ρ4, Z4, d, e, res, r4, h1, h2, h3, h4⟩ := q3 w hw
  exact ⟨P, ρ4, Z4, L, d, e, res, r4, h1, h2, h3, res, rfl, h4 Z4 H3 (Le.refl _) r4 Z4 H3 (Le.refl _) r4⟩
theorem pt_notT (ha : PT X a (rdT C W (tru fa))) : PT X (.UnaryOp .Not a pos) (rdT C W (tru fun ρ => (tru fa ρ).bind fun b ρ1 => .ok (false, .bl (!b)) ρ1)) := by
  refine PT.imp (pt_not ha) fun σ H Q ⟨P, ρ, Z, L, r, q⟩ => ⟨P, ρ, Z, L, r, ?_⟩
  have q : Cont C W P Z L σ ((tru fa ρ).bind fun b ρ1 => R.ok (!b) ρ1) fun b _ _ H' => Q b H' := by
    revert q
    show Cont C W P Z L σ (((tru fa ρ).bind fun b ρ1 => R.ok (false, D.bl (!b)) ρ1).bind fun x ρ1 => R.of x.2.truth ρ1) _ → _
    cases tru fa ρ <;> exact fun q => q
  exact q.bind.mono fun b ρ1 Z1 H1 l1 r1 q1 => q1 Z1 H1 (Le.refl _) r1
theorem pe_notE (k : Cxk X C W) (ha : PE X a (rdE C W fa)) : PE X (.UnaryOp .Not a pos) (rdE C W fun ρ => (tru fa ρ).bind fun b ρ1 => .ok (false, .bl (!b)) ρ1) := by
  refine PE.imp (pe_notT ha) fun σ H Q ⟨P, ρ, Z, L, r, q⟩ => ⟨P, ρ, Z, L, r, ?_⟩
  have q : Cont C W P Z L σ ((fa ρ).bind fun x ρ1 => (R.of x.2.truth ρ1).bind fun b ρ1 => R.ok (false, D.bl (!b)) ρ1) fun x ρ' Z' H' => ∀ v, RepR C ρ' Z' L σ H' x.1 x.2 v → Q v H' := by
    revert q
    show Cont C W P Z L σ (((fa ρ).bind fun x ρ1 => R.of x.2.truth ρ1).bind _) _ → _
    cases fa ρ <;> exact fun q => q
  refine q.bind.mono fun x ρ1 Z1 H1 l1 r1 q1 v hv => ?_
  obtain ⟨b, e, q2⟩ := q1.bind.of
  have z := (hv.vw r1).tru r1.zh e
  rw [k.hk] at z
  exact ⟨b, z, q2 Z1 H1 (Le.refl _) r1 Z1 H1 (Le.refl _) r1 _ (Rep.bl _)⟩
/-- and, or as tests -/
def andF (fa fb : Ev) : Ev := fun ρ => (fa ρ).bind fun x ρ1 => match x.2 with
    | .bl true => fb ρ1
    | .bl false => .ok (false, .bl false) ρ1
    | _ => .stuck
def orF (fa fb : Ev) : Ev := fun ρ => (fa ρ).bind fun x ρ1 => match x.2 with
    | .bl false => fb ρ1
    | .bl true => .ok (false, .bl true) ρ1
    | _ => .stuck
theorem tru_and {P : List (Nat × V)} {Z L : Hp} {σ : St} {ρ : List Sl} {K : KT Bool} (q : Cont C W P Z L σ (tru (andF fa fb) ρ) K) : Cont C W P Z L σ (tru fa ρ) fun t ρ1 Z1 H1 => if t = true then Cont C W P Z1 L σ (tru fb ρ1) K else K false ρ1 Z1 H1 := by
  revert q
  unfold tru andF
  cases fa ρ with
  | ex x ρ1 => exact fun q => q
  | stuck => exact fun q => q
  | ok x ρ1 =>
    obtain ⟨fr, d⟩ := x
    intro q
    cases d <;> try (exact q.elim)
    rename_i t
    cases t with
    | true =>
      intro Z1 H1 l1 r1
      rw [if_pos rfl]
      exact R.wp_mono q (fun a ρ2 h Z2 H2 l2 r2 => h Z2 H2 (l1.trans l2) r2) fun x ρ2 h cls dd Z2 H2 l2 r2 => h cls dd Z2 H2 (l1.trans l2) r2
    | false =>
      intro Z1 H1 l1 r1
      rw [if_neg Bool.false_ne_true]
      exact q Z1 H1 l1 r1
theorem tru_or {P : List (Nat × V)} {Z L : Hp} {σ : St} {ρ : List Sl} {K : KT Bool} (q : Cont C W P Z L σ (tru (orF fa fb) ρ) K) : Cont C W P Z L σ (tru fa ρ) fun t ρ1 Z1 H1 => if t = true then K true ρ1 Z1 H1 else Cont C W P Z1 L σ (tru fb ρ1) K := by
  revert q
  unfold tru orF
  cases fa ρ with
  | ex x ρ1 => exact fun q => q
  | stuck => exact fun q => q
  | ok x ρ1 =>
    obtain ⟨fr, d⟩ := x
    intro q
    cases d <;> try (exact q.elim)
    rename_i t
    cases t with
    | false =>
      intro Z1 H1 l1 r1
      rw [if_neg Bool.false_ne_true]
      exact R.wp_mono q (fun a ρ2 h Z2 H2 l2 r2 => h Z2 H2 (l1.trans l2) r2) fun x ρ2 h cls dd Z2 H2 l2 r2 => h cls dd Z2 H2 (l1.trans l2) r2
    | true =>
      intro Z1 H1 l1 r1
      rw [if_pos rfl]
      exact q Z1 H1 l1 r1
theorem pw_andT (ha : PT X a (rdT C W (tru fa))) (hb : PW X (.BoolOp .And (b :: rest) pos) (rdT C W (tru fb))) : PW X (.BoolOp .And (a :: b :: rest) pos) (rdT C W (tru (andF fa fb))) := by
  refine ⟨fun wh pins s σ H Q I ⟨P, ρ, Z, L, r, q⟩ => (pw_and ha hb).run wh pins s σ H Q I ⟨P, ρ, Z, L, r, (tru_and q).mono fun t ρ1 Z1 H1 l1 r1 q1 => ?_⟩⟩
  cases t with
  | true => exact ⟨P, ρ1, Z1, L, r1, q1⟩
  | false => exact q1
theorem pw_orT (ha : PT X a (rdT C W (tru fa))) (hb : PW X (.BoolOp .Or (b :: rest) pos) (rdT C W (tru fb))) : PW X (.BoolOp .Or (a :: b :: rest) pos) (rdT C W (tru (orF fa fb))) := by
  refine ⟨fun wh pins s σ H Q I ⟨P, ρ, Z, L, r, q⟩ => (pw_or ha hb).run wh pins s σ H Q I ⟨P, ρ, Z, L, r, (tru_or q).mono fun t ρ1 Z1 H1 l1 r1 q1 => ?_⟩⟩
  cases t with
  | false => exact ⟨P, ρ1, Z1, L, r1, q1⟩
  | true => exact q1
theorem pe_andE (ha : PE X a (rdE C W fa)) (hb : PE X (.BoolOp .And (b :: rest) pos) (rdE C W fb)) : PE X (.BoolOp .And (a :: b :: rest) pos) (rdE C W (andF fa fb)) := by
  refine PE.imp (pe_and ha hb) fun σ H Q ⟨P, ρ, Z, L, r, q⟩ => ⟨P, ρ, Z, L, r, q.bind.mono fun x ρ1 Z1 H1 l1 r1 q1 v hv => ?_⟩
  obtain ⟨fr, d⟩ := x
  cases d <;> try (exact q1.elim)
  rename_i t
  have z := hv.vw r1
  cases z
  refine ⟨t, rfl, ?_⟩
  cases t with
  | true => exact ⟨P, ρ1, Z1, L, r1, q1⟩
  | false => exact q1 Z1 H1 (Le.refl _) r1 _ (Rep.bl false)
theorem pe_orE (ha : PE X a (rdE C W fa)) (hb : PE X (.BoolOp .Or (b :: rest) pos) (rdE C W fb)) : PE X (.BoolOp .Or (a :: b :: rest) pos) (rdE C W (orF fa fb)) := by
  refine PE.imp (pe_or ha hb) fun σ H Q ⟨P, ρ, Z, L, r, q⟩ => ⟨P, ρ, Z, L, r, q.bind.mono fun x ρ1 Z1 H1 l1 r1 q1 v hv => ?_⟩
  obtain ⟨fr, d⟩ := x
  cases d <;> try (exact q1.elim)
  rename_i t
  have z := hv.vw r1
  cases z
  refine ⟨t, rfl, ?_⟩
  cases t with
  | false => exact ⟨P, ρ1, Z1, L, r1, q1⟩
  | true => exact q1 Z1 H1 (Le.refl _) r1 _ (Rep.bl true)
theorem pe_ifeE (hc : PT X c (rdT C W (tru fc))) (ha : PE X a (rdE C W fa)) (hb : PE X b (rdE C W fb)) : PE X (.IfExp c a b pos) (rdE C W fun ρ => (tru fc ρ).bind fun t ρ1 => if t = true then fa ρ1 else fb ρ1) := by
  refine PE.imp (pe_ifExp hc ha hb) fun σ H Q ⟨P, ρ, Z, L, r, q⟩ => ⟨P, ρ, Z, L, r, q.bind.mono fun t ρ1 Z1 H1 l1 r1 q1 => ?_⟩
  cases t with
  | true => exact ⟨P, ρ1, Z1, L, r1, q1⟩
  | false => exact ⟨P, ρ1, Z1, L, r1, q1⟩
/-! ### arguments, displays -/
theorem pa_nilA : PA X [] (rdA C W fun ρ => .ok [] ρ) := ⟨fun p pins s σ H Q I ⟨P, ρ, Z, L, r, q⟩ => pa_nil.run p pins s σ H Q I (q Z H (Le.refl _) r [] .nil)⟩
theorem pa_consA {es : List Expr} {fs : List Sl → R (List Op)} (ha : PE X a (rdO C W (opOf ea fa))) (hr : PA X es (rdA C W fs)) (hs : starEach (a :: es) X.env = (false, eval a X.env) :: starEach es X.env) :
    PA X (a :: es) (rdA C W fun ρ => (opOf ea fa ρ).bind fun o ρ1 => (fs ρ1).bind fun os ρ2 => .ok (o :: os) ρ2) := by
  refine ⟨fun p pins s σ H Q I ⟨P, ρ, Z, L, r, q⟩ => (pa_cons ha hr hs).run p pins s σ H Q I ⟨P, ρ, Z, L, r, q.bind.mono fun o ρ1 Z1 H1 l1 r1 q1 v hv => ⟨P, ρ1, Z1, L, r1, q1.bind.mono fun os ρ2 Z2 H2 l2 r2 q2 vs hvs => ?_⟩⟩⟩
  exact q2 Z2 H2 (Le.refl _) r2 (v :: vs) (.cons (hv.mono l2) hvs)
theorem pe_tupE {es : List Expr} {fs : List Sl → R (List Op)} {x1 : Nat} (h : PA X es (rdA C W fs)) : PE X (.Tuple es x1 pos) (rdE C W fun ρ => (fs ρ).bind fun os ρ1 => match fzL ρ1 os with
    | some (ds, ρ2) => if ds.length ≤ sizeLine then .ok (false, .tup ds) ρ2 else .stuck
    | none => .stuck) := by
  refine PE.imp (pe_tup h) fun σ H Q ⟨P, ρ, Z, L, r, q⟩ => ⟨P, ρ, Z, L, r, q.bind.mono fun os ρ1 Z1 H1 l1 r1 q1 vs hvs => ?_⟩
  cases e : fzL ρ1 os with
  | none => simp only [e] at q1; exact q1.elim
  | some p =>
    obtain ⟨ds, ρ2⟩ := p
    simp only [e] at q1
    obtain ⟨Z2, l2, r2, hr⟩ := r1.fzL hvs e
    split at q1
    · rename_i hz
      refine ⟨by rw [← hr.length]; exact hz, fun p hp => ?_⟩
      obtain ⟨l3, r3, q3⟩ := r2.newTup hp hr
      exact q1 _ _ (l2.trans l3) r3 _ q3
    · exact q1.elim
theorem pe_lstE {es : List Expr} {fs : List Sl → R (List Op)} (h : PA X es (rdA C W fs)) : PE X (.List es pos) (rdE C W fun ρ => (fs ρ).bind fun os ρ1 => match fzL ρ1 os with
    | some (ds, ρ2) => if ds.length ≤ sizeLine then .ok (true, .lst ds) ρ2 else .stuck
    | none => .stuck) := by
  refine PE.imp (pe_lst h) fun σ H Q ⟨P, ρ, Z, L, r, q⟩ => ⟨P, ρ, Z, L, r, q.bind.mono fun os ρ1 Z1 H1 l1 r1 q1 vs hvs => ?_⟩
  cases e : fzL ρ1 os with
  | none => simp only [e] at q1; exact q1.elim
  | some p =>
    obtain ⟨ds, ρ2⟩ := p
    simp only [e] at q1
    obtain ⟨Z2, l2, r2, hr⟩ := r1.fzL hvs e
    split at q1
    · rename_i hz
      refine ⟨by rw [← hr.length]; exact hz, fun p hp => ?_⟩
      obtain ⟨r3, q3⟩ := r2.newList hp hr
      exact q1 _ _ l2 r3 _ q3
    · exact q1.elim
end
end L2.T
end

section
set_option Elab.async false
set_option linter.all false
set_option maxRecDepth 100000
set_option maxHeartbeats 4000000
set_option autoImplicit false
namespace L2.T
open PySem PySem.Spec PyProof.Rows

/-! ### a def's promise, with no text being written around it -/
structure FnG (Pg : Program) (w : World) (K : PySem.W.Frag) (mg : Str → Option Value) (base : Heap) (k : Nat) (f : Addr) (fd : FuncData) (ps : List Str) (sp : Sp) : Prop where
  len : ∀ vs H Q E, sp vs H Q E → vs.length = ps.length
  run : ∀ (A : Around) (out : List Env) (s : Shared) (H : Hp) (args : Args) (us : List Value) (vs : List V) (Q : VK) (E : XK), Room k A → A.guards = some [] →
    Env0 Pg w K mg base A out s H → BindsTo s fd args (ps.zip us) → Vals vs us → sp vs H Q E → codeAny (model Pg w) A (.call (.ref f) args) (CR (L2.CX Pg w) out Pg w H s Q E) s
theorem FnG.mono {Pg : Program} {w : World} {K : PySem.W.Frag} {mg : Str → Option Value} {base : Heap} {j k : Nat} {f : Addr} {fd : FuncData} {ps : List Str} {sp : Sp} (F : FnG Pg w K mg base j f fd ps sp) (h : j ≤ k) : FnG Pg w K mg base k f fd ps sp :=
  ⟨F.len, fun A out s H args us vs Q E hr => F.run A out s H args us vs Q E (hr.mono h)⟩
section
variable {X : Cx} {k : Nat} {f : Addr} {fd : FuncData} {ps : List Str} {sp : Sp} {W : WX} {x : Str} {p pos : Pos} {e : Expr} {es : List Expr} {t : TA}
theorem run_G {pins : List (Addr × Obj)} {σ : St} {H : Hp} {s : Shared} {Q : VK} {us : List Value} {vs : List V} {args : Args} (F : FnG X.prog X.w X.K X.mg X.base k f fd ps sp) (hr : Room k X.A) (hg : X.A.guards = some []) (tk : Takes X W)
    (I : Inv X pins σ H s) (hb : BindsTo s fd args (ps.zip us)) (r : Vals vs us) (h : sp vs H Q (WE W σ)) : codeAny (model X.prog X.w) X.A (.call (.ref f) args) (fun r s' => match r with
      | .ok (.ret u) => EP X pins σ Q u s'
      | .ok _ => False
      | .error e => X.xe e s') s := by
  refine codeAny_mono (F.run X.A X.stack s H args us vs Q (WE W σ) hr hg I.env0 hb r h) fun res s' hq => ?_
  rcases res with e | fl
  · exact passAt tk σ pins H s e s' I hq
  · rcases fl with _ | _ | _ | u
    · exact hq.elim
    · exact hq.elim
    · exact hq.elim
    · exact I.after hq
def tCallG (sp : Sp) (W : WX) (t : TA) : TE := fun σ H Q => t σ H fun vs H1 => sp vs H1 Q (WE W σ)
theorem pe_callG (F : FnG X.prog X.w X.K X.mg X.base k f fd ps sp) (hr : Room k X.A) (hg : X.A.guards = some []) (tk : Takes X W) (gl : Gl X x) (hm : X.mg x = some (.ref f)) (hk : PySem.W.keepIn X.K (.ref f) = true) (hb : Binds X.K fd ps []) (hdb : (x == ("__debug__" : Str)) = false)
    (ha : PA X (e :: es) t) (he : starEach (e :: es) X.env = (false, eval e X.env) :: starEach es X.env) (hpl : (backTo pos (starEach es X.env)).any (·.1) = false) : PE X (.Call (.Name x p) (e :: es) [] pos) (tCallG sp W t) := by
  refine ⟨fun pins s σ H Q I h => wpAny_Call_Name_kw (ld_glob I gl hm ?_ hdb)⟩
  refine PySem.W.callWith_K (h₀ := X.base) I.ok.mod.kin hk (thn (ha.run pos pins s σ H _ I h) fun us s1 ⟨vs, H1, I1, r, q⟩ => ⟨I1.kIn, wpAny_call ?_⟩) he hpl
  have hl : us.length = ps.length := by rw [← r.length]; exact F.len _ _ _ _ q
  have hbb := hb s1 us I1.kIn (by rw [List.append_nil]; exact hl)
  rw [List.append_nil] at hbb
  exact run_G F hr hg tk I1 hbb r q
theorem pe_callG0 (F : FnG X.prog X.w X.K X.mg X.base k f fd ps sp) (hr : Room k X.A) (hg : X.A.guards = some []) (tk : Takes X W) (gl : Gl X x) (hm : X.mg x = some (.ref f)) (hk : PySem.W.keepIn X.K (.ref f) = true) (hb : Binds X.K fd ps []) (hdb : (x == ("__debug__" : Str)) = false) :
    PE X (.Call (.Name x p) [] [] pos) (tCallG sp W tNil) := by
  refine ⟨fun pins s σ H Q I h => wpAny_Call_Name_kw (ld_glob I gl hm ?_ hdb)⟩
  have hl : ps.length = 0 := (F.len _ _ _ _ h).symm
  have hbb := hb s [] I.kIn (by rw [hl]; rfl)
  exact PySem.W.callWith_K0 I.kIn hk (wpAny_call (run_G (us := []) (vs := []) F hr hg tk I hbb .nil h))
end

/-! ### a def by its body -/
theorem fn_Gc {Pg : Program} {w : World} {K : PySem.W.Frag} {mg : Str → Option Value} {base : Heap} {k : Nat} {f : Addr} {x qual : Str} {params : Arguments} {body : List Stmt} {scope : Scope} {dvs : List V} {kws : List (Str × V)} {fd : FuncData} {N ps : List Str} {sp : Sp} {oc : Value} {od : Option Addr} {dV kV doc pm : Value} {an : Option Addr} {cdv ct : Value} {osl : Array (Option Value)}
    (F : FunD K x qual params body scope dvs kws f fd) (S : FnScope N ps scope) (hfd : fd = PySem.W.fnOf x qual params body scope dV kV doc pm an cdv ct) (lk : K.lookup f = some ⟨oc, od, .func fd, osl⟩) (hcd : PySem.W.codeIn K cdv qual = true) (len : ∀ vs H Q E, sp vs H Q E → vs.length = ps.length)
    (hbody : ∀ (A : Around) (out : List Env) (s : Shared) (H : Hp) (vs : List V) (Q : VK) (E : XK), Room k (A.deeper (envOfC qual scope s.heap.objs.size f cdv)) → A.guards = some [] → sp vs H Q E →
      ∃ t, PSs (cxOf (L2.CX Pg w) Pg w K mg base N qual scope f cdv A out s H E) body t ∧ t { nx := fun _ H' => Q .non H', rt := Q } (start N vs) H) : FnG Pg w K mg base (k + 1) f fd ps sp := by
  subst hfd
  refine ⟨len, fun A out s H args us vs Q E room gd e0 hb rv hsp => ?_⟩
  obtain ⟨t, ht, hq⟩ := hbody A out s H vs Q E (room.deeper _) gd hsp
  have kin : K.In s.heap := e0.mod.kin.keeps fun b o z => (e0.bs b o z).1
  have nolim : s.heap.NoLimit := e0.mod.nolimit.keeps fun b o z => (e0.bs b o z).1
  have kinds : ∀ y ∈ ps.zip us, scope.names.lookup y.1 = some .local ∨ (scope.names.lookup y.1 = some .cell ∧ ((cellsFrom (s.heap.objs.size + 1) scope.names []).lookup y.1).isSome = true) := by
    rintro ⟨n, v⟩ hy
    cases S.par n (List.of_mem_zip hy).1 with
    | inl q => exact .inl q
    | inr q => exact .inr ⟨q, PySem.W.cellsFrom_some _ _ _ (.inl q)⟩
  refine codeAny_call_function room.depth (kin _ _ lk) rfl S.co S.gen rfl (PySem.W.codeRec_of kin hcd) (hb _ _ _ _ (wpAny_newFunctionEnv_cells S.kind kinds ?_))
  intro env he s1 inC
  subst he
  refine ⟨nolim.keeps inC.toInCall.keep, codeAny_func (wpAny_mono (ht.run [] s1 (start N vs) H _ (inv_start S room.hd e0 (len _ _ _ _ hsp) rv inC) hq) (fun fl s' hs => ?_) fun _ _ z => z)⟩
  rcases fl with _ | _ | _ | u
  · obtain ⟨σ', H', J, q⟩ := hs
    exact ⟨V.non, H', J.os, J.bare, J.base, J.hok, rfl, q⟩
  · obtain ⟨_, _, _, q⟩ := hs
    exact q.elim
  · obtain ⟨_, _, _, q⟩ := hs
    exact q.elim
  · obtain ⟨v, σ', H', J, r, q⟩ := hs
    exact ⟨v, H', J.os, J.bare, J.base, J.hok, r, q⟩
end L2.T
end

section
set_option Elab.async false
set_option linter.all false
set_option maxRecDepth 100000
set_option maxHeartbeats 4000000
set_option autoImplicit false
namespace L2.T
open PySem PySem.Spec PyProof.Rows

/-! ### arguments -/
inductive ArgR (C : Ct) (Z L H : Hp) : List Sl → List V → Prop
  | nil : ArgR C Z L H [] []
  | sh {d v as vs} : Rep C Z d v → ArgR C Z L H as vs → ArgR C Z L H (.sh d :: as) (v :: vs)
  | ow {d a as vs} : Own C Z H d a → L a = none → (∀ (i : Nat) (e : D), as[i]? = some (.ow e) → vs[i]? ≠ some (V.ref a)) → ArgR C Z L H as vs → ArgR C Z L H (.ow d :: as) (.ref a :: vs)
theorem ArgR.length {C : Ct} {Z L H : Hp} : ∀ {as : List Sl} {vs : List V}, ArgR C Z L H as vs → as.length = vs.length
  | _, _, .nil => rfl
  | _, _, .sh _ r => congrArg Nat.succ r.length
  | _, _, .ow _ _ _ r => congrArg Nat.succ r.length
theorem ArgR.at {C : Ct} {Z L H : Hp} : ∀ {as : List Sl} {vs : List V}, ArgR C Z L H as vs → ∀ (i : Nat) (s : Sl) (v : V), as[i]? = some s → vs[i]? = some v → SlR C Z L H s (some v)
  | _, _, .nil, i, _, _, h, _ => by simp at h
  | _, _, .sh q _, 0, _, _, h, g => by simp at h g; subst h; subst g; exact ⟨_, rfl, q⟩
  | _, _, .ow q l _ _, 0, _, _, h, g => by simp at h g; subst h; subst g; exact ⟨_, rfl, q, l⟩
  | _, _, .sh _ r, i + 1, s, v, h, g => r.at i s v (by simpa using h) (by simpa using g)
  | _, _, .ow _ _ _ r, i + 1, s, v, h, g => r.at i s v (by simpa using h) (by simpa using g)
theorem ArgR.ap {C : Ct} {Z L H : Hp} : ∀ {as : List Sl} {vs : List V}, ArgR C Z L H as vs → ∀ (i j : Nat) (d e : D) (a : Addr), as[i]? = some (.ow d) → as[j]? = some (.ow e) → vs[i]? = some (.ref a) → vs[j]? = some (.ref a) → i = j
  | _, _, .nil, i, _, _, _, _, h, _, _, _ => by simp at h
  | _, _, .sh _ r, 0, _, _, _, _, h, _, _, _ => by simp at h
  | _, _, .sh _ r, _ + 1, 0, _, _, _, _, h, _, _ => by simp at h
  | _, _, .sh _ r, i + 1, j + 1, d, e, a, h1, h2, h3, h4 => congrArg Nat.succ (r.ap i j d e a (by simpa using h1) (by simpa using h2) (by simpa using h3) (by simpa using h4))
  | _, _, .ow _ _ _ r, 0, 0, _, _, _, _, _, _, _ => rfl
  | _, _, .ow _ _ n r, 0, j + 1, d, e, a, h1, h2, h3, h4 => by
    simp only [List.getElem?_cons_zero, Option.some.injEq, V.ref.injEq] at h3
    subst h3
    exact absurd (by simpa using h4) (n j e (by simpa using h2))
  | _, _, .ow _ _ n r, i + 1, 0, d, e, a, h1, h2, h3, h4 => by
    simp only [List.getElem?_cons_zero, Option.some.injEq, V.ref.injEq] at h4
    subst h4
    exact absurd (by simpa using h3) (n i d (by simpa using h1))
  | _, _, .ow _ _ _ r, i + 1, j + 1, d, e, a, h1, h2, h3, h4 => congrArg Nat.succ (r.ap i j d e a (by simpa using h1) (by simpa using h2) (by simpa using h3) (by simpa using h4))
section
variable {C : Ct} {P : List (Nat × V)} {L : Hp} {σ : St} {H : Hp}
/-- a slot forgotten -/
theorem Rel.drop {ρ : List Sl} {Z : Hp} (r : Rel C P ρ Z L σ H) (i : Nat) : Rel C P (ρ.set i .un) Z L σ H := by
  have w : ∀ {j : Nat} {s : Sl}, (ρ.set i .un)[j]? = some s → s = .un ∨ ρ[j]? = some s := fun {j s} g => by
    by_cases hj : i = j
    · subst hj
      by_cases hi : i < ρ.length
      · rw [List.getElem?_set_self hi] at g; exact .inl (Option.some.inj g).symm
      · rw [List.getElem?_eq_none (by simpa using hi)] at g; cases g
    · rw [List.getElem?_set_ne hj] at g; exact .inr g
  refine ⟨r.zh, r.lh, r.zl, by rw [List.length_set]; exact r.len, fun j s v g1 g2 => ?_, fun j k d e a g1 g2 g3 g4 => ?_, r.pin, r.tb⟩
  · rcases w g1 with rfl | g
    · trivial
    · exact r.sl j s v g g2
  · rcases w g1 with q | g
    · cases q
    · rcases w g2 with q | g'
      · cases q
      · exact r.ap j k d e a g g' g3 g4
theorem Rel.lweak {ρ : List Sl} {Z L' : Hp} (r : Rel C P ρ Z L' σ H) (l : Le L L') : Rel C P ρ Z L σ H := by
  have fr : ∀ a, L' a = none → L a = none := fun a h => by
    cases q : L a with
    | none => rfl
    | some o => rw [l a o q] at h; cases h
  refine ⟨r.zh, l.trans r.lh, fun a o h => fr a (r.zl a o h), r.len, fun j s v g1 g2 => ?_, r.ap, r.pin, r.tb.sub l⟩
  have q := r.sl j s v g1 g2
  cases s with
  | un => trivial
  | sh d => exact q
  | ow d => obtain ⟨a, h1, h2, h3⟩ := q; exact ⟨a, h1, h2, fr a h3⟩
/-- an owned slot is lent to others -/
theorem Rel.lend {ρ : List Sl} {Z : Hp} (r : Rel C P ρ Z L σ H) {n : Nat} {d : D} {a : Addr} (h : ρ[n]? = some (.ow d)) (hv : σ[n]? = some (some (.ref a))) : Own C Z H d a ∧ L a = none ∧ ∃ o, H a = some o ∧ Rel C P (ρ.set n .un) Z (upd L a o) σ H := by
  obtain ⟨b, hb, oa, la⟩ := r.sl n _ _ h hv
  cases hb
  obtain ⟨o, ho⟩ := oa.here
  have hn : n < ρ.length := (List.getElem?_eq_some_iff.mp h).1
  have r0 := r.drop n
  refine ⟨oa, la, o, ho, ⟨r.zh, fun b u e => ?_, fun b u e => ?_, r0.len, fun j s v g1 g2 => ?_, r0.ap, r.pin, r.tb.len ho (oa.plnOf ho).1⟩⟩
  · by_cases hb : b = a
    · subst hb; rw [upd_same] at e; cases e; exact ho
    · rw [upd_ne hb] at e; exact r.lh b u e
  · have hb : b ≠ a := fun z => by subst z; rw [oa.zn] at e; cases e
    rw [upd_ne hb]; exact r.zl b u e
  · have q := r0.sl j s v g1 g2
    cases s with
    | un => trivial
    | sh d => exact q
    | ow e =>
      obtain ⟨b, h1, h2, h3⟩ := q
      have hne : n ≠ j := fun z => by subst z; rw [List.getElem?_set_self hn] at g1; cases g1
      rw [List.getElem?_set_ne hne] at g1
      have hb : b ≠ a := fun z => hne (r.ap n j d e a h g1 hv (by rw [g2, h1, z]))
      exact ⟨b, h1, h2, by rw [upd_ne hb]; exact h3⟩
/-- which slots of a smaller frame are owned -/
def Sub (ρ1 ρ : List Sl) : Prop := ∀ (i : Nat) (e : D), ρ1[i]? = some (.ow e) → ρ[i]? = some (.ow e)
theorem Sub.set {ρ : List Sl} {i : Nat} {s : Sl} (h : ∀ d, s ≠ .ow d) : Sub (ρ.set i s) ρ := fun j e g => by
  by_cases hj : i = j
  · subst hj
    by_cases hi : i < ρ.length
    · rw [List.getElem?_set_self hi] at g; exact absurd (Option.some.inj g) (h e)
    · rw [List.getElem?_eq_none (by simpa using hi)] at g; cases g
  · rw [List.getElem?_set_ne hj] at g; exact g
theorem Sub.trans {a b c : List Sl} (h : Sub a b) (g : Sub b c) : Sub a c := fun i e q => g i e (h i e q)
end
theorem ArgR.lweak {C : Ct} {Z L L' H : Hp} (l : Le L L') : ∀ {as : List Sl} {vs : List V}, ArgR C Z L' H as vs → ArgR C Z L H as vs
  | _, _, .nil => .nil
  | _, _, .sh q r => .sh q (r.lweak l)
  | _, _, .ow (a := a) q h n r => .ow q (by
      cases e : L a with
      | none => rfl
      | some o => rw [l a o e] at h; cases h) n (r.lweak l)
section
variable {C : Ct} {P : List (Nat × V)} {σ : St} {H : Hp}
/-- the arguments of a call -/
theorem argsIn_ok {mv : List Nat} : ∀ {os : List Op} {vs : List V} {j : Nat} {as ρ ρ1 : List Sl} {Z L : Hp}, Rel C P ρ Z L σ H → OpVs C Z σ os vs → argsIn mv j os ρ = some (as, ρ1) →
    ∃ Z1, Le Z Z1 ∧ Rel C P ρ1 Z1 L σ H ∧ ArgR C Z1 L H as vs ∧ Sub ρ1 ρ ∧ (∀ (i : Nat) (d : D) (a : Addr), as[i]? = some (.ow d) → vs[i]? = some (.ref a) → ∀ (n : Nat) (e : D), ρ1[n]? = some (.ow e) → σ[n]? ≠ some (some (V.ref a))) ∧
      (∀ (i : Nat) (d : D), as[i]? = some (.ow d) → ∃ n, os[i]? = some (.sl n) ∧ mv.contains (j + i) = true) ∧ as.length = os.length
  | [], _, j, as, ρ, ρ1, Z, L, r, h, e => by
    cases h
    cases e
    exact ⟨Z, Le.refl Z, r, .nil, fun _ _ q => q, fun i d a q => by simp at q, fun i d q => by simp at q, rfl⟩
  | o :: os, _, j, as, ρ, ρ1, Z, L, r, h, e => by
    cases h with
    | @cons _ v _ vs hv hvs =>
    have shc : ∀ {d : D} {as' : List Sl} {Z0 : Hp} {ρ0 : List Sl}, Le Z Z0 → Rel C P ρ0 Z0 L σ H → Sub ρ0 ρ → Rep C Z0 d v → argsIn mv (j + 1) os ρ0 = some (as', ρ1) → as = .sh d :: as' → (∃ Z1, Le Z Z1 ∧ Rel C P ρ1 Z1 L σ H ∧ ArgR C Z1 L H as (v :: vs) ∧ Sub ρ1 ρ ∧ (∀ (i : Nat) (d : D) (a : Addr), as[i]? = some (.ow d) → (v :: vs)[i]? = some (.ref a) → ∀ (n : Nat) (e : D), ρ1[n]? = some (.ow e) → σ[n]? ≠ some (some (V.ref a))) ∧
      (∀ (i : Nat) (d : D), as[i]? = some (.ow d) → ∃ n, (o :: os)[i]? = some (.sl n) ∧ mv.contains (j + i) = true) ∧ as.length = (o :: os).length) := by
      intro d as' Z0 ρ0 l0 r0 sb0 hq q e
      subst e
      obtain ⟨Z1, l1, r1, ar, sb, na, mo, ln⟩ := argsIn_ok r0 (hvs.mono l0) q
      refine ⟨Z1, l0.trans l1, r1, .sh (hq.mono l1) ar, sb.trans sb0, fun i d a g1 g2 => ?_, fun i d g => ?_, congrArg Nat.succ ln⟩
      · cases i with
        | zero => simp at g1
        | succ i => exact na i d a (by simpa using g1) (by simpa using g2)
      · cases i with
        | zero => simp at g
        | succ i =>
          obtain ⟨n, h1, h3⟩ := mo i d (by simpa using g)
          exact ⟨n, by simpa using h1, by rw [show j + (i + 1) = j + 1 + i by omega]; exact h3⟩
    cases o with
    | val d =>
      simp only [argsIn] at e
      cases q : argsIn mv (j + 1) os ρ with
      | none => rw [q] at e; cases e
      | some p =>
        obtain ⟨as', ρ'⟩ := p
        rw [q] at e
        cases e
        exact shc (Le.refl Z) r (fun _ _ q => q) hv q rfl
    | sl n =>
      have hv : σ[n]? = some (some v) := hv
      simp only [argsIn] at e
      cases q0 : ρ[n]? with
      | none => rw [q0] at e; cases e
      | some s =>
        rw [q0] at e
        cases s with
        | un => cases e
        | sh d =>
          simp only at e
          cases q : argsIn mv (j + 1) os ρ with
          | none => rw [q] at e; cases e
          | some p =>
            obtain ⟨as', ρ'⟩ := p
            rw [q] at e
            cases e
            obtain ⟨u, hu, qu⟩ := r.sl n _ _ q0 hv
            cases hu
            exact shc (Le.refl Z) r (fun _ _ q => q) qu q rfl
        | ow d =>
          simp only at e
          by_cases hm : mv.contains j = true
          · rw [if_pos hm] at e
            cases q : argsIn mv (j + 1) os (ρ.set n .un) with
            | none => rw [q] at e; cases e
            | some p =>
              obtain ⟨as', ρ'⟩ := p
              rw [q] at e
              cases e
              obtain ⟨a, ha, _, _⟩ := r.sl n _ _ q0 hv
              cases ha
              obtain ⟨oa, la, ob, ho, r0⟩ := r.lend q0 hv
              have ll : Le L (upd L a ob) := Le.upd la
              obtain ⟨Z1, l1, r1, ar, sb, na, mo, ln⟩ := argsIn_ok r0 hvs q
              have zn : Z1 a = none := by
                cases z : Z1 a with
                | none => rfl
                | some o =>
                  have := r1.zl a o z
                  rw [upd_same] at this; cases this
              have other : ∀ (i : Nat) (e : D), as'[i]? = some (.ow e) → vs[i]? ≠ some (V.ref a) := fun i e g z => by
                obtain ⟨b, hb, _, hl⟩ := ar.at i _ _ g z
                cases hb
                rw [upd_same] at hl; cases hl
              have nota : ∀ (m : Nat) (e : D), ρ1[m]? = some (.ow e) → σ[m]? ≠ some (some (V.ref a)) := fun m e g z => by
                obtain ⟨b, hb, _, hl⟩ := r1.sl m _ _ g z
                cases hb
                rw [upd_same] at hl; cases hl
              refine ⟨Z1, l1, r1.lweak ll, .ow (oa.move l1 zn fun _ z => z) la other (ar.lweak ll), sb.trans (Sub.set fun d z => by cases z), fun i d b g1 g2 => ?_, fun i d g => ?_, congrArg Nat.succ ln⟩
              · cases i with
                | zero =>
                  simp only [List.getElem?_cons_zero, Option.some.injEq, V.ref.injEq] at g2
                  subst g2
                  exact nota
                | succ i => exact na i d b (by simpa using g1) (by simpa using g2)
              · cases i with
                | zero => exact ⟨n, rfl, hm⟩
                | succ i =>
                  obtain ⟨n, h1, h3⟩ := mo i d (by simpa using g)
                  exact ⟨n, by simpa using h1, by rw [show j + (i + 1) = j + 1 + i by omega]; exact h3⟩
          · rw [if_neg hm] at e
            cases q : argsIn mv (j + 1) os (ρ.set n (.sh d)) with
            | none => rw [q] at e; cases e
            | some p =>
              obtain ⟨as', ρ'⟩ := p
              rw [q] at e
              cases e
              obtain ⟨Z0, u, l0, r0, hu, qu⟩ := r.fzSlot q0
              rw [hv] at hu; cases hu
              exact shc l0 r0 (Sub.set fun d z => by cases z) qu q rfl
end
end L2.T
end

section
set_option Elab.async false
set_option linter.all false
set_option maxRecDepth 100000
set_option maxHeartbeats 4000000
set_option autoImplicit false
namespace L2.T
open PySem PySem.Spec PyProof.Rows

/-! ### what a def promises -/
structure Ent (C : Ct) (as : List Sl) (vs : List V) (Z L H : Hp) : Prop where
  zh : Le Z H
  lh : Le L H
  zl : ∀ a o, Z a = some o → L a = none
  ar : ArgR C Z L H as vs
  tb : TbOk C Z L H
/-- behind the call: what was moved in -/
def OutR (C : Ct) (as outs : List Sl) (vs : List V) (Z L H : Hp) : Prop := ∀ (j : Nat) (d : D) (s : Sl) (v : V), as[j]? = some (.ow d) → outs[j]? = some s → vs[j]? = some v → SlR C Z L H s (some v)
def RetR (C : Ct) (as outs : List Sl) (vs : List V) (Z L H : Hp) (fr : Bool) (d : D) (v : V) : Prop :=
  if fr = true then ∃ a, v = .ref a ∧ Own C Z H d a ∧ L a = none ∧ ∀ (j : Nat) (e e' : D), as[j]? = some (.ow e) → outs[j]? = some (.ow e') → vs[j]? ≠ some (V.ref a) else Rep C Z d v
structure Aft (C : Ct) (as outs : List Sl) (vs : List V) (Z L Z' H' : Hp) : Prop where
  le : Le Z Z'
  zh : Le Z' H'
  lh : Le L H'
  zl : ∀ a o, Z' a = some o → L a = none
  out : OutR C as outs vs Z' L H'
  tb : TbOk C Z' L H'
def spT (C : Ct) (cf : CF) (id : Nat) (fd : Fd) : Sp := fun vs H Q E => ∃ as Z L, Ent C as vs Z L H ∧ as.length = fd.n ∧ (∀ (j : Nat) (d : D), as[j]? = some (.ow d) → fd.mv.contains j = true) ∧
  (cf id as).wp (fun x outs => ∀ v H' Z', Aft C as outs vs Z L Z' H' → RetR C as outs vs Z' L H' x.1 x.2 v → Q v H') (fun x outs => ∀ cls dd H' Z', Aft C as outs vs Z L Z' H' → XRep C x cls dd → E cls dd H')

open Classical in
/-- what others own, and what this frame owns -/
noncomputable def Lx (L : Hp) (ρ : List Sl) (σ : St) (H : Hp) : Hp := fun a => if (∃ (i : Nat) (d : D), ρ[i]? = some (.ow d) ∧ σ[i]? = some (some (.ref a))) then H a else L a
section
variable {C : Ct} {P : List (Nat × V)} {ρ : List Sl} {Z L : Hp} {σ : St} {H : Hp}
theorem Rel.own (r : Rel C P ρ Z L σ H) {i : Nat} {d : D} {a : Addr} (h : ρ[i]? = some (.ow d)) (g : σ[i]? = some (some (.ref a))) : Own C Z H d a ∧ L a = none := by
  obtain ⟨b, hb, o, l⟩ := r.sl i _ _ h g
  cases hb
  exact ⟨o, l⟩
theorem Rel.lx_le (r : Rel C P ρ Z L σ H) : Le L (Lx L ρ σ H) := fun a o e => by
  unfold Lx
  rw [if_neg]
  · exact e
  · rintro ⟨i, d, h, g⟩
    rw [(r.own h g).2] at e; cases e
theorem Rel.lx_h (r : Rel C P ρ Z L σ H) : Le (Lx L ρ σ H) H := fun a o e => by
  unfold Lx at e
  split at e
  · exact e
  · exact r.lh a o e
theorem Rel.lx_z (r : Rel C P ρ Z L σ H) : ∀ a o, Z a = some o → Lx L ρ σ H a = none := fun a o e => by
  unfold Lx
  rw [if_neg]
  · exact r.zl a o e
  · rintro ⟨i, d, h, g⟩
    rw [(r.own h g).1.zn] at e; cases e
theorem Rel.lx_tb (r : Rel C P ρ Z L σ H) : TbOk C Z (Lx L ρ σ H) H := ⟨r.tb.tabs, r.tb.zn, fun p hp => by
  unfold Lx
  rw [if_neg]
  · exact r.tb.ln p hp
  · rintro ⟨i, d, h, g⟩
    obtain ⟨o, e, k⟩ := (r.own h g).1.kind
    exact r.tb.ne e k.1 p hp rfl, r.tb.zt, fun a o e => by
  unfold Lx at e
  split at e
  · rename_i w
    obtain ⟨i, d, h, g⟩ := w
    exact ((r.own h g).1.plnOf e).1
  · exact r.tb.lt a o e⟩
theorem Rel.lx_at (r : Rel C P ρ Z L σ H) {i : Nat} {d : D} {a : Addr} (h : ρ[i]? = some (.ow d)) (g : σ[i]? = some (some (.ref a))) : Lx L ρ σ H a = H a := by
  unfold Lx
  rw [if_pos ⟨i, d, h, g⟩]
theorem ArgR.lx {as : List Sl} {vs : List V} (ar : ArgR C Z L H as vs) (na : ∀ (i : Nat) (d : D) (a : Addr), as[i]? = some (.ow d) → vs[i]? = some (.ref a) → ∀ (n : Nat) (e : D), ρ[n]? = some (.ow e) → σ[n]? ≠ some (some (V.ref a))) : ArgR C Z (Lx L ρ σ H) H as vs := by
  induction ar with
  | nil => exact .nil
  | sh q r ih => exact .sh q (ih fun i d a g1 g2 => na (i + 1) d a (by simpa using g1) (by simpa using g2))
  | @ow d a as vs q l n r ih =>
    refine .ow q ?_ n (ih fun i d a g1 g2 => na (i + 1) d a (by simpa using g1) (by simpa using g2))
    unfold Lx
    rw [if_neg]
    · exact l
    · rintro ⟨m, e, h, g⟩
      exact na 0 d a rfl rfl m e h g
/-- what argsOut sets -/
theorem argsOut_get : ∀ {os : List Op} {as outs : List Sl} {ρ : List Sl} {i : Nat} {s : Sl}, (argsOut os as outs ρ)[i]? = some s → ρ[i]? = some s ∨ ∃ (j : Nat) (d : D), os[j]? = some (.sl i) ∧ as[j]? = some (.ow d) ∧ outs[j]? = some s
  | [], _, _, _, _, _, h => .inl (by simpa only [argsOut] using h)
  | o :: os, [], _, _, _, _, h => .inl (by cases o <;> simpa only [argsOut] using h)
  | o :: os, a :: as, [], _, _, _, h => .inl (by cases o <;> cases a <;> simpa only [argsOut] using h)
  | o :: os, a :: as, t :: outs, ρ, i, s, h => by
    have step : ∀ {ρ' : List Sl}, (argsOut os as outs ρ')[i]? = some s → ρ'[i]? = some s ∨ ∃ (j : Nat) (d : D), (o :: os)[j]? = some (.sl i) ∧ (a :: as)[j]? = some (.ow d) ∧ (t :: outs)[j]? = some s := fun {ρ'} q => by
      rcases argsOut_get q with q | ⟨j, d, h1, h2, h3⟩
      · exact .inl q
      · exact .inr ⟨j + 1, d, by simpa using h1, by simpa using h2, by simpa using h3⟩
    cases o with
    | val d => exact step (by simpa only [argsOut] using h)
    | sl n =>
      cases a with
      | un => exact step (by simpa only [argsOut] using h)
      | sh d => exact step (by simpa only [argsOut] using h)
      | ow d =>
        rcases step (ρ' := ρ.set n t) (by simpa only [argsOut] using h) with q | q
        · by_cases hn : n = i
          · subst hn
            by_cases hi : n < ρ.length
            · rw [List.getElem?_set_self hi] at q
              exact .inr ⟨0, d, rfl, rfl, by simpa using q⟩
            · rw [List.getElem?_eq_none (by simpa using hi)] at q; cases q
          · rw [List.getElem?_set_ne hn] at q
            exact .inl q
        · exact .inr q
theorem argsOut_len : ∀ {os : List Op} {as outs : List Sl} {ρ : List Sl}, (argsOut os as outs ρ).length = ρ.length
  | [], _, _, _ => by simp only [argsOut]
  | o :: os, [], _, _ => by cases o <;> simp only [argsOut]
  | o :: os, a :: as, [], _ => by cases o <;> cases a <;> simp only [argsOut]
  | o :: os, a :: as, t :: outs, ρ => by
    cases o with
    | val d => simp only [argsOut]; exact argsOut_len
    | sl n =>
      cases a with
      | un => simp only [argsOut]; exact argsOut_len
      | sh d => simp only [argsOut]; exact argsOut_len
      | ow d => simp only [argsOut]; rw [argsOut_len, List.length_set]
theorem OpVs.at {os : List Op} {vs : List V} (h : OpVs C Z σ os vs) : ∀ (j : Nat) (i : Nat), os[j]? = some (.sl i) → ∃ v, vs[j]? = some v ∧ σ[i]? = some (some v) := by
  induction h with
  | nil => intro j i e; simp at e
  | @cons o v os vs q r ih =>
    intro j i e
    cases j with
    | zero =>
      simp at e; subst e
      exact ⟨v, rfl, q⟩
    | succ j =>
      obtain ⟨w, h1, h2⟩ := ih j i (by simpa using e)
      exact ⟨w, by simpa using h1, h2⟩
/-- the frame behind a call -/
theorem Rel.behind {os : List Op} {vs : List V} {as outs : List Sl} {Z' H' : Hp} (r : Rel C P ρ Z L σ H) (ov : OpVs C Z σ os vs) (ar : ArgR C Z L H as vs) (na : ∀ (i : Nat) (d : D) (a : Addr), as[i]? = some (.ow d) → vs[i]? = some (.ref a) → ∀ (n : Nat) (e : D), ρ[n]? = some (.ow e) → σ[n]? ≠ some (some (V.ref a)))
    (af : Aft C as outs vs Z (Lx L ρ σ H) Z' H') : Rel C P (argsOut os as outs ρ) Z' L σ H' := by
  have lf : ∀ a, Lx L ρ σ H a = none → L a = none := fun a h => by
    cases q : L a with
    | none => rfl
    | some o => rw [r.lx_le a o q] at h; cases h
  have keep : ∀ {i : Nat} {d : D} {a : Addr}, ρ[i]? = some (.ow d) → σ[i]? = some (some (.ref a)) → Own C Z' H' d a ∧ L a = none := fun {i d a} h g => by
    obtain ⟨o, l⟩ := r.own h g
    obtain ⟨ob, hob⟩ := o.here
    have e : Lx L ρ σ H a = some ob := (r.lx_at h g).trans hob
    refine ⟨o.move af.le ?_ fun u hu => by rw [hob] at hu; cases hu; exact af.lh a ob e, l⟩
    cases q : Z' a with
    | none => rfl
    | some u => rw [af.zl a u q] at e; cases e
  have moved : ∀ {i j : Nat} {d : D} {s : Sl}, os[j]? = some (.sl i) → as[j]? = some (.ow d) → outs[j]? = some s → ∃ a, vs[j]? = some (V.ref a) ∧ σ[i]? = some (some (V.ref a)) ∧ SlR C Z' (Lx L ρ σ H) H' s (some (V.ref a)) := fun {i j d s} h1 h2 h3 => by
    obtain ⟨v, hv, hσ⟩ := ov.at j i h1
    obtain ⟨a, ha, _⟩ := ar.at j _ _ h2 hv
    cases ha
    exact ⟨a, hv, hσ, af.out j d s _ h2 h3 hv⟩
  refine ⟨af.zh, r.lx_le.trans af.lh, fun a o h => lf a (af.zl a o h), by rw [argsOut_len]; exact r.len, fun i s v g1 g2 => ?_, fun i j d e a g1 g2 g3 g4 => ?_, r.pin, af.tb.sub r.lx_le⟩
  · rcases argsOut_get g1 with g | ⟨j, d, h1, h2, h3⟩
    · have q := r.sl i s v g g2
      cases s with
      | un => trivial
      | sh d => obtain ⟨u, hu, q⟩ := q; exact ⟨u, hu, q.mono af.le⟩
      | ow d =>
        obtain ⟨a, ha, _⟩ := q
        subst ha
        obtain ⟨k1, k2⟩ := keep g g2
        exact ⟨a, rfl, k1, k2⟩
    · obtain ⟨a, hv, hσ, q⟩ := moved h1 h2 h3
      rw [hσ] at g2; cases g2
      cases s with
      | un => trivial
      | sh d => exact q
      | ow d => obtain ⟨b, hb, q1, q2⟩ := q; exact ⟨b, hb, q1, lf b q2⟩
  · rcases argsOut_get g1 with g | ⟨m, d1, h1, h2, h3⟩
    · rcases argsOut_get g2 with g' | ⟨m', d1', h1', h2', h3'⟩
      · exact r.ap i j d e a g g' g3 g4
      · obtain ⟨b, hv, hσ, q⟩ := moved h1' h2' h3'
        rw [hσ] at g4; cases g4
        exact absurd g3 (na m' d1' a h2' hv i d g)
    · obtain ⟨b, hv, hσ, q⟩ := moved h1 h2 h3
      rw [hσ] at g3; cases g3
      rcases argsOut_get g2 with g' | ⟨m', d1', h1', h2', h3'⟩
      · exact absurd g4 (na m d1 a h2 hv j e g')
      · obtain ⟨b', hv', hσ', q'⟩ := moved h1' h2' h3'
        rw [hσ'] at g4; cases g4
        have em := ar.ap m m' d1 d1' a h2 h2' hv hv'
        subst em
        rw [h1] at h1'
        cases h1'
        rfl
theorem RetR.behind {os : List Op} {vs : List V} {as outs : List Sl} {Z' H' : Hp} {fr : Bool} {d : D} {v : V} (r : Rel C P ρ Z L σ H) (ov : OpVs C Z σ os vs) (ar : ArgR C Z L H as vs) (af : Aft C as outs vs Z (Lx L ρ σ H) Z' H')
    (h : RetR C as outs vs Z' (Lx L ρ σ H) H' fr d v) : RepR C (argsOut os as outs ρ) Z' L σ H' fr d v := by
  cases fr with
  | false => exact h
  | true =>
    obtain ⟨a, rfl, o, l, n⟩ : ∃ a, v = .ref a ∧ Own C Z' H' d a ∧ Lx L ρ σ H a = none ∧ ∀ (j : Nat) (e e' : D), as[j]? = some (.ow e) → outs[j]? = some (.ow e') → vs[j]? ≠ some (V.ref a) := h
    refine ⟨a, rfl, o, ?_, fun i e g z => ?_⟩
    · cases q : L a with
      | none => rfl
      | some u => rw [r.lx_le a u q] at l; cases l
    · rcases argsOut_get g with g | ⟨j, d1, h1, h2, h3⟩
      · obtain ⟨o1, _⟩ := r.own g z
        obtain ⟨ob, hob⟩ := o1.here
        rw [r.lx_at g z, hob] at l; cases l
      · obtain ⟨w, hv, hσ⟩ := ov.at j i h1
        rw [hσ] at z; cases z
        exact n j d1 e h2 h3 hv
end

/-! ### the call -/
section
variable {X : Cx} {C : Ct} {W : WX} {T : Nat → Option Fd} {cf : CF} {x : Str} {p pos : Pos} {es : List Expr} {fs : List Sl → R (List Op)} {k : Nat} {f : Addr} {fd : FuncData} {ps : List Str} {fdT : Fd} {id : Nat}
theorem rd_call {P : List (Nat × V)} {ρ : List Sl} {Z L : Hp} {σ : St} {H : Hp} {Q : VK} {os : List Op} {vs : List V} (hT : T id = some fdT) (r : Rel C P ρ Z L σ H) (ov : OpVs C Z σ os vs) (hl : os.length = fdT.n)
    (q : Cont C W P Z L σ (callOp T cf id os ρ) fun x ρ' Z' H' => ∀ v, RepR C ρ' Z' L σ H' x.1 x.2 v → Q v H') : spT C cf id fdT vs H Q (WE W σ) := by
  unfold callOp at q
  rw [hT] at q
  simp only at q
  cases ea : argsIn fdT.mv 0 os ρ with
  | none => rw [ea] at q; exact q.elim
  | some pr =>
    obtain ⟨as, ρ1⟩ := pr
    rw [ea] at q
    simp only at q
    obtain ⟨Z1, l1, r1, ar, sb, na, mo, ln⟩ := argsIn_ok r ov ea
    have ov1 := ov.mono l1
    refine ⟨as, Z1, Lx L ρ1 σ H, ⟨r1.zh, r1.lx_h, r1.lx_z, ar.lx na, r1.lx_tb⟩, by rw [ln]; exact hl, fun j d h => ?_, ?_⟩
    · obtain ⟨n, _, h⟩ := mo j d h
      rw [Nat.zero_add] at h
      exact h
    · cases ec : cf id as with
      | stuck => rw [ec] at q; exact q.elim
      | ok y outs =>
        rw [ec] at q
        intro v H' Z' af hv
        exact q Z' H' (l1.trans af.le) (r1.behind ov1 ar na af) v (hv.behind r1 ov1 ar af)
      | ex y outs =>
        rw [ec] at q
        intro cls dd H' Z' af hx
        exact q cls dd Z' H' (l1.trans af.le) (r1.behind ov1 ar na af) hx
theorem pe_callT {e : Expr} (kx : Cxk X C W) (hT : T id = some fdT) (hlen : (e :: es).length = fdT.n) (F : FnG X.prog X.w X.K X.mg X.base k f fd ps (spT C cf id fdT)) (hr : Room k X.A) (gl : Gl X x) (hm : X.mg x = some (.ref f)) (hk : PySem.W.keepIn X.K (.ref f) = true) (hb : Binds X.K fd ps [])
    (hdb : (x == ("__debug__" : Str)) = false) (ha : PA X (e :: es) (rdA C W fs)) (hfs : ∀ ρ os ρ', fs ρ = .ok os ρ' → os.length = (e :: es).length) (he : starEach (e :: es) X.env = (false, eval e X.env) :: starEach es X.env) (hpl : (backTo pos (starEach es X.env)).any (·.1) = false) :
    PE X (.Call (.Name x p) (e :: es) [] pos) (rdE C W fun ρ => (fs ρ).bind fun os ρ1 => callOp T cf id os ρ1) := by
  refine PE.imp (pe_callG F hr kx.gd kx.tk gl hm hk hb hdb ha he hpl) fun σ H Q ⟨P, ρ, Z, L, r, q⟩ => ⟨P, ρ, Z, L, r, ?_⟩
  have hl := hfs ρ
  have q := q.bind
  revert q hl
  cases fs ρ with
  | ok os ρ1 => exact fun hl q Z1 H1 l1 r1 vs hvs => rd_call hT r1 hvs ((hl os ρ1 rfl).trans hlen) (q Z1 H1 l1 r1)
  | ex y ρ1 => exact fun _ q => q
  | stuck => exact fun _ q => q
theorem pe_callT0 (kx : Cxk X C W) (hT : T id = some fdT) (hlen : fdT.n = 0) (F : FnG X.prog X.w X.K X.mg X.base k f fd ps (spT C cf id fdT)) (hr : Room k X.A) (gl : Gl X x) (hm : X.mg x = some (.ref f)) (hk : PySem.W.keepIn X.K (.ref f) = true) (hb : Binds X.K fd ps [])
    (hdb : (x == ("__debug__" : Str)) = false) : PE X (.Call (.Name x p) [] [] pos) (rdE C W fun ρ => (R.ok [] ρ).bind fun os ρ1 => callOp T cf id os ρ1) := by
  refine PE.imp (pe_callG0 F hr kx.gd kx.tk gl hm hk hb hdb) fun σ H Q ⟨P, ρ, Z, L, r, q⟩ => ?_
  exact rd_call (os := []) (vs := []) hT r .nil hlen.symm q
end
end L2.T
end

section
set_option Elab.async false
set_option linter.all false
set_option maxRecDepth 100000
set_option maxHeartbeats 4000000
set_option autoImplicit false
namespace L2.T
open PySem PySem.Spec PyProof.Rows
section
variable {prog : Program} {w : World} {A : Around} {E : Value → Shared → Prop} {s : Shared}
/-- a tuple's items collected -/
theorem collect_tup {l : Addr} {vs : List Value} {o : Obj} {n : Nat} {Q : List Value → Shared → Prop} (ho : s.heap.get? l = some o) (hc : o.cls = .type "tuple") (hd : o.data = .seq vs.toArray n) (hz : vs.length ≤ sizeLine)
    (h : Q vs { s with heap := (s.heap.push (seqObj "list" #[] 0)).update s.heap.objs.size (Obj.mapSeq (· ++ vs.toArray)) }) : wpAny (model prog w) A (collect (.ref l)) Q E s := by
  unfold collect
  refine wpAny_bind (wpAny_runValue (codeAny_builtin entry_proto_collect' ?_))
  show wpAny _ _ (do again (.builtin "list.__iadd__" ⟨[← newList [], .ref l], []⟩)) _ _ _
  refine wpAny_bind (wpAny_newList (wpAny_pure ⟨Code.quiet_builtin _ (by decide +kernel), codeAny_builtin entry_list_iadd' ?_⟩))
  show wpAny _ _ (Builtin.List.listExtendWith (.ref s.heap.objs.size) (.ref l) (.ref s.heap.objs.size)) _ _ _
  unfold Builtin.List.listExtendWith
  have got : (s.heap.push (seqObj "list" #[] 0)).get? l = some o := Heap.get?_push_of_some _ ho
  refine wpAny_bind (wpAny_typeOf (T := "tuple") ⟨o, got, hc⟩ ?_)
  have tt : (Value.type "tuple" == Value.type "tuple") = true := by rfl
  rw [if_pos (by rw [tt]; simp)]
  refine wpAny_bind (listItems_at got hd ?_)
  refine wpAny_bind (listItems_at (xs := #[]) (n := 0) (Heap.get?_push_size _ rfl) rfl ?_)
  rw [if_neg (by simp)]
  have few : (#[] ++ vs.toArray : Array Value).size ≤ sizeLine + 1 := by
    simp only [Array.size_append, List.size_toArray, List.length_nil]
    omega
  refine wpAny_bind (listUpdate_at (xs := #[]) (n := 0) (Heap.get?_push_size _ rfl) rfl ?_ (Nat.zero_le _) few)
  refine wpAny_pure ?_
  refine wpAny_bind (wpAny_load (get?_update_seq (Heap.get?_push_size _ rfl) _) ?_)
  show wpAny _ _ (pure ((#[] : Array Value) ++ vs.toArray).toList) _ _ _
  rw [show ((#[] : Array Value) ++ vs.toArray).toList = vs by simp]
  exact wpAny_pure h
open SrtO in
theorem sorted_tup {l : Addr} {vs : List Value} {o : Obj} {n : Nat} {ltv : Value → Value → Bool} {Q : Value → Shared → Prop} (O : Swo ltv) (ho : s.heap.get? l = some o) (hc : o.cls = .type "tuple") (hd : o.data = .seq vs.toArray n) (hz : vs.length ≤ sizeLine)
    (hS : 2 ≤ vs.length → ∀ (h1 : Heap) (a : Addr), h1.get? a = some (seqObj "list" vs.toArray 0) → (∀ b o, s.heap.get? b = some o → b ≠ a ∧ h1.get? b = some o) → SortableO prog w A.in1.in1 { s with heap := h1 } a vs ltv)
    (h : ∀ out : List Value, Srtd ltv out → Stb ltv out vs → Q (.ref (s.heap.objs.size + 1)) { s with heap := sortedAll s.heap vs out.toArray }) : wpAny (model prog w) A (call (.builtin "sorted") [.ref l]) Q E s := by
  refine Calls.call_function_entry kind_sorted plain_sorted entry_sorted (args_sorted1 _) ?_
  unfold Builtin.«sorted»
  refine wpAny_bind (m := checkCount "sorted" 1 1 _) (wpAny_pure (wpAny_bind (collect_tup ho hc hd hz (wpAny_bind (wpAny_newList ?_ hz)))))
  let g : Heap := (s.heap.push (seqObj "list" #[] 0)).update s.heap.objs.size (Obj.mapSeq (· ++ vs.toArray))
  have sz : g.objs.size = s.heap.objs.size + 1 := by
    show ((s.heap.push (seqObj "list" #[] 0)).update s.heap.objs.size (Obj.mapSeq (· ++ vs.toArray))).objs.size = _
    rw [Heap.size_update, size_push']
  have at1 : (g.push (seqObj "list" vs.toArray 0)).get? (s.heap.objs.size + 1) = some (seqObj "list" vs.toArray 0) := by
    rw [← sz]
    exact Heap.get?_push_size _ rfl
  have old : ∀ b o, s.heap.get? b = some o → b ≠ s.heap.objs.size + 1 ∧ (g.push (seqObj "list" vs.toArray 0)).get? b = some o := fun b o q => by
    have lt := Heap.lt_size q
    refine ⟨Nat.ne_of_lt (Nat.lt_succ_of_lt lt), Heap.get?_push_of_some _ ?_⟩
    show ((s.heap.push (seqObj "list" #[] 0)).update s.heap.objs.size (Obj.mapSeq (· ++ vs.toArray))).get? b = _
    rw [Heap.get?_update_ne _ _ _ _ (Nat.ne_of_lt lt)]
    exact Heap.get?_push_of_some _ q
  show wpAny _ _ _ _ _ { s with heap := g.push (seqObj "list" vs.toArray 0) }
  rw [sz]
  refine wpAny_bind (wpAny_holding (wpAny_call_entry slot_list_sort ⟨_, at1, rfl⟩ entry_list_sort (list_sort_ord O at1 hz (fun h2 => hS h2 _ _ at1 old) fun out hs hb => ⟨_, rfl, ?_⟩) (args_list_sort _)))
  exact wpAny_pure ⟨_, rfl, h out hs hb⟩
end
end L2.T
end

section
set_option Elab.async false
set_option linter.all false
set_option maxRecDepth 100000
set_option maxHeartbeats 4000000
set_option autoImplicit false
namespace L2.T
open PySem PySem.Spec PyProof.Rows
/-! ### calls with keywords -/
section
variable {X : Cx} {C : Ct} {W : WX} {a : Expr} {ea : E} {fa : Ev}
theorem pk_nilA : PK X [] (rdA C W fun ρ => .ok [] ρ) := ⟨fun p pins s σ H Q I ⟨P, ρ, Z, L, r, q⟩ => pk_nil.run p pins s σ H Q I (q Z H (Le.refl _) r [] .nil)⟩
theorem pk_consA {nm : Option Str} {kpos : Pos} {kws : List Keyword} {fs : List Sl → R (List Op)} (ha : PE X a (rdO C W (opOf ea fa))) (hr : PK X kws (rdA C W fs)) :
    PK X (⟨nm, a, kpos⟩ :: kws) (rdA C W fun ρ => (opOf ea fa ρ).bind fun o ρ1 => (fs ρ1).bind fun os ρ2 => .ok (o :: os) ρ2) := by
  refine ⟨fun p pins s σ H Q I ⟨P, ρ, Z, L, r, q⟩ => (pk_cons ha hr).run p pins s σ H Q I ⟨P, ρ, Z, L, r, q.bind.mono fun o ρ1 Z1 H1 l1 r1 q1 v hv => ⟨P, ρ1, Z1, L, r1, q1.bind.mono fun os ρ2 Z2 H2 l2 r2 q2 vs hvs => ?_⟩⟩⟩
  exact q2 Z2 H2 (Le.refl _) r2 (v :: vs) (.cons (hv.mono l2) hvs)
end
/-- the values in the parameters' order: those written, by their places, and defaults -/
inductive PmV (C : Ct) (Z : Hp) : List (Sum Nat D) → List V → List V → Prop
  | nil {xs} : PmV C Z [] xs []
  | ix {i v pm xs ys} : xs[i]? = some v → PmV C Z pm xs ys → PmV C Z (.inl i :: pm) xs (v :: ys)
  | cn {d v pm xs ys} : Rep C Z d v → PmV C Z pm xs ys → PmV C Z (.inr d :: pm) xs (v :: ys)
theorem OpVs.len {C : Ct} {Z : Hp} {σ : St} {os : List Op} {vs : List V} (h : OpVs C Z σ os vs) : os.length = vs.length := by
  induction h with
  | nil => rfl
  | cons _ _ ih => rw [List.length_cons, List.length_cons, ih]
theorem OpVs.app {C : Ct} {Z : Hp} {σ : St} {os zs : List Op} {vs ws : List V} (h : OpVs C Z σ os vs) (g : OpVs C Z σ zs ws) : OpVs C Z σ (os ++ zs) (vs ++ ws) := by
  induction h with
  | nil => exact g
  | cons q _ ih => exact .cons q ih
theorem OpVs.pick {C : Ct} {Z : Hp} {σ : St} {os : List Op} {vs : List V} (h : OpVs C Z σ os vs) : ∀ {i : Nat} {o : Op}, os[i]? = some o → ∃ v, vs[i]? = some v ∧ OpV C Z σ o v := by
  induction h with
  | nil => intro i o e; simp at e
  | @cons o v os vs q r ih =>
    intro i o' e
    cases i with
    | zero =>
      simp at e
      subst e
      exact ⟨v, rfl, q⟩
    | succ i =>
      obtain ⟨w, h1, h2⟩ := ih (i := i) (o := o') (by simpa using e)
      exact ⟨w, by simpa using h1, h2⟩
theorem pm_ok {C : Ct} {Z : Hp} {σ : St} {os : List Op} {xs : List V} (h : OpVs C Z σ os xs) : ∀ {pm : List (Sum Nat D)} {ys : List V} {os' : List Op}, PmV C Z pm xs ys → pmO pm os = some os' → OpVs C Z σ os' ys
  | _, _, _, .nil, e => by cases e; exact .nil
  | _, _, os', .ix (i := i) (v := v) (pm := pm) hv r, e => by
    unfold pmO at e
    cases e1 : os[i]? with
    | none => rw [e1] at e; cases e
    | some o =>
      cases e2 : pmO pm os with
      | none => rw [e1, e2] at e; cases e
      | some os2 =>
        rw [e1, e2] at e
        cases e
        obtain ⟨w, h1, h2⟩ := h.pick e1
        rw [hv] at h1
        cases h1
        exact .cons h2 (pm_ok h r e2)
  | _, _, os', .cn (d := d) (v := v) (pm := pm) hv r, e => by
    unfold pmO at e
    cases e2 : pmO pm os with
    | none => rw [e2] at e; cases e
    | some os2 =>
      rw [e2] at e
      cases e
      exact .cons hv (pm_ok h r e2)
theorem PmV.len {C : Ct} {Z : Hp} {pm : List (Sum Nat D)} {xs ys : List V} (h : PmV C Z pm xs ys) : ys.length = pm.length := by
  induction h with
  | nil => rfl
  | ix _ _ ih => rw [List.length_cons, List.length_cons, ih]
  | cn _ _ ih => rw [List.length_cons, List.length_cons, ih]
/-- how a def is called with n values and keywords named ks -/
structure KwB (C : Ct) (K : PySem.W.Frag) (fd : FuncData) (ps : List Str) (n : Nat) (ks : List Str) (pm : List (Sum Nat D)) : Prop where
  ex : ∃ g gV, KBn K fd ps n ks g gV ∧ ∀ (Z : Hp) (vs zs : List V), vs.length = n → zs.length = ks.length → PmV C Z pm (vs ++ zs) (gV vs zs)
def kwNames (kws : List Keyword) : List (Option Str) := kws.map (·.arg)
theorem kw_names {env : Env} {pos : Pos} : ∀ {kws : List Keyword}, (backToKw pos (keywordEach kws env)).map (·.1) = kwNames kws
  | [] => rfl
  | ⟨nm, val, kp⟩ :: kws => by
    have ih := kw_names (env := env) (pos := pos) (kws := kws)
    show nm :: (backToKw pos (keywordEach kws env)).map (·.1) = nm :: kwNames kws
    rw [ih]
theorem kw_all {α : Type} {xs : List (Option Str × α)} {ks : List Str} (h : xs.map (·.1) = ks.map some) : xs.all (·.1.isSome) = true ∧ xs.filterMap (·.1) = ks ∧ xs.any (·.1.isNone) = false := by
  induction xs generalizing ks with
  | nil =>
    cases ks with
    | nil => exact ⟨rfl, rfl, rfl⟩
    | cons k ks => cases h
  | cons x xs ih =>
    cases ks with
    | nil => cases h
    | cons k ks =>
      simp only [List.map_cons, List.cons.injEq] at h
      obtain ⟨h1, h2, h3⟩ := ih h.2
      refine ⟨by simp only [List.all_cons, h.1, Option.isSome_some, h1, Bool.and_self], ?_, by simp only [List.any_cons, h.1, Option.isNone_some, h3, Bool.or_self]⟩
      rw [List.filterMap_cons_some h.1, h2]
section
variable {X : Cx} {k : Nat} {f : Addr} {fd : FuncData} {ps ks : List Str} {sp : Sp} {W : WX} {x : Str} {p pos : Pos} {e : Expr} {es : List Expr} {kws : List Keyword} {t tk : TA} {n : Nat} {g : List Value → List Value → List Value} {gV : List V → List V → List V}
def tCallGK (sp : Sp) (gV : List V → List V → List V) (n m : Nat) (W : WX) (t tk : TA) : TE := fun σ H Q => t σ H fun vs H1 => tk σ H1 fun zs H2 => vs.length = n ∧ zs.length = m ∧ sp (gV vs zs) H2 Q (WE W σ)
theorem pe_callGK (F : FnG X.prog X.w X.K X.mg X.base k f fd ps sp) (hr : Room k X.A) (hg : X.A.guards = some []) (tk' : Takes X W) (gl : Gl X x) (hm : X.mg x = some (.ref f)) (hk : PySem.W.keepIn X.K (.ref f) = true) (hb : KBn X.K fd ps n ks g gV) (hdb : (x == ("__debug__" : Str)) = false) (hn : kwNames kws = ks.map some)
    (ha : PA X (e :: es) t) (hkw : PK X kws tk) (he : starEach (e :: es) X.env = (false, eval e X.env) :: starEach es X.env) (hpl : (backTo pos (starEach (e :: es) X.env)).any (·.1) = false) : PE X (.Call (.Name x p) (e :: es) kws pos) (tCallGK sp gV n ks.length W t tk) := by
  obtain ⟨a1, a2, a3⟩ := kw_all (xs := backToKw pos (keywordEach kws X.env)) (ks := ks) (by rw [kw_names, hn])
  refine ⟨fun pins s σ H Q I h => wpAny_Call_Name_kw (ld_glob I gl hm ?_ hdb)⟩
  refine PySem.W.callWith_KW (h₀ := X.base) I.ok.mod.kin hk a1 (thn (ha.run pos pins s σ H _ I h) fun us s1 ⟨vs, H1, I1, r, q⟩ => ?_) (by rw [hpl, a3]; rfl) he
  refine thn (hkw.run pos pins s1 σ H1 _ I1 q) fun ws s2 ⟨zs, H2, I2, rz, q1, q2, q3⟩ => ⟨I2.kIn, wpAny_call ?_⟩
  rw [a2]
  exact run_G F hr hg tk' I2 (hb.to s2 us ws I2.kIn (by rw [← r.length]; exact q1) (by rw [← rz.length]; exact q2)) (hb.rel r rz) q3
theorem pe_callGK0 (F : FnG X.prog X.w X.K X.mg X.base k f fd ps sp) (hr : Room k X.A) (hg : X.A.guards = some []) (tk' : Takes X W) (gl : Gl X x) (hm : X.mg x = some (.ref f)) (hk : PySem.W.keepIn X.K (.ref f) = true) (hb : KBn X.K fd ps n ks g gV) (hdb : (x == ("__debug__" : Str)) = false) (hn : kwNames kws = ks.map some)
    (hkw : PK X kws tk) : PE X (.Call (.Name x p) [] kws pos) (tCallGK sp gV n ks.length W tNil tk) := by
  obtain ⟨a1, a2, a3⟩ := kw_all (xs := backToKw pos (keywordEach kws X.env)) (ks := ks) (by rw [kw_names, hn])
  refine ⟨fun pins s σ H Q I h => wpAny_Call_Name_kw (ld_glob I gl hm ?_ hdb)⟩
  refine PySem.W.callWith_KW0 (h₀ := X.base) I.ok.mod.kin hk a1 ?_ (by rw [a3]; rfl)
  refine thn (hkw.run pos pins s σ H _ I h) fun ws s2 ⟨zs, H2, I2, rz, q1, q2, q3⟩ => ⟨I2.kIn, wpAny_call ?_⟩
  rw [a2]
  exact run_G (vs := gV [] zs) F hr hg tk' I2 (hb.to s2 [] ws I2.kIn q1 (by rw [← rz.length]; exact q2)) (hb.rel .nil rz) q3
end
section
variable {X : Cx} {C : Ct} {W : WX} {T : Nat → Option Fd} {cf : CF} {x : Str} {p pos : Pos} {es : List Expr} {kws : List Keyword} {fs fk : List Sl → R (List Op)} {k : Nat} {f : Addr} {fd : FuncData} {ps ks : List Str} {fdT : Fd} {id n : Nat} {pm : List (Sum Nat D)}
theorem pe_callKT {e : Expr} (kx : Cxk X C W) (hT : T id = some fdT) (hlen : (e :: es).length = n) (hpm : pm.length = fdT.n) (F : FnG X.prog X.w X.K X.mg X.base k f fd ps (spT C cf id fdT)) (hr : Room k X.A) (gl : Gl X x) (hm : X.mg x = some (.ref f)) (hk : PySem.W.keepIn X.K (.ref f) = true) (hb : KwB C X.K fd ps n ks pm)
    (hdb : (x == ("__debug__" : Str)) = false) (hn : kwNames kws = ks.map some) (ha : PA X (e :: es) (rdA C W fs)) (hkw : PK X kws (rdA C W fk)) (hfs : ∀ ρ os ρ', fs ρ = .ok os ρ' → os.length = n) (hfk : ∀ ρ os ρ', fk ρ = .ok os ρ' → os.length = ks.length)
    (he : starEach (e :: es) X.env = (false, eval e X.env) :: starEach es X.env) (hpl : (backTo pos (starEach (e :: es) X.env)).any (·.1) = false) :
    PE X (.Call (.Name x p) (e :: es) kws pos) (rdE C W fun ρ => (fs ρ).bind fun os ρ1 => (fk ρ1).bind fun zs ρ2 => match pmO pm (os ++ zs) with
      | some os' => callOp T cf id os' ρ2
      | none => .stuck) := by
  obtain ⟨g, gV, kb, hv⟩ := hb.ex
  refine PE.imp (pe_callGK F hr kx.gd kx.tk gl hm hk kb hdb hn ha hkw he hpl) fun σ H Q ⟨P, ρ, Z, L, r, q⟩ => ⟨P, ρ, Z, L, r, ?_⟩
  have hl := hfs ρ
  have q := q.bind
  revert q hl
  cases fs ρ with
  | ex y ρ1 => exact fun _ q => q
  | stuck => exact fun _ q => q
  | ok os ρ1 =>
    intro hl q Z1 H1 l1 r1 vs hvs
    have q := q Z1 H1 l1 r1
    refine ⟨P, ρ1, Z1, L, r1, ?_⟩
    have hl2 := hfk ρ1
    have q := q.bind
    revert q hl2
    cases fk ρ1 with
    | ex y ρ2 => exact fun _ q => q
    | stuck => exact fun _ q => q
    | ok zs ρ2 =>
      intro hl2 q Z2 H2 l2 r2 ws hws
      have q := q Z2 H2 l2 r2
      have e1 : vs.length = n := by rw [← hvs.len]; exact hl os ρ1 rfl
      have e2 : ws.length = ks.length := by rw [← hws.len]; exact hl2 zs ρ2 rfl
      refine ⟨e1, e2, ?_⟩
      cases ep : pmO pm (os ++ zs) with
      | none => simp only [ep] at q; exact q.elim
      | some os' =>
        simp only [ep] at q
        have hp := hv Z2 vs ws e1 e2
        have ov := pm_ok ((hvs.mono l2).app hws) hp ep
        refine rd_call hT r2 ov ?_ q
        rw [ov.len, hp.len, hpm]
theorem pe_callKT0 (kx : Cxk X C W) (hT : T id = some fdT) (hlen : n = 0) (hpm : pm.length = fdT.n) (F : FnG X.prog X.w X.K X.mg X.base k f fd ps (spT C cf id fdT)) (hr : Room k X.A) (gl : Gl X x) (hm : X.mg x = some (.ref f)) (hk : PySem.W.keepIn X.K (.ref f) = true) (hb : KwB C X.K fd ps n ks pm)
    (hdb : (x == ("__debug__" : Str)) = false) (hn : kwNames kws = ks.map some) (hkw : PK X kws (rdA C W fk)) (hfk : ∀ ρ os ρ', fk ρ = .ok os ρ' → os.length = ks.length) :
    PE X (.Call (.Name x p) [] kws pos) (rdE C W fun ρ => (R.ok [] ρ).bind fun os ρ1 => (fk ρ1).bind fun zs ρ2 => match pmO pm (os ++ zs) with
      | some os' => callOp T cf id os' ρ2
      | none => .stuck) := by
  obtain ⟨g, gV, kb, hv⟩ := hb.ex
  refine PE.imp (pe_callGK0 F hr kx.gd kx.tk gl hm hk kb hdb hn hkw) fun σ H Q ⟨P, ρ, Z, L, r, q⟩ => ?_
  show rdA C W fk σ H _
  refine ⟨P, ρ, Z, L, r, ?_⟩
  have hl2 := hfk ρ
  have q : Cont C W P Z L σ ((fk ρ).bind fun zs ρ2 => match pmO pm ([] ++ zs) with
      | some os' => callOp T cf id os' ρ2
      | none => .stuck) _ := q
  have q := q.bind
  revert q hl2
  cases fk ρ with
  | ex y ρ2 => exact fun _ q => q
  | stuck => exact fun _ q => q
  | ok zs ρ2 =>
    intro hl2 q Z2 H2 l2 r2 ws hws
    have q := q Z2 H2 l2 r2
    have e2 : ws.length = ks.length := by rw [← hws.len]; exact hl2 zs ρ2 rfl
    refine ⟨hlen.symm, e2, ?_⟩
    simp only [List.nil_append] at q
    cases ep : pmO pm zs with
    | none => simp only [ep] at q; exact q.elim
    | some os' =>
      simp only [ep] at q
      have hp := hv Z2 [] ws hlen.symm e2
      have ov := pm_ok hws hp ep
      refine rd_call hT r2 ov ?_ q
      rw [ov.len, hp.len, hpm]
end
end L2.T
end

section
set_option Elab.async false
set_option linter.all false
set_option maxRecDepth 100000
set_option maxHeartbeats 4000000
set_option autoImplicit false
namespace L2.T
open PySem PySem.Spec PyProof.Rows

/-! ### stores -/
def Pn (mv : List Nat) (P : List (Nat × V)) : Prop := ∀ (j : Nat) (v : V), (j, v) ∈ P → mv.contains j = true
section
variable {C : Ct} {P : List (Nat × V)} {ρ : List Sl} {Z L : Hp} {σ : St} {H : Hp} {mv : List Nat}
theorem Rel.store (r : Rel C P ρ Z L σ H) (pn : Pn mv P) {i : Nat} {fr : Bool} {d : D} {v : V} (hv : RepR C ρ Z L σ H fr d v) (hm : mv.contains i = false) : Rel C P (ρ.set i (if fr then .ow d else .sh d)) Z L (σ.set i (some v)) H := by
  have gs : ∀ {j : Nat} {s : Sl} {s0 : Sl}, (ρ.set i s0)[j]? = some s → (j = i ∧ s = s0 ∧ i < ρ.length) ∨ (j ≠ i ∧ ρ[j]? = some s) := fun {j s s0} g => by
    by_cases hj : i = j
    · subst hj
      by_cases hi : i < ρ.length
      · rw [List.getElem?_set_self hi] at g; exact .inl ⟨rfl, (Option.some.inj g).symm, hi⟩
      · rw [List.getElem?_eq_none (by simpa using hi)] at g; cases g
    · rw [List.getElem?_set_ne hj] at g; exact .inr ⟨fun z => hj z.symm, g⟩
  refine ⟨r.zh, r.lh, r.zl, by rw [List.length_set, List.length_set]; exact r.len, fun j s w g1 g2 => ?_, fun j k d1 d2 a g1 g2 g3 g4 => ?_, fun j w hp => ?_, r.tb⟩
  · rcases gs g1 with ⟨rfl, rfl, hi⟩ | ⟨hj, g⟩
    · rw [List.getElem?_set_self (by rw [← r.len]; exact hi)] at g2
      cases g2
      cases fr with
      | false => exact ⟨v, rfl, hv⟩
      | true =>
        obtain ⟨a, rfl, o, l, _⟩ : ∃ a, v = .ref a ∧ Own C Z H d a ∧ L a = none ∧ ∀ (i : Nat) (e : D), ρ[i]? = some (Sl.ow e) → σ[i]? ≠ some (some (V.ref a)) := hv
        exact ⟨a, rfl, o, l⟩
    · rw [List.getElem?_set_ne (Ne.symm hj)] at g2
      exact r.sl j s w g g2
  · have key : ∀ {j : Nat} {d1 : D}, (ρ.set i (if fr = true then .ow d else .sh d))[j]? = some (.ow d1) → (σ.set i (some v))[j]? = some (some (.ref a)) → (j = i ∧ fr = true ∧ v = .ref a) ∨ (j ≠ i ∧ ρ[j]? = some (.ow d1) ∧ σ[j]? = some (some (.ref a))) := fun {j d1} h1 h2 => by
      rcases gs h1 with ⟨rfl, e, hi⟩ | ⟨hj, g⟩
      · rw [List.getElem?_set_self (by rw [← r.len]; exact hi)] at h2
        cases fr with
        | false => cases e
        | true => exact .inl ⟨rfl, rfl, by cases h2; rfl⟩
      · rw [List.getElem?_set_ne (Ne.symm hj)] at h2
        exact .inr ⟨hj, g, h2⟩
    have nof : ∀ {m : Nat} {d1 : D}, fr = true → v = .ref a → ρ[m]? = some (.ow d1) → σ[m]? = some (some (.ref a)) → False := fun {m d1} hf e h1 h2 => by
      subst hf
      obtain ⟨b, hb, _, _, n⟩ : ∃ a, v = .ref a ∧ Own C Z H d a ∧ L a = none ∧ ∀ (i : Nat) (e : D), ρ[i]? = some (Sl.ow e) → σ[i]? ≠ some (some (V.ref a)) := hv
      rw [e] at hb; cases hb
      exact n m d1 h1 h2
    rcases key g1 g3 with ⟨rfl, f1, e1⟩ | ⟨hj, h1, h2⟩
    · rcases key g2 g4 with ⟨rfl, _, _⟩ | ⟨_, h3, h4⟩
      · rfl
      · exact (nof f1 e1 h3 h4).elim
    · rcases key g2 g4 with ⟨rfl, f1, e1⟩ | ⟨_, h3, h4⟩
      · exact (nof f1 e1 h1 h2).elim
      · exact r.ap j k d1 d2 a h1 h3 h2 h4
  · have hj : i ≠ j := fun z => by subst z; rw [pn i w hp] at hm; cases hm
    rw [List.getElem?_set_ne hj]
    exact r.pin j w hp
end
/-- slots ns aside, the frame stays -/
def Same (ns : List Nat) (σ σ' : St) : Prop := σ'.length = σ.length ∧ ∀ j, j ∉ ns → σ'[j]? = σ[j]?
theorem Same.refl {ns : List Nat} (σ : St) : Same ns σ σ := ⟨rfl, fun _ _ => rfl⟩
theorem Same.app {a b : List Nat} {σ σ1 σ2 : St} (h : Same a σ σ1) (g : Same b σ1 σ2) : Same (a ++ b) σ σ2 := ⟨g.1.trans h.1, fun j hj => by
  rw [List.mem_append, not_or] at hj
  rw [g.2 j hj.2, h.2 j hj.1]⟩
/-- a target's reading -/
def gTg (C : Ct) (mv : List Nat) (t : Tg) : TG := fun v σ H Q => ∃ P ρ Z L fr d ρ', Pn mv P ∧ Rel C P ρ Z L σ H ∧ RepR C ρ Z L σ H fr d v ∧ asgT mv t fr d ρ = some ρ' ∧ ∀ σ', Rel C P ρ' Z L σ' H → Same t.slots σ σ' → Q σ' H
def gTgs (C : Ct) (mv : List Nat) (ts : List Tg) : TGs := fun vs σ H Q => ∃ P ρ Z L ds ρ', Pn mv P ∧ Rel C P ρ Z L σ H ∧ Reps C Z ds vs ∧ asgTs mv ts ds ρ = some ρ' ∧ ∀ σ', Rel C P ρ' Z L σ' H → Same (Tg.slots.slotsL ts) σ σ' → Q σ' H
section
variable {X : Cx} {C : Ct} {W : WX} {mv : List Nat} {pos : Pos}
theorem PG.imp {tg : Expr} {t t' : TG} (h : PG X tg t) (i : ∀ v σ H Q, t' v σ H Q → t v σ H Q) : PG X tg t' := ⟨fun pins s σ H v u Q I r q => h.run pins s σ H v u Q I r (i v σ H Q q)⟩
theorem PGs.imp {tg : List Expr} {t t' : TGs} (h : PGs X tg t) (i : ∀ v σ H Q, t' v σ H Q → t v σ H Q) : PGs X tg t' := ⟨fun pins s σ H v u Q I r q => h.run pins s σ H v u Q I r (i v σ H Q q)⟩
theorem pg_nmT {i : Nat} {x : Str} (h : PG X (.Name x pos) (gName i)) : PG X (.Name x pos) (gTg C mv (.nm i)) := by
  refine PG.imp h fun v σ H Q ⟨P, ρ, Z, L, fr, d, ρ', pn, r, hv, e, q⟩ => ?_
  simp only [asgT, asgN] at e
  split at e
  · cases e
  · rename_i hm
    cases e
    refine q _ (r.store pn hv (by simpa using hm)) ⟨List.length_set, fun j hj => ?_⟩
    rw [List.getElem?_set_ne]
    intro z
    exact hj (by simp [Tg.slots, z])
theorem pgs_nilT : PGs X [] (gTgs C mv []) := by
  refine PGs.imp pgs_nil fun vs σ H Q ⟨P, ρ, Z, L, ds, ρ', pn, r, hv, e, q⟩ => ?_
  cases ds with
  | cons _ _ => simp only [asgTs] at e; cases e
  | nil =>
    simp only [asgTs] at e
    cases e
    cases hv
    exact ⟨rfl, q σ r (Same.refl σ)⟩
theorem pgs_consT {a : Expr} {es : List Expr} {t : Tg} {ts : List Tg} (h1 : PG X a (gTg C mv t)) (h2 : PGs X es (gTgs C mv ts)) (hs : (assignEach (a :: es) X.env).map (·.2) = assign a X.env :: (assignEach es X.env).map (·.2)) : PGs X (a :: es) (gTgs C mv (t :: ts)) := by
  refine PGs.imp (pgs_cons h1 h2 hs) fun vs σ H Q ⟨P, ρ, Z, L, ds, ρ', pn, r, hv, e, q⟩ => ?_
  cases ds with
  | nil => simp only [asgTs] at e; cases e
  | cons d ds =>
    simp only [asgTs] at e
    cases e1 : asgT mv t false d ρ with
    | none => rw [e1] at e; cases e
    | some ρ1 =>
      rw [e1] at e
      cases hv with
      | cons h hr => exact ⟨_, _, rfl, P, ρ, Z, L, false, d, ρ1, pn, r, h, e1, fun σ1 r1 s1 => ⟨P, ρ1, Z, L, ds, ρ', pn, r1, hr, e, fun σ2 r2 s2 => q σ2 r2 (s1.app s2)⟩⟩
theorem asgTs_len {mv : List Nat} : ∀ {ts : List Tg} {ds : List D} {ρ ρ' : List Sl}, asgTs mv ts ds ρ = some ρ' → ts.length = ds.length
  | [], [], _, _, _ => rfl
  | [], _ :: _, _, _, h => by simp only [asgTs] at h; cases h
  | _ :: _, [], _, _, h => by simp only [asgTs] at h; cases h
  | t :: ts, d :: ds, ρ, ρ', h => by
    simp only [asgTs] at h
    cases e1 : asgT mv t false d ρ with
    | none => rw [e1] at h; cases h
    | some ρ1 =>
      rw [e1] at h
      exact congrArg Nat.succ (asgTs_len h)
theorem pg_tuT {es : List Expr} {ts : List Tg} {k : Nat} (kx : Cxk X C W) (h : PGs X es (gTgs C mv ts)) (hl : (assignEach es X.env).length = ts.length) (hst : (assignEach es X.env).findIdx? (·.1) = none) : PG X (.Tuple es k pos) (gTg C mv (.tu ts)) := by
  refine ⟨fun pins s σ H v u Q I rv ⟨P, ρ, Z, L, fr, d, ρ', pn, r, hv, e, q⟩ => ?_⟩
  cases d <;> (try (simp only [asgT] at e; cases e; done))
  case tup ds =>
    simp only [asgT] at e
    obtain ⟨a, vs, rfl, ha, hr⟩ := hv.vw r
    have ha' := r.zh.sqT ha
    rw [kx.hk] at ha'
    refine (pg_tup (n := ts.length) kx.calm h hl hst).run pins s σ H _ u Q I rv ⟨a, vs, rfl, ha', ?_, P, ρ, Z, L, ds, ρ', pn, r, hr, e, q⟩
    rw [← hr.length, ← asgTs_len e]
  case lst ds =>
    simp only [asgT] at e
    obtain ⟨a, vs, rfl, ha, hr⟩ := hv.vw r
    refine (pg_lst (n := ts.length) kx.calm h hl hst).run pins s σ H _ u Q I rv ⟨a, vs, rfl, .inl (.inl ha), ?_, P, ρ, Z, L, ds, ρ', pn, r, hr, e, q⟩
    rw [← hr.length, ← asgTs_len e]
end

/-! ### statements -/
def ContS (C : Ct) (W : WX) (P : List (Nat × V)) (Z L : Hp) (r : R Fl) (D : Ends) : Prop :=
  r.wp (fun fl ρ' => ∀ σ' Z' H', Le Z Z' → Rel C P ρ' Z' L σ' H' → match fl with
    | .nx => D.nx σ' H'
    | .bk => D.bk σ' H'
    | .ct => D.ct σ' H'
    | .rt fr d => ∀ v, RepR C ρ' Z' L σ' H' fr d v → D.rt v H') (fun x ρ' => ∀ cls dd σ' Z' H', Le Z Z' → Rel C P ρ' Z' L σ' H' → XRep C x cls dd → W cls dd σ' H')
def rdS (C : Ct) (W : WX) (mv : List Nat) (f : List Sl → R Fl) : TS := fun D σ H => ∃ P ρ Z L, Pn mv P ∧ Rel C P ρ Z L σ H ∧ ContS C W P Z L (f ρ) D
theorem ContS.more {C : Ct} {W : WX} {P : List (Nat × V)} {Z Z1 L : Hp} {r : R Fl} {D : Ends} (l : Le Z Z1) (h : ContS C W P Z L r D) : ContS C W P Z1 L r D :=
  R.wp_mono h (fun a ρ' q σ' Z' H' l' r' => q σ' Z' H' (l.trans l') r') fun x ρ' q cls dd σ' Z' H' l' r' => q cls dd σ' Z' H' (l.trans l') r'
/-- an expression ahead in a statement -/
theorem ContS.bind {C : Ct} {W : WX} {P : List (Nat × V)} {Z L : Hp} {σ : St} {α : Type} {r : R α} {g : α → List Sl → R Fl} {D : Ends} (h : ContS C W P Z L (r.bind g) D) : Cont C W P Z L σ r fun a ρ1 Z1 _ => ContS C W P Z1 L (g a ρ1) D := by
  revert h
  cases r with
  | ok a ρ1 => exact fun h Z1 H1 l1 r1 => ContS.more l1 h
  | ex x ρ1 => exact fun h cls dd Z1 H1 l1 r1 => h cls dd σ Z1 H1 l1 r1
  | stuck => exact fun h => h
section
variable {X : Cx} {C : Ct} {W : WX} {mv : List Nat} {pos : Pos} {e c : Expr} {fe fc : Ev}
theorem PS.imp {st : Stmt} {t t' : TS} (h : PS X st t) (i : ∀ D σ H, t' D σ H → t D σ H) : PS X st t' := ⟨fun pins s σ H D I q => h.run pins s σ H D I (i D σ H q)⟩
theorem PSs.imp {st : List Stmt} {t t' : TS} (h : PSs X st t) (i : ∀ D σ H, t' D σ H → t D σ H) : PSs X st t' := ⟨fun pins s σ H D I q => h.run pins s σ H D I (i D σ H q)⟩
theorem ps_asgT {tg : Expr} {t : Tg} (he : PE X e (rdE C W fe)) (hg : PG X tg (gTg C mv t)) (hs : swapsWithSole [tg] e pos.line X.env = pure false) (hw : swappedStores [tg] e X.env = pure none) (h1 : (assignEach [tg] X.env).map (·.2) = [assign tg X.env]) :
    PS X (.Assign [tg] e pos) (rdS C W mv fun ρ => (fe ρ).bind fun x ρ1 => (R.of (asgT mv t x.1 x.2 ρ1) ρ1).bind fun ρ2 _ => .ok .nx ρ2) := by
  refine PS.imp (ps_asg he hg hs hw h1) fun D σ H ⟨P, ρ, Z, L, pn, r, q⟩ => ⟨P, ρ, Z, L, r, (ContS.bind (σ := σ) q).mono fun x ρ1 Z1 H1 l1 r1 q1 v hv => ?_⟩
  revert q1
  cases ea : asgT mv t x.1 x.2 ρ1 with
  | none => exact fun q1 => q1.elim
  | some ρ2 => exact fun q1 => ⟨P, ρ1, Z1, L, x.1, x.2, ρ2, pn, r1, hv, ea, fun σ2 r2 _ => q1 σ2 Z1 H1 (Le.refl _) r2⟩
theorem ps_asg2T {t1 t2 : Expr} {i j : Nat} (he : PE X e (rdE C W fe)) (h1 : PG X t1 (gTg C mv (.nm i))) (h2 : PG X t2 (gTg C mv (.nm j))) (ha : (assignEach [t1, t2] X.env).map (·.2) = [assign t1 X.env, assign t2 X.env]) (hw : swappedStores [t1, t2] e X.env = pure none) :
    PS X (.Assign [t1, t2] e pos) (rdS C W mv fun ρ => (fe ρ).bind fun x ρ1 => (R.of (if x.1 = true then none else asm mv [i, j] x.2 ρ1) ρ1).bind fun ρ2 _ => .ok .nx ρ2) := by
  refine PS.imp (ps_asg2 he h1 h2 ha hw) fun D σ H ⟨P, ρ, Z, L, pn, r, q⟩ => ⟨P, ρ, Z, L, r, (ContS.bind (σ := σ) q).mono fun x ρ1 Z1 H1 l1 r1 q1 v hv => ?_⟩
  obtain ⟨fr, d⟩ := x
  cases fr with
  | true => exact q1.elim
  | false =>
    simp only [Bool.false_eq_true, if_false, asm] at q1
    revert q1
    cases e1 : asgN mv i false d ρ1 with
    | none => exact fun q1 => q1.elim
    | some ρ2 =>
      simp only
      cases e2 : asgN mv j false d ρ2 with
      | none => exact fun q1 => q1.elim
      | some ρ3 => exact fun q1 => ⟨P, ρ1, Z1, L, false, d, ρ2, pn, r1, hv, e1, fun σ2 r2 _ => ⟨P, ρ2, Z1, L, false, d, ρ3, pn, r2, hv, e2, fun σ3 r3 _ => q1 σ3 Z1 H1 (Le.refl _) r3⟩⟩
theorem ps_asg3T {t1 t2 t3 : Expr} {i j l : Nat} (he : PE X e (rdE C W fe)) (h1 : PG X t1 (gTg C mv (.nm i))) (h2 : PG X t2 (gTg C mv (.nm j))) (h3 : PG X t3 (gTg C mv (.nm l))) (ha : (assignEach [t1, t2, t3] X.env).map (·.2) = [assign t1 X.env, assign t2 X.env, assign t3 X.env]) (hw : swappedStores [t1, t2, t3] e X.env = pure none) :
    PS X (.Assign [t1, t2, t3] e pos) (rdS C W mv fun ρ => (fe ρ).bind fun x ρ1 => (R.of (if x.1 = true then none else asm mv [i, j, l] x.2 ρ1) ρ1).bind fun ρ2 _ => .ok .nx ρ2) := by
  refine PS.imp (ps_asg3 he h1 h2 h3 ha hw) fun D σ H ⟨P, ρ, Z, L, pn, r, q⟩ => ⟨P, ρ, Z, L, r, (ContS.bind (σ := σ) q).mono fun x ρ1 Z1 H1 l1 r1 q1 v hv => ?_⟩
  obtain ⟨fr, d⟩ := x
  cases fr with
  | true => exact q1.elim
  | false =>
    simp only [Bool.false_eq_true, if_false, asm] at q1
    revert q1
    cases e1 : asgN mv i false d ρ1 with
    | none => exact fun q1 => q1.elim
    | some ρ2 =>
      simp only
      cases e2 : asgN mv j false d ρ2 with
      | none => exact fun q1 => q1.elim
      | some ρ3 =>
        simp only
        cases e3 : asgN mv l false d ρ3 with
        | none => exact fun q1 => q1.elim
        | some ρ4 => exact fun q1 => ⟨P, ρ1, Z1, L, false, d, ρ2, pn, r1, hv, e1, fun σ2 r2 _ => ⟨P, ρ2, Z1, L, false, d, ρ3, pn, r2, hv, e2, fun σ3 r3 _ => ⟨P, ρ3, Z1, L, false, d, ρ4, pn, r3, hv, e3, fun σ4 r4 _ => q1 σ4 Z1 H1 (Le.refl _) r4⟩⟩⟩
theorem ps_exT (he : PE X e (rdE C W fe)) (hs : swapsWith e none pos.line X.env = pure false) : PS X (.Expr e pos) (rdS C W mv fun ρ => (fe ρ).bind fun _ ρ1 => .ok .nx ρ1) :=
  PS.imp (ps_expr he hs) fun D σ H ⟨P, ρ, Z, L, pn, r, q⟩ => ⟨P, ρ, Z, L, r, (ContS.bind (σ := σ) q).mono fun x ρ1 Z1 H1 l1 r1 q1 v hv => q1 σ Z1 H1 (Le.refl _) r1⟩
theorem ps_retT (he : PE X e (rdE C W fe)) : PS X (.Return (some e) pos) (rdS C W mv fun ρ => (fe ρ).bind fun x ρ1 => .ok (.rt x.1 x.2) ρ1) :=
  PS.imp (ps_ret he) fun D σ H ⟨P, ρ, Z, L, pn, r, q⟩ => ⟨P, ρ, Z, L, r, (ContS.bind (σ := σ) q).mono fun x ρ1 Z1 H1 l1 r1 q1 v hv => q1 σ Z1 H1 (Le.refl _) r1 v hv⟩
theorem ps_pasT : PS X (.Pass pos) (rdS C W mv fun ρ => .ok .nx ρ) := PS.imp ps_pass fun D σ H ⟨P, ρ, Z, L, pn, r, q⟩ => q σ Z H (Le.refl _) r
theorem ps_brkT : PS X (.Break pos) (rdS C W mv fun ρ => .ok .bk ρ) := PS.imp ps_break fun D σ H ⟨P, ρ, Z, L, pn, r, q⟩ => q σ Z H (Le.refl _) r
theorem ps_cntT : PS X (.Continue pos) (rdS C W mv fun ρ => .ok .ct ρ) := PS.imp ps_continue fun D σ H ⟨P, ρ, Z, L, pn, r, q⟩ => q σ Z H (Le.refl _) r
theorem ps_iteT {a b : List Stmt} {fa fb : List Sl → R Fl} (hc : PT X c (rdT C W (tru fc))) (ha : PSs X a (rdS C W mv fa)) (hb : PSs X b (rdS C W mv fb)) : PS X (.If c a b pos) (rdS C W mv fun ρ => (tru fc ρ).bind fun t ρ1 => if t = true then fa ρ1 else fb ρ1) := by
  refine PS.imp (ps_if hc ha hb) fun D σ H ⟨P, ρ, Z, L, pn, r, q⟩ => ⟨P, ρ, Z, L, r, (ContS.bind (σ := σ) q).mono fun t ρ1 Z1 H1 l1 r1 q1 => ?_⟩
  cases t with
  | true => exact ⟨P, ρ1, Z1, L, pn, r1, q1⟩
  | false => exact ⟨P, ρ1, Z1, L, pn, r1, q1⟩
theorem pss_nilT : PSs X [] (rdS C W mv fun ρ => .ok .nx ρ) := PSs.imp pss_nil fun D σ H ⟨P, ρ, Z, L, pn, r, q⟩ => q σ Z H (Le.refl _) r
theorem pss_consT {st : Stmt} {rest : List Stmt} {f g : List Sl → R Fl} (h1 : PS X st (rdS C W mv f)) (h2 : PSs X rest (rdS C W mv g)) : PSs X (st :: rest) (rdS C W mv fun ρ => (f ρ).bind fun fl ρ1 => match fl with
    | .nx => g ρ1
    | fl => .ok fl ρ1) := by
  refine PSs.imp (pss_cons h1 h2) fun D σ H ⟨P, ρ, Z, L, pn, r, q⟩ => ⟨P, ρ, Z, L, pn, r, ?_⟩
  have q : ContS C W P Z L ((f ρ).bind _) D := q
  revert q
  cases f ρ with
  | stuck => exact fun q => q
  | ex x ρ1 => exact fun q => q
  | ok fl ρ1 =>
    intro q
    cases fl with
    | nx => exact fun σ' Z' H' l' r' => ⟨P, ρ1, Z', L, pn, r', ContS.more l' q⟩
    | bk => exact q
    | ct => exact q
    | rt fr d => exact q
end
end L2.T
end

section
set_option Elab.async false
set_option linter.all false
set_option maxRecDepth 100000
set_option maxHeartbeats 4000000
set_option autoImplicit false
namespace L2.T
open PySem PySem.Spec PyProof.Rows

/-! ### what is walked -/
structure Wk (C : Ct) (Z : Hp) (J : It) (ds : List D) : Prop where
  go : ∀ i H, Le Z H → i < ds.length → J.go i H
  stop : ∀ i H, Le Z H → ds.length ≤ i → J.stop i H
  yld : ∀ i H x H', Le Z H → i < ds.length → J.yld i H x H' → ∃ d, ds[i]? = some d ∧ ∀ P ρ Zc L σ, Le Z Zc → Rel C P ρ Zc L σ H → ∃ Z2, Le Zc Z2 ∧ Rel C P ρ Z2 L σ H' ∧ Rep C Z2 d x
theorem wk_list {C : Ct} {K : PySem.W.Frag} {Z : Hp} {a : Addr} {ds : List D} {vs : List V} (h : Z a = some (.lst vs)) (r : Reps C Z ds vs) : Wk C Z (Itl K a) ds := by
  have hl := r.length
  refine ⟨fun i H l hi => ⟨vs, vs[i]'(by omega), .inl (.inl (l _ _ h)), by simp⟩, fun i H l hi => ⟨vs, .inl (.inl (l _ _ h)), by omega⟩, fun i H x H' l hi y => ?_⟩
  obtain ⟨e, y⟩ := y
  subst e
  obtain ⟨d, hd, q⟩ := r.getV (y vs (.inl (.inl (l _ _ h))))
  exact ⟨d, hd, fun P ρ Zc L σ lc rc => ⟨Zc, Le.refl _, rc, q.mono lc⟩⟩
theorem wk_tup {C : Ct} {Z : Hp} {a : Addr} {ds : List D} {vs : List V} (h : SqT C.K Z a vs) (r : Reps C Z ds vs) : Wk C Z (Itt C.K a) ds := by
  have hl := r.length
  refine ⟨fun i H l hi => ⟨vs, vs[i]'(by omega), l.sqT h, by simp⟩, fun i H l hi => ⟨vs, l.sqT h, by omega⟩, fun i H x H' l hi y => ?_⟩
  obtain ⟨e, y⟩ := y
  subst e
  obtain ⟨d, hd, q⟩ := r.getV (y vs (l.sqT h))
  exact ⟨d, hd, fun P ρ Zc L σ lc rc => ⟨Zc, Le.refl _, rc, q.mono lc⟩⟩
theorem intsUp_len : ∀ (n : Nat) (lo : Int), (intsUp lo n).length = n
  | 0, _ => rfl
  | n + 1, lo => congrArg Nat.succ (intsUp_len n (lo + 1))
theorem intsUp_get : ∀ (n : Nat) (lo : Int) (i : Nat), i < n → (intsUp lo n)[i]? = some (.int (lo + i))
  | n + 1, lo, 0, _ => by simp [intsUp]
  | n + 1, lo, i + 1, h => by
    have := intsUp_get n (lo + 1) i (by omega)
    simp only [intsUp, List.getElem?_cons_succ, this]
    congr 2
    omega
theorem wk_rng {C : Ct} {Z : Hp} (lo : Int) (n : Nat) : Wk C Z (Itr lo n) (intsUp lo n) := by
  refine ⟨fun i H _ hi => by rw [intsUp_len] at hi; exact hi, fun i H _ hi => by rw [intsUp_len] at hi; exact hi, fun i H x H' _ hi y => ?_⟩
  rw [intsUp_len] at hi
  obtain ⟨e, y⟩ := y
  subst e y
  exact ⟨_, intsUp_get n lo i hi, fun P ρ Zc L σ lc rc => ⟨Zc, Le.refl _, rc, .int _⟩⟩
def rdI (C : Ct) (W : WX) (f : List Sl → R (List D)) : TI := fun σ H R => rdG C W f σ H fun _ _ ds _ Z' H' => ∀ J, Wk C Z' J ds → R J H'
section
variable {X : Cx} {C : Ct} {W : WX} {mv : List Nat} {pos : Pos} {tg e : Expr} {fe : Ev}
/-- a list or a tuple walked -/
theorem pi_data (kx : Cxk X C W) (he : PE X e (rdE C W fe)) : PI X tg e (rdI C W fun ρ => (fe ρ).bind fun x ρ1 => R.of (itD x.2) ρ1) := by
  refine ⟨fun pins s σ H Q I ⟨P, ρ, Z, L, r, q⟩ => ?_⟩
  have q : Cont C W P Z L σ ((fe ρ).bind fun x ρ1 => R.of (itD x.2) ρ1) _ := q
  have q := q.bind
  cases ef : fe ρ with
  | stuck => rw [ef] at q; exact q.elim
  | ex x ρ1 =>
    rw [ef] at q
    exact (pi_list he).run pins s σ H Q I ⟨P, ρ, Z, L, r, by rw [ef]; exact q⟩
  | ok x ρ1 =>
    rw [ef] at q
    obtain ⟨fr, d⟩ := x
    have lcase : ∀ {ds : List D}, d = .lst ds → wpAny (model X.prog X.w) X.A (eval e X.env) (fun v s1 => wpAny (model X.prog X.w) X.A (pyIter v) (PIE X pins σ tg Q) X.xe s1) X.xe s := fun {ds} hd => by
      subst hd
      refine (pi_list he).run pins s σ H Q I ⟨P, ρ, Z, L, r, ?_⟩
      rw [ef]
      intro Z1 H1 l1 r1 v hv
      obtain ⟨Z2, l2, r2, hr⟩ := r1.freeze hv
      cases hr with
      | lst h hr => exact ⟨_, rfl, ⟨_, .inl (.inl (r2.zh _ _ h))⟩, q Z1 H1 l1 r1 Z2 H1 l2 r2 _ (wk_list h hr)⟩
    have tcase : ∀ {ds : List D}, d = .tup ds → wpAny (model X.prog X.w) X.A (eval e X.env) (fun v s1 => wpAny (model X.prog X.w) X.A (pyIter v) (PIE X pins σ tg Q) X.xe s1) X.xe s := fun {ds} hd => by
      subst hd
      refine (pi_tup he).run pins s σ H Q I ⟨P, ρ, Z, L, r, ?_⟩
      rw [ef]
      intro Z1 H1 l1 r1 v hv
      obtain ⟨Z2, l2, r2, hr⟩ := r1.freeze hv
      cases hr with
      | tup h hr =>
        have h2 := r2.zh.sqT h
        have w := wk_tup h hr
        rw [kx.hk] at h2 w
        exact ⟨_, rfl, ⟨_, h2⟩, q Z1 H1 l1 r1 Z2 H1 l2 r2 _ w⟩
    cases d with
    | lst ds => exact lcase rfl
    | tup ds => exact tcase rfl
    | _ =>
      refine (pi_list he).run pins s σ H Q I ⟨P, ρ, Z, L, r, ?_⟩
      rw [ef]
      intro Z1 H1 l1 r1 v hv
      exact False.elim (q Z1 H1 l1 r1)
theorem Vws.one {C : Ct} {Z H : Hp} {d : D} {vs : List V} (h : Vws C Z H [d] vs) : ∃ v, vs = [v] ∧ Vw C Z H d v := by
  cases h with
  | cons h r => cases r; exact ⟨_, rfl, h⟩
theorem Vws.two {C : Ct} {Z H : Hp} {d e : D} {vs : List V} (h : Vws C Z H [d, e] vs) : ∃ v u, vs = [v, u] ∧ Vw C Z H d v ∧ Vw C Z H e u := by
  cases h with
  | cons h r => obtain ⟨u, rfl, hu⟩ := r.one; exact ⟨_, _, rfl, h, hu⟩
theorem Vws.three {C : Ct} {Z H : Hp} {d e f : D} {vs : List V} (h : Vws C Z H [d, e, f] vs) : ∃ v u w, vs = [v, u, w] ∧ Vw C Z H d v ∧ Vw C Z H e u ∧ Vw C Z H f w := by
  cases h with
  | cons h r => obtain ⟨u, w, rfl, hu, hw⟩ := r.two; exact ⟨_, _, _, rfl, h, hu, hw⟩
/-- a for over what is walked -/
theorem ps_forT {body : List Stmt} {fi : List Sl → R (List D)} {t : Tg} {fb : List Sl → R Fl} (kx : Cxk X C W) (po : PassesOwn (model X.prog X.w) X.A X.env X.xe) (hi : PI X tg e (rdI C W fi)) (hg : PG X tg (gTg C mv t)) (hb : PSs X body (rdS C W mv fb)) (hs : ∀ x, foldedSetIterable e X.env x = pure x) :
    PS X (.For tg e body [] pos) (rdS C W mv fun ρ => (fi ρ).bind fun ds ρ1 => forGo mv t fb ds ρ1) := by
  refine PS.imp (ps_for po kx.calm hi hg hb hs) fun D σ H ⟨P, ρ, Z, L, pn, r, q⟩ => ⟨P, ρ, Z, L, r, (ContS.bind (σ := σ) q).mono fun ds ρ1 Z1 H1 l1 r1 q1 J wk => ?_⟩
  refine ⟨fun i m σ' H' => m = ds.length - i ∧ i ≤ ds.length ∧ ∃ ρ' Z', Le Z1 Z' ∧ Rel C P ρ' Z' L σ' H' ∧ ContS C W P Z' L (forGo mv t fb (ds.drop i) ρ') D, ⟨ds.length, by simp, Nat.zero_le _, ρ1, Z1, Le.refl _, r1, q1⟩, ?_⟩
  rintro i m σ' H' ⟨rfl, hi, ρ', Z', l', r', q'⟩
  have lh := l'.trans r'.zh
  by_cases hlt : i < ds.length
  · refine .inr ⟨wk.go i H' lh hlt, fun σ2 H2 => ∃ ρ2 Z2, Le Z1 Z2 ∧ Rel C P ρ2 Z2 L σ2 H2 ∧ ContS C W P Z2 L (forGo mv t fb (ds.drop (i + 1)) ρ2) D, fun σ2 H2 ⟨ρ2, Z2, h1, h2, h3⟩ => ⟨ds.length - (i + 1), by omega, rfl, hlt, ρ2, Z2, h1, h2, h3⟩, fun x H2 y => ?_⟩
    obtain ⟨d, hd, k⟩ := wk.yld i H' x H2 lh hlt y
    obtain ⟨Z2, l2, r2, hx⟩ := k P ρ' Z' L σ' l' r'
    have ed : ds.drop i = d :: ds.drop (i + 1) := by
      rw [List.drop_eq_getElem_cons hlt]
      congr 1
      rw [List.getElem?_eq_getElem hlt] at hd
      exact Option.some.inj hd
    rw [ed] at q'
    unfold forGo at q'
    cases ea : asgT mv t false d ρ' with
    | none => rw [ea] at q'; exact q'.elim
    | some ρ3 =>
      rw [ea] at q'
      simp only at q'
      refine ⟨P, ρ', Z2, L, false, d, ρ3, pn, r2, hx, ea, fun σ3 r3 _ => ⟨P, ρ3, Z2, L, pn, r3, ?_⟩⟩
      revert q'
      cases fb ρ3 with
      | stuck => exact fun q => q
      | ex x ρ4 => exact fun q cls dd σ4 Z4 H4 l4 r4 => q cls dd σ4 Z4 H4 (l2.trans l4) r4
      | ok fl ρ4 =>
        intro q' σ4 Z4 H4 l4 r4
        cases fl with
        | nx => exact ⟨ρ4, Z4, (l'.trans l2).trans l4, r4, ContS.more (l2.trans l4) q'⟩
        | ct => exact ⟨ρ4, Z4, (l'.trans l2).trans l4, r4, ContS.more (l2.trans l4) q'⟩
        | bk => exact q' σ4 Z4 H4 (l2.trans l4) r4
        | rt fr d => exact q' σ4 Z4 H4 (l2.trans l4) r4
  · have e : i = ds.length := by omega
    subst e
    rw [List.drop_length] at q'
    exact .inl ⟨wk.stop _ H' lh (Nat.le_refl _), q' σ' Z' H' (Le.refl _) r'⟩
theorem ps_whlT {c : Expr} {body : List Stmt} {fc : List Sl → R Bool} {fb : List Sl → R Fl} (fuel : Nat) (po : PassesOwn (model X.prog X.w) X.A X.env X.xe) (hc : PT X c (rdT C W fc)) (hb : PSs X body (rdS C W mv fb)) :
    PS X (.While c body [] pos) (rdS C W mv fun ρ => whlGo fc fb fuel ρ) := by
  refine PS.imp (ps_while po hc hb) fun D σ H ⟨P, ρ, Z, L, pn, r, q⟩ => ?_
  refine ⟨fun n σ' H' => ∃ ρ' Z', Rel C P ρ' Z' L σ' H' ∧ ContS C W P Z' L (whlGo fc fb n ρ') D, ⟨fuel, ρ, Z, r, q⟩, ?_⟩
  rintro n σ' H' ⟨ρ', Z', r', q'⟩
  cases n with
  | zero => exact q'.elim
  | succ n =>
    unfold whlGo at q'
    refine ⟨P, ρ', Z', L, r', (ContS.bind (σ := σ') q').mono fun b ρ1 Z1 H1 l1 r1 q1 => ?_⟩
    cases b with
    | false =>
      exact q1 σ' Z1 H1 (Le.refl _) r1
    | true =>
      refine ⟨fun σ2 H2 => ∃ ρ2 Z2, Rel C P ρ2 Z2 L σ2 H2 ∧ ContS C W P Z2 L (whlGo fc fb n ρ2) D, fun σ2 H2 h => ⟨n, Nat.lt_succ_self n, h⟩, P, ρ1, Z1, L, pn, r1, ?_⟩
      simp only [if_true] at q1
      revert q1
      cases fb ρ1 with
      | stuck => exact fun q => q
      | ex x ρ4 => exact fun q => q
      | ok fl ρ4 =>
        intro q1 σ4 Z4 H4 l4 r4
        cases fl with
        | nx => exact ⟨ρ4, Z4, r4, ContS.more l4 q1⟩
        | ct => exact ⟨ρ4, Z4, r4, ContS.more l4 q1⟩
        | bk => exact q1 σ4 Z4 H4 l4 r4
        | rt fr d => exact q1 σ4 Z4 H4 l4 r4
end
end L2.T
end

section
set_option Elab.async false
set_option linter.all false
set_option maxRecDepth 100000
set_option maxHeartbeats 4000000
set_option autoImplicit false
namespace L2.T
open PySem PySem.Spec PyProof.Rows
section
variable {X : Cx}
/-- sorted(d), the keys areI, up to a thousand of them -/
theorem sorted_keys (calm : X.calm = true) : CallR X (.builtin "sorted") (fun ws H Q => ∃ (a : Addr) (dk : List (Key × V)) (ns : List Int), ws = [.ref a] ∧ Rd H a (.dK dk) ∧ dk.map (·.1) = ns.map Sum.inl ∧ ns.length ≤ 1000 ∧
    ∀ (zs : List Int) (c : Addr), zs.Perm ns → zs.Pairwise (· ≤ ·) → H c = none → Q (.ref c) (upd H c (.lst (zs.map V.int)))) := by
  rintro pins s σ H ws us Q inv vl ⟨a, dk, ns, rfl, rd, hk, few, fin⟩
  obtain ⟨u0, rfl, one⟩ := vals1 vl
  cases one
  obtain ⟨sz, low, es, rl, hdd⟩ := dk_rd inv.hok rd
  obtain ⟨n0, hdAt⟩ := hdd.dictAt
  have ek : es.map (·.1) = ns.map Sum.inl := rl.keys.symm.trans hk
  have el : es.length = ns.length := by simpa using congrArg List.length ek
  have line : ns.length ≤ sizeLine := by rw [sizeLine_eq]; omega
  apply Calls.call_function_entry kind_sorted plain_sorted entry_sorted (args_sorted1 _)
  unfold Builtin.«sorted»
  apply wpAny_bind (m := checkCount "sorted" 1 1 _)
  apply wpAny_pure
  apply wpAny_bind
  refine PySem.W.kdu_collect (A := X.A.in1) (PySem.W.kdl_dict (knd := mixKind X.prog X.w) (kvs := es) (ep := n0) low) (inv.ok.hd calm) hdAt (el ▸ line) ?_
  intro hp tk got kept each
  have gl : got.toList.length = ns.length := by rw [Array.length_toList, each.1, el]
  have areI : IntsAre got.toList ns := by
    refine ints_each gl ?_
    intro i v hv
    obtain ⟨key, val, h1, h2⟩ := each.2 i v (by simpa using hv)
    have h3 : (ns.map (Sum.inl : Int → Key))[i]? = some key := by rw [← ek, List.getElem?_map, h1]; rfl
    rw [List.getElem?_map] at h3
    obtain ⟨n, hn, rfl⟩ := Option.map_eq_some_iff.mp h3
    rcases keyIs_shape (show keyIs (Sum.inl n) v = true from h2) with ⟨i', t, e, rfl⟩ | ⟨_, _, e, _⟩
    · cases e
      exact ⟨n, t, hn, rfl⟩
    · cases e
  have inv1 : Inv X pins σ H { s with heap := hp, toks := tk } := inv.kept kept
  apply wpAny_bind
  refine wpAny_newList ?_ (gl ▸ line)
  have at0 : (hp.push (seqObj "list" got.toList.toArray 0)).get? hp.objs.size = some (seqObj "list" got.toList.toArray 0) := Heap.get?_push_size _ rfl
  show wpAny (model X.prog X.w) _ _ _ _ { s with heap := hp.push (seqObj "list" got.toList.toArray 0), toks := tk }
  apply wpAny_bind
  apply wpAny_holding
  refine wpAny_call_entry slot_list_sort ⟨_, at0, rfl⟩ entry_list_sort ?_ (args_list_sort _)
  refine SrtO.list_sort_ord (s := { s with heap := hp.push (seqObj "list" got.toList.toArray 0), toks := tk }) SrtO.swo_int at0 (gl ▸ line) (fun two => SrtO.ints_sortable areI two) ?_
  intro out up stb
  refine ⟨_, rfl, ?_⟩
  obtain ⟨i1, i2, i3⟩ := SrtO.ints_out areI up stb
  obtain ⟨n1, at1⟩ := sortedHeap_at (vs := got.toList) (out := out.toArray) at0
  have ol : ((out.map SrtO.iv).map V.int).length ≤ sizeLine := by rw [List.length_map, i2.length_eq]; exact line
  refine wpAny_pure ⟨_, rfl, .ref hp.objs.size, upd H hp.objs.size (.lst ((out.map SrtO.iv).map V.int)), ?_, rfl, fin _ _ i2 i3 (inv1.hok.fresh (Nat.le_refl _))⟩
  refine inv1.laid (t' := tk) ?_ (Nat.le_refl _) (show ObjOk X.prog X.w _ _ _ (.lst ((out.map SrtO.iv).map V.int)) from ⟨ol, out, n1, vals_of_ints i1, at1⟩)
  intro b u eb
  have bl : b < hp.objs.size := Heap.lt_size eb
  rw [sortedHeap_old (Nat.ne_of_lt bl) (by rw [size_push']; exact Nat.lt_succ_of_lt bl)]
  exact Heap.get?_push_of_some _ eb
end
end L2.T
end

section
set_option Elab.async false
set_option linter.all false
set_option maxRecDepth 100000
set_option maxHeartbeats 4000000
set_option autoImplicit false
namespace L2.T
open PySem PySem.Spec PyProof.Rows

/-! ### built-in functions by values -/
def rBi (C : Ct) (σ0 : St) (g : List D → Option (Bool × D)) : List V → Hp → VK → Prop := fun vs H Q => ∃ P ρ Z L ds fr res, Rel C P ρ Z L σ0 H ∧ Vws C Z H ds vs ∧ g ds = some (fr, res) ∧
  ∀ Z' H', Le Z Z' → Rel C P ρ Z' L σ0 H' → ∀ v, RepR C ρ Z' L σ0 H' fr res v → Q v H'
theorem ints_reps {C : Ct} {Z : Hp} : ∀ {ds : List D} {vs : List V} {ns : List Int}, Reps C Z ds vs → intsOf ds = some ns → vs = ns.map V.int
  | _, _, _, .nil, e => by cases e; rfl
  | _, _, _, .cons (d := d) h r, e => by
    cases d <;> (try (cases e; done))
    simp only [intsOf, Option.map_eq_some_iff] at e
    obtain ⟨ms, e1, rfl⟩ := e
    cases h
    rw [ints_reps r e1]
    rfl
theorem reps_ints {C : Ct} {Z : Hp} : ∀ (ns : List Int), Reps C Z (ns.map D.int) (ns.map V.int)
  | [] => .nil
  | i :: ns => .cons (.int i) (reps_ints ns)
theorem bls_reps {C : Ct} {Z : Hp} : ∀ {ds : List D} {vs : List V} {ns : List Bool}, Reps C Z ds vs → blsOf ds = some ns → vs = ns.map V.bl
  | _, _, _, .nil, e => by cases e; rfl
  | _, _, _, .cons (d := d) h r, e => by
    cases d <;> (try (cases e; done))
    simp only [blsOf, Option.map_eq_some_iff] at e
    obtain ⟨ms, e1, rfl⟩ := e
    cases h
    rw [bls_reps r e1]
    rfl
theorem maxI_top : ∀ (ns : List Int) (y : Int), y ∈ ns → y ≤ maxI ns
  | [], _, h => by cases h
  | [x], y, h => by simp at h; subst h; exact Int.le_refl _
  | x :: z :: r, y, h => by
    have ih := maxI_top (z :: r)
    simp only [maxI]
    rcases List.mem_cons.mp h with rfl | h
    · split <;> omega
    · have := ih y h
      split <;> omega
theorem maxI_in : ∀ (ns : List Int), 0 < ns.length → maxI ns ∈ ns
  | [], h => by simp at h
  | [x], _ => by simp [maxI]
  | x :: z :: r, _ => by
    have ih := maxI_in (z :: r) (by simp)
    simp only [maxI]
    split
    · exact List.mem_cons_of_mem _ ih
    · exact List.mem_cons_self
theorem minI_bot : ∀ (ns : List Int) (y : Int), y ∈ ns → minI ns ≤ y
  | [], _, h => by cases h
  | [x], y, h => by simp at h; subst h; exact Int.le_refl _
  | x :: z :: r, y, h => by
    have ih := minI_bot (z :: r)
    simp only [minI]
    rcases List.mem_cons.mp h with rfl | h
    · split <;> omega
    · have := ih y h
      split <;> omega
theorem minI_in : ∀ (ns : List Int), 0 < ns.length → minI ns ∈ ns
  | [], h => by simp at h
  | [x], _ => by simp [minI]
  | x :: z :: r, _ => by
    have ih := minI_in (z :: r) (by simp)
    simp only [minI]
    split
    · exact List.mem_cons_of_mem _ ih
    · exact List.mem_cons_self
theorem keys_reps {C : Ct} {Z : Hp} : ∀ (ks : List Key), Reps C Z (ks.map keyV) (ks.map kV)
  | [] => .nil
  | .inl i :: ks => .cons (.int i) (keys_reps ks)
  | .inr x :: ks => .cons (.str x) (keys_reps ks)
mutual
theorem py_of : ∀ {d : D} {x : PyData}, d.py = some x → D.of x = d
  | .non, _, e => by cases e; rfl
  | .bl _, _, e => by cases e; rfl
  | .int _, _, e => by cases e; rfl
  | .str _, _, e => by cases e; rfl
  | .tup xs, _, e => by
    simp only [D.py, Option.map_eq_some_iff] at e
    obtain ⟨ys, e, rfl⟩ := e
    simp only [D.of]
    rw [pyL_of e]
  | .lst xs, _, e => by
    simp only [D.py, Option.map_eq_some_iff] at e
    obtain ⟨ys, e, rfl⟩ := e
    simp only [D.of]
    rw [pyL_of e]
  | .dk _, _, e => by cases e
  | .dt _, _, e => by cases e
  | .ins _ _, _, e => by cases e
  | .ty _, _, e => by cases e
  | .scr _, _, e => by cases e
theorem pyL_of : ∀ {ds : List D} {xs : List PyData}, pyL ds = some xs → ofL xs = ds
  | [], _, e => by cases e; rfl
  | d :: ds, _, e => by
    unfold pyL at e
    cases e1 : d.py with
    | none => rw [e1] at e; cases e
    | some x =>
      cases e2 : pyL ds with
      | none => rw [e1, e2] at e; cases e
      | some xs =>
        rw [e1, e2] at e
        cases e
        simp only [ofL]
        rw [py_of e1, pyL_of e2]
end
theorem pyL_at : ∀ {ds : List D} {xs : List PyData} {i : Nat}, pyL ds = some xs → i < xs.length → ∃ d, ds[i]? = some d ∧ d.py = some (xs.getD i .none)
  | [], _, i, e, h => by cases e; simp at h
  | d :: ds, _, i, e, h => by
    unfold pyL at e
    cases e1 : d.py with
    | none => rw [e1] at e; cases e
    | some x =>
      cases e2 : pyL ds with
      | none => rw [e1, e2] at e; cases e
      | some xs =>
        rw [e1, e2] at e
        cases e
        cases i with
        | zero => exact ⟨d, rfl, e1⟩
        | succ i =>
          obtain ⟨d', h1, h2⟩ := pyL_at (i := i) e2 (by simpa using h)
          exact ⟨d', by simpa using h1, by simpa using h2⟩
theorem minD_mem (x : PyData) : ∀ r : List PyData, PySem.W.minD x r ∈ x :: r := by
  intro r
  unfold PySem.W.minD
  induction r generalizing x with
  | nil => exact List.mem_cons_self
  | cons y r ih =>
    rw [List.foldl_cons]
    have := ih (if PySem.W.dataLt y x = true then y else x)
    rcases List.mem_cons.mp this with z | z
    · rw [z]
      split
      · exact List.mem_cons_of_mem _ List.mem_cons_self
      · exact List.mem_cons_self
    · exact List.mem_cons_of_mem _ (List.mem_cons_of_mem _ z)
theorem depthAll_le {n : Nat} : ∀ {xs : List PyData}, (∀ y ∈ xs, y.depth ≤ n) → PyData.depthAll xs ≤ n
  | [], _ => by simp [PyData.depthAll]
  | x :: xs, h => by
    have h1 := h x List.mem_cons_self
    have h2 := depthAll_le (xs := xs) fun y hy => h y (List.mem_cons_of_mem _ hy)
    simp only [PyData.depthAll]
    omega
theorem ints_py : ∀ {ds : List D} {ns : List Int}, intsOf ds = some ns → pyL ds = some (ns.map PyData.int)
  | [], _, e => by cases e; rfl
  | d :: ds, _, e => by
    cases d <;> (try (cases e; done))
    simp only [intsOf, Option.map_eq_some_iff] at e
    obtain ⟨ms, e1, rfl⟩ := e
    simp only [pyL, D.py, ints_py e1, List.map_cons]
theorem max_two (n m : Int) : max n m = if m > n then m else n := by
  by_cases h : m > n
  · rw [if_pos h]; omega
  · rw [if_neg h]; omega
theorem max_three (y n m : Int) : (if y > max n m then y else max n m) = if (if y > m then y else m) > n then (if y > m then y else m) else n := by
  rw [← max_two m y, ← max_two n (max m y), ← max_two (max n m) y]
  omega
theorem foldl_max : ∀ (ns : List Int) (n : Int), ns.foldl max n = maxI (n :: ns)
  | [], n => rfl
  | m :: ns, n => by
    rw [List.foldl_cons, foldl_max ns]
    cases ns with
    | nil => exact max_two n m
    | cons x r => exact max_three (maxI (x :: r)) n m
section
variable {X : Cx} {C : Ct} {W : WX} {σ0 : St}
theorem bi_repr (k : Cxk X C W) : CallR X (.builtin "repr") (rBi C σ0 (bfn "repr")) := by
  intro pins s σ H xs us Q I rv ⟨P, ρ, Z, L, ds, fr, res, r, hv, hb, q⟩
  have go : ∀ {d : D} {v : V} {u : Value} {a : Addr} {x : Str}, Vw C Z H d v → RelV v u → u = .ref a → reprD d = some x → (∀ v, RepR C ρ Z L σ0 H false (.str x) v → Q v H) → wpAny (model X.prog X.w) X.A (call (.builtin "repr") [u]) (EP X pins σ Q) X.xe s := by
    intro d v u a x hd ru hu hx q
    unfold reprD at hx
    split at hx
    · rename_i y ey
      split at hx
      · rename_i hc
        cases hx
        simp only [Bool.and_eq_true, Bool.not_eq_true', decide_eq_true_eq] at hc
        obtain ⟨c1, c2, c3, c4⟩ := hc
        have hp := hd.dp r.zh ey
        rw [k.hk] at hp
        obtain ⟨as, rd⟩ := Dp.reads I y v u hp ru
        subst hu
        have z : (y.canLay0 && decide (y.depth ≤ 64)) = true := c3
        simp only [Bool.and_eq_true, decide_eq_true_eq] at z
        exact repr_of_reads' rd c1 (PyData.noDict_hsm c2) k.gd (by have := k.un2; omega) (fun _ _ e => e) (fun h' t tk hk => ⟨.str _, H, I.kept hk, ⟨t, rfl⟩, q _ (Rep.str _)⟩) c4
      · cases hx
    · cases hx
  match ds, hv, hb with
  | [.tup ys], hv, hb =>
    obtain ⟨v, rfl, hv1⟩ := hv.one
    obtain ⟨u, rfl, ru⟩ := rv.one
    have hb : ((reprD (.tup ys)).map fun x => (false, D.str x)) = some (fr, res) := hb
    obtain ⟨x, ex, e2⟩ := Option.map_eq_some_iff.mp hb
    cases e2
    have hv' := hv1
    obtain ⟨a, vs, rfl, _⟩ := hv'
    exact go hv1 ru ru ex fun v h => q Z H (Le.refl Z) r v h
  | [.lst ys], hv, hb =>
    obtain ⟨v, rfl, hv1⟩ := hv.one
    obtain ⟨u, rfl, ru⟩ := rv.one
    have hb : ((reprD (.lst ys)).map fun x => (false, D.str x)) = some (fr, res) := hb
    obtain ⟨x, ex, e2⟩ := Option.map_eq_some_iff.mp hb
    cases e2
    have hv' := hv1
    obtain ⟨a, vs, rfl, _⟩ := hv'
    exact go hv1 ru ru ex fun v h => q Z H (Le.refl Z) r v h
  | [.bl b], hv, hb =>
    obtain ⟨v, rfl, hv1⟩ := hv.one
    obtain ⟨u, rfl, ru⟩ := rv.one
    have hb : some (false, D.str (if b then "True" else "False")) = some (fr, res) := hb
    cases hb
    cases (show v = .bl b from hv1)
    cases (show u = Value.bool b from ru)
    exact PySem.P.repr_of_bool ⟨.str _, H, I.tok _, ⟨_, rfl⟩, q Z H (Le.refl Z) r _ (Rep.str _)⟩
theorem bi_str (k : Cxk X C W) : CallR X (.type "str") (rBi C σ0 (bfn "str")) := by
  intro pins s σ H xs us Q I rv ⟨P, ρ, Z, L, ds, fr, res, r, hv, hb, q⟩
  match ds, hv, hb with
  | [.str x], hv, hb =>
    obtain ⟨v, rfl, hv1⟩ := hv.one
    have hb : some (false, D.str x) = some (fr, res) := hb
    cases hb
    cases (show v = .str x from hv1)
    exact SkE.call_str_str pins s σ H _ us Q I rv ⟨x, rfl, q Z H (Le.refl Z) r _ (Rep.str _)⟩
  | [.int i], hv, hb =>
    obtain ⟨v, rfl, hv1⟩ := hv.one
    have hb : (if i.natAbs.log2 < 1920 then some (false, D.str (toString i)) else none) = some (fr, res) := hb
    split at hb
    · rename_i hz
      cases hb
      cases (show v = .int i from hv1)
      exact call_str_int pins s σ H _ us Q I rv ⟨i, rfl, hz, q Z H (Le.refl Z) r _ (Rep.str _)⟩
    · cases hb
theorem bi_len (k : Cxk X C W) : CallR X (.builtin "len") (rBi C σ0 (bfn "len")) := by
  intro pins s σ H xs us Q I rv ⟨P, ρ, Z, L, ds, fr, res, r, hv, hb, q⟩
  match ds, hv, hb with
  | [.lst ys], hv, hb =>
    obtain ⟨v, rfl, a, vs, rfl, ha, ra⟩ := hv.one
    have hb : some (false, D.int ys.length) = some (fr, res) := hb
    cases hb
    refine call_len pins s σ H _ us Q I rv ⟨_, ys.length, rfl, .inl ⟨vs, SqL.of ha, ra.length⟩, sv r (.int _) q⟩
  | [.tup ys], hv, hb =>
    obtain ⟨v, rfl, a, vs, rfl, ha, ra⟩ := hv.one
    have hb : some (false, D.int ys.length) = some (fr, res) := hb
    cases hb
    have ha := r.zh.sqT ha
    rw [k.hk] at ha
    refine call_len pins s σ H _ us Q I rv ⟨_, ys.length, rfl, .inr ⟨vs, ha, ra.length⟩, sv r (.int _) q⟩
  | [.str z], hv, hb =>
    obtain ⟨v, rfl, rfl⟩ := hv.one
    have hb : (if z.length ≤ sizeLine then some (false, D.int z.length) else none) = some (fr, res) := hb
    split at hb
    · rename_i hz
      cases hb
      refine call_len pins s σ H _ us Q I rv ⟨_, z.length, rfl, ⟨hz, rfl⟩, sv r (.int _) q⟩
    · cases hb
  | [.dk kvs], hv, hb =>
    obtain ⟨v, rfl, a, vs, rfl, ha, ra⟩ := hv.one
    have hb : some (false, D.int kvs.length) = some (fr, res) := hb
    cases hb
    have hl := ra.length
    rw [List.length_map] at hl
    have z := sv (v := .int kvs.length) r (.int _) q
    obtain ⟨u, rfl, ru⟩ := rv.one
    cases ru
    refine d_len I ha fun t s' I' => ⟨.int kvs.length, H, I', ⟨t, ?_⟩, z⟩
    rw [List.length_zip, List.length_map, ← hl, Nat.min_self]
theorem bi_abs (k : Cxk X C W) : CallR X (.builtin "abs") (rBi C σ0 (bfn "abs")) := by
  intro pins s σ H xs us Q I rv ⟨P, ρ, Z, L, ds, fr, res, r, hv, hb, q⟩
  match ds, hv, hb with
  | [.int i], hv, hb =>
    obtain ⟨v, rfl, rfl⟩ := hv.one
    have hb : some (false, D.int (if i < 0 then -i else i)) = some (fr, res) := hb
    cases hb
    exact call_abs pins s σ H _ us Q I rv ⟨i, rfl, sv r (.int _) q⟩
theorem bi_int (k : Cxk X C W) : CallR X (.type "int") (rBi C σ0 (bfn "int")) := by
  intro pins s σ H xs us Q I rv ⟨P, ρ, Z, L, ds, fr, res, r, hv, hb, q⟩
  match ds, hv, hb with
  | [.int i], hv, hb =>
    obtain ⟨v, rfl, rfl⟩ := hv.one
    have hb : some (false, D.int i) = some (fr, res) := hb
    cases hb
    exact call_int1 pins s σ H _ us Q I rv (.inl ⟨i, rfl, sv r (.int _) q⟩)
  | [.bl i], hv, hb =>
    obtain ⟨v, rfl, rfl⟩ := hv.one
    have hb : some (false, D.int (if i = true then 1 else 0)) = some (fr, res) := hb
    cases hb
    exact call_int1 pins s σ H _ us Q I rv (.inr ⟨i, rfl, sv r (.int _) q⟩)
theorem bi_list (k : Cxk X C W) : CallR X (.type "list") (rBi C σ0 (bfn "list")) := by
  intro pins s σ H xs us Q I rv ⟨P, ρ, Z, L, ds, fr, res, r, hv, hb, q⟩
  match ds, hv, hb with
  | [.lst ys], hv, hb =>
    obtain ⟨v, rfl, a, vs, rfl, ha, ra⟩ := hv.one
    have hb : some (true, D.lst ys) = some (fr, res) := hb
    cases hb
    refine call_list_of pins s σ H _ us Q I rv ⟨a, vs, rfl, .inl (SqL.of ha), fun p hp => ?_⟩
    obtain ⟨r1, q1⟩ := r.newList hp ra
    exact q Z _ (Le.refl Z) r1 _ q1
  | [.tup ys], hv, hb =>
    obtain ⟨v, rfl, a, vs, rfl, ha, ra⟩ := hv.one
    have hb : some (true, D.lst ys) = some (fr, res) := hb
    cases hb
    have ha := r.zh.sqT ha
    rw [k.hk] at ha
    refine call_list_of pins s σ H _ us Q I rv ⟨a, vs, rfl, .inr ha, fun p hp => ?_⟩
    obtain ⟨r1, q1⟩ := r.newList hp ra
    exact q Z _ (Le.refl Z) r1 _ q1
  | [.dk kvs], hv, hb =>
    obtain ⟨v, rfl, a, vs, rfl, ha, ra⟩ := hv.one
    have hb : some (true, D.lst ((kvs.map (·.1)).map keyV)) = some (fr, res) := hb
    cases hb
    refine call_listD k.calm pins s σ H _ us Q I rv ⟨a, _, rfl, ha, fun p hp => ?_⟩
    have hl := ra.length
    rw [List.length_map] at hl
    have e : ((kvs.map (·.1)).zip vs).map (fun kv => kV kv.1) = (kvs.map (·.1)).map kV := by
      rw [← Function.comp_def kV Prod.fst, ← List.map_map, List.map_fst_zip (by rw [List.length_map]; omega)]
    rw [e]
    obtain ⟨r1, q1⟩ := r.newList hp (keys_reps (kvs.map (·.1)))
    exact q Z _ (Le.refl Z) r1 _ q1
theorem bi_tuple (k : Cxk X C W) : CallR X (.type "tuple") (rBi C σ0 (bfn "tuple")) := by
  intro pins s σ H xs us Q I rv ⟨P, ρ, Z, L, ds, fr, res, r, hv, hb, q⟩
  match ds, hv, hb with
  | [.lst ys], hv, hb =>
    obtain ⟨v, rfl, a, vs, rfl, ha, ra⟩ := hv.one
    have hb : some (false, D.tup ys) = some (fr, res) := hb
    cases hb
    refine call_tuple_of pins s σ H _ us Q I rv ⟨a, vs, rfl, .inl ⟨SqL.of ha, fun p hp => ?_⟩⟩
    obtain ⟨l1, r1, q1⟩ := r.newTup hp ra
    exact q _ _ l1 r1 _ q1
  | [.tup ys], hv, hb =>
    obtain ⟨v, rfl, a, vs, rfl, ha, ra⟩ := hv.one
    have hb : some (false, D.tup ys) = some (fr, res) := hb
    cases hb
    have ha' := r.zh.sqT ha
    rw [k.hk] at ha'
    exact call_tuple_of pins s σ H _ us Q I rv ⟨a, vs, rfl, .inr ⟨ha', sv r (.tup ha ra) q⟩⟩
theorem bi_sum (k : Cxk X C W) : CallR X (.builtin "sum") (rBi C σ0 (bfn "sum")) := by
  intro pins s σ H xs us Q I rv ⟨P, ρ, Z, L, ds, fr, res, r, hv, hb, q⟩
  match ds, hv, hb with
  | [.lst ys], hv, hb =>
    obtain ⟨v, rfl, a, vs, rfl, ha, ra⟩ := hv.one
    have hb : ((intsOf ys).map fun ns => (false, D.int ns.sum)) = some (fr, res) := hb
    obtain ⟨ns, e, e2⟩ := Option.map_eq_some_iff.mp hb
    cases e2
    rw [ints_reps ra e] at ha
    exact cr_sum k.calm pins s σ H _ us Q I rv ⟨a, ns, rfl, SqL.of ha, sv r (.int _) q⟩
  | [.tup ys], hv, hb =>
    obtain ⟨v, rfl, a, vs, rfl, ha, ra⟩ := hv.one
    have hb : ((intsOf ys).map fun ns => (false, D.int ns.sum)) = some (fr, res) := hb
    obtain ⟨ns, e, e2⟩ := Option.map_eq_some_iff.mp hb
    cases e2
    rw [ints_reps ra e] at ha
    have ha := r.zh.sqT ha
    rw [k.hk] at ha
    obtain ⟨its, rvs, pt, hz⟩ := I.tuple ha
    obtain ⟨u, rfl, ru⟩ := rv.one
    cases ru
    have hi := rvs.ints
    obtain ⟨xs, hx⟩ := hi.allInts.items
    have hn : numsOf its.toArray.toList = ns := by rw [show its.toArray.toList = its from rfl, hi.numsOf]
    have pt' : s.heap.IsTuple a (intItems xs) := by rw [← hx]; exact pt
    rw [hx, nums_intItems] at hn
    refine PySem.W.ktm_sumG (I.ok.hd k.calm) pt' fun h' tk t' hk => ⟨.int _, H, I.kept hk, ⟨t', rfl⟩, ?_⟩
    rw [preSum_eq, List.take_of_length_le (by simp), hn]
    exact sv r (.int _) q
theorem bi_max (k : Cxk X C W) : CallR X (.builtin "max") (rBi C σ0 (bfn "max")) := by
  intro pins s σ H xs us Q I rv ⟨P, ρ, Z, L, ds, fr, res, r, hv, hb, q⟩
  match ds, hv, hb with
  | [.int i, .int j], hv, hb =>
    obtain ⟨v, u, rfl, rfl, rfl⟩ := hv.two
    have hb : some (false, D.int (if j > i then j else i)) = some (fr, res) := hb
    cases hb
    exact call_max2 k.calm pins s σ H _ us Q I rv ⟨i, j, rfl, sv r (.int _) q⟩
  | [.int i, .int j, .int l], hv, hb =>
    obtain ⟨v, u, w, rfl, rfl, rfl, rfl⟩ := hv.three
    have hb : some (false, D.int (if (if i < j then j else i) < l then l else (if i < j then j else i))) = some (fr, res) := hb
    cases hb
    refine call_max3Nu k.calm pins s σ H _ us Q I rv ⟨.int i, .int j, .int l, .int (if (if i < j then j else i) < l then l else (if i < j then j else i)), rfl, ?_, sv r (.int _) q⟩
    show (nuMax2 (.int i) (.int j)).bind (fun m => nuMax2 m (.int l)) = _
    have e : ∀ a b : Int, nuMax2 (.int a) (.int b) = some (.int (if a < b then b else a)) := fun a b => by
      show some (if decide (a < b) = true then V.int b else V.int a) = _
      by_cases h : a < b
      · rw [if_pos h, if_pos (decide_eq_true h)]
      · rw [if_neg h, if_neg (by simpa using h)]
    rw [e, Option.bind_some, e]
  | [.lst ys], hv, hb =>
    obtain ⟨v, rfl, a, vs, rfl, ha, ra⟩ := hv.one
    have hb : (match intsOf ys with
      | some ns => if 0 < ns.length then some (false, D.int (maxI ns)) else none
      | none => none) = some (fr, res) := hb
    cases e : intsOf ys with
    | none => rw [e] at hb; cases hb
    | some ns =>
      rw [e] at hb
      simp only at hb
      split at hb
      · rename_i hp
        cases hb
        rw [ints_reps ra e] at ha
        refine cr_max k.calm pins s σ H _ us Q I rv ⟨a, ns, rfl, SqL.of ha, hp, fun m hm hall => ?_⟩
        have e : m = maxI ns := Int.le_antisymm (maxI_top ns m hm) (hall _ (maxI_in ns hp))
        subst e
        exact sv r (.int _) q
      · cases hb
  | [.tup ys], hv, hb =>
    obtain ⟨v, rfl, a, vs, rfl, ha, ra⟩ := hv.one
    have hb : (match intsOf ys with
      | some ns => if 0 < ns.length then some (false, D.int (maxI ns)) else none
      | none => none) = some (fr, res) := hb
    cases e : intsOf ys with
    | none => rw [e] at hb; cases hb
    | some ns =>
      rw [e] at hb
      simp only at hb
      split at hb
      · rename_i hp0
        cases hb
        match ns, hp0, e, q with
        | n :: ns, _, e, q =>
          have hp := ra.dp r.zh (ints_py e)
          rw [k.hk] at hp
          have ha := r.zh.sqT ha
          rw [k.hk] at ha
          obtain ⟨its, rvs, pt, hz⟩ := I.tuple ha
          obtain ⟨u, rfl, ru⟩ := rv.one
          cases ru
          obtain ⟨as, rd⟩ := Dp.readsAll I _ vs its hp rvs
          have al : ∀ y ∈ (PyData.int n :: ns.map PyData.int), ∃ m, y = .int m := fun y hy => by
            rcases List.mem_cons.mp hy with rfl | hy
            · exact ⟨_, rfl⟩
            · obtain ⟨m, _, rfl⟩ := List.mem_map.mp hy
              exact ⟨m, rfl⟩
          have hall : PyData.depthAll (PyData.int n :: ns.map PyData.int) ≤ 0 := depthAll_le fun y hy => by
            obtain ⟨m, rfl⟩ := al y hy
            exact Nat.le_refl _
          refine PySem.W.max_tuple_data (I.ok.hd k.calm) pt (show ReadsAll s.heap its.toArray.toList (PyData.int n :: ns.map PyData.int) as from rd) ⟨fun a ha b hb => by
            obtain ⟨m, rfl⟩ := al a ha
            obtain ⟨m', rfl⟩ := al b hb
            rfl, fun y hy z => by
            obtain ⟨m, rfl⟩ := al y hy
            cases z⟩ (by have := k.un; omega) fun i v h' tk bs hv hr hk => ?_
          rw [PySem.W.maxD_ints, foldl_max] at hr
          cases hr
          exact ⟨.int _, H, I.kept hk, ⟨_, rfl⟩, sv r (.int _) q⟩
      · cases hb
theorem intKs_eq : ∀ {ks : List Key} {ns : List Int}, intKs ks = some ns → ks = ns.map Sum.inl
  | [], _, e => by cases e; rfl
  | .inl i :: r, _, e => by
    simp only [intKs, Option.map_eq_some_iff] at e
    obtain ⟨ms, e1, rfl⟩ := e
    rw [intKs_eq e1]
    rfl
  | .inr _ :: r, _, e => by cases e
theorem srt_dk (k : Cxk X C W) {pins : List (Addr × Obj)} {s : Shared} {σ : St} {H : Hp} {us : List Value} {Q : VK} {P : List (Nat × V)} {ρ : List Sl} {Z L : Hp} {kvs : List (Key × D)} {v : V} {fr : Bool} {res : D} (I : Inv X pins σ H s) (rv : Vals [v] us) (r : Rel C P ρ Z L σ0 H) (hv : Vw C Z H (.dk kvs) v)
    (hb : (if kvs.length ≤ 1000 then (intKs (kvs.map (·.1))).map fun ns => (true, D.lst ((sortI ns).map D.int)) else none) = some (fr, res)) (q : ∀ Z' H', Le Z Z' → Rel C P ρ Z' L σ0 H' → ∀ v, RepR C ρ Z' L σ0 H' fr res v → Q v H') : wpAny (model X.prog X.w) X.A (call (.builtin "sorted") us) (EP X pins σ Q) X.xe s := by
  obtain ⟨a, vs, rfl, ha, ra⟩ := hv
  split at hb
  · rename_i hl
    obtain ⟨ns, e, e2⟩ := Option.map_eq_some_iff.mp hb
    cases e2
    have ek := intKs_eq e
    have hn : ns.length ≤ 1000 := by
      have := congrArg List.length ek
      simp only [List.length_map] at this
      omega
    refine sorted_keys k.calm pins s σ H _ us Q I rv ⟨a, _, ns, rfl, ha, ?_, hn, fun ys p h1 h2 hp => ?_⟩
    · have hl := ra.length
      rw [List.length_map] at hl
      rw [List.map_fst_zip (by rw [List.length_map]; omega), ek]
    · rw [sortI_uniq h1 h2]
      obtain ⟨r1, q1⟩ := r.newList hp (reps_ints (C := C) (Z := Z) (sortI ns))
      exact q Z _ (Le.refl Z) r1 _ q1
  · cases hb
theorem bi_sorted (k : Cxk X C W) : CallR X (.builtin "sorted") (rBi C σ0 (bfn "sorted")) := by
  intro pins s σ H xs us Q I rv ⟨P, ρ, Z, L, ds, fr, res, r, hv, hb, q⟩
  match ds, hv, hb with
  | [.dk kvs], hv, hb =>
    obtain ⟨v, rfl, hw⟩ := hv.one
    exact srt_dk k I rv r hw hb q
  | [.lst ys], hv, hb =>
    obtain ⟨v, rfl, a, vs, rfl, ha, ra⟩ := hv.one
    have hb : ((intsOf ys).map fun ns => (true, D.lst ((sortI ns).map D.int))) = some (fr, res) := hb
    obtain ⟨ns, e, e2⟩ := Option.map_eq_some_iff.mp hb
    cases e2
    rw [ints_reps ra e] at ha
    refine cr_sortedI pins s σ H _ us Q I rv ⟨a, ns, rfl, SqL.of ha, fun ns' p h1 h2 hp => ?_⟩
    rw [sortI_uniq h1 h2]
    obtain ⟨r1, q1⟩ := r.newList hp (reps_ints (C := C) (Z := Z) (sortI ns))
    exact q Z _ (Le.refl Z) r1 _ q1
  | [.tup ys], hv, hb =>
    obtain ⟨v, rfl, a, vs, rfl, ha, ra⟩ := hv.one
    have hb : ((intsOf ys).map fun ns => (true, D.lst ((sortI ns).map D.int))) = some (fr, res) := hb
    obtain ⟨ns, e, e2⟩ := Option.map_eq_some_iff.mp hb
    cases e2
    rw [ints_reps ra e] at ha
    have ha := r.zh.sqT ha
    rw [k.hk] at ha
    obtain ⟨its, rvs, pt, hz⟩ := I.tuple ha
    obtain ⟨u, rfl, ru⟩ := rv.one
    cases ru
    have hi := rvs.ints
    obtain ⟨o, ho, hc, n, hd⟩ := pt
    refine sorted_tup SrtO.swo_int ho hc hd (by rw [← rvs.length]; exact hz) (fun h2 h₁ a' _ _ => SrtO.ints_sortable hi h2) fun out h1 h2 => ?_
    obtain ⟨k1, k2, k3⟩ := SrtO.ints_out hi h1 h2
    obtain ⟨ep, he'⟩ := PyProof.Rows.sortedAll_at s.heap its out.toArray
    have hlen : ((out.map SrtO.iv).map V.int).length ≤ sizeLine := by
      rw [List.length_map, k2.length_eq]
      rw [List.length_map] at hz
      exact hz
    have hp : H (s.heap.objs.size + 1) = none := I.hok.fresh (Nat.le_succ _)
    obtain ⟨r1, q1⟩ := r.newList hp (reps_ints (C := C) (Z := Z) (sortI ns))
    rw [← sortI_uniq k2 k3] at r1 q1 q
    exact ⟨.ref _, upd H (s.heap.objs.size + 1) (.lst ((out.map SrtO.iv).map V.int)), I.laid (t' := s.toks) (fun _ _ => PyProof.Rows.sortedAll_old) (Nat.le_succ _) ⟨hlen, out, ep, vals_of_ints k1, he'⟩, rfl, q Z _ (Le.refl Z) r1 _ q1⟩
theorem zip_fst {kvs : List (Key × D)} {vs : List V} {Z : Hp} (ra : Reps C Z (kvs.map (·.2)) vs) : ((kvs.map (·.1)).zip vs).map (·.1) = kvs.map (·.1) := by
  have hl := ra.length
  rw [List.length_map] at hl
  exact List.map_fst_zip (by rw [List.length_map]; omega)
theorem bi_dict (k : Cxk X C W) : CallR X (.type "dict") (rBi C σ0 (bfn "dict")) := by
  intro pins s σ H xs us Q I rv ⟨P, ρ, Z, L, ds, fr, res, r, hv, hb, q⟩
  match ds, hv, hb with
  | [.dk kvs], hv, hb =>
    obtain ⟨v, rfl, a, vs, rfl, ha, ra⟩ := hv.one
    have hb : some (true, D.dk kvs) = some (fr, res) := hb
    cases hb
    refine call_dictD pins s σ H _ us Q I rv ⟨a, _, rfl, ha, fun p hp => ?_⟩
    exact q Z _ (Le.refl Z) (r.alloc hp) _ ⟨p, rfl, ⟨r.zfree hp, vs, upd_same, ra⟩, r.lfree hp, r.noslot hp⟩
theorem bi_min (k : Cxk X C W) : CallR X (.builtin "min") (rBi C σ0 (bfn "min")) := by
  intro pins s σ H xs us Q I rv ⟨P, ρ, Z, L, ds, fr, res, r, hv, hb, q⟩
  match ds, hv, hb with
  | [.int i, .int j], hv, hb =>
    obtain ⟨v, u, rfl, rfl, rfl⟩ := hv.two
    have hb : some (false, D.int (if j < i then j else i)) = some (fr, res) := hb
    cases hb
    exact call_min2 k.calm pins s σ H _ us Q I rv ⟨i, j, rfl, sv r (.int _) q⟩
  | [.int i, .int j, .int l], hv, hb =>
    obtain ⟨v, u, w, rfl, rfl, rfl, rfl⟩ := hv.three
    have hb : some (false, D.int (if l < (if j < i then j else i) then l else (if j < i then j else i))) = some (fr, res) := hb
    cases hb
    refine call_min3Nu k.calm pins s σ H _ us Q I rv ⟨.int i, .int j, .int l, .int (if l < (if j < i then j else i) then l else (if j < i then j else i)), rfl, ?_, sv r (.int _) q⟩
    show (nuMin2 (.int i) (.int j)).bind (fun m => nuMin2 m (.int l)) = _
    have e : ∀ a b : Int, nuMin2 (.int a) (.int b) = some (.int (if b < a then b else a)) := fun a b => by
      show some (if decide (b < a) = true then V.int b else V.int a) = _
      by_cases h : b < a
      · rw [if_pos h, if_pos (decide_eq_true h)]
      · rw [if_neg h, if_neg (by simpa using h)]
    rw [e, Option.bind_some, e]
  | [.lst ys], hv, hb =>
    obtain ⟨v, rfl, a, vs, rfl, ha, ra⟩ := hv.one
    have hb : (match intsOf ys with
      | some ns => if 0 < ns.length then some (false, D.int (minI ns)) else none
      | none => (minData ys).map fun d => (false, d)) = some (fr, res) := hb
    cases e : intsOf ys with
    | none =>
      rw [e] at hb
      obtain ⟨dm, em, e2⟩ := Option.map_eq_some_iff.mp hb
      cases e2
      unfold minData at em
      split at em
      · rename_i x0 r0 ep
        split at em
        · rename_i hc
          cases em
          simp only [Bool.and_eq_true, List.all_eq_true] at hc
          obtain ⟨hal, hsh⟩ := hc
          have hp := ra.dp r.zh ep
          rw [k.hk] at hp
          obtain ⟨its, rvs, pl, hz⟩ := I.list (SqL.of (K := X.K) ha)
          obtain ⟨u, rfl, ru⟩ := rv.one
          cases ru
          obtain ⟨as, rd⟩ := Dp.readsAll I (x0 :: r0) vs its hp rvs
          have hdep : ∀ y ∈ x0 :: r0, y.canLay0 = true ∧ y.depth ≤ 64 := fun y hy => by
            have z : (y.canLay0 && decide (y.depth ≤ 64)) = true := (hsh y hy).2
            simpa only [Bool.and_eq_true, decide_eq_true_eq] using z
          have hall : PyData.depthAll (x0 :: r0) ≤ 64 := depthAll_le fun y hy => (hdep y hy).2
          refine PySem.W.min_list_data (I.ok.hd k.calm) pl.isList (show ReadsAll s.heap its.toArray.toList (x0 :: r0) as from rd) ⟨fun a ha b hb => hal a ha b hb, fun y hy z => ?_⟩ (by have := k.un; omega) fun i v h' tk bs hv hr hk => ?_
          · have := (hsh y hy).1
            rw [z] at this
            cases this
          · have hv : its[i]? = some v := by simpa using hv
            obtain ⟨bs', r1, hi, hm, _⟩ := PySem.W.readsAll_at rd i v hv
            obtain ⟨dd, h1, h2⟩ := pyL_at ep hi
            obtain ⟨vv, h3, h4⟩ := ra.get h1
            have rel : RelV vv v := by
              obtain ⟨w, e1, e2⟩ := rvs.get h3
              rw [hv] at e1
              cases e1
              exact e2
            have c1 := (hdep _ hm).1
            have e1 := SeqAt.readOf_eq c1 (PySem.W.reads_keeps hk r1)
            have c2 : (PySem.W.minD x0 r0).canLay0 = true := (hdep _ (minD_mem x0 r0)).1
            have e2 := SeqAt.readOf_eq c2 hr
            have e3 : (x0 :: r0).getD i .none = PySem.W.minD x0 r0 := e1.symm.trans e2
            rw [e3] at h2
            have e4 := py_of h2
            refine ⟨vv, H, I.kept hk, rel, ?_⟩
            rw [e4] at q
            exact sv r h4 q
        · cases em
      · cases em
    | some ns =>
      rw [e] at hb
      simp only at hb
      split at hb
      · rename_i hp
        cases hb
        rw [ints_reps ra e] at ha
        refine cr_min k.calm pins s σ H _ us Q I rv ⟨a, ns, rfl, SqL.of ha, hp, fun m hm hall => ?_⟩
        have e : m = minI ns := Int.le_antisymm (hall _ (minI_in ns hp)) (minI_bot ns m hm)
        subst e
        exact sv r (.int _) q
      · cases hb
theorem bi_all (k : Cxk X C W) : CallR X (.builtin "all") (rBi C σ0 (bfn "all")) := by
  intro pins s σ H xs us Q I rv ⟨P, ρ, Z, L, ds, fr, res, r, hv, hb, q⟩
  match ds, hv, hb with
  | [.lst ys], hv, hb =>
    obtain ⟨v, rfl, a, vs, rfl, ha, ra⟩ := hv.one
    have hb : ((blsOf ys).map fun ns => (false, D.bl (ns.all id))) = some (fr, res) := hb
    obtain ⟨ns, e, e2⟩ := Option.map_eq_some_iff.mp hb
    cases e2
    rw [bls_reps ra e] at ha
    exact cr_all k.calm pins s σ H _ us Q I rv ⟨a, ns, rfl, SqL.of ha, sv r (.bl _) q⟩
theorem bi_any (k : Cxk X C W) : CallR X (.builtin "any") (rBi C σ0 (bfn "any")) := by
  intro pins s σ H xs us Q I rv ⟨P, ρ, Z, L, ds, fr, res, r, hv, hb, q⟩
  match ds, hv, hb with
  | [.lst ys], hv, hb =>
    obtain ⟨v, rfl, a, vs, rfl, ha, ra⟩ := hv.one
    have hb : ((blsOf ys).map fun ns => (false, D.bl (ns.any id))) = some (fr, res) := hb
    obtain ⟨ns, e, e2⟩ := Option.map_eq_some_iff.mp hb
    cases e2
    rw [bls_reps ra e] at ha
    exact cr_any k.calm pins s σ H _ us Q I rv ⟨a, ns, rfl, SqL.of ha, sv r (.bl _) q⟩
end
end L2.T
end

section
set_option Elab.async false
set_option linter.all false
set_option maxRecDepth 100000
set_option maxHeartbeats 4000000
set_option autoImplicit false
namespace L2.T
open PySem PySem.Spec PyProof.Rows

section
variable {X : Cx} {C : Ct} {W : WX} {a b c e : Expr} {ea eb ec : E} {fa fb fc : Ev} {pos p : Pos} {es : List Expr} {fs : List Sl → R (List Op)}
/-- f(e, ..), f built-in -/
theorem pe_biE {x : Str} {f : Value} {g : List D → Option (Bool × D)} (hf : (∃ id, f = .builtin id) ∨ ∃ n, f = .type n) (hc : ∀ σ0, CallR X f (rBi C σ0 g)) (gl : Gl X x) (hm : X.mg x = none) (hv : bootBuiltins x = some f) (hn : x ≠ "__name__") (hdb : (x == ("__debug__" : Str)) = false)
    (ha : PA X (e :: es) (rdA C W fs)) (he : starEach (e :: es) X.env = (false, eval e X.env) :: starEach es X.env) (hpl : (backTo pos (starEach es X.env)).any (·.1) = false) :
    PE X (.Call (.Name x p) (e :: es) [] pos) (rdE C W fun ρ => (fs ρ).bind fun os ρ1 => match rsL ρ1 os with
      | some ds => R.of (g ds) ρ1
      | none => .stuck) := by
  refine ⟨fun pins s σ H Q I ⟨P, ρ, Z, L, r, q⟩ => ?_⟩
  have key : tCB (rBi C σ g) (rdA C W fs) σ H Q := by
    refine ⟨P, ρ, Z, L, r, q.bind.mono fun os ρ1 Z1 H1 l1 r1 q1 vs hvs => ?_⟩
    cases er : rsL ρ1 os with
    | none => simp only [er] at q1; exact q1.elim
    | some ds =>
      simp only [er] at q1
      obtain ⟨res, e1, k1⟩ := q1.of
      exact ⟨P, ρ1, Z1, L, ds, res.1, res.2, r1, r1.rsL hvs er, e1, k1⟩
  rcases hf with ⟨id, rfl⟩ | ⟨n, rfl⟩
  · exact (pe_callB (hc σ) gl hm hv ha hn hdb he hpl).run pins s σ H Q I key
  · exact (pe_callTy (hc σ) gl hm hv ha hn hdb he hpl).run pins s σ H Q I key
/-- nothing is told of it -/
theorem pe_noE : PE X e (rdE C W fun _ => .stuck) := ⟨fun pins s σ H Q I ⟨P, ρ, Z, L, r, q⟩ => (show False from q).elim⟩
theorem ps_noT {st : Stmt} {mv : List Nat} : PS X st (rdS C W mv fun _ => .stuck) := ⟨fun pins s σ H D I ⟨P, ρ, Z, L, pn, r, q⟩ => (show False from q).elim⟩
theorem pe_dk0E : PE X (.Dict [] [] pos) (rdE C W fun ρ => .ok (true, .dk []) ρ) := by
  refine PE.imp pe_dnewK fun σ H Q ⟨P, ρ, Z, L, r, q⟩ hp hn => ?_
  exact q Z _ (Le.refl Z) (r.alloc hn) _ ⟨hp, rfl, ⟨r.zfree hn, [], upd_same, .nil⟩, r.lfree hn, r.noslot hn⟩
theorem pe_dt0E : PE X (.Dict [] [] pos) (rdE C W fun ρ => .ok (true, .dt []) ρ) := by
  refine PE.imp pe_dnewT fun σ H Q ⟨P, ρ, Z, L, r, q⟩ hp hn => ?_
  exact q Z _ (Le.refl Z) (r.alloc hn) _ ⟨hp, rfl, ⟨r.zfree hn, [], upd_same, .nil⟩, r.lfree hn, r.noslot hn⟩

/-! ### chains -/
def chnF (o p : CmpOp) (a b c : E) (fa fb fc : Ev) : Ev := fun ρ => (opOf a fa ρ).bind fun x ρ1 => (opOf b fb ρ1).bind fun y ρ2 => match x.rs ρ2, y.rs ρ2 with
    | some d, some e => (match cop o d e with
      | some true => (opOf c fc ρ2).bind fun z ρ3 => (match y.rs ρ3, z.rs ρ3 with
        | some e, some g => (match cop p e g with
          | some r => .ok (false, .bl r) ρ3
          | none => .stuck)
        | _, _ => .stuck)
      | some false => .ok (false, .bl false) ρ2
      | none => .stuck)
    | _, _ => .stuck
theorem chn_rd {o p : CmpOp} {σ : St} {H : Hp} {Q : VK} {P : List (Nat × V)} {ρ : List Sl} {Z L : Hp} (r : Rel C P ρ Z L σ H) (q : Cont C W P Z L σ (chnF o p ea eb ec fa fb fc ρ) fun x ρ' Z' H' => ∀ v, RepR C ρ' Z' L σ H' x.1 x.2 v → Q v H') :
    tChain (r2C C σ (cop o)) (r2C C σ (cop p)) (rdO C W (opOf ea fa)) (rdO C W (opOf eb fb)) (rdO C W (opOf ec fc)) σ H Q := by
  refine ⟨P, ρ, Z, L, r, q.bind.mono fun x ρ1 Z1 H1 l1 r1 q1 v hv => ⟨P, ρ1, Z1, L, r1, q1.bind.mono fun y ρ2 Z2 H2 l2 r2 q2 u hu => ?_⟩⟩
  have hv2 := hv.mono l2
  cases e1 : x.rs ρ2 with
  | none => simp only [e1] at q2; exact q2.elim
  | some d =>
    cases e2 : y.rs ρ2 with
    | none => simp only [e1, e2] at q2; exact q2.elim
    | some e =>
      simp only [e1, e2] at q2
      cases e3 : cop o d e with
      | none => simp only [e3] at q2; exact q2.elim
      | some t =>
        refine ⟨P, ρ2, Z2, L, d, e, t, r2, r2.rs hv2 e1, r2.rs hu e2, e3, t, rfl, ?_⟩
        cases t with
        | false =>
          simp only [e3] at q2
          rw [if_neg Bool.false_ne_true]
          exact q2 Z2 H2 (Le.refl _) r2 _ (Rep.bl false)
        | true =>
          simp only [e3] at q2
          rw [if_pos rfl]
          refine ⟨P, ρ2, Z2, L, r2, q2.bind.mono fun z ρ3 Z3 H3 l3 r3 q3 w hw => ?_⟩
          have hu3 := hu.mono l3
          cases e4 : y.rs ρ3 with
          | none => simp only [e4] at q3; exact q3.elim
          | some e' =>
            cases e5 : z.rs ρ3 with
            | none => simp only [e4, e5] at q3; exact q3.elim
            | some g =>
              simp only [e4, e5] at q3
              cases e6 : cop p e' g with
              | none => simp only [e6] at q3; exact q3.elim
              | some t => 
                simp only [e6] at q3
                exact ⟨P, ρ3, Z3, L, e', g, t, r3, r3.rs hu3 e4, r3.rs hw e5, e6, q3 Z3 H3 (Le.refl _) r3 _ (Rep.bl t)⟩
theorem pe_chnE (k : Cxk X C W) {o p : CmpOp} (hm : lastMarks [o, p] [b, c] = false) (ha : PE X a (rdO C W (opOf ea fa))) (hb : PE X b (rdO C W (opOf eb fb))) (hc : PE X c (rdO C W (opOf ec fc))) : PE X (.Compare a [o, p] [b, c] pos) (rdE C W (chnF o p ea eb ec fa fb fc)) :=
  ⟨fun pins s σ H Q I ⟨P, ρ, Z, L, r, q⟩ => (pe_chain (opr_cmp (σ0 := σ) k o) (opr_cmp (σ0 := σ) k p) ha hb hc hm).run pins s σ H Q I (chn_rd r q)⟩
theorem pt_chnT (k : Cxk X C W) {o p : CmpOp} (hm : lastMarks [o, p] [b, c] = false) (ha : PE X a (rdO C W (opOf ea fa))) (hb : PE X b (rdO C W (opOf eb fb))) (hc : PE X c (rdO C W (opOf ec fc))) : PT X (.Compare a [o, p] [b, c] pos) (rdT C W (tru (chnF o p ea eb ec fa fb fc))) := by
  refine ⟨fun pins s σ H Q I ⟨P, ρ, Z, L, r, q⟩ => (pt_chain (opr_cmp (σ0 := σ) k o) (opr_cmp (σ0 := σ) k p) ha hb hc hm).run pins s σ H Q I (chn_rd r ?_)⟩
  have isb : ∀ x ρ', chnF o p ea eb ec fa fb fc ρ = .ok x ρ' → ∃ t, x = (false, .bl t) := by
    intro x ρ' h
    unfold chnF at h
    revert h
    cases opOf ea fa ρ with
    | stuck => exact fun h => by cases h
    | ex _ _ => exact fun h => by cases h
    | ok x1 ρ1 =>
      simp only [R.bind]
      cases opOf eb fb ρ1 with
      | stuck => exact fun h => by cases h
      | ex _ _ => exact fun h => by cases h
      | ok x2 ρ2 =>
        simp only
        cases x1.rs ρ2 with
        | none => exact fun h => by cases h
        | some d =>
          cases x2.rs ρ2 with
          | none => exact fun h => by cases h
          | some e =>
            simp only
            cases cop o d e with
            | none => exact fun h => by cases h
            | some t =>
              cases t with
              | false => exact fun h => by cases h; exact ⟨false, rfl⟩
              | true =>
                simp only
                cases opOf ec fc ρ2 with
                | stuck => exact fun h => by cases h
                | ex _ _ => exact fun h => by cases h
                | ok x3 ρ3 =>
                  simp only
                  cases x2.rs ρ3 with
                  | none => exact fun h => by cases h
                  | some e' =>
                    cases x3.rs ρ3 with
                    | none => exact fun h => by cases h
                    | some g =>
                      simp only
                      cases cop p e' g with
                      | none => exact fun h => by cases h
                      | some t => exact fun h => by cases h; exact ⟨t, rfl⟩
  have q := Cont.bind (show Cont C W P Z L σ ((chnF o p ea eb ec fa fb fc ρ).bind fun x ρ1 => R.of x.2.truth ρ1) _ from q)
  revert q isb
  cases chnF o p ea eb ec fa fb fc ρ with
  | stuck => exact fun _ q => q
  | ex x ρ1 => exact fun _ q => q
  | ok x ρ1 =>
    intro isb q Z1 H1 l1 r1 v hv
    obtain ⟨t, rfl⟩ := isb x ρ1 rfl
    have z := hv.vw r1
    cases z
    exact ⟨t, rfl, q Z1 H1 l1 r1 Z1 H1 (Le.refl _) r1⟩

/-! ### slices -/
theorem Reps.drop {Z : Hp} : ∀ {ds : List D} {vs : List V} (n : Nat), Reps C Z ds vs → Reps C Z (ds.drop n) (vs.drop n)
  | _, _, 0, h => h
  | _, _, _ + 1, .nil => .nil
  | _, _, n + 1, .cons _ r => Reps.drop n r
theorem Reps.take {Z : Hp} : ∀ {ds : List D} {vs : List V} (n : Nat), Reps C Z ds vs → Reps C Z (ds.take n) (vs.take n)
  | _, _, 0, _ => .nil
  | _, _, _ + 1, .nil => .nil
  | _, _, n + 1, .cons h r => .cons h (Reps.take n r)
theorem Reps.cut {Z : Hp} {ds : List D} {vs : List V} (h : Reps C Z ds vs) (lo hi : Option Int) : Reps C Z (cutA ds lo hi) (cutV vs lo hi) := by
  unfold cutA cutV
  rw [← h.length]
  exact (h.drop _).take _
theorem Reps.ints {Z : Hp} : ∀ ns : List Int, Reps C Z (ns.map D.int) (ns.map V.int)
  | [] => .nil
  | n :: ns => .cons (.int n) (Reps.ints ns)
def rdP (C : Ct) (W : WX) (f : List Sl → R (Option Int)) : TO := fun σ H Q => rdG C W f σ H fun _ _ o _ _ H' => Q o H'
theorem po_noneP : PO X none (rdP C W fun ρ => .ok none ρ) := ⟨fun pins s σ H Q I ⟨P, ρ, Z, L, r, q⟩ => po_none.run pins s σ H Q I (q Z H (Le.refl _) r)⟩
theorem po_someP (h : PE X e (rdO C W (opOf ea fa))) : PO X (some e) (rdP C W fun ρ => (opOf ea fa ρ).bind fun x ρ1 => match x.rs ρ1 with
    | some (.int i) => .ok (some i) ρ1
    | _ => .stuck) := by
  refine ⟨fun pins s σ H Q I ⟨P, ρ, Z, L, r, q⟩ => (po_some h).run pins s σ H Q I ⟨P, ρ, Z, L, r, q.bind.mono fun x ρ1 Z1 H1 l1 r1 q1 v hv => ?_⟩⟩
  cases e1 : x.rs ρ1 with
  | none => simp only [e1] at q1; exact q1.elim
  | some d =>
    cases d <;> simp only [e1] at q1 <;> try (exact q1.elim)
    have z := r1.rs hv e1
    cases z
    exact ⟨_, rfl, q1 Z1 H1 (Le.refl _) r1⟩
def rCut (C : Ct) (σ0 : St) : V → Option Int → Option Int → Hp → VK → Prop := fun x lo hi H Q => ∃ P ρ Z L d fr res, Rel C P ρ Z L σ0 H ∧ Vw C Z H d x ∧ cutD d lo hi = some (fr, res) ∧
  ∀ Z' H', Le Z Z' → Rel C P ρ Z' L σ0 H' → ∀ v, RepR C ρ Z' L σ0 H' fr res v → Q v H'
theorem slr_cut (k : Cxk X C W) {σ0 : St} : L2.SlR X (rCut C σ0) := by
  intro pins s σ H x v vl vu lo hi sl Q I rx hs pl pu ⟨P, ρ, Z, L, d, fr, res, r, hx, hb, q⟩
  cases d <;> (try (cases hb; done))
  case lst ds =>
    obtain ⟨a, vs, rfl, ha, ra⟩ := hx
    cases hb
    refine sl_list pins s σ H _ v vl vu lo hi sl Q I rx hs pl pu ⟨a, vs, rfl, SqL.of ha, fun p hp => ?_⟩
    obtain ⟨r1, q1⟩ := r.newList hp (ra.cut lo hi)
    exact q Z _ (Le.refl Z) r1 _ q1
  case scr ns =>
    obtain ⟨a, rfl, ha⟩ := hx
    cases hb
    rw [k.hk] at ha
    refine sl_list pins s σ H _ v vl vu lo hi sl Q I rx hs pl pu ⟨a, _, rfl, ha, fun p hp => ?_⟩
    obtain ⟨r1, q1⟩ := r.newList hp ((Reps.ints ns).cut lo hi)
    exact q Z _ (Le.refl Z) r1 _ q1
  case tup ds =>
    obtain ⟨a, vs, rfl, ha, ra⟩ := hx
    cases hb
    have ha' := r.zh.sqT ha
    rw [k.hk] at ha'
    refine sl_tupA pins s σ H _ v vl vu lo hi sl Q I rx hs pl pu ⟨a, vs, rfl, ha', fun hw => ?_, fun _ p hp => ?_⟩
    · have e : cutA ds lo hi = ds := by
        unfold cutA
        rw [ra.length, hw.1, hw.2]
        simp [← ra.length]
      rw [e] at q
      exact sv r (.tup ha ra) q
    · obtain ⟨l1, r1, q1⟩ := r.newTup hp (ra.cut lo hi)
      exact q _ _ l1 r1 _ q1
theorem pe_sliE (k : Cxk X C W) {lo hi : Option Expr} {fl fh : List Sl → R (Option Int)} {p2 : Pos} (ha : PE X a (rdO C W (opOf ea fa))) (hl : PO X lo (rdP C W fl)) (hh : PO X hi (rdP C W fh)) :
    PE X (.Subscript a (.Slice lo hi none p2) pos) (rdE C W fun ρ => (opOf ea fa ρ).bind fun x ρ1 => (fl ρ1).bind fun l ρ2 => (fh ρ2).bind fun h ρ3 => match x.rs ρ3 with
      | some d => R.of (cutD d l h) ρ3
      | none => .stuck) := by
  refine ⟨fun pins s σ H Q I ⟨P, ρ, Z, L, r, q⟩ => (pe_slice (slr_cut (σ0 := σ) k) ha hl hh).run pins s σ H Q I ⟨P, ρ, Z, L, r, q.bind.mono fun x ρ1 Z1 H1 l1 r1 q1 v hv => ⟨P, ρ1, Z1, L, r1, q1.bind.mono fun lo ρ2 Z2 H2 l2 r2 q2 => ⟨P, ρ2, Z2, L, r2, q2.bind.mono fun hi ρ3 Z3 H3 l3 r3 q3 => ?_⟩⟩⟩⟩
  have hv3 := (hv.mono l2).mono l3
  cases e1 : x.rs ρ3 with
  | none => simp only [e1] at q3; exact q3.elim
  | some d =>
    simp only [e1] at q3
    obtain ⟨res, e2, k2⟩ := q3.of
    exact ⟨P, ρ3, Z3, L, d, res.1, res.2, r3, r3.rs hv3 e1, e2, k2⟩

/-! ### ranges walked -/
theorem pi_rng1 {tg : Expr} (gl : Gl X "range") (hm : X.mg "range" = none) (ha : PA X [a] (rdA C W fs)) (hs : starEach [a] X.env = [(false, eval a X.env)]) : PI X tg (.Call (.Name "range" p) [a] [] pos) (rdI C W fun ρ => (fs ρ).bind fun os ρ1 => match rsL ρ1 os with
    | some ds => R.of (rng1D ds) ρ1
    | none => .stuck) := by
  refine ⟨fun pins s σ H Q I ⟨P, ρ, Z, L, r, q⟩ => (pi_range1 gl hm ha hs).run pins s σ H Q I ⟨P, ρ, Z, L, r, q.bind.mono fun os ρ1 Z1 H1 l1 r1 q1 vs hvs => ?_⟩⟩
  revert q1
  cases er : rsL ρ1 os with
  | none => exact fun q1 => q1.elim
  | some ds =>
    intro q1
    obtain ⟨ws, e1, k1⟩ := q1.of
    match ds, e1 with
    | [.int j], e1 =>
      obtain ⟨v, rfl, hv⟩ := (r1.rsL hvs er).one
      cases hv
      simp only [rng1D] at e1
      split at e1
      · rename_i hj
        cases e1
        exact ⟨j, rfl, hj.1, hj.2, k1 Z1 H1 (Le.refl _) r1 _ (wk_rng 0 _)⟩
      · cases e1
theorem pi_rng2 {tg : Expr} (gl : Gl X "range") (hm : X.mg "range" = none) (ha : PA X [a, b] (rdA C W fs)) (hs : starEach [a, b] X.env = [(false, eval a X.env), (false, eval b X.env)]) (hs2 : starEach [b] X.env = [(false, eval b X.env)]) : PI X tg (.Call (.Name "range" p) [a, b] [] pos) (rdI C W fun ρ => (fs ρ).bind fun os ρ1 => match rsL ρ1 os with
    | some ds => R.of (rng2D ds) ρ1
    | none => .stuck) := by
  refine ⟨fun pins s σ H Q I ⟨P, ρ, Z, L, r, q⟩ => (pi_range2 gl hm ha hs hs2).run pins s σ H Q I ⟨P, ρ, Z, L, r, q.bind.mono fun os ρ1 Z1 H1 l1 r1 q1 vs hvs => ?_⟩⟩
  revert q1
  cases er : rsL ρ1 os with
  | none => exact fun q1 => q1.elim
  | some ds =>
    intro q1
    obtain ⟨ws, e1, k1⟩ := q1.of
    match ds, e1 with
    | [.int i, .int j], e1 =>
      obtain ⟨v, u, rfl, hv, hu⟩ := (r1.rsL hvs er).two
      cases hv
      cases hu
      simp only [rng2D] at e1
      split at e1
      · rename_i hj
        cases e1
        exact ⟨i, j, rfl, ⟨hj.1.1, hj.1.2, hj.2.1, hj.2.2⟩, k1 Z1 H1 (Le.refl _) r1 _ (wk_rng i _)⟩
      · cases e1
theorem intsBy_get {lo c : Int} : ∀ (n i : Nat), i < n → (intsBy lo c n)[i]? = some (.int (lo + (i : Nat) * c))
  | 0, i, h => absurd h (Nat.not_lt_zero _)
  | n + 1, 0, _ => by
    show some (D.int lo) = _
    rw [show lo + ((0 : Nat) : Int) * c = lo by simp]
  | n + 1, i + 1, h => by
    have := intsBy_get (lo := lo + c) (c := c) n i (by omega)
    show (intsBy (lo + c) c n)[i]? = _
    rw [this]
    congr 2
    rw [Int.natCast_add, Int.add_mul]
    omega
theorem intsBy_ln {lo c : Int} : ∀ n : Nat, (intsBy lo c n).length = n
  | 0 => rfl
  | n + 1 => congrArg Nat.succ (intsBy_ln (lo := lo + c) n)
theorem wk_rngC {C : Ct} {Z : Hp} (lo c : Int) (n : Nat) : Wk C Z (Itc lo c n) (intsBy lo c n) := by
  refine ⟨fun i H _ hi => by rw [intsBy_ln] at hi; exact hi, fun i H _ hi => by rw [intsBy_ln] at hi; exact hi, fun i H x H' _ hi y => ?_⟩
  rw [intsBy_ln] at hi
  obtain ⟨e, y⟩ := y
  subst e y
  exact ⟨_, intsBy_get n i hi, fun P ρ Zc L σ lc rc => ⟨Zc, Le.refl _, rc, .int _⟩⟩
theorem rgC {i j c : Int} (hc : c = 2 ∨ c = -1 ∨ c = -2) (h1 : -1000000 ≤ i ∧ i ≤ 1000000) (h2 : -1000000 ≤ j ∧ j ≤ 1000000) : RgC i j c (Builtin.Range.rangeSize i j c).toNat := by
  rcases hc with rfl | rfl | rfl
  · have e : Builtin.Range.rangeSize i j 2 = if i < j then (j - i - 1) / 2 + 1 else 0 := rfl
    refine ⟨by decide, by decide, ?_, ?_⟩
    · unfold Builtin.Range.small
      rw [e]
      simp only [Builtin.Range.rangeFitsLong, Bool.and_eq_true, Bool.or_eq_true, decide_eq_true_eq, beq_iff_eq, show (2 : Int) > 0 by decide, if_true]
      split <;> omega
    · rw [e]
      split <;> omega
  · have e : Builtin.Range.rangeSize i j (-1) = if j < i then (i - j - 1) / 1 + 1 else 0 := rfl
    refine ⟨by decide, by decide, ?_, ?_⟩
    · unfold Builtin.Range.small
      rw [e]
      simp only [Builtin.Range.rangeFitsLong, Bool.and_eq_true, Bool.or_eq_true, decide_eq_true_eq, beq_iff_eq, show ¬ ((-1 : Int) > 0) by decide, if_false]
      split <;> omega
    · rw [e]
      split <;> omega
  · have e : Builtin.Range.rangeSize i j (-2) = if j < i then (i - j - 1) / 2 + 1 else 0 := rfl
    refine ⟨by decide, by decide, ?_, ?_⟩
    · unfold Builtin.Range.small
      rw [e]
      simp only [Builtin.Range.rangeFitsLong, Bool.and_eq_true, Bool.or_eq_true, decide_eq_true_eq, beq_iff_eq, show ¬ ((-2 : Int) > 0) by decide, if_false]
      split <;> omega
    · rw [e]
      split <;> omega
theorem pi_rng3 {tg c : Expr} (gl : Gl X "range") (hm : X.mg "range" = none) (ha : PA X [a, b, c] (rdA C W fs)) (hs : starEach [a, b, c] X.env = (false, eval a X.env) :: starEach [b, c] X.env) (hpl : (backTo pos (starEach [b, c] X.env)).any (·.1) = false) : PI X tg (.Call (.Name "range" p) [a, b, c] [] pos) (rdI C W fun ρ => (fs ρ).bind fun os ρ1 => match rsL ρ1 os with
    | some ds => R.of (rng3D ds) ρ1
    | none => .stuck) := by
  refine ⟨fun pins s σ H Q I ⟨P, ρ, Z, L, r, q⟩ => (pi_range3 gl hm ha hs hpl).run pins s σ H Q I ⟨P, ρ, Z, L, r, q.bind.mono fun os ρ1 Z1 H1 l1 r1 q1 vs hvs => ?_⟩⟩
  revert q1
  cases er : rsL ρ1 os with
  | none => exact fun q1 => q1.elim
  | some ds =>
    intro q1
    obtain ⟨ws, e1, k1⟩ := q1.of
    unfold rng3D at e1
    split at e1
    · rename_i i j c0
      split at e1
      · rename_i hb
        obtain ⟨hc, h1, h2⟩ := hb
        cases e1
        have rr := r1.rsL hvs er
        cases rr with
        | cons ra rr =>
          cases rr with
          | cons rb rr =>
            cases rr with
            | cons rc rr =>
              cases rr
              cases ra
              cases rb
              cases rc
              exact ⟨_, _, _, _, rfl, rgC hc h1 h2, k1 Z1 H1 (Le.refl _) r1 _ (wk_rngC _ _ _)⟩
      · cases e1
    · cases e1
/-! ### sorted(xs, key=len) -/
theorem reps_pairs {Z : Hp} : ∀ {ds : List D} {vs : List V}, Reps C Z ds vs → (ds.zip vs).map (·.1) = ds ∧ (∀ p ∈ ds.zip vs, Rep C Z p.1 p.2)
  | _, _, .nil => ⟨rfl, fun p h => by cases h⟩
  | _, _, .cons h r => by
    obtain ⟨a, b⟩ := reps_pairs r
    refine ⟨by rw [List.zip_cons_cons, List.map_cons, a], fun p hp => ?_⟩
    rw [List.zip_cons_cons] at hp
    rcases List.mem_cons.mp hp with rfl | hp
    · exact h
    · exact b p hp
theorem pairs_reps {Z : Hp} : ∀ {ps : List (D × V)}, (∀ p ∈ ps, Rep C Z p.1 p.2) → Reps C Z (ps.map (·.1)) (ps.map (·.2))
  | [], _ => .nil
  | p :: ps, h => .cons (h p List.mem_cons_self) (pairs_reps fun q hq => h q (List.mem_cons_of_mem _ hq))
theorem each_zip {Z : Hp} : ∀ {ds : List D} {vs : List V} {us : List Value}, Reps C Z ds vs → Vals vs us → PySem.W.EachIs (fun (u : Value) (p : D × V) => RelV p.2 u) us (ds.zip vs)
  | _, _, _, .nil, .nil => .nil
  | _, _, _, .cons h r, .cons g t => .cons g (each_zip r t)
theorem each_vals : ∀ {us : List Value} {ps : List (D × V)}, PySem.W.EachIs (fun (u : Value) (p : D × V) => RelV p.2 u) us ps → Vals (ps.map (·.2)) us
  | _, _, .nil => .nil
  | _, _, .cons h r => .cons h (each_vals r)
theorem pe_srtE (k : Cxk X C W) {p2 p3 : Pos} (gs : Gl X "sorted") (ms : X.mg "sorted" = none) (gl : Gl X "len") (ml : X.mg "len" = none) (ha : PA X [a] (rdA C W fs)) (hs : starEach [a] X.env = [(false, eval a X.env)]) :
    PE X (.Call (.Name "sorted" p) [a] [⟨some "key", .Name "len" p2, p3⟩] pos) (rdE C W fun ρ => (fs ρ).bind fun os ρ1 => match rsL ρ1 os with
      | some ds => R.of (bfn "sorted:len" ds) ρ1
      | none => .stuck) := by
  refine ⟨fun pins s σ H Q I ⟨P, ρ, Z, L, r, q⟩ => ?_⟩
  have key : rdA C W fs σ H fun vs H1 => ∃ ρ1 Z1 xs, Rel C P ρ1 Z1 L σ H1 ∧ Vws C Z1 H1 [.lst xs] vs ∧ xs.all isSeq = true ∧ xs.length ≤ sizeLine ∧ ∀ Z' H', Le Z1 Z' → Rel C P ρ1 Z' L σ H' → ∀ v, RepR C ρ1 Z' L σ H' true (.lst (xs.mergeSort lenLe)) v → Q v H' := by
    refine ⟨P, ρ, Z, L, r, q.bind.mono fun os ρ1 Z1 H1 l1 r1 q1 vs hvs => ?_⟩
    cases er : rsL ρ1 os with
    | none => simp only [er] at q1; exact q1.elim
    | some ds =>
      simp only [er] at q1
      obtain ⟨res, e1, k1⟩ := q1.of
      match ds, e1 with
      | [.lst xs], e1 =>
        have e1 : (if (xs.all isSeq && decide (xs.length ≤ sizeLine)) = true then some (true, D.lst (xs.mergeSort lenLe)) else none) = some res := e1
        split at e1
        · rename_i hc
          cases e1
          simp only [Bool.and_eq_true, decide_eq_true_eq] at hc
          exact ⟨ρ1, Z1, xs, r1, r1.rsL hvs er, hc.1, hc.2, k1⟩
        · cases e1
  have hb : backTo pos (starEach [a] X.env) = (false, eval a X.env) :: backTo pos (starEach [] X.env) := by rw [hs]; rfl
  refine wpAny_Call_Name_kw (ld_blt I gs ms (u := .builtin "sorted") (by decide +kernel) ?_ (by decide) (by decide))
  refine callWith_kw (thn (ha.run pos pins s σ H _ I key) fun us s1 ⟨vs, H1, I1, rv, q1⟩ => ?_) hb (by rw [hs]; rfl) rfl rfl
  obtain ⟨ρ1, Z1, xs, r1, hv, hseq, hz, q1⟩ := q1
  show wpAny _ _ (evalAll [do let v ← eval (.Name "len" p2) X.env; standAt pos; pure v]) _ _ s1
  refine wpAny_evalAll_cons (wpAny_bind (ld_blt I1 gl ml (u := .builtin "len") (by decide +kernel) (wpAny_bind (wpAny_standAt (wpAny_pure (wpAny_evalAll_nil ?_)))) (by decide) (by decide)))
  obtain ⟨v, rfl, b, ws, rfl, hl, hr⟩ := hv.one
  obtain ⟨u, rfl, ru⟩ := rv.one
  cases ru
  obtain ⟨its, rits, pl, hlz⟩ := I1.list (SqL.of (K := X.K) hl)
  obtain ⟨e1, e2⟩ := reps_pairs hr
  have hzip : (xs.zip ws).length = xs.length := by rw [List.length_zip, ← hr.length, Nat.min_self]
  refine PySem.W.sorted_key_data (R := fun (u : Value) (p : D × V) => RelV p.2 u) (bs := xs.zip ws) (vs := its) (b := false) (f := .builtin "len") (fun p => PyData.int (lenOf p.1 : Int)) pl.isList (each_zip hr rits) (fun d hd d' hd' => ?_) (.inr fun d hd => ?_) (by rw [hzip]; exact hz) (fun p hp => ?_) (ksk_s1 _ _) (fun x => ?_) (fun x => ksk_t4 "len" x) (fun u p hR hp h tk kp => ?_) fun out c h' tk hk hn hg hlen hout => ?_
  · obtain ⟨_, _, rfl⟩ := List.mem_map.mp hd
    obtain ⟨_, _, rfl⟩ := List.mem_map.mp hd'
    rfl
  · obtain ⟨_, _, rfl⟩ := List.mem_map.mp hd
    exact ⟨fun z => (by cases z), fun ys z => (by cases z)⟩
  · show X.A.units + 2 + (PyData.int _).depth < cLine
    have : (PyData.int (lenOf p.1 : Int)).depth = 0 := rfl
    have := k.un
    omega
  · unfold argsOk
    kernel_rfl
  · have hp1 := e2 p hp
    have hmem : p.1 ∈ xs := (List.of_mem_zip hp).1
    have hsq := List.all_eq_true.mp hseq _ hmem
    have I2 : Inv X pins σ H1 { s1 with heap := h, toks := tk } := I1.kept kp
    obtain ⟨d, w⟩ := p
    cases hp1 <;> (try (cases hsq; done))
    · rename_i c ds vs' hc hcr
      cases (show u = Value.ref c from hR)
      have hc := r1.zh.sqT hc
      rw [k.hk] at hc
      obtain ⟨its', rr', pt, hz'⟩ := I2.tuple hc
      have hl63 := line63
      have hsz : sizeLine = 16777216 := sizeLine_eq
      have hll := rr'.length
      refine len_tuple pt (by simp only [List.size_toArray]; omega) ⟨_, _, rfl, fun _ _ e => e, ?_⟩
      simp only [List.size_toArray, lenOf]
      rw [← hll, ← hcr.length]
      exact Reads.int _ _
    · rename_i c ds vs' hc hcr
      cases (show u = Value.ref c from hR)
      obtain ⟨its', rr', pt, hz'⟩ := I2.list (SqL.of (K := X.K) (r1.zh _ _ hc))
      have hl63 := line63
      have hsz : sizeLine = 16777216 := sizeLine_eq
      have hll := rr'.length
      refine Calls.call_len_list pt.isList (by simp only [List.size_toArray]; omega) ⟨_, _, rfl, fun _ _ e => e, ?_⟩
      simp only [List.size_toArray, lenOf]
      rw [← hll, ← hcr.length]
      exact Reads.int _ _
  · have em : ((xs.zip ws).mergeSort (PySem.W.dataLe false fun p : D × V => PyData.int (lenOf p.1 : Int))).map (·.1) = xs.mergeSort lenLe := by
      rw [List.map_mergeSort (r := PySem.W.dataLe false fun p : D × V => PyData.int (lenOf p.1 : Int)) (s := lenLe) (f := fun p : D × V => p.1) (fun a _ b _ => rfl), e1]
    have hrr : Reps C Z1 (xs.mergeSort lenLe) (((xs.zip ws).mergeSort (PySem.W.dataLe false fun p : D × V => PyData.int (lenOf p.1 : Int))).map (·.2)) := by
      rw [← em]
      exact pairs_reps fun q hq => e2 q ((List.mergeSort_perm _ _).mem_iff.mp hq)
    have hl2 := hrr.length
    have fr1 : H1 (s1.heap.objs.size + 1) = none := I1.hok.fresh (Nat.le_succ _)
    obtain ⟨r2, q2⟩ := r1.newList fr1 hrr
    refine ⟨.ref _, _, I1.laid hk (Nat.le_succ _) (show ObjOk X.prog X.w _ _ _ (.lst (((xs.zip ws).mergeSort (PySem.W.dataLe false fun p : D × V => PyData.int (lenOf p.1 : Int))).map (·.2))) from ⟨?_, out, c, each_vals hout, hg⟩), rfl, q1 Z1 _ (Le.refl _) r2 _ q2⟩
    rw [← hl2, (List.mergeSort_perm _ _).length_eq]
    exact hz
end
end L2.T
end

section
set_option Elab.async false
set_option linter.all false
set_option maxRecDepth 100000
set_option maxHeartbeats 4000000
set_option autoImplicit false
namespace L2.T
open PySem PySem.Spec PyProof.Rows

/-! ### an owned object changed -/
section
variable {C : Ct} {P : List (Nat × V)} {ρ : List Sl} {Z L : Hp} {σ : St} {H : Hp}
theorem Rel.chg (r : Rel C P ρ Z L σ H) {i : Nat} {d d' : D} {a : Addr} {ob : HO} (h : ρ[i]? = some (.ow d)) (hv : σ[i]? = some (some (.ref a))) (o' : Own C Z (upd H a ob) d' a) : Rel C P (ρ.set i (.ow d')) Z L σ (upd H a ob) := by
  obtain ⟨oa, la⟩ := r.own h hv
  have hi : i < ρ.length := (List.getElem?_eq_some_iff.mp h).1
  have gs : ∀ {j : Nat} {s : Sl}, (ρ.set i (.ow d'))[j]? = some s → (j = i ∧ s = .ow d') ∨ (j ≠ i ∧ ρ[j]? = some s) := fun {j s} g => by
    by_cases hj : i = j
    · subst hj
      rw [List.getElem?_set_self hi] at g
      exact .inl ⟨rfl, (Option.some.inj g).symm⟩
    · rw [List.getElem?_set_ne hj] at g
      exact .inr ⟨fun z => hj z.symm, g⟩
  refine ⟨fun b u e => ?_, fun b u e => ?_, r.zl, by rw [List.length_set]; exact r.len, fun j s w g1 g2 => ?_, fun j k d1 d2 b g1 g2 g3 g4 => ?_, r.pin, r.tb.put oa.kind.choose_spec.1 oa.kind.choose_spec.2⟩
  · have hb : b ≠ a := fun z => by subst z; rw [oa.zn] at e; cases e
    rw [upd_ne hb]; exact r.zh b u e
  · have hb : b ≠ a := fun z => by subst z; rw [la] at e; cases e
    rw [upd_ne hb]; exact r.lh b u e
  · rcases gs g1 with ⟨rfl, rfl⟩ | ⟨hj, g⟩
    · rw [hv] at g2; cases g2
      exact ⟨a, rfl, o', la⟩
    · have z := r.sl j s w g g2
      cases s with
      | un => trivial
      | sh e => exact z
      | ow e =>
        obtain ⟨b, h1, h2, h3⟩ := z
        have hb : b ≠ a := fun z => hj (r.ap j i e d a g h (by rw [g2, h1, z]) hv)
        exact ⟨b, h1, h2.move (Le.refl Z) h2.zn (fun u hu => by rw [upd_ne hb]; exact hu), h3⟩
  · rcases gs g1 with ⟨rfl, _⟩ | ⟨hj, g⟩
    · rcases gs g2 with ⟨rfl, _⟩ | ⟨hk, g'⟩
      · rfl
      · rw [hv] at g3; cases g3
        exact r.ap j k d d2 a h g' hv g4
    · rcases gs g2 with ⟨rfl, _⟩ | ⟨hk, g'⟩
      · rw [hv] at g4; cases g4
        exact r.ap j k d1 d a g h g3 hv
      · exact r.ap j k d1 d2 b g g' g3 g4
end
theorem Reps.set {C : Ct} {Z : Hp} {d : D} {v : V} (q : Rep C Z d v) : ∀ {ds : List D} {vs : List V} (j : Nat), Reps C Z ds vs → Reps C Z (ds.set j d) (vs.set j v)
  | _, _, _, .nil => .nil
  | _, _, 0, .cons _ r => .cons q r
  | _, _, j + 1, .cons h r => .cons h (Reps.set q j r)
theorem Reps.erase {C : Ct} {Z : Hp} : ∀ {ds : List D} {vs : List V} (j : Nat), Reps C Z ds vs → Reps C Z (ds.eraseIdx j) (vs.eraseIdx j)
  | _, _, _, .nil => .nil
  | _, _, 0, .cons _ r => r
  | _, _, j + 1, .cons h r => .cons h (Reps.erase j r)
theorem Reps.rev {C : Ct} {Z : Hp} : ∀ {ds : List D} {vs : List V}, Reps C Z ds vs → Reps C Z ds.reverse vs.reverse
  | _, _, .nil => .nil
  | _, _, .cons h r => by
    rw [List.reverse_cons, List.reverse_cons]
    exact (Reps.rev r).append (.cons h .nil)
theorem Reps.one {C : Ct} {Z : Hp} {d : D} {vs : List V} (h : Reps C Z [d] vs) : ∃ v, vs = [v] ∧ Rep C Z d v := by
  cases h with
  | cons h r => cases r; exact ⟨_, rfl, h⟩
theorem Reps.zero {C : Ct} {Z : Hp} {vs : List V} (h : Reps C Z [] vs) : vs = [] := by cases h; rfl

/-! ### methods that change their object -/
def mmId (m : String) : Option String := if m = "append" then some "list.append" else if m = "extend" then some "list.extend" else if m = "pop" then some "list.pop" else if m = "reverse" then some "list.reverse" else if m = "clear" then some "list.clear" else if m = "count" then some "list.count" else if m = "index" then some "list.index" else none
def rMm (C : Ct) (σ0 : St) (m : String) : V → List V → Hp → VK → Prop := fun x vs H Q => ∃ P ρ Z L i o ds o' fr res, Rel C P ρ Z L σ0 H ∧ ρ[i]? = some (.ow o) ∧ σ0[i]? = some (some x) ∧ Reps C Z ds vs ∧ mmD m o ds = some (o', fr, res) ∧
  ∀ Z' H', Le Z Z' → Rel C P (ρ.set i (.ow o')) Z' L σ0 H' → ∀ v, RepR C (ρ.set i (.ow o')) Z' L σ0 H' fr res v → Q v H'
section
variable {X : Cx} {C : Ct} {W : WX} {σ0 : St}
theorem mm_append : MtR X "list.append" (rMm C σ0 "append") := by
  intro pins s σ H x vs v us Q I rx rv ⟨P, ρ, Z, L, i, o, ds, o', fr, res, r, ho, hs, hr, hb, q⟩
  match o, ds, hb with
  | .lst xs, [d], hb =>
    have hb : (if xs.length < sizeLine then some (D.lst (xs ++ [d]), false, D.non) else none) = some (o', fr, res) := hb
    split at hb
    · rename_i hl
      cases hb
      obtain ⟨u, rfl, hu⟩ := hr.one
      obtain ⟨a, ha, ⟨z, ws, hw, rw'⟩, la⟩ := r.sl i _ _ ho hs
      cases ha
      have rr := r.chg (d' := .lst (xs ++ [d])) (ob := .lst (ws ++ [u])) ho hs ⟨z, _, upd_same, rw'.append (.cons hu .nil)⟩
      exact mt_append pins s σ H _ _ v us Q I rx rv ⟨a, ws, u, rfl, rfl, hw, by rw [← rw'.length]; exact hl, q Z _ (Le.refl Z) rr _ Rep.non⟩
    · cases hb
theorem mm_extend : MtR X "list.extend" (rMm C σ0 "extend") := by
  intro pins s σ H x vs v us Q I rx rv ⟨P, ρ, Z, L, i, o, ds, o', fr, res, r, ho, hs, hr, hb, q⟩
  match o, ds, hb with
  | .lst xs, [.lst ys], hb =>
    have hb : (if xs.length + ys.length ≤ sizeLine then some (D.lst (xs ++ ys), false, D.non) else none) = some (o', fr, res) := hb
    split at hb
    · rename_i hl
      cases hb
      obtain ⟨u, rfl, hu⟩ := hr.one
      obtain ⟨a, ha, ⟨z, ws, hw, rw'⟩, la⟩ := r.sl i _ _ ho hs
      cases ha
      cases hu with
      | @lst b _ us' hb hru =>
        have rr := r.chg (d' := .lst (xs ++ ys)) (ob := .lst (ws ++ us')) ho hs ⟨z, _, upd_same, rw'.append hru⟩
        exact mt_extend pins s σ H _ _ v us Q I rx rv ⟨a, b, ws, us', rfl, rfl, hw, r.zh _ _ hb, by rw [← rw'.length, ← hru.length]; exact hl, q Z _ (Le.refl Z) rr _ Rep.non⟩
    · cases hb
theorem mm_reverse : MtR X "list.reverse" (rMm C σ0 "reverse") := by
  intro pins s σ H x vs v us Q I rx rv ⟨P, ρ, Z, L, i, o, ds, o', fr, res, r, ho, hs, hr, hb, q⟩
  match o, ds, hb with
  | .lst xs, [], hb =>
    have hb : some (D.lst xs.reverse, false, D.non) = some (o', fr, res) := hb
    cases hb
    have e := hr.zero
    subst e
    obtain ⟨a, ha, ⟨z, ws, hw, rw'⟩, la⟩ := r.sl i _ _ ho hs
    cases ha
    have rr := r.chg (d' := .lst xs.reverse) (ob := .lst ws.reverse) ho hs ⟨z, _, upd_same, rw'.rev⟩
    exact mt_reverse pins s σ H _ _ v us Q I rx rv ⟨a, ws, rfl, rfl, hw, q Z _ (Le.refl Z) rr _ Rep.non⟩
theorem mm_clear : MtR X "list.clear" (rMm C σ0 "clear") := by
  intro pins s σ H x vs v us Q I rx rv ⟨P, ρ, Z, L, i, o, ds, o', fr, res, r, ho, hs, hr, hb, q⟩
  match o, ds, hb with
  | .lst xs, [], hb =>
    have hb : some (D.lst [], false, D.non) = some (o', fr, res) := hb
    cases hb
    have e := hr.zero
    subst e
    obtain ⟨a, ha, ⟨z, ws, hw, rw'⟩, la⟩ := r.sl i _ _ ho hs
    cases ha
    have rr := r.chg (d' := .lst []) (ob := .lst []) ho hs ⟨z, _, upd_same, .nil⟩
    exact mt_clear pins s σ H _ _ v us Q I rx rv ⟨a, ws, rfl, rfl, hw, q Z _ (Le.refl Z) rr _ Rep.non⟩
theorem mm_pop : MtR X "list.pop" (rMm C σ0 "pop") := by
  intro pins s σ H x vs v us Q I rx rv ⟨P, ρ, Z, L, i, o, ds, o', fr, res, r, ho, hs, hr, hb, q⟩
  match o, ds, hb with
  | .lst xs, [.int n], hb =>
    have hb : (match ixN xs.length n with
        | some k => (match xs[k]? with
          | some y => some (D.lst (xs.eraseIdx k), false, y)
          | none => none)
        | none => none) = some (o', fr, res) := hb
    cases e1 : ixN xs.length n with
    | none => rw [e1] at hb; cases hb
    | some k =>
      rw [e1] at hb
      cases e2 : xs[k]? with
      | none => simp only [e2] at hb; cases hb
      | some y =>
        simp only [e2] at hb
        cases hb
        obtain ⟨u, rfl, hu⟩ := hr.one
        cases hu
        obtain ⟨a, ha, ⟨z, ws, hw, rw'⟩, la⟩ := r.sl i _ _ ho hs
        cases ha
        obtain ⟨w, hw2, hrw⟩ := rw'.get e2
        have rr := r.chg (d' := .lst (xs.eraseIdx k)) (ob := .lst (ws.eraseIdx k)) ho hs ⟨z, _, upd_same, rw'.erase k⟩
        have e3 := e1
        rw [rw'.length] at e3
        obtain ⟨s1, s2, s3, s4⟩ := ixN_seq e3
        obtain ⟨sz, _⟩ := I.lstM hw
        have hz : (ws.length : Int) ≤ 2 ^ 30 := by have := sizeLine_eq; omega
        exact mt_popAt pins s σ H _ _ v us Q I rx rv ⟨a, ws, n, k, w, rfl, rfl, hw, by omega, by omega, s1, hw2, q Z _ (Le.refl Z) rr _ hrw⟩
theorem bls_vs {Z : Hp} : ∀ {xs : List D} {bs : List Bool} {vs : List V}, blsOf xs = some bs → Reps C Z xs vs → vs = bs.map V.bl
  | [], bs, vs, h, r => by
    cases h
    cases r
    rfl
  | .bl b :: xs, bs, vs, h, r => by
    simp only [blsOf, Option.map_eq_some_iff] at h
    obtain ⟨bs', h, rfl⟩ := h
    cases r with
    | cons q r =>
      cases q
      rw [bls_vs h r]
      rfl
  | .non :: _, _, _, h, _ => nomatch h
  | .int _ :: _, _, _, h, _ => nomatch h
  | .str _ :: _, _, _, h, _ => nomatch h
  | .tup _ :: _, _, _, h, _ => nomatch h
  | .lst _ :: _, _, _, h, _ => nomatch h
  | .dk _ :: _, _, _, h, _ => nomatch h
  | .dt _ :: _, _, _, h, _ => nomatch h
  | .ins _ _ :: _, _, _, h, _ => nomatch h
  | .ty _ :: _, _, _, h, _ => nomatch h
  | .scr _ :: _, _, _, h, _ => nomatch h
  | .exc _ :: _, _, _, h, _ => nomatch h
theorem Rel.sameOw {P : List (Nat × V)} {ρ : List Sl} {Z L : Hp} {H : Hp} {i : Nat} {o : D} (r : Rel C P ρ Z L σ0 H) (ho : ρ[i]? = some (.ow o)) : Rel C P (ρ.set i (.ow o)) Z L σ0 H := by
  have e : ρ.set i (.ow o) = ρ := by
    apply List.ext_getElem?
    intro j
    by_cases hj : i = j
    · subst hj
      have hi : i < ρ.length := (List.getElem?_eq_some_iff.mp ho).1
      rw [List.getElem?_set_self hi, ho]
    · rw [List.getElem?_set_ne hj]
  rw [e]
  exact r
theorem flat_bls (bs : List Bool) : (bs.map V.bl).all flatV = true := by
  rw [List.all_map]
  exact List.all_eq_true.mpr fun _ _ => rfl
theorem cnt_vals {y : V} : ∀ {ys : List V} {us : List Value}, Vals ys us → ys.all flatV = true → us.countP (eqU y) = ys.countP fun z => eqV z y
  | _, _, .nil, _ => rfl
  | z :: ys, u :: us, .cons r t, f => by
    rw [List.all_cons, Bool.and_eq_true] at f
    rw [List.countP_cons, List.countP_cons, cnt_vals t f.2, eqU_of r f.1]
theorem mm_count : MtR X "list.count" (rMm C σ0 "count") := by
  intro pins s σ H x vs v us Q I rx rv ⟨P, ρ, Z, L, i, o, ds, o', fr, res, r, ho, hs, hr, hb, q⟩
  match o, ds, hb with
  | .lst xs, [.bl b], hb =>
    have hb : (match blsOf xs with
        | some bs => some (D.lst xs, false, D.int (bs.count b : Nat))
        | none => none) = some (o', fr, res) := hb
    cases e1 : blsOf xs with
    | none => rw [e1] at hb; cases hb
    | some bs =>
      rw [e1] at hb
      cases hb
      obtain ⟨u, rfl, hu⟩ := hr.one
      cases hu
      obtain ⟨a, ha, ⟨z, ws, hw, rw'⟩, la⟩ := r.sl i _ _ ho hs
      cases ha
      have ew := bls_vs e1 rw'
      subst ew
      cases rx
      obtain ⟨u, rfl, ru⟩ := rv.one
      obtain ⟨its, rvi, ⟨⟨cls, dd, data, sl⟩, n, hob, hc, hdn, hd⟩, hlen⟩ := I.list (.inl (.inl hw))
      simp only at hc hd
      subst hc hd
      refine call_meets PySem.F.slot_list_count ⟨_, hob, rfl⟩ PySem.F.entry_list_count (PySem.F.args_list_count_2 _ _) (SeqAt.list_countAt a its.toArray n dd sl u (eqU (.bl b))) ⟨hob, fun w hw => mem_eqAt ru rfl rvi (flat_bls bs) w (by simpa using hw), ?_⟩
      have ec : its.toArray.toList.countP (eqU (.bl b)) = bs.count b := by
        show its.countP (eqU (.bl b)) = _
        rw [cnt_vals rvi (flat_bls bs), List.countP_map]
        rfl
      refine ⟨.int (bs.count b : Nat), H, I.tok _, ⟨s.toks, ?_⟩, q Z H (Le.refl Z) (r.sameOw ho) _ (Rep.int _)⟩
      show Value.int ((its.toArray.toList.countP (eqU (.bl b)) : Nat) : Int) s.toks = _
      rw [ec]
theorem mm_index : MtR X "list.index" (rMm C σ0 "index") := by
  intro pins s σ H x vs v us Q I rx rv ⟨P, ρ, Z, L, i, o, ds, o', fr, res, r, ho, hs, hr, hb, q⟩
  match o, ds, hb with
  | .lst xs, [.bl b], hb =>
    have hb : (match blsOf xs with
        | some bs => (match bs.findIdx? (fun c => c == b) with
          | some k => some (D.lst xs, false, D.int (k : Nat))
          | none => none)
        | none => none) = some (o', fr, res) := hb
    cases e1 : blsOf xs with
    | none => rw [e1] at hb; cases hb
    | some bs =>
      rw [e1] at hb
      cases e2 : bs.findIdx? (fun c => c == b) with
      | none => simp only [e2] at hb; cases hb
      | some k =>
        simp only [e2] at hb
        cases hb
        obtain ⟨u, rfl, hu⟩ := hr.one
        cases hu
        obtain ⟨a, ha, ⟨z, ws, hw, rw'⟩, la⟩ := r.sl i _ _ ho hs
        cases ha
        have ew := bls_vs e1 rw'
        subst ew
        obtain ⟨hk, h1, h2⟩ := List.findIdx?_eq_some_iff_getElem.mp e2
        refine mt_index pins s σ H _ _ v us Q I rx rv ⟨a, bs.map V.bl, .bl b, k, .bl bs[k], rfl, rfl, .inl (.inl hw), rfl, flat_bls bs, by rw [List.getElem?_map, List.getElem?_eq_getElem hk]; rfl, h1, fun m z' hm hz => ?_, q Z H (Le.refl Z) (r.sameOw ho) _ (Rep.int _)⟩
        rw [List.getElem?_map, List.getElem?_eq_getElem (by omega)] at hz
        cases hz
        have := h2 m hm
        show (bs[m] == b) = false
        simpa using this
/-- the call of one, by a name -/
theorem pe_mmE {m : String} {id : String} {x : Str} {name : Str} {i : Nat} {p apos cpos : Pos} {e : Expr} {es : List Expr} {fs : List Sl → R (List Op)} (slot : Slot "list" name id) (hty : typeOf (.builtin id) = pure (.type "method_descriptor")) (hm : ∀ σ0, MtR X id (rMm C σ0 m)) (hx : PE X (.Name x p) (tVar i))
    (ha : PA X (e :: es) (rdA C W fs)) (hfew : ((backTo cpos (starEach (e :: es) X.env)).all (fun x => !x.1) && (backToKw cpos (keywordEach [] X.env)).all (fun x => x.1.isSome) && decide ((e :: es).length + ([] : List Keyword).length + (if ([] : List Keyword).isEmpty then 0 else 1) < 30)) = true)
    (hline : (apos.endLine == cpos.line) = true) (hs : starEach (e :: es) X.env = (false, eval e X.env) :: starEach es X.env) (hpl : (backTo cpos (starEach es X.env)).any (·.1) = false) :
    PE X (.Call (.Attribute (.Name x p) name apos) (e :: es) [] cpos) (rdE C W fun ρ => match ρ[i]? with
    | some (.ow (.lst _)) => (fs ρ).bind fun os ρ1 => (match fzL ρ1 os with
      | some (ds, ρ2) => (match ρ2[i]? with
        | some (.ow o) => (match mmD m o ds with
          | some (o', x) => .ok x (ρ2.set i (.ow o'))
          | none => .stuck)
        | _ => .stuck)
      | none => .stuck)
    | _ => .stuck) := by
  refine ⟨fun pins s σ H Q I ⟨P, ρ, Z, L, r, q⟩ => (pe_bm PySem.F.plainAttrs_list slot hty (hm σ) hx ha rfl hfew hline hs hpl).run pins s σ H Q I ?_⟩
  simp only at q
  split at q
  · rename_i xs0 e0
    obtain ⟨w, hw, a, rfl, ⟨z0, ws0, hws0, _⟩, _⟩ := r.slot e0
    refine ⟨.ref a, hw, .inl ⟨rfl, ws0, SqL.of hws0⟩, P, ρ, Z, L, r, q.bind.mono fun os ρ1 Z1 H1 l1 r1 q1 vs hvs => ?_⟩
    cases ef : fzL ρ1 os with
    | none => simp only [ef] at q1; exact q1.elim
    | some pr =>
      obtain ⟨ds, ρ2⟩ := pr
      simp only [ef] at q1
      obtain ⟨Z2, l2, r2, hr⟩ := r1.fzL hvs ef
      split at q1
      · rename_i o ho
        cases em : mmD m o ds with
        | none => simp only [em] at q1; exact q1.elim
        | some tr =>
          obtain ⟨o', fr, res⟩ := tr
          simp only [em] at q1
          exact ⟨P, ρ2, Z2, L, i, o, ds, o', fr, res, r2, ho, hw, hr, em, fun Z' H' l' r' v hv => q1 Z' H' (l2.trans l') r' v hv⟩
      · exact q1.elim
  · exact q.elim
theorem pe_mmE0 {m : String} {id : String} {x : Str} {name : Str} {i : Nat} {p apos cpos : Pos} (slot : Slot "list" name id) (hty : typeOf (.builtin id) = pure (.type "method_descriptor")) (hm : ∀ σ0, MtR X id (rMm C σ0 m)) (hx : PE X (.Name x p) (tVar i)) (hline : (apos.endLine == cpos.line) = true) :
    PE X (.Call (.Attribute (.Name x p) name apos) [] [] cpos) (rdE C W fun ρ => match ρ[i]? with
    | some (.ow (.lst _)) => (R.ok [] ρ).bind fun os ρ1 => (match fzL ρ1 os with
      | some (ds, ρ2) => (match ρ2[i]? with
        | some (.ow o) => (match mmD m o ds with
          | some (o', x) => .ok x (ρ2.set i (.ow o'))
          | none => .stuck)
        | _ => .stuck)
      | none => .stuck)
    | _ => .stuck) := by
  refine ⟨fun pins s σ H Q I ⟨P, ρ, Z, L, r, q⟩ => (pe_bm0 PySem.F.plainAttrs_list slot hty (hm σ) hx rfl hline).run pins s σ H Q I ?_⟩
  simp only [R.bind, fzL] at q
  split at q
  · rename_i xs0 e0
    obtain ⟨w, hw, a, rfl, ⟨z0, ws0, hws0, hrr⟩, _⟩ := r.slot e0
    refine ⟨.ref a, hw, .inl ⟨rfl, ws0, SqL.of hws0⟩, ?_⟩
    simp only [e0] at q
    cases em : mmD m (.lst xs0) [] with
    | none => simp only [em] at q; exact q.elim
    | some tr =>
      obtain ⟨o', fr, res⟩ := tr
      simp only [em] at q
      exact ⟨P, ρ, Z, L, i, _, [], o', fr, res, r, e0, hw, .nil, em, fun Z' H' l' r' v hv => q Z' H' l' r' v hv⟩
  · exact q.elim

/-! ### isinstance -/
theorem Vw.tyx (k : C.K = X.K) {Z H : Hp} (zh : Le Z H) {d : D} {v : V} {c : String} (h : Vw C Z H d v) (e : d.cls = some c) : TyX X.K H v (.type c) := by
  cases d <;> (try (cases e; done))
  case non => cases e; cases h; exact .base .non
  case bl => cases e; cases h; exact .base (.bl _)
  case int => cases e; cases h; exact .base (.int _)
  case str => cases e; cases h; exact .base (.str _)
  case lst =>
    cases e
    obtain ⟨a, vs, rfl, ha, _⟩ := h
    exact .base (.lst ha)
  case dk =>
    cases e
    obtain ⟨a, vs, rfl, ha | ⟨o, ha⟩, _⟩ := h
    · exact .base (.dK ha)
    · exact .fDict ha
  case tup =>
    cases e
    obtain ⟨a, vs, rfl, ha, _⟩ := h
    have ha := zh.sqT ha
    rw [k] at ha
    rcases ha with (ha | ⟨o, ha⟩) | ⟨o, its, n, h1, h2, _⟩
    · exact .base (.tup ha)
    · exact .fTuple ha
    · exact .kTuple h1 h2
def clsNames : List String := ["NoneType", "bool", "int", "str", "tuple", "list", "dict"]
theorem D.cls_mem {d : D} {c : String} (h : d.cls = some c) : c ∈ clsNames := by
  cases d <;> cases h <;> decide
theorem isi_kit : ∀ c ∈ clsNames, ∀ k ∈ ["int", "bool", "str", "tuple", "list", "dict"], isiOne c k = kitB c k := by decide +kernel
theorem isi_ok {c k : String} {b : Bool} (hc : c ∈ clsNames) (h : isiOne c k = some b) : kitB c k = some b := by
  have hk : k ∈ ["int", "bool", "str", "tuple", "list", "dict"] := by
    unfold isiOne at h
    split at h
    · rename_i e; subst e; decide
    · split at h
      · rename_i e
        simp only [List.mem_cons, List.not_mem_nil, or_false]
        exact .inr e
      · cases h
  rw [← isi_kit c hc k hk]
  exact h
theorem pe_tyN {x : Str} {n : String} {p : Pos} (gl : Gl X x) (hm : X.mg x = none) (hv : bootBuiltins x = some (.type n)) (hn : x ≠ "__name__") (hdb : (x == ("__debug__" : Str)) = false) : PE X (.Name x p) (tC (.ty n)) := ⟨fun pins s σ H Q I h => ld_blt I gl hm hv ⟨.ty n, H, I, rfl, h⟩ hn hdb⟩
theorem pe_isiE {a : Expr} {ea : E} {fa : Ev} {x : Str} {n : String} {p p2 pos : Pos} (k : Cxk X C W) (gi : Gl X "isinstance") (mi : X.mg "isinstance" = none) (gl : Gl X x) (hm : X.mg x = none) (hv : bootBuiltins x = some (.type n)) (hn : x ≠ "__name__") (hdb : (x == ("__debug__" : Str)) = false)
    (ha : PE X a (rdO C W (opOf ea fa))) (hs : starEach [a, .Name x p2] X.env = (false, eval a X.env) :: starEach [.Name x p2] X.env) : PE X (.Call (.Name "isinstance" p) [a, .Name x p2] [] pos) (rdE C W fun ρ => (opOf ea fa ρ).bind fun x ρ1 => match x.rs ρ1 with
    | some d => (match isiD d [n] with
      | some b => .ok (false, .bl b) ρ1
      | none => .stuck)
    | none => .stuck) := by
  refine PE.imp (pe_callB call_isi gi mi (by decide +kernel) (pa_cons ha (pa_cons (pe_tyN gl hm hv hn hdb) pa_nil rfl) hs) (by decide) (by decide) hs rfl) fun σ H Q ⟨P, ρ, Z, L, r, q⟩ => ⟨P, ρ, Z, L, r, q.bind.mono fun x ρ1 Z1 H1 l1 r1 q1 v hv => ?_⟩
  cases e1 : x.rs ρ1 with
  | none => simp only [e1] at q1; exact q1.elim
  | some d =>
    simp only [e1] at q1
    cases e2 : isiD d [n] with
    | none => simp only [e2] at q1; exact q1.elim
    | some b =>
      simp only [e2] at q1
      unfold isiD at e2
      cases e3 : d.cls with
      | none => rw [e3] at e2; cases e2
      | some c =>
        rw [e3] at e2
        have e4 : isiOne c n = some b := by
          simp only [Option.bind, isiAny] at e2
          cases e5 : isiOne c n with
          | none => rw [e5] at e2; cases e2
          | some b' => rw [e5] at e2; cases b' <;> cases e2 <;> rfl
        exact ⟨v, .ty n, .type c, .type n, b, rfl, .ty n, (r1.rs hv e1).tyx k.hk r1.zh e3, kit_ty (isi_ok (D.cls_mem e3) e4), q1 Z1 H1 (Le.refl _) r1 _ (Rep.bl b)⟩
end
end L2.T
end

section
set_option Elab.async false
set_option linter.all false
set_option maxRecDepth 100000
set_option maxHeartbeats 4000000
set_option autoImplicit false
namespace L2.T
open PySem PySem.Spec PyProof.Rows

/-- the slots is set to vs, one behind the other -/
def setAll : List Nat → List V → St → St
  | i :: is, v :: vs, σ => setAll is vs (σ.set i (some v))
  | _, _, σ => σ
/-! ### x[i] = e -/
def rSet (C : Ct) (σ0 : St) : TSet := fun o i v H Q => ∃ P ρ Z L j od kd d od', Rel C P ρ Z L σ0 H ∧ ρ[j]? = some (.ow od) ∧ σ0[j]? = some (some o) ∧ Vw C Z H kd i ∧ Rep C Z d v ∧ setD od kd d = some od' ∧ ∀ H', Rel C P (ρ.set j (.ow od')) Z L σ0 H' → Q H'
theorem put_zip {C : Ct} {Z : Hp} {d : D} {v : V} (q : Rep C Z d v) {key : Key} : ∀ {kvs : List (Key × D)} {vs : List V}, Reps C Z (kvs.map (·.2)) vs → ∃ ws, putK ((kvs.map (·.1)).zip vs) key v = ((putA kvs key d).map (·.1)).zip ws ∧ Reps C Z ((putA kvs key d).map (·.2)) ws := by
  intro kvs vs h
  have hl := h.length
  rw [List.length_map] at hl
  have any : ((kvs.map (·.1)).zip vs).any (fun kv => decide (kv.1 = key)) = kvs.any (fun kv => decide (kv.1 = key)) := by
    rw [Bool.eq_iff_iff, List.any_eq_true, List.any_eq_true]
    constructor
    · rintro ⟨⟨k0, v0⟩, hm, e⟩
      have := (List.of_mem_zip hm).1
      obtain ⟨kv, h1, h2⟩ := List.mem_map.mp this
      exact ⟨kv, h1, by rw [h2]; exact e⟩
    · rintro ⟨kv, hm, e⟩
      obtain ⟨i, hi, he⟩ := List.mem_iff_getElem.mp hm
      have hiv : i < vs.length := by omega
      refine ⟨(kv.1, vs[i]), ?_, e⟩
      rw [List.mem_iff_getElem]
      refine ⟨i, by rw [List.length_zip, List.length_map]; omega, ?_⟩
      rw [List.getElem_zip, List.getElem_map, he]
  unfold putK putA
  rw [any]
  split
  · rename_i hany
    clear any hany
    induction kvs generalizing vs with
    | nil => cases h; exact ⟨[], rfl, .nil⟩
    | cons kv kvs ih =>
      cases h with
      | @cons _ v0 _ vs h0 hr =>
        obtain ⟨ws, e, hw⟩ := ih hr (by simpa using hl)
        by_cases hk : kv.1 = key
        · refine ⟨v :: ws, ?_, ?_⟩
          · simp only [List.map_cons, List.zip_cons_cons, if_pos hk]
            rw [e]
          · simp only [List.map_cons, if_pos hk]
            exact .cons q hw
        · refine ⟨v0 :: ws, ?_, ?_⟩
          · simp only [List.map_cons, List.zip_cons_cons, if_neg hk]
            rw [e]
          · simp only [List.map_cons, if_neg hk]
            exact .cons h0 hw
  · refine ⟨vs ++ [v], ?_, ?_⟩
    · rw [List.map_append, List.zip_append (by rw [List.length_map]; exact hl)]
      rfl
    · rw [List.map_append]
      exact h.append (.cons q .nil)
section
variable {X : Cx} {C : Ct} {W : WX}
theorem pset_ok (k : Cxk X C W) {σ0 : St} : PSet X (rSet C σ0) := by
  intro pins s σ H o i v ov iv u Q I ro ri rv ⟨P, ρ, Z, L, j, od, kd, d, od', r, ho, hs, hk, hd, hb, q⟩
  cases od <;> (try (cases hb; done))
  case lst xs =>
    cases kd <;> (try (cases hb; done))
    rename_i n
    cases hk
    simp only [setD, Option.map_eq_some_iff] at hb
    obtain ⟨m, e1, rfl⟩ := hb
    obtain ⟨a, ha, ⟨z, ws, hw, rw'⟩, la⟩ := r.sl j _ _ ho hs
    cases ha
    have rr := r.chg (d' := .lst (xs.set m d)) (ob := .lst (ws.set m v)) ho hs ⟨z, _, upd_same, rw'.set hd m⟩
    exact set_list pins s σ H _ _ _ ov iv u Q I ro ri rv ⟨a, ws, n, m, rfl, rfl, hw, by rw [← rw'.length]; exact e1, q _ rr⟩
  case dk kvs =>
    have hb : (match keyD kd with
      | some k => if kvs.length < sizeLine then some (D.dk (putA kvs k d)) else none
      | none => none) = some od' := by cases kd <;> exact hb
    cases ek : keyD kd with
    | none => rw [ek] at hb; cases hb
    | some key =>
      rw [ek] at hb
      simp only at hb
      split at hb
      · rename_i hl
        cases hb
        have hk := kV_key hk ek
        subst hk
        obtain ⟨a, ha, ⟨z, ws, hw, rw'⟩, la⟩ := r.sl j _ _ ho hs
        cases ha
        obtain ⟨us, e, hu⟩ := put_zip hd (key := key) rw'
        have rr := r.chg (d' := .dk (putA kvs key d)) (ob := .dK (((putA kvs key d).map (·.1)).zip us)) ho hs ⟨z, _, upd_same, hu⟩
        refine set_dict (by have := k.un; omega) pins s σ H _ _ _ ov iv u Q I ro ri rv ⟨a, _, rfl, DPut.k hw ?_, ?_⟩
        · have := rw'.length
          rw [List.length_zip, List.length_map]
          omega
        · rw [e]
          exact q _ rr
      · cases hb
theorem ps_sixT (k : Cxk X C W) {mv : List Nat} {x : Str} {i : Nat} {p pos pos' : Pos} {e ix : Expr} {ee ei : E} {fe fi : Ev} (hx : PE X (.Name x p) (tVar i)) (he : PE X e (rdO C W (opOf ee fe))) (hi : PE X ix (rdO C W (opOf ei fi))) (hs : swapsWithSole [.Subscript (.Name x p) ix pos'] e pos.line X.env = pure false)
    (ha : ∀ v, assign (.Subscript (.Name x p) ix pos') X.env v = (do
      let ov ← holding [v] (eval (.Name x p) X.env)
      let iv ← holding [v, ov] (eval ix X.env)
      standAt pos'
      holding [v, ov, iv] (setItem ov iv v)
      release [v, ov, iv] [])) (h1 : (assignEach [.Subscript (.Name x p) ix pos'] X.env).map (·.2) = [assign (.Subscript (.Name x p) ix pos') X.env]) (hw : swappedStores [.Subscript (.Name x p) ix pos'] e X.env = pure none) :
    PS X (.Assign [.Subscript (.Name x p) ix pos'] e pos) (rdS C W mv fun ρ => match ρ[i]? with
    | some (.ow _) => (opOf ee fe ρ).bind fun y ρ1 => (opOf ei fi ρ1).bind fun k ρ2 => (match y.fz ρ2 with
      | some (d, ρ3) => (match k.rs ρ3, ρ3[i]? with
        | some kd, some (.ow o) => (match setD o kd d with
          | some o' => .ok .nx (ρ3.set i (.ow o'))
          | none => .stuck)
        | _, _ => .stuck)
      | none => .stuck)
    | _ => .stuck) := by
  refine ⟨fun pins s σ H D I ⟨P, ρ, Z, L, pn, r, q⟩ => (ps_asg he (pg_sub hx hi (pset_ok (σ0 := σ) k) ha) hs hw h1).run pins s σ H D I ?_⟩
  simp only at q
  split at q
  · rename_i o0 e0
    obtain ⟨w, hw, a, rfl, _⟩ := r.slot e0
    refine ⟨P, ρ, Z, L, r, (ContS.bind (σ := σ) q).mono fun y ρ1 Z1 H1 l1 r1 q1 v hv => ⟨.ref a, hw, P, ρ1, Z1, L, r1, (ContS.bind (σ := σ) q1).mono fun kx ρ2 Z2 H2 l2 r2 q2 u hu => ?_⟩⟩
    have hv2 := hv.mono l2
    cases ef : y.fz ρ2 with
    | none => simp only [ef] at q2; exact q2.elim
    | some pr =>
      obtain ⟨d, ρ3⟩ := pr
      simp only [ef] at q2
      obtain ⟨Z3, l3, r3, hd⟩ := r2.fz hv2 ef
      cases ek : kx.rs ρ3 with
      | none => simp only [ek] at q2; exact q2.elim
      | some kd =>
        simp only [ek] at q2
        have hu3 := r3.rs (hu.mono l3) ek
        split at q2
        · rename_i kd' o e1 e2
          cases e1
          cases es : setD o kd d with
          | none => simp only [es] at q2; exact q2.elim
          | some o' =>
            simp only [es] at q2
            exact ⟨P, ρ3, Z3, L, i, o, kd, d, o', r3, e2, hw, hu3, hd, es, fun H' r' => q2 σ Z3 H' l3 r'⟩
        · exact q2.elim
  · exact q.elim

end
/-! ### values one behind the other, each as fresh as it is -/
inductive RepRs (C : Ct) (ρ : List Sl) (Z L : Hp) (σ : St) (H : Hp) : List (Bool × D) → List V → Prop
  | nil : RepRs C ρ Z L σ H [] []
  | sh {d v xs vs} : Rep C Z d v → RepRs C ρ Z L σ H xs vs → RepRs C ρ Z L σ H ((false, d) :: xs) (v :: vs)
  | ow {d a xs vs} : Own C Z H d a → L a = none → (∀ (i : Nat) (e : D), ρ[i]? = some (Sl.ow e) → σ[i]? ≠ some (some (V.ref a))) → (∀ (j : Nat) (e : D), xs[j]? = some (true, e) → vs[j]? ≠ some (V.ref a)) → RepRs C ρ Z L σ H xs vs → RepRs C ρ Z L σ H ((true, d) :: xs) (.ref a :: vs)
theorem RepRs.at {C : Ct} {ρ : List Sl} {Z L : Hp} {σ : St} {H : Hp} {xs : List (Bool × D)} {vs : List V} (h : RepRs C ρ Z L σ H xs vs) : ∀ (j : Nat) (e : D) (v : V), xs[j]? = some (true, e) → vs[j]? = some v → ∃ a, v = .ref a ∧ Own C Z H e a ∧ L a = none := by
  induction h with
  | nil => intro j e v h; simp at h
  | sh q r ih =>
    intro j e v h g
    cases j with
    | zero => simp at h
    | succ j => exact ih j e v (by simpa using h) (by simpa using g)
  | ow o l n m r ih =>
    intro j e v h g
    cases j with
    | zero => simp at h g; subst h; subst g; exact ⟨_, rfl, o, l⟩
    | succ j => exact ih j e v (by simpa using h) (by simpa using g)
theorem RepRs.lweak {C : Ct} {ρ : List Sl} {Z L L' : Hp} {σ : St} {H : Hp} (l : Le L L') {xs : List (Bool × D)} {vs : List V} (h : RepRs C ρ Z L' σ H xs vs) : RepRs C ρ Z L σ H xs vs := by
  induction h with
  | nil => exact .nil
  | sh q r ih => exact .sh q ih
  | @ow d a xs vs o la n m r ih => exact .ow o (by
      cases e : L a with
      | none => rfl
      | some u => rw [l a u e] at la; cases la) n m ih
section
variable {C : Ct} {P : List (Nat × V)} {ρ : List Sl} {Z L : Hp} {σ : St} {H : Hp}
/-- a fresh value is kept aside -/
theorem Rel.aside (r : Rel C P ρ Z L σ H) {d : D} {a : Addr} (o : Own C Z H d a) (la : L a = none) (na : ∀ (i : Nat) (e : D), ρ[i]? = some (Sl.ow e) → σ[i]? ≠ some (some (V.ref a))) : ∃ ob, H a = some ob ∧ Le L (upd L a ob) ∧ Rel C P ρ Z (upd L a ob) σ H := by
  obtain ⟨ob, hob⟩ := o.here
  refine ⟨ob, hob, Le.upd la, ⟨r.zh, fun b u e => ?_, fun b u e => ?_, r.len, fun j s v g1 g2 => ?_, r.ap, r.pin, r.tb.len hob (o.plnOf hob).1⟩⟩
  · by_cases hb : b = a
    · subst hb; rw [upd_same] at e; cases e; exact hob
    · rw [upd_ne hb] at e; exact r.lh b u e
  · have hb : b ≠ a := fun z => by subst z; rw [o.zn] at e; cases e
    rw [upd_ne hb]; exact r.zl b u e
  · have q := r.sl j s v g1 g2
    cases s with
    | un => trivial
    | sh d => exact q
    | ow e =>
      obtain ⟨b, h1, h2, h3⟩ := q
      have hb : b ≠ a := fun z => na j e g1 (by rw [g2, h1, z])
      exact ⟨b, h1, h2, by rw [upd_ne hb]; exact h3⟩
theorem RepRs.stored (hl : ρ.length = σ.length) {i : Nat} {fr : Bool} {d : D} {v : V} {xs : List (Bool × D)} {vs : List V} (h : RepRs C ρ Z L σ H xs vs) (hne : ∀ (j : Nat) (e : D) (a : Addr), fr = true → v = .ref a → xs[j]? = some (true, e) → vs[j]? ≠ some (V.ref a)) : RepRs C (ρ.set i (if fr then .ow d else .sh d)) Z L (σ.set i (some v)) H xs vs := by
  induction h with
  | nil => exact .nil
  | sh q rr ih => exact .sh q (ih fun j e a h1 h2 h3 => by simpa using hne (j + 1) e a h1 h2 (by simpa using h3))
  | @ow d1 b xs vs o lb nb mb rr ih =>
    refine .ow o lb (fun j e g z => ?_) mb (ih fun j e a h1 h2 h3 => by simpa using hne (j + 1) e a h1 h2 (by simpa using h3))
    by_cases hj : i = j
    · subst hj
      by_cases hi : i < ρ.length
      · rw [List.getElem?_set_self (by rw [← hl]; exact hi)] at z
        rw [List.getElem?_set_self hi] at g
        cases fr with
        | false => cases g
        | true =>
          cases z
          exact hne 0 d1 b rfl rfl rfl rfl
      · rw [List.getElem?_eq_none (by simpa using hi)] at g; cases g
    · rw [List.getElem?_set_ne hj] at g z
      exact nb j e g z
theorem Rel.storeAll {mv : List Nat} (pn : Pn mv P) : ∀ {is : List Nat} {xs : List (Bool × D)} {vs : List V} {ρ ρ' : List Sl} {σ : St}, Rel C P ρ Z L σ H → RepRs C ρ Z L σ H xs vs → parIn mv is xs ρ = some ρ' → vs.length = is.length ∧ Rel C P ρ' Z L (setAll is vs σ) H
  | [], [], _, ρ, ρ', σ, r, h, e => by
    cases h
    cases e
    exact ⟨rfl, r⟩
  | [], _ :: _, _, ρ, ρ', σ, r, h, e => by simp only [parIn] at e; cases e
  | _ :: _, [], _, ρ, ρ', σ, r, h, e => by simp only [parIn] at e; cases e
  | i :: is, (fr, d) :: xs, _, ρ, ρ', σ, r, h, e => by
    simp only [parIn, asgN] at e
    cases hm : mv.contains i with
    | true => rw [hm] at e; simp only [if_true] at e; cases e
    | false =>
      rw [hm] at e
      simp only [Bool.false_eq_true, if_false] at e
      have go : ∀ {v : V} {vs : List V}, RepR C ρ Z L σ H fr d v → RepRs C ρ Z L σ H xs vs → (∀ (j : Nat) (e : D) (a : Addr), fr = true → v = .ref a → xs[j]? = some (true, e) → vs[j]? ≠ some (V.ref a)) → vs.length = is.length ∧ Rel C P ρ' Z L (setAll is vs (σ.set i (some v))) H := by
        intro v vs hv hvs hne
        exact Rel.storeAll pn (r.store pn hv hm) (hvs.stored r.len hne) e
      cases h with
      | @sh _ v _ vs q rr =>
        obtain ⟨h1, h2⟩ := go (v := v) q rr (fun j e a h1 => by cases h1)
        exact ⟨congrArg Nat.succ h1, h2⟩
      | @ow _ a _ vs o la na ma rr =>
        obtain ⟨h1, h2⟩ := go (v := .ref a) ⟨a, rfl, o, la, na⟩ rr (fun j e b _ h2 h3 => by cases h2; exact ma j e h3)
        exact ⟨congrArg Nat.succ h1, h2⟩
end
def rdVs (C : Ct) (W : WX) (f : List Sl → R (List (Bool × D))) : TA := fun σ H Q => rdG C W f σ H fun _ L xs ρ' Z' H' => ∀ vs, RepRs C ρ' Z' L σ H' xs vs → Q vs H'
section
variable {X : Cx} {C : Ct} {W : WX} {e : Expr} {es : List Expr} {fe : Ev} {fr : List Sl → R (List (Bool × D))}
theorem pa_nilV : PA X [] (rdVs C W fun ρ => .ok [] ρ) := ⟨fun p pins s σ H Q I ⟨P, ρ, Z, L, r, q⟩ => pa_nil.run p pins s σ H Q I (q Z H (Le.refl _) r [] .nil)⟩
theorem pa_consV (he : PE X e (rdE C W fe)) (hr : PA X es (rdVs C W fr)) (hs : starEach (e :: es) X.env = (false, eval e X.env) :: starEach es X.env) : PA X (e :: es) (rdVs C W fun ρ => (fe ρ).bind fun x ρ1 => (fr ρ1).bind fun xs ρ2 => .ok (x :: xs) ρ2) := by
  refine ⟨fun p pins s σ H Q I ⟨P, ρ, Z, L, r, q⟩ => (pa_cons he hr hs).run p pins s σ H Q I ⟨P, ρ, Z, L, r, q.bind.mono fun x ρ1 Z1 H1 l1 r1 q1 v hv => ?_⟩⟩
  obtain ⟨f, d⟩ := x
  cases f with
  | false => exact ⟨P, ρ1, Z1, L, r1, q1.bind.mono fun xs ρ2 Z2 H2 l2 r2 q2 vs hvs => q2 Z2 H2 (Le.refl _) r2 (v :: vs) (.sh (Rep.mono l2 hv) hvs)⟩
  | true =>
    obtain ⟨a, rfl, o, la, na⟩ : ∃ a, v = .ref a ∧ Own C Z1 H1 d a ∧ L a = none ∧ ∀ (i : Nat) (e : D), ρ1[i]? = some (Sl.ow e) → σ[i]? ≠ some (some (V.ref a)) := hv
    obtain ⟨ob, hob, ll, r1'⟩ := r1.aside o la na
    have q1 := q1.bind
    refine ⟨P, ρ1, Z1, upd L a ob, r1', ?_⟩
    revert q1
    cases fr ρ1 with
    | stuck => exact fun q => q
    | ex x ρ2 => exact fun q cls dd Z2 H2 l2 r2 hx => q cls dd Z2 H2 l2 (r2.lweak ll) hx
    | ok xs ρ2 =>
      intro q1 Z2 H2 l2 r2 vs hvs
      have ha : H2 a = some ob := r2.lh a ob upd_same
      have hz : Z2 a = none := by
        cases e : Z2 a with
        | none => rfl
        | some u =>
          have := r2.zl a u e
          rw [upd_same] at this; cases this
      refine q1 Z2 H2 l2 (r2.lweak ll) Z2 H2 (Le.refl _) (r2.lweak ll) (.ref a :: vs) (.ow (o.move l2 hz fun u hu => by rw [hob] at hu; cases hu; exact ha) la (fun i e g z => ?_) (fun j e g z => ?_) (hvs.lweak ll))
      · obtain ⟨b, hb, _, hl⟩ := r2.sl i _ _ g z
        cases hb
        rw [upd_same] at hl; cases hl
      · obtain ⟨b, hb, _, hl⟩ := hvs.at j e _ g z
        cases hb
        rw [upd_same] at hl; cases hl
/-- parallel stores, of two and of three by the stack, else by a tuple -/
theorem ps_parT {mv is : List Nat} {st : Stmt} {t : TS} (h : PS X st t) (hi : ∀ D σ H, rdVs C W fr σ H (fun vs H1 => vs.length = is.length ∧ D.nx (setAll is vs σ) H1 ∧ ∀ p o, H1 p = none → D.nx (setAll is vs σ) (upd H1 p o)) → t D σ H) :
    PS X st (rdS C W mv fun ρ => (fr ρ).bind fun xs ρ1 => (R.of (parIn mv is xs ρ1) ρ1).bind fun ρ2 _ => .ok .nx ρ2) := by
  refine PS.imp h fun D σ H ⟨P, ρ, Z, L, pn, r, q⟩ => hi D σ H ⟨P, ρ, Z, L, r, (ContS.bind (σ := σ) q).mono fun xs ρ1 Z1 H1 l1 r1 q1 vs hvs => ?_⟩
  revert q1
  cases ea : parIn mv is xs ρ1 with
  | none => exact fun q1 => q1.elim
  | some ρ2 =>
    intro q1
    obtain ⟨h1, h2⟩ := r1.storeAll pn hvs ea
    exact ⟨h1, q1 _ Z1 H1 (Le.refl _) h2, fun p o hp => q1 _ Z1 _ (Le.refl _) (h2.alloc hp)⟩
theorem pgs_names {N : List Str} (hN : X.N.Nodup) : ∀ {xs : List (Str × Pos)} {is : List Nat}, xs.length = is.length → (∀ (j : Nat) (x : Str × Pos) (i : Nat), xs[j]? = some x → is[j]? = some i → X.N[i]? = some x.1 ∧ Loc X.env.scope x.1 ∧ (X.fn x.1 = true ∨ X.env.scope.names.lookup x.1 = some .local)) →
    (∀ (x : Str × Pos) (r : List (Str × Pos)), (assignEach ((x :: r).map fun y => Expr.Name y.1 y.2) X.env).map (·.2) = assign (.Name x.1 x.2) X.env :: (assignEach (r.map fun y => Expr.Name y.1 y.2) X.env).map (·.2)) →
    PGs X (xs.map fun y => Expr.Name y.1 y.2) (fun vs σ H Q => vs.length = is.length ∧ Q (setAll is vs σ) H)
  | [], [], _, _, _ => PGs.imp pgs_nil fun vs σ H Q ⟨h, q⟩ => by
    cases vs with
    | nil => exact ⟨rfl, q⟩
    | cons _ _ => simp at h
  | [], _ :: _, hl, _, _ => by simp at hl
  | _ :: _, [], hl, _, _ => by simp at hl
  | x :: xs, i :: is, hl, h, hs => by
    obtain ⟨h1, h2, h3⟩ := h 0 x i rfl rfl
    refine PGs.imp (pgs_cons (pg_name (pos := x.2) hN h1 h2 h3) (pgs_names (N := N) hN (by simpa using hl) (fun j y k g1 g2 => h (j + 1) y k (by simpa using g1) (by simpa using g2)) hs) (hs x xs)) fun vs σ H Q ⟨hv, q⟩ => ?_
    cases vs with
    | nil => simp at hv
    | cons v vs => exact ⟨v, vs, rfl, by simpa using hv, q⟩
end
end L2.T
end

section
set_option Elab.async false
set_option linter.all false
set_option maxRecDepth 100000
set_option maxHeartbeats 4000000
set_option autoImplicit false
namespace L2.T
open PySem PySem.Spec PyProof.Rows

/-! ### x op= e -/
def rAug (o : Operator) : TIp := fun x y H Q => ∃ i j n, x = .int i ∧ y = .int j ∧ augI o i j = some n ∧ Q (.int n) H
section
variable {X : Cx} {C : Ct} {W : WX}
theorem pip_aug (o : Operator) : PIp X o (rAug o) := by
  intro pins s σ H x y v u Q I rx ry ⟨i, j, n, ex, ey, hb, q⟩
  subst ex ey
  cases o <;> (try (cases hb; done))
  case Add => cases hb; exact iop_add pins s σ H _ _ v u Q I rx ry ⟨i, j, rfl, rfl, q⟩
  case Sub => cases hb; exact iop_sub pins s σ H _ _ v u Q I rx ry ⟨i, j, rfl, rfl, q⟩
  case Mult =>
    simp only [augI] at hb
    split at hb
    · rename_i hm
      cases hb
      have rule : OpR X (inplaceOp .Mult) (rI CMulW fun i j => .int (i * j)) := opI fun _ _ _ _ _ _ _ hc q => imul_int q hc.ok
      exact rule pins s σ H _ _ v u Q I rx ry ⟨i, j, rfl, rfl, mulOk_ok hm, q⟩
    · cases hb
  case FloorDiv =>
    simp only [augI] at hb
    split at hb
    · rename_i hm
      cases hb
      unfold divOk at hm
      simp only [Bool.and_eq_true, decide_eq_true_eq] at hm
      have rule : OpR X (inplaceOp .FloorDiv) (rI (fun _ j => j ≠ 0 ∧ j.natAbs.log2 < 9000) fun i j => .int (i.fdiv j)) := opI fun i j _ _ _ _ _ hc q => ifloordiv_int hc.1 q (.inl (PyProof.noPylong_of_log2 hc.2))
      exact rule pins s σ H _ _ v u Q I rx ry ⟨i, j, rfl, rfl, hm, q⟩
    · cases hb
  case Mod =>
    simp only [augI] at hb
    split at hb
    · cases hb
    · rename_i hm
      cases hb
      have rule : OpR X (inplaceOp .Mod) (rI (fun _ j => j ≠ 0) fun i j => .int (i.fmod j)) := opI fun i j _ _ _ _ _ hc q => imod_int hc q
      exact rule pins s σ H _ _ v u Q I rx ry ⟨i, j, rfl, rfl, hm, q⟩
theorem ps_augT {mv : List Nat} {x : Str} {i : Nat} {o : Operator} {p pos : Pos} {e : Expr} {ee : E} {fe : Ev} (hN : X.N.Nodup) (hi : X.N[i]? = some x) (hx : Loc X.env.scope x) (hf : X.fn x = true ∨ X.env.scope.names.lookup x = some .local) (he : PE X e (rdO C W (opOf ee fe))) :
    PS X (.AugAssign (.Name x p) o e pos) (rdS C W mv fun ρ => (binOp (.v i) ee (rdV i) fe (augD o) ρ).bind fun x ρ1 => (R.of (asgN mv i false x ρ1) ρ1).bind fun ρ2 _ => .ok .nx ρ2) := by
  refine PS.imp (ps_aug hN hi hx he (pip_aug o) hf) fun D σ H ⟨P, ρ, Z, L, pn, r, q⟩ => ?_
  obtain ⟨P', ρ', Z', L', r', q'⟩ := rd_binOp r (ContS.bind (σ := σ) q)
  have eo : opOf (.v i) (rdV i) ρ' = (match ρ'[i]? with
    | some (.sh _) => R.ok (Op.sl i) ρ'
    | some (.ow _) => R.ok (Op.sl i) ρ'
    | _ => R.stuck) := rfl
  rw [eo] at q'
  have key : ∀ {v : V}, σ[i]? = some (some v) → (∀ Z1 H1, Le Z' Z1 → Rel C P' ρ' Z1 L' σ H1 → ∀ v, OpV C Z1 σ (.sl i) v → rdO C W (opOf ee fe) σ H1 fun y H2 => ∃ ρ2 Z2 d e res, Rel C P ρ2 Z2 L σ H2 ∧ Vw C Z2 H2 d v ∧ Vw C Z2 H2 e y ∧ augD o d e = some res ∧ ∀ Z' H', Le Z2 Z' → Rel C P ρ2 Z' L σ H' → ContS C W P Z' L ((R.of (asgN mv i false res ρ2) ρ2).bind fun ρ2 _ => .ok .nx ρ2) D) → ∃ x, σ[i]? = some (some x) ∧ rdO C W (opOf ee fe) σ H fun y H1 => rAug o x y H1 fun z H2 => D.nx (σ.set i (some z)) H2 := by
    intro v hv q'
    refine ⟨v, hv, ?_⟩
    obtain ⟨P2, ρ2, Z2, L2, r2, q2⟩ := q' Z' H (Le.refl _) r' v hv
    refine ⟨P2, ρ2, Z2, L2, r2, q2.mono fun y ρ3 Z3 H3 l3 r3 q3 w hw => ?_⟩
    obtain ⟨ρ4, Z4, d, e, res, r4, h1, h2, h3, h4⟩ := q3 w hw
    match d, e, h3 with
    | .int a, .int b, h5 =>
      simp only [augD, Option.map_eq_some_iff] at h5
      obtain ⟨n, h6, rfl⟩ := h5
      refine ⟨a, b, n, h1, h2, h6, ?_⟩
      have z := h4 Z4 H3 (Le.refl _) r4
      revert z
      cases ea : asgN mv i false (.int n) ρ4 with
      | none => exact fun z => z.elim
      | some ρ5 =>
        intro z
        unfold asgN at ea
        split at ea
        · cases ea
        · rename_i hm
          cases ea
          exact z _ Z4 H3 (Le.refl _) (r4.store (fr := false) pn (Rep.int n) (by simpa using hm))
  cases e : ρ'[i]? with
  | none => rw [e] at q'; exact q'.elim
  | some sl =>
    rw [e] at q'
    cases sl with
    | un => exact q'.elim
    | sh d =>
      obtain ⟨w, hw, u, rfl, hu⟩ := r'.slot e
      exact key hw q'
    | ow d =>
      obtain ⟨w, hw, u, rfl, hu⟩ := r'.slot e
      exact key hw q'

/-! ### comprehensions -/
theorem pts_nilT : PTs X [] (rdT C W fun ρ => .ok true ρ) := ⟨fun pins s σ H Q I ⟨P, ρ, Z, L, r, q⟩ => pts_nil.run pins s σ H Q I (q Z H (Le.refl _) r)⟩
theorem pts_oneT {c : Expr} {fc : List Sl → R Bool} (h : PT X c (rdT C W fc)) : PTs X [c] (rdT C W fun ρ => (fc ρ).bind fun b ρ1 => if b then .ok true ρ1 else .ok false ρ1) := by
  refine ⟨fun pins s σ H Q I ⟨P, ρ, Z, L, r, q⟩ => (pts_one h).run pins s σ H Q I ⟨P, ρ, Z, L, r, q.bind.mono fun b ρ1 Z1 H1 l1 r1 q1 => ?_⟩⟩
  cases b with
  | true => exact q1 Z1 H1 (Le.refl _) r1
  | false => exact q1 Z1 H1 (Le.refl _) r1
end
theorem wipeAt_get (own : List Nat) : ∀ (r : List Sl) (n j : Nat), (wipeAt own n r)[j]? = if own.contains (n + j) then (r[j]?).map (fun _ => Sl.un) else r[j]?
  | [], n, j => by simp [wipeAt]
  | s :: r, n, 0 => by
    simp only [wipeAt, List.getElem?_cons_zero, Nat.add_zero]
    split <;> rfl
  | s :: r, n, j + 1 => by
    simp only [wipeAt, List.getElem?_cons_succ]
    rw [wipeAt_get own r (n + 1) j, show n + 1 + j = n + (j + 1) by omega]
theorem wipeAt_len (own : List Nat) : ∀ (r : List Sl) (n : Nat), (wipeAt own n r).length = r.length
  | [], _ => rfl
  | _ :: r, n => congrArg Nat.succ (wipeAt_len own r (n + 1))
theorem restoreAt_get (own : List Nat) : ∀ (r0 r : List Sl) (n j : Nat), r0.length = r.length → (restoreAt own n r0 r)[j]? = if own.contains (n + j) then r0[j]? else r[j]?
  | [], [], n, j, _ => by simp [restoreAt]
  | [], _ :: _, _, _, h => by simp at h
  | _ :: _, [], _, _, h => by simp at h
  | s0 :: r0, s :: r, n, 0, _ => by
    simp only [restoreAt, List.getElem?_cons_zero, Nat.add_zero]
    split <;> rfl
  | s0 :: r0, s :: r, n, j + 1, h => by
    simp only [restoreAt, List.getElem?_cons_succ]
    rw [restoreAt_get own r0 r (n + 1) j (by simpa using h), show n + 1 + j = n + (j + 1) by omega]
theorem restoreAt_len (own : List Nat) : ∀ (r0 r : List Sl) (n : Nat), (restoreAt own n r0 r).length = r.length
  | [], [], _ => rfl
  | [], _ :: _, _ => rfl
  | _ :: _, [], _ => rfl
  | _ :: r0, _ :: r, n => congrArg Nat.succ (restoreAt_len own r0 r (n + 1))
theorem wipe_get {σ : St} : ∀ {vs : List Nat} {j : Nat}, j ∉ vs → (wipe σ vs)[j]? = σ[j]?
  | [], _, _ => rfl
  | v :: vs, j, h => by
    unfold wipe
    rw [List.mem_cons, not_or] at h
    rw [List.getElem?_set_ne (Ne.symm h.1)]
    exact wipe_get h.2
theorem wipe_gone {σ : St} : ∀ {vs : List Nat} {j : Nat}, j ∈ vs → j < σ.length → (wipe σ vs)[j]? = some none
  | [], _, h, _ => by cases h
  | v :: vs, j, h, hl => by
    unfold wipe
    by_cases e : v = j
    · subst e
      rw [List.getElem?_set_self (by rw [wipe_length]; exact hl)]
    · rw [List.getElem?_set_ne e]
      exact wipe_gone (by rcases List.mem_cons.mp h with z | z; exact absurd z.symm e; exact z) hl
theorem wipe_same {vs ns : List Nat} {σ σ' : St} (h : Same ns σ σ') (hn : ∀ j ∈ ns, j ∈ vs) : wipe σ' vs = wipe σ vs := by
  apply List.ext_getElem?
  intro j
  by_cases hj : j ∈ vs
  · by_cases hl : j < σ.length
    · rw [wipe_gone hj hl, wipe_gone hj (by rw [h.1]; exact hl)]
    · rw [List.getElem?_eq_none (by rw [wipe_length, h.1]; omega), List.getElem?_eq_none (by rw [wipe_length]; omega)]
  · rw [wipe_get hj, wipe_get hj, h.2 j (fun z => hj (hn j z))]
theorem wipe_wipe {vs : List Nat} {σ : St} : wipe (wipe σ vs) vs = wipe σ vs := by
  apply List.ext_getElem?
  intro j
  by_cases hj : j ∈ vs
  · by_cases hl : j < σ.length
    · rw [wipe_gone hj hl, wipe_gone hj (by rw [wipe_length]; exact hl)]
    · rw [List.getElem?_eq_none (by rw [wipe_length, wipe_length]; omega), List.getElem?_eq_none (by rw [wipe_length]; omega)]
  · rw [wipe_get hj]
theorem wipeAt_idem (own : List Nat) : ∀ (r : List Sl) (n : Nat), wipeAt own n (wipeAt own n r) = wipeAt own n r
  | [], _ => rfl
  | s :: r, n => by
    simp only [wipeAt]
    rw [wipeAt_idem own r (n + 1)]
    congr 1
    split <;> rfl
section
variable {C : Ct} {P : List (Nat × V)} {ρ : List Sl} {Z L : Hp} {σ : St} {H : Hp}
theorem Rel.wipe (r : Rel C P ρ Z L σ H) (own : List Nat) : Rel C [] (wipeS own ρ) Z L (L2.wipe σ own) H := by
  have key : ∀ {j : Nat} {s : Sl} {v : Option V}, (wipeS own ρ)[j]? = some s → (L2.wipe σ own)[j]? = some v → s = .un ∨ (ρ[j]? = some s ∧ σ[j]? = some v) := fun {j s v} g1 g2 => by
    unfold wipeS at g1
    rw [wipeAt_get, Nat.zero_add] at g1
    by_cases hj : j ∈ own
    · rw [if_pos (List.contains_iff_mem.mpr hj)] at g1
      obtain ⟨_, _, e⟩ := Option.map_eq_some_iff.mp g1
      exact .inl e.symm
    · rw [if_neg (fun z => hj (List.contains_iff_mem.mp z))] at g1
      rw [wipe_get hj] at g2
      exact .inr ⟨g1, g2⟩
  refine ⟨r.zh, r.lh, r.zl, by unfold wipeS; rw [wipeAt_len, wipe_length]; exact r.len, fun j s v g1 g2 => ?_, fun j k d e a g1 g2 g3 g4 => ?_, fun j v h => (by cases h), r.tb⟩
  · rcases key g1 g2 with rfl | ⟨h1, h2⟩
    · trivial
    · exact r.sl j s v h1 h2
  · rcases key g1 g3 with e | ⟨h1, h3⟩
    · cases e
    · rcases key g2 g4 with e | ⟨h2, h4⟩
      · cases e
      · exact r.ap j k d e a h1 h2 h3 h4
theorem Rel.fill (r : Rel C P ρ Z L σ H) {p : Addr} {o : HO} (hp : H p = none) (ho : Nt o) : Rel C P ρ Z (upd L p o) σ (upd H p o) := by
  have r1 := r.alloc (o := o) hp
  refine ⟨r1.zh, fun b u e => ?_, fun b u e => ?_, r.len, fun j s v g1 g2 => ?_, r.ap, r.pin, r.tb.newL hp ho⟩
  · by_cases hb : b = p
    · subst hb; rw [upd_same] at e ⊢; exact e
    · rw [upd_ne hb] at e ⊢; exact r.lh b u e
  · have hb : b ≠ p := fun z => by subst z; rw [r.zfree hp] at e; cases e
    rw [upd_ne hb]; exact r.zl b u e
  · have q := r1.sl j s v g1 g2
    cases s with
    | un => trivial
    | sh d => exact q
    | ow d =>
      obtain ⟨a, h1, h2, h3⟩ := q
      have ha : a ≠ p := fun z => r.noslot hp j d g1 (by rw [g2, h1, z])
      exact ⟨a, h1, h2, by rw [upd_ne ha]; exact h3⟩
theorem Rel.refill {p : Addr} {o o' : HO} (ho : Pln o) (ho' : Nt o') (r : Rel C P ρ Z (upd L p o) σ H) : Rel C P ρ Z (upd L p o') σ (upd H p o') := by
  have zp : Z p = none := by
    cases e : Z p with
    | none => rfl
    | some u =>
      have := r.zl p u e
      rw [upd_same] at this; cases this
  refine ⟨fun b u e => ?_, fun b u e => ?_, fun b u e => ?_, r.len, fun j s v g1 g2 => ?_, r.ap, r.pin, r.tb.re (r.lh p o upd_same) ho ho'⟩
  · have hb : b ≠ p := fun z => by subst z; rw [zp] at e; cases e
    rw [upd_ne hb]; exact r.zh b u e
  · by_cases hb : b = p
    · subst hb; rw [upd_same] at e ⊢; exact e
    · rw [upd_ne hb] at e ⊢; exact r.lh b u (by rw [upd_ne hb]; exact e)
  · have hb : b ≠ p := fun z => by subst z; rw [zp] at e; cases e
    have := r.zl b u e
    rw [upd_ne hb] at this ⊢; exact this
  · have q := r.sl j s v g1 g2
    cases s with
    | un => trivial
    | sh d => exact q
    | ow d =>
      obtain ⟨a, h1, h2, h3⟩ := q
      have ha : a ≠ p := fun z => by subst z; rw [upd_same] at h3; cases h3
      rw [upd_ne ha] at h3
      exact ⟨a, h1, h2.move (Le.refl Z) h2.zn (fun u hu => by rw [upd_ne ha]; exact hu), by rw [upd_ne ha]; exact h3⟩
theorem noOwn_at {own : List Nat} {ρ : List Sl} (h : noOwn own ρ = true) {j : Nat} (hj : j ∈ own) {d : D} : ρ[j]? ≠ some (.ow d) := fun z => by
  unfold noOwn at h
  have := List.all_eq_true.mp h j hj
  rw [z] at this
  cases this
/-- behind the block -/
theorem Rel.unwipe {own : List Nat} {ρ1 ρ2 : List Sl} {Z1 H1 : Hp} {p : Addr} {ds : List D} {vs : List V} (r1 : Rel C P ρ1 Z1 L σ H1) (no : noOwn own ρ1 = true) (lz : Le Z1 Z) (lp : L p = none) (r : Rel C [] (wipeS own ρ2) Z (upd L p (.lst vs)) (L2.wipe σ own) H) (q : Reps C Z ds vs) :
    Rel C P (restore own ρ1 ρ2) Z L σ H ∧ RepR C (restore own ρ1 ρ2) Z L σ H true (.lst ds) (.ref p) := by
  have l2 : ρ2.length = σ.length := by have := r.len; unfold wipeS at this; rw [wipeAt_len, wipe_length] at this; exact this
  have hl : ρ1.length = ρ2.length := r1.len.trans l2.symm
  have zp : ∀ b u, Z b = some u → b ≠ p := fun b u e z => by
    subst z
    have := r.zl b u e
    rw [upd_same] at this; cases this
  have key : ∀ {j : Nat} {s : Sl} {v : Option V}, (restore own ρ1 ρ2)[j]? = some s → σ[j]? = some v → (j ∈ own ∧ ρ1[j]? = some s) ∨ ((wipeS own ρ2)[j]? = some s ∧ (L2.wipe σ own)[j]? = some v) := fun {j s v} g1 g2 => by
    unfold restore at g1
    rw [restoreAt_get own ρ1 ρ2 0 j hl, Nat.zero_add] at g1
    by_cases hj : j ∈ own
    · rw [if_pos (List.contains_iff_mem.mpr hj)] at g1
      exact .inl ⟨hj, g1⟩
    · have nj : ¬ (own.contains j = true) := fun z => hj (List.contains_iff_mem.mp z)
      rw [if_neg nj] at g1
      refine .inr ⟨?_, by rw [wipe_get hj]; exact g2⟩
      unfold wipeS
      rw [wipeAt_get, Nat.zero_add, if_neg nj]
      exact g1
  have ow : ∀ {j : Nat} {d : D} {a : Addr}, (restore own ρ1 ρ2)[j]? = some (.ow d) → σ[j]? = some (some (.ref a)) → (wipeS own ρ2)[j]? = some (.ow d) ∧ (L2.wipe σ own)[j]? = some (some (.ref a)) := fun {j d a} g1 g2 => by
    rcases key g1 g2 with ⟨h1, h2⟩ | h
    · exact absurd h2 (noOwn_at no h1)
    · exact h
  refine ⟨⟨r.zh, fun b u e => ?_, fun b u e => ?_, by unfold restore; rw [restoreAt_len]; exact l2, fun j s v g1 g2 => ?_, fun j k d e a g1 g2 g3 g4 => ?_, r1.pin, r.tb.pop lp⟩, p, rfl, ⟨?_, vs, r.lh p _ upd_same, q⟩, lp, fun i e g z => ?_⟩
  · have hb : b ≠ p := fun z => by subst z; rw [lp] at e; cases e
    exact r.lh b u (by rw [upd_ne hb]; exact e)
  · have := r.zl b u e
    rw [upd_ne (zp b u e)] at this
    exact this
  · rcases key g1 g2 with ⟨h1, h2⟩ | ⟨h1, h2⟩
    · cases s with
      | un => trivial
      | sh d =>
        obtain ⟨u, e, hu⟩ := r1.sl j _ _ h2 g2
        exact ⟨u, e, hu.mono lz⟩
      | ow d => exact absurd h2 (noOwn_at no h1)
    · have q := r.sl j s v h1 h2
      cases s with
      | un => trivial
      | sh d => exact q
      | ow d =>
        obtain ⟨a, e, h3, h4⟩ := q
        have ha : a ≠ p := fun z => by subst z; rw [upd_same] at h4; cases h4
        rw [upd_ne ha] at h4
        exact ⟨a, e, h3, h4⟩
  · obtain ⟨a1, a2⟩ := ow g1 g3
    obtain ⟨b1, b2⟩ := ow g2 g4
    exact r.ap j k d e a a1 b1 a2 b2
  · cases e : Z p with
    | none => rfl
    | some u => exact absurd rfl (zp p u e)
  · obtain ⟨a1, a2⟩ := ow g z
    obtain ⟨b, hb, _, h4⟩ := r.sl i _ _ a1 a2
    cases hb
    rw [upd_same] at h4; cases h4
end
def WF : WX := fun _ _ _ _ => False
def lcF (own : List Nat) (t : Tg) (fi : List Sl → R (List D)) (ft : List Sl → R Bool) (fel : Ev) : Ev := fun ρ => (fi ρ).bind fun ds ρ1 => if noOwn own ρ1 then
      (R.noex (lcGo own t ft fel ds [] ρ1)).bind fun acc ρ2 => .ok (true, .lst acc) (restore own ρ1 ρ2) else .stuck
section
variable {X : Cx} {C : Ct} {W : WX}
theorem lc_rd {own : List Nat} {t : Tg} {fi : List Sl → R (List D)} {ft : List Sl → R Bool} {fel : Ev} (hown : ∀ j ∈ t.slots, j ∈ own) {σ : St} {H : Hp} {Q : VK} (h : rdE C W (lcF own t fi ft fel) σ H Q) : tLc (rdI C W fi) (gTg C [] t) (rdT C WF ft) (rdE C WF fel) own σ H Q := by
  obtain ⟨P, ρ, Z, L, r, q⟩ := h
  refine ⟨P, ρ, Z, L, r, (Cont.bind q).mono fun ds ρ1 Z1 H1 l1 r1 q1 J wk p hp => ?_⟩
  by_cases no : noOwn own ρ1 = true
  · simp only [no, if_true] at q1
    have q1 : (R.noex (lcGo own t ft fel ds [] ρ1)).wp (fun acc ρ2 => ∀ Z2 H2, Le Z1 Z2 → Rel C P (restore own ρ1 ρ2) Z2 L σ H2 → ∀ v, RepR C (restore own ρ1 ρ2) Z2 L σ H2 true (.lst acc) v → Q v H2) (fun _ _ => False) := by
      revert q1
      cases lcGo own t ft fel ds [] ρ1 with
      | ok acc ρ2 => exact fun q => q
      | ex x ρ2 => exact fun q => q.elim
      | stuck => exact fun q => q.elim
    have r0 := (r1.wipe own).fill (o := .lst []) hp (pln_lst (vs := [])).1
    refine ⟨fun i m H => m = ds.length - i ∧ i ≤ ds.length ∧ ∃ ρ' Z' acc accV, Le Z1 Z' ∧ Rel C [] (wipeS own ρ') Z' (upd L p (.lst accV)) (L2.wipe σ own) H ∧ Reps C Z' acc accV ∧ (R.noex (lcGo own t ft fel (ds.drop i) acc ρ')).wp (fun acc ρ2 => ∀ Z2 H2, Le Z1 Z2 → Rel C P (restore own ρ1 ρ2) Z2 L σ H2 → ∀ v, RepR C (restore own ρ1 ρ2) Z2 L σ H2 true (.lst acc) v → Q v H2) (fun _ _ => False), ⟨ds.length, by simp, Nat.zero_le _, ρ1, Z1, [], [], Le.refl _, r0, .nil, q1⟩, ?_⟩
    rintro i m H ⟨rfl, hi, ρ', Z', acc, accV, l', r', ra, q'⟩
    have lh := l'.trans r'.zh
    have lp : L p = none := r1.lfree hp
    by_cases hlt : i < ds.length
    · refine .inr ⟨wk.go i H lh hlt, fun H2 => ∃ ρ' Z' acc accV, Le Z1 Z' ∧ Rel C [] (wipeS own ρ') Z' (upd L p (.lst accV)) (L2.wipe σ own) H2 ∧ Reps C Z' acc accV ∧ (R.noex (lcGo own t ft fel (ds.drop (i + 1)) acc ρ')).wp (fun acc ρ2 => ∀ Z2 H2, Le Z1 Z2 → Rel C P (restore own ρ1 ρ2) Z2 L σ H2 → ∀ v, RepR C (restore own ρ1 ρ2) Z2 L σ H2 true (.lst acc) v → Q v H2) (fun _ _ => False), fun H2 h => ⟨ds.length - (i + 1), by omega, rfl, hlt, h⟩, fun x H2 y => ?_⟩
      obtain ⟨d, hd, k⟩ := wk.yld i H x H2 lh hlt y
      obtain ⟨Z2, l2, r2, hx⟩ := k [] (wipeS own ρ') Z' (upd L p (.lst accV)) (L2.wipe σ own) l' r'
      have ed : ds.drop i = d :: ds.drop (i + 1) := by
        rw [List.drop_eq_getElem_cons hlt]
        congr 1
        rw [List.getElem?_eq_getElem hlt] at hd
        exact Option.some.inj hd
      rw [ed] at q'
      unfold lcGo at q'
      cases ea : asgT [] t false d (wipeS own ρ') with
      | none => rw [ea] at q'; exact q'.elim
      | some ρ3 =>
        rw [ea] at q'
        simp only at q'
        refine ⟨[], wipeS own ρ', Z2, upd L p (.lst accV), false, d, ρ3, (fun j v h => by cases h), r2, hx, ea, fun σ3 r3 s3 => ⟨?_, [], ρ3, Z2, upd L p (.lst accV), r3, ?_⟩⟩
        · rw [wipe_same s3 hown, wipe_wipe]
        · have ew : L2.wipe σ3 own = L2.wipe σ own := by rw [wipe_same s3 hown, wipe_wipe]
          revert q'
          cases ft ρ3 with
          | stuck => exact fun q => q.elim
          | ex x ρ4 => exact fun q => q.elim
          | ok b ρ4 =>
            intro q' Z4 H4 l4 r4
            cases b with
            | false =>
              simp only [R.bind, Bool.false_eq_true, if_false] at q' ⊢
              have r5 := r4.wipe own
              rw [ew] at r5
              exact ⟨ρ4, Z4, acc, accV, (l'.trans l2).trans l4, r5, ra.mono (l2.trans l4), q'⟩
            | true =>
              simp only [R.bind, if_true] at q' ⊢
              refine ⟨[], ρ4, Z4, upd L p (.lst accV), r4, ?_⟩
              revert q'
              cases fel ρ4 with
              | stuck => exact fun q => q.elim
              | ex x ρ5 => exact fun q => q.elim
              | ok x ρ5 =>
                intro q' Z5 H5 l5 r5 v hv
                simp only at q'
                obtain ⟨Z6, l6, r6, hr⟩ := r5.freeze hv
                have hacc : acc.length < sizeLine := by
                  by_cases hz : acc.length < sizeLine
                  · exact hz
                  · rw [if_neg hz] at q'; exact q'.elim
                rw [if_pos hacc] at q'
                refine ⟨accV, r6.lh p _ upd_same, by rw [← ra.length]; exact hacc, ρ5, Z6, acc ++ [x.2], accV ++ [v], (((l'.trans l2).trans l4).trans l5).trans l6, ?_, (ra.mono (((l2.trans l4).trans l5).trans l6)).append (.cons hr .nil), q'⟩
                have r7 := (r6.wipe own).refill (o' := .lst (accV ++ [v])) (pln_lst (vs := accV)) (pln_lst (vs := accV ++ [v])).1
                rw [ew] at r7
                exact r7
    · have e : i = ds.length := by omega
      subst e
      rw [List.drop_length] at q'
      obtain ⟨h1, h2⟩ := r1.unwipe no l' lp r' ra
      exact .inl ⟨wk.stop _ H lh (Nat.le_refl _), q' Z' H l' h1 _ h2⟩
  · rw [if_neg no] at q1
    exact q1.elim
end
end L2.T
end

section
set_option Elab.async false
set_option linter.all false
set_option maxRecDepth 100000
set_option maxHeartbeats 4000000
set_option autoImplicit false
namespace L2.T
open PySem PySem.Spec PyProof.Rows

/-! ### a dict that is locked, and free again -/
def Dct : HO → Prop
  | .dK _ => True
  | .dT _ => True
  | _ => False
/-- the same, but dicts locked or free -/
def Lk (Z Z' : Hp) : Prop := ∀ a o, Z a = some o → Z' a = some o ∨ (∃ ob u, Dct u ∧ o = .frz ob u ∧ Z' a = some u) ∨ (Dct o ∧ ∃ ob, Z' a = some (.frz ob o))
theorem Lk.keep {Z Z' : Hp} (l : Lk Z Z') {a : Addr} {o : HO} (h : Z a = some o) (h1 : ¬ Dct o) (h2 : ∀ ob u, Dct u → o ≠ .frz ob u) : Z' a = some o := by
  rcases l a o h with h | ⟨ob, u, hu, e, _⟩ | ⟨hd, _⟩
  · exact h
  · exact absurd e (h2 ob u hu)
  · exact absurd hd h1
theorem Lk.rd {Z Z' : Hp} (l : Lk Z Z') {a : Addr} {u : HO} (hu : Dct u) (h : Rd Z a u) : Rd Z' a u := by
  rcases h with h | ⟨o, h⟩
  · rcases l a u h with h | ⟨ob, u', hu', e, _⟩ | ⟨_, ob, h⟩
    · exact .inl h
    · rw [e] at hu; exact hu.elim
    · exact .inr ⟨ob, h⟩
  · rcases l a _ h with h | ⟨ob, u', _, e, h⟩ | ⟨hd, _⟩
    · exact .inr ⟨o, h⟩
    · cases e; exact .inl h
    · exact hd.elim
theorem Lk.sqT {Z Z' : Hp} (l : Lk Z Z') {K : PySem.W.Frag} {a : Addr} {xs : List V} (h : SqT K Z a xs) : SqT K Z' a xs := by
  rcases h with (h | ⟨o, h⟩) | h
  · exact .inl (.inl (l.keep h (fun z => z) fun _ _ _ z => nomatch z))
  · exact .inl (.inr ⟨o, l.keep h (fun z => z) fun ob u hu z => by cases z; exact hu⟩)
  · exact .inr h
theorem Lk.sqL {Z Z' : Hp} (l : Lk Z Z') {K : PySem.W.Frag} {a : Addr} {xs : List V} (h : SqL K Z a xs) : SqL K Z' a xs := by
  rcases h with (h | ⟨o, h⟩) | h
  · exact .inl (.inl (l.keep h (fun z => z) fun _ _ _ z => nomatch z))
  · exact .inl (.inr ⟨o, l.keep h (fun z => z) fun ob u hu z => by cases z; exact hu⟩)
  · exact .inr h
mutual
theorem Rep.lk {C : Ct} {Z Z' : Hp} (l : Lk Z Z') : ∀ {d : D} {v : V}, Rep C Z d v → Rep C Z' d v
  | _, _, .non => .non
  | _, _, .bl b => .bl b
  | _, _, .int i => .int i
  | _, _, .str x => .str x
  | _, _, .ty n => .ty n
  | _, _, .tup h r => .tup (l.sqT h) (Reps.lk l r)
  | _, _, .lst h r => .lst (l.keep h (fun z => z) fun _ _ _ z => nomatch z) (Reps.lk l r)
  | _, _, .scr h => .scr (l.sqL h)
  | _, _, .exc h => .exc (l.keep h (fun z => z) fun _ _ _ z => nomatch z)
  | _, _, .dk h r => .dk (l.rd trivial h) (Reps.lk l r)
  | _, _, .dt h r => .dt (l.rd trivial h) (Reps.lk l r)
  | _, _, .ins h n r => .ins (l.keep h (fun z => z) fun _ _ _ z => nomatch z) n (Reps.lk l r)
theorem Reps.lk {C : Ct} {Z Z' : Hp} (l : Lk Z Z') : ∀ {ds : List D} {vs : List V}, Reps C Z ds vs → Reps C Z' ds vs
  | _, _, .nil => .nil
  | _, _, .cons h r => .cons (Rep.lk l h) (Reps.lk l r)
end
theorem Own.lk {C : Ct} {Z Z' H H' : Hp} (l : Lk Z Z') : ∀ {d : D} {a : Addr}, Own C Z H d a → Z' a = none → (∀ o, H a = some o → H' a = some o) → Own C Z' H' d a
  | .lst _, _, ⟨_, vs, h, r⟩, hz, hh => ⟨hz, vs, hh _ h, r.lk l⟩
  | .dk _, _, ⟨_, vs, h, r⟩, hz, hh => ⟨hz, vs, hh _ h, r.lk l⟩
  | .dt _, _, ⟨_, vs, h, r⟩, hz, hh => ⟨hz, vs, hh _ h, r.lk l⟩
  | .ins _ _, _, ⟨_, dx, vs, h, n, r⟩, hz, hh => ⟨hz, dx, vs, hh _ h, n, r.lk l⟩
  | .non, _, h, _, _ => h.elim
  | .bl _, _, h, _, _ => h.elim
  | .int _, _, h, _, _ => h.elim
  | .str _, _, h, _, _ => h.elim
  | .tup _, _, h, _, _ => h.elim
  | .ty _, _, h, _, _ => h.elim
  | .scr _, _, h, _, _ => h.elim
  | .exc _, _, h, _, _ => h.elim
/-- u and u': a dict, free and locked -/
def Tw (u u' : HO) : Prop := Dct u ∧ (∃ ob, u' = .frz ob u) ∨ Dct u' ∧ ∃ ob, u = .frz ob u'
theorem Tw.lk {u u' : HO} (t : Tw u u') {Z : Hp} {d : Addr} (h : Z d = some u) : Lk Z (upd Z d u') := fun a o e => by
  by_cases hb : a = d
  · rw [hb, upd_same]
    rw [hb, h] at e
    cases e
    rcases t with ⟨h1, ob, h2⟩ | ⟨h1, ob, h2⟩
    · exact .inr (.inr ⟨h1, ob, by rw [h2]⟩)
    · exact .inr (.inl ⟨ob, u', h1, h2, rfl⟩)
  · rw [upd_ne hb]
    exact .inl e
theorem Tw.pln {u u' : HO} (t : Tw u u') : Pln u ∧ Pln u' := by
  have dp : ∀ {u : HO}, Dct u → Pln u := fun {u} h => by cases u <;> first | exact h.elim | exact ⟨fun _ z => (nomatch z), fun _ z => (nomatch z)⟩
  rcases t with ⟨h1, ob, rfl⟩ | ⟨h1, ob, rfl⟩
  · exact ⟨dp h1, ⟨fun _ z => (nomatch z), fun _ z => (nomatch z)⟩⟩
  · exact ⟨⟨fun _ z => (nomatch z), fun _ z => (nomatch z)⟩, dp h1⟩
section
variable {C : Ct} {P : List (Nat × V)} {ρ : List Sl} {Z L : Hp} {σ : St} {H : Hp}
theorem Rel.tw (r : Rel C P ρ Z L σ H) {d : Addr} {u u' : HO} (h : Z d = some u) (t : Tw u u') : Rel C P ρ (upd Z d u') L σ (upd H d u') := by
  have lk := t.lk h
  refine ⟨fun b o e => ?_, fun b o e => ?_, fun b o e => ?_, r.len, fun i s v h1 h2 => ?_, r.ap, r.pin, ?_⟩
  · by_cases hb : b = d
    · rw [hb, upd_same] at e ⊢; exact e
    · rw [upd_ne hb] at e ⊢; exact r.zh b o e
  · have hb : b ≠ d := fun z => by rw [z, r.zl d u h] at e; cases e
    rw [upd_ne hb]; exact r.lh b o e
  · by_cases hb : b = d
    · rw [hb]; exact r.zl d u h
    · rw [upd_ne hb] at e; exact r.zl b o e
  · have q := r.sl i s v h1 h2
    cases s with
    | un => trivial
    | sh e => obtain ⟨w, h3, h4⟩ := q; exact ⟨w, h3, h4.lk lk⟩
    | ow e =>
      obtain ⟨b, h3, h4, h5⟩ := q
      have hb : b ≠ d := fun z => by have := h4.zn; rw [z, h] at this; cases this
      exact ⟨b, h3, h4.lk lk (by rw [upd_ne hb]; exact h4.zn) (fun o z => by rw [upd_ne hb]; exact z), h5⟩
  · have hd := r.zh d u h
    have z := r.tb.put (u := u') hd t.pln.1
    refine ⟨z.tabs, fun p hp => ?_, z.ln, nt_upd r.tb.zt t.pln.2.1, z.lt⟩
    have hb : p.1 ≠ d := fun z => by have := r.tb.zn p hp; rw [z, h] at this; cases this
    rw [upd_ne hb]
    exact r.tb.zn p hp
theorem RepR.tw (r : Rel C P ρ Z L σ H) {d : Addr} {u u' : HO} (h : Z d = some u) (t : Tw u u') {fr : Bool} {e : D} {v : V} (q : RepR C ρ Z L σ H fr e v) : RepR C ρ (upd Z d u') L σ (upd H d u') fr e v := by
  cases fr with
  | false => exact Rep.lk (t.lk h) q
  | true =>
    obtain ⟨a, rfl, h4, h5, h6⟩ : ∃ a, v = .ref a ∧ Own C Z H e a ∧ L a = none ∧ ∀ (i : Nat) (e : D), ρ[i]? = some (Sl.ow e) → σ[i]? ≠ some (some (V.ref a)) := q
    have hb : a ≠ d := fun z => by have := h4.zn; rw [z, h] at this; cases this
    exact ⟨a, rfl, h4.lk (t.lk h) (by rw [upd_ne hb]; exact h4.zn) (fun o z => by rw [upd_ne hb]; exact z), h5, h6⟩
end
theorem upd_upd {Z : Hp} {d : Addr} {u u' : HO} : upd (upd Z d u) d u' = upd Z d u' := by
  funext b
  by_cases hb : b = d
  · rw [hb, upd_same, upd_same]
  · rw [upd_ne hb, upd_ne hb, upd_ne hb]
/-- what others own may be less -/
theorem Rel.subL {C : Ct} {P : List (Nat × V)} {ρ : List Sl} {Z L L' : Hp} {σ : St} {H : Hp} (r : Rel C P ρ Z L' σ H) (l : Le L L') : Rel C P ρ Z L σ H := by
  have ln : ∀ {a : Addr}, L' a = none → L a = none := fun {a} h => by
    cases q : L a with
    | none => rfl
    | some o => rw [l _ _ q] at h; cases h
  refine ⟨r.zh, l.trans r.lh, fun a o e => ln (r.zl a o e), r.len, fun i s v h1 h2 => ?_, r.ap, r.pin, r.tb.sub l⟩
  have q := r.sl i s v h1 h2
  cases s with
  | un => trivial
  | sh e => exact q
  | ow e => obtain ⟨b, h3, h4, h5⟩ := q; exact ⟨b, h3, h4, ln h5⟩
theorem Cont.wider {C : Ct} {W : WX} {P : List (Nat × V)} {Z L L' : Hp} {σ : St} {α : Type} {r : R α} {K : KT α} (l : Le L L') (h : Cont C W P Z L σ r K) : Cont C W P Z L' σ r K :=
  R.wp_mono h (fun a ρ' q Z' H' lz rr => q Z' H' lz (rr.subL l)) fun x ρ' q cls dd Z' H' lz rr => q cls dd Z' H' lz (rr.subL l)
section
variable {X : Cx} {C : Ct} {W : WX} {mv : List Nat} {pos : Pos} {tg e : Expr} {fe : Ev}
/-- the turns of a loop -/
theorem for_turns {P : List (Nat × V)} {ρ1 : List Sl} {Z1 L : Hp} {σ : St} {H1 : Hp} {ds : List D} {J : It} {t : Tg} {fb : List Sl → R Fl} {D : Ends} (pn : Pn mv P) (wk : Wk C Z1 J ds) (r1 : Rel C P ρ1 Z1 L σ H1) (q1 : ContS C W P Z1 L (forGo mv t fb ds ρ1) D) :
    ∃ Iv : Nat → Nat → St → Hp → Prop, (∃ m, Iv 0 m σ H1) ∧ ∀ i m σ H, Iv i m σ H → (J.stop i H ∧ D.nx σ H) ∨ (J.go i H ∧ ∃ Pn : St → Hp → Prop, (∀ σ' H', Pn σ' H' → ∃ m', m' < m ∧ Iv (i + 1) m' σ' H') ∧ ∀ x H', J.yld i H x H' → gTg C mv t x σ H' fun σ' H2 => rdS C W mv fb { D with nx := Pn, bk := D.nx, ct := Pn } σ' H2) := by
  refine ⟨fun i m σ' H' => m = ds.length - i ∧ i ≤ ds.length ∧ ∃ ρ' Z', Le Z1 Z' ∧ Rel C P ρ' Z' L σ' H' ∧ ContS C W P Z' L (forGo mv t fb (ds.drop i) ρ') D, ⟨ds.length, by simp, Nat.zero_le _, ρ1, Z1, Le.refl _, r1, q1⟩, ?_⟩
  rintro i m σ' H' ⟨rfl, hi, ρ', Z', l', r', q'⟩
  have lh := l'.trans r'.zh
  by_cases hlt : i < ds.length
  · refine .inr ⟨wk.go i H' lh hlt, fun σ2 H2 => ∃ ρ2 Z2, Le Z1 Z2 ∧ Rel C P ρ2 Z2 L σ2 H2 ∧ ContS C W P Z2 L (forGo mv t fb (ds.drop (i + 1)) ρ2) D, fun σ2 H2 ⟨ρ2, Z2, h1, h2, h3⟩ => ⟨ds.length - (i + 1), by omega, rfl, hlt, ρ2, Z2, h1, h2, h3⟩, fun x H2 y => ?_⟩
    obtain ⟨d, hd, k⟩ := wk.yld i H' x H2 lh hlt y
    obtain ⟨Z2, l2, r2, hx⟩ := k P ρ' Z' L σ' l' r'
    have ed : ds.drop i = d :: ds.drop (i + 1) := by
      rw [List.drop_eq_getElem_cons hlt]
      congr 1
      rw [List.getElem?_eq_getElem hlt] at hd
      exact Option.some.inj hd
    rw [ed] at q'
    unfold forGo at q'
    cases ea : asgT mv t false d ρ' with
    | none => rw [ea] at q'; exact q'.elim
    | some ρ3 =>
      rw [ea] at q'
      simp only at q'
      refine ⟨P, ρ', Z2, L, false, d, ρ3, pn, r2, hx, ea, fun σ3 r3 _ => ⟨P, ρ3, Z2, L, pn, r3, ?_⟩⟩
      revert q'
      cases fb ρ3 with
      | stuck => exact fun q => q
      | ex x ρ4 => exact fun q cls dd σ4 Z4 H4 l4 r4 => q cls dd σ4 Z4 H4 (l2.trans l4) r4
      | ok fl ρ4 =>
        intro q' σ4 Z4 H4 l4 r4
        cases fl with
        | nx => exact ⟨ρ4, Z4, (l'.trans l2).trans l4, r4, ContS.more (l2.trans l4) q'⟩
        | ct => exact ⟨ρ4, Z4, (l'.trans l2).trans l4, r4, ContS.more (l2.trans l4) q'⟩
        | bk => exact q' σ4 Z4 H4 (l2.trans l4) r4
        | rt fr d => exact q' σ4 Z4 H4 (l2.trans l4) r4
  · have e : i = ds.length := by omega
    subst e
    rw [List.drop_length] at q'
    exact .inl ⟨wk.stop _ H' lh (Nat.le_refl _), q' σ' Z' H' (Le.refl _) r'⟩
end
end L2.T
end

section
set_option Elab.async false
set_option linter.all false
set_option maxRecDepth 100000
set_option maxHeartbeats 4000000
set_option autoImplicit false
namespace L2.T
open PySem PySem.Spec PyProof.Rows

theorem rep_key {C : Ct} {Z : Hp} (k : Key) : Rep C Z (keyV k) (kV k) := by
  cases k with
  | inl i => exact .int i
  | inr x => exact .str x
theorem wk_keys {C : Ct} {Z : Hp} {d : Addr} {o : Obj} {kvs : List (Key × D)} {vs : List V} (h : Z d = some (.frz o (.dK ((kvs.map (·.1)).zip vs)))) (hl : kvs.length = vs.length) : Wk C Z (Itk d o ((kvs.map (·.1)).zip vs)) ((kvs.map (·.1)).map keyV) := by
  have e1 : ((kvs.map (·.1)).map keyV).length = kvs.length := by rw [List.length_map, List.length_map]
  have e2 : ((kvs.map (·.1)).zip vs).length = kvs.length := by rw [List.length_zip, List.length_map]; omega
  refine ⟨fun i H l hi => ⟨l _ _ h, by omega⟩, fun i H l hi => ⟨l _ _ h, by omega⟩, fun i H x H' l hi y => ?_⟩
  obtain ⟨rfl, k, v, hk, rfl⟩ := y
  refine ⟨keyV k, ?_, fun P ρ Zc L σ lc rc => ⟨Zc, Le.refl _, rc, rep_key k⟩⟩
  rw [List.getElem?_map]
  have : (kvs.map (·.1))[i]? = some k := by
    rw [List.getElem?_zip_eq_some] at hk
    exact hk.1
  rw [this]
  rfl
theorem ContS.noex {C : Ct} {W : WX} {P : List (Nat × V)} {Z L : Hp} {r : R Fl} {D : Ends} (h : ContS C W P Z L (R.noex r) D) : ∃ fl ρ', r = .ok fl ρ' ∧ ContS C W P Z L (.ok fl ρ') D := by
  cases r with
  | ok fl ρ' => exact ⟨fl, ρ', rfl, h⟩
  | ex x ρ' => exact h.elim
  | stuck => exact h.elim
section
variable {X : Cx} {C : Ct} {W : WX} {mv : List Nat} {pos : Pos} {tg : Expr}
theorem run_forK {body : List Stmt} {t : Tg} {fb : List Sl → R Fl} {x : Str} {p : Pos} {i : Nat} (kx : Cxk X C W) (po : PassesOwn (model X.prog X.w) X.A X.env X.xe) (hx : PE X (.Name x p) (tVar i)) (hg : PG X tg (gTg C mv t)) (hb : PSs X body (rdS C W mv fb))
    {pins : List (Addr × Obj)} {s : Shared} {σ : St} {H : Hp} {De : Ends} {P : List (Nat × V)} {ρ : List Sl} {Z L : Hp} {kvs : List (Key × D)} (I : Inv X pins σ H s) (pn : Pn mv P) (r : Rel C P ρ Z L σ H) (hd : ρ[i]? = some (.sh (.dk kvs))) (q : ContS C W P Z L (R.noex (forGo mv t fb ((kvs.map (·.1)).map keyV) ρ)) De) :
    wpAny (model X.prog X.w) X.A (exec (.For tg (.Name x p) body [] pos) X.env) (SP X pins De) X.xe s := by
  obtain ⟨v, hv, u, rfl, hr⟩ := r.slot hd
  obtain ⟨fl, ρ', ef, q⟩ := q.noex
  cases hr with
  | dk h ra =>
    rename_i a vs
    have hl := ra.length
    rw [List.length_map] at hl
    rcases h with h | ⟨o, h⟩
    · refine (ps_lock (ps_for po kx.calm (pi_keys hx) hg hb (fun _ => rfl))).run pins s σ H De I ⟨a, _, r.zh _ _ h, trivial, fun od => ?_⟩
      have tw : Tw (.dK ((kvs.map (·.1)).zip vs)) (.frz od (.dK ((kvs.map (·.1)).zip vs))) := .inl ⟨trivial, od, rfl⟩
      have tw' : Tw (.frz od (.dK ((kvs.map (·.1)).zip vs))) (.dK ((kvs.map (·.1)).zip vs)) := .inr ⟨trivial, od, rfl⟩
      refine ⟨.ref a, hv, a, od, rfl, .inl ⟨_, upd_same, for_turns (ds := (kvs.map (·.1)).map keyV) pn (wk_keys upd_same hl) (r.tw h tw) ?_⟩⟩
      rw [ef]
      intro σ' Z' H' l' r'
      have za : Z' a = some (.frz od (.dK ((kvs.map (·.1)).zip vs))) := l' _ _ upd_same
      have le : Le Z (upd Z' a (.dK ((kvs.map (·.1)).zip vs))) := fun b ob e => by
        by_cases hb : b = a
        · rw [hb, upd_same]; rw [hb, h] at e; exact e
        · rw [upd_ne hb]; exact l' _ _ (by rw [upd_ne hb]; exact e)
      have qq := q σ' _ _ le (r'.tw za tw')
      cases fl with
      | nx => exact ⟨r'.zh _ _ za, qq⟩
      | bk => exact ⟨r'.zh _ _ za, qq⟩
      | ct => exact ⟨r'.zh _ _ za, qq⟩
      | rt fr d => exact fun w hw => ⟨r'.zh _ _ za, qq w (RepR.tw r' za tw' hw)⟩
    · refine (ps_for po kx.calm (pi_keys hx) hg hb (fun _ => rfl)).run pins s σ H De I ⟨.ref a, hv, a, o, rfl, .inl ⟨_, r.zh _ _ h, for_turns (ds := (kvs.map (·.1)).map keyV) pn (wk_keys h hl) r ?_⟩⟩
      rw [ef]
      exact q
/-- a for over what a name holds: a list, a tuple, a dict -/
theorem ps_forVT {body : List Stmt} {t : Tg} {fb : List Sl → R Fl} {x : Str} {p : Pos} {i : Nat} (kx : Cxk X C W) (po : PassesOwn (model X.prog X.w) X.A X.env X.xe) (hx : PE X (.Name x p) (tVar i)) (hg : PG X tg (gTg C mv t)) (hb : PSs X body (rdS C W mv fb)) :
    PS X (.For tg (.Name x p) body [] pos) (rdS C W mv fun ρ => (rdV i ρ).bind fun x ρ1 => match keysV (.v i) x.2 with
      | some ks => R.noex (forGo mv t fb ks ρ1)
      | none => (R.of (itD x.2) ρ1).bind fun ds ρ2 => forGo mv t fb ds ρ2) := by
  refine ⟨fun pins s σ H D I ⟨P, ρ, Z, L, pn, r, q⟩ => ?_⟩
  have old := ps_forT (pos := pos) kx po (pi_data (tg := tg) (C := C) (W := W) kx (pe_vE (C := C) (W := W) hx)) hg hb (fun _ => rfl)
  dsimp only at q
  unfold rdV at q
  cases e : ρ[i]? with
  | none => rw [e] at q; exact q.elim
  | some sl =>
    rw [e] at q
    cases sl with
    | un => exact q.elim
    | sh d =>
      by_cases hk : ∃ kvs, d = .dk kvs
      · obtain ⟨kvs, rfl⟩ := hk
        exact run_forK kx po hx hg hb I pn r e q
      · refine old.run pins s σ H D I ⟨P, ρ, Z, L, pn, r, ?_⟩
        dsimp only
        unfold rdV
        rw [e]
        cases d <;> first | exact absurd ⟨_, rfl⟩ hk | exact q
    | ow d =>
      by_cases hk : ∃ kvs, d = .dk kvs
      · obtain ⟨kvs, rfl⟩ := hk
        obtain ⟨Z', v, l, r', _, _⟩ := r.fzSlot e
        have hi : i < ρ.length := (List.getElem?_eq_some_iff.mp e).1
        exact run_forK kx po hx hg hb I pn r' (List.getElem?_set_self hi) (ContS.more l q)
      · refine old.run pins s σ H D I ⟨P, ρ, Z, L, pn, r, ?_⟩
        dsimp only
        unfold rdV
        rw [e]
        cases d <;> first | exact absurd ⟨_, rfl⟩ hk | exact q
/-! ### d.get(k, x) -/
def meF (m : String) (fo : List Sl → R Op) (fs : List Sl → R (List Op)) : Ev := fun ρ => (fo ρ).bind fun x ρ1 => (match x.rs ρ1 with
    | some o => if isDk o = true then (fs ρ1).bind fun os ρ2 => (match fzL ρ2 os with
      | some (ds, ρ3) => (match x.rs ρ3 with
        | some o => (match meD m o ds with
          | some d => .ok (false, d) ρ3
          | none => .stuck)
        | none => .stuck)
      | none => .stuck) else .stuck
    | none => .stuck)
theorem Vals.two' {x y : V} {us : List Value} (r : Vals [x, y] us) : ∃ u w, us = [u, w] ∧ RelV x u ∧ RelV y w := vals2 r
theorem pe_getE {o e : Expr} {es : List Expr} {fo : List Sl → R Op} {fs : List Sl → R (List Op)} {apos cpos : Pos} (k : Cxk X C W) (ho : PE X o (rdO C W fo)) (ha : PA X (e :: es) (rdA C W fs)) (hs : starEach (e :: es) X.env = (false, eval e X.env) :: starEach es X.env) (hpl : (backTo cpos (starEach es X.env)).any (·.1) = false) (base : attributeBase o "get" X.env (eval o X.env) = eval o X.env)
    (few : ((backTo cpos (starEach (e :: es) X.env)).all (fun x => !x.1) && (backToKw cpos (keywordEach [] X.env)).all (fun x => x.1.isSome) && decide ((e :: es).length + ([] : List Keyword).length + (if ([] : List Keyword).isEmpty then 0 else 1) < 30)) = true) (line : (apos.endLine == cpos.line) = true) :
    PE X (.Call (.Attribute o "get" apos) (e :: es) [] cpos) (rdE C W (meF "get" fo fs)) := by
  refine ⟨fun pins s σ H Q I ⟨P, ρ, Z, L, r, q⟩ => ?_⟩
  refine wpAny_Call_method base few line PySem.F.plainAttrs_dict PySem.F.slot_dict_get PySem.F.type_dict_get (thn (ho.run pins s σ H (fun x H1 => ∃ a ρ1 Z1 o, x = .ref a ∧ Le Z Z1 ∧ Rel C P ρ1 Z1 L σ H1 ∧ OpV C Z1 σ o x ∧ (∃ kvs, o.rs ρ1 = some (.dk kvs)) ∧ Cont C W P Z1 L σ ((fs ρ1).bind fun os ρ2 => (match fzL ρ2 os with
      | some (ds, ρ3) => (match o.rs ρ3 with
        | some ob => (match meD "get" ob ds with
          | some d => .ok (false, d) ρ3
          | none => .stuck)
        | none => .stuck)
      | none => .stuck)) fun x ρ' Z' H' => ∀ v, RepR C ρ' Z' L σ H' x.1 x.2 v → Q v H') I ⟨P, ρ, Z, L, r, q.bind.mono fun o ρ1 Z1 H1 l1 r1 q1 v hv => ?_⟩) fun u s1 ⟨x, H1, I1, rx, a, ρ1, Z1, o, ex, l1, r1, ov, ⟨kvs, hk⟩, q1⟩ => ?_)
  · cases e1 : o.rs ρ1 with
    | none => simp only [e1] at q1; exact q1.elim
    | some ob =>
      simp only [e1] at q1
      cases ob <;> first | exact (show False from q1).elim | skip
      obtain ⟨a, vs, rfl, _⟩ := r1.rs hv e1
      exact ⟨a, ρ1, Z1, o, rfl, l1, r1, hv, ⟨_, e1⟩, q1⟩
  · subst ex
    obtain rfl : u = Value.ref a := rx
    obtain ⟨a', vs, e, ha', ra⟩ := r1.rs ov hk
    cases e
    obtain ⟨t1, t2, _⟩ := isD_at I1 (.inl ⟨_, ha'⟩)
    refine ⟨t1, t2, ?_⟩
    have args := ha.run cpos pins s1 σ H1 (fun vs H2 => ∃ y z o', vs = [y, z] ∧ DGet H2 a y o' ∧ Q (o'.getD z) H2) I1 ⟨P, ρ1, Z1, L, r1, q1.bind.mono fun os ρ2 Z2 H2 l2 r2 q2 vs hvs => ?_⟩
    · rw [hs] at args ⊢
      refine Calls.callWith_builtin hpl (Calls.evalArgs_plain (thn args fun us s2 ⟨vs, H2, I2, rvs, y, z, o', ev, g, q2⟩ => ?_))
      subst ev
      obtain ⟨u1, u2, rfl, r1', r2'⟩ := vals2 rvs
      exact d_get2 (by have := k.un; omega) I2 g r1' r2' fun w' s4 I4 rw' => ⟨_, H2, I4, rw', q2⟩
    · cases e2 : fzL ρ2 os with
      | none => simp only [e2] at q2; exact q2.elim
      | some dr =>
        obtain ⟨ds, ρ3⟩ := dr
        simp only [e2] at q2
        obtain ⟨Z3, l3, r3, hd⟩ := r2.fzL hvs e2
        cases e3 : o.rs ρ3 with
        | none => simp only [e3] at q2; exact q2.elim
        | some ob =>
          simp only [e3] at q2
          cases e4 : meD "get" ob ds with
          | none => simp only [e4] at q2; exact q2.elim
          | some d =>
            simp only [e4] at q2
            cases ob <;> (try (cases e4; done))
            rename_i kvs'
            match ds, hd, e4 with
            | [kd, dd], .cons hk (.cons hz .nil), e4 =>
              have e4 : (keyD kd).map (fun key => (valA kvs' key).getD dd) = some d := e4
              obtain ⟨key, ek, rfl⟩ := Option.map_eq_some_iff.mp e4
              obtain ⟨b, us, eb, hb, rb⟩ := r3.rs ((ov.mono l2).mono l3) e3
              cases eb
              have hy := kV_key (hk.vw r3.zh) ek
              subst hy
              refine ⟨_, _, _, rfl, .inl ⟨_, key, hb, rfl, rfl⟩, ?_⟩
              cases ev : valA kvs' key with
              | none =>
                rw [valV_none rb ev]
                rw [ev] at q2
                exact q2 Z3 H2 l3 r3 _ hz
              | some d' =>
                obtain ⟨w, h1, h2⟩ := valV_reps rb ev
                rw [h1]
                rw [ev] at q2
                exact q2 Z3 H2 l3 r3 _ h2
end
end L2.T
end

section
set_option Elab.async false
set_option linter.all false
set_option maxRecDepth 100000
set_option maxHeartbeats 4000000
set_option autoImplicit false
namespace HN
open PySem PySem.Spec PyProof.Rows PySem.SeqAt
section
variable {M : Model} {prog : Program} {w : World} {A : Around} {E : Value → Shared → Prop} {s : Shared} {K : PySem.W.Frag} {x C f : Addr} {ox : Obj} {od : Option Obj} {b tb : Value}
theorem sub_ty {T : String} (h : T ∈ ["NoneType", "bool", "int", "str", "tuple", "list", "dict"]) : PySem.W.subIn K (.type T) (.ref C) = some false := by
  simp only [List.mem_cons, List.not_mem_nil, or_false] at h
  have e1 : fastBuiltinMro "NoneType" = some [.type "NoneType", .type "object"] := by decide +kernel
  have e2 : fastBuiltinMro "bool" = some [.type "bool", .type "int", .type "object"] := by decide +kernel
  have e3 : fastBuiltinMro "int" = some [.type "int", .type "object"] := by decide +kernel
  have e4 : fastBuiltinMro "str" = some [.type "str", .type "object"] := by decide +kernel
  have e5 : fastBuiltinMro "tuple" = some [.type "tuple", .type "object"] := by decide +kernel
  have e6 : fastBuiltinMro "list" = some [.type "list", .type "object"] := by decide +kernel
  have e7 : fastBuiltinMro "dict" = some [.type "dict", .type "object"] := by decide +kernel
  rcases h with rfl | rfl | rfl | rfl | rfl | rfl | rfl
  · show (fastBuiltinMro "NoneType").map (·.contains (.ref C)) = some false
    rw [e1]; first | rfl | simp
  · show (fastBuiltinMro "bool").map (·.contains (.ref C)) = some false
    rw [e2]; first | rfl | simp
  · show (fastBuiltinMro "int").map (·.contains (.ref C)) = some false
    rw [e3]; first | rfl | simp
  · show (fastBuiltinMro "str").map (·.contains (.ref C)) = some false
    rw [e4]; first | rfl | simp
  · show (fastBuiltinMro "tuple").map (·.contains (.ref C)) = some false
    rw [e5]; first | rfl | simp
  · show (fastBuiltinMro "list").map (·.contains (.ref C)) = some false
    rw [e6]; first | rfl | simp
  · show (fastBuiltinMro "dict").map (·.contains (.ref C)) = some false
    rw [e7]; first | rfl | simp
theorem ifBound_objNe {args : List Value} {Q : Option Value → Shared → Prop} (X : K.In s.heap) (I : PySem.W.InstAt s.heap x ox C od) (hs : PySem.W.findIn K (.ref C) "__ne__" = some (some (.builtin "object.__ne__")))
    (h : wpAny M A (call (.builtin "object.__ne__") (.ref x :: args)) (fun v => Q (some v)) E s) : wpAny M A (callSpecialIfBound? (.ref x) "__ne__" args) Q E s := by
  simp only [callSpecialIfBound?, bindSpecialIfBound?]
  refine wpAny_holding (wpAny_bind (wpAny_bind (wpAny_bind (I.type.here ((PySem.W.looks_findIn X hs).here ?_)))))
  refine wpAny_bind (wpAny_askSetting (wpAny_ite ?_))
  have fin : wpAny M A (call (.builtin "object.__ne__") ([.ref x] ++ args) >>= fun v => pure (some v)) Q E s := wpAny_bind (wpAny_mono h (fun v s' h' => wpAny_pure h') fun _ _ h' => h')
  split
  · exact wpAny_bind (wpAny_of_eq (F.cmp_object.ne.bind _) (wpAny_pure (by exact fin)))
  · exact wpAny_tryCatch (wpAny_bind (wpAny_of_eq (F.cmp_object.ne.bind _) (wpAny_pure (by exact fin))))
theorem entry_ne {Q : Fin → Shared → Prop} (hu : A.units < cLine) (X : K.In s.heap) (I : PySem.W.InstAt s.heap x ox C od) (he : PySem.W.findIn K (.ref C) "__eq__" = some (some (.ref f))) (hf : PySem.W.isFn K (.ref f) = true)
    (h : wpAny M A (call (.ref f) [.ref x, b]) (fun v s' => ∃ r, v = .bool r ∧ Q (.done (.ret (.bool (!r)))) s') E s) : wpAny M A (Builtin.«object.__ne__» ⟨[.ref x, b], []⟩) Q E s := by
  unfold Builtin.«object.__ne__»
  refine wpAny_bind ?_
  show wpAny M A (pure ((Value.ref x, [b]) : Value × List Value)) _ E s
  refine wpAny_pure ?_
  refine wpAny_bind (wpAny_cRoomFor hu ?_)
  refine wpAny_bind (PySem.W.ifBound_K X I he hf (wpAny_mono h (fun v s' z => ?_) fun _ _ e => e))
  obtain ⟨r, rfl, q⟩ := z
  exact wpAny_bind (wpAny_truthy_bool (wpAny_pure q))
theorem ne_K {Q : Value → Shared → Prop} (hu : A.units + 1 < cLine) (X : K.In s.heap) (I : PySem.W.InstAt s.heap x ox C od) (hb : PySem.W.Looks (model prog w) s.heap (typeOf b) tb) (hn : PySem.W.notFirst K C tb = true) (hm : PySem.W.mroIn K C (.type "object") = some true)
    (hs : PySem.W.findIn K (.ref C) "__ne__" = some (some (.builtin "object.__ne__"))) (he : PySem.W.findIn K (.ref C) "__eq__" = some (some (.ref f))) (hf : PySem.W.isFn K (.ref f) = true)
    (h : wpAny (model prog w) A.in1 (call (.ref f) [.ref x, b]) (fun v s' => ∃ r, v = .bool r ∧ Q (.bool (!r)) s') E s) : wpAny (model prog w) A (richCompare .NotEq (.ref x) b) Q E s := by
  have one : wpAny (model prog w) A (tryCompare (.ref x) "__ne__" b) (fun r s' => ∃ v, r = some v ∧ Q v s') E s := by
    unfold tryCompare
    refine wpAny_bind (ifBound_objNe X I hs ?_)
    refine wpAny_call (codeAny_call_builtin F.cmp_object.ne.plain F.cmpEntry_ne (PySem.W.check_slot F.cmpKind_ne F.cmpSplit_ne (I.type.andThen (PySem.W.looks_mroIn X hm)) (F.cmpArgs_ne _ _) (entry_ne (A := A.in1) hu X I he hf (wpAny_mono h (fun v s' z => ?_) fun _ _ e => e))))
    obtain ⟨r, rfl, q⟩ := z
    exact ⟨r, rfl, wpAny_pure ⟨_, rfl, q⟩⟩
  unfold richCompare
  simp only [oneThing_ref]
  refine wpAny_holding (wpAny_bind (wpAny_cRoomFor (Nat.lt_of_succ_lt hu) ?_))
  refine wpAny_bind (I.type.here (wpAny_bind (hb.here ?_)))
  split
  · rename_i q
    have e : PySem.W.subIn K tb (.ref C) = some false := by
      rcases Bool.or_eq_true_iff.mp hn with e | e
      · rw [beq_iff_eq.mp e] at q; simp at q
      · exact beq_iff_eq.mp e
    refine wpAny_bind ((PySem.W.looks_subIn X e).here ?_)
    simp only [Bool.false_eq_true, if_false]
    refine wpAny_bind (wpAny_mono one (fun r s' z => ?_) fun _ _ e => e)
    obtain ⟨v, rfl, hq⟩ := z
    exact wpAny_pure hq
  · refine wpAny_bind (wpAny_pure ?_)
    simp only [Bool.false_eq_true, if_false]
    refine wpAny_bind (wpAny_mono one (fun r s' z => ?_) fun _ _ e => e)
    obtain ⟨v, rfl, hq⟩ := z
    exact wpAny_pure hq
end
end HN
end

section
set_option Elab.async false
set_option linter.all false
set_option maxRecDepth 100000
set_option maxHeartbeats 4000000
set_option autoImplicit false
namespace L2.T
open PySem PySem.Spec PyProof.Rows

/-! ### own classes -/
/-- what is known of the own class number c -/
structure ClsX (K : PySem.W.Frag) (C : Ct) (c : Nat) : Prop where
  cls : Cls K (C.cl c).1
  nd : (C.cl c).2.Nodup
  len : (C.cl c).2.length < 1000
  na : ∀ f ∈ (C.cl c).2, NoAttr K (C.cl c).1 f
  ca : PySem.W.findIn K (.ref (C.cl c).1) "__class__" = some (some (.builtin "object.__class__"))
  cn : PySem.W.specialIn K (.builtin "object.__class__") "__get__" = some (some (.builtin "getset_descriptor.__get__"))
  ct : PySem.W.takesIn K (.builtin "object.__class__") = some true
  mo : PySem.W.mroIn K (C.cl c).1 (.type "object") = some true
  nk : ∀ T ∈ clsNames, PySem.W.kitOne K (.type T) (.ref (C.cl c).1) = some false
  kk : PySem.W.kitOne K (.ref (C.cl c).1) (.ref (C.cl c).1) = some true
theorem lookup_zip {α : Type} {f : Str} {v : α} : ∀ {ns : List Str} {vs : List α} {i : Nat}, ns.Nodup → ns[i]? = some f → vs[i]? = some v → (ns.zip vs).lookup f = some v
  | [], _, i, _, h, _ => by simp at h
  | n :: ns, [], i, _, _, g => by simp at g
  | n :: ns, w :: vs, 0, _, h, g => by
    simp at h g
    subst h g
    simp
  | n :: ns, w :: vs, i + 1, hn, h, g => by
    have hn' := List.nodup_cons.mp hn
    have h' : ns[i]? = some f := by simpa using h
    have hne : (f == n) = false := by
      rw [beq_eq_false_iff_ne]
      intro z
      exact hn'.1 (z ▸ List.mem_of_getElem? h')
    rw [List.zip_cons_cons, List.lookup_cons, hne]
    exact lookup_zip hn'.2 h' (by simpa using g)
theorem putF_zip {f : Str} {v : V} : ∀ {ns : List Str} {vs : List V}, ns.Nodup → ns[vs.length]? = some f → putF f v (ns.zip vs) = ns.zip (vs ++ [v])
  | [], vs, _, h => by simp at h
  | n :: ns, [], _, h => by
    simp at h
    subst h
    simp [putF]
  | n :: ns, w :: vs, hn, h => by
    have hn' := List.nodup_cons.mp hn
    have h' : ns[vs.length]? = some f := by simpa using h
    have hne : n ≠ f := fun z => hn'.1 (z ▸ List.mem_of_getElem? h')
    rw [List.zip_cons_cons, List.cons_append, List.zip_cons_cons]
    simp only [putF]
    rw [if_neg hne, putF_zip hn'.2 h']
section
variable {X : Cx} {C : Ct} {W : WX} {pos : Pos} {c : Nat}
theorem Vw.tyxI (k : C.K = X.K) (cx : ClsX X.K C c) {Z H : Hp} {fs : List D} {v : V} (h : Vw C Z H (.ins c fs) v) : TyX X.K H v (.ref (C.cl c).1) := by
  obtain ⟨a, dx, vs, rfl, ha, _⟩ := h
  exact .base (.ins ha cx.cls cx.ca cx.cn cx.ct cx.mo)
theorem pe_fldE {e : Expr} {ea : E} {fa : Ev} {i : Nat} {f : Str} (cx : ClsX X.K C c) (hf : (C.cl c).2[i]? = some f) (he : PE X e (rdO C W (opOf ea fa))) (hb : attributeBase e f X.env (eval e X.env) = eval e X.env) :
    PE X (.Attribute e f pos) (rdE C W fun ρ => (opOf ea fa ρ).bind fun x ρ1 => (match x.rs ρ1 with
    | some (.ins c' fs) => if c' = c then (match fs[i]? with
      | some d => .ok (false, d) ρ1
      | none => .stuck) else .stuck
    | _ => .stuck)) := by
  refine PE.imp (pe_fld he hb) fun σ H Q ⟨P, ρ, Z, L, r, q⟩ => ⟨P, ρ, Z, L, r, q.bind.mono fun x ρ1 Z1 H1 l1 r1 q1 v hv => ?_⟩
  cases e1 : x.rs ρ1 with
  | none => simp only [e1] at q1; exact q1.elim
  | some d =>
    simp only [e1] at q1
    cases d <;> first | exact q1.elim | skip
    rename_i c' fs
    simp only at q1
    split at q1
    · rename_i hc
      subst hc
      obtain ⟨a, dx, vs, rfl, ha, hl, hr⟩ := r1.rs hv e1
      cases e2 : fs[i]? with
      | none => simp only [e2] at q1; exact q1.elim
      | some d =>
        simp only [e2] at q1
        obtain ⟨w, h1, h2⟩ := hr.get e2
        exact ⟨a, _, dx, _, w, rfl, ha, cx.cls, cx.na f (List.mem_of_getElem? hf), lookup_zip cx.nd hf h1, q1 Z1 H1 (Le.refl _) r1 w h2⟩
    · exact q1.elim
theorem pe_isxE {a : Expr} {ea : E} {fa : Ev} {x : Str} {p p2 pos : Pos} (k : Cxk X C W) (cx : ClsX X.K C c) (gi : Gl X "isinstance") (mi : X.mg "isinstance" = none) (gl : Gl X x) (hm : X.mg x = some (.ref (C.cl c).1)) (hdb : (x == ("__debug__" : Str)) = false)
    (ha : PE X a (rdO C W (opOf ea fa))) (hs : starEach [a, .Name x p2] X.env = (false, eval a X.env) :: starEach [.Name x p2] X.env) : PE X (.Call (.Name "isinstance" p) [a, .Name x p2] [] pos) (rdE C W fun ρ => (opOf ea fa ρ).bind fun x ρ1 => (match x.rs ρ1 with
    | some (.ins c' _) => if c' = c then .ok (false, .bl true) ρ1 else .stuck
    | some d => (match d.cls with
      | some _ => .ok (false, .bl false) ρ1
      | none => .stuck)
    | none => .stuck)) := by
  refine PE.imp (pe_callB call_isi gi mi (by decide +kernel) (pa_cons ha (pa_cons (pe_glob gl hm (show RelV (.ref (C.cl c).1) (.ref (C.cl c).1) from rfl) hdb) pa_nil rfl) hs) (by decide) (by decide) hs rfl) fun σ H Q ⟨P, ρ, Z, L, r, q⟩ => ⟨P, ρ, Z, L, r, q.bind.mono fun x ρ1 Z1 H1 l1 r1 q1 v hv => ?_⟩
  cases e1 : x.rs ρ1 with
  | none => simp only [e1] at q1; exact q1.elim
  | some d =>
    simp only [e1] at q1
    have go : ∀ {T : String}, d.cls = some T → Q (.bl false) H1 → rIsi X.K [v, .ref (C.cl c).1] H1 Q := fun {T} e3 q => ⟨v, .ref _, .type T, .ref _, false, rfl, .own _, (r1.rs hv e1).tyx k.hk r1.zh e3, cx.nk T (D.cls_mem e3), q⟩
    by_cases hi : ∃ c' fs, d = .ins c' fs
    · obtain ⟨c', fs, rfl⟩ := hi
      simp only at q1
      split at q1
      · rename_i hc
        subst hc
        exact ⟨v, .ref _, .ref _, .ref _, true, rfl, .own _, Vw.tyxI k.hk cx (r1.rs hv e1), cx.kk, q1 Z1 H1 (Le.refl _) r1 _ (Rep.bl true)⟩
      · exact q1.elim
    · cases e3 : d.cls with
      | none => cases d <;> first | (cases e3; done) | exact absurd ⟨_, _, rfl⟩ hi | exact q1.elim
      | some T => cases d <;> first | (cases e3; done) | exact absurd ⟨_, _, rfl⟩ hi | exact go e3 (q1 Z1 H1 (Le.refl _) r1 _ (Rep.bl false))
/-- o.f = e, o a name that owns -/
theorem ps_fsetT {mv : List Nat} {e : Expr} {ee : E} {fe : Ev} {x f : Str} {i j : Nat} {p pos' : Pos} (cx : ClsX X.K C c) (hf : (C.cl c).2[j]? = some f) (hx : PE X (.Name x p) (tVar i)) (he : PE X e (rdO C W (opOf ee fe))) (hs : swapsWith e (some (.Attribute (.Name x p) f pos')) pos.line X.env = pure false) :
    PS X (.Assign [.Attribute (.Name x p) f pos'] e pos) (rdS C W mv fun ρ => (opOf ee fe ρ).bind fun y ρ1 => (match y.fz ρ1 with
    | some (d, ρ2) => (match ρ2[i]? with
      | some (.ow (.ins c' fs)) => if c' = c ∧ fs.length = j then .ok .nx (ρ2.set i (.ow (.ins c (fs ++ [d])))) else .stuck
      | _ => .stuck)
    | none => .stuck)) := by
  refine PS.imp (ps_fld hx he hs) fun De σ H ⟨P, ρ, Z, L, pn, r, q⟩ => ⟨P, ρ, Z, L, r, (ContS.bind (σ := σ) q).mono fun y ρ1 Z1 H1 l1 r1 q1 v hv => ?_⟩
  cases e1 : y.fz ρ1 with
  | none => simp only [e1] at q1; exact q1.elim
  | some dr =>
    obtain ⟨d, ρ2⟩ := dr
    simp only [e1] at q1
    obtain ⟨Z2, l2, r2, hd⟩ := r1.fz hv e1
    split at q1
    · rename_i c' fs e2
      split at q1
      · rename_i hc
        obtain ⟨rfl, hl⟩ := hc
        obtain ⟨w, hw, a, rfl, ho, la⟩ := r2.slot e2
        obtain ⟨zn, dx, vs, ha, hn, hr⟩ := id ho
        have hlv := hr.length
        have hj : j < (C.cl c').2.length := (List.getElem?_eq_some_iff.mp hf).1
        refine ⟨.ref a, hw, a, _, dx, _, rfl, ha, cx.cls, cx.na f (List.mem_of_getElem? hf), ?_, ?_⟩
        · have := cx.len
          rw [List.length_zip]
          omega
        · rw [putF_zip cx.nd (by rw [← hlv, hl]; exact hf)]
          refine q1 σ Z2 _ l2 (r2.chg e2 hw ⟨zn, dx, vs ++ [v], upd_same, ?_, hr.append (.cons hd .nil)⟩)
          rw [List.length_append]
          show vs.length + 1 ≤ _
          omega
      · exact q1.elim
    · exact q1.elim
/-! ### C(..) -/
theorem Rel.after {P : List (Nat × V)} {ρ : List Sl} {Z L : Hp} {σ : St} {H Z' H' : Hp} (r : Rel C P ρ Z L σ H) (le : Le Z Z') (zh : Le Z' H') (lh : Le (Lx L ρ σ H) H') (zl : ∀ a o, Z' a = some o → Lx L ρ σ H a = none) (tb : TbOk C Z' (Lx L ρ σ H) H') : Rel C P ρ Z' L σ H' := by
  have ln : ∀ {a : Addr}, Lx L ρ σ H a = none → L a = none := fun {a} h => by
    cases q : L a with
    | none => rfl
    | some o => rw [r.lx_le _ _ q] at h; cases h
  refine ⟨zh, r.lx_le.trans lh, fun a o e => ln (zl a o e), r.len, fun i s v h1 h2 => ?_, r.ap, r.pin, tb.sub r.lx_le⟩
  have q := r.sl i s v h1 h2
  cases s with
  | un => trivial
  | sh e => obtain ⟨w, h3, h4⟩ := q; exact ⟨w, h3, h4.mono le⟩
  | ow e =>
    obtain ⟨a, h3, h4, h5⟩ := q
    subst h3
    obtain ⟨o, ho⟩ := h4.here
    have hx : Lx L ρ σ H a = some o := by rw [r.lx_at h1 h2]; exact ho
    have za : Z' a = none := by
      cases z : Z' a with
      | none => rfl
      | some u => rw [zl a u z] at hx; cases hx
    exact ⟨a, rfl, h4.move le za (fun u hu => by rw [ho] at hu; cases hu; exact lh _ _ hx), h5⟩
theorem run_makeG {k : Nat} {A f : Addr} {fd : FuncData} {ps : List Str} {sp : Sp} {pins : List (Addr × Obj)} {σ : St} {H : Hp} {s : Shared} {Q : VK} {us : List Value} {vs : List V} (M : Mk X.K A f) (F : FnG X.prog X.w X.K X.mg X.base k f fd ps sp) (hr : Room (k + 1) X.A) (hg : X.A.guards = some []) (tk : Takes X W) (hb : Binds X.K fd ps [])
    (I : Inv X pins σ H s) (r : Vals vs us)
    (h : ∀ x dx, H x = none → H dx = none → dx ≠ x → sp (.ref x :: vs) (upd (upd H dx (.own x)) x (.ins A dx [])) (fun v H2 => v = .non ∧ Q (.ref x) H2) (WE W σ)) :
    wpAny (model X.prog X.w) X.A (call (.ref A) us) (EP X pins σ Q) X.xe s := by
  have hq := h (s.heap.objs.size + 1) s.heap.objs.size (I.hok.fresh (Nat.le_succ _)) (I.hok.fresh (Nat.le_refl _)) (Nat.ne_of_lt (Nat.lt_succ_self _))
  have I2 := Inv.made (C := A) I
  have r2 : Vals (V.ref (s.heap.objs.size + 1) :: vs) (Value.ref (s.heap.objs.size + 1) :: us) := .cons rfl r
  have hl : (Value.ref (s.heap.objs.size + 1) :: us).length = ps.length := by
    have e := r2.length
    rw [F.len _ _ _ _ hq] at e
    exact e.symm
  have hbb := hb _ (Value.ref (s.heap.objs.size + 1) :: us) I2.kIn (by rw [List.append_nil]; exact hl)
  rw [List.append_nil] at hbb
  refine wpAny_call (make_map (f := f) I.kIn M.makes M.init (beq_iff_eq.mp M.fn) (codeAny_mono (F.run _ X.stack _ _ ⟨Value.ref (s.heap.objs.size + 1) :: us, []⟩ (Value.ref (s.heap.objs.size + 1) :: us) _ _ (WE W σ) (hr.make A us []) hg
    (I2.env0.make A us []) hbb r2 hq) fun r s' hq' => ?_))
  rcases r with e | fl
  · exact passAt tk σ pins _ _ e s' I2 hq'
  · rcases fl with _ | _ | _ | u
    · exact False.elim hq'
    · exact False.elim hq'
    · exact False.elim hq'
    · obtain ⟨v, H', I3, rv, ev, q3⟩ := I2.after hq'
      subst ev
      exact ⟨rv, ⟨V.ref (s.heap.objs.size + 1), H', I3, rfl, q3⟩⟩
theorem argR_sh {Z L H : Hp} : ∀ {ds : List D} {vs : List V}, Reps C Z ds vs → ArgR C Z L H (ds.map .sh) vs
  | _, _, .nil => .nil
  | _, _, .cons h r => .sh h (argR_sh r)
theorem sh_noow {ds : List D} {i : Nat} {e : D} : (ds.map Sl.sh)[i]? ≠ some (.ow e) := fun z => by
  rw [List.getElem?_map] at z
  obtain ⟨d, _, h⟩ := Option.map_eq_some_iff.mp z
  cases h
def mkF (cf : CF) (c id : Nat) (fs : List Sl → R (List Op)) : Ev := fun ρ => (fs ρ).bind fun os ρ1 => (match fzL ρ1 os with
    | some (ds, ρ2) => (match cf id (.ow (.ins c []) :: ds.map .sh) with
      | .ok (false, .non) (.ow (.ins c' fs) :: _) => if c' = c then .ok (false, .ins c fs) ρ2 else .stuck
      | _ => .stuck)
    | none => .stuck)
theorem rd_make {cf : CF} {id : Nat} {fdT : Fd} {P : List (Nat × V)} {ρ : List Sl} {Z L : Hp} {σ : St} {H : Hp} {Q : VK} {ds : List D} {vs : List V} {E : XK} (r : Rel C P ρ Z L σ H) (hr : Reps C Z ds vs) (hl : ds.length + 1 = fdT.n) (hm : fdT.mv.contains 0 = true)
    (q : Cont C W P Z L σ (match cf id (.ow (.ins c []) :: ds.map .sh) with
      | .ok (false, .non) (.ow (.ins c' fs) :: _) => if c' = c then R.ok (false, D.ins c fs) ρ else .stuck
      | _ => .stuck) fun x ρ' Z' H' => ∀ v, RepR C ρ' Z' L σ H' x.1 x.2 v → Q v H') :
    ∀ x dx, H x = none → H dx = none → dx ≠ x → spT C cf id fdT (.ref x :: vs) (upd (upd H dx (.own x)) x (.ins (C.cl c).1 dx [])) (fun v H2 => v = .non ∧ Q (.ref x) H2) E := by
  intro x dx hx hdx hne
  have hx' : (upd H dx (.own x)) x = none := by rw [upd_ne (Ne.symm hne)]; exact hx
  have r2 := (r.alloc (o := .own x) hdx).alloc (o := .ins (C.cl c).1 dx []) hx'
  have nosl : ∀ (i : Nat) (e : D), ρ[i]? = some (Sl.ow e) → σ[i]? ≠ some (some (V.ref x)) := r.noslot hx
  have lx : Lx L ρ σ (upd (upd H dx (.own x)) x (.ins (C.cl c).1 dx [])) x = none := by
    unfold Lx
    rw [if_neg]
    · exact r.lfree hx
    · rintro ⟨i, d, h, g⟩
      exact nosl i d h g
  refine ⟨.ow (.ins c []) :: ds.map .sh, Z, Lx L ρ σ (upd (upd H dx (.own x)) x (.ins (C.cl c).1 dx [])), ⟨r2.zh, r2.lx_h, r2.lx_z, .ow ⟨r.zfree hx, dx, [], by rw [upd_same]; simp, by simp, .nil⟩ lx (fun i e z => absurd z sh_noow) (argR_sh hr), r2.lx_tb⟩, by rw [List.length_cons, List.length_map]; exact hl, fun j d h => ?_, ?_⟩
  · cases j with
    | zero => exact hm
    | succ j =>
      rw [List.getElem?_cons_succ] at h
      exact absurd h sh_noow
  · revert q
    generalize cf id (.ow (.ins c []) :: ds.map .sh) = res
    intro q
    split at q
    · rename_i c' fs outs
      split at q
      · rename_i hc
        subst hc
        intro v H' Z' af hv
        have hv : Rep C Z' .non v := hv
        cases hv
        refine ⟨rfl, ?_⟩
        have r3 := r2.after af.le af.zh af.lh af.zl af.tb
        obtain ⟨a, ea, oa, la⟩ := af.out 0 (.ins c' []) _ (.ref x) rfl rfl rfl
        cases ea
        have rr : RepR C ρ Z' L σ H' true (.ins c' fs) (.ref x) := ⟨x, rfl, oa, r.lfree hx, nosl⟩
        obtain ⟨Z'', l2, r4, h4⟩ := r3.freeze rr
        exact q Z'' H' (af.le.trans l2) r4 _ h4
      · exact q.elim
    · exact q.elim
theorem pe_mkE {k : Nat} {e : Expr} {es : List Expr} {x : Str} {p : Pos} {cf : CF} {id : Nat} {fdT : Fd} {f : Addr} {fd : FuncData} {ps : List Str} {fs : List Sl → R (List Op)} (kx : Cxk X C W) (M : Mk X.K (C.cl c).1 f) (hlen : (e :: es).length + 1 = fdT.n) (hmv : fdT.mv.contains 0 = true) (F : FnG X.prog X.w X.K X.mg X.base k f fd ps (spT C cf id fdT)) (hr : Room (k + 1) X.A) (gl : Gl X x) (hm : X.mg x = some (.ref (C.cl c).1)) (hb : Binds X.K fd ps [])
    (hdb : (x == ("__debug__" : Str)) = false) (ha : PA X (e :: es) (rdA C W fs)) (hfs : ∀ ρ os ρ', fs ρ = .ok os ρ' → os.length = (e :: es).length) (he : starEach (e :: es) X.env = (false, eval e X.env) :: starEach es X.env) (hpl : (backTo pos (starEach es X.env)).any (·.1) = false) :
    PE X (.Call (.Name x p) (e :: es) [] pos) (rdE C W (mkF cf c id fs)) := by
  refine ⟨fun pins s σ H Q I ⟨P, ρ, Z, L, r, q⟩ => ?_⟩
  refine wpAny_Call_Name_kw (ld_glob I gl hm ?_ hdb)
  have hl := hfs ρ
  have q : Cont C W P Z L σ ((fs ρ).bind _) _ := q
  have q := q.bind
  have arg : rdA C W fs σ H fun vs H1 => ∀ x dx, H1 x = none → H1 dx = none → dx ≠ x → spT C cf id fdT (.ref x :: vs) (upd (upd H1 dx (.own x)) x (.ins (C.cl c).1 dx [])) (fun v H2 => v = .non ∧ Q (.ref x) H2) (WE W σ) := by
    refine ⟨P, ρ, Z, L, r, ?_⟩
    revert q hl
    cases fs ρ with
    | stuck => exact fun _ q => q
    | ex y ρ1 => exact fun _ q => q
    | ok os ρ1 =>
      intro hl q Z1 H1 l1 r1 vs hvs
      have q1 := q Z1 H1 l1 r1
      cases e2 : fzL ρ1 os with
      | none => simp only [e2] at q1; exact q1.elim
      | some dr =>
        obtain ⟨ds, ρ2⟩ := dr
        simp only [e2] at q1
        obtain ⟨Z2, l2, r2, hd⟩ := r1.fzL hvs e2
        have hn : ds.length = os.length := by
          have h1 := hd.length
          have h2 := hvs.len
          omega
        refine rd_make (W := W) r2 hd (by rw [hn, hl os ρ1 rfl]; exact hlen) hmv ?_
        exact R.wp_mono q1 (fun a ρ' q Z' H' l' r' => q Z' H' (l2.trans l') r') fun x ρ' q cls dd Z' H' l' r' => q cls dd Z' H' (l2.trans l') r'
  refine PySem.W.callWith_K (h₀ := X.base) I.ok.mod.kin M.kp (thn (ha.run pos pins s σ H _ I arg) fun us s1 ⟨vs, H1, I1, r, q⟩ => ⟨I1.kIn, ?_⟩) he hpl
  exact run_makeG M F hr kx.gd kx.tk hb I1 r q
end
end L2.T
end

section
set_option Elab.async false
set_option linter.all false
set_option maxRecDepth 100000
set_option maxHeartbeats 4000000
set_option autoImplicit false
namespace L2.T
open PySem PySem.Spec PyProof.Rows

/-! ### == and != of own instances -/
/-- the class's own == -/
structure EqX (K : PySem.W.Frag) (C : Ct) (c : Nat) (f : Addr) : Prop where
  eq : PySem.W.findIn K (.ref (C.cl c).1) "__eq__" = some (some (.ref f))
  fn : PySem.W.isFn K (.ref f) = true
  ne : PySem.W.findIn K (.ref (C.cl c).1) "__ne__" = some (some (.builtin "object.__ne__"))
def neOp (ne : Bool) : CmpOp := if ne then .NotEq else .Eq
def noE : XK := fun _ _ _ => False
def rOwn (K : PySem.W.Frag) (A : Addr) (sp : Sp) (ne : Bool) : R2 := fun x y H Q => ∃ a dx fs t, x = .ref a ∧ H a = some (.ins A dx fs) ∧ TyX K H y t ∧ PySem.W.notFirst K A t = true ∧ sp [x, y] H (fun v H' => ∃ r, v = .bl r ∧ Q (.bl (if ne then !r else r)) H') noE
section
variable {X : Cx} {C : Ct} {W : WX} {pos : Pos} {c : Nat}
theorem after_own {A : Around} {sp : Sp} {k : Nat} {f : Addr} {fd : FuncData} {ps : List Str} {pins : List (Addr × Obj)} {σ : St} {H : Hp} {s : Shared} {x y : V} {v u : Value} {R : Value → Shared → Prop} {Qb : Bool → Hp → Prop} (F : FnG X.prog X.w X.K X.mg X.base k f fd ps sp) (hr : Room k A) (hg : A.guards = some []) (e0 : Env0 X.prog X.w X.K X.mg X.base A X.stack s H) (hb : Binds X.K fd ps []) (I : Inv X pins σ H s) (rx : RelV x v) (ry : RelV y u)
    (h : sp [x, y] H (fun w H' => ∃ r, w = .bl r ∧ Qb r H') noE) (hq : ∀ r s' H', Inv X pins σ H' s' → Qb r H' → R (.bool r) s') : wpAny (model X.prog X.w) A (call (.ref f) [v, u]) R X.xe s := by
  have hl : [v, u].length = ps.length := by rw [← F.len _ _ _ _ h]; rfl
  have hbb := hb s [v, u] I.kIn (by rw [List.append_nil]; exact hl)
  rw [List.append_nil] at hbb
  refine wpAny_call (codeAny_mono (F.run A X.stack s H ⟨[v, u], []⟩ [v, u] [x, y] _ noE hr hg e0 hbb (.cons rx (.cons ry .nil)) h) fun res s' hq' => ?_)
  rcases res with e | fl
  · obtain ⟨_, _, _, _, _, _, _, _, _, _, _, _, z⟩ := hq'
    exact z.elim
  · rcases fl with _ | _ | _ | w
    · exact hq'.elim
    · exact hq'.elim
    · exact hq'.elim
    · obtain ⟨z, H', I', rz, r, ez, q⟩ := I.after hq'
      subst ez
      cases (show w = Value.bool r from rz)
      exact hq r s' H' I' q
theorem opr_own {sp : Sp} {k : Nat} {f : Addr} {fd : FuncData} {ps : List Str} (cx : ClsX X.K C c) (ex : EqX X.K C c f) (F : FnG X.prog X.w X.K X.mg X.base k f fd ps sp) (hr : Room (k + 1) X.A) (hg : X.A.guards = some []) (hb : Binds X.K fd ps []) (ne : Bool) : OpR X (compareOp (neOp ne)) (rOwn X.K (C.cl c).1 sp ne) := by
  intro pins s σ H x y v u Q I rx ry h
  obtain ⟨a, dx, fs, t, rfl, ha, ty, nf, h⟩ := h
  cases rx
  obtain ⟨Pp, Z, pp, _⟩ := kit_of I ry ty
  obtain ⟨mA, J, _⟩ := ins_get I.hok ha
  obtain ⟨od, J, _⟩ := J.look
  obtain ⟨m, hF⟩ := I.fr
  cases ne with
  | false =>
    show wpAny (model X.prog X.w) X.A (richCompare .Eq (.ref a) u) (EP X pins σ Q) X.xe s
    refine PySem.W.cmp_K (op := .Eq) hr.units0 hF I.ok.mod.kin J (Z.ty _ _ I.kIn pp) nf ex.eq ex.fn ?_
    exact after_own (x := .ref a) (Qb := fun r H' => Q (.bl r) H') F (hr.mono (Nat.le_succ k)) hg I.env0 hb I rfl ry h fun r s' H' I' q => ⟨.bl r, H', I', rfl, q⟩
  | true =>
    show wpAny (model X.prog X.w) X.A (richCompare .NotEq (.ref a) u) (EP X pins σ Q) X.xe s
    refine HN.ne_K (by have := hr.un; omega) I.kIn J (Z.ty _ _ I.kIn pp) nf cx.mo ex.ne ex.eq ex.fn ?_
    exact after_own (x := .ref a) (Qb := fun r H' => Q (.bl (!r)) H') F hr.in1 hg I.env0.in1 hb I rfl ry h fun r s' H' I' q => ⟨r, rfl, .bl (!r), H', I', rfl, q⟩
/-- a == b, a != b as the evaluator has them -/
def cmpxF (cf : CF) (ne : Bool) (c id : Nat) (fa fb : List Sl → R Op) : Ev := fun ρ => (fa ρ).bind fun x ρ1 => (fb ρ1).bind fun y ρ2 => (match x.rs ρ2 with
    | some (.ins c' fs) => if c' = c then (match fzL ρ2 [x, y] with
      | some (ds, ρ3) => if tyK c ds = true then (match cf id (ds.map .sh) with
        | .ok (false, .bl b) _ => .ok (false, .bl (if ne then !b else b)) ρ3
        | _ => .stuck) else .stuck
      | none => .stuck) else .stuck
    | some d => (match y.rs ρ2 with
      | some e => (match cop (if ne then .NotEq else .Eq) d e with
        | some b => .ok (false, .bl b) ρ2
        | none => .stuck)
      | none => .stuck)
    | none => .stuck)
theorem cmpx_rd {cf : CF} {id : Nat} {fdT : Fd} {ne : Bool} {fa fb : List Sl → R Op} (kx : Cxk X C W) (cx : ClsX X.K C c) (hn : fdT.n = 2) {σ : St} {H : Hp} {Q : VK} (h : rdE C W (cmpxF cf ne c id fa fb) σ H Q) :
    tOp (fun x y H Q => r2C C σ (cop (neOp ne)) x y H Q ∨ rOwn X.K (C.cl c).1 (spT C cf id fdT) ne x y H Q) (rdO C W fa) (rdO C W fb) σ H Q := by
  obtain ⟨P, ρ, Z, L, r, q⟩ := h
  refine ⟨P, ρ, Z, L, r, q.bind.mono fun x ρ1 Z1 H1 l1 r1 q1 vx hvx => ⟨P, ρ1, Z1, L, r1, q1.bind.mono fun y ρ2 Z2 H2 l2 r2 q2 vy hvy => ?_⟩⟩
  have hvx := hvx.mono l2
  cases e1 : x.rs ρ2 with
  | none => simp only [e1] at q2; exact q2.elim
  | some d =>
    simp only [e1] at q2
    by_cases hi : ∃ c' fs, d = .ins c' fs
    · obtain ⟨c', fs, rfl⟩ := hi
      simp only at q2
      split at q2
      · rename_i hc
        subst hc
        refine .inr ?_
        cases e2 : fzL ρ2 [x, y] with
        | none => simp only [e2] at q2; exact q2.elim
        | some dr =>
          obtain ⟨ds, ρ3⟩ := dr
          simp only [e2] at q2
          obtain ⟨a, dx, vs, rfl, ha, hl, hr⟩ := r2.rs hvx e1
          obtain ⟨Z3, l3, r3, hd⟩ := r2.fzL (.cons hvx (.cons hvy .nil)) e2
          split at q2
          rotate_left
          · exact q2.elim
          rename_i ht
          match ds, hd, q2, ht with
          | [d1, d2], .cons h1 (.cons h2 .nil), q2, ht =>
            have ty : ∃ t, TyX X.K H2 vy t ∧ PySem.W.notFirst X.K (C.cl c').1 t = true := by
              by_cases hi : ∃ c2 fs2, d2 = .ins c2 fs2
              · obtain ⟨c2, fs2, rfl⟩ := hi
                have ht : decide (c2 = c') = true := ht
                rw [of_decide_eq_true ht] at h2
                exact ⟨_, Vw.tyxI kx.hk cx (h2.vw r3.zh), by unfold PySem.W.notFirst; simp⟩
              · have ht : d2.cls.isSome = true := by cases d2 <;> first | exact absurd ⟨_, _, rfl⟩ hi | exact ht
                obtain ⟨T, e3⟩ := Option.isSome_iff_exists.mp ht
                refine ⟨_, (h2.vw r3.zh).tyx kx.hk r3.zh e3, ?_⟩
                unfold PySem.W.notFirst
                rw [HN.sub_ty (D.cls_mem e3)]
                simp
            obtain ⟨t, ty, nf⟩ := ty
            refine ⟨a, dx, _, t, rfl, ha, ty, nf, [.sh d1, .sh d2], Z3, Lx L ρ3 σ H2, ⟨r3.zh, r3.lx_h, r3.lx_z, .sh h1 (.sh h2 .nil), r3.lx_tb⟩, hn.symm, fun j d h => ?_, ?_⟩
            · match j with
              | 0 => cases h
              | 1 => cases h
              | j + 2 => simp at h
            · revert q2
              show Cont C W P Z2 L σ (match cf id [.sh d1, .sh d2] with
                | .ok (false, .bl b) _ => R.ok (false, D.bl (if ne then !b else b)) ρ3
                | _ => .stuck) _ → _
              generalize cf id [.sh d1, .sh d2] = res
              intro q2
              split at q2
              · rename_i b outs
                intro v H' Z' af hv
                have hv : Rep C Z' (.bl b) v := hv
                cases hv
                exact ⟨b, rfl, q2 Z' H' (l3.trans af.le) (r3.after af.le af.zh af.lh af.zl af.tb) _ (Rep.bl _)⟩
              · exact q2.elim
      · exact q2.elim
    · refine .inl ?_
      have q2 : Cont C W P Z2 L σ (match y.rs ρ2 with
        | some e => (match cop (if ne then .NotEq else .Eq) d e with
          | some b => R.ok (false, D.bl b) ρ2
          | none => .stuck)
        | none => .stuck) fun x ρ' Z' H' => ∀ v, RepR C ρ' Z' L σ H' x.1 x.2 v → Q v H' := by
        cases d <;> first | exact absurd ⟨_, _, rfl⟩ hi | exact q2
      cases e2 : y.rs ρ2 with
      | none => simp only [e2] at q2; exact q2.elim
      | some e =>
        simp only [e2] at q2
        cases e3 : cop (if ne then .NotEq else .Eq) d e with
        | none => simp only [e3] at q2; exact q2.elim
        | some b =>
          simp only [e3] at q2
          exact ⟨P, ρ2, Z2, L, d, e, b, r2, r2.rs hvx e1, r2.rs hvy e2, e3, q2 Z2 H2 (Le.refl _) r2 _ (Rep.bl b)⟩
theorem pe_cmpxE {k : Nat} {a b : Expr} {cf : CF} {id : Nat} {fdT : Fd} {ne : Bool} {f : Addr} {fd : FuncData} {ps : List Str} {fa fb : List Sl → R Op} (kx : Cxk X C W) (cx : ClsX X.K C c) (ex : EqX X.K C c f) (hn : fdT.n = 2) (F : FnG X.prog X.w X.K X.mg X.base k f fd ps (spT C cf id fdT)) (hr : Room (k + 1) X.A) (hb : Binds X.K fd ps []) (ha : PE X a (rdO C W fa)) (hbb : PE X b (rdO C W fb)) :
    PE X (.Compare a [neOp ne] [b] pos) (rdE C W (cmpxF cf ne c id fa fb)) := by
  refine ⟨fun pins s σ H Q I h => ?_⟩
  exact (pe_cmpR (OpR.or (opr_cmp (σ0 := σ) kx (neOp ne)) (opr_own cx ex F hr kx.gd hb ne)) ha hbb (by cases ne <;> exact nomark b)).run pins s σ H Q I (cmpx_rd kx cx hn h)
theorem pt_cmpxT {k : Nat} {a b : Expr} {cf : CF} {id : Nat} {fdT : Fd} {ne : Bool} {f : Addr} {fd : FuncData} {ps : List Str} {fa fb : List Sl → R Op} (kx : Cxk X C W) (cx : ClsX X.K C c) (ex : EqX X.K C c f) (hn : fdT.n = 2) (F : FnG X.prog X.w X.K X.mg X.base k f fd ps (spT C cf id fdT)) (hr : Room (k + 1) X.A) (hb : Binds X.K fd ps []) (ha : PE X a (rdO C W fa)) (hbb : PE X b (rdO C W fb)) :
    PT X (.Compare a [neOp ne] [b] pos) (rdT C W (tru (cmpxF cf ne c id fa fb))) := by
  refine ⟨fun pins s σ H Q I ⟨P, ρ, Z, L, r, q⟩ => ?_⟩
  have q := q.bind
  have h : rdE C W (cmpxF cf ne c id fa fb) σ H (fun x H' => ∃ k, x = .bl k ∧ Q k H') := ⟨P, ρ, Z, L, r, ?_⟩
  · exact (pt_cmpR (OpR.or (opr_cmp (σ0 := σ) kx (neOp ne)) (opr_own cx ex F hr kx.gd hb ne)) ha hbb (by cases ne <;> exact nomark b)).run pins s σ H Q I (cmpx_rd kx cx hn h)
  · have bl : ∀ x ρ', cmpxF cf ne c id fa fb ρ = .ok x ρ' → ∃ b, x = (false, .bl b) := by
      intro x ρ' e
      unfold cmpxF at e
      revert e
      cases fa ρ with
      | stuck => intro e; cases e
      | ex _ _ => intro e; cases e
      | ok x1 ρ1 =>
        simp only [R.bind]
        cases fb ρ1 with
        | stuck => intro e; cases e
        | ex _ _ => intro e; cases e
        | ok y1 ρ2 =>
          simp only
          intro e
          repeat' (first | (cases e; done) | (cases e; exact ⟨_, rfl⟩) | split at e)
    revert q
    cases e : cmpxF cf ne c id fa fb ρ with
    | stuck => exact fun q => q
    | ex _ _ => exact fun q => q
    | ok x ρ' =>
      obtain ⟨b, rfl⟩ := bl x ρ' e
      intro q Z' H' l' r' v hv
      have hv : Rep C Z' (.bl b) v := hv
      cases hv
      exact ⟨b, rfl, (q Z' H' l' r') Z' H' (Le.refl _) r'⟩
end
end L2.T
end

section
set_option Elab.async false
set_option linter.all false
set_option maxRecDepth 100000
set_option maxHeartbeats 4000000
set_option autoImplicit false
namespace L2.T
open PySem PySem.Spec PyProof.Rows
section
variable {X : Cx} {C : Ct} {W : WX} {pos : Pos}
/-! ### {k: v} -/
def ddF (fa fb : List Sl → R Op) : Ev := fun ρ => (fa ρ).bind fun x ρ1 => (fb ρ1).bind fun y ρ2 => (match x.rs ρ2, y.fz ρ2 with
    | some k, some (d, ρ3) => (match keyD k with
      | some key => .ok (true, .dk [(key, d)]) ρ3
      | none => .stuck)
    | _, _ => .stuck)
theorem pe_ddE {a b : Expr} {fa fb : List Sl → R Op} (ha : PE X a (rdO C W fa)) (hb : PE X b (rdO C W fb)) : PE X (.Dict [some a] [b] pos) (rdE C W (ddF fa fb)) := by
  refine PE.imp (pe_disp (pps_cons ha hb pps_nil) rfl rfl (by simp) (by simp)) fun σ H Q ⟨P, ρ, Z, L, r, q⟩ p hp => ?_
  have lp := r.lfree hp
  have le : Le L (upd L p (.dK [])) := Le.upd lp
  refine ⟨P, ρ, Z, upd L p (.dK []), r.fill hp (fun _ z => nomatch z), (Cont.wider le q.bind).mono fun x ρ1 Z1 H1 l1 r1 q1 vx hvx => ⟨P, ρ1, Z1, upd L p (.dK []), r1, (Cont.wider le q1.bind).mono fun y ρ2 Z2 H2 l2 r2 q2 vy hvy => ⟨r2.lh _ _ upd_same, ?_⟩⟩⟩
  have hvx := hvx.mono l2
  cases e1 : x.rs ρ2 with
  | none => simp only [e1] at q2; exact q2.elim
  | some kd =>
    cases e2 : y.fz ρ2 with
    | none => simp only [e1, e2] at q2; exact q2.elim
    | some dr =>
      obtain ⟨d, ρ3⟩ := dr
      simp only [e1, e2] at q2
      cases e3 : keyD kd with
      | none => simp only [e3] at q2; exact q2.elim
      | some key =>
        simp only [e3] at q2
        have hk := kV_key (r2.rs hvx e1) e3
        subst hk
        obtain ⟨Z3, l3, r3, hd⟩ := r2.fz hvy e2
        refine ⟨[(key, vy)], rfl, by simp, ?_⟩
        have em : mergeK [] [(key, vy)] = [(key, vy)] := rfl
        rw [em]
        have r4 := Rel.refill (o' := .dK [(key, vy)]) (show Pln (.dK []) from ⟨fun _ z => (nomatch z), fun _ z => (nomatch z)⟩) (fun _ z => nomatch z) r3
        have zp : Z3 p = none := by
          cases z : Z3 p with
          | none => rfl
          | some o => have := r3.zl p o z; rw [upd_same] at this; cases this
        refine q2 Z3 _ l3 (r4.subL (Le.upd lp)) _ ⟨p, rfl, ⟨zp, [vy], upd_same, .cons hd .nil⟩, lp, fun i e h z => ?_⟩
        obtain ⟨w, hw, _, hl⟩ := r3.sl i _ _ h z
        cases hw
        rw [upd_same] at hl
        cases hl
/-! ### d.pop(k) -/
theorem drop_zip {Z : Hp} {key : Key} : ∀ {kvs : List (Key × D)} {vs : List V}, Reps C Z (kvs.map (·.2)) vs → ∃ ws, dropK ((kvs.map (·.1)).zip vs) key = ((dropA kvs key).map (·.1)).zip ws ∧ Reps C Z ((dropA kvs key).map (·.2)) ws
  | [], _, _ => ⟨[], rfl, .nil⟩
  | (k0, d0) :: kvs, _, .cons (v := v) (vs := vs) h r => by
    obtain ⟨ws, h1, h2⟩ := drop_zip (key := key) r
    unfold dropK dropA at *
    by_cases hk : k0 = key
    · refine ⟨ws, ?_, ?_⟩
      · simp only [List.map_cons, List.zip_cons_cons, List.filter_cons, hk, ne_eq, not_true, decide_false]
        simpa using h1
      · simpa [List.filter_cons, hk] using h2
    · refine ⟨v :: ws, ?_, ?_⟩
      · simp only [List.map_cons, List.zip_cons_cons, List.filter_cons, hk, ne_eq, not_false_eq_true, decide_true, if_true]
        exact congrArg _ h1
      · simp only [List.filter_cons, hk, ne_eq, not_false_eq_true, decide_true, if_true, List.map_cons]
        exact .cons h h2
theorem run_dpop {e : Expr} {es : List Expr} {x : Str} {p apos cpos : Pos} {i : Nat} {fs : List Sl → R (List Op)} (hx : PE X (.Name x p) (tVar i)) (ha : PA X (e :: es) (rdA C W fs)) (hs : starEach (e :: es) X.env = (false, eval e X.env) :: starEach es X.env) (hpl : (backTo cpos (starEach es X.env)).any (·.1) = false)
    (few : ((backTo cpos (starEach (e :: es) X.env)).all (fun x => !x.1) && (backToKw cpos (keywordEach [] X.env)).all (fun x => x.1.isSome) && decide ((e :: es).length + ([] : List Keyword).length + (if ([] : List Keyword).isEmpty then 0 else 1) < 30)) = true) (line : (apos.endLine == cpos.line) = true)
    {pins : List (Addr × Obj)} {s : Shared} {σ : St} {H : Hp} {Q : VK} {P : List (Nat × V)} {ρ : List Sl} {Z L : Hp} {kvs0 : List (Key × D)} (I : Inv X pins σ H s) (r : Rel C P ρ Z L σ H) (h0 : ρ[i]? = some (.ow (.dk kvs0)))
    (q : Cont C W P Z L σ ((fs ρ).bind fun os ρ1 => (match fzL ρ1 os with
      | some (ds, ρ2) => (match ρ2[i]? with
        | some (.ow (.dk kvs)) => (match popD kvs ds with
          | some (o', x) => .ok x (ρ2.set i (.ow o'))
          | none => .stuck)
        | _ => .stuck)
      | none => .stuck)) fun x ρ' Z' H' => ∀ v, RepR C ρ' Z' L σ H' x.1 x.2 v → Q v H') :
    wpAny (model X.prog X.w) X.A (eval (.Call (.Attribute (.Name x p) "pop" apos) (e :: es) [] cpos) X.env) (EP X pins σ Q) X.xe s := by
  obtain ⟨w, hw, a, rfl, ⟨zn, vs0, ha0, ra0⟩, la⟩ := r.slot h0
  refine wpAny_Call_method rfl few line PySem.F.plainAttrs_dict PySem.F.slot_dict_pop PySem.F.type_dict_pop (thn (hx.run pins s σ H (fun x H1 => x = .ref a ∧ H1 = H) I ⟨.ref a, hw, rfl, rfl⟩) fun u s1 ⟨x, H1, I1, rx, ex, eh⟩ => ?_)
  subst ex eh
  obtain rfl : u = Value.ref a := rx
  obtain ⟨t1, t2, _⟩ := isD_at I1 (.inl ⟨_, .inl ha0⟩)
  refine ⟨t1, t2, ?_⟩
  have args := ha.run cpos pins s1 σ H1 (fun vs H2 => ∃ kvs k v, vs = [kV k] ∧ H2 a = some (.dK kvs) ∧ valV kvs k = some v ∧ Q v (upd H2 a (.dK (dropK kvs k)))) I1 ⟨P, ρ, Z, L, r, q.bind.mono fun os ρ1 Z1 H2 l1 r1 q1 vs hvs => ?_⟩
  · rw [hs] at args ⊢
    refine Calls.callWith_builtin hpl (Calls.evalArgs_plain (thn args fun us s2 ⟨vs, H2, I2, rvs, kvs, k, v, ev, hd, hv, q2⟩ => ?_))
    subst ev
    obtain ⟨u1, rfl, r1'⟩ := vals1 rvs
    exact d_pop I2 hd r1' hv (.inl rfl) fun w' s3 I3 rw' => ⟨v, _, I3, rw', q2⟩
  · cases e2 : fzL ρ1 os with
    | none => simp only [e2] at q1; exact q1.elim
    | some dr =>
      obtain ⟨ds, ρ2⟩ := dr
      simp only [e2] at q1
      obtain ⟨Z2, l2, r2, hd⟩ := r1.fzL hvs e2
      split at q1
      · rename_i kvs e3
        cases e4 : popD kvs ds with
        | none => simp only [e4] at q1; exact q1.elim
        | some tr =>
          obtain ⟨o', fr, res⟩ := tr
          simp only [e4] at q1
          match ds, hd, e4 with
          | [kd], .cons hk .nil, e4 =>
            unfold popD at e4
            simp only at e4
            cases e5 : keyD kd with
            | none => simp only [e5] at e4; cases e4
            | some key =>
              simp only [e5] at e4
              cases e6 : valA kvs key with
              | none => simp only [e6] at e4; cases e4
              | some y =>
                simp only [e6] at e4
                cases e4
                obtain ⟨w, hw2, a2, rfl, ⟨zn2, vs2, ha2, ra2⟩, la2⟩ := r2.slot e3
                rw [hw] at hw2
                cases hw2
                have hky := kV_key (hk.vw r2.zh) e5
                subst hky
                obtain ⟨v, h1, h2⟩ := valV_reps ra2 e6
                obtain ⟨ws, g1, g2⟩ := drop_zip (key := key) ra2
                refine ⟨_, key, v, rfl, ha2, h1, ?_⟩
                rw [g1]
                exact q1 Z2 _ l2 (r2.chg e3 hw ⟨zn2, ws, upd_same, g2⟩) v h2
      · exact q1.elim
end
end L2.T
end

section
set_option Elab.async false
set_option linter.all false
set_option maxRecDepth 100000
set_option maxHeartbeats 4000000
set_option autoImplicit false
namespace HN
open PySem PySem.Spec PyProof.Rows PySem.SeqAt
section
variable {prog : Program} {w : World} {A : Around} {E : Value → Shared → Prop} {s : Shared} {K : PySem.W.Frag} {x C f : Addr} {ox : Obj} {od : Option Obj}
/-- repr(x), x of an own class with a __repr__ of its own -/
theorem repr_own {Q : Value → Shared → Prop} (hu : A.in1.units < cLine) (X : K.In s.heap) (I : PySem.W.InstAt s.heap x ox C od) (hs : PySem.W.findIn K (.ref C) "__repr__" = some (some (.ref f))) (hf : PySem.W.isFn K (.ref f) = true)
    (h : wpAny (model prog w) A.in1 (call (.ref f) [.ref x]) (fun v s' => ∃ y t, v = .str y t ∧ Q (.str y t) s') E s) : wpAny (model prog w) A (call (.builtin "repr") [.ref x]) Q E s := by
  refine Calls.call_function_entry F.kind_repr F.plain_repr F.entry_repr (F.args_repr1 _) ?_
  unfold Builtin.«repr»
  refine wpAny_bind (m := oneArg "repr" _) (wpAny_pure ?_)
  refine wpAny_bind (m := cRoomFor _ _) (wpAny_cRoomFor hu ?_)
  refine wpAny_bind (m := specialOf (.ref x) (Str.ofString "__repr__")) (wpAny_bind (I.type.here ((PySem.W.looks_findIn X hs).here ?_)))
  refine wpAny_bind (m := callSpecialIfBound? (.ref x) (Str.ofString "__repr__")) (PySem.W.ifBound_K X I hs hf (wpAny_mono h (fun r s' hr => ?_) fun _ _ e => e))
  obtain ⟨y, t, rfl, q⟩ := hr
  refine wpAny_bind (wpAny_isInstance (T := "str") (b := true) (typeIs_str _ _ _) isSubtype_str_str ?_)
  exact wpAny_pure ⟨_, rfl, q⟩
end
end HN
namespace L2.T
open PySem PySem.Spec PyProof.Rows
/-- the class's own text -/
structure StrX (K : PySem.W.Frag) (C : Ct) (c : Nat) (rp : Bool) (f : Addr) : Prop where
  at_ : PySem.W.findIn K (.ref (C.cl c).1) (if rp then ("__repr__" : Str) else "__str__") = some (some (.ref f))
  fn : PySem.W.isFn K (.ref f) = true
def rTxt (A : Addr) (sp : Sp) : List V → Hp → VK → Prop := fun xs H Q => ∃ a dx fs, xs = [.ref a] ∧ H a = some (.ins A dx fs) ∧ sp [.ref a] H (fun v H' => ∃ y, v = .str y ∧ Q (.str y) H') noE
def txtV (rp : Bool) : Value := if rp then .builtin "repr" else .type "str"
section
variable {X : Cx} {C : Ct} {W : WX} {pos : Pos} {c : Nat}
theorem after_txt {A : Around} {sp : Sp} {k : Nat} {f : Addr} {fd : FuncData} {ps : List Str} {pins : List (Addr × Obj)} {σ : St} {H : Hp} {s : Shared} {x : V} {v : Value} {R : Value → Shared → Prop} {Qb : Str → Hp → Prop} (F : FnG X.prog X.w X.K X.mg X.base k f fd ps sp) (hr : Room k A) (hg : A.guards = some []) (e0 : Env0 X.prog X.w X.K X.mg X.base A X.stack s H) (hb : Binds X.K fd ps []) (I : Inv X pins σ H s) (rx : RelV x v)
    (h : sp [x] H (fun w H' => ∃ y, w = .str y ∧ Qb y H') noE) (hq : ∀ y t s' H', Inv X pins σ H' s' → Qb y H' → R (.str y t) s') : wpAny (model X.prog X.w) A (call (.ref f) [v]) R X.xe s := by
  have hl : [v].length = ps.length := by rw [← F.len _ _ _ _ h]; rfl
  have hbb := hb s [v] I.kIn (by rw [List.append_nil]; exact hl)
  rw [List.append_nil] at hbb
  refine wpAny_call (codeAny_mono (F.run A X.stack s H ⟨[v], []⟩ [v] [x] _ noE hr hg e0 hbb (.cons rx .nil) h) fun res s' hq' => ?_)
  rcases res with e | fl
  · obtain ⟨_, _, _, _, _, _, _, _, _, _, _, _, z⟩ := hq'
    exact z.elim
  · rcases fl with _ | _ | _ | w
    · exact hq'.elim
    · exact hq'.elim
    · exact hq'.elim
    · obtain ⟨z, H', I', rz, y, ez, q⟩ := I.after hq'
      subst ez
      obtain ⟨t, ht⟩ := (show ∃ t, w = Value.str y t from rz)
      subst ht
      exact hq y t s' H' I' q
theorem callr_txt {sp : Sp} {k : Nat} {f : Addr} {fd : FuncData} {ps : List Str} {rp : Bool} (cx : ClsX X.K C c) (ex : StrX X.K C c rp f) (F : FnG X.prog X.w X.K X.mg X.base k f fd ps sp) (hr : Room (k + 2) X.A) (hg : X.A.guards = some []) (hb : Binds X.K fd ps []) : CallR X (txtV rp) (rTxt (C.cl c).1 sp) := by
  intro pins s σ H xs us Q I rv h
  obtain ⟨a, dx, fs, rfl, ha, h⟩ := h
  obtain ⟨u, rfl, ru⟩ := rv.one
  cases ru
  obtain ⟨mA, J, _⟩ := ins_get I.hok ha
  obtain ⟨od, J, _⟩ := J.look
  have hun := hr.un
  cases rp with
  | true =>
    refine HN.repr_own (by show X.A.units + 1 < cLine; omega) I.kIn J ex.at_ ex.fn ?_
    exact after_txt (x := .ref a) (Qb := fun y H' => Q (.str y) H') F (hr.mono (Nat.le_succ _)).in1 hg I.env0.in1 hb I rfl h fun y t s' H' I' q => ⟨y, t, rfl, .str y, H', I', ⟨t, rfl⟩, q⟩
  | false =>
    refine PySem.W.kso_call (by show X.A.units + 1 + 1 < cLine; omega) I.kIn J ex.at_ ex.fn ?_
    exact after_txt (x := .ref a) (Qb := fun y H' => Q (.str y) H') F hr.in1.in1 hg I.env0.in1.in1 hb I rfl h fun y t s' H' I' q => ⟨.str y, H', I', ⟨t, rfl⟩, q⟩
/-- the evaluator's str(x), repr(x) -/
def ownF (cf : CF) (rp : Bool) (c id : Nat) (fs : List Sl → R (List Op)) : Ev := fun ρ => (fs ρ).bind fun os ρ1 => (match rsL ρ1 os with
      | some ds => (match insC ds with
        | some c' => if c' = c then (match fzL ρ1 os with
          | some (ds, ρ2) => (match cf id (ds.map .sh) with
            | .ok (false, .str y) _ => .ok (false, .str y) ρ2
            | _ => .stuck)
          | none => .stuck) else .stuck
        | none => R.of (bfn (if rp then "repr" else "str") ds) ρ1)
      | none => .stuck)
theorem insC_some {ds : List D} {c' : Nat} (h : insC ds = some c') : ∃ gs, ds = [.ins c' gs] := by
  unfold insC at h
  split at h
  · cases h
    exact ⟨_, rfl⟩
  · cases h
def biN (rp : Bool) : String := if rp then "repr" else "str"
theorem own_rd {cf : CF} {id : Nat} {fdT : Fd} {rp : Bool} {fs : List Sl → R (List Op)} (kx : Cxk X C W) (hn : fdT.n = 1) {σ : St} {H : Hp} {Q : VK} (h : rdE C W (ownF cf rp c id fs) σ H Q) :
    tCB (fun xs H Q => rBi C σ (bfn (biN rp)) xs H Q ∨ rTxt (C.cl c).1 (spT C cf id fdT) xs H Q) (rdA C W fs) σ H Q := by
  obtain ⟨P, ρ, Z, L, r, q⟩ := h
  refine ⟨P, ρ, Z, L, r, q.bind.mono fun os ρ1 Z1 H1 l1 r1 q1 vs hvs => ?_⟩
  cases er : rsL ρ1 os with
  | none => simp only [er] at q1; exact q1.elim
  | some ds =>
    simp only [er] at q1
    cases ei : insC ds with
    | none =>
      simp only [ei] at q1
      obtain ⟨res, e1, k1⟩ := q1.of
      exact .inl ⟨P, ρ1, Z1, L, ds, res.1, res.2, r1, r1.rsL hvs er, e1, k1⟩
    | some c' =>
      simp only [ei] at q1
      split at q1
      · rename_i hc
        subst hc
        refine .inr ?_
        cases e2 : fzL ρ1 os with
        | none => simp only [e2] at q1; exact q1.elim
        | some dr =>
          obtain ⟨ds2, ρ2⟩ := dr
          simp only [e2] at q1
          obtain ⟨gs, rfl⟩ := insC_some ei
          obtain ⟨v, rfl, a, dx, ws, rfl, ha, hl, hr⟩ := (r1.rsL hvs er).one
          obtain ⟨Z3, l3, r3, hd⟩ := r1.fzL hvs e2
          match ds2, hd, q1 with
          | [d1], .cons h1 .nil, q1 =>
            refine ⟨a, dx, _, rfl, ha, [.sh d1], Z3, Lx L ρ2 σ H1, ⟨r3.zh, r3.lx_h, r3.lx_z, .sh h1 .nil, r3.lx_tb⟩, hn.symm, fun j d h => ?_, ?_⟩
            · match j with
              | 0 => cases h
              | j + 1 => simp at h
            · revert q1
              show Cont C W P Z1 L σ (match cf id [.sh d1] with
                | .ok (false, .str y) _ => R.ok (false, D.str y) ρ2
                | _ => .stuck) _ → _
              generalize cf id [.sh d1] = res
              intro q1
              split at q1
              · rename_i y outs
                intro v H' Z' af hv
                have hv : Rep C Z' (.str y) v := hv
                cases hv
                exact ⟨y, rfl, q1 Z' H' (l3.trans af.le) (r3.after af.le af.zh af.lh af.zl af.tb) _ (Rep.str _)⟩
              · exact q1.elim
      · exact q1.elim
theorem CallR.or {f : Value} {r1 r2 : List V → Hp → VK → Prop} (h1 : CallR X f r1) (h2 : CallR X f r2) : CallR X f (fun xs H Q => r1 xs H Q ∨ r2 xs H Q) := by
  intro pins s σ H xs us Q I rv h
  rcases h with h | h
  · exact h1 pins s σ H xs us Q I rv h
  · exact h2 pins s σ H xs us Q I rv h
theorem pe_ownE {k : Nat} {rp : Bool} {a : Expr} {x : Str} {p : Pos} {cf : CF} {id : Nat} {fdT : Fd} {f : Addr} {fd : FuncData} {ps : List Str} {fs : List Sl → R (List Op)} (kx : Cxk X C W) (cx : ClsX X.K C c) (ex : StrX X.K C c rp f) (hn : fdT.n = 1) (F : FnG X.prog X.w X.K X.mg X.base k f fd ps (spT C cf id fdT)) (hr : Room (k + 2) X.A) (hb : Binds X.K fd ps [])
    (hbi : ∀ σ0, CallR X (txtV rp) (rBi C σ0 (bfn (biN rp)))) (gl : Gl X x) (hm : X.mg x = none) (hv : bootBuiltins x = some (txtV rp)) (hx : x ≠ "__name__") (hdb : (x == ("__debug__" : Str)) = false)
    (ha : PA X [a] (rdA C W fs)) (he : starEach [a] X.env = (false, eval a X.env) :: starEach [] X.env) (hpl : (backTo pos (starEach [] X.env)).any (·.1) = false) : PE X (.Call (.Name x p) [a] [] pos) (rdE C W (ownF cf rp c id fs)) := by
  refine ⟨fun pins s σ H Q I h => ?_⟩
  have hc := CallR.or (hbi σ) (callr_txt cx ex F hr kx.gd hb)
  have key := own_rd (c := c) kx hn h
  cases rp with
  | true => exact (pe_callB hc gl hm hv ha hx hdb he hpl).run pins s σ H Q I key
  | false => exact (pe_callTy hc gl hm hv ha hx hdb he hpl).run pins s σ H Q I key
/-- {x} -/
def fmtF (fo : List Sl → R Op) : Ev := fun ρ => (fo ρ).bind fun x ρ1 => (match x.rs ρ1 with
    | some (.str y) => if y.length ≤ sizeLine then .ok (false, .str y) ρ1 else .stuck
    | some (.int i) => if i.natAbs.log2 < 1920 then .ok (false, .str (toString i)) ρ1 else .stuck
    | _ => .stuck)
theorem pe_fmtE {a : Expr} {fo : List Sl → R Op} (ha : PE X a (rdO C W fo)) : PE X (.FormattedValue a (-1) none pos) (rdE C W (fmtF fo)) := by
  refine ⟨fun pins s σ H Q I ⟨P, ρ, Z, L, r, q⟩ => ?_⟩
  refine (pe_fmt ha).run pins s σ H Q I ?_
  refine ⟨P, ρ, Z, L, r, q.bind.mono fun x ρ1 Z1 H1 l1 r1 q1 v hv => ?_⟩
  cases e : x.rs ρ1 with
  | none => simp only [e] at q1; exact q1.elim
  | some d =>
    simp only [e] at q1
    have h := r1.rs hv e
    cases d <;> simp only at q1 <;> (try (exact q1.elim))
    · split at q1
      · rename_i i hz
        cases (show v = .int i from h)
        exact .inr ⟨i, rfl, hz, q1 Z1 H1 (Le.refl _) r1 _ (Rep.str _)⟩
      · exact q1.elim
    · split at q1
      · rename_i y hz
        cases (show v = .str y from h)
        exact .inl ⟨y, rfl, hz, q1 Z1 H1 (Le.refl _) r1 _ (Rep.str _)⟩
      · exact q1.elim
/-- an f-string's parts -/
def PJT (X : Cx) (C : Ct) (W : WX) (es : List Expr) (g : Str → List Sl → R Str) : Prop := ∃ ts, PJ X es ts ∧ ∀ acc σ H (Q : Str → Hp → Prop), rdG C W (g acc) σ H (fun _ _ y _ _ H' => Q y H') → tJs ts acc σ H Q
theorem pjt_nil : PJT X C W [] fun acc ρ => .ok acc ρ := ⟨[], .nil, fun acc σ H Q ⟨P, ρ, Z, L, r, q⟩ => q Z H (Le.refl _) r⟩
theorem pjt_cons {e : Expr} {es : List Expr} {fe : Ev} {g : Str → List Sl → R Str} (he : PE X e (rdE C W fe)) (h : PJT X C W es g) : PJT X C W (e :: es) fun acc ρ => (fe ρ).bind fun x ρ1 => (match x.2 with
    | .str y => if (acc ++ y).length ≤ sizeLine then g (acc ++ y) ρ1 else .stuck
    | _ => .stuck) := by
  obtain ⟨ts, h1, h2⟩ := h
  refine ⟨_ :: ts, .cons he h1, fun acc σ H Q ⟨P, ρ, Z, L, r, q⟩ => ?_⟩
  refine ⟨P, ρ, Z, L, r, q.bind.mono fun x ρ1 Z1 H1 l1 r1 q1 v hv => ?_⟩
  obtain ⟨fr, d⟩ := x
  have hw := hv.vw r1
  cases d <;> simp only at q1 <;> (try (exact q1.elim))
  split at q1
  · rename_i y hz
    cases (show v = .str y from hw)
    exact ⟨y, rfl, hz, h2 _ σ H1 Q ⟨P, ρ1, Z1, L, r1, q1⟩⟩
  · exact q1.elim
theorem pe_fstE {v1 v2 : Expr} {rest : List Expr} {g : Str → List Sl → R Str} (h : PJT X C W (v1 :: v2 :: rest) g) : PE X (.JoinedStr (v1 :: v2 :: rest) pos) (rdE C W fun ρ => (g Str.empty ρ).bind fun y ρ1 => .ok (false, .str y) ρ1) := by
  obtain ⟨ts, h1, h2⟩ := h
  refine ⟨fun pins s σ H Q I ⟨P, ρ, Z, L, r, q⟩ => ?_⟩
  refine (pe_joined h1).run pins s σ H Q I (h2 _ σ H _ ⟨P, ρ, Z, L, r, q.bind.mono fun y ρ1 Z1 H1 l1 r1 q1 => ?_⟩)
  exact q1 Z1 H1 (Le.refl _) r1 _ (Rep.str _)
theorem stuckJ {es : List Expr} {g : Str → List Sl → R Str} (h : ∀ acc ρ, g acc ρ = .stuck) : PJT X C W es g := by
  have key : ∀ es : List Expr, ∃ ts, PJ X es ts ∧ (es ≠ [] → True) := fun es => ⟨es.map fun _ => rdE C W fun _ => .stuck, by
    induction es with
    | nil => exact .nil
    | cons e es ih => exact .cons pe_noE ih, fun _ => trivial⟩
  obtain ⟨ts, h1, _⟩ := key es
  exact ⟨ts, h1, fun acc σ H Q ⟨P, ρ, Z, L, r, q⟩ => by rw [h] at q; exact q.elim⟩
end
end L2.T
end

section
set_option Elab.async false
set_option linter.all false
set_option maxRecDepth 100000
set_option maxHeartbeats 4000000
set_option autoImplicit false
namespace L2.T
open PySem PySem.Spec PyProof.Rows

/-! ### calls by their bodies -/
def fin (n : Nat) : R Fl → R (Bool × D)
  | .ok fl ρ => (match fl with
    | .rt fr d => .ok (fr, d) (ρ.take n)
    | .nx => .ok (false, .non) (ρ.take n)
    | _ => .stuck)
  | .ex x ρ => .ex x (ρ.take n)
  | .stuck => .stuck
theorem run_at {T : Nat → Option Fd} {F k j : Nat} {as : List Sl} {fd : Fd} (hT : T j = some fd) (hn : as.length = fd.n) (hj : j < BB := by decide) : callF T F (k + 1) j as = fin fd.n (evB T (callF T F k) F fd.mv fd.body (as ++ List.replicate (fd.ns - fd.n) .un)) := by
  rw [callF_run hj]
  unfold runF
  rw [hT]
  simp only [hn, if_true]
  cases evB T (callF T F k) F fd.mv fd.body (as ++ List.replicate (fd.ns - fd.n) .un) with
  | stuck => rfl
  | ex x ρ => rfl
  | ok fl ρ => cases fl <;> rfl
theorem shaped_int (i : Int) : SeqAt.shaped (.int i) = true := rfl
theorem eq_int (i j : Int) : eqD (.int i) (.int j) = some (decide (i = j)) := by
  unfold eqD
  simp only [D.py, shaped_int, Bool.and_self, if_true, PyData.eqv]
  rfl
theorem at3_0 {α : Type} {a b c : α} : L2.atI [a, b, c] 0 = some a := rfl
theorem at3_1 {α : Type} {a b c : α} : L2.atI [a, b, c] 1 = some b := rfl
theorem at3_2 {α : Type} {a b c : α} : L2.atI [a, b, c] 2 = some c := rfl
theorem at2_0 {α : Type} {a b : α} : L2.atI [a, b] 0 = some a := rfl
theorem at2_1 {α : Type} {a b : α} : L2.atI [a, b] 1 = some b := rfl
/-- an int at a place in range -/
theorem atI_mod {α : Type} {xs : List α} {i : Int} (h0 : 0 ≤ i) (h1 : i < xs.length) : ∃ x, L2.atI xs i = some x ∧ x ∈ xs := by
  unfold L2.atI L2.ixN
  rw [if_pos h0, if_pos h1]
  have hl : i.toNat < xs.length := by omega
  exact ⟨xs[i.toNat], by simp [hl], List.getElem_mem hl⟩
theorem mul_small {i j : Int} (hi : i.natAbs < 2 ^ 250) (hj : j.natAbs < 2 ^ 250) : mulOk i j = true := by
  unfold mulOk
  have h : ∀ n : Nat, n < 2 ^ 250 → n.log2 ≤ 250 := fun n hn => by
    rcases Nat.eq_zero_or_pos n with rfl | hp
    · simp
    · exact Nat.le_of_lt ((Nat.log2_lt (by omega)).mpr hn)
  have h1 := h _ hi
  have h2 := h _ hj
  simp only [decide_eq_true_eq]
  omega
theorem mul_le {i j : Int} (hi : i.natAbs ≤ 2 ^ 200) (hj : j.natAbs ≤ 2 ^ 200) : mulOk i j = true := by
  have : (2 : Nat) ^ 200 < 2 ^ 250 := Nat.pow_lt_pow_right (by omega) (by omega)
  exact mul_small (by omega) (by omega)
theorem div_pos {j : Int} (h0 : 0 < j) (h1 : j ≤ 2 ^ 200) : divOk j = true := by
  unfold divOk
  have h2 : j.natAbs.log2 < 9000 := by
    have : j.natAbs ≤ 2 ^ 200 := by omega
    have h3 : j.natAbs < 2 ^ 201 := by have : (2 : Nat) ^ 200 < 2 ^ 201 := Nat.pow_lt_pow_right (by omega) (by omega); omega
    have := (Nat.log2_lt (n := j.natAbs) (k := 201) (by omega)).mpr h3
    omega
  simp only [Bool.and_eq_true, decide_eq_true_eq]
  exact ⟨by omega, h2⟩
theorem fmod_pos {i j : Int} (h : 0 < j) : 0 ≤ i.fmod j ∧ i.fmod j < j := ⟨Int.fmod_nonneg_of_pos i h, Int.fmod_lt_of_pos i h⟩
theorem fmod_ne {j : Int} (h : 0 < j) : (j = 0) = False := by simp; omega

/-! ### the drawing -/
def irDraw : Ss := (.cons (.ite (.cmp .Gt (.idx (.v 0) (.c (.int 2))) (.c (.int 0))) (.cons (.asg (.nm 2) (.bin .Mod (.idx (.v 0) (.c (.int 2))) (.v 1))) (.cons (.six 0 (.c (.int 2)) (.bin .FloorDiv (.idx (.v 0) (.c (.int 2))) (.v 1))) (.cons (.ret (.v 2)) .nil))) .nil) (.cons (.asg (.nm 3) (.idx (.v 0) (.c (.int 1)))) (.cons (.six 0 (.c (.int 1)) (.bin .Add (.v 3) (.c (.int 1)))) (.cons (.asg (.nm 4) (.c (.int 7))) (.cons (.ite (.cmp .Gt (.bi "len" (.cons (.idx (.v 0) (.c (.int 0))) .nil)) (.c (.int 0))) (.cons (.asg (.nm 4) (.idx (.idx (.v 0) (.c (.int 0))) (.bin .Mod (.v 3) (.bi "len" (.cons (.idx (.v 0) (.c (.int 0))) .nil))))) .nil) .nil) (.cons (.ite (.and (.cmp .Lt (.v 3) (.bi "len" (.cons (.idx (.v 0) (.c (.int 0))) .nil))) (.cmp .GtE (.v 4) (.bin .Pow (.c (.int 10)) (.c (.int 18))))) (.cons (.six 0 (.c (.int 2)) (.bin .FloorDiv (.v 4) (.v 1))) (.cons (.ret (.bin .Mod (.v 4) (.v 1))) .nil)) .nil) (.cons (.asg (.nm 5) (.bin .Mod (.bin .Mult (.bin .Add (.bin .Mod (.v 4) (.c (.int 2147483629))) (.c (.int 11))) (.bin .Add (.bin .Add (.bin .Mult (.v 3) (.v 3)) (.bin .Mult (.c (.int 5)) (.v 3))) (.c (.int 3)))) (.c (.int 2147483647)))) (.cons (.asg (.nm 5) (.bin .Mod (.bin .Mult (.bin .Mod (.bin .Add (.bin .Pow (.v 5) (.c (.int 3))) (.bin .Mult (.c (.int 69621)) (.v 3))) (.c (.int 2147483587))) (.c (.int 40692))) (.c (.int 2147483399)))) (.cons (.ite (.cmp .Gt (.v 1) (.bin .Pow (.c (.int 10)) (.c (.int 6)))) (.cons (.asg (.nm 5) (.bin .Add (.bin .Mult (.v 5) (.c (.int 2147483629))) (.bin .Mod (.bin .Mult (.bin .Mod (.v 5) (.c (.int 1000003))) (.c (.int 48271))) (.c (.int 2147483587))))) .nil) .nil) (.cons (.ret (.bin .Mod (.bin .FloorDiv (.v 5) (.c (.int 64))) (.v 1))) .nil))))))))))
def pen (cs : List Int) (n r : Int) : D := .lst [.lst (cs.map D.int), .int n, .int r]
end L2.T
end

section
set_option Elab.async false
set_option linter.all false
set_option maxRecDepth 100000
set_option maxHeartbeats 4000000
set_option autoImplicit false
namespace L2.T
open PySem PySem.Spec PyProof.Rows

/-! ### the evaluator, rule by rule -/
def pick {α : Type} (t : Bool) (A B : α) : α := match t with
  | true => A
  | false => B
/-- the second link of a chain -/
def chn2 (p : CmpOp) (c : E) (fc : Ev) (y : Op) (ρ : List Sl) : R (Bool × D) := (opOf c fc ρ).bind fun z ρ3 => match y.rs ρ3, z.rs ρ3 with
  | some e, some g => (match cop p e g with
    | some r => .ok (false, .bl r) ρ3
    | none => .stuck)
  | _, _ => .stuck
/-- behind a statement -/
def goOn (fl : Fl) (A : R Fl) (ρ : List Sl) : R Fl := match fl with
  | .nx => A
  | fl => .ok fl ρ
theorem go_nx {A q : R Fl} {ρ : List Sl} (h : A = q) : goOn .nx A ρ = q := h
theorem go_rt {A : R Fl} {ρ : List Sl} {fr : Bool} {d : D} : goOn (.rt fr d) A ρ = .ok (.rt fr d) ρ := rfl
theorem pick_t {α : Type} {A B r : α} (h : A = r) : pick true A B = r := h
theorem pick_f {α : Type} {A B r : α} (h : B = r) : pick false A B = r := h
section
variable {T : Nat → Option Fd} {cf : CF} {F : Nat} {mv : List Nat} {ρ ρ1 ρ2 ρ3 ρ4 : List Sl} {a b c e : E} {d d1 d2 d3 d4 : D} {fr fr1 fr2 : Bool} {x y z : Op} {i j n : Nat} {es : Es}
theorem set_0 {s v : Sl} {r : List Sl} : (s :: r).set 0 v = v :: r := rfl
theorem set_s {s v : Sl} {r r' : List Sl} {i : Nat} (h : r.set i v = r') : (s :: r).set (i + 1) v = s :: r' := by rw [List.set_cons_succ, h]
theorem e_c : evE T cf (.c d) ρ = .ok (false, d) ρ := rfl
theorem e_vs (h : ρ[i]? = some (.sh d)) : evE T cf (.v i) ρ = .ok (false, d) ρ := by simp only [evE, rdV, h]
theorem e_vo (h : ρ[i]? = some (.ow d)) (h2 : ρ.set i (.sh d) = ρ1) : evE T cf (.v i) ρ = .ok (false, d) ρ1 := by simp only [evE, rdV, h, h2]
theorem o_vs {f : Ev} (h : ρ[i]? = some (.sh d)) : opOf (.v i) f ρ = .ok (.sl i) ρ := by simp only [opOf, h]
theorem o_vo {f : Ev} (h : ρ[i]? = some (.ow d)) : opOf (.v i) f ρ = .ok (.sl i) ρ := by simp only [opOf, h]
theorem o_e (hn : ∀ i, e ≠ .v i) (h : evE T cf e ρ = .ok (fr, d) ρ1) : opOf e (evE T cf e) ρ = .ok (.val d) ρ1 := by
  have : opOf e (evE T cf e) ρ = (evE T cf e ρ).bind fun x ρ1 => .ok (.val x.2) ρ1 := by
    cases e <;> first | rfl | exact absurd rfl (hn _)
  rw [this, h]
  rfl
theorem r_val : (Op.val d).rs ρ = some d := rfl
theorem r_sh (h : ρ[i]? = some (.sh d)) : (Op.sl i).rs ρ = some d := by simp only [Op.rs, h]
theorem r_ow (h : ρ[i]? = some (.ow d)) : (Op.sl i).rs ρ = some d := by simp only [Op.rs, h]
theorem f_val : (Op.val d).fz ρ = some (d, ρ) := rfl
theorem f_sh (h : ρ[i]? = some (.sh d)) : (Op.sl i).fz ρ = some (d, ρ) := by simp only [Op.fz, h]
theorem f_ow (h : ρ[i]? = some (.ow d)) (h2 : ρ.set i (.sh d) = ρ1) : (Op.sl i).fz ρ = some (d, ρ1) := by simp only [Op.fz, h, h2]
theorem g_bin {α : Type} {fa fb : Ev} {g : D → D → Option α} {r : α} (h1 : opOf a fa ρ = .ok x ρ1) (h2 : opOf b fb ρ1 = .ok y ρ2) (h3 : x.rs ρ2 = some d) (h4 : y.rs ρ2 = some d1) (h5 : g d d1 = some r) : binOp a b fa fb g ρ = .ok r ρ2 := by
  simp only [binOp, h1, h2, R.bind, h3, h4, h5, R.of]
theorem e_bin {o : Operator} {r : Bool × D} (h : binOp a b (evE T cf a) (evE T cf b) (bop o) ρ = .ok r ρ1) : evE T cf (.bin o a b) ρ = .ok r ρ1 := h
theorem e_cmp {o : CmpOp} {t : Bool} (h : binOp a b (evE T cf a) (evE T cf b) (cop o) ρ = .ok t ρ1) : evE T cf (.cmp o a b) ρ = .ok (false, .bl t) ρ1 := by
  simp only [evE, h, R.bind]
theorem e_idx (h : binOp a b (evE T cf a) (evE T cf b) ixD ρ = .ok d ρ1) : evE T cf (.idx a b) ρ = .ok (false, d) ρ1 := by
  simp only [evE, h, R.bind]
theorem e_neg {m : Int} (h1 : opOf a (evE T cf a) ρ = .ok x ρ1) (h2 : x.rs ρ1 = some (.int m)) : evE T cf (.neg a) ρ = .ok (false, .int (-m)) ρ1 := by
  simp only [evE, h1, R.bind, h2]
theorem t_e {t : Bool} (h1 : evE T cf a ρ = .ok (fr, d) ρ1) (h2 : d.truth = some t) : tru (evE T cf a) ρ = .ok t ρ1 := by
  simp only [tru, h1, R.bind, h2, R.of]
theorem e_not {t : Bool} (h : tru (evE T cf a) ρ = .ok t ρ1) : evE T cf (.not a) ρ = .ok (false, .bl (!t)) ρ1 := by
  simp only [evE, h, R.bind]
theorem e_and {t : Bool} {r : R (Bool × D)} (h1 : evE T cf a ρ = .ok (fr, .bl t) ρ1) (h2 : pick t (evE T cf b ρ1) (.ok (false, .bl false) ρ1) = r) : evE T cf (.and a b) ρ = r := by
  simp only [evE, h1, R.bind]
  cases t <;> exact h2
theorem e_or {t : Bool} {r : R (Bool × D)} (h1 : evE T cf a ρ = .ok (fr, .bl t) ρ1) (h2 : pick t (.ok (false, .bl true) ρ1) (evE T cf b ρ1) = r) : evE T cf (.or a b) ρ = r := by
  simp only [evE, h1, R.bind]
  cases t <;> exact h2
theorem e_ife {t : Bool} {r : R (Bool × D)} (h1 : tru (evE T cf c) ρ = .ok t ρ1) (h2 : pick t (evE T cf a ρ1) (evE T cf b ρ1) = r) : evE T cf (.ife c a b) ρ = r := by
  simp only [evE, h1, R.bind]
  cases t <;> exact h2
theorem es_nil : evEs T cf .nil ρ = .ok [] ρ := rfl
theorem es_cons {os : List Op} (h1 : opOf e (evE T cf e) ρ = .ok x ρ1) (h2 : evEs T cf es ρ1 = .ok os ρ2) : evEs T cf (.cons e es) ρ = .ok (x :: os) ρ2 := by
  simp only [evEs, h1, h2, R.bind]
theorem fz_nil : fzL ρ [] = some ([], ρ) := rfl
theorem fz_cons {os : List Op} {ds : List D} (h1 : x.fz ρ = some (d, ρ1)) (h2 : fzL ρ1 os = some (ds, ρ2)) : fzL ρ (x :: os) = some (d :: ds, ρ2) := by
  simp only [fzL, h1, h2]
theorem rs_nil : rsL ρ [] = some [] := rfl
theorem rs_cons {os : List Op} {ds : List D} (h1 : x.rs ρ = some d) (h2 : rsL ρ os = some ds) : rsL ρ (x :: os) = some (d :: ds) := by
  simp only [rsL, h1, h2]
theorem e_tup {os : List Op} {ds : List D} (h1 : evEs T cf es ρ = .ok os ρ1) (h2 : fzL ρ1 os = some (ds, ρ2)) (h3 : ds.length ≤ sizeLine) : evE T cf (.tup es) ρ = .ok (false, .tup ds) ρ2 := by
  simp only [evE, h1, R.bind, h2, h3, if_true]
theorem e_lst {os : List Op} {ds : List D} (h1 : evEs T cf es ρ = .ok os ρ1) (h2 : fzL ρ1 os = some (ds, ρ2)) (h3 : ds.length ≤ sizeLine) : evE T cf (.lst es) ρ = .ok (true, .lst ds) ρ2 := by
  simp only [evE, h1, R.bind, h2, h3, if_true]
theorem e_bi {os : List Op} {ds : List D} {bn : String} {r : Bool × D} (h1 : evEs T cf es ρ = .ok os ρ1) (h2 : rsL ρ1 os = some ds) (h3 : bfn bn ds = some r) : evE T cf (.bi bn es) ρ = .ok r ρ1 := by
  simp only [evE, h1, R.bind, h2, h3, R.of]
theorem s_asg {t : Tg} (h1 : evE T cf e ρ = .ok (fr, d) ρ1) (h2 : asgT mv t fr d ρ1 = some ρ2) : evS T cf F mv (.asg t e) ρ = .ok .nx ρ2 := by
  simp only [evS, h1, R.bind, h2, R.of]
theorem a_nms (h : mv.contains i = false) (h2 : ρ.set i (.sh d) = ρ1) : asgT mv (.nm i) false d ρ = some ρ1 := by
  simp only [asgT, asgN, h]
  simpa using h2
theorem a_nmo (h : mv.contains i = false) (h2 : ρ.set i (.ow d) = ρ1) : asgT mv (.nm i) true d ρ = some ρ1 := by
  simp only [asgT, asgN, h]
  simpa using h2
theorem a_tup {ts : List Tg} {ds : List D} (h : asgTs mv ts ds ρ = some ρ1) : asgT mv (.tu ts) fr (.tup ds) ρ = some ρ1 := by
  simp only [asgT, h]
theorem a_lst {ts : List Tg} {ds : List D} (h : asgTs mv ts ds ρ = some ρ1) : asgT mv (.tu ts) fr (.lst ds) ρ = some ρ1 := by
  simp only [asgT, h]
theorem as_nil : asgTs mv [] [] ρ = some ρ := rfl
theorem as_cons {t : Tg} {ts : List Tg} {ds : List D} (h1 : asgT mv t false d ρ = some ρ1) (h2 : asgTs mv ts ds ρ1 = some ρ2) : asgTs mv (t :: ts) (d :: ds) ρ = some ρ2 := by
  simp only [asgTs, h1, h2]
theorem s_six {ix : E} {o o' kd : D} (h0 : ρ[i]? = some (.ow d2)) (h1 : opOf e (evE T cf e) ρ = .ok y ρ1) (h2 : opOf ix (evE T cf ix) ρ1 = .ok x ρ2) (h3 : y.fz ρ2 = some (d, ρ3)) (h4 : x.rs ρ3 = some kd) (h5 : ρ3[i]? = some (.ow o)) (h6 : setD o kd d = some o') (h7 : ρ3.set i (.ow o') = ρ4) : evS T cf F mv (.six i ix e) ρ = .ok .nx ρ4 := by
  simp only [evS, h0, h1, h2, R.bind, h3, h4, h5, h6, h7]
theorem s_ex (h1 : evE T cf e ρ = .ok (fr, d) ρ1) : evS T cf F mv (.ex e) ρ = .ok .nx ρ1 := by
  simp only [evS, h1, R.bind]
theorem s_ret (h1 : evE T cf e ρ = .ok (fr, d) ρ1) : evS T cf F mv (.ret e) ρ = .ok (.rt fr d) ρ1 := by
  simp only [evS, h1, R.bind]
theorem s_ite {sa sb : Ss} {t : Bool} {r : R Fl} (h1 : tru (evE T cf c) ρ = .ok t ρ1) (h2 : pick t (evB T cf F mv sa ρ1) (evB T cf F mv sb ρ1) = r) : evS T cf F mv (.ite c sa sb) ρ = r := by
  simp only [evS, h1, R.bind]
  cases t <;> exact h2
theorem b_nil : evB T cf F mv .nil ρ = .ok .nx ρ := rfl
theorem b_nx {s : S} {r : Ss} {q : R Fl} (h1 : evS T cf F mv s ρ = .ok .nx ρ1) (h2 : evB T cf F mv r ρ1 = q) : evB T cf F mv (.cons s r) ρ = q := by
  simp only [evB, h1, R.bind]
  exact h2
theorem b_cons {s : S} {r : Ss} {q : R Fl} {fl : Fl} (h1 : evS T cf F mv s ρ = .ok fl ρ1) (h2 : goOn fl (evB T cf F mv r ρ1) ρ1 = q) : evB T cf F mv (.cons s r) ρ = q := by
  simp only [evB, h1, R.bind]
  cases fl <;> exact h2
theorem b_rt {s : S} {r : Ss} (h1 : evS T cf F mv s ρ = .ok (.rt fr d) ρ1) : evB T cf F mv (.cons s r) ρ = .ok (.rt fr d) ρ1 := by
  simp only [evB, h1, R.bind]
theorem e_chn {o p : CmpOp} {t : Bool} {r : R (Bool × D)} (h1 : opOf a (evE T cf a) ρ = .ok x ρ1) (h2 : opOf b (evE T cf b) ρ1 = .ok y ρ2) (h3 : x.rs ρ2 = some d) (h4 : y.rs ρ2 = some d1) (h5 : cop o d d1 = some t) (h6 : pick t (chn2 p c (evE T cf c) y ρ2) (.ok (false, .bl false) ρ2) = r) : evE T cf (.chn o p a b c) ρ = r := by
  simp only [evE, h1, h2, R.bind, h3, h4, h5]
  cases t with
  | false => exact h6
  | true =>
    rw [← h6]
    show _ = chn2 p c (evE T cf c) y ρ2
    unfold chn2
    cases opOf c (evE T cf c) ρ2 <;> rfl
theorem c2 {p : CmpOp} {f : Ev} {t : Bool} (h1 : opOf c f ρ = .ok z ρ1) (h2 : y.rs ρ1 = some d) (h3 : z.rs ρ1 = some d1) (h4 : cop p d d1 = some t) : chn2 p c f y ρ = .ok (false, .bl t) ρ1 := by
  simp only [chn2, h1, R.bind, h2, h3, h4]
theorem e_call {f : Nat} {os : List Op} {r : R (Bool × D)} (h1 : evEs T cf es ρ = .ok os ρ1) (h2 : callOp T cf f os ρ1 = r) : evE T cf (.call f es) ρ = r := by
  simp only [evE, h1, R.bind]
  exact h2
theorem c_op {f : Nat} {os : List Op} {fd : Fd} {as outs : List Sl} {r : Bool × D} (h1 : T f = some fd) (h2 : argsIn fd.mv 0 os ρ = some (as, ρ1)) (h3 : cf f as = .ok r outs) (h4 : argsOut os as outs ρ1 = ρ2) : callOp T cf f os ρ = .ok r ρ2 := by
  simp only [callOp, h1, h2, h3, h4]
end
/-! ### operations -/
section
variable {i j : Int}
theorem b_add : bop .Add (.int i) (.int j) = some (false, .int (i + j)) := rfl
theorem b_sub : bop .Sub (.int i) (.int j) = some (false, .int (i - j)) := rfl
theorem b_mul (h : mulOk i j = true) : bop .Mult (.int i) (.int j) = some (false, .int (i * j)) := by simp only [bop, h, if_true]
theorem b_div (h : divOk j = true) : bop .FloorDiv (.int i) (.int j) = some (false, .int (i.fdiv j)) := by simp only [bop, h, if_true]
theorem b_mod (h : j ≠ 0) : bop .Mod (.int i) (.int j) = some (false, .int (i.fmod j)) := by simp only [bop, h, if_false]
theorem b_pow (h : powOk i j = true) : bop .Pow (.int i) (.int j) = some (false, .int (i ^ j.toNat)) := by simp only [bop, h, if_true]
theorem c_lt_t (h : i < j) : cop .Lt (.int i) (.int j) = some true := by simp only [cop, h, decide_true]
theorem c_lt_f (h : j ≤ i) : cop .Lt (.int i) (.int j) = some false := by simp only [cop, Int.not_lt.mpr h, decide_false]
theorem c_le_t (h : i ≤ j) : cop .LtE (.int i) (.int j) = some true := by simp only [cop, h, decide_true]
theorem c_le_f (h : j < i) : cop .LtE (.int i) (.int j) = some false := by simp only [cop, Int.not_le.mpr h, decide_false]
theorem c_gt_t (h : j < i) : cop .Gt (.int i) (.int j) = some true := by simp only [cop, h, decide_true]
theorem c_gt_f (h : i ≤ j) : cop .Gt (.int i) (.int j) = some false := by simp only [cop, Int.not_lt.mpr h, decide_false]
theorem c_ge_t (h : j ≤ i) : cop .GtE (.int i) (.int j) = some true := by simp only [cop, h, decide_true]
theorem c_ge_f (h : i < j) : cop .GtE (.int i) (.int j) = some false := by simp only [cop, Int.not_le.mpr h, decide_false]
theorem c_eq_t (h : i = j) : cop .Eq (.int i) (.int j) = some true := by show eqD (.int i) (.int j) = _; simp only [eq_int, h, decide_true]
theorem c_eq_f (h : i ≠ j) : cop .Eq (.int i) (.int j) = some false := by show eqD (.int i) (.int j) = _; simp only [eq_int, h, decide_false]
theorem c_ne_t (h : i ≠ j) : cop .NotEq (.int i) (.int j) = some true := by simp only [cop, eq_int, h, decide_false, Option.map_some, Bool.not_false]
theorem c_ne_f (h : i = j) : cop .NotEq (.int i) (.int j) = some false := by simp only [cop, eq_int, h, decide_true, Option.map_some, Bool.not_true]
end
end L2.T
end

section
set_option Elab.async false
set_option linter.all false
set_option maxRecDepth 100000
set_option maxHeartbeats 4000000
set_option autoImplicit false
namespace L2.T
open PySem PySem.Spec PyProof.Rows
section
variable {X : Cx} {pins : List (Addr × Obj)} {σ : St} {H : Hp} {s : Shared}
/-- an error's object that stands in the heap is told from now on -/
theorem inv_keep {a c : Addr} {ob : Obj} {us : Array Value} (I : Inv X pins σ H s) (hg : s.heap.get? a = some ob) (hz : Zc (.ref c) none ob) (hd : ob.data = .fields us) (na : H a = none) (n0 : X.s_0.heap.get? a = none) (nl : a ≠ X.env.locals) (np : ∀ p ∈ X.pn ++ pins, p.1 ≠ a) :
    Inv X pins σ (upd H a (ExO a c)) s := by
  have ne : ∀ {b : Addr} {o : HO}, H b = some o → b ≠ a := fun {b o} e z => by rw [z, na] at e; cases e
  refine ⟨I.ok, I.os, I.bare, ⟨I.base.keep, I.base.slot, fun b o e h1 h2 => ?_, I.base.there, fun b xs e => ?_, fun b o u e => ?_, fun b ps e => ?_⟩, I.loc, I.cell, ?_, fun y k e => ?_, fun p hp => ?_, fun b u e => ?_, I.len⟩
  · rw [upd_ne (fun z => by rw [z, n0] at e; cases e)]
    exact I.base.free b o e h1 h2
  · have q := I.base.tups b xs e
    rw [upd_ne (ne q)]
    exact q
  · have q := I.base.frzs b o u e
    rw [upd_ne (ne q)]
    exact q
  · obtain ⟨more, q⟩ := I.base.tbls b ps e
    rw [upd_ne (ne q)]
    exact ⟨more, q⟩
  · rw [upd_ne (Ne.symm nl)]
    exact I.free
  · obtain ⟨v, o, h1, h2⟩ := I.cell y k e
    rw [upd_ne (fun z => by rw [z, hg] at h1; cases h1; rw [hd] at h2; cases h2)]
    exact I.freeC y k e
  · obtain ⟨h1, h2, h3, h4, h5⟩ := I.pin p hp
    exact ⟨h1, by rw [upd_ne (np p hp)]; exact h2, h3, h4, h5⟩
  · by_cases hb : b = a
    · subst hb
      rw [upd_same] at e
      cases e
      exact ⟨⟨ob, us, hg, hz.1, hz.2, hd⟩, ⟨ob, hg⟩, fun h1 h2 ⟨o, vs, e1, e2⟩ st => ⟨o, vs, st _ e1, e2⟩⟩
    · rw [upd_ne hb] at e
      exact (I.hok b u e).stay (fun _ _ _ q => q) (fun d q => by rw [upd_ne (ne q)]; exact q) fun d xs q => by rw [upd_ne (ne q)]; exact q
end
/-- what the first clause 'except x as n' wishes: the error is kept by the suite in some slot, n goes -/
def wKp (K : PySem.W.Frag) (c : Value) (i : Nat) (ts : Addr → TS) (D : Ends) : WX := fun cls d σ H => ∃ C, cls = .ref C ∧ d = none ∧ PySem.W.exmOne K cls c = some true ∧
  ∀ a, H a = none → ts a { nx := fun σ' H' => H' a = none → D.nx (σ'.set i none) (upd H' a (ExO a C)), rt := fun _ _ => False, bk := fun _ _ => False, ct := fun _ _ => False } (σ.set i (some (.ref a))) H
section
variable {X : Cx} {x n : Str} {c : Value} {i : Nat} {body suite : List Stmt} {st : Stmt} {hds : List ExceptHandler} {p1 p2 p3 : Pos} {tb : WX → TS} {ts : Addr → TS}
theorem ps_try_kept (hk : X.stack = X.env :: X.outer) (hl : X.env.frame = some X.env.locals) (hx : X.ex = []) (nd : X.N.Nodup) (hi : X.N[i]? = some n) (hn : X.env.kindOf n = some .local) (nm : Names X x c)
    (hb : ∀ (W : WX) (pn : List (Addr × Obj)) (xe : Value → Shared → Prop), Takes (X.tr pn xe) W → PassesOwn (model X.prog X.w) X.A X.env xe → PSs (X.tr pn xe) body (tb W))
    (hu : ∀ (a : Addr) (ob : Obj) (pn : List (Addr × Obj)), PSs (X.suite a ((a, ob) :: pn)) (st :: suite) (ts a)) :
    PS X (.Try body (.ExceptHandler (some (.Name x p1)) (some n) (st :: suite) p2 :: hds) [] [] p3) (fun D σ H => tb (wKp X.K c i ts D) D σ H) := by
  refine ⟨fun pins s σ H D I h => wpAny_Try_except ?_⟩
  have ok := I.ok
  have hfr : X.A.frames = some (X.env :: X.outer) := ok.frames.trans (congrArg some hk)
  have run := (hb (wKp X.K c i ts D) (X.pn ++ pins) (fun e s1 => wpAny (model X.prog X.w) X.A (noteFrame e X.env) (fun _ s2 => wpAny (model X.prog X.w) X.A (setFlight e none) (fun _ s3 =>
    wpAny (model X.prog X.w) X.A (handleBy e X.env (.ExceptHandler (some (.Name x p1)) (some n) (st :: suite) p2 :: hds)) (SP X pins D) X.xe s3) X.xe s2) X.xe s1) (fun u s' xx => ?_) PassesOwn.looking).run [] s σ H D (I.toTry _) h
  · refine wpAny_mono run (fun fl s1 hq => ?_) fun _ _ z => z
    rcases fl with _ | _ | _ | u
    · obtain ⟨σ1, H1, J, q⟩ := hq
      exact wpAny_execs_nil ⟨σ1, H1, J.ofTry ok, q⟩
    · obtain ⟨σ1, H1, J, q⟩ := hq
      exact ⟨σ1, H1, J.ofTry ok, q⟩
    · obtain ⟨σ1, H1, J, q⟩ := hq
      exact ⟨σ1, H1, J.ofTry ok, q⟩
    · obtain ⟨v, σ1, H1, J, r, q⟩ := hq
      exact ⟨v, σ1, H1, J.ofTry ok, r, q⟩
  · obtain ⟨a, B, sI, pins', σ1, H1, cls, d, rfl, JT, nb, up, sky, na, os, ag, C, rfl, rfl, hm, w⟩ := xx
    have J : Inv X pins σ1 H1 sI := JT.ofTry ok
    rw [hk] at sky
    show wpAny (model X.prog X.w) X.A (noteFrame (.ref a) X.env) _ _ _
    refine Sky.land Zc.steady hfr hl sky fun g fl upg => ?_
    have Jg : Inv X pins σ1 H1 { s' with heap := g } := J.landed nb fl.1 (up.trans upg) os ag
    obtain ⟨og, ug, eg, zg, dg⟩ := fl.there
    have nfr : a ∉ frs (X.env :: X.outer) := fun hm => by
      obtain ⟨_, o', e', hnf⟩ := fl.2.2.1.mem hm
      rw [eg] at e'
      cases e'
      exact hnf _ dg
    have nL : a ≠ X.env.locals := fun z => nfr (List.mem_filterMap.mpr ⟨X.env, List.mem_cons_self, by rw [hl, z]⟩)
    have nF : a ∉ X.fs := fun hm => by
      obtain ⟨e, he, q⟩ := List.mem_filterMap.mp hm
      exact nfr (List.mem_filterMap.mpr ⟨e, List.mem_cons_of_mem _ he, q⟩)
    have noI : sI.heap.get? a = none := by
      cases q : sI.heap.get? a with
      | none => rfl
      | some o =>
        have := nb a o q (by rw [show (X.tr (X.pn ++ pins) _).stack = X.stack from rfl, hk]; exact nfr)
        rw [fl.2.1] at this
        cases this
    have n0 : X.s_0.heap.get? a = none := by
      cases q : X.s_0.heap.get? a with
      | none => rfl
      | some o =>
        obtain ⟨o', e'⟩ := J.base.there a o q (by rw [hx]; simp)
        rw [noI] at e'
        cases e'
    have np : ∀ p ∈ X.pn ++ pins, p.1 ≠ a := fun p hp z => by
      have := (J.pin p hp).1
      rw [z, noI] at this
      cases this
    have Sg := Jg.suite eg dg na nL nF
    refine wpAny_handleBy_cons (codeAny_handlers_test ?_) (by intro q; cases q)
    have look : PySem.W.Looks (model X.prog X.w) g (typeOf (.ref a)) (.ref C) := fun A Q E s k q => wpAny_typeOf_ref (k _ _ eg) (by rw [zg.1]; exact q)
    have LM := PySem.W.exm_one (M := model X.prog X.w) Jg.kIn look hm
    have test : ∀ {Q : Value → Shared → Prop} {E : Value → Shared → Prop}, Q c { s' with heap := g } → wpAny (model X.prog X.w) (X.A.mark (some (.ref a))) (eval (.Name x p1) X.env) Q E { s' with heap := g } := fun {Q E} q => by
      obtain ⟨h1, h2, h3 | ⟨h3, h4, h5⟩⟩ := nm
      · exact ld_glob (X := X.suite a ((a, og) :: (X.pn ++ pins))) Sg h1 h3 q h2
      · exact ld_blt (X := X.suite a ((a, og) :: (X.pn ++ pins))) Sg h1 h3 h4 q h5 h2
    refine test (LM.here (codeAny_handlers_suite_as (HandSPX.lands_againZ fl fun g4 fl4 up4 => ?_)))
    have J4 : Inv X pins σ1 H1 { s' with heap := g4 } := J.landed nb fl4.1 ((up.trans upg).trans up4) os ag
    obtain ⟨o4, u4, e4, z4, d4⟩ := fl4.there
    have S4 := J4.suite e4 d4 na nL nF
    refine store_ok (X := X.suite a ((a, o4) :: (X.pn ++ pins))) (v := .ref a) S4 nd hi (.inl hn) rfl (fun s5 S5 => ?_) (.inr hn)
    refine wpAny_mono ((hu a o4 (X.pn ++ pins)).run [] s5 _ H1 _ S5 (w a na)) (fun f s6 hq => ?_) (fun _ _ z => False.elim z)
    rcases f with _ | _ | _ | u
    · obtain ⟨σ6, H6, S6, q6⟩ := hq
      refine gone_ok (X := X.suite a ((a, o4) :: (X.pn ++ pins))) S6 nd hi hn fun s7 S7 => ?_
      obtain ⟨k1, k2, k3, k4, k5⟩ := S7.pin (a, o4) (List.mem_append_left _ List.mem_cons_self)
      exact ⟨_, _, inv_keep (S7.unsuite ok) k1 z4 d4 k2 n0 k3 np, q6 k2⟩
    · obtain ⟨_, _, _, q6⟩ := hq
      exact q6.elim
    · obtain ⟨_, _, _, q6⟩ := hq
      exact q6.elim
    · obtain ⟨_, _, _, _, _, q6⟩ := hq
      exact q6.elim
end
end L2.T
end

section
set_option Elab.async false
set_option linter.all false
set_option maxRecDepth 100000
set_option maxHeartbeats 4000000
set_option autoImplicit false
namespace L2.T
open PySem PySem.Spec PyProof.Rows
section
variable {C : Ct} {P : List (Nat × V)} {ρ : List Sl} {Z L : Hp} {σ : St} {H : Hp}
/-- tables grow, code objects come; all else stays -/
theorem Rel.extN (r : Rel C P ρ Z L σ H) {H1 : Hp} (e : LamX.ExtN H H1) (t : LamX.Tabs C.tb H1) : Rel C P ρ Z L σ H1 := by
  refine ⟨fun a o h => e a o (r.zh a o h) (r.tb.zt a o h), fun a o h => e a o (r.lh a o h) (r.tb.lt a o h), r.zl, r.len, fun i s v h1 h2 => ?_, r.ap, r.pin, ⟨t, r.tb.zn, r.tb.ln, r.tb.zt, r.tb.lt⟩⟩
  have q := r.sl i s v h1 h2
  cases s with
  | un => trivial
  | sh d => exact q
  | ow d =>
    obtain ⟨a, h3, h4, h5⟩ := q
    exact ⟨a, h3, h4.move (Le.refl Z) h4.zn (fun o z => e a o z (h4.plnOf z).1), h5⟩
/-- what stands in the heap is frozen -/
theorem Rel.track (r : Rel C P ρ Z L σ H) {c : Addr} {o : HO} (h : H c = some o) (k : Nt o) (hl : L c = none) (ho : ¬ Pln o) : Le Z (upd Z c o) ∧ Rel C P ρ (upd Z c o) L σ H := by
  have le : Le Z (upd Z c o) := fun b u e => by
    by_cases hb : b = c
    · subst hb
      rw [upd_same]
      have := r.zh _ _ e
      rw [h] at this
      exact this
    · rw [upd_ne hb]
      exact e
  refine ⟨le, ⟨fun b u e => ?_, r.lh, fun b u e => ?_, r.len, fun i s v h1 h2 => ?_, r.ap, r.pin, r.tb.frz h k⟩⟩
  · by_cases hb : b = c
    · subst hb; rw [upd_same] at e; cases e; exact h
    · rw [upd_ne hb] at e; exact r.zh b u e
  · by_cases hb : b = c
    · subst hb; exact hl
    · rw [upd_ne hb] at e; exact r.zl b u e
  · have q := r.sl i s v h1 h2
    cases s with
    | un => trivial
    | sh d => obtain ⟨u, h3, h4⟩ := q; exact ⟨u, h3, h4.mono le⟩
    | ow d =>
      obtain ⟨a, h3, h4, h5⟩ := q
      have hb : a ≠ c := fun z => by subst z; exact ho (h4.plnOf h)
      exact ⟨a, h3, h4.move le (by rw [upd_ne hb]; exact h4.zn) (fun _ z => z), h5⟩
/-- a frame within, all its data frozen -/
theorem Rel.inner (r : Rel C P ρ Z L σ H) {P1 : List (Nat × V)} {ρ1 : List Sl} {σ1 : St} (hl : ρ1.length = σ1.length) (hs : ∀ (i : Nat) (s : Sl) (v : Option V), ρ1[i]? = some s → σ1[i]? = some v → s = .un ∨ ∃ d u, s = .sh d ∧ v = some u ∧ Rep C Z d u) (hp : ∀ (j : Nat) (v : V), (j, v) ∈ P1 → σ1[j]? = some (some v)) :
    Rel C P1 ρ1 Z (Lx L ρ σ H) σ1 H := by
  have no : ∀ (i : Nat) (d : D), ρ1[i]? ≠ some (.ow d) := fun i d e => by
    have hi : i < σ1.length := by rw [← hl]; exact (List.getElem?_eq_some_iff.mp e).1
    rcases hs i _ _ e (List.getElem?_eq_getElem hi) with z | ⟨_, _, z, _⟩ <;> cases z
  refine ⟨r.zh, r.lx_h, r.lx_z, hl, fun i s v h1 h2 => ?_, fun i j d e a h1 _ _ _ => absurd h1 (no i d), hp, r.lx_tb⟩
  rcases hs i s v h1 h2 with rfl | ⟨d, u, rfl, rfl, q⟩
  · trivial
  · exact ⟨u, rfl, q⟩
/-- back from it -/
theorem Rel.outer (r : Rel C P ρ Z L σ H) {P1 : List (Nat × V)} {ρ1 : List Sl} {σ1 : St} {Z1 H1 : Hp} (r1 : Rel C P1 ρ1 Z1 (Lx L ρ σ H) σ1 H1) (l : Le Z Z1) : Rel C P ρ Z1 L σ H1 :=
  r.behind (os := []) (vs := []) (as := []) (outs := []) .nil .nil (fun i d a h => by simp at h) ⟨l, r1.zh, r1.lh, r1.zl, fun j d s v h => by simp at h, r1.tb⟩
end
section
variable {X : Cx} {pins : List (Addr × Obj)} {σ : St} {H : Hp} {s : Shared}
abbrev cxG (X : Cx) (s : Shared) (H : Hp) (Ng : List Str) (qg : Str) (sg : Scope) (g : Addr) (cdg : Value) : Cx := cxOf (L2.CX X.prog X.w) X.prog X.w X.K X.mg X.base Ng qg sg g cdg X.A X.stack s H (fun _ _ _ => False)
/-- a(), a the lambda that the def got -/
theorem pe_actG {Ng : List Str} {qg : Str} {sg : Scope} {g f c' : Addr} {cdg pm ctv : Value} {params : Arguments} {body : Expr} {scope : Scope} {k i : Nat} {a : Str} {pn : List (Addr × Obj)} {xe : Value → Shared → Prop} {W : WX} {tb : XK → TE} {p1 p2 : Pos}
    (I : Inv X pins σ H s) (L : LamX.LamS X.env.scope scope) (hf : s.heap.get? f = some (PySem.W.kla_obj "<lambda>" (X.env.qual ++ "<lambda>") params body scope (cloFrom X.env.cells scope.names []) pm c' ctv)) (hfn : H f = none) (hfr : f ∉ frs X.stack)
    (hbind : bindArgs (PySem.W.kla_fn "<lambda>" (X.env.qual ++ "<lambda>") params body scope (cloFrom X.env.cells scope.names []) pm (.ref c') ctv) ⟨[], []⟩ = pure [])
    (tk : Takes ((cxG X s H Ng qg sg g cdg).tr pn xe) W) (hr : Room (k + 1) (X.A.deeper (envOfC qg sg s.heap.objs.size g cdg))) (gd : X.A.guards = some [])
    (hbody : ∀ (A : Around) (outer : List Env) (s : Shared) (H : Hp) (E : XK), Room k (A.deeper (LamX.lamEnv X scope s.heap.objs.size f c')) → A.guards = some [] → PE (LamX.lamCx X A outer s H E scope f c') body (tb E))
    (hN : Ng[i]? = some a) (hv : Vis sg a) (hd : (a == ("__debug__" : Str)) = false) (hcd : (a == ("__classdict__" : Str)) = false) :
    PE ((cxG X s H Ng qg sg g cdg).tr pn xe) (.Call (.Name a p1) [] [] p2) (fun σZ HZ Q => σZ[i]? = some (some (.ref f)) ∧ HZ c' = some (LamX.CodeO c' (X.env.qual ++ "<lambda>")) ∧ tb (WE W σZ) σ HZ Q) := by
  refine ⟨fun pinsZ sZ σZ HZ Q IZ ⟨hs, hc, ht⟩ => ?_⟩
  have got := (pe_var (X := (cxG X s H Ng qg sg g cdg).tr pn xe) (pos := p1) (i := i) hN hv hd hcd).run pinsZ sZ σZ HZ (fun v H1 => v = .ref f ∧ H1 = HZ) IZ ⟨.ref f, hs, rfl, rfl⟩
  refine wpAny_Call_Name_kw (thn got fun u s1 ⟨v, H1, I1, r1, q1⟩ => ?_)
  obtain ⟨rfl, rfl⟩ := q1
  cases (show u = Value.ref f from r1)
  have of1 := I1.base.keep f _ hf hfn hfr (fun z => nomatch (show f ∈ ([] : List Addr) from z))
  refine PySem.W.callWith_F0 ⟨_, _, _, _, of1⟩ ?_
  obtain ⟨⟨oc, vs, t, e1, e2, e3⟩, _, _⟩ := I1.hok c' _ hc
  have rc : codeAny (model X.prog X.w) (X.A.deeper (envOfC qg sg s.heap.objs.size g cdg)) (.call (.ref f) ⟨[], []⟩) (CR (L2.CX X.prog X.w) (envOfC qg sg s.heap.objs.size g cdg :: X.stack) X.prog X.w H1 s1 Q (WE W σZ)) s1 := by
    refine PySem.W.kla_callFunE hr.depth of1 rfl L.co L.gen rfl ⟨c', oc, vs, t, rfl, e1, e2, e3⟩ ?_
    rw [hbind]
    refine wpAny_pure (wpAny_newFunctionEnv (fun y hy => (L.own y hy).2) (fun y hy => absurd hy (by simp)) (fun h1 hn hb => ⟨I1.nolimit.fresh _ hb, ?_⟩) L.kind)
    show codeAny _ _ (.expr body (LamX.lamEnv X scope s1.heap.objs.size f c')) _ _
    have J := LamX.lam_start2 (E := WE W σZ) (f := f) (c' := c') (tk := s1.toks + ([] : List (Str × Value)).length) I L I1.env0 hr.hd I1.base hn fun b o e => hb.extBut b o (Nat.ne_of_lt (Heap.lt_size e)) (Heap.get?_push_of_some _ e)
    refine PySem.W.kla_codeExpr (wpAny_mono ((hbody _ _ s1 H1 (WE W σZ) (hr.deeper _) gd).run [] _ _ H1 Q J ht) (fun v s' ⟨w', H', J', rv, q⟩ => ?_) fun e s' hq => hq)
    exact ⟨w', H', J'.os, J'.bare, J'.base, J'.hok, rv, q⟩
  refine wpAny_call (codeAny_mono rc fun r s' hq => ?_)
  rcases r with e | fl
  · exact passAt tk σZ pinsZ H1 s1 e s' I1 hq
  · rcases fl with _ | _ | _ | u
    · exact False.elim hq
    · exact False.elim hq
    · exact False.elim hq
    · exact I1.after hq
end
end L2.T
end

section
set_option Elab.async false
set_option linter.all false
set_option maxRecDepth 100000
set_option maxHeartbeats 4000000
set_option autoImplicit false
namespace L2.T
open PySem PySem.Spec PyProof.Rows
def par1 : S := .par [1, 2] (.cons (.c .non) (.cons (.c .non) .nil))
def ret3 (w : Nat) : S := .ret (.ife (.cmp .Is (.v 2) (.c .non)) (.tup (.cons (.c (.str "told")) (.cons (.v 1) .nil))) (.tup (.cons (.c (.str "refused")) (.cons (.call w (.cons (.v 2) .nil)) .nil))))
theorem par1_ev {T : Nat → Option Fd} {cf : CF} {F : Nat} : evS T cf F [0] par1 [.un, .un, .un, .un] = .ok .nx [.un, .sh .non, .sh .non, .un] := rfl
theorem ln2 {x y : D} : [x, y].length ≤ sizeLine := by rw [sizeLine_eq]; simp
theorem ret3_told {T : Nat → Option Fd} {cf : CF} {F w : Nat} {d : D} : evS T cf F [0] (ret3 w) [.un, .sh d, .sh .non, .un] = .ok (.rt false (.tup [.str "told", d])) [.un, .sh d, .sh .non, .un] := by
  have h : cop .Is .non .non = some true := rfl
  exact s_ret (e_ife (t_e (e_cmp (g_bin (o_vs rfl) (o_e (fun _ z => nomatch z) e_c) (r_sh rfl) r_val h)) rfl) (pick_t (e_tup (es_cons (o_e (fun _ z => nomatch z) e_c) (es_cons (o_vs rfl) es_nil)) (fz_cons f_val (fz_cons (f_sh rfl) fz_nil)) ln2)))
theorem ret3_refused {T : Nat → Option Fd} {cf : CF} {F w c : Nat} {fd : Fd} {b : Bool} {y : Str} {outs : List Sl} {s1 : Sl} (hT : T w = some fd) (h : cf w [.sh (.exc c)] = .ok (b, .str y) outs) : ∃ ρ', evS T cf F [0] (ret3 w) [.un, s1, .sh (.exc c), .un] = .ok (.rt false (.tup [.str "refused", .str y])) ρ' := by
  have h1 : cop .Is (.exc c) .non = some false := rfl
  have h2 : argsIn fd.mv 0 [.sl 2] [.un, s1, .sh (.exc c), .un] = some ([.sh (.exc c)], [.un, s1, .sh (.exc c), .un]) := rfl
  exact ⟨_, s_ret (e_ife (t_e (e_cmp (g_bin (o_vs rfl) (o_e (fun _ z => nomatch z) e_c) (r_sh rfl) r_val h1)) rfl) (pick_f (e_tup (es_cons (o_e (fun _ z => nomatch z) e_c) (es_cons (o_e (fun _ z => nomatch z) (e_call (es_cons (o_vs rfl) es_nil) (c_op hT h2 h rfl))) es_nil)) (fz_cons f_val (fz_cons f_val fz_nil)) ln2)))⟩
theorem codeO_np {c : Addr} {q : Str} : ¬ Pln (LamX.CodeO c q) := fun z => z.2 _ rfl
theorem exO_nt {a c : Addr} : Nt (ExO a c) := fun _ z => nomatch z
theorem four {σ : St} (h : 4 = σ.length) : ∃ a b c d, σ = [a, b, c, d] := by
  match σ, h with
  | [a, b, c, d], _ => exact ⟨a, b, c, d, rfl⟩
section
variable {X : Cx} {C : Ct} {W : WX} {T : Nat → Option Fd} {cf : CF} {k n w : Nat} {fb : Ev}
/-- a statement of a def that X calls, by the evaluator's text -/
def RunS (X : Cx) (C : Ct) (T : Nat → Option Fd) (cf : CF) (k : Nat) (N : List Str) (sg : Scope) (st : Stmt) (e : S) : Prop := ∀ (Y : Cx) (W : WX), Cxk Y C W → Y.N = N → Y.env.scope = sg → (Y.fn = fun _ => true) → Y.mg = X.mg → Y.K = X.K → Y.prog = X.prog → Y.w = X.w → Y.base = X.base → Room (k + 1) Y.A → Y.env.scope.kind = .function →
  PassesOwn (model Y.prog Y.w) Y.A Y.env Y.xe → PS Y st (rdS C W [0] (evS T cf 0 [0] e))
theorem pe_said {xs a tn en xn cn : Str} {g c Pt : Addr} {cT : Value} {pg params : Arguments} {st1 st3 : Stmt} {sg scope : Scope} {fd : FuncData} {hds : List ExceptHandler} {body : Expr} {q1 q2 q3 q4 q5 q6 q7 q8 q9 q10 p lpos pos : Pos}
    (kx : Cxk X C W) (F : FunD X.K xs xs pg [st1, .Try [.Assign [.Name tn q1] (.Call (.Name a q2) [] [] q3) q4] (.ExceptHandler (some (.Name cn q5)) (some xn) [.Assign [.Name en q6] (.Name xn q7) q8] q9 :: hds) [] [] q10, st3] sg [] [] g fd)
    (Sg : FnScope [a, tn, en, xn] [a] sg) (hb : Binds X.K fd [a] []) (gl : Gl X xs) (hm : X.mg xs = some (.ref g)) (hk : PySem.W.keepIn X.K (.ref g) = true) (hdb : (xs == ("__debug__" : Str)) = false)
    (ls : ∀ y ∈ [tn, en, xn], sg.names.lookup y = some .local) (la : Vis sg a) (pl : ∀ y ∈ [a, xn], (y == ("__debug__" : Str)) = false ∧ (y == ("__classdict__" : Str)) = false) (lc : sg.names.lookup cn = some .globalImplicit) (dc : (cn == ("__debug__" : Str)) = false)
    (hw : ∃ fdT, T w = some fdT) (hr : Room (k + 2) X.A) (h1 : RunS X C T cf k [a, tn, en, xn] sg st1 par1) (h3 : RunS X C T cf k [a, tn, en, xn] sg st3 (ret3 w))
    (hc : X.mg cn = some cT) (hcl : ∀ i, i < n → PySem.W.exmOne X.K (.ref (C.cl i).1) cT = some true)
    (TB : LamX.TabB X.base X.mg c Pt) (hcode : X.env.code = .ref c) (hmT : (Pt, X.env.qual ++ "<lambda>") ∈ C.tb) (hu : ∀ p ∈ C.tb, p.1 = Pt → p.2 = X.env.qual ++ "<lambda>") (L : LamX.LamS X.env.scope scope) (hdef : defaultsOf params X.env = ([], []))
    (hbind : ∀ (q : Str) (cl : List (Str × Addr)) (pm cv ctv : Value), bindArgs (PySem.W.kla_fn "<lambda>" q params body scope cl pm cv ctv) ⟨[], []⟩ = pure [])
    (hbody : ∀ (A : Around) (outer : List Env) (s : Shared) (H : Hp) (E : XK) (f c' : Addr), Room k (A.deeper (LamX.lamEnv X scope s.heap.objs.size f c')) → A.guards = some [] → PE (LamX.lamCx X A outer s H E scope f c') body (rdE C (fun cls dd _ H' => E cls dd H') fb)) :
    PE X (.Call (.Name xs p) [.Lambda params body scope lpos] [] pos) (rdE C W fun ρ => saidR cf n w (fb ρ)) := by
  refine ⟨fun pins s σ H Q I ⟨P, ρ, Z, Lq, r, q⟩ => ?_⟩
  obtain ⟨oc, od, dV, kV, doc, pm, an, cdv, ct, osl, rfl, lk, hcd, _, _⟩ := F.ex
  refine wpAny_Call_Name_kw (ld_glob I gl hm ?_ hdb)
  refine PySem.W.callWith_K (h₀ := X.base) I.ok.mod.kin hk ?_ (by rfl) (by rfl)
  show wpAny _ _ (spliced ((false, eval (.Lambda params body scope lpos) X.env) :: backTo pos (starEach [] X.env))) _ _ s
  refine Calls.spliced_cons (LamX.lam_make2 I TB hcode hmT hu r.tb.tabs hdef (L.has I.ok) fun f c' pm' ctv H1 s' I1 eN T1 hf hfn hfr hco => ?_)
  refine Calls.spliced_nil ⟨I1.kIn, ?_⟩
  obtain ⟨Z1, l1, r1, kc⟩ : ∃ Z1, Le Z Z1 ∧ Rel C P ρ Z1 Lq σ H1 ∧ (Z1 c' = some (LamX.CodeO c' (X.env.qual ++ "<lambda>")) ∨ Lq c' = some (LamX.CodeO c' (X.env.qual ++ "<lambda>"))) := by
    have r0 := r.extN eN T1
    cases e : Lq c' with
    | some o =>
      have z := r0.lh c' o e
      rw [hco] at z
      cases z
      exact ⟨Z, Le.refl Z, r0, .inr rfl⟩
    | none =>
      obtain ⟨h1, h2⟩ := r0.track hco LamX.codeO_ne e codeO_np
      exact ⟨_, h1, h2, .inl upd_same⟩
  have code : ∀ {ρ' : List Sl} {Z' H' : Hp}, Le Z1 Z' → Rel C P ρ' Z' Lq σ H' → H' c' = some (LamX.CodeO c' (X.env.qual ++ "<lambda>")) := fun {ρ' Z' H'} l r' => by
    rcases kc with e | e
    · exact r'.zh _ _ (l _ _ e)
    · exact r'.lh _ _ e
  have rc : codeAny (model X.prog X.w) X.A (.call (.ref g) ⟨[.ref f], []⟩) (CR (L2.CX X.prog X.w) X.stack X.prog X.w H1 s' Q (fun _ _ _ => False)) s' := by
    refine LamX.run_ofS (N := [a, tn, en, xn]) (ps := [a]) (us := [.ref f]) (vs := [.ref f]) lk hcd Sg hr I1.env0 (hb s' [.ref f] I1.kIn rfl) (.cons rfl .nil) rfl fun hr' => ?_
    have kz : Cxk (cxG X s' H1 [a, tn, en, xn] xs sg g cdv) C (fun _ _ _ _ => False) := ⟨kx.hk, Sg.nd, rfl, (by have := hr'.un; show (X.A.deeper (envOfC xs sg s'.heap.objs.size g cdv)).units + 190 < cLine; omega), kx.gd, takes_of rfl rfl rfl rfl⟩
    have po := passes_of (X := cxG X s' H1 [a, tn, en, xn] xs sg g cdv) (K := fun e s'' => L2.CX X.prog X.w X.stack H1 s' (fun _ _ _ => False) e s'') rfl
    have c1 := h1 _ _ kz rfl rfl rfl rfl rfl rfl rfl rfl hr' Sg.kind po
    have c3 := h3 _ _ kz rfl rfl rfl rfl rfl rfl rfl rfl hr' Sg.kind po
    have lt := ls tn (by simp)
    have le := ls en (by simp)
    have lx := ls xn (by simp)
    have c2 := ps_try_kept (X := cxG X s' H1 [a, tn, en, xn] xs sg g cdv) (x := cn) (n := xn) (c := cT) (i := 3) (hds := hds) (p1 := q5) (p2 := q9) (p3 := q10) (body := [.Assign [.Name tn q1] (.Call (.Name a q2) [] [] q3) q4]) (st := .Assign [.Name en q6] (.Name xn q7) q8) (suite := [])
      (ts := fun _ => tAsg (tVar 3) (gName 2)) rfl rfl rfl Sg.nd rfl lx ⟨lc, dc, .inl hc⟩
      (fun W' pn xe tk _ => pss_one (ps_set Sg.nd (i := 1) rfl (.inl lt) (pe_actG (tb := fun E => rdE C (fun cls dd _ H' => E cls dd H') fb) I1 L hf hfn hfr (hbind _ _ _ _ _) tk hr' kx.gd (fun A outer s H E => hbody A outer s H E f c') (i := 0) rfl la (pl a (by simp)).1 (pl a (by simp)).2) rfl (.inr lt)))
      (fun a0 ob pn => pss_one (ps_set Sg.nd (i := 2) rfl (.inl le) (pe_var (i := 3) rfl (.inl lx) (pl xn (by simp)).1 (pl xn (by simp)).2) rfl (.inr le)))
    refine ⟨_, pss_cons c1 (pss_cons c2 (pss_one c3)), ?_⟩
    have pn : Pn [0] [(0, V.ref f)] := fun j v h => by
      simp at h
      rw [h.1]
      rfl
    have unS : ∀ (i : Nat) (s : Sl) (v : Option V), [Sl.un, .un, .un, .un][i]? = some s → (L2.start [a, tn, en, xn] [V.ref f])[i]? = some v → s = .un ∨ ∃ d u, s = .sh d ∧ v = some u ∧ Rep C Z1 d u := fun i s v h _ => by
      left
      match i with
      | 0 => exact (Option.some.inj h).symm
      | 1 => exact (Option.some.inj h).symm
      | 2 => exact (Option.some.inj h).symm
      | 3 => exact (Option.some.inj h).symm
      | i + 4 => cases h
    refine ⟨[(0, .ref f)], [.un, .un, .un, .un], Z1, Lx Lq ρ σ H1, pn, r1.inner rfl unS (fun j v h => by
      simp at h
      rw [h.1, h.2]
      rfl), ?_⟩
    rw [par1_ev]
    intro σ1 Z2 H2 l2 s1
    have r2 := r1.outer s1 l2
    have f0 := s1.pin 0 (.ref f) (by simp)
    obtain ⟨v0, v1, v2, v3, rfl⟩ := four s1.len
    cases (Option.some.inj f0)
    have g1 : v1 = some .non := by
      obtain ⟨u, h1, h2⟩ := s1.sl 1 _ _ rfl rfl
      cases h2
      exact h1
    have g2 : v2 = some .non := by
      obtain ⟨u, h1, h2⟩ := s1.sl 2 _ _ rfl rfl
      cases h2
      exact h1
    subst g1 g2
    refine ⟨rfl, code l2 r2, P, ρ, Z2, Lq, r2, ?_⟩
    cases e : fb ρ with
    | stuck =>
      simp only [e, saidR] at q
      exact q
    | ok x ρ' =>
      simp only [e, saidR] at q
      intro Z3 H3 l3 r3 v hv
      obtain ⟨Z4, l4, r4, rep⟩ := r3.freeze hv
      refine ⟨[(0, .ref f)], [.un, .sh x.2, .sh .non, .un], Z4, Lx Lq ρ' σ H3, pn, r4.inner rfl (fun i s u h1 h2 => ?_) (fun j v h => by
        simp at h
        rw [h.1, h.2]
        rfl), ?_⟩
      · match i with
        | 0 => exact .inl (Option.some.inj h1).symm
        | 1 => exact .inr ⟨_, _, (Option.some.inj h1).symm, (Option.some.inj h2).symm, rep⟩
        | 2 => exact .inr ⟨_, _, (Option.some.inj h1).symm, (Option.some.inj h2).symm, .non⟩
        | 3 => exact .inl (Option.some.inj h1).symm
        | i + 4 => cases h1
      · rw [ret3_told]
        intro σ5 Z5 H5 l5 r5 v5 hv5
        exact q Z5 H5 (l1.trans (l2.trans (l3.trans (l4.trans l5)))) (r4.outer r5 l5) v5 hv5
    | ex x ρ' =>
      simp only [e, saidR] at q
      split at q
      · rename_i hn
        revert q
        split
        · rename_i b y outs hcf
          intro q cls dd Z3 H3 l3 r3 hx
          obtain ⟨rfl, rfl, _⟩ := hx
          refine ⟨_, rfl, rfl, hcl _ hn, fun a0 na => ⟨.ref a0, rfl, fun na' => ?_⟩⟩
          obtain ⟨l4, r4⟩ := r3.allocZ (o := ExO a0 (C.cl x.c).1) na exO_nt
          obtain ⟨fdw, hT⟩ := hw
          obtain ⟨ρ9, ev⟩ := ret3_refused (T := T) (F := 0) (s1 := .sh .non) hT hcf
          refine ⟨[(0, .ref f)], [.un, .sh .non, .sh (.exc x.c), .un], _, Lx Lq ρ' σ (upd H3 a0 (ExO a0 (C.cl x.c).1)), pn, r4.inner rfl (fun i s u h1 h2 => ?_) (fun j v h => by
            simp at h
            rw [h.1, h.2]
            rfl), ?_⟩
          · match i with
            | 0 => exact .inl (Option.some.inj h1).symm
            | 1 => exact .inr ⟨_, _, (Option.some.inj h1).symm, (Option.some.inj h2).symm, .non⟩
            | 2 => exact .inr ⟨_, _, (Option.some.inj h1).symm, (Option.some.inj h2).symm, .exc upd_same⟩
            | 3 => exact .inl (Option.some.inj h1).symm
            | i + 4 => cases h1
          · rw [ev]
            intro σ5 Z5 H5 l5 r5 v5 hv5
            exact q Z5 H5 (l1.trans (l2.trans (l3.trans (l4.trans l5)))) (r4.outer r5 l5) v5 hv5
        · exact fun q => q.elim
      · exact q.elim
  refine wpAny_call (codeAny_mono rc fun res s2 hq => ?_)
  rcases res with e | fl
  · obtain ⟨_, _, _, _, _, _, _, _, _, _, _, _, z⟩ := (show L2.CX X.prog X.w X.stack H1 s' (fun _ _ _ => False) e s2 from hq)
    exact z.elim
  · rcases fl with _ | _ | _ | u
    · exact False.elim hq
    · exact False.elim hq
    · exact False.elim hq
    · exact I1.after hq
/-- the law's way of asking, as X's module has it -/
structure SaidX (X : Cx) (C : Ct) (T : Nat → Option Fd) (cf : CF) (xs : Str) (n w k : Nat) : Prop where
  ex : ∃ (a tn en xn cn : Str) (g c Pt : Addr) (cT : Value) (pg : Arguments) (st1 st3 : Stmt) (sg : Scope) (fd : FuncData) (hds : List ExceptHandler) (q1 q2 q3 q4 q5 q6 q7 q8 q9 q10 : Pos),
    FunD X.K xs xs pg [st1, .Try [.Assign [.Name tn q1] (.Call (.Name a q2) [] [] q3) q4] (.ExceptHandler (some (.Name cn q5)) (some xn) [.Assign [.Name en q6] (.Name xn q7) q8] q9 :: hds) [] [] q10, st3] sg [] [] g fd ∧ FnScope [a, tn, en, xn] [a] sg ∧ Binds X.K fd [a] [] ∧
    X.mg xs = some (.ref g) ∧ PySem.W.keepIn X.K (.ref g) = true ∧ (∀ y ∈ [tn, en, xn], sg.names.lookup y = some .local) ∧ Vis sg a ∧ (∀ y ∈ [a, xn], (y == ("__debug__" : Str)) = false ∧ (y == ("__classdict__" : Str)) = false) ∧ sg.names.lookup cn = some .globalImplicit ∧ (cn == ("__debug__" : Str)) = false ∧
    (∃ fdT, T w = some fdT) ∧ RunS X C T cf k [a, tn, en, xn] sg st1 par1 ∧ RunS X C T cf k [a, tn, en, xn] sg st3 (ret3 w) ∧ X.mg cn = some cT ∧ (∀ i, i < n → PySem.W.exmOne X.K (.ref (C.cl i).1) cT = some true) ∧
    LamX.TabB X.base X.mg c Pt ∧ X.env.code = .ref c ∧ (Pt, X.env.qual ++ "<lambda>") ∈ C.tb ∧ ∀ p ∈ C.tb, p.1 = Pt → p.2 = X.env.qual ++ "<lambda>"
theorem SaidX.pe {xs : Str} {params : Arguments} {scope : Scope} {body : Expr} {p lpos pos : Pos} (sd : SaidX X C T cf xs n w k) (kx : Cxk X C W) (gl : Gl X xs) (hdb : (xs == ("__debug__" : Str)) = false) (hr : Room (k + 2) X.A) (L : LamX.LamS X.env.scope scope) (hdef : defaultsOf params X.env = ([], []))
    (hbind : ∀ (q : Str) (cl : List (Str × Addr)) (pm cv ctv : Value), bindArgs (PySem.W.kla_fn "<lambda>" q params body scope cl pm cv ctv) ⟨[], []⟩ = pure [])
    (hbody : ∀ (A : Around) (outer : List Env) (s : Shared) (H : Hp) (E : XK) (f c' : Addr), Room k (A.deeper (LamX.lamEnv X scope s.heap.objs.size f c')) → A.guards = some [] → PE (LamX.lamCx X A outer s H E scope f c') body (rdE C (fun cls dd _ H' => E cls dd H') fb)) :
    PE X (.Call (.Name xs p) [.Lambda params body scope lpos] [] pos) (rdE C W fun ρ => saidR cf n w (fb ρ)) := by
  obtain ⟨a, tn, en, xn, cn, g, c, Pt, cT, pg, st1, st3, sg, fd, hds, q1, q2, q3, q4, q5, q6, q7, q8, q9, q10, h1, h2, h3, h4, h5, h6, h7, h8, h9, h10, h11, h12, h13, h14, h15, h16, h17, h18, h19⟩ := sd.ex
  exact pe_said kx h1 h2 h3 gl h4 h5 hdb h6 h7 h8 h9 h10 h11 hr h12 h13 h14 h15 h16 h17 h18 h19 L hdef hbind hbody
end
end L2.T
end

section
set_option Elab.async false
set_option linter.all false
set_option maxRecDepth 100000
set_option maxHeartbeats 4000000
set_option autoImplicit false
namespace L2.T
open PySem PySem.Spec PyProof.Rows
theorem size2 {i j : Int} : Builtin.Range.rangeSize i j 2 = ((Builtin.Range.rangeSize i j 2).toNat : Int) ∧ ((-1000000 ≤ i ∧ i ≤ 1000000) → (-1000000 ≤ j ∧ j ≤ 1000000) → (Builtin.Range.rangeSize i j 2).toNat ≤ 2 ^ 24) := by
  have e : Builtin.Range.rangeSize i j 2 = if i < j then (j - i - 1) / 2 + 1 else 0 := rfl
  rw [e]
  split <;> omega
theorem small2 {i j : Int} (h1 : -1000000 ≤ i ∧ i ≤ 1000000) (h2 : -1000000 ≤ j ∧ j ≤ 1000000) : Builtin.Range.small i j 2 = true := by
  have e : Builtin.Range.rangeSize i j 2 = if i < j then (j - i - 1) / 2 + 1 else 0 := rfl
  unfold Builtin.Range.small
  rw [e]
  simp only [Builtin.Range.rangeFitsLong, Bool.and_eq_true, Bool.or_eq_true, decide_eq_true_eq, beq_iff_eq, show (2 : Int) > 0 by decide, if_true]
  split <;> omega
theorem items2 {C : Ct} {Z : Hp} {c : Int} : ∀ {n : Nat} {lo : Int} {us : List Value}, us.length = n → (∀ (k : Nat) (u : Value), us[k]? = some u → ∃ t, u = .int (lo + (k : Nat) * c) t) → ∃ vs, Vals vs us ∧ Reps C Z (intsBy lo c n) vs
  | 0, lo, [], _, _ => ⟨[], .nil, .nil⟩
  | n + 1, lo, u :: us, hl, h => by
    obtain ⟨t, e⟩ := h 0 u rfl
    obtain ⟨vs, h1, h2⟩ := items2 (C := C) (Z := Z) (c := c) (n := n) (lo := lo + c) (us := us) (by simpa using hl) (fun k w hk => by
      obtain ⟨t, e⟩ := h (k + 1) w (by simpa using hk)
      refine ⟨t, ?_⟩
      rw [e]
      congr 1
      rw [Int.natCast_add, Int.add_mul]
      omega)
    have e' : u = .int lo t := by
      rw [e]
      congr 1
      simp
    exact ⟨.int lo :: vs, .cons ⟨t, e'⟩ h1, .cons (.int _) h2⟩
theorem intsBy_len {lo c : Int} : ∀ {n : Nat}, (intsBy lo c n).length = n
  | 0 => rfl
  | n + 1 => congrArg Nat.succ (intsBy_len (lo := lo + c))
section
variable {X : Cx} {C : Ct} {W : WX} {fs : List Sl → R (List Op)} {a b c : Expr} {p p2 pos pos2 : Pos}
theorem pe_lrgE (k : Cxk X C W) (gl : Gl X "list") (ml : X.mg "list" = none) (gr : Gl X "range") (mr : X.mg "range" = none) (ha : PA X [a, b, c] (rdA C W fs)) (hs : starEach [a, b, c] X.env = (false, eval a X.env) :: starEach [b, c] X.env) (hpl : (backTo pos2 (starEach [b, c] X.env)).any (·.1) = false) :
    PE X (.Call (.Name "list" p) [.Call (.Name "range" p2) [a, b, c] [] pos2] [] pos) (rdE C W fun ρ => (fs ρ).bind fun os ρ1 => match rsL ρ1 os with
    | some ds => (R.of (rngS ds) ρ1).bind fun ds ρ2 => .ok (true, .lst ds) ρ2
    | none => .stuck) := by
  refine ⟨fun pins s σ H Q I ⟨P, ρ, Z, L, r, q⟩ => ?_⟩
  have inner : wpAny (model X.prog X.w) X.A (eval (.Call (.Name "range" p2) [a, b, c] [] pos2) X.env) (fun x s' => ∃ r i j t u v H', x = .ref r ∧ IsRange s'.heap r i j 2 t u v ∧ Inv X pins σ H' s' ∧ (-1000000 ≤ i ∧ i ≤ 1000000) ∧ (-1000000 ≤ j ∧ j ≤ 1000000) ∧ ∃ ρ1 Z1, Le Z Z1 ∧ Rel C P ρ1 Z1 L σ H' ∧
      ∀ Z' H'', Le Z1 Z' → Rel C P ρ1 Z' L σ H'' → ∀ v, RepR C ρ1 Z' L σ H'' true (.lst (intsBy i 2 (Builtin.Range.rangeSize i j 2).toNat)) v → Q v H'') X.xe s := by
    refine Call_ (ld_blt I gr mr boot_range (PyProof.Rows.callWith_type1 (thn (ha.run pos2 pins s σ H (fun vs H1 => ∃ i j, vs = [.int i, .int j, .int 2] ∧ (-1000000 ≤ i ∧ i ≤ 1000000) ∧ (-1000000 ≤ j ∧ j ≤ 1000000) ∧ ∃ ρ1 Z1, Le Z Z1 ∧ Rel C P ρ1 Z1 L σ H1 ∧
      ∀ Z' H'', Le Z1 Z' → Rel C P ρ1 Z' L σ H'' → ∀ v, RepR C ρ1 Z' L σ H'' true (.lst (intsBy i 2 (Builtin.Range.rangeSize i j 2).toNat)) v → Q v H'') I ⟨P, ρ, Z, L, r, q.bind.mono fun os ρ1 Z1 H1 l1 r1 q1 vs hvs => ?_⟩) fun us s1 ⟨vs, H1, I1, rv, i, j, ev, hi, hj, rest⟩ => ?_) hs hpl))
    · revert q1
      cases er : rsL ρ1 os with
      | none => exact fun q1 => q1.elim
      | some ds =>
        intro q1
        have q1 := q1.bind
        obtain ⟨ws, e1, k1⟩ := q1.of
        unfold rngS at e1
        split at e1
        · rename_i i j c0
          split at e1
          · rename_i hb
            obtain ⟨rfl, h1, h2⟩ := hb
            cases e1
            have rr := r1.rsL hvs er
            cases rr with
            | cons ra rr =>
              cases rr with
              | cons rb rr =>
                cases rr with
                | cons rc rr =>
                  cases rr
                  cases ra
                  cases rb
                  cases rc
                  exact ⟨_, _, rfl, h1, h2, ρ1, Z1, l1, r1, fun Z' H'' l' r' v hv => k1 Z1 H1 (Le.refl _) r1 Z' H'' l' r' v hv⟩
          · cases e1
        · cases e1
    · subst ev
      cases rv with
      | cons ra rr =>
        cases rr with
        | cons rb rr =>
          cases rr with
          | cons rc rr =>
            cases rr
            obtain ⟨t, rfl⟩ := ra
            obtain ⟨t', rfl⟩ := rb
            obtain ⟨t'', rfl⟩ := rc
            exact call_range_3 (by decide) ⟨_, i, j, _, _, _, H1, rfl, IsRange.new .., I1.kept (t' := s1.toks) fun b o e => Heap.get?_push_of_some _ e, hi, hj, rest⟩ (.inl (PyProof.noPylong_small (by decide)))
  have na : starEach [Expr.Call (.Name "range" p2) [a, b, c] [] pos2] X.env = (false, eval (.Call (.Name "range" p2) [a, b, c] [] pos2) X.env) :: starEach [] X.env := rfl
  refine Call_ (ld_blt I gl ml boot_list (PyProof.Rows.callWith_type1 (args_cons (thn inner fun x s1 ⟨rr, i, j, t, u, v, H1, ex, hr, I1, hi, hj, ρ1, Z1, l1, r1, kq⟩ => args_nil ?_) na) na))
  subst ex
  refine call_list_range (n := (Builtin.Range.rangeSize i j 2).toNat) (I1.ok.hd k.calm) hr (small2 hi hj) size2.1 (size2.2 hi hj) fun h' tk acc c' hk e' hit => ?_
  have ln : acc.toList.length = (Builtin.Range.rangeSize i j 2).toNat := by rw [Array.length_toList]; exact hit.1
  obtain ⟨vs, hv, hrp⟩ := items2 (C := C) (Z := Z1) (c := 2) (lo := i) ln fun m u hm => by
    obtain ⟨t, e⟩ := hit.2 m u (by rw [← hm, Array.getElem?_toList])
    exact ⟨t, e⟩
  have hp := I1.hok.fresh (Nat.le_refl s1.heap.objs.size)
  obtain ⟨g1, g2⟩ := r1.newList hp hrp
  refine ⟨.ref s1.heap.objs.size, upd H1 s1.heap.objs.size (.lst vs), I1.laid hk (Nat.le_refl _) (show ObjOk X.prog X.w _ _ _ (.lst vs) from ⟨?_, acc.toList, c', hv, ?_⟩), rfl, kq Z1 _ (Le.refl _) g1 _ g2⟩
  · rw [hv.length, ln, sizeLine_eq]
    have := size2.2 hi hj
    omega
  · rw [Array.toArray_toList]
    exact e'
end
end L2.T
end

section
set_option Elab.async false
set_option linter.all false
set_option maxRecDepth 100000
set_option maxHeartbeats 4000000
set_option autoImplicit false
namespace L2.T
open PySem PySem.Spec PyProof.Rows

/-! ### from the program's text to the evaluator's -/
/-- a block's names: the slots, the scope, which cells are its own -/
structure Sc where
  N : List Str
  sc : Scope
  fn : Str → Bool
  md : Nat
/-- what is known of the module: the defs (number, parameters), constants, names that are not there -/
structure Gc where
  fid : Str → Option (Nat × Nat)
  con : Str → Option D
  non : Str → Bool
  exc : Str → Option Nat
  isc : Str → Option (List Bool)
  said : Str → Option (Nat × Nat)
  fik : Str → Option (Nat × List (List Str × List (Sum Nat D)))
  /-- a field's name: its class, its number; own classes: the number, the def of __init__, how many it takes; the def of __eq__ -/
  fld : Str → Option (Nat × Nat) := fun _ => none
  ncl : Str → Option (Nat × Nat × Nat) := fun _ => none
  eqx : Option (Nat × Nat) := none
  /-- an own class's texts: its number, the def of __str__ (of __repr__ where true) -/
  txx : Bool → Option (Nat × Nat) := fun _ => none
/-- how a def of the module is called -/
def Bnd (G : Gc) (C : Ct) (K : PySem.W.Frag) (x : Str) (fd : FuncData) (ps : List Str) (n : Nat) : Prop := (G.fik x = none → Binds K fd ps []) ∧ ∀ np shs, G.fik x = some (np, shs) → ∀ s ∈ shs, KwB C K fd ps np s.1 s.2 ∧ s.2.length = n
/-- a def's number as a block of this kind calls it: 2 is a lambda's body, two frames deeper -/
def shI (md id : Nat) : Nat := if md = 2 then id + 2 * BB else id
def lamP (p : Arguments) : Bool := match p with
  | ⟨[], [], none, [], [], none, []⟩ => true
  | _ => false
def visB (sc : Scope) (x : Str) : Bool := match sc.names.lookup x with
  | some .local => true
  | some .cell => true
  | some .free => true
  | _ => false
def plainN (x : Str) : Bool := !(x == ("__debug__" : Str)) && (!(x == ("__classdict__" : Str)) && !decide (x = "__name__"))
def ixOf (N : List Str) (x : Str) : Option Nat := N.findIdx? fun y => decide (y = x)
def nameIx (S : Sc) (x : Str) : Option Nat := if visB S.sc x && plainN x then ixOf S.N x else none
def glB (S : Sc) (x : Str) : Bool := decide (S.sc.names.lookup x = some .globalImplicit) && plainN x
def locB (S : Sc) (x : Str) : Bool := match S.sc.names.lookup x with
  | some .local => true
  | some .cell => S.fn x
  | _ => false
def locIx (S : Sc) (x : Str) : Option Nat := if locB S x then ixOf S.N x else none
def noStar : Expr → Bool
  | .Starred _ _ => false
  | _ => true
def notSlice : Expr → Bool
  | .Slice _ _ _ _ => false
  | _ => true
def notSet : Expr → Bool
  | .Set _ _ _ => false
  | _ => true
def notComp : Expr → Bool
  | .ListComp _ _ _ _ => false
  | .SetComp _ _ _ _ => false
  | .DictComp _ _ _ _ _ => false
  | _ => true
/-- key=len -/
def keyLen (k : Keyword) : Bool := match k.arg, k.value with
  | some y, .Name z _ => decide (y = "key") && decide (z = "len")
  | _, _ => false
/-- no call without arguments: super() aside -/
def baseB : Expr → Bool
  | .Call _ [] [] _ => false
  | _ => true
def eqOp : CmpOp → Option Bool
  | .Eq => some false
  | .NotEq => some true
  | _ => none
def biTab : List (Str × String) := [("dict", "dict"), ("len", "len"), ("abs", "abs"), ("list", "list"), ("tuple", "tuple"), ("sum", "sum"), ("max", "max"), ("min", "min"), ("int", "int"), ("all", "all"), ("any", "any"), ("repr", "repr"), ("sorted", "sorted"), ("str", "str")]
def tyTab : List (Str × String) := [("int", "int"), ("bool", "bool"), ("str", "str"), ("tuple", "tuple"), ("list", "list"), ("dict", "dict")]
def mmTab : List (Str × String) := [("append", "append"), ("extend", "extend"), ("pop", "pop"), ("reverse", "reverse"), ("clear", "clear"), ("count", "count"), ("index", "index")]
def tabAt (t : List (Str × String)) (x : Str) : Option String := (t.find? fun p => decide (p.1 = x)).map (·.2)
def ownOf (N : List Str) (sc : Scope) : List (Str × Nat) := sc.names.filterMap fun y => match y.2 with
  | .local => (ixOf N y.1).map fun i => (y.1, i)
  | .cell => (ixOf N y.1).map fun i => (y.1, i)
  | _ => none
def Sc.blk (S : Sc) (sc : Scope) : Sc := ⟨S.N, relS sc S.sc, fun x => sc.names.lookup x == some .cell, if S.md = 2 then 2 else 1⟩
/-- range(a, b, c), alone -/
def argsR3 : List Expr → List Expr
  | [.Call (.Name _ _) es [] _] => es
  | _ => []
def isR3 (sc : Scope) : List Expr → Bool
  | [.Call (.Name r _) [a, b, c] [] _] => decide (r = "range") && (decide (sc.names.lookup ("range" : Str) = some .globalImplicit) && (noStar a && (noStar b && noStar c)))
  | _ => false
mutual
def compT : Nat → Sc → Expr → Option Tg
  | 0, _, _ => none
  | n + 1, S, e => match e with
    | .Name x _ => (locIx S x).map .nm
    | .Tuple ts _ _ => (compTs n S ts).map .tu
    | _ => none
def compTs : Nat → Sc → List Expr → Option (List Tg)
  | 0, _, _ => none
  | n + 1, S, es => match es with
    | [] => some []
    | e :: es => if noStar e then (match compT n S e, compTs n S es with
      | some t, some ts => some (t :: ts)
      | _, _ => none) else none
end
section
variable (G : Gc)
def kwFind (ns : List (Option Str)) : List (List Str × List (Sum Nat D)) → Option (List Str × List (Sum Nat D))
  | [] => none
  | s :: ss => if ns = s.1.map some then some s else kwFind ns ss
def kwOk (S : Sc) (f : Expr) (args : List Expr) (kws : List Keyword) : Option (Nat × List (Sum Nat D)) := match f with
  | .Name x _ => (match G.fik x, G.fid x with
    | some (np, shs), some (id, _) => if glB S x && (args.all noStar && decide (args.length = np)) then (kwFind (kwNames kws) shs).map fun s => (id, s.2) else none
    | _, _ => none)
  | _ => none
/-- str(x), repr(x) where an own class has texts of its own -/
def txAt (S : Sc) (f : Str) (args : List Expr) : Option (Bool × Nat × Nat) := if S.md ≠ 2 ∧ args.length = 1 then (if f = "str" then (G.txx false).map fun p => (false, p.1, p.2) else if f = "repr" then (G.txx true).map fun p => (true, p.1, p.2) else none) else none
mutual
def compE : Nat → Sc → Expr → E
  | 0, _, _ => .no
  | n + 1, S, e => match e with
    | .Constant c _ _ => (match c with
      | .none => .c .non
      | .bool b => .c (.bl b)
      | .int i => .c (.int i)
      | .str x => .c (.str x)
      | _ => .no)
    | .Name x _ => (match nameIx S x with
      | some i => .v i
      | none => if glB S x then (match G.con x with
        | some d => .c d
        | none => .no) else .no)
    | .BinOp a o b _ => .bin o (compE n S a) (compE n S b)
    | .UnaryOp o a _ => (match o with
      | .USub => .neg (compE n S a)
      | .Not => .not (compE n S a)
      | _ => .no)
    | .BoolOp o es _ => (match o, es with
      | .And, a :: b :: r => .and (compE n S a) (compB n S .And (b :: r))
      | .Or, a :: b :: r => .or (compE n S a) (compB n S .Or (b :: r))
      | _, _ => .no)
    | .IfExp c a b _ => .ife (compE n S c) (compE n S a) (compE n S b)
    | .Compare a os bs _ => (match os, bs with
      | [o], [b] => if behindInMarks o b then .no else (match eqOp o, G.eqx with
        | some ne, some (c, id) => if S.md = 2 then .cmp o (compE n S a) (compE n S b) else .cmpx ne c (id + BB) (compE n S a) (compE n S b)
        | _, _ => .cmp o (compE n S a) (compE n S b))
      | [o, p], [b, c] => if lastMarks [o, p] [b, c] then .no else .chn o p (compE n S a) (compE n S b) (compE n S c)
      | _, _ => .no)
    | .Tuple es _ _ => if es.all noStar then .tup (compEs n S es) else .no
    | .List es _ => if es.all noStar then .lst (compEs n S es) else .no
    | .Dict ks vs _ => (match ks, vs with
      | [], [] => .dk0
      | [some a], [b] => .dd (compE n S a) (compE n S b)
      | _, _ => .no)
    | .Attribute o f _ => (match G.fld f with
      | some (c, i) => if baseB o then .fld c i (compE n S o) else .no
      | none => .no)
    | .Subscript a b _ => (match b with
      | .Slice lo hi st _ => (match st with
        | none => .sli (compE n S a) (compP n S lo) (compP n S hi)
        | some _ => .no)
      | b => .idx (compE n S a) (compE n S b))
    | .Call f args kws cpos => (match kwOk G S f args kws with
      | some (id, pm) => .callk (shI S.md id) (compEs n S args) (compEs n S (kws.map (·.value))) pm
      | none => match kws with
      | [] => (match f with
        | .Name x _ => if glB S x && args.all noStar then compC n S x args else .no
        | .Attribute o m apos => if m = "get" then (if (baseB o && decide (args.length = 2)) && ((apos.endLine == cpos.line) && args.all noStar) then .me "get" (compE n S o) (compEs n S args) else .no) else (match o with
          | .Name x _ => (match nameIx S x, tabAt mmTab m with
            | some i, some key => if (apos.endLine == cpos.line) && (args.all noStar && decide (args.length < 29)) then .mm key i (compEs n S args) else .no
            | _, _ => .no)
          | _ => .no)
        | _ => .no)
      | [kw] => (match f, args with
        | .Name x _, [a] => if keyLen kw && (decide (x = "sorted") && (glB S x && (glB S "len" && (G.non x && (G.non "len" && noStar a))))) then .bi "sorted:len" (compEs n S [a]) else .no
        | _, _ => .no)
      | _ => .no)
    | .FormattedValue e cv sp _ => (match sp with
      | none => if cv = -1 then .fmt (compE n S e) else .no
      | some _ => .no)
    | .JoinedStr vs _ => (match vs with
      | v1 :: v2 :: rest => .fst (compEs n S (v1 :: v2 :: rest))
      | _ => .no)
    | .ListComp elt gens sc _ => (match gens with
      | [g] => (match compT n (S.blk sc) g.target with
        | some t => if (notSet g.iter && (blkC S.N S.sc sc (ownOf S.N sc) && (t.slots.all fun j => ((ownOf S.N sc).map (·.2)).contains j))) && (decide (g.ifs.length < 2) && decide (g.is_async = 0)) then .lc ((ownOf S.N sc).map (·.2)) t (compI n S g.iter) (compEs n (S.blk sc) g.ifs) (compE n (S.blk sc) elt) else .no
        | none => .no)
      | _ => .no)
    | _ => .no
def compB : Nat → Sc → BoolOp → List Expr → E
  | 0, _, _, _ => .no
  | n + 1, S, o, es => match o, es with
    | _, [a] => compE n S a
    | .And, a :: b :: r => .and (compE n S a) (compB n S .And (b :: r))
    | .Or, a :: b :: r => .or (compE n S a) (compB n S .Or (b :: r))
    | _, _ => .no
def compEs : Nat → Sc → List Expr → Es
  | 0, _, _ => .cons .no .nil
  | n + 1, S, es => match es with
    | [] => .nil
    | e :: es => .cons (compE n S e) (compEs n S es)
def compP : Nat → Sc → Option Expr → Es
  | 0, _, _ => .cons .no .nil
  | n + 1, S, e => match e with
    | none => .nil
    | some e => .cons (compE n S e) .nil
def compC : Nat → Sc → Str → List Expr → E
  | 0, _, _, _ => .no
  | n + 1, S, f, args => match G.said f with
    | some (nn, w) => (match args with
      | [.Lambda ps body sc _] => if decide (S.md = 0) && (lamP ps && LamX.lamSB S.sc sc) then .said nn w (compE n ⟨S.N, sc, fun _ => false, 2⟩ body) else .no
      | _ => .no)
    | none => match G.fid f with
    | some (id, k) => if args.length = k ∧ (G.fik f).isNone = true then .call (shI S.md id) (compEs n S args) else .no
    | none => match G.ncl f with
    | some (c, id, k) => if args.length + 1 = k ∧ (S.md ≠ 2 ∧ args.isEmpty = false) then .mk c (id + BB) (compEs n S args) else .no
    | none => if G.non f then (if f = "isinstance" then (match args with
        | [a, .Name t _] => (match G.isc t with
          | some tb => if glB S t then .isc (compE n S a) tb else .no
          | none => match G.ncl t with
          | some (c, _) => if glB S t then .isx c (compE n S a) else .no
          | none => if glB S t && G.non t then (match tabAt tyTab t with
            | some s => .isi (compE n S a) [s]
            | none => .no) else .no)
        | _ => .no)
      else (match txAt G S f args with
        | some (rp, c, id) => .ownx rp c (id + 2 * BB) (compEs n S args)
        | none => (if (f = "list" ∧ isR3 S.sc args = true) ∧ G.non "range" = true then .lrg (compEs n S (argsR3 args)) else (match tabAt biTab f with
        | some b => (match args with
          | [] => .no
          | args => .bi b (compEs n S args))
        | none => .no)))) else .no
def compI : Nat → Sc → Expr → E
  | 0, _, _ => .no
  | n + 1, S, e => match e with
    | .Call (.Name f _) [a] [] _ => if f = "range" ∧ (glB S f && G.non f && noStar a) = true then .rng (compEs n S [a]) else compE n S e
    | .Call (.Name f _) [a, b] [] _ => if f = "range" ∧ (glB S f && G.non f && noStar a && noStar b) = true then .rng (compEs n S [a, b]) else compE n S e
    | .Call (.Name f _) [a, b, c] [] _ => if f = "range" ∧ (glB S f && G.non f && noStar a && noStar b && noStar c) = true then .rng (compEs n S [a, b, c]) else compE n S e
    | e => compE n S e
end
/-- the stores from the right, as the compiler makes them -/
def swapNames (S : Sc) (ts : List (Str × Pos)) : Bool := match ts with
  | [] => false
  | t :: _ => ts.all fun x => decide (S.sc.names.lookup x.1 = some .local) && (x.2.line == t.2.line)
def parOk (S : Sc) (ts : List (Str × Pos)) (es : List Expr) : Bool :=
  decide (ts.length ≤ 64) && (if (ts.length == 2 || ts.length == 3) && swapNames S ts then (es.all (foldedForSure 8)) || !(es.all (constantsAlone 8)) else true)
def noSwap (ts : List Expr) : Expr → Bool
  | .Tuple vs _ _ => (ts.any fun
    | .Name _ _ => false
    | _ => true) || (!(ts.length == 2 || ts.length == 3) || vs.length != ts.length)
  | _ => true
def namesOf : List Expr → Option (List (Str × Pos))
  | [] => some []
  | .Name x p :: es => (namesOf es).map ((x, p) :: ·)
  | _ => none
def ixsOf (S : Sc) : List (Str × Pos) → Option (List Nat)
  | [] => some []
  | x :: xs => match locIx S x.1, ixsOf S xs with
    | some i, some is => some (i :: is)
    | _, _ => none
mutual
def compS : Nat → Sc → Stmt → S
  | 0, _, _ => .no
  | n + 1, S, st => match st with
    | .Assign tgs e _ => (match tgs with
      | [.Name x px] => (match locIx S x with
        | some i => .asg (.nm i) (compE G n S e)
        | none => .no)
      | [.Name x _, .Name y _] => (match locIx S x, locIx S y with
        | some i, some j => .asgs [i, j] (compE G n S e)
        | _, _ => .no)
      | [.Name x _, .Name y _, .Name z _] => (match locIx S x, locIx S y, locIx S z with
        | some i, some j, some l => .asgs [i, j, l] (compE G n S e)
        | _, _, _ => .no)
      | [.Attribute (.Name x _) f _] => (match nameIx S x, G.fld f with
        | some i, some (c, j) => if notComp e then .fset c i j (compE G n S e) else .no
        | _, _ => .no)
      | [.Subscript (.Name x _) ix _] => (match nameIx S x with
        | some i => if notSlice ix && notComp e then .six i (compE G n S ix) (compE G n S e) else .no
        | none => .no)
      | [.Tuple ts _ _] => (match namesOf ts, e with
        | some xs, .Tuple es _ _ => (match ixsOf S xs with
          | some is => if es.all noStar && ((decide is.Nodup && decide ((xs.map (·.1)).eraseDups.length = xs.length)) && (decide (es.length = xs.length) && parOk S xs es)) then .par is (compEs G n S es) else .no
          | none => .no)
        | _, _ => (match compT n S (.Tuple ts 0 default) with
          | some t => if notComp e && noSwap ts e then .asg t (compE G n S e) else .no
          | none => .no))
      | _ => .no)
    | .AugAssign tg o e _ => (match tg with
      | .Name x _ => (match locIx S x with
        | some i => .aug o i (compE G n S e)
        | none => .no)
      | _ => .no)
    | .Expr e _ => if notComp e then .ex (compE G n S e) else .no
    | .Return v _ => (match v with
      | some e => .ret (compE G n S e)
      | none => .ret (.c .non))
    | .If c a b _ => .ite (compE G n S c) (compSs n S a) (compSs n S b)
    | .For tg it body els _ => (match els with
      | [] => (match compT n S tg with
        | some t => if notSet it then .for_ t (compI G n S it) (compSs n S body) else .no
        | none => .no)
      | _ => .no)
    | .While c body els _ => (match els with
      | [] => .whl (compE G n S c) (compSs n S body)
      | _ => .no)
    | .Raise e c _ => (match e, c with
      | some (.Call (.Name x _) [.Constant (.str _) _ _] [] _), none => if glB S x then (match G.exc x with
        | some c => .rse c
        | none => .no) else .no
      | _, _ => .no)
    | .Pass _ => .pas
    | .Break _ => .brk
    | .Continue _ => .cnt
    | _ => .no
def compSs : Nat → Sc → List Stmt → Ss
  | 0, _, _ => .cons .no .nil
  | n + 1, S, ss => match ss with
    | [] => .nil
    | s :: ss => .cons (compS n S s) (compSs n S ss)
end
end
end L2.T
end

section
set_option Elab.async false
set_option linter.all false
set_option maxRecDepth 100000
set_option maxHeartbeats 4000000
set_option autoImplicit false
namespace L2.T
open PySem PySem.Spec PyProof.Rows

structure Scx (X : Cx) (S : Sc) : Prop where
  n : X.N = S.N
  sc : X.env.scope = S.sc
  fn : X.fn = S.fn
/-- a class whose errors are raised with a text -/
structure RaiseC (K : PySem.W.Frag) (a : Addr) : Prop where
  kp : PySem.W.keepIn K (.ref a) = true
  ex : PySem.W.excIn K a [.type "ValueError", .type "Exception", .type "BaseException", .type "object"] "ValueError.__new__" = true
  sb : PySem.W.subIn K (.ref a) (.type "BaseException") = some true
  ty : PySem.W.typeIn K (.ref a) = some (.type "type")
/-- the name x, asked of errors -/
structure IsX (mg : Str → Option Value) (K : PySem.W.Frag) (C : Ct) (x : Str) (tb : List Bool) : Prop where
  ex : ∃ (cv : Value) (v : V), (mg x = some cv ∨ (mg x = none ∧ bootBuiltins x = some cv ∧ x ≠ "__name__")) ∧ RelV v cv ∧ (∀ u, RelV v u → u = cv) ∧ ∀ c b, tb[c]? = some b → ExcC K (C.cl c).1 ∧ PySem.W.kitOne K (.ref (C.cl c).1) cv = some b
structure Gcx (X : Cx) (G : Gc) (C : Ct) (T : Nat → Option Fd) (cf : CF) (k md : Nat) : Prop where
  fid : ∀ x id n, G.fid x = some (id, n) → ∃ f fd ps fdT, X.mg x = some (.ref f) ∧ PySem.W.keepIn X.K (.ref f) = true ∧ Bnd G C X.K x fd ps n ∧ T (shI md id) = some fdT ∧ fdT.n = n ∧ FnG X.prog X.w X.K X.mg X.base k f fd ps (spT C cf (shI md id) fdT)
  con : ∀ x d, G.con x = some d → ∃ u v, X.mg x = some u ∧ RelV v u ∧ ∀ Z, Rep C Z d v
  non : ∀ x, G.non x = true → X.mg x = none
  room : Room k X.A
  exc : ∀ x c, G.exc x = some c → X.mg x = some (.ref (C.cl c).1) ∧ RaiseC X.K (C.cl c).1
  isc : ∀ x tb, G.isc x = some tb → IsX X.mg X.K C x tb
  deep : md = 0 → ∀ j, k = j + 2 → ∀ x id n, G.fid x = some (id, n) → ∃ f fd ps fdT, X.mg x = some (.ref f) ∧ PySem.W.keepIn X.K (.ref f) = true ∧ Bnd G C X.K x fd ps n ∧ T (shI 2 id) = some fdT ∧ fdT.n = n ∧ FnG X.prog X.w X.K X.mg X.base j f fd ps (spT C cf (shI 2 id) fdT)
  said : md = 0 → ∀ j, k = j + 2 → ∀ x n w, G.said x = some (n, w) → SaidX X C T cf x n w j
  dep : md = 0 → ∀ r o, cf (3 * BB) [] = .ok r o → 2 ≤ k
  fld : ∀ f c i, G.fld f = some (c, i) → ClsX X.K C c ∧ (C.cl c).2[i]? = some f
  ncl : ∀ x c id n, G.ncl x = some (c, id, n) → ClsX X.K C c ∧ X.mg x = some (.ref (C.cl c).1) ∧ (md ≠ 2 → ∀ r o, cf (3 * BB) [] = .ok r o → ∃ j f fd ps fdT, k = j + 1 ∧ Mk X.K (C.cl c).1 f ∧ Binds X.K fd ps [] ∧ T (id + BB) = some fdT ∧ fdT.n = n ∧ fdT.mv.contains 0 = true ∧ FnG X.prog X.w X.K X.mg X.base j f fd ps (spT C cf (id + BB) fdT))
  txx : ∀ rp c id, G.txx rp = some (c, id) → md ≠ 2 → ClsX X.K C c ∧ ∀ r o, cf (3 * BB) [] = .ok r o → ∃ j f fd ps fdT, k = j + 2 ∧ StrX X.K C c rp f ∧ Binds X.K fd ps [] ∧ T (id + 2 * BB) = some fdT ∧ fdT.n = 1 ∧ FnG X.prog X.w X.K X.mg X.base j f fd ps (spT C cf (id + 2 * BB) fdT)
  eqx : ∀ c id, G.eqx = some (c, id) → md ≠ 2 → ClsX X.K C c ∧ ∀ r o, cf (3 * BB) [] = .ok r o → ∃ j f fd ps fdT, k = j + 1 ∧ EqX X.K C c f ∧ Binds X.K fd ps [] ∧ T (id + BB) = some fdT ∧ fdT.n = 2 ∧ FnG X.prog X.w X.K X.mg X.base j f fd ps (spT C cf (id + BB) fdT)

/-! ### names -/
theorem ixOf_at : ∀ {N : List Str} {x : Str} {i : Nat}, ixOf N x = some i → N[i]? = some x := by
  intro N x i h
  unfold ixOf at h
  obtain ⟨hl, h1, _⟩ := List.findIdx?_eq_some_iff_getElem.mp h
  rw [List.getElem?_eq_getElem hl]
  simp only [decide_eq_true_eq] at h1
  rw [h1]
theorem visB_ok {sc : Scope} {x : Str} (h : visB sc x = true) : Vis sc x := by
  unfold visB at h
  split at h
  · rename_i e; exact .inl e
  · rename_i e; exact .inr (.inl e)
  · rename_i e; exact .inr (.inr e)
  · cases h
theorem plainN_ok {x : Str} (h : plainN x = true) : (x == ("__debug__" : Str)) = false ∧ (x == ("__classdict__" : Str)) = false ∧ x ≠ "__name__" := by
  unfold plainN at h
  simp only [Bool.and_eq_true, Bool.not_eq_true', decide_eq_false_iff_not] at h
  exact ⟨h.1, h.2.1, h.2.2⟩
section
variable {X : Cx} {S : Sc} {C : Ct} {W : WX}
theorem nameIx_ok (sx : Scx X S) {x : Str} {i : Nat} {p : Pos} (h : nameIx S x = some i) : PE X (.Name x p) (tVar i) := by
  unfold nameIx at h
  split at h
  · rename_i c
    simp only [Bool.and_eq_true] at c
    obtain ⟨h1, h2, h3⟩ := plainN_ok c.2
    exact pe_var (by rw [sx.n]; exact ixOf_at h) (by rw [sx.sc]; exact visB_ok c.1) h1 h2
  · cases h
theorem glB_ok (sx : Scx X S) {x : Str} (h : glB S x = true) : Gl X x ∧ (x == ("__debug__" : Str)) = false ∧ x ≠ "__name__" := by
  unfold glB at h
  simp only [Bool.and_eq_true, decide_eq_true_eq] at h
  obtain ⟨h1, h2, h3⟩ := plainN_ok h.2
  refine ⟨?_, h1, h3⟩
  show X.env.scope.names.lookup x = _
  rw [sx.sc]
  exact h.1
theorem locIx_ok (sx : Scx X S) {x : Str} {i : Nat} (h : locIx S x = some i) : X.N[i]? = some x ∧ Loc X.env.scope x ∧ (X.fn x = true ∨ X.env.scope.names.lookup x = some .local) := by
  unfold locIx at h
  split at h
  · rename_i c
    refine ⟨by rw [sx.n]; exact ixOf_at h, ?_⟩
    unfold locB at c
    rw [sx.sc, sx.fn]
    split at c
    · rename_i e; exact ⟨.inl e, .inr e⟩
    · rename_i e; exact ⟨.inr e, .inl c⟩
    · cases c
  · cases h
end
theorem star_cons {e : Expr} {es : List Expr} {env : Env} (h : noStar e = true) : starEach (e :: es) env = (false, eval e env) :: starEach es env := by
  cases e <;> first | rfl | cases h
theorem asg_cons {e : Expr} {es : List Expr} {env : Env} (h : noStar e = true) : assignEach (e :: es) env = (false, assign e env) :: assignEach es env := by
  cases e <;> first | rfl | cases h
theorem star_mem {env : Env} : ∀ {es : List Expr}, es.all noStar = true → ∀ x ∈ starEach es env, x.1 = false
  | [], _, x, hx => by cases hx
  | e :: es, h, x, hx => by
    simp only [List.all_cons, Bool.and_eq_true] at h
    rw [star_cons h.1] at hx
    rcases List.mem_cons.mp hx with rfl | hx
    · rfl
    · exact star_mem h.2 x hx
theorem star_any {env : Env} {pos : Pos} {es : List Expr} (h : es.all noStar = true) : (backTo pos (starEach es env)).any (·.1) = false := by
  unfold backTo
  rw [List.any_map, List.any_eq_false]
  intro x hx
  have := star_mem h x hx
  simp [this]
theorem star_few {env : Env} {pos : Pos} {es : List Expr} (h : es.all noStar = true) (hl : es.length < 29) : ((backTo pos (starEach es env)).all (fun x => !x.1) && (backToKw pos (keywordEach [] env)).all (fun x => x.1.isSome) && decide (es.length + ([] : List Keyword).length + (if ([] : List Keyword).isEmpty then 0 else 1) < 30)) = true := by
  have h1 : (backTo pos (starEach es env)).all (fun x => !x.1) = true := by
    unfold backTo
    rw [List.all_map, List.all_eq_true]
    intro x hx
    have := star_mem h x hx
    simp [this]
  rw [h1]
  simp only [List.length_nil, List.isEmpty_nil, if_true, Nat.add_zero, Bool.and_eq_true, decide_eq_true_eq]
  exact ⟨⟨trivial, rfl⟩, by omega⟩
theorem all_tl {e : Expr} {es : List Expr} (h : (e :: es).all noStar = true) : noStar e = true ∧ es.all noStar = true := by
  simpa only [List.all_cons, Bool.and_eq_true] using h

/-! ### tables -/
theorem tab_mem {t : List (Str × String)} {x : Str} {b : String} (h : tabAt t x = some b) : (x, b) ∈ t := by
  unfold tabAt at h
  obtain ⟨p, h1, rfl⟩ := Option.map_eq_some_iff.mp h
  have h2 := List.find?_some h1
  simp only [decide_eq_true_eq] at h2
  rw [← h2]
  exact List.mem_of_find?_eq_some h1
def biVal (b : String) : Value := if b = "list" ∨ b = "tuple" ∨ b = "int" ∨ b = "dict" ∨ b = "str" then .type b else .builtin b
theorem bi_boot : ∀ p ∈ biTab, bootBuiltins p.1 = some (biVal p.2) := by decide +kernel
theorem ty_boot : ∀ p ∈ tyTab, bootBuiltins p.1 = some (.type p.2) := by decide +kernel
theorem bi_ok {X : Cx} {C : Ct} {W : WX} (k : Cxk X C W) {x : Str} {b : String} (h : (x, b) ∈ biTab) (σ0 : St) : CallR X (biVal b) (rBi C σ0 (bfn b)) := by
  have hb : b ∈ biTab.map (·.2) := List.mem_map.mpr ⟨_, h, rfl⟩
  simp only [biTab, List.map_cons, List.map_nil, List.mem_cons, List.not_mem_nil, or_false] at hb
  rcases hb with rfl | rfl | rfl | rfl | rfl | rfl | rfl | rfl | rfl | rfl | rfl | rfl | rfl | rfl
  · exact bi_dict k
  · exact bi_len k
  · exact bi_abs k
  · exact bi_list k
  · exact bi_tuple k
  · exact bi_sum k
  · exact bi_max k
  · exact bi_min k
  · exact bi_int k
  · exact bi_all k
  · exact bi_any k
  · exact bi_repr k
  · exact bi_sorted k
  · exact bi_str k
theorem biVal_kind (b : String) : (∃ id, biVal b = .builtin id) ∨ ∃ n, biVal b = .type n := by
  unfold biVal
  split
  · exact .inr ⟨b, rfl⟩
  · exact .inl ⟨b, rfl⟩

/-! ### the tests -/
theorem isTrue_plain {a : Expr} {env : Env} (h : (match a with | .UnaryOp .Not _ _ => false | .BoolOp _ _ _ => false | .IfExp _ _ _ _ => false | .Compare _ _ _ _ => false | _ => true) = true) : ∀ whole, isTrue a env whole = (do let v ← whole; standAt a.pos; holding [v] (truthy v)) := by
  intro whole
  cases a <;> first | rfl | cases h | skip
  rename_i o _ _
  cases o <;> first | rfl | cases h

section
variable {C : Ct} {T : Nat → Option Fd} {cf : CF} {G : Gc} {k : Nat}
theorem evEs_len : ∀ (es : Es) (ρ ρ' : List Sl) (os : List Op), evEs T cf es ρ = .ok os ρ' → os.length = es.len
  | .nil, ρ, ρ', os, h => by
    simp only [evEs] at h
    cases h
    rfl
  | .cons e es, ρ, ρ', os, h => by
    simp only [evEs] at h
    cases h1 : opOf e (evE T cf e) ρ with
    | stuck => rw [h1] at h; cases h
    | ex _ _ => rw [h1] at h; cases h
    | ok o ρ1 =>
      rw [h1] at h
      simp only [R.bind] at h
      cases h2 : evEs T cf es ρ1 with
      | stuck => rw [h2] at h; cases h
      | ex _ _ => rw [h2] at h; cases h
      | ok os2 ρ2 =>
        rw [h2] at h
        cases h
        simp only [List.length_cons, Es.len]
        rw [evEs_len es ρ1 _ os2 h2]
structure OkN (C : Ct) (T : Nat → Option Fd) (cf : CF) (G : Gc) (n : Nat) : Prop where
  e : ∀ {X W S e k}, Cxk X C W → Scx X S → Gcx X G C T cf k S.md → PE X e (rdE C W (evE T cf (compE G n S e)))
  o : ∀ {X W S e k}, Cxk X C W → Scx X S → Gcx X G C T cf k S.md → PE X e (rdO C W (opOf (compE G n S e) (evE T cf (compE G n S e))))
  t : ∀ {X W S e k}, Cxk X C W → Scx X S → Gcx X G C T cf k S.md → PT X e (rdT C W (tru (evE T cf (compE G n S e))))
  b : ∀ {X W S o es pos k}, Cxk X C W → Scx X S → Gcx X G C T cf k S.md → es ≠ [] → PE X (.BoolOp o es pos) (rdE C W (evE T cf (compB G n S o es)))
  bt : ∀ {X W S o es pos k}, Cxk X C W → Scx X S → Gcx X G C T cf k S.md → es ≠ [] → PW X (.BoolOp o es pos) (rdT C W (tru (evE T cf (compB G n S o es))))
  es : ∀ {X W S es k}, Cxk X C W → Scx X S → Gcx X G C T cf k S.md → es.all noStar = true → PA X es (rdA C W (evEs T cf (compEs G n S es)))
  js : ∀ {X W S es k}, Cxk X C W → Scx X S → Gcx X G C T cf k S.md → PJT X C W es fun acc => evJ T cf (compEs G n S es) acc
  ks : ∀ {X W S kws k}, Cxk X C W → Scx X S → Gcx X G C T cf k S.md → PK X kws (rdA C W (evEs T cf (compEs G n S (kws.map (·.value)))))
  ln : ∀ {S es ρ os ρ'}, evEs T cf (compEs G n S es) ρ = .ok os ρ' → os.length = es.length
  vs : ∀ {X W S es k}, Cxk X C W → Scx X S → Gcx X G C T cf k S.md → es.all noStar = true → PA X es (rdVs C W (evVs T cf (compEs G n S es)))
  p : ∀ {X W S e k}, Cxk X C W → Scx X S → Gcx X G C T cf k S.md → PO X e (rdP C W (evP T cf (compP G n S e)))
  c : ∀ {X W S f args p pos k}, Cxk X C W → Scx X S → Gcx X G C T cf k S.md → glB S f = true → args.all noStar = true → PE X (.Call (.Name f p) args [] pos) (rdE C W (evE T cf (compC G n S f args)))
  ts : ∀ {X W S es k}, Cxk X C W → Scx X S → Gcx X G C T cf k S.md → es.length < 2 → PTs X es (rdT C W (evTs T cf (compEs G n S es)))
  cv : ∀ {S f args i}, compC G n S f args ≠ .v i
  i : ∀ {X W S e tg k}, Cxk X C W → Scx X S → Gcx X G C T cf k S.md → notSet e = true → PI X tg e (rdI C W fun ρ => (evE T cf (compI G n S e) ρ).bind fun x ρ1 => R.of (itD x.2) ρ1)
end
section
variable {X : Cx} {C : Ct} {W : WX}
/-- isinstance(e, c), e an error's object that is told -/
def rIsX (K : PySem.W.Frag) : List V → Hp → VK → Prop := fun xs H Q => ∃ (a D : Addr) (v : V) (cv : Value) (b : Bool), xs = [.ref a, v] ∧ H a = some (ExO a D) ∧ ExcC K D ∧ (∀ u, RelV v u → u = cv) ∧ PySem.W.kitOne K (.ref D) cv = some b ∧ Q (.bl b) H
theorem call_isX : CallR X (.builtin "isinstance") (rIsX X.K) := by
  intro pins s σ H xs us Q I r ⟨a, D, c, cv, b, hx, ha, E, hcv, e, q⟩
  subst hx
  cases r with
  | cons rx rr =>
    cases rr with
    | cons rt rr =>
      cases rr
      cases rx
      cases hcv _ rt
      obtain ⟨⟨⟨oc, od, oda, osl⟩, vs, h1, h2, h3, h4⟩, _, _⟩ := I.hok a _ ha
      dsimp only at h2 h3 h4
      subst h2 h3 h4
      have J : PySem.W.InstAt s.heap a _ D none := ⟨h1, rfl, rfl, trivial⟩
      exact PySem.W.kia_one (PySem.W.handS_kitx_exc E.hg E.hk E.hs E.hd E.ha E.hn E.ht E.hm) I.kIn J e (fun z => nomatch z) fun tk => ⟨.bl b, H, I.kept (t' := tk) fun _ _ z => z, rfl, q⟩
theorem pe_iscE {a : Expr} {ea : E} {fa : Ev} {x : Str} {tb : List Bool} {p p2 pos : Pos} (k : Cxk X C W) (gi : Gl X "isinstance") (mi : X.mg "isinstance" = none) (gl : Gl X x) (hx : IsX X.mg X.K C x tb) (hdb : (x == ("__debug__" : Str)) = false)
    (ha : PE X a (rdO C W (opOf ea fa))) (hs : starEach [a, .Name x p2] X.env = (false, eval a X.env) :: starEach [.Name x p2] X.env) : PE X (.Call (.Name "isinstance" p) [a, .Name x p2] [] pos) (rdE C W fun ρ => (opOf ea fa ρ).bind fun x ρ1 => match x.rs ρ1 with
    | some (.exc c) => (match tb[c]? with
      | some b => .ok (false, .bl b) ρ1
      | none => .stuck)
    | _ => .stuck) := by
  obtain ⟨cv, v, hm, rv, un, hk⟩ := hx.ex
  have pn : PE X (.Name x p2) (tC v) := by
    rcases hm with hm | ⟨h1, h2, h3⟩
    · exact pe_glob gl hm rv hdb
    · exact pe_bltn gl h1 h2 rv h3 hdb
  refine PE.imp (pe_callB call_isX gi mi (by decide +kernel) (pa_cons ha (pa_cons pn pa_nil rfl) hs) (by decide) (by decide) hs rfl) fun σ H Q ⟨P, ρ, Z, L, r, q⟩ => ⟨P, ρ, Z, L, r, q.bind.mono fun y ρ1 Z1 H1 l1 r1 q1 u hu => ?_⟩
  cases e1 : y.rs ρ1 with
  | none => simp only [e1] at q1; exact q1.elim
  | some d =>
    simp only [e1] at q1
    cases d <;> first | exact q1.elim | skip
    rename_i c
    simp only at q1
    cases e2 : tb[c]? with
    | none => simp only [e2] at q1; exact q1.elim
    | some b =>
      simp only [e2] at q1
      obtain ⟨h1, h2⟩ := hk c b e2
      obtain ⟨w, rfl, hw⟩ := r1.rs hu e1
      exact ⟨w, _, v, cv, b, rfl, hw, h1, un, h2, q1 Z1 H1 (Le.refl _) r1 _ (Rep.bl b)⟩
end
end L2.T
end

section
set_option Elab.async false
set_option linter.all false
set_option maxRecDepth 100000
set_option maxHeartbeats 4000000
set_option autoImplicit false
namespace L2.T
open PySem PySem.Spec PyProof.Rows

section
variable {C : Ct} {T : Nat → Option Fd} {cf : CF} {G : Gc} {k n : Nat} {X : Cx} {W : WX} {S : Sc}
theorem stuckO {e : Expr} : PE X e (rdO C W (opOf .no (evE T cf .no))) := pe_O pe_noE (fun i z => by cases z)
theorem stuckT {e : Expr} : PT X e (rdT C W (tru (evE T cf .no))) := ⟨fun pins s σ H Q I ⟨P, ρ, Z, L, r, q⟩ => (show False from q).elim⟩
theorem stuckW {e : Expr} : PW X e (rdT C W (tru (evE T cf .no))) := ⟨fun wh pins s σ H Q I ⟨P, ρ, Z, L, r, q⟩ => (show False from q).elim⟩
theorem stuckA {es : List Expr} {f : List Sl → R (List Op)} (h : ∀ ρ, f ρ = .stuck) : PA X es (rdA C W f) := ⟨fun p pins s σ H Q I ⟨P, ρ, Z, L, r, q⟩ => by rw [h] at q; exact q.elim⟩
theorem stuckV {es : List Expr} {f : List Sl → R (List (Bool × D))} (h : ∀ ρ, f ρ = .stuck) : PA X es (rdVs C W f) := ⟨fun p pins s σ H Q I ⟨P, ρ, Z, L, r, q⟩ => by rw [h] at q; exact q.elim⟩
theorem stuckP {e : Option Expr} {f : List Sl → R (Option Int)} (h : ∀ ρ, f ρ = .stuck) : PO X e (rdP C W f) := ⟨fun pins s σ H Q I ⟨P, ρ, Z, L, r, q⟩ => by rw [h] at q; exact q.elim⟩
theorem stuckI {e tg : Expr} {f : List Sl → R (List D)} (h : ∀ ρ, f ρ = .stuck) : PI X tg e (rdI C W f) := ⟨fun pins s σ H Q I ⟨P, ρ, Z, L, r, q⟩ => by rw [h] at q; exact q.elim⟩
theorem stuckK {kws : List Keyword} {f : List Sl → R (List Op)} (h : ∀ ρ, f ρ = .stuck) : PK X kws (rdA C W f) := ⟨fun p pins s σ H Q I ⟨P, ρ, Z, L, r, q⟩ => by rw [h] at q; exact q.elim⟩
theorem okN0 : OkN C T cf G 0 where
  js := fun _ _ _ => stuckJ fun acc ρ => rfl
  ks := fun _ _ _ => stuckK fun ρ => rfl
  e := fun _ _ _ => pe_noE
  o := fun _ _ _ => stuckO
  t := fun _ _ _ => stuckT
  b := fun _ _ _ _ => pe_noE
  bt := fun _ _ _ _ => stuckW
  es := fun _ _ _ _ => stuckA fun ρ => rfl
  ln := fun h => by cases h
  vs := fun _ _ _ _ => stuckV fun ρ => rfl
  p := fun _ _ _ => stuckP fun ρ => rfl
  c := fun _ _ _ _ _ => pe_noE
  ts := fun _ _ _ _ => ⟨fun pins s σ H Q I ⟨P, ρ, Z, L, r, q⟩ => (show False from q).elim⟩
  cv := fun h => by cases h
  i := fun _ _ _ _ => stuckI fun ρ => rfl
theorem opO {e : Expr} {r : E} (h : PE X e (rdE C W (evE T cf r))) (hv : ∀ i, r = .v i → ∃ x p, e = .Name x p ∧ PE X (.Name x p) (tVar i)) : PE X e (rdO C W (opOf r (evE T cf r))) := by
  by_cases hr : ∃ i, r = .v i
  · obtain ⟨i, rfl⟩ := hr
    obtain ⟨x, p, rfl, hx⟩ := hv i rfl
    exact pe_vO hx
  · exact pe_O h fun i z => hr ⟨i, z⟩
/-- the block's context -/
theorem blk_cxk (kx : Cxk X C W) {s : Shared} {H : Hp} {sc : Scope} {ce : Env} {fp : List Addr} : Cxk (X.blk s H sc ce fp) C WF := ⟨kx.hk, kx.nd, kx.calm, kx.un2, kx.gd, LamX.takes0⟩
theorem blk_scx (sx : Scx X S) {s : Shared} {H : Hp} {sc : Scope} {cl : List (Str × Addr)} {A : Addr} {fp : List Addr} : Scx (X.blk s H sc (compEnvC sc cl A X.env) fp) (S.blk sc) := ⟨sx.n, by
  show relS sc X.env.scope = relS sc S.sc
  rw [sx.sc], rfl⟩
theorem blk_sh {md id : Nat} : shI (if md = 2 then 2 else 1) id = shI md id := by
  unfold shI
  by_cases h : md = 2
  · rw [if_pos h, if_pos rfl, if_pos h]
  · rw [if_neg h, if_neg h, if_neg (by decide)]
theorem blk_md {S : Sc} {sc : Scope} : (S.blk sc).md ≠ 0 := by
  unfold Sc.blk
  show (if S.md = 2 then 2 else 1) ≠ 0
  split <;> decide
theorem blk_gcx {S : Sc} (gx : Gcx X G C T cf k S.md) {s : Shared} {H : Hp} {sc : Scope} {ce : Env} {fp : List Addr} : Gcx (X.blk s H sc ce fp) G C T cf k (S.blk sc).md := by
  have h2 : (S.blk sc).md ≠ 2 → S.md ≠ 2 := fun h z => h (by unfold Sc.blk; exact if_pos z)
  refine ⟨fun x id n h => ?_, gx.con, gx.non, gx.room, gx.exc, gx.isc, fun z => absurd z blk_md, fun z => absurd z blk_md, fun z => absurd z blk_md, gx.fld, fun x c id n h => ⟨(gx.ncl x c id n h).1, (gx.ncl x c id n h).2.1, fun z => (gx.ncl x c id n h).2.2 (h2 z)⟩, fun rp c id h z => gx.txx rp c id h (h2 z), fun c id h z => gx.eqx c id h (h2 z)⟩
  have e : shI (S.blk sc).md id = shI S.md id := blk_sh
  rw [e]
  exact gx.fid x id n h
/-- targets -/
theorem compT_ok {mv : List Nat} (kx : Cxk X C W) (sx : Scx X S) : ∀ n, (∀ {e : Expr} {t : Tg}, compT n S e = some t → PG X e (gTg C mv t)) ∧ (∀ {es : List Expr} {ts : List Tg}, compTs n S es = some ts → PGs X es (gTgs C mv ts) ∧ (assignEach es X.env).length = ts.length ∧ (assignEach es X.env).findIdx? (·.1) = none)
  | 0 => ⟨fun {e t} h => (by cases h), fun {es ts} h => (by cases h)⟩
  | n + 1 => by
    obtain ⟨h1, h2⟩ := compT_ok (mv := mv) kx sx n
    refine ⟨fun {e t} h => ?_, fun {es ts} h => ?_⟩
    · cases e <;> simp only [compT] at h <;> try (cases h; done)
      case Name x p =>
        obtain ⟨i, hi, rfl⟩ := Option.map_eq_some_iff.mp h
        obtain ⟨a, b, c⟩ := locIx_ok sx hi
        exact pg_nmT (pg_name kx.nd a b c)
      case Tuple es kk p =>
        obtain ⟨ts, hi, rfl⟩ := Option.map_eq_some_iff.mp h
        obtain ⟨a, b, c⟩ := h2 hi
        exact pg_tuT kx a b c
    · cases es with
      | nil =>
        simp only [compTs] at h
        cases h
        exact ⟨pgs_nilT, rfl, rfl⟩
      | cons e es =>
        simp only [compTs] at h
        split at h
        · rename_i hs
          cases e1 : compT n S e with
          | none => rw [e1] at h; cases h
          | some t =>
            cases e2 : compTs n S es with
            | none => rw [e1, e2] at h; cases h
            | some ts' =>
              rw [e1, e2] at h
              cases h
              obtain ⟨a, b, c⟩ := h2 e2
              refine ⟨pgs_consT (h1 e1) a (by rw [asg_cons hs]; rfl), by rw [asg_cons hs, List.length_cons, List.length_cons, b], ?_⟩
              rw [asg_cons hs, List.findIdx?_cons, c]
              rfl
        · cases h
theorem lc_ok (kx : Cxk X C W) {elt tg iter : Expr} {ifs : List Expr} {scope : Scope} {own : List (Str × Nat)} {pos : Pos} {t : Tg} {fi : List Sl → R (List D)} {ft : List Sl → R Bool} {fel : Ev} (hown : ∀ j ∈ t.slots, j ∈ own.map (·.2)) (hi : PI X tg iter (rdI C W fi)) (ok : BlkOk X.N X.env.scope scope own)
    (hg : ∀ (s : Shared) (H : Hp) (A : Addr) (cl : List (Str × Addr)) (fp : List Addr), PG (X.blk s H scope (compEnvC scope cl A X.env) fp) tg (gTg C [] t)) (ht : ∀ (s : Shared) (H : Hp) (A : Addr) (cl : List (Str × Addr)) (fp : List Addr), PTs (X.blk s H scope (compEnvC scope cl A X.env) fp) ifs (rdT C WF ft))
    (he : ∀ (s : Shared) (H : Hp) (A : Addr) (cl : List (Str × Addr)) (fp : List Addr), PE (X.blk s H scope (compEnvC scope cl A X.env) fp) elt (rdE C WF fel)) (hs : ∀ x, foldedSetIterable iter X.env x = pure x) :
    PE X (.ListComp elt [⟨tg, iter, ifs, 0⟩] scope pos) (rdE C W (lcF (own.map (·.2)) t fi ft fel)) := PE.imp (pe_lc kx.calm kx.nd hi ok hg ht he hs) fun σ H Q h => lc_rd hown h
theorem notSet_ok {e : Expr} {env : Env} (h : notSet e = true) : ∀ x, foldedSetIterable e env x = pure x := by
  intro x
  cases e <;> first | rfl | cases h
theorem notSlice_ix {b : Expr} (h : ∀ lo hi st p, b ≠ .Slice lo hi st p) : PlainIx b := by
  intro o i
  cases b <;> first | rfl | exact absurd rfl (h _ _ _ _)
theorem mm_ok (ih : OkN C T cf G n) (kx : Cxk X C W) (sx : Scx X S) (gx : Gcx X G C T cf k S.md) {x m : Str} {p apos cpos : Pos} {args : List Expr} {i : Nat} {key : String} (h1 : (apos.endLine == cpos.line) = true) (h2 : args.all noStar = true) (h3 : args.length < 29) (en : nameIx S x = some i) (em : tabAt mmTab m = some key) :
    PE X (.Call (.Attribute (.Name x p) m apos) args [] cpos) (rdE C W (evE T cf (.mm key i (compEs G n S args)))) := by
  have hx : PE X (.Name x p) (tVar i) := nameIx_ok sx en
  have hpop : key = "pop" → m = "pop" := fun hk => by
    have hb := tab_mem em
    simp only [mmTab, List.mem_cons, List.not_mem_nil, or_false, Prod.mk.injEq] at hb
    subst hk
    rcases hb with ⟨rfl, h⟩ | ⟨rfl, h⟩ | ⟨rfl, h⟩ | ⟨rfl, h⟩ | ⟨rfl, h⟩ | ⟨rfl, h⟩ | ⟨rfl, h⟩ <;> first | rfl | (exact absurd h (by decide))
  have go : ∀ {id : String}, Slot "list" m id → typeOf (.builtin id) = pure (.type "method_descriptor") → (∀ σ0, MtR X id (rMm C σ0 key)) → PE X (.Call (.Attribute (.Name x p) m apos) args [] cpos) (rdE C W (evE T cf (.mm key i (compEs G n S args)))) := fun {id} slot hty hm => by
    refine ⟨fun pins s σ H Q I ⟨P, ρ, Z, L, r, q⟩ => ?_⟩
    simp only [evE] at q
    by_cases hd : ∃ kvs, ρ[i]? = some (.ow (.dk kvs))
    · obtain ⟨kvs, hd⟩ := hd
      rw [hd] at q
      simp only at q
      split at q
      · rename_i hk
        have hmp := hpop hk
        subst hmp
        cases args with
        | cons e es =>
          obtain ⟨a1, a2⟩ := all_tl h2
          exact run_dpop hx (ih.es kx sx gx h2) (star_cons a1) (star_any a2) (star_few h2 h3) h1 I r hd q
        | nil =>
          cases n with
          | zero => exact q.elim
          | succ n =>
            simp only [compEs, evEs, R.bind, fzL] at q
            rw [hd] at q
            exact q.elim
      · exact q.elim
    · have q : Cont C W P Z L σ (match ρ[i]? with
        | some (.ow (.lst _)) => (evEs T cf (compEs G n S args) ρ).bind fun os ρ1 => (match fzL ρ1 os with
          | some (ds, ρ2) => (match ρ2[i]? with
            | some (.ow o) => (match mmD key o ds with
              | some (o', x) => .ok x (ρ2.set i (.ow o'))
              | none => .stuck)
            | _ => .stuck)
          | none => .stuck)
        | _ => .stuck) fun x ρ' Z' H' => ∀ v, RepR C ρ' Z' L σ H' x.1 x.2 v → Q v H' := by
        revert q
        cases e : ρ[i]? with
        | none => exact fun q => q
        | some sl =>
          cases sl with
          | un => exact fun q => q
          | sh d => exact fun q => q
          | ow d =>
            cases d
            case dk kvs => exact absurd ⟨kvs, e⟩ hd
            all_goals exact fun q => q
      cases args with
      | cons e es =>
        obtain ⟨a1, a2⟩ := all_tl h2
        exact (pe_mmE slot hty hm hx (ih.es kx sx gx h2) (star_few h2 h3) h1 (star_cons a1) (star_any a2)).run pins s σ H Q I ⟨P, ρ, Z, L, r, q⟩
      | nil =>
        cases n with
        | zero =>
          have q : Cont C W P Z L σ (match ρ[i]? with
            | some (.ow (.lst _)) => R.stuck
            | _ => R.stuck) _ := q
          split at q <;> exact q.elim
        | succ n => exact (pe_mmE0 slot hty hm hx h1).run pins s σ H Q I ⟨P, ρ, Z, L, r, q⟩
  have hb := tab_mem em
  simp only [mmTab, List.mem_cons, List.not_mem_nil, or_false, Prod.mk.injEq] at hb
  rcases hb with ⟨rfl, rfl⟩ | ⟨rfl, rfl⟩ | ⟨rfl, rfl⟩ | ⟨rfl, rfl⟩ | ⟨rfl, rfl⟩ | ⟨rfl, rfl⟩ | ⟨rfl, rfl⟩
  · exact go PySem.F.slot_list_append (by show builtinType _ = _; rw [builtinType_eq_fast]; kernel_rfl) fun _ => mm_append
  · exact go PySem.F.slot_list_extend (by show builtinType _ = _; rw [builtinType_eq_fast]; kernel_rfl) fun _ => mm_extend
  · exact go PySem.F.slot_list_pop (by show builtinType _ = _; rw [builtinType_eq_fast]; kernel_rfl) fun _ => mm_pop
  · exact go PySem.F.slot_list_reverse (by show builtinType _ = _; rw [builtinType_eq_fast]; kernel_rfl) fun _ => mm_reverse
  · exact go PySem.F.slot_list_clear (by show builtinType _ = _; rw [builtinType_eq_fast]; kernel_rfl) fun _ => mm_clear
  · exact go PySem.F.slot_list_count (by show builtinType _ = _; rw [builtinType_eq_fast]; kernel_rfl) fun _ => mm_count
  · exact go PySem.F.slot_list_index (by show builtinType _ = _; rw [builtinType_eq_fast]; kernel_rfl) fun _ => mm_index
theorem base_ok {o : Expr} {f : Str} {env : Env} (h : baseB o = true) : attributeBase o f env (eval o env) = eval o env := by
  cases o <;> try rfl
  rename_i g args kws p
  cases args with
  | cons _ _ => cases g <;> rfl
  | nil => cases kws with
    | cons _ _ => cases g <;> rfl
    | nil => cases h
theorem eqOp_ok {o : CmpOp} {ne : Bool} (h : eqOp o = some ne) : o = neOp ne := by
  cases o <;> cases h <;> rfl
theorem kwFind_ok {ns : List (Option Str)} : ∀ {shs : List (List Str × List (Sum Nat D))} {s : List Str × List (Sum Nat D)}, kwFind ns shs = some s → s ∈ shs ∧ ns = s.1.map some
  | [], s, h => by cases h
  | t :: ts, s, h => by
    unfold kwFind at h
    split at h
    · rename_i e
      cases h
      exact ⟨List.mem_cons_self, e⟩
    · obtain ⟨a, b⟩ := kwFind_ok h
      exact ⟨List.mem_cons_of_mem _ a, b⟩
theorem okN_e (ih : OkN C T cf G n) (kx : Cxk X C W) (sx : Scx X S) (gx : Gcx X G C T cf k S.md) {e : Expr} : PE X e (rdE C W (evE T cf (compE G (n + 1) S e))) := by
  cases e <;> simp only [compE] <;> try (exact pe_noE)
  case BoolOp o es pos =>
    cases o with
    | And =>
      match es with
      | [] => exact pe_noE
      | [_] => exact pe_noE
      | a :: b :: r => exact pe_andE (ih.e kx sx gx) (ih.b kx sx gx (by simp))
    | Or =>
      match es with
      | [] => exact pe_noE
      | [_] => exact pe_noE
      | a :: b :: r => exact pe_orE (ih.e kx sx gx) (ih.b kx sx gx (by simp))
  case BinOp a o b pos => exact pe_bin kx (ih.o kx sx gx) (ih.o kx sx gx)
  case UnaryOp o a pos =>
    cases o <;> simp only <;> try (exact pe_noE)
    · exact pe_notE kx (ih.e kx sx gx)
    · exact pe_negE kx (ih.o kx sx gx)
  case IfExp c a b pos => exact pe_ifeE (ih.t kx sx gx) (ih.e kx sx gx) (ih.e kx sx gx)
  case Dict ks vs pos =>
    match ks, vs with
    | [], [] => exact pe_dk0E
    | [some a], [b] => exact pe_ddE (ih.o kx sx gx) (ih.o kx sx gx)
    | [none], [b] => exact pe_noE
    | [], _ :: _ => exact pe_noE
    | none :: _, [] => exact pe_noE
    | [some _], [] => exact pe_noE
    | some _ :: _ :: _, [] => exact pe_noE
    | none :: _ :: _, _ :: _ => exact pe_noE
    | some _ :: _ :: _, _ :: _ => exact pe_noE
    | [none], _ :: _ :: _ => exact pe_noE
    | [some _], _ :: _ :: _ => exact pe_noE
  case Attribute o f pos =>
    cases ef : G.fld f with
    | none => exact pe_noE
    | some ci =>
      obtain ⟨c, i⟩ := ci
      simp only
      split
      · rename_i hb
        obtain ⟨cx, hf⟩ := gx.fld f c i ef
        exact pe_fldE cx hf (ih.o kx sx gx) (base_ok hb)
      · exact pe_noE
  case ListComp elt gens sc pos =>
    match gens with
    | [] => exact pe_noE
    | [⟨tg, it, ifs, as⟩] =>
      simp only
      cases et : compT n (S.blk sc) tg with
      | none => exact pe_noE
      | some t =>
        simp only
        split
        · rename_i hc
          simp only [Bool.and_eq_true, decide_eq_true_eq, List.all_eq_true] at hc
          obtain ⟨⟨h1, h2, h3⟩, h4, h5⟩ := hc
          subst h5
          exact lc_ok kx (fun j hj => List.contains_iff_mem.mp (h3 j hj)) (ih.i kx sx gx h1) (by rw [sx.n, sx.sc]; exact blkOk_by h2) (fun s H A cl fp => (compT_ok (blk_cxk kx) (blk_scx sx) n).1 et) (fun s H A cl fp => ih.ts (blk_cxk kx) (blk_scx sx) (blk_gcx gx) h4) (fun s H A cl fp => ih.e (blk_cxk kx) (blk_scx sx) (blk_gcx gx)) (notSet_ok h1)
        · exact pe_noE
    | _ :: _ :: _ => exact pe_noE
  case FormattedValue a cv sp pos =>
    cases sp with
    | some _ => exact pe_noE
    | none =>
      simp only
      split
      · rename_i h
        subst h
        exact pe_fmtE (ih.o kx sx gx)
      · exact pe_noE
  case JoinedStr vs pos =>
    match vs with
    | [] => exact pe_noE
    | [_] => exact pe_noE
    | v1 :: v2 :: rest => exact pe_fstE (ih.js kx sx gx)
  case Compare a os bs pos =>
    match os, bs with
    | [o], [b] =>
      simp only
      split
      · exact pe_noE
      · rename_i hm
        split
        · rename_i ne c id e1 e2
          split
          · exact pe_cmpE kx (by simpa using hm) (ih.o kx sx gx) (ih.o kx sx gx)
          · rename_i h2
            rw [eqOp_ok e1]
            refine ⟨fun pins s σ H Q I h => ?_⟩
            cases ed : cf (3 * BB) [] with
            | ok y z =>
              obtain ⟨cx, k2⟩ := gx.eqx c id e2 h2
              obtain ⟨j, f, fd, ps, fdT, rfl, ex, hb, _, hn, F⟩ := k2 y z ed
              refine (pe_cmpxE kx cx ex hn F gx.room hb (ih.o (S := S) kx sx gx) (ih.o (S := S) kx sx gx)).run pins s σ H Q I ?_
              have ev : evE T cf (.cmpx ne c (id + BB) (compE G n S a) (compE G n S b)) = cmpxF cf ne c (id + BB) (opOf (compE G n S a) (evE T cf (compE G n S a))) (opOf (compE G n S b) (evE T cf (compE G n S b))) := by
                funext ρ
                simp only [evE, ed]
                rfl
              rw [← ev]
              exact h
            | stuck => obtain ⟨P, ρ, Z, L, r, q⟩ := h; simp only [evE, ed] at q; exact q.elim
            | ex _ _ => obtain ⟨P, ρ, Z, L, r, q⟩ := h; simp only [evE, ed] at q; exact q.elim
        · exact pe_cmpE kx (by simpa using hm) (ih.o kx sx gx) (ih.o kx sx gx)
    | [o, p], [b, c] =>
      simp only
      split
      · exact pe_noE
      · rename_i hm
        exact pe_chnE kx (by simpa using hm) (ih.o kx sx gx) (ih.o kx sx gx) (ih.o kx sx gx)
    | [], _ => exact pe_noE
    | [_], [] => exact pe_noE
    | [_], _ :: _ :: _ => exact pe_noE
    | [_, _], [] => exact pe_noE
    | [_, _], [_] => exact pe_noE
    | [_, _], _ :: _ :: _ :: _ => exact pe_noE
    | _ :: _ :: _ :: _, _ => exact pe_noE
  case Call f args kws cpos =>
    cases ekw : kwOk G S f args kws with
    | some idp =>
      obtain ⟨id, pm⟩ := idp
      unfold kwOk at ekw
      split at ekw
      · rename_i x p
        split at ekw
        · rename_i np shs id' nn e1 e2
          split at ekw
          · rename_i hc
            simp only [Bool.and_eq_true, decide_eq_true_eq] at hc
            obtain ⟨c1, c2, c3⟩ := hc
            obtain ⟨s, hs, he⟩ := Option.map_eq_some_iff.mp ekw
            cases he
            obtain ⟨k1, k2⟩ := kwFind_ok hs
            obtain ⟨g1, g2, g3⟩ := glB_ok sx c1
            obtain ⟨fa, fd, ps, fdT, m1, m2, m3, m4, m5, m6⟩ := gx.fid x id nn e2
            obtain ⟨b1, b2⟩ := m3.2 np shs e1 s k1
            have hkl : kws.length = s.1.length := by
              have := congrArg List.length k2
              simpa [kwNames] using this
            cases args with
            | cons e es =>
              exact pe_callKT kx m4 c3 (b2.trans m5.symm) m6 gx.room g1 m1 m2 b1 g2 k2 (ih.es kx sx gx c2) (ih.ks kx sx gx) (fun ρ os ρ' h => (ih.ln h).trans c3) (fun ρ os ρ' h => (ih.ln h).trans (by rw [List.length_map]; exact hkl)) (star_cons (all_tl c2).1) (star_any c2)
            | nil =>
              cases n with
              | zero => exact ⟨fun pins s σ H Q I ⟨P, ρ, Z, L, r, q⟩ => (show False from q).elim⟩
              | succ n => exact pe_callKT0 kx m4 c3.symm (b2.trans m5.symm) m6 gx.room g1 m1 m2 b1 g2 k2 (ih.ks kx sx gx) (fun ρ os ρ' h => (ih.ln h).trans (by rw [List.length_map]; exact hkl))
          · cases ekw
        · cases ekw
      · cases ekw
    | none =>
    simp only
    match kws with
    | _ :: _ :: _ => exact pe_noE
    | [kw] =>
      simp only
      split
      · rename_i x p a
        split
        · rename_i hc
          simp only [Bool.and_eq_true, decide_eq_true_eq] at hc
          obtain ⟨h1, h2, h3, h4, h5, h6, h7⟩ := hc
          subst h2
          obtain ⟨nm, val, kp⟩ := kw
          unfold keyLen at h1
          simp only at h1
          split at h1
          · rename_i y z p2
            simp only [Bool.and_eq_true, decide_eq_true_eq] at h1
            obtain ⟨rfl, rfl⟩ := h1
            exact pe_srtE kx (glB_ok sx h3).1 (gx.non _ h5) (glB_ok sx h4).1 (gx.non _ h6) (ih.es kx sx gx (by simp [h7])) (star_cons h7)
          · cases h1
        · exact pe_noE
      · exact pe_noE
    | [] =>
      cases f <;> simp only <;> try (exact pe_noE)
      case Name x p =>
        split
        · rename_i hc
          simp only [Bool.and_eq_true] at hc
          exact ih.c kx sx gx hc.1 hc.2
        · exact pe_noE
      case Attribute o m apos =>
        split
        · rename_i hg
          subst hg
          split
          · rename_i hc
            simp only [Bool.and_eq_true, decide_eq_true_eq] at hc
            obtain ⟨⟨hb, hl⟩, h1, h2⟩ := hc
            match args, hl, h2 with
            | [e, e'], _, h2 =>
              obtain ⟨a1, a2⟩ := all_tl h2
              exact pe_getE kx (ih.o kx sx gx) (ih.es kx sx gx h2) (star_cons a1) (star_any a2) (base_ok hb) (star_few h2 (by simp)) h1
          · exact pe_noE
        cases o <;> simp only <;> try (exact pe_noE)
        rename_i x p
        cases en : nameIx S x with
        | none => exact pe_noE
        | some i =>
          cases em : tabAt mmTab m with
          | none => exact pe_noE
          | some key =>
            simp only
            split
            · rename_i hc
              simp only [Bool.and_eq_true, decide_eq_true_eq] at hc
              obtain ⟨h1, h2, h3⟩ := hc
              exact mm_ok ih kx sx gx h1 h2 h3 en em
            · exact pe_noE
  case Constant c kk pos =>
    cases c <;> simp only <;> try (exact pe_noE)
    · exact pe_val pe_non fun Z => .non
    · exact pe_val pe_bl fun Z => .bl _
    · exact pe_val pe_int fun Z => .int _
    · exact pe_val pe_str fun Z => .str _
  case Subscript a b pos =>
    cases b <;> simp only <;> try (exact pe_idx kx (notSlice_ix (by intro _ _ _ _ z; cases z)) (ih.o kx sx gx) (ih.o kx sx gx))
    case Slice lo hi st p =>
      cases st with
      | none => exact pe_sliE kx (ih.o kx sx gx) (ih.p kx sx gx) (ih.p kx sx gx)
      | some _ => exact pe_noE
  case Name x p =>
    cases en : nameIx S x with
    | some i => exact pe_vE (nameIx_ok sx en)
    | none =>
      simp only
      split
      · rename_i hg
        cases ec : G.con x with
        | none => exact pe_noE
        | some d =>
          obtain ⟨u, v, h1, h2, h3⟩ := gx.con x d ec
          obtain ⟨g1, g2, g3⟩ := glB_ok sx hg
          exact pe_val (pe_glob g1 h1 h2 g2) h3
      · exact pe_noE
  case List es pos =>
    split
    · rename_i hs
      exact pe_lstE (ih.es kx sx gx hs)
    · exact pe_noE
  case Tuple es kk pos =>
    split
    · rename_i hs
      exact pe_tupE (ih.es kx sx gx hs)
    · exact pe_noE
end
end L2.T
end

section
set_option Elab.async false
set_option linter.all false
set_option maxRecDepth 100000
set_option maxHeartbeats 4000000
set_option autoImplicit false
namespace L2.T
open PySem PySem.Spec PyProof.Rows

section
variable {C : Ct} {T : Nat → Option Fd} {cf : CF} {G : Gc} {k n : Nat} {X : Cx} {W : WX} {S : Sc}
theorem compC_nv (n : Nat) {S : Sc} {f : Str} {args : List Expr} {i : Nat} : compC G n S f args ≠ .v i := by
  cases n with
  | zero => intro z; simp only [compC] at z; cases z
  | succ n =>
    intro z
    simp only [compC] at z
    repeat' (first | (cases z; done) | split at z)
theorem compE_v (ih : OkN C T cf G n) (sx : Scx X S) {e : Expr} {i : Nat} (h : compE G (n + 1) S e = .v i) : ∃ x p, e = .Name x p ∧ PE X (.Name x p) (tVar i) := by
  cases e <;> simp only [compE] at h <;> try (cases h; done)
  case Name x p =>
    cases en : nameIx S x with
    | some j =>
      rw [en] at h
      cases h
      exact ⟨x, p, rfl, nameIx_ok sx en⟩
    | none =>
      rw [en] at h
      simp only at h
      split at h
      · split at h <;> cases h
      · cases h
  all_goals repeat' (first | (cases h; done) | (exact absurd h (compC_nv n)) | split at h)
theorem okN_o (ih : OkN C T cf G n) (kx : Cxk X C W) (sx : Scx X S) (gx : Gcx X G C T cf k S.md) {e : Expr} : PE X e (rdO C W (opOf (compE G (n + 1) S e) (evE T cf (compE G (n + 1) S e)))) :=
  opO (okN_e ih kx sx gx) fun i h => compE_v ih sx h
theorem okN_b (ih : OkN C T cf G n) (kx : Cxk X C W) (sx : Scx X S) (gx : Gcx X G C T cf k S.md) {o : BoolOp} {es : List Expr} {pos : Pos} (hn : es ≠ []) : PE X (.BoolOp o es pos) (rdE C W (evE T cf (compB G (n + 1) S o es))) := by
  match o, es with
  | _, [] => exact absurd rfl hn
  | .And, [a] => exact pe_one (ih.e kx sx gx)
  | .Or, [a] => exact pe_one (ih.e kx sx gx)
  | .And, a :: b :: r => exact pe_andE (ih.e kx sx gx) (ih.b kx sx gx (by simp))
  | .Or, a :: b :: r => exact pe_orE (ih.e kx sx gx) (ih.b kx sx gx (by simp))
theorem okN_bt (ih : OkN C T cf G n) (kx : Cxk X C W) (sx : Scx X S) (gx : Gcx X G C T cf k S.md) {o : BoolOp} {es : List Expr} {pos : Pos} (hn : es ≠ []) : PW X (.BoolOp o es pos) (rdT C W (tru (evE T cf (compB G (n + 1) S o es)))) := by
  match o, es with
  | _, [] => exact absurd rfl hn
  | .And, [a] => exact pw_and1 (ih.t kx sx gx)
  | .Or, [a] => exact pw_or1 (ih.t kx sx gx)
  | .And, a :: b :: r => exact pw_andT (ih.t kx sx gx) (ih.bt kx sx gx (by simp))
  | .Or, a :: b :: r => exact pw_orT (ih.t kx sx gx) (ih.bt kx sx gx (by simp))
/-- a test that is an if-expression -/
theorem pt_ifeT {c a b : Expr} {fc fa fb : Ev} {pos : Pos} (hc : PT X c (rdT C W (tru fc))) (ha : PT X a (rdT C W (tru fa))) (hb : PT X b (rdT C W (tru fb))) : PT X (.IfExp c a b pos) (rdT C W (tru fun ρ => (tru fc ρ).bind fun t ρ1 => if t = true then fa ρ1 else fb ρ1)) := by
  refine ⟨fun pins s σ H Q I ⟨P, ρ, Z, L, r, q⟩ => ?_⟩
  have q : Cont C W P Z L σ ((tru fc ρ).bind fun t ρ1 => if t = true then tru fa ρ1 else tru fb ρ1) fun b _ _ H' => Q b H' := by
    revert q
    show Cont C W P Z L σ (((tru fc ρ).bind fun t ρ1 => if t = true then fa ρ1 else fb ρ1).bind fun x ρ1 => R.of x.2.truth ρ1) _ → _
    cases tru fc ρ with
    | stuck => exact fun q => q
    | ex _ _ => exact fun q => q
    | ok t ρ1 => cases t <;> exact fun q => q
  have go : rdT C W (tru fc) σ H fun t H1 => if t = true then rdT C W (tru fa) σ H1 Q else rdT C W (tru fb) σ H1 Q := ⟨P, ρ, Z, L, r, q.bind.mono fun t ρ1 Z1 H1 l1 r1 q1 => by
    cases t with
    | true => exact ⟨P, ρ1, Z1, L, r1, q1⟩
    | false => exact ⟨P, ρ1, Z1, L, r1, q1⟩⟩
  show wpAny _ _ (isTrue (.IfExp c a b pos) X.env _) _ _ _
  unfold PySem.isTrue
  refine wpAny_bind (thn (hc.run pins s σ H _ I go) fun t s1 ⟨H1, I1, q1⟩ => ?_)
  cases t with
  | true => exact ha.run pins s1 σ H1 Q I1 q1
  | false => exact hb.run pins s1 σ H1 Q I1 q1
theorem okN_t (ih : OkN C T cf G n) (kx : Cxk X C W) (sx : Scx X S) (gx : Gcx X G C T cf k S.md) {e : Expr} : PT X e (rdT C W (tru (evE T cf (compE G (n + 1) S e)))) := by
  have he := okN_e (e := e) ih kx sx gx
  cases e
  case BoolOp o es pos =>
    simp only [compE]
    match o, es with
    | .And, [] => exact stuckT
    | .Or, [] => exact stuckT
    | .And, [_] => exact stuckT
    | .Or, [_] => exact stuckT
    | .And, a :: b :: r => exact (pw_andT (ih.t kx sx gx) (ih.bt kx sx gx (by simp))).pt
    | .Or, a :: b :: r => exact (pw_orT (ih.t kx sx gx) (ih.bt kx sx gx (by simp))).pt
  case IfExp c a b pos =>
    simp only [compE]
    exact pt_ifeT (ih.t kx sx gx) (ih.t kx sx gx) (ih.t kx sx gx)
  case UnaryOp o a pos =>
    cases o
    case Not =>
      simp only [compE]
      exact pt_notT (ih.t kx sx gx)
    all_goals exact pt_plain kx he (isTrue_plain rfl)
  case Compare a os bs pos =>
    simp only [compE]
    match os, bs with
    | [o], [b] =>
      simp only
      split
      · exact stuckT
      · rename_i hm
        split
        · rename_i ne c id e1 e2
          split
          · exact pt_cmpT kx (by simpa using hm) (ih.o kx sx gx) (ih.o kx sx gx)
          · rename_i h2
            rw [eqOp_ok e1]
            refine ⟨fun pins s σ H Q I h => ?_⟩
            cases ed : cf (3 * BB) [] with
            | ok y z =>
              obtain ⟨cx, k2⟩ := gx.eqx c id e2 h2
              obtain ⟨j, f, fd, ps, fdT, rfl, ex, hb, _, hn, F⟩ := k2 y z ed
              refine (pt_cmpxT kx cx ex hn F gx.room hb (ih.o (S := S) kx sx gx) (ih.o (S := S) kx sx gx)).run pins s σ H Q I ?_
              have ev : evE T cf (.cmpx ne c (id + BB) (compE G n S a) (compE G n S b)) = cmpxF cf ne c (id + BB) (opOf (compE G n S a) (evE T cf (compE G n S a))) (opOf (compE G n S b) (evE T cf (compE G n S b))) := by
                funext ρ
                simp only [evE, ed]
                rfl
              rw [← ev]
              exact h
            | stuck => obtain ⟨P, ρ, Z, L, r, q⟩ := h; simp only [tru, evE, ed] at q; exact q.elim
            | ex _ _ => obtain ⟨P, ρ, Z, L, r, q⟩ := h; simp only [tru, evE, ed] at q; exact q.elim
        · exact pt_cmpT kx (by simpa using hm) (ih.o kx sx gx) (ih.o kx sx gx)
    | [o, p], [b, c] =>
      simp only
      split
      · exact stuckT
      · rename_i hm
        exact pt_chnT kx (by simpa using hm) (ih.o kx sx gx) (ih.o kx sx gx) (ih.o kx sx gx)
    | [], _ => exact stuckT
    | [_], [] => exact stuckT
    | [_], _ :: _ :: _ => exact stuckT
    | [_, _], [] => exact stuckT
    | [_, _], [_] => exact stuckT
    | [_, _], _ :: _ :: _ :: _ => exact stuckT
    | _ :: _ :: _ :: _, _ => exact stuckT
  all_goals exact pt_plain kx he (isTrue_plain rfl)
theorem okN_es (ih : OkN C T cf G n) (kx : Cxk X C W) (sx : Scx X S) (gx : Gcx X G C T cf k S.md) {es : List Expr} (h : es.all noStar = true) : PA X es (rdA C W (evEs T cf (compEs G (n + 1) S es))) := by
  cases es with
  | nil => exact pa_nilA
  | cons e es =>
    obtain ⟨a, b⟩ := all_tl h
    exact pa_consA (ih.o kx sx gx) (ih.es kx sx gx b) (star_cons a)
theorem okN_js (ih : OkN C T cf G n) (kx : Cxk X C W) (sx : Scx X S) (gx : Gcx X G C T cf k S.md) {es : List Expr} : PJT X C W es fun acc => evJ T cf (compEs G (n + 1) S es) acc := by
  cases es with
  | nil => exact pjt_nil
  | cons e es => exact pjt_cons (ih.e kx sx gx) (ih.js kx sx gx)
theorem okN_ks (ih : OkN C T cf G n) (kx : Cxk X C W) (sx : Scx X S) (gx : Gcx X G C T cf k S.md) {kws : List Keyword} : PK X kws (rdA C W (evEs T cf (compEs G (n + 1) S (kws.map (·.value))))) := by
  cases kws with
  | nil => exact pk_nilA
  | cons k kws =>
    obtain ⟨nm, val, kp⟩ := k
    exact pk_consA (ih.o kx sx gx) (ih.ks kx sx gx)
theorem okN_vs (ih : OkN C T cf G n) (kx : Cxk X C W) (sx : Scx X S) (gx : Gcx X G C T cf k S.md) {es : List Expr} (h : es.all noStar = true) : PA X es (rdVs C W (evVs T cf (compEs G (n + 1) S es))) := by
  cases es with
  | nil => exact pa_nilV
  | cons e es =>
    obtain ⟨a, b⟩ := all_tl h
    exact pa_consV (ih.e kx sx gx) (ih.vs kx sx gx b) (star_cons a)
theorem okN_ln (ih : OkN C T cf G n) {S : Sc} {es : List Expr} {ρ ρ' : List Sl} {os : List Op} (h : evEs T cf (compEs G (n + 1) S es) ρ = .ok os ρ') : os.length = es.length := by
  cases es with
  | nil => simp only [compEs, evEs] at h; cases h; rfl
  | cons e es =>
    simp only [compEs, evEs] at h
    revert h
    cases opOf (compE G n S e) (evE T cf (compE G n S e)) ρ with
    | stuck => intro h; cases h
    | ex _ _ => intro h; cases h
    | ok o ρ1 =>
      simp only [R.bind]
      cases h2 : evEs T cf (compEs G n S es) ρ1 with
      | stuck => intro h; cases h
      | ex _ _ => intro h; cases h
      | ok os2 ρ2 =>
        intro h
        cases h
        rw [List.length_cons, List.length_cons, ih.ln h2]
theorem okN_p (ih : OkN C T cf G n) (kx : Cxk X C W) (sx : Scx X S) (gx : Gcx X G C T cf k S.md) {e : Option Expr} : PO X e (rdP C W (evP T cf (compP G (n + 1) S e))) := by
  cases e with
  | none => exact po_noneP
  | some e => exact po_someP (ih.o kx sx gx)
theorem okN_ts (ih : OkN C T cf G n) (kx : Cxk X C W) (sx : Scx X S) (gx : Gcx X G C T cf k S.md) {es : List Expr} (h : es.length < 2) : PTs X es (rdT C W (evTs T cf (compEs G (n + 1) S es))) := by
  match es, h with
  | [], _ => exact pts_nilT
  | [c], _ =>
    cases n with
    | zero => exact ⟨fun pins s σ H Q I ⟨P, ρ, Z, L, r, q⟩ => (show False from q).elim⟩
    | succ m => exact pts_oneT (ih.t kx sx gx)
theorem txAt_ok {S : Sc} {f : Str} {args : List Expr} {rp : Bool} {c id : Nat} (h : txAt G S f args = some (rp, c, id)) : S.md ≠ 2 ∧ G.txx rp = some (c, id) ∧ (∃ a, args = [a]) ∧ f = (if rp then ("repr" : Str) else "str") := by
  unfold txAt at h
  split at h
  · rename_i hc
    have ha : ∃ a, args = [a] := by
      match args, hc.2 with
      | [a], _ => exact ⟨a, rfl⟩
    split at h
    · rename_i hf
      obtain ⟨p, e, e2⟩ := Option.map_eq_some_iff.mp h
      cases e2
      exact ⟨hc.1, e, ha, hf⟩
    · split at h
      · rename_i hf
        obtain ⟨p, e, e2⟩ := Option.map_eq_some_iff.mp h
        cases e2
        exact ⟨hc.1, e, ha, hf⟩
      · cases h
  · cases h
theorem okN_c (ih : OkN C T cf G n) (kx : Cxk X C W) (sx : Scx X S) (gx : Gcx X G C T cf k S.md) {f : Str} {args : List Expr} {p pos : Pos} (hg : glB S f = true) (hs : args.all noStar = true) : PE X (.Call (.Name f p) args [] pos) (rdE C W (evE T cf (compC G (n + 1) S f args))) := by
  obtain ⟨g1, g2, g3⟩ := glB_ok sx hg
  simp only [compC]
  cases es : G.said f with
  | some nw =>
    obtain ⟨nn, w⟩ := nw
    simp only
    split
    · rename_i ps body sc lpos
      split
      · rename_i hc
        simp only [Bool.and_eq_true, decide_eq_true_eq] at hc
        obtain ⟨hm, hp, hl⟩ := hc
        have hp' : ps = ⟨[], [], none, [], [], none, []⟩ := by
          unfold lamP at hp
          split at hp
          · rfl
          · cases hp
        subst hp'
        refine ⟨fun pins s σ H Q I h => ?_⟩
        cases ed : cf (3 * BB) [] with
        | stuck =>
          obtain ⟨P, ρ, Z, L, r, q⟩ := h
          simp only [evE, ed] at q
          exact q.elim
        | ex y o =>
          obtain ⟨P, ρ, Z, L, r, q⟩ := h
          simp only [evE, ed] at q
          exact q.elim
        | ok y o =>
          have hk2 := gx.dep hm y o ed
          obtain ⟨j, rfl⟩ : ∃ j, k = j + 2 := ⟨k - 2, by omega⟩
          have sd := gx.said hm j rfl f nn w es
          have ev : evE T cf (.said nn w (compE G n ⟨S.N, sc, fun _ => false, 2⟩ body)) = fun ρ => saidR cf nn w (evE T cf (compE G n ⟨S.N, sc, fun _ => false, 2⟩ body) ρ) := by
            funext ρ
            simp only [evE, ed]
          rw [ev] at h
          refine (sd.pe (params := ⟨[], [], none, [], [], none, []⟩) (scope := sc) (body := body) (p := p) (lpos := lpos) (pos := pos) kx g1 g2 gx.room (LamX.lamS_by (by rw [sx.sc]; exact hl)) rfl (fun _ _ _ _ _ => rfl) (fun A outer s H E f' c' hr gd => ?_)).run pins s σ H Q I h
          refine ih.e (S := ⟨S.N, sc, fun _ => false, 2⟩) (k := j) ⟨kx.hk, kx.nd, rfl, (by have := hr.un; show (A.deeper (LamX.lamEnv X sc s.heap.objs.size f' c')).units + 190 < cLine; omega), gd, takes_of rfl rfl rfl rfl⟩ ⟨sx.n, rfl, rfl⟩ ⟨gx.deep hm j rfl, gx.con, gx.non, hr, gx.exc, gx.isc, fun z => (nomatch z), fun z => (nomatch z), fun z => (nomatch z), gx.fld, fun x c id n h => ⟨(gx.ncl x c id n h).1, (gx.ncl x c id n h).2.1, fun z => absurd rfl z⟩, fun rp c id h z => absurd rfl z, fun c id h z => absurd rfl z⟩
      · exact pe_noE
    · exact pe_noE
  | none =>
  simp only
  cases ef : G.fid f with
  | some idn =>
    obtain ⟨id, na⟩ := idn
    simp only
    split
    · rename_i hl
      obtain ⟨fa, fd, ps, fdT, m1, m2, m3, m4, m5, m6⟩ := gx.fid f id na ef
      cases args with
      | cons e es =>
        obtain ⟨a, b⟩ := all_tl hs
        exact pe_callT kx m4 (hl.1.trans m5.symm) m6 gx.room g1 m1 m2 (m3.1 (Option.isNone_iff_eq_none.mp hl.2)) g2 (ih.es kx sx gx hs) (fun ρ os ρ' h => ih.ln h) (star_cons a) (star_any b)
      | nil =>
        cases n with
        | zero => exact ⟨fun pins s σ H Q I ⟨P, ρ, Z, L, r, q⟩ => (show False from q).elim⟩
        | succ n => exact pe_callT0 kx m4 (m5.trans hl.1.symm) m6 gx.room g1 m1 m2 (m3.1 (Option.isNone_iff_eq_none.mp hl.2)) g2
    · exact pe_noE
  | none =>
    simp only
    cases en : G.ncl f with
    | some cn =>
      obtain ⟨c, id, na⟩ := cn
      simp only
      split
      · rename_i hl
        obtain ⟨h1, h2, h3⟩ := hl
        cases args with
        | nil => cases h3
        | cons e es =>
          obtain ⟨a, b⟩ := all_tl hs
          refine ⟨fun pins s σ H Q I h => ?_⟩
          cases ed : cf (3 * BB) [] with
          | ok y z =>
            obtain ⟨cx, m1, k2⟩ := gx.ncl f c id na en
            obtain ⟨j, fa, fd, ps, fdT, rfl, M, hb, _, hn, hmv, F⟩ := k2 h2 y z ed
            refine (pe_mkE (fs := evEs T cf (compEs G n S (e :: es))) kx M (h1.trans hn.symm) hmv F gx.room g1 m1 hb g2 (ih.es kx sx gx hs) (fun ρ os ρ' h => ih.ln h) (star_cons a) (star_any b)).run pins s σ H Q I ?_
            have ev : evE T cf (.mk c (id + BB) (compEs G n S (e :: es))) = mkF cf c (id + BB) (evEs T cf (compEs G n S (e :: es))) := by
              funext ρ
              simp only [evE, ed]
              rfl
            rw [← ev]
            exact h
          | stuck => obtain ⟨P, ρ, Z, L, r, q⟩ := h; simp only [evE, ed] at q; exact q.elim
          | ex _ _ => obtain ⟨P, ρ, Z, L, r, q⟩ := h; simp only [evE, ed] at q; exact q.elim
      · exact pe_noE
    | none =>
    simp only
    split
    · rename_i hn
      split
      · rename_i hi
        subst hi
        split
        · rename_i a t p2
          cases ei : G.isc t with
          | some tb =>
            simp only
            split
            · rename_i ht
              obtain ⟨t1, t2, t3⟩ := glB_ok sx ht
              obtain ⟨a1, a2⟩ := all_tl hs
              exact pe_iscE kx g1 (gx.non _ hn) t1 (gx.isc t tb ei) t2 (ih.o kx sx gx) (star_cons a1)
            · exact pe_noE
          | none =>
          simp only
          cases ec : G.ncl t with
          | some cn =>
            obtain ⟨c, id, na⟩ := cn
            simp only
            split
            · rename_i ht
              obtain ⟨t1, t2, t3⟩ := glB_ok sx ht
              obtain ⟨a1, a2⟩ := all_tl hs
              obtain ⟨cx, m1, _⟩ := gx.ncl t c id na ec
              exact pe_isxE kx cx g1 (gx.non _ hn) t1 m1 t2 (ih.o kx sx gx) (star_cons a1)
            · exact pe_noE
          | none =>
          simp only
          split
          · rename_i ht
            simp only [Bool.and_eq_true] at ht
            obtain ⟨t1, t2, t3⟩ := glB_ok sx ht.1
            cases et : tabAt tyTab t with
            | none => exact pe_noE
            | some s =>
              obtain ⟨a1, a2⟩ := all_tl hs
              exact pe_isiE kx g1 (gx.non _ hn) t1 (gx.non _ ht.2) (ty_boot _ (tab_mem et)) t3 t2 (ih.o kx sx gx) (star_cons a1)
          · exact pe_noE
        · exact pe_noE
      · split
        · rename_i rp c id ex
          obtain ⟨ex1, ex2, ex3, ex4⟩ := txAt_ok ex
          obtain ⟨a, rfl⟩ := ex3
          obtain ⟨a1, a2⟩ := all_tl hs
          refine ⟨fun pins s σ H Q I h => ?_⟩
          cases ed : cf (3 * BB) [] with
          | ok y z =>
            obtain ⟨cx, k2⟩ := gx.txx rp c id ex2 ex1
            obtain ⟨j, f', fd, ps, fdT, rfl, sx', hb, _, hn', F⟩ := k2 y z ed
            have tb : f = (if rp then ("repr" : Str) else "str") := ex4
            have mem : (f, biN rp) ∈ biTab := by rw [tb]; cases rp <;> decide
            have bv : biVal (biN rp) = txtV rp := by cases rp <;> rfl
            refine (pe_ownE kx cx sx' hn' F gx.room hb (fun σ0 => by rw [← bv]; exact bi_ok kx mem σ0) g1 (gx.non _ hn) (by rw [← bv]; exact bi_boot _ mem) g3 g2 (ih.es (S := S) (es := [a]) kx sx gx hs) (star_cons a1) (star_any a2)).run pins s σ H Q I ?_
            have ev : evE T cf (.ownx rp c (id + 2 * BB) (compEs G n S [a])) = ownF cf rp c (id + 2 * BB) (evEs T cf (compEs G n S [a])) := by
              funext ρ
              simp only [evE, ed]
              rfl
            rw [← ev]
            exact h
          | stuck => obtain ⟨P, ρ, Z, L, r, q⟩ := h; simp only [evE, ed] at q; exact q.elim
          | ex _ _ => obtain ⟨P, ρ, Z, L, r, q⟩ := h; simp only [evE, ed] at q; exact q.elim
        split
        · rename_i hr3
          obtain ⟨⟨rfl, h3⟩, hrn⟩ := hr3
          unfold isR3 at h3
          split at h3
          · rename_i r p3 a b c p4
            simp only [Bool.and_eq_true, decide_eq_true_eq] at h3
            obtain ⟨rfl, h4, h5, h6, h7⟩ := h3
            have gr : Gl X "range" := by
              show X.env.scope.names.lookup ("range" : Str) = some .globalImplicit
              rw [sx.sc]
              exact h4
            exact pe_lrgE kx g1 (gx.non _ hn) gr (gx.non _ hrn) (ih.es kx sx gx (by simp [h5, h6, h7])) (star_cons h5) (star_any (by simp [h6, h7]))
          · cases h3
        cases eb : tabAt biTab f with
        | none => exact pe_noE
        | some b =>
          cases args with
          | nil => exact pe_noE
          | cons e es =>
            obtain ⟨a1, a2⟩ := all_tl hs
            exact pe_biE (biVal_kind b) (fun σ0 => bi_ok kx (tab_mem eb) σ0) g1 (gx.non _ hn) (bi_boot _ (tab_mem eb)) g3 g2 (ih.es kx sx gx hs) (star_cons a1) (star_any a2)
    · exact pe_noE
theorem rng_fn1 {a : Expr} {ρ : List Sl} (ih : OkN C T cf G n) : ((evE T cf (.rng (compEs G n S [a])) ρ).bind fun x ρ1 => R.of (itD x.2) ρ1) = ((evEs T cf (compEs G n S [a]) ρ).bind fun os ρ1 => match rsL ρ1 os with
    | some ds => R.of (rng1D ds) ρ1
    | none => .stuck) := by
  simp only [evE]
  cases h : evEs T cf (compEs G n S [a]) ρ with
  | stuck => rfl
  | ex _ _ => rfl
  | ok os ρ1 =>
    simp only [R.bind]
    have hl := ih.ln h
    match os, hl with
    | [o], _ =>
      simp only [rsL]
      cases o.rs ρ1 with
      | none => rfl
      | some d =>
        simp only [rngD]
        cases rng1D [d] <;> rfl
theorem rng_fn2 {a b : Expr} {ρ : List Sl} (ih : OkN C T cf G n) : ((evE T cf (.rng (compEs G n S [a, b])) ρ).bind fun x ρ1 => R.of (itD x.2) ρ1) = ((evEs T cf (compEs G n S [a, b]) ρ).bind fun os ρ1 => match rsL ρ1 os with
    | some ds => R.of (rng2D ds) ρ1
    | none => .stuck) := by
  simp only [evE]
  cases h : evEs T cf (compEs G n S [a, b]) ρ with
  | stuck => rfl
  | ex _ _ => rfl
  | ok os ρ1 =>
    simp only [R.bind]
    have hl := ih.ln h
    match os, hl with
    | [o, p], _ =>
      simp only [rsL]
      cases o.rs ρ1 with
      | none => rfl
      | some d =>
        cases p.rs ρ1 with
        | none => rfl
        | some e =>
          simp only [rngD]
          cases rng2D [d, e] <;> rfl
theorem rng_fn3 {a b c : Expr} {ρ : List Sl} (ih : OkN C T cf G n) : ((evE T cf (.rng (compEs G n S [a, b, c])) ρ).bind fun x ρ1 => R.of (itD x.2) ρ1) = ((evEs T cf (compEs G n S [a, b, c]) ρ).bind fun os ρ1 => match rsL ρ1 os with
    | some ds => R.of (rng3D ds) ρ1
    | none => .stuck) := by
  simp only [evE]
  cases h : evEs T cf (compEs G n S [a, b, c]) ρ with
  | stuck => rfl
  | ex _ _ => rfl
  | ok os ρ1 =>
    simp only [R.bind]
    have hl := ih.ln h
    match os, hl with
    | [o, p, q], _ =>
      simp only [rsL]
      cases o.rs ρ1 with
      | none => rfl
      | some d =>
        cases p.rs ρ1 with
        | none => rfl
        | some e =>
          cases q.rs ρ1 with
          | none => rfl
          | some f =>
            simp only [rngD]
            cases rng3D [d, e, f] <;> rfl
theorem okN_i (ih : OkN C T cf G n) (kx : Cxk X C W) (sx : Scx X S) (gx : Gcx X G C T cf k S.md) {e tg : Expr} (hs : notSet e = true) : PI X tg e (rdI C W fun ρ => (evE T cf (compI G (n + 1) S e) ρ).bind fun x ρ1 => R.of (itD x.2) ρ1) := by
  simp only [compI]
  split
  · rename_i f p a pos
    split
    · rename_i hc
      obtain ⟨rfl, hc⟩ := hc
      simp only [Bool.and_eq_true] at hc
      obtain ⟨⟨h1, h2⟩, h3⟩ := hc
      have ef : (fun ρ => (evE T cf (.rng (compEs G n S [a])) ρ).bind fun x ρ1 => R.of (itD x.2) ρ1) = _ := funext fun ρ => rng_fn1 ih
      rw [ef]
      exact pi_rng1 (glB_ok sx h1).1 (gx.non _ h2) (ih.es kx sx gx (by simp [h3])) (star_cons h3)
    · exact pi_data kx (ih.e kx sx gx)
  · rename_i f p a b pos
    split
    · rename_i hc
      obtain ⟨rfl, hc⟩ := hc
      simp only [Bool.and_eq_true] at hc
      obtain ⟨⟨⟨h1, h2⟩, h3⟩, h4⟩ := hc
      have ef : (fun ρ => (evE T cf (.rng (compEs G n S [a, b])) ρ).bind fun x ρ1 => R.of (itD x.2) ρ1) = _ := funext fun ρ => rng_fn2 ih
      rw [ef]
      exact pi_rng2 (glB_ok sx h1).1 (gx.non _ h2) (ih.es kx sx gx (by simp [h3, h4])) (by rw [star_cons h3, star_cons h4]; rfl) (star_cons h4)
    · exact pi_data kx (ih.e kx sx gx)
  · rename_i f p a b c pos
    split
    · rename_i hc
      obtain ⟨rfl, hc⟩ := hc
      simp only [Bool.and_eq_true] at hc
      obtain ⟨⟨⟨⟨h1, h2⟩, h3⟩, h4⟩, h5⟩ := hc
      have ef : (fun ρ => (evE T cf (.rng (compEs G n S [a, b, c])) ρ).bind fun x ρ1 => R.of (itD x.2) ρ1) = _ := funext fun ρ => rng_fn3 ih
      rw [ef]
      exact pi_rng3 (glB_ok sx h1).1 (gx.non _ h2) (ih.es kx sx gx (by simp [h3, h4, h5])) (star_cons h3) (star_any (by simp [h4, h5]))
    · exact pi_data kx (ih.e kx sx gx)
  · exact pi_data kx (ih.e kx sx gx)
theorem okN (C : Ct) (T : Nat → Option Fd) (cf : CF) (G : Gc) : ∀ n, OkN C T cf G n
  | 0 => okN0
  | n + 1 => by
    have ih := okN C T cf G n
    exact ⟨fun a b c => okN_e ih a b c, fun a b c => okN_o ih a b c, fun a b c => okN_t ih a b c, fun a b c d => okN_b ih a b c d, fun a b c d => okN_bt ih a b c d, fun a b c d => okN_es ih a b c d, fun a b c => okN_js ih a b c, fun a b c => okN_ks ih a b c, fun h => okN_ln ih h, fun a b c d => okN_vs ih a b c d, fun a b c => okN_p ih a b c, fun a b c d e => okN_c ih a b c d e, fun a b c d => okN_ts ih a b c d, compC_nv (n + 1), fun a b c d => okN_i ih a b c d⟩
end
end L2.T
end

section
set_option Elab.async false
set_option linter.all false
set_option maxRecDepth 100000
set_option maxHeartbeats 4000000
set_option autoImplicit false
namespace L2.T
open PySem PySem.Spec PyProof.Rows

section
variable {C : Ct} {T : Nat → Option Fd} {cf : CF} {G : Gc} {k n fuel : Nat} {X : Cx} {W : WX} {S : Sc} {mv : List Nat}
theorem notComp_sw {e : Expr} {t : Option Expr} {l : Nat} {env : Env} (h : notComp e = true) : swapsWith e t l env = pure false := by
  cases e <;> first | rfl | cases h
theorem sw_name {e : Expr} {x : Str} {p : Pos} {env : Env} : swappedStores [.Name x p] e env = pure none := rfl
/-! ### what the compiler makes of parallel stores -/
theorem names_map : ∀ {ts : List Expr} {xs : List (Str × Pos)}, namesOf ts = some xs → ts = xs.map fun y => Expr.Name y.1 y.2
  | [], _, h => by simp only [namesOf] at h; cases h; rfl
  | t :: ts, xs, h => by
    cases t <;> simp only [namesOf] at h <;> try (cases h; done)
    obtain ⟨ys, h1, rfl⟩ := Option.map_eq_some_iff.mp h
    rw [names_map h1]
    rfl
def starB : Expr → Bool
  | .Starred .. => true
  | _ => false
theorem star_not {vs : List Expr} (h : vs.all noStar = true) : vs.any starB = false := by
  rw [List.any_eq_false]
  intro x hx
  have := List.all_eq_true.mp h x hx
  cases x <;> first | (intro z; cases z; done) | cases this
def fmN (env : Env) (line : Nat) : Expr → Option Str
  | .Name id pos => if env.kindOf id == some .local && pos.line == line then some id else none
  | _ => none
theorem fm_len (env : Env) (line : Nat) : ∀ (xs : List (Str × Pos)), ((xs.map fun y => Expr.Name y.1 y.2).filterMap (fmN env line)).length = xs.length → (∀ x ∈ xs, (env.kindOf x.1 == some .local && x.2.line == line) = true) ∧ (xs.map fun y => Expr.Name y.1 y.2).filterMap (fmN env line) = xs.map (·.1)
  | [], _ => ⟨fun x hx => (by cases hx), rfl⟩
  | x :: xs, h => by
    by_cases hc : (env.kindOf x.1 == some .local && x.2.line == line) = true
    · simp only [List.map_cons, List.filterMap_cons, fmN, hc, if_true, List.length_cons, Nat.add_right_cancel_iff] at h ⊢
      obtain ⟨a, b⟩ := fm_len env line xs h
      refine ⟨fun y hy => ?_, by rw [b]⟩
      rcases List.mem_cons.mp hy with rfl | hy
      · exact hc
      · exact a y hy
    · simp only [List.map_cons, List.filterMap_cons, fmN, hc, if_false, List.length_cons] at h
      have := List.length_filterMap_le (fmN env line) (xs.map fun y => Expr.Name y.1 y.2)
      simp only [Bool.false_eq_true, if_false] at h
      rw [List.length_map] at this
      omega
theorem fm_all (env : Env) (line : Nat) : ∀ (xs : List (Str × Pos)), (∀ x ∈ xs, (env.kindOf x.1 == some .local && x.2.line == line) = true) → (xs.map fun y => Expr.Name y.1 y.2).filterMap (fmN env line) = xs.map (·.1)
  | [], _ => rfl
  | x :: xs, h => by
    have hc := h x List.mem_cons_self
    simp only [List.map_cons, List.filterMap_cons, fmN, hc, if_true]
    rw [fm_all env line xs fun y hy => h y (List.mem_cons_of_mem _ hy)]
/-- the whole decision -/
theorem swapped_eq {xs : List (Str × Pos)} {vs : List Expr} {k1 k2 : Nat} {p1 p2 : Pos} {env : Env} (hk : env.blockKind = .function) (hl : vs.length = xs.length) (hs : vs.all noStar = true) (hp : parOk S xs vs = true) (hsc : env.scope = S.sc) (hd : (xs.map (·.1)).eraseDups.length = xs.length) :
    swappedStores [.Tuple (xs.map fun y => Expr.Name y.1 y.2) k1 p1] (.Tuple vs k2 p2) env = pure none ∨ ((xs.length = 2 ∨ xs.length = 3) ∧ (∀ x ∈ xs, env.scope.names.lookup x.1 = some .local) ∧ swappedStores [.Tuple (xs.map fun y => Expr.Name y.1 y.2) k1 p1] (.Tuple vs k2 p2) env = pure (some (xs.map (·.1)))) := by
  have key : swappedStores [.Tuple (xs.map fun y => Expr.Name y.1 y.2) k1 p1] (.Tuple vs k2 p2) env = (if (!((xs.map fun y => Expr.Name y.1 y.2).length == 2 || (xs.map fun y => Expr.Name y.1 y.2).length == 3) || vs.length != (xs.map fun y => Expr.Name y.1 y.2).length || env.blockKind != .function) = true then pure none else
      if vs.any starB = true then pure none else
      if (((xs.map fun y => Expr.Name y.1 y.2).filterMap (fmN env (((xs.map fun y => Expr.Name y.1 y.2).head?.map (·.pos.line)).getD 0))).length != (xs.map fun y => Expr.Name y.1 y.2).length || ((xs.map fun y => Expr.Name y.1 y.2).filterMap (fmN env (((xs.map fun y => Expr.Name y.1 y.2).head?.map (·.pos.line)).getD 0))).eraseDups.length != ((xs.map fun y => Expr.Name y.1 y.2).filterMap (fmN env (((xs.map fun y => Expr.Name y.1 y.2).head?.map (·.pos.line)).getD 0))).length) = true then pure none else
      if vs.all (foldedForSure 8) = true then pure none else
      if vs.all (constantsAlone 8) = true then (do
        unsupported "assign.tuple-of-constant-expressions:order-of-the-stores"
        pure (some ((xs.map fun y => Expr.Name y.1 y.2).filterMap (fmN env (((xs.map fun y => Expr.Name y.1 y.2).head?.map (·.pos.line)).getD 0))))) else
      pure (some ((xs.map fun y => Expr.Name y.1 y.2).filterMap (fmN env (((xs.map fun y => Expr.Name y.1 y.2).head?.map (·.pos.line)).getD 0))))) := rfl
  rw [key]
  by_cases h1 : (!((xs.map fun y => Expr.Name y.1 y.2).length == 2 || (xs.map fun y => Expr.Name y.1 y.2).length == 3) || vs.length != (xs.map fun y => Expr.Name y.1 y.2).length || env.blockKind != .function) = true
  · exact .inl (by rw [if_pos h1])
  · rw [if_neg h1]
    rw [List.length_map] at h1
    have h1' : (xs.length == 2 || xs.length == 3) = true := by
      simp only [Bool.or_eq_true, Bool.not_eq_true', not_or, Bool.not_eq_false] at h1
      simpa using h1.1.1
    rw [if_neg (by rw [star_not hs]; exact Bool.false_ne_true)]
    by_cases h2 : (((xs.map fun y => Expr.Name y.1 y.2).filterMap (fmN env (((xs.map fun y => Expr.Name y.1 y.2).head?.map (·.pos.line)).getD 0))).length != (xs.map fun y => Expr.Name y.1 y.2).length || ((xs.map fun y => Expr.Name y.1 y.2).filterMap (fmN env (((xs.map fun y => Expr.Name y.1 y.2).head?.map (·.pos.line)).getD 0))).eraseDups.length != ((xs.map fun y => Expr.Name y.1 y.2).filterMap (fmN env (((xs.map fun y => Expr.Name y.1 y.2).head?.map (·.pos.line)).getD 0))).length) = true
    · exact .inl (by rw [if_pos h2])
    · rw [if_neg h2]
      simp only [Bool.or_eq_true, bne_iff_ne, ne_eq, not_or, Decidable.not_not] at h2
      rw [List.length_map] at h2
      obtain ⟨a, b⟩ := fm_len env _ xs h2.1
      have hsw : swapNames S xs = true := by
        unfold swapNames
        cases xs with
        | nil => simp at h1'
        | cons t r =>
          simp only [List.all_eq_true, Bool.and_eq_true, decide_eq_true_eq]
          intro x hx
          have := a x hx
          simp only [Bool.and_eq_true, beq_iff_eq] at this
          refine ⟨by rw [← hsc]; exact this.1, ?_⟩
          have h3 : x.2.line = t.2.line := this.2
          exact beq_iff_eq.mpr h3
      unfold parOk at hp
      simp only [h1', hsw, Bool.and_self, if_true, Bool.and_eq_true, Bool.or_eq_true, Bool.not_eq_true'] at hp
      by_cases h3 : vs.all (foldedForSure 8) = true
      · exact .inl (by rw [if_pos h3])
      · right
        have h4 : ¬ vs.all (constantsAlone 8) = true := by
          rcases hp.2 with z | z
          · exact absurd z h3
          · rw [z]; exact Bool.false_ne_true
        refine ⟨by simpa using h1', fun x hx => ?_, ?_⟩
        · have := a x hx
          simp only [Bool.and_eq_true, beq_iff_eq] at this
          exact this.1
        · rw [if_neg h3, if_neg h4, b]
end
end L2.T
end

section
set_option Elab.async false
set_option linter.all false
set_option maxRecDepth 100000
set_option maxHeartbeats 4000000
set_option autoImplicit false
namespace L2.T
open PySem PySem.Spec PyProof.Rows

section
variable {C : Ct} {T : Nat → Option Fd} {cf : CF} {G : Gc} {k n fuel : Nat} {X : Cx} {W : WX} {S : Sc} {mv : List Nat}
theorem ixs_at (sx : Scx X S) : ∀ {xs : List (Str × Pos)} {is : List Nat}, ixsOf S xs = some is → xs.length = is.length ∧ ∀ (j : Nat) (x : Str × Pos) (i : Nat), xs[j]? = some x → is[j]? = some i → X.N[i]? = some x.1 ∧ Loc X.env.scope x.1 ∧ (X.fn x.1 = true ∨ X.env.scope.names.lookup x.1 = some .local)
  | [], is, h => by
    simp only [ixsOf] at h
    cases h
    exact ⟨rfl, fun j x i h => by simp at h⟩
  | x :: xs, is, h => by
    simp only [ixsOf] at h
    cases h1 : locIx S x.1 with
    | none => rw [h1] at h; cases h
    | some i =>
      cases h2 : ixsOf S xs with
      | none => rw [h1, h2] at h; cases h
      | some is' =>
        rw [h1, h2] at h
        cases h
        obtain ⟨a, b⟩ := ixs_at sx h2
        refine ⟨congrArg Nat.succ a, fun j y m g1 g2 => ?_⟩
        cases j with
        | zero =>
          simp at g1 g2
          subst g1 g2
          exact locIx_ok sx h1
        | succ j => exact b j y m (by simpa using g1) (by simpa using g2)
theorem par_ok (kx : Cxk X C W) (sx : Scx X S) (kd : X.env.scope.kind = .function) {fr : List Sl → R (List (Bool × D))} {xs : List (Str × Pos)} {es : List Expr} {is : List Nat} {k1 k2 : Nat} {p1 p2 pos : Pos} (ha : PA X es (rdVs C W fr)) (hi : ixsOf S xs = some is) (hs : es.all noStar = true) (nd : is.Nodup) (hd : (xs.map (·.1)).eraseDups.length = xs.length) (hl : es.length = xs.length) (hp : parOk S xs es = true) :
    PS X (.Assign [.Tuple (xs.map fun y => Expr.Name y.1 y.2) k1 p1] (.Tuple es k2 p2) pos) (rdS C W mv fun ρ => (fr ρ).bind fun xs ρ1 => (R.of (parIn mv is xs ρ1) ρ1).bind fun ρ2 _ => .ok .nx ρ2) := by
  obtain ⟨h1, h2⟩ := ixs_at sx hi
  have bk : X.env.blockKind = .function := by
    unfold Env.blockKind
    rw [kd]
    rfl
  have h64 : xs.length ≤ 64 := by
    unfold parOk at hp
    simp only [Bool.and_eq_true, decide_eq_true_eq] at hp
    exact hp.1
  have asg : ∀ (x : Str × Pos) (r : List (Str × Pos)), (assignEach ((x :: r).map fun y => Expr.Name y.1 y.2) X.env).map (·.2) = assign (.Name x.1 x.2) X.env :: (assignEach (r.map fun y => Expr.Name y.1 y.2) X.env).map (·.2) := fun x r => rfl
  have alen : ∀ (r : List (Str × Pos)), (assignEach (r.map fun y => Expr.Name y.1 y.2) X.env).length = r.length ∧ (assignEach (r.map fun y => Expr.Name y.1 y.2) X.env).findIdx? (·.1) = none := fun r => by
    induction r with
    | nil => exact ⟨rfl, rfl⟩
    | cons x r ih =>
      have e : assignEach ((x :: r).map fun y => Expr.Name y.1 y.2) X.env = (false, assign (.Name x.1 x.2) X.env) :: assignEach (r.map fun y => Expr.Name y.1 y.2) X.env := rfl
      rw [e, List.findIdx?_cons, List.length_cons, List.length_cons, ih.1, ih.2]
      exact ⟨rfl, rfl⟩
  rcases swapped_eq (k1 := k1) (k2 := k2) (p1 := p1) (p2 := p2) bk hl hs hp sx.sc hd with hw | ⟨h23, hloc, hw⟩
  · refine ps_parT (ps_asg (pe_tup ha) (pg_tup (n := is.length) kx.calm (pgs_names (N := X.N) kx.nd h1 h2 asg) ((alen xs).1.trans h1) (alen xs).2) rfl hw rfl) fun D σ H ⟨P, ρ, Z, L, r, q⟩ => ⟨P, ρ, Z, L, r, q.mono fun ys ρ1 Z1 H1 l1 r1 q1 vs hvs => ?_⟩
    obtain ⟨a, b, c⟩ := q1 vs hvs
    refine ⟨by rw [a, ← h1, sizeLine_eq]; omega, fun p hp => ⟨p, vs, rfl, SqT.of upd_same, a, a, c p _ hp⟩⟩
  · match xs, is, es, h1, hl with
    | [x, y], [i, j], [a, b], _, _ =>
      obtain ⟨x1, x2, x3⟩ := h2 0 x i rfl rfl
      obtain ⟨y1, y2, y3⟩ := h2 1 y j rfl rfl
      have hij : i ≠ j := by
        simp only [List.nodup_cons, List.mem_cons, List.not_mem_nil, or_false] at nd
        exact nd.1
      refine ps_parT (is := [i, j]) (ps_par kx.calm kx.nd x1 y1 hij (hloc x (by simp)) (hloc y (by simp)) ha hw rfl) fun D σ H ⟨P, ρ, Z, L, r, q⟩ => ⟨P, ρ, Z, L, r, q.mono fun ys ρ1 Z1 H1 l1 r1 q1 vs hvs => ?_⟩
      obtain ⟨e1, e2, _⟩ := q1 vs hvs
      match vs, e1 with
      | [v, w], _ => exact ⟨v, w, rfl, e2⟩
    | [x, y, z], [i, j, l], [a, b, c], _, _ =>
      obtain ⟨x1, x2, x3⟩ := h2 0 x i rfl rfl
      obtain ⟨y1, y2, y3⟩ := h2 1 y j rfl rfl
      obtain ⟨z1, z2, z3⟩ := h2 2 z l rfl rfl
      simp only [List.nodup_cons, List.mem_cons, List.not_mem_nil, or_false, not_or] at nd
      refine ps_parT (is := [i, j, l]) (ps_par3 kx.calm kx.nd x1 y1 z1 nd.1.1 nd.1.2 nd.2.1 (hloc x (by simp)) (hloc y (by simp)) (hloc z (by simp)) ha hw rfl) fun D σ H ⟨P, ρ, Z, L, r, q⟩ => ⟨P, ρ, Z, L, r, q.mono fun ys ρ1 Z1 H1 l1 r1 q1 vs hvs => ?_⟩
      obtain ⟨e1, e2, _⟩ := q1 vs hvs
      match vs, e1 with
      | [u, v, w], _ => exact ⟨u, v, w, rfl, e2⟩
    | [], _, _, _, _ => simp at h23
    | [_], _, _, _, _ => simp at h23
    | _ :: _ :: _ :: _ :: _, _, _, _, _ => simp at h23
theorem compT_tup {m : Nat} {ts : List Expr} {k1 k2 : Nat} {p1 p2 : Pos} : compT m S (.Tuple ts k1 p1) = compT m S (.Tuple ts k2 p2) := by
  cases m with
  | zero => rfl
  | succ m => rfl
theorem noSwap_ok {ts : List Expr} {e : Expr} {k1 : Nat} {p1 : Pos} {env : Env} (h : noSwap ts e = true) : swappedStores [.Tuple ts k1 p1] e env = pure none := by
  cases e <;> try rfl
  rename_i vs k2 p2
  have key : swappedStores [.Tuple ts k1 p1] (.Tuple vs k2 p2) env = (if (!(ts.length == 2 || ts.length == 3) || vs.length != ts.length || env.blockKind != .function) = true then pure none else
      if vs.any starB = true then pure none else
      if ((ts.filterMap (fmN env ((ts.head?.map (·.pos.line)).getD 0))).length != ts.length || (ts.filterMap (fmN env ((ts.head?.map (·.pos.line)).getD 0))).eraseDups.length != (ts.filterMap (fmN env ((ts.head?.map (·.pos.line)).getD 0))).length) = true then pure none else
      if vs.all (foldedForSure 8) = true then pure none else
      if vs.all (constantsAlone 8) = true then (do
        unsupported "assign.tuple-of-constant-expressions:order-of-the-stores"
        pure (some (ts.filterMap (fmN env ((ts.head?.map (·.pos.line)).getD 0))))) else
      pure (some (ts.filterMap (fmN env ((ts.head?.map (·.pos.line)).getD 0))))) := rfl
  rw [key]
  by_cases h1 : (!(ts.length == 2 || ts.length == 3) || vs.length != ts.length || env.blockKind != .function) = true
  · rw [if_pos h1]
  · rw [if_neg h1]
    by_cases h2 : vs.any starB = true
    · rw [if_pos h2]
    · rw [if_neg h2]
      rw [if_pos]
      simp only [noSwap, Bool.or_eq_true] at h
      rcases h with h | h
      · rw [List.any_eq_true] at h
        obtain ⟨t, ht, hn⟩ := h
        have : (ts.filterMap (fmN env ((ts.head?.map (·.pos.line)).getD 0))).length < ts.length := by
          have le := List.length_filterMap_le (fmN env ((ts.head?.map (·.pos.line)).getD 0)) ts
          rcases Nat.lt_or_eq_of_le le with z | z
          · exact z
          · have := List.filterMap_length_eq_length.mp z t ht
            cases t <;> first | (cases hn; done) | (cases this; done)
        simp only [Bool.or_eq_true, bne_iff_ne, ne_eq]
        left
        omega
      · simp only [Bool.or_eq_true, not_or] at h1
        rcases h with h | h
        · exact absurd h h1.1.1
        · exact absurd h h1.1.2
end
end L2.T
end

section
set_option Elab.async false
set_option linter.all false
set_option maxRecDepth 100000
set_option maxHeartbeats 4000000
set_option autoImplicit false
namespace L2.T
open PySem PySem.Spec PyProof.Rows

section
variable {C : Ct} {T : Nat → Option Fd} {cf : CF} {G : Gc} {k n fuel : Nat} {X : Cx} {W : WX} {S : Sc} {mv : List Nat}
theorem asg_stuck {st : Stmt} {t : Tg} : PS X st (rdS C W mv (evS T cf fuel mv (.asg t .no))) := ⟨fun pins s σ H D I ⟨P, ρ, Z, L, pn, r, q⟩ => (show False from q).elim⟩
theorem sole_sw {t e : Expr} {l : Nat} {env : Env} (h : notComp e = true) : swapsWithSole [t] e l env = pure false := by
  show swapsWith e (some t) l env = pure false
  exact notComp_sw h
theorem asg_sub {x : Str} {p pos : Pos} {ix : Expr} {env : Env} (h : notSlice ix = true) (v : Value) : assign (.Subscript (.Name x p) ix pos) env v = (do
      let ov ← holding [v] (eval (.Name x p) env)
      let iv ← holding [v, ov] (eval ix env)
      standAt pos
      holding [v, ov, iv] (setItem ov iv v)
      release [v, ov, iv] []) := by
  cases ix <;> first | rfl | cases h
/-- x = [..] on one line -/
theorem setLc_ok (ih : OkN C T cf G n) (kx : Cxk X C W) (sx : Scx X S) (gx : Gcx X G C T cf k S.md) {x : Str} {i : Nat} {px pos spos : Pos} {elt : Expr} {gens : List Comprehension} {sc : Scope} (hi : locIx S x = some i) (hloc : X.env.scope.names.lookup x = some .local)
    (hsw : swapsWith (.ListComp elt gens sc pos) (some (.Name x px)) spos.line X.env = pure true) : PS X (.Assign [.Name x px] (.ListComp elt gens sc pos) spos) (rdS C W mv (evS T cf fuel mv (.asg (.nm i) (compE G (n + 1) S (.ListComp elt gens sc pos))))) := by
  simp only [compE]
  match gens with
  | [] => exact asg_stuck
  | _ :: _ :: _ => exact asg_stuck
  | [⟨tg, it, ifs, as⟩] =>
    simp only
    cases et : compT n (S.blk sc) tg with
    | none => exact asg_stuck
    | some t =>
      simp only
      split
      · rename_i hc
        simp only [Bool.and_eq_true, decide_eq_true_eq, List.all_eq_true] at hc
        obtain ⟨⟨h1, h2, h3⟩, h4, h5⟩ := hc
        subst h5
        obtain ⟨a, b, c⟩ := locIx_ok sx hi
        have base := ps_setLc (own := ownOf S.N sc) kx.calm kx.nd a hloc hsw (ih.i (tg := tg) kx sx gx h1) (by rw [sx.n, sx.sc]; exact blkOk_by h2) (fun s H A cl fp => (compT_ok (mv := []) (C := C) (blk_cxk kx) (blk_scx sx) n).1 et) (fun s H A cl fp => ih.ts (blk_cxk kx) (blk_scx sx) (blk_gcx gx) h4) (fun s H A cl fp => ih.e (blk_cxk kx) (blk_scx sx) (blk_gcx gx)) (notSet_ok h1)
        refine PS.imp base fun D σ H ⟨P, ρ, Z, L, pn, r, q⟩ => lc_rd (W := W) (C := C) (fun j hj => List.contains_iff_mem.mp (h3 j hj)) ⟨P, ρ, Z, L, r, (ContS.bind (σ := σ) q).mono fun y ρ1 Z1 H1 l1 r1 q1 v hv => ?_⟩
        revert q1
        simp only [asgT, asgN]
        cases hm : mv.contains i with
        | true => exact fun q1 => q1.elim
        | false => exact fun q1 => q1 _ Z1 H1 (Le.refl _) (r1.store pn hv hm)
      · exact asg_stuck
theorem asgName_ok (ih : ∀ n, OkN C T cf G n) (kx : Cxk X C W) (sx : Scx X S) (gx : Gcx X G C T cf k S.md) {x : Str} {i : Nat} {px pos : Pos} {e : Expr} (hi : locIx S x = some i) : PS X (.Assign [.Name x px] e pos) (rdS C W mv (evS T cf fuel mv (.asg (.nm i) (compE G n S e)))) := by
  obtain ⟨a, b, c⟩ := locIx_ok sx hi
  have plain : ∀ (h : swapsWith e (some (.Name x px)) pos.line X.env = pure false), PS X (.Assign [.Name x px] e pos) (rdS C W mv (evS T cf fuel mv (.asg (.nm i) (compE G n S e)))) := fun h => ps_asgT ((ih n).e kx sx gx) (pg_nmT (pg_name kx.nd a b c)) h rfl rfl
  cases n with
  | zero => exact asg_stuck
  | succ n =>
    by_cases hn : notComp e = true
    · exact plain (notComp_sw hn)
    · cases e <;> try (exact absurd rfl hn)
      case ListComp elt gens sc p =>
        have e1 : swapsWith (.ListComp elt gens sc p) (some (.Name x px)) pos.line X.env = pure (X.env.blockKind == .function && X.env.kindOf x == some .local && px.line == p.line && !(sc.names.any fun (n, k) => n == x && (k == .local || k == .cell))) := rfl
        cases hb : (X.env.blockKind == .function && X.env.kindOf x == some .local && px.line == p.line && !(sc.names.any fun (n, k) => n == x && (k == .local || k == .cell))) with
        | false => exact plain (by rw [e1, hb])
        | true =>
          have hloc : X.env.scope.names.lookup x = some .local := by
            simp only [Bool.and_eq_true, beq_iff_eq] at hb
            exact hb.1.1.2
          exact setLc_ok (ih n) kx sx gx hi hloc (by rw [e1, hb])
      case SetComp => simp only [compE]; exact asg_stuck
      case DictComp => simp only [compE]; exact asg_stuck
theorem compI_v (ih : ∀ n, OkN C T cf G n) (sx : Scx X S) {e : Expr} {i : Nat} (h : compI G n S e = .v i) : ∃ x p, e = .Name x p ∧ PE X (.Name x p) (tVar i) := by
  have ce : ∀ {m : Nat}, compE G m S e = .v i → ∃ x p, e = .Name x p ∧ PE X (.Name x p) (tVar i) := fun {m} h => by
    cases m with
    | zero => simp only [compE] at h; cases h
    | succ m => exact compE_v (ih m) sx h
  cases n with
  | zero => simp only [compI] at h; cases h
  | succ n =>
    unfold compI at h
    split at h
    · split at h
      · cases h
      · exact ce h
    · split at h
      · cases h
      · exact ce h
    · split at h
      · cases h
      · exact ce h
    · exact ce h
theorem comp_S (ih : ∀ n, OkN C T cf G n) (kx : Cxk X C W) (sx : Scx X S) (gx : Gcx X G C T cf k S.md) (kd : X.env.scope.kind = .function) (po : PassesOwn (model X.prog X.w) X.A X.env X.xe) : ∀ n, (∀ {st : Stmt}, PS X st (rdS C W mv (evS T cf fuel mv (compS G n S st)))) ∧ (∀ {ss : List Stmt}, PSs X ss (rdS C W mv (evB T cf fuel mv (compSs G n S ss))))
  | 0 => ⟨fun {st} => ps_noT, fun {ss} => ⟨fun pins s σ H D I ⟨P, ρ, Z, L, pn, r, q⟩ => (show False from q).elim⟩⟩
  | n + 1 => by
    obtain ⟨h1, h2⟩ := comp_S ih kx sx gx kd po n
    refine ⟨fun {st} => ?_, fun {ss} => ?_⟩
    · cases st <;> simp only [compS] <;> try (exact ps_noT)
      case Return v pos =>
        cases v with
        | some e => exact ps_retT ((ih n).e kx sx gx)
        | none => exact PS.imp ps_retN fun D σ H ⟨P, ρ, Z, L, pn, r, q⟩ => q σ Z H (Le.refl _) r .non Rep.non
      case Assign tgs e pos =>
        split
        · rename_i x px
          cases hi : locIx S x with
          | none => exact ps_noT
          | some i => exact asgName_ok ih kx sx gx hi
        · rename_i x px y py
          cases h1 : locIx S x with
          | none => exact ps_noT
          | some i =>
            cases h2 : locIx S y with
            | none => exact ps_noT
            | some j =>
              obtain ⟨a1, b1, c1⟩ := locIx_ok sx h1
              obtain ⟨a2, b2, c2⟩ := locIx_ok sx h2
              exact ps_asg2T ((ih n).e kx sx gx) (pg_nmT (pg_name kx.nd a1 b1 c1)) (pg_nmT (pg_name kx.nd a2 b2 c2)) rfl rfl
        · rename_i x px y py z pz
          cases h1 : locIx S x with
          | none => exact ps_noT
          | some i =>
            cases h2 : locIx S y with
            | none => exact ps_noT
            | some j =>
              cases h3 : locIx S z with
              | none => exact ps_noT
              | some l =>
                obtain ⟨a1, b1, c1⟩ := locIx_ok sx h1
                obtain ⟨a2, b2, c2⟩ := locIx_ok sx h2
                obtain ⟨a3, b3, c3⟩ := locIx_ok sx h3
                exact ps_asg3T ((ih n).e kx sx gx) (pg_nmT (pg_name kx.nd a1 b1 c1)) (pg_nmT (pg_name kx.nd a2 b2 c2)) (pg_nmT (pg_name kx.nd a3 b3 c3)) rfl rfl
        · rename_i x px f pf
          cases hi : nameIx S x with
          | none => exact ps_noT
          | some i =>
            cases hf : G.fld f with
            | none => exact ps_noT
            | some cj =>
              obtain ⟨c, j⟩ := cj
              simp only
              split
              · rename_i hc
                obtain ⟨cx, hf⟩ := gx.fld f c j hf
                exact ps_fsetT cx hf (nameIx_ok sx hi) ((ih n).o kx sx gx) (notComp_sw hc)
              · exact ps_noT
        · rename_i x px ix pi
          cases hi : nameIx S x with
          | none => exact ps_noT
          | some i =>
            simp only
            split
            · rename_i hc
              simp only [Bool.and_eq_true] at hc
              exact ps_sixT kx (nameIx_ok sx hi) ((ih n).o kx sx gx) ((ih n).o kx sx gx) (sole_sw hc.2) (fun v => asg_sub hc.1 v) rfl rfl
            · exact ps_noT
        · rename_i ts k1 p1
          split
          · rename_i xs es k2 p2 hn
            cases hi : ixsOf S xs with
            | none => exact ps_noT
            | some is =>
              simp only
              split
              · rename_i hc
                simp only [Bool.and_eq_true, decide_eq_true_eq] at hc
                obtain ⟨c1, ⟨c2, c3⟩, c4, c5⟩ := hc
                rw [names_map hn]
                exact par_ok kx sx kd ((ih n).vs kx sx gx c1) hi c1 c2 c3 c4 c5
              · exact ps_noT
          · cases ht : compT n S (.Tuple ts 0 default) with
            | none => exact ps_noT
            | some t =>
              simp only
              split
              · rename_i hc
                simp only [Bool.and_eq_true] at hc
                rw [compT_tup (k2 := k1) (p2 := p1)] at ht
                exact ps_asgT ((ih n).e kx sx gx) ((compT_ok kx sx n).1 ht) (sole_sw hc.1) (noSwap_ok hc.2) rfl
              · exact ps_noT
        · exact ps_noT
      case AugAssign tg o e pos =>
        cases tg <;> simp only <;> try (exact ps_noT)
        rename_i x px
        cases hi : locIx S x with
        | none => exact ps_noT
        | some i =>
          obtain ⟨a, b, c⟩ := locIx_ok sx hi
          exact ps_augT kx.nd a b c ((ih n).o kx sx gx)
      case For tg it body els pos =>
        cases els with
        | cons _ _ => exact ps_noT
        | nil =>
          simp only
          cases ht : compT n S tg with
          | none => exact ps_noT
          | some t =>
            simp only
            split
            · rename_i hs
              have old := ps_forT (pos := pos) kx po ((ih n).i kx sx gx hs) ((compT_ok (mv := mv) kx sx n).1 ht) (h2 (ss := body)) (notSet_ok hs)
              by_cases hv : ∃ i, compI G n S it = .v i
              · obtain ⟨i, hv⟩ := hv
                obtain ⟨x, p, rfl, hx⟩ := compI_v ih sx hv
                have := ps_forVT (pos := pos) kx po hx ((compT_ok (mv := mv) kx sx n).1 ht) (h2 (ss := body))
                rw [hv]
                exact this
              · refine PS.imp old fun D σ H ⟨P, ρ, Z, L, pn, r, q⟩ => ⟨P, ρ, Z, L, pn, r, ?_⟩
                have kv : ∀ d, keysV (compI G n S it) d = none := fun d => by
                  cases e : compI G n S it <;> first | rfl | exact absurd ⟨_, e⟩ hv
                have e : evS T cf fuel mv (.for_ t (compI G n S it) (compSs G n S body)) ρ = ((evE T cf (compI G n S it) ρ).bind fun x ρ1 => R.of (itD x.2) ρ1).bind fun ds ρ1 => forGo mv t (evB T cf fuel mv (compSs G n S body)) ds ρ1 := by
                  simp only [evS]
                  cases evE T cf (compI G n S it) ρ with
                  | stuck => rfl
                  | ex _ _ => rfl
                  | ok x ρ1 =>
                    simp only [R.bind, kv]
                rw [e] at q
                exact q
            · exact ps_noT
      case While c body els pos =>
        cases els with
        | cons _ _ => exact ps_noT
        | nil => exact ps_whlT fuel po ((ih n).t kx sx gx) h2
      case If c a b pos => exact ps_iteT ((ih n).t kx sx gx) h2 h2
      case Expr e pos =>
        split
        · rename_i hc
          exact ps_exT ((ih n).e kx sx gx) (notComp_sw hc)
        · exact ps_noT
      case Raise ex cs pos =>
        split
        · rename_i x p1 m j p2 p3
          split
          · rename_i hg
            obtain ⟨g1, g2, g3⟩ := glB_ok sx hg
            cases ec : G.exc x with
            | none => exact ps_noT
            | some c =>
              obtain ⟨m1, m2⟩ := gx.exc x c ec
              exact PS.imp (ps_raise kx.calm kx.tk (pmk_own PySem.F.excBase_ValueError m2.ex m1 m2.kp (raises_own m2.sb m2.ty) g1 g2)) fun D σ H ⟨P, ρ, Z, L, pn, r, q⟩ => q _ _ σ Z H (Le.refl _) r ⟨rfl, rfl, rfl⟩
          · exact ps_noT
        · exact ps_noT
      case Pass pos => exact ps_pasT
      case Break pos => exact ps_brkT
      case Continue pos => exact ps_cntT
    · cases ss with
      | nil => exact pss_nilT
      | cons s ss => exact pss_consT h1 h2
end

/-! ### a def -/
/-- the moved arguments and where they lie -/
def pinsOf : Nat → List Sl → List V → List (Nat × V)
  | j, .ow _ :: as, v :: vs => (j, v) :: pinsOf (j + 1) as vs
  | j, _ :: as, _ :: vs => pinsOf (j + 1) as vs
  | _, _, _ => []
theorem pinsOf_in : ∀ {as : List Sl} {vs : List V} {m j : Nat} {v : V}, (j, v) ∈ pinsOf m as vs → ∃ i d, j = m + i ∧ as[i]? = some (.ow d) ∧ vs[i]? = some v
  | [], vs, m, j, v, h => by simp [pinsOf] at h
  | a :: as, [], m, j, v, h => by cases a <;> simp [pinsOf] at h
  | a :: as, w :: vs, m, j, v, h => by
    have step : (j, v) ∈ pinsOf (m + 1) as vs → ∃ i d, j = m + i ∧ (a :: as)[i]? = some (.ow d) ∧ (w :: vs)[i]? = some v := fun h => by
      obtain ⟨i, d, e, h1, h2⟩ := pinsOf_in h
      exact ⟨i + 1, d, by omega, by simpa using h1, by simpa using h2⟩
    cases a with
    | un => exact step (by simpa only [pinsOf] using h)
    | sh d => exact step (by simpa only [pinsOf] using h)
    | ow d =>
      simp only [pinsOf, List.mem_cons, Prod.mk.injEq] at h
      rcases h with ⟨rfl, rfl⟩ | h
      · exact ⟨0, d, rfl, rfl, rfl⟩
      · exact step h
theorem in_pinsOf : ∀ {as : List Sl} {vs : List V} {m i : Nat} {d : D} {v : V}, as[i]? = some (.ow d) → vs[i]? = some v → (m + i, v) ∈ pinsOf m as vs
  | [], _, _, _, _, _, h, _ => by simp at h
  | _ :: _, [], _, _, _, _, _, h => by simp at h
  | a :: as, w :: vs, m, 0, d, v, h1, h2 => by
    simp at h1 h2
    subst h1 h2
    simp [pinsOf]
  | a :: as, w :: vs, m, i + 1, d, v, h1, h2 => by
    have := in_pinsOf (m := m + 1) (i := i) (as := as) (vs := vs) (by simpa using h1) (by simpa using h2)
    rw [show m + 1 + i = m + (i + 1) by omega] at this
    cases a <;> simp only [pinsOf]
    · exact this
    · exact this
    · exact List.mem_cons_of_mem _ this
section
variable {C : Ct} {as : List Sl} {vs : List V} {Z L H : Hp} {N : List Str}
theorem start_at (hl : vs.length ≤ N.length) {i : Nat} : (L2.start N vs)[i]? = if i < vs.length then (vs[i]?).map some else if i < N.length then some none else none := by
  unfold L2.start
  by_cases hi : i < vs.length
  · rw [if_pos hi, List.getElem?_append_left (by simpa using hi), List.getElem?_map]
  · rw [if_neg hi, List.getElem?_append_right (by simpa using hi), List.length_map, List.getElem?_replicate]
    by_cases h2 : i < N.length
    · rw [if_pos h2, if_pos (by omega)]
    · rw [if_neg h2, if_neg (by omega)]
theorem Ent.rel (e : Ent C as vs Z L H) (hl : vs.length ≤ N.length) : Rel C (pinsOf 0 as vs) (as ++ List.replicate (N.length - as.length) .un) Z L (L2.start N vs) H := by
  have len := e.ar.length
  have un : ∀ {i : Nat} {s : Sl}, (as ++ List.replicate (N.length - as.length) Sl.un)[i]? = some s → s = .un ∨ (as[i]? = some s ∧ i < vs.length) := fun {i s} h => by
    by_cases hi : i < as.length
    · rw [List.getElem?_append_left hi] at h
      exact .inr ⟨h, by omega⟩
    · rw [List.getElem?_append_right (by omega), List.getElem?_replicate] at h
      split at h
      · exact .inl (Option.some.inj h).symm
      · cases h
  have at_ : ∀ {i : Nat} {v : Option V}, i < vs.length → (L2.start N vs)[i]? = some v → ∃ u, v = some u ∧ vs[i]? = some u := fun {i v} hi h => by
    rw [start_at hl, if_pos hi] at h
    obtain ⟨u, h1, h2⟩ := Option.map_eq_some_iff.mp h
    exact ⟨u, h2.symm, h1⟩
  refine ⟨e.zh, e.lh, e.zl, ?_, fun i s v h1 h2 => ?_, fun i j d1 d2 a h1 h2 h3 h4 => ?_, fun j v h => ?_, e.tb⟩
  · unfold L2.start
    rw [List.length_append, List.length_append, List.length_replicate, List.length_replicate, List.length_map]
    omega
  · rcases un h1 with rfl | ⟨g, hi⟩
    · trivial
    · obtain ⟨u, rfl, hu⟩ := at_ hi h2
      exact e.ar.at i s u g hu
  · rcases un h1 with z | ⟨g1, i1⟩
    · cases z
    · rcases un h2 with z | ⟨g2, i2⟩
      · cases z
      · obtain ⟨u, e1, hu⟩ := at_ i1 h3
        obtain ⟨w, e2, hw⟩ := at_ i2 h4
        cases e1
        cases e2
        exact e.ar.ap i j d1 d2 a g1 g2 hu hw
  · obtain ⟨i, d, e1, h1, h2⟩ := pinsOf_in h
    rw [Nat.zero_add] at e1
    subst e1
    have hi : j < vs.length := (List.getElem?_eq_some_iff.mp h2).1
    rw [start_at hl, if_pos hi, h2]
    rfl
theorem Aft.of {ρ' : List Sl} {Z' H' : Hp} {σ' : St} {n : Nat} (hn : as.length = n) (lz : Le Z Z') (r : Rel C (pinsOf 0 as vs) ρ' Z' L σ' H') : Aft C as (ρ'.take n) vs Z L Z' H' := by
  refine ⟨lz, r.zh, r.lh, r.zl, fun j d s v h1 h2 h3 => ?_, r.tb⟩
  have hj : j < n := by rw [← hn]; exact (List.getElem?_eq_some_iff.mp h1).1
  rw [List.getElem?_take, if_pos hj] at h2
  have hp := r.pin j v (by have := in_pinsOf (m := 0) h1 h3; rwa [Nat.zero_add] at this)
  exact r.sl j s _ h2 hp
theorem RetR.of {ρ' : List Sl} {Z' H' : Hp} {σ' : St} {n : Nat} (hn : as.length = n) (r : Rel C (pinsOf 0 as vs) ρ' Z' L σ' H') {fr : Bool} {d : D} {v : V} (h : RepR C ρ' Z' L σ' H' fr d v) : RetR C as (ρ'.take n) vs Z' L H' fr d v := by
  cases fr with
  | false => exact h
  | true =>
    obtain ⟨a, rfl, o, l, na⟩ : ∃ a, v = .ref a ∧ Own C Z' H' d a ∧ L a = none ∧ ∀ (i : Nat) (e : D), ρ'[i]? = some (Sl.ow e) → σ'[i]? ≠ some (some (V.ref a)) := h
    refine ⟨a, rfl, o, l, fun j e e' h1 h2 h3 => ?_⟩
    have hj : j < n := by rw [← hn]; exact (List.getElem?_eq_some_iff.mp h1).1
    rw [List.getElem?_take, if_pos hj] at h2
    have hp := r.pin j _ (by have := in_pinsOf (m := 0) h1 h3; rwa [Nat.zero_add] at this)
    exact na j e' h2 hp
end
/-- the table of a def's code object, told -/
def TabF (mg : Str → Option Value) (base : Heap) (C : Ct) (fd : FuncData) (q : Str) : Prop := ∃ c Pt, fd.code = .ref c ∧ LamX.TabB base mg c Pt ∧ (Pt, q ++ ".<locals>." ++ "<lambda>") ∈ C.tb ∧ ∀ p ∈ C.tb, p.1 = Pt → p.2 = q ++ ".<locals>." ++ "<lambda>"
/-- a def of the module as the evaluator has it -/
structure DefT (K : PySem.W.Frag) (mg : Str → Option Value) (base : Heap) (C : Ct) (G : Gc) (m : Nat) (f : Addr) (fd : FuncData) (ps : List Str) (fdT : Fd) : Prop where
  ex : ∃ x qual params body scope dvs kws N md, FunD K x qual params body scope dvs kws f fd ∧ FnScope N ps scope ∧ fdT.n = ps.length ∧ fdT.ns = N.length ∧ ps.length ≤ N.length ∧ fdT.body = compSs G m ⟨N, scope, fun _ => true, md⟩ body ∧ (md = 0 ∨ md = 1) ∧ (md = 0 → TabF mg base C fd qual)
theorem fnG0 {Pg : Program} {w : World} {K : PySem.W.Frag} {mg : Str → Option Value} {base : Heap} {C : Ct} {f : Addr} {fd : FuncData} {ps : List Str} {fdT : Fd} {id : Nat} {T : Nat → Option Fd} {fuel : Nat} : FnG Pg w K mg base 0 f fd ps (spT C (callF T fuel 0) id fdT) :=
  ⟨fun vs H Q E ⟨as, Z, L, _, _, _, h⟩ => (by unfold callF at h; exact (show False from h).elim), fun A out s H args us vs Q E _ _ _ _ _ ⟨as, Z, L, _, _, _, h⟩ => (by unfold callF at h; exact (show False from h).elim)⟩
end L2.T
end

section
set_option Elab.async false
set_option linter.all false
set_option maxRecDepth 100000
set_option maxHeartbeats 4000000
set_option autoImplicit false
namespace L2.T
open PySem PySem.Spec PyProof.Rows

/-- a module of which one def alone is known -/
def Gw (x : Str) (w : Nat) : Gc := ⟨fun y => if y = x then some (w, 1) else none, fun _ => none, fun _ => false, fun _ => none, fun _ => none, fun _ => none, fun _ => none, fun _ => none, fun _ => none, none, fun _ => none⟩
/-- the law's way of asking, as the module has it -/
structure SaidM (K : PySem.W.Frag) (mg : Str → Option Value) (C : Ct) (G : Gc) (xs : Str) (n w : Nat) : Prop where
  ex : ∃ (a tn en xn cn wn : Str) (g : Addr) (cT : Value) (pg : Arguments) (st1 st3 : Stmt) (sg : Scope) (fd : FuncData) (hds : List ExceptHandler) (q1 q2 q3 q4 q5 q6 q7 q8 q9 q10 : Pos) (id mm : Nat),
    FunD K xs xs pg [st1, .Try [.Assign [.Name tn q1] (.Call (.Name a q2) [] [] q3) q4] (.ExceptHandler (some (.Name cn q5)) (some xn) [.Assign [.Name en q6] (.Name xn q7) q8] q9 :: hds) [] [] q10, st3] sg [] [] g fd ∧ FnScope [a, tn, en, xn] [a] sg ∧ Binds K fd [a] [] ∧
    mg xs = some (.ref g) ∧ PySem.W.keepIn K (.ref g) = true ∧ (∀ y ∈ [tn, en, xn], sg.names.lookup y = some .local) ∧ Vis sg a ∧ (∀ y ∈ [a, xn], (y == ("__debug__" : Str)) = false ∧ (y == ("__classdict__" : Str)) = false) ∧ sg.names.lookup cn = some .globalImplicit ∧ (cn == ("__debug__" : Str)) = false ∧
    G.fid wn = some (id, 1) ∧ G.fik wn = none ∧ w = id + BB ∧ compS (Gw wn w) mm ⟨[a, tn, en, xn], sg, fun _ => true, 1⟩ st1 = par1 ∧ compS (Gw wn w) mm ⟨[a, tn, en, xn], sg, fun _ => true, 1⟩ st3 = ret3 w ∧ mg cn = some cT ∧ ∀ i, i < n → PySem.W.exmOne K (.ref (C.cl i).1) cT = some true
/-- what is known of the module, for its defs at depth j -/
structure Md (Pg : Program) (w : World) (K : PySem.W.Frag) (mg : Str → Option Value) (base : Heap) (C : Ct) (G : Gc) (T : Nat → Option Fd) (m fuel : Nat) : Prop where
  hk : C.K = K
  defs : ∀ x id n, G.fid x = some (id, n) → ∃ f fd ps fdT, mg x = some (.ref f) ∧ PySem.W.keepIn K (.ref f) = true ∧ Bnd G C K x fd ps n ∧ T id = some fdT ∧ fdT.n = n ∧ DefT K mg base C G m f fd ps fdT
  ids : ∀ x id n, G.fid x = some (id, n) → id < BB ∧ T (id + BB) = T id ∧ T (id + 2 * BB) = T id
  con : ∀ x d, G.con x = some d → ∃ u v, mg x = some u ∧ RelV v u ∧ ∀ Z, Rep C Z d v
  non : ∀ x, G.non x = true → mg x = none
  exc : ∀ x c, G.exc x = some c → mg x = some (.ref (C.cl c).1) ∧ RaiseC K (C.cl c).1
  isc : ∀ x tb, G.isc x = some tb → IsX mg K C x tb
  said : ∀ x n w, G.said x = some (n, w) → SaidM K mg C G x n w
  fld : ∀ f c i, G.fld f = some (c, i) → ClsX K C c ∧ (C.cl c).2[i]? = some f
  ncl : ∀ x c id n, G.ncl x = some (c, id, n) → ClsX K C c ∧ mg x = some (.ref (C.cl c).1) ∧ ∃ f fd ps fdT, Mk K (C.cl c).1 f ∧ Binds K fd ps [] ∧ T id = some fdT ∧ fdT.n = n ∧ fdT.mv.contains 0 = true ∧ DefT K mg base C G m f fd ps fdT ∧ id < BB ∧ T (id + BB) = T id
  txx : ∀ rp c id, G.txx rp = some (c, id) → ClsX K C c ∧ ∃ f fd ps fdT, StrX K C c rp f ∧ Binds K fd ps [] ∧ T id = some fdT ∧ fdT.n = 1 ∧ DefT K mg base C G m f fd ps fdT ∧ id < BB ∧ T (id + 2 * BB) = T id
  eqx : ∀ c id, G.eqx = some (c, id) → ClsX K C c ∧ ∃ f fd ps fdT, EqX K C c f ∧ Binds K fd ps [] ∧ T id = some fdT ∧ fdT.n = 2 ∧ DefT K mg base C G m f fd ps fdT ∧ id < BB ∧ T (id + BB) = T id
section
variable {Pg : Program} {w : World} {K : PySem.W.Frag} {mg : Str → Option Value} {base : Heap} {C : Ct} {G : Gc} {T : Nat → Option Fd} {m fuel j : Nat}
/-- all defs at depth j -/
def AllG (Pg : Program) (w : World) (K : PySem.W.Frag) (mg : Str → Option Value) (base : Heap) (C : Ct) (G : Gc) (T : Nat → Option Fd) (fuel j : Nat) : Prop := ∀ x id n, G.fid x = some (id, n) → ∃ f fd ps fdT, mg x = some (.ref f) ∧ PySem.W.keepIn K (.ref f) = true ∧ Bnd G C K x fd ps n ∧ T id = some fdT ∧ fdT.n = n ∧ FnG Pg w K mg base j f fd ps (spT C (callF T fuel j) id fdT)
/-- own classes' defs at depth j -/
def AllN (Pg : Program) (w : World) (K : PySem.W.Frag) (mg : Str → Option Value) (base : Heap) (C : Ct) (G : Gc) (T : Nat → Option Fd) (fuel j : Nat) : Prop := (∀ x c id n, G.ncl x = some (c, id, n) → ∃ f fd ps fdT, Mk K (C.cl c).1 f ∧ Binds K fd ps [] ∧ T id = some fdT ∧ fdT.n = n ∧ fdT.mv.contains 0 = true ∧ FnG Pg w K mg base j f fd ps (spT C (callF T fuel j) id fdT) ∧ id < BB ∧ T (id + BB) = T id) ∧
  (∀ rp c id, G.txx rp = some (c, id) → ∃ f fd ps fdT, StrX K C c rp f ∧ Binds K fd ps [] ∧ T id = some fdT ∧ fdT.n = 1 ∧ FnG Pg w K mg base j f fd ps (spT C (callF T fuel j) id fdT) ∧ id < BB ∧ T (id + 2 * BB) = T id) ∧
  ∀ c id, G.eqx = some (c, id) → ∃ f fd ps fdT, EqX K C c f ∧ Binds K fd ps [] ∧ T id = some fdT ∧ fdT.n = 2 ∧ FnG Pg w K mg base j f fd ps (spT C (callF T fuel j) id fdT) ∧ id < BB ∧ T (id + BB) = T id
theorem sp_one {id : Nat} {fdT : Fd} (h : id < BB) : spT C (callF T fuel (j + 1)) (id + BB) fdT = spT C (callF T fuel j) id fdT := by
  unfold spT
  simp only [callF_one h]
theorem sp_two {id : Nat} {fdT : Fd} (h : id < BB) : spT C (callF T fuel (j + 2)) (id + 2 * BB) fdT = spT C (callF T fuel j) id fdT := by
  unfold spT
  simp only [callF_two h]
theorem sh2 {id : Nat} : shI 2 id = id + 2 * BB := if_pos rfl
theorem sh01 {md id : Nat} (h : md = 0 ∨ md = 1) : shI md id = id := by
  unfold shI
  rw [if_neg (by omega)]
theorem runS_of (M : Md Pg w K mg base C G T m fuel) {X : Cx} (all : AllG Pg w K mg base C G T fuel (j + 1)) (h1 : X.mg = mg) (h2 : X.K = K) (h3 : X.prog = Pg) (h4 : X.w = w) (h5 : X.base = base) {wn : Str} {id mm : Nat} {N : List Str} {sg : Scope} {st : Stmt} {e : S} (hw : G.fid wn = some (id, 1)) (hwk : G.fik wn = none) (hs : compS (Gw wn (id + BB)) mm ⟨N, sg, fun _ => true, 1⟩ st = e) :
    RunS X C T (callF T fuel (j + 2)) j N sg st e := by
  intro Y W kx n1 n2 n3 n4 n5 n6 n7 n8 hr kd po
  have gz : Gcx Y (Gw wn (id + BB)) C T (callF T fuel (j + 2)) (j + 1) 1 := by
    refine ⟨fun y id' nn h => ?_, fun y d h => (nomatch h), fun y h => (nomatch h), hr, fun y d h => (nomatch h), fun y d h => (nomatch h), fun z => (nomatch z), fun z => (nomatch z), fun z => (nomatch z), fun f c i h => (nomatch h), fun x c id n h => (nomatch h), fun rp c id h => (nomatch h), fun c id h => (nomatch h)⟩
    simp only [Gw] at h
    split at h
    · cases h
      rename_i e
      subst e
      obtain ⟨f, fd, ps, fdT, a1, a2, a3, a4, a5, a6⟩ := all _ _ _ hw
      obtain ⟨b1, b2, b3⟩ := M.ids _ _ _ hw
      refine ⟨f, fd, ps, fdT, by rw [n4, h1]; exact a1, by rw [n5, h2]; exact a2, ⟨fun _ => by rw [n5, h2]; exact a3.1 hwk, fun np shs z => (nomatch z)⟩, ?_, a5, ?_⟩
      · rw [sh01 (.inr rfl), b2]
        exact a4
      · rw [sh01 (.inr rfl), sp_one b1, n4, n5, n6, n7, n8, h1, h2, h3, h4, h5]
        exact a6
    · cases h
  have c := (comp_S (mv := [0]) (fuel := 0) (S := ⟨N, sg, fun _ => true, 1⟩) (okN C T (callF T fuel (j + 2)) (Gw wn (id + BB))) kx ⟨n1, n2, n3⟩ gz kd po mm).1 (st := st)
  rw [hs] at c
  exact c
theorem fnG_step (M : Md Pg w K mg base C G T m fuel) (all : ∀ i, i ≤ j → AllG Pg w K mg base C G T fuel i) (alln : ∀ i, i ≤ j → AllN Pg w K mg base C G T fuel i)
    {f : Addr} {fd : FuncData} {ps : List Str} {fdT : Fd} {id : Nat} (hid : id < BB) (hT : T id = some fdT) (dt : DefT K mg base C G m f fd ps fdT) : FnG Pg w K mg base (j + 1) f fd ps (spT C (callF T fuel (j + 1)) id fdT) := by
  obtain ⟨x, qual, params, body, scope, dvs, kws, N, md, F, sc, h1, h2, h3, h4, hmd, htab⟩ := dt.ex
  obtain ⟨oc, od, dV, kV, doc, pm, an, cdv0, ct, osl, hfd, lk, hcd, _, _⟩ := F.ex
  refine fn_Gc F sc hfd lk hcd (fun vs H Q E ⟨as, Z, L, e, hn, _, _⟩ => by rw [← e.ar.length, hn, h1]) fun A out s H vs Q E room gd ⟨as, Z, L, e, hn, hm, hq⟩ => ?_
  have kx : Cxk (cxOf (L2.CX Pg w) Pg w K mg base N qual scope f cdv0 A out s H E) C (fun cls dd _ H' => E cls dd H') := ⟨M.hk, sc.nd, rfl, (by have := room.un; show (A.deeper (envOfC qual scope s.heap.objs.size f cdv0)).units + 190 < cLine; omega), gd, takes_of rfl rfl rfl rfl⟩
  have sx : Scx (cxOf (L2.CX Pg w) Pg w K mg base N qual scope f cdv0 A out s H E) ⟨N, scope, fun _ => true, md⟩ := ⟨rfl, rfl, rfl⟩
  have gx : Gcx (cxOf (L2.CX Pg w) Pg w K mg base N qual scope f cdv0 A out s H E) G C T (callF T fuel j) j md := by
    refine ⟨fun y i n h => ?_, M.con, M.non, room, M.exc, M.isc, fun hm0 i hi y i' n h => ?_, fun hm0 i hi y n w' h => ?_, fun hm0 r o => callF_dep, M.fld, fun y c i n h => ⟨(M.ncl y c i n h).1, (M.ncl y c i n h).2.1, fun _ r o hd => ?_⟩, fun rp c i h _ => ⟨(M.txx rp c i h).1, fun r o hd => ?_⟩, fun c i h _ => ⟨(M.eqx c i h).1, fun r o hd => ?_⟩⟩
    · rw [sh01 hmd]
      exact all j (Nat.le_refl _) y i n h
    · subst hi
      obtain ⟨f, fd, ps, fdT, a1, a2, a3, a4, a5, a6⟩ := all i (by omega) y i' n h
      obtain ⟨b1, b2, b3⟩ := M.ids _ _ _ h
      exact ⟨f, fd, ps, fdT, a1, a2, a3, by rw [sh2, b3]; exact a4, a5, by rw [sh2, sp_two b1]; exact a6⟩
    · subst hi
      obtain ⟨a, tn, en, xn, cn, wn, g, cT, pg, st1, st3, sg, fdS, hds, q1, q2, q3, q4, q5, q6, q7, q8, q9, q10, ids, mm, k1, k2, k3, k4, k5, k6, k7, k8, k9, k10, k11, k12, rfl, k13, k14, k15, k16⟩ := (M.said y n w' h).ex
      obtain ⟨c, Pt, t1, t2, t3, t4⟩ := htab hm0
      obtain ⟨f', fd', ps', fdT', a1, a2, a3, a4, a5, a6⟩ := all (i + 1) (by omega) wn ids 1 k11
      obtain ⟨b1, b2, b3⟩ := M.ids _ _ _ k11
      refine ⟨a, tn, en, xn, cn, g, c, Pt, cT, pg, st1, st3, sg, fdS, hds, q1, q2, q3, q4, q5, q6, q7, q8, q9, q10, k1, k2, k3, k4, k5, k6, k7, k8, k9, k10, ⟨fdT', by rw [b2]; exact a4⟩, runS_of M (all (i + 1) (by omega)) rfl rfl rfl rfl rfl k11 k12 k13, runS_of M (all (i + 1) (by omega)) rfl rfl rfl rfl rfl k11 k12 k14, k15, k16, t2, ?_, t3, t4⟩
      have e1 : fd.code = cdv0 := by rw [hfd]
      rw [e1] at t1
      exact t1
    · have h2 := callF_dep hd
      obtain ⟨i', rfl⟩ : ∃ i', j = i' + 1 := ⟨j - 1, by omega⟩
      obtain ⟨f, fd, ps, fdT, a1, a2, a3, a4, a5, a6, a7, a8⟩ := (alln i' (by omega)).1 y c i n h
      exact ⟨i', f, fd, ps, fdT, rfl, a1, a2, by rw [a8]; exact a3, a4, a5, by rw [sp_one a7]; exact a6⟩
    · have h2 := callF_dep hd
      obtain ⟨i', rfl⟩ : ∃ i', j = i' + 2 := ⟨j - 2, by omega⟩
      obtain ⟨f, fd, ps, fdT, a1, a2, a3, a4, a6, a7, a8⟩ := (alln i' (by omega)).2.1 rp c i h
      exact ⟨i', f, fd, ps, fdT, rfl, a1, a2, by rw [a8]; exact a3, a4, by rw [sp_two a7]; exact a6⟩
    · have h2 := callF_dep hd
      obtain ⟨i', rfl⟩ : ∃ i', j = i' + 1 := ⟨j - 1, by omega⟩
      obtain ⟨f, fd, ps, fdT, a1, a2, a3, a4, a6, a7, a8⟩ := (alln i' (by omega)).2.2 c i h
      exact ⟨i', f, fd, ps, fdT, rfl, a1, a2, by rw [a8]; exact a3, a4, by rw [sp_one a7]; exact a6⟩
  have po : PassesOwn (model Pg w) (cxOf (L2.CX Pg w) Pg w K mg base N qual scope f cdv0 A out s H E).A (cxOf (L2.CX Pg w) Pg w K mg base N qual scope f cdv0 A out s H E).env (cxOf (L2.CX Pg w) Pg w K mg base N qual scope f cdv0 A out s H E).xe := passes_of (X := cxOf (L2.CX Pg w) Pg w K mg base N qual scope f cdv0 A out s H E) (K := fun e s'' => L2.CX Pg w out H s E e s'') rfl
  have lv : vs.length ≤ N.length := by rw [← e.ar.length, hn, h1]; exact h3
  refine ⟨_, (comp_S (mv := fdT.mv) (fuel := fuel) (okN C T (callF T fuel j) G) kx sx gx sc.kind po m).2, pinsOf 0 as vs, _, Z, L, fun i v hi => ?_, e.rel lv, ?_⟩
  · obtain ⟨i', d, e1, a1, a2⟩ := pinsOf_in hi
    rw [Nat.zero_add] at e1
    subst e1
    exact hm i d a1
  · have hq : (callF T fuel (j + 1) id as).wp _ _ := hq
    rw [callF_run hid] at hq
    unfold runF at hq
    rw [hT] at hq
    simp only [hn, if_true] at hq
    rw [h4, h2, h1] at hq
    have ea : N.length - as.length = N.length - ps.length := by rw [hn, h1]
    rw [ea]
    have hn' : as.length = ps.length := hn.trans h1
    revert hq
    cases eb : evB T (callF T fuel j) fuel fdT.mv (compSs G m ⟨N, scope, fun _ => true, md⟩ body) (as ++ List.replicate (N.length - ps.length) Sl.un) with
    | stuck => exact fun hq => hq
    | ex y ρ' => exact fun hq cls dd σ' Z' H' lz r hx => hq cls dd H' Z' (Aft.of hn' lz r) hx
    | ok fl ρ' =>
      cases fl with
      | nx => exact fun hq σ' Z' H' lz r => hq .non H' Z' (Aft.of hn' lz r) Rep.non
      | rt fr d => exact fun hq σ' Z' H' lz r v hv => hq v H' Z' (Aft.of hn' lz r) (RetR.of hn' r hv)
      | bk => exact fun hq => hq.elim
      | ct => exact fun hq => hq.elim
theorem fnG_upto (M : Md Pg w K mg base C G T m fuel) : ∀ j i, i ≤ j → AllG Pg w K mg base C G T fuel i ∧ AllN Pg w K mg base C G T fuel i
  | 0, i, hi => by
    have e : i = 0 := by omega
    subst e
    refine ⟨fun x id n h => ?_, fun x c id n h => ?_, fun rp c id h => ?_, fun c id h => ?_⟩
    · obtain ⟨f, fd, ps, fdT, a, b, c, d, e, g⟩ := M.defs x id n h
      exact ⟨f, fd, ps, fdT, a, b, c, d, e, fnG0⟩
    · obtain ⟨_, _, f, fd, ps, fdT, a1, a2, a3, a4, a5, a6, a7, a8⟩ := M.ncl x c id n h
      exact ⟨f, fd, ps, fdT, a1, a2, a3, a4, a5, fnG0, a7, a8⟩
    · obtain ⟨_, f, fd, ps, fdT, a1, a2, a3, a4, a6, a7, a8⟩ := M.txx rp c id h
      exact ⟨f, fd, ps, fdT, a1, a2, a3, a4, fnG0, a7, a8⟩
    · obtain ⟨_, f, fd, ps, fdT, a1, a2, a3, a4, a6, a7, a8⟩ := M.eqx c id h
      exact ⟨f, fd, ps, fdT, a1, a2, a3, a4, fnG0, a7, a8⟩
  | j + 1, i, hi => by
    by_cases hij : i ≤ j
    · exact fnG_upto M j i hij
    · have e : i = j + 1 := by omega
      subst e
      have up := fun i hi => fnG_upto M j i hi
      refine ⟨fun x id n h => ?_, fun x c id n h => ?_, fun rp c id h => ?_, fun c id h => ?_⟩
      · obtain ⟨f, fd, ps, fdT, a, b, c, d, e, g⟩ := M.defs x id n h
        exact ⟨f, fd, ps, fdT, a, b, c, d, e, fnG_step M (fun i hi => (up i hi).1) (fun i hi => (up i hi).2) (M.ids x id n h).1 d g⟩
      · obtain ⟨_, _, f, fd, ps, fdT, a1, a2, a3, a4, a5, a6, a7, a8⟩ := M.ncl x c id n h
        exact ⟨f, fd, ps, fdT, a1, a2, a3, a4, a5, fnG_step M (fun i hi => (up i hi).1) (fun i hi => (up i hi).2) a7 a3 a6, a7, a8⟩
      · obtain ⟨_, f, fd, ps, fdT, a1, a2, a3, a4, a6, a7, a8⟩ := M.txx rp c id h
        exact ⟨f, fd, ps, fdT, a1, a2, a3, a4, fnG_step M (fun i hi => (up i hi).1) (fun i hi => (up i hi).2) a7 a3 a6, a7, a8⟩
      · obtain ⟨_, f, fd, ps, fdT, a1, a2, a3, a4, a6, a7, a8⟩ := M.eqx c id h
        exact ⟨f, fd, ps, fdT, a1, a2, a3, a4, fnG_step M (fun i hi => (up i hi).1) (fun i hi => (up i hi).2) a7 a3 a6, a7, a8⟩
theorem fnG_all (M : Md Pg w K mg base C G T m fuel) (j : Nat) : AllG Pg w K mg base C G T fuel j := (fnG_upto M j j (Nat.le_refl j)).1
end
end L2.T
end

section
set_option Elab.async false
set_option linter.all false
set_option maxRecDepth 100000
set_option maxHeartbeats 4000000
set_option autoImplicit false
namespace L2.T
open PySem PySem.Spec PyProof.Rows

/-! ### constants of the module -/
mutual
def repK (K : PySem.W.Frag) : D → Value → Bool
  | .non, .none => true
  | .bl b, .bool c => b == c
  | .int i, .int j _ => decide (i = j)
  | .str x, .str y _ => decide (x = y)
  | .tup ds, .ref a => (match K.lookup a with
    | some ⟨.type c, _, .seq its _, _⟩ => decide (c = "tuple") && (decide (its.size ≤ sizeLine) && repsK K ds its.toList)
    | _ => false)
  | _, _ => false
def repsK (K : PySem.W.Frag) : List D → List Value → Bool
  | [], [] => true
  | d :: ds, u :: us => repK K d u && repsK K ds us
  | _, _ => false
end
mutual
theorem repK_ok {C : Ct} {K : PySem.W.Frag} (hk : C.K = K) : ∀ {d : D} {u : Value}, repK K d u = true → ∃ v, RelV v u ∧ ∀ Z, Rep C Z d v
  | .non, u, h => by
    cases u <;> simp only [repK] at h <;> try (cases h; done)
    exact ⟨.non, rfl, fun Z => .non⟩
  | .bl b, u, h => by
    cases u <;> simp only [repK] at h <;> try (cases h; done)
    rw [eq_of_beq h]
    exact ⟨.bl _, rfl, fun Z => .bl _⟩
  | .int i, u, h => by
    cases u <;> simp only [repK] at h <;> try (cases h; done)
    rw [of_decide_eq_true h]
    exact ⟨.int _, ⟨_, rfl⟩, fun Z => .int _⟩
  | .str i, u, h => by
    cases u <;> simp only [repK] at h <;> try (cases h; done)
    rw [of_decide_eq_true h]
    exact ⟨.str _, ⟨_, rfl⟩, fun Z => .str _⟩
  | .tup ds, u, h => by
    cases u <;> simp only [repK] at h <;> try (cases h; done)
    rename_i a
    split at h
    · rename_i c od its n sl e
      simp only [Bool.and_eq_true, decide_eq_true_eq] at h
      obtain ⟨h1, h2, h3⟩ := h
      obtain ⟨vs, hv, hr⟩ := repsK_ok hk h3
      exact ⟨.ref a, rfl, fun Z => .tup (.inr ⟨_, its, n, by rw [hk]; exact e, congrArg Value.type h1, rfl, h2, hv⟩) (hr Z)⟩
    · cases h
  | .lst _, u, h => by cases u <;> cases h
  | .dk _, u, h => by cases u <;> cases h
  | .dt _, u, h => by cases u <;> cases h
  | .ins _ _, u, h => by cases u <;> cases h
  | .ty _, u, h => by cases u <;> cases h
  | .scr _, u, h => by cases u <;> cases h
  | .exc _, u, h => by cases u <;> cases h
theorem repsK_ok {C : Ct} {K : PySem.W.Frag} (hk : C.K = K) : ∀ {ds : List D} {us : List Value}, repsK K ds us = true → ∃ vs, Vals vs us ∧ ∀ Z, Reps C Z ds vs
  | [], [], _ => ⟨[], .nil, fun Z => .nil⟩
  | [], _ :: _, h => by simp only [repsK] at h; cases h
  | _ :: _, [], h => by simp only [repsK] at h; cases h
  | d :: ds, u :: us, h => by
    simp only [repsK, Bool.and_eq_true] at h
    obtain ⟨v, h1, h2⟩ := repK_ok hk h.1
    obtain ⟨vs, h3, h4⟩ := repsK_ok hk h.2
    exact ⟨v :: vs, .cons h1 h3, fun Z => .cons (h2 Z) (h4 Z)⟩
end
/-- the module's name x stands for d -/
def conB (K : PySem.W.Frag) (x : Str) (d : D) : Bool := match PySem.W.nsIn K mainGlobals x with
  | some (some u) => repK K d u
  | _ => false
theorem conB_ok {C : Ct} {K : PySem.W.Frag} (hk : C.K = K) {h : Heap} {mg : Str → Option Value} (X : K.In h) (Gn : h.Ns mainGlobals mg) {x : Str} {d : D} (c : conB K x d = true) : ∃ u v, mg x = some u ∧ RelV v u ∧ ∀ Z, Rep C Z d v := by
  unfold conB at c
  split at c
  · rename_i u e
    obtain ⟨v, h1, h2⟩ := repK_ok hk c
    exact ⟨u, v, PySem.W.mg_of X Gn e, h1, h2⟩
  · cases c

/-! ### what the head looks at -/
structure Vd where
  K : PySem.W.Frag
abbrev AlT : Type := Bool × List He.FnW
def obsT (chk : PySem.W.Frag → Bool) (fn : List He.DefD) (K : PySem.W.Frag) : AlT := (chk K && fn.all fun d => d.ok K, fn.map fun d => He.fnW K d.at_)
def valT (fn : List He.DefD) : AlT := (true, fn.map He.DefD.val)
def obsTG (n : Nat) (chk : PySem.W.Frag → Bool) (fn : List He.DefD) (g : Addr → Option Obj) : AlT := obsT chk fn (He.frG g (He.asD g n))
def hookT (n : Nat) (chk : PySem.W.Frag → Bool) (fn : List He.DefD) : PySem.W.Hook where
  α := AlT
  obs := fun s => obsTG n chk fn s.heap.get?
  val := fun _ => valT fn
  says := fun _ h => ∃ K : PySem.W.Frag, K.In h ∧ obsT chk fn K = valT fn
  of := fun _ _ e => ⟨_, He.frG_in, e⟩
  keeps := fun _ _ _ ⟨K, hK, c⟩ k => ⟨K, PySem.W.Frag.In.keeps hK k, c⟩
theorem obsTG_eq {n : Nat} {chk : PySem.W.Frag → Bool} {fn : List He.DefD} {g : Addr → Option Obj} {s : Shared} (h : ∀ a, g a = s.heap.get? a) : obsTG n chk fn g = (hookT n chk fn).obs s := by
  have e : g = s.heap.get? := funext h
  subst e
  rfl
theorem obsT_chk {chk : PySem.W.Frag → Bool} {fn : List He.DefD} {K : PySem.W.Frag} (c : obsT chk fn K = valT fn) : chk K = true := by
  have c1 : (chk K && fn.all fun d => d.ok K) = true := congrArg (fun z : AlT => z.1) c
  exact (Bool.and_eq_true_iff.mp c1).1
theorem obsT_def {chk : PySem.W.Frag → Bool} {fn : List He.DefD} {K : PySem.W.Frag} (c : obsT chk fn K = valT fn) {i : Nat} {d : He.DefD} (h : fn[i]? = some d) : ∃ fd, FunD K d.name d.qual d.params d.body d.scope (d.dvs K) (d.kws K) (He.fAd K d.at_) fd := by
  have c1 : (chk K && fn.all fun d => d.ok K) = true := congrArg (fun z : AlT => z.1) c
  have c2 : fn.map (fun d => He.fnW K d.at_) = fn.map He.DefD.val := congrArg (fun z : AlT => z.2) c
  have c3 : (fn.map fun d => He.fnW K d.at_)[i]? = (fn.map He.DefD.val)[i]? := by rw [c2]
  rw [List.getElem?_map, List.getElem?_map, h] at c3
  exact He.DefD.funD (Option.some.inj c3) (List.all_eq_true.mp (Bool.and_eq_true_iff.mp c1).2 d (List.mem_of_getElem? h))

/-! ### a law's defs as rows -/
structure Rw where
  /-- the global name -/
  x : Str
  /-- the def's own name -/
  fn : Str
  params : Arguments
  body : List Stmt
  scope : Scope
  ps : List Str
  N : List Str
  fd : Fd
  md : Nat
  /-- the defaults of parameters by keyword alone -/
  kd : List (Str × He.Dv) := []
def Rw.d (r : Rw) : He.DefD := ⟨(r.x, none), r.fn, r.fn, r.params, r.body, r.scope, [], r.kd⟩
/-- a method of an own class -/
structure Mw where
  row : Rw
  c : Str
  m : Str
def Mw.d (w : Mw) : He.DefD := ⟨(w.c, some w.m), w.m, w.row.x, w.row.params, w.row.body, w.row.scope, [], []⟩
/-- an own class: its name, its fields, how many __init__ takes, where __init__ and __eq__ stand among the methods -/
structure Oc where
  nm : Str
  fs : List Str
  n : Nat
  ini : Nat
  eq : Option Nat
  /-- where __str__ and __repr__ stand -/
  st : Option Nat
  rp : Option Nat
def Oc.tx (o : Oc) (rp : Bool) : Option Nat := if rp then o.rp else o.st
def txS (rp : Bool) : Str := if rp then "__repr__" else "__str__"
/-- the values at places -/
def pk {α : Type} (pl : List Nat) (xs : List α) : List α := pl.filterMap fun i => xs[i]?
def dvD : He.Dv → Option D
  | .non => some .non
  | .bl b => some (.bl b)
  | .int i => some (.int i)
  | .str x => some (.str x)
  | _ => none
/-- the order of the parameters: places below m are written, the others are defaults -/
def pmOf (m : Nat) (ms : List (Str × He.Dv)) : List Nat → Option (List (Sum Nat D))
  | [] => some []
  | i :: pl => if i < m then (pmOf m ms pl).map (.inl i :: ·) else (match ms[i - m]?, pmOf m ms pl with
    | some q, some r => (dvD q.2).map fun d => .inr d :: r
    | _, _ => none)
structure KwW (r : Rw) (np : Nat) (ks : List Str) (pm : List (Sum Nat D)) (ms : List (Str × He.Dv)) (pl : List Nat) : Prop where
  hp : pmOf (np + ks.length) ms pl = some pm
  hm : ∀ q ∈ ms, q ∈ r.kd
  h : (r.kd = [] ∧ ms = [] ∧ ∀ (kV doc pm : Value) (an : Option Addr) (cdv ct : Value) (us ws : List Value), us.length = np → ws.length = ks.length → bindArgs (PySem.W.fnOf r.fn r.fn r.params r.body r.scope .none kV doc pm an cdv ct) ⟨us, ks.zip ws⟩ = pure (r.ps.zip (pk pl (us ++ ws ++ [])))) ∨
    (r.kd ≠ [] ∧ ∀ (D : Addr) (doc pm : Value) (an : Option Addr) (cdv ct : Value) (us mv ws : List Value), us.length = np → mv.length = ms.length → ws.length = ks.length → KwChain D ((ms.map (·.1)).zip mv) (bindArgs (PySem.W.fnOf r.fn r.fn r.params r.body r.scope .none (.ref D) doc pm an cdv ct) ⟨us, ks.zip ws⟩) (r.ps.zip (pk pl (us ++ ws ++ mv))))
theorem vals_at {vs : List V} {us : List Value} (h : Vals vs us) : ∀ i : Nat, (vs[i]? = none ∧ us[i]? = none) ∨ ∃ v u, vs[i]? = some v ∧ us[i]? = some u ∧ RelV v u := by
  induction h with
  | nil => exact fun i => .inl ⟨by simp, by simp⟩
  | @cons v u vs us q r ih =>
    intro i
    cases i with
    | zero => exact .inr ⟨v, u, rfl, rfl, q⟩
    | succ i => simpa using ih i
theorem vals_pk {vs : List V} {us : List Value} (h : Vals vs us) : ∀ pl : List Nat, Vals (pk pl vs) (pk pl us)
  | [] => .nil
  | i :: pl => by
    rcases vals_at h i with ⟨a, b⟩ | ⟨v, u, a, b, c⟩
    · unfold pk
      rw [List.filterMap_cons_none a, List.filterMap_cons_none b]
      exact vals_pk h pl
    · unfold pk
      rw [List.filterMap_cons_some a, List.filterMap_cons_some b]
      exact .cons c (vals_pk h pl)
theorem vals_app {vs zs : List V} {us ws : List Value} (h : Vals vs us) (g : Vals zs ws) : Vals (vs ++ zs) (us ++ ws) := by
  induction h with
  | nil => exact g
  | cons q r ih => exact .cons q ih
theorem dvD_ok {C : Ct} {K : PySem.W.Frag} {Z : Hp} : ∀ {v : He.Dv} {d : D}, dvD v = some d → Rep C Z d (v.v K)
  | .non, _, e => by cases e; exact .non
  | .bl b, _, e => by cases e; exact .bl b
  | .int i, _, e => by cases e; exact .int i
  | .str x, _, e => by cases e; exact .str x
  | .byt _, _, e => by cases e
  | .flt _, _, e => by cases e
  | .ty _, _, e => by cases e
  | .glo _, _, e => by cases e
  | .adr _, _, e => by cases e
theorem pmOf_ok {C : Ct} {K : PySem.W.Frag} {Z : Hp} {m : Nat} {ms : List (Str × He.Dv)} {xs : List V} (hx : xs.length = m) : ∀ {pl : List Nat} {pm : List (Sum Nat D)}, pmOf m ms pl = some pm → PmV C Z pm xs (pk pl (xs ++ (ms.map fun q => q.2.v K)))
  | [], _, e => by cases e; exact .nil
  | i :: pl, pm, e => by
    unfold pmOf at e
    split at e
    · rename_i hi
      obtain ⟨r, er, e2⟩ := Option.map_eq_some_iff.mp e
      cases e2
      have h1 : xs[i]? = some xs[i] := List.getElem?_eq_getElem (by omega)
      have h2 : (xs ++ (ms.map fun q => q.2.v K))[i]? = some xs[i] := by rw [List.getElem?_append_left (by omega), h1]
      unfold pk
      rw [List.filterMap_cons_some h2]
      exact .ix h1 (pmOf_ok hx er)
    · rename_i hi
      split at e
      · rename_i q r eq er
        obtain ⟨d, ed, e2⟩ := Option.map_eq_some_iff.mp e
        cases e2
        have h2 : (xs ++ (ms.map fun q => q.2.v K))[i]? = some (q.2.v K) := by
          rw [List.getElem?_append_right (by omega), hx, List.getElem?_map, eq]
          rfl
        unfold pk
        rw [List.filterMap_cons_some h2]
        exact .cn (dvD_ok ed) (pmOf_ok hx er)
      · cases e
theorem kwW_ok {C : Ct} {K : PySem.W.Frag} {r : Rw} {np : Nat} {ks : List Str} {pm : List (Sum Nat D)} {ms : List (Str × He.Dv)} {pl : List Nat} {f : Addr} {fd : FuncData} (w : KwW r np ks pm ms pl) (F : FunD K r.fn r.fn r.params r.body r.scope [] (r.d.kws K) f fd) : KwB C K fd r.ps np ks pm := by
  rcases w.h with ⟨h1, h2, h3⟩ | ⟨h1, h3⟩
  · refine ⟨fun us ws => pk pl (us ++ ws ++ []), fun vs zs => pk pl (vs ++ zs ++ []), ⟨fun s us ws X l1 l2 => ?_, fun a b => vals_pk (vals_app (vals_app a b) .nil) pl⟩, fun Z vs zs l1 l2 => ?_⟩
    · obtain ⟨oc, od, dV, kV, doc, pm', an, cdv, ct, osl, rfl, lk, hcd, hD, hK⟩ := F.ex
      rcases hD with ⟨_, rfl⟩ | ⟨e, _⟩
      · exact .of_eq (h3 kV doc pm' an cdv ct us ws l1 l2)
      · exact absurd rfl e
    · have := pmOf_ok (C := C) (K := K) (Z := Z) (m := np + ks.length) (ms := ms) (xs := vs ++ zs) (by rw [List.length_append, l1, l2]) w.hp
      rw [h2] at this
      exact this
  · obtain ⟨mv, kb⟩ := F.kbinds0 (ps := r.ps) np ks (ms.map fun q => (q.1, q.2.v K)) (fun us mv ws => pk pl (us ++ ws ++ mv)) (fun z => h1 (List.map_eq_nil_iff.mp z)) (fun q hq => by
      obtain ⟨q', hq', rfl⟩ := List.mem_map.mp hq
      exact List.mem_map.mpr ⟨q', w.hm q' hq', rfl⟩) (fun a b c => vals_pk (vals_app (vals_app a c) b) pl) (fun D doc pm' an cdv ct us mv ws l1 l2 l3 => by
      have := h3 D doc pm' an cdv ct us mv ws l1 (by rw [l2, List.length_map]) l3
      rw [List.map_map]
      exact this)
    refine ⟨_, _, kb, fun Z vs zs l1 l2 => ?_⟩
    have := pmOf_ok (C := C) (K := K) (Z := Z) (m := np + ks.length) (ms := ms) (xs := vs ++ zs) (by rw [List.length_append, l1, l2]) w.hp
    rw [List.map_map]
    exact this
def scB (N ps : List Str) (sc : Scope) : Bool := decide (sc.kind = .function) && ((!sc.isCoroutine && !sc.isGenerator) && (decide N.Nodup && (decide (N.take ps.length = ps) && ((ps.all fun x => decide (sc.names.lookup x = some .local) || decide (sc.names.lookup x = some .cell)) && sc.names.all fun y => !decide (y.2 = .free)))))
theorem scB_ok {N ps : List Str} {sc : Scope} (h : scB N ps sc = true) : FnScope N ps sc := by
  unfold scB at h
  simp only [Bool.and_eq_true, Bool.or_eq_true, decide_eq_true_eq, List.all_eq_true, Bool.not_eq_true', decide_eq_false_iff_not] at h
  obtain ⟨h1, ⟨h2, h3⟩, h4, h5, h6, h7⟩ := h
  exact ⟨h1, h2, h3, h4, h5, h6, h7⟩
structure RwOk (G : Gc) (m : Nat) (r : Rw) : Prop where
  sc : scB r.N r.ps r.scope = true
  n : r.fd.n = r.ps.length
  ns : r.fd.ns = r.N.length
  le : r.ps.length ≤ r.N.length
  body : r.fd.body = compSs G m ⟨r.N, r.scope, fun _ => true, r.md⟩ r.body
  md : r.md = 0 ∨ r.md = 1
  kwb : ∀ np shs, G.fik r.x = some (np, shs) → ∀ s ∈ shs, s.2.length = r.ps.length ∧ ∃ ms pl, KwW r np s.1 s.2 ms pl
  bind : G.fik r.x = none → ∀ (kV doc pm : Value) (an : Option Addr) (cdv ct : Value) (us : List Value), us.length = r.ps.length → bindArgs (PySem.W.fnOf r.fn r.fn r.params r.body r.scope .none kV doc pm an cdv ct) ⟨us, []⟩ = pure (r.ps.zip us)
structure MwOk (G : Gc) (m : Nat) (w : Mw) : Prop where
  sc : scB w.row.N w.row.ps w.row.scope = true
  n : w.row.fd.n = w.row.ps.length
  ns : w.row.fd.ns = w.row.N.length
  le : w.row.ps.length ≤ w.row.N.length
  body : w.row.fd.body = compSs G m ⟨w.row.N, w.row.scope, fun _ => true, 1⟩ w.row.body
  bind : ∀ (kV doc pm : Value) (an : Option Addr) (cdv ct : Value) (us : List Value), us.length = w.row.ps.length → bindArgs (PySem.W.fnOf w.m w.row.x w.row.params w.row.body w.row.scope .none kV doc pm an cdv ct) ⟨us, []⟩ = pure (w.row.ps.zip us)
theorem kwb_none {G : Gc} {r : Rw} (h : G.fik r.x = none) : ∀ np shs, G.fik r.x = some (np, shs) → ∀ s ∈ shs, s.2.length = r.ps.length ∧ ∃ ms pl, KwW r np s.1 s.2 ms pl := fun np shs e => by rw [h] at e; cases e
theorem kwb_some {G : Gc} {r : Rw} {np0 : Nat} {shs0 : List (List Str × List (Sum Nat D))} (h : G.fik r.x = some (np0, shs0)) (hs : ∀ s ∈ shs0, s.2.length = r.ps.length ∧ ∃ ms pl, KwW r np0 s.1 s.2 ms pl) : ∀ np shs, G.fik r.x = some (np, shs) → ∀ s ∈ shs, s.2.length = r.ps.length ∧ ∃ ms pl, KwW r np s.1 s.2 ms pl := fun np shs e => by
  rw [h] at e
  cases e
  exact hs
theorem bind_some {G : Gc} {x : Str} {v : Nat × List (List Str × List (Sum Nat D))} {P : Prop} (h : G.fik x = some v) : G.fik x = none → P := fun e => by rw [h] at e; cases e
def getOf {α : Type} : List (Str × α) → Str → Option α
  | [], _ => none
  | p :: ps, x => if p.1 = x then some p.2 else getOf ps x
theorem getOf_mem {α : Type} : ∀ {cs : List (Str × α)} {x : Str} {d : α}, getOf cs x = some d → (x, d) ∈ cs
  | [], _, _, h => by cases h
  | p :: ps, x, d, h => by
    simp only [getOf] at h
    split at h
    · rename_i e
      cases h
      rw [← e]
      exact List.mem_cons_self
    · exact List.mem_cons_of_mem _ (getOf_mem h)
def nonOf (ns : List Str) (x : Str) : Bool := ns.any fun y => decide (y = x)
/-- what a law's module holds beside its defs -/
structure Mt where
  cs : List (Str × D)
  ns : List Str
  /-- the classes of errors that are raised, in their order -/
  cl : List Str
  /-- own classes asked by isinstance, built-in ones -/
  io : List (Str × List Bool)
  ib : List (Str × String × List Bool)
  /-- the law's way of asking: its name, the number of the def that tells the word, the class that it catches -/
  sd : List (Str × (Nat × Nat))
  ct : Str
  /-- the defs that hold lambdas -/
  tn : List Str
  /-- defs with parameters by keyword alone: how many values are written by place, and how they are called -/
  fk : List (Str × (Nat × List (List Str × List (Sum Nat D)))) := []
  /-- own classes -/
  oc : List Oc := []
def ixN? : List Str → Nat → Str → Option Nat
  | [], _, _ => none
  | y :: ys, i, x => if y = x then some i else ixN? ys (i + 1) x
theorem ixN?_at : ∀ {ys : List Str} {i : Nat} {x : Str} {c : Nat}, ixN? ys i x = some c → ∃ j, c = i + j ∧ ys[j]? = some x
  | [], _, _, _, h => by cases h
  | y :: ys, i, x, c, h => by
    simp only [ixN?] at h
    split at h
    · rename_i e
      cases h
      exact ⟨0, rfl, by rw [e]; rfl⟩
    · obtain ⟨j, e1, e2⟩ := ixN?_at h
      exact ⟨j + 1, by omega, by simpa using e2⟩
def gcOf (xs : List (Str × Nat)) (M : Mt) : Gc := ⟨fun x => go xs 0 x, getOf M.cs, nonOf M.ns, ixN? M.cl 0, fun x => (match getOf M.io x with
    | some tb => some tb
    | none => (getOf M.ib x).map (·.2)), getOf M.sd, getOf M.fk, fun f => fo f M.oc M.cl.length, fun x => no x M.oc M.cl.length, eo M.oc M.cl.length, fun rp => xo rp M.oc M.cl.length⟩
where
  xo (rp : Bool) : List Oc → Nat → Option (Nat × Nat)
  | [], _ => none
  | o :: os, c => match o.tx rp with
    | some e => some (c, xs.length + e)
    | none => xo rp os (c + 1)
  fo (f : Str) : List Oc → Nat → Option (Nat × Nat)
  | [], _ => none
  | o :: os, c => match ixN? o.fs 0 f with
    | some i => some (c, i)
    | none => fo f os (c + 1)
  no (x : Str) : List Oc → Nat → Option (Nat × Nat × Nat)
  | [], _ => none
  | o :: os, c => if o.nm = x then some (c, xs.length + o.ini, o.n) else no x os (c + 1)
  eo : List Oc → Nat → Option (Nat × Nat)
  | [], _ => none
  | o :: os, c => match o.eq with
    | some e => some (c, xs.length + e)
    | none => eo os (c + 1)
  go : List (Str × Nat) → Nat → Str → Option (Nat × Nat)
  | [], _, _ => none
  | p :: ps, i, x => if p.1 = x then some (i, p.2) else go ps (i + 1) x
def clA (K : PySem.W.Frag) (cl : List Str) (c : Nat) : Addr := He.ga K (cl.getD c "")
def raiseB (K : PySem.W.Frag) (a : Addr) : Bool := PySem.W.keepIn K (.ref a) && (PySem.W.excIn K a [.type "ValueError", .type "Exception", .type "BaseException", .type "object"] "ValueError.__new__" && ((PySem.W.subIn K (.ref a) (.type "BaseException") == some true) && (PySem.W.typeIn K (.ref a) == some (.type "type"))))
theorem raiseB_ok {K : PySem.W.Frag} {a : Addr} (h : raiseB K a = true) : RaiseC K a := by
  unfold raiseB at h
  simp only [Bool.and_eq_true, beq_iff_eq] at h
  exact ⟨h.1, h.2.1, h.2.2.1, h.2.2.2⟩
def excCB (K : PySem.W.Frag) (a : Addr) : Bool := (PySem.W.findIn K (.ref a) "__getattribute__" == some (some (.builtin "BaseException.__getattribute__"))) && ((PySem.W.findIn K (.ref a) "__getattr__" == some none) && ((PySem.W.subIn K (.ref a) (.type "BaseException") == some true) && (PySem.W.hasDictIn K a &&
  ((PySem.W.findIn K (.ref a) "__class__" == some (some (.builtin "object.__class__"))) && ((PySem.W.specialIn K (.builtin "object.__class__") "__get__" == some (some (.builtin "getset_descriptor.__get__"))) && ((PySem.W.takesIn K (.builtin "object.__class__") == some true) && (PySem.W.mroIn K a (.type "object") == some true)))))))
theorem excCB_ok {K : PySem.W.Frag} {a : Addr} (h : excCB K a = true) : ExcC K a := by
  unfold excCB at h
  simp only [Bool.and_eq_true, beq_iff_eq] at h
  obtain ⟨h1, h2, h3, h4, h5, h6, h7, h8⟩ := h
  exact ⟨h1, h2, h3, h4, h5, h6, h7, h8⟩
/-- the answers of isinstance of the classes, one by one -/
def kitsB (K : PySem.W.Frag) (cl : List Str) (cv : Value) : Nat → List Bool → Bool
  | _, [] => true
  | i, b :: bs => (excCB K (clA K cl i) && (PySem.W.kitOne K (.ref (clA K cl i)) cv == some b)) && kitsB K cl cv (i + 1) bs
theorem kitsB_ok {K : PySem.W.Frag} {cl : List Str} {cv : Value} : ∀ {i : Nat} {tb : List Bool}, kitsB K cl cv i tb = true → ∀ c b, tb[c]? = some b → ExcC K (clA K cl (i + c)) ∧ PySem.W.kitOne K (.ref (clA K cl (i + c))) cv = some b
  | i, [], h, c, b, e => by simp at e
  | i, b0 :: bs, h, c, b, e => by
    simp only [kitsB, Bool.and_eq_true, beq_iff_eq] at h
    cases c with
    | zero =>
      simp at e
      subst e
      exact ⟨excCB_ok h.1.1, h.1.2⟩
    | succ c =>
      have := kitsB_ok (i := i + 1) h.2 c b (by simpa using e)
      rw [show i + 1 + c = i + (c + 1) by omega] at this
      exact this
/-- what the head looks at of an own class -/
def ocB (K : PySem.W.Frag) (o : Oc) : Bool := ((He.Fa.glo o.nm).ok K && ((He.Fa.cls o.nm).ok K && ((He.Fa.mkr o.nm).ok K && (o.fs.all fun f => (He.Fa.noat o.nm f).ok K)))) && (((decide o.fs.Nodup && decide (o.fs.length < 1000)) && ((PySem.W.findIn K (.ref (He.ga K o.nm)) "__class__" == some (some (.builtin "object.__class__"))) && ((PySem.W.specialIn K (.builtin "object.__class__") "__get__" == some (some (.builtin "getset_descriptor.__get__"))) && ((PySem.W.takesIn K (.builtin "object.__class__") == some true) && (PySem.W.mroIn K (He.ga K o.nm) (.type "object") == some true))))) &&
  (((clsNames.all fun T => PySem.W.kitOne K (.type T) (.ref (He.ga K o.nm)) == some false) && (PySem.W.kitOne K (.ref (He.ga K o.nm)) (.ref (He.ga K o.nm)) == some true)) && (o.eq.isNone || ((He.Fa.meth o.nm "__eq__").ok K && (PySem.W.findIn K (.ref (He.ga K o.nm)) "__ne__" == some (some (.builtin "object.__ne__")))))))
def txB (K : PySem.W.Frag) (o : Oc) : Bool := [true, false].all fun rp => (o.tx rp).isNone || (He.Fa.meth o.nm (txS rp)).ok K
def chkT (M : Mt) (xs : List Str) (K : PySem.W.Frag) : Bool := (M.cs.all fun p => conB K p.1 p.2) && ((M.ns.all fun x => (He.Fa.free x).ok K) && ((xs.all fun x => (He.Fa.glo x).ok K) && ((M.cl.all fun x => (He.Fa.glo x).ok K && raiseB K (He.ga K x)) &&
  ((M.io.all fun p => (He.Fa.glo p.1).ok K && kitsB K M.cl (.ref (He.ga K p.1)) 0 p.2) && ((M.ib.all fun p => ((He.Fa.free p.1).ok K && decide (p.1 ≠ "__name__")) && (decide (bootBuiltins p.1 = some (.type p.2.1)) && kitsB K M.cl (.type p.2.1) 0 p.2.2)) &&
  ((M.sd.all fun p => ((He.Fa.glo p.1).ok K && (He.Fa.glo M.ct).ok K) && (List.range p.2.1).all fun i => PySem.W.exmOne K (.ref (clA K M.cl i)) (.ref (He.ga K M.ct)) == some true) && ((M.oc.all fun o => ocB K o && txB K o) && (((M.io.all fun p => decide (p.2.length ≤ M.cl.length)) && (M.ib.all fun p => decide (p.2.2.length ≤ M.cl.length))) && (M.sd.all fun p => decide (p.2.1 ≤ M.cl.length))))))))))
theorem go_at : ∀ {rs : List Rw} {i : Nat} {x : Str} {id n : Nat}, gcOf.go (rs.map fun r => (r.x, r.ps.length)) i x = some (id, n) → ∃ j r, id = i + j ∧ rs[j]? = some r ∧ r.x = x ∧ r.ps.length = n
  | [], _, _, _, _, h => by simp only [List.map_nil, gcOf.go] at h; cases h
  | r :: rs, i, x, id, n, h => by
    simp only [List.map_cons, gcOf.go] at h
    split at h
    · rename_i e
      cases h
      exact ⟨0, r, rfl, rfl, e, rfl⟩
    · obtain ⟨j, r', e1, e2, e3, e4⟩ := go_at h
      exact ⟨j + 1, r', by omega, by simpa using e2, e3, e4⟩
def unSh (id : Nat) : Nat := if id < BB then id else if id < 2 * BB then id - BB else id - 2 * BB
def tabOf (rs : List Rw) (id : Nat) : Option Fd := (rs[unSh id]?).map (·.fd)
theorem unSh0 {id : Nat} (h : id < BB) : unSh id = id := if_pos h
theorem unSh1 {id : Nat} (h : id < BB) : unSh (id + BB) = id := by
  unfold unSh
  rw [if_neg (by omega), if_pos (by omega), Nat.add_sub_cancel]
theorem unSh2 {id : Nat} (h : id < BB) : unSh (id + 2 * BB) = id := by
  unfold unSh
  rw [if_neg (by omega), if_neg (by omega), Nat.add_sub_cancel]
/-- the def by which the law asks, as a row -/
structure SaidW (rs : List Rw) (M : Mt) (xs : Str) (n w : Nat) : Prop where
  ex : ∃ (a tn en xn wn : Str) (st1 st3 : Stmt) (hds : List ExceptHandler) (q1 q2 q3 q4 q5 q6 q7 q8 q9 q10 : Pos) (id mm : Nat) (r : Rw),
    r ∈ rs ∧ (r.x = xs ∧ r.fn = xs) ∧ r.body = [st1, .Try [.Assign [.Name tn q1] (.Call (.Name a q2) [] [] q3) q4] (.ExceptHandler (some (.Name M.ct q5)) (some xn) [.Assign [.Name en q6] (.Name xn q7) q8] q9 :: hds) [] [] q10, st3] ∧ r.N = [a, tn, en, xn] ∧ r.ps = [a] ∧
    (∀ y ∈ [tn, en, xn], r.scope.names.lookup y = some .local) ∧ r.scope.names.lookup a = some .local ∧ (∀ y ∈ [a, xn], (y == ("__debug__" : Str)) = false ∧ (y == ("__classdict__" : Str)) = false) ∧ r.scope.names.lookup M.ct = some .globalImplicit ∧ (M.ct == ("__debug__" : Str)) = false ∧
    (gcOf (rs.map fun r => (r.x, r.ps.length)) M).fid wn = some (id, 1) ∧ (gcOf (rs.map fun r => (r.x, r.ps.length)) M).fik wn = none ∧ w = id + BB ∧ compS (Gw wn w) mm ⟨[a, tn, en, xn], r.scope, fun _ => true, 1⟩ st1 = par1 ∧ compS (Gw wn w) mm ⟨[a, tn, en, xn], r.scope, fun _ => true, 1⟩ st3 = ret3 w ∧ ((gcOf (rs.map fun r => (r.x, r.ps.length)) M).fik r.x = none ∧ r.kd = [])
/-- where a class's __init__ and __eq__ stand -/
def mtB (M : Mt) (ms : List Mw) : Bool := M.oc.all fun o => (match ms[o.ini]? with
    | some w => decide (w.c = o.nm) && (decide (w.m = "__init__") && (decide (w.row.fd.n = o.n) && w.row.fd.mv.contains 0))
    | none => false) && (match o.eq with
    | some e => (match ms[e]? with
      | some w => decide (w.c = o.nm) && (decide (w.m = "__eq__") && decide (w.row.fd.n = 2))
      | none => false)
    | none => true) && ([true, false].all fun rp => (match o.tx rp with
    | some e => (match ms[e]? with
      | some w => decide (w.c = o.nm) && (decide (w.m = txS rp) && decide (w.row.fd.n = 1))
      | none => false)
    | none => true))
def allR (rs : List Rw) (ms : List Mw) : List Rw := rs ++ ms.map (·.row)
theorem fo_at {f : Str} : ∀ {os : List Oc} {c0 c i : Nat}, gcOf.fo f os c0 = some (c, i) → ∃ k o, c = c0 + k ∧ os[k]? = some o ∧ o.fs[i]? = some f
  | [], _, _, _, h => by cases h
  | o :: os, c0, c, i, h => by
    unfold gcOf.fo at h
    split at h
    · rename_i j e
      cases h
      obtain ⟨j', e1, e2⟩ := ixN?_at e
      rw [Nat.zero_add] at e1
      subst e1
      exact ⟨0, o, rfl, rfl, e2⟩
    · obtain ⟨k, o', e1, e2, e3⟩ := fo_at h
      exact ⟨k + 1, o', by omega, by simpa using e2, e3⟩
theorem no_at {xs : List (Str × Nat)} {x : Str} : ∀ {os : List Oc} {c0 c id n : Nat}, gcOf.no xs x os c0 = some (c, id, n) → ∃ k o, c = c0 + k ∧ os[k]? = some o ∧ o.nm = x ∧ id = xs.length + o.ini ∧ n = o.n
  | [], _, _, _, _, h => by cases h
  | o :: os, c0, c, id, n, h => by
    unfold gcOf.no at h
    split at h
    · rename_i e
      cases h
      exact ⟨0, o, rfl, rfl, e, rfl, rfl⟩
    · obtain ⟨k, o', e1, e2, e3⟩ := no_at h
      exact ⟨k + 1, o', by omega, by simpa using e2, e3⟩
theorem eo_at {xs : List (Str × Nat)} : ∀ {os : List Oc} {c0 c id : Nat}, gcOf.eo xs os c0 = some (c, id) → ∃ k o e, c = c0 + k ∧ os[k]? = some o ∧ o.eq = some e ∧ id = xs.length + e
  | [], _, _, _, h => by cases h
  | o :: os, c0, c, id, h => by
    unfold gcOf.eo at h
    split at h
    · rename_i e he
      cases h
      exact ⟨0, o, e, rfl, rfl, he, rfl⟩
    · obtain ⟨k, o', e, e1, e2, e3⟩ := eo_at h
      exact ⟨k + 1, o', e, by omega, by simpa using e2, e3⟩
theorem xo_at {xs : List (Str × Nat)} {rp : Bool} : ∀ {os : List Oc} {c0 c id : Nat}, gcOf.xo xs rp os c0 = some (c, id) → ∃ k o e, c = c0 + k ∧ os[k]? = some o ∧ o.tx rp = some e ∧ id = xs.length + e
  | [], _, _, _, h => by cases h
  | o :: os, c0, c, id, h => by
    unfold gcOf.xo at h
    split at h
    · rename_i e he
      cases h
      exact ⟨0, o, e, rfl, rfl, he, rfl⟩
    · obtain ⟨k, o', e, e1, e2, e3⟩ := xo_at h
      exact ⟨k + 1, o', e, by omega, by simpa using e2, e3⟩
theorem clsX_of {K : PySem.W.Frag} {C : Ct} {c : Nat} {o : Oc} (hc : C.cl c = (He.ga K o.nm, o.fs)) (h : ocB K o = true) : ClsX K C c := by
  unfold ocB at h
  simp only [Bool.and_eq_true, decide_eq_true_eq, beq_iff_eq, List.all_eq_true] at h
  obtain ⟨⟨h1, h2, h3, h4⟩, ⟨⟨h5, h6⟩, h7, h8, h9, h10⟩, ⟨h11, h12⟩, _⟩ := h
  refine ⟨?_, ?_, ?_, fun f hf => ?_, ?_, h8, h9, ?_, fun T hT => ?_, ?_⟩
  · rw [hc]; exact He.cls_ok h2
  · rw [hc]; exact h5
  · rw [hc]; exact h6
  · rw [hc] at hf ⊢; exact He.noat_ok (h4 f hf)
  · rw [hc]; exact h7
  · rw [hc]; exact h10
  · rw [hc]; exact h11 T hT
  · rw [hc]; exact h12
theorem md_of {Pg : Program} {w : World} {K : PySem.W.Frag} {mg : Str → Option Value} {base h : Heap} {rs : List Rw} {ms : List Mw} {M : Mt} {m fuel : Nat} {C : Ct} (hk : C.K = K) (hc : ∀ c, c < M.cl.length → (C.cl c).1 = clA K M.cl c) (hco : ∀ k o, M.oc[k]? = some o → C.cl (M.cl.length + k) = (He.ga K o.nm, o.fs)) (X : K.In h) (Gn : h.Ns mainGlobals mg) (c : obsT (chkT M (rs.map (·.x))) (rs.map Rw.d ++ ms.map Mw.d) K = valT (rs.map Rw.d ++ ms.map Mw.d)) (okm : ∀ w ∈ ms, MwOk (gcOf (rs.map fun r => (r.x, r.ps.length)) M) m w) (hmt : mtB M ms = true)
    (ok : ∀ r ∈ rs, RwOk (gcOf (rs.map fun r => (r.x, r.ps.length)) M) m r) (hl : (allR rs ms).length < BB) (tabs : ∀ r ∈ rs, r.md = 0 → ∀ fd, FunD K r.fn r.fn r.params r.body r.scope [] (r.d.kws K) (He.ga K r.x) fd → TabF mg base C fd r.fn) (sds : ∀ p ∈ M.sd, SaidW rs M p.1 p.2.1 p.2.2) :
    Md Pg w K mg base C (gcOf (rs.map fun r => (r.x, r.ps.length)) M) (tabOf (allR rs ms)) m fuel := by
  have ck := obsT_chk c
  unfold chkT at ck
  simp only [Bool.and_eq_true, List.all_eq_true] at ck
  obtain ⟨c1, c2, c3, c4, c5, c6, c7, c8, ⟨c9, c10⟩, c11⟩ := ck
  have fn : ∀ {r : Rw}, r ∈ rs → ∃ fd, FunD K r.fn r.fn r.params r.body r.scope [] (r.d.kws K) (He.ga K r.x) fd := fun {r} hr => by
    obtain ⟨i, e2⟩ := List.getElem?_of_mem hr
    have hi : i < rs.length := (List.getElem?_eq_some_iff.mp e2).1
    exact obsT_def (i := i) (d := r.d) c (by rw [List.getElem?_append_left (by simpa using hi), List.getElem?_map, e2]; rfl)
  have mn : ∀ {i : Nat} {w : Mw}, ms[i]? = some w → ∃ fd, FunD K w.m w.row.x w.row.params w.row.body w.row.scope [] [] (He.ma K (He.ga K w.c) w.m) fd := fun {i w} e => by
    refine obsT_def (i := rs.length + i) (d := w.d) c ?_
    rw [List.getElem?_append_right (by simp), List.length_map, Nat.add_sub_cancel_left, List.getElem?_map, e]
    rfl
  have tl : ∀ {i : Nat} {r : Rw}, rs[i]? = some r → (allR rs ms)[i]? = some r := fun {i r} e => by
    have hi : i < rs.length := (List.getElem?_eq_some_iff.mp e).1
    unfold allR
    rw [List.getElem?_append_left hi]
    exact e
  have tm : ∀ {i : Nat} {w : Mw}, ms[i]? = some w → (allR rs ms)[rs.length + i]? = some w.row := fun {i w} e => by
    unfold allR
    rw [List.getElem?_append_right (by simp), Nat.add_sub_cancel_left, List.getElem?_map, e]
    rfl
  have mth : ∀ {i : Nat} {w : Mw}, ms[i]? = some w → ∃ fd, Binds K fd w.row.ps [] ∧ tabOf (allR rs ms) (rs.length + i) = some w.row.fd ∧ DefT K mg base C (gcOf (rs.map fun r => (r.x, r.ps.length)) M) m (He.ma K (He.ga K w.c) w.m) fd w.row.ps w.row.fd ∧ rs.length + i < BB ∧ tabOf (allR rs ms) (rs.length + i + BB) = tabOf (allR rs ms) (rs.length + i) ∧ tabOf (allR rs ms) (rs.length + i + 2 * BB) = tabOf (allR rs ms) (rs.length + i) := fun {i w} e => by
    obtain ⟨fd, F⟩ := mn e
    have o := okm w (List.mem_of_getElem? e)
    have hb : rs.length + i < BB := Nat.lt_trans (List.getElem?_eq_some_iff.mp (tm e)).1 hl
    refine ⟨fd, F.bindsN o.bind, by unfold tabOf; rw [unSh0 hb, tm e]; rfl, ⟨w.m, w.row.x, w.row.params, w.row.body, w.row.scope, [], [], w.row.N, 1, F, scB_ok o.sc, o.n, o.ns, o.le, o.body, .inr rfl, fun z => (nomatch z)⟩, hb, by unfold tabOf; rw [unSh0 hb, unSh1 hb], by unfold tabOf; rw [unSh0 hb, unSh2 hb]⟩
  unfold mtB at hmt
  simp only [List.all_eq_true, Bool.and_eq_true] at hmt
  refine ⟨hk, fun x id n e => ?_, fun x id n e => ?_, fun x d e => conB_ok hk X Gn (c1 _ (getOf_mem e)), fun x e => ?_, fun x i e => ?_, fun x tb e => ?_, fun x n w' e => ?_, fun f c0 i e => ?_, fun x c0 id n e => ?_, fun rp c0 id e => ?_, fun c0 id e => ?_⟩
  · obtain ⟨j, r, e1, e2, e3, e4⟩ := go_at e
    rw [Nat.zero_add] at e1
    subst e1 e3 e4
    have hm := List.mem_of_getElem? e2
    obtain ⟨fd, F⟩ := fn hm
    have o := ok r hm
    have hb : id < BB := Nat.lt_trans (List.getElem?_eq_some_iff.mp (tl e2)).1 hl
    refine ⟨He.ga K r.x, fd, r.ps, r.fd, He.glo_ok X Gn (c3 r.x (List.mem_map.mpr ⟨r, hm, rfl⟩)), F.kp, ⟨fun hn => F.bindsN (o.bind hn), fun np shs e s hs => (by obtain ⟨l1, ms, pl, w⟩ := o.kwb np shs e s hs; exact ⟨kwW_ok w F, l1⟩)⟩, by unfold tabOf; rw [unSh0 hb, tl e2]; rfl, o.n, ⟨r.fn, r.fn, r.params, r.body, r.scope, [], r.d.kws K, r.N, r.md, F, scB_ok o.sc, o.n, o.ns, o.le, o.body, o.md, fun hm0 => tabs r hm hm0 fd F⟩⟩
  · obtain ⟨j, r, e1, e2, e3, e4⟩ := go_at e
    rw [Nat.zero_add] at e1
    subst e1
    have hb : id < BB := Nat.lt_trans (List.getElem?_eq_some_iff.mp (tl e2)).1 hl
    exact ⟨hb, by unfold tabOf; rw [unSh0 hb, unSh1 hb], by unfold tabOf; rw [unSh0 hb, unSh2 hb]⟩
  · have e : (M.ns.any fun y => decide (y = x)) = true := e
    obtain ⟨y, hy, ey⟩ := List.any_eq_true.mp e
    have ey := of_decide_eq_true ey
    subst ey
    exact He.free_ok X Gn (c2 y hy)
  · obtain ⟨j, e1, e2⟩ := ixN?_at e
    rw [Nat.zero_add] at e1
    subst e1
    have hx := c4 x (List.mem_of_getElem? e2)
    have ea : (C.cl i).1 = He.ga K x := by
      rw [hc i (List.getElem?_eq_some_iff.mp e2).1, clA, List.getD_eq_getElem?_getD, e2]
      rfl
    rw [ea]
    exact ⟨He.glo_ok X Gn hx.1, raiseB_ok hx.2⟩
  · simp only [gcOf] at e
    cases eo : getOf M.io x with
    | some tb' =>
      rw [eo] at e
      cases e
      obtain ⟨h1, h2⟩ := c5 _ (getOf_mem eo)
      refine ⟨⟨_, .ref (He.ga K x), .inl (He.glo_ok X Gn h1), rfl, fun u hu => hu, fun c b hb => ?_⟩⟩
      have := kitsB_ok h2 c b hb
      rw [Nat.zero_add] at this
      rw [hc c (Nat.lt_of_lt_of_le (List.getElem?_eq_some_iff.mp hb).1 (of_decide_eq_true (c9 _ (getOf_mem eo))))]
      exact this
    | none =>
      rw [eo] at e
      simp only [Option.map_eq_some_iff] at e
      obtain ⟨p, ep, rfl⟩ := e
      obtain ⟨⟨h1, h2⟩, h3, h4⟩ := c6 _ (getOf_mem ep)
      refine ⟨⟨_, .ty p.1, .inr ⟨He.free_ok X Gn h1, of_decide_eq_true h3, of_decide_eq_true h2⟩, rfl, fun u hu => hu, fun c b hb => ?_⟩⟩
      have := kitsB_ok h4 c b hb
      rw [Nat.zero_add] at this
      rw [hc c (Nat.lt_of_lt_of_le (List.getElem?_eq_some_iff.mp hb).1 (of_decide_eq_true (c10 _ (getOf_mem ep))))]
      exact this
  · have hp := getOf_mem e
    obtain ⟨⟨h1, h2⟩, h3⟩ := c7 _ hp
    obtain ⟨a, tn, en, xn, wn, st1, st3, hds, q1, q2, q3, q4, q5, q6, q7, q8, q9, q10, id, mm, r, k1, ⟨rfl, kfx⟩, k3, k4, k5, k6, k7, k8, k9, k10, k11, k11b, k12, k13, k14, kfn⟩ := (sds _ hp).ex
    obtain ⟨fd, F⟩ := fn k1
    have o := ok r k1
    have b := F.bindsN (o.bind kfn.1)
    have sc := scB_ok o.sc
    rw [k4, k5] at sc
    rw [k5] at b
    rw [k3, kfx] at F
    have hk0 : r.d.kws K = [] := by
      show r.kd.map _ = []
      rw [kfn.2]
      rfl
    rw [hk0] at F
    refine ⟨⟨a, tn, en, xn, M.ct, wn, He.ga K r.x, .ref (He.ga K M.ct), r.params, st1, st3, r.scope, fd, hds, q1, q2, q3, q4, q5, q6, q7, q8, q9, q10, id, mm, F, sc, b, He.glo_ok X Gn h1, F.kp, k6, .inl k7, k8, k9, k10, k11, k11b, k12, k13, k14, He.glo_ok X Gn h2, fun i hi => ?_⟩⟩
    have := h3 i (List.mem_range.mpr hi)
    rw [beq_iff_eq] at this
    rw [hc i (Nat.lt_of_lt_of_le hi (of_decide_eq_true (c11 _ hp)))]
    exact this
  · obtain ⟨k, o, e1, e2, e3⟩ := fo_at e
    subst e1
    have hcl := hco k o e2
    exact ⟨clsX_of hcl (c8 o (List.mem_of_getElem? e2)).1, by rw [hcl]; exact e3⟩
  · obtain ⟨k, o, e1, e2, e3, e4, e5⟩ := no_at e
    subst e1
    have hcl := hco k o e2
    have hm := List.mem_of_getElem? e2
    have ob := (c8 o hm).1
    have cx := clsX_of hcl ob
    have mo := (hmt o hm).1.1
    cases ew : ms[o.ini]? with
    | none => rw [ew] at mo; cases mo
    | some w0 =>
      rw [ew] at mo
      simp only [Bool.and_eq_true, decide_eq_true_eq] at mo
      obtain ⟨m1, m2, m3, m4⟩ := mo
      obtain ⟨fd, b1, b2, b3, b4, b5, b6⟩ := mth ew
      unfold ocB at ob
      simp only [Bool.and_eq_true] at ob
      have mk := He.mkr_ok ob.1.2.2.1
      rw [List.length_map] at e4
      rw [m1, m2] at b3
      refine ⟨cx, by rw [hcl, ← e3]; exact He.glo_ok X Gn ob.1.1, _, fd, w0.row.ps, w0.row.fd, by rw [hcl]; exact mk, b1, by rw [e4]; exact b2, by rw [e5]; exact m3, m4, b3, by rw [e4]; exact b4, by rw [e4]; exact b5⟩
  · obtain ⟨k, o, e', e1, e2, e3, e4⟩ := xo_at e
    subst e1
    have hcl := hco k o e2
    have hm := List.mem_of_getElem? e2
    have ob := c8 o hm
    have cx := clsX_of hcl ob.1
    have mo := (hmt o hm).2 rp (by cases rp <;> simp)
    rw [e3] at mo
    simp only at mo
    cases ew : ms[e']? with
    | none => rw [ew] at mo; cases mo
    | some w0 =>
      rw [ew] at mo
      simp only [Bool.and_eq_true, decide_eq_true_eq] at mo
      obtain ⟨m1, m2, m3⟩ := mo
      obtain ⟨fd, b1, b2, b3, b4, b5, b6⟩ := mth ew
      have tx := ob.2
      unfold txB at tx
      have tx := List.all_eq_true.mp tx rp (by cases rp <;> simp)
      rw [e3] at tx
      simp only [Option.isNone_some, Bool.false_or] at tx
      have mk := He.meth_ok tx
      rw [List.length_map] at e4
      rw [m1, m2] at b3
      exact ⟨cx, _, fd, w0.row.ps, w0.row.fd, ⟨by rw [hcl]; exact mk.at_, mk.fn⟩, b1, by rw [e4]; exact b2, m3, b3, by rw [e4]; exact b4, by rw [e4]; exact b6⟩
  · obtain ⟨k, o, e', e1, e2, e3, e4⟩ := eo_at e
    subst e1
    have hcl := hco k o e2
    have hm := List.mem_of_getElem? e2
    have ob := (c8 o hm).1
    have cx := clsX_of hcl ob
    have mo := (hmt o hm).1.2
    rw [e3] at mo
    simp only at mo
    cases ew : ms[e']? with
    | none => rw [ew] at mo; cases mo
    | some w0 =>
      rw [ew] at mo
      simp only [Bool.and_eq_true, decide_eq_true_eq] at mo
      obtain ⟨m1, m2, m3⟩ := mo
      obtain ⟨fd, b1, b2, b3, b4, b5, b6⟩ := mth ew
      unfold ocB at ob
      simp only [Bool.and_eq_true, Bool.or_eq_true, beq_iff_eq] at ob
      have me := ob.2.2.2
      rw [e3] at me
      rcases me with me | ⟨me1, me2⟩
      · cases me
      · have mk := He.meth_ok me1
        rw [List.length_map] at e4
        rw [m1, m2] at b3
        exact ⟨cx, _, fd, w0.row.ps, w0.row.fd, ⟨by rw [hcl]; exact mk.at_, mk.fn, by rw [hcl]; exact me2⟩, b1, by rw [e4]; exact b2, m3, b3, by rw [e4]; exact b4, by rw [e4]; exact b5⟩
end L2.T
end

section
set_option Elab.async false
set_option linter.all false
set_option maxRecDepth 100000
set_option maxHeartbeats 4000000
set_option autoImplicit false
namespace L2.T
open PySem PySem.Spec PyProof.Rows

/-- the heap in which the script's list alone may be tracked -/
structure Tr (K : PySem.W.Frag) (Pg : Program) (w : World) (H : Hp) (h : Heap) (a : Addr) (ns : List Int) : Prop where
  only : Only H
  sq : SqL K H a (ns.map V.int)
  ok : HOk Pg w H h
  at_ : ∀ b, H b ≠ none → b = a
  own : H a ≠ none → K.lookup a = none
theorem tr_of {K : PySem.W.Frag} {Pg : Program} {w : World} {h : Heap} {a : Addr} {us : List Value} {ns : List Int} (X : K.In h) (ha : h.get? a = some { cls := .type "list", data := .seq us.toArray }) (hi : IntsAre us ns) (hl : ns.length ≤ sizeLine) : ∃ H, Tr K Pg w H h a ns := by
  have rv := vals_ints hi
  cases q : K.lookup a with
  | some o =>
    have e := (X a o q).symm.trans ha
    cases e
    refine ⟨fun _ => none, fun _ => .inl rfl, .inr ⟨_, us.toArray, _, q, rfl, rfl, rfl, ?_, by simpa using rv⟩, fun b u z => (by cases z), fun b z => absurd rfl z, fun z => absurd rfl z⟩
    rw [List.size_toArray, hi.length]
    exact hl
  | none =>
    let G : Hp := upd (fun _ => none) a (.frz { cls := .type "list", data := .seq us.toArray } (.lst (ns.map V.int)))
    have same : G a = some (.frz { cls := .type "list", data := .seq us.toArray } (.lst (ns.map V.int))) := upd_same
    have other : ∀ b, b ≠ a → G b = none := fun b hb => upd_ne hb
    refine ⟨G, fun b => ?_, .inl (.inr ⟨_, same⟩), fun b u z => ?_, fun b z => ?_, fun _ => q⟩
    · rcases Decidable.em (b = a) with rfl | hb
      · exact .inr ⟨_, _, same⟩
      · exact .inl (other b hb)
    · rcases Decidable.em (b = a) with rfl | hb
      · rw [same] at z
        cases z
        exact ⟨ha, by rw [List.length_map]; exact hl, us, _, rv, ha⟩
      · rw [other b hb] at z
        cases z
    · rcases Decidable.em (b = a) with rfl | hb
      · rfl
      · exact absurd (other b hb) z
/-- the same, and the tables -/
structure TrT (K : PySem.W.Frag) (Pg : Program) (w : World) (H : Hp) (h : Heap) (a : Addr) (ns : List Int) (ts : List Addr) : Prop where
  only : ∀ b, H b = none ∨ H b = some (.tbl #[]) ∨ ∃ o xs, H b = some (.frz o (.lst xs))
  sq : SqL K H a (ns.map V.int)
  ok : HOk Pg w H h
  at_ : ∀ b, H b ≠ none → b = a ∨ b ∈ ts
  own : H a ≠ none → K.lookup a = none
  tab : ∀ b ∈ ts, H b = some (.tbl #[])
  otb : ∀ b, H b = some (.tbl #[]) → b ∈ ts
theorem trT_of {K : PySem.W.Frag} {Pg : Program} {w : World} {h : Heap} {a : Addr} {us : List Value} {ns : List Int} {ts : List Addr} (X : K.In h) (ha : h.get? a = some { cls := .type "list", data := .seq us.toArray }) (hi : IntsAre us ns) (hl : ns.length ≤ sizeLine) (hT : ∀ b ∈ ts, h.get? b = some { cls := .none, data := .fields #[] }) : ∃ H, TrT K Pg w H h a ns ts := by
  obtain ⟨G, tr⟩ := tr_of (Pg := Pg) (w := w) X ha hi hl
  have na : a ∉ ts := fun z => by
    have e := (hT a z).symm.trans ha
    cases e
  let H : Hp := fun b => if b ∈ ts then some (.tbl #[]) else G b
  have hin : ∀ b, b ∈ ts → H b = some (.tbl #[]) := fun b hb => if_pos hb
  have hout : ∀ b, b ∉ ts → H b = G b := fun b hb => if_neg hb
  have le : Le G H := fun b o e => by
    rw [hout b (fun z => na (by rw [← tr.at_ b (by rw [e]; simp)]; exact z))]
    exact e
  refine ⟨H, fun b => ?_, le.sqL tr.sq, fun b u e => ?_, fun b z => ?_, fun z => tr.own (by rw [← hout a na]; exact z), hin, fun b e => ?_⟩
  · by_cases hb : b ∈ ts
    · exact .inr (.inl (hin b hb))
    · rcases tr.only b with q | q
      · exact .inl ((hout b hb).trans q)
      · exact .inr (.inr (by rw [hout b hb]; exact q))
  · by_cases hb : b ∈ ts
    · rw [hin b hb] at e
      cases e
      exact hT b hb
    · rw [hout b hb] at e
      exact (tr.ok b u e).stay (fun _ _ _ q => q) (fun d q => le _ _ q) fun d xs q => le _ _ q
  · by_cases hb : b ∈ ts
    · exact .inr hb
    · exact .inl (tr.at_ b (by rw [← hout b hb]; exact z))
  · by_cases hb : b ∈ ts
    · exact hb
    · rw [hout b hb] at e
      rcases tr.only b with q | ⟨o, xs, q⟩ <;> rw [q] at e <;> cases e
theorem law_G {Pg : Program} {w : World} {K : PySem.W.Frag} {mg mb : Str → Option Value} {k : Nat} {fa a : Addr} {fd : FuncData} {x : Str} {sp : Sp} {s1 : Shared} {us : List Value} {ns : List Int} {cs : List (Addr × Addr)} (X : K.In s1.heap) (hg : s1.heap.Ns mainGlobals mg) (hb : s1.heap.Ns builtinsNs mb) (hbb : ∀ x : Str, x ≠ "__name__" → mb x = bootBuiltins x)
    (hlim : s1.heap.NoLimit) (hgen : s1.gens = #[]) (hT : ∀ p ∈ cs, s1.heap.get? p.2 = some { cls := .none, data := .fields #[] }) (nT : ∀ p ∈ cs, K.lookup p.2 = none) (cT : ∀ p ∈ cs, PySem.W.CodeHd s1.heap p.1 p.2)
    (hbm : ∃ (bm : Addr) (ob : Obj), mg "__builtins__" = some (.ref bm) ∧ bm ≠ builtinsNs ∧ s1.heap.get? bm = some ob ∧ ob.cls = .type "module" ∧ ob.dict = some builtinsNs ∧ ob.data = .plain)
    (ha : s1.heap.get? a = some { cls := .type "list", data := .seq us.toArray }) (hi : IntsAre us ns) (hl : ns.length ≤ sizeLine) (hr : Room k callerA)
    (F : ∀ base : Heap, K.In base → base.Ns mainGlobals mg → (∀ p ∈ cs, LamX.TabB base mg p.1 p.2) → FnG Pg w K mg base k fa fd [x] sp) (hbind : ∀ (s : Shared) (u : Value), BindsTo s fd ⟨[u], []⟩ [(x, u)])
    (hsp : ∀ H : Hp, (∀ p ∈ cs, H p.2 = some (.tbl #[])) → (∀ b ps, H b = some (.tbl ps) → b ∈ cs.map (·.2)) → SqL K H a (ns.map V.int) → sp [.ref a] H (fun v _ => v = .bl true) fun _ _ _ => False) :
    codeAny (model Pg w) callerA (.call (.ref fa) ⟨[.ref a], []⟩) (fun r s' => r = .ok (.ret (.bool true)) ∧ OldK s1.heap s'.heap ∧ s'.os = s1.os ∧ AllBare s'.gens) s1 := by
  have isT : ∀ b ∈ cs.map (·.2), s1.heap.get? b = some { cls := .none, data := .fields #[] } := fun b hb => by
    obtain ⟨p, hp, rfl⟩ := List.mem_map.mp hb
    exact hT p hp
  have inT : ∀ p ∈ cs, p.2 ∈ cs.map (·.2) := fun p hp => List.mem_map.mpr ⟨p, hp, rfl⟩
  obtain ⟨H, tr⟩ := trT_of (Pg := Pg) (w := w) (ts := cs.map (·.2)) X ha hi hl isT
  have hid : ∀ {b : Addr} {o : Obj}, s1.heap.get? b = some o → (∀ vs n, o.data ≠ .seq vs n) → o.data ≠ .fields #[] → H b = none := fun {b o} e h1 h2 => by
    refine Decidable.byContradiction fun z => ?_
    rcases tr.at_ b z with rfl | hb
    · have q := ha.symm.trans e
      cases q
      exact h1 _ _ rfl
    · have q := (isT b hb).symm.trans e
      cases q
      exact h2 rfl
  have untr : ∀ {b : Addr} {m : Str → Option Value}, s1.heap.Ns b m → (hidT s1.heap H).Ns b m := fun {b m} ⟨o, es, ep, e, d, r⟩ =>
    ⟨o, es, ep, hidT_get e (hid e (fun _ _ z => by rw [d] at z; cases z) fun z => by rw [d] at z; cases z), d, r⟩
  have kin : K.In (hidT s1.heap H) := fun b o e => hidT_get (X b o e) (Decidable.byContradiction fun z => by
    rcases tr.at_ b z with rfl | hb
    · rw [tr.own z] at e
      cases e
    · obtain ⟨p, hp, rfl⟩ := List.mem_map.mp hb
      rw [nT p hp] at e
      cases e)
  have md : Mod K mg (hidT s1.heap H) := ⟨kin, untr hg, ⟨mb, untr hb, hbb⟩, let ⟨mc, h1, h2⟩ := hlim; ⟨mc, untr h1, h2⟩⟩
  have tb : ∀ p ∈ cs, LamX.TabB (hidT s1.heap H) mg p.1 p.2 := fun p hp => by
    refine ⟨?_, ?_, fun z => ?_⟩
    · obtain ⟨o, vs, f1, f2, f3, f4, f5, f6, f7, e1, r1, r2, r3, rest⟩ := cT p hp
      exact ⟨o, vs, f1, f2, f3, f4, f5, f6, f7, hidT_get e1 (hid e1 (fun _ _ z => by rw [r2] at z; cases z) fun z => by rw [r2] at z; cases z; simp at r3), r1, r2, r3, rest⟩
    · obtain ⟨bm, ob, b1, b2, b3, b4, b5, b6⟩ := hbm
      refine ⟨bm, ob, b1, b2, fun q => ?_, fun q => ?_, hidT_get b3 (hid b3 (fun _ _ z => by rw [b6] at z; cases z) fun z => by rw [b6] at z; cases z), b4, b5, b6⟩
      · obtain ⟨o, es, ep, e, hd, _⟩ := hg
        rw [q, e] at b3
        cases b3
        rw [hd] at b6
        cases b6
      · rw [q, hT p hp] at b3
        cases b3
        cases b6
    · obtain ⟨o, es, ep, e, hd, _⟩ := hg
      rw [z, hT p hp] at e
      cases e
      cases hd
  have e0 : Env0 Pg w K mg (hidT s1.heap H) callerA [] s1 H := ⟨rfl, md, fun b o e => of_hidT e, Nat.le_of_eq (hidT_size _ _), trivial, fun b z => (by cases z), tr.ok, .of_eq hgen⟩
  have onlyT : ∀ b ps, H b = some (.tbl ps) → b ∈ cs.map (·.2) := fun b ps e => by
    rcases tr.only b with q | q | ⟨o, xs, q⟩
    · rw [q] at e
      cases e
    · exact tr.otb b q
    · rw [q] at e
      cases e
  refine codeAny_mono ((F _ kin (untr hg) tb).run callerA [] s1 H ⟨[.ref a], []⟩ [.ref a] [.ref a] _ _ hr rfl e0 (hbind s1 (.ref a)) (.cons rfl .nil) (hsp H (fun p hp => tr.tab _ (inT p hp)) onlyT tr.sq)) fun r s' z => ?_
  rcases r with e | fl
  · obtain ⟨_, _, _, _, _, _, _, _, _, _, _, _, q⟩ := (show L2.CX Pg w [] H s1 (fun _ _ _ => False) e s' from z)
    exact q.elim
  · rcases fl with _ | _ | _ | u
    · exact False.elim z
    · exact False.elim z
    · exact False.elim z
    · obtain ⟨v, H', os, bare, un, hok', rel, q⟩ := z
      have q : v = .bl true := q
      subst q
      cases (show u = Value.bool true from rel)
      have keep : ∀ b o, b ∉ cs.map (·.2) → s1.heap.get? b = some o → s'.heap.get? b = some o := fun b o nb e => by
        cases hb : H b with
        | none => exact un.keep b o e hb (fun z => by cases z) (fun z => by cases z)
        | some ho =>
          rcases tr.only b with z | z | ⟨ob, ys, z⟩
          · rw [z] at hb; cases hb
          · exact absurd (tr.otb b z) nb
          · obtain ⟨e1, _⟩ := tr.ok b _ z
            obtain ⟨e2, _⟩ := hok' b _ (un.frzs b ob _ z)
            rw [e1] at e
            cases e
            exact e2
      have grown : ∀ p ∈ cs, ∃ more : Array Value, s'.heap.get? p.2 = some { cls := .none, data := .fields more } := fun p hp => by
        obtain ⟨more, z⟩ := un.tbls p.2 #[] (tr.tab _ (inT p hp))
        exact ⟨_, hok' p.2 _ z⟩
      refine ⟨rfl, ⟨fun b o e => ?_, fun b o e => ?_⟩, os, bare⟩
      · by_cases hb : b ∈ cs.map (·.2)
        · obtain ⟨p, hp, rfl⟩ := List.mem_map.mp hb
          obtain ⟨more, hm⟩ := grown p hp
          rw [hT p hp] at e
          cases e
          exact .inr (.inl ⟨((cT p hp).tab (hT p hp)).isCodeTable, rfl, #[], more, rfl, by rw [Array.empty_append]; exact hm⟩)
        · exact .inl (keep b o hb e)
      · by_cases hb : b ∈ cs.map (·.2)
        · obtain ⟨p, hp, rfl⟩ := List.mem_map.mp hb
          obtain ⟨more, hm⟩ := grown p hp
          exact ⟨_, hm⟩
        · exact ⟨o, keep b o hb e⟩
/-! ### the head's look, the tables left out -/
def codeA (K : PySem.W.Frag) (x : Str) : Addr := match K.lookup (He.ga K x) with
  | some ⟨_, _, .func fd, _⟩ => (match fd.code with
    | .ref c => c
    | _ => 0)
  | _ => 0
def codeIs (K : PySem.W.Frag) (x : Str) (c : Addr) : Bool := match K.lookup (He.ga K x) with
  | some ⟨_, _, .func fd, _⟩ => fd.code == .ref c
  | _ => false
def tabA (K : PySem.W.Frag) (c : Addr) : Addr := match K.lookup c with
  | some ⟨_, _, .fields vs, _⟩ => (match vs.getD 11 .none with
    | .ref p => p
    | _ => 0)
  | _ => 0
def prs (K : PySem.W.Frag) (tn : List Str) : List (Addr × Addr) := tn.map fun x => (codeA K x, tabA K (codeA K x))
def without (K : PySem.W.Frag) (ts : List Addr) : PySem.W.Frag := K.filter fun p => !ts.contains p.1
theorem without_in {ts : List Addr} : ∀ {K : PySem.W.Frag} {a : Addr} {o : Obj}, (without K ts).lookup a = some o → K.lookup a = some o
  | [], _, _, h => h
  | p :: K, a, o, h => by
    unfold without at h
    rw [List.filter_cons] at h
    split at h
    · rw [List.lookup_cons] at h ⊢
      split at h
      · exact h
      · exact without_in h
    · rename_i hp
      rw [List.lookup_cons]
      have h := without_in (K := K) h
      split
      · rename_i e
        have e : a = p.1 := eq_of_beq e
        have hp : p.1 ∈ ts := by simpa using hp
        exfalso
        have no : ∀ {K : PySem.W.Frag}, (without K ts).lookup a = none := fun {K} => by
          induction K with
          | nil => rfl
          | cons q K ih =>
            unfold without
            rw [List.filter_cons]
            split
            · rename_i hq
              rw [List.lookup_cons]
              split
              · rename_i e2
                have e2 : a = q.1 := eq_of_beq e2
                rw [← e2, e] at hq
                simp [hp] at hq
              · exact ih
            · exact ih
        rename_i h0 _ _
        have := no (K := K)
        unfold without at this
        rw [this] at h0
        cases h0
      · exact h
theorem without_no {ts : List Addr} {a : Addr} (ha : a ∈ ts) : ∀ {K : PySem.W.Frag}, (without K ts).lookup a = none
  | [] => rfl
  | q :: K => by
    unfold without
    rw [List.filter_cons]
    split
    · rename_i hq
      rw [List.lookup_cons]
      split
      · rename_i e2
        have e2 : a = q.1 := eq_of_beq e2
        rw [← e2] at hq
        simp [ha] at hq
      · exact without_no ha
    · exact without_no ha
def codeHdB (K : PySem.W.Frag) (c p : Addr) : Bool := match K.lookup c with
  | some ⟨.type k, _, .fields vs, _⟩ => decide (k = "code") && ((vs[11]? == some (.ref p)) && ((vs.getD 11 .none == .ref p) && (decide (c ≠ p) && ((match vs.getD 18 .none with
      | .str _ _ => true
      | _ => false) && ((match vs.getD 7 .none with
      | .int _ _ => true
      | _ => false) && ((match vs.getD 9 .none with
      | .bool _ => true
      | _ => false) && (match vs.getD 10 .none with
      | .int _ _ => true
      | _ => false)))))))
  | _ => false
def emptyB (K : PySem.W.Frag) (p : Addr) : Bool := match K.lookup p with
  | some ⟨.none, none, .fields vs, sl⟩ => vs.isEmpty && sl.isEmpty
  | _ => false
theorem codeHdB_ok {K : PySem.W.Frag} {h : Heap} {c p : Addr} (X : K.In h) (e : codeHdB K c p = true) : PySem.W.CodeHd h c p := by
  unfold codeHdB at e
  split at e
  · rename_i k od vs sl el
    simp only [Bool.and_eq_true, decide_eq_true_eq, beq_iff_eq] at e
    obtain ⟨rfl, e1, e2, e3, e4, e5, e6, e7⟩ := e
    split at e4
    · rename_i file tf h18
      split at e5
      · rename_i flags tg h7
        split at e6
        · rename_i inF h9
          split at e7
          · rename_i text tt h10
            exact ⟨_, vs, file, tf, flags, tg, inF, text, tt, X _ _ el, rfl, rfl, e1, e2, h18, h7, h9, h10, e3⟩
          · cases e7
        · cases e6
      · cases e5
    · cases e4
  · cases e
theorem emptyB_ok {K : PySem.W.Frag} {h : Heap} {p : Addr} (X : K.In h) (e : emptyB K p = true) : h.get? p = some { cls := .none, data := .fields #[] } := by
  unfold emptyB at e
  split at e
  · rename_i vs sl el
    simp only [Bool.and_eq_true, Array.isEmpty_iff] at e
    obtain ⟨rfl, rfl⟩ := e
    exact X _ _ el
  · cases e
def tchk (K : PySem.W.Frag) (tn : List Str) : Bool := (tn.all fun x => codeIs K x (codeA K x) && (codeHdB K (codeA K x) (tabA K (codeA K x)) && (emptyB K (tabA K (codeA K x)) && decide (He.ga (without K ((prs K tn).map (·.2))) x = He.ga K x)))) && tn.all fun x => tn.all fun y => decide (tabA K (codeA K x) ≠ tabA K (codeA K y)) || decide (x = y)
def obsUK (M : Mt) (xs : List Str) (fn : List He.DefD) (K : PySem.W.Frag) : AlT := (tchk K M.tn && (obsT (chkT M xs) fn (without K ((prs K M.tn).map (·.2)))).1, (obsT (chkT M xs) fn (without K ((prs K M.tn).map (·.2)))).2)
def obsU (n : Nat) (M : Mt) (xs : List Str) (fn : List He.DefD) (g : Addr → Option Obj) : AlT := obsUK M xs fn (He.frG g (He.asD g n))
def hookU (n : Nat) (M : Mt) (xs : List Str) (fn : List He.DefD) : PySem.W.Hook where
  α := AlT
  obs := fun s => obsU n M xs fn s.heap.get?
  val := fun _ => valT fn
  says := fun _ h => ∃ K : PySem.W.Frag, K.In h ∧ obsUK M xs fn K = valT fn
  of := fun _ _ e => ⟨_, He.frG_in, e⟩
  keeps := fun _ _ _ ⟨K, hK, c⟩ k => ⟨K, PySem.W.Frag.In.keeps hK k, c⟩
theorem obsU_eq {n : Nat} {M : Mt} {xs : List Str} {fn : List He.DefD} {g : Addr → Option Obj} {s : Shared} (h : ∀ a, g a = s.heap.get? a) : obsU n M xs fn g = (hookU n M xs fn).obs s := by
  have e : g = s.heap.get? := funext h
  subst e
  rfl
/-- the end: the law's def answers True by the evaluator -/
theorem walk_T {l : PySem.W.OpenLaw} {q : Program} {loose : List Str} {XP : (Str → Option Value) → Heap → Prop} {d : DefRec} {x : Str} {rs : List Rw} {ms : List Mw} {M : Mt} {m fuel k id hn : Nat} (hm : l.most = some 63) (hdf : d.params.defaults = []) (hr : Room k callerA)
    (ok : ∀ r ∈ rs, RwOk (gcOf (rs.map fun r => (r.x, r.ps.length)) M) m r) (okm : ∀ w ∈ ms, MwOk (gcOf (rs.map fun r => (r.x, r.ps.length)) M) m w) (hmt : mtB M ms = true) (hl : (allR rs ms).length < BB) (htn : ∀ r ∈ rs, r.md = 0 → r.x ∈ M.tn ∧ r.fn = r.x) (sds : ∀ p ∈ M.sd, SaidW rs M p.1 p.2.1 p.2.2) (hfid : (gcOf (rs.map fun r => (r.x, r.ps.length)) M).fid d.name = some (id, 1)) (hfk : (gcOf (rs.map fun r => (r.x, r.ps.length)) M).fik d.name = none) (hx : ∀ r, rs[id]? = some r → r.ps = [x])
    (main : ∀ ns : List Int, ns.length ≤ 63 → ∃ outs, callF (tabOf (allR rs ms)) fuel k id [.sh (.scr ns)] = .ok (false, .bl true) outs) :
    PySem.W.WalkO q loose XP (hookU hn M (rs.map (·.x)) (rs.map Rw.d ++ ms.map Mw.d)).says l.row.toRowW d [] (fun f vs => PySem.call f vs) := by
  refine Att.attach_call hm hdf fun w s0 s1 mg mb fa o pm cd doc a us ns Gr Y ho hd hcd hmg hobj hints hlen hgen => ?_
  obtain ⟨KF, XF, cu⟩ := Y
  have t1 : (tchk KF M.tn && (obsT (chkT M (rs.map (·.x))) (rs.map Rw.d ++ ms.map Mw.d) (without KF ((prs KF M.tn).map (·.2)))).1) = true := congrArg (fun z : AlT => z.1) cu
  rw [Bool.and_eq_true] at t1
  have t2 : (obsT (chkT M (rs.map (·.x))) (rs.map Rw.d ++ ms.map Mw.d) (without KF ((prs KF M.tn).map (·.2)))).2 = (valT (rs.map Rw.d ++ ms.map Mw.d)).2 := by
    have z := congrArg (fun z : AlT => z.2) cu
    exact z
  have c : obsT (chkT M (rs.map (·.x))) (rs.map Rw.d ++ ms.map Mw.d) (without KF ((prs KF M.tn).map (·.2))) = valT (rs.map Rw.d ++ ms.map Mw.d) := Prod.ext t1.2 t2
  have X : (without KF ((prs KF M.tn).map (·.2))).In s1.heap := fun b o e => XF b o (without_in e)
  have tk := t1.1
  unfold tchk at tk
  simp only [Bool.and_eq_true, List.all_eq_true, Bool.or_eq_true, decide_eq_true_eq] at tk
  obtain ⟨k1, k2⟩ := tk
  generalize hK : without KF ((prs KF M.tn).map (·.2)) = K at *
  let C : Ct := ⟨K, fun c => if c < M.cl.length then (clA K M.cl c, []) else (match M.oc[c - M.cl.length]? with
    | some o => (He.ga K o.nm, o.fs)
    | none => (0, [])), M.tn.map fun x => (tabA KF (codeA KF x), x ++ ".<locals>." ++ "<lambda>")⟩
  obtain ⟨j, r0, e1, e2, e3, e4⟩ := go_at (i := 0) hfid
  rw [Nat.zero_add] at e1
  subst e1
  have ps1 := hx r0 e2
  have hmem := List.mem_of_getElem? e2
  have o := ok r0 hmem
  have hil : id < rs.length := (List.getElem?_eq_some_iff.mp e2).1
  have e2' : (allR rs ms)[id]? = some r0 := by
    unfold allR
    rw [List.getElem?_append_left hil]
    exact e2
  have hidB : id < BB := Nat.lt_trans (List.getElem?_eq_some_iff.mp e2').1 hl
  obtain ⟨fd0, F0⟩ := obsT_def (i := id) (d := r0.d) c (by rw [List.getElem?_append_left (by simpa using hil), List.getElem?_map, e2]; rfl)
  have F0 : FunD K r0.fn r0.fn r0.params r0.body r0.scope [] (r0.d.kws K) (He.ga K r0.x) fd0 := F0
  have ck := obsT_chk c
  unfold chkT at ck
  simp only [Bool.and_eq_true, List.all_eq_true] at ck
  have gl := He.glo_ok X Gr.T.g (ck.2.2.1 r0.x (List.mem_map.mpr ⟨r0, hmem, rfl⟩))
  rw [e3, hmg] at gl
  cases gl
  have pr : ∀ p ∈ prs KF M.tn, ∃ y ∈ M.tn, p = (codeA KF y, tabA KF (codeA KF y)) := fun p hp => by
    obtain ⟨y, hy, e⟩ := List.mem_map.mp hp
    exact ⟨y, hy, e.symm⟩
  refine law_G (x := x) (fd := fd0) (cs := prs KF M.tn) (sp := spT C (callF (tabOf (allR rs ms)) fuel k) id r0.fd) X Gr.T.g Gr.T.b Gr.T.builtins Gr.T.nolimit hgen (fun p hp => ?_) (fun p hp => ?_) (fun p hp => ?_) Gr.T.bmain hobj hints (Nat.le_trans hlen (by rw [sizeLine_eq]; omega)) hr (fun base kb gb TB => ?_) (fun s u => ?_) fun H hH hO hS => ?_
  · obtain ⟨y, hy, rfl⟩ := pr p hp
    exact emptyB_ok XF (k1 y hy).2.2.1
  · rw [← hK]
    exact without_no (List.mem_map.mpr ⟨p, hp, rfl⟩)
  · obtain ⟨y, hy, rfl⟩ := pr p hp
    exact codeHdB_ok XF (k1 y hy).2.1
  · have tabs : ∀ r ∈ rs, r.md = 0 → ∀ fd, FunD K r.fn r.fn r.params r.body r.scope [] (r.d.kws K) (He.ga K r.x) fd → TabF mg base C fd r.fn := fun r hr0 h0 fd F => by
      obtain ⟨hy, hfn⟩ := htn r hr0 h0
      rw [hfn]
      obtain ⟨oc, od, dV, kV, doc, pm, an, cdv, ct, osl, hfd, lk, _⟩ := F.ex
      obtain ⟨a1, a2, a3, a4⟩ := k1 r.x hy
      rw [← hK] at lk
      have lk := without_in lk
      rw [hK, a4] at lk
      unfold codeIs at a1
      rw [lk] at a1
      simp only [beq_iff_eq] at a1
      refine ⟨codeA KF r.x, tabA KF (codeA KF r.x), a1, TB _ (List.mem_map.mpr ⟨r.x, hy, rfl⟩), List.mem_map.mpr ⟨r.x, hy, rfl⟩, fun p hp e => ?_⟩
      obtain ⟨z, hz, rfl⟩ := List.mem_map.mp hp
      rcases k2 z hz r.x hy with q | q
      · exact absurd e q
      · rw [q]
    have Mm : Md l.prog w K mg base C (gcOf (rs.map fun r => (r.x, r.ps.length)) M) (tabOf (allR rs ms)) m fuel := md_of (ms := ms) rfl (fun c hc => by show (if c < M.cl.length then _ else _ : Addr × List Str).1 = _; rw [if_pos hc]) (fun k o e => by show (if M.cl.length + k < M.cl.length then _ else _ : Addr × List Str) = _; rw [if_neg (by omega), Nat.add_sub_cancel_left, e]) X Gr.T.g c okm hmt ok hl tabs sds
    have all := fnG_all Mm
    cases k with
    | zero => exact ⟨fun vs H Q E ⟨as, Z, L, _, _, _, h⟩ => (by unfold callF at h; exact (show False from h).elim), fun A out s H args us vs Q E _ _ _ _ _ ⟨as, Z, L, _, _, _, h⟩ => (by unfold callF at h; exact (show False from h).elim)⟩
    | succ j =>
      have dt : DefT K mg base C (gcOf (rs.map fun r => (r.x, r.ps.length)) M) m (He.ga K r0.x) fd0 r0.ps r0.fd := ⟨r0.fn, r0.fn, r0.params, r0.body, r0.scope, [], r0.d.kws K, r0.N, r0.md, F0, scB_ok o.sc, o.n, o.ns, o.le, o.body, o.md, fun h0 => tabs r0 hmem h0 fd0 F0⟩
      have g := fnG_step (Pg := l.prog) (w := w) (base := base) (fuel := fuel) (j := j) (id := id) Mm (fun i _ => all i) (fun i _ => (fnG_upto Mm i i (Nat.le_refl i)).2) hidB (by unfold tabOf; rw [unSh0 hidB, e2']; rfl) dt
      rw [e3, ps1] at g
      exact g
  · have b := FunD.bindsA F0 (o.bind (by rw [e3]; exact hfk)) s [u] (by rw [ps1]; rfl)
    rw [ps1] at b
    exact b
  · obtain ⟨outs, eo⟩ := main ns hlen
    let Z : Hp := fun b => if b ∈ (prs KF M.tn).map (·.2) then none else H b
    have zin : ∀ b, b ∈ (prs KF M.tn).map (·.2) → Z b = none := fun b hb => if_pos hb
    have zle : Le Z H := fun b u e => by
      by_cases hb : b ∈ (prs KF M.tn).map (·.2)
      · rw [zin b hb] at e
        cases e
      · rw [show Z b = H b from if_neg hb] at e
        exact e
    have inP : ∀ p ∈ C.tb, p.1 ∈ (prs KF M.tn).map (·.2) := fun p hp => by
      obtain ⟨y, hy, rfl⟩ := List.mem_map.mp hp
      exact List.mem_map.mpr ⟨_, List.mem_map.mpr ⟨y, hy, rfl⟩, rfl⟩
    have hS' : SqL C.K Z a (ns.map V.int) := by
      have na : ∀ o, H a = some o → (∀ ps, o ≠ .tbl ps) → Z a = some o := fun o e k => by
        rw [show Z a = H a from if_neg fun hb => ?_]
        · exact e
        · obtain ⟨p, hp, ep⟩ := List.mem_map.mp hb
          have := hH p hp
          rw [ep, e] at this
          cases this
          exact k _ rfl
      rcases hS with (h | ⟨o, h⟩) | h
      · exact .inl (.inl (na _ h fun _ z => nomatch z))
      · exact .inl (.inr ⟨o, na _ h fun _ z => nomatch z⟩)
      · exact .inr h
    refine ⟨[.sh (.scr ns)], Z, fun _ => none, ⟨zle, fun b u z => (by cases z), fun b u z => rfl, .sh (.scr hS') .nil, ⟨fun p hp => ?_, fun p hp => zin _ (inP p hp), fun p hp => rfl, fun b u e ps z => ?_, fun b u e => (by cases e)⟩⟩, by rw [o.n, ps1]; rfl, fun i d z => ?_, ?_⟩
    · obtain ⟨p', hp', e⟩ := List.mem_map.mp (inP p hp)
      have := hH p' hp'
      rw [e] at this
      exact LamX.TabS.nil this
    · subst z
      have := hO b ps (zle b _ e)
      rw [zin b this] at e
      cases e
    · match i, z with
      | 0, z => cases z
      | i + 1, z => simp at z
    · rw [eo]
      intro v H' Z' af hv
      have hv : Rep _ Z' (.bl true) v := hv
      cases hv
      rfl
end L2.T
end

section
set_option Elab.async false
set_option linter.all false
set_option maxRecDepth 100000
set_option maxHeartbeats 4000000
set_option autoImplicit false
namespace L2.T
open PySem PySem.Spec PyProof.Rows
/-- the parts of the def by which a law asks -/
structure SaidP where
  a : Str
  tn : Str
  en : Str
  xn : Str
  cn : Str
  st1 : Stmt
  st3 : Stmt
  hds : List ExceptHandler
  q1 : Pos
  q2 : Pos
  q3 : Pos
  q4 : Pos
  q5 : Pos
  q6 : Pos
  q7 : Pos
  q8 : Pos
  q9 : Pos
  q10 : Pos
def saidPat : List Stmt → Option SaidP
  | [st1, .Try [.Assign [.Name tn q1] (.Call (.Name a q2) [] [] q3) q4] (.ExceptHandler (some (.Name cn q5)) (some xn) [.Assign [.Name en q6] (.Name xn' q7) q8] q9 :: hds) [] [] q10, st3] => if xn' = xn then some ⟨a, tn, en, xn, cn, st1, st3, hds, q1, q2, q3, q4, q5, q6, q7, q8, q9, q10⟩ else none
  | _ => none
def SaidP.zero : SaidP := ⟨"", "", "", "", "", .Pass ⟨0, 0, 0, 0⟩, .Pass ⟨0, 0, 0, 0⟩, [], ⟨0, 0, 0, 0⟩, ⟨0, 0, 0, 0⟩, ⟨0, 0, 0, 0⟩, ⟨0, 0, 0, 0⟩, ⟨0, 0, 0, 0⟩, ⟨0, 0, 0, 0⟩, ⟨0, 0, 0, 0⟩, ⟨0, 0, 0, 0⟩, ⟨0, 0, 0, 0⟩, ⟨0, 0, 0, 0⟩⟩
theorem saidPat_ok {b : List Stmt} {p : SaidP} (h : saidPat b = some p) : b = [p.st1, .Try [.Assign [.Name p.tn p.q1] (.Call (.Name p.a p.q2) [] [] p.q3) p.q4] (.ExceptHandler (some (.Name p.cn p.q5)) (some p.xn) [.Assign [.Name p.en p.q6] (.Name p.xn p.q7) p.q8] p.q9 :: p.hds) [] [] p.q10, p.st3] := by
  unfold saidPat at h
  split at h
  · split at h
    · rename_i e
      cases h
      subst e
      rfl
    · cases h
  · cases h
def plainB (y : Str) : Bool := !(y == ("__debug__" : Str)) && !(y == ("__classdict__" : Str))
def saidB (r : Rw) (p : SaidP) (ct : Str) : Bool := (decide (p.cn = ct) && (decide (r.N = [p.a, p.tn, p.en, p.xn]) && decide (r.ps = [p.a]))) && ((decide (r.scope.names.lookup p.tn = some .local) && (decide (r.scope.names.lookup p.en = some .local) && (decide (r.scope.names.lookup p.xn = some .local) && decide (r.scope.names.lookup p.a = some .local)))) &&
  ((plainB p.a && plainB p.xn) && (decide (r.scope.names.lookup ct = some .globalImplicit) && !(ct == ("__debug__" : Str)))))
theorem saidW_of {rs : List Rw} {M : Mt} {xs wn : Str} {n w id mm : Nat} {r : Rw} {p : SaidP} (hr : r ∈ rs) (hx : r.x = xs) (hf : r.fn = xs) (hp : saidPat r.body = some p) (hb : saidB r p M.ct = true) (hw : (gcOf (rs.map fun r => (r.x, r.ps.length)) M).fid wn = some (id, 1)) (hwk : (gcOf (rs.map fun r => (r.x, r.ps.length)) M).fik wn = none) (hxk : (gcOf (rs.map fun r => (r.x, r.ps.length)) M).fik r.x = none) (hkd : r.kd = []) (ew : w = id + BB)
    (h1 : compS (Gw wn w) mm ⟨[p.a, p.tn, p.en, p.xn], r.scope, fun _ => true, 1⟩ p.st1 = par1) (h3 : compS (Gw wn w) mm ⟨[p.a, p.tn, p.en, p.xn], r.scope, fun _ => true, 1⟩ p.st3 = ret3 w) : SaidW rs M xs n w := by
  unfold saidB plainB at hb
  simp only [Bool.and_eq_true, decide_eq_true_eq, Bool.not_eq_true'] at hb
  obtain ⟨⟨e1, e2, e3⟩, ⟨l1, l2, l3, l4⟩, ⟨⟨a1, a2⟩, a3, a4⟩, g1, g2⟩ := hb
  have eb := saidPat_ok hp
  rw [e1] at eb
  refine ⟨⟨p.a, p.tn, p.en, p.xn, wn, p.st1, p.st3, p.hds, p.q1, p.q2, p.q3, p.q4, p.q5, p.q6, p.q7, p.q8, p.q9, p.q10, id, mm, r, hr, ⟨hx, hf⟩, eb, e2, e3, fun y hy => ?_, l4, fun y hy => ?_, g1, g2, hw, hwk, ew, h1, h3, hxk, hkd⟩⟩
  · simp only [List.mem_cons, List.not_mem_nil, or_false] at hy
    rcases hy with rfl | rfl | rfl
    · exact l1
    · exact l2
    · exact l3
  · simp only [List.mem_cons, List.not_mem_nil, or_false] at hy
    rcases hy with rfl | rfl
    · exact ⟨a1, a2⟩
    · exact ⟨a3, a4⟩
end L2.T
end

section
set_option Elab.async false
set_option linter.all false
set_option maxRecDepth 100000
set_option maxHeartbeats 4000000
set_option autoImplicit false
namespace L2.T
open PySem PySem.Spec PyProof.Rows

theorem pow_ok {i j : Int} (h0 : 0 ≤ j) (h1 : j ≤ 1000000) (h2 : i.natAbs < 2 ^ 64) : powOk i j = true := by
  unfold powOk
  simp only [Bool.and_eq_true, decide_eq_true_eq]
  exact ⟨h0, h1, h2⟩
local macro_rules | `(tactic| walk_at "u") => `(tactic| first
  | (with_reducible exact e_c)
  | ((with_reducible apply e_vs); exact rfl)
  | ((with_reducible apply e_vo); exact rfl)
  | ((with_reducible apply o_vs); exact rfl)
  | ((with_reducible apply o_vo); exact rfl)
  | (with_reducible exact r_val)
  | ((with_reducible apply r_sh); exact rfl)
  | ((with_reducible apply r_ow); exact rfl)
  | (with_reducible exact f_val)
  | ((with_reducible apply f_sh); exact rfl)
  | ((with_reducible apply f_ow); exact rfl)
  | ((with_reducible apply o_e); exact (fun _ h => nomatch h))
  | (with_reducible apply e_bin)
  | (with_reducible apply e_cmp)
  | (with_reducible apply e_idx)
  | (with_reducible apply e_neg)
  | (with_reducible apply e_not)
  | (with_reducible apply e_and)
  | (with_reducible apply e_or)
  | (with_reducible apply e_ife)
  | (with_reducible apply e_chn)
  | (with_reducible apply e_tup)
  | (with_reducible apply e_lst)
  | (with_reducible apply e_bi)
  | (with_reducible apply g_bin)
  | (with_reducible apply t_e)
  | (with_reducible apply c2)
  | (with_reducible apply pick_t)
  | (with_reducible apply pick_f)
  | (with_reducible exact es_nil)
  | (with_reducible apply es_cons)
  | (with_reducible exact fz_nil)
  | (with_reducible apply fz_cons)
  | (with_reducible exact rs_nil)
  | (with_reducible apply rs_cons)
  | (with_reducible apply s_asg)
  | refine' a_nms rfl _
  | refine' a_nmo rfl _
  | (with_reducible apply a_tup)
  | (with_reducible apply a_lst)
  | (with_reducible exact as_nil)
  | (with_reducible apply as_cons)
  | (with_reducible apply s_six)
  | (with_reducible exact set_0)
  | apply set_s
  | (with_reducible apply s_ex)
  | (with_reducible apply s_ret)
  | (with_reducible apply s_ite)
  | (with_reducible exact b_nil)
  | (with_reducible apply b_cons)
  | (with_reducible apply go_nx)
  | (with_reducible exact go_rt)
  | exact b_add | exact b_sub | exact b_mod (by omega) | exact b_div (div_pos (by omega) (by omega)) | exact b_mul (mul_le (by omega) (by omega)) | exact b_pow (pow_ok (by omega) (by omega) (by omega))
  | exact c_lt_t (by omega) | exact c_lt_f (by omega) | exact c_le_t (by omega) | exact c_le_f (by omega) | exact c_gt_t (by omega) | exact c_gt_f (by omega) | exact c_ge_t (by omega) | exact c_ge_f (by omega) | exact c_eq_t (by omega) | exact c_eq_f (by omega) | exact c_ne_t (by omega) | exact c_ne_f (by omega)
  | exact rfl)
section
variable {T : Nat → Option Fd} {F k : Nat} {cf : CF}
theorem draw_a {cs : List Int} {n r m : Int} (hr : 0 < r) (hm : 0 < m) (hm2 : m ≤ 2 ^ 200) : evB T cf F [0] irDraw [.ow (pen cs n r), .sh (.int m), .un, .un, .un, .un] = .ok (.rt false (.int (r.fmod m))) [.ow (pen cs n (r.fdiv m)), .sh (.int m), .sh (.int (r.fmod m)), .un, .un, .un] := by
  unfold irDraw pen
  repeat' (walk_at "u")
/-- the number that is made of a cell -/
def irNum : Ss := (.cons (.asg (.nm 5) (.bin .Mod (.bin .Mult (.bin .Add (.bin .Mod (.v 4) (.c (.int 2147483629))) (.c (.int 11))) (.bin .Add (.bin .Add (.bin .Mult (.v 3) (.v 3)) (.bin .Mult (.c (.int 5)) (.v 3))) (.c (.int 3)))) (.c (.int 2147483647)))) (.cons (.asg (.nm 5) (.bin .Mod (.bin .Mult (.bin .Mod (.bin .Add (.bin .Pow (.v 5) (.c (.int 3))) (.bin .Mult (.c (.int 69621)) (.v 3))) (.c (.int 2147483587))) (.c (.int 40692))) (.c (.int 2147483399)))) (.cons (.ite (.cmp .Gt (.v 1) (.bin .Pow (.c (.int 10)) (.c (.int 6)))) (.cons (.asg (.nm 5) (.bin .Add (.bin .Mult (.v 5) (.c (.int 2147483629))) (.bin .Mod (.bin .Mult (.bin .Mod (.v 5) (.c (.int 1000003))) (.c (.int 48271))) (.c (.int 2147483587))))) .nil) .nil) (.cons (.ret (.bin .Mod (.bin .FloorDiv (.v 5) (.c (.int 64))) (.v 1))) .nil))))
theorem num_ok {p : D} {n c m : Int} (hn : 0 ≤ n) (hn2 : n ≤ 2 ^ 60) (hm : 0 < m) (hm2 : m ≤ 2 ^ 200) : ∃ v ρ5, 0 ≤ v ∧ v < m ∧ evB T cf F [0] irNum [.ow p, .sh (.int m), .un, .sh (.int n), .sh (.int c), .un] = .ok (.rt false (.int v)) [.ow p, .sh (.int m), .un, .sh (.int n), .sh (.int c), .sh (.int ρ5)] := by
  obtain ⟨a1, a2⟩ := fmod_pos (i := c) (j := 2147483629) (by omega)
  have nn : 0 ≤ n * n ∧ n * n ≤ 2 ^ 120 := ⟨Int.mul_nonneg hn hn, by
    have := Int.mul_le_mul hn2 hn2 hn (by omega)
    omega⟩
  obtain ⟨b1, b2⟩ := fmod_pos (i := (c.fmod 2147483629 + 11) * (n * n + 5 * n + 3)) (j := 2147483647) (by omega)
  generalize hx : ((c.fmod 2147483629 + 11) * (n * n + 5 * n + 3)).fmod 2147483647 = x at b1 b2
  obtain ⟨c1, c2⟩ := fmod_pos (i := x ^ (3 : Int).toNat + 69621 * n) (j := 2147483587) (by omega)
  generalize hy : (x ^ (3 : Int).toNat + 69621 * n).fmod 2147483587 = y at c1 c2
  obtain ⟨d1, d2⟩ := fmod_pos (i := y * 40692) (j := 2147483399) (by omega)
  generalize hz : (y * 40692).fmod 2147483399 = z at d1 d2
  have s1 : evS T cf F [0] (.asg (.nm 5) (.bin .Mod (.bin .Mult (.bin .Add (.bin .Mod (.v 4) (.c (.int 2147483629))) (.c (.int 11))) (.bin .Add (.bin .Add (.bin .Mult (.v 3) (.v 3)) (.bin .Mult (.c (.int 5)) (.v 3))) (.c (.int 3)))) (.c (.int 2147483647)))) [.ow p, .sh (.int m), .un, .sh (.int n), .sh (.int c), .un] = .ok .nx [.ow p, .sh (.int m), .un, .sh (.int n), .sh (.int c), .sh (.int x)] := by
    rw [← hx]
    repeat' (walk_at "u")
  have s2 : evS T cf F [0] (.asg (.nm 5) (.bin .Mod (.bin .Mult (.bin .Mod (.bin .Add (.bin .Pow (.v 5) (.c (.int 3))) (.bin .Mult (.c (.int 69621)) (.v 3))) (.c (.int 2147483587))) (.c (.int 40692))) (.c (.int 2147483399)))) [.ow p, .sh (.int m), .un, .sh (.int n), .sh (.int c), .sh (.int x)] = .ok .nx [.ow p, .sh (.int m), .un, .sh (.int n), .sh (.int c), .sh (.int z)] := by
    rw [← hz, ← hy]
    rw [← hy] at c1 c2
    repeat' (walk_at "u")
  have fin : ∀ w : Int, -(2 ^ 100) ≤ w → w ≤ 2 ^ 100 → evB T cf F [0] (.cons (.ret (.bin .Mod (.bin .FloorDiv (.v 5) (.c (.int 64))) (.v 1))) .nil) [.ow p, .sh (.int m), .un, .sh (.int n), .sh (.int c), .sh (.int w)] = .ok (.rt false (.int ((w.fdiv 64).fmod m))) [.ow p, .sh (.int m), .un, .sh (.int n), .sh (.int c), .sh (.int w)] := fun w _ _ => by
    repeat' (walk_at "u")
  have t6 : (10 : Int) ^ (6 : Int).toNat = 1000000 := rfl
  obtain ⟨f1, f2⟩ := fmod_pos (i := z) (j := 1000003) (by omega)
  obtain ⟨g1, g2⟩ := fmod_pos (i := z.fmod 1000003 * 48271) (j := 2147483587) (by omega)
  have go : ∀ w : Int, -(2 ^ 100) ≤ w → w ≤ 2 ^ 100 → evS T cf F [0] (.ite (.cmp .Gt (.v 1) (.bin .Pow (.c (.int 10)) (.c (.int 6)))) (.cons (.asg (.nm 5) (.bin .Add (.bin .Mult (.v 5) (.c (.int 2147483629))) (.bin .Mod (.bin .Mult (.bin .Mod (.v 5) (.c (.int 1000003))) (.c (.int 48271))) (.c (.int 2147483587))))) .nil) .nil) [.ow p, .sh (.int m), .un, .sh (.int n), .sh (.int c), .sh (.int z)] = .ok .nx [.ow p, .sh (.int m), .un, .sh (.int n), .sh (.int c), .sh (.int w)] →
      ∃ v ρ5, 0 ≤ v ∧ v < m ∧ evB T cf F [0] irNum [.ow p, .sh (.int m), .un, .sh (.int n), .sh (.int c), .un] = .ok (.rt false (.int v)) [.ow p, .sh (.int m), .un, .sh (.int n), .sh (.int c), .sh (.int ρ5)] := fun w h1 h2 h3 => by
    obtain ⟨e1, e2⟩ := fmod_pos (i := w.fdiv 64) (j := m) hm
    exact ⟨_, w, e1, e2, b_nx s1 (b_nx s2 (b_nx h3 (fin w h1 h2)))⟩
  by_cases hb : 1000000 < m
  · refine go (z * 2147483629 + (z.fmod 1000003 * 48271).fmod 2147483587) (by omega) (by omega) ?_
    rw [← t6] at hb
    repeat' (walk_at "u")
  · have hb : m ≤ (10 : Int) ^ (6 : Int).toNat := by rw [t6]; omega
    refine go z (by omega) (by omega) ?_
    repeat' (walk_at "u")
theorem draw_b {cs : List Int} {n r m : Int} (hr : r ≤ 0) (hn : 0 ≤ n) (hn2 : n ≤ 2 ^ 60) (hm : 0 < m) (hm2 : m ≤ 2 ^ 200) : ∃ v n' r' ρ', 0 ≤ v ∧ v < m ∧ n' = n + 1 ∧ evB T cf F [0] irDraw [.ow (pen cs n r), .sh (.int m), .un, .un, .un, .un] = .ok (.rt false (.int v)) (.ow (pen cs n' r') :: .sh (.int m) :: ρ') := by
  have s1 : ∀ (a b : Ss), evS T cf F [0] (.ite (.cmp .Gt (.idx (.v 0) (.c (.int 2))) (.c (.int 0))) a .nil) [.ow (pen cs n r), .sh (.int m), .un, .un, .un, .un] = .ok .nx [.ow (pen cs n r), .sh (.int m), .un, .un, .un, .un] := fun a b => by
    unfold pen
    repeat' (walk_at "u")
  have s2 : evS T cf F [0] (.asg (.nm 3) (.idx (.v 0) (.c (.int 1)))) [.ow (pen cs n r), .sh (.int m), .un, .un, .un, .un] = .ok .nx [.ow (pen cs n r), .sh (.int m), .un, .sh (.int n), .un, .un] := by
    unfold pen
    repeat' (walk_at "u")
  have s3 : evS T cf F [0] (.six 0 (.c (.int 1)) (.bin .Add (.v 3) (.c (.int 1)))) [.ow (pen cs n r), .sh (.int m), .un, .sh (.int n), .un, .un] = .ok .nx [.ow (pen cs (n + 1) r), .sh (.int m), .un, .sh (.int n), .un, .un] := by
    unfold pen
    repeat' (walk_at "u")
  have s4 : evS T cf F [0] (.asg (.nm 4) (.c (.int 7))) [.ow (pen cs (n + 1) r), .sh (.int m), .un, .sh (.int n), .un, .un] = .ok .nx [.ow (pen cs (n + 1) r), .sh (.int m), .un, .sh (.int n), .sh (.int 7), .un] := by
    unfold pen
    repeat' (walk_at "u")
  have hl : ((cs.map D.int).length : Int) = cs.length := by rw [List.length_map]
  have s5 : ∃ c, evS T cf F [0] (.ite (.cmp .Gt (.bi "len" (.cons (.idx (.v 0) (.c (.int 0))) .nil)) (.c (.int 0))) (.cons (.asg (.nm 4) (.idx (.idx (.v 0) (.c (.int 0))) (.bin .Mod (.v 3) (.bi "len" (.cons (.idx (.v 0) (.c (.int 0))) .nil))))) .nil) .nil) [.ow (pen cs (n + 1) r), .sh (.int m), .un, .sh (.int n), .sh (.int 7), .un] = .ok .nx [.ow (pen cs (n + 1) r), .sh (.int m), .un, .sh (.int n), .sh (.int c), .un] := by
    by_cases h : 0 < cs.length
    · obtain ⟨e1, e2⟩ := fmod_pos (i := n) (j := ((cs.map D.int).length : Int)) (by omega)
      obtain ⟨x, hx, hm⟩ := atI_mod (xs := cs.map D.int) e1 e2
      obtain ⟨c, _, rfl⟩ := List.mem_map.mp hm
      refine ⟨c, ?_⟩
      have hx : ixD (.lst (cs.map D.int)) (.int (n.fmod ((cs.map D.int).length : Int))) = some (.int c) := hx
      unfold pen
      repeat' (first | exact hx | walk_at "u")
    · refine ⟨7, ?_⟩
      unfold pen
      repeat' (walk_at "u")
  obtain ⟨c, s5⟩ := s5
  have t18 : (10 : Int) ^ (18 : Int).toNat = 1000000000000000000 := rfl
  by_cases hc : n < cs.length ∧ (1000000000000000000 : Int) ≤ c
  · obtain ⟨h1, h2⟩ := hc
    rw [← t18] at h2
    obtain ⟨e1, e2⟩ := fmod_pos (i := c) (j := m) hm
    refine ⟨c.fmod m, n + 1, c.fdiv m, [.un, .sh (.int n), .sh (.int c), .un], e1, e2, rfl, b_nx (s1 _ .nil) (b_nx s2 (b_nx s3 (b_nx s4 (b_nx s5 (b_rt ?_)))))⟩
    unfold pen
    repeat' (walk_at "u")
  · obtain ⟨v, ρ5, v1, v2, ev⟩ := num_ok (T := T) (cf := cf) (F := F) (p := pen cs (n + 1) r) (c := c) hn hn2 hm hm2
    refine ⟨v, n + 1, r, _, v1, v2, rfl, b_nx (s1 _ .nil) (b_nx s2 (b_nx s3 (b_nx s4 (b_nx s5 (b_nx ?_ ev)))))⟩
    by_cases h1 : n < cs.length
    · have h2 : c < (10 : Int) ^ (18 : Int).toNat := by rw [t18]; omega
      unfold pen
      repeat' (walk_at "u")
    · unfold pen
      repeat' (walk_at "u")
/-- the drawing: a number below m -/
theorem draw_ok {id : Nat} (hT : T id = some ⟨2, [0], 6, irDraw⟩) (hB : id < BB) {cs : List Int} {n r m : Int} (hn : 0 ≤ n) (hn2 : n ≤ 2 ^ 60) (hm : 0 < m) (hm2 : m ≤ 2 ^ 200) : ∃ v n' r', 0 ≤ v ∧ v < m ∧ n ≤ n' ∧ n' ≤ n + 1 ∧ callF T F (k + 1) id [.ow (pen cs n r), .sh (.int m)] = .ok (false, .int v) [.ow (pen cs n' r'), .sh (.int m)] := by
  rw [run_at hT rfl hB]
  by_cases h : 0 < r
  · have e := draw_a (T := T) (cf := callF T F k) (F := F) (cs := cs) (n := n) h hm hm2
    obtain ⟨e1, e2⟩ := fmod_pos (i := r) (j := m) hm
    refine ⟨r.fmod m, n, r.fdiv m, e1, e2, Int.le_refl _, by omega, ?_⟩
    show fin 2 (evB T (callF T F k) F [0] irDraw [.ow (pen cs n r), .sh (.int m), .un, .un, .un, .un]) = _
    rw [e]
    rfl
  · obtain ⟨v, n', r', ρ', v1, v2, rfl, e⟩ := draw_b (T := T) (cf := callF T F k) (F := F) (cs := cs) (r := r) (by omega) hn hn2 hm hm2
    refine ⟨v, n + 1, r', v1, v2, by omega, Int.le_refl _, ?_⟩
    show fin 2 (evB T (callF T F k) F [0] irDraw [.ow (pen cs n r), .sh (.int m), .un, .un, .un, .un]) = _
    rw [e]
    rfl
end
end L2.T
end

section
set_option Elab.async false
set_option linter.all false
set_option maxRecDepth 100000
set_option maxHeartbeats 4000000
set_option autoImplicit false
namespace L2.T
open PySem PySem.Spec PyProof.Rows
theorem keysV_it {it : E} {d : D} {ds : List D} (h : itD d = some ds) : keysV it d = none := by
  cases d <;> first | (cases h; done) | (cases it <;> rfl)
section
variable {T : Nat → Option Fd} {F : Nat} {cf : CF} {mv : List Nat} {t : Tg} {it e : E} {bd : Ss} {d : D} {fr : Bool} {ds : List D} {ρ ρ1 ρ2 : List Sl} {body : List Sl → R Fl} {q : R Fl}
theorem f_nil : forGo mv t body [] ρ = .ok .nx ρ := rfl
theorem f_nx (h1 : asgT mv t false d ρ = some ρ1) (h2 : body ρ1 = .ok .nx ρ2) (h3 : forGo mv t body ds ρ2 = q) : forGo mv t body (d :: ds) ρ = q := by
  unfold forGo
  simp only [h1, h2, R.bind, h3]
theorem s_for (h1 : evE T cf it ρ = .ok (fr, d) ρ1) (h2 : itD d = some ds) (h3 : forGo mv t (evB T cf F mv bd) ds ρ1 = q) : evS T cf F mv (.for_ t it bd) ρ = q := by
  simp only [evS, h1, R.bind, keysV_it h2, h2, R.of, h3]
theorem e_isi {x : Op} {ks : List String} {b : Bool} (h1 : opOf e (evE T cf e) ρ = .ok x ρ1) (h2 : x.rs ρ1 = some d) (h3 : isiD d ks = some b) : evE T cf (.isi e ks) ρ = .ok (false, .bl b) ρ1 := by
  simp only [evE, h1, R.bind, h2, h3]
theorem e_rng {es : Es} {os : List Op} {xs : List D} (h1 : evEs T cf es ρ = .ok os ρ1) (h2 : rsL ρ1 os = some xs) (h3 : rngD xs = some ds) : evE T cf (.rng es) ρ = .ok (false, .lst ds) ρ1 := by
  simp only [evE, h1, R.bind, h2, h3, R.of]
end
end L2.T
end

section
set_option Elab.async false
set_option linter.all false
set_option maxRecDepth 100000
set_option maxHeartbeats 4000000
set_option autoImplicit false
namespace L2.T.O
open PySem PySem.Spec PyProof.Rows

/-! ### what is to hold behind a run -/
def Get {α : Type} (o : Option α) (k : α → Prop) : Prop := ∃ a, o = some a ∧ k a
def GetV (o : Option (Bool × D)) (k : Bool → D → Prop) : Prop := ∃ fr d, o = some (fr, d) ∧ k fr d
def GetP {α β : Type} (o : Option (α × β)) (k : α → β → Prop) : Prop := ∃ a b, o = some (a, b) ∧ k a b
def GetM (o : Option (D × Bool × D)) (k : D → Bool → D → Prop) : Prop := ∃ a b c, o = some (a, b, c) ∧ k a b c
def GetO (o : Option Sl) (k : D → Prop) : Prop := ∃ d, o = some (.ow d) ∧ k d
def Nf {α : Type} (a : α) (k : α → Prop) : Prop := k a
def Br (t : Bool) (A B : Prop) : Prop := match t with
  | true => A
  | false => B
def IsB (d : D) (k : Bool → Prop) : Prop := ∃ b, d = .bl b ∧ k b
def IsF (b : Bool) (k : Prop) : Prop := b = false ∧ k
def IsI (d : D) (k : Int → Prop) : Prop := ∃ i, d = .int i ∧ k i
def IsT (b : Bool) (k : Prop) : Prop := b = true ∧ k
def IsK (d : D) (k : List (Key × D) → Prop) : Prop := ∃ kvs, d = .dk kvs ∧ k kvs
def IsN (c : Nat) (d : D) (k : List D → Prop) : Prop := ∃ fs, d = .ins c fs ∧ k fs
/-- a comparison: of an instance of the class c, or not -/
def CmpX (c : Nat) (d : D) (A B : Prop) : Prop := match d with
  | .ins c' _ => c' = c ∧ A
  | _ => B
def MkQ (c : Nat) (k : List D → Prop) (fr : Bool) (d : D) (o : List Sl) : Prop := ∃ fs o', fr = false ∧ d = .non ∧ o = .ow (.ins c fs) :: o' ∧ k fs
/-- one instance of the class c, or none of an own class -/
def InK (c : Nat) (ds : List D) (A B : Prop) : Prop := match insC ds with
  | some c' => c' = c ∧ A
  | none => B
def IsS (d : D) (k : Str → Prop) : Prop := ∃ y, d = .str y ∧ k y
def fmtD : D → Option Str
  | .str y => if y.length ≤ sizeLine then some y else none
  | .int i => if i.natAbs.log2 < 1920 then some (toString i) else none
  | _ => none
abbrev XP := Exn → List Sl → Prop
def wv (r : R (Bool × D)) (Q : Bool → D → List Sl → Prop) (X : XP) : Prop := match r with
  | .ok x ρ => Q x.1 x.2 ρ
  | .ex x ρ => X x ρ
  | .stuck => False
def SqK (fl : Fl) (A : Prop) (B : Fl → Prop) : Prop := match fl with
  | .nx => A
  | fl => B fl
def LpK (fl : Fl) (A B : Prop) (C : Bool → D → Prop) : Prop := match fl with
  | .nx => A
  | .ct => A
  | .bk => B
  | .rt fr d => C fr d
def FinK (n : Nat) (Q : Bool → D → List Sl → Prop) (fl : Fl) (ρ : List Sl) : Prop := match fl with
  | .rt fr d => Nf (ρ.take n) (Q fr d)
  | .nx => Nf (ρ.take n) (Q false .non)
  | _ => False
def notV : E → Bool
  | .v _ => false
  | _ => true
theorem get_some {α : Type} {o : Option α} {k : α → Prop} {a : α} (h : o = some a) (q : k a) : Get o k := ⟨a, h, q⟩
theorem getv_some {o : Option (Bool × D)} {k : Bool → D → Prop} {fr : Bool} {d : D} (h : o = some (fr, d)) (q : k fr d) : GetV o k := ⟨fr, d, h, q⟩
theorem getm_some {o : Option (D × Bool × D)} {k : D → Bool → D → Prop} {a : D} {b : Bool} {c : D} (h : o = some (a, b, c)) (q : k a b c) : GetM o k := ⟨a, b, c, h, q⟩
theorem nf {α : Type} {a b : α} {k : α → Prop} (h : a = b) (q : k b) : Nf a k := by subst h; exact q
theorem br_t {A B : Prop} (h : A) : Br true A B := h
theorem br_f {A B : Prop} (h : B) : Br false A B := h
theorem br_s {t : Bool} {A B : Prop} (h1 : t = true → A) (h2 : t = false → B) : Br t A B := by
  cases t
  · exact h2 rfl
  · exact h1 rfl
theorem br_not {t : Bool} {A B : Prop} (h : Br t B A) : Br (!t) A B := by cases t <;> exact h
theorem br_eqt {t : Bool} {A B : Prop} (e : t = true) (h : A) : Br t A B := by subst e; exact h
theorem br_eqf {t : Bool} {A B : Prop} (e : t = false) (h : B) : Br t A B := by subst e; exact h
theorem br_dt {p : Prop} [i : Decidable p] {A B : Prop} (e : p) (h : A) : Br (decide p) A B := br_eqt (decide_eq_true e) h
theorem br_df {p : Prop} [i : Decidable p] {A B : Prop} (e : ¬ p) (h : B) : Br (decide p) A B := br_eqf (decide_eq_false e) h
theorem br_d {p : Prop} [i : Decidable p] {A B : Prop} (h1 : p → A) (h2 : ¬ p → B) : Br (decide p) A B := br_s (fun e => h1 (of_decide_eq_true e)) (fun e => h2 (of_decide_eq_false e))
theorem isb {b : Bool} {k : Bool → Prop} (h : k b) : IsB (.bl b) k := ⟨b, rfl, h⟩
theorem isF {k : Prop} (h : k) : IsF false k := ⟨rfl, h⟩
theorem isI {b : Int} {k : Int → Prop} (h : k b) : IsI (.int b) k := ⟨b, rfl, h⟩
theorem isT {b : Bool} {k : Prop} (e : b = true) (h : k) : IsT b k := ⟨e, h⟩
theorem isK {kvs : List (Key × D)} {k : List (Key × D) → Prop} (h : k kvs) : IsK (.dk kvs) k := ⟨kvs, rfl, h⟩
theorem isN {c : Nat} {fs : List D} {k : List D → Prop} (h : k fs) : IsN c (.ins c fs) k := ⟨fs, rfl, h⟩
theorem cx_ins {c : Nat} {fs : List D} {A B : Prop} (h : A) : CmpX c (.ins c fs) A B := ⟨rfl, h⟩
theorem cx_int {c : Nat} {i : Int} {A B : Prop} (h : B) : CmpX c (.int i) A B := h
theorem cx_str {c : Nat} {i : Str} {A B : Prop} (h : B) : CmpX c (.str i) A B := h
theorem cx_bl {c : Nat} {i : Bool} {A B : Prop} (h : B) : CmpX c (.bl i) A B := h
theorem cx_tup {c : Nat} {i : List D} {A B : Prop} (h : B) : CmpX c (.tup i) A B := h
theorem cx_lst {c : Nat} {i : List D} {A B : Prop} (h : B) : CmpX c (.lst i) A B := h
theorem cx_non {c : Nat} {A B : Prop} (h : B) : CmpX c .non A B := h
theorem mkq {c : Nat} {k : List D → Prop} {fs : List D} {o : List Sl} (h : k fs) : MkQ c k false .non (.ow (.ins c fs) :: o) := ⟨fs, o, rfl, rfl, rfl, h⟩
theorem sq_nx {A : Prop} {B : Fl → Prop} (h : A) : SqK .nx A B := h
theorem sq_rt {A : Prop} {B : Fl → Prop} {fr : Bool} {d : D} (h : B (.rt fr d)) : SqK (.rt fr d) A B := h
theorem sq_bk {A : Prop} {B : Fl → Prop} (h : B .bk) : SqK .bk A B := h
theorem sq_ct {A : Prop} {B : Fl → Prop} (h : B .ct) : SqK .ct A B := h
theorem lp_nx {A B : Prop} {C : Bool → D → Prop} (h : A) : LpK .nx A B C := h
theorem lp_ct {A B : Prop} {C : Bool → D → Prop} (h : A) : LpK .ct A B C := h
theorem lp_bk {A B : Prop} {C : Bool → D → Prop} (h : B) : LpK .bk A B C := h
theorem lp_rt {A B : Prop} {C : Bool → D → Prop} {fr : Bool} {d : D} (h : C fr d) : LpK (.rt fr d) A B C := h
theorem fin_rt {n : Nat} {Q : Bool → D → List Sl → Prop} {fr : Bool} {d : D} {ρ : List Sl} (h : Nf (ρ.take n) (Q fr d)) : FinK n Q (.rt fr d) ρ := h
theorem fin_nx {n : Nat} {Q : Bool → D → List Sl → Prop} {ρ : List Sl} (h : Nf (ρ.take n) (Q false .non)) : FinK n Q .nx ρ := h
theorem wv_eq {r : R (Bool × D)} {fr : Bool} {d : D} {ρ : List Sl} (h : wv r (fun f e o => f = fr ∧ e = d ∧ o = ρ) (fun _ _ => False)) : r = .ok (fr, d) ρ := by
  cases r with
  | ok x o =>
    obtain ⟨f, e⟩ := x
    obtain ⟨h1, h2, h3⟩ := h
    simp only at h1 h2
    rw [h1, h2, h3]
  | ex x o => exact h.elim
  | stuck => exact h.elim
theorem wv_ex_eq {r : R (Bool × D)} {x : Exn} {ρ : List Sl} (h : wv r (fun _ _ _ => False) (fun y o => y = x ∧ o = ρ)) : r = .ex x ρ := by
  cases r with
  | ok x o => exact h.elim
  | ex y o => rw [h.1, h.2]
  | stuck => exact h.elim
theorem wv_mono {r : R (Bool × D)} {Q Q' : Bool → D → List Sl → Prop} {X X' : XP} (h : wv r Q X) (hq : ∀ fr d ρ, Q fr d ρ → Q' fr d ρ) (hx : ∀ x ρ, X x ρ → X' x ρ) : wv r Q' X' := by
  cases r with
  | ok x o => exact hq _ _ _ h
  | ex x o => exact hx _ _ h
  | stuck => exact h.elim
theorem wv_exists {r : R (Bool × D)} {Q : Bool → D → List Sl → Prop} (h : wv r Q (fun _ _ => False)) : ∃ fr d ρ, r = .ok (fr, d) ρ ∧ Q fr d ρ := by
  cases r with
  | ok x o => exact ⟨x.1, x.2, o, rfl, h⟩
  | ex x o => exact h.elim
  | stuck => exact h.elim
theorem wv_ok {r : R (Bool × D)} {fr : Bool} {d : D} {ρ : List Sl} {Q : Bool → D → List Sl → Prop} {X : XP} (e : r = .ok (fr, d) ρ) (h : Q fr d ρ) : wv r Q X := by
  rw [e]; exact h
theorem wv_ex {r : R (Bool × D)} {x : Exn} {ρ : List Sl} {Q : Bool → D → List Sl → Prop} {X : XP} (e : r = .ex x ρ) (h : X x ρ) : wv r Q X := by
  rw [e]; exact h
theorem wp_eq {α : Type} {r : R α} {a : α} {ρ : List Sl} (h : r.wp (fun b o => b = a ∧ o = ρ) (fun _ _ => False)) : r = .ok a ρ := by
  cases r with
  | ok b o => rw [h.1, h.2]
  | ex x o => exact h.elim
  | stuck => exact h.elim
theorem wp_ok {α : Type} {r : R α} {a : α} {ρ : List Sl} {Q : α → List Sl → Prop} {X : XP} (e : r = .ok a ρ) (h : Q a ρ) : r.wp Q X := by
  rw [e]; exact h
theorem wp_mono' {α : Type} {r : R α} {Q Q' : α → List Sl → Prop} {X : XP} (h : r.wp Q X) (hq : ∀ a ρ, Q a ρ → Q' a ρ) : r.wp Q' X := R.wp_mono h hq fun _ _ q => q
section
variable {T : Nat → Option Fd} {cf : CF} {F k : Nat} {mv : List Nat} {ρ ρ1 : List Sl} {a b c e : E} {d : D} {fr : Bool} {i j n : Nat} {es lo hi : Es} {Q : Bool → D → List Sl → Prop} {QB : Bool → List Sl → Prop} {QO : Op → List Sl → Prop} {QL : List Op → List Sl → Prop} {QF : Fl → List Sl → Prop} {QI : Option Int → List Sl → Prop} {X : XP} {o : Operator} {p q : CmpOp} {s : S} {ss sa sb : Ss}
/-! #### operands -/
theorem wo_vs {f : Ev} (h : ρ[i]? = some (.sh d)) (q : QO (.sl i) ρ) : (opOf (.v i) f ρ).wp QO X := by simp only [opOf, h]; exact q
theorem wo_vo {f : Ev} (h : ρ[i]? = some (.ow d)) (q : QO (.sl i) ρ) : (opOf (.v i) f ρ).wp QO X := by simp only [opOf, h]; exact q
theorem wo_e (hn : notV e = true) (h : wv (evE T cf e ρ) (fun _ d ρ1 => QO (.val d) ρ1) X) : (opOf e (evE T cf e) ρ).wp QO X := by
  have this : opOf e (evE T cf e) ρ = (evE T cf e ρ).bind fun x ρ1 => .ok (.val x.2) ρ1 := by
    cases e <;> first | rfl | cases hn
  rw [this]
  cases he : evE T cf e ρ with
  | ok x o => rw [he] at h; exact h
  | ex x o => rw [he] at h; exact h
  | stuck => rw [he] at h; exact h
theorem gr_val {k : D → Prop} (h : k d) : Get ((Op.val d).rs ρ) k := ⟨_, rfl, h⟩
theorem gr_sh {k : D → Prop} (h : ρ[i]? = some (.sh d)) (q : k d) : Get ((Op.sl i).rs ρ) k := ⟨d, by simp only [Op.rs, h], q⟩
theorem gr_ow {k : D → Prop} (h : ρ[i]? = some (.ow d)) (q : k d) : Get ((Op.sl i).rs ρ) k := ⟨d, by simp only [Op.rs, h], q⟩
theorem gf_val {k : D → List Sl → Prop} (h : k d ρ) : GetP ((Op.val d).fz ρ) k := ⟨_, _, rfl, h⟩
theorem gf_sh {k : D → List Sl → Prop} (h : ρ[i]? = some (.sh d)) (q : k d ρ) : GetP ((Op.sl i).fz ρ) k := ⟨_, _, by simp only [Op.fz, h], q⟩
theorem gf_ow {k : D → List Sl → Prop} (h : ρ[i]? = some (.ow d)) (q : Nf (ρ.set i (.sh d)) fun ρ1 => k d ρ1) : GetP ((Op.sl i).fz ρ) k := ⟨_, _, by simp only [Op.fz, h], q⟩
theorem go_ow {k : D → Prop} (h : ρ[i]? = some (.ow d)) (q : k d) : GetO (ρ[i]?) k := ⟨_, h, q⟩
theorem grl_nil {k : List D → Prop} (h : k []) : Get (rsL ρ []) k := ⟨_, rfl, h⟩
theorem grl_cons {x : Op} {os : List Op} {k : List D → Prop} (h : Get (x.rs ρ) fun d => Get (rsL ρ os) fun ds => k (d :: ds)) : Get (rsL ρ (x :: os)) k := by
  obtain ⟨d, h1, ds, h2, q⟩ := h
  exact ⟨_, by simp only [rsL, h1, h2], q⟩
theorem gfl_nil {k : List D → List Sl → Prop} (h : k [] ρ) : GetP (fzL ρ []) k := ⟨_, _, rfl, h⟩
theorem gfl_cons {x : Op} {os : List Op} {k : List D → List Sl → Prop} (h : GetP (x.fz ρ) fun y ρ1 => GetP (fzL ρ1 os) fun ys ρ2 => k (y :: ys) ρ2) : GetP (fzL ρ (x :: os)) k := by
  obtain ⟨d, ρ1, h1, ds, ρ2, h2, q⟩ := h
  exact ⟨_, _, by simp only [fzL, h1, h2], q⟩
theorem w_binop {α : Type} {fa fb : Ev} {g : D → D → Option α} {K : α → List Sl → Prop} (h : (opOf a fa ρ).wp (fun x ρ1 => (opOf b fb ρ1).wp (fun y ρ2 => Get (x.rs ρ2) fun d => Get (y.rs ρ2) fun e => Get (g d e) fun r => K r ρ2) X) X) : (binOp a b fa fb g ρ).wp K X := by
  unfold binOp
  cases ha : opOf a fa ρ with
  | ok x ρ1 =>
    rw [ha] at h
    simp only [R.bind]
    simp only [R.wp] at h
    cases hb : opOf b fb ρ1 with
    | ok y ρ2 =>
      rw [hb] at h
      obtain ⟨d, h1, e, h2, r, h3, q⟩ := h
      simp only [h1, h2, h3, R.of]
      exact q
    | ex x o => rw [hb] at h; exact h
    | stuck => rw [hb] at h; exact h
  | ex x o => rw [ha] at h; exact h
  | stuck => rw [ha] at h; exact h
theorem wp_bind {α β : Type} {r : R α} {f : α → List Sl → R β} {K : β → List Sl → Prop} (h : r.wp (fun a ρ => (f a ρ).wp K X) X) : (r.bind f).wp K X := by
  cases r with
  | ok a ρ => exact h
  | ex x ρ => exact h
  | stuck => exact h
theorem wv_bind {α : Type} {r : R α} {f : α → List Sl → R (Bool × D)} (h : r.wp (fun a ρ => wv (f a ρ) Q X) X) : wv (r.bind f) Q X := by
  cases r with
  | ok a ρ => exact h
  | ex x ρ => exact h
  | stuck => exact h
theorem wp_bindv {α : Type} {r : R (Bool × D)} {f : Bool × D → List Sl → R α} {K : α → List Sl → Prop} (h : wv r (fun fr d ρ => (f (fr, d) ρ).wp K X) X) : (r.bind f).wp K X := by
  cases r with
  | ok a ρ => exact h
  | ex x ρ => exact h
  | stuck => exact h
theorem wv_bindv {r : R (Bool × D)} {f : Bool × D → List Sl → R (Bool × D)} (h : wv r (fun fr d ρ => wv (f (fr, d) ρ) Q X) X) : wv (r.bind f) Q X := by
  cases r with
  | ok a ρ => exact h
  | ex x ρ => exact h
  | stuck => exact h
theorem wp_wv {r : R (Bool × D)} (h : r.wp (fun x ρ => Q x.1 x.2 ρ) X) : wv r Q X := by
  cases r with
  | ok a ρ => exact h
  | ex x ρ => exact h
  | stuck => exact h
/-! #### expressions -/
theorem w_c (h : Q false d ρ) : wv (evE T cf (.c d) ρ) Q X := h
theorem w_vs (h : ρ[i]? = some (.sh d)) (q : Q false d ρ) : wv (evE T cf (.v i) ρ) Q X := wv_ok (e_vs h) q
theorem w_vo (h : ρ[i]? = some (.ow d)) (q : Nf (ρ.set i (.sh d)) fun ρ1 => Q false d ρ1) : wv (evE T cf (.v i) ρ) Q X := wv_ok (e_vo h rfl) q
theorem w_bin (h : (opOf a (evE T cf a) ρ).wp (fun x ρ1 => (opOf b (evE T cf b) ρ1).wp (fun y ρ2 => Get (x.rs ρ2) fun d => Get (y.rs ρ2) fun e => GetV (bop o d e) fun fr r => Q fr r ρ2) X) X) : wv (evE T cf (.bin o a b) ρ) Q X := by
  refine wp_wv (w_binop (R.wp_mono h (fun x ρ1 h => R.wp_mono h (fun y ρ2 h => ?_) fun _ _ h => h) fun _ _ h => h))
  obtain ⟨d, h1, e, h2, fr, r, h3, q⟩ := h
  exact ⟨d, h1, e, h2, (fr, r), h3, q⟩
theorem w_cmp (h : (opOf a (evE T cf a) ρ).wp (fun x ρ1 => (opOf b (evE T cf b) ρ1).wp (fun y ρ2 => Get (x.rs ρ2) fun d => Get (y.rs ρ2) fun e => Get (cop p d e) fun r => Q false (.bl r) ρ2) X) X) : wv (evE T cf (.cmp p a b) ρ) Q X := by
  simp only [evE]
  exact wv_bind (w_binop h)
theorem w_idx (h : (opOf a (evE T cf a) ρ).wp (fun x ρ1 => (opOf b (evE T cf b) ρ1).wp (fun y ρ2 => Get (x.rs ρ2) fun d => Get (y.rs ρ2) fun e => Get (ixD d e) fun r => Q false r ρ2) X) X) : wv (evE T cf (.idx a b) ρ) Q X := by
  simp only [evE]
  exact wv_bind (w_binop h)
theorem w_neg (h : (opOf a (evE T cf a) ρ).wp (fun x ρ1 => Get (x.rs ρ1) fun d => IsI d fun m => Q false (.int (-m)) ρ1) X) : wv (evE T cf (.neg a) ρ) Q X := by
  simp only [evE]
  refine wv_bind (R.wp_mono h (fun x ρ1 h => ?_) fun _ _ h => h)
  obtain ⟨d, h1, m, rfl, q⟩ := h
  simp only [h1]
  exact q
theorem w_tru {f : Ev} (h : wv (f ρ) (fun _ d ρ1 => Get d.truth fun t => QB t ρ1) X) : (tru f ρ).wp QB X := by
  unfold tru
  refine wp_bindv (wv_mono h (fun fr d ρ1 h => ?_) fun _ _ h => h)
  obtain ⟨t, h1, q⟩ := h
  simp only [h1, R.of]
  exact q
theorem w_not (h : (tru (evE T cf a) ρ).wp (fun t ρ1 => Q false (.bl (!t)) ρ1) X) : wv (evE T cf (.not a) ρ) Q X := by
  simp only [evE]
  exact wv_bind h
theorem w_and (h : wv (evE T cf a ρ) (fun _ d ρ1 => IsB d fun t => Br t (wv (evE T cf b ρ1) Q X) (Q false (.bl false) ρ1)) X) : wv (evE T cf (.and a b) ρ) Q X := by
  simp only [evE]
  refine wv_bindv (wv_mono h (fun fr d ρ1 h => ?_) fun _ _ h => h)
  obtain ⟨t, rfl, h⟩ := h
  cases t <;> exact h
theorem w_or (h : wv (evE T cf a ρ) (fun _ d ρ1 => IsB d fun t => Br t (Q false (.bl true) ρ1) (wv (evE T cf b ρ1) Q X)) X) : wv (evE T cf (.or a b) ρ) Q X := by
  simp only [evE]
  refine wv_bindv (wv_mono h (fun fr d ρ1 h => ?_) fun _ _ h => h)
  obtain ⟨t, rfl, h⟩ := h
  cases t <;> exact h
theorem w_ife (h : (tru (evE T cf c) ρ).wp (fun t ρ1 => Br t (wv (evE T cf a ρ1) Q X) (wv (evE T cf b ρ1) Q X)) X) : wv (evE T cf (.ife c a b) ρ) Q X := by
  simp only [evE]
  refine wv_bind (R.wp_mono h (fun t ρ1 h => ?_) fun _ _ h => h)
  cases t <;> exact h
theorem w_chn (h : (opOf a (evE T cf a) ρ).wp (fun x ρ1 => (opOf b (evE T cf b) ρ1).wp (fun y ρ2 => Get (x.rs ρ2) fun d => Get (y.rs ρ2) fun e => Get (cop p d e) fun r => Br r ((opOf c (evE T cf c) ρ2).wp (fun z ρ3 => Get (y.rs ρ3) fun e => Get (z.rs ρ3) fun g => Get (cop q e g) fun r => Q false (.bl r) ρ3) X) (Q false (.bl false) ρ2)) X) X) : wv (evE T cf (.chn p q a b c) ρ) Q X := by
  simp only [evE]
  refine wv_bind (R.wp_mono h (fun x ρ1 h => ?_) fun _ _ h => h)
  refine wv_bind (R.wp_mono h (fun y ρ2 h => ?_) fun _ _ h => h)
  obtain ⟨d, h1, e, h2, r, h3, h⟩ := h
  simp only [h1, h2, h3]
  cases r with
  | false => exact h
  | true =>
    refine wv_bind (R.wp_mono h (fun z ρ3 h => ?_) fun _ _ h => h)
    obtain ⟨d, h1, e, h2, r, h3, h⟩ := h
    simp only [h1, h2, h3]
    exact h
theorem wl_nil (h : QL [] ρ) : (evEs T cf .nil ρ).wp QL X := h
theorem wl_cons (h : (opOf e (evE T cf e) ρ).wp (fun x ρ1 => (evEs T cf es ρ1).wp (fun os ρ2 => QL (x :: os) ρ2) X) X) : (evEs T cf (.cons e es) ρ).wp QL X := by
  simp only [evEs]
  exact wp_bind (R.wp_mono h (fun x ρ1 h => wp_bind h) fun _ _ h => h)
theorem w_tup (h : (evEs T cf es ρ).wp (fun os ρ1 => GetP (fzL ρ1 os) fun ys ρ2 => ys.length ≤ sizeLine ∧ Q false (.tup ys) ρ2) X) : wv (evE T cf (.tup es) ρ) Q X := by
  simp only [evE]
  refine wv_bind (R.wp_mono h (fun os ρ1 h => ?_) fun _ _ h => h)
  obtain ⟨ds, ρ2, h1, h2, q⟩ := h
  simp only [h1, h2, if_true]
  exact q
theorem w_lst (h : (evEs T cf es ρ).wp (fun os ρ1 => GetP (fzL ρ1 os) fun ys ρ2 => ys.length ≤ sizeLine ∧ Q true (.lst ys) ρ2) X) : wv (evE T cf (.lst es) ρ) Q X := by
  simp only [evE]
  refine wv_bind (R.wp_mono h (fun os ρ1 h => ?_) fun _ _ h => h)
  obtain ⟨ds, ρ2, h1, h2, q⟩ := h
  simp only [h1, h2, if_true]
  exact q
theorem wi_nil (h : QI none ρ) : (evP T cf .nil ρ).wp QI X := h
theorem wi_cons (h : (opOf e (evE T cf e) ρ).wp (fun x ρ1 => Get (x.rs ρ1) fun d => IsI d fun m => QI (some m) ρ1) X) : (evP T cf (.cons e es) ρ).wp QI X := by
  simp only [evP]
  refine wp_bind (R.wp_mono h (fun x ρ1 h => ?_) fun _ _ h => h)
  obtain ⟨d, h1, m, rfl, q⟩ := h
  simp only [h1]
  exact q
theorem w_sli (h : (opOf a (evE T cf a) ρ).wp (fun x ρ1 => (evP T cf lo ρ1).wp (fun l ρ2 => (evP T cf hi ρ2).wp (fun h ρ3 => Get (x.rs ρ3) fun d => GetV (cutD d l h) fun fr r => Q fr r ρ3) X) X) X) : wv (evE T cf (.sli a lo hi) ρ) Q X := by
  simp only [evE]
  refine wv_bind (R.wp_mono h (fun x ρ1 h => ?_) fun _ _ h => h)
  refine wv_bind (R.wp_mono h (fun l ρ2 h => ?_) fun _ _ h => h)
  refine wv_bind (R.wp_mono h (fun u ρ3 h => ?_) fun _ _ h => h)
  obtain ⟨d, h1, fr, r, h2, q⟩ := h
  simp only [h1, h2, R.of]
  exact q
theorem w_bi {bn : String} (h : (evEs T cf es ρ).wp (fun os ρ1 => Get (rsL ρ1 os) fun ds => GetV (bfn bn ds) fun fr r => Q fr r ρ1) X) : wv (evE T cf (.bi bn es) ρ) Q X := by
  simp only [evE]
  refine wv_bind (R.wp_mono h (fun os ρ1 h => ?_) fun _ _ h => h)
  obtain ⟨ds, h1, fr, r, h2, q⟩ := h
  simp only [h1, h2, R.of]
  exact q
theorem w_isi {ks : List String} (h : (opOf a (evE T cf a) ρ).wp (fun x ρ1 => Get (x.rs ρ1) fun d => Get (isiD d ks) fun b => Q false (.bl b) ρ1) X) : wv (evE T cf (.isi a ks) ρ) Q X := by
  simp only [evE]
  refine wv_bind (R.wp_mono h (fun x ρ1 h => ?_) fun _ _ h => h)
  obtain ⟨d, h1, b, h2, q⟩ := h
  simp only [h1, h2]
  exact q
theorem w_lrg (h : (evEs T cf es ρ).wp (fun os ρ1 => Get (rsL ρ1 os) fun ds => Get (rngS ds) fun r => Q true (.lst r) ρ1) X) : wv (evE T cf (.lrg es) ρ) Q X := by
  simp only [evE]
  refine wv_bind (R.wp_mono h (fun os ρ1 h => ?_) fun _ _ h => h)
  obtain ⟨ds, h1, r, h2, q⟩ := h
  simp only [h1, h2, R.of]
  exact q
theorem w_rng (h : (evEs T cf es ρ).wp (fun os ρ1 => Get (rsL ρ1 os) fun ds => Get (rngD ds) fun r => Q false (.lst r) ρ1) X) : wv (evE T cf (.rng es) ρ) Q X := by
  simp only [evE]
  refine wv_bind (R.wp_mono h (fun os ρ1 h => ?_) fun _ _ h => h)
  obtain ⟨ds, h1, r, h2, q⟩ := h
  simp only [h1, h2, R.of]
  exact q
theorem w_dk0 (h : Q true (.dk []) ρ) : wv (evE T cf .dk0 ρ) Q X := h
theorem w_mm {m : String} {xs : List D} (h0 : ρ[i]? = some (.ow (.lst xs))) (h : (evEs T cf es ρ).wp (fun os ρ1 => GetP (fzL ρ1 os) fun ys ρ2 => GetO (ρ2[i]?) fun o => GetM (mmD m o ys) fun o' fr r => Nf (ρ2.set i (.ow o')) fun ρ3 => Q fr r ρ3) X) : wv (evE T cf (.mm m i es) ρ) Q X := by
  simp only [evE, h0]
  refine wv_bind (R.wp_mono h (fun os ρ1 h => ?_) fun _ _ h => h)
  obtain ⟨ds, ρ2, h1, o, h2, o', fr, r, h3, q⟩ := h
  simp only [h1, h2, h3]
  exact q
/-! #### calls -/
theorem w_call {f : Nat} (h : (evEs T cf es ρ).wp (fun os ρ1 => wv (callOp T cf f os ρ1) Q X) X) : wv (evE T cf (.call f es) ρ) Q X := by
  simp only [evE]
  exact wv_bind h
theorem w_cop {f : Nat} {os : List Op} {fd : Fd} {as : List Sl} (h1 : T f = some fd) (h2 : argsIn fd.mv 0 os ρ = some (as, ρ1)) (h3 : wv (cf f as) (fun fr d outs => Nf (argsOut os as outs ρ1) fun ρ2 => Q fr d ρ2) (fun x outs => Nf (argsOut os as outs ρ1) fun ρ2 => X x ρ2)) : wv (callOp T cf f os ρ) Q X := by
  simp only [callOp, h1, h2]
  cases hc : cf f as with
  | ok x o => rw [hc] at h3; exact h3
  | ex x o => rw [hc] at h3; exact h3
  | stuck => rw [hc] at h3; exact h3
theorem w_run {as : List Sl} {fd : Fd} (hT : T j = some fd) (hn : as.length = fd.n) (hj : j < BB) (h : (evB T (callF T F k) F fd.mv fd.body (as ++ List.replicate (fd.ns - fd.n) .un)).wp (FinK fd.n Q) (fun x ρ => Nf (ρ.take fd.n) (X x))) : wv (callF T F (k + 1) j as) Q X := by
  rw [run_at hT hn hj]
  cases he : evB T (callF T F k) F fd.mv fd.body (as ++ List.replicate (fd.ns - fd.n) .un) with
  | ok fl o =>
    rw [he] at h
    cases fl with
    | nx => exact h
    | rt fr d => exact h
    | bk => exact h.elim
    | ct => exact h.elim
  | ex x o => rw [he] at h; exact h
  | stuck => rw [he] at h; exact h
theorem w_said {m w : Nat} {r0 : Bool × D} {o0 : List Sl} (hd : cf (3 * BB) [] = .ok r0 o0) (h : wv (evE T cf e ρ) (fun _ d ρ1 => Q false (.tup [.str "told", d]) ρ1) (fun x ρ1 => x.c < m ∧ ∃ y fr o, cf w [.sh (.exc x.c)] = .ok (fr, .str y) o ∧ Q false (.tup [.str "refused", .str y]) ρ1)) : wv (evE T cf (.said m w e) ρ) Q X := by
  simp only [evE, hd]
  cases he : evE T cf e ρ with
  | ok x o => rw [he] at h; exact h
  | ex x o =>
    rw [he] at h
    obtain ⟨h1, y, fr, o1, h2, q⟩ := h
    simp only [saidR, h1, if_true, h2]
    exact q
  | stuck => rw [he] at h; exact h.elim
theorem w_me {m : String} (h : (opOf a (evE T cf a) ρ).wp (fun x ρ1 => Get (x.rs ρ1) fun o => IsT (isDk o) ((evEs T cf es ρ1).wp (fun os ρ2 => GetP (fzL ρ2 os) fun ds ρ3 => Get (x.rs ρ3) fun o => Get (meD m o ds) fun d => Q false d ρ3) X)) X) : wv (evE T cf (.me m a es) ρ) Q X := by
  simp only [evE]
  refine wv_bind (R.wp_mono h (fun x ρ1 h => ?_) fun _ _ h => h)
  obtain ⟨o, h1, h2, h⟩ := h
  simp only [h1, h2, if_true]
  refine wv_bind (R.wp_mono h (fun os ρ2 h => ?_) fun _ _ h => h)
  obtain ⟨ds, ρ3, h3, o, h4, d, h5, q⟩ := h
  simp only [h3, h4, h5]
  exact q
theorem w_dd (h : (opOf a (evE T cf a) ρ).wp (fun x ρ1 => (opOf b (evE T cf b) ρ1).wp (fun y ρ2 => Get (x.rs ρ2) fun k => GetP (y.fz ρ2) fun d ρ3 => Get (keyD k) fun key => Q true (.dk [(key, d)]) ρ3) X) X) : wv (evE T cf (.dd a b) ρ) Q X := by
  simp only [evE]
  refine wv_bind (R.wp_mono h (fun x ρ1 h => ?_) fun _ _ h => h)
  refine wv_bind (R.wp_mono h (fun y ρ2 h => ?_) fun _ _ h => h)
  obtain ⟨k, h1, d, ρ3, h2, key, h3, q⟩ := h
  simp only [h1, h2, h3]
  exact q
theorem w_fld {c : Nat} (h : (opOf a (evE T cf a) ρ).wp (fun x ρ1 => Get (x.rs ρ1) fun d => IsN c d fun fs => Get (fs[i]?) fun v => Q false v ρ1) X) : wv (evE T cf (.fld c i a) ρ) Q X := by
  simp only [evE]
  refine wv_bind (R.wp_mono h (fun x ρ1 h => ?_) fun _ _ h => h)
  obtain ⟨d, h1, fs, rfl, v, h2, q⟩ := h
  simp only [h1, if_true, h2]
  exact q
theorem w_isxI {c : Nat} (h : (opOf a (evE T cf a) ρ).wp (fun x ρ1 => Get (x.rs ρ1) fun d => CmpX c d (Q false (.bl true) ρ1) (IsT d.cls.isSome (Q false (.bl false) ρ1))) X) : wv (evE T cf (.isx c a) ρ) Q X := by
  simp only [evE]
  refine wv_bind (R.wp_mono h (fun x ρ1 h => ?_) fun _ _ h => h)
  obtain ⟨d, h1, h⟩ := h
  simp only [h1]
  by_cases hi : ∃ c' fs, d = .ins c' fs
  · obtain ⟨c', fs, rfl⟩ := hi
    obtain ⟨rfl, q⟩ := h
    simp only [if_true]
    exact q
  · cases d <;> first | exact absurd ⟨_, _, rfl⟩ hi | exact h.2 | (exact absurd h.1 (by simp [D.cls]))
theorem w_mk {c id : Nat} {r0 : Bool × D} {o0 : List Sl} (hd : cf (3 * BB) [] = .ok r0 o0) (h : (evEs T cf es ρ).wp (fun os ρ1 => GetP (fzL ρ1 os) fun ds ρ2 => Nf (ds.map Sl.sh) fun as => wv (cf id (.ow (.ins c []) :: as)) (MkQ c fun fs => Q false (.ins c fs) ρ2) (fun _ _ => False)) X) : wv (evE T cf (.mk c id es) ρ) Q X := by
  simp only [evE, hd]
  refine wv_bind (R.wp_mono h (fun os ρ1 h => ?_) fun _ _ h => h)
  obtain ⟨ds, ρ2, h1, h⟩ := h
  simp only [h1]
  have h : wv (cf id (.ow (.ins c []) :: ds.map Sl.sh)) (MkQ c fun fs => Q false (.ins c fs) ρ2) (fun _ _ => False) := h
  cases hc : cf id (.ow (.ins c []) :: ds.map Sl.sh) with
  | ok x o =>
    rw [hc] at h
    obtain ⟨f, e⟩ := x
    obtain ⟨fs, o', rfl, rfl, rfl, q⟩ := h
    simp only [if_true]
    exact q
  | ex x o => rw [hc] at h; exact h.elim
  | stuck => rw [hc] at h; exact h.elim
theorem ik_ins {c : Nat} {fs : List D} {A B : Prop} (h : A) : InK c [.ins c fs] A B := ⟨rfl, h⟩
theorem ik_no {c : Nat} {ds : List D} {A B : Prop} (e : insC ds = none) (h : B) : InK c ds A B := by unfold InK; rw [e]; exact h
theorem iss {y : Str} {k : Str → Prop} (h : k y) : IsS (.str y) k := ⟨y, rfl, h⟩
theorem w_ownx {c id : Nat} {rp : Bool} {r0 : Bool × D} {o0 : List Sl} (hd : cf (3 * BB) [] = .ok r0 o0) (h : (evEs T cf es ρ).wp (fun os ρ1 => Get (rsL ρ1 os) fun ds => InK c ds (GetP (fzL ρ1 os) fun ds ρ2 => Nf (ds.map Sl.sh) fun as => wv (cf id as) (fun fr d _ => IsF fr (IsS d fun y => Q false (.str y) ρ2)) (fun _ _ => False)) (GetV (bfn (if rp then "repr" else "str") ds) fun fr r => Q fr r ρ1)) X) : wv (evE T cf (.ownx rp c id es) ρ) Q X := by
  simp only [evE, hd]
  refine wv_bind (R.wp_mono h (fun os ρ1 h => ?_) fun _ _ h => h)
  obtain ⟨ds, h1, h⟩ := h
  simp only [h1]
  unfold InK at h
  cases ei : insC ds with
  | none =>
    rw [ei] at h
    obtain ⟨fr, r, h2, q⟩ := h
    simp only [h2, R.of]
    exact q
  | some c' =>
    rw [ei] at h
    obtain ⟨rfl, ds2, ρ2, h2, h⟩ := h
    simp only [if_true, h2]
    have h : wv (cf id (ds2.map Sl.sh)) (fun fr d _ => IsF fr (IsS d fun y => Q false (.str y) ρ2)) (fun _ _ => False) := h
    cases hc : cf id (ds2.map Sl.sh) with
    | ok x o =>
      rw [hc] at h
      obtain ⟨f, e⟩ := x
      obtain ⟨rfl, y, rfl, q⟩ := h
      exact q
    | ex _ _ => rw [hc] at h; exact h.elim
    | stuck => rw [hc] at h; exact h.elim
theorem w_ownxT {c id : Nat} {r0 : Bool × D} {o0 : List Sl} (hd : cf (3 * BB) [] = .ok r0 o0) (h : (evEs T cf es ρ).wp (fun os ρ1 => Get (rsL ρ1 os) fun ds => InK c ds (GetP (fzL ρ1 os) fun ds ρ2 => Nf (ds.map Sl.sh) fun as => wv (cf id as) (fun fr d _ => IsF fr (IsS d fun y => Q false (.str y) ρ2)) (fun _ _ => False)) (GetV (bfn "repr" ds) fun fr r => Q fr r ρ1)) X) : wv (evE T cf (.ownx true c id es) ρ) Q X := w_ownx hd h
theorem w_ownxF {c id : Nat} {r0 : Bool × D} {o0 : List Sl} (hd : cf (3 * BB) [] = .ok r0 o0) (h : (evEs T cf es ρ).wp (fun os ρ1 => Get (rsL ρ1 os) fun ds => InK c ds (GetP (fzL ρ1 os) fun ds ρ2 => Nf (ds.map Sl.sh) fun as => wv (cf id as) (fun fr d _ => IsF fr (IsS d fun y => Q false (.str y) ρ2)) (fun _ _ => False)) (GetV (bfn "str" ds) fun fr r => Q fr r ρ1)) X) : wv (evE T cf (.ownx false c id es) ρ) Q X := w_ownx hd h
theorem w_fmt (h : (opOf a (evE T cf a) ρ).wp (fun x ρ1 => Get (x.rs ρ1) fun d => Get (fmtD d) fun y => Q false (.str y) ρ1) X) : wv (evE T cf (.fmt a) ρ) Q X := by
  simp only [evE]
  refine wv_bind (R.wp_mono h (fun x ρ1 h => ?_) fun _ _ h => h)
  obtain ⟨d, h1, y, h2, q⟩ := h
  simp only [h1]
  cases d <;> simp only [fmtD] at h2 <;> (try (cases h2; done))
  · split at h2
    · rename_i hz
      cases h2
      simp only [hz, if_true]
      exact q
    · cases h2
  · split at h2
    · rename_i hz
      cases h2
      simp only [hz, if_true]
      exact q
    · cases h2
theorem wj_nil {acc : Str} {QJ : Str → List Sl → Prop} (h : QJ acc ρ) : (evJ T cf .nil acc ρ).wp QJ X := h
theorem wj_cons {acc : Str} {QJ : Str → List Sl → Prop} (h : wv (evE T cf e ρ) (fun _ d ρ1 => IsS d fun y => (acc ++ y).length ≤ sizeLine ∧ (evJ T cf es (acc ++ y) ρ1).wp QJ X) X) : (evJ T cf (.cons e es) acc ρ).wp QJ X := by
  simp only [evJ]
  refine wp_bindv (wv_mono h (fun fr d ρ1 h => ?_) fun _ _ h => h)
  obtain ⟨y, rfl, h1, q⟩ := h
  simp only [h1, if_true]
  exact q
theorem w_fst (h : (evJ T cf es Str.empty ρ).wp (fun y ρ1 => Q false (.str y) ρ1) X) : wv (evE T cf (.fst es) ρ) Q X := by
  simp only [evE]
  exact wv_bind h
theorem w_cmpx {c id : Nat} {ne : Bool} {r0 : Bool × D} {o0 : List Sl} (hd : cf (3 * BB) [] = .ok r0 o0) (h : (opOf a (evE T cf a) ρ).wp (fun x ρ1 => (opOf b (evE T cf b) ρ1).wp (fun y ρ2 => Get (x.rs ρ2) fun d => CmpX c d (GetP (fzL ρ2 [x, y]) fun ds ρ3 => IsT (tyK c ds) (Nf (ds.map Sl.sh) fun as => wv (cf id as) (fun fr d _ => IsF fr (IsB d fun b => Q false (.bl (if ne then !b else b)) ρ3)) (fun _ _ => False))) (Get (y.rs ρ2) fun e => Get (cop (if ne then .NotEq else .Eq) d e) fun r => Q false (.bl r) ρ2)) X) X) : wv (evE T cf (.cmpx ne c id a b) ρ) Q X := by
  simp only [evE, hd]
  refine wv_bind (R.wp_mono h (fun x ρ1 h => ?_) fun _ _ h => h)
  refine wv_bind (R.wp_mono h (fun y ρ2 h => ?_) fun _ _ h => h)
  obtain ⟨d, h1, h⟩ := h
  simp only [h1]
  by_cases hi : ∃ c' fs, d = .ins c' fs
  · obtain ⟨c', fs, rfl⟩ := hi
    obtain ⟨rfl, ds, ρ3, h2, h3, h⟩ := h
    simp only [if_true, h2, h3]
    have h : wv (cf id (ds.map Sl.sh)) (fun fr d _ => IsF fr (IsB d fun b => Q false (.bl (if ne then !b else b)) ρ3)) (fun _ _ => False) := h
    cases hc : cf id (ds.map Sl.sh) with
    | ok x o =>
      rw [hc] at h
      obtain ⟨f, e⟩ := x
      obtain ⟨rfl, b, rfl, q⟩ := h
      exact q
    | ex x o => rw [hc] at h; exact h.elim
    | stuck => rw [hc] at h; exact h.elim
  · have h : Get (y.rs ρ2) fun e => Get (cop (if ne then .NotEq else .Eq) d e) fun r => Q false (.bl r) ρ2 := by
      cases d <;> first | exact absurd ⟨_, _, rfl⟩ hi | exact h
    obtain ⟨e, h2, r, h3, q⟩ := h
    have g : wv (match y.rs ρ2 with
      | some e => (match cop (if ne then .NotEq else .Eq) d e with
        | some b => R.ok (false, D.bl b) ρ2
        | none => .stuck)
      | none => .stuck) Q X := by
      simp only [h2, h3]
      exact q
    cases d <;> first | exact absurd ⟨_, _, rfl⟩ hi | exact g
theorem w_mmk {kvs0 : List (Key × D)} (h0 : ρ[i]? = some (.ow (.dk kvs0))) (h : (evEs T cf es ρ).wp (fun os ρ1 => GetP (fzL ρ1 os) fun ds ρ2 => GetO (ρ2[i]?) fun o => IsK o fun kvs => GetM (popD kvs ds) fun o' fr x => Nf (ρ2.set i (.ow o')) fun ρ3 => Q fr x ρ3) X) : wv (evE T cf (.mm "pop" i es) ρ) Q X := by
  simp only [evE, h0, if_true]
  refine wv_bind (R.wp_mono h (fun os ρ1 h => ?_) fun _ _ h => h)
  obtain ⟨ds, ρ2, h1, o, h2, kvs, rfl, o', fr, x, h3, q⟩ := h
  simp only [h1, h2, h3]
  exact q
/-! #### statements -/
theorem ws_fset {c : Nat} (h : (opOf e (evE T cf e) ρ).wp (fun y ρ1 => GetP (y.fz ρ1) fun d ρ2 => GetO (ρ2[i]?) fun o => IsN c o fun fs => IsT (decide (fs.length = j)) (Nf (ρ2.set i (.ow (.ins c (fs ++ [d])))) fun ρ3 => QF .nx ρ3)) X) : (evS T cf F mv (.fset c i j e) ρ).wp QF X := by
  simp only [evS]
  refine wp_bind (R.wp_mono h (fun y ρ1 h => ?_) fun _ _ h => h)
  obtain ⟨d, ρ2, h1, o, h2, fs, rfl, h3, q⟩ := h
  simp only [h1, h2]
  have h3 := of_decide_eq_true h3
  simp only [h3, and_self, if_true]
  exact q
theorem ws_nil (h : QF .nx ρ) : (evB T cf F mv .nil ρ).wp QF X := h
theorem ws_cons (h : (evS T cf F mv s ρ).wp (fun fl ρ1 => SqK fl ((evB T cf F mv ss ρ1).wp QF X) (fun fl => QF fl ρ1)) X) : (evB T cf F mv (.cons s ss) ρ).wp QF X := by
  simp only [evB]
  refine wp_bind (R.wp_mono h (fun fl ρ1 h => ?_) fun _ _ h => h)
  cases fl <;> exact h
/-- a statement apart from what follows -/
theorem ws_cut {P : List Sl → Prop} (h1 : (evS T cf F mv s ρ).wp (fun fl ρ1 => fl = .nx ∧ P ρ1) X) (h2 : ∀ ρ1, P ρ1 → (evB T cf F mv ss ρ1).wp QF X) : (evB T cf F mv (.cons s ss) ρ).wp QF X :=
  ws_cons (R.wp_mono h1 (fun fl ρ1 h => by obtain ⟨rfl, h⟩ := h; exact h2 _ h) fun _ _ h => h)
theorem ws_asg {t : Tg} (h : wv (evE T cf e ρ) (fun fr d ρ1 => Get (asgT mv t fr d ρ1) fun ρ2 => QF .nx ρ2) X) : (evS T cf F mv (.asg t e) ρ).wp QF X := by
  simp only [evS]
  refine wp_bindv (wv_mono h (fun fr d ρ1 h => ?_) fun _ _ h => h)
  obtain ⟨ρ2, h1, q⟩ := h
  simp only [h1, R.of]
  exact q
theorem wy_nil {K : List (Bool × D) → List Sl → Prop} (h : K [] ρ) : (evVs T cf .nil ρ).wp K X := h
theorem wy_cons {K : List (Bool × D) → List Sl → Prop} (h : wv (evE T cf e ρ) (fun fr d ρ1 => (evVs T cf es ρ1).wp (fun xs ρ2 => K ((fr, d) :: xs) ρ2) X) X) : (evVs T cf (.cons e es) ρ).wp K X := by
  simp only [evVs]
  refine wp_bindv (wv_mono h (fun fr d ρ1 h => ?_) fun _ _ h => h)
  exact wp_bind h
theorem ws_par {is : List Nat} (h : (evVs T cf es ρ).wp (fun xs ρ1 => Get (parIn mv is xs ρ1) fun ρ2 => QF .nx ρ2) X) : (evS T cf F mv (.par is es) ρ).wp QF X := by
  simp only [evS]
  refine wp_bind (R.wp_mono h (fun xs ρ1 h => ?_) fun _ _ h => h)
  obtain ⟨ρ2, h1, q⟩ := h
  simp only [h1, R.of]
  exact q
theorem gp_nil {K : List Sl → Prop} (h : K ρ) : Get (parIn mv [] [] ρ) K := ⟨_, rfl, h⟩
theorem gp_sh {is : List Nat} {ds : List (Bool × D)} {K : List Sl → Prop} (h : mv.contains i = false) (q : Nf (ρ.set i (.sh d)) fun ρ1 => Get (parIn mv is ds ρ1) K) : Get (parIn mv (i :: is) ((false, d) :: ds) ρ) K := by
  obtain ⟨ρ1, h1, q⟩ := q
  refine ⟨ρ1, ?_, q⟩
  have e : asgN mv i false d ρ = some (ρ.set i (.sh d)) := by simp only [asgN, h]; rfl
  simp only [parIn, e, h1]
theorem gp_ow {is : List Nat} {ds : List (Bool × D)} {K : List Sl → Prop} (h : mv.contains i = false) (q : Nf (ρ.set i (.ow d)) fun ρ1 => Get (parIn mv is ds ρ1) K) : Get (parIn mv (i :: is) ((true, d) :: ds) ρ) K := by
  obtain ⟨ρ1, h1, q⟩ := q
  refine ⟨ρ1, ?_, q⟩
  have e : asgN mv i true d ρ = some (ρ.set i (.ow d)) := by simp only [asgN, h]; rfl
  simp only [parIn, e, h1]
theorem ga_sh {K : List Sl → Prop} (h : mv.contains i = false) (q : Nf (ρ.set i (.sh d)) K) : Get (asgT mv (.nm i) false d ρ) K := ⟨_, a_nms h rfl, q⟩
theorem ga_ow {K : List Sl → Prop} (h : mv.contains i = false) (q : Nf (ρ.set i (.ow d)) K) : Get (asgT mv (.nm i) true d ρ) K := ⟨_, a_nmo h rfl, q⟩
theorem ga_tup {ts : List Tg} {ds : List D} {K : List Sl → Prop} (h : Get (asgTs mv ts ds ρ) K) : Get (asgT mv (.tu ts) fr (.tup ds) ρ) K := by
  obtain ⟨ρ1, h, q⟩ := h
  exact ⟨ρ1, a_tup h, q⟩
theorem ga_lst {ts : List Tg} {ds : List D} {K : List Sl → Prop} (h : Get (asgTs mv ts ds ρ) K) : Get (asgT mv (.tu ts) fr (.lst ds) ρ) K := by
  obtain ⟨ρ1, h, q⟩ := h
  exact ⟨ρ1, a_lst h, q⟩
theorem gas_nil {K : List Sl → Prop} (h : K ρ) : Get (asgTs mv [] [] ρ) K := ⟨_, rfl, h⟩
theorem gas_cons {t : Tg} {ts : List Tg} {ds : List D} {K : List Sl → Prop} (h : Get (asgT mv t false d ρ) fun ρ1 => Get (asgTs mv ts ds ρ1) K) : Get (asgTs mv (t :: ts) (d :: ds) ρ) K := by
  obtain ⟨ρ1, h1, ρ2, h2, q⟩ := h
  exact ⟨ρ2, as_cons h1 h2, q⟩
theorem ws_asgs {is : List Nat} (h : wv (evE T cf e ρ) (fun fr d ρ1 => IsF fr (Get (asm mv is d ρ1) fun ρ2 => QF .nx ρ2)) X) : (evS T cf F mv (.asgs is e) ρ).wp QF X := by
  simp only [evS]
  refine wp_bindv (wv_mono h (fun fr d ρ1 h => ?_) fun _ _ h => h)
  obtain ⟨rfl, ρ2, h1, q⟩ := h
  simp only [Bool.false_eq_true, if_false, h1, R.of]
  exact q
theorem gm_nil {K : List Sl → Prop} (h : K ρ) : Get (asm mv [] d ρ) K := ⟨_, rfl, h⟩
theorem gm_cons {is : List Nat} {K : List Sl → Prop} (h : mv.contains i = false) (q : Nf (ρ.set i (.sh d)) fun ρ1 => Get (asm mv is d ρ1) K) : Get (asm mv (i :: is) d ρ) K := by
  obtain ⟨ρ1, h1, q⟩ := q
  refine ⟨ρ1, ?_, q⟩
  have e : asgN mv i false d ρ = some (ρ.set i (.sh d)) := by simp only [asgN, h]; rfl
  simp only [asm, e, h1]
theorem w_callk {f : Nat} {es ks : Es} {pm : List (Sum Nat D)} (h : (evEs T cf es ρ).wp (fun os ρ1 => (evEs T cf ks ρ1).wp (fun zs ρ2 => Get (pmO pm (os ++ zs)) fun os' => wv (callOp T cf f os' ρ2) Q X) X) X) : wv (evE T cf (.callk f es ks pm) ρ) Q X := by
  simp only [evE]
  refine wv_bind (R.wp_mono h (fun os ρ1 h => ?_) fun _ _ h => h)
  refine wv_bind (R.wp_mono h (fun zs ρ2 h => ?_) fun _ _ h => h)
  obtain ⟨os', h1, q⟩ := h
  simp only [h1]
  exact q
theorem ws_aug (h : (opOf (.v i) (rdV i) ρ).wp (fun x ρ1 => (opOf e (evE T cf e) ρ1).wp (fun y ρ2 => Get (x.rs ρ2) fun d => Get (y.rs ρ2) fun g => Get (augD o d g) fun r => Get (asgT mv (.nm i) false r ρ2) fun ρ3 => QF .nx ρ3) X) X) : (evS T cf F mv (.aug o i e) ρ).wp QF X := by
  simp only [evS]
  refine wp_bind (w_binop (R.wp_mono h (fun x ρ1 h => R.wp_mono h (fun y ρ2 h => ?_) fun _ _ h => h) fun _ _ h => h))
  obtain ⟨d, h1, g, h2, r, h3, ρ3, h4, q⟩ := h
  refine ⟨d, h1, g, h2, r, h3, ?_⟩
  simp only [asgT] at h4
  simp only [h4, R.of]
  exact q
theorem ws_six {ix : E} (h0 : ρ[i]? = some (.ow d)) (h : (opOf e (evE T cf e) ρ).wp (fun y ρ1 => (opOf ix (evE T cf ix) ρ1).wp (fun k ρ2 => GetP (y.fz ρ2) fun z ρ3 => Get (k.rs ρ3) fun kd => GetO (ρ3[i]?) fun o => Get (setD o kd z) fun o' => Nf (ρ3.set i (.ow o')) fun ρ4 => QF .nx ρ4) X) X) : (evS T cf F mv (.six i ix e) ρ).wp QF X := by
  simp only [evS, h0]
  refine wp_bind (R.wp_mono h (fun y ρ1 h => ?_) fun _ _ h => h)
  refine wp_bind (R.wp_mono h (fun k ρ2 h => ?_) fun _ _ h => h)
  obtain ⟨z, ρ3, h1, kd, h2, o, h3, o', h4, q⟩ := h
  simp only [h1, h2, h3, h4]
  exact q
theorem ws_ex (h : wv (evE T cf e ρ) (fun _ _ ρ1 => QF .nx ρ1) X) : (evS T cf F mv (.ex e) ρ).wp QF X := by
  simp only [evS]
  exact wp_bindv h
theorem ws_ret (h : wv (evE T cf e ρ) (fun fr d ρ1 => QF (.rt fr d) ρ1) X) : (evS T cf F mv (.ret e) ρ).wp QF X := by
  simp only [evS]
  exact wp_bindv h
theorem ws_ite (h : (tru (evE T cf c) ρ).wp (fun t ρ1 => Br t ((evB T cf F mv sa ρ1).wp QF X) ((evB T cf F mv sb ρ1).wp QF X)) X) : (evS T cf F mv (.ite c sa sb) ρ).wp QF X := by
  simp only [evS]
  refine wp_bind (R.wp_mono h (fun t ρ1 h => ?_) fun _ _ h => h)
  cases t <;> exact h
theorem ws_for {t : Tg} (h : wv (evE T cf e ρ) (fun _ d ρ1 => Get (itD d) fun ds => (forGo mv t (evB T cf F mv ss) ds ρ1).wp QF X) X) : (evS T cf F mv (.for_ t e ss) ρ).wp QF X := by
  simp only [evS]
  refine wp_bindv (wv_mono h (fun fr d ρ1 h => ?_) fun _ _ h => h)
  obtain ⟨ds, h1, q⟩ := h
  simp only [keysV_it h1, h1, R.of, R.bind]
  exact q
/-- a for over a dict that a name holds -/
theorem ws_forK {t : Tg} (h : wv (evE T cf (.v i) ρ) (fun _ d ρ1 => IsK d fun kvs => (forGo mv t (evB T cf F mv ss) ((kvs.map (·.1)).map keyV) ρ1).wp QF (fun _ _ => False)) X) : (evS T cf F mv (.for_ t (.v i) ss) ρ).wp QF X := by
  simp only [evS]
  refine wp_bindv (wv_mono h (fun fr d ρ1 h => ?_) fun _ _ h => h)
  obtain ⟨kvs, rfl, q⟩ := h
  show (R.noex (forGo mv t (evB T cf F mv ss) ((kvs.map (·.1)).map keyV) ρ1)).wp QF X
  cases hf : forGo mv t (evB T cf F mv ss) ((kvs.map (·.1)).map keyV) ρ1 with
  | ok fl o => rw [hf] at q; exact q
  | ex x o => rw [hf] at q; exact q.elim
  | stuck => rw [hf] at q; exact q.elim
theorem wf_nil {t : Tg} {body : List Sl → R Fl} (h : QF .nx ρ) : (forGo mv t body [] ρ).wp QF X := h
theorem wf_cons {t : Tg} {body : List Sl → R Fl} {ds : List D} (h : Get (asgT mv t false d ρ) fun ρ1 => (body ρ1).wp (fun fl ρ2 => LpK fl ((forGo mv t body ds ρ2).wp QF X) (QF .nx ρ2) (fun fr d => QF (.rt fr d) ρ2)) X) : (forGo mv t body (d :: ds) ρ).wp QF X := by
  obtain ⟨ρ1, h1, h⟩ := h
  unfold forGo
  simp only [h1]
  refine wp_bind (R.wp_mono h (fun fl ρ2 h => ?_) fun _ _ h => h)
  cases fl <;> exact h
theorem wf_inv {t : Tg} {body : List Sl → R Fl} (I : List D → List Sl → Prop) {ds : List D} (h0 : I ds ρ) (h1 : ∀ d ds' ρ, (∃ pre, ds = pre ++ d :: ds') → I (d :: ds') ρ → Get (asgT mv t false d ρ) fun ρ1 => (body ρ1).wp (fun fl ρ2 => LpK fl (I ds' ρ2) (QF .nx ρ2) (fun fr d => QF (.rt fr d) ρ2)) X) (h2 : ∀ ρ, I [] ρ → QF .nx ρ) : (forGo mv t body ds ρ).wp QF X := by
  suffices g : ∀ (l pre : List D) (ρ : List Sl), ds = pre ++ l → I l ρ → (forGo mv t body l ρ).wp QF X from g ds [] ρ rfl h0
  intro l
  induction l with
  | nil => exact fun _ ρ _ hi => h2 ρ hi
  | cons d l ih =>
    intro pre ρ e hi
    refine wf_cons ?_
    obtain ⟨ρ1, e1, hb⟩ := h1 d l ρ ⟨pre, e⟩ hi
    refine ⟨ρ1, e1, R.wp_mono hb (fun fl ρ2 hl => ?_) fun _ _ h => h⟩
    have e2 : ds = (pre ++ [d]) ++ l := by rw [e]; simp
    cases fl with
    | nx => exact ih _ ρ2 e2 hl
    | ct => exact ih _ ρ2 e2 hl
    | bk => exact hl
    | rt fr d => exact hl
theorem ws_whl (h : (whlGo (tru (evE T cf c)) (evB T cf F mv ss) F ρ).wp QF X) : (evS T cf F mv (.whl c ss) ρ).wp QF X := h
theorem ww_inv {cd : List Sl → R Bool} {body : List Sl → R Fl} (I : Nat → List Sl → Prop) (h : ∀ n ρ, I n ρ → (cd ρ).wp (fun b ρ1 => Br b ((body ρ1).wp (fun fl ρ2 => LpK fl (∃ m, m < n ∧ I m ρ2) (QF .nx ρ2) (fun fr d => QF (.rt fr d) ρ2)) X) (QF .nx ρ1)) X) {f n : Nat} (hf : n < f) (h0 : I n ρ) : (whlGo cd body f ρ).wp QF X := by
  induction f generalizing n ρ with
  | zero => omega
  | succ f ih =>
    unfold whlGo
    refine wp_bind (R.wp_mono (h n ρ h0) (fun b ρ1 h => ?_) fun _ _ h => h)
    cases b with
    | false => exact h
    | true =>
      refine wp_bind (R.wp_mono (show R.wp (body ρ1) _ _ from h) (fun fl ρ2 h => ?_) fun _ _ h => h)
      cases fl with
      | nx => obtain ⟨m, hm, hi⟩ := h; exact ih (by omega) hi
      | ct => obtain ⟨m, hm, hi⟩ := h; exact ih (by omega) hi
      | bk => exact h
      | rt fr d => exact h
theorem ws_brk (h : QF .bk ρ) : (evS T cf F mv .brk ρ).wp QF X := h
theorem ws_cnt (h : QF .ct ρ) : (evS T cf F mv .cnt ρ).wp QF X := h
theorem ws_pas (h : QF .nx ρ) : (evS T cf F mv .pas ρ).wp QF X := h
theorem ws_rse {c : Nat} (h : X ⟨c, []⟩ ρ) : (evS T cf F mv (.rse c) ρ).wp QF X := h
/-! #### comprehensions -/
theorem w_lc {own : List Nat} {t : Tg} {it el : E} {ifs : Es} (h : wv (evE T cf it ρ) (fun _ d ρ1 => Get (itD d) fun ds => noOwn own ρ1 = true ∧ (lcGo own t (evTs T cf ifs) (evE T cf el) ds [] ρ1).wp (fun acc ρ2 => Nf (restore own ρ1 ρ2) fun ρ3 => Q true (.lst acc) ρ3) (fun _ _ => False)) X) : wv (evE T cf (.lc own t it ifs el) ρ) Q X := by
  simp only [evE]
  refine wv_bind (wp_bindv (wv_mono h (fun fr d ρ1 h => ?_) fun _ _ h => h))
  obtain ⟨ds, h1, h2, h⟩ := h
  simp only [h1, R.of, R.wp, h2, if_true]
  cases hl : lcGo own t (evTs T cf ifs) (evE T cf el) ds [] ρ1 with
  | ok acc ρ2 => rw [hl] at h; exact h
  | ex x o => rw [hl] at h; exact h.elim
  | stuck => rw [hl] at h; exact h.elim
theorem wt_nil (h : QB true ρ) : (evTs T cf .nil ρ).wp QB X := h
theorem wt_cons (h : (tru (evE T cf e) ρ).wp (fun t ρ1 => Br t ((evTs T cf es ρ1).wp QB X) (QB false ρ1)) X) : (evTs T cf (.cons e es) ρ).wp QB X := by
  simp only [evTs]
  refine wp_bind (R.wp_mono h (fun t ρ1 h => ?_) fun _ _ h => h)
  cases t <;> exact h
theorem wg_nil {own : List Nat} {t : Tg} {tests : List Sl → R Bool} {el : Ev} {acc : List D} {K : List D → List Sl → Prop} (h : K acc ρ) : (lcGo own t tests el [] acc ρ).wp K X := h
theorem wg_cons {own : List Nat} {t : Tg} {tests : List Sl → R Bool} {el : Ev} {acc ds : List D} {K : List D → List Sl → Prop} (h : Nf (wipeS own ρ) fun ρ0 => Get (asgT [] t false d ρ0) fun ρ1 => (tests ρ1).wp (fun b ρ2 => Br b (wv (el ρ2) (fun _ x ρ3 => acc.length < sizeLine ∧ Nf (acc ++ [x]) fun acc' => (lcGo own t tests el ds acc' ρ3).wp K X) X) ((lcGo own t tests el ds acc ρ2).wp K X)) X) : (lcGo own t tests el (d :: ds) acc ρ).wp K X := by
  obtain ⟨ρ1, h1, h⟩ := h
  unfold lcGo
  simp only [h1]
  refine wp_bind (R.wp_mono h (fun b ρ2 h => ?_) fun _ _ h => h)
  cases b with
  | false => exact h
  | true =>
    simp only [Br] at h
    refine wp_bindv (wv_mono h (fun fr x ρ3 h => ?_) fun _ _ h => h)
    obtain ⟨h2, h⟩ := h
    simp only [h2, if_true]
    exact h
end
/-- a comprehension over any data: each item by itself -/
theorem lc_any {own : List Nat} {t : Tg} {tests : List Sl → R Bool} {el : Ev} {X : XP} {w : List Sl} (f : D → Option D) : ∀ {ds acc : List D} {ρ : List Sl} {K : List D → List Sl → Prop}, wipeS own ρ = w → acc.length + ds.length ≤ sizeLine →
    (∀ d, d ∈ ds → Get (asgT [] t false d w) fun ρ1 => (tests ρ1).wp (fun b ρ2 => Br b (wv (el ρ2) (fun _ x ρ3 => f d = some x ∧ wipeS own ρ3 = w) X) (f d = none ∧ wipeS own ρ2 = w)) X) →
    (∀ ρ2, wipeS own ρ2 = w → K (acc ++ ds.filterMap f) ρ2) → (lcGo own t tests el ds acc ρ).wp K X
  | [], acc, ρ, K, hw, hz, hd, hk => by
    have := hk ρ hw
    rw [List.filterMap_nil, List.append_nil] at this
    exact this
  | d :: ds, acc, ρ, K, hw, hz, hd, hk => by
    refine wg_cons ?_
    show Get (asgT [] t false d (wipeS own ρ)) _
    rw [hw]
    obtain ⟨ρ1, e1, h1⟩ := hd d (List.mem_cons_self ..)
    refine ⟨ρ1, e1, R.wp_mono h1 (fun b ρ2 h => ?_) fun _ _ h => h⟩
    cases b with
    | false =>
      obtain ⟨h2, h3⟩ := h
      refine lc_any f h3 (by simp only [List.length_cons] at hz; omega) (fun d' m => hd d' (List.mem_cons_of_mem _ m)) fun ρ2 h4 => ?_
      have := hk ρ2 h4
      rw [List.filterMap_cons_none h2] at this
      exact this
    | true =>
      simp only [Br] at h
      refine br_t ?_
      refine wv_mono h (fun fr x ρ3 h => ?_) fun _ _ h => h
      obtain ⟨h2, h3⟩ := h
      simp only [List.length_cons] at hz
      refine ⟨by omega, ?_⟩
      show R.wp (lcGo own t tests el ds (acc ++ [x]) ρ3) _ _
      refine lc_any f h3 (by simp only [List.length_append, List.length_cons, List.length_nil]; omega) (fun d' m => hd d' (List.mem_cons_of_mem _ m)) fun ρ2 h4 => ?_
      have := hk ρ2 h4
      rw [List.filterMap_cons_some h2, List.append_cons] at this
      exact this
theorem restore_at (own : List Nat) : ∀ (j : Nat) (ρ0 ρ : List Sl), wipeAt own j ρ = wipeAt own j ρ0 → restoreAt own j ρ0 ρ = ρ0
  | j, [], [], h => rfl
  | j, [], s :: r, h => by simp [wipeAt] at h
  | j, s :: r, [], h => by simp [wipeAt] at h
  | j, s0 :: r0, s :: r, h => by
    simp only [wipeAt, List.cons.injEq] at h
    simp only [restoreAt]
    rw [restore_at own (j + 1) r0 r h.2]
    cases hc : own.contains j with
    | true => rfl
    | false =>
      simp only [hc] at h
      have := h.1
      simp at this
      rw [this]
      rfl
/-- all is as it was behind a comprehension -/
theorem restore_wipe {own : List Nat} {ρ0 ρ : List Sl} (h : wipeS own ρ = wipeS own ρ0) : restore own ρ0 ρ = ρ0 := restore_at own 0 ρ0 ρ h
section
variable {T : Nat → Option Fd} {cf : CF} {ρ : List Sl} {Q : Bool → D → List Sl → Prop} {X : XP}
/-- a comprehension that changes nothing -/
theorem w_lcAny {own : List Nat} {t : Tg} {it el : E} {ifs : Es} (f : D → Option D) (h : wv (evE T cf it ρ) (fun _ d ρ1 => Get (itD d) fun ds => noOwn own ρ1 = true ∧ ds.length ≤ sizeLine ∧ Nf (wipeS own ρ1) fun w =>
    (∀ d, d ∈ ds → Get (asgT [] t false d w) fun ρ1 => (evTs T cf ifs ρ1).wp (fun b ρ2 => Br b (wv (evE T cf el ρ2) (fun _ x ρ3 => f d = some x ∧ wipeS own ρ3 = w) (fun _ _ => False)) (f d = none ∧ wipeS own ρ2 = w)) (fun _ _ => False)) ∧ Q true (.lst (ds.filterMap f)) ρ1) X) : wv (evE T cf (.lc own t it ifs el) ρ) Q X := by
  refine w_lc (wv_mono h (fun fr d ρ1 h => ?_) fun _ _ h => h)
  obtain ⟨ds, h1, h2, h3, h4, q⟩ := h
  refine ⟨ds, h1, h2, lc_any f rfl (by simpa using h3) h4 fun ρ2 e => ?_⟩
  show Q true (.lst _) (restore own ρ1 ρ2)
  rw [restore_wipe e, List.nil_append]
  exact q
end
end L2.T.O
end

section
set_option Elab.async false
set_option linter.all false
set_option maxRecDepth 100000
set_option maxHeartbeats 4000000
set_option autoImplicit false
namespace L2.T
open PySem PySem.Spec PyProof.Rows
@[irreducible] def R.wq {α : Type} (r : R α) (Q : α → List Sl → Prop) (X : Exn → List Sl → Prop) : Prop := r.wp Q X
abbrev XP := Exn → List Sl → Prop
abbrev notV (e : E) : Bool := O.notV e
@[irreducible] def Get {α : Type} (o : Option α) (k : α → Prop) : Prop := O.Get o k
@[irreducible] def GetV (o : Option (Bool × D)) (k : Bool → D → Prop) : Prop := O.GetV o k
@[irreducible] def GetP {α β : Type} (o : Option (α × β)) (k : α → β → Prop) : Prop := O.GetP o k
@[irreducible] def GetM (o : Option (D × Bool × D)) (k : D → Bool → D → Prop) : Prop := O.GetM o k
@[irreducible] def GetO (o : Option Sl) (k : D → Prop) : Prop := O.GetO o k
@[irreducible] def Nf {α : Type} (a : α) (k : α → Prop) : Prop := O.Nf a k
@[irreducible] def Br (t : Bool) (A B : Prop) : Prop := O.Br t A B
@[irreducible] def IsB (d : D) (k : Bool → Prop) : Prop := O.IsB d k
@[irreducible] def IsF (b : Bool) (k : Prop) : Prop := O.IsF b k
@[irreducible] def IsT (b : Bool) (k : Prop) : Prop := O.IsT b k
@[irreducible] def IsK (d : D) (k : List (Key × D) → Prop) : Prop := O.IsK d k
@[irreducible] def IsN (c : Nat) (d : D) (k : List D → Prop) : Prop := O.IsN c d k
@[irreducible] def CmpX (c : Nat) (d : D) (A B : Prop) : Prop := O.CmpX c d A B
@[irreducible] def MkQ (c : Nat) (k : List D → Prop) (fr : Bool) (d : D) (o : List Sl) : Prop := O.MkQ c k fr d o
@[irreducible] def InK (c : Nat) (ds : List D) (A B : Prop) : Prop := O.InK c ds A B
@[irreducible] def IsS (d : D) (k : Str → Prop) : Prop := O.IsS d k
abbrev fmtD : D → Option Str := O.fmtD
@[irreducible] def IsI (d : D) (k : Int → Prop) : Prop := O.IsI d k
@[irreducible] def wv (r : R (Bool × D)) (Q : Bool → D → List Sl → Prop) (X : XP) : Prop := O.wv r Q X
@[irreducible] def SqK (fl : Fl) (A : Prop) (B : Fl → Prop) : Prop := O.SqK fl A B
@[irreducible] def LpK (fl : Fl) (A B : Prop) (C : Bool → D → Prop) : Prop := O.LpK fl A B C
@[irreducible] def FinK (n : Nat) (Q : Bool → D → List Sl → Prop) (fl : Fl) (ρ : List Sl) : Prop := O.FinK n Q fl ρ

theorem get_some {α : Type} {o : Option α} {k : α → Prop} {a : α} (h : o = some a) (q : k a) : Get o k := by with_unfolding_all exact O.get_some h q
theorem getv_some {o : Option (Bool × D)} {k : Bool → D → Prop} {fr : Bool} {d : D} (h : o = some (fr, d)) (q : k fr d) : GetV o k := by with_unfolding_all exact O.getv_some h q
theorem getm_some {o : Option (D × Bool × D)} {k : D → Bool → D → Prop} {a : D} {b : Bool} {c : D} (h : o = some (a, b, c)) (q : k a b c) : GetM o k := by with_unfolding_all exact O.getm_some h q
theorem nf {α : Type} {a b : α} {k : α → Prop} (h : a = b) (q : k b) : Nf a k := by with_unfolding_all exact O.nf h q
theorem br_t {A B : Prop} (h : A) : Br true A B := by with_unfolding_all exact O.br_t h
theorem br_f {A B : Prop} (h : B) : Br false A B := by with_unfolding_all exact O.br_f h
theorem br_s {t : Bool} {A B : Prop} (h1 : t = true → A) (h2 : t = false → B) : Br t A B := by with_unfolding_all exact O.br_s h1 h2
theorem br_not {t : Bool} {A B : Prop} (h : Br t B A) : Br (!t) A B := by with_unfolding_all exact O.br_not h
theorem br_eqt {t : Bool} {A B : Prop} (e : t = true) (h : A) : Br t A B := by with_unfolding_all exact O.br_eqt e h
theorem br_eqf {t : Bool} {A B : Prop} (e : t = false) (h : B) : Br t A B := by with_unfolding_all exact O.br_eqf e h
theorem br_dt {p : Prop} [i : Decidable p] {A B : Prop} (e : p) (h : A) : Br (decide p) A B := by with_unfolding_all exact O.br_dt e h
theorem br_df {p : Prop} [i : Decidable p] {A B : Prop} (e : ¬ p) (h : B) : Br (decide p) A B := by with_unfolding_all exact O.br_df e h
theorem br_d {p : Prop} [i : Decidable p] {A B : Prop} (h1 : p → A) (h2 : ¬ p → B) : Br (decide p) A B := by with_unfolding_all exact O.br_d h1 h2
theorem isb {b : Bool} {k : Bool → Prop} (h : k b) : IsB (.bl b) k := by with_unfolding_all exact O.isb h
theorem isF {k : Prop} (h : k) : IsF false k := by with_unfolding_all exact O.isF h
theorem isI {b : Int} {k : Int → Prop} (h : k b) : IsI (.int b) k := by with_unfolding_all exact O.isI h
theorem isT {b : Bool} {k : Prop} (e : b = true) (h : k) : IsT b k := by with_unfolding_all exact O.isT e h
theorem isK {kvs : List (Key × D)} {k : List (Key × D) → Prop} (h : k kvs) : IsK (.dk kvs) k := by with_unfolding_all exact O.isK h
theorem isN {c : Nat} {fs : List D} {k : List D → Prop} (h : k fs) : IsN c (.ins c fs) k := by with_unfolding_all exact O.isN h
theorem cx_ins {c : Nat} {fs : List D} {A B : Prop} (h : A) : CmpX c (.ins c fs) A B := by with_unfolding_all exact O.cx_ins h
theorem cx_int {c : Nat} {i : Int} {A B : Prop} (h : B) : CmpX c (.int i) A B := by with_unfolding_all exact O.cx_int h
theorem cx_str {c : Nat} {i : Str} {A B : Prop} (h : B) : CmpX c (.str i) A B := by with_unfolding_all exact O.cx_str h
theorem cx_bl {c : Nat} {i : Bool} {A B : Prop} (h : B) : CmpX c (.bl i) A B := by with_unfolding_all exact O.cx_bl h
theorem cx_tup {c : Nat} {i : List D} {A B : Prop} (h : B) : CmpX c (.tup i) A B := by with_unfolding_all exact O.cx_tup h
theorem cx_lst {c : Nat} {i : List D} {A B : Prop} (h : B) : CmpX c (.lst i) A B := by with_unfolding_all exact O.cx_lst h
theorem cx_non {c : Nat} {A B : Prop} (h : B) : CmpX c .non A B := by with_unfolding_all exact O.cx_non h
theorem mkq {c : Nat} {k : List D → Prop} {fs : List D} {o : List Sl} (h : k fs) : MkQ c k false .non (.ow (.ins c fs) :: o) := by with_unfolding_all exact O.mkq h
theorem sq_nx {A : Prop} {B : Fl → Prop} (h : A) : SqK .nx A B := by with_unfolding_all exact O.sq_nx h
theorem sq_rt {A : Prop} {B : Fl → Prop} {fr : Bool} {d : D} (h : B (.rt fr d)) : SqK (.rt fr d) A B := by with_unfolding_all exact O.sq_rt h
theorem sq_bk {A : Prop} {B : Fl → Prop} (h : B .bk) : SqK .bk A B := by with_unfolding_all exact O.sq_bk h
theorem sq_ct {A : Prop} {B : Fl → Prop} (h : B .ct) : SqK .ct A B := by with_unfolding_all exact O.sq_ct h
theorem lp_nx {A B : Prop} {C : Bool → D → Prop} (h : A) : LpK .nx A B C := by with_unfolding_all exact O.lp_nx h
theorem lp_ct {A B : Prop} {C : Bool → D → Prop} (h : A) : LpK .ct A B C := by with_unfolding_all exact O.lp_ct h
theorem lp_bk {A B : Prop} {C : Bool → D → Prop} (h : B) : LpK .bk A B C := by with_unfolding_all exact O.lp_bk h
theorem lp_rt {A B : Prop} {C : Bool → D → Prop} {fr : Bool} {d : D} (h : C fr d) : LpK (.rt fr d) A B C := by with_unfolding_all exact O.lp_rt h
theorem fin_rt {n : Nat} {Q : Bool → D → List Sl → Prop} {fr : Bool} {d : D} {ρ : List Sl} (h : Nf (ρ.take n) (Q fr d)) : FinK n Q (.rt fr d) ρ := by with_unfolding_all exact O.fin_rt h
theorem fin_nx {n : Nat} {Q : Bool → D → List Sl → Prop} {ρ : List Sl} (h : Nf (ρ.take n) (Q false .non)) : FinK n Q .nx ρ := by with_unfolding_all exact O.fin_nx h
theorem wv_eq {r : R (Bool × D)} {fr : Bool} {d : D} {ρ : List Sl} (h : wv r (fun f e o => f = fr ∧ e = d ∧ o = ρ) (fun _ _ => False)) : r = .ok (fr, d) ρ := by with_unfolding_all exact O.wv_eq h
theorem wv_ex_eq {r : R (Bool × D)} {x : Exn} {ρ : List Sl} (h : wv r (fun _ _ _ => False) (fun y o => y = x ∧ o = ρ)) : r = .ex x ρ := by with_unfolding_all exact O.wv_ex_eq h
theorem wv_mono {r : R (Bool × D)} {Q Q' : Bool → D → List Sl → Prop} {X X' : XP} (h : wv r Q X) (hq : ∀ fr d ρ, Q fr d ρ → Q' fr d ρ) (hx : ∀ x ρ, X x ρ → X' x ρ) : wv r Q' X' := by with_unfolding_all exact O.wv_mono h hq hx
theorem wv_exists {r : R (Bool × D)} {Q : Bool → D → List Sl → Prop} (h : wv r Q (fun _ _ => False)) : ∃ fr d ρ, r = .ok (fr, d) ρ ∧ Q fr d ρ := by with_unfolding_all exact O.wv_exists h
theorem wv_ok {r : R (Bool × D)} {fr : Bool} {d : D} {ρ : List Sl} {Q : Bool → D → List Sl → Prop} {X : XP} (e : r = .ok (fr, d) ρ) (h : Q fr d ρ) : wv r Q X := by with_unfolding_all exact O.wv_ok e h
theorem wv_ex {r : R (Bool × D)} {x : Exn} {ρ : List Sl} {Q : Bool → D → List Sl → Prop} {X : XP} (e : r = .ex x ρ) (h : X x ρ) : wv r Q X := by with_unfolding_all exact O.wv_ex e h
theorem wp_eq {α : Type} {r : R α} {a : α} {ρ : List Sl} (h : r.wq (fun b o => b = a ∧ o = ρ) (fun _ _ => False)) : r = .ok a ρ := by with_unfolding_all exact O.wp_eq h
theorem wp_ok {α : Type} {r : R α} {a : α} {ρ : List Sl} {Q : α → List Sl → Prop} {X : XP} (e : r = .ok a ρ) (h : Q a ρ) : r.wq Q X := by with_unfolding_all exact O.wp_ok e h
theorem wp_mono' {α : Type} {r : R α} {Q Q' : α → List Sl → Prop} {X : XP} (h : r.wq Q X) (hq : ∀ a ρ, Q a ρ → Q' a ρ) : r.wq Q' X := by with_unfolding_all exact O.wp_mono' h hq
section
variable {T : Nat → Option Fd} {cf : CF} {F k : Nat} {mv : List Nat} {ρ ρ1 : List Sl} {a b c e : E} {d : D} {fr : Bool} {i j n : Nat} {es lo hi : Es} {Q : Bool → D → List Sl → Prop} {QB : Bool → List Sl → Prop} {QO : Op → List Sl → Prop} {QL : List Op → List Sl → Prop} {QF : Fl → List Sl → Prop} {QI : Option Int → List Sl → Prop} {X : XP} {o : Operator} {p q : CmpOp} {s : S} {ss sa sb : Ss}
theorem wo_vs {f : Ev} (h : ρ[i]? = some (.sh d)) (q : QO (.sl i) ρ) : (opOf (.v i) f ρ).wq QO X := by with_unfolding_all exact O.wo_vs h q
theorem wo_vo {f : Ev} (h : ρ[i]? = some (.ow d)) (q : QO (.sl i) ρ) : (opOf (.v i) f ρ).wq QO X := by with_unfolding_all exact O.wo_vo h q
theorem wo_e (hn : notV e = true) (h : wv (evE T cf e ρ) (fun _ d ρ1 => QO (.val d) ρ1) X) : (opOf e (evE T cf e) ρ).wq QO X := by with_unfolding_all exact O.wo_e hn h
theorem gr_val {k : D → Prop} (h : k d) : Get ((Op.val d).rs ρ) k := by with_unfolding_all exact O.gr_val h
theorem gr_sh {k : D → Prop} (h : ρ[i]? = some (.sh d)) (q : k d) : Get ((Op.sl i).rs ρ) k := by with_unfolding_all exact O.gr_sh h q
theorem gr_ow {k : D → Prop} (h : ρ[i]? = some (.ow d)) (q : k d) : Get ((Op.sl i).rs ρ) k := by with_unfolding_all exact O.gr_ow h q
theorem gf_val {k : D → List Sl → Prop} (h : k d ρ) : GetP ((Op.val d).fz ρ) k := by with_unfolding_all exact O.gf_val h
theorem gf_sh {k : D → List Sl → Prop} (h : ρ[i]? = some (.sh d)) (q : k d ρ) : GetP ((Op.sl i).fz ρ) k := by with_unfolding_all exact O.gf_sh h q
theorem gf_ow {k : D → List Sl → Prop} (h : ρ[i]? = some (.ow d)) (q : Nf (ρ.set i (.sh d)) fun ρ1 => k d ρ1) : GetP ((Op.sl i).fz ρ) k := by with_unfolding_all exact O.gf_ow h q
theorem go_ow {k : D → Prop} (h : ρ[i]? = some (.ow d)) (q : k d) : GetO (ρ[i]?) k := by with_unfolding_all exact O.go_ow h q
theorem grl_nil {k : List D → Prop} (h : k []) : Get (rsL ρ []) k := by with_unfolding_all exact O.grl_nil h
theorem grl_cons {x : Op} {os : List Op} {k : List D → Prop} (h : Get (x.rs ρ) fun d => Get (rsL ρ os) fun ds => k (d :: ds)) : Get (rsL ρ (x :: os)) k := by with_unfolding_all exact O.grl_cons h
theorem gfl_nil {k : List D → List Sl → Prop} (h : k [] ρ) : GetP (fzL ρ []) k := by with_unfolding_all exact O.gfl_nil h
theorem gfl_cons {x : Op} {os : List Op} {k : List D → List Sl → Prop} (h : GetP (x.fz ρ) fun y ρ1 => GetP (fzL ρ1 os) fun ys ρ2 => k (y :: ys) ρ2) : GetP (fzL ρ (x :: os)) k := by with_unfolding_all exact O.gfl_cons h
theorem w_binop {α : Type} {fa fb : Ev} {g : D → D → Option α} {K : α → List Sl → Prop} (h : (opOf a fa ρ).wq (fun x ρ1 => (opOf b fb ρ1).wq (fun y ρ2 => Get (x.rs ρ2) fun d => Get (y.rs ρ2) fun e => Get (g d e) fun r => K r ρ2) X) X) : (binOp a b fa fb g ρ).wq K X := by with_unfolding_all exact O.w_binop h
theorem wp_bind {α β : Type} {r : R α} {f : α → List Sl → R β} {K : β → List Sl → Prop} (h : r.wq (fun a ρ => (f a ρ).wq K X) X) : (r.bind f).wq K X := by with_unfolding_all exact O.wp_bind h
theorem wv_bind {α : Type} {r : R α} {f : α → List Sl → R (Bool × D)} (h : r.wq (fun a ρ => wv (f a ρ) Q X) X) : wv (r.bind f) Q X := by with_unfolding_all exact O.wv_bind h
theorem wp_bindv {α : Type} {r : R (Bool × D)} {f : Bool × D → List Sl → R α} {K : α → List Sl → Prop} (h : wv r (fun fr d ρ => (f (fr, d) ρ).wq K X) X) : (r.bind f).wq K X := by with_unfolding_all exact O.wp_bindv h
theorem wv_bindv {r : R (Bool × D)} {f : Bool × D → List Sl → R (Bool × D)} (h : wv r (fun fr d ρ => wv (f (fr, d) ρ) Q X) X) : wv (r.bind f) Q X := by with_unfolding_all exact O.wv_bindv h
theorem wp_wv {r : R (Bool × D)} (h : r.wq (fun x ρ => Q x.1 x.2 ρ) X) : wv r Q X := by with_unfolding_all exact O.wp_wv h
theorem w_c (h : Q false d ρ) : wv (evE T cf (.c d) ρ) Q X := by with_unfolding_all exact O.w_c h
theorem w_vs (h : ρ[i]? = some (.sh d)) (q : Q false d ρ) : wv (evE T cf (.v i) ρ) Q X := by with_unfolding_all exact O.w_vs h q
theorem w_vo (h : ρ[i]? = some (.ow d)) (q : Nf (ρ.set i (.sh d)) fun ρ1 => Q false d ρ1) : wv (evE T cf (.v i) ρ) Q X := by with_unfolding_all exact O.w_vo h q
theorem w_bin (h : (opOf a (evE T cf a) ρ).wq (fun x ρ1 => (opOf b (evE T cf b) ρ1).wq (fun y ρ2 => Get (x.rs ρ2) fun d => Get (y.rs ρ2) fun e => GetV (bop o d e) fun fr r => Q fr r ρ2) X) X) : wv (evE T cf (.bin o a b) ρ) Q X := by with_unfolding_all exact O.w_bin h
theorem w_cmp (h : (opOf a (evE T cf a) ρ).wq (fun x ρ1 => (opOf b (evE T cf b) ρ1).wq (fun y ρ2 => Get (x.rs ρ2) fun d => Get (y.rs ρ2) fun e => Get (cop p d e) fun r => Q false (.bl r) ρ2) X) X) : wv (evE T cf (.cmp p a b) ρ) Q X := by with_unfolding_all exact O.w_cmp h
theorem w_idx (h : (opOf a (evE T cf a) ρ).wq (fun x ρ1 => (opOf b (evE T cf b) ρ1).wq (fun y ρ2 => Get (x.rs ρ2) fun d => Get (y.rs ρ2) fun e => Get (ixD d e) fun r => Q false r ρ2) X) X) : wv (evE T cf (.idx a b) ρ) Q X := by with_unfolding_all exact O.w_idx h
theorem w_neg (h : (opOf a (evE T cf a) ρ).wq (fun x ρ1 => Get (x.rs ρ1) fun d => IsI d fun m => Q false (.int (-m)) ρ1) X) : wv (evE T cf (.neg a) ρ) Q X := by with_unfolding_all exact O.w_neg h
theorem w_tru {f : Ev} (h : wv (f ρ) (fun _ d ρ1 => Get d.truth fun t => QB t ρ1) X) : (tru f ρ).wq QB X := by with_unfolding_all exact O.w_tru h
theorem w_not (h : (tru (evE T cf a) ρ).wq (fun t ρ1 => Q false (.bl (!t)) ρ1) X) : wv (evE T cf (.not a) ρ) Q X := by with_unfolding_all exact O.w_not h
theorem w_and (h : wv (evE T cf a ρ) (fun _ d ρ1 => IsB d fun t => Br t (wv (evE T cf b ρ1) Q X) (Q false (.bl false) ρ1)) X) : wv (evE T cf (.and a b) ρ) Q X := by with_unfolding_all exact O.w_and h
theorem w_or (h : wv (evE T cf a ρ) (fun _ d ρ1 => IsB d fun t => Br t (Q false (.bl true) ρ1) (wv (evE T cf b ρ1) Q X)) X) : wv (evE T cf (.or a b) ρ) Q X := by with_unfolding_all exact O.w_or h
theorem w_ife (h : (tru (evE T cf c) ρ).wq (fun t ρ1 => Br t (wv (evE T cf a ρ1) Q X) (wv (evE T cf b ρ1) Q X)) X) : wv (evE T cf (.ife c a b) ρ) Q X := by with_unfolding_all exact O.w_ife h
theorem w_chn (h : (opOf a (evE T cf a) ρ).wq (fun x ρ1 => (opOf b (evE T cf b) ρ1).wq (fun y ρ2 => Get (x.rs ρ2) fun d => Get (y.rs ρ2) fun e => Get (cop p d e) fun r => Br r ((opOf c (evE T cf c) ρ2).wq (fun z ρ3 => Get (y.rs ρ3) fun e => Get (z.rs ρ3) fun g => Get (cop q e g) fun r => Q false (.bl r) ρ3) X) (Q false (.bl false) ρ2)) X) X) : wv (evE T cf (.chn p q a b c) ρ) Q X := by with_unfolding_all exact O.w_chn h
theorem wl_nil (h : QL [] ρ) : (evEs T cf .nil ρ).wq QL X := by with_unfolding_all exact O.wl_nil h
theorem wl_cons (h : (opOf e (evE T cf e) ρ).wq (fun x ρ1 => (evEs T cf es ρ1).wq (fun os ρ2 => QL (x :: os) ρ2) X) X) : (evEs T cf (.cons e es) ρ).wq QL X := by with_unfolding_all exact O.wl_cons h
theorem w_tup (h : (evEs T cf es ρ).wq (fun os ρ1 => GetP (fzL ρ1 os) fun ys ρ2 => ys.length ≤ sizeLine ∧ Q false (.tup ys) ρ2) X) : wv (evE T cf (.tup es) ρ) Q X := by with_unfolding_all exact O.w_tup h
theorem w_lst (h : (evEs T cf es ρ).wq (fun os ρ1 => GetP (fzL ρ1 os) fun ys ρ2 => ys.length ≤ sizeLine ∧ Q true (.lst ys) ρ2) X) : wv (evE T cf (.lst es) ρ) Q X := by with_unfolding_all exact O.w_lst h
theorem wi_nil (h : QI none ρ) : (evP T cf .nil ρ).wq QI X := by with_unfolding_all exact O.wi_nil h
theorem wi_cons (h : (opOf e (evE T cf e) ρ).wq (fun x ρ1 => Get (x.rs ρ1) fun d => IsI d fun m => QI (some m) ρ1) X) : (evP T cf (.cons e es) ρ).wq QI X := by with_unfolding_all exact O.wi_cons h
theorem w_sli (h : (opOf a (evE T cf a) ρ).wq (fun x ρ1 => (evP T cf lo ρ1).wq (fun l ρ2 => (evP T cf hi ρ2).wq (fun h ρ3 => Get (x.rs ρ3) fun d => GetV (cutD d l h) fun fr r => Q fr r ρ3) X) X) X) : wv (evE T cf (.sli a lo hi) ρ) Q X := by with_unfolding_all exact O.w_sli h
theorem w_bi {bn : String} (h : (evEs T cf es ρ).wq (fun os ρ1 => Get (rsL ρ1 os) fun ds => GetV (bfn bn ds) fun fr r => Q fr r ρ1) X) : wv (evE T cf (.bi bn es) ρ) Q X := by with_unfolding_all exact O.w_bi h
theorem w_isi {ks : List String} (h : (opOf a (evE T cf a) ρ).wq (fun x ρ1 => Get (x.rs ρ1) fun d => Get (isiD d ks) fun b => Q false (.bl b) ρ1) X) : wv (evE T cf (.isi a ks) ρ) Q X := by with_unfolding_all exact O.w_isi h
theorem w_lrg (h : (evEs T cf es ρ).wq (fun os ρ1 => Get (rsL ρ1 os) fun ds => Get (rngS ds) fun r => Q true (.lst r) ρ1) X) : wv (evE T cf (.lrg es) ρ) Q X := by with_unfolding_all exact O.w_lrg h
theorem w_rng (h : (evEs T cf es ρ).wq (fun os ρ1 => Get (rsL ρ1 os) fun ds => Get (rngD ds) fun r => Q false (.lst r) ρ1) X) : wv (evE T cf (.rng es) ρ) Q X := by with_unfolding_all exact O.w_rng h
theorem w_dk0 (h : Q true (.dk []) ρ) : wv (evE T cf .dk0 ρ) Q X := by with_unfolding_all exact O.w_dk0 h
theorem w_mm {m : String} {xs : List D} (h0 : ρ[i]? = some (.ow (.lst xs))) (h : (evEs T cf es ρ).wq (fun os ρ1 => GetP (fzL ρ1 os) fun ys ρ2 => GetO (ρ2[i]?) fun o => GetM (mmD m o ys) fun o' fr r => Nf (ρ2.set i (.ow o')) fun ρ3 => Q fr r ρ3) X) : wv (evE T cf (.mm m i es) ρ) Q X := by with_unfolding_all exact O.w_mm h0 h
theorem w_call {f : Nat} (h : (evEs T cf es ρ).wq (fun os ρ1 => wv (callOp T cf f os ρ1) Q X) X) : wv (evE T cf (.call f es) ρ) Q X := by with_unfolding_all exact O.w_call h
theorem w_cop {f : Nat} {os : List Op} {fd : Fd} {as : List Sl} (h1 : T f = some fd) (h2 : argsIn fd.mv 0 os ρ = some (as, ρ1)) (h3 : wv (cf f as) (fun fr d outs => Nf (argsOut os as outs ρ1) fun ρ2 => Q fr d ρ2) (fun x outs => Nf (argsOut os as outs ρ1) fun ρ2 => X x ρ2)) : wv (callOp T cf f os ρ) Q X := by with_unfolding_all exact O.w_cop h1 h2 h3
theorem w_run {as : List Sl} {fd : Fd} (hT : T j = some fd) (hn : as.length = fd.n) (hj : j < BB) (h : (evB T (callF T F k) F fd.mv fd.body (as ++ List.replicate (fd.ns - fd.n) .un)).wq (FinK fd.n Q) (fun x ρ => Nf (ρ.take fd.n) (X x))) : wv (callF T F (k + 1) j as) Q X := by with_unfolding_all exact O.w_run hT hn hj h
theorem w_said {m w : Nat} {r0 : Bool × D} {o0 : List Sl} (hd : cf (3 * BB) [] = .ok r0 o0) (h : wv (evE T cf e ρ) (fun _ d ρ1 => Q false (.tup [.str "told", d]) ρ1) (fun x ρ1 => x.c < m ∧ ∃ y fr o, cf w [.sh (.exc x.c)] = .ok (fr, .str y) o ∧ Q false (.tup [.str "refused", .str y]) ρ1)) : wv (evE T cf (.said m w e) ρ) Q X := by with_unfolding_all exact O.w_said hd h
theorem w_me {m : String} (h : (opOf a (evE T cf a) ρ).wq (fun x ρ1 => Get (x.rs ρ1) fun o => IsT (isDk o) ((evEs T cf es ρ1).wq (fun os ρ2 => GetP (fzL ρ2 os) fun ds ρ3 => Get (x.rs ρ3) fun o => Get (meD m o ds) fun d => Q false d ρ3) X)) X) : wv (evE T cf (.me m a es) ρ) Q X := by with_unfolding_all exact O.w_me h
theorem w_dd (h : (opOf a (evE T cf a) ρ).wq (fun x ρ1 => (opOf b (evE T cf b) ρ1).wq (fun y ρ2 => Get (x.rs ρ2) fun k => GetP (y.fz ρ2) fun d ρ3 => Get (keyD k) fun key => Q true (.dk [(key, d)]) ρ3) X) X) : wv (evE T cf (.dd a b) ρ) Q X := by with_unfolding_all exact O.w_dd h
theorem w_fld {c : Nat} (h : (opOf a (evE T cf a) ρ).wq (fun x ρ1 => Get (x.rs ρ1) fun d => IsN c d fun fs => Get (fs[i]?) fun v => Q false v ρ1) X) : wv (evE T cf (.fld c i a) ρ) Q X := by with_unfolding_all exact O.w_fld h
theorem w_isxI {c : Nat} (h : (opOf a (evE T cf a) ρ).wq (fun x ρ1 => Get (x.rs ρ1) fun d => CmpX c d (Q false (.bl true) ρ1) (IsT d.cls.isSome (Q false (.bl false) ρ1))) X) : wv (evE T cf (.isx c a) ρ) Q X := by with_unfolding_all exact O.w_isxI h
theorem w_mk {c id : Nat} {r0 : Bool × D} {o0 : List Sl} (hd : cf (3 * BB) [] = .ok r0 o0) (h : (evEs T cf es ρ).wq (fun os ρ1 => GetP (fzL ρ1 os) fun ds ρ2 => Nf (ds.map Sl.sh) fun as => wv (cf id (.ow (.ins c []) :: as)) (MkQ c fun fs => Q false (.ins c fs) ρ2) (fun _ _ => False)) X) : wv (evE T cf (.mk c id es) ρ) Q X := by with_unfolding_all exact O.w_mk hd h
theorem ik_ins {c : Nat} {fs : List D} {A B : Prop} (h : A) : InK c [.ins c fs] A B := by with_unfolding_all exact O.ik_ins h
theorem ik_no {c : Nat} {ds : List D} {A B : Prop} (e : insC ds = none) (h : B) : InK c ds A B := by with_unfolding_all exact O.ik_no e h
theorem iss {y : Str} {k : Str → Prop} (h : k y) : IsS (.str y) k := by with_unfolding_all exact O.iss h
theorem w_ownx {c id : Nat} {rp : Bool} {r0 : Bool × D} {o0 : List Sl} (hd : cf (3 * BB) [] = .ok r0 o0) (h : (evEs T cf es ρ).wq (fun os ρ1 => Get (rsL ρ1 os) fun ds => InK c ds (GetP (fzL ρ1 os) fun ds ρ2 => Nf (ds.map Sl.sh) fun as => wv (cf id as) (fun fr d _ => IsF fr (IsS d fun y => Q false (.str y) ρ2)) (fun _ _ => False)) (GetV (bfn (if rp then "repr" else "str") ds) fun fr r => Q fr r ρ1)) X) : wv (evE T cf (.ownx rp c id es) ρ) Q X := by with_unfolding_all exact O.w_ownx hd h
theorem w_ownxT {c id : Nat} {r0 : Bool × D} {o0 : List Sl} (hd : cf (3 * BB) [] = .ok r0 o0) (h : (evEs T cf es ρ).wq (fun os ρ1 => Get (rsL ρ1 os) fun ds => InK c ds (GetP (fzL ρ1 os) fun ds ρ2 => Nf (ds.map Sl.sh) fun as => wv (cf id as) (fun fr d _ => IsF fr (IsS d fun y => Q false (.str y) ρ2)) (fun _ _ => False)) (GetV (bfn "repr" ds) fun fr r => Q fr r ρ1)) X) : wv (evE T cf (.ownx true c id es) ρ) Q X := by with_unfolding_all exact O.w_ownxT hd h
theorem w_ownxF {c id : Nat} {r0 : Bool × D} {o0 : List Sl} (hd : cf (3 * BB) [] = .ok r0 o0) (h : (evEs T cf es ρ).wq (fun os ρ1 => Get (rsL ρ1 os) fun ds => InK c ds (GetP (fzL ρ1 os) fun ds ρ2 => Nf (ds.map Sl.sh) fun as => wv (cf id as) (fun fr d _ => IsF fr (IsS d fun y => Q false (.str y) ρ2)) (fun _ _ => False)) (GetV (bfn "str" ds) fun fr r => Q fr r ρ1)) X) : wv (evE T cf (.ownx false c id es) ρ) Q X := by with_unfolding_all exact O.w_ownxF hd h
theorem w_fmt (h : (opOf a (evE T cf a) ρ).wq (fun x ρ1 => Get (x.rs ρ1) fun d => Get (fmtD d) fun y => Q false (.str y) ρ1) X) : wv (evE T cf (.fmt a) ρ) Q X := by with_unfolding_all exact O.w_fmt h
theorem wj_nil {acc : Str} {QJ : Str → List Sl → Prop} (h : QJ acc ρ) : (evJ T cf .nil acc ρ).wq QJ X := by with_unfolding_all exact O.wj_nil h
theorem wj_cons {acc : Str} {QJ : Str → List Sl → Prop} (h : wv (evE T cf e ρ) (fun _ d ρ1 => IsS d fun y => (acc ++ y).length ≤ sizeLine ∧ (evJ T cf es (acc ++ y) ρ1).wq QJ X) X) : (evJ T cf (.cons e es) acc ρ).wq QJ X := by with_unfolding_all exact O.wj_cons h
theorem w_fst (h : (evJ T cf es Str.empty ρ).wq (fun y ρ1 => Q false (.str y) ρ1) X) : wv (evE T cf (.fst es) ρ) Q X := by with_unfolding_all exact O.w_fst h
theorem w_cmpx {c id : Nat} {ne : Bool} {r0 : Bool × D} {o0 : List Sl} (hd : cf (3 * BB) [] = .ok r0 o0) (h : (opOf a (evE T cf a) ρ).wq (fun x ρ1 => (opOf b (evE T cf b) ρ1).wq (fun y ρ2 => Get (x.rs ρ2) fun d => CmpX c d (GetP (fzL ρ2 [x, y]) fun ds ρ3 => IsT (tyK c ds) (Nf (ds.map Sl.sh) fun as => wv (cf id as) (fun fr d _ => IsF fr (IsB d fun b => Q false (.bl (if ne then !b else b)) ρ3)) (fun _ _ => False))) (Get (y.rs ρ2) fun e => Get (cop (if ne then .NotEq else .Eq) d e) fun r => Q false (.bl r) ρ2)) X) X) : wv (evE T cf (.cmpx ne c id a b) ρ) Q X := by with_unfolding_all exact O.w_cmpx hd h
theorem w_mmk {kvs0 : List (Key × D)} (h0 : ρ[i]? = some (.ow (.dk kvs0))) (h : (evEs T cf es ρ).wq (fun os ρ1 => GetP (fzL ρ1 os) fun ds ρ2 => GetO (ρ2[i]?) fun o => IsK o fun kvs => GetM (popD kvs ds) fun o' fr x => Nf (ρ2.set i (.ow o')) fun ρ3 => Q fr x ρ3) X) : wv (evE T cf (.mm "pop" i es) ρ) Q X := by with_unfolding_all exact O.w_mmk h0 h
theorem ws_fset {c : Nat} (h : (opOf e (evE T cf e) ρ).wq (fun y ρ1 => GetP (y.fz ρ1) fun d ρ2 => GetO (ρ2[i]?) fun o => IsN c o fun fs => IsT (decide (fs.length = j)) (Nf (ρ2.set i (.ow (.ins c (fs ++ [d])))) fun ρ3 => QF .nx ρ3)) X) : (evS T cf F mv (.fset c i j e) ρ).wq QF X := by with_unfolding_all exact O.ws_fset h
theorem ws_nil (h : QF .nx ρ) : (evB T cf F mv .nil ρ).wq QF X := by with_unfolding_all exact O.ws_nil h
theorem ws_cons (h : (evS T cf F mv s ρ).wq (fun fl ρ1 => SqK fl ((evB T cf F mv ss ρ1).wq QF X) (fun fl => QF fl ρ1)) X) : (evB T cf F mv (.cons s ss) ρ).wq QF X := by with_unfolding_all exact O.ws_cons h
theorem ws_cut {P : List Sl → Prop} (h1 : (evS T cf F mv s ρ).wq (fun fl ρ1 => fl = .nx ∧ P ρ1) X) (h2 : ∀ ρ1, P ρ1 → (evB T cf F mv ss ρ1).wq QF X) : (evB T cf F mv (.cons s ss) ρ).wq QF X := by with_unfolding_all exact O.ws_cut h1 h2
theorem ws_asg {t : Tg} (h : wv (evE T cf e ρ) (fun fr d ρ1 => Get (asgT mv t fr d ρ1) fun ρ2 => QF .nx ρ2) X) : (evS T cf F mv (.asg t e) ρ).wq QF X := by with_unfolding_all exact O.ws_asg h
theorem wy_nil {K : List (Bool × D) → List Sl → Prop} (h : K [] ρ) : (evVs T cf .nil ρ).wq K X := by with_unfolding_all exact O.wy_nil h
theorem wy_cons {K : List (Bool × D) → List Sl → Prop} (h : wv (evE T cf e ρ) (fun fr d ρ1 => (evVs T cf es ρ1).wq (fun xs ρ2 => K ((fr, d) :: xs) ρ2) X) X) : (evVs T cf (.cons e es) ρ).wq K X := by with_unfolding_all exact O.wy_cons h
theorem ws_par {is : List Nat} (h : (evVs T cf es ρ).wq (fun xs ρ1 => Get (parIn mv is xs ρ1) fun ρ2 => QF .nx ρ2) X) : (evS T cf F mv (.par is es) ρ).wq QF X := by with_unfolding_all exact O.ws_par h
theorem gp_nil {K : List Sl → Prop} (h : K ρ) : Get (parIn mv [] [] ρ) K := by with_unfolding_all exact O.gp_nil h
theorem gp_sh {is : List Nat} {ds : List (Bool × D)} {K : List Sl → Prop} (h : mv.contains i = false) (q : Nf (ρ.set i (.sh d)) fun ρ1 => Get (parIn mv is ds ρ1) K) : Get (parIn mv (i :: is) ((false, d) :: ds) ρ) K := by with_unfolding_all exact O.gp_sh h q
theorem gp_ow {is : List Nat} {ds : List (Bool × D)} {K : List Sl → Prop} (h : mv.contains i = false) (q : Nf (ρ.set i (.ow d)) fun ρ1 => Get (parIn mv is ds ρ1) K) : Get (parIn mv (i :: is) ((true, d) :: ds) ρ) K := by with_unfolding_all exact O.gp_ow h q
theorem ga_sh {K : List Sl → Prop} (h : mv.contains i = false) (q : Nf (ρ.set i (.sh d)) K) : Get (asgT mv (.nm i) false d ρ) K := by with_unfolding_all exact O.ga_sh h q
theorem ga_ow {K : List Sl → Prop} (h : mv.contains i = false) (q : Nf (ρ.set i (.ow d)) K) : Get (asgT mv (.nm i) true d ρ) K := by with_unfolding_all exact O.ga_ow h q
theorem ga_tup {ts : List Tg} {ds : List D} {K : List Sl → Prop} (h : Get (asgTs mv ts ds ρ) K) : Get (asgT mv (.tu ts) fr (.tup ds) ρ) K := by with_unfolding_all exact O.ga_tup h
theorem ga_lst {ts : List Tg} {ds : List D} {K : List Sl → Prop} (h : Get (asgTs mv ts ds ρ) K) : Get (asgT mv (.tu ts) fr (.lst ds) ρ) K := by with_unfolding_all exact O.ga_lst h
theorem gas_nil {K : List Sl → Prop} (h : K ρ) : Get (asgTs mv [] [] ρ) K := by with_unfolding_all exact O.gas_nil h
theorem gas_cons {t : Tg} {ts : List Tg} {ds : List D} {K : List Sl → Prop} (h : Get (asgT mv t false d ρ) fun ρ1 => Get (asgTs mv ts ds ρ1) K) : Get (asgTs mv (t :: ts) (d :: ds) ρ) K := by with_unfolding_all exact O.gas_cons h
theorem ws_asgs {is : List Nat} (h : wv (evE T cf e ρ) (fun fr d ρ1 => IsF fr (Get (asm mv is d ρ1) fun ρ2 => QF .nx ρ2)) X) : (evS T cf F mv (.asgs is e) ρ).wq QF X := by with_unfolding_all exact O.ws_asgs h
theorem gm_nil {K : List Sl → Prop} (h : K ρ) : Get (asm mv [] d ρ) K := by with_unfolding_all exact O.gm_nil h
theorem gm_cons {is : List Nat} {K : List Sl → Prop} (h : mv.contains i = false) (q : Nf (ρ.set i (.sh d)) fun ρ1 => Get (asm mv is d ρ1) K) : Get (asm mv (i :: is) d ρ) K := by with_unfolding_all exact O.gm_cons h q
theorem w_callk {f : Nat} {es ks : Es} {pm : List (Sum Nat D)} (h : (evEs T cf es ρ).wq (fun os ρ1 => (evEs T cf ks ρ1).wq (fun zs ρ2 => Get (pmO pm (os ++ zs)) fun os' => wv (callOp T cf f os' ρ2) Q X) X) X) : wv (evE T cf (.callk f es ks pm) ρ) Q X := by with_unfolding_all exact O.w_callk h
theorem ws_aug (h : (opOf (.v i) (rdV i) ρ).wq (fun x ρ1 => (opOf e (evE T cf e) ρ1).wq (fun y ρ2 => Get (x.rs ρ2) fun d => Get (y.rs ρ2) fun g => Get (augD o d g) fun r => Get (asgT mv (.nm i) false r ρ2) fun ρ3 => QF .nx ρ3) X) X) : (evS T cf F mv (.aug o i e) ρ).wq QF X := by with_unfolding_all exact O.ws_aug h
theorem ws_six {ix : E} (h0 : ρ[i]? = some (.ow d)) (h : (opOf e (evE T cf e) ρ).wq (fun y ρ1 => (opOf ix (evE T cf ix) ρ1).wq (fun k ρ2 => GetP (y.fz ρ2) fun z ρ3 => Get (k.rs ρ3) fun kd => GetO (ρ3[i]?) fun o => Get (setD o kd z) fun o' => Nf (ρ3.set i (.ow o')) fun ρ4 => QF .nx ρ4) X) X) : (evS T cf F mv (.six i ix e) ρ).wq QF X := by with_unfolding_all exact O.ws_six h0 h
theorem ws_ex (h : wv (evE T cf e ρ) (fun _ _ ρ1 => QF .nx ρ1) X) : (evS T cf F mv (.ex e) ρ).wq QF X := by with_unfolding_all exact O.ws_ex h
theorem ws_ret (h : wv (evE T cf e ρ) (fun fr d ρ1 => QF (.rt fr d) ρ1) X) : (evS T cf F mv (.ret e) ρ).wq QF X := by with_unfolding_all exact O.ws_ret h
theorem ws_ite (h : (tru (evE T cf c) ρ).wq (fun t ρ1 => Br t ((evB T cf F mv sa ρ1).wq QF X) ((evB T cf F mv sb ρ1).wq QF X)) X) : (evS T cf F mv (.ite c sa sb) ρ).wq QF X := by with_unfolding_all exact O.ws_ite h
theorem ws_for {t : Tg} (h : wv (evE T cf e ρ) (fun _ d ρ1 => Get (itD d) fun ds => (forGo mv t (evB T cf F mv ss) ds ρ1).wq QF X) X) : (evS T cf F mv (.for_ t e ss) ρ).wq QF X := by with_unfolding_all exact O.ws_for h
theorem ws_forK {t : Tg} (h : wv (evE T cf (.v i) ρ) (fun _ d ρ1 => IsK d fun kvs => (forGo mv t (evB T cf F mv ss) ((kvs.map (·.1)).map keyV) ρ1).wq QF (fun _ _ => False)) X) : (evS T cf F mv (.for_ t (.v i) ss) ρ).wq QF X := by with_unfolding_all exact O.ws_forK h
theorem wf_nil {t : Tg} {body : List Sl → R Fl} (h : QF .nx ρ) : (forGo mv t body [] ρ).wq QF X := by with_unfolding_all exact O.wf_nil h
theorem wf_cons {t : Tg} {body : List Sl → R Fl} {ds : List D} (h : Get (asgT mv t false d ρ) fun ρ1 => (body ρ1).wq (fun fl ρ2 => LpK fl ((forGo mv t body ds ρ2).wq QF X) (QF .nx ρ2) (fun fr d => QF (.rt fr d) ρ2)) X) : (forGo mv t body (d :: ds) ρ).wq QF X := by with_unfolding_all exact O.wf_cons h
theorem wf_inv {t : Tg} {body : List Sl → R Fl} (I : List D → List Sl → Prop) {ds : List D} (h0 : I ds ρ) (h1 : ∀ d ds' ρ, (∃ pre, ds = pre ++ d :: ds') → I (d :: ds') ρ → Get (asgT mv t false d ρ) fun ρ1 => (body ρ1).wq (fun fl ρ2 => LpK fl (I ds' ρ2) (QF .nx ρ2) (fun fr d => QF (.rt fr d) ρ2)) X) (h2 : ∀ ρ, I [] ρ → QF .nx ρ) : (forGo mv t body ds ρ).wq QF X := by with_unfolding_all exact O.wf_inv I h0 h1 h2
theorem ws_whl (h : (whlGo (tru (evE T cf c)) (evB T cf F mv ss) F ρ).wq QF X) : (evS T cf F mv (.whl c ss) ρ).wq QF X := by with_unfolding_all exact O.ws_whl h
theorem ww_inv {cd : List Sl → R Bool} {body : List Sl → R Fl} (I : Nat → List Sl → Prop) (h : ∀ n ρ, I n ρ → (cd ρ).wq (fun b ρ1 => Br b ((body ρ1).wq (fun fl ρ2 => LpK fl (∃ m, m < n ∧ I m ρ2) (QF .nx ρ2) (fun fr d => QF (.rt fr d) ρ2)) X) (QF .nx ρ1)) X) {f n : Nat} (hf : n < f) (h0 : I n ρ) : (whlGo cd body f ρ).wq QF X := by with_unfolding_all exact O.ww_inv I h hf h0
theorem ws_brk (h : QF .bk ρ) : (evS T cf F mv .brk ρ).wq QF X := by with_unfolding_all exact O.ws_brk h
theorem ws_cnt (h : QF .ct ρ) : (evS T cf F mv .cnt ρ).wq QF X := by with_unfolding_all exact O.ws_cnt h
theorem ws_pas (h : QF .nx ρ) : (evS T cf F mv .pas ρ).wq QF X := by with_unfolding_all exact O.ws_pas h
theorem ws_rse {c : Nat} (h : X ⟨c, []⟩ ρ) : (evS T cf F mv (.rse c) ρ).wq QF X := by with_unfolding_all exact O.ws_rse h
theorem w_lc {own : List Nat} {t : Tg} {it el : E} {ifs : Es} (h : wv (evE T cf it ρ) (fun _ d ρ1 => Get (itD d) fun ds => noOwn own ρ1 = true ∧ (lcGo own t (evTs T cf ifs) (evE T cf el) ds [] ρ1).wq (fun acc ρ2 => Nf (restore own ρ1 ρ2) fun ρ3 => Q true (.lst acc) ρ3) (fun _ _ => False)) X) : wv (evE T cf (.lc own t it ifs el) ρ) Q X := by with_unfolding_all exact O.w_lc h
theorem wt_nil (h : QB true ρ) : (evTs T cf .nil ρ).wq QB X := by with_unfolding_all exact O.wt_nil h
theorem wt_cons (h : (tru (evE T cf e) ρ).wq (fun t ρ1 => Br t ((evTs T cf es ρ1).wq QB X) (QB false ρ1)) X) : (evTs T cf (.cons e es) ρ).wq QB X := by with_unfolding_all exact O.wt_cons h
theorem wg_nil {own : List Nat} {t : Tg} {tests : List Sl → R Bool} {el : Ev} {acc : List D} {K : List D → List Sl → Prop} (h : K acc ρ) : (lcGo own t tests el [] acc ρ).wq K X := by with_unfolding_all exact O.wg_nil h
theorem wg_cons {own : List Nat} {t : Tg} {tests : List Sl → R Bool} {el : Ev} {acc ds : List D} {K : List D → List Sl → Prop} (h : Nf (wipeS own ρ) fun ρ0 => Get (asgT [] t false d ρ0) fun ρ1 => (tests ρ1).wq (fun b ρ2 => Br b (wv (el ρ2) (fun _ x ρ3 => acc.length < sizeLine ∧ Nf (acc ++ [x]) fun acc' => (lcGo own t tests el ds acc' ρ3).wq K X) X) ((lcGo own t tests el ds acc ρ2).wq K X)) X) : (lcGo own t tests el (d :: ds) acc ρ).wq K X := by with_unfolding_all exact O.wg_cons h
end
theorem lc_any {own : List Nat} {t : Tg} {tests : List Sl → R Bool} {el : Ev} {X : XP} {w : List Sl} (f : D → Option D) : ∀ {ds acc : List D} {ρ : List Sl} {K : List D → List Sl → Prop}, wipeS own ρ = w → acc.length + ds.length ≤ sizeLine →
    (∀ d, d ∈ ds → Get (asgT [] t false d w) fun ρ1 => (tests ρ1).wq (fun b ρ2 => Br b (wv (el ρ2) (fun _ x ρ3 => f d = some x ∧ wipeS own ρ3 = w) X) (f d = none ∧ wipeS own ρ2 = w)) X) →
    (∀ ρ2, wipeS own ρ2 = w → K (acc ++ ds.filterMap f) ρ2) → (lcGo own t tests el ds acc ρ).wq K X:= by with_unfolding_all exact O.lc_any f
theorem restore_wipe {own : List Nat} {ρ0 ρ : List Sl} (h : wipeS own ρ = wipeS own ρ0) : restore own ρ0 ρ = ρ0 := by with_unfolding_all exact O.restore_wipe h
section
variable {T : Nat → Option Fd} {cf : CF} {ρ : List Sl} {Q : Bool → D → List Sl → Prop} {X : XP}
theorem w_lcAny {own : List Nat} {t : Tg} {it el : E} {ifs : Es} (f : D → Option D) (h : wv (evE T cf it ρ) (fun _ d ρ1 => Get (itD d) fun ds => noOwn own ρ1 = true ∧ ds.length ≤ sizeLine ∧ Nf (wipeS own ρ1) fun w =>
    (∀ d, d ∈ ds → Get (asgT [] t false d w) fun ρ1 => (evTs T cf ifs ρ1).wq (fun b ρ2 => Br b (wv (evE T cf el ρ2) (fun _ x ρ3 => f d = some x ∧ wipeS own ρ3 = w) (fun _ _ => False)) (f d = none ∧ wipeS own ρ2 = w)) (fun _ _ => False)) ∧ Q true (.lst (ds.filterMap f)) ρ1) X) : wv (evE T cf (.lc own t it ifs el) ρ) Q X := by with_unfolding_all exact O.w_lcAny f h
end
end L2.T
end

section
set_option Elab.async false
set_option linter.all false
set_option maxRecDepth 100000
set_option maxHeartbeats 4000000
set_option autoImplicit false
namespace L2.T
open PySem PySem.Spec PyProof.Rows
section
variable {i j : Int}
theorem c_lt : cop .Lt (.int i) (.int j) = some (decide (i < j)) := rfl
theorem c_le : cop .LtE (.int i) (.int j) = some (decide (i ≤ j)) := rfl
theorem c_gt : cop .Gt (.int i) (.int j) = some (decide (j < i)) := rfl
theorem c_ge : cop .GtE (.int i) (.int j) = some (decide (j ≤ i)) := rfl
theorem c_eq : cop .Eq (.int i) (.int j) = some (decide (i = j)) := by show eqD (.int i) (.int j) = _; simp only [eq_int]
theorem c_ne : cop .NotEq (.int i) (.int j) = some (!decide (i = j)) := by simp only [cop, eq_int, Option.map_some]
theorem c_eqX : cop (if false then .NotEq else .Eq) (.int i) (.int j) = some (decide (i = j)) := c_eq
theorem c_neX : cop (if true then .NotEq else .Eq) (.int i) (.int j) = some (!decide (i = j)) := c_ne
theorem b_modE (h : 0 < j) : bop .Mod (.int i) (.int j) = some (false, .int (i % j)) := by rw [b_mod (by omega), Int.fmod_eq_emod_of_nonneg i (by omega)]
theorem b_divE (h : 0 < j) (h2 : j ≤ 2 ^ 200) : bop .FloorDiv (.int i) (.int j) = some (false, .int (i / j)) := by rw [b_div (div_pos h h2), Int.fdiv_eq_ediv_of_nonneg i (by omega)]
theorem sum3 {a b c : Int} : bfn "sum" [.tup [.int a, .int b, .int c]] = some (false, .int (a + b + c)) := by
  show some (false, D.int (a + (b + (c + 0)))) = _
  rw [Int.add_zero, Int.add_assoc]
theorem b_abs : bfn "abs" [.int i] = some (false, .int (if i < 0 then -i else i)) := rfl
theorem own_ok {own : List Nat} {ρ : List Sl} {P : Prop} (e : noOwn own ρ = true) (h : P) : noOwn own ρ = true ∧ P := ⟨e, h⟩
theorem gt_bl {b : Bool} {k : Bool → Prop} (h : k b) : Get (D.bl b).truth k := get_some rfl h
theorem len_ok {α : Type} {xs : List α} {n : Nat} {P : Prop} (e : xs.length = n) (hn : n ≤ 16777216) (h : P) : xs.length ≤ sizeLine ∧ P := ⟨by rw [sizeLine_eq, e]; exact hn, h⟩
theorem len_lt {α : Type} {xs : List α} {n : Nat} {P : Prop} (e : xs.length = n) (hn : n < 16777216) (h : P) : xs.length < sizeLine ∧ P := ⟨by rw [sizeLine_eq, e]; exact hn, h⟩
theorem b_cat {xs ys : List D} {n m : Nat} (e : xs.length = n) (g : ys.length = m) (h : n + m ≤ 16777216) : bop .Add (.lst xs) (.lst ys) = some (true, .lst (xs ++ ys)) := by
  simp only [bop]
  rw [if_pos (by rw [sizeLine_eq, e, g]; exact h)]
theorem b_catT {xs ys : List D} {n m : Nat} (e : xs.length = n) (g : ys.length = m) (h : n + m ≤ 16777216) : bop .Add (.tup xs) (.tup ys) = some (false, .tup (xs ++ ys)) := by
  simp only [bop]
  rw [if_pos (by rw [sizeLine_eq, e, g]; exact h)]
end
theorem wipe_t {own : List Nat} {j : Nat} {s : Sl} {r : List Sl} (h : own.contains j = true) : wipeAt own j (s :: r) = .un :: wipeAt own (j + 1) r := by simp only [wipeAt, h, if_true]
theorem wipe_f {own : List Nat} {j : Nat} {s : Sl} {r : List Sl} (h : own.contains j = false) : wipeAt own j (s :: r) = s :: wipeAt own (j + 1) r := by simp only [wipeAt, h]; rfl
theorem wipe_n {own : List Nat} {j : Nat} : wipeAt own j [] = [] := rfl
theorem rest_t {own : List Nat} {j : Nat} {s s' : Sl} {r r' : List Sl} (h : own.contains j = true) : restoreAt own j (s :: r) (s' :: r') = s :: restoreAt own (j + 1) r r' := by simp only [restoreAt, h, if_true]
theorem rest_f {own : List Nat} {j : Nat} {s s' : Sl} {r r' : List Sl} (h : own.contains j = false) : restoreAt own j (s :: r) (s' :: r') = s' :: restoreAt own (j + 1) r r' := by simp only [restoreAt, h]; rfl
theorem rest_n {own : List Nat} {j : Nat} : restoreAt own j [] [] = [] := rfl
theorem gm_app {xs : List D} {d : D} {n : Nat} {k : D → Bool → D → Prop} (e : xs.length = n) (hn : n < 16777216) (q : Nf (xs ++ [d]) fun ys => k (.lst ys) false .non) : GetM (mmD "append" (.lst xs) [d]) k := by
  have h : mmD "append" (.lst xs) [d] = some (.lst (xs ++ [d]), false, .non) := by
    show (if xs.length < sizeLine then some (D.lst (xs ++ [d]), false, D.non) else none) = _
    rw [if_pos (by rw [sizeLine_eq, e]; exact hn)]
  refine getm_some h ?_
  unfold Nf at q
  exact q
theorem callF_d {T : Nat → Option Fd} {F k : Nat} : callF T F (k + 2) (3 * BB) [] = .ok (false, .non) [] := by
  have e := callF_s T F (k + 1)
  have h1 : ¬ 3 * BB < BB := by unfold BB; decide
  have h2 : ¬ 3 * BB < 2 * BB := by unfold BB; decide
  simp only [e, stepF]
  rw [if_neg h1, if_neg h2, if_neg (Nat.lt_irrefl _)]
section
variable {T : Nat → Option Fd} {cf : CF} {F : Nat} {mv : List Nat} {ρ : List Sl} {i : Nat} {kvs : List (Key × D)} {ss : Ss} {QF : Fl → List Sl → Prop} {X : XP}
theorem ws_forKs {t : Tg} (h : ρ[i]? = some (.sh (.dk kvs))) (q : (forGo mv t (evB T cf F mv ss) ((kvs.map (·.1)).map keyV) ρ).wq QF (fun _ _ => False)) : (evS T cf F mv (.for_ t (.v i) ss) ρ).wq QF X := ws_forK (w_vs h (isK q))
theorem ws_forKo {t : Tg} (h : ρ[i]? = some (.ow (.dk kvs))) (q : Nf (ρ.set i (.sh (.dk kvs))) fun ρ1 => (forGo mv t (evB T cf F mv ss) ((kvs.map (·.1)).map keyV) ρ1).wq QF (fun _ _ => False)) : (evS T cf F mv (.for_ t (.v i) ss) ρ).wq QF X := ws_forK (w_vo h (by unfold Nf at q ⊢; exact isK q))
end
/-- a pen of which at most j numbers were taken -/
def Pen (j : Nat) (p : D) : Prop := ∃ cs n r, p = pen cs n r ∧ 0 ≤ n ∧ n ≤ (j : Int)
theorem Pen.mono {j i : Nat} {p : D} (h : Pen j p) (l : j ≤ i) : Pen i p := by
  obtain ⟨cs, n, r, e, h0, h1⟩ := h
  exact ⟨cs, n, r, e, h0, by omega⟩
theorem w_draw {T : Nat → Option Fd} {F k id j : Nat} {p : D} {m : Int} {Q : Bool → D → List Sl → Prop} {X : XP} (hT : T id = some ⟨2, [0], 6, irDraw⟩) (hB : id < BB) (hp : Pen j p) (hj : j ≤ 1000000) (hm : 0 < m) (hm2 : m ≤ 2 ^ 200)
    (h : ∀ v p', 0 ≤ v → v < m → Pen (j + 1) p' → Q false (.int v) [.ow p', .sh (.int m)]) : wv (callF T F (k + 1) id [.ow p, .sh (.int m)]) Q X := by
  obtain ⟨cs, n, r, rfl, h0, h1⟩ := hp
  obtain ⟨v, n', r', v0, v1, n0, n1, e⟩ := draw_ok (T := T) (F := F) (k := k) hT hB (cs := cs) (r := r) h0 (by omega) hm hm2
  refine wv_ok e ?_
  exact h v _ v0 v1 ⟨cs, n', r', rfl, by omega, by omega⟩
theorem w_two {T : Nat → Option Fd} {F k f : Nat} {as : List Sl} {Q : Bool → D → List Sl → Prop} {X : XP} (hf : f < BB) (h : wv (callF T F k f as) Q X) : wv (callF T F (k + 2) (f + 2 * BB) as) Q X := by
  rw [callF_two hf]
  exact h
/-- the pen that the laws make -/
theorem pen_cut {ns : List Int} (h : ns.length ≤ 63) : cutD (.scr ns) none (some 63) = some (true, .lst (ns.map D.int)) := by
  have e : cutA (ns.map D.int) none (some 63) = ns.map D.int := by
    unfold cutA
    have z : HT.sIx (ns.map D.int).length 0 none = 0 := rfl
    rw [z, List.drop_zero, List.take_of_length_le]
    have : HT.sIx (ns.map D.int).length (ns.map D.int).length (some 63) = min 63 (ns.map D.int).length := rfl
    rw [this, List.length_map]
    omega
  show some (true, D.lst (cutA (ns.map D.int) none (some 63))) = _
  rw [e]
theorem pen_new (ns : List Int) : Pen 0 (pen ns 0 0) := ⟨ns, 0, 0, rfl, by omega, by omega⟩
end L2.T
end

section
set_option Elab.async false
set_option linter.all false
set_option maxRecDepth 100000
set_option maxHeartbeats 4000000
set_option autoImplicit false
namespace L2.T
open PySem PySem.Spec PyProof.Rows

/-! ### texts of data -/
theorem int_len {i : Int} (h : i.natAbs ≤ 2 ^ 100) : (PyData.shown (.int i)).length ≤ 1921 := by
  unfold PyData.shown
  refine int_text_len_1921 ?_
  have h2 : i.natAbs < 2 ^ 101 := by
    have : (2 : Nat) ^ 100 < 2 ^ 101 := Nat.pow_lt_pow_right (by omega) (by omega)
    omega
  by_cases hz : i.natAbs = 0
  · rw [hz]; decide
  · have := (Nat.log2_lt hz).mpr h2
    omega
theorem int_show {i : Int} (h : i.natAbs ≤ 2 ^ 100) : PyData.showable (.int i) = true := by
  unfold PyData.showable
  rw [decide_eq_true_eq]
  have h2 : i.natAbs < 2 ^ 101 := by
    have : (2 : Nat) ^ 100 < 2 ^ 101 := Nat.pow_lt_pow_right (by omega) (by omega)
    omega
  by_cases hz : i.natAbs = 0
  · rw [hz]; decide
  · have := (Nat.log2_lt hz).mpr h2
    omega
theorem ok_str (x : String) : PyData.strOk (Str.ofString x) = true := by
  unfold PyData.strOk
  rw [Str.ofString_eq_toList, List.all_toArray, List.all_eq_true]
  intro c hc
  obtain ⟨d, _, rfl⟩ := List.mem_map.mp hc
  rw [decide_eq_true_eq]
  have := d.valid
  have h : d.toNat = d.val.toNat := rfl
  rw [h]
  rcases this with z | ⟨_, z⟩
  · omega
  · exact z
theorem ok_app {x y : Str} (h : PyData.strOk x = true) (g : PyData.strOk y = true) : PyData.strOk (x ++ y) = true := by
  unfold PyData.strOk at h g ⊢
  rw [Str.cps_append, Array.all_append, h, g]
  rfl
theorem ok_int (i : Int) : PyData.strOk (PyData.int i).shown = true := by
  unfold PyData.shown
  exact ok_str _
theorem eq_str {x : Str} (hx : PyData.strOk x = true) : eqD (.str x) (.str x) = some true := by
  unfold eqD
  simp only [D.py]
  have h1 : SeqAt.shaped (.str x) = true := by
    unfold SeqAt.shaped
    simp only [PyData.canLay0, PyData.depth, Bool.and_eq_true]
    exact ⟨hx, rfl⟩
  have h2 : PyData.eqv (.str x) (.str x) = true := by simp [PyData.eqv]
  simp only [h1, h2, Bool.and_self, if_true]
theorem ne_str {x : Str} (hx : PyData.strOk x = true) : cop .NotEq (.str x) (.str x) = some false := by
  show (eqD (.str x) (.str x)).map not = _
  rw [eq_str hx]
  rfl
theorem text_ok : ∀ (ts : List Str) (k : Nat) (acc : Str), PyData.strOk acc = true → (∀ t ∈ ts, PyData.strOk t = true) → PyData.strOk (textFrom k acc ts) = true
  | [], _, _, h, _ => h
  | t :: r, k, acc, h, g => text_ok r (k + 1) _ (ok_app (ok_app h (ok_str _)) (g t (by simp))) fun u hu => g u (by simp [hu])
theorem text_le : ∀ (ts : List Str) (k : Nat) (acc : Str), (textFrom k acc ts).length ≤ acc.length + piled ts
  | [], _, acc => by show acc.length ≤ _; omega
  | t :: r, k, acc => by
    have ih := text_le r (k + 1) (acc ++ (if k > 0 then ", " else "" : String) ++ t)
    have h2 : ((if k > 0 then ", " else "" : String) : Str).length ≤ 2 := by
      split
      · exact Nat.le_refl 2
      · exact Nat.zero_le 2
    rw [Str.length_append, Str.length_append] at ih
    rw [piled_cons]
    show (textFrom (k + 1) (acc ++ (if k > 0 then ", " else "" : String) ++ t) r).length ≤ _
    omega
theorem join_ok : ∀ ts : List Str, (∀ t ∈ ts, PyData.strOk t = true) → PyData.strOk (Str.join ", " ts) = true
  | [], _ => ok_str ""
  | [x], h => h x (by simp)
  | x :: y :: r, h => by
    show PyData.strOk (x ++ ", " ++ Str.join ", " (y :: r)) = true
    exact ok_app (ok_app (h x (by simp)) (ok_str _)) (join_ok (y :: r) fun t ht => h t (List.mem_cons_of_mem _ ht))
theorem tuple_le (ts : List Str) : (tupleText ts).length ≤ piled ts + 3 := by
  unfold tupleText
  rw [Str.length_append, Str.length_append]
  have e1 : ((("(" : String) : Str)).length = 1 := rfl
  have e3 : (((if ts.length == 1 then ",)" else ")" : String) : Str)).length ≤ 2 := by split <;> decide
  rw [e1]
  by_cases h : ts = []
  · subst h
    have : (Str.join ", " []).length = 0 := rfl
    omega
  · have := join_length_add ts h
    omega
mutual
def okP : PyData → Bool
  | .none => true
  | .bool _ => true
  | .int i => decide (i.natAbs ≤ 2 ^ 100)
  | .str x => PyData.strOk x && (PyData.strOk (PyData.str x).shown && decide ((PyData.str x).shown.length ≤ 1921))
  | .list xs => okPs xs
  | .tuple xs => okPs xs
  | .dict _ => false
def okPs : List PyData → Bool
  | [] => true
  | x :: xs => okP x && okPs xs
end
mutual
def wtP : PyData → Nat
  | .list xs => wtPs xs + 1
  | .tuple xs => wtPs xs + 1
  | _ => 1
def wtPs : List PyData → Nat
  | [] => 0
  | x :: xs => wtP x + wtPs xs
end
mutual
theorem okP_all : ∀ {p : PyData}, okP p = true → p.showable = true ∧ p.hasDict = false ∧ p.canLay0 = true ∧ PyData.strOk p.shown = true ∧ p.shown.length + 2 ≤ 1925 * wtP p
  | .none, _ => ⟨rfl, rfl, rfl, ok_str _, by unfold PyData.shown wtP; decide⟩
  | .bool b, _ => by
    refine ⟨rfl, rfl, rfl, ?_, ?_⟩
    · unfold PyData.shown
      cases b <;> exact ok_str _
    · unfold PyData.shown wtP
      cases b <;> decide
  | .int i, h => by
    simp only [okP, decide_eq_true_eq] at h
    refine ⟨int_show h, rfl, rfl, ok_int i, ?_⟩
    have := int_len h
    unfold wtP
    omega
  | .str x, h => by
    simp only [okP, Bool.and_eq_true, decide_eq_true_eq] at h
    obtain ⟨h1, h2, h3⟩ := h
    refine ⟨rfl, rfl, h1, h2, ?_⟩
    unfold wtP
    omega
  | .list xs, h => by
    simp only [okP] at h
    obtain ⟨h1, h2, h3, h4, h5⟩ := okPs_all h
    refine ⟨by simpa only [PyData.showable] using h1, by simpa only [PyData.hasDict] using h2, by simpa only [PyData.canLay0] using h3, ?_, ?_⟩
    · simp only [PyData.shown]
      exact ok_app (text_ok _ 0 _ (ok_str _) h4) (ok_str _)
    · simp only [PyData.shown, listText, wtP]
      rw [Str.length_append]
      have := text_le (PyData.shownAll xs) 0 ("[" : String)
      have c : ((("[" : String) : Str)).length = 1 := rfl
      have d : ((("]" : String) : Str)).length = 1 := rfl
      rw [c] at this
      rw [d]
      omega
  | .tuple xs, h => by
    simp only [okP] at h
    obtain ⟨h1, h2, h3, h4, h5⟩ := okPs_all h
    refine ⟨by simpa only [PyData.showable] using h1, by simpa only [PyData.hasDict] using h2, by simpa only [PyData.canLay0] using h3, ?_, ?_⟩
    · simp only [PyData.shown, tupleText]
      exact ok_app (ok_app (ok_str _) (join_ok _ h4)) (ok_str _)
    · simp only [PyData.shown, wtP]
      have := tuple_le (PyData.shownAll xs)
      omega
  | .dict _, h => by simp only [okP] at h; cases h
theorem okPs_all : ∀ {ps : List PyData}, okPs ps = true → PyData.showableAll ps = true ∧ PyData.hasDictAll ps = false ∧ PyData.canLayAll0 ps = true ∧ (∀ t ∈ PyData.shownAll ps, PyData.strOk t = true) ∧ piled (PyData.shownAll ps) ≤ 1925 * wtPs ps
  | [], _ => by
    refine ⟨rfl, rfl, rfl, fun t h => ?_, ?_⟩
    · simp only [PyData.shownAll] at h; cases h
    · simp only [PyData.shownAll, wtPs]; decide
  | p :: ps, h => by
    simp only [okPs, Bool.and_eq_true] at h
    obtain ⟨a1, a2, a3, a4, a5⟩ := okP_all h.1
    obtain ⟨b1, b2, b3, b4, b5⟩ := okPs_all h.2
    refine ⟨by simp only [PyData.showableAll, a1, b1, Bool.and_self], by simp only [PyData.hasDictAll, a2, b2, Bool.or_self], by simp only [PyData.canLayAll0, a3, b3, Bool.and_self], fun t ht => ?_, ?_⟩
    · simp only [PyData.shownAll] at ht
      rcases List.mem_cons.mp ht with rfl | ht
      · exact a4
      · exact b4 t ht
    · simp only [PyData.shownAll, wtPs]
      rw [piled_cons]
      omega
end
theorem shaped_ok {p : PyData} (h : okP p = true) (hd : p.depth ≤ 64) : SeqAt.shaped p = true := by
  unfold SeqAt.shaped
  rw [(okP_all h).2.2.1, decide_eq_true hd]
  rfl
/-- the text of data -/
theorem repr_any {d : D} {p : PyData} (hp : d.py = some p) (hs : isSeq d = true) (h : okP p = true) (hd : p.depth ≤ 64) (hw : wtP p ≤ 8000) : ∃ x : Str, PyData.strOk x = true ∧ bfn "repr" [d] = some (false, .str x) := by
  obtain ⟨h1, h2, h3, h4, h5⟩ := okP_all h
  refine ⟨p.shown, h4, ?_⟩
  have e : reprD d = some p.shown := by
    unfold reprD
    rw [hp]
    have hl : p.shown.length ≤ sizeLine := by rw [sizeLine_eq]; omega
    simp only [h1, h2, shaped_ok h hd, decide_eq_true hl, Bool.not_false, Bool.and_self, if_true]
  cases d <;> (try (cases hs; done))
  · show (reprD (.tup _)).map _ = _
    rw [e]
    rfl
  · show (reprD (.lst _)).map _ = _
    rw [e]
    rfl
theorem eq_same {d : D} {p : PyData} (hp : d.py = some p) (h : okP p = true) (hd : p.depth ≤ 64) : eqD d d = some true := by
  unfold eqD
  rw [hp]
  simp only [shaped_ok h hd, Bool.and_self, if_true, SeqAt.eqv_refl p (okP_all h).2.2.1]
theorem eq_two {d e : D} {p q : PyData} (hp : d.py = some p) (hq : e.py = some q) (h : okP p = true) (hd : p.depth ≤ 64) (g : okP q = true) (gd : q.depth ≤ 64) : eqD d e = some (PyData.eqv p q) := by
  unfold eqD
  rw [hp, hq]
  simp only [shaped_ok h hd, shaped_ok g gd, Bool.and_self, if_true]
theorem py_ints : ∀ l : List Int, pyL (l.map D.int) = some (l.map PyData.int)
  | [] => rfl
  | x :: l => by
    rw [List.map_cons, List.map_cons]
    simp only [pyL, D.py, py_ints l]
theorem okP_ints : ∀ {l : List Int}, (∀ x ∈ l, x.natAbs ≤ 2 ^ 100) → okPs (l.map PyData.int) = true
  | [], _ => rfl
  | x :: l, h => by
    rw [List.map_cons]
    simp only [okPs, okP, Bool.and_eq_true, decide_eq_true_eq]
    exact ⟨h x (by simp), okP_ints fun y hy => h y (by simp [hy])⟩
theorem wtP_ints : ∀ l : List Int, wtPs (l.map PyData.int) = l.length
  | [] => rfl
  | x :: l => by
    rw [List.map_cons]
    simp only [wtPs, wtP, wtP_ints l, List.length_cons]
    omega
theorem depth_ints : ∀ l : List Int, PyData.depthAll (l.map PyData.int) = 0
  | [] => by simp [PyData.depthAll]
  | x :: l => by simp [PyData.depthAll, PyData.depth, depth_ints l]
/-- the truth's text -/
theorem repr_bl (b : Bool) : ∃ x : Str, PyData.strOk x = true ∧ bfn "repr" [.bl b] = some (false, .str x) := ⟨(PyData.bool b).shown, by unfold PyData.shown; cases b <;> exact ok_str _, by cases b <;> rfl⟩
end L2.T
end

section
set_option Elab.async false
set_option linter.all false
set_option maxRecDepth 100000
set_option maxHeartbeats 4000000
set_option autoImplicit false
namespace L2.T
open PySem PySem.Spec PyProof.Rows
/-! ### ranges, choices -/
def ups (lo : Int) : Nat → List Int
  | 0 => []
  | n + 1 => lo :: ups (lo + 1) n
theorem ups_ok : ∀ (n : Nat) (lo : Int), intsUp lo n = (ups lo n).map D.int
  | 0, _ => rfl
  | n + 1, lo => by simp only [intsUp, ups, List.map_cons, ups_ok n]
theorem ups_mem : ∀ {n : Nat} {lo x : Int}, x ∈ ups lo n ↔ lo ≤ x ∧ x < lo + n
  | 0, lo, x => by simp only [ups, List.not_mem_nil, false_iff]; omega
  | n + 1, lo, x => by
    simp only [ups, List.mem_cons, ups_mem (n := n)]
    constructor
    · rintro (rfl | h) <;> omega
    · intro h
      by_cases e : x = lo
      · exact .inl e
      · exact .inr (by omega)
theorem ups_len : ∀ (n : Nat) (lo : Int), (ups lo n).length = n
  | 0, _ => rfl
  | n + 1, lo => by simp only [ups, List.length_cons, ups_len n]
theorem rng1_ok {a : Int} (h0 : -(2 ^ 62) ≤ a) (h : a < 2 ^ 62) : rngD [.int a] = some ((ups 0 a.toNat).map D.int) := by
  show rng1D [.int a] = _
  simp only [rng1D]
  rw [if_pos ⟨h0, h⟩, ups_ok]
theorem rng2_ok {a b : Int} (h0 : -(2 ^ 62) ≤ a) (h : a < 2 ^ 62) (g0 : -(2 ^ 62) ≤ b) (g : b < 2 ^ 62) : rngD [.int a, .int b] = some ((ups a (b - a).toNat).map D.int) := by
  show rng2D [.int a, .int b] = _
  simp only [rng2D]
  rw [if_pos ⟨⟨h0, h⟩, g0, g⟩, ups_ok]
def fI (g : Int → Option D) : D → Option D
  | .int x => g x
  | _ => none
theorem fm_ints (g : Int → Option D) (l : List Int) : (l.map D.int).filterMap (fI g) = l.filterMap g := by
  rw [List.filterMap_map]
  rfl
theorem fm_sel (p : Int → Bool) : ∀ l : List Int, l.filterMap (fun x => if p x then some (D.int x) else none) = (l.filter p).map D.int
  | [] => rfl
  | x :: l => by
    cases h : p x with
    | true => rw [List.filterMap_cons_some (b := D.int x) (by simp only [h, if_true]), List.filter_cons_of_pos h, List.map_cons, fm_sel p l]
    | false => rw [List.filterMap_cons_none (by simp only [h]; rfl), List.filter_cons_of_neg (by simp [h]), fm_sel p l]
def sel (p : Int → Bool) : D → Option D := fI fun x => if p x then some (D.int x) else none
theorem sel_ints (p : Int → Bool) (l : List Int) : (l.map D.int).filterMap (sel p) = (l.filter p).map D.int := by
  unfold sel
  rw [fm_ints, fm_sel]
theorem sel_t {p : Int → Bool} {x : Int} (h : p x = true) : sel p (.int x) = some (.int x) := by
  show (if p x then some (D.int x) else none) = _
  rw [h]
  rfl
theorem sel_f {p : Int → Bool} {x : Int} (h : p x = false) : sel p (.int x) = none := by
  show (if p x then some (D.int x) else none) = _
  rw [h]
  rfl
/-- one of a list, by a number below its length -/
theorem ix_mem {xs : List D} {v : Int} {k : D → Prop} (h0 : 0 ≤ v) (h1 : v < xs.length) (h : ∀ x, x ∈ xs → k x) : Get (ixD (.lst xs) (.int v)) k := by
  obtain ⟨x, hx, hm⟩ := atI_mod (xs := xs) h0 h1
  exact get_some (show ixD (.lst xs) (.int v) = some x from hx) (h x hm)
theorem ix_memT {xs : List D} {v : Int} {k : D → Prop} (h0 : 0 ≤ v) (h1 : v < xs.length) (h : ∀ x, x ∈ xs → k x) : Get (ixD (.tup xs) (.int v)) k := by
  obtain ⟨x, hx, hm⟩ := atI_mod (xs := xs) h0 h1
  exact get_some (show ixD (.tup xs) (.int v) = some x from hx) (h x hm)
theorem ix_int {l : List Int} {v : Int} {k : D → Prop} (h0 : 0 ≤ v) (h1 : v < l.length) (h : ∀ x, x ∈ l → k (.int x)) : Get (ixD (.lst (l.map D.int)) (.int v)) k := by
  refine ix_mem h0 (by rw [List.length_map]; exact h1) fun x hx => ?_
  obtain ⟨y, hy, rfl⟩ := List.mem_map.mp hx
  exact h y hy
theorem len_map {l : List Int} : bfn "len" [.lst (l.map D.int)] = some (false, .int l.length) := by
  show some (false, D.int ((l.map D.int).length : Nat)) = _
  rw [List.length_map]
theorem eq_nil (l : List Int) : eqD (.lst (l.map D.int)) (.lst []) = some l.isEmpty := by
  unfold eqD
  have hp : (D.lst (l.map D.int)).py = some (.list (l.map PyData.int)) := by simp only [D.py, py_ints, Option.map_some]
  have h1 : SeqAt.shaped (.list (l.map PyData.int)) = true := by
    unfold SeqAt.shaped
    simp only [PyData.canLay0, PyData.depth, depth_ints, Bool.and_eq_true, decide_eq_true_eq]
    refine ⟨?_, by omega⟩
    have : ∀ l : List Int, PyData.canLayAll0 (l.map PyData.int) = true := fun l => by
      induction l with
      | nil => rfl
      | cons x l ih => simp only [List.map_cons, PyData.canLayAll0, PyData.canLay0, ih, Bool.and_self]
    exact this l
  rw [hp]
  show (if (SeqAt.shaped (.list (l.map PyData.int)) && SeqAt.shaped (.list [])) = true then some (PyData.eqv (.list (l.map PyData.int)) (.list [])) else none) = _
  have h2 : SeqAt.shaped (.list []) = true := rfl
  rw [h1, h2]
  cases l with
  | nil => rfl
  | cons x l => rfl
/-- int of a truth -/
theorem bint_t {t : Bool} {k : Bool → D → Prop} (e : t = true) (h : k false (.int 1)) : GetV (bfn "int" [.bl t]) k := by subst e; exact getv_some rfl h
theorem bint_f {t : Bool} {k : Bool → D → Prop} (e : t = false) (h : k false (.int 0)) : GetV (bfn "int" [.bl t]) k := by subst e; exact getv_some rfl h
theorem bint_d {p : Prop} [i : Decidable p] {k : Bool → D → Prop} (h : p → k false (.int 1)) (g : ¬ p → k false (.int 0)) : GetV (bfn "int" [.bl (decide p)]) k := by
  by_cases e : p
  · exact bint_t (decide_eq_true e) (h e)
  · exact bint_f (decide_eq_false e) (g e)
theorem bint_dt {p : Prop} [i : Decidable p] {k : Bool → D → Prop} (e : p) (h : k false (.int 1)) : GetV (bfn "int" [.bl (decide p)]) k := bint_t (decide_eq_true e) h
theorem bint_df {p : Prop} [i : Decidable p] {k : Bool → D → Prop} (e : ¬ p) (h : k false (.int 0)) : GetV (bfn "int" [.bl (decide p)]) k := bint_f (decide_eq_false e) h
end L2.T
end

section
set_option Elab.async false
set_option linter.all false
set_option maxRecDepth 100000
set_option maxHeartbeats 4000000
set_option autoImplicit false
namespace L2.T.Sq
open PySem PySem.Spec PyProof.Rows
/-! ### sums of fractions by roots -/
abbrev Sm := List (Int × Rat)
def qD (q : Rat) : D := .tup [.int q.num, .int (q.den : Int)]
def partD (p : Int × Rat) : D := .tup [.int p.1, .int p.2.num, .int (p.2.den : Int)]
def partsD (s : Sm) : D := .tup (s.map partD)
def kvD (p : Int × Rat) : Key × D := (Sum.inl p.1, qD p.2)
def dkD (s : Sm) : D := .dk (s.map kvD)
def exD (s : Sm) : D := .ins 0 [partsD s]
def sm : Sm → Int → Rat
  | [], _ => 0
  | p :: s, r => (if p.1 = r then p.2 else 0) + sm s r
theorem sm_app : ∀ (s t : Sm) (r : Int), sm (s ++ t) r = sm s r + sm t r
  | [], t, r => by simp only [List.nil_append, sm]; grind
  | p :: s, t, r => by simp only [List.cons_append, sm, sm_app s t r]; grind
theorem sm_out : ∀ {s : Sm} {r : Int}, (∀ p ∈ s, p.1 ≠ r) → sm s r = 0
  | [], r, _ => rfl
  | p :: s, r, h => by
    simp only [sm]
    rw [if_neg (h p List.mem_cons_self), sm_out fun q hq => h q (List.mem_cons_of_mem _ hq)]
    grind
abbrev Nd (s : Sm) : Prop := (s.map (·.1)).Nodup
theorem sm_in : ∀ {s : Sm} {p : Int × Rat}, Nd s → p ∈ s → sm s p.1 = p.2
  | [], p, _, h => by cases h
  | q :: s, p, hn, h => by
    have hn' := List.nodup_cons.mp hn
    simp only [sm]
    rcases List.mem_cons.mp h with rfl | h
    · rw [if_pos rfl, sm_out fun q hq e => hn'.1 (List.mem_map.mpr ⟨q, hq, e⟩)]
      grind
    · rw [if_neg fun e => hn'.1 (List.mem_map.mpr ⟨p, h, e.symm⟩), sm_in hn'.2 h]
      grind
theorem sm_val : ∀ {s : Sm} {r : Int}, Nd s → (valA s r).getD 0 = sm s r
  | [], r, _ => rfl
  | q :: s, r, hn => by
    have hn' := List.nodup_cons.mp hn
    simp only [sm]
    unfold valA
    by_cases e : q.1 = r
    · rw [if_pos e, List.find?_cons_of_pos (by simpa using e), sm_out fun p hp e' => hn'.1 (List.mem_map.mpr ⟨p, hp, e'.trans e.symm⟩)]
      simp only [Option.map_some, Option.getD_some]
      grind
    · rw [if_neg e, List.find?_cons_of_neg (by simpa using e)]
      have := sm_val (r := r) hn'.2
      unfold valA at this
      rw [this]
      grind
theorem val_mem {s : Sm} {r : Int} {q : Rat} (h : valA s r = some q) : (r, q) ∈ s := by
  unfold valA at h
  obtain ⟨p, h1, rfl⟩ := Option.map_eq_some_iff.mp h
  have h2 := List.find?_some h1
  simp only [decide_eq_true_eq] at h2
  subst h2
  exact List.mem_of_find?_eq_some h1
theorem val_none {s : Sm} {r : Int} (h : valA s r = none) : ∀ p ∈ s, p.1 ≠ r := by
  unfold valA at h
  simp only [Option.map_eq_none_iff, List.find?_eq_none, decide_eq_true_eq] at h
  exact fun p hp => h p hp
theorem val_of_mem {s : Sm} {p : Int × Rat} (hn : Nd s) (h : p ∈ s) : valA s p.1 = some p.2 := by
  cases e : valA s p.1 with
  | none => exact absurd rfl (val_none e p h)
  | some q =>
    have h1 := sm_in hn h
    have h2 : sm s p.1 = q := sm_in hn (val_mem e)
    rw [← h1, h2]
/-- one more -/
def put (s : Sm) (r : Int) (q : Rat) : Sm := putA s r q
theorem put_keys {s : Sm} {r : Int} {q : Rat} : (put s r q).map (·.1) = if (∃ p ∈ s, p.1 = r) then s.map (·.1) else s.map (·.1) ++ [r] := by
  unfold put putA
  by_cases h : s.any (fun kv => decide (kv.1 = r)) = true
  · rw [if_pos h]
    obtain ⟨p, hp, e⟩ := List.any_eq_true.mp h
    rw [if_pos ⟨p, hp, of_decide_eq_true e⟩, List.map_map]
    refine List.map_congr_left fun p hp => ?_
    simp only [Function.comp]
    split <;> rfl
  · rw [if_neg h, if_neg fun ⟨p, hp, e⟩ => h (List.any_eq_true.mpr ⟨p, hp, decide_eq_true e⟩), List.map_append]
    rfl
theorem put_nd {s : Sm} {r : Int} {q : Rat} (h : Nd s) : Nd (put s r q) := by
  unfold Nd
  rw [put_keys]
  split
  · exact h
  · rename_i hn
    rw [List.nodup_append]
    refine ⟨h, by simp, fun a ha b hb e => ?_⟩
    simp only [List.mem_singleton] at hb
    obtain ⟨p, hp, e2⟩ := List.mem_map.mp ha
    exact hn ⟨p, hp, by rw [e2, e, hb]⟩
theorem put_mem {s : Sm} {r : Int} {q : Rat} {p : Int × Rat} (h : p ∈ put s r q) : p = (r, q) ∨ (p ∈ s ∧ p.1 ≠ r) := by
  unfold put putA at h
  split at h
  · obtain ⟨x, hx, e⟩ := List.mem_map.mp h
    split at e
    · rename_i e2
      exact .inl (by rw [← e, e2])
    · rename_i e2
      subst e
      exact .inr ⟨hx, e2⟩
  · rename_i hn
    rcases List.mem_append.mp h with h | h
    · refine .inr ⟨h, fun e => hn (List.any_eq_true.mpr ⟨p, h, decide_eq_true e⟩)⟩
    · exact .inl (by simpa using h)
theorem put_sm {s : Sm} {r : Int} {q : Rat} (h : Nd s) (k : Int) : sm (put s r q) k = if k = r then q else sm s k := by
  have hn := put_nd (r := r) (q := q) h
  have key : r ∈ (put s r q).map (·.1) := by
    rw [put_keys]
    split
    · rename_i e
      obtain ⟨p, hp, e⟩ := e
      exact List.mem_map.mpr ⟨p, hp, e⟩
    · simp
  by_cases e : k = r
  · rw [if_pos e]
    obtain ⟨p, hp, ep⟩ := List.mem_map.mp key
    rcases put_mem hp with rfl | ⟨_, ne⟩
    · rw [e]; exact sm_in hn hp
    · exact absurd ep ne
  · rw [if_neg e]
    rw [← sm_val hn, ← sm_val h]
    have : valA (put s r q) k = valA s k := by
      cases e1 : valA s k with
      | none =>
        cases e2 : valA (put s r q) k with
        | none => rfl
        | some q' =>
          rcases put_mem (val_mem e2) with z | ⟨z, _⟩
          · cases z; exact absurd rfl e
          · exact absurd rfl (val_none e1 _ z)
      | some q' =>
        have hm := val_mem e1
        have hm2 : (k, q') ∈ put s r q := by
          unfold put putA
          split
          · exact List.mem_map.mpr ⟨_, hm, by rw [if_neg e]⟩
          · exact List.mem_append.mpr (.inl hm)
        exact val_of_mem hn hm2
    rw [this]
def addP (s : Sm) (p : Int × Rat) : Sm := put s p.1 ((valA s p.1).getD 0 + p.2)
theorem addP_nd {s : Sm} {p : Int × Rat} (h : Nd s) : Nd (addP s p) := put_nd h
theorem addP_sm {s : Sm} {p : Int × Rat} (h : Nd s) (k : Int) : sm (addP s p) k = sm s k + (if p.1 = k then p.2 else 0) := by
  unfold addP
  rw [put_sm h, sm_val h]
  by_cases e : k = p.1
  · rw [if_pos e, if_pos e.symm, e]
  · rw [if_neg e, if_neg (fun z => e z.symm)]
    grind
/-- all together -/
def acc (s : Sm) : Sm := s.foldl addP []
theorem fold_ok : ∀ (t s : Sm), Nd s → Nd (t.foldl addP s) ∧ ∀ k, sm (t.foldl addP s) k = sm s k + sm t k
  | [], s, h => ⟨h, fun k => by simp only [List.foldl_nil, sm]; grind⟩
  | p :: t, s, h => by
    obtain ⟨h1, h2⟩ := fold_ok t (addP s p) (addP_nd h)
    refine ⟨h1, fun k => ?_⟩
    rw [List.foldl_cons, h2 k, addP_sm h]
    simp only [sm]
    grind
theorem acc_nd (s : Sm) : Nd (acc s) := (fold_ok s [] List.nodup_nil).1
theorem acc_sm (s : Sm) (k : Int) : sm (acc s) k = sm s k := by
  unfold acc
  rw [(fold_ok s [] List.nodup_nil).2 k]
  simp only [sm]
  grind
theorem fold_keys : ∀ (t s : Sm), ∀ k ∈ (t.foldl addP s).map (·.1), k ∈ s.map (·.1) ∨ k ∈ t.map (·.1)
  | [], s, k, h => .inl h
  | p :: t, s, k, h => by
    rw [List.foldl_cons] at h
    rcases fold_keys t (addP s p) k h with h | h
    · unfold addP at h
      rw [put_keys] at h
      split at h
      · exact .inl h
      · rcases List.mem_append.mp h with h | h
        · exact .inl h
        · exact .inr (by simp only [List.mem_singleton] at h; rw [h]; exact List.mem_cons_self)
    · exact .inr (List.mem_cons_of_mem _ h)
theorem acc_keys {s : Sm} {k : Int} (h : k ∈ (acc s).map (·.1)) : k ∈ s.map (·.1) := (fold_keys s [] k h).resolve_left (by simp)
theorem acc_len : ∀ (t s : Sm), (t.foldl addP s).length ≤ s.length + t.length
  | [], s => Nat.le_refl _
  | p :: t, s => by
    have h := acc_len t (addP s p)
    have h2 : (addP s p).length ≤ s.length + 1 := by
      have := congrArg List.length (put_keys (s := s) (r := p.1) (q := (valA s p.1).getD 0 + p.2))
      rw [List.length_map] at this
      unfold addP
      rw [this]
      split
      · rw [List.length_map]; omega
      · rw [List.length_append, List.length_map]; simp
    rw [List.foldl_cons, List.length_cons]
    omega
/-! ### the normal form -/
def Nrm (s : Sm) : Prop := s.Pairwise (fun a b => a.1 < b.1) ∧ ∀ p ∈ s, p.2 ≠ 0
theorem Nrm.nd {s : Sm} (h : Nrm s) : Nd s := by
  unfold Nd
  rw [List.Nodup, List.pairwise_map]
  exact h.1.imp fun h e => by rw [e] at h; exact Int.lt_irrefl _ h
theorem Nrm.ext : ∀ {s t : Sm}, Nrm s → Nrm t → (∀ r, sm s r = sm t r) → s = t
  | [], [], _, _, _ => rfl
  | [], q :: t, _, ht, h => by
    have := h q.1
    rw [sm_in ht.nd List.mem_cons_self] at this
    exact absurd this.symm (ht.2 q List.mem_cons_self)
  | p :: s, [], hs, _, h => by
    have := h p.1
    rw [sm_in hs.nd List.mem_cons_self] at this
    exact absurd this (hs.2 p List.mem_cons_self)
  | p :: s, q :: t, hs, ht, h => by
    have ps := List.pairwise_cons.mp hs.1
    have pt := List.pairwise_cons.mp ht.1
    have e1 : p.1 = q.1 := by
      rcases Int.lt_trichotomy p.1 q.1 with l | l | l
      · have := h p.1
        rw [sm_in hs.nd List.mem_cons_self, sm_out fun x hx e => by
          rcases List.mem_cons.mp hx with rfl | hx
          · rw [e] at l; exact Int.lt_irrefl _ l
          · have := pt.1 x hx; rw [e] at this; omega] at this
        exact absurd this (hs.2 p List.mem_cons_self)
      · exact l
      · have := h q.1
        rw [sm_in ht.nd List.mem_cons_self, sm_out fun x hx e => by
          rcases List.mem_cons.mp hx with rfl | hx
          · rw [e] at l; exact Int.lt_irrefl _ l
          · have := ps.1 x hx; rw [e] at this; omega] at this
        exact absurd this.symm (ht.2 q List.mem_cons_self)
    have e2 : p.2 = q.2 := by
      have := h p.1
      rw [sm_in hs.nd List.mem_cons_self, e1, sm_in ht.nd List.mem_cons_self] at this
      exact this
    have ep : p = q := Prod.ext e1 e2
    subst ep
    refine congrArg _ (Nrm.ext ⟨ps.2, fun x hx => hs.2 x (List.mem_cons_of_mem _ hx)⟩ ⟨pt.2, fun x hx => ht.2 x (List.mem_cons_of_mem _ hx)⟩ fun r => ?_)
    have := h r
    simp only [sm] at this
    grind
/-- the rows of a dict, rising, those of 0 left out -/
def pick (s : Sm) (k : Int) : Option (Int × Rat) := match valA s k with
  | some q => if q = 0 then none else some (k, q)
  | none => none
def fin (s : Sm) : Sm := (sortI (s.map (·.1))).filterMap (pick s)
theorem pick_key {s : Sm} {k : Int} {p : Int × Rat} (h : pick s k = some p) : p.1 = k ∧ p.2 ≠ 0 ∧ valA s k = some p.2 := by
  unfold pick at h
  split at h
  · rename_i q e
    split at h
    · cases h
    · rename_i ne
      cases h
      exact ⟨rfl, ne, e⟩
  · cases h
theorem fin_nrm {s : Sm} (h : Nd s) : Nrm (fin s) := by
  unfold fin
  refine ⟨?_, fun p hp => ?_⟩
  · rw [List.pairwise_filterMap]
    have hn : (sortI (s.map (·.1))).Nodup := (sortI_perm _).nodup_iff.mpr h
    refine (List.pairwise_and_iff.mpr ⟨sortI_up _, hn⟩).imp fun {a b} ⟨h1, h2⟩ p hp q hq => ?_
    rw [(pick_key hp).1, (pick_key hq).1]
    have : a ≠ b := h2
    omega
  · obtain ⟨k, _, e⟩ := List.mem_filterMap.mp hp
    exact (pick_key e).2.1
theorem fin_sm {s : Sm} (h : Nd s) (k : Int) : sm (fin s) k = sm s k := by
  have hn := (fin_nrm h).nd
  cases e : valA s k with
  | none =>
    rw [sm_out (val_none e)]
    refine sm_out fun p hp ek => ?_
    obtain ⟨k', _, e'⟩ := List.mem_filterMap.mp hp
    have := (pick_key e')
    rw [← this.1, ek, e] at this
    cases this.2.2
  | some q =>
    rw [← sm_val h, e, Option.getD_some]
    by_cases hq : q = 0
    · rw [hq]
      refine sm_out fun p hp ek => ?_
      obtain ⟨k', _, e'⟩ := List.mem_filterMap.mp hp
      have := (pick_key e')
      rw [← this.1, ek, e] at this
      have e2 := this.2.2
      cases e2
      exact this.2.1 hq
    · have hm : (k, q) ∈ fin s := by
        unfold fin
        refine List.mem_filterMap.mpr ⟨k, (sortI_perm _).mem_iff.mpr (List.mem_map.mpr ⟨_, val_mem e, rfl⟩), ?_⟩
        unfold pick
        rw [e]
        simp only [if_neg hq]
      exact sm_in hn hm
def nrm (s : Sm) : Sm := fin (acc s)
theorem nrm_ok (s : Sm) : Nrm (nrm s) := fin_nrm (acc_nd s)
theorem nrm_sm (s : Sm) (k : Int) : sm (nrm s) k = sm s k := by
  unfold nrm
  rw [fin_sm (acc_nd s), acc_sm]
theorem nrm_eq {s t : Sm} (h : ∀ r, sm s r = sm t r) : nrm s = nrm t := (nrm_ok s).ext (nrm_ok t) fun r => by rw [nrm_sm, nrm_sm, h]
theorem nrm_of {s t : Sm} (hs : Nrm s) (h : ∀ r, sm s r = sm t r) : nrm t = s := (nrm_ok t).ext hs fun r => by rw [nrm_sm, h]
theorem nrm_self {s : Sm} (hs : Nrm s) : nrm s = s := nrm_of hs fun _ => rfl
end L2.T.Sq
end

section
set_option Elab.async false
set_option linter.all false
set_option maxRecDepth 100000
set_option maxHeartbeats 4000000
set_option autoImplicit false
namespace L2.T.Sq
open PySem PySem.Spec PyProof.Rows
/-! ### how great -/
def Bi (m : Nat) (i : Int) : Prop := i.natAbs < 2 ^ m
def Bd (m : Nat) (q : Rat) : Prop := Bi m q.num ∧ Bi m (q.den : Int)
theorem Bi.mono {m n : Nat} {i : Int} (h : Bi m i) (l : m ≤ n) : Bi n i := Nat.lt_of_lt_of_le h (Nat.pow_le_pow_right (by omega) l)
theorem Bd.mono {m n : Nat} {q : Rat} (h : Bd m q) (l : m ≤ n) : Bd n q := ⟨h.1.mono l, h.2.mono l⟩
theorem Bi.mul {m n : Nat} {i j : Int} (h : Bi m i) (g : Bi n j) : Bi (m + n) (i * j) := by
  unfold Bi at *
  rw [Int.natAbs_mul, Nat.pow_add]
  exact Nat.mul_lt_mul'' h g
theorem Bi.add {m : Nat} {i j : Int} (h : Bi m i) (g : Bi m j) : Bi (m + 1) (i + j) := by
  unfold Bi at *
  have := Int.natAbs_add_le i j
  rw [Nat.pow_succ]
  omega
theorem Bi.neg {m : Nat} {i : Int} (h : Bi m i) : Bi m (-i) := by
  unfold Bi at *
  rw [Int.natAbs_neg]
  exact h
theorem log_le {m n : Nat} (h : n < 2 ^ m) : n.log2 ≤ m := by
  by_cases h0 : n = 0
  · subst h0
    simp
  · exact Nat.le_of_lt ((Nat.log2_lt h0).mpr h)
theorem mulOk_bd {m n : Nat} {i j : Int} (h : Bi m i) (g : Bi n j) (l : m + n < 1000000) : mulOk i j = true := by
  unfold mulOk
  have h1 := log_le h
  have h2 := log_le g
  exact decide_eq_true (by omega)
theorem divOk_bd {m : Nat} {j : Int} (h0 : j ≠ 0) (h : Bi m j) (l : m ≤ 9000) : divOk j = true := by
  unfold divOk
  have h1 : j.natAbs.log2 < m := (Nat.log2_lt (by omega)).mpr h
  simp only [Bool.and_eq_true, decide_eq_true_eq]
  exact ⟨h0, by omega⟩
theorem divInt_num (a b : Int) : (Rat.divInt a b).num.natAbs ≤ a.natAbs := by
  rw [Rat.num_divInt]
  have h1 : (b.sign * a / ((b.gcd a : Nat) : Int)).natAbs ≤ (b.sign * a).natAbs := by
    by_cases hg : ((b.gcd a : Nat) : Int) = 0
    · rw [hg, Int.ediv_zero]
      exact Nat.zero_le _
    · have hd : ((b.gcd a : Nat) : Int) ∣ b.sign * a := Int.dvd_mul_of_dvd_right (Int.gcd_dvd_right b a)
      obtain ⟨c, hc⟩ := hd
      rw [hc, Int.mul_ediv_cancel_left _ hg, Int.natAbs_mul]
      exact Nat.le_mul_of_pos_left _ (Int.natAbs_pos.mpr hg)
  refine Nat.le_trans h1 ?_
  rw [Int.natAbs_mul]
  have : b.sign.natAbs ≤ 1 := by rcases Int.lt_trichotomy b 0 with h | h | h <;> simp [Int.sign_eq_neg_one_of_neg, Int.sign_eq_one_of_pos, h]
  calc b.sign.natAbs * a.natAbs ≤ 1 * a.natAbs := Nat.mul_le_mul_right _ this
    _ = a.natAbs := Nat.one_mul _
theorem divInt_den {a b : Int} (h : b ≠ 0) : (Rat.divInt a b).den ≤ b.natAbs := by
  rw [Rat.den_divInt, if_neg h]
  exact Nat.div_le_self _ _
theorem Bd.of {m : Nat} {a b : Int} (h : b ≠ 0) (ha : Bi m a) (hb : Bi m b) : Bd m (Rat.divInt a b) := ⟨Nat.lt_of_le_of_lt (divInt_num a b) ha, by
  unfold Bi
  rw [Int.natAbs_natCast]
  exact Nat.lt_of_le_of_lt (divInt_den h) hb⟩
theorem den_ne (q : Rat) : (q.den : Int) ≠ 0 := by have := q.den_nz; omega
theorem add_eq {p q : Rat} : p + q = Rat.divInt (p.num * q.den + q.num * p.den) (p.den * q.den) := by
  have h := Rat.divInt_add_divInt p.num q.num (den_ne p) (den_ne q)
  rw [Rat.num_divInt_den, Rat.num_divInt_den] at h
  exact h
theorem Bd.add {m n : Nat} {p q : Rat} (h : Bd m p) (g : Bd n q) : Bd (m + n + 1) (p + q) := by
  rw [add_eq]
  refine Bd.of (Int.mul_ne_zero (den_ne p) (den_ne q)) (Bi.add (h.1.mul g.2) ?_) ((h.2.mul g.2).mono (by omega))
  have := g.1.mul h.2
  rw [Nat.add_comm] at this
  exact this
theorem neg_num (q : Rat) : (-q).num = -q.num ∧ (-q).den = q.den := ⟨rfl, rfl⟩
theorem Bd.neg {m : Nat} {q : Rat} (h : Bd m q) : Bd m (-q) := ⟨by rw [(neg_num q).1]; exact h.1.neg, by rw [(neg_num q).2]; exact h.2⟩
theorem Bd.zero {m : Nat} (h : 1 ≤ m) : Bd m 0 := by
  have : (1 : Nat) < 2 ^ m := Nat.lt_of_lt_of_le (by decide) (Nat.pow_le_pow_right (by omega) h)
  exact ⟨Nat.lt_of_le_of_lt (Nat.zero_le 1) this, this⟩
/-! ### lowest terms -/
theorem low_pos {a b : Int} (h : 0 < b) : a.fdiv ((a.natAbs.gcd b.natAbs : Nat) : Int) = (Rat.divInt a b).num ∧ b.fdiv ((a.natAbs.gcd b.natAbs : Nat) : Int) = ((Rat.divInt a b).den : Int) := by
  have e : a.natAbs.gcd b.natAbs = b.gcd a := by rw [Nat.gcd_comm]; rfl
  rw [e, Rat.num_divInt, Rat.den_divInt, if_neg (by omega), Int.sign_eq_one_of_pos h, Int.one_mul, Int.fdiv_eq_ediv_of_nonneg _ (Int.natCast_nonneg _), Int.fdiv_eq_ediv_of_nonneg _ (Int.natCast_nonneg _)]
  refine ⟨rfl, ?_⟩
  rw [Int.natCast_ediv]
  congr 1
  omega
theorem fdiv_neg_of {a g c : Int} (h : g ≠ 0) (e : a = g * c) : a.fdiv (-g) = -c := by
  rw [e, show g * c = -c * -g by rw [Int.neg_mul_neg, Int.mul_comm]]
  exact Int.mul_fdiv_cancel _ (by omega)
theorem low_neg {a b : Int} (h : b < 0) : a.fdiv (-((a.natAbs.gcd b.natAbs : Nat) : Int)) = (Rat.divInt a b).num ∧ b.fdiv (-((a.natAbs.gcd b.natAbs : Nat) : Int)) = ((Rat.divInt a b).den : Int) := by
  have e : a.natAbs.gcd b.natAbs = b.gcd a := by rw [Nat.gcd_comm]; rfl
  have hg : ((b.gcd a : Nat) : Int) ≠ 0 := by
    have := Int.gcd_pos_of_ne_zero_left a (show b ≠ 0 by omega)
    omega
  obtain ⟨c, hc⟩ := Int.gcd_dvd_right b a
  obtain ⟨d, hd⟩ := Int.gcd_dvd_left b a
  rw [e, Rat.num_divInt, Rat.den_divInt, if_neg (by omega), Int.sign_eq_neg_one_of_neg h]
  refine ⟨?_, ?_⟩
  · rw [fdiv_neg_of hg hc]
    rw [show (-1 : Int) * a = ((b.gcd a : Nat) : Int) * -c by rw [Int.mul_neg, ← hc]; omega, Int.mul_ediv_cancel_left _ hg]
  · rw [fdiv_neg_of hg hd, Int.natCast_ediv, show ((b.natAbs : Nat) : Int) = ((b.gcd a : Nat) : Int) * -d by rw [Int.mul_neg, ← hd]; omega, Int.mul_ediv_cancel_left _ hg]
theorem step_low {q : Rat} {t b : Int} (h : b ≠ 0) : Rat.divInt (q.num * b + t * q.den) (q.den * b) = q + Rat.divInt t b := by
  have := Rat.divInt_add_divInt q.num t (den_ne q) h
  rw [Rat.num_divInt_den] at this
  exact this.symm
/-! ### dicts from roots to fractions -/
theorem valA_kv : ∀ (s : Sm) (r : Int), valA (s.map kvD) (Sum.inl r : Key) = (valA s r).map qD
  | [], r => rfl
  | p :: s, r => by
    have ih := valA_kv s r
    unfold valA at *
    by_cases e : p.1 = r
    · rw [List.map_cons, List.find?_cons_of_pos (by simp [kvD, e]), List.find?_cons_of_pos (by simpa using e)]
      rfl
    · rw [List.map_cons, List.find?_cons_of_neg (by simp [kvD, e]), List.find?_cons_of_neg (by simpa using e)]
      exact ih
theorem putA_kv (s : Sm) (r : Int) (q : Rat) : putA (s.map kvD) (Sum.inl r : Key) (qD q) = (put s r q).map kvD := by
  unfold put putA
  have e : (s.map kvD).any (fun kv => decide (kv.1 = Sum.inl r)) = s.any (fun kv => decide (kv.1 = r)) := by
    rw [List.any_map]
    congr 1
    funext p
    simp [kvD]
  rw [e]
  split
  · rw [List.map_map, List.map_map]
    refine List.map_congr_left fun p _ => ?_
    simp only [Function.comp, kvD]
    by_cases e : p.1 = r
    · simp [e]
    · simp [e]
  · rw [List.map_append]
    rfl
theorem dropA_kv (s : Sm) (r : Int) : dropA (s.map kvD) (Sum.inl r : Key) = (dropA s r).map kvD := by
  unfold dropA
  rw [List.filter_map]
  congr 1
  refine List.filter_congr fun p _ => ?_
  simp [kvD]
theorem get_kv {s : Sm} {r : Int} {q : Rat} : meD "get" (dkD s) [.int r, qD q] = some (qD ((valA s r).getD q)) := by
  unfold meD dkD
  simp only [if_true]
  show some ((valA (s.map kvD) (Sum.inl r : Key)).getD (qD q)) = _
  rw [valA_kv]
  cases valA s r <;> rfl
theorem ix_kv {s : Sm} {r : Int} : ixD (dkD s) (.int r) = (valA s r).map qD := by
  show (keyD (.int r)).bind (valA (s.map kvD)) = _
  exact valA_kv s r
theorem set_kv {s : Sm} {r : Int} {q : Rat} (h : s.length < 1000) : setD (dkD s) (.int r) (qD q) = some (dkD (put s r q)) := by
  show (if (s.map kvD).length < sizeLine then some (D.dk (putA (s.map kvD) (Sum.inl r) (qD q))) else none) = _
  rw [if_pos (by rw [List.length_map, sizeLine_eq]; omega), putA_kv]
  rfl
theorem pop_kv {s : Sm} {r : Int} {q : Rat} (h : valA s r = some q) : popD (s.map kvD) [.int r] = some (dkD (dropA s r), false, qD q) := by
  unfold popD
  show (match valA (s.map kvD) (Sum.inl r : Key) with
    | some y => some (D.dk (dropA (s.map kvD) (Sum.inl r)), false, y)
    | none => none) = _
  rw [valA_kv, h, dropA_kv]
  rfl
theorem intKs_kv : ∀ s : Sm, intKs ((s.map kvD).map (·.1)) = some (s.map (·.1))
  | [] => rfl
  | p :: s => by
    show (intKs ((s.map kvD).map (·.1))).map (p.1 :: ·) = _
    rw [intKs_kv s]
    rfl
theorem sort_kv {s : Sm} (h : s.length ≤ 1000) : bfn "sorted" [dkD s] = some (true, .lst ((sortI (s.map (·.1))).map D.int)) := by
  show (if (s.map kvD).length ≤ 1000 then (intKs ((s.map kvD).map (·.1))).map fun ns => (true, D.lst ((sortI ns).map D.int)) else none) = _
  rw [if_pos (by rw [List.length_map]; exact h), intKs_kv]
  rfl
theorem keys_kv (s : Sm) : ((s.map kvD).map (·.1)).map keyV = (s.map (·.1)).map D.int := by
  rw [List.map_map, List.map_map, List.map_map]
  rfl
theorem dict_kv {s : Sm} : bfn "dict" [dkD s] = some (true, dkD s) := rfl
/-! ### equal parts -/
def partP (p : Int × Rat) : PyData := .tuple [.int p.1, .int p.2.num, .int (p.2.den : Int)]
theorem py_parts : ∀ s : Sm, pyL (s.map partD) = some (s.map partP)
  | [] => rfl
  | p :: s => by
    show (match (partD p).py, pyL (s.map partD) with
      | some x, some xs => some (x :: xs)
      | _, _ => none) = _
    rw [py_parts s]
    rfl
theorem lay_parts : ∀ s : Sm, PyData.canLayAll0 (s.map partP) = true
  | [] => rfl
  | p :: s => by
    rw [List.map_cons]
    show (PyData.canLay0 (partP p) && PyData.canLayAll0 (s.map partP)) = true
    rw [lay_parts s]
    rfl
theorem dep_parts : ∀ s : Sm, PyData.depthAll (s.map partP) ≤ 1
  | [] => Nat.zero_le _
  | p :: s => by
    have ih := dep_parts s
    have e : (partP p).depth = 1 := rfl
    rw [List.map_cons]
    simp only [PyData.depthAll]
    omega
theorem eqv_parts : ∀ s t : Sm, PyData.eqvAll (s.map partP) (t.map partP) = decide (s = t)
  | [], [] => rfl
  | [], _ :: _ => rfl
  | _ :: _, [] => rfl
  | p :: s, q :: t => by
    have ih := eqv_parts s t
    show (PyData.eqv (partP p) (partP q) && PyData.eqvAll (s.map partP) (t.map partP)) = _
    rw [ih]
    have e : PyData.eqv (partP p) (partP q) = decide (p = q) := by
      show ((p.1 == q.1) && ((p.2.num == q.2.num) && (((p.2.den : Int) == (q.2.den : Int)) && true))) = _
      rw [Bool.eq_iff_iff]
      simp only [Bool.and_eq_true, beq_iff_eq, and_true, decide_eq_true_eq]
      constructor
      · rintro ⟨h1, h2, h3⟩
        exact Prod.ext h1 (Rat.ext h2 (by omega))
      · rintro rfl
        exact ⟨rfl, rfl, rfl⟩
    rw [e, Bool.eq_iff_iff]
    simp only [Bool.and_eq_true, decide_eq_true_eq, List.cons.injEq]
theorem shaped_parts (s : Sm) : SeqAt.shaped (.tuple (s.map partP)) = true := by
  show (PyData.canLay0 (.tuple (s.map partP)) && decide (PyData.depth (.tuple (s.map partP)) ≤ 64)) = true
  have h := dep_parts s
  have e : PyData.depth (.tuple (s.map partP)) ≤ 2 := by
    unfold PyData.depth
    omega
  simp only [PyData.canLay0, lay_parts, Bool.true_and, decide_eq_true_eq]
  omega
theorem eq_parts (s t : Sm) : cop .Eq (partsD s) (partsD t) = some (decide (s = t)) := by
  have py : ∀ s : Sm, (partsD s).py = some (.tuple (s.map partP)) := fun s => by
    show (pyL (s.map partD)).map PyData.tuple = _
    rw [py_parts]
    rfl
  show eqD (partsD s) (partsD t) = _
  unfold eqD
  rw [py, py]
  simp only [shaped_parts, Bool.and_self, if_true]
  show some (PyData.eqvAll _ _) = _
  rw [eqv_parts]
theorem ne_parts (s t : Sm) : cop .NotEq (partsD s) (partsD t) = some (!decide (s = t)) := by
  show (cop .Eq (partsD s) (partsD t)).map not = _
  rw [eq_parts]
  rfl
/-- the sums of the beginnings of a list -/
theorem take_sm : ∀ {s : Sm}, Nd s → ∀ (i : Nat) (r : Int), sm (s.take i) r = 0 ∨ sm (s.take i) r = sm s r
  | [], _, i, r => by simp [sm]
  | p :: s, hn, 0, r => .inl rfl
  | p :: s, hn, i + 1, r => by
    have hn' := List.nodup_cons.mp hn
    rw [List.take_succ_cons]
    simp only [sm]
    by_cases e : p.1 = r
    · right
      have h0 : ∀ l : Sm, (∀ q ∈ l, q ∈ s) → sm l r = 0 := fun l hl => sm_out fun q hq e' => hn'.1 (List.mem_map.mpr ⟨q, hl q hq, e'.trans e.symm⟩)
      rw [h0 _ (fun q hq => List.mem_of_mem_take hq), h0 s (fun q hq => hq)]
    · rw [if_neg e]
      rcases take_sm hn'.2 i r with h | h
      · left; rw [h]; grind
      · right; rw [h]
def BdS (m : Nat) (s : Sm) : Prop := ∀ r, Bd m (sm s r)
theorem BdS.mono {m n : Nat} {s : Sm} (h : BdS m s) (l : m ≤ n) : BdS n s := fun r => (h r).mono l
end L2.T.Sq
end

section
set_option Elab.async false
set_option linter.all false
set_option maxRecDepth 100000
set_option maxHeartbeats 4000000
set_option autoImplicit false
namespace L2.T.Sq
open PySem PySem.Spec PyProof.Rows
theorem isN_ex {s : Sm} {k : List D → Prop} (h : k [partsD s]) : IsN 0 (exD s) k := isN h
theorem cx_ex {s : Sm} {A B : Prop} (h : A) : CmpX 0 (exD s) A B := cx_ins h
theorem cx_parts {c : Nat} {s : Sm} {A B : Prop} (h : B) : CmpX c (partsD s) A B := cx_tup h
theorem eq_partsX {s t : Sm} : cop (if false then .NotEq else .Eq) (partsD s) (partsD t) = some (decide (s = t)) := eq_parts s t
theorem ne_partsX {s t : Sm} : cop (if true then .NotEq else .Eq) (partsD s) (partsD t) = some (!decide (s = t)) := ne_parts s t
theorem ga_q {mv : List Nat} {ts : List Tg} {fr : Bool} {q : Rat} {ρ : List Sl} {K : List Sl → Prop} (h : Get (asgTs mv ts [.int q.num, .int (q.den : Int)] ρ) K) : Get (asgT mv (.tu ts) fr (qD q) ρ) K := ga_tup h
theorem ix_q0 {q : Rat} : ixD (qD q) (.int 0) = some (.int q.num) := rfl
theorem ix_q1 {q : Rat} : ixD (qD q) (.int 1) = some (.int (q.den : Int)) := rfl
theorem cat_q {r : Int} {q : Rat} : bop .Add (.tup [.int r]) (qD q) = some (false, partD (r, q)) := b_catT (n := 1) (m := 2) rfl rfl (by omega)
/-- a row to be put together -/
abbrev RwT := Int × Int × Int
def rowD (x : RwT) : D := .tup [.int x.1, .int x.2.1, .int x.2.2]
theorem ga_row {mv : List Nat} {ts : List Tg} {fr : Bool} {r t b : Int} {ρ : List Sl} {K : List Sl → Prop} (h : Get (asgTs mv ts [.int r, .int t, .int b] ρ) K) : Get (asgT mv (.tu ts) fr (rowD (r, t, b)) ρ) K := ga_tup h
def rwQ (x : RwT) : Int × Rat := (x.1, Rat.divInt x.2.1 x.2.2)
def ofP (p : Int × Rat) : RwT := (p.1, p.2.num, (p.2.den : Int))
theorem rowD_of (p : Int × Rat) : rowD (ofP p) = partD p := rfl
theorem rwQ_of (p : Int × Rat) : rwQ (ofP p) = p := by
  unfold rwQ ofP
  simp only [Rat.num_divInt_den]
theorem rows_of (s : Sm) : (s.map ofP).map rowD = s.map partD := by rw [List.map_map]; rfl
theorem rwQ_all (s : Sm) : (s.map ofP).map rwQ = s := by
  rw [List.map_map]
  conv => rhs; rw [← List.map_id s]
  exact List.map_congr_left fun p _ => rwQ_of p
theorem acc_app (s : Sm) (p : Int × Rat) : acc (s ++ [p]) = addP (acc s) p := by
  unfold acc
  rw [List.foldl_append]
  rfl
/-- what may be put together -/
structure RowsOk (M : Nat) (rows : List RwT) : Prop where
  len : rows.length ≤ 1000
  nz : ∀ x ∈ rows, x.2.2 ≠ 0
  up : ∀ x ∈ rows, Bi M x.2.1
  un : ∀ x ∈ rows, Bi M x.2.2
  pre : ∀ i, BdS M ((rows.map rwQ).take i)
theorem acc_len' (s : Sm) : (acc s).length ≤ s.length := by
  have h := acc_len s []
  unfold acc
  simpa using h
def pickD (s : Sm) : D → Option D
  | .int k => (pick s k).map partD
  | _ => none
theorem pick_all (s : Sm) : ((sortI (s.map (·.1))).map D.int).filterMap (pickD s) = (fin s).map partD := by
  unfold fin
  generalize sortI (s.map (·.1)) = l
  rw [List.filterMap_map, List.map_filterMap]
  rfl
theorem val_key {s : Sm} {k : Int} (h : k ∈ s.map (·.1)) : ∃ q, valA s k = some q := by
  cases e : valA s k with
  | none =>
    obtain ⟨p, hp, ek⟩ := List.mem_map.mp h
    exact absurd ek (val_none e p hp)
  | some q => exact ⟨q, rfl⟩
theorem tup_ok {xs : List D} : bfn "tuple" [.lst xs] = some (false, .tup xs) := rfl
end L2.T.Sq
end

section
set_option Elab.async false
set_option linter.all false
set_option maxRecDepth 100000
set_option maxHeartbeats 4000000
namespace L2.T.Sq
open PySem PySem.Spec PyProof.Rows
theorem bi_log {i : Int} (h : Bi 1900 i) : i.natAbs.log2 < 1920 := by
  by_cases hz : i.natAbs = 0
  · rw [hz]
    decide
  · have := (Nat.log2_lt hz).mpr h
    omega
theorem big_len {i : Int} (h : Bi 1900 i) : (PyData.shown (.int i)).length ≤ 1921 := by
  unfold PyData.shown
  exact int_text_len_1921 (bi_log h)
theorem big_show {i : Int} (h : Bi 1900 i) : PyData.showable (.int i) = true := by
  unfold PyData.showable
  rw [decide_eq_true_eq]
  exact bi_log h
theorem big_part {p : Int × Rat} (h1 : Bi 1900 p.1) (h2 : Bd 1900 p.2) : (partP p).showable = true ∧ (partP p).hasDict = false ∧ PyData.strOk (partP p).shown = true ∧ (partP p).shown.length + 2 ≤ 6000 := by
  have a1 := big_show h1
  have a2 := big_show h2.1
  have a3 := big_show h2.2
  have l1 := big_len h1
  have l2 := big_len h2.1
  have l3 := big_len h2.2
  refine ⟨?_, rfl, ?_, ?_⟩
  · unfold partP
    simp only [PyData.showable, PyData.showableAll] at a1 a2 a3 ⊢
    simp only [a1, a2, a3, Bool.and_self]
  · unfold partP
    simp only [PyData.shown, tupleText]
    refine ok_app (ok_app (ok_str _) (join_ok _ fun t ht => ?_)) (ok_str _)
    simp only [PyData.shownAll, List.mem_cons, List.not_mem_nil, or_false] at ht
    rcases ht with rfl | rfl | rfl <;> exact ok_int _
  · unfold partP
    simp only [PyData.shown]
    have ht := tuple_le (PyData.shownAll [.int p.1, .int p.2.num, .int (p.2.den : Int)])
    simp only [PyData.shownAll] at ht ⊢
    simp only [piled_cons] at ht
    have hp : piled ([] : List Str) = 0 := rfl
    omega
theorem big_parts : ∀ {s : Sm}, (∀ p ∈ s, Bi 1900 p.1 ∧ Bd 1900 p.2) → PyData.showableAll (s.map partP) = true ∧ PyData.hasDictAll (s.map partP) = false ∧ (∀ t ∈ PyData.shownAll (s.map partP), PyData.strOk t = true) ∧ piled (PyData.shownAll (s.map partP)) ≤ 6000 * s.length
  | [], _ => by
    refine ⟨rfl, rfl, fun t h => ?_, ?_⟩
    · simp only [List.map_nil, PyData.shownAll] at h
      cases h
    · simp only [List.map_nil, PyData.shownAll]
      decide
  | p :: s, h => by
    obtain ⟨a1, a2, a4, a5⟩ := big_part (h p List.mem_cons_self).1 (h p List.mem_cons_self).2
    obtain ⟨b1, b2, b4, b5⟩ := big_parts (s := s) fun q hq => h q (List.mem_cons_of_mem _ hq)
    rw [List.map_cons]
    refine ⟨by simp only [PyData.showableAll, a1, b1, Bool.and_self], by simp only [PyData.hasDictAll, a2, b2, Bool.or_self], fun t ht => ?_, ?_⟩
    · simp only [PyData.shownAll] at ht
      rcases List.mem_cons.mp ht with rfl | ht
      · exact a4
      · exact b4 t ht
    · simp only [PyData.shownAll, List.length_cons]
      rw [piled_cons]
      omega
/-- the text of a number's parts -/
theorem repr_parts {s : Sm} (h : ∀ p ∈ s, Bi 1900 p.1 ∧ Bd 1900 p.2) (hl : s.length ≤ 1000) : ∃ x : Str, PyData.strOk x = true ∧ bfn "repr" [partsD s] = some (false, .str x) := by
  obtain ⟨h1, h2, h4, h5⟩ := big_parts h
  have ht := tuple_le (PyData.shownAll (s.map partP))
  refine ⟨(PyData.tuple (s.map partP)).shown, ?_, ?_⟩
  · simp only [PyData.shown, tupleText]
    exact ok_app (ok_app (ok_str _) (join_ok _ h4)) (ok_str _)
  · have e : reprD (partsD s) = some (PyData.tuple (s.map partP)).shown := by
      unfold reprD
      have hp : (partsD s).py = some (.tuple (s.map partP)) := by
        unfold partsD
        simp only [D.py, py_parts]
        rfl
      rw [hp]
      have hl : (PyData.tuple (s.map partP)).shown.length ≤ sizeLine := by
        rw [sizeLine_eq]
        simp only [PyData.shown]
        omega
      simp only [PyData.showable, PyData.hasDict, h1, h2, shaped_parts s, decide_eq_true hl, Bool.not_false, Bool.and_self, if_true]
    unfold partsD at e ⊢
    show (reprD (.tup _)).map _ = _
    rw [e]
    rfl
end L2.T.Sq
end

section
set_option Elab.async false
set_option linter.all false
set_option maxRecDepth 100000
set_option maxHeartbeats 4000000
set_option autoImplicit false
namespace L2.T.Sq
open PySem PySem.Spec PyProof.Rows
/-! ### numbers in normal form with bounds -/
structure Gd (m n : Nat) (s : Sm) : Prop where
  nf : Nrm s
  len : s.length ≤ n
  bd : BdS m s
theorem Gd.mono {m n m' n' : Nat} {s : Sm} (h : Gd m n s) (l : m ≤ m') (l' : n ≤ n') : Gd m' n' s := ⟨h.nf, Nat.le_trans h.len l', h.bd.mono l⟩
theorem fin_len (s : Sm) : (fin s).length ≤ s.length := by
  unfold fin
  refine Nat.le_trans (List.length_filterMap_le _ _) ?_
  rw [(sortI_perm _).length_eq, List.length_map]
  exact Nat.le_refl _
theorem nrm_len (s : Sm) : (nrm s).length ≤ s.length := Nat.le_trans (fin_len _) (acc_len' s)
theorem BdS.app {m n : Nat} {s t : Sm} (h : BdS m s) (g : BdS n t) : BdS (m + n + 1) (s ++ t) := fun r => by
  rw [sm_app]
  exact (h r).add (g r)
theorem BdS.pos {m : Nat} {s : Sm} (h : BdS m s) : 1 ≤ m := by
  have := (h 0).2
  rcases Nat.eq_zero_or_pos m with e | e
  · subst e
    unfold Bi at this
    rw [Int.natAbs_natCast] at this
    have h2 := (sm s 0).den_nz
    simp only [Nat.pow_zero] at this
    omega
  · exact e
theorem BdS.take {m : Nat} {s : Sm} (hn : Nd s) (h : BdS m s) (i : Nat) : BdS m (s.take i) := fun r => by
  rcases take_sm hn i r with e | e
  · rw [e]; exact Bd.zero h.pos
  · rw [e]; exact h r
theorem Gd.plus {m n m' n' : Nat} {s t : Sm} (h : Gd m n s) (g : Gd m' n' t) : Gd (m + m' + 1) (n + n') (nrm (s ++ t)) := by
  refine ⟨nrm_ok _, ?_, fun r => ?_⟩
  · have := nrm_len (s ++ t)
    rw [List.length_append] at this
    have h1 := h.len
    have h2 := g.len
    omega
  · rw [nrm_sm]
    exact h.bd.app g.bd r
theorem Gd.rows {m n m' n' : Nat} {s t : Sm} (h : Gd m n s) (g : Gd m' n' t) (l : n + n' < 64) : RowsOk (m + m' + 1) ((s ++ t).map ofP) := by
  have hb : ∀ p ∈ s ++ t, Bd (m + m' + 1) p.2 := fun p hp => by
    rcases List.mem_append.mp hp with hp | hp
    · rw [← sm_in h.nf.nd hp]
      exact (h.bd _).mono (by omega)
    · rw [← sm_in g.nf.nd hp]
      exact (g.bd _).mono (by omega)
  have hm : ∀ x ∈ (s ++ t).map ofP, ∃ p ∈ s ++ t, x = ofP p := fun x hx => by
    obtain ⟨p, hp, e⟩ := List.mem_map.mp hx
    exact ⟨p, hp, e.symm⟩
  refine ⟨?_, fun x hx => ?_, fun x hx => ?_, fun x hx => ?_, fun i => ?_⟩
  · rw [List.length_map, List.length_append]
    have h1 := h.len
    have h2 := g.len
    omega
  · obtain ⟨p, hp, rfl⟩ := hm x hx
    exact den_ne p.2
  · obtain ⟨p, hp, rfl⟩ := hm x hx
    exact (hb p hp).1
  · obtain ⟨p, hp, rfl⟩ := hm x hx
    exact (hb p hp).2
  · rw [rwQ_all, List.take_append]
    exact (h.bd.take h.nf.nd i).app (g.bd.take g.nf.nd _)
/-! ### turned about -/
def neg (s : Sm) : Sm := s.map fun p => (p.1, -p.2)
theorem neg_sm : ∀ (s : Sm) (r : Int), sm (neg s) r = -sm s r
  | [], r => by simp only [neg, List.map_nil, sm]; grind
  | p :: s, r => by
    have := neg_sm s r
    simp only [neg, List.map_cons, sm] at this ⊢
    rw [this]
    split <;> grind
theorem neg_nf {s : Sm} (h : Nrm s) : Nrm (neg s) := by
  refine ⟨?_, fun p hp => ?_⟩
  · unfold neg
    rw [List.pairwise_map]
    exact h.1
  · obtain ⟨q, hq, rfl⟩ := List.mem_map.mp hp
    have := h.2 q hq
    grind
theorem Gd.neg {m n : Nat} {s : Sm} (h : Gd m n s) : Gd m n (neg s) := ⟨neg_nf h.nf, by unfold Sq.neg; rw [List.length_map]; exact h.len, fun r => by rw [neg_sm]; exact (h.bd r).neg⟩
def negD : D → Option D
  | .tup [.int r, .int t, .int b] => some (.tup [.int r, .int (-t), .int b])
  | _ => none
theorem neg_all : ∀ s : Sm, (s.map partD).filterMap negD = (neg s).map partD
  | [] => rfl
  | p :: s => by
    have ih := neg_all s
    rw [List.map_cons]
    show _ = partD (p.1, -p.2) :: (neg s).map partD
    rw [← ih]
    exact List.filterMap_cons_some rfl
/-! ### one term -/
theorem one_rows {m : Nat} {c t b : Int} (h1 : 1 ≤ m) (hb : b ≠ 0) (ht : Bi m t) (hm : Bi m b) : RowsOk m [(c, t, b)] := by
  have hd : Bd m (Rat.divInt t b) := Bd.of hb ht hm
  refine ⟨by simp, fun x hx => ?_, fun x hx => ?_, fun x hx => ?_, fun i r => ?_⟩
  · obtain rfl := List.mem_singleton.mp hx; exact hb
  · obtain rfl := List.mem_singleton.mp hx; exact ht
  · obtain rfl := List.mem_singleton.mp hx; exact hm
  · cases i with
    | zero => exact Bd.zero h1
    | succ i =>
      have e : ([(c, t, b)].map rwQ).take (i + 1) = [(c, Rat.divInt t b)] := by simp [rwQ]
      rw [e]
      simp only [sm]
      split
      · rw [show Rat.divInt t b + 0 = Rat.divInt t b by grind]; exact hd
      · rw [show (0 : Rat) + 0 = 0 by grind]; exact Bd.zero h1
theorem one_G {m : Nat} {c t b : Int} (h1 : 1 ≤ m) (hb : b ≠ 0) (ht : Bi m t) (hm : Bi m b) : Gd m 1 (nrm [(c, Rat.divInt t b)]) := by
  refine ⟨nrm_ok _, nrm_len _, fun r => ?_⟩
  rw [nrm_sm]
  have := (one_rows (c := c) h1 hb ht hm).pre 1 r
  exact this
theorem one_sm (c : Int) (q : Rat) (r : Int) : sm [(c, q)] r = if c = r then q else 0 := by
  simp only [sm]
  split <;> grind
/-! ### dicts without 0 -/
def clr (s : Sm) : Sm := s.filter fun p => decide (p.2 ≠ 0)
structure Pd (m n : Nat) (s : Sm) : Prop where
  nd : Nd s
  nz : ∀ p ∈ s, p.2 ≠ 0
  len : s.length ≤ n
  bd : BdS m s
theorem Pd.mono {m n m' n' : Nat} {s : Sm} (h : Pd m n s) (l : m ≤ m') (l' : n ≤ n') : Pd m' n' s := ⟨h.nd, h.nz, Nat.le_trans h.len l', h.bd.mono l⟩
theorem filter_nd {s : Sm} (f : Int × Rat → Bool) (h : Nd s) : Nd (s.filter f) := List.Nodup.sublist (List.filter_sublist.map _) h
theorem clr_sm : ∀ (s : Sm) (r : Int), sm (clr s) r = sm s r
  | [], r => rfl
  | p :: s, r => by
    have ih := clr_sm s r
    unfold clr at ih ⊢
    by_cases h : p.2 = 0
    · rw [List.filter_cons_of_neg (by simpa using h), ih]
      simp only [sm, h]
      split <;> grind
    · rw [List.filter_cons_of_pos (by simpa using h)]
      simp only [sm, ih]
theorem clr_P {m n : Nat} {s : Sm} (h : Nd s) (l : s.length ≤ n) (b : BdS m s) : Pd m n (clr s) := by
  refine ⟨filter_nd _ h, fun p hp => ?_, Nat.le_trans (List.length_filter_le _ _) l, fun r => by rw [clr_sm]; exact b r⟩
  have := (List.mem_filter.mp hp).2
  simpa using this
theorem fin_id {s : Sm} (h : ∀ p ∈ s, p.2 ≠ 0) : (fin s).length = s.length := by
  have e : ∀ l : List Int, (∀ k ∈ l, k ∈ s.map (·.1)) → (l.filterMap (L2.T.Sq.pick s)).length = l.length := by
    intro l
    induction l with
    | nil => intro _; rfl
    | cons k l ih =>
      intro hl
      obtain ⟨q, hq⟩ := val_key (hl k List.mem_cons_self)
      have hp : L2.T.Sq.pick s k = some (k, q) := by
        unfold L2.T.Sq.pick
        rw [hq]
        simp only [if_neg (h _ (val_mem hq))]
      rw [List.filterMap_cons_some hp, List.length_cons, ih fun k hk => hl k (List.mem_cons_of_mem _ hk), List.length_cons]
  unfold fin
  rw [e _ fun k hk => (sortI_perm _).mem_iff.mp hk, (sortI_perm _).length_eq, List.length_map]
theorem Pd.Gd {m n : Nat} {s : Sm} (h : Pd m n s) : Gd m n (fin s) := ⟨fin_nrm h.nd, Nat.le_trans (fin_len s) h.len, fun r => by rw [fin_sm h.nd]; exact h.bd r⟩
theorem Pd.nil : Pd 1 0 [] := ⟨List.nodup_nil, (fun p hp => by cases hp), Nat.le_refl _, fun r => Bd.zero (Nat.le_refl _)⟩
theorem fin_eq {s : Sm} {a : Sm} (h : Nd s) (ha : Nrm a) (e : ∀ r, sm a r = sm s r) : a = fin s := ha.ext (fin_nrm h) fun r => by rw [fin_sm h, e]
theorem fin_nrm_app {s a b : Sm} (h : Nd s) (e : ∀ r, sm a r + sm b r = sm s r) : nrm (a ++ b) = fin s := fin_eq h (nrm_ok _) fun r => by rw [nrm_sm, sm_app, e]
/-- two dicts together -/
def two (s t : Sm) : Sm := clr (t.foldl addP s)
theorem two_sm {s t : Sm} (h : Nd s) (r : Int) : sm (two s t) r = sm s r + sm t r := by
  unfold two
  rw [clr_sm, (fold_ok t s h).2 r]
theorem Pd.two {m n m' n' : Nat} {s t : Sm} (h : Pd m n s) (g : Pd m' n' t) : Pd (m + m' + 1) (n + n') (two s t) := by
  have hf := fold_ok t s h.nd
  refine clr_P hf.1 ?_ fun r => ?_
  · have := acc_len t s
    have h1 := h.len
    have h2 := g.len
    omega
  · rw [hf.2 r]
    exact (h.bd r).add (g.bd r)
theorem two_keys {s t : Sm} {k : Int} (h : k ∈ (two s t).map (·.1)) : k ∈ s.map (·.1) ∨ k ∈ t.map (·.1) := by
  unfold two clr at h
  obtain ⟨p, hp, e⟩ := List.mem_map.mp h
  exact fold_keys t s k (List.mem_map.mpr ⟨p, (List.mem_filter.mp hp).1, e⟩)
theorem Pd.neg {m n : Nat} {s : Sm} (h : Pd m n s) : Pd m n (neg s) := by
  refine ⟨?_, fun p hp => ?_, by unfold Sq.neg; rw [List.length_map]; exact h.len, fun r => by rw [neg_sm]; exact (h.bd r).neg⟩
  · unfold Nd Sq.neg
    rw [List.map_map]
    exact h.nd
  · obtain ⟨q, hq, rfl⟩ := List.mem_map.mp hp
    have := h.nz q hq
    grind
theorem clr_id {s : Sm} (h : ∀ p ∈ s, p.2 ≠ 0) : clr s = s := List.filter_eq_self.mpr fun p hp => by simpa using h p hp
end L2.T.Sq
end

section
set_option Elab.async false
set_option linter.all false
set_option maxRecDepth 100000
set_option maxHeartbeats 4000000
set_option autoImplicit false
namespace L2.T.Sq
open PySem PySem.Spec PyProof.Rows
theorem ne_same {s : Sm} : cop (if true then .NotEq else .Eq) (partsD s) (partsD s) = some false := by
  rw [ne_partsX, decide_eq_true rfl]
  rfl
theorem ne_bl {b : Bool} : cop (if true then .NotEq else .Eq) (.bl b) (.bl b) = some false := by cases b <;> rfl
theorem len_parts {s : Sm} : bfn "len" [partsD s] = some (false, .int (s.length : Int)) := by
  show some (false, D.int ((s.map partD).length : Int)) = _
  rw [List.length_map]
theorem len_dk {s : Sm} : bfn "len" [dkD s] = some (false, .int (s.length : Int)) := by
  show some (false, D.int ((s.map kvD).length : Int)) = _
  rw [List.length_map]
/-- without one root -/
def wo (s : Sm) (r : Int) : Sm := s.filter fun p => decide (p.1 ≠ r)
theorem wo_sm : ∀ (s : Sm) (r x : Int), sm (wo s r) x = if x = r then 0 else sm s x
  | [], r, x => by simp only [wo, List.filter_nil, sm]; split <;> rfl
  | p :: s, r, x => by
    have ih := wo_sm s r x
    unfold wo at ih ⊢
    by_cases h : p.1 = r
    · rw [List.filter_cons_of_neg (by simpa using h), ih]
      simp only [sm]
      by_cases e : x = r
      · rw [if_pos e, if_pos e]
      · rw [if_neg e, if_neg e, if_neg (fun z => e (z.symm.trans h))]
        grind
    · rw [List.filter_cons_of_pos (by simpa using h)]
      simp only [sm, ih]
      by_cases e : x = r
      · rw [if_pos e, if_pos e, if_neg (fun z => h (z.trans e))]
        grind
      · rw [if_neg e, if_neg e]
theorem wo_nf {s : Sm} {r : Int} (h : Nrm s) : Nrm (wo s r) := ⟨h.1.sublist List.filter_sublist, fun p hp => h.2 p (List.mem_filter.mp hp).1⟩
theorem wo_key {s : Sm} {r : Int} {p : Int × Rat} (h : p ∈ wo s r) : p.1 ≠ r := by
  have := (List.mem_filter.mp h).2
  simpa using this
theorem wo_len : ∀ {s : Sm} {p : Int × Rat}, Nd s → p ∈ s → (wo s p.1).length + 1 = s.length
  | [], p, _, h => by cases h
  | a :: s, p, hn, h => by
    have hn' := List.nodup_cons.mp hn
    unfold wo
    rcases List.mem_cons.mp h with rfl | h
    · rw [List.filter_cons_of_neg (by simp), List.length_cons]
      congr 2
      refine List.filter_eq_self.mpr fun x hx => ?_
      simp only [decide_eq_true_eq]
      exact fun e => hn'.1 (List.mem_map.mpr ⟨x, hx, e⟩)
    · have : a.1 ≠ p.1 := fun e => hn'.1 (List.mem_map.mpr ⟨p, h, e.symm⟩)
      rw [List.filter_cons_of_pos (by simpa using this), List.length_cons, List.length_cons]
      have ih := wo_len hn'.2 h
      unfold wo at ih
      rw [ih]
theorem mem_of_sm {s : Sm} {r : Int} (hn : Nd s) (h : sm s r ≠ 0) : (r, sm s r) ∈ s := by
  cases e : valA s r with
  | none => exact absurd (sm_out (val_none e)) h
  | some q =>
    have h1 := val_mem e
    have h2 := sm_in hn h1
    rw [h2]
    exact h1
/-- a number less one of its terms -/
theorem less_one {s : Sm} {p : Int × Rat} (h : Nrm s) (hp : p ∈ s) : nrm (s ++ neg (nrm [p])) = wo s p.1 := by
  refine nrm_of (wo_nf h) fun x => ?_
  rw [wo_sm, sm_app, neg_sm, nrm_sm]
  have e := one_sm p.1 p.2 x
  rw [show [(p.1, p.2)] = [p] from rfl] at e
  rw [e]
  by_cases hx : x = p.1
  · rw [if_pos hx, if_pos hx.symm, hx, sm_in h.nd hp]
    grind
  · rw [if_neg hx, if_neg (fun z => hx z.symm)]
    grind
theorem back_one {s : Sm} {p : Int × Rat} (h : Nrm s) (hp : p ∈ s) : nrm (nrm [p] ++ wo s p.1) = s := by
  refine nrm_of h fun x => ?_
  rw [sm_app, nrm_sm, wo_sm]
  have e := one_sm p.1 p.2 x
  rw [show [(p.1, p.2)] = [p] from rfl] at e
  rw [e]
  by_cases hx : x = p.1
  · rw [if_pos hx, if_pos hx.symm, hx, sm_in h.nd hp]
    grind
  · rw [if_neg hx, if_neg (fun z => hx z.symm)]
    grind
theorem not_one {s : Sm} {p : Int × Rat} {q : Rat} (h : Nrm s) (hp : p ∈ s) (hq : q ≠ p.2) : nrm (wo s p.1 ++ nrm [(p.1, q)]) ≠ s := by
  intro e
  have h1 := congrArg (fun l => sm l p.1) e
  simp only [nrm_sm, sm_app, wo_sm, if_true] at h1
  rw [one_sm, if_pos rfl, sm_in h.nd hp] at h1
  exact hq (by grind)
/-- x in the roots of a number -/
theorem py_ints : ∀ l : List Int, pyL (l.map D.int) = some (l.map PyData.int)
  | [] => rfl
  | i :: l => by
    show (match (D.int i).py, pyL (l.map D.int) with
      | some x, some xs => some (x :: xs)
      | _, _ => none) = _
    rw [py_ints l]
    rfl
theorem lay_ints : ∀ l : List Int, PyData.canLayAll0 (l.map PyData.int) = true
  | [] => rfl
  | i :: l => by
    rw [List.map_cons]
    show (PyData.canLay0 (PyData.int i) && PyData.canLayAll0 (l.map PyData.int)) = true
    rw [lay_ints l]
    rfl
theorem dep_ints : ∀ l : List Int, PyData.depthAll (l.map PyData.int) ≤ 1
  | [] => Nat.zero_le _
  | i :: l => by
    have ih := dep_ints l
    have e : (PyData.int i).depth = 0 := rfl
    rw [List.map_cons]
    simp only [PyData.depthAll]
    omega
theorem in_ints {l : List Int} {r : Int} : cop .In (.int r) (.lst (l.map D.int)) = some (l.any fun x => decide (x = r)) := by
  show inL (.int r) (l.map D.int) = _
  unfold inL
  rw [py_ints]
  have h1 : SeqAt.shaped (.list (l.map PyData.int)) = true := by
    show (PyData.canLay0 (.list (l.map PyData.int)) && decide (PyData.depth (.list (l.map PyData.int)) ≤ 64)) = true
    have h := dep_ints l
    have e : PyData.depth (.list (l.map PyData.int)) ≤ 2 := by
      unfold PyData.depth
      omega
    simp only [PyData.canLay0, lay_ints, Bool.true_and, decide_eq_true_eq]
    omega
  have h2 : SeqAt.shaped (PyData.int r) = true := rfl
  show (if SeqAt.shaped (PyData.int r) && SeqAt.shaped (.list (l.map PyData.int)) then some ((l.map PyData.int).any fun z => PyData.eqv z (PyData.int r)) else none) = _
  rw [h1, h2, if_pos (show (true && true) = true from rfl), List.any_map]
  congr 1
def headD : D → Option D
  | .tup [.int r, _, _] => some (.int r)
  | _ => none
theorem head_all : ∀ s : Sm, (s.map partD).filterMap headD = (s.map (·.1)).map D.int
  | [] => rfl
  | p :: s => by
    have ih := head_all s
    rw [List.map_cons, List.map_cons, List.map_cons, ← ih]
    exact List.filterMap_cons_some rfl
end L2.T.Sq
end

section
set_option Elab.async false
set_option linter.all false
set_option maxRecDepth 100000
set_option maxHeartbeats 4000000
namespace L2.T.Sq
open PySem PySem.Spec PyProof.Rows
def fB (a b c : Int) : Bool := decide ((a + b + c) % 2 = 0 ∧ c ≤ a + b ∧ a ≤ b + c ∧ b ≤ a + c)
/-- a pair -/
structure Pr (a u : Int) : Prop where
  a0 : 0 ≤ a
  a1 : a ≤ 40
  u0 : -a ≤ u
  u1 : u ≤ a
  p : (u - a) % 2 = 0
/-- three pairs -/
def Tp (y : D) : Prop := ∃ a u b v c w, y = .tup [.tup [.int a, .int u], .tup [.int b, .int v], .tup [.int c, .int w]] ∧ Pr a u ∧ Pr b v ∧ Pr c w
section
variable {a b c : Int}
theorem fB_iff : fB a b c = true ↔ (a + b + c) % 2 = 0 ∧ c ≤ a + b ∧ a ≤ b + c ∧ b ≤ a + c := by unfold fB; rw [decide_eq_true_iff]
theorem fB_abs (ha : 0 ≤ a) (hb : 0 ≤ b) : fB a b (if a - b < 0 then -(a - b) else a - b) = true := by
  unfold fB
  refine decide_eq_true ?_
  split <;> omega
theorem mulNil {y : D} : bop .Mult (.lst [y]) (.int 0) = some (true, .lst []) := rfl
theorem addNil {l : List Int} (hl : l.length ≤ 1000) : bop .Add (.lst (l.map D.int)) (.lst []) = some (true, .lst (l.map D.int)) := by
  rw [b_cat (n := l.length) (m := 0) (by rw [List.length_map]) rfl (by omega), List.append_nil]
theorem selLen (p : Int → Bool) (n : Nat) : ((ups 0 n).filter p).length ≤ n := Nat.le_trans (List.length_filter_le _ _) (by rw [ups_len]; exact Nat.le_refl _)
theorem maxTwo (i j : Int) : ∃ f : Int, bfn "max" [.int i, .int j] = some (false, .int f) ∧ i ≤ f ∧ j ≤ f ∧ (f = i ∨ f = j) := by
  refine ⟨maxI [i, j], rfl, ?_⟩
  have e : maxI [i, j] = if maxI [j] > i then maxI [j] else i := rfl
  have e2 : maxI [j] = j := rfl
  rw [e, e2]
  split <;> omega
theorem minTwo (i j : Int) : ∃ f : Int, bfn "min" [.int i, .int j] = some (false, .int f) ∧ f ≤ i ∧ f ≤ j ∧ (f = i ∨ f = j) := by
  refine ⟨minI [i, j], rfl, ?_⟩
  have e : minI [i, j] = if minI [j] < i then minI [j] else i := rfl
  have e2 : minI [j] = j := rfl
  rw [e, e2]
  split <;> omega
end
end L2.T.Sq
end

section
set_option Elab.async false
set_option linter.all false
set_option maxRecDepth 100000
set_option maxHeartbeats 0
namespace K01
open PySem PySem.Spec PyProof.Rows L2 L2.T

def top (i : Nat) : Stmt := (PySem.Challenge.rw_turncouple_k01_numbers_made).prog.main.body.getD i (.Pass ⟨0, 0, 0, 0⟩)
/-- is_whole -/
def ir0 : Ss := (.cons (.ret (.and (.isi (.v 0) ["int"]) (.not (.isi (.v 0) ["bool"])))) .nil)
def r0 : Rw := ⟨"is_whole", "is_whole", defArgs (top 5), defBody (top 5), defScope (top 5), ["thing"], ["thing"], ⟨1, [], 1, ir0⟩, 1, []⟩
/-- is_from -/
def ir1 : Ss := (.cons (.ret (.and (.call 0 (.cons (.v 0) .nil)) (.chn .LtE .LtE (.v 1) (.v 0) (.v 2)))) .nil)
def r1 : Rw := ⟨"is_from", "is_from", defArgs (top 6), defBody (top 6), defScope (top 6), ["thing", "least", "most"], ["thing", "least", "most"], ⟨3, [], 3, ir1⟩, 1, []⟩
/-- part_text -/
def ir2 : Ss := (.cons (.asg (.nm 3) (.ife (.cmp .Gt (.v 2) (.c (.int 1))) (.fst (.cons (.fmt (.bi "abs" (.cons (.v 1) .nil))) (.cons (.c (.str "/")) (.cons (.fmt (.v 2)) .nil)))) (.ownx false 0 2000018 (.cons (.bi "abs" (.cons (.v 1) .nil)) .nil)))) (.cons (.ite (.cmpx false 0 1000017 (.v 0) (.c (.int 1))) (.cons (.ret (.v 3)) .nil) .nil) (.cons (.ret (.ife (.cmpx false 0 1000017 (.v 3) (.c (.str "1"))) (.fst (.cons (.fmt (.c (.str "r"))) (.cons (.fmt (.v 0)) .nil))) (.fst (.cons (.fmt (.v 3)) (.cons (.c (.str "*")) (.cons (.fmt (.c (.str "r"))) (.cons (.fmt (.v 0)) .nil))))))) .nil)))
def r2 : Rw := ⟨"part_text", "part_text", defArgs (top 12), defBody (top 12), defScope (top 12), ["root", "top", "bottom"], ["root", "top", "bottom", "fraction"], ⟨3, [], 4, ir2⟩, 1, []⟩
/-- written -/
def ir3 : Ss := (.cons (.ite (.cmpx false 0 1000017 (.v 0) (.tup .nil)) (.cons (.ret (.c (.str "0"))) .nil) .nil) (.cons (.asg (.nm 1) (.c (.str ""))) (.cons (.for_ (.tu [(.nm 2), (.nm 3), (.nm 4)]) (.v 0) (.cons (.asg (.nm 5) (.ife (.cmpx true 0 1000017 (.v 1) (.c (.str ""))) (.ife (.cmp .Lt (.v 3) (.c (.int 0))) (.c (.str " - ")) (.c (.str " + "))) (.ife (.cmp .Lt (.v 3) (.c (.int 0))) (.c (.str "-")) (.c (.str ""))))) (.cons (.asg (.nm 1) (.bin .Add (.bin .Add (.v 1) (.v 5)) (.call 2 (.cons (.v 2) (.cons (.v 3) (.cons (.v 4) .nil)))))) .nil))) (.cons (.ret (.v 1)) .nil))))
def r3 : Rw := ⟨"written", "written", defArgs (top 13), defBody (top 13), defScope (top 13), ["parts"], ["parts", "found", "root", "top", "bottom", "between"], ⟨1, [], 6, ir3⟩, 1, []⟩
/-- common -/
def ir4 : Ss := (.cons (.whl (.cmp .Gt (.v 1) (.c (.int 0))) (.cons (.par [0, 1] (.cons (.v 1) (.cons (.bin .Mod (.v 0) (.v 1)) .nil))) .nil)) (.cons (.ret (.v 0)) .nil))
def r4 : Rw := ⟨"common", "common", defArgs (top 14), defBody (top 14), defScope (top 14), ["one", "other"], ["one", "other"], ⟨2, [], 2, ir4⟩, 1, []⟩
/-- lowest_terms -/
def ir5 : Ss := (.cons (.asg (.nm 2) (.call 4 (.cons (.bi "abs" (.cons (.v 0) .nil)) (.cons (.bi "abs" (.cons (.v 1) .nil)) .nil)))) (.cons (.ite (.cmp .Lt (.v 1) (.c (.int 0))) (.cons (.asg (.nm 2) (.neg (.v 2))) .nil) .nil) (.cons (.ret (.tup (.cons (.bin .FloorDiv (.v 0) (.v 2)) (.cons (.bin .FloorDiv (.v 1) (.v 2)) .nil)))) .nil)))
def r5 : Rw := ⟨"lowest_terms", "lowest_terms", defArgs (top 15), defBody (top 15), defScope (top 15), ["top", "bottom"], ["top", "bottom", "divisor"], ⟨2, [], 3, ir5⟩, 1, []⟩
/-- put_together -/
def ir6 : Ss := (.cons (.asg (.nm 1) .dk0) (.cons (.for_ (.tu [(.nm 2), (.nm 3), (.nm 4)]) (.v 0) (.cons (.asg (.tu [(.nm 5), (.nm 6)]) (.me "get" (.v 1) (.cons (.v 2) (.cons (.tup (.cons (.c (.int 0)) (.cons (.c (.int 1)) .nil))) .nil)))) (.cons (.six 1 (.v 2) (.call 5 (.cons (.bin .Add (.bin .Mult (.v 5) (.v 4)) (.bin .Mult (.v 3) (.v 6))) (.cons (.bin .Mult (.v 6) (.v 4)) .nil)))) .nil))) (.cons (.ret (.mk 0 1000016 (.cons (.bi "tuple" (.cons (.lc [7, 2] (.nm 2) (.bi "sorted" (.cons (.v 1) .nil)) (.cons (.cmpx true 0 1000017 (.idx (.idx (.v 1) (.v 2)) (.c (.int 0))) (.c (.int 0))) .nil) (.bin .Add (.tup (.cons (.v 2) .nil)) (.idx (.v 1) (.v 2)))) .nil)) .nil))) .nil)))
def r6 : Rw := ⟨"put_together", "put_together", defArgs (top 16), defBody (top 16), defScope (top 16), ["rows"], ["rows", "found", "root", "top", "bottom", "here", "there", ".0"], ⟨1, [], 8, ir6⟩, 1, []⟩
/-- powers_in -/
def ir7 : Ss := (.cons (.asg (.nm 1) (.lst .nil)) (.cons (.asg (.nm 2) (.c (.int 2))) (.cons (.whl (.and (.cmp .Lt (.v 2) (.c (.int 1000))) (.cmp .Gt (.v 0) (.c (.int 1)))) (.cons (.asg (.nm 3) (.c (.int 0))) (.cons (.whl (.cmpx false 0 1000017 (.bin .Mod (.v 0) (.v 2)) (.c (.int 0))) (.cons (.aug .FloorDiv 0 (.v 2)) (.cons (.aug .Add 3 (.c (.int 1))) .nil))) (.cons (.ite (.cmp .Gt (.v 3) (.c (.int 0))) (.cons (.ex (.mm "append" 1 (.cons (.tup (.cons (.v 2) (.cons (.v 3) .nil))) .nil))) .nil) .nil) (.cons (.aug .Add 2 (.c (.int 1))) .nil))))) (.cons (.ret (.tup (.cons (.v 1) (.cons (.v 0) .nil)))) .nil))))
def r7 : Rw := ⟨"powers_in", "powers_in", defArgs (top 17), defBody (top 17), defScope (top 17), ["number"], ["number", "found", "prime", "many"], ⟨1, [], 4, ir7⟩, 1, []⟩
/-- without_squares -/
def ir8 : Ss := (.cons (.asg (.tu [(.nm 1), (.nm 2)]) (.call 7 (.cons (.v 0) .nil))) (.cons (.ite (.cmp .Gt (.v 2) (.c (.int 1))) (.cons (.ret (.c .non)) .nil) .nil) (.cons (.asgs [3, 4] (.c (.int 1))) (.cons (.for_ (.tu [(.nm 5), (.nm 6)]) (.v 1) (.cons (.for_ (.nm 7) (.rng (.cons (.bin .FloorDiv (.v 6) (.c (.int 2))) .nil)) (.cons (.aug .Mult 3 (.v 5)) .nil)) (.cons (.ite (.cmpx false 0 1000017 (.bin .Mod (.v 6) (.c (.int 2))) (.c (.int 1))) (.cons (.aug .Mult 4 (.v 5)) .nil) .nil) .nil))) (.cons (.ret (.tup (.cons (.v 3) (.cons (.v 4) .nil)))) .nil)))))
def r8 : Rw := ⟨"without_squares", "without_squares", defArgs (top 18), defBody (top 18), defScope (top 18), ["number"], ["number", "found", "left", "ahead", "rest", "prime", "many", "turn"], ⟨1, [], 8, ir8⟩, 1, []⟩
/-- exact -/
def ir9 : Ss := (.cons (.ite (.or (.not (.call 0 (.cons (.v 0) .nil))) (.or (.not (.call 0 (.cons (.v 1) .nil))) (.not (.call 1 (.cons (.v 2) (.cons (.c (.int 0)) (.cons (.c (.int 1000000)) .nil))))))) (.cons .no .nil) .nil) (.cons (.asg (.nm 3) (.ife (.cmp .Gt (.v 2) (.c (.int 0))) (.call 8 (.cons (.v 2) .nil)) (.tup (.cons (.c (.int 0)) (.cons (.c (.int 1)) .nil))))) (.cons (.ite (.cmp .Is (.v 3) (.c .non)) (.cons .no .nil) .nil) (.cons (.ite (.cmpx false 0 1000017 (.v 1) (.c (.int 0))) (.cons .no .nil) .nil) (.cons (.ret (.call 6 (.cons (.lst (.cons (.tup (.cons (.idx (.v 3) (.c (.int 1))) (.cons (.bin .Mult (.v 0) (.idx (.v 3) (.c (.int 0)))) (.cons (.v 1) .nil)))) .nil)) .nil))) .nil)))))
def r9 : Rw := ⟨"exact", "exact", defArgs (top 19), defBody (top 19), defScope (top 19), ["top", "bottom", "root"], ["top", "bottom", "root", "squares"], ⟨3, [], 4, ir9⟩, 1, [("bottom", .int 1), ("root", .int 1)]⟩
/-- _law_pen -/
def ir10 : Ss := (.cons (.ret (.lst (.cons (.bi "list" (.cons (.sli (.v 0) .nil (.cons (.c (.int 63)) .nil)) .nil)) (.cons (.c (.int 0)) (.cons (.c (.int 0)) .nil))))) .nil)
def r10 : Rw := ⟨"_law_pen", "_law_pen", defArgs (top 21), defBody (top 21), defScope (top 21), ["_law_script"], ["_law_script"], ⟨1, [], 1, ir10⟩, 1, []⟩
/-- _law_draw -/
def ir11 : Ss := (.cons (.ite (.cmp .Gt (.idx (.v 0) (.c (.int 2))) (.c (.int 0))) (.cons (.asg (.nm 2) (.bin .Mod (.idx (.v 0) (.c (.int 2))) (.v 1))) (.cons (.six 0 (.c (.int 2)) (.bin .FloorDiv (.idx (.v 0) (.c (.int 2))) (.v 1))) (.cons (.ret (.v 2)) .nil))) .nil) (.cons (.asg (.nm 3) (.idx (.v 0) (.c (.int 1)))) (.cons (.six 0 (.c (.int 1)) (.bin .Add (.v 3) (.c (.int 1)))) (.cons (.asg (.nm 4) (.c (.int 7))) (.cons (.ite (.cmp .Gt (.bi "len" (.cons (.idx (.v 0) (.c (.int 0))) .nil)) (.c (.int 0))) (.cons (.asg (.nm 4) (.idx (.idx (.v 0) (.c (.int 0))) (.bin .Mod (.v 3) (.bi "len" (.cons (.idx (.v 0) (.c (.int 0))) .nil))))) .nil) .nil) (.cons (.ite (.and (.cmp .Lt (.v 3) (.bi "len" (.cons (.idx (.v 0) (.c (.int 0))) .nil))) (.cmp .GtE (.v 4) (.bin .Pow (.c (.int 10)) (.c (.int 18))))) (.cons (.six 0 (.c (.int 2)) (.bin .FloorDiv (.v 4) (.v 1))) (.cons (.ret (.bin .Mod (.v 4) (.v 1))) .nil)) .nil) (.cons (.asg (.nm 5) (.bin .Mod (.bin .Mult (.bin .Add (.bin .Mod (.v 4) (.c (.int 2147483629))) (.c (.int 11))) (.bin .Add (.bin .Add (.bin .Mult (.v 3) (.v 3)) (.bin .Mult (.c (.int 5)) (.v 3))) (.c (.int 3)))) (.c (.int 2147483647)))) (.cons (.asg (.nm 5) (.bin .Mod (.bin .Mult (.bin .Mod (.bin .Add (.bin .Pow (.v 5) (.c (.int 3))) (.bin .Mult (.c (.int 69621)) (.v 3))) (.c (.int 2147483587))) (.c (.int 40692))) (.c (.int 2147483399)))) (.cons (.ite (.cmp .Gt (.v 1) (.bin .Pow (.c (.int 10)) (.c (.int 6)))) (.cons (.asg (.nm 5) (.bin .Add (.bin .Mult (.v 5) (.c (.int 2147483629))) (.bin .Mod (.bin .Mult (.bin .Mod (.v 5) (.c (.int 1000003))) (.c (.int 48271))) (.c (.int 2147483587))))) .nil) .nil) (.cons (.ret (.bin .Mod (.bin .FloorDiv (.v 5) (.c (.int 64))) (.v 1))) .nil))))))))))
def r11 : Rw := ⟨"_law_draw", "_law_draw", defArgs (top 22), defBody (top 22), defScope (top 22), ["_law_pen_here", "_law_many"], ["_law_pen_here", "_law_many", "_law_found", "_law_at", "_law_cell", "_law_number"], ⟨2, [0], 6, ir11⟩, 1, []⟩
/-- _law_low -/
def ir12 : Ss := (.cons (.par [2, 3] (.cons (.bi "abs" (.cons (.v 0) .nil)) (.cons (.bi "abs" (.cons (.v 1) .nil)) .nil))) (.cons (.whl (.cmp .Gt (.v 3) (.c (.int 0))) (.cons (.par [2, 3] (.cons (.v 3) (.cons (.bin .Mod (.v 2) (.v 3)) .nil))) .nil)) (.cons (.ret (.ife (.cmp .Gt (.v 1) (.c (.int 0))) (.tup (.cons (.bin .FloorDiv (.v 0) (.v 2)) (.cons (.bin .FloorDiv (.v 1) (.v 2)) .nil))) (.tup (.cons (.bin .FloorDiv (.neg (.v 0)) (.v 2)) (.cons (.bin .FloorDiv (.neg (.v 1)) (.v 2)) .nil))))) .nil)))
def r12 : Rw := ⟨"_law_low", "_law_low", defArgs (top 23), defBody (top 23), defScope (top 23), ["_law_up", "_law_under"], ["_law_up", "_law_under", "_law_one", "_law_other"], ⟨2, [], 4, ir12⟩, 1, []⟩
/-- _law_free -/
def ir13 : Ss := (.cons (.par [1, 2] (.cons (.c (.int 1)) (.cons (.c (.int 2)) .nil))) (.cons (.whl (.cmp .LtE (.bin .Mult (.v 2) (.v 2)) (.v 0)) (.cons (.whl (.cmpx false 0 1000017 (.bin .Mod (.v 0) (.bin .Mult (.v 2) (.v 2))) (.c (.int 0))) (.cons (.par [0, 1] (.cons (.bin .FloorDiv (.v 0) (.bin .Mult (.v 2) (.v 2))) (.cons (.bin .Mult (.v 1) (.v 2)) .nil))) .nil)) (.cons (.asg (.nm 2) (.bin .Add (.v 2) (.c (.int 1)))) .nil))) (.cons (.ret (.tup (.cons (.v 1) (.cons (.v 0) .nil)))) .nil)))
def r13 : Rw := ⟨"_law_free", "_law_free", defArgs (top 24), defBody (top 24), defScope (top 24), ["_law_number"], ["_law_number", "_law_square", "_law_p"], ⟨1, [], 3, ir13⟩, 1, []⟩
/-- _law_parts_due -/
def ir14 : Ss := (.cons (.ite (.or (.cmpx false 0 1000017 (.v 0) (.c (.int 0))) (.cmpx false 0 1000017 (.v 2) (.c (.int 0)))) (.cons (.ret (.tup .nil)) .nil) .nil) (.cons (.asg (.tu [(.nm 3), (.nm 4)]) (.call 13 (.cons (.v 2) .nil))) (.cons (.ret (.tup (.cons (.bin .Add (.tup (.cons (.v 4) .nil)) (.call 12 (.cons (.bin .Mult (.v 0) (.v 3)) (.cons (.v 1) .nil)))) .nil))) .nil)))
def r14 : Rw := ⟨"_law_parts_due", "_law_parts_due", defArgs (top 25), defBody (top 25), defScope (top 25), ["_law_up", "_law_under", "_law_r"], ["_law_up", "_law_under", "_law_r", "_law_square", "_law_free_here"], ⟨3, [], 5, ir14⟩, 1, []⟩
/-- law -/
def ir15 : Ss := (.cons (.asg (.nm 1) (.call 10 (.cons (.v 0) .nil))) (.cons (.for_ (.nm 2) (.rng (.cons (.bin .Add (.c (.int 1)) (.call 11 (.cons (.v 1) (.cons (.c (.int 30)) .nil)))) .nil)) (.cons (.asg (.nm 3) (.idx (.lst (.cons (.c (.int 3)) (.cons (.c (.int 1000)) (.cons (.bin .Pow (.c (.int 10)) (.c (.int 59))) .nil)))) (.call 11 (.cons (.v 1) (.cons (.c (.int 3)) .nil))))) (.cons (.par [4, 5] (.cons (.bin .Sub (.call 11 (.cons (.v 1) (.cons (.bin .Add (.bin .Mult (.c (.int 2)) (.v 3)) (.c (.int 1))) .nil))) (.v 3)) (.cons (.bin .Sub (.call 11 (.cons (.v 1) (.cons (.bin .Add (.bin .Mult (.c (.int 2)) (.v 3)) (.c (.int 1))) .nil))) (.v 3)) .nil))) (.cons (.asg (.nm 5) (.ife (.cmpx true 0 1000017 (.v 5) (.c (.int 0))) (.v 5) (.c (.int 1)))) (.cons (.asg (.nm 6) (.lst (.cons (.c (.int 0)) (.cons (.c (.int 1)) (.cons (.c (.int 4)) (.cons (.c (.int 12)) (.cons (.c (.int 997)) (.cons (.bin .Mult (.c (.int 997)) (.c (.int 997))) (.cons (.bin .Pow (.c (.int 2)) (.c (.int 19))) (.cons (.c (.int 510510)) (.cons (.c (.int 720720)) (.cons (.c (.int 1000000)) (.cons (.bin .Mult (.bin .Mult (.c (.int 30)) (.c (.int 30))) (.c (.int 7))) (.cons (.bin .Add (.c (.int 1)) (.call 11 (.cons (.v 1) (.cons (.c (.int 900)) .nil)))) .nil)))))))))))))) (.cons (.asg (.nm 7) (.idx (.v 6) (.call 11 (.cons (.v 1) (.cons (.c (.int 12)) .nil))))) (.cons (.asg (.nm 8) (.lst (.cons (.callk 9 (.cons (.v 4) .nil) (.cons (.v 5) (.cons (.v 7) .nil)) [.inl 0, .inl 1, .inl 2]) (.cons (.callk 9 (.cons (.v 4) .nil) (.cons (.v 7) (.cons (.v 5) .nil)) [.inl 0, .inl 2, .inl 1]) .nil)))) (.cons (.for_ (.nm 9) (.v 8) (.cons (.ite (.or (.not (.isx 0 (.v 9))) (.cmpx true 0 1000017 (.fld 0 0 (.v 9)) (.call 14 (.cons (.v 4) (.cons (.v 5) (.cons (.v 7) .nil)))))) (.cons (.ret (.c (.bl false))) .nil) .nil) .nil)) (.cons (.ite (.or (.cmpx true 0 1000017 (.idx (.v 8) (.c (.int 0))) (.idx (.v 8) (.c (.int 1)))) (.cmpx true 0 1000017 (.fld 0 0 (.callk 9 (.cons (.v 4) .nil) .nil [.inl 0, .inr (.int 1), .inr (.int 1)])) (.call 14 (.cons (.v 4) (.cons (.c (.int 1)) (.cons (.c (.int 1)) .nil)))))) (.cons (.ret (.c (.bl false))) .nil) .nil) (.cons (.ite (.cmpx true 0 1000017 (.fld 0 0 (.callk 9 (.cons (.v 4) .nil) (.cons (.v 7) .nil) [.inl 0, .inr (.int 1), .inl 1])) (.call 14 (.cons (.v 4) (.cons (.c (.int 1)) (.cons (.v 7) .nil))))) (.cons (.ret (.c (.bl false))) .nil) .nil) (.cons (.ite (.or (.cmpx true 0 1000017 (.fld 0 0 (.callk 9 (.cons (.v 4) .nil) (.cons (.v 5) .nil) [.inl 0, .inl 1, .inr (.int 1)])) (.call 14 (.cons (.v 4) (.cons (.v 5) (.cons (.c (.int 1)) .nil))))) (.cmpx false 0 1000017 (.callk 9 (.cons (.v 4) .nil) .nil [.inl 0, .inr (.int 1), .inr (.int 1)]) (.callk 9 (.cons (.bin .Add (.v 4) (.c (.int 1))) .nil) .nil [.inl 0, .inr (.int 1), .inr (.int 1)]))) (.cons (.ret (.c (.bl false))) .nil) .nil) (.cons (.for_ (.nm 10) (.lst (.cons (.v 4) (.cons (.c .non) (.cons (.ownx false 0 2000018 (.cons (.idx (.v 8) (.c (.int 0))) .nil)) (.cons (.fld 0 0 (.idx (.v 8) (.c (.int 0)))) (.cons (.lst (.cons (.idx (.v 8) (.c (.int 0))) .nil)) (.cons (.c (.int 0)) (.cons (.c (.bl true)) .nil)))))))) (.cons (.ite (.cmpx false 0 1000017 (.idx (.v 8) (.c (.int 0))) (.v 10)) (.cons (.ret (.c (.bl false))) .nil) .nil) .nil)) .nil)))))))))))) (.cons (.ret (.c (.bl true))) .nil)))
def r15 : Rw := ⟨"law", "law", defArgs (top 26), defBody (top 26), defScope (top 26), ["_law_script"], ["_law_script", "_law_pen_here", "_law_k", "_law_far", "_law_up", "_law_under", "_law_some", "_law_r", "_law_told", "_law_number", "_law_thing"], ⟨1, [], 11, ir15⟩, 1, []⟩
def cbody (s : Stmt) : List Stmt := match s with
  | .ClassDef _ _ _ b _ _ _ _ _ _ _ => b
  | _ => []
def mth (i j : Nat) : Stmt := (cbody (top i)).getD j (.Pass ⟨0, 0, 0, 0⟩)
/-- Exact.__init__ -/
def ir16 : Ss := (.cons (.fset 0 0 0 (.v 1)) .nil)
def r16 : Rw := ⟨"Exact.__init__", "Exact.__init__", defArgs (mth 11 0), defBody (mth 11 0), defScope (mth 11 0), ["self", "parts"], ["self", "parts"], ⟨2, [0], 2, ir16⟩, 1, []⟩
/-- Exact.__eq__ -/
def ir17 : Ss := (.cons (.ret (.and (.isx 0 (.v 1)) (.cmpx false 0 1000017 (.fld 0 0 (.v 0)) (.fld 0 0 (.v 1))))) .nil)
def r17 : Rw := ⟨"Exact.__eq__", "Exact.__eq__", defArgs (mth 11 1), defBody (mth 11 1), defScope (mth 11 1), ["self", "other"], ["self", "other"], ⟨2, [], 2, ir17⟩, 1, []⟩
/-- Exact.__str__ -/
def ir18 : Ss := (.cons (.ret (.ownx false 0 2000018 (.cons (.call 3 (.cons (.fld 0 0 (.v 0)) .nil)) .nil))) .nil)
def r18 : Rw := ⟨"Exact.__str__", "Exact.__str__", defArgs (mth 11 2), defBody (mth 11 2), defScope (mth 11 2), ["self"], ["self"], ⟨1, [], 1, ir18⟩, 1, []⟩
/-- Exact.__repr__ -/
def ir19 : Ss := (.cons (.ret (.fst (.cons (.c (.str "Exact(")) (.cons (.fmt (.call 3 (.cons (.fld 0 0 (.v 0)) .nil))) (.cons (.c (.str ")")) .nil))))) .nil)
def r19 : Rw := ⟨"Exact.__repr__", "Exact.__repr__", defArgs (mth 11 3), defBody (mth 11 3), defScope (mth 11 3), ["self"], ["self"], ⟨1, [], 1, ir19⟩, 1, []⟩
def ms : List Mw := [⟨r16, "Exact", "__init__"⟩, ⟨r17, "Exact", "__eq__"⟩, ⟨r18, "Exact", "__str__"⟩, ⟨r19, "Exact", "__repr__"⟩]
def rs : List Rw := [r0, r1, r2, r3, r4, r5, r6, r7, r8, r9, r10, r11, r12, r13, r14, r15]
def M : Mt := ⟨[("GREATEST_ROOT", .int 1000000), ("PRIMES_BELOW", .int 1000), ("ROOT_SIGN", .str "r")], ["len", "abs", "list", "tuple", "sum", "max", "min", "int", "all", "any", "isinstance", "range", "bool", "str", "dict", "repr", "sorted"], [], [], [], [], "", [], [("exact", (1, [([], [.inl 0, .inr (.int 1), .inr (.int 1)]), (["bottom"], [.inl 0, .inl 1, .inr (.int 1)]), (["bottom", "root"], [.inl 0, .inl 1, .inl 2]), (["root"], [.inl 0, .inr (.int 1), .inl 1]), (["root", "bottom"], [.inl 0, .inl 2, .inl 1])]))], [⟨"Exact", ["parts"], 2, 0, some 1, some 2, some 3⟩]⟩
abbrev G : Gc := gcOf (rs.map fun r => (r.x, r.ps.length)) M
abbrev T : Nat → Option Fd := tabOf (allR rs ms)
theorem ok0 : RwOk G 60 r0 := ⟨by decide +kernel, rfl, rfl, by decide, by kernel_rfl, .inr rfl, kwb_none (by kernel_rfl), fun _ _ _ _ _ _ _ us hl => match us, hl with | [_], _ => rfl⟩
theorem ok1 : RwOk G 60 r1 := ⟨by decide +kernel, rfl, rfl, by decide, by kernel_rfl, .inr rfl, kwb_none (by kernel_rfl), fun _ _ _ _ _ _ _ us hl => match us, hl with | [_, _, _], _ => rfl⟩
theorem ok2 : RwOk G 60 r2 := ⟨by decide +kernel, rfl, rfl, by decide, by kernel_rfl, .inr rfl, kwb_none (by kernel_rfl), fun _ _ _ _ _ _ _ us hl => match us, hl with | [_, _, _], _ => rfl⟩
theorem ok3 : RwOk G 60 r3 := ⟨by decide +kernel, rfl, rfl, by decide, by kernel_rfl, .inr rfl, kwb_none (by kernel_rfl), fun _ _ _ _ _ _ _ us hl => match us, hl with | [_], _ => rfl⟩
theorem ok4 : RwOk G 60 r4 := ⟨by decide +kernel, rfl, rfl, by decide, by kernel_rfl, .inr rfl, kwb_none (by kernel_rfl), fun _ _ _ _ _ _ _ us hl => match us, hl with | [_, _], _ => rfl⟩
theorem ok5 : RwOk G 60 r5 := ⟨by decide +kernel, rfl, rfl, by decide, by kernel_rfl, .inr rfl, kwb_none (by kernel_rfl), fun _ _ _ _ _ _ _ us hl => match us, hl with | [_, _], _ => rfl⟩
theorem ok6 : RwOk G 60 r6 := ⟨by decide +kernel, rfl, rfl, by decide, by kernel_rfl, .inr rfl, kwb_none (by kernel_rfl), fun _ _ _ _ _ _ _ us hl => match us, hl with | [_], _ => rfl⟩
theorem ok7 : RwOk G 60 r7 := ⟨by decide +kernel, rfl, rfl, by decide, by kernel_rfl, .inr rfl, kwb_none (by kernel_rfl), fun _ _ _ _ _ _ _ us hl => match us, hl with | [_], _ => rfl⟩
theorem ok8 : RwOk G 60 r8 := ⟨by decide +kernel, rfl, rfl, by decide, by kernel_rfl, .inr rfl, kwb_none (by kernel_rfl), fun _ _ _ _ _ _ _ us hl => match us, hl with | [_], _ => rfl⟩
theorem ok9 : RwOk G 60 r9 := ⟨by decide +kernel, rfl, rfl, by decide, by kernel_rfl, .inr rfl, kwb_some (np0 := 1) (shs0 := [([], [.inl 0, .inr (.int 1), .inr (.int 1)]), (["bottom"], [.inl 0, .inl 1, .inr (.int 1)]), (["bottom", "root"], [.inl 0, .inl 1, .inl 2]), (["root"], [.inl 0, .inr (.int 1), .inl 1]), (["root", "bottom"], [.inl 0, .inl 2, .inl 1])]) (by kernel_rfl) (by simp only [List.forall_mem_cons]; exact ⟨⟨rfl, [("bottom", .int 1), ("root", .int 1)], [0, 1, 2], ⟨by kernel_rfl, by simp [r9], .inr ⟨by simp [r9], fun _ _ _ _ _ _ us mv ws h1 h2 h3 => match us, mv, ws, h1, h2, h3 with | [_], [_, _], [], _, _, _ => ⟨_, _, _, _, _, _, rfl, rfl, ⟨_, _, _, _, _, _, rfl, rfl, rfl⟩⟩⟩⟩⟩, ⟨rfl, [("root", .int 1)], [0, 1, 2], ⟨by kernel_rfl, by simp [r9], .inr ⟨by simp [r9], fun _ _ _ _ _ _ us mv ws h1 h2 h3 => match us, mv, ws, h1, h2, h3 with | [_], [_], [_], _, _, _ => ⟨_, _, _, _, _, _, rfl, rfl, rfl⟩⟩⟩⟩, ⟨rfl, [], [0, 1, 2], ⟨by kernel_rfl, by simp [r9], .inr ⟨by simp [r9], fun _ _ _ _ _ _ us mv ws h1 h2 h3 => match us, mv, ws, h1, h2, h3 with | [_], [], [_, _], _, _, _ => rfl⟩⟩⟩, ⟨rfl, [("bottom", .int 1)], [0, 2, 1], ⟨by kernel_rfl, by simp [r9], .inr ⟨by simp [r9], fun _ _ _ _ _ _ us mv ws h1 h2 h3 => match us, mv, ws, h1, h2, h3 with | [_], [_], [_], _, _, _ => ⟨_, _, _, _, _, _, rfl, rfl, rfl⟩⟩⟩⟩, ⟨rfl, [], [0, 2, 1], ⟨by kernel_rfl, by simp [r9], .inr ⟨by simp [r9], fun _ _ _ _ _ _ us mv ws h1 h2 h3 => match us, mv, ws, h1, h2, h3 with | [_], [], [_, _], _, _, _ => rfl⟩⟩⟩, fun _ h => nomatch h⟩), bind_some (v := (1, [([], [.inl 0, .inr (.int 1), .inr (.int 1)]), (["bottom"], [.inl 0, .inl 1, .inr (.int 1)]), (["bottom", "root"], [.inl 0, .inl 1, .inl 2]), (["root"], [.inl 0, .inr (.int 1), .inl 1]), (["root", "bottom"], [.inl 0, .inl 2, .inl 1])])) (by kernel_rfl)⟩
theorem ok10 : RwOk G 60 r10 := ⟨by decide +kernel, rfl, rfl, by decide, by kernel_rfl, .inr rfl, kwb_none (by kernel_rfl), fun _ _ _ _ _ _ _ us hl => match us, hl with | [_], _ => rfl⟩
theorem ok11 : RwOk G 60 r11 := ⟨by decide +kernel, rfl, rfl, by decide, by kernel_rfl, .inr rfl, kwb_none (by kernel_rfl), fun _ _ _ _ _ _ _ us hl => match us, hl with | [_, _], _ => rfl⟩
theorem ok12 : RwOk G 60 r12 := ⟨by decide +kernel, rfl, rfl, by decide, by kernel_rfl, .inr rfl, kwb_none (by kernel_rfl), fun _ _ _ _ _ _ _ us hl => match us, hl with | [_, _], _ => rfl⟩
theorem ok13 : RwOk G 60 r13 := ⟨by decide +kernel, rfl, rfl, by decide, by kernel_rfl, .inr rfl, kwb_none (by kernel_rfl), fun _ _ _ _ _ _ _ us hl => match us, hl with | [_], _ => rfl⟩
theorem ok14 : RwOk G 60 r14 := ⟨by decide +kernel, rfl, rfl, by decide, by kernel_rfl, .inr rfl, kwb_none (by kernel_rfl), fun _ _ _ _ _ _ _ us hl => match us, hl with | [_, _, _], _ => rfl⟩
theorem ok15 : RwOk G 60 r15 := ⟨by decide +kernel, rfl, rfl, by decide, by kernel_rfl, .inr rfl, kwb_none (by kernel_rfl), fun _ _ _ _ _ _ _ us hl => match us, hl with | [_], _ => rfl⟩
theorem ok : ∀ r ∈ rs, RwOk G 60 r := by
  unfold rs
  simp only [List.forall_mem_cons]
  exact ⟨ok0, ok1, ok2, ok3, ok4, ok5, ok6, ok7, ok8, ok9, ok10, ok11, ok12, ok13, ok14, ok15, fun _ h => by cases h⟩
theorem okm16 : MwOk G 60 ⟨r16, "Exact", "__init__"⟩ := ⟨by decide +kernel, rfl, rfl, by decide, by kernel_rfl, fun _ _ _ _ _ _ us hl => match us, hl with | [_, _], _ => rfl⟩
theorem okm17 : MwOk G 60 ⟨r17, "Exact", "__eq__"⟩ := ⟨by decide +kernel, rfl, rfl, by decide, by kernel_rfl, fun _ _ _ _ _ _ us hl => match us, hl with | [_, _], _ => rfl⟩
theorem okm18 : MwOk G 60 ⟨r18, "Exact", "__str__"⟩ := ⟨by decide +kernel, rfl, rfl, by decide, by kernel_rfl, fun _ _ _ _ _ _ us hl => match us, hl with | [_], _ => rfl⟩
theorem okm19 : MwOk G 60 ⟨r19, "Exact", "__repr__"⟩ := ⟨by decide +kernel, rfl, rfl, by decide, by kernel_rfl, fun _ _ _ _ _ _ us hl => match us, hl with | [_], _ => rfl⟩
theorem okm : ∀ w ∈ ms, MwOk G 60 w := by
  unfold ms
  simp only [List.forall_mem_cons]
  exact ⟨okm16, okm17, okm18, okm19, fun _ h => by cases h⟩
theorem mtOk : mtB M ms = true := by kernel_rfl
def lo0 : List PySem.Str := ["TurnError", "NoNumber", "ByNought", "is_whole", "is_from", "GREATEST_ROOT", "PRIMES_BELOW", "ROOT_SIGN", "Exact", "part_text", "written", "common", "lowest_terms", "put_together", "powers_in", "without_squares", "exact", "_law_pen", "_law_draw", "_law_low", "_law_free", "_law_parts_due"]
def loose : List PySem.Str := lo0
theorem tnOk : ∀ r ∈ rs, r.md = 0 → r.x ∈ M.tn ∧ r.fn = r.x := by
  have h : (rs.all fun r => decide (r.md ≠ 0) || (M.tn.contains r.x && decide (r.fn = r.x))) = true := by kernel_rfl
  intro r hr h0
  have := List.all_eq_true.mp h r hr
  simp only [Bool.or_eq_true, Bool.and_eq_true, decide_eq_true_eq, List.contains_iff_mem] at this
  exact this.resolve_left (fun z => z h0)
theorem few : (allR rs ms).length < BB := by decide

abbrev R : PySem.W.OpenRow := PySem.W.OpenLaw.row PySem.Challenge.rw_turncouple_k01_numbers_made
abbrev hk : PySem.W.Hook := hookU 6 M (rs.map (·.x)) (rs.map Rw.d ++ ms.map Mw.d)
def ob (s : PySem.W.SharedT) : AlT := obsU 6 M (rs.map (·.x)) (rs.map Rw.d ++ ms.map Mw.d) (HandSHeadRun.getT s)
theorem ob_eq (s : PySem.W.SharedT) : ob s = hk.obs s.abs := obsU_eq (HandSHeadRun.getT_eq s)
theorem run (w : World) : HandSHeadRun.RunEq R (PySem.W.view R.prog [26]) hk ob 20000 loose w := by
  intro os
  kernel_rfl
theorem sdW : ∀ p ∈ M.sd, SaidW rs M p.1 p.2.1 p.2.2 := fun p h => nomatch h
end K01
end

section
set_option Elab.async false
set_option linter.all false
set_option maxRecDepth 100000
set_option maxHeartbeats 4000000
namespace K01
open PySem PySem.Spec PyProof.Rows L2 L2.T
abbrev cf (k : Nat) : CF := callF T 1000000 k
section
variable {k : Nat} {Q : Bool → D → List Sl → Prop} {X : XP}

theorem t0 : T 0 = some ⟨1, [], 1, ir0⟩ := by rfl
theorem w0 {s0 : Sl} (h : (evB T (cf k) 1000000 [] ir0 [s0]).wq (FinK 1 Q) (fun x ρ => Nf (ρ.take 1) (X x))) : wv (cf (k + 1) 0 [s0]) Q X := w_run (fd := ⟨1, [], 1, ir0⟩) t0 rfl (by decide) h
theorem t1 : T 1 = some ⟨3, [], 3, ir1⟩ := by rfl
theorem w1 {s0 s1 s2 : Sl} (h : (evB T (cf k) 1000000 [] ir1 [s0, s1, s2]).wq (FinK 3 Q) (fun x ρ => Nf (ρ.take 3) (X x))) : wv (cf (k + 1) 1 [s0, s1, s2]) Q X := w_run (fd := ⟨3, [], 3, ir1⟩) t1 rfl (by decide) h
theorem t2 : T 2 = some ⟨3, [], 4, ir2⟩ := by rfl
theorem w2 {s0 s1 s2 : Sl} (h : (evB T (cf k) 1000000 [] ir2 [s0, s1, s2, .un]).wq (FinK 3 Q) (fun x ρ => Nf (ρ.take 3) (X x))) : wv (cf (k + 1) 2 [s0, s1, s2]) Q X := w_run (fd := ⟨3, [], 4, ir2⟩) t2 rfl (by decide) h
theorem t3 : T 3 = some ⟨1, [], 6, ir3⟩ := by rfl
theorem w3 {s0 : Sl} (h : (evB T (cf k) 1000000 [] ir3 [s0, .un, .un, .un, .un, .un]).wq (FinK 1 Q) (fun x ρ => Nf (ρ.take 1) (X x))) : wv (cf (k + 1) 3 [s0]) Q X := w_run (fd := ⟨1, [], 6, ir3⟩) t3 rfl (by decide) h
theorem t4 : T 4 = some ⟨2, [], 2, ir4⟩ := by rfl
theorem w4 {s0 s1 : Sl} (h : (evB T (cf k) 1000000 [] ir4 [s0, s1]).wq (FinK 2 Q) (fun x ρ => Nf (ρ.take 2) (X x))) : wv (cf (k + 1) 4 [s0, s1]) Q X := w_run (fd := ⟨2, [], 2, ir4⟩) t4 rfl (by decide) h
theorem t5 : T 5 = some ⟨2, [], 3, ir5⟩ := by rfl
theorem w5 {s0 s1 : Sl} (h : (evB T (cf k) 1000000 [] ir5 [s0, s1, .un]).wq (FinK 2 Q) (fun x ρ => Nf (ρ.take 2) (X x))) : wv (cf (k + 1) 5 [s0, s1]) Q X := w_run (fd := ⟨2, [], 3, ir5⟩) t5 rfl (by decide) h
theorem t6 : T 6 = some ⟨1, [], 8, ir6⟩ := by rfl
theorem w6 {s0 : Sl} (h : (evB T (cf k) 1000000 [] ir6 [s0, .un, .un, .un, .un, .un, .un, .un]).wq (FinK 1 Q) (fun x ρ => Nf (ρ.take 1) (X x))) : wv (cf (k + 1) 6 [s0]) Q X := w_run (fd := ⟨1, [], 8, ir6⟩) t6 rfl (by decide) h
theorem t7 : T 7 = some ⟨1, [], 4, ir7⟩ := by rfl
theorem w7 {s0 : Sl} (h : (evB T (cf k) 1000000 [] ir7 [s0, .un, .un, .un]).wq (FinK 1 Q) (fun x ρ => Nf (ρ.take 1) (X x))) : wv (cf (k + 1) 7 [s0]) Q X := w_run (fd := ⟨1, [], 4, ir7⟩) t7 rfl (by decide) h
theorem t8 : T 8 = some ⟨1, [], 8, ir8⟩ := by rfl
theorem w8 {s0 : Sl} (h : (evB T (cf k) 1000000 [] ir8 [s0, .un, .un, .un, .un, .un, .un, .un]).wq (FinK 1 Q) (fun x ρ => Nf (ρ.take 1) (X x))) : wv (cf (k + 1) 8 [s0]) Q X := w_run (fd := ⟨1, [], 8, ir8⟩) t8 rfl (by decide) h
theorem t9 : T 9 = some ⟨3, [], 4, ir9⟩ := by rfl
theorem w9 {s0 s1 s2 : Sl} (h : (evB T (cf k) 1000000 [] ir9 [s0, s1, s2, .un]).wq (FinK 3 Q) (fun x ρ => Nf (ρ.take 3) (X x))) : wv (cf (k + 1) 9 [s0, s1, s2]) Q X := w_run (fd := ⟨3, [], 4, ir9⟩) t9 rfl (by decide) h
theorem t10 : T 10 = some ⟨1, [], 1, ir10⟩ := by rfl
theorem w10 {s0 : Sl} (h : (evB T (cf k) 1000000 [] ir10 [s0]).wq (FinK 1 Q) (fun x ρ => Nf (ρ.take 1) (X x))) : wv (cf (k + 1) 10 [s0]) Q X := w_run (fd := ⟨1, [], 1, ir10⟩) t10 rfl (by decide) h
theorem t11 : T 11 = some ⟨2, [0], 6, ir11⟩ := by rfl
theorem w11 {s0 s1 : Sl} (h : (evB T (cf k) 1000000 [0] ir11 [s0, s1, .un, .un, .un, .un]).wq (FinK 2 Q) (fun x ρ => Nf (ρ.take 2) (X x))) : wv (cf (k + 1) 11 [s0, s1]) Q X := w_run (fd := ⟨2, [0], 6, ir11⟩) t11 rfl (by decide) h
theorem t12 : T 12 = some ⟨2, [], 4, ir12⟩ := by rfl
theorem w12 {s0 s1 : Sl} (h : (evB T (cf k) 1000000 [] ir12 [s0, s1, .un, .un]).wq (FinK 2 Q) (fun x ρ => Nf (ρ.take 2) (X x))) : wv (cf (k + 1) 12 [s0, s1]) Q X := w_run (fd := ⟨2, [], 4, ir12⟩) t12 rfl (by decide) h
theorem t13 : T 13 = some ⟨1, [], 3, ir13⟩ := by rfl
theorem w13 {s0 : Sl} (h : (evB T (cf k) 1000000 [] ir13 [s0, .un, .un]).wq (FinK 1 Q) (fun x ρ => Nf (ρ.take 1) (X x))) : wv (cf (k + 1) 13 [s0]) Q X := w_run (fd := ⟨1, [], 3, ir13⟩) t13 rfl (by decide) h
theorem t14 : T 14 = some ⟨3, [], 5, ir14⟩ := by rfl
theorem w14 {s0 s1 s2 : Sl} (h : (evB T (cf k) 1000000 [] ir14 [s0, s1, s2, .un, .un]).wq (FinK 3 Q) (fun x ρ => Nf (ρ.take 3) (X x))) : wv (cf (k + 1) 14 [s0, s1, s2]) Q X := w_run (fd := ⟨3, [], 5, ir14⟩) t14 rfl (by decide) h
theorem t15 : T 15 = some ⟨1, [], 11, ir15⟩ := by rfl
theorem w15 {s0 : Sl} (h : (evB T (cf k) 1000000 [] ir15 [s0, .un, .un, .un, .un, .un, .un, .un, .un, .un, .un]).wq (FinK 1 Q) (fun x ρ => Nf (ρ.take 1) (X x))) : wv (cf (k + 1) 15 [s0]) Q X := w_run (fd := ⟨1, [], 11, ir15⟩) t15 rfl (by decide) h
theorem t16 : T 16 = some ⟨2, [0], 2, ir16⟩ := by rfl
theorem w16 {s0 s1 : Sl} (h : (evB T (cf k) 1000000 [0] ir16 [s0, s1]).wq (FinK 2 Q) (fun x ρ => Nf (ρ.take 2) (X x))) : wv (cf (k + 1) 16 [s0, s1]) Q X := w_run (fd := ⟨2, [0], 2, ir16⟩) t16 rfl (by decide) h
theorem t17 : T 17 = some ⟨2, [], 2, ir17⟩ := by rfl
theorem w17 {s0 s1 : Sl} (h : (evB T (cf k) 1000000 [] ir17 [s0, s1]).wq (FinK 2 Q) (fun x ρ => Nf (ρ.take 2) (X x))) : wv (cf (k + 1) 17 [s0, s1]) Q X := w_run (fd := ⟨2, [], 2, ir17⟩) t17 rfl (by decide) h
theorem t18 : T 18 = some ⟨1, [], 1, ir18⟩ := by rfl
theorem w18 {s0 : Sl} (h : (evB T (cf k) 1000000 [] ir18 [s0]).wq (FinK 1 Q) (fun x ρ => Nf (ρ.take 1) (X x))) : wv (cf (k + 1) 18 [s0]) Q X := w_run (fd := ⟨1, [], 1, ir18⟩) t18 rfl (by decide) h
theorem t19 : T 19 = some ⟨1, [], 1, ir19⟩ := by rfl
theorem w19 {s0 : Sl} (h : (evB T (cf k) 1000000 [] ir19 [s0]).wq (FinK 1 Q) (fun x ρ => Nf (ρ.take 1) (X x))) : wv (cf (k + 1) 19 [s0]) Q X := w_run (fd := ⟨1, [], 1, ir19⟩) t19 rfl (by decide) h
end
end K01
end

section
set_option Elab.async false
set_option linter.all false
set_option maxRecDepth 100000
set_option maxHeartbeats 4000000
namespace L2.T.Sq
/-- how many steps the greatest common divisor takes -/
def es (a b : Nat) : Nat := if h : b = 0 then 0 else 1 + es b (a % b)
termination_by b
decreasing_by exact Nat.mod_lt _ (Nat.pos_of_ne_zero h)
theorem es_zero (a : Nat) : es a 0 = 0 := by unfold es; rw [dif_pos rfl]
theorem es_pos {a b : Nat} (h : b ≠ 0) : es a b = 1 + es b (a % b) := by rw [es, dif_neg h]
theorem es_le : ∀ (m a b : Nat), b < 2 ^ m → es a b ≤ 2 * m
  | 0, a, b, h => by
    have e : b = 0 := by simpa using h
    rw [e, es_zero]
    exact Nat.zero_le _
  | m + 1, a, b, h => by
    by_cases h0 : b = 0
    · rw [h0, es_zero]; exact Nat.zero_le _
    · rw [es_pos h0]
      by_cases h1 : a % b = 0
      · rw [h1, es_zero]; omega
      · rw [es_pos h1]
        have l1 : a % b < b := Nat.mod_lt _ (Nat.pos_of_ne_zero h0)
        have l2 : b % (a % b) < a % b := Nat.mod_lt _ (Nat.pos_of_ne_zero h1)
        have l3 : b % (a % b) + a % b ≤ b := by
          have := Nat.mod_add_div b (a % b)
          have q1 : 1 ≤ b / (a % b) := (Nat.le_div_iff_mul_le (Nat.pos_of_ne_zero h1)).mpr (by omega)
          have q2 : a % b ≤ (a % b) * (b / (a % b)) := Nat.le_mul_of_pos_right _ q1
          omega
        have l4 : b % (a % b) < 2 ^ m := by rw [Nat.pow_succ] at h; omega
        have := es_le m (a % b) (b % (a % b)) l4
        omega
theorem b_absN {i : Int} : bfn "abs" [.int i] = some (false, .int (i.natAbs : Int)) := by
  rw [b_abs]
  congr 3
  split <;> omega
theorem b_fdiv {i j : Int} (h : divOk j = true) : bop .FloorDiv (.int i) (.int j) = some (false, .int (i.fdiv j)) := by
  simp only [bop, h, if_true]
theorem b_mulB {m n : Nat} {i j : Int} (h : Bi m i) (g : Bi n j) (l : m + n < 1000000) : bop .Mult (.int i) (.int j) = some (false, .int (i * j)) := by
  simp only [bop, mulOk_bd h g l, if_true]
theorem nat_mod (a b : Nat) : (a : Int) % (b : Int) = ((a % b : Nat) : Int) := by omega
end L2.T.Sq
namespace K01
open PySem PySem.Spec PyProof.Rows L2 L2.T L2.T.Sq
section
variable {k j m : Nat} {a b : Nat} {t u : Int} {Q : Bool → D → List Sl → Prop} {X : XP}
theorem common_ok (h : b < 2 ^ 9000) : cf (k + 1) 4 [.sh (.int (a : Int)), .sh (.int (b : Int))] = .ok (false, .int ((a.gcd b : Nat) : Int)) [.sh (.int ((a.gcd b : Nat) : Int)), .sh (.int 0)] := by
  apply wv_eq
  apply w4
  unfold ir4
  with_reducible apply ws_cons
  with_reducible apply ws_whl
  refine ww_inv (fun n ρ => ∃ c d : Nat, ρ = [.sh (.int (c : Int)), .sh (.int (d : Int))] ∧ c.gcd d = a.gcd b ∧ n = es c d) (n := es a b) ?_ ?_ ⟨a, b, rfl, rfl, rfl⟩
  · rintro n ρ ⟨c, d, rfl, hg, rfl⟩
    by_cases hd : d = 0
    · subst hd
      have e : c = a.gcd b := by rw [← hg]; exact (Nat.gcd_zero_right c).symm
      subst e
      (with_reducible apply w_tru)
      (with_reducible apply w_cmp)
      ((with_reducible apply wo_vs); exact rfl)
      ((with_reducible apply wo_e); exact rfl)
      (with_reducible apply w_c)
      ((with_reducible apply gr_sh); exact rfl)
      (with_reducible apply gr_val)
      (with_reducible refine get_some c_gt ?_)
      (with_reducible apply gt_bl)
      (with_reducible refine br_df (by omega) ?_)
      (with_reducible apply sq_nx)
      (with_reducible apply ws_cons)
      (with_reducible apply ws_ret)
      ((with_reducible apply w_vs); exact rfl)
      (with_reducible apply sq_rt)
      (with_reducible apply fin_rt)
      (with_reducible refine nf (by simp only [List.take_succ_cons, List.take_zero, List.take_nil]; exact rfl) ?_)
      exact ⟨rfl, rfl, rfl⟩
    · have hd' : (0 : Int) < d := by omega
      (with_reducible apply w_tru)
      (with_reducible apply w_cmp)
      ((with_reducible apply wo_vs); exact rfl)
      ((with_reducible apply wo_e); exact rfl)
      (with_reducible apply w_c)
      ((with_reducible apply gr_sh); exact rfl)
      (with_reducible apply gr_val)
      (with_reducible refine get_some c_gt ?_)
      (with_reducible apply gt_bl)
      (with_reducible refine br_dt (by omega) ?_)
      (with_reducible apply ws_cons)
      (with_reducible apply ws_par)
      (with_reducible apply wy_cons)
      ((with_reducible apply w_vs); exact rfl)
      (with_reducible apply wy_cons)
      (with_reducible apply w_bin)
      ((with_reducible apply wo_vs); exact rfl)
      ((with_reducible apply wo_vs); exact rfl)
      ((with_reducible apply gr_sh); exact rfl)
      ((with_reducible apply gr_sh); exact rfl)
      (with_reducible refine getv_some (b_modE (by omega)) ?_)
      (with_reducible apply wy_nil)
      ((with_reducible apply gp_sh); exact rfl)
      (with_reducible refine nf (by simp only [List.set_cons_zero, List.set_cons_succ]; exact rfl) ?_)
      ((with_reducible apply gp_sh); exact rfl)
      (with_reducible refine nf (by simp only [List.set_cons_zero, List.set_cons_succ]; exact rfl) ?_)
      (with_reducible apply gp_nil)
      (with_reducible apply sq_nx)
      (with_reducible apply ws_nil)
      (with_reducible apply lp_nx)
      refine ⟨es d (c % d), by rw [es_pos hd]; omega, d, c % d, by rw [nat_mod], ?_, rfl⟩
      rw [← hg, Nat.gcd_comm d, ← Nat.gcd_rec, Nat.gcd_comm]
  · have := es_le 9000 a b h
    omega
theorem low_ok (h : u ≠ 0) (hb : Bi 9000 u) : cf (k + 2) 5 [.sh (.int t), .sh (.int u)] = .ok (false, qD (Rat.divInt t u)) [.sh (.int t), .sh (.int u)] := by
  have hn : u.natAbs < 2 ^ 9000 := hb
  have gp : 0 < t.natAbs.gcd u.natAbs := Nat.gcd_pos_of_pos_right _ (by omega)
  have gl : t.natAbs.gcd u.natAbs ≤ u.natAbs := Nat.gcd_le_right _ (by omega)
  have ok1 : divOk ((t.natAbs.gcd u.natAbs : Nat) : Int) = true := divOk_bd (m := 9000) (by omega) (by unfold Bi; rw [Int.natAbs_natCast]; omega) (Nat.le_refl _)
  have ok2 : divOk (-((t.natAbs.gcd u.natAbs : Nat) : Int)) = true := divOk_bd (m := 9000) (by omega) (by unfold Bi; rw [Int.natAbs_neg, Int.natAbs_natCast]; omega) (Nat.le_refl _)
  apply wv_eq
  apply w5
  unfold ir5
  by_cases hs : u < 0
  · (with_reducible apply ws_cons)
    (with_reducible apply ws_asg)
    (with_reducible apply w_call)
    (with_reducible apply wl_cons)
    ((with_reducible apply wo_e); exact rfl)
    (with_reducible apply w_bi)
    (with_reducible apply wl_cons)
    ((with_reducible apply wo_vs); exact rfl)
    (with_reducible apply wl_nil)
    (with_reducible apply grl_cons)
    ((with_reducible apply gr_sh); exact rfl)
    (with_reducible apply grl_nil)
    (with_reducible refine getv_some b_absN ?_)
    (with_reducible apply wl_cons)
    ((with_reducible apply wo_e); exact rfl)
    (with_reducible apply w_bi)
    (with_reducible apply wl_cons)
    ((with_reducible apply wo_vs); exact rfl)
    (with_reducible apply wl_nil)
    (with_reducible apply grl_cons)
    ((with_reducible apply gr_sh); exact rfl)
    (with_reducible apply grl_nil)
    (with_reducible refine getv_some b_absN ?_)
    (with_reducible apply wl_nil)
    ((with_reducible apply w_cop); exact rfl; exact rfl)
    (with_reducible apply wv_ok (common_ok ‹_›))
    (with_reducible refine nf (by simp only [List.set_cons_zero, List.set_cons_succ, argsOut]; exact rfl) ?_)
    ((with_reducible apply ga_sh); exact rfl)
    (with_reducible refine nf (by simp only [List.set_cons_zero, List.set_cons_succ]; exact rfl) ?_)
    (with_reducible apply sq_nx)
    (with_reducible apply ws_cons)
    (with_reducible apply ws_ite)
    (with_reducible apply w_tru)
    (with_reducible apply w_cmp)
    ((with_reducible apply wo_vs); exact rfl)
    ((with_reducible apply wo_e); exact rfl)
    (with_reducible apply w_c)
    ((with_reducible apply gr_sh); exact rfl)
    (with_reducible apply gr_val)
    (with_reducible refine get_some c_lt ?_)
    (with_reducible apply gt_bl)
    (with_reducible refine br_dt (by omega) ?_)
    (with_reducible apply ws_cons)
    (with_reducible apply ws_asg)
    (with_reducible apply w_neg)
    ((with_reducible apply wo_vs); exact rfl)
    ((with_reducible apply gr_sh); exact rfl)
    (with_reducible apply isI)
    ((with_reducible apply ga_sh); exact rfl)
    (with_reducible refine nf (by simp only [List.set_cons_zero, List.set_cons_succ]; exact rfl) ?_)
    (with_reducible apply sq_nx)
    (with_reducible apply ws_nil)
    (with_reducible apply sq_nx)
    (with_reducible apply ws_cons)
    (with_reducible apply ws_ret)
    (with_reducible apply w_tup)
    (with_reducible apply wl_cons)
    ((with_reducible apply wo_e); exact rfl)
    (with_reducible apply w_bin)
    ((with_reducible apply wo_vs); exact rfl)
    ((with_reducible apply wo_vs); exact rfl)
    ((with_reducible apply gr_sh); exact rfl)
    ((with_reducible apply gr_sh); exact rfl)
    (with_reducible refine getv_some (b_fdiv ok2) ?_)
    (with_reducible apply wl_cons)
    ((with_reducible apply wo_e); exact rfl)
    (with_reducible apply w_bin)
    ((with_reducible apply wo_vs); exact rfl)
    ((with_reducible apply wo_vs); exact rfl)
    ((with_reducible apply gr_sh); exact rfl)
    ((with_reducible apply gr_sh); exact rfl)
    (with_reducible refine getv_some (b_fdiv ok2) ?_)
    (with_reducible apply wl_nil)
    (with_reducible apply gfl_cons)
    (with_reducible apply gf_val)
    (with_reducible apply gfl_cons)
    (with_reducible apply gf_val)
    (with_reducible apply gfl_nil)
    ((with_reducible apply len_ok rfl); exact Nat.le_of_ble_eq_true rfl)
    (with_reducible apply sq_rt)
    (with_reducible apply fin_rt)
    (with_reducible refine nf (by simp only [List.take_succ_cons, List.take_zero, List.take_nil]; exact rfl) ?_)
    rw [(low_neg hs).1, (low_neg hs).2]
    exact ⟨rfl, rfl, rfl⟩
  · have hp : 0 < u := by omega
    (with_reducible apply ws_cons)
    (with_reducible apply ws_asg)
    (with_reducible apply w_call)
    (with_reducible apply wl_cons)
    ((with_reducible apply wo_e); exact rfl)
    (with_reducible apply w_bi)
    (with_reducible apply wl_cons)
    ((with_reducible apply wo_vs); exact rfl)
    (with_reducible apply wl_nil)
    (with_reducible apply grl_cons)
    ((with_reducible apply gr_sh); exact rfl)
    (with_reducible apply grl_nil)
    (with_reducible refine getv_some b_absN ?_)
    (with_reducible apply wl_cons)
    ((with_reducible apply wo_e); exact rfl)
    (with_reducible apply w_bi)
    (with_reducible apply wl_cons)
    ((with_reducible apply wo_vs); exact rfl)
    (with_reducible apply wl_nil)
    (with_reducible apply grl_cons)
    ((with_reducible apply gr_sh); exact rfl)
    (with_reducible apply grl_nil)
    (with_reducible refine getv_some b_absN ?_)
    (with_reducible apply wl_nil)
    ((with_reducible apply w_cop); exact rfl; exact rfl)
    (with_reducible apply wv_ok (common_ok ‹_›))
    (with_reducible refine nf (by simp only [List.set_cons_zero, List.set_cons_succ, argsOut]; exact rfl) ?_)
    ((with_reducible apply ga_sh); exact rfl)
    (with_reducible refine nf (by simp only [List.set_cons_zero, List.set_cons_succ]; exact rfl) ?_)
    (with_reducible apply sq_nx)
    (with_reducible apply ws_cons)
    (with_reducible apply ws_ite)
    (with_reducible apply w_tru)
    (with_reducible apply w_cmp)
    ((with_reducible apply wo_vs); exact rfl)
    ((with_reducible apply wo_e); exact rfl)
    (with_reducible apply w_c)
    ((with_reducible apply gr_sh); exact rfl)
    (with_reducible apply gr_val)
    (with_reducible refine get_some c_lt ?_)
    (with_reducible apply gt_bl)
    (with_reducible refine br_df (by omega) ?_)
    (with_reducible apply ws_nil)
    (with_reducible apply sq_nx)
    (with_reducible apply ws_cons)
    (with_reducible apply ws_ret)
    (with_reducible apply w_tup)
    (with_reducible apply wl_cons)
    ((with_reducible apply wo_e); exact rfl)
    (with_reducible apply w_bin)
    ((with_reducible apply wo_vs); exact rfl)
    ((with_reducible apply wo_vs); exact rfl)
    ((with_reducible apply gr_sh); exact rfl)
    ((with_reducible apply gr_sh); exact rfl)
    (with_reducible refine getv_some (b_fdiv ok1) ?_)
    (with_reducible apply wl_cons)
    ((with_reducible apply wo_e); exact rfl)
    (with_reducible apply w_bin)
    ((with_reducible apply wo_vs); exact rfl)
    ((with_reducible apply wo_vs); exact rfl)
    ((with_reducible apply gr_sh); exact rfl)
    ((with_reducible apply gr_sh); exact rfl)
    (with_reducible refine getv_some (b_fdiv ok1) ?_)
    (with_reducible apply wl_nil)
    (with_reducible apply gfl_cons)
    (with_reducible apply gf_val)
    (with_reducible apply gfl_cons)
    (with_reducible apply gf_val)
    (with_reducible apply gfl_nil)
    ((with_reducible apply len_ok rfl); exact Nat.le_of_ble_eq_true rfl)
    (with_reducible apply sq_rt)
    (with_reducible apply fin_rt)
    (with_reducible refine nf (by simp only [List.take_succ_cons, List.take_zero, List.take_nil]; exact rfl) ?_)
    rw [(low_pos hp).1, (low_pos hp).2]
    exact ⟨rfl, rfl, rfl⟩
end
end K01
end

section
set_option Elab.async false
set_option linter.all false
set_option maxRecDepth 100000
set_option maxHeartbeats 4000000
namespace K01
open PySem PySem.Spec PyProof.Rows L2 L2.T L2.T.Sq
section
variable {k j m M : Nat} {t u : Int} {d : D} {Q : Bool → D → List Sl → Prop} {X : XP}
theorem init_ok : cf (k + 2) 1000016 [.ow (.ins 0 []), .sh d] = .ok (false, .non) [.ow (.ins 0 [d]), .sh d] := by
  show callF T 1000000 (k + 1 + 1) (16 + BB) _ = _
  rw [callF_one (by decide)]
  apply wv_eq
  apply w16
  unfold ir16
  (with_reducible apply ws_cons)
  (with_reducible apply ws_fset)
  ((with_reducible apply wo_vs); exact rfl)
  ((with_reducible apply gf_sh); exact rfl)
  ((with_reducible apply go_ow); exact rfl)
  (with_reducible apply isN)
  ((with_reducible apply isT); exact rfl)
  (with_reducible refine nf (by simp only [List.set_cons_zero, List.set_cons_succ]; exact rfl) ?_)
  (with_reducible apply sq_nx)
  (with_reducible apply ws_nil)
  (with_reducible apply fin_nx)
  (with_reducible refine nf (by simp only [List.take_succ_cons, List.take_zero, List.take_nil]; exact rfl) ?_)
  exact ⟨rfl, rfl, rfl⟩
theorem eq_ok {s t : Sm} : cf (k + 4) 1000017 [.sh (exD s), .sh (exD t)] = .ok (false, .bl (decide (s = t))) [.sh (exD s), .sh (exD t)] := by
  show callF T 1000000 (k + 3 + 1) (17 + BB) _ = _
  rw [callF_one (by decide)]
  apply wv_eq
  apply w17
  unfold ir17
  (with_reducible apply ws_cons)
  (with_reducible apply ws_ret)
  (with_reducible apply w_and)
  (with_reducible apply w_isxI)
  ((with_reducible apply wo_vs); exact rfl)
  ((with_reducible apply gr_sh); exact rfl)
  (with_reducible apply cx_ex)
  (with_reducible apply isb)
  (with_reducible apply br_t)
  (with_reducible apply w_cmpx callF_d)
  ((with_reducible apply wo_e); exact rfl)
  (with_reducible apply w_fld)
  ((with_reducible apply wo_vs); exact rfl)
  ((with_reducible apply gr_sh); exact rfl)
  (with_reducible apply isN_ex)
  ((with_reducible apply get_some); exact rfl)
  ((with_reducible apply wo_e); exact rfl)
  (with_reducible apply w_fld)
  ((with_reducible apply wo_vs); exact rfl)
  ((with_reducible apply gr_sh); exact rfl)
  (with_reducible apply isN_ex)
  ((with_reducible apply get_some); exact rfl)
  (with_reducible apply gr_val)
  (with_reducible apply cx_parts)
  (with_reducible apply gr_val)
  (with_reducible refine get_some eq_partsX ?_)
  (with_reducible apply sq_rt)
  (with_reducible apply fin_rt)
  (with_reducible refine nf (by simp only [List.take_succ_cons, List.take_zero, List.take_nil]; exact rfl) ?_)
  exact ⟨rfl, rfl, rfl⟩
theorem put_any {rows : List RwT} {pv : D} (hi : itD pv = some (rows.map rowD)) (hr : RowsOk M rows) (hM : M ≤ 4400) : cf (k + 3) 6 [.sh pv] = .ok (false, exD (nrm (rows.map rwQ))) [.sh pv] := by
  apply wv_eq
  apply w6
  unfold ir6
  (with_reducible apply ws_cons)
  (with_reducible apply ws_asg)
  (with_reducible apply w_dk0)
  ((with_reducible apply ga_ow); exact rfl)
  (with_reducible refine nf (by simp only [List.set_cons_zero, List.set_cons_succ]; exact rfl) ?_)
  (with_reducible apply sq_nx)
  (with_reducible apply ws_cons)
  (with_reducible apply ws_for)
  ((with_reducible apply w_vs); exact rfl)
  (with_reducible refine get_some hi ?_)
  refine wf_inv (fun ds ρ => ∃ pre rest s2 s3 s4 s5 s6, rows = pre ++ rest ∧ ds = rest.map rowD ∧ (s2 = .un ∨ ∃ d, s2 = .sh d) ∧ ρ = [.sh pv, .ow (dkD (acc (pre.map rwQ))), s2, s3, s4, s5, s6, .un]) ⟨[], rows, .un, .un, .un, .un, .un, rfl, rfl, .inl rfl, rfl⟩ ?_ ?_
  · rintro d ds ρ - ⟨pre, rest, s2, s3, s4, s5, s6, hrs, hds, hs2, rfl⟩
    cases rest with
    | nil => cases hds
    | cons x rest =>
      rw [List.map_cons] at hds
      obtain ⟨rfl, rfl⟩ := List.cons.inj hds
      obtain ⟨r, t, b⟩ := x
      have hx : (r, t, b) ∈ rows := by rw [hrs]; exact List.mem_append.mpr (.inr List.mem_cons_self)
      have nb : b ≠ 0 := hr.nz _ hx
      have bt : Bi M t := hr.up _ hx
      have bb : Bi M b := hr.un _ hx
      have hs : BdS M (pre.map rwQ) := by
        have h := hr.pre pre.length
        rwa [hrs, List.map_append, List.take_left' (by rw [List.length_map])] at h
      have hlen : (acc (pre.map rwQ)).length < 1000 := by
        have h1 := acc_len' (pre.map rwQ)
        have h2 := hr.len
        rw [List.length_map] at h1
        rw [hrs, List.length_append, List.length_cons] at h2
        omega
      have hq : Bd M ((valA (acc (pre.map rwQ)) r).getD 0) := by
        rw [sm_val (acc_nd _), acc_sm]
        exact hs r
      have hap : acc ((pre ++ [(r, t, b)]).map rwQ) = put (acc (pre.map rwQ)) r ((valA (acc (pre.map rwQ)) r).getD 0 + Rat.divInt t b) := by
        rw [List.map_append]
        exact acc_app _ _
      have hd0 : (((valA (acc (pre.map rwQ)) r).getD 0).den : Int) * b ≠ 0 := Int.mul_ne_zero (den_ne _) nb
      have hd1 : Bi 9000 ((((valA (acc (pre.map rwQ)) r).getD 0).den : Int) * b) := (hq.2.mul bb).mono (by omega)
      have lw := low_ok (k := k) (t := ((valA (acc (pre.map rwQ)) r).getD 0).num * b + t * (((valA (acc (pre.map rwQ)) r).getD 0).den : Int)) hd0 hd1
      rw [step_low nb] at lw
      have hg : meD "get" (dkD (acc (pre.map rwQ))) [.int r, .tup [.int 0, .int 1]] = some (qD ((valA (acc (pre.map rwQ)) r).getD 0)) := get_kv (q := 0)
      have hset := set_kv (s := acc (pre.map rwQ)) (r := r) (q := (valA (acc (pre.map rwQ)) r).getD 0 + Rat.divInt t b) (by omega)
      rw [← hap] at hset
      generalize (valA (acc (pre.map rwQ)) r).getD 0 = q at *
      have hq1 : Bi M q.num := hq.1
      have hq2 : Bi M (q.den : Int) := hq.2
      (with_reducible apply ga_row)
      (with_reducible apply gas_cons)
      ((with_reducible apply ga_sh); exact rfl)
      (with_reducible refine nf (by simp only [List.set_cons_zero, List.set_cons_succ]; exact rfl) ?_)
      (with_reducible apply gas_cons)
      ((with_reducible apply ga_sh); exact rfl)
      (with_reducible refine nf (by simp only [List.set_cons_zero, List.set_cons_succ]; exact rfl) ?_)
      (with_reducible apply gas_cons)
      ((with_reducible apply ga_sh); exact rfl)
      (with_reducible refine nf (by simp only [List.set_cons_zero, List.set_cons_succ]; exact rfl) ?_)
      (with_reducible apply gas_nil)
      (with_reducible apply ws_cons)
      (with_reducible apply ws_asg)
      (with_reducible apply w_me)
      ((with_reducible apply wo_vo); exact rfl)
      ((with_reducible apply gr_ow); exact rfl)
      ((with_reducible apply isT); exact rfl)
      (with_reducible apply wl_cons)
      ((with_reducible apply wo_vs); exact rfl)
      (with_reducible apply wl_cons)
      ((with_reducible apply wo_e); exact rfl)
      (with_reducible apply w_tup)
      (with_reducible apply wl_cons)
      ((with_reducible apply wo_e); exact rfl)
      (with_reducible apply w_c)
      (with_reducible apply wl_cons)
      ((with_reducible apply wo_e); exact rfl)
      (with_reducible apply w_c)
      (with_reducible apply wl_nil)
      (with_reducible apply gfl_cons)
      (with_reducible apply gf_val)
      (with_reducible apply gfl_cons)
      (with_reducible apply gf_val)
      (with_reducible apply gfl_nil)
      ((with_reducible apply len_ok rfl); exact Nat.le_of_ble_eq_true rfl)
      (with_reducible apply wl_nil)
      (with_reducible apply gfl_cons)
      ((with_reducible apply gf_sh); exact rfl)
      (with_reducible apply gfl_cons)
      (with_reducible apply gf_val)
      (with_reducible apply gfl_nil)
      ((with_reducible apply gr_ow); exact rfl)
      (with_reducible refine get_some hg ?_)
      (with_reducible apply ga_q)
      (with_reducible apply gas_cons)
      ((with_reducible apply ga_sh); exact rfl)
      (with_reducible refine nf (by simp only [List.set_cons_zero, List.set_cons_succ]; exact rfl) ?_)
      (with_reducible apply gas_cons)
      ((with_reducible apply ga_sh); exact rfl)
      (with_reducible refine nf (by simp only [List.set_cons_zero, List.set_cons_succ]; exact rfl) ?_)
      (with_reducible apply gas_nil)
      (with_reducible apply sq_nx)
      (with_reducible apply ws_cons)
      ((with_reducible apply ws_six); exact rfl)
      ((with_reducible apply wo_e); exact rfl)
      (with_reducible apply w_call)
      (with_reducible apply wl_cons)
      ((with_reducible apply wo_e); exact rfl)
      (with_reducible apply w_bin)
      ((with_reducible apply wo_e); exact rfl)
      (with_reducible apply w_bin)
      ((with_reducible apply wo_vs); exact rfl)
      ((with_reducible apply wo_vs); exact rfl)
      ((with_reducible apply gr_sh); exact rfl)
      ((with_reducible apply gr_sh); exact rfl)
      (with_reducible refine getv_some (b_mulB hq1 bb (by omega)) ?_)
      ((with_reducible apply wo_e); exact rfl)
      (with_reducible apply w_bin)
      ((with_reducible apply wo_vs); exact rfl)
      ((with_reducible apply wo_vs); exact rfl)
      ((with_reducible apply gr_sh); exact rfl)
      ((with_reducible apply gr_sh); exact rfl)
      (with_reducible refine getv_some (b_mulB bt hq2 (by omega)) ?_)
      (with_reducible apply gr_val)
      (with_reducible apply gr_val)
      (with_reducible refine getv_some b_add ?_)
      (with_reducible apply wl_cons)
      ((with_reducible apply wo_e); exact rfl)
      (with_reducible apply w_bin)
      ((with_reducible apply wo_vs); exact rfl)
      ((with_reducible apply wo_vs); exact rfl)
      ((with_reducible apply gr_sh); exact rfl)
      ((with_reducible apply gr_sh); exact rfl)
      (with_reducible refine getv_some (b_mulB hq2 bb (by omega)) ?_)
      (with_reducible apply wl_nil)
      ((with_reducible apply w_cop); exact rfl; exact rfl)
      (with_reducible apply wv_ok lw)
      (with_reducible refine nf (by simp only [List.set_cons_zero, List.set_cons_succ, argsOut]; exact rfl) ?_)
      ((with_reducible apply wo_vs); exact rfl)
      (with_reducible apply gf_val)
      ((with_reducible apply gr_sh); exact rfl)
      ((with_reducible apply go_ow); exact rfl)
      (with_reducible refine get_some hset ?_)
      (with_reducible refine nf (by simp only [List.set_cons_zero, List.set_cons_succ]; exact rfl) ?_)
      (with_reducible apply sq_nx)
      (with_reducible apply ws_nil)
      (with_reducible apply lp_nx)
      exact ⟨pre ++ [(r, t, b)], rest, _, _, _, _, _, by rw [hrs, List.append_assoc]; rfl, rfl, .inr ⟨_, rfl⟩, rfl⟩
  · rintro ρ ⟨pre, rest, s2, s3, s4, s5, s6, hrs, hds, hs2, rfl⟩
    have e : rest = [] := by cases rest with
      | nil => rfl
      | cons _ _ => cases hds
    subst e
    rw [List.append_nil] at hrs
    subst hrs
    have hlen : (acc (rows.map rwQ)).length ≤ 1000 := by
      have h1 := acc_len' (rows.map rwQ)
      have h2 := hr.len
      rw [List.length_map] at h1
      omega
    have hf : ∀ {A : D → Prop}, A (exD (nrm (rows.map rwQ))) → A (.ins 0 [.tup ((fin (acc (rows.map rwQ))).map partD)]) := fun h => h
    generalize hS : acc (rows.map rwQ) = S at hlen hf ⊢
    (with_reducible apply sq_nx)
    (with_reducible apply ws_cons)
    (with_reducible apply ws_ret)
    (with_reducible apply w_mk callF_d)
    (with_reducible apply wl_cons)
    ((with_reducible apply wo_e); exact rfl)
    (with_reducible apply w_bi)
    (with_reducible apply wl_cons)
    ((with_reducible apply wo_e); exact rfl)
    (with_reducible refine w_lcAny (pickD S) ?_)
    (with_reducible apply w_bi)
    (with_reducible apply wl_cons)
    ((with_reducible apply wo_vo); exact rfl)
    (with_reducible apply wl_nil)
    (with_reducible apply grl_cons)
    ((with_reducible apply gr_ow); exact rfl)
    (with_reducible apply grl_nil)
    (with_reducible refine getv_some (sort_kv hlen) ?_)
    ((with_reducible apply get_some); exact rfl)
    have no : noOwn [7, 2] [Sl.sh pv, Sl.ow (dkD S), s2, s3, s4, s5, s6, Sl.un] = true := by
      rcases hs2 with rfl | ⟨d, rfl⟩ <;> rfl
    refine ⟨no, by rw [List.length_map, (sortI_perm _).length_eq, List.length_map, sizeLine_eq]; omega, nf rfl ⟨?_, ?_⟩⟩
    · intro d hd
      obtain ⟨n, hn, rfl⟩ := List.mem_map.mp hd
      obtain ⟨q, hq⟩ := val_key ((sortI_perm _).mem_iff.mp hn)
      have hx : ixD (dkD S) (.int n) = some (qD q) := by rw [ix_kv, hq]; rfl
      by_cases h0 : q = 0
      · have hp : pickD S (.int n) = none := by
          show (pick S n).map partD = none
          unfold L2.T.Sq.pick
          rw [hq]
          simp only [if_pos h0]
          rfl
        have hz : q.num = 0 := by rw [h0]; rfl
        ((with_reducible apply ga_sh); exact rfl)
        (with_reducible refine nf (by simp (disch := decide) only [wipeS, restore, wipe_t, wipe_f, wipe_n, rest_t, rest_f, rest_n]; exact rfl) ?_)
        (with_reducible apply wt_cons)
        (with_reducible apply w_tru)
        (with_reducible apply w_cmpx callF_d)
        ((with_reducible apply wo_e); exact rfl)
        (with_reducible apply w_idx)
        ((with_reducible apply wo_e); exact rfl)
        (with_reducible apply w_idx)
        ((with_reducible apply wo_vo); exact rfl)
        ((with_reducible apply wo_vs); exact rfl)
        ((with_reducible apply gr_ow); exact rfl)
        ((with_reducible apply gr_sh); exact rfl)
        (with_reducible refine get_some hx ?_)
        ((with_reducible apply wo_e); exact rfl)
        (with_reducible apply w_c)
        (with_reducible apply gr_val)
        (with_reducible apply gr_val)
        (with_reducible refine get_some ix_q0 ?_)
        ((with_reducible apply wo_e); exact rfl)
        (with_reducible apply w_c)
        (with_reducible apply gr_val)
        (with_reducible apply cx_int)
        (with_reducible apply gr_val)
        (with_reducible refine get_some c_neX ?_)
        (with_reducible apply gt_bl)
        (with_reducible apply br_not)
        (with_reducible refine br_dt (by omega) ?_)
        (with_reducible apply br_f)
        exact ⟨hp, rfl⟩
      · have hp : pickD S (.int n) = some (partD (n, q)) := by
          show (pick S n).map partD = some _
          unfold L2.T.Sq.pick
          rw [hq]
          simp only [if_neg h0]
          rfl
        have hz : q.num ≠ 0 := fun e => h0 (Rat.num_eq_zero.mp e)
        ((with_reducible apply ga_sh); exact rfl)
        (with_reducible refine nf (by simp (disch := decide) only [wipeS, restore, wipe_t, wipe_f, wipe_n, rest_t, rest_f, rest_n]; exact rfl) ?_)
        (with_reducible apply wt_cons)
        (with_reducible apply w_tru)
        (with_reducible apply w_cmpx callF_d)
        ((with_reducible apply wo_e); exact rfl)
        (with_reducible apply w_idx)
        ((with_reducible apply wo_e); exact rfl)
        (with_reducible apply w_idx)
        ((with_reducible apply wo_vo); exact rfl)
        ((with_reducible apply wo_vs); exact rfl)
        ((with_reducible apply gr_ow); exact rfl)
        ((with_reducible apply gr_sh); exact rfl)
        (with_reducible refine get_some hx ?_)
        ((with_reducible apply wo_e); exact rfl)
        (with_reducible apply w_c)
        (with_reducible apply gr_val)
        (with_reducible apply gr_val)
        (with_reducible refine get_some ix_q0 ?_)
        ((with_reducible apply wo_e); exact rfl)
        (with_reducible apply w_c)
        (with_reducible apply gr_val)
        (with_reducible apply cx_int)
        (with_reducible apply gr_val)
        (with_reducible refine get_some c_neX ?_)
        (with_reducible apply gt_bl)
        (with_reducible apply br_not)
        (with_reducible refine br_df (by omega) ?_)
        (with_reducible apply wt_nil)
        (with_reducible apply br_t)
        (with_reducible apply w_bin)
        ((with_reducible apply wo_e); exact rfl)
        (with_reducible apply w_tup)
        (with_reducible apply wl_cons)
        ((with_reducible apply wo_vs); exact rfl)
        (with_reducible apply wl_nil)
        (with_reducible apply gfl_cons)
        ((with_reducible apply gf_sh); exact rfl)
        (with_reducible apply gfl_nil)
        ((with_reducible apply len_ok rfl); exact Nat.le_of_ble_eq_true rfl)
        ((with_reducible apply wo_e); exact rfl)
        (with_reducible apply w_idx)
        ((with_reducible apply wo_vo); exact rfl)
        ((with_reducible apply wo_vs); exact rfl)
        ((with_reducible apply gr_ow); exact rfl)
        ((with_reducible apply gr_sh); exact rfl)
        (with_reducible refine get_some hx ?_)
        (with_reducible apply gr_val)
        (with_reducible apply gr_val)
        (with_reducible refine getv_some cat_q ?_)
        exact ⟨hp, rfl⟩
    · rw [pick_all]
      (with_reducible apply wl_nil)
      (with_reducible apply grl_cons)
      (with_reducible apply gr_val)
      (with_reducible apply grl_nil)
      ((with_reducible apply getv_some); exact rfl)
      (with_reducible apply wl_nil)
      (with_reducible apply gfl_cons)
      (with_reducible apply gf_val)
      (with_reducible apply gfl_nil)
      (with_reducible refine nf (by simp only [List.map_cons, List.map_nil]; exact rfl) ?_)
      (with_reducible apply wv_ok init_ok)
      (with_reducible apply mkq)
      (with_reducible apply sq_rt)
      (with_reducible apply fin_rt)
      (with_reducible refine nf (by simp only [List.take_succ_cons, List.take_zero, List.take_nil]; exact rfl) ?_)
      refine ⟨rfl, ?_, rfl⟩
      rw [← hS]
      rfl
end
end K01
end

section
set_option Elab.async false
set_option linter.all false
set_option maxRecDepth 100000
set_option maxHeartbeats 4000000
namespace L2.T.Sq
open PySem PySem.Spec PyProof.Rows
/-! ### squares taken out of a number -/
def ct (p : Nat) : Nat → Nat → Nat × Nat
  | 0, n => (0, n)
  | f + 1, n => if n % p = 0 then (match ct p f (n / p) with
    | (a, b) => (a + 1, b)) else (0, n)
def pws : Nat → Nat → Nat → List (Nat × Nat) × Nat
  | 0, _, n => ([], n)
  | f + 1, p, n => if n ≤ 1 then ([], n) else (match ct p 21 n with
    | (0, m) => pws f (p + 1) m
    | (c + 1, m) => (match pws f (p + 1) m with
      | (l, r) => ((p, c + 1) :: l, r)))
def wsq : List (Nat × Nat) → Nat → Nat → Nat × Nat
  | [], a, c => (a, c)
  | (p, e) :: l, a, c => wsq l (a * p ^ (e / 2)) (if e % 2 = 1 then c * p else c)
def ctq (p : Nat) : Nat → Nat → Nat → Nat × Nat
  | 0, n, s => (s, n)
  | f + 1, n, s => if n % (p * p) = 0 then ctq p f (n / (p * p)) (s * p) else (s, n)
def frr : Nat → Nat → Nat → Nat → Nat × Nat
  | 0, _, n, s => (s, n)
  | f + 1, p, n, s => if p * p ≤ n then (match ctq p 21 n s with
    | (t, m) => frr f (p + 1) m t) else (s, n)
def goodR (r : Nat) : Bool := match pws 998 2 r with
  | (l, n) => decide (n = 1) && ((l.all fun x => decide (x.1 < 1000) && decide (x.2 ≤ 20)) && (decide (l.length < 1000) && (match frr 1000 2 r 1 with
    | (s, m) => decide (wsq l 1 1 = (s, m)) && (decide (0 < s) && (decide (s ≤ 1000) && (decide (0 < m) && decide (m ≤ 1000000)))))))
theorem good_sp : ∀ r ∈ [1, 4, 12, 997, 997 * 997, 2 ^ 19, 510510, 720720, 1000000, 30 * 30 * 7], goodR r = true := by decide +kernel
theorem good_all : ∀ r ∈ List.range 901, (r == 0 || goodR r) = true := List.all_eq_true.mp (by decide +kernel)
/-- both ends of one reckoning -/
structure GoodR (r a c : Nat) : Prop where
  p0 : (pws 998 2 r).2 = 1
  p1 : ∀ x ∈ (pws 998 2 r).1, x.1 < 1000 ∧ x.2 ≤ 20
  p2 : (pws 998 2 r).1.length < 1000
  w : wsq (pws 998 2 r).1 1 1 = (a, c)
  f : frr 1000 2 r 1 = (a, c)
  a0 : 0 < a
  a1 : a ≤ 1000
  c0 : 0 < c
  c1 : c ≤ 1000000
theorem goodR_of {r : Nat} (h : goodR r = true) : ∃ a c, GoodR r a c := by
  unfold goodR at h
  generalize hp : pws 998 2 r = q at h
  obtain ⟨l, n⟩ := q
  generalize hf : frr 1000 2 r 1 = q at h
  obtain ⟨s, m⟩ := q
  simp only [Bool.and_eq_true, decide_eq_true_eq, List.all_eq_true] at h
  obtain ⟨h1, h2, h3, h4, h5, h6, h7, h8⟩ := h
  exact ⟨s, m, by rw [hp]; exact h1, by rw [hp]; exact h2, by rw [hp]; exact h3, by rw [hp]; exact h4, hf, h5, h6, h7, h8⟩
theorem ct_le {p : Nat} : ∀ f n, (ct p f n).2 ≤ n
  | 0, n => Nat.le_refl _
  | f + 1, n => by
    unfold ct
    split
    · exact Nat.le_trans (ct_le f (n / p)) (Nat.div_le_self _ _)
    · exact Nat.le_refl _
end L2.T.Sq
namespace K01
open PySem PySem.Spec PyProof.Rows L2 L2.T L2.T.Sq
section
variable {k j m n m' n' M : Nat} {t u b : Int} {d : D} {s z : Sm} {Q : Bool → D → List Sl → Prop} {X : XP} {K : Fl → List Sl → Prop}
theorem mod_nat {v c : Nat} (h : 0 < c) : bop .Mod (.int (v : Int)) (.int (c : Int)) = some (false, .int ((v % c : Nat) : Int)) := by
  rw [b_modE (by omega), Int.natCast_emod]
theorem div_nat {v c : Nat} (h : 0 < c) (h2 : c < 10000000) : bop .FloorDiv (.int (v : Int)) (.int (c : Int)) = some (false, .int ((v / c : Nat) : Int)) := by
  rw [b_divE (by omega) (by omega), Int.natCast_ediv]
theorem aug_div {a p : Nat} (h : 0 < p) (h2 : p < 1000) : augD .FloorDiv (.int (a : Int)) (.int (p : Int)) = some (.int ((a / p : Nat) : Int)) := by
  have : augD .FloorDiv (.int (a : Int)) (.int (p : Int)) = (if divOk (p : Int) = true then some ((a : Int).fdiv p) else none).map D.int := rfl
  rw [this, if_pos (div_pos (by omega) (by omega)), Int.fdiv_eq_ediv_of_nonneg _ (by omega), Option.map_some, Int.natCast_ediv]
theorem aug_add {a b : Int} : augD .Add (.int a) (.int b) = some (.int (a + b)) := rfl
def pD (x : Nat × Nat) : D := .tup [.int (x.1 : Int), .int (x.2 : Int)]
theorem aug_mul {m n : Nat} {a b : Int} (h : Bi m a) (g : Bi n b) (l : m + n < 1000000) : augD .Mult (.int a) (.int b) = some (.int (a * b)) := by
  show (augI .Mult a b).map D.int = _
  simp only [augI, mulOk_bd h g l, if_true, Option.map_some]
theorem app_pD {l : List (Nat × Nat)} {x y : Nat} {K : D → Bool → D → Prop} (hl : l.length < 1000) (h : K (.lst ((l ++ [(x, y)]).map pD)) false .non) : GetM (mmD "append" (.lst (l.map pD)) [.tup [.int (x : Int), .int (y : Int)]]) K := by
  refine gm_app (n := l.length) (by rw [List.length_map]) (by omega) (nf (b := (l ++ [(x, y)]).map pD) ?_ h)
  rw [List.map_append]
  rfl
theorem pws_one {g p n : Nat} (h : n ≤ 1) : pws g p n = ([], n) := by
  cases g with
  | zero => rfl
  | succ g => rw [pws, if_pos h]
theorem pws_no {g p n m : Nat} (h : 1 < n) (e : ct p 21 n = (0, m)) : pws (g + 1) p n = pws g (p + 1) m := by
  rw [pws, if_neg (by omega), e]
theorem pws_yes {g p n m c : Nat} (h : 1 < n) (e : ct p 21 n = (c + 1, m)) : pws (g + 1) p n = ((p, c + 1) :: (pws g (p + 1) m).1, (pws g (p + 1) m).2) := by
  rw [pws, if_neg (by omega), e]
/-- powers_in -/
theorem pwin_ok {n : Nat} (h0 : 0 < n) (h : n < 2 ^ 20) : cf (k + 3) 7 [.sh (.int (n : Int))] = .ok (false, .tup [.lst ((pws 998 2 n).1.map pD), .int ((pws 998 2 n).2 : Int)]) [.sh (.int ((pws 998 2 n).2 : Int))] := by
  generalize hF : (pws 998 2 n).1 = F
  generalize hN : (pws 998 2 n).2 = N
  apply wv_eq
  apply w7
  unfold ir7
  (with_reducible apply ws_cons)
  (with_reducible apply ws_asg)
  (with_reducible apply w_lst)
  (with_reducible apply wl_nil)
  (with_reducible apply gfl_nil)
  ((with_reducible apply len_ok rfl); exact Nat.le_of_ble_eq_true rfl)
  ((with_reducible apply ga_ow); exact rfl)
  (with_reducible refine nf (by simp only [List.set_cons_zero, List.set_cons_succ]; exact rfl) ?_)
  (with_reducible apply sq_nx)
  (with_reducible apply ws_cons)
  (with_reducible apply ws_asg)
  (with_reducible apply w_c)
  ((with_reducible apply ga_sh); exact rfl)
  (with_reducible refine nf (by simp only [List.set_cons_zero, List.set_cons_succ]; exact rfl) ?_)
  (with_reducible apply sq_nx)
  (with_reducible apply ws_cons)
  (with_reducible apply ws_whl)
  refine ww_inv (fun g ρ => ∃ (n p : Nat) (pre : List (Nat × Nat)) (s3 : Sl), ρ = [.sh (.int (n : Int)), .ow (.lst (pre.map pD)), .sh (.int (p : Int)), s3] ∧ 0 < n ∧ n < 2 ^ 20 ∧ 2 ≤ p ∧ p + g = 1000 ∧ pre.length + 2 ≤ p ∧ pre ++ (pws g p n).1 = F ∧ (pws g p n).2 = N) (n := 998) ?_ ?_ ⟨n, 2, [], .un, rfl, h0, h, by omega, by omega, by simp, by rw [List.nil_append]; exact hF, hN⟩
  · rintro g ρ ⟨n, p, pre, s3, rfl, n0, n1, p2, pg, pl, eF, eN⟩
    by_cases hp : p < 1000
    · by_cases hn : 1 < n
      · obtain ⟨g, rfl⟩ : ∃ g', g = g' + 1 := ⟨g - 1, by omega⟩
        (with_reducible apply w_tru)
        (with_reducible apply w_and)
        (with_reducible apply w_cmp)
        ((with_reducible apply wo_vs); exact rfl)
        ((with_reducible apply wo_e); exact rfl)
        (with_reducible apply w_c)
        ((with_reducible apply gr_sh); exact rfl)
        (with_reducible apply gr_val)
        (with_reducible refine get_some c_lt ?_)
        (with_reducible apply isb)
        (with_reducible refine br_dt (by omega) ?_)
        (with_reducible apply w_cmp)
        ((with_reducible apply wo_vs); exact rfl)
        ((with_reducible apply wo_e); exact rfl)
        (with_reducible apply w_c)
        ((with_reducible apply gr_sh); exact rfl)
        (with_reducible apply gr_val)
        (with_reducible refine get_some c_gt ?_)
        (with_reducible apply gt_bl)
        (with_reducible refine br_dt (by omega) ?_)
        (with_reducible apply ws_cons)
        (with_reducible apply ws_asg)
        (with_reducible apply w_c)
        ((with_reducible apply ga_sh); exact rfl)
        (with_reducible refine nf (by simp only [List.set_cons_zero, List.set_cons_succ]; exact rfl) ?_)
        (with_reducible apply sq_nx)
        (with_reducible apply ws_cons)
        (with_reducible apply ws_whl)
        refine ww_inv (fun f ρ => ∃ (m c : Nat), ρ = [.sh (.int (m : Int)), .ow (.lst (pre.map pD)), .sh (.int (p : Int)), .sh (.int (c : Int))] ∧ 0 < m ∧ m < 2 ^ f ∧ f ≤ 20 ∧ c + (ct p (f + 1) m).1 = (ct p 21 n).1 ∧ (ct p (f + 1) m).2 = (ct p 21 n).2) (n := 20) ?_ (by omega) ⟨n, 0, rfl, n0, n1, by omega, by rw [Nat.zero_add], rfl⟩
        · rintro f ρ ⟨m, c, rfl, m0, m1, f1, e1, e2⟩
          by_cases hm : m % p = 0
          · have hmod := mod_nat (v := m) (c := p) (by omega)
            rw [hm] at hmod
            have hdv := aug_div (a := m) (p := p) (by omega) hp
            have fp : ∃ f', f = f' + 1 := by
              cases f with
              | zero => exact absurd m1 (by omega)
              | succ f => exact ⟨f, rfl⟩
            obtain ⟨f, rfl⟩ := fp
            (with_reducible apply w_tru)
            (with_reducible apply w_cmpx callF_d)
            ((with_reducible apply wo_e); exact rfl)
            (with_reducible apply w_bin)
            ((with_reducible apply wo_vs); exact rfl)
            ((with_reducible apply wo_vs); exact rfl)
            ((with_reducible apply gr_sh); exact rfl)
            ((with_reducible apply gr_sh); exact rfl)
            (with_reducible refine getv_some hmod ?_)
            ((with_reducible apply wo_e); exact rfl)
            (with_reducible apply w_c)
            (with_reducible apply gr_val)
            (with_reducible apply cx_int)
            (with_reducible apply gr_val)
            (with_reducible refine get_some c_eqX ?_)
            (with_reducible apply gt_bl)
            (with_reducible refine br_dt (by omega) ?_)
            (with_reducible apply ws_cons)
            (with_reducible apply ws_aug)
            ((with_reducible apply wo_vs); exact rfl)
            ((with_reducible apply wo_vs); exact rfl)
            ((with_reducible apply gr_sh); exact rfl)
            ((with_reducible apply gr_sh); exact rfl)
            (with_reducible refine get_some hdv ?_)
            ((with_reducible apply ga_sh); exact rfl)
            (with_reducible refine nf (by simp only [List.set_cons_zero, List.set_cons_succ]; exact rfl) ?_)
            (with_reducible apply sq_nx)
            (with_reducible apply ws_cons)
            (with_reducible apply ws_aug)
            ((with_reducible apply wo_vs); exact rfl)
            ((with_reducible apply wo_e); exact rfl)
            (with_reducible apply w_c)
            ((with_reducible apply gr_sh); exact rfl)
            (with_reducible apply gr_val)
            (with_reducible refine get_some aug_add ?_)
            ((with_reducible apply ga_sh); exact rfl)
            (with_reducible refine nf (by simp only [List.set_cons_zero, List.set_cons_succ]; exact rfl) ?_)
            (with_reducible apply sq_nx)
            (with_reducible apply ws_nil)
            (with_reducible apply lp_nx)
            have hle : p ≤ m := Nat.le_of_dvd m0 (Nat.dvd_of_mod_eq_zero hm)
            have e3 : ct p (f + 1 + 1) m = ((ct p (f + 1) (m / p)).1 + 1, (ct p (f + 1) (m / p)).2) := by
              rw [ct, if_pos hm]
            rw [e3] at e1 e2
            refine ⟨f, by omega, m / p, c + 1, rfl, Nat.div_pos hle (by omega), ?_, by omega, by rw [← e1]; simp only; omega, e2⟩
            rw [Nat.div_lt_iff_lt_mul (by omega)]
            have : 2 ^ (f + 1) = 2 ^ f * 2 := Nat.pow_succ ..
            have h2 : 2 ^ f * 2 ≤ 2 ^ f * p := Nat.mul_le_mul_left _ p2
            omega
          · have hmod := mod_nat (v := m) (c := p) (by omega)
            have e3 : ct p (f + 1) m = (0, m) := by
              rw [ct, if_neg hm]
            rw [e3] at e1 e2
            have e1 : c = (ct p 21 n).1 := e1
            have e2 : m = (ct p 21 n).2 := e2
            have m2 : m < 2 ^ 20 := by
              have := ct_le (p := p) 21 n
              omega
            generalize m % p = w at hmod hm
            by_cases hc : c = 0
            · subst hc
              have ec : ct p 21 n = (0, m) := Prod.ext e1.symm e2.symm
              rw [pws_no hn ec] at eF eN
              (with_reducible apply w_tru)
              (with_reducible apply w_cmpx callF_d)
              ((with_reducible apply wo_e); exact rfl)
              (with_reducible apply w_bin)
              ((with_reducible apply wo_vs); exact rfl)
              ((with_reducible apply wo_vs); exact rfl)
              ((with_reducible apply gr_sh); exact rfl)
              ((with_reducible apply gr_sh); exact rfl)
              (with_reducible refine getv_some hmod ?_)
              ((with_reducible apply wo_e); exact rfl)
              (with_reducible apply w_c)
              (with_reducible apply gr_val)
              (with_reducible apply cx_int)
              (with_reducible apply gr_val)
              (with_reducible refine get_some c_eqX ?_)
              (with_reducible apply gt_bl)
              (with_reducible refine br_df (by omega) ?_)
              (with_reducible apply sq_nx)
              (with_reducible apply ws_cons)
              (with_reducible apply ws_ite)
              (with_reducible apply w_tru)
              (with_reducible apply w_cmp)
              ((with_reducible apply wo_vs); exact rfl)
              ((with_reducible apply wo_e); exact rfl)
              (with_reducible apply w_c)
              ((with_reducible apply gr_sh); exact rfl)
              (with_reducible apply gr_val)
              (with_reducible refine get_some c_gt ?_)
              (with_reducible apply gt_bl)
              (with_reducible refine br_df (by omega) ?_)
              (with_reducible apply ws_nil)
              (with_reducible apply sq_nx)
              (with_reducible apply ws_cons)
              (with_reducible apply ws_aug)
              ((with_reducible apply wo_vs); exact rfl)
              ((with_reducible apply wo_e); exact rfl)
              (with_reducible apply w_c)
              ((with_reducible apply gr_sh); exact rfl)
              (with_reducible apply gr_val)
              (with_reducible refine get_some aug_add ?_)
              ((with_reducible apply ga_sh); exact rfl)
              (with_reducible refine nf (by simp only [List.set_cons_zero, List.set_cons_succ]; exact rfl) ?_)
              (with_reducible apply sq_nx)
              (with_reducible apply ws_nil)
              (with_reducible apply lp_nx)
              exact ⟨g, by omega, m, p + 1, pre, _, rfl, m0, m2, by omega, by omega, by omega, eF, eN⟩
            · obtain ⟨c, rfl⟩ : ∃ c', c = c' + 1 := ⟨c - 1, by omega⟩
              have ec : ct p 21 n = (c + 1, m) := Prod.ext e1.symm e2.symm
              rw [pws_yes hn ec] at eF eN
              (with_reducible apply w_tru)
              (with_reducible apply w_cmpx callF_d)
              ((with_reducible apply wo_e); exact rfl)
              (with_reducible apply w_bin)
              ((with_reducible apply wo_vs); exact rfl)
              ((with_reducible apply wo_vs); exact rfl)
              ((with_reducible apply gr_sh); exact rfl)
              ((with_reducible apply gr_sh); exact rfl)
              (with_reducible refine getv_some hmod ?_)
              ((with_reducible apply wo_e); exact rfl)
              (with_reducible apply w_c)
              (with_reducible apply gr_val)
              (with_reducible apply cx_int)
              (with_reducible apply gr_val)
              (with_reducible refine get_some c_eqX ?_)
              (with_reducible apply gt_bl)
              (with_reducible refine br_df (by omega) ?_)
              (with_reducible apply sq_nx)
              (with_reducible apply ws_cons)
              (with_reducible apply ws_ite)
              (with_reducible apply w_tru)
              (with_reducible apply w_cmp)
              ((with_reducible apply wo_vs); exact rfl)
              ((with_reducible apply wo_e); exact rfl)
              (with_reducible apply w_c)
              ((with_reducible apply gr_sh); exact rfl)
              (with_reducible apply gr_val)
              (with_reducible refine get_some c_gt ?_)
              (with_reducible apply gt_bl)
              (with_reducible refine br_dt (by omega) ?_)
              (with_reducible apply ws_cons)
              (with_reducible apply ws_ex)
              ((with_reducible apply w_mm); exact rfl)
              (with_reducible apply wl_cons)
              ((with_reducible apply wo_e); exact rfl)
              (with_reducible apply w_tup)
              (with_reducible apply wl_cons)
              ((with_reducible apply wo_vs); exact rfl)
              (with_reducible apply wl_cons)
              ((with_reducible apply wo_vs); exact rfl)
              (with_reducible apply wl_nil)
              (with_reducible apply gfl_cons)
              ((with_reducible apply gf_sh); exact rfl)
              (with_reducible apply gfl_cons)
              ((with_reducible apply gf_sh); exact rfl)
              (with_reducible apply gfl_nil)
              ((with_reducible apply len_ok rfl); exact Nat.le_of_ble_eq_true rfl)
              (with_reducible apply wl_nil)
              (with_reducible apply gfl_cons)
              (with_reducible apply gf_val)
              (with_reducible apply gfl_nil)
              ((with_reducible apply go_ow); exact rfl)
              (with_reducible refine app_pD (by omega) ?_)
              (with_reducible refine nf (by simp only [List.set_cons_zero, List.set_cons_succ]; exact rfl) ?_)
              (with_reducible apply sq_nx)
              (with_reducible apply ws_nil)
              (with_reducible apply sq_nx)
              (with_reducible apply ws_cons)
              (with_reducible apply ws_aug)
              ((with_reducible apply wo_vs); exact rfl)
              ((with_reducible apply wo_e); exact rfl)
              (with_reducible apply w_c)
              ((with_reducible apply gr_sh); exact rfl)
              (with_reducible apply gr_val)
              (with_reducible refine get_some aug_add ?_)
              ((with_reducible apply ga_sh); exact rfl)
              (with_reducible refine nf (by simp only [List.set_cons_zero, List.set_cons_succ]; exact rfl) ?_)
              (with_reducible apply sq_nx)
              (with_reducible apply ws_nil)
              (with_reducible apply lp_nx)
              exact ⟨g, by omega, m, p + 1, pre ++ [(p, c + 1)], _, rfl, m0, m2, by omega, by omega, by rw [List.length_append]; simp only [List.length_cons, List.length_nil]; omega, by rw [List.append_assoc]; exact eF, eN⟩
      · have e3 := pws_one (g := g) (p := p) (n := n) (by omega)
        rw [e3] at eF eN
        rw [List.append_nil] at eF
        subst eF eN
        (with_reducible apply w_tru)
        (with_reducible apply w_and)
        (with_reducible apply w_cmp)
        ((with_reducible apply wo_vs); exact rfl)
        ((with_reducible apply wo_e); exact rfl)
        (with_reducible apply w_c)
        ((with_reducible apply gr_sh); exact rfl)
        (with_reducible apply gr_val)
        (with_reducible refine get_some c_lt ?_)
        (with_reducible apply isb)
        (with_reducible refine br_dt (by omega) ?_)
        (with_reducible apply w_cmp)
        ((with_reducible apply wo_vs); exact rfl)
        ((with_reducible apply wo_e); exact rfl)
        (with_reducible apply w_c)
        ((with_reducible apply gr_sh); exact rfl)
        (with_reducible apply gr_val)
        (with_reducible refine get_some c_gt ?_)
        (with_reducible apply gt_bl)
        (with_reducible refine br_df (by omega) ?_)
        (with_reducible apply sq_nx)
        (with_reducible apply ws_cons)
        (with_reducible apply ws_ret)
        (with_reducible apply w_tup)
        (with_reducible apply wl_cons)
        ((with_reducible apply wo_vo); exact rfl)
        (with_reducible apply wl_cons)
        ((with_reducible apply wo_vs); exact rfl)
        (with_reducible apply wl_nil)
        (with_reducible apply gfl_cons)
        ((with_reducible apply gf_ow); exact rfl)
        (with_reducible refine nf (by simp only [List.set_cons_zero, List.set_cons_succ]; exact rfl) ?_)
        (with_reducible apply gfl_cons)
        ((with_reducible apply gf_sh); exact rfl)
        (with_reducible apply gfl_nil)
        ((with_reducible apply len_ok rfl); exact Nat.le_of_ble_eq_true rfl)
        (with_reducible apply sq_rt)
        (with_reducible apply fin_rt)
        (with_reducible refine nf (by simp only [List.take_succ_cons, List.take_zero, List.take_nil]; exact rfl) ?_)
        exact ⟨rfl, rfl, rfl⟩
    · have hg : g = 0 := by omega
      subst hg
      have e3 : pws 0 p n = ([], n) := rfl
      rw [e3] at eF eN
      rw [List.append_nil] at eF
      subst eF eN
      (with_reducible apply w_tru)
      (with_reducible apply w_and)
      (with_reducible apply w_cmp)
      ((with_reducible apply wo_vs); exact rfl)
      ((with_reducible apply wo_e); exact rfl)
      (with_reducible apply w_c)
      ((with_reducible apply gr_sh); exact rfl)
      (with_reducible apply gr_val)
      (with_reducible refine get_some c_lt ?_)
      (with_reducible apply isb)
      (with_reducible refine br_df (by omega) ?_)
      (with_reducible apply gt_bl)
      (with_reducible apply br_f)
      (with_reducible apply sq_nx)
      (with_reducible apply ws_cons)
      (with_reducible apply ws_ret)
      (with_reducible apply w_tup)
      (with_reducible apply wl_cons)
      ((with_reducible apply wo_vo); exact rfl)
      (with_reducible apply wl_cons)
      ((with_reducible apply wo_vs); exact rfl)
      (with_reducible apply wl_nil)
      (with_reducible apply gfl_cons)
      ((with_reducible apply gf_ow); exact rfl)
      (with_reducible refine nf (by simp only [List.set_cons_zero, List.set_cons_succ]; exact rfl) ?_)
      (with_reducible apply gfl_cons)
      ((with_reducible apply gf_sh); exact rfl)
      (with_reducible apply gfl_nil)
      ((with_reducible apply len_ok rfl); exact Nat.le_of_ble_eq_true rfl)
      (with_reducible apply sq_rt)
      (with_reducible apply fin_rt)
      (with_reducible refine nf (by simp only [List.take_succ_cons, List.take_zero, List.take_nil]; exact rfl) ?_)
      exact ⟨rfl, rfl, rfl⟩
  · omega
end
end K01
end

section
set_option Elab.async false
set_option linter.all false
set_option maxRecDepth 100000
set_option maxHeartbeats 4000000
namespace K01
open PySem PySem.Spec PyProof.Rows L2 L2.T L2.T.Sq
section
variable {k j m n m' n' M : Nat} {t u b : Int} {d : D} {s z : Sm} {Q : Bool → D → List Sl → Prop} {X : XP} {K : Fl → List Sl → Prop}
theorem natBi {m x : Nat} (h : x < 2 ^ m) : Bi m (x : Int) := by
  unfold Bi
  rw [Int.natAbs_natCast]
  exact h
theorem b1000 {p : Nat} (h : p < 1000) : p < 2 ^ 10 := by
  have : (2 : Nat) ^ 10 = 1024 := rfl
  omega
theorem mul_lt2 {m n x y : Nat} (h : x < 2 ^ m) (g : y < 2 ^ n) : x * y < 2 ^ (m + n) := by
  rw [Nat.pow_add]
  exact Nat.mul_lt_mul'' h g
theorem pow10 {p e : Nat} (h : p < 1000) (he : e ≤ 10) : p ^ e < 2 ^ 101 := by
  have h1 : p ^ e ≤ (2 ^ 10) ^ e := Nat.pow_le_pow_left (by have := b1000 h; omega) _
  rw [← Nat.pow_mul] at h1
  have h2 : (2 : Nat) ^ (10 * e) ≤ 2 ^ 100 := Nat.pow_le_pow_right (by omega) (by omega)
  have h3 : (2 : Nat) ^ 100 < 2 ^ 101 := Nat.pow_lt_pow_right (by omega) (by omega)
  omega
/-- the inner turns: a prime many times -/
theorem aheadI {s0 s1 s2 s4 : Sl} {p : Nat} (hp : p < 1000) {K : Fl → List Sl → Prop} : ∀ (l : List D) (a B : Nat) (s7 : Sl), a < 2 ^ B → B + 10 * l.length < 900000 → (∀ s7, K .nx [s0, s1, s2, .sh (.int ((a * p ^ l.length : Nat) : Int)), s4, .sh (.int (p : Int)), e6, s7]) → (forGo [] (.nm 7) (evB T (cf k) 1000000 [] (.cons (.aug .Mult 3 (.v 5)) .nil)) l [s0, s1, s2, .sh (.int (a : Int)), s4, .sh (.int (p : Int)), e6, s7]).wq K X
  | [], a, B, s7, ha, hB, q => wf_nil (by
    have := q s7
    rw [List.length_nil, Nat.pow_zero, Nat.mul_one] at this
    exact this)
  | d :: l, a, B, s7, ha, hB, q => by
    rw [List.length_cons] at hB
    have hm := aug_mul (natBi ha) (natBi (b1000 hp)) (by omega)
    refine wf_cons (ga_sh rfl (nf (b := [s0, s1, s2, .sh (.int (a : Int)), s4, .sh (.int (p : Int)), e6, .sh d]) rfl ?_))
    (with_reducible apply ws_cons)
    (with_reducible apply ws_aug)
    ((with_reducible apply wo_vs); exact rfl)
    ((with_reducible apply wo_vs); exact rfl)
    ((with_reducible apply gr_sh); exact rfl)
    ((with_reducible apply gr_sh); exact rfl)
    (with_reducible refine get_some hm ?_)
    ((with_reducible apply ga_sh); exact rfl)
    (with_reducible refine nf (by simp only [List.set_cons_zero, List.set_cons_succ]; exact rfl) ?_)
    (with_reducible apply sq_nx)
    (with_reducible apply ws_nil)
    (with_reducible apply lp_nx)
    rw [← Int.natCast_mul]
    refine aheadI hp l (a * p) (B + 10) (.sh d) (mul_lt2 ha (b1000 hp)) (by omega) fun s7 => ?_
    have := q s7
    rw [List.length_cons, Nat.pow_succ', ← Nat.mul_assoc] at this
    exact this
theorem wsq_ok {r a c : Nat} (h : GoodR r a c) (r0 : 0 < r) (r1 : r < 2 ^ 20) : cf (k + 4) 8 [.sh (.int (r : Int))] = .ok (false, .tup [.int (a : Int), .int (c : Int)]) [.sh (.int (r : Int))] := by
  have hw := pwin_ok (k := k) r0 r1
  rw [h.p0] at hw
  have h1 := h.p1
  have h2 := h.p2
  have h3 := h.w
  generalize (pws 998 2 r).1 = F at *
  apply wv_eq
  apply w8
  unfold ir8
  (with_reducible apply ws_cons)
  (with_reducible apply ws_asg)
  (with_reducible apply w_call)
  (with_reducible apply wl_cons)
  ((with_reducible apply wo_vs); exact rfl)
  (with_reducible apply wl_nil)
  ((with_reducible apply w_cop); exact rfl; exact rfl)
  (with_reducible apply wv_ok hw)
  (with_reducible refine nf (by simp only [List.set_cons_zero, List.set_cons_succ, argsOut]; exact rfl) ?_)
  (with_reducible apply ga_tup)
  (with_reducible apply gas_cons)
  ((with_reducible apply ga_sh); exact rfl)
  (with_reducible refine nf (by simp only [List.set_cons_zero, List.set_cons_succ]; exact rfl) ?_)
  (with_reducible apply gas_cons)
  ((with_reducible apply ga_sh); exact rfl)
  (with_reducible refine nf (by simp only [List.set_cons_zero, List.set_cons_succ]; exact rfl) ?_)
  (with_reducible apply gas_nil)
  (with_reducible apply sq_nx)
  (with_reducible apply ws_cons)
  (with_reducible apply ws_ite)
  (with_reducible apply w_tru)
  (with_reducible apply w_cmp)
  ((with_reducible apply wo_vs); exact rfl)
  ((with_reducible apply wo_e); exact rfl)
  (with_reducible apply w_c)
  ((with_reducible apply gr_sh); exact rfl)
  (with_reducible apply gr_val)
  (with_reducible refine get_some c_gt ?_)
  (with_reducible apply gt_bl)
  (with_reducible refine br_df (by omega) ?_)
  (with_reducible apply ws_nil)
  (with_reducible apply sq_nx)
  (with_reducible apply ws_cons)
  (with_reducible apply ws_asgs)
  (with_reducible apply w_c)
  (with_reducible apply isF)
  ((with_reducible apply gm_cons); exact rfl)
  (with_reducible refine nf (by simp only [List.set_cons_zero, List.set_cons_succ]; exact rfl) ?_)
  ((with_reducible apply gm_cons); exact rfl)
  (with_reducible refine nf (by simp only [List.set_cons_zero, List.set_cons_succ]; exact rfl) ?_)
  (with_reducible apply gm_nil)
  (with_reducible apply sq_nx)
  (with_reducible apply ws_cons)
  (with_reducible apply ws_for)
  ((with_reducible apply w_vs); exact rfl)
  ((with_reducible apply get_some); exact rfl)
  refine wf_inv (fun ds ρ => ∃ (pre rest : List (Nat × Nat)) (x y : Nat) (s5 s6 s7 : Sl), F = pre ++ rest ∧ ds = rest.map pD ∧ ρ = [.sh (.int (r : Int)), .sh (.lst (F.map pD)), .sh (.int 1), .sh (.int (x : Int)), .sh (.int (y : Int)), s5, s6, s7] ∧ x < 2 ^ (101 * pre.length + 1) ∧ y < 2 ^ (10 * pre.length + 1) ∧ wsq rest x y = (a, c)) ⟨[], F, 1, 1, .un, .un, .un, rfl, rfl, rfl, by decide, by decide, h3⟩ ?_ ?_
  · rintro d ds ρ - ⟨pre, rest, x, y, s5, s6, s7, hF, hds, rfl, hx, hy, hr⟩
    cases rest with
    | nil => cases hds
    | cons q rest =>
      obtain ⟨p, e⟩ := q
      rw [List.map_cons] at hds
      obtain ⟨rfl, rfl⟩ := List.cons.inj hds
      obtain ⟨hp, he⟩ := h1 (p, e) (by rw [hF]; exact List.mem_append.mpr (.inr List.mem_cons_self))
      have hp : p < 1000 := hp
      have he : e ≤ 20 := he
      have hl : pre.length < 1000 := by
        rw [hF, List.length_append, List.length_cons] at h2
        omega
      have e1 : pD (p, e) = .tup [.int (p : Int), .int (e : Int)] := rfl
      rw [e1]
      have hd := div_nat (v := e) (c := 2) (by omega) (by omega)
      have hmo := mod_nat (v := e) (c := 2) (by omega)
      (with_reducible apply ga_tup)
      (with_reducible apply gas_cons)
      ((with_reducible apply ga_sh); exact rfl)
      (with_reducible refine nf (by simp only [List.set_cons_zero, List.set_cons_succ]; exact rfl) ?_)
      (with_reducible apply gas_cons)
      ((with_reducible apply ga_sh); exact rfl)
      (with_reducible refine nf (by simp only [List.set_cons_zero, List.set_cons_succ]; exact rfl) ?_)
      (with_reducible apply gas_nil)
      (with_reducible apply ws_cons)
      (with_reducible apply ws_for)
      (with_reducible apply w_rng)
      (with_reducible apply wl_cons)
      ((with_reducible apply wo_e); exact rfl)
      (with_reducible apply w_bin)
      ((with_reducible apply wo_vs); exact rfl)
      ((with_reducible apply wo_e); exact rfl)
      (with_reducible apply w_c)
      ((with_reducible apply gr_sh); exact rfl)
      (with_reducible apply gr_val)
      (with_reducible refine getv_some hd ?_)
      (with_reducible apply wl_nil)
      (with_reducible apply grl_cons)
      (with_reducible apply gr_val)
      (with_reducible apply grl_nil)
      (with_reducible refine get_some (rng1_ok (by omega) (by omega)) ?_)
      ((with_reducible apply get_some); exact rfl)
      refine aheadI hp _ x (101 * pre.length + 1) s7 hx (by rw [List.length_map, ups_len]; omega) fun s7 => ?_
      rw [List.length_map, ups_len, show (((e / 2 : Nat) : Int)).toNat = e / 2 by omega]
      have hx2 := mul_lt2 hx (pow10 (e := e / 2) hp (by omega))
      have hx3 : x * p ^ (e / 2) < 2 ^ (101 * (pre ++ [(p, e)]).length + 1) := by
        rw [List.length_append, List.length_cons, List.length_nil, show 101 * (pre.length + (0 + 1)) + 1 = 101 * pre.length + 1 + 101 by omega]
        exact hx2
      have hyl : y < 2 ^ (10 * (pre ++ [(p, e)]).length + 1) := by
        refine Nat.lt_of_lt_of_le hy (Nat.pow_le_pow_right (by omega) ?_)
        rw [List.length_append]
        omega
      have hyp : y * p < 2 ^ (10 * (pre ++ [(p, e)]).length + 1) := by
        rw [List.length_append, List.length_cons, List.length_nil, show 10 * (pre.length + (0 + 1)) + 1 = 10 * pre.length + 1 + 10 by omega]
        exact mul_lt2 hy (b1000 hp)
      have hr : wsq rest (x * p ^ (e / 2)) (if e % 2 = 1 then y * p else y) = (a, c) := hr
      generalize x * p ^ (e / 2) = x' at *
      have ey : F = (pre ++ [(p, e)]) ++ rest := by rw [hF, List.append_assoc]; rfl
      rcases (show e % 2 = 0 ∨ e % 2 = 1 by omega) with he2 | he2
      · rw [he2] at hmo
        rw [if_neg (by omega)] at hr
        (with_reducible apply sq_nx)
        (with_reducible apply ws_cons)
        (with_reducible apply ws_ite)
        (with_reducible apply w_tru)
        (with_reducible apply w_cmpx callF_d)
        ((with_reducible apply wo_e); exact rfl)
        (with_reducible apply w_bin)
        ((with_reducible apply wo_vs); exact rfl)
        ((with_reducible apply wo_e); exact rfl)
        (with_reducible apply w_c)
        ((with_reducible apply gr_sh); exact rfl)
        (with_reducible apply gr_val)
        (with_reducible refine getv_some hmo ?_)
        ((with_reducible apply wo_e); exact rfl)
        (with_reducible apply w_c)
        (with_reducible apply gr_val)
        (with_reducible apply cx_int)
        (with_reducible apply gr_val)
        (with_reducible refine get_some c_eqX ?_)
        (with_reducible apply gt_bl)
        (with_reducible refine br_df (by omega) ?_)
        (with_reducible apply ws_nil)
        (with_reducible apply sq_nx)
        (with_reducible apply ws_nil)
        (with_reducible apply lp_nx)
        exact ⟨pre ++ [(p, e)], rest, x', y, _, _, _, ey, rfl, rfl, hx3, hyl, hr⟩
      · rw [he2] at hmo
        rw [if_pos he2] at hr
        have hm := aug_mul (natBi hy) (natBi (b1000 hp)) (by omega)
        rw [← Int.natCast_mul] at hm
        (with_reducible apply sq_nx)
        (with_reducible apply ws_cons)
        (with_reducible apply ws_ite)
        (with_reducible apply w_tru)
        (with_reducible apply w_cmpx callF_d)
        ((with_reducible apply wo_e); exact rfl)
        (with_reducible apply w_bin)
        ((with_reducible apply wo_vs); exact rfl)
        ((with_reducible apply wo_e); exact rfl)
        (with_reducible apply w_c)
        ((with_reducible apply gr_sh); exact rfl)
        (with_reducible apply gr_val)
        (with_reducible refine getv_some hmo ?_)
        ((with_reducible apply wo_e); exact rfl)
        (with_reducible apply w_c)
        (with_reducible apply gr_val)
        (with_reducible apply cx_int)
        (with_reducible apply gr_val)
        (with_reducible refine get_some c_eqX ?_)
        (with_reducible apply gt_bl)
        (with_reducible refine br_dt (by omega) ?_)
        (with_reducible apply ws_cons)
        (with_reducible apply ws_aug)
        ((with_reducible apply wo_vs); exact rfl)
        ((with_reducible apply wo_vs); exact rfl)
        ((with_reducible apply gr_sh); exact rfl)
        ((with_reducible apply gr_sh); exact rfl)
        (with_reducible refine get_some hm ?_)
        ((with_reducible apply ga_sh); exact rfl)
        (with_reducible refine nf (by simp only [List.set_cons_zero, List.set_cons_succ]; exact rfl) ?_)
        (with_reducible apply sq_nx)
        (with_reducible apply ws_nil)
        (with_reducible apply sq_nx)
        (with_reducible apply ws_nil)
        (with_reducible apply lp_nx)
        exact ⟨pre ++ [(p, e)], rest, x', y * p, _, _, _, ey, rfl, rfl, hx3, hyp, hr⟩
  · rintro ρ ⟨pre, rest, x, y, s5, s6, s7, hF, hds, rfl, hx, hy, hr⟩
    have er : rest = [] := by cases rest with
      | nil => rfl
      | cons _ _ => cases hds
    subst er
    have hr : (x, y) = (a, c) := hr
    cases hr
    (with_reducible apply sq_nx)
    (with_reducible apply ws_cons)
    (with_reducible apply ws_ret)
    (with_reducible apply w_tup)
    (with_reducible apply wl_cons)
    ((with_reducible apply wo_vs); exact rfl)
    (with_reducible apply wl_cons)
    ((with_reducible apply wo_vs); exact rfl)
    (with_reducible apply wl_nil)
    (with_reducible apply gfl_cons)
    ((with_reducible apply gf_sh); exact rfl)
    (with_reducible apply gfl_cons)
    ((with_reducible apply gf_sh); exact rfl)
    (with_reducible apply gfl_nil)
    ((with_reducible apply len_ok rfl); exact Nat.le_of_ble_eq_true rfl)
    (with_reducible apply sq_rt)
    (with_reducible apply fin_rt)
    (with_reducible refine nf (by simp only [List.take_succ_cons, List.take_zero, List.take_nil]; exact rfl) ?_)
    exact ⟨rfl, rfl, rfl⟩
theorem mulN {m n x y : Nat} (h : x < 2 ^ m) (g : y < 2 ^ n) (l : m + n < 1000000) : bop .Mult (.int (x : Int)) (.int (y : Int)) = some (false, .int ((x * y : Nat) : Int)) := by
  rw [b_mulB (natBi h) (natBi g) l, Int.natCast_mul]
theorem frr_stop {g p n s : Nat} (h : n < p * p) : frr g p n s = (s, n) := by
  cases g with
  | zero => rfl
  | succ g => rw [frr, if_neg (by omega)]
theorem frr_go {g p n s t m : Nat} (h : p * p ≤ n) (e : ctq p 21 n s = (t, m)) : frr (g + 1) p n s = frr g (p + 1) m t := by
  rw [frr, if_pos h, e]
/-- _law_free -/
theorem free_ok {r a c : Nat} (h : GoodR r a c) (r0 : 0 < r) (r1 : r ≤ 1000000) : cf (k + 3) 13 [.sh (.int (r : Int))] = .ok (false, .tup [.int (a : Int), .int (c : Int)]) [.sh (.int (c : Int))] := by
  have hf := h.f
  apply wv_eq
  apply w13
  unfold ir13
  (with_reducible apply ws_cons)
  (with_reducible apply ws_par)
  (with_reducible apply wy_cons)
  (with_reducible apply w_c)
  (with_reducible apply wy_cons)
  (with_reducible apply w_c)
  (with_reducible apply wy_nil)
  ((with_reducible apply gp_sh); exact rfl)
  (with_reducible refine nf (by simp only [List.set_cons_zero, List.set_cons_succ]; exact rfl) ?_)
  ((with_reducible apply gp_sh); exact rfl)
  (with_reducible refine nf (by simp only [List.set_cons_zero, List.set_cons_succ]; exact rfl) ?_)
  (with_reducible apply gp_nil)
  (with_reducible apply sq_nx)
  (with_reducible apply ws_cons)
  (with_reducible apply ws_whl)
  refine ww_inv (fun g ρ => ∃ (n s p : Nat), ρ = [.sh (.int (n : Int)), .sh (.int (s : Int)), .sh (.int (p : Int))] ∧ 0 < n ∧ 0 < s ∧ s * s * n ≤ 1000000 ∧ 2 ≤ p ∧ p + g = 1002 ∧ frr g p n s = (a, c)) (n := 1000) ?_ (by omega) ⟨r, 1, 2, rfl, r0, by omega, by omega, by omega, by omega, hf⟩
  rintro g ρ ⟨n, s, p, rfl, n0, s0, sn, p2, pg, e⟩
  have pp : p * p < 2 ^ 22 := by
    have h1 : p * p ≤ 1002 * 1002 := Nat.mul_le_mul (by omega) (by omega)
    have : (2 : Nat) ^ 22 = 4194304 := rfl
    omega
  have p22 : p < 2 ^ 11 := by
    have : (2 : Nat) ^ 11 = 2048 := rfl
    omega
  have hpp := mulN p22 p22 (by omega)
  have p4 : 4 ≤ p * p := Nat.mul_le_mul p2 p2
  have nle : n ≤ 1000000 := Nat.le_trans (Nat.le_mul_of_pos_left _ (Nat.mul_pos s0 s0)) sn
  by_cases hp : p * p ≤ n
  · have hg : 0 < g := by
      rcases Nat.eq_zero_or_pos g with e0 | e0
      · subst e0
        have : p = 1002 := by omega
        subst this
        omega
      · exact e0
    obtain ⟨g, rfl⟩ : ∃ g', g = g' + 1 := ⟨g - 1, by omega⟩
    generalize hP : p * p = P at *
    (with_reducible apply w_tru)
    (with_reducible apply w_cmp)
    ((with_reducible apply wo_e); exact rfl)
    (with_reducible apply w_bin)
    ((with_reducible apply wo_vs); exact rfl)
    ((with_reducible apply wo_vs); exact rfl)
    ((with_reducible apply gr_sh); exact rfl)
    ((with_reducible apply gr_sh); exact rfl)
    (with_reducible refine getv_some hpp ?_)
    ((with_reducible apply wo_vs); exact rfl)
    (with_reducible apply gr_val)
    ((with_reducible apply gr_sh); exact rfl)
    (with_reducible refine get_some c_le ?_)
    (with_reducible apply gt_bl)
    (with_reducible refine br_dt (by omega) ?_)
    (with_reducible apply ws_cons)
    (with_reducible apply ws_whl)
    refine ww_inv (fun f ρ => ∃ (m t : Nat), ρ = [.sh (.int (m : Int)), .sh (.int (t : Int)), .sh (.int (p : Int))] ∧ 0 < m ∧ 0 < t ∧ t * t * m ≤ 1000000 ∧ m < 2 ^ f ∧ f ≤ 20 ∧ ctq p (f + 1) m t = ctq p 21 n s) (n := 20) ?_ (by omega) ⟨n, s, rfl, n0, s0, sn, by have : (2 : Nat) ^ 20 = 1048576 := rfl; omega, by omega, rfl⟩
    rintro f ρ ⟨m, t, rfl, m0, t0, tm, m1, f1, e1⟩
    have tle : t ≤ 1000 := by
      rcases Nat.lt_or_ge 1000 t with e0 | e0
      · have h1 : 1001 * 1001 ≤ t * t := Nat.mul_le_mul e0 e0
        have h2 : t * t ≤ t * t * m := Nat.le_mul_of_pos_right _ m0
        omega
      · exact e0
    have t10 : t < 2 ^ 10 := by have : (2 : Nat) ^ 10 = 1024 := rfl; omega
    by_cases hm : m % P = 0
    · have hmod := mod_nat (v := m) (c := P) (by omega)
      rw [hm] at hmod
      have hdv := div_nat (v := m) (c := P) (by omega) (by have : (2 : Nat) ^ 22 = 4194304 := rfl; omega)
      have htp := mulN t10 p22 (by omega)
      have fp : ∃ f', f = f' + 1 := by
        cases f with
        | zero => exact absurd m1 (by omega)
        | succ f => exact ⟨f, rfl⟩
      obtain ⟨f, rfl⟩ := fp
      have hle : P ≤ m := Nat.le_of_dvd m0 (Nat.dvd_of_mod_eq_zero hm)
      have hmm : P * (m / P) = m := Nat.mul_div_cancel' (Nat.dvd_of_mod_eq_zero hm)
      rw [ctq, hP, if_pos hm] at e1
      (with_reducible apply w_tru)
      (with_reducible apply w_cmpx callF_d)
      ((with_reducible apply wo_e); exact rfl)
      (with_reducible apply w_bin)
      ((with_reducible apply wo_vs); exact rfl)
      ((with_reducible apply wo_e); exact rfl)
      (with_reducible apply w_bin)
      ((with_reducible apply wo_vs); exact rfl)
      ((with_reducible apply wo_vs); exact rfl)
      ((with_reducible apply gr_sh); exact rfl)
      ((with_reducible apply gr_sh); exact rfl)
      (with_reducible refine getv_some hpp ?_)
      ((with_reducible apply gr_sh); exact rfl)
      (with_reducible apply gr_val)
      (with_reducible refine getv_some hmod ?_)
      ((with_reducible apply wo_e); exact rfl)
      (with_reducible apply w_c)
      (with_reducible apply gr_val)
      (with_reducible apply cx_int)
      (with_reducible apply gr_val)
      (with_reducible refine get_some c_eqX ?_)
      (with_reducible apply gt_bl)
      (with_reducible refine br_dt (by omega) ?_)
      (with_reducible apply ws_cons)
      (with_reducible apply ws_par)
      (with_reducible apply wy_cons)
      (with_reducible apply w_bin)
      ((with_reducible apply wo_vs); exact rfl)
      ((with_reducible apply wo_e); exact rfl)
      (with_reducible apply w_bin)
      ((with_reducible apply wo_vs); exact rfl)
      ((with_reducible apply wo_vs); exact rfl)
      ((with_reducible apply gr_sh); exact rfl)
      ((with_reducible apply gr_sh); exact rfl)
      (with_reducible refine getv_some hpp ?_)
      ((with_reducible apply gr_sh); exact rfl)
      (with_reducible apply gr_val)
      (with_reducible refine getv_some hdv ?_)
      (with_reducible apply wy_cons)
      (with_reducible apply w_bin)
      ((with_reducible apply wo_vs); exact rfl)
      ((with_reducible apply wo_vs); exact rfl)
      ((with_reducible apply gr_sh); exact rfl)
      ((with_reducible apply gr_sh); exact rfl)
      (with_reducible refine getv_some htp ?_)
      (with_reducible apply wy_nil)
      ((with_reducible apply gp_sh); exact rfl)
      (with_reducible refine nf (by simp only [List.set_cons_zero, List.set_cons_succ]; exact rfl) ?_)
      ((with_reducible apply gp_sh); exact rfl)
      (with_reducible refine nf (by simp only [List.set_cons_zero, List.set_cons_succ]; exact rfl) ?_)
      (with_reducible apply gp_nil)
      (with_reducible apply sq_nx)
      (with_reducible apply ws_nil)
      (with_reducible apply lp_nx)
      refine ⟨f, by omega, m / P, t * p, rfl, Nat.div_pos hle (by omega), Nat.mul_pos t0 (by omega), ?_, ?_, by omega, e1⟩
      · rw [show t * p * (t * p) * (m / P) = t * t * (p * p * (m / P)) by simp only [Nat.mul_assoc, Nat.mul_left_comm], hP, hmm]
        exact tm
      · rw [Nat.div_lt_iff_lt_mul (by omega)]
        have : 2 ^ (f + 1) = 2 ^ f * 2 := Nat.pow_succ ..
        have h2 : 2 ^ f * 2 ≤ 2 ^ f * P := Nat.mul_le_mul_left _ (by omega)
        omega
    · have hmod := mod_nat (v := m) (c := P) (by omega)
      rw [ctq, hP, if_neg hm] at e1
      rw [frr_go (by omega) e1.symm] at e
      generalize m % P = w at hmod hm
      (with_reducible apply w_tru)
      (with_reducible apply w_cmpx callF_d)
      ((with_reducible apply wo_e); exact rfl)
      (with_reducible apply w_bin)
      ((with_reducible apply wo_vs); exact rfl)
      ((with_reducible apply wo_e); exact rfl)
      (with_reducible apply w_bin)
      ((with_reducible apply wo_vs); exact rfl)
      ((with_reducible apply wo_vs); exact rfl)
      ((with_reducible apply gr_sh); exact rfl)
      ((with_reducible apply gr_sh); exact rfl)
      (with_reducible refine getv_some hpp ?_)
      ((with_reducible apply gr_sh); exact rfl)
      (with_reducible apply gr_val)
      (with_reducible refine getv_some hmod ?_)
      ((with_reducible apply wo_e); exact rfl)
      (with_reducible apply w_c)
      (with_reducible apply gr_val)
      (with_reducible apply cx_int)
      (with_reducible apply gr_val)
      (with_reducible refine get_some c_eqX ?_)
      (with_reducible apply gt_bl)
      (with_reducible refine br_df (by omega) ?_)
      (with_reducible apply sq_nx)
      (with_reducible apply ws_cons)
      (with_reducible apply ws_asg)
      (with_reducible apply w_bin)
      ((with_reducible apply wo_vs); exact rfl)
      ((with_reducible apply wo_e); exact rfl)
      (with_reducible apply w_c)
      ((with_reducible apply gr_sh); exact rfl)
      (with_reducible apply gr_val)
      (with_reducible refine getv_some b_add ?_)
      ((with_reducible apply ga_sh); exact rfl)
      (with_reducible refine nf (by simp only [List.set_cons_zero, List.set_cons_succ]; exact rfl) ?_)
      (with_reducible apply sq_nx)
      (with_reducible apply ws_nil)
      (with_reducible apply lp_nx)
      exact ⟨g, by omega, m, t, p + 1, rfl, m0, t0, tm, by omega, by omega, e⟩
  · rw [frr_stop (by omega)] at e
    cases e
    generalize hP : p * p = P at *
    (with_reducible apply w_tru)
    (with_reducible apply w_cmp)
    ((with_reducible apply wo_e); exact rfl)
    (with_reducible apply w_bin)
    ((with_reducible apply wo_vs); exact rfl)
    ((with_reducible apply wo_vs); exact rfl)
    ((with_reducible apply gr_sh); exact rfl)
    ((with_reducible apply gr_sh); exact rfl)
    (with_reducible refine getv_some hpp ?_)
    ((with_reducible apply wo_vs); exact rfl)
    (with_reducible apply gr_val)
    ((with_reducible apply gr_sh); exact rfl)
    (with_reducible refine get_some c_le ?_)
    (with_reducible apply gt_bl)
    (with_reducible refine br_df (by omega) ?_)
    (with_reducible apply sq_nx)
    (with_reducible apply ws_cons)
    (with_reducible apply ws_ret)
    (with_reducible apply w_tup)
    (with_reducible apply wl_cons)
    ((with_reducible apply wo_vs); exact rfl)
    (with_reducible apply wl_cons)
    ((with_reducible apply wo_vs); exact rfl)
    (with_reducible apply wl_nil)
    (with_reducible apply gfl_cons)
    ((with_reducible apply gf_sh); exact rfl)
    (with_reducible apply gfl_cons)
    ((with_reducible apply gf_sh); exact rfl)
    (with_reducible apply gfl_nil)
    ((with_reducible apply len_ok rfl); exact Nat.le_of_ble_eq_true rfl)
    (with_reducible apply sq_rt)
    (with_reducible apply fin_rt)
    (with_reducible refine nf (by simp only [List.take_succ_cons, List.take_zero, List.take_nil]; exact rfl) ?_)
    exact ⟨rfl, rfl, rfl⟩
end
end K01
end

section
set_option Elab.async false
set_option linter.all false
set_option maxRecDepth 100000
set_option maxHeartbeats 4000000
namespace L2.T.Sq
open PySem PySem.Spec PyProof.Rows
/-- a text that is not long -/
def Tx (n : Nat) (x : Str) : Prop := x.length ≤ n ∧ PyData.strOk x = true
theorem Tx.app {m n : Nat} {x y : Str} (h : Tx m x) (g : Tx n y) : Tx (m + n) (x ++ y) := ⟨by rw [Str.length_append]; have := h.1; have := g.1; omega, ok_app h.2 g.2⟩
theorem Tx.int {i : Int} (h : Bi 1900 i) : Tx 1921 (toString i : String) := ⟨int_text_len_1921 (bi_log h), ok_int _⟩
theorem Tx.mono {m n : Nat} {x : Str} (h : Tx m x) (l : m ≤ n) : Tx n x := ⟨Nat.le_trans h.1 l, h.2⟩
theorem and_tx {n : Nat} {x : Str} {q : Prop} (h : Tx n x) (hn : n ≤ 16777216) (g : q) : x.length ≤ sizeLine ∧ q := ⟨by rw [sizeLine_eq]; exact Nat.le_trans h.1 hn, g⟩
theorem eqs_ok {m n : Nat} {x y : Str} (h : Tx m x) (g : Tx n y) : ∃ b, eqD (.str x) (.str y) = some b := by
  have sh : ∀ {z : Str}, PyData.strOk z = true → SeqAt.shaped (.str z) = true := fun hz => by
    unfold SeqAt.shaped
    simp only [PyData.canLay0, PyData.depth, Bool.and_eq_true]
    exact ⟨hz, rfl⟩
  refine ⟨PyData.eqv (.str x) (.str y), ?_⟩
  unfold eqD
  simp only [D.py]
  rw [sh h.2, sh g.2]
  rfl
theorem cat_str {m n : Nat} {x y : Str} (h : Tx m x) (g : Tx n y) (l : m + n ≤ 16777216) : bop .Add (.str x) (.str y) = some (false, .str (x ++ y)) := by
  show (if x.length + y.length ≤ sizeLine then some (false, D.str (x ++ y)) else none) = _
  rw [if_pos]
  rw [sizeLine_eq]
  have := h.1
  have := g.1
  omega
theorem fmt_int {i : Int} (h : i.natAbs.log2 < 1920) : fmtD (.int i) = some (Str.ofString (toString i)) := by
  show (if i.natAbs.log2 < 1920 then some (Str.ofString (toString i)) else none) = _
  rw [if_pos h]
theorem fmt_str {n : Nat} {x : Str} (h : Tx n x) (hn : n ≤ 16777216) : fmtD (.str x) = some x := by
  show (if x.length ≤ sizeLine then some x else none) = _
  rw [if_pos (by rw [sizeLine_eq]; exact Nat.le_trans h.1 hn)]
theorem Tx.emp : Tx 0 Str.empty := ⟨by decide +kernel, by decide +kernel⟩
theorem Tx.l1 : Tx 1 (Str.ofString "/") := ⟨by decide, ok_str _⟩
theorem Tx.l2 : Tx 1 (Str.ofString "*") := ⟨by decide, ok_str _⟩
theorem Tx.l3 : Tx 1 (Str.ofString "r") := ⟨by decide, ok_str _⟩
theorem Tx.l4 : Tx 1 (Str.ofString "1") := ⟨by decide, ok_str _⟩
theorem Tx.l5 : Tx 1 (Str.ofString "0") := ⟨by decide, ok_str _⟩
theorem Tx.l6 : Tx 1 (Str.ofString "-") := ⟨by decide, ok_str _⟩
theorem Tx.l7 : Tx 1 (Str.ofString "") := ⟨by decide, ok_str _⟩
theorem Tx.l8 : Tx 3 (Str.ofString " - ") := ⟨by decide, ok_str _⟩
theorem Tx.l9 : Tx 3 (Str.ofString " + ") := ⟨by decide, ok_str _⟩
theorem eqs_get {m n : Nat} {x y : Str} {k : Bool → Prop} (h : Tx m x) (g : Tx n y) (q : ∀ b, k b) : Get (cop (if false then .NotEq else .Eq) (.str x) (.str y)) k := by
  obtain ⟨b, e⟩ := eqs_ok h g
  exact get_some (show eqD (.str x) (.str y) = some b from e) (q b)
theorem br_any {b : Bool} {A B : Prop} (h : A) (g : B) : Br b A B := by
  cases b with
  | true => exact br_t h
  | false => exact br_f g
theorem nes_get {m n : Nat} {x y : Str} {k : Bool → Prop} (h : Tx m x) (g : Tx n y) (q : ∀ b, k b) : Get (cop (if true then .NotEq else .Eq) (.str x) (.str y)) k := by
  obtain ⟨b, e⟩ := eqs_ok h g
  exact get_some (show (eqD (.str x) (.str y)).map not = some (!b) by rw [e]; rfl) (q _)
end L2.T.Sq
namespace K01
open PySem PySem.Spec PyProof.Rows L2 L2.T L2.T.Sq
local macro_rules | `(tactic| walk_at "x") => `(tactic| first
  | (with_reducible refine nf (by simp only [List.set_cons_zero, List.set_cons_succ]; exact rfl) ?_)
  | (with_reducible refine nf (by simp only [List.take_succ_cons, List.take_zero, List.take_nil]; exact rfl) ?_)
  | (with_reducible refine nf (by simp only [List.cons_append, List.nil_append]; exact rfl) ?_)
  | (with_reducible refine nf (by simp only [List.set_cons_zero, List.set_cons_succ, argsOut]; exact rfl) ?_)
  | (with_reducible refine nf (by simp only [List.map_cons, List.map_nil]; exact rfl) ?_)
  | (with_reducible refine nf (by simp (disch := decide) only [wipeS, restore, wipe_t, wipe_f, wipe_n, rest_t, rest_f, rest_n]; exact rfl) ?_)
  | ((with_reducible apply nf); exact rfl)
  | (with_reducible apply sq_nx)
  | (with_reducible apply sq_rt)
  | ((with_reducible apply wo_vs); exact rfl)
  | ((with_reducible apply wo_vo); exact rfl)
  | ((with_reducible apply wo_e); exact rfl)
  | (with_reducible apply gr_val)
  | ((with_reducible apply gr_sh); exact rfl)
  | ((with_reducible apply gr_ow); exact rfl)
  | (with_reducible apply w_c)
  | ((with_reducible apply w_vs); exact rfl)
  | ((with_reducible apply w_vo); exact rfl)
  | (with_reducible apply w_bin)
  | (with_reducible apply w_cmp)
  | (with_reducible apply w_idx)
  | (with_reducible apply w_call)
  | (with_reducible apply w_callk)
  | (with_reducible apply wl_cons)
  | (with_reducible apply wl_nil)
  | (with_reducible apply w_bi)
  | (with_reducible apply w_tup)
  | (with_reducible apply w_lst)
  | (with_reducible apply w_and)
  | (with_reducible apply w_or)
  | (with_reducible apply w_not)
  | (with_reducible apply w_neg)
  | (with_reducible apply w_ife)
  | (with_reducible apply w_chn)
  | (with_reducible apply w_sli)
  | (with_reducible apply w_isi)
  | (with_reducible apply w_rng)
  | (with_reducible apply w_lrg)
  | (with_reducible apply w_dk0)
  | (with_reducible apply w_tru)
  | (with_reducible apply w_me)
  | (with_reducible apply w_dd)
  | (with_reducible apply w_fld)
  | (with_reducible apply w_isxI)
  | (with_reducible apply w_mk callF_d)
  | (with_reducible apply w_cmpx callF_d)
  | (with_reducible apply w_ownxT callF_d)
  | (with_reducible apply w_ownxF callF_d)
  | (with_reducible apply w_fmt)
  | (with_reducible apply w_fst)
  | (with_reducible apply wj_nil)
  | (with_reducible apply wj_cons)
  | (with_reducible apply iss)
  | (with_reducible apply ik_ins)
  | ((with_reducible apply ik_no); exact rfl)
  | ((with_reducible apply w_mmk); exact rfl)
  | ((with_reducible apply isT); exact rfl)
  | (with_reducible apply isK)
  | (with_reducible apply isN)
  | (with_reducible apply cx_ins)
  | (with_reducible apply cx_int)
  | (with_reducible apply cx_tup)
  | (with_reducible apply cx_bl)
  | (with_reducible apply cx_str)
  | (with_reducible apply cx_lst)
  | (with_reducible apply cx_non)
  | (with_reducible apply mkq)
  | (with_reducible apply wi_nil)
  | (with_reducible apply wi_cons)
  | (with_reducible apply isI)
  | (with_reducible apply isb)
  | (with_reducible apply gt_bl)
  | (with_reducible apply grl_nil)
  | (with_reducible apply grl_cons)
  | (with_reducible apply gfl_nil)
  | (with_reducible apply gfl_cons)
  | (with_reducible apply gf_val)
  | ((with_reducible apply gf_sh); exact rfl)
  | ((with_reducible apply gf_ow); exact rfl)
  | ((with_reducible apply go_ow); exact rfl)
  | ((with_reducible apply w_mm); exact rfl)
  | ((with_reducible apply ws_six); exact rfl)
  | ((with_reducible apply ws_forKs); exact rfl)
  | ((with_reducible apply ws_forKo); exact rfl)
  | (with_reducible apply ws_fset)
  | (with_reducible apply ws_asg)
  | (with_reducible apply ws_par)
  | (with_reducible apply ws_aug)
  | (with_reducible apply ws_asgs)
  | (with_reducible apply gm_nil)
  | ((with_reducible apply gm_cons); exact rfl)
  | (with_reducible apply isF)
  | (with_reducible apply ws_ex)
  | (with_reducible apply ws_ret)
  | (with_reducible apply ws_ite)
  | (with_reducible apply ws_nil)
  | (with_reducible apply ws_for)
  | (with_reducible apply ws_whl)
  | (with_reducible apply wy_nil)
  | (with_reducible apply wy_cons)
  | ((with_reducible apply ga_sh); exact rfl)
  | ((with_reducible apply ga_ow); exact rfl)
  | (with_reducible apply ga_tup)
  | (with_reducible apply ga_lst)
  | (with_reducible apply gas_nil)
  | (with_reducible apply gas_cons)
  | (with_reducible apply gp_nil)
  | ((with_reducible apply gp_sh); exact rfl)
  | ((with_reducible apply gp_ow); exact rfl)
  | (with_reducible apply fin_rt)
  | (with_reducible apply fin_nx)
  | (with_reducible apply lp_nx)
  | (with_reducible apply lp_rt)
  | (with_reducible apply lp_ct)
  | (with_reducible apply lp_bk)
  | (with_reducible apply sq_bk)
  | (with_reducible apply sq_ct)
  | (with_reducible apply ws_brk)
  | (with_reducible apply ws_cnt)
  | (with_reducible apply ws_pas)
  | (with_reducible apply ws_rse)
  | (with_reducible apply br_t)
  | (with_reducible apply br_f)
  | (with_reducible apply br_not)
  | (with_reducible refine getv_some b_add ?_)
  | (with_reducible refine getv_some b_sub ?_)
  | (with_reducible refine getv_some (b_modE (by omega)) ?_)
  | (with_reducible refine getv_some (b_divE (by omega) (by omega)) ?_)
  | (with_reducible refine getv_some (b_mul (mul_le (by omega) (by omega))) ?_)
  | (with_reducible refine get_some c_lt ?_)
  | (with_reducible refine get_some c_le ?_)
  | (with_reducible refine get_some c_gt ?_)
  | (with_reducible refine get_some c_ge ?_)
  | (with_reducible refine get_some c_eq ?_)
  | (with_reducible refine get_some c_ne ?_)
  | (with_reducible refine get_some c_eqX ?_)
  | (with_reducible refine get_some c_neX ?_)
  | (with_reducible refine br_dt (by omega) ?_)
  | (with_reducible refine br_df (by omega) ?_)
  | ((with_reducible apply br_eqt); exact rfl)
  | ((with_reducible apply br_eqf); exact rfl)
  | ((with_reducible apply len_ok rfl); exact Nat.le_of_ble_eq_true rfl)
  | ((with_reducible apply len_lt rfl); exact Nat.le_of_ble_eq_true rfl)
  | ((with_reducible apply gm_app rfl); exact Nat.le_of_ble_eq_true rfl)
  | (with_reducible apply wg_nil)
  | (with_reducible apply wg_cons)
  | ((with_reducible apply own_ok); exact rfl)
  | (with_reducible apply wf_nil)
  | (with_reducible apply wf_cons)
  | (with_reducible apply wt_nil)
  | (with_reducible apply wt_cons)
  | (with_reducible refine bint_dt (by omega) ?_)
  | (with_reducible refine bint_df (by omega) ?_)
  | (with_reducible refine getv_some sum3 ?_)
  | (with_reducible refine getv_some b_abs ?_)
  | ((with_reducible apply w_cop); exact rfl; exact rfl)
  | walk_at "wc"
  | ((with_reducible apply getv_some); exact rfl)
  | ((with_reducible apply get_some); exact rfl))
local macro_rules | `(tactic| walk_at "w") => `(tactic| first | (with_reducible apply ws_cons) | (walk_at "x"))
section
variable {k j m n m' n' M : Nat} {t u b : Int} {d : D} {s z : Sm} {Q : Bool → D → List Sl → Prop} {X : XP} {K : Fl → List Sl → Prop}
theorem wv_ex {r : L2.T.R (Bool × D)} {P : Str → Prop} {o : List Sl} (key : wv r (fun f d o' => ∃ y, P y ∧ f = false ∧ d = .str y ∧ o' = o) (fun _ _ => False)) : ∃ y, P y ∧ r = .ok (false, .str y) o := by
  cases e : r with
  | ok x o2 =>
    rw [e] at key
    have key : ∃ y, P y ∧ x.1 = false ∧ x.2 = .str y ∧ o2 = o := by with_unfolding_all exact key
    obtain ⟨y, h0, h1, h2, h3⟩ := key
    obtain ⟨x1, x2⟩ := x
    exact ⟨y, h0, by rw [← h1, ← h2, h3]⟩
  | ex _ _ => rw [e] at key; exact False.elim (by with_unfolding_all exact key)
  | stuck => rw [e] at key; exact False.elim (by with_unfolding_all exact key)
theorem ptext_ok {r : Int} (h1 : Bi 1900 r) (h2 : Bi 1900 t) (h3 : Bi 1900 b) : ∃ y, Tx 10000 y ∧ cf (k + 3) 2 [.sh (.int r), .sh (.int t), .sh (.int b)] = .ok (false, .str y) [.sh (.int r), .sh (.int t), .sh (.int b)] := by
  have x1 := Tx.int h1
  have x2 := Tx.int (i := (t.natAbs : Int)) (by unfold Bi at *; rw [Int.natAbs_natCast]; exact h2)
  have x3 := Tx.int h3
  have l1 : r.natAbs.log2 < 1920 := bi_log h1
  have l2 : (t.natAbs : Int).natAbs.log2 < 1920 := by rw [Int.natAbs_natCast]; exact bi_log h2
  have l3 : b.natAbs.log2 < 1920 := bi_log h3
  have f1 := fmt_int l1
  have f2 := fmt_int l2
  have f3 := fmt_int l3
  apply wv_ex
  apply w2
  unfold ir2
  have g2 : bfn "str" [.int (t.natAbs : Int)] = some (false, .str (Str.ofString (toString (t.natAbs : Int)))) := by
    show (if (t.natAbs : Int).natAbs.log2 < 1920 then some (false, D.str (Str.ofString (toString (t.natAbs : Int)))) else none) = _
    rw [if_pos l2]
  generalize Str.ofString (toString r) = y1 at *
  generalize Str.ofString (toString (t.natAbs : Int)) = y2 at *
  generalize Str.ofString (toString b) = y3 at *
  repeat' (first | (with_reducible refine getv_some b_absN ?_) | (with_reducible refine get_some f1 ?_) | (with_reducible refine get_some f2 ?_) | (with_reducible refine get_some f3 ?_) | (with_reducible refine and_tx (by (repeat' (first | exact x1 | exact x2 | exact x3 | exact Tx.emp | exact Tx.l1 | exact Tx.l2 | exact Tx.l3 | exact Tx.l4 | apply Tx.app))) (by omega) ?_) | (with_reducible refine eqs_get (by (repeat' (first | exact x1 | exact x2 | exact x3 | exact Tx.emp | exact Tx.l1 | exact Tx.l2 | exact Tx.l3 | exact Tx.l4 | apply Tx.app))) (by (repeat' (first | exact x1 | exact x2 | exact x3 | exact Tx.emp | exact Tx.l1 | exact Tx.l2 | exact Tx.l3 | exact Tx.l4 | apply Tx.app))) ?_) | (with_reducible refine get_some (fmt_str (by (repeat' (first | exact x1 | exact x2 | exact x3 | exact Tx.emp | exact Tx.l1 | exact Tx.l2 | exact Tx.l3 | exact Tx.l4 | apply Tx.app))) (by omega)) ?_) | (with_reducible refine getv_some g2 ?_) | (with_reducible refine br_any ?_ ?_) | (intro _; skip) | walk_at "w")
  all_goals exact ⟨_, Tx.mono (by (repeat' (first | exact x1 | exact x2 | exact x3 | exact Tx.emp | exact Tx.l1 | exact Tx.l2 | exact Tx.l3 | exact Tx.l4 | apply Tx.app))) (by omega), rfl, rfl, rfl⟩
theorem written_one {r : Int} {q : Rat} (h1 : Bi 1900 r) (h2 : Bd 1900 q) : ∃ y, Tx 20000 y ∧ cf (k + 4) 3 [.sh (partsD [(r, q)])] = .ok (false, .str y) [.sh (partsD [(r, q)])] := by
  obtain ⟨y0, t0, e0⟩ := ptext_ok (k := k) h1 h2.1 h2.2
  have ne0 : cop (if false then .NotEq else .Eq) (partsD [(r, q)]) (.tup []) = some false := rfl
  have ep : partsD [(r, q)] = .tup [.tup [.int r, .int q.num, .int (q.den : Int)]] := rfl
  rw [ep] at ne0 ⊢
  apply wv_ex
  apply w3
  unfold ir3
  repeat' (first | (with_reducible refine get_some ne0 ?_) | (with_reducible apply wv_ok e0) | (with_reducible refine nes_get (by (repeat' (first | exact Tx.emp | exact Tx.l7 | apply Tx.app))) (by (repeat' (first | exact Tx.l7))) ?_) | (with_reducible refine getv_some (cat_str (by (repeat' (first | exact t0 | exact Tx.l5 | exact Tx.l6 | exact Tx.l7 | exact Tx.l8 | exact Tx.l9 | apply Tx.app))) (by (repeat' (first | exact t0 | exact Tx.l5 | exact Tx.l6 | exact Tx.l7 | exact Tx.l8 | exact Tx.l9 | apply Tx.app))) (by omega)) ?_) | (with_reducible refine br_any ?_ ?_) | (intro _; skip) | walk_at "w")
  all_goals exact ⟨_, Tx.mono (by (repeat' (first | exact t0 | exact Tx.l5 | exact Tx.l6 | exact Tx.l7 | exact Tx.l8 | exact Tx.l9 | apply Tx.app))) (by omega), rfl, rfl, rfl⟩
end
end K01
end

section
set_option Elab.async false
set_option linter.all false
set_option maxRecDepth 100000
set_option maxHeartbeats 4000000
set_option exponentiation.threshold 3000
namespace L2.T.Sq
open PySem PySem.Spec PyProof.Rows
/-- a root, what stands ahead of it, what is left in it -/
structure RtR (r a c : Nat) : Prop where
  r1 : r ≤ 1000000
  a1 : a ≤ 1000
  c0 : 0 < c
  c1 : c ≤ 1000000
  g : (r = 0 ∧ a = 0 ∧ c = 1) ∨ (0 < r ∧ 0 < a ∧ GoodR r a c)
theorem RtR.of {r : Nat} (h : goodR r = true) (h0 : 0 < r) (h1 : r ≤ 1000000) : ∃ a c, RtR r a c := by
  obtain ⟨a, c, g⟩ := goodR_of h
  exact ⟨a, c, h1, g.a1, g.c0, g.c1, .inr ⟨h0, g.a0, g⟩⟩
theorem RtR.zero : RtR 0 0 1 := ⟨by omega, by omega, by omega, by omega, .inl ⟨rfl, rfl, rfl⟩⟩
/-- the number made -/
def mkS (t b : Int) (a c : Nat) : Sm := nrm [((c : Int), Rat.divInt (t * (a : Int)) b)]
theorem nrm_zero {r : Int} : nrm [(r, (0 : Rat))] = [] := nrm_of ⟨List.Pairwise.nil, fun p hp => by cases hp⟩ fun x => by
  rw [one_sm]
  split <;> rfl
theorem nrm_one {r : Int} {q : Rat} (h : q ≠ 0) : nrm [(r, q)] = [(r, q)] := nrm_self ⟨List.pairwise_singleton _ _, fun p hp => by rw [List.mem_singleton.mp hp]; exact h⟩
theorem mkS_zero {t b : Int} {a c : Nat} (h : t = 0 ∨ a = 0) : mkS t b a c = [] := by
  unfold mkS
  have e : t * (a : Int) = 0 := by
    rcases h with rfl | rfl
    · exact Int.zero_mul _
    · exact Int.mul_zero _
  rw [e, Rat.zero_divInt, nrm_zero]
theorem mkS_one {t b : Int} {a c : Nat} (h : t ≠ 0) (ha : a ≠ 0) (hb : b ≠ 0) : mkS t b a c = [((c : Int), Rat.divInt (t * (a : Int)) b)] := by
  unfold mkS
  refine nrm_one fun e => ?_
  have := (Rat.divInt_eq_divInt_iff hb (show (1 : Int) ≠ 0 by omega)).mp (show Rat.divInt (t * (a : Int)) b = Rat.divInt 0 1 by rw [e]; rfl)
  rw [Int.mul_one, Int.zero_mul] at this
  rcases Int.mul_eq_zero.mp this with h1 | h1
  · exact h h1
  · omega
theorem divInt_nn (a b : Int) : Rat.divInt (-a) (-b) = Rat.divInt a b := by
  by_cases h : b = 0
  · subst h
    rfl
  · exact (Rat.divInt_eq_divInt_iff (by omega) h).mpr (by rw [Int.neg_mul, Int.mul_neg])
theorem natBi0 {m x : Nat} (h : x < 2 ^ m) : Bi m (x : Int) := by
  unfold Bi
  rw [Int.natAbs_natCast]
  exact h
end L2.T.Sq
namespace K01
open PySem PySem.Spec PyProof.Rows L2 L2.T L2.T.Sq
section
variable {k j m n m' n' M r a c : Nat} {t u b : Int} {d : D} {s z : Sm} {Q : Bool → D → List Sl → Prop} {X : XP} {K : Fl → List Sl → Prop}
theorem whole_ok : cf (k + 1) 0 [.sh (.int t)] = .ok (false, .bl true) [.sh (.int t)] := by
  apply wv_eq
  apply w0
  unfold ir0
  (with_reducible apply ws_cons)
  (with_reducible apply ws_ret)
  (with_reducible apply w_and)
  (with_reducible apply w_isi)
  ((with_reducible apply wo_vs); exact rfl)
  ((with_reducible apply gr_sh); exact rfl)
  ((with_reducible apply get_some); exact rfl)
  (with_reducible apply isb)
  (with_reducible apply br_t)
  (with_reducible apply w_not)
  (with_reducible apply w_tru)
  (with_reducible apply w_isi)
  ((with_reducible apply wo_vs); exact rfl)
  ((with_reducible apply gr_sh); exact rfl)
  ((with_reducible apply get_some); exact rfl)
  (with_reducible apply gt_bl)
  (with_reducible apply sq_rt)
  (with_reducible apply fin_rt)
  (with_reducible refine nf (by simp only [List.take_succ_cons, List.take_zero, List.take_nil]; exact rfl) ?_)
  exact ⟨rfl, rfl, rfl⟩
theorem from_ok {lo hi : Int} (h : lo ≤ t) (g : t ≤ hi) : cf (k + 2) 1 [.sh (.int t), .sh (.int lo), .sh (.int hi)] = .ok (false, .bl true) [.sh (.int t), .sh (.int lo), .sh (.int hi)] := by
  apply wv_eq
  apply w1
  unfold ir1
  (with_reducible apply ws_cons)
  (with_reducible apply ws_ret)
  (with_reducible apply w_and)
  (with_reducible apply w_call)
  (with_reducible apply wl_cons)
  ((with_reducible apply wo_vs); exact rfl)
  (with_reducible apply wl_nil)
  ((with_reducible apply w_cop); exact rfl; exact rfl)
  (with_reducible apply wv_ok whole_ok)
  (with_reducible refine nf (by simp only [List.set_cons_zero, List.set_cons_succ, argsOut]; exact rfl) ?_)
  (with_reducible apply isb)
  (with_reducible apply br_t)
  (with_reducible apply w_chn)
  ((with_reducible apply wo_vs); exact rfl)
  ((with_reducible apply wo_vs); exact rfl)
  ((with_reducible apply gr_sh); exact rfl)
  ((with_reducible apply gr_sh); exact rfl)
  (with_reducible refine get_some c_le ?_)
  (with_reducible refine br_dt (by omega) ?_)
  ((with_reducible apply wo_vs); exact rfl)
  ((with_reducible apply gr_sh); exact rfl)
  ((with_reducible apply gr_sh); exact rfl)
  (with_reducible refine get_some c_le ?_)
  (with_reducible apply sq_rt)
  (with_reducible apply fin_rt)
  (with_reducible refine nf (by simp only [List.take_succ_cons, List.take_zero, List.take_nil]; exact rfl) ?_)
  rw [decide_eq_true g]
  exact ⟨rfl, rfl, rfl⟩
theorem exact_any (h : RtR r a c) (hb : b ≠ 0) (ht : Bi 200 t) (hbb : Bi 200 b) : cf (k + 6) 9 [.sh (.int t), .sh (.int b), .sh (.int (r : Int))] = .ok (false, exD (mkS t b a c)) [.sh (.int t), .sh (.int b), .sh (.int (r : Int))] := by
  have ha : Bi 10 (a : Int) := natBi0 (by have := h.a1; have e : (2 : Nat) ^ 10 = 1024 := rfl; omega)
  have hta := (ht.mul ha).mono (show 200 + 10 ≤ 210 by omega)
  have hp := put_any (k := k + 2) (pv := .lst [.tup [.int (c : Int), .int (t * (a : Int)), .int b]]) (rows := [((c : Int), t * (a : Int), b)]) rfl (one_rows (m := 210) (by omega) hb hta (hbb.mono (by omega))) (by omega)
  have hp : cf (k + 5) 6 [.sh (.lst [.tup [.int (c : Int), .int (t * (a : Int)), .int b]])] = .ok (false, exD (mkS t b a c)) [.sh (.lst [.tup [.int (c : Int), .int (t * (a : Int)), .int b]])] := hp
  have r1 := h.r1
  have hf := from_ok (k := k + 3) (t := (r : Int)) (lo := 0) (hi := 1000000) (by omega) (by omega)
  generalize mkS t b a c = z1 at *
  apply wv_eq
  apply w9
  unfold ir9
  rcases h.g with ⟨rfl, rfl, rfl⟩ | ⟨h0, _, g⟩
  · have hp : cf (k + 5) 6 [.sh (.lst [.tup [.int 1, .int (t * 0), .int b]])] = .ok (false, exD z1) [.sh (.lst [.tup [.int 1, .int (t * 0), .int b]])] := hp
    have ha : Bi 10 (0 : Int) := ha
    (with_reducible apply ws_cons)
    (with_reducible apply ws_ite)
    (with_reducible apply w_tru)
    (with_reducible apply w_or)
    (with_reducible apply w_not)
    (with_reducible apply w_tru)
    (with_reducible apply w_call)
    (with_reducible apply wl_cons)
    ((with_reducible apply wo_vs); exact rfl)
    (with_reducible apply wl_nil)
    ((with_reducible apply w_cop); exact rfl; exact rfl)
    (with_reducible apply wv_ok whole_ok)
    (with_reducible refine nf (by simp only [List.set_cons_zero, List.set_cons_succ, argsOut]; exact rfl) ?_)
    (with_reducible apply gt_bl)
    (with_reducible apply isb)
    (with_reducible apply br_not)
    (with_reducible apply br_t)
    (with_reducible apply w_or)
    (with_reducible apply w_not)
    (with_reducible apply w_tru)
    (with_reducible apply w_call)
    (with_reducible apply wl_cons)
    ((with_reducible apply wo_vs); exact rfl)
    (with_reducible apply wl_nil)
    ((with_reducible apply w_cop); exact rfl; exact rfl)
    (with_reducible apply wv_ok whole_ok)
    (with_reducible refine nf (by simp only [List.set_cons_zero, List.set_cons_succ, argsOut]; exact rfl) ?_)
    (with_reducible apply gt_bl)
    (with_reducible apply isb)
    (with_reducible apply br_not)
    (with_reducible apply br_t)
    (with_reducible apply w_not)
    (with_reducible apply w_tru)
    (with_reducible apply w_call)
    (with_reducible apply wl_cons)
    ((with_reducible apply wo_vs); exact rfl)
    (with_reducible apply wl_cons)
    ((with_reducible apply wo_e); exact rfl)
    (with_reducible apply w_c)
    (with_reducible apply wl_cons)
    ((with_reducible apply wo_e); exact rfl)
    (with_reducible apply w_c)
    (with_reducible apply wl_nil)
    ((with_reducible apply w_cop); exact rfl; exact rfl)
    (with_reducible apply wv_ok hf)
    (with_reducible refine nf (by simp only [List.set_cons_zero, List.set_cons_succ, argsOut]; exact rfl) ?_)
    (with_reducible apply gt_bl)
    (with_reducible apply gt_bl)
    (with_reducible apply br_not)
    (with_reducible apply br_t)
    (with_reducible apply ws_nil)
    (with_reducible apply sq_nx)
    (with_reducible apply ws_cons)
    (with_reducible apply ws_asg)
    (with_reducible apply w_ife)
    (with_reducible apply w_tru)
    (with_reducible apply w_cmp)
    ((with_reducible apply wo_vs); exact rfl)
    ((with_reducible apply wo_e); exact rfl)
    (with_reducible apply w_c)
    ((with_reducible apply gr_sh); exact rfl)
    (with_reducible apply gr_val)
    (with_reducible refine get_some c_gt ?_)
    (with_reducible apply gt_bl)
    (with_reducible refine br_df (by omega) ?_)
    (with_reducible apply w_tup)
    (with_reducible apply wl_cons)
    ((with_reducible apply wo_e); exact rfl)
    (with_reducible apply w_c)
    (with_reducible apply wl_cons)
    ((with_reducible apply wo_e); exact rfl)
    (with_reducible apply w_c)
    (with_reducible apply wl_nil)
    (with_reducible apply gfl_cons)
    (with_reducible apply gf_val)
    (with_reducible apply gfl_cons)
    (with_reducible apply gf_val)
    (with_reducible apply gfl_nil)
    ((with_reducible apply len_ok rfl); exact Nat.le_of_ble_eq_true rfl)
    ((with_reducible apply ga_sh); exact rfl)
    (with_reducible refine nf (by simp only [List.set_cons_zero, List.set_cons_succ]; exact rfl) ?_)
    (with_reducible apply sq_nx)
    (with_reducible apply ws_cons)
    (with_reducible apply ws_ite)
    (with_reducible apply w_tru)
    (with_reducible apply w_cmp)
    ((with_reducible apply wo_vs); exact rfl)
    ((with_reducible apply wo_e); exact rfl)
    (with_reducible apply w_c)
    ((with_reducible apply gr_sh); exact rfl)
    (with_reducible apply gr_val)
    ((with_reducible apply get_some); exact rfl)
    (with_reducible apply gt_bl)
    ((with_reducible apply br_eqf); exact rfl)
    (with_reducible apply ws_nil)
    (with_reducible apply sq_nx)
    (with_reducible apply ws_cons)
    (with_reducible apply ws_ite)
    (with_reducible apply w_tru)
    (with_reducible apply w_cmpx callF_d)
    ((with_reducible apply wo_vs); exact rfl)
    ((with_reducible apply wo_e); exact rfl)
    (with_reducible apply w_c)
    ((with_reducible apply gr_sh); exact rfl)
    (with_reducible apply cx_int)
    (with_reducible apply gr_val)
    (with_reducible refine get_some c_eqX ?_)
    (with_reducible apply gt_bl)
    (with_reducible refine br_df (by omega) ?_)
    (with_reducible apply ws_nil)
    (with_reducible apply sq_nx)
    (with_reducible apply ws_cons)
    (with_reducible apply ws_ret)
    (with_reducible apply w_call)
    (with_reducible apply wl_cons)
    ((with_reducible apply wo_e); exact rfl)
    (with_reducible apply w_lst)
    (with_reducible apply wl_cons)
    ((with_reducible apply wo_e); exact rfl)
    (with_reducible apply w_tup)
    (with_reducible apply wl_cons)
    ((with_reducible apply wo_e); exact rfl)
    (with_reducible apply w_idx)
    ((with_reducible apply wo_vs); exact rfl)
    ((with_reducible apply wo_e); exact rfl)
    (with_reducible apply w_c)
    ((with_reducible apply gr_sh); exact rfl)
    (with_reducible apply gr_val)
    ((with_reducible apply get_some); exact rfl)
    (with_reducible apply wl_cons)
    ((with_reducible apply wo_e); exact rfl)
    (with_reducible apply w_bin)
    ((with_reducible apply wo_vs); exact rfl)
    ((with_reducible apply wo_e); exact rfl)
    (with_reducible apply w_idx)
    ((with_reducible apply wo_vs); exact rfl)
    ((with_reducible apply wo_e); exact rfl)
    (with_reducible apply w_c)
    ((with_reducible apply gr_sh); exact rfl)
    (with_reducible apply gr_val)
    ((with_reducible apply get_some); exact rfl)
    ((with_reducible apply gr_sh); exact rfl)
    (with_reducible apply gr_val)
    (with_reducible refine getv_some (b_mulB ht ha (by omega)) ?_)
    (with_reducible apply wl_cons)
    ((with_reducible apply wo_vs); exact rfl)
    (with_reducible apply wl_nil)
    (with_reducible apply gfl_cons)
    (with_reducible apply gf_val)
    (with_reducible apply gfl_cons)
    (with_reducible apply gf_val)
    (with_reducible apply gfl_cons)
    ((with_reducible apply gf_sh); exact rfl)
    (with_reducible apply gfl_nil)
    ((with_reducible apply len_ok rfl); exact Nat.le_of_ble_eq_true rfl)
    (with_reducible apply wl_nil)
    (with_reducible apply gfl_cons)
    (with_reducible apply gf_val)
    (with_reducible apply gfl_nil)
    ((with_reducible apply len_ok rfl); exact Nat.le_of_ble_eq_true rfl)
    (with_reducible apply wl_nil)
    ((with_reducible apply w_cop); exact rfl; exact rfl)
    (with_reducible apply wv_ok hp)
    (with_reducible refine nf (by simp only [List.set_cons_zero, List.set_cons_succ, argsOut]; exact rfl) ?_)
    (with_reducible apply sq_rt)
    (with_reducible apply fin_rt)
    (with_reducible refine nf (by simp only [List.take_succ_cons, List.take_zero, List.take_nil]; exact rfl) ?_)
    exact ⟨rfl, rfl, rfl⟩
  · have hw := wsq_ok (k := k + 1) g h0 (by have e : (2 : Nat) ^ 20 = 1048576 := rfl; omega)
    (with_reducible apply ws_cons)
    (with_reducible apply ws_ite)
    (with_reducible apply w_tru)
    (with_reducible apply w_or)
    (with_reducible apply w_not)
    (with_reducible apply w_tru)
    (with_reducible apply w_call)
    (with_reducible apply wl_cons)
    ((with_reducible apply wo_vs); exact rfl)
    (with_reducible apply wl_nil)
    ((with_reducible apply w_cop); exact rfl; exact rfl)
    (with_reducible apply wv_ok whole_ok)
    (with_reducible refine nf (by simp only [List.set_cons_zero, List.set_cons_succ, argsOut]; exact rfl) ?_)
    (with_reducible apply gt_bl)
    (with_reducible apply isb)
    (with_reducible apply br_not)
    (with_reducible apply br_t)
    (with_reducible apply w_or)
    (with_reducible apply w_not)
    (with_reducible apply w_tru)
    (with_reducible apply w_call)
    (with_reducible apply wl_cons)
    ((with_reducible apply wo_vs); exact rfl)
    (with_reducible apply wl_nil)
    ((with_reducible apply w_cop); exact rfl; exact rfl)
    (with_reducible apply wv_ok whole_ok)
    (with_reducible refine nf (by simp only [List.set_cons_zero, List.set_cons_succ, argsOut]; exact rfl) ?_)
    (with_reducible apply gt_bl)
    (with_reducible apply isb)
    (with_reducible apply br_not)
    (with_reducible apply br_t)
    (with_reducible apply w_not)
    (with_reducible apply w_tru)
    (with_reducible apply w_call)
    (with_reducible apply wl_cons)
    ((with_reducible apply wo_vs); exact rfl)
    (with_reducible apply wl_cons)
    ((with_reducible apply wo_e); exact rfl)
    (with_reducible apply w_c)
    (with_reducible apply wl_cons)
    ((with_reducible apply wo_e); exact rfl)
    (with_reducible apply w_c)
    (with_reducible apply wl_nil)
    ((with_reducible apply w_cop); exact rfl; exact rfl)
    (with_reducible apply wv_ok hf)
    (with_reducible refine nf (by simp only [List.set_cons_zero, List.set_cons_succ, argsOut]; exact rfl) ?_)
    (with_reducible apply gt_bl)
    (with_reducible apply gt_bl)
    (with_reducible apply br_not)
    (with_reducible apply br_t)
    (with_reducible apply ws_nil)
    (with_reducible apply sq_nx)
    (with_reducible apply ws_cons)
    (with_reducible apply ws_asg)
    (with_reducible apply w_ife)
    (with_reducible apply w_tru)
    (with_reducible apply w_cmp)
    ((with_reducible apply wo_vs); exact rfl)
    ((with_reducible apply wo_e); exact rfl)
    (with_reducible apply w_c)
    ((with_reducible apply gr_sh); exact rfl)
    (with_reducible apply gr_val)
    (with_reducible refine get_some c_gt ?_)
    (with_reducible apply gt_bl)
    (with_reducible refine br_dt (by omega) ?_)
    (with_reducible apply w_call)
    (with_reducible apply wl_cons)
    ((with_reducible apply wo_vs); exact rfl)
    (with_reducible apply wl_nil)
    ((with_reducible apply w_cop); exact rfl; exact rfl)
    (with_reducible apply wv_ok hw)
    (with_reducible refine nf (by simp only [List.set_cons_zero, List.set_cons_succ, argsOut]; exact rfl) ?_)
    ((with_reducible apply ga_sh); exact rfl)
    (with_reducible refine nf (by simp only [List.set_cons_zero, List.set_cons_succ]; exact rfl) ?_)
    (with_reducible apply sq_nx)
    (with_reducible apply ws_cons)
    (with_reducible apply ws_ite)
    (with_reducible apply w_tru)
    (with_reducible apply w_cmp)
    ((with_reducible apply wo_vs); exact rfl)
    ((with_reducible apply wo_e); exact rfl)
    (with_reducible apply w_c)
    ((with_reducible apply gr_sh); exact rfl)
    (with_reducible apply gr_val)
    ((with_reducible apply get_some); exact rfl)
    (with_reducible apply gt_bl)
    ((with_reducible apply br_eqf); exact rfl)
    (with_reducible apply ws_nil)
    (with_reducible apply sq_nx)
    (with_reducible apply ws_cons)
    (with_reducible apply ws_ite)
    (with_reducible apply w_tru)
    (with_reducible apply w_cmpx callF_d)
    ((with_reducible apply wo_vs); exact rfl)
    ((with_reducible apply wo_e); exact rfl)
    (with_reducible apply w_c)
    ((with_reducible apply gr_sh); exact rfl)
    (with_reducible apply cx_int)
    (with_reducible apply gr_val)
    (with_reducible refine get_some c_eqX ?_)
    (with_reducible apply gt_bl)
    (with_reducible refine br_df (by omega) ?_)
    (with_reducible apply ws_nil)
    (with_reducible apply sq_nx)
    (with_reducible apply ws_cons)
    (with_reducible apply ws_ret)
    (with_reducible apply w_call)
    (with_reducible apply wl_cons)
    ((with_reducible apply wo_e); exact rfl)
    (with_reducible apply w_lst)
    (with_reducible apply wl_cons)
    ((with_reducible apply wo_e); exact rfl)
    (with_reducible apply w_tup)
    (with_reducible apply wl_cons)
    ((with_reducible apply wo_e); exact rfl)
    (with_reducible apply w_idx)
    ((with_reducible apply wo_vs); exact rfl)
    ((with_reducible apply wo_e); exact rfl)
    (with_reducible apply w_c)
    ((with_reducible apply gr_sh); exact rfl)
    (with_reducible apply gr_val)
    ((with_reducible apply get_some); exact rfl)
    (with_reducible apply wl_cons)
    ((with_reducible apply wo_e); exact rfl)
    (with_reducible apply w_bin)
    ((with_reducible apply wo_vs); exact rfl)
    ((with_reducible apply wo_e); exact rfl)
    (with_reducible apply w_idx)
    ((with_reducible apply wo_vs); exact rfl)
    ((with_reducible apply wo_e); exact rfl)
    (with_reducible apply w_c)
    ((with_reducible apply gr_sh); exact rfl)
    (with_reducible apply gr_val)
    ((with_reducible apply get_some); exact rfl)
    ((with_reducible apply gr_sh); exact rfl)
    (with_reducible apply gr_val)
    (with_reducible refine getv_some (b_mulB ht ha (by omega)) ?_)
    (with_reducible apply wl_cons)
    ((with_reducible apply wo_vs); exact rfl)
    (with_reducible apply wl_nil)
    (with_reducible apply gfl_cons)
    (with_reducible apply gf_val)
    (with_reducible apply gfl_cons)
    (with_reducible apply gf_val)
    (with_reducible apply gfl_cons)
    ((with_reducible apply gf_sh); exact rfl)
    (with_reducible apply gfl_nil)
    ((with_reducible apply len_ok rfl); exact Nat.le_of_ble_eq_true rfl)
    (with_reducible apply wl_nil)
    (with_reducible apply gfl_cons)
    (with_reducible apply gf_val)
    (with_reducible apply gfl_nil)
    ((with_reducible apply len_ok rfl); exact Nat.le_of_ble_eq_true rfl)
    (with_reducible apply wl_nil)
    ((with_reducible apply w_cop); exact rfl; exact rfl)
    (with_reducible apply wv_ok hp)
    (with_reducible refine nf (by simp only [List.set_cons_zero, List.set_cons_succ, argsOut]; exact rfl) ?_)
    (with_reducible apply sq_rt)
    (with_reducible apply fin_rt)
    (with_reducible refine nf (by simp only [List.take_succ_cons, List.take_zero, List.take_nil]; exact rfl) ?_)
    exact ⟨rfl, rfl, rfl⟩
/-- _law_low -/
theorem llow_ok (h : u ≠ 0) (hb : Bi 9000 u) : cf (k + 1) 12 [.sh (.int t), .sh (.int u)] = .ok (false, qD (Rat.divInt t u)) [.sh (.int t), .sh (.int u)] := by
  have gp : 0 < t.natAbs.gcd u.natAbs := Nat.gcd_pos_of_pos_right _ (by omega)
  have gl : t.natAbs.gcd u.natAbs ≤ u.natAbs := Nat.gcd_le_right _ (by omega)
  have hu : u.natAbs < 2 ^ 9000 := hb
  have ok1 : divOk ((t.natAbs.gcd u.natAbs : Nat) : Int) = true := divOk_bd (m := 9000) (by omega) (by unfold Bi; rw [Int.natAbs_natCast]; omega) (Nat.le_refl _)
  apply wv_eq
  apply w12
  unfold ir12
  (with_reducible apply ws_cons)
  (with_reducible apply ws_par)
  (with_reducible apply wy_cons)
  (with_reducible apply w_bi)
  (with_reducible apply wl_cons)
  ((with_reducible apply wo_vs); exact rfl)
  (with_reducible apply wl_nil)
  (with_reducible apply grl_cons)
  ((with_reducible apply gr_sh); exact rfl)
  (with_reducible apply grl_nil)
  (with_reducible refine getv_some b_absN ?_)
  (with_reducible apply wy_cons)
  (with_reducible apply w_bi)
  (with_reducible apply wl_cons)
  ((with_reducible apply wo_vs); exact rfl)
  (with_reducible apply wl_nil)
  (with_reducible apply grl_cons)
  ((with_reducible apply gr_sh); exact rfl)
  (with_reducible apply grl_nil)
  (with_reducible refine getv_some b_absN ?_)
  (with_reducible apply wy_nil)
  ((with_reducible apply gp_sh); exact rfl)
  (with_reducible refine nf (by simp only [List.set_cons_zero, List.set_cons_succ]; exact rfl) ?_)
  ((with_reducible apply gp_sh); exact rfl)
  (with_reducible refine nf (by simp only [List.set_cons_zero, List.set_cons_succ]; exact rfl) ?_)
  (with_reducible apply gp_nil)
  (with_reducible apply sq_nx)
  (with_reducible apply ws_cons)
  (with_reducible apply ws_whl)
  refine ww_inv (fun n ρ => ∃ x y : Nat, ρ = [.sh (.int t), .sh (.int u), .sh (.int (x : Int)), .sh (.int (y : Int))] ∧ x.gcd y = t.natAbs.gcd u.natAbs ∧ n = es x y) (n := es t.natAbs u.natAbs) ?_ ?_ ⟨_, _, rfl, rfl, rfl⟩
  · rintro n ρ ⟨x, y, rfl, hg, rfl⟩
    by_cases hd : y = 0
    · subst hd
      have e : x = t.natAbs.gcd u.natAbs := by rw [← hg]; exact (Nat.gcd_zero_right x).symm
      subst e
      by_cases hs : 0 < u
      · (with_reducible apply w_tru)
        (with_reducible apply w_cmp)
        ((with_reducible apply wo_vs); exact rfl)
        ((with_reducible apply wo_e); exact rfl)
        (with_reducible apply w_c)
        ((with_reducible apply gr_sh); exact rfl)
        (with_reducible apply gr_val)
        (with_reducible refine get_some c_gt ?_)
        (with_reducible apply gt_bl)
        (with_reducible refine br_df (by omega) ?_)
        (with_reducible apply sq_nx)
        (with_reducible apply ws_cons)
        (with_reducible apply ws_ret)
        (with_reducible apply w_ife)
        (with_reducible apply w_tru)
        (with_reducible apply w_cmp)
        ((with_reducible apply wo_vs); exact rfl)
        ((with_reducible apply wo_e); exact rfl)
        (with_reducible apply w_c)
        ((with_reducible apply gr_sh); exact rfl)
        (with_reducible apply gr_val)
        (with_reducible refine get_some c_gt ?_)
        (with_reducible apply gt_bl)
        (with_reducible refine br_dt (by omega) ?_)
        (with_reducible apply w_tup)
        (with_reducible apply wl_cons)
        ((with_reducible apply wo_e); exact rfl)
        (with_reducible apply w_bin)
        ((with_reducible apply wo_vs); exact rfl)
        ((with_reducible apply wo_vs); exact rfl)
        ((with_reducible apply gr_sh); exact rfl)
        ((with_reducible apply gr_sh); exact rfl)
        (with_reducible refine getv_some (b_fdiv ok1) ?_)
        (with_reducible apply wl_cons)
        ((with_reducible apply wo_e); exact rfl)
        (with_reducible apply w_bin)
        ((with_reducible apply wo_vs); exact rfl)
        ((with_reducible apply wo_vs); exact rfl)
        ((with_reducible apply gr_sh); exact rfl)
        ((with_reducible apply gr_sh); exact rfl)
        (with_reducible refine getv_some (b_fdiv ok1) ?_)
        (with_reducible apply wl_nil)
        (with_reducible apply gfl_cons)
        (with_reducible apply gf_val)
        (with_reducible apply gfl_cons)
        (with_reducible apply gf_val)
        (with_reducible apply gfl_nil)
        ((with_reducible apply len_ok rfl); exact Nat.le_of_ble_eq_true rfl)
        (with_reducible apply sq_rt)
        (with_reducible apply fin_rt)
        (with_reducible refine nf (by simp only [List.take_succ_cons, List.take_zero, List.take_nil]; exact rfl) ?_)
        rw [(low_pos hs).1, (low_pos hs).2]
        exact ⟨rfl, rfl, rfl⟩
      · have hp : 0 < -u := by omega
        have lp := low_pos (a := -t) hp
        rw [Int.natAbs_neg, Int.natAbs_neg, divInt_nn] at lp
        (with_reducible apply w_tru)
        (with_reducible apply w_cmp)
        ((with_reducible apply wo_vs); exact rfl)
        ((with_reducible apply wo_e); exact rfl)
        (with_reducible apply w_c)
        ((with_reducible apply gr_sh); exact rfl)
        (with_reducible apply gr_val)
        (with_reducible refine get_some c_gt ?_)
        (with_reducible apply gt_bl)
        (with_reducible refine br_df (by omega) ?_)
        (with_reducible apply sq_nx)
        (with_reducible apply ws_cons)
        (with_reducible apply ws_ret)
        (with_reducible apply w_ife)
        (with_reducible apply w_tru)
        (with_reducible apply w_cmp)
        ((with_reducible apply wo_vs); exact rfl)
        ((with_reducible apply wo_e); exact rfl)
        (with_reducible apply w_c)
        ((with_reducible apply gr_sh); exact rfl)
        (with_reducible apply gr_val)
        (with_reducible refine get_some c_gt ?_)
        (with_reducible apply gt_bl)
        (with_reducible refine br_df (by omega) ?_)
        (with_reducible apply w_tup)
        (with_reducible apply wl_cons)
        ((with_reducible apply wo_e); exact rfl)
        (with_reducible apply w_bin)
        ((with_reducible apply wo_e); exact rfl)
        (with_reducible apply w_neg)
        ((with_reducible apply wo_vs); exact rfl)
        ((with_reducible apply gr_sh); exact rfl)
        (with_reducible apply isI)
        ((with_reducible apply wo_vs); exact rfl)
        (with_reducible apply gr_val)
        ((with_reducible apply gr_sh); exact rfl)
        (with_reducible refine getv_some (b_fdiv ok1) ?_)
        (with_reducible apply wl_cons)
        ((with_reducible apply wo_e); exact rfl)
        (with_reducible apply w_bin)
        ((with_reducible apply wo_e); exact rfl)
        (with_reducible apply w_neg)
        ((with_reducible apply wo_vs); exact rfl)
        ((with_reducible apply gr_sh); exact rfl)
        (with_reducible apply isI)
        ((with_reducible apply wo_vs); exact rfl)
        (with_reducible apply gr_val)
        ((with_reducible apply gr_sh); exact rfl)
        (with_reducible refine getv_some (b_fdiv ok1) ?_)
        (with_reducible apply wl_nil)
        (with_reducible apply gfl_cons)
        (with_reducible apply gf_val)
        (with_reducible apply gfl_cons)
        (with_reducible apply gf_val)
        (with_reducible apply gfl_nil)
        ((with_reducible apply len_ok rfl); exact Nat.le_of_ble_eq_true rfl)
        (with_reducible apply sq_rt)
        (with_reducible apply fin_rt)
        (with_reducible refine nf (by simp only [List.take_succ_cons, List.take_zero, List.take_nil]; exact rfl) ?_)
        rw [lp.1, lp.2]
        exact ⟨rfl, rfl, rfl⟩
    · have hd' : (0 : Int) < y := by omega
      (with_reducible apply w_tru)
      (with_reducible apply w_cmp)
      ((with_reducible apply wo_vs); exact rfl)
      ((with_reducible apply wo_e); exact rfl)
      (with_reducible apply w_c)
      ((with_reducible apply gr_sh); exact rfl)
      (with_reducible apply gr_val)
      (with_reducible refine get_some c_gt ?_)
      (with_reducible apply gt_bl)
      (with_reducible refine br_dt (by omega) ?_)
      (with_reducible apply ws_cons)
      (with_reducible apply ws_par)
      (with_reducible apply wy_cons)
      ((with_reducible apply w_vs); exact rfl)
      (with_reducible apply wy_cons)
      (with_reducible apply w_bin)
      ((with_reducible apply wo_vs); exact rfl)
      ((with_reducible apply wo_vs); exact rfl)
      ((with_reducible apply gr_sh); exact rfl)
      ((with_reducible apply gr_sh); exact rfl)
      (with_reducible refine getv_some (b_modE (by omega)) ?_)
      (with_reducible apply wy_nil)
      ((with_reducible apply gp_sh); exact rfl)
      (with_reducible refine nf (by simp only [List.set_cons_zero, List.set_cons_succ]; exact rfl) ?_)
      ((with_reducible apply gp_sh); exact rfl)
      (with_reducible refine nf (by simp only [List.set_cons_zero, List.set_cons_succ]; exact rfl) ?_)
      (with_reducible apply gp_nil)
      (with_reducible apply sq_nx)
      (with_reducible apply ws_nil)
      (with_reducible apply lp_nx)
      refine ⟨es y (x % y), by rw [es_pos hd]; omega, y, x % y, by rw [nat_mod], ?_, rfl⟩
      rw [← hg, Nat.gcd_comm y, ← Nat.gcd_rec, Nat.gcd_comm]
  · have := es_le 9000 t.natAbs u.natAbs hu
    omega
/-- _law_parts_due -/
theorem due_any (h : RtR r a c) (hb : b ≠ 0) (ht : Bi 200 t) (hbb : Bi 200 b) : cf (k + 4) 14 [.sh (.int t), .sh (.int b), .sh (.int (r : Int))] = .ok (false, partsD (mkS t b a c)) [.sh (.int t), .sh (.int b), .sh (.int (r : Int))] := by
  have ha : Bi 10 (a : Int) := natBi0 (by have := h.a1; have e : (2 : Nat) ^ 10 = 1024 := rfl; omega)
  have r1 := h.r1
  apply wv_eq
  apply w14
  unfold ir14
  by_cases h0 : t = 0
  · rw [mkS_zero (.inl h0)]
    (with_reducible apply ws_cons)
    (with_reducible apply ws_ite)
    (with_reducible apply w_tru)
    (with_reducible apply w_or)
    (with_reducible apply w_cmpx callF_d)
    ((with_reducible apply wo_vs); exact rfl)
    ((with_reducible apply wo_e); exact rfl)
    (with_reducible apply w_c)
    ((with_reducible apply gr_sh); exact rfl)
    (with_reducible apply cx_int)
    (with_reducible apply gr_val)
    (with_reducible refine get_some c_eqX ?_)
    (with_reducible apply isb)
    (with_reducible refine br_dt (by omega) ?_)
    (with_reducible apply gt_bl)
    (with_reducible apply br_t)
    (with_reducible apply ws_cons)
    (with_reducible apply ws_ret)
    (with_reducible apply w_tup)
    (with_reducible apply wl_nil)
    (with_reducible apply gfl_nil)
    ((with_reducible apply len_ok rfl); exact Nat.le_of_ble_eq_true rfl)
    (with_reducible apply sq_rt)
    (with_reducible apply sq_rt)
    (with_reducible apply fin_rt)
    (with_reducible refine nf (by simp only [List.take_succ_cons, List.take_zero, List.take_nil]; exact rfl) ?_)
    exact ⟨rfl, rfl, rfl⟩
  · rcases h.g with ⟨rfl, rfl, rfl⟩ | ⟨hr, h1, g⟩
    · rw [mkS_zero (.inr rfl)]
      (with_reducible apply ws_cons)
      (with_reducible apply ws_ite)
      (with_reducible apply w_tru)
      (with_reducible apply w_or)
      (with_reducible apply w_cmpx callF_d)
      ((with_reducible apply wo_vs); exact rfl)
      ((with_reducible apply wo_e); exact rfl)
      (with_reducible apply w_c)
      ((with_reducible apply gr_sh); exact rfl)
      (with_reducible apply cx_int)
      (with_reducible apply gr_val)
      (with_reducible refine get_some c_eqX ?_)
      (with_reducible apply isb)
      (with_reducible refine br_df (by omega) ?_)
      (with_reducible apply w_cmpx callF_d)
      ((with_reducible apply wo_vs); exact rfl)
      ((with_reducible apply wo_e); exact rfl)
      (with_reducible apply w_c)
      ((with_reducible apply gr_sh); exact rfl)
      (with_reducible apply cx_int)
      (with_reducible apply gr_val)
      (with_reducible refine get_some c_eqX ?_)
      (with_reducible apply gt_bl)
      (with_reducible refine br_dt (by omega) ?_)
      (with_reducible apply ws_cons)
      (with_reducible apply ws_ret)
      (with_reducible apply w_tup)
      (with_reducible apply wl_nil)
      (with_reducible apply gfl_nil)
      ((with_reducible apply len_ok rfl); exact Nat.le_of_ble_eq_true rfl)
      (with_reducible apply sq_rt)
      (with_reducible apply sq_rt)
      (with_reducible apply fin_rt)
      (with_reducible refine nf (by simp only [List.take_succ_cons, List.take_zero, List.take_nil]; exact rfl) ?_)
      exact ⟨rfl, rfl, rfl⟩
    · rw [mkS_one h0 (by omega) hb]
      have hf := free_ok (k := k) g hr r1
      have hl := llow_ok (k := k + 2) (t := t * (a : Int)) hb (hbb.mono (by omega))
      have e0 : ∀ q : Rat, partsD [((c : Int), q)] = .tup [.tup [.int (c : Int), .int q.num, .int (q.den : Int)]] := fun q => rfl
      have e1 : ∀ q : Rat, qD q = .tup [.int q.num, .int (q.den : Int)] := fun q => rfl
      rw [e0]
      rw [e1] at hl
      generalize Rat.divInt (t * (a : Int)) b = q at *
      (with_reducible apply ws_cons)
      (with_reducible apply ws_ite)
      (with_reducible apply w_tru)
      (with_reducible apply w_or)
      (with_reducible apply w_cmpx callF_d)
      ((with_reducible apply wo_vs); exact rfl)
      ((with_reducible apply wo_e); exact rfl)
      (with_reducible apply w_c)
      ((with_reducible apply gr_sh); exact rfl)
      (with_reducible apply cx_int)
      (with_reducible apply gr_val)
      (with_reducible refine get_some c_eqX ?_)
      (with_reducible apply isb)
      (with_reducible refine br_df (by omega) ?_)
      (with_reducible apply w_cmpx callF_d)
      ((with_reducible apply wo_vs); exact rfl)
      ((with_reducible apply wo_e); exact rfl)
      (with_reducible apply w_c)
      ((with_reducible apply gr_sh); exact rfl)
      (with_reducible apply cx_int)
      (with_reducible apply gr_val)
      (with_reducible refine get_some c_eqX ?_)
      (with_reducible apply gt_bl)
      (with_reducible refine br_df (by omega) ?_)
      (with_reducible apply ws_nil)
      (with_reducible apply sq_nx)
      (with_reducible apply ws_cons)
      (with_reducible apply ws_asg)
      (with_reducible apply w_call)
      (with_reducible apply wl_cons)
      ((with_reducible apply wo_vs); exact rfl)
      (with_reducible apply wl_nil)
      ((with_reducible apply w_cop); exact rfl; exact rfl)
      (with_reducible apply wv_ok hf)
      (with_reducible refine nf (by simp only [List.set_cons_zero, List.set_cons_succ, argsOut]; exact rfl) ?_)
      (with_reducible apply ga_tup)
      (with_reducible apply gas_cons)
      ((with_reducible apply ga_sh); exact rfl)
      (with_reducible refine nf (by simp only [List.set_cons_zero, List.set_cons_succ]; exact rfl) ?_)
      (with_reducible apply gas_cons)
      ((with_reducible apply ga_sh); exact rfl)
      (with_reducible refine nf (by simp only [List.set_cons_zero, List.set_cons_succ]; exact rfl) ?_)
      (with_reducible apply gas_nil)
      (with_reducible apply sq_nx)
      (with_reducible apply ws_cons)
      (with_reducible apply ws_ret)
      (with_reducible apply w_tup)
      (with_reducible apply wl_cons)
      ((with_reducible apply wo_e); exact rfl)
      (with_reducible apply w_bin)
      ((with_reducible apply wo_e); exact rfl)
      (with_reducible apply w_tup)
      (with_reducible apply wl_cons)
      ((with_reducible apply wo_vs); exact rfl)
      (with_reducible apply wl_nil)
      (with_reducible apply gfl_cons)
      ((with_reducible apply gf_sh); exact rfl)
      (with_reducible apply gfl_nil)
      ((with_reducible apply len_ok rfl); exact Nat.le_of_ble_eq_true rfl)
      ((with_reducible apply wo_e); exact rfl)
      (with_reducible apply w_call)
      (with_reducible apply wl_cons)
      ((with_reducible apply wo_e); exact rfl)
      (with_reducible apply w_bin)
      ((with_reducible apply wo_vs); exact rfl)
      ((with_reducible apply wo_vs); exact rfl)
      ((with_reducible apply gr_sh); exact rfl)
      ((with_reducible apply gr_sh); exact rfl)
      (with_reducible refine getv_some (b_mulB ht ha (by omega)) ?_)
      (with_reducible apply wl_cons)
      ((with_reducible apply wo_vs); exact rfl)
      (with_reducible apply wl_nil)
      ((with_reducible apply w_cop); exact rfl; exact rfl)
      (with_reducible apply wv_ok hl)
      (with_reducible refine nf (by simp only [List.set_cons_zero, List.set_cons_succ, argsOut]; exact rfl) ?_)
      (with_reducible apply gr_val)
      (with_reducible apply gr_val)
      (with_reducible refine getv_some (show bop .Add (.tup [.int (c : Int)]) (.tup [.int q.num, .int (q.den : Int)]) = some (false, .tup [.int (c : Int), .int q.num, .int (q.den : Int)]) from rfl) ?_)
      (with_reducible apply wl_nil)
      (with_reducible apply gfl_cons)
      (with_reducible apply gf_val)
      (with_reducible apply gfl_nil)
      ((with_reducible apply len_ok rfl); exact Nat.le_of_ble_eq_true rfl)
      (with_reducible apply sq_rt)
      (with_reducible apply fin_rt)
      (with_reducible refine nf (by simp only [List.take_succ_cons, List.take_zero, List.take_nil]; exact rfl) ?_)
      exact ⟨rfl, rfl, rfl⟩
theorem written_nil : cf (k + 4) 3 [.sh (partsD [])] = .ok (false, .str (Str.ofString "0")) [.sh (partsD [])] := by
  have ne0 : cop (if false then .NotEq else .Eq) (partsD []) (.tup []) = some true := rfl
  have ep : partsD [] = .tup [] := rfl
  rw [ep] at ne0 ⊢
  apply wv_eq
  apply w3
  unfold ir3
  (with_reducible apply ws_cons)
  (with_reducible apply ws_ite)
  (with_reducible apply w_tru)
  (with_reducible apply w_cmpx callF_d)
  ((with_reducible apply wo_vs); exact rfl)
  ((with_reducible apply wo_e); exact rfl)
  (with_reducible apply w_tup)
  (with_reducible apply wl_nil)
  (with_reducible apply gfl_nil)
  ((with_reducible apply len_ok rfl); exact Nat.le_of_ble_eq_true rfl)
  ((with_reducible apply gr_sh); exact rfl)
  (with_reducible apply cx_tup)
  (with_reducible apply gr_val)
  (with_reducible refine get_some ne0 ?_)
  (with_reducible apply gt_bl)
  (with_reducible apply br_t)
  (with_reducible apply ws_cons)
  (with_reducible apply ws_ret)
  (with_reducible apply w_c)
  (with_reducible apply sq_rt)
  (with_reducible apply sq_rt)
  (with_reducible apply fin_rt)
  (with_reducible refine nf (by simp only [List.take_succ_cons, List.take_zero, List.take_nil]; exact rfl) ?_)
  exact ⟨rfl, rfl, rfl⟩
/-- str of a number made -/
theorem str_any (h : RtR r a c) (hb : b ≠ 0) (ht : Bi 200 t) (hbb : Bi 200 b) : ∃ y, cf (k + 7) 2000018 [.sh (exD (mkS t b a c))] = .ok (false, .str y) [.sh (exD (mkS t b a c))] := by
  have ha : Bi 10 (a : Int) := natBi0 (by have := h.a1; have e : (2 : Nat) ^ 10 = 1024 := rfl; omega)
  have hw : ∃ y, Tx 20000 y ∧ cf (k + 4) 3 [.sh (partsD (mkS t b a c))] = .ok (false, .str y) [.sh (partsD (mkS t b a c))] := by
    by_cases h0 : t = 0 ∨ a = 0
    · rw [mkS_zero h0]
      exact ⟨_, Tx.l5.mono (by omega), written_nil⟩
    · rw [mkS_one (by omega) (by omega) hb]
      refine written_one ?_ ?_
      · exact natBi0 (by have := h.c1; have e : (2 : Nat) ^ 20 = 1048576 := rfl; have : (2 : Nat) ^ 20 < 2 ^ 1900 := Nat.pow_lt_pow_right (by omega) (by omega); omega)
      · exact (Bd.of hb ((ht.mul ha).mono (show 200 + 10 ≤ 1900 by omega)) (hbb.mono (by omega)))
  obtain ⟨y, hy, e⟩ := hw
  refine ⟨y, ?_⟩
  have hs : bfn "str" [.str y] = some (false, .str y) := rfl
  show callF T 1000000 (k + 5 + 2) (18 + 2 * BB) _ = _
  rw [callF_two (by decide)]
  generalize mkS t b a c = z1 at *
  apply wv_eq
  apply w18
  unfold ir18
  (with_reducible apply ws_cons)
  (with_reducible apply ws_ret)
  (with_reducible apply w_ownxF callF_d)
  (with_reducible apply wl_cons)
  ((with_reducible apply wo_e); exact rfl)
  (with_reducible apply w_call)
  (with_reducible apply wl_cons)
  ((with_reducible apply wo_e); exact rfl)
  (with_reducible apply w_fld)
  ((with_reducible apply wo_vs); exact rfl)
  ((with_reducible apply gr_sh); exact rfl)
  (with_reducible apply isN_ex)
  ((with_reducible apply get_some); exact rfl)
  (with_reducible apply wl_nil)
  ((with_reducible apply w_cop); exact rfl; exact rfl)
  (with_reducible apply wv_ok e)
  (with_reducible refine nf (by simp only [List.set_cons_zero, List.set_cons_succ, argsOut]; exact rfl) ?_)
  (with_reducible apply wl_nil)
  (with_reducible apply grl_cons)
  (with_reducible apply gr_val)
  (with_reducible apply grl_nil)
  ((with_reducible apply ik_no); exact rfl)
  (with_reducible refine getv_some hs ?_)
  (with_reducible apply sq_rt)
  (with_reducible apply fin_rt)
  (with_reducible refine nf (by simp only [List.take_succ_cons, List.take_zero, List.take_nil]; exact rfl) ?_)
  exact ⟨rfl, rfl, rfl⟩
end
end K01
end

section
set_option Elab.async false
set_option linter.all false
set_option maxRecDepth 100000
set_option maxHeartbeats 4000000
set_option exponentiation.threshold 3000
namespace K01
open PySem PySem.Spec PyProof.Rows L2 L2.T L2.T.Sq
def b0 : S := (.asg (.nm 3) (.idx (.lst (.cons (.c (.int 3)) (.cons (.c (.int 1000)) (.cons (.bin .Pow (.c (.int 10)) (.c (.int 59))) .nil)))) (.call 11 (.cons (.v 1) (.cons (.c (.int 3)) .nil)))))
def b1 : S := (.par [4, 5] (.cons (.bin .Sub (.call 11 (.cons (.v 1) (.cons (.bin .Add (.bin .Mult (.c (.int 2)) (.v 3)) (.c (.int 1))) .nil))) (.v 3)) (.cons (.bin .Sub (.call 11 (.cons (.v 1) (.cons (.bin .Add (.bin .Mult (.c (.int 2)) (.v 3)) (.c (.int 1))) .nil))) (.v 3)) .nil)))
def b2 : S := (.asg (.nm 5) (.ife (.cmpx true 0 1000017 (.v 5) (.c (.int 0))) (.v 5) (.c (.int 1))))
def b3 : S := (.asg (.nm 6) (.lst (.cons (.c (.int 0)) (.cons (.c (.int 1)) (.cons (.c (.int 4)) (.cons (.c (.int 12)) (.cons (.c (.int 997)) (.cons (.bin .Mult (.c (.int 997)) (.c (.int 997))) (.cons (.bin .Pow (.c (.int 2)) (.c (.int 19))) (.cons (.c (.int 510510)) (.cons (.c (.int 720720)) (.cons (.c (.int 1000000)) (.cons (.bin .Mult (.bin .Mult (.c (.int 30)) (.c (.int 30))) (.c (.int 7))) (.cons (.bin .Add (.c (.int 1)) (.call 11 (.cons (.v 1) (.cons (.c (.int 900)) .nil)))) .nil))))))))))))))
def b4 : S := (.asg (.nm 7) (.idx (.v 6) (.call 11 (.cons (.v 1) (.cons (.c (.int 12)) .nil)))))
def b5 : S := (.asg (.nm 8) (.lst (.cons (.callk 9 (.cons (.v 4) .nil) (.cons (.v 5) (.cons (.v 7) .nil)) [.inl 0, .inl 1, .inl 2]) (.cons (.callk 9 (.cons (.v 4) .nil) (.cons (.v 7) (.cons (.v 5) .nil)) [.inl 0, .inl 2, .inl 1]) .nil))))
def b6 : S := (.for_ (.nm 9) (.v 8) (.cons (.ite (.or (.not (.isx 0 (.v 9))) (.cmpx true 0 1000017 (.fld 0 0 (.v 9)) (.call 14 (.cons (.v 4) (.cons (.v 5) (.cons (.v 7) .nil)))))) (.cons (.ret (.c (.bl false))) .nil) .nil) .nil))
def b7 : S := (.ite (.or (.cmpx true 0 1000017 (.idx (.v 8) (.c (.int 0))) (.idx (.v 8) (.c (.int 1)))) (.cmpx true 0 1000017 (.fld 0 0 (.callk 9 (.cons (.v 4) .nil) .nil [.inl 0, .inr (.int 1), .inr (.int 1)])) (.call 14 (.cons (.v 4) (.cons (.c (.int 1)) (.cons (.c (.int 1)) .nil)))))) (.cons (.ret (.c (.bl false))) .nil) .nil)
def b8 : S := (.ite (.cmpx true 0 1000017 (.fld 0 0 (.callk 9 (.cons (.v 4) .nil) (.cons (.v 7) .nil) [.inl 0, .inr (.int 1), .inl 1])) (.call 14 (.cons (.v 4) (.cons (.c (.int 1)) (.cons (.v 7) .nil))))) (.cons (.ret (.c (.bl false))) .nil) .nil)
def b9 : S := (.ite (.or (.cmpx true 0 1000017 (.fld 0 0 (.callk 9 (.cons (.v 4) .nil) (.cons (.v 5) .nil) [.inl 0, .inl 1, .inr (.int 1)])) (.call 14 (.cons (.v 4) (.cons (.v 5) (.cons (.c (.int 1)) .nil))))) (.cmpx false 0 1000017 (.callk 9 (.cons (.v 4) .nil) .nil [.inl 0, .inr (.int 1), .inr (.int 1)]) (.callk 9 (.cons (.bin .Add (.v 4) (.c (.int 1))) .nil) .nil [.inl 0, .inr (.int 1), .inr (.int 1)]))) (.cons (.ret (.c (.bl false))) .nil) .nil)
def b10 : S := (.for_ (.nm 10) (.lst (.cons (.v 4) (.cons (.c .non) (.cons (.ownx false 0 2000018 (.cons (.idx (.v 8) (.c (.int 0))) .nil)) (.cons (.fld 0 0 (.idx (.v 8) (.c (.int 0)))) (.cons (.lst (.cons (.idx (.v 8) (.c (.int 0))) .nil)) (.cons (.c (.int 0)) (.cons (.c (.bl true)) .nil)))))))) (.cons (.ite (.cmpx false 0 1000017 (.idx (.v 8) (.c (.int 0))) (.v 10)) (.cons (.ret (.c (.bl false))) .nil) .nil) .nil))
def irL : Ss := (.cons b0 (.cons b1 (.cons b2 (.cons b3 (.cons b4 (.cons b5 (.cons b6 (.cons b7 (.cons b8 (.cons b9 (.cons b10 .nil)))))))))))
def c0 : S := (.asg (.nm 1) (.call 10 (.cons (.v 0) .nil)))
def c1 : S := (.for_ (.nm 2) (.rng (.cons (.bin .Add (.c (.int 1)) (.call 11 (.cons (.v 1) (.cons (.c (.int 30)) .nil)))) .nil)) irL)
def c2 : S := (.ret (.c (.bl true)))
theorem ir15_eq : ir15 = (.cons c0 (.cons c1 (.cons c2 .nil))) := rfl
section
variable {k j r a c : Nat} {t u b : Int} {p y : D} {s z : Sm} {s0 s1 s2 s3 s4 s5 s6 s7 s8 s9 s10 s11 s12 : Sl} {Q : Bool → D → List Sl → Prop} {X : XP} {K : Fl → List Sl → Prop}
abbrev fr (s0 : Sl) (p : D) (s2 s3 s4 s5 s6 s7 s8 s9 s10 : Sl) : List Sl := [s0, .ow p, s2, s3, s4, s5, s6, s7, s8, s9, s10]
theorem pen_ok {ns : List Int} (h : ns.length ≤ 63) : cf (k + 1) 10 [.sh (.scr ns)] = .ok (true, pen ns 0 0) [.sh (.scr ns)] := by
  apply wv_eq
  apply w10
  unfold ir10
  (with_reducible apply ws_cons)
  (with_reducible apply ws_ret)
  (with_reducible apply w_lst)
  (with_reducible apply wl_cons)
  ((with_reducible apply wo_e); exact rfl)
  (with_reducible apply w_bi)
  (with_reducible apply wl_cons)
  ((with_reducible apply wo_e); exact rfl)
  (with_reducible apply w_sli)
  ((with_reducible apply wo_vs); exact rfl)
  (with_reducible apply wi_nil)
  (with_reducible apply wi_cons)
  ((with_reducible apply wo_e); exact rfl)
  (with_reducible apply w_c)
  (with_reducible apply gr_val)
  (with_reducible apply isI)
  ((with_reducible apply gr_sh); exact rfl)
  (with_reducible refine getv_some (pen_cut h) ?_)
  (with_reducible apply wl_nil)
  (with_reducible apply grl_cons)
  (with_reducible apply gr_val)
  (with_reducible apply grl_nil)
  ((with_reducible apply getv_some); exact rfl)
  (with_reducible apply wl_cons)
  ((with_reducible apply wo_e); exact rfl)
  (with_reducible apply w_c)
  (with_reducible apply wl_cons)
  ((with_reducible apply wo_e); exact rfl)
  (with_reducible apply w_c)
  (with_reducible apply wl_nil)
  (with_reducible apply gfl_cons)
  (with_reducible apply gf_val)
  (with_reducible apply gfl_cons)
  (with_reducible apply gf_val)
  (with_reducible apply gfl_cons)
  (with_reducible apply gf_val)
  (with_reducible apply gfl_nil)
  ((with_reducible apply len_ok rfl); exact Nat.le_of_ble_eq_true rfl)
  (with_reducible apply sq_rt)
  (with_reducible apply fin_rt)
  (with_reducible refine nf (by simp only [List.take_succ_cons, List.take_zero, List.take_nil]; exact rfl) ?_)
  exact ⟨rfl, rfl, rfl⟩
theorem eqo_int {i : Int} : cf (k + 4) 1000017 [.sh (exD s), .sh (.int i)] = .ok (false, .bl false) [.sh (exD s), .sh (.int i)] := by
  show callF T 1000000 (k + 3 + 1) (17 + BB) _ = _
  rw [callF_one (by decide)]
  apply wv_eq
  apply w17
  unfold ir17
  (with_reducible apply ws_cons)
  (with_reducible apply ws_ret)
  (with_reducible apply w_and)
  (with_reducible apply w_isxI)
  ((with_reducible apply wo_vs); exact rfl)
  ((with_reducible apply gr_sh); exact rfl)
  (with_reducible apply cx_int)
  ((with_reducible apply isT); exact rfl)
  (with_reducible apply isb)
  (with_reducible apply br_f)
  (with_reducible apply sq_rt)
  (with_reducible apply fin_rt)
  (with_reducible refine nf (by simp only [List.take_succ_cons, List.take_zero, List.take_nil]; exact rfl) ?_)
  exact ⟨rfl, rfl, rfl⟩
theorem eqo_non : cf (k + 4) 1000017 [.sh (exD s), .sh .non] = .ok (false, .bl false) [.sh (exD s), .sh .non] := by
  show callF T 1000000 (k + 3 + 1) (17 + BB) _ = _
  rw [callF_one (by decide)]
  apply wv_eq
  apply w17
  unfold ir17
  (with_reducible apply ws_cons)
  (with_reducible apply ws_ret)
  (with_reducible apply w_and)
  (with_reducible apply w_isxI)
  ((with_reducible apply wo_vs); exact rfl)
  ((with_reducible apply gr_sh); exact rfl)
  (with_reducible apply cx_non)
  ((with_reducible apply isT); exact rfl)
  (with_reducible apply isb)
  (with_reducible apply br_f)
  (with_reducible apply sq_rt)
  (with_reducible apply fin_rt)
  (with_reducible refine nf (by simp only [List.take_succ_cons, List.take_zero, List.take_nil]; exact rfl) ?_)
  exact ⟨rfl, rfl, rfl⟩
theorem eqo_str {x : Str} : cf (k + 4) 1000017 [.sh (exD s), .sh (.str x)] = .ok (false, .bl false) [.sh (exD s), .sh (.str x)] := by
  show callF T 1000000 (k + 3 + 1) (17 + BB) _ = _
  rw [callF_one (by decide)]
  apply wv_eq
  apply w17
  unfold ir17
  (with_reducible apply ws_cons)
  (with_reducible apply ws_ret)
  (with_reducible apply w_and)
  (with_reducible apply w_isxI)
  ((with_reducible apply wo_vs); exact rfl)
  ((with_reducible apply gr_sh); exact rfl)
  (with_reducible apply cx_str)
  ((with_reducible apply isT); exact rfl)
  (with_reducible apply isb)
  (with_reducible apply br_f)
  (with_reducible apply sq_rt)
  (with_reducible apply fin_rt)
  (with_reducible refine nf (by simp only [List.take_succ_cons, List.take_zero, List.take_nil]; exact rfl) ?_)
  exact ⟨rfl, rfl, rfl⟩
theorem eqo_tup {x : List D} : cf (k + 4) 1000017 [.sh (exD s), .sh (.tup x)] = .ok (false, .bl false) [.sh (exD s), .sh (.tup x)] := by
  show callF T 1000000 (k + 3 + 1) (17 + BB) _ = _
  rw [callF_one (by decide)]
  apply wv_eq
  apply w17
  unfold ir17
  (with_reducible apply ws_cons)
  (with_reducible apply ws_ret)
  (with_reducible apply w_and)
  (with_reducible apply w_isxI)
  ((with_reducible apply wo_vs); exact rfl)
  ((with_reducible apply gr_sh); exact rfl)
  (with_reducible apply cx_tup)
  ((with_reducible apply isT); exact rfl)
  (with_reducible apply isb)
  (with_reducible apply br_f)
  (with_reducible apply sq_rt)
  (with_reducible apply fin_rt)
  (with_reducible refine nf (by simp only [List.take_succ_cons, List.take_zero, List.take_nil]; exact rfl) ?_)
  exact ⟨rfl, rfl, rfl⟩
theorem eqo_lst {x : List D} : cf (k + 4) 1000017 [.sh (exD s), .sh (.lst x)] = .ok (false, .bl false) [.sh (exD s), .sh (.lst x)] := by
  show callF T 1000000 (k + 3 + 1) (17 + BB) _ = _
  rw [callF_one (by decide)]
  apply wv_eq
  apply w17
  unfold ir17
  (with_reducible apply ws_cons)
  (with_reducible apply ws_ret)
  (with_reducible apply w_and)
  (with_reducible apply w_isxI)
  ((with_reducible apply wo_vs); exact rfl)
  ((with_reducible apply gr_sh); exact rfl)
  (with_reducible apply cx_lst)
  ((with_reducible apply isT); exact rfl)
  (with_reducible apply isb)
  (with_reducible apply br_f)
  (with_reducible apply sq_rt)
  (with_reducible apply fin_rt)
  (with_reducible refine nf (by simp only [List.take_succ_cons, List.take_zero, List.take_nil]; exact rfl) ?_)
  exact ⟨rfl, rfl, rfl⟩
theorem eqo_bl {x : Bool} : cf (k + 4) 1000017 [.sh (exD s), .sh (.bl x)] = .ok (false, .bl false) [.sh (exD s), .sh (.bl x)] := by
  show callF T 1000000 (k + 3 + 1) (17 + BB) _ = _
  rw [callF_one (by decide)]
  apply wv_eq
  apply w17
  unfold ir17
  (with_reducible apply ws_cons)
  (with_reducible apply ws_ret)
  (with_reducible apply w_and)
  (with_reducible apply w_isxI)
  ((with_reducible apply wo_vs); exact rfl)
  ((with_reducible apply gr_sh); exact rfl)
  (with_reducible apply cx_bl)
  ((with_reducible apply isT); exact rfl)
  (with_reducible apply isb)
  (with_reducible apply br_f)
  (with_reducible apply sq_rt)
  (with_reducible apply fin_rt)
  (with_reducible refine nf (by simp only [List.take_succ_cons, List.take_zero, List.take_nil]; exact rfl) ?_)
  exact ⟨rfl, rfl, rfl⟩
theorem good_ix {v z : Int} (h0 : 0 ≤ v) (h1 : v < 900) (h : z ∈ [0, 1, 4, 12, 997, 997 * 997, 524288, 510510, 720720, 1000000, 30 * 30 * 7, 1 + v]) : ∃ r a c : Nat, z = (r : Int) ∧ RtR r a c := by
  have sp : ∀ r ∈ [1, 4, 12, 997, 997 * 997, 2 ^ 19, 510510, 720720, 1000000, 30 * 30 * 7], ∃ a c, RtR r a c := fun r hr => by
    have hg := good_sp r hr
    simp only [List.mem_cons, List.not_mem_nil, or_false] at hr
    exact RtR.of hg (by omega) (by omega)
  simp only [List.mem_cons, List.not_mem_nil, or_false] at h
  rcases h with rfl | rfl | rfl | rfl | rfl | rfl | rfl | rfl | rfl | rfl | rfl | rfl
  · exact ⟨0, 0, 1, rfl, RtR.zero⟩
  · obtain ⟨a, c, g⟩ := sp 1 (by simp)
    exact ⟨_, a, c, rfl, g⟩
  · obtain ⟨a, c, g⟩ := sp 4 (by simp)
    exact ⟨_, a, c, rfl, g⟩
  · obtain ⟨a, c, g⟩ := sp 12 (by simp)
    exact ⟨_, a, c, rfl, g⟩
  · obtain ⟨a, c, g⟩ := sp 997 (by simp)
    exact ⟨_, a, c, rfl, g⟩
  · obtain ⟨a, c, g⟩ := sp (997 * 997) (by simp)
    exact ⟨_, a, c, rfl, g⟩
  · obtain ⟨a, c, g⟩ := sp (2 ^ 19) (by simp)
    exact ⟨_, a, c, rfl, g⟩
  · obtain ⟨a, c, g⟩ := sp 510510 (by simp)
    exact ⟨_, a, c, rfl, g⟩
  · obtain ⟨a, c, g⟩ := sp 720720 (by simp)
    exact ⟨_, a, c, rfl, g⟩
  · obtain ⟨a, c, g⟩ := sp 1000000 (by simp)
    exact ⟨_, a, c, rfl, g⟩
  · obtain ⟨a, c, g⟩ := sp (30 * 30 * 7) (by simp)
    exact ⟨_, a, c, rfl, g⟩
  · have hg := good_all (1 + v).toNat (List.mem_range.mpr (by omega))
    have hn : ((1 + v).toNat == 0) = false := by
      rw [beq_eq_false_iff_ne]
      omega
    rw [hn, Bool.false_or] at hg
    obtain ⟨a, c, g⟩ := RtR.of hg (by omega) (by omega)
    exact ⟨_, a, c, by omega, g⟩
theorem mk_ne {a c : Nat} (ha : 0 < a) : mkS t 1 a c ≠ mkS (t + 1) 1 a c := fun e => by
  have h1 := congrArg (fun s => sm s (c : Int)) e
  unfold mkS at h1
  simp only [nrm_sm, one_sm, if_true] at h1
  have := (Rat.divInt_eq_divInt_iff (show (1 : Int) ≠ 0 by omega) (show (1 : Int) ≠ 0 by omega)).mp h1
  rw [Int.mul_one, Int.mul_one, Int.add_mul] at this
  omega
theorem eq_self : cf (k + 4) 1000017 [.sh (exD s), .sh (exD s)] = .ok (false, .bl true) [.sh (exD s), .sh (exD s)] := by
  have h := eq_ok (k := k) (s := s) (t := s)
  rw [decide_eq_true rfl] at h
  exact h
theorem eq_un (h : s ≠ z) : cf (k + 4) 1000017 [.sh (exD s), .sh (exD z)] = .ok (false, .bl false) [.sh (exD s), .sh (exD z)] := by
  have e := eq_ok (k := k) (s := s) (t := z)
  rw [decide_eq_false h] at e
  exact e
theorem ik_ex {A B : Prop} (h : A) : InK 0 [exD s] A B := ik_ins h
theorem p59 : bop .Pow (.int 10) (.int 59) = some (false, .int 100000000000000000000000000000000000000000000000000000000000) := by rfl
theorem p19 : bop .Pow (.int 2) (.int 19) = some (false, .int 524288) := by rfl
theorem turn (hp : Pen j p) (hj : j ≤ 20000) (q : ∀ p' s3 s4 s5 s6 s7 s8 s9 s10, Pen (j + 20) p' → K .nx (fr s0 p' s2 s3 s4 s5 s6 s7 s8 s9 s10)) : (evB T (cf (k + 12)) 1000000 [] irL (fr s0 p s2 s3 s4 s5 s6 s7 s8 s9 s10)).wq K X := by
  unfold irL
  unfold b0
  (with_reducible apply ws_cons)
  (with_reducible apply ws_asg)
  (with_reducible apply w_idx)
  ((with_reducible apply wo_e); exact rfl)
  (with_reducible apply w_lst)
  (with_reducible apply wl_cons)
  ((with_reducible apply wo_e); exact rfl)
  (with_reducible apply w_c)
  (with_reducible apply wl_cons)
  ((with_reducible apply wo_e); exact rfl)
  (with_reducible apply w_c)
  (with_reducible apply wl_cons)
  ((with_reducible apply wo_e); exact rfl)
  (with_reducible apply w_bin)
  ((with_reducible apply wo_e); exact rfl)
  (with_reducible apply w_c)
  ((with_reducible apply wo_e); exact rfl)
  (with_reducible apply w_c)
  (with_reducible apply gr_val)
  (with_reducible apply gr_val)
  (with_reducible refine getv_some p59 ?_)
  (with_reducible apply wl_nil)
  (with_reducible apply gfl_cons)
  (with_reducible apply gf_val)
  (with_reducible apply gfl_cons)
  (with_reducible apply gf_val)
  (with_reducible apply gfl_cons)
  (with_reducible apply gf_val)
  (with_reducible apply gfl_nil)
  ((with_reducible apply len_ok rfl); exact Nat.le_of_ble_eq_true rfl)
  ((with_reducible apply wo_e); exact rfl)
  (with_reducible apply w_call)
  (with_reducible apply wl_cons)
  ((with_reducible apply wo_vo); exact rfl)
  (with_reducible apply wl_cons)
  ((with_reducible apply wo_e); exact rfl)
  (with_reducible apply w_c)
  (with_reducible apply wl_nil)
  ((with_reducible apply w_cop); exact rfl; exact rfl)
  ((with_reducible refine w_draw (show T 11 = some ⟨2, [0], 6, irDraw⟩ from rfl) (by decide) (by assumption) (by omega) (by omega) (by omega) ?_); intro _ _ _ _ _)
  (with_reducible refine nf (by simp only [List.set_cons_zero, List.set_cons_succ]; exact rfl) ?_)
  (with_reducible apply gr_val)
  (with_reducible apply gr_val)
  rename_i v p1 v0 v1 hp1
  refine ix_int (l := [3, 1000, 100000000000000000000000000000000000000000000000000000000000]) (by assumption) (by assumption) fun f hf => ?_
  have hf' : 3 ≤ f ∧ f ≤ 100000000000000000000000000000000000000000000000000000000000 := by
    simp only [List.mem_cons, List.not_mem_nil, or_false] at hf
    omega
  ((with_reducible apply ga_sh); exact rfl)
  (with_reducible refine nf (by simp only [List.set_cons_zero, List.set_cons_succ, argsOut]; exact rfl) ?_)
  (with_reducible apply sq_nx)
  unfold b1
  (with_reducible apply ws_cons)
  (with_reducible apply ws_par)
  (with_reducible apply wy_cons)
  (with_reducible apply w_bin)
  ((with_reducible apply wo_e); exact rfl)
  (with_reducible apply w_call)
  (with_reducible apply wl_cons)
  ((with_reducible apply wo_vo); exact rfl)
  (with_reducible apply wl_cons)
  ((with_reducible apply wo_e); exact rfl)
  (with_reducible apply w_bin)
  ((with_reducible apply wo_e); exact rfl)
  (with_reducible apply w_bin)
  ((with_reducible apply wo_e); exact rfl)
  (with_reducible apply w_c)
  ((with_reducible apply wo_vs); exact rfl)
  (with_reducible apply gr_val)
  ((with_reducible apply gr_sh); exact rfl)
  (with_reducible refine getv_some (b_mul (mul_le (by omega) (by omega))) ?_)
  ((with_reducible apply wo_e); exact rfl)
  (with_reducible apply w_c)
  (with_reducible apply gr_val)
  (with_reducible apply gr_val)
  (with_reducible refine getv_some b_add ?_)
  (with_reducible apply wl_nil)
  ((with_reducible apply w_cop); exact rfl; exact rfl)
  ((with_reducible refine w_draw (show T 11 = some ⟨2, [0], 6, irDraw⟩ from rfl) (by decide) (by assumption) (by omega) (by omega) (by omega) ?_); intro _ _ _ _ _)
  (with_reducible refine nf (by simp only [List.set_cons_zero, List.set_cons_succ]; exact rfl) ?_)
  ((with_reducible apply wo_vs); exact rfl)
  (with_reducible apply gr_val)
  ((with_reducible apply gr_sh); exact rfl)
  (with_reducible refine getv_some b_sub ?_)
  (with_reducible apply wy_cons)
  (with_reducible apply w_bin)
  ((with_reducible apply wo_e); exact rfl)
  (with_reducible apply w_call)
  (with_reducible apply wl_cons)
  ((with_reducible apply wo_vo); exact rfl)
  (with_reducible apply wl_cons)
  ((with_reducible apply wo_e); exact rfl)
  (with_reducible apply w_bin)
  ((with_reducible apply wo_e); exact rfl)
  (with_reducible apply w_bin)
  ((with_reducible apply wo_e); exact rfl)
  (with_reducible apply w_c)
  ((with_reducible apply wo_vs); exact rfl)
  (with_reducible apply gr_val)
  ((with_reducible apply gr_sh); exact rfl)
  (with_reducible refine getv_some (b_mul (mul_le (by omega) (by omega))) ?_)
  ((with_reducible apply wo_e); exact rfl)
  (with_reducible apply w_c)
  (with_reducible apply gr_val)
  (with_reducible apply gr_val)
  (with_reducible refine getv_some b_add ?_)
  (with_reducible apply wl_nil)
  ((with_reducible apply w_cop); exact rfl; exact rfl)
  ((with_reducible refine w_draw (show T 11 = some ⟨2, [0], 6, irDraw⟩ from rfl) (by decide) (by assumption) (by omega) (by omega) (by omega) ?_); intro _ _ _ _ _)
  (with_reducible refine nf (by simp only [List.set_cons_zero, List.set_cons_succ, argsOut]; exact rfl) ?_)
  ((with_reducible apply wo_vs); exact rfl)
  (with_reducible apply gr_val)
  ((with_reducible apply gr_sh); exact rfl)
  (with_reducible refine getv_some b_sub ?_)
  (with_reducible apply wy_nil)
  ((with_reducible apply gp_sh); exact rfl)
  (with_reducible refine nf (by simp only [List.set_cons_zero, List.set_cons_succ]; exact rfl) ?_)
  ((with_reducible apply gp_sh); exact rfl)
  (with_reducible refine nf (by simp only [List.set_cons_zero, List.set_cons_succ]; exact rfl) ?_)
  (with_reducible apply gp_nil)
  (with_reducible apply sq_nx)
  rename_i t p2 t0 t1 hp2 u p3 u0 u1 hp3
  have bt : Bi 200 (t - f) := by unfold Bi; omega
  have bt' : Bi 200 (t - f + 1) := by unfold Bi; omega
  generalize t - f = t at *
  have key : ∀ {u : Int} {p3 : D}, Pen (j + 1 + 1 + 1) p3 → u ≠ 0 → Bi 200 u → (evB T (cf (k + 12)) 1000000 [] (.cons b3 (.cons b4 (.cons b5 (.cons b6 (.cons b7 (.cons b8 (.cons b9 (.cons b10 .nil)))))))) (fr s0 p3 s2 (.sh (.int f)) (.sh (.int t)) (.sh (.int u)) s6 s7 s8 s9 s10)).wq K X := by
    intro u p3 hp3 hu bu
    unfold b3
    (with_reducible apply ws_cons)
    (with_reducible apply ws_asg)
    (with_reducible apply w_lst)
    (with_reducible apply wl_cons)
    ((with_reducible apply wo_e); exact rfl)
    (with_reducible apply w_c)
    (with_reducible apply wl_cons)
    ((with_reducible apply wo_e); exact rfl)
    (with_reducible apply w_c)
    (with_reducible apply wl_cons)
    ((with_reducible apply wo_e); exact rfl)
    (with_reducible apply w_c)
    (with_reducible apply wl_cons)
    ((with_reducible apply wo_e); exact rfl)
    (with_reducible apply w_c)
    (with_reducible apply wl_cons)
    ((with_reducible apply wo_e); exact rfl)
    (with_reducible apply w_c)
    (with_reducible apply wl_cons)
    ((with_reducible apply wo_e); exact rfl)
    (with_reducible apply w_bin)
    ((with_reducible apply wo_e); exact rfl)
    (with_reducible apply w_c)
    ((with_reducible apply wo_e); exact rfl)
    (with_reducible apply w_c)
    (with_reducible apply gr_val)
    (with_reducible apply gr_val)
    (with_reducible refine getv_some (b_mul (mul_le (by omega) (by omega))) ?_)
    (with_reducible apply wl_cons)
    ((with_reducible apply wo_e); exact rfl)
    (with_reducible apply w_bin)
    ((with_reducible apply wo_e); exact rfl)
    (with_reducible apply w_c)
    ((with_reducible apply wo_e); exact rfl)
    (with_reducible apply w_c)
    (with_reducible apply gr_val)
    (with_reducible apply gr_val)
    (with_reducible refine getv_some p19 ?_)
    (with_reducible apply wl_cons)
    ((with_reducible apply wo_e); exact rfl)
    (with_reducible apply w_c)
    (with_reducible apply wl_cons)
    ((with_reducible apply wo_e); exact rfl)
    (with_reducible apply w_c)
    (with_reducible apply wl_cons)
    ((with_reducible apply wo_e); exact rfl)
    (with_reducible apply w_c)
    (with_reducible apply wl_cons)
    ((with_reducible apply wo_e); exact rfl)
    (with_reducible apply w_bin)
    ((with_reducible apply wo_e); exact rfl)
    (with_reducible apply w_bin)
    ((with_reducible apply wo_e); exact rfl)
    (with_reducible apply w_c)
    ((with_reducible apply wo_e); exact rfl)
    (with_reducible apply w_c)
    (with_reducible apply gr_val)
    (with_reducible apply gr_val)
    (with_reducible refine getv_some (b_mul (mul_le (by omega) (by omega))) ?_)
    ((with_reducible apply wo_e); exact rfl)
    (with_reducible apply w_c)
    (with_reducible apply gr_val)
    (with_reducible apply gr_val)
    (with_reducible refine getv_some (b_mul (mul_le (by omega) (by omega))) ?_)
    (with_reducible apply wl_cons)
    ((with_reducible apply wo_e); exact rfl)
    (with_reducible apply w_bin)
    ((with_reducible apply wo_e); exact rfl)
    (with_reducible apply w_c)
    ((with_reducible apply wo_e); exact rfl)
    (with_reducible apply w_call)
    (with_reducible apply wl_cons)
    ((with_reducible apply wo_vo); exact rfl)
    (with_reducible apply wl_cons)
    ((with_reducible apply wo_e); exact rfl)
    (with_reducible apply w_c)
    (with_reducible apply wl_nil)
    ((with_reducible apply w_cop); exact rfl; exact rfl)
    ((with_reducible refine w_draw (show T 11 = some ⟨2, [0], 6, irDraw⟩ from rfl) (by decide) (by assumption) (by omega) (by omega) (by omega) ?_); intro _ _ _ _ _)
    (with_reducible refine nf (by simp only [List.set_cons_zero, List.set_cons_succ]; exact rfl) ?_)
    (with_reducible apply gr_val)
    (with_reducible apply gr_val)
    (with_reducible refine getv_some b_add ?_)
    (with_reducible apply wl_nil)
    (with_reducible apply gfl_cons)
    (with_reducible apply gf_val)
    (with_reducible apply gfl_cons)
    (with_reducible apply gf_val)
    (with_reducible apply gfl_cons)
    (with_reducible apply gf_val)
    (with_reducible apply gfl_cons)
    (with_reducible apply gf_val)
    (with_reducible apply gfl_cons)
    (with_reducible apply gf_val)
    (with_reducible apply gfl_cons)
    (with_reducible apply gf_val)
    (with_reducible apply gfl_cons)
    (with_reducible apply gf_val)
    (with_reducible apply gfl_cons)
    (with_reducible apply gf_val)
    (with_reducible apply gfl_cons)
    (with_reducible apply gf_val)
    (with_reducible apply gfl_cons)
    (with_reducible apply gf_val)
    (with_reducible apply gfl_cons)
    (with_reducible apply gf_val)
    (with_reducible apply gfl_cons)
    (with_reducible apply gf_val)
    (with_reducible apply gfl_nil)
    ((with_reducible apply len_ok rfl); exact Nat.le_of_ble_eq_true rfl)
    ((with_reducible apply ga_ow); exact rfl)
    (with_reducible refine nf (by simp only [List.set_cons_zero, List.set_cons_succ, argsOut]; exact rfl) ?_)
    (with_reducible apply sq_nx)
    rename_i v p4 v0 v1 hp4
    unfold b4
    (with_reducible apply ws_cons)
    (with_reducible apply ws_asg)
    (with_reducible apply w_idx)
    ((with_reducible apply wo_vo); exact rfl)
    ((with_reducible apply wo_e); exact rfl)
    (with_reducible apply w_call)
    (with_reducible apply wl_cons)
    ((with_reducible apply wo_vo); exact rfl)
    (with_reducible apply wl_cons)
    ((with_reducible apply wo_e); exact rfl)
    (with_reducible apply w_c)
    (with_reducible apply wl_nil)
    ((with_reducible apply w_cop); exact rfl; exact rfl)
    ((with_reducible refine w_draw (show T 11 = some ⟨2, [0], 6, irDraw⟩ from rfl) (by decide) (by assumption) (by omega) (by omega) (by omega) ?_); intro _ _ _ _ _)
    (with_reducible refine nf (by simp only [List.set_cons_zero, List.set_cons_succ]; exact rfl) ?_)
    ((with_reducible apply gr_ow); exact rfl)
    (with_reducible apply gr_val)
    rename_i w p5 w0 w1 hp5
    refine ix_int (l := [0, 1, 4, 12, 997, 997 * 997, 524288, 510510, 720720, 1000000, 30 * 30 * 7, 1 + v]) (by assumption) (by assumption) fun z hz => ?_
    obtain ⟨r, a, c, rfl, hR⟩ := good_ix v0 v1 hz
    obtain ⟨a1, c1, g1⟩ : ∃ a c, RtR 1 a c := RtR.of (good_sp 1 (by simp)) (by omega) (by omega)
    have ha1 : 0 < a1 := by
      rcases g1.g with ⟨h, _⟩ | ⟨_, h, _⟩
      · cases h
      · exact h
    have b1' : Bi 200 1 := by unfold Bi; decide
    have E0 := exact_any (k := k + 6) hR hu bt bu
    have E1 : cf (k + 12) 9 [.sh (.int t), .sh (.int 1), .sh (.int 1)] = .ok (false, exD (mkS t 1 a1 c1)) [.sh (.int t), .sh (.int 1), .sh (.int 1)] := exact_any (k := k + 6) g1 (by omega) bt b1'
    have E2 : cf (k + 12) 9 [.sh (.int t), .sh (.int 1), .sh (.int (r : Int))] = .ok (false, exD (mkS t 1 a c)) [.sh (.int t), .sh (.int 1), .sh (.int (r : Int))] := exact_any (k := k + 6) hR (by omega) bt b1'
    have E3 : cf (k + 12) 9 [.sh (.int t), .sh (.int u), .sh (.int 1)] = .ok (false, exD (mkS t u a1 c1)) [.sh (.int t), .sh (.int u), .sh (.int 1)] := exact_any (k := k + 6) g1 hu bt bu
    have E4 : cf (k + 12) 9 [.sh (.int (t + 1)), .sh (.int 1), .sh (.int 1)] = .ok (false, exD (mkS (t + 1) 1 a1 c1)) [.sh (.int (t + 1)), .sh (.int 1), .sh (.int 1)] := exact_any (k := k + 6) g1 (by omega) bt' b1'
    have D0 := due_any (k := k + 8) hR hu bt bu
    have D1 : cf (k + 12) 14 [.sh (.int t), .sh (.int 1), .sh (.int 1)] = .ok (false, partsD (mkS t 1 a1 c1)) [.sh (.int t), .sh (.int 1), .sh (.int 1)] := due_any (k := k + 8) g1 (by omega) bt b1'
    have D2 : cf (k + 12) 14 [.sh (.int t), .sh (.int 1), .sh (.int (r : Int))] = .ok (false, partsD (mkS t 1 a c)) [.sh (.int t), .sh (.int 1), .sh (.int (r : Int))] := due_any (k := k + 8) hR (by omega) bt b1'
    have D3 : cf (k + 12) 14 [.sh (.int t), .sh (.int u), .sh (.int 1)] = .ok (false, partsD (mkS t u a1 c1)) [.sh (.int t), .sh (.int u), .sh (.int 1)] := due_any (k := k + 8) g1 hu bt bu
    have ne := mk_ne (t := t) (c := c1) ha1
    obtain ⟨yy, hy⟩ := str_any (k := k + 5) hR hu bt bu
    have Q1 := fun s => (show cf (k + 12) 1000017 [.sh (exD s), .sh (exD s)] = _ from eq_self (k := k + 8) (s := s))
    have Q2 := (show cf (k + 12) 1000017 _ = _ from eq_un (k := k + 8) ne)
    have O1 := fun s i => (show cf (k + 12) 1000017 _ = _ from eqo_int (k := k + 8) (s := s) (i := i))
    have O2 := fun s => (show cf (k + 12) 1000017 _ = _ from eqo_non (k := k + 8) (s := s))
    have O3 := fun s x => (show cf (k + 12) 1000017 _ = _ from eqo_str (k := k + 8) (s := s) (x := x))
    have O4 := fun (s z : Sm) => (show cf (k + 12) 1000017 [.sh (exD s), .sh (partsD z)] = .ok (false, .bl false) [.sh (exD s), .sh (partsD z)] from eqo_tup (k := k + 8) (s := s) (x := z.map partD))
    have O5 := fun s x => (show cf (k + 12) 1000017 _ = _ from eqo_lst (k := k + 8) (s := s) (x := x))
    have O6 := fun s x => (show cf (k + 12) 1000017 _ = _ from eqo_bl (k := k + 8) (s := s) (x := x))
    generalize mkS t u a c = z0 at *
    generalize mkS t 1 a1 c1 = z1 at *
    generalize mkS t 1 a c = z2 at *
    generalize mkS t u a1 c1 = z3 at *
    generalize mkS (t + 1) 1 a1 c1 = z4 at *
    ((with_reducible apply ga_sh); exact rfl)
    (with_reducible refine nf (by simp only [List.set_cons_zero, List.set_cons_succ, argsOut]; exact rfl) ?_)
    (with_reducible apply sq_nx)
    unfold b5
    (with_reducible apply ws_cons)
    (with_reducible apply ws_asg)
    (with_reducible apply w_lst)
    (with_reducible apply wl_cons)
    ((with_reducible apply wo_e); exact rfl)
    (with_reducible apply w_callk)
    (with_reducible apply wl_cons)
    ((with_reducible apply wo_vs); exact rfl)
    (with_reducible apply wl_nil)
    (with_reducible apply wl_cons)
    ((with_reducible apply wo_vs); exact rfl)
    (with_reducible apply wl_cons)
    ((with_reducible apply wo_vs); exact rfl)
    (with_reducible apply wl_nil)
    ((with_reducible apply get_some); exact rfl)
    ((with_reducible apply w_cop); exact rfl; exact rfl)
    (with_reducible apply wv_ok E0)
    (with_reducible refine nf (by simp only [List.set_cons_zero, List.set_cons_succ, argsOut]; exact rfl) ?_)
    (with_reducible apply wl_cons)
    ((with_reducible apply wo_e); exact rfl)
    (with_reducible apply w_callk)
    (with_reducible apply wl_cons)
    ((with_reducible apply wo_vs); exact rfl)
    (with_reducible apply wl_nil)
    (with_reducible apply wl_cons)
    ((with_reducible apply wo_vs); exact rfl)
    (with_reducible apply wl_cons)
    ((with_reducible apply wo_vs); exact rfl)
    (with_reducible apply wl_nil)
    ((with_reducible apply get_some); exact rfl)
    ((with_reducible apply w_cop); exact rfl; exact rfl)
    (with_reducible apply wv_ok E0)
    (with_reducible refine nf (by simp only [List.set_cons_zero, List.set_cons_succ, argsOut]; exact rfl) ?_)
    (with_reducible apply wl_nil)
    (with_reducible apply gfl_cons)
    (with_reducible apply gf_val)
    (with_reducible apply gfl_cons)
    (with_reducible apply gf_val)
    (with_reducible apply gfl_nil)
    ((with_reducible apply len_ok rfl); exact Nat.le_of_ble_eq_true rfl)
    ((with_reducible apply ga_ow); exact rfl)
    (with_reducible refine nf (by simp only [List.set_cons_zero, List.set_cons_succ]; exact rfl) ?_)
    (with_reducible apply sq_nx)
    unfold b6
    (with_reducible apply ws_cons)
    (with_reducible apply ws_for)
    ((with_reducible apply w_vo); exact rfl)
    (with_reducible refine nf (by simp only [List.set_cons_zero, List.set_cons_succ]; exact rfl) ?_)
    ((with_reducible apply get_some); exact rfl)
    (with_reducible apply wf_cons)
    ((with_reducible apply ga_sh); exact rfl)
    (with_reducible refine nf (by simp only [List.set_cons_zero, List.set_cons_succ]; exact rfl) ?_)
    (with_reducible apply ws_cons)
    (with_reducible apply ws_ite)
    (with_reducible apply w_tru)
    (with_reducible apply w_or)
    (with_reducible apply w_not)
    (with_reducible apply w_tru)
    (with_reducible apply w_isxI)
    ((with_reducible apply wo_vs); exact rfl)
    ((with_reducible apply gr_sh); exact rfl)
    (with_reducible apply cx_ex)
    (with_reducible apply gt_bl)
    (with_reducible apply isb)
    (with_reducible apply br_not)
    (with_reducible apply br_t)
    (with_reducible apply w_cmpx callF_d)
    ((with_reducible apply wo_e); exact rfl)
    (with_reducible apply w_fld)
    ((with_reducible apply wo_vs); exact rfl)
    ((with_reducible apply gr_sh); exact rfl)
    (with_reducible apply isN_ex)
    ((with_reducible apply get_some); exact rfl)
    ((with_reducible apply wo_e); exact rfl)
    (with_reducible apply w_call)
    (with_reducible apply wl_cons)
    ((with_reducible apply wo_vs); exact rfl)
    (with_reducible apply wl_cons)
    ((with_reducible apply wo_vs); exact rfl)
    (with_reducible apply wl_cons)
    ((with_reducible apply wo_vs); exact rfl)
    (with_reducible apply wl_nil)
    ((with_reducible apply w_cop); exact rfl; exact rfl)
    (with_reducible apply wv_ok D0)
    (with_reducible refine nf (by simp only [List.set_cons_zero, List.set_cons_succ, argsOut]; exact rfl) ?_)
    (with_reducible apply gr_val)
    (with_reducible apply cx_parts)
    (with_reducible apply gr_val)
    (with_reducible refine get_some ne_same ?_)
    (with_reducible apply gt_bl)
    (with_reducible apply br_f)
    (with_reducible apply ws_nil)
    (with_reducible apply sq_nx)
    (with_reducible apply ws_nil)
    (with_reducible apply lp_nx)
    (with_reducible apply wf_cons)
    ((with_reducible apply ga_sh); exact rfl)
    (with_reducible refine nf (by simp only [List.set_cons_zero, List.set_cons_succ]; exact rfl) ?_)
    (with_reducible apply ws_cons)
    (with_reducible apply ws_ite)
    (with_reducible apply w_tru)
    (with_reducible apply w_or)
    (with_reducible apply w_not)
    (with_reducible apply w_tru)
    (with_reducible apply w_isxI)
    ((with_reducible apply wo_vs); exact rfl)
    ((with_reducible apply gr_sh); exact rfl)
    (with_reducible apply cx_ex)
    (with_reducible apply gt_bl)
    (with_reducible apply isb)
    (with_reducible apply br_not)
    (with_reducible apply br_t)
    (with_reducible apply w_cmpx callF_d)
    ((with_reducible apply wo_e); exact rfl)
    (with_reducible apply w_fld)
    ((with_reducible apply wo_vs); exact rfl)
    ((with_reducible apply gr_sh); exact rfl)
    (with_reducible apply isN_ex)
    ((with_reducible apply get_some); exact rfl)
    ((with_reducible apply wo_e); exact rfl)
    (with_reducible apply w_call)
    (with_reducible apply wl_cons)
    ((with_reducible apply wo_vs); exact rfl)
    (with_reducible apply wl_cons)
    ((with_reducible apply wo_vs); exact rfl)
    (with_reducible apply wl_cons)
    ((with_reducible apply wo_vs); exact rfl)
    (with_reducible apply wl_nil)
    ((with_reducible apply w_cop); exact rfl; exact rfl)
    (with_reducible apply wv_ok D0)
    (with_reducible refine nf (by simp only [List.set_cons_zero, List.set_cons_succ, argsOut]; exact rfl) ?_)
    (with_reducible apply gr_val)
    (with_reducible apply cx_parts)
    (with_reducible apply gr_val)
    (with_reducible refine get_some ne_same ?_)
    (with_reducible apply gt_bl)
    (with_reducible apply br_f)
    (with_reducible apply ws_nil)
    (with_reducible apply sq_nx)
    (with_reducible apply ws_nil)
    (with_reducible apply lp_nx)
    (with_reducible apply wf_nil)
    (with_reducible apply sq_nx)
    (with_reducible apply ws_cons)
    unfold b7
    (with_reducible apply ws_ite)
    (with_reducible apply w_tru)
    (with_reducible apply w_or)
    (with_reducible apply w_cmpx callF_d)
    ((with_reducible apply wo_e); exact rfl)
    (with_reducible apply w_idx)
    ((with_reducible apply wo_vs); exact rfl)
    ((with_reducible apply wo_e); exact rfl)
    (with_reducible apply w_c)
    ((with_reducible apply gr_sh); exact rfl)
    (with_reducible apply gr_val)
    ((with_reducible apply get_some); exact rfl)
    ((with_reducible apply wo_e); exact rfl)
    (with_reducible apply w_idx)
    ((with_reducible apply wo_vs); exact rfl)
    ((with_reducible apply wo_e); exact rfl)
    (with_reducible apply w_c)
    ((with_reducible apply gr_sh); exact rfl)
    (with_reducible apply gr_val)
    ((with_reducible apply get_some); exact rfl)
    (with_reducible apply gr_val)
    (with_reducible apply cx_ex)
    (with_reducible apply gfl_cons)
    (with_reducible apply gf_val)
    (with_reducible apply gfl_cons)
    (with_reducible apply gf_val)
    (with_reducible apply gfl_nil)
    ((with_reducible apply isT); exact rfl)
    (with_reducible refine nf (by simp only [List.map_cons, List.map_nil]; exact rfl) ?_)
    (with_reducible apply wv_ok (Q1 _))
    (with_reducible apply isF)
    (with_reducible apply isb)
    (with_reducible apply isb)
    ((with_reducible apply br_eqf); exact rfl)
    (with_reducible apply w_cmpx callF_d)
    ((with_reducible apply wo_e); exact rfl)
    (with_reducible apply w_fld)
    ((with_reducible apply wo_e); exact rfl)
    (with_reducible apply w_callk)
    (with_reducible apply wl_cons)
    ((with_reducible apply wo_vs); exact rfl)
    (with_reducible apply wl_nil)
    (with_reducible apply wl_nil)
    ((with_reducible apply get_some); exact rfl)
    ((with_reducible apply w_cop); exact rfl; exact rfl)
    (with_reducible apply wv_ok E1)
    (with_reducible refine nf (by simp only [List.set_cons_zero, List.set_cons_succ, argsOut]; exact rfl) ?_)
    (with_reducible apply gr_val)
    (with_reducible apply isN_ex)
    ((with_reducible apply get_some); exact rfl)
    ((with_reducible apply wo_e); exact rfl)
    (with_reducible apply w_call)
    (with_reducible apply wl_cons)
    ((with_reducible apply wo_vs); exact rfl)
    (with_reducible apply wl_cons)
    ((with_reducible apply wo_e); exact rfl)
    (with_reducible apply w_c)
    (with_reducible apply wl_cons)
    ((with_reducible apply wo_e); exact rfl)
    (with_reducible apply w_c)
    (with_reducible apply wl_nil)
    ((with_reducible apply w_cop); exact rfl; exact rfl)
    (with_reducible apply wv_ok D1)
    (with_reducible refine nf (by simp only [List.set_cons_zero, List.set_cons_succ, argsOut]; exact rfl) ?_)
    (with_reducible apply gr_val)
    (with_reducible apply cx_parts)
    (with_reducible apply gr_val)
    (with_reducible refine get_some ne_same ?_)
    (with_reducible apply gt_bl)
    (with_reducible apply br_f)
    (with_reducible apply ws_nil)
    (with_reducible apply sq_nx)
    unfold b8
    (with_reducible apply ws_cons)
    (with_reducible apply ws_ite)
    (with_reducible apply w_tru)
    (with_reducible apply w_cmpx callF_d)
    ((with_reducible apply wo_e); exact rfl)
    (with_reducible apply w_fld)
    ((with_reducible apply wo_e); exact rfl)
    (with_reducible apply w_callk)
    (with_reducible apply wl_cons)
    ((with_reducible apply wo_vs); exact rfl)
    (with_reducible apply wl_nil)
    (with_reducible apply wl_cons)
    ((with_reducible apply wo_vs); exact rfl)
    (with_reducible apply wl_nil)
    ((with_reducible apply get_some); exact rfl)
    ((with_reducible apply w_cop); exact rfl; exact rfl)
    (with_reducible apply wv_ok E2)
    (with_reducible refine nf (by simp only [List.set_cons_zero, List.set_cons_succ, argsOut]; exact rfl) ?_)
    (with_reducible apply gr_val)
    (with_reducible apply isN_ex)
    ((with_reducible apply get_some); exact rfl)
    ((with_reducible apply wo_e); exact rfl)
    (with_reducible apply w_call)
    (with_reducible apply wl_cons)
    ((with_reducible apply wo_vs); exact rfl)
    (with_reducible apply wl_cons)
    ((with_reducible apply wo_e); exact rfl)
    (with_reducible apply w_c)
    (with_reducible apply wl_cons)
    ((with_reducible apply wo_vs); exact rfl)
    (with_reducible apply wl_nil)
    ((with_reducible apply w_cop); exact rfl; exact rfl)
    (with_reducible apply wv_ok D2)
    (with_reducible refine nf (by simp only [List.set_cons_zero, List.set_cons_succ, argsOut]; exact rfl) ?_)
    (with_reducible apply gr_val)
    (with_reducible apply cx_parts)
    (with_reducible apply gr_val)
    (with_reducible refine get_some ne_same ?_)
    (with_reducible apply gt_bl)
    (with_reducible apply br_f)
    (with_reducible apply ws_nil)
    (with_reducible apply sq_nx)
    unfold b9
    (with_reducible apply ws_cons)
    (with_reducible apply ws_ite)
    (with_reducible apply w_tru)
    (with_reducible apply w_or)
    (with_reducible apply w_cmpx callF_d)
    ((with_reducible apply wo_e); exact rfl)
    (with_reducible apply w_fld)
    ((with_reducible apply wo_e); exact rfl)
    (with_reducible apply w_callk)
    (with_reducible apply wl_cons)
    ((with_reducible apply wo_vs); exact rfl)
    (with_reducible apply wl_nil)
    (with_reducible apply wl_cons)
    ((with_reducible apply wo_vs); exact rfl)
    (with_reducible apply wl_nil)
    ((with_reducible apply get_some); exact rfl)
    ((with_reducible apply w_cop); exact rfl; exact rfl)
    (with_reducible apply wv_ok E3)
    (with_reducible refine nf (by simp only [List.set_cons_zero, List.set_cons_succ, argsOut]; exact rfl) ?_)
    (with_reducible apply gr_val)
    (with_reducible apply isN_ex)
    ((with_reducible apply get_some); exact rfl)
    ((with_reducible apply wo_e); exact rfl)
    (with_reducible apply w_call)
    (with_reducible apply wl_cons)
    ((with_reducible apply wo_vs); exact rfl)
    (with_reducible apply wl_cons)
    ((with_reducible apply wo_vs); exact rfl)
    (with_reducible apply wl_cons)
    ((with_reducible apply wo_e); exact rfl)
    (with_reducible apply w_c)
    (with_reducible apply wl_nil)
    ((with_reducible apply w_cop); exact rfl; exact rfl)
    (with_reducible apply wv_ok D3)
    (with_reducible refine nf (by simp only [List.set_cons_zero, List.set_cons_succ, argsOut]; exact rfl) ?_)
    (with_reducible apply gr_val)
    (with_reducible apply cx_parts)
    (with_reducible apply gr_val)
    (with_reducible refine get_some ne_same ?_)
    (with_reducible apply isb)
    (with_reducible apply br_f)
    (with_reducible apply w_cmpx callF_d)
    ((with_reducible apply wo_e); exact rfl)
    (with_reducible apply w_callk)
    (with_reducible apply wl_cons)
    ((with_reducible apply wo_vs); exact rfl)
    (with_reducible apply wl_nil)
    (with_reducible apply wl_nil)
    ((with_reducible apply get_some); exact rfl)
    ((with_reducible apply w_cop); exact rfl; exact rfl)
    (with_reducible apply wv_ok E1)
    (with_reducible refine nf (by simp only [List.set_cons_zero, List.set_cons_succ, argsOut]; exact rfl) ?_)
    ((with_reducible apply wo_e); exact rfl)
    (with_reducible apply w_callk)
    (with_reducible apply wl_cons)
    ((with_reducible apply wo_e); exact rfl)
    (with_reducible apply w_bin)
    ((with_reducible apply wo_vs); exact rfl)
    ((with_reducible apply wo_e); exact rfl)
    (with_reducible apply w_c)
    ((with_reducible apply gr_sh); exact rfl)
    (with_reducible apply gr_val)
    (with_reducible refine getv_some b_add ?_)
    (with_reducible apply wl_nil)
    (with_reducible apply wl_nil)
    ((with_reducible apply get_some); exact rfl)
    ((with_reducible apply w_cop); exact rfl; exact rfl)
    (with_reducible apply wv_ok E4)
    (with_reducible refine nf (by simp only [List.set_cons_zero, List.set_cons_succ, argsOut]; exact rfl) ?_)
    (with_reducible apply gr_val)
    (with_reducible apply cx_ex)
    (with_reducible apply gfl_cons)
    (with_reducible apply gf_val)
    (with_reducible apply gfl_cons)
    (with_reducible apply gf_val)
    (with_reducible apply gfl_nil)
    ((with_reducible apply isT); exact rfl)
    (with_reducible refine nf (by simp only [List.map_cons, List.map_nil]; exact rfl) ?_)
    (with_reducible apply wv_ok Q2)
    (with_reducible apply isF)
    (with_reducible apply isb)
    (with_reducible apply gt_bl)
    ((with_reducible apply br_eqf); exact rfl)
    (with_reducible apply ws_nil)
    (with_reducible apply sq_nx)
    unfold b10
    (with_reducible apply ws_cons)
    (with_reducible apply ws_for)
    (with_reducible apply w_lst)
    (with_reducible apply wl_cons)
    ((with_reducible apply wo_vs); exact rfl)
    (with_reducible apply wl_cons)
    ((with_reducible apply wo_e); exact rfl)
    (with_reducible apply w_c)
    (with_reducible apply wl_cons)
    ((with_reducible apply wo_e); exact rfl)
    (with_reducible apply w_ownxF callF_d)
    (with_reducible apply wl_cons)
    ((with_reducible apply wo_e); exact rfl)
    (with_reducible apply w_idx)
    ((with_reducible apply wo_vs); exact rfl)
    ((with_reducible apply wo_e); exact rfl)
    (with_reducible apply w_c)
    ((with_reducible apply gr_sh); exact rfl)
    (with_reducible apply gr_val)
    ((with_reducible apply get_some); exact rfl)
    (with_reducible apply wl_nil)
    (with_reducible apply grl_cons)
    (with_reducible apply gr_val)
    (with_reducible apply grl_nil)
    (with_reducible apply ik_ex)
    (with_reducible apply gfl_cons)
    (with_reducible apply gf_val)
    (with_reducible apply gfl_nil)
    (with_reducible refine nf (by simp only [List.map_cons, List.map_nil]; exact rfl) ?_)
    (with_reducible apply wv_ok hy)
    (with_reducible apply isF)
    (with_reducible apply iss)
    (with_reducible apply wl_cons)
    ((with_reducible apply wo_e); exact rfl)
    (with_reducible apply w_fld)
    ((with_reducible apply wo_e); exact rfl)
    (with_reducible apply w_idx)
    ((with_reducible apply wo_vs); exact rfl)
    ((with_reducible apply wo_e); exact rfl)
    (with_reducible apply w_c)
    ((with_reducible apply gr_sh); exact rfl)
    (with_reducible apply gr_val)
    ((with_reducible apply get_some); exact rfl)
    (with_reducible apply gr_val)
    (with_reducible apply isN_ex)
    ((with_reducible apply get_some); exact rfl)
    (with_reducible apply wl_cons)
    ((with_reducible apply wo_e); exact rfl)
    (with_reducible apply w_lst)
    (with_reducible apply wl_cons)
    ((with_reducible apply wo_e); exact rfl)
    (with_reducible apply w_idx)
    ((with_reducible apply wo_vs); exact rfl)
    ((with_reducible apply wo_e); exact rfl)
    (with_reducible apply w_c)
    ((with_reducible apply gr_sh); exact rfl)
    (with_reducible apply gr_val)
    ((with_reducible apply get_some); exact rfl)
    (with_reducible apply wl_nil)
    (with_reducible apply gfl_cons)
    (with_reducible apply gf_val)
    (with_reducible apply gfl_nil)
    ((with_reducible apply len_ok rfl); exact Nat.le_of_ble_eq_true rfl)
    (with_reducible apply wl_cons)
    ((with_reducible apply wo_e); exact rfl)
    (with_reducible apply w_c)
    (with_reducible apply wl_cons)
    ((with_reducible apply wo_e); exact rfl)
    (with_reducible apply w_c)
    (with_reducible apply wl_nil)
    (with_reducible apply gfl_cons)
    ((with_reducible apply gf_sh); exact rfl)
    (with_reducible apply gfl_cons)
    (with_reducible apply gf_val)
    (with_reducible apply gfl_cons)
    (with_reducible apply gf_val)
    (with_reducible apply gfl_cons)
    (with_reducible apply gf_val)
    (with_reducible apply gfl_cons)
    (with_reducible apply gf_val)
    (with_reducible apply gfl_cons)
    (with_reducible apply gf_val)
    (with_reducible apply gfl_cons)
    (with_reducible apply gf_val)
    (with_reducible apply gfl_nil)
    ((with_reducible apply len_ok rfl); exact Nat.le_of_ble_eq_true rfl)
    ((with_reducible apply get_some); exact rfl)
    (with_reducible apply wf_cons)
    ((with_reducible apply ga_sh); exact rfl)
    (with_reducible refine nf (by simp only [List.set_cons_zero, List.set_cons_succ]; exact rfl) ?_)
    (with_reducible apply ws_cons)
    (with_reducible apply ws_ite)
    (with_reducible apply w_tru)
    (with_reducible apply w_cmpx callF_d)
    ((with_reducible apply wo_e); exact rfl)
    (with_reducible apply w_idx)
    ((with_reducible apply wo_vs); exact rfl)
    ((with_reducible apply wo_e); exact rfl)
    (with_reducible apply w_c)
    ((with_reducible apply gr_sh); exact rfl)
    (with_reducible apply gr_val)
    ((with_reducible apply get_some); exact rfl)
    ((with_reducible apply wo_vs); exact rfl)
    (with_reducible apply gr_val)
    (with_reducible apply cx_ex)
    (with_reducible apply gfl_cons)
    (with_reducible apply gf_val)
    (with_reducible apply gfl_cons)
    ((with_reducible apply gf_sh); exact rfl)
    (with_reducible apply gfl_nil)
    ((with_reducible apply isT); exact rfl)
    (with_reducible refine nf (by simp only [List.map_cons, List.map_nil]; exact rfl) ?_)
    (with_reducible apply wv_ok (O1 _ _))
    (with_reducible apply isF)
    (with_reducible apply isb)
    (with_reducible apply gt_bl)
    ((with_reducible apply br_eqf); exact rfl)
    (with_reducible apply ws_nil)
    (with_reducible apply sq_nx)
    (with_reducible apply ws_nil)
    (with_reducible apply lp_nx)
    (with_reducible apply wf_cons)
    ((with_reducible apply ga_sh); exact rfl)
    (with_reducible refine nf (by simp only [List.set_cons_zero, List.set_cons_succ]; exact rfl) ?_)
    (with_reducible apply ws_cons)
    (with_reducible apply ws_ite)
    (with_reducible apply w_tru)
    (with_reducible apply w_cmpx callF_d)
    ((with_reducible apply wo_e); exact rfl)
    (with_reducible apply w_idx)
    ((with_reducible apply wo_vs); exact rfl)
    ((with_reducible apply wo_e); exact rfl)
    (with_reducible apply w_c)
    ((with_reducible apply gr_sh); exact rfl)
    (with_reducible apply gr_val)
    ((with_reducible apply get_some); exact rfl)
    ((with_reducible apply wo_vs); exact rfl)
    (with_reducible apply gr_val)
    (with_reducible apply cx_ex)
    (with_reducible apply gfl_cons)
    (with_reducible apply gf_val)
    (with_reducible apply gfl_cons)
    ((with_reducible apply gf_sh); exact rfl)
    (with_reducible apply gfl_nil)
    ((with_reducible apply isT); exact rfl)
    (with_reducible refine nf (by simp only [List.map_cons, List.map_nil]; exact rfl) ?_)
    (with_reducible apply wv_ok (O2 _))
    (with_reducible apply isF)
    (with_reducible apply isb)
    (with_reducible apply gt_bl)
    ((with_reducible apply br_eqf); exact rfl)
    (with_reducible apply ws_nil)
    (with_reducible apply sq_nx)
    (with_reducible apply ws_nil)
    (with_reducible apply lp_nx)
    (with_reducible apply wf_cons)
    ((with_reducible apply ga_sh); exact rfl)
    (with_reducible refine nf (by simp only [List.set_cons_zero, List.set_cons_succ]; exact rfl) ?_)
    (with_reducible apply ws_cons)
    (with_reducible apply ws_ite)
    (with_reducible apply w_tru)
    (with_reducible apply w_cmpx callF_d)
    ((with_reducible apply wo_e); exact rfl)
    (with_reducible apply w_idx)
    ((with_reducible apply wo_vs); exact rfl)
    ((with_reducible apply wo_e); exact rfl)
    (with_reducible apply w_c)
    ((with_reducible apply gr_sh); exact rfl)
    (with_reducible apply gr_val)
    ((with_reducible apply get_some); exact rfl)
    ((with_reducible apply wo_vs); exact rfl)
    (with_reducible apply gr_val)
    (with_reducible apply cx_ex)
    (with_reducible apply gfl_cons)
    (with_reducible apply gf_val)
    (with_reducible apply gfl_cons)
    ((with_reducible apply gf_sh); exact rfl)
    (with_reducible apply gfl_nil)
    ((with_reducible apply isT); exact rfl)
    (with_reducible refine nf (by simp only [List.map_cons, List.map_nil]; exact rfl) ?_)
    (with_reducible apply wv_ok (O3 _ _))
    (with_reducible apply isF)
    (with_reducible apply isb)
    (with_reducible apply gt_bl)
    ((with_reducible apply br_eqf); exact rfl)
    (with_reducible apply ws_nil)
    (with_reducible apply sq_nx)
    (with_reducible apply ws_nil)
    (with_reducible apply lp_nx)
    (with_reducible apply wf_cons)
    ((with_reducible apply ga_sh); exact rfl)
    (with_reducible refine nf (by simp only [List.set_cons_zero, List.set_cons_succ]; exact rfl) ?_)
    (with_reducible apply ws_cons)
    (with_reducible apply ws_ite)
    (with_reducible apply w_tru)
    (with_reducible apply w_cmpx callF_d)
    ((with_reducible apply wo_e); exact rfl)
    (with_reducible apply w_idx)
    ((with_reducible apply wo_vs); exact rfl)
    ((with_reducible apply wo_e); exact rfl)
    (with_reducible apply w_c)
    ((with_reducible apply gr_sh); exact rfl)
    (with_reducible apply gr_val)
    ((with_reducible apply get_some); exact rfl)
    ((with_reducible apply wo_vs); exact rfl)
    (with_reducible apply gr_val)
    (with_reducible apply cx_ex)
    (with_reducible apply gfl_cons)
    (with_reducible apply gf_val)
    (with_reducible apply gfl_cons)
    ((with_reducible apply gf_sh); exact rfl)
    (with_reducible apply gfl_nil)
    ((with_reducible apply isT); exact rfl)
    (with_reducible refine nf (by simp only [List.map_cons, List.map_nil]; exact rfl) ?_)
    (with_reducible apply wv_ok (O4 _ _))
    (with_reducible apply isF)
    (with_reducible apply isb)
    (with_reducible apply gt_bl)
    ((with_reducible apply br_eqf); exact rfl)
    (with_reducible apply ws_nil)
    (with_reducible apply sq_nx)
    (with_reducible apply ws_nil)
    (with_reducible apply lp_nx)
    (with_reducible apply wf_cons)
    ((with_reducible apply ga_sh); exact rfl)
    (with_reducible refine nf (by simp only [List.set_cons_zero, List.set_cons_succ]; exact rfl) ?_)
    (with_reducible apply ws_cons)
    (with_reducible apply ws_ite)
    (with_reducible apply w_tru)
    (with_reducible apply w_cmpx callF_d)
    ((with_reducible apply wo_e); exact rfl)
    (with_reducible apply w_idx)
    ((with_reducible apply wo_vs); exact rfl)
    ((with_reducible apply wo_e); exact rfl)
    (with_reducible apply w_c)
    ((with_reducible apply gr_sh); exact rfl)
    (with_reducible apply gr_val)
    ((with_reducible apply get_some); exact rfl)
    ((with_reducible apply wo_vs); exact rfl)
    (with_reducible apply gr_val)
    (with_reducible apply cx_ex)
    (with_reducible apply gfl_cons)
    (with_reducible apply gf_val)
    (with_reducible apply gfl_cons)
    ((with_reducible apply gf_sh); exact rfl)
    (with_reducible apply gfl_nil)
    ((with_reducible apply isT); exact rfl)
    (with_reducible refine nf (by simp only [List.map_cons, List.map_nil]; exact rfl) ?_)
    (with_reducible apply wv_ok (O5 _ _))
    (with_reducible apply isF)
    (with_reducible apply isb)
    (with_reducible apply gt_bl)
    ((with_reducible apply br_eqf); exact rfl)
    (with_reducible apply ws_nil)
    (with_reducible apply sq_nx)
    (with_reducible apply ws_nil)
    (with_reducible apply lp_nx)
    (with_reducible apply wf_cons)
    ((with_reducible apply ga_sh); exact rfl)
    (with_reducible refine nf (by simp only [List.set_cons_zero, List.set_cons_succ]; exact rfl) ?_)
    (with_reducible apply ws_cons)
    (with_reducible apply ws_ite)
    (with_reducible apply w_tru)
    (with_reducible apply w_cmpx callF_d)
    ((with_reducible apply wo_e); exact rfl)
    (with_reducible apply w_idx)
    ((with_reducible apply wo_vs); exact rfl)
    ((with_reducible apply wo_e); exact rfl)
    (with_reducible apply w_c)
    ((with_reducible apply gr_sh); exact rfl)
    (with_reducible apply gr_val)
    ((with_reducible apply get_some); exact rfl)
    ((with_reducible apply wo_vs); exact rfl)
    (with_reducible apply gr_val)
    (with_reducible apply cx_ex)
    (with_reducible apply gfl_cons)
    (with_reducible apply gf_val)
    (with_reducible apply gfl_cons)
    ((with_reducible apply gf_sh); exact rfl)
    (with_reducible apply gfl_nil)
    ((with_reducible apply isT); exact rfl)
    (with_reducible refine nf (by simp only [List.map_cons, List.map_nil]; exact rfl) ?_)
    (with_reducible apply wv_ok (O1 _ _))
    (with_reducible apply isF)
    (with_reducible apply isb)
    (with_reducible apply gt_bl)
    ((with_reducible apply br_eqf); exact rfl)
    (with_reducible apply ws_nil)
    (with_reducible apply sq_nx)
    (with_reducible apply ws_nil)
    (with_reducible apply lp_nx)
    (with_reducible apply wf_cons)
    ((with_reducible apply ga_sh); exact rfl)
    (with_reducible refine nf (by simp only [List.set_cons_zero, List.set_cons_succ]; exact rfl) ?_)
    (with_reducible apply ws_cons)
    (with_reducible apply ws_ite)
    (with_reducible apply w_tru)
    (with_reducible apply w_cmpx callF_d)
    ((with_reducible apply wo_e); exact rfl)
    (with_reducible apply w_idx)
    ((with_reducible apply wo_vs); exact rfl)
    ((with_reducible apply wo_e); exact rfl)
    (with_reducible apply w_c)
    ((with_reducible apply gr_sh); exact rfl)
    (with_reducible apply gr_val)
    ((with_reducible apply get_some); exact rfl)
    ((with_reducible apply wo_vs); exact rfl)
    (with_reducible apply gr_val)
    (with_reducible apply cx_ex)
    (with_reducible apply gfl_cons)
    (with_reducible apply gf_val)
    (with_reducible apply gfl_cons)
    ((with_reducible apply gf_sh); exact rfl)
    (with_reducible apply gfl_nil)
    ((with_reducible apply isT); exact rfl)
    (with_reducible refine nf (by simp only [List.map_cons, List.map_nil]; exact rfl) ?_)
    (with_reducible apply wv_ok (O6 _ _))
    (with_reducible apply isF)
    (with_reducible apply isb)
    (with_reducible apply gt_bl)
    ((with_reducible apply br_eqf); exact rfl)
    (with_reducible apply ws_nil)
    (with_reducible apply sq_nx)
    (with_reducible apply ws_nil)
    (with_reducible apply lp_nx)
    (with_reducible apply wf_nil)
    (with_reducible apply sq_nx)
    (with_reducible apply ws_nil)
    exact q _ _ _ _ _ _ _ _ _ (hp5.mono (by omega))
  unfold b2
  (with_reducible apply ws_cons)
  by_cases hu : u - f = 0
  · (with_reducible apply ws_asg)
    (with_reducible apply w_ife)
    (with_reducible apply w_tru)
    (with_reducible apply w_cmpx callF_d)
    ((with_reducible apply wo_vs); exact rfl)
    ((with_reducible apply wo_e); exact rfl)
    (with_reducible apply w_c)
    ((with_reducible apply gr_sh); exact rfl)
    (with_reducible apply cx_int)
    (with_reducible apply gr_val)
    (with_reducible refine get_some c_neX ?_)
    (with_reducible apply gt_bl)
    (with_reducible apply br_not)
    (with_reducible refine br_dt (by omega) ?_)
    (with_reducible apply w_c)
    ((with_reducible apply ga_sh); exact rfl)
    (with_reducible refine nf (by simp only [List.set_cons_zero, List.set_cons_succ]; exact rfl) ?_)
    (with_reducible apply sq_nx)
    exact key hp3 (by omega) (by unfold Bi; decide)
  · have bu : Bi 200 (u - f) := by unfold Bi; omega
    (with_reducible apply ws_asg)
    (with_reducible apply w_ife)
    (with_reducible apply w_tru)
    (with_reducible apply w_cmpx callF_d)
    ((with_reducible apply wo_vs); exact rfl)
    ((with_reducible apply wo_e); exact rfl)
    (with_reducible apply w_c)
    ((with_reducible apply gr_sh); exact rfl)
    (with_reducible apply cx_int)
    (with_reducible apply gr_val)
    (with_reducible refine get_some c_neX ?_)
    (with_reducible apply gt_bl)
    (with_reducible apply br_not)
    (with_reducible refine br_df (by omega) ?_)
    ((with_reducible apply w_vs); exact rfl)
    ((with_reducible apply ga_sh); exact rfl)
    (with_reducible refine nf (by simp only [List.set_cons_zero, List.set_cons_succ]; exact rfl) ?_)
    (with_reducible apply sq_nx)
    exact key hp3 hu bu
theorem turns : ∀ (l : List D) (j : Nat) (p : D) (s2 s3 s4 s5 s6 s7 s8 s9 s10 : Sl) {K : Fl → List Sl → Prop}, Pen j p → j + 20 * l.length ≤ 10000 → (∀ p' s2 s3 s4 s5 s6 s7 s8 s9 s10, K .nx (fr s0 p' s2 s3 s4 s5 s6 s7 s8 s9 s10)) → (forGo [] (.nm 2) (evB T (cf (k + 12)) 1000000 [] irL) l (fr s0 p s2 s3 s4 s5 s6 s7 s8 s9 s10)).wq K X
  | [], j, p, s2, s3, s4, s5, s6, s7, s8, s9, s10, K, hp, hj, q => wf_nil (q _ _ _ _ _ _ _ _ _ _)
  | x :: l, j, p, s2, s3, s4, s5, s6, s7, s8, s9, s10, K, hp, hj, q => by
    rw [List.length_cons] at hj
    refine wf_cons (ga_sh rfl (nf (b := fr s0 p (.sh x) s3 s4 s5 s6 s7 s8 s9 s10) rfl ?_))
    refine turn hp (by omega) fun p' s3 s4 s5 s6 s7 s8 s9 s10 hp' => lp_nx ?_
    exact turns l (j + 20) p' _ _ _ _ _ _ _ _ _ hp' (by omega) q
theorem main : ∀ ns : List Int, ns.length ≤ 63 → ∃ outs, callF T 1000000 60 15 [.sh (.scr ns)] = .ok (false, .bl true) outs := by
  intro ns h
  refine ⟨[.sh (.scr ns)], ?_⟩
  apply wv_eq
  refine w15 (k := 59) ?_
  rw [ir15_eq]
  unfold c0
  (with_reducible apply ws_cons)
  (with_reducible apply ws_asg)
  (with_reducible apply w_call)
  (with_reducible apply wl_cons)
  ((with_reducible apply wo_vs); exact rfl)
  (with_reducible apply wl_nil)
  ((with_reducible apply w_cop); exact rfl; exact rfl)
  (with_reducible apply wv_ok (pen_ok h))
  (with_reducible refine nf (by simp only [List.set_cons_zero, List.set_cons_succ, argsOut]; exact rfl) ?_)
  ((with_reducible apply ga_ow); exact rfl)
  (with_reducible refine nf (by simp only [List.set_cons_zero, List.set_cons_succ]; exact rfl) ?_)
  (with_reducible apply sq_nx)
  have hp := pen_new ns
  generalize pen ns 0 0 = p at hp ⊢
  unfold c1
  (with_reducible apply ws_cons)
  (with_reducible apply ws_for)
  (with_reducible apply w_rng)
  (with_reducible apply wl_cons)
  ((with_reducible apply wo_e); exact rfl)
  (with_reducible apply w_bin)
  ((with_reducible apply wo_e); exact rfl)
  (with_reducible apply w_c)
  ((with_reducible apply wo_e); exact rfl)
  (with_reducible apply w_call)
  (with_reducible apply wl_cons)
  ((with_reducible apply wo_vo); exact rfl)
  (with_reducible apply wl_cons)
  ((with_reducible apply wo_e); exact rfl)
  (with_reducible apply w_c)
  (with_reducible apply wl_nil)
  ((with_reducible apply w_cop); exact rfl; exact rfl)
  ((with_reducible refine w_draw (show T 11 = some ⟨2, [0], 6, irDraw⟩ from rfl) (by decide) (by assumption) (by omega) (by omega) (by omega) ?_); intro _ _ _ _ _)
  (with_reducible refine nf (by simp only [List.set_cons_zero, List.set_cons_succ]; exact rfl) ?_)
  (with_reducible apply gr_val)
  (with_reducible apply gr_val)
  (with_reducible refine getv_some b_add ?_)
  (with_reducible apply wl_nil)
  (with_reducible apply grl_cons)
  (with_reducible apply gr_val)
  (with_reducible apply grl_nil)
  (with_reducible refine get_some (rng1_ok (by omega) (by omega)) ?_)
  ((with_reducible apply get_some); exact rfl)
  rename_i nn p1 n0 n1 hp1
  refine turns (k := 47) _ 1 p1 _ _ _ _ _ _ _ _ _ hp1 (by rw [List.length_map, ups_len]; omega) ?_
  intros
  unfold c2
  (with_reducible apply sq_nx)
  (with_reducible apply ws_cons)
  (with_reducible apply ws_ret)
  (with_reducible apply w_c)
  (with_reducible apply sq_rt)
  (with_reducible apply fin_rt)
  (with_reducible refine nf (by simp only [List.take_succ_cons, List.take_zero, List.take_nil]; exact rfl) ?_)
  exact ⟨rfl, rfl, rfl⟩
end
end K01
end

section
set_option Elab.async false
set_option linter.all false
set_option maxRecDepth 100000
set_option maxHeartbeats 0
open PySem PySem.W PySem.Calls PyProof.Rows
theorem PySem.Challenge.cw_turncouple_k01_numbers_made_holds : PySem.Challenge.rw_turncouple_k01_numbers_made.Holds := by
  w_on; o_law
  refine HandSHeadRun.head_any (r := OpenLaw.row PySem.Challenge.rw_turncouple_k01_numbers_made) (q := view (OpenLaw.row PySem.Challenge.rw_turncouple_k01_numbers_made).prog [26]) (H := K01.hk) (ob := K01.ob) (M := 20000) (loose := K01.loose) (d := HandSHeadRun.topDef (OpenLaw.row PySem.Challenge.rw_turncouple_k01_numbers_made).prog 26) (kwd := []) K01.ob_eq
    (by kernel_rfl) (fun s => by kernel_rfl) K01.run (by kernel_rfl) (by kernel_rfl) (by kernel_rfl) (by rfl) (by first | assumption | decide +kernel) (by decide +kernel) ⟨rfl, rfl, rfl, rfl, rfl, by decide +kernel⟩ ?hw ?hc
  case hw => w_witness2
  case hc => exact L2.T.walk_T (l := PySem.Challenge.rw_turncouple_k01_numbers_made) (x := "_law_script") (rs := K01.rs) (ms := K01.ms) (M := K01.M) (m := 60) (fuel := 1000000) (k := 60) (id := 15) (hn := 6) rfl (by kernel_rfl) ⟨rfl, by decide, by decide⟩ K01.ok K01.okm K01.mtOk K01.few K01.tnOk K01.sdW (by kernel_rfl) (by kernel_rfl) (fun r hr => by cases hr; rfl) K01.main
end
