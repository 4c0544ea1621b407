import PyProof.Rows.All
import Wide.All
import OpenK.AllK
import Wide.FinOn
import HandS.ForMost
import HandS.ForExc
import HandS.TupLe
import HandS.TupAny
import HandS.WideBits
import HandS.Flow
import HandS.Style
import HandS.Steps
import KE.DataCmp
import KE.DataEq
import KE.DataAny
import KE.DataIsa
import KE.DataFind
import KE.DataMinMax
import KE.SortData
import HandS.Rev
import HandS.SortKw
import HandS.Codes
import PySem.Challenge.RW_allgrades_k56_whole_bags_of_ordinals
set_option Elab.async false
set_option linter.all false
set_option maxRecDepth 100000
/-! AgA: plain data D, the monad M, the worlds, and what it means that a Python value is a datum. -/
namespace AG
open PySem L2

/-- plain data; ref n: the n-th explicit (mutable) object -/
inductive D where
  | non | bl (b : Bool) | int (i : Int) | str (s : Str) | tup (xs : List D) | lst (xs : List D) | ref (n : Nat) | scr (ns : List Int)

/-- explicit objects -/
inductive MO where
  | lst (xs : List D)
  | stream
  | inst (c : Nat) (fs : List (Str × D))
abbrev MH := List MO

/-- what a computation comes to: a value, an exception of a class, nothing that is told, or one of n ways -/
inductive R (α : Type) where
  | ok (a : α) (h : MH)
  | exc (c : Nat) (h : MH)
  | bad
  | pick (n : Nat) (k : Nat → R α)

def R.bind {α β : Type} : R α → (α → MH → R β) → R β
  | .ok a h, f => f a h
  | .exc c h, _ => .exc c h
  | .bad, _ => .bad
  | .pick n k, f => .pick n fun i => (k i).bind f

abbrev M (α : Type) := MH → R α
def M.bind {α β : Type} (m : M α) (f : α → M β) : M β := fun h => (m h).bind fun a h' => f a h'
def M.pure {α : Type} (a : α) : M α := fun h => .ok a h
def M.bad {α : Type} : M α := fun _ => .bad
def M.exc {α : Type} (c : Nat) : M α := fun h => .exc c h
instance : Monad M where
  pure := M.pure
  bind := M.bind

def wpR {α : Type} (r : R α) (Q : α → MH → Prop) (E : Nat → MH → Prop) : Prop :=
  match r with
  | .ok a h => Q a h
  | .exc c h => E c h
  | .bad => False
  | .pick n k => 0 < n ∧ ∀ i, i < n → wpR (k i) Q E

theorem wpR_bind {α β : Type} {r : R α} {f : α → MH → R β} {Q : β → MH → Prop} {E : Nat → MH → Prop} : wpR (r.bind f) Q E ↔ wpR r (fun a h => wpR (f a h) Q E) E := by
  induction r with
  | ok a h => exact Iff.rfl
  | exc c h => exact Iff.rfl
  | bad => exact Iff.rfl
  | pick n k ih => exact ⟨fun h => ⟨h.1, fun i hi => (ih i).mp (h.2 i hi)⟩, fun h => ⟨h.1, fun i hi => (ih i).mpr (h.2 i hi)⟩⟩
theorem wpR_mono {α : Type} {r : R α} {Q Q' : α → MH → Prop} {E E' : Nat → MH → Prop} (h : wpR r Q E) (hQ : ∀ a h, Q a h → Q' a h) (hE : ∀ c h, E c h → E' c h) : wpR r Q' E' := by
  induction r with
  | ok a m => exact hQ _ _ h
  | exc c m => exact hE _ _ h
  | bad => exact h
  | pick n k ih => exact ⟨h.1, fun i hi => ih i (h.2 i hi)⟩

inductive Slot where
  | no
  | v (d : D)
  | own (xs : List D)
abbrev Env := List Slot
inductive Fl where
  | nx (e : Env) | bk (e : Env) | ct (e : Env) | rt (d : D)

/-! ### worlds -/
/-- ρ: where the explicit objects stand; F: what is frozen for ever (tuples, the script's copies); L: lists that are not written any more (or are lent); H: all that is tracked -/
structure Wd where
  ρ : List Addr
  F : Hp
  L : Addr → Option (List V)
  H : Hp

mutual
inductive Rp (K : PySem.W.Frag) (w : Wd) : V → D → Prop
  | non : Rp K w .non .non
  | bl (b : Bool) : Rp K w (.bl b) (.bl b)
  | int (i : Int) : Rp K w (.int i) (.int i)
  | str (x : Str) : Rp K w (.str x) (.str x)
  | tup {a : Addr} {xs : List V} {ds : List D} : SqT K w.F a xs → RpAll K w xs ds → Rp K w (.ref a) (.tup ds)
  | lst {a : Addr} {xs : List V} {ds : List D} : w.L a = some xs → RpAll K w xs ds → Rp K w (.ref a) (.lst ds)
  | ref {a : Addr} {n : Nat} : w.ρ[n]? = some a → Rp K w (.ref a) (.ref n)
  | scr {a : Addr} {ns : List Int} : SqL K w.F a (ns.map V.int) → ns.length ≤ 63 → Rp K w (.ref a) (.scr ns)
inductive RpAll (K : PySem.W.Frag) (w : Wd) : List V → List D → Prop
  | nil : RpAll K w [] []
  | cons {v : V} {vs : List V} {d : D} {ds : List D} : Rp K w v d → RpAll K w vs ds → RpAll K w (v :: vs) (d :: ds)
end

/-- what was told of data stays told -/
structure Grow (w w' : Wd) : Prop where
  rpre : ∃ ν, w'.ρ = w.ρ ++ ν
  fz : ∀ a o, w.F a = some o → w'.F a = some o
  lz : ∀ a o, w.L a = some o → w'.L a = some o
theorem Grow.refl (w : Wd) : Grow w w := ⟨⟨[], by simp⟩, fun _ _ h => h, fun _ _ h => h⟩
theorem Grow.trans {w w1 w2 : Wd} (a : Grow w w1) (b : Grow w1 w2) : Grow w w2 := by
  obtain ⟨n1, e1⟩ := a.rpre
  obtain ⟨n2, e2⟩ := b.rpre
  exact ⟨⟨n1 ++ n2, by rw [e2, e1, List.append_assoc]⟩, fun x o h => b.fz x o (a.fz x o h), fun x o h => b.lz x o (a.lz x o h)⟩
structure Ext (w w' : Wd) : Prop where
  rho : ∃ ν, w'.ρ = w.ρ ++ ν ∧ ∀ a ∈ ν, w.H a = none
  fz : ∀ a o, w.F a = some o → w'.F a = some o
  lz : ∀ a o, w.L a = some o → w'.L a = some o
  kp : ∀ a o, w.H a = some o → a ∉ w.ρ → w'.H a = some o
  nf : ∀ a o, w'.F a = some o → w.F a = some o ∨ w.H a = none
  nl : ∀ a o, w'.L a = some o → w.L a = some o ∨ w.H a = none
  th : ∀ a, w'.H a = none → w.H a = none
theorem Ext.grow {w w' : Wd} (x : Ext w w') : Grow w w' := ⟨let ⟨ν, e, _⟩ := x.rho; ⟨ν, e⟩, x.fz, x.lz⟩

theorem Ext.refl (w : Wd) : Ext w w := ⟨⟨[], by simp, by simp⟩, fun _ _ h => h, fun _ _ h => h, fun _ _ h _ => h, fun _ _ h => .inl h, fun _ _ h => .inl h, fun _ h => h⟩
theorem Ext.trans {w w1 w2 : Wd} (a : Ext w w1) (b : Ext w1 w2) : Ext w w2 := by
  obtain ⟨n1, e1, f1⟩ := a.rho
  obtain ⟨n2, e2, f2⟩ := b.rho
  refine ⟨⟨n1 ++ n2, by rw [e2, e1, List.append_assoc], fun x hx => ?_⟩, fun x o h => b.fz x o (a.fz x o h), fun x o h => b.lz x o (a.lz x o h), fun x o h hn => ?_, fun x o h => ?_, fun x o h => ?_, fun x h => a.th x (b.th x h)⟩
  · rcases List.mem_append.mp hx with h | h
    · exact f1 x h
    · exact a.th x (f2 x h)
  · refine b.kp x o (a.kp x o h hn) fun hm => ?_
    rw [e1] at hm
    rcases List.mem_append.mp hm with q | q
    · exact hn q
    · rw [f1 x q] at h; cases h
  · rcases b.nf x o h with q | q
    · exact a.nf x o q
    · exact .inr (a.th x q)
  · rcases b.nl x o h with q | q
    · exact a.nl x o q
    · exact .inr (a.th x q)

section
variable {K : PySem.W.Frag} {F F' : Hp}
theorem rd_mono {a : Addr} {u : HO} (hf : ∀ a o, F a = some o → F' a = some o) (h : Rd F a u) : Rd F' a u := by
  rcases h with h | ⟨o, h⟩
  · exact .inl (hf _ _ h)
  · exact .inr ⟨o, hf _ _ h⟩
theorem sqT_mono {a : Addr} {xs : List V} (hf : ∀ a o, F a = some o → F' a = some o) (h : SqT K F a xs) : SqT K F' a xs := by
  rcases h with h | h
  · exact .inl (rd_mono hf h)
  · exact .inr h
theorem sqL_mono {a : Addr} {xs : List V} (hf : ∀ a o, F a = some o → F' a = some o) (h : SqL K F a xs) : SqL K F' a xs := by
  rcases h with h | h
  · exact .inl (rd_mono hf h)
  · exact .inr h
end
section
variable {K : PySem.W.Frag} {w w' : Wd}
mutual
theorem Rp.mono (g : Grow w w') : ∀ {v : V} {d : D}, Rp K w v d → Rp K w' v d
  | _, _, .non => .non
  | _, _, .bl b => .bl b
  | _, _, .int i => .int i
  | _, _, .str x => .str x
  | _, _, .tup h r => .tup (sqT_mono g.fz h) (RpAll.mono g r)
  | _, _, .lst h r => .lst (g.lz _ _ h) (RpAll.mono g r)
  | _, _, .ref h => .ref (by
      obtain ⟨ν, e⟩ := g.rpre
      rw [e, List.getElem?_append_left (List.getElem?_eq_some_iff.mp h).1]
      exact h)
  | _, _, .scr h l => .scr (sqL_mono g.fz h) l
theorem RpAll.mono (g : Grow w w') : ∀ {vs : List V} {ds : List D}, RpAll K w vs ds → RpAll K w' vs ds
  | _, _, .nil => .nil
  | _, _, .cons h r => .cons (Rp.mono g h) (RpAll.mono g r)
end
theorem RpAll.length : ∀ {vs : List V} {ds : List D}, RpAll K w vs ds → vs.length = ds.length
  | _, _, .nil => rfl
  | _, _, .cons _ r => by simp [RpAll.length r]
theorem RpAll.get : ∀ {vs : List V} {ds : List D} {i : Nat} {d : D}, RpAll K w vs ds → ds[i]? = some d → ∃ v, vs[i]? = some v ∧ Rp K w v d
  | _, _, _, _, .nil, e => by simp at e
  | _, _, 0, _, .cons h _, e => by simp at e; subst e; exact ⟨_, rfl, h⟩
  | _, _, i + 1, d, .cons _ r, e => by
    obtain ⟨v, h1, h2⟩ := RpAll.get (i := i) (d := d) r (by simpa using e)
    exact ⟨v, by simpa using h1, h2⟩
theorem RpAll.getV : ∀ {vs : List V} {ds : List D} {i : Nat} {v : V}, RpAll K w vs ds → vs[i]? = some v → ∃ d, ds[i]? = some d ∧ Rp K w v d
  | _, _, _, _, .nil, e => by simp at e
  | _, _, 0, _, .cons h _, e => by simp at e; subst e; exact ⟨_, rfl, h⟩
  | _, _, i + 1, v, .cons _ r, e => by
    obtain ⟨d, h1, h2⟩ := RpAll.getV (i := i) (v := v) r (by simpa using e)
    exact ⟨d, by simpa using h1, h2⟩
theorem RpAll.append : ∀ {vs us : List V} {ds es : List D}, RpAll K w vs ds → RpAll K w us es → RpAll K w (vs ++ us) (ds ++ es)
  | _, _, _, _, .nil, s => s
  | _, _, _, _, .cons h r, s => .cons h (RpAll.append r s)
theorem RpAll.take : ∀ {vs : List V} {ds : List D} (n : Nat), RpAll K w vs ds → RpAll K w (vs.take n) (ds.take n)
  | _, _, 0, _ => by simp; exact .nil
  | _, _, _ + 1, .nil => .nil
  | _, _, n + 1, .cons h r => .cons h (RpAll.take n r)
theorem RpAll.drop : ∀ {vs : List V} {ds : List D} (n : Nat), RpAll K w vs ds → RpAll K w (vs.drop n) (ds.drop n)
  | _, _, 0, r => r
  | _, _, _ + 1, .nil => .nil
  | _, _, n + 1, .cons _ r => RpAll.drop n r
theorem RpAll.set {v : V} {d : D} (h : Rp K w v d) : ∀ {vs : List V} {ds : List D} (i : Nat), RpAll K w vs ds → RpAll K w (vs.set i v) (ds.set i d)
  | _, _, _, .nil => .nil
  | _, _, 0, .cons _ t => .cons h t
  | _, _, i + 1, .cons q t => .cons q (RpAll.set h i t)
theorem RpAll.eraseIdx : ∀ {vs : List V} {ds : List D} (i : Nat), RpAll K w vs ds → RpAll K w (vs.eraseIdx i) (ds.eraseIdx i)
  | _, _, _, .nil => .nil
  | _, _, 0, .cons _ t => t
  | _, _, i + 1, .cons q t => .cons q (RpAll.eraseIdx i t)
theorem RpAll.reverse {vs : List V} {ds : List D} (h : RpAll K w vs ds) : RpAll K w vs.reverse ds.reverse := by
  induction ds generalizing vs with
  | nil => cases h; exact .nil
  | cons d ds ih =>
    cases h with
    | cons h1 h2 => rw [List.reverse_cons, List.reverse_cons]; exact (ih h2).append (.cons h1 .nil)
theorem RpAll.dropLast {vs : List V} {ds : List D} (h : RpAll K w vs ds) : RpAll K w vs.dropLast ds.dropLast := by
  rw [List.dropLast_eq_take, List.dropLast_eq_take, h.length]
  exact h.take _
theorem RpAll.ints : ∀ (ns : List Int), RpAll K w (ns.map V.int) (ns.map D.int)
  | [] => .nil
  | n :: ns => .cons (.int n) (RpAll.ints ns)
theorem Ext.rp (x : Ext w w') {v : V} {d : D} (h : Rp K w v d) : Rp K w' v d := h.mono x.grow
theorem Ext.rps (x : Ext w w') {v : List V} {d : List D} (h : RpAll K w v d) : RpAll K w' v d := h.mono x.grow
theorem Ext.at (x : Ext w w') {n : Nat} {a : Addr} (h : w.ρ[n]? = some a) : w'.ρ[n]? = some a := by
  obtain ⟨ν, e⟩ := x.grow.rpre
  rw [e, List.getElem?_append_left (List.getElem?_eq_some_iff.mp h).1]
  exact h
end

/-! ### the objects -/
def MOk (K : PySem.W.Frag) (ca : Nat → Addr) (w : Wd) (a : Addr) : MO → Prop
  | .lst ds => ∃ vs, w.H a = some (.lst vs) ∧ RpAll K w vs ds
  | .stream => ∃ (ns : List Int) (x y z : Int) (vs : List V), w.H a = some (.lst vs) ∧ RpAll K w vs [.scr ns, .int x, .int y, .int z] ∧ 0 ≤ y ∧ 0 ≤ z ∧ z < 2147483647
  | .inst c fs => ∃ dx us, w.H a = some (.ins (ca c) dx ((fs.map (·.1)).zip us)) ∧ RpAll K w us (fs.map (·.2))

structure WOk (K : PySem.W.Frag) (ca : Nat → Addr) (w : Wd) (mh : MH) : Prop where
  sub : ∀ a o, w.F a = some o → w.H a = some o
  subL : ∀ a xs, w.L a = some xs → w.H a = some (.lst xs)
  len : w.ρ.length = mh.length
  nd : w.ρ.Nodup
  obj : ∀ (n : Nat) (a : Addr) (mo : MO), w.ρ[n]? = some a → mh[n]? = some mo → w.F a = none ∧ w.L a = none ∧ MOk K ca w a mo

/-- a list of one's own at a -/
structure Own (K : PySem.W.Frag) (w : Wd) (a : Addr) (ds : List D) : Prop where
  at' : ∃ vs, w.H a = some (.lst vs) ∧ RpAll K w vs ds
  nF : w.F a = none
  nL : w.L a = none
  nr : a ∉ w.ρ
structure FrOk (K : PySem.W.Frag) (w : Wd) (env : Env) (σ : St) : Prop where
  len : σ.length = env.length
  v : ∀ (i : Nat) (d : D), env[i]? = some (.v d) → ∃ v, σ[i]? = some (some v) ∧ Rp K w v d
  own : ∀ (i : Nat) (ds : List D), env[i]? = some (.own ds) → ∃ a, σ[i]? = some (some (.ref a)) ∧ Own K w a ds
  sep : ∀ (i j : Nat) (ds es : List D) (a : Addr), i ≠ j → env[i]? = some (.own ds) → env[j]? = some (.own es) → σ[i]? = some (some (.ref a)) → σ[j]? ≠ some (some (.ref a))

section
variable {K : PySem.W.Frag} {ca : Nat → Addr} {w w' : Wd} {env : Env} {σ : St} {mh : MH}
theorem MOk.tracked {a : Addr} : ∀ {mo : MO}, MOk K ca w a mo → ∃ o, w.H a = some o
  | .lst _, ⟨_, h, _⟩ => ⟨_, h⟩
  | .stream, ⟨_, _, _, _, _, h, _⟩ => ⟨_, h⟩
  | .inst _ _, ⟨_, _, h, _⟩ => ⟨_, h⟩
theorem WOk.at (hw : WOk K ca w mh) {n : Nat} {a : Addr} (h : w.ρ[n]? = some a) : ∃ mo, mh[n]? = some mo ∧ w.F a = none ∧ w.L a = none ∧ MOk K ca w a mo := by
  have l := (List.getElem?_eq_some_iff.mp h).1
  rw [hw.len] at l
  exact ⟨mh[n], List.getElem?_eq_getElem l, hw.obj n a _ h (List.getElem?_eq_getElem l)⟩
theorem WOk.rhoAt (hw : WOk K ca w mh) {n : Nat} {mo : MO} (h : mh[n]? = some mo) : ∃ a, w.ρ[n]? = some a ∧ w.F a = none ∧ w.L a = none ∧ MOk K ca w a mo := by
  have l := (List.getElem?_eq_some_iff.mp h).1
  rw [← hw.len] at l
  exact ⟨w.ρ[n], List.getElem?_eq_getElem l, hw.obj n _ mo (List.getElem?_eq_getElem l) h⟩
theorem WOk.memAt (hw : WOk K ca w mh) {a : Addr} (h : a ∈ w.ρ) : w.F a = none ∧ w.L a = none ∧ ∃ o, w.H a = some o := by
  obtain ⟨n, hn⟩ := List.getElem?_of_mem h
  obtain ⟨mo, _, hf, hl, ho⟩ := hw.at hn
  exact ⟨hf, hl, ho.tracked⟩
theorem Own.ext {a : Addr} {ds : List D} (h : Own K w a ds) (x : Ext w w') : Own K w' a ds := by
  obtain ⟨vs, ha, r⟩ := h.at'
  refine ⟨⟨vs, x.kp _ _ ha h.nr, x.rps r⟩, ?_, ?_, fun hm => ?_⟩
  · cases q : w'.F a with
    | none => rfl
    | some o =>
      rcases x.nf a o q with z | z
      · rw [h.nF] at z; cases z
      · rw [ha] at z; cases z
  · cases q : w'.L a with
    | none => rfl
    | some o =>
      rcases x.nl a o q with z | z
      · rw [h.nL] at z; cases z
      · rw [ha] at z; cases z
  · obtain ⟨ν, e, f⟩ := x.rho
    rw [e] at hm
    rcases List.mem_append.mp hm with q | q
    · exact h.nr q
    · rw [f a q] at ha; cases ha
/-- a frame stays over what an expression does -/
theorem FrOk.ext (hf : FrOk K w env σ) (x : Ext w w') : FrOk K w' env σ := by
  refine ⟨hf.len, fun i d h => ?_, fun i ds h => ?_, hf.sep⟩
  · obtain ⟨v, e, r⟩ := hf.v i d h
    exact ⟨v, e, x.rp r⟩
  · obtain ⟨a, e, o⟩ := hf.own i ds h
    exact ⟨a, e, o.ext x⟩
/-- the objects stay where the tracked heap only grows -/
theorem MOk.grow {a : Addr} {mo : MO} (h : MOk K ca w a mo) (hH : ∀ o, w.H a = some o → w'.H a = some o) (g : Grow w w') : MOk K ca w' a mo := by
  cases mo with
  | lst ds => obtain ⟨vs, e, r⟩ := h; exact ⟨vs, hH _ e, r.mono g⟩
  | stream => obtain ⟨ns, x, y, z, vs, e, q, l⟩ := h; exact ⟨ns, x, y, z, vs, hH _ e, q.mono g, l⟩
  | inst c fs => obtain ⟨dx, us, e, r⟩ := h; exact ⟨dx, us, hH _ e, r.mono g⟩

/-- a new frozen thing at p -/
def Wd.frz (w : Wd) (p : Addr) (o : HO) : Wd := ⟨w.ρ, upd w.F p o, w.L, upd w.H p o⟩
/-- a new thing at p that is not frozen -/
def Wd.put (w : Wd) (p : Addr) (o : HO) : Wd := ⟨w.ρ, w.F, w.L, upd w.H p o⟩
/-- the list at p is not written any more -/
def updL (L : Addr → Option (List V)) (p : Addr) (xs : List V) : Addr → Option (List V) := fun b => if b = p then some xs else L b
def Wd.lfz (w : Wd) (p : Addr) (xs : List V) : Wd := ⟨w.ρ, w.F, updL w.L p xs, upd w.H p (.lst xs)⟩
theorem upd_some {H : Hp} {p a : Addr} {o u : HO} (hp : H p = none) (h : H a = some u) : upd H p o a = some u := by
  rw [upd_ne]
  · exact h
  · intro e; subst e; rw [hp] at h; cases h
theorem updL_same {L : Addr → Option (List V)} {p : Addr} {xs : List V} : updL L p xs p = some xs := by simp [updL]
theorem updL_ne {L : Addr → Option (List V)} {p a : Addr} {xs : List V} (h : a ≠ p) : updL L p xs a = L a := by simp [updL, h]
theorem WOk.fnone (hw : WOk K ca w mh) {p : Addr} (hp : w.H p = none) : w.F p = none := by
  cases q : w.F p with
  | none => rfl
  | some o => rw [hw.sub _ _ q] at hp; cases hp
theorem WOk.lnone (hw : WOk K ca w mh) {p : Addr} (hp : w.H p = none) : w.L p = none := by
  cases q : w.L p with
  | none => rfl
  | some o => rw [hw.subL _ _ q] at hp; cases hp
theorem WOk.nrho (hw : WOk K ca w mh) {p : Addr} (hp : w.H p = none) : p ∉ w.ρ := fun h => by
  obtain ⟨_, _, o, e⟩ := hw.memAt h
  rw [hp] at e; cases e
theorem th_upd {H : Hp} {p : Addr} {o : HO} (hp : H p = none) : ∀ a, upd H p o a = none → H a = none := fun a h => by
  by_cases e : a = p
  · subst e; exact hp
  · rw [← upd_ne (H := H) (o := o) e]; exact h
theorem Ext.frz (hw : WOk K ca w mh) {p : Addr} {o : HO} (hp : w.H p = none) : Ext w (w.frz p o) := by
  refine ⟨⟨[], by simp [Wd.frz], by simp⟩, fun a u h => upd_some (hw.fnone hp) h, fun a u h => h, fun a u h _ => upd_some hp h, fun a u h => ?_, fun a u h => .inl h, th_upd hp⟩
  by_cases e : a = p
  · subst e; exact .inr hp
  · exact .inl (by rw [← upd_ne (H := w.F) (o := o) e]; exact h)
theorem WOk.frz (hw : WOk K ca w mh) {p : Addr} {o : HO} (hp : w.H p = none) : WOk K ca (w.frz p o) mh := by
  have x := Ext.frz (o := o) hw hp
  refine ⟨fun a u h => ?_, fun a xs h => upd_some hp (hw.subL _ _ h), hw.len, hw.nd, fun n a mo h1 h2 => ?_⟩
  · by_cases e : a = p
    · subst e
      have : u = o := by simpa [Wd.frz, upd] using h.symm
      subst this
      exact upd_same
    · have h' : w.F a = some u := by rw [← upd_ne (H := w.F) (o := o) e]; exact h
      exact upd_some hp (hw.sub _ _ h')
  · obtain ⟨f, l, q⟩ := hw.obj n a mo h1 h2
    have ne : a ≠ p := fun e => by
      subst e
      obtain ⟨u, z⟩ := q.tracked
      rw [hp] at z; cases z
    exact ⟨by show upd w.F p o a = none; rw [upd_ne ne]; exact f, l, q.grow (fun u z => upd_some hp z) x.grow⟩
theorem Ext.put (hw : WOk K ca w mh) {p : Addr} {o : HO} (hp : w.H p = none) : Ext w (w.put p o) :=
  ⟨⟨[], by simp [Wd.put], by simp⟩, fun a u h => h, fun a u h => h, fun a u h _ => upd_some hp h, fun a u h => .inl h, fun a u h => .inl h, th_upd hp⟩
theorem WOk.put (hw : WOk K ca w mh) {p : Addr} {o : HO} (hp : w.H p = none) : WOk K ca (w.put p o) mh := by
  refine ⟨fun a u h => upd_some hp (hw.sub _ _ h), fun a xs h => upd_some hp (hw.subL _ _ h), hw.len, hw.nd, fun n a mo h1 h2 => ?_⟩
  obtain ⟨f, l, q⟩ := hw.obj n a mo h1 h2
  exact ⟨f, l, q.grow (fun u z => upd_some hp z) (Ext.put (o := o) hw hp).grow⟩
theorem Ext.lfz (hw : WOk K ca w mh) {p : Addr} {xs : List V} (hp : w.H p = none) : Ext w (w.lfz p xs) := by
  refine ⟨⟨[], by simp [Wd.lfz], by simp⟩, fun a u h => h, fun a u h => ?_, fun a u h _ => upd_some hp h, fun a u h => .inl h, fun a u h => ?_, th_upd hp⟩
  · show updL w.L p xs a = some u
    rw [updL_ne]
    · exact h
    · intro e; subst e; rw [hw.lnone hp] at h; cases h
  · by_cases e : a = p
    · subst e; exact .inr hp
    · exact .inl (by rw [← updL_ne (L := w.L) (xs := xs) e]; exact h)
theorem WOk.lfz (hw : WOk K ca w mh) {p : Addr} {xs : List V} (hp : w.H p = none) : WOk K ca (w.lfz p xs) mh := by
  have x := Ext.lfz (xs := xs) hw hp
  refine ⟨fun a u h => upd_some hp (hw.sub _ _ h), fun a ys h => ?_, hw.len, hw.nd, fun n a mo h1 h2 => ?_⟩
  · by_cases e : a = p
    · subst e
      have h : updL w.L a xs a = some ys := h
      rw [updL_same] at h
      cases h
      exact upd_same
    · have h' : w.L a = some ys := by rw [← updL_ne (L := w.L) (xs := xs) e]; exact h
      exact upd_some hp (hw.subL _ _ h')
  · obtain ⟨f, l, q⟩ := hw.obj n a mo h1 h2
    have ne : a ≠ p := fun e => by
      subst e
      obtain ⟨u, z⟩ := q.tracked
      rw [hp] at z; cases z
    exact ⟨f, by show updL w.L p xs a = none; rw [updL_ne ne]; exact l, q.grow (fun u z => upd_some hp z) x.grow⟩
end

/-! ### the judgements -/
/-- what is wanted of what a part comes to (rep: how it is told by the tracked heap) -/
def PostG {α β : Type} (rep : Wd → β → α → Prop) (K : PySem.W.Frag) (ca : Nat → Addr) (W : WX) (σ : St) (w : Wd) (r : R α) (Q : β → Hp → Prop) : Prop :=
  wpR r (fun d mh => ∀ w' v, Ext w w' → WOk K ca w' mh → rep w' v d → Q v w'.H) (fun cl mh => ∀ w', Ext w w' → WOk K ca w' mh → W (.ref (ca cl)) none σ w'.H)
def denG {α β : Type} (rep : Wd → β → α → Prop) (K : PySem.W.Frag) (ca : Nat → Addr) (W : WX) (m : Env → M α) : St → Hp → (β → Hp → Prop) → Prop :=
  fun σ H Q => ∃ w mh env, w.H = H ∧ WOk K ca w mh ∧ FrOk K w env σ ∧ PostG rep K ca W σ w (m env mh) Q
abbrev repV (K : PySem.W.Frag) : Wd → V → D → Prop := fun w v d => Rp K w v d
abbrev repA (K : PySem.W.Frag) : Wd → List V → List D → Prop := fun w v d => RpAll K w v d
abbrev repB : Wd → Bool → Bool → Prop := fun _ b c => b = c
abbrev Post (K : PySem.W.Frag) := PostG (repV K) K
abbrev ME (X : Cx) (ca : Nat → Addr) (W : WX) (e : Expr) (m : Env → M D) : Prop := PE X e (denG (repV X.K) X.K ca W m)
abbrev MT (X : Cx) (ca : Nat → Addr) (W : WX) (e : Expr) (m : Env → M Bool) : Prop := PT X e (denG repB X.K ca W m)
abbrev MW (X : Cx) (ca : Nat → Addr) (W : WX) (e : Expr) (m : Env → M Bool) : Prop := PW X e (denG repB X.K ca W m)
abbrev MA (X : Cx) (ca : Nat → Addr) (W : WX) (es : List Expr) (m : Env → M (List D)) : Prop := PA X es (denG (repA X.K) X.K ca W m)

theorem PE.mono {X : Cx} {e : Expr} {t t' : TE} (h : PE X e t) (k : ∀ σ H Q, t' σ H Q → t σ H Q) : PE X e t' := ⟨fun pins s σ H Q I q => h.run pins s σ H Q I (k σ H Q q)⟩
theorem PT.mono {X : Cx} {e : Expr} {t t' : TT} (h : PT X e t) (k : ∀ σ H Q, t' σ H Q → t σ H Q) : PT X e t' := ⟨fun pins s σ H Q I q => h.run pins s σ H Q I (k σ H Q q)⟩
theorem PW.mono {X : Cx} {e : Expr} {t t' : TT} (h : PW X e t) (k : ∀ σ H Q, t' σ H Q → t σ H Q) : PW X e t' := ⟨fun wh pins s σ H Q I q => h.run wh pins s σ H Q I (k σ H Q q)⟩
theorem PS.mono {X : Cx} {e : Stmt} {t t' : TS} (h : PS X e t) (k : ∀ D σ H, t' D σ H → t D σ H) : PS X e t' := ⟨fun pins s σ H D I q => h.run pins s σ H D I (k D σ H q)⟩
theorem PSs.mono {X : Cx} {e : List Stmt} {t t' : TS} (h : PSs X e t) (k : ∀ D σ H, t' D σ H → t D σ H) : PSs X e t' := ⟨fun pins s σ H D I q => h.run pins s σ H D I (k D σ H q)⟩
theorem PA.mono {X : Cx} {es : List Expr} {t t' : TA} (h : PA X es t) (k : ∀ σ H Q, t' σ H Q → t σ H Q) : PA X es t' := ⟨fun pos pins s σ H Q I q => h.run pos pins s σ H Q I (k σ H Q q)⟩

section
variable {K : PySem.W.Frag} {ca : Nat → Addr} {W : WX} {w w1 : Wd} {env : Env} {σ : St} {mh : MH}
section
variable {α β : Type} {rep : Wd → β → α → Prop} {Q Q' : β → Hp → Prop}
theorem PostG.ext {r : R α} (h : PostG rep K ca W σ w r Q) (x : Ext w w1) : PostG rep K ca W σ w1 r Q :=
  wpR_mono h (fun _ _ q w' v y hw r => q w' v (x.trans y) hw r) fun _ _ q w' y hw => q w' (x.trans y) hw
theorem PostG.imp {r : R α} (h : PostG rep K ca W σ w r Q) (k : ∀ v H, Q v H → Q' v H) : PostG rep K ca W σ w r Q' :=
  wpR_mono h (fun _ _ q w' v y hw r => k _ _ (q w' v y hw r)) fun _ _ q => q
/-- a first part, then the rest -/
theorem stepG {α2 β2 : Type} {rep2 : Wd → β2 → α2 → Prop} {ma : Env → M α} {f : α → M α2} {Q : β2 → Hp → Prop} {K1 : β → Hp → Prop} (hw : WOk K ca w mh) (hf : FrOk K w env σ) (hp : PostG rep2 K ca W σ w (M.bind (ma env) f mh) Q)
    (k : ∀ w1 mh1 v d, Ext w w1 → WOk K ca w1 mh1 → FrOk K w1 env σ → rep w1 v d → PostG rep2 K ca W σ w1 (f d mh1) Q → K1 v w1.H) : denG rep K ca W ma σ w.H K1 := by
  refine ⟨w, mh, env, rfl, hw, hf, ?_⟩
  refine wpR_mono (wpR_bind.mp hp) (fun d mh' q w1 v x hw1 r => ?_) fun _ _ q => q
  exact k w1 mh' v d x hw1 (hf.ext x) r (PostG.ext (w := w) q x)
/-- a last part -/
theorem lastG {ma : Env → M α} {Q : β → Hp → Prop} (hw : WOk K ca w mh) (hf : FrOk K w env σ) (hp : PostG rep K ca W σ w (ma env mh) Q) : denG rep K ca W ma σ w.H Q := ⟨w, mh, env, rfl, hw, hf, hp⟩
/-- a value at hand -/
theorem PostG.ret {d : α} {v : β} (h : PostG rep K ca W σ w (.ok d mh) Q) (hw : WOk K ca w mh) (r : rep w v d) : Q v w.H := h w v (Ext.refl w) hw r
end
/-- a new tuple -/
theorem PostG.tup {ds : List D} {vs : List V} {Q : VK} (h : Post K ca W σ w (.ok (.tup ds) mh) Q) (hw : WOk K ca w mh) (r : RpAll K w vs ds) : ∀ p, w.H p = none → Q (.ref p) (upd w.H p (.tup vs)) := fun p hp => by
  have x := Ext.frz (o := .tup vs) hw hp
  exact h (w.frz p (.tup vs)) (.ref p) x (hw.frz hp) (.tup (SqT.of upd_same) (x.rps r))
/-- a new copy of the script -/
theorem PostG.scr {ns : List Int} {vs : List V} {Q : VK} (h : Post K ca W σ w (.ok (.scr ns) mh) Q) (hw : WOk K ca w mh) (hl : ns.length ≤ 63) : ∀ p, w.H p = none → Q (.ref p) (upd w.H p (.lst (ns.map V.int))) := fun p hp => by
  have x := Ext.frz (o := .lst (ns.map V.int)) hw hp
  exact h (w.frz p (.lst (ns.map V.int))) (.ref p) x (hw.frz hp) (.scr (SqL.of upd_same) hl)
/-- a new list, not written any more -/
theorem PostG.lst {ds : List D} {vs : List V} {Q : VK} (h : Post K ca W σ w (.ok (.lst ds) mh) Q) (hw : WOk K ca w mh) (r : RpAll K w vs ds) : ∀ p, w.H p = none → Q (.ref p) (upd w.H p (.lst vs)) := fun p hp => by
  have x := Ext.lfz (xs := vs) hw hp
  exact h (w.lfz p vs) (.ref p) x (hw.lfz hp) (.lst updL_same (x.rps r))
end
end AG
/-! AgB: data and the library's data; operators. -/
namespace AG
open PySem L2

mutual
def D.toPy : D → PyData
  | .non => .none
  | .bl b => .bool b
  | .int i => .int i
  | .str s => .str s
  | .tup xs => .tuple (D.toPys xs)
  | .lst xs => .list (D.toPys xs)
  | .ref _ => .none
  | .scr _ => .none
def D.toPys : List D → List PyData
  | [] => []
  | x :: xs => D.toPy x :: D.toPys xs
end
theorem D.toPys_map : ∀ xs : List D, D.toPys xs = xs.map D.toPy
  | [] => rfl
  | x :: xs => by rw [D.toPys, D.toPys_map xs]; rfl

/-- no explicit object in it, nested at most n deep -/
def D.sm : Nat → D → Bool
  | _, .non => true
  | _, .bl _ => true
  | _, .int _ => true
  | _, .str _ => true
  | _, .ref _ => false
  | _, .scr _ => false
  | 0, .tup _ => false
  | 0, .lst _ => false
  | n + 1, .tup xs => xs.all (D.sm n)
  | n + 1, .lst xs => xs.all (D.sm n)
/-- no list in it -/
def D.nl : Nat → D → Bool
  | _, .lst _ => false
  | 0, .tup _ => false
  | n + 1, .tup xs => xs.all (D.nl n)
  | _, _ => true

theorem depthAll_le {n : Nat} : ∀ {xs : List D}, (∀ x ∈ xs, x.toPy.depth ≤ n) → PyData.depthAll (D.toPys xs) ≤ n
  | [], _ => by simp [D.toPys, PyData.depthAll]
  | x :: xs, h => by
    rw [D.toPys, PyData.depthAll]
    have h1 := h x List.mem_cons_self
    have h2 := depthAll_le (xs := xs) fun y hy => h y (List.mem_cons_of_mem _ hy)
    omega
theorem sm_depth : ∀ {n : Nat} {d : D}, D.sm n d = true → d.toPy.depth ≤ n
  | n, .non, _ => by simp [D.toPy, PyData.depth]
  | n, .bl _, _ => by simp [D.toPy, PyData.depth]
  | n, .int _, _ => by simp [D.toPy, PyData.depth]
  | n, .str _, _ => by simp [D.toPy, PyData.depth]
  | n, .ref _, h => by simp [D.toPy, PyData.depth]
  | n, .scr _, h => by simp [D.toPy, PyData.depth]
  | 0, .tup xs, h => by simp [D.sm] at h
  | 0, .lst xs, h => by simp [D.sm] at h
  | n + 1, .tup xs, h => by
    simp only [D.sm, List.all_eq_true] at h
    rw [D.toPy, PyData.depth]
    have := depthAll_le (n := n) (xs := xs) fun x hx => sm_depth (h x hx)
    omega
  | n + 1, .lst xs, h => by
    simp only [D.sm, List.all_eq_true] at h
    rw [D.toPy, PyData.depth]
    have := depthAll_le (n := n) (xs := xs) fun x hx => sm_depth (h x hx)
    omega
theorem plainAll_of {xs : List D} (h : ∀ x ∈ xs, x.toPy.plain = true) : PyData.plainAll (D.toPys xs) = true := by
  induction xs with
  | nil => simp [D.toPys, PyData.plainAll]
  | cons x xs ih => rw [D.toPys, PyData.plainAll, h x List.mem_cons_self, ih fun y hy => h y (List.mem_cons_of_mem _ hy)]; rfl
mutual
theorem plain_toPy : ∀ d : D, d.toPy.plain = true
  | .non => by simp [D.toPy, PyData.plain]
  | .bl _ => by simp [D.toPy, PyData.plain]
  | .int _ => by simp [D.toPy, PyData.plain]
  | .str _ => by simp [D.toPy, PyData.plain]
  | .ref _ => by simp [D.toPy, PyData.plain]
  | .scr _ => by simp [D.toPy, PyData.plain]
  | .tup xs => by rw [D.toPy, PyData.plain]; exact plainAll_toPy xs
  | .lst xs => by rw [D.toPy, PyData.plain]; exact plainAll_toPy xs
theorem plainAll_toPy : ∀ xs : List D, PyData.plainAll (D.toPys xs) = true
  | [] => by simp [D.toPys, PyData.plainAll]
  | x :: xs => by rw [D.toPys, PyData.plainAll, plain_toPy x, plainAll_toPy xs]; rfl
end

section
variable {K : PySem.W.Frag} {w : Wd}
theorem sqT_sub {F H : Hp} {a : Addr} {xs : List V} (hs : ∀ a o, F a = some o → H a = some o) (h : SqT K F a xs) : SqT K H a xs := sqT_mono hs h
structure Subs (w : Wd) : Prop where
  f : ∀ a o, w.F a = some o → w.H a = some o
  l : ∀ a xs, w.L a = some xs → w.H a = some (.lst xs)
theorem WOk.subs {ca : Nat → Addr} {mh : MH} (hw : WOk K ca w mh) : Subs w := ⟨hw.sub, hw.subL⟩
theorem dpAll_of {n : Nat} (ih : ∀ {v : V} {d : D}, Rp K w v d → D.sm n d = true → Dp K w.H v d.toPy) : ∀ {vs : List V} {ds : List D}, RpAll K w vs ds → ds.all (D.sm n) = true → DpAll K w.H vs (D.toPys ds)
  | _, _, .nil, _ => .nil
  | _, _, .cons h r, q => by
    simp only [List.all_cons, Bool.and_eq_true] at q
    exact .cons (ih h q.1) (dpAll_of ih r q.2)
theorem Rp.dp (hs : Subs w) : ∀ {n : Nat} {v : V} {d : D}, Rp K w v d → D.sm n d = true → Dp K w.H v d.toPy
  | _, _, _, .non, _ => .non
  | _, _, _, .bl b, _ => .bl b
  | _, _, _, .int i, _ => .int i
  | _, _, _, .str x, _ => .str x
  | 0, _, _, .tup _ _, q => by simp [D.sm] at q
  | 0, _, _, .lst _ _, q => by simp [D.sm] at q
  | n + 1, _, _, .tup h r, q => .tup (sqT_sub hs.f h) (dpAll_of (fun a b => Rp.dp hs a b) r (by simpa [D.sm] using q))
  | n + 1, _, _, .lst h r, q => .lst (.of (hs.l _ _ h)) (dpAll_of (fun a b => Rp.dp hs a b) r (by simpa [D.sm] using q))
  | _, _, _, .ref _, q => by simp [D.sm] at q
  | _, _, _, .scr _ _, q => by simp [D.sm] at q
end

/-! ### comparisons of data -/
def D.eqv (d e : D) : Bool := PyData.eqv d.toPy e.toPy
def D.lt (d e : D) : Bool := PySem.W.dataLt d.toPy e.toPy
def D.alike (d e : D) : Bool := PySem.W.alike d.toPy e.toPy
def D.isNon : D → Bool | .non => true | .ref _ => true | .scr _ => true | _ => false
theorem ne_none {d : D} (h : d.isNon = false) : d.toPy ≠ .none := by
  cases d <;> simp [D.isNon, D.toPy] at h ⊢

section
variable {X : Cx}
def rEq2 (K : PySem.W.Frag) (g : Bool → Bool) : R2 := fun x y H Q => ∃ d e, Dp K H x d ∧ Dp K H y e ∧ d.plain = true ∧ e.plain = true ∧ d.depth ≤ 64 ∧ Q (.bl (g (PyData.eqv d e))) H
theorem op_eq2 (hu : X.A.units + 64 < cLine) : OpR X (compareOp .Eq) (rEq2 X.K id) := by
  intro pins s σ H x y v u Q I rx ry h
  obtain ⟨d, e, hd, he, sd, se, dd, q⟩ := h
  obtain ⟨as, r1⟩ := Dp.reads I d x v hd rx
  obtain ⟨bs, r2⟩ := Dp.reads I e y u he ry
  exact PySem.SeqAt.eq_plain r1 r2 sd se (by have := Nat.min_le_left d.depth e.depth; omega) ⟨.bl _, H, I, rfl, q⟩
theorem op_ne2 (hu : X.A.units + 64 < cLine) : OpR X (compareOp .NotEq) (rEq2 X.K not) := by
  intro pins s σ H x y v u Q I rx ry h
  obtain ⟨d, e, hd, he, sd, se, dd, q⟩ := h
  obtain ⟨as, r1⟩ := Dp.reads I d x v hd rx
  obtain ⟨bs, r2⟩ := Dp.reads I e y u he ry
  exact PySem.SeqAt.ne_plain r1 r2 sd se (by have := Nat.min_le_left d.depth e.depth; omega) ⟨.bl _, H, I, rfl, q⟩
def rCm2 (K : PySem.W.Frag) (g : PyData → PyData → Bool) : R2 := fun x y H Q => ∃ d e, Dp K H x d ∧ Dp K H y e ∧ PySem.W.alike d e = true ∧ d ≠ .none ∧ d.depth ≤ 64 ∧ Q (.bl (g d e)) H
theorem op_lt2 (hu : X.A.units + 64 < cLine) : OpR X (compareOp .Lt) (rCm2 X.K fun d e => PySem.W.dataLt d e) := by
  intro pins s σ H x y v u Q I rx ry h
  obtain ⟨d, e, hd, he, sd, se, dd, q⟩ := h
  obtain ⟨as, r1⟩ := Dp.reads I d x v hd rx
  obtain ⟨bs, r2⟩ := Dp.reads I e y u he ry
  exact PySem.W.lt_data r1 r2 sd se (by have := Nat.min_le_left d.depth e.depth; omega) ⟨.bl _, H, I, rfl, q⟩
theorem op_gt2 (hu : X.A.units + 64 < cLine) : OpR X (compareOp .Gt) (rCm2 X.K fun d e => PySem.W.dataLt e d) := by
  intro pins s σ H x y v u Q I rx ry h
  obtain ⟨d, e, hd, he, sd, se, dd, q⟩ := h
  obtain ⟨as, r1⟩ := Dp.reads I d x v hd rx
  obtain ⟨bs, r2⟩ := Dp.reads I e y u he ry
  exact PySem.W.gt_data r1 r2 sd se (by have := Nat.min_le_left d.depth e.depth; omega) ⟨.bl _, H, I, rfl, q⟩
theorem op_le2 (hu : X.A.units + 64 < cLine) : OpR X (compareOp .LtE) (rCm2 X.K fun d e => !PySem.W.dataLt e d) := by
  intro pins s σ H x y v u Q I rx ry h
  obtain ⟨d, e, hd, he, sd, se, dd, q⟩ := h
  obtain ⟨as, r1⟩ := Dp.reads I d x v hd rx
  obtain ⟨bs, r2⟩ := Dp.reads I e y u he ry
  exact PySem.W.le_data r1 r2 sd se (by have := Nat.min_le_left d.depth e.depth; omega) ⟨.bl _, H, I, rfl, q⟩
theorem op_ge2 (hu : X.A.units + 64 < cLine) : OpR X (compareOp .GtE) (rCm2 X.K fun d e => !PySem.W.dataLt d e) := by
  intro pins s σ H x y v u Q I rx ry h
  obtain ⟨d, e, hd, he, sd, se, dd, q⟩ := h
  obtain ⟨as, r1⟩ := Dp.reads I d x v hd rx
  obtain ⟨bs, r2⟩ := Dp.reads I e y u he ry
  exact PySem.W.ge_data r1 r2 sd se (by have := Nat.min_le_left d.depth e.depth; omega) ⟨.bl _, H, I, rfl, q⟩
def rIn2 (K : PySem.W.Frag) (g : Bool → Bool) : R2 := fun x y H Q => ∃ d ds, Dp K H x d ∧ (Dp K H y (.list ds) ∨ Dp K H y (.tuple ds)) ∧ d.plain = true ∧ PyData.plainAll ds = true ∧ d.depth ≤ 64 ∧ Q (.bl (g (ds.any fun z => PyData.eqv z d))) H
theorem op_in2 (hu : X.A.units + 66 < cLine) : OpR X (compareOp .In) (rIn2 X.K id) := by
  intro pins s σ H x y v u Q I rx ry h
  obtain ⟨d, ds, hd, he, sd, se, dd, q⟩ := h
  obtain ⟨as, r1⟩ := Dp.reads I d x v hd rx
  rcases he with he | he
  · obtain ⟨bs, r2⟩ := Dp.reads I _ y u he ry
    exact PySem.SeqAt.in_list_data r2 r1 se sd (by have := Nat.min_le_right (PyData.depthAll ds) d.depth; omega) ⟨.bl _, H, I, rfl, q⟩
  · obtain ⟨bs, r2⟩ := Dp.reads I _ y u he ry
    exact PySem.SeqAt.in_tuple_data r2 r1 se sd (by have := Nat.min_le_right (PyData.depthAll ds) d.depth; omega) ⟨.bl _, H, I, rfl, q⟩
theorem op_nin2 (hu : X.A.units + 66 < cLine) : OpR X (compareOp .NotIn) (rIn2 X.K not) := by
  intro pins s σ H x y v u Q I rx ry h
  obtain ⟨d, ds, hd, he, sd, se, dd, q⟩ := h
  obtain ⟨as, r1⟩ := Dp.reads I d x v hd rx
  rcases he with he | he
  · obtain ⟨bs, r2⟩ := Dp.reads I _ y u he ry
    exact PySem.SeqAt.notIn_list_data r2 r1 se sd (by have := Nat.min_le_right (PyData.depthAll ds) d.depth; omega) ⟨.bl _, H, I, rfl, q⟩
  · obtain ⟨bs, r2⟩ := Dp.reads I _ y u he ry
    exact PySem.SeqAt.notIn_tuple_data r2 r1 se sd (by have := Nat.min_le_right (PyData.depthAll ds) d.depth; omega) ⟨.bl _, H, I, rfl, q⟩
end

/-! ### operators by data -/
abbrev DOp := D → D → M D
def OpM (K : PySem.W.Frag) (ca : Nat → Addr) (r : R2) (f : DOp) : Prop :=
  ∀ (W : WX) (σ : St) (w : Wd) (mh : MH) (x y : V) (d e : D) (Q : VK), WOk K ca w mh → Rp K w x d → Rp K w y e → Post K ca W σ w (f d e mh) Q → r x y w.H Q

def mBin (f : DOp) (ma mb : Env → M D) : Env → M D := fun env => M.bind (ma env) fun x => M.bind (mb env) fun y => f x y

section
variable {X : Cx} {ca : Nat → Addr} {W : WX} {a b : Expr} {ma mb : Env → M D} {r : R2} {f : DOp} {pos : Pos}
theorem tOp_of (hf : OpM X.K ca r f) {σ : St} {H : Hp} {Q : VK} (h : denG (repV X.K) X.K ca W (mBin f ma mb) σ H Q) : tOp r (denG (repV X.K) X.K ca W ma) (denG (repV X.K) X.K ca W mb) σ H Q := by
  obtain ⟨w, mh, env, e, hw, hfr, hp⟩ := h
  subst e
  refine stepG hw hfr hp fun w1 mh1 v1 d1 x1 hw1 hf1 r1 hp1 => ?_
  refine stepG hw1 hf1 hp1 fun w2 mh2 v2 d2 x2 hw2 hf2 r2 hp2 => ?_
  exact hf W σ w2 mh2 v1 v2 d1 d2 Q hw2 (x2.rp r1) r2 hp2
theorem me_op {op : Operator} (ho : OpR X (binaryOp op) r) (hf : OpM X.K ca r f) (ha : ME X ca W a ma) (hb : ME X ca W b mb) : ME X ca W (.BinOp a op b pos) (mBin f ma mb) :=
  PE.mono (pe_op ho ha hb) fun _ _ _ h => tOp_of hf h
theorem me_cmp {op : CmpOp} (ho : OpR X (compareOp op) r) (hf : OpM X.K ca r f) (ha : ME X ca W a ma) (hb : ME X ca W b mb) (hm : behindInMarks op b = false) : ME X ca W (.Compare a [op] [b] pos) (mBin f ma mb) :=
  PE.mono (pe_cmpR ho ha hb hm) fun _ _ _ h => tOp_of hf h
end

/-! what an op gives where it raises nothing -/
section
variable {K : PySem.W.Frag} {ca : Nat → Addr}
theorem OpM.or {r r' : R2} {f g : DOp} (c : D → D → Bool) (h : OpM K ca r f) (h' : OpM K ca r' g) : OpM K ca (fun x y H Q => r x y H Q ∨ r' x y H Q) (fun d e => if c d e = true then f d e else g d e) := by
  intro W σ w mh x y d e Q hw rx ry hp
  by_cases q : c d e = true
  · simp only [q, if_true] at hp; exact .inl (h W σ w mh x y d e Q hw rx ry hp)
  · simp only [q, if_false] at hp; exact .inr (h' W σ w mh x y d e Q hw rx ry hp)
theorem opm_int {g : Int → Int → V} {g' : Int → Int → D} (hg : ∀ K w i j, Rp K w (g i j) (g' i j)) : OpM K ca (rI0 g) (fun d e => match d, e with | .int i, .int j => M.pure (g' i j) | _, _ => M.bad) := by
  intro W σ w mh x y d e Q hw rx ry hp
  cases rx <;> cases ry <;> first | exact hp.elim | skip
  exact ⟨_, _, rfl, rfl, PostG.ret hp hw (hg _ _ _ _)⟩
theorem opm_intC {C : Int → Int → Prop} {c : Int → Int → Bool} {g : Int → Int → V} {g' : Int → Int → D} (hc : ∀ i j, c i j = true → C i j) (hg : ∀ K w i j, Rp K w (g i j) (g' i j)) :
    OpM K ca (rI C g) (fun d e => match d, e with | .int i, .int j => if c i j = true then M.pure (g' i j) else M.bad | _, _ => M.bad) := by
  intro W σ w mh x y d e Q hw rx ry hp
  cases rx <;> cases ry <;> first | exact hp.elim | skip
  rename_i i j
  by_cases q : c i j = true
  · simp only [q, if_true] at hp; exact ⟨_, _, rfl, rfl, hc _ _ q, PostG.ret hp hw (hg _ _ _ _)⟩
  · simp only [q] at hp; exact hp.elim
end
end AG
/-! AgC: expressions. -/
namespace AG
open PySem L2

theorem sizeLine_lit : sizeLine = 16777216 := sizeLine_eq
def BIG : Nat := 2 ^ 60000
theorem BIG_of {n k : Nat} (h : n < 2 ^ k) (hk : k ≤ 60000) : n < BIG := Nat.lt_of_lt_of_le h (Nat.pow_le_pow_right (by decide) hk)
def mulOk (i j : Int) : Bool := decide (i.natAbs < BIG) && decide (j.natAbs < BIG)
theorem mulOk_x {i j : Int} (h : mulOk i j = true) : CMulX i j := by
  unfold mulOk at h
  simp only [Bool.and_eq_true, decide_eq_true_eq] at h
  exact mulx_ok (a := 60000) (b := 60000) h.1 h.2 (by decide)

/-! ### operators -/
def opAdd : DOp := fun d e => match d, e with
  | .int i, .int j => M.pure (.int (i + j))
  | .str s, .str t => if s.length + t.length ≤ 16777216 then M.pure (.str (s ++ t)) else M.bad
  | .tup xs, .tup ys => if xs.length + ys.length ≤ 16777216 then M.pure (.tup (xs ++ ys)) else M.bad
  | .lst xs, .lst ys => if xs.length + ys.length ≤ 16777216 then M.pure (.lst (xs ++ ys)) else M.bad
  | _, _ => M.bad
def opSub : DOp := fun d e => match d, e with
  | .int i, .int j => M.pure (.int (i - j))
  | _, _ => M.bad
def opMul : DOp := fun d e => match d, e with
  | .int i, .int j => if mulOk i j = true then M.pure (.int (i * j)) else M.bad
  | .lst xs, .int k => if 0 ≤ k ∧ k < 1000000 ∧ xs.length * k.toNat ≤ 16777216 then M.pure (.lst (List.replicate k.toNat xs).flatten) else M.bad
  | _, _ => M.bad
def opDiv : DOp := fun d e => match d, e with
  | .int i, .int j => if 0 < j ∧ j.natAbs.log2 < 9000 then M.pure (.int (i / j)) else M.bad
  | _, _ => M.bad
def opMod : DOp := fun d e => match d, e with
  | .int i, .int j => if 0 < j then M.pure (.int (i % j)) else M.bad
  | _, _ => M.bad
def opPow : DOp := fun d e => match d, e with
  | .int i, .int j => if 0 ≤ j ∧ j ≤ 1000000 ∧ i.natAbs < 18446744073709551616 then M.pure (.int (i ^ j.toNat)) else M.bad
  | _, _ => M.bad
def opEq : DOp := fun d e => match d, e with
  | .int i, .int j => M.pure (.bl (decide (i = j)))
  | d, e => if D.sm 60 d && D.sm 60 e then M.pure (.bl (D.eqv d e)) else M.bad
def opNe : DOp := fun d e => match d, e with
  | .int i, .int j => M.pure (.bl (!decide (i = j)))
  | d, e => if D.sm 60 d && D.sm 60 e then M.pure (.bl (!D.eqv d e)) else M.bad
def cmpOk (d e : D) : Bool := D.sm 60 d && D.sm 60 e && D.alike d e && !d.isNon
def opLt : DOp := fun d e => match d, e with
  | .int i, .int j => M.pure (.bl (decide (i < j)))
  | d, e => if cmpOk d e then M.pure (.bl (D.lt d e)) else M.bad
def opGt : DOp := fun d e => match d, e with
  | .int i, .int j => M.pure (.bl (decide (j < i)))
  | d, e => if cmpOk d e then M.pure (.bl (D.lt e d)) else M.bad
def opLe : DOp := fun d e => match d, e with
  | .int i, .int j => M.pure (.bl (decide (i ≤ j)))
  | d, e => if cmpOk d e then M.pure (.bl (!D.lt e d)) else M.bad
def opGe : DOp := fun d e => match d, e with
  | .int i, .int j => M.pure (.bl (decide (j ≤ i)))
  | d, e => if cmpOk d e then M.pure (.bl (!D.lt d e)) else M.bad
def D.items : D → Option (List D)
  | .lst xs => some xs
  | .tup xs => some xs
  | _ => none
def opIn (g : Bool → Bool) : DOp := fun d e => match e with
  | .lst xs => if D.sm 60 d && D.sm 60 e then M.pure (.bl (g (xs.any fun z => D.eqv z d))) else M.bad
  | .tup xs => if D.sm 60 d && D.sm 60 e then M.pure (.bl (g (xs.any fun z => D.eqv z d))) else M.bad
  | _ => M.bad
/-- x is y, y None or a truth -/
def opIs (g : Bool → Bool) : DOp := fun d e => match e with
  | .non => match d with
    | .non => M.pure (.bl (g true))
    | _ => M.pure (.bl (g false))
  | .bl b => match d with
    | .bl c => M.pure (.bl (g (decide (c = b))))
    | _ => M.bad
  | _ => M.bad
def opIx : DOp := fun d e => match d, e with
  | .tup xs, .int i => match atI xs i with | some x => M.pure x | none => M.bad
  | .lst xs, .int i => match atI xs i with | some x => M.pure x | none => M.bad
  | .str s, .int i => match atI s.cps.toList i with | some c => if s.length ≤ 16777216 then M.pure (.str ⟨#[c]⟩) else M.bad | none => M.bad
  | .scr ns, .int i => match atI ns i with | some x => M.pure (.int x) | none => M.bad
  | .ref n, .int i => fun h => match h[n]? with
    | some (.lst xs) => match atI xs i with | some x => .ok x h | none => .bad
    | _ => .bad
  | _, _ => M.bad

section
variable {K : PySem.W.Frag} {ca : Nat → Addr}
theorem sub_of {w : Wd} {mh : MH} (hw : WOk K ca w mh) : ∀ a o, w.F a = some o → w.H a = some o := hw.sub
theorem opm_add : OpM K ca (fun x y H Q => rI0 (fun i j => .int (i + j)) x y H Q ∨ (∃ i j, x = .str i ∧ y = .str j ∧ i.length + j.length ≤ sizeLine ∧ Q (.str (i ++ j)) H) ∨ rCatA K x y H Q ∨ rCat x y H Q) opAdd := by
  intro W σ w mh x y d e Q hw rx ry hp
  rw [sizeLine_lit]
  cases rx with
  | int i => cases ry with
    | int j => exact .inl ⟨_, _, rfl, rfl, PostG.ret hp hw (.int _)⟩
    | _ => exact hp.elim
  | str i => cases ry with
    | str j =>
      by_cases q : i.length + j.length ≤ 16777216
      · simp only [opAdd, q, if_true] at hp
        exact .inr (.inl ⟨_, _, rfl, rfl, q, PostG.ret hp hw (.str _)⟩)
      · simp only [opAdd, q, if_false] at hp; exact hp.elim
    | _ => exact hp.elim
  | tup h1 r1 => cases ry with
    | tup h2 r2 =>
      rename_i a xs ds b ys es
      by_cases q : ds.length + es.length ≤ 16777216
      · simp only [opAdd, q, if_true] at hp
        have hr := r1.append r2
        refine .inr (.inr (.inl ⟨a, b, xs, ys, rfl, rfl, sqT_sub hw.sub h1, sqT_sub hw.sub h2, by rw [r1.length, r2.length, sizeLine_lit]; exact q, fun e => ?_, fun _ e => ?_, fun _ _ => PostG.tup hp hw hr⟩))
        · subst e; cases r1; exact PostG.ret hp hw (.tup h2 r2)
        · subst e; cases r2; exact PostG.ret hp hw (by rw [List.append_nil]; exact .tup h1 r1)
      · simp only [opAdd, q, if_false] at hp; exact hp.elim
    | _ => exact hp.elim
  | lst h1 r1 => cases ry with
    | lst h2 r2 =>
      rename_i a xs ds b ys es
      by_cases q : ds.length + es.length ≤ 16777216
      · simp only [opAdd, q, if_true] at hp
        exact .inr (.inr (.inr ⟨a, b, xs, ys, rfl, rfl, hw.subL _ _ h1, hw.subL _ _ h2, by rw [r1.length, r2.length, sizeLine_lit]; exact q, PostG.lst hp hw (r1.append r2)⟩))
      · simp only [opAdd, q, if_false] at hp; exact hp.elim
    | _ => exact hp.elim
  | _ => exact hp.elim
theorem opm_sub : OpM K ca (rI0 fun i j => .int (i - j)) opSub := opm_int fun _ _ _ _ => .int _
theorem RpAll.repl {w : Wd} {vs : List V} {ds : List D} (h : RpAll K w vs ds) : ∀ n : Nat, RpAll K w (List.replicate n vs).flatten (List.replicate n ds).flatten
  | 0 => .nil
  | n + 1 => by rw [List.replicate_succ, List.replicate_succ, List.flatten_cons, List.flatten_cons]; exact h.append (RpAll.repl h n)
theorem opm_mul : OpM K ca (fun x y H Q => rI CMulX (fun i j => .int (i * j)) x y H Q ∨ rRep x y H Q) opMul := by
  intro W σ w mh x y d e Q hw rx ry hp
  cases rx with
  | int i => cases ry with
    | int j =>
      by_cases q : mulOk i j = true
      · simp only [opMul, q, if_true] at hp; exact .inl ⟨_, _, rfl, rfl, mulOk_x q, PostG.ret hp hw (.int _)⟩
      · simp only [opMul, q] at hp; exact hp.elim
    | _ => exact hp.elim
  | lst h1 r1 => cases ry with
    | int j =>
      rename_i a xs ds
      by_cases q : 0 ≤ j ∧ j < 1000000 ∧ ds.length * j.toNat ≤ 16777216
      · simp only [opMul, q, if_true] at hp
        exact .inr ⟨a, j, xs, rfl, rfl, hw.subL _ _ h1, by omega, by omega, by rw [r1.length, sizeLine_lit]; exact q.2.2, PostG.lst hp hw (r1.repl _)⟩
      · simp only [opMul, q, if_false] at hp; exact hp.elim
    | _ => exact hp.elim
  | _ => cases ry <;> exact hp.elim
theorem opm_div : OpM K ca (rI CDivW fun i j => .int (i / j)) opDiv := by
  intro W σ w mh x y d e Q hw rx ry hp
  cases rx <;> cases ry <;> first | exact hp.elim | skip
  rename_i i j
  by_cases q : 0 < j ∧ j.natAbs.log2 < 9000
  · simp only [opDiv, q, if_true] at hp; exact ⟨_, _, rfl, rfl, q, PostG.ret hp hw (.int _)⟩
  · simp only [opDiv, q, if_false] at hp; exact hp.elim
theorem opm_mod : OpM K ca (rI (fun _ j => 0 < j) fun i j => .int (i % j)) opMod := by
  intro W σ w mh x y d e Q hw rx ry hp
  cases rx <;> cases ry <;> first | exact hp.elim | skip
  rename_i i j
  by_cases q : 0 < j
  · simp only [opMod, q, if_true] at hp; exact ⟨_, _, rfl, rfl, q, PostG.ret hp hw (.int _)⟩
  · simp only [opMod, q, if_false] at hp; exact hp.elim
theorem sm2 {d e : D} (h : (D.sm 60 d && D.sm 60 e) = true) : D.sm 60 d = true ∧ D.sm 60 e = true := by simpa using h
theorem sm64 {d : D} (h : D.sm 60 d = true) : d.toPy.depth ≤ 64 := Nat.le_trans (sm_depth h) (by decide)
theorem eq2_of {g : Bool → Bool} {W : WX} {σ : St} {w : Wd} {mh : MH} {x y : V} {d e : D} {Q : VK} (hw : WOk K ca w mh) (rx : Rp K w x d) (ry : Rp K w y e)
    (hp : Post K ca W σ w ((if D.sm 60 d && D.sm 60 e then M.pure (.bl (g (D.eqv d e))) else M.bad : M D) mh) Q) : rEq2 K g x y w.H Q := by
  by_cases q : (D.sm 60 d && D.sm 60 e) = true
  · rw [if_pos q] at hp
    exact ⟨_, _, rx.dp hw.subs (sm2 q).1, ry.dp hw.subs (sm2 q).2, plain_toPy _, plain_toPy _, sm64 (sm2 q).1, PostG.ret hp hw (.bl _)⟩
  · rw [if_neg q] at hp; exact hp.elim
theorem eqv_int (i j : Int) : D.eqv (.int i) (.int j) = decide (i = j) := by
  simp only [D.eqv, D.toPy, PyData.eqv]
  exact Bool.beq_eq_decide_eq i j
theorem opm_eq : OpM K ca (rEq2 K id) opEq := by
  intro W σ w mh x y d e Q hw rx ry hp
  refine eq2_of (W := W) (σ := σ) (mh := mh) hw rx ry ?_
  cases d <;> cases e <;> exact hp
theorem opm_ne : OpM K ca (rEq2 K not) opNe := by
  intro W σ w mh x y d e Q hw rx ry hp
  refine eq2_of (W := W) (σ := σ) (mh := mh) hw rx ry ?_
  cases d <;> cases e <;> exact hp
theorem cmpOk_of {d e : D} (h : cmpOk d e = true) : D.sm 60 d = true ∧ D.sm 60 e = true ∧ D.alike d e = true ∧ d.isNon = false := by
  simp only [cmpOk, Bool.and_eq_true, Bool.not_eq_true'] at h
  exact ⟨h.1.1.1, h.1.1.2, h.1.2, h.2⟩
theorem cm2_of {g : PyData → PyData → Bool} {W : WX} {σ : St} {w : Wd} {mh : MH} {x y : V} {d e : D} {Q : VK} (hw : WOk K ca w mh) (rx : Rp K w x d) (ry : Rp K w y e)
    (hp : Post K ca W σ w ((if cmpOk d e then M.pure (.bl (g d.toPy e.toPy)) else M.bad : M D) mh) Q) : rCm2 K g x y w.H Q := by
  by_cases q : cmpOk d e = true
  · rw [if_pos q] at hp
    obtain ⟨q1, q2, q3, q4⟩ := cmpOk_of q
    exact ⟨_, _, rx.dp hw.subs q1, ry.dp hw.subs q2, q3, ne_none q4, sm64 q1, PostG.ret hp hw (.bl _)⟩
  · rw [if_neg q] at hp; exact hp.elim
theorem cmpOk_int (i j : Int) : cmpOk (.int i) (.int j) = true := by
  simp [cmpOk, D.sm, D.alike, D.toPy, PySem.W.alike, D.isNon]
theorem not_lt (i j : Int) : (!decide (i < j)) = decide (j ≤ i) := by
  by_cases h : i < j
  · rw [decide_eq_true h, decide_eq_false (by omega)]; rfl
  · rw [decide_eq_false h, decide_eq_true (by omega)]; rfl
theorem opm_lt : OpM K ca (rCm2 K fun d e => PySem.W.dataLt d e) opLt := by
  intro W σ w mh x y d e Q hw rx ry hp
  refine cm2_of (W := W) (σ := σ) (mh := mh) hw rx ry ?_
  cases d <;> cases e <;> first | exact hp | skip
  rename_i i j
  rw [if_pos (cmpOk_int i j)]; simp only [D.toPy, PySem.W.dataLt_int]; exact hp
theorem opm_gt : OpM K ca (rCm2 K fun d e => PySem.W.dataLt e d) opGt := by
  intro W σ w mh x y d e Q hw rx ry hp
  refine cm2_of (W := W) (σ := σ) (mh := mh) hw rx ry ?_
  cases d <;> cases e <;> first | exact hp | skip
  rename_i i j
  rw [if_pos (cmpOk_int i j)]; simp only [D.toPy, PySem.W.dataLt_int]; exact hp
theorem opm_le : OpM K ca (rCm2 K fun d e => !PySem.W.dataLt e d) opLe := by
  intro W σ w mh x y d e Q hw rx ry hp
  refine cm2_of (W := W) (σ := σ) (mh := mh) hw rx ry ?_
  cases d <;> cases e <;> first | exact hp | skip
  rename_i i j
  rw [if_pos (cmpOk_int i j)]; simp only [D.toPy, PySem.W.dataLt_int, not_lt]; exact hp
theorem opm_ge : OpM K ca (rCm2 K fun d e => !PySem.W.dataLt d e) opGe := by
  intro W σ w mh x y d e Q hw rx ry hp
  refine cm2_of (W := W) (σ := σ) (mh := mh) hw rx ry ?_
  cases d <;> cases e <;> first | exact hp | skip
  rename_i i j
  rw [if_pos (cmpOk_int i j)]; simp only [D.toPy, PySem.W.dataLt_int, not_lt]; exact hp
theorem any_toPys (xs : List D) (d : D) : (D.toPys xs).any (fun z => PyData.eqv z d.toPy) = xs.any fun z => D.eqv z d := by
  rw [D.toPys_map, List.any_map]; rfl
theorem opm_in {g : Bool → Bool} : OpM K ca (rIn2 K g) (opIn g) := by
  intro W σ w mh x y d e Q hw rx ry hp
  cases e <;> first | exact hp.elim | skip
  · rename_i xs
    by_cases q : (D.sm 60 d && D.sm 60 (.tup xs)) = true
    · simp only [opIn, q, if_true] at hp
      refine ⟨_, _, rx.dp hw.subs (sm2 q).1, .inr (ry.dp hw.subs (sm2 q).2), plain_toPy _, plainAll_toPy _, sm64 (sm2 q).1, ?_⟩
      rw [any_toPys]
      exact PostG.ret hp hw (.bl _)
    · simp only [opIn, q] at hp; exact hp.elim
  · rename_i xs
    by_cases q : (D.sm 60 d && D.sm 60 (.lst xs)) = true
    · simp only [opIn, q, if_true] at hp
      refine ⟨_, _, rx.dp hw.subs (sm2 q).1, .inl (ry.dp hw.subs (sm2 q).2), plain_toPy _, plainAll_toPy _, sm64 (sm2 q).1, ?_⟩
      rw [any_toPys]
      exact PostG.ret hp hw (.bl _)
    · simp only [opIn, q] at hp; exact hp.elim
theorem opm_is : OpM K ca (fun x y H Q => rIsN x y H Q ∨ (∃ a b, x = .bl a ∧ y = .bl b ∧ Q (.bl (decide (a = b))) H)) (opIs id) := by
  intro W σ w mh x y d e Q hw rx ry hp
  cases ry <;> first | exact hp.elim | skip
  · refine .inl ⟨rfl, ?_⟩
    cases rx <;> exact PostG.ret hp hw (.bl _)
  · cases rx <;> first | exact hp.elim | skip
    exact .inr ⟨_, _, rfl, rfl, PostG.ret hp hw (.bl _)⟩
theorem opm_isnot : OpM K ca (fun x y H Q => rNotN x y H Q ∨ (∃ a b, x = .bl a ∧ y = .bl b ∧ Q (.bl (!decide (a = b))) H)) (opIs not) := by
  intro W σ w mh x y d e Q hw rx ry hp
  cases ry <;> first | exact hp.elim | skip
  · refine .inl ⟨rfl, ?_⟩
    cases rx <;> exact PostG.ret hp hw (.bl _)
  · cases rx <;> first | exact hp.elim | skip
    exact .inr ⟨_, _, rfl, rfl, PostG.ret hp hw (.bl _)⟩
theorem RpAll.atI {w : Wd} {vs : List V} {ds : List D} (h : RpAll K w vs ds) {i : Int} {d : D} (e : L2.atI ds i = some d) : ∃ v, L2.atI vs i = some v ∧ Rp K w v d := by
  unfold L2.atI at e ⊢
  rw [h.length]
  cases q : ixN ds.length i with
  | none => rw [q] at e; cases e
  | some j => rw [q] at e; exact h.get e
theorem opm_ix : OpM K ca (rIx K) opIx := by
  intro W σ w mh x y d e Q hw rx ry hp
  cases rx with
  | tup h r => cases ry with
    | int i =>
      rename_i a xs ds
      cases q : L2.atI ds i with
      | none => simp only [opIx, q] at hp; exact hp.elim
      | some z =>
        simp only [opIx, q] at hp
        obtain ⟨v, e1, e2⟩ := r.atI q
        exact .inr (.inl ⟨a, xs, i, v, rfl, rfl, sqT_sub hw.sub h, e1, PostG.ret hp hw e2⟩)
    | _ => exact hp.elim
  | lst h r => cases ry with
    | int i =>
      rename_i a xs ds
      cases q : L2.atI ds i with
      | none => simp only [opIx, q] at hp; exact hp.elim
      | some z =>
        simp only [opIx, q] at hp
        obtain ⟨v, e1, e2⟩ := r.atI q
        exact .inl ⟨a, xs, i, v, rfl, rfl, .of (hw.subL _ _ h), e1, PostG.ret hp hw e2⟩
    | _ => exact hp.elim
  | str s => cases ry with
    | int i =>
      cases q : L2.atI s.cps.toList i with
      | none => simp only [opIx, q] at hp; exact hp.elim
      | some z =>
        by_cases l : s.length ≤ 16777216
        · simp only [opIx, q, l, if_true] at hp
          exact .inr (.inr ⟨s, i, z, rfl, rfl, by rw [sizeLine_lit]; exact l, q, PostG.ret hp hw (.str _)⟩)
        · simp only [opIx, q, l, if_false] at hp; exact hp.elim
    | _ => exact hp.elim
  | scr h l => cases ry with
    | int i =>
      rename_i a ns
      cases q : L2.atI ns i with
      | none => simp only [opIx, q] at hp; exact hp.elim
      | some z =>
        simp only [opIx, q] at hp
        have q' : L2.atI (ns.map V.int) i = some (.int z) := by
          unfold L2.atI at q ⊢
          rw [List.length_map]
          cases r : ixN ns.length i with
          | none => rw [r] at q; cases q
          | some j =>
            rw [r] at q
            have q : ns[j]? = some z := q
            show (ns.map V.int)[j]? = _
            rw [List.getElem?_map, q]
            rfl
        exact .inl ⟨a, _, i, _, rfl, rfl, sqL_mono hw.sub h, q', PostG.ret hp hw (.int _)⟩
    | _ => exact hp.elim
  | ref h => cases ry with
    | int i =>
      obtain ⟨mo, e1, _, _, ho⟩ := hw.at h
      cases mo with
      | lst ds =>
        obtain ⟨vs, hH, rr⟩ := ho
        cases q : L2.atI ds i with
        | none => simp only [opIx, e1, q] at hp; exact hp.elim
        | some z =>
          simp only [opIx, e1, q] at hp
          obtain ⟨v, e2, e3⟩ := rr.atI q
          exact .inl ⟨_, vs, i, v, rfl, rfl, .of hH, e2, PostG.ret hp hw e3⟩
      | _ => simp only [opIx, e1] at hp; exact hp.elim
    | _ => exact hp.elim
  | _ => cases ry <;> exact hp.elim
end

section
variable {X : Cx} {ca : Nat → Addr} {W : WX} {a b : Expr} {ma mb : Env → M D} {pos : Pos}
theorem me_add (ha : ME X ca W a ma) (hb : ME X ca W b mb) : ME X ca W (.BinOp a .Add b pos) (mBin opAdd ma mb) := me_op (OpR.or op_add (OpR.or op_add_str (OpR.or op_catA op_cat))) opm_add ha hb
theorem me_sub (ha : ME X ca W a ma) (hb : ME X ca W b mb) : ME X ca W (.BinOp a .Sub b pos) (mBin opSub ma mb) := me_op op_sub opm_sub ha hb
theorem me_mul (ha : ME X ca W a ma) (hb : ME X ca W b mb) : ME X ca W (.BinOp a .Mult b pos) (mBin opMul ma mb) := me_op (OpR.or op_mulX op_rep) opm_mul ha hb
theorem me_div (ha : ME X ca W a ma) (hb : ME X ca W b mb) : ME X ca W (.BinOp a .FloorDiv b pos) (mBin opDiv ma mb) := me_op op_fdivW opm_div ha hb
theorem me_mod (ha : ME X ca W a ma) (hb : ME X ca W b mb) : ME X ca W (.BinOp a .Mod b pos) (mBin opMod ma mb) := me_op op_mod opm_mod ha hb
theorem hu64 {k : Nat} {A : Around} (r : Room k A) : A.units + 64 < cLine := by have := r.un; omega
theorem hu66 {k : Nat} {A : Around} (r : Room k A) : A.units + 66 < cLine := by have := r.un; omega
theorem me_eq {k : Nat} (hr : Room k X.A) (ha : ME X ca W a ma) (hb : ME X ca W b mb) : ME X ca W (.Compare a [.Eq] [b] pos) (mBin opEq ma mb) := me_cmp (op_eq2 (hu64 hr)) opm_eq ha hb (nomark _)
theorem me_ne {k : Nat} (hr : Room k X.A) (ha : ME X ca W a ma) (hb : ME X ca W b mb) : ME X ca W (.Compare a [.NotEq] [b] pos) (mBin opNe ma mb) := me_cmp (op_ne2 (hu64 hr)) opm_ne ha hb (nomark _)
theorem me_lt {k : Nat} (hr : Room k X.A) (ha : ME X ca W a ma) (hb : ME X ca W b mb) : ME X ca W (.Compare a [.Lt] [b] pos) (mBin opLt ma mb) := me_cmp (op_lt2 (hu64 hr)) opm_lt ha hb (nomark _)
theorem me_gt {k : Nat} (hr : Room k X.A) (ha : ME X ca W a ma) (hb : ME X ca W b mb) : ME X ca W (.Compare a [.Gt] [b] pos) (mBin opGt ma mb) := me_cmp (op_gt2 (hu64 hr)) opm_gt ha hb (nomark _)
theorem me_le {k : Nat} (hr : Room k X.A) (ha : ME X ca W a ma) (hb : ME X ca W b mb) : ME X ca W (.Compare a [.LtE] [b] pos) (mBin opLe ma mb) := me_cmp (op_le2 (hu64 hr)) opm_le ha hb (nomark _)
theorem me_ge {k : Nat} (hr : Room k X.A) (ha : ME X ca W a ma) (hb : ME X ca W b mb) : ME X ca W (.Compare a [.GtE] [b] pos) (mBin opGe ma mb) := me_cmp (op_ge2 (hu64 hr)) opm_ge ha hb (nomark _)
theorem me_in {k : Nat} (hr : Room k X.A) (ha : ME X ca W a ma) (hb : ME X ca W b mb) (hm : behindInMarks .In b = false := by rfl) : ME X ca W (.Compare a [.In] [b] pos) (mBin (opIn id) ma mb) := me_cmp (op_in2 (hu66 hr)) opm_in ha hb hm
theorem me_nin {k : Nat} (hr : Room k X.A) (ha : ME X ca W a ma) (hb : ME X ca W b mb) (hm : behindInMarks .NotIn b = false := by rfl) : ME X ca W (.Compare a [.NotIn] [b] pos) (mBin (opIn not) ma mb) := me_cmp (op_nin2 (hu66 hr)) opm_in ha hb hm
theorem me_is (ha : ME X ca W a ma) (hb : ME X ca W b mb) : ME X ca W (.Compare a [.Is] [b] pos) (mBin (opIs id) ma mb) := me_cmp (OpR.or op_isN1 op_is_bl) opm_is ha hb (nomark _)
theorem me_isnot (ha : ME X ca W a ma) (hb : ME X ca W b mb) : ME X ca W (.Compare a [.IsNot] [b] pos) (mBin (opIs not) ma mb) := me_cmp (OpR.or op_notN1 op_isnot_bl) opm_isnot ha hb (nomark _)
theorem me_ix (ha : ME X ca W a ma) (hb : ME X ca W b mb) (hs : PlainIx b) : ME X ca W (.Subscript a b pos) (mBin opIx ma mb) :=
  PE.mono (pe_ix ix_seq ha hb hs) fun _ _ _ h => tOp_of opm_ix h
end
end AG
/-! AgD: names, tests, displays, slices, built-in calls. -/
namespace AG
open PySem L2

def mVar (i : Nat) : Env → M D := fun env => match env[i]? with | some (.v d) => M.pure d | _ => M.bad
def mC (d : D) : Env → M D := fun _ => M.pure d
def D.truth : D → Option Bool
  | .non => some false
  | .bl b => some b
  | .int i => some (i != 0)
  | .str s => if s.length ≤ 16777216 then some ((s.length : Int) != 0) else none
  | .tup xs => some (!xs.isEmpty)
  | .lst xs => some (!xs.isEmpty)
  | .ref _ => none
  | .scr _ => none
def truthM (d : D) : M Bool := match d.truth with | some b => M.pure b | none => M.bad
def mTruth (m : Env → M D) : Env → M Bool := fun env => M.bind (m env) truthM
def blM (d : D) : M Bool := match d with | .bl b => M.pure b | _ => M.bad
def mTest (m : Env → M D) : Env → M Bool := fun env => M.bind (m env) blM
def mAndT (a b : Env → M Bool) : Env → M Bool := fun env => M.bind (a env) fun c => if c = true then b env else M.pure false
def mOrT (a b : Env → M Bool) : Env → M Bool := fun env => M.bind (a env) fun c => if c = true then M.pure true else b env
def mNotT (a : Env → M Bool) : Env → M Bool := fun env => M.bind (a env) fun c => M.pure (!c)
def mAndV (a b : Env → M D) : Env → M D := fun env => M.bind (a env) fun d => M.bind (truthM d) fun c => if c = true then b env else M.pure d
def mOrV (a b : Env → M D) : Env → M D := fun env => M.bind (a env) fun d => M.bind (truthM d) fun c => if c = true then M.pure d else b env
def mNotV (a : Env → M D) : Env → M D := fun env => M.bind (a env) fun d => M.bind (truthM d) fun c => M.pure (.bl (!c))
def mIfE (t : Env → M Bool) (a b : Env → M D) : Env → M D := fun env => M.bind (t env) fun c => if c = true then a env else b env
def mNil : Env → M (List D) := fun _ => M.pure []
def mCons (m : Env → M D) (ms : Env → M (List D)) : Env → M (List D) := fun env => M.bind (m env) fun x => M.bind (ms env) fun xs => M.pure (x :: xs)
def mTup (ms : Env → M (List D)) : Env → M D := fun env => M.bind (ms env) fun xs => if xs.length ≤ 16777216 then M.pure (.tup xs) else M.bad
def mLst (ms : Env → M (List D)) : Env → M D := fun env => M.bind (ms env) fun xs => if xs.length ≤ 16777216 then M.pure (.lst xs) else M.bad
def mUn (f : D → M D) (a : Env → M D) : Env → M D := fun env => M.bind (a env) f
def opNeg : D → M D := fun d => match d with | .int i => M.pure (.int (-i)) | _ => M.bad

section
variable {X : Cx} {ca : Nat → Addr} {W : WX} {a b c e : Expr} {es rest : List Expr} {ma mb : Env → M D} {mt mu : Env → M Bool} {ms : Env → M (List D)} {pos : Pos}
theorem me_var (i : Nat) {x : Str} (hN : X.N[i]? = some x := by rfl) (hv : Vis X.env.scope x := by first | exact Or.inl rfl | exact Or.inr (Or.inl rfl) | exact Or.inr (Or.inr rfl)) (hd : (x == ("__debug__" : Str)) = false := by decide)
    (hcd : (x == ("__classdict__" : Str)) = false := by decide) : ME X ca W (.Name x pos) (mVar i) := PE.mono (pe_var hN hv hd hcd) fun σ H Q h => by
  obtain ⟨w, mh, env, rfl, hw, hf, hp⟩ := h
  cases e : env[i]? with
  | none => simp only [mVar, e] at hp; exact hp.elim
  | some sl =>
    cases sl with
    | v d =>
      simp only [mVar, e] at hp
      obtain ⟨v, e1, r⟩ := hf.v i d e
      exact ⟨v, e1, PostG.ret hp hw r⟩
    | _ => simp only [mVar, e] at hp; exact hp.elim
theorem me_const {d : D} {v : V} (h : PE X e (tC v)) (hd : ∀ w, Rp X.K w v d) : ME X ca W e (mC d) := PE.mono h fun σ H Q q => by
  obtain ⟨w, mh, env, rfl, hw, hf, hp⟩ := q
  exact PostG.ret hp hw (hd _)
theorem me_int {i : Int} {j pos} : ME X ca W (.Constant (.int i) j pos) (mC (.int i)) := me_const pe_int fun _ => .int i
theorem me_bl {b : Bool} {j pos} : ME X ca W (.Constant (.bool b) j pos) (mC (.bl b)) := me_const pe_bl fun _ => .bl b
theorem me_non {j pos} : ME X ca W (.Constant .none j pos) (mC .non) := me_const pe_non fun _ => .non
theorem me_str {x : Str} {j pos} : ME X ca W (.Constant (.str x) j pos) (mC (.str x)) := me_const pe_str fun _ => .str x
/-- a module's constant -/
structure GC (K : PySem.W.Frag) (mg : Str → Option Value) (x : Str) (d : D) : Prop where
  ex : ∃ (v : V) (u : Value), mg x = some u ∧ RelV v u ∧ ∀ w, Rp K w v d
theorem me_glob {x : Str} {d : D} (h : GC X.K X.mg x d) (hg : Gl X x := by rfl) (hd : (x == ("__debug__" : Str)) = false := by decide) : ME X ca W (.Name x pos) (mC d) := by
  obtain ⟨v, u, hm, r, hp⟩ := h.ex
  exact me_const (pe_glob hg hm r hd) hp

theorem truV_of {K : PySem.W.Frag} {w : Wd} (hs : Subs w) {v : V} {d : D} {k : Bool} (r : Rp K w v d) (h : d.truth = some k) : TruV K v w.H k := by
  cases r with
  | non => exact (Option.some.inj h).symm
  | bl b => exact (Option.some.inj h).symm
  | int i => exact (Option.some.inj h).symm
  | str s =>
    simp only [D.truth] at h
    split at h
    · rename_i q
      exact ⟨by rw [sizeLine_lit]; exact q, (Option.some.inj h).symm⟩
    · cases h
  | tup q r => 
    have e : (!(_ : List D).isEmpty) = k := Option.some.inj h
    refine .inr (.inl ⟨_, sqT_sub hs.f q, ?_⟩)
    rw [← e]
    cases r <;> rfl
  | lst q r =>
    have e : (!(_ : List D).isEmpty) = k := Option.some.inj h
    refine .inl ⟨_, .of (hs.l _ _ q), ?_⟩
    rw [← e]
    cases r <;> rfl
  | ref q => cases h
  | scr q l => cases h
theorem truth_post {σ : St} {w : Wd} {mh : MH} {v : V} {d : D} {α β : Type} {rep : Wd → β → α → Prop} {f : Bool → M α} {Q : β → Hp → Prop} (hw : WOk X.K ca w mh) (r : Rp X.K w v d) (hp : PostG rep X.K ca W σ w (M.bind (truthM d) f mh) Q) :
    ∃ k, TruV X.K v w.H k ∧ PostG rep X.K ca W σ w (f k mh) Q := by
  unfold truthM at hp
  cases q : d.truth with
  | none => simp only [q] at hp; exact hp.elim
  | some k => simp only [q] at hp; exact ⟨k, truV_of hw.subs r q, hp⟩
theorem mt_truth (ha : ME X ca W a ma) (he : ∀ whole, isTrue a X.env whole = (do let v ← whole; standAt a.pos; holding [v] (truthy v)) := by intro _; rfl) : MT X ca W a (mTruth ma) :=
  PT.mono (pt_truth ha he) fun σ H Q h => by
    obtain ⟨w, mh, env, rfl, hw, hf, hp⟩ := h
    refine stepG hw hf hp fun w1 mh1 v1 d1 x1 hw1 hf1 r1 hp1 => ?_
    have hp1 : PostG repB X.K ca W σ w1 (M.bind (truthM d1) M.pure mh1) Q := by
      have : M.bind (truthM d1) M.pure mh1 = truthM d1 mh1 := by
        unfold truthM M.bind
        cases d1.truth <;> rfl
      rw [this]; exact hp1
    obtain ⟨k, tk, q⟩ := truth_post hw1 r1 hp1
    exact ⟨k, tk, PostG.ret q hw1 rfl⟩
theorem mt_cmp {op : CmpOp} {r : R2} {f : DOp} (ho : OpR X (compareOp op) r) (hf : OpM X.K ca r f) (ha : ME X ca W a ma) (hb : ME X ca W b mb) (hm : behindInMarks op b = false) : MT X ca W (.Compare a [op] [b] pos) (mTest (mBin f ma mb)) :=
  PT.mono (pt_cmpR ho ha hb hm) fun σ H Q h => by
    obtain ⟨w, mh, env, rfl, hw, hfr, hp⟩ := h
    refine tOp_of (X := X) (W := W) hf (stepG (rep := repV X.K) (ma := mBin f ma mb) hw hfr hp fun w1 mh1 v1 d1 x1 hw1 hf1 r1 hp1 => ?_)
    cases r1 <;> first | exact hp1.elim | skip
    exact ⟨_, rfl, PostG.ret hp1 hw1 rfl⟩
section
variable {k : Nat}
theorem mt_eq (hr : Room k X.A) (ha : ME X ca W a ma) (hb : ME X ca W b mb) : MT X ca W (.Compare a [.Eq] [b] pos) (mTest (mBin opEq ma mb)) := mt_cmp (op_eq2 (hu64 hr)) opm_eq ha hb (nomark _)
theorem mt_ne (hr : Room k X.A) (ha : ME X ca W a ma) (hb : ME X ca W b mb) : MT X ca W (.Compare a [.NotEq] [b] pos) (mTest (mBin opNe ma mb)) := mt_cmp (op_ne2 (hu64 hr)) opm_ne ha hb (nomark _)
theorem mt_lt (hr : Room k X.A) (ha : ME X ca W a ma) (hb : ME X ca W b mb) : MT X ca W (.Compare a [.Lt] [b] pos) (mTest (mBin opLt ma mb)) := mt_cmp (op_lt2 (hu64 hr)) opm_lt ha hb (nomark _)
theorem mt_gt (hr : Room k X.A) (ha : ME X ca W a ma) (hb : ME X ca W b mb) : MT X ca W (.Compare a [.Gt] [b] pos) (mTest (mBin opGt ma mb)) := mt_cmp (op_gt2 (hu64 hr)) opm_gt ha hb (nomark _)
theorem mt_le (hr : Room k X.A) (ha : ME X ca W a ma) (hb : ME X ca W b mb) : MT X ca W (.Compare a [.LtE] [b] pos) (mTest (mBin opLe ma mb)) := mt_cmp (op_le2 (hu64 hr)) opm_le ha hb (nomark _)
theorem mt_ge (hr : Room k X.A) (ha : ME X ca W a ma) (hb : ME X ca W b mb) : MT X ca W (.Compare a [.GtE] [b] pos) (mTest (mBin opGe ma mb)) := mt_cmp (op_ge2 (hu64 hr)) opm_ge ha hb (nomark _)
theorem mt_in (hr : Room k X.A) (ha : ME X ca W a ma) (hb : ME X ca W b mb) (hm : behindInMarks .In b = false := by rfl) : MT X ca W (.Compare a [.In] [b] pos) (mTest (mBin (opIn id) ma mb)) := mt_cmp (op_in2 (hu66 hr)) opm_in ha hb hm
theorem mt_nin (hr : Room k X.A) (ha : ME X ca W a ma) (hb : ME X ca W b mb) (hm : behindInMarks .NotIn b = false := by rfl) : MT X ca W (.Compare a [.NotIn] [b] pos) (mTest (mBin (opIn not) ma mb)) := mt_cmp (op_nin2 (hu66 hr)) opm_in ha hb hm
theorem mt_is (ha : ME X ca W a ma) (hb : ME X ca W b mb) : MT X ca W (.Compare a [.Is] [b] pos) (mTest (mBin (opIs id) ma mb)) := mt_cmp (OpR.or op_isN1 op_is_bl) opm_is ha hb (nomark _)
theorem mt_isnot (ha : ME X ca W a ma) (hb : ME X ca W b mb) : MT X ca W (.Compare a [.IsNot] [b] pos) (mTest (mBin (opIs not) ma mb)) := mt_cmp (OpR.or op_notN1 op_isnot_bl) opm_isnot ha hb (nomark _)
end
theorem mw_pt (h : MW X ca W a mt) : MT X ca W a mt := h.pt
theorem mw_and1 (ha : MT X ca W a mt) : MW X ca W (.BoolOp .And [a] pos) mt := pw_and1 ha
theorem mw_or1 (ha : MT X ca W a mt) : MW X ca W (.BoolOp .Or [a] pos) mt := pw_or1 ha
theorem mw_and (ha : MT X ca W a mt) (hb : MW X ca W (.BoolOp .And (b :: rest) pos) mu) : MW X ca W (.BoolOp .And (a :: b :: rest) pos) (mAndT mt mu) :=
  PW.mono (pw_and ha hb) fun σ H Q h => by
    obtain ⟨w, mh, env, rfl, hw, hf, hp⟩ := h
    refine stepG (rep := repB) hw hf hp fun w1 mh1 v1 d1 x1 hw1 hf1 r1 hp1 => ?_
    have r1 : v1 = d1 := r1
    subst r1
    cases v1 with
    | true => exact iteT ⟨w1, mh1, env, rfl, hw1, hf1, hp1⟩
    | false => exact iteF (PostG.ret hp1 hw1 rfl)
theorem mw_or (ha : MT X ca W a mt) (hb : MW X ca W (.BoolOp .Or (b :: rest) pos) mu) : MW X ca W (.BoolOp .Or (a :: b :: rest) pos) (mOrT mt mu) :=
  PW.mono (pw_or ha hb) fun σ H Q h => by
    obtain ⟨w, mh, env, rfl, hw, hf, hp⟩ := h
    refine stepG (rep := repB) hw hf hp fun w1 mh1 v1 d1 x1 hw1 hf1 r1 hp1 => ?_
    have r1 : v1 = d1 := r1
    subst r1
    cases v1 with
    | true => exact iteT (PostG.ret hp1 hw1 rfl)
    | false => exact iteF ⟨w1, mh1, env, rfl, hw1, hf1, hp1⟩
theorem mt_not (ha : MT X ca W a mt) : MT X ca W (.UnaryOp .Not a pos) (mNotT mt) :=
  PT.mono (pt_not ha) fun σ H Q h => by
    obtain ⟨w, mh, env, rfl, hw, hf, hp⟩ := h
    refine stepG (rep := repB) hw hf hp fun w1 mh1 v1 d1 x1 hw1 hf1 r1 hp1 => ?_
    have r1 : v1 = d1 := r1
    subst r1
    exact PostG.ret hp1 hw1 rfl
theorem me_one {op} (h : ME X ca W a ma) : ME X ca W (.BoolOp op [a] pos) ma := pe_one h
theorem me_and (ha : ME X ca W a ma) (hb : ME X ca W (.BoolOp .And (b :: rest) pos) mb) : ME X ca W (.BoolOp .And (a :: b :: rest) pos) (mAndV ma mb) :=
  PE.mono (pe_andT ha hb) fun σ H Q h => by
    obtain ⟨w, mh, env, rfl, hw, hf, hp⟩ := h
    refine stepG (rep := repV X.K) hw hf hp fun w1 mh1 v1 d1 x1 hw1 hf1 r1 hp1 => ?_
    obtain ⟨k, tk, q⟩ := truth_post hw1 r1 hp1
    refine ⟨k, tk, ?_⟩
    cases k with
    | true => exact iteT ⟨w1, mh1, env, rfl, hw1, hf1, q⟩
    | false => exact iteF (PostG.ret q hw1 r1)
theorem me_or (ha : ME X ca W a ma) (hb : ME X ca W (.BoolOp .Or (b :: rest) pos) mb) : ME X ca W (.BoolOp .Or (a :: b :: rest) pos) (mOrV ma mb) :=
  PE.mono (pe_orT ha hb) fun σ H Q h => by
    obtain ⟨w, mh, env, rfl, hw, hf, hp⟩ := h
    refine stepG (rep := repV X.K) hw hf hp fun w1 mh1 v1 d1 x1 hw1 hf1 r1 hp1 => ?_
    obtain ⟨k, tk, q⟩ := truth_post hw1 r1 hp1
    refine ⟨k, tk, ?_⟩
    cases k with
    | true => exact iteT (PostG.ret q hw1 r1)
    | false => exact iteF ⟨w1, mh1, env, rfl, hw1, hf1, q⟩
theorem me_not (ha : ME X ca W a ma) : ME X ca W (.UnaryOp .Not a pos) (mNotV ma) :=
  PE.mono (pe_notT ha) fun σ H Q h => by
    obtain ⟨w, mh, env, rfl, hw, hf, hp⟩ := h
    refine stepG (rep := repV X.K) hw hf hp fun w1 mh1 v1 d1 x1 hw1 hf1 r1 hp1 => ?_
    obtain ⟨k, tk, q⟩ := truth_post hw1 r1 hp1
    exact ⟨k, tk, PostG.ret q hw1 (.bl _)⟩
theorem me_if (hc : MT X ca W c mt) (ha : ME X ca W a ma) (hb : ME X ca W b mb) : ME X ca W (.IfExp c a b pos) (mIfE mt ma mb) :=
  PE.mono (pe_ifExp hc ha hb) fun σ H Q h => by
    obtain ⟨w, mh, env, rfl, hw, hf, hp⟩ := h
    refine stepG (rep := repB) hw hf hp fun w1 mh1 v1 d1 x1 hw1 hf1 r1 hp1 => ?_
    have r1 : v1 = d1 := r1
    subst r1
    cases v1 with
    | true => exact iteT ⟨w1, mh1, env, rfl, hw1, hf1, hp1⟩
    | false => exact iteF ⟨w1, mh1, env, rfl, hw1, hf1, hp1⟩
theorem me_neg (ha : ME X ca W a ma) : ME X ca W (.UnaryOp .USub a pos) (mUn opNeg ma) :=
  PE.mono (pe_un un_neg ha) fun σ H Q h => by
    obtain ⟨w, mh, env, rfl, hw, hf, hp⟩ := h
    refine stepG (rep := repV X.K) hw hf hp fun w1 mh1 v1 d1 x1 hw1 hf1 r1 hp1 => ?_
    cases r1 <;> first | exact hp1.elim | skip
    exact ⟨_, rfl, PostG.ret hp1 hw1 (.int _)⟩

/-! ### argument lists, displays -/
theorem ma_nil : MA X ca W [] mNil := PA.mono pa_nil fun σ H Q h => by
  obtain ⟨w, mh, env, rfl, hw, hf, hp⟩ := h
  exact PostG.ret hp hw .nil
theorem ma_cons (ha : ME X ca W e ma) (hr : MA X ca W es ms) (hs : starEach (e :: es) X.env = (false, eval e X.env) :: starEach es X.env := by rfl) : MA X ca W (e :: es) (mCons ma ms) :=
  PA.mono (pa_cons ha hr hs) fun σ H Q h => by
    obtain ⟨w, mh, env, rfl, hw, hf, hp⟩ := h
    refine stepG (rep := repV X.K) hw hf hp fun w1 mh1 v1 d1 x1 hw1 hf1 r1 hp1 => ?_
    refine stepG (rep := repA X.K) hw1 hf1 hp1 fun w2 mh2 v2 d2 x2 hw2 hf2 r2 hp2 => ?_
    exact PostG.ret hp2 hw2 (.cons (x2.rp r1) r2)
theorem me_tup {j} (h : MA X ca W es ms) : ME X ca W (.Tuple es j pos) (mTup ms) :=
  PE.mono (pe_tup h) fun σ H Q h => by
    obtain ⟨w, mh, env, rfl, hw, hf, hp⟩ := h
    refine stepG (rep := repA X.K) hw hf hp fun w1 mh1 v1 d1 x1 hw1 hf1 r1 hp1 => ?_
    have r1 : RpAll X.K w1 v1 d1 := r1
    by_cases q : d1.length ≤ 16777216
    · simp only [q, if_true] at hp1
      exact ⟨by rw [r1.length, sizeLine_lit]; exact q, PostG.tup hp1 hw1 r1⟩
    · simp only [q, if_false] at hp1; exact hp1.elim
theorem me_lst (h : MA X ca W es ms) : ME X ca W (.List es pos) (mLst ms) :=
  PE.mono (pe_lst h) fun σ H Q h => by
    obtain ⟨w, mh, env, rfl, hw, hf, hp⟩ := h
    refine stepG (rep := repA X.K) hw hf hp fun w1 mh1 v1 d1 x1 hw1 hf1 r1 hp1 => ?_
    have r1 : RpAll X.K w1 v1 d1 := r1
    by_cases q : d1.length ≤ 16777216
    · simp only [q, if_true] at hp1
      exact ⟨by rw [r1.length, sizeLine_lit]; exact q, PostG.lst hp1 hw1 r1⟩
    · simp only [q, if_false] at hp1; exact hp1.elim
end

/-! ### slices -/
def cutD (xs : List D) (lo hi : Option Int) : List D := (xs.drop (HT.sIx xs.length 0 lo)).take (HT.sIx xs.length xs.length hi - HT.sIx xs.length 0 lo)
def opSl (d : D) (lo hi : Option Int) : M D := match d with
  | .tup xs => M.pure (.tup (cutD xs lo hi))
  | .lst xs => M.pure (.lst (cutD xs lo hi))
  | .str z => if z.length ≤ 16777216 then M.pure (.str (cutS z lo hi)) else M.bad
  | _ => M.bad
def partM (d : D) : M (Option Int) := match d with | .int i => M.pure (some i) | _ => M.bad
def mPart (m : Env → M D) : Env → M (Option Int) := fun env => M.bind (m env) partM
def mNoPart : Env → M (Option Int) := fun _ => M.pure none
def mSl (a : Env → M D) (lo hi : Env → M (Option Int)) : Env → M D := fun env => M.bind (a env) fun d => M.bind (lo env) fun l => M.bind (hi env) fun u => opSl d l u
def opRev (d : D) : M D := match d with | .lst xs => M.pure (.lst xs.reverse) | _ => M.bad
abbrev repO : Wd → Option Int → Option Int → Prop := fun _ o p => o = p
theorem PO.mono {X : Cx} {e : Option Expr} {t t' : TO} (h : PO X e t) (k : ∀ σ H Q, t' σ H Q → t σ H Q) : PO X e t' := ⟨fun pins s σ H Q I q => h.run pins s σ H Q I (k σ H Q q)⟩
abbrev MO' (X : Cx) (ca : Nat → Addr) (W : WX) (e : Option Expr) (m : Env → M (Option Int)) : Prop := PO X e (denG repO X.K ca W m)
section
variable {K : PySem.W.Frag} {w : Wd}
theorem RpAll.cut {vs : List V} {ds : List D} (h : RpAll K w vs ds) (lo hi : Option Int) : RpAll K w (cutV vs lo hi) (cutD ds lo hi) := by
  unfold cutV cutD
  rw [h.length]
  exact (h.drop _).take _
theorem cutD_whole {xs : List D} {lo hi : Option Int} (h : HT.sIx xs.length 0 lo = 0 ∧ HT.sIx xs.length xs.length hi = xs.length) : cutD xs lo hi = xs := by
  unfold cutD
  rw [h.1, h.2]
  simp
end
section
variable {X : Cx} {ca : Nat → Addr} {W : WX} {a e : Expr} {lo hi : Option Expr} {ma : Env → M D} {ml mh' : Env → M (Option Int)} {pos p2 : Pos}
theorem mo_none : MO' X ca W none mNoPart := PO.mono po_none fun σ H Q h => by
  obtain ⟨w, mh, env, rfl, hw, hf, hp⟩ := h
  exact PostG.ret hp hw rfl
theorem mo_some (h : ME X ca W e ma) : MO' X ca W (some e) (mPart ma) := PO.mono (po_some h) fun σ H Q h => by
  obtain ⟨w, mh, env, rfl, hw, hf, hp⟩ := h
  refine stepG (rep := repV X.K) hw hf hp fun w1 mh1 v1 d1 x1 hw1 hf1 r1 hp1 => ?_
  cases r1 <;> first | exact hp1.elim | skip
  exact ⟨_, rfl, PostG.ret hp1 hw1 rfl⟩
theorem me_slice (ha : ME X ca W a ma) (hl : MO' X ca W lo ml) (hu : MO' X ca W hi mh') : ME X ca W (.Subscript a (.Slice lo hi none p2) pos) (mSl ma ml mh') :=
  PE.mono (pe_slice (SlR.or sl_tupA (SlR.or sl_list sl_str)) ha hl hu) fun σ H Q h => by
    obtain ⟨w, mh, env, rfl, hw, hf, hp⟩ := h
    refine stepG (rep := repV X.K) hw hf hp fun w1 mh1 v1 d1 x1 hw1 hf1 r1 hp1 => ?_
    refine stepG (rep := repO) hw1 hf1 hp1 fun w2 mh2 v2 d2 x2 hw2 hf2 r2 hp2 => ?_
    refine stepG (rep := repO) hw2 hf2 hp2 fun w3 mh3 v3 d3 x3 hw3 hf3 r3 hp3 => ?_
    have r2 : v2 = d2 := r2
    have r3 : v3 = d3 := r3
    subst r2 r3
    have r1 : Rp X.K w3 v1 d1 := x3.rp (x2.rp r1)
    cases r1 with
    | tup q r =>
      rename_i p xs ds
      refine .inl ⟨p, xs, rfl, sqT_sub hw3.sub q, fun h => ?_, fun _ => PostG.tup hp3 hw3 (r.cut _ _)⟩
      refine PostG.ret hp3 hw3 ?_
      rw [cutD_whole (by rw [← r.length]; exact h)]
      exact .tup q r
    | lst q r => exact .inr (.inl ⟨_, _, rfl, .of (hw3.subL _ _ q), PostG.lst hp3 hw3 (r.cut _ _)⟩)
    | str z =>
      by_cases l : z.length ≤ 16777216
      · simp only [opSl, l, if_true] at hp3
        exact .inr (.inr ⟨z, rfl, by rw [sizeLine_lit]; exact l, PostG.ret hp3 hw3 (.str _)⟩)
      · simp only [opSl, l, if_false] at hp3; exact hp3.elim
    | _ => exact hp3.elim
theorem me_rev {k : Nat} {p1 p2 p3 : Pos} (ha : ME X ca W a ma) : ME X ca W (.Subscript a (.Slice none none (some (.UnaryOp .USub (.Constant (.int 1) k p1) p2)) p3) pos) (mUn opRev ma) :=
  PE.mono (pe_revL ha) fun σ H Q h => by
    obtain ⟨w, mh, env, rfl, hw, hf, hp⟩ := h
    refine stepG (rep := repV X.K) hw hf hp fun w1 mh1 v1 d1 x1 hw1 hf1 r1 hp1 => ?_
    cases r1 <;> first | exact hp1.elim | skip
    rename_i q r
    exact ⟨_, _, rfl, .of (hw1.subL _ _ q), PostG.lst hp1 hw1 r.reverse⟩
end
end AG
/-! AgE: calls: built-ins, isinstance, defs. -/
namespace AG
open PySem L2

abbrev LOp := List D → M D
def CallM (K : PySem.W.Frag) (ca : Nat → Addr) (r : List V → Hp → VK → Prop) (f : LOp) : Prop :=
  ∀ (W : WX) (σ : St) (w : Wd) (mh : MH) (xs : List V) (ds : List D) (Q : VK), WOk K ca w mh → RpAll K w xs ds → Post K ca W σ w (f ds mh) Q → r xs w.H Q
def mCall (f : LOp) (ms : Env → M (List D)) : Env → M D := fun env => M.bind (ms env) f

def fLen : LOp := fun ds => match ds with
  | [.tup xs] => M.pure (.int xs.length)
  | [.lst xs] => M.pure (.int xs.length)
  | [.str s] => if s.length ≤ 16777216 then M.pure (.int s.length) else M.bad
  | [.scr ns] => M.pure (.int ns.length)
  | [.ref n] => fun h => match h[n]? with | some (.lst xs) => .ok (.int xs.length) h | _ => .bad
  | _ => M.bad
def fInt : LOp := fun ds => match ds with
  | [.int i] => M.pure (.int i)
  | [.bl b] => M.pure (.int (if b then 1 else 0))
  | _ => M.bad
def fAbs : LOp := fun ds => match ds with
  | [.int i] => M.pure (.int (if i < 0 then -i else i))
  | _ => M.bad
def fList : LOp := fun ds => match ds with
  | [.tup xs] => M.pure (.lst xs)
  | [.lst xs] => M.pure (.lst xs)
  | [.scr ns] => M.pure (.scr ns)
  | _ => M.bad
def fTuple : LOp := fun ds => match ds with
  | [.tup xs] => M.pure (.tup xs)
  | [.lst xs] => M.pure (.tup xs)
  | _ => M.bad
def D.ints : List D → Option (List Int)
  | [] => some []
  | .int i :: r => (D.ints r).map (i :: ·)
  | _ :: _ => none
def fSum : LOp := fun ds => match ds with
  | [.lst xs] => match D.ints xs with | some ns => M.pure (.int ns.sum) | none => M.bad
  | _ => M.bad
def D.tb (d : D) : Bool := d.truth.getD false
def D.fit : D → Bool
  | .tup xs => decide (xs.length ≤ 16777216)
  | .lst xs => decide (xs.length ≤ 16777216)
  | _ => true
def D.tok (d : D) : Bool := d.truth.isSome && D.sm 60 d && d.fit
def fAny : LOp := fun ds => match ds with
  | [.lst xs] => if xs.all D.tok = true then M.pure (.bl (xs.any D.tb)) else M.bad
  | _ => M.bad
def fAll : LOp := fun ds => match ds with
  | [.lst xs] => if xs.all D.tok = true then M.pure (.bl (xs.all D.tb)) else M.bad
  | _ => M.bad
def maxI (n : Int) (ns : List Int) : Int := ns.foldl (fun m x => if m < x then x else m) n
def minI (n : Int) (ns : List Int) : Int := ns.foldl (fun m x => if x < m then x else m) n
def fMax : LOp := fun ds => match ds with
  | [.lst xs] => match D.ints xs with | some (n :: ns) => M.pure (.int (maxI n ns)) | _ => M.bad
  | [.int i, .int j] => M.pure (.int (if j > i then j else i))
  | _ => M.bad
def fMin : LOp := fun ds => match ds with
  | [.lst xs] => match D.ints xs with | some (n :: ns) => M.pure (.int (minI n ns)) | _ => M.bad
  | [.int i, .int j] => M.pure (.int (if j < i then j else i))
  | _ => M.bad

section
variable {K : PySem.W.Frag} {ca : Nat → Addr}
theorem RpAll.one {w : Wd} {xs : List V} {d : D} (h : RpAll K w xs [d]) : ∃ x, xs = [x] ∧ Rp K w x d := by
  cases h with
  | cons h r => cases r; exact ⟨_, rfl, h⟩
theorem RpAll.two {w : Wd} {xs : List V} {d e : D} (h : RpAll K w xs [d, e]) : ∃ x y, xs = [x, y] ∧ Rp K w x d ∧ Rp K w y e := by
  cases h with
  | cons h r =>
    obtain ⟨y, rfl, q⟩ := r.one
    exact ⟨_, _, rfl, h, q⟩
theorem cm_len : CallM K ca (fun xs H Q => ∃ x n, xs = [x] ∧ LenV K x H n ∧ Q (.int n) H) fLen := by
  intro W σ w mh xs ds Q hw r hp
  unfold fLen at hp
  match ds, r, hp with
  | [.tup ys], r, hp =>
    obtain ⟨x, rfl, q⟩ := r.one
    cases q with
    | tup h1 h2 => exact ⟨_, _, rfl, .inr ⟨_, sqT_sub hw.sub h1, h2.length.symm⟩, PostG.ret hp hw (.int _)⟩
  | [.lst ys], r, hp =>
    obtain ⟨x, rfl, q⟩ := r.one
    cases q with
    | lst h1 h2 => exact ⟨_, _, rfl, .inl ⟨_, .of (hw.subL _ _ h1), h2.length.symm⟩, PostG.ret hp hw (.int _)⟩
  | [.str s], r, hp =>
    obtain ⟨x, rfl, q⟩ := r.one
    cases q with
    | str _ =>
      by_cases l : s.length ≤ 16777216
      · simp only [l, if_true] at hp
        exact ⟨_, _, rfl, ⟨by rw [sizeLine_lit]; exact l, rfl⟩, PostG.ret hp hw (.int _)⟩
      · simp only [l, if_false] at hp; exact hp.elim
  | [.scr ns], r, hp =>
    obtain ⟨x, rfl, q⟩ := r.one
    cases q with
    | scr h1 h2 => exact ⟨_, ns.length, rfl, .inl ⟨_, sqL_mono hw.sub h1, by simp⟩, PostG.ret hp hw (.int _)⟩
  | [.ref n], r, hp =>
    obtain ⟨x, rfl, q⟩ := r.one
    cases q with
    | ref h1 =>
      obtain ⟨mo, e1, _, _, ho⟩ := hw.at h1
      cases mo with
      | lst ds =>
        obtain ⟨vs, hH, rr⟩ := ho
        simp only [e1] at hp
        exact ⟨_, _, rfl, .inl ⟨_, .of hH, rr.length.symm⟩, PostG.ret hp hw (.int _)⟩
      | _ => simp only [e1] at hp; exact hp.elim
theorem cm_int : CallM K ca (fun xs H Q => (∃ i, xs = [.int i] ∧ Q (.int i) H) ∨ ∃ k, xs = [.bl k] ∧ Q (.int (if k then 1 else 0)) H) fInt := by
  intro W σ w mh xs ds Q hw r hp
  unfold fInt at hp
  match ds, r, hp with
  | [.int i], r, hp =>
    obtain ⟨x, rfl, q⟩ := r.one
    cases q
    exact .inl ⟨_, rfl, PostG.ret hp hw (.int _)⟩
  | [.bl b], r, hp =>
    obtain ⟨x, rfl, q⟩ := r.one
    cases q
    exact .inr ⟨_, rfl, PostG.ret hp hw (.int _)⟩
theorem cm_abs : CallM K ca (fun xs H Q => ∃ i, xs = [.int i] ∧ Q (.int (if i < 0 then -i else i)) H) fAbs := by
  intro W σ w mh xs ds Q hw r hp
  unfold fAbs at hp
  match ds, r, hp with
  | [.int i], r, hp =>
    obtain ⟨x, rfl, q⟩ := r.one
    cases q
    exact ⟨_, rfl, PostG.ret hp hw (.int _)⟩
theorem cm_list : CallM K ca (fun xs H Q => ∃ p ys, xs = [.ref p] ∧ (SqL K H p ys ∨ SqT K H p ys) ∧ ∀ l, H l = none → Q (.ref l) (upd H l (.lst ys))) fList := by
  intro W σ w mh xs ds Q hw r hp
  unfold fList at hp
  match ds, r, hp with
  | [.tup ys], r, hp =>
    obtain ⟨x, rfl, q⟩ := r.one
    cases q with
    | tup h1 h2 => exact ⟨_, _, rfl, .inr (sqT_sub hw.sub h1), PostG.lst hp hw h2⟩
  | [.lst ys], r, hp =>
    obtain ⟨x, rfl, q⟩ := r.one
    cases q with
    | lst h1 h2 => exact ⟨_, _, rfl, .inl (.of (hw.subL _ _ h1)), PostG.lst hp hw h2⟩
  | [.scr ns], r, hp =>
    obtain ⟨x, rfl, q⟩ := r.one
    cases q with
    | scr h1 h2 => exact ⟨_, _, rfl, .inl (sqL_mono hw.sub h1), PostG.scr (vs := []) hp hw h2⟩
theorem cm_tuple : CallM K ca (fun xs H Q => ∃ p ys, xs = [.ref p] ∧ ((SqL K H p ys ∧ ∀ l, H l = none → Q (.ref l) (upd H l (.tup ys))) ∨ (SqT K H p ys ∧ Q (.ref p) H))) fTuple := by
  intro W σ w mh xs ds Q hw r hp
  unfold fTuple at hp
  match ds, r, hp with
  | [.tup ys], r, hp =>
    obtain ⟨x, rfl, q⟩ := r.one
    cases q with
    | tup h1 h2 => exact ⟨_, _, rfl, .inr ⟨sqT_sub hw.sub h1, PostG.ret hp hw (.tup h1 h2)⟩⟩
  | [.lst ys], r, hp =>
    obtain ⟨x, rfl, q⟩ := r.one
    cases q with
    | lst h1 h2 => exact ⟨_, _, rfl, .inl ⟨.of (hw.subL _ _ h1), PostG.tup hp hw h2⟩⟩
theorem ints_of {w : Wd} : ∀ {ds : List D} {xs : List V} {ns : List Int}, RpAll K w xs ds → D.ints ds = some ns → xs = ns.map V.int
  | [], _, _, r, e => by cases r; cases e; rfl
  | .int i :: ds, _, _, r, e => by
    cases r with
    | cons h r =>
      cases h
      simp only [D.ints] at e
      cases q : D.ints ds with
      | none => rw [q] at e; cases e
      | some ms =>
        rw [q] at e
        cases e
        rw [ints_of r q]; rfl
  | .non :: _, _, _, _, e => by cases e
  | .bl _ :: _, _, _, _, e => by cases e
  | .str _ :: _, _, _, _, e => by cases e
  | .tup _ :: _, _, _, _, e => by cases e
  | .lst _ :: _, _, _, _, e => by cases e
  | .ref _ :: _, _, _, _, e => by cases e
  | .scr _ :: _, _, _, _, e => by cases e
theorem cm_sum : CallM K ca (rSum K) fSum := by
  intro W σ w mh xs ds Q hw r hp
  unfold fSum at hp
  match ds, r, hp with
  | [.lst ys], r, hp =>
    obtain ⟨x, rfl, q⟩ := r.one
    cases q with
    | lst h1 h2 =>
      cases e : D.ints ys with
      | none => simp only [e] at hp; exact hp.elim
      | some ns =>
        simp only [e] at hp
        rw [ints_of h2 e] at h1
        exact ⟨_, ns, rfl, .of (hw.subL _ _ h1), PostG.ret hp hw (.int _)⟩
theorem maxI_spec : ∀ (ns : List Int) (n : Int), maxI n ns ∈ n :: ns ∧ ∀ y ∈ n :: ns, y ≤ maxI n ns
  | [], n => by simp [maxI]
  | m :: ns, n => by
    have e : maxI n (m :: ns) = maxI (if n < m then m else n) ns := rfl
    rw [e]
    obtain ⟨h1, h2⟩ := maxI_spec ns (if n < m then m else n)
    have h3 := h2 (if n < m then m else n) List.mem_cons_self
    generalize maxI (if n < m then m else n) ns = Z at h1 h2 h3 ⊢
    refine ⟨?_, fun y hy => ?_⟩
    · rcases List.mem_cons.mp h1 with q | q
      · rw [q]; split <;> simp
      · exact List.mem_cons_of_mem _ (List.mem_cons_of_mem _ q)
    · rcases List.mem_cons.mp hy with q | q
      · subst q; split at h3 <;> omega
      · rcases List.mem_cons.mp q with q | q
        · subst q; split at h3 <;> omega
        · exact h2 y (List.mem_cons_of_mem _ q)
theorem minI_spec : ∀ (ns : List Int) (n : Int), minI n ns ∈ n :: ns ∧ ∀ y ∈ n :: ns, minI n ns ≤ y
  | [], n => by simp [minI]
  | m :: ns, n => by
    have e : minI n (m :: ns) = minI (if m < n then m else n) ns := rfl
    rw [e]
    obtain ⟨h1, h2⟩ := minI_spec ns (if m < n then m else n)
    have h3 := h2 (if m < n then m else n) List.mem_cons_self
    generalize minI (if m < n then m else n) ns = Z at h1 h2 h3 ⊢
    refine ⟨?_, fun y hy => ?_⟩
    · rcases List.mem_cons.mp h1 with q | q
      · rw [q]; split <;> simp
      · exact List.mem_cons_of_mem _ (List.mem_cons_of_mem _ q)
    · rcases List.mem_cons.mp hy with q | q
      · subst q; split at h3 <;> omega
      · rcases List.mem_cons.mp q with q | q
        · subst q; split at h3 <;> omega
        · exact h2 y (List.mem_cons_of_mem _ q)
def rMax2 (K : PySem.W.Frag) : List V → Hp → VK → Prop := fun xs H Q => rMax K xs H Q ∨ ∃ i j, xs = [.int i, .int j] ∧ Q (.int (if j > i then j else i)) H
def rMin2 (K : PySem.W.Frag) : List V → Hp → VK → Prop := fun xs H Q => rMin K xs H Q ∨ ∃ i j, xs = [.int i, .int j] ∧ Q (.int (if j < i then j else i)) H
theorem cm_max : CallM K ca (rMax2 K) fMax := by
  intro W σ w mh xs ds Q hw r hp
  unfold fMax at hp
  match ds, r, hp with
  | [.lst ys], r, hp =>
    obtain ⟨x, rfl, q⟩ := r.one
    cases q with
    | lst h1 h2 =>
      cases e : D.ints ys with
      | none => simp only [e] at hp; exact hp.elim
      | some ns =>
        cases ns with
        | nil => simp only [e] at hp; exact hp.elim
        | cons n ns =>
          simp only [e] at hp
          rw [ints_of h2 e] at h1
          have sp := maxI_spec ns n
          refine .inl ⟨_, n :: ns, rfl, .of (hw.subL _ _ h1), by simp, fun m h3 h4 => ?_⟩
          have : m = maxI n ns := by have := h4 _ sp.1; have := sp.2 _ h3; omega
          subst this
          exact PostG.ret hp hw (.int _)
  | [.int i, .int j], r, hp =>
    obtain ⟨x, y, rfl, q1, q2⟩ := r.two
    cases q1
    cases q2
    exact .inr ⟨_, _, rfl, PostG.ret hp hw (.int _)⟩
theorem cm_min : CallM K ca (rMin2 K) fMin := by
  intro W σ w mh xs ds Q hw r hp
  unfold fMin at hp
  match ds, r, hp with
  | [.lst ys], r, hp =>
    obtain ⟨x, rfl, q⟩ := r.one
    cases q with
    | lst h1 h2 =>
      cases e : D.ints ys with
      | none => simp only [e] at hp; exact hp.elim
      | some ns =>
        cases ns with
        | nil => simp only [e] at hp; exact hp.elim
        | cons n ns =>
          simp only [e] at hp
          rw [ints_of h2 e] at h1
          have sp := minI_spec ns n
          refine .inl ⟨_, n :: ns, rfl, .of (hw.subL _ _ h1), by simp, fun m h3 h4 => ?_⟩
          have : m = minI n ns := by have := h4 _ sp.1; have := sp.2 _ h3; omega
          subst this
          exact PostG.ret hp hw (.int _)
  | [.int i, .int j], r, hp =>
    obtain ⟨x, y, rfl, q1, q2⟩ := r.two
    cases q1
    cases q2
    exact .inr ⟨_, _, rfl, PostG.ret hp hw (.int _)⟩

/-! any, all -/
def rAnyD (K : PySem.W.Frag) (g : List PyData → Bool) : List V → Hp → VK → Prop := fun xs H Q => ∃ a ys ds, xs = [.ref a] ∧ SqL K H a ys ∧ DpAll K H ys ds ∧ PyData.plainAll ds = true ∧ (∀ x ∈ ds, x.fits63) ∧ Q (.bl (g ds)) H
theorem cr_anyD {X : Cx} (hc : X.calm = true) : CallR X (.builtin "any") (rAnyD X.K fun ds => ds.any PyData.truthy) := by
  intro pins s σ H xs us Q I r h
  obtain ⟨a, ys, ds, rfl, hl, hd, hp, hf, q⟩ := h
  obtain ⟨its, rv, pl, hz⟩ := I.list hl
  obtain ⟨as, hr⟩ := Dp.readsAll I ds ys its hd rv
  cases r with
  | cons r1 r2 =>
    cases r1
    cases r2
    exact PySem.W.any_list_data (I.ok.hd hc) pl.isList (by simpa using hr) hp hf fun h' tk k => ⟨.bl _, H, I.kept (t' := tk) k, rfl, q⟩
theorem cr_allD {X : Cx} (hc : X.calm = true) : CallR X (.builtin "all") (rAnyD X.K fun ds => ds.all PyData.truthy) := by
  intro pins s σ H xs us Q I r h
  obtain ⟨a, ys, ds, rfl, hl, hd, hp, hf, q⟩ := h
  obtain ⟨its, rv, pl, hz⟩ := I.list hl
  obtain ⟨as, hr⟩ := Dp.readsAll I ds ys its hd rv
  cases r with
  | cons r1 r2 =>
    cases r1
    cases r2
    exact PySem.W.all_list_data (I.ok.hd hc) pl.isList (by simpa using hr) hp hf fun h' tk k => ⟨.bl _, H, I.kept (t' := tk) k, rfl, q⟩
theorem tok_of {d : D} (h : d.tok = true) : D.sm 60 d = true ∧ d.toPy.truthy = d.tb ∧ d.toPy.fits63 := by
  simp only [D.tok, Bool.and_eq_true] at h
  obtain ⟨⟨h1, h2⟩, h3⟩ := h
  refine ⟨h2, ?_, ?_⟩
  · cases d <;> simp [D.truth, D.tb, D.toPy, PyData.truthy] at h1 ⊢
    · rename_i s
      by_cases l : s.length ≤ 16777216
      · simp [l]
      · omega
    · rename_i xs; rw [D.toPys_map]; cases xs <;> rfl
    · rename_i xs; rw [D.toPys_map]; cases xs <;> rfl
  · cases d <;> simp [D.toPy, PyData.fits63, D.fit, D.truth, D.toPys_map] at h1 h3 ⊢
    · omega
    · omega
    · omega
theorem dpAll_tok {w : Wd} (hs : Subs w) : ∀ {vs : List V} {ds : List D}, RpAll K w vs ds → ds.all D.tok = true → DpAll K w.H vs (D.toPys ds)
  | _, _, .nil, _ => .nil
  | _, _, .cons h r, q => by
    simp only [List.all_cons, Bool.and_eq_true] at q
    exact .cons (h.dp hs (tok_of q.1).1) (dpAll_tok hs r q.2)
theorem any_tok : ∀ {ds : List D}, ds.all D.tok = true → (D.toPys ds).any PyData.truthy = ds.any D.tb
  | [], _ => rfl
  | d :: ds, q => by
    simp only [List.all_cons, Bool.and_eq_true] at q
    rw [D.toPys, List.any_cons, List.any_cons, (tok_of q.1).2.1, any_tok q.2]
theorem all_tok : ∀ {ds : List D}, ds.all D.tok = true → (D.toPys ds).all PyData.truthy = ds.all D.tb
  | [], _ => rfl
  | d :: ds, q => by
    simp only [List.all_cons, Bool.and_eq_true] at q
    rw [D.toPys, List.all_cons, List.all_cons, (tok_of q.1).2.1, all_tok q.2]
theorem fits_tok {ds : List D} (q : ds.all D.tok = true) : ∀ x ∈ D.toPys ds, x.fits63 := by
  rw [D.toPys_map]
  intro x hx
  obtain ⟨d, hd, rfl⟩ := List.mem_map.mp hx
  exact (tok_of (List.all_eq_true.mp q d hd)).2.2
theorem cm_any : CallM K ca (rAnyD K fun ds => ds.any PyData.truthy) fAny := by
  intro W σ w mh xs ds Q hw r hp
  unfold fAny at hp
  match ds, r, hp with
  | [.lst ys], r, hp =>
    obtain ⟨x, rfl, q⟩ := r.one
    cases q with
    | lst h1 h2 =>
      by_cases c : ys.all D.tok = true
      · simp only [c, if_true] at hp
        refine ⟨_, _, _, rfl, .of (hw.subL _ _ h1), dpAll_tok hw.subs h2 c, plainAll_toPy _, fits_tok c, ?_⟩
        show Q (V.bl ((D.toPys ys).any PyData.truthy)) w.H
        rw [any_tok c]
        exact PostG.ret hp hw (.bl _)
      · simp only [c] at hp; exact hp.elim
theorem cm_all : CallM K ca (rAnyD K fun ds => ds.all PyData.truthy) fAll := by
  intro W σ w mh xs ds Q hw r hp
  unfold fAll at hp
  match ds, r, hp with
  | [.lst ys], r, hp =>
    obtain ⟨x, rfl, q⟩ := r.one
    cases q with
    | lst h1 h2 =>
      by_cases c : ys.all D.tok = true
      · simp only [c, if_true] at hp
        refine ⟨_, _, _, rfl, .of (hw.subL _ _ h1), dpAll_tok hw.subs h2 c, plainAll_toPy _, fits_tok c, ?_⟩
        show Q (V.bl ((D.toPys ys).all PyData.truthy)) w.H
        rw [all_tok c]
        exact PostG.ret hp hw (.bl _)
      · simp only [c] at hp; exact hp.elim
end

section
variable {X : Cx} {ca : Nat → Addr} {W : WX} {e : Expr} {es : List Expr} {ms : Env → M (List D)} {m : Env → M D} {r : List V → Hp → VK → Prop} {f : LOp} {x : Str} {p pos : Pos} {id : String}
theorem me_callB (hc : CallR X (.builtin id) r) (hf : CallM X.K ca r f) (hm : X.mg x = none) (hv : bootBuiltins x = some (.builtin id)) (ha : MA X ca W (e :: es) ms) (hg : Gl X x := by rfl) (hn : x ≠ "__name__" := by decide) (hdb : (x == ("__debug__" : Str)) = false := by decide)
    (he : starEach (e :: es) X.env = (false, eval e X.env) :: starEach es X.env := by rfl) (hpl : (backTo pos (starEach es X.env)).any (·.1) = false := by rfl) : ME X ca W (.Call (.Name x p) (e :: es) [] pos) (mCall f ms) :=
  PE.mono (pe_callB hc hg hm hv ha hn hdb he hpl) fun σ H Q h => by
    obtain ⟨w, mh, env, rfl, hw, hfr, hp⟩ := h
    exact stepG (rep := repA X.K) hw hfr hp fun w1 mh1 v1 d1 x1 hw1 hf1 r1 hp1 => hf W σ w1 mh1 v1 d1 Q hw1 r1 hp1
theorem me_callTy (hc : CallR X (.type id) r) (hf : CallM X.K ca r f) (hm : X.mg x = none) (hv : bootBuiltins x = some (.type id)) (ha : MA X ca W (e :: es) ms) (hg : Gl X x := by rfl) (hn : x ≠ "__name__" := by decide) (hdb : (x == ("__debug__" : Str)) = false := by decide)
    (he : starEach (e :: es) X.env = (false, eval e X.env) :: starEach es X.env := by rfl) (hpl : (backTo pos (starEach es X.env)).any (·.1) = false := by rfl) : ME X ca W (.Call (.Name x p) (e :: es) [] pos) (mCall f ms) :=
  PE.mono (pe_callTy hc hg hm hv ha hn hdb he hpl) fun σ H Q h => by
    obtain ⟨w, mh, env, rfl, hw, hfr, hp⟩ := h
    exact stepG (rep := repA X.K) hw hfr hp fun w1 mh1 v1 d1 x1 hw1 hf1 r1 hp1 => hf W σ w1 mh1 v1 d1 Q hw1 r1 hp1
theorem me_len (hm : X.mg "len" = none) (ha : MA X ca W (e :: es) ms) (hg : Gl X "len" := by rfl) (he : starEach (e :: es) X.env = (false, eval e X.env) :: starEach es X.env := by rfl) (hpl : (backTo pos (starEach es X.env)).any (·.1) = false := by rfl) : ME X ca W (.Call (.Name "len" p) (e :: es) [] pos) (mCall fLen ms) :=
  me_callB call_len cm_len hm PySem.boot_len ha hg (by decide) (by decide) he hpl
theorem me_int1 (hm : X.mg "int" = none) (ha : MA X ca W (e :: es) ms) (hg : Gl X "int" := by rfl) (he : starEach (e :: es) X.env = (false, eval e X.env) :: starEach es X.env := by rfl) (hpl : (backTo pos (starEach es X.env)).any (·.1) = false := by rfl) : ME X ca W (.Call (.Name "int" p) (e :: es) [] pos) (mCall fInt ms) :=
  me_callTy call_int1 cm_int hm (by decide +kernel) ha hg (by decide) (by decide) he hpl
theorem me_abs (hm : X.mg "abs" = none) (ha : MA X ca W (e :: es) ms) (hg : Gl X "abs" := by rfl) (he : starEach (e :: es) X.env = (false, eval e X.env) :: starEach es X.env := by rfl) (hpl : (backTo pos (starEach es X.env)).any (·.1) = false := by rfl) : ME X ca W (.Call (.Name "abs" p) (e :: es) [] pos) (mCall fAbs ms) :=
  me_callB call_abs cm_abs hm (by decide +kernel) ha hg (by decide) (by decide) he hpl
theorem me_list1 (hm : X.mg "list" = none) (ha : MA X ca W (e :: es) ms) (hg : Gl X "list" := by rfl) (he : starEach (e :: es) X.env = (false, eval e X.env) :: starEach es X.env := by rfl) (hpl : (backTo pos (starEach es X.env)).any (·.1) = false := by rfl) : ME X ca W (.Call (.Name "list" p) (e :: es) [] pos) (mCall fList ms) :=
  me_callTy call_list_of cm_list hm (by decide +kernel) ha hg (by decide) (by decide) he hpl
theorem me_tuple1 (hm : X.mg "tuple" = none) (ha : MA X ca W (e :: es) ms) (hg : Gl X "tuple" := by rfl) (he : starEach (e :: es) X.env = (false, eval e X.env) :: starEach es X.env := by rfl) (hpl : (backTo pos (starEach es X.env)).any (·.1) = false := by rfl) : ME X ca W (.Call (.Name "tuple" p) (e :: es) [] pos) (mCall fTuple ms) :=
  me_callTy call_tuple_of cm_tuple hm (by decide +kernel) ha hg (by decide) (by decide) he hpl
theorem me_sum (hc : X.calm = true) (hm : X.mg "sum" = none) (ha : MA X ca W (e :: es) ms) (hg : Gl X "sum" := by rfl) (he : starEach (e :: es) X.env = (false, eval e X.env) :: starEach es X.env := by rfl) (hpl : (backTo pos (starEach es X.env)).any (·.1) = false := by rfl) : ME X ca W (.Call (.Name "sum" p) (e :: es) [] pos) (mCall fSum ms) :=
  me_callB (cr_sum hc) cm_sum hm (by decide +kernel) ha hg (by decide) (by decide) he hpl
theorem me_any (hc : X.calm = true) (hm : X.mg "any" = none) (ha : MA X ca W (e :: es) ms) (hg : Gl X "any" := by rfl) (he : starEach (e :: es) X.env = (false, eval e X.env) :: starEach es X.env := by rfl) (hpl : (backTo pos (starEach es X.env)).any (·.1) = false := by rfl) : ME X ca W (.Call (.Name "any" p) (e :: es) [] pos) (mCall fAny ms) :=
  me_callB (cr_anyD hc) cm_any hm (by decide +kernel) ha hg (by decide) (by decide) he hpl
theorem me_all (hc : X.calm = true) (hm : X.mg "all" = none) (ha : MA X ca W (e :: es) ms) (hg : Gl X "all" := by rfl) (he : starEach (e :: es) X.env = (false, eval e X.env) :: starEach es X.env := by rfl) (hpl : (backTo pos (starEach es X.env)).any (·.1) = false := by rfl) : ME X ca W (.Call (.Name "all" p) (e :: es) [] pos) (mCall fAll ms) :=
  me_callB (cr_allD hc) cm_all hm (by decide +kernel) ha hg (by decide) (by decide) he hpl
theorem CallR.or {v : Value} {r r' : List V → Hp → VK → Prop} (h : CallR X v r) (h' : CallR X v r') : CallR X v (fun xs H Q => r xs H Q ∨ r' xs H Q) := by
  intro pins s σ H xs us Q I rr q
  rcases q with q | q
  · exact h pins s σ H xs us Q I rr q
  · exact h' pins s σ H xs us Q I rr q
theorem me_max (hc : X.calm = true) (hm : X.mg "max" = none) (ha : MA X ca W (e :: es) ms) (hg : Gl X "max" := by rfl) (he : starEach (e :: es) X.env = (false, eval e X.env) :: starEach es X.env := by rfl) (hpl : (backTo pos (starEach es X.env)).any (·.1) = false := by rfl) : ME X ca W (.Call (.Name "max" p) (e :: es) [] pos) (mCall fMax ms) :=
  me_callB (CallR.or (cr_max hc) (call_max2 hc)) cm_max hm (by decide +kernel) ha hg (by decide) (by decide) he hpl
theorem me_min (hc : X.calm = true) (hm : X.mg "min" = none) (ha : MA X ca W (e :: es) ms) (hg : Gl X "min" := by rfl) (he : starEach (e :: es) X.env = (false, eval e X.env) :: starEach es X.env := by rfl) (hpl : (backTo pos (starEach es X.env)).any (·.1) = false := by rfl) : ME X ca W (.Call (.Name "min" p) (e :: es) [] pos) (mCall fMin ms) :=
  me_callB (CallR.or (cr_min hc) (call_min2 hc)) cm_min hm (by decide +kernel) ha hg (by decide) (by decide) he hpl

/-! ### isinstance -/
def rIsiD (K : PySem.W.Frag) (T : String) (g : PyData → Bool) : List V → Hp → VK → Prop := fun xs H Q => ∃ x d, xs = [x, .ty T] ∧ Dp K H x d ∧ Q (.bl (g d)) H
theorem cr_isi {T : String} {g : PyData → Bool} (hi : ∀ (A : Around) (E : Value → Shared → Prop) (s : Shared) (v : Value) (d : PyData) (as : List Addr) (Q : Value → Shared → Prop), Reads s.heap v d as → (∀ tk, s.toks ≤ tk → Q (.bool (g d)) { s with toks := tk }) → wpAny (model X.prog X.w) A (call (.builtin "isinstance") [v, .type T]) Q E s) :
    CallR X (.builtin "isinstance") (rIsiD X.K T g) := by
  intro pins s σ H xs us Q I r h
  obtain ⟨x, d, rfl, hd, q⟩ := h
  cases r with
  | cons r1 r2 =>
    cases r2 with
    | cons r2 r3 =>
      cases r2
      cases r3
      obtain ⟨as, hr⟩ := Dp.reads I d x _ hd r1
      exact hi _ _ _ _ _ _ _ hr fun tk _ => ⟨.bl _, H, I.tok _, rfl, q⟩
def mIsi (g : PyData → Bool) (m : Env → M D) : Env → M D := fun env => M.bind (m env) fun d => if D.sm 60 d = true then M.pure (.bl (g d.toPy)) else M.bad
theorem me_isi {T : String} {y : Str} {p2 : Pos} {g : PyData → Bool} (hi : CallR X (.builtin "isinstance") (rIsiD X.K T g)) (hm : X.mg "isinstance" = none) (ht : X.mg y = none) (hv : bootBuiltins y = some (.type T)) (ha : ME X ca W e m) (hg : Gl X "isinstance" := by rfl) (hg2 : Gl X y := by rfl) (hn : y ≠ "__name__" := by decide) (hdb : (y == ("__debug__" : Str)) = false := by decide)
    (he : starEach (e :: [.Name y p2]) X.env = (false, eval e X.env) :: starEach [.Name y p2] X.env := by rfl) (he2 : starEach [.Name y p2] X.env = (false, eval (.Name y p2) X.env) :: starEach [] X.env := by rfl) (hpl : (backTo pos (starEach [.Name y p2] X.env)).any (·.1) = false := by rfl) :
    ME X ca W (.Call (.Name "isinstance" p) [e, .Name y p2] [] pos) (mIsi g m) :=
  PE.mono (pe_callB hi hg hm (by decide +kernel) (pa_cons ha (pa_cons (pe_bltn (v := .ty T) hg2 ht hv rfl hn hdb) pa_nil he2) he) (by decide) (by decide) he hpl) fun σ H Q h => by
    obtain ⟨w, mh, env, rfl, hw, hfr, hp⟩ := h
    refine stepG (rep := repV X.K) hw hfr hp fun w1 mh1 v1 d1 x1 hw1 hf1 r1 hp1 => ?_
    by_cases c : D.sm 60 d1 = true
    · simp only [c, if_true] at hp1
      exact ⟨_, _, rfl, Rp.dp hw1.subs r1 c, PostG.ret hp1 hw1 (.bl _)⟩
    · simp only [c] at hp1; exact hp1.elim
theorem me_isi_tuple {p2 : Pos} (hm : X.mg "isinstance" = none) (ht : X.mg "tuple" = none) (ha : ME X ca W e m) (hg : Gl X "isinstance" := by rfl) (hg2 : Gl X "tuple" := by rfl)
    (he : starEach (e :: [.Name "tuple" p2]) X.env = (false, eval e X.env) :: starEach [.Name "tuple" p2] X.env := by rfl) (he2 : starEach [.Name "tuple" p2] X.env = (false, eval (.Name "tuple" p2) X.env) :: starEach [] X.env := by rfl) (hpl : (backTo pos (starEach [.Name "tuple" p2] X.env)).any (·.1) = false := by rfl) :
    ME X ca W (.Call (.Name "isinstance" p) [e, .Name "tuple" p2] [] pos) (mIsi PyData.isTuple m) := me_isi (cr_isi fun _ _ _ _ _ _ _ r h => PySem.W.isinstance_tuple_data r h) hm ht (by decide +kernel) ha hg hg2 (by decide) (by decide) he he2 hpl
theorem me_isi_list {p2 : Pos} (hm : X.mg "isinstance" = none) (ht : X.mg "list" = none) (ha : ME X ca W e m) (hg : Gl X "isinstance" := by rfl) (hg2 : Gl X "list" := by rfl)
    (he : starEach (e :: [.Name "list" p2]) X.env = (false, eval e X.env) :: starEach [.Name "list" p2] X.env := by rfl) (he2 : starEach [.Name "list" p2] X.env = (false, eval (.Name "list" p2) X.env) :: starEach [] X.env := by rfl) (hpl : (backTo pos (starEach [.Name "list" p2] X.env)).any (·.1) = false := by rfl) :
    ME X ca W (.Call (.Name "isinstance" p) [e, .Name "list" p2] [] pos) (mIsi PyData.isList m) := me_isi (cr_isi fun _ _ _ _ _ _ _ r h => PySem.W.isinstance_list_data r h) hm ht (by decide +kernel) ha hg hg2 (by decide) (by decide) he he2 hpl
theorem me_isi_int {p2 : Pos} (hm : X.mg "isinstance" = none) (ht : X.mg "int" = none) (ha : ME X ca W e m) (hg : Gl X "isinstance" := by rfl) (hg2 : Gl X "int" := by rfl)
    (he : starEach (e :: [.Name "int" p2]) X.env = (false, eval e X.env) :: starEach [.Name "int" p2] X.env := by rfl) (he2 : starEach [.Name "int" p2] X.env = (false, eval (.Name "int" p2) X.env) :: starEach [] X.env := by rfl) (hpl : (backTo pos (starEach [.Name "int" p2] X.env)).any (·.1) = false := by rfl) :
    ME X ca W (.Call (.Name "isinstance" p) [e, .Name "int" p2] [] pos) (mIsi PyData.isInt m) := me_isi (cr_isi fun _ _ _ _ _ _ _ r h => PySem.W.isinstance_int_data r h) hm ht (by decide +kernel) ha hg hg2 (by decide) (by decide) he he2 hpl
theorem me_isi_bool {p2 : Pos} (hm : X.mg "isinstance" = none) (ht : X.mg "bool" = none) (ha : ME X ca W e m) (hg : Gl X "isinstance" := by rfl) (hg2 : Gl X "bool" := by rfl)
    (he : starEach (e :: [.Name "bool" p2]) X.env = (false, eval e X.env) :: starEach [.Name "bool" p2] X.env := by rfl) (he2 : starEach [.Name "bool" p2] X.env = (false, eval (.Name "bool" p2) X.env) :: starEach [] X.env := by rfl) (hpl : (backTo pos (starEach [.Name "bool" p2] X.env)).any (·.1) = false := by rfl) :
    ME X ca W (.Call (.Name "isinstance" p) [e, .Name "bool" p2] [] pos) (mIsi PyData.isBool m) := me_isi (cr_isi fun _ _ _ _ _ _ _ r h => PySem.W.isinstance_bool_data r h) hm ht (by decide +kernel) ha hg hg2 (by decide) (by decide) he he2 hpl
theorem me_isi_str {p2 : Pos} (hm : X.mg "isinstance" = none) (ht : X.mg "str" = none) (ha : ME X ca W e m) (hg : Gl X "isinstance" := by rfl) (hg2 : Gl X "str" := by rfl)
    (he : starEach (e :: [.Name "str" p2]) X.env = (false, eval e X.env) :: starEach [.Name "str" p2] X.env := by rfl) (he2 : starEach [.Name "str" p2] X.env = (false, eval (.Name "str" p2) X.env) :: starEach [] X.env := by rfl) (hpl : (backTo pos (starEach [.Name "str" p2] X.env)).any (·.1) = false := by rfl) :
    ME X ca W (.Call (.Name "isinstance" p) [e, .Name "str" p2] [] pos) (mIsi PyData.isStr m) := me_isi (cr_isi fun _ _ _ _ _ _ _ r h => PySem.W.isinstance_str_data r h) hm ht (by decide +kernel) ha hg hg2 (by decide) (by decide) he he2 hpl
theorem me_isi_dict {p2 : Pos} (hm : X.mg "isinstance" = none) (ht : X.mg "dict" = none) (ha : ME X ca W e m) (hg : Gl X "isinstance" := by rfl) (hg2 : Gl X "dict" := by rfl)
    (he : starEach (e :: [.Name "dict" p2]) X.env = (false, eval e X.env) :: starEach [.Name "dict" p2] X.env := by rfl) (he2 : starEach [.Name "dict" p2] X.env = (false, eval (.Name "dict" p2) X.env) :: starEach [] X.env := by rfl) (hpl : (backTo pos (starEach [.Name "dict" p2] X.env)).any (·.1) = false := by rfl) :
    ME X ca W (.Call (.Name "isinstance" p) [e, .Name "dict" p2] [] pos) (mIsi PyData.isDict m) := me_isi (cr_isi fun _ _ _ _ _ _ _ r h => PySem.W.isinstance_dict_data r h) hm ht (by decide +kernel) ha hg hg2 (by decide) (by decide) he he2 hpl
end

/-! ### defs -/
def spM (K : PySem.W.Frag) (ca : Nat → Addr) (n : Nat) (m : LOp) : Sp := fun vs H Q E => ∃ w mh ds, w.H = H ∧ WOk K ca w mh ∧ RpAll K w vs ds ∧ vs.length = n ∧ PostG (repV K) K ca (fun cls d _ H' => E cls d H') [] w (m ds mh) Q
structure FnM (P : Program) (w : World) (K : PySem.W.Frag) (mg : Str → Option Value) (base : Heap) (ca : Nat → Addr) (k : Nat) (x : Str) (n : Nat) (m : LOp) : Prop where
  ex : ∃ (f : Addr) (fd : FuncData) (ps : List Str), FnOk P w K mg base (L2.CX P w) k f fd ps (spM K ca n m) ∧ mg x = some (.ref f) ∧ PySem.W.keepIn K (.ref f) = true ∧ ∀ us : List Value, us.length = ps.length → bindArgs fd ⟨us, []⟩ = pure (ps.zip us)
section
variable {X : Cx} {ca : Nat → Addr} {W : WX} {e : Expr} {es : List Expr} {ms : Env → M (List D)} {f : LOp} {x : Str} {p pos : Pos} {n k : Nat}
def mCallN (n : Nat) (f : LOp) (ms : Env → M (List D)) : Env → M D := fun env => M.bind (ms env) fun ds => if ds.length = n then f ds else M.bad
theorem me_call (F : FnM X.prog X.w X.K X.mg X.base ca k x n f) (hr : Room k X.A) (tk : Takes X W) (ha : MA X ca W (e :: es) ms) (hg : Gl X x := by rfl) (hdb : (x == ("__debug__" : Str)) = false := by decide)
    (he : starEach (e :: es) X.env = (false, eval e X.env) :: starEach es X.env := by rfl) (hpl : (backTo pos (starEach es X.env)).any (·.1) = false := by rfl) : ME X ca W (.Call (.Name x p) (e :: es) [] pos) (mCallN n f ms) := by
  obtain ⟨fa, fd, ps, ok, hm, kp, hb⟩ := F.ex
  exact PE.mono (pe_callS ok hr hg hm kp (.all hb) (fun σ => passAt tk σ) ha hdb he hpl) fun σ H Q h => by
    obtain ⟨w, mh, env, rfl, hw, hfr, hp⟩ := h
    refine stepG (rep := repA X.K) hw hfr hp fun w1 mh1 v1 d1 x1 hw1 hf1 r1 hp1 => ?_
    have r1 : RpAll X.K w1 v1 d1 := r1
    by_cases c : d1.length = n
    · simp only [c, if_true] at hp1
      exact ⟨w1, mh1, d1, rfl, hw1, r1, r1.length.trans c, hp1⟩
    · simp only [c, if_false] at hp1; exact hp1.elim
def R.calm {α : Type} : R α → R α
  | .ok a h => .ok a h
  | .exc _ _ => .bad
  | .bad => .bad
  | .pick n k => .pick n fun i => (k i).calm
theorem wpR_calm {α : Type} {r : R α} {Q : α → MH → Prop} {E E' : Nat → MH → Prop} (h : wpR r.calm Q E) : wpR r Q E' := by
  induction r with
  | ok a m => exact h
  | exc c m => exact h.elim
  | bad => exact h
  | pick n k ih => exact ⟨h.1, fun i hi => ih i (h.2 i hi)⟩
def mCall0 (f : LOp) : Env → M D := fun _ h => (f [] h).calm
theorem me_call0 (F : FnM X.prog X.w X.K X.mg X.base ca k x 0 f) (hr : Room k X.A) (hg : Gl X x := by rfl) (hdb : (x == ("__debug__" : Str)) = false := by decide) : ME X ca W (.Call (.Name x p) [] [] pos) (mCall0 f) := by
  obtain ⟨fa, fd, ps, ok, hm, kp, hb⟩ := F.ex
  exact PE.mono (pe_call0 (E := E0) ok hr hg hm kp (.all hb) .nil passL hdb) fun σ H Q h => by
    obtain ⟨w, mh, env, rfl, hw, hfr, hp⟩ := h
    exact ⟨w, mh, [], rfl, hw, .nil, rfl, wpR_calm hp⟩
end
end AG
/-! AgF: what is walked, targets, fresh lists, comprehensions. -/
namespace AG
open PySem L2

/-! ### what is walked -/
structure Serves (K : PySem.W.Frag) (ca : Nat → Addr) (w : Wd) (J : It) (ds : List D) : Prop where
  go : ∀ w2 mh i, Grow w w2 → WOk K ca w2 mh → i < ds.length → J.go i w2.H
  stop : ∀ w2 mh i, Grow w w2 → WOk K ca w2 mh → ds.length ≤ i → J.stop i w2.H
  yld : ∀ w2 mh i x H', Grow w w2 → WOk K ca w2 mh → i < ds.length → J.yld i w2.H x H' → ∃ d w3, ds[i]? = some d ∧ w3.H = H' ∧ Ext w2 w3 ∧ WOk K ca w3 mh ∧ Rp K w3 x d
theorem PI.mono {X : Cx} {tg e : Expr} {t t' : TI} (h : PI X tg e t) (k : ∀ σ H R, t' σ H R → t σ H R) : PI X tg e t' := ⟨fun pins s σ H R I q => h.run pins s σ H R I (k σ H R q)⟩
abbrev repI (K : PySem.W.Frag) (ca : Nat → Addr) : Wd → It → List D → Prop := Serves K ca
abbrev MI (X : Cx) (ca : Nat → Addr) (W : WX) (tg e : Expr) (m : Env → M (List D)) : Prop := PI X tg e (denG (repI X.K ca) X.K ca W m)

section
variable {K : PySem.W.Frag} {ca : Nat → Addr} {w : Wd} {mh : MH}
theorem serves_lst {a : Addr} {xs : List V} {ds : List D} (h : w.L a = some xs) (r : RpAll K w xs ds) : Serves K ca w (Itl K a) ds where
  go := fun w2 mh i g hw hi => by
    have e := hw.subL _ _ (g.lz _ _ h)
    refine ⟨xs, xs[i]'(by rw [r.length]; exact hi), .of e, List.getElem?_eq_getElem _⟩
  stop := fun w2 mh i g hw hi => ⟨xs, .of (hw.subL _ _ (g.lz _ _ h)), by rw [r.length]; exact hi⟩
  yld := fun w2 mh i x H' g hw hi ⟨e, q⟩ => by
    subst e
    obtain ⟨d, e1, e2⟩ := (r.mono g).getV (q xs (.of (hw.subL _ _ (g.lz _ _ h))))
    exact ⟨d, w2, e1, rfl, Ext.refl _, hw, e2⟩
theorem serves_scr {a : Addr} {ns : List Int} (h : SqL K w.F a (ns.map V.int)) : Serves K ca w (Itl K a) (ns.map D.int) where
  go := fun w2 mh i g hw hi => by
    refine ⟨ns.map V.int, (ns.map V.int)[i]'(by simpa using hi), sqL_mono hw.sub (sqL_mono g.fz h), List.getElem?_eq_getElem _⟩
  stop := fun w2 mh i g hw hi => ⟨ns.map V.int, sqL_mono hw.sub (sqL_mono g.fz h), by simpa using hi⟩
  yld := fun w2 mh i x H' g hw hi ⟨e, q⟩ => by
    subst e
    obtain ⟨d, e1, e2⟩ := (RpAll.ints (w := w2) (K := K) ns).getV (q _ (sqL_mono hw.sub (sqL_mono g.fz h)))
    exact ⟨d, w2, e1, rfl, Ext.refl _, hw, e2⟩
theorem serves_tup {a : Addr} {xs : List V} {ds : List D} (h : SqT K w.F a xs) (r : RpAll K w xs ds) : Serves K ca w (Itt K a) ds where
  go := fun w2 mh i g hw hi => by
    have e := sqT_sub hw.sub (sqT_mono g.fz h)
    exact ⟨xs, xs[i]'(by rw [r.length]; exact hi), e, List.getElem?_eq_getElem _⟩
  stop := fun w2 mh i g hw hi => ⟨xs, sqT_sub hw.sub (sqT_mono g.fz h), by rw [r.length]; exact hi⟩
  yld := fun w2 mh i x H' g hw hi ⟨e, q⟩ => by
    subst e
    obtain ⟨d, e1, e2⟩ := (r.mono g).getV (q xs (sqT_sub hw.sub (sqT_mono g.fz h)))
    exact ⟨d, w2, e1, rfl, Ext.refl _, hw, e2⟩
def rngD (lo : Int) (n : Nat) : List D := (List.range n).map fun i => .int (lo + (i : Nat))
theorem serves_rng {lo : Int} {n : Nat} : Serves K ca w (Itr lo n) (rngD lo n) where
  go := fun w2 mh i g hw hi => by
    show i < n
    simpa [rngD] using hi
  stop := fun w2 mh i g hw hi => by
    show n ≤ i
    simpa [rngD] using hi
  yld := fun w2 mh i x H' g hw hi ⟨e, q⟩ => by
    subst e q
    have hi' : i < n := by simpa [rngD] using hi
    exact ⟨.int (lo + i), w2, by simp [rngD, hi'], rfl, Ext.refl _, hw, .int _⟩
end
def itemsM (d : D) : M (List D) := match d with | .lst xs => M.pure xs | .tup xs => M.pure xs | .scr ns => M.pure (ns.map .int) | _ => M.bad
def mItems (m : Env → M D) : Env → M (List D) := fun env => M.bind (m env) itemsM
def rngOk (i : Int) : Bool := decide (-4611686018427387904 ≤ i) && decide (i < 4611686018427387904)
def rng1M (d : D) : M (List D) := match d with | .int j => if rngOk j = true then M.pure (rngD 0 j.toNat) else M.bad | _ => M.bad
def rng2M (d e : D) : M (List D) := match d, e with | .int i, .int j => if (rngOk i && rngOk j) = true then M.pure (rngD i (j - i).toNat) else M.bad | _, _ => M.bad
def mRng1 (m : Env → M D) : Env → M (List D) := fun env => M.bind (m env) rng1M
def mRng2 (m m' : Env → M D) : Env → M (List D) := fun env => M.bind (m env) fun x => M.bind (m' env) fun y => rng2M x y
theorem rngOk_of {i : Int} (h : rngOk i = true) : -(2 ^ 62) ≤ i ∧ i < 2 ^ 62 := by
  simp only [rngOk, Bool.and_eq_true, decide_eq_true_eq] at h
  omega

/-- a list or a tuple, walked -/
def iSeq (K : PySem.W.Frag) (tl : TE) : TI := fun σ H R => tl σ H fun x H1 => ∃ a, x = .ref a ∧ (((∃ xs, SqL K H1 a xs) ∧ R (Itl K a) H1) ∨ ((∃ xs, SqT K H1 a xs) ∧ R (Itt K a) H1))
theorem pi_seq {X : Cx} {tg : Expr} {l : Expr} {tl : TE} (hl : PE X l tl) : PI X tg l (iSeq X.K tl) := by
  refine ⟨fun pins s σ H R I h => ?_⟩
  refine thn (hl.run pins s σ H _ I h) fun v s1 ⟨x, H1, I1, r1, q1⟩ => ?_
  obtain ⟨a, e, q⟩ := q1
  subst e
  cases r1
  rcases q with ⟨⟨xs, hq⟩, q⟩ | ⟨⟨xs, hq⟩, q⟩
  · obtain ⟨its, rv, p, hz⟩ := I1.list hq
    refine wpAny_pyIter_list p.isList ?_
    refine ⟨s1.heap.objs.size, [s1.heap.objs.size], _, _, H1, rfl, I1.kept (t' := s1.toks) fun b o e => Heap.get?_push_of_some _ e, turn_list a _, ⟨_, Heap.get?_push_size _ rfl, rfl, rfl⟩, fun b hb => ?_, q⟩
    have e : b = s1.heap.objs.size := by simpa using hb
    subst e
    exact I1.fpOk (Nat.le_refl _) (I1.hok.fresh (Nat.le_refl _))
  · obtain ⟨its, rv, p, hz⟩ := I1.tuple hq
    refine wpAny_pyIter_tuple (show s1.heap.IsTuple a its.toArray from p) ?_
    refine ⟨s1.heap.objs.size, [s1.heap.objs.size], _, _, H1, rfl, I1.kept (t' := s1.toks) fun b o e => Heap.get?_push_of_some _ e, turn_tuple a _, ⟨_, Heap.get?_push_size _ rfl, rfl, rfl⟩, fun b hb => ?_, q⟩
    have e : b = s1.heap.objs.size := by simpa using hb
    subst e
    exact I1.fpOk (Nat.le_refl _) (I1.hok.fresh (Nat.le_refl _))
section
variable {X : Cx} {ca : Nat → Addr} {W : WX} {tg e a b : Expr} {m : Env → M D} {ms : Env → M (List D)} {p pos : Pos}
theorem mi_seq (h : ME X ca W e m) : MI X ca W tg e (mItems m) :=
  PI.mono (pi_seq h) fun σ H R q => by
    obtain ⟨w, mh, env, rfl, hw, hf, hp⟩ := q
    refine stepG (rep := repV X.K) hw hf hp fun w1 mh1 v1 d1 x1 hw1 hf1 r1 hp1 => ?_
    cases r1 with
    | tup h r => exact ⟨_, rfl, .inr ⟨⟨_, sqT_sub hw1.sub h⟩, PostG.ret hp1 hw1 (serves_tup h r)⟩⟩
    | lst h r => exact ⟨_, rfl, .inl ⟨⟨_, .of (hw1.subL _ _ h)⟩, PostG.ret hp1 hw1 (serves_lst h r)⟩⟩
    | scr h l => exact ⟨_, rfl, .inl ⟨⟨_, sqL_mono hw1.sub h⟩, PostG.ret hp1 hw1 (serves_scr h)⟩⟩
    | _ => exact hp1.elim
theorem mi_rng1 (hm : X.mg "range" = none) (ha : ME X ca W a m) (hg : Gl X "range" := by rfl) (hs : starEach [a] X.env = [(false, eval a X.env)] := by rfl) : MI X ca W tg (.Call (.Name "range" p) [a] [] pos) (mRng1 m) :=
  PI.mono (pi_range1 hg hm (pa_cons ha pa_nil hs) hs) fun σ H R q => by
    obtain ⟨w, mh, env, rfl, hw, hf, hp⟩ := q
    refine stepG (rep := repV X.K) hw hf hp fun w1 mh1 v1 d1 x1 hw1 hf1 r1 hp1 => ?_
    cases r1 <;> first | exact hp1.elim | skip
    rename_i j
    by_cases c : rngOk j = true
    · simp only [rng1M, c, if_true] at hp1
      exact ⟨j, rfl, (rngOk_of c).1, (rngOk_of c).2, PostG.ret hp1 hw1 serves_rng⟩
    · simp only [rng1M, c] at hp1; exact hp1.elim
theorem mi_rng2 {m' : Env → M D} (hm : X.mg "range" = none) (ha : ME X ca W a m) (hb : ME X ca W b m') (hg : Gl X "range" := by rfl) (hs : starEach [a, b] X.env = [(false, eval a X.env), (false, eval b X.env)] := by rfl) (hs2 : starEach [b] X.env = [(false, eval b X.env)] := by rfl) : MI X ca W tg (.Call (.Name "range" p) [a, b] [] pos) (mRng2 m m') :=
  PI.mono (pi_range2 hg hm (pa_cons ha (pa_cons hb pa_nil hs2) (by rw [hs, hs2])) hs hs2) fun σ H R q => by
    obtain ⟨w, mh, env, rfl, hw, hf, hp⟩ := q
    refine stepG (rep := repV X.K) hw hf hp fun w1 mh1 v1 d1 x1 hw1 hf1 r1 hp1 => ?_
    refine stepG (rep := repV X.K) hw1 hf1 hp1 fun w2 mh2 v2 d2 x2 hw2 hf2 r2 hp2 => ?_
    cases r1 <;> cases r2 <;> first | exact hp2.elim | skip
    rename_i i j
    by_cases c : (rngOk i && rngOk j) = true
    · simp only [rng2M, c, if_true] at hp2
      have c' : rngOk i = true ∧ rngOk j = true := by simpa using c
      exact ⟨i, j, rfl, ⟨(rngOk_of c'.1).1, (rngOk_of c'.1).2, (rngOk_of c'.2).1, (rngOk_of c'.2).2⟩, PostG.ret hp2 hw2 serves_rng⟩
    · simp only [rng2M, c] at hp2; exact hp2.elim
end

/-! ### targets -/
abbrev Tgt := D → Env → Option Env
def tgName (i : Nat) : Tgt := fun d env => some (env.set i (.v d))
def tgTup : List Tgt → Tgt := fun ts d env => match d with
  | .tup ds => if ds.length = ts.length then (ts.zip ds).foldl (fun o p => o.bind (p.1 p.2)) (some env) else none
  | _ => none
/-- the lists of one's own were so before -/
def OwnBack (env' : Env) (σ' : St) (env : Env) (σ : St) : Prop := ∀ (i : Nat) (ds : List D) (a : Addr), env'[i]? = some (Slot.own ds) → σ'[i]? = some (some (V.ref a)) → env[i]? = some (Slot.own ds) ∧ σ[i]? = some (some (V.ref a))
/-- g does what t says, and touches the slots vs alone -/
def GOk (K : PySem.W.Frag) (g : TG) (t : Tgt) (vs : List Nat) : Prop := ∀ (w : Wd) (v : V) (d : D) (env env' : Env) (σ : St) (Q : St → Hp → Prop), Subs w → Rp K w v d → FrOk K w env σ → t d env = some env' →
  (∀ σ', FrOk K w env' σ' → wipe σ' vs = wipe σ vs → OwnBack env' σ' env σ → Q σ' w.H) → g v σ w.H Q
def GsOk (K : PySem.W.Frag) (g : TGs) (ts : List Tgt) (vs : List Nat) : Prop := ∀ (w : Wd) (us : List V) (ds : List D) (env env' : Env) (σ : St) (Q : St → Hp → Prop), Subs w → RpAll K w us ds → ds.length = ts.length → FrOk K w env σ → (ts.zip ds).foldl (fun o p => o.bind (p.1 p.2)) (some env) = some env' →
  (∀ σ', FrOk K w env' σ' → wipe σ' vs = wipe σ vs → OwnBack env' σ' env σ → Q σ' w.H) → g us σ w.H Q
section
variable {K : PySem.W.Frag} {w : Wd} {env : Env} {σ : St}
theorem getElem?_setS {α : Type} {l : List α} {i j : Nat} {x : α} : (l.set i x)[j]? = if i = j then (if j < l.length then some x else none) else l[j]? := by
  rw [List.getElem?_set]
  by_cases h : i = j
  · subst h; simp
  · simp [h]
theorem FrOk.set (hf : FrOk K w env σ) {i : Nat} {v : V} {d : D} (r : Rp K w v d) : FrOk K w (env.set i (.v d)) (σ.set i (some v)) := by
  refine ⟨by simp [hf.len], fun j e h => ?_, fun j ds h => ?_, fun j k ds es a ne h1 h2 h3 => ?_⟩
  · by_cases ij : i = j
    · subst ij
      rw [getElem?_setS, if_pos rfl] at h
      by_cases l : i < env.length
      · rw [if_pos l] at h
        cases h
        exact ⟨v, by rw [getElem?_setS, if_pos rfl, if_pos (by rw [hf.len]; exact l)], r⟩
      · rw [if_neg l] at h; cases h
    · rw [getElem?_setS, if_neg ij] at h
      obtain ⟨u, e1, e2⟩ := hf.v j e h
      exact ⟨u, by rw [getElem?_setS, if_neg ij]; exact e1, e2⟩
  · by_cases ij : i = j
    · subst ij
      rw [getElem?_setS, if_pos rfl] at h
      split at h <;> cases h
    · rw [getElem?_setS, if_neg ij] at h
      obtain ⟨a, e1, e2⟩ := hf.own j ds h
      exact ⟨a, by rw [getElem?_setS, if_neg ij]; exact e1, e2⟩
  · by_cases ij : i = j
    · subst ij
      rw [getElem?_setS, if_pos rfl] at h1
      split at h1 <;> cases h1
    · by_cases ik : i = k
      · subst ik
        rw [getElem?_setS, if_pos rfl] at h2
        split at h2 <;> cases h2
      · rw [getElem?_setS, if_neg ij] at h1 h3
        rw [getElem?_setS, if_neg ik] at h2 ⊢
        exact hf.sep j k ds es a ne h1 h2 h3
theorem wipe_set_in {σ : St} {i : Nat} {x : Option V} : ∀ {vs : List Nat}, i ∈ vs → wipe (σ.set i x) vs = wipe σ vs
  | [], h => by cases h
  | v :: vs, h => by
    by_cases q : i ∈ vs
    · unfold wipe; rw [wipe_set_in q]
    · have e : i = v := by
        rcases List.mem_cons.mp h with h | h
        · exact h
        · exact absurd h q
      subst e
      unfold wipe
      have : ∀ us : List Nat, i ∉ us → wipe (σ.set i x) us = (wipe σ us).set i x := by
        intro us
        induction us with
        | nil => intro _; rfl
        | cons u us ih =>
          intro hu
          have h1 : i ≠ u := fun e => hu (by rw [e]; exact List.mem_cons_self)
          have h2 : i ∉ us := fun z => hu (List.mem_cons_of_mem _ z)
          unfold wipe
          rw [ih h2, List.set_comm _ _ h1]
      rw [this vs q, List.set_set]
theorem gok_name {i : Nat} {vs : List Nat} (h : i ∈ vs) : GOk K (gName i) (tgName i) vs := by
  intro w v d env env' σ Q hs r hf e k
  cases e
  refine k _ (hf.set r) (wipe_set_in h) fun j ds a h1 h2 => ?_
  by_cases ij : i = j
  · subst ij
    rw [getElem?_setS, if_pos rfl] at h1
    split at h1 <;> cases h1
  · rw [getElem?_setS, if_neg ij] at h1 h2
    exact ⟨h1, h2⟩
theorem gsok_nil {vs : List Nat} : GsOk K gNil [] vs := by
  intro w us ds env env' σ Q hs r hl hf e k
  cases ds with
  | nil =>
    cases r
    cases e
    exact ⟨rfl, k _ hf rfl fun _ _ _ a b => ⟨a, b⟩⟩
  | cons d ds => simp at hl
theorem foldl_none {α : Type} {l : List α} {f : α → Env → Option Env} : l.foldl (fun o p => o.bind (f p)) none = none := by
  induction l with
  | nil => rfl
  | cons a l ih => exact ih
theorem gsok_cons {g : TG} {u : TGs} {t : Tgt} {ts : List Tgt} {vs : List Nat} (h1 : GOk K g t vs) (h2 : GsOk K u ts vs) : GsOk K (gCons g u) (t :: ts) vs := by
  intro w us ds env env' σ Q hs r hl hf e k
  cases ds with
  | nil => simp at hl
  | cons d ds =>
    cases r with
    | cons rv rr =>
      refine ⟨_, _, rfl, ?_⟩
      simp only [List.zip_cons_cons, List.foldl_cons, Option.bind_some] at e
      cases q : t d env with
      | none => rw [q, foldl_none (f := fun p : Tgt × D => p.1 p.2)] at e; cases e
      | some env1 =>
        rw [q] at e
        refine h1 w _ d env env1 σ _ hs rv hf q fun σ1 f1 w1 o1 => ?_
        refine h2 w _ ds env1 env' σ1 Q hs rr (by simpa using hl) f1 e fun σ2 f2 w2 o2 => k σ2 f2 (w2.trans w1) fun i es a z1 z2 => ?_
        obtain ⟨z3, z4⟩ := o2 i es a z1 z2
        exact o1 i es a z3 z4
theorem gok_tup {n : Nat} {u : TGs} {ts : List Tgt} {vs : List Nat} (hn : n = ts.length) (h : GsOk K u ts vs) : GOk K (gTup K n u) (tgTup ts) vs := by
  intro w v d env env' σ Q hs r hf e k
  cases r <;> try (simp [tgTup] at e; done)
  rename_i a xs ds hq r
  simp only [tgTup] at e
  split at e
  · rename_i hl
    exact ⟨a, xs, rfl, sqT_sub hs.f hq, by rw [r.length, hl, hn], h w xs ds env env' σ Q hs r hl hf e k⟩
  · cases e
end
end AG
/-! AgG: fresh lists, comprehensions. -/
namespace AG
open PySem L2

section
variable {K : PySem.W.Frag} {ca : Nat → Addr} {W : WX} {w w1 : Wd} {env : Env} {σ : St} {mh : MH}
/-- what is wanted of an exception -/
def ExP (K : PySem.W.Frag) (ca : Nat → Addr) (W : WX) (σ : St) (w : Wd) : Nat → MH → Prop := fun cl mh => ∀ w', Ext w w' → WOk K ca w' mh → W (.ref (ca cl)) none σ w'.H
theorem stepX {α β α2 : Type} {rep : Wd → β → α → Prop} {ma : Env → M α} {f : α → M α2} {Z : α2 → MH → Prop} {Ex : Nat → MH → Prop} {K1 : β → Hp → Prop} (hw : WOk K ca w mh) (hf : FrOk K w env σ) (hp : wpR (M.bind (ma env) f mh) Z Ex)
    (hex : ∀ cl mh, Ex cl mh → ∀ w', Ext w w' → WOk K ca w' mh → W (.ref (ca cl)) none σ w'.H)
    (k : ∀ w1 mh1 v d, Ext w w1 → WOk K ca w1 mh1 → FrOk K w1 env σ → rep w1 v d → wpR (f d mh1) Z Ex → K1 v w1.H) : denG rep K ca W ma σ w.H K1 :=
  ⟨w, mh, env, rfl, hw, hf, wpR_mono (wpR_bind.mp hp) (fun d mh' q w1 v x hw1 r => k w1 mh' v d x hw1 (hf.ext x) r q) hex⟩

def PostF (K : PySem.W.Frag) (ca : Nat → Addr) (W : WX) (σ : St) (w : Wd) (r : R (List D)) (Q : VK) : Prop :=
  wpR r (fun ds mh => ∀ w' p, Ext w w' → WOk K ca w' mh → w.H p = none → Own K w' p ds → Q (.ref p) w'.H) (ExP K ca W σ w)
def denF (K : PySem.W.Frag) (ca : Nat → Addr) (W : WX) (m : Env → M (List D)) : TE := fun σ H Q => ∃ w mh env, w.H = H ∧ WOk K ca w mh ∧ FrOk K w env σ ∧ PostF K ca W σ w (m env mh) Q
abbrev MF (X : Cx) (ca : Nat → Addr) (W : WX) (e : Expr) (m : Env → M (List D)) : Prop := PE X e (denF X.K ca W m)

/-- the thing at p is written: no one's but one's own -/
theorem WOk.wr (hw : WOk K ca w mh) {p : Addr} {o : HO} (hF : w.F p = none) (hL : w.L p = none) (hr : p ∉ w.ρ) : WOk K ca (w.put p o) mh := by
  refine ⟨fun a u h => ?_, fun a xs h => ?_, hw.len, hw.nd, fun n a mo h1 h2 => ?_⟩
  · have h' : w.F a = some u := h
    have ne : a ≠ p := fun e => by subst e; rw [hF] at h'; cases h'
    show upd w.H p o a = some u
    rw [upd_ne ne]
    exact hw.sub _ _ h'
  · have h' : w.L a = some xs := h
    have ne : a ≠ p := fun e => by subst e; rw [hL] at h'; cases h'
    show upd w.H p o a = some (.lst xs)
    rw [upd_ne ne]
    exact hw.subL _ _ h'
  · obtain ⟨f, l, q⟩ := hw.obj n a mo h1 h2
    have ne : a ≠ p := fun e => by subst e; exact hr (List.mem_of_getElem? h1)
    exact ⟨f, l, q.grow (fun u z => by show upd w.H p o a = some u; rw [upd_ne ne]; exact z) ⟨⟨[], by simp [Wd.put]⟩, fun _ _ h => h, fun _ _ h => h⟩⟩
theorem Ext.wr {w0 : Wd} (x : Ext w0 w) {p : Addr} {o : HO} (hn : w0.H p = none) : Ext w0 (w.put p o) := by
  refine ⟨x.rho, x.fz, x.lz, fun a u h hr => ?_, x.nf, x.nl, fun a h => ?_⟩
  · have ne : a ≠ p := fun e => by subst e; rw [hn] at h; cases h
    show upd w.H p o a = some u
    rw [upd_ne ne]
    exact x.kp _ _ h hr
  · by_cases e : a = p
    · subst e; exact hn
    · have h : upd w.H p o a = none := h
      rw [upd_ne e] at h
      exact x.th a h
theorem put_grow {p : Addr} {o : HO} : Grow w (w.put p o) := ⟨⟨[], by simp [Wd.put]⟩, fun _ _ h => h, fun _ _ h => h⟩
theorem Own.put {p : Addr} {vs : List V} {ds : List D} (hF : w.F p = none) (hL : w.L p = none) (hr : p ∉ w.ρ) (r : RpAll K w vs ds) : Own K (w.put p (.lst vs)) p ds :=
  ⟨⟨vs, upd_same, r.mono put_grow⟩, hF, hL, hr⟩
/-- a new list -/
theorem PostF.new {ds : List D} {vs : List V} {Q : VK} {w0 : Wd} (h : ∀ w' p, Ext w0 w' → WOk K ca w' mh → w0.H p = none → Own K w' p ds → Q (.ref p) w'.H) (x : Ext w0 w) (hw : WOk K ca w mh) (r : RpAll K w vs ds) : ∀ p, w.H p = none → Q (.ref p) (upd w.H p (.lst vs)) := fun p hp =>
  h (w.put p (.lst vs)) p (x.trans (Ext.put hw hp)) (hw.put hp) (x.th p hp) (Own.put (hw.fnone hp) (hw.lnone hp) (hw.nrho hp) r)

/-- one's own list is not written any more -/
def Wd.lock (w : Wd) (p : Addr) (vs : List V) : Wd := ⟨w.ρ, w.F, updL w.L p vs, w.H⟩
theorem lock_grow {p : Addr} {vs : List V} (hL : w.L p = none) : Grow w (w.lock p vs) := ⟨⟨[], by simp [Wd.lock]⟩, fun _ _ h => h, fun a u h => by
  show updL w.L p vs a = some u
  rw [updL_ne (fun e => by subst e; rw [hL] at h; cases h)]
  exact h⟩
theorem WOk.lock (hw : WOk K ca w mh) {p : Addr} {vs : List V} (hH : w.H p = some (.lst vs)) (hL : w.L p = none) (hr : p ∉ w.ρ) : WOk K ca (w.lock p vs) mh := by
  refine ⟨hw.sub, fun a xs h => ?_, hw.len, hw.nd, fun n a mo h1 h2 => ?_⟩
  · have h : updL w.L p vs a = some xs := h
    by_cases e : a = p
    · subst e; rw [updL_same] at h; cases h; exact hH
    · rw [updL_ne e] at h; exact hw.subL _ _ h
  · obtain ⟨f, l, q⟩ := hw.obj n a mo h1 h2
    have ne : a ≠ p := fun e => by subst e; exact hr (List.mem_of_getElem? h1)
    exact ⟨f, by show updL w.L p vs a = none; rw [updL_ne ne]; exact l, q.grow (fun u z => z) (lock_grow hL)⟩
theorem Ext.lock {w0 : Wd} (x : Ext w0 w) {p : Addr} {vs : List V} (hn : w0.H p = none) (hL : w.L p = none) : Ext w0 (w.lock p vs) := by
  refine ⟨x.rho, x.fz, fun a u h => (lock_grow hL).lz a u (x.lz a u h), x.kp, x.nf, fun a u h => ?_, x.th⟩
  have h : updL w.L p vs a = some u := h
  by_cases e : a = p
  · subst e; exact .inr hn
  · rw [updL_ne e] at h; exact x.nl a u h
end

def mFrz (m : Env → M (List D)) : Env → M D := fun env => M.bind (m env) fun ds => M.pure (.lst ds)
section
variable {X : Cx} {ca : Nat → Addr} {W : WX} {e : Expr} {es : List Expr} {m : Env → M (List D)} {ms : Env → M (List D)} {pos : Pos}
theorem me_of_mf (h : MF X ca W e m) : ME X ca W e (mFrz m) := PE.mono h fun σ H Q q => by
  obtain ⟨w, mh, env, rfl, hw, hf, hp⟩ := q
  refine ⟨w, mh, env, rfl, hw, hf, ?_⟩
  refine wpR_mono (wpR_bind.mp hp) (fun ds mh' q w' p x hw' hn o => ?_) fun _ _ q => q
  obtain ⟨vs, hH, r⟩ := o.at'
  exact q (w'.lock p vs) (.ref p) (x.lock hn o.nL) (hw'.lock hH o.nL o.nr) (.lst updL_same (r.mono (lock_grow o.nL)))
def mLstF (ms : Env → M (List D)) : Env → M (List D) := fun env => M.bind (ms env) fun xs => if xs.length ≤ 16777216 then M.pure xs else M.bad
theorem mf_lst (h : MA X ca W es ms) : MF X ca W (.List es pos) (mLstF ms) :=
  PE.mono (pe_lst h) fun σ H Q h => by
    obtain ⟨w, mh, env, rfl, hw, hf, hp⟩ := h
    refine stepX (rep := repA X.K) hw hf hp (fun _ _ q => q) fun w1 mh1 v1 d1 x1 hw1 hf1 r1 hp1 => ?_
    have r1 : RpAll X.K w1 v1 d1 := r1
    by_cases q : d1.length ≤ 16777216
    · simp only [q, if_true] at hp1
      exact ⟨by rw [r1.length, sizeLine_lit]; exact q, PostF.new hp1 x1 hw1 r1⟩
    · simp only [q, if_false] at hp1; exact hp1.elim
def itemsF (ds : List D) : M (List D) := match ds with | [d] => itemsM d | _ => M.bad
def mListF (ms : Env → M (List D)) : Env → M (List D) := fun env => M.bind (ms env) itemsF
theorem mf_list1 {p : Pos} (hm : X.mg "list" = none) (ha : MA X ca W (e :: es) ms) (hg : Gl X "list" := by rfl) (he : starEach (e :: es) X.env = (false, eval e X.env) :: starEach es X.env := by rfl) (hpl : (backTo pos (starEach es X.env)).any (·.1) = false := by rfl) :
    MF X ca W (.Call (.Name "list" p) (e :: es) [] pos) (mListF ms) :=
  PE.mono (pe_callTy call_list_of hg hm (by decide +kernel) ha (by decide) (by decide) he hpl) fun σ H Q h => by
    obtain ⟨w, mh, env, rfl, hw, hf, hp⟩ := h
    refine stepX (rep := repA X.K) hw hf hp (fun _ _ q => q) fun w1 mh1 v1 d1 x1 hw1 hf1 r1 hp1 => ?_
    have r1 : RpAll X.K w1 v1 d1 := r1
    match d1, r1, hp1 with
    | [.tup ys], r1, hp1 =>
      obtain ⟨x, rfl, q⟩ := r1.one
      cases q with
      | tup h1 h2 => exact ⟨_, _, rfl, .inr (sqT_sub hw1.sub h1), PostF.new hp1 x1 hw1 h2⟩
    | [.lst ys], r1, hp1 =>
      obtain ⟨x, rfl, q⟩ := r1.one
      cases q with
      | lst h1 h2 => exact ⟨_, _, rfl, .inl (.of (hw1.subL _ _ h1)), PostF.new hp1 x1 hw1 h2⟩
    | [], r1, hp1 => exact hp1.elim
    | _ :: _ :: _, r1, hp1 => exact hp1.elim
    | [.non], r1, hp1 => exact hp1.elim
    | [.bl _], r1, hp1 => exact hp1.elim
    | [.int _], r1, hp1 => exact hp1.elim
    | [.str _], r1, hp1 => exact hp1.elim
    | [.ref _], r1, hp1 => exact hp1.elim
    | [.scr ns], r1, hp1 =>
      obtain ⟨x, rfl, q⟩ := r1.one
      cases q with
      | scr h1 h2 => exact ⟨_, _, rfl, .inl (sqL_mono hw1.sub h1), PostF.new hp1 x1 hw1 (RpAll.ints ns)⟩
end

/-! ### comprehensions -/
def wipeE (env : Env) : List Nat → Env
  | [] => env
  | v :: vs => (wipeE env vs).set v .no
def compF (t : Tgt) (tt : Env → M Bool) (te : Env → M D) (env : Env) : List D → M (List D)
  | [] => M.pure []
  | x :: xs => match t x env with
    | some env1 => M.bind (tt env1) fun b => if b = true then M.bind (te env1) fun y => M.bind (compF t tt te env xs) fun ys => M.pure (y :: ys) else compF t tt te env xs
    | none => M.bad
def mLc (mi : Env → M (List D)) (t : Tgt) (tt : Env → M Bool) (te : Env → M D) (vs : List Nat) : Env → M (List D) :=
  fun env => M.bind (mi env) fun xs => if xs.length ≤ 16777216 then (fun h => (compF t tt te (wipeE env vs) xs h).calm) else M.bad
theorem set_wipe {i : Nat} : ∀ {σ : St} {vs : List Nat}, i ∈ vs → (L2.wipe σ vs).set i none = L2.wipe σ vs
  | σ, [], h => by cases h
  | σ, v :: vs, h => by
    unfold L2.wipe
    by_cases e : i = v
    · subst e; rw [List.set_set]
    · rw [List.set_comm _ _ (Ne.symm e)]
      rcases List.mem_cons.mp h with h | h
      · exact absurd h e
      · rw [set_wipe h]
theorem wipe_wipe {σ : St} {vs : List Nat} : L2.wipe (L2.wipe σ vs) vs = L2.wipe σ vs := by
  have : ∀ us : List Nat, (∀ i ∈ us, i ∈ vs) → L2.wipe (L2.wipe σ vs) us = L2.wipe σ vs := by
    intro us
    induction us with
    | nil => intro _; rfl
    | cons u us ih =>
      intro h
      show (L2.wipe (L2.wipe σ vs) us).set u none = L2.wipe σ vs
      rw [ih fun i hi => h i (List.mem_cons_of_mem _ hi)]
      exact set_wipe (h u List.mem_cons_self)
  exact this vs fun _ h => h
def mYes : Env → M Bool := fun _ => M.pure true
def W0 : WX := fun _ _ _ _ => False
section
variable {K : PySem.W.Frag} {w : Wd} {env : Env} {σ : St}
theorem FrOk.unset (hf : FrOk K w env σ) (i : Nat) : FrOk K w (env.set i .no) (σ.set i none) := by
  refine ⟨by simp [hf.len], fun j e h => ?_, fun j ds h => ?_, fun j k ds es a ne h1 h2 h3 => ?_⟩
  · by_cases ij : i = j
    · subst ij
      rw [getElem?_setS, if_pos rfl] at h
      split at h <;> cases h
    · rw [getElem?_setS, if_neg ij] at h
      obtain ⟨u, e1, e2⟩ := hf.v j e h
      exact ⟨u, by rw [getElem?_setS, if_neg ij]; exact e1, e2⟩
  · by_cases ij : i = j
    · subst ij
      rw [getElem?_setS, if_pos rfl] at h
      split at h <;> cases h
    · rw [getElem?_setS, if_neg ij] at h
      obtain ⟨a, e1, e2⟩ := hf.own j ds h
      exact ⟨a, by rw [getElem?_setS, if_neg ij]; exact e1, e2⟩
  · by_cases ij : i = j
    · subst ij
      rw [getElem?_setS, if_pos rfl] at h1
      split at h1 <;> cases h1
    · by_cases ik : i = k
      · subst ik
        rw [getElem?_setS, if_pos rfl] at h2
        split at h2 <;> cases h2
      · rw [getElem?_setS, if_neg ij] at h1 h3
        rw [getElem?_setS, if_neg ik] at h2 ⊢
        exact hf.sep j k ds es a ne h1 h2 h3
theorem FrOk.wipe (hf : FrOk K w env σ) : ∀ vs : List Nat, FrOk K w (wipeE env vs) (L2.wipe σ vs)
  | [] => hf
  | v :: vs => by unfold wipeE L2.wipe; exact (FrOk.wipe hf vs).unset v
end
theorem PTs.mono {X : Cx} {ifs : List Expr} {t t' : TT} (h : PTs X ifs t) (k : ∀ σ H Q, t' σ H Q → t σ H Q) : PTs X ifs t' := ⟨fun pins s σ H Q I q => h.run pins s σ H Q I (k σ H Q q)⟩
abbrev MTs (X : Cx) (ca : Nat → Addr) (W : WX) (ifs : List Expr) (m : Env → M Bool) : Prop := PTs X ifs (denG repB X.K ca W m)
theorem mts_nil {X : Cx} {ca : Nat → Addr} {W : WX} : MTs X ca W [] mYes := PTs.mono pts_nil fun σ H Q h => by
  obtain ⟨w, mh, env, rfl, hw, hf, hp⟩ := h
  exact PostG.ret (rep := repB) hp hw rfl
theorem mts_one {X : Cx} {ca : Nat → Addr} {W : WX} {c : Expr} {m : Env → M Bool} (h : MT X ca W c m) : MTs X ca W [c] m := pts_one h

theorem lc_read {K : PySem.W.Frag} {ca : Nat → Addr} {W : WX} {vs : List Nat} {mi : Env → M (List D)} {g : TG} {t : Tgt} {tt : Env → M Bool} {te : Env → M D} (hgk : GOk K g t vs) {σ : St} {H : Hp} {Q : VK} (h : denF K ca W (mLc mi t tt te vs) σ H Q) :
    tLc (denG (repI K ca) K ca W mi) g (denG repB K ca W0 tt) (denG (repV K) K ca W0 te) vs σ H Q := by
  obtain ⟨w, mh, env, rfl, hw, hf, hp⟩ := h
  refine stepX (rep := repI K ca) hw hf hp (fun _ _ q => q) fun w1 mh1 J xs x1 hw1 hf1 S hp1 => ?_
  have S : Serves K ca w1 J xs := S
  by_cases hl : xs.length ≤ 16777216
  case neg => simp only [hl, if_false] at hp1; exact hp1.elim
  simp only [hl, if_true] at hp1
  have hp1 := wpR_calm (E' := fun _ _ => False) hp1
  intro L hL
  refine ⟨fun i m H => m = xs.length - i ∧ i ≤ xs.length ∧ ∃ w2 mh2 dacc, w2.H = H ∧ Ext w1 w2 ∧ WOk K ca w2 mh2 ∧ Own K w2 L dacc ∧ dacc.length ≤ i ∧
    wpR (compF t tt te (wipeE env vs) (xs.drop i) mh2) (fun ys mh3 => ∀ w' p, Ext w w' → WOk K ca w' mh3 → w.H p = none → Own K w' p (dacc ++ ys) → Q (.ref p) w'.H) (fun _ _ => False), ⟨xs.length, by simp, Nat.zero_le _, w1.put L (.lst []), mh1, [], rfl, Ext.put hw1 hL, hw1.put hL, Own.put (hw1.fnone hL) (hw1.lnone hL) (hw1.nrho hL) .nil, Nat.zero_le _, by simpa using hp1⟩, ?_⟩
  rintro i m H ⟨rfl, hi, w2, mh2, dacc, rfl, x2, hw2, o2, hd, hp2⟩
  have fr2 := (hf1.ext x2).wipe vs
  by_cases hlt : i < xs.length
  · refine .inr ⟨S.go w2 mh2 i x2.grow hw2 hlt, fun H' => ∃ w4 mh4 dacc', w4.H = H' ∧ Ext w1 w4 ∧ WOk K ca w4 mh4 ∧ Own K w4 L dacc' ∧ dacc'.length ≤ i + 1 ∧
      wpR (compF t tt te (wipeE env vs) (xs.drop (i + 1)) mh4) (fun ys mh3 => ∀ w' p, Ext w w' → WOk K ca w' mh3 → w.H p = none → Own K w' p (dacc' ++ ys) → Q (.ref p) w'.H) (fun _ _ => False), fun H' q => ?_, fun x H' y => ?_⟩
    · exact ⟨xs.length - (i + 1), by omega, rfl, hlt, q⟩
    · obtain ⟨d, w3, e3, rfl, x3, hw3, r3⟩ := S.yld w2 mh2 i x H' x2.grow hw2 hlt y
      rw [List.drop_eq_getElem_cons hlt] at hp2
      have e3' : xs[i] = d := by rw [List.getElem?_eq_getElem hlt] at e3; exact Option.some.inj e3
      rw [e3'] at hp2
      cases q : t d (wipeE env vs) with
      | none => simp only [compF, q] at hp2; exact hp2.elim
      | some env1 =>
        simp only [compF, q] at hp2
        refine hgk w3 x d _ env1 _ _ hw3.subs r3 (fr2.ext x3) q fun σ1 f1 we _ => ⟨we.trans wipe_wipe, ?_⟩
        refine stepX (rep := repB) hw3 f1 hp2 (fun _ _ z => z.elim) fun w4 mh4 b b' x4 hw4 hf4 rb hp4 => ?_
        have rb : b = b' := rb
        subst rb
        have o4 := o2.ext (x3.trans x4)
        have x14 := x2.trans (x3.trans x4)
        cases b with
        | false =>
          simp only [Bool.false_eq_true, if_false] at hp4 ⊢
          exact ⟨w4, mh4, dacc, rfl, x14, hw4, o4, by omega, hp4⟩
        | true =>
          simp only [if_true] at hp4 ⊢
          refine stepX (rep := repV K) hw4 hf4 hp4 (fun _ _ z => z.elim) fun w5 mh5 v5 d5 x5 hw5 hf5 r5 hp5 => ?_
          have o5 := o4.ext x5
          obtain ⟨vs, hH, rr⟩ := o5.at'
          have r5 : Rp K w5 v5 d5 := r5
          refine ⟨vs, hH, by rw [rr.length, sizeLine_lit]; omega, w5.put L (.lst (vs ++ [v5])), mh5, dacc ++ [d5], rfl, (x14.trans x5).wr hL, hw5.wr o5.nF o5.nL o5.nr, Own.put o5.nF o5.nL o5.nr (rr.append (.cons r5 .nil)), by simp; omega, ?_⟩
          refine wpR_mono (wpR_bind.mp hp5) (fun ys mh6 z w' p a1 a2 a3 a4 => ?_) fun _ _ z => z
          exact z w' p a1 a2 a3 (by simpa using a4)
  · have e : i = xs.length := by omega
    subst e
    refine .inl ⟨S.stop w2 mh2 _ x2.grow hw2 (Nat.le_refl _), ?_⟩
    rw [List.drop_length] at hp2
    exact hp2 w2 L (x1.trans x2) hw2 (x1.th _ hL) (by simpa using o2)

theorem mf_lc {X : Cx} {ca : Nat → Addr} {W : WX} {elt tg iter : Expr} {ifs : List Expr} {scope : Scope} {own : List (Str × Nat)} {pos : Pos} {mi : Env → M (List D)} {g : TG} {t : Tgt} {tt : Env → M Bool} {te : Env → M D}
    (hc : X.calm = true) (hN : X.N.Nodup) (hi : MI X ca W tg iter mi) (ok : BlkOk X.N X.env.scope scope own) (hgk : GOk X.K g t (own.map (·.2)))
    (hg : ∀ (s : Shared) (H : Hp) (C : Addr) (cl : List (Str × Addr)) (fp : List Addr), PG (X.blk s H scope (compEnvC scope cl C X.env) fp) tg g)
    (ht : ∀ (s : Shared) (H : Hp) (C : Addr) (cl : List (Str × Addr)) (fp : List Addr), MTs (X.blk s H scope (compEnvC scope cl C X.env) fp) ca W0 ifs tt)
    (he : ∀ (s : Shared) (H : Hp) (C : Addr) (cl : List (Str × Addr)) (fp : List Addr), ME (X.blk s H scope (compEnvC scope cl C X.env) fp) ca W0 elt te)
    (hs : ∀ x, foldedSetIterable iter X.env x = pure x := by intro _; rfl) : MF X ca W (.ListComp elt [⟨tg, iter, ifs, 0⟩] scope pos) (mLc mi t tt te (own.map (·.2))) :=
  PE.mono (pe_lc (te := denG (repV X.K) X.K ca W0 te) (tt := denG repB X.K ca W0 tt) hc hN hi ok hg ht he hs) fun σ H Q h => lc_read hgk h
end AG
/-! AgH: statements. -/
namespace AG
open PySem L2

structure SRel (K : PySem.W.Frag) (n : Nat) (w0 : Wd) (env : Env) (σ : St) (w : Wd) : Prop where
  ext : Ext w0 w
  fr : FrOk K w env σ
  ln : σ.length = n
  ow : ∀ (i : Nat) (ds : List D) (a : Addr), env[i]? = some (Slot.own ds) → σ[i]? = some (some (V.ref a)) → w0.H a = none
/-- what is wanted of a statement -/
def FlP (K : PySem.W.Frag) (ca : Nat → Addr) (n : Nat) (w0 wb : Wd) (D' : Ends) : Fl → MH → Prop := fun fl mh => match fl with
  | .nx e => ∀ w σ, SRel K n w0 e σ w → Grow wb w → WOk K ca w mh → D'.nx σ w.H
  | .bk e => ∀ w σ, SRel K n w0 e σ w → Grow wb w → WOk K ca w mh → D'.bk σ w.H
  | .ct e => ∀ w σ, SRel K n w0 e σ w → Grow wb w → WOk K ca w mh → D'.ct σ w.H
  | .rt d => ∀ w v, Ext w0 w → WOk K ca w mh → Rp K w v d → D'.rt v w.H
theorem FlP.grow {K : PySem.W.Frag} {ca : Nat → Addr} {n : Nat} {w0 wb w1 : Wd} {D' : Ends} {fl : Fl} {mh : MH} (h : FlP K ca n w0 wb D' fl mh) (g : Grow wb w1) : FlP K ca n w0 w1 D' fl mh := by
  cases fl with
  | nx e => exact fun w σ s g' hw => h w σ s (g.trans g') hw
  | bk e => exact fun w σ s g' hw => h w σ s (g.trans g') hw
  | ct e => exact fun w σ s g' hw => h w σ s (g.trans g') hw
  | rt d => exact h
def ExS (K : PySem.W.Frag) (ca : Nat → Addr) (W : WX) (n : Nat) (w0 : Wd) : Nat → MH → Prop := fun cl mh => ∀ w σ, Ext w0 w → WOk K ca w mh → σ.length = n → W (.ref (ca cl)) none σ w.H
def denS (K : PySem.W.Frag) (ca : Nat → Addr) (W : WX) (n : Nat) (m : Env → M Fl) : TS := fun D' σ H => ∃ w0 w mh env, w.H = H ∧ WOk K ca w mh ∧ SRel K n w0 env σ w ∧ wpR (m env mh) (FlP K ca n w0 w D') (ExS K ca W n w0)
abbrev MS (X : Cx) (ca : Nat → Addr) (W : WX) (n : Nat) (st : Stmt) (m : Env → M Fl) : Prop := PS X st (denS X.K ca W n m)
abbrev MSs (X : Cx) (ca : Nat → Addr) (W : WX) (n : Nat) (st : List Stmt) (m : Env → M Fl) : Prop := PSs X st (denS X.K ca W n m)

section
variable {K : PySem.W.Frag} {ca : Nat → Addr} {W : WX} {n : Nat} {w0 w w1 : Wd} {env : Env} {σ : St} {mh : MH}
theorem SRel.then (s : SRel K n w0 env σ w) (x : Ext w w1) : SRel K n w0 env σ w1 := ⟨s.ext.trans x, s.fr.ext x, s.ln, s.ow⟩
theorem stepS {α β : Type} {rep : Wd → β → α → Prop} {ma : Env → M α} {f : α → M Fl} {wb : Wd} {D' : Ends} {K1 : β → Hp → Prop} (hw : WOk K ca w mh) (s : SRel K n w0 env σ w) (hp : wpR (M.bind (ma env) f mh) (FlP K ca n w0 wb D') (ExS K ca W n w0))
    (k : ∀ w1 mh1 v d, Ext w w1 → WOk K ca w1 mh1 → SRel K n w0 env σ w1 → rep w1 v d → wpR (f d mh1) (FlP K ca n w0 wb D') (ExS K ca W n w0) → K1 v w1.H) : denG rep K ca W ma σ w.H K1 :=
  stepX hw s.fr hp (fun cl mh q w' x hw' => q w' σ (s.ext.trans x) hw' s.ln) fun w1 mh1 v d x hw1 _ r hp1 => k w1 mh1 v d x hw1 (s.then x) r hp1
theorem SRel.set (s : SRel K n w0 env σ w) {i : Nat} {v : V} {d : D} (r : Rp K w v d) : SRel K n w0 (env.set i (.v d)) (σ.set i (some v)) w := by
  refine ⟨s.ext, s.fr.set r, by simp [s.ln], fun j ds a h1 h2 => ?_⟩
  by_cases ij : i = j
  · subst ij
    rw [getElem?_setS, if_pos rfl] at h1
    split at h1 <;> cases h1
  · rw [getElem?_setS, if_neg ij] at h1 h2
    exact s.ow j ds a h1 h2
theorem FrOk.setOwn (hf : FrOk K w env σ) {i : Nat} {a : Addr} {ds : List D} (o : Own K w a ds) (ne : ∀ (j : Nat) (es : List D), j ≠ i → env[j]? = some (Slot.own es) → σ[j]? ≠ some (some (V.ref a))) : FrOk K w (env.set i (.own ds)) (σ.set i (some (.ref a))) := by
  refine ⟨by simp [hf.len], fun j e h => ?_, fun j es h => ?_, fun j k es fs b hne h1 h2 h3 => ?_⟩
  · by_cases ij : i = j
    · subst ij
      rw [getElem?_setS, if_pos rfl] at h
      split at h <;> cases h
    · rw [getElem?_setS, if_neg ij] at h
      obtain ⟨u, e1, e2⟩ := hf.v j e h
      exact ⟨u, by rw [getElem?_setS, if_neg ij]; exact e1, e2⟩
  · by_cases ij : i = j
    · subst ij
      rw [getElem?_setS, if_pos rfl] at h
      by_cases l : i < env.length
      · rw [if_pos l] at h
        cases h
        exact ⟨a, by rw [getElem?_setS, if_pos rfl, if_pos (by rw [hf.len]; exact l)], o⟩
      · rw [if_neg l] at h; cases h
    · rw [getElem?_setS, if_neg ij] at h
      obtain ⟨b, e1, e2⟩ := hf.own j es h
      exact ⟨b, by rw [getElem?_setS, if_neg ij]; exact e1, e2⟩
  · by_cases ij : i = j
    · subst ij
      have ik : i ≠ k := hne
      rw [getElem?_setS, if_pos rfl] at h3
      rw [getElem?_setS, if_neg ik] at h2 ⊢
      split at h3
      · cases h3
        exact ne k fs (Ne.symm ik) h2
      · cases h3
    · rw [getElem?_setS, if_neg ij] at h1 h3
      by_cases ik : i = k
      · subst ik
        rw [getElem?_setS, if_pos rfl]
        intro q
        split at q
        · cases q
          exact ne j es (Ne.symm ij) h1 h3
        · cases q
      · rw [getElem?_setS, if_neg ik] at h2 ⊢
        exact hf.sep j k es fs b hne h1 h2 h3
theorem SRel.setOwn (s : SRel K n w0 env σ w) {i : Nat} {a : Addr} {ds : List D} (o : Own K w a ds) (hn : w0.H a = none) (ne : ∀ (j : Nat) (es : List D), j ≠ i → env[j]? = some (Slot.own es) → σ[j]? ≠ some (some (V.ref a))) : SRel K n w0 (env.set i (.own ds)) (σ.set i (some (.ref a))) w := by
  refine ⟨s.ext, s.fr.setOwn o ne, by simp [s.ln], fun j es b h1 h2 => ?_⟩
  by_cases ij : i = j
  · subst ij
    rw [getElem?_setS, if_pos rfl] at h2
    split at h2
    · cases h2; exact hn
    · cases h2
  · rw [getElem?_setS, if_neg ij] at h1 h2
    exact s.ow j es b h1 h2
/-- a list made since w stands in no slot yet -/
theorem FrOk.apart (hf : FrOk K w env σ) {a : Addr} (hn : w.H a = none) (j : Nat) (es : List D) (h : env[j]? = some (Slot.own es)) : σ[j]? ≠ some (some (V.ref a)) := fun q => by
  obtain ⟨b, e, o⟩ := hf.own j es h
  rw [q] at e
  cases e
  obtain ⟨vs, hH, _⟩ := o.at'
  rw [hn] at hH
  cases hH
/-- one's own list is written -/
theorem SRel.wr (s : SRel K n w0 env σ w) {i : Nat} {a : Addr} {ds ds' : List D} {vs : List V} (he : env[i]? = some (.own ds)) (hσ : σ[i]? = some (some (.ref a))) (r : RpAll K w vs ds') : SRel K n w0 (env.set i (.own ds')) σ (w.put a (.lst vs)) := by
  obtain ⟨a', e', o⟩ := s.fr.own i ds he
  rw [hσ] at e'
  cases e'
  have li : i < env.length := (List.getElem?_eq_some_iff.mp he).1
  refine ⟨s.ext.wr (s.ow i ds a he hσ), ⟨by simp [s.fr.len], fun j d h => ?_, fun j es h => ?_, fun j k es fs b ne h1 h2 h3 => ?_⟩, s.ln, fun j es b h1 h2 => ?_⟩
  · by_cases ij : i = j
    · subst ij
      rw [getElem?_setS, if_pos rfl, if_pos li] at h
      cases h
    · rw [getElem?_setS, if_neg ij] at h
      obtain ⟨u, e1, e2⟩ := s.fr.v j d h
      exact ⟨u, e1, e2.mono put_grow⟩
  · by_cases ij : i = j
    · subst ij
      rw [getElem?_setS, if_pos rfl, if_pos li] at h
      cases h
      exact ⟨a, hσ, Own.put o.nF o.nL o.nr r⟩
    · rw [getElem?_setS, if_neg ij] at h
      obtain ⟨b, e1, e2⟩ := s.fr.own j es h
      have ab : b ≠ a := fun e => by subst e; exact s.fr.sep i j ds es b ij he h hσ e1
      obtain ⟨us, hH, rr⟩ := e2.at'
      exact ⟨b, e1, ⟨⟨us, by show upd w.H a _ b = _; rw [upd_ne ab]; exact hH, rr.mono put_grow⟩, e2.nF, e2.nL, e2.nr⟩⟩
  · have own_of : ∀ (j : Nat) (es : List D), (env.set i (Slot.own ds'))[j]? = some (Slot.own es) → ∃ es', env[j]? = some (Slot.own es') := fun j es h => by
      by_cases ij : i = j
      · subst ij; exact ⟨ds, he⟩
      · rw [getElem?_setS, if_neg ij] at h; exact ⟨es, h⟩
    obtain ⟨es', q1⟩ := own_of j es h1
    obtain ⟨fs', q2⟩ := own_of k fs h2
    exact s.fr.sep j k es' fs' b ne q1 q2 h3
  · by_cases ij : i = j
    · subst ij; rw [hσ] at h2; cases h2; exact s.ow i ds a he hσ
    · rw [getElem?_setS, if_neg ij] at h1
      exact s.ow j es b h1 h2
end

/-! ### blocks -/
def mNx : Env → M Fl := fun env => M.pure (.nx env)
def mSeq (a b : Env → M Fl) : Env → M Fl := fun env => M.bind (a env) fun fl => match fl with | .nx e => b e | fl => M.pure fl
section
variable {X : Cx} {ca : Nat → Addr} {W : WX} {n : Nat} {st : Stmt} {rest : List Stmt} {ma mb : Env → M Fl} {pos : Pos}
theorem mss_nil : MSs X ca W n [] mNx := PSs.mono pss_nil fun D' σ H h => by
  obtain ⟨w0, w, mh, env, rfl, hw, s, hp⟩ := h
  exact hp w σ s (Grow.refl _) hw
theorem mss_one (h : MS X ca W n st ma) : MSs X ca W n [st] ma := pss_one h
theorem mss_cons (h1 : MS X ca W n st ma) (h2 : MSs X ca W n rest mb) : MSs X ca W n (st :: rest) (mSeq ma mb) := PSs.mono (pss_cons h1 h2) fun D' σ H h => by
  obtain ⟨w0, w, mh, env, rfl, hw, s, hp⟩ := h
  refine ⟨w0, w, mh, env, rfl, hw, s, wpR_mono (wpR_bind.mp hp) (fun fl mh' q => ?_) fun _ _ q => q⟩
  cases fl with
  | nx e => exact fun w1 σ1 s1 g1 hw1 => ⟨w0, w1, mh', e, rfl, hw1, s1, wpR_mono q (fun _ _ z => z.grow g1) fun _ _ z => z⟩
  | bk e => exact q
  | ct e => exact q
  | rt d => exact q
theorem ms_pass : MS X ca W n (.Pass pos) mNx := PS.mono ps_pass fun D' σ H h => by
  obtain ⟨w0, w, mh, env, rfl, hw, s, hp⟩ := h
  exact hp w σ s (Grow.refl _) hw
def mBk : Env → M Fl := fun env => M.pure (.bk env)
def mCt : Env → M Fl := fun env => M.pure (.ct env)
theorem ms_break : MS X ca W n (.Break pos) mBk := PS.mono ps_break fun D' σ H h => by
  obtain ⟨w0, w, mh, env, rfl, hw, s, hp⟩ := h
  exact hp w σ s (Grow.refl _) hw
theorem ms_continue : MS X ca W n (.Continue pos) mCt := PS.mono ps_continue fun D' σ H h => by
  obtain ⟨w0, w, mh, env, rfl, hw, s, hp⟩ := h
  exact hp w σ s (Grow.refl _) hw
theorem ms_doc {x : Str} {j : Nat} {pos pos' : Pos} : MS X ca W n (.Expr (.Constant (.str x) j pos) pos') mNx := PS.mono ps_doc fun D' σ H h => by
  obtain ⟨w0, w, mh, env, rfl, hw, s, hp⟩ := h
  exact hp w σ s (Grow.refl _) hw
/-- never walked -/
def mDead : Env → M Fl := fun _ => M.bad
theorem ms_dead : MS X ca W n st mDead := PS.mono ps_never fun D' σ H h => by
  obtain ⟨w0, w, mh, env, rfl, hw, s, hp⟩ := h
  exact hp.elim
end

/-! ### simple statements -/
def mSet (i : Nat) (m : Env → M D) : Env → M Fl := fun env => M.bind (m env) fun d => M.pure (.nx (env.set i (.v d)))
def mSetOwn (i : Nat) (m : Env → M (List D)) : Env → M Fl := fun env => M.bind (m env) fun ds => M.pure (.nx (env.set i (.own ds)))
def mSetT (t : Tgt) (m : Env → M D) : Env → M Fl := fun env => M.bind (m env) fun d => match t d env with | some e => M.pure (.nx e) | none => M.bad
def mRet (m : Env → M D) : Env → M Fl := fun env => M.bind (m env) fun d => M.pure (.rt d)
def mRetN : Env → M Fl := fun _ => M.pure (.rt .non)
def mExpr (m : Env → M D) : Env → M Fl := fun env => M.bind (m env) fun _ => M.pure (.nx env)
def mIf (t : Env → M Bool) (a b : Env → M Fl) : Env → M Fl := fun env => M.bind (t env) fun c => if c = true then a env else b env
def mPar (i j : Nat) (ms : Env → M (List D)) : Env → M Fl := fun env => M.bind (ms env) fun ds => match ds with | [a, b] => M.pure (.nx ((env.set i (.v a)).set j (.v b))) | _ => M.bad
def mAug (f : DOp) (i : Nat) (m : Env → M D) : Env → M Fl := fun env => match env[i]? with | some (.v x) => M.bind (m env) fun y => M.bind (f x y) fun z => M.pure (.nx (env.set i (.v z))) | _ => M.bad
def augAdd : DOp := fun d e => match d, e with | .int i, .int j => M.pure (.int (i + j)) | _, _ => M.bad
section
variable {X : Cx} {ca : Nat → Addr} {W : WX} {n : Nat} {e : Expr} {m : Env → M D} {mf ms : Env → M (List D)} {mt : Env → M Bool} {ma mb : Env → M Fl} {pos : Pos}
theorem ms_set {i : Nat} {x : Str} {pos' : Pos} (he : ME X ca W e m) (hN : X.N.Nodup) (hi : X.N[i]? = some x := by rfl) (hx : Loc X.env.scope x := by first | exact Or.inl rfl | exact Or.inr rfl) (hs : swapsWith e (some (.Name x pos')) pos.line X.env = pure false := by rfl) (hf : X.fn x = true ∨ X.env.scope.names.lookup x = some .local := by first | exact .inl rfl | exact .inr rfl) :
    MS X ca W n (.Assign [.Name x pos'] e pos) (mSet i m) := PS.mono (ps_set hN hi hx he hs hf) fun D' σ H h => by
  obtain ⟨w0, w, mh, env, rfl, hw, s, hp⟩ := h
  refine stepS (rep := repV X.K) hw s hp fun w1 mh1 v d x1 hw1 s1 r1 hp1 => ?_
  exact hp1 w1 _ (s1.set r1) x1.grow hw1
theorem ms_setOwn {i : Nat} {x : Str} {pos' : Pos} (he : MF X ca W e mf) (hN : X.N.Nodup) (hi : X.N[i]? = some x := by rfl) (hx : Loc X.env.scope x := by first | exact Or.inl rfl | exact Or.inr rfl) (hs : swapsWith e (some (.Name x pos')) pos.line X.env = pure false := by rfl) (hf : X.fn x = true ∨ X.env.scope.names.lookup x = some .local := by first | exact .inl rfl | exact .inr rfl) :
    MS X ca W n (.Assign [.Name x pos'] e pos) (mSetOwn i mf) := PS.mono (ps_set hN hi hx he hs hf) fun D' σ H h => by
  obtain ⟨w0, w, mh, env, rfl, hw, s, hp⟩ := h
  refine ⟨w, mh, env, rfl, hw, s.fr, wpR_mono (wpR_bind.mp hp) (fun ds mh' q w' p x hw' hn o => ?_) fun cl mh q w' x hw' => q w' σ (s.ext.trans x) hw' s.ln⟩
  exact q w' _ ((s.then x).setOwn o (s.ext.th p hn) fun j es _ h => s.fr.apart hn j es h) x.grow hw'
theorem ms_setT {tg : Expr} {g : TG} {t : Tgt} {vs : List Nat} (he : ME X ca W e m) (hg : PG X tg g) (hk : GOk X.K g t vs) (hs : swapsWithSole [tg] e pos.line X.env = pure false := by rfl) (hw : swappedStores [tg] e X.env = pure none := by rfl) (h1 : (assignEach [tg] X.env).map (·.2) = [assign tg X.env] := by rfl) : MS X ca W n (.Assign [tg] e pos) (mSetT t m) := PS.mono (ps_asg he hg hs hw h1) fun D' σ H h => by
  obtain ⟨w0, w, mh, env, rfl, hw, s, hp⟩ := h
  refine stepS (rep := repV X.K) hw s hp fun w1 mh1 v d x1 hw1 s1 r1 hp1 => ?_
  cases q : t d env with
  | none => simp only [q] at hp1; exact hp1.elim
  | some env' =>
    simp only [q] at hp1
    refine hk w1 v d env env' σ _ hw1.subs r1 s1.fr q fun σ' f' we ob => hp1 w1 σ' ⟨s1.ext, f', ?_, fun i ds a h1 h2 => ?_⟩ x1.grow hw1
    · have := congrArg List.length we
      rw [wipe_length, wipe_length] at this
      rw [this]; exact s1.ln
    · obtain ⟨q1, q2⟩ := ob i ds a h1 h2
      exact s1.ow i ds a q1 q2
theorem ms_ret (he : ME X ca W e m) : MS X ca W n (.Return (some e) pos) (mRet m) := PS.mono (ps_ret he) fun D' σ H h => by
  obtain ⟨w0, w, mh, env, rfl, hw, s, hp⟩ := h
  refine stepS (rep := repV X.K) hw s hp fun w1 mh1 v d x1 hw1 s1 r1 hp1 => ?_
  exact hp1 w1 v s1.ext hw1 r1
theorem ms_retN : MS X ca W n (.Return none pos) mRetN := PS.mono ps_retN fun D' σ H h => by
  obtain ⟨w0, w, mh, env, rfl, hw, s, hp⟩ := h
  exact hp w .non s.ext hw .non
theorem ms_expr (he : ME X ca W e m) (hs : swapsWith e none pos.line X.env = pure false := by rfl) : MS X ca W n (.Expr e pos) (mExpr m) := PS.mono (ps_expr he hs) fun D' σ H h => by
  obtain ⟨w0, w, mh, env, rfl, hw, s, hp⟩ := h
  refine stepS (rep := repV X.K) hw s hp fun w1 mh1 v d x1 hw1 s1 r1 hp1 => ?_
  exact hp1 w1 σ s1 x1.grow hw1
theorem ms_if {c : Expr} {a b : List Stmt} (hc : MT X ca W c mt) (ha : MSs X ca W n a ma) (hb : MSs X ca W n b mb) : MS X ca W n (.If c a b pos) (mIf mt ma mb) := PS.mono (ps_if hc ha hb) fun D' σ H h => by
  obtain ⟨w0, w, mh, env, rfl, hw, s, hp⟩ := h
  refine stepS (rep := repB) hw s hp fun w1 mh1 v d x1 hw1 s1 r1 hp1 => ?_
  have r1 : v = d := r1
  subst r1
  cases v with
  | true => exact iteT ⟨w0, w1, mh1, env, rfl, hw1, s1, wpR_mono hp1 (fun _ _ z => z.grow x1.grow) fun _ _ z => z⟩
  | false => exact iteF ⟨w0, w1, mh1, env, rfl, hw1, s1, wpR_mono hp1 (fun _ _ z => z.grow x1.grow) fun _ _ z => z⟩
theorem ms_par {i j : Nat} {x y : Str} {a b : Expr} {px py pt : Pos} {kt k2 pt2} (hc : X.calm = true) (ha : MA X ca W [a, b] ms) (hN : X.N.Nodup) (hi : X.N[i]? = some x := by rfl) (hj : X.N[j]? = some y := by rfl) (hij : i ≠ j := by decide)
    (hx : X.env.scope.names.lookup x = some .local := by rfl) (hy : X.env.scope.names.lookup y = some .local := by rfl)
    (hw : swappedStores [.Tuple [.Name x px, .Name y py] kt pt] (.Tuple [a, b] k2 pt2) X.env = pure (some [x, y]) := by rfl)
    (hs : swapsWithSole [.Tuple [.Name x px, .Name y py] kt pt] (.Tuple [a, b] k2 pt2) pos.line X.env = pure false := by rfl) : MS X ca W n (.Assign [.Tuple [.Name x px, .Name y py] kt pt] (.Tuple [a, b] k2 pt2) pos) (mPar i j ms) := PS.mono (ps_par hc hN hi hj hij hx hy ha hw hs) fun D' σ H h => by
  obtain ⟨w0, w, mh, env, rfl, hw, s, hp⟩ := h
  refine stepS (rep := repA X.K) hw s hp fun w1 mh1 v d x1 hw1 s1 r1 hp1 => ?_
  have r1 : RpAll X.K w1 v d := r1
  match d, r1, hp1 with
  | [d1, d2], r1, hp1 =>
    obtain ⟨v1, v2, rfl, q1, q2⟩ := r1.two
    exact ⟨v1, v2, rfl, hp1 w1 _ ((s1.set q1).set q2) x1.grow hw1⟩
  | [], r1, hp1 => exact hp1.elim
  | [_], r1, hp1 => exact hp1.elim
  | _ :: _ :: _ :: _, r1, hp1 => exact hp1.elim
theorem ms_aug {i : Nat} {x : Str} {op : Operator} {r : R2} {f : DOp} {pos' : Pos} (ho : OpR X (inplaceOp op) r) (hf : OpM X.K ca r f) (he : ME X ca W e m) (hN : X.N.Nodup) (hi : X.N[i]? = some x := by rfl) (hx : Loc X.env.scope x := by first | exact Or.inl rfl | exact Or.inr rfl) (hfn : X.fn x = true ∨ X.env.scope.names.lookup x = some .local := by first | exact .inl rfl | exact .inr rfl) :
    MS X ca W n (.AugAssign (.Name x pos') op e pos) (mAug f i m) := PS.mono (ps_aug hN hi hx he (show PIp X op r from ho) hfn) fun D' σ H h => by
  obtain ⟨w0, w, mh, env, rfl, hw, s, hp⟩ := h
  cases q : env[i]? with
  | none => simp only [mAug, q] at hp; exact hp.elim
  | some sl =>
    cases sl with
    | v d =>
      simp only [mAug, q] at hp
      obtain ⟨v, e1, r1⟩ := s.fr.v i d q
      refine ⟨v, e1, ?_⟩
      refine stepS (rep := repV X.K) hw s hp fun w1 mh1 v2 d2 x1 hw1 s1 r2 hp1 => ?_
      refine hf W σ w1 mh1 v v2 d d2 _ hw1 (x1.rp r1) r2 (wpR_mono (wpR_bind.mp hp1) (fun z mh' q w' vz xz hw' rz => ?_) fun cl mh q w' xz hw' => q w' σ (s1.ext.trans xz) hw' s1.ln)
      exact q w' _ ((s1.then xz).set rz) (x1.trans xz).grow hw'
    | _ => simp only [mAug, q] at hp; exact hp.elim
theorem ms_augAdd {i : Nat} {x : Str} {pos' : Pos} (he : ME X ca W e m) (hN : X.N.Nodup) (hi : X.N[i]? = some x := by rfl) (hx : Loc X.env.scope x := by first | exact Or.inl rfl | exact Or.inr rfl) (hfn : X.fn x = true ∨ X.env.scope.names.lookup x = some .local := by first | exact .inl rfl | exact .inr rfl) :
    MS X ca W n (.AugAssign (.Name x pos') .Add e pos) (mAug augAdd i m) := ms_aug iop_add (opm_int fun _ _ _ _ => .int _) he hN hi hx hfn
theorem ms_augSub {i : Nat} {x : Str} {pos' : Pos} (he : ME X ca W e m) (hN : X.N.Nodup) (hi : X.N[i]? = some x := by rfl) (hx : Loc X.env.scope x := by first | exact Or.inl rfl | exact Or.inr rfl) (hfn : X.fn x = true ∨ X.env.scope.names.lookup x = some .local := by first | exact .inl rfl | exact .inr rfl) :
    MS X ca W n (.AugAssign (.Name x pos') .Sub e pos) (mAug opSub i m) := ms_aug iop_sub opm_sub he hN hi hx hfn
end
end AG
/-! AgI: loops, lists of one's own, lending, raising, bodies. -/
namespace AG
open PySem L2

/-! ### for -/
def loopF (t : Tgt) (body : Env → M Fl) : List D → Env → M Fl
  | [], env => M.pure (.nx env)
  | x :: xs, env => match t x env with
    | some e1 => M.bind (body e1) fun fl => match fl with
      | .nx e => loopF t body xs e
      | .ct e => loopF t body xs e
      | .bk e => M.pure (.nx e)
      | .rt d => M.pure (.rt d)
    | none => M.bad
def mFor (mi : Env → M (List D)) (t : Tgt) (body : Env → M Fl) : Env → M Fl := fun env => M.bind (mi env) fun xs => loopF t body xs env
section
variable {X : Cx} {ca : Nat → Addr} {W : WX} {n : Nat} {tg iter : Expr} {body : List Stmt} {mi : Env → M (List D)} {mb : Env → M Fl} {g : TG} {t : Tgt} {vs : List Nat} {pos : Pos}
theorem ms_for (hp : PassesOwn (model X.prog X.w) X.A X.env X.xe) (hc : X.calm = true) (hi : MI X ca W tg iter mi) (hg : PG X tg g) (hk : GOk X.K g t vs) (hb : MSs X ca W n body mb)
    (hs : ∀ x, foldedSetIterable iter X.env x = pure x := by intro _; rfl) : MS X ca W n (.For tg iter body [] pos) (mFor mi t mb) := PS.mono (ps_for hp hc hi hg hb hs) fun D' σ H h => by
  obtain ⟨w0, w, mh, env, rfl, hw, s, hp⟩ := h
  refine stepS (rep := repI X.K ca) hw s hp fun w1 mh1 J xs x1 hw1 s1 S hp1 => ?_
  have S : Serves X.K ca w1 J xs := S
  refine ⟨fun i m σ H => m = xs.length - i ∧ i ≤ xs.length ∧ ∃ w2 mh2 env2, w2.H = H ∧ Grow w1 w2 ∧ WOk X.K ca w2 mh2 ∧ SRel X.K n w0 env2 σ w2 ∧
    wpR (loopF t mb (xs.drop i) env2 mh2) (FlP X.K ca n w0 w D') (ExS X.K ca W n w0), ⟨xs.length, by simp, Nat.zero_le _, w1, mh1, env, rfl, Grow.refl _, hw1, s1, by simpa using hp1⟩, ?_⟩
  rintro i m σ2 H ⟨rfl, hi, w2, mh2, env2, rfl, g2, hw2, s2, hp2⟩
  by_cases hlt : i < xs.length
  · refine .inr ⟨S.go w2 mh2 i g2 hw2 hlt, fun σ' H' => ∃ w4 mh4 env4, w4.H = H' ∧ Grow w1 w4 ∧ WOk X.K ca w4 mh4 ∧ SRel X.K n w0 env4 σ' w4 ∧
      wpR (loopF t mb (xs.drop (i + 1)) env4 mh4) (FlP X.K ca n w0 w D') (ExS X.K ca W n w0), fun σ' H' q => ⟨_, by omega, rfl, hlt, q⟩, fun x H' y => ?_⟩
    obtain ⟨d, w3, e3, rfl, x3, hw3, r3⟩ := S.yld w2 mh2 i x H' g2 hw2 hlt y
    rw [List.drop_eq_getElem_cons hlt] at hp2
    have e3' : xs[i] = d := by rw [List.getElem?_eq_getElem hlt] at e3; exact Option.some.inj e3
    rw [e3'] at hp2
    cases q : t d env2 with
    | none => simp only [loopF, q] at hp2; exact hp2.elim
    | some env3 =>
      simp only [loopF, q] at hp2
      have s3 := s2.then x3
      refine hk w3 x d env2 env3 _ _ hw3.subs r3 s3.fr q fun σ3 f3 we ob => ?_
      have ln3 : σ3.length = n := by
        have := congrArg List.length we
        rw [wipe_length, wipe_length] at this
        rw [this]; exact s3.ln
      refine ⟨w0, w3, mh2, env3, rfl, hw3, ⟨s3.ext, f3, ln3, fun j ds a h1 h2 => ?_⟩, ?_⟩
      · obtain ⟨q1, q2⟩ := ob j ds a h1 h2
        exact s3.ow j ds a q1 q2
      · have g13 : Grow w1 w3 := g2.trans x3.grow
        refine wpR_mono (wpR_bind.mp hp2) (fun fl mh5 z => ?_) fun _ _ z => z
        cases fl with
        | nx e => exact fun w5 σ5 s5 g5 hw5 => ⟨w5, mh5, e, rfl, g13.trans g5, hw5, s5, z⟩
        | ct e => exact fun w5 σ5 s5 g5 hw5 => ⟨w5, mh5, e, rfl, g13.trans g5, hw5, s5, z⟩
        | bk e => exact fun w5 σ5 s5 g5 hw5 => z w5 σ5 s5 (x1.grow.trans (g13.trans g5)) hw5
        | rt d => exact z
  · have e : i = xs.length := by omega
    subst e
    refine .inl ⟨S.stop w2 mh2 _ g2 hw2 (Nat.le_refl _), ?_⟩
    rw [List.drop_length] at hp2
    exact hp2 w2 _ s2 (x1.grow.trans g2) hw2
end

/-! ### while -/
def whileF (c : Env → M Bool) (body : Env → M Fl) : Nat → Env → M Fl
  | 0, _ => M.bad
  | k + 1, env => M.bind (c env) fun b => if b = true then M.bind (body env) fun fl => match fl with
      | .nx e => whileF c body k e
      | .ct e => whileF c body k e
      | .bk e => M.pure (.nx e)
      | .rt d => M.pure (.rt d)
    else M.pure (.nx env)
section
variable {X : Cx} {ca : Nat → Addr} {W : WX} {n : Nat} {c : Expr} {body : List Stmt} {mc : Env → M Bool} {mb : Env → M Fl} {pos : Pos}
theorem ms_while (k : Nat) (hp : PassesOwn (model X.prog X.w) X.A X.env X.xe) (hc : MT X ca W c mc) (hb : MSs X ca W n body mb) : MS X ca W n (.While c body [] pos) (whileF mc mb k) := PS.mono (ps_while hp hc hb) fun D' σ H h => by
  obtain ⟨w0, w, mh, env, rfl, hw, s, hp⟩ := h
  refine ⟨fun m σ H => ∃ w2 mh2 env2, w2.H = H ∧ Grow w w2 ∧ WOk X.K ca w2 mh2 ∧ SRel X.K n w0 env2 σ w2 ∧ wpR (whileF mc mb m env2 mh2) (FlP X.K ca n w0 w D') (ExS X.K ca W n w0), ⟨k, w, mh, env, rfl, Grow.refl _, hw, s, hp⟩, ?_⟩
  rintro m σ2 H ⟨w2, mh2, env2, rfl, g2, hw2, s2, hp2⟩
  cases m with
  | zero => exact hp2.elim
  | succ m =>
    simp only [whileF] at hp2
    refine stepS (rep := repB) hw2 s2 hp2 fun w3 mh3 b b' x3 hw3 s3 rb hp3 => ?_
    have rb : b = b' := rb
    subst rb
    cases b with
    | false =>
      simp only [Bool.false_eq_true, if_false] at hp3 ⊢
      exact hp3 w3 _ s3 (g2.trans x3.grow) hw3
    | true =>
      simp only [if_true] at hp3 ⊢
      refine ⟨fun σ' H' => ∃ w2 mh2 env2, w2.H = H' ∧ Grow w w2 ∧ WOk X.K ca w2 mh2 ∧ SRel X.K n w0 env2 σ' w2 ∧ wpR (whileF mc mb m env2 mh2) (FlP X.K ca n w0 w D') (ExS X.K ca W n w0), fun σ' H' q => ⟨m, Nat.lt_succ_self _, q⟩, w0, w3, mh3, env2, rfl, hw3, s3, ?_⟩
      have g3 : Grow w w3 := g2.trans x3.grow
      refine wpR_mono (wpR_bind.mp hp3) (fun fl mh5 z => ?_) fun _ _ z => z
      cases fl with
      | nx e => exact fun w5 σ5 s5 g5 hw5 => ⟨w5, mh5, e, rfl, g3.trans g5, hw5, s5, z⟩
      | ct e => exact fun w5 σ5 s5 g5 hw5 => ⟨w5, mh5, e, rfl, g3.trans g5, hw5, s5, z⟩
      | bk e => exact fun w5 σ5 s5 g5 hw5 => z w5 σ5 s5 (g3.trans g5) hw5
      | rt d => exact z
end

/-! ### lists of one's own -/
def mOwnM (f : List D → D → Option (List D)) (i : Nat) (m : Env → M D) : Env → M Fl := fun env => match env[i]? with
  | some (.own _) => M.bind (m env) fun y => match env[i]? with
    | some (.own ds) => match f ds y with | some es => M.pure (.nx (env.set i (.own es))) | none => M.bad
    | _ => M.bad
  | _ => M.bad
def fAppend : List D → D → Option (List D) := fun ds y => if ds.length < 16777216 then some (ds ++ [y]) else none
def fExtend : List D → D → Option (List D) := fun ds y => match y with | .lst es => if ds.length + es.length ≤ 16777216 then some (ds ++ es) else none | _ => none
def fRemove : List D → D → Option (List D) := fun ds y => if (ds.all (D.sm 60) && D.sm 60 y) = true then (ds.findIdx? fun z => D.eqv z y).map ds.eraseIdx else none
/-- by values -/
def OwnMt (K : PySem.W.Frag) (r : V → List V → Hp → VK → Prop) (f : List D → D → Option (List D)) : Prop := ∀ (w : Wd) (a : Addr) (vs : List V) (ds es : List D) (y : V) (d : D) (Q : VK), Subs w → w.H a = some (.lst vs) → RpAll K w vs ds → Rp K w y d → f ds d = some es →
  (∀ us, RpAll K w us es → Q .non (upd w.H a (.lst us))) → r (.ref a) [y] w.H Q
section
variable {K : PySem.W.Frag}
theorem om_append : OwnMt K rAppend fAppend := by
  intro w a vs ds es y d Q hs hH r ry e k
  unfold fAppend at e
  split at e
  · cases e
    exact ⟨a, vs, y, rfl, rfl, hH, by rw [r.length, sizeLine_lit]; assumption, k _ (r.append (.cons ry .nil))⟩
  · cases e
theorem om_extend : OwnMt K rExtend fExtend := by
  intro w a vs ds es y d Q hs hH r ry e k
  unfold fExtend at e
  cases d <;> first | (cases e; done) | skip
  rename_i zs
  simp only at e
  split at e
  · cases e
    cases ry with
    | lst h1 h2 => exact ⟨a, _, vs, _, rfl, rfl, hH, hs.l _ _ h1, by rw [r.length, h2.length, sizeLine_lit]; assumption, k _ (r.append h2)⟩
  · cases e
end
def rRemD (K : PySem.W.Frag) : V → List V → Hp → VK → Prop := fun x vs H Q => ∃ l xs y ds d j, x = .ref l ∧ vs = [y] ∧ H l = some (.lst xs) ∧ DpAll K H xs ds ∧ Dp K H y d ∧ PyData.plainAll ds = true ∧ d.plain = true ∧ d.depth ≤ 64 ∧ PySem.SeqAt.dataPlace ds d = some j ∧ Q .non (upd H l (.lst (xs.eraseIdx j)))
theorem eraseIf_toArray {α : Type} (l : List α) (j : Nat) (h : j < l.length) : l.toArray.eraseIdxIfInBounds j = (l.eraseIdx j).toArray := by
  simp [Array.eraseIdxIfInBounds, h]
theorem mt_removeD {X : Cx} (hu : X.A.units + 66 < cLine) : MtR X "list.remove" (rRemD X.K) := by
  intro pins s σ H x vs v us Q I rx rv h
  obtain ⟨l, xs, y, ds, d, j, rfl, rfl, hH, hds, hd, pl, pd, dd, hj, q⟩ := h
  cases rx
  obtain ⟨u, rfl, ru⟩ := rv.one
  obtain ⟨z, its, n, r, hl, e⟩ := I.lstM hH
  obtain ⟨as, hr⟩ := Dp.readsAll I ds xs its hds r
  obtain ⟨bs, hr2⟩ := Dp.reads I d y u hd ru
  have hjl : j < its.length := by
    obtain ⟨h1, _⟩ := List.findIdx?_eq_some_iff_getElem.mp hj
    have := PySem.SeqAt.ReadsAll.length _ _ _ hr
    omega
  refine PySem.SeqAt.remove_list_data (vs := its.toArray) ⟨_, e, rfl, _, rfl⟩ (by simpa using hr) hr2 pl pd (by have := Nat.min_le_right (PyData.depthAll ds) d.depth; omega) hj (by rw [List.size_toArray, ← hl]; exact z) ?_
  refine ⟨.non, _, I.lset (t' := s.toks) (f := fun ys => ys.eraseIdxIfInBounds j) (its' := its.eraseIdx j) hH e (eraseIf_toArray its j hjl) (r.eraseIdx j) ?_, rfl, q⟩
  exact Nat.le_trans (List.length_eraseIdx_le _ _) z
theorem all_sm {n : Nat} {ds : List D} (h : ds.all (D.sm n) = true) : ∀ d ∈ ds, D.sm n d = true := List.all_eq_true.mp h
theorem place_toPys (ds : List D) (y : D) : PySem.SeqAt.dataPlace (D.toPys ds) y.toPy = ds.findIdx? fun z => D.eqv z y := by
  unfold PySem.SeqAt.dataPlace
  rw [D.toPys_map, List.findIdx?_map]
  rfl
theorem om_remove {K : PySem.W.Frag} : OwnMt K (rRemD K) fRemove := by
  intro w a vs ds es y d Q hs hH r ry e k
  unfold fRemove at e
  split at e
  · rename_i c
    simp only [Bool.and_eq_true] at c
    cases q : ds.findIdx? fun z => D.eqv z d with
    | none => rw [q] at e; cases e
    | some j =>
      rw [q] at e
      cases e
      refine ⟨a, vs, y, _, _, j, rfl, rfl, hH, dpAll_of (fun h q => Rp.dp hs h q) r c.1, ry.dp hs c.2, plainAll_toPy _, plain_toPy _, sm64 c.2, by rw [place_toPys]; exact q, k _ (r.eraseIdx j)⟩
  · cases e
section
variable {X : Cx} {ca : Nat → Addr} {W : WX} {n : Nat} {e : Expr} {m : Env → M D} {x name : Str} {id : String} {p1 apos cpos pos : Pos} {r : V → List V → Hp → VK → Prop} {f : List D → D → Option (List D)}
theorem ms_own (slot : PySem.Slot "list" name id) (hty : typeOf (.builtin id) = pure (.type "method_descriptor")) (hm : MtR X id r) (ho : OwnMt X.K r f) (i : Nat) (he : ME X ca W e m) (hN : X.N[i]? = some x := by rfl) (hv : Vis X.env.scope x := by first | exact Or.inl rfl | exact Or.inr (Or.inl rfl) | exact Or.inr (Or.inr rfl))
    (hd : (x == ("__debug__" : Str)) = false := by decide) (hcd : (x == ("__classdict__" : Str)) = false := by decide)
    (hbase : attributeBase (.Name x p1) name X.env (eval (.Name x p1) X.env) = eval (.Name x p1) X.env := by rfl)
    (hfew : ((backTo cpos (starEach [e] X.env)).all (fun x => !x.1) && (backToKw cpos (keywordEach [] X.env)).all (fun x => x.1.isSome)
      && decide ([e].length + ([] : List Keyword).length + (if ([] : List Keyword).isEmpty then 0 else 1) < 30)) = true := by rfl)
    (hline : (apos.endLine == cpos.line) = true := by rfl) (hs : starEach [e] X.env = (false, eval e X.env) :: starEach [] X.env := by rfl) (hplain : (backTo cpos (starEach [] X.env)).any (·.1) = false := by rfl)
    (hsw : swapsWith (.Call (.Attribute (.Name x p1) name apos) [e] [] cpos) none pos.line X.env = pure false := by rfl) :
    MS X ca W n (.Expr (.Call (.Attribute (.Name x p1) name apos) [e] [] cpos) pos) (mOwnM f i m) :=
  PS.mono (ps_expr (pe_bm PySem.F.plainAttrs_list slot hty hm (pv i hN hv hd hcd) (pa_cons he pa_nil hs) hbase hfew hline hs hplain) hsw) fun D' σ H h => by
    obtain ⟨w0, w, mh, env, rfl, hw, s, hp⟩ := h
    cases q : env[i]? with
    | none => simp only [mOwnM, q] at hp; exact hp.elim
    | some sl =>
      cases sl with
      | own ds =>
        simp only [mOwnM, q] at hp
        obtain ⟨a, e1, o⟩ := s.fr.own i ds q
        obtain ⟨vs, hH, _⟩ := o.at'
        refine ⟨_, e1, .inl ⟨rfl, vs, .of hH⟩, ?_⟩
        refine stepS (rep := repV X.K) hw s hp fun w1 mh1 v2 d2 x1 hw1 s1 r2 hp1 => ?_
        obtain ⟨a', e1', o1⟩ := s1.fr.own i ds q
        rw [e1] at e1'
        cases e1'
        obtain ⟨vs1, hH1, rr1⟩ := o1.at'
        cases qf : f ds d2 with
        | none => simp only [qf] at hp1; exact hp1.elim
        | some es =>
          simp only [qf] at hp1
          refine ho w1 a vs1 ds es v2 d2 _ hw1.subs hH1 rr1 r2 qf fun us ru => ?_
          exact hp1 (w1.put a (.lst us)) σ (s1.wr q e1 ru) (x1.grow.trans put_grow) (hw1.wr o1.nF o1.nL o1.nr)
      | _ => simp only [mOwnM, q] at hp; exact hp.elim
end
end AG
/-! AgJ: lending, freezing, bodies of defs. -/
namespace AG
open PySem L2

/-! ### a list of one's own is lent to an expression -/
def MO.nl : MO → Bool
  | .lst ds => ds.all (D.nl 60)
  | .stream => true
  | .inst _ fs => fs.all fun p => D.nl 60 p.2
theorem unLs {K : PySem.W.Frag} {w w' : Wd} {n : Nat} (ih : ∀ {v : V} {d : D}, Rp K w v d → D.nl n d = true → Rp K w' v d) : ∀ {vs : List V} {ds : List D}, RpAll K w vs ds → ds.all (D.nl n) = true → RpAll K w' vs ds
  | _, _, .nil, _ => .nil
  | _, _, .cons h r, q => by
    simp only [List.all_cons, Bool.and_eq_true] at q
    exact .cons (ih h q.1) (unLs ih r q.2)
theorem Rp.unL {K : PySem.W.Frag} {w w' : Wd} (hρ : w'.ρ = w.ρ) (hF : w'.F = w.F) : ∀ {n : Nat} {v : V} {d : D}, Rp K w v d → D.nl n d = true → Rp K w' v d
  | _, _, _, .non, _ => .non
  | _, _, _, .bl b, _ => .bl b
  | _, _, _, .int i, _ => .int i
  | _, _, _, .str x, _ => .str x
  | 0, _, _, .tup _ _, q => by simp [D.nl] at q
  | n + 1, _, _, .tup h r, q => .tup (by rw [hF]; exact h) (unLs (fun a b => Rp.unL hρ hF a b) r (by simpa [D.nl] using q))
  | 0, _, _, .lst _ _, q => by simp [D.nl] at q
  | n + 1, _, _, .lst _ _, q => by simp [D.nl] at q
  | _, _, _, .ref h, _ => .ref (by rw [hρ]; exact h)
  | _, _, _, .scr h l, _ => .scr (by rw [hF]; exact h) l
theorem unL1 {K : PySem.W.Frag} {w w' : Wd} (hρ : w'.ρ = w.ρ) (hF : w'.F = w.F) {vs : List V} {ds : List D} (r : RpAll K w vs ds) (q : ds.all (D.nl 60) = true) : RpAll K w' vs ds := unLs (fun a b => Rp.unL hρ hF a b) r q
def Wd.unlock (w : Wd) (p : Addr) : Wd := ⟨w.ρ, w.F, fun b => if b = p then none else w.L b, w.H⟩
def R.lent {α : Type} (ok : α → Bool) : R α → R α
  | .ok a h => if (ok a && h.all MO.nl) = true then .ok a h else .bad
  | .exc c h => if h.all MO.nl = true then .exc c h else .bad
  | .bad => .bad
  | .pick n k => .pick n fun i => (k i).lent ok
theorem wpR_lent {α : Type} {ok : α → Bool} {r : R α} {Q : α → MH → Prop} {E : Nat → MH → Prop} (h : wpR (r.lent ok) Q E) : wpR r (fun a m => ok a = true ∧ m.all MO.nl = true ∧ Q a m) (fun c m => m.all MO.nl = true ∧ E c m) := by
  induction r with
  | ok a m =>
    unfold R.lent at h
    split at h
    · rename_i c
      simp only [Bool.and_eq_true] at c
      exact ⟨c.1, c.2, h⟩
    · exact h.elim
  | exc c m =>
    unfold R.lent at h
    split at h
    · rename_i q
      exact ⟨q, h⟩
    · exact h.elim
  | bad => exact h
  | pick n k ih => exact ⟨h.1, fun i hi => ih i (h.2 i hi)⟩
def mBorR {α : Type} (ok : α → Bool) (i : Nat) (m : Env → M α) : Env → M α := fun env => match env[i]? with
  | some (.own ds) => fun h => (m (env.set i (.v (.lst ds))) h).lent ok
  | _ => m env
def mBor (i : Nat) (m : Env → M D) : Env → M D := mBorR (D.nl 60) i m
def mBorT (i : Nat) (m : Env → M Bool) : Env → M Bool := mBorR (fun _ => true) i m
def mBorF (i : Nat) (m : Env → M (List D)) : Env → M (List D) := mBorR (fun ds => ds.all (D.nl 60)) i m
section
variable {K : PySem.W.Frag} {ca : Nat → Addr} {W : WX} {w w1 : Wd} {env : Env} {σ : St} {mh : MH} {i : Nat} {ds : List D}
/-- the world in which the list is lent -/
theorem lend {a : Addr} {vs : List V} (hw : WOk K ca w mh) (hf : FrOk K w env σ) (he : env[i]? = some (.own ds)) (e1 : σ[i]? = some (some (.ref a))) (o : Own K w a ds) (hH : w.H a = some (.lst vs)) (r : RpAll K w vs ds) :
    WOk K ca (w.lock a vs) mh ∧ FrOk K (w.lock a vs) (env.set i (.v (.lst ds))) σ := by
  refine ⟨hw.lock hH o.nL o.nr, by simp [hf.len], fun j d h => ?_, fun j es h => ?_, fun j k es fs b ne h1 h2 h3 => ?_⟩
  · by_cases ij : i = j
    · subst ij
      rw [getElem?_setS, if_pos rfl] at h
      split at h
      · cases h
        exact ⟨_, e1, .lst updL_same (r.mono (lock_grow o.nL))⟩
      · cases h
    · rw [getElem?_setS, if_neg ij] at h
      obtain ⟨u, e2, e3⟩ := hf.v j d h
      exact ⟨u, e2, e3.mono (lock_grow o.nL)⟩
  · by_cases ij : i = j
    · subst ij
      rw [getElem?_setS, if_pos rfl] at h
      split at h <;> cases h
    · rw [getElem?_setS, if_neg ij] at h
      obtain ⟨b, e2, o2⟩ := hf.own j es h
      have ab : b ≠ a := fun e => by subst e; exact hf.sep i j ds es b ij he h e1 e2
      obtain ⟨us, q1, q2⟩ := o2.at'
      exact ⟨b, e2, ⟨us, q1, q2.mono (lock_grow o.nL)⟩, o2.nF, by show updL w.L a vs b = none; rw [updL_ne ab]; exact o2.nL, o2.nr⟩
  · by_cases ij : i = j
    · subst ij
      rw [getElem?_setS, if_pos rfl] at h1
      split at h1 <;> cases h1
    · by_cases ik : i = k
      · subst ik
        rw [getElem?_setS, if_pos rfl] at h2
        split at h2 <;> cases h2
      · rw [getElem?_setS, if_neg ij] at h1
        rw [getElem?_setS, if_neg ik] at h2
        exact hf.sep j k es fs b ne h1 h2 h3
/-- .. and given back -/
theorem back {a : Addr} {vs : List V} {w2 : Wd} {mh2 : MH} (hw : WOk K ca w mh) (o : Own K w a ds) (hH : w.H a = some (.lst vs)) (x : Ext (w.lock a vs) w2) (hw2 : WOk K ca w2 mh2) (hn : mh2.all MO.nl = true) :
    Ext w (w2.unlock a) ∧ WOk K ca (w2.unlock a) mh2 := by
  have Lne : ∀ b, b ≠ a → (w2.unlock a).L b = w2.L b := fun b h => by simp [Wd.unlock, h]
  have La : (w2.unlock a).L a = none := by simp [Wd.unlock]
  refine ⟨⟨x.rho, x.fz, fun b u h => ?_, x.kp, x.nf, fun b u h => ?_, x.th⟩, ⟨hw2.sub, fun b u h => ?_, hw2.len, hw2.nd, fun n b mo h1 h2 => ?_⟩⟩
  · have ba : b ≠ a := fun e => by subst e; rw [o.nL] at h; cases h
    rw [Lne b ba]
    refine x.lz b u ?_
    show updL w.L a vs b = some u
    rw [updL_ne ba]
    exact h
  · by_cases ba : b = a
    · subst ba; rw [La] at h; cases h
    · rw [Lne b ba] at h
      rcases x.nl b u h with q | q
      · have q : updL w.L a vs b = some u := q
        rw [updL_ne ba] at q
        exact .inl q
      · exact .inr q
  · by_cases ba : b = a
    · subst ba; rw [La] at h; cases h
    · rw [Lne b ba] at h; exact hw2.subL b u h
  · obtain ⟨f, l, q⟩ := hw2.obj n b mo h1 h2
    refine ⟨f, ?_, ?_⟩
    · by_cases ba : b = a
      · subst ba; exact La
      · rw [Lne b ba]; exact l
    · have qn : mo.nl = true := List.all_eq_true.mp hn mo (List.mem_of_getElem? h2)
      cases mo with
      | lst es => obtain ⟨us, e, rr⟩ := q; exact ⟨us, e, unL1 (w := w2) (w' := w2.unlock a) rfl rfl rr qn⟩
      | stream => obtain ⟨ns, x, y, z, us, e, rr, l⟩ := q; exact ⟨ns, x, y, z, us, e, unL1 (w := w2) (w' := w2.unlock a) rfl rfl rr (by simp [D.nl]), l⟩
      | inst c fs =>
        obtain ⟨dx, us, e, rr⟩ := q
        refine ⟨dx, us, e, unL1 (w := w2) (w' := w2.unlock a) rfl rfl rr ?_⟩
        rw [List.all_map]
        exact qn
/-- a part that may read the list at i -/
theorem bor_read {α β : Type} {rep : Wd → β → α → Prop} {ok : α → Bool} {m : Env → M α} {H : Hp} {Q : β → Hp → Prop} (hrep : ∀ (w : Wd) (a : Addr) (v : β) (d : α), rep w v d → ok d = true → rep (w.unlock a) v d)
    (h : denG rep K ca W (mBorR ok i m) σ H Q) : denG rep K ca W m σ H Q := by
  obtain ⟨w, mh, env, rfl, hw, hf, hp⟩ := h
  cases q : env[i]? with
  | none => simp only [mBorR, q] at hp; exact ⟨w, mh, env, rfl, hw, hf, hp⟩
  | some sl =>
    cases sl with
    | own ds =>
      simp only [mBorR, q] at hp
      obtain ⟨a, e1, o⟩ := hf.own i ds q
      obtain ⟨vs, hH, r⟩ := o.at'
      obtain ⟨lw, lf⟩ := lend hw hf q e1 o hH r
      refine ⟨w.lock a vs, mh, _, rfl, lw, lf, wpR_mono (wpR_lent hp) (fun d mh' z w' v x hw' rr => ?_) fun cl mh' z w' x hw' => ?_⟩
      · obtain ⟨x', hw2⟩ := back hw o hH x hw' z.2.1
        exact z.2.2 (w'.unlock a) v x' hw2 (hrep _ _ _ _ rr z.1)
      · obtain ⟨x', hw2⟩ := back hw o hH x hw' z.1
        exact z.2 (w'.unlock a) x' hw2
    | no => simp only [mBorR, q] at hp; exact ⟨w, mh, env, rfl, hw, hf, hp⟩
    | v d => simp only [mBorR, q] at hp; exact ⟨w, mh, env, rfl, hw, hf, hp⟩
theorem borF_read {m : Env → M (List D)} {H : Hp} {Q : VK} (h : denF K ca W (mBorF i m) σ H Q) : denF K ca W m σ H Q := by
  obtain ⟨w, mh, env, rfl, hw, hf, hp⟩ := h
  cases q : env[i]? with
  | none => simp only [mBorF, mBorR, q] at hp; exact ⟨w, mh, env, rfl, hw, hf, hp⟩
  | some sl =>
    cases sl with
    | own ds =>
      simp only [mBorF, mBorR, q] at hp
      obtain ⟨a, e1, o⟩ := hf.own i ds q
      obtain ⟨vs, hH, r⟩ := o.at'
      obtain ⟨lw, lf⟩ := lend hw hf q e1 o hH r
      refine ⟨w.lock a vs, mh, _, rfl, lw, lf, wpR_mono (wpR_lent hp) (fun d mh' z w' p x hw' hn op => ?_) fun cl mh' z w' x hw' => ?_⟩
      · obtain ⟨x', hw2⟩ := back hw o hH x hw' z.2.1
        obtain ⟨us, h1, r1⟩ := op.at'
        have pa : p ≠ a := fun e => by
          subst e
          have hn : w.H p = none := hn
          rw [hH] at hn; cases hn
        exact z.2.2 (w'.unlock a) p x' hw2 hn ⟨⟨us, h1, unL1 (w := w') (w' := w'.unlock a) rfl rfl r1 z.1⟩, op.nF, by simp only [Wd.unlock, pa, if_false]; exact op.nL, op.nr⟩
      · obtain ⟨x', hw2⟩ := back hw o hH x hw' z.1
        exact z.2 (w'.unlock a) x' hw2
    | no => simp only [mBorF, mBorR, q] at hp; exact ⟨w, mh, env, rfl, hw, hf, hp⟩
    | v d => simp only [mBorF, mBorR, q] at hp; exact ⟨w, mh, env, rfl, hw, hf, hp⟩
end
section
variable {X : Cx} {ca : Nat → Addr} {W : WX} {e : Expr} {m : Env → M D} {mt : Env → M Bool} {mf : Env → M (List D)} {es : List Expr} {st : Stmt} {n : Nat} {ma : Env → M Fl}
theorem me_bor (i : Nat) (h : ME X ca W e m) : ME X ca W e (mBor i m) := PE.mono h fun _ _ _ q => bor_read (fun w a v d r o => Rp.unL (w := w) (w' := w.unlock a) rfl rfl r o) q
theorem mt_bor (i : Nat) (h : MT X ca W e mt) : MT X ca W e (mBorT i mt) := PT.mono h fun _ _ _ q => bor_read (fun w a v d r _ => r) q
theorem mf_bor (i : Nat) (h : MF X ca W e mf) : MF X ca W e (mBorF i mf) := PE.mono h fun _ _ _ q => borF_read q

/-! ### a list of one's own is not written any more -/
def mFrzB (i : Nat) (m : Env → M Fl) : Env → M Fl := fun env => match env[i]? with
  | some (.own ds) => m (env.set i (.v (.lst ds)))
  | _ => m env
theorem frz_read {K : PySem.W.Frag} {i : Nat} {D' : Ends} {σ : St} {H : Hp} (h : denS K ca W n (mFrzB i ma) D' σ H) : denS K ca W n ma D' σ H := by
  obtain ⟨w0, w, mh, env, rfl, hw, s, hp⟩ := h
  cases q : env[i]? with
  | none => simp only [mFrzB, q] at hp; exact ⟨w0, w, mh, env, rfl, hw, s, hp⟩
  | some sl =>
    cases sl with
    | own ds =>
      simp only [mFrzB, q] at hp
      obtain ⟨a, e1, o⟩ := s.fr.own i ds q
      obtain ⟨vs, hH, r⟩ := o.at'
      obtain ⟨lw, lf⟩ := lend hw s.fr q e1 o hH r
      refine ⟨w0, w.lock a vs, mh, _, rfl, lw, ⟨s.ext.lock (s.ow i ds a q e1) o.nL, lf, s.ln, fun j es b h1 h2 => ?_⟩, wpR_mono hp (fun _ _ z => z.grow (lock_grow o.nL)) fun _ _ z => z⟩
      by_cases ij : i = j
      · subst ij
        rw [getElem?_setS, if_pos rfl] at h1
        split at h1 <;> cases h1
      · rw [getElem?_setS, if_neg ij] at h1
        exact s.ow j es b h1 h2
    | no => simp only [mFrzB, q] at hp; exact ⟨w0, w, mh, env, rfl, hw, s, hp⟩
    | v d => simp only [mFrzB, q] at hp; exact ⟨w0, w, mh, env, rfl, hw, s, hp⟩
theorem ms_frz (i : Nat) (h : MS X ca W n st ma) : MS X ca W n st (mFrzB i ma) := PS.mono h fun _ _ _ q => frz_read q
end
end AG
/-! AgK: bodies of defs, recursion, the law's end. -/
namespace AG
open PySem L2 PyProof.Rows

/-- a def of the text as it stands behind the top -/
structure DefOk (K : PySem.W.Frag) (mg : Str → Option Value) (x : Str) (st : Stmt) (ps : List Str) : Prop where
  ex : ∃ (f : Addr) (fd : FuncData), Fun K x x st f fd ∧ mg x = some (.ref f) ∧ ∀ us : List Value, us.length = ps.length → bindArgs fd ⟨us, []⟩ = pure (ps.zip us)
def flD (fl : Fl) : M D := match fl with | .rt d => M.pure d | .nx _ => M.pure .non | _ => M.bad
def mFn (N : Nat) (m : Env → M Fl) : LOp := fun ds => M.bind (m (ds.map Slot.v ++ List.replicate (N - ds.length) Slot.no)) flD
section
variable {K : PySem.W.Frag} {w : Wd}
theorem start_fr {vs : List V} {ds : List D} {N : List Str} (r : RpAll K w vs ds) : FrOk K w (ds.map Slot.v ++ List.replicate (N.length - ds.length) Slot.no) (L2.start N vs) := by
  have hl := r.length
  have notOwn : ∀ (i : Nat) (es : List D), (ds.map Slot.v ++ List.replicate (N.length - ds.length) Slot.no)[i]? ≠ some (Slot.own es) := fun i es h => by
    rcases List.mem_append.mp (List.mem_of_getElem? h) with q | q
    · obtain ⟨d, _, e⟩ := List.mem_map.mp q
      cases e
    · have := List.eq_of_mem_replicate q
      cases this
  refine ⟨by simp [L2.start, hl], fun i d h => ?_, fun i es h => absurd h (notOwn i es), fun i j es fs a _ h => absurd h (notOwn i es)⟩
  by_cases li : i < ds.length
  · rw [List.getElem?_append_left (by simpa using li)] at h
    rw [List.getElem?_map] at h
    have e : ds[i]? = some d := by
      cases q : ds[i]? with
      | none => rw [q] at h; cases h
      | some z => rw [q] at h; cases h; rfl
    obtain ⟨v, e1, e2⟩ := r.get e
    refine ⟨v, ?_, e2⟩
    unfold L2.start
    rw [List.getElem?_append_left (by rw [List.length_map, hl]; exact li), List.getElem?_map, e1]
    rfl
  · rw [List.getElem?_append_right (by simpa using li)] at h
    have := List.eq_of_mem_replicate (List.mem_of_getElem? h)
    cases this
end
section
variable {P : Program} {w : World} {K : PySem.W.Frag} {mg : Str → Option Value} {base : Heap} {ca : Nat → Addr}
theorem FnM.up {j k : Nat} {x : Str} {n : Nat} {m : LOp} (F : FnM P w K mg base ca j x n m) (h : j ≤ k) : FnM P w K mg base ca k x n m := by
  obtain ⟨f, fd, ps, ok, r⟩ := F.ex
  exact ⟨f, fd, ps, ok.mono h, r⟩
/-- a def's body -/
def BodyOk (P : Program) (w : World) (K : PySem.W.Frag) (mg : Str → Option Value) (base : Heap) (ca : Nat → Addr) (k : Nat) (x : Str) (st : Stmt) (N : List Str) (mb : Env → M Fl) : Prop :=
  ∀ (f : Addr) (cdv : Value) (A : Around) (outer : List PySem.Env) (s : Shared) (H : Hp) (E : XK), Room k (A.deeper (envOfC x (defScope st) s.heap.objs.size f cdv)) →
      MSs (cxOf (L2.CX P w) P w K mg base N x (defScope st) f cdv A outer s H E) ca (fun cls d _ H' => E cls d H') N.length (defBody st) mb
theorem fn_body {x : Str} {st : Stmt} {N ps : List Str} {k : Nat} (D : DefOk K mg x st ps) (S : FnScope N ps (defScope st)) :
    ∃ (f : Addr) (fd : FuncData), mg x = some (.ref f) ∧ (∀ us : List Value, us.length = ps.length → bindArgs fd ⟨us, []⟩ = pure (ps.zip us)) ∧
      ∀ (base : Heap) (mb : Env → M Fl), BodyOk P w K mg base ca k x st N mb → FnOk P w K mg base (L2.CX P w) (k + 1) f fd ps (spM K ca ps.length (mFn N.length mb)) := by
  obtain ⟨f, fd, F, hm, hbd⟩ := D.ex
  have hpl : ps.length ≤ N.length := by have := congrArg List.length S.pre; rw [List.length_take] at this; omega
  refine ⟨f, fd, hm, hbd, fun base mb hb => F.okX S (fun vs H Q E h => ?_) (fun cdv A outer s H vs Q E hr h => ⟨_, hb f cdv A outer s H E hr, ?_⟩)⟩
  · obtain ⟨_, _, _, _, _, _, h, _⟩ := h
    exact h
  obtain ⟨w0, mh, ds, rfl, hw, r, hl, hp⟩ := h
  refine ⟨w0, w0, mh, _, rfl, hw, ⟨Ext.refl _, start_fr (N := N) r, by simp [L2.start]; omega, fun i es a h1 => ?_⟩, ?_⟩
  · rcases List.mem_append.mp (List.mem_of_getElem? h1) with q | q
    · obtain ⟨d, _, e⟩ := List.mem_map.mp q
      cases e
    · have := List.eq_of_mem_replicate q
      cases this
  · refine wpR_mono (wpR_bind.mp hp) (fun fl mh' z => ?_) fun cl mh' z w1 σ1 x1 hw1 _ => z w1 x1 hw1
    cases fl with
    | nx e => exact fun w1 σ1 s1 _ hw1 => z w1 .non s1.ext hw1 .non
    | rt d => exact fun w1 v x1 hw1 rr => z w1 v x1 hw1 rr
    | bk e => exact z.elim
    | ct e => exact z.elim
theorem fnm_mk {x : Str} {st : Stmt} {N ps : List Str} {k : Nat} {mb : Env → M Fl} (D : DefOk K mg x st ps) (S : FnScope N ps (defScope st)) (hb : BodyOk P w K mg base ca k x st N mb) : FnM P w K mg base ca (k + 1) x ps.length (mFn N.length mb) := by
  obtain ⟨f, fd, F, hm, hbd⟩ := D.ex
  obtain ⟨f', fd', hm', hbd', ok⟩ := fn_body (P := P) (w := w) (ca := ca) (k := k) D S
  rw [hm] at hm'
  cases hm'
  exact ⟨f, fd', ps, ok base mb hb, hm, F.kp, hbd'⟩
/-- a def that calls itself: n calls at most -/
def recF (f : LOp → LOp) : Nat → LOp
  | 0 => fun _ => M.bad
  | n + 1 => f (recF f n)
theorem fnm_none {x : Str} {st : Stmt} {ps : List Str} {k : Nat} (D : DefOk K mg x st ps) : FnM P w K mg base ca k x ps.length (fun _ => M.bad) := by
  obtain ⟨f, fd, F, hm, hbd⟩ := D.ex
  have no : ∀ vs H Q E, ¬ spM K ca ps.length (fun _ => M.bad) vs H Q E := fun vs H Q E ⟨_, _, _, _, _, _, _, hp⟩ => hp.elim
  exact ⟨f, fd, ps, ⟨fun vs H Q E h => absurd h (no vs H Q E), fun A outer s H args us vs Q E _ _ _ _ h => absurd h (no vs H Q E)⟩, hm, F.kp, hbd⟩
theorem fnm_rec {x : Str} {st : Stmt} {ps : List Str} {lv : Nat} {f : LOp → LOp} (D : DefOk K mg x st ps)
    (h : ∀ (k : Nat) (g : LOp), lv ≤ k → FnM P w K mg base ca k x ps.length g → FnM P w K mg base ca (k + 1) x ps.length (f g)) : ∀ n, FnM P w K mg base ca (lv + n) x ps.length (recF f n)
  | 0 => fnm_none D
  | n + 1 => h (lv + n) _ (Nat.le_add_right _ _) (fnm_rec D h n)
/-- two defs that call each other -/
def recP (f g : LOp → LOp → LOp) : Nat → LOp × LOp
  | 0 => (fun _ => M.bad, fun _ => M.bad)
  | n + 1 => (f (recP f g n).1 (recP f g n).2, g (recP f g n).1 (recP f g n).2)
theorem fnm_recP {x y : Str} {st su : Stmt} {ps qs : List Str} {lv : Nat} {f g : LOp → LOp → LOp} (D : DefOk K mg x st ps) (D2 : DefOk K mg y su qs)
    (h : ∀ (k : Nat) (a b : LOp), lv ≤ k → FnM P w K mg base ca k x ps.length a → FnM P w K mg base ca k y qs.length b → FnM P w K mg base ca (k + 1) x ps.length (f a b))
    (h2 : ∀ (k : Nat) (a b : LOp), lv ≤ k → FnM P w K mg base ca k x ps.length a → FnM P w K mg base ca k y qs.length b → FnM P w K mg base ca (k + 1) y qs.length (g a b)) :
    ∀ n, FnM P w K mg base ca (lv + n) x ps.length (recP f g n).1 ∧ FnM P w K mg base ca (lv + n) y qs.length (recP f g n).2
  | 0 => ⟨fnm_none D, fnm_none D2⟩
  | n + 1 => by
    obtain ⟨a, b⟩ := fnm_recP D D2 h h2 n
    exact ⟨h (lv + n) _ _ (Nat.le_add_right _ _) a b, h2 (lv + n) _ _ (Nat.le_add_right _ _) a b⟩
theorem def_mk {x : Str} {st : Stmt} {ps : List Str} {f : Addr} {oc : Value} {od an : Option Addr} {osl : Array (Option Value)} {kV doc pm cdv ct : Value} {h : Heap} (X : K.In h) (G : h.Ns mainGlobals mg) (a : PySem.W.nsIn K mainGlobals x = some (some (.ref f)))
    (l : K.lookup f = some ⟨oc, od, .func (PySem.W.fnOf x x (defArgs st) (defBody st) (defScope st) .none kV doc pm an cdv ct), osl⟩)
    (c : PySem.W.codeIn K cdv x = true) (k : PySem.W.keepIn K (.ref f) = true)
    (hb : ∀ (kV doc pm : Value) (an : Option Addr) (cdv ct : Value) (us : List Value), us.length = ps.length → bindArgs (PySem.W.fnOf x x (defArgs st) (defBody st) (defScope st) .none kV doc pm an cdv ct) ⟨us, []⟩ = pure (ps.zip us)) : DefOk K mg x st ps :=
  ⟨_, _, fun_mk l c k, PySem.W.mg_of X G a, hb kV doc pm an cdv ct⟩
/-- the law's answer -/
def LawM (m : LOp) : Prop := ∀ ns : List Int, ns.length ≤ 63 → wpR (m [.scr ns] []) (fun d _ => d = .bl true) (fun _ _ => False)
def spLaw (K : PySem.W.Frag) : Sp := fun vs H Q _ => ∃ (a : Addr) (ns : List Int), vs = [.ref a] ∧ Only H ∧ SqL K H a (ns.map V.int) ∧ ns.length ≤ 63 ∧ ∀ H', Q (.bl true) H'
theorem law_sp {m : LOp} (h : LawM m) {vs : List V} {H : Hp} {Q : VK} {E : XK} (q : spLaw K vs H Q E) : spM K ca 1 m vs H Q E := by
  obtain ⟨a, ns, rfl, hO, hS, hl, k⟩ := q
  refine ⟨⟨[], H, fun _ => none, H⟩, [], [.scr ns], rfl, ⟨fun _ _ h => h, fun a xs h => (by cases h), rfl, List.nodup_nil, fun n a mo h => by cases h⟩, .cons (.scr hS hl) .nil, rfl, ?_⟩
  refine wpR_mono (h ns hl) (fun d mh' e w' v x hw' r => ?_) fun _ _ z => z.elim
  subst e
  have r : Rp K w' v (.bl true) := r
  cases r
  exact k _
/-- a module's empty tuple -/
theorem gc_tup0 {x : Str} {a : Addr} {h : Heap} {od : Option Addr} {n : Nat} {osl : Array (Option Value)} (X : K.In h) (G : h.Ns mainGlobals mg) (e : PySem.W.nsIn K mainGlobals x = some (some (.ref a)))
    (l : K.lookup a = some ⟨.type "tuple", od, .seq #[] n, osl⟩) : GC K mg x (.tup []) :=
  ⟨.ref a, .ref a, PySem.W.mg_of X G e, rfl, fun w => .tup (.inr ⟨_, _, _, l, rfl, rfl, by decide, .nil⟩) .nil⟩
theorem gc_int {x : Str} {i : Int} {t : Nat} {h : Heap} (X : K.In h) (G : h.Ns mainGlobals mg) (e : PySem.W.nsIn K mainGlobals x = some (some (.int i t))) : GC K mg x (.int i) :=
  ⟨.int i, _, PySem.W.mg_of X G e, ⟨_, rfl⟩, fun w => .int i⟩
end
theorem walkM {l : PySem.W.OpenLaw} {q : Program} {loose : List Str} {XP : (Str → Option Value) → Heap → Prop} {YP : World → Heap → Prop} {d : DefRec} {K : Params → PySem.W.Frag} {m : LOp} {lv : Nat} (hm : LawM m) (hn : l.most = some 63) (hdf : d.params.defaults = []) (hr : Room lv callerA)
    (hY : ∀ (w : World) (h : Heap), YP w h → (K w.params).In h)
    (F : ∀ (w : World) (mg : Str → Option Value) (h : Heap), (K w.params).In h → h.Ns mainGlobals mg →
      ∃ (ca : Nat → Addr) (x : Str) (st : Stmt) (k : Nat) (N : List Str) (mb : Env → M Fl), x = d.name ∧ DefOk (K w.params) mg x st ["script"] ∧ FnScope N ["script"] (defScope st) ∧ lv = k + 1 ∧ m = mFn N.length mb ∧ ∀ base : Heap, (K w.params).In base → base.Ns mainGlobals mg →
        BodyOk l.prog w (K w.params) mg base ca k x st N mb) :
    PySem.W.WalkO q loose XP YP l.row.toRowW d [] (fun f vs => PySem.call f vs) :=
  L2.walk_of (n := 63) (k := lv) (x := "script") (CX := fun w => L2.CX l.prog w) (sp := fun w => spLaw (K w.params)) hn (by decide) hdf hr hY
    (fun w mg fa h KX G hmg => by
      obtain ⟨ca, x, st, k, N, mb, e, D, S, rfl, rfl, F2⟩ := F w mg h KX G
      obtain ⟨f, fd, hf, hb, ok⟩ := fn_body (ca := ca) D S
      rw [e, hmg] at hf
      cases hf
      exact ⟨fd, fun s u => .of_eq (hb [u] rfl), fun base B1 B2 => (ok base mb (F2 base B1 B2)).imp fun vs H Q E z => law_sp hm z⟩)
    (fun w H a ns hl hO hS => ⟨a, ns, rfl, hO, hS, hl, fun _ => rfl⟩) fun _ _ _ _ _ z => by
      obtain ⟨_, _, _, _, _, _, _, _, _, _, _, _, z⟩ := z
      exact z
end AG
/-! AgL: sorting of alike data, tuples without items too. -/
namespace AG
open PySem L2 PyProof.Rows PySem.SeqAt PySem.W

section
variable {prog : Program} {w : World} {A : Around} {E : Value → Shared → Prop} {s : Shared}
theorem tuple_lt_call {Q : Value → Shared → Prop} {l b : Addr} {items items2 : Array Value} {e r : Nat → Bool} (hl : s.heap.IsTuple l items) (hb : s.heap.IsTuple b items2)
    (he : ∀ j (h1 : j < items.size) (h2 : j < items2.size), EqAt A.in1 s items[j] items2[j] (e j)) (hr : ∀ j (h1 : j < items.size) (h2 : j < items2.size), e j = false → RcLt A.in1 s items[j] items2[j] (r j))
    (h : Q (.bool (firstLt e r (decide (items.size < items2.size)) (List.range (min items.size items2.size)))) s) : wpAny (model prog w) A (call (.builtin "tuple.__lt__") [.ref l, .ref b]) Q E s := by
  obtain ⟨⟨cls, dd, data, sl⟩, ho, hc, n, hd⟩ := id hl
  obtain ⟨⟨cls2, dd2, data2, sl2⟩, ho2, hc2, n2, hd2⟩ := id hb
  simp only at hc hd hc2 hd2
  subst hc hd hc2 hd2
  exact call_meets F.slot_tuple_lt ⟨_, ho, rfl⟩ F.entry_tuple_lt (F.args_tuple_lt_2 _ _) (tuple_ltAt l b items items2 n n2 dd dd2 sl sl2 e r) ⟨ho, ho2, he, hr, h⟩
theorem oneLt_tuple {xs ys : List PyData} {a b : Value} {as bs : List Addr} {Q : Bool → Shared → Prop} (ra : Reads s.heap a (.tuple xs) as) (rb : Reads s.heap b (.tuple ys) bs) (h : alike (.tuple xs) (.tuple ys) = true)
    (hu : A.units + min (PyData.tuple xs).depth (PyData.tuple ys).depth < cLine) (hq : Q (dataLt (.tuple xs) (.tuple ys)) s) : wpAny (model prog w) A (oneLt' true a b) Q E s := by
  have hal : alikeAll xs ys = true := by simpa [alike] using h
  cases ra with
  | @tuple l o vs n _ as₁ h1 h2 h3 h4 =>
    cases rb with
    | @tuple l' o' vs' n' _ bs₁ k1 k2 k3 k4 =>
      have n1 : vs.size = xs.length := by simpa using PySem.SeqAt.ReadsAll.length _ _ _ h4
      have n2 : vs'.size = ys.length := by simpa using PySem.SeqAt.ReadsAll.length _ _ _ k4
      rw [dataLt_tuple, ← firstLt_toks xs ys hal, ← n1, ← n2] at hq
      rw [oneLt'_eq]
      simp only [if_true]
      refine wpAny_bind (wpAny_cRoomFor (room_here hu) ?_)
      refine wpAny_bind (wpAny_callSpecialIfBound?_slot (T := "tuple") ⟨_, h1, h2⟩ F.slot_tuple_lt (tuple_lt_call (e := pairEq xs ys) (r := fun j => dataLt (xs.getD j .none) (ys.getD j .none)) ⟨_, h1, h2, _, h3⟩ ⟨_, k1, k2, _, k3⟩ (fun j j1 j2 => ?_) (fun j j1 j2 hj => ?_) ?_))
      · have := eqAt_alikeAll xs ys A.in1 s vs.toList vs'.toList _ _ h4 k4 hal (room_in hu) j (by simpa using j1) (by simpa using j2)
        simpa using this
      · have := rcLt_alikeAll xs ys A.in1 s vs.toList vs'.toList _ _ h4 k4 hal (room_in hu) j (by simpa using j1) (by simpa using j2) hj
        simpa using this
      · exact wpAny_truthy_bool hq
end
section
variable {M : Model} {A : Around} {E : Value → Shared → Prop} {s : Shared}
/-- the first items, where the values read as tuples -/
theorem firsts_tup : ∀ (vs : List Value) (ds : List PyData) {Q : List (Option Value) → Shared → Prop}, EachIs (fun v d => ∃ as, Reads s.heap v d as) vs ds → (∀ d ∈ ds, ∃ xs, d = .tuple xs) →
    (∀ fs : List (Option Value), EachIs (fun f d => ∃ xs, d = PyData.tuple xs ∧ f.isSome = !xs.isEmpty) fs ds → Q fs s) → wpAny M A (vs.mapM firstOfTuple') Q E s
  | _, _, _, .nil, _, h => by rw [List.mapM_nil]; exact wpAny_pure (h _ .nil)
  | _, _, Q, .cons (a := v) (b := d) (as := vs) (bs := ds) ⟨as, r⟩ t, ht, h => by
    obtain ⟨xs, rfl⟩ := ht d List.mem_cons_self
    cases r with
    | @tuple l o us n _ as₁ h1 h2 h3 h4 =>
      rw [List.mapM_cons]
      refine wpAny_bind ?_
      rw [kas_first_eq]
      refine wpAny_bind (Looks.here (show Looks M s.heap (typeOf (.ref l)) o.cls from (Looks.ld h1).andThen .now) ?_)
      rw [h2, if_neg (by first | decide | simp)]
      refine wpAny_bind (listItems_at h1 h3 (wpAny_pure ?_))
      refine wpAny_bind (firsts_tup vs ds (Q := fun bs s' => wpAny M A (pure (us[0]? :: bs)) Q E s') t (fun d hd => ht d (List.mem_cons_of_mem _ hd)) fun fs hfs => wpAny_pure (h _ (.cons ⟨xs, rfl, ?_⟩ hfs)))
      have n1 : us.size = xs.length := by simpa using PySem.SeqAt.ReadsAll.length _ _ _ h4
      cases xs with
      | nil =>
        have : us[0]? = none := by rw [Array.getElem?_eq_none_iff, n1]; simp
        rw [this]; rfl
      | cons x xs =>
        have : us[0]? = some (us[0]'(by rw [n1]; simp)) := Array.getElem?_eq_getElem _
        rw [this]; rfl
end
section
variable {prog : Program} {w : World} {A : Around} {s : Shared}
theorem eachIs_all {fs : List (Option Value)} {ds : List PyData} (h : EachIs (fun f d => ∃ xs, d = PyData.tuple xs ∧ f.isSome = !xs.isEmpty) fs ds) (hn : ∃ d ∈ ds, d = PyData.tuple []) : fs.all (·.isSome) = false := by
  induction h with
  | nil => obtain ⟨d, h, _⟩ := hn; cases h
  | @cons a b as bs h t ih =>
    obtain ⟨d, hd, e⟩ := hn
    rcases List.mem_cons.mp hd with q | q
    · subst q
      obtain ⟨xs, e1, e2⟩ := h
      rw [e] at e1
      cases e1
      simp [List.all_cons, e2]
    · rw [List.all_cons, ih ⟨d, q, e⟩, Bool.and_false]
/-- tuples, one of them without items -/
theorem sortsAt_tups {vs : List Value} {ds : List PyData} (e : EachIs (fun v d => ∃ as, Reads s.heap v d as) vs ds) (hal : AllAlike ds) (ht : ∀ d ∈ ds, ∃ xs, d = .tuple xs) (hn : ∃ d ∈ ds, d = PyData.tuple []) (hu : ∀ d, d ∈ ds → A.units + d.depth < cLine) : SortsAt prog w A s (dataKind s.heap ds) vs := by
  have room : ∀ {d d' : PyData}, d ∈ ds → A.units + min d.depth d'.depth < cLine := fun {d d'} hd => Nat.lt_of_le_of_lt (Nat.add_le_add_left (Nat.min_le_left _ _) _) (hu d hd)
  refine ⟨fun v hv => ?_, ?_⟩
  · obtain ⟨d, hd, as, r⟩ := e.left v hv
    exact ⟨_, dataKind_some hal hd r⟩
  · have oneT : H.LtAt prog w A s (dataKind s.heap ds) oneType' := by
      intro E x y a b Q ha hb hq
      obtain ⟨d, as, hd, ra, rfl⟩ := dataKind_inv ha
      obtain ⟨d', as', hd', rb, rfl⟩ := dataKind_inv hb
      rw [keyLt'_oneType]
      obtain ⟨xs, rfl⟩ := ht d hd
      obtain ⟨ys, rfl⟩ := ht d' hd'
      exact oneLt_tuple ra rb (hal _ hd _ hd') (room hd) hq
    have genT : H.LtAt prog w A s (dataKind s.heap ds) general' := by
      intro E x y a b Q ha hb hq
      obtain ⟨d, as, hd, ra, rfl⟩ := dataKind_inv ha
      obtain ⟨d', as', hd', rb, rfl⟩ := dataKind_inv hb
      show wpAny (model prog w) A (oneLt' false x y) Q E s
      obtain ⟨xs, rfl⟩ := ht d hd
      exact oneLt_alike (fun h => by cases h) ra rb (hal _ hd _ hd') (by simp) (room hd) hq
    -- which kind: by the first value
    by_cases hf : ∃ x r rest, ds = PyData.tuple (x :: r) :: rest
    · refine ⟨general', genT, fun h2 E Q hq => ?_⟩
      rw [kat_kind_eq, List.mapM_toArray, map_eq_pure_bind]
      refine wpAny_bind (wpAny_bind (firsts_tup vs ds e ht fun fs hfs => wpAny_pure ?_))
      have hall := eachIs_all hfs hn
      rw [if_neg (by simp only [List.all_toArray, hall]; decide)]
      obtain ⟨x, r, rest, rfl⟩ := hf
      cases hfs with
      | cons h t =>
        obtain ⟨zs, e1, e2⟩ := h
        cases e1
        rename_i f fs'
        have : ((f :: fs').toArray[0]?.bind id).isSome = true := by simpa using e2
        rw [if_pos this]
        exact wpAny_pure hq
    · refine ⟨oneType', oneT, fun h2 E Q hq => ?_⟩
      rw [kat_kind_eq, List.mapM_toArray, map_eq_pure_bind]
      refine wpAny_bind (wpAny_bind (firsts_tup vs ds e ht fun fs hfs => wpAny_pure ?_))
      have hall := eachIs_all hfs hn
      rw [if_neg (by simp only [List.all_toArray, hall]; decide)]
      have h0 : (fs.toArray[0]?.bind id).isSome = false := by
        cases hfs with
        | nil => rfl
        | cons h t =>
          obtain ⟨zs, e1, e2⟩ := h
          subst e1
          cases zs with
          | nil => simpa using e2
          | cons x r => exact absurd ⟨x, r, _, rfl⟩ hf
      rw [if_neg (by rw [h0]; decide)]
      rw [oneTypeOnly'_eq, List.mapM_toArray, map_eq_pure_bind]
      refine wpAny_bind (wpAny_bind (wpAny_bind (kas_mapM (r := Value.type "tuple") _ (fun v hv Q' hq' => ?_) (wpAny_pure ?_))))
      · obtain ⟨d, hd, as, r⟩ := e.left v hv
        obtain ⟨xs, rfl⟩ := ht d hd
        exact (looks_reads r).here hq'
      · have hall2 : ((List.map (fun _ => Value.type "tuple") vs).toArray.all fun x => x == Value.type "tuple") = true := by
          simp only [List.all_toArray, List.all_map, List.all_eq_true]
          intro _ _
          rfl
        obtain ⟨v₁, v₂, rest, rfl⟩ : ∃ v₁ v₂ rest, vs = v₁ :: v₂ :: rest := by
          match vs, h2 with
          | [], h2 => simp at h2
          | [_], h2 => simp at h2
          | v₁ :: v₂ :: rest, _ => exact ⟨v₁, v₂, rest, rfl⟩
        have h1 : (List.map (fun _ => Value.type "tuple") (v₁ :: v₂ :: rest)).toArray[0]? = some (Value.type "tuple") := by simp
        rw [h1]
        simp only [hall2, if_true]
        exact wpAny_pure (wpAny_pure hq)
/-- all tuples, or none a tuple or None -/
def Srt (ds : List PyData) : Prop := (∀ d ∈ ds, ∃ xs, d = .tuple xs) ∨ ∀ d, d ∈ ds → d ≠ .none ∧ ∀ xs, d ≠ .tuple xs
theorem sortsAt {vs : List Value} {ds : List PyData} (e : EachIs (fun v d => ∃ as, Reads s.heap v d as) vs ds) (hal : AllAlike ds) (hk : Srt ds) (hu : ∀ d, d ∈ ds → A.units + d.depth < cLine) : SortsAt prog w A s (dataKind s.heap ds) vs := by
  rcases hk with ht | ho
  · by_cases hn : ∃ d ∈ ds, d = PyData.tuple []
    · exact sortsAt_tups e hal ht hn hu
    · refine SortsAt.data e hal (.inl fun d hd => ?_) hu
      obtain ⟨xs, rfl⟩ := ht d hd
      cases xs with
      | nil => exact absurd ⟨_, hd, rfl⟩ hn
      | cons x r => exact ⟨x, r, rfl⟩
  · exact SortsAt.data e hal (.inr ho) hu
section
variable {E : Value → Shared → Prop} {β : Type} {vs : List Value} {bs : List β} {enc : β → PyData} {R : Value → β → Prop}
theorem sorted_any {l : Addr} {Q : Value → Shared → Prop} (hl : s.heap.IsList l vs.toArray) (e : EachIs R vs bs) (er : EachIs (fun v b => ∃ as, Reads s.heap v (enc b) as) vs bs) (hal : AllAlike (bs.map enc)) (hk : Srt (bs.map enc)) (hL : bs.length ≤ sizeLine)
    (hu : ∀ b, b ∈ bs → A.units + 2 + (enc b).depth < cLine) (h : ∀ out, out.length = bs.length → EachIs R out (bs.mergeSort (dataLe false enc)) → Q (.ref (s.heap.objs.size + 1)) { s with heap := sortedAll s.heap vs (List.toArray out) }) :
    wpAny (model prog w) A (call (.builtin "sorted") [.ref l]) Q E s := by
  have er' : EachIs (fun v b => ∃ as, Reads (sortingHeap (copyHeap s.heap vs) (s.heap.objs.size + 1) vs) v (enc b) as) vs bs := er.mono fun _ _ ⟨as, r⟩ => ⟨as, PyProof.Rows.Reads.keeps (fun _ _ => sorting_copy_old) r⟩
  exact sorted_vals hl (sortsAt (s := { s with heap := sortingHeap (copyHeap s.heap vs) (s.heap.objs.size + 1) vs }) (each_map (R := fun v d => ∃ as, Reads (sortingHeap (copyHeap s.heap vs) (s.heap.objs.size + 1) vs) v d as) enc er') hal hk (bound_map hu)) (by rw [e.length]; exact hL)
    (h _ (by rw [sortVals_length false rfl]; exact e.length) (sortVals_data false e er' hal))
theorem sorted_anyR {l : Addr} {b : Bool} {Q : Value → Shared → Prop} (hl : s.heap.IsList l vs.toArray) (e : EachIs R vs bs) (er : EachIs (fun v b => ∃ as, Reads s.heap v (enc b) as) vs bs) (hal : AllAlike (bs.map enc)) (hk : Srt (bs.map enc)) (hL : bs.length ≤ sizeLine)
    (hu : ∀ b, b ∈ bs → A.units + 2 + (enc b).depth < cLine) (h : ∀ out, out.length = bs.length → EachIs R out (bs.mergeSort (dataLe b enc)) → Q (.ref (s.heap.objs.size + 1)) { s with heap := sortedAll s.heap vs (List.toArray out) }) :
    wpAny (model prog w) A (call (.builtin "sorted") [.ref l] [(Str.ofString "reverse", .bool b)]) Q E s := by
  have er' : EachIs (fun v b => ∃ as, Reads (sortingHeap (copyHeap s.heap vs) (s.heap.objs.size + 1) vs) v (enc b) as) vs bs := er.mono fun _ _ ⟨as, r⟩ => ⟨as, PyProof.Rows.Reads.keeps (fun _ _ => sorting_copy_old) r⟩
  exact sorted_rev_vals hl (sortsAt (s := { s with heap := sortingHeap (copyHeap s.heap vs) (s.heap.objs.size + 1) vs }) (each_map (R := fun v d => ∃ as, Reads (sortingHeap (copyHeap s.heap vs) (s.heap.objs.size + 1) vs) v d as) enc er') hal hk (bound_map hu)) (by rw [e.length]; exact hL)
    (h _ (by rw [sortVals_length b rfl]; exact e.length) (sortVals_data b e er' hal))
end
end
end AG
/-! AgM: sorted. -/
namespace AG
open PySem L2

def sortD (rev : Bool) (ds : List D) : List D := ds.mergeSort fun a b => cond rev (!D.lt a b) (!D.lt b a)
def D.isTup : D → Bool | .tup _ => true | _ => false
def srtOk (ds : List D) : Bool := ds.all (D.sm 60) && (ds.all fun d => ds.all fun e => D.alike d e) && (ds.all D.isTup || ds.all fun d => !d.isTup && !d.isNon) && decide (ds.length ≤ 16777216)
def fSorted (rev : Bool) : LOp := fun ds => match ds with
  | [.lst xs] => if srtOk xs = true then M.pure (.lst (sortD rev xs)) else M.bad
  | _ => M.bad
def rSrt (K : PySem.W.Frag) (rev : Bool) : List V → Hp → VK → Prop := fun xs H Q => ∃ (a : Addr) (ps : List (V × D)), xs = [V.ref a] ∧ SqL K H a (ps.map Prod.fst) ∧ (∀ p ∈ ps, Dp K H p.1 p.2.toPy) ∧ srtOk (ps.map Prod.snd) = true ∧
  ∀ l, H l = none → Q (.ref l) (upd H l (.lst ((ps.mergeSort fun a b => cond rev (!D.lt a.2 b.2) (!D.lt b.2 a.2)).map Prod.fst)))
theorem each_vals {s : Shared} {us : List Value} {ps : List (V × D)} : ∀ {ps : List (V × D)} {us : List Value}, Vals (ps.map Prod.fst) us → PySem.W.EachIs (fun v p => RelV p.1 v) us ps
  | [], us, h => by cases h; exact .nil
  | p :: ps, us, h => by
    cases h with
    | cons a b => exact .cons a (each_vals (s := s) (us := us) (ps := ps) b)
theorem vals_each : ∀ {ps : List (V × D)} {us : List Value}, PySem.W.EachIs (fun v (p : V × D) => RelV p.1 v) us ps → Vals (ps.map Prod.fst) us
  | _, _, .nil => .nil
  | _, _, .cons h t => .cons h (vals_each t)
theorem each_reads {X : Cx} {pins : List (Addr × Obj)} {σ : St} {H : Hp} {s : Shared} (I : Inv X pins σ H s) : ∀ {ps : List (V × D)} {us : List Value}, Vals (ps.map Prod.fst) us → (∀ p ∈ ps, Dp X.K H p.1 p.2.toPy) → PySem.W.EachIs (fun v p => ∃ as, Reads s.heap v p.2.toPy as) us ps
  | [], us, h, _ => by cases h; exact .nil
  | p :: ps, us, h, hd => by
    cases h with
    | cons a b => exact .cons (Dp.reads I _ _ _ (hd p List.mem_cons_self) a) (each_reads I b fun q hq => hd q (List.mem_cons_of_mem _ hq))
theorem srt_of {ps : List (V × D)} (h : srtOk (ps.map Prod.snd) = true) : PySem.W.AllAlike (ps.map fun p => p.2.toPy) ∧ Srt (ps.map fun p => p.2.toPy) ∧ ps.length ≤ sizeLine ∧ ∀ p ∈ ps, p.2.toPy.depth ≤ 60 := by
  simp only [srtOk, Bool.and_eq_true, Bool.or_eq_true, List.all_eq_true, decide_eq_true_eq, List.length_map] at h
  obtain ⟨⟨⟨h1, h2⟩, h3⟩, h4⟩ := h
  refine ⟨fun d hd d' hd' => ?_, ?_, by rw [sizeLine_lit]; exact h4, fun p hp => sm_depth (h1 _ (List.mem_map_of_mem hp))⟩
  · obtain ⟨p, hp, rfl⟩ := List.mem_map.mp hd
    obtain ⟨q, hq, rfl⟩ := List.mem_map.mp hd'
    exact h2 _ (List.mem_map_of_mem hp) _ (List.mem_map_of_mem hq)
  · rcases h3 with h3 | h3
    · refine .inl fun d hd => ?_
      obtain ⟨p, hp, rfl⟩ := List.mem_map.mp hd
      have := h3 _ (List.mem_map_of_mem hp)
      cases q : p.2 <;> rw [q] at this <;> simp [D.isTup] at this
      exact ⟨_, rfl⟩
    · refine .inr fun d hd => ?_
      obtain ⟨p, hp, rfl⟩ := List.mem_map.mp hd
      have := h3 _ (List.mem_map_of_mem hp)
      cases q : p.2 <;> rw [q] at this <;> simp [D.isTup, D.isNon, D.toPy] at this ⊢
section
variable {X : Cx}
theorem cr_srt (hu : X.A.units + 66 < cLine) : CallR X (.builtin "sorted") (rSrt X.K false) := by
  intro pins s σ H xs us Q I r h
  obtain ⟨a, ps, rfl, hs, hd, ok, q⟩ := h
  obtain ⟨its, rv, hl, hz⟩ := I.list hs
  rw [Vals.ref1 r]
  obtain ⟨o1, o2, o3, o4⟩ := srt_of ok
  refine sorted_any (R := fun v (p : V × D) => RelV p.1 v) (enc := fun p : V × D => p.2.toPy) (bs := ps) hl.isList (each_vals (s := s) (us := its) (ps := ps) rv) (each_reads I rv hd) o1 o2 o3 (fun p hp => by have := o4 p hp; omega) fun out hlen e => ?_
  have e := vals_each e
  obtain ⟨ep, he'⟩ := PyProof.Rows.sortedAll_at s.heap its out.toArray
  have hz2 : ((ps.mergeSort fun a b => cond false (!D.lt a.2 b.2) (!D.lt b.2 a.2)).map Prod.fst).length ≤ sizeLine := by rw [List.length_map, List.length_mergeSort]; exact o3
  exact ⟨.ref _, upd H (s.heap.objs.size + 1) (.lst ((ps.mergeSort fun a b => cond false (!D.lt a.2 b.2) (!D.lt b.2 a.2)).map Prod.fst)), I.laid (t' := s.toks) (fun _ _ => PyProof.Rows.sortedAll_old) (Nat.le_succ _) ⟨hz2, out, ep, e, he'⟩, rfl, q _ (I.hok.fresh (Nat.le_succ _))⟩
theorem cr_srtR (hu : X.A.units + 66 < cLine) : CallRK X (.builtin "sorted") [Str.ofString "reverse"] (fun xs zs H Q => ∃ b, zs = [.bl b] ∧ rSrt X.K b xs H Q) := by
  intro pins s σ H xs zs us ws Q I r rz h
  obtain ⟨b, rfl, a, ps, rfl, hs, hd, ok, q⟩ := h
  obtain ⟨its, rv, hl, hz⟩ := I.list hs
  rw [Vals.ref1 r]
  obtain ⟨bv, rfl, rb⟩ := rz.one
  cases rb
  obtain ⟨o1, o2, o3, o4⟩ := srt_of ok
  refine sorted_anyR (R := fun v (p : V × D) => RelV p.1 v) (enc := fun p : V × D => p.2.toPy) (bs := ps) hl.isList (each_vals (s := s) (us := its) (ps := ps) rv) (each_reads I rv hd) o1 o2 o3 (fun p hp => by have := o4 p hp; omega) fun out hlen e => ?_
  have e := vals_each e
  obtain ⟨ep, he'⟩ := PyProof.Rows.sortedAll_at s.heap its out.toArray
  have hz2 : ((ps.mergeSort fun a c => cond b (!D.lt a.2 c.2) (!D.lt c.2 a.2)).map Prod.fst).length ≤ sizeLine := by rw [List.length_map, List.length_mergeSort]; exact o3
  exact ⟨.ref _, upd H (s.heap.objs.size + 1) (.lst ((ps.mergeSort fun a c => cond b (!D.lt a.2 c.2) (!D.lt c.2 a.2)).map Prod.fst)), I.laid (t' := s.toks) (fun _ _ => PyProof.Rows.sortedAll_old) (Nat.le_succ _) ⟨hz2, out, ep, e, he'⟩, rfl, q _ (I.hok.fresh (Nat.le_succ _))⟩
end
theorem RpAll.zip {K : PySem.W.Frag} {w : Wd} : ∀ {vs : List V} {ds : List D}, RpAll K w vs ds → (∀ p ∈ vs.zip ds, Rp K w p.1 p.2) ∧ (vs.zip ds).map Prod.fst = vs ∧ (vs.zip ds).map Prod.snd = ds
  | _, _, .nil => ⟨fun p h => (by cases h), rfl, rfl⟩
  | _, _, .cons h r => by
    obtain ⟨a, b, c⟩ := RpAll.zip r
    refine ⟨fun p hp => ?_, by simp [b], by simp [c]⟩
    rcases List.mem_cons.mp hp with e | e
    · subst e; exact h
    · exact a p e
theorem RpAll.of_zip {K : PySem.W.Frag} {w : Wd} : ∀ {ps : List (V × D)}, (∀ p ∈ ps, Rp K w p.1 p.2) → RpAll K w (ps.map Prod.fst) (ps.map Prod.snd)
  | [], _ => .nil
  | p :: ps, h => .cons (h p List.mem_cons_self) (RpAll.of_zip fun q hq => h q (List.mem_cons_of_mem _ hq))
theorem sorted_one {rev : Bool} {ds : List D} {mh : MH} {Q : D → MH → Prop} {E : Nat → MH → Prop} (h : wpR (fSorted rev ds mh) Q E) : ∃ xs, ds = [.lst xs] := by
  unfold fSorted at h
  split at h
  · exact ⟨_, rfl⟩
  · exact h.elim
theorem srt_read {K : PySem.W.Frag} {ca : Nat → Addr} {W : WX} {σ : St} {w : Wd} {mh : MH} {rev : Bool} {v : V} {xs : List D} {Q : VK} (hw : WOk K ca w mh) (r : Rp K w v (.lst xs)) (hp : Post K ca W σ w (fSorted rev [.lst xs] mh) Q) : rSrt K rev [v] w.H Q := by
  cases r with
  | lst h1 h2 =>
    rename_i a vs
    by_cases c : srtOk xs = true
    · simp only [fSorted, c, if_true] at hp
      obtain ⟨z1, z2, z3⟩ := h2.zip
      refine ⟨a, vs.zip xs, rfl, by rw [z2]; exact .of (hw.subL _ _ h1), fun p hp' => (z1 p hp').dp (n := 60) hw.subs ?_, by rw [z3]; exact c, fun l hl => ?_⟩
      · have c1 : xs.all (D.sm 60) = true := by
          simp only [srtOk, Bool.and_eq_true] at c
          exact c.1.1.1
        refine all_sm c1 _ ?_
        have := List.mem_map_of_mem (f := Prod.snd) hp'
        rwa [z3] at this
      · refine PostG.lst (ds := sortD rev xs) hp hw ?_ l hl
        have e : sortD rev xs = ((vs.zip xs).mergeSort fun a b => cond rev (!D.lt a.2 b.2) (!D.lt b.2 a.2)).map Prod.snd := by
          rw [List.map_mergeSort (s := fun a b => cond rev (!D.lt a b) (!D.lt b a)) (fun _ _ _ _ => rfl), z3]
          rfl
        rw [e]
        exact RpAll.of_zip fun p hp' => z1 p (List.mem_mergeSort.mp hp')
    · simp only [fSorted, c] at hp; exact hp.elim
section
variable {X : Cx} {ca : Nat → Addr} {W : WX} {e : Expr} {es : List Expr} {ms : Env → M (List D)} {p pos : Pos} {k : Nat}
theorem me_sorted (hr : Room k X.A) (hm : X.mg "sorted" = none) (ha : MA X ca W (e :: es) ms) (hg : Gl X "sorted" := by rfl) (he : starEach (e :: es) X.env = (false, eval e X.env) :: starEach es X.env := by rfl) (hpl : (backTo pos (starEach es X.env)).any (·.1) = false := by rfl) : ME X ca W (.Call (.Name "sorted" p) (e :: es) [] pos) (mCall (fSorted false) ms) :=
  PE.mono (pe_callB (cr_srt (hu66 hr)) hg hm (by decide +kernel) ha (by decide) (by decide) he hpl) fun σ H Q h => by
    obtain ⟨w, mh, env, rfl, hw, hfr, hp⟩ := h
    refine stepG (rep := repA X.K) hw hfr hp fun w1 mh1 v1 d1 x1 hw1 hf1 r1 hp1 => ?_
    have r1 : RpAll X.K w1 v1 d1 := r1
    obtain ⟨xs, rfl⟩ := sorted_one hp1
    obtain ⟨x, rfl, q⟩ := r1.one
    exact srt_read hw1 q hp1
/-- sorted(e, reverse=True) -/
theorem me_sortedR {b : Bool} {j : Nat} {p2 kp : Pos} (hr : Room k X.A) (hm : X.mg "sorted" = none) (ha : MA X ca W [e] ms) (hg : Gl X "sorted" := by rfl)
    (he : backTo pos (starEach [e] X.env) = (false, eval e X.env) :: backTo pos (starEach [] X.env) := by rfl) (hpl : (backTo pos (starEach [e] X.env)).any (·.1) = false := by rfl)
    (hall : (backToKw pos (keywordEach [⟨some "reverse", .Constant (.bool b) j p2, kp⟩] X.env)).all (·.1.isSome) = true := by rfl) (hnone : (backToKw pos (keywordEach [⟨some "reverse", .Constant (.bool b) j p2, kp⟩] X.env)).any (·.1.isNone) = false := by rfl)
    (hks : (backToKw pos (keywordEach [⟨some "reverse", .Constant (.bool b) j p2, kp⟩] X.env)).filterMap (·.1) = [Str.ofString "reverse"] := by rfl) :
    ME X ca W (.Call (.Name "sorted" p) [e] [⟨some "reverse", .Constant (.bool b) j p2, kp⟩] pos) (mCall (fSorted b) ms) :=
  PE.mono (pe_callBK (cr_srtR (hu66 hr)) hg hm (by decide +kernel) ha (pk_cons pe_bl pk_nil) (by decide) (by decide) he hpl hall hnone hks) fun σ H Q h => by
    obtain ⟨w, mh, env, rfl, hw, hfr, hp⟩ := h
    refine stepG (rep := repA X.K) hw hfr hp fun w1 mh1 v1 d1 x1 hw1 hf1 r1 hp1 => ?_
    have r1 : RpAll X.K w1 v1 d1 := r1
    obtain ⟨xs, rfl⟩ := sorted_one hp1
    obtain ⟨x, rfl, q⟩ := r1.one
    exact ⟨b, rfl, srt_read hw1 q hp1⟩
end
end AG
/-! AgN: explicit objects, the stream. -/
namespace AG
open PySem L2

theorem nodup_inj {α : Type} : ∀ {l : List α} {i j : Nat} {a : α}, l.Nodup → l[i]? = some a → l[j]? = some a → i = j
  | [], _, _, _, _, h, _ => by simp at h
  | x :: l, 0, 0, _, _, _, _ => rfl
  | x :: l, 0, j + 1, a, n, h1, h2 => by
    simp at h1 h2
    subst h1
    exact absurd (List.mem_of_getElem? h2) (List.nodup_cons.mp n).1
  | x :: l, i + 1, 0, a, n, h1, h2 => by
    simp at h1 h2
    subst h2
    exact absurd (List.mem_of_getElem? h1) (List.nodup_cons.mp n).1
  | x :: l, i + 1, j + 1, a, n, h1, h2 => by
    simp at h1 h2
    rw [nodup_inj (List.nodup_cons.mp n).2 h1 h2]
section
variable {K : PySem.W.Frag} {ca : Nat → Addr} {w : Wd} {mh : MH}
/-- an explicit object is written -/
theorem Ext.obj {a : Addr} {o : HO} (hr : a ∈ w.ρ) : Ext w (w.put a o) := by
  refine ⟨⟨[], by simp [Wd.put], by simp⟩, fun _ _ h => h, fun _ _ h => h, fun b u h hb => ?_, fun _ _ h => .inl h, fun _ _ h => .inl h, fun b h => ?_⟩
  · show upd w.H a o b = some u
    rw [upd_ne (fun e => hb (by rw [e]; exact hr))]
    exact h
  · have h : upd w.H a o b = none := h
    by_cases e : b = a
    · subst e; rw [upd_same] at h; cases h
    · rw [upd_ne e] at h; exact h
theorem WOk.obj' (hw : WOk K ca w mh) {n : Nat} {a : Addr} {o : HO} {mo : MO} (hn : w.ρ[n]? = some a) (hk : MOk K ca (w.put a o) a mo) : WOk K ca (w.put a o) (mh.set n mo) := by
  obtain ⟨mo0, e0, hF, hL, h0⟩ := hw.at hn
  refine ⟨fun b u h => ?_, fun b xs h => ?_, by simpa [Wd.put] using hw.len, hw.nd, fun m b mo' h1 h2 => ?_⟩
  · show upd w.H a o b = some u
    rw [upd_ne (fun e => by subst e; have h : w.F b = some u := h; rw [hF] at h; cases h)]
    exact hw.sub _ _ h
  · show upd w.H a o b = some (.lst xs)
    rw [upd_ne (fun e => by subst e; have h : w.L b = some xs := h; rw [hL] at h; cases h)]
    exact hw.subL _ _ h
  · rw [getElem?_setS] at h2
    have h1 : w.ρ[m]? = some b := h1
    by_cases e : n = m
    · subst e
      rw [hn] at h1
      cases h1
      rw [if_pos rfl] at h2
      split at h2
      · cases h2
        exact ⟨hF, hL, hk⟩
      · cases h2
    · rw [if_neg e] at h2
      obtain ⟨f, l, q⟩ := hw.obj m b mo' h1 h2
      have ab : b ≠ a := fun z => by
        subst z
        have h1' := hn
        exact e (nodup_inj hw.nd h1' h1)
      refine ⟨f, l, ?_⟩
      have hb : ∀ u, w.H b = some u → (w.put a o).H b = some u := fun u h => by
        show upd w.H a o b = some u
        rw [upd_ne ab]; exact h
      exact q.grow hb put_grow
/-- a new explicit object -/
def Wd.new (w : Wd) (p : Addr) (o : HO) : Wd := ⟨w.ρ ++ [p], w.F, w.L, upd w.H p o⟩
theorem Ext.new {p : Addr} {o : HO} (hp : w.H p = none) : Ext w (w.new p o) :=
  ⟨⟨[p], rfl, fun a h => by rw [List.mem_singleton.mp h]; exact hp⟩, fun _ _ h => h, fun _ _ h => h, fun b u h _ => upd_some hp h, fun _ _ h => .inl h, fun _ _ h => .inl h, th_upd hp⟩
theorem WOk.new (hw : WOk K ca w mh) {p : Addr} {o : HO} {mo : MO} (hp : w.H p = none) (hk : MOk K ca (w.new p o) p mo) : WOk K ca (w.new p o) (mh ++ [mo]) := by
  refine ⟨fun a u h => upd_some hp (hw.sub _ _ h), fun a xs h => upd_some hp (hw.subL _ _ h), by simp [Wd.new, hw.len], ?_, fun m b mo' h1 h2 => ?_⟩
  · show (w.ρ ++ [p]).Nodup
    rw [List.nodup_append]
    exact ⟨hw.nd, by simp, fun a ha b hb => by rw [List.mem_singleton.mp hb]; exact fun e => hw.nrho hp (e ▸ ha)⟩
  · have h1 : (w.ρ ++ [p])[m]? = some b := h1
    rcases Nat.lt_trichotomy m w.ρ.length with l | l | l
    · rw [List.getElem?_append_left l] at h1
      rw [List.getElem?_append_left (by rw [← hw.len]; exact l)] at h2
      obtain ⟨f, l', q⟩ := hw.obj m b mo' h1 h2
      exact ⟨f, l', q.grow (fun u z => upd_some hp z) (Ext.new hp).grow⟩
    · subst l
      rw [List.getElem?_append_right (Nat.le_refl _)] at h1
      rw [hw.len, List.getElem?_append_right (Nat.le_refl _)] at h2
      simp at h1 h2
      subst h1 h2
      exact ⟨hw.fnone hp, hw.lnone hp, hk⟩
    · rw [List.getElem?_eq_none (by simp; omega)] at h1; cases h1
end

/-! ### explicit lists -/
def mNewLst (ms : Env → M (List D)) : Env → M D := fun env => M.bind (ms env) fun xs => if xs.length ≤ 16777216 then fun h => .ok (.ref h.length) (h ++ [.lst xs]) else M.bad
def setIxM (v d j : D) : M Unit := match d, j with
  | .ref n, .int k => fun h => match h[n]? with
    | some (.lst xs) => match ixN xs.length k with | some t => .ok () (h.set n (.lst (xs.set t v))) | none => .bad
    | _ => .bad
  | _, _ => M.bad
def mSetIx (o i e : Env → M D) : Env → M Fl := fun env => M.bind (e env) fun v => M.bind (o env) fun d => M.bind (i env) fun j => M.bind (setIxM v d j) fun _ => M.pure (.nx env)
def mSetIxOwn (x : Nat) (i e : Env → M D) : Env → M Fl := fun env => match env[x]? with
  | some (.own _) => M.bind (e env) fun v => M.bind (i env) fun j => match env[x]?, j with
    | some (.own ds), .int k => match ixN ds.length k with | some t => M.pure (.nx (env.set x (.own (ds.set t v)))) | none => M.bad
    | _, _ => M.bad
  | _ => M.bad
section
variable {X : Cx} {ca : Nat → Addr} {W : WX} {n : Nat} {es : List Expr} {ms : Env → M (List D)} {o i e : Expr} {mo mi me : Env → M D} {pos pos' : Pos} {x : Str}
theorem me_newLst (h : MA X ca W es ms) : ME X ca W (.List es pos) (mNewLst ms) :=
  PE.mono (pe_lst h) fun σ H Q h => by
    obtain ⟨w, mh, env, rfl, hw, hf, hp⟩ := h
    refine stepG (rep := repA X.K) hw hf hp fun w1 mh1 v1 d1 x1 hw1 hf1 r1 hp1 => ?_
    have r1 : RpAll X.K w1 v1 d1 := r1
    by_cases q : d1.length ≤ 16777216
    · simp only [q, if_true] at hp1
      refine ⟨by rw [r1.length, sizeLine_lit]; exact q, fun p hp => ?_⟩
      refine hp1 (w1.new p (.lst v1)) (.ref p) (Ext.new hp) (hw1.new hp ⟨v1, upd_same, r1.mono (Ext.new hp).grow⟩) (.ref ?_)
      show (w1.ρ ++ [p])[mh1.length]? = some p
      rw [← hw1.len]
      simp
    · simp only [q, if_false] at hp1; exact hp1.elim
theorem ms_setIx (he : ME X ca W e me) (ho : ME X ca W o mo) (hi : ME X ca W i mi)
    (ha : ∀ v, assign (.Subscript o i pos') X.env v = (do
      let ov ← holding [v] (eval o X.env)
      let iv ← holding [v, ov] (eval i X.env)
      standAt pos'
      holding [v, ov, iv] (setItem ov iv v)
      release [v, ov, iv] []) := by intro _; rfl)
    (hs : swapsWithSole [.Subscript o i pos'] e pos.line X.env = pure false := by rfl) (hw : swappedStores [.Subscript o i pos'] e X.env = pure none := by rfl) (h1 : (assignEach [.Subscript o i pos'] X.env).map (·.2) = [assign (.Subscript o i pos') X.env] := by rfl) :
    MS X ca W n (.Assign [.Subscript o i pos'] e pos) (mSetIx mo mi me) := PS.mono (ps_asg he (pg_sub ho hi set_list ha) hs hw h1) fun D' σ H h => by
  obtain ⟨w0, w, mh, env, rfl, hw, s, hp⟩ := h
  refine stepS (rep := repV X.K) hw s hp fun w1 mh1 v1 d1 x1 hw1 s1 r1 hp1 => ?_
  refine stepS (rep := repV X.K) hw1 s1 hp1 fun w2 mh2 v2 d2 x2 hw2 s2 r2 hp2 => ?_
  refine stepS (rep := repV X.K) hw2 s2 hp2 fun w3 mh3 v3 d3 x3 hw3 s3 r3 hp3 => ?_
  have r1 : Rp X.K w3 v1 d1 := x3.rp (x2.rp r1)
  have r2 : Rp X.K w3 v2 d2 := x3.rp r2
  cases r2 with
  | ref h2 =>
    rename_i a m
    cases r3 with
    | int k =>
      obtain ⟨mo', e1, _, _, hob⟩ := hw3.at h2
      cases mo' with
      | lst xs =>
        obtain ⟨vs, hH, rr⟩ := hob
        cases q : ixN xs.length k with
        | none => simp only [M.bind, setIxM, e1, q, R.bind] at hp3; exact hp3.elim
        | some t =>
          simp only [M.bind, setIxM, e1, q, R.bind, M.pure] at hp3
          refine ⟨a, vs, k, t, rfl, rfl, hH, by rw [rr.length]; exact q, ?_⟩
          have hm := List.mem_of_getElem? h2
          have x4 : Ext w3 (w3.put a (.lst (vs.set t v1))) := Ext.obj hm
          exact hp3 _ σ (s3.then x4) (x1.grow.trans (x2.grow.trans (x3.grow.trans x4.grow))) (hw3.obj' h2 ⟨_, upd_same, (rr.set r1 t).mono put_grow⟩)
      | stream => simp only [M.bind, setIxM, e1, R.bind] at hp3; exact hp3.elim
      | inst c fs => simp only [M.bind, setIxM, e1, R.bind] at hp3; exact hp3.elim
    | _ => exact hp3.elim
  | _ => first | exact hp3.elim | (cases r3 <;> exact hp3.elim)
theorem ms_setIxOwn (j : Nat) {p1 : Pos} (he : ME X ca W e me) (hi : ME X ca W i mi) (hN : X.N[j]? = some x := by rfl) (hv : Vis X.env.scope x := by first | exact Or.inl rfl | exact Or.inr (Or.inl rfl) | exact Or.inr (Or.inr rfl)) (hd : (x == ("__debug__" : Str)) = false := by decide)
    (hcd : (x == ("__classdict__" : Str)) = false := by decide)
    (ha : ∀ v, assign (.Subscript (.Name x p1) i pos') X.env v = (do
      let ov ← holding [v] (eval (.Name x p1) X.env)
      let iv ← holding [v, ov] (eval i X.env)
      standAt pos'
      holding [v, ov, iv] (setItem ov iv v)
      release [v, ov, iv] []) := by intro _; rfl)
    (hs : swapsWithSole [.Subscript (.Name x p1) i pos'] e pos.line X.env = pure false := by rfl) (hw : swappedStores [.Subscript (.Name x p1) i pos'] e X.env = pure none := by rfl) (h1 : (assignEach [.Subscript (.Name x p1) i pos'] X.env).map (·.2) = [assign (.Subscript (.Name x p1) i pos') X.env] := by rfl) :
    MS X ca W n (.Assign [.Subscript (.Name x p1) i pos'] e pos) (mSetIxOwn j mi me) := PS.mono (ps_asg he (pg_sub (pv j hN hv hd hcd) hi set_list ha) hs hw h1) fun D' σ H h => by
  obtain ⟨w0, w, mh, env, rfl, hw, s, hp⟩ := h
  cases q : env[j]? with
  | none => simp only [mSetIxOwn, q] at hp; exact hp.elim
  | some sl =>
    cases sl with
    | own ds =>
      simp only [mSetIxOwn, q] at hp
      refine stepS (rep := repV X.K) hw s hp fun w1 mh1 v1 d1 x1 hw1 s1 r1 hp1 => ?_
      obtain ⟨a, e1, o0⟩ := s1.fr.own j ds q
      refine ⟨_, e1, ?_⟩
      refine stepS (rep := repV X.K) hw1 s1 hp1 fun w2 mh2 v2 d2 x2 hw2 s2 r2 hp2 => ?_
      obtain ⟨a', e1', o1⟩ := s2.fr.own j ds q
      rw [e1] at e1'
      cases e1'
      obtain ⟨vs, hH, rr⟩ := o1.at'
      cases r2 <;> first | exact hp2.elim | skip
      rename_i k
      cases qi : ixN ds.length k with
      | none => simp only [qi] at hp2; exact hp2.elim
      | some t =>
        simp only [qi] at hp2
        refine ⟨a, vs, k, t, rfl, rfl, hH, by rw [rr.length]; exact qi, ?_⟩
        exact hp2 (w2.put a (.lst (vs.set t v1))) σ (s2.wr q e1 (rr.set (x2.rp r1) t)) ((x1.trans x2).grow.trans put_grow) (hw2.wr o1.nF o1.nL o1.nr)
    | _ => simp only [mSetIxOwn, q] at hp; exact hp.elim
end

/-! ### the stream -/
def strOk (y z : Int) : Bool := decide (0 ≤ y) && decide (0 ≤ z) && decide (z < 2147483647)
def strL (ns : List Int) (x y z : Int) : MO := .lst [.scr ns, .int x, .int y, .int z]
section
variable {P : Program} {pw : World} {K : PySem.W.Frag} {mg : Str → Option Value} {base : Heap} {ca : Nat → Addr} {k n : Nat} {x : Str} {f g : LOp}
theorem FnM.imp (F : FnM P pw K mg base ca k x n f) (h : ∀ (ds : List D) (mh : MH) (Q : D → MH → Prop) (E : Nat → MH → Prop), ds.length = n → wpR (g ds mh) Q E → wpR (f ds mh) Q E) : FnM P pw K mg base ca k x n g := by
  obtain ⟨fa, fd, ps, ok, r⟩ := F.ex
  refine ⟨fa, fd, ps, ok.imp fun vs H Q E q => ?_, r⟩
  obtain ⟨w, mh, ds, e, hw, rr, hl, hp⟩ := q
  exact ⟨w, mh, ds, e, hw, rr, hl, h ds mh _ _ (rr.length.symm.trans hl) hp⟩
/-- a new stream -/
theorem strm_close {w : Wd} {mh : MH} {i : Nat} {ns : List Int} {y1 y2 y3 : Int} (hw : WOk K ca w mh) (hi : mh[i]? = some (strL ns y1 y2 y3)) (hk : strOk y2 y3 = true) : WOk K ca w (mh.set i .stream) := by
  refine ⟨hw.sub, hw.subL, by simpa using hw.len, hw.nd, fun m b mo' h1 h2 => ?_⟩
  rw [getElem?_setS] at h2
  by_cases e : i = m
  · subst e
    rw [if_pos rfl] at h2
    split at h2
    · cases h2
      obtain ⟨q1, q2, q3⟩ := hw.obj i b _ h1 hi
      obtain ⟨vs, e1, rr⟩ := q3
      simp only [strOk, Bool.and_eq_true, decide_eq_true_eq] at hk
      exact ⟨q1, q2, ns, y1, y2, y3, vs, e1, rr, hk.1.1, hk.1.2, hk.2⟩
    · cases h2
  · rw [if_neg e] at h2
    exact hw.obj m b mo' h1 h2
theorem strm_open {w : Wd} {mh : MH} {i : Nat} (hw : WOk K ca w mh) (hi : mh[i]? = some .stream) : ∃ (ns : List Int) (y1 y2 y3 : Int), ns.length ≤ 63 ∧ strOk y2 y3 = true ∧ WOk K ca w (mh.set i (strL ns y1 y2 y3)) := by
  obtain ⟨a, ha, q1, q2, ns, y1, y2, y3, vs, e1, rr, h1, h2, h3⟩ := hw.rhoAt hi
  have hl : ns.length ≤ 63 := by
    cases rr with
    | cons r _ => cases r; assumption
  refine ⟨ns, y1, y2, y3, hl, by simp [strOk, h1, h2, h3], hw.sub, hw.subL, by simpa using hw.len, hw.nd, fun m b mo' p1 p2 => ?_⟩
  rw [getElem?_setS] at p2
  by_cases e : i = m
  · subst e
    rw [if_pos rfl] at p2
    split at p2
    · cases p2
      rw [ha] at p1
      cases p1
      exact ⟨q1, q2, vs, e1, rr⟩
    · cases p2
  · rw [if_neg e] at p2
    exact hw.obj m b mo' p1 p2
def fStream : LOp := fun ds => match ds with
  | [.scr ns] => fun h => .ok (.ref h.length) (h ++ [.stream])
  | _ => M.bad
def fDraw : LOp := fun ds => match ds with
  | [.ref i, .int m] => fun h => match h[i]? with
    | some .stream => if 0 < m ∧ m < 1073741824 then .pick m.toNat fun j => .ok (.int j) h else .bad
    | _ => .bad
  | _ => M.bad
/-- what the text makes of a stream is a stream -/
theorem fnm_stream (F : FnM P pw K mg base ca k x 1 f) (h : ∀ (ns : List Int) (mh : MH), ∃ (z : Int), strOk 0 z = true ∧ f [.scr ns] mh = .ok (.ref mh.length) (mh ++ [strL ns 0 0 z])) : FnM P pw K mg base ca k x 1 fStream := by
  obtain ⟨fa, fd, ps, ok, r⟩ := F.ex
  refine ⟨fa, fd, ps, ok.imp fun vs H Q E q => ?_, r⟩
  obtain ⟨w, mh, ds, e, hw, rr, hl, hp⟩ := q
  have hd := rr.length.symm.trans hl
  refine ⟨w, mh, ds, e, hw, rr, hl, ?_⟩
  match ds, hd, hp with
  | [.scr ns], _, hp =>
    obtain ⟨z, hz, e⟩ := h ns mh
    show wpR (f [.scr ns] mh) _ _
    rw [e]
    intro w' v x' hw' r'
    refine hp w' v x' ?_ r'
    have := strm_close (i := mh.length) (ns := ns) (y1 := 0) (y2 := 0) (y3 := z) hw' (by simp) hz
    simpa using this
  | [.non], _, hp => exact hp.elim
  | [.bl _], _, hp => exact hp.elim
  | [.int _], _, hp => exact hp.elim
  | [.str _], _, hp => exact hp.elim
  | [.tup _], _, hp => exact hp.elim
  | [.lst _], _, hp => exact hp.elim
  | [.ref _], _, hp => exact hp.elim
theorem fnm_draw (F : FnM P pw K mg base ca k x 2 f) (h : ∀ (ns : List Int) (y1 y2 y3 m : Int) (i : Nat) (mh : MH), ns.length ≤ 63 → strOk y2 y3 = true → 0 < m → m < 1073741824 → mh[i]? = some (strL ns y1 y2 y3) →
    ∃ (j : Nat) (z1 z2 z3 : Int), j < m.toNat ∧ strOk z2 z3 = true ∧ f [.ref i, .int m] mh = .ok (.int j) (mh.set i (strL ns z1 z2 z3))) : FnM P pw K mg base ca k x 2 fDraw := by
  obtain ⟨fa, fd, ps, ok, r⟩ := F.ex
  refine ⟨fa, fd, ps, ok.imp fun vs H Q E q => ?_, r⟩
  obtain ⟨w, mh, ds, e, hw, rr, hl, hp⟩ := q
  unfold fDraw at hp
  split at hp
  · rename_i i m
    cases q : mh[i]? with
    | none => simp only [q] at hp; exact hp.elim
    | some mo =>
      cases mo with
      | stream =>
        simp only [q] at hp
        split at hp
        · rename_i c
          obtain ⟨ns, y1, y2, y3, hl63, hk, hw2⟩ := strm_open hw q
          have li : i < mh.length := (List.getElem?_eq_some_iff.mp q).1
          obtain ⟨j, z1, z2, z3, hj, hz, e2⟩ := h ns y1 y2 y3 m i (mh.set i (strL ns y1 y2 y3)) hl63 hk c.1 c.2 (by rw [getElem?_setS, if_pos rfl, if_pos li])
          refine ⟨w, mh.set i (strL ns y1 y2 y3), [.ref i, .int m], e, hw2, rr, hl, ?_⟩
          show wpR (f [.ref i, .int m] _) _ _
          rw [e2]
          intro w' v x' hw' r'
          refine hp.2 j hj w' v x' ?_ r'
          have h3 := strm_close (i := i) (ns := ns) (y1 := z1) hw' (by rw [getElem?_setS, if_pos rfl, if_pos (by simpa using li)]) hz
          rw [List.set_set, List.set_set] at h3
          have : mh.set i .stream = mh := by
            apply List.ext_getElem?
            intro m
            rw [getElem?_setS]
            by_cases e : i = m
            · subst e; rw [if_pos rfl, if_pos li, q]
            · rw [if_neg e]
          rw [this] at h3
          exact h3
        · exact hp.elim
      | lst _ => simp only [q] at hp; exact hp.elim
      | inst _ _ => simp only [q] at hp; exact hp.elim
  · exact hp.elim
end
end AG
/-! AgO: stores of comprehensions, two fresh lists at once. -/
namespace AG
open PySem L2

theorem frz_den {K : PySem.W.Frag} {ca : Nat → Addr} {W : WX} {m : Env → M (List D)} {σ : St} {H : Hp} {Q : VK} (q : denG (repV K) K ca W (mFrz m) σ H Q) : denF K ca W m σ H Q := by
  obtain ⟨w, mh, env, rfl, hw, hf, hp⟩ := q
  refine ⟨w, mh, env, rfl, hw, hf, ?_⟩
  refine wpR_mono (wpR_bind.mp hp) (fun ds mh' q w' p x hw' hn o => ?_) fun _ _ q => q
  obtain ⟨vs, hH, r⟩ := o.at'
  exact q (w'.lock p vs) (.ref p) (x.lock hn o.nL) (hw'.lock hH o.nL o.nr) (.lst updL_same (r.mono (lock_grow o.nL)))
section
variable {X : Cx} {ca : Nat → Addr} {W : WX} {n : Nat} {elt tg iter : Expr} {ifs : List Expr} {scope : Scope} {own : List (Str × Nat)} {pos spos py : Pos} {mi : Env → M (List D)} {g : TG} {t : Tgt} {tt : Env → M Bool} {te : Env → M D} {y : Str}
theorem ms_setLcOwn {i : Nat} (hc : X.calm = true) (hN : X.N.Nodup) (hi : MI X ca W tg iter mi) (ok : BlkOk X.N X.env.scope scope own) (hgk : GOk X.K g t (own.map (·.2)))
    (hg : ∀ (s : Shared) (H : Hp) (C : Addr) (cl : List (Str × Addr)) (fp : List Addr), PG (X.blk s H scope (compEnvC scope cl C X.env) fp) tg g)
    (ht : ∀ (s : Shared) (H : Hp) (C : Addr) (cl : List (Str × Addr)) (fp : List Addr), MTs (X.blk s H scope (compEnvC scope cl C X.env) fp) ca W0 ifs tt)
    (he : ∀ (s : Shared) (H : Hp) (C : Addr) (cl : List (Str × Addr)) (fp : List Addr), ME (X.blk s H scope (compEnvC scope cl C X.env) fp) ca W0 elt te)
    (hy : X.N[i]? = some y := by rfl) (hyl : X.env.scope.names.lookup y = some .local := by rfl) (hk : X.env.scope.kind = .function := by rfl) (hl : (py.line == pos.line) = true := by rfl)
    (ha : (scope.names.any fun (n, k) => n == y && (k == .local || k == .cell)) = false := by decide +kernel)
    (hs : ∀ x, foldedSetIterable iter X.env x = pure x := by intro _; rfl) :
    MS X ca W n (.Assign [.Name y py] (.ListComp elt [⟨tg, iter, ifs, 0⟩] scope pos) spos) (mSetOwn i (mLc mi t tt te (own.map (·.2)))) :=
  PS.mono (ps_setLc (te := denG (repV X.K) X.K ca W0 te) (tt := denG repB X.K ca W0 tt) hc hN hy hyl (sw_true hk hyl hl ha) hi ok hg ht he hs) fun D' σ H h => by
    obtain ⟨w0, w, mh, env, rfl, hw, s, hp⟩ := h
    refine lc_read hgk (σ := σ) (W := W) ⟨w, mh, env, rfl, hw, s.fr, wpR_mono (wpR_bind.mp hp) (fun ds mh' q w' p x hw' hn o => ?_) fun cl mh q w' x hw' => q w' σ (s.ext.trans x) hw' s.ln⟩
    exact q w' _ ((s.then x).setOwn o (s.ext.th p hn) fun j es _ h => s.fr.apart hn j es h) x.grow hw'
theorem ms_setLc {i : Nat} (hc : X.calm = true) (hN : X.N.Nodup) (hi : MI X ca W tg iter mi) (ok : BlkOk X.N X.env.scope scope own) (hgk : GOk X.K g t (own.map (·.2)))
    (hg : ∀ (s : Shared) (H : Hp) (C : Addr) (cl : List (Str × Addr)) (fp : List Addr), PG (X.blk s H scope (compEnvC scope cl C X.env) fp) tg g)
    (ht : ∀ (s : Shared) (H : Hp) (C : Addr) (cl : List (Str × Addr)) (fp : List Addr), MTs (X.blk s H scope (compEnvC scope cl C X.env) fp) ca W0 ifs tt)
    (he : ∀ (s : Shared) (H : Hp) (C : Addr) (cl : List (Str × Addr)) (fp : List Addr), ME (X.blk s H scope (compEnvC scope cl C X.env) fp) ca W0 elt te)
    (hy : X.N[i]? = some y := by rfl) (hyl : X.env.scope.names.lookup y = some .local := by rfl) (hk : X.env.scope.kind = .function := by rfl) (hl : (py.line == pos.line) = true := by rfl)
    (ha : (scope.names.any fun (n, k) => n == y && (k == .local || k == .cell)) = false := by decide +kernel)
    (hs : ∀ x, foldedSetIterable iter X.env x = pure x := by intro _; rfl) :
    MS X ca W n (.Assign [.Name y py] (.ListComp elt [⟨tg, iter, ifs, 0⟩] scope pos) spos) (mSet i (mFrz (mLc mi t tt te (own.map (·.2))))) :=
  PS.mono (ps_setLc (te := denG (repV X.K) X.K ca W0 te) (tt := denG repB X.K ca W0 tt) hc hN hy hyl (sw_true hk hyl hl ha) hi ok hg ht he hs) fun D' σ H h => by
    obtain ⟨w0, w, mh, env, rfl, hw, s, hp⟩ := h
    refine lc_read hgk (σ := σ) (W := W) (frz_den ?_)
    refine stepS (rep := repV X.K) hw s hp fun w1 mh1 v d x1 hw1 s1 r1 hp1 => ?_
    exact hp1 w1 _ (s1.set r1) x1.grow hw1
end

/-! ### x, y = (fresh, fresh) -/
def mParOwn (i j : Nat) (m1 m2 : Env → M (List D)) : Env → M Fl := fun env => M.bind (m1 env) fun xs => M.bind (m2 env) fun ys => M.pure (.nx ((env.set i (.own xs)).set j (.own ys)))
section
variable {K : PySem.W.Frag} {ca : Nat → Addr} {W : WX} {n : Nat} {w0 w : Wd} {env : Env} {σ : St} {mh : MH} {m1 m2 : Env → M (List D)} {i j : Nat}
theorem two_own {wb : Wd} {D' : Ends} {Q : List V → Hp → Prop} (hij : i ≠ j) (hw : WOk K ca w mh) (s : SRel K n w0 env σ w) (hp : wpR (mParOwn i j m1 m2 env mh) (FlP K ca n w0 wb D') (ExS K ca W n w0))
    (k : ∀ w' p1 p2 mh' e, Ext w w' → WOk K ca w' mh' → SRel K n w0 e ((σ.set i (some (.ref p1))).set j (some (.ref p2))) w' → FlP K ca n w0 wb D' (.nx e) mh' → Q [.ref p1, .ref p2] w'.H) :
    L2.tCons (denF K ca W m1) (L2.tCons (denF K ca W m2) L2.tNil) σ w.H Q := by
  refine ⟨w, mh, env, rfl, hw, s.fr, wpR_mono (wpR_bind.mp hp) (fun xs mh1 q w1 p1 x1 hw1 hn1 o1 => ?_) fun cl mh q w' x hw' => q w' σ (s.ext.trans x) hw' s.ln⟩
  refine ⟨w1, mh1, env, rfl, hw1, s.fr.ext x1, wpR_mono (wpR_bind.mp q) (fun ys mh2 q2 w2 p2 x2 hw2 hn2 o2 => ?_) fun cl mh q w' x hw' => q w' σ (s.ext.trans (x1.trans x)) hw' s.ln⟩
  have x12 := x1.trans x2
  have hn2' : w.H p2 = none := x1.th p2 hn2
  have ne : p2 ≠ p1 := fun e => by
    subst e
    obtain ⟨vs, h, _⟩ := o1.at'
    rw [hn2] at h; cases h
  have s1 : SRel K n w0 (env.set i (.own xs)) (σ.set i (some (.ref p1))) w2 := (s.then x12).setOwn (o1.ext x2) (s.ext.th p1 hn1) fun l es _ h => s.fr.apart hn1 l es h
  have s2 : SRel K n w0 ((env.set i (.own xs)).set j (.own ys)) ((σ.set i (some (.ref p1))).set j (some (.ref p2))) w2 := s1.setOwn o2 (s.ext.th p2 hn2') fun l es hl h => by
    by_cases il : i = l
    · subst il
      rw [getElem?_setS, if_pos rfl]
      intro q
      split at q
      · cases q; exact ne rfl
      · cases q
    · rw [getElem?_setS, if_neg il] at h ⊢
      exact s.fr.apart hn2' l es h
  exact k w2 p1 p2 mh2 _ x12 hw2 s2 q2
end
section
variable {X : Cx} {ca : Nat → Addr} {W : WX} {n : Nat} {a b : Expr} {m1 m2 : Env → M (List D)} {px py pt pos : Pos} {kt k2 pt2} {x y : Str}
theorem ms_parOwn {i j : Nat} (hc : X.calm = true) (ha : MF X ca W a m1) (hb : MF X ca W b m2) (hN : X.N.Nodup) (hi : X.N[i]? = some x := by rfl) (hj : X.N[j]? = some y := by rfl) (hij : i ≠ j := by decide)
    (hx : X.env.scope.names.lookup x = some .local := by rfl) (hy : X.env.scope.names.lookup y = some .local := by rfl)
    (hs1 : starEach [a, b] X.env = (false, eval a X.env) :: starEach [b] X.env := by rfl) (hs2 : starEach [b] X.env = (false, eval b X.env) :: starEach [] X.env := by rfl)
    (hw : swappedStores [.Tuple [.Name x px, .Name y py] kt pt] (.Tuple [a, b] k2 pt2) X.env = pure (some [x, y]) := by rfl)
    (hs : swapsWithSole [.Tuple [.Name x px, .Name y py] kt pt] (.Tuple [a, b] k2 pt2) pos.line X.env = pure false := by rfl) : MS X ca W n (.Assign [.Tuple [.Name x px, .Name y py] kt pt] (.Tuple [a, b] k2 pt2) pos) (mParOwn i j m1 m2) :=
  PS.mono (ps_par hc hN hi hj hij hx hy (pa_cons ha (pa_cons hb pa_nil hs2) hs1) hw hs) fun D' σ H h => by
    obtain ⟨w0, w, mh, env, rfl, hw, s, hp⟩ := h
    exact two_own hij hw s hp fun w' p1 p2 mh' e x' hw' s' q => ⟨_, _, rfl, q w' _ s' x'.grow hw'⟩
theorem ms_parOwnT {i j : Nat} (hc : X.calm = true) (ha : MF X ca W a m1) (hb : MF X ca W b m2) (hN : X.N.Nodup) (hi : X.N[i]? = some x := by rfl) (hj : X.N[j]? = some y := by rfl) (hij : i ≠ j := by decide)
    (hx : Loc X.env.scope x := by first | exact Or.inl rfl | exact Or.inr rfl) (hy : Loc X.env.scope y := by first | exact Or.inl rfl | exact Or.inr rfl)
    (hfx : X.fn x = true ∨ X.env.scope.names.lookup x = some .local := by first | exact .inl rfl | exact .inr rfl) (hfy : X.fn y = true ∨ X.env.scope.names.lookup y = some .local := by first | exact .inl rfl | exact .inr rfl)
    (hs1 : starEach [a, b] X.env = (false, eval a X.env) :: starEach [b] X.env := by rfl) (hs2 : starEach [b] X.env = (false, eval b X.env) :: starEach [] X.env := by rfl)
    (hn : (assignEach [.Name x px, .Name y py] X.env).length = 2 := by rfl) (hst : (assignEach [.Name x px, .Name y py] X.env).findIdx? (·.1) = none := by rfl)
    (ha1 : (assignEach [.Name x px, .Name y py] X.env).map (·.2) = assign (.Name x px) X.env :: (assignEach [.Name y py] X.env).map (·.2) := by rfl)
    (ha2 : (assignEach [.Name y py] X.env).map (·.2) = assign (.Name y py) X.env :: (assignEach [] X.env).map (·.2) := by rfl)
    (hs : swapsWithSole [.Tuple [.Name x px, .Name y py] kt pt] (.Tuple [a, b] k2 pt2) pos.line X.env = pure false := by rfl) (hw : swappedStores [.Tuple [.Name x px, .Name y py] kt pt] (.Tuple [a, b] k2 pt2) X.env = pure none := by rfl)
    (h1 : (assignEach [.Tuple [.Name x px, .Name y py] kt pt] X.env).map (·.2) = [assign (.Tuple [.Name x px, .Name y py] kt pt) X.env] := by rfl) : MS X ca W n (.Assign [.Tuple [.Name x px, .Name y py] kt pt] (.Tuple [a, b] k2 pt2) pos) (mParOwn i j m1 m2) :=
  PS.mono (ps_asg (pe_tup (pa_cons ha (pa_cons hb pa_nil hs2) hs1)) (pg_tup (n := 2) hc (pgs_cons (pg_name hN hi hx hfx) (pgs_cons (pg_name hN hj hy hfy) pgs_nil ha2) ha1) hn hst) hs hw h1) fun D' σ H h => by
    obtain ⟨w0, w, mh, env, rfl, hw, s, hp⟩ := h
    refine two_own (Q := fun xs H1 => xs.length ≤ sizeLine ∧ ∀ p, H1 p = none → gTup X.K 2 (gCons (gName i) (gCons (gName j) gNil)) (.ref p) σ (upd H1 p (.tup xs)) D'.nx) hij hw s hp fun w' p1 p2 mh' e x' hw' s' q => ⟨by rw [sizeLine_lit]; simp, fun t ht => ?_⟩
    have x2 : Ext w' (w'.put t (.tup [.ref p1, .ref p2])) := Ext.put hw' ht
    exact ⟨t, _, rfl, SqT.of upd_same, rfl, _, _, rfl, _, _, rfl, rfl, q _ _ (s'.then x2) (x'.trans x2).grow (hw'.put ht)⟩
end
end AG
/-! AgP: the streams of the laws' texts. -/
namespace AG
open PySem L2

def m__law_stream : Env → M Fl := mSeq (mSet 1 (mC (.int 17))) (mSeq (mFor (mItems (mVar 0)) (tgName 2) (mSet 1 (mBin opMod (mCall fInt (mCons (mBin opAdd (mBin opAdd (mBin opMul (mVar 1) (mC (.int 48271))) (mBin opMod (mCall fInt (mCons (mVar 2) mNil)) (mC (.int 65521)))) (mC (.int 1))) mNil)) (mC (.int 2147483647))))) (mRet (mNewLst (mCons (mCall fList (mCons (mVar 0) mNil)) (mCons (mC (.int 0)) (mCons (mC (.int 0)) (mCons (mVar 1) mNil)))))))
def fg__law_stream : LOp := mFn 3 m__law_stream
theorem mulOk_of {i j : Int} (hi : i.natAbs < 2 ^ 64) (hj : j.natAbs < 2 ^ 64) : mulOk i j = true := by
  unfold mulOk
  simp only [Bool.and_eq_true, decide_eq_true_eq]
  exact ⟨BIG_of hi (by decide), BIG_of hj (by decide)⟩
theorem M.bind_ok {α β : Type} {m : M α} {f : α → M β} {h h' : MH} {a : α} (e : m h = .ok a h') : M.bind m f h = f a h' := by
  unfold M.bind
  rw [e]
  rfl
theorem bin_ok {f : DOp} {ma mb : Env → M D} {env : Env} {h h' h'' : MH} {x y : D} (h1 : ma env h = .ok x h') (h2 : mb env h' = .ok y h'') : mBin f ma mb env h = f x y h'' := by
  show M.bind _ _ h = _
  rw [M.bind_ok h1, M.bind_ok h2]
theorem test_ok {m : Env → M D} {env : Env} {h h' : MH} {b : Bool} (h1 : m env h = .ok (.bl b) h') : mTest m env h = .ok b h' := by
  show M.bind _ _ h = _
  rw [M.bind_ok h1]
  rfl
theorem call1_ok {f : LOp} {m : Env → M D} {env : Env} {h h' : MH} {x : D} (h1 : m env h = .ok x h') : mCall f (mCons m mNil) env h = f [x] h' := by
  show M.bind (M.bind _ _) _ h = _
  have : M.bind (m env) (fun x => M.bind (mNil env) fun xs => M.pure (x :: xs)) h = .ok [x] h' := by rw [M.bind_ok h1]; rfl
  rw [M.bind_ok this]
theorem c_ok {d : D} {env : Env} {h : MH} : mC d env h = .ok d h := rfl
theorem stream_loop (ns : List Int) (mh : MH) : ∀ (ms : List Int) (b : Int) (sl : Slot), 0 ≤ b → b < 2147483647 → ∃ (b' : Int) (sl' : Slot), 0 ≤ b' ∧ b' < 2147483647 ∧
    loopF (tgName 2) (mSet 1 (mBin opMod (mCall fInt (mCons (mBin opAdd (mBin opAdd (mBin opMul (mVar 1) (mC (.int 48271))) (mBin opMod (mCall fInt (mCons (mVar 2) mNil)) (mC (.int 65521)))) (mC (.int 1))) mNil)) (mC (.int 2147483647)))) (ms.map D.int) [.v (.scr ns), .v (.int b), sl] mh = .ok (.nx [.v (.scr ns), .v (.int b'), sl']) mh
  | [], b, sl, h0, h1 => ⟨b, sl, h0, h1, rfl⟩
  | m :: ms, b, sl, h0, h1 => by
    have hm : mulOk b 48271 = true := mulOk_of (by omega) (by decide)
    have e1 : (mSet 1 (mBin opMod (mCall fInt (mCons (mBin opAdd (mBin opAdd (mBin opMul (mVar 1) (mC (.int 48271))) (mBin opMod (mCall fInt (mCons (mVar 2) mNil)) (mC (.int 65521)))) (mC (.int 1))) mNil)) (mC (.int 2147483647)))) [.v (.scr ns), .v (.int b), .v (.int m)] mh = .ok (.nx [.v (.scr ns), .v (.int ((b * 48271 + m % 65521 + 1) % 2147483647)), .v (.int m)]) mh := by
      simp [mSet, mBin, mCall, mCons, mVar, mC, mNil, M.bind, M.pure, R.bind, opMod, opMul, opAdd, fInt, hm]
    obtain ⟨b', sl', q0, q1, q⟩ := stream_loop ns mh ms ((b * 48271 + m % 65521 + 1) % 2147483647) (.v (.int m)) (Int.emod_nonneg _ (by decide)) (Int.emod_lt_of_pos _ (by decide))
    refine ⟨b', sl', q0, q1, ?_⟩
    rw [List.map_cons]
    simp only [loopF, tgName, List.set_cons_succ, List.set_cons_zero]
    rw [M.bind_ok e1]
    exact q
theorem stream_gen (ns : List Int) (mh : MH) : ∃ (z : Int), strOk 0 z = true ∧ fg__law_stream [.scr ns] mh = .ok (.ref mh.length) (mh ++ [strL ns 0 0 z]) := by
  obtain ⟨b', sl', q0, q1, q⟩ := stream_loop ns mh ns 17 .no (by decide) (by decide)
  refine ⟨b', by simp [strOk, q0, q1], ?_⟩
  have e2 : (mRet (mNewLst (mCons (mCall fList (mCons (mVar 0) mNil)) (mCons (mC (.int 0)) (mCons (mC (.int 0)) (mCons (mVar 1) mNil)))))) [.v (.scr ns), .v (.int b'), sl'] mh = .ok (.rt (.ref mh.length)) (mh ++ [strL ns 0 0 b']) := by
    simp [mRet, mNewLst, mCall, mCons, mVar, mC, mNil, M.bind, M.pure, R.bind, fList, strL]
  have e1 : m__law_stream [.v (.scr ns), .no, .no] mh = .ok (.rt (.ref mh.length)) (mh ++ [strL ns 0 0 b']) := by
    unfold m__law_stream mSeq
    rw [M.bind_ok (a := .nx [.v (.scr ns), .v (.int 17), .no]) (h' := mh) (by simp [mSet, mC, M.bind, M.pure, R.bind])]
    show M.bind _ _ mh = _
    rw [M.bind_ok (a := .nx [.v (.scr ns), .v (.int b'), sl']) (h' := mh) ?_]
    · exact e2
    · unfold mFor
      rw [M.bind_ok (a := ns.map D.int) (h' := mh) (by simp [mItems, mVar, M.bind, M.pure, R.bind, itemsM])]
      exact q
  show M.bind _ _ mh = _
  rw [M.bind_ok (h' := mh ++ [strL ns 0 0 b']) (a := .rt (.ref mh.length)) e1]
  rfl
def m__law_draw : Env → M Fl := mSeq (mIf (mAndT (mTest (mBin opEq (mBin opIx (mVar 0) (mC (.int 1))) (mC (.int 0)))) (mTest (mBin opLt (mBin opIx (mVar 0) (mC (.int 2))) (mCall fLen (mCons (mBin opIx (mVar 0) (mC (.int 0))) mNil))))) (mSeq (mSetIx (mVar 0) (mC (.int 1)) (mCall fAbs (mCons (mCall fInt (mCons (mBin opIx (mBin opIx (mVar 0) (mC (.int 0))) (mBin opIx (mVar 0) (mC (.int 2)))) mNil)) mNil))) (mSetIx (mVar 0) (mC (.int 2)) (mBin opAdd (mBin opIx (mVar 0) (mC (.int 2))) (mC (.int 1))))) mNx) (mSeq (mIf (mTest (mBin opEq (mBin opIx (mVar 0) (mC (.int 1))) (mC (.int 0)))) (mSeq (mSetIx (mVar 0) (mC (.int 3)) (mBin opMod (mCall fInt (mCons (mBin opAdd (mBin opMul (mBin opIx (mVar 0) (mC (.int 3))) (mC (.int 48271))) (mC (.int 11))) mNil)) (mC (.int 2147483647)))) (mRet (mBin opMod (mCall fInt (mCons (mBin opDiv (mBin opIx (mVar 0) (mC (.int 3))) (mC (.int 97))) mNil)) (mVar 1)))) mNx) (mSeq (mSet 2 (mBin opMod (mCall fInt (mCons (mBin opIx (mVar 0) (mC (.int 1))) mNil)) (mVar 1))) (mSeq (mSetIx (mVar 0) (mC (.int 1)) (mBin opDiv (mBin opIx (mVar 0) (mC (.int 1))) (mVar 1))) (mRet (mVar 2)))))
def fg__law_draw : LOp := mFn 3 m__law_draw
section
variable {ns : List Int} {i : Nat} {m a b c : Int} {h : MH} {sl : Slot}
theorem at4 {α : Type} (x y z w : α) : L2.atI [x, y, z, w] 0 = some x ∧ L2.atI [x, y, z, w] 1 = some y ∧ L2.atI [x, y, z, w] 2 = some z ∧ L2.atI [x, y, z, w] 3 = some w := ⟨rfl, rfl, rfl, rfl⟩
theorem draw_rd (hh : h[i]? = some (strL ns a b c)) (env : Env) (he : env[0]? = some (.v (.ref i))) :
    mBin opIx (mVar 0) (mC (.int 0)) env h = .ok (.scr ns) h ∧ mBin opIx (mVar 0) (mC (.int 1)) env h = .ok (.int a) h ∧ mBin opIx (mVar 0) (mC (.int 2)) env h = .ok (.int b) h ∧ mBin opIx (mVar 0) (mC (.int 3)) env h = .ok (.int c) h := by
  have q := at4 (D.scr ns) (.int a) (.int b) (.int c)
  refine ⟨?_, ?_, ?_, ?_⟩ <;> simp [mBin, mVar, mC, he, M.bind, M.pure, R.bind, opIx, hh, strL, q]
theorem draw_wr (hh : h[i]? = some (strL ns a b c)) (env : Env) (he : env[0]? = some (.v (.ref i))) {e : Env → M D} {v : Int} (ev : e env h = .ok (.int v) h) :
    mSetIx (mVar 0) (mC (.int 1)) e env h = .ok (.nx env) (h.set i (strL ns v b c)) ∧ mSetIx (mVar 0) (mC (.int 2)) e env h = .ok (.nx env) (h.set i (strL ns a v c)) ∧ mSetIx (mVar 0) (mC (.int 3)) e env h = .ok (.nx env) (h.set i (strL ns a b v)) := by
  have r1 : ixN 4 1 = some 1 := rfl
  have r2 : ixN 4 2 = some 2 := rfl
  have r3 : ixN 4 3 = some 3 := rfl
  refine ⟨?_, ?_, ?_⟩ <;> simp [mSetIx, mVar, mC, he, M.bind, M.pure, R.bind, setIxM, hh, strL, ev, r1, r2, r3]
theorem set_at (hh : h[i]? = some (strL ns a b c)) (mo : MO) : (h.set i mo)[i]? = some mo := by
  have li : i < h.length := (List.getElem?_eq_some_iff.mp hh).1
  rw [getElem?_setS, if_pos rfl, if_pos li]
theorem set_self (hh : h[i]? = some (strL ns a b c)) : h.set i (strL ns a b c) = h := by
  apply List.ext_getElem?
  intro k
  rw [getElem?_setS]
  by_cases e : i = k
  · subst e
    rw [if_pos rfl, hh, if_pos (List.getElem?_eq_some_iff.mp hh).1]
  · rw [if_neg e]
/-- the next cell is taken -/
theorem draw_one (hh : h[i]? = some (strL ns a b c)) (hb : 0 ≤ b) (sl : Slot) : ∃ a' b', 0 ≤ b' ∧
    (mIf (mAndT (mTest (mBin opEq (mBin opIx (mVar 0) (mC (.int 1))) (mC (.int 0)))) (mTest (mBin opLt (mBin opIx (mVar 0) (mC (.int 2))) (mCall fLen (mCons (mBin opIx (mVar 0) (mC (.int 0))) mNil))))) (mSeq (mSetIx (mVar 0) (mC (.int 1)) (mCall fAbs (mCons (mCall fInt (mCons (mBin opIx (mBin opIx (mVar 0) (mC (.int 0))) (mBin opIx (mVar 0) (mC (.int 2)))) mNil)) mNil))) (mSetIx (mVar 0) (mC (.int 2)) (mBin opAdd (mBin opIx (mVar 0) (mC (.int 2))) (mC (.int 1))))) mNx)
      [.v (.ref i), .v (.int m), sl] h = .ok (.nx [.v (.ref i), .v (.int m), sl]) (h.set i (strL ns a' b' c)) := by
  obtain ⟨q0, q1, q2, q3⟩ := draw_rd hh [.v (.ref i), .v (.int m), sl] rfl
  have t1 : (mTest (mBin opEq (mBin opIx (mVar 0) (mC (.int 1))) (mC (.int 0)))) [.v (.ref i), .v (.int m), sl] h = .ok (decide (a = 0)) h := by
    exact test_ok ((bin_ok q1 c_ok).trans rfl)
  have t2 : (mTest (mBin opLt (mBin opIx (mVar 0) (mC (.int 2))) (mCall fLen (mCons (mBin opIx (mVar 0) (mC (.int 0))) mNil)))) [.v (.ref i), .v (.int m), sl] h = .ok (decide (b < ns.length)) h := by
    exact test_ok ((bin_ok q2 ((call1_ok q0).trans rfl)).trans rfl)
  by_cases ca : a = 0
  · by_cases cb : b < ns.length
    · have hat : ∃ v, L2.atI ns b = some v := by
        have hx : ixN ns.length b = some b.toNat := by
          unfold ixN
          rw [if_pos hb, if_pos cb]
        have hl : b.toNat < ns.length := by omega
        exact ⟨ns[b.toNat], by unfold L2.atI; rw [hx]; exact List.getElem?_eq_getElem hl⟩
      obtain ⟨v, hv⟩ := hat
      have e1 : (mCall fAbs (mCons (mCall fInt (mCons (mBin opIx (mBin opIx (mVar 0) (mC (.int 0))) (mBin opIx (mVar 0) (mC (.int 2)))) mNil)) mNil)) [.v (.ref i), .v (.int m), sl] h = .ok (.int (if v < 0 then -v else v)) h := by
        have : mBin opIx (mBin opIx (mVar 0) (mC (.int 0))) (mBin opIx (mVar 0) (mC (.int 2))) [.v (.ref i), .v (.int m), sl] h = .ok (.int v) h := by
          show M.bind _ _ h = _
          rw [M.bind_ok q0, M.bind_ok q2]
          simp only [opIx, hv, M.pure]
        exact (call1_ok ((call1_ok this).trans rfl)).trans rfl
      have w1 := (draw_wr hh [.v (.ref i), .v (.int m), sl] rfl e1).1
      have hh1 := set_at hh (strL ns (if v < 0 then -v else v) b c)
      obtain ⟨p0, p1, p2, p3⟩ := draw_rd hh1 [.v (.ref i), .v (.int m), sl] rfl
      have e2 : (mBin opAdd (mBin opIx (mVar 0) (mC (.int 2))) (mC (.int 1))) [.v (.ref i), .v (.int m), sl] (h.set i (strL ns (if v < 0 then -v else v) b c)) = .ok (.int (b + 1)) (h.set i (strL ns (if v < 0 then -v else v) b c)) := by
        show M.bind _ _ _ = _
        rw [M.bind_ok p2]
        rfl
      have w2 := (draw_wr hh1 [.v (.ref i), .v (.int m), sl] rfl e2).2.1
      rw [List.set_set] at w2
      refine ⟨(if v < 0 then -v else v), b + 1, by omega, ?_⟩
      show M.bind (M.bind _ _) _ h = _
      rw [M.bind_ok (a := true) (h' := h) (by rw [M.bind_ok t1]; simp only [ca, decide_true, if_true]; rw [t2]; simp [cb])]
      simp only [if_true]
      show M.bind _ _ h = _
      rw [M.bind_ok w1]
      exact w2
    · refine ⟨a, b, hb, ?_⟩
      show M.bind (M.bind _ _) _ h = _
      rw [M.bind_ok (a := false) (h' := h) (by rw [M.bind_ok t1]; simp only [ca, decide_true, if_true]; rw [t2]; simp [cb]), set_self hh]
      rfl
  · refine ⟨a, b, hb, ?_⟩
    show M.bind (M.bind _ _) _ h = _
    rw [M.bind_ok (a := false) (h' := h) (by rw [M.bind_ok t1]; simp [ca, M.pure]), set_self hh]
    rfl
theorem draw_gen (ns : List Int) (y1 y2 y3 m : Int) (i : Nat) (mh : MH) (h63 : ns.length ≤ 63) (hk : strOk y2 y3 = true) (h0 : 0 < m) (h30 : m < 1073741824) (hh : mh[i]? = some (strL ns y1 y2 y3)) :
    ∃ (j : Nat) (z1 z2 z3 : Int), j < m.toNat ∧ strOk z2 z3 = true ∧ fg__law_draw [.ref i, .int m] mh = .ok (.int j) (mh.set i (strL ns z1 z2 z3)) := by
  simp only [strOk, Bool.and_eq_true, decide_eq_true_eq] at hk
  obtain ⟨⟨k1, k2⟩, k3⟩ := hk
  obtain ⟨a, b, hb, e1⟩ := draw_one (m := m) hh k1 .no
  have hh1 := set_at hh (strL ns a b y3)
  have l2 : m.natAbs.log2 < 9000 := by
    have : m.natAbs.log2 < 30 := (Nat.log2_lt (by omega)).mpr (by omega)
    omega
  obtain ⟨q0, q1, q2, q3⟩ := draw_rd hh1 [.v (.ref i), .v (.int m), .no] rfl
  have t1 : (mTest (mBin opEq (mBin opIx (mVar 0) (mC (.int 1))) (mC (.int 0)))) [.v (.ref i), .v (.int m), .no] (mh.set i (strL ns a b y3)) = .ok (decide (a = 0)) (mh.set i (strL ns a b y3)) := by
    exact test_ok ((bin_ok q1 c_ok).trans rfl)
  by_cases ca : a = 0
  · -- from the generator
    have e3 : (mBin opMod (mCall fInt (mCons (mBin opAdd (mBin opMul (mBin opIx (mVar 0) (mC (.int 3))) (mC (.int 48271))) (mC (.int 11))) mNil)) (mC (.int 2147483647))) [.v (.ref i), .v (.int m), .no] (mh.set i (strL ns a b y3)) = .ok (.int ((y3 * 48271 + 11) % 2147483647)) (mh.set i (strL ns a b y3)) := by
      have hm : mulOk y3 48271 = true := mulOk_of (by omega) (by decide)
      have p : mBin opMul (mBin opIx (mVar 0) (mC (.int 3))) (mC (.int 48271)) [.v (.ref i), .v (.int m), .no] (mh.set i (strL ns a b y3)) = .ok (.int (y3 * 48271)) (mh.set i (strL ns a b y3)) := by
        rw [bin_ok q3 c_ok]
        simp [opMul, hm, M.pure]
      exact (bin_ok ((call1_ok ((bin_ok p c_ok).trans rfl)).trans rfl) c_ok).trans rfl
    have w3 := (draw_wr hh1 [.v (.ref i), .v (.int m), .no] rfl e3).2.2
    rw [List.set_set] at w3
    have z0 := Int.emod_nonneg (y3 * 48271 + 11) (b := 2147483647) (by decide)
    have z1 := Int.emod_lt_of_pos (y3 * 48271 + 11) (b := 2147483647) (by decide)
    generalize (y3 * 48271 + 11) % 2147483647 = z at w3 z0 z1 e3
    have hh3 := set_at hh (strL ns a b z)
    obtain ⟨p0, p1, p2, p3⟩ := draw_rd hh3 [.v (.ref i), .v (.int m), .no] rfl
    have e4 : (mBin opMod (mCall fInt (mCons (mBin opDiv (mBin opIx (mVar 0) (mC (.int 3))) (mC (.int 97))) mNil)) (mVar 1)) [.v (.ref i), .v (.int m), .no] (mh.set i (strL ns a b z)) = .ok (.int (z / 97 % m)) (mh.set i (strL ns a b z)) := by
      have d97 : (97 : Int).natAbs.log2 < 9000 := by decide
      have p : mBin opDiv (mBin opIx (mVar 0) (mC (.int 3))) (mC (.int 97)) [.v (.ref i), .v (.int m), .no] (mh.set i (strL ns a b z)) = .ok (.int (z / 97)) (mh.set i (strL ns a b z)) := by
        rw [bin_ok p3 c_ok]
        simp only [opDiv, d97, and_true]
        rfl
      rw [bin_ok ((call1_ok p).trans rfl) (show mVar 1 _ _ = .ok (.int m) _ from rfl)]
      simp [opMod, h0, M.pure]
    have u0 := Int.emod_nonneg (z / 97) (b := m) (by omega)
    have u1 := Int.emod_lt_of_pos (z / 97) h0
    refine ⟨(z / 97 % m).toNat, a, b, z, by omega, by simp [strOk, hb, z0, z1], ?_⟩
    show M.bind (M.bind _ _) _ mh = _
    rw [M.bind_ok (a := .rt (.int (z / 97 % m))) (h' := mh.set i (strL ns a b z)) ?_]
    · show R.ok _ _ = _
      rw [Int.toNat_of_nonneg u0]
    · show M.bind _ _ mh = _
      refine (M.bind_ok e1).trans ?_
      show M.bind (M.bind _ _) _ _ = _
      rw [M.bind_ok (a := .rt (.int (z / 97 % m))) (h' := mh.set i (strL ns a b z)) ?_]
      · rfl
      · rw [M.bind_ok t1]
        simp only [ca, decide_true, if_true]
        subst ca
        show M.bind _ _ _ = _
        rw [M.bind_ok w3]
        show M.bind _ _ _ = _
        rw [M.bind_ok e4]
        rfl
  · -- from the cell
    have e3 : (mBin opMod (mCall fInt (mCons (mBin opIx (mVar 0) (mC (.int 1))) mNil)) (mVar 1)) [.v (.ref i), .v (.int m), .no] (mh.set i (strL ns a b y3)) = .ok (.int (a % m)) (mh.set i (strL ns a b y3)) := by
      rw [bin_ok ((call1_ok q1).trans rfl) (show mVar 1 _ _ = .ok (.int m) _ from rfl)]
      simp [opMod, h0, M.pure]
    obtain ⟨p0, p1, p2, p3⟩ := draw_rd hh1 [.v (.ref i), .v (.int m), .v (.int (a % m))] rfl
    have e4 : (mBin opDiv (mBin opIx (mVar 0) (mC (.int 1))) (mVar 1)) [.v (.ref i), .v (.int m), .v (.int (a % m))] (mh.set i (strL ns a b y3)) = .ok (.int (a / m)) (mh.set i (strL ns a b y3)) := by
      rw [bin_ok p1 (show mVar 1 _ _ = .ok (.int m) _ from rfl)]
      simp [opDiv, h0, l2, M.pure]
    have w4 := (draw_wr hh1 [.v (.ref i), .v (.int m), .v (.int (a % m))] rfl e4).1
    rw [List.set_set] at w4
    have u0 := Int.emod_nonneg a (b := m) (by omega)
    have u1 := Int.emod_lt_of_pos a h0
    refine ⟨(a % m).toNat, a / m, b, y3, by omega, by simp [strOk, hb, k2, k3], ?_⟩
    show M.bind (M.bind _ _) _ mh = _
    rw [M.bind_ok (a := .rt (.int (a % m))) (h' := mh.set i (strL ns (a / m) b y3)) ?_]
    · show R.ok _ _ = _
      rw [Int.toNat_of_nonneg u0]
    · show M.bind _ _ mh = _
      refine (M.bind_ok e1).trans ?_
      show M.bind (M.bind _ _) _ _ = _
      rw [M.bind_ok (a := .nx [.v (.ref i), .v (.int m), .no]) (h' := mh.set i (strL ns a b y3)) ?_]
      · show M.bind (M.bind _ _) _ _ = _
        rw [M.bind_ok (a := .nx [.v (.ref i), .v (.int m), .v (.int (a % m))]) (h' := mh.set i (strL ns a b y3)) ?_]
        · show M.bind _ _ _ = _
          rw [M.bind_ok w4]
          rfl
        · rw [M.bind_ok e3]
          rfl
      · rw [M.bind_ok t1]
        simp [ca, mNx, M.pure]
end
end AG
/-! AgQ: ordinals, as data. -/
namespace AG
open PySem L2

inductive O where
  | z
  | c (p : O) (n : Int) (r : O)
deriving DecidableEq
namespace O
/-- the pairs -/
def its : O → List D
  | z => []
  | c p n r => .tup [.tup p.its, .int n] :: r.its
def enc (o : O) : D := .tup o.its
def dp : O → Nat
  | z => 0
  | c p _ r => max (p.dp + 1) r.dp
def len : O → Nat
  | z => 0
  | c _ _ r => r.len + 1
def lt : O → O → Bool
  | z, z => false
  | z, c _ _ _ => true
  | c _ _ _, z => false
  | c p n r, c q m s => if p = q then (if n = m then lt r s else decide (n < m)) else lt p q
theorem enc_z : enc z = .tup [] := rfl
theorem enc_c {p r : O} {n : Int} : enc (c p n r) = .tup (.tup [p.enc, .int n] :: r.its) := rfl
theorem its_c {p r : O} {n : Int} : its (c p n r) = .tup [p.enc, .int n] :: r.its := rfl
theorem its_len : ∀ o : O, o.its.length = o.len
  | z => rfl
  | c _ _ r => by simp [its, len, its_len r]
theorem its_sm : ∀ (o : O) (n : Nat), 2 * o.dp ≤ n → o.its.all (D.sm n) = true
  | z, _, _ => rfl
  | c p k r, n, h => by
    have h1 : 2 * (p.dp + 1) ≤ n := Nat.le_trans (Nat.mul_le_mul_left 2 (Nat.le_max_left _ _)) h
    have h2 : 2 * r.dp ≤ n := Nat.le_trans (Nat.mul_le_mul_left 2 (Nat.le_max_right _ _)) h
    obtain ⟨m, rfl⟩ : ∃ m, n = m + 2 := ⟨n - 2, by omega⟩
    have a := its_sm p m (by omega)
    have b := its_sm r (m + 2) h2
    simp [its, List.all_cons, D.sm, a, b]
theorem sm {o : O} {n : Nat} (h : 2 * o.dp + 1 ≤ n) : D.sm n o.enc = true := by
  obtain ⟨m, rfl⟩ : ∃ m, n = m + 1 := ⟨n - 1, by omega⟩
  exact its_sm o m (by omega)
theorem its_nl : ∀ (o : O) (n : Nat), 2 * o.dp ≤ n → o.its.all (D.nl n) = true
  | z, _, _ => rfl
  | c p k r, n, h => by
    have h1 : 2 * (p.dp + 1) ≤ n := Nat.le_trans (Nat.mul_le_mul_left 2 (Nat.le_max_left _ _)) h
    have h2 : 2 * r.dp ≤ n := Nat.le_trans (Nat.mul_le_mul_left 2 (Nat.le_max_right _ _)) h
    obtain ⟨m, rfl⟩ : ∃ m, n = m + 2 := ⟨n - 2, by omega⟩
    have a := its_nl p m (by omega)
    have b := its_nl r (m + 2) h2
    simp [its, List.all_cons, D.nl, a, b]
theorem nl {o : O} {n : Nat} (h : 2 * o.dp + 1 ≤ n) : D.nl n o.enc = true := by
  obtain ⟨m, rfl⟩ : ∃ m, n = m + 1 := ⟨n - 1, by omega⟩
  exact its_nl o m (by omega)
theorem ralike : ∀ a b : O, PySem.W.alikeAll (D.toPys a.its) (D.toPys b.its) = true
  | z, z => by simp [its, D.toPys, PySem.W.alikeAll]
  | z, c _ _ _ => by simp [its, D.toPys, PySem.W.alikeAll]
  | c _ _ _, z => by simp [its, D.toPys, PySem.W.alikeAll]
  | c p n r, c q m s => by
    have a := ralike p q
    have b := ralike r s
    simp [its, D.toPys, D.toPy, PySem.W.alikeAll, PySem.W.alike, a, b]
theorem alike (a b : O) : D.alike a.enc b.enc = true := by
  have := ralike a b
  simpa [D.alike, enc, D.toPy, PySem.W.alike] using this
theorem reqv : ∀ a b : O, PyData.eqvAll (D.toPys a.its) (D.toPys b.its) = decide (a = b)
  | z, z => by simp [its, D.toPys, PyData.eqvAll]
  | z, c _ _ _ => by simp [its, D.toPys, PyData.eqvAll]
  | c _ _ _, z => by simp [its, D.toPys, PyData.eqvAll]
  | c p n r, c q m s => by
    have a := reqv p q
    have b := reqv r s
    simp only [its, D.toPys, D.toPy, PyData.eqvAll, PyData.eqv, a, b]
    by_cases h1 : p = q <;> by_cases h2 : n = m <;> by_cases h3 : r = s <;> simp [h1, h2, h3]
theorem eqv (a b : O) : D.eqv a.enc b.enc = decide (a = b) := by
  have := reqv a b
  simpa [D.eqv, enc, D.toPy, PyData.eqv] using this
theorem rlt : ∀ a b : O, PyProof.Rows.lexLt PyProof.Rows.itemOrd (PySem.W.keyToksAll (D.toPys a.its)) (PySem.W.keyToksAll (D.toPys b.its)) = lt a b
  | z, z => PyProof.Rows.lex_irrefl _
  | z, c p n r => by
    simp only [its, D.toPys]
    rw [PySem.W.toks_all_cons]
    simp only [PySem.W.keyToksAll]
    rw [PyProof.Rows.lex_diff (O := PyProof.Rows.itemOrd) (by simp)]
    simp [PyProof.Rows.itemOrd, PyProof.Rows.itemLt, lt]
  | c p n r, z => by
    simp only [its, D.toPys]
    rw [PySem.W.toks_all_cons]
    simp only [PySem.W.keyToksAll]
    rw [PyProof.Rows.lex_diff (O := PyProof.Rows.itemOrd) (by simp)]
    simp [PyProof.Rows.itemOrd, PyProof.Rows.itemLt, lt]
  | c p n r, c q m s => by
    have a1 := ralike p q
    have e1 := reqv p q
    have l1 := rlt p q
    have l2 := rlt r s
    have al : PySem.W.alike (.tuple [.tuple (D.toPys p.its), .int n]) (.tuple [.tuple (D.toPys q.its), .int m]) = true := by simp [PySem.W.alike, PySem.W.alikeAll, a1]
    simp only [its, D.toPys, D.toPy]
    rw [PySem.W.dataLt_cons al, PySem.W.dataLt_pair (by simpa [PySem.W.alike] using a1) (by simp [PySem.W.alike])]
    simp only [PyData.eqv, PyData.eqvAll, e1, PySem.W.dataLt_int, PySem.W.dataLt_tuple, l1, l2, lt]
    by_cases h1 : p = q <;> by_cases h2 : n = m <;> simp [h1, h2]
theorem dlt (a b : O) : D.lt a.enc b.enc = lt a b := by
  have := rlt a b
  simp only [D.lt, enc, D.toPy]
  rw [PySem.W.dataLt_tuple]
  exact this

/-! the order -/
theorem lt_irrefl : ∀ a : O, lt a a = false
  | z => rfl
  | c p n r => by simp [lt, lt_irrefl r]
theorem lt_total : ∀ a b : O, lt a b = true ∨ a = b ∨ lt b a = true
  | z, z => .inr (.inl rfl)
  | z, c _ _ _ => .inl rfl
  | c _ _ _, z => .inr (.inr rfl)
  | c p n r, c q m s => by
    by_cases h1 : p = q
    · subst h1
      by_cases h2 : n = m
      · subst h2
        rcases lt_total r s with h | h | h
        · exact .inl (by simp [lt, h])
        · exact .inr (.inl (by rw [h]))
        · exact .inr (.inr (by simp [lt, h]))
      · have h2' : ¬ m = n := fun e => h2 e.symm
        rcases Int.lt_or_gt_of_ne h2 with h | h
        · exact .inl (by simp [lt, h2, h])
        · exact .inr (.inr (by simp [lt, h2', h]))
    · have h1' : ¬ q = p := fun e => h1 e.symm
      rcases lt_total p q with h | h | h
      · exact .inl (by simp [lt, h1, h])
      · exact absurd h h1
      · exact .inr (.inr (by simp [lt, h1', h]))
theorem lt_trans : ∀ {a b d : O}, lt a b = true → lt b d = true → lt a d = true
  | z, z, _, h, _ => by cases h
  | z, c _ _ _, z, _, h => by cases h
  | z, c _ _ _, c _ _ _, _, _ => rfl
  | c _ _ _, z, _, h, _ => by cases h
  | c _ _ _, c _ _ _, z, _, h => by cases h
  | c p n r, c q m s, c t k u, h1, h2 => by
    simp only [lt] at h1 h2 ⊢
    by_cases e1 : p = q
    · subst e1
      by_cases e2 : p = t
      · subst e2
        simp only [if_true] at h1 h2 ⊢
        by_cases e3 : n = m
        · subst e3
          by_cases e4 : n = k
          · subst e4
            simp only [if_true] at h1 h2 ⊢
            exact lt_trans h1 h2
          · simp only [e4, if_false, if_true, decide_eq_true_eq] at h1 h2 ⊢
            exact h2
        · simp only [e3, if_false, decide_eq_true_eq] at h1
          by_cases e4 : m = k
          · subst e4
            simp only [e3, if_false, decide_eq_true_eq]
            exact h1
          · simp only [e4, if_false, decide_eq_true_eq] at h2
            have e5 : ¬ n = k := by omega
            simp only [e5, if_false, decide_eq_true_eq]
            omega
      · simp only [e2, if_false] at h2 ⊢
        exact h2
    · simp only [e1, if_false] at h1
      by_cases e2 : q = t
      · subst e2
        simp only [e1, if_false]
        exact h1
      · simp only [e2, if_false] at h2
        have h3 := lt_trans h1 h2
        by_cases e3 : p = t
        · subst e3
          rw [lt_irrefl] at h3
          cases h3
        · simp only [e3, if_false]
          exact h3
theorem lt_asymm {a b : O} (h : lt a b = true) : lt b a = false := by
  cases q : lt b a with
  | false => rfl
  | true =>
    have := lt_trans h q
    rw [lt_irrefl] at this
    cases this
theorem lt_ne {a b : O} (h : lt a b = true) : a ≠ b := fun e => by
  subst e
  rw [lt_irrefl] at h
  cases h
theorem not_lt {a b : O} (h : lt a b = false) : a = b ∨ lt b a = true := by
  rcases lt_total a b with q | q | q
  · rw [h] at q; cases q
  · exact .inl q
  · exact .inr q
end O

/-! ### what the operators make of them -/
section
variable {h : MH} {a b : O} {L L' : List O}
theorem opLt_enc (ha : a.dp ≤ 29) (hb : b.dp ≤ 29) : opLt a.enc b.enc h = .ok (.bl (O.lt a b)) h := by
  have c : cmpOk a.enc b.enc = true := by
    simp [cmpOk, O.sm (show 2 * a.dp + 1 ≤ 60 by omega), O.sm (show 2 * b.dp + 1 ≤ 60 by omega), O.alike]
    rfl
  show (if cmpOk a.enc b.enc = true then M.pure (D.bl (D.lt a.enc b.enc)) else M.bad) h = _
  rw [if_pos c, O.dlt]
  rfl
theorem opGt_enc (ha : a.dp ≤ 29) (hb : b.dp ≤ 29) : opGt a.enc b.enc h = .ok (.bl (O.lt b a)) h := by
  have c : cmpOk a.enc b.enc = true := by
    simp [cmpOk, O.sm (show 2 * a.dp + 1 ≤ 60 by omega), O.sm (show 2 * b.dp + 1 ≤ 60 by omega), O.alike]
    rfl
  show (if cmpOk a.enc b.enc = true then M.pure (D.bl (D.lt b.enc a.enc)) else M.bad) h = _
  rw [if_pos c, O.dlt]
  rfl
theorem opLe_enc (ha : a.dp ≤ 29) (hb : b.dp ≤ 29) : opLe a.enc b.enc h = .ok (.bl (!O.lt b a)) h := by
  have c : cmpOk a.enc b.enc = true := by
    simp [cmpOk, O.sm (show 2 * a.dp + 1 ≤ 60 by omega), O.sm (show 2 * b.dp + 1 ≤ 60 by omega), O.alike]
    rfl
  show (if cmpOk a.enc b.enc = true then M.pure (D.bl (!D.lt b.enc a.enc)) else M.bad) h = _
  rw [if_pos c, O.dlt]
  rfl
theorem opGe_enc (ha : a.dp ≤ 29) (hb : b.dp ≤ 29) : opGe a.enc b.enc h = .ok (.bl (!O.lt a b)) h := by
  have c : cmpOk a.enc b.enc = true := by
    simp [cmpOk, O.sm (show 2 * a.dp + 1 ≤ 60 by omega), O.sm (show 2 * b.dp + 1 ≤ 60 by omega), O.alike]
    rfl
  show (if cmpOk a.enc b.enc = true then M.pure (D.bl (!D.lt a.enc b.enc)) else M.bad) h = _
  rw [if_pos c, O.dlt]
  rfl
theorem opEq_enc (ha : a.dp ≤ 29) (hb : b.dp ≤ 29) : opEq a.enc b.enc h = .ok (.bl (decide (a = b))) h := by
  have c : (D.sm 60 a.enc && D.sm 60 b.enc) = true := by simp [O.sm (show 2 * a.dp + 1 ≤ 60 by omega), O.sm (show 2 * b.dp + 1 ≤ 60 by omega)]
  show (if (D.sm 60 a.enc && D.sm 60 b.enc) = true then M.pure (D.bl (D.eqv a.enc b.enc)) else M.bad) h = _
  rw [if_pos c, O.eqv]
  rfl
theorem opNe_enc (ha : a.dp ≤ 29) (hb : b.dp ≤ 29) : opNe a.enc b.enc h = .ok (.bl (!decide (a = b))) h := by
  have c : (D.sm 60 a.enc && D.sm 60 b.enc) = true := by simp [O.sm (show 2 * a.dp + 1 ≤ 60 by omega), O.sm (show 2 * b.dp + 1 ≤ 60 by omega)]
  show (if (D.sm 60 a.enc && D.sm 60 b.enc) = true then M.pure (D.bl (!D.eqv a.enc b.enc)) else M.bad) h = _
  rw [if_pos c, O.eqv]
  rfl
theorem smL {n : Nat} (hL : ∀ x ∈ L, x.dp ≤ 28) (hn : 58 ≤ n) : (L.map O.enc).all (D.sm n) = true := by
  rw [List.all_map, List.all_eq_true]
  intro x hx
  exact O.sm (by have := hL x hx; omega)
theorem nlL {n : Nat} (hL : ∀ x ∈ L, x.dp ≤ 28) (hn : 58 ≤ n) : (L.map O.enc).all (D.nl n) = true := by
  rw [List.all_map, List.all_eq_true]
  intro x hx
  exact O.nl (by have := hL x hx; omega)
theorem any_enc : ((L.map O.enc).any fun z => D.eqv z a.enc) = decide (a ∈ L) := by
  rw [List.any_map]
  induction L with
  | nil => simp
  | cons x L ih =>
    rw [List.any_cons, ih]
    show (D.eqv x.enc a.enc || _) = _
    rw [O.eqv]
    by_cases h1 : x = a
    · subst h1; simp
    · have h1' : ¬ a = x := fun e => h1 e.symm
      simp [h1, h1']
theorem opIn_encL {g : Bool → Bool} (ha : a.dp ≤ 28) (hL : ∀ x ∈ L, x.dp ≤ 28) : opIn g a.enc (.lst (L.map O.enc)) h = .ok (.bl (g (decide (a ∈ L)))) h := by
  have c : (D.sm 60 a.enc && D.sm 60 (.lst (L.map O.enc))) = true := by
    have : (L.map O.enc).all (D.sm 59) = true := smL hL (by omega)
    rw [O.sm (show 2 * a.dp + 1 ≤ 60 by omega)]
    simpa [D.sm] using this
  show (if (D.sm 60 a.enc && D.sm 60 (.lst (L.map O.enc))) = true then M.pure _ else M.bad) h = _
  rw [if_pos c, any_enc]
  rfl
theorem opIn_encT {g : Bool → Bool} (ha : a.dp ≤ 28) (hL : ∀ x ∈ L, x.dp ≤ 28) : opIn g a.enc (.tup (L.map O.enc)) h = .ok (.bl (g (decide (a ∈ L)))) h := by
  have c : (D.sm 60 a.enc && D.sm 60 (.tup (L.map O.enc))) = true := by
    have : (L.map O.enc).all (D.sm 59) = true := smL hL (by omega)
    rw [O.sm (show 2 * a.dp + 1 ≤ 60 by omega)]
    simpa [D.sm] using this
  show (if (D.sm 60 a.enc && D.sm 60 (.tup (L.map O.enc))) = true then M.pure _ else M.bad) h = _
  rw [if_pos c, any_enc]
  rfl
theorem eqvL : ∀ L L' : List O, PyData.eqvAll (D.toPys (L.map O.enc)) (D.toPys (L'.map O.enc)) = decide (L = L')
  | [], [] => by simp [D.toPys, PyData.eqvAll]
  | [], _ :: _ => by simp [D.toPys, PyData.eqvAll]
  | _ :: _, [] => by simp [D.toPys, PyData.eqvAll]
  | x :: L, y :: L' => by
    have e := O.eqv x y
    have r := eqvL L L'
    unfold D.eqv at e
    simp only [List.map_cons, D.toPys, PyData.eqvAll, e, r]
    by_cases h1 : x = y <;> by_cases h2 : L = L' <;> simp [h1, h2]
theorem opEq_encL (hL : ∀ x ∈ L, x.dp ≤ 28) (hM : ∀ x ∈ L', x.dp ≤ 28) : opEq (.lst (L.map O.enc)) (.lst (L'.map O.enc)) h = .ok (.bl (decide (L = L'))) h := by
  have c : (D.sm 60 (.lst (L.map O.enc)) && D.sm 60 (.lst (L'.map O.enc))) = true := by
    have c1 : (L.map O.enc).all (D.sm 59) = true := smL hL (by omega)
    have c2 : (L'.map O.enc).all (D.sm 59) = true := smL hM (by omega)
    simp only [D.sm, c1, c2]
    rfl
  show (if (D.sm 60 (.lst (L.map O.enc)) && D.sm 60 (.lst (L'.map O.enc))) = true then M.pure (D.bl (D.eqv (.lst (L.map O.enc)) (.lst (L'.map O.enc)))) else M.bad) h = _
  rw [if_pos c]
  have e : D.eqv (.lst (L.map O.enc)) (.lst (L'.map O.enc)) = decide (L = L') := by
    have := eqvL L L'
    simpa [D.eqv, D.toPy, PyData.eqv] using this
  rw [e]
  rfl
theorem fRemove_enc (ha : a.dp ≤ 28) (hL : ∀ x ∈ L, x.dp ≤ 28) (hm : a ∈ L) : fRemove (L.map O.enc) a.enc = some ((L.erase a).map O.enc) := by
  have c : ((L.map O.enc).all (D.sm 60) && D.sm 60 a.enc) = true := by
    rw [smL hL (by omega), O.sm (show 2 * a.dp + 1 ≤ 60 by omega)]
    rfl
  unfold fRemove
  rw [if_pos c]
  clear c
  induction L with
  | nil => cases hm
  | cons x L ih =>
    rw [List.map_cons, List.findIdx?_cons, O.eqv]
    by_cases e : x = a
    · subst e
      simp
    · have hm' : a ∈ L := by
        rcases List.mem_cons.mp hm with q | q
        · exact absurd q.symm e
        · exact q
      have i := ih (fun y hy => hL y (List.mem_cons_of_mem _ hy)) hm'
      have hb : (x == a) = false := by simp [e]
      rw [List.erase_cons, hb]
      simp only [e, decide_false, Bool.false_eq_true, if_false, Option.map_map]
      cases q : List.findIdx? (fun z => D.eqv z a.enc) (L.map O.enc) with
      | none => rw [q] at i; cases i
      | some j =>
        rw [q] at i
        simp only [Option.map_some, Option.some.injEq] at i ⊢
        show (x.enc :: L.map O.enc).eraseIdx (j + 1) = _
        rw [List.eraseIdx_cons_succ, i]
        rfl
end

/-! ### comprehensions, any, all -/
section
variable {h : MH} {t : Tgt} {te : Env → M D} {tt : Env → M Bool} {env : Env}
theorem compF_map {α : Type} {f : α → D} {g : α → D} : ∀ {xs : List α}, (∀ x ∈ xs, ∃ env1, t (f x) env = some env1 ∧ te env1 h = .ok (g x) h) → compF t mYes te env (xs.map f) h = .ok (xs.map g) h
  | [], _ => rfl
  | x :: xs, hh => by
    obtain ⟨env1, e1, e2⟩ := hh x List.mem_cons_self
    have ih := compF_map (xs := xs) fun y hy => hh y (List.mem_cons_of_mem _ hy)
    rw [List.map_cons]
    simp only [compF, e1, M.bind, mYes, M.pure, R.bind, if_true, e2, ih, List.map_cons]
theorem compF_filter {α : Type} {f : α → D} {p : α → Bool} {g : α → D} : ∀ {xs : List α}, (∀ x ∈ xs, ∃ env1, t (f x) env = some env1 ∧ tt env1 h = .ok (p x) h ∧ (p x = true → te env1 h = .ok (g x) h)) → compF t tt te env (xs.map f) h = .ok ((xs.filter p).map g) h
  | [], _ => rfl
  | x :: xs, hh => by
    obtain ⟨env1, e1, e2, e3⟩ := hh x List.mem_cons_self
    have ih := compF_filter (xs := xs) fun y hy => hh y (List.mem_cons_of_mem _ hy)
    rw [List.map_cons]
    cases q : p x with
    | true => simp only [compF, e1, M.bind, e2, R.bind, q, if_true, e3 q, ih, M.pure, List.filter_cons, List.map_cons]
    | false => simp only [compF, e1, M.bind, e2, R.bind, q, if_false, ih, List.filter_cons, Bool.false_eq_true]
/-- by what each turn gives -/
theorem compF_wp {P : D → Prop} {E : Nat → MH → Prop} : ∀ {xs : List D}, (∀ x ∈ xs, ∃ env1, t x env = some env1 ∧ wpR (te env1 h) (fun d h' => P d ∧ h' = h) E) → wpR (compF t mYes te env xs h) (fun ds h' => (∀ d ∈ ds, P d) ∧ ds.length = xs.length ∧ h' = h) E
  | [], _ => ⟨fun _ h => (by cases h), rfl, rfl⟩
  | x :: xs, hh => by
    obtain ⟨env1, e1, e2⟩ := hh x List.mem_cons_self
    have ih := compF_wp (xs := xs) fun y hy => hh y (List.mem_cons_of_mem _ hy)
    simp only [compF, e1, M.bind, mYes, M.pure, R.bind, if_true]
    rw [wpR_bind]
    refine wpR_mono e2 (fun d h' q => ?_) fun _ _ q => q
    obtain ⟨q1, rfl⟩ := q
    rw [wpR_bind]
    refine wpR_mono ih (fun ds h'' q => ?_) fun _ _ q => q
    obtain ⟨q2, q3, rfl⟩ := q
    exact ⟨fun d' hd => (List.mem_cons.mp hd).elim (fun e => e ▸ q1) (q2 d'), by simp [q3], rfl⟩
theorem wpR_calm' {α : Type} {r : R α} {Q : α → MH → Prop} {E : Nat → MH → Prop} (h : wpR r Q fun _ _ => False) : wpR r.calm Q E := by
  induction r with
  | ok a m => exact h
  | exc c m => exact h.elim
  | bad => exact h
  | pick n k ih => exact ⟨h.1, fun i hi => ih i (h.2 i hi)⟩
theorem tok_bl (b : Bool) : D.tok (.bl b) = true := by cases b <;> rfl
theorem fAll_map {α : Type} {p : α → Bool} {xs : List α} : fAll [.lst (xs.map fun x => D.bl (p x))] h = .ok (.bl (xs.all p)) h := by
  have c : (xs.map fun x => D.bl (p x)).all D.tok = true := by
    rw [List.all_map, List.all_eq_true]
    intro x _
    exact tok_bl _
  show (if _ then M.pure (D.bl _) else M.bad) h = _
  rw [if_pos c, List.all_map]
  rfl
theorem fAny_map {α : Type} {p : α → Bool} {xs : List α} : fAny [.lst (xs.map fun x => D.bl (p x))] h = .ok (.bl (xs.any p)) h := by
  have c : (xs.map fun x => D.bl (p x)).all D.tok = true := by
    rw [List.all_map, List.all_eq_true]
    intro x _
    exact tok_bl _
  show (if _ then M.pure (D.bl _) else M.bad) h = _
  rw [if_pos c, List.any_map]
  rfl
end
end AG
/-! AgR: how the parts are worked out (simp). -/
namespace AG
open PySem L2

section
variable {α β : Type} {h : MH} {env : Env} {a b c m : Env → M D} {t u : Env → M Bool} {s s' : Env → M Fl} {ms mf mg : Env → M (List D)} {i j : Nat} {d : D}
@[simp] theorem rb_ok {x : α} {f : α → MH → R β} : (R.ok x h).bind f = f x h := id rfl
@[simp] theorem rb_exc {n : Nat} {f : α → MH → R β} : (R.exc n h : R α).bind f = .exc n h := id rfl
@[simp] theorem rb_bad {f : α → MH → R β} : (R.bad : R α).bind f = .bad := id rfl
@[simp] theorem rb_pick {n : Nat} {k : Nat → R α} {f : α → MH → R β} : (R.pick n k).bind f = .pick n fun i => (k i).bind f := id rfl
@[simp] theorem ev_bind {x : M α} {f : α → M β} : M.bind x f h = (x h).bind fun y h' => f y h' := id rfl
@[simp] theorem ev_pure {x : α} : M.pure x h = .ok x h := id rfl
@[simp] theorem ev_bad : (M.bad : M α) h = .bad := id rfl
@[simp] theorem ev_exc {n : Nat} : (M.exc n : M α) h = .exc n h := id rfl
@[simp] theorem calm_ok {x : α} : (R.ok x h).calm = .ok x h := id rfl
@[simp] theorem lent_pick {n : Nat} {ok : α → Bool} {k : Nat → R α} : (R.pick n k).lent ok = .pick n fun i => (k i).lent ok := id rfl
@[simp] theorem lent_ok {ok : α → Bool} {x : α} : (R.ok x h).lent ok = if (ok x && h.all MO.nl) = true then .ok x h else .bad := id rfl
@[simp] theorem wp_ok {x : α} {Q : α → MH → Prop} {E : Nat → MH → Prop} : wpR (.ok x h) Q E ↔ Q x h := Iff.intro id id
@[simp] theorem wp_exc {n : Nat} {Q : α → MH → Prop} {E : Nat → MH → Prop} : wpR (.exc n h : R α) Q E ↔ E n h := Iff.intro id id
@[simp] theorem wp_bad {Q : α → MH → Prop} {E : Nat → MH → Prop} : wpR (.bad : R α) Q E ↔ False := Iff.intro id id
@[simp] theorem ev_seq : mSeq s s' env h = (s env h).bind fun fl h' => (match fl with | .nx e => s' e | fl => M.pure fl) h' := id rfl
@[simp] theorem ev_set : mSet i a env h = (a env h).bind fun x h' => .ok (.nx (env.set i (.v x))) h' := id rfl
@[simp] theorem ev_setOwn : mSetOwn i mf env h = (mf env h).bind fun x h' => .ok (.nx (env.set i (.own x))) h' := id rfl
@[simp] theorem ev_setT {tg : Tgt} : mSetT tg a env h = (a env h).bind fun x h' => (match tg x env with | some e => M.pure (Fl.nx e) | none => M.bad) h' := id rfl
@[simp] theorem ev_ret : mRet a env h = (a env h).bind fun x h' => .ok (.rt x) h' := id rfl
@[simp] theorem ev_retN : mRetN env h = .ok (.rt .non) h := id rfl
@[simp] theorem ev_expr : mExpr a env h = (a env h).bind fun _ h' => .ok (.nx env) h' := id rfl
@[simp] theorem ev_if : mIf t s s' env h = (t env h).bind fun x h' => (if x = true then s env else s' env) h' := id rfl
@[simp] theorem ev_par : mPar i j ms env h = (ms env h).bind fun ds h' => (match ds with | [x, y] => M.pure (Fl.nx ((env.set i (.v x)).set j (.v y))) | _ => M.bad) h' := id rfl
@[simp] theorem ev_parOwn : mParOwn i j mf mg env h = (mf env h).bind fun xs h' => (mg env h').bind fun ys h'' => .ok (.nx ((env.set i (.own xs)).set j (.own ys))) h'' := id rfl
@[simp] theorem ev_nx : mNx env h = .ok (.nx env) h := id rfl
@[simp] theorem ev_bk : mBk env h = .ok (.bk env) h := id rfl
@[simp] theorem ev_ct : mCt env h = .ok (.ct env) h := id rfl
@[simp] theorem ev_for {tg : Tgt} : mFor ms tg s env h = (ms env h).bind fun xs h' => loopF tg s xs env h' := id rfl
@[simp] theorem ev_bin {f : DOp} : mBin f a b env h = (a env h).bind fun x h' => (b env h').bind fun y h'' => f x y h'' := id rfl
@[simp] theorem ev_c : mC d env h = .ok d h := id rfl
@[simp] theorem ev_truth : mTruth a env h = (a env h).bind fun x h' => truthM x h' := id rfl
@[simp] theorem ev_test : mTest a env h = (a env h).bind fun x h' => blM x h' := id rfl
@[simp] theorem ev_blM {x : Bool} : blM (.bl x) h = .ok x h := id rfl
@[simp] theorem ev_truthB {x : Bool} : truthM (.bl x) h = .ok x h := id rfl
@[simp] theorem ev_truthI {x : Int} : truthM (.int x) h = .ok (x != 0) h := id rfl
@[simp] theorem ev_truthN : truthM .non h = .ok false h := id rfl
@[simp] theorem ev_truthT {x : List D} : truthM (.tup x) h = .ok (!x.isEmpty) h := id rfl
@[simp] theorem ev_truthL {x : List D} : truthM (.lst x) h = .ok (!x.isEmpty) h := id rfl
@[simp] theorem ev_andT : mAndT t u env h = (t env h).bind fun x h' => (if x = true then u env else M.pure false) h' := id rfl
@[simp] theorem ev_orT : mOrT t u env h = (t env h).bind fun x h' => (if x = true then M.pure true else u env) h' := id rfl
@[simp] theorem ev_notT : mNotT t env h = (t env h).bind fun x h' => .ok (!x) h' := id rfl
@[simp] theorem ev_andV : mAndV a b env h = (a env h).bind fun x h' => (truthM x h').bind fun y h'' => (if y = true then b env else M.pure x) h'' := id rfl
@[simp] theorem ev_orV : mOrV a b env h = (a env h).bind fun x h' => (truthM x h').bind fun y h'' => (if y = true then M.pure x else b env) h'' := id rfl
@[simp] theorem ev_notV : mNotV a env h = (a env h).bind fun x h' => (truthM x h').bind fun y h'' => .ok (.bl (!y)) h'' := id rfl
@[simp] theorem ev_ifE : mIfE t a b env h = (t env h).bind fun x h' => (if x = true then a env else b env) h' := id rfl
@[simp] theorem ev_nil : mNil env h = .ok [] h := id rfl
@[simp] theorem ev_cons : mCons a ms env h = (a env h).bind fun x h' => (ms env h').bind fun xs h'' => .ok (x :: xs) h'' := id rfl
@[simp] theorem ev_tup : mTup ms env h = (ms env h).bind fun xs h' => (if xs.length ≤ 16777216 then M.pure (.tup xs) else M.bad) h' := id rfl
@[simp] theorem ev_lst : mLst ms env h = (ms env h).bind fun xs h' => (if xs.length ≤ 16777216 then M.pure (.lst xs) else M.bad) h' := id rfl
@[simp] theorem ev_lstF : mLstF ms env h = (ms env h).bind fun xs h' => (if xs.length ≤ 16777216 then M.pure xs else M.bad) h' := id rfl
@[simp] theorem ev_listF : mListF ms env h = (ms env h).bind fun xs h' => itemsF xs h' := id rfl
@[simp] theorem ev_itemsF {x : D} : itemsF [x] h = itemsM x h := id rfl
@[simp] theorem ev_itemsL {x : List D} : itemsM (.lst x) h = .ok x h := id rfl
@[simp] theorem ev_itemsT {x : List D} : itemsM (.tup x) h = .ok x h := id rfl
@[simp] theorem ev_frz : mFrz mf env h = (mf env h).bind fun xs h' => .ok (.lst xs) h' := id rfl
@[simp] theorem ev_un {f : D → M D} : mUn f a env h = (a env h).bind fun x h' => f x h' := id rfl
@[simp] theorem ev_neg {x : Int} : opNeg (.int x) h = .ok (.int (-x)) h := id rfl
@[simp] theorem ev_rev {x : List D} : opRev (.lst x) h = .ok (.lst x.reverse) h := id rfl
@[simp] theorem ev_call {f : LOp} : mCall f ms env h = (ms env h).bind fun xs h' => f xs h' := id rfl
@[simp] theorem ev_callN {f : LOp} {n : Nat} : mCallN n f ms env h = (ms env h).bind fun xs h' => (if xs.length = n then f xs else M.bad) h' := id rfl
@[simp] theorem ev_call0 {f : LOp} : mCall0 f env h = (f [] h).calm := id rfl
@[simp] theorem ev_items : mItems a env h = (a env h).bind fun x h' => itemsM x h' := id rfl
@[simp] theorem ev_rng1 : mRng1 a env h = (a env h).bind fun x h' => rng1M x h' := id rfl
@[simp] theorem ev_rng2 : mRng2 a b env h = (a env h).bind fun x h' => (b env h').bind fun y h'' => rng2M x y h'' := id rfl
@[simp] theorem ev_part : mPart a env h = (a env h).bind fun x h' => partM x h' := id rfl
@[simp] theorem ev_partM {x : Int} : partM (.int x) h = .ok (some x) h := id rfl
@[simp] theorem ev_noPart : mNoPart env h = .ok none h := id rfl
@[simp] theorem ev_sl {lo hi : Env → M (Option Int)} : mSl a lo hi env h = (a env h).bind fun x h' => (lo env h').bind fun l h'' => (hi env h'').bind fun u h3 => opSl x l u h3 := id rfl
@[simp] theorem ev_slT {x : List D} {l u : Option Int} : opSl (.tup x) l u h = .ok (.tup (cutD x l u)) h := id rfl
@[simp] theorem ev_slL {x : List D} {l u : Option Int} : opSl (.lst x) l u h = .ok (.lst (cutD x l u)) h := id rfl
@[simp] theorem ev_lc {tg : Tgt} {vs : List Nat} : mLc ms tg t a vs env h = (ms env h).bind fun xs h' => (if xs.length ≤ 16777216 then (fun h => (compF tg t a (wipeE env vs) xs h).calm) else M.bad) h' := id rfl
@[simp] theorem ev_isi {g : PyData → Bool} : mIsi g a env h = (a env h).bind fun x h' => (if D.sm 60 x = true then M.pure (.bl (g x.toPy)) else M.bad) h' := id rfl
@[simp] theorem ev_fn {n : Nat} {ds : List D} : mFn n s ds h = (s (ds.map Slot.v ++ List.replicate (n - ds.length) Slot.no) h).bind fun fl h' => flD fl h' := id rfl
@[simp] theorem ev_flR {x : D} : flD (.rt x) h = .ok x h := id rfl
@[simp] theorem ev_flN {e : Env} : flD (.nx e) h = .ok .non h := id rfl
@[simp] theorem ev_var (he : env[i]? = some (.v d)) : mVar i env h = .ok d h := by
  unfold mVar
  rw [he]
  rfl
@[simp] theorem ev_ownM {f : List D → D → Option (List D)} {ds : List D} (he : env[i]? = some (.own ds)) : mOwnM f i a env h = (a env h).bind fun y h' => (match f ds y with | some es => M.pure (Fl.nx (env.set i (.own es))) | none => M.bad) h' := by
  unfold mOwnM
  rw [he]
  rfl
@[simp] theorem ev_frzO {ds : List D} (he : env[i]? = some (.own ds)) : mFrzB i s env h = s (env.set i (.v (.lst ds))) h := by
  unfold mFrzB
  rw [he]
@[simp] theorem ev_frzV {x : D} (he : env[i]? = some (.v x)) : mFrzB i s env h = s env h := by
  unfold mFrzB
  rw [he]
@[simp] theorem ev_borO {ds : List D} (he : env[i]? = some (.own ds)) : mBor i a env h = (a (env.set i (.v (.lst ds))) h).lent (D.nl 60) := by
  unfold mBor mBorR
  rw [he]
@[simp] theorem ev_borTO {ds : List D} (he : env[i]? = some (.own ds)) : mBorT i t env h = (t (env.set i (.v (.lst ds))) h).lent (fun _ => true) := by
  unfold mBorT mBorR
  rw [he]
@[simp] theorem ev_borFO {ds : List D} (he : env[i]? = some (.own ds)) : mBorF i mf env h = (mf (env.set i (.v (.lst ds))) h).lent (fun ds => ds.all (D.nl 60)) := by
  unfold mBorF mBorR
  rw [he]
@[simp] theorem ev_aug {f : DOp} {x : D} (he : env[i]? = some (.v x)) : mAug f i a env h = (a env h).bind fun y h' => (f x y h').bind fun z h'' => .ok (.nx (env.set i (.v z))) h'' := by
  unfold mAug
  rw [he]
  rfl
@[simp] theorem ev_setIxOwn {ds : List D} (he : env[i]? = some (.own ds)) : mSetIxOwn i a b env h = (b env h).bind fun v h' => (a env h').bind fun j h'' => (match j with | .int k => (match ixN ds.length k with | some t => M.pure (Fl.nx (env.set i (.own (ds.set t v)))) | none => M.bad) | _ => M.bad) h'' := by
  unfold mSetIxOwn
  rw [he]
  show ((b env h).bind fun v h' => _) = _
  congr
  funext v h'
  show ((a env h').bind fun j h'' => _) = _
  congr
  funext k h''
  cases k <;> rfl
@[simp] theorem loop_nil {tg : Tgt} : loopF tg s [] env h = .ok (.nx env) h := id rfl
@[simp] theorem tgName_ {x : D} : tgName i x env = some (env.set i (.v x)) := id rfl
@[simp] theorem op_addI {x y : Int} : opAdd (.int x) (.int y) h = .ok (.int (x + y)) h := id rfl
@[simp] theorem aug_addI {x y : Int} : augAdd (.int x) (.int y) h = .ok (.int (x + y)) h := id rfl
@[simp] theorem op_subI {x y : Int} : opSub (.int x) (.int y) h = .ok (.int (x - y)) h := id rfl
@[simp] theorem op_eqI {x y : Int} : opEq (.int x) (.int y) h = .ok (.bl (decide (x = y))) h := id rfl
@[simp] theorem op_neI {x y : Int} : opNe (.int x) (.int y) h = .ok (.bl (!decide (x = y))) h := id rfl
@[simp] theorem op_ltI {x y : Int} : opLt (.int x) (.int y) h = .ok (.bl (decide (x < y))) h := id rfl
@[simp] theorem op_gtI {x y : Int} : opGt (.int x) (.int y) h = .ok (.bl (decide (y < x))) h := id rfl
@[simp] theorem op_leI {x y : Int} : opLe (.int x) (.int y) h = .ok (.bl (decide (x ≤ y))) h := id rfl
@[simp] theorem op_geI {x y : Int} : opGe (.int x) (.int y) h = .ok (.bl (decide (y ≤ x))) h := id rfl
@[simp] theorem op_addT {x y : List D} : opAdd (.tup x) (.tup y) h = (if x.length + y.length ≤ 16777216 then .ok (.tup (x ++ y)) h else .bad) := by
  show (if x.length + y.length ≤ 16777216 then M.pure (D.tup (x ++ y)) else M.bad) h = _
  split <;> rfl
@[simp] theorem op_addL {x y : List D} : opAdd (.lst x) (.lst y) h = (if x.length + y.length ≤ 16777216 then .ok (.lst (x ++ y)) h else .bad) := by
  show (if x.length + y.length ≤ 16777216 then M.pure (D.lst (x ++ y)) else M.bad) h = _
  split <;> rfl
@[simp] theorem op_ixT {x : List D} {k : Int} : opIx (.tup x) (.int k) h = (match atI x k with | some y => .ok y h | none => .bad) := by
  show (match atI x k with | some y => M.pure y | none => M.bad) h = _
  cases atI x k <;> rfl
@[simp] theorem op_ixL {x : List D} {k : Int} : opIx (.lst x) (.int k) h = (match atI x k with | some y => .ok y h | none => .bad) := by
  show (match atI x k with | some y => M.pure y | none => M.bad) h = _
  cases atI x k <;> rfl
@[simp] theorem at_0 {x : α} {r : List α} : atI (x :: r) 0 = some x := by
  have : ((0 : Int)) < ((r.length + 1 : Nat) : Int) := by omega
  simp [atI, ixN, this]
@[simp] theorem at_1 {x y : α} {r : List α} : atI (x :: y :: r) 1 = some y := by
  have : ((1 : Int)) < ((r.length + 1 + 1 : Nat) : Int) := by omega
  simp only [atI, ixN, List.length_cons, this, if_true]
  rfl
@[simp] theorem f_lenT {x : List D} : fLen [.tup x] h = .ok (.int x.length) h := id rfl
@[simp] theorem f_lenL {x : List D} : fLen [.lst x] h = .ok (.int x.length) h := id rfl
@[simp] theorem f_intI {x : Int} : fInt [.int x] h = .ok (.int x) h := id rfl
@[simp] theorem f_intB {x : Bool} : fInt [.bl x] h = .ok (.int (if x then 1 else 0)) h := id rfl
@[simp] theorem f_listL {x : List D} : fList [.lst x] h = .ok (.lst x) h := id rfl
@[simp] theorem f_listT {x : List D} : fList [.tup x] h = .ok (.lst x) h := id rfl
@[simp] theorem f_tupL {x : List D} : fTuple [.lst x] h = .ok (.tup x) h := id rfl
@[simp] theorem f_tupT {x : List D} : fTuple [.tup x] h = .ok (.tup x) h := id rfl
theorem rng1_nat {n : Nat} (hn : n < 4611686018427387904) : rng1M (.int n) h = .ok (rngD 0 n) h := by
  have c : rngOk n = true := by simp [rngOk]; omega
  show (if rngOk n = true then M.pure (rngD 0 (n : Int).toNat) else M.bad) h = _
  rw [if_pos c]
  rfl
end
/-- a loop by what each turn gives -/
theorem loopF_cons {tg : Tgt} {s : Env → M Fl} {x : D} {xs : List D} {env env1 : Env} {h h' : MH} (ht : tg x env = some env1) {e : Env} (hs : s env1 h = .ok (.nx e) h') : loopF tg s (x :: xs) env h = loopF tg s xs e h' := by
  simp only [loopF, ht, ev_bind, hs, rb_ok]
theorem loopF_ct {tg : Tgt} {s : Env → M Fl} {x : D} {xs : List D} {env env1 : Env} {h h' : MH} (ht : tg x env = some env1) {e : Env} (hs : s env1 h = .ok (.ct e) h') : loopF tg s (x :: xs) env h = loopF tg s xs e h' := by
  simp only [loopF, ht, ev_bind, hs, rb_ok]
theorem loopF_rt {tg : Tgt} {s : Env → M Fl} {x : D} {xs : List D} {env env1 : Env} {h h' : MH} (ht : tg x env = some env1) {d : D} (hs : s env1 h = .ok (.rt d) h') : loopF tg s (x :: xs) env h = .ok (.rt d) h' := by
  simp only [loopF, ht, ev_bind, hs, rb_ok, ev_pure]
theorem loopF_bk {tg : Tgt} {s : Env → M Fl} {x : D} {xs : List D} {env env1 : Env} {h h' : MH} (ht : tg x env = some env1) {e : Env} (hs : s env1 h = .ok (.bk e) h') : loopF tg s (x :: xs) env h = .ok (.nx e) h' := by
  simp only [loopF, ht, ev_bind, hs, rb_ok, ev_pure]
/-- a while by a turn -/
theorem while_go {c : Env → M Bool} {s : Env → M Fl} {k : Nat} {env e : Env} {h h' h'' : MH} (hc : c env h = .ok true h') (hs : s env h' = .ok (.nx e) h'') : whileF c s (k + 1) env h = whileF c s k e h'' := by
  simp only [whileF, ev_bind, hc, rb_ok, if_true, hs]
theorem while_end {c : Env → M Bool} {s : Env → M Fl} {k : Nat} {env : Env} {h h' : MH} (hc : c env h = .ok false h') : whileF c s (k + 1) env h = .ok (.nx env) h' := by
  simp only [whileF, ev_bind, hc, rb_ok, Bool.false_eq_true, if_false, ev_pure]
/-- a loop with ways: an invariant -/
theorem loopF_wp {tg : Tgt} {s : Env → M Fl} {I : Env → Prop} {h : MH} {E : Nat → MH → Prop} : ∀ {xs : List D} {env : Env}, I env → (∀ x ∈ xs, ∀ env, I env → ∃ env1, tg x env = some env1 ∧ wpR (s env1 h) (fun fl h' => h' = h ∧ ∃ e, fl = .nx e ∧ I e) E) →
    wpR (loopF tg s xs env h) (fun fl h' => h' = h ∧ ∃ e, fl = .nx e ∧ I e) E
  | [], env, i, _ => ⟨rfl, env, rfl, i⟩
  | x :: xs, env, i, hh => by
    obtain ⟨env1, e1, e2⟩ := hh x List.mem_cons_self env i
    simp only [loopF, e1, ev_bind]
    rw [wpR_bind]
    refine wpR_mono e2 (fun fl h' q => ?_) fun _ _ q => q
    obtain ⟨rfl, e, rfl, i2⟩ := q
    exact loopF_wp i2 fun y hy => hh y (List.mem_cons_of_mem _ hy)
/-- a draw -/
theorem draw_wp {h : MH} {i : Nat} {m : Int} {Q : D → MH → Prop} {E : Nat → MH → Prop} (hi : h[i]? = some .stream) (h0 : 0 < m) (h1 : m < 1073741824) (hq : ∀ j : Nat, (j : Int) < m → Q (.int j) h) : wpR (fDraw [.ref i, .int m] h) Q E := by
  unfold fDraw
  simp only [hi, h0, h1, and_self, if_true]
  exact ⟨by omega, fun j hj => hq j (by omega)⟩
end AG
/-! AgS: mixed sums of ordinals; counts. -/
namespace AG
open PySem L2

section
variable {h : MH} {o : O}
@[simp] theorem op_ixE {k : Int} : opIx o.enc (.int k) h = (match atI o.its k with | some y => .ok y h | none => .bad) := op_ixT
@[simp] theorem f_lenE : fLen [o.enc] h = .ok (.int o.len) h := by
  show R.ok (D.int o.its.length) h = _
  rw [O.its_len]
@[simp] theorem ev_itemsE : itemsM o.enc h = .ok o.its h := id rfl
@[simp] theorem ev_slE {l u : Option Int} : opSl o.enc l u h = .ok (.tup (cutD o.its l u)) h := id rfl
@[simp] theorem ev_truthE : truthM o.enc h = .ok (!o.its.isEmpty) h := id rfl
theorem enc_eq (o : O) : o.enc = .tup o.its := rfl
theorem at_mid {α : Type} {pre suf : List α} {x : α} : atI (pre ++ x :: suf) (pre.length : Int) = some x := L2.atI_nat (by simp)
end
namespace O
def mixIn (p : O) (n : Int) (f : O → O) : O → O
  | z => c p n (f z)
  | c q m s => if lt p q = true then c q m (mixIn p n f s) else if p = q then c p (n + m) (f s) else c p n (f (c q m s))
/-- the mixed sum -/
def mix : O → O → O
  | z, b => b
  | c p n r, b => mixIn p n (mix r) b
/-- how often a place stands in it -/
def cnt : O → O → Int
  | z, _ => 0
  | c p n r, x => (if p = x then n else 0) + r.cnt x
/-- no place above b -/
def under (b : O) : O → Prop
  | z => True
  | c p _ _ => lt p b = true
/-- numbers from 1 on, places falling -/
def nf : O → Prop
  | z => True
  | c p n r => nf p ∧ 1 ≤ n ∧ under p r ∧ nf r
theorem cnt_c (p r x : O) (n : Int) : cnt (c p n r) x = (if p = x then n else 0) + r.cnt x := rfl
theorem cnt_mixIn {p : O} {n : Int} {f : O → O} {k : O → Int} (hf : ∀ b x, cnt (f b) x = k x + cnt b x) : ∀ (b x : O), cnt (mixIn p n f b) x = (if p = x then n else 0) + k x + cnt b x
  | z, x => by rw [mixIn, cnt_c, hf]; omega
  | c q m s, x => by
    rw [mixIn]
    by_cases h1 : lt p q = true
    · rw [if_pos h1, cnt_c, cnt_mixIn hf s x, cnt_c]
      omega
    · rw [if_neg h1]
      by_cases h2 : p = q
      · rw [if_pos h2, cnt_c, hf, cnt_c]
        subst h2
        by_cases h3 : p = x
        · simp only [h3, if_true]; omega
        · simp only [h3, if_false]; omega
      · rw [if_neg h2, cnt_c, hf]
        omega
theorem cnt_mix : ∀ (a b x : O), cnt (mix a b) x = cnt a x + cnt b x
  | z, b, x => by simp [mix, cnt]
  | c p n r, b, x => by
    rw [mix, cnt_mixIn (k := fun x => cnt r x) (fun b x => cnt_mix r b x), cnt_c]
theorem under_mixIn {p t : O} {n : Int} {f : O → O} (hp : lt p t = true) : ∀ b : O, under t b → under t (mixIn p n f b)
  | z, _ => hp
  | c q m s, hb => by
    rw [mixIn]
    by_cases h1 : lt p q = true
    · rw [if_pos h1]; exact hb
    · rw [if_neg h1]
      by_cases h2 : p = q
      · rw [if_pos h2]; exact hp
      · rw [if_neg h2]; exact hp
theorem under_mix {t : O} : ∀ a b : O, under t a → under t b → under t (mix a b)
  | z, _, _, hb => hb
  | c p n r, b, ha, hb => by
    rw [mix]
    exact under_mixIn ha b hb
theorem nf_mixIn {p : O} {n : Int} {f : O → O} (hp : nf p) (hn : 1 ≤ n) (hf : ∀ b, nf b → nf (f b)) (hb : ∀ b, under p b → under p (f b)) : ∀ b : O, nf b → nf (mixIn p n f b)
  | z, _ => ⟨hp, hn, hb z trivial, hf z trivial⟩
  | c q m s, h => by
    obtain ⟨a1, a2, a3, a4⟩ := h
    rw [mixIn]
    by_cases h1 : lt p q = true
    · rw [if_pos h1]
      exact ⟨a1, a2, under_mixIn h1 s a3, nf_mixIn hp hn hf hb s a4⟩
    · rw [if_neg h1]
      by_cases h2 : p = q
      · rw [if_pos h2]
        subst h2
        exact ⟨hp, by omega, hb s a3, hf s a4⟩
      · rw [if_neg h2]
        have h3 : lt q p = true := by
          rcases lt_total p q with z | z | z
          · exact absurd z h1
          · exact absurd z h2
          · exact z
        exact ⟨hp, hn, hb _ h3, hf _ ⟨a1, a2, a3, a4⟩⟩
theorem nf_mix : ∀ a b : O, nf a → nf b → nf (mix a b)
  | z, _, _, hb => hb
  | c p n r, b, ha, hb => by
    rw [mix]
    exact nf_mixIn ha.1 ha.2.1 (fun b hb => nf_mix r b ha.2.2.2 hb) (fun b hb => under_mix r b ha.2.2.1 hb) b hb
theorem under_trans {p t : O} (h : lt p t = true) : ∀ {o : O}, under p o → under t o
  | z, _ => trivial
  | c _ _ _, hb => lt_trans hb h
theorem cnt_under {t : O} : ∀ {o x : O}, nf o → under t o → lt x t = false → cnt o x = 0
  | z, _, _, _, _ => rfl
  | c p n r, x, h, hb, hx => by
    have hp : ¬ p = x := fun e => by subst e; have hb : lt p t = true := hb; rw [hx] at hb; cases hb
    rw [cnt_c, if_neg hp, cnt_under h.2.2.2 (under_trans hb h.2.2.1) hx]
    rfl
theorem cnt_nonneg : ∀ {o : O} (x : O), nf o → 0 ≤ cnt o x
  | z, _, _ => Int.le_refl 0
  | c p n r, x, h => by
    have h1 := cnt_nonneg x h.2.2.2
    have h2 := h.2.1
    rw [cnt_c]
    by_cases e : p = x
    · rw [if_pos e]; omega
    · rw [if_neg e]; omega
/-- which of two is less, by counts -/
theorem lt_cnt : ∀ {a b : O}, nf a → nf b → lt a b = true → ∃ x, cnt a x < cnt b x ∧ ∀ y, lt x y = true → cnt a y = cnt b y
  | z, z, _, _, h => by cases h
  | z, c q m s, _, hb, _ => by
    refine ⟨q, ?_, fun y hy => ?_⟩
    · rw [cnt_c, if_pos rfl]
      have h1 := cnt_nonneg q hb.2.2.2
      have h2 := hb.2.1
      show (0 : Int) < _
      omega
    · rw [cnt_c, if_neg (lt_ne hy), cnt_under hb.2.2.2 hb.2.2.1 (lt_asymm hy)]
      rfl
  | c _ _ _, z, _, _, h => by cases h
  | c p n r, c q m s, ha, hb, h => by
    simp only [lt] at h
    by_cases e1 : p = q
    · subst e1
      by_cases e2 : n = m
      · subst e2
        simp only [if_true] at h
        obtain ⟨x, h1, h2⟩ := lt_cnt ha.2.2.2 hb.2.2.2 h
        refine ⟨x, by rw [cnt_c, cnt_c]; omega, fun y hy => by rw [cnt_c, cnt_c, h2 y hy]⟩
      · simp only [e2, if_false, if_true, decide_eq_true_eq] at h
        refine ⟨p, ?_, fun y hy => ?_⟩
        · rw [cnt_c, cnt_c, cnt_under ha.2.2.2 ha.2.2.1 (lt_irrefl p), cnt_under hb.2.2.2 hb.2.2.1 (lt_irrefl p)]
          simp only [if_true]
          omega
        · rw [cnt_c, cnt_c, cnt_under ha.2.2.2 ha.2.2.1 (lt_asymm hy), cnt_under hb.2.2.2 hb.2.2.1 (lt_asymm hy), if_neg (lt_ne hy), if_neg (lt_ne hy)]
    · simp only [e1, if_false] at h
      refine ⟨q, ?_, fun y hy => ?_⟩
      · rw [cnt_c, cnt_c, if_neg e1, if_pos rfl, cnt_under ha.2.2.2 ha.2.2.1 (lt_asymm h)]
        have h1 := cnt_nonneg q hb.2.2.2
        have h2 := hb.2.1
        omega
      · have h3 := lt_trans h hy
        rw [cnt_c, cnt_c, if_neg (lt_ne h3), if_neg (lt_ne hy), cnt_under ha.2.2.2 ha.2.2.1 (lt_asymm h3), cnt_under hb.2.2.2 hb.2.2.1 (lt_asymm hy)]
theorem cnt_ext {a b : O} (ha : nf a) (hb : nf b) (h : ∀ x, cnt a x = cnt b x) : a = b := by
  rcases lt_total a b with q | q | q
  · obtain ⟨x, h1, _⟩ := lt_cnt ha hb q
    have := h x
    omega
  · exact q
  · obtain ⟨x, h1, _⟩ := lt_cnt hb ha q
    have := h x
    omega
theorem cnt_lt {a b x : O} (ha : nf a) (hb : nf b) (h1 : cnt a x < cnt b x) (h2 : ∀ y, lt x y = true → cnt a y = cnt b y) : lt a b = true := by
  rcases lt_total a b with q | q | q
  · exact q
  · subst q; omega
  · obtain ⟨y, k1, k2⟩ := lt_cnt hb ha q
    rcases lt_total x y with z | z | z
    · have := h2 y z; omega
    · subst z; omega
    · have := k2 x z; omega
theorem mixIn_dp {p : O} {n : Int} {f : O → O} {k : Nat} (hp : p.dp < k) (hf : ∀ b, b.dp ≤ k → (f b).dp ≤ k) : ∀ b : O, b.dp ≤ k → (mixIn p n f b).dp ≤ k
  | z, _ => by rw [mixIn]; exact Nat.max_le.mpr ⟨hp, hf z (Nat.zero_le _)⟩
  | c q m s, h => by
    have h1 : q.dp + 1 ≤ k := Nat.le_trans (Nat.le_max_left _ _) h
    have h2 : s.dp ≤ k := Nat.le_trans (Nat.le_max_right _ _) h
    rw [mixIn]
    split
    · exact Nat.max_le.mpr ⟨h1, mixIn_dp hp hf s h2⟩
    · split
      · exact Nat.max_le.mpr ⟨hp, hf s h2⟩
      · exact Nat.max_le.mpr ⟨hp, hf _ h⟩
theorem mix_dp {k : Nat} : ∀ a b : O, a.dp ≤ k → b.dp ≤ k → (mix a b).dp ≤ k
  | z, _, _, hb => hb
  | c p n r, b, ha, hb => by
    rw [mix]
    exact mixIn_dp (Nat.le_trans (Nat.le_max_left _ _) ha) (fun b hb => mix_dp r b (Nat.le_trans (Nat.le_max_right _ _) ha) hb) b hb
theorem mixIn_len {p : O} {n : Int} {f : O → O} {k : Nat} (hf : ∀ b, (f b).len ≤ k + b.len) : ∀ b : O, (mixIn p n f b).len ≤ k + 1 + b.len
  | z => by
    rw [mixIn]
    have := hf z
    simp only [len] at this ⊢
    omega
  | c q m s => by
    have h1 := mixIn_len (p := p) (n := n) hf s
    have h2 := hf s
    have h3 := hf (c q m s)
    rw [mixIn]
    simp only [len] at h3 ⊢
    split
    · simp only [len]; omega
    · split <;> simp only [len] <;> omega
theorem mix_len : ∀ a b : O, (mix a b).len ≤ a.len + b.len
  | z, b => by rw [mix]; simp [len]
  | c p n r, b => by
    rw [mix]
    have := mixIn_len (p := p) (n := n) (f := mix r) (k := r.len) (fun b => mix_len r b) b
    simp only [len]
    omega
end O
end AG
/-! AgT: lists of ordinals: counts, differences; the laws' _law_same. -/
namespace AG
open PySem L2

/-- as wpR, not unfolded -/
structure Wp {α : Type} (r : R α) (Q : α → MH → Prop) (E : Nat → MH → Prop) : Prop where
  out : wpR r Q E
/-! ### what is in one and not in the other -/
def wo (L M : List O) : List O := M.foldl (fun r a => r.erase a) L
theorem count_wo : ∀ (M L : List O) (x : O), (wo L M).count x = L.count x - M.count x
  | [], L, x => by simp [wo]
  | m :: M, L, x => by
    show (wo (L.erase m) M).count x = _
    rw [count_wo M (L.erase m) x, List.count_erase, List.count_cons]
    omega
theorem mem_wo {L M : List O} {x : O} : x ∈ wo L M ↔ M.count x < L.count x := by
  rw [← List.count_pos_iff, count_wo]
  omega
theorem wo_sub {L M : List O} {x : O} (h : x ∈ wo L M) : x ∈ L := by
  have := mem_wo.mp h
  exact List.count_pos_iff.mp (by omega)

theorem wo_len : ∀ (L M : List O), (wo L M).length ≤ L.length
  | L, [] => Nat.le_refl _
  | L, m :: M => Nat.le_trans (wo_len (L.erase m) M) (List.length_erase_le ..)
/-! ### data that _law_same takes -/
def D.okN : Nat → D → Bool
  | _, .ref _ => false
  | _, .scr _ => false
  | 0, .tup _ => false
  | 0, .lst _ => false
  | n + 1, .tup xs => decide (xs.length ≤ 16777216) && xs.all (D.okN n)
  | n + 1, .lst xs => decide (xs.length ≤ 16777216) && xs.all (D.okN n)
  | _, _ => true
theorem okN_sm : ∀ {n : Nat} {d : D}, D.okN n d = true → D.sm n d = true
  | _, .non, _ => by simp [D.sm]
  | _, .bl _, _ => by simp [D.sm]
  | _, .int _, _ => by simp [D.sm]
  | _, .str _, _ => by simp [D.sm]
  | n, .ref _, h => by cases n <;> simp [D.okN] at h
  | n, .scr _, h => by cases n <;> simp [D.okN] at h
  | 0, .tup _, h => by simp [D.okN] at h
  | 0, .lst _, h => by simp [D.okN] at h
  | n + 1, .tup xs, h => by
    simp only [D.okN, Bool.and_eq_true, List.all_eq_true, D.sm] at h ⊢
    exact fun x hx => okN_sm (h.2 x hx)
  | n + 1, .lst xs, h => by
    simp only [D.okN, Bool.and_eq_true, List.all_eq_true, D.sm] at h ⊢
    exact fun x hx => okN_sm (h.2 x hx)
theorem sm_up : ∀ {n : Nat} {d : D}, D.sm n d = true → D.sm (n + 1) d = true
  | _, .non, _ => by simp [D.sm]
  | _, .bl _, _ => by simp [D.sm]
  | _, .int _, _ => by simp [D.sm]
  | _, .str _, _ => by simp [D.sm]
  | n, .ref _, h => by cases n <;> simp [D.sm] at h
  | n, .scr _, h => by cases n <;> simp [D.sm] at h
  | 0, .tup _, h => by simp [D.sm] at h
  | 0, .lst _, h => by simp [D.sm] at h
  | n + 1, .tup xs, h => by
    simp only [List.all_eq_true, D.sm] at h ⊢
    exact fun x hx => sm_up (h x hx)
  | n + 1, .lst xs, h => by
    simp only [List.all_eq_true, D.sm] at h ⊢
    exact fun x hx => sm_up (h x hx)
theorem sm_le {n m : Nat} {d : D} (hn : n ≤ m) (h : D.sm n d = true) : D.sm m d = true := by
  induction hn with
  | refl => exact h
  | step _ ih => exact sm_up ih
namespace O
/-- the greatest length in it -/
def mx : O → Nat
  | z => 0
  | c p _ r => max p.mx (max (r.len + 1) r.mx)
theorem len_mx : ∀ o : O, o.len ≤ o.mx
  | z => Nat.le_refl _
  | c p n r => Nat.le_trans (Nat.le_max_left _ _) (Nat.le_max_right _ _)
/-- every place keeps P -/
def allP (P : O → Prop) : O → Prop
  | z => True
  | c p _ r => P p ∧ allP P r
theorem allP_mixIn {P : O → Prop} {p : O} {n : Int} {f : O → O} (hp : P p) (hf : ∀ b, allP P b → allP P (f b)) : ∀ b, allP P b → allP P (mixIn p n f b)
  | z, _ => ⟨hp, hf z trivial⟩
  | c q m s, h => by
    rw [mixIn]
    split
    · exact ⟨h.1, allP_mixIn hp hf s h.2⟩
    · split
      · exact ⟨hp, hf s h.2⟩
      · exact ⟨hp, hf _ h⟩
theorem allP_mix {P : O → Prop} : ∀ a b, allP P a → allP P b → allP P (mix a b)
  | z, _, _, hb => hb
  | c p n r, b, ha, hb => by
    rw [mix]
    exact allP_mixIn ha.1 (fun b hb => allP_mix r b ha.2 hb) b hb
theorem mx_of {k : Nat} : ∀ {o : O}, o.len ≤ k → allP (fun p => p.mx ≤ k) o → o.mx ≤ k
  | z, _, _ => Nat.zero_le _
  | c p n r, hl, h => Nat.max_le.mpr ⟨h.1, Nat.max_le.mpr ⟨hl, mx_of (Nat.le_of_succ_le hl) h.2⟩⟩
theorem of_mx {k : Nat} : ∀ {o : O}, o.mx ≤ k → allP (fun p => p.mx ≤ k) o
  | z, _ => trivial
  | c p n r, h => ⟨Nat.le_trans (Nat.le_max_left _ _) h, of_mx (Nat.le_trans (Nat.le_trans (Nat.le_max_right _ _) (Nat.le_max_right _ _)) h)⟩
theorem its_ok : ∀ (o : O) (n : Nat), 2 * o.dp ≤ n → o.mx ≤ 16777216 → o.its.all (D.okN n) = true
  | z, _, _, _ => rfl
  | c p k r, n, h, hm => by
    have h1 : 2 * (p.dp + 1) ≤ n := Nat.le_trans (Nat.mul_le_mul_left 2 (Nat.le_max_left _ _)) h
    have h2 : 2 * r.dp ≤ n := Nat.le_trans (Nat.mul_le_mul_left 2 (Nat.le_max_right _ _)) h
    have m1 : p.mx ≤ 16777216 := Nat.le_trans (Nat.le_max_left _ _) hm
    have m2 : r.mx ≤ 16777216 := Nat.le_trans (Nat.le_trans (Nat.le_max_right _ _) (Nat.le_max_right _ _)) hm
    obtain ⟨m, rfl⟩ : ∃ m, n = m + 2 := ⟨n - 2, by omega⟩
    have a := its_ok p m (by omega) m1
    have b := its_ok r (m + 2) h2 m2
    have l := len_mx p
    have l' : p.its.length ≤ 16777216 := by rw [its_len]; omega
    simp [its, List.all_cons, D.okN, a, b, l']
theorem okD {o : O} (h : o.dp ≤ 29) (hm : o.mx ≤ 16777216) : D.okN 60 o.enc = true := by
  have a := its_ok o 59 (by omega) hm
  have l := len_mx o
  have l' : o.its.length ≤ 16777216 := by rw [its_len]; omega
  simp [enc, D.okN, a, l']
end O

/-! ### _law_same of the laws k51 to k56 -/
def e__law_same_1 (self__law_same : LOp) : AG.Env → M D := mCallN 2 self__law_same (mCons (mBin opIx (mVar 0) (mVar 2)) (mCons (mBin opIx (mVar 1) (mVar 2)) mNil))
def e__law_same_2 (self__law_same : LOp) : AG.Env → M D := mAndV (mBin (opIn id) (mVar 3) (mVar 1)) (mCallN 2 self__law_same (mCons (mBin opIx (mVar 0) (mVar 3)) (mCons (mBin opIx (mVar 1) (mVar 3)) mNil)))
def m__law_same (self__law_same : LOp) : AG.Env → M Fl := mSeq (mIf (mOrT (mAndT (mTruth (mIsi PyData.isTuple (mVar 0))) (mTruth (mIsi PyData.isTuple (mVar 1)))) (mAndT (mTruth (mIsi PyData.isList (mVar 0))) (mTruth (mIsi PyData.isList (mVar 1))))) (mRet (mAndV (mBin opEq (mCall fLen (mCons (mVar 0) mNil)) (mCall fLen (mCons (mVar 1) mNil))) (mCall fAll (mCons (mFrz (mLc (mRng1 (mCall fLen (mCons (mVar 0) mNil))) (tgName 2) mYes (e__law_same_1 self__law_same) [2])) mNil)))) mNx) (mSeq (mIf (mAndT (mTruth (mIsi PyData.isDict (mVar 0))) (mTruth (mIsi PyData.isDict (mVar 1)))) (mRet (mAndV (mBin opEq (mCall fLen (mCons (mVar 0) mNil)) (mCall fLen (mCons (mVar 1) mNil))) (mCall fAll (mCons (mFrz (mLc (mItems (mVar 0)) (tgName 3) mYes (e__law_same_2 self__law_same) [3])) mNil)))) mNx) (mSeq (mIf (mOrT (mAndT (mTruth (mIsi PyData.isStr (mVar 0))) (mTruth (mIsi PyData.isStr (mVar 1)))) (mAndT (mTest (mBin (opIs id) (mVar 0) (mC .non))) (mTest (mBin (opIs id) (mVar 1) (mC .non))))) (mRet (mBin opEq (mVar 0) (mVar 1))) mNx) (mSeq (mIf (mOrT (mNotT (mTruth (mIsi PyData.isInt (mVar 0)))) (mNotT (mTruth (mIsi PyData.isInt (mVar 1))))) (mRet (mC (.bl false))) mNx) (mRet (mAndV (mBin opEq (mVar 0) (mVar 1)) (mBin opEq (mIsi PyData.isBool (mVar 0)) (mIsi PyData.isBool (mVar 1))))))))
def f__law_same : LOp := recF (fun self => mFn 4 (m__law_same self)) 70
section
variable {h : MH}
@[simp] theorem op_isN {d : D} : opIs id d .non h = .ok (.bl (match d with | .non => true | _ => false)) h := by cases d <;> rfl
@[simp] theorem op_eqB {x y : Bool} : opEq (.bl x) (.bl y) h = .ok (.bl (x == y)) h := by cases x <;> cases y <;> rfl
theorem op_eqS {d : D} (hd : D.sm 60 d = true) (hr : D.eqv d d = true) : opEq d d h = .ok (.bl true) h := by
  have e : opEq d d h = .ok (.bl (D.eqv d d)) h := by
    unfold opEq
    split
    · simp [D.eqv, D.toPy, PyData.eqv]
    · rw [hd]
      rfl
  rw [e, hr]
theorem at_nat {xs : List D} {k : Nat} (hk : k < xs.length) : atI xs (k : Int) = some xs[k] := L2.atI_nat (List.getElem?_eq_getElem hk)
theorem same_all {self : LOp} {xs : List D} {X : D} (hX : X = .tup xs ∨ X = .lst xs) (hl : xs.length ≤ 16777216) (ih : ∀ x ∈ xs, self [x, x] h = .ok (.bl true) h) (sl : Slot) :
    compF (tgName 2) mYes (e__law_same_1 self) [.v X, .v X, .no, sl] (rngD 0 xs.length) h = .ok ((List.range xs.length).map fun _ => D.bl true) h := by
  refine compF_map (f := fun i : Nat => D.int (0 + (i : Int))) (g := fun _ => D.bl true) fun k hk => ?_
  have hk : k < xs.length := List.mem_range.mp hk
  refine ⟨_, rfl, ?_⟩
  have hi : atI xs (k : Int) = some xs[k] := at_nat hk
  have hs := ih xs[k] (List.getElem_mem hk)
  rcases hX with rfl | rfl
  · simp [e__law_same_1, hi, hs]
  · simp [e__law_same_1, hi, hs]
theorem fAll_yes {α : Type} {xs : List α} : fAll [.lst (xs.map fun _ => D.bl true)] h = .ok (.bl true) h := by
  rw [fAll_map]
  simp
theorem same_non {self : LOp} : mFn 4 (m__law_same self) [.non, .non] h = .ok (.bl true) h := by
  have e := op_eqS (h := h) (d := .non) (by simp [D.sm]) (by simp [D.eqv, D.toPy, PyData.eqv])
  simp [m__law_same, D.sm, D.toPy, PyData.isTuple, PyData.isList, PyData.isDict, PyData.isStr, PyData.isInt, PyData.isBool, e]
theorem same_bl' {self : LOp} {b : Bool} : mFn 4 (m__law_same self) [.bl b, .bl b] h = .ok (.bl true) h := by
  simp [m__law_same, D.sm, D.toPy, PyData.isTuple, PyData.isList, PyData.isDict, PyData.isStr, PyData.isInt, PyData.isBool]
theorem same_int' {self : LOp} {i : Int} : mFn 4 (m__law_same self) [.int i, .int i] h = .ok (.bl true) h := by
  simp [m__law_same, D.sm, D.toPy, PyData.isTuple, PyData.isList, PyData.isDict, PyData.isStr, PyData.isInt, PyData.isBool]
theorem same_str' {self : LOp} {x : Str} : mFn 4 (m__law_same self) [.str x, .str x] h = .ok (.bl true) h := by
  have e := op_eqS (h := h) (d := .str x) (by simp [D.sm]) (by simp [D.eqv, D.toPy, PyData.eqv])
  simp [m__law_same, D.sm, D.toPy, PyData.isTuple, PyData.isList, PyData.isDict, PyData.isStr, PyData.isInt, PyData.isBool, e]
theorem same_tup {self : LOp} {xs : List D} (sm : D.sm 60 (.tup xs) = true) (hl : xs.length ≤ 16777216) (ih : ∀ x ∈ xs, self [x, x] h = .ok (.bl true) h) : mFn 4 (m__law_same self) [.tup xs, .tup xs] h = .ok (.bl true) h := by
  have c := same_all (h := h) (X := .tup xs) (.inl rfl) hl ih .no
  have r := rng1_nat (h := h) (n := xs.length) (by omega)
  have l : (rngD 0 xs.length).length ≤ 16777216 := by simp [rngD, hl]
  simp [m__law_same, sm, D.toPy, PyData.isTuple, r, l, wipeE, c, fAll_yes]
theorem same_lst {self : LOp} {xs : List D} (sm : D.sm 60 (.lst xs) = true) (hl : xs.length ≤ 16777216) (ih : ∀ x ∈ xs, self [x, x] h = .ok (.bl true) h) : mFn 4 (m__law_same self) [.lst xs, .lst xs] h = .ok (.bl true) h := by
  have c := same_all (h := h) (X := .lst xs) (.inr rfl) hl ih .no
  have r := rng1_nat (h := h) (n := xs.length) (by omega)
  have l : (rngD 0 xs.length).length ≤ 16777216 := by simp [rngD, hl]
  simp [m__law_same, sm, D.toPy, PyData.isTuple, PyData.isList, r, l, wipeE, c, fAll_yes]
theorem same_step {self : LOp} {n : Nat} {d : D} (hn : n ≤ 60) (hd : D.okN n d = true) (ih : ∀ (m : Nat) (x : D), m < n → D.okN m x = true → self [x, x] h = .ok (.bl true) h) : mFn 4 (m__law_same self) [d, d] h = .ok (.bl true) h := by
  have sm := sm_le hn (okN_sm hd)
  cases d with
  | non => exact same_non
  | bl b => exact same_bl'
  | int i => exact same_int'
  | str x => exact same_str'
  | ref m => cases n <;> simp [D.okN] at hd
  | scr m => cases n <;> simp [D.okN] at hd
  | tup xs =>
    cases n with
    | zero => simp [D.okN] at hd
    | succ n =>
      simp only [D.okN, Bool.and_eq_true, decide_eq_true_eq, List.all_eq_true] at hd
      exact same_tup sm hd.1 fun x hx => ih n x (Nat.lt_succ_self n) (hd.2 x hx)
  | lst xs =>
    cases n with
    | zero => simp [D.okN] at hd
    | succ n =>
      simp only [D.okN, Bool.and_eq_true, decide_eq_true_eq, List.all_eq_true] at hd
      exact same_lst sm hd.1 fun x hx => ih n x (Nat.lt_succ_self n) (hd.2 x hx)
theorem same_refl (k : Nat) : ∀ (n : Nat) (d : D), n ≤ 60 → D.okN n d = true → n < k → recF (fun self => mFn 4 (m__law_same self)) k [d, d] h = .ok (.bl true) h := by
  induction k with
  | zero => exact fun n d _ _ hk => absurd hk (Nat.not_lt_zero _)
  | succ k ih =>
    intro n d hn hd hk
    show mFn 4 (m__law_same (recF (fun self => mFn 4 (m__law_same self)) k)) [d, d] h = _
    exact same_step hn hd fun m x hm hx => ih m x (by omega) hx (by omega)
theorem same_ok {d : D} (hd : D.okN 60 d = true) : f__law_same [d, d] h = .ok (.bl true) h := same_refl 70 60 d (Nat.le_refl _) hd (by decide)
theorem same_int {i : Int} : f__law_same [.int i, .int i] h = .ok (.bl true) h := same_ok rfl
theorem same_bl {i : Bool} : f__law_same [.bl i, .bl i] h = .ok (.bl true) h := same_ok rfl
end
end AG
namespace L_k56
open PySem L2 AG PyProof.Rows
section
variable {P : Program} {w : World} {K : PySem.W.Frag} {mg : Str → Option Value} {base : Heap} {ca : Nat → Addr}
def top (i : Nat) : Stmt := PySem.Challenge.pw_allgrades_k56_whole_bags_of_ordinals.main.body.getD i (.Pass ⟨0, 0, 0, 0⟩)
abbrev s__law_stream : Stmt := top 9
def N__law_stream : List Str := ["script", "blend", "cell"]
theorem sc__law_stream : FnScope N__law_stream ["script"] (defScope s__law_stream) := C8.fnScope_by (by decide +kernel)
theorem ok__law_stream (D__law_stream : DefOk K mg "_law_stream" s__law_stream ["script"]) (z_int : mg "int" = none) (z_list : mg "list" = none) : FnM P w K mg base ca 1 "_law_stream" 1 fg__law_stream := fnm_mk D__law_stream sc__law_stream (fun f cdv A outer s H E hr => by
    have nd := sc__law_stream.nd
    have tk := takes_of (X := cxOf (L2.CX P w) P w K mg base N__law_stream "_law_stream" (defScope s__law_stream) f cdv A outer s H E) rfl rfl rfl rfl
    exact mss_cons (ms_set (i := 1) me_int nd) (mss_cons (ms_for (passes_of rfl) rfl (mi_seq (me_var 0)) (pg_name (i := 2) nd rfl (by first | exact Or.inl rfl | exact Or.inr rfl)) (gok_name (i := 2) (vs := [2]) (by decide)) (mss_one (ms_set (i := 1) (me_mod (me_int1 z_int (ma_cons (me_add (me_add (me_mul (me_var 1) me_int) (me_mod (me_int1 z_int (ma_cons (me_var 2) ma_nil)) me_int)) me_int) ma_nil)) me_int) nd))) (mss_one (ms_ret (me_newLst (ma_cons (me_list1 z_list (ma_cons (me_var 0) ma_nil)) (ma_cons me_int (ma_cons me_int (ma_cons (me_var 1) ma_nil)))))))))
theorem ok2__law_stream (F : FnM P w K mg base ca 1 "_law_stream" 1 fg__law_stream) : FnM P w K mg base ca 1 "_law_stream" 1 fStream := fnm_stream F stream_gen
abbrev f__law_stream : LOp := fStream
abbrev s__law_without : Stmt := top 17
def N__law_without : List Str := ["one", "two", "rest", "a"]
theorem sc__law_without : FnScope N__law_without ["one", "two"] (defScope s__law_without) := C8.fnScope_by (by decide +kernel)
def b__law_without_1 : AG.Env → M Fl := mIf (mBorT 2 (mTest (mBin (opIn id) (mVar 3) (mVar 2)))) (mOwnM fRemove 2 (mVar 3)) mNx
def m__law_without : AG.Env → M Fl := mSeq (mSetOwn 2 (mListF (mCons (mVar 0) mNil))) (mSeq (mFor (mItems (mVar 1)) (tgName 3) b__law_without_1) (mFrzB 2 (mRet (mVar 2))))
def f__law_without : LOp := mFn 4 m__law_without
theorem ok__law_without (D__law_without : DefOk K mg "_law_without" s__law_without ["one", "two"]) (z_list : mg "list" = none) : FnM P w K mg base ca 1 "_law_without" 2 f__law_without := fnm_mk D__law_without sc__law_without (fun f cdv A outer s H E hr => by
    have nd := sc__law_without.nd
    have tk := takes_of (X := cxOf (L2.CX P w) P w K mg base N__law_without "_law_without" (defScope s__law_without) f cdv A outer s H E) rfl rfl rfl rfl
    exact mss_cons (ms_setOwn (i := 2) (mf_list1 z_list (ma_cons (me_var 0) ma_nil)) nd) (mss_cons (ms_for (passes_of rfl) rfl (mi_seq (me_var 1)) (pg_name (i := 3) nd rfl (by first | exact Or.inl rfl | exact Or.inr rfl)) (gok_name (i := 3) (vs := [3]) (by decide)) (mss_one (ms_if (mt_bor 2 (mt_in hr (me_var 3) (me_var 2))) (mss_one (ms_own PySem.F.slot_list_remove PySem.F.type_list_remove (mt_removeD (hu66 hr)) om_remove 2 (me_var 3))) mss_nil))) (mss_one (ms_frz 2 (ms_ret (me_var 2))))))
abbrev s__law_order : Stmt := top 18
def N__law_order : List Str := ["one", "two", "first", "second", "is_less", "a", "b"]
theorem sc__law_order : FnScope N__law_order ["one", "two"] (defScope s__law_order) := C8.fnScope_by (by decide +kernel)
def e__law_order_1 : AG.Env → M D := mBin opLt (mVar 5) (mVar 6)
def e__law_order_2 : AG.Env → M D := mCall fAny (mCons (mFrz (mLc (mItems (mVar 3)) (tgName 6) mYes e__law_order_1 [6])) mNil)
def m__law_order : AG.Env → M Fl := mSeq (mSetT (tgTup [tgName 2, tgName 3]) (mTup (mCons (mCallN 2 f__law_without (mCons (mVar 0) (mCons (mVar 1) mNil))) (mCons (mCallN 2 f__law_without (mCons (mVar 1) (mCons (mVar 0) mNil))) mNil)))) (mSeq (mIf (mAndT (mTest (mBin opEq (mVar 2) (mLst mNil))) (mTest (mBin opEq (mVar 3) (mLst mNil)))) (mRet (mC (.int 0))) mNx) (mSeq (mSet 4 (mCall fAll (mCons (mFrz (mLc (mItems (mVar 2)) (tgName 5) mYes e__law_order_2 [5])) mNil))) (mRet (mIfE (mTruth (mVar 4)) (mUn opNeg (mC (.int 1))) (mC (.int 1))))))
def f__law_order : LOp := mFn 7 m__law_order
theorem ok__law_order (D__law_order : DefOk K mg "_law_order" s__law_order ["one", "two"]) (z_any : mg "any" = none) (z_all : mg "all" = none) (F__law_without : FnM P w K mg base ca 1 "_law_without" 2 f__law_without) : FnM P w K mg base ca 2 "_law_order" 2 f__law_order := fnm_mk D__law_order sc__law_order (fun f cdv A outer s H E hr => by
    have nd := sc__law_order.nd
    have tk := takes_of (X := cxOf (L2.CX P w) P w K mg base N__law_order "_law_order" (defScope s__law_order) f cdv A outer s H E) rfl rfl rfl rfl
    exact mss_cons (ms_setT (me_tup (ma_cons (me_call F__law_without (hr.mono (by decide)) tk (ma_cons (me_var 0) (ma_cons (me_var 1) ma_nil))) (ma_cons (me_call F__law_without (hr.mono (by decide)) tk (ma_cons (me_var 1) (ma_cons (me_var 0) ma_nil))) ma_nil))) (pg_tup (n := 2) rfl (pgs_cons (pg_name (i := 2) nd rfl (by first | exact Or.inl rfl | exact Or.inr rfl)) (pgs_cons (pg_name (i := 3) nd rfl (by first | exact Or.inl rfl | exact Or.inr rfl)) pgs_nil))) (gok_tup (n := 2) rfl (gsok_cons (gok_name (i := 2) (vs := [2, 3]) (by decide)) (gsok_cons (gok_name (i := 3) (vs := [2, 3]) (by decide)) gsok_nil)))) (mss_cons (ms_if (mw_pt (mw_and (mt_eq hr (me_var 2) (me_lst ma_nil)) (mw_and1 (mt_eq hr (me_var 3) (me_lst ma_nil))))) (mss_one (ms_ret me_int)) mss_nil) (mss_cons (ms_set (i := 4) (me_all rfl z_all (ma_cons (me_of_mf (mf_lc (own := [("a", 5)]) rfl nd (mi_seq (me_var 2)) (blkOk_by (N := N__law_order) (sc := defScope s__law_order) (own := [("a", 5)]) (by decide +kernel)) (gok_name (i := 5) (vs := [5]) (by decide)) (fun _ _ _ _ _ => pg_name (i := 5) nd rfl (by first | exact Or.inl rfl | exact Or.inr rfl)) (fun _ _ _ _ _ => mts_nil) (fun _ _ _ _ _ => me_any rfl z_any (ma_cons (me_of_mf (mf_lc (own := [("b", 6)]) rfl nd (mi_seq (me_var 3)) (blkOk_by (N := N__law_order) (sc := relS _ (defScope s__law_order)) (own := [("b", 6)]) (by decide +kernel)) (gok_name (i := 6) (vs := [6]) (by decide)) (fun _ _ _ _ _ => pg_name (i := 6) nd rfl (by first | exact Or.inl rfl | exact Or.inr rfl)) (fun _ _ _ _ _ => mts_nil) (fun _ _ _ _ _ => me_lt hr (me_var 5) (me_var 6)))) ma_nil)))) ma_nil)) nd) (mss_one (ms_ret (me_if (mt_truth (me_var 4)) (me_neg me_int) me_int))))))
abbrev s__law_draw : Stmt := top 10
def N__law_draw : List Str := ["stream", "many", "value"]
theorem sc__law_draw : FnScope N__law_draw ["stream", "many"] (defScope s__law_draw) := C8.fnScope_by (by decide +kernel)
theorem ok__law_draw (D__law_draw : DefOk K mg "_law_draw" s__law_draw ["stream", "many"]) (z_len : mg "len" = none) (z_int : mg "int" = none) (z_abs : mg "abs" = none) : FnM P w K mg base ca 1 "_law_draw" 2 fg__law_draw := fnm_mk D__law_draw sc__law_draw (fun f cdv A outer s H E hr => by
    have nd := sc__law_draw.nd
    have tk := takes_of (X := cxOf (L2.CX P w) P w K mg base N__law_draw "_law_draw" (defScope s__law_draw) f cdv A outer s H E) rfl rfl rfl rfl
    exact mss_cons (ms_if (mw_pt (mw_and (mt_eq hr (me_ix (me_var 0) me_int (fun _ _ => rfl)) me_int) (mw_and1 (mt_lt hr (me_ix (me_var 0) me_int (fun _ _ => rfl)) (me_len z_len (ma_cons (me_ix (me_var 0) me_int (fun _ _ => rfl)) ma_nil)))))) (mss_cons (ms_setIx (me_abs z_abs (ma_cons (me_int1 z_int (ma_cons (me_ix (me_ix (me_var 0) me_int (fun _ _ => rfl)) (me_ix (me_var 0) me_int (fun _ _ => rfl)) (fun _ _ => rfl)) ma_nil)) ma_nil)) (me_var 0) me_int) (mss_one (ms_setIx (me_add (me_ix (me_var 0) me_int (fun _ _ => rfl)) me_int) (me_var 0) me_int))) mss_nil) (mss_cons (ms_if (mt_eq hr (me_ix (me_var 0) me_int (fun _ _ => rfl)) me_int) (mss_cons (ms_setIx (me_mod (me_int1 z_int (ma_cons (me_add (me_mul (me_ix (me_var 0) me_int (fun _ _ => rfl)) me_int) me_int) ma_nil)) me_int) (me_var 0) me_int) (mss_one (ms_ret (me_mod (me_int1 z_int (ma_cons (me_div (me_ix (me_var 0) me_int (fun _ _ => rfl)) me_int) ma_nil)) (me_var 1))))) mss_nil) (mss_cons (ms_set (i := 2) (me_mod (me_int1 z_int (ma_cons (me_ix (me_var 0) me_int (fun _ _ => rfl)) ma_nil)) (me_var 1)) nd) (mss_cons (ms_setIx (me_div (me_ix (me_var 0) me_int (fun _ _ => rfl)) (me_var 1)) (me_var 0) me_int) (mss_one (ms_ret (me_var 2)))))))
theorem ok2__law_draw (F : FnM P w K mg base ca 1 "_law_draw" 2 fg__law_draw) : FnM P w K mg base ca 1 "_law_draw" 2 fDraw := fnm_draw F draw_gen
abbrev f__law_draw : LOp := fDraw
abbrev s__law_pick : Stmt := top 11
def N__law_pick : List Str := ["stream", "rows"]
theorem sc__law_pick : FnScope N__law_pick ["stream", "rows"] (defScope s__law_pick) := C8.fnScope_by (by decide +kernel)
def m__law_pick : AG.Env → M Fl := mRet (mBin opIx (mVar 1) (mCallN 2 f__law_draw (mCons (mVar 0) (mCons (mCall fLen (mCons (mVar 1) mNil)) mNil))))
def f__law_pick : LOp := mFn 2 m__law_pick
theorem ok__law_pick (D__law_pick : DefOk K mg "_law_pick" s__law_pick ["stream", "rows"]) (z_len : mg "len" = none) (F__law_draw : FnM P w K mg base ca 1 "_law_draw" 2 f__law_draw) : FnM P w K mg base ca 2 "_law_pick" 2 f__law_pick := fnm_mk D__law_pick sc__law_pick (fun f cdv A outer s H E hr => by
    have nd := sc__law_pick.nd
    have tk := takes_of (X := cxOf (L2.CX P w) P w K mg base N__law_pick "_law_pick" (defScope s__law_pick) f cdv A outer s H E) rfl rfl rfl rfl
    exact mss_one (ms_ret (me_ix (me_var 1) (me_call F__law_draw (hr.mono (by decide)) tk (ma_cons (me_var 0) (ma_cons (me_len z_len (ma_cons (me_var 1) ma_nil)) ma_nil))) (fun _ _ => rfl))))
abbrev s__law_ordinal : Stmt := top 13
def N__law_ordinal : List Str := ["stream", "deep", "places", "k", "place"]
theorem sc__law_ordinal : FnScope N__law_ordinal ["stream", "deep"] (defScope s__law_ordinal) := C8.fnScope_by (by decide +kernel)
def b__law_ordinal_1 (self__law_ordinal : LOp) : AG.Env → M Fl := mSeq (mSet 4 (mIfE (mTest (mBin opGt (mCallN 2 f__law_draw (mCons (mVar 0) (mCons (mC (.int 3)) mNil))) (mC (.int 0)))) (mCallN 2 self__law_ordinal (mCons (mVar 0) (mCons (mBin opSub (mVar 1) (mC (.int 1))) mNil))) (mTup mNil))) (mIf (mBorT 2 (mTest (mBin (opIn not) (mVar 4) (mVar 2)))) (mOwnM fAppend 2 (mVar 4)) mNx)
def e__law_ordinal_1 (self__law_ordinal : LOp) : AG.Env → M D := mTup (mCons (mVar 4) (mCons (mBin opAdd (mC (.int 1)) (mCallN 2 f__law_draw (mCons (mVar 0) (mCons (mC (.int 3)) mNil)))) mNil))
def m__law_ordinal (self__law_ordinal : LOp) : AG.Env → M Fl := mSeq (mIf (mTest (mBin opEq (mVar 1) (mC (.int 0)))) (mRet (mBin opIx (mTup (mCons (mTup (mCons (mTup (mCons (mTup mNil) (mCons (mBin opAdd (mC (.int 1)) (mCallN 2 f__law_draw (mCons (mVar 0) (mCons (mC (.int 4)) mNil)))) mNil))) mNil)) (mCons (mTup mNil) mNil))) (mCall fInt (mCons (mBin opEq (mCallN 2 f__law_draw (mCons (mVar 0) (mCons (mC (.int 4)) mNil))) (mC (.int 0))) mNil)))) mNx) (mSeq (mSetOwn 2 (mLstF mNil)) (mSeq (mFor (mRng1 (mCallN 2 f__law_draw (mCons (mVar 0) (mCons (mC (.int 4)) mNil)))) (tgName 3) (b__law_ordinal_1 self__law_ordinal)) (mFrzB 2 (mRet (mCall fTuple (mCons (mFrz (mLc (mItems (mUn opRev (mCall (fSorted false) (mCons (mVar 2) mNil)))) (tgName 4) mYes (e__law_ordinal_1 self__law_ordinal) [4])) mNil))))))
def f__law_ordinal : LOp := recF (fun self => mFn 5 (m__law_ordinal self)) 70
theorem st__law_ordinal (D__law_ordinal : DefOk K mg "_law_ordinal" s__law_ordinal ["stream", "deep"]) (z_int : mg "int" = none) (z_range : mg "range" = none) (z_sorted : mg "sorted" = none) (z_tuple : mg "tuple" = none) (F__law_draw : FnM P w K mg base ca 1 "_law_draw" 2 f__law_draw) (k : Nat) (self__law_ordinal : LOp) (F__law_ordinal : FnM P w K mg base ca k "_law_ordinal" 2 self__law_ordinal) (hk : 1 ≤ k) : FnM P w K mg base ca (k + 1) "_law_ordinal" 2 (mFn 5 (m__law_ordinal self__law_ordinal)) := fnm_mk D__law_ordinal sc__law_ordinal (fun f cdv A outer s H E hr => by
    have nd := sc__law_ordinal.nd
    have tk := takes_of (X := cxOf (L2.CX P w) P w K mg base N__law_ordinal "_law_ordinal" (defScope s__law_ordinal) f cdv A outer s H E) rfl rfl rfl rfl
    exact mss_cons (ms_if (mt_eq hr (me_var 1) me_int) (mss_one (ms_ret (me_ix (me_tup (ma_cons (me_tup (ma_cons (me_tup (ma_cons (me_tup ma_nil) (ma_cons (me_add me_int (me_call F__law_draw (hr.mono (Nat.le_trans (by decide) hk)) tk (ma_cons (me_var 0) (ma_cons me_int ma_nil)))) ma_nil))) ma_nil)) (ma_cons (me_tup ma_nil) ma_nil))) (me_int1 z_int (ma_cons (me_eq hr (me_call F__law_draw (hr.mono (Nat.le_trans (by decide) hk)) tk (ma_cons (me_var 0) (ma_cons me_int ma_nil))) me_int) ma_nil)) (fun _ _ => rfl)))) mss_nil) (mss_cons (ms_setOwn (i := 2) (mf_lst ma_nil) nd) (mss_cons (ms_for (passes_of rfl) rfl (mi_rng1 z_range (me_call F__law_draw (hr.mono (Nat.le_trans (by decide) hk)) tk (ma_cons (me_var 0) (ma_cons me_int ma_nil)))) (pg_name (i := 3) nd rfl (by first | exact Or.inl rfl | exact Or.inr rfl)) (gok_name (i := 3) (vs := [3]) (by decide)) (mss_cons (ms_set (i := 4) (me_if (mt_gt hr (me_call F__law_draw (hr.mono (Nat.le_trans (by decide) hk)) tk (ma_cons (me_var 0) (ma_cons me_int ma_nil))) me_int) (me_call F__law_ordinal hr tk (ma_cons (me_var 0) (ma_cons (me_sub (me_var 1) me_int) ma_nil))) (me_tup ma_nil)) nd) (mss_one (ms_if (mt_bor 2 (mt_nin hr (me_var 4) (me_var 2))) (mss_one (ms_own PySem.F.slot_list_append PySem.F.type_list_append mt_append om_append 2 (me_var 4))) mss_nil)))) (mss_one (ms_frz 2 (ms_ret (me_tuple1 z_tuple (ma_cons (me_of_mf (mf_lc (own := [("place", 4)]) rfl nd (mi_seq (me_rev (me_sorted hr z_sorted (ma_cons (me_var 2) ma_nil)))) (blkOk_by (N := N__law_ordinal) (sc := defScope s__law_ordinal) (own := [("place", 4)]) (by decide +kernel)) (gok_name (i := 4) (vs := [4]) (by decide)) (fun _ _ _ _ _ => pg_name (i := 4) nd rfl (by first | exact Or.inl rfl | exact Or.inr rfl)) (fun _ _ _ _ _ => mts_nil) (fun _ _ _ _ _ => me_tup (ma_cons (me_var 4) (ma_cons (me_add me_int (me_call F__law_draw (hr.mono (Nat.le_trans (by decide) hk)) takes0 (ma_cons (me_var 0) (ma_cons me_int ma_nil)))) ma_nil))))) ma_nil))))))))
theorem ok__law_ordinal (D__law_ordinal : DefOk K mg "_law_ordinal" s__law_ordinal ["stream", "deep"]) (z_int : mg "int" = none) (z_range : mg "range" = none) (z_sorted : mg "sorted" = none) (z_tuple : mg "tuple" = none) (F__law_draw : FnM P w K mg base ca 1 "_law_draw" 2 f__law_draw) : FnM P w K mg base ca 71 "_law_ordinal" 2 f__law_ordinal := fnm_rec (lv := 1) D__law_ordinal (fun k g hk F => st__law_ordinal D__law_ordinal z_int z_range z_sorted z_tuple F__law_draw k g F hk) 70
abbrev s__law_same : Stmt := top 12
def N__law_same : List Str := ["one", "two", "k", "key"]
theorem sc__law_same : FnScope N__law_same ["one", "two"] (defScope s__law_same) := C8.fnScope_by (by decide +kernel)
theorem st__law_same (D__law_same : DefOk K mg "_law_same" s__law_same ["one", "two"]) (z_isinstance : mg "isinstance" = none) (z_tuple : mg "tuple" = none) (z_list : mg "list" = none) (z_len : mg "len" = none) (z_range : mg "range" = none) (z_all : mg "all" = none) (z_dict : mg "dict" = none) (z_str : mg "str" = none) (z_int : mg "int" = none) (z_bool : mg "bool" = none) (k : Nat) (self__law_same : LOp) (F__law_same : FnM P w K mg base ca k "_law_same" 2 self__law_same) (hk : 0 ≤ k) : FnM P w K mg base ca (k + 1) "_law_same" 2 (mFn 4 (m__law_same self__law_same)) := fnm_mk D__law_same sc__law_same (fun f cdv A outer s H E hr => by
    have nd := sc__law_same.nd
    have tk := takes_of (X := cxOf (L2.CX P w) P w K mg base N__law_same "_law_same" (defScope s__law_same) f cdv A outer s H E) rfl rfl rfl rfl
    exact mss_cons (ms_if (mw_pt (mw_or (mw_pt (mw_and (mt_truth (me_isi_tuple z_isinstance z_tuple (me_var 0))) (mw_and1 (mt_truth (me_isi_tuple z_isinstance z_tuple (me_var 1)))))) (mw_or1 (mw_pt (mw_and (mt_truth (me_isi_list z_isinstance z_list (me_var 0))) (mw_and1 (mt_truth (me_isi_list z_isinstance z_list (me_var 1))))))))) (mss_one (ms_ret (me_and (me_eq hr (me_len z_len (ma_cons (me_var 0) ma_nil)) (me_len z_len (ma_cons (me_var 1) ma_nil))) (me_one (me_all rfl z_all (ma_cons (me_of_mf (mf_lc (own := [("k", 2)]) rfl nd (mi_rng1 z_range (me_len z_len (ma_cons (me_var 0) ma_nil))) (blkOk_by (N := N__law_same) (sc := defScope s__law_same) (own := [("k", 2)]) (by decide +kernel)) (gok_name (i := 2) (vs := [2]) (by decide)) (fun _ _ _ _ _ => pg_name (i := 2) nd rfl (by first | exact Or.inl rfl | exact Or.inr rfl)) (fun _ _ _ _ _ => mts_nil) (fun _ _ _ _ _ => me_call F__law_same hr takes0 (ma_cons (me_ix (me_var 0) (me_var 2) (fun _ _ => rfl)) (ma_cons (me_ix (me_var 1) (me_var 2) (fun _ _ => rfl)) ma_nil))))) ma_nil)))))) mss_nil) (mss_cons (ms_if (mw_pt (mw_and (mt_truth (me_isi_dict z_isinstance z_dict (me_var 0))) (mw_and1 (mt_truth (me_isi_dict z_isinstance z_dict (me_var 1)))))) (mss_one (ms_ret (me_and (me_eq hr (me_len z_len (ma_cons (me_var 0) ma_nil)) (me_len z_len (ma_cons (me_var 1) ma_nil))) (me_one (me_all rfl z_all (ma_cons (me_of_mf (mf_lc (own := [("key", 3)]) rfl nd (mi_seq (me_var 0)) (blkOk_by (N := N__law_same) (sc := defScope s__law_same) (own := [("key", 3)]) (by decide +kernel)) (gok_name (i := 3) (vs := [3]) (by decide)) (fun _ _ _ _ _ => pg_name (i := 3) nd rfl (by first | exact Or.inl rfl | exact Or.inr rfl)) (fun _ _ _ _ _ => mts_nil) (fun _ _ _ _ _ => me_and (me_in hr (me_var 3) (me_var 1)) (me_one (me_call F__law_same hr takes0 (ma_cons (me_ix (me_var 0) (me_var 3) (fun _ _ => rfl)) (ma_cons (me_ix (me_var 1) (me_var 3) (fun _ _ => rfl)) ma_nil))))))) ma_nil)))))) mss_nil) (mss_cons (ms_if (mw_pt (mw_or (mw_pt (mw_and (mt_truth (me_isi_str z_isinstance z_str (me_var 0))) (mw_and1 (mt_truth (me_isi_str z_isinstance z_str (me_var 1)))))) (mw_or1 (mw_pt (mw_and (mt_is (me_var 0) me_non) (mw_and1 (mt_is (me_var 1) me_non))))))) (mss_one (ms_ret (me_eq hr (me_var 0) (me_var 1)))) mss_nil) (mss_cons (ms_if (mw_pt (mw_or (mt_not (mt_truth (me_isi_int z_isinstance z_int (me_var 0)))) (mw_or1 (mt_not (mt_truth (me_isi_int z_isinstance z_int (me_var 1))))))) (mss_one (ms_ret me_bl)) mss_nil) (mss_one (ms_ret (me_and (me_eq hr (me_var 0) (me_var 1)) (me_one (me_eq hr (me_isi_bool z_isinstance z_bool (me_var 0)) (me_isi_bool z_isinstance z_bool (me_var 1)))))))))))
theorem ok__law_same (D__law_same : DefOk K mg "_law_same" s__law_same ["one", "two"]) (z_isinstance : mg "isinstance" = none) (z_tuple : mg "tuple" = none) (z_list : mg "list" = none) (z_len : mg "len" = none) (z_range : mg "range" = none) (z_all : mg "all" = none) (z_dict : mg "dict" = none) (z_str : mg "str" = none) (z_int : mg "int" = none) (z_bool : mg "bool" = none) : FnM P w K mg base ca 70 "_law_same" 2 f__law_same := fnm_rec (lv := 0) D__law_same (fun k g hk F => st__law_same D__law_same z_isinstance z_tuple z_list z_len z_range z_all z_dict z_str z_int z_bool k g F hk) 70
abbrev s_mixed : Stmt := top 1
def N_mixed : List Str := ["a", "b", "found", "j", "pair"]
theorem sc_mixed : FnScope N_mixed ["a", "b"] (defScope s_mixed) := C8.fnScope_by (by decide +kernel)
def t_mixed_1 : AG.Env → M Bool := mAndT (mTest (mBin opLt (mVar 3) (mCall fLen (mCons (mVar 1) mNil)))) (mTest (mBin opGt (mBin opIx (mBin opIx (mVar 1) (mVar 3)) (mC (.int 0))) (mBin opIx (mVar 4) (mC (.int 0)))))
def b_mixed_1 : AG.Env → M Fl := mSeq (mOwnM fAppend 2 (mBin opIx (mVar 1) (mVar 3))) (mAug augAdd 3 (mC (.int 1)))
def b_mixed_2 : AG.Env → M Fl := mSeq (whileF t_mixed_1 b_mixed_1 1000) (mIf (mAndT (mTest (mBin opLt (mVar 3) (mCall fLen (mCons (mVar 1) mNil)))) (mTest (mBin opEq (mBin opIx (mBin opIx (mVar 1) (mVar 3)) (mC (.int 0))) (mBin opIx (mVar 4) (mC (.int 0)))))) (mSeq (mOwnM fAppend 2 (mTup (mCons (mBin opIx (mVar 4) (mC (.int 0))) (mCons (mBin opAdd (mBin opIx (mVar 4) (mC (.int 1))) (mBin opIx (mBin opIx (mVar 1) (mVar 3)) (mC (.int 1)))) mNil)))) (mAug augAdd 3 (mC (.int 1)))) (mOwnM fAppend 2 (mVar 4)))
def m_mixed : AG.Env → M Fl := mSeq (mSetOwn 2 (mLstF mNil)) (mSeq (mSet 3 (mC (.int 0))) (mSeq (mFor (mItems (mVar 0)) (tgName 4) b_mixed_2) (mFrzB 2 (mRet (mBin opAdd (mCall fTuple (mCons (mVar 2) mNil)) (mSl (mVar 1) (mPart (mVar 3)) mNoPart))))))
def f_mixed : LOp := mFn 5 m_mixed
theorem ok_mixed (D_mixed : DefOk K mg "mixed" s_mixed ["a", "b"]) (z_len : mg "len" = none) (z_tuple : mg "tuple" = none) : FnM P w K mg base ca 1 "mixed" 2 f_mixed := fnm_mk D_mixed sc_mixed (fun f cdv A outer s H E hr => by
    have nd := sc_mixed.nd
    have tk := takes_of (X := cxOf (L2.CX P w) P w K mg base N_mixed "mixed" (defScope s_mixed) f cdv A outer s H E) rfl rfl rfl rfl
    exact mss_cons (ms_setOwn (i := 2) (mf_lst ma_nil) nd) (mss_cons (ms_set (i := 3) me_int nd) (mss_cons (ms_for (passes_of rfl) rfl (mi_seq (me_var 0)) (pg_name (i := 4) nd rfl (by first | exact Or.inl rfl | exact Or.inr rfl)) (gok_name (i := 4) (vs := [4]) (by decide)) (mss_cons (ms_while 1000 (passes_of rfl) (mw_pt (mw_and (mt_lt hr (me_var 3) (me_len z_len (ma_cons (me_var 1) ma_nil))) (mw_and1 (mt_gt hr (me_ix (me_ix (me_var 1) (me_var 3) (fun _ _ => rfl)) me_int (fun _ _ => rfl)) (me_ix (me_var 4) me_int (fun _ _ => rfl)))))) (mss_cons (ms_own PySem.F.slot_list_append PySem.F.type_list_append mt_append om_append 2 (me_ix (me_var 1) (me_var 3) (fun _ _ => rfl))) (mss_one (ms_augAdd (i := 3) me_int nd)))) (mss_one (ms_if (mw_pt (mw_and (mt_lt hr (me_var 3) (me_len z_len (ma_cons (me_var 1) ma_nil))) (mw_and1 (mt_eq hr (me_ix (me_ix (me_var 1) (me_var 3) (fun _ _ => rfl)) me_int (fun _ _ => rfl)) (me_ix (me_var 4) me_int (fun _ _ => rfl)))))) (mss_cons (ms_own PySem.F.slot_list_append PySem.F.type_list_append mt_append om_append 2 (me_tup (ma_cons (me_ix (me_var 4) me_int (fun _ _ => rfl)) (ma_cons (me_add (me_ix (me_var 4) me_int (fun _ _ => rfl)) (me_ix (me_ix (me_var 1) (me_var 3) (fun _ _ => rfl)) me_int (fun _ _ => rfl))) ma_nil)))) (mss_one (ms_augAdd (i := 3) me_int nd))) (mss_one (ms_own PySem.F.slot_list_append PySem.F.type_list_append mt_append om_append 2 (me_var 4))))))) (mss_one (ms_frz 2 (ms_ret (me_add (me_tuple1 z_tuple (ma_cons (me_var 2) ma_nil)) (me_slice (me_var 1) (mo_some (me_var 3)) mo_none))))))))
abbrev s_power : Stmt := top 2
def N_power : List Str := ["a"]
theorem sc_power : FnScope N_power ["a"] (defScope s_power) := C8.fnScope_by (by decide +kernel)
def m_power : AG.Env → M Fl := mRet (mTup (mCons (mTup (mCons (mVar 0) (mCons (mC (.int 1)) mNil))) mNil))
def f_power : LOp := mFn 1 m_power
theorem ok_power (D_power : DefOk K mg "power" s_power ["a"]) : FnM P w K mg base ca 1 "power" 1 f_power := fnm_mk D_power sc_power (fun f cdv A outer s H E hr => by
    have nd := sc_power.nd
    have tk := takes_of (X := cxOf (L2.CX P w) P w K mg base N_power "power" (defScope s_power) f cdv A outer s H E) rfl rfl rfl rfl
    exact mss_one (ms_ret (me_tup (ma_cons (me_tup (ma_cons (me_var 0) (ma_cons me_int ma_nil))) ma_nil))))
abbrev s_bag_ordinal : Stmt := top 6
def N_bag_ordinal : List Str := ["bag", "found", "a"]
theorem sc_bag_ordinal : FnScope N_bag_ordinal ["bag"] (defScope s_bag_ordinal) := C8.fnScope_by (by decide +kernel)
def c_ZERO : D := (D.tup [])
def b_bag_ordinal_1 : AG.Env → M Fl := mSet 1 (mCallN 2 f_mixed (mCons (mVar 1) (mCons (mCallN 1 f_power (mCons (mVar 2) mNil)) mNil)))
def m_bag_ordinal : AG.Env → M Fl := mSeq (mSet 1 (mC c_ZERO)) (mSeq (mFor (mItems (mVar 0)) (tgName 2) b_bag_ordinal_1) (mRet (mVar 1)))
def f_bag_ordinal : LOp := mFn 3 m_bag_ordinal
theorem ok_bag_ordinal (D_bag_ordinal : DefOk K mg "bag_ordinal" s_bag_ordinal ["bag"]) (g_ZERO : GC K mg "ZERO" c_ZERO) (F_mixed : FnM P w K mg base ca 1 "mixed" 2 f_mixed) (F_power : FnM P w K mg base ca 1 "power" 1 f_power) : FnM P w K mg base ca 2 "bag_ordinal" 1 f_bag_ordinal := fnm_mk D_bag_ordinal sc_bag_ordinal (fun f cdv A outer s H E hr => by
    have nd := sc_bag_ordinal.nd
    have tk := takes_of (X := cxOf (L2.CX P w) P w K mg base N_bag_ordinal "bag_ordinal" (defScope s_bag_ordinal) f cdv A outer s H E) rfl rfl rfl rfl
    exact mss_cons (ms_set (i := 1) (me_glob g_ZERO) nd) (mss_cons (ms_for (passes_of rfl) rfl (mi_seq (me_var 0)) (pg_name (i := 2) nd rfl (by first | exact Or.inl rfl | exact Or.inr rfl)) (gok_name (i := 2) (vs := [2]) (by decide)) (mss_one (ms_set (i := 1) (me_call F_mixed (hr.mono (by decide)) tk (ma_cons (me_var 1) (ma_cons (me_call F_power (hr.mono (by decide)) tk (ma_cons (me_var 2) ma_nil)) ma_nil))) nd))) (mss_one (ms_ret (me_var 1)))))
abbrev s_compare_bags : Stmt := top 5
def N_compare_bags : List Str := ["one", "two", "first", "second"]
theorem sc_compare_bags : FnScope N_compare_bags ["one", "two"] (defScope s_compare_bags) := C8.fnScope_by (by decide +kernel)
def m_compare_bags : AG.Env → M Fl := mSeq (mPar 2 3 (mCons (mCallN 1 f_bag_ordinal (mCons (mVar 0) mNil)) (mCons (mCallN 1 f_bag_ordinal (mCons (mVar 1) mNil)) mNil))) (mRet (mBin opSub (mCall fInt (mCons (mBin opGt (mVar 2) (mVar 3)) mNil)) (mCall fInt (mCons (mBin opLt (mVar 2) (mVar 3)) mNil))))
def f_compare_bags : LOp := mFn 4 m_compare_bags
theorem ok_compare_bags (D_compare_bags : DefOk K mg "compare_bags" s_compare_bags ["one", "two"]) (z_int : mg "int" = none) (F_bag_ordinal : FnM P w K mg base ca 2 "bag_ordinal" 1 f_bag_ordinal) : FnM P w K mg base ca 3 "compare_bags" 2 f_compare_bags := fnm_mk D_compare_bags sc_compare_bags (fun f cdv A outer s H E hr => by
    have nd := sc_compare_bags.nd
    have tk := takes_of (X := cxOf (L2.CX P w) P w K mg base N_compare_bags "compare_bags" (defScope s_compare_bags) f cdv A outer s H E) rfl rfl rfl rfl
    exact mss_cons (ms_par (i := 2) (j := 3) rfl (ma_cons (me_call F_bag_ordinal (hr.mono (by decide)) tk (ma_cons (me_var 0) ma_nil)) (ma_cons (me_call F_bag_ordinal (hr.mono (by decide)) tk (ma_cons (me_var 1) ma_nil)) ma_nil)) nd) (mss_one (ms_ret (me_sub (me_int1 z_int (ma_cons (me_gt hr (me_var 2) (me_var 3)) ma_nil)) (me_int1 z_int (ma_cons (me_lt hr (me_var 2) (me_var 3)) ma_nil))))))
abbrev s_is_exchange : Stmt := top 7
def N_is_exchange : List Str := ["one", "two", "left", "right", "a", "b"]
theorem sc_is_exchange : FnScope N_is_exchange ["one", "two"] (defScope s_is_exchange) := C8.fnScope_by (by decide +kernel)
def b_is_exchange_1 : AG.Env → M Fl := mIf (mBorT 3 (mTest (mBin (opIn id) (mVar 4) (mVar 3)))) (mSeq (mOwnM fRemove 2 (mVar 4)) (mOwnM fRemove 3 (mVar 4))) mNx
def e_is_exchange_1 : AG.Env → M D := mBin opLt (mVar 5) (mVar 4)
def e_is_exchange_2 : AG.Env → M D := mCall fAny (mCons (mFrz (mLc (mItems (mVar 2)) (tgName 4) mYes e_is_exchange_1 [4])) mNil)
def m_is_exchange : AG.Env → M Fl := mSeq (mParOwn 2 3 (mListF (mCons (mVar 0) mNil)) (mListF (mCons (mVar 1) mNil))) (mSeq (mFor (mItems (mFrz (mBorF 2 (mListF (mCons (mVar 2) mNil))))) (tgName 4) b_is_exchange_1) (mFrzB 3 (mFrzB 2 (mRet (mAndV (mBin opGt (mCall fLen (mCons (mVar 2) mNil)) (mC (.int 0))) (mCall fAll (mCons (mFrz (mLc (mItems (mVar 3)) (tgName 5) mYes e_is_exchange_2 [5])) mNil)))))))
def f_is_exchange : LOp := mFn 6 m_is_exchange
theorem ok_is_exchange (D_is_exchange : DefOk K mg "is_exchange" s_is_exchange ["one", "two"]) (z_list : mg "list" = none) (z_len : mg "len" = none) (z_any : mg "any" = none) (z_all : mg "all" = none) : FnM P w K mg base ca 1 "is_exchange" 2 f_is_exchange := fnm_mk D_is_exchange sc_is_exchange (fun f cdv A outer s H E hr => by
    have nd := sc_is_exchange.nd
    have tk := takes_of (X := cxOf (L2.CX P w) P w K mg base N_is_exchange "is_exchange" (defScope s_is_exchange) f cdv A outer s H E) rfl rfl rfl rfl
    exact mss_cons (ms_parOwnT (i := 2) (j := 3) rfl (mf_list1 z_list (ma_cons (me_var 0) ma_nil)) (mf_list1 z_list (ma_cons (me_var 1) ma_nil)) nd) (mss_cons (ms_for (passes_of rfl) rfl (mi_seq (me_of_mf (mf_bor 2 (mf_list1 z_list (ma_cons (me_var 2) ma_nil))))) (pg_name (i := 4) nd rfl (by first | exact Or.inl rfl | exact Or.inr rfl)) (gok_name (i := 4) (vs := [4]) (by decide)) (mss_one (ms_if (mt_bor 3 (mt_in hr (me_var 4) (me_var 3))) (mss_cons (ms_own PySem.F.slot_list_remove PySem.F.type_list_remove (mt_removeD (hu66 hr)) om_remove 2 (me_var 4)) (mss_one (ms_own PySem.F.slot_list_remove PySem.F.type_list_remove (mt_removeD (hu66 hr)) om_remove 3 (me_var 4)))) mss_nil))) (mss_one (ms_frz 3 (ms_frz 2 (ms_ret (me_and (me_gt hr (me_len z_len (ma_cons (me_var 2) ma_nil)) me_int) (me_one (me_all rfl z_all (ma_cons (me_of_mf (mf_lc (own := [("b", 5)]) rfl nd (mi_seq (me_var 3)) (blkOk_by (N := N_is_exchange) (sc := defScope s_is_exchange) (own := [("b", 5)]) (by decide +kernel)) (gok_name (i := 5) (vs := [5]) (by decide)) (fun _ _ _ _ _ => pg_name (i := 5) nd rfl (by first | exact Or.inl rfl | exact Or.inr rfl)) (fun _ _ _ _ _ => mts_nil) (fun _ _ _ _ _ => me_any rfl z_any (ma_cons (me_of_mf (mf_lc (own := [("a", 4)]) rfl nd (mi_seq (me_var 2)) (blkOk_by (N := N_is_exchange) (sc := relS _ (defScope s_is_exchange)) (own := [("a", 4)]) (by decide +kernel)) (gok_name (i := 4) (vs := [4]) (by decide)) (fun _ _ _ _ _ => pg_name (i := 4) nd rfl (by first | exact Or.inl rfl | exact Or.inr rfl)) (fun _ _ _ _ _ => mts_nil) (fun _ _ _ _ _ => me_lt hr (me_var 5) (me_var 4)))) ma_nil)))) ma_nil))))))))))
abbrev s__law_is_next : Stmt := top 15
def N__law_is_next : List Str := ["a"]
theorem sc__law_is_next : FnScope N__law_is_next ["a"] (defScope s__law_is_next) := C8.fnScope_by (by decide +kernel)
def m__law_is_next : AG.Env → M Fl := mRet (mAndV (mBin opNe (mVar 0) (mTup mNil)) (mBin opEq (mBin opIx (mBin opIx (mVar 0) (mBin opSub (mCall fLen (mCons (mVar 0) mNil)) (mC (.int 1)))) (mC (.int 0))) (mTup mNil)))
def f__law_is_next : LOp := mFn 1 m__law_is_next
theorem ok__law_is_next (D__law_is_next : DefOk K mg "_law_is_next" s__law_is_next ["a"]) (z_len : mg "len" = none) : FnM P w K mg base ca 1 "_law_is_next" 1 f__law_is_next := fnm_mk D__law_is_next sc__law_is_next (fun f cdv A outer s H E hr => by
    have nd := sc__law_is_next.nd
    have tk := takes_of (X := cxOf (L2.CX P w) P w K mg base N__law_is_next "_law_is_next" (defScope s__law_is_next) f cdv A outer s H E) rfl rfl rfl rfl
    exact mss_one (ms_ret (me_and (me_ne hr (me_var 0) (me_tup ma_nil)) (me_one (me_eq hr (me_ix (me_ix (me_var 0) (me_sub (me_len z_len (ma_cons (me_var 0) ma_nil)) me_int) (fun _ _ => rfl)) me_int (fun _ _ => rfl)) (me_tup ma_nil))))))
abbrev s__law_less : Stmt := top 14
def N__law_less : List Str := ["a", "place", "number"]
theorem sc__law_less : FnScope N__law_less ["a"] (defScope s__law_less) := C8.fnScope_by (by decide +kernel)
def m__law_less : AG.Env → M Fl := mSeq (mSetT (tgTup [tgName 1, tgName 2]) (mBin opIx (mVar 0) (mBin opSub (mCall fLen (mCons (mVar 0) mNil)) (mC (.int 1))))) (mRet (mBin opAdd (mSl (mVar 0) mNoPart (mPart (mBin opSub (mCall fLen (mCons (mVar 0) mNil)) (mC (.int 1))))) (mIfE (mTest (mBin opGt (mVar 2) (mC (.int 1)))) (mTup (mCons (mTup (mCons (mVar 1) (mCons (mBin opSub (mVar 2) (mC (.int 1))) mNil))) mNil)) (mTup mNil))))
def f__law_less : LOp := mFn 3 m__law_less
theorem ok__law_less (D__law_less : DefOk K mg "_law_less" s__law_less ["a"]) (z_len : mg "len" = none) : FnM P w K mg base ca 1 "_law_less" 1 f__law_less := fnm_mk D__law_less sc__law_less (fun f cdv A outer s H E hr => by
    have nd := sc__law_less.nd
    have tk := takes_of (X := cxOf (L2.CX P w) P w K mg base N__law_less "_law_less" (defScope s__law_less) f cdv A outer s H E) rfl rfl rfl rfl
    exact mss_cons (ms_setT (me_ix (me_var 0) (me_sub (me_len z_len (ma_cons (me_var 0) ma_nil)) me_int) (fun _ _ => rfl)) (pg_tup (n := 2) rfl (pgs_cons (pg_name (i := 1) nd rfl (by first | exact Or.inl rfl | exact Or.inr rfl)) (pgs_cons (pg_name (i := 2) nd rfl (by first | exact Or.inl rfl | exact Or.inr rfl)) pgs_nil))) (gok_tup (n := 2) rfl (gsok_cons (gok_name (i := 1) (vs := [1, 2]) (by decide)) (gsok_cons (gok_name (i := 2) (vs := [1, 2]) (by decide)) gsok_nil)))) (mss_one (ms_ret (me_add (me_slice (me_var 0) mo_none (mo_some (me_sub (me_len z_len (ma_cons (me_var 0) ma_nil)) me_int))) (me_if (mt_gt hr (me_var 2) me_int) (me_tup (ma_cons (me_tup (ma_cons (me_var 1) (ma_cons (me_sub (me_var 2) me_int) ma_nil))) ma_nil)) (me_tup ma_nil))))))
abbrev s__law_below : Stmt := top 16
def N__law_below : List Str := ["a", "n", "place", "rest"]
theorem sc__law_below : FnScope N__law_below ["a", "n"] (defScope s__law_below) := C8.fnScope_by (by decide +kernel)
def m__law_below (self__law_below : LOp) : AG.Env → M Fl := mSeq (mSet 2 (mBin opIx (mBin opIx (mVar 0) (mBin opSub (mCall fLen (mCons (mVar 0) mNil)) (mC (.int 1)))) (mC (.int 0)))) (mSeq (mSet 3 (mCallN 1 f__law_less (mCons (mVar 0) mNil))) (mSeq (mIf (mTruth (mCallN 1 f__law_is_next (mCons (mVar 2) mNil))) (mRet (mIfE (mTest (mBin opEq (mVar 1) (mC (.int 0)))) (mVar 3) (mBin opAdd (mVar 3) (mTup (mCons (mTup (mCons (mCallN 1 f__law_less (mCons (mVar 2) mNil)) (mCons (mVar 1) mNil))) mNil))))) mNx) (mRet (mBin opAdd (mVar 3) (mTup (mCons (mTup (mCons (mCallN 2 self__law_below (mCons (mVar 2) (mCons (mVar 1) mNil))) (mCons (mC (.int 1)) mNil))) mNil))))))
def f__law_below : LOp := recF (fun self => mFn 4 (m__law_below self)) 70
theorem st__law_below (D__law_below : DefOk K mg "_law_below" s__law_below ["a", "n"]) (z_len : mg "len" = none) (F__law_is_next : FnM P w K mg base ca 1 "_law_is_next" 1 f__law_is_next) (F__law_less : FnM P w K mg base ca 1 "_law_less" 1 f__law_less) (k : Nat) (self__law_below : LOp) (F__law_below : FnM P w K mg base ca k "_law_below" 2 self__law_below) (hk : 1 ≤ k) : FnM P w K mg base ca (k + 1) "_law_below" 2 (mFn 4 (m__law_below self__law_below)) := fnm_mk D__law_below sc__law_below (fun f cdv A outer s H E hr => by
    have nd := sc__law_below.nd
    have tk := takes_of (X := cxOf (L2.CX P w) P w K mg base N__law_below "_law_below" (defScope s__law_below) f cdv A outer s H E) rfl rfl rfl rfl
    exact mss_cons (ms_set (i := 2) (me_ix (me_ix (me_var 0) (me_sub (me_len z_len (ma_cons (me_var 0) ma_nil)) me_int) (fun _ _ => rfl)) me_int (fun _ _ => rfl)) nd) (mss_cons (ms_set (i := 3) (me_call F__law_less (hr.mono (Nat.le_trans (by decide) hk)) tk (ma_cons (me_var 0) ma_nil)) nd) (mss_cons (ms_if (mt_truth (me_call F__law_is_next (hr.mono (Nat.le_trans (by decide) hk)) tk (ma_cons (me_var 2) ma_nil))) (mss_one (ms_ret (me_if (mt_eq hr (me_var 1) me_int) (me_var 3) (me_add (me_var 3) (me_tup (ma_cons (me_tup (ma_cons (me_call F__law_less (hr.mono (Nat.le_trans (by decide) hk)) tk (ma_cons (me_var 2) ma_nil)) (ma_cons (me_var 1) ma_nil))) ma_nil)))))) mss_nil) (mss_one (ms_ret (me_add (me_var 3) (me_tup (ma_cons (me_tup (ma_cons (me_call F__law_below hr tk (ma_cons (me_var 2) (ma_cons (me_var 1) ma_nil))) (ma_cons me_int ma_nil))) ma_nil))))))))
theorem ok__law_below (D__law_below : DefOk K mg "_law_below" s__law_below ["a", "n"]) (z_len : mg "len" = none) (F__law_is_next : FnM P w K mg base ca 1 "_law_is_next" 1 f__law_is_next) (F__law_less : FnM P w K mg base ca 1 "_law_less" 1 f__law_less) : FnM P w K mg base ca 71 "_law_below" 2 f__law_below := fnm_rec (lv := 1) D__law_below (fun k g hk F => st__law_below D__law_below z_len F__law_is_next F__law_less k g F hk) 70
abbrev s__law_lesser : Stmt := top 19
def N__law_lesser : List Str := ["stream", "a"]
theorem sc__law_lesser : FnScope N__law_lesser ["stream", "a"] (defScope s__law_lesser) := C8.fnScope_by (by decide +kernel)
def m__law_lesser : AG.Env → M Fl := mSeq (mIf (mTruth (mCallN 1 f__law_is_next (mCons (mVar 1) mNil))) (mRet (mCallN 1 f__law_less (mCons (mVar 1) mNil))) mNx) (mRet (mCallN 2 f__law_below (mCons (mVar 1) (mCons (mCallN 2 f__law_draw (mCons (mVar 0) (mCons (mC (.int 4)) mNil))) mNil))))
def f__law_lesser : LOp := mFn 2 m__law_lesser
theorem ok__law_lesser (D__law_lesser : DefOk K mg "_law_lesser" s__law_lesser ["stream", "a"]) (F__law_below : FnM P w K mg base ca 71 "_law_below" 2 f__law_below) (F__law_draw : FnM P w K mg base ca 1 "_law_draw" 2 f__law_draw) (F__law_is_next : FnM P w K mg base ca 1 "_law_is_next" 1 f__law_is_next) (F__law_less : FnM P w K mg base ca 1 "_law_less" 1 f__law_less) : FnM P w K mg base ca 72 "_law_lesser" 2 f__law_lesser := fnm_mk D__law_lesser sc__law_lesser (fun f cdv A outer s H E hr => by
    have nd := sc__law_lesser.nd
    have tk := takes_of (X := cxOf (L2.CX P w) P w K mg base N__law_lesser "_law_lesser" (defScope s__law_lesser) f cdv A outer s H E) rfl rfl rfl rfl
    exact mss_cons (ms_if (mt_truth (me_call F__law_is_next (hr.mono (by decide)) tk (ma_cons (me_var 1) ma_nil))) (mss_one (ms_ret (me_call F__law_less (hr.mono (by decide)) tk (ma_cons (me_var 1) ma_nil)))) mss_nil) (mss_one (ms_ret (me_call F__law_below (hr.mono (by decide)) tk (ma_cons (me_var 1) (ma_cons (me_call F__law_draw (hr.mono (by decide)) tk (ma_cons (me_var 0) (ma_cons me_int ma_nil))) ma_nil))))))
abbrev s_law : Stmt := top 20
def N_law : List Str := ["script", "stream", "one", "two", "k", "due", "first", "second", "taken", "gone", "behind", "a"]
theorem sc_law : FnScope N_law ["script"] (defScope s_law) := C8.fnScope_by (by decide +kernel)
def e_law_1 : AG.Env → M D := mCallN 2 f__law_ordinal (mCons (mVar 1) (mCons (mC (.int 2)) mNil))
def b_law_1 : AG.Env → M Fl := mOwnM fAppend 3 (mIfE (mTest (mBin opEq (mCallN 2 f__law_draw (mCons (mVar 1) (mCons (mC (.int 2)) mNil))) (mC (.int 0)))) (mCallN 2 f__law_pick (mCons (mVar 1) (mCons (mBin opAdd (mVar 2) (mLst (mCons (mTup mNil) mNil))) mNil))) (mCallN 2 f__law_ordinal (mCons (mVar 1) (mCons (mC (.int 2)) mNil))))
def e_law_2 : AG.Env → M D := mVar 11
def t_law_1 : AG.Env → M Bool := mTest (mBin opNe (mVar 11) (mTup mNil))
def e_law_3 : AG.Env → M D := mCallN 2 f__law_lesser (mCons (mVar 1) (mCons (mVar 9) mNil))
def m_law : AG.Env → M Fl := mSeq (mSet 1 (mCallN 1 f__law_stream (mCons (mVar 0) mNil))) (mSeq (mSet 2 (mFrz (mLc (mRng1 (mCallN 2 f__law_draw (mCons (mVar 1) (mCons (mC (.int 6)) mNil)))) (tgName 4) mYes e_law_1 [4]))) (mSeq (mSetOwn 3 (mLstF mNil)) (mSeq (mFor (mRng1 (mCallN 2 f__law_draw (mCons (mVar 1) (mCons (mC (.int 6)) mNil)))) (tgName 4) b_law_1) (mSeq (mFrzB 3 (mSet 5 (mCallN 2 f__law_order (mCons (mVar 2) (mCons (mVar 3) mNil))))) (mSeq (mFrzB 3 (mIf (mNotT (mTruth (mCallN 2 f__law_same (mCons (mCallN 2 f_compare_bags (mCons (mCall fList (mCons (mVar 2) mNil)) (mCons (mCall fList (mCons (mVar 3) mNil)) mNil))) (mCons (mVar 5) mNil))))) (mRet (mC (.bl false))) mNx)) (mSeq (mFrzB 3 (mIf (mNotT (mTruth (mCallN 2 f__law_same (mCons (mCallN 2 f_is_exchange (mCons (mCall fList (mCons (mVar 2) mNil)) (mCons (mCall fList (mCons (mVar 3) mNil)) mNil))) (mCons (mBin opEq (mVar 5) (mC (.int 1))) mNil))))) (mRet (mC (.bl false))) mNx)) (mSeq (mFrzB 3 (mPar 6 7 (mCons (mCallN 1 f_bag_ordinal (mCons (mCall fList (mCons (mVar 2) mNil)) mNil)) (mCons (mCallN 1 f_bag_ordinal (mCons (mCall fList (mCons (mVar 3) mNil)) mNil)) mNil)))) (mSeq (mIf (mNotT (mTruth (mCallN 2 f__law_same (mCons (mBin opSub (mCall fInt (mCons (mBin opGt (mVar 6) (mVar 7)) mNil)) (mCall fInt (mCons (mBin opLt (mVar 6) (mVar 7)) mNil))) (mCons (mVar 5) mNil))))) (mRet (mC (.bl false))) mNx) (mSeq (mFrzB 3 (mIf (mNotT (mTruth (mCallN 2 f__law_same (mCons (mCallN 1 f_bag_ordinal (mCons (mBin opAdd (mVar 2) (mVar 3)) mNil)) (mCons (mCallN 2 f_mixed (mCons (mVar 6) (mCons (mVar 7) mNil))) mNil))))) (mRet (mC (.bl false))) mNx)) (mSeq (mIf (mNotT (mTruth (mCallN 2 f__law_same (mCons (mCallN 1 f_bag_ordinal (mCons (mUn opRev (mVar 2)) mNil)) (mCons (mVar 6) mNil))))) (mRet (mC (.bl false))) mNx) (mSeq (mSet 8 (mFrz (mLc (mItems (mVar 2)) (tgName 11) t_law_1 e_law_2 [11]))) (mSeq (mIf (mTest (mBin opEq (mVar 8) (mLst mNil))) (mRet (mC (.bl true))) mNx) (mSeq (mSet 9 (mCallN 2 f__law_pick (mCons (mVar 1) (mCons (mVar 8) mNil)))) (mSeq (mSet 10 (mBin opAdd (mCallN 2 f__law_without (mCons (mVar 2) (mCons (mLst (mCons (mVar 9) mNil)) mNil))) (mFrz (mLc (mRng1 (mCallN 2 f__law_draw (mCons (mVar 1) (mCons (mC (.int 4)) mNil)))) (tgName 4) mYes e_law_3 [4])))) (mRet (mAndV (mBin (opIs id) (mCallN 2 f_is_exchange (mCons (mCall fList (mCons (mVar 2) mNil)) (mCons (mVar 10) mNil))) (mC (.bl true))) (mBin opEq (mCallN 2 f_compare_bags (mCons (mVar 10) (mCons (mCall fList (mCons (mVar 2) mNil)) mNil))) (mUn opNeg (mC (.int 1))))))))))))))))))))
def f_law : LOp := mFn 12 m_law
theorem body_law (z_range : mg "range" = none) (z_list : mg "list" = none) (z_int : mg "int" = none) (F__law_draw : FnM P w K mg base ca 1 "_law_draw" 2 f__law_draw) (F__law_lesser : FnM P w K mg base ca 72 "_law_lesser" 2 f__law_lesser) (F__law_order : FnM P w K mg base ca 2 "_law_order" 2 f__law_order) (F__law_ordinal : FnM P w K mg base ca 71 "_law_ordinal" 2 f__law_ordinal) (F__law_pick : FnM P w K mg base ca 2 "_law_pick" 2 f__law_pick) (F__law_same : FnM P w K mg base ca 70 "_law_same" 2 f__law_same) (F__law_stream : FnM P w K mg base ca 1 "_law_stream" 1 f__law_stream) (F__law_without : FnM P w K mg base ca 1 "_law_without" 2 f__law_without) (F_bag_ordinal : FnM P w K mg base ca 2 "bag_ordinal" 1 f_bag_ordinal) (F_compare_bags : FnM P w K mg base ca 3 "compare_bags" 2 f_compare_bags) (F_is_exchange : FnM P w K mg base ca 1 "is_exchange" 2 f_is_exchange) (F_mixed : FnM P w K mg base ca 1 "mixed" 2 f_mixed) : BodyOk P w K mg base ca 72 "law" s_law N_law m_law := (fun f cdv A outer s H E hr => by
    have nd := sc_law.nd
    have tk := takes_of (X := cxOf (L2.CX P w) P w K mg base N_law "law" (defScope s_law) f cdv A outer s H E) rfl rfl rfl rfl
    exact mss_cons (ms_set (i := 1) (me_call F__law_stream (hr.mono (by decide)) tk (ma_cons (me_var 0) ma_nil)) nd) (mss_cons (ms_setLc (i := 2) (own := [("k", 4)]) rfl nd (mi_rng1 z_range (me_call F__law_draw (hr.mono (by decide)) tk (ma_cons (me_var 1) (ma_cons me_int ma_nil)))) (blkOk_by (N := N_law) (sc := defScope s_law) (own := [("k", 4)]) (by decide +kernel)) (gok_name (i := 4) (vs := [4]) (by decide)) (fun _ _ _ _ _ => pg_name (i := 4) nd rfl (by first | exact Or.inl rfl | exact Or.inr rfl)) (fun _ _ _ _ _ => mts_nil) (fun _ _ _ _ _ => me_call F__law_ordinal (hr.mono (by decide)) takes0 (ma_cons (me_var 1) (ma_cons me_int ma_nil)))) (mss_cons (ms_setOwn (i := 3) (mf_lst ma_nil) nd) (mss_cons (ms_for (passes_of rfl) rfl (mi_rng1 z_range (me_call F__law_draw (hr.mono (by decide)) tk (ma_cons (me_var 1) (ma_cons me_int ma_nil)))) (pg_name (i := 4) nd rfl (by first | exact Or.inl rfl | exact Or.inr rfl)) (gok_name (i := 4) (vs := [4]) (by decide)) (mss_one (ms_own PySem.F.slot_list_append PySem.F.type_list_append mt_append om_append 3 (me_if (mt_eq hr (me_call F__law_draw (hr.mono (by decide)) tk (ma_cons (me_var 1) (ma_cons me_int ma_nil))) me_int) (me_call F__law_pick (hr.mono (by decide)) tk (ma_cons (me_var 1) (ma_cons (me_add (me_var 2) (me_lst (ma_cons (me_tup ma_nil) ma_nil))) ma_nil))) (me_call F__law_ordinal (hr.mono (by decide)) tk (ma_cons (me_var 1) (ma_cons me_int ma_nil))))))) (mss_cons (ms_frz 3 (ms_set (i := 5) (me_call F__law_order (hr.mono (by decide)) tk (ma_cons (me_var 2) (ma_cons (me_var 3) ma_nil))) nd)) (mss_cons (ms_frz 3 (ms_if (mt_not (mt_truth (me_call F__law_same (hr.mono (by decide)) tk (ma_cons (me_call F_compare_bags (hr.mono (by decide)) tk (ma_cons (me_list1 z_list (ma_cons (me_var 2) ma_nil)) (ma_cons (me_list1 z_list (ma_cons (me_var 3) ma_nil)) ma_nil))) (ma_cons (me_var 5) ma_nil))))) (mss_one (ms_ret me_bl)) mss_nil)) (mss_cons (ms_frz 3 (ms_if (mt_not (mt_truth (me_call F__law_same (hr.mono (by decide)) tk (ma_cons (me_call F_is_exchange (hr.mono (by decide)) tk (ma_cons (me_list1 z_list (ma_cons (me_var 2) ma_nil)) (ma_cons (me_list1 z_list (ma_cons (me_var 3) ma_nil)) ma_nil))) (ma_cons (me_eq hr (me_var 5) me_int) ma_nil))))) (mss_one (ms_ret me_bl)) mss_nil)) (mss_cons (ms_frz 3 (ms_par (i := 6) (j := 7) rfl (ma_cons (me_call F_bag_ordinal (hr.mono (by decide)) tk (ma_cons (me_list1 z_list (ma_cons (me_var 2) ma_nil)) ma_nil)) (ma_cons (me_call F_bag_ordinal (hr.mono (by decide)) tk (ma_cons (me_list1 z_list (ma_cons (me_var 3) ma_nil)) ma_nil)) ma_nil)) nd)) (mss_cons (ms_if (mt_not (mt_truth (me_call F__law_same (hr.mono (by decide)) tk (ma_cons (me_sub (me_int1 z_int (ma_cons (me_gt hr (me_var 6) (me_var 7)) ma_nil)) (me_int1 z_int (ma_cons (me_lt hr (me_var 6) (me_var 7)) ma_nil))) (ma_cons (me_var 5) ma_nil))))) (mss_one (ms_ret me_bl)) mss_nil) (mss_cons (ms_frz 3 (ms_if (mt_not (mt_truth (me_call F__law_same (hr.mono (by decide)) tk (ma_cons (me_call F_bag_ordinal (hr.mono (by decide)) tk (ma_cons (me_add (me_var 2) (me_var 3)) ma_nil)) (ma_cons (me_call F_mixed (hr.mono (by decide)) tk (ma_cons (me_var 6) (ma_cons (me_var 7) ma_nil))) ma_nil))))) (mss_one (ms_ret me_bl)) mss_nil)) (mss_cons (ms_if (mt_not (mt_truth (me_call F__law_same (hr.mono (by decide)) tk (ma_cons (me_call F_bag_ordinal (hr.mono (by decide)) tk (ma_cons (me_rev (me_var 2)) ma_nil)) (ma_cons (me_var 6) ma_nil))))) (mss_one (ms_ret me_bl)) mss_nil) (mss_cons (ms_setLc (i := 8) (own := [("a", 11)]) rfl nd (mi_seq (me_var 2)) (blkOk_by (N := N_law) (sc := defScope s_law) (own := [("a", 11)]) (by decide +kernel)) (gok_name (i := 11) (vs := [11]) (by decide)) (fun _ _ _ _ _ => pg_name (i := 11) nd rfl (by first | exact Or.inl rfl | exact Or.inr rfl)) (fun _ _ _ _ _ => mts_one (mt_ne hr (me_var 11) (me_tup ma_nil))) (fun _ _ _ _ _ => me_var 11)) (mss_cons (ms_if (mt_eq hr (me_var 8) (me_lst ma_nil)) (mss_one (ms_ret me_bl)) mss_nil) (mss_cons (ms_set (i := 9) (me_call F__law_pick (hr.mono (by decide)) tk (ma_cons (me_var 1) (ma_cons (me_var 8) ma_nil))) nd) (mss_cons (ms_set (i := 10) (me_add (me_call F__law_without (hr.mono (by decide)) tk (ma_cons (me_var 2) (ma_cons (me_lst (ma_cons (me_var 9) ma_nil)) ma_nil))) (me_of_mf (mf_lc (own := [("k", 4)]) rfl nd (mi_rng1 z_range (me_call F__law_draw (hr.mono (by decide)) tk (ma_cons (me_var 1) (ma_cons me_int ma_nil)))) (blkOk_by (N := N_law) (sc := defScope s_law) (own := [("k", 4)]) (by decide +kernel)) (gok_name (i := 4) (vs := [4]) (by decide)) (fun _ _ _ _ _ => pg_name (i := 4) nd rfl (by first | exact Or.inl rfl | exact Or.inr rfl)) (fun _ _ _ _ _ => mts_nil) (fun _ _ _ _ _ => me_call F__law_lesser (hr.mono (by decide)) takes0 (ma_cons (me_var 1) (ma_cons (me_var 9) ma_nil)))))) nd) (mss_one (ms_ret (me_and (me_is (me_call F_is_exchange (hr.mono (by decide)) tk (ma_cons (me_list1 z_list (ma_cons (me_var 2) ma_nil)) (ma_cons (me_var 10) ma_nil))) me_bl) (me_one (me_eq hr (me_call F_compare_bags (hr.mono (by decide)) tk (ma_cons (me_var 10) (ma_cons (me_list1 z_list (ma_cons (me_var 2) ma_nil)) ma_nil))) (me_neg me_int)))))))))))))))))))))
end
end L_k56
namespace L_k56
open PySem L2 AG
section
variable {h : MH}
theorem power_ok {a : O} : f_power [a.enc] h = .ok (O.c a 1 O.z).enc h := by
  simp [f_power, m_power]
  rfl

/-! mixed -/
theorem while_mixed {a b : O} {p : O} {n : Int} (hb : b.dp ≤ 28) (hp : p.dp ≤ 28) : ∀ (b' : O) (acc pre : List D) (k : Nat), b'.len < k → b.its = pre ++ b'.its → b'.dp ≤ 28 → acc.length + b'.len ≤ 10000 →
    ∃ (acc2 pre2 : List D) (b2 : O), whileF t_mixed_1 b_mixed_1 k [.v a.enc, .v b.enc, .own acc, .v (.int pre.length), .v (.tup [p.enc, .int n])] h = .ok (.nx [.v a.enc, .v b.enc, .own acc2, .v (.int pre2.length), .v (.tup [p.enc, .int n])]) h ∧
      b.its = pre2 ++ b2.its ∧ b2.dp ≤ 28 ∧ (∀ f, acc2 ++ (O.mixIn p n f b2).its = acc ++ (O.mixIn p n f b').its) ∧ (b2 = O.z ∨ ∃ q m s, b2 = O.c q m s ∧ O.lt p q = false) ∧ acc2.length + b2.len = acc.length + b'.len ∧ b2.len ≤ b'.len
  | .z, acc, pre, k, hk, e, hd, hl => by
    obtain ⟨k, rfl⟩ : ∃ j, k = j + 1 := ⟨k - 1, by omega⟩
    have el : b.len = pre.length := by rw [← O.its_len, e]; simp [O.its]
    have ht : t_mixed_1 [.v a.enc, .v b.enc, .own acc, .v (.int pre.length), .v (.tup [p.enc, .int n])] h = .ok false h := by
      simp [t_mixed_1, el]
    exact ⟨acc, pre, .z, while_end ht, e, hd, fun _ => rfl, .inl rfl, rfl, Nat.le_refl _⟩
  | .c q m s, acc, pre, k, hk, e, hd, hl => by
    obtain ⟨k, rfl⟩ : ∃ j, k = j + 1 := ⟨k - 1, by omega⟩
    have hq : q.dp + 1 ≤ 28 := Nat.le_trans (Nat.le_max_left _ _) hd
    have hs : s.dp ≤ 28 := Nat.le_trans (Nat.le_max_right _ _) hd
    have el : (pre.length : Int) < (b.len : Int) := by
      have : b.len = pre.length + (s.len + 1) := by rw [← O.its_len, e]; simp [O.its_c, O.its_len]
      omega
    have at_ : atI b.its (pre.length : Int) = some (.tup [q.enc, .int m]) := by rw [e]; exact at_mid
    have ht : t_mixed_1 [.v a.enc, .v b.enc, .own acc, .v (.int pre.length), .v (.tup [p.enc, .int n])] h = .ok (O.lt p q) h := by
      simp [t_mixed_1, el, at_, opGt_enc (show q.dp ≤ 29 by omega) (show p.dp ≤ 29 by omega)]
    cases c : O.lt p q with
    | false =>
      rw [c] at ht
      exact ⟨acc, pre, .c q m s, while_end ht, e, hd, fun _ => rfl, .inr ⟨q, m, s, rfl, c⟩, rfl, Nat.le_refl _⟩
    | true =>
      rw [c] at ht
      simp only [O.len] at hl hk
      have la : acc.length < 16777216 := by omega
      have hbd : b_mixed_1 [.v a.enc, .v b.enc, .own acc, .v (.int pre.length), .v (.tup [p.enc, .int n])] h = .ok (.nx [.v a.enc, .v b.enc, .own (acc ++ [.tup [q.enc, .int m]]), .v (.int (pre.length + 1)), .v (.tup [p.enc, .int n])]) h := by
        simp [b_mixed_1, at_, fAppend, la]
      obtain ⟨acc2, pre2, b2, i1, i2, i3, i4, i5, i6, i7⟩ := while_mixed hb hp s (acc ++ [.tup [q.enc, .int m]]) (pre ++ [.tup [q.enc, .int m]]) k (by omega) (by rw [e]; simp [O.its_c]) hs (by simp; omega)
      refine ⟨acc2, pre2, b2, ?_, i2, i3, fun f => ?_, i5, by simp [O.len] at i6 ⊢; omega, by simp only [O.len]; omega⟩
      · rw [while_go ht hbd]
        simpa using i1
      · rw [i4 f]
        simp [O.mixIn, c, O.its_c]
theorem loop_mixed {a b : O} (hb : b.dp ≤ 28) : ∀ (r b' : O) (acc pre : List D) (sl : Slot), b.its = pre ++ b'.its → r.dp ≤ 28 → b'.dp ≤ 28 → acc.length + b'.len + r.len ≤ 10000 → b'.len < 1000 →
    ∃ (acc2 pre2 : List D) (b2 : O) (sl2 : Slot), loopF (tgName 4) b_mixed_2 r.its [.v a.enc, .v b.enc, .own acc, .v (.int pre.length), sl] h = .ok (.nx [.v a.enc, .v b.enc, .own acc2, .v (.int pre2.length), sl2]) h ∧
      b.its = pre2 ++ b2.its ∧ acc2 ++ b2.its = acc ++ (O.mix r b').its
  | .z, b', acc, pre, sl, e, hr, hd, hl, h1 => ⟨acc, pre, b', sl, rfl, e, rfl⟩
  | .c p n r, b', acc, pre, sl, e, hr, hd, hl, h1 => by
    have hp : p.dp + 1 ≤ 28 := Nat.le_trans (Nat.le_max_left _ _) hr
    have hr' : r.dp ≤ 28 := Nat.le_trans (Nat.le_max_right _ _) hr
    simp only [O.len] at hl
    obtain ⟨acc2, pre2, b2, i1, i2, i3, i4, i5, i6, i7⟩ := while_mixed (h := h) (a := a) (n := n) (k := 1000) hb (show p.dp ≤ 28 by omega) b' acc pre h1 e hd (by omega)
    have la : acc2.length < 16777216 := by omega
    have l2 : b2.len < 1000 ∨ True := .inr trivial
    rcases i5 with rfl | ⟨q, m, s, rfl, c⟩
    · have el : b.len = pre2.length := by rw [← O.its_len, i2]; simp [O.its]
      have hs : b_mixed_2 [.v a.enc, .v b.enc, .own acc, .v (.int pre.length), .v (.tup [p.enc, .int n])] h = .ok (.nx [.v a.enc, .v b.enc, .own (acc2 ++ [.tup [p.enc, .int n]]), .v (.int pre2.length), .v (.tup [p.enc, .int n])]) h := by
        simp [b_mixed_2, i1, el, fAppend, la]
      simp only [O.len] at i6
      obtain ⟨acc3, pre3, b3, sl3, j1, j2, j3⟩ := loop_mixed hb r .z (acc2 ++ [.tup [p.enc, .int n]]) pre2 (.v (.tup [p.enc, .int n])) i2 hr' (Nat.zero_le _) (by simp [O.len]; omega) (by simp [O.len])
      refine ⟨acc3, pre3, b3, sl3, ?_, j2, ?_⟩
      · rw [O.its_c, loopF_cons (by rfl) hs]
        exact j1
      · rw [j3, O.mix, ← i4]
        simp [O.mixIn, O.its_c]
    · have hq : q.dp + 1 ≤ 28 := Nat.le_trans (Nat.le_max_left _ _) i3
      have hs' : s.dp ≤ 28 := Nat.le_trans (Nat.le_max_right _ _) i3
      have el : (pre2.length : Int) < (b.len : Int) := by
        have : b.len = pre2.length + (s.len + 1) := by rw [← O.its_len, i2]; simp [O.its_c, O.its_len]
        omega
      have at_ : atI b.its (pre2.length : Int) = some (.tup [q.enc, .int m]) := by rw [i2]; exact at_mid
      simp only [O.len] at i6 i7
      by_cases eq : q = p
      · subst eq
        have hs : b_mixed_2 [.v a.enc, .v b.enc, .own acc, .v (.int pre.length), .v (.tup [q.enc, .int n])] h = .ok (.nx [.v a.enc, .v b.enc, .own (acc2 ++ [.tup [q.enc, .int (n + m)]]), .v (.int (pre2.length + 1)), .v (.tup [q.enc, .int n])]) h := by
          simp [b_mixed_2, i1, el, at_, fAppend, la, opEq_enc (show q.dp ≤ 29 by omega) (show q.dp ≤ 29 by omega)]
        obtain ⟨acc3, pre3, b3, sl3, j1, j2, j3⟩ := loop_mixed hb r s (acc2 ++ [.tup [q.enc, .int (n + m)]]) (pre2 ++ [.tup [q.enc, .int m]]) (.v (.tup [q.enc, .int n])) (by rw [i2]; simp [O.its_c]) hr' hs' (by simp; omega) (by omega)
        refine ⟨acc3, pre3, b3, sl3, ?_, j2, ?_⟩
        · rw [O.its_c, loopF_cons (by rfl) hs]
          simpa using j1
        · rw [j3, O.mix, ← i4]
          simp [O.mixIn, O.its_c, c]
      · have eq' : ¬ p = q := fun z => eq z.symm
        have hs : b_mixed_2 [.v a.enc, .v b.enc, .own acc, .v (.int pre.length), .v (.tup [p.enc, .int n])] h = .ok (.nx [.v a.enc, .v b.enc, .own (acc2 ++ [.tup [p.enc, .int n]]), .v (.int pre2.length), .v (.tup [p.enc, .int n])]) h := by
          simp [b_mixed_2, i1, el, at_, fAppend, la, opEq_enc (show q.dp ≤ 29 by omega) (show p.dp ≤ 29 by omega), eq]
        obtain ⟨acc3, pre3, b3, sl3, j1, j2, j3⟩ := loop_mixed hb r (.c q m s) (acc2 ++ [.tup [p.enc, .int n]]) pre2 (.v (.tup [p.enc, .int n])) i2 hr' i3 (by simp [O.len]; omega) (by simp [O.len]; omega)
        refine ⟨acc3, pre3, b3, sl3, ?_, j2, ?_⟩
        · rw [O.its_c, loopF_cons (by rfl) hs]
          exact j1
        · rw [j3, O.mix, ← i4]
          simp [O.mixIn, O.its_c, c, eq']
theorem mixed_ok {a b : O} (ha : a.dp ≤ 28) (hb : b.dp ≤ 28) (hl : a.len + b.len < 1000) : f_mixed [a.enc, b.enc] h = .ok (O.mix a b).enc h := by
  obtain ⟨acc2, pre2, b2, sl2, j1, j2, j3⟩ := loop_mixed (h := h) (a := a) hb a b [] [] .no (by simp) ha hb (by simp; omega) (by omega)
  have hc : cutD b.its (some (pre2.length : Int)) none = b2.its := by
    have e1 : HT.sIx b.its.length 0 (some (pre2.length : Int)) = pre2.length := by
      rw [j2]
      simp [HT.sIx]
      try omega
    have e2 : HT.sIx b.its.length b.its.length none = b.its.length := rfl
    unfold cutD
    rw [e1, e2, j2]
    simp
  have l1 : acc2.length + b2.its.length ≤ 16777216 := by
    have := congrArg List.length j3
    simp only [List.length_append, List.length_nil] at this
    rw [O.its_len (O.mix a b)] at this
    have := O.mix_len a b
    omega
  have e : (O.mix a b).its = acc2 ++ b2.its := by simpa using j3.symm
  have j1 : loopF (tgName 4) b_mixed_2 a.its [.v a.enc, .v b.enc, .own [], .v (.int 0), .no] h = .ok (.nx [.v a.enc, .v b.enc, .own acc2, .v (.int pre2.length), sl2]) h := j1
  simp [f_mixed, m_mixed, j1, hc, l1]
  rw [enc_eq (O.mix a b), e]

/-! bags -/
def bagO (L : List O) : O := L.foldl (fun acc a => O.mix acc (O.c a 1 O.z)) O.z
theorem loop_bag {X : D} : ∀ (L : List O) (acc : O) (sl : AG.Slot), (∀ x ∈ L, x.dp ≤ 27) → acc.dp ≤ 28 → acc.len + L.length < 900 →
    ∃ sl2, loopF (tgName 2) b_bag_ordinal_1 (L.map O.enc) [.v X, .v acc.enc, sl] h = .ok (.nx [.v X, .v (L.foldl (fun acc a => O.mix acc (O.c a 1 O.z)) acc).enc, sl2]) h
  | [], acc, sl, _, _, _ => ⟨sl, rfl⟩
  | x :: L, acc, sl, hL, ha, hl => by
    have hx := hL x List.mem_cons_self
    have hd : (O.c x 1 O.z).dp ≤ 28 := by simp only [O.dp]; omega
    have hm := mixed_ok (h := h) ha hd (by simp only [O.len, List.length_cons] at hl ⊢; omega)
    have hs : b_bag_ordinal_1 [.v X, .v acc.enc, .v x.enc] h = .ok (.nx [.v X, .v (O.mix acc (O.c x 1 O.z)).enc, .v x.enc]) h := by
      simp [b_bag_ordinal_1, power_ok, hm]
    have l2 := O.mix_len acc (O.c x 1 O.z)
    obtain ⟨sl2, e⟩ := loop_bag L (O.mix acc (O.c x 1 O.z)) (.v x.enc) (fun y hy => hL y (List.mem_cons_of_mem _ hy)) (O.mix_dp _ _ ha hd) (by simp only [O.len, List.length_cons] at hl l2 ⊢; omega)
    refine ⟨sl2, ?_⟩
    rw [List.map_cons, loopF_cons (by rfl) hs]
    exact e
theorem bag_ok {L : List O} (hL : ∀ x ∈ L, x.dp ≤ 27) (hl : L.length < 900) : f_bag_ordinal [.lst (L.map O.enc)] h = .ok (bagO L).enc h := by
  obtain ⟨sl2, e⟩ := loop_bag (h := h) (X := .lst (L.map O.enc)) L O.z .no hL (Nat.zero_le _) (by simp only [O.len]; omega)
  have e' : loopF (tgName 2) b_bag_ordinal_1 (L.map O.enc) [.v (.lst (L.map O.enc)), .v c_ZERO, .no] h = .ok (.nx [.v (.lst (L.map O.enc)), .v (bagO L).enc, sl2]) h := e
  simp [f_bag_ordinal, m_bag_ordinal, e']
theorem bag_dp {L : List O} {k : Nat} (hL : ∀ x ∈ L, x.dp < k) : (bagO L).dp ≤ k := by
  unfold bagO
  have : ∀ (L : List O) (acc : O), (∀ x ∈ L, x.dp < k) → acc.dp ≤ k → (L.foldl (fun acc a => O.mix acc (O.c a 1 O.z)) acc).dp ≤ k := by
    intro L
    induction L with
    | nil => exact fun acc _ h => h
    | cons x L ih =>
      intro acc hL ha
      have hx := hL x List.mem_cons_self
      refine ih _ (fun y hy => hL y (List.mem_cons_of_mem _ hy)) (O.mix_dp _ _ ha ?_)
      simp only [O.dp]
      omega
  exact this L O.z hL (Nat.zero_le _)
theorem bag_len {L : List O} : (bagO L).len ≤ L.length := by
  unfold bagO
  have : ∀ (L : List O) (acc : O), (L.foldl (fun acc a => O.mix acc (O.c a 1 O.z)) acc).len ≤ acc.len + L.length := by
    intro L
    induction L with
    | nil => exact fun acc => Nat.le_refl _
    | cons x L ih =>
      intro acc
      have h1 := ih (O.mix acc (O.c x 1 O.z))
      have h2 := O.mix_len acc (O.c x 1 O.z)
      simp only [List.foldl_cons, List.length_cons, O.len] at h1 h2 ⊢
      omega
  simpa [O.len] using this L O.z
theorem bag_nf {L : List O} (hL : ∀ x ∈ L, x.nf) : (bagO L).nf := by
  unfold bagO
  have : ∀ (L : List O) (acc : O), (∀ x ∈ L, x.nf) → acc.nf → (L.foldl (fun acc a => O.mix acc (O.c a 1 O.z)) acc).nf := by
    intro L
    induction L with
    | nil => exact fun acc _ h => h
    | cons x L ih =>
      intro acc hL ha
      exact ih _ (fun y hy => hL y (List.mem_cons_of_mem _ hy)) (O.nf_mix _ _ ha ⟨hL x List.mem_cons_self, Int.le_refl 1, trivial, trivial⟩)
  exact this L O.z hL trivial
theorem bag_cnt (L : List O) (x : O) : O.cnt (bagO L) x = (L.count x : Int) := by
  unfold bagO
  have : ∀ (L : List O) (acc : O), O.cnt (L.foldl (fun acc a => O.mix acc (O.c a 1 O.z)) acc) x = O.cnt acc x + (L.count x : Int) := by
    intro L
    induction L with
    | nil => intro acc; simp
    | cons y L ih =>
      intro acc
      rw [List.foldl_cons, ih, O.cnt_mix, O.cnt_c, List.count_cons]
      by_cases e : y = x
      · subst e; simp [O.cnt]; omega
      · have e' : (y == x) = false := by simp [e]
        simp [O.cnt, e]
  have := this L O.z
  simpa [O.cnt] using this
theorem bag_mx {L : List O} {k : Nat} (hL : ∀ x ∈ L, x.mx ≤ k) (hl : L.length ≤ k) : (bagO L).mx ≤ k := by
  have hb : O.allP (fun p => p.mx ≤ k) (bagO L) := by
    unfold bagO
    have : ∀ (L : List O) (acc : O), (∀ x ∈ L, x.mx ≤ k) → O.allP (fun p => p.mx ≤ k) acc → O.allP (fun p => p.mx ≤ k) (L.foldl (fun acc a => O.mix acc (O.c a 1 O.z)) acc) := by
      intro L
      induction L with
      | nil => exact fun acc _ h => h
      | cons x L ih =>
        intro acc hL ha
        exact ih _ (fun y hy => hL y (List.mem_cons_of_mem _ hy)) (O.allP_mix _ _ ha ⟨hL x List.mem_cons_self, trivial⟩)
    exact this L O.z hL trivial
  exact O.mx_of (Nat.le_trans bag_len hl) hb

/-! the order of bags -/
def due (L M : List O) : Int := if wo L M = [] ∧ wo M L = [] then 0 else if ((wo L M).all fun a => (wo M L).any fun b => O.lt a b) = true then -1 else 1
theorem max_of : ∀ {L : List O}, L ≠ [] → ∃ m ∈ L, ∀ x ∈ L, O.lt m x = false
  | [], h => absurd rfl h
  | [a], _ => ⟨a, by simp, fun x hx => by rw [List.mem_singleton.mp hx]; exact O.lt_irrefl a⟩
  | a :: b :: L, _ => by
    obtain ⟨m, h1, h2⟩ := max_of (L := b :: L) (by simp)
    cases c : O.lt m a with
    | true =>
      refine ⟨a, by simp, fun x hx => ?_⟩
      rcases List.mem_cons.mp hx with q | q
      · rw [q]; exact O.lt_irrefl a
      · cases d : O.lt a x with
        | false => rfl
        | true => have := O.lt_trans c d; rw [h2 x q] at this; cases this
    | false =>
      refine ⟨m, List.mem_cons_of_mem _ h1, fun x hx => ?_⟩
      rcases List.mem_cons.mp hx with q | q
      · rw [q]; exact c
      · exact h2 x q
/-- the greatest one that stands more often in one of them decides -/
theorem bag_order {L M : List O} (hL : ∀ x ∈ L, x.nf) (hM : ∀ x ∈ M, x.nf) :
    (due L M = 0 → bagO L = bagO M) ∧ (due L M = -1 → O.lt (bagO L) (bagO M) = true) ∧ (due L M = 1 → O.lt (bagO M) (bagO L) = true) ∧ (due L M = 0 ∨ due L M = -1 ∨ due L M = 1) := by
  have cl := fun x => bag_cnt L x
  have cm := fun x => bag_cnt M x
  have eqv : (∀ x, L.count x = M.count x) → bagO L = bagO M := fun e => O.cnt_ext (bag_nf hL) (bag_nf hM) fun x => by rw [cl, cm, e x]
  have none_ : ∀ {L M : List O}, wo L M = [] → ∀ x, L.count x ≤ M.count x := fun {L M} e x => by
    have : x ∉ wo L M := by rw [e]; simp
    rw [mem_wo] at this
    omega
  -- from a greatest one of the differences
  have great : ∀ {L M : List O} {m : O}, (∀ x ∈ L, x.nf) → (∀ x ∈ M, x.nf) → m ∈ wo M L → (∀ x ∈ wo M L, O.lt m x = false) → (∀ x ∈ wo L M, O.lt x m = true) → O.lt (bagO L) (bagO M) = true := fun {L M m} nL nM hm h1 h2 => by
    have := mem_wo.mp hm
    refine O.cnt_lt (x := m) (bag_nf nL) (bag_nf nM) (by rw [bag_cnt, bag_cnt]; omega) fun y hy => ?_
    rw [bag_cnt, bag_cnt]
    have a1 : y ∉ wo M L := fun hz => by rw [h1 y hz] at hy; cases hy
    have a2 : y ∉ wo L M := fun hz => by have := h2 y hz; rw [O.lt_asymm hy] at this; cases this
    rw [mem_wo] at a1 a2
    omega
  unfold due
  by_cases c0 : wo L M = [] ∧ wo M L = []
  · rw [if_pos c0]
    refine ⟨fun _ => eqv fun x => Nat.le_antisymm (none_ c0.1 x) (none_ c0.2 x), fun h => absurd h (by decide), fun h => absurd h (by decide), .inl rfl⟩
  · rw [if_neg c0]
    by_cases c1 : ((wo L M).all fun a => (wo M L).any fun b => O.lt a b) = true
    · rw [if_pos c1]
      refine ⟨fun h => absurd h (by decide), fun _ => ?_, fun h => absurd h (by decide), .inr (.inl rfl)⟩
      have ne : wo M L ≠ [] := fun e => by
        rw [e] at c1
        refine c0 ⟨?_, e⟩
        cases q : wo L M with
        | nil => rfl
        | cons a r => rw [q] at c1; simp at c1
      obtain ⟨m, h1, h2⟩ := max_of ne
      refine great hL hM h1 h2 fun x hx => ?_
      obtain ⟨b, hb, hlt⟩ := List.any_eq_true.mp (List.all_eq_true.mp c1 x hx)
      rcases O.not_lt (h2 b hb) with e | e
      · rw [e]; exact hlt
      · exact O.lt_trans hlt e
    · rw [if_neg c1]
      refine ⟨fun h => absurd h (by decide), fun h => absurd h (by decide), fun _ => ?_, .inr (.inr rfl)⟩
      -- one that none is above
      have ⟨a, ha, hn⟩ : ∃ a ∈ wo L M, ∀ b ∈ wo M L, O.lt a b = false := by
        have c1' : ¬ ∀ a ∈ wo L M, ((wo M L).any fun b => O.lt a b) = true := fun q => c1 (List.all_eq_true.mpr q)
        obtain ⟨a, q⟩ := Classical.not_forall.mp c1'
        obtain ⟨ha, q⟩ := Classical.not_imp.mp q
        refine ⟨a, ha, fun b hb => ?_⟩
        cases z : O.lt a b with
        | false => rfl
        | true => exact absurd (List.any_eq_true.mpr ⟨b, hb, z⟩) q
      obtain ⟨m, h1, h2⟩ := max_of (L := wo L M) (fun e => by rw [e] at ha; cases ha)
      refine great hM hL h1 h2 fun x hx => ?_
      have k1 : O.lt m x = false := by
        cases z : O.lt m x with
        | false => rfl
        | true =>
          rcases O.not_lt (h2 a ha) with e | e
          · subst e; rw [hn x hx] at z; cases z
          · have := O.lt_trans e z; rw [hn x hx] at this; cases this
      rcases O.not_lt k1 with e | e
      · subst e
        have p1 := mem_wo.mp h1
        have p2 := mem_wo.mp hx
        omega
      · exact e

/-! without -/
theorem loop_without {X Y : D} (hn : h.all MO.nl = true) : ∀ (M r : List O) (sl : AG.Slot), (∀ x ∈ M, x.dp ≤ 28) → (∀ x ∈ r, x.dp ≤ 28) →
    ∃ sl2, loopF (tgName 3) b__law_without_1 (M.map O.enc) [.v X, .v Y, .own (r.map O.enc), sl] h = .ok (.nx [.v X, .v Y, .own ((wo r M).map O.enc), sl2]) h
  | [], r, sl, _, _ => ⟨sl, rfl⟩
  | m :: M, r, sl, hM, hr => by
    have hm := hM m List.mem_cons_self
    have hi := opIn_encL (h := h) (g := id) hm hr
    obtain ⟨sl2, e⟩ := loop_without (X := X) (Y := Y) hn M (r.erase m) (.v m.enc) (fun y hy => hM y (List.mem_cons_of_mem _ hy)) (fun y hy => hr y (List.mem_of_mem_erase hy))
    refine ⟨sl2, ?_⟩
    have hs : b__law_without_1 [.v X, .v Y, .own (r.map O.enc), .v m.enc] h = .ok (.nx [.v X, .v Y, .own ((r.erase m).map O.enc), .v m.enc]) h := by
      by_cases c : m ∈ r
      · simp [b__law_without_1, hi, hn, c, fRemove_enc hm hr c]
      · simp [b__law_without_1, hi, hn, c, List.erase_of_not_mem c]
    rw [List.map_cons, loopF_cons (by rfl) hs]
    exact e
theorem without_ok {L M : List O} (hn : h.all MO.nl = true) (hL : ∀ x ∈ L, x.dp ≤ 28) (hM : ∀ x ∈ M, x.dp ≤ 28) : f__law_without [.lst (L.map O.enc), .lst (M.map O.enc)] h = .ok (.lst ((wo L M).map O.enc)) h := by
  obtain ⟨sl2, e⟩ := loop_without (X := .lst (L.map O.enc)) (Y := .lst (M.map O.enc)) hn M L .no hM hL
  simp [f__law_without, m__law_without, e]

/-! the order of bags, as the law has it -/
theorem order_inner {L : List O} {a : O} {A B C E : AG.Slot} (ha : a.dp ≤ 28) (hL : ∀ x ∈ L, x.dp ≤ 28) :
    compF (tgName 6) mYes e__law_order_1 [A, B, C, .v (.lst (L.map O.enc)), E, .v a.enc, .no] (L.map O.enc) h = .ok (L.map fun b => D.bl (O.lt a b)) h :=
  compF_map (f := O.enc) (g := fun b => D.bl (O.lt a b)) fun b hb => ⟨_, rfl, by
    have := hL b hb
    simp [e__law_order_1, opLt_enc (h := h) (show a.dp ≤ 29 by omega) (show b.dp ≤ 29 by omega)]⟩
theorem order_outer {L M : List O} {A B E : AG.Slot} (hM : ∀ x ∈ M, x.dp ≤ 28) (hL : ∀ x ∈ L, x.dp ≤ 28) (lL : L.length ≤ 16777216) :
    compF (tgName 5) mYes e__law_order_2 [A, B, .v (.lst (M.map O.enc)), .v (.lst (L.map O.enc)), E, .no, .no] (M.map O.enc) h = .ok (M.map fun a => D.bl (L.any fun b => O.lt a b)) h :=
  compF_map (f := O.enc) (g := fun a => D.bl (L.any fun b => O.lt a b)) fun a ha => ⟨_, rfl, by
    have e := order_inner (h := h) (A := A) (B := B) (C := .v (.lst (M.map O.enc))) (E := E) (hM a ha) hL
    have f := fAny_map (h := h) (p := fun b => O.lt a b) (xs := L)
    simp [e__law_order_2, wipeE, lL, e, f]⟩
theorem order_ok {L M : List O} (hn : h.all MO.nl = true) (hL : ∀ x ∈ L, x.dp ≤ 28) (hM : ∀ x ∈ M, x.dp ≤ 28) (lL : L.length ≤ 1000) (lM : M.length ≤ 1000) : f__law_order [.lst (L.map O.enc), .lst (M.map O.enc)] h = .ok (.int (due L M)) h := by
  have w1 := without_ok hn hL hM
  have w2 := without_ok hn hM hL
  have d1 : ∀ x ∈ wo L M, x.dp ≤ 28 := fun x hx => hL x (wo_sub hx)
  have d2 : ∀ x ∈ wo M L, x.dp ≤ 28 := fun x hx => hM x (wo_sub hx)
  have e1 := opEq_encL (h := h) (L := wo L M) (L' := []) d1 (by simp)
  have e2 := opEq_encL (h := h) (L := wo M L) (L' := []) d2 (by simp)
  have l1 : (wo L M).length ≤ 16777216 := by have := wo_len L M; omega
  have l2 : (wo M L).length ≤ 16777216 := by have := wo_len M L; omega
  have c := order_outer (h := h) (A := .v (.lst (L.map O.enc))) (B := .v (.lst (M.map O.enc))) (E := .no) d1 d2 l2
  have f := fAll_map (h := h) (p := fun a => (wo M L).any fun b => O.lt a b) (xs := wo L M)
  simp only [List.map_nil] at e1 e2
  cases q1 : decide (wo L M = []) with
  | false =>
    have hd : due L M = if ((wo L M).all fun a => (wo M L).any fun b => O.lt a b) = true then -1 else 1 := by
      unfold due
      rw [if_neg fun z => of_decide_eq_false q1 z.1]
    rw [q1] at e1
    cases q3 : ((wo L M).all fun a => (wo M L).any fun b => O.lt a b) with
    | true => rw [q3] at f hd; simp [f__law_order, m__law_order, w1, w2, tgTup, e1, wipeE, l1, c, f, hd]
    | false => rw [q3] at f hd; simp [f__law_order, m__law_order, w1, w2, tgTup, e1, wipeE, l1, c, f, hd]
  | true =>
    rw [q1] at e1
    cases q2 : decide (wo M L = []) with
    | true =>
      have hd : due L M = 0 := by
        unfold due
        rw [if_pos ⟨of_decide_eq_true q1, of_decide_eq_true q2⟩]
      rw [q2] at e2
      simp [f__law_order, m__law_order, w1, w2, tgTup, e1, e2, hd]
    | false =>
      have hd : due L M = if ((wo L M).all fun a => (wo M L).any fun b => O.lt a b) = true then -1 else 1 := by
        unfold due
        rw [if_neg fun z => of_decide_eq_false q2 z.2]
      rw [q2] at e2
      cases q3 : ((wo L M).all fun a => (wo M L).any fun b => O.lt a b) with
      | true => rw [q3] at f hd; simp [f__law_order, m__law_order, w1, w2, tgTup, e1, e2, wipeE, l1, c, f, hd]
      | false => rw [q3] at f hd; simp [f__law_order, m__law_order, w1, w2, tgTup, e1, e2, wipeE, l1, c, f, hd]

/-! compare_bags -/
theorem compare_ok {L M : List O} (hL : ∀ x ∈ L, x.dp ≤ 27) (hM : ∀ x ∈ M, x.dp ≤ 27) (lL : L.length < 900) (lM : M.length < 900) (nL : ∀ x ∈ L, x.nf) (nM : ∀ x ∈ M, x.nf) : f_compare_bags [.lst (L.map O.enc), .lst (M.map O.enc)] h = .ok (.int (due L M)) h := by
  have b1 := bag_ok (h := h) hL lL
  have b2 := bag_ok (h := h) hM lM
  have d1 : (bagO L).dp ≤ 29 := Nat.le_trans (bag_dp (k := 28) fun x hx => by have := hL x hx; omega) (by decide)
  have d2 : (bagO M).dp ≤ 29 := Nat.le_trans (bag_dp (k := 28) fun x hx => by have := hM x hx; omega) (by decide)
  have g := opGt_enc (h := h) d1 d2
  have l := opLt_enc (h := h) d1 d2
  obtain ⟨o1, o2, o3, o4⟩ := bag_order nL nM
  rcases o4 with o | o | o
  · have e := o1 o
    rw [e] at b1 g l
    have i := O.lt_irrefl (bagO M)
    rw [i] at g l
    simp [f_compare_bags, m_compare_bags, b1, b2, g, l, o]
  · have e := o2 o
    have e' := O.lt_asymm e
    rw [e'] at g
    rw [e] at l
    simp [f_compare_bags, m_compare_bags, b1, b2, g, l, o]
  · have e := o3 o
    have e' := O.lt_asymm e
    rw [e] at g
    rw [e'] at l
    simp [f_compare_bags, m_compare_bags, b1, b2, g, l, o]

/-! is_exchange -/
def exO : List O → List O → List O → List O × List O
  | [], l, r => (l, r)
  | a :: P, l, r => if a ∈ r then exO P (l.erase a) (r.erase a) else exO P l r
theorem exO_count : ∀ (P l r : List O) (x : O), (∀ y, P.count y ≤ l.count y) → (exO P l r).1.count x + min (P.count x) (r.count x) = l.count x ∧ (exO P l r).2.count x + min (P.count x) (r.count x) = r.count x
  | [], l, r, x, _ => by simp [exO]
  | a :: P, l, r, x, hp => by
    have ha := hp a
    rw [List.count_cons_self] at ha
    rw [exO]
    by_cases c : a ∈ r
    · rw [if_pos c]
      have hr : 0 < r.count a := List.count_pos_iff.mpr c
      have ih := exO_count P (l.erase a) (r.erase a) x fun y => by
        have := hp y
        rw [List.count_cons] at this
        rw [List.count_erase]
        by_cases e : a = y
        · subst e; simp at this ⊢; omega
        · have e' : (a == y) = false := by simp [e]
          simp [e'] at this ⊢; omega
      rw [List.count_erase, List.count_erase] at ih
      rw [List.count_cons]
      by_cases e : a = x
      · subst e
        simp only [beq_self_eq_true, if_true] at ih ⊢
        omega
      · have e' : (a == x) = false := by simp [e]
        simp only [e', Bool.false_eq_true, if_false] at ih ⊢
        omega
    · rw [if_neg c]
      have hr : r.count a = 0 := List.count_eq_zero.mpr c
      have ih := exO_count P l r x fun y => by
        have := hp y
        rw [List.count_cons] at this
        omega
      rw [List.count_cons]
      by_cases e : a = x
      · subst e
        simp only [beq_self_eq_true, if_true]
        omega
      · have e' : (a == x) = false := by simp [e]
        simp only [e', Bool.false_eq_true, if_false]
        omega
theorem exO_mem {L M : List O} {x : O} : (x ∈ (exO L L M).1 ↔ x ∈ wo L M) ∧ (x ∈ (exO L L M).2 ↔ x ∈ wo M L) := by
  obtain ⟨h1, h2⟩ := exO_count L L M x fun _ => Nat.le_refl _
  rw [mem_wo, mem_wo, ← List.count_pos_iff, ← List.count_pos_iff]
  omega
theorem exO_sub : ∀ (P l r : List O) (x : O), (x ∈ (exO P l r).1 → x ∈ l) ∧ (x ∈ (exO P l r).2 → x ∈ r)
  | [], l, r, x => ⟨id, id⟩
  | a :: P, l, r, x => by
    rw [exO]
    split
    · obtain ⟨i1, i2⟩ := exO_sub P (l.erase a) (r.erase a) x
      exact ⟨fun h => List.mem_of_mem_erase (i1 h), fun h => List.mem_of_mem_erase (i2 h)⟩
    · exact exO_sub P l r x
theorem exO_len : ∀ (P l r : List O), (exO P l r).1.length ≤ l.length ∧ (exO P l r).2.length ≤ r.length
  | [], l, r => ⟨Nat.le_refl _, Nat.le_refl _⟩
  | a :: P, l, r => by
    rw [exO]
    split
    · obtain ⟨i1, i2⟩ := exO_len P (l.erase a) (r.erase a)
      exact ⟨Nat.le_trans i1 (List.length_erase_le ..), Nat.le_trans i2 (List.length_erase_le ..)⟩
    · exact exO_len P l r
def exB (L M : List O) : Bool := !(exO L L M).1.isEmpty && (exO L L M).2.all fun b => (exO L L M).1.any fun a => O.lt b a
theorem exB_due (L M : List O) : exB L M = decide (due L M = 1) := by
  have m1 := fun x => (exO_mem (L := L) (M := M) (x := x)).1
  have m2 := fun x => (exO_mem (L := L) (M := M) (x := x)).2
  have key : exB L M = true ↔ due L M = 1 := by
    unfold exB
    rw [Bool.and_eq_true, List.all_eq_true]
    constructor
    · rintro ⟨h1, h2⟩
      have ne : wo L M ≠ [] := fun e => by
        cases q : (exO L L M).1 with
        | nil => rw [q] at h1; cases h1
        | cons a r =>
          have := (m1 a).mp (by rw [q]; simp)
          rw [e] at this
          cases this
      unfold due
      rw [if_neg fun z => ne z.1]
      rw [if_neg]
      intro z
      obtain ⟨m, k1, k2⟩ := max_of ne
      obtain ⟨b, kb, kl⟩ := List.any_eq_true.mp (List.all_eq_true.mp z m k1)
      obtain ⟨a, ka, kl2⟩ := List.any_eq_true.mp (h2 b ((m2 b).mpr kb))
      have := O.lt_trans kl kl2
      rw [k2 a ((m1 a).mp ka)] at this
      cases this
    · intro h
      unfold due at h
      split at h
      · cases h
      · split at h
        · cases h
        · rename_i c0 c1
          have c1' : ¬ ∀ a ∈ wo L M, ((wo M L).any fun b => O.lt a b) = true := fun q => c1 (List.all_eq_true.mpr q)
          obtain ⟨a, q⟩ := Classical.not_forall.mp c1'
          obtain ⟨ha, q⟩ := Classical.not_imp.mp q
          have ha' := (m1 a).mpr ha
          refine ⟨?_, fun b hb => List.any_eq_true.mpr ⟨a, ha', ?_⟩⟩
          · cases z : (exO L L M).1 with
            | nil => rw [z] at ha'; cases ha'
            | cons _ _ => rfl
          · have hb' := (m2 b).mp hb
            have k : O.lt a b = false := by
              cases z : O.lt a b with
              | false => rfl
              | true => exact absurd (List.any_eq_true.mpr ⟨b, hb', z⟩) q
            rcases O.not_lt k with e | e
            · subst e
              have p1 := mem_wo.mp ha
              have p2 := mem_wo.mp hb'
              omega
            · exact e
  cases c : exB L M with
  | true => simp [key.mp c]
  | false =>
    have : ¬ due L M = 1 := fun z => by rw [key.mpr z] at c; cases c
    simp [this]
theorem loop_ex {X Y : D} {sb : AG.Slot} (hn : h.all MO.nl = true) : ∀ (P l r : List O) (sl : AG.Slot), (∀ x ∈ P, x.dp ≤ 28) → (∀ x ∈ l, x.dp ≤ 28) → (∀ x ∈ r, x.dp ≤ 28) → (∀ y, P.count y ≤ l.count y) →
    ∃ sl2, loopF (tgName 4) b_is_exchange_1 (P.map O.enc) [.v X, .v Y, .own (l.map O.enc), .own (r.map O.enc), sl, sb] h = .ok (.nx [.v X, .v Y, .own ((exO P l r).1.map O.enc), .own ((exO P l r).2.map O.enc), sl2, sb]) h
  | [], l, r, sl, _, _, _, _ => ⟨sl, rfl⟩
  | a :: P, l, r, sl, hP, hl, hr, hc => by
    have ha := hP a List.mem_cons_self
    have hi := opIn_encL (h := h) (g := id) ha hr
    have ca := hc a
    rw [List.count_cons_self] at ca
    have hal : a ∈ l := List.count_pos_iff.mp (by omega)
    by_cases c : a ∈ r
    · obtain ⟨sl2, e⟩ := loop_ex (X := X) (Y := Y) (sb := sb) hn P (l.erase a) (r.erase a) (.v a.enc) (fun y hy => hP y (List.mem_cons_of_mem _ hy)) (fun y hy => hl y (List.mem_of_mem_erase hy)) (fun y hy => hr y (List.mem_of_mem_erase hy)) fun y => by
        have := hc y
        rw [List.count_cons] at this
        rw [List.count_erase]
        by_cases e : a = y
        · subst e; simp at this ⊢; omega
        · have e' : (a == y) = false := by simp [e]
          simp [e'] at this ⊢; omega
      refine ⟨sl2, ?_⟩
      have hs : b_is_exchange_1 [.v X, .v Y, .own (l.map O.enc), .own (r.map O.enc), .v a.enc, sb] h = .ok (.nx [.v X, .v Y, .own ((l.erase a).map O.enc), .own ((r.erase a).map O.enc), .v a.enc, sb]) h := by
        simp [b_is_exchange_1, hi, hn, c, fRemove_enc ha hr c, fRemove_enc ha hl hal]
      rw [List.map_cons, loopF_cons (by rfl) hs, exO, if_pos c]
      exact e
    · obtain ⟨sl2, e⟩ := loop_ex (X := X) (Y := Y) (sb := sb) hn P l r (.v a.enc) (fun y hy => hP y (List.mem_cons_of_mem _ hy)) hl hr fun y => by
        have := hc y
        rw [List.count_cons] at this
        omega
      refine ⟨sl2, ?_⟩
      have hs : b_is_exchange_1 [.v X, .v Y, .own (l.map O.enc), .own (r.map O.enc), .v a.enc, sb] h = .ok (.nx [.v X, .v Y, .own (l.map O.enc), .own (r.map O.enc), .v a.enc, sb]) h := by
        simp [b_is_exchange_1, hi, hn, c]
      rw [List.map_cons, loopF_cons (by rfl) hs, exO, if_neg c]
      exact e
theorem ex_inner {L : List O} {b : O} {A B C : AG.Slot} (hb : b.dp ≤ 28) (hL : ∀ x ∈ L, x.dp ≤ 28) :
    compF (tgName 4) mYes e_is_exchange_1 [A, B, .v (.lst (L.map O.enc)), C, .no, .v b.enc] (L.map O.enc) h = .ok (L.map fun a => D.bl (O.lt b a)) h :=
  compF_map (f := O.enc) (g := fun a => D.bl (O.lt b a)) fun a ha => ⟨_, rfl, by
    have := hL a ha
    simp [e_is_exchange_1, opLt_enc (h := h) (show b.dp ≤ 29 by omega) (show a.dp ≤ 29 by omega)]⟩
theorem ex_outer {L M : List O} {A B sl : AG.Slot} (hM : ∀ x ∈ M, x.dp ≤ 28) (hL : ∀ x ∈ L, x.dp ≤ 28) (lL : L.length ≤ 16777216) :
    compF (tgName 5) mYes e_is_exchange_2 [A, B, .v (.lst (L.map O.enc)), .v (.lst (M.map O.enc)), sl, .no] (M.map O.enc) h = .ok (M.map fun b => D.bl (L.any fun a => O.lt b a)) h :=
  compF_map (f := O.enc) (g := fun b => D.bl (L.any fun a => O.lt b a)) fun b hb => ⟨_, rfl, by
    have e := ex_inner (h := h) (A := A) (B := B) (C := .v (.lst (M.map O.enc))) (hM b hb) hL
    have f := fAny_map (h := h) (p := fun a => O.lt b a) (xs := L)
    simp [e_is_exchange_2, wipeE, lL, e, f]⟩
theorem exchange_ok {L M : List O} (hn : h.all MO.nl = true) (hL : ∀ x ∈ L, x.dp ≤ 28) (hM : ∀ x ∈ M, x.dp ≤ 28) (lL : L.length ≤ 1000) (lM : M.length ≤ 1000) : f_is_exchange [.lst (L.map O.enc), .lst (M.map O.enc)] h = .ok (.bl (decide (due L M = 1))) h := by
  obtain ⟨sl2, e⟩ := loop_ex (h := h) (X := .lst (L.map O.enc)) (Y := .lst (M.map O.enc)) (sb := .no) hn L L M .no hL hL hM fun _ => Nat.le_refl _
  have sub := fun x => exO_sub L L M x
  have ln := exO_len L L M
  have d1 : ∀ x ∈ (exO L L M).1, x.dp ≤ 28 := fun x hx => hL x ((sub x).1 hx)
  have d2 : ∀ x ∈ (exO L L M).2, x.dp ≤ 28 := fun x hx => hM x ((sub x).2 hx)
  have c := ex_outer (h := h) (A := .v (.lst (L.map O.enc))) (B := .v (.lst (M.map O.enc))) (sl := sl2) d2 d1 (by omega)
  have f := fAll_map (h := h) (p := fun b => (exO L L M).1.any fun a => O.lt b a) (xs := (exO L L M).2)
  have l2 : (exO L L M).2.length ≤ 16777216 := by omega
  have nl := nlL (n := 60) hL (by decide)
  rw [← exB_due]
  unfold exB
  generalize hE : exO L L M = E at e c f l2
  obtain ⟨l, r⟩ := E
  cases l with
  | nil => simp [f_is_exchange, m_is_exchange, hn, nl, e]
  | cons a l =>
    simp only [List.map_cons, List.any_cons] at e c f
    have p : (0 : Int) < ((l.length + 1 : Nat) : Int) := by omega
    simp [f_is_exchange, m_is_exchange, hn, nl, e, wipeE, l2, c, f, p]

/-! lesser ones -/
end
end L_k56
namespace AG
namespace O
/-- the last place, its number -/
def lp : O → O
  | z => z
  | c p _ z => p
  | c _ _ (c q m s) => lp (c q m s)
def ln : O → Int
  | z => 0
  | c _ n z => n
  | c _ _ (c q m s) => ln (c q m s)
/-- all but the last pair -/
def ini : O → O
  | z => z
  | c _ _ z => z
  | c p n (c q m s) => c p n (ini (c q m s))
/-- one less of the last pair, then f of its place -/
def chg (f : O → O) : O → O
  | z => z
  | c p n z => if 1 < n then c p (n - 1) (f p) else f p
  | c p n (c q m s) => c p n (chg f (c q m s))
theorem its_ini : ∀ {o : O}, o ≠ z → o.its = (ini o).its ++ [.tup [(lp o).enc, .int (ln o)]]
  | z, h => absurd rfl h
  | c p n z, _ => rfl
  | c p n (c q m s), _ => by
    have := its_ini (o := c q m s) (by simp)
    rw [its_c, this, ini, its_c, lp, ln]
    rfl
theorem its_chg (f : O → O) : ∀ {o : O}, o ≠ z → (chg f o).its = (ini o).its ++ (if 1 < ln o then [.tup [(lp o).enc, .int (ln o - 1)]] else []) ++ (f (lp o)).its
  | z, h => absurd rfl h
  | c p n z, _ => by
    by_cases h1 : 1 < n <;> simp [chg, ini, ln, lp, h1, its_c, its]
  | c p n (c q m s), _ => by
    have := its_chg f (o := c q m s) (by simp)
    rw [chg, its_c, this, ini, its_c, lp, ln]
    simp
theorem under_lp {t : O} : ∀ {o : O}, o ≠ z → nf o → under t o → lt (lp o) t = true
  | z, h, _, _ => absurd rfl h
  | c p n z, _, _, hu => hu
  | c p n (c q m s), _, hn, hu => under_lp (o := c q m s) (by simp) hn.2.2.2 (under_trans hu hn.2.2.1)
theorem chg_ok {f : O → O} : ∀ {o : O}, o ≠ z → nf o → under (lp o) (f (lp o)) → nf (f (lp o)) → nf (chg f o) ∧ lt (chg f o) o = true ∧ ∀ t, under t o → under t (chg f o)
  | z, h, _, _, _ => absurd rfl h
  | c p n z, _, hn, hu, hf => by
    simp only [lp] at hu hf
    simp only [chg]
    by_cases h1 : 1 < n
    · rw [if_pos h1]
      have hne : ¬ n - 1 = n := by omega
      exact ⟨⟨hn.1, by omega, hu, hf⟩, by simp [lt, hne]; omega, fun t h => h⟩
    · rw [if_neg h1]
      refine ⟨hf, ?_, fun t h => under_trans h hu⟩
      cases hp : f p with
      | z => rfl
      | c q m s =>
        rw [hp] at hu
        have hu : lt q p = true := hu
        have ne := lt_ne hu
        simp [lt, ne, hu]
  | c p n (c q m s), _, hn, hu, hf => by
    obtain ⟨i1, i2, i3⟩ := chg_ok (f := f) (o := c q m s) (by simp) hn.2.2.2 hu hf
    simp only [chg]
    refine ⟨⟨hn.1, hn.2.1, i3 _ hn.2.2.1, i1⟩, by simp [lt, i2], fun t h => h⟩
theorem nf_lp : ∀ {o : O}, nf o → nf (lp o)
  | z, _ => trivial
  | c p n z, h => h.1
  | c p n (c q m s), h => nf_lp (o := c q m s) h.2.2.2
theorem lp_dp : ∀ {o : O}, o ≠ z → (lp o).dp < o.dp
  | z, h => absurd rfl h
  | c p n z, _ => by simp only [lp, dp]; omega
  | c p n (c q m s), _ => by
    have := lp_dp (o := c q m s) (by simp)
    simp only [lp]
    exact Nat.lt_of_lt_of_le this (Nat.le_max_right _ _)
theorem chg_dp {f : O → O} {k : Nat} : ∀ {o : O}, o.dp ≤ k → (f (lp o)).dp ≤ k → (chg f o).dp ≤ k
  | z, h, _ => h
  | c p n z, h, hf => by
    simp only [lp] at hf
    simp only [chg]
    have : p.dp + 1 ≤ k := Nat.le_trans (Nat.le_max_left _ _) h
    split
    · exact Nat.max_le.mpr ⟨this, hf⟩
    · exact hf
  | c p n (c q m s), h, hf => by
    simp only [chg]
    exact Nat.max_le.mpr ⟨Nat.le_trans (Nat.le_max_left _ _) h, chg_dp (o := c q m s) (Nat.le_trans (Nat.le_max_right _ _) h) hf⟩
theorem ini_len : ∀ {o : O}, o ≠ z → (ini o).len + 1 = o.len
  | z, h => absurd rfl h
  | c p n z, _ => rfl
  | c p n (c q m s), _ => by
    have := ini_len (o := c q m s) (by simp)
    simp only [ini, len] at this ⊢
    omega
theorem chg_len {f : O → O} : ∀ {o : O}, (chg f o).len ≤ o.len + (f (lp o)).len
  | z => Nat.zero_le _
  | c p n z => by
    by_cases h1 : 1 < n
    · simp only [chg, lp, len, h1, if_true]; omega
    · simp only [chg, lp, len, h1, if_false]; omega
  | c p n (c q m s) => by
    have := chg_len (f := f) (o := c q m s)
    simp only [chg, lp, len] at this ⊢
    omega
theorem chg_mx {f : O → O} {k : Nat} : ∀ {o : O}, o.mx ≤ k → o.len + (f (lp o)).len ≤ k → (f (lp o)).mx ≤ k → (chg f o).mx ≤ k
  | z, h, _, _ => h
  | c p n z, h, hl, hf => by
    simp only [lp, len] at hf hl
    simp only [chg]
    have : p.mx ≤ k := Nat.le_trans (Nat.le_max_left _ _) h
    split
    · exact Nat.max_le.mpr ⟨this, Nat.max_le.mpr ⟨by omega, hf⟩⟩
    · exact hf
  | c p n (c q m s), h, hl, hf => by
    have hr : (c q m s).mx ≤ k := Nat.le_trans (Nat.le_trans (Nat.le_max_right _ _) (Nat.le_max_right _ _)) h
    have hc := chg_len (f := f) (o := c q m s)
    simp only [chg]
    refine Nat.max_le.mpr ⟨Nat.le_trans (Nat.le_max_left _ _) h, Nat.max_le.mpr ⟨?_, chg_mx (o := c q m s) hr (by simp only [lp, len] at hl ⊢; omega) hf⟩⟩
    simp only [lp, len] at hl hc
    omega
def less (o : O) : O := chg (fun _ => z) o
def isNext (o : O) : Bool := decide (o ≠ z) && decide (lp o = z)
theorem less_ok {o : O} (h : o ≠ z) (hn : nf o) : nf (less o) ∧ lt (less o) o = true ∧ ∀ t, under t o → under t (less o) := chg_ok h hn trivial trivial
/-- below an open one -/
def bF (g : O → O) (n : Int) (p : O) : O := if isNext p = true then (if n = 0 then z else c (less p) n z) else c (g p) 1 z
def belowO (n : Int) : Nat → O → O
  | 0, o => o
  | k + 1, o => chg (bF (belowO n k) n) o
theorem belowO_ok {n : Int} (hn : 0 ≤ n) : ∀ (k : Nat) {o : O}, o.dp < k → o ≠ z → isNext o = false → nf o → nf (belowO n k o) ∧ lt (belowO n k o) o = true
  | 0, _, h, _, _, _ => absurd h (Nat.not_lt_zero _)
  | k + 1, o, h, h1, h2, h3 => by
    have hp := nf_lp h3
    have hd := lp_dp h1
    have hz : lp o ≠ z := fun e => by simp [isNext, h1, e] at h2
    by_cases c1 : isNext (lp o) = true
    · obtain ⟨l1, l2, l3⟩ := less_ok hz hp
      by_cases c2 : n = 0
      · have e : bF (belowO n k) n (lp o) = z := by simp only [bF, c1, c2, if_true]
        obtain ⟨a, b, _⟩ := chg_ok (f := bF (belowO n k) n) h1 h3 (by rw [e]; trivial) (by rw [e]; trivial)
        exact ⟨a, b⟩
      · have e : bF (belowO n k) n (lp o) = c (less (lp o)) n z := by simp only [bF, c1, c2, if_true, if_false]
        obtain ⟨a, b, _⟩ := chg_ok (f := bF (belowO n k) n) h1 h3 (by rw [e]; exact l2) (by rw [e]; exact ⟨l1, by omega, trivial, trivial⟩)
        exact ⟨a, b⟩
    · have c1' : isNext (lp o) = false := by simpa using c1
      obtain ⟨l1, l2⟩ := belowO_ok hn k (o := lp o) (by omega) hz c1' hp
      have e : bF (belowO n k) n (lp o) = c (belowO n k (lp o)) 1 z := by simp [bF, c1']
      obtain ⟨a, b, _⟩ := chg_ok (f := bF (belowO n k) n) h1 h3 (by rw [e]; exact l2) (by rw [e]; exact ⟨l1, by omega, trivial, trivial⟩)
      exact ⟨a, b⟩
end O
end AG

namespace AG
namespace O
theorem lp_mx {k : Nat} : ∀ {o : O}, o.mx ≤ k → (lp o).mx ≤ k
  | z, h => h
  | c p n z, h => Nat.le_trans (Nat.le_max_left _ _) h
  | c p n (c q m s), h => lp_mx (o := c q m s) (Nat.le_trans (Nat.le_trans (Nat.le_max_right _ _) (Nat.le_max_right _ _)) h)
theorem belowO_dp {n : Int} : ∀ (k : Nat) (o : O), (belowO n k o).dp ≤ o.dp
  | 0, _ => Nat.le_refl _
  | k + 1, .z => Nat.zero_le _
  | k + 1, .c p m r => by
    have hd := lp_dp (o := .c p m r) (by simp)
    refine chg_dp (Nat.le_refl _) ?_
    unfold bF
    split
    · split
      · exact Nat.zero_le _
      · have : (less (lp (c p m r))).dp ≤ (lp (c p m r)).dp := chg_dp (Nat.le_refl _) (Nat.zero_le _)
        exact Nat.max_le.mpr ⟨by omega, Nat.zero_le _⟩
    · have := belowO_dp (n := n) k (lp (c p m r))
      exact Nat.max_le.mpr ⟨by omega, Nat.zero_le _⟩
theorem less_dp (o : O) : (less o).dp ≤ o.dp := chg_dp (Nat.le_refl _) (Nat.zero_le _)
theorem less_len (o : O) : (less o).len ≤ o.len := chg_len
theorem belowO_len {n : Int} (k : Nat) (o : O) : (belowO n k o).len ≤ o.len + 1 := by
  cases k with
  | zero => exact Nat.le_succ _
  | succ k =>
    have h := chg_len (f := bF (belowO n k) n) (o := o)
    have : (bF (belowO n k) n (lp o)).len ≤ 1 := by
      unfold bF
      split
      · split <;> simp [len]
      · simp [len]
    show (chg (bF (belowO n k) n) o).len ≤ _
    omega
theorem at_last {o : O} (h : o ≠ z) : L2.atI o.its ((o.len : Int) - 1) = some (.tup [(lp o).enc, .int (ln o)]) := by
  have e := its_ini h
  have l := ini_len h
  have : ((o.len : Int) - 1) = ((ini o).its.length : Int) := by rw [its_len]; omega
  rw [this, e]
  exact at_mid
theorem cut_last {o : O} (h : o ≠ z) : cutD o.its none (some ((o.len : Int) - 1)) = (ini o).its := by
  have e := its_ini h
  have l := ini_len h
  have e2 : HT.sIx o.its.length o.its.length (some ((o.len : Int) - 1)) = (ini o).its.length := by
    rw [its_len, its_len]
    simp only [HT.sIx]
    split <;> omega
  have e1 : HT.sIx o.its.length 0 none = 0 := rfl
  unfold cutD
  rw [e1, e2, e]
  simp
end O
end AG
namespace L_k56
open PySem L2 AG
section
variable {h : MH} {o : O}
theorem opNe_z (ho : o.dp ≤ 29) : opNe o.enc (.tup []) h = .ok (.bl (!decide (o = O.z))) h := opNe_enc (b := O.z) ho (Nat.zero_le _)
theorem opEq_z (ho : o.dp ≤ 29) : opEq o.enc (.tup []) h = .ok (.bl (decide (o = O.z))) h := opEq_enc (b := O.z) ho (Nat.zero_le _)
theorem is_next_ok (ho : o.dp ≤ 28) : f__law_is_next [o.enc] h = .ok (.bl (O.isNext o)) h := by
  have e := opNe_z (h := h) (show o.dp ≤ 29 by omega)
  by_cases c : o = O.z
  · subst c
    simp [f__law_is_next, m__law_is_next, e, O.isNext]
  · have a := O.at_last c
    have d := O.lp_dp c
    have e2 := opEq_z (h := h) (o := O.lp o) (by omega)
    simp [f__law_is_next, m__law_is_next, e, c, a, e2, O.isNext]
theorem less_M (hz : o ≠ O.z) (hl : o.len ≤ 10000) : f__law_less [o.enc] h = .ok (O.less o).enc h := by
  have a := O.at_last hz
  have b := O.cut_last hz
  have l := O.ini_len hz
  have l1 : (O.ini o).its.length + 1 ≤ 16777216 := by rw [O.its_len]; omega
  have l2 : (O.ini o).its.length ≤ 16777216 := by omega
  have e := O.its_chg (fun _ => O.z) hz
  rw [enc_eq (O.less o), O.less, e]
  by_cases c : 1 < O.ln o
  · simp [f__law_less, m__law_less, a, b, tgTup, c, l1, O.its]
  · simp [f__law_less, m__law_less, a, b, tgTup, c, l2, O.its]
theorem below_M {n : Int} : ∀ (k : Nat) (o : O), o.dp < k → o.dp ≤ 28 → o.mx ≤ 1000 → o ≠ O.z → O.isNext o = false → recF (fun self => mFn 4 (m__law_below self)) k [o.enc, .int n] h = .ok (O.belowO n k o).enc h := by
  intro k
  induction k with
  | zero => exact fun o hk => absurd hk (Nat.not_lt_zero _)
  | succ k ih =>
    intro o hk hd hm hz hx
    have lo := O.len_mx o
    have lp := O.lp_dp hz
    have mp := O.lp_mx hm
    have lpl := O.len_mx (O.lp o)
    have hpz : O.lp o ≠ O.z := fun e => by simp [O.isNext, hz, e] at hx
    have a := O.at_last hz
    have le := less_M (h := h) hz (by omega)
    have nx := is_next_ok (h := h) (o := O.lp o) (by omega)
    have lp2 := less_M (h := h) hpz (by omega)
    have l0 := O.less_len o
    have l1 : (O.less o).its.length + 1 ≤ 16777216 := by rw [O.its_len]; omega
    have e0 : (O.less o).its = (O.ini o).its ++ (if 1 < O.ln o then [.tup [(O.lp o).enc, .int (O.ln o - 1)]] else []) := by
      have := O.its_chg (fun _ => O.z) hz
      simpa [O.less, O.its] using this
    have e := O.its_chg (O.bF (O.belowO n k) n) hz
    have fin : ∀ X : List D, (O.bF (O.belowO n k) n (O.lp o)).its = X → (O.belowO n (k + 1) o).enc = .tup ((O.less o).its ++ X) := fun X hX => by
      rw [enc_eq (O.belowO n (k + 1) o)]
      show D.tup (O.chg (O.bF (O.belowO n k) n) o).its = _
      rw [e, e0, hX]
    show mFn 4 (m__law_below (recF (fun self => mFn 4 (m__law_below self)) k)) [o.enc, .int n] h = _
    have ih' := ih (O.lp o) (by omega) (by omega) mp hpz
    generalize recF (fun self => mFn 4 (m__law_below self)) k = self at ih' ⊢
    cases c : O.isNext (O.lp o) with
    | true =>
      rw [c] at nx
      by_cases c2 : n = 0
      · have f := fin [] (by simp [O.bF, c, c2, O.its])
        rw [f]
        simp [m__law_below, a, le, nx, c2, enc_eq (O.less o)]
      · have f := fin [.tup [(O.less (O.lp o)).enc, .int n]] (by simp [O.bF, c, c2, O.its_c]; rfl)
        rw [f]
        have ad : ∀ X : List D, opAdd (O.less o).enc (.tup X) h = (if (O.less o).its.length + X.length ≤ 16777216 then .ok (.tup ((O.less o).its ++ X)) h else .bad) := fun X => op_addT
        simp [m__law_below, a, le, nx, c2, lp2, ad, l1]
    | false =>
      rw [c] at nx
      have i := ih' c
      have f := fin [.tup [(O.belowO n k (O.lp o)).enc, .int 1]] (by simp [O.bF, c, O.its_c]; rfl)
      rw [f]
      have ad : ∀ X : List D, opAdd (O.less o).enc (.tup X) h = (if (O.less o).its.length + X.length ≤ 16777216 then .ok (.tup ((O.less o).its ++ X)) h else .bad) := fun X => op_addT
      simp [m__law_below, a, le, nx, i, ad, l1]
theorem lesser_wp {E : Nat → MH → Prop} (hs : h[0]? = some .stream) (hd : o.dp ≤ 27) (hm : o.mx ≤ 1000) (hn : o.nf) (hz : o ≠ O.z) :
    Wp (f__law_lesser [.ref 0, o.enc] h) (fun d h' => (∃ x : O, d = x.enc ∧ x.nf ∧ x.dp ≤ 27 ∧ O.lt x o = true) ∧ h' = h) E := by
  refine ⟨?_⟩
  have nx := is_next_ok (h := h) (o := o) (by omega)
  have lo := O.len_mx o
  cases c : O.isNext o with
  | true =>
    rw [c] at nx
    have le := less_M (h := h) hz (by omega)
    obtain ⟨l1, l2, _⟩ := O.less_ok hz hn
    have e : f__law_lesser [.ref 0, o.enc] h = .ok (O.less o).enc h := by simp [f__law_lesser, m__law_lesser, nx, le]
    rw [e]
    exact ⟨⟨_, rfl, l1, Nat.le_trans (O.less_dp o) hd, l2⟩, rfl⟩
  | false =>
    rw [c] at nx
    simp [f__law_lesser, m__law_lesser, nx, wpR_bind]
    refine draw_wp hs (by decide) (by decide) fun j hj => ?_
    have b := below_M (h := h) (n := (j : Int)) 70 o (by omega) (by omega) hm hz c
    have b' : f__law_below [o.enc, .int j] h = .ok (O.belowO j 70 o).enc h := b
    rw [b']
    obtain ⟨l1, l2⟩ := O.belowO_ok (n := (j : Int)) (by omega) 70 (by omega) hz c hn
    exact ⟨⟨_, rfl, l1, Nat.le_trans (O.belowO_dp 70 o) hd, l2⟩, rfl⟩
end
end L_k56

namespace AG
/-- pairwise -/
def F2 {α β : Type} (R : α → β → Prop) : List α → List β → Prop
  | [], [] => True
  | a :: as, b :: bs => R a b ∧ F2 R as bs
  | _, _ => False
theorem F2.length {α β : Type} {R : α → β → Prop} : ∀ {as : List α} {bs : List β}, F2 R as bs → as.length = bs.length
  | [], [], _ => rfl
  | _ :: _, _ :: _, h => by simp [F2.length h.2]
  | [], _ :: _, h => h.elim
  | _ :: _, [], h => h.elim
theorem compF_wpZ {h : MH} {t : Tgt} {te : Env → M D} {env : Env} {α : Type} {f : α → D} {R : α → D → Prop} {E : Nat → MH → Prop} : ∀ {xs : List α}, (∀ x ∈ xs, ∃ env1, t (f x) env = some env1 ∧ wpR (te env1 h) (fun d h' => R x d ∧ h' = h) E) →
    wpR (compF t mYes te env (xs.map f) h) (fun ds h' => F2 R xs ds ∧ h' = h) E
  | [], _ => ⟨trivial, rfl⟩
  | x :: xs, hh => by
    obtain ⟨env1, e1, e2⟩ := hh x List.mem_cons_self
    have ih := compF_wpZ (xs := xs) fun y hy => hh y (List.mem_cons_of_mem _ hy)
    rw [List.map_cons]
    simp only [compF, e1, ev_bind, mYes, ev_pure, rb_ok, if_true]
    rw [wpR_bind]
    refine wpR_mono e2 (fun d h' q => ?_) fun _ _ q => q
    obtain ⟨q1, rfl⟩ := q
    rw [wpR_bind]
    refine wpR_mono ih (fun ds h'' q => ?_) fun _ _ q => q
    obtain ⟨q2, rfl⟩ := q
    exact ⟨⟨q1, q2⟩, rfl⟩
theorem loopF_wpN {tg : Tgt} {s : Env → M Fl} {I : Nat → Env → Prop} {h : MH} {E : Nat → MH → Prop} (b : Nat) : ∀ {xs : List D} {k : Nat} {env : Env}, k + xs.length ≤ b → I k env → (∀ x ∈ xs, ∀ k env, k < b → I k env → ∃ env1, tg x env = some env1 ∧ wpR (s env1 h) (fun fl h' => h' = h ∧ ∃ e, fl = .nx e ∧ I (k + 1) e) E) →
    wpR (loopF tg s xs env h) (fun fl h' => h' = h ∧ ∃ e, fl = .nx e ∧ I (k + xs.length) e) E
  | [], k, env, _, i, _ => ⟨rfl, env, rfl, i⟩
  | x :: xs, k, env, hb, i, hh => by
    rw [List.length_cons] at hb
    obtain ⟨env1, e1, e2⟩ := hh x List.mem_cons_self k env (by omega) i
    simp only [loopF, e1, ev_bind]
    rw [wpR_bind]
    refine wpR_mono e2 (fun fl h' q => ?_) fun _ _ q => q
    obtain ⟨rfl, e, rfl, i2⟩ := q
    have := loopF_wpN (E := E) b (by omega) i2 fun y hy => hh y (List.mem_cons_of_mem _ hy)
    refine wpR_mono this (fun fl h'' q => ?_) fun _ _ q => q
    obtain ⟨q1, e', q2, q3⟩ := q
    refine ⟨q1, e', q2, ?_⟩
    rw [List.length_cons, show k + (xs.length + 1) = k + 1 + xs.length by omega]
    exact q3
/-- the greatest first -/
def sortO (L : List O) : List O := (L.mergeSort fun a b => !O.lt b a).reverse
theorem sortO_mem {L : List O} {x : O} : x ∈ sortO L ↔ x ∈ L := by simp [sortO]
theorem sortO_len (L : List O) : (sortO L).length = L.length := by simp [sortO]
theorem sortO_desc {L : List O} (hn : L.Nodup) : (sortO L).Pairwise fun a b => O.lt b a = true := by
  unfold sortO
  rw [List.pairwise_reverse]
  have h1 : (L.mergeSort fun a b => !O.lt b a).Pairwise fun a b => (!O.lt b a) = true := by
    refine List.pairwise_mergeSort (fun a b c h1 h2 => ?_) (fun a b => ?_) L
    · simp only [Bool.not_eq_true'] at h1 h2 ⊢
      cases q : O.lt c a with
      | false => rfl
      | true =>
        rcases O.not_lt h2 with e | e
        · subst e; rw [h1] at q; cases q
        · have := O.lt_trans e q; rw [h1] at this; cases this
    · cases q : O.lt b a with
      | false => simp
      | true => simp [O.lt_asymm q]
  have h2 : (L.mergeSort fun a b => !O.lt b a).Nodup := (List.mergeSort_perm L _).nodup_iff.mpr hn
  refine (h1.and h2).imp fun {a b} q => ?_
  obtain ⟨q1, q2⟩ := q
  simp only [Bool.not_eq_true'] at q1
  rcases O.not_lt q1 with e | e
  · exact absurd e.symm q2
  · exact e
theorem fSorted_enc {h : MH} {L : List O} (hL : ∀ x ∈ L, x.dp ≤ 28) (hl : L.length ≤ 16777216) : fSorted false [.lst (L.map O.enc)] h = .ok (.lst ((L.mergeSort fun a b => !O.lt b a).map O.enc)) h := by
  have c : srtOk (L.map O.enc) = true := by
    have c1 := smL (n := 60) hL (by decide)
    have c2 : (L.map O.enc).all (fun d => (L.map O.enc).all fun e => D.alike d e) = true := by
      rw [List.all_map, List.all_eq_true]
      intro x _
      show ((L.map O.enc).all fun e => D.alike x.enc e) = true
      rw [List.all_map, List.all_eq_true]
      intro y _
      exact O.alike x y
    have c3 : (L.map O.enc).all D.isTup = true := by
      rw [List.all_map, List.all_eq_true]
      intro x _
      rfl
    unfold srtOk
    rw [c1, c2, c3]
    simp [hl]
  show (if srtOk (L.map O.enc) = true then M.pure (D.lst (sortD false (L.map O.enc))) else M.bad) h = _
  rw [if_pos c]
  have e : sortD false (L.map O.enc) = (L.mergeSort fun a b => !O.lt b a).map O.enc := by
    unfold sortD
    rw [List.map_mergeSort (s := fun a b => cond false (!D.lt a b) (!D.lt b a))]
    intro a _ b _
    show (!O.lt b a) = (!D.lt b.enc a.enc)
    rw [O.dlt]
  rw [e]
  rfl
/-- an ordinal of places and numbers -/
theorem of_pairs {d : Nat} : ∀ {ys : List O} {ds : List D}, F2 (fun (y : O) v => ∃ n : Int, 1 ≤ n ∧ v = .tup [y.enc, .int n]) ys ds → ys.Pairwise (fun a b => O.lt b a = true) → (∀ y ∈ ys, y.nf ∧ y.dp ≤ d ∧ y.mx ≤ 10) →
    ∃ o : O, o.its = ds ∧ o.nf ∧ o.dp ≤ d + 1 ∧ o.len = ys.length ∧ O.allP (fun p => p.mx ≤ 10) o ∧ (∀ t, (∀ y ∈ ys, O.lt y t = true) → O.under t o)
  | [], [], _, _, _ => ⟨.z, rfl, trivial, Nat.zero_le _, rfl, trivial, fun _ _ => trivial⟩
  | y :: ys, v :: ds, h, hp, hy => by
    obtain ⟨⟨n, hn, rfl⟩, hr⟩ := h
    obtain ⟨p1, p2⟩ := List.pairwise_cons.mp hp
    obtain ⟨o, o1, o2, o3, o4, o5, o6⟩ := of_pairs hr p2 fun z hz => hy z (List.mem_cons_of_mem _ hz)
    obtain ⟨y1, y2, y3⟩ := hy y List.mem_cons_self
    refine ⟨.c y n o, by rw [O.its_c, o1], ⟨y1, hn, o6 y p1, o2⟩, Nat.max_le.mpr ⟨by omega, o3⟩, by simp [O.len, o4], ⟨y3, o5⟩, fun t ht => ht y List.mem_cons_self⟩
  | [], _ :: _, h, _, _ => h.elim
  | _ :: _, [], h, _, _ => h.elim
end AG

namespace L_k56
open PySem L2 AG
section
variable {h : MH} {E : Nat → MH → Prop}
/-- what is drawn -/
def Dr (k : Nat) (o : O) : Prop := o.nf ∧ o.dp ≤ k ∧ o.mx ≤ 10
theorem ord_zero {self : LOp} (hs : h[0]? = some .stream) : Wp (mFn 5 (m__law_ordinal self) [.ref 0, .int 0] h) (fun d h' => (∃ o : O, d = o.enc ∧ Dr 1 o) ∧ h' = h) E := by
  refine ⟨?_⟩
  simp [m__law_ordinal, wpR_bind]
  refine draw_wp hs (by decide) (by decide) fun j hj => ?_
  simp [wpR_bind]
  refine draw_wp hs (by decide) (by decide) fun i hi => ?_
  by_cases c : i = 0
  · simp [c]
    exact ⟨.z, rfl, trivial, Nat.zero_le _, Nat.zero_le _⟩
  · simp [c]
    exact ⟨.c .z (1 + j) .z, rfl, ⟨trivial, by omega, trivial, trivial⟩, by simp [O.dp], by simp [O.mx, O.len]⟩
theorem ord_step {self : LOp} {d : Nat} (hs : h[0]? = some .stream) (hn : h.all MO.nl = true) (hd : d ≤ 20) (ih : Wp (self [.ref 0, .int d] h) (fun v h' => (∃ o : O, v = o.enc ∧ Dr (d + 1) o) ∧ h' = h) E) :
    Wp (mFn 5 (m__law_ordinal self) [.ref 0, .int ((d + 1 : Nat) : Int)] h) (fun v h' => (∃ o : O, v = o.enc ∧ Dr (d + 2) o) ∧ h' = h) E := by
  refine ⟨?_⟩
  have c0 : ¬ ((d : Int) + 1 = 0) := by omega
  have c1 : ((d : Int) + 1 - 1) = d := by omega
  simp [m__law_ordinal, wpR_bind, c0]
  refine draw_wp hs (by decide) (by decide) fun j hj => ?_
  have r := rng1_nat (h := h) (n := j) (by omega)
  simp [r, wpR_bind]
  -- the loop
  have hl := loopF_wpN (E := E) (h := h) (tg := tgName 3) (s := b__law_ordinal_1 self) (xs := rngD 0 j) 4
    (I := fun k env => ∃ (L : List O) (s3 s4 : AG.Slot), env = [.v (.ref 0), .v (.int ((d : Int) + 1)), .own (L.map O.enc), s3, s4] ∧ L.length ≤ k ∧ L.Nodup ∧ ∀ x ∈ L, Dr (d + 1) x)
    (k := 0) (env := [.v (.ref 0), .v (.int ((d : Int) + 1)), .own [], .no, .no]) (by simp [rngD]; omega) ⟨[], .no, .no, rfl, Nat.le_refl _, List.nodup_nil, by simp⟩
    (fun x hx k env hk hI => by
      obtain ⟨L, s3, s4, rfl, l1, l2, l3⟩ := hI
      refine ⟨_, rfl, ?_⟩
      have fin : ∀ (o : O) (sl : AG.Slot), Dr (d + 1) o → wpR (mIf (mBorT 2 (mTest (mBin (opIn not) (mVar 4) (mVar 2)))) (mOwnM fAppend 2 (mVar 4)) mNx [.v (.ref 0), .v (.int ((d : Int) + 1)), .own (L.map O.enc), sl, .v o.enc] h)
          (fun fl h' => h' = h ∧ ∃ e, fl = Fl.nx e ∧ ∃ (L : List O) (s3 s4 : AG.Slot), e = [.v (.ref 0), .v (.int ((d : Int) + 1)), .own (L.map O.enc), s3, s4] ∧ L.length ≤ k + 1 ∧ L.Nodup ∧ ∀ x ∈ L, Dr (d + 1) x) E := fun o sl ho => by
        have hi := opIn_encL (h := h) (g := not) (a := o) (L := L) (by have := ho.2.1; omega) (fun x hx => by have := (l3 x hx).2.1; omega)
        by_cases c : o ∈ L
        · simp only [c] at hi
          have e : mIf (mBorT 2 (mTest (mBin (opIn not) (mVar 4) (mVar 2)))) (mOwnM fAppend 2 (mVar 4)) mNx [.v (.ref 0), .v (.int ((d : Int) + 1)), .own (L.map O.enc), sl, .v o.enc] h = .ok (.nx [.v (.ref 0), .v (.int ((d : Int) + 1)), .own (L.map O.enc), sl, .v o.enc]) h := by
            simp [hi, hn]
          rw [e]
          exact ⟨rfl, _, rfl, L, _, _, rfl, by omega, l2, l3⟩
        · have la : (L.map O.enc).length < 16777216 := by
            rw [List.length_map]
            omega
          have la' : L.length < 16777216 := by omega
          simp only [c] at hi
          have e : mIf (mBorT 2 (mTest (mBin (opIn not) (mVar 4) (mVar 2)))) (mOwnM fAppend 2 (mVar 4)) mNx [.v (.ref 0), .v (.int ((d : Int) + 1)), .own (L.map O.enc), sl, .v o.enc] h = .ok (.nx [.v (.ref 0), .v (.int ((d : Int) + 1)), .own ((L ++ [o]).map O.enc), sl, .v o.enc]) h := by
            simp [hi, hn, fAppend, la']
          rw [e]
          refine ⟨rfl, _, rfl, L ++ [o], _, _, rfl, by simp; omega, ?_, fun x hx => ?_⟩
          · rw [List.nodup_append]
            exact ⟨l2, by simp, fun a ha b hb e => by rw [List.mem_singleton.mp hb] at e; exact c (e ▸ ha)⟩
          · rcases List.mem_append.mp hx with q | q
            · exact l3 x q
            · rw [List.mem_singleton.mp q]; exact ho
      simp only [b__law_ordinal_1, ev_seq]
      rw [wpR_bind]
      simp [wpR_bind, -ev_if, -ev_borTO]
      refine draw_wp hs (by decide) (by decide) fun i hi => ?_
      by_cases c : 0 < i
      · simp [c, c1, wpR_bind, -ev_if, -ev_borTO]
        refine wpR_mono ih.out (fun v h' q => ?_) fun _ _ q => q
        obtain ⟨⟨o, rfl, ho⟩, rfl⟩ := q
        exact wpR_mono (fin o _ ho) (fun fl h2 q => by obtain ⟨q1, e, q2, L, s3, s4, q3, q4⟩ := q; exact ⟨q1, e, q2, L, ⟨s3, s4, q3⟩, q4⟩) fun _ _ z => z
      · simp [c, -ev_if, -ev_borTO]
        exact wpR_mono (fin .z _ ⟨trivial, Nat.zero_le _, Nat.zero_le _⟩) (fun fl h2 q => by obtain ⟨q1, e, q2, L, s3, s4, q3, q4⟩ := q; exact ⟨q1, e, q2, L, ⟨s3, s4, q3⟩, q4⟩) fun _ _ z => z)
  refine wpR_mono hl (fun fl h' q => ?_) fun _ _ q => q
  obtain ⟨rfl, e, rfl, L, s3, s4, rfl, l1, l2, l3⟩ := q
  have lj : L.length ≤ 3 := by simp [rngD] at l1; omega
  have so := fSorted_enc (h := h') (L := L) (fun x hx => by have := (l3 x hx).2.1; omega) (by omega)
  have rv : ((L.mergeSort fun a b => !O.lt b a).map O.enc).reverse = (sortO L).map O.enc := by simp [sortO]
  have ln : (sortO L).length ≤ 16777216 := by rw [sortO_len]; omega
  simp [so, rv, wpR_bind, ln, wipeE]
  have hc := compF_wpZ (E := fun _ _ => False) (h := h') (t := tgName 4) (te := e__law_ordinal_1 self) (env := [.v (.ref 0), .v (.int ((d : Int) + 1)), .v (.lst (L.map O.enc)), s3, .no]) (f := O.enc) (R := fun (y : O) v => ∃ n : Int, 1 ≤ n ∧ v = .tup [y.enc, .int n]) (xs := sortO L) (fun y hy => ⟨_, rfl, by
    simp [e__law_ordinal_1, wpR_bind]
    refine draw_wp hs (by decide) (by decide) fun i hi => ?_
    simp
    omega⟩)
  refine wpR_mono (wpR_calm' hc) (fun ds h'' q => ?_) fun _ _ q => q
  obtain ⟨q1, rfl⟩ := q
  obtain ⟨o, o1, o2, o3, o4, o5, o6⟩ := of_pairs (d := d + 1) q1 (sortO_desc l2) fun y hy => l3 y (sortO_mem.mp hy)
  refine ⟨⟨o, by rw [enc_eq, o1], o2, o3, ?_⟩, rfl⟩
  exact O.mx_of (by rw [o4, sortO_len]; omega) o5
theorem rec_all {F : LOp → LOp} {A : Nat → LOp → Prop} {b : Nat} (hz : ∀ self, A 0 (F self)) (hs : ∀ self d, d < b → A d self → A (d + 1) (F self)) : ∀ d k, d ≤ b → d < k → A d (recF F k)
  | 0, k + 1, _, _ => hz _
  | d + 1, k + 1, h1, h2 => hs _ d h1 (rec_all hz hs d k (Nat.le_of_succ_le h1) (Nat.lt_of_succ_lt_succ h2))
theorem ord_zero' {self : LOp} (hs : h[0]? = some .stream) : Wp (mFn 5 (m__law_ordinal self) [.ref 0, .int ((0 : Nat) : Int)] h) (fun d h' => (∃ o : O, d = o.enc ∧ Dr (0 + 1) o) ∧ h' = h) E := ord_zero hs
theorem ordinal_ok (hs : h[0]? = some .stream) (hn : h.all MO.nl = true) (d k : Nat) (hd : d ≤ 20) (hk : d < k) : Wp (recF (fun self => mFn 5 (m__law_ordinal self)) k [.ref 0, .int d] h) (fun v h' => (∃ o : O, v = o.enc ∧ Dr (d + 1) o) ∧ h' = h) E :=
  rec_all (A := fun d f => Wp (f [.ref 0, .int d] h) (fun v h' => (∃ o : O, v = o.enc ∧ Dr (d + 1) o) ∧ h' = h) E) (b := 20) (fun self => ord_zero' hs) (fun self d hd ih => ord_step hs hn (Nat.le_of_lt hd) ih) d k hd hk
theorem ordinal_wp (hs : h[0]? = some .stream) (hn : h.all MO.nl = true) : Wp (f__law_ordinal [.ref 0, .int 2] h) (fun v h' => (∃ o : O, v = o.enc ∧ Dr 3 o) ∧ h' = h) E := ordinal_ok hs hn 2 70 (by decide) (by decide)
end
end L_k56

namespace AG
theorem seq_wp2 {a b : Env → M Fl} {env : Env} {h : MH} {P : Env → Prop} {Q : Fl → MH → Prop} {E : Nat → MH → Prop} (h1 : wpR (a env h) (fun fl h' => h' = h ∧ ∃ e, fl = .nx e ∧ P e) E) (h2 : ∀ e, P e → wpR (b e h) Q E) : wpR (mSeq a b env h) Q E := by
  rw [ev_seq, wpR_bind]
  refine wpR_mono h1 (fun fl h' q => ?_) fun _ _ q => q
  obtain ⟨rfl, e, rfl, p⟩ := q
  exact h2 e p
theorem seq_ok {a b : Env → M Fl} {env e : Env} {h h' : MH} (h1 : a env h = .ok (.nx e) h') : mSeq a b env h = b e h' := by
  rw [ev_seq, h1]
  rfl
theorem encs_of {P : O → Prop} : ∀ {ds : List D}, (∀ d ∈ ds, ∃ o : O, d = o.enc ∧ P o) → ∃ L : List O, ds = L.map O.enc ∧ L.length = ds.length ∧ ∀ x ∈ L, P x
  | [], _ => ⟨[], rfl, rfl, by simp⟩
  | d :: ds, h => by
    obtain ⟨L, h1, h2, h3⟩ := encs_of fun y hy => h y (List.mem_cons_of_mem _ hy)
    obtain ⟨o, rfl, ho⟩ := h d List.mem_cons_self
    exact ⟨o :: L, by rw [h1]; rfl, by simp [h2], fun x hx => (List.mem_cons.mp hx).elim (fun e => e ▸ ho) (h3 x)⟩
end AG
namespace L_k56
open PySem L2 AG
abbrev h0 : MH := [MO.stream]
theorem h0s : h0[0]? = some MO.stream := rfl
theorem h0n : h0.all MO.nl = true := rfl
section
variable {E : Nat → MH → Prop}
/-- the two bags -/
theorem one_wp {ns : List Int} : Wp (mSet 2 (mFrz (mLc (mRng1 (mCallN 2 f__law_draw (mCons (mVar 1) (mCons (mC (.int 6)) mNil)))) (tgName 4) mYes e_law_1 [4])) [.v (.scr ns), .v (.ref 0), .no, .no, .no, .no, .no, .no, .no, .no, .no, .no] h0)
    (fun fl h' => h' = h0 ∧ ∃ e, fl = Fl.nx e ∧ ∃ L : List O, e = [.v (.scr ns), .v (.ref 0), .v (.lst (L.map O.enc)), .no, .no, .no, .no, .no, .no, .no, .no, .no] ∧ L.length ≤ 5 ∧ ∀ x ∈ L, Dr 3 x) E := by
  refine ⟨?_⟩
  simp [wpR_bind]
  refine draw_wp h0s (by decide) (by decide) fun j hj => ?_
  have r := rng1_nat (h := h0) (n := j) (by omega)
  have l : (rngD 0 j).length ≤ 16777216 := by simp [rngD]; omega
  simp [r, wpR_bind, l, wipeE]
  have c := compF_wp (E := fun _ _ => False) (h := h0) (t := tgName 4) (te := e_law_1) (env := [.v (.scr ns), .v (.ref 0), .no, .no, .no, .no, .no, .no, .no, .no, .no, .no]) (P := fun d => ∃ o : O, d = o.enc ∧ Dr 3 o) (xs := rngD 0 j) fun x hx => ⟨_, rfl, by
    simp [e_law_1, wpR_bind]
    exact (ordinal_wp h0s h0n).out⟩
  refine wpR_mono (wpR_calm' c) (fun ds h' q => ?_) fun _ _ q => q
  obtain ⟨q1, q2, rfl⟩ := q
  obtain ⟨L, rfl, l2, l3⟩ := encs_of q1
  refine ⟨rfl, L, rfl, ?_, l3⟩
  simp [rngD] at q2
  omega
theorem two_wp {ns : List Int} {L : List O} (hL : ∀ x ∈ L, Dr 3 x) (lL : L.length ≤ 5) : Wp (mFor (mRng1 (mCallN 2 f__law_draw (mCons (mVar 1) (mCons (mC (.int 6)) mNil)))) (tgName 4) b_law_1 [.v (.scr ns), .v (.ref 0), .v (.lst (L.map O.enc)), .own [], .no, .no, .no, .no, .no, .no, .no, .no] h0)
    (fun fl h' => h' = h0 ∧ ∃ e, fl = Fl.nx e ∧ ∃ (T : List O) (sk : AG.Slot), e = [.v (.scr ns), .v (.ref 0), .v (.lst (L.map O.enc)), .own (T.map O.enc), sk, .no, .no, .no, .no, .no, .no, .no] ∧ T.length ≤ 5 ∧ ∀ x ∈ T, Dr 3 x) E := by
  refine ⟨?_⟩
  simp [wpR_bind, -exists_and_left, -exists_and_right]
  refine draw_wp h0s (by decide) (by decide) fun j hj => ?_
  have r := rng1_nat (h := h0) (n := j) (by omega)
  simp [r, -exists_and_left, -exists_and_right]
  have hl := loopF_wpN (E := E) (h := h0) (tg := tgName 4) (s := b_law_1) (xs := rngD 0 j) 5
    (I := fun k env => ∃ (T : List O) (sk : AG.Slot), env = [.v (.scr ns), .v (.ref 0), .v (.lst (L.map O.enc)), .own (T.map O.enc), sk, .no, .no, .no, .no, .no, .no, .no] ∧ T.length ≤ k ∧ ∀ x ∈ T, Dr 3 x)
    (k := 0) (env := [.v (.scr ns), .v (.ref 0), .v (.lst (L.map O.enc)), .own [], .no, .no, .no, .no, .no, .no, .no, .no]) (by simp [rngD]; omega) ⟨[], .no, rfl, Nat.le_refl _, by simp⟩
    (fun x hx k env hk hI => by
      obtain ⟨T, sk, rfl, l1, l2⟩ := hI
      refine ⟨_, rfl, ?_⟩
      have lt : (T.map O.enc).length < 16777216 := by rw [List.length_map]; omega
      have lt' : T.length < 16777216 := by omega
      have fin : ∀ o : O, Dr 3 o → ∃ (T' : List O) (sk : AG.Slot), (T.map O.enc ++ [o.enc] = T'.map O.enc ∧ AG.Slot.v x = sk) ∧ T'.length ≤ k + 1 ∧ ∀ x ∈ T', Dr 3 x := fun o ho =>
        ⟨T ++ [o], .v x, ⟨by simp, rfl⟩, by simp; omega, fun y hy => (List.mem_append.mp hy).elim (l2 y) fun q => by rw [List.mem_singleton.mp q]; exact ho⟩
      simp [b_law_1, wpR_bind, -exists_and_left, -exists_and_right]
      refine draw_wp h0s (by decide) (by decide) fun i hi => ?_
      by_cases c : i = 0
      · have l3 : L.length + 1 ≤ 16777216 := by omega
        simp [c, f__law_pick, m__law_pick, l3, wpR_bind, -exists_and_left, -exists_and_right]
        refine draw_wp h0s (by omega) (by omega) fun m hm => ?_
        have hm' : m < L.length + 1 := by omega
        have at_ : atI (L.map O.enc ++ [D.tup []]) (m : Int) = some ((L ++ [O.z])[m]'(by simp; omega)).enc := by
          have e : L.map O.enc ++ [D.tup []] = (L ++ [O.z]).map O.enc := by simp; rfl
          rw [e, at_nat (by simp; omega), List.getElem_map]
        have hd : Dr 3 ((L ++ [O.z])[m]'(by simp; omega)) := by
          have := List.getElem_mem (l := L ++ [O.z]) (n := m) (by simp; omega)
          rcases List.mem_append.mp this with q | q
          · exact hL _ q
          · rw [List.mem_singleton.mp q]; exact ⟨trivial, Nat.zero_le _, Nat.zero_le _⟩
        simp [at_, fAppend, lt', -exists_and_left, -exists_and_right]
        exact fin _ hd
      · simp [c, wpR_bind, -exists_and_left, -exists_and_right]
        refine wpR_mono (ordinal_wp h0s h0n).out (fun v h' q => ?_) fun _ _ q => q
        obtain ⟨⟨o, rfl, ho⟩, rfl⟩ := q
        simp [fAppend, lt', -exists_and_left, -exists_and_right]
        exact fin o ho)
  refine wpR_mono hl (fun fl h' q => ?_) fun _ _ q => q
  obtain ⟨rfl, e, rfl, T, sk, rfl, t1, t2⟩ := q
  refine ⟨rfl, _, rfl, T, sk, rfl, ?_, t2⟩
  simp [rngD] at t1
  omega
/-- taking one away, lesser ones instead -/
theorem due_back {L X : List O} {g : O} (hg : g ∈ L) (hX : ∀ x ∈ X, O.lt x g = true) : due L (wo L [g] ++ X) = 1 ∧ due (wo L [g] ++ X) L = -1 := by
  have cg : 0 < L.count g := List.count_pos_iff.mpr hg
  have gX : X.count g = 0 := List.count_eq_zero.mpr fun q => by have := hX g q; rw [O.lt_irrefl] at this; cases this
  have cnt : ∀ x, (wo L [g] ++ X).count x = L.count x - (if g = x then 1 else 0) + X.count x := fun x => by
    rw [List.count_append, count_wo, List.count_singleton]
    by_cases e : g = x <;> simp [e]
  have m1 : ∀ x, x ∈ wo L (wo L [g] ++ X) ↔ x = g := fun x => by
    rw [mem_wo, cnt]
    by_cases e : g = x
    · subst e
      rw [if_pos rfl]
      exact ⟨fun _ => rfl, fun _ => by omega⟩
    · rw [if_neg e]
      exact ⟨fun q => by omega, fun q => absurd q.symm e⟩
  have m2 : ∀ x, x ∈ wo (wo L [g] ++ X) L → O.lt x g = true := fun x hx => by
    rw [mem_wo, cnt] at hx
    refine hX x (List.count_pos_iff.mp ?_)
    by_cases e : g = x
    · subst e; rw [if_pos rfl] at hx; omega
    · rw [if_neg e] at hx; omega
  have ne : wo L (wo L [g] ++ X) ≠ [] := fun e => by have := (m1 g).mpr rfl; rw [e] at this; cases this
  constructor
  · unfold due
    rw [if_neg fun q => ne q.1, if_neg]
    intro q
    have := List.all_eq_true.mp q g ((m1 g).mpr rfl)
    obtain ⟨b, hb, hl⟩ := List.any_eq_true.mp this
    rw [O.lt_asymm (m2 b hb)] at hl
    cases hl
  · unfold due
    rw [if_neg fun q => ne q.2, if_pos]
    refine List.all_eq_true.mpr fun a ha => List.any_eq_true.mpr ⟨g, (m1 g).mpr rfl, m2 a ha⟩
/-- the steps behind -/
theorem s5 {ns : List Int} {L T : List O} {sk : AG.Slot} (hL : ∀ x ∈ L, Dr 3 x) (hT : ∀ x ∈ T, Dr 3 x) (lL : L.length ≤ 5) (lT : T.length ≤ 5) :
    mFrzB 3 (mSet 5 (mCallN 2 f__law_order (mCons (mVar 2) (mCons (mVar 3) mNil)))) [.v (.scr ns), .v (.ref 0), .v (.lst (L.map O.enc)), .own (T.map O.enc), sk, .no, .no, .no, .no, .no, .no, .no] h0
      = .ok (.nx [.v (.scr ns), .v (.ref 0), .v (.lst (L.map O.enc)), .v (.lst (T.map O.enc)), sk, .v (.int (due L T)), .no, .no, .no, .no, .no, .no]) h0 := by
  have o := order_ok (h := h0) (L := L) (M := T) h0n (fun x hx => by have := (hL x hx).2.1; omega) (fun x hx => by have := (hT x hx).2.1; omega) (by omega) (by omega)
  simp [o]
end
end L_k56
namespace L_k56
open PySem L2 AG
set_option maxHeartbeats 4000000 in
theorem law_holds : LawM f_law := by
  intro ns _
  show wpR (mFn 12 m_law [.scr ns] []) _ _
  rw [ev_fn, wpR_bind]
  show wpR (m_law [.v (.scr ns), .no, .no, .no, .no, .no, .no, .no, .no, .no, .no, .no] []) _ _
  unfold m_law
  have e1 : mSet 1 (mCallN 1 f__law_stream (mCons (mVar 0) mNil)) [.v (.scr ns), .no, .no, .no, .no, .no, .no, .no, .no, .no, .no, .no] [] = .ok (.nx [.v (.scr ns), .v (.ref 0), .no, .no, .no, .no, .no, .no, .no, .no, .no, .no]) h0 := by
    simp [fStream]
  rw [seq_ok e1]
  refine seq_wp2 one_wp.out fun e he => ?_
  obtain ⟨L, rfl, lL, hL⟩ := he
  have e3 : mSetOwn 3 (mLstF mNil) [.v (.scr ns), .v (.ref 0), .v (.lst (L.map O.enc)), .no, .no, .no, .no, .no, .no, .no, .no, .no] h0 = .ok (.nx [.v (.scr ns), .v (.ref 0), .v (.lst (L.map O.enc)), .own [], .no, .no, .no, .no, .no, .no, .no, .no]) h0 := by simp
  rw [seq_ok e3]
  refine seq_wp2 (two_wp hL lL).out fun e he => ?_
  obtain ⟨T, sk, rfl, lT, hT⟩ := he
  rw [seq_ok (s5 hL hT lL lT)]
  -- what the calls tell
  have dL : ∀ x ∈ L, x.dp ≤ 27 := fun x hx => by have := (hL x hx).2.1; omega
  have dT : ∀ x ∈ T, x.dp ≤ 27 := fun x hx => by have := (hT x hx).2.1; omega
  have dL' : ∀ x ∈ L, x.dp ≤ 28 := fun x hx => by have := dL x hx; omega
  have dT' : ∀ x ∈ T, x.dp ≤ 28 := fun x hx => by have := dT x hx; omega
  have nL : ∀ x ∈ L, x.nf := fun x hx => (hL x hx).1
  have nT : ∀ x ∈ T, x.nf := fun x hx => (hT x hx).1
  have cmp := compare_ok (h := h0) dL dT (by omega) (by omega) nL nT
  have exc := exchange_ok (h := h0) (L := L) (M := T) h0n dL' dT' (by omega) (by omega)
  have bL := bag_ok (h := h0) dL (by omega)
  have bT := bag_ok (h := h0) dT (by omega)
  have gL : (bagO L).dp ≤ 28 := bag_dp fun x hx => by have := dL x hx; omega
  have gT : (bagO T).dp ≤ 28 := bag_dp fun x hx => by have := dT x hx; omega
  have nnL := bag_len (L := L)
  have nnT := bag_len (L := T)
  have e6 : mFrzB 3 (mIf (mNotT (mTruth (mCallN 2 f__law_same (mCons (mCallN 2 f_compare_bags (mCons (mCall fList (mCons (mVar 2) mNil)) (mCons (mCall fList (mCons (mVar 3) mNil)) mNil))) (mCons (mVar 5) mNil))))) (mRet (mC (.bl false))) mNx)
      [.v (.scr ns), .v (.ref 0), .v (.lst (L.map O.enc)), .v (.lst (T.map O.enc)), sk, .v (.int (due L T)), .no, .no, .no, .no, .no, .no] h0 = .ok (.nx [.v (.scr ns), .v (.ref 0), .v (.lst (L.map O.enc)), .v (.lst (T.map O.enc)), sk, .v (.int (due L T)), .no, .no, .no, .no, .no, .no]) h0 := by
    simp [cmp, same_int]
  rw [seq_ok e6]
  have e7 : mFrzB 3 (mIf (mNotT (mTruth (mCallN 2 f__law_same (mCons (mCallN 2 f_is_exchange (mCons (mCall fList (mCons (mVar 2) mNil)) (mCons (mCall fList (mCons (mVar 3) mNil)) mNil))) (mCons (mBin opEq (mVar 5) (mC (.int 1))) mNil))))) (mRet (mC (.bl false))) mNx)
      [.v (.scr ns), .v (.ref 0), .v (.lst (L.map O.enc)), .v (.lst (T.map O.enc)), sk, .v (.int (due L T)), .no, .no, .no, .no, .no, .no] h0 = .ok (.nx [.v (.scr ns), .v (.ref 0), .v (.lst (L.map O.enc)), .v (.lst (T.map O.enc)), sk, .v (.int (due L T)), .no, .no, .no, .no, .no, .no]) h0 := by
    simp [exc, same_bl]
  rw [seq_ok e7]
  have e8 : mFrzB 3 (mPar 6 7 (mCons (mCallN 1 f_bag_ordinal (mCons (mCall fList (mCons (mVar 2) mNil)) mNil)) (mCons (mCallN 1 f_bag_ordinal (mCons (mCall fList (mCons (mVar 3) mNil)) mNil)) mNil)))
      [.v (.scr ns), .v (.ref 0), .v (.lst (L.map O.enc)), .v (.lst (T.map O.enc)), sk, .v (.int (due L T)), .no, .no, .no, .no, .no, .no] h0 = .ok (.nx [.v (.scr ns), .v (.ref 0), .v (.lst (L.map O.enc)), .v (.lst (T.map O.enc)), sk, .v (.int (due L T)), .v (bagO L).enc, .v (bagO T).enc, .no, .no, .no, .no]) h0 := by
    simp [bL, bT]
  rw [seq_ok e8]
  obtain ⟨o1, o2, o3, o4⟩ := bag_order nL nT
  have gt := opGt_enc (h := h0) (show (bagO L).dp ≤ 29 by omega) (show (bagO T).dp ≤ 29 by omega)
  have lt := opLt_enc (h := h0) (show (bagO L).dp ≤ 29 by omega) (show (bagO T).dp ≤ 29 by omega)
  have cv : ((if O.lt (bagO T) (bagO L) = true then (1 : Int) else 0) - (if O.lt (bagO L) (bagO T) = true then 1 else 0)) = due L T := by
    rcases o4 with o | o | o
    · have e := o1 o
      rw [e, O.lt_irrefl, o]
      decide
    · have e := o2 o
      rw [e, O.lt_asymm e, o]
      decide
    · have e := o3 o
      rw [e, O.lt_asymm e, o]
      decide
  have e9 : mIf (mNotT (mTruth (mCallN 2 f__law_same (mCons (mBin opSub (mCall fInt (mCons (mBin opGt (mVar 6) (mVar 7)) mNil)) (mCall fInt (mCons (mBin opLt (mVar 6) (mVar 7)) mNil))) (mCons (mVar 5) mNil))))) (mRet (mC (.bl false))) mNx
      [.v (.scr ns), .v (.ref 0), .v (.lst (L.map O.enc)), .v (.lst (T.map O.enc)), sk, .v (.int (due L T)), .v (bagO L).enc, .v (bagO T).enc, .no, .no, .no, .no] h0 = .ok (.nx [.v (.scr ns), .v (.ref 0), .v (.lst (L.map O.enc)), .v (.lst (T.map O.enc)), sk, .v (.int (due L T)), .v (bagO L).enc, .v (bagO T).enc, .no, .no, .no, .no]) h0 := by
    simp [gt, lt, cv, same_int]
  rw [seq_ok e9]
  -- the sum of both
  have nLT : ∀ x ∈ L ++ T, x.nf := fun x hx => (List.mem_append.mp hx).elim (nL x) (nT x)
  have bA := bag_ok (h := h0) (L := L ++ T) (fun x hx => (List.mem_append.mp hx).elim (dL x) (dT x)) (by simp; omega)
  have mx2 := mixed_ok (h := h0) (a := bagO L) (b := bagO T) gL gT (by omega)
  have eqA : bagO (L ++ T) = O.mix (bagO L) (bagO T) := O.cnt_ext (bag_nf nLT) (O.nf_mix _ _ (bag_nf nL) (bag_nf nT)) fun x => by
    rw [bag_cnt, O.cnt_mix, bag_cnt, bag_cnt, List.count_append]
    omega
  have okA : D.okN 60 (O.mix (bagO L) (bagO T)).enc = true := by
    rw [← eqA]
    refine O.okD (Nat.le_trans (bag_dp (k := 28) fun x hx => ?_) (by decide)) (Nat.le_trans (bag_mx (k := 10) (fun x hx => ?_) (by simp; omega)) (by decide))
    · exact (List.mem_append.mp hx).elim (fun q => by have := dL x q; omega) fun q => by have := dT x q; omega
    · exact (List.mem_append.mp hx).elim (fun q => (hL x q).2.2) fun q => (hT x q).2.2
  have lLT : L.length + T.length ≤ 16777216 := by omega
  have bA' : f_bag_ordinal [.lst (L.map O.enc ++ T.map O.enc)] h0 = .ok (O.mix (bagO L) (bagO T)).enc h0 := by
    rw [← eqA, ← bA, List.map_append]
  have e10 : mFrzB 3 (mIf (mNotT (mTruth (mCallN 2 f__law_same (mCons (mCallN 1 f_bag_ordinal (mCons (mBin opAdd (mVar 2) (mVar 3)) mNil)) (mCons (mCallN 2 f_mixed (mCons (mVar 6) (mCons (mVar 7) mNil))) mNil))))) (mRet (mC (.bl false))) mNx)
      [.v (.scr ns), .v (.ref 0), .v (.lst (L.map O.enc)), .v (.lst (T.map O.enc)), sk, .v (.int (due L T)), .v (bagO L).enc, .v (bagO T).enc, .no, .no, .no, .no] h0 = .ok (.nx [.v (.scr ns), .v (.ref 0), .v (.lst (L.map O.enc)), .v (.lst (T.map O.enc)), sk, .v (.int (due L T)), .v (bagO L).enc, .v (bagO T).enc, .no, .no, .no, .no]) h0 := by
    simp [lLT, bA', mx2, same_ok okA]
  rw [seq_ok e10]
  -- backwards
  have bR := bag_ok (h := h0) (L := L.reverse) (fun x hx => dL x (List.mem_reverse.mp hx)) (by simp; omega)
  have eqR : bagO L.reverse = bagO L := O.cnt_ext (bag_nf fun x hx => nL x (List.mem_reverse.mp hx)) (bag_nf nL) fun x => by rw [bag_cnt, bag_cnt, List.count_reverse]
  have bR' : f_bag_ordinal [.lst (L.map O.enc).reverse] h0 = .ok (bagO L).enc h0 := by rw [← eqR, ← bR, List.map_reverse]
  have okL : D.okN 60 (bagO L).enc = true := O.okD (by omega) (Nat.le_trans (bag_mx (k := 10) (fun x hx => (hL x hx).2.2) (by omega)) (by decide))
  have e11 : mIf (mNotT (mTruth (mCallN 2 f__law_same (mCons (mCallN 1 f_bag_ordinal (mCons (mUn opRev (mVar 2)) mNil)) (mCons (mVar 6) mNil))))) (mRet (mC (.bl false))) mNx
      [.v (.scr ns), .v (.ref 0), .v (.lst (L.map O.enc)), .v (.lst (T.map O.enc)), sk, .v (.int (due L T)), .v (bagO L).enc, .v (bagO T).enc, .no, .no, .no, .no] h0 = .ok (.nx [.v (.scr ns), .v (.ref 0), .v (.lst (L.map O.enc)), .v (.lst (T.map O.enc)), sk, .v (.int (due L T)), .v (bagO L).enc, .v (bagO T).enc, .no, .no, .no, .no]) h0 := by
    simp [bR', same_ok okL]
  rw [seq_ok e11]
  -- those that may be taken
  have ct := compF_filter (h := h0) (t := tgName 11) (tt := t_law_1) (te := e_law_2) (env := [.v (.scr ns), .v (.ref 0), .v (.lst (L.map O.enc)), .v (.lst (T.map O.enc)), sk, .v (.int (due L T)), .v (bagO L).enc, .v (bagO T).enc, .no, .no, .no, .no]) (f := O.enc) (p := fun x => !decide (x = O.z)) (g := O.enc) (xs := L) fun x hx => ⟨_, rfl, by
    have := opNe_z (h := h0) (o := x) (by have := dL x hx; omega)
    simp [t_law_1, this], fun _ => by simp [e_law_2]⟩
  have lL2 : L.length ≤ 16777216 := by omega
  have e12 : mSet 8 (mFrz (mLc (mItems (mVar 2)) (tgName 11) t_law_1 e_law_2 [11])) [.v (.scr ns), .v (.ref 0), .v (.lst (L.map O.enc)), .v (.lst (T.map O.enc)), sk, .v (.int (due L T)), .v (bagO L).enc, .v (bagO T).enc, .no, .no, .no, .no] h0
      = .ok (.nx [.v (.scr ns), .v (.ref 0), .v (.lst (L.map O.enc)), .v (.lst (T.map O.enc)), sk, .v (.int (due L T)), .v (bagO L).enc, .v (bagO T).enc, .v (.lst ((L.filter fun x => !decide (x = O.z)).map O.enc)), .no, .no, .no]) h0 := by
    simp [lL2, wipeE, ct]
  rw [seq_ok e12]
  have hK : ∀ x ∈ L.filter (fun x => !decide (x = O.z)), x ∈ L ∧ x ≠ O.z := fun x hx => by simpa using List.mem_filter.mp hx
  have lK : (L.filter fun x => !decide (x = O.z)).length ≤ 5 := Nat.le_trans (List.length_filter_le ..) lL
  generalize L.filter (fun x => !decide (x = O.z)) = K at hK lK ⊢
  have eK := opEq_encL (h := h0) (L := K) (L' := []) (fun x hx => dL' x (hK x hx).1) (by simp)
  simp only [List.map_nil] at eK
  cases qK : decide (K = []) with
  | true =>
    rw [qK] at eK
    rw [ev_seq, wpR_bind]
    have : mIf (mTest (mBin opEq (mVar 8) (mLst mNil))) (mRet (mC (.bl true))) mNx [.v (.scr ns), .v (.ref 0), .v (.lst (L.map O.enc)), .v (.lst (T.map O.enc)), sk, .v (.int (due L T)), .v (bagO L).enc, .v (bagO T).enc, .v (.lst (K.map O.enc)), .no, .no, .no] h0 = .ok (.rt (.bl true)) h0 := by
      simp [eK]
    rw [this]
    simp
  | false =>
    rw [qK] at eK
    have : mIf (mTest (mBin opEq (mVar 8) (mLst mNil))) (mRet (mC (.bl true))) mNx [.v (.scr ns), .v (.ref 0), .v (.lst (L.map O.enc)), .v (.lst (T.map O.enc)), sk, .v (.int (due L T)), .v (bagO L).enc, .v (bagO T).enc, .v (.lst (K.map O.enc)), .no, .no, .no] h0 = .ok (.nx [.v (.scr ns), .v (.ref 0), .v (.lst (L.map O.enc)), .v (.lst (T.map O.enc)), sk, .v (.int (due L T)), .v (bagO L).enc, .v (bagO T).enc, .v (.lst (K.map O.enc)), .no, .no, .no]) h0 := by
      simp [eK]
    rw [seq_ok this]
    have kne : K ≠ [] := of_decide_eq_false qK
    have kp : 0 < K.length := List.length_pos_iff.mpr kne
    -- one is taken
    refine seq_wp2 (P := fun e => ∃ g ∈ K, e = [.v (.scr ns), .v (.ref 0), .v (.lst (L.map O.enc)), .v (.lst (T.map O.enc)), sk, .v (.int (due L T)), .v (bagO L).enc, .v (bagO T).enc, .v (.lst (K.map O.enc)), .v g.enc, .no, .no]) ?_ fun e he => ?_
    · simp [f__law_pick, m__law_pick, wpR_bind]
      refine draw_wp h0s (by omega) (by omega) fun m hm => ?_
      have hm' : m < K.length := by omega
      have at_ : atI (K.map O.enc) (m : Int) = some (K[m]'hm').enc := by rw [at_nat (by simpa using hm'), List.getElem_map]
      simp [at_]
      exact ⟨_, List.getElem_mem hm', rfl⟩
    obtain ⟨g, hg, rfl⟩ := he
    obtain ⟨gL', gz⟩ := hK g hg
    have wog := without_ok (h := h0) (L := L) (M := [g]) h0n dL' (by simpa using dL' g gL')
    -- lesser ones come
    refine seq_wp2 (P := fun e => ∃ X : List O, (∀ x ∈ X, x.nf ∧ x.dp ≤ 27 ∧ O.lt x g = true) ∧ X.length ≤ 3 ∧ e = [.v (.scr ns), .v (.ref 0), .v (.lst (L.map O.enc)), .v (.lst (T.map O.enc)), sk, .v (.int (due L T)), .v (bagO L).enc, .v (bagO T).enc, .v (.lst (K.map O.enc)), .v g.enc, .v (.lst ((wo L [g] ++ X).map O.enc)), .no]) ?_ fun e he => ?_
    · have wog' : f__law_without [.lst (L.map O.enc), .lst [g.enc]] h0 = .ok (.lst ((wo L [g]).map O.enc)) h0 := wog
      simp [wog', wpR_bind, -exists_and_left, -exists_and_right]
      refine draw_wp h0s (by decide) (by decide) fun j hj => ?_
      have r := rng1_nat (h := h0) (n := j) (by omega)
      have l : (rngD 0 j).length ≤ 16777216 := by simp [rngD]; omega
      simp [r, wpR_bind, l, wipeE, -exists_and_left, -exists_and_right]
      have c := compF_wp (E := fun _ _ => False) (h := h0) (t := tgName 4) (te := e_law_3) (env := [.v (.scr ns), .v (.ref 0), .v (.lst (L.map O.enc)), .v (.lst (T.map O.enc)), .no, .v (.int (due L T)), .v (bagO L).enc, .v (bagO T).enc, .v (.lst (K.map O.enc)), .v g.enc, .no, .no]) (P := fun d => ∃ o : O, d = o.enc ∧ o.nf ∧ o.dp ≤ 27 ∧ O.lt o g = true) (xs := rngD 0 j) fun x hx => ⟨_, rfl, by
        simp [e_law_3, wpR_bind]
        exact (lesser_wp h0s (dL g gL') (Nat.le_trans (hL g gL').2.2 (by decide)) (nL g gL') gz).out⟩
      refine wpR_mono (wpR_calm' c) (fun ds h' q => ?_) fun _ _ q => q
      obtain ⟨q1, q2, rfl⟩ := q
      obtain ⟨X, rfl, l2, l3⟩ := encs_of q1
      have lX : X.length ≤ 3 := by simp [rngD] at q2; omega
      have lw := wo_len L [g]
      have lsum : (wo L [g]).length + X.length ≤ 16777216 := by omega
      simp [lsum]
      exact ⟨X, l3, lX, rfl⟩
    obtain ⟨X, hX, lX, rfl⟩ := he
    obtain ⟨u1, u2⟩ := due_back gL' fun x hx => (hX x hx).2.2
    have lw := wo_len L [g]
    have dB : ∀ x ∈ wo L [g] ++ X, x.dp ≤ 27 := fun x hx => (List.mem_append.mp hx).elim (fun q => dL x (wo_sub q)) fun q => (hX x q).2.1
    have nB : ∀ x ∈ wo L [g] ++ X, x.nf := fun x hx => (List.mem_append.mp hx).elim (fun q => nL x (wo_sub q)) fun q => (hX x q).1
    have lB : (wo L [g] ++ X).length ≤ 8 := by simp; omega
    have exB := exchange_ok (h := h0) (L := L) (M := wo L [g] ++ X) h0n dL' (fun x hx => by have := dB x hx; omega) (by omega) (by omega)
    have cmB := compare_ok (h := h0) (L := wo L [g] ++ X) (M := L) dB dL (by omega) (by omega) nB nL
    rw [u1] at exB
    rw [u2] at cmB
    generalize wo L [g] ++ X = B at exB cmB
    simp [exB, cmB, opIs]
end L_k56
namespace L_k56
open PySem L2 AG PyProof.Rows
theorem all_mk {P : Program} {w : World} {K : PySem.W.Frag} {h : Heap} {mg : Str → Option Value} {d : DefRec} (hd : ("law" : Str) = d.name) (X : K.In h) (G : h.Ns mainGlobals mg)
    {f0 : Addr} {od0 an0 : Option Addr} {sl0 : Array (Option Value)} {oc0 kV0 dc0 pm0 cd0 ct0 : Value}
    (a0 : PySem.W.nsIn K mainGlobals "_law_stream" = some (some (.ref f0))) (l0 : K.lookup f0 = some ⟨oc0, od0, .func (PySem.W.fnOf "_law_stream" "_law_stream" (defArgs s__law_stream) (defBody s__law_stream) (defScope s__law_stream) .none kV0 dc0 pm0 an0 cd0 ct0), sl0⟩)
    (c0 : PySem.W.codeIn K cd0 "_law_stream" = true) (k0 : PySem.W.keepIn K (.ref f0) = true)
    {f1 : Addr} {od1 an1 : Option Addr} {sl1 : Array (Option Value)} {oc1 kV1 dc1 pm1 cd1 ct1 : Value}
    (a1 : PySem.W.nsIn K mainGlobals "_law_without" = some (some (.ref f1))) (l1 : K.lookup f1 = some ⟨oc1, od1, .func (PySem.W.fnOf "_law_without" "_law_without" (defArgs s__law_without) (defBody s__law_without) (defScope s__law_without) .none kV1 dc1 pm1 an1 cd1 ct1), sl1⟩)
    (c1 : PySem.W.codeIn K cd1 "_law_without" = true) (k1 : PySem.W.keepIn K (.ref f1) = true)
    {f2 : Addr} {od2 an2 : Option Addr} {sl2 : Array (Option Value)} {oc2 kV2 dc2 pm2 cd2 ct2 : Value}
    (a2 : PySem.W.nsIn K mainGlobals "_law_order" = some (some (.ref f2))) (l2 : K.lookup f2 = some ⟨oc2, od2, .func (PySem.W.fnOf "_law_order" "_law_order" (defArgs s__law_order) (defBody s__law_order) (defScope s__law_order) .none kV2 dc2 pm2 an2 cd2 ct2), sl2⟩)
    (c2 : PySem.W.codeIn K cd2 "_law_order" = true) (k2 : PySem.W.keepIn K (.ref f2) = true)
    {f3 : Addr} {od3 an3 : Option Addr} {sl3 : Array (Option Value)} {oc3 kV3 dc3 pm3 cd3 ct3 : Value}
    (a3 : PySem.W.nsIn K mainGlobals "_law_draw" = some (some (.ref f3))) (l3 : K.lookup f3 = some ⟨oc3, od3, .func (PySem.W.fnOf "_law_draw" "_law_draw" (defArgs s__law_draw) (defBody s__law_draw) (defScope s__law_draw) .none kV3 dc3 pm3 an3 cd3 ct3), sl3⟩)
    (c3 : PySem.W.codeIn K cd3 "_law_draw" = true) (k3 : PySem.W.keepIn K (.ref f3) = true)
    {f4 : Addr} {od4 an4 : Option Addr} {sl4 : Array (Option Value)} {oc4 kV4 dc4 pm4 cd4 ct4 : Value}
    (a4 : PySem.W.nsIn K mainGlobals "_law_pick" = some (some (.ref f4))) (l4 : K.lookup f4 = some ⟨oc4, od4, .func (PySem.W.fnOf "_law_pick" "_law_pick" (defArgs s__law_pick) (defBody s__law_pick) (defScope s__law_pick) .none kV4 dc4 pm4 an4 cd4 ct4), sl4⟩)
    (c4 : PySem.W.codeIn K cd4 "_law_pick" = true) (k4 : PySem.W.keepIn K (.ref f4) = true)
    {f5 : Addr} {od5 an5 : Option Addr} {sl5 : Array (Option Value)} {oc5 kV5 dc5 pm5 cd5 ct5 : Value}
    (a5 : PySem.W.nsIn K mainGlobals "_law_ordinal" = some (some (.ref f5))) (l5 : K.lookup f5 = some ⟨oc5, od5, .func (PySem.W.fnOf "_law_ordinal" "_law_ordinal" (defArgs s__law_ordinal) (defBody s__law_ordinal) (defScope s__law_ordinal) .none kV5 dc5 pm5 an5 cd5 ct5), sl5⟩)
    (c5 : PySem.W.codeIn K cd5 "_law_ordinal" = true) (k5 : PySem.W.keepIn K (.ref f5) = true)
    {f6 : Addr} {od6 an6 : Option Addr} {sl6 : Array (Option Value)} {oc6 kV6 dc6 pm6 cd6 ct6 : Value}
    (a6 : PySem.W.nsIn K mainGlobals "_law_same" = some (some (.ref f6))) (l6 : K.lookup f6 = some ⟨oc6, od6, .func (PySem.W.fnOf "_law_same" "_law_same" (defArgs s__law_same) (defBody s__law_same) (defScope s__law_same) .none kV6 dc6 pm6 an6 cd6 ct6), sl6⟩)
    (c6 : PySem.W.codeIn K cd6 "_law_same" = true) (k6 : PySem.W.keepIn K (.ref f6) = true)
    {f7 : Addr} {od7 an7 : Option Addr} {sl7 : Array (Option Value)} {oc7 kV7 dc7 pm7 cd7 ct7 : Value}
    (a7 : PySem.W.nsIn K mainGlobals "mixed" = some (some (.ref f7))) (l7 : K.lookup f7 = some ⟨oc7, od7, .func (PySem.W.fnOf "mixed" "mixed" (defArgs s_mixed) (defBody s_mixed) (defScope s_mixed) .none kV7 dc7 pm7 an7 cd7 ct7), sl7⟩)
    (c7 : PySem.W.codeIn K cd7 "mixed" = true) (k7 : PySem.W.keepIn K (.ref f7) = true)
    {f8 : Addr} {od8 an8 : Option Addr} {sl8 : Array (Option Value)} {oc8 kV8 dc8 pm8 cd8 ct8 : Value}
    (a8 : PySem.W.nsIn K mainGlobals "power" = some (some (.ref f8))) (l8 : K.lookup f8 = some ⟨oc8, od8, .func (PySem.W.fnOf "power" "power" (defArgs s_power) (defBody s_power) (defScope s_power) .none kV8 dc8 pm8 an8 cd8 ct8), sl8⟩)
    (c8 : PySem.W.codeIn K cd8 "power" = true) (k8 : PySem.W.keepIn K (.ref f8) = true)
    {f9 : Addr} {od9 an9 : Option Addr} {sl9 : Array (Option Value)} {oc9 kV9 dc9 pm9 cd9 ct9 : Value}
    (a9 : PySem.W.nsIn K mainGlobals "bag_ordinal" = some (some (.ref f9))) (l9 : K.lookup f9 = some ⟨oc9, od9, .func (PySem.W.fnOf "bag_ordinal" "bag_ordinal" (defArgs s_bag_ordinal) (defBody s_bag_ordinal) (defScope s_bag_ordinal) .none kV9 dc9 pm9 an9 cd9 ct9), sl9⟩)
    (c9 : PySem.W.codeIn K cd9 "bag_ordinal" = true) (k9 : PySem.W.keepIn K (.ref f9) = true)
    {f10 : Addr} {od10 an10 : Option Addr} {sl10 : Array (Option Value)} {oc10 kV10 dc10 pm10 cd10 ct10 : Value}
    (a10 : PySem.W.nsIn K mainGlobals "compare_bags" = some (some (.ref f10))) (l10 : K.lookup f10 = some ⟨oc10, od10, .func (PySem.W.fnOf "compare_bags" "compare_bags" (defArgs s_compare_bags) (defBody s_compare_bags) (defScope s_compare_bags) .none kV10 dc10 pm10 an10 cd10 ct10), sl10⟩)
    (c10 : PySem.W.codeIn K cd10 "compare_bags" = true) (k10 : PySem.W.keepIn K (.ref f10) = true)
    {f11 : Addr} {od11 an11 : Option Addr} {sl11 : Array (Option Value)} {oc11 kV11 dc11 pm11 cd11 ct11 : Value}
    (a11 : PySem.W.nsIn K mainGlobals "is_exchange" = some (some (.ref f11))) (l11 : K.lookup f11 = some ⟨oc11, od11, .func (PySem.W.fnOf "is_exchange" "is_exchange" (defArgs s_is_exchange) (defBody s_is_exchange) (defScope s_is_exchange) .none kV11 dc11 pm11 an11 cd11 ct11), sl11⟩)
    (c11 : PySem.W.codeIn K cd11 "is_exchange" = true) (k11 : PySem.W.keepIn K (.ref f11) = true)
    {f12 : Addr} {od12 an12 : Option Addr} {sl12 : Array (Option Value)} {oc12 kV12 dc12 pm12 cd12 ct12 : Value}
    (a12 : PySem.W.nsIn K mainGlobals "_law_is_next" = some (some (.ref f12))) (l12 : K.lookup f12 = some ⟨oc12, od12, .func (PySem.W.fnOf "_law_is_next" "_law_is_next" (defArgs s__law_is_next) (defBody s__law_is_next) (defScope s__law_is_next) .none kV12 dc12 pm12 an12 cd12 ct12), sl12⟩)
    (c12 : PySem.W.codeIn K cd12 "_law_is_next" = true) (k12 : PySem.W.keepIn K (.ref f12) = true)
    {f13 : Addr} {od13 an13 : Option Addr} {sl13 : Array (Option Value)} {oc13 kV13 dc13 pm13 cd13 ct13 : Value}
    (a13 : PySem.W.nsIn K mainGlobals "_law_less" = some (some (.ref f13))) (l13 : K.lookup f13 = some ⟨oc13, od13, .func (PySem.W.fnOf "_law_less" "_law_less" (defArgs s__law_less) (defBody s__law_less) (defScope s__law_less) .none kV13 dc13 pm13 an13 cd13 ct13), sl13⟩)
    (c13 : PySem.W.codeIn K cd13 "_law_less" = true) (k13 : PySem.W.keepIn K (.ref f13) = true)
    {f14 : Addr} {od14 an14 : Option Addr} {sl14 : Array (Option Value)} {oc14 kV14 dc14 pm14 cd14 ct14 : Value}
    (a14 : PySem.W.nsIn K mainGlobals "_law_below" = some (some (.ref f14))) (l14 : K.lookup f14 = some ⟨oc14, od14, .func (PySem.W.fnOf "_law_below" "_law_below" (defArgs s__law_below) (defBody s__law_below) (defScope s__law_below) .none kV14 dc14 pm14 an14 cd14 ct14), sl14⟩)
    (c14 : PySem.W.codeIn K cd14 "_law_below" = true) (k14 : PySem.W.keepIn K (.ref f14) = true)
    {f15 : Addr} {od15 an15 : Option Addr} {sl15 : Array (Option Value)} {oc15 kV15 dc15 pm15 cd15 ct15 : Value}
    (a15 : PySem.W.nsIn K mainGlobals "_law_lesser" = some (some (.ref f15))) (l15 : K.lookup f15 = some ⟨oc15, od15, .func (PySem.W.fnOf "_law_lesser" "_law_lesser" (defArgs s__law_lesser) (defBody s__law_lesser) (defScope s__law_lesser) .none kV15 dc15 pm15 an15 cd15 ct15), sl15⟩)
    (c15 : PySem.W.codeIn K cd15 "_law_lesser" = true) (k15 : PySem.W.keepIn K (.ref f15) = true)
    {f16 : Addr} {od16 an16 : Option Addr} {sl16 : Array (Option Value)} {oc16 kV16 dc16 pm16 cd16 ct16 : Value}
    (a16 : PySem.W.nsIn K mainGlobals "law" = some (some (.ref f16))) (l16 : K.lookup f16 = some ⟨oc16, od16, .func (PySem.W.fnOf "law" "law" (defArgs s_law) (defBody s_law) (defScope s_law) .none kV16 dc16 pm16 an16 cd16 ct16), sl16⟩)
    (c16 : PySem.W.codeIn K cd16 "law" = true) (k16 : PySem.W.keepIn K (.ref f16) = true)
    (z_int : PySem.W.nsIn K mainGlobals "int" = some none)
    (z_list : PySem.W.nsIn K mainGlobals "list" = some none)
    (z_any : PySem.W.nsIn K mainGlobals "any" = some none)
    (z_all : PySem.W.nsIn K mainGlobals "all" = some none)
    (z_len : PySem.W.nsIn K mainGlobals "len" = some none)
    (z_abs : PySem.W.nsIn K mainGlobals "abs" = some none)
    (z_range : PySem.W.nsIn K mainGlobals "range" = some none)
    (z_sorted : PySem.W.nsIn K mainGlobals "sorted" = some none)
    (z_tuple : PySem.W.nsIn K mainGlobals "tuple" = some none)
    (z_isinstance : PySem.W.nsIn K mainGlobals "isinstance" = some none)
    (z_dict : PySem.W.nsIn K mainGlobals "dict" = some none)
    (z_str : PySem.W.nsIn K mainGlobals "str" = some none)
    (z_bool : PySem.W.nsIn K mainGlobals "bool" = some none)
    {t_ZERO : Addr} {to_ZERO : Option Addr} {tn_ZERO : Nat} {ts_ZERO : Array (Option Value)} (y_ZERO : PySem.W.nsIn K mainGlobals "ZERO" = some (some (.ref t_ZERO))) (x_ZERO : K.lookup t_ZERO = some ⟨.type "tuple", to_ZERO, .seq #[] tn_ZERO, ts_ZERO⟩)
    : ∃ (ca : Nat → Addr) (x : Str) (st : Stmt) (k : Nat) (N : List Str) (mb : AG.Env → M Fl), x = d.name ∧ DefOk K mg x st ["script"] ∧ FnScope N ["script"] (defScope st) ∧ 73 = k + 1 ∧ f_law = mFn N.length mb ∧ ∀ base : Heap, K.In base → base.Ns mainGlobals mg → BodyOk P w K mg base ca k x st N mb := by
  have D__law_stream : DefOk K mg "_law_stream" s__law_stream ["script"] := def_mk X G a0 l0 c0 k0 fun _ _ _ _ _ _ us hl => match us, hl with | [_], _ => rfl
  have D__law_without : DefOk K mg "_law_without" s__law_without ["one", "two"] := def_mk X G a1 l1 c1 k1 fun _ _ _ _ _ _ us hl => match us, hl with | [_, _], _ => rfl
  have D__law_order : DefOk K mg "_law_order" s__law_order ["one", "two"] := def_mk X G a2 l2 c2 k2 fun _ _ _ _ _ _ us hl => match us, hl with | [_, _], _ => rfl
  have D__law_draw : DefOk K mg "_law_draw" s__law_draw ["stream", "many"] := def_mk X G a3 l3 c3 k3 fun _ _ _ _ _ _ us hl => match us, hl with | [_, _], _ => rfl
  have D__law_pick : DefOk K mg "_law_pick" s__law_pick ["stream", "rows"] := def_mk X G a4 l4 c4 k4 fun _ _ _ _ _ _ us hl => match us, hl with | [_, _], _ => rfl
  have D__law_ordinal : DefOk K mg "_law_ordinal" s__law_ordinal ["stream", "deep"] := def_mk X G a5 l5 c5 k5 fun _ _ _ _ _ _ us hl => match us, hl with | [_, _], _ => rfl
  have D__law_same : DefOk K mg "_law_same" s__law_same ["one", "two"] := def_mk X G a6 l6 c6 k6 fun _ _ _ _ _ _ us hl => match us, hl with | [_, _], _ => rfl
  have D_mixed : DefOk K mg "mixed" s_mixed ["a", "b"] := def_mk X G a7 l7 c7 k7 fun _ _ _ _ _ _ us hl => match us, hl with | [_, _], _ => rfl
  have D_power : DefOk K mg "power" s_power ["a"] := def_mk X G a8 l8 c8 k8 fun _ _ _ _ _ _ us hl => match us, hl with | [_], _ => rfl
  have D_bag_ordinal : DefOk K mg "bag_ordinal" s_bag_ordinal ["bag"] := def_mk X G a9 l9 c9 k9 fun _ _ _ _ _ _ us hl => match us, hl with | [_], _ => rfl
  have D_compare_bags : DefOk K mg "compare_bags" s_compare_bags ["one", "two"] := def_mk X G a10 l10 c10 k10 fun _ _ _ _ _ _ us hl => match us, hl with | [_, _], _ => rfl
  have D_is_exchange : DefOk K mg "is_exchange" s_is_exchange ["one", "two"] := def_mk X G a11 l11 c11 k11 fun _ _ _ _ _ _ us hl => match us, hl with | [_, _], _ => rfl
  have D__law_is_next : DefOk K mg "_law_is_next" s__law_is_next ["a"] := def_mk X G a12 l12 c12 k12 fun _ _ _ _ _ _ us hl => match us, hl with | [_], _ => rfl
  have D__law_less : DefOk K mg "_law_less" s__law_less ["a"] := def_mk X G a13 l13 c13 k13 fun _ _ _ _ _ _ us hl => match us, hl with | [_], _ => rfl
  have D__law_below : DefOk K mg "_law_below" s__law_below ["a", "n"] := def_mk X G a14 l14 c14 k14 fun _ _ _ _ _ _ us hl => match us, hl with | [_, _], _ => rfl
  have D__law_lesser : DefOk K mg "_law_lesser" s__law_lesser ["stream", "a"] := def_mk X G a15 l15 c15 k15 fun _ _ _ _ _ _ us hl => match us, hl with | [_, _], _ => rfl
  have D_law : DefOk K mg "law" s_law ["script"] := def_mk X G a16 l16 c16 k16 fun _ _ _ _ _ _ us hl => match us, hl with | [_], _ => rfl
  have z_int := PySem.W.mg_none_of X G z_int
  have z_list := PySem.W.mg_none_of X G z_list
  have z_any := PySem.W.mg_none_of X G z_any
  have z_all := PySem.W.mg_none_of X G z_all
  have z_len := PySem.W.mg_none_of X G z_len
  have z_abs := PySem.W.mg_none_of X G z_abs
  have z_range := PySem.W.mg_none_of X G z_range
  have z_sorted := PySem.W.mg_none_of X G z_sorted
  have z_tuple := PySem.W.mg_none_of X G z_tuple
  have z_isinstance := PySem.W.mg_none_of X G z_isinstance
  have z_dict := PySem.W.mg_none_of X G z_dict
  have z_str := PySem.W.mg_none_of X G z_str
  have z_bool := PySem.W.mg_none_of X G z_bool
  have g_ZERO : GC K mg "ZERO" c_ZERO := gc_tup0 X G y_ZERO x_ZERO
  refine ⟨fun _ => 0, "law", s_law, 72, N_law, m_law, hd, D_law, sc_law, rfl, rfl, fun base hB1 hB2 => ?_⟩
  have F__law_stream := ok2__law_stream (ok__law_stream (P := P) (w := w) (base := base) (ca := fun _ => 0) D__law_stream z_int z_list)
  have F__law_without := ok__law_without (P := P) (w := w) (base := base) (ca := fun _ => 0) D__law_without z_list
  have F__law_order := ok__law_order (P := P) (w := w) (base := base) (ca := fun _ => 0) D__law_order z_any z_all F__law_without
  have F__law_draw := ok2__law_draw (ok__law_draw (P := P) (w := w) (base := base) (ca := fun _ => 0) D__law_draw z_len z_int z_abs)
  have F__law_pick := ok__law_pick (P := P) (w := w) (base := base) (ca := fun _ => 0) D__law_pick z_len F__law_draw
  have F__law_ordinal := ok__law_ordinal (P := P) (w := w) (base := base) (ca := fun _ => 0) D__law_ordinal z_int z_range z_sorted z_tuple F__law_draw
  have F__law_same := ok__law_same (P := P) (w := w) (base := base) (ca := fun _ => 0) D__law_same z_isinstance z_tuple z_list z_len z_range z_all z_dict z_str z_int z_bool
  have F_mixed := ok_mixed (P := P) (w := w) (base := base) (ca := fun _ => 0) D_mixed z_len z_tuple
  have F_power := ok_power (P := P) (w := w) (base := base) (ca := fun _ => 0) D_power
  have F_bag_ordinal := ok_bag_ordinal (P := P) (w := w) (base := base) (ca := fun _ => 0) D_bag_ordinal g_ZERO F_mixed F_power
  have F_compare_bags := ok_compare_bags (P := P) (w := w) (base := base) (ca := fun _ => 0) D_compare_bags z_int F_bag_ordinal
  have F_is_exchange := ok_is_exchange (P := P) (w := w) (base := base) (ca := fun _ => 0) D_is_exchange z_list z_len z_any z_all
  have F__law_is_next := ok__law_is_next (P := P) (w := w) (base := base) (ca := fun _ => 0) D__law_is_next z_len
  have F__law_less := ok__law_less (P := P) (w := w) (base := base) (ca := fun _ => 0) D__law_less z_len
  have F__law_below := ok__law_below (P := P) (w := w) (base := base) (ca := fun _ => 0) D__law_below z_len F__law_is_next F__law_less
  have F__law_lesser := ok__law_lesser (P := P) (w := w) (base := base) (ca := fun _ => 0) D__law_lesser F__law_below F__law_draw F__law_is_next F__law_less
  exact body_law z_range z_list z_int F__law_draw F__law_lesser F__law_order F__law_ordinal F__law_pick F__law_same F__law_stream F__law_without F_bag_ordinal F_compare_bags F_is_exchange F_mixed
end L_k56
open PySem PySem.W PyProof.Rows
set_option maxRecDepth 100000 in
set_option maxHeartbeats 0 in
theorem PySem.Challenge.cw_allgrades_k56_whole_bags_of_ordinals_holds : PySem.Challenge.rw_allgrades_k56_whole_bags_of_ordinals.Holds := by
  w_on; o_law; k_head; (case hw => w_witness2)
  k_fill
  refine AG.walkM (l := PySem.Challenge.rw_allgrades_k56_whole_bags_of_ordinals) (m := L_k56.f_law) (lv := 73) L_k56.law_holds rfl rfl ⟨rfl, by decide, by decide⟩ (fun w h Y => PySem.W.kIn_of Y) ?F
  case F =>
    intro w mg h KX G
    refine' L_k56.all_mk rfl KX G ?a0 ?l0 ?c0 ?k0 ?a1 ?l1 ?c1 ?k1 ?a2 ?l2 ?c2 ?k2 ?a3 ?l3 ?c3 ?k3 ?a4 ?l4 ?c4 ?k4 ?a5 ?l5 ?c5 ?k5 ?a6 ?l6 ?c6 ?k6 ?a7 ?l7 ?c7 ?k7 ?a8 ?l8 ?c8 ?k8 ?a9 ?l9 ?c9 ?k9 ?a10 ?l10 ?c10 ?k10 ?a11 ?l11 ?c11 ?k11 ?a12 ?l12 ?c12 ?k12 ?a13 ?l13 ?c13 ?k13 ?a14 ?l14 ?c14 ?k14 ?a15 ?l15 ?c15 ?k15 ?a16 ?l16 ?c16 ?k16 ?z_int ?z_list ?z_any ?z_all ?z_len ?z_abs ?z_range ?z_sorted ?z_tuple ?z_isinstance ?z_dict ?z_str ?z_bool ?y_ZERO ?x_ZERO
    (case a0 => k_is); (case l0 => k_is); (case c0 => k_is); (case k0 => k_is)
    (case a1 => k_is); (case l1 => k_is); (case c1 => k_is); (case k1 => k_is)
    (case a2 => k_is); (case l2 => k_is); (case c2 => k_is); (case k2 => k_is)
    (case a3 => k_is); (case l3 => k_is); (case c3 => k_is); (case k3 => k_is)
    (case a4 => k_is); (case l4 => k_is); (case c4 => k_is); (case k4 => k_is)
    (case a5 => k_is); (case l5 => k_is); (case c5 => k_is); (case k5 => k_is)
    (case a6 => k_is); (case l6 => k_is); (case c6 => k_is); (case k6 => k_is)
    (case a7 => k_is); (case l7 => k_is); (case c7 => k_is); (case k7 => k_is)
    (case a8 => k_is); (case l8 => k_is); (case c8 => k_is); (case k8 => k_is)
    (case a9 => k_is); (case l9 => k_is); (case c9 => k_is); (case k9 => k_is)
    (case a10 => k_is); (case l10 => k_is); (case c10 => k_is); (case k10 => k_is)
    (case a11 => k_is); (case l11 => k_is); (case c11 => k_is); (case k11 => k_is)
    (case a12 => k_is); (case l12 => k_is); (case c12 => k_is); (case k12 => k_is)
    (case a13 => k_is); (case l13 => k_is); (case c13 => k_is); (case k13 => k_is)
    (case a14 => k_is); (case l14 => k_is); (case c14 => k_is); (case k14 => k_is)
    (case a15 => k_is); (case l15 => k_is); (case c15 => k_is); (case k15 => k_is)
    (case a16 => k_is); (case l16 => k_is); (case c16 => k_is); (case k16 => k_is)
    (case z_int => k_is); (case z_list => k_is); (case z_any => k_is); (case z_all => k_is)
    (case z_len => k_is); (case z_abs => k_is); (case z_range => k_is); (case z_sorted => k_is)
    (case z_tuple => k_is); (case z_isinstance => k_is); (case z_dict => k_is); (case z_str => k_is)
    (case z_bool => k_is); (case y_ZERO => k_is); (case x_ZERO => k_is)
#print axioms PySem.Challenge.cw_allgrades_k56_whole_bags_of_ordinals_holds
