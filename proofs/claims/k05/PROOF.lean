import PyProof.Rows.All
import Wide.All
import OpenK.AllK
import Wide.FinOn
import HandS.ForMost
import HandS.ForExc
import KE.KDictKeyed
import HandS.TupLe
import HandS.TupAny
import HandS.WideBits
import HandS.Flow
import HandS.Style
import HandS.Steps
import KE.DataCmp
import KE.DataEq
import KE.DataAny
import KE.DataIsa
import KE.DataFind
import KE.DataMinMax
import KE.SortData
import HandS.Rev
import PyProof.LongRange
import HandS.SortKw
import HandS.TryOnly
import HandS.Small
import HandS.Zip
import HandS.More
import PyProof.Rows.AssignMoreSeq
import HandS.Flt
import HandS.Codes
import PySem.Challenge.RW_allgrades_k05_whole_sizes_and_falls
set_option Elab.async false
set_option linter.all false
set_option maxRecDepth 100000
/-! AgA: plain data D, the monad M, the worlds, and what it means that a Python value is a datum. -/
namespace AG
open PySem L2

/-- plain data; ref n: the n-th explicit (mutable) object -/
inductive D where
  | non | bl (b : Bool) | int (i : Int) | str (s : Str) | tup (xs : List D) | lst (xs : List D) | ref (n : Nat) | scr (ns : List Int)

/-- explicit objects -/
inductive MO where
  | lst (xs : List D)
  | stream
  | inst (c : Nat) (fs : List (Str × D))
  | dct (kvs : List (D × D))
abbrev MH := List MO

/-- what a computation comes to: a value, an exception of a class, nothing that is told, or one of n ways -/
inductive R (α : Type) where
  | ok (a : α) (h : MH)
  | exc (c : Nat) (h : MH)
  | bad
  | pick (n : Nat) (k : Nat → R α)

def R.bind {α β : Type} : R α → (α → MH → R β) → R β
  | .ok a h, f => f a h
  | .exc c h, _ => .exc c h
  | .bad, _ => .bad
  | .pick n k, f => .pick n fun i => (k i).bind f

abbrev M (α : Type) := MH → R α
def M.bind {α β : Type} (m : M α) (f : α → M β) : M β := fun h => (m h).bind fun a h' => f a h'
def M.pure {α : Type} (a : α) : M α := fun h => .ok a h
def M.bad {α : Type} : M α := fun _ => .bad
def M.exc {α : Type} (c : Nat) : M α := fun h => .exc c h
instance : Monad M where
  pure := M.pure
  bind := M.bind

def wpR {α : Type} (r : R α) (Q : α → MH → Prop) (E : Nat → MH → Prop) : Prop :=
  match r with
  | .ok a h => Q a h
  | .exc c h => E c h
  | .bad => False
  | .pick n k => 0 < n ∧ ∀ i, i < n → wpR (k i) Q E

theorem wpR_bind {α β : Type} {r : R α} {f : α → MH → R β} {Q : β → MH → Prop} {E : Nat → MH → Prop} : wpR (r.bind f) Q E ↔ wpR r (fun a h => wpR (f a h) Q E) E := by
  induction r with
  | ok a h => exact Iff.rfl
  | exc c h => exact Iff.rfl
  | bad => exact Iff.rfl
  | pick n k ih => exact ⟨fun h => ⟨h.1, fun i hi => (ih i).mp (h.2 i hi)⟩, fun h => ⟨h.1, fun i hi => (ih i).mpr (h.2 i hi)⟩⟩
theorem wpR_mono {α : Type} {r : R α} {Q Q' : α → MH → Prop} {E E' : Nat → MH → Prop} (h : wpR r Q E) (hQ : ∀ a h, Q a h → Q' a h) (hE : ∀ c h, E c h → E' c h) : wpR r Q' E' := by
  induction r with
  | ok a m => exact hQ _ _ h
  | exc c m => exact hE _ _ h
  | bad => exact h
  | pick n k ih => exact ⟨h.1, fun i hi => ih i (h.2 i hi)⟩

inductive Slot where
  | no
  | v (d : D)
  | own (xs : List D)
abbrev Env := List Slot
inductive Fl where
  | nx (e : Env) | bk (e : Env) | ct (e : Env) | rt (d : D)

/-! ### worlds -/
/-- ρ: where the explicit objects stand; F: what is frozen for ever (tuples, the script's copies); L: lists that are not written any more (or are lent); H: all that is tracked -/
structure Wd where
  ρ : List Addr
  F : Hp
  L : Addr → Option (List V)
  H : Hp

mutual
inductive Rp (K : PySem.W.Frag) (w : Wd) : V → D → Prop
  | non : Rp K w .non .non
  | bl (b : Bool) : Rp K w (.bl b) (.bl b)
  | int (i : Int) : Rp K w (.int i) (.int i)
  | str (x : Str) : Rp K w (.str x) (.str x)
  | tup {a : Addr} {xs : List V} {ds : List D} : SqT K w.F a xs → RpAll K w xs ds → Rp K w (.ref a) (.tup ds)
  | lst {a : Addr} {xs : List V} {ds : List D} : w.L a = some xs → RpAll K w xs ds → Rp K w (.ref a) (.lst ds)
  | ref {a : Addr} {n : Nat} : w.ρ[n]? = some a → Rp K w (.ref a) (.ref n)
  | scr {a : Addr} {ns : List Int} : SqL K w.F a (ns.map V.int) → ns.length ≤ 63 → Rp K w (.ref a) (.scr ns)
inductive RpAll (K : PySem.W.Frag) (w : Wd) : List V → List D → Prop
  | nil : RpAll K w [] []
  | cons {v : V} {vs : List V} {d : D} {ds : List D} : Rp K w v d → RpAll K w vs ds → RpAll K w (v :: vs) (d :: ds)
end

/-- what was told of data stays told -/
structure Grow (w w' : Wd) : Prop where
  rpre : ∃ ν, w'.ρ = w.ρ ++ ν
  fz : ∀ a o, w.F a = some o → w'.F a = some o
  lz : ∀ a o, w.L a = some o → w'.L a = some o
theorem Grow.refl (w : Wd) : Grow w w := ⟨⟨[], by simp⟩, fun _ _ h => h, fun _ _ h => h⟩
theorem Grow.trans {w w1 w2 : Wd} (a : Grow w w1) (b : Grow w1 w2) : Grow w w2 := by
  obtain ⟨n1, e1⟩ := a.rpre
  obtain ⟨n2, e2⟩ := b.rpre
  exact ⟨⟨n1 ++ n2, by rw [e2, e1, List.append_assoc]⟩, fun x o h => b.fz x o (a.fz x o h), fun x o h => b.lz x o (a.lz x o h)⟩
structure Ext (w w' : Wd) : Prop where
  rho : ∃ ν, w'.ρ = w.ρ ++ ν ∧ ∀ a ∈ ν, w.H a = none
  fz : ∀ a o, w.F a = some o → w'.F a = some o
  lz : ∀ a o, w.L a = some o → w'.L a = some o
  kp : ∀ a o, w.H a = some o → a ∉ w.ρ → w'.H a = some o
  nf : ∀ a o, w'.F a = some o → w.F a = some o ∨ w.H a = none
  nl : ∀ a o, w'.L a = some o → w.L a = some o ∨ w.H a = none
  th : ∀ a, w'.H a = none → w.H a = none
theorem Ext.grow {w w' : Wd} (x : Ext w w') : Grow w w' := ⟨let ⟨ν, e, _⟩ := x.rho; ⟨ν, e⟩, x.fz, x.lz⟩

theorem Ext.refl (w : Wd) : Ext w w := ⟨⟨[], by simp, by simp⟩, fun _ _ h => h, fun _ _ h => h, fun _ _ h _ => h, fun _ _ h => .inl h, fun _ _ h => .inl h, fun _ h => h⟩
theorem Ext.trans {w w1 w2 : Wd} (a : Ext w w1) (b : Ext w1 w2) : Ext w w2 := by
  obtain ⟨n1, e1, f1⟩ := a.rho
  obtain ⟨n2, e2, f2⟩ := b.rho
  refine ⟨⟨n1 ++ n2, by rw [e2, e1, List.append_assoc], fun x hx => ?_⟩, fun x o h => b.fz x o (a.fz x o h), fun x o h => b.lz x o (a.lz x o h), fun x o h hn => ?_, fun x o h => ?_, fun x o h => ?_, fun x h => a.th x (b.th x h)⟩
  · rcases List.mem_append.mp hx with h | h
    · exact f1 x h
    · exact a.th x (f2 x h)
  · refine b.kp x o (a.kp x o h hn) fun hm => ?_
    rw [e1] at hm
    rcases List.mem_append.mp hm with q | q
    · exact hn q
    · rw [f1 x q] at h; cases h
  · rcases b.nf x o h with q | q
    · exact a.nf x o q
    · exact .inr (a.th x q)
  · rcases b.nl x o h with q | q
    · exact a.nl x o q
    · exact .inr (a.th x q)

section
variable {K : PySem.W.Frag} {F F' : Hp}
theorem rd_mono {a : Addr} {u : HO} (hf : ∀ a o, F a = some o → F' a = some o) (h : Rd F a u) : Rd F' a u := by
  rcases h with h | ⟨o, h⟩
  · exact .inl (hf _ _ h)
  · exact .inr ⟨o, hf _ _ h⟩
theorem sqT_mono {a : Addr} {xs : List V} (hf : ∀ a o, F a = some o → F' a = some o) (h : SqT K F a xs) : SqT K F' a xs := by
  rcases h with h | h
  · exact .inl (rd_mono hf h)
  · exact .inr h
theorem sqL_mono {a : Addr} {xs : List V} (hf : ∀ a o, F a = some o → F' a = some o) (h : SqL K F a xs) : SqL K F' a xs := by
  rcases h with h | h
  · exact .inl (rd_mono hf h)
  · exact .inr h
end
section
variable {K : PySem.W.Frag} {w w' : Wd}
mutual
theorem Rp.mono (g : Grow w w') : ∀ {v : V} {d : D}, Rp K w v d → Rp K w' v d
  | _, _, .non => .non
  | _, _, .bl b => .bl b
  | _, _, .int i => .int i
  | _, _, .str x => .str x
  | _, _, .tup h r => .tup (sqT_mono g.fz h) (RpAll.mono g r)
  | _, _, .lst h r => .lst (g.lz _ _ h) (RpAll.mono g r)
  | _, _, .ref h => .ref (by
      obtain ⟨ν, e⟩ := g.rpre
      rw [e, List.getElem?_append_left (List.getElem?_eq_some_iff.mp h).1]
      exact h)
  | _, _, .scr h l => .scr (sqL_mono g.fz h) l
theorem RpAll.mono (g : Grow w w') : ∀ {vs : List V} {ds : List D}, RpAll K w vs ds → RpAll K w' vs ds
  | _, _, .nil => .nil
  | _, _, .cons h r => .cons (Rp.mono g h) (RpAll.mono g r)
end
theorem RpAll.length : ∀ {vs : List V} {ds : List D}, RpAll K w vs ds → vs.length = ds.length
  | _, _, .nil => rfl
  | _, _, .cons _ r => by simp [RpAll.length r]
theorem RpAll.get : ∀ {vs : List V} {ds : List D} {i : Nat} {d : D}, RpAll K w vs ds → ds[i]? = some d → ∃ v, vs[i]? = some v ∧ Rp K w v d
  | _, _, _, _, .nil, e => by simp at e
  | _, _, 0, _, .cons h _, e => by simp at e; subst e; exact ⟨_, rfl, h⟩
  | _, _, i + 1, d, .cons _ r, e => by
    obtain ⟨v, h1, h2⟩ := RpAll.get (i := i) (d := d) r (by simpa using e)
    exact ⟨v, by simpa using h1, h2⟩
theorem RpAll.getV : ∀ {vs : List V} {ds : List D} {i : Nat} {v : V}, RpAll K w vs ds → vs[i]? = some v → ∃ d, ds[i]? = some d ∧ Rp K w v d
  | _, _, _, _, .nil, e => by simp at e
  | _, _, 0, _, .cons h _, e => by simp at e; subst e; exact ⟨_, rfl, h⟩
  | _, _, i + 1, v, .cons _ r, e => by
    obtain ⟨d, h1, h2⟩ := RpAll.getV (i := i) (v := v) r (by simpa using e)
    exact ⟨d, by simpa using h1, h2⟩
theorem RpAll.append : ∀ {vs us : List V} {ds es : List D}, RpAll K w vs ds → RpAll K w us es → RpAll K w (vs ++ us) (ds ++ es)
  | _, _, _, _, .nil, s => s
  | _, _, _, _, .cons h r, s => .cons h (RpAll.append r s)
theorem RpAll.take : ∀ {vs : List V} {ds : List D} (n : Nat), RpAll K w vs ds → RpAll K w (vs.take n) (ds.take n)
  | _, _, 0, _ => by simp; exact .nil
  | _, _, _ + 1, .nil => .nil
  | _, _, n + 1, .cons h r => .cons h (RpAll.take n r)
theorem RpAll.drop : ∀ {vs : List V} {ds : List D} (n : Nat), RpAll K w vs ds → RpAll K w (vs.drop n) (ds.drop n)
  | _, _, 0, r => r
  | _, _, _ + 1, .nil => .nil
  | _, _, n + 1, .cons _ r => RpAll.drop n r
theorem RpAll.set {v : V} {d : D} (h : Rp K w v d) : ∀ {vs : List V} {ds : List D} (i : Nat), RpAll K w vs ds → RpAll K w (vs.set i v) (ds.set i d)
  | _, _, _, .nil => .nil
  | _, _, 0, .cons _ t => .cons h t
  | _, _, i + 1, .cons q t => .cons q (RpAll.set h i t)
theorem RpAll.eraseIdx : ∀ {vs : List V} {ds : List D} (i : Nat), RpAll K w vs ds → RpAll K w (vs.eraseIdx i) (ds.eraseIdx i)
  | _, _, _, .nil => .nil
  | _, _, 0, .cons _ t => t
  | _, _, i + 1, .cons q t => .cons q (RpAll.eraseIdx i t)
theorem RpAll.reverse {vs : List V} {ds : List D} (h : RpAll K w vs ds) : RpAll K w vs.reverse ds.reverse := by
  induction ds generalizing vs with
  | nil => cases h; exact .nil
  | cons d ds ih =>
    cases h with
    | cons h1 h2 => rw [List.reverse_cons, List.reverse_cons]; exact (ih h2).append (.cons h1 .nil)
theorem RpAll.dropLast {vs : List V} {ds : List D} (h : RpAll K w vs ds) : RpAll K w vs.dropLast ds.dropLast := by
  rw [List.dropLast_eq_take, List.dropLast_eq_take, h.length]
  exact h.take _
theorem RpAll.ints : ∀ (ns : List Int), RpAll K w (ns.map V.int) (ns.map D.int)
  | [] => .nil
  | n :: ns => .cons (.int n) (RpAll.ints ns)
theorem Ext.rp (x : Ext w w') {v : V} {d : D} (h : Rp K w v d) : Rp K w' v d := h.mono x.grow
theorem Ext.rps (x : Ext w w') {v : List V} {d : List D} (h : RpAll K w v d) : RpAll K w' v d := h.mono x.grow
theorem Ext.at (x : Ext w w') {n : Nat} {a : Addr} (h : w.ρ[n]? = some a) : w'.ρ[n]? = some a := by
  obtain ⟨ν, e⟩ := x.grow.rpre
  rw [e, List.getElem?_append_left (List.getElem?_eq_some_iff.mp h).1]
  exact h
end

/-! ### the objects -/
/-- the classes' addresses by their numbers; the world -/
structure CA where
  fn : Nat → Addr
  wd : World
instance : CoeFun CA (fun _ => Nat → Addr) := ⟨CA.fn⟩
mutual
/-- data as a key -/
def D.nk : D → Option NestedKey
  | .non => some .none
  | .bl b => some (.num (if b = true then 1 else 0))
  | .int i => some (.num i)
  | .str s => some (.text s)
  | .tup xs => match D.nks xs with | some ks => some (.tup ks) | none => none
  | .lst _ => none
  | .ref _ => none
  | .scr _ => none
def D.nks : List D → Option (List NestedKey)
  | [] => some []
  | x :: xs => match D.nk x, D.nks xs with | some k, some ks => some (k :: ks) | _, _ => none
end
/-- a dict whose keys are tuples, by what is true of its one object -/
def dctφ (wd : World) (a : Addr) (xs : List (NestedKey × Addr × V)) : Heap → Prop := fun h => ∃ ys : List (NestedKey × Addr × Value), Paired (fun x y => x.1 = y.1 ∧ x.2.1 = y.2.1 ∧ RelV x.2.2 y.2.2) xs ys ∧
  ∃ o es ep, h.get? a = some o ∧ o.ExactDict ∧ o.data = .dict es ep ∧ es.toList = ys.map fun x => (⟨x.1.hash wd, .ref x.2.1, x.2.2⟩ : DictEntry)
abbrev DKs (K : PySem.W.Frag) (w : Wd) : List (D × D) → List (NestedKey × Addr × V) → Prop := Paired fun kv x => kv.1.nk = some x.1 ∧ x.1.depth ≤ 8 ∧ Rp K w (.ref x.2.1) kv.1 ∧ Rp K w x.2.2 kv.2
def MOk (K : PySem.W.Frag) (ca : CA) (w : Wd) (a : Addr) : MO → Prop
  | .lst ds => ∃ vs, w.H a = some (.lst vs) ∧ RpAll K w vs ds
  | .stream => ∃ (ns : List Int) (x y z : Int) (vs : List V), w.H a = some (.lst vs) ∧ RpAll K w vs [.scr ns, .int x, .int y, .int z] ∧ 0 ≤ y ∧ 0 ≤ z ∧ z < 2147483647
  | .inst c fs => ∃ dx us, w.H a = some (.ins (ca c) dx ((fs.map (·.1)).zip us)) ∧ RpAll K w us (fs.map (·.2))
  | .dct kvs => ∃ xs, w.H a = some (.ext (dctφ ca.wd a xs)) ∧ (a == sysModules) = false ∧ xs.length ≤ 16000000 ∧ DKs K w kvs xs ∧ (xs.map (·.1)).Nodup

structure WOk (K : PySem.W.Frag) (ca : CA) (w : Wd) (mh : MH) : Prop where
  sub : ∀ a o, w.F a = some o → w.H a = some o
  subL : ∀ a xs, w.L a = some xs → w.H a = some (.lst xs)
  len : w.ρ.length = mh.length
  nd : w.ρ.Nodup
  obj : ∀ (n : Nat) (a : Addr) (mo : MO), w.ρ[n]? = some a → mh[n]? = some mo → w.F a = none ∧ w.L a = none ∧ MOk K ca w a mo

/-- a list of one's own at a -/
structure Own (K : PySem.W.Frag) (w : Wd) (a : Addr) (ds : List D) : Prop where
  at' : ∃ vs, w.H a = some (.lst vs) ∧ RpAll K w vs ds
  nF : w.F a = none
  nL : w.L a = none
  nr : a ∉ w.ρ
structure FrOk (K : PySem.W.Frag) (w : Wd) (env : Env) (σ : St) : Prop where
  len : σ.length = env.length
  v : ∀ (i : Nat) (d : D), env[i]? = some (.v d) → ∃ v, σ[i]? = some (some v) ∧ Rp K w v d
  own : ∀ (i : Nat) (ds : List D), env[i]? = some (.own ds) → ∃ a, σ[i]? = some (some (.ref a)) ∧ Own K w a ds
  sep : ∀ (i j : Nat) (ds es : List D) (a : Addr), i ≠ j → env[i]? = some (.own ds) → env[j]? = some (.own es) → σ[i]? = some (some (.ref a)) → σ[j]? ≠ some (some (.ref a))

section
variable {K : PySem.W.Frag} {ca : CA} {w w' : Wd} {env : Env} {σ : St} {mh : MH}
theorem MOk.tracked {a : Addr} : ∀ {mo : MO}, MOk K ca w a mo → ∃ o, w.H a = some o
  | .lst _, ⟨_, h, _⟩ => ⟨_, h⟩
  | .stream, ⟨_, _, _, _, _, h, _⟩ => ⟨_, h⟩
  | .inst _ _, ⟨_, _, h, _⟩ => ⟨_, h⟩
  | .dct _, ⟨_, h, _⟩ => ⟨_, h⟩
theorem WOk.at (hw : WOk K ca w mh) {n : Nat} {a : Addr} (h : w.ρ[n]? = some a) : ∃ mo, mh[n]? = some mo ∧ w.F a = none ∧ w.L a = none ∧ MOk K ca w a mo := by
  have l := (List.getElem?_eq_some_iff.mp h).1
  rw [hw.len] at l
  exact ⟨mh[n], List.getElem?_eq_getElem l, hw.obj n a _ h (List.getElem?_eq_getElem l)⟩
theorem WOk.rhoAt (hw : WOk K ca w mh) {n : Nat} {mo : MO} (h : mh[n]? = some mo) : ∃ a, w.ρ[n]? = some a ∧ w.F a = none ∧ w.L a = none ∧ MOk K ca w a mo := by
  have l := (List.getElem?_eq_some_iff.mp h).1
  rw [← hw.len] at l
  exact ⟨w.ρ[n], List.getElem?_eq_getElem l, hw.obj n _ mo (List.getElem?_eq_getElem l) h⟩
theorem WOk.memAt (hw : WOk K ca w mh) {a : Addr} (h : a ∈ w.ρ) : w.F a = none ∧ w.L a = none ∧ ∃ o, w.H a = some o := by
  obtain ⟨n, hn⟩ := List.getElem?_of_mem h
  obtain ⟨mo, _, hf, hl, ho⟩ := hw.at hn
  exact ⟨hf, hl, ho.tracked⟩
theorem Own.ext {a : Addr} {ds : List D} (h : Own K w a ds) (x : Ext w w') : Own K w' a ds := by
  obtain ⟨vs, ha, r⟩ := h.at'
  refine ⟨⟨vs, x.kp _ _ ha h.nr, x.rps r⟩, ?_, ?_, fun hm => ?_⟩
  · cases q : w'.F a with
    | none => rfl
    | some o =>
      rcases x.nf a o q with z | z
      · rw [h.nF] at z; cases z
      · rw [ha] at z; cases z
  · cases q : w'.L a with
    | none => rfl
    | some o =>
      rcases x.nl a o q with z | z
      · rw [h.nL] at z; cases z
      · rw [ha] at z; cases z
  · obtain ⟨ν, e, f⟩ := x.rho
    rw [e] at hm
    rcases List.mem_append.mp hm with q | q
    · exact h.nr q
    · rw [f a q] at ha; cases ha
/-- a frame stays over what an expression does -/
theorem FrOk.ext (hf : FrOk K w env σ) (x : Ext w w') : FrOk K w' env σ := by
  refine ⟨hf.len, fun i d h => ?_, fun i ds h => ?_, hf.sep⟩
  · obtain ⟨v, e, r⟩ := hf.v i d h
    exact ⟨v, e, x.rp r⟩
  · obtain ⟨a, e, o⟩ := hf.own i ds h
    exact ⟨a, e, o.ext x⟩
/-- the objects stay where the tracked heap only grows -/
theorem MOk.grow {a : Addr} {mo : MO} (h : MOk K ca w a mo) (hH : ∀ o, w.H a = some o → w'.H a = some o) (g : Grow w w') : MOk K ca w' a mo := by
  cases mo with
  | lst ds => obtain ⟨vs, e, r⟩ := h; exact ⟨vs, hH _ e, r.mono g⟩
  | stream => obtain ⟨ns, x, y, z, vs, e, q, l⟩ := h; exact ⟨ns, x, y, z, vs, hH _ e, q.mono g, l⟩
  | inst c fs => obtain ⟨dx, us, e, r⟩ := h; exact ⟨dx, us, hH _ e, r.mono g⟩
  | dct kvs => obtain ⟨xs, e, y, z, r, n⟩ := h; exact ⟨xs, hH _ e, y, z, Paired.mapP r fun _ _ q => ⟨q.1, q.2.1, q.2.2.1.mono g, q.2.2.2.mono g⟩, n⟩

/-- a new frozen thing at p -/
def Wd.frz (w : Wd) (p : Addr) (o : HO) : Wd := ⟨w.ρ, upd w.F p o, w.L, upd w.H p o⟩
/-- a new thing at p that is not frozen -/
def Wd.put (w : Wd) (p : Addr) (o : HO) : Wd := ⟨w.ρ, w.F, w.L, upd w.H p o⟩
/-- the list at p is not written any more -/
def updL (L : Addr → Option (List V)) (p : Addr) (xs : List V) : Addr → Option (List V) := fun b => if b = p then some xs else L b
def Wd.lfz (w : Wd) (p : Addr) (xs : List V) : Wd := ⟨w.ρ, w.F, updL w.L p xs, upd w.H p (.lst xs)⟩
theorem upd_some {H : Hp} {p a : Addr} {o u : HO} (hp : H p = none) (h : H a = some u) : upd H p o a = some u := by
  rw [upd_ne]
  · exact h
  · intro e; subst e; rw [hp] at h; cases h
theorem updL_same {L : Addr → Option (List V)} {p : Addr} {xs : List V} : updL L p xs p = some xs := by simp [updL]
theorem updL_ne {L : Addr → Option (List V)} {p a : Addr} {xs : List V} (h : a ≠ p) : updL L p xs a = L a := by simp [updL, h]
theorem WOk.fnone (hw : WOk K ca w mh) {p : Addr} (hp : w.H p = none) : w.F p = none := by
  cases q : w.F p with
  | none => rfl
  | some o => rw [hw.sub _ _ q] at hp; cases hp
theorem WOk.lnone (hw : WOk K ca w mh) {p : Addr} (hp : w.H p = none) : w.L p = none := by
  cases q : w.L p with
  | none => rfl
  | some o => rw [hw.subL _ _ q] at hp; cases hp
theorem WOk.nrho (hw : WOk K ca w mh) {p : Addr} (hp : w.H p = none) : p ∉ w.ρ := fun h => by
  obtain ⟨_, _, o, e⟩ := hw.memAt h
  rw [hp] at e; cases e
theorem th_upd {H : Hp} {p : Addr} {o : HO} (hp : H p = none) : ∀ a, upd H p o a = none → H a = none := fun a h => by
  by_cases e : a = p
  · subst e; exact hp
  · rw [← upd_ne (H := H) (o := o) e]; exact h
theorem Ext.frz (hw : WOk K ca w mh) {p : Addr} {o : HO} (hp : w.H p = none) : Ext w (w.frz p o) := by
  refine ⟨⟨[], by simp [Wd.frz], by simp⟩, fun a u h => upd_some (hw.fnone hp) h, fun a u h => h, fun a u h _ => upd_some hp h, fun a u h => ?_, fun a u h => .inl h, th_upd hp⟩
  by_cases e : a = p
  · subst e; exact .inr hp
  · exact .inl (by rw [← upd_ne (H := w.F) (o := o) e]; exact h)
theorem WOk.frz (hw : WOk K ca w mh) {p : Addr} {o : HO} (hp : w.H p = none) : WOk K ca (w.frz p o) mh := by
  have x := Ext.frz (o := o) hw hp
  refine ⟨fun a u h => ?_, fun a xs h => upd_some hp (hw.subL _ _ h), hw.len, hw.nd, fun n a mo h1 h2 => ?_⟩
  · by_cases e : a = p
    · subst e
      have : u = o := by simpa [Wd.frz, upd] using h.symm
      subst this
      exact upd_same
    · have h' : w.F a = some u := by rw [← upd_ne (H := w.F) (o := o) e]; exact h
      exact upd_some hp (hw.sub _ _ h')
  · obtain ⟨f, l, q⟩ := hw.obj n a mo h1 h2
    have ne : a ≠ p := fun e => by
      subst e
      obtain ⟨u, z⟩ := q.tracked
      rw [hp] at z; cases z
    exact ⟨by show upd w.F p o a = none; rw [upd_ne ne]; exact f, l, q.grow (fun u z => upd_some hp z) x.grow⟩
theorem Ext.put (hw : WOk K ca w mh) {p : Addr} {o : HO} (hp : w.H p = none) : Ext w (w.put p o) :=
  ⟨⟨[], by simp [Wd.put], by simp⟩, fun a u h => h, fun a u h => h, fun a u h _ => upd_some hp h, fun a u h => .inl h, fun a u h => .inl h, th_upd hp⟩
theorem WOk.put (hw : WOk K ca w mh) {p : Addr} {o : HO} (hp : w.H p = none) : WOk K ca (w.put p o) mh := by
  refine ⟨fun a u h => upd_some hp (hw.sub _ _ h), fun a xs h => upd_some hp (hw.subL _ _ h), hw.len, hw.nd, fun n a mo h1 h2 => ?_⟩
  obtain ⟨f, l, q⟩ := hw.obj n a mo h1 h2
  exact ⟨f, l, q.grow (fun u z => upd_some hp z) (Ext.put (o := o) hw hp).grow⟩
theorem Ext.lfz (hw : WOk K ca w mh) {p : Addr} {xs : List V} (hp : w.H p = none) : Ext w (w.lfz p xs) := by
  refine ⟨⟨[], by simp [Wd.lfz], by simp⟩, fun a u h => h, fun a u h => ?_, fun a u h _ => upd_some hp h, fun a u h => .inl h, fun a u h => ?_, th_upd hp⟩
  · show updL w.L p xs a = some u
    rw [updL_ne]
    · exact h
    · intro e; subst e; rw [hw.lnone hp] at h; cases h
  · by_cases e : a = p
    · subst e; exact .inr hp
    · exact .inl (by rw [← updL_ne (L := w.L) (xs := xs) e]; exact h)
theorem WOk.lfz (hw : WOk K ca w mh) {p : Addr} {xs : List V} (hp : w.H p = none) : WOk K ca (w.lfz p xs) mh := by
  have x := Ext.lfz (xs := xs) hw hp
  refine ⟨fun a u h => upd_some hp (hw.sub _ _ h), fun a ys h => ?_, hw.len, hw.nd, fun n a mo h1 h2 => ?_⟩
  · by_cases e : a = p
    · subst e
      have h : updL w.L a xs a = some ys := h
      rw [updL_same] at h
      cases h
      exact upd_same
    · have h' : w.L a = some ys := by rw [← updL_ne (L := w.L) (xs := xs) e]; exact h
      exact upd_some hp (hw.subL _ _ h')
  · obtain ⟨f, l, q⟩ := hw.obj n a mo h1 h2
    have ne : a ≠ p := fun e => by
      subst e
      obtain ⟨u, z⟩ := q.tracked
      rw [hp] at z; cases z
    exact ⟨f, by show updL w.L p xs a = none; rw [updL_ne ne]; exact l, q.grow (fun u z => upd_some hp z) x.grow⟩
end

/-! ### the judgements -/
/-- what is wanted of what a part comes to (rep: how it is told by the tracked heap) -/
def PostG {α β : Type} (rep : Wd → β → α → Prop) (K : PySem.W.Frag) (ca : CA) (W : WX) (σ : St) (w : Wd) (r : R α) (Q : β → Hp → Prop) : Prop :=
  wpR r (fun d mh => ∀ w' v, Ext w w' → WOk K ca w' mh → rep w' v d → Q v w'.H) (fun cl mh => ∀ w', Ext w w' → WOk K ca w' mh → W (.ref (ca cl)) none σ w'.H)
def denG {α β : Type} (rep : Wd → β → α → Prop) (K : PySem.W.Frag) (ca : CA) (W : WX) (m : Env → M α) : St → Hp → (β → Hp → Prop) → Prop :=
  fun σ H Q => ∃ w mh env, w.H = H ∧ WOk K ca w mh ∧ FrOk K w env σ ∧ PostG rep K ca W σ w (m env mh) Q
abbrev repV (K : PySem.W.Frag) : Wd → V → D → Prop := fun w v d => Rp K w v d
abbrev repA (K : PySem.W.Frag) : Wd → List V → List D → Prop := fun w v d => RpAll K w v d
abbrev repB : Wd → Bool → Bool → Prop := fun _ b c => b = c
abbrev Post (K : PySem.W.Frag) := PostG (repV K) K
abbrev ME (X : Cx) (ca : CA) (W : WX) (e : Expr) (m : Env → M D) : Prop := PE X e (denG (repV X.K) X.K ca W m)
abbrev MT (X : Cx) (ca : CA) (W : WX) (e : Expr) (m : Env → M Bool) : Prop := PT X e (denG repB X.K ca W m)
abbrev MW (X : Cx) (ca : CA) (W : WX) (e : Expr) (m : Env → M Bool) : Prop := PW X e (denG repB X.K ca W m)
abbrev MA (X : Cx) (ca : CA) (W : WX) (es : List Expr) (m : Env → M (List D)) : Prop := PA X es (denG (repA X.K) X.K ca W m)

theorem PE.mono {X : Cx} {e : Expr} {t t' : TE} (h : PE X e t) (k : ∀ σ H Q, t' σ H Q → t σ H Q) : PE X e t' := ⟨fun pins s σ H Q I q => h.run pins s σ H Q I (k σ H Q q)⟩
theorem PT.mono {X : Cx} {e : Expr} {t t' : TT} (h : PT X e t) (k : ∀ σ H Q, t' σ H Q → t σ H Q) : PT X e t' := ⟨fun pins s σ H Q I q => h.run pins s σ H Q I (k σ H Q q)⟩
theorem PW.mono {X : Cx} {e : Expr} {t t' : TT} (h : PW X e t) (k : ∀ σ H Q, t' σ H Q → t σ H Q) : PW X e t' := ⟨fun wh pins s σ H Q I q => h.run wh pins s σ H Q I (k σ H Q q)⟩
theorem PS.mono {X : Cx} {e : Stmt} {t t' : TS} (h : PS X e t) (k : ∀ D σ H, t' D σ H → t D σ H) : PS X e t' := ⟨fun pins s σ H D I q => h.run pins s σ H D I (k D σ H q)⟩
theorem PSs.mono {X : Cx} {e : List Stmt} {t t' : TS} (h : PSs X e t) (k : ∀ D σ H, t' D σ H → t D σ H) : PSs X e t' := ⟨fun pins s σ H D I q => h.run pins s σ H D I (k D σ H q)⟩
theorem PA.mono {X : Cx} {es : List Expr} {t t' : TA} (h : PA X es t) (k : ∀ σ H Q, t' σ H Q → t σ H Q) : PA X es t' := ⟨fun pos pins s σ H Q I q => h.run pos pins s σ H Q I (k σ H Q q)⟩

section
variable {K : PySem.W.Frag} {ca : CA} {W : WX} {w w1 : Wd} {env : Env} {σ : St} {mh : MH}
section
variable {α β : Type} {rep : Wd → β → α → Prop} {Q Q' : β → Hp → Prop}
theorem PostG.ext {r : R α} (h : PostG rep K ca W σ w r Q) (x : Ext w w1) : PostG rep K ca W σ w1 r Q :=
  wpR_mono h (fun _ _ q w' v y hw r => q w' v (x.trans y) hw r) fun _ _ q w' y hw => q w' (x.trans y) hw
theorem PostG.imp {r : R α} (h : PostG rep K ca W σ w r Q) (k : ∀ v H, Q v H → Q' v H) : PostG rep K ca W σ w r Q' :=
  wpR_mono h (fun _ _ q w' v y hw r => k _ _ (q w' v y hw r)) fun _ _ q => q
/-- a first part, then the rest -/
theorem stepG {α2 β2 : Type} {rep2 : Wd → β2 → α2 → Prop} {ma : Env → M α} {f : α → M α2} {Q : β2 → Hp → Prop} {K1 : β → Hp → Prop} (hw : WOk K ca w mh) (hf : FrOk K w env σ) (hp : PostG rep2 K ca W σ w (M.bind (ma env) f mh) Q)
    (k : ∀ w1 mh1 v d, Ext w w1 → WOk K ca w1 mh1 → FrOk K w1 env σ → rep w1 v d → PostG rep2 K ca W σ w1 (f d mh1) Q → K1 v w1.H) : denG rep K ca W ma σ w.H K1 := by
  refine ⟨w, mh, env, rfl, hw, hf, ?_⟩
  refine wpR_mono (wpR_bind.mp hp) (fun d mh' q w1 v x hw1 r => ?_) fun _ _ q => q
  exact k w1 mh' v d x hw1 (hf.ext x) r (PostG.ext (w := w) q x)
/-- a last part -/
theorem lastG {ma : Env → M α} {Q : β → Hp → Prop} (hw : WOk K ca w mh) (hf : FrOk K w env σ) (hp : PostG rep K ca W σ w (ma env mh) Q) : denG rep K ca W ma σ w.H Q := ⟨w, mh, env, rfl, hw, hf, hp⟩
/-- a value at hand -/
theorem PostG.ret {d : α} {v : β} (h : PostG rep K ca W σ w (.ok d mh) Q) (hw : WOk K ca w mh) (r : rep w v d) : Q v w.H := h w v (Ext.refl w) hw r
end
/-- a new tuple -/
theorem PostG.tup {ds : List D} {vs : List V} {Q : VK} (h : Post K ca W σ w (.ok (.tup ds) mh) Q) (hw : WOk K ca w mh) (r : RpAll K w vs ds) : ∀ p, w.H p = none → Q (.ref p) (upd w.H p (.tup vs)) := fun p hp => by
  have x := Ext.frz (o := .tup vs) hw hp
  exact h (w.frz p (.tup vs)) (.ref p) x (hw.frz hp) (.tup (SqT.of upd_same) (x.rps r))
/-- a new copy of the script -/
theorem PostG.scr {ns : List Int} {vs : List V} {Q : VK} (h : Post K ca W σ w (.ok (.scr ns) mh) Q) (hw : WOk K ca w mh) (hl : ns.length ≤ 63) : ∀ p, w.H p = none → Q (.ref p) (upd w.H p (.lst (ns.map V.int))) := fun p hp => by
  have x := Ext.frz (o := .lst (ns.map V.int)) hw hp
  exact h (w.frz p (.lst (ns.map V.int))) (.ref p) x (hw.frz hp) (.scr (SqL.of upd_same) hl)
/-- a new list, not written any more -/
theorem PostG.lst {ds : List D} {vs : List V} {Q : VK} (h : Post K ca W σ w (.ok (.lst ds) mh) Q) (hw : WOk K ca w mh) (r : RpAll K w vs ds) : ∀ p, w.H p = none → Q (.ref p) (upd w.H p (.lst vs)) := fun p hp => by
  have x := Ext.lfz (xs := vs) hw hp
  exact h (w.lfz p vs) (.ref p) x (hw.lfz hp) (.lst updL_same (x.rps r))
end
end AG
/-! AgB: data and the library's data; operators. -/
namespace AG
open PySem L2

mutual
def D.toPy : D → PyData
  | .non => .none
  | .bl b => .bool b
  | .int i => .int i
  | .str s => .str s
  | .tup xs => .tuple (D.toPys xs)
  | .lst xs => .list (D.toPys xs)
  | .ref _ => .none
  | .scr _ => .none
def D.toPys : List D → List PyData
  | [] => []
  | x :: xs => D.toPy x :: D.toPys xs
end
theorem D.toPys_map : ∀ xs : List D, D.toPys xs = xs.map D.toPy
  | [] => rfl
  | x :: xs => by rw [D.toPys, D.toPys_map xs]; rfl

/-- no explicit object in it, nested at most n deep -/
def D.sm : Nat → D → Bool
  | _, .non => true
  | _, .bl _ => true
  | _, .int _ => true
  | _, .str _ => true
  | _, .ref _ => false
  | _, .scr _ => false
  | 0, .tup _ => false
  | 0, .lst _ => false
  | n + 1, .tup xs => xs.all (D.sm n)
  | n + 1, .lst xs => xs.all (D.sm n)
/-- no list in it -/
def D.nl : Nat → D → Bool
  | _, .lst _ => false
  | 0, .tup _ => false
  | n + 1, .tup xs => xs.all (D.nl n)
  | _, _ => true

theorem depthAll_le {n : Nat} : ∀ {xs : List D}, (∀ x ∈ xs, x.toPy.depth ≤ n) → PyData.depthAll (D.toPys xs) ≤ n
  | [], _ => by simp [D.toPys, PyData.depthAll]
  | x :: xs, h => by
    rw [D.toPys, PyData.depthAll]
    have h1 := h x List.mem_cons_self
    have h2 := depthAll_le (xs := xs) fun y hy => h y (List.mem_cons_of_mem _ hy)
    omega
theorem sm_depth : ∀ {n : Nat} {d : D}, D.sm n d = true → d.toPy.depth ≤ n
  | n, .non, _ => by simp [D.toPy, PyData.depth]
  | n, .bl _, _ => by simp [D.toPy, PyData.depth]
  | n, .int _, _ => by simp [D.toPy, PyData.depth]
  | n, .str _, _ => by simp [D.toPy, PyData.depth]
  | n, .ref _, h => by simp [D.toPy, PyData.depth]
  | n, .scr _, h => by simp [D.toPy, PyData.depth]
  | 0, .tup xs, h => by simp [D.sm] at h
  | 0, .lst xs, h => by simp [D.sm] at h
  | n + 1, .tup xs, h => by
    simp only [D.sm, List.all_eq_true] at h
    rw [D.toPy, PyData.depth]
    have := depthAll_le (n := n) (xs := xs) fun x hx => sm_depth (h x hx)
    omega
  | n + 1, .lst xs, h => by
    simp only [D.sm, List.all_eq_true] at h
    rw [D.toPy, PyData.depth]
    have := depthAll_le (n := n) (xs := xs) fun x hx => sm_depth (h x hx)
    omega
theorem plainAll_of {xs : List D} (h : ∀ x ∈ xs, x.toPy.plain = true) : PyData.plainAll (D.toPys xs) = true := by
  induction xs with
  | nil => simp [D.toPys, PyData.plainAll]
  | cons x xs ih => rw [D.toPys, PyData.plainAll, h x List.mem_cons_self, ih fun y hy => h y (List.mem_cons_of_mem _ hy)]; rfl
mutual
theorem plain_toPy : ∀ d : D, d.toPy.plain = true
  | .non => by simp [D.toPy, PyData.plain]
  | .bl _ => by simp [D.toPy, PyData.plain]
  | .int _ => by simp [D.toPy, PyData.plain]
  | .str _ => by simp [D.toPy, PyData.plain]
  | .ref _ => by simp [D.toPy, PyData.plain]
  | .scr _ => by simp [D.toPy, PyData.plain]
  | .tup xs => by rw [D.toPy, PyData.plain]; exact plainAll_toPy xs
  | .lst xs => by rw [D.toPy, PyData.plain]; exact plainAll_toPy xs
theorem plainAll_toPy : ∀ xs : List D, PyData.plainAll (D.toPys xs) = true
  | [] => by simp [D.toPys, PyData.plainAll]
  | x :: xs => by rw [D.toPys, PyData.plainAll, plain_toPy x, plainAll_toPy xs]; rfl
end

section
variable {K : PySem.W.Frag} {w : Wd}
theorem sqT_sub {F H : Hp} {a : Addr} {xs : List V} (hs : ∀ a o, F a = some o → H a = some o) (h : SqT K F a xs) : SqT K H a xs := sqT_mono hs h
structure Subs (w : Wd) : Prop where
  f : ∀ a o, w.F a = some o → w.H a = some o
  l : ∀ a xs, w.L a = some xs → w.H a = some (.lst xs)
theorem WOk.subs {ca : CA} {mh : MH} (hw : WOk K ca w mh) : Subs w := ⟨hw.sub, hw.subL⟩
theorem dpAll_of {n : Nat} (ih : ∀ {v : V} {d : D}, Rp K w v d → D.sm n d = true → Dp K w.H v d.toPy) : ∀ {vs : List V} {ds : List D}, RpAll K w vs ds → ds.all (D.sm n) = true → DpAll K w.H vs (D.toPys ds)
  | _, _, .nil, _ => .nil
  | _, _, .cons h r, q => by
    simp only [List.all_cons, Bool.and_eq_true] at q
    exact .cons (ih h q.1) (dpAll_of ih r q.2)
theorem Rp.dp (hs : Subs w) : ∀ {n : Nat} {v : V} {d : D}, Rp K w v d → D.sm n d = true → Dp K w.H v d.toPy
  | _, _, _, .non, _ => .non
  | _, _, _, .bl b, _ => .bl b
  | _, _, _, .int i, _ => .int i
  | _, _, _, .str x, _ => .str x
  | 0, _, _, .tup _ _, q => by simp [D.sm] at q
  | 0, _, _, .lst _ _, q => by simp [D.sm] at q
  | n + 1, _, _, .tup h r, q => .tup (sqT_sub hs.f h) (dpAll_of (fun a b => Rp.dp hs a b) r (by simpa [D.sm] using q))
  | n + 1, _, _, .lst h r, q => .lst (.of (hs.l _ _ h)) (dpAll_of (fun a b => Rp.dp hs a b) r (by simpa [D.sm] using q))
  | _, _, _, .ref _, q => by simp [D.sm] at q
  | _, _, _, .scr _ _, q => by simp [D.sm] at q
end

/-! ### comparisons of data -/
def D.eqv (d e : D) : Bool := PyData.eqv d.toPy e.toPy
def D.lt (d e : D) : Bool := PySem.W.dataLt d.toPy e.toPy
def D.alike (d e : D) : Bool := PySem.W.alike d.toPy e.toPy
def D.isNon : D → Bool | .non => true | .ref _ => true | .scr _ => true | _ => false
theorem ne_none {d : D} (h : d.isNon = false) : d.toPy ≠ .none := by
  cases d <;> simp [D.isNon, D.toPy] at h ⊢

section
variable {X : Cx}
def rEq2 (K : PySem.W.Frag) (g : Bool → Bool) : R2 := fun x y H Q => ∃ d e, Dp K H x d ∧ Dp K H y e ∧ d.plain = true ∧ e.plain = true ∧ d.depth ≤ 64 ∧ Q (.bl (g (PyData.eqv d e))) H
theorem op_eq2 (hu : X.A.units + 64 < cLine) : OpR X (compareOp .Eq) (rEq2 X.K id) := by
  intro pins s σ H x y v u Q I rx ry h
  obtain ⟨d, e, hd, he, sd, se, dd, q⟩ := h
  obtain ⟨as, r1⟩ := Dp.reads I d x v hd rx
  obtain ⟨bs, r2⟩ := Dp.reads I e y u he ry
  exact PySem.SeqAt.eq_plain r1 r2 sd se (by have := Nat.min_le_left d.depth e.depth; omega) ⟨.bl _, H, I, rfl, q⟩
theorem op_ne2 (hu : X.A.units + 64 < cLine) : OpR X (compareOp .NotEq) (rEq2 X.K not) := by
  intro pins s σ H x y v u Q I rx ry h
  obtain ⟨d, e, hd, he, sd, se, dd, q⟩ := h
  obtain ⟨as, r1⟩ := Dp.reads I d x v hd rx
  obtain ⟨bs, r2⟩ := Dp.reads I e y u he ry
  exact PySem.SeqAt.ne_plain r1 r2 sd se (by have := Nat.min_le_left d.depth e.depth; omega) ⟨.bl _, H, I, rfl, q⟩
def rCm2 (K : PySem.W.Frag) (g : PyData → PyData → Bool) : R2 := fun x y H Q => ∃ d e, Dp K H x d ∧ Dp K H y e ∧ PySem.W.alike d e = true ∧ d ≠ .none ∧ d.depth ≤ 64 ∧ Q (.bl (g d e)) H
theorem op_lt2 (hu : X.A.units + 64 < cLine) : OpR X (compareOp .Lt) (rCm2 X.K fun d e => PySem.W.dataLt d e) := by
  intro pins s σ H x y v u Q I rx ry h
  obtain ⟨d, e, hd, he, sd, se, dd, q⟩ := h
  obtain ⟨as, r1⟩ := Dp.reads I d x v hd rx
  obtain ⟨bs, r2⟩ := Dp.reads I e y u he ry
  exact PySem.W.lt_data r1 r2 sd se (by have := Nat.min_le_left d.depth e.depth; omega) ⟨.bl _, H, I, rfl, q⟩
theorem op_gt2 (hu : X.A.units + 64 < cLine) : OpR X (compareOp .Gt) (rCm2 X.K fun d e => PySem.W.dataLt e d) := by
  intro pins s σ H x y v u Q I rx ry h
  obtain ⟨d, e, hd, he, sd, se, dd, q⟩ := h
  obtain ⟨as, r1⟩ := Dp.reads I d x v hd rx
  obtain ⟨bs, r2⟩ := Dp.reads I e y u he ry
  exact PySem.W.gt_data r1 r2 sd se (by have := Nat.min_le_left d.depth e.depth; omega) ⟨.bl _, H, I, rfl, q⟩
theorem op_le2 (hu : X.A.units + 64 < cLine) : OpR X (compareOp .LtE) (rCm2 X.K fun d e => !PySem.W.dataLt e d) := by
  intro pins s σ H x y v u Q I rx ry h
  obtain ⟨d, e, hd, he, sd, se, dd, q⟩ := h
  obtain ⟨as, r1⟩ := Dp.reads I d x v hd rx
  obtain ⟨bs, r2⟩ := Dp.reads I e y u he ry
  exact PySem.W.le_data r1 r2 sd se (by have := Nat.min_le_left d.depth e.depth; omega) ⟨.bl _, H, I, rfl, q⟩
theorem op_ge2 (hu : X.A.units + 64 < cLine) : OpR X (compareOp .GtE) (rCm2 X.K fun d e => !PySem.W.dataLt d e) := by
  intro pins s σ H x y v u Q I rx ry h
  obtain ⟨d, e, hd, he, sd, se, dd, q⟩ := h
  obtain ⟨as, r1⟩ := Dp.reads I d x v hd rx
  obtain ⟨bs, r2⟩ := Dp.reads I e y u he ry
  exact PySem.W.ge_data r1 r2 sd se (by have := Nat.min_le_left d.depth e.depth; omega) ⟨.bl _, H, I, rfl, q⟩
def rIn2 (K : PySem.W.Frag) (g : Bool → Bool) : R2 := fun x y H Q => ∃ d ds, Dp K H x d ∧ (Dp K H y (.list ds) ∨ Dp K H y (.tuple ds)) ∧ d.plain = true ∧ PyData.plainAll ds = true ∧ d.depth ≤ 64 ∧ Q (.bl (g (ds.any fun z => PyData.eqv z d))) H
theorem op_in2 (hu : X.A.units + 66 < cLine) : OpR X (compareOp .In) (rIn2 X.K id) := by
  intro pins s σ H x y v u Q I rx ry h
  obtain ⟨d, ds, hd, he, sd, se, dd, q⟩ := h
  obtain ⟨as, r1⟩ := Dp.reads I d x v hd rx
  rcases he with he | he
  · obtain ⟨bs, r2⟩ := Dp.reads I _ y u he ry
    exact PySem.SeqAt.in_list_data r2 r1 se sd (by have := Nat.min_le_right (PyData.depthAll ds) d.depth; omega) ⟨.bl _, H, I, rfl, q⟩
  · obtain ⟨bs, r2⟩ := Dp.reads I _ y u he ry
    exact PySem.SeqAt.in_tuple_data r2 r1 se sd (by have := Nat.min_le_right (PyData.depthAll ds) d.depth; omega) ⟨.bl _, H, I, rfl, q⟩
theorem op_nin2 (hu : X.A.units + 66 < cLine) : OpR X (compareOp .NotIn) (rIn2 X.K not) := by
  intro pins s σ H x y v u Q I rx ry h
  obtain ⟨d, ds, hd, he, sd, se, dd, q⟩ := h
  obtain ⟨as, r1⟩ := Dp.reads I d x v hd rx
  rcases he with he | he
  · obtain ⟨bs, r2⟩ := Dp.reads I _ y u he ry
    exact PySem.SeqAt.notIn_list_data r2 r1 se sd (by have := Nat.min_le_right (PyData.depthAll ds) d.depth; omega) ⟨.bl _, H, I, rfl, q⟩
  · obtain ⟨bs, r2⟩ := Dp.reads I _ y u he ry
    exact PySem.SeqAt.notIn_tuple_data r2 r1 se sd (by have := Nat.min_le_right (PyData.depthAll ds) d.depth; omega) ⟨.bl _, H, I, rfl, q⟩
end

/-! ### operators by data -/
abbrev DOp := D → D → M D
def OpM (K : PySem.W.Frag) (ca : CA) (r : R2) (f : DOp) : Prop :=
  ∀ (W : WX) (σ : St) (w : Wd) (mh : MH) (x y : V) (d e : D) (Q : VK), WOk K ca w mh → Rp K w x d → Rp K w y e → Post K ca W σ w (f d e mh) Q → r x y w.H Q

def mBin (f : DOp) (ma mb : Env → M D) : Env → M D := fun env => M.bind (ma env) fun x => M.bind (mb env) fun y => f x y

section
variable {X : Cx} {ca : CA} {W : WX} {a b : Expr} {ma mb : Env → M D} {r : R2} {f : DOp} {pos : Pos}
theorem tOp_of (hf : OpM X.K ca r f) {σ : St} {H : Hp} {Q : VK} (h : denG (repV X.K) X.K ca W (mBin f ma mb) σ H Q) : tOp r (denG (repV X.K) X.K ca W ma) (denG (repV X.K) X.K ca W mb) σ H Q := by
  obtain ⟨w, mh, env, e, hw, hfr, hp⟩ := h
  subst e
  refine stepG hw hfr hp fun w1 mh1 v1 d1 x1 hw1 hf1 r1 hp1 => ?_
  refine stepG hw1 hf1 hp1 fun w2 mh2 v2 d2 x2 hw2 hf2 r2 hp2 => ?_
  exact hf W σ w2 mh2 v1 v2 d1 d2 Q hw2 (x2.rp r1) r2 hp2
theorem me_op {op : Operator} (ho : OpR X (binaryOp op) r) (hf : OpM X.K ca r f) (ha : ME X ca W a ma) (hb : ME X ca W b mb) : ME X ca W (.BinOp a op b pos) (mBin f ma mb) :=
  PE.mono (pe_op ho ha hb) fun _ _ _ h => tOp_of hf h
theorem me_cmp {op : CmpOp} (ho : OpR X (compareOp op) r) (hf : OpM X.K ca r f) (ha : ME X ca W a ma) (hb : ME X ca W b mb) (hm : behindInMarks op b = false) : ME X ca W (.Compare a [op] [b] pos) (mBin f ma mb) :=
  PE.mono (pe_cmpR ho ha hb hm) fun _ _ _ h => tOp_of hf h
end

/-! what an op gives where it raises nothing -/
section
variable {K : PySem.W.Frag} {ca : CA}
theorem OpM.or {r r' : R2} {f g : DOp} (c : D → D → Bool) (h : OpM K ca r f) (h' : OpM K ca r' g) : OpM K ca (fun x y H Q => r x y H Q ∨ r' x y H Q) (fun d e => if c d e = true then f d e else g d e) := by
  intro W σ w mh x y d e Q hw rx ry hp
  by_cases q : c d e = true
  · simp only [q, if_true] at hp; exact .inl (h W σ w mh x y d e Q hw rx ry hp)
  · simp only [q, if_false] at hp; exact .inr (h' W σ w mh x y d e Q hw rx ry hp)
theorem opm_int {g : Int → Int → V} {g' : Int → Int → D} (hg : ∀ K w i j, Rp K w (g i j) (g' i j)) : OpM K ca (rI0 g) (fun d e => match d, e with | .int i, .int j => M.pure (g' i j) | _, _ => M.bad) := by
  intro W σ w mh x y d e Q hw rx ry hp
  cases rx <;> cases ry <;> first | exact hp.elim | skip
  exact ⟨_, _, rfl, rfl, PostG.ret hp hw (hg _ _ _ _)⟩
theorem opm_intC {C : Int → Int → Prop} {c : Int → Int → Bool} {g : Int → Int → V} {g' : Int → Int → D} (hc : ∀ i j, c i j = true → C i j) (hg : ∀ K w i j, Rp K w (g i j) (g' i j)) :
    OpM K ca (rI C g) (fun d e => match d, e with | .int i, .int j => if c i j = true then M.pure (g' i j) else M.bad | _, _ => M.bad) := by
  intro W σ w mh x y d e Q hw rx ry hp
  cases rx <;> cases ry <;> first | exact hp.elim | skip
  rename_i i j
  by_cases q : c i j = true
  · simp only [q, if_true] at hp; exact ⟨_, _, rfl, rfl, hc _ _ q, PostG.ret hp hw (hg _ _ _ _)⟩
  · simp only [q] at hp; exact hp.elim
end
end AG
/-! AgC: expressions. -/
namespace AG
open PySem L2

theorem sizeLine_lit : sizeLine = 16777216 := sizeLine_eq
def BIG : Nat := 2 ^ 60000
theorem BIG_of {n k : Nat} (h : n < 2 ^ k) (hk : k ≤ 60000) : n < BIG := Nat.lt_of_lt_of_le h (Nat.pow_le_pow_right (by decide) hk)
def mulOk (i j : Int) : Bool := decide (i.natAbs < BIG) && decide (j.natAbs < BIG)
theorem mulOk_x {i j : Int} (h : mulOk i j = true) : CMulX i j := by
  unfold mulOk at h
  simp only [Bool.and_eq_true, decide_eq_true_eq] at h
  exact mulx_ok (a := 60000) (b := 60000) h.1 h.2 (by decide)

/-! ### operators -/
def opAdd : DOp := fun d e => match d, e with
  | .int i, .int j => M.pure (.int (i + j))
  | .str s, .str t => if s.length + t.length ≤ 16777216 then M.pure (.str (s ++ t)) else M.bad
  | .tup xs, .tup ys => if xs.length + ys.length ≤ 16777216 then M.pure (.tup (xs ++ ys)) else M.bad
  | .lst xs, .lst ys => if xs.length + ys.length ≤ 16777216 then M.pure (.lst (xs ++ ys)) else M.bad
  | _, _ => M.bad
def opSub : DOp := fun d e => match d, e with
  | .int i, .int j => M.pure (.int (i - j))
  | _, _ => M.bad
def opMul : DOp := fun d e => match d, e with
  | .int i, .int j => if mulOk i j = true then M.pure (.int (i * j)) else M.bad
  | .lst xs, .int k => if 0 ≤ k ∧ k < 1000000 ∧ xs.length * k.toNat ≤ 16777216 then M.pure (.lst (List.replicate k.toNat xs).flatten) else M.bad
  | _, _ => M.bad
def opDiv : DOp := fun d e => match d, e with
  | .int i, .int j => if 0 < j ∧ j.natAbs.log2 < 9000 then M.pure (.int (i / j)) else M.bad
  | _, _ => M.bad
def opMod : DOp := fun d e => match d, e with
  | .int i, .int j => if 0 < j then M.pure (.int (i % j)) else M.bad
  | _, _ => M.bad
def opPow : DOp := fun d e => match d, e with
  | .int i, .int j => if 0 ≤ j ∧ j ≤ 1000000 ∧ i.natAbs < 18446744073709551616 then M.pure (.int (i ^ j.toNat)) else M.bad
  | _, _ => M.bad
def opEq : DOp := fun d e => match d, e with
  | .int i, .int j => M.pure (.bl (decide (i = j)))
  | d, e => if D.sm 60 d && D.sm 60 e then M.pure (.bl (D.eqv d e)) else M.bad
def opNe : DOp := fun d e => match d, e with
  | .int i, .int j => M.pure (.bl (!decide (i = j)))
  | d, e => if D.sm 60 d && D.sm 60 e then M.pure (.bl (!D.eqv d e)) else M.bad
def cmpOk (d e : D) : Bool := D.sm 60 d && D.sm 60 e && D.alike d e && !d.isNon
def opLt : DOp := fun d e => match d, e with
  | .int i, .int j => M.pure (.bl (decide (i < j)))
  | d, e => if cmpOk d e then M.pure (.bl (D.lt d e)) else M.bad
def opGt : DOp := fun d e => match d, e with
  | .int i, .int j => M.pure (.bl (decide (j < i)))
  | d, e => if cmpOk d e then M.pure (.bl (D.lt e d)) else M.bad
def opLe : DOp := fun d e => match d, e with
  | .int i, .int j => M.pure (.bl (decide (i ≤ j)))
  | d, e => if cmpOk d e then M.pure (.bl (!D.lt e d)) else M.bad
def opGe : DOp := fun d e => match d, e with
  | .int i, .int j => M.pure (.bl (decide (j ≤ i)))
  | d, e => if cmpOk d e then M.pure (.bl (!D.lt d e)) else M.bad
def D.items : D → Option (List D)
  | .lst xs => some xs
  | .tup xs => some xs
  | _ => none
def opIn (g : Bool → Bool) : DOp := fun d e => match e with
  | .lst xs => if D.sm 60 d && D.sm 60 e then M.pure (.bl (g (xs.any fun z => D.eqv z d))) else M.bad
  | .tup xs => if D.sm 60 d && D.sm 60 e then M.pure (.bl (g (xs.any fun z => D.eqv z d))) else M.bad
  | _ => M.bad
/-- x is y, y None or a truth -/
def opIs (g : Bool → Bool) : DOp := fun d e => match e with
  | .non => match d with
    | .non => M.pure (.bl (g true))
    | _ => M.pure (.bl (g false))
  | .bl b => match d with
    | .bl c => M.pure (.bl (g (decide (c = b))))
    | _ => M.bad
  | _ => M.bad
def opIx : DOp := fun d e => match d, e with
  | .tup xs, .int i => match atI xs i with | some x => M.pure x | none => M.bad
  | .lst xs, .int i => match atI xs i with | some x => M.pure x | none => M.bad
  | .str s, .int i => match atI s.cps.toList i with | some c => if s.length ≤ 16777216 then M.pure (.str ⟨#[c]⟩) else M.bad | none => M.bad
  | .scr ns, .int i => match atI ns i with | some x => M.pure (.int x) | none => M.bad
  | .ref n, .int i => fun h => match h[n]? with
    | some (.lst xs) => match atI xs i with | some x => .ok x h | none => .bad
    | _ => .bad
  | _, _ => M.bad

section
variable {K : PySem.W.Frag} {ca : CA}
theorem sub_of {w : Wd} {mh : MH} (hw : WOk K ca w mh) : ∀ a o, w.F a = some o → w.H a = some o := hw.sub
theorem opm_add : OpM K ca (fun x y H Q => rI0 (fun i j => .int (i + j)) x y H Q ∨ (∃ i j, x = .str i ∧ y = .str j ∧ i.length + j.length ≤ sizeLine ∧ Q (.str (i ++ j)) H) ∨ rCatA K x y H Q ∨ rCat x y H Q) opAdd := by
  intro W σ w mh x y d e Q hw rx ry hp
  rw [sizeLine_lit]
  cases rx with
  | int i => cases ry with
    | int j => exact .inl ⟨_, _, rfl, rfl, PostG.ret hp hw (.int _)⟩
    | _ => exact hp.elim
  | str i => cases ry with
    | str j =>
      by_cases q : i.length + j.length ≤ 16777216
      · simp only [opAdd, q, if_true] at hp
        exact .inr (.inl ⟨_, _, rfl, rfl, q, PostG.ret hp hw (.str _)⟩)
      · simp only [opAdd, q, if_false] at hp; exact hp.elim
    | _ => exact hp.elim
  | tup h1 r1 => cases ry with
    | tup h2 r2 =>
      rename_i a xs ds b ys es
      by_cases q : ds.length + es.length ≤ 16777216
      · simp only [opAdd, q, if_true] at hp
        have hr := r1.append r2
        refine .inr (.inr (.inl ⟨a, b, xs, ys, rfl, rfl, sqT_sub hw.sub h1, sqT_sub hw.sub h2, by rw [r1.length, r2.length, sizeLine_lit]; exact q, fun e => ?_, fun _ e => ?_, fun _ _ => PostG.tup hp hw hr⟩))
        · subst e; cases r1; exact PostG.ret hp hw (.tup h2 r2)
        · subst e; cases r2; exact PostG.ret hp hw (by rw [List.append_nil]; exact .tup h1 r1)
      · simp only [opAdd, q, if_false] at hp; exact hp.elim
    | _ => exact hp.elim
  | lst h1 r1 => cases ry with
    | lst h2 r2 =>
      rename_i a xs ds b ys es
      by_cases q : ds.length + es.length ≤ 16777216
      · simp only [opAdd, q, if_true] at hp
        exact .inr (.inr (.inr ⟨a, b, xs, ys, rfl, rfl, hw.subL _ _ h1, hw.subL _ _ h2, by rw [r1.length, r2.length, sizeLine_lit]; exact q, PostG.lst hp hw (r1.append r2)⟩))
      · simp only [opAdd, q, if_false] at hp; exact hp.elim
    | _ => exact hp.elim
  | _ => exact hp.elim
theorem opm_sub : OpM K ca (rI0 fun i j => .int (i - j)) opSub := opm_int fun _ _ _ _ => .int _
theorem RpAll.repl {w : Wd} {vs : List V} {ds : List D} (h : RpAll K w vs ds) : ∀ n : Nat, RpAll K w (List.replicate n vs).flatten (List.replicate n ds).flatten
  | 0 => .nil
  | n + 1 => by rw [List.replicate_succ, List.replicate_succ, List.flatten_cons, List.flatten_cons]; exact h.append (RpAll.repl h n)
theorem opm_mul : OpM K ca (fun x y H Q => rI CMulX (fun i j => .int (i * j)) x y H Q ∨ rRep x y H Q) opMul := by
  intro W σ w mh x y d e Q hw rx ry hp
  cases rx with
  | int i => cases ry with
    | int j =>
      by_cases q : mulOk i j = true
      · simp only [opMul, q, if_true] at hp; exact .inl ⟨_, _, rfl, rfl, mulOk_x q, PostG.ret hp hw (.int _)⟩
      · simp only [opMul, q] at hp; exact hp.elim
    | _ => exact hp.elim
  | lst h1 r1 => cases ry with
    | int j =>
      rename_i a xs ds
      by_cases q : 0 ≤ j ∧ j < 1000000 ∧ ds.length * j.toNat ≤ 16777216
      · simp only [opMul, q, if_true] at hp
        exact .inr ⟨a, j, xs, rfl, rfl, hw.subL _ _ h1, by omega, by omega, by rw [r1.length, sizeLine_lit]; exact q.2.2, PostG.lst hp hw (r1.repl _)⟩
      · simp only [opMul, q, if_false] at hp; exact hp.elim
    | _ => exact hp.elim
  | _ => cases ry <;> exact hp.elim
theorem opm_div : OpM K ca (rI CDivW fun i j => .int (i / j)) opDiv := by
  intro W σ w mh x y d e Q hw rx ry hp
  cases rx <;> cases ry <;> first | exact hp.elim | skip
  rename_i i j
  by_cases q : 0 < j ∧ j.natAbs.log2 < 9000
  · simp only [opDiv, q, if_true] at hp; exact ⟨_, _, rfl, rfl, q, PostG.ret hp hw (.int _)⟩
  · simp only [opDiv, q, if_false] at hp; exact hp.elim
theorem opm_mod : OpM K ca (rI (fun _ j => 0 < j) fun i j => .int (i % j)) opMod := by
  intro W σ w mh x y d e Q hw rx ry hp
  cases rx <;> cases ry <;> first | exact hp.elim | skip
  rename_i i j
  by_cases q : 0 < j
  · simp only [opMod, q, if_true] at hp; exact ⟨_, _, rfl, rfl, q, PostG.ret hp hw (.int _)⟩
  · simp only [opMod, q, if_false] at hp; exact hp.elim
theorem sm2 {d e : D} (h : (D.sm 60 d && D.sm 60 e) = true) : D.sm 60 d = true ∧ D.sm 60 e = true := by simpa using h
theorem sm64 {d : D} (h : D.sm 60 d = true) : d.toPy.depth ≤ 64 := Nat.le_trans (sm_depth h) (by decide)
theorem eq2_of {g : Bool → Bool} {W : WX} {σ : St} {w : Wd} {mh : MH} {x y : V} {d e : D} {Q : VK} (hw : WOk K ca w mh) (rx : Rp K w x d) (ry : Rp K w y e)
    (hp : Post K ca W σ w ((if D.sm 60 d && D.sm 60 e then M.pure (.bl (g (D.eqv d e))) else M.bad : M D) mh) Q) : rEq2 K g x y w.H Q := by
  by_cases q : (D.sm 60 d && D.sm 60 e) = true
  · rw [if_pos q] at hp
    exact ⟨_, _, rx.dp hw.subs (sm2 q).1, ry.dp hw.subs (sm2 q).2, plain_toPy _, plain_toPy _, sm64 (sm2 q).1, PostG.ret hp hw (.bl _)⟩
  · rw [if_neg q] at hp; exact hp.elim
theorem eqv_int (i j : Int) : D.eqv (.int i) (.int j) = decide (i = j) := by
  simp only [D.eqv, D.toPy, PyData.eqv]
  exact Bool.beq_eq_decide_eq i j
theorem opm_eq : OpM K ca (rEq2 K id) opEq := by
  intro W σ w mh x y d e Q hw rx ry hp
  refine eq2_of (W := W) (σ := σ) (mh := mh) hw rx ry ?_
  cases d <;> cases e <;> exact hp
theorem opm_ne : OpM K ca (rEq2 K not) opNe := by
  intro W σ w mh x y d e Q hw rx ry hp
  refine eq2_of (W := W) (σ := σ) (mh := mh) hw rx ry ?_
  cases d <;> cases e <;> exact hp
theorem cmpOk_of {d e : D} (h : cmpOk d e = true) : D.sm 60 d = true ∧ D.sm 60 e = true ∧ D.alike d e = true ∧ d.isNon = false := by
  simp only [cmpOk, Bool.and_eq_true, Bool.not_eq_true'] at h
  exact ⟨h.1.1.1, h.1.1.2, h.1.2, h.2⟩
theorem cm2_of {g : PyData → PyData → Bool} {W : WX} {σ : St} {w : Wd} {mh : MH} {x y : V} {d e : D} {Q : VK} (hw : WOk K ca w mh) (rx : Rp K w x d) (ry : Rp K w y e)
    (hp : Post K ca W σ w ((if cmpOk d e then M.pure (.bl (g d.toPy e.toPy)) else M.bad : M D) mh) Q) : rCm2 K g x y w.H Q := by
  by_cases q : cmpOk d e = true
  · rw [if_pos q] at hp
    obtain ⟨q1, q2, q3, q4⟩ := cmpOk_of q
    exact ⟨_, _, rx.dp hw.subs q1, ry.dp hw.subs q2, q3, ne_none q4, sm64 q1, PostG.ret hp hw (.bl _)⟩
  · rw [if_neg q] at hp; exact hp.elim
theorem cmpOk_int (i j : Int) : cmpOk (.int i) (.int j) = true := by
  simp [cmpOk, D.sm, D.alike, D.toPy, PySem.W.alike, D.isNon]
theorem not_lt (i j : Int) : (!decide (i < j)) = decide (j ≤ i) := by
  by_cases h : i < j
  · rw [decide_eq_true h, decide_eq_false (by omega)]; rfl
  · rw [decide_eq_false h, decide_eq_true (by omega)]; rfl
theorem opm_lt : OpM K ca (rCm2 K fun d e => PySem.W.dataLt d e) opLt := by
  intro W σ w mh x y d e Q hw rx ry hp
  refine cm2_of (W := W) (σ := σ) (mh := mh) hw rx ry ?_
  cases d <;> cases e <;> first | exact hp | skip
  rename_i i j
  rw [if_pos (cmpOk_int i j)]; simp only [D.toPy, PySem.W.dataLt_int]; exact hp
theorem opm_gt : OpM K ca (rCm2 K fun d e => PySem.W.dataLt e d) opGt := by
  intro W σ w mh x y d e Q hw rx ry hp
  refine cm2_of (W := W) (σ := σ) (mh := mh) hw rx ry ?_
  cases d <;> cases e <;> first | exact hp | skip
  rename_i i j
  rw [if_pos (cmpOk_int i j)]; simp only [D.toPy, PySem.W.dataLt_int]; exact hp
theorem opm_le : OpM K ca (rCm2 K fun d e => !PySem.W.dataLt e d) opLe := by
  intro W σ w mh x y d e Q hw rx ry hp
  refine cm2_of (W := W) (σ := σ) (mh := mh) hw rx ry ?_
  cases d <;> cases e <;> first | exact hp | skip
  rename_i i j
  rw [if_pos (cmpOk_int i j)]; simp only [D.toPy, PySem.W.dataLt_int, not_lt]; exact hp
theorem opm_ge : OpM K ca (rCm2 K fun d e => !PySem.W.dataLt d e) opGe := by
  intro W σ w mh x y d e Q hw rx ry hp
  refine cm2_of (W := W) (σ := σ) (mh := mh) hw rx ry ?_
  cases d <;> cases e <;> first | exact hp | skip
  rename_i i j
  rw [if_pos (cmpOk_int i j)]; simp only [D.toPy, PySem.W.dataLt_int, not_lt]; exact hp
theorem any_toPys (xs : List D) (d : D) : (D.toPys xs).any (fun z => PyData.eqv z d.toPy) = xs.any fun z => D.eqv z d := by
  rw [D.toPys_map, List.any_map]; rfl
theorem opm_in {g : Bool → Bool} : OpM K ca (rIn2 K g) (opIn g) := by
  intro W σ w mh x y d e Q hw rx ry hp
  cases e <;> first | exact hp.elim | skip
  · rename_i xs
    by_cases q : (D.sm 60 d && D.sm 60 (.tup xs)) = true
    · simp only [opIn, q, if_true] at hp
      refine ⟨_, _, rx.dp hw.subs (sm2 q).1, .inr (ry.dp hw.subs (sm2 q).2), plain_toPy _, plainAll_toPy _, sm64 (sm2 q).1, ?_⟩
      rw [any_toPys]
      exact PostG.ret hp hw (.bl _)
    · simp only [opIn, q] at hp; exact hp.elim
  · rename_i xs
    by_cases q : (D.sm 60 d && D.sm 60 (.lst xs)) = true
    · simp only [opIn, q, if_true] at hp
      refine ⟨_, _, rx.dp hw.subs (sm2 q).1, .inl (ry.dp hw.subs (sm2 q).2), plain_toPy _, plainAll_toPy _, sm64 (sm2 q).1, ?_⟩
      rw [any_toPys]
      exact PostG.ret hp hw (.bl _)
    · simp only [opIn, q] at hp; exact hp.elim
theorem opm_is : OpM K ca (fun x y H Q => rIsN x y H Q ∨ (∃ a b, x = .bl a ∧ y = .bl b ∧ Q (.bl (decide (a = b))) H)) (opIs id) := by
  intro W σ w mh x y d e Q hw rx ry hp
  cases ry <;> first | exact hp.elim | skip
  · refine .inl ⟨rfl, ?_⟩
    cases rx <;> exact PostG.ret hp hw (.bl _)
  · cases rx <;> first | exact hp.elim | skip
    exact .inr ⟨_, _, rfl, rfl, PostG.ret hp hw (.bl _)⟩
theorem opm_isnot : OpM K ca (fun x y H Q => rNotN x y H Q ∨ (∃ a b, x = .bl a ∧ y = .bl b ∧ Q (.bl (!decide (a = b))) H)) (opIs not) := by
  intro W σ w mh x y d e Q hw rx ry hp
  cases ry <;> first | exact hp.elim | skip
  · refine .inl ⟨rfl, ?_⟩
    cases rx <;> exact PostG.ret hp hw (.bl _)
  · cases rx <;> first | exact hp.elim | skip
    exact .inr ⟨_, _, rfl, rfl, PostG.ret hp hw (.bl _)⟩
theorem RpAll.atI {w : Wd} {vs : List V} {ds : List D} (h : RpAll K w vs ds) {i : Int} {d : D} (e : L2.atI ds i = some d) : ∃ v, L2.atI vs i = some v ∧ Rp K w v d := by
  unfold L2.atI at e ⊢
  rw [h.length]
  cases q : ixN ds.length i with
  | none => rw [q] at e; cases e
  | some j => rw [q] at e; exact h.get e
theorem opm_ix : OpM K ca (rIx K) opIx := by
  intro W σ w mh x y d e Q hw rx ry hp
  cases rx with
  | tup h r => cases ry with
    | int i =>
      rename_i a xs ds
      cases q : L2.atI ds i with
      | none => simp only [opIx, q] at hp; exact hp.elim
      | some z =>
        simp only [opIx, q] at hp
        obtain ⟨v, e1, e2⟩ := r.atI q
        exact .inr (.inl ⟨a, xs, i, v, rfl, rfl, sqT_sub hw.sub h, e1, PostG.ret hp hw e2⟩)
    | _ => exact hp.elim
  | lst h r => cases ry with
    | int i =>
      rename_i a xs ds
      cases q : L2.atI ds i with
      | none => simp only [opIx, q] at hp; exact hp.elim
      | some z =>
        simp only [opIx, q] at hp
        obtain ⟨v, e1, e2⟩ := r.atI q
        exact .inl ⟨a, xs, i, v, rfl, rfl, .of (hw.subL _ _ h), e1, PostG.ret hp hw e2⟩
    | _ => exact hp.elim
  | str s => cases ry with
    | int i =>
      cases q : L2.atI s.cps.toList i with
      | none => simp only [opIx, q] at hp; exact hp.elim
      | some z =>
        by_cases l : s.length ≤ 16777216
        · simp only [opIx, q, l, if_true] at hp
          exact .inr (.inr ⟨s, i, z, rfl, rfl, by rw [sizeLine_lit]; exact l, q, PostG.ret hp hw (.str _)⟩)
        · simp only [opIx, q, l, if_false] at hp; exact hp.elim
    | _ => exact hp.elim
  | scr h l => cases ry with
    | int i =>
      rename_i a ns
      cases q : L2.atI ns i with
      | none => simp only [opIx, q] at hp; exact hp.elim
      | some z =>
        simp only [opIx, q] at hp
        have q' : L2.atI (ns.map V.int) i = some (.int z) := by
          unfold L2.atI at q ⊢
          rw [List.length_map]
          cases r : ixN ns.length i with
          | none => rw [r] at q; cases q
          | some j =>
            rw [r] at q
            have q : ns[j]? = some z := q
            show (ns.map V.int)[j]? = _
            rw [List.getElem?_map, q]
            rfl
        exact .inl ⟨a, _, i, _, rfl, rfl, sqL_mono hw.sub h, q', PostG.ret hp hw (.int _)⟩
    | _ => exact hp.elim
  | ref h => cases ry with
    | int i =>
      obtain ⟨mo, e1, _, _, ho⟩ := hw.at h
      cases mo with
      | lst ds =>
        obtain ⟨vs, hH, rr⟩ := ho
        cases q : L2.atI ds i with
        | none => simp only [opIx, e1, q] at hp; exact hp.elim
        | some z =>
          simp only [opIx, e1, q] at hp
          obtain ⟨v, e2, e3⟩ := rr.atI q
          exact .inl ⟨_, vs, i, v, rfl, rfl, .of hH, e2, PostG.ret hp hw e3⟩
      | _ => simp only [opIx, e1] at hp; exact hp.elim
    | _ => exact hp.elim
  | _ => cases ry <;> exact hp.elim
end

section
variable {X : Cx} {ca : CA} {W : WX} {a b : Expr} {ma mb : Env → M D} {pos : Pos}
theorem me_add (ha : ME X ca W a ma) (hb : ME X ca W b mb) : ME X ca W (.BinOp a .Add b pos) (mBin opAdd ma mb) := me_op (OpR.or op_add (OpR.or op_add_str (OpR.or op_catA op_cat))) opm_add ha hb
theorem me_sub (ha : ME X ca W a ma) (hb : ME X ca W b mb) : ME X ca W (.BinOp a .Sub b pos) (mBin opSub ma mb) := me_op op_sub opm_sub ha hb
theorem me_mul (ha : ME X ca W a ma) (hb : ME X ca W b mb) : ME X ca W (.BinOp a .Mult b pos) (mBin opMul ma mb) := me_op (OpR.or op_mulX op_rep) opm_mul ha hb
theorem me_div (ha : ME X ca W a ma) (hb : ME X ca W b mb) : ME X ca W (.BinOp a .FloorDiv b pos) (mBin opDiv ma mb) := me_op op_fdivW opm_div ha hb
theorem me_mod (ha : ME X ca W a ma) (hb : ME X ca W b mb) : ME X ca W (.BinOp a .Mod b pos) (mBin opMod ma mb) := me_op op_mod opm_mod ha hb
theorem hu64 {k : Nat} {A : Around} (r : Room k A) : A.units + 64 < cLine := by have := r.un; omega
theorem hu66 {k : Nat} {A : Around} (r : Room k A) : A.units + 66 < cLine := by have := r.un; omega
theorem me_eq {k : Nat} (hr : Room k X.A) (ha : ME X ca W a ma) (hb : ME X ca W b mb) : ME X ca W (.Compare a [.Eq] [b] pos) (mBin opEq ma mb) := me_cmp (op_eq2 (hu64 hr)) opm_eq ha hb (nomark _)
theorem me_ne {k : Nat} (hr : Room k X.A) (ha : ME X ca W a ma) (hb : ME X ca W b mb) : ME X ca W (.Compare a [.NotEq] [b] pos) (mBin opNe ma mb) := me_cmp (op_ne2 (hu64 hr)) opm_ne ha hb (nomark _)
theorem me_lt {k : Nat} (hr : Room k X.A) (ha : ME X ca W a ma) (hb : ME X ca W b mb) : ME X ca W (.Compare a [.Lt] [b] pos) (mBin opLt ma mb) := me_cmp (op_lt2 (hu64 hr)) opm_lt ha hb (nomark _)
theorem me_gt {k : Nat} (hr : Room k X.A) (ha : ME X ca W a ma) (hb : ME X ca W b mb) : ME X ca W (.Compare a [.Gt] [b] pos) (mBin opGt ma mb) := me_cmp (op_gt2 (hu64 hr)) opm_gt ha hb (nomark _)
theorem me_le {k : Nat} (hr : Room k X.A) (ha : ME X ca W a ma) (hb : ME X ca W b mb) : ME X ca W (.Compare a [.LtE] [b] pos) (mBin opLe ma mb) := me_cmp (op_le2 (hu64 hr)) opm_le ha hb (nomark _)
theorem me_ge {k : Nat} (hr : Room k X.A) (ha : ME X ca W a ma) (hb : ME X ca W b mb) : ME X ca W (.Compare a [.GtE] [b] pos) (mBin opGe ma mb) := me_cmp (op_ge2 (hu64 hr)) opm_ge ha hb (nomark _)
theorem me_in {k : Nat} (hr : Room k X.A) (ha : ME X ca W a ma) (hb : ME X ca W b mb) (hm : behindInMarks .In b = false := by rfl) : ME X ca W (.Compare a [.In] [b] pos) (mBin (opIn id) ma mb) := me_cmp (op_in2 (hu66 hr)) opm_in ha hb hm
theorem me_nin {k : Nat} (hr : Room k X.A) (ha : ME X ca W a ma) (hb : ME X ca W b mb) (hm : behindInMarks .NotIn b = false := by rfl) : ME X ca W (.Compare a [.NotIn] [b] pos) (mBin (opIn not) ma mb) := me_cmp (op_nin2 (hu66 hr)) opm_in ha hb hm
theorem me_is (ha : ME X ca W a ma) (hb : ME X ca W b mb) : ME X ca W (.Compare a [.Is] [b] pos) (mBin (opIs id) ma mb) := me_cmp (OpR.or op_isN1 op_is_bl) opm_is ha hb (nomark _)
theorem me_isnot (ha : ME X ca W a ma) (hb : ME X ca W b mb) : ME X ca W (.Compare a [.IsNot] [b] pos) (mBin (opIs not) ma mb) := me_cmp (OpR.or op_notN1 op_isnot_bl) opm_isnot ha hb (nomark _)
theorem me_ix (ha : ME X ca W a ma) (hb : ME X ca W b mb) (hs : PlainIx b) : ME X ca W (.Subscript a b pos) (mBin opIx ma mb) :=
  PE.mono (pe_ix ix_seq ha hb hs) fun _ _ _ h => tOp_of opm_ix h
end
end AG
/-! AgD: names, tests, displays, slices, built-in calls. -/
namespace AG
open PySem L2

def mVar (i : Nat) : Env → M D := fun env => match env[i]? with | some (.v d) => M.pure d | _ => M.bad
def mC (d : D) : Env → M D := fun _ => M.pure d
def D.truth : D → Option Bool
  | .non => some false
  | .bl b => some b
  | .int i => some (i != 0)
  | .str s => if s.length ≤ 16777216 then some ((s.length : Int) != 0) else none
  | .tup xs => some (!xs.isEmpty)
  | .lst xs => some (!xs.isEmpty)
  | .ref _ => none
  | .scr _ => none
def truthM (d : D) : M Bool := match d.truth with | some b => M.pure b | none => M.bad
def mTruth (m : Env → M D) : Env → M Bool := fun env => M.bind (m env) truthM
def blM (d : D) : M Bool := match d with | .bl b => M.pure b | _ => M.bad
def mTest (m : Env → M D) : Env → M Bool := fun env => M.bind (m env) blM
def mAndT (a b : Env → M Bool) : Env → M Bool := fun env => M.bind (a env) fun c => if c = true then b env else M.pure false
def mOrT (a b : Env → M Bool) : Env → M Bool := fun env => M.bind (a env) fun c => if c = true then M.pure true else b env
def mNotT (a : Env → M Bool) : Env → M Bool := fun env => M.bind (a env) fun c => M.pure (!c)
def mAndV (a b : Env → M D) : Env → M D := fun env => M.bind (a env) fun d => M.bind (truthM d) fun c => if c = true then b env else M.pure d
def mOrV (a b : Env → M D) : Env → M D := fun env => M.bind (a env) fun d => M.bind (truthM d) fun c => if c = true then M.pure d else b env
def mNotV (a : Env → M D) : Env → M D := fun env => M.bind (a env) fun d => M.bind (truthM d) fun c => M.pure (.bl (!c))
def mIfE (t : Env → M Bool) (a b : Env → M D) : Env → M D := fun env => M.bind (t env) fun c => if c = true then a env else b env
def mNil : Env → M (List D) := fun _ => M.pure []
def mCons (m : Env → M D) (ms : Env → M (List D)) : Env → M (List D) := fun env => M.bind (m env) fun x => M.bind (ms env) fun xs => M.pure (x :: xs)
def mTup (ms : Env → M (List D)) : Env → M D := fun env => M.bind (ms env) fun xs => if xs.length ≤ 16777216 then M.pure (.tup xs) else M.bad
def mLst (ms : Env → M (List D)) : Env → M D := fun env => M.bind (ms env) fun xs => if xs.length ≤ 16777216 then M.pure (.lst xs) else M.bad
def mUn (f : D → M D) (a : Env → M D) : Env → M D := fun env => M.bind (a env) f
def opNeg : D → M D := fun d => match d with | .int i => M.pure (.int (-i)) | _ => M.bad

section
variable {X : Cx} {ca : CA} {W : WX} {a b c e : Expr} {es rest : List Expr} {ma mb : Env → M D} {mt mu : Env → M Bool} {ms : Env → M (List D)} {pos : Pos}
theorem me_var (i : Nat) {x : Str} (hN : X.N[i]? = some x := by rfl) (hv : Vis X.env.scope x := by first | exact Or.inl rfl | exact Or.inr (Or.inl rfl) | exact Or.inr (Or.inr rfl)) (hd : (x == ("__debug__" : Str)) = false := by decide)
    (hcd : (x == ("__classdict__" : Str)) = false := by decide) : ME X ca W (.Name x pos) (mVar i) := PE.mono (pe_var hN hv hd hcd) fun σ H Q h => by
  obtain ⟨w, mh, env, rfl, hw, hf, hp⟩ := h
  cases e : env[i]? with
  | none => simp only [mVar, e] at hp; exact hp.elim
  | some sl =>
    cases sl with
    | v d =>
      simp only [mVar, e] at hp
      obtain ⟨v, e1, r⟩ := hf.v i d e
      exact ⟨v, e1, PostG.ret hp hw r⟩
    | _ => simp only [mVar, e] at hp; exact hp.elim
theorem me_const {d : D} {v : V} (h : PE X e (tC v)) (hd : ∀ w, Rp X.K w v d) : ME X ca W e (mC d) := PE.mono h fun σ H Q q => by
  obtain ⟨w, mh, env, rfl, hw, hf, hp⟩ := q
  exact PostG.ret hp hw (hd _)
theorem me_int {i : Int} {j pos} : ME X ca W (.Constant (.int i) j pos) (mC (.int i)) := me_const pe_int fun _ => .int i
theorem me_bl {b : Bool} {j pos} : ME X ca W (.Constant (.bool b) j pos) (mC (.bl b)) := me_const pe_bl fun _ => .bl b
theorem me_non {j pos} : ME X ca W (.Constant .none j pos) (mC .non) := me_const pe_non fun _ => .non
theorem me_str {x : Str} {j pos} : ME X ca W (.Constant (.str x) j pos) (mC (.str x)) := me_const pe_str fun _ => .str x
/-- a module's constant -/
structure GC (K : PySem.W.Frag) (mg : Str → Option Value) (x : Str) (d : D) : Prop where
  ex : ∃ (v : V) (u : Value), mg x = some u ∧ RelV v u ∧ ∀ w, Rp K w v d
theorem me_glob {x : Str} {d : D} (h : GC X.K X.mg x d) (hg : Gl X x := by rfl) (hd : (x == ("__debug__" : Str)) = false := by decide) : ME X ca W (.Name x pos) (mC d) := by
  obtain ⟨v, u, hm, r, hp⟩ := h.ex
  exact me_const (pe_glob hg hm r hd) hp

theorem truV_of {K : PySem.W.Frag} {w : Wd} (hs : Subs w) {v : V} {d : D} {k : Bool} (r : Rp K w v d) (h : d.truth = some k) : TruV K v w.H k := by
  cases r with
  | non => exact (Option.some.inj h).symm
  | bl b => exact (Option.some.inj h).symm
  | int i => exact (Option.some.inj h).symm
  | str s =>
    simp only [D.truth] at h
    split at h
    · rename_i q
      exact ⟨by rw [sizeLine_lit]; exact q, (Option.some.inj h).symm⟩
    · cases h
  | tup q r => 
    have e : (!(_ : List D).isEmpty) = k := Option.some.inj h
    refine .inr (.inl ⟨_, sqT_sub hs.f q, ?_⟩)
    rw [← e]
    cases r <;> rfl
  | lst q r =>
    have e : (!(_ : List D).isEmpty) = k := Option.some.inj h
    refine .inl ⟨_, .of (hs.l _ _ q), ?_⟩
    rw [← e]
    cases r <;> rfl
  | ref q => cases h
  | scr q l => cases h
theorem truth_post {σ : St} {w : Wd} {mh : MH} {v : V} {d : D} {α β : Type} {rep : Wd → β → α → Prop} {f : Bool → M α} {Q : β → Hp → Prop} (hw : WOk X.K ca w mh) (r : Rp X.K w v d) (hp : PostG rep X.K ca W σ w (M.bind (truthM d) f mh) Q) :
    ∃ k, TruV X.K v w.H k ∧ PostG rep X.K ca W σ w (f k mh) Q := by
  unfold truthM at hp
  cases q : d.truth with
  | none => simp only [q] at hp; exact hp.elim
  | some k => simp only [q] at hp; exact ⟨k, truV_of hw.subs r q, hp⟩
theorem mt_truth (ha : ME X ca W a ma) (he : ∀ whole, isTrue a X.env whole = (do let v ← whole; standAt a.pos; holding [v] (truthy v)) := by intro _; rfl) : MT X ca W a (mTruth ma) :=
  PT.mono (pt_truth ha he) fun σ H Q h => by
    obtain ⟨w, mh, env, rfl, hw, hf, hp⟩ := h
    refine stepG hw hf hp fun w1 mh1 v1 d1 x1 hw1 hf1 r1 hp1 => ?_
    have hp1 : PostG repB X.K ca W σ w1 (M.bind (truthM d1) M.pure mh1) Q := by
      have : M.bind (truthM d1) M.pure mh1 = truthM d1 mh1 := by
        unfold truthM M.bind
        cases d1.truth <;> rfl
      rw [this]; exact hp1
    obtain ⟨k, tk, q⟩ := truth_post hw1 r1 hp1
    exact ⟨k, tk, PostG.ret q hw1 rfl⟩
theorem mt_cmp {op : CmpOp} {r : R2} {f : DOp} (ho : OpR X (compareOp op) r) (hf : OpM X.K ca r f) (ha : ME X ca W a ma) (hb : ME X ca W b mb) (hm : behindInMarks op b = false) : MT X ca W (.Compare a [op] [b] pos) (mTest (mBin f ma mb)) :=
  PT.mono (pt_cmpR ho ha hb hm) fun σ H Q h => by
    obtain ⟨w, mh, env, rfl, hw, hfr, hp⟩ := h
    refine tOp_of (X := X) (W := W) hf (stepG (rep := repV X.K) (ma := mBin f ma mb) hw hfr hp fun w1 mh1 v1 d1 x1 hw1 hf1 r1 hp1 => ?_)
    cases r1 <;> first | exact hp1.elim | skip
    exact ⟨_, rfl, PostG.ret hp1 hw1 rfl⟩
section
variable {k : Nat}
theorem mt_eq (hr : Room k X.A) (ha : ME X ca W a ma) (hb : ME X ca W b mb) : MT X ca W (.Compare a [.Eq] [b] pos) (mTest (mBin opEq ma mb)) := mt_cmp (op_eq2 (hu64 hr)) opm_eq ha hb (nomark _)
theorem mt_ne (hr : Room k X.A) (ha : ME X ca W a ma) (hb : ME X ca W b mb) : MT X ca W (.Compare a [.NotEq] [b] pos) (mTest (mBin opNe ma mb)) := mt_cmp (op_ne2 (hu64 hr)) opm_ne ha hb (nomark _)
theorem mt_lt (hr : Room k X.A) (ha : ME X ca W a ma) (hb : ME X ca W b mb) : MT X ca W (.Compare a [.Lt] [b] pos) (mTest (mBin opLt ma mb)) := mt_cmp (op_lt2 (hu64 hr)) opm_lt ha hb (nomark _)
theorem mt_gt (hr : Room k X.A) (ha : ME X ca W a ma) (hb : ME X ca W b mb) : MT X ca W (.Compare a [.Gt] [b] pos) (mTest (mBin opGt ma mb)) := mt_cmp (op_gt2 (hu64 hr)) opm_gt ha hb (nomark _)
theorem mt_le (hr : Room k X.A) (ha : ME X ca W a ma) (hb : ME X ca W b mb) : MT X ca W (.Compare a [.LtE] [b] pos) (mTest (mBin opLe ma mb)) := mt_cmp (op_le2 (hu64 hr)) opm_le ha hb (nomark _)
theorem mt_ge (hr : Room k X.A) (ha : ME X ca W a ma) (hb : ME X ca W b mb) : MT X ca W (.Compare a [.GtE] [b] pos) (mTest (mBin opGe ma mb)) := mt_cmp (op_ge2 (hu64 hr)) opm_ge ha hb (nomark _)
theorem mt_in (hr : Room k X.A) (ha : ME X ca W a ma) (hb : ME X ca W b mb) (hm : behindInMarks .In b = false := by rfl) : MT X ca W (.Compare a [.In] [b] pos) (mTest (mBin (opIn id) ma mb)) := mt_cmp (op_in2 (hu66 hr)) opm_in ha hb hm
theorem mt_nin (hr : Room k X.A) (ha : ME X ca W a ma) (hb : ME X ca W b mb) (hm : behindInMarks .NotIn b = false := by rfl) : MT X ca W (.Compare a [.NotIn] [b] pos) (mTest (mBin (opIn not) ma mb)) := mt_cmp (op_nin2 (hu66 hr)) opm_in ha hb hm
theorem mt_is (ha : ME X ca W a ma) (hb : ME X ca W b mb) : MT X ca W (.Compare a [.Is] [b] pos) (mTest (mBin (opIs id) ma mb)) := mt_cmp (OpR.or op_isN1 op_is_bl) opm_is ha hb (nomark _)
theorem mt_isnot (ha : ME X ca W a ma) (hb : ME X ca W b mb) : MT X ca W (.Compare a [.IsNot] [b] pos) (mTest (mBin (opIs not) ma mb)) := mt_cmp (OpR.or op_notN1 op_isnot_bl) opm_isnot ha hb (nomark _)
end
theorem mw_pt (h : MW X ca W a mt) : MT X ca W a mt := h.pt
theorem mw_and1 (ha : MT X ca W a mt) : MW X ca W (.BoolOp .And [a] pos) mt := pw_and1 ha
theorem mw_or1 (ha : MT X ca W a mt) : MW X ca W (.BoolOp .Or [a] pos) mt := pw_or1 ha
theorem mw_and (ha : MT X ca W a mt) (hb : MW X ca W (.BoolOp .And (b :: rest) pos) mu) : MW X ca W (.BoolOp .And (a :: b :: rest) pos) (mAndT mt mu) :=
  PW.mono (pw_and ha hb) fun σ H Q h => by
    obtain ⟨w, mh, env, rfl, hw, hf, hp⟩ := h
    refine stepG (rep := repB) hw hf hp fun w1 mh1 v1 d1 x1 hw1 hf1 r1 hp1 => ?_
    have r1 : v1 = d1 := r1
    subst r1
    cases v1 with
    | true => exact iteT ⟨w1, mh1, env, rfl, hw1, hf1, hp1⟩
    | false => exact iteF (PostG.ret hp1 hw1 rfl)
theorem mw_or (ha : MT X ca W a mt) (hb : MW X ca W (.BoolOp .Or (b :: rest) pos) mu) : MW X ca W (.BoolOp .Or (a :: b :: rest) pos) (mOrT mt mu) :=
  PW.mono (pw_or ha hb) fun σ H Q h => by
    obtain ⟨w, mh, env, rfl, hw, hf, hp⟩ := h
    refine stepG (rep := repB) hw hf hp fun w1 mh1 v1 d1 x1 hw1 hf1 r1 hp1 => ?_
    have r1 : v1 = d1 := r1
    subst r1
    cases v1 with
    | true => exact iteT (PostG.ret hp1 hw1 rfl)
    | false => exact iteF ⟨w1, mh1, env, rfl, hw1, hf1, hp1⟩
theorem mt_not (ha : MT X ca W a mt) : MT X ca W (.UnaryOp .Not a pos) (mNotT mt) :=
  PT.mono (pt_not ha) fun σ H Q h => by
    obtain ⟨w, mh, env, rfl, hw, hf, hp⟩ := h
    refine stepG (rep := repB) hw hf hp fun w1 mh1 v1 d1 x1 hw1 hf1 r1 hp1 => ?_
    have r1 : v1 = d1 := r1
    subst r1
    exact PostG.ret hp1 hw1 rfl
theorem me_one {op} (h : ME X ca W a ma) : ME X ca W (.BoolOp op [a] pos) ma := pe_one h
theorem me_and (ha : ME X ca W a ma) (hb : ME X ca W (.BoolOp .And (b :: rest) pos) mb) : ME X ca W (.BoolOp .And (a :: b :: rest) pos) (mAndV ma mb) :=
  PE.mono (pe_andT ha hb) fun σ H Q h => by
    obtain ⟨w, mh, env, rfl, hw, hf, hp⟩ := h
    refine stepG (rep := repV X.K) hw hf hp fun w1 mh1 v1 d1 x1 hw1 hf1 r1 hp1 => ?_
    obtain ⟨k, tk, q⟩ := truth_post hw1 r1 hp1
    refine ⟨k, tk, ?_⟩
    cases k with
    | true => exact iteT ⟨w1, mh1, env, rfl, hw1, hf1, q⟩
    | false => exact iteF (PostG.ret q hw1 r1)
theorem me_or (ha : ME X ca W a ma) (hb : ME X ca W (.BoolOp .Or (b :: rest) pos) mb) : ME X ca W (.BoolOp .Or (a :: b :: rest) pos) (mOrV ma mb) :=
  PE.mono (pe_orT ha hb) fun σ H Q h => by
    obtain ⟨w, mh, env, rfl, hw, hf, hp⟩ := h
    refine stepG (rep := repV X.K) hw hf hp fun w1 mh1 v1 d1 x1 hw1 hf1 r1 hp1 => ?_
    obtain ⟨k, tk, q⟩ := truth_post hw1 r1 hp1
    refine ⟨k, tk, ?_⟩
    cases k with
    | true => exact iteT (PostG.ret q hw1 r1)
    | false => exact iteF ⟨w1, mh1, env, rfl, hw1, hf1, q⟩
theorem me_not (ha : ME X ca W a ma) : ME X ca W (.UnaryOp .Not a pos) (mNotV ma) :=
  PE.mono (pe_notT ha) fun σ H Q h => by
    obtain ⟨w, mh, env, rfl, hw, hf, hp⟩ := h
    refine stepG (rep := repV X.K) hw hf hp fun w1 mh1 v1 d1 x1 hw1 hf1 r1 hp1 => ?_
    obtain ⟨k, tk, q⟩ := truth_post hw1 r1 hp1
    exact ⟨k, tk, PostG.ret q hw1 (.bl _)⟩
theorem me_if (hc : MT X ca W c mt) (ha : ME X ca W a ma) (hb : ME X ca W b mb) : ME X ca W (.IfExp c a b pos) (mIfE mt ma mb) :=
  PE.mono (pe_ifExp hc ha hb) fun σ H Q h => by
    obtain ⟨w, mh, env, rfl, hw, hf, hp⟩ := h
    refine stepG (rep := repB) hw hf hp fun w1 mh1 v1 d1 x1 hw1 hf1 r1 hp1 => ?_
    have r1 : v1 = d1 := r1
    subst r1
    cases v1 with
    | true => exact iteT ⟨w1, mh1, env, rfl, hw1, hf1, hp1⟩
    | false => exact iteF ⟨w1, mh1, env, rfl, hw1, hf1, hp1⟩
theorem me_neg (ha : ME X ca W a ma) : ME X ca W (.UnaryOp .USub a pos) (mUn opNeg ma) :=
  PE.mono (pe_un un_neg ha) fun σ H Q h => by
    obtain ⟨w, mh, env, rfl, hw, hf, hp⟩ := h
    refine stepG (rep := repV X.K) hw hf hp fun w1 mh1 v1 d1 x1 hw1 hf1 r1 hp1 => ?_
    cases r1 <;> first | exact hp1.elim | skip
    exact ⟨_, rfl, PostG.ret hp1 hw1 (.int _)⟩

/-! ### argument lists, displays -/
theorem ma_nil : MA X ca W [] mNil := PA.mono pa_nil fun σ H Q h => by
  obtain ⟨w, mh, env, rfl, hw, hf, hp⟩ := h
  exact PostG.ret hp hw .nil
theorem ma_cons (ha : ME X ca W e ma) (hr : MA X ca W es ms) (hs : starEach (e :: es) X.env = (false, eval e X.env) :: starEach es X.env := by rfl) : MA X ca W (e :: es) (mCons ma ms) :=
  PA.mono (pa_cons ha hr hs) fun σ H Q h => by
    obtain ⟨w, mh, env, rfl, hw, hf, hp⟩ := h
    refine stepG (rep := repV X.K) hw hf hp fun w1 mh1 v1 d1 x1 hw1 hf1 r1 hp1 => ?_
    refine stepG (rep := repA X.K) hw1 hf1 hp1 fun w2 mh2 v2 d2 x2 hw2 hf2 r2 hp2 => ?_
    exact PostG.ret hp2 hw2 (.cons (x2.rp r1) r2)
theorem me_tup {j} (h : MA X ca W es ms) : ME X ca W (.Tuple es j pos) (mTup ms) :=
  PE.mono (pe_tup h) fun σ H Q h => by
    obtain ⟨w, mh, env, rfl, hw, hf, hp⟩ := h
    refine stepG (rep := repA X.K) hw hf hp fun w1 mh1 v1 d1 x1 hw1 hf1 r1 hp1 => ?_
    have r1 : RpAll X.K w1 v1 d1 := r1
    by_cases q : d1.length ≤ 16777216
    · simp only [q, if_true] at hp1
      exact ⟨by rw [r1.length, sizeLine_lit]; exact q, PostG.tup hp1 hw1 r1⟩
    · simp only [q, if_false] at hp1; exact hp1.elim
theorem me_lst (h : MA X ca W es ms) : ME X ca W (.List es pos) (mLst ms) :=
  PE.mono (pe_lst h) fun σ H Q h => by
    obtain ⟨w, mh, env, rfl, hw, hf, hp⟩ := h
    refine stepG (rep := repA X.K) hw hf hp fun w1 mh1 v1 d1 x1 hw1 hf1 r1 hp1 => ?_
    have r1 : RpAll X.K w1 v1 d1 := r1
    by_cases q : d1.length ≤ 16777216
    · simp only [q, if_true] at hp1
      exact ⟨by rw [r1.length, sizeLine_lit]; exact q, PostG.lst hp1 hw1 r1⟩
    · simp only [q, if_false] at hp1; exact hp1.elim
end

/-! ### slices -/
def cutD (xs : List D) (lo hi : Option Int) : List D := (xs.drop (HT.sIx xs.length 0 lo)).take (HT.sIx xs.length xs.length hi - HT.sIx xs.length 0 lo)
def opSl (d : D) (lo hi : Option Int) : M D := match d with
  | .tup xs => M.pure (.tup (cutD xs lo hi))
  | .lst xs => M.pure (.lst (cutD xs lo hi))
  | .str z => if z.length ≤ 16777216 then M.pure (.str (cutS z lo hi)) else M.bad
  | _ => M.bad
def partM (d : D) : M (Option Int) := match d with | .int i => M.pure (some i) | _ => M.bad
def mPart (m : Env → M D) : Env → M (Option Int) := fun env => M.bind (m env) partM
def mNoPart : Env → M (Option Int) := fun _ => M.pure none
def mSl (a : Env → M D) (lo hi : Env → M (Option Int)) : Env → M D := fun env => M.bind (a env) fun d => M.bind (lo env) fun l => M.bind (hi env) fun u => opSl d l u
def opRev (d : D) : M D := match d with | .lst xs => M.pure (.lst xs.reverse) | _ => M.bad
abbrev repO : Wd → Option Int → Option Int → Prop := fun _ o p => o = p
theorem PO.mono {X : Cx} {e : Option Expr} {t t' : TO} (h : PO X e t) (k : ∀ σ H Q, t' σ H Q → t σ H Q) : PO X e t' := ⟨fun pins s σ H Q I q => h.run pins s σ H Q I (k σ H Q q)⟩
abbrev MO' (X : Cx) (ca : CA) (W : WX) (e : Option Expr) (m : Env → M (Option Int)) : Prop := PO X e (denG repO X.K ca W m)
section
variable {K : PySem.W.Frag} {w : Wd}
theorem RpAll.cut {vs : List V} {ds : List D} (h : RpAll K w vs ds) (lo hi : Option Int) : RpAll K w (cutV vs lo hi) (cutD ds lo hi) := by
  unfold cutV cutD
  rw [h.length]
  exact (h.drop _).take _
theorem cutD_whole {xs : List D} {lo hi : Option Int} (h : HT.sIx xs.length 0 lo = 0 ∧ HT.sIx xs.length xs.length hi = xs.length) : cutD xs lo hi = xs := by
  unfold cutD
  rw [h.1, h.2]
  simp
end
section
variable {X : Cx} {ca : CA} {W : WX} {a e : Expr} {lo hi : Option Expr} {ma : Env → M D} {ml mh' : Env → M (Option Int)} {pos p2 : Pos}
theorem mo_none : MO' X ca W none mNoPart := PO.mono po_none fun σ H Q h => by
  obtain ⟨w, mh, env, rfl, hw, hf, hp⟩ := h
  exact PostG.ret hp hw rfl
theorem mo_some (h : ME X ca W e ma) : MO' X ca W (some e) (mPart ma) := PO.mono (po_some h) fun σ H Q h => by
  obtain ⟨w, mh, env, rfl, hw, hf, hp⟩ := h
  refine stepG (rep := repV X.K) hw hf hp fun w1 mh1 v1 d1 x1 hw1 hf1 r1 hp1 => ?_
  cases r1 <;> first | exact hp1.elim | skip
  exact ⟨_, rfl, PostG.ret hp1 hw1 rfl⟩
theorem me_slice (ha : ME X ca W a ma) (hl : MO' X ca W lo ml) (hu : MO' X ca W hi mh') : ME X ca W (.Subscript a (.Slice lo hi none p2) pos) (mSl ma ml mh') :=
  PE.mono (pe_slice (SlR.or sl_tupA (SlR.or sl_list sl_str)) ha hl hu) fun σ H Q h => by
    obtain ⟨w, mh, env, rfl, hw, hf, hp⟩ := h
    refine stepG (rep := repV X.K) hw hf hp fun w1 mh1 v1 d1 x1 hw1 hf1 r1 hp1 => ?_
    refine stepG (rep := repO) hw1 hf1 hp1 fun w2 mh2 v2 d2 x2 hw2 hf2 r2 hp2 => ?_
    refine stepG (rep := repO) hw2 hf2 hp2 fun w3 mh3 v3 d3 x3 hw3 hf3 r3 hp3 => ?_
    have r2 : v2 = d2 := r2
    have r3 : v3 = d3 := r3
    subst r2 r3
    have r1 : Rp X.K w3 v1 d1 := x3.rp (x2.rp r1)
    cases r1 with
    | tup q r =>
      rename_i p xs ds
      refine .inl ⟨p, xs, rfl, sqT_sub hw3.sub q, fun h => ?_, fun _ => PostG.tup hp3 hw3 (r.cut _ _)⟩
      refine PostG.ret hp3 hw3 ?_
      rw [cutD_whole (by rw [← r.length]; exact h)]
      exact .tup q r
    | lst q r => exact .inr (.inl ⟨_, _, rfl, .of (hw3.subL _ _ q), PostG.lst hp3 hw3 (r.cut _ _)⟩)
    | str z =>
      by_cases l : z.length ≤ 16777216
      · simp only [opSl, l, if_true] at hp3
        exact .inr (.inr ⟨z, rfl, by rw [sizeLine_lit]; exact l, PostG.ret hp3 hw3 (.str _)⟩)
      · simp only [opSl, l, if_false] at hp3; exact hp3.elim
    | _ => exact hp3.elim
theorem me_rev {k : Nat} {p1 p2 p3 : Pos} (ha : ME X ca W a ma) : ME X ca W (.Subscript a (.Slice none none (some (.UnaryOp .USub (.Constant (.int 1) k p1) p2)) p3) pos) (mUn opRev ma) :=
  PE.mono (pe_revL ha) fun σ H Q h => by
    obtain ⟨w, mh, env, rfl, hw, hf, hp⟩ := h
    refine stepG (rep := repV X.K) hw hf hp fun w1 mh1 v1 d1 x1 hw1 hf1 r1 hp1 => ?_
    cases r1 <;> first | exact hp1.elim | skip
    rename_i q r
    exact ⟨_, _, rfl, .of (hw1.subL _ _ q), PostG.lst hp1 hw1 r.reverse⟩
end
end AG
/-! AgE: calls: built-ins, isinstance, defs. -/
namespace AG
open PySem L2

abbrev LOp := List D → M D
def CallM (K : PySem.W.Frag) (ca : CA) (r : List V → Hp → VK → Prop) (f : LOp) : Prop :=
  ∀ (W : WX) (σ : St) (w : Wd) (mh : MH) (xs : List V) (ds : List D) (Q : VK), WOk K ca w mh → RpAll K w xs ds → Post K ca W σ w (f ds mh) Q → r xs w.H Q
def mCall (f : LOp) (ms : Env → M (List D)) : Env → M D := fun env => M.bind (ms env) f

def fLen : LOp := fun ds => match ds with
  | [.tup xs] => M.pure (.int xs.length)
  | [.lst xs] => M.pure (.int xs.length)
  | [.str s] => if s.length ≤ 16777216 then M.pure (.int s.length) else M.bad
  | [.scr ns] => M.pure (.int ns.length)
  | [.ref n] => fun h => match h[n]? with | some (.lst xs) => .ok (.int xs.length) h | _ => .bad
  | _ => M.bad
def fInt : LOp := fun ds => match ds with
  | [.int i] => M.pure (.int i)
  | [.bl b] => M.pure (.int (if b then 1 else 0))
  | _ => M.bad
def fAbs : LOp := fun ds => match ds with
  | [.int i] => M.pure (.int (if i < 0 then -i else i))
  | _ => M.bad
def fList : LOp := fun ds => match ds with
  | [.tup xs] => M.pure (.lst xs)
  | [.lst xs] => M.pure (.lst xs)
  | [.scr ns] => M.pure (.scr ns)
  | _ => M.bad
def fTuple : LOp := fun ds => match ds with
  | [.tup xs] => M.pure (.tup xs)
  | [.lst xs] => M.pure (.tup xs)
  | _ => M.bad
def D.ints : List D → Option (List Int)
  | [] => some []
  | .int i :: r => (D.ints r).map (i :: ·)
  | _ :: _ => none
def fSum : LOp := fun ds => match ds with
  | [.lst xs] => match D.ints xs with | some ns => M.pure (.int ns.sum) | none => M.bad
  | _ => M.bad
def D.tb (d : D) : Bool := d.truth.getD false
def D.fit : D → Bool
  | .tup xs => decide (xs.length ≤ 16777216)
  | .lst xs => decide (xs.length ≤ 16777216)
  | _ => true
def D.tok (d : D) : Bool := d.truth.isSome && D.sm 60 d && d.fit
def fAny : LOp := fun ds => match ds with
  | [.lst xs] => if xs.all D.tok = true then M.pure (.bl (xs.any D.tb)) else M.bad
  | _ => M.bad
def fAll : LOp := fun ds => match ds with
  | [.lst xs] => if xs.all D.tok = true then M.pure (.bl (xs.all D.tb)) else M.bad
  | _ => M.bad
def maxI (n : Int) (ns : List Int) : Int := ns.foldl (fun m x => if m < x then x else m) n
def minI (n : Int) (ns : List Int) : Int := ns.foldl (fun m x => if x < m then x else m) n
def fMax : LOp := fun ds => match ds with
  | [.lst xs] => match D.ints xs with | some (n :: ns) => M.pure (.int (maxI n ns)) | _ => M.bad
  | [.int i, .int j] => M.pure (.int (if j > i then j else i))
  | _ => M.bad
def fMin : LOp := fun ds => match ds with
  | [.lst xs] => match D.ints xs with | some (n :: ns) => M.pure (.int (minI n ns)) | _ => M.bad
  | [.int i, .int j] => M.pure (.int (if j < i then j else i))
  | _ => M.bad

section
variable {K : PySem.W.Frag} {ca : CA}
theorem RpAll.one {w : Wd} {xs : List V} {d : D} (h : RpAll K w xs [d]) : ∃ x, xs = [x] ∧ Rp K w x d := by
  cases h with
  | cons h r => cases r; exact ⟨_, rfl, h⟩
theorem RpAll.two {w : Wd} {xs : List V} {d e : D} (h : RpAll K w xs [d, e]) : ∃ x y, xs = [x, y] ∧ Rp K w x d ∧ Rp K w y e := by
  cases h with
  | cons h r =>
    obtain ⟨y, rfl, q⟩ := r.one
    exact ⟨_, _, rfl, h, q⟩
theorem cm_len : CallM K ca (fun xs H Q => ∃ x n, xs = [x] ∧ LenV K x H n ∧ Q (.int n) H) fLen := by
  intro W σ w mh xs ds Q hw r hp
  unfold fLen at hp
  match ds, r, hp with
  | [.tup ys], r, hp =>
    obtain ⟨x, rfl, q⟩ := r.one
    cases q with
    | tup h1 h2 => exact ⟨_, _, rfl, .inr ⟨_, sqT_sub hw.sub h1, h2.length.symm⟩, PostG.ret hp hw (.int _)⟩
  | [.lst ys], r, hp =>
    obtain ⟨x, rfl, q⟩ := r.one
    cases q with
    | lst h1 h2 => exact ⟨_, _, rfl, .inl ⟨_, .of (hw.subL _ _ h1), h2.length.symm⟩, PostG.ret hp hw (.int _)⟩
  | [.str s], r, hp =>
    obtain ⟨x, rfl, q⟩ := r.one
    cases q with
    | str _ =>
      by_cases l : s.length ≤ 16777216
      · simp only [l, if_true] at hp
        exact ⟨_, _, rfl, ⟨by rw [sizeLine_lit]; exact l, rfl⟩, PostG.ret hp hw (.int _)⟩
      · simp only [l, if_false] at hp; exact hp.elim
  | [.scr ns], r, hp =>
    obtain ⟨x, rfl, q⟩ := r.one
    cases q with
    | scr h1 h2 => exact ⟨_, ns.length, rfl, .inl ⟨_, sqL_mono hw.sub h1, by simp⟩, PostG.ret hp hw (.int _)⟩
  | [.ref n], r, hp =>
    obtain ⟨x, rfl, q⟩ := r.one
    cases q with
    | ref h1 =>
      obtain ⟨mo, e1, _, _, ho⟩ := hw.at h1
      cases mo with
      | lst ds =>
        obtain ⟨vs, hH, rr⟩ := ho
        simp only [e1] at hp
        exact ⟨_, _, rfl, .inl ⟨_, .of hH, rr.length.symm⟩, PostG.ret hp hw (.int _)⟩
      | _ => simp only [e1] at hp; exact hp.elim
theorem cm_int : CallM K ca (fun xs H Q => (∃ i, xs = [.int i] ∧ Q (.int i) H) ∨ ∃ k, xs = [.bl k] ∧ Q (.int (if k then 1 else 0)) H) fInt := by
  intro W σ w mh xs ds Q hw r hp
  unfold fInt at hp
  match ds, r, hp with
  | [.int i], r, hp =>
    obtain ⟨x, rfl, q⟩ := r.one
    cases q
    exact .inl ⟨_, rfl, PostG.ret hp hw (.int _)⟩
  | [.bl b], r, hp =>
    obtain ⟨x, rfl, q⟩ := r.one
    cases q
    exact .inr ⟨_, rfl, PostG.ret hp hw (.int _)⟩
theorem cm_abs : CallM K ca (fun xs H Q => ∃ i, xs = [.int i] ∧ Q (.int (if i < 0 then -i else i)) H) fAbs := by
  intro W σ w mh xs ds Q hw r hp
  unfold fAbs at hp
  match ds, r, hp with
  | [.int i], r, hp =>
    obtain ⟨x, rfl, q⟩ := r.one
    cases q
    exact ⟨_, rfl, PostG.ret hp hw (.int _)⟩
theorem cm_list : CallM K ca (fun xs H Q => ∃ p ys, xs = [.ref p] ∧ (SqL K H p ys ∨ SqT K H p ys) ∧ ∀ l, H l = none → Q (.ref l) (upd H l (.lst ys))) fList := by
  intro W σ w mh xs ds Q hw r hp
  unfold fList at hp
  match ds, r, hp with
  | [.tup ys], r, hp =>
    obtain ⟨x, rfl, q⟩ := r.one
    cases q with
    | tup h1 h2 => exact ⟨_, _, rfl, .inr (sqT_sub hw.sub h1), PostG.lst hp hw h2⟩
  | [.lst ys], r, hp =>
    obtain ⟨x, rfl, q⟩ := r.one
    cases q with
    | lst h1 h2 => exact ⟨_, _, rfl, .inl (.of (hw.subL _ _ h1)), PostG.lst hp hw h2⟩
  | [.scr ns], r, hp =>
    obtain ⟨x, rfl, q⟩ := r.one
    cases q with
    | scr h1 h2 => exact ⟨_, _, rfl, .inl (sqL_mono hw.sub h1), PostG.scr (vs := []) hp hw h2⟩
theorem cm_tuple : CallM K ca (fun xs H Q => ∃ p ys, xs = [.ref p] ∧ ((SqL K H p ys ∧ ∀ l, H l = none → Q (.ref l) (upd H l (.tup ys))) ∨ (SqT K H p ys ∧ Q (.ref p) H))) fTuple := by
  intro W σ w mh xs ds Q hw r hp
  unfold fTuple at hp
  match ds, r, hp with
  | [.tup ys], r, hp =>
    obtain ⟨x, rfl, q⟩ := r.one
    cases q with
    | tup h1 h2 => exact ⟨_, _, rfl, .inr ⟨sqT_sub hw.sub h1, PostG.ret hp hw (.tup h1 h2)⟩⟩
  | [.lst ys], r, hp =>
    obtain ⟨x, rfl, q⟩ := r.one
    cases q with
    | lst h1 h2 => exact ⟨_, _, rfl, .inl ⟨.of (hw.subL _ _ h1), PostG.tup hp hw h2⟩⟩
theorem ints_of {w : Wd} : ∀ {ds : List D} {xs : List V} {ns : List Int}, RpAll K w xs ds → D.ints ds = some ns → xs = ns.map V.int
  | [], _, _, r, e => by cases r; cases e; rfl
  | .int i :: ds, _, _, r, e => by
    cases r with
    | cons h r =>
      cases h
      simp only [D.ints] at e
      cases q : D.ints ds with
      | none => rw [q] at e; cases e
      | some ms =>
        rw [q] at e
        cases e
        rw [ints_of r q]; rfl
  | .non :: _, _, _, _, e => by cases e
  | .bl _ :: _, _, _, _, e => by cases e
  | .str _ :: _, _, _, _, e => by cases e
  | .tup _ :: _, _, _, _, e => by cases e
  | .lst _ :: _, _, _, _, e => by cases e
  | .ref _ :: _, _, _, _, e => by cases e
  | .scr _ :: _, _, _, _, e => by cases e
theorem cm_sum : CallM K ca (rSum K) fSum := by
  intro W σ w mh xs ds Q hw r hp
  unfold fSum at hp
  match ds, r, hp with
  | [.lst ys], r, hp =>
    obtain ⟨x, rfl, q⟩ := r.one
    cases q with
    | lst h1 h2 =>
      cases e : D.ints ys with
      | none => simp only [e] at hp; exact hp.elim
      | some ns =>
        simp only [e] at hp
        rw [ints_of h2 e] at h1
        exact ⟨_, ns, rfl, .of (hw.subL _ _ h1), PostG.ret hp hw (.int _)⟩
theorem maxI_spec : ∀ (ns : List Int) (n : Int), maxI n ns ∈ n :: ns ∧ ∀ y ∈ n :: ns, y ≤ maxI n ns
  | [], n => by simp [maxI]
  | m :: ns, n => by
    have e : maxI n (m :: ns) = maxI (if n < m then m else n) ns := rfl
    rw [e]
    obtain ⟨h1, h2⟩ := maxI_spec ns (if n < m then m else n)
    have h3 := h2 (if n < m then m else n) List.mem_cons_self
    generalize maxI (if n < m then m else n) ns = Z at h1 h2 h3 ⊢
    refine ⟨?_, fun y hy => ?_⟩
    · rcases List.mem_cons.mp h1 with q | q
      · rw [q]; split <;> simp
      · exact List.mem_cons_of_mem _ (List.mem_cons_of_mem _ q)
    · rcases List.mem_cons.mp hy with q | q
      · subst q; split at h3 <;> omega
      · rcases List.mem_cons.mp q with q | q
        · subst q; split at h3 <;> omega
        · exact h2 y (List.mem_cons_of_mem _ q)
theorem minI_spec : ∀ (ns : List Int) (n : Int), minI n ns ∈ n :: ns ∧ ∀ y ∈ n :: ns, minI n ns ≤ y
  | [], n => by simp [minI]
  | m :: ns, n => by
    have e : minI n (m :: ns) = minI (if m < n then m else n) ns := rfl
    rw [e]
    obtain ⟨h1, h2⟩ := minI_spec ns (if m < n then m else n)
    have h3 := h2 (if m < n then m else n) List.mem_cons_self
    generalize minI (if m < n then m else n) ns = Z at h1 h2 h3 ⊢
    refine ⟨?_, fun y hy => ?_⟩
    · rcases List.mem_cons.mp h1 with q | q
      · rw [q]; split <;> simp
      · exact List.mem_cons_of_mem _ (List.mem_cons_of_mem _ q)
    · rcases List.mem_cons.mp hy with q | q
      · subst q; split at h3 <;> omega
      · rcases List.mem_cons.mp q with q | q
        · subst q; split at h3 <;> omega
        · exact h2 y (List.mem_cons_of_mem _ q)
def rMax2 (K : PySem.W.Frag) : List V → Hp → VK → Prop := fun xs H Q => rMax K xs H Q ∨ ∃ i j, xs = [.int i, .int j] ∧ Q (.int (if j > i then j else i)) H
def rMin2 (K : PySem.W.Frag) : List V → Hp → VK → Prop := fun xs H Q => rMin K xs H Q ∨ ∃ i j, xs = [.int i, .int j] ∧ Q (.int (if j < i then j else i)) H
theorem cm_max : CallM K ca (rMax2 K) fMax := by
  intro W σ w mh xs ds Q hw r hp
  unfold fMax at hp
  match ds, r, hp with
  | [.lst ys], r, hp =>
    obtain ⟨x, rfl, q⟩ := r.one
    cases q with
    | lst h1 h2 =>
      cases e : D.ints ys with
      | none => simp only [e] at hp; exact hp.elim
      | some ns =>
        cases ns with
        | nil => simp only [e] at hp; exact hp.elim
        | cons n ns =>
          simp only [e] at hp
          rw [ints_of h2 e] at h1
          have sp := maxI_spec ns n
          refine .inl ⟨_, n :: ns, rfl, .of (hw.subL _ _ h1), by simp, fun m h3 h4 => ?_⟩
          have : m = maxI n ns := by have := h4 _ sp.1; have := sp.2 _ h3; omega
          subst this
          exact PostG.ret hp hw (.int _)
  | [.int i, .int j], r, hp =>
    obtain ⟨x, y, rfl, q1, q2⟩ := r.two
    cases q1
    cases q2
    exact .inr ⟨_, _, rfl, PostG.ret hp hw (.int _)⟩
theorem cm_min : CallM K ca (rMin2 K) fMin := by
  intro W σ w mh xs ds Q hw r hp
  unfold fMin at hp
  match ds, r, hp with
  | [.lst ys], r, hp =>
    obtain ⟨x, rfl, q⟩ := r.one
    cases q with
    | lst h1 h2 =>
      cases e : D.ints ys with
      | none => simp only [e] at hp; exact hp.elim
      | some ns =>
        cases ns with
        | nil => simp only [e] at hp; exact hp.elim
        | cons n ns =>
          simp only [e] at hp
          rw [ints_of h2 e] at h1
          have sp := minI_spec ns n
          refine .inl ⟨_, n :: ns, rfl, .of (hw.subL _ _ h1), by simp, fun m h3 h4 => ?_⟩
          have : m = minI n ns := by have := h4 _ sp.1; have := sp.2 _ h3; omega
          subst this
          exact PostG.ret hp hw (.int _)
  | [.int i, .int j], r, hp =>
    obtain ⟨x, y, rfl, q1, q2⟩ := r.two
    cases q1
    cases q2
    exact .inr ⟨_, _, rfl, PostG.ret hp hw (.int _)⟩

/-! any, all -/
def rAnyD (K : PySem.W.Frag) (g : List PyData → Bool) : List V → Hp → VK → Prop := fun xs H Q => ∃ a ys ds, xs = [.ref a] ∧ SqL K H a ys ∧ DpAll K H ys ds ∧ PyData.plainAll ds = true ∧ (∀ x ∈ ds, x.fits63) ∧ Q (.bl (g ds)) H
theorem cr_anyD {X : Cx} (hc : X.calm = true) : CallR X (.builtin "any") (rAnyD X.K fun ds => ds.any PyData.truthy) := by
  intro pins s σ H xs us Q I r h
  obtain ⟨a, ys, ds, rfl, hl, hd, hp, hf, q⟩ := h
  obtain ⟨its, rv, pl, hz⟩ := I.list hl
  obtain ⟨as, hr⟩ := Dp.readsAll I ds ys its hd rv
  cases r with
  | cons r1 r2 =>
    cases r1
    cases r2
    exact PySem.W.any_list_data (I.ok.hd hc) pl.isList (by simpa using hr) hp hf fun h' tk k => ⟨.bl _, H, I.kept (t' := tk) k, rfl, q⟩
theorem cr_allD {X : Cx} (hc : X.calm = true) : CallR X (.builtin "all") (rAnyD X.K fun ds => ds.all PyData.truthy) := by
  intro pins s σ H xs us Q I r h
  obtain ⟨a, ys, ds, rfl, hl, hd, hp, hf, q⟩ := h
  obtain ⟨its, rv, pl, hz⟩ := I.list hl
  obtain ⟨as, hr⟩ := Dp.readsAll I ds ys its hd rv
  cases r with
  | cons r1 r2 =>
    cases r1
    cases r2
    exact PySem.W.all_list_data (I.ok.hd hc) pl.isList (by simpa using hr) hp hf fun h' tk k => ⟨.bl _, H, I.kept (t' := tk) k, rfl, q⟩
theorem tok_of {d : D} (h : d.tok = true) : D.sm 60 d = true ∧ d.toPy.truthy = d.tb ∧ d.toPy.fits63 := by
  simp only [D.tok, Bool.and_eq_true] at h
  obtain ⟨⟨h1, h2⟩, h3⟩ := h
  refine ⟨h2, ?_, ?_⟩
  · cases d <;> simp [D.truth, D.tb, D.toPy, PyData.truthy] at h1 ⊢
    · rename_i s
      by_cases l : s.length ≤ 16777216
      · simp [l]
      · omega
    · rename_i xs; rw [D.toPys_map]; cases xs <;> rfl
    · rename_i xs; rw [D.toPys_map]; cases xs <;> rfl
  · cases d <;> simp [D.toPy, PyData.fits63, D.fit, D.truth, D.toPys_map] at h1 h3 ⊢
    · omega
    · omega
    · omega
theorem dpAll_tok {w : Wd} (hs : Subs w) : ∀ {vs : List V} {ds : List D}, RpAll K w vs ds → ds.all D.tok = true → DpAll K w.H vs (D.toPys ds)
  | _, _, .nil, _ => .nil
  | _, _, .cons h r, q => by
    simp only [List.all_cons, Bool.and_eq_true] at q
    exact .cons (h.dp hs (tok_of q.1).1) (dpAll_tok hs r q.2)
theorem any_tok : ∀ {ds : List D}, ds.all D.tok = true → (D.toPys ds).any PyData.truthy = ds.any D.tb
  | [], _ => rfl
  | d :: ds, q => by
    simp only [List.all_cons, Bool.and_eq_true] at q
    rw [D.toPys, List.any_cons, List.any_cons, (tok_of q.1).2.1, any_tok q.2]
theorem all_tok : ∀ {ds : List D}, ds.all D.tok = true → (D.toPys ds).all PyData.truthy = ds.all D.tb
  | [], _ => rfl
  | d :: ds, q => by
    simp only [List.all_cons, Bool.and_eq_true] at q
    rw [D.toPys, List.all_cons, List.all_cons, (tok_of q.1).2.1, all_tok q.2]
theorem fits_tok {ds : List D} (q : ds.all D.tok = true) : ∀ x ∈ D.toPys ds, x.fits63 := by
  rw [D.toPys_map]
  intro x hx
  obtain ⟨d, hd, rfl⟩ := List.mem_map.mp hx
  exact (tok_of (List.all_eq_true.mp q d hd)).2.2
theorem cm_any : CallM K ca (rAnyD K fun ds => ds.any PyData.truthy) fAny := by
  intro W σ w mh xs ds Q hw r hp
  unfold fAny at hp
  match ds, r, hp with
  | [.lst ys], r, hp =>
    obtain ⟨x, rfl, q⟩ := r.one
    cases q with
    | lst h1 h2 =>
      by_cases c : ys.all D.tok = true
      · simp only [c, if_true] at hp
        refine ⟨_, _, _, rfl, .of (hw.subL _ _ h1), dpAll_tok hw.subs h2 c, plainAll_toPy _, fits_tok c, ?_⟩
        show Q (V.bl ((D.toPys ys).any PyData.truthy)) w.H
        rw [any_tok c]
        exact PostG.ret hp hw (.bl _)
      · simp only [c] at hp; exact hp.elim
theorem cm_all : CallM K ca (rAnyD K fun ds => ds.all PyData.truthy) fAll := by
  intro W σ w mh xs ds Q hw r hp
  unfold fAll at hp
  match ds, r, hp with
  | [.lst ys], r, hp =>
    obtain ⟨x, rfl, q⟩ := r.one
    cases q with
    | lst h1 h2 =>
      by_cases c : ys.all D.tok = true
      · simp only [c, if_true] at hp
        refine ⟨_, _, _, rfl, .of (hw.subL _ _ h1), dpAll_tok hw.subs h2 c, plainAll_toPy _, fits_tok c, ?_⟩
        show Q (V.bl ((D.toPys ys).all PyData.truthy)) w.H
        rw [all_tok c]
        exact PostG.ret hp hw (.bl _)
      · simp only [c] at hp; exact hp.elim
end

section
variable {X : Cx} {ca : CA} {W : WX} {e : Expr} {es : List Expr} {ms : Env → M (List D)} {m : Env → M D} {r : List V → Hp → VK → Prop} {f : LOp} {x : Str} {p pos : Pos} {id : String}
theorem me_callB (hc : CallR X (.builtin id) r) (hf : CallM X.K ca r f) (hm : X.mg x = none) (hv : bootBuiltins x = some (.builtin id)) (ha : MA X ca W (e :: es) ms) (hg : Gl X x := by rfl) (hn : x ≠ "__name__" := by decide) (hdb : (x == ("__debug__" : Str)) = false := by decide)
    (he : starEach (e :: es) X.env = (false, eval e X.env) :: starEach es X.env := by rfl) (hpl : (backTo pos (starEach es X.env)).any (·.1) = false := by rfl) : ME X ca W (.Call (.Name x p) (e :: es) [] pos) (mCall f ms) :=
  PE.mono (pe_callB hc hg hm hv ha hn hdb he hpl) fun σ H Q h => by
    obtain ⟨w, mh, env, rfl, hw, hfr, hp⟩ := h
    exact stepG (rep := repA X.K) hw hfr hp fun w1 mh1 v1 d1 x1 hw1 hf1 r1 hp1 => hf W σ w1 mh1 v1 d1 Q hw1 r1 hp1
theorem me_callTy (hc : CallR X (.type id) r) (hf : CallM X.K ca r f) (hm : X.mg x = none) (hv : bootBuiltins x = some (.type id)) (ha : MA X ca W (e :: es) ms) (hg : Gl X x := by rfl) (hn : x ≠ "__name__" := by decide) (hdb : (x == ("__debug__" : Str)) = false := by decide)
    (he : starEach (e :: es) X.env = (false, eval e X.env) :: starEach es X.env := by rfl) (hpl : (backTo pos (starEach es X.env)).any (·.1) = false := by rfl) : ME X ca W (.Call (.Name x p) (e :: es) [] pos) (mCall f ms) :=
  PE.mono (pe_callTy hc hg hm hv ha hn hdb he hpl) fun σ H Q h => by
    obtain ⟨w, mh, env, rfl, hw, hfr, hp⟩ := h
    exact stepG (rep := repA X.K) hw hfr hp fun w1 mh1 v1 d1 x1 hw1 hf1 r1 hp1 => hf W σ w1 mh1 v1 d1 Q hw1 r1 hp1
theorem me_len (hm : X.mg "len" = none) (ha : MA X ca W (e :: es) ms) (hg : Gl X "len" := by rfl) (he : starEach (e :: es) X.env = (false, eval e X.env) :: starEach es X.env := by rfl) (hpl : (backTo pos (starEach es X.env)).any (·.1) = false := by rfl) : ME X ca W (.Call (.Name "len" p) (e :: es) [] pos) (mCall fLen ms) :=
  me_callB call_len cm_len hm PySem.boot_len ha hg (by decide) (by decide) he hpl
theorem me_int1 (hm : X.mg "int" = none) (ha : MA X ca W (e :: es) ms) (hg : Gl X "int" := by rfl) (he : starEach (e :: es) X.env = (false, eval e X.env) :: starEach es X.env := by rfl) (hpl : (backTo pos (starEach es X.env)).any (·.1) = false := by rfl) : ME X ca W (.Call (.Name "int" p) (e :: es) [] pos) (mCall fInt ms) :=
  me_callTy call_int1 cm_int hm (by decide +kernel) ha hg (by decide) (by decide) he hpl
theorem me_abs (hm : X.mg "abs" = none) (ha : MA X ca W (e :: es) ms) (hg : Gl X "abs" := by rfl) (he : starEach (e :: es) X.env = (false, eval e X.env) :: starEach es X.env := by rfl) (hpl : (backTo pos (starEach es X.env)).any (·.1) = false := by rfl) : ME X ca W (.Call (.Name "abs" p) (e :: es) [] pos) (mCall fAbs ms) :=
  me_callB call_abs cm_abs hm (by decide +kernel) ha hg (by decide) (by decide) he hpl
theorem me_list1 (hm : X.mg "list" = none) (ha : MA X ca W (e :: es) ms) (hg : Gl X "list" := by rfl) (he : starEach (e :: es) X.env = (false, eval e X.env) :: starEach es X.env := by rfl) (hpl : (backTo pos (starEach es X.env)).any (·.1) = false := by rfl) : ME X ca W (.Call (.Name "list" p) (e :: es) [] pos) (mCall fList ms) :=
  me_callTy call_list_of cm_list hm (by decide +kernel) ha hg (by decide) (by decide) he hpl
theorem me_tuple1 (hm : X.mg "tuple" = none) (ha : MA X ca W (e :: es) ms) (hg : Gl X "tuple" := by rfl) (he : starEach (e :: es) X.env = (false, eval e X.env) :: starEach es X.env := by rfl) (hpl : (backTo pos (starEach es X.env)).any (·.1) = false := by rfl) : ME X ca W (.Call (.Name "tuple" p) (e :: es) [] pos) (mCall fTuple ms) :=
  me_callTy call_tuple_of cm_tuple hm (by decide +kernel) ha hg (by decide) (by decide) he hpl
theorem me_sum (hc : X.calm = true) (hm : X.mg "sum" = none) (ha : MA X ca W (e :: es) ms) (hg : Gl X "sum" := by rfl) (he : starEach (e :: es) X.env = (false, eval e X.env) :: starEach es X.env := by rfl) (hpl : (backTo pos (starEach es X.env)).any (·.1) = false := by rfl) : ME X ca W (.Call (.Name "sum" p) (e :: es) [] pos) (mCall fSum ms) :=
  me_callB (cr_sum hc) cm_sum hm (by decide +kernel) ha hg (by decide) (by decide) he hpl
theorem me_any (hc : X.calm = true) (hm : X.mg "any" = none) (ha : MA X ca W (e :: es) ms) (hg : Gl X "any" := by rfl) (he : starEach (e :: es) X.env = (false, eval e X.env) :: starEach es X.env := by rfl) (hpl : (backTo pos (starEach es X.env)).any (·.1) = false := by rfl) : ME X ca W (.Call (.Name "any" p) (e :: es) [] pos) (mCall fAny ms) :=
  me_callB (cr_anyD hc) cm_any hm (by decide +kernel) ha hg (by decide) (by decide) he hpl
theorem me_all (hc : X.calm = true) (hm : X.mg "all" = none) (ha : MA X ca W (e :: es) ms) (hg : Gl X "all" := by rfl) (he : starEach (e :: es) X.env = (false, eval e X.env) :: starEach es X.env := by rfl) (hpl : (backTo pos (starEach es X.env)).any (·.1) = false := by rfl) : ME X ca W (.Call (.Name "all" p) (e :: es) [] pos) (mCall fAll ms) :=
  me_callB (cr_allD hc) cm_all hm (by decide +kernel) ha hg (by decide) (by decide) he hpl
theorem CallR.or {v : Value} {r r' : List V → Hp → VK → Prop} (h : CallR X v r) (h' : CallR X v r') : CallR X v (fun xs H Q => r xs H Q ∨ r' xs H Q) := by
  intro pins s σ H xs us Q I rr q
  rcases q with q | q
  · exact h pins s σ H xs us Q I rr q
  · exact h' pins s σ H xs us Q I rr q
theorem me_max (hc : X.calm = true) (hm : X.mg "max" = none) (ha : MA X ca W (e :: es) ms) (hg : Gl X "max" := by rfl) (he : starEach (e :: es) X.env = (false, eval e X.env) :: starEach es X.env := by rfl) (hpl : (backTo pos (starEach es X.env)).any (·.1) = false := by rfl) : ME X ca W (.Call (.Name "max" p) (e :: es) [] pos) (mCall fMax ms) :=
  me_callB (CallR.or (cr_max hc) (call_max2 hc)) cm_max hm (by decide +kernel) ha hg (by decide) (by decide) he hpl
theorem me_min (hc : X.calm = true) (hm : X.mg "min" = none) (ha : MA X ca W (e :: es) ms) (hg : Gl X "min" := by rfl) (he : starEach (e :: es) X.env = (false, eval e X.env) :: starEach es X.env := by rfl) (hpl : (backTo pos (starEach es X.env)).any (·.1) = false := by rfl) : ME X ca W (.Call (.Name "min" p) (e :: es) [] pos) (mCall fMin ms) :=
  me_callB (CallR.or (cr_min hc) (call_min2 hc)) cm_min hm (by decide +kernel) ha hg (by decide) (by decide) he hpl

/-! ### isinstance -/
def rIsiD (K : PySem.W.Frag) (T : String) (g : PyData → Bool) : List V → Hp → VK → Prop := fun xs H Q => ∃ x d, xs = [x, .ty T] ∧ Dp K H x d ∧ Q (.bl (g d)) H
theorem cr_isi {T : String} {g : PyData → Bool} (hi : ∀ (A : Around) (E : Value → Shared → Prop) (s : Shared) (v : Value) (d : PyData) (as : List Addr) (Q : Value → Shared → Prop), Reads s.heap v d as → (∀ tk, s.toks ≤ tk → Q (.bool (g d)) { s with toks := tk }) → wpAny (model X.prog X.w) A (call (.builtin "isinstance") [v, .type T]) Q E s) :
    CallR X (.builtin "isinstance") (rIsiD X.K T g) := by
  intro pins s σ H xs us Q I r h
  obtain ⟨x, d, rfl, hd, q⟩ := h
  cases r with
  | cons r1 r2 =>
    cases r2 with
    | cons r2 r3 =>
      cases r2
      cases r3
      obtain ⟨as, hr⟩ := Dp.reads I d x _ hd r1
      exact hi _ _ _ _ _ _ _ hr fun tk _ => ⟨.bl _, H, I.tok _, rfl, q⟩
def mIsi (g : PyData → Bool) (m : Env → M D) : Env → M D := fun env => M.bind (m env) fun d => if D.sm 60 d = true then M.pure (.bl (g d.toPy)) else M.bad
theorem me_isi {T : String} {y : Str} {p2 : Pos} {g : PyData → Bool} (hi : CallR X (.builtin "isinstance") (rIsiD X.K T g)) (hm : X.mg "isinstance" = none) (ht : X.mg y = none) (hv : bootBuiltins y = some (.type T)) (ha : ME X ca W e m) (hg : Gl X "isinstance" := by rfl) (hg2 : Gl X y := by rfl) (hn : y ≠ "__name__" := by decide) (hdb : (y == ("__debug__" : Str)) = false := by decide)
    (he : starEach (e :: [.Name y p2]) X.env = (false, eval e X.env) :: starEach [.Name y p2] X.env := by rfl) (he2 : starEach [.Name y p2] X.env = (false, eval (.Name y p2) X.env) :: starEach [] X.env := by rfl) (hpl : (backTo pos (starEach [.Name y p2] X.env)).any (·.1) = false := by rfl) :
    ME X ca W (.Call (.Name "isinstance" p) [e, .Name y p2] [] pos) (mIsi g m) :=
  PE.mono (pe_callB hi hg hm (by decide +kernel) (pa_cons ha (pa_cons (pe_bltn (v := .ty T) hg2 ht hv rfl hn hdb) pa_nil he2) he) (by decide) (by decide) he hpl) fun σ H Q h => by
    obtain ⟨w, mh, env, rfl, hw, hfr, hp⟩ := h
    refine stepG (rep := repV X.K) hw hfr hp fun w1 mh1 v1 d1 x1 hw1 hf1 r1 hp1 => ?_
    by_cases c : D.sm 60 d1 = true
    · simp only [c, if_true] at hp1
      exact ⟨_, _, rfl, Rp.dp hw1.subs r1 c, PostG.ret hp1 hw1 (.bl _)⟩
    · simp only [c] at hp1; exact hp1.elim
theorem me_isi_tuple {p2 : Pos} (hm : X.mg "isinstance" = none) (ht : X.mg "tuple" = none) (ha : ME X ca W e m) (hg : Gl X "isinstance" := by rfl) (hg2 : Gl X "tuple" := by rfl)
    (he : starEach (e :: [.Name "tuple" p2]) X.env = (false, eval e X.env) :: starEach [.Name "tuple" p2] X.env := by rfl) (he2 : starEach [.Name "tuple" p2] X.env = (false, eval (.Name "tuple" p2) X.env) :: starEach [] X.env := by rfl) (hpl : (backTo pos (starEach [.Name "tuple" p2] X.env)).any (·.1) = false := by rfl) :
    ME X ca W (.Call (.Name "isinstance" p) [e, .Name "tuple" p2] [] pos) (mIsi PyData.isTuple m) := me_isi (cr_isi fun _ _ _ _ _ _ _ r h => PySem.W.isinstance_tuple_data r h) hm ht (by decide +kernel) ha hg hg2 (by decide) (by decide) he he2 hpl
theorem me_isi_list {p2 : Pos} (hm : X.mg "isinstance" = none) (ht : X.mg "list" = none) (ha : ME X ca W e m) (hg : Gl X "isinstance" := by rfl) (hg2 : Gl X "list" := by rfl)
    (he : starEach (e :: [.Name "list" p2]) X.env = (false, eval e X.env) :: starEach [.Name "list" p2] X.env := by rfl) (he2 : starEach [.Name "list" p2] X.env = (false, eval (.Name "list" p2) X.env) :: starEach [] X.env := by rfl) (hpl : (backTo pos (starEach [.Name "list" p2] X.env)).any (·.1) = false := by rfl) :
    ME X ca W (.Call (.Name "isinstance" p) [e, .Name "list" p2] [] pos) (mIsi PyData.isList m) := me_isi (cr_isi fun _ _ _ _ _ _ _ r h => PySem.W.isinstance_list_data r h) hm ht (by decide +kernel) ha hg hg2 (by decide) (by decide) he he2 hpl
theorem me_isi_int {p2 : Pos} (hm : X.mg "isinstance" = none) (ht : X.mg "int" = none) (ha : ME X ca W e m) (hg : Gl X "isinstance" := by rfl) (hg2 : Gl X "int" := by rfl)
    (he : starEach (e :: [.Name "int" p2]) X.env = (false, eval e X.env) :: starEach [.Name "int" p2] X.env := by rfl) (he2 : starEach [.Name "int" p2] X.env = (false, eval (.Name "int" p2) X.env) :: starEach [] X.env := by rfl) (hpl : (backTo pos (starEach [.Name "int" p2] X.env)).any (·.1) = false := by rfl) :
    ME X ca W (.Call (.Name "isinstance" p) [e, .Name "int" p2] [] pos) (mIsi PyData.isInt m) := me_isi (cr_isi fun _ _ _ _ _ _ _ r h => PySem.W.isinstance_int_data r h) hm ht (by decide +kernel) ha hg hg2 (by decide) (by decide) he he2 hpl
theorem me_isi_bool {p2 : Pos} (hm : X.mg "isinstance" = none) (ht : X.mg "bool" = none) (ha : ME X ca W e m) (hg : Gl X "isinstance" := by rfl) (hg2 : Gl X "bool" := by rfl)
    (he : starEach (e :: [.Name "bool" p2]) X.env = (false, eval e X.env) :: starEach [.Name "bool" p2] X.env := by rfl) (he2 : starEach [.Name "bool" p2] X.env = (false, eval (.Name "bool" p2) X.env) :: starEach [] X.env := by rfl) (hpl : (backTo pos (starEach [.Name "bool" p2] X.env)).any (·.1) = false := by rfl) :
    ME X ca W (.Call (.Name "isinstance" p) [e, .Name "bool" p2] [] pos) (mIsi PyData.isBool m) := me_isi (cr_isi fun _ _ _ _ _ _ _ r h => PySem.W.isinstance_bool_data r h) hm ht (by decide +kernel) ha hg hg2 (by decide) (by decide) he he2 hpl
theorem me_isi_str {p2 : Pos} (hm : X.mg "isinstance" = none) (ht : X.mg "str" = none) (ha : ME X ca W e m) (hg : Gl X "isinstance" := by rfl) (hg2 : Gl X "str" := by rfl)
    (he : starEach (e :: [.Name "str" p2]) X.env = (false, eval e X.env) :: starEach [.Name "str" p2] X.env := by rfl) (he2 : starEach [.Name "str" p2] X.env = (false, eval (.Name "str" p2) X.env) :: starEach [] X.env := by rfl) (hpl : (backTo pos (starEach [.Name "str" p2] X.env)).any (·.1) = false := by rfl) :
    ME X ca W (.Call (.Name "isinstance" p) [e, .Name "str" p2] [] pos) (mIsi PyData.isStr m) := me_isi (cr_isi fun _ _ _ _ _ _ _ r h => PySem.W.isinstance_str_data r h) hm ht (by decide +kernel) ha hg hg2 (by decide) (by decide) he he2 hpl
theorem me_isi_dict {p2 : Pos} (hm : X.mg "isinstance" = none) (ht : X.mg "dict" = none) (ha : ME X ca W e m) (hg : Gl X "isinstance" := by rfl) (hg2 : Gl X "dict" := by rfl)
    (he : starEach (e :: [.Name "dict" p2]) X.env = (false, eval e X.env) :: starEach [.Name "dict" p2] X.env := by rfl) (he2 : starEach [.Name "dict" p2] X.env = (false, eval (.Name "dict" p2) X.env) :: starEach [] X.env := by rfl) (hpl : (backTo pos (starEach [.Name "dict" p2] X.env)).any (·.1) = false := by rfl) :
    ME X ca W (.Call (.Name "isinstance" p) [e, .Name "dict" p2] [] pos) (mIsi PyData.isDict m) := me_isi (cr_isi fun _ _ _ _ _ _ _ r h => PySem.W.isinstance_dict_data r h) hm ht (by decide +kernel) ha hg hg2 (by decide) (by decide) he he2 hpl
end

/-! ### defs -/
def spM (K : PySem.W.Frag) (ca : CA) (n : Nat) (m : LOp) : Sp := fun vs H Q E => ∃ w mh ds, w.H = H ∧ WOk K ca w mh ∧ RpAll K w vs ds ∧ vs.length = n ∧ PostG (repV K) K ca (fun cls d _ H' => E cls d H') [] w (m ds mh) Q
structure FnM (P : Program) (w : World) (K : PySem.W.Frag) (mg : Str → Option Value) (base : Heap) (ca : CA) (k : Nat) (x : Str) (n : Nat) (m : LOp) : Prop where
  ex : ∃ (f : Addr) (fd : FuncData) (ps : List Str), FnOk P w K mg base (L2.CX P w) k f fd ps (spM K ca n m) ∧ mg x = some (.ref f) ∧ PySem.W.keepIn K (.ref f) = true ∧ ∀ us : List Value, us.length = ps.length → bindArgs fd ⟨us, []⟩ = pure (ps.zip us)
section
variable {X : Cx} {ca : CA} {W : WX} {e : Expr} {es : List Expr} {ms : Env → M (List D)} {f : LOp} {x : Str} {p pos : Pos} {n k : Nat}
def mCallN (n : Nat) (f : LOp) (ms : Env → M (List D)) : Env → M D := fun env => M.bind (ms env) fun ds => if ds.length = n then f ds else M.bad
theorem me_call (F : FnM X.prog X.w X.K X.mg X.base ca k x n f) (hr : Room k X.A) (tk : Takes X W) (ha : MA X ca W (e :: es) ms) (hg : Gl X x := by rfl) (hdb : (x == ("__debug__" : Str)) = false := by decide)
    (he : starEach (e :: es) X.env = (false, eval e X.env) :: starEach es X.env := by rfl) (hpl : (backTo pos (starEach es X.env)).any (·.1) = false := by rfl) : ME X ca W (.Call (.Name x p) (e :: es) [] pos) (mCallN n f ms) := by
  obtain ⟨fa, fd, ps, ok, hm, kp, hb⟩ := F.ex
  exact PE.mono (pe_callS ok hr hg hm kp (.all hb) (fun σ => passAt tk σ) ha hdb he hpl) fun σ H Q h => by
    obtain ⟨w, mh, env, rfl, hw, hfr, hp⟩ := h
    refine stepG (rep := repA X.K) hw hfr hp fun w1 mh1 v1 d1 x1 hw1 hf1 r1 hp1 => ?_
    have r1 : RpAll X.K w1 v1 d1 := r1
    by_cases c : d1.length = n
    · simp only [c, if_true] at hp1
      exact ⟨w1, mh1, d1, rfl, hw1, r1, r1.length.trans c, hp1⟩
    · simp only [c, if_false] at hp1; exact hp1.elim
def R.calm {α : Type} : R α → R α
  | .ok a h => .ok a h
  | .exc _ _ => .bad
  | .bad => .bad
  | .pick n k => .pick n fun i => (k i).calm
theorem wpR_calm {α : Type} {r : R α} {Q : α → MH → Prop} {E E' : Nat → MH → Prop} (h : wpR r.calm Q E) : wpR r Q E' := by
  induction r with
  | ok a m => exact h
  | exc c m => exact h.elim
  | bad => exact h
  | pick n k ih => exact ⟨h.1, fun i hi => ih i (h.2 i hi)⟩
def mCall0 (f : LOp) : Env → M D := fun _ h => (f [] h).calm
theorem me_call0 (F : FnM X.prog X.w X.K X.mg X.base ca k x 0 f) (hr : Room k X.A) (hg : Gl X x := by rfl) (hdb : (x == ("__debug__" : Str)) = false := by decide) : ME X ca W (.Call (.Name x p) [] [] pos) (mCall0 f) := by
  obtain ⟨fa, fd, ps, ok, hm, kp, hb⟩ := F.ex
  exact PE.mono (pe_call0 (E := E0) ok hr hg hm kp (.all hb) .nil passL hdb) fun σ H Q h => by
    obtain ⟨w, mh, env, rfl, hw, hfr, hp⟩ := h
    exact ⟨w, mh, [], rfl, hw, .nil, rfl, wpR_calm hp⟩
end
end AG
/-! AgF: what is walked, targets, fresh lists, comprehensions. -/
namespace AG
open PySem L2

/-! ### what is walked -/
structure Serves (K : PySem.W.Frag) (ca : CA) (w : Wd) (J : It) (ds : List D) : Prop where
  go : ∀ w2 mh i, Grow w w2 → WOk K ca w2 mh → i < ds.length → J.go i w2.H
  stop : ∀ w2 mh i, Grow w w2 → WOk K ca w2 mh → ds.length ≤ i → J.stop i w2.H
  yld : ∀ w2 mh i x H', Grow w w2 → WOk K ca w2 mh → i < ds.length → J.yld i w2.H x H' → ∃ d w3, ds[i]? = some d ∧ w3.H = H' ∧ Ext w2 w3 ∧ WOk K ca w3 mh ∧ Rp K w3 x d
theorem PI.mono {X : Cx} {tg e : Expr} {t t' : TI} (h : PI X tg e t) (k : ∀ σ H R, t' σ H R → t σ H R) : PI X tg e t' := ⟨fun pins s σ H R I q => h.run pins s σ H R I (k σ H R q)⟩
abbrev repI (K : PySem.W.Frag) (ca : CA) : Wd → It → List D → Prop := Serves K ca
abbrev MI (X : Cx) (ca : CA) (W : WX) (tg e : Expr) (m : Env → M (List D)) : Prop := PI X tg e (denG (repI X.K ca) X.K ca W m)

section
variable {K : PySem.W.Frag} {ca : CA} {w : Wd} {mh : MH}
theorem serves_lst {a : Addr} {xs : List V} {ds : List D} (h : w.L a = some xs) (r : RpAll K w xs ds) : Serves K ca w (Itl K a) ds where
  go := fun w2 mh i g hw hi => by
    have e := hw.subL _ _ (g.lz _ _ h)
    refine ⟨xs, xs[i]'(by rw [r.length]; exact hi), .of e, List.getElem?_eq_getElem _⟩
  stop := fun w2 mh i g hw hi => ⟨xs, .of (hw.subL _ _ (g.lz _ _ h)), by rw [r.length]; exact hi⟩
  yld := fun w2 mh i x H' g hw hi ⟨e, q⟩ => by
    subst e
    obtain ⟨d, e1, e2⟩ := (r.mono g).getV (q xs (.of (hw.subL _ _ (g.lz _ _ h))))
    exact ⟨d, w2, e1, rfl, Ext.refl _, hw, e2⟩
theorem serves_scr {a : Addr} {ns : List Int} (h : SqL K w.F a (ns.map V.int)) : Serves K ca w (Itl K a) (ns.map D.int) where
  go := fun w2 mh i g hw hi => by
    refine ⟨ns.map V.int, (ns.map V.int)[i]'(by simpa using hi), sqL_mono hw.sub (sqL_mono g.fz h), List.getElem?_eq_getElem _⟩
  stop := fun w2 mh i g hw hi => ⟨ns.map V.int, sqL_mono hw.sub (sqL_mono g.fz h), by simpa using hi⟩
  yld := fun w2 mh i x H' g hw hi ⟨e, q⟩ => by
    subst e
    obtain ⟨d, e1, e2⟩ := (RpAll.ints (w := w2) (K := K) ns).getV (q _ (sqL_mono hw.sub (sqL_mono g.fz h)))
    exact ⟨d, w2, e1, rfl, Ext.refl _, hw, e2⟩
theorem serves_tup {a : Addr} {xs : List V} {ds : List D} (h : SqT K w.F a xs) (r : RpAll K w xs ds) : Serves K ca w (Itt K a) ds where
  go := fun w2 mh i g hw hi => by
    have e := sqT_sub hw.sub (sqT_mono g.fz h)
    exact ⟨xs, xs[i]'(by rw [r.length]; exact hi), e, List.getElem?_eq_getElem _⟩
  stop := fun w2 mh i g hw hi => ⟨xs, sqT_sub hw.sub (sqT_mono g.fz h), by rw [r.length]; exact hi⟩
  yld := fun w2 mh i x H' g hw hi ⟨e, q⟩ => by
    subst e
    obtain ⟨d, e1, e2⟩ := (r.mono g).getV (q xs (sqT_sub hw.sub (sqT_mono g.fz h)))
    exact ⟨d, w2, e1, rfl, Ext.refl _, hw, e2⟩
def rngD (lo : Int) : Nat → List D
  | 0 => []
  | n + 1 => .int lo :: rngD (lo + 1) n
theorem rngD_def : ∀ (n : Nat) (lo : Int), rngD lo n = (List.range n).map fun i => .int (lo + (i : Nat))
  | 0, lo => rfl
  | n + 1, lo => by
    rw [rngD, rngD_def n (lo + 1), List.range_succ_eq_map, List.map_cons, List.map_map]
    refine List.cons_eq_cons.mpr ⟨by simp, List.map_congr_left fun i _ => ?_⟩
    show D.int (lo + 1 + (i : Nat)) = D.int (lo + ((i + 1 : Nat) : Nat))
    congr 1
    omega
theorem serves_rng {lo : Int} {n : Nat} : Serves K ca w (Itr lo n) (rngD lo n) where
  go := fun w2 mh i g hw hi => by
    show i < n
    simpa [rngD_def] using hi
  stop := fun w2 mh i g hw hi => by
    show n ≤ i
    simpa [rngD_def] using hi
  yld := fun w2 mh i x H' g hw hi ⟨e, q⟩ => by
    subst e q
    have hi' : i < n := by simpa [rngD_def] using hi
    exact ⟨.int (lo + i), w2, by simp [rngD_def, hi'], rfl, Ext.refl _, hw, .int _⟩
end
def itemsM (d : D) : M (List D) := match d with | .lst xs => M.pure xs | .tup xs => M.pure xs | .scr ns => M.pure (ns.map .int) | _ => M.bad
def mItems (m : Env → M D) : Env → M (List D) := fun env => M.bind (m env) itemsM
/-! ranges of any size -/
theorem turn_long {P : Program} {w : World} {K : PySem.W.Frag} {tg : Expr} (it : Addr) (lo : Int) (n : Nat) : Turn P w K tg (Itr lo n) [it] it (fun i h => IsLongIter h it (lo + (i : Nat) * 1) ((n : Int) - (i : Nat)) 1) where
  mem := by simp
  obj := fun i h st b hb => by
    have e : b = it := by simpa using hb
    subst e
    exact ⟨_, st, fun v z => by
      have z' : Data.fields _ = Data.cell v := z
      cases z'⟩
  keep := fun i h h' st k => k it (by simp) _ st
  item := by
    intro X hP hw hK hc i pins s σ H E I hf st hg
    subst hP hw hK
    obtain ⟨f0, f1, f2, f3, f4, f5⟩ := hf it (by simp)
    have W := Walks.longrange (prog := X.prog) (w := X.w) (I.ok.hd hc) it lo 1 n
    refine W.item i s _ _ hg st fun v h' tk hv st' kk => ?_
    obtain ⟨t, rfl⟩ := hv
    have I1 : Inv X pins σ H { s with heap := h', toks := tk } := I.turned (fun b o hb e => kk b o (by simpa using hb) e) f0 f1 f3 f4 f5
    refine ⟨_, rfl, go_of (s := { s with heap := h', toks := tk }) (n := "longrange_iterator") st' rfl rfl (by decide) ⟨.int (lo + i), H, I1, ⟨t, ?_⟩, ⟨rfl, rfl⟩, st', fun b hb => (hf b hb).1⟩⟩
    rw [Int.mul_one]
  done := by
    intro X hP hw hK hc i pins s σ H E I hf st hg
    subst hP hw hK
    obtain ⟨f0, f1, f2, f3, f4, f5⟩ := hf it (by simp)
    exact wpAny_pyNext_long_end (I.ok.hd hc) st (by have : n ≤ i := hg; omega) fun h' eb => ⟨rfl, I.turned (t' := s.toks) (fun b o hb e => eb b o hb e) f0 f1 f3 f4 f5⟩
  self := fun _ _ _ _ _ st h => wpAny_pyIter_longiter st h
theorem range_itW {X : Cx} {tg : Expr} {pins : List (Addr × Obj)} {σ : St} {H : Hp} {s : Shared} {R : It → Hp → Prop} {E : Value → Shared → Prop} {lo hi : Int} {t u v : Tok} {tk : Nat} (I : Inv X pins σ H s)
    (q : R (Itr lo (hi - lo).toNat) H) : wpAny (model X.prog X.w) X.A (pyIter (.ref s.heap.objs.size)) (PIE X pins σ tg R) E { s with heap := s.heap.push { cls := .type "range", data := .fields #[.int lo t, .int hi u, .int 1 v] }, toks := tk } := by
  have I1 : Inv X pins σ H { s with heap := s.heap.push { cls := .type "range", data := .fields #[.int lo t, .int hi u, .int 1 v] }, toks := tk } := I.kept fun b o e => Heap.get?_push_of_some _ e
  have e1 : lo + ((0 : Nat) : Int) * 1 = lo := by simp
  have e2 : (((hi - lo).toNat : Nat) : Int) - ((0 : Nat) : Int) = Builtin.Range.rangeSize lo hi 1 := by rw [rangeSize_one]; split <;> omega
  cases sm : Builtin.Range.small lo hi 1 with
  | true =>
    refine wpAny_pyIter_range (IsRange.new ..) sm ?_
    refine ⟨(s.heap.push { cls := .type "range", data := .fields #[.int lo t, .int hi u, .int 1 v] }).objs.size, [(s.heap.push { cls := .type "range", data := .fields #[.int lo t, .int hi u, .int 1 v] }).objs.size], _, _, H, rfl,
      I1.kept (t' := tk) fun b o e => Heap.get?_push_of_some _ e, turn_range _ lo (hi - lo).toNat, ?_, fun b hb => ?_, q⟩
    · show IsRangeIter _ _ (lo + ((0 : Nat) : Int) * 1) ((((hi - lo).toNat : Nat) : Int) - ((0 : Nat) : Int)) 1
      rw [e1, e2]
      exact Heap.get?_push_size _ rfl
    · have e : b = (s.heap.push { cls := .type "range", data := .fields #[.int lo t, .int hi u, .int 1 v] }).objs.size := by simpa using hb
      subst e
      exact I1.fpOk (Nat.le_refl _) (I1.hok.fresh (Nat.le_refl _))
  | false =>
    refine wpAny_pyIter_longrange (IsRange.new ..) sm ?_
    refine ⟨(s.heap.push { cls := .type "range", data := .fields #[.int lo t, .int hi u, .int 1 v] }).objs.size, [(s.heap.push { cls := .type "range", data := .fields #[.int lo t, .int hi u, .int 1 v] }).objs.size], _, _, H, rfl,
      I1.kept (t' := tk) fun b o e => Heap.get?_push_of_some _ e, turn_long _ lo (hi - lo).toNat, ?_, fun b hb => ?_, q⟩
    · show IsLongIter _ _ (lo + ((0 : Nat) : Int) * 1) ((((hi - lo).toNat : Nat) : Int) - ((0 : Nat) : Int)) 1
      rw [e1, e2]
      exact Heap.get?_push_size _ rfl
    · have e : b = (s.heap.push { cls := .type "range", data := .fields #[.int lo t, .int hi u, .int 1 v] }).objs.size := by simpa using hb
      subst e
      exact I1.fpOk (Nat.le_refl _) (I1.hok.fresh (Nat.le_refl _))
def iRng1W (ta : TA) : TI := fun σ H R => ta σ H fun vs H1 => ∃ j : Int, vs = [.int j] ∧ R (Itr 0 j.toNat) H1
theorem pi_range1W {X : Cx} {tg : Expr} {a : Expr} {ta : TA} {p pos : Pos} (hg : Gl X "range") (hm : X.mg "range" = none) (ha : PA X [a] ta) (hs : starEach [a] X.env = [(false, eval a X.env)] := by rfl) : PI X tg (.Call (.Name "range" p) [a] [] pos) (iRng1W ta) := by
  refine ⟨fun pins s σ H R I h => ?_⟩
  refine PyProof.Rows.Call_ (ld_blt I hg hm PyProof.Rows.boot_range (PyProof.Rows.callWith_type1 (thn (ha.run pos pins s σ H _ I h) fun us s1 ⟨vs, H1, I1, r1, q1⟩ => ?_) hs rfl))
  obtain ⟨j, e, q⟩ := q1
  subst e
  cases r1 with
  | cons r rr =>
    cases rr
    obtain ⟨t, rfl⟩ := r
    exact call_range_1 (range_itW I1 (by simpa using q))
def rngOk (i : Int) : Bool := decide (-4611686018427387904 ≤ i) && decide (i < 4611686018427387904)
def rng1M (d : D) : M (List D) := match d with | .int j => M.pure (rngD 0 j.toNat) | _ => M.bad
def rng2M (d e : D) : M (List D) := match d, e with | .int i, .int j => if (rngOk i && rngOk j) = true then M.pure (rngD i (j - i).toNat) else M.bad | _, _ => M.bad
def mRng1 (m : Env → M D) : Env → M (List D) := fun env => M.bind (m env) rng1M
def mRng2 (m m' : Env → M D) : Env → M (List D) := fun env => M.bind (m env) fun x => M.bind (m' env) fun y => rng2M x y
theorem rngOk_of {i : Int} (h : rngOk i = true) : -(2 ^ 62) ≤ i ∧ i < 2 ^ 62 := by
  simp only [rngOk, Bool.and_eq_true, decide_eq_true_eq] at h
  omega

/-- a list or a tuple, walked -/
def iSeq (K : PySem.W.Frag) (tl : TE) : TI := fun σ H R => tl σ H fun x H1 => ∃ a, x = .ref a ∧ (((∃ xs, SqL K H1 a xs) ∧ R (Itl K a) H1) ∨ ((∃ xs, SqT K H1 a xs) ∧ R (Itt K a) H1))
theorem pi_seq {X : Cx} {tg : Expr} {l : Expr} {tl : TE} (hl : PE X l tl) : PI X tg l (iSeq X.K tl) := by
  refine ⟨fun pins s σ H R I h => ?_⟩
  refine thn (hl.run pins s σ H _ I h) fun v s1 ⟨x, H1, I1, r1, q1⟩ => ?_
  obtain ⟨a, e, q⟩ := q1
  subst e
  cases r1
  rcases q with ⟨⟨xs, hq⟩, q⟩ | ⟨⟨xs, hq⟩, q⟩
  · obtain ⟨its, rv, p, hz⟩ := I1.list hq
    refine wpAny_pyIter_list p.isList ?_
    refine ⟨s1.heap.objs.size, [s1.heap.objs.size], _, _, H1, rfl, I1.kept (t' := s1.toks) fun b o e => Heap.get?_push_of_some _ e, turn_list a _, ⟨_, Heap.get?_push_size _ rfl, rfl, rfl⟩, fun b hb => ?_, q⟩
    have e : b = s1.heap.objs.size := by simpa using hb
    subst e
    exact I1.fpOk (Nat.le_refl _) (I1.hok.fresh (Nat.le_refl _))
  · obtain ⟨its, rv, p, hz⟩ := I1.tuple hq
    refine wpAny_pyIter_tuple (show s1.heap.IsTuple a its.toArray from p) ?_
    refine ⟨s1.heap.objs.size, [s1.heap.objs.size], _, _, H1, rfl, I1.kept (t' := s1.toks) fun b o e => Heap.get?_push_of_some _ e, turn_tuple a _, ⟨_, Heap.get?_push_size _ rfl, rfl, rfl⟩, fun b hb => ?_, q⟩
    have e : b = s1.heap.objs.size := by simpa using hb
    subst e
    exact I1.fpOk (Nat.le_refl _) (I1.hok.fresh (Nat.le_refl _))
section
variable {X : Cx} {ca : CA} {W : WX} {tg e a b : Expr} {m : Env → M D} {ms : Env → M (List D)} {p pos : Pos}
theorem mi_seq (h : ME X ca W e m) : MI X ca W tg e (mItems m) :=
  PI.mono (pi_seq h) fun σ H R q => by
    obtain ⟨w, mh, env, rfl, hw, hf, hp⟩ := q
    refine stepG (rep := repV X.K) hw hf hp fun w1 mh1 v1 d1 x1 hw1 hf1 r1 hp1 => ?_
    cases r1 with
    | tup h r => exact ⟨_, rfl, .inr ⟨⟨_, sqT_sub hw1.sub h⟩, PostG.ret hp1 hw1 (serves_tup h r)⟩⟩
    | lst h r => exact ⟨_, rfl, .inl ⟨⟨_, .of (hw1.subL _ _ h)⟩, PostG.ret hp1 hw1 (serves_lst h r)⟩⟩
    | scr h l => exact ⟨_, rfl, .inl ⟨⟨_, sqL_mono hw1.sub h⟩, PostG.ret hp1 hw1 (serves_scr h)⟩⟩
    | _ => exact hp1.elim
theorem mi_rng1 (hm : X.mg "range" = none) (ha : ME X ca W a m) (hg : Gl X "range" := by rfl) (hs : starEach [a] X.env = [(false, eval a X.env)] := by rfl) : MI X ca W tg (.Call (.Name "range" p) [a] [] pos) (mRng1 m) :=
  PI.mono (pi_range1W hg hm (pa_cons ha pa_nil hs) hs) fun σ H R q => by
    obtain ⟨w, mh, env, rfl, hw, hf, hp⟩ := q
    refine stepG (rep := repV X.K) hw hf hp fun w1 mh1 v1 d1 x1 hw1 hf1 r1 hp1 => ?_
    cases r1 <;> first | exact hp1.elim | skip
    rename_i j
    exact ⟨j, rfl, PostG.ret hp1 hw1 serves_rng⟩
theorem mi_rng2 {m' : Env → M D} (hm : X.mg "range" = none) (ha : ME X ca W a m) (hb : ME X ca W b m') (hg : Gl X "range" := by rfl) (hs : starEach [a, b] X.env = [(false, eval a X.env), (false, eval b X.env)] := by rfl) (hs2 : starEach [b] X.env = [(false, eval b X.env)] := by rfl) : MI X ca W tg (.Call (.Name "range" p) [a, b] [] pos) (mRng2 m m') :=
  PI.mono (pi_range2 hg hm (pa_cons ha (pa_cons hb pa_nil hs2) (by rw [hs, hs2])) hs hs2) fun σ H R q => by
    obtain ⟨w, mh, env, rfl, hw, hf, hp⟩ := q
    refine stepG (rep := repV X.K) hw hf hp fun w1 mh1 v1 d1 x1 hw1 hf1 r1 hp1 => ?_
    refine stepG (rep := repV X.K) hw1 hf1 hp1 fun w2 mh2 v2 d2 x2 hw2 hf2 r2 hp2 => ?_
    cases r1 <;> cases r2 <;> first | exact hp2.elim | skip
    rename_i i j
    by_cases c : (rngOk i && rngOk j) = true
    · simp only [rng2M, c, if_true] at hp2
      have c' : rngOk i = true ∧ rngOk j = true := by simpa using c
      exact ⟨i, j, rfl, ⟨(rngOk_of c'.1).1, (rngOk_of c'.1).2, (rngOk_of c'.2).1, (rngOk_of c'.2).2⟩, PostG.ret hp2 hw2 serves_rng⟩
    · simp only [rng2M, c] at hp2; exact hp2.elim
end

/-! ### targets -/
abbrev Tgt := D → Env → Option Env
def tgName (i : Nat) : Tgt := fun d env => some (env.set i (.v d))
def tgTup : List Tgt → Tgt := fun ts d env => match d with
  | .tup ds => if ds.length = ts.length then (ts.zip ds).foldl (fun o p => o.bind (p.1 p.2)) (some env) else none
  | _ => none
/-- the lists of one's own were so before -/
def OwnBack (env' : Env) (σ' : St) (env : Env) (σ : St) : Prop := ∀ (i : Nat) (ds : List D) (a : Addr), env'[i]? = some (Slot.own ds) → σ'[i]? = some (some (V.ref a)) → env[i]? = some (Slot.own ds) ∧ σ[i]? = some (some (V.ref a))
/-- g does what t says, and touches the slots vs alone -/
def GOk (K : PySem.W.Frag) (g : TG) (t : Tgt) (vs : List Nat) : Prop := ∀ (w : Wd) (v : V) (d : D) (env env' : Env) (σ : St) (Q : St → Hp → Prop), Subs w → Rp K w v d → FrOk K w env σ → t d env = some env' →
  (∀ σ', FrOk K w env' σ' → wipe σ' vs = wipe σ vs → OwnBack env' σ' env σ → Q σ' w.H) → g v σ w.H Q
def GsOk (K : PySem.W.Frag) (g : TGs) (ts : List Tgt) (vs : List Nat) : Prop := ∀ (w : Wd) (us : List V) (ds : List D) (env env' : Env) (σ : St) (Q : St → Hp → Prop), Subs w → RpAll K w us ds → ds.length = ts.length → FrOk K w env σ → (ts.zip ds).foldl (fun o p => o.bind (p.1 p.2)) (some env) = some env' →
  (∀ σ', FrOk K w env' σ' → wipe σ' vs = wipe σ vs → OwnBack env' σ' env σ → Q σ' w.H) → g us σ w.H Q
section
variable {K : PySem.W.Frag} {w : Wd} {env : Env} {σ : St}
theorem getElem?_setS {α : Type} {l : List α} {i j : Nat} {x : α} : (l.set i x)[j]? = if i = j then (if j < l.length then some x else none) else l[j]? := by
  rw [List.getElem?_set]
  by_cases h : i = j
  · subst h; simp
  · simp [h]
theorem FrOk.set (hf : FrOk K w env σ) {i : Nat} {v : V} {d : D} (r : Rp K w v d) : FrOk K w (env.set i (.v d)) (σ.set i (some v)) := by
  refine ⟨by simp [hf.len], fun j e h => ?_, fun j ds h => ?_, fun j k ds es a ne h1 h2 h3 => ?_⟩
  · by_cases ij : i = j
    · subst ij
      rw [getElem?_setS, if_pos rfl] at h
      by_cases l : i < env.length
      · rw [if_pos l] at h
        cases h
        exact ⟨v, by rw [getElem?_setS, if_pos rfl, if_pos (by rw [hf.len]; exact l)], r⟩
      · rw [if_neg l] at h; cases h
    · rw [getElem?_setS, if_neg ij] at h
      obtain ⟨u, e1, e2⟩ := hf.v j e h
      exact ⟨u, by rw [getElem?_setS, if_neg ij]; exact e1, e2⟩
  · by_cases ij : i = j
    · subst ij
      rw [getElem?_setS, if_pos rfl] at h
      split at h <;> cases h
    · rw [getElem?_setS, if_neg ij] at h
      obtain ⟨a, e1, e2⟩ := hf.own j ds h
      exact ⟨a, by rw [getElem?_setS, if_neg ij]; exact e1, e2⟩
  · by_cases ij : i = j
    · subst ij
      rw [getElem?_setS, if_pos rfl] at h1
      split at h1 <;> cases h1
    · by_cases ik : i = k
      · subst ik
        rw [getElem?_setS, if_pos rfl] at h2
        split at h2 <;> cases h2
      · rw [getElem?_setS, if_neg ij] at h1 h3
        rw [getElem?_setS, if_neg ik] at h2 ⊢
        exact hf.sep j k ds es a ne h1 h2 h3
theorem wipe_set_in {σ : St} {i : Nat} {x : Option V} : ∀ {vs : List Nat}, i ∈ vs → wipe (σ.set i x) vs = wipe σ vs
  | [], h => by cases h
  | v :: vs, h => by
    by_cases q : i ∈ vs
    · unfold wipe; rw [wipe_set_in q]
    · have e : i = v := by
        rcases List.mem_cons.mp h with h | h
        · exact h
        · exact absurd h q
      subst e
      unfold wipe
      have : ∀ us : List Nat, i ∉ us → wipe (σ.set i x) us = (wipe σ us).set i x := by
        intro us
        induction us with
        | nil => intro _; rfl
        | cons u us ih =>
          intro hu
          have h1 : i ≠ u := fun e => hu (by rw [e]; exact List.mem_cons_self)
          have h2 : i ∉ us := fun z => hu (List.mem_cons_of_mem _ z)
          unfold wipe
          rw [ih h2, List.set_comm _ _ h1]
      rw [this vs q, List.set_set]
theorem gok_name {i : Nat} {vs : List Nat} (h : i ∈ vs) : GOk K (gName i) (tgName i) vs := by
  intro w v d env env' σ Q hs r hf e k
  cases e
  refine k _ (hf.set r) (wipe_set_in h) fun j ds a h1 h2 => ?_
  by_cases ij : i = j
  · subst ij
    rw [getElem?_setS, if_pos rfl] at h1
    split at h1 <;> cases h1
  · rw [getElem?_setS, if_neg ij] at h1 h2
    exact ⟨h1, h2⟩
theorem gsok_nil {vs : List Nat} : GsOk K gNil [] vs := by
  intro w us ds env env' σ Q hs r hl hf e k
  cases ds with
  | nil =>
    cases r
    cases e
    exact ⟨rfl, k _ hf rfl fun _ _ _ a b => ⟨a, b⟩⟩
  | cons d ds => simp at hl
theorem foldl_none {α : Type} {l : List α} {f : α → Env → Option Env} : l.foldl (fun o p => o.bind (f p)) none = none := by
  induction l with
  | nil => rfl
  | cons a l ih => exact ih
theorem gsok_cons {g : TG} {u : TGs} {t : Tgt} {ts : List Tgt} {vs : List Nat} (h1 : GOk K g t vs) (h2 : GsOk K u ts vs) : GsOk K (gCons g u) (t :: ts) vs := by
  intro w us ds env env' σ Q hs r hl hf e k
  cases ds with
  | nil => simp at hl
  | cons d ds =>
    cases r with
    | cons rv rr =>
      refine ⟨_, _, rfl, ?_⟩
      simp only [List.zip_cons_cons, List.foldl_cons, Option.bind_some] at e
      cases q : t d env with
      | none => rw [q, foldl_none (f := fun p : Tgt × D => p.1 p.2)] at e; cases e
      | some env1 =>
        rw [q] at e
        refine h1 w _ d env env1 σ _ hs rv hf q fun σ1 f1 w1 o1 => ?_
        refine h2 w _ ds env1 env' σ1 Q hs rr (by simpa using hl) f1 e fun σ2 f2 w2 o2 => k σ2 f2 (w2.trans w1) fun i es a z1 z2 => ?_
        obtain ⟨z3, z4⟩ := o2 i es a z1 z2
        exact o1 i es a z3 z4
theorem gok_tup {n : Nat} {u : TGs} {ts : List Tgt} {vs : List Nat} (hn : n = ts.length) (h : GsOk K u ts vs) : GOk K (gTup K n u) (tgTup ts) vs := by
  intro w v d env env' σ Q hs r hf e k
  cases r <;> try (simp [tgTup] at e; done)
  rename_i a xs ds hq r
  simp only [tgTup] at e
  split at e
  · rename_i hl
    exact ⟨a, xs, rfl, sqT_sub hs.f hq, by rw [r.length, hl, hn], h w xs ds env env' σ Q hs r hl hf e k⟩
  · cases e
end
end AG
/-! AgG: fresh lists, comprehensions. -/
namespace AG
open PySem L2

section
variable {K : PySem.W.Frag} {ca : CA} {W : WX} {w w1 : Wd} {env : Env} {σ : St} {mh : MH}
/-- what is wanted of an exception -/
def ExP (K : PySem.W.Frag) (ca : CA) (W : WX) (σ : St) (w : Wd) : Nat → MH → Prop := fun cl mh => ∀ w', Ext w w' → WOk K ca w' mh → W (.ref (ca cl)) none σ w'.H
theorem stepX {α β α2 : Type} {rep : Wd → β → α → Prop} {ma : Env → M α} {f : α → M α2} {Z : α2 → MH → Prop} {Ex : Nat → MH → Prop} {K1 : β → Hp → Prop} (hw : WOk K ca w mh) (hf : FrOk K w env σ) (hp : wpR (M.bind (ma env) f mh) Z Ex)
    (hex : ∀ cl mh, Ex cl mh → ∀ w', Ext w w' → WOk K ca w' mh → W (.ref (ca cl)) none σ w'.H)
    (k : ∀ w1 mh1 v d, Ext w w1 → WOk K ca w1 mh1 → FrOk K w1 env σ → rep w1 v d → wpR (f d mh1) Z Ex → K1 v w1.H) : denG rep K ca W ma σ w.H K1 :=
  ⟨w, mh, env, rfl, hw, hf, wpR_mono (wpR_bind.mp hp) (fun d mh' q w1 v x hw1 r => k w1 mh' v d x hw1 (hf.ext x) r q) hex⟩

def PostF (K : PySem.W.Frag) (ca : CA) (W : WX) (σ : St) (w : Wd) (r : R (List D)) (Q : VK) : Prop :=
  wpR r (fun ds mh => ∀ w' p, Ext w w' → WOk K ca w' mh → w.H p = none → Own K w' p ds → Q (.ref p) w'.H) (ExP K ca W σ w)
def denF (K : PySem.W.Frag) (ca : CA) (W : WX) (m : Env → M (List D)) : TE := fun σ H Q => ∃ w mh env, w.H = H ∧ WOk K ca w mh ∧ FrOk K w env σ ∧ PostF K ca W σ w (m env mh) Q
abbrev MF (X : Cx) (ca : CA) (W : WX) (e : Expr) (m : Env → M (List D)) : Prop := PE X e (denF X.K ca W m)

/-- the thing at p is written: no one's but one's own -/
theorem WOk.wr (hw : WOk K ca w mh) {p : Addr} {o : HO} (hF : w.F p = none) (hL : w.L p = none) (hr : p ∉ w.ρ) : WOk K ca (w.put p o) mh := by
  refine ⟨fun a u h => ?_, fun a xs h => ?_, hw.len, hw.nd, fun n a mo h1 h2 => ?_⟩
  · have h' : w.F a = some u := h
    have ne : a ≠ p := fun e => by subst e; rw [hF] at h'; cases h'
    show upd w.H p o a = some u
    rw [upd_ne ne]
    exact hw.sub _ _ h'
  · have h' : w.L a = some xs := h
    have ne : a ≠ p := fun e => by subst e; rw [hL] at h'; cases h'
    show upd w.H p o a = some (.lst xs)
    rw [upd_ne ne]
    exact hw.subL _ _ h'
  · obtain ⟨f, l, q⟩ := hw.obj n a mo h1 h2
    have ne : a ≠ p := fun e => by subst e; exact hr (List.mem_of_getElem? h1)
    exact ⟨f, l, q.grow (fun u z => by show upd w.H p o a = some u; rw [upd_ne ne]; exact z) ⟨⟨[], by simp [Wd.put]⟩, fun _ _ h => h, fun _ _ h => h⟩⟩
theorem Ext.wr {w0 : Wd} (x : Ext w0 w) {p : Addr} {o : HO} (hn : w0.H p = none) : Ext w0 (w.put p o) := by
  refine ⟨x.rho, x.fz, x.lz, fun a u h hr => ?_, x.nf, x.nl, fun a h => ?_⟩
  · have ne : a ≠ p := fun e => by subst e; rw [hn] at h; cases h
    show upd w.H p o a = some u
    rw [upd_ne ne]
    exact x.kp _ _ h hr
  · by_cases e : a = p
    · subst e; exact hn
    · have h : upd w.H p o a = none := h
      rw [upd_ne e] at h
      exact x.th a h
theorem put_grow {p : Addr} {o : HO} : Grow w (w.put p o) := ⟨⟨[], by simp [Wd.put]⟩, fun _ _ h => h, fun _ _ h => h⟩
theorem Own.put {p : Addr} {vs : List V} {ds : List D} (hF : w.F p = none) (hL : w.L p = none) (hr : p ∉ w.ρ) (r : RpAll K w vs ds) : Own K (w.put p (.lst vs)) p ds :=
  ⟨⟨vs, upd_same, r.mono put_grow⟩, hF, hL, hr⟩
/-- a new list -/
theorem PostF.new {ds : List D} {vs : List V} {Q : VK} {w0 : Wd} (h : ∀ w' p, Ext w0 w' → WOk K ca w' mh → w0.H p = none → Own K w' p ds → Q (.ref p) w'.H) (x : Ext w0 w) (hw : WOk K ca w mh) (r : RpAll K w vs ds) : ∀ p, w.H p = none → Q (.ref p) (upd w.H p (.lst vs)) := fun p hp =>
  h (w.put p (.lst vs)) p (x.trans (Ext.put hw hp)) (hw.put hp) (x.th p hp) (Own.put (hw.fnone hp) (hw.lnone hp) (hw.nrho hp) r)

/-- one's own list is not written any more -/
def Wd.lock (w : Wd) (p : Addr) (vs : List V) : Wd := ⟨w.ρ, w.F, updL w.L p vs, w.H⟩
theorem lock_grow {p : Addr} {vs : List V} (hL : w.L p = none) : Grow w (w.lock p vs) := ⟨⟨[], by simp [Wd.lock]⟩, fun _ _ h => h, fun a u h => by
  show updL w.L p vs a = some u
  rw [updL_ne (fun e => by subst e; rw [hL] at h; cases h)]
  exact h⟩
theorem WOk.lock (hw : WOk K ca w mh) {p : Addr} {vs : List V} (hH : w.H p = some (.lst vs)) (hL : w.L p = none) (hr : p ∉ w.ρ) : WOk K ca (w.lock p vs) mh := by
  refine ⟨hw.sub, fun a xs h => ?_, hw.len, hw.nd, fun n a mo h1 h2 => ?_⟩
  · have h : updL w.L p vs a = some xs := h
    by_cases e : a = p
    · subst e; rw [updL_same] at h; cases h; exact hH
    · rw [updL_ne e] at h; exact hw.subL _ _ h
  · obtain ⟨f, l, q⟩ := hw.obj n a mo h1 h2
    have ne : a ≠ p := fun e => by subst e; exact hr (List.mem_of_getElem? h1)
    exact ⟨f, by show updL w.L p vs a = none; rw [updL_ne ne]; exact l, q.grow (fun u z => z) (lock_grow hL)⟩
theorem Ext.lock {w0 : Wd} (x : Ext w0 w) {p : Addr} {vs : List V} (hn : w0.H p = none) (hL : w.L p = none) : Ext w0 (w.lock p vs) := by
  refine ⟨x.rho, x.fz, fun a u h => (lock_grow hL).lz a u (x.lz a u h), x.kp, x.nf, fun a u h => ?_, x.th⟩
  have h : updL w.L p vs a = some u := h
  by_cases e : a = p
  · subst e; exact .inr hn
  · rw [updL_ne e] at h; exact x.nl a u h
end

def mFrz (m : Env → M (List D)) : Env → M D := fun env => M.bind (m env) fun ds => M.pure (.lst ds)
section
variable {X : Cx} {ca : CA} {W : WX} {e : Expr} {es : List Expr} {m : Env → M (List D)} {ms : Env → M (List D)} {pos : Pos}
theorem me_of_mf (h : MF X ca W e m) : ME X ca W e (mFrz m) := PE.mono h fun σ H Q q => by
  obtain ⟨w, mh, env, rfl, hw, hf, hp⟩ := q
  refine ⟨w, mh, env, rfl, hw, hf, ?_⟩
  refine wpR_mono (wpR_bind.mp hp) (fun ds mh' q w' p x hw' hn o => ?_) fun _ _ q => q
  obtain ⟨vs, hH, r⟩ := o.at'
  exact q (w'.lock p vs) (.ref p) (x.lock hn o.nL) (hw'.lock hH o.nL o.nr) (.lst updL_same (r.mono (lock_grow o.nL)))
def mLstF (ms : Env → M (List D)) : Env → M (List D) := fun env => M.bind (ms env) fun xs => if xs.length ≤ 16777216 then M.pure xs else M.bad
theorem mf_lst (h : MA X ca W es ms) : MF X ca W (.List es pos) (mLstF ms) :=
  PE.mono (pe_lst h) fun σ H Q h => by
    obtain ⟨w, mh, env, rfl, hw, hf, hp⟩ := h
    refine stepX (rep := repA X.K) hw hf hp (fun _ _ q => q) fun w1 mh1 v1 d1 x1 hw1 hf1 r1 hp1 => ?_
    have r1 : RpAll X.K w1 v1 d1 := r1
    by_cases q : d1.length ≤ 16777216
    · simp only [q, if_true] at hp1
      exact ⟨by rw [r1.length, sizeLine_lit]; exact q, PostF.new hp1 x1 hw1 r1⟩
    · simp only [q, if_false] at hp1; exact hp1.elim
def itemsF (ds : List D) : M (List D) := match ds with | [d] => itemsM d | _ => M.bad
def mListF (ms : Env → M (List D)) : Env → M (List D) := fun env => M.bind (ms env) itemsF
theorem mf_list1 {p : Pos} (hm : X.mg "list" = none) (ha : MA X ca W (e :: es) ms) (hg : Gl X "list" := by rfl) (he : starEach (e :: es) X.env = (false, eval e X.env) :: starEach es X.env := by rfl) (hpl : (backTo pos (starEach es X.env)).any (·.1) = false := by rfl) :
    MF X ca W (.Call (.Name "list" p) (e :: es) [] pos) (mListF ms) :=
  PE.mono (pe_callTy call_list_of hg hm (by decide +kernel) ha (by decide) (by decide) he hpl) fun σ H Q h => by
    obtain ⟨w, mh, env, rfl, hw, hf, hp⟩ := h
    refine stepX (rep := repA X.K) hw hf hp (fun _ _ q => q) fun w1 mh1 v1 d1 x1 hw1 hf1 r1 hp1 => ?_
    have r1 : RpAll X.K w1 v1 d1 := r1
    match d1, r1, hp1 with
    | [.tup ys], r1, hp1 =>
      obtain ⟨x, rfl, q⟩ := r1.one
      cases q with
      | tup h1 h2 => exact ⟨_, _, rfl, .inr (sqT_sub hw1.sub h1), PostF.new hp1 x1 hw1 h2⟩
    | [.lst ys], r1, hp1 =>
      obtain ⟨x, rfl, q⟩ := r1.one
      cases q with
      | lst h1 h2 => exact ⟨_, _, rfl, .inl (.of (hw1.subL _ _ h1)), PostF.new hp1 x1 hw1 h2⟩
    | [], r1, hp1 => exact hp1.elim
    | _ :: _ :: _, r1, hp1 => exact hp1.elim
    | [.non], r1, hp1 => exact hp1.elim
    | [.bl _], r1, hp1 => exact hp1.elim
    | [.int _], r1, hp1 => exact hp1.elim
    | [.str _], r1, hp1 => exact hp1.elim
    | [.ref _], r1, hp1 => exact hp1.elim
    | [.scr ns], r1, hp1 =>
      obtain ⟨x, rfl, q⟩ := r1.one
      cases q with
      | scr h1 h2 => exact ⟨_, _, rfl, .inl (sqL_mono hw1.sub h1), PostF.new hp1 x1 hw1 (RpAll.ints ns)⟩
end

/-! ### comprehensions -/
def wipeE (env : Env) : List Nat → Env
  | [] => env
  | v :: vs => (wipeE env vs).set v .no
def compF (t : Tgt) (tt : Env → M Bool) (te : Env → M D) (env : Env) : List D → M (List D)
  | [] => M.pure []
  | x :: xs => match t x env with
    | some env1 => M.bind (tt env1) fun b => if b = true then M.bind (te env1) fun y => M.bind (compF t tt te env xs) fun ys => M.pure (y :: ys) else compF t tt te env xs
    | none => M.bad
def mLc (mi : Env → M (List D)) (t : Tgt) (tt : Env → M Bool) (te : Env → M D) (vs : List Nat) : Env → M (List D) :=
  fun env => M.bind (mi env) fun xs => if xs.length ≤ 16777216 then (fun h => (compF t tt te (wipeE env vs) xs h).calm) else M.bad
theorem set_wipe {i : Nat} : ∀ {σ : St} {vs : List Nat}, i ∈ vs → (L2.wipe σ vs).set i none = L2.wipe σ vs
  | σ, [], h => by cases h
  | σ, v :: vs, h => by
    unfold L2.wipe
    by_cases e : i = v
    · subst e; rw [List.set_set]
    · rw [List.set_comm _ _ (Ne.symm e)]
      rcases List.mem_cons.mp h with h | h
      · exact absurd h e
      · rw [set_wipe h]
theorem wipe_wipe {σ : St} {vs : List Nat} : L2.wipe (L2.wipe σ vs) vs = L2.wipe σ vs := by
  have : ∀ us : List Nat, (∀ i ∈ us, i ∈ vs) → L2.wipe (L2.wipe σ vs) us = L2.wipe σ vs := by
    intro us
    induction us with
    | nil => intro _; rfl
    | cons u us ih =>
      intro h
      show (L2.wipe (L2.wipe σ vs) us).set u none = L2.wipe σ vs
      rw [ih fun i hi => h i (List.mem_cons_of_mem _ hi)]
      exact set_wipe (h u List.mem_cons_self)
  exact this vs fun _ h => h
def mYes : Env → M Bool := fun _ => M.pure true
def W0 : WX := fun _ _ _ _ => False
section
variable {K : PySem.W.Frag} {w : Wd} {env : Env} {σ : St}
theorem FrOk.unset (hf : FrOk K w env σ) (i : Nat) : FrOk K w (env.set i .no) (σ.set i none) := by
  refine ⟨by simp [hf.len], fun j e h => ?_, fun j ds h => ?_, fun j k ds es a ne h1 h2 h3 => ?_⟩
  · by_cases ij : i = j
    · subst ij
      rw [getElem?_setS, if_pos rfl] at h
      split at h <;> cases h
    · rw [getElem?_setS, if_neg ij] at h
      obtain ⟨u, e1, e2⟩ := hf.v j e h
      exact ⟨u, by rw [getElem?_setS, if_neg ij]; exact e1, e2⟩
  · by_cases ij : i = j
    · subst ij
      rw [getElem?_setS, if_pos rfl] at h
      split at h <;> cases h
    · rw [getElem?_setS, if_neg ij] at h
      obtain ⟨a, e1, e2⟩ := hf.own j ds h
      exact ⟨a, by rw [getElem?_setS, if_neg ij]; exact e1, e2⟩
  · by_cases ij : i = j
    · subst ij
      rw [getElem?_setS, if_pos rfl] at h1
      split at h1 <;> cases h1
    · by_cases ik : i = k
      · subst ik
        rw [getElem?_setS, if_pos rfl] at h2
        split at h2 <;> cases h2
      · rw [getElem?_setS, if_neg ij] at h1 h3
        rw [getElem?_setS, if_neg ik] at h2 ⊢
        exact hf.sep j k ds es a ne h1 h2 h3
theorem FrOk.wipe (hf : FrOk K w env σ) : ∀ vs : List Nat, FrOk K w (wipeE env vs) (L2.wipe σ vs)
  | [] => hf
  | v :: vs => by unfold wipeE L2.wipe; exact (FrOk.wipe hf vs).unset v
end
theorem PTs.mono {X : Cx} {ifs : List Expr} {t t' : TT} (h : PTs X ifs t) (k : ∀ σ H Q, t' σ H Q → t σ H Q) : PTs X ifs t' := ⟨fun pins s σ H Q I q => h.run pins s σ H Q I (k σ H Q q)⟩
abbrev MTs (X : Cx) (ca : CA) (W : WX) (ifs : List Expr) (m : Env → M Bool) : Prop := PTs X ifs (denG repB X.K ca W m)
theorem mts_nil {X : Cx} {ca : CA} {W : WX} : MTs X ca W [] mYes := PTs.mono pts_nil fun σ H Q h => by
  obtain ⟨w, mh, env, rfl, hw, hf, hp⟩ := h
  exact PostG.ret (rep := repB) hp hw rfl
theorem mts_one {X : Cx} {ca : CA} {W : WX} {c : Expr} {m : Env → M Bool} (h : MT X ca W c m) : MTs X ca W [c] m := pts_one h

theorem lc_read {K : PySem.W.Frag} {ca : CA} {W : WX} {vs : List Nat} {mi : Env → M (List D)} {g : TG} {t : Tgt} {tt : Env → M Bool} {te : Env → M D} (hgk : GOk K g t vs) {σ : St} {H : Hp} {Q : VK} (h : denF K ca W (mLc mi t tt te vs) σ H Q) :
    tLc (denG (repI K ca) K ca W mi) g (denG repB K ca W0 tt) (denG (repV K) K ca W0 te) vs σ H Q := by
  obtain ⟨w, mh, env, rfl, hw, hf, hp⟩ := h
  refine stepX (rep := repI K ca) hw hf hp (fun _ _ q => q) fun w1 mh1 J xs x1 hw1 hf1 S hp1 => ?_
  have S : Serves K ca w1 J xs := S
  by_cases hl : xs.length ≤ 16777216
  case neg => simp only [hl, if_false] at hp1; exact hp1.elim
  simp only [hl, if_true] at hp1
  have hp1 := wpR_calm (E' := fun _ _ => False) hp1
  intro L hL
  refine ⟨fun i m H => m = xs.length - i ∧ i ≤ xs.length ∧ ∃ w2 mh2 dacc, w2.H = H ∧ Ext w1 w2 ∧ WOk K ca w2 mh2 ∧ Own K w2 L dacc ∧ dacc.length ≤ i ∧
    wpR (compF t tt te (wipeE env vs) (xs.drop i) mh2) (fun ys mh3 => ∀ w' p, Ext w w' → WOk K ca w' mh3 → w.H p = none → Own K w' p (dacc ++ ys) → Q (.ref p) w'.H) (fun _ _ => False), ⟨xs.length, by simp, Nat.zero_le _, w1.put L (.lst []), mh1, [], rfl, Ext.put hw1 hL, hw1.put hL, Own.put (hw1.fnone hL) (hw1.lnone hL) (hw1.nrho hL) .nil, Nat.zero_le _, by simpa using hp1⟩, ?_⟩
  rintro i m H ⟨rfl, hi, w2, mh2, dacc, rfl, x2, hw2, o2, hd, hp2⟩
  have fr2 := (hf1.ext x2).wipe vs
  by_cases hlt : i < xs.length
  · refine .inr ⟨S.go w2 mh2 i x2.grow hw2 hlt, fun H' => ∃ w4 mh4 dacc', w4.H = H' ∧ Ext w1 w4 ∧ WOk K ca w4 mh4 ∧ Own K w4 L dacc' ∧ dacc'.length ≤ i + 1 ∧
      wpR (compF t tt te (wipeE env vs) (xs.drop (i + 1)) mh4) (fun ys mh3 => ∀ w' p, Ext w w' → WOk K ca w' mh3 → w.H p = none → Own K w' p (dacc' ++ ys) → Q (.ref p) w'.H) (fun _ _ => False), fun H' q => ?_, fun x H' y => ?_⟩
    · exact ⟨xs.length - (i + 1), by omega, rfl, hlt, q⟩
    · obtain ⟨d, w3, e3, rfl, x3, hw3, r3⟩ := S.yld w2 mh2 i x H' x2.grow hw2 hlt y
      rw [List.drop_eq_getElem_cons hlt] at hp2
      have e3' : xs[i] = d := by rw [List.getElem?_eq_getElem hlt] at e3; exact Option.some.inj e3
      rw [e3'] at hp2
      cases q : t d (wipeE env vs) with
      | none => simp only [compF, q] at hp2; exact hp2.elim
      | some env1 =>
        simp only [compF, q] at hp2
        refine hgk w3 x d _ env1 _ _ hw3.subs r3 (fr2.ext x3) q fun σ1 f1 we _ => ⟨we.trans wipe_wipe, ?_⟩
        refine stepX (rep := repB) hw3 f1 hp2 (fun _ _ z => z.elim) fun w4 mh4 b b' x4 hw4 hf4 rb hp4 => ?_
        have rb : b = b' := rb
        subst rb
        have o4 := o2.ext (x3.trans x4)
        have x14 := x2.trans (x3.trans x4)
        cases b with
        | false =>
          simp only [Bool.false_eq_true, if_false] at hp4 ⊢
          exact ⟨w4, mh4, dacc, rfl, x14, hw4, o4, by omega, hp4⟩
        | true =>
          simp only [if_true] at hp4 ⊢
          refine stepX (rep := repV K) hw4 hf4 hp4 (fun _ _ z => z.elim) fun w5 mh5 v5 d5 x5 hw5 hf5 r5 hp5 => ?_
          have o5 := o4.ext x5
          obtain ⟨vs, hH, rr⟩ := o5.at'
          have r5 : Rp K w5 v5 d5 := r5
          refine ⟨vs, hH, by rw [rr.length, sizeLine_lit]; omega, w5.put L (.lst (vs ++ [v5])), mh5, dacc ++ [d5], rfl, (x14.trans x5).wr hL, hw5.wr o5.nF o5.nL o5.nr, Own.put o5.nF o5.nL o5.nr (rr.append (.cons r5 .nil)), by simp; omega, ?_⟩
          refine wpR_mono (wpR_bind.mp hp5) (fun ys mh6 z w' p a1 a2 a3 a4 => ?_) fun _ _ z => z
          exact z w' p a1 a2 a3 (by simpa using a4)
  · have e : i = xs.length := by omega
    subst e
    refine .inl ⟨S.stop w2 mh2 _ x2.grow hw2 (Nat.le_refl _), ?_⟩
    rw [List.drop_length] at hp2
    exact hp2 w2 L (x1.trans x2) hw2 (x1.th _ hL) (by simpa using o2)

theorem mf_lc {X : Cx} {ca : CA} {W : WX} {elt tg iter : Expr} {ifs : List Expr} {scope : Scope} {own : List (Str × Nat)} {pos : Pos} {mi : Env → M (List D)} {g : TG} {t : Tgt} {tt : Env → M Bool} {te : Env → M D}
    (hc : X.calm = true) (hN : X.N.Nodup) (hi : MI X ca W tg iter mi) (ok : BlkOk X.N X.env.scope scope own) (hgk : GOk X.K g t (own.map (·.2)))
    (hg : ∀ (s : Shared) (H : Hp) (C : Addr) (cl : List (Str × Addr)) (fp : List Addr), PG (X.blk s H scope (compEnvC scope cl C X.env) fp) tg g)
    (ht : ∀ (s : Shared) (H : Hp) (C : Addr) (cl : List (Str × Addr)) (fp : List Addr), MTs (X.blk s H scope (compEnvC scope cl C X.env) fp) ca W0 ifs tt)
    (he : ∀ (s : Shared) (H : Hp) (C : Addr) (cl : List (Str × Addr)) (fp : List Addr), ME (X.blk s H scope (compEnvC scope cl C X.env) fp) ca W0 elt te)
    (hs : ∀ x, foldedSetIterable iter X.env x = pure x := by intro _; rfl) : MF X ca W (.ListComp elt [⟨tg, iter, ifs, 0⟩] scope pos) (mLc mi t tt te (own.map (·.2))) :=
  PE.mono (pe_lc (te := denG (repV X.K) X.K ca W0 te) (tt := denG repB X.K ca W0 tt) hc hN hi ok hg ht he hs) fun σ H Q h => lc_read hgk h
end AG
/-! AgH: statements. -/
namespace AG
open PySem L2

structure SRel (K : PySem.W.Frag) (n : Nat) (w0 : Wd) (env : Env) (σ : St) (w : Wd) : Prop where
  ext : Ext w0 w
  fr : FrOk K w env σ
  ln : σ.length = n
  ow : ∀ (i : Nat) (ds : List D) (a : Addr), env[i]? = some (Slot.own ds) → σ[i]? = some (some (V.ref a)) → w0.H a = none
/-- what is wanted of a statement -/
def FlP (K : PySem.W.Frag) (ca : CA) (n : Nat) (w0 wb : Wd) (D' : Ends) : Fl → MH → Prop := fun fl mh => match fl with
  | .nx e => ∀ w σ, SRel K n w0 e σ w → Grow wb w → WOk K ca w mh → D'.nx σ w.H
  | .bk e => ∀ w σ, SRel K n w0 e σ w → Grow wb w → WOk K ca w mh → D'.bk σ w.H
  | .ct e => ∀ w σ, SRel K n w0 e σ w → Grow wb w → WOk K ca w mh → D'.ct σ w.H
  | .rt d => ∀ w v, Ext w0 w → WOk K ca w mh → Rp K w v d → D'.rt v w.H
theorem FlP.grow {K : PySem.W.Frag} {ca : CA} {n : Nat} {w0 wb w1 : Wd} {D' : Ends} {fl : Fl} {mh : MH} (h : FlP K ca n w0 wb D' fl mh) (g : Grow wb w1) : FlP K ca n w0 w1 D' fl mh := by
  cases fl with
  | nx e => exact fun w σ s g' hw => h w σ s (g.trans g') hw
  | bk e => exact fun w σ s g' hw => h w σ s (g.trans g') hw
  | ct e => exact fun w σ s g' hw => h w σ s (g.trans g') hw
  | rt d => exact h
def ExS (K : PySem.W.Frag) (ca : CA) (W : WX) (n : Nat) (w0 : Wd) : Nat → MH → Prop := fun cl mh => ∀ w σ, Ext w0 w → WOk K ca w mh → σ.length = n → W (.ref (ca cl)) none σ w.H
def denS (K : PySem.W.Frag) (ca : CA) (W : WX) (n : Nat) (m : Env → M Fl) : TS := fun D' σ H => ∃ w0 w mh env, w.H = H ∧ WOk K ca w mh ∧ SRel K n w0 env σ w ∧ wpR (m env mh) (FlP K ca n w0 w D') (ExS K ca W n w0)
abbrev MS (X : Cx) (ca : CA) (W : WX) (n : Nat) (st : Stmt) (m : Env → M Fl) : Prop := PS X st (denS X.K ca W n m)
abbrev MSs (X : Cx) (ca : CA) (W : WX) (n : Nat) (st : List Stmt) (m : Env → M Fl) : Prop := PSs X st (denS X.K ca W n m)

section
variable {K : PySem.W.Frag} {ca : CA} {W : WX} {n : Nat} {w0 w w1 : Wd} {env : Env} {σ : St} {mh : MH}
theorem SRel.then (s : SRel K n w0 env σ w) (x : Ext w w1) : SRel K n w0 env σ w1 := ⟨s.ext.trans x, s.fr.ext x, s.ln, s.ow⟩
theorem stepS {α β : Type} {rep : Wd → β → α → Prop} {ma : Env → M α} {f : α → M Fl} {wb : Wd} {D' : Ends} {K1 : β → Hp → Prop} (hw : WOk K ca w mh) (s : SRel K n w0 env σ w) (hp : wpR (M.bind (ma env) f mh) (FlP K ca n w0 wb D') (ExS K ca W n w0))
    (k : ∀ w1 mh1 v d, Ext w w1 → WOk K ca w1 mh1 → SRel K n w0 env σ w1 → rep w1 v d → wpR (f d mh1) (FlP K ca n w0 wb D') (ExS K ca W n w0) → K1 v w1.H) : denG rep K ca W ma σ w.H K1 :=
  stepX hw s.fr hp (fun cl mh q w' x hw' => q w' σ (s.ext.trans x) hw' s.ln) fun w1 mh1 v d x hw1 _ r hp1 => k w1 mh1 v d x hw1 (s.then x) r hp1
theorem SRel.set (s : SRel K n w0 env σ w) {i : Nat} {v : V} {d : D} (r : Rp K w v d) : SRel K n w0 (env.set i (.v d)) (σ.set i (some v)) w := by
  refine ⟨s.ext, s.fr.set r, by simp [s.ln], fun j ds a h1 h2 => ?_⟩
  by_cases ij : i = j
  · subst ij
    rw [getElem?_setS, if_pos rfl] at h1
    split at h1 <;> cases h1
  · rw [getElem?_setS, if_neg ij] at h1 h2
    exact s.ow j ds a h1 h2
theorem FrOk.setOwn (hf : FrOk K w env σ) {i : Nat} {a : Addr} {ds : List D} (o : Own K w a ds) (ne : ∀ (j : Nat) (es : List D), j ≠ i → env[j]? = some (Slot.own es) → σ[j]? ≠ some (some (V.ref a))) : FrOk K w (env.set i (.own ds)) (σ.set i (some (.ref a))) := by
  refine ⟨by simp [hf.len], fun j e h => ?_, fun j es h => ?_, fun j k es fs b hne h1 h2 h3 => ?_⟩
  · by_cases ij : i = j
    · subst ij
      rw [getElem?_setS, if_pos rfl] at h
      split at h <;> cases h
    · rw [getElem?_setS, if_neg ij] at h
      obtain ⟨u, e1, e2⟩ := hf.v j e h
      exact ⟨u, by rw [getElem?_setS, if_neg ij]; exact e1, e2⟩
  · by_cases ij : i = j
    · subst ij
      rw [getElem?_setS, if_pos rfl] at h
      by_cases l : i < env.length
      · rw [if_pos l] at h
        cases h
        exact ⟨a, by rw [getElem?_setS, if_pos rfl, if_pos (by rw [hf.len]; exact l)], o⟩
      · rw [if_neg l] at h; cases h
    · rw [getElem?_setS, if_neg ij] at h
      obtain ⟨b, e1, e2⟩ := hf.own j es h
      exact ⟨b, by rw [getElem?_setS, if_neg ij]; exact e1, e2⟩
  · by_cases ij : i = j
    · subst ij
      have ik : i ≠ k := hne
      rw [getElem?_setS, if_pos rfl] at h3
      rw [getElem?_setS, if_neg ik] at h2 ⊢
      split at h3
      · cases h3
        exact ne k fs (Ne.symm ik) h2
      · cases h3
    · rw [getElem?_setS, if_neg ij] at h1 h3
      by_cases ik : i = k
      · subst ik
        rw [getElem?_setS, if_pos rfl]
        intro q
        split at q
        · cases q
          exact ne j es (Ne.symm ij) h1 h3
        · cases q
      · rw [getElem?_setS, if_neg ik] at h2 ⊢
        exact hf.sep j k es fs b hne h1 h2 h3
theorem SRel.setOwn (s : SRel K n w0 env σ w) {i : Nat} {a : Addr} {ds : List D} (o : Own K w a ds) (hn : w0.H a = none) (ne : ∀ (j : Nat) (es : List D), j ≠ i → env[j]? = some (Slot.own es) → σ[j]? ≠ some (some (V.ref a))) : SRel K n w0 (env.set i (.own ds)) (σ.set i (some (.ref a))) w := by
  refine ⟨s.ext, s.fr.setOwn o ne, by simp [s.ln], fun j es b h1 h2 => ?_⟩
  by_cases ij : i = j
  · subst ij
    rw [getElem?_setS, if_pos rfl] at h2
    split at h2
    · cases h2; exact hn
    · cases h2
  · rw [getElem?_setS, if_neg ij] at h1 h2
    exact s.ow j es b h1 h2
/-- a list made since w stands in no slot yet -/
theorem FrOk.apart (hf : FrOk K w env σ) {a : Addr} (hn : w.H a = none) (j : Nat) (es : List D) (h : env[j]? = some (Slot.own es)) : σ[j]? ≠ some (some (V.ref a)) := fun q => by
  obtain ⟨b, e, o⟩ := hf.own j es h
  rw [q] at e
  cases e
  obtain ⟨vs, hH, _⟩ := o.at'
  rw [hn] at hH
  cases hH
/-- one's own list is written -/
theorem SRel.wr (s : SRel K n w0 env σ w) {i : Nat} {a : Addr} {ds ds' : List D} {vs : List V} (he : env[i]? = some (.own ds)) (hσ : σ[i]? = some (some (.ref a))) (r : RpAll K w vs ds') : SRel K n w0 (env.set i (.own ds')) σ (w.put a (.lst vs)) := by
  obtain ⟨a', e', o⟩ := s.fr.own i ds he
  rw [hσ] at e'
  cases e'
  have li : i < env.length := (List.getElem?_eq_some_iff.mp he).1
  refine ⟨s.ext.wr (s.ow i ds a he hσ), ⟨by simp [s.fr.len], fun j d h => ?_, fun j es h => ?_, fun j k es fs b ne h1 h2 h3 => ?_⟩, s.ln, fun j es b h1 h2 => ?_⟩
  · by_cases ij : i = j
    · subst ij
      rw [getElem?_setS, if_pos rfl, if_pos li] at h
      cases h
    · rw [getElem?_setS, if_neg ij] at h
      obtain ⟨u, e1, e2⟩ := s.fr.v j d h
      exact ⟨u, e1, e2.mono put_grow⟩
  · by_cases ij : i = j
    · subst ij
      rw [getElem?_setS, if_pos rfl, if_pos li] at h
      cases h
      exact ⟨a, hσ, Own.put o.nF o.nL o.nr r⟩
    · rw [getElem?_setS, if_neg ij] at h
      obtain ⟨b, e1, e2⟩ := s.fr.own j es h
      have ab : b ≠ a := fun e => by subst e; exact s.fr.sep i j ds es b ij he h hσ e1
      obtain ⟨us, hH, rr⟩ := e2.at'
      exact ⟨b, e1, ⟨⟨us, by show upd w.H a _ b = _; rw [upd_ne ab]; exact hH, rr.mono put_grow⟩, e2.nF, e2.nL, e2.nr⟩⟩
  · have own_of : ∀ (j : Nat) (es : List D), (env.set i (Slot.own ds'))[j]? = some (Slot.own es) → ∃ es', env[j]? = some (Slot.own es') := fun j es h => by
      by_cases ij : i = j
      · subst ij; exact ⟨ds, he⟩
      · rw [getElem?_setS, if_neg ij] at h; exact ⟨es, h⟩
    obtain ⟨es', q1⟩ := own_of j es h1
    obtain ⟨fs', q2⟩ := own_of k fs h2
    exact s.fr.sep j k es' fs' b ne q1 q2 h3
  · by_cases ij : i = j
    · subst ij; rw [hσ] at h2; cases h2; exact s.ow i ds a he hσ
    · rw [getElem?_setS, if_neg ij] at h1
      exact s.ow j es b h1 h2
end

/-! ### blocks -/
def mNx : Env → M Fl := fun env => M.pure (.nx env)
def mSeq (a b : Env → M Fl) : Env → M Fl := fun env => M.bind (a env) fun fl => match fl with | .nx e => b e | fl => M.pure fl
section
variable {X : Cx} {ca : CA} {W : WX} {n : Nat} {st : Stmt} {rest : List Stmt} {ma mb : Env → M Fl} {pos : Pos}
theorem mss_nil : MSs X ca W n [] mNx := PSs.mono pss_nil fun D' σ H h => by
  obtain ⟨w0, w, mh, env, rfl, hw, s, hp⟩ := h
  exact hp w σ s (Grow.refl _) hw
theorem mss_one (h : MS X ca W n st ma) : MSs X ca W n [st] ma := pss_one h
theorem mss_cons (h1 : MS X ca W n st ma) (h2 : MSs X ca W n rest mb) : MSs X ca W n (st :: rest) (mSeq ma mb) := PSs.mono (pss_cons h1 h2) fun D' σ H h => by
  obtain ⟨w0, w, mh, env, rfl, hw, s, hp⟩ := h
  refine ⟨w0, w, mh, env, rfl, hw, s, wpR_mono (wpR_bind.mp hp) (fun fl mh' q => ?_) fun _ _ q => q⟩
  cases fl with
  | nx e => exact fun w1 σ1 s1 g1 hw1 => ⟨w0, w1, mh', e, rfl, hw1, s1, wpR_mono q (fun _ _ z => z.grow g1) fun _ _ z => z⟩
  | bk e => exact q
  | ct e => exact q
  | rt d => exact q
theorem ms_pass : MS X ca W n (.Pass pos) mNx := PS.mono ps_pass fun D' σ H h => by
  obtain ⟨w0, w, mh, env, rfl, hw, s, hp⟩ := h
  exact hp w σ s (Grow.refl _) hw
def mBk : Env → M Fl := fun env => M.pure (.bk env)
def mCt : Env → M Fl := fun env => M.pure (.ct env)
theorem ms_break : MS X ca W n (.Break pos) mBk := PS.mono ps_break fun D' σ H h => by
  obtain ⟨w0, w, mh, env, rfl, hw, s, hp⟩ := h
  exact hp w σ s (Grow.refl _) hw
theorem ms_continue : MS X ca W n (.Continue pos) mCt := PS.mono ps_continue fun D' σ H h => by
  obtain ⟨w0, w, mh, env, rfl, hw, s, hp⟩ := h
  exact hp w σ s (Grow.refl _) hw
theorem ms_doc {x : Str} {j : Nat} {pos pos' : Pos} : MS X ca W n (.Expr (.Constant (.str x) j pos) pos') mNx := PS.mono ps_doc fun D' σ H h => by
  obtain ⟨w0, w, mh, env, rfl, hw, s, hp⟩ := h
  exact hp w σ s (Grow.refl _) hw
/-- never walked -/
def mDead : Env → M Fl := fun _ => M.bad
theorem ms_dead : MS X ca W n st mDead := PS.mono ps_never fun D' σ H h => by
  obtain ⟨w0, w, mh, env, rfl, hw, s, hp⟩ := h
  exact hp.elim
end

/-! ### simple statements -/
def mSet (i : Nat) (m : Env → M D) : Env → M Fl := fun env => M.bind (m env) fun d => M.pure (.nx (env.set i (.v d)))
def mSetOwn (i : Nat) (m : Env → M (List D)) : Env → M Fl := fun env => M.bind (m env) fun ds => M.pure (.nx (env.set i (.own ds)))
def mSetT (t : Tgt) (m : Env → M D) : Env → M Fl := fun env => M.bind (m env) fun d => match t d env with | some e => M.pure (.nx e) | none => M.bad
def mRet (m : Env → M D) : Env → M Fl := fun env => M.bind (m env) fun d => M.pure (.rt d)
def mRetN : Env → M Fl := fun _ => M.pure (.rt .non)
def mExpr (m : Env → M D) : Env → M Fl := fun env => M.bind (m env) fun _ => M.pure (.nx env)
def mIf (t : Env → M Bool) (a b : Env → M Fl) : Env → M Fl := fun env => M.bind (t env) fun c => if c = true then a env else b env
def mPar (i j : Nat) (ms : Env → M (List D)) : Env → M Fl := fun env => M.bind (ms env) fun ds => match ds with | [a, b] => M.pure (.nx ((env.set i (.v a)).set j (.v b))) | _ => M.bad
def mAug (f : DOp) (i : Nat) (m : Env → M D) : Env → M Fl := fun env => match env[i]? with | some (.v x) => M.bind (m env) fun y => M.bind (f x y) fun z => M.pure (.nx (env.set i (.v z))) | _ => M.bad
def augAdd : DOp := fun d e => match d, e with | .int i, .int j => M.pure (.int (i + j)) | _, _ => M.bad
section
variable {X : Cx} {ca : CA} {W : WX} {n : Nat} {e : Expr} {m : Env → M D} {mf ms : Env → M (List D)} {mt : Env → M Bool} {ma mb : Env → M Fl} {pos : Pos}
theorem ms_set {i : Nat} {x : Str} {pos' : Pos} (he : ME X ca W e m) (hN : X.N.Nodup) (hi : X.N[i]? = some x := by rfl) (hx : Loc X.env.scope x := by first | exact Or.inl rfl | exact Or.inr rfl) (hs : swapsWith e (some (.Name x pos')) pos.line X.env = pure false := by rfl) (hf : X.fn x = true ∨ X.env.scope.names.lookup x = some .local := by first | exact .inl rfl | exact .inr rfl) :
    MS X ca W n (.Assign [.Name x pos'] e pos) (mSet i m) := PS.mono (ps_set hN hi hx he hs hf) fun D' σ H h => by
  obtain ⟨w0, w, mh, env, rfl, hw, s, hp⟩ := h
  refine stepS (rep := repV X.K) hw s hp fun w1 mh1 v d x1 hw1 s1 r1 hp1 => ?_
  exact hp1 w1 _ (s1.set r1) x1.grow hw1
theorem ms_setOwn {i : Nat} {x : Str} {pos' : Pos} (he : MF X ca W e mf) (hN : X.N.Nodup) (hi : X.N[i]? = some x := by rfl) (hx : Loc X.env.scope x := by first | exact Or.inl rfl | exact Or.inr rfl) (hs : swapsWith e (some (.Name x pos')) pos.line X.env = pure false := by rfl) (hf : X.fn x = true ∨ X.env.scope.names.lookup x = some .local := by first | exact .inl rfl | exact .inr rfl) :
    MS X ca W n (.Assign [.Name x pos'] e pos) (mSetOwn i mf) := PS.mono (ps_set hN hi hx he hs hf) fun D' σ H h => by
  obtain ⟨w0, w, mh, env, rfl, hw, s, hp⟩ := h
  refine ⟨w, mh, env, rfl, hw, s.fr, wpR_mono (wpR_bind.mp hp) (fun ds mh' q w' p x hw' hn o => ?_) fun cl mh q w' x hw' => q w' σ (s.ext.trans x) hw' s.ln⟩
  exact q w' _ ((s.then x).setOwn o (s.ext.th p hn) fun j es _ h => s.fr.apart hn j es h) x.grow hw'
theorem ms_setT {tg : Expr} {g : TG} {t : Tgt} {vs : List Nat} (he : ME X ca W e m) (hg : PG X tg g) (hk : GOk X.K g t vs) (hs : swapsWithSole [tg] e pos.line X.env = pure false := by rfl) (hw : swappedStores [tg] e X.env = pure none := by rfl) (h1 : (assignEach [tg] X.env).map (·.2) = [assign tg X.env] := by rfl) : MS X ca W n (.Assign [tg] e pos) (mSetT t m) := PS.mono (ps_asg he hg hs hw h1) fun D' σ H h => by
  obtain ⟨w0, w, mh, env, rfl, hw, s, hp⟩ := h
  refine stepS (rep := repV X.K) hw s hp fun w1 mh1 v d x1 hw1 s1 r1 hp1 => ?_
  cases q : t d env with
  | none => simp only [q] at hp1; exact hp1.elim
  | some env' =>
    simp only [q] at hp1
    refine hk w1 v d env env' σ _ hw1.subs r1 s1.fr q fun σ' f' we ob => hp1 w1 σ' ⟨s1.ext, f', ?_, fun i ds a h1 h2 => ?_⟩ x1.grow hw1
    · have := congrArg List.length we
      rw [wipe_length, wipe_length] at this
      rw [this]; exact s1.ln
    · obtain ⟨q1, q2⟩ := ob i ds a h1 h2
      exact s1.ow i ds a q1 q2
theorem ms_ret (he : ME X ca W e m) : MS X ca W n (.Return (some e) pos) (mRet m) := PS.mono (ps_ret he) fun D' σ H h => by
  obtain ⟨w0, w, mh, env, rfl, hw, s, hp⟩ := h
  refine stepS (rep := repV X.K) hw s hp fun w1 mh1 v d x1 hw1 s1 r1 hp1 => ?_
  exact hp1 w1 v s1.ext hw1 r1
theorem ms_retN : MS X ca W n (.Return none pos) mRetN := PS.mono ps_retN fun D' σ H h => by
  obtain ⟨w0, w, mh, env, rfl, hw, s, hp⟩ := h
  exact hp w .non s.ext hw .non
theorem ms_expr (he : ME X ca W e m) (hs : swapsWith e none pos.line X.env = pure false := by rfl) : MS X ca W n (.Expr e pos) (mExpr m) := PS.mono (ps_expr he hs) fun D' σ H h => by
  obtain ⟨w0, w, mh, env, rfl, hw, s, hp⟩ := h
  refine stepS (rep := repV X.K) hw s hp fun w1 mh1 v d x1 hw1 s1 r1 hp1 => ?_
  exact hp1 w1 σ s1 x1.grow hw1
theorem ms_if {c : Expr} {a b : List Stmt} (hc : MT X ca W c mt) (ha : MSs X ca W n a ma) (hb : MSs X ca W n b mb) : MS X ca W n (.If c a b pos) (mIf mt ma mb) := PS.mono (ps_if hc ha hb) fun D' σ H h => by
  obtain ⟨w0, w, mh, env, rfl, hw, s, hp⟩ := h
  refine stepS (rep := repB) hw s hp fun w1 mh1 v d x1 hw1 s1 r1 hp1 => ?_
  have r1 : v = d := r1
  subst r1
  cases v with
  | true => exact iteT ⟨w0, w1, mh1, env, rfl, hw1, s1, wpR_mono hp1 (fun _ _ z => z.grow x1.grow) fun _ _ z => z⟩
  | false => exact iteF ⟨w0, w1, mh1, env, rfl, hw1, s1, wpR_mono hp1 (fun _ _ z => z.grow x1.grow) fun _ _ z => z⟩
theorem ms_par {i j : Nat} {x y : Str} {a b : Expr} {px py pt : Pos} {kt k2 pt2} (hc : X.calm = true) (ha : MA X ca W [a, b] ms) (hN : X.N.Nodup) (hi : X.N[i]? = some x := by rfl) (hj : X.N[j]? = some y := by rfl) (hij : i ≠ j := by decide)
    (hx : X.env.scope.names.lookup x = some .local := by rfl) (hy : X.env.scope.names.lookup y = some .local := by rfl)
    (hw : swappedStores [.Tuple [.Name x px, .Name y py] kt pt] (.Tuple [a, b] k2 pt2) X.env = pure (some [x, y]) := by rfl)
    (hs : swapsWithSole [.Tuple [.Name x px, .Name y py] kt pt] (.Tuple [a, b] k2 pt2) pos.line X.env = pure false := by rfl) : MS X ca W n (.Assign [.Tuple [.Name x px, .Name y py] kt pt] (.Tuple [a, b] k2 pt2) pos) (mPar i j ms) := PS.mono (ps_par hc hN hi hj hij hx hy ha hw hs) fun D' σ H h => by
  obtain ⟨w0, w, mh, env, rfl, hw, s, hp⟩ := h
  refine stepS (rep := repA X.K) hw s hp fun w1 mh1 v d x1 hw1 s1 r1 hp1 => ?_
  have r1 : RpAll X.K w1 v d := r1
  match d, r1, hp1 with
  | [d1, d2], r1, hp1 =>
    obtain ⟨v1, v2, rfl, q1, q2⟩ := r1.two
    exact ⟨v1, v2, rfl, hp1 w1 _ ((s1.set q1).set q2) x1.grow hw1⟩
  | [], r1, hp1 => exact hp1.elim
  | [_], r1, hp1 => exact hp1.elim
  | _ :: _ :: _ :: _, r1, hp1 => exact hp1.elim
theorem ms_aug {i : Nat} {x : Str} {op : Operator} {r : R2} {f : DOp} {pos' : Pos} (ho : OpR X (inplaceOp op) r) (hf : OpM X.K ca r f) (he : ME X ca W e m) (hN : X.N.Nodup) (hi : X.N[i]? = some x := by rfl) (hx : Loc X.env.scope x := by first | exact Or.inl rfl | exact Or.inr rfl) (hfn : X.fn x = true ∨ X.env.scope.names.lookup x = some .local := by first | exact .inl rfl | exact .inr rfl) :
    MS X ca W n (.AugAssign (.Name x pos') op e pos) (mAug f i m) := PS.mono (ps_aug hN hi hx he (show PIp X op r from ho) hfn) fun D' σ H h => by
  obtain ⟨w0, w, mh, env, rfl, hw, s, hp⟩ := h
  cases q : env[i]? with
  | none => simp only [mAug, q] at hp; exact hp.elim
  | some sl =>
    cases sl with
    | v d =>
      simp only [mAug, q] at hp
      obtain ⟨v, e1, r1⟩ := s.fr.v i d q
      refine ⟨v, e1, ?_⟩
      refine stepS (rep := repV X.K) hw s hp fun w1 mh1 v2 d2 x1 hw1 s1 r2 hp1 => ?_
      refine hf W σ w1 mh1 v v2 d d2 _ hw1 (x1.rp r1) r2 (wpR_mono (wpR_bind.mp hp1) (fun z mh' q w' vz xz hw' rz => ?_) fun cl mh q w' xz hw' => q w' σ (s1.ext.trans xz) hw' s1.ln)
      exact q w' _ ((s1.then xz).set rz) (x1.trans xz).grow hw'
    | _ => simp only [mAug, q] at hp; exact hp.elim
theorem ms_augAdd {i : Nat} {x : Str} {pos' : Pos} (he : ME X ca W e m) (hN : X.N.Nodup) (hi : X.N[i]? = some x := by rfl) (hx : Loc X.env.scope x := by first | exact Or.inl rfl | exact Or.inr rfl) (hfn : X.fn x = true ∨ X.env.scope.names.lookup x = some .local := by first | exact .inl rfl | exact .inr rfl) :
    MS X ca W n (.AugAssign (.Name x pos') .Add e pos) (mAug augAdd i m) := ms_aug iop_add (opm_int fun _ _ _ _ => .int _) he hN hi hx hfn
theorem ms_augSub {i : Nat} {x : Str} {pos' : Pos} (he : ME X ca W e m) (hN : X.N.Nodup) (hi : X.N[i]? = some x := by rfl) (hx : Loc X.env.scope x := by first | exact Or.inl rfl | exact Or.inr rfl) (hfn : X.fn x = true ∨ X.env.scope.names.lookup x = some .local := by first | exact .inl rfl | exact .inr rfl) :
    MS X ca W n (.AugAssign (.Name x pos') .Sub e pos) (mAug opSub i m) := ms_aug iop_sub opm_sub he hN hi hx hfn
end
end AG
/-! AgI: loops, lists of one's own, lending, raising, bodies. -/
namespace AG
open PySem L2

/-! ### for -/
def loopF (t : Tgt) (body : Env → M Fl) : List D → Env → M Fl
  | [], env => M.pure (.nx env)
  | x :: xs, env => match t x env with
    | some e1 => M.bind (body e1) fun fl => match fl with
      | .nx e => loopF t body xs e
      | .ct e => loopF t body xs e
      | .bk e => M.pure (.nx e)
      | .rt d => M.pure (.rt d)
    | none => M.bad
def mFor (mi : Env → M (List D)) (t : Tgt) (body : Env → M Fl) : Env → M Fl := fun env => M.bind (mi env) fun xs => loopF t body xs env
section
variable {X : Cx} {ca : CA} {W : WX} {n : Nat} {tg iter : Expr} {body : List Stmt} {mi : Env → M (List D)} {mb : Env → M Fl} {g : TG} {t : Tgt} {vs : List Nat} {pos : Pos}
theorem ms_for (hp : PassesOwn (model X.prog X.w) X.A X.env X.xe) (hc : X.calm = true) (hi : MI X ca W tg iter mi) (hg : PG X tg g) (hk : GOk X.K g t vs) (hb : MSs X ca W n body mb)
    (hs : ∀ x, foldedSetIterable iter X.env x = pure x := by intro _; rfl) : MS X ca W n (.For tg iter body [] pos) (mFor mi t mb) := PS.mono (ps_for hp hc hi hg hb hs) fun D' σ H h => by
  obtain ⟨w0, w, mh, env, rfl, hw, s, hp⟩ := h
  refine stepS (rep := repI X.K ca) hw s hp fun w1 mh1 J xs x1 hw1 s1 S hp1 => ?_
  have S : Serves X.K ca w1 J xs := S
  refine ⟨fun i m σ H => m = xs.length - i ∧ i ≤ xs.length ∧ ∃ w2 mh2 env2, w2.H = H ∧ Grow w1 w2 ∧ WOk X.K ca w2 mh2 ∧ SRel X.K n w0 env2 σ w2 ∧
    wpR (loopF t mb (xs.drop i) env2 mh2) (FlP X.K ca n w0 w D') (ExS X.K ca W n w0), ⟨xs.length, by simp, Nat.zero_le _, w1, mh1, env, rfl, Grow.refl _, hw1, s1, by simpa using hp1⟩, ?_⟩
  rintro i m σ2 H ⟨rfl, hi, w2, mh2, env2, rfl, g2, hw2, s2, hp2⟩
  by_cases hlt : i < xs.length
  · refine .inr ⟨S.go w2 mh2 i g2 hw2 hlt, fun σ' H' => ∃ w4 mh4 env4, w4.H = H' ∧ Grow w1 w4 ∧ WOk X.K ca w4 mh4 ∧ SRel X.K n w0 env4 σ' w4 ∧
      wpR (loopF t mb (xs.drop (i + 1)) env4 mh4) (FlP X.K ca n w0 w D') (ExS X.K ca W n w0), fun σ' H' q => ⟨_, by omega, rfl, hlt, q⟩, fun x H' y => ?_⟩
    obtain ⟨d, w3, e3, rfl, x3, hw3, r3⟩ := S.yld w2 mh2 i x H' g2 hw2 hlt y
    rw [List.drop_eq_getElem_cons hlt] at hp2
    have e3' : xs[i] = d := by rw [List.getElem?_eq_getElem hlt] at e3; exact Option.some.inj e3
    rw [e3'] at hp2
    cases q : t d env2 with
    | none => simp only [loopF, q] at hp2; exact hp2.elim
    | some env3 =>
      simp only [loopF, q] at hp2
      have s3 := s2.then x3
      refine hk w3 x d env2 env3 _ _ hw3.subs r3 s3.fr q fun σ3 f3 we ob => ?_
      have ln3 : σ3.length = n := by
        have := congrArg List.length we
        rw [wipe_length, wipe_length] at this
        rw [this]; exact s3.ln
      refine ⟨w0, w3, mh2, env3, rfl, hw3, ⟨s3.ext, f3, ln3, fun j ds a h1 h2 => ?_⟩, ?_⟩
      · obtain ⟨q1, q2⟩ := ob j ds a h1 h2
        exact s3.ow j ds a q1 q2
      · have g13 : Grow w1 w3 := g2.trans x3.grow
        refine wpR_mono (wpR_bind.mp hp2) (fun fl mh5 z => ?_) fun _ _ z => z
        cases fl with
        | nx e => exact fun w5 σ5 s5 g5 hw5 => ⟨w5, mh5, e, rfl, g13.trans g5, hw5, s5, z⟩
        | ct e => exact fun w5 σ5 s5 g5 hw5 => ⟨w5, mh5, e, rfl, g13.trans g5, hw5, s5, z⟩
        | bk e => exact fun w5 σ5 s5 g5 hw5 => z w5 σ5 s5 (x1.grow.trans (g13.trans g5)) hw5
        | rt d => exact z
  · have e : i = xs.length := by omega
    subst e
    refine .inl ⟨S.stop w2 mh2 _ g2 hw2 (Nat.le_refl _), ?_⟩
    rw [List.drop_length] at hp2
    exact hp2 w2 _ s2 (x1.grow.trans g2) hw2
end

/-! ### while -/
def whileF (c : Env → M Bool) (body : Env → M Fl) : Nat → Env → M Fl
  | 0, _ => M.bad
  | k + 1, env => M.bind (c env) fun b => if b = true then M.bind (body env) fun fl => match fl with
      | .nx e => whileF c body k e
      | .ct e => whileF c body k e
      | .bk e => M.pure (.nx e)
      | .rt d => M.pure (.rt d)
    else M.pure (.nx env)
section
variable {X : Cx} {ca : CA} {W : WX} {n : Nat} {c : Expr} {body : List Stmt} {mc : Env → M Bool} {mb : Env → M Fl} {pos : Pos}
theorem ms_while (k : Nat) (hp : PassesOwn (model X.prog X.w) X.A X.env X.xe) (hc : MT X ca W c mc) (hb : MSs X ca W n body mb) : MS X ca W n (.While c body [] pos) (whileF mc mb k) := PS.mono (ps_while hp hc hb) fun D' σ H h => by
  obtain ⟨w0, w, mh, env, rfl, hw, s, hp⟩ := h
  refine ⟨fun m σ H => ∃ w2 mh2 env2, w2.H = H ∧ Grow w w2 ∧ WOk X.K ca w2 mh2 ∧ SRel X.K n w0 env2 σ w2 ∧ wpR (whileF mc mb m env2 mh2) (FlP X.K ca n w0 w D') (ExS X.K ca W n w0), ⟨k, w, mh, env, rfl, Grow.refl _, hw, s, hp⟩, ?_⟩
  rintro m σ2 H ⟨w2, mh2, env2, rfl, g2, hw2, s2, hp2⟩
  cases m with
  | zero => exact hp2.elim
  | succ m =>
    simp only [whileF] at hp2
    refine stepS (rep := repB) hw2 s2 hp2 fun w3 mh3 b b' x3 hw3 s3 rb hp3 => ?_
    have rb : b = b' := rb
    subst rb
    cases b with
    | false =>
      simp only [Bool.false_eq_true, if_false] at hp3 ⊢
      exact hp3 w3 _ s3 (g2.trans x3.grow) hw3
    | true =>
      simp only [if_true] at hp3 ⊢
      refine ⟨fun σ' H' => ∃ w2 mh2 env2, w2.H = H' ∧ Grow w w2 ∧ WOk X.K ca w2 mh2 ∧ SRel X.K n w0 env2 σ' w2 ∧ wpR (whileF mc mb m env2 mh2) (FlP X.K ca n w0 w D') (ExS X.K ca W n w0), fun σ' H' q => ⟨m, Nat.lt_succ_self _, q⟩, w0, w3, mh3, env2, rfl, hw3, s3, ?_⟩
      have g3 : Grow w w3 := g2.trans x3.grow
      refine wpR_mono (wpR_bind.mp hp3) (fun fl mh5 z => ?_) fun _ _ z => z
      cases fl with
      | nx e => exact fun w5 σ5 s5 g5 hw5 => ⟨w5, mh5, e, rfl, g3.trans g5, hw5, s5, z⟩
      | ct e => exact fun w5 σ5 s5 g5 hw5 => ⟨w5, mh5, e, rfl, g3.trans g5, hw5, s5, z⟩
      | bk e => exact fun w5 σ5 s5 g5 hw5 => z w5 σ5 s5 (g3.trans g5) hw5
      | rt d => exact z
end

/-! ### lists of one's own -/
def mOwnM (f : List D → D → Option (List D)) (i : Nat) (m : Env → M D) : Env → M Fl := fun env => match env[i]? with
  | some (.own _) => M.bind (m env) fun y => match env[i]? with
    | some (.own ds) => match f ds y with | some es => M.pure (.nx (env.set i (.own es))) | none => M.bad
    | _ => M.bad
  | _ => M.bad
def fAppend : List D → D → Option (List D) := fun ds y => if ds.length < 16777216 then some (ds ++ [y]) else none
def fExtend : List D → D → Option (List D) := fun ds y => match y with | .lst es => if ds.length + es.length ≤ 16777216 then some (ds ++ es) else none | _ => none
def fRemove : List D → D → Option (List D) := fun ds y => if (ds.all (D.sm 60) && D.sm 60 y) = true then (ds.findIdx? fun z => D.eqv z y).map ds.eraseIdx else none
/-- by values -/
def OwnMt (K : PySem.W.Frag) (r : V → List V → Hp → VK → Prop) (f : List D → D → Option (List D)) : Prop := ∀ (w : Wd) (a : Addr) (vs : List V) (ds es : List D) (y : V) (d : D) (Q : VK), Subs w → w.H a = some (.lst vs) → RpAll K w vs ds → Rp K w y d → f ds d = some es →
  (∀ us, RpAll K w us es → Q .non (upd w.H a (.lst us))) → r (.ref a) [y] w.H Q
section
variable {K : PySem.W.Frag}
theorem om_append : OwnMt K rAppend fAppend := by
  intro w a vs ds es y d Q hs hH r ry e k
  unfold fAppend at e
  split at e
  · cases e
    exact ⟨a, vs, y, rfl, rfl, hH, by rw [r.length, sizeLine_lit]; assumption, k _ (r.append (.cons ry .nil))⟩
  · cases e
theorem om_extend : OwnMt K rExtend fExtend := by
  intro w a vs ds es y d Q hs hH r ry e k
  unfold fExtend at e
  cases d <;> first | (cases e; done) | skip
  rename_i zs
  simp only at e
  split at e
  · cases e
    cases ry with
    | lst h1 h2 => exact ⟨a, _, vs, _, rfl, rfl, hH, hs.l _ _ h1, by rw [r.length, h2.length, sizeLine_lit]; assumption, k _ (r.append h2)⟩
  · cases e
end
def rRemD (K : PySem.W.Frag) : V → List V → Hp → VK → Prop := fun x vs H Q => ∃ l xs y ds d j, x = .ref l ∧ vs = [y] ∧ H l = some (.lst xs) ∧ DpAll K H xs ds ∧ Dp K H y d ∧ PyData.plainAll ds = true ∧ d.plain = true ∧ d.depth ≤ 64 ∧ PySem.SeqAt.dataPlace ds d = some j ∧ Q .non (upd H l (.lst (xs.eraseIdx j)))
theorem eraseIf_toArray {α : Type} (l : List α) (j : Nat) (h : j < l.length) : l.toArray.eraseIdxIfInBounds j = (l.eraseIdx j).toArray := by
  simp [Array.eraseIdxIfInBounds, h]
theorem mt_removeD {X : Cx} (hu : X.A.units + 66 < cLine) : MtR X "list.remove" (rRemD X.K) := by
  intro pins s σ H x vs v us Q I rx rv h
  obtain ⟨l, xs, y, ds, d, j, rfl, rfl, hH, hds, hd, pl, pd, dd, hj, q⟩ := h
  cases rx
  obtain ⟨u, rfl, ru⟩ := rv.one
  obtain ⟨z, its, n, r, hl, e⟩ := I.lstM hH
  obtain ⟨as, hr⟩ := Dp.readsAll I ds xs its hds r
  obtain ⟨bs, hr2⟩ := Dp.reads I d y u hd ru
  have hjl : j < its.length := by
    obtain ⟨h1, _⟩ := List.findIdx?_eq_some_iff_getElem.mp hj
    have := PySem.SeqAt.ReadsAll.length _ _ _ hr
    omega
  refine PySem.SeqAt.remove_list_data (vs := its.toArray) ⟨_, e, rfl, _, rfl⟩ (by simpa using hr) hr2 pl pd (by have := Nat.min_le_right (PyData.depthAll ds) d.depth; omega) hj (by rw [List.size_toArray, ← hl]; exact z) ?_
  refine ⟨.non, _, I.lset (t' := s.toks) (f := fun ys => ys.eraseIdxIfInBounds j) (its' := its.eraseIdx j) hH e (eraseIf_toArray its j hjl) (r.eraseIdx j) ?_, rfl, q⟩
  exact Nat.le_trans (List.length_eraseIdx_le _ _) z
theorem all_sm {n : Nat} {ds : List D} (h : ds.all (D.sm n) = true) : ∀ d ∈ ds, D.sm n d = true := List.all_eq_true.mp h
theorem place_toPys (ds : List D) (y : D) : PySem.SeqAt.dataPlace (D.toPys ds) y.toPy = ds.findIdx? fun z => D.eqv z y := by
  unfold PySem.SeqAt.dataPlace
  rw [D.toPys_map, List.findIdx?_map]
  rfl
theorem om_remove {K : PySem.W.Frag} : OwnMt K (rRemD K) fRemove := by
  intro w a vs ds es y d Q hs hH r ry e k
  unfold fRemove at e
  split at e
  · rename_i c
    simp only [Bool.and_eq_true] at c
    cases q : ds.findIdx? fun z => D.eqv z d with
    | none => rw [q] at e; cases e
    | some j =>
      rw [q] at e
      cases e
      refine ⟨a, vs, y, _, _, j, rfl, rfl, hH, dpAll_of (fun h q => Rp.dp hs h q) r c.1, ry.dp hs c.2, plainAll_toPy _, plain_toPy _, sm64 c.2, by rw [place_toPys]; exact q, k _ (r.eraseIdx j)⟩
  · cases e
section
variable {X : Cx} {ca : CA} {W : WX} {n : Nat} {e : Expr} {m : Env → M D} {x name : Str} {id : String} {p1 apos cpos pos : Pos} {r : V → List V → Hp → VK → Prop} {f : List D → D → Option (List D)}
theorem ms_own (slot : PySem.Slot "list" name id) (hty : typeOf (.builtin id) = pure (.type "method_descriptor")) (hm : MtR X id r) (ho : OwnMt X.K r f) (i : Nat) (he : ME X ca W e m) (hN : X.N[i]? = some x := by rfl) (hv : Vis X.env.scope x := by first | exact Or.inl rfl | exact Or.inr (Or.inl rfl) | exact Or.inr (Or.inr rfl))
    (hd : (x == ("__debug__" : Str)) = false := by decide) (hcd : (x == ("__classdict__" : Str)) = false := by decide)
    (hbase : attributeBase (.Name x p1) name X.env (eval (.Name x p1) X.env) = eval (.Name x p1) X.env := by rfl)
    (hfew : ((backTo cpos (starEach [e] X.env)).all (fun x => !x.1) && (backToKw cpos (keywordEach [] X.env)).all (fun x => x.1.isSome)
      && decide ([e].length + ([] : List Keyword).length + (if ([] : List Keyword).isEmpty then 0 else 1) < 30)) = true := by rfl)
    (hline : (apos.endLine == cpos.line) = true := by rfl) (hs : starEach [e] X.env = (false, eval e X.env) :: starEach [] X.env := by rfl) (hplain : (backTo cpos (starEach [] X.env)).any (·.1) = false := by rfl)
    (hsw : swapsWith (.Call (.Attribute (.Name x p1) name apos) [e] [] cpos) none pos.line X.env = pure false := by rfl) :
    MS X ca W n (.Expr (.Call (.Attribute (.Name x p1) name apos) [e] [] cpos) pos) (mOwnM f i m) :=
  PS.mono (ps_expr (pe_bm PySem.F.plainAttrs_list slot hty hm (pv i hN hv hd hcd) (pa_cons he pa_nil hs) hbase hfew hline hs hplain) hsw) fun D' σ H h => by
    obtain ⟨w0, w, mh, env, rfl, hw, s, hp⟩ := h
    cases q : env[i]? with
    | none => simp only [mOwnM, q] at hp; exact hp.elim
    | some sl =>
      cases sl with
      | own ds =>
        simp only [mOwnM, q] at hp
        obtain ⟨a, e1, o⟩ := s.fr.own i ds q
        obtain ⟨vs, hH, _⟩ := o.at'
        refine ⟨_, e1, .inl ⟨rfl, vs, .of hH⟩, ?_⟩
        refine stepS (rep := repV X.K) hw s hp fun w1 mh1 v2 d2 x1 hw1 s1 r2 hp1 => ?_
        obtain ⟨a', e1', o1⟩ := s1.fr.own i ds q
        rw [e1] at e1'
        cases e1'
        obtain ⟨vs1, hH1, rr1⟩ := o1.at'
        cases qf : f ds d2 with
        | none => simp only [qf] at hp1; exact hp1.elim
        | some es =>
          simp only [qf] at hp1
          refine ho w1 a vs1 ds es v2 d2 _ hw1.subs hH1 rr1 r2 qf fun us ru => ?_
          exact hp1 (w1.put a (.lst us)) σ (s1.wr q e1 ru) (x1.grow.trans put_grow) (hw1.wr o1.nF o1.nL o1.nr)
      | _ => simp only [mOwnM, q] at hp; exact hp.elim
end
end AG
/-! AgJ: lending, freezing, bodies of defs. -/
namespace AG
open PySem L2

/-! ### a list of one's own is lent to an expression -/
def MO.nl : MO → Bool
  | .lst ds => ds.all (D.nl 60)
  | .stream => true
  | .inst _ fs => fs.all fun p => D.nl 60 p.2
  | .dct kvs => kvs.all fun p => D.nl 60 p.1 && D.nl 60 p.2
theorem unLs {K : PySem.W.Frag} {w w' : Wd} {n : Nat} (ih : ∀ {v : V} {d : D}, Rp K w v d → D.nl n d = true → Rp K w' v d) : ∀ {vs : List V} {ds : List D}, RpAll K w vs ds → ds.all (D.nl n) = true → RpAll K w' vs ds
  | _, _, .nil, _ => .nil
  | _, _, .cons h r, q => by
    simp only [List.all_cons, Bool.and_eq_true] at q
    exact .cons (ih h q.1) (unLs ih r q.2)
theorem Rp.unL {K : PySem.W.Frag} {w w' : Wd} (hρ : w'.ρ = w.ρ) (hF : w'.F = w.F) : ∀ {n : Nat} {v : V} {d : D}, Rp K w v d → D.nl n d = true → Rp K w' v d
  | _, _, _, .non, _ => .non
  | _, _, _, .bl b, _ => .bl b
  | _, _, _, .int i, _ => .int i
  | _, _, _, .str x, _ => .str x
  | 0, _, _, .tup _ _, q => by simp [D.nl] at q
  | n + 1, _, _, .tup h r, q => .tup (by rw [hF]; exact h) (unLs (fun a b => Rp.unL hρ hF a b) r (by simpa [D.nl] using q))
  | 0, _, _, .lst _ _, q => by simp [D.nl] at q
  | n + 1, _, _, .lst _ _, q => by simp [D.nl] at q
  | _, _, _, .ref h, _ => .ref (by rw [hρ]; exact h)
  | _, _, _, .scr h l, _ => .scr (by rw [hF]; exact h) l
theorem unL1 {K : PySem.W.Frag} {w w' : Wd} (hρ : w'.ρ = w.ρ) (hF : w'.F = w.F) {vs : List V} {ds : List D} (r : RpAll K w vs ds) (q : ds.all (D.nl 60) = true) : RpAll K w' vs ds := unLs (fun a b => Rp.unL hρ hF a b) r q
def Wd.unlock (w : Wd) (p : Addr) : Wd := ⟨w.ρ, w.F, fun b => if b = p then none else w.L b, w.H⟩
def R.lent {α : Type} (ok : α → Bool) : R α → R α
  | .ok a h => if (ok a && h.all MO.nl) = true then .ok a h else .bad
  | .exc c h => if h.all MO.nl = true then .exc c h else .bad
  | .bad => .bad
  | .pick n k => .pick n fun i => (k i).lent ok
theorem wpR_lent {α : Type} {ok : α → Bool} {r : R α} {Q : α → MH → Prop} {E : Nat → MH → Prop} (h : wpR (r.lent ok) Q E) : wpR r (fun a m => ok a = true ∧ m.all MO.nl = true ∧ Q a m) (fun c m => m.all MO.nl = true ∧ E c m) := by
  induction r with
  | ok a m =>
    unfold R.lent at h
    split at h
    · rename_i c
      simp only [Bool.and_eq_true] at c
      exact ⟨c.1, c.2, h⟩
    · exact h.elim
  | exc c m =>
    unfold R.lent at h
    split at h
    · rename_i q
      exact ⟨q, h⟩
    · exact h.elim
  | bad => exact h
  | pick n k ih => exact ⟨h.1, fun i hi => ih i (h.2 i hi)⟩
def mBorR {α : Type} (ok : α → Bool) (i : Nat) (m : Env → M α) : Env → M α := fun env => match env[i]? with
  | some (.own ds) => fun h => (m (env.set i (.v (.lst ds))) h).lent ok
  | _ => m env
def mBor (i : Nat) (m : Env → M D) : Env → M D := mBorR (D.nl 60) i m
def mBorT (i : Nat) (m : Env → M Bool) : Env → M Bool := mBorR (fun _ => true) i m
def mBorF (i : Nat) (m : Env → M (List D)) : Env → M (List D) := mBorR (fun ds => ds.all (D.nl 60)) i m
section
variable {K : PySem.W.Frag} {ca : CA} {W : WX} {w w1 : Wd} {env : Env} {σ : St} {mh : MH} {i : Nat} {ds : List D}
/-- the world in which the list is lent -/
theorem lend {a : Addr} {vs : List V} (hw : WOk K ca w mh) (hf : FrOk K w env σ) (he : env[i]? = some (.own ds)) (e1 : σ[i]? = some (some (.ref a))) (o : Own K w a ds) (hH : w.H a = some (.lst vs)) (r : RpAll K w vs ds) :
    WOk K ca (w.lock a vs) mh ∧ FrOk K (w.lock a vs) (env.set i (.v (.lst ds))) σ := by
  refine ⟨hw.lock hH o.nL o.nr, by simp [hf.len], fun j d h => ?_, fun j es h => ?_, fun j k es fs b ne h1 h2 h3 => ?_⟩
  · by_cases ij : i = j
    · subst ij
      rw [getElem?_setS, if_pos rfl] at h
      split at h
      · cases h
        exact ⟨_, e1, .lst updL_same (r.mono (lock_grow o.nL))⟩
      · cases h
    · rw [getElem?_setS, if_neg ij] at h
      obtain ⟨u, e2, e3⟩ := hf.v j d h
      exact ⟨u, e2, e3.mono (lock_grow o.nL)⟩
  · by_cases ij : i = j
    · subst ij
      rw [getElem?_setS, if_pos rfl] at h
      split at h <;> cases h
    · rw [getElem?_setS, if_neg ij] at h
      obtain ⟨b, e2, o2⟩ := hf.own j es h
      have ab : b ≠ a := fun e => by subst e; exact hf.sep i j ds es b ij he h e1 e2
      obtain ⟨us, q1, q2⟩ := o2.at'
      exact ⟨b, e2, ⟨us, q1, q2.mono (lock_grow o.nL)⟩, o2.nF, by show updL w.L a vs b = none; rw [updL_ne ab]; exact o2.nL, o2.nr⟩
  · by_cases ij : i = j
    · subst ij
      rw [getElem?_setS, if_pos rfl] at h1
      split at h1 <;> cases h1
    · by_cases ik : i = k
      · subst ik
        rw [getElem?_setS, if_pos rfl] at h2
        split at h2 <;> cases h2
      · rw [getElem?_setS, if_neg ij] at h1
        rw [getElem?_setS, if_neg ik] at h2
        exact hf.sep j k es fs b ne h1 h2 h3
/-- .. and given back -/
theorem back {a : Addr} {vs : List V} {w2 : Wd} {mh2 : MH} (hw : WOk K ca w mh) (o : Own K w a ds) (hH : w.H a = some (.lst vs)) (x : Ext (w.lock a vs) w2) (hw2 : WOk K ca w2 mh2) (hn : mh2.all MO.nl = true) :
    Ext w (w2.unlock a) ∧ WOk K ca (w2.unlock a) mh2 := by
  have Lne : ∀ b, b ≠ a → (w2.unlock a).L b = w2.L b := fun b h => by simp [Wd.unlock, h]
  have La : (w2.unlock a).L a = none := by simp [Wd.unlock]
  refine ⟨⟨x.rho, x.fz, fun b u h => ?_, x.kp, x.nf, fun b u h => ?_, x.th⟩, ⟨hw2.sub, fun b u h => ?_, hw2.len, hw2.nd, fun n b mo h1 h2 => ?_⟩⟩
  · have ba : b ≠ a := fun e => by subst e; rw [o.nL] at h; cases h
    rw [Lne b ba]
    refine x.lz b u ?_
    show updL w.L a vs b = some u
    rw [updL_ne ba]
    exact h
  · by_cases ba : b = a
    · subst ba; rw [La] at h; cases h
    · rw [Lne b ba] at h
      rcases x.nl b u h with q | q
      · have q : updL w.L a vs b = some u := q
        rw [updL_ne ba] at q
        exact .inl q
      · exact .inr q
  · by_cases ba : b = a
    · subst ba; rw [La] at h; cases h
    · rw [Lne b ba] at h; exact hw2.subL b u h
  · obtain ⟨f, l, q⟩ := hw2.obj n b mo h1 h2
    refine ⟨f, ?_, ?_⟩
    · by_cases ba : b = a
      · subst ba; exact La
      · rw [Lne b ba]; exact l
    · have qn : mo.nl = true := List.all_eq_true.mp hn mo (List.mem_of_getElem? h2)
      cases mo with
      | lst es => obtain ⟨us, e, rr⟩ := q; exact ⟨us, e, unL1 (w := w2) (w' := w2.unlock a) rfl rfl rr qn⟩
      | stream => obtain ⟨ns, x, y, z, us, e, rr, l⟩ := q; exact ⟨ns, x, y, z, us, e, unL1 (w := w2) (w' := w2.unlock a) rfl rfl rr (by simp [D.nl]), l⟩
      | inst c fs =>
        obtain ⟨dx, us, e, rr⟩ := q
        refine ⟨dx, us, e, unL1 (w := w2) (w' := w2.unlock a) rfl rfl rr ?_⟩
        rw [List.all_map]
        exact qn
      | dct kvs =>
        obtain ⟨xs, e, y, z, rr, nd⟩ := q
        refine ⟨xs, e, y, z, ?_, nd⟩
        have all : ∀ {kvs : List (D × D)} {xs : List (NestedKey × Addr × V)}, DKs K w2 kvs xs → kvs.all (fun p => D.nl 60 p.1 && D.nl 60 p.2) = true → DKs K (w2.unlock a) kvs xs := by
          intro kvs xs r
          induction r with
          | nil => exact fun _ => .nil
          | cons h t ih =>
            intro q
            rw [List.all_cons, Bool.and_eq_true, Bool.and_eq_true] at q
            exact .cons ⟨h.1, h.2.1, Rp.unL (w := w2) (w' := w2.unlock a) rfl rfl h.2.2.1 q.1.1, Rp.unL (w := w2) (w' := w2.unlock a) rfl rfl h.2.2.2 q.1.2⟩ (ih q.2)
        exact all rr qn
/-- a part that may read the list at i -/
theorem bor_read {α β : Type} {rep : Wd → β → α → Prop} {ok : α → Bool} {m : Env → M α} {H : Hp} {Q : β → Hp → Prop} (hrep : ∀ (w : Wd) (a : Addr) (v : β) (d : α), rep w v d → ok d = true → rep (w.unlock a) v d)
    (h : denG rep K ca W (mBorR ok i m) σ H Q) : denG rep K ca W m σ H Q := by
  obtain ⟨w, mh, env, rfl, hw, hf, hp⟩ := h
  cases q : env[i]? with
  | none => simp only [mBorR, q] at hp; exact ⟨w, mh, env, rfl, hw, hf, hp⟩
  | some sl =>
    cases sl with
    | own ds =>
      simp only [mBorR, q] at hp
      obtain ⟨a, e1, o⟩ := hf.own i ds q
      obtain ⟨vs, hH, r⟩ := o.at'
      obtain ⟨lw, lf⟩ := lend hw hf q e1 o hH r
      refine ⟨w.lock a vs, mh, _, rfl, lw, lf, wpR_mono (wpR_lent hp) (fun d mh' z w' v x hw' rr => ?_) fun cl mh' z w' x hw' => ?_⟩
      · obtain ⟨x', hw2⟩ := back hw o hH x hw' z.2.1
        exact z.2.2 (w'.unlock a) v x' hw2 (hrep _ _ _ _ rr z.1)
      · obtain ⟨x', hw2⟩ := back hw o hH x hw' z.1
        exact z.2 (w'.unlock a) x' hw2
    | no => simp only [mBorR, q] at hp; exact ⟨w, mh, env, rfl, hw, hf, hp⟩
    | v d => simp only [mBorR, q] at hp; exact ⟨w, mh, env, rfl, hw, hf, hp⟩
theorem borF_read {m : Env → M (List D)} {H : Hp} {Q : VK} (h : denF K ca W (mBorF i m) σ H Q) : denF K ca W m σ H Q := by
  obtain ⟨w, mh, env, rfl, hw, hf, hp⟩ := h
  cases q : env[i]? with
  | none => simp only [mBorF, mBorR, q] at hp; exact ⟨w, mh, env, rfl, hw, hf, hp⟩
  | some sl =>
    cases sl with
    | own ds =>
      simp only [mBorF, mBorR, q] at hp
      obtain ⟨a, e1, o⟩ := hf.own i ds q
      obtain ⟨vs, hH, r⟩ := o.at'
      obtain ⟨lw, lf⟩ := lend hw hf q e1 o hH r
      refine ⟨w.lock a vs, mh, _, rfl, lw, lf, wpR_mono (wpR_lent hp) (fun d mh' z w' p x hw' hn op => ?_) fun cl mh' z w' x hw' => ?_⟩
      · obtain ⟨x', hw2⟩ := back hw o hH x hw' z.2.1
        obtain ⟨us, h1, r1⟩ := op.at'
        have pa : p ≠ a := fun e => by
          subst e
          have hn : w.H p = none := hn
          rw [hH] at hn; cases hn
        exact z.2.2 (w'.unlock a) p x' hw2 hn ⟨⟨us, h1, unL1 (w := w') (w' := w'.unlock a) rfl rfl r1 z.1⟩, op.nF, by simp only [Wd.unlock, pa, if_false]; exact op.nL, op.nr⟩
      · obtain ⟨x', hw2⟩ := back hw o hH x hw' z.1
        exact z.2 (w'.unlock a) x' hw2
    | no => simp only [mBorF, mBorR, q] at hp; exact ⟨w, mh, env, rfl, hw, hf, hp⟩
    | v d => simp only [mBorF, mBorR, q] at hp; exact ⟨w, mh, env, rfl, hw, hf, hp⟩
end
section
variable {X : Cx} {ca : CA} {W : WX} {e : Expr} {m : Env → M D} {mt : Env → M Bool} {mf : Env → M (List D)} {es : List Expr} {st : Stmt} {n : Nat} {ma : Env → M Fl}
theorem me_bor (i : Nat) (h : ME X ca W e m) : ME X ca W e (mBor i m) := PE.mono h fun _ _ _ q => bor_read (fun w a v d r o => Rp.unL (w := w) (w' := w.unlock a) rfl rfl r o) q
theorem mt_bor (i : Nat) (h : MT X ca W e mt) : MT X ca W e (mBorT i mt) := PT.mono h fun _ _ _ q => bor_read (fun w a v d r _ => r) q
theorem mf_bor (i : Nat) (h : MF X ca W e mf) : MF X ca W e (mBorF i mf) := PE.mono h fun _ _ _ q => borF_read q

/-! ### a list of one's own is not written any more -/
def mFrzB (i : Nat) (m : Env → M Fl) : Env → M Fl := fun env => match env[i]? with
  | some (.own ds) => m (env.set i (.v (.lst ds)))
  | _ => m env
theorem frz_read {K : PySem.W.Frag} {i : Nat} {D' : Ends} {σ : St} {H : Hp} (h : denS K ca W n (mFrzB i ma) D' σ H) : denS K ca W n ma D' σ H := by
  obtain ⟨w0, w, mh, env, rfl, hw, s, hp⟩ := h
  cases q : env[i]? with
  | none => simp only [mFrzB, q] at hp; exact ⟨w0, w, mh, env, rfl, hw, s, hp⟩
  | some sl =>
    cases sl with
    | own ds =>
      simp only [mFrzB, q] at hp
      obtain ⟨a, e1, o⟩ := s.fr.own i ds q
      obtain ⟨vs, hH, r⟩ := o.at'
      obtain ⟨lw, lf⟩ := lend hw s.fr q e1 o hH r
      refine ⟨w0, w.lock a vs, mh, _, rfl, lw, ⟨s.ext.lock (s.ow i ds a q e1) o.nL, lf, s.ln, fun j es b h1 h2 => ?_⟩, wpR_mono hp (fun _ _ z => z.grow (lock_grow o.nL)) fun _ _ z => z⟩
      by_cases ij : i = j
      · subst ij
        rw [getElem?_setS, if_pos rfl] at h1
        split at h1 <;> cases h1
      · rw [getElem?_setS, if_neg ij] at h1
        exact s.ow j es b h1 h2
    | no => simp only [mFrzB, q] at hp; exact ⟨w0, w, mh, env, rfl, hw, s, hp⟩
    | v d => simp only [mFrzB, q] at hp; exact ⟨w0, w, mh, env, rfl, hw, s, hp⟩
theorem ms_frz (i : Nat) (h : MS X ca W n st ma) : MS X ca W n st (mFrzB i ma) := PS.mono h fun _ _ _ q => frz_read q
end
end AG
/-! AgK: bodies of defs, recursion, the law's end. -/
namespace AG
open PySem L2 PyProof.Rows

/-- a def of the text as it stands behind the top -/
structure DefOk (K : PySem.W.Frag) (mg : Str → Option Value) (x : Str) (st : Stmt) (ps : List Str) : Prop where
  ex : ∃ (f : Addr) (fd : FuncData), Fun K x x st f fd ∧ mg x = some (.ref f) ∧ ∀ us : List Value, us.length = ps.length → bindArgs fd ⟨us, []⟩ = pure (ps.zip us)
def flD (fl : Fl) : M D := match fl with | .rt d => M.pure d | .nx _ => M.pure .non | _ => M.bad
def mFn (N : Nat) (m : Env → M Fl) : LOp := fun ds => M.bind (m (ds.map Slot.v ++ List.replicate (N - ds.length) Slot.no)) flD
section
variable {K : PySem.W.Frag} {w : Wd}
theorem start_fr {vs : List V} {ds : List D} {N : List Str} (r : RpAll K w vs ds) : FrOk K w (ds.map Slot.v ++ List.replicate (N.length - ds.length) Slot.no) (L2.start N vs) := by
  have hl := r.length
  have notOwn : ∀ (i : Nat) (es : List D), (ds.map Slot.v ++ List.replicate (N.length - ds.length) Slot.no)[i]? ≠ some (Slot.own es) := fun i es h => by
    rcases List.mem_append.mp (List.mem_of_getElem? h) with q | q
    · obtain ⟨d, _, e⟩ := List.mem_map.mp q
      cases e
    · have := List.eq_of_mem_replicate q
      cases this
  refine ⟨by simp [L2.start, hl], fun i d h => ?_, fun i es h => absurd h (notOwn i es), fun i j es fs a _ h => absurd h (notOwn i es)⟩
  by_cases li : i < ds.length
  · rw [List.getElem?_append_left (by simpa using li)] at h
    rw [List.getElem?_map] at h
    have e : ds[i]? = some d := by
      cases q : ds[i]? with
      | none => rw [q] at h; cases h
      | some z => rw [q] at h; cases h; rfl
    obtain ⟨v, e1, e2⟩ := r.get e
    refine ⟨v, ?_, e2⟩
    unfold L2.start
    rw [List.getElem?_append_left (by rw [List.length_map, hl]; exact li), List.getElem?_map, e1]
    rfl
  · rw [List.getElem?_append_right (by simpa using li)] at h
    have := List.eq_of_mem_replicate (List.mem_of_getElem? h)
    cases this
end
section
variable {P : Program} {w : World} {K : PySem.W.Frag} {mg : Str → Option Value} {base : Heap} {ca : CA}
theorem FnM.up {j k : Nat} {x : Str} {n : Nat} {m : LOp} (F : FnM P w K mg base ca j x n m) (h : j ≤ k) : FnM P w K mg base ca k x n m := by
  obtain ⟨f, fd, ps, ok, r⟩ := F.ex
  exact ⟨f, fd, ps, ok.mono h, r⟩
/-- a def's body -/
def BodyOk (P : Program) (w : World) (K : PySem.W.Frag) (mg : Str → Option Value) (base : Heap) (ca : CA) (k : Nat) (x : Str) (st : Stmt) (N : List Str) (mb : Env → M Fl) : Prop :=
  ∀ (f : Addr) (cdv : Value) (A : Around) (outer : List PySem.Env) (s : Shared) (H : Hp) (E : XK), Room k (A.deeper (envOfC x (defScope st) s.heap.objs.size f cdv)) →
      MSs (cxOf (L2.CX P w) P w K mg base N x (defScope st) f cdv A outer s H E) ca (fun cls d _ H' => E cls d H') N.length (defBody st) mb
theorem fn_body {x : Str} {st : Stmt} {N ps : List Str} {k : Nat} (D : DefOk K mg x st ps) (S : FnScope N ps (defScope st)) :
    ∃ (f : Addr) (fd : FuncData), mg x = some (.ref f) ∧ (∀ us : List Value, us.length = ps.length → bindArgs fd ⟨us, []⟩ = pure (ps.zip us)) ∧
      ∀ (base : Heap) (mb : Env → M Fl), BodyOk P w K mg base ca k x st N mb → FnOk P w K mg base (L2.CX P w) (k + 1) f fd ps (spM K ca ps.length (mFn N.length mb)) := by
  obtain ⟨f, fd, F, hm, hbd⟩ := D.ex
  have hpl : ps.length ≤ N.length := by have := congrArg List.length S.pre; rw [List.length_take] at this; omega
  refine ⟨f, fd, hm, hbd, fun base mb hb => F.okX S (fun vs H Q E h => ?_) (fun cdv A outer s H vs Q E hr h => ⟨_, hb f cdv A outer s H E hr, ?_⟩)⟩
  · obtain ⟨_, _, _, _, _, _, h, _⟩ := h
    exact h
  obtain ⟨w0, mh, ds, rfl, hw, r, hl, hp⟩ := h
  refine ⟨w0, w0, mh, _, rfl, hw, ⟨Ext.refl _, start_fr (N := N) r, by simp [L2.start]; omega, fun i es a h1 => ?_⟩, ?_⟩
  · rcases List.mem_append.mp (List.mem_of_getElem? h1) with q | q
    · obtain ⟨d, _, e⟩ := List.mem_map.mp q
      cases e
    · have := List.eq_of_mem_replicate q
      cases this
  · refine wpR_mono (wpR_bind.mp hp) (fun fl mh' z => ?_) fun cl mh' z w1 σ1 x1 hw1 _ => z w1 x1 hw1
    cases fl with
    | nx e => exact fun w1 σ1 s1 _ hw1 => z w1 .non s1.ext hw1 .non
    | rt d => exact fun w1 v x1 hw1 rr => z w1 v x1 hw1 rr
    | bk e => exact z.elim
    | ct e => exact z.elim
theorem fnm_mk {x : Str} {st : Stmt} {N ps : List Str} {k : Nat} {mb : Env → M Fl} (D : DefOk K mg x st ps) (S : FnScope N ps (defScope st)) (hb : BodyOk P w K mg base ca k x st N mb) : FnM P w K mg base ca (k + 1) x ps.length (mFn N.length mb) := by
  obtain ⟨f, fd, F, hm, hbd⟩ := D.ex
  obtain ⟨f', fd', hm', hbd', ok⟩ := fn_body (P := P) (w := w) (ca := ca) (k := k) D S
  rw [hm] at hm'
  cases hm'
  exact ⟨f, fd', ps, ok base mb hb, hm, F.kp, hbd'⟩
/-- a def that calls itself: n calls at most -/
def recF (f : LOp → LOp) : Nat → LOp
  | 0 => fun _ => M.bad
  | n + 1 => f (recF f n)
theorem fnm_none {x : Str} {st : Stmt} {ps : List Str} {k : Nat} (D : DefOk K mg x st ps) : FnM P w K mg base ca k x ps.length (fun _ => M.bad) := by
  obtain ⟨f, fd, F, hm, hbd⟩ := D.ex
  have no : ∀ vs H Q E, ¬ spM K ca ps.length (fun _ => M.bad) vs H Q E := fun vs H Q E ⟨_, _, _, _, _, _, _, hp⟩ => hp.elim
  exact ⟨f, fd, ps, ⟨fun vs H Q E h => absurd h (no vs H Q E), fun A outer s H args us vs Q E _ _ _ _ h => absurd h (no vs H Q E)⟩, hm, F.kp, hbd⟩
theorem fnm_rec {x : Str} {st : Stmt} {ps : List Str} {lv : Nat} {f : LOp → LOp} (D : DefOk K mg x st ps)
    (h : ∀ (k : Nat) (g : LOp), lv ≤ k → FnM P w K mg base ca k x ps.length g → FnM P w K mg base ca (k + 1) x ps.length (f g)) : ∀ n, FnM P w K mg base ca (lv + n) x ps.length (recF f n)
  | 0 => fnm_none D
  | n + 1 => h (lv + n) _ (Nat.le_add_right _ _) (fnm_rec D h n)
/-- two defs that call each other -/
def recP (f g : LOp → LOp → LOp) : Nat → LOp × LOp
  | 0 => (fun _ => M.bad, fun _ => M.bad)
  | n + 1 => (f (recP f g n).1 (recP f g n).2, g (recP f g n).1 (recP f g n).2)
theorem fnm_recP {x y : Str} {st su : Stmt} {ps qs : List Str} {lv : Nat} {f g : LOp → LOp → LOp} (D : DefOk K mg x st ps) (D2 : DefOk K mg y su qs)
    (h : ∀ (k : Nat) (a b : LOp), lv ≤ k → FnM P w K mg base ca k x ps.length a → FnM P w K mg base ca k y qs.length b → FnM P w K mg base ca (k + 1) x ps.length (f a b))
    (h2 : ∀ (k : Nat) (a b : LOp), lv ≤ k → FnM P w K mg base ca k x ps.length a → FnM P w K mg base ca k y qs.length b → FnM P w K mg base ca (k + 1) y qs.length (g a b)) :
    ∀ n, FnM P w K mg base ca (lv + n) x ps.length (recP f g n).1 ∧ FnM P w K mg base ca (lv + n) y qs.length (recP f g n).2
  | 0 => ⟨fnm_none D, fnm_none D2⟩
  | n + 1 => by
    obtain ⟨a, b⟩ := fnm_recP D D2 h h2 n
    exact ⟨h (lv + n) _ _ (Nat.le_add_right _ _) a b, h2 (lv + n) _ _ (Nat.le_add_right _ _) a b⟩
theorem def_mk {x : Str} {st : Stmt} {ps : List Str} {f : Addr} {oc : Value} {od an : Option Addr} {osl : Array (Option Value)} {kV doc pm cdv ct : Value} {h : Heap} (X : K.In h) (G : h.Ns mainGlobals mg) (a : PySem.W.nsIn K mainGlobals x = some (some (.ref f)))
    (l : K.lookup f = some ⟨oc, od, .func (PySem.W.fnOf x x (defArgs st) (defBody st) (defScope st) .none kV doc pm an cdv ct), osl⟩)
    (c : PySem.W.codeIn K cdv x = true) (k : PySem.W.keepIn K (.ref f) = true)
    (hb : ∀ (kV doc pm : Value) (an : Option Addr) (cdv ct : Value) (us : List Value), us.length = ps.length → bindArgs (PySem.W.fnOf x x (defArgs st) (defBody st) (defScope st) .none kV doc pm an cdv ct) ⟨us, []⟩ = pure (ps.zip us)) : DefOk K mg x st ps :=
  ⟨_, _, fun_mk l c k, PySem.W.mg_of X G a, hb kV doc pm an cdv ct⟩
/-- the law's answer -/
def LawM (m : LOp) : Prop := ∀ ns : List Int, ns.length ≤ 63 → wpR (m [.scr ns] []) (fun d _ => d = .bl true) (fun _ _ => False)
def spLaw (K : PySem.W.Frag) : Sp := fun vs H Q _ => ∃ (a : Addr) (ns : List Int), vs = [.ref a] ∧ Only H ∧ SqL K H a (ns.map V.int) ∧ ns.length ≤ 63 ∧ ∀ H', Q (.bl true) H'
theorem law_sp {m : LOp} (h : LawM m) {vs : List V} {H : Hp} {Q : VK} {E : XK} (q : spLaw K vs H Q E) : spM K ca 1 m vs H Q E := by
  obtain ⟨a, ns, rfl, hO, hS, hl, k⟩ := q
  refine ⟨⟨[], H, fun _ => none, H⟩, [], [.scr ns], rfl, ⟨fun _ _ h => h, fun a xs h => (by cases h), rfl, List.nodup_nil, fun n a mo h => by cases h⟩, .cons (.scr hS hl) .nil, rfl, ?_⟩
  refine wpR_mono (h ns hl) (fun d mh' e w' v x hw' r => ?_) fun _ _ z => z.elim
  subst e
  have r : Rp K w' v (.bl true) := r
  cases r
  exact k _
/-- a module's empty tuple -/
theorem gc_tup0 {x : Str} {a : Addr} {h : Heap} {od : Option Addr} {n : Nat} {osl : Array (Option Value)} (X : K.In h) (G : h.Ns mainGlobals mg) (e : PySem.W.nsIn K mainGlobals x = some (some (.ref a)))
    (l : K.lookup a = some ⟨.type "tuple", od, .seq #[] n, osl⟩) : GC K mg x (.tup []) :=
  ⟨.ref a, .ref a, PySem.W.mg_of X G e, rfl, fun w => .tup (.inr ⟨_, _, _, l, rfl, rfl, by decide, .nil⟩) .nil⟩
theorem gc_int {x : Str} {i : Int} {t : Nat} {h : Heap} (X : K.In h) (G : h.Ns mainGlobals mg) (e : PySem.W.nsIn K mainGlobals x = some (some (.int i t))) : GC K mg x (.int i) :=
  ⟨.int i, _, PySem.W.mg_of X G e, ⟨_, rfl⟩, fun w => .int i⟩
end
theorem walkM {l : PySem.W.OpenLaw} {q : Program} {loose : List Str} {XP : (Str → Option Value) → Heap → Prop} {YP : World → Heap → Prop} {d : DefRec} {K : Params → PySem.W.Frag} {m : LOp} {lv : Nat} (hm : LawM m) (hn : l.most = some 63) (hdf : d.params.defaults = []) (hr : Room lv callerA)
    (hY : ∀ (w : World) (h : Heap), YP w h → (K w.params).In h)
    (F : ∀ (w : World) (mg : Str → Option Value) (h : Heap), (K w.params).In h → h.Ns mainGlobals mg →
      ∃ (ca : CA) (x : Str) (st : Stmt) (k : Nat) (N : List Str) (mb : Env → M Fl), x = d.name ∧ DefOk (K w.params) mg x st ["script"] ∧ FnScope N ["script"] (defScope st) ∧ lv = k + 1 ∧ m = mFn N.length mb ∧ ∀ base : Heap, (K w.params).In base → base.Ns mainGlobals mg →
        BodyOk l.prog w (K w.params) mg base ca k x st N mb) :
    PySem.W.WalkO q loose XP YP l.row.toRowW d [] (fun f vs => PySem.call f vs) :=
  L2.walk_of (n := 63) (k := lv) (x := "script") (CX := fun w => L2.CX l.prog w) (sp := fun w => spLaw (K w.params)) hn (by decide) hdf hr hY
    (fun w mg fa h KX G hmg => by
      obtain ⟨ca, x, st, k, N, mb, e, D, S, rfl, rfl, F2⟩ := F w mg h KX G
      obtain ⟨f, fd, hf, hb, ok⟩ := fn_body (ca := ca) D S
      rw [e, hmg] at hf
      cases hf
      exact ⟨fd, fun s u => .of_eq (hb [u] rfl), fun base B1 B2 => (ok base mb (F2 base B1 B2)).imp fun vs H Q E z => law_sp hm z⟩)
    (fun w H a ns hl hO hS => ⟨a, ns, rfl, hO, hS, hl, fun _ => rfl⟩) fun _ _ _ _ _ z => by
      obtain ⟨_, _, _, _, _, _, _, _, _, _, _, _, z⟩ := z
      exact z
end AG
/-! AgL: sorting of alike data, tuples without items too. -/
namespace AG
open PySem L2 PyProof.Rows PySem.SeqAt PySem.W

section
variable {prog : Program} {w : World} {A : Around} {E : Value → Shared → Prop} {s : Shared}
theorem tuple_lt_call {Q : Value → Shared → Prop} {l b : Addr} {items items2 : Array Value} {e r : Nat → Bool} (hl : s.heap.IsTuple l items) (hb : s.heap.IsTuple b items2)
    (he : ∀ j (h1 : j < items.size) (h2 : j < items2.size), EqAt A.in1 s items[j] items2[j] (e j)) (hr : ∀ j (h1 : j < items.size) (h2 : j < items2.size), e j = false → RcLt A.in1 s items[j] items2[j] (r j))
    (h : Q (.bool (firstLt e r (decide (items.size < items2.size)) (List.range (min items.size items2.size)))) s) : wpAny (model prog w) A (call (.builtin "tuple.__lt__") [.ref l, .ref b]) Q E s := by
  obtain ⟨⟨cls, dd, data, sl⟩, ho, hc, n, hd⟩ := id hl
  obtain ⟨⟨cls2, dd2, data2, sl2⟩, ho2, hc2, n2, hd2⟩ := id hb
  simp only at hc hd hc2 hd2
  subst hc hd hc2 hd2
  exact call_meets F.slot_tuple_lt ⟨_, ho, rfl⟩ F.entry_tuple_lt (F.args_tuple_lt_2 _ _) (tuple_ltAt l b items items2 n n2 dd dd2 sl sl2 e r) ⟨ho, ho2, he, hr, h⟩
theorem oneLt_tuple {xs ys : List PyData} {a b : Value} {as bs : List Addr} {Q : Bool → Shared → Prop} (ra : Reads s.heap a (.tuple xs) as) (rb : Reads s.heap b (.tuple ys) bs) (h : alike (.tuple xs) (.tuple ys) = true)
    (hu : A.units + min (PyData.tuple xs).depth (PyData.tuple ys).depth < cLine) (hq : Q (dataLt (.tuple xs) (.tuple ys)) s) : wpAny (model prog w) A (oneLt' true a b) Q E s := by
  have hal : alikeAll xs ys = true := by simpa [alike] using h
  cases ra with
  | @tuple l o vs n _ as₁ h1 h2 h3 h4 =>
    cases rb with
    | @tuple l' o' vs' n' _ bs₁ k1 k2 k3 k4 =>
      have n1 : vs.size = xs.length := by simpa using PySem.SeqAt.ReadsAll.length _ _ _ h4
      have n2 : vs'.size = ys.length := by simpa using PySem.SeqAt.ReadsAll.length _ _ _ k4
      rw [dataLt_tuple, ← firstLt_toks xs ys hal, ← n1, ← n2] at hq
      rw [oneLt'_eq]
      simp only [if_true]
      refine wpAny_bind (wpAny_cRoomFor (room_here hu) ?_)
      refine wpAny_bind (wpAny_callSpecialIfBound?_slot (T := "tuple") ⟨_, h1, h2⟩ F.slot_tuple_lt (tuple_lt_call (e := pairEq xs ys) (r := fun j => dataLt (xs.getD j .none) (ys.getD j .none)) ⟨_, h1, h2, _, h3⟩ ⟨_, k1, k2, _, k3⟩ (fun j j1 j2 => ?_) (fun j j1 j2 hj => ?_) ?_))
      · have := eqAt_alikeAll xs ys A.in1 s vs.toList vs'.toList _ _ h4 k4 hal (room_in hu) j (by simpa using j1) (by simpa using j2)
        simpa using this
      · have := rcLt_alikeAll xs ys A.in1 s vs.toList vs'.toList _ _ h4 k4 hal (room_in hu) j (by simpa using j1) (by simpa using j2) hj
        simpa using this
      · exact wpAny_truthy_bool hq
end
section
variable {M : Model} {A : Around} {E : Value → Shared → Prop} {s : Shared}
/-- the first items, where the values read as tuples -/
theorem firsts_tup : ∀ (vs : List Value) (ds : List PyData) {Q : List (Option Value) → Shared → Prop}, EachIs (fun v d => ∃ as, Reads s.heap v d as) vs ds → (∀ d ∈ ds, ∃ xs, d = .tuple xs) →
    (∀ fs : List (Option Value), EachIs (fun f d => ∃ xs, d = PyData.tuple xs ∧ f.isSome = !xs.isEmpty) fs ds → Q fs s) → wpAny M A (vs.mapM firstOfTuple') Q E s
  | _, _, _, .nil, _, h => by rw [List.mapM_nil]; exact wpAny_pure (h _ .nil)
  | _, _, Q, .cons (a := v) (b := d) (as := vs) (bs := ds) ⟨as, r⟩ t, ht, h => by
    obtain ⟨xs, rfl⟩ := ht d List.mem_cons_self
    cases r with
    | @tuple l o us n _ as₁ h1 h2 h3 h4 =>
      rw [List.mapM_cons]
      refine wpAny_bind ?_
      rw [kas_first_eq]
      refine wpAny_bind (Looks.here (show Looks M s.heap (typeOf (.ref l)) o.cls from (Looks.ld h1).andThen .now) ?_)
      rw [h2, if_neg (by first | decide | simp)]
      refine wpAny_bind (listItems_at h1 h3 (wpAny_pure ?_))
      refine wpAny_bind (firsts_tup vs ds (Q := fun bs s' => wpAny M A (pure (us[0]? :: bs)) Q E s') t (fun d hd => ht d (List.mem_cons_of_mem _ hd)) fun fs hfs => wpAny_pure (h _ (.cons ⟨xs, rfl, ?_⟩ hfs)))
      have n1 : us.size = xs.length := by simpa using PySem.SeqAt.ReadsAll.length _ _ _ h4
      cases xs with
      | nil =>
        have : us[0]? = none := by rw [Array.getElem?_eq_none_iff, n1]; simp
        rw [this]; rfl
      | cons x xs =>
        have : us[0]? = some (us[0]'(by rw [n1]; simp)) := Array.getElem?_eq_getElem _
        rw [this]; rfl
end
section
variable {prog : Program} {w : World} {A : Around} {s : Shared}
theorem eachIs_all {fs : List (Option Value)} {ds : List PyData} (h : EachIs (fun f d => ∃ xs, d = PyData.tuple xs ∧ f.isSome = !xs.isEmpty) fs ds) (hn : ∃ d ∈ ds, d = PyData.tuple []) : fs.all (·.isSome) = false := by
  induction h with
  | nil => obtain ⟨d, h, _⟩ := hn; cases h
  | @cons a b as bs h t ih =>
    obtain ⟨d, hd, e⟩ := hn
    rcases List.mem_cons.mp hd with q | q
    · subst q
      obtain ⟨xs, e1, e2⟩ := h
      rw [e] at e1
      cases e1
      simp [List.all_cons, e2]
    · rw [List.all_cons, ih ⟨d, q, e⟩, Bool.and_false]
/-- tuples, one of them without items -/
theorem sortsAt_tups {vs : List Value} {ds : List PyData} (e : EachIs (fun v d => ∃ as, Reads s.heap v d as) vs ds) (hal : AllAlike ds) (ht : ∀ d ∈ ds, ∃ xs, d = .tuple xs) (hn : ∃ d ∈ ds, d = PyData.tuple []) (hu : ∀ d, d ∈ ds → A.units + d.depth < cLine) : SortsAt prog w A s (dataKind s.heap ds) vs := by
  have room : ∀ {d d' : PyData}, d ∈ ds → A.units + min d.depth d'.depth < cLine := fun {d d'} hd => Nat.lt_of_le_of_lt (Nat.add_le_add_left (Nat.min_le_left _ _) _) (hu d hd)
  refine ⟨fun v hv => ?_, ?_⟩
  · obtain ⟨d, hd, as, r⟩ := e.left v hv
    exact ⟨_, dataKind_some hal hd r⟩
  · have oneT : H.LtAt prog w A s (dataKind s.heap ds) oneType' := by
      intro E x y a b Q ha hb hq
      obtain ⟨d, as, hd, ra, rfl⟩ := dataKind_inv ha
      obtain ⟨d', as', hd', rb, rfl⟩ := dataKind_inv hb
      rw [keyLt'_oneType]
      obtain ⟨xs, rfl⟩ := ht d hd
      obtain ⟨ys, rfl⟩ := ht d' hd'
      exact oneLt_tuple ra rb (hal _ hd _ hd') (room hd) hq
    have genT : H.LtAt prog w A s (dataKind s.heap ds) general' := by
      intro E x y a b Q ha hb hq
      obtain ⟨d, as, hd, ra, rfl⟩ := dataKind_inv ha
      obtain ⟨d', as', hd', rb, rfl⟩ := dataKind_inv hb
      show wpAny (model prog w) A (oneLt' false x y) Q E s
      obtain ⟨xs, rfl⟩ := ht d hd
      exact oneLt_alike (fun h => by cases h) ra rb (hal _ hd _ hd') (by simp) (room hd) hq
    -- which kind: by the first value
    by_cases hf : ∃ x r rest, ds = PyData.tuple (x :: r) :: rest
    · refine ⟨general', genT, fun h2 E Q hq => ?_⟩
      rw [kat_kind_eq, List.mapM_toArray, map_eq_pure_bind]
      refine wpAny_bind (wpAny_bind (firsts_tup vs ds e ht fun fs hfs => wpAny_pure ?_))
      have hall := eachIs_all hfs hn
      rw [if_neg (by simp only [List.all_toArray, hall]; decide)]
      obtain ⟨x, r, rest, rfl⟩ := hf
      cases hfs with
      | cons h t =>
        obtain ⟨zs, e1, e2⟩ := h
        cases e1
        rename_i f fs'
        have : ((f :: fs').toArray[0]?.bind id).isSome = true := by simpa using e2
        rw [if_pos this]
        exact wpAny_pure hq
    · refine ⟨oneType', oneT, fun h2 E Q hq => ?_⟩
      rw [kat_kind_eq, List.mapM_toArray, map_eq_pure_bind]
      refine wpAny_bind (wpAny_bind (firsts_tup vs ds e ht fun fs hfs => wpAny_pure ?_))
      have hall := eachIs_all hfs hn
      rw [if_neg (by simp only [List.all_toArray, hall]; decide)]
      have h0 : (fs.toArray[0]?.bind id).isSome = false := by
        cases hfs with
        | nil => rfl
        | cons h t =>
          obtain ⟨zs, e1, e2⟩ := h
          subst e1
          cases zs with
          | nil => simpa using e2
          | cons x r => exact absurd ⟨x, r, _, rfl⟩ hf
      rw [if_neg (by rw [h0]; decide)]
      rw [oneTypeOnly'_eq, List.mapM_toArray, map_eq_pure_bind]
      refine wpAny_bind (wpAny_bind (wpAny_bind (kas_mapM (r := Value.type "tuple") _ (fun v hv Q' hq' => ?_) (wpAny_pure ?_))))
      · obtain ⟨d, hd, as, r⟩ := e.left v hv
        obtain ⟨xs, rfl⟩ := ht d hd
        exact (looks_reads r).here hq'
      · have hall2 : ((List.map (fun _ => Value.type "tuple") vs).toArray.all fun x => x == Value.type "tuple") = true := by
          simp only [List.all_toArray, List.all_map, List.all_eq_true]
          intro _ _
          rfl
        obtain ⟨v₁, v₂, rest, rfl⟩ : ∃ v₁ v₂ rest, vs = v₁ :: v₂ :: rest := by
          match vs, h2 with
          | [], h2 => simp at h2
          | [_], h2 => simp at h2
          | v₁ :: v₂ :: rest, _ => exact ⟨v₁, v₂, rest, rfl⟩
        have h1 : (List.map (fun _ => Value.type "tuple") (v₁ :: v₂ :: rest)).toArray[0]? = some (Value.type "tuple") := by simp
        rw [h1]
        simp only [hall2, if_true]
        exact wpAny_pure (wpAny_pure hq)
/-- all tuples, or none a tuple or None -/
def Srt (ds : List PyData) : Prop := (∀ d ∈ ds, ∃ xs, d = .tuple xs) ∨ ∀ d, d ∈ ds → d ≠ .none ∧ ∀ xs, d ≠ .tuple xs
theorem sortsAt {vs : List Value} {ds : List PyData} (e : EachIs (fun v d => ∃ as, Reads s.heap v d as) vs ds) (hal : AllAlike ds) (hk : Srt ds) (hu : ∀ d, d ∈ ds → A.units + d.depth < cLine) : SortsAt prog w A s (dataKind s.heap ds) vs := by
  rcases hk with ht | ho
  · by_cases hn : ∃ d ∈ ds, d = PyData.tuple []
    · exact sortsAt_tups e hal ht hn hu
    · refine SortsAt.data e hal (.inl fun d hd => ?_) hu
      obtain ⟨xs, rfl⟩ := ht d hd
      cases xs with
      | nil => exact absurd ⟨_, hd, rfl⟩ hn
      | cons x r => exact ⟨x, r, rfl⟩
  · exact SortsAt.data e hal (.inr ho) hu
section
variable {E : Value → Shared → Prop} {β : Type} {vs : List Value} {bs : List β} {enc : β → PyData} {R : Value → β → Prop}
theorem sorted_any {l : Addr} {Q : Value → Shared → Prop} (hl : s.heap.IsList l vs.toArray) (e : EachIs R vs bs) (er : EachIs (fun v b => ∃ as, Reads s.heap v (enc b) as) vs bs) (hal : AllAlike (bs.map enc)) (hk : Srt (bs.map enc)) (hL : bs.length ≤ sizeLine)
    (hu : ∀ b, b ∈ bs → A.units + 2 + (enc b).depth < cLine) (h : ∀ out, out.length = bs.length → EachIs R out (bs.mergeSort (dataLe false enc)) → Q (.ref (s.heap.objs.size + 1)) { s with heap := sortedAll s.heap vs (List.toArray out) }) :
    wpAny (model prog w) A (call (.builtin "sorted") [.ref l]) Q E s := by
  have er' : EachIs (fun v b => ∃ as, Reads (sortingHeap (copyHeap s.heap vs) (s.heap.objs.size + 1) vs) v (enc b) as) vs bs := er.mono fun _ _ ⟨as, r⟩ => ⟨as, PyProof.Rows.Reads.keeps (fun _ _ => sorting_copy_old) r⟩
  exact sorted_vals hl (sortsAt (s := { s with heap := sortingHeap (copyHeap s.heap vs) (s.heap.objs.size + 1) vs }) (each_map (R := fun v d => ∃ as, Reads (sortingHeap (copyHeap s.heap vs) (s.heap.objs.size + 1) vs) v d as) enc er') hal hk (bound_map hu)) (by rw [e.length]; exact hL)
    (h _ (by rw [sortVals_length false rfl]; exact e.length) (sortVals_data false e er' hal))
theorem sorted_anyR {l : Addr} {b : Bool} {Q : Value → Shared → Prop} (hl : s.heap.IsList l vs.toArray) (e : EachIs R vs bs) (er : EachIs (fun v b => ∃ as, Reads s.heap v (enc b) as) vs bs) (hal : AllAlike (bs.map enc)) (hk : Srt (bs.map enc)) (hL : bs.length ≤ sizeLine)
    (hu : ∀ b, b ∈ bs → A.units + 2 + (enc b).depth < cLine) (h : ∀ out, out.length = bs.length → EachIs R out (bs.mergeSort (dataLe b enc)) → Q (.ref (s.heap.objs.size + 1)) { s with heap := sortedAll s.heap vs (List.toArray out) }) :
    wpAny (model prog w) A (call (.builtin "sorted") [.ref l] [(Str.ofString "reverse", .bool b)]) Q E s := by
  have er' : EachIs (fun v b => ∃ as, Reads (sortingHeap (copyHeap s.heap vs) (s.heap.objs.size + 1) vs) v (enc b) as) vs bs := er.mono fun _ _ ⟨as, r⟩ => ⟨as, PyProof.Rows.Reads.keeps (fun _ _ => sorting_copy_old) r⟩
  exact sorted_rev_vals hl (sortsAt (s := { s with heap := sortingHeap (copyHeap s.heap vs) (s.heap.objs.size + 1) vs }) (each_map (R := fun v d => ∃ as, Reads (sortingHeap (copyHeap s.heap vs) (s.heap.objs.size + 1) vs) v d as) enc er') hal hk (bound_map hu)) (by rw [e.length]; exact hL)
    (h _ (by rw [sortVals_length b rfl]; exact e.length) (sortVals_data b e er' hal))
end
end
end AG
/-! AgM: sorted. -/
namespace AG
open PySem L2

/-! the sort, as the kernel can work it out -/
def mrg {α : Type} (le : α → α → Bool) : Nat → List α → List α → List α
  | 0, _, _ => []
  | _ + 1, [], ys => ys
  | _ + 1, x :: xs, [] => x :: xs
  | n + 1, x :: xs, y :: ys => if le x y = true then x :: mrg le n xs (y :: ys) else y :: mrg le n (x :: xs) ys
theorem mrg_eq {α : Type} {le : α → α → Bool} : ∀ (n : Nat) (xs ys : List α), xs.length + ys.length ≤ n → mrg le n xs ys = xs.merge ys le
  | 0, [], [], _ => by simp [mrg]
  | 0, _ :: _, _, h => by simp at h
  | 0, [], _ :: _, h => by simp at h
  | n + 1, [], ys, h => by simp [mrg]
  | n + 1, x :: xs, [], h => by simp [mrg]
  | n + 1, x :: xs, y :: ys, h => by
    simp only [List.length_cons] at h
    rw [mrg, List.merge.eq_3, mrg_eq n xs (y :: ys) (by simp only [List.length_cons]; omega), mrg_eq n (x :: xs) ys (by simp only [List.length_cons]; omega)]
def msrt {α : Type} (le : α → α → Bool) : Nat → List α → List α
  | 0, xs => xs
  | _ + 1, [] => []
  | _ + 1, [a] => [a]
  | n + 1, a :: b :: xs => mrg le (xs.length + 2) (msrt le n ((a :: b :: xs).take ((xs.length + 3) / 2))) (msrt le n ((a :: b :: xs).drop ((xs.length + 3) / 2)))
theorem msrt_eq {α : Type} {le : α → α → Bool} : ∀ (n : Nat) (xs : List α), xs.length ≤ n → msrt le n xs = xs.mergeSort le
  | 0, [], _ => by simp [msrt]
  | 0, _ :: _, h => by simp at h
  | n + 1, [], _ => by simp [msrt]
  | n + 1, [a], _ => by simp [msrt]
  | n + 1, a :: b :: xs, h => by
    simp only [List.length_cons] at h
    have l1 : ((a :: b :: xs).take ((xs.length + 3) / 2)).length ≤ n := by simp only [List.length_take, List.length_cons]; omega
    have l2 : ((a :: b :: xs).drop ((xs.length + 3) / 2)).length ≤ n := by simp only [List.length_drop, List.length_cons]; omega
    rw [msrt, msrt_eq n _ l1, msrt_eq n _ l2, mrg_eq, List.mergeSort.eq_3, List.MergeSort.Internal.splitInTwo_fst, List.MergeSort.Internal.splitInTwo_snd]
    · rfl
    · rw [List.length_mergeSort, List.length_mergeSort, List.length_take, List.length_drop, List.length_cons, List.length_cons]
      omega
def sortD (rev : Bool) (ds : List D) : List D := msrt (fun a b => cond rev (!D.lt a b) (!D.lt b a)) ds.length ds
theorem sortD_def (rev : Bool) (ds : List D) : sortD rev ds = ds.mergeSort fun a b => cond rev (!D.lt a b) (!D.lt b a) := msrt_eq _ _ (Nat.le_refl _)
def D.isTup : D → Bool | .tup _ => true | _ => false
def srtOk (ds : List D) : Bool := ds.all (D.sm 60) && (ds.all fun d => ds.all fun e => D.alike d e) && (ds.all D.isTup || ds.all fun d => !d.isTup && !d.isNon) && decide (ds.length ≤ 16777216)
def fSorted (rev : Bool) : LOp := fun ds => match ds with
  | [.lst xs] => if srtOk xs = true then M.pure (.lst (sortD rev xs)) else M.bad
  | _ => M.bad
def rSrt (K : PySem.W.Frag) (rev : Bool) : List V → Hp → VK → Prop := fun xs H Q => ∃ (a : Addr) (ps : List (V × D)), xs = [V.ref a] ∧ SqL K H a (ps.map Prod.fst) ∧ (∀ p ∈ ps, Dp K H p.1 p.2.toPy) ∧ srtOk (ps.map Prod.snd) = true ∧
  ∀ l, H l = none → Q (.ref l) (upd H l (.lst ((ps.mergeSort fun a b => cond rev (!D.lt a.2 b.2) (!D.lt b.2 a.2)).map Prod.fst)))
theorem each_vals {s : Shared} {us : List Value} {ps : List (V × D)} : ∀ {ps : List (V × D)} {us : List Value}, Vals (ps.map Prod.fst) us → PySem.W.EachIs (fun v p => RelV p.1 v) us ps
  | [], us, h => by cases h; exact .nil
  | p :: ps, us, h => by
    cases h with
    | cons a b => exact .cons a (each_vals (s := s) (us := us) (ps := ps) b)
theorem vals_each : ∀ {ps : List (V × D)} {us : List Value}, PySem.W.EachIs (fun v (p : V × D) => RelV p.1 v) us ps → Vals (ps.map Prod.fst) us
  | _, _, .nil => .nil
  | _, _, .cons h t => .cons h (vals_each t)
theorem each_reads {X : Cx} {pins : List (Addr × Obj)} {σ : St} {H : Hp} {s : Shared} (I : Inv X pins σ H s) : ∀ {ps : List (V × D)} {us : List Value}, Vals (ps.map Prod.fst) us → (∀ p ∈ ps, Dp X.K H p.1 p.2.toPy) → PySem.W.EachIs (fun v p => ∃ as, Reads s.heap v p.2.toPy as) us ps
  | [], us, h, _ => by cases h; exact .nil
  | p :: ps, us, h, hd => by
    cases h with
    | cons a b => exact .cons (Dp.reads I _ _ _ (hd p List.mem_cons_self) a) (each_reads I b fun q hq => hd q (List.mem_cons_of_mem _ hq))
theorem srt_of {ps : List (V × D)} (h : srtOk (ps.map Prod.snd) = true) : PySem.W.AllAlike (ps.map fun p => p.2.toPy) ∧ Srt (ps.map fun p => p.2.toPy) ∧ ps.length ≤ sizeLine ∧ ∀ p ∈ ps, p.2.toPy.depth ≤ 60 := by
  simp only [srtOk, Bool.and_eq_true, Bool.or_eq_true, List.all_eq_true, decide_eq_true_eq, List.length_map] at h
  obtain ⟨⟨⟨h1, h2⟩, h3⟩, h4⟩ := h
  refine ⟨fun d hd d' hd' => ?_, ?_, by rw [sizeLine_lit]; exact h4, fun p hp => sm_depth (h1 _ (List.mem_map_of_mem hp))⟩
  · obtain ⟨p, hp, rfl⟩ := List.mem_map.mp hd
    obtain ⟨q, hq, rfl⟩ := List.mem_map.mp hd'
    exact h2 _ (List.mem_map_of_mem hp) _ (List.mem_map_of_mem hq)
  · rcases h3 with h3 | h3
    · refine .inl fun d hd => ?_
      obtain ⟨p, hp, rfl⟩ := List.mem_map.mp hd
      have := h3 _ (List.mem_map_of_mem hp)
      cases q : p.2 <;> rw [q] at this <;> simp [D.isTup] at this
      exact ⟨_, rfl⟩
    · refine .inr fun d hd => ?_
      obtain ⟨p, hp, rfl⟩ := List.mem_map.mp hd
      have := h3 _ (List.mem_map_of_mem hp)
      cases q : p.2 <;> rw [q] at this <;> simp [D.isTup, D.isNon, D.toPy] at this ⊢
section
variable {X : Cx}
theorem cr_srt (hu : X.A.units + 66 < cLine) : CallR X (.builtin "sorted") (rSrt X.K false) := by
  intro pins s σ H xs us Q I r h
  obtain ⟨a, ps, rfl, hs, hd, ok, q⟩ := h
  obtain ⟨its, rv, hl, hz⟩ := I.list hs
  rw [Vals.ref1 r]
  obtain ⟨o1, o2, o3, o4⟩ := srt_of ok
  refine sorted_any (R := fun v (p : V × D) => RelV p.1 v) (enc := fun p : V × D => p.2.toPy) (bs := ps) hl.isList (each_vals (s := s) (us := its) (ps := ps) rv) (each_reads I rv hd) o1 o2 o3 (fun p hp => by have := o4 p hp; omega) fun out hlen e => ?_
  have e := vals_each e
  obtain ⟨ep, he'⟩ := PyProof.Rows.sortedAll_at s.heap its out.toArray
  have hz2 : ((ps.mergeSort fun a b => cond false (!D.lt a.2 b.2) (!D.lt b.2 a.2)).map Prod.fst).length ≤ sizeLine := by rw [List.length_map, List.length_mergeSort]; exact o3
  exact ⟨.ref _, upd H (s.heap.objs.size + 1) (.lst ((ps.mergeSort fun a b => cond false (!D.lt a.2 b.2) (!D.lt b.2 a.2)).map Prod.fst)), I.laid (t' := s.toks) (fun _ _ => PyProof.Rows.sortedAll_old) (Nat.le_succ _) ⟨hz2, out, ep, e, he'⟩, rfl, q _ (I.hok.fresh (Nat.le_succ _))⟩
theorem cr_srtR (hu : X.A.units + 66 < cLine) : CallRK X (.builtin "sorted") [Str.ofString "reverse"] (fun xs zs H Q => ∃ b, zs = [.bl b] ∧ rSrt X.K b xs H Q) := by
  intro pins s σ H xs zs us ws Q I r rz h
  obtain ⟨b, rfl, a, ps, rfl, hs, hd, ok, q⟩ := h
  obtain ⟨its, rv, hl, hz⟩ := I.list hs
  rw [Vals.ref1 r]
  obtain ⟨bv, rfl, rb⟩ := rz.one
  cases rb
  obtain ⟨o1, o2, o3, o4⟩ := srt_of ok
  refine sorted_anyR (R := fun v (p : V × D) => RelV p.1 v) (enc := fun p : V × D => p.2.toPy) (bs := ps) hl.isList (each_vals (s := s) (us := its) (ps := ps) rv) (each_reads I rv hd) o1 o2 o3 (fun p hp => by have := o4 p hp; omega) fun out hlen e => ?_
  have e := vals_each e
  obtain ⟨ep, he'⟩ := PyProof.Rows.sortedAll_at s.heap its out.toArray
  have hz2 : ((ps.mergeSort fun a c => cond b (!D.lt a.2 c.2) (!D.lt c.2 a.2)).map Prod.fst).length ≤ sizeLine := by rw [List.length_map, List.length_mergeSort]; exact o3
  exact ⟨.ref _, upd H (s.heap.objs.size + 1) (.lst ((ps.mergeSort fun a c => cond b (!D.lt a.2 c.2) (!D.lt c.2 a.2)).map Prod.fst)), I.laid (t' := s.toks) (fun _ _ => PyProof.Rows.sortedAll_old) (Nat.le_succ _) ⟨hz2, out, ep, e, he'⟩, rfl, q _ (I.hok.fresh (Nat.le_succ _))⟩
end
theorem RpAll.zip {K : PySem.W.Frag} {w : Wd} : ∀ {vs : List V} {ds : List D}, RpAll K w vs ds → (∀ p ∈ vs.zip ds, Rp K w p.1 p.2) ∧ (vs.zip ds).map Prod.fst = vs ∧ (vs.zip ds).map Prod.snd = ds
  | _, _, .nil => ⟨fun p h => (by cases h), rfl, rfl⟩
  | _, _, .cons h r => by
    obtain ⟨a, b, c⟩ := RpAll.zip r
    refine ⟨fun p hp => ?_, by simp [b], by simp [c]⟩
    rcases List.mem_cons.mp hp with e | e
    · subst e; exact h
    · exact a p e
theorem RpAll.of_zip {K : PySem.W.Frag} {w : Wd} : ∀ {ps : List (V × D)}, (∀ p ∈ ps, Rp K w p.1 p.2) → RpAll K w (ps.map Prod.fst) (ps.map Prod.snd)
  | [], _ => .nil
  | p :: ps, h => .cons (h p List.mem_cons_self) (RpAll.of_zip fun q hq => h q (List.mem_cons_of_mem _ hq))
theorem sorted_one {rev : Bool} {ds : List D} {mh : MH} {Q : D → MH → Prop} {E : Nat → MH → Prop} (h : wpR (fSorted rev ds mh) Q E) : ∃ xs, ds = [.lst xs] := by
  unfold fSorted at h
  split at h
  · exact ⟨_, rfl⟩
  · exact h.elim
theorem srt_read {K : PySem.W.Frag} {ca : CA} {W : WX} {σ : St} {w : Wd} {mh : MH} {rev : Bool} {v : V} {xs : List D} {Q : VK} (hw : WOk K ca w mh) (r : Rp K w v (.lst xs)) (hp : Post K ca W σ w (fSorted rev [.lst xs] mh) Q) : rSrt K rev [v] w.H Q := by
  cases r with
  | lst h1 h2 =>
    rename_i a vs
    by_cases c : srtOk xs = true
    · simp only [fSorted, c, if_true] at hp
      obtain ⟨z1, z2, z3⟩ := h2.zip
      refine ⟨a, vs.zip xs, rfl, by rw [z2]; exact .of (hw.subL _ _ h1), fun p hp' => (z1 p hp').dp (n := 60) hw.subs ?_, by rw [z3]; exact c, fun l hl => ?_⟩
      · have c1 : xs.all (D.sm 60) = true := by
          simp only [srtOk, Bool.and_eq_true] at c
          exact c.1.1.1
        refine all_sm c1 _ ?_
        have := List.mem_map_of_mem (f := Prod.snd) hp'
        rwa [z3] at this
      · refine PostG.lst (ds := sortD rev xs) hp hw ?_ l hl
        have e : sortD rev xs = ((vs.zip xs).mergeSort fun a b => cond rev (!D.lt a.2 b.2) (!D.lt b.2 a.2)).map Prod.snd := by
          rw [List.map_mergeSort (s := fun a b => cond rev (!D.lt a b) (!D.lt b a)) (fun _ _ _ _ => rfl), z3, sortD_def]
        rw [e]
        exact RpAll.of_zip fun p hp' => z1 p (List.mem_mergeSort.mp hp')
    · simp only [fSorted, c] at hp; exact hp.elim
section
variable {X : Cx} {ca : CA} {W : WX} {e : Expr} {es : List Expr} {ms : Env → M (List D)} {p pos : Pos} {k : Nat}
theorem me_sorted (hr : Room k X.A) (hm : X.mg "sorted" = none) (ha : MA X ca W (e :: es) ms) (hg : Gl X "sorted" := by rfl) (he : starEach (e :: es) X.env = (false, eval e X.env) :: starEach es X.env := by rfl) (hpl : (backTo pos (starEach es X.env)).any (·.1) = false := by rfl) : ME X ca W (.Call (.Name "sorted" p) (e :: es) [] pos) (mCall (fSorted false) ms) :=
  PE.mono (pe_callB (cr_srt (hu66 hr)) hg hm (by decide +kernel) ha (by decide) (by decide) he hpl) fun σ H Q h => by
    obtain ⟨w, mh, env, rfl, hw, hfr, hp⟩ := h
    refine stepG (rep := repA X.K) hw hfr hp fun w1 mh1 v1 d1 x1 hw1 hf1 r1 hp1 => ?_
    have r1 : RpAll X.K w1 v1 d1 := r1
    obtain ⟨xs, rfl⟩ := sorted_one hp1
    obtain ⟨x, rfl, q⟩ := r1.one
    exact srt_read hw1 q hp1
/-- sorted(e, reverse=True) -/
theorem me_sortedR {b : Bool} {j : Nat} {p2 kp : Pos} (hr : Room k X.A) (hm : X.mg "sorted" = none) (ha : MA X ca W [e] ms) (hg : Gl X "sorted" := by rfl)
    (he : backTo pos (starEach [e] X.env) = (false, eval e X.env) :: backTo pos (starEach [] X.env) := by rfl) (hpl : (backTo pos (starEach [e] X.env)).any (·.1) = false := by rfl)
    (hall : (backToKw pos (keywordEach [⟨some "reverse", .Constant (.bool b) j p2, kp⟩] X.env)).all (·.1.isSome) = true := by rfl) (hnone : (backToKw pos (keywordEach [⟨some "reverse", .Constant (.bool b) j p2, kp⟩] X.env)).any (·.1.isNone) = false := by rfl)
    (hks : (backToKw pos (keywordEach [⟨some "reverse", .Constant (.bool b) j p2, kp⟩] X.env)).filterMap (·.1) = [Str.ofString "reverse"] := by rfl) :
    ME X ca W (.Call (.Name "sorted" p) [e] [⟨some "reverse", .Constant (.bool b) j p2, kp⟩] pos) (mCall (fSorted b) ms) :=
  PE.mono (pe_callBK (cr_srtR (hu66 hr)) hg hm (by decide +kernel) ha (pk_cons pe_bl pk_nil) (by decide) (by decide) he hpl hall hnone hks) fun σ H Q h => by
    obtain ⟨w, mh, env, rfl, hw, hfr, hp⟩ := h
    refine stepG (rep := repA X.K) hw hfr hp fun w1 mh1 v1 d1 x1 hw1 hf1 r1 hp1 => ?_
    have r1 : RpAll X.K w1 v1 d1 := r1
    obtain ⟨xs, rfl⟩ := sorted_one hp1
    obtain ⟨x, rfl, q⟩ := r1.one
    exact ⟨b, rfl, srt_read hw1 q hp1⟩
end
end AG
/-! AgN: explicit objects, the stream. -/
namespace AG
open PySem L2

theorem nodup_inj {α : Type} : ∀ {l : List α} {i j : Nat} {a : α}, l.Nodup → l[i]? = some a → l[j]? = some a → i = j
  | [], _, _, _, _, h, _ => by simp at h
  | x :: l, 0, 0, _, _, _, _ => rfl
  | x :: l, 0, j + 1, a, n, h1, h2 => by
    simp at h1 h2
    subst h1
    exact absurd (List.mem_of_getElem? h2) (List.nodup_cons.mp n).1
  | x :: l, i + 1, 0, a, n, h1, h2 => by
    simp at h1 h2
    subst h2
    exact absurd (List.mem_of_getElem? h1) (List.nodup_cons.mp n).1
  | x :: l, i + 1, j + 1, a, n, h1, h2 => by
    simp at h1 h2
    rw [nodup_inj (List.nodup_cons.mp n).2 h1 h2]
section
variable {K : PySem.W.Frag} {ca : CA} {w : Wd} {mh : MH}
/-- an explicit object is written -/
theorem Ext.obj {a : Addr} {o : HO} (hr : a ∈ w.ρ) : Ext w (w.put a o) := by
  refine ⟨⟨[], by simp [Wd.put], by simp⟩, fun _ _ h => h, fun _ _ h => h, fun b u h hb => ?_, fun _ _ h => .inl h, fun _ _ h => .inl h, fun b h => ?_⟩
  · show upd w.H a o b = some u
    rw [upd_ne (fun e => hb (by rw [e]; exact hr))]
    exact h
  · have h : upd w.H a o b = none := h
    by_cases e : b = a
    · subst e; rw [upd_same] at h; cases h
    · rw [upd_ne e] at h; exact h
theorem WOk.obj' (hw : WOk K ca w mh) {n : Nat} {a : Addr} {o : HO} {mo : MO} (hn : w.ρ[n]? = some a) (hk : MOk K ca (w.put a o) a mo) : WOk K ca (w.put a o) (mh.set n mo) := by
  obtain ⟨mo0, e0, hF, hL, h0⟩ := hw.at hn
  refine ⟨fun b u h => ?_, fun b xs h => ?_, by simpa [Wd.put] using hw.len, hw.nd, fun m b mo' h1 h2 => ?_⟩
  · show upd w.H a o b = some u
    rw [upd_ne (fun e => by subst e; have h : w.F b = some u := h; rw [hF] at h; cases h)]
    exact hw.sub _ _ h
  · show upd w.H a o b = some (.lst xs)
    rw [upd_ne (fun e => by subst e; have h : w.L b = some xs := h; rw [hL] at h; cases h)]
    exact hw.subL _ _ h
  · rw [getElem?_setS] at h2
    have h1 : w.ρ[m]? = some b := h1
    by_cases e : n = m
    · subst e
      rw [hn] at h1
      cases h1
      rw [if_pos rfl] at h2
      split at h2
      · cases h2
        exact ⟨hF, hL, hk⟩
      · cases h2
    · rw [if_neg e] at h2
      obtain ⟨f, l, q⟩ := hw.obj m b mo' h1 h2
      have ab : b ≠ a := fun z => by
        subst z
        have h1' := hn
        exact e (nodup_inj hw.nd h1' h1)
      refine ⟨f, l, ?_⟩
      have hb : ∀ u, w.H b = some u → (w.put a o).H b = some u := fun u h => by
        show upd w.H a o b = some u
        rw [upd_ne ab]; exact h
      exact q.grow hb put_grow
/-- a new explicit object -/
def Wd.new (w : Wd) (p : Addr) (o : HO) : Wd := ⟨w.ρ ++ [p], w.F, w.L, upd w.H p o⟩
theorem Ext.new {p : Addr} {o : HO} (hp : w.H p = none) : Ext w (w.new p o) :=
  ⟨⟨[p], rfl, fun a h => by rw [List.mem_singleton.mp h]; exact hp⟩, fun _ _ h => h, fun _ _ h => h, fun b u h _ => upd_some hp h, fun _ _ h => .inl h, fun _ _ h => .inl h, th_upd hp⟩
theorem WOk.new (hw : WOk K ca w mh) {p : Addr} {o : HO} {mo : MO} (hp : w.H p = none) (hk : MOk K ca (w.new p o) p mo) : WOk K ca (w.new p o) (mh ++ [mo]) := by
  refine ⟨fun a u h => upd_some hp (hw.sub _ _ h), fun a xs h => upd_some hp (hw.subL _ _ h), by simp [Wd.new, hw.len], ?_, fun m b mo' h1 h2 => ?_⟩
  · show (w.ρ ++ [p]).Nodup
    rw [List.nodup_append]
    exact ⟨hw.nd, by simp, fun a ha b hb => by rw [List.mem_singleton.mp hb]; exact fun e => hw.nrho hp (e ▸ ha)⟩
  · have h1 : (w.ρ ++ [p])[m]? = some b := h1
    rcases Nat.lt_trichotomy m w.ρ.length with l | l | l
    · rw [List.getElem?_append_left l] at h1
      rw [List.getElem?_append_left (by rw [← hw.len]; exact l)] at h2
      obtain ⟨f, l', q⟩ := hw.obj m b mo' h1 h2
      exact ⟨f, l', q.grow (fun u z => upd_some hp z) (Ext.new hp).grow⟩
    · subst l
      rw [List.getElem?_append_right (Nat.le_refl _)] at h1
      rw [hw.len, List.getElem?_append_right (Nat.le_refl _)] at h2
      simp at h1 h2
      subst h1 h2
      exact ⟨hw.fnone hp, hw.lnone hp, hk⟩
    · rw [List.getElem?_eq_none (by simp; omega)] at h1; cases h1
end

/-! ### explicit lists -/
def mNewLst (ms : Env → M (List D)) : Env → M D := fun env => M.bind (ms env) fun xs => if xs.length ≤ 16777216 then fun h => .ok (.ref h.length) (h ++ [.lst xs]) else M.bad
def setIxM (v d j : D) : M Unit := match d, j with
  | .ref n, .int k => fun h => match h[n]? with
    | some (.lst xs) => match ixN xs.length k with | some t => .ok () (h.set n (.lst (xs.set t v))) | none => .bad
    | _ => .bad
  | _, _ => M.bad
def mSetIx (o i e : Env → M D) : Env → M Fl := fun env => M.bind (e env) fun v => M.bind (o env) fun d => M.bind (i env) fun j => M.bind (setIxM v d j) fun _ => M.pure (.nx env)
def mSetIxOwn (x : Nat) (i e : Env → M D) : Env → M Fl := fun env => match env[x]? with
  | some (.own _) => M.bind (e env) fun v => M.bind (i env) fun j => match env[x]?, j with
    | some (.own ds), .int k => match ixN ds.length k with | some t => M.pure (.nx (env.set x (.own (ds.set t v)))) | none => M.bad
    | _, _ => M.bad
  | _ => M.bad
section
variable {X : Cx} {ca : CA} {W : WX} {n : Nat} {es : List Expr} {ms : Env → M (List D)} {o i e : Expr} {mo mi me : Env → M D} {pos pos' : Pos} {x : Str}
theorem me_newLst (h : MA X ca W es ms) : ME X ca W (.List es pos) (mNewLst ms) :=
  PE.mono (pe_lst h) fun σ H Q h => by
    obtain ⟨w, mh, env, rfl, hw, hf, hp⟩ := h
    refine stepG (rep := repA X.K) hw hf hp fun w1 mh1 v1 d1 x1 hw1 hf1 r1 hp1 => ?_
    have r1 : RpAll X.K w1 v1 d1 := r1
    by_cases q : d1.length ≤ 16777216
    · simp only [q, if_true] at hp1
      refine ⟨by rw [r1.length, sizeLine_lit]; exact q, fun p hp => ?_⟩
      refine hp1 (w1.new p (.lst v1)) (.ref p) (Ext.new hp) (hw1.new hp ⟨v1, upd_same, r1.mono (Ext.new hp).grow⟩) (.ref ?_)
      show (w1.ρ ++ [p])[mh1.length]? = some p
      rw [← hw1.len]
      simp
    · simp only [q, if_false] at hp1; exact hp1.elim
theorem ms_setIx (he : ME X ca W e me) (ho : ME X ca W o mo) (hi : ME X ca W i mi)
    (ha : ∀ v, assign (.Subscript o i pos') X.env v = (do
      let ov ← holding [v] (eval o X.env)
      let iv ← holding [v, ov] (eval i X.env)
      standAt pos'
      holding [v, ov, iv] (setItem ov iv v)
      release [v, ov, iv] []) := by intro _; rfl)
    (hs : swapsWithSole [.Subscript o i pos'] e pos.line X.env = pure false := by rfl) (hw : swappedStores [.Subscript o i pos'] e X.env = pure none := by rfl) (h1 : (assignEach [.Subscript o i pos'] X.env).map (·.2) = [assign (.Subscript o i pos') X.env] := by rfl) :
    MS X ca W n (.Assign [.Subscript o i pos'] e pos) (mSetIx mo mi me) := PS.mono (ps_asg he (pg_sub ho hi set_list ha) hs hw h1) fun D' σ H h => by
  obtain ⟨w0, w, mh, env, rfl, hw, s, hp⟩ := h
  refine stepS (rep := repV X.K) hw s hp fun w1 mh1 v1 d1 x1 hw1 s1 r1 hp1 => ?_
  refine stepS (rep := repV X.K) hw1 s1 hp1 fun w2 mh2 v2 d2 x2 hw2 s2 r2 hp2 => ?_
  refine stepS (rep := repV X.K) hw2 s2 hp2 fun w3 mh3 v3 d3 x3 hw3 s3 r3 hp3 => ?_
  have r1 : Rp X.K w3 v1 d1 := x3.rp (x2.rp r1)
  have r2 : Rp X.K w3 v2 d2 := x3.rp r2
  cases r2 with
  | ref h2 =>
    rename_i a m
    cases r3 with
    | int k =>
      obtain ⟨mo', e1, _, _, hob⟩ := hw3.at h2
      cases mo' with
      | lst xs =>
        obtain ⟨vs, hH, rr⟩ := hob
        cases q : ixN xs.length k with
        | none => simp only [M.bind, setIxM, e1, q, R.bind] at hp3; exact hp3.elim
        | some t =>
          simp only [M.bind, setIxM, e1, q, R.bind, M.pure] at hp3
          refine ⟨a, vs, k, t, rfl, rfl, hH, by rw [rr.length]; exact q, ?_⟩
          have hm := List.mem_of_getElem? h2
          have x4 : Ext w3 (w3.put a (.lst (vs.set t v1))) := Ext.obj hm
          exact hp3 _ σ (s3.then x4) (x1.grow.trans (x2.grow.trans (x3.grow.trans x4.grow))) (hw3.obj' h2 ⟨_, upd_same, (rr.set r1 t).mono put_grow⟩)
      | stream => simp only [M.bind, setIxM, e1, R.bind] at hp3; exact hp3.elim
      | inst c fs => simp only [M.bind, setIxM, e1, R.bind] at hp3; exact hp3.elim
      | dct kvs => simp only [M.bind, setIxM, e1, R.bind] at hp3; exact hp3.elim
    | _ => exact hp3.elim
  | _ => first | exact hp3.elim | (cases r3 <;> exact hp3.elim)
theorem ms_setIxOwn (j : Nat) {p1 : Pos} (he : ME X ca W e me) (hi : ME X ca W i mi) (hN : X.N[j]? = some x := by rfl) (hv : Vis X.env.scope x := by first | exact Or.inl rfl | exact Or.inr (Or.inl rfl) | exact Or.inr (Or.inr rfl)) (hd : (x == ("__debug__" : Str)) = false := by decide)
    (hcd : (x == ("__classdict__" : Str)) = false := by decide)
    (ha : ∀ v, assign (.Subscript (.Name x p1) i pos') X.env v = (do
      let ov ← holding [v] (eval (.Name x p1) X.env)
      let iv ← holding [v, ov] (eval i X.env)
      standAt pos'
      holding [v, ov, iv] (setItem ov iv v)
      release [v, ov, iv] []) := by intro _; rfl)
    (hs : swapsWithSole [.Subscript (.Name x p1) i pos'] e pos.line X.env = pure false := by rfl) (hw : swappedStores [.Subscript (.Name x p1) i pos'] e X.env = pure none := by rfl) (h1 : (assignEach [.Subscript (.Name x p1) i pos'] X.env).map (·.2) = [assign (.Subscript (.Name x p1) i pos') X.env] := by rfl) :
    MS X ca W n (.Assign [.Subscript (.Name x p1) i pos'] e pos) (mSetIxOwn j mi me) := PS.mono (ps_asg he (pg_sub (pv j hN hv hd hcd) hi set_list ha) hs hw h1) fun D' σ H h => by
  obtain ⟨w0, w, mh, env, rfl, hw, s, hp⟩ := h
  cases q : env[j]? with
  | none => simp only [mSetIxOwn, q] at hp; exact hp.elim
  | some sl =>
    cases sl with
    | own ds =>
      simp only [mSetIxOwn, q] at hp
      refine stepS (rep := repV X.K) hw s hp fun w1 mh1 v1 d1 x1 hw1 s1 r1 hp1 => ?_
      obtain ⟨a, e1, o0⟩ := s1.fr.own j ds q
      refine ⟨_, e1, ?_⟩
      refine stepS (rep := repV X.K) hw1 s1 hp1 fun w2 mh2 v2 d2 x2 hw2 s2 r2 hp2 => ?_
      obtain ⟨a', e1', o1⟩ := s2.fr.own j ds q
      rw [e1] at e1'
      cases e1'
      obtain ⟨vs, hH, rr⟩ := o1.at'
      cases r2 <;> first | exact hp2.elim | skip
      rename_i k
      cases qi : ixN ds.length k with
      | none => simp only [qi] at hp2; exact hp2.elim
      | some t =>
        simp only [qi] at hp2
        refine ⟨a, vs, k, t, rfl, rfl, hH, by rw [rr.length]; exact qi, ?_⟩
        exact hp2 (w2.put a (.lst (vs.set t v1))) σ (s2.wr q e1 (rr.set (x2.rp r1) t)) ((x1.trans x2).grow.trans put_grow) (hw2.wr o1.nF o1.nL o1.nr)
    | _ => simp only [mSetIxOwn, q] at hp; exact hp.elim
end

/-! ### the stream -/
def strOk (y z : Int) : Bool := decide (0 ≤ y) && decide (0 ≤ z) && decide (z < 2147483647)
def strL (ns : List Int) (x y z : Int) : MO := .lst [.scr ns, .int x, .int y, .int z]
section
variable {P : Program} {pw : World} {K : PySem.W.Frag} {mg : Str → Option Value} {base : Heap} {ca : CA} {k n : Nat} {x : Str} {f g : LOp}
theorem FnM.imp (F : FnM P pw K mg base ca k x n f) (h : ∀ (ds : List D) (mh : MH) (Q : D → MH → Prop) (E : Nat → MH → Prop), ds.length = n → wpR (g ds mh) Q E → wpR (f ds mh) Q E) : FnM P pw K mg base ca k x n g := by
  obtain ⟨fa, fd, ps, ok, r⟩ := F.ex
  refine ⟨fa, fd, ps, ok.imp fun vs H Q E q => ?_, r⟩
  obtain ⟨w, mh, ds, e, hw, rr, hl, hp⟩ := q
  exact ⟨w, mh, ds, e, hw, rr, hl, h ds mh _ _ (rr.length.symm.trans hl) hp⟩
/-- a new stream -/
theorem strm_close {w : Wd} {mh : MH} {i : Nat} {ns : List Int} {y1 y2 y3 : Int} (hw : WOk K ca w mh) (hi : mh[i]? = some (strL ns y1 y2 y3)) (hk : strOk y2 y3 = true) : WOk K ca w (mh.set i .stream) := by
  refine ⟨hw.sub, hw.subL, by simpa using hw.len, hw.nd, fun m b mo' h1 h2 => ?_⟩
  rw [getElem?_setS] at h2
  by_cases e : i = m
  · subst e
    rw [if_pos rfl] at h2
    split at h2
    · cases h2
      obtain ⟨q1, q2, q3⟩ := hw.obj i b _ h1 hi
      obtain ⟨vs, e1, rr⟩ := q3
      simp only [strOk, Bool.and_eq_true, decide_eq_true_eq] at hk
      exact ⟨q1, q2, ns, y1, y2, y3, vs, e1, rr, hk.1.1, hk.1.2, hk.2⟩
    · cases h2
  · rw [if_neg e] at h2
    exact hw.obj m b mo' h1 h2
theorem strm_open {w : Wd} {mh : MH} {i : Nat} (hw : WOk K ca w mh) (hi : mh[i]? = some .stream) : ∃ (ns : List Int) (y1 y2 y3 : Int), ns.length ≤ 63 ∧ strOk y2 y3 = true ∧ WOk K ca w (mh.set i (strL ns y1 y2 y3)) := by
  obtain ⟨a, ha, q1, q2, ns, y1, y2, y3, vs, e1, rr, h1, h2, h3⟩ := hw.rhoAt hi
  have hl : ns.length ≤ 63 := by
    cases rr with
    | cons r _ => cases r; assumption
  refine ⟨ns, y1, y2, y3, hl, by simp [strOk, h1, h2, h3], hw.sub, hw.subL, by simpa using hw.len, hw.nd, fun m b mo' p1 p2 => ?_⟩
  rw [getElem?_setS] at p2
  by_cases e : i = m
  · subst e
    rw [if_pos rfl] at p2
    split at p2
    · cases p2
      rw [ha] at p1
      cases p1
      exact ⟨q1, q2, vs, e1, rr⟩
    · cases p2
  · rw [if_neg e] at p2
    exact hw.obj m b mo' p1 p2
def fStream : LOp := fun ds => match ds with
  | [.scr ns] => fun h => .ok (.ref h.length) (h ++ [.stream])
  | _ => M.bad
def fDraw : LOp := fun ds => match ds with
  | [.ref i, .int m] => fun h => match h[i]? with
    | some .stream => if 0 < m ∧ m < 1073741824 then .pick m.toNat fun j => .ok (.int j) h else .bad
    | _ => .bad
  | _ => M.bad
/-- what the text makes of a stream is a stream -/
theorem fnm_stream (F : FnM P pw K mg base ca k x 1 f) (h : ∀ (ns : List Int) (mh : MH), ∃ (z : Int), strOk 0 z = true ∧ f [.scr ns] mh = .ok (.ref mh.length) (mh ++ [strL ns 0 0 z])) : FnM P pw K mg base ca k x 1 fStream := by
  obtain ⟨fa, fd, ps, ok, r⟩ := F.ex
  refine ⟨fa, fd, ps, ok.imp fun vs H Q E q => ?_, r⟩
  obtain ⟨w, mh, ds, e, hw, rr, hl, hp⟩ := q
  have hd := rr.length.symm.trans hl
  refine ⟨w, mh, ds, e, hw, rr, hl, ?_⟩
  match ds, hd, hp with
  | [.scr ns], _, hp =>
    obtain ⟨z, hz, e⟩ := h ns mh
    show wpR (f [.scr ns] mh) _ _
    rw [e]
    intro w' v x' hw' r'
    refine hp w' v x' ?_ r'
    have := strm_close (i := mh.length) (ns := ns) (y1 := 0) (y2 := 0) (y3 := z) hw' (by simp) hz
    simpa using this
  | [.non], _, hp => exact hp.elim
  | [.bl _], _, hp => exact hp.elim
  | [.int _], _, hp => exact hp.elim
  | [.str _], _, hp => exact hp.elim
  | [.tup _], _, hp => exact hp.elim
  | [.lst _], _, hp => exact hp.elim
  | [.ref _], _, hp => exact hp.elim
theorem fnm_draw (F : FnM P pw K mg base ca k x 2 f) (h : ∀ (ns : List Int) (y1 y2 y3 m : Int) (i : Nat) (mh : MH), ns.length ≤ 63 → strOk y2 y3 = true → 0 < m → m < 1073741824 → mh[i]? = some (strL ns y1 y2 y3) →
    ∃ (j : Nat) (z1 z2 z3 : Int), j < m.toNat ∧ strOk z2 z3 = true ∧ f [.ref i, .int m] mh = .ok (.int j) (mh.set i (strL ns z1 z2 z3))) : FnM P pw K mg base ca k x 2 fDraw := by
  obtain ⟨fa, fd, ps, ok, r⟩ := F.ex
  refine ⟨fa, fd, ps, ok.imp fun vs H Q E q => ?_, r⟩
  obtain ⟨w, mh, ds, e, hw, rr, hl, hp⟩ := q
  unfold fDraw at hp
  split at hp
  · rename_i i m
    cases q : mh[i]? with
    | none => simp only [q] at hp; exact hp.elim
    | some mo =>
      cases mo with
      | stream =>
        simp only [q] at hp
        split at hp
        · rename_i c
          obtain ⟨ns, y1, y2, y3, hl63, hk, hw2⟩ := strm_open hw q
          have li : i < mh.length := (List.getElem?_eq_some_iff.mp q).1
          obtain ⟨j, z1, z2, z3, hj, hz, e2⟩ := h ns y1 y2 y3 m i (mh.set i (strL ns y1 y2 y3)) hl63 hk c.1 c.2 (by rw [getElem?_setS, if_pos rfl, if_pos li])
          refine ⟨w, mh.set i (strL ns y1 y2 y3), [.ref i, .int m], e, hw2, rr, hl, ?_⟩
          show wpR (f [.ref i, .int m] _) _ _
          rw [e2]
          intro w' v x' hw' r'
          refine hp.2 j hj w' v x' ?_ r'
          have h3 := strm_close (i := i) (ns := ns) (y1 := z1) hw' (by rw [getElem?_setS, if_pos rfl, if_pos (by simpa using li)]) hz
          rw [List.set_set, List.set_set] at h3
          have : mh.set i .stream = mh := by
            apply List.ext_getElem?
            intro m
            rw [getElem?_setS]
            by_cases e : i = m
            · subst e; rw [if_pos rfl, if_pos li, q]
            · rw [if_neg e]
          rw [this] at h3
          exact h3
        · exact hp.elim
      | lst _ => simp only [q] at hp; exact hp.elim
      | inst _ _ => simp only [q] at hp; exact hp.elim
      | dct _ => simp only [q] at hp; exact hp.elim
  · exact hp.elim
end
end AG
/-! AgO: stores of comprehensions, two fresh lists at once. -/
namespace AG
open PySem L2

theorem frz_den {K : PySem.W.Frag} {ca : CA} {W : WX} {m : Env → M (List D)} {σ : St} {H : Hp} {Q : VK} (q : denG (repV K) K ca W (mFrz m) σ H Q) : denF K ca W m σ H Q := by
  obtain ⟨w, mh, env, rfl, hw, hf, hp⟩ := q
  refine ⟨w, mh, env, rfl, hw, hf, ?_⟩
  refine wpR_mono (wpR_bind.mp hp) (fun ds mh' q w' p x hw' hn o => ?_) fun _ _ q => q
  obtain ⟨vs, hH, r⟩ := o.at'
  exact q (w'.lock p vs) (.ref p) (x.lock hn o.nL) (hw'.lock hH o.nL o.nr) (.lst updL_same (r.mono (lock_grow o.nL)))
section
variable {X : Cx} {ca : CA} {W : WX} {n : Nat} {elt tg iter : Expr} {ifs : List Expr} {scope : Scope} {own : List (Str × Nat)} {pos spos py : Pos} {mi : Env → M (List D)} {g : TG} {t : Tgt} {tt : Env → M Bool} {te : Env → M D} {y : Str}
theorem ms_setLcOwn {i : Nat} (hc : X.calm = true) (hN : X.N.Nodup) (hi : MI X ca W tg iter mi) (ok : BlkOk X.N X.env.scope scope own) (hgk : GOk X.K g t (own.map (·.2)))
    (hg : ∀ (s : Shared) (H : Hp) (C : Addr) (cl : List (Str × Addr)) (fp : List Addr), PG (X.blk s H scope (compEnvC scope cl C X.env) fp) tg g)
    (ht : ∀ (s : Shared) (H : Hp) (C : Addr) (cl : List (Str × Addr)) (fp : List Addr), MTs (X.blk s H scope (compEnvC scope cl C X.env) fp) ca W0 ifs tt)
    (he : ∀ (s : Shared) (H : Hp) (C : Addr) (cl : List (Str × Addr)) (fp : List Addr), ME (X.blk s H scope (compEnvC scope cl C X.env) fp) ca W0 elt te)
    (hy : X.N[i]? = some y := by rfl) (hyl : X.env.scope.names.lookup y = some .local := by rfl) (hk : X.env.scope.kind = .function := by rfl) (hl : (py.line == pos.line) = true := by rfl)
    (ha : (scope.names.any fun (n, k) => n == y && (k == .local || k == .cell)) = false := by decide +kernel)
    (hs : ∀ x, foldedSetIterable iter X.env x = pure x := by intro _; rfl) :
    MS X ca W n (.Assign [.Name y py] (.ListComp elt [⟨tg, iter, ifs, 0⟩] scope pos) spos) (mSetOwn i (mLc mi t tt te (own.map (·.2)))) :=
  PS.mono (ps_setLc (te := denG (repV X.K) X.K ca W0 te) (tt := denG repB X.K ca W0 tt) hc hN hy hyl (sw_true hk hyl hl ha) hi ok hg ht he hs) fun D' σ H h => by
    obtain ⟨w0, w, mh, env, rfl, hw, s, hp⟩ := h
    refine lc_read hgk (σ := σ) (W := W) ⟨w, mh, env, rfl, hw, s.fr, wpR_mono (wpR_bind.mp hp) (fun ds mh' q w' p x hw' hn o => ?_) fun cl mh q w' x hw' => q w' σ (s.ext.trans x) hw' s.ln⟩
    exact q w' _ ((s.then x).setOwn o (s.ext.th p hn) fun j es _ h => s.fr.apart hn j es h) x.grow hw'
theorem ms_setLc {i : Nat} (hc : X.calm = true) (hN : X.N.Nodup) (hi : MI X ca W tg iter mi) (ok : BlkOk X.N X.env.scope scope own) (hgk : GOk X.K g t (own.map (·.2)))
    (hg : ∀ (s : Shared) (H : Hp) (C : Addr) (cl : List (Str × Addr)) (fp : List Addr), PG (X.blk s H scope (compEnvC scope cl C X.env) fp) tg g)
    (ht : ∀ (s : Shared) (H : Hp) (C : Addr) (cl : List (Str × Addr)) (fp : List Addr), MTs (X.blk s H scope (compEnvC scope cl C X.env) fp) ca W0 ifs tt)
    (he : ∀ (s : Shared) (H : Hp) (C : Addr) (cl : List (Str × Addr)) (fp : List Addr), ME (X.blk s H scope (compEnvC scope cl C X.env) fp) ca W0 elt te)
    (hy : X.N[i]? = some y := by rfl) (hyl : X.env.scope.names.lookup y = some .local := by rfl) (hk : X.env.scope.kind = .function := by rfl) (hl : (py.line == pos.line) = true := by rfl)
    (ha : (scope.names.any fun (n, k) => n == y && (k == .local || k == .cell)) = false := by decide +kernel)
    (hs : ∀ x, foldedSetIterable iter X.env x = pure x := by intro _; rfl) :
    MS X ca W n (.Assign [.Name y py] (.ListComp elt [⟨tg, iter, ifs, 0⟩] scope pos) spos) (mSet i (mFrz (mLc mi t tt te (own.map (·.2))))) :=
  PS.mono (ps_setLc (te := denG (repV X.K) X.K ca W0 te) (tt := denG repB X.K ca W0 tt) hc hN hy hyl (sw_true hk hyl hl ha) hi ok hg ht he hs) fun D' σ H h => by
    obtain ⟨w0, w, mh, env, rfl, hw, s, hp⟩ := h
    refine lc_read hgk (σ := σ) (W := W) (frz_den ?_)
    refine stepS (rep := repV X.K) hw s hp fun w1 mh1 v d x1 hw1 s1 r1 hp1 => ?_
    exact hp1 w1 _ (s1.set r1) x1.grow hw1
end

/-! ### x, y = (fresh, fresh) -/
def mParOwn (i j : Nat) (m1 m2 : Env → M (List D)) : Env → M Fl := fun env => M.bind (m1 env) fun xs => M.bind (m2 env) fun ys => M.pure (.nx ((env.set i (.own xs)).set j (.own ys)))
section
variable {K : PySem.W.Frag} {ca : CA} {W : WX} {n : Nat} {w0 w : Wd} {env : Env} {σ : St} {mh : MH} {m1 m2 : Env → M (List D)} {i j : Nat}
theorem two_own {wb : Wd} {D' : Ends} {Q : List V → Hp → Prop} (hij : i ≠ j) (hw : WOk K ca w mh) (s : SRel K n w0 env σ w) (hp : wpR (mParOwn i j m1 m2 env mh) (FlP K ca n w0 wb D') (ExS K ca W n w0))
    (k : ∀ w' p1 p2 mh' e, Ext w w' → WOk K ca w' mh' → SRel K n w0 e ((σ.set i (some (.ref p1))).set j (some (.ref p2))) w' → FlP K ca n w0 wb D' (.nx e) mh' → Q [.ref p1, .ref p2] w'.H) :
    L2.tCons (denF K ca W m1) (L2.tCons (denF K ca W m2) L2.tNil) σ w.H Q := by
  refine ⟨w, mh, env, rfl, hw, s.fr, wpR_mono (wpR_bind.mp hp) (fun xs mh1 q w1 p1 x1 hw1 hn1 o1 => ?_) fun cl mh q w' x hw' => q w' σ (s.ext.trans x) hw' s.ln⟩
  refine ⟨w1, mh1, env, rfl, hw1, s.fr.ext x1, wpR_mono (wpR_bind.mp q) (fun ys mh2 q2 w2 p2 x2 hw2 hn2 o2 => ?_) fun cl mh q w' x hw' => q w' σ (s.ext.trans (x1.trans x)) hw' s.ln⟩
  have x12 := x1.trans x2
  have hn2' : w.H p2 = none := x1.th p2 hn2
  have ne : p2 ≠ p1 := fun e => by
    subst e
    obtain ⟨vs, h, _⟩ := o1.at'
    rw [hn2] at h; cases h
  have s1 : SRel K n w0 (env.set i (.own xs)) (σ.set i (some (.ref p1))) w2 := (s.then x12).setOwn (o1.ext x2) (s.ext.th p1 hn1) fun l es _ h => s.fr.apart hn1 l es h
  have s2 : SRel K n w0 ((env.set i (.own xs)).set j (.own ys)) ((σ.set i (some (.ref p1))).set j (some (.ref p2))) w2 := s1.setOwn o2 (s.ext.th p2 hn2') fun l es hl h => by
    by_cases il : i = l
    · subst il
      rw [getElem?_setS, if_pos rfl]
      intro q
      split at q
      · cases q; exact ne rfl
      · cases q
    · rw [getElem?_setS, if_neg il] at h ⊢
      exact s.fr.apart hn2' l es h
  exact k w2 p1 p2 mh2 _ x12 hw2 s2 q2
end
section
variable {X : Cx} {ca : CA} {W : WX} {n : Nat} {a b : Expr} {m1 m2 : Env → M (List D)} {px py pt pos : Pos} {kt k2 pt2} {x y : Str}
theorem ms_parOwn {i j : Nat} (hc : X.calm = true) (ha : MF X ca W a m1) (hb : MF X ca W b m2) (hN : X.N.Nodup) (hi : X.N[i]? = some x := by rfl) (hj : X.N[j]? = some y := by rfl) (hij : i ≠ j := by decide)
    (hx : X.env.scope.names.lookup x = some .local := by rfl) (hy : X.env.scope.names.lookup y = some .local := by rfl)
    (hs1 : starEach [a, b] X.env = (false, eval a X.env) :: starEach [b] X.env := by rfl) (hs2 : starEach [b] X.env = (false, eval b X.env) :: starEach [] X.env := by rfl)
    (hw : swappedStores [.Tuple [.Name x px, .Name y py] kt pt] (.Tuple [a, b] k2 pt2) X.env = pure (some [x, y]) := by rfl)
    (hs : swapsWithSole [.Tuple [.Name x px, .Name y py] kt pt] (.Tuple [a, b] k2 pt2) pos.line X.env = pure false := by rfl) : MS X ca W n (.Assign [.Tuple [.Name x px, .Name y py] kt pt] (.Tuple [a, b] k2 pt2) pos) (mParOwn i j m1 m2) :=
  PS.mono (ps_par hc hN hi hj hij hx hy (pa_cons ha (pa_cons hb pa_nil hs2) hs1) hw hs) fun D' σ H h => by
    obtain ⟨w0, w, mh, env, rfl, hw, s, hp⟩ := h
    exact two_own hij hw s hp fun w' p1 p2 mh' e x' hw' s' q => ⟨_, _, rfl, q w' _ s' x'.grow hw'⟩
theorem ms_parOwnT {i j : Nat} (hc : X.calm = true) (ha : MF X ca W a m1) (hb : MF X ca W b m2) (hN : X.N.Nodup) (hi : X.N[i]? = some x := by rfl) (hj : X.N[j]? = some y := by rfl) (hij : i ≠ j := by decide)
    (hx : Loc X.env.scope x := by first | exact Or.inl rfl | exact Or.inr rfl) (hy : Loc X.env.scope y := by first | exact Or.inl rfl | exact Or.inr rfl)
    (hfx : X.fn x = true ∨ X.env.scope.names.lookup x = some .local := by first | exact .inl rfl | exact .inr rfl) (hfy : X.fn y = true ∨ X.env.scope.names.lookup y = some .local := by first | exact .inl rfl | exact .inr rfl)
    (hs1 : starEach [a, b] X.env = (false, eval a X.env) :: starEach [b] X.env := by rfl) (hs2 : starEach [b] X.env = (false, eval b X.env) :: starEach [] X.env := by rfl)
    (hn : (assignEach [.Name x px, .Name y py] X.env).length = 2 := by rfl) (hst : (assignEach [.Name x px, .Name y py] X.env).findIdx? (·.1) = none := by rfl)
    (ha1 : (assignEach [.Name x px, .Name y py] X.env).map (·.2) = assign (.Name x px) X.env :: (assignEach [.Name y py] X.env).map (·.2) := by rfl)
    (ha2 : (assignEach [.Name y py] X.env).map (·.2) = assign (.Name y py) X.env :: (assignEach [] X.env).map (·.2) := by rfl)
    (hs : swapsWithSole [.Tuple [.Name x px, .Name y py] kt pt] (.Tuple [a, b] k2 pt2) pos.line X.env = pure false := by rfl) (hw : swappedStores [.Tuple [.Name x px, .Name y py] kt pt] (.Tuple [a, b] k2 pt2) X.env = pure none := by rfl)
    (h1 : (assignEach [.Tuple [.Name x px, .Name y py] kt pt] X.env).map (·.2) = [assign (.Tuple [.Name x px, .Name y py] kt pt) X.env] := by rfl) : MS X ca W n (.Assign [.Tuple [.Name x px, .Name y py] kt pt] (.Tuple [a, b] k2 pt2) pos) (mParOwn i j m1 m2) :=
  PS.mono (ps_asg (pe_tup (pa_cons ha (pa_cons hb pa_nil hs2) hs1)) (pg_tup (n := 2) hc (pgs_cons (pg_name hN hi hx hfx) (pgs_cons (pg_name hN hj hy hfy) pgs_nil ha2) ha1) hn hst) hs hw h1) fun D' σ H h => by
    obtain ⟨w0, w, mh, env, rfl, hw, s, hp⟩ := h
    refine two_own (Q := fun xs H1 => xs.length ≤ sizeLine ∧ ∀ p, H1 p = none → gTup X.K 2 (gCons (gName i) (gCons (gName j) gNil)) (.ref p) σ (upd H1 p (.tup xs)) D'.nx) hij hw s hp fun w' p1 p2 mh' e x' hw' s' q => ⟨by rw [sizeLine_lit]; simp, fun t ht => ?_⟩
    have x2 : Ext w' (w'.put t (.tup [.ref p1, .ref p2])) := Ext.put hw' ht
    exact ⟨t, _, rfl, SqT.of upd_same, rfl, _, _, rfl, _, _, rfl, rfl, q _ _ (s'.then x2) (x'.trans x2).grow (hw'.put ht)⟩
end
end AG
/-! AgP: the streams of the laws' texts. -/
namespace AG
open PySem L2

def m__law_stream : Env → M Fl := mSeq (mSet 1 (mC (.int 17))) (mSeq (mFor (mItems (mVar 0)) (tgName 2) (mSet 1 (mBin opMod (mCall fInt (mCons (mBin opAdd (mBin opAdd (mBin opMul (mVar 1) (mC (.int 48271))) (mBin opMod (mCall fInt (mCons (mVar 2) mNil)) (mC (.int 65521)))) (mC (.int 1))) mNil)) (mC (.int 2147483647))))) (mRet (mNewLst (mCons (mCall fList (mCons (mVar 0) mNil)) (mCons (mC (.int 0)) (mCons (mC (.int 0)) (mCons (mVar 1) mNil)))))))
def fg__law_stream : LOp := mFn 3 m__law_stream
theorem mulOk_of {i j : Int} (hi : i.natAbs < 2 ^ 64) (hj : j.natAbs < 2 ^ 64) : mulOk i j = true := by
  unfold mulOk
  simp only [Bool.and_eq_true, decide_eq_true_eq]
  exact ⟨BIG_of hi (by decide), BIG_of hj (by decide)⟩
theorem M.bind_ok {α β : Type} {m : M α} {f : α → M β} {h h' : MH} {a : α} (e : m h = .ok a h') : M.bind m f h = f a h' := by
  unfold M.bind
  rw [e]
  rfl
theorem bin_ok {f : DOp} {ma mb : Env → M D} {env : Env} {h h' h'' : MH} {x y : D} (h1 : ma env h = .ok x h') (h2 : mb env h' = .ok y h'') : mBin f ma mb env h = f x y h'' := by
  show M.bind _ _ h = _
  rw [M.bind_ok h1, M.bind_ok h2]
theorem test_ok {m : Env → M D} {env : Env} {h h' : MH} {b : Bool} (h1 : m env h = .ok (.bl b) h') : mTest m env h = .ok b h' := by
  show M.bind _ _ h = _
  rw [M.bind_ok h1]
  rfl
theorem call1_ok {f : LOp} {m : Env → M D} {env : Env} {h h' : MH} {x : D} (h1 : m env h = .ok x h') : mCall f (mCons m mNil) env h = f [x] h' := by
  show M.bind (M.bind _ _) _ h = _
  have : M.bind (m env) (fun x => M.bind (mNil env) fun xs => M.pure (x :: xs)) h = .ok [x] h' := by rw [M.bind_ok h1]; rfl
  rw [M.bind_ok this]
theorem c_ok {d : D} {env : Env} {h : MH} : mC d env h = .ok d h := rfl
theorem stream_loop (ns : List Int) (mh : MH) : ∀ (ms : List Int) (b : Int) (sl : Slot), 0 ≤ b → b < 2147483647 → ∃ (b' : Int) (sl' : Slot), 0 ≤ b' ∧ b' < 2147483647 ∧
    loopF (tgName 2) (mSet 1 (mBin opMod (mCall fInt (mCons (mBin opAdd (mBin opAdd (mBin opMul (mVar 1) (mC (.int 48271))) (mBin opMod (mCall fInt (mCons (mVar 2) mNil)) (mC (.int 65521)))) (mC (.int 1))) mNil)) (mC (.int 2147483647)))) (ms.map D.int) [.v (.scr ns), .v (.int b), sl] mh = .ok (.nx [.v (.scr ns), .v (.int b'), sl']) mh
  | [], b, sl, h0, h1 => ⟨b, sl, h0, h1, rfl⟩
  | m :: ms, b, sl, h0, h1 => by
    have hm : mulOk b 48271 = true := mulOk_of (by omega) (by decide)
    have e1 : (mSet 1 (mBin opMod (mCall fInt (mCons (mBin opAdd (mBin opAdd (mBin opMul (mVar 1) (mC (.int 48271))) (mBin opMod (mCall fInt (mCons (mVar 2) mNil)) (mC (.int 65521)))) (mC (.int 1))) mNil)) (mC (.int 2147483647)))) [.v (.scr ns), .v (.int b), .v (.int m)] mh = .ok (.nx [.v (.scr ns), .v (.int ((b * 48271 + m % 65521 + 1) % 2147483647)), .v (.int m)]) mh := by
      simp [mSet, mBin, mCall, mCons, mVar, mC, mNil, M.bind, M.pure, R.bind, opMod, opMul, opAdd, fInt, hm]
    obtain ⟨b', sl', q0, q1, q⟩ := stream_loop ns mh ms ((b * 48271 + m % 65521 + 1) % 2147483647) (.v (.int m)) (Int.emod_nonneg _ (by decide)) (Int.emod_lt_of_pos _ (by decide))
    refine ⟨b', sl', q0, q1, ?_⟩
    rw [List.map_cons]
    simp only [loopF, tgName, List.set_cons_succ, List.set_cons_zero]
    rw [M.bind_ok e1]
    exact q
theorem stream_gen (ns : List Int) (mh : MH) : ∃ (z : Int), strOk 0 z = true ∧ fg__law_stream [.scr ns] mh = .ok (.ref mh.length) (mh ++ [strL ns 0 0 z]) := by
  obtain ⟨b', sl', q0, q1, q⟩ := stream_loop ns mh ns 17 .no (by decide) (by decide)
  refine ⟨b', by simp [strOk, q0, q1], ?_⟩
  have e2 : (mRet (mNewLst (mCons (mCall fList (mCons (mVar 0) mNil)) (mCons (mC (.int 0)) (mCons (mC (.int 0)) (mCons (mVar 1) mNil)))))) [.v (.scr ns), .v (.int b'), sl'] mh = .ok (.rt (.ref mh.length)) (mh ++ [strL ns 0 0 b']) := by
    simp [mRet, mNewLst, mCall, mCons, mVar, mC, mNil, M.bind, M.pure, R.bind, fList, strL]
  have e1 : m__law_stream [.v (.scr ns), .no, .no] mh = .ok (.rt (.ref mh.length)) (mh ++ [strL ns 0 0 b']) := by
    unfold m__law_stream mSeq
    rw [M.bind_ok (a := .nx [.v (.scr ns), .v (.int 17), .no]) (h' := mh) (by simp [mSet, mC, M.bind, M.pure, R.bind])]
    show M.bind _ _ mh = _
    rw [M.bind_ok (a := .nx [.v (.scr ns), .v (.int b'), sl']) (h' := mh) ?_]
    · exact e2
    · unfold mFor
      rw [M.bind_ok (a := ns.map D.int) (h' := mh) (by simp [mItems, mVar, M.bind, M.pure, R.bind, itemsM])]
      exact q
  show M.bind _ _ mh = _
  rw [M.bind_ok (h' := mh ++ [strL ns 0 0 b']) (a := .rt (.ref mh.length)) e1]
  rfl
def m__law_draw : Env → M Fl := mSeq (mIf (mAndT (mTest (mBin opEq (mBin opIx (mVar 0) (mC (.int 1))) (mC (.int 0)))) (mTest (mBin opLt (mBin opIx (mVar 0) (mC (.int 2))) (mCall fLen (mCons (mBin opIx (mVar 0) (mC (.int 0))) mNil))))) (mSeq (mSetIx (mVar 0) (mC (.int 1)) (mCall fAbs (mCons (mCall fInt (mCons (mBin opIx (mBin opIx (mVar 0) (mC (.int 0))) (mBin opIx (mVar 0) (mC (.int 2)))) mNil)) mNil))) (mSetIx (mVar 0) (mC (.int 2)) (mBin opAdd (mBin opIx (mVar 0) (mC (.int 2))) (mC (.int 1))))) mNx) (mSeq (mIf (mTest (mBin opEq (mBin opIx (mVar 0) (mC (.int 1))) (mC (.int 0)))) (mSeq (mSetIx (mVar 0) (mC (.int 3)) (mBin opMod (mCall fInt (mCons (mBin opAdd (mBin opMul (mBin opIx (mVar 0) (mC (.int 3))) (mC (.int 48271))) (mC (.int 11))) mNil)) (mC (.int 2147483647)))) (mRet (mBin opMod (mCall fInt (mCons (mBin opDiv (mBin opIx (mVar 0) (mC (.int 3))) (mC (.int 97))) mNil)) (mVar 1)))) mNx) (mSeq (mSet 2 (mBin opMod (mCall fInt (mCons (mBin opIx (mVar 0) (mC (.int 1))) mNil)) (mVar 1))) (mSeq (mSetIx (mVar 0) (mC (.int 1)) (mBin opDiv (mBin opIx (mVar 0) (mC (.int 1))) (mVar 1))) (mRet (mVar 2)))))
def fg__law_draw : LOp := mFn 3 m__law_draw
section
variable {ns : List Int} {i : Nat} {m a b c : Int} {h : MH} {sl : Slot}
theorem at4 {α : Type} (x y z w : α) : L2.atI [x, y, z, w] 0 = some x ∧ L2.atI [x, y, z, w] 1 = some y ∧ L2.atI [x, y, z, w] 2 = some z ∧ L2.atI [x, y, z, w] 3 = some w := ⟨rfl, rfl, rfl, rfl⟩
theorem draw_rd (hh : h[i]? = some (strL ns a b c)) (env : Env) (he : env[0]? = some (.v (.ref i))) :
    mBin opIx (mVar 0) (mC (.int 0)) env h = .ok (.scr ns) h ∧ mBin opIx (mVar 0) (mC (.int 1)) env h = .ok (.int a) h ∧ mBin opIx (mVar 0) (mC (.int 2)) env h = .ok (.int b) h ∧ mBin opIx (mVar 0) (mC (.int 3)) env h = .ok (.int c) h := by
  have q := at4 (D.scr ns) (.int a) (.int b) (.int c)
  refine ⟨?_, ?_, ?_, ?_⟩ <;> simp [mBin, mVar, mC, he, M.bind, M.pure, R.bind, opIx, hh, strL, q]
theorem draw_wr (hh : h[i]? = some (strL ns a b c)) (env : Env) (he : env[0]? = some (.v (.ref i))) {e : Env → M D} {v : Int} (ev : e env h = .ok (.int v) h) :
    mSetIx (mVar 0) (mC (.int 1)) e env h = .ok (.nx env) (h.set i (strL ns v b c)) ∧ mSetIx (mVar 0) (mC (.int 2)) e env h = .ok (.nx env) (h.set i (strL ns a v c)) ∧ mSetIx (mVar 0) (mC (.int 3)) e env h = .ok (.nx env) (h.set i (strL ns a b v)) := by
  have r1 : ixN 4 1 = some 1 := rfl
  have r2 : ixN 4 2 = some 2 := rfl
  have r3 : ixN 4 3 = some 3 := rfl
  refine ⟨?_, ?_, ?_⟩ <;> simp [mSetIx, mVar, mC, he, M.bind, M.pure, R.bind, setIxM, hh, strL, ev, r1, r2, r3]
theorem set_at (hh : h[i]? = some (strL ns a b c)) (mo : MO) : (h.set i mo)[i]? = some mo := by
  have li : i < h.length := (List.getElem?_eq_some_iff.mp hh).1
  rw [getElem?_setS, if_pos rfl, if_pos li]
theorem set_self (hh : h[i]? = some (strL ns a b c)) : h.set i (strL ns a b c) = h := by
  apply List.ext_getElem?
  intro k
  rw [getElem?_setS]
  by_cases e : i = k
  · subst e
    rw [if_pos rfl, hh, if_pos (List.getElem?_eq_some_iff.mp hh).1]
  · rw [if_neg e]
/-- the next cell is taken -/
theorem draw_one (hh : h[i]? = some (strL ns a b c)) (hb : 0 ≤ b) (sl : Slot) : ∃ a' b', 0 ≤ b' ∧
    (mIf (mAndT (mTest (mBin opEq (mBin opIx (mVar 0) (mC (.int 1))) (mC (.int 0)))) (mTest (mBin opLt (mBin opIx (mVar 0) (mC (.int 2))) (mCall fLen (mCons (mBin opIx (mVar 0) (mC (.int 0))) mNil))))) (mSeq (mSetIx (mVar 0) (mC (.int 1)) (mCall fAbs (mCons (mCall fInt (mCons (mBin opIx (mBin opIx (mVar 0) (mC (.int 0))) (mBin opIx (mVar 0) (mC (.int 2)))) mNil)) mNil))) (mSetIx (mVar 0) (mC (.int 2)) (mBin opAdd (mBin opIx (mVar 0) (mC (.int 2))) (mC (.int 1))))) mNx)
      [.v (.ref i), .v (.int m), sl] h = .ok (.nx [.v (.ref i), .v (.int m), sl]) (h.set i (strL ns a' b' c)) := by
  obtain ⟨q0, q1, q2, q3⟩ := draw_rd hh [.v (.ref i), .v (.int m), sl] rfl
  have t1 : (mTest (mBin opEq (mBin opIx (mVar 0) (mC (.int 1))) (mC (.int 0)))) [.v (.ref i), .v (.int m), sl] h = .ok (decide (a = 0)) h := by
    exact test_ok ((bin_ok q1 c_ok).trans rfl)
  have t2 : (mTest (mBin opLt (mBin opIx (mVar 0) (mC (.int 2))) (mCall fLen (mCons (mBin opIx (mVar 0) (mC (.int 0))) mNil)))) [.v (.ref i), .v (.int m), sl] h = .ok (decide (b < ns.length)) h := by
    exact test_ok ((bin_ok q2 ((call1_ok q0).trans rfl)).trans rfl)
  by_cases ca : a = 0
  · by_cases cb : b < ns.length
    · have hat : ∃ v, L2.atI ns b = some v := by
        have hx : ixN ns.length b = some b.toNat := by
          unfold ixN
          rw [if_pos hb, if_pos cb]
        have hl : b.toNat < ns.length := by omega
        exact ⟨ns[b.toNat], by unfold L2.atI; rw [hx]; exact List.getElem?_eq_getElem hl⟩
      obtain ⟨v, hv⟩ := hat
      have e1 : (mCall fAbs (mCons (mCall fInt (mCons (mBin opIx (mBin opIx (mVar 0) (mC (.int 0))) (mBin opIx (mVar 0) (mC (.int 2)))) mNil)) mNil)) [.v (.ref i), .v (.int m), sl] h = .ok (.int (if v < 0 then -v else v)) h := by
        have : mBin opIx (mBin opIx (mVar 0) (mC (.int 0))) (mBin opIx (mVar 0) (mC (.int 2))) [.v (.ref i), .v (.int m), sl] h = .ok (.int v) h := by
          show M.bind _ _ h = _
          rw [M.bind_ok q0, M.bind_ok q2]
          simp only [opIx, hv, M.pure]
        exact (call1_ok ((call1_ok this).trans rfl)).trans rfl
      have w1 := (draw_wr hh [.v (.ref i), .v (.int m), sl] rfl e1).1
      have hh1 := set_at hh (strL ns (if v < 0 then -v else v) b c)
      obtain ⟨p0, p1, p2, p3⟩ := draw_rd hh1 [.v (.ref i), .v (.int m), sl] rfl
      have e2 : (mBin opAdd (mBin opIx (mVar 0) (mC (.int 2))) (mC (.int 1))) [.v (.ref i), .v (.int m), sl] (h.set i (strL ns (if v < 0 then -v else v) b c)) = .ok (.int (b + 1)) (h.set i (strL ns (if v < 0 then -v else v) b c)) := by
        show M.bind _ _ _ = _
        rw [M.bind_ok p2]
        rfl
      have w2 := (draw_wr hh1 [.v (.ref i), .v (.int m), sl] rfl e2).2.1
      rw [List.set_set] at w2
      refine ⟨(if v < 0 then -v else v), b + 1, by omega, ?_⟩
      show M.bind (M.bind _ _) _ h = _
      rw [M.bind_ok (a := true) (h' := h) (by rw [M.bind_ok t1]; simp only [ca, decide_true, if_true]; rw [t2]; simp [cb])]
      simp only [if_true]
      show M.bind _ _ h = _
      rw [M.bind_ok w1]
      exact w2
    · refine ⟨a, b, hb, ?_⟩
      show M.bind (M.bind _ _) _ h = _
      rw [M.bind_ok (a := false) (h' := h) (by rw [M.bind_ok t1]; simp only [ca, decide_true, if_true]; rw [t2]; simp [cb]), set_self hh]
      rfl
  · refine ⟨a, b, hb, ?_⟩
    show M.bind (M.bind _ _) _ h = _
    rw [M.bind_ok (a := false) (h' := h) (by rw [M.bind_ok t1]; simp [ca, M.pure]), set_self hh]
    rfl
theorem draw_gen (ns : List Int) (y1 y2 y3 m : Int) (i : Nat) (mh : MH) (h63 : ns.length ≤ 63) (hk : strOk y2 y3 = true) (h0 : 0 < m) (h30 : m < 1073741824) (hh : mh[i]? = some (strL ns y1 y2 y3)) :
    ∃ (j : Nat) (z1 z2 z3 : Int), j < m.toNat ∧ strOk z2 z3 = true ∧ fg__law_draw [.ref i, .int m] mh = .ok (.int j) (mh.set i (strL ns z1 z2 z3)) := by
  simp only [strOk, Bool.and_eq_true, decide_eq_true_eq] at hk
  obtain ⟨⟨k1, k2⟩, k3⟩ := hk
  obtain ⟨a, b, hb, e1⟩ := draw_one (m := m) hh k1 .no
  have hh1 := set_at hh (strL ns a b y3)
  have l2 : m.natAbs.log2 < 9000 := by
    have : m.natAbs.log2 < 30 := (Nat.log2_lt (by omega)).mpr (by omega)
    omega
  obtain ⟨q0, q1, q2, q3⟩ := draw_rd hh1 [.v (.ref i), .v (.int m), .no] rfl
  have t1 : (mTest (mBin opEq (mBin opIx (mVar 0) (mC (.int 1))) (mC (.int 0)))) [.v (.ref i), .v (.int m), .no] (mh.set i (strL ns a b y3)) = .ok (decide (a = 0)) (mh.set i (strL ns a b y3)) := by
    exact test_ok ((bin_ok q1 c_ok).trans rfl)
  by_cases ca : a = 0
  · -- from the generator
    have e3 : (mBin opMod (mCall fInt (mCons (mBin opAdd (mBin opMul (mBin opIx (mVar 0) (mC (.int 3))) (mC (.int 48271))) (mC (.int 11))) mNil)) (mC (.int 2147483647))) [.v (.ref i), .v (.int m), .no] (mh.set i (strL ns a b y3)) = .ok (.int ((y3 * 48271 + 11) % 2147483647)) (mh.set i (strL ns a b y3)) := by
      have hm : mulOk y3 48271 = true := mulOk_of (by omega) (by decide)
      have p : mBin opMul (mBin opIx (mVar 0) (mC (.int 3))) (mC (.int 48271)) [.v (.ref i), .v (.int m), .no] (mh.set i (strL ns a b y3)) = .ok (.int (y3 * 48271)) (mh.set i (strL ns a b y3)) := by
        rw [bin_ok q3 c_ok]
        simp [opMul, hm, M.pure]
      exact (bin_ok ((call1_ok ((bin_ok p c_ok).trans rfl)).trans rfl) c_ok).trans rfl
    have w3 := (draw_wr hh1 [.v (.ref i), .v (.int m), .no] rfl e3).2.2
    rw [List.set_set] at w3
    have z0 := Int.emod_nonneg (y3 * 48271 + 11) (b := 2147483647) (by decide)
    have z1 := Int.emod_lt_of_pos (y3 * 48271 + 11) (b := 2147483647) (by decide)
    generalize (y3 * 48271 + 11) % 2147483647 = z at w3 z0 z1 e3
    have hh3 := set_at hh (strL ns a b z)
    obtain ⟨p0, p1, p2, p3⟩ := draw_rd hh3 [.v (.ref i), .v (.int m), .no] rfl
    have e4 : (mBin opMod (mCall fInt (mCons (mBin opDiv (mBin opIx (mVar 0) (mC (.int 3))) (mC (.int 97))) mNil)) (mVar 1)) [.v (.ref i), .v (.int m), .no] (mh.set i (strL ns a b z)) = .ok (.int (z / 97 % m)) (mh.set i (strL ns a b z)) := by
      have d97 : (97 : Int).natAbs.log2 < 9000 := by decide
      have p : mBin opDiv (mBin opIx (mVar 0) (mC (.int 3))) (mC (.int 97)) [.v (.ref i), .v (.int m), .no] (mh.set i (strL ns a b z)) = .ok (.int (z / 97)) (mh.set i (strL ns a b z)) := by
        rw [bin_ok p3 c_ok]
        simp only [opDiv, d97, and_true]
        rfl
      rw [bin_ok ((call1_ok p).trans rfl) (show mVar 1 _ _ = .ok (.int m) _ from rfl)]
      simp [opMod, h0, M.pure]
    have u0 := Int.emod_nonneg (z / 97) (b := m) (by omega)
    have u1 := Int.emod_lt_of_pos (z / 97) h0
    refine ⟨(z / 97 % m).toNat, a, b, z, by omega, by simp [strOk, hb, z0, z1], ?_⟩
    show M.bind (M.bind _ _) _ mh = _
    rw [M.bind_ok (a := .rt (.int (z / 97 % m))) (h' := mh.set i (strL ns a b z)) ?_]
    · show R.ok _ _ = _
      rw [Int.toNat_of_nonneg u0]
    · show M.bind _ _ mh = _
      refine (M.bind_ok e1).trans ?_
      show M.bind (M.bind _ _) _ _ = _
      rw [M.bind_ok (a := .rt (.int (z / 97 % m))) (h' := mh.set i (strL ns a b z)) ?_]
      · rfl
      · rw [M.bind_ok t1]
        simp only [ca, decide_true, if_true]
        subst ca
        show M.bind _ _ _ = _
        rw [M.bind_ok w3]
        show M.bind _ _ _ = _
        rw [M.bind_ok e4]
        rfl
  · -- from the cell
    have e3 : (mBin opMod (mCall fInt (mCons (mBin opIx (mVar 0) (mC (.int 1))) mNil)) (mVar 1)) [.v (.ref i), .v (.int m), .no] (mh.set i (strL ns a b y3)) = .ok (.int (a % m)) (mh.set i (strL ns a b y3)) := by
      rw [bin_ok ((call1_ok q1).trans rfl) (show mVar 1 _ _ = .ok (.int m) _ from rfl)]
      simp [opMod, h0, M.pure]
    obtain ⟨p0, p1, p2, p3⟩ := draw_rd hh1 [.v (.ref i), .v (.int m), .v (.int (a % m))] rfl
    have e4 : (mBin opDiv (mBin opIx (mVar 0) (mC (.int 1))) (mVar 1)) [.v (.ref i), .v (.int m), .v (.int (a % m))] (mh.set i (strL ns a b y3)) = .ok (.int (a / m)) (mh.set i (strL ns a b y3)) := by
      rw [bin_ok p1 (show mVar 1 _ _ = .ok (.int m) _ from rfl)]
      simp [opDiv, h0, l2, M.pure]
    have w4 := (draw_wr hh1 [.v (.ref i), .v (.int m), .v (.int (a % m))] rfl e4).1
    rw [List.set_set] at w4
    have u0 := Int.emod_nonneg a (b := m) (by omega)
    have u1 := Int.emod_lt_of_pos a h0
    refine ⟨(a % m).toNat, a / m, b, y3, by omega, by simp [strOk, hb, k2, k3], ?_⟩
    show M.bind (M.bind _ _) _ mh = _
    rw [M.bind_ok (a := .rt (.int (a % m))) (h' := mh.set i (strL ns (a / m) b y3)) ?_]
    · show R.ok _ _ = _
      rw [Int.toNat_of_nonneg u0]
    · show M.bind _ _ mh = _
      refine (M.bind_ok e1).trans ?_
      show M.bind (M.bind _ _) _ _ = _
      rw [M.bind_ok (a := .nx [.v (.ref i), .v (.int m), .no]) (h' := mh.set i (strL ns a b y3)) ?_]
      · show M.bind (M.bind _ _) _ _ = _
        rw [M.bind_ok (a := .nx [.v (.ref i), .v (.int m), .v (.int (a % m))]) (h' := mh.set i (strL ns a b y3)) ?_]
        · show M.bind _ _ _ = _
          rw [M.bind_ok w4]
          rfl
        · rw [M.bind_ok e3]
          rfl
      · rw [M.bind_ok t1]
        simp [ca, mNx, M.pure]
end
end AG
/-! AgQ: ordinals, as data. -/
namespace AG
open PySem L2

inductive O where
  | z
  | c (p : O) (n : Int) (r : O)
deriving DecidableEq
namespace O
/-- the pairs -/
def its : O → List D
  | z => []
  | c p n r => .tup [.tup p.its, .int n] :: r.its
def enc (o : O) : D := .tup o.its
def dp : O → Nat
  | z => 0
  | c p _ r => max (p.dp + 1) r.dp
def len : O → Nat
  | z => 0
  | c _ _ r => r.len + 1
def lt : O → O → Bool
  | z, z => false
  | z, c _ _ _ => true
  | c _ _ _, z => false
  | c p n r, c q m s => if p = q then (if n = m then lt r s else decide (n < m)) else lt p q
theorem enc_z : enc z = .tup [] := rfl
theorem enc_c {p r : O} {n : Int} : enc (c p n r) = .tup (.tup [p.enc, .int n] :: r.its) := rfl
theorem its_c {p r : O} {n : Int} : its (c p n r) = .tup [p.enc, .int n] :: r.its := rfl
theorem its_len : ∀ o : O, o.its.length = o.len
  | z => rfl
  | c _ _ r => by simp [its, len, its_len r]
theorem its_sm : ∀ (o : O) (n : Nat), 2 * o.dp ≤ n → o.its.all (D.sm n) = true
  | z, _, _ => rfl
  | c p k r, n, h => by
    have h1 : 2 * (p.dp + 1) ≤ n := Nat.le_trans (Nat.mul_le_mul_left 2 (Nat.le_max_left _ _)) h
    have h2 : 2 * r.dp ≤ n := Nat.le_trans (Nat.mul_le_mul_left 2 (Nat.le_max_right _ _)) h
    obtain ⟨m, rfl⟩ : ∃ m, n = m + 2 := ⟨n - 2, by omega⟩
    have a := its_sm p m (by omega)
    have b := its_sm r (m + 2) h2
    simp [its, List.all_cons, D.sm, a, b]
theorem sm {o : O} {n : Nat} (h : 2 * o.dp + 1 ≤ n) : D.sm n o.enc = true := by
  obtain ⟨m, rfl⟩ : ∃ m, n = m + 1 := ⟨n - 1, by omega⟩
  exact its_sm o m (by omega)
theorem its_nl : ∀ (o : O) (n : Nat), 2 * o.dp ≤ n → o.its.all (D.nl n) = true
  | z, _, _ => rfl
  | c p k r, n, h => by
    have h1 : 2 * (p.dp + 1) ≤ n := Nat.le_trans (Nat.mul_le_mul_left 2 (Nat.le_max_left _ _)) h
    have h2 : 2 * r.dp ≤ n := Nat.le_trans (Nat.mul_le_mul_left 2 (Nat.le_max_right _ _)) h
    obtain ⟨m, rfl⟩ : ∃ m, n = m + 2 := ⟨n - 2, by omega⟩
    have a := its_nl p m (by omega)
    have b := its_nl r (m + 2) h2
    simp [its, List.all_cons, D.nl, a, b]
theorem nl {o : O} {n : Nat} (h : 2 * o.dp + 1 ≤ n) : D.nl n o.enc = true := by
  obtain ⟨m, rfl⟩ : ∃ m, n = m + 1 := ⟨n - 1, by omega⟩
  exact its_nl o m (by omega)
theorem ralike : ∀ a b : O, PySem.W.alikeAll (D.toPys a.its) (D.toPys b.its) = true
  | z, z => by simp [its, D.toPys, PySem.W.alikeAll]
  | z, c _ _ _ => by simp [its, D.toPys, PySem.W.alikeAll]
  | c _ _ _, z => by simp [its, D.toPys, PySem.W.alikeAll]
  | c p n r, c q m s => by
    have a := ralike p q
    have b := ralike r s
    simp [its, D.toPys, D.toPy, PySem.W.alikeAll, PySem.W.alike, a, b]
theorem alike (a b : O) : D.alike a.enc b.enc = true := by
  have := ralike a b
  simpa [D.alike, enc, D.toPy, PySem.W.alike] using this
theorem reqv : ∀ a b : O, PyData.eqvAll (D.toPys a.its) (D.toPys b.its) = decide (a = b)
  | z, z => by simp [its, D.toPys, PyData.eqvAll]
  | z, c _ _ _ => by simp [its, D.toPys, PyData.eqvAll]
  | c _ _ _, z => by simp [its, D.toPys, PyData.eqvAll]
  | c p n r, c q m s => by
    have a := reqv p q
    have b := reqv r s
    simp only [its, D.toPys, D.toPy, PyData.eqvAll, PyData.eqv, a, b]
    by_cases h1 : p = q <;> by_cases h2 : n = m <;> by_cases h3 : r = s <;> simp [h1, h2, h3]
theorem eqv (a b : O) : D.eqv a.enc b.enc = decide (a = b) := by
  have := reqv a b
  simpa [D.eqv, enc, D.toPy, PyData.eqv] using this
theorem rlt : ∀ a b : O, PyProof.Rows.lexLt PyProof.Rows.itemOrd (PySem.W.keyToksAll (D.toPys a.its)) (PySem.W.keyToksAll (D.toPys b.its)) = lt a b
  | z, z => PyProof.Rows.lex_irrefl _
  | z, c p n r => by
    simp only [its, D.toPys]
    rw [PySem.W.toks_all_cons]
    simp only [PySem.W.keyToksAll]
    rw [PyProof.Rows.lex_diff (O := PyProof.Rows.itemOrd) (by simp)]
    simp [PyProof.Rows.itemOrd, PyProof.Rows.itemLt, lt]
  | c p n r, z => by
    simp only [its, D.toPys]
    rw [PySem.W.toks_all_cons]
    simp only [PySem.W.keyToksAll]
    rw [PyProof.Rows.lex_diff (O := PyProof.Rows.itemOrd) (by simp)]
    simp [PyProof.Rows.itemOrd, PyProof.Rows.itemLt, lt]
  | c p n r, c q m s => by
    have a1 := ralike p q
    have e1 := reqv p q
    have l1 := rlt p q
    have l2 := rlt r s
    have al : PySem.W.alike (.tuple [.tuple (D.toPys p.its), .int n]) (.tuple [.tuple (D.toPys q.its), .int m]) = true := by simp [PySem.W.alike, PySem.W.alikeAll, a1]
    simp only [its, D.toPys, D.toPy]
    rw [PySem.W.dataLt_cons al, PySem.W.dataLt_pair (by simpa [PySem.W.alike] using a1) (by simp [PySem.W.alike])]
    simp only [PyData.eqv, PyData.eqvAll, e1, PySem.W.dataLt_int, PySem.W.dataLt_tuple, l1, l2, lt]
    by_cases h1 : p = q <;> by_cases h2 : n = m <;> simp [h1, h2]
theorem dlt (a b : O) : D.lt a.enc b.enc = lt a b := by
  have := rlt a b
  simp only [D.lt, enc, D.toPy]
  rw [PySem.W.dataLt_tuple]
  exact this

/-! the order -/
theorem lt_irrefl : ∀ a : O, lt a a = false
  | z => rfl
  | c p n r => by simp [lt, lt_irrefl r]
theorem lt_total : ∀ a b : O, lt a b = true ∨ a = b ∨ lt b a = true
  | z, z => .inr (.inl rfl)
  | z, c _ _ _ => .inl rfl
  | c _ _ _, z => .inr (.inr rfl)
  | c p n r, c q m s => by
    by_cases h1 : p = q
    · subst h1
      by_cases h2 : n = m
      · subst h2
        rcases lt_total r s with h | h | h
        · exact .inl (by simp [lt, h])
        · exact .inr (.inl (by rw [h]))
        · exact .inr (.inr (by simp [lt, h]))
      · have h2' : ¬ m = n := fun e => h2 e.symm
        rcases Int.lt_or_gt_of_ne h2 with h | h
        · exact .inl (by simp [lt, h2, h])
        · exact .inr (.inr (by simp [lt, h2', h]))
    · have h1' : ¬ q = p := fun e => h1 e.symm
      rcases lt_total p q with h | h | h
      · exact .inl (by simp [lt, h1, h])
      · exact absurd h h1
      · exact .inr (.inr (by simp [lt, h1', h]))
theorem lt_trans : ∀ {a b d : O}, lt a b = true → lt b d = true → lt a d = true
  | z, z, _, h, _ => by cases h
  | z, c _ _ _, z, _, h => by cases h
  | z, c _ _ _, c _ _ _, _, _ => rfl
  | c _ _ _, z, _, h, _ => by cases h
  | c _ _ _, c _ _ _, z, _, h => by cases h
  | c p n r, c q m s, c t k u, h1, h2 => by
    simp only [lt] at h1 h2 ⊢
    by_cases e1 : p = q
    · subst e1
      by_cases e2 : p = t
      · subst e2
        simp only [if_true] at h1 h2 ⊢
        by_cases e3 : n = m
        · subst e3
          by_cases e4 : n = k
          · subst e4
            simp only [if_true] at h1 h2 ⊢
            exact lt_trans h1 h2
          · simp only [e4, if_false, if_true, decide_eq_true_eq] at h1 h2 ⊢
            exact h2
        · simp only [e3, if_false, decide_eq_true_eq] at h1
          by_cases e4 : m = k
          · subst e4
            simp only [e3, if_false, decide_eq_true_eq]
            exact h1
          · simp only [e4, if_false, decide_eq_true_eq] at h2
            have e5 : ¬ n = k := by omega
            simp only [e5, if_false, decide_eq_true_eq]
            omega
      · simp only [e2, if_false] at h2 ⊢
        exact h2
    · simp only [e1, if_false] at h1
      by_cases e2 : q = t
      · subst e2
        simp only [e1, if_false]
        exact h1
      · simp only [e2, if_false] at h2
        have h3 := lt_trans h1 h2
        by_cases e3 : p = t
        · subst e3
          rw [lt_irrefl] at h3
          cases h3
        · simp only [e3, if_false]
          exact h3
theorem lt_asymm {a b : O} (h : lt a b = true) : lt b a = false := by
  cases q : lt b a with
  | false => rfl
  | true =>
    have := lt_trans h q
    rw [lt_irrefl] at this
    cases this
theorem lt_ne {a b : O} (h : lt a b = true) : a ≠ b := fun e => by
  subst e
  rw [lt_irrefl] at h
  cases h
theorem not_lt {a b : O} (h : lt a b = false) : a = b ∨ lt b a = true := by
  rcases lt_total a b with q | q | q
  · rw [h] at q; cases q
  · exact .inl q
  · exact .inr q
end O

/-! ### what the operators make of them -/
section
variable {h : MH} {a b : O} {L L' : List O}
theorem opLt_enc (ha : a.dp ≤ 29) (hb : b.dp ≤ 29) : opLt a.enc b.enc h = .ok (.bl (O.lt a b)) h := by
  have c : cmpOk a.enc b.enc = true := by
    simp [cmpOk, O.sm (show 2 * a.dp + 1 ≤ 60 by omega), O.sm (show 2 * b.dp + 1 ≤ 60 by omega), O.alike]
    rfl
  show (if cmpOk a.enc b.enc = true then M.pure (D.bl (D.lt a.enc b.enc)) else M.bad) h = _
  rw [if_pos c, O.dlt]
  rfl
theorem opGt_enc (ha : a.dp ≤ 29) (hb : b.dp ≤ 29) : opGt a.enc b.enc h = .ok (.bl (O.lt b a)) h := by
  have c : cmpOk a.enc b.enc = true := by
    simp [cmpOk, O.sm (show 2 * a.dp + 1 ≤ 60 by omega), O.sm (show 2 * b.dp + 1 ≤ 60 by omega), O.alike]
    rfl
  show (if cmpOk a.enc b.enc = true then M.pure (D.bl (D.lt b.enc a.enc)) else M.bad) h = _
  rw [if_pos c, O.dlt]
  rfl
theorem opLe_enc (ha : a.dp ≤ 29) (hb : b.dp ≤ 29) : opLe a.enc b.enc h = .ok (.bl (!O.lt b a)) h := by
  have c : cmpOk a.enc b.enc = true := by
    simp [cmpOk, O.sm (show 2 * a.dp + 1 ≤ 60 by omega), O.sm (show 2 * b.dp + 1 ≤ 60 by omega), O.alike]
    rfl
  show (if cmpOk a.enc b.enc = true then M.pure (D.bl (!D.lt b.enc a.enc)) else M.bad) h = _
  rw [if_pos c, O.dlt]
  rfl
theorem opGe_enc (ha : a.dp ≤ 29) (hb : b.dp ≤ 29) : opGe a.enc b.enc h = .ok (.bl (!O.lt a b)) h := by
  have c : cmpOk a.enc b.enc = true := by
    simp [cmpOk, O.sm (show 2 * a.dp + 1 ≤ 60 by omega), O.sm (show 2 * b.dp + 1 ≤ 60 by omega), O.alike]
    rfl
  show (if cmpOk a.enc b.enc = true then M.pure (D.bl (!D.lt a.enc b.enc)) else M.bad) h = _
  rw [if_pos c, O.dlt]
  rfl
theorem opEq_enc (ha : a.dp ≤ 29) (hb : b.dp ≤ 29) : opEq a.enc b.enc h = .ok (.bl (decide (a = b))) h := by
  have c : (D.sm 60 a.enc && D.sm 60 b.enc) = true := by simp [O.sm (show 2 * a.dp + 1 ≤ 60 by omega), O.sm (show 2 * b.dp + 1 ≤ 60 by omega)]
  show (if (D.sm 60 a.enc && D.sm 60 b.enc) = true then M.pure (D.bl (D.eqv a.enc b.enc)) else M.bad) h = _
  rw [if_pos c, O.eqv]
  rfl
theorem opNe_enc (ha : a.dp ≤ 29) (hb : b.dp ≤ 29) : opNe a.enc b.enc h = .ok (.bl (!decide (a = b))) h := by
  have c : (D.sm 60 a.enc && D.sm 60 b.enc) = true := by simp [O.sm (show 2 * a.dp + 1 ≤ 60 by omega), O.sm (show 2 * b.dp + 1 ≤ 60 by omega)]
  show (if (D.sm 60 a.enc && D.sm 60 b.enc) = true then M.pure (D.bl (!D.eqv a.enc b.enc)) else M.bad) h = _
  rw [if_pos c, O.eqv]
  rfl
theorem smL {n : Nat} (hL : ∀ x ∈ L, x.dp ≤ 28) (hn : 58 ≤ n) : (L.map O.enc).all (D.sm n) = true := by
  rw [List.all_map, List.all_eq_true]
  intro x hx
  exact O.sm (by have := hL x hx; omega)
theorem nlL {n : Nat} (hL : ∀ x ∈ L, x.dp ≤ 28) (hn : 58 ≤ n) : (L.map O.enc).all (D.nl n) = true := by
  rw [List.all_map, List.all_eq_true]
  intro x hx
  exact O.nl (by have := hL x hx; omega)
theorem any_enc : ((L.map O.enc).any fun z => D.eqv z a.enc) = decide (a ∈ L) := by
  rw [List.any_map]
  induction L with
  | nil => simp
  | cons x L ih =>
    rw [List.any_cons, ih]
    show (D.eqv x.enc a.enc || _) = _
    rw [O.eqv]
    by_cases h1 : x = a
    · subst h1; simp
    · have h1' : ¬ a = x := fun e => h1 e.symm
      simp [h1, h1']
theorem opIn_encL {g : Bool → Bool} (ha : a.dp ≤ 28) (hL : ∀ x ∈ L, x.dp ≤ 28) : opIn g a.enc (.lst (L.map O.enc)) h = .ok (.bl (g (decide (a ∈ L)))) h := by
  have c : (D.sm 60 a.enc && D.sm 60 (.lst (L.map O.enc))) = true := by
    have : (L.map O.enc).all (D.sm 59) = true := smL hL (by omega)
    rw [O.sm (show 2 * a.dp + 1 ≤ 60 by omega)]
    simpa [D.sm] using this
  show (if (D.sm 60 a.enc && D.sm 60 (.lst (L.map O.enc))) = true then M.pure _ else M.bad) h = _
  rw [if_pos c, any_enc]
  rfl
theorem opIn_encT {g : Bool → Bool} (ha : a.dp ≤ 28) (hL : ∀ x ∈ L, x.dp ≤ 28) : opIn g a.enc (.tup (L.map O.enc)) h = .ok (.bl (g (decide (a ∈ L)))) h := by
  have c : (D.sm 60 a.enc && D.sm 60 (.tup (L.map O.enc))) = true := by
    have : (L.map O.enc).all (D.sm 59) = true := smL hL (by omega)
    rw [O.sm (show 2 * a.dp + 1 ≤ 60 by omega)]
    simpa [D.sm] using this
  show (if (D.sm 60 a.enc && D.sm 60 (.tup (L.map O.enc))) = true then M.pure _ else M.bad) h = _
  rw [if_pos c, any_enc]
  rfl
theorem eqvL : ∀ L L' : List O, PyData.eqvAll (D.toPys (L.map O.enc)) (D.toPys (L'.map O.enc)) = decide (L = L')
  | [], [] => by simp [D.toPys, PyData.eqvAll]
  | [], _ :: _ => by simp [D.toPys, PyData.eqvAll]
  | _ :: _, [] => by simp [D.toPys, PyData.eqvAll]
  | x :: L, y :: L' => by
    have e := O.eqv x y
    have r := eqvL L L'
    unfold D.eqv at e
    simp only [List.map_cons, D.toPys, PyData.eqvAll, e, r]
    by_cases h1 : x = y <;> by_cases h2 : L = L' <;> simp [h1, h2]
theorem opEq_encL (hL : ∀ x ∈ L, x.dp ≤ 28) (hM : ∀ x ∈ L', x.dp ≤ 28) : opEq (.lst (L.map O.enc)) (.lst (L'.map O.enc)) h = .ok (.bl (decide (L = L'))) h := by
  have c : (D.sm 60 (.lst (L.map O.enc)) && D.sm 60 (.lst (L'.map O.enc))) = true := by
    have c1 : (L.map O.enc).all (D.sm 59) = true := smL hL (by omega)
    have c2 : (L'.map O.enc).all (D.sm 59) = true := smL hM (by omega)
    simp only [D.sm, c1, c2]
    rfl
  show (if (D.sm 60 (.lst (L.map O.enc)) && D.sm 60 (.lst (L'.map O.enc))) = true then M.pure (D.bl (D.eqv (.lst (L.map O.enc)) (.lst (L'.map O.enc)))) else M.bad) h = _
  rw [if_pos c]
  have e : D.eqv (.lst (L.map O.enc)) (.lst (L'.map O.enc)) = decide (L = L') := by
    have := eqvL L L'
    simpa [D.eqv, D.toPy, PyData.eqv] using this
  rw [e]
  rfl
theorem fRemove_enc (ha : a.dp ≤ 28) (hL : ∀ x ∈ L, x.dp ≤ 28) (hm : a ∈ L) : fRemove (L.map O.enc) a.enc = some ((L.erase a).map O.enc) := by
  have c : ((L.map O.enc).all (D.sm 60) && D.sm 60 a.enc) = true := by
    rw [smL hL (by omega), O.sm (show 2 * a.dp + 1 ≤ 60 by omega)]
    rfl
  unfold fRemove
  rw [if_pos c]
  clear c
  induction L with
  | nil => cases hm
  | cons x L ih =>
    rw [List.map_cons, List.findIdx?_cons, O.eqv]
    by_cases e : x = a
    · subst e
      simp
    · have hm' : a ∈ L := by
        rcases List.mem_cons.mp hm with q | q
        · exact absurd q.symm e
        · exact q
      have i := ih (fun y hy => hL y (List.mem_cons_of_mem _ hy)) hm'
      have hb : (x == a) = false := by simp [e]
      rw [List.erase_cons, hb]
      simp only [e, decide_false, Bool.false_eq_true, if_false, Option.map_map]
      cases q : List.findIdx? (fun z => D.eqv z a.enc) (L.map O.enc) with
      | none => rw [q] at i; cases i
      | some j =>
        rw [q] at i
        simp only [Option.map_some, Option.some.injEq] at i ⊢
        show (x.enc :: L.map O.enc).eraseIdx (j + 1) = _
        rw [List.eraseIdx_cons_succ, i]
        rfl
end

/-! ### comprehensions, any, all -/
section
variable {h : MH} {t : Tgt} {te : Env → M D} {tt : Env → M Bool} {env : Env}
theorem compF_map {α : Type} {f : α → D} {g : α → D} : ∀ {xs : List α}, (∀ x ∈ xs, ∃ env1, t (f x) env = some env1 ∧ te env1 h = .ok (g x) h) → compF t mYes te env (xs.map f) h = .ok (xs.map g) h
  | [], _ => rfl
  | x :: xs, hh => by
    obtain ⟨env1, e1, e2⟩ := hh x List.mem_cons_self
    have ih := compF_map (xs := xs) fun y hy => hh y (List.mem_cons_of_mem _ hy)
    rw [List.map_cons]
    simp only [compF, e1, M.bind, mYes, M.pure, R.bind, if_true, e2, ih, List.map_cons]
theorem compF_filter {α : Type} {f : α → D} {p : α → Bool} {g : α → D} : ∀ {xs : List α}, (∀ x ∈ xs, ∃ env1, t (f x) env = some env1 ∧ tt env1 h = .ok (p x) h ∧ (p x = true → te env1 h = .ok (g x) h)) → compF t tt te env (xs.map f) h = .ok ((xs.filter p).map g) h
  | [], _ => rfl
  | x :: xs, hh => by
    obtain ⟨env1, e1, e2, e3⟩ := hh x List.mem_cons_self
    have ih := compF_filter (xs := xs) fun y hy => hh y (List.mem_cons_of_mem _ hy)
    rw [List.map_cons]
    cases q : p x with
    | true => simp only [compF, e1, M.bind, e2, R.bind, q, if_true, e3 q, ih, M.pure, List.filter_cons, List.map_cons]
    | false => simp only [compF, e1, M.bind, e2, R.bind, q, if_false, ih, List.filter_cons, Bool.false_eq_true]
/-- by what each turn gives -/
theorem compF_wp {P : D → Prop} {E : Nat → MH → Prop} : ∀ {xs : List D}, (∀ x ∈ xs, ∃ env1, t x env = some env1 ∧ wpR (te env1 h) (fun d h' => P d ∧ h' = h) E) → wpR (compF t mYes te env xs h) (fun ds h' => (∀ d ∈ ds, P d) ∧ ds.length = xs.length ∧ h' = h) E
  | [], _ => ⟨fun _ h => (by cases h), rfl, rfl⟩
  | x :: xs, hh => by
    obtain ⟨env1, e1, e2⟩ := hh x List.mem_cons_self
    have ih := compF_wp (xs := xs) fun y hy => hh y (List.mem_cons_of_mem _ hy)
    simp only [compF, e1, M.bind, mYes, M.pure, R.bind, if_true]
    rw [wpR_bind]
    refine wpR_mono e2 (fun d h' q => ?_) fun _ _ q => q
    obtain ⟨q1, rfl⟩ := q
    rw [wpR_bind]
    refine wpR_mono ih (fun ds h'' q => ?_) fun _ _ q => q
    obtain ⟨q2, q3, rfl⟩ := q
    exact ⟨fun d' hd => (List.mem_cons.mp hd).elim (fun e => e ▸ q1) (q2 d'), by simp [q3], rfl⟩
theorem wpR_calm' {α : Type} {r : R α} {Q : α → MH → Prop} {E : Nat → MH → Prop} (h : wpR r Q fun _ _ => False) : wpR r.calm Q E := by
  induction r with
  | ok a m => exact h
  | exc c m => exact h.elim
  | bad => exact h
  | pick n k ih => exact ⟨h.1, fun i hi => ih i (h.2 i hi)⟩
theorem tok_bl (b : Bool) : D.tok (.bl b) = true := by cases b <;> rfl
theorem fAll_map {α : Type} {p : α → Bool} {xs : List α} : fAll [.lst (xs.map fun x => D.bl (p x))] h = .ok (.bl (xs.all p)) h := by
  have c : (xs.map fun x => D.bl (p x)).all D.tok = true := by
    rw [List.all_map, List.all_eq_true]
    intro x _
    exact tok_bl _
  show (if _ then M.pure (D.bl _) else M.bad) h = _
  rw [if_pos c, List.all_map]
  rfl
theorem fAny_map {α : Type} {p : α → Bool} {xs : List α} : fAny [.lst (xs.map fun x => D.bl (p x))] h = .ok (.bl (xs.any p)) h := by
  have c : (xs.map fun x => D.bl (p x)).all D.tok = true := by
    rw [List.all_map, List.all_eq_true]
    intro x _
    exact tok_bl _
  show (if _ then M.pure (D.bl _) else M.bad) h = _
  rw [if_pos c, List.any_map]
  rfl
end
end AG
/-! AgR: how the parts are worked out (simp). -/
namespace AG
open PySem L2

section
variable {α β : Type} {h : MH} {env : Env} {a b c m : Env → M D} {t u : Env → M Bool} {s s' : Env → M Fl} {ms mf mg : Env → M (List D)} {i j : Nat} {d : D}
@[simp] theorem rb_ok {x : α} {f : α → MH → R β} : (R.ok x h).bind f = f x h := id rfl
@[simp] theorem rb_exc {n : Nat} {f : α → MH → R β} : (R.exc n h : R α).bind f = .exc n h := id rfl
@[simp] theorem rb_bad {f : α → MH → R β} : (R.bad : R α).bind f = .bad := id rfl
@[simp] theorem rb_pick {n : Nat} {k : Nat → R α} {f : α → MH → R β} : (R.pick n k).bind f = .pick n fun i => (k i).bind f := id rfl
@[simp] theorem ev_bind {x : M α} {f : α → M β} : M.bind x f h = (x h).bind fun y h' => f y h' := id rfl
@[simp] theorem ev_pure {x : α} : M.pure x h = .ok x h := id rfl
@[simp] theorem ev_bad : (M.bad : M α) h = .bad := id rfl
@[simp] theorem ev_exc {n : Nat} : (M.exc n : M α) h = .exc n h := id rfl
@[simp] theorem calm_ok {x : α} : (R.ok x h).calm = .ok x h := id rfl
@[simp] theorem lent_pick {n : Nat} {ok : α → Bool} {k : Nat → R α} : (R.pick n k).lent ok = .pick n fun i => (k i).lent ok := id rfl
@[simp] theorem lent_ok {ok : α → Bool} {x : α} : (R.ok x h).lent ok = if (ok x && h.all MO.nl) = true then .ok x h else .bad := id rfl
@[simp] theorem wp_ok {x : α} {Q : α → MH → Prop} {E : Nat → MH → Prop} : wpR (.ok x h) Q E ↔ Q x h := Iff.intro id id
@[simp] theorem wp_exc {n : Nat} {Q : α → MH → Prop} {E : Nat → MH → Prop} : wpR (.exc n h : R α) Q E ↔ E n h := Iff.intro id id
@[simp] theorem wp_bad {Q : α → MH → Prop} {E : Nat → MH → Prop} : wpR (.bad : R α) Q E ↔ False := Iff.intro id id
@[simp] theorem ev_seq : mSeq s s' env h = (s env h).bind fun fl h' => (match fl with | .nx e => s' e | fl => M.pure fl) h' := id rfl
@[simp] theorem ev_set : mSet i a env h = (a env h).bind fun x h' => .ok (.nx (env.set i (.v x))) h' := id rfl
@[simp] theorem ev_setOwn : mSetOwn i mf env h = (mf env h).bind fun x h' => .ok (.nx (env.set i (.own x))) h' := id rfl
@[simp] theorem ev_setT {tg : Tgt} : mSetT tg a env h = (a env h).bind fun x h' => (match tg x env with | some e => M.pure (Fl.nx e) | none => M.bad) h' := id rfl
@[simp] theorem ev_ret : mRet a env h = (a env h).bind fun x h' => .ok (.rt x) h' := id rfl
@[simp] theorem ev_retN : mRetN env h = .ok (.rt .non) h := id rfl
@[simp] theorem ev_expr : mExpr a env h = (a env h).bind fun _ h' => .ok (.nx env) h' := id rfl
@[simp] theorem ev_if : mIf t s s' env h = (t env h).bind fun x h' => (if x = true then s env else s' env) h' := id rfl
@[simp] theorem ev_par : mPar i j ms env h = (ms env h).bind fun ds h' => (match ds with | [x, y] => M.pure (Fl.nx ((env.set i (.v x)).set j (.v y))) | _ => M.bad) h' := id rfl
@[simp] theorem ev_parOwn : mParOwn i j mf mg env h = (mf env h).bind fun xs h' => (mg env h').bind fun ys h'' => .ok (.nx ((env.set i (.own xs)).set j (.own ys))) h'' := id rfl
@[simp] theorem ev_nx : mNx env h = .ok (.nx env) h := id rfl
@[simp] theorem ev_bk : mBk env h = .ok (.bk env) h := id rfl
@[simp] theorem ev_ct : mCt env h = .ok (.ct env) h := id rfl
@[simp] theorem ev_for {tg : Tgt} : mFor ms tg s env h = (ms env h).bind fun xs h' => loopF tg s xs env h' := id rfl
@[simp] theorem ev_bin {f : DOp} : mBin f a b env h = (a env h).bind fun x h' => (b env h').bind fun y h'' => f x y h'' := id rfl
@[simp] theorem ev_c : mC d env h = .ok d h := id rfl
@[simp] theorem ev_truth : mTruth a env h = (a env h).bind fun x h' => truthM x h' := id rfl
@[simp] theorem ev_test : mTest a env h = (a env h).bind fun x h' => blM x h' := id rfl
@[simp] theorem ev_blM {x : Bool} : blM (.bl x) h = .ok x h := id rfl
@[simp] theorem ev_truthB {x : Bool} : truthM (.bl x) h = .ok x h := id rfl
@[simp] theorem ev_truthI {x : Int} : truthM (.int x) h = .ok (x != 0) h := id rfl
@[simp] theorem ev_truthN : truthM .non h = .ok false h := id rfl
@[simp] theorem ev_truthT {x : List D} : truthM (.tup x) h = .ok (!x.isEmpty) h := id rfl
@[simp] theorem ev_truthL {x : List D} : truthM (.lst x) h = .ok (!x.isEmpty) h := id rfl
@[simp] theorem ev_andT : mAndT t u env h = (t env h).bind fun x h' => (if x = true then u env else M.pure false) h' := id rfl
@[simp] theorem ev_orT : mOrT t u env h = (t env h).bind fun x h' => (if x = true then M.pure true else u env) h' := id rfl
@[simp] theorem ev_notT : mNotT t env h = (t env h).bind fun x h' => .ok (!x) h' := id rfl
@[simp] theorem ev_andV : mAndV a b env h = (a env h).bind fun x h' => (truthM x h').bind fun y h'' => (if y = true then b env else M.pure x) h'' := id rfl
@[simp] theorem ev_orV : mOrV a b env h = (a env h).bind fun x h' => (truthM x h').bind fun y h'' => (if y = true then M.pure x else b env) h'' := id rfl
@[simp] theorem ev_notV : mNotV a env h = (a env h).bind fun x h' => (truthM x h').bind fun y h'' => .ok (.bl (!y)) h'' := id rfl
@[simp] theorem ev_ifE : mIfE t a b env h = (t env h).bind fun x h' => (if x = true then a env else b env) h' := id rfl
@[simp] theorem ev_nil : mNil env h = .ok [] h := id rfl
@[simp] theorem ev_cons : mCons a ms env h = (a env h).bind fun x h' => (ms env h').bind fun xs h'' => .ok (x :: xs) h'' := id rfl
@[simp] theorem ev_tup : mTup ms env h = (ms env h).bind fun xs h' => (if xs.length ≤ 16777216 then M.pure (.tup xs) else M.bad) h' := id rfl
@[simp] theorem ev_lst : mLst ms env h = (ms env h).bind fun xs h' => (if xs.length ≤ 16777216 then M.pure (.lst xs) else M.bad) h' := id rfl
@[simp] theorem ev_lstF : mLstF ms env h = (ms env h).bind fun xs h' => (if xs.length ≤ 16777216 then M.pure xs else M.bad) h' := id rfl
@[simp] theorem ev_listF : mListF ms env h = (ms env h).bind fun xs h' => itemsF xs h' := id rfl
@[simp] theorem ev_itemsF {x : D} : itemsF [x] h = itemsM x h := id rfl
@[simp] theorem ev_itemsL {x : List D} : itemsM (.lst x) h = .ok x h := id rfl
@[simp] theorem ev_itemsT {x : List D} : itemsM (.tup x) h = .ok x h := id rfl
@[simp] theorem ev_frz : mFrz mf env h = (mf env h).bind fun xs h' => .ok (.lst xs) h' := id rfl
@[simp] theorem ev_un {f : D → M D} : mUn f a env h = (a env h).bind fun x h' => f x h' := id rfl
@[simp] theorem ev_neg {x : Int} : opNeg (.int x) h = .ok (.int (-x)) h := id rfl
@[simp] theorem ev_rev {x : List D} : opRev (.lst x) h = .ok (.lst x.reverse) h := id rfl
@[simp] theorem ev_call {f : LOp} : mCall f ms env h = (ms env h).bind fun xs h' => f xs h' := id rfl
@[simp] theorem ev_callN {f : LOp} {n : Nat} : mCallN n f ms env h = (ms env h).bind fun xs h' => (if xs.length = n then f xs else M.bad) h' := id rfl
@[simp] theorem ev_call0 {f : LOp} : mCall0 f env h = (f [] h).calm := id rfl
@[simp] theorem ev_items : mItems a env h = (a env h).bind fun x h' => itemsM x h' := id rfl
@[simp] theorem ev_rng1 : mRng1 a env h = (a env h).bind fun x h' => rng1M x h' := id rfl
@[simp] theorem ev_rng2 : mRng2 a b env h = (a env h).bind fun x h' => (b env h').bind fun y h'' => rng2M x y h'' := id rfl
@[simp] theorem ev_part : mPart a env h = (a env h).bind fun x h' => partM x h' := id rfl
@[simp] theorem ev_partM {x : Int} : partM (.int x) h = .ok (some x) h := id rfl
@[simp] theorem ev_noPart : mNoPart env h = .ok none h := id rfl
@[simp] theorem ev_sl {lo hi : Env → M (Option Int)} : mSl a lo hi env h = (a env h).bind fun x h' => (lo env h').bind fun l h'' => (hi env h'').bind fun u h3 => opSl x l u h3 := id rfl
@[simp] theorem ev_slT {x : List D} {l u : Option Int} : opSl (.tup x) l u h = .ok (.tup (cutD x l u)) h := id rfl
@[simp] theorem ev_slL {x : List D} {l u : Option Int} : opSl (.lst x) l u h = .ok (.lst (cutD x l u)) h := id rfl
@[simp] theorem ev_lc {tg : Tgt} {vs : List Nat} : mLc ms tg t a vs env h = (ms env h).bind fun xs h' => (if xs.length ≤ 16777216 then (fun h => (compF tg t a (wipeE env vs) xs h).calm) else M.bad) h' := id rfl
@[simp] theorem ev_isi {g : PyData → Bool} : mIsi g a env h = (a env h).bind fun x h' => (if D.sm 60 x = true then M.pure (.bl (g x.toPy)) else M.bad) h' := id rfl
@[simp] theorem ev_fn {n : Nat} {ds : List D} : mFn n s ds h = (s (ds.map Slot.v ++ List.replicate (n - ds.length) Slot.no) h).bind fun fl h' => flD fl h' := id rfl
@[simp] theorem ev_flR {x : D} : flD (.rt x) h = .ok x h := id rfl
@[simp] theorem ev_flN {e : Env} : flD (.nx e) h = .ok .non h := id rfl
@[simp] theorem ev_var (he : env[i]? = some (.v d)) : mVar i env h = .ok d h := by
  unfold mVar
  rw [he]
  rfl
@[simp] theorem ev_ownM {f : List D → D → Option (List D)} {ds : List D} (he : env[i]? = some (.own ds)) : mOwnM f i a env h = (a env h).bind fun y h' => (match f ds y with | some es => M.pure (Fl.nx (env.set i (.own es))) | none => M.bad) h' := by
  unfold mOwnM
  rw [he]
  rfl
@[simp] theorem ev_frzO {ds : List D} (he : env[i]? = some (.own ds)) : mFrzB i s env h = s (env.set i (.v (.lst ds))) h := by
  unfold mFrzB
  rw [he]
@[simp] theorem ev_frzV {x : D} (he : env[i]? = some (.v x)) : mFrzB i s env h = s env h := by
  unfold mFrzB
  rw [he]
@[simp] theorem ev_borO {ds : List D} (he : env[i]? = some (.own ds)) : mBor i a env h = (a (env.set i (.v (.lst ds))) h).lent (D.nl 60) := by
  unfold mBor mBorR
  rw [he]
@[simp] theorem ev_borTO {ds : List D} (he : env[i]? = some (.own ds)) : mBorT i t env h = (t (env.set i (.v (.lst ds))) h).lent (fun _ => true) := by
  unfold mBorT mBorR
  rw [he]
@[simp] theorem ev_borFO {ds : List D} (he : env[i]? = some (.own ds)) : mBorF i mf env h = (mf (env.set i (.v (.lst ds))) h).lent (fun ds => ds.all (D.nl 60)) := by
  unfold mBorF mBorR
  rw [he]
@[simp] theorem ev_aug {f : DOp} {x : D} (he : env[i]? = some (.v x)) : mAug f i a env h = (a env h).bind fun y h' => (f x y h').bind fun z h'' => .ok (.nx (env.set i (.v z))) h'' := by
  unfold mAug
  rw [he]
  rfl
@[simp] theorem ev_setIxOwn {ds : List D} (he : env[i]? = some (.own ds)) : mSetIxOwn i a b env h = (b env h).bind fun v h' => (a env h').bind fun j h'' => (match j with | .int k => (match ixN ds.length k with | some t => M.pure (Fl.nx (env.set i (.own (ds.set t v)))) | none => M.bad) | _ => M.bad) h'' := by
  unfold mSetIxOwn
  rw [he]
  show ((b env h).bind fun v h' => _) = _
  congr
  funext v h'
  show ((a env h').bind fun j h'' => _) = _
  congr
  funext k h''
  cases k <;> rfl
@[simp] theorem loop_nil {tg : Tgt} : loopF tg s [] env h = .ok (.nx env) h := id rfl
@[simp] theorem tgName_ {x : D} : tgName i x env = some (env.set i (.v x)) := id rfl
@[simp] theorem op_addI {x y : Int} : opAdd (.int x) (.int y) h = .ok (.int (x + y)) h := id rfl
@[simp] theorem aug_addI {x y : Int} : augAdd (.int x) (.int y) h = .ok (.int (x + y)) h := id rfl
@[simp] theorem op_subI {x y : Int} : opSub (.int x) (.int y) h = .ok (.int (x - y)) h := id rfl
@[simp] theorem op_eqI {x y : Int} : opEq (.int x) (.int y) h = .ok (.bl (decide (x = y))) h := id rfl
@[simp] theorem op_neI {x y : Int} : opNe (.int x) (.int y) h = .ok (.bl (!decide (x = y))) h := id rfl
@[simp] theorem op_ltI {x y : Int} : opLt (.int x) (.int y) h = .ok (.bl (decide (x < y))) h := id rfl
@[simp] theorem op_gtI {x y : Int} : opGt (.int x) (.int y) h = .ok (.bl (decide (y < x))) h := id rfl
@[simp] theorem op_leI {x y : Int} : opLe (.int x) (.int y) h = .ok (.bl (decide (x ≤ y))) h := id rfl
@[simp] theorem op_geI {x y : Int} : opGe (.int x) (.int y) h = .ok (.bl (decide (y ≤ x))) h := id rfl
@[simp] theorem op_addT {x y : List D} : opAdd (.tup x) (.tup y) h = (if x.length + y.length ≤ 16777216 then .ok (.tup (x ++ y)) h else .bad) := by
  show (if x.length + y.length ≤ 16777216 then M.pure (D.tup (x ++ y)) else M.bad) h = _
  split <;> rfl
@[simp] theorem op_addL {x y : List D} : opAdd (.lst x) (.lst y) h = (if x.length + y.length ≤ 16777216 then .ok (.lst (x ++ y)) h else .bad) := by
  show (if x.length + y.length ≤ 16777216 then M.pure (D.lst (x ++ y)) else M.bad) h = _
  split <;> rfl
@[simp] theorem op_ixT {x : List D} {k : Int} : opIx (.tup x) (.int k) h = (match atI x k with | some y => .ok y h | none => .bad) := by
  show (match atI x k with | some y => M.pure y | none => M.bad) h = _
  cases atI x k <;> rfl
@[simp] theorem op_ixL {x : List D} {k : Int} : opIx (.lst x) (.int k) h = (match atI x k with | some y => .ok y h | none => .bad) := by
  show (match atI x k with | some y => M.pure y | none => M.bad) h = _
  cases atI x k <;> rfl
@[simp] theorem at_0 {x : α} {r : List α} : atI (x :: r) 0 = some x := by
  have : ((0 : Int)) < ((r.length + 1 : Nat) : Int) := by omega
  simp [atI, ixN, this]
@[simp] theorem at_1 {x y : α} {r : List α} : atI (x :: y :: r) 1 = some y := by
  have : ((1 : Int)) < ((r.length + 1 + 1 : Nat) : Int) := by omega
  simp only [atI, ixN, List.length_cons, this, if_true]
  rfl
@[simp] theorem f_lenT {x : List D} : fLen [.tup x] h = .ok (.int x.length) h := id rfl
@[simp] theorem f_lenL {x : List D} : fLen [.lst x] h = .ok (.int x.length) h := id rfl
@[simp] theorem f_intI {x : Int} : fInt [.int x] h = .ok (.int x) h := id rfl
@[simp] theorem f_intB {x : Bool} : fInt [.bl x] h = .ok (.int (if x then 1 else 0)) h := id rfl
@[simp] theorem f_listL {x : List D} : fList [.lst x] h = .ok (.lst x) h := id rfl
@[simp] theorem f_listT {x : List D} : fList [.tup x] h = .ok (.lst x) h := id rfl
@[simp] theorem f_tupL {x : List D} : fTuple [.lst x] h = .ok (.tup x) h := id rfl
@[simp] theorem f_tupT {x : List D} : fTuple [.tup x] h = .ok (.tup x) h := id rfl
theorem rng1_nat {n : Nat} (hn : n < 4611686018427387904) : rng1M (.int n) h = .ok (rngD 0 n) h := by
  show M.pure (rngD 0 (n : Int).toNat) h = _
  rfl
theorem rng1_int {x : Int} : rng1M (.int x) h = .ok (rngD 0 x.toNat) h := rfl
end
/-- a loop by what each turn gives -/
theorem loopF_cons {tg : Tgt} {s : Env → M Fl} {x : D} {xs : List D} {env env1 : Env} {h h' : MH} (ht : tg x env = some env1) {e : Env} (hs : s env1 h = .ok (.nx e) h') : loopF tg s (x :: xs) env h = loopF tg s xs e h' := by
  simp only [loopF, ht, ev_bind, hs, rb_ok]
theorem loopF_ct {tg : Tgt} {s : Env → M Fl} {x : D} {xs : List D} {env env1 : Env} {h h' : MH} (ht : tg x env = some env1) {e : Env} (hs : s env1 h = .ok (.ct e) h') : loopF tg s (x :: xs) env h = loopF tg s xs e h' := by
  simp only [loopF, ht, ev_bind, hs, rb_ok]
theorem loopF_rt {tg : Tgt} {s : Env → M Fl} {x : D} {xs : List D} {env env1 : Env} {h h' : MH} (ht : tg x env = some env1) {d : D} (hs : s env1 h = .ok (.rt d) h') : loopF tg s (x :: xs) env h = .ok (.rt d) h' := by
  simp only [loopF, ht, ev_bind, hs, rb_ok, ev_pure]
theorem loopF_bk {tg : Tgt} {s : Env → M Fl} {x : D} {xs : List D} {env env1 : Env} {h h' : MH} (ht : tg x env = some env1) {e : Env} (hs : s env1 h = .ok (.bk e) h') : loopF tg s (x :: xs) env h = .ok (.nx e) h' := by
  simp only [loopF, ht, ev_bind, hs, rb_ok, ev_pure]
/-- a while by a turn -/
theorem while_go {c : Env → M Bool} {s : Env → M Fl} {k : Nat} {env e : Env} {h h' h'' : MH} (hc : c env h = .ok true h') (hs : s env h' = .ok (.nx e) h'') : whileF c s (k + 1) env h = whileF c s k e h'' := by
  simp only [whileF, ev_bind, hc, rb_ok, if_true, hs]
theorem while_end {c : Env → M Bool} {s : Env → M Fl} {k : Nat} {env : Env} {h h' : MH} (hc : c env h = .ok false h') : whileF c s (k + 1) env h = .ok (.nx env) h' := by
  simp only [whileF, ev_bind, hc, rb_ok, Bool.false_eq_true, if_false, ev_pure]
/-- a loop with ways: an invariant -/
theorem loopF_wp {tg : Tgt} {s : Env → M Fl} {I : Env → Prop} {h : MH} {E : Nat → MH → Prop} : ∀ {xs : List D} {env : Env}, I env → (∀ x ∈ xs, ∀ env, I env → ∃ env1, tg x env = some env1 ∧ wpR (s env1 h) (fun fl h' => h' = h ∧ ∃ e, fl = .nx e ∧ I e) E) →
    wpR (loopF tg s xs env h) (fun fl h' => h' = h ∧ ∃ e, fl = .nx e ∧ I e) E
  | [], env, i, _ => ⟨rfl, env, rfl, i⟩
  | x :: xs, env, i, hh => by
    obtain ⟨env1, e1, e2⟩ := hh x List.mem_cons_self env i
    simp only [loopF, e1, ev_bind]
    rw [wpR_bind]
    refine wpR_mono e2 (fun fl h' q => ?_) fun _ _ q => q
    obtain ⟨rfl, e, rfl, i2⟩ := q
    exact loopF_wp i2 fun y hy => hh y (List.mem_cons_of_mem _ hy)
/-- a draw -/
theorem draw_wp {h : MH} {i : Nat} {m : Int} {Q : D → MH → Prop} {E : Nat → MH → Prop} (hi : h[i]? = some .stream) (h0 : 0 < m) (h1 : m < 1073741824) (hq : ∀ j : Nat, (j : Int) < m → Q (.int j) h) : wpR (fDraw [.ref i, .int m] h) Q E := by
  unfold fDraw
  simp only [hi, h0, h1, and_self, if_true]
  exact ⟨by omega, fun j hj => hq j (by omega)⟩
end AG
/-! AgS: mixed sums of ordinals; counts. -/
namespace AG
open PySem L2

section
variable {h : MH} {o : O}
@[simp] theorem op_ixE {k : Int} : opIx o.enc (.int k) h = (match atI o.its k with | some y => .ok y h | none => .bad) := op_ixT
@[simp] theorem f_lenE : fLen [o.enc] h = .ok (.int o.len) h := by
  show R.ok (D.int o.its.length) h = _
  rw [O.its_len]
@[simp] theorem ev_itemsE : itemsM o.enc h = .ok o.its h := id rfl
@[simp] theorem ev_slE {l u : Option Int} : opSl o.enc l u h = .ok (.tup (cutD o.its l u)) h := id rfl
@[simp] theorem ev_truthE : truthM o.enc h = .ok (!o.its.isEmpty) h := id rfl
theorem enc_eq (o : O) : o.enc = .tup o.its := rfl
theorem at_mid {α : Type} {pre suf : List α} {x : α} : atI (pre ++ x :: suf) (pre.length : Int) = some x := L2.atI_nat (by simp)
end
namespace O
def mixIn (p : O) (n : Int) (f : O → O) : O → O
  | z => c p n (f z)
  | c q m s => if lt p q = true then c q m (mixIn p n f s) else if p = q then c p (n + m) (f s) else c p n (f (c q m s))
/-- the mixed sum -/
def mix : O → O → O
  | z, b => b
  | c p n r, b => mixIn p n (mix r) b
/-- how often a place stands in it -/
def cnt : O → O → Int
  | z, _ => 0
  | c p n r, x => (if p = x then n else 0) + r.cnt x
/-- no place above b -/
def under (b : O) : O → Prop
  | z => True
  | c p _ _ => lt p b = true
/-- numbers from 1 on, places falling -/
def nf : O → Prop
  | z => True
  | c p n r => nf p ∧ 1 ≤ n ∧ under p r ∧ nf r
theorem cnt_c (p r x : O) (n : Int) : cnt (c p n r) x = (if p = x then n else 0) + r.cnt x := rfl
theorem cnt_mixIn {p : O} {n : Int} {f : O → O} {k : O → Int} (hf : ∀ b x, cnt (f b) x = k x + cnt b x) : ∀ (b x : O), cnt (mixIn p n f b) x = (if p = x then n else 0) + k x + cnt b x
  | z, x => by rw [mixIn, cnt_c, hf]; omega
  | c q m s, x => by
    rw [mixIn]
    by_cases h1 : lt p q = true
    · rw [if_pos h1, cnt_c, cnt_mixIn hf s x, cnt_c]
      omega
    · rw [if_neg h1]
      by_cases h2 : p = q
      · rw [if_pos h2, cnt_c, hf, cnt_c]
        subst h2
        by_cases h3 : p = x
        · simp only [h3, if_true]; omega
        · simp only [h3, if_false]; omega
      · rw [if_neg h2, cnt_c, hf]
        omega
theorem cnt_mix : ∀ (a b x : O), cnt (mix a b) x = cnt a x + cnt b x
  | z, b, x => by simp [mix, cnt]
  | c p n r, b, x => by
    rw [mix, cnt_mixIn (k := fun x => cnt r x) (fun b x => cnt_mix r b x), cnt_c]
theorem under_mixIn {p t : O} {n : Int} {f : O → O} (hp : lt p t = true) : ∀ b : O, under t b → under t (mixIn p n f b)
  | z, _ => hp
  | c q m s, hb => by
    rw [mixIn]
    by_cases h1 : lt p q = true
    · rw [if_pos h1]; exact hb
    · rw [if_neg h1]
      by_cases h2 : p = q
      · rw [if_pos h2]; exact hp
      · rw [if_neg h2]; exact hp
theorem under_mix {t : O} : ∀ a b : O, under t a → under t b → under t (mix a b)
  | z, _, _, hb => hb
  | c p n r, b, ha, hb => by
    rw [mix]
    exact under_mixIn ha b hb
theorem nf_mixIn {p : O} {n : Int} {f : O → O} (hp : nf p) (hn : 1 ≤ n) (hf : ∀ b, nf b → nf (f b)) (hb : ∀ b, under p b → under p (f b)) : ∀ b : O, nf b → nf (mixIn p n f b)
  | z, _ => ⟨hp, hn, hb z trivial, hf z trivial⟩
  | c q m s, h => by
    obtain ⟨a1, a2, a3, a4⟩ := h
    rw [mixIn]
    by_cases h1 : lt p q = true
    · rw [if_pos h1]
      exact ⟨a1, a2, under_mixIn h1 s a3, nf_mixIn hp hn hf hb s a4⟩
    · rw [if_neg h1]
      by_cases h2 : p = q
      · rw [if_pos h2]
        subst h2
        exact ⟨hp, by omega, hb s a3, hf s a4⟩
      · rw [if_neg h2]
        have h3 : lt q p = true := by
          rcases lt_total p q with z | z | z
          · exact absurd z h1
          · exact absurd z h2
          · exact z
        exact ⟨hp, hn, hb _ h3, hf _ ⟨a1, a2, a3, a4⟩⟩
theorem nf_mix : ∀ a b : O, nf a → nf b → nf (mix a b)
  | z, _, _, hb => hb
  | c p n r, b, ha, hb => by
    rw [mix]
    exact nf_mixIn ha.1 ha.2.1 (fun b hb => nf_mix r b ha.2.2.2 hb) (fun b hb => under_mix r b ha.2.2.1 hb) b hb
theorem under_trans {p t : O} (h : lt p t = true) : ∀ {o : O}, under p o → under t o
  | z, _ => trivial
  | c _ _ _, hb => lt_trans hb h
theorem cnt_under {t : O} : ∀ {o x : O}, nf o → under t o → lt x t = false → cnt o x = 0
  | z, _, _, _, _ => rfl
  | c p n r, x, h, hb, hx => by
    have hp : ¬ p = x := fun e => by subst e; have hb : lt p t = true := hb; rw [hx] at hb; cases hb
    rw [cnt_c, if_neg hp, cnt_under h.2.2.2 (under_trans hb h.2.2.1) hx]
    rfl
theorem cnt_nonneg : ∀ {o : O} (x : O), nf o → 0 ≤ cnt o x
  | z, _, _ => Int.le_refl 0
  | c p n r, x, h => by
    have h1 := cnt_nonneg x h.2.2.2
    have h2 := h.2.1
    rw [cnt_c]
    by_cases e : p = x
    · rw [if_pos e]; omega
    · rw [if_neg e]; omega
/-- which of two is less, by counts -/
theorem lt_cnt : ∀ {a b : O}, nf a → nf b → lt a b = true → ∃ x, cnt a x < cnt b x ∧ ∀ y, lt x y = true → cnt a y = cnt b y
  | z, z, _, _, h => by cases h
  | z, c q m s, _, hb, _ => by
    refine ⟨q, ?_, fun y hy => ?_⟩
    · rw [cnt_c, if_pos rfl]
      have h1 := cnt_nonneg q hb.2.2.2
      have h2 := hb.2.1
      show (0 : Int) < _
      omega
    · rw [cnt_c, if_neg (lt_ne hy), cnt_under hb.2.2.2 hb.2.2.1 (lt_asymm hy)]
      rfl
  | c _ _ _, z, _, _, h => by cases h
  | c p n r, c q m s, ha, hb, h => by
    simp only [lt] at h
    by_cases e1 : p = q
    · subst e1
      by_cases e2 : n = m
      · subst e2
        simp only [if_true] at h
        obtain ⟨x, h1, h2⟩ := lt_cnt ha.2.2.2 hb.2.2.2 h
        refine ⟨x, by rw [cnt_c, cnt_c]; omega, fun y hy => by rw [cnt_c, cnt_c, h2 y hy]⟩
      · simp only [e2, if_false, if_true, decide_eq_true_eq] at h
        refine ⟨p, ?_, fun y hy => ?_⟩
        · rw [cnt_c, cnt_c, cnt_under ha.2.2.2 ha.2.2.1 (lt_irrefl p), cnt_under hb.2.2.2 hb.2.2.1 (lt_irrefl p)]
          simp only [if_true]
          omega
        · rw [cnt_c, cnt_c, cnt_under ha.2.2.2 ha.2.2.1 (lt_asymm hy), cnt_under hb.2.2.2 hb.2.2.1 (lt_asymm hy), if_neg (lt_ne hy), if_neg (lt_ne hy)]
    · simp only [e1, if_false] at h
      refine ⟨q, ?_, fun y hy => ?_⟩
      · rw [cnt_c, cnt_c, if_neg e1, if_pos rfl, cnt_under ha.2.2.2 ha.2.2.1 (lt_asymm h)]
        have h1 := cnt_nonneg q hb.2.2.2
        have h2 := hb.2.1
        omega
      · have h3 := lt_trans h hy
        rw [cnt_c, cnt_c, if_neg (lt_ne h3), if_neg (lt_ne hy), cnt_under ha.2.2.2 ha.2.2.1 (lt_asymm h3), cnt_under hb.2.2.2 hb.2.2.1 (lt_asymm hy)]
theorem cnt_ext {a b : O} (ha : nf a) (hb : nf b) (h : ∀ x, cnt a x = cnt b x) : a = b := by
  rcases lt_total a b with q | q | q
  · obtain ⟨x, h1, _⟩ := lt_cnt ha hb q
    have := h x
    omega
  · exact q
  · obtain ⟨x, h1, _⟩ := lt_cnt hb ha q
    have := h x
    omega
theorem cnt_lt {a b x : O} (ha : nf a) (hb : nf b) (h1 : cnt a x < cnt b x) (h2 : ∀ y, lt x y = true → cnt a y = cnt b y) : lt a b = true := by
  rcases lt_total a b with q | q | q
  · exact q
  · subst q; omega
  · obtain ⟨y, k1, k2⟩ := lt_cnt hb ha q
    rcases lt_total x y with z | z | z
    · have := h2 y z; omega
    · subst z; omega
    · have := k2 x z; omega
theorem mixIn_dp {p : O} {n : Int} {f : O → O} {k : Nat} (hp : p.dp < k) (hf : ∀ b, b.dp ≤ k → (f b).dp ≤ k) : ∀ b : O, b.dp ≤ k → (mixIn p n f b).dp ≤ k
  | z, _ => by rw [mixIn]; exact Nat.max_le.mpr ⟨hp, hf z (Nat.zero_le _)⟩
  | c q m s, h => by
    have h1 : q.dp + 1 ≤ k := Nat.le_trans (Nat.le_max_left _ _) h
    have h2 : s.dp ≤ k := Nat.le_trans (Nat.le_max_right _ _) h
    rw [mixIn]
    split
    · exact Nat.max_le.mpr ⟨h1, mixIn_dp hp hf s h2⟩
    · split
      · exact Nat.max_le.mpr ⟨hp, hf s h2⟩
      · exact Nat.max_le.mpr ⟨hp, hf _ h⟩
theorem mix_dp {k : Nat} : ∀ a b : O, a.dp ≤ k → b.dp ≤ k → (mix a b).dp ≤ k
  | z, _, _, hb => hb
  | c p n r, b, ha, hb => by
    rw [mix]
    exact mixIn_dp (Nat.le_trans (Nat.le_max_left _ _) ha) (fun b hb => mix_dp r b (Nat.le_trans (Nat.le_max_right _ _) ha) hb) b hb
theorem mixIn_len {p : O} {n : Int} {f : O → O} {k : Nat} (hf : ∀ b, (f b).len ≤ k + b.len) : ∀ b : O, (mixIn p n f b).len ≤ k + 1 + b.len
  | z => by
    rw [mixIn]
    have := hf z
    simp only [len] at this ⊢
    omega
  | c q m s => by
    have h1 := mixIn_len (p := p) (n := n) hf s
    have h2 := hf s
    have h3 := hf (c q m s)
    rw [mixIn]
    simp only [len] at h3 ⊢
    split
    · simp only [len]; omega
    · split <;> simp only [len] <;> omega
theorem mix_len : ∀ a b : O, (mix a b).len ≤ a.len + b.len
  | z, b => by rw [mix]; simp [len]
  | c p n r, b => by
    rw [mix]
    have := mixIn_len (p := p) (n := n) (f := mix r) (k := r.len) (fun b => mix_len r b) b
    simp only [len]
    omega
end O
end AG
/-! AgT: lists of ordinals: counts, differences; the laws' _law_same. -/
namespace AG
open PySem L2

/-- as wpR, not unfolded -/
structure Wp {α : Type} (r : R α) (Q : α → MH → Prop) (E : Nat → MH → Prop) : Prop where
  out : wpR r Q E
/-! ### what is in one and not in the other -/
def wo (L M : List O) : List O := M.foldl (fun r a => r.erase a) L
theorem count_wo : ∀ (M L : List O) (x : O), (wo L M).count x = L.count x - M.count x
  | [], L, x => by simp [wo]
  | m :: M, L, x => by
    show (wo (L.erase m) M).count x = _
    rw [count_wo M (L.erase m) x, List.count_erase, List.count_cons]
    omega
theorem mem_wo {L M : List O} {x : O} : x ∈ wo L M ↔ M.count x < L.count x := by
  rw [← List.count_pos_iff, count_wo]
  omega
theorem wo_sub {L M : List O} {x : O} (h : x ∈ wo L M) : x ∈ L := by
  have := mem_wo.mp h
  exact List.count_pos_iff.mp (by omega)

theorem wo_len : ∀ (L M : List O), (wo L M).length ≤ L.length
  | L, [] => Nat.le_refl _
  | L, m :: M => Nat.le_trans (wo_len (L.erase m) M) (List.length_erase_le ..)
/-! ### data that _law_same takes -/
def D.okN : Nat → D → Bool
  | _, .ref _ => false
  | _, .scr _ => false
  | 0, .tup _ => false
  | 0, .lst _ => false
  | n + 1, .tup xs => decide (xs.length ≤ 16777216) && xs.all (D.okN n)
  | n + 1, .lst xs => decide (xs.length ≤ 16777216) && xs.all (D.okN n)
  | _, _ => true
theorem okN_sm : ∀ {n : Nat} {d : D}, D.okN n d = true → D.sm n d = true
  | _, .non, _ => by simp [D.sm]
  | _, .bl _, _ => by simp [D.sm]
  | _, .int _, _ => by simp [D.sm]
  | _, .str _, _ => by simp [D.sm]
  | n, .ref _, h => by cases n <;> simp [D.okN] at h
  | n, .scr _, h => by cases n <;> simp [D.okN] at h
  | 0, .tup _, h => by simp [D.okN] at h
  | 0, .lst _, h => by simp [D.okN] at h
  | n + 1, .tup xs, h => by
    simp only [D.okN, Bool.and_eq_true, List.all_eq_true, D.sm] at h ⊢
    exact fun x hx => okN_sm (h.2 x hx)
  | n + 1, .lst xs, h => by
    simp only [D.okN, Bool.and_eq_true, List.all_eq_true, D.sm] at h ⊢
    exact fun x hx => okN_sm (h.2 x hx)
theorem sm_up : ∀ {n : Nat} {d : D}, D.sm n d = true → D.sm (n + 1) d = true
  | _, .non, _ => by simp [D.sm]
  | _, .bl _, _ => by simp [D.sm]
  | _, .int _, _ => by simp [D.sm]
  | _, .str _, _ => by simp [D.sm]
  | n, .ref _, h => by cases n <;> simp [D.sm] at h
  | n, .scr _, h => by cases n <;> simp [D.sm] at h
  | 0, .tup _, h => by simp [D.sm] at h
  | 0, .lst _, h => by simp [D.sm] at h
  | n + 1, .tup xs, h => by
    simp only [List.all_eq_true, D.sm] at h ⊢
    exact fun x hx => sm_up (h x hx)
  | n + 1, .lst xs, h => by
    simp only [List.all_eq_true, D.sm] at h ⊢
    exact fun x hx => sm_up (h x hx)
theorem sm_le {n m : Nat} {d : D} (hn : n ≤ m) (h : D.sm n d = true) : D.sm m d = true := by
  induction hn with
  | refl => exact h
  | step _ ih => exact sm_up ih
namespace O
/-- the greatest length in it -/
def mx : O → Nat
  | z => 0
  | c p _ r => max p.mx (max (r.len + 1) r.mx)
theorem len_mx : ∀ o : O, o.len ≤ o.mx
  | z => Nat.le_refl _
  | c p n r => Nat.le_trans (Nat.le_max_left _ _) (Nat.le_max_right _ _)
/-- every place keeps P -/
def allP (P : O → Prop) : O → Prop
  | z => True
  | c p _ r => P p ∧ allP P r
theorem allP_mixIn {P : O → Prop} {p : O} {n : Int} {f : O → O} (hp : P p) (hf : ∀ b, allP P b → allP P (f b)) : ∀ b, allP P b → allP P (mixIn p n f b)
  | z, _ => ⟨hp, hf z trivial⟩
  | c q m s, h => by
    rw [mixIn]
    split
    · exact ⟨h.1, allP_mixIn hp hf s h.2⟩
    · split
      · exact ⟨hp, hf s h.2⟩
      · exact ⟨hp, hf _ h⟩
theorem allP_mix {P : O → Prop} : ∀ a b, allP P a → allP P b → allP P (mix a b)
  | z, _, _, hb => hb
  | c p n r, b, ha, hb => by
    rw [mix]
    exact allP_mixIn ha.1 (fun b hb => allP_mix r b ha.2 hb) b hb
theorem mx_of {k : Nat} : ∀ {o : O}, o.len ≤ k → allP (fun p => p.mx ≤ k) o → o.mx ≤ k
  | z, _, _ => Nat.zero_le _
  | c p n r, hl, h => Nat.max_le.mpr ⟨h.1, Nat.max_le.mpr ⟨hl, mx_of (Nat.le_of_succ_le hl) h.2⟩⟩
theorem of_mx {k : Nat} : ∀ {o : O}, o.mx ≤ k → allP (fun p => p.mx ≤ k) o
  | z, _ => trivial
  | c p n r, h => ⟨Nat.le_trans (Nat.le_max_left _ _) h, of_mx (Nat.le_trans (Nat.le_trans (Nat.le_max_right _ _) (Nat.le_max_right _ _)) h)⟩
theorem its_ok : ∀ (o : O) (n : Nat), 2 * o.dp ≤ n → o.mx ≤ 16777216 → o.its.all (D.okN n) = true
  | z, _, _, _ => rfl
  | c p k r, n, h, hm => by
    have h1 : 2 * (p.dp + 1) ≤ n := Nat.le_trans (Nat.mul_le_mul_left 2 (Nat.le_max_left _ _)) h
    have h2 : 2 * r.dp ≤ n := Nat.le_trans (Nat.mul_le_mul_left 2 (Nat.le_max_right _ _)) h
    have m1 : p.mx ≤ 16777216 := Nat.le_trans (Nat.le_max_left _ _) hm
    have m2 : r.mx ≤ 16777216 := Nat.le_trans (Nat.le_trans (Nat.le_max_right _ _) (Nat.le_max_right _ _)) hm
    obtain ⟨m, rfl⟩ : ∃ m, n = m + 2 := ⟨n - 2, by omega⟩
    have a := its_ok p m (by omega) m1
    have b := its_ok r (m + 2) h2 m2
    have l := len_mx p
    have l' : p.its.length ≤ 16777216 := by rw [its_len]; omega
    simp [its, List.all_cons, D.okN, a, b, l']
theorem okD {o : O} (h : o.dp ≤ 29) (hm : o.mx ≤ 16777216) : D.okN 60 o.enc = true := by
  have a := its_ok o 59 (by omega) hm
  have l := len_mx o
  have l' : o.its.length ≤ 16777216 := by rw [its_len]; omega
  simp [enc, D.okN, a, l']
end O

/-! ### _law_same of the laws k51 to k56 -/
def e__law_same_1 (self__law_same : LOp) : AG.Env → M D := mCallN 2 self__law_same (mCons (mBin opIx (mVar 0) (mVar 2)) (mCons (mBin opIx (mVar 1) (mVar 2)) mNil))
def e__law_same_2 (self__law_same : LOp) : AG.Env → M D := mAndV (mBin (opIn id) (mVar 3) (mVar 1)) (mCallN 2 self__law_same (mCons (mBin opIx (mVar 0) (mVar 3)) (mCons (mBin opIx (mVar 1) (mVar 3)) mNil)))
def m__law_same (self__law_same : LOp) : AG.Env → M Fl := mSeq (mIf (mOrT (mAndT (mTruth (mIsi PyData.isTuple (mVar 0))) (mTruth (mIsi PyData.isTuple (mVar 1)))) (mAndT (mTruth (mIsi PyData.isList (mVar 0))) (mTruth (mIsi PyData.isList (mVar 1))))) (mRet (mAndV (mBin opEq (mCall fLen (mCons (mVar 0) mNil)) (mCall fLen (mCons (mVar 1) mNil))) (mCall fAll (mCons (mFrz (mLc (mRng1 (mCall fLen (mCons (mVar 0) mNil))) (tgName 2) mYes (e__law_same_1 self__law_same) [2])) mNil)))) mNx) (mSeq (mIf (mAndT (mTruth (mIsi PyData.isDict (mVar 0))) (mTruth (mIsi PyData.isDict (mVar 1)))) (mRet (mAndV (mBin opEq (mCall fLen (mCons (mVar 0) mNil)) (mCall fLen (mCons (mVar 1) mNil))) (mCall fAll (mCons (mFrz (mLc (mItems (mVar 0)) (tgName 3) mYes (e__law_same_2 self__law_same) [3])) mNil)))) mNx) (mSeq (mIf (mOrT (mAndT (mTruth (mIsi PyData.isStr (mVar 0))) (mTruth (mIsi PyData.isStr (mVar 1)))) (mAndT (mTest (mBin (opIs id) (mVar 0) (mC .non))) (mTest (mBin (opIs id) (mVar 1) (mC .non))))) (mRet (mBin opEq (mVar 0) (mVar 1))) mNx) (mSeq (mIf (mOrT (mNotT (mTruth (mIsi PyData.isInt (mVar 0)))) (mNotT (mTruth (mIsi PyData.isInt (mVar 1))))) (mRet (mC (.bl false))) mNx) (mRet (mAndV (mBin opEq (mVar 0) (mVar 1)) (mBin opEq (mIsi PyData.isBool (mVar 0)) (mIsi PyData.isBool (mVar 1))))))))
def f__law_same : LOp := recF (fun self => mFn 4 (m__law_same self)) 70
section
variable {h : MH}
@[simp] theorem op_isN {d : D} : opIs id d .non h = .ok (.bl (match d with | .non => true | _ => false)) h := by cases d <;> rfl
@[simp] theorem op_eqB {x y : Bool} : opEq (.bl x) (.bl y) h = .ok (.bl (x == y)) h := by cases x <;> cases y <;> rfl
theorem op_eqS {d : D} (hd : D.sm 60 d = true) (hr : D.eqv d d = true) : opEq d d h = .ok (.bl true) h := by
  have e : opEq d d h = .ok (.bl (D.eqv d d)) h := by
    unfold opEq
    split
    · simp [D.eqv, D.toPy, PyData.eqv]
    · rw [hd]
      rfl
  rw [e, hr]
theorem at_nat {xs : List D} {k : Nat} (hk : k < xs.length) : atI xs (k : Int) = some xs[k] := L2.atI_nat (List.getElem?_eq_getElem hk)
theorem same_all {self : LOp} {xs : List D} {X : D} (hX : X = .tup xs ∨ X = .lst xs) (hl : xs.length ≤ 16777216) (ih : ∀ x ∈ xs, self [x, x] h = .ok (.bl true) h) (sl : Slot) :
    compF (tgName 2) mYes (e__law_same_1 self) [.v X, .v X, .no, sl] (rngD 0 xs.length) h = .ok ((List.range xs.length).map fun _ => D.bl true) h := by
  rw [rngD_def]
  refine compF_map (f := fun i : Nat => D.int (0 + (i : Int))) (g := fun _ => D.bl true) fun k hk => ?_
  have hk : k < xs.length := List.mem_range.mp hk
  refine ⟨_, rfl, ?_⟩
  have hi : atI xs (k : Int) = some xs[k] := at_nat hk
  have hs := ih xs[k] (List.getElem_mem hk)
  rcases hX with rfl | rfl
  · simp [e__law_same_1, hi, hs]
  · simp [e__law_same_1, hi, hs]
theorem fAll_yes {α : Type} {xs : List α} : fAll [.lst (xs.map fun _ => D.bl true)] h = .ok (.bl true) h := by
  rw [fAll_map]
  simp
theorem same_non {self : LOp} : mFn 4 (m__law_same self) [.non, .non] h = .ok (.bl true) h := by
  have e := op_eqS (h := h) (d := .non) (by simp [D.sm]) (by simp [D.eqv, D.toPy, PyData.eqv])
  simp [m__law_same, D.sm, D.toPy, PyData.isTuple, PyData.isList, PyData.isDict, PyData.isStr, PyData.isInt, PyData.isBool, e]
theorem same_bl' {self : LOp} {b : Bool} : mFn 4 (m__law_same self) [.bl b, .bl b] h = .ok (.bl true) h := by
  simp [m__law_same, D.sm, D.toPy, PyData.isTuple, PyData.isList, PyData.isDict, PyData.isStr, PyData.isInt, PyData.isBool]
theorem same_int' {self : LOp} {i : Int} : mFn 4 (m__law_same self) [.int i, .int i] h = .ok (.bl true) h := by
  simp [m__law_same, D.sm, D.toPy, PyData.isTuple, PyData.isList, PyData.isDict, PyData.isStr, PyData.isInt, PyData.isBool]
theorem same_str' {self : LOp} {x : Str} : mFn 4 (m__law_same self) [.str x, .str x] h = .ok (.bl true) h := by
  have e := op_eqS (h := h) (d := .str x) (by simp [D.sm]) (by simp [D.eqv, D.toPy, PyData.eqv])
  simp [m__law_same, D.sm, D.toPy, PyData.isTuple, PyData.isList, PyData.isDict, PyData.isStr, PyData.isInt, PyData.isBool, e]
theorem same_tup {self : LOp} {xs : List D} (sm : D.sm 60 (.tup xs) = true) (hl : xs.length ≤ 16777216) (ih : ∀ x ∈ xs, self [x, x] h = .ok (.bl true) h) : mFn 4 (m__law_same self) [.tup xs, .tup xs] h = .ok (.bl true) h := by
  have c := same_all (h := h) (X := .tup xs) (.inl rfl) hl ih .no
  have r := rng1_nat (h := h) (n := xs.length) (by omega)
  have l : (rngD 0 xs.length).length ≤ 16777216 := by simp [rngD_def, hl]
  simp [m__law_same, sm, D.toPy, PyData.isTuple, r, l, wipeE, c, fAll_yes]
theorem same_lst {self : LOp} {xs : List D} (sm : D.sm 60 (.lst xs) = true) (hl : xs.length ≤ 16777216) (ih : ∀ x ∈ xs, self [x, x] h = .ok (.bl true) h) : mFn 4 (m__law_same self) [.lst xs, .lst xs] h = .ok (.bl true) h := by
  have c := same_all (h := h) (X := .lst xs) (.inr rfl) hl ih .no
  have r := rng1_nat (h := h) (n := xs.length) (by omega)
  have l : (rngD 0 xs.length).length ≤ 16777216 := by simp [rngD_def, hl]
  simp [m__law_same, sm, D.toPy, PyData.isTuple, PyData.isList, r, l, wipeE, c, fAll_yes]
theorem same_step {self : LOp} {n : Nat} {d : D} (hn : n ≤ 60) (hd : D.okN n d = true) (ih : ∀ (m : Nat) (x : D), m < n → D.okN m x = true → self [x, x] h = .ok (.bl true) h) : mFn 4 (m__law_same self) [d, d] h = .ok (.bl true) h := by
  have sm := sm_le hn (okN_sm hd)
  cases d with
  | non => exact same_non
  | bl b => exact same_bl'
  | int i => exact same_int'
  | str x => exact same_str'
  | ref m => cases n <;> simp [D.okN] at hd
  | scr m => cases n <;> simp [D.okN] at hd
  | tup xs =>
    cases n with
    | zero => simp [D.okN] at hd
    | succ n =>
      simp only [D.okN, Bool.and_eq_true, decide_eq_true_eq, List.all_eq_true] at hd
      exact same_tup sm hd.1 fun x hx => ih n x (Nat.lt_succ_self n) (hd.2 x hx)
  | lst xs =>
    cases n with
    | zero => simp [D.okN] at hd
    | succ n =>
      simp only [D.okN, Bool.and_eq_true, decide_eq_true_eq, List.all_eq_true] at hd
      exact same_lst sm hd.1 fun x hx => ih n x (Nat.lt_succ_self n) (hd.2 x hx)
theorem same_refl (k : Nat) : ∀ (n : Nat) (d : D), n ≤ 60 → D.okN n d = true → n < k → recF (fun self => mFn 4 (m__law_same self)) k [d, d] h = .ok (.bl true) h := by
  induction k with
  | zero => exact fun n d _ _ hk => absurd hk (Nat.not_lt_zero _)
  | succ k ih =>
    intro n d hn hd hk
    show mFn 4 (m__law_same (recF (fun self => mFn 4 (m__law_same self)) k)) [d, d] h = _
    exact same_step hn hd fun m x hm hx => ih m x (by omega) hx (by omega)
theorem same_ok {d : D} (hd : D.okN 60 d = true) : f__law_same [d, d] h = .ok (.bl true) h := same_refl 70 60 d (Nat.le_refl _) hd (by decide)
theorem same_int {i : Int} : f__law_same [.int i, .int i] h = .ok (.bl true) h := same_ok rfl
theorem same_bl {i : Bool} : f__law_same [.bl i, .bl i] h = .ok (.bl true) h := same_ok rfl
end
end AG
/-! AgU: exceptions. -/
namespace AG
open PySem L2

section
variable {X : Cx} {C : Addr} {bmB : List Value} {B newId initId : String} {x : Str} {p pos : Pos}
/-- X() -/
theorem pmk_own0 (F : ExcBaseFacts B newId initId bmB) (q : PySem.W.excIn X.K C bmB newId = true) (gC : X.mg x = some (.ref C))
    (kC : PySem.W.keepIn X.K (.ref C) = true) (r : Raises X (.ref C)) (hg : Gl X x) (hdb : (x == ("__debug__" : Str)) = false := by decide) :
    PMk X (.Call (.Name x p) [] [] pos) (fun σ H Q => Q (.ref C) none H) := by
  intro pins s σ H Q I h
  refine wpAny_Call_Name_kw (ld_glob I hg gC ?_ hdb)
  refine PySem.W.callWith_K0 I.kIn kC ?_
  obtain ⟨bm, N, nm, qn, bs, hdct, sn, sub, ab, col, dd, k0, k1, k2, k3, k5, mN, hC, hN, hni, T⟩ := exc_obj I.kIn q
  refine wpAny_call_exc_subT F T hC hN hni (fun h' e hm => ?_) (by show 0 ≤ sizeLine; rw [sizeLine_eq]; omega)
  exact mk_of I hm r h (I.hok.gone hm.new)
end
theorem FnM.alias {P : Program} {pw : World} {K : PySem.W.Frag} {mg : Str → Option Value} {base : Heap} {ca : CA} {k n : Nat} {x y : Str} {f : LOp} (F : FnM P pw K mg base ca k x n f) (h : mg y = mg x) : FnM P pw K mg base ca k y n f := by
  obtain ⟨fa, fd, ps, ok, hm, kp, hb⟩ := F.ex
  exact ⟨fa, fd, ps, ok, h.trans hm, kp, hb⟩
/-- the own exception classes of a text: their addresses, which of them are kinds of which -/
structure EC (K : PySem.W.Frag) (mg : Str → Option Value) (ca : CA) (c : Nat) (x : Str) : Prop where
  ex : ∃ (B newId initId : String) (bmB : List Value), ExcBaseFacts B newId initId bmB ∧ PySem.W.excIn K (ca c) bmB newId = true
  gC : mg x = some (.ref (ca c))
  kC : PySem.W.keepIn K (.ref (ca c)) = true
  b : PySem.W.subIn K (.ref (ca c)) (.type "BaseException") = some true
  t : PySem.W.typeIn K (.ref (ca c)) = some (.type "type")
/-- class h catches class c just if s c h says so -/
def EM (K : PySem.W.Frag) (ca : CA) (h : Nat) (s : Nat → Option Bool) : Prop := ∀ c b, s c = some b → PySem.W.exmOne K (.ref (ca c)) (.ref (ca h)) = some b
theorem exm_mk {K : PySem.W.Frag} {A C : Addr} {v : Bool} (b : PySem.W.subIn K (.ref C) (.type "BaseException") = some true) (i : PySem.W.isClsIn K C = true) (t : PySem.W.typeIn K (.ref C) = some (.type "type")) (s : PySem.W.subIn K (.ref A) (.ref C) = some v) : PySem.W.exmOne K (.ref A) (.ref C) = some v := by
  have i' : (PySem.W.clsIn K C).isSome = true := i
  unfold PySem.W.exmOne PySem.W.kitCls
  simp only [b, i', t, s]
  simp
def mRaise (c : Nat) : Env → M Fl := fun _ h => .exc c h
def R.catch {α : Type} (s : Nat → Option Bool) (k : MH → R α) : R α → R α
  | .ok a h => .ok a h
  | .exc c h => match s c with | some true => k h | some false => .exc c h | none => .bad
  | .bad => .bad
  | .pick n f => .pick n fun i => (f i).catch s k
theorem wpR_catch {α : Type} {s : Nat → Option Bool} {k : MH → R α} {r : R α} {Q : α → MH → Prop} {E : Nat → MH → Prop} (h : wpR (r.catch s k) Q E) :
    wpR r Q (fun c m => ∃ b, s c = some b ∧ (b = true → wpR (k m) Q E) ∧ (b = false → E c m)) := by
  induction r with
  | ok a m => exact h
  | exc c m =>
    unfold R.catch at h
    split at h
    · rename_i e; exact ⟨true, e, fun _ => h, fun z => (by cases z)⟩
    · rename_i e; exact ⟨false, e, fun z => (by cases z), fun _ => h⟩
    · exact h.elim
  | bad => exact h
  | pick n f ih => exact ⟨h.1, fun i hi => ih i (h.2 i hi)⟩
/-- only a return -/
def rtOnly : Fl → M Fl := fun fl => match fl with | .rt d => M.pure (.rt d) | _ => M.bad
def mTry (n : Nat) (s : Nat → Option Bool) (mb ms : Env → M Fl) : Env → M Fl := fun env h => (mb env h).catch s fun h' => (M.bind (ms (List.replicate n Slot.no)) rtOnly h').calm
theorem frOk_no {K : PySem.W.Frag} {w : Wd} {σ : St} {n : Nat} (hn : σ.length = n) : FrOk K w (List.replicate n Slot.no) σ := by
  have no : ∀ (i : Nat) (sl : Slot), (List.replicate n Slot.no)[i]? = some sl → sl = .no := fun i sl h => List.eq_of_mem_replicate (List.mem_of_getElem? h)
  exact ⟨by simp [hn], fun i d h => (by cases no i _ h), fun i ds h => (by cases no i _ h), fun i j ds es a _ h => (by cases no i _ h)⟩
section
variable {X : Cx} {ca : CA} {W : WX} {n : Nat} {x : Str} {c : Nat} {p pos cpos np pos' : Pos} {mb ms : Env → M Fl} {body suite : List Stmt} {b₀ : Stmt} {s : Nat → Option Bool}
theorem ms_raise (E : EC X.K X.mg ca c x) (hc : X.calm = true) (tk : Takes X W) (hg : Gl X x := by rfl) (hdb : (x == ("__debug__" : Str)) = false := by decide) : MS X ca W n (.Raise (some (.Call (.Name x p) [] [] cpos)) none pos) (mRaise c) := by
  obtain ⟨B, newId, initId, bmB, F, q⟩ := E.ex
  exact PS.mono (ps_raise hc tk (pmk_own0 F q E.gC E.kC (raises_own E.b E.t) hg hdb)) fun D' σ H h => by
    obtain ⟨w0, w, mh, env, rfl, hw, sr, hp⟩ := h
    exact hp w σ sr.ext hw sr.ln
theorem ms_try (E : EC X.K X.mg ca c x) (M : EM X.K ca c s) (hs : X.stack = X.env :: X.outer) (hf : X.env.frame = some X.env.locals) (tk : Takes X W)
    (hb : ∀ (W' : WX) (pn : List (Addr × Obj)) (xe : Value → Shared → Prop), Takes (X.tr pn xe) W' → PassesOwn (model X.prog X.w) X.A X.env xe → MSs (X.tr pn xe) ca W' n body mb)
    (hsu : ∀ (a : Addr) (oe : Obj) (pn : List (Addr × Obj)), MSs (X.suite a ((a, oe) :: pn)) ca W0 n (b₀ :: suite) ms) (hg : Gl X x := by rfl) (hdb : (x == ("__debug__" : Str)) = false := by decide) :
    MS X ca W n (.Try body [.ExceptHandler (some (.Name x np)) none (b₀ :: suite) pos'] [] [] pos) (mTry n s mb ms) :=
  PS.mono (ps_try_only (tb := fun W' => denS X.K ca W' n mb) (ts := fun _ _ _ => denS X.K ca W0 n ms) hs hf ⟨hg, hdb, .inl E.gC⟩ tk (fun W' pn xe tk' po => hb W' pn xe tk' po) (fun a oe cls d pn _ _ => hsu a oe pn)) fun D' σ H h => by
    obtain ⟨w0, w, mh, env, rfl, hw, sr, hp⟩ := h
    refine ⟨w0, w, mh, env, rfl, hw, sr, wpR_mono (wpR_catch hp) (fun _ _ z => z) fun cl mh' z w1 σ1 x1 hw1 l1 => ?_⟩
    obtain ⟨b, e, z1, z2⟩ := z
    refine ⟨b, M cl b e, fun hb a ha => ?_, fun hb => z2 hb w1 σ1 x1 hw1 l1⟩
    have z3 := wpR_bind.mp (wpR_calm (E' := fun _ _ => False) (z1 hb))
    refine ⟨w0, w1, mh', List.replicate n .no, rfl, hw1, ⟨x1, frOk_no l1, l1, fun i ds a h => ?_⟩, wpR_mono z3 (fun fl m2 q => ?_) fun _ _ q => q.elim⟩
    · cases List.eq_of_mem_replicate (List.mem_of_getElem? h)
    · cases fl with
      | rt d => exact q
      | nx e => exact q.elim
      | bk e => exact q.elim
      | ct e => exact q.elim
end
end AG
/-! AgV: reversed, enumerate, zip; more operators. -/
namespace AG
open PySem L2

/-- where a datum's items stand -/
def SeqV (K : PySem.W.Frag) (w : Wd) (a : Addr) (xs : List V) : Prop := ∀ w2 ca mh, Grow w w2 → WOk K ca w2 mh → SqL K w2.H a xs
section
variable {K : PySem.W.Frag} {ca : CA} {w : Wd}
theorem serves_revL {a : Addr} {xs : List V} {ds : List D} (h : SeqV K w a xs) (r : RpAll K w xs ds) : Serves K ca w (Itv K a xs.length) ds.reverse where
  go := fun w2 mh i g hw hi => by
    have hi : i < xs.length := by rw [r.length]; simpa using hi
    exact ⟨hi, xs, xs[xs.length - 1 - i], h w2 ca mh g hw, List.getElem?_eq_getElem (by omega)⟩
  stop := fun w2 mh i g hw hi => by
    show xs.length ≤ i
    rw [r.length]; simpa using hi
  yld := fun w2 mh i x H' g hw hi ⟨e, q⟩ => by
    subst e
    have hi : i < ds.length := by simpa using hi
    obtain ⟨d, e1, e2⟩ := (r.mono g).getV (q xs (h w2 ca mh g hw))
    refine ⟨d, w2, ?_, rfl, Ext.refl _, hw, e2⟩
    rw [List.getElem?_reverse hi, ← e1, r.length]
theorem serves_revT {a : Addr} {xs : List V} {ds : List D} (h : SqT K w.F a xs) (r : RpAll K w xs ds) : Serves K ca w (RT.ItvT K a xs.length) ds.reverse where
  go := fun w2 mh i g hw hi => by
    have hi : i < xs.length := by rw [r.length]; simpa using hi
    exact ⟨hi, xs, xs[xs.length - 1 - i], sqT_sub hw.sub (sqT_mono g.fz h), List.getElem?_eq_getElem (by omega)⟩
  stop := fun w2 mh i g hw hi => by
    show xs.length ≤ i
    rw [r.length]; simpa using hi
  yld := fun w2 mh i x H' g hw hi ⟨e, q⟩ => by
    subst e
    have hi : i < ds.length := by simpa using hi
    obtain ⟨d, e1, e2⟩ := (r.mono g).getV (q xs (sqT_sub hw.sub (sqT_mono g.fz h)))
    refine ⟨d, w2, ?_, rfl, Ext.refl _, hw, e2⟩
    rw [List.getElem?_reverse hi, ← e1, r.length]
def pairsD (xs : List D) : List D := (List.range xs.length).map fun i => .tup [.int (i : Nat), xs.getD i .non]
theorem pairsD_at {xs : List D} {i : Nat} {d : D} (h : xs[i]? = some d) : (pairsD xs)[i]? = some (.tup [.int (i : Nat), d]) := by
  have hi := (List.getElem?_eq_some_iff.mp h).1
  unfold pairsD
  rw [List.getElem?_map, List.getElem?_range hi]
  simp [List.getD, h]
theorem serves_enum {a : Addr} {xs : List V} {ds : List D} (h : SeqV K w a xs) (r : RpAll K w xs ds) : Serves K ca w (Ite K a) (pairsD ds) where
  go := fun w2 mh i g hw hi => by
    have hi : i < xs.length := by rw [r.length]; simpa [pairsD] using hi
    exact ⟨xs, xs[i], h w2 ca mh g hw, List.getElem?_eq_getElem hi⟩
  stop := fun w2 mh i g hw hi => ⟨xs, h w2 ca mh g hw, by rw [r.length]; simpa [pairsD] using hi⟩
  yld := fun w2 mh i x H' g hw hi ⟨T, y, e, hT, e2, q⟩ => by
    subst e e2
    obtain ⟨d, e1, e2⟩ := (r.mono g).getV (q xs (h w2 ca mh g hw))
    refine ⟨_, w2.frz T (.tup [.int (i : Nat), y]), pairsD_at e1, rfl, Ext.frz hw hT, hw.frz hT, .tup (SqT.of upd_same) ?_⟩
    exact .cons (.int _) (.cons ((Ext.frz hw hT).rp e2) .nil)
def zipD (xs ys : List D) : List D := (xs.zip ys).map fun p => .tup [p.1, p.2]
theorem zipD_at {xs ys : List D} {i : Nat} {d e : D} (h1 : xs[i]? = some d) (h2 : ys[i]? = some e) : (zipD xs ys)[i]? = some (.tup [d, e]) := by
  unfold zipD
  have : (xs.zip ys)[i]? = some (d, e) := List.getElem?_zip_eq_some.mpr ⟨h1, h2⟩
  rw [List.getElem?_map, this]
  rfl
theorem serves_zipL {a b : Addr} {xs ys : List V} {ds es : List D} (h : SeqV K w a xs) (r : RpAll K w xs ds) (h2 : SeqV K w b ys) (r2 : RpAll K w ys es) : Serves K ca w (Itz K a b) (zipD ds es) where
  go := fun w2 mh i g hw hi => by
    have hi : i < ds.length ∧ i < es.length := by simpa [zipD, Nat.lt_min] using hi
    exact ⟨xs, ys, xs[i]'(by rw [r.length]; exact hi.1), ys[i]'(by rw [r2.length]; exact hi.2), h w2 ca mh g hw, h2 w2 ca mh g hw, List.getElem?_eq_getElem _, List.getElem?_eq_getElem _⟩
  stop := fun w2 mh i g hw hi => ⟨xs, ys, h w2 ca mh g hw, h2 w2 ca mh g hw, by
    have hi : min ds.length es.length ≤ i := by simpa [zipD] using hi
    rw [r.length, r2.length]; omega⟩
  yld := fun w2 mh i x H' g hw hi ⟨T, y, z, e, hT, e2, q, q2⟩ => by
    subst e e2
    obtain ⟨d, e1, e2⟩ := (r.mono g).getV (q xs (h w2 ca mh g hw))
    obtain ⟨d', e3, e4⟩ := (r2.mono g).getV (q2 ys (h2 w2 ca mh g hw))
    refine ⟨_, w2.frz T (.tup [y, z]), zipD_at e1 e3, rfl, Ext.frz hw hT, hw.frz hT, .tup (SqT.of upd_same) ?_⟩
    exact .cons ((Ext.frz hw hT).rp e2) (.cons ((Ext.frz hw hT).rp e4) .nil)
theorem serves_zipT {a b : Addr} {xs ys : List V} {ds es : List D} (h : SqT K w.F a xs) (r : RpAll K w xs ds) (h2 : SqT K w.F b ys) (r2 : RpAll K w ys es) : Serves K ca w (RZ.ItzT K a b) (zipD ds es) where
  go := fun w2 mh i g hw hi => by
    have hi : i < ds.length ∧ i < es.length := by simpa [zipD, Nat.lt_min] using hi
    exact ⟨xs, ys, xs[i]'(by rw [r.length]; exact hi.1), ys[i]'(by rw [r2.length]; exact hi.2), sqT_sub hw.sub (sqT_mono g.fz h), sqT_sub hw.sub (sqT_mono g.fz h2), List.getElem?_eq_getElem _, List.getElem?_eq_getElem _⟩
  stop := fun w2 mh i g hw hi => ⟨xs, ys, sqT_sub hw.sub (sqT_mono g.fz h), sqT_sub hw.sub (sqT_mono g.fz h2), by
    have hi : min ds.length es.length ≤ i := by simpa [zipD] using hi
    rw [r.length, r2.length]; omega⟩
  yld := fun w2 mh i x H' g hw hi ⟨T, y, z, e, hT, e2, q, q2⟩ => by
    subst e e2
    obtain ⟨d, e1, e2⟩ := (r.mono g).getV (q xs (sqT_sub hw.sub (sqT_mono g.fz h)))
    obtain ⟨d', e3, e4⟩ := (r2.mono g).getV (q2 ys (sqT_sub hw.sub (sqT_mono g.fz h2)))
    refine ⟨_, w2.frz T (.tup [y, z]), zipD_at e1 e3, rfl, Ext.frz hw hT, hw.frz hT, .tup (SqT.of upd_same) ?_⟩
    exact .cons ((Ext.frz hw hT).rp e2) (.cons ((Ext.frz hw hT).rp e4) .nil)
theorem seqV_lst {a : Addr} {xs : List V} (h : w.L a = some xs) : SeqV K w a xs := fun w2 ca mh g hw => .of (hw.subL _ _ (g.lz _ _ h))
theorem seqV_scr {a : Addr} {xs : List V} (h : SqL K w.F a xs) : SeqV K w a xs := fun w2 ca mh g hw => sqL_mono hw.sub (sqL_mono g.fz h)
end
def revM (d : D) : M (List D) := match d with | .lst xs => M.pure xs.reverse | .tup xs => M.pure xs.reverse | _ => M.bad
def enumM (ds : List D) : M (List D) := match ds with | [.lst xs] => M.pure (pairsD xs) | _ => M.bad
def zipM (ds : List D) : M (List D) := match ds with | [.lst xs, .lst ys] => M.pure (zipD xs ys) | [.tup xs, .tup ys] => M.pure (zipD xs ys) | _ => M.bad
def mRevI (m : Env → M D) : Env → M (List D) := fun env => M.bind (m env) revM
def mEnum (ms : Env → M (List D)) : Env → M (List D) := fun env => M.bind (ms env) enumM
def mZip (ms : Env → M (List D)) : Env → M (List D) := fun env => M.bind (ms env) zipM
section
variable {X : Cx} {ca : CA} {W : WX} {tg e e2 : Expr} {m : Env → M D} {ms : Env → M (List D)} {p pos tpos : Pos} {elts : List Expr} {kk : Nat}
theorem mi_rev (hm : X.mg "reversed" = none) (he : ME X ca W e m) (hg : Gl X "reversed" := by rfl) (hs : starEach [e] X.env = (false, eval e X.env) :: starEach [] X.env := by rfl) : MI X ca W tg (.Call (.Name "reversed" p) [e] [] pos) (mRevI m) :=
  PI.mono (RT.pi_revA hg hm he hs) fun σ H R q => by
    obtain ⟨w, mh, env, rfl, hw, hf, hp⟩ := q
    refine stepG (rep := repV X.K) hw hf hp fun w1 mh1 v1 d1 x1 hw1 hf1 r1 hp1 => ?_
    cases r1 with
    | tup h r => exact ⟨_, _, rfl, .inr ⟨sqT_sub hw1.sub h, PostG.ret hp1 hw1 (serves_revT h r)⟩⟩
    | lst h r => exact ⟨_, _, rfl, .inl ⟨.of (hw1.subL _ _ h), PostG.ret hp1 hw1 (serves_revL (seqV_lst h) r)⟩⟩
    | _ => exact hp1.elim
theorem enum_one {ds : List D} {mh : MH} {Q : List D → MH → Prop} {E : Nat → MH → Prop} (h : wpR (enumM ds mh) Q E) : ∃ xs, ds = [.lst xs] := by
  unfold enumM at h
  split at h
  · exact ⟨_, rfl⟩
  · exact h.elim
theorem mi_enum (hm : X.mg "enumerate" = none) (ha : MA X ca W [e] ms) (hg : Gl X "enumerate" := by rfl) (hs : starEach [e] X.env = [(false, eval e X.env)] := by rfl) : MI X ca W (.Tuple elts kk tpos) (.Call (.Name "enumerate" p) [e] [] pos) (mEnum ms) :=
  PI.mono (pi_enum hg hm ha hs) fun σ H R q => by
    obtain ⟨w, mh, env, rfl, hw, hf, hp⟩ := q
    refine stepG (rep := repA X.K) hw hf hp fun w1 mh1 v1 d1 x1 hw1 hf1 r1 hp1 => ?_
    have r1 : RpAll X.K w1 v1 d1 := r1
    obtain ⟨xs, rfl⟩ := enum_one hp1
    obtain ⟨x, rfl, q⟩ := r1.one
    cases q with
    | lst h r => exact ⟨_, _, rfl, .of (hw1.subL _ _ h), PostG.ret hp1 hw1 (serves_enum (seqV_lst h) r)⟩
theorem zip_two {ds : List D} {mh : MH} {Q : List D → MH → Prop} {E : Nat → MH → Prop} (h : wpR (zipM ds mh) Q E) : ∃ xs ys, ds = [.lst xs, .lst ys] ∨ ds = [.tup xs, .tup ys] := by
  unfold zipM at h
  split at h
  · exact ⟨_, _, .inl rfl⟩
  · exact ⟨_, _, .inr rfl⟩
  · exact h.elim
theorem mi_zip (hm : X.mg "zip" = none) (ha : MA X ca W [e, e2] ms) (hg : Gl X "zip" := by rfl) (hs : starEach [e, e2] X.env = (false, eval e X.env) :: starEach [e2] X.env := by rfl) (hpl : (backTo pos (starEach [e2] X.env)).any (·.1) = false := by rfl) : MI X ca W (.Tuple elts kk tpos) (.Call (.Name "zip" p) [e, e2] [] pos) (mZip ms) :=
  PI.mono (RZ.pi_zipA hg hm ha hs hpl) fun σ H R q => by
    obtain ⟨w, mh, env, rfl, hw, hf, hp⟩ := q
    refine stepG (rep := repA X.K) hw hf hp fun w1 mh1 v1 d1 x1 hw1 hf1 r1 hp1 => ?_
    have r1 : RpAll X.K w1 v1 d1 := r1
    obtain ⟨xs, ys, rfl | rfl⟩ := zip_two hp1
    · obtain ⟨x, y, rfl, q1, q2⟩ := r1.two
      cases q1 with
      | lst h r => cases q2 with
        | lst h2 r2 => exact ⟨_, _, _, _, rfl, .inl ⟨.of (hw1.subL _ _ h), .of (hw1.subL _ _ h2), PostG.ret hp1 hw1 (serves_zipL (seqV_lst h) r (seqV_lst h2) r2)⟩⟩
    · obtain ⟨x, y, rfl, q1, q2⟩ := r1.two
      cases q1 with
      | tup h r => cases q2 with
        | tup h2 r2 => exact ⟨_, _, _, _, rfl, .inr ⟨sqT_sub hw1.sub h, sqT_sub hw1.sub h2, PostG.ret hp1 hw1 (serves_zipT h r h2 r2)⟩⟩
end

/-! ### operators -/
def opPowI : DOp := fun d e => match d, e with | .int i, .int j => if (decide (0 ≤ j) && decide (j ≤ 1000000) && decide (i.natAbs < 18446744073709551616)) = true then M.pure (.int (i ^ j.toNat)) else M.bad | _, _ => M.bad
def opShlI : DOp := fun d e => match d, e with | .int i, .int j => if (decide (0 ≤ j) && decide (j ≤ 1000000) && decide (i.natAbs < 18446744073709551616)) = true then M.pure (.int (i * 2 ^ j.toNat)) else M.bad | _, _ => M.bad
def opShrI : DOp := fun d e => match d, e with | .int i, .int j => if decide (0 ≤ j) = true then M.pure (.int (i / 2 ^ j.toNat)) else M.bad | _, _ => M.bad
def opAndI : DOp := fun d e => match d, e with | .int i, .int j => M.pure (.int (Builtin.bitAnd i j)) | _, _ => M.bad
def opXorI : DOp := fun d e => match d, e with | .int i, .int j => M.pure (.int (Builtin.bitXor i j)) | _, _ => M.bad
theorem cpow_of {i j : Int} (h : (decide (0 ≤ j) && decide (j ≤ 1000000) && decide (i.natAbs < 18446744073709551616)) = true) : CPow i j := by
  simp only [Bool.and_eq_true, decide_eq_true_eq] at h
  exact ⟨h.1.1, h.1.2, by have := h.2; omega⟩
section
variable {X : Cx} {ca : CA} {W : WX} {a b : Expr} {ma mb : Env → M D} {pos : Pos}
theorem me_pow (ha : ME X ca W a ma) (hb : ME X ca W b mb) : ME X ca W (.BinOp a .Pow b pos) (mBin opPowI ma mb) := me_op op_pow (opm_intC (fun _ _ h => cpow_of h) fun _ _ _ _ => .int _) ha hb
theorem me_shl (ha : ME X ca W a ma) (hb : ME X ca W b mb) : ME X ca W (.BinOp a .LShift b pos) (mBin opShlI ma mb) := me_op op_shl (opm_intC (fun _ _ h => cpow_of h) fun _ _ _ _ => .int _) ha hb
theorem me_shr (ha : ME X ca W a ma) (hb : ME X ca W b mb) : ME X ca W (.BinOp a .RShift b pos) (mBin opShrI ma mb) := me_op op_shr (opm_intC (C := fun _ j => 0 ≤ j) (c := fun _ j => decide (0 ≤ j)) (fun _ _ h => of_decide_eq_true h) fun _ _ _ _ => .int _) ha hb
theorem me_band (ha : ME X ca W a ma) (hb : ME X ca W b mb) : ME X ca W (.BinOp a .BitAnd b pos) (mBin opAndI ma mb) := me_op op_and (opm_int fun _ _ _ _ => .int _) ha hb
theorem me_bxor (ha : ME X ca W a ma) (hb : ME X ca W b mb) : ME X ca W (.BinOp a .BitXor b pos) (mBin opXorI ma mb) := me_op op_xor (opm_int fun _ _ _ _ => .int _) ha hb
end
end AG
/-! AgW: chained comparisons, more methods of lists of one's own, more assignments. -/
namespace AG
open PySem L2

/-- a comparison's rule -/
structure CR (X : Cx) (ca : CA) (op : CmpOp) (f : DOp) : Prop where
  ex : ∃ r : R2, OpR X (compareOp op) r ∧ OpM X.K ca r f
def mChain (f g : DOp) (a b c : Env → M D) : Env → M D := fun env => M.bind (a env) fun x => M.bind (b env) fun y => M.bind (f x y) fun z => match z with
  | .bl k => if k = true then M.bind (c env) fun u => g y u else M.pure (.bl false)
  | _ => M.bad
section
variable {X : Cx} {ca : CA} {W : WX} {a b c : Expr} {ma mb mc : Env → M D} {pos : Pos} {k : Nat} {op op' : CmpOp} {f g : DOp}
theorem cr_lt (hr : Room k X.A) : CR X ca .Lt opLt := ⟨_, op_lt2 (hu64 hr), opm_lt⟩
theorem cr_le (hr : Room k X.A) : CR X ca .LtE opLe := ⟨_, op_le2 (hu64 hr), opm_le⟩
theorem cr_gt (hr : Room k X.A) : CR X ca .Gt opGt := ⟨_, op_gt2 (hu64 hr), opm_gt⟩
theorem cr_ge (hr : Room k X.A) : CR X ca .GtE opGe := ⟨_, op_ge2 (hu64 hr), opm_ge⟩
theorem cr_eq (hr : Room k X.A) : CR X ca .Eq opEq := ⟨_, op_eq2 (hu64 hr), opm_eq⟩
theorem cr_ne (hr : Room k X.A) : CR X ca .NotEq opNe := ⟨_, op_ne2 (hu64 hr), opm_ne⟩
theorem chain_read {r r' : R2} (hf : OpM X.K ca r f) (hg : OpM X.K ca r' g) {σ : St} {H : Hp} {Q : VK} (h : denG (repV X.K) X.K ca W (mChain f g ma mb mc) σ H Q) :
    tChain r r' (denG (repV X.K) X.K ca W ma) (denG (repV X.K) X.K ca W mb) (denG (repV X.K) X.K ca W mc) σ H Q := by
  obtain ⟨w, mh, env, rfl, hw, hfr, hp⟩ := h
  refine stepG (rep := repV X.K) hw hfr hp fun w1 mh1 v1 d1 x1 hw1 hf1 r1 hp1 => ?_
  refine stepG (rep := repV X.K) hw1 hf1 hp1 fun w2 mh2 v2 d2 x2 hw2 hf2 r2 hp2 => ?_
  refine hf W σ w2 mh2 v1 v2 d1 d2 _ hw2 (x2.rp r1) r2 (wpR_mono (wpR_bind.mp hp2) (fun z mh' q w' vz xz hw' rz => ?_) fun cl mh q w' xz hw' => q w' xz hw')
  cases rz with
  | bl t =>
    refine ⟨t, rfl, ?_⟩
    cases t with
    | true =>
      simp only [if_true] at q ⊢
      refine stepG (rep := repV X.K) hw' (hf2.ext xz) (PostG.ext (w := w2) q xz) fun w4 mh4 v4 d4 x4 hw4 hf4 r4 hp4 => ?_
      exact hg W σ w4 mh4 v2 v4 d2 d4 Q hw4 (x4.rp (xz.rp r2)) r4 hp4
    | false =>
      simp only [Bool.false_eq_true, if_false] at q ⊢
      exact PostG.ret (PostG.ext (w := w2) q xz) hw' (.bl _)
  | _ => exact q.elim
theorem me_chain (h1 : CR X ca op f) (h2 : CR X ca op' g) (ha : ME X ca W a ma) (hb : ME X ca W b mb) (hc : ME X ca W c mc) (hm : lastMarks [op, op'] [b, c] = false := by with_unfolding_all rfl) :
    ME X ca W (.Compare a [op, op'] [b, c] pos) (mChain f g ma mb mc) := by
  obtain ⟨r, o1, m1⟩ := h1.ex
  obtain ⟨r', o2, m2⟩ := h2.ex
  exact PE.mono (pe_chain o1 o2 ha hb hc hm) fun σ H Q h => chain_read m1 m2 h
theorem mt_chain (h1 : CR X ca op f) (h2 : CR X ca op' g) (ha : ME X ca W a ma) (hb : ME X ca W b mb) (hc : ME X ca W c mc) (hm : lastMarks [op, op'] [b, c] = false := by with_unfolding_all rfl) :
    MT X ca W (.Compare a [op, op'] [b, c] pos) (mTest (mChain f g ma mb mc)) := by
  obtain ⟨r, o1, m1⟩ := h1.ex
  obtain ⟨r', o2, m2⟩ := h2.ex
  exact PT.mono (pt_chain o1 o2 ha hb hc hm) fun σ H Q h => by
    obtain ⟨w, mh, env, rfl, hw, hfr, hp⟩ := h
    refine chain_read (X := X) (W := W) m1 m2 ⟨w, mh, env, rfl, hw, hfr, ?_⟩
    refine wpR_mono (wpR_bind.mp hp) (fun z mh' q w' v x' hw' r' => ?_) fun _ _ q => q
    cases r' with
    | bl t => exact ⟨t, rfl, q w' _ x' hw' rfl⟩
    | _ => exact q.elim
end
def mulS (i j : Int) : Bool := decide (i.natAbs < 18446744073709551616) || decide (j.natAbs < 18446744073709551616)
def augMul : DOp := fun d e => match d, e with | .int i, .int j => if mulS i j = true then M.pure (.int (i * j)) else M.bad | _, _ => M.bad
theorem cmul_of {i j : Int} (h : mulS i j = true) : CMul i j := by
  simp only [mulS, Bool.or_eq_true, decide_eq_true_eq] at h
  rcases h with h | h
  · exact .inl (by omega)
  · exact .inr (by omega)
section
variable {X : Cx} {ca : CA} {W : WX} {n : Nat} {e : Expr} {m : Env → M D} {pos : Pos}
theorem ms_augMul {i : Nat} {x : Str} {pos' : Pos} (he : ME X ca W e m) (hN : X.N.Nodup) (hi : X.N[i]? = some x := by rfl) (hx : Loc X.env.scope x := by first | exact Or.inl rfl | exact Or.inr rfl) (hfn : X.fn x = true ∨ X.env.scope.names.lookup x = some .local := by first | exact .inl rfl | exact .inr rfl) :
    MS X ca W n (.AugAssign (.Name x pos') .Mult e pos) (mAug augMul i m) := ms_aug iop_mul (opm_intC (fun _ _ h => cmul_of h) fun _ _ _ _ => .int _) he hN hi hx hfn
end
theorem RpAll.three {K : PySem.W.Frag} {w : Wd} {xs : List V} {d e f : D} (h : RpAll K w xs [d, e, f]) : ∃ x y z, xs = [x, y, z] ∧ Rp K w x d ∧ Rp K w y e ∧ Rp K w z f := by
  cases h with
  | cons h r =>
    obtain ⟨y, z, rfl, q1, q2⟩ := r.two
    exact ⟨_, _, _, rfl, h, q1, q2⟩
def par3M (i j l : Nat) (env : Env) (ds : List D) : M Fl := match ds with | [a, b, c] => M.pure (.nx (((env.set i (.v a)).set j (.v b)).set l (.v c))) | _ => M.bad
def mPar3 (i j l : Nat) (ms : Env → M (List D)) : Env → M Fl := fun env => M.bind (ms env) (par3M i j l env)
theorem par3_three {i j l : Nat} {env : Env} {ds : List D} {mh : MH} {Q : Fl → MH → Prop} {E : Nat → MH → Prop} (h : wpR (par3M i j l env ds mh) Q E) : ∃ a b c, ds = [a, b, c] := by
  unfold par3M at h
  split at h
  · exact ⟨_, _, _, rfl⟩
  · exact h.elim
theorem ms_par3 {X : Cx} {ca : CA} {W : WX} {n : Nat} {ms : Env → M (List D)} {i j l : Nat} {x y z : Str} {a b c : Expr} {px py pz pt pos : Pos} {kt k2 pt2} (hc : X.calm = true) (ha : MA X ca W [a, b, c] ms) (hN : X.N.Nodup) (hi : X.N[i]? = some x := by rfl) (hj : X.N[j]? = some y := by rfl) (hl : X.N[l]? = some z := by rfl)
    (hij : i ≠ j := by decide) (hil : i ≠ l := by decide) (hjl : j ≠ l := by decide)
    (hx : X.env.scope.names.lookup x = some .local := by rfl) (hy : X.env.scope.names.lookup y = some .local := by rfl) (hz : X.env.scope.names.lookup z = some .local := by rfl)
    (hw : swappedStores [.Tuple [.Name x px, .Name y py, .Name z pz] kt pt] (.Tuple [a, b, c] k2 pt2) X.env = pure (some [x, y, z]) := by rfl)
    (hs : swapsWithSole [.Tuple [.Name x px, .Name y py, .Name z pz] kt pt] (.Tuple [a, b, c] k2 pt2) pos.line X.env = pure false := by rfl) : MS X ca W n (.Assign [.Tuple [.Name x px, .Name y py, .Name z pz] kt pt] (.Tuple [a, b, c] k2 pt2) pos) (mPar3 i j l ms) := PS.mono (ps_par3 hc hN hi hj hl hij hil hjl hx hy hz ha hw hs) fun D' σ H h => by
  obtain ⟨w0, w, mh, env, rfl, hw, s, hp⟩ := h
  refine stepS (rep := repA X.K) hw s hp fun w1 mh1 v d x1 hw1 s1 r1 hp1 => ?_
  have r1 : RpAll X.K w1 v d := r1
  obtain ⟨d1, d2, d3, rfl⟩ := par3_three hp1
  obtain ⟨v1, v2, v3, rfl, q1, q2, q3⟩ := r1.three
  exact ⟨v1, v2, v3, rfl, hp1 w1 _ (((s1.set q1).set q2).set q3) x1.grow hw1⟩
end AG
/-! AgX: names that are not used any more; runs that the kernel works out; three and four defs that call each other. -/
namespace AG
open PySem L2

/-- the slot is not read from here on -/
def mDropB (i : Nat) (m : Env → M Fl) : Env → M Fl := fun env => m (env.set i .no)
section
variable {K : PySem.W.Frag} {w w0 : Wd} {env : Env} {σ : St} {n : Nat}
theorem FrOk.drop (h : FrOk K w env σ) (i : Nat) : FrOk K w (env.set i .no) σ := by
  have sub : ∀ (j : Nat) (s : Slot), s ≠ .no → (env.set i .no)[j]? = some s → env[j]? = some s := fun j s ne e => by
    rw [getElem?_setS] at e
    by_cases ij : i = j
    · rw [if_pos ij] at e
      split at e
      · cases e; exact absurd rfl ne
      · cases e
    · rw [if_neg ij] at e; exact e
  exact ⟨by simp [h.len], fun j d e => h.v j d (sub j _ (by simp) e), fun j ds e => h.own j ds (sub j _ (by simp) e), fun j k ds es a ne e1 e2 => h.sep j k ds es a ne (sub j _ (by simp) e1) (sub k _ (by simp) e2)⟩
theorem SRel.drop (s : SRel K n w0 env σ w) (i : Nat) : SRel K n w0 (env.set i .no) σ w := by
  refine ⟨s.ext, s.fr.drop i, s.ln, fun j ds a e => s.ow j ds a ?_⟩
  rw [getElem?_setS] at e
  by_cases ij : i = j
  · rw [if_pos ij] at e
    split at e <;> cases e
  · rw [if_neg ij] at e; exact e
end
theorem mss_drop {X : Cx} {ca : CA} {W : WX} {n : Nat} {st : List Stmt} {m : Env → M Fl} (i : Nat) (h : MSs X ca W n st m) : MSs X ca W n st (mDropB i m) :=
  PSs.mono h fun D' σ H ⟨w0, w, mh, env, e, hw, s, q⟩ => ⟨w0, w, mh, env.set i .no, e, hw, s.drop i, q⟩

/-- a run worked out: every way ends with a value that p takes, or an exception that e takes -/
def chk {α : Type} (p : α → MH → Bool) (e : Nat → MH → Bool) : R α → Bool
  | .ok a h => p a h
  | .exc c h => e c h
  | .bad => false
  | .pick n k => decide (0 < n) && (List.range n).all fun i => chk p e (k i)
theorem chk_wp {α : Type} {p : α → MH → Bool} {e : Nat → MH → Bool} {Q : α → MH → Prop} {E : Nat → MH → Prop} (hp : ∀ a h, p a h = true → Q a h) (he : ∀ c h, e c h = true → E c h) :
    ∀ {r : R α}, chk p e r = true → wpR r Q E
  | .ok a h, q => hp a h q
  | .exc c h, q => he c h q
  | .bad, q => by cases q
  | .pick n k, q => by
    simp only [chk, Bool.and_eq_true, decide_eq_true_eq, List.all_eq_true, List.mem_range] at q
    exact ⟨q.1, fun i hi => chk_wp hp he (q.2 i hi)⟩
def D.isTrue : D → Bool
  | .bl true => true
  | _ => false
theorem D.isTrue_eq : ∀ {d : D}, d.isTrue = true → d = .bl true
  | .bl true, _ => rfl
  | .bl false, h => by cases h
  | .non, h => by cases h
  | .int _, h => by cases h
  | .str _, h => by cases h
  | .tup _, h => by cases h
  | .lst _, h => by cases h
  | .ref _, h => by cases h
  | .scr _, h => by cases h
/-- every way gives True -/
def chkT (r : R D) : Bool := chk (fun d _ => d.isTrue) (fun _ _ => false) r
theorem chkT_wp {r : R D} (h : chkT r = true) : wpR r (fun d _ => d = .bl true) (fun _ _ => False) :=
  chk_wp (fun _ _ h => D.isTrue_eq h) (fun _ _ h => by cases h) h

section
variable {P : Program} {w : World} {K : PySem.W.Frag} {mg : Str → Option Value} {base : Heap} {ca : CA}
/-- three defs that call each other -/
def recP3 (f g e : LOp → LOp → LOp → LOp) : Nat → LOp × LOp × LOp
  | 0 => (fun _ => M.bad, fun _ => M.bad, fun _ => M.bad)
  | n + 1 => (f (recP3 f g e n).1 (recP3 f g e n).2.1 (recP3 f g e n).2.2, g (recP3 f g e n).1 (recP3 f g e n).2.1 (recP3 f g e n).2.2, e (recP3 f g e n).1 (recP3 f g e n).2.1 (recP3 f g e n).2.2)
theorem fnm_recP3 {x y z : Str} {st su sv : Stmt} {ps qs rs : List Str} {lv : Nat} {f g e : LOp → LOp → LOp → LOp} (D : DefOk K mg x st ps) (D2 : DefOk K mg y su qs) (D3 : DefOk K mg z sv rs)
    (h : ∀ (k : Nat) (a b c : LOp), lv ≤ k → FnM P w K mg base ca k x ps.length a → FnM P w K mg base ca k y qs.length b → FnM P w K mg base ca k z rs.length c → FnM P w K mg base ca (k + 1) x ps.length (f a b c))
    (h2 : ∀ (k : Nat) (a b c : LOp), lv ≤ k → FnM P w K mg base ca k x ps.length a → FnM P w K mg base ca k y qs.length b → FnM P w K mg base ca k z rs.length c → FnM P w K mg base ca (k + 1) y qs.length (g a b c))
    (h3 : ∀ (k : Nat) (a b c : LOp), lv ≤ k → FnM P w K mg base ca k x ps.length a → FnM P w K mg base ca k y qs.length b → FnM P w K mg base ca k z rs.length c → FnM P w K mg base ca (k + 1) z rs.length (e a b c)) :
    ∀ n, FnM P w K mg base ca (lv + n) x ps.length (recP3 f g e n).1 ∧ FnM P w K mg base ca (lv + n) y qs.length (recP3 f g e n).2.1 ∧ FnM P w K mg base ca (lv + n) z rs.length (recP3 f g e n).2.2
  | 0 => ⟨fnm_none D, fnm_none D2, fnm_none D3⟩
  | n + 1 => by
    obtain ⟨a, b, c⟩ := fnm_recP3 D D2 D3 h h2 h3 n
    exact ⟨h (lv + n) _ _ _ (Nat.le_add_right _ _) a b c, h2 (lv + n) _ _ _ (Nat.le_add_right _ _) a b c, h3 (lv + n) _ _ _ (Nat.le_add_right _ _) a b c⟩
end
end AG
/-! AgY: own classes: fields, methods, new instances; fresh lists as objects that others see. -/
namespace AG
open PySem L2

/-- what a class's text says: c its number, flds the names that no class of it has -/
structure CK (K : PySem.W.Frag) (ca : CA) (c : Nat) (flds : List Str) : Prop where
  cls : Cls K (ca c)
  no : ∀ f ∈ flds, NoAttr K (ca c) f
/-- a method of the class c -/
structure MthD (K : PySem.W.Frag) (ca : CA) (c : Nat) (x q : Str) (st : Stmt) (ps : List Str) : Prop where
  ex : ∃ (f : Addr) (fd : FuncData), Fun K x q st f fd ∧ Meth K (ca c) x f ∧ ∀ us : List Value, us.length = ps.length → bindArgs fd ⟨us, []⟩ = pure (ps.zip us)
structure MthM (P : Program) (w : World) (K : PySem.W.Frag) (mg : Str → Option Value) (base : Heap) (ca : CA) (k : Nat) (c : Nat) (x : Str) (n : Nat) (m : LOp) : Prop where
  ex : ∃ (f : Addr) (fd : FuncData) (ps : List Str), FnOk P w K mg base (L2.CX P w) k f fd ps (spM K ca n m) ∧ Meth K (ca c) x f ∧ ∀ us : List Value, us.length = ps.length → bindArgs fd ⟨us, []⟩ = pure (ps.zip us)
/-- a class that is made by a call of its name -/
structure CMk (K : PySem.W.Frag) (mg : Str → Option Value) (ca : CA) (c : Nat) (x : Str) : Prop where
  makes : PySem.W.makesIn K (ca c) = true
  kp : PySem.W.keepIn K (.ref (ca c)) = true
  gC : mg x = some (.ref (ca c))

section
variable {P : Program} {w : World} {K : PySem.W.Frag} {mg : Str → Option Value} {base : Heap} {ca : CA} {c : Nat}
theorem mth_mk {x q : Str} {st : Stmt} {f : Addr} {ps : List Str} {oc : Value} {od an : Option Addr} {osl : Array (Option Value)} {kV doc pm cdv ct : Value} (a : PySem.W.findIn K (.ref (ca c)) x = some (some (.ref f))) (i : PySem.W.isFn K (.ref f) = true)
    (l : K.lookup f = some ⟨oc, od, .func (PySem.W.fnOf x q (defArgs st) (defBody st) (defScope st) .none kV doc pm an cdv ct), osl⟩) (cd : PySem.W.codeIn K cdv q = true) (k : PySem.W.keepIn K (.ref f) = true)
    (hb : ∀ (kV doc pm : Value) (an : Option Addr) (cdv ct : Value) (us : List Value), us.length = ps.length → bindArgs (PySem.W.fnOf x q (defArgs st) (defBody st) (defScope st) .none kV doc pm an cdv ct) ⟨us, []⟩ = pure (ps.zip us)) : MthD K ca c x q st ps :=
  ⟨_, _, fun_mk l cd k, ⟨a, i, k⟩, hb kV doc pm an cdv ct⟩
theorem fn_bodyQ {x q : Str} {st : Stmt} {f : Addr} {fd : FuncData} {N ps : List Str} {k : Nat} (F : Fun K x q st f fd) (S : FnScope N ps (defScope st)) (base : Heap) (mb : Env → M Fl) (hb : BodyOk P w K mg base ca k q st N mb) : FnOk P w K mg base (L2.CX P w) (k + 1) f fd ps (spM K ca ps.length (mFn N.length mb)) := by
  have hpl : ps.length ≤ N.length := by have := congrArg List.length S.pre; rw [List.length_take] at this; omega
  refine F.okX S (fun vs H Q E h => ?_) (fun cdv A outer s H vs Q E hr h => ⟨_, hb f cdv A outer s H E hr, ?_⟩)
  · obtain ⟨_, _, _, _, _, _, h, _⟩ := h
    exact h
  obtain ⟨w0, mh, ds, rfl, hw, r, hl, hp⟩ := h
  refine ⟨w0, w0, mh, _, rfl, hw, ⟨Ext.refl _, start_fr (N := N) r, by simp [L2.start]; omega, fun i es a h1 => ?_⟩, ?_⟩
  · rcases List.mem_append.mp (List.mem_of_getElem? h1) with q | q
    · obtain ⟨d, _, e⟩ := List.mem_map.mp q
      cases e
    · have := List.eq_of_mem_replicate q
      cases this
  · refine wpR_mono (wpR_bind.mp hp) (fun fl mh' z => ?_) fun cl mh' z w1 σ1 x1 hw1 _ => z w1 x1 hw1
    cases fl with
    | nx e => exact fun w1 σ1 s1 _ hw1 => z w1 .non s1.ext hw1 .non
    | rt d => exact fun w1 v x1 hw1 rr => z w1 v x1 hw1 rr
    | bk e => exact z.elim
    | ct e => exact z.elim
theorem mthm_mk {x q : Str} {st : Stmt} {N ps : List Str} {k : Nat} {mb : Env → M Fl} (D : MthD K ca c x q st ps) (S : FnScope N ps (defScope st)) (hb : BodyOk P w K mg base ca k q st N mb) : MthM P w K mg base ca (k + 1) c x ps.length (mFn N.length mb) := by
  obtain ⟨f, fd, F, hm, hbd⟩ := D.ex
  exact ⟨f, fd, ps, fn_bodyQ F S base mb hb, hm, hbd⟩
theorem MthM.up {j k : Nat} {x : Str} {n : Nat} {m : LOp} (F : MthM P w K mg base ca j c x n m) (h : j ≤ k) : MthM P w K mg base ca k c x n m := by
  obtain ⟨f, fd, ps, ok, r⟩ := F.ex
  exact ⟨f, fd, ps, ok.mono h, r⟩
theorem mthm_none {x q : Str} {st : Stmt} {ps : List Str} {k : Nat} (D : MthD K ca c x q st ps) : MthM P w K mg base ca k c x ps.length (fun _ => M.bad) := by
  obtain ⟨f, fd, F, hm, hbd⟩ := D.ex
  have no : ∀ vs H Q E, ¬ spM K ca ps.length (fun _ => M.bad) vs H Q E := fun vs H Q E ⟨_, _, _, _, _, _, _, hp⟩ => hp.elim
  exact ⟨f, fd, ps, ⟨fun vs H Q E h => absurd h (no vs H Q E), fun A outer s H args us vs Q E _ _ _ _ h => absurd h (no vs H Q E)⟩, hm, hbd⟩
theorem mthm_rec {x q : Str} {st : Stmt} {ps : List Str} {lv : Nat} {f : LOp → LOp} (D : MthD K ca c x q st ps)
    (h : ∀ (k : Nat) (g : LOp), lv ≤ k → MthM P w K mg base ca k c x ps.length g → MthM P w K mg base ca (k + 1) c x ps.length (f g)) : ∀ n, MthM P w K mg base ca (lv + n) c x ps.length (recF f n)
  | 0 => mthm_none D
  | n + 1 => h (lv + n) _ (Nat.le_add_right _ _) (mthm_rec D h n)
theorem mthm_recP {x y q r : Str} {c2 : Nat} {st su : Stmt} {ps qs : List Str} {lv : Nat} {f g : LOp → LOp → LOp} (D : MthD K ca c x q st ps) (D2 : MthD K ca c2 y r su qs)
    (h : ∀ (k : Nat) (a b : LOp), lv ≤ k → MthM P w K mg base ca k c x ps.length a → MthM P w K mg base ca k c2 y qs.length b → MthM P w K mg base ca (k + 1) c x ps.length (f a b))
    (h2 : ∀ (k : Nat) (a b : LOp), lv ≤ k → MthM P w K mg base ca k c x ps.length a → MthM P w K mg base ca k c2 y qs.length b → MthM P w K mg base ca (k + 1) c2 y qs.length (g a b)) :
    ∀ n, MthM P w K mg base ca (lv + n) c x ps.length (recP f g n).1 ∧ MthM P w K mg base ca (lv + n) c2 y qs.length (recP f g n).2
  | 0 => ⟨mthm_none D, mthm_none D2⟩
  | n + 1 => by
    obtain ⟨a, b⟩ := mthm_recP D D2 h h2 n
    exact ⟨h (lv + n) _ _ (Nat.le_add_right _ _) a b, h2 (lv + n) _ _ (Nat.le_add_right _ _) a b⟩
end

/-! ### fields -/
def fldM (c : Nat) (f : Str) : D → M D
  | .ref n => fun h => match h[n]? with
    | some (.inst c' fs) => if c' = c then (match fs.lookup f with | some d => .ok d h | none => .bad) else .bad
    | _ => .bad
  | _ => M.bad
def mFld (c : Nat) (f : Str) (m : Env → M D) : Env → M D := fun env => M.bind (m env) (fldM c f)
def putD (f : Str) (v : D) : List (Str × D) → List (Str × D)
  | [] => [(f, v)]
  | (k, x) :: r => if k = f then (k, v) :: r else (k, x) :: putD f v r
def setFldM (c : Nat) (f : Str) (v : D) : D → M Unit
  | .ref n => fun h => match h[n]? with
    | some (.inst c' fs) => if c' = c ∧ fs.length < 1000 then .ok () (h.set n (.inst c (putD f v fs))) else .bad
    | _ => .bad
  | _ => M.bad
def mSetFld (c : Nat) (f : Str) (o e : Env → M D) : Env → M Fl := fun env => M.bind (e env) fun v => M.bind (o env) fun d => M.bind (setFldM c f v d) fun _ => M.pure (.nx env)
/-- e.f op= v -/
def mAugFld (op : DOp) (c : Nat) (f : Str) (o e : Env → M D) : Env → M Fl := fun env => M.bind (o env) fun d => M.bind (fldM c f d) fun x => M.bind (e env) fun y => M.bind (op x y) fun z => M.bind (setFldM c f z d) fun _ => M.pure (.nx env)

theorem zip_lookup {K : PySem.W.Frag} {w : Wd} {f : Str} : ∀ {fs : List (Str × D)} {us : List V} {d : D}, RpAll K w us (fs.map (·.2)) → fs.lookup f = some d → ∃ v, ((fs.map (·.1)).zip us).lookup f = some v ∧ Rp K w v d
  | [], _, _, _, h => by simp at h
  | (k, x) :: r, us, d, hr, h => by
    cases hr with
    | cons h1 h2 =>
      by_cases e : f = k
      · subst e
        simp only [List.lookup_cons, beq_self_eq_true] at h
        cases h
        exact ⟨_, by simp, h1⟩
      · have e' : (f == k) = false := by simpa using e
        simp only [List.lookup_cons, e'] at h
        obtain ⟨v, q1, q2⟩ := zip_lookup h2 h
        refine ⟨v, ?_, q2⟩
        simp only [List.map_cons, List.zip_cons_cons, List.lookup_cons, e']
        exact q1
theorem zip_none {K : PySem.W.Frag} {w : Wd} {f : Str} : ∀ {fs : List (Str × D)} {us : List V}, RpAll K w us (fs.map (·.2)) → fs.lookup f = none → ((fs.map (·.1)).zip us).lookup f = none
  | [], _, _, h => rfl
  | (k, x) :: r, us, hr, h => by
    cases hr with
    | cons h1 h2 =>
      by_cases e : f = k
      · subst e
        simp at h
      · have e' : (f == k) = false := by simpa using e
        simp only [List.lookup_cons, e'] at h
        simp only [List.map_cons, List.zip_cons_cons, List.lookup_cons, e']
        exact zip_none h2 h
theorem zip_put {K : PySem.W.Frag} {w : Wd} {f : Str} {v : V} {d : D} (hv : Rp K w v d) : ∀ {fs : List (Str × D)} {us : List V}, RpAll K w us (fs.map (·.2)) → ∃ us', putF f v ((fs.map (·.1)).zip us) = ((putD f d fs).map (·.1)).zip us' ∧ RpAll K w us' ((putD f d fs).map (·.2))
  | [], us, hr => by
    cases hr
    exact ⟨[v], rfl, .cons hv .nil⟩
  | (k, x) :: r, us, hr => by
    cases hr with
    | cons h1 h2 =>
      rename_i u us
      by_cases e : k = f
      · refine ⟨v :: us, ?_, ?_⟩
        · simp only [putD, e, if_true, List.map_cons, List.zip_cons_cons]
          rw [show putF f v ((f, u) :: (r.map (·.1)).zip us) = (if f = f then (f, v) :: (r.map (·.1)).zip us else (f, u) :: putF f v ((r.map (·.1)).zip us)) from rfl, if_pos rfl]
        · simp only [putD, e, if_true, List.map_cons]
          exact .cons hv h2
      · obtain ⟨us', q1, q2⟩ := zip_put hv h2
        refine ⟨u :: us', ?_, ?_⟩
        · simp only [putD, e, if_false, List.map_cons, List.zip_cons_cons]
          rw [show putF f v ((k, u) :: (r.map (·.1)).zip us) = (if k = f then (k, v) :: (r.map (·.1)).zip us else (k, u) :: putF f v ((r.map (·.1)).zip us)) from rfl, if_neg e, q1]
        · simp only [putD, e, if_false, List.map_cons]
          exact .cons h1 q2
theorem zip_len {us : List V} {fs : List (Str × D)} {K : PySem.W.Frag} {w : Wd} (h : RpAll K w us (fs.map (·.2))) : ((fs.map (·.1)).zip us).length = fs.length := by
  have := h.length
  simp only [List.length_zip, List.length_map] at this ⊢
  omega
section
variable {X : Cx} {ca : CA} {W : WX} {n c : Nat} {e o : Expr} {f : Str} {flds : List Str} {pos pos' tpos : Pos} {m mo me : Env → M D}
theorem me_fld (C : CK X.K ca c flds) (h : ME X ca W e m) (hf : f ∈ flds := by decide) (hb : attributeBase e f X.env (eval e X.env) = eval e X.env := by rfl) : ME X ca W (.Attribute e f pos) (mFld c f m) :=
  PE.mono (pe_fld h hb) fun σ H Q h => by
    obtain ⟨w, mh, env, rfl, hw, hfr, hp⟩ := h
    refine stepG (rep := repV X.K) hw hfr hp fun w1 mh1 v1 d1 x1 hw1 hf1 r1 hp1 => ?_
    cases r1 with
    | ref h2 =>
      rename_i a k
      obtain ⟨mo', e1, _, _, hob⟩ := hw1.at h2
      cases mo' with
      | inst c' fs =>
        obtain ⟨dx, us, hH, rr⟩ := hob
        by_cases q : c' = c
        · subst q
          cases ql : fs.lookup f with
          | none => simp only [fldM, e1, ql, if_true] at hp1; exact hp1.elim
          | some d =>
            simp only [fldM, e1, ql, if_true] at hp1
            obtain ⟨v, z1, z2⟩ := zip_lookup rr ql
            exact ⟨a, ca c', dx, _, v, rfl, hH, C.cls, C.no f hf, z1, PostG.ret hp1 hw1 z2⟩
        · simp only [fldM, e1, q, if_false] at hp1; exact hp1.elim
      | _ => simp only [fldM, e1] at hp1; exact hp1.elim
    | _ => exact hp1.elim
theorem ms_setFld (C : CK X.K ca c flds) (ho : ME X ca W o mo) (he : ME X ca W e me) (hf : f ∈ flds := by decide) (hs : swapsWith e (some (.Attribute o f pos')) pos.line X.env = pure false := by rfl) : MS X ca W n (.Assign [.Attribute o f pos'] e pos) (mSetFld c f mo me) :=
  PS.mono (ps_fld ho he hs) fun D' σ H h => by
    obtain ⟨w0, w, mh, env, rfl, hw, s, hp⟩ := h
    refine stepS (rep := repV X.K) hw s hp fun w1 mh1 v1 d1 x1 hw1 s1 r1 hp1 => ?_
    refine stepS (rep := repV X.K) hw1 s1 hp1 fun w2 mh2 v2 d2 x2 hw2 s2 r2 hp2 => ?_
    have r1 : Rp X.K w2 v1 d1 := x2.rp r1
    cases r2 with
    | ref h2 =>
      rename_i a k
      obtain ⟨mo', e1, _, _, hob⟩ := hw2.at h2
      cases mo' with
      | inst c' fs =>
        obtain ⟨dx, us, hH, rr⟩ := hob
        by_cases q : c' = c ∧ fs.length < 1000
        · simp only [M.bind, setFldM, e1, q, and_self, if_true, R.bind, M.pure] at hp2
          obtain ⟨q, l⟩ := q
          subst q
          obtain ⟨us', z1, z2⟩ := zip_put (f := f) r1 rr
          refine ⟨a, ca c', dx, _, rfl, hH, C.cls, C.no f hf, by rw [zip_len rr]; exact l, ?_⟩
          rw [z1]
          have hm := List.mem_of_getElem? h2
          have x3 : Ext w2 (w2.put a (.ins (ca c') dx (((putD f d1 fs).map (·.1)).zip us'))) := Ext.obj hm
          exact hp2 _ σ (s2.then x3) (x1.grow.trans (x2.grow.trans x3.grow)) (hw2.obj' h2 ⟨dx, us', upd_same, z2.mono put_grow⟩)
        · simp only [M.bind, setFldM, e1, q, if_false, R.bind] at hp2; exact hp2.elim
      | _ => simp only [M.bind, setFldM, e1, R.bind] at hp2; exact hp2.elim
    | _ => exact hp2.elim
end

/-! ### methods -/
def isC (c : Nat) (x : Str) : D → M Unit
  | .ref n => fun h => match h[n]? with
    | some (.inst c' fs) => if c' = c ∧ fs.lookup x = none then .ok () h else .bad
    | _ => .bad
  | _ => M.bad
def mMeth (c : Nat) (x : Str) (n : Nat) (f : LOp) (mo : Env → M D) (ms : Env → M (List D)) : Env → M D := fun env => M.bind (mo env) fun d => M.bind (isC c x d) fun _ => M.bind (ms env) fun ds => if ds.length + 1 = n then f (d :: ds) else M.bad
def mMake (c : Nat) (n : Nat) (f : LOp) (ms : Env → M (List D)) : Env → M D := fun env => M.bind (ms env) fun ds => if ds.length + 1 = n then (fun h => (f (.ref h.length :: ds) (h ++ [.inst c []])).bind fun r h' => match r with | .non => .ok (.ref h.length) h' | _ => .bad) else M.bad
section
variable {X : Cx} {CX : CXT} {k : Nat} {f C : Addr} {fd : FuncData} {ps : List Str} {sp : Sp} {E : St → XK} {x m : Str} {p pos apos : Pos} {e o : Expr} {es : List Expr} {ta : TE} {t : TA}
def tMethW (C : Addr) (m : Str) (sp : Sp) (E : St → XK) (ta : TE) (t : TA) : TE := fun σ H Q => ta σ H fun x H1 => ∃ a dx fs, x = .ref a ∧ H1 a = some (.ins C dx fs) ∧ fs.lookup m = none ∧
  t σ H1 fun vs H2 => sp (x :: vs) H2 Q (E σ)
def tMakeW (C : Addr) (sp : Sp) (E : St → XK) (t : TA) : TE := fun σ H Q => t σ H fun vs H1 => ∀ x dx, H1 x = none → H1 dx = none → dx ≠ x →
  sp (.ref x :: vs) (upd (upd H1 dx (.own x)) x (.ins C dx [])) (fun v H2 => v = .non ∧ Q (.ref x) H2) (E σ)
theorem pe_methW {pl : Sem Bool} (he : PE X o ta) (c : Cls X.K C) (hm : Meth X.K C m f) (F : FnOk X.prog X.w X.K X.mg X.base CX k f fd ps sp) (hr : Room k X.A) (hb : Binds X.K fd ps []) (hx : ∀ σ, PassesAt CX X σ (E σ)) (ha : PA X (e :: es) t)
    (hst : starEach (e :: es) X.env = (false, eval e X.env) :: starEach es X.env) (hpl : (backTo pos (starEach es X.env)).any (·.1) = false)
    (ht : eval (.Call (.Attribute o m apos) (e :: es) [] pos) X.env = (do
      let ov ← eval o X.env
      standAt apos.atName
      let (f, first) ← holding [ov] (getMethod ov m pl)
      callWith pos f first (backTo pos (starEach (e :: es) X.env)) (backToKw pos (keywordEach [] X.env)))) :
    PE X (.Call (.Attribute o m apos) (e :: es) [] pos) (tMethW C m sp E ta t) := by
  refine ⟨fun pins s σ H Q I h => ?_⟩
  refine PySem.W.methodCall_KW (pl := pl) (thn (he.run pins s σ H _ I h) fun u s1 ⟨x, H1, I1, rx, a, dx, fs, ex, ea, l, q⟩ => ?_) ht
  subst ex
  obtain rfl : u = Value.ref a := rx
  refine getmeth_ok I1 ea c hm l ?_
  refine PySem.W.callWith_K (first := [.ref a]) (h₀ := X.base) I.ok.mod.kin hm.kp (thn (ha.run pos pins s1 σ H1 _ I1 q) fun us s2 ⟨vs, H2, I2, r, q2⟩ => ⟨I2.kIn, ?_⟩) hst hpl
  exact run_fnS (us := .ref a :: us) (vs := .ref a :: vs) F hr hb (hx σ) I2 (.cons rfl r) q2
theorem pe_methW0 {pl : Sem Bool} (he : PE X o ta) (c : Cls X.K C) (hm : Meth X.K C m f) (F : FnOk X.prog X.w X.K X.mg X.base CX k f fd ps sp) (hr : Room k X.A) (hb : Binds X.K fd ps []) (hx : ∀ σ, PassesAt CX X σ (E σ))
    (ht : eval (.Call (.Attribute o m apos) [] [] pos) X.env = (do
      let ov ← eval o X.env
      standAt apos.atName
      let (f, first) ← holding [ov] (getMethod ov m pl)
      callWith pos f first (backTo pos (starEach [] X.env)) (backToKw pos (keywordEach [] X.env)))) :
    PE X (.Call (.Attribute o m apos) [] [] pos) (tMethW C m sp E ta tNil) := by
  refine ⟨fun pins s σ H Q I h => ?_⟩
  refine PySem.W.methodCall_KW (pl := pl) (thn (he.run pins s σ H _ I h) fun u s1 ⟨x, H1, I1, rx, a, dx, fs, ex, ea, l, q⟩ => ?_) ht
  subst ex
  obtain rfl : u = Value.ref a := rx
  refine getmeth_ok I1 ea c hm l ?_
  exact PySem.W.callWith_K0 (first := [.ref a]) I1.kIn hm.kp (run_fnS (us := [.ref a]) (vs := [.ref a]) F hr hb (hx σ) I1 (.cons rfl .nil) q)
theorem run_makeW {pins : List (Addr × Obj)} {σ : St} {H : Hp} {s : Shared} {Q : VK} {us : List Value} {vs : List V} {E : XK} (M : Mk X.K C f) (F : FnOk X.prog X.w X.K X.mg X.base CX k f fd ps sp) (hr : Room (k + 1) X.A) (hb : Binds X.K fd ps [])
    (hx : PassesAt CX X σ E) (I : Inv X pins σ H s) (r : Vals vs us)
    (h : ∀ x dx, H x = none → H dx = none → dx ≠ x → sp (.ref x :: vs) (upd (upd H dx (.own x)) x (.ins C dx [])) (fun v H2 => v = .non ∧ Q (.ref x) H2) E) :
    wpAny (model X.prog X.w) X.A (call (.ref C) us) (EP X pins σ Q) X.xe s := by
  have hq := h (s.heap.objs.size + 1) s.heap.objs.size (I.hok.fresh (Nat.le_succ _)) (I.hok.fresh (Nat.le_refl _)) (Nat.ne_of_lt (Nat.lt_succ_self _))
  have I2 := Inv.made (C := C) I
  have r2 : Vals (V.ref (s.heap.objs.size + 1) :: vs) (Value.ref (s.heap.objs.size + 1) :: us) := .cons rfl r
  have hl : (Value.ref (s.heap.objs.size + 1) :: us ++ []).length = ps.length := by
    have e := r2.length
    rw [F.len _ _ _ _ hq] at e
    rw [List.append_nil]
    exact e.symm
  have b := hb _ (Value.ref (s.heap.objs.size + 1) :: us) I2.kIn hl
  rw [List.append_nil] at b
  refine wpAny_call (make_map (f := f) I.kIn M.makes M.init (beq_iff_eq.mp M.fn) (codeAny_mono (F.run _ X.stack _ _ ⟨Value.ref (s.heap.objs.size + 1) :: us, []⟩ (Value.ref (s.heap.objs.size + 1) :: us) _ _ E (hr.make C us [])
    (I2.env0.make C us []) b r2 hq) fun r s' hq' => ?_))
  cases r with
  | error e => exact hx pins _ _ e s' I2 hq'
  | ok fl =>
    cases fl with
    | ret u =>
      obtain ⟨v, H', I3, rv, ev, q3⟩ := I2.after hq'
      subst ev
      exact ⟨rv, ⟨V.ref (s.heap.objs.size + 1), H', I3, rfl, q3⟩⟩
    | next => exact False.elim hq'
    | brk => exact False.elim hq'
    | cont => exact False.elim hq'
theorem pe_makeW (M : Mk X.K C f) (F : FnOk X.prog X.w X.K X.mg X.base CX k f fd ps sp) (hr : Room (k + 1) X.A) (hg : Gl X x) (hm : X.mg x = some (.ref C)) (hb : Binds X.K fd ps []) (hx : ∀ σ, PassesAt CX X σ (E σ))
    (ha : PA X (e :: es) t) (hdb : (x == ("__debug__" : Str)) = false) (he : starEach (e :: es) X.env = (false, eval e X.env) :: starEach es X.env) (hpl : (backTo pos (starEach es X.env)).any (·.1) = false) :
    PE X (.Call (.Name x p) (e :: es) [] pos) (tMakeW C sp E t) := by
  refine ⟨fun pins s σ H Q I h => ?_⟩
  refine wpAny_Call_Name_kw (ld_glob I hg hm ?_ hdb)
  refine PySem.W.callWith_K (h₀ := X.base) I.ok.mod.kin M.kp (thn (ha.run pos pins s σ H _ I h) fun us s1 ⟨vs, H1, I1, r, q⟩ => ⟨I1.kIn, ?_⟩) he hpl
  exact run_makeW M F hr hb (hx σ) I1 r q
theorem pe_makeW0 (M : Mk X.K C f) (F : FnOk X.prog X.w X.K X.mg X.base CX k f fd ps sp) (hr : Room (k + 1) X.A) (hg : Gl X x) (hm : X.mg x = some (.ref C)) (hb : Binds X.K fd ps []) (hx : ∀ σ, PassesAt CX X σ (E σ))
    (hdb : (x == ("__debug__" : Str)) = false) : PE X (.Call (.Name x p) [] [] pos) (tMakeW C sp E tNil) := by
  refine ⟨fun pins s σ H Q I h => ?_⟩
  refine wpAny_Call_Name_kw (ld_glob I hg hm ?_ hdb)
  exact PySem.W.callWith_K0 I.kIn M.kp (run_makeW (us := []) M F hr hb (hx σ) I .nil h)
end
section
variable {X : Cx} {ca : CA} {W : WX} {n k c : Nat} {e o : Expr} {es : List Expr} {x : Str} {flds : List Str} {p apos pos : Pos} {mo : Env → M D} {ms : Env → M (List D)} {f : LOp}
theorem meth_den (C : CK X.K ca c flds) {fa : Addr} (hm : Meth X.K (ca c) x fa) {σ : St} {H : Hp} {Q : VK} (h : denG (repV X.K) X.K ca W (mMeth c x n f mo ms) σ H Q) :
    tMethW (ca c) x (spM X.K ca n f) (WE W) (denG (repV X.K) X.K ca W mo) (denG (repA X.K) X.K ca W ms) σ H Q := by
  obtain ⟨w, mh, env, rfl, hw, hfr, hp⟩ := h
  refine stepG (rep := repV X.K) hw hfr hp fun w1 mh1 v1 d1 x1 hw1 hf1 r1 hp1 => ?_
  cases r1 with
  | ref h2 =>
    rename_i a j
    obtain ⟨mo', e1, _, _, hob⟩ := hw1.at h2
    cases mo' with
    | inst c' fs =>
      obtain ⟨dx, us, hH, rr⟩ := hob
      by_cases q : c' = c ∧ fs.lookup x = none
      · simp only [M.bind, isC, e1, q, and_self, if_true, R.bind] at hp1
        obtain ⟨q, l⟩ := q
        subst q
        refine ⟨a, dx, _, rfl, hH, zip_none rr l, ?_⟩
        refine stepG (rep := repA X.K) hw1 hf1 hp1 fun w2 mh2 v2 d2 x2 hw2 hf2 r2 hp2 => ?_
        have r2 : RpAll X.K w2 v2 d2 := r2
        by_cases l2 : d2.length + 1 = n
        · simp only [l2, if_true] at hp2
          refine ⟨w2, mh2, .ref j :: d2, rfl, hw2, .cons (.ref (x2.at h2)) r2, ?_, hp2⟩
          rw [List.length_cons, r2.length]; exact l2
        · simp only [l2, if_false] at hp2; exact hp2.elim
      · simp only [M.bind, isC, e1, q, if_false, R.bind] at hp1; exact hp1.elim
    | _ => simp only [M.bind, isC, e1, R.bind] at hp1; exact hp1.elim
  | _ => exact hp1.elim
theorem make_den {σ : St} {H : Hp} {Q : VK} (h : denG (repV X.K) X.K ca W (mMake c n f ms) σ H Q) : tMakeW (ca c) (spM X.K ca n f) (WE W) (denG (repA X.K) X.K ca W ms) σ H Q := by
  obtain ⟨w, mh, env, rfl, hw, hfr, hp⟩ := h
  refine stepG (rep := repA X.K) hw hfr hp fun w1 mh1 v1 d1 x1 hw1 hf1 r1 hp1 => ?_
  have r1 : RpAll X.K w1 v1 d1 := r1
  by_cases l2 : d1.length + 1 = n
  · simp only [l2, if_true] at hp1
    intro a dx ha hdx ne
    have e1 := Ext.put (o := .own a) hw1 hdx
    have hw2 := hw1.put (o := .own a) hdx
    have ha2 : (w1.put dx (.own a)).H a = none := by
      show upd w1.H dx (.own a) a = none
      rw [upd_ne (Ne.symm ne)]; exact ha
    have e2 := Ext.new (o := .ins (ca c) dx []) ha2
    have hw3 : WOk X.K ca ((w1.put dx (.own a)).new a (.ins (ca c) dx [])) (mh1 ++ [.inst c []]) := hw2.new ha2 ⟨dx, [], upd_same, .nil⟩
    have x3 := e1.trans e2
    have hat : ((w1.put dx (.own a)).new a (.ins (ca c) dx [])).ρ[mh1.length]? = some a := by
      show (w1.ρ ++ [a])[mh1.length]? = some a
      rw [← hw1.len]
      simp
    refine ⟨(w1.put dx (.own a)).new a (.ins (ca c) dx []), mh1 ++ [.inst c []], .ref mh1.length :: d1, rfl, hw3, .cons (.ref hat) (x3.rps r1), by rw [List.length_cons, r1.length]; exact l2, ?_⟩
    refine wpR_mono (wpR_bind.mp hp1) (fun d mh' z w' v x' hw' r' => ?_) fun cl mh' z w' x' hw' => z w' (x3.trans x') hw'
    have r' : Rp X.K w' v d := r'
    cases r' with
    | non => exact ⟨rfl, PostG.ret (PostG.ext (w := w1) z (x3.trans x')) hw' (.ref (x'.at hat))⟩
    | _ => exact z.elim
  · simp only [l2, if_false] at hp1; exact hp1.elim
theorem me_meth {pl : Sem Bool} (C : CK X.K ca c flds) (F : MthM X.prog X.w X.K X.mg X.base ca k c x n f) (hr : Room k X.A) (tk : Takes X W) (ho : ME X ca W o mo) (ha : MA X ca W (e :: es) ms)
    (hst : starEach (e :: es) X.env = (false, eval e X.env) :: starEach es X.env := by rfl) (hpl : (backTo pos (starEach es X.env)).any (·.1) = false := by rfl)
    (ht : eval (.Call (.Attribute o x apos) (e :: es) [] pos) X.env = (do
      let ov ← eval o X.env
      standAt apos.atName
      let (f, first) ← holding [ov] (getMethod ov x pl)
      callWith pos f first (backTo pos (starEach (e :: es) X.env)) (backToKw pos (keywordEach [] X.env))) := by rfl) :
    ME X ca W (.Call (.Attribute o x apos) (e :: es) [] pos) (mMeth c x n f mo ms) := by
  obtain ⟨fa, fd, ps, ok, hm, hb⟩ := F.ex
  exact PE.mono (pe_methW ho C.cls hm ok hr (.all hb) (fun σ => passAt tk σ) ha hst hpl ht) fun _ _ _ h => meth_den C hm h
theorem me_meth0 {pl : Sem Bool} (C : CK X.K ca c flds) (F : MthM X.prog X.w X.K X.mg X.base ca k c x n f) (hr : Room k X.A) (tk : Takes X W) (ho : ME X ca W o mo)
    (ht : eval (.Call (.Attribute o x apos) [] [] pos) X.env = (do
      let ov ← eval o X.env
      standAt apos.atName
      let (f, first) ← holding [ov] (getMethod ov x pl)
      callWith pos f first (backTo pos (starEach [] X.env)) (backToKw pos (keywordEach [] X.env))) := by rfl) :
    ME X ca W (.Call (.Attribute o x apos) [] [] pos) (mMeth c x n f mo mNil) := by
  obtain ⟨fa, fd, ps, ok, hm, hb⟩ := F.ex
  refine PE.mono (pe_methW0 ho C.cls hm ok hr (.all hb) (fun σ => passAt tk σ) ht) fun σ H Q h => ?_
  obtain ⟨w, mh, env, rfl, hw, hfr, hp⟩ := meth_den C hm h
  refine ⟨w, mh, env, rfl, hw, hfr, wpR_mono hp (fun d mh' z w' v x' hw' r' => ?_) fun _ _ z => z⟩
  obtain ⟨a, dx, fs, e1, e2, e3, w2, mh2, env2, e4, hw2, hf2, hp2⟩ := z w' v x' hw' r'
  refine ⟨a, dx, fs, e1, e2, e3, ?_⟩
  have := hp2 w2 [] (Ext.refl _) hw2 .nil
  rw [e4] at this
  exact this
theorem me_make (C : CMk X.K X.mg ca c x) (F : MthM X.prog X.w X.K X.mg X.base ca k c "__init__" n f) (hr : Room (k + 1) X.A) (tk : Takes X W) (ha : MA X ca W (e :: es) ms) (hg : Gl X x := by rfl) (hdb : (x == ("__debug__" : Str)) = false := by decide)
    (he : starEach (e :: es) X.env = (false, eval e X.env) :: starEach es X.env := by rfl) (hpl : (backTo pos (starEach es X.env)).any (·.1) = false := by rfl) : ME X ca W (.Call (.Name x p) (e :: es) [] pos) (mMake c n f ms) := by
  obtain ⟨fa, fd, ps, ok, hm, hb⟩ := F.ex
  exact PE.mono (pe_makeW ⟨C.makes, hm.at_, hm.fn, C.kp⟩ ok hr hg C.gC (.all hb) (fun σ => passAt tk σ) ha hdb he hpl) fun _ _ _ h => make_den h
theorem me_make0 (C : CMk X.K X.mg ca c x) (F : MthM X.prog X.w X.K X.mg X.base ca k c "__init__" n f) (hr : Room (k + 1) X.A) (tk : Takes X W) (hg : Gl X x := by rfl) (hdb : (x == ("__debug__" : Str)) = false := by decide) : ME X ca W (.Call (.Name x p) [] [] pos) (mMake c n f mNil) := by
  obtain ⟨fa, fd, ps, ok, hm, hb⟩ := F.ex
  refine PE.mono (pe_makeW0 ⟨C.makes, hm.at_, hm.fn, C.kp⟩ ok hr hg C.gC (.all hb) (fun σ => passAt tk σ) hdb) fun σ H Q h => ?_
  obtain ⟨w, mh, env, e4, hw, hfr, hp⟩ := make_den h
  have := hp w [] (Ext.refl _) hw .nil
  rw [e4] at this
  exact this
end
end AG
/-! AgZ: data compared in the kernel; pieces of runs. -/
namespace AG
open PySem L2

mutual
def D.beq : D → D → Bool
  | .non, .non => true
  | .bl a, .bl b => a == b
  | .int a, .int b => decide (a = b)
  | .str a, .str b => decide (a = b)
  | .tup a, .tup b => D.beqs a b
  | .lst a, .lst b => D.beqs a b
  | .ref a, .ref b => decide (a = b)
  | .scr a, .scr b => decide (a = b)
  | _, _ => false
def D.beqs : List D → List D → Bool
  | [], [] => true
  | a :: as, b :: bs => D.beq a b && D.beqs as bs
  | _, _ => false
end
mutual
theorem D.beq_eq : ∀ {a b : D}, D.beq a b = true → a = b
  | .non, .non, _ => rfl
  | .bl a, .bl b, h => by simp [D.beq] at h; rw [h]
  | .int a, .int b, h => by simp [D.beq] at h; rw [h]
  | .str a, .str b, h => by simp [D.beq] at h; rw [h]
  | .tup a, .tup b, h => by rw [D.beq] at h; rw [D.beqs_eq h]
  | .lst a, .lst b, h => by rw [D.beq] at h; rw [D.beqs_eq h]
  | .ref a, .ref b, h => by simp [D.beq] at h; rw [h]
  | .scr a, .scr b, h => by simp [D.beq] at h; rw [h]
  | .non, .bl _, h | .non, .int _, h | .non, .str _, h | .non, .tup _, h | .non, .lst _, h | .non, .ref _, h | .non, .scr _, h => by simp [D.beq] at h
  | .bl _, .non, h | .bl _, .int _, h | .bl _, .str _, h | .bl _, .tup _, h | .bl _, .lst _, h | .bl _, .ref _, h | .bl _, .scr _, h => by simp [D.beq] at h
  | .int _, .non, h | .int _, .bl _, h | .int _, .str _, h | .int _, .tup _, h | .int _, .lst _, h | .int _, .ref _, h | .int _, .scr _, h => by simp [D.beq] at h
  | .str _, .non, h | .str _, .bl _, h | .str _, .int _, h | .str _, .tup _, h | .str _, .lst _, h | .str _, .ref _, h | .str _, .scr _, h => by simp [D.beq] at h
  | .tup _, .non, h | .tup _, .bl _, h | .tup _, .int _, h | .tup _, .str _, h | .tup _, .lst _, h | .tup _, .ref _, h | .tup _, .scr _, h => by simp [D.beq] at h
  | .lst _, .non, h | .lst _, .bl _, h | .lst _, .int _, h | .lst _, .str _, h | .lst _, .tup _, h | .lst _, .ref _, h | .lst _, .scr _, h => by simp [D.beq] at h
  | .ref _, .non, h | .ref _, .bl _, h | .ref _, .int _, h | .ref _, .str _, h | .ref _, .tup _, h | .ref _, .lst _, h | .ref _, .scr _, h => by simp [D.beq] at h
  | .scr _, .non, h | .scr _, .bl _, h | .scr _, .int _, h | .scr _, .str _, h | .scr _, .tup _, h | .scr _, .lst _, h | .scr _, .ref _, h => by simp [D.beq] at h
theorem D.beqs_eq : ∀ {a b : List D}, D.beqs a b = true → a = b
  | [], [], _ => rfl
  | a :: as, b :: bs, h => by
    rw [D.beqs, Bool.and_eq_true] at h
    rw [D.beq_eq h.1, D.beqs_eq h.2]
  | [], _ :: _, h => by simp [D.beqs] at h
  | _ :: _, [], h => by simp [D.beqs] at h
end
/-- one of some -/
def D.among (d : D) (xs : List D) : Bool := xs.any fun x => D.beq x d
theorem D.among_mem {d : D} {xs : List D} (h : d.among xs = true) : d ∈ xs := by
  obtain ⟨x, hx, e⟩ := List.any_eq_true.mp h
  rw [← D.beq_eq e]; exact hx
/-- the heap is the stream alone -/
def isS : MH → Bool
  | [.stream] => true
  | _ => false
theorem isS_eq : ∀ {h : MH}, isS h = true → h = [.stream]
  | [.stream], _ => rfl
  | [], h => by cases h
  | [.lst _], h => by cases h
  | [.inst _ _], h => by cases h
  | _ :: _ :: _, h => by simp [isS] at h
/-- the slot holds the datum -/
def slotV (e : Env) (i : Nat) (d : D) : Bool := match e[i]? with | some (.v x) => D.beq x d | _ => false
theorem slotV_eq {e : Env} {i : Nat} {d : D} (h : slotV e i d = true) : e[i]? = some (.v d) := by
  unfold slotV at h
  split at h
  · rename_i x q
    rw [q, D.beq_eq h]
  · cases h
/-- the value, where the run is a plain one over the stream alone -/
def R.val : R D → Option D
  | .ok d h => if isS h then some d else none
  | _ => none
theorem R.val_eq : ∀ {r : R D} {d : D}, r.val = some d → r = .ok d [.stream]
  | .ok d h, e, q => by
    simp only [R.val] at q
    split at q
    · rename_i z
      cases q
      rw [isS_eq z]
    · cases q
  | .exc _ _, _, q => by cases q
  | .bad, _, q => by cases q
  | .pick _ _, _, q => by cases q
theorem wp_seq {s t : Env → M Fl} {env : Env} {h : MH} {Q : Fl → MH → Prop} {E : Nat → MH → Prop} (q : wpR (s env h) (fun fl h' => match fl with | .nx e => wpR (t e h') Q E | fl => Q fl h') E) : wpR (mSeq s t env h) Q E := by
  show wpR ((s env h).bind _) Q E
  refine wpR_bind.mpr (wpR_mono q (fun fl h' z => ?_) fun _ _ z => z)
  cases fl <;> exact z
theorem wp_bindv {α β : Type} {r : R α} {f : α → MH → R β} {v : α} {h : MH} {Q : β → MH → Prop} {E : Nat → MH → Prop} (q : wpR r (fun d h' => d = v ∧ h' = h) (fun _ _ => False)) (z : wpR (f v h) Q E) : wpR (r.bind f) Q E :=
  wpR_bind.mpr (wpR_mono q (fun d h' e => by rw [e.1, e.2]; exact z) fun _ _ e => e.elim)
/-- a for loop whose turns end as usual, over the same heap -/
theorem loop_inv {tg : Tgt} {s : Env → M Fl} {h : MH} {I : Env → Prop} : ∀ {xs : List D} {env : Env}, I env → (∀ x ∈ xs, ∀ e, I e → ∃ e1 e2, tg x e = some e1 ∧ s e1 h = .ok (.nx e2) h ∧ I e2) → ∃ e, loopF tg s xs env h = .ok (.nx e) h ∧ I e
  | [], env, hi, _ => ⟨env, rfl, hi⟩
  | x :: xs, env, hi, k => by
    obtain ⟨e1, e2, t1, t2, t3⟩ := k x List.mem_cons_self env hi
    obtain ⟨e, q1, q2⟩ := loop_inv (xs := xs) t3 fun y hy => k y (List.mem_cons_of_mem _ hy)
    exact ⟨e, by rw [loopF_cons t1 t2]; exact q1, q2⟩
end AG
namespace AG
open PySem L2
/-- a statement's run: where it goes on, k is asked; where it returns, it returns True -/
def chkN (k : Env → MH → Bool) (r : R Fl) : Bool := chk (fun fl h => match fl with | .nx e => k e h | .rt d => d.isTrue | _ => false) (fun _ _ => false) r
abbrev QT : Fl → MH → Prop := fun fl _ => fl = .rt (.bl true)
abbrev EF : Nat → MH → Prop := fun _ _ => False
theorem seq_chk {s t : Env → M Fl} {env : Env} {h : MH} {k : Env → MH → Bool} (q : chkN k (s env h) = true) (z : ∀ e h', k e h' = true → wpR (t e h') QT EF) : wpR (mSeq s t env h) QT EF := by
  refine wp_seq (chk_wp (fun fl h' p => ?_) (fun _ _ p => by cases p) q)
  cases fl with
  | nx e => exact z e h' p
  | rt d =>
    have p : d.isTrue = true := p
    show Fl.rt d = .rt (.bl true)
    rw [D.isTrue_eq p]
  | bk e => cases p
  | ct e => cases p
theorem last_chk {s : Env → M Fl} {env : Env} {h : MH} (q : chkN (fun _ _ => false) (s env h) = true) : wpR (s env h) QT EF :=
  chk_wp (fun fl h' p => by
    cases fl with
    | nx e => cases p
    | rt d =>
      have p : d.isTrue = true := p
      show Fl.rt d = .rt (.bl true)
      rw [D.isTrue_eq p]
    | bk e => cases p
    | ct e => cases p) (fun _ _ p => by cases p) q
/-- the law's body returns True -/
theorem fn_true {n : Nat} {s : Env → M Fl} {ds : List D} {h : MH} {env : Env} (he : ds.map Slot.v ++ List.replicate (n - ds.length) Slot.no = env) (q : wpR (s env h) QT EF) : wpR (mFn n s ds h) (fun d _ => d = .bl true) (fun _ _ => False) := by
  subst he
  refine wpR_bind.mpr (wpR_mono q (fun fl h' e => ?_) fun _ _ e => e)
  have e : fl = .rt (.bl true) := e
  subst e
  exact rfl
end AG
namespace AG
open PySem L2
/-! the same, sealed -/
theorem Wp.seq {s t : Env → M Fl} {env : Env} {h : MH} {Q : Fl → MH → Prop} {E : Nat → MH → Prop} (q : Wp (s env h) (fun fl h' => match fl with | .nx e => Wp (t e h') Q E | fl => Q fl h') E) : Wp (mSeq s t env h) Q E :=
  ⟨wp_seq (wpR_mono q.out (fun fl h' z => by cases fl <;> first | exact z.out | exact z) fun _ _ z => z)⟩
theorem Wp.seqE {s t : Env → M Fl} {env e : Env} {h h' : MH} {Q : Fl → MH → Prop} {E : Nat → MH → Prop} (q : s env h = .ok (.nx e) h') (z : Wp (t e h') Q E) : Wp (mSeq s t env h) Q E :=
  Wp.seq (by rw [q]; exact ⟨z⟩)
theorem Wp.seqP {s t : Env → M Fl} {env : Env} {h : MH} {P : Env → MH → Prop} {Q : Fl → MH → Prop} {E : Nat → MH → Prop} (q : Wp (s env h) (fun fl h' => ∃ e, fl = .nx e ∧ P e h') E) (z : ∀ e h', P e h' → Wp (t e h') Q E) : Wp (mSeq s t env h) Q E :=
  Wp.seq ⟨wpR_mono q.out (fun fl h' ⟨e, e1, e2⟩ => by subst e1; exact z e h' e2) fun _ _ z => z⟩
theorem Wp.fn {n : Nat} {s : Env → M Fl} {ds : List D} {h : MH} {env : Env} {Q : D → MH → Prop} {E : Nat → MH → Prop} (he : ds.map Slot.v ++ List.replicate (n - ds.length) Slot.no = env)
    (q : Wp (s env h) (fun fl h' => match fl with | .rt d => Q d h' | .nx _ => Q .non h' | _ => False) E) : Wp (mFn n s ds h) Q E := by
  subst he
  refine ⟨wpR_bind.mpr (wpR_mono q.out (fun fl h' e => ?_) fun _ _ e => e)⟩
  cases fl <;> exact e
theorem Wp.mono {α : Type} {r : R α} {Q Q' : α → MH → Prop} {E E' : Nat → MH → Prop} (q : Wp r Q E) (h : ∀ a m, Q a m → Q' a m) (he : ∀ c m, E c m → E' c m) : Wp r Q' E' := ⟨wpR_mono q.out h he⟩
theorem Wp.bind {α β : Type} {r : R α} {f : α → MH → R β} {Q : β → MH → Prop} {E : Nat → MH → Prop} (q : Wp r (fun a h => Wp (f a h) Q E) E) : Wp (r.bind f) Q E := ⟨wpR_bind.mpr (wpR_mono q.out (fun _ _ z => z.out) fun _ _ z => z)⟩
theorem Wp.bindv {α β : Type} {r : R α} {f : α → MH → R β} {v : α} {h : MH} {Q : β → MH → Prop} {E : Nat → MH → Prop} (q : Wp r (fun d h' => d = v ∧ h' = h) EF) (z : Wp (f v h) Q E) : Wp (r.bind f) Q E :=
  ⟨wp_bindv q.out z.out⟩
theorem Wp.ok {α : Type} {a : α} {h : MH} {Q : α → MH → Prop} {E : Nat → MH → Prop} (q : Q a h) : Wp (.ok a h) Q E := ⟨q⟩
theorem Wp.chk {α : Type} {p : α → MH → Bool} {e : Nat → MH → Bool} {r : R α} {Q : α → MH → Prop} {E : Nat → MH → Prop} (q : AG.chk p e r = true) (hp : ∀ a h, p a h = true → Q a h) (he : ∀ c h, e c h = true → E c h) : Wp r Q E := ⟨chk_wp hp he q⟩
@[simp] theorem ev_drop {i : Nat} {m : Env → M Fl} {env : Env} {h : MH} : mDropB i m env h = m (env.set i .no) h := id rfl
/-- over the stream alone, strictly -/
abbrev QS : Fl → MH → Prop := fun fl h => fl = .rt (.bl true) ∧ h = [.stream]
def chkS (k : Env → Bool) (r : R Fl) : Bool := chk (fun fl h => isS h && (match fl with | .nx e => k e | .rt d => d.isTrue | _ => false)) (fun _ _ => false) r
theorem Wp.seqS {s t : Env → M Fl} {env : Env} {h : MH} {k : Env → Bool} (q : chkS k (s env h) = true) (z : ∀ e, k e = true → Wp (t e [.stream]) QS EF) : Wp (mSeq s t env h) QS EF := by
  refine Wp.seq (Wp.chk q (fun fl h' p => ?_) (fun _ _ p => by cases p))
  rw [Bool.and_eq_true] at p
  rw [isS_eq p.1]
  cases fl with
  | nx e => exact z e p.2
  | rt d => exact ⟨by rw [D.isTrue_eq p.2], rfl⟩
  | bk e => exact absurd p.2 (by simp)
  | ct e => exact absurd p.2 (by simp)
theorem Wp.lastS {s : Env → M Fl} {env : Env} {h : MH} (q : chkS (fun _ => false) (s env h) = true) : Wp (s env h) QS EF := by
  refine Wp.chk q (fun fl h' p => ?_) (fun _ _ p => by cases p)
  rw [Bool.and_eq_true] at p
  rw [isS_eq p.1]
  cases fl with
  | nx e => exact absurd p.2 (by simp)
  | rt d => exact ⟨by rw [D.isTrue_eq p.2], rfl⟩
  | bk e => exact absurd p.2 (by simp)
  | ct e => exact absurd p.2 (by simp)
/-- what the live slots hold -/
def kSame (e0 e : Env) : Bool := decide (e.length = e0.length) && (List.range e0.length).all fun i => match e0[i]? with | some (.v d) => slotV e i d | _ => true
theorem kSame_len {e0 e : Env} (h : kSame e0 e = true) : e.length = e0.length := by
  unfold kSame at h
  rw [Bool.and_eq_true, decide_eq_true_eq] at h
  exact h.1
theorem kSame_at {e0 e : Env} (h : kSame e0 e = true) {i : Nat} {d : D} (hi : e0[i]? = some (.v d)) : e[i]? = some (.v d) := by
  unfold kSame at h
  rw [Bool.and_eq_true, List.all_eq_true] at h
  have := h.2 i (List.mem_range.mpr (List.getElem?_eq_some_iff.mp hi).1)
  rw [hi] at this
  exact slotV_eq this
/-- slots that are not read from here on are dropped -/
def dropL (l : List Nat) (e : Env) : Env := l.foldl (fun e i => e.set i .no) e
theorem dropL_at {l : List Nat} : ∀ {e : Env} {i : Nat}, (dropL l e)[i]? = if i ∈ l ∧ i < e.length then some .no else e[i]? := by
  induction l with
  | nil => intro e i; simp [dropL]
  | cons a l ih =>
    intro e i
    show (dropL l (e.set a .no))[i]? = _
    rw [ih, List.length_set]
    by_cases h1 : i ∈ l
    · by_cases h2 : i < e.length
      · simp [h1, h2]
      · simp [h1, h2, List.getElem?_set]
    · by_cases h2 : i = a
      · subst h2
        by_cases h3 : i < e.length
        · simp [h1, h3, List.getElem?_set]
        · simp [h1, h3, List.getElem?_set]
      · have : ¬ a = i := fun z => h2 z.symm
        simp [h1, h2, List.getElem?_set, this]
/-- all but the slots of e0 are dropped: e0 is left -/
theorem dropL_same {e0 e : Env} {l : List Nat} (h : kSame e0 e = true) (hl : ((List.range e0.length).all fun i => match e0[i]? with | some (.v _) => !l.contains i | some .no => l.contains i | _ => false) = true) : dropL l e = e0 := by
  refine List.ext_getElem? fun i => ?_
  rw [dropL_at]
  by_cases hi : i < e0.length
  · have hx := (List.all_eq_true.mp hl) i (List.mem_range.mpr hi)
    have hl := kSame_len h
    cases q : e0[i]? with
    | none => rw [List.getElem?_eq_none_iff] at q; omega
    | some s =>
      rw [q] at hx
      cases s with
      | no =>
        have hx : l.contains i = true := hx
        have : i ∈ l := by simpa using hx
        rw [if_pos ⟨this, by omega⟩]
      | v d =>
        have hx : (!l.contains i) = true := hx
        have : i ∉ l := by simpa using hx
        rw [if_neg (fun z => this z.1)]
        exact kSame_at h q
      | own _ => cases hx
  · have hl := kSame_len h
    rw [List.getElem?_eq_none (by omega)]
    rw [if_neg (fun z => by omega), List.getElem?_eq_none (by omega)]
end AG
namespace AG
open PySem L2
def mDropL (l : List Nat) (m : Env → M Fl) : Env → M Fl := fun env => m (dropL l env)
@[simp] theorem ev_dropL {l : List Nat} {m : Env → M Fl} {env : Env} {h : MH} : mDropL l m env h = m (dropL l env) h := id rfl
theorem mss_dropL {X : Cx} {ca : CA} {W : WX} {n : Nat} {st : List Stmt} : ∀ {m : Env → M Fl} (l : List Nat), MSs X ca W n st m → MSs X ca W n st (mDropL l m)
  | m, [], h => h
  | m, i :: l, h => mss_drop i (mss_dropL l h)
end AG
namespace AG
open PySem L2
theorem Wp.bind_iff {α β : Type} {r : R α} {f : α → MH → R β} {Q : β → MH → Prop} {E : Nat → MH → Prop} : Wp (r.bind f) Q E ↔ Wp r (fun a h => Wp (f a h) Q E) E :=
  ⟨fun q => ⟨wpR_mono (wpR_bind.mp q.out) (fun _ _ z => ⟨z⟩) fun _ _ z => z⟩, Wp.bind⟩
theorem Wp.ok_iff {α : Type} {a : α} {h : MH} {Q : α → MH → Prop} {E : Nat → MH → Prop} : Wp (.ok a h) Q E ↔ Q a h := ⟨fun q => q.out, fun q => ⟨q⟩⟩
end AG
namespace AG
open PySem L2
mutual
theorem D.beq_refl : ∀ d : D, D.beq d d = true
  | .non => rfl
  | .bl b => by simp [D.beq]
  | .int i => by simp [D.beq]
  | .str s => by simp [D.beq]
  | .tup xs => by rw [D.beq]; exact D.beqs_refl xs
  | .lst xs => by rw [D.beq]; exact D.beqs_refl xs
  | .ref n => by simp [D.beq]
  | .scr ns => by simp [D.beq]
theorem D.beqs_refl : ∀ ds : List D, D.beqs ds ds = true
  | [] => rfl
  | d :: ds => by rw [D.beqs, D.beq_refl d, D.beqs_refl ds]; rfl
end
theorem kSame_of {e0 e : Env} (hl : e.length = e0.length) (h : ∀ (i : Nat) (d : D), e0[i]? = some (.v d) → e[i]? = some (.v d)) : kSame e0 e = true := by
  unfold kSame
  rw [Bool.and_eq_true, decide_eq_true_eq, List.all_eq_true]
  refine ⟨hl, fun i hi => ?_⟩
  cases q : e0[i]? with
  | none => rfl
  | some s =>
    cases s with
    | v d =>
      show slotV e i d = true
      unfold slotV
      rw [h i d q]
      exact D.beq_refl d
    | no => rfl
    | own _ => rfl
end AG
/-! AgY2: fields and lists of objects that are written. -/
namespace AG
open PySem L2

theorem isN {X : Cx} {op : Operator} {r : R2} (h : OpR X (inplaceOp op) r) : InOp X op r := fun pins s σ H x y u v Q I rx ry q => h pins s σ H x y u v Q I rx ry q
section
variable {X : Cx} {ca : CA} {W : WX} {n c : Nat} {e o : Expr} {f : Str} {flds : List Str} {pos pos' tpos : Pos} {m mo me : Env → M D} {op : Operator} {r : R2} {g : DOp}
theorem ms_augFld (C : CK X.K ca c flds) (hi : OpR X (inplaceOp op) r) (hg : OpM X.K ca r g) (ho : ME X ca W o mo) (he : ME X ca W e me) (hf : f ∈ flds := by decide) : MS X ca W n (.AugAssign (.Attribute o f tpos) op e pos) (mAugFld g c f mo me) :=
  PS.mono (ps_fldaug ho he (isN hi)) fun D' σ H h => by
    obtain ⟨w0, w, mh, env, rfl, hw, s, hp⟩ := h
    refine stepS (rep := repV X.K) hw s hp fun w1 mh1 v1 d1 x1 hw1 s1 r1 hp1 => ?_
    cases r1 with
    | ref h2 =>
      rename_i a k
      obtain ⟨mo', e1, _, _, hob⟩ := hw1.at h2
      cases mo' with
      | inst c' fs =>
        obtain ⟨dx, us, hH, rr⟩ := hob
        by_cases q : c' = c
        · subst q
          cases ql : fs.lookup f with
          | none => simp only [M.bind, fldM, e1, ql, if_true, R.bind] at hp1; exact hp1.elim
          | some d =>
            simp only [M.bind, fldM, e1, ql, if_true, R.bind] at hp1
            obtain ⟨v, z1, z2⟩ := zip_lookup rr ql
            refine ⟨a, ca c', dx, _, v, rfl, hH, C.cls, C.no f hf, z1, ?_⟩
            refine stepS (rep := repV X.K) hw1 s1 hp1 fun w2 mh2 v2 d2 x2 hw2 s2 r2 hp2 => ?_
            refine hg W σ w2 mh2 v v2 d d2 _ hw2 (x2.rp z2) r2 (wpR_mono (wpR_bind.mp hp2) (fun z mh' q w' vz xz hw' rz => ?_) fun cl mh q w' xz hw' => q w' σ (s2.ext.trans xz) hw' s2.ln)
            have h3 : w'.ρ[k]? = some a := xz.at (x2.at h2)
            obtain ⟨mo3, e3, _, _, hob3⟩ := hw'.at h3
            cases mo3 with
            | inst c3 fs3 =>
              obtain ⟨dx3, us3, hH3, rr3⟩ := hob3
              by_cases q3 : c3 = c' ∧ fs3.length < 1000
              · simp only [M.bind, setFldM, e3, q3, and_self, if_true, R.bind, M.pure] at q
                obtain ⟨q3, l⟩ := q3
                subst q3
                obtain ⟨us', y1, y2⟩ := zip_put (f := f) rz rr3
                refine ⟨dx3, _, hH3, by rw [zip_len rr3]; exact l, ?_⟩
                rw [y1]
                have hm := List.mem_of_getElem? h3
                have x4 : Ext w' (w'.put a (.ins (ca c3) dx3 (((putD f z fs3).map (·.1)).zip us'))) := Ext.obj hm
                exact q _ σ ((s2.then xz).then x4) (x1.grow.trans (x2.grow.trans (xz.grow.trans x4.grow))) (hw'.obj' h3 ⟨dx3, us', upd_same, y2.mono put_grow⟩)
              · simp only [M.bind, setFldM, e3, q3, if_false, R.bind] at q; exact q.elim
            | _ => simp only [M.bind, setFldM, e3, R.bind] at q; exact q.elim
        · simp only [M.bind, fldM, e1, q, if_false, R.bind] at hp1; exact hp1.elim
      | _ => simp only [M.bind, fldM, e1, R.bind] at hp1; exact hp1.elim
    | _ => exact hp1.elim
end

/-! ### o[i] op= e, o an explicit list -/
def getIxM (d j : D) : M D := match d, j with
  | .ref n, .int k => fun h => match h[n]? with
    | some (.lst xs) => if 0 ≤ k ∧ k < 1000000 then (match xs[k.toNat]? with | some x => .ok x h | none => .bad) else .bad
    | _ => .bad
  | _, _ => M.bad
def mAugIx (op : DOp) (o i e : Env → M D) : Env → M Fl := fun env => M.bind (o env) fun d => M.bind (i env) fun j => M.bind (getIxM d j) fun x => M.bind (e env) fun y => M.bind (op x y) fun z => M.bind (setIxM z d j) fun _ => M.pure (.nx env)
def rGetN : V → V → Hp → VK → Prop := fun x y H Q => ∃ p xs i v, x = .ref p ∧ y = .int i ∧ H p = some (.lst xs) ∧ 0 ≤ i ∧ i < 1000000 ∧ xs[i.toNat]? = some v ∧ Q v H
theorem get_listN {X : Cx} : PGet X rGetN := by
  intro pins s σ H o i ov iv Q I ro ri h
  obtain ⟨p, xs, k, v, rfl, rfl, hp, h0, h1, hv, q⟩ := h
  cases ro
  obtain ⟨t, rfl⟩ := ri
  obtain ⟨its, r, pl, hz⟩ := I.list (show SqL X.K H p xs from .of hp)
  obtain ⟨w, ew, rw'⟩ := r.get hv
  exact PyProof.Rows.getItem_listL (l := its) (by simpa using pl.isList) h0 (by omega) ew ⟨v, H, I, rw', q⟩
section
variable {X : Cx} {ca : CA} {W : WX} {n : Nat} {o i e : Expr} {mo mi me : Env → M D} {pos tpos : Pos} {op : Operator} {r : R2} {g : DOp}
theorem ms_augIx (hi' : OpR X (inplaceOp op) r) (hg : OpM X.K ca r g) (ho : ME X ca W o mo) (hi : ME X ca W i mi) (he : ME X ca W e me)
    (ha : ∀ ov iv new, augStore i ov iv new = (do holding [new, ov, iv] (setItem ov iv new); release [new, ov, iv] []; pure .next) := by intros; rfl) : MS X ca W n (.AugAssign (.Subscript o i tpos) op e pos) (mAugIx g mo mi me) :=
  PS.mono (ps_augS ho hi get_listN he (show PIp X op r from hi') set_list ha) fun D' σ H h => by
    obtain ⟨w0, w, mh, env, rfl, hw, s, hp⟩ := h
    refine stepS (rep := repV X.K) hw s hp fun w1 mh1 v1 d1 x1 hw1 s1 r1 hp1 => ?_
    refine stepS (rep := repV X.K) hw1 s1 hp1 fun w2 mh2 v2 d2 x2 hw2 s2 r2 hp2 => ?_
    have r1 : Rp X.K w2 v1 d1 := x2.rp r1
    cases r1 with
    | ref h2 =>
      rename_i a m
      cases r2 with
      | int k =>
        obtain ⟨mo', e1, _, _, hob⟩ := hw2.at h2
        cases mo' with
        | lst xs =>
          obtain ⟨vs, hH, rr⟩ := hob
          by_cases q : 0 ≤ k ∧ k < 1000000
          · cases ql : xs[k.toNat]? with
            | none => simp only [M.bind, getIxM, e1, ql, q, and_self, if_true, R.bind] at hp2; exact hp2.elim
            | some x =>
              simp only [M.bind, getIxM, e1, ql, q, and_self, if_true, R.bind] at hp2
              obtain ⟨v, z1, z2⟩ := rr.get ql
              refine ⟨a, vs, k, v, rfl, rfl, hH, q.1, q.2, z1, ?_⟩
              refine stepS (rep := repV X.K) hw2 s2 hp2 fun w3 mh3 v3 d3 x3 hw3 s3 r3 hp3 => ?_
              refine hg W σ w3 mh3 v v3 x d3 _ hw3 (x3.rp z2) r3 (wpR_mono (wpR_bind.mp hp3) (fun z mh' q w' vz xz hw' rz => ?_) fun cl mh q w' xz hw' => q w' σ (s3.ext.trans xz) hw' s3.ln)
              have h3 : w'.ρ[m]? = some a := xz.at (x3.at h2)
              obtain ⟨mo3, e3, _, _, hob3⟩ := hw'.at h3
              cases mo3 with
              | lst xs3 =>
                obtain ⟨vs3, hH3, rr3⟩ := hob3
                cases q3 : ixN xs3.length k with
                | none => simp only [M.bind, setIxM, e3, q3, R.bind] at q; exact q.elim
                | some t =>
                  simp only [M.bind, setIxM, e3, q3, R.bind, M.pure] at q
                  refine ⟨a, vs3, k, t, rfl, rfl, hH3, by rw [rr3.length]; exact q3, ?_⟩
                  have hm := List.mem_of_getElem? h3
                  have x4 : Ext w' (w'.put a (.lst (vs3.set t vz))) := Ext.obj hm
                  exact q _ σ ((s3.then xz).then x4) (x1.grow.trans (x2.grow.trans (x3.grow.trans (xz.grow.trans x4.grow)))) (hw'.obj' h3 ⟨_, upd_same, (rr3.set rz t).mono put_grow⟩)
              | _ => simp only [M.bind, setIxM, e3, R.bind] at q; exact q.elim
          · simp only [M.bind, getIxM, e1, q, if_false, R.bind] at hp2; exact hp2.elim
        | _ => simp only [M.bind, getIxM, e1, R.bind] at hp2; exact hp2.elim
      | _ => exact hp2.elim
    | _ => first | exact hp2.elim | (cases r2 <;> exact hp2.elim)
end

/-! ### fresh lists -/
def addF (d e : D) : M (List D) := match d, e with
  | .lst xs, .lst ys => if xs.length + ys.length ≤ 16777216 then M.pure (xs ++ ys) else M.bad
  | _, _ => M.bad
def mAddF (ma mb : Env → M D) : Env → M (List D) := fun env => M.bind (ma env) fun x => M.bind (mb env) fun y => addF x y
/-- a fresh list, as an object that others see -/
def mNewL (m : Env → M (List D)) : Env → M D := fun env => M.bind (m env) fun xs h => .ok (.ref h.length) (h ++ [.lst xs])
/-- tuple(x), x an explicit list too -/
def fTupR : LOp := fun ds => match ds with
  | [.ref n] => fun h => match h[n]? with | some (.lst xs) => .ok (.tup xs) h | _ => .bad
  | ds => fTuple ds
section
variable {X : Cx} {ca : CA} {W : WX} {e o a b : Expr} {es : List Expr} {pos p : Pos} {ma mb : Env → M D} {m ms : Env → M (List D)}
theorem mf_add (ha : ME X ca W a ma) (hb : ME X ca W b mb) : MF X ca W (.BinOp a .Add b pos) (mAddF ma mb) :=
  PE.mono (pe_op op_cat ha hb) fun σ H Q h => by
    obtain ⟨w, mh, env, rfl, hw, hf, hp⟩ := h
    refine stepX (rep := repV X.K) hw hf hp (fun _ _ q => q) fun w1 mh1 v1 d1 x1 hw1 hf1 r1 hp1 => ?_
    refine stepX (rep := repV X.K) hw1 hf1 hp1 (fun cl mh q w' x' hw' => q w' (x1.trans x') hw') fun w2 mh2 v2 d2 x2 hw2 hf2 r2 hp2 => ?_
    have r1 : Rp X.K w2 v1 d1 := x2.rp r1
    cases r1 with
    | lst h1 q1 => cases r2 with
      | lst h2 q2 =>
        rename_i a xs ds b ys es
        by_cases q : ds.length + es.length ≤ 16777216
        · simp only [addF, q, if_true] at hp2
          exact ⟨a, b, xs, ys, rfl, rfl, hw2.subL _ _ h1, hw2.subL _ _ h2, by rw [q1.length, q2.length, sizeLine_lit]; exact q, PostF.new hp2 (x1.trans x2) hw2 (q1.append q2)⟩
        · simp only [addF, q, if_false] at hp2; exact hp2.elim
      | _ => exact hp2.elim
    | _ => first | exact hp2.elim | (cases r2 <;> exact hp2.elim)
theorem me_newL (h : MF X ca W e m) : ME X ca W e (mNewL m) :=
  PE.mono h fun σ H Q h => by
    obtain ⟨w, mh, env, rfl, hw, hf, hp⟩ := h
    refine ⟨w, mh, env, rfl, hw, hf, wpR_mono (wpR_bind.mp hp) (fun ds mh' q w' p x' hw' hn o => ?_) fun _ _ q => q⟩
    obtain ⟨vs, hH, r⟩ := o.at'
    have hx : Ext w ⟨w'.ρ ++ [p], w'.F, w'.L, w'.H⟩ := by
      obtain ⟨ν, e, f⟩ := x'.rho
      exact ⟨⟨ν ++ [p], by rw [e, List.append_assoc], fun b hb => (List.mem_append.mp hb).elim (f b) fun hb => by rw [List.mem_singleton.mp hb]; exact hn⟩, x'.fz, x'.lz, x'.kp, x'.nf, x'.nl, x'.th⟩
    have hg : Grow w' ⟨w'.ρ ++ [p], w'.F, w'.L, w'.H⟩ := ⟨⟨[p], rfl⟩, fun _ _ h => h, fun _ _ h => h⟩
    have hw2 : WOk X.K ca ⟨w'.ρ ++ [p], w'.F, w'.L, w'.H⟩ (mh' ++ [.lst ds]) := by
      refine ⟨hw'.sub, hw'.subL, by simp [hw'.len], ?_, fun k b mo' h1 h2 => ?_⟩
      · show (w'.ρ ++ [p]).Nodup
        rw [List.nodup_append]
        exact ⟨hw'.nd, by simp, fun a ha b hb => by rw [List.mem_singleton.mp hb]; exact fun e => o.nr (e ▸ ha)⟩
      · have h1 : (w'.ρ ++ [p])[k]? = some b := h1
        rcases Nat.lt_trichotomy k w'.ρ.length with l | l | l
        · rw [List.getElem?_append_left l] at h1
          rw [List.getElem?_append_left (by rw [← hw'.len]; exact l)] at h2
          obtain ⟨f, l', q⟩ := hw'.obj k b mo' h1 h2
          exact ⟨f, l', q.grow (fun u z => z) hg⟩
        · subst l
          rw [List.getElem?_append_right (Nat.le_refl _)] at h1
          rw [hw'.len, List.getElem?_append_right (Nat.le_refl _)] at h2
          simp at h1 h2
          subst h1 h2
          exact ⟨o.nF, o.nL, vs, hH, r.mono hg⟩
        · rw [List.getElem?_eq_none (by simp; omega)] at h1; cases h1
    have hat : (w'.ρ ++ [p])[mh'.length]? = some p := by
      rw [← hw'.len]
      simp
    exact q ⟨w'.ρ ++ [p], w'.F, w'.L, w'.H⟩ (.ref p) hx hw2 (.ref hat)
theorem cm_tupR {K : PySem.W.Frag} : CallM K ca (fun xs H Q => ∃ p ys, xs = [.ref p] ∧ ((SqL K H p ys ∧ ∀ l, H l = none → Q (.ref l) (upd H l (.tup ys))) ∨ (SqT K H p ys ∧ Q (.ref p) H))) fTupR := by
  intro W σ w mh xs ds Q hw r hp
  unfold fTupR at hp
  split at hp
  · rename_i n
    obtain ⟨x, rfl, q⟩ := r.one
    cases q with
    | ref h2 =>
      obtain ⟨mo', e1, _, _, hob⟩ := hw.at h2
      cases mo' with
      | lst zs =>
        obtain ⟨vs, hH, rr⟩ := hob
        simp only [e1] at hp
        exact ⟨_, vs, rfl, .inl ⟨.of hH, PostG.tup hp hw rr⟩⟩
      | _ => simp only [e1] at hp; exact hp.elim
  · exact cm_tuple W σ w mh xs ds Q hw r hp
theorem me_tupR (hm : X.mg "tuple" = none) (ha : MA X ca W (e :: es) ms) (hg : Gl X "tuple" := by rfl) (he : starEach (e :: es) X.env = (false, eval e X.env) :: starEach es X.env := by rfl) (hpl : (backTo pos (starEach es X.env)).any (·.1) = false := by rfl) : ME X ca W (.Call (.Name "tuple" p) (e :: es) [] pos) (mCall fTupR ms) :=
  me_callTy call_tuple_of cm_tupR hm (by decide +kernel) ha hg (by decide) (by decide) he hpl
end
end AG
/-! AgDc: dicts whose keys are tuples of any depth. -/
namespace AG
open PySem L2

/-! ### data as keys -/
section
variable {X : Cx} {pins : List (Addr × Obj)} {σ : St} {s : Shared} {w : Wd}
mutual
theorem nk_is (I : Inv X pins σ w.H s) (hs : Subs w) : ∀ (d : D) (v : V) (u : Value) (k : NestedKey), Rp X.K w v d → RelV v u → d.nk = some k → NestedIs s.heap k u
  | .non, _, u, k, r, ru, e => by
    cases r
    cases (show u = .none from ru)
    cases e; exact .none
  | .bl b, _, u, k, r, ru, e => by
    cases r
    cases (show u = .bool b from ru)
    cases e; exact .bool rfl
  | .int i, _, u, k, r, ru, e => by
    cases r
    obtain ⟨t, rfl⟩ := (show ∃ t, u = Value.int i t from ru)
    cases e; exact .int _ _
  | .str x, _, u, k, r, ru, e => by
    cases r
    obtain ⟨t, rfl⟩ := (show ∃ t, u = Value.str x t from ru)
    cases e; exact .text _ _
  | .tup xs, _, u, k, r, ru, e => by
    cases r with
    | @tup a vs ds h1 h2 =>
      cases (show u = Value.ref a from ru)
      obtain ⟨its, rv, ⟨o, ho, hc, n, hd⟩, _⟩ := I.tuple (sqT_sub hs.f h1)
      simp only [D.nk] at e
      split at e
      · rename_i ks q
        cases e
        exact .tup ho hc hd (by simpa using nks_is I hs xs vs its ks h2 rv q)
      · cases e
  | .lst _, _, _, _, _, _, e => by simp [D.nk] at e
  | .ref _, _, _, _, _, _, e => by simp [D.nk] at e
  | .scr _, _, _, _, _, _, e => by simp [D.nk] at e
theorem nks_is (I : Inv X pins σ w.H s) (hs : Subs w) : ∀ (ds : List D) (vs : List V) (us : List Value) (ks : List NestedKey), RpAll X.K w vs ds → Vals vs us → D.nks ds = some ks → NestedAll s.heap ks us
  | [], _, us, ks, r, ru, e => by
    cases r
    cases ru
    cases e
    exact .nil
  | d :: ds, _, us, ks, r, ru, e => by
    cases r with
    | cons h t =>
      cases ru with
      | cons hu tu =>
        simp only [D.nks] at e
        split at e
        · rename_i k ks' q1 q2
          cases e
          exact .cons (nk_is I hs d _ _ k h hu q1) (nks_is I hs ds _ _ ks' t tu q2)
        · cases e
end
end
/-- what is at a key -/
def dGet (kvs : List (D × D)) (k : NestedKey) : Option D := (kvs.find? fun p => decide (p.1.nk = some k)).map (·.2)
def dPut (kvs : List (D × D)) (d : D) (k : NestedKey) (v : D) : List (D × D) := if (kvs.any fun p => decide (p.1.nk = some k)) = true then kvs.map fun p => if p.1.nk = some k then (p.1, v) else p else kvs ++ [(d, v)]
/-- a key: a tuple, nested to depth 8 -/
def keyOk (d : D) : Option NestedKey := match d with | .tup _ => (match d.nk with | some k => if k.depth ≤ 8 then some k else none | none => none) | _ => none
theorem keyOk_of {d : D} {k : NestedKey} (h : keyOk d = some k) : d.nk = some k ∧ k.depth ≤ 8 ∧ ∃ xs, d = .tup xs := by
  unfold keyOk at h
  split at h
  · split at h
    · rename_i q
      split at h
      · rename_i l
        cases h
        exact ⟨q, l, _, rfl⟩
      · cases h
    · cases h
  · cases h
/-- what the library's rules take of a dict -/
def dK (X : Cx) (a : Addr) (xs : List (NestedKey × Addr × V)) (H : Hp) : Prop := H a = some (.ext (dctφ X.w a xs)) ∧ (a == sysModules) = false ∧ xs.length ≤ 16000000 ∧ (xs.map (·.1)).Nodup ∧
  ∀ x ∈ xs, x.1.depth ≤ 8 ∧ ∀ (pins : List (Addr × Obj)) (σ : St) (s : Shared), Inv X pins σ H s → NestedIs s.heap x.1 (.ref x.2.1)
def isK (X : Cx) (k : NestedKey) (b : Addr) (H : Hp) : Prop := k.depth ≤ 8 ∧ ∀ (pins : List (Addr × Obj)) (σ : St) (s : Shared), Inv X pins σ H s → NestedIs s.heap k (.ref b)
abbrev Ys : List (NestedKey × Addr × V) → List (NestedKey × Addr × Value) → Prop := Paired fun x y => x.1 = y.1 ∧ x.2.1 = y.2.1 ∧ RelV x.2.2 y.2.2
theorem ys_keys : ∀ {xs : List (NestedKey × Addr × V)} {ys : List (NestedKey × Addr × Value)}, Ys xs ys → ys.map (·.1) = xs.map (·.1)
  | _, _, .nil => rfl
  | _, _, .cons h t => by rw [List.map_cons, List.map_cons, h.1, ys_keys t]
theorem ys_len : ∀ {xs : List (NestedKey × Addr × V)} {ys : List (NestedKey × Addr × Value)}, Ys xs ys → xs.length = ys.length
  | _, _, .nil => rfl
  | _, _, .cons h t => by rw [List.length_cons, List.length_cons, ys_len t]
theorem dK_of {X : Cx} {a : Addr} {xs : List (NestedKey × Addr × V)} {H : Hp} (h : dK X a xs H) {pins : List (Addr × Obj)} {σ : St} {s : Shared} (I : Inv X pins σ H s) : ∃ ys, Ys xs ys ∧ s.heap.DictOfH (nestedKind X.prog X.w) a ys := by
  obtain ⟨e, _, _, nd, al⟩ := h
  obtain ⟨⟨ys, r, o, es, ep, h1, h2, h3, h4⟩, _, _⟩ := (show ObjOk X.prog X.w H s.heap a (.ext (dctφ X.w a xs)) from I.hok a _ e)
  refine ⟨ys, r, o, es, ep, h1, h2, h3, h4, ?_, by rw [ys_keys r]; exact nd⟩
  have : ∀ {xs : List (NestedKey × Addr × V)} {ys : List (NestedKey × Addr × Value)}, Ys xs ys → (∀ x ∈ xs, x.1.depth ≤ 8 ∧ NestedIs s.heap x.1 (.ref x.2.1)) → ∀ y ∈ ys, (nestedKind X.prog X.w).is s.heap y.1 y.2.1 := by
    intro xs ys r
    induction r with
    | nil => intro _ y hy; cases hy
    | cons h t ih =>
      intro q y hy
      rcases List.mem_cons.mp hy with e | hy
      · subst e
        have := q _ List.mem_cons_self
        rw [h.1, h.2.1] at this
        exact ⟨this.2, this.1⟩
      · exact ih (fun x hx => q x (List.mem_cons_of_mem _ hx)) y hy
  exact this r fun x hx => ⟨(al x hx).1, (al x hx).2 pins σ s I⟩
/-- the entry at a key -/
def xGet (xs : List (NestedKey × Addr × V)) (k : NestedKey) : Option V := (xs.find? fun x => decide (x.1 = k)).map fun x => x.2.2
theorem ys_get : ∀ {xs : List (NestedKey × Addr × V)} {ys : List (NestedKey × Addr × Value)} {k : NestedKey}, Ys xs ys → RelO (xGet xs k) ((atKey ys k).map (·.2))
  | _, _, _, .nil => True.intro
  | x :: xs, y :: ys, k, .cons h t => by
    by_cases e : x.1 = k
    · have e' : y.1 = k := h.1.symm.trans e
      simp [xGet, atKey, e, e']
      exact h.2.2
    · have e' : ¬ y.1 = k := fun z => e (h.1.trans z)
      have := ys_get (k := k) t
      simp only [xGet, atKey, List.find?_cons, e, e', decide_false] at this ⊢
      exact this
def xPut (xs : List (NestedKey × Addr × V)) (k : NestedKey) (b : Addr) (v : V) : List (NestedKey × Addr × V) := if (xs.any fun x => decide (x.1 = k)) = true then xs.map fun x => if x.1 = k then (x.1, x.2.1, v) else x else xs ++ [(k, b, v)]
theorem ys_any : ∀ {xs : List (NestedKey × Addr × V)} {ys : List (NestedKey × Addr × Value)} {k : NestedKey}, Ys xs ys → (xs.any fun x => decide (x.1 = k)) = (atKey ys k).isSome
  | _, _, _, .nil => rfl
  | x :: xs, y :: ys, k, .cons h t => by
    by_cases e : x.1 = k
    · have e' : y.1 = k := h.1.symm.trans e
      simp [atKey, e, e']
    · have e' : ¬ y.1 = k := fun z => e (h.1.trans z)
      have := ys_any (k := k) t
      simp only [List.any_cons, atKey, List.find?_cons, e, e', decide_false, Bool.false_or] at this ⊢
      exact this
theorem ys_put {k : NestedKey} {b : Addr} {v : V} {u : Value} (ru : RelV v u) {xs : List (NestedKey × Addr × V)} {ys : List (NestedKey × Addr × Value)} (r : Ys xs ys) : Ys (xPut xs k b v) (storedH ys k b u) := by
  unfold xPut storedH
  rw [ys_any r]
  by_cases q : (atKey ys k).isSome = true
  · rw [if_pos q, if_pos q]
    have : ∀ {xs : List (NestedKey × Addr × V)} {ys : List (NestedKey × Addr × Value)}, Ys xs ys → Ys (xs.map fun x => if x.1 = k then (x.1, x.2.1, v) else x) (ys.map (putAt k u)) := by
      intro xs ys r
      induction r with
      | nil => exact .nil
      | @cons x y xs ys h t ih =>
        rw [List.map_cons, List.map_cons]
        refine .cons ?_ ih
        unfold putAt
        by_cases e : x.1 = k
        · rw [if_pos e, if_pos (h.1.symm.trans e)]; exact ⟨h.1, h.2.1, ru⟩
        · rw [if_neg e, if_neg (fun z => e (h.1.trans z))]; exact h
    exact this r
  · rw [if_neg q, if_neg q]
    exact Paired.snoc r ⟨rfl, rfl, ru⟩
theorem xPut_keys {xs : List (NestedKey × Addr × V)} {k : NestedKey} {b : Addr} {v : V} (nd : (xs.map (·.1)).Nodup) : ((xPut xs k b v).map (·.1)).Nodup := by
  unfold xPut
  by_cases q : (xs.any fun x => decide (x.1 = k)) = true
  · rw [if_pos q]
    have : (xs.map fun x => if x.1 = k then (x.1, x.2.1, v) else x).map (·.1) = xs.map (·.1) := by
      rw [List.map_map]
      refine List.map_congr_left fun x _ => ?_
      show (if x.1 = k then (x.1, x.2.1, v) else x).1 = x.1
      split <;> rfl
    rw [this]; exact nd
  · rw [if_neg q, List.map_append, List.nodup_append]
    refine ⟨nd, by simp, fun a ha b' hb => ?_⟩
    simp at hb
    subst hb
    intro e
    subst e
    obtain ⟨x, hx, e⟩ := List.mem_map.mp ha
    exact q (List.any_eq_true.mpr ⟨x, hx, by simp [e]⟩)
theorem xPut_len {xs : List (NestedKey × Addr × V)} {k : NestedKey} {b : Addr} {v : V} : (xPut xs k b v).length ≤ xs.length + 1 := by
  unfold xPut
  split <;> simp

section
variable {X : Cx}
def rDin (X : Cx) (g : Bool → Bool) : R2 := fun x y H Q => ∃ b a k xs, x = .ref b ∧ y = .ref a ∧ dK X a xs H ∧ isK X k b H ∧ Q (.bl (g (xGet xs k).isSome)) H
theorem room8 {k : Nat} {A : Around} (r : Room k A) (P : Program) (w : World) : (nestedKind P w).room A.in1 := by
  have := r.un
  show A.in1.units + 8 < cLine
  simp only [Around.in1_units]
  omega
theorem relO_some {o : Option V} {u : Option Value} (h : RelO o u) : o.isSome = u.isSome := h.isSome_eq
theorem op_din {k0 : Nat} (hr : Room k0 X.A) : OpR X (compareOp .In) (rDin X id) := by
  intro pins s σ H x y v u Q I rx ry h
  obtain ⟨b, a, k, xs, rfl, rfl, hd, hk, q⟩ := h
  cases (show v = Value.ref b from rx)
  cases (show u = Value.ref a from ry)
  obtain ⟨ys, r, dd⟩ := dK_of hd I
  refine in_keyed (knd := nestedKind X.prog X.w) (room8 hr _ _) ⟨hk.2 _ _ _ I, hk.1⟩ hd.2.1 ⟨ys, dd, rfl⟩ ?_
  rw [valueAt_pairsH, ← relO_some (ys_get r)]
  exact ⟨.bl _, H, I.tok _, rfl, q⟩
theorem op_dnin {k0 : Nat} (hr : Room k0 X.A) : OpR X (compareOp .NotIn) (rDin X not) := by
  intro pins s σ H x y v u Q I rx ry h
  obtain ⟨b, a, k, xs, rfl, rfl, hd, hk, q⟩ := h
  cases (show v = Value.ref b from rx)
  cases (show u = Value.ref a from ry)
  obtain ⟨ys, r, dd⟩ := dK_of hd I
  refine notIn_keyed (knd := nestedKind X.prog X.w) (room8 hr _ _) ⟨hk.2 _ _ _ I, hk.1⟩ hd.2.1 ⟨ys, dd, rfl⟩ ?_
  rw [valueAt_pairsH, ← relO_some (ys_get r)]
  exact ⟨.bl _, H, I.tok _, rfl, q⟩
end

/-! ### by data -/
theorem dks_get {K : PySem.W.Frag} {w : Wd} {k : NestedKey} : ∀ {kvs : List (D × D)} {xs : List (NestedKey × Addr × V)}, DKs K w kvs xs → (dGet kvs k).isSome = (xGet xs k).isSome ∧ ∀ d, dGet kvs k = some d → ∃ v, xGet xs k = some v ∧ Rp K w v d
  | _, _, .nil => ⟨rfl, fun d h => by cases h⟩
  | kv :: kvs, x :: xs, .cons h t => by
    have ih := dks_get (k := k) t
    by_cases e : x.1 = k
    · have e' : kv.1.nk = some k := by rw [h.1, e]
      refine ⟨by simp [dGet, xGet, e, e'], fun d q => ?_⟩
      simp [dGet, e'] at q
      subst q
      exact ⟨x.2.2, by simp [xGet, e], h.2.2.2⟩
    · have e' : ¬ kv.1.nk = some k := fun z => e (by rw [h.1] at z; exact Option.some.inj z)
      simp only [dGet, xGet, List.find?_cons, e, e', decide_false] at ih ⊢
      exact ih
theorem dks_put {K : PySem.W.Frag} {w : Wd} {k : NestedKey} {d v : D} {b : Addr} {y : V} (hk : d.nk = some k) (h8 : k.depth ≤ 8) (hb : Rp K w (.ref b) d) (hv : Rp K w y v) {kvs : List (D × D)} {xs : List (NestedKey × Addr × V)} (r : DKs K w kvs xs) : DKs K w (dPut kvs d k v) (xPut xs k b y) := by
  have ha : ∀ {kvs : List (D × D)} {xs : List (NestedKey × Addr × V)}, DKs K w kvs xs → (kvs.any fun p => decide (p.1.nk = some k)) = xs.any fun x => decide (x.1 = k) := by
    intro kvs xs r
    induction r with
    | nil => rfl
    | @cons kv x kvs xs h t ih =>
      rw [List.any_cons, List.any_cons, ih, h.1]
      congr 1
      by_cases e : x.1 = k <;> simp [e]
  have hm : ∀ {kvs : List (D × D)} {xs : List (NestedKey × Addr × V)}, DKs K w kvs xs → DKs K w (kvs.map fun p => if p.1.nk = some k then (p.1, v) else p) (xs.map fun x => if x.1 = k then (x.1, x.2.1, y) else x) := by
    intro kvs xs r
    induction r with
    | nil => exact .nil
    | @cons kv x kvs xs h t ih =>
      rw [List.map_cons, List.map_cons]
      refine .cons ?_ ih
      by_cases e : x.1 = k
      · have e' : kv.1.nk = some k := by rw [h.1, e]
        rw [if_pos e, if_pos e']; exact ⟨h.1, h.2.1, h.2.2.1, hv⟩
      · have e' : ¬ kv.1.nk = some k := fun z => e (by rw [h.1] at z; exact Option.some.inj z)
        rw [if_neg e, if_neg e']; exact h
  unfold dPut xPut
  rw [ha r]
  split
  · exact hm r
  · exact Paired.snoc r ⟨hk, h8, hb, hv⟩
theorem dks_all {X : Cx} {w : Wd} (hs : Subs w) {kvs : List (D × D)} {xs : List (NestedKey × Addr × V)} (r : DKs X.K w kvs xs) : ∀ x ∈ xs, x.1.depth ≤ 8 ∧ ∀ (pins : List (Addr × Obj)) (σ : St) (s : Shared), Inv X pins σ w.H s → NestedIs s.heap x.1 (.ref x.2.1) := by
  induction r with
  | nil => intro x hx; cases hx
  | @cons kv x kvs xs h t ih =>
    intro y hy
    rcases List.mem_cons.mp hy with e | hy
    · subst e
      exact ⟨h.2.1, fun pins σ s I => nk_is I hs _ _ _ _ h.2.2.1 rfl h.1⟩
    · exact ih y hy
theorem key_isK {X : Cx} {w : Wd} (hs : Subs w) {d : D} {k : NestedKey} {b : Addr} (hk : d.nk = some k) (h8 : k.depth ≤ 8) (r : Rp X.K w (.ref b) d) : isK X k b w.H := ⟨h8, fun pins σ s I => nk_is I hs _ _ _ _ r rfl hk⟩
def opDin (g : Bool → Bool) : DOp := fun d e => match e with
  | .ref n => fun h => match h[n]?, keyOk d with
    | some (.dct kvs), some k => .ok (.bl (g (dGet kvs k).isSome)) h
    | _, _ => .bad
  | _ => M.bad
theorem opm_din {X : Cx} {ca : CA} (hW : ca.wd = X.w) {g : Bool → Bool} : OpM X.K ca (rDin X g) (opDin g) := by
  intro W σ w mh x y d e Q hw rx ry hp
  cases ry with
  | ref h2 =>
    rename_i a n
    obtain ⟨mo, e1, _, _, ho⟩ := hw.at h2
    cases mo with
    | dct kvs =>
      cases q : keyOk d with
      | none => simp only [opDin, e1, q] at hp; exact hp.elim
      | some k =>
        simp only [opDin, e1, q] at hp
        obtain ⟨k1, k2, ys, rfl⟩ := keyOk_of q
        obtain ⟨xs, hH, hS, hl, r, nd⟩ := ho
        have rx' := rx
        cases rx with
        | tup h1 r1 =>
          rename_i b vs
          have gs := (dks_get (k := k) r).1
          rw [gs] at hp
          refine ⟨b, a, k, xs, rfl, rfl, ⟨by rw [← hW]; exact hH, hS, hl, nd, dks_all hw.subs r⟩, key_isK hw.subs k1 k2 rx', PostG.ret hp hw (.bl _)⟩
    | _ => simp only [opDin, e1] at hp; exact hp.elim
  | _ => exact hp.elim
section
variable {X : Cx} {ca : CA} {W : WX} {a b : Expr} {ma mb : Env → M D} {pos : Pos}
theorem me_din {k : Nat} (hr : Room k X.A) (hW : ca.wd = X.w) (ha : ME X ca W a ma) (hb : ME X ca W b mb) (hm : behindInMarks .In b = false := by rfl) : ME X ca W (.Compare a [.In] [b] pos) (mBin (opDin id) ma mb) := me_cmp (op_din hr) (opm_din hW) ha hb hm
theorem me_dnin {k : Nat} (hr : Room k X.A) (hW : ca.wd = X.w) (ha : ME X ca W a ma) (hb : ME X ca W b mb) (hm : behindInMarks .NotIn b = false := by rfl) : ME X ca W (.Compare a [.NotIn] [b] pos) (mBin (opDin not) ma mb) := me_cmp (op_dnin hr) (opm_din hW) ha hb hm
end
/-! ### d[k], d[k] = v, {} -/
def rDix (X : Cx) : R2 := fun x y H Q => ∃ a b k xs v, x = .ref a ∧ y = .ref b ∧ dK X a xs H ∧ isK X k b H ∧ xGet xs k = some v ∧ Q v H
theorem pe_dixX {X : Cx} {o i : Expr} {pos : Pos} {td ty : TE} {k0 : Nat} (hr : Room k0 X.A) (ho : PE X o td) (hi : PE X i ty) (hs : NoSl i) : PE X (.Subscript o i pos) (tOp (rDix X) td ty) := by
  refine ⟨fun pins s σ H Q I h => ?_⟩
  refine subD_of PySem.F.slot_dict_getitem.lookup hs (thn (ho.run pins s σ H _ I h) fun u s1 ⟨x, H1, I1, rx, q1⟩ => thn (hi.run pins s1 σ H1 _ I1 q1) fun iv s2 ⟨y, H2, I2, ry, a, b, k, xs, v, ex, ey, hd, hk, g, q2⟩ => ?_)
  subst ex ey
  cases (show u = Value.ref a from rx)
  cases (show iv = Value.ref b from ry)
  obtain ⟨ys, r, dd⟩ := dK_of hd I2
  have rg := ys_get (k := k) r
  rw [g] at rg
  cases q : atKey ys k with
  | none => rw [q] at rg; exact (show False from rg).elim
  | some p =>
    rw [q] at rg
    exact ⟨dd.typeIs, wpAny_getItem_heap (knd := nestedKind X.prog X.w) (room8 hr _ _) ⟨hk.2 _ _ _ I2, hk.1⟩ dd q ⟨v, H2, I2.tok _, rg, q2⟩⟩
def rSetX (X : Cx) : V → V → V → Hp → (Hp → Prop) → Prop := fun o i v H Q => ∃ a b k xs, o = .ref a ∧ i = .ref b ∧ dK X a xs H ∧ isK X k b H ∧ Q (upd H a (.ext (dctφ X.w a (xPut xs k b v))))
theorem dct_ok {X : Cx} {a : Addr} {H' : Hp} {h' : Heap} {xs : List (NestedKey × Addr × V)} {ys : List (NestedKey × Addr × Value)} (r : Ys xs ys) (dd : h'.DictOfH (nestedKind X.prog X.w) a ys) : ObjOk X.prog X.w H' h' a (.ext (dctφ X.w a xs)) := by
  obtain ⟨o, es, ep, h1, h2, h3, h4, _⟩ := dd
  exact ⟨⟨ys, r, o, es, ep, h1, h2, h3, h4⟩, ⟨o, h1⟩, fun g1 g2 ⟨zs, rz, o', es', ep', k1, k2⟩ hk => ⟨zs, rz, o', es', ep', hk _ k1, k2⟩⟩
theorem set_X {X : Cx} {k0 : Nat} (hr : Room k0 X.A) : PSet X (rSetX X) := by
  intro pins s σ H o i v ov iv u Q I ro ri rv h
  obtain ⟨a, b, k, xs, rfl, rfl, hd, hk, q⟩ := h
  cases (show ov = Value.ref a from ro)
  cases (show iv = Value.ref b from ri)
  obtain ⟨ys, r, dd⟩ := dK_of hd I
  refine wpAny_setItem_heap (knd := nestedKind X.prog X.w) (hsz := by rw [← ys_len r, sizeLine_eq]; have := hd.2.2.1; omega) (room8 hr _ _) ⟨hk.2 _ _ _ I, hk.1⟩ dd fun h' dd' hs => ⟨_, ?_, q⟩
  have he : ∃ q, h'.get? a = some q := let ⟨q, _, _, hq, _⟩ := dd'; ⟨q, hq⟩
  exact d_write I (by rw [hd.1]; exact True.intro) hs he (dct_ok (ys_put rv r) dd')
def tDNewX (X : Cx) : TE := fun _ H Q => ∀ p, H p = none → (p == sysModules) = false → Q (.ref p) (upd H p (.ext (dctφ X.w p [])))
theorem pe_dnewX {X : Cx} {pos : Pos} : PE X (.Dict [] [] pos) (tDNewX X) := ⟨fun pins s σ H Q I h =>
  have hb : sysModules < s.heap.objs.size := I.big
  wpAny_Dict_empty ⟨.ref s.heap.objs.size, _, I.laid (a := s.heap.objs.size) (o := .ext (dctφ X.w s.heap.objs.size [])) (t' := s.toks) (fun _ _ q => Heap.get?_push_of_some _ q) (Nat.le_refl _) (dct_ok .nil (Heap.DictOfH.new s.heap)), rfl,
    h _ (I.hok.fresh (Nat.le_refl _)) (beq_eq_false_iff_ne.mpr (Ne.symm (Nat.ne_of_lt hb)))⟩⟩
def opDix : DOp := fun d e => match d with
  | .ref n => fun h => match h[n]?, keyOk e with
    | some (.dct kvs), some k => (match dGet kvs k with | some v => .ok v h | none => .bad)
    | _, _ => .bad
  | _ => M.bad
def setDxM (v d j : D) : M Unit := match d with
  | .ref n => fun h => match h[n]?, keyOk j with
    | some (.dct kvs), some k => if kvs.length < 16000000 then .ok () (h.set n (.dct (dPut kvs j k v))) else .bad
    | _, _ => .bad
  | _ => M.bad
def mSetDx (o i e : Env → M D) : Env → M Fl := fun env => M.bind (e env) fun v => M.bind (o env) fun d => M.bind (i env) fun j => M.bind (setDxM v d j) fun _ => M.pure (.nx env)
def mNewD : Env → M D := fun _ h => .ok (.ref h.length) (h ++ [.dct []])
theorem dks_len {K : PySem.W.Frag} {w : Wd} : ∀ {kvs : List (D × D)} {xs : List (NestedKey × Addr × V)}, DKs K w kvs xs → kvs.length = xs.length
  | _, _, .nil => rfl
  | _, _, .cons _ t => by rw [List.length_cons, List.length_cons, dks_len t]
section
variable {X : Cx} {ca : CA} {W : WX} {n : Nat} {o i e : Expr} {mo mi me : Env → M D} {pos pos' : Pos}
theorem opm_dix (hW : ca.wd = X.w) : OpM X.K ca (rDix X) opDix := by
  intro W σ w mh x y d e Q hw rx ry hp
  cases rx with
  | ref h2 =>
    rename_i a n
    obtain ⟨mo, e1, _, _, ho⟩ := hw.at h2
    cases mo with
    | dct kvs =>
      cases q : keyOk e with
      | none => simp only [opDix, e1, q] at hp; exact hp.elim
      | some k =>
        cases g : dGet kvs k with
        | none => simp only [opDix, e1, q, g] at hp; exact hp.elim
        | some v =>
          simp only [opDix, e1, q, g] at hp
          obtain ⟨k1, k2, ys, rfl⟩ := keyOk_of q
          obtain ⟨xs, hH, hS, hl, r, nd⟩ := ho
          obtain ⟨vv, g2, rv⟩ := (dks_get (k := k) r).2 v g
          have ry' := ry
          cases ry with
          | tup h1 r1 =>
            rename_i b vs
            exact ⟨a, b, k, xs, vv, rfl, rfl, ⟨by rw [← hW]; exact hH, hS, hl, nd, dks_all hw.subs r⟩, key_isK hw.subs k1 k2 ry', g2, PostG.ret hp hw rv⟩
    | _ => simp only [opDix, e1] at hp; exact hp.elim
  | _ => exact hp.elim
theorem me_dix {k : Nat} (hr : Room k X.A) (hW : ca.wd = X.w) (ha : ME X ca W o mo) (hb : ME X ca W i mi) (hs : NoSl i) : ME X ca W (.Subscript o i pos) (mBin opDix mo mi) :=
  PE.mono (pe_dixX hr ha hb hs) fun _ _ _ h => tOp_of (opm_dix hW) h
theorem me_newD (hW : ca.wd = X.w) : ME X ca W (.Dict [] [] pos) mNewD := PE.mono pe_dnewX fun σ H Q h => by
  obtain ⟨w, mh, env, rfl, hw, hf, hp⟩ := h
  intro p hp0 hs0
  have x1 := Ext.new (o := .ext (dctφ X.w p [])) hp0
  have hw1 : WOk X.K ca (w.new p (.ext (dctφ X.w p []))) (mh ++ [.dct []]) := hw.new hp0 ⟨[], by rw [hW]; exact upd_same, hs0, Nat.zero_le _, .nil, List.nodup_nil⟩
  have hat : (w.ρ ++ [p])[mh.length]? = some p := by
    rw [← hw.len]
    simp
  exact hp (w.new p (.ext (dctφ X.w p []))) (.ref p) x1 hw1 (.ref hat)
theorem ms_setDx {k0 : Nat} (hr : Room k0 X.A) (hW : ca.wd = X.w) (he : ME X ca W e me) (ho : ME X ca W o mo) (hi : ME X ca W i mi)
    (ha : ∀ v, assign (.Subscript o i pos') X.env v = (do
      let ov ← holding [v] (eval o X.env)
      let iv ← holding [v, ov] (eval i X.env)
      standAt pos'
      holding [v, ov, iv] (setItem ov iv v)
      release [v, ov, iv] []) := by intro _; rfl)
    (hs : swapsWithSole [.Subscript o i pos'] e pos.line X.env = pure false := by rfl) (hw : swappedStores [.Subscript o i pos'] e X.env = pure none := by rfl) (h1 : (assignEach [.Subscript o i pos'] X.env).map (·.2) = [assign (.Subscript o i pos') X.env] := by rfl) :
    MS X ca W n (.Assign [.Subscript o i pos'] e pos) (mSetDx mo mi me) := PS.mono (ps_asg he (pg_sub ho hi (set_X hr) ha) hs hw h1) fun D' σ H h => by
  obtain ⟨w0, w, mh, env, rfl, hw, s, hp⟩ := h
  refine stepS (rep := repV X.K) hw s hp fun w1 mh1 v1 d1 x1 hw1 s1 r1 hp1 => ?_
  refine stepS (rep := repV X.K) hw1 s1 hp1 fun w2 mh2 v2 d2 x2 hw2 s2 r2 hp2 => ?_
  refine stepS (rep := repV X.K) hw2 s2 hp2 fun w3 mh3 v3 d3 x3 hw3 s3 r3 hp3 => ?_
  have r1 : Rp X.K w3 v1 d1 := x3.rp (x2.rp r1)
  have r2 : Rp X.K w3 v2 d2 := x3.rp r2
  cases r2 with
  | ref h2 =>
    rename_i a m
    obtain ⟨mo', e1, _, _, hob⟩ := hw3.at h2
    cases mo' with
    | dct kvs =>
      cases q : keyOk d3 with
      | none => simp only [M.bind, setDxM, e1, q, R.bind] at hp3; exact hp3.elim
      | some k =>
        by_cases lz : kvs.length < 16000000
        · simp only [M.bind, setDxM, e1, q, lz, if_true, R.bind, M.pure] at hp3
          obtain ⟨k1, k2, ys, rfl⟩ := keyOk_of q
          obtain ⟨xs, hH, hS, hl, r, nd⟩ := hob
          have r3' : Rp X.K w3 v3 (.tup ys) := r3
          have r3 : Rp X.K w3 v3 (.tup ys) := r3
          cases r3 with
          | tup h1 rr =>
            rename_i b vs
            refine ⟨a, b, k, xs, rfl, rfl, ⟨by rw [← hW]; exact hH, hS, hl, nd, dks_all hw3.subs r⟩, key_isK hw3.subs k1 k2 r3', ?_⟩
            have hm := List.mem_of_getElem? h2
            have x4 : Ext w3 (w3.put a (.ext (dctφ X.w a (xPut xs k b v1)))) := Ext.obj hm
            have hl2 : (xPut xs k b v1).length ≤ 16000000 := by
              have := xPut_len (xs := xs) (k := k) (b := b) (v := v1)
              have := dks_len r
              omega
            have dd := dks_put k1 k2 r3' r1 r
            exact hp3 _ σ (s3.then x4) (x1.grow.trans (x2.grow.trans (x3.grow.trans x4.grow))) (hw3.obj' h2 ⟨xPut xs k b v1, by rw [hW]; exact upd_same, hS, hl2, Paired.mapP dd fun _ _ z => ⟨z.1, z.2.1, z.2.2.1.mono put_grow, z.2.2.2.mono put_grow⟩, xPut_keys nd⟩)
        · simp only [M.bind, setDxM, e1, q, lz, if_false, R.bind] at hp3; exact hp3.elim
    | _ => simp only [M.bind, setDxM, e1, R.bind] at hp3; exact hp3.elim
  | _ => exact hp3.elim
end
section
variable {X : Cx} {ca : CA} {W : WX} {a b : Expr} {ma mb : Env → M D} {pos : Pos}
theorem mt_din {k : Nat} (hr : Room k X.A) (hW : ca.wd = X.w) (ha : ME X ca W a ma) (hb : ME X ca W b mb) (hm : behindInMarks .In b = false := by rfl) : MT X ca W (.Compare a [.In] [b] pos) (mTest (mBin (opDin id) ma mb)) := mt_cmp (op_din hr) (opm_din hW) ha hb hm
theorem mt_dnin {k : Nat} (hr : Room k X.A) (hW : ca.wd = X.w) (ha : ME X ca W a ma) (hb : ME X ca W b mb) (hm : behindInMarks .NotIn b = false := by rfl) : MT X ca W (.Compare a [.NotIn] [b] pos) (mTest (mBin (opDin not) ma mb)) := mt_cmp (op_dnin hr) (opm_din hW) ha hb hm
end
end AG
namespace AG
open PySem L2
theorem Wp.seqST {s t : Env → M Fl} {env : Env} {h : MH} {k : Env → Bool} (q : chkS k (s env h) = true) (z : ∀ e, k e = true → Wp (t e [.stream]) QT EF) : Wp (mSeq s t env h) QT EF := by
  refine Wp.seq (Wp.chk q (fun fl h' p => ?_) (fun _ _ p => by cases p))
  rw [Bool.and_eq_true] at p
  rw [isS_eq p.1]
  cases fl with
  | nx e => exact z e p.2
  | rt d =>
    show Fl.rt d = .rt (.bl true)
    rw [D.isTrue_eq p.2]
  | bk e => exact absurd p.2 (by simp)
  | ct e => exact absurd p.2 (by simp)
def retT (r : R Fl) : Bool := chk (fun fl _ => match fl with | .rt d => d.isTrue | _ => false) (fun _ _ => false) r
theorem retT_wp {r : R Fl} (h : retT r = true) : Wp r QT EF := Wp.chk h (fun fl m p => by
  cases fl with
  | rt d =>
    have p : d.isTrue = true := p
    show Fl.rt d = .rt (.bl true)
    rw [D.isTrue_eq p]
  | nx e => cases p
  | bk e => cases p
  | ct e => cases p) fun _ _ p => by cases p
/-- the law's run from its body -/
theorem law_of {m : Env → M Fl} {n : Nat} {ns : List Int} {env : Env} (he : [D.scr ns].map Slot.v ++ List.replicate (n - 1) Slot.no = env) (h : Wp (m env []) QT EF) : wpR (mFn n m [.scr ns] []) (fun d _ => d = .bl true) (fun _ _ => False) :=
  (Wp.fn (n := n) (s := m) (ds := [.scr ns]) (h := []) (env := env) (Q := fun d _ => d = .bl true) (E := EF) he (Wp.mono h (fun fl h' e => by have e : fl = .rt (.bl true) := e; subst e; exact rfl) fun _ _ e => e)).out
end AG
namespace AG
open PySem L2
/-! max, min of three ints -/
def max2 (i j : Int) : Int := if i < j then j else i
def min2 (i j : Int) : Int := if j < i then j else i
def fMax3 : LOp := fun ds => match ds with
  | [.int i, .int j, .int k] => M.pure (.int (max2 (max2 i j) k))
  | _ => M.bad
def fMin3 : LOp := fun ds => match ds with
  | [.int i, .int j, .int k] => M.pure (.int (min2 (min2 i j) k))
  | _ => M.bad
theorem nuMax2_int (i j : Int) : nuMax2 (.int i) (.int j) = some (.int (max2 i j)) := by
  have : nuLt (.int i) (.int j) = some (decide (i < j)) := rfl
  unfold nuMax2
  rw [this]
  by_cases h : i < j <;> simp [max2, h]
theorem nuMin2_int (i j : Int) : nuMin2 (.int i) (.int j) = some (.int (min2 i j)) := by
  have : nuLt (.int j) (.int i) = some (decide (j < i)) := rfl
  unfold nuMin2
  rw [this]
  by_cases h : j < i <;> simp [min2, h]
section
variable {K : PySem.W.Frag} {ca : CA}
theorem cm_max3 : CallM K ca (rNuC3 nuMax3) fMax3 := by
  intro W σ w mh xs ds Q hw r hp
  unfold fMax3 at hp
  split at hp
  · rename_i i j k
    cases r with
    | cons h1 r => cases r with
      | cons h2 r => cases r with
        | cons h3 r =>
          cases r
          cases h1; cases h2; cases h3
          refine ⟨_, _, _, _, rfl, ?_, PostG.ret hp hw (.int _)⟩
          unfold nuMax3
          rw [nuMax2_int]
          exact nuMax2_int _ _
  · exact hp.elim
theorem cm_min3 : CallM K ca (rNuC3 nuMin3) fMin3 := by
  intro W σ w mh xs ds Q hw r hp
  unfold fMin3 at hp
  split at hp
  · rename_i i j k
    cases r with
    | cons h1 r => cases r with
      | cons h2 r => cases r with
        | cons h3 r =>
          cases r
          cases h1; cases h2; cases h3
          refine ⟨_, _, _, _, rfl, ?_, PostG.ret hp hw (.int _)⟩
          unfold nuMin3
          rw [nuMin2_int]
          exact nuMin2_int _ _
  · exact hp.elim
end
section
variable {X : Cx} {ca : CA} {W : WX} {e : Expr} {es : List Expr} {ms : Env → M (List D)} {p pos : Pos}
theorem me_max3 (hc : X.calm = true) (hm : X.mg "max" = none) (ha : MA X ca W (e :: es) ms) (hg : Gl X "max" := by rfl) (he : starEach (e :: es) X.env = (false, eval e X.env) :: starEach es X.env := by rfl) (hpl : (backTo pos (starEach es X.env)).any (·.1) = false := by rfl) : ME X ca W (.Call (.Name "max" p) (e :: es) [] pos) (mCall fMax3 ms) :=
  me_callB (call_max3Nu hc) cm_max3 hm (by decide +kernel) ha hg (by decide) (by decide) he hpl
theorem me_min3 (hc : X.calm = true) (hm : X.mg "min" = none) (ha : MA X ca W (e :: es) ms) (hg : Gl X "min" := by rfl) (he : starEach (e :: es) X.env = (false, eval e X.env) :: starEach es X.env := by rfl) (hpl : (backTo pos (starEach es X.env)).any (·.1) = false := by rfl) : ME X ca W (.Call (.Name "min" p) (e :: es) [] pos) (mCall fMin3 ms) :=
  me_callB (call_min3Nu hc) cm_min3 hm (by decide +kernel) ha hg (by decide) (by decide) he hpl
end
end AG
set_option maxHeartbeats 4000000
namespace L_k05
open PySem L2 AG PyProof.Rows
def s_of_AllgradesError : Nat → Option Bool := fun c => match c with | 0 => some true | 1 => some true | 2 => some true | _ => none
def s_of_Above : Nat → Option Bool := fun c => match c with | 0 => some false | 1 => some true | 2 => some false | _ => none
def s_of_NotAllowed : Nat → Option Bool := fun c => match c with | 0 => some false | 1 => some false | 2 => some true | _ => none
abbrev f__law_stream : LOp := fStream
def m_power : AG.Env → M Fl := mRet (mTup (mCons (mTup (mCons (mVar 0) (mCons (mC (.int 1)) mNil))) mNil))
def f_power : LOp := mFn 1 m_power
abbrev f__law_draw : LOp := fDraw
def m__law_pick : AG.Env → M Fl := mRet (mBin opIx (mVar 1) (mCallN 2 f__law_draw (mCons (mVar 0) (mCons (mCall fLen (mCons (mVar 1) mNil)) mNil))))
def f__law_pick : LOp := mFn 2 m__law_pick
def m__law_one : AG.Env → M Fl := mRet (mTup (mCons (mTup (mCons (mTup mNil) (mCons (mC (.int 1)) mNil))) mNil))
def f__law_one : LOp := mFn 0 m__law_one
def c_MOST_STAGE : D := (.int 100000000000000000000000000000000000000000000000000000000000000000000000000000000000000000000000000000000000000000000000000000000000000000000000000000000000000000000000000000000000000000000000000000000)
def b_power_of_1 : AG.Env → M Fl := mSeq (mSet 2 (mBin opMul (mVar 2) (mVar 0))) (mSeq (mIf (mTest (mBin opGe (mVar 2) (mC c_MOST_STAGE))) (mRaise 1) mNx) (mIf (mTest (mBin opLt (mVar 0) (mC (.int 2)))) (mRet (mVar 2)) mNx))
def m_power_of : AG.Env → M Fl := mSeq (mSet 2 (mC (.int 1))) (mSeq (mFor (mRng1 (mVar 1)) (tgName 3) b_power_of_1) (mRet (mVar 2)))
def f_power_of : LOp := mFn 4 m_power_of
def e_plus_1 : AG.Env → M D := mVar 7
def t_plus_1 : AG.Env → M Bool := mTest (mBin opGt (mBin opIx (mVar 7) (mC (.int 0))) (mVar 2))
def b_plus_1 : AG.Env → M Fl := mIf (mTest (mBin opEq (mVar 5) (mVar 2))) (mSet 3 (mBin opAdd (mVar 6) (mVar 3))) mNx
def m_plus : AG.Env → M Fl := mSeq (mIf (mNotT (mTruth (mVar 1))) (mRet (mVar 0)) mNx) (mSeq (mSetT (tgTup [tgName 2, tgName 3]) (mBin opIx (mVar 1) (mC (.int 0)))) (mSeq (mSet 4 (mFrz (mLc (mItems (mVar 0)) (tgName 7) t_plus_1 e_plus_1 [7]))) (mSeq (mFor (mItems (mVar 0)) (tgTup [tgName 5, tgName 6]) b_plus_1) (mRet (mBin opAdd (mBin opAdd (mCall fTuple (mCons (mVar 4) mNil)) (mTup (mCons (mTup (mCons (mVar 2) (mCons (mVar 3) mNil))) mNil))) (mSl (mVar 1) (mPart (mC (.int 1))) mNoPart))))))
def f_plus : LOp := mFn 8 m_plus
def m__law_bound : AG.Env → M Fl := mSeq (mSet 1 (mCallN 1 f_power (mCons (mCall0 f__law_one) mNil))) (mSeq (mSet 2 (mCallN 1 f_power (mCons (mTup (mCons (mTup (mCons (mTup mNil) (mCons (mC (.int 2)) mNil))) mNil)) mNil))) (mSeq (mSet 3 (mLst (mCons (mTup (mCons (mTup (mCons (mTup mNil) (mCons (mC (.int 3)) mNil))) mNil)) (mCons (mVar 1) (mCons (mCallN 2 f_plus (mCons (mVar 1) (mCons (mTup (mCons (mTup (mCons (mTup mNil) (mCons (mC (.int 2)) mNil))) mNil)) mNil))) (mCons (mTup (mCons (mTup (mCons (mCall0 f__law_one) (mCons (mC (.int 2)) mNil))) mNil)) (mCons (mVar 2) (mCons (mCallN 2 f_plus (mCons (mVar 2) (mCons (mVar 1) mNil))) (mCons (mCallN 1 f_power (mCons (mTup (mCons (mTup (mCons (mTup mNil) (mCons (mC (.int 3)) mNil))) mNil)) mNil)) mNil))))))))) (mRet (mCallN 2 f__law_pick (mCons (mVar 0) (mCons (mBin opAdd (mVar 3) (mLst (mCons (mCallN 1 f_power (mCons (mVar 1) mNil)) (mCons (mCallN 2 f_plus (mCons (mCallN 1 f_power (mCons (mVar 1) mNil)) (mCons (mVar 1) mNil))) (mCons (mTup (mCons (mTup (mCons (mVar 1) (mCons (mC (.int 2)) mNil))) mNil)) mNil))))) mNil))))))
def f__law_bound : LOp := mFn 4 m__law_bound
def e__law_all_1 (self__law_all : LOp) : AG.Env → M D := mBin opAdd (mVar 6) (mTup (mCons (mTup (mCons (mVar 4) (mCons (mVar 7) mNil))) mNil))
def b__law_all_1 (self__law_all : LOp) : AG.Env → M Fl := mSeq (mOwnM fAppend 5 (mVar 6)) (mOwnM fExtend 5 (mFrz (mLc (mRng2 (mC (.int 1)) (mBin opAdd (mVar 1) (mC (.int 1)))) (tgName 7) mYes (e__law_all_1 self__law_all) [7])))
def e__law_all_2 (self__law_all : LOp) : AG.Env → M D := mVar 6
def t__law_all_1 (self__law_all : LOp) : AG.Env → M Bool := mTest (mBin opLt (mVar 6) (mVar 0))
def b__law_all_2 (self__law_all : LOp) : AG.Env → M Fl := mSeq (mSetOwn 5 (mLstF mNil)) (mSeq (mFor (mItems (mVar 3)) (tgName 6) (b__law_all_1 self__law_all)) (mFrzB 5 (mSet 3 (mFrz (mLc (mItems (mVar 5)) (tgName 6) (t__law_all_1 self__law_all) (e__law_all_2 self__law_all) [6])))))
def m__law_all (self__law_all : LOp) : AG.Env → M Fl := mSeq (mIf (mTest (mBin opEq (mVar 0) (mTup mNil))) (mRet (mLst mNil)) mNx) (mSeq (mSet 2 (mIfE (mTest (mBin opEq (mBin opIx (mBin opIx (mVar 0) (mC (.int 0))) (mC (.int 0))) (mTup mNil))) (mLst (mCons (mTup mNil) mNil)) (mCallN 2 self__law_all (mCons (mCallN 2 f_plus (mCons (mBin opIx (mBin opIx (mVar 0) (mC (.int 0))) (mC (.int 0))) (mCons (mCall0 f__law_one) mNil))) (mCons (mVar 1) mNil))))) (mSeq (mSet 3 (mLst (mCons (mTup mNil) mNil))) (mSeq (mFor (mItems (mUn opRev (mVar 2))) (tgName 4) (b__law_all_2 self__law_all)) (mRet (mCall (fSorted false) (mCons (mVar 3) mNil))))))
def f__law_all : LOp := recF (fun self => mFn 8 (m__law_all self)) 70
def m_checked : AG.Env → M Fl := mSeq (mIf (mTest (mBin opGe (mVar 0) (mC c_MOST_STAGE))) (mRaise 1) mNx) (mRet (mVar 0))
def f_checked : LOp := mFn 1 m_checked
def b_size_1 (self_size : LOp) : AG.Env → M Fl := mSet 1 (mCall fMax3 (mCons (mVar 1) (mCons (mVar 3) (mCons (mCallN 1 self_size (mCons (mVar 2) mNil)) mNil))))
def m_size (self_size : LOp) : AG.Env → M Fl := mSeq (mSet 1 (mC (.int 0))) (mSeq (mFor (mItems (mVar 0)) (tgTup [tgName 2, tgName 3]) (b_size_1 self_size)) (mRet (mVar 1)))
def f_size : LOp := recF (fun self => mFn 4 (m_size self)) 70
def b_count_below_1 (self_count_below : LOp) : AG.Env → M Fl := mSeq (mSet 5 (mCallN 2 self_count_below (mCons (mVar 3) (mCons (mVar 1) mNil)))) (mSeq (mSet 6 (mCallN 2 f_power_of (mCons (mBin opAdd (mVar 1) (mC (.int 1))) (mCons (mVar 5) mNil)))) (mSeq (mIf (mTest (mBin opGt (mCallN 1 f_size (mCons (mVar 3) mNil)) (mVar 1))) (mRet (mCallN 1 f_checked (mCons (mBin opAdd (mVar 2) (mVar 6)) mNil))) mNx) (mSeq (mSet 2 (mCallN 1 f_checked (mCons (mBin opAdd (mVar 2) (mBin opMul (mCall fMin (mCons (mVar 4) (mCons (mBin opAdd (mVar 1) (mC (.int 1))) mNil))) (mVar 6))) mNil))) (mIf (mTest (mBin opGt (mVar 4) (mVar 1))) (mRet (mVar 2)) mNx))))
def m_count_below (self_count_below : LOp) : AG.Env → M Fl := mSeq (mSet 2 (mC (.int 0))) (mSeq (mFor (mItems (mVar 0)) (tgTup [tgName 3, tgName 4]) (b_count_below_1 self_count_below)) (mRet (mVar 2)))
def f_count_below : LOp := recF (fun self => mFn 7 (m_count_below self)) 70
def c_ONE : D := (.tup [(.tup [(.tup []), (.int 1)])])
def c_ZERO : D := (.tup [])
def t_first_exponent_1 (self_first_exponent : LOp) (self_nth : LOp) : AG.Env → M Bool := mTest (mBin opLe (mBin opMul (mVar 4) (mBin opAdd (mVar 1) (mC (.int 1)))) (mVar 0))
def b_first_exponent_1 (self_first_exponent : LOp) (self_nth : LOp) : AG.Env → M Fl := mSeq (mSet 4 (mBin opMul (mVar 4) (mBin opAdd (mVar 1) (mC (.int 1))))) (mAug augAdd 3 (mC (.int 1)))
def m_first_exponent (self_first_exponent : LOp) (self_nth : LOp) : AG.Env → M Fl := mSeq (mSet 3 (mC (.int 0))) (mSeq (mSet 4 (mC (.int 1))) (mSeq (whileF (t_first_exponent_1 self_first_exponent self_nth) (b_first_exponent_1 self_first_exponent self_nth) 1000) (mRet (mIfE (mTest (mBin opGt (mVar 3) (mC (.int 0)))) (mCallN 3 self_nth (mCons (mVar 3) (mCons (mVar 1) (mCons (mCallN 2 f_plus (mCons (mBin opIx (mBin opIx (mVar 2) (mC (.int 0))) (mC (.int 0))) (mCons (mC c_ONE) mNil))) mNil)))) (mC c_ZERO)))))
def t_nth_1 (self_first_exponent : LOp) (self_nth : LOp) : AG.Env → M Bool := mTest (mBin opGt (mVar 0) (mC (.int 0)))
def b_nth_1 (self_first_exponent : LOp) (self_nth : LOp) : AG.Env → M Fl := mSeq (mSet 4 (mCallN 3 self_first_exponent (mCons (mVar 0) (mCons (mVar 1) (mCons (mVar 2) mNil))))) (mSeq (mSet 5 (mCallN 2 f_power_of (mCons (mBin opAdd (mVar 1) (mC (.int 1))) (mCons (mCallN 2 f_count_below (mCons (mVar 4) (mCons (mVar 1) mNil))) mNil)))) (mSeq (mSet 3 (mCallN 2 f_plus (mCons (mVar 3) (mCons (mTup (mCons (mTup (mCons (mVar 4) (mCons (mBin opDiv (mVar 0) (mVar 5)) mNil))) mNil)) mNil)))) (mSet 0 (mBin opMod (mVar 0) (mVar 5)))))
def m_nth (self_first_exponent : LOp) (self_nth : LOp) : AG.Env → M Fl := mSeq (mIf (mTest (mBin opGe (mVar 0) (mCallN 2 f_count_below (mCons (mVar 2) (mCons (mVar 1) mNil))))) (mRaise 2) mNx) (mSeq (mSet 3 (mC c_ZERO)) (mSeq (whileF (t_nth_1 self_first_exponent self_nth) (b_nth_1 self_first_exponent self_nth) 1000) (mRet (mVar 3))))
def f_first_exponent : LOp := (recP (fun a b => mFn 5 (m_first_exponent a b)) (fun a b => mFn 6 (m_nth a b)) 70).1
def f_nth : LOp := (recP (fun a b => mFn 5 (m_first_exponent a b)) (fun a b => mFn 6 (m_nth a b)) 70).2
def c_MOST_LIST : D := (.int 5000)
def e_in_order_1 : AG.Env → M D := mCallN 3 f_nth (mCons (mVar 3) (mCons (mVar 0) (mCons (mVar 1) mNil)))
def m_in_order : AG.Env → M Fl := mSeq (mSet 2 (mCallN 2 f_count_below (mCons (mVar 1) (mCons (mVar 0) mNil)))) (mSeq (mIf (mTest (mBin opGt (mVar 2) (mC c_MOST_LIST))) (mRaise 1) mNx) (mRet (mFrz (mLc (mRng1 (mVar 2)) (tgName 3) mYes e_in_order_1 [3]))))
def f_in_order : LOp := mFn 4 m_in_order
def e__law_size_1 (self__law_size : LOp) : AG.Env → M D := mCall fMax (mCons (mBin opIx (mVar 1) (mC (.int 1))) (mCons (mCallN 1 self__law_size (mCons (mBin opIx (mVar 1) (mC (.int 0))) mNil)) mNil))
def m__law_size (self__law_size : LOp) : AG.Env → M Fl := mRet (mCall fMax (mCons (mBin opAdd (mLst (mCons (mC (.int 0)) mNil)) (mFrz (mLc (mItems (mVar 0)) (tgName 1) mYes (e__law_size_1 self__law_size) [1]))) mNil))
def f__law_size : LOp := recF (fun self => mFn 2 (m__law_size self)) 70
def b__law_longest_1 (self__law_longest : LOp) : AG.Env → M Fl := mIf (mAndT (mTest (mBin opLt (mVar 6) (mVar 1))) (mTest (mBin opLe (mCallN 1 f__law_size (mCons (mVar 6) mNil)) (mVar 2)))) (mSet 5 (mCall fMax (mCons (mVar 5) (mCons (mBin opAdd (mC (.int 1)) (mCallN 4 self__law_longest (mCons (mVar 0) (mCons (mVar 6) (mCons (mBin opAdd (mVar 2) (mC (.int 1))) (mCons (mVar 3) mNil)))))) mNil)))) mNx
def m__law_longest (self__law_longest : LOp) : AG.Env → M Fl := mSeq (mSet 4 (mTup (mCons (mVar 1) (mCons (mVar 2) mNil)))) (mSeq (mIf (mTest (mBin (opDin not) (mVar 4) (mVar 3))) (mSeq (mSet 5 (mC (.int 0))) (mSeq (mFor (mItems (mVar 0)) (tgName 6) (b__law_longest_1 self__law_longest)) (mSetDx (mVar 3) (mVar 4) (mVar 5)))) mNx) (mRet (mBin opDix (mVar 3) (mVar 4))))
def f__law_longest : LOp := recF (fun self => mFn 7 (m__law_longest self)) 70
def m_greatest_below : AG.Env → M Fl := mSeq (mSet 2 (mCallN 2 f_count_below (mCons (mVar 0) (mCons (mVar 1) mNil)))) (mRet (mIfE (mTest (mBin opGt (mVar 2) (mC (.int 0)))) (mCallN 3 f_nth (mCons (mBin opSub (mVar 2) (mC (.int 1))) (mCons (mVar 1) (mCons (mVar 0) mNil)))) (mC .non)))
def f_greatest_below : LOp := mFn 3 m_greatest_below
def t_falling_1 : AG.Env → M Bool := mBorT 3 (mAndT (mTest (mBin (opIs not) (mVar 4) (mC .non))) (mTest (mBin opLt (mCall fLen (mCons (mVar 3) mNil)) (mVar 2))))
def b_falling_1 : AG.Env → M Fl := mSeq (mOwnM fAppend 3 (mVar 4)) (mSet 4 (mBor 3 (mCallN 2 f_greatest_below (mCons (mVar 4) (mCons (mBin opAdd (mVar 1) (mCall fLen (mCons (mVar 3) mNil))) mNil)))))
def m_falling : AG.Env → M Fl := mSeq (mSetOwn 3 (mLstF mNil)) (mSeq (mSet 4 (mCallN 2 f_greatest_below (mCons (mVar 0) (mCons (mVar 1) mNil)))) (mSeq (whileF t_falling_1 b_falling_1 1000) (mFrzB 3 (mRet (mVar 3)))))
def f_falling : LOp := mFn 5 m_falling
def e__law_same_1 (self__law_same : LOp) : AG.Env → M D := mCallN 2 self__law_same (mCons (mBin opIx (mVar 0) (mVar 2)) (mCons (mBin opIx (mVar 1) (mVar 2)) mNil))
def m__law_same (self__law_same : LOp) : AG.Env → M Fl := mSeq (mIf (mOrT (mAndT (mTruth (mIsi PyData.isTuple (mVar 0))) (mTruth (mIsi PyData.isTuple (mVar 1)))) (mAndT (mTruth (mIsi PyData.isList (mVar 0))) (mTruth (mIsi PyData.isList (mVar 1))))) (mRet (mAndV (mBin opEq (mCall fLen (mCons (mVar 0) mNil)) (mCall fLen (mCons (mVar 1) mNil))) (mCall fAll (mCons (mFrz (mLc (mRng1 (mCall fLen (mCons (mVar 0) mNil))) (tgName 2) mYes (e__law_same_1 self__law_same) [2])) mNil)))) mNx) (mSeq (mIf (mOrT (mTruth (mIsi PyData.isTuple (mVar 0))) (mOrT (mTruth (mIsi PyData.isTuple (mVar 1))) (mOrT (mTruth (mIsi PyData.isList (mVar 0))) (mTruth (mIsi PyData.isList (mVar 1)))))) (mRet (mC (.bl false))) mNx) (mRet (mAndV (mBin opEq (mVar 0) (mVar 1)) (mBin opEq (mIsi PyData.isBool (mVar 0)) (mIsi PyData.isBool (mVar 1))))))
def f__law_same : LOp := recF (fun self => mFn 3 (m__law_same self)) 70
def e__law_is_plain_1 (self__law_is_plain : LOp) : AG.Env → M D := mCallN 1 self__law_is_plain (mCons (mVar 1) mNil)
def m__law_is_plain (self__law_is_plain : LOp) : AG.Env → M Fl := mSeq (mIf (mOrT (mTruth (mIsi PyData.isTuple (mVar 0))) (mTruth (mIsi PyData.isList (mVar 0)))) (mRet (mCall fAll (mCons (mFrz (mLc (mItems (mVar 0)) (tgName 1) mYes (e__law_is_plain_1 self__law_is_plain) [1])) mNil))) mNx) (mRet (mOrV (mBin (opIs id) (mVar 0) (mC .non)) (mOrV (mIsi PyData.isStr (mVar 0)) (mIsi PyData.isInt (mVar 0)))))
def f__law_is_plain : LOp := recF (fun self => mFn 2 (m__law_is_plain self)) 70
def m__law_refuses : AG.Env → M Fl := mSeq (mTry 3 s_of_NotAllowed (mExpr (mCallN 3 f_nth (mCons (mVar 0) (mCons (mVar 1) (mCons (mVar 2) mNil))))) (mRet (mC (.bl true)))) (mRet (mC (.bl false)))
def f__law_refuses : LOp := mFn 3 m__law_refuses
def b_is_fall_1 : AG.Env → M Fl := mIf (mOrT (mTest (mBin opGe (mVar 4) (mIfE (mTest (mBin opGt (mVar 3) (mC (.int 0)))) (mBin opIx (mVar 2) (mBin opSub (mVar 3) (mC (.int 1)))) (mVar 0)))) (mTest (mBin opGt (mCallN 1 f_size (mCons (mVar 4) mNil)) (mBin opAdd (mVar 1) (mVar 3))))) (mRet (mC (.bl false))) mNx
def m_is_fall : AG.Env → M Fl := mSeq (mFor (mEnum (mCons (mVar 2) mNil)) (tgTup [tgName 3, tgName 4]) b_is_fall_1) (mRet (mC (.bl true)))
def f_is_fall : LOp := mFn 5 m_is_fall
def t_fall_1 : AG.Env → M Bool := mTest (mBin (opIs not) (mVar 3) (mC .non))
def b_fall_1 : AG.Env → M Fl := mSeq (mAug augAdd 2 (mC (.int 1))) (mSeq (mIf (mTest (mBin opGt (mVar 2) (mC c_MOST_LIST))) (mRaise 1) mNx) (mSeq (mSet 0 (mVar 3)) (mSet 3 (mCallN 2 f_greatest_below (mCons (mVar 0) (mCons (mBin opAdd (mVar 1) (mVar 2)) mNil))))))
def m_fall : AG.Env → M Fl := mSeq (mSet 2 (mC (.int 0))) (mSeq (mSet 3 (mCallN 2 f_greatest_below (mCons (mVar 0) (mCons (mVar 1) mNil)))) (mSeq (whileF t_fall_1 b_fall_1 1000) (mRet (mVar 2))))
def f_fall : LOp := mFn 4 m_fall
def q_law_0 : AG.Env → M Fl := mSet 2 (mCallN 1 f__law_bound (mCons (mVar 1) mNil))
def q_law_1 : AG.Env → M Fl := mSet 3 (mCallN 2 f__law_draw (mCons (mVar 1) (mCons (mC (.int 3)) mNil)))
def q_law_2 : AG.Env → M Fl := mIf (mTest (mBin opGe (mVar 2) (mCallN 1 f_power (mCons (mCallN 1 f_power (mCons (mCall0 f__law_one) mNil)) mNil)))) (mSet 3 (mCallN 2 f__law_draw (mCons (mVar 1) (mCons (mC (.int 2)) mNil)))) mNx
def q_law_3 : AG.Env → M Fl := mSet 4 (mCallN 2 f__law_all (mCons (mVar 2) (mCons (mVar 3) mNil)))
def q_law_4 : AG.Env → M Fl := mIf (mTest (mBin opGt (mCall fLen (mCons (mVar 4) mNil)) (mC (.int 300)))) (mRet (mCallN 2 f__law_same (mCons (mCallN 2 f_count_below (mCons (mVar 2) (mCons (mVar 3) mNil))) (mCons (mCall fLen (mCons (mVar 4) mNil)) mNil)))) mNx
def q_law_5 : AG.Env → M Fl := mSet 5 (mCallN 2 f_in_order (mCons (mVar 3) (mCons (mVar 2) mNil)))
def q_law_6 : AG.Env → M Fl := mIf (mOrT (mNotT (mTruth (mCallN 1 f__law_is_plain (mCons (mVar 5) mNil)))) (mOrT (mNotT (mTruth (mCallN 2 f__law_same (mCons (mVar 5) (mCons (mVar 4) mNil))))) (mNotT (mTruth (mCallN 2 f__law_same (mCons (mCallN 2 f_count_below (mCons (mVar 2) (mCons (mVar 3) mNil))) (mCons (mCall fLen (mCons (mVar 4) mNil)) mNil))))))) (mRet (mC (.bl false))) mNx
def q_law_7 : AG.Env → M Fl := mIf (mOrT (mNotT (mTruth (mCallN 3 f__law_refuses (mCons (mCall fLen (mCons (mVar 4) mNil)) (mCons (mVar 3) (mCons (mVar 2) mNil)))))) (mOrT (mNotT (mTruth (mCallN 2 f__law_same (mCons (mCallN 2 f_greatest_below (mCons (mVar 2) (mCons (mVar 3) mNil))) (mCons (mBin opIx (mVar 4) (mUn opNeg (mC (.int 1)))) mNil))))) (mTest (mBin (opIs not) (mCallN 2 f_greatest_below (mCons (mTup mNil) (mCons (mVar 3) mNil))) (mC .non))))) (mRet (mC (.bl false))) mNx
def q_law_8 : AG.Env → M Fl := mSet 6 (mCallN 2 f__law_draw (mCons (mVar 1) (mCons (mCall fLen (mCons (mVar 4) mNil)) mNil)))
def q_law_9 : AG.Env → M Fl := mIf (mOrT (mNotT (mTruth (mCallN 2 f__law_same (mCons (mCallN 3 f_nth (mCons (mVar 6) (mCons (mVar 3) (mCons (mVar 2) mNil)))) (mCons (mBin opIx (mVar 4) (mVar 6)) mNil))))) (mNotT (mTruth (mCallN 2 f__law_same (mCons (mCallN 1 f_size (mCons (mBin opIx (mVar 4) (mVar 6)) mNil)) (mCons (mCallN 1 f__law_size (mCons (mBin opIx (mVar 4) (mVar 6)) mNil)) mNil)))))) (mRet (mC (.bl false))) mNx
def q_law_10 : AG.Env → M Fl := mIf (mNotT (mTruth (mCallN 2 f__law_same (mCons (mCallN 2 f_count_below (mCons (mBin opIx (mVar 4) (mVar 6)) (mCons (mVar 3) mNil))) (mCons (mVar 6) mNil))))) (mRet (mC (.bl false))) mNx
def q_law_11 : AG.Env → M Fl := mSet 7 (mCallN 2 f__law_pick (mCons (mVar 1) (mCons (mLst (mCons (mTup (mCons (mTup (mCons (mTup mNil) (mCons (mC (.int 2)) mNil))) mNil)) (mCons (mCallN 1 f_power (mCons (mCall0 f__law_one) mNil)) (mCons (mCallN 2 f_plus (mCons (mCallN 1 f_power (mCons (mCall0 f__law_one) mNil)) (mCons (mCall0 f__law_one) mNil))) (mCons (mTup (mCons (mTup (mCons (mCall0 f__law_one) (mCons (mC (.int 2)) mNil))) mNil)) mNil))))) mNil)))
def q_law_12 : AG.Env → M Fl := mSet 8 (mCallN 2 f__law_draw (mCons (mVar 1) (mCons (mC (.int 2)) mNil)))
def q_law_13 : AG.Env → M Fl := mSet 9 (mCallN 2 f__law_all (mCons (mVar 7) (mCons (mC (.int 12)) mNil)))
def q_law_14 : AG.Env → M Fl := mSet 10 (mCallN 4 f__law_longest (mCons (mVar 9) (mCons (mVar 7) (mCons (mVar 8) (mCons mNewD mNil)))))
def q_law_15 : AG.Env → M Fl := mSet 11 (mCallN 3 f_falling (mCons (mVar 7) (mCons (mVar 8) (mCons (mC (.int 100)) mNil))))
def q_law_16 : AG.Env → M Fl := mIf (mOrT (mNotT (mTruth (mCallN 2 f__law_same (mCons (mCallN 2 f_fall (mCons (mVar 7) (mCons (mVar 8) mNil))) (mCons (mVar 10) mNil))))) (mOrT (mTest (mBin opNe (mCall fLen (mCons (mVar 11) mNil)) (mVar 10))) (mTest (mBin (opIs not) (mCallN 3 f_is_fall (mCons (mVar 7) (mCons (mVar 8) (mCons (mVar 11) mNil)))) (mC (.bl true)))))) (mRet (mC (.bl false))) mNx
def q_law_17 : AG.Env → M Fl := mIf (mNotT (mTruth (mCallN 2 f__law_same (mCons (mCallN 3 f_falling (mCons (mVar 7) (mCons (mVar 8) (mCons (mC (.int 2)) mNil)))) (mCons (mSl (mVar 11) mNoPart (mPart (mC (.int 2)))) mNil))))) (mRet (mC (.bl false))) mNx
def q_law_18 : AG.Env → M Fl := mRet (mOrV (mBin opEq (mVar 11) (mLst mNil)) (mAndV (mBin (opIs id) (mCallN 3 f_is_fall (mCons (mVar 7) (mCons (mVar 8) (mCons (mBin opAdd (mVar 11) (mLst (mCons (mBin opIx (mVar 11) (mUn opNeg (mC (.int 1)))) mNil))) mNil)))) (mC (.bl false))) (mBin (opIs id) (mCallN 3 f_is_fall (mCons (mVar 7) (mCons (mVar 8) (mCons (mLst (mCons (mVar 7) mNil)) mNil)))) (mC (.bl false)))))
def qd_law_1 : AG.Env → M Fl := mDropL [0, 3, 4, 5, 6, 7, 8, 9, 10, 11] q_law_1
def qd_law_2 : AG.Env → M Fl := mDropL [0, 4, 5, 6, 7, 8, 9, 10, 11] q_law_2
def qd_law_3 : AG.Env → M Fl := mDropL [0, 4, 5, 6, 7, 8, 9, 10, 11] q_law_3
def qd_law_4 : AG.Env → M Fl := mDropL [0, 5, 6, 7, 8, 9, 10, 11] q_law_4
def qd_law_5 : AG.Env → M Fl := mDropL [0, 5, 6, 7, 8, 9, 10, 11] q_law_5
def qd_law_6 : AG.Env → M Fl := mDropL [0, 6, 7, 8, 9, 10, 11] q_law_6
def qd_law_7 : AG.Env → M Fl := mDropL [0, 5, 6, 7, 8, 9, 10, 11] q_law_7
def qd_law_8 : AG.Env → M Fl := mDropL [0, 5, 6, 7, 8, 9, 10, 11] q_law_8
def qd_law_9 : AG.Env → M Fl := mDropL [0, 5, 7, 8, 9, 10, 11] q_law_9
def qd_law_10 : AG.Env → M Fl := mDropL [0, 2, 5, 7, 8, 9, 10, 11] q_law_10
def qd_law_11 : AG.Env → M Fl := mDropL [0, 2, 3, 4, 5, 6, 7, 8, 9, 10, 11] q_law_11
def qd_law_12 : AG.Env → M Fl := mDropL [0, 2, 3, 4, 5, 6, 8, 9, 10, 11] q_law_12
def qd_law_13 : AG.Env → M Fl := mDropL [0, 1, 2, 3, 4, 5, 6, 9, 10, 11] q_law_13
def qd_law_14 : AG.Env → M Fl := mDropL [0, 1, 2, 3, 4, 5, 6, 10, 11] q_law_14
def qd_law_15 : AG.Env → M Fl := mDropL [0, 1, 2, 3, 4, 5, 6, 9, 11] q_law_15
def qd_law_16 : AG.Env → M Fl := mDropL [0, 1, 2, 3, 4, 5, 6, 9] q_law_16
def qd_law_17 : AG.Env → M Fl := mDropL [0, 1, 2, 3, 4, 5, 6, 9, 10] q_law_17
def qd_law_18 : AG.Env → M Fl := mDropL [0, 1, 2, 3, 4, 5, 6, 9, 10] q_law_18
def z_law_18 : AG.Env → M Fl := mDropL [0, 1, 2, 3, 4, 5, 6, 9, 10] q_law_18
def z_law_17 : AG.Env → M Fl := mDropL [0, 1, 2, 3, 4, 5, 6, 9, 10] (mSeq q_law_17 z_law_18)
def z_law_16 : AG.Env → M Fl := mDropL [0, 1, 2, 3, 4, 5, 6, 9] (mSeq q_law_16 z_law_17)
def z_law_15 : AG.Env → M Fl := mDropL [0, 1, 2, 3, 4, 5, 6, 9, 11] (mSeq q_law_15 z_law_16)
def z_law_14 : AG.Env → M Fl := mDropL [0, 1, 2, 3, 4, 5, 6, 10, 11] (mSeq q_law_14 z_law_15)
def z_law_13 : AG.Env → M Fl := mDropL [0, 1, 2, 3, 4, 5, 6, 9, 10, 11] (mSeq q_law_13 z_law_14)
def z_law_12 : AG.Env → M Fl := mDropL [0, 2, 3, 4, 5, 6, 8, 9, 10, 11] (mSeq q_law_12 z_law_13)
def z_law_11 : AG.Env → M Fl := mDropL [0, 2, 3, 4, 5, 6, 7, 8, 9, 10, 11] (mSeq q_law_11 z_law_12)
def z_law_10 : AG.Env → M Fl := mDropL [0, 2, 5, 7, 8, 9, 10, 11] (mSeq q_law_10 z_law_11)
def z_law_9 : AG.Env → M Fl := mDropL [0, 5, 7, 8, 9, 10, 11] (mSeq q_law_9 z_law_10)
def z_law_8 : AG.Env → M Fl := mDropL [0, 5, 6, 7, 8, 9, 10, 11] (mSeq q_law_8 z_law_9)
def z_law_7 : AG.Env → M Fl := mDropL [0, 5, 6, 7, 8, 9, 10, 11] (mSeq q_law_7 z_law_8)
def z_law_6 : AG.Env → M Fl := mDropL [0, 6, 7, 8, 9, 10, 11] (mSeq q_law_6 z_law_7)
def z_law_5 : AG.Env → M Fl := mDropL [0, 5, 6, 7, 8, 9, 10, 11] (mSeq q_law_5 z_law_6)
def z_law_4 : AG.Env → M Fl := mDropL [0, 5, 6, 7, 8, 9, 10, 11] (mSeq q_law_4 z_law_5)
def z_law_3 : AG.Env → M Fl := mDropL [0, 4, 5, 6, 7, 8, 9, 10, 11] (mSeq q_law_3 z_law_4)
def z_law_2 : AG.Env → M Fl := mDropL [0, 4, 5, 6, 7, 8, 9, 10, 11] (mSeq q_law_2 z_law_3)
def z_law_1 : AG.Env → M Fl := mDropL [0, 3, 4, 5, 6, 7, 8, 9, 10, 11] (mSeq q_law_1 z_law_2)
def r_law_1 : AG.Env → M Fl := mSeq q_law_0 z_law_1
def m_law : AG.Env → M Fl := mSeq (mSet 1 (mCallN 1 f__law_stream (mCons (mVar 0) mNil))) (mDropB 0 r_law_1)
def f_law : LOp := mFn 12 m_law
end L_k05
set_option maxHeartbeats 4000000
namespace L_k05
open PySem L2 AG PyProof.Rows
section
variable {P : Program} {w : World} {K : PySem.W.Frag} {mg : Str → Option Value} {base : Heap} {ca : CA}
def top (i : Nat) : Stmt := PySem.Challenge.pw_allgrades_k05_whole_sizes_and_falls.main.body.getD i (.Pass ⟨0, 0, 0, 0⟩)
abbrev s__law_stream : Stmt := top 25
def N__law_stream : List Str := ["script", "mixed", "cell"]
theorem sc__law_stream : FnScope N__law_stream ["script"] (defScope s__law_stream) := C8.fnScope_by (by decide +kernel)
theorem ok__law_stream (D__law_stream : DefOk K mg "_law_stream" s__law_stream ["script"]) (z_int : mg "int" = none) (z_list : mg "list" = none) : FnM P w K mg base ca 1 "_law_stream" 1 fg__law_stream := fnm_mk D__law_stream sc__law_stream (fun f cdv A outer s H E hr => by
    have nd := sc__law_stream.nd
    have tk := takes_of (X := cxOf (L2.CX P w) P w K mg base N__law_stream "_law_stream" (defScope s__law_stream) f cdv A outer s H E) rfl rfl rfl rfl
    exact mss_cons (ms_set (i := 1) me_int nd) (mss_cons (ms_for (passes_of rfl) rfl (mi_seq (me_var 0)) (pg_name (i := 2) nd rfl (by first | exact Or.inl rfl | exact Or.inr rfl)) (gok_name (i := 2) (vs := [2]) (by decide)) (mss_one (ms_set (i := 1) (me_mod (me_int1 z_int (ma_cons (me_add (me_add (me_mul (me_var 1) me_int) (me_mod (me_int1 z_int (ma_cons (me_var 2) ma_nil)) me_int)) me_int) ma_nil)) me_int) nd))) (mss_one (ms_ret (me_newLst (ma_cons (me_list1 z_list (ma_cons (me_var 0) ma_nil)) (ma_cons me_int (ma_cons me_int (ma_cons (me_var 1) ma_nil)))))))))
theorem ok2__law_stream (F : FnM P w K mg base ca 1 "_law_stream" 1 fg__law_stream) : FnM P w K mg base ca 1 "_law_stream" 1 fStream := fnm_stream F stream_gen
abbrev s_power : Stmt := top 7
def N_power : List Str := ["a"]
theorem sc_power : FnScope N_power ["a"] (defScope s_power) := C8.fnScope_by (by decide +kernel)
theorem ok_power (D_power : DefOk K mg "power" s_power ["a"]) : FnM P w K mg base ca 1 "power" 1 f_power := fnm_mk D_power sc_power (fun f cdv A outer s H E hr => by
    have nd := sc_power.nd
    have tk := takes_of (X := cxOf (L2.CX P w) P w K mg base N_power "power" (defScope s_power) f cdv A outer s H E) rfl rfl rfl rfl
    exact mss_one (ms_ret (me_tup (ma_cons (me_tup (ma_cons (me_var 0) (ma_cons me_int ma_nil))) ma_nil))))
abbrev s__law_draw : Stmt := top 26
def N__law_draw : List Str := ["stream", "many", "value"]
theorem sc__law_draw : FnScope N__law_draw ["stream", "many"] (defScope s__law_draw) := C8.fnScope_by (by decide +kernel)
theorem ok__law_draw (D__law_draw : DefOk K mg "_law_draw" s__law_draw ["stream", "many"]) (z_len : mg "len" = none) (z_int : mg "int" = none) (z_abs : mg "abs" = none) : FnM P w K mg base ca 1 "_law_draw" 2 fg__law_draw := fnm_mk D__law_draw sc__law_draw (fun f cdv A outer s H E hr => by
    have nd := sc__law_draw.nd
    have tk := takes_of (X := cxOf (L2.CX P w) P w K mg base N__law_draw "_law_draw" (defScope s__law_draw) f cdv A outer s H E) rfl rfl rfl rfl
    exact mss_cons (ms_if (mw_pt (mw_and (mt_eq hr (me_ix (me_var 0) me_int (fun _ _ => rfl)) me_int) (mw_and1 (mt_lt hr (me_ix (me_var 0) me_int (fun _ _ => rfl)) (me_len z_len (ma_cons (me_ix (me_var 0) me_int (fun _ _ => rfl)) ma_nil)))))) (mss_cons (ms_setIx (me_abs z_abs (ma_cons (me_int1 z_int (ma_cons (me_ix (me_ix (me_var 0) me_int (fun _ _ => rfl)) (me_ix (me_var 0) me_int (fun _ _ => rfl)) (fun _ _ => rfl)) ma_nil)) ma_nil)) (me_var 0) me_int) (mss_one (ms_setIx (me_add (me_ix (me_var 0) me_int (fun _ _ => rfl)) me_int) (me_var 0) me_int))) mss_nil) (mss_cons (ms_if (mt_eq hr (me_ix (me_var 0) me_int (fun _ _ => rfl)) me_int) (mss_cons (ms_setIx (me_mod (me_int1 z_int (ma_cons (me_add (me_mul (me_ix (me_var 0) me_int (fun _ _ => rfl)) me_int) me_int) ma_nil)) me_int) (me_var 0) me_int) (mss_one (ms_ret (me_mod (me_int1 z_int (ma_cons (me_div (me_ix (me_var 0) me_int (fun _ _ => rfl)) me_int) ma_nil)) (me_var 1))))) mss_nil) (mss_cons (ms_set (i := 2) (me_mod (me_int1 z_int (ma_cons (me_ix (me_var 0) me_int (fun _ _ => rfl)) ma_nil)) (me_var 1)) nd) (mss_cons (ms_setIx (me_div (me_ix (me_var 0) me_int (fun _ _ => rfl)) (me_var 1)) (me_var 0) me_int) (mss_one (ms_ret (me_var 2)))))))
theorem ok2__law_draw (F : FnM P w K mg base ca 1 "_law_draw" 2 fg__law_draw) : FnM P w K mg base ca 1 "_law_draw" 2 fDraw := fnm_draw F draw_gen
abbrev s__law_pick : Stmt := top 27
def N__law_pick : List Str := ["stream", "rows"]
theorem sc__law_pick : FnScope N__law_pick ["stream", "rows"] (defScope s__law_pick) := C8.fnScope_by (by decide +kernel)
theorem ok__law_pick (D__law_pick : DefOk K mg "_law_pick" s__law_pick ["stream", "rows"]) (z_len : mg "len" = none) (F__law_draw : FnM P w K mg base ca 1 "_law_draw" 2 f__law_draw) : FnM P w K mg base ca 2 "_law_pick" 2 f__law_pick := fnm_mk D__law_pick sc__law_pick (fun f cdv A outer s H E hr => by
    have nd := sc__law_pick.nd
    have tk := takes_of (X := cxOf (L2.CX P w) P w K mg base N__law_pick "_law_pick" (defScope s__law_pick) f cdv A outer s H E) rfl rfl rfl rfl
    exact mss_one (ms_ret (me_ix (me_var 1) (me_call F__law_draw (hr.mono (by decide)) tk (ma_cons (me_var 0) (ma_cons (me_len z_len (ma_cons (me_var 1) ma_nil)) ma_nil))) (fun _ _ => rfl))))
abbrev s__law_one : Stmt := top 24
def N__law_one : List Str := []
theorem sc__law_one : FnScope N__law_one [] (defScope s__law_one) := C8.fnScope_by (by decide +kernel)
theorem ok__law_one (D__law_one : DefOk K mg "_law_one" s__law_one []) : FnM P w K mg base ca 1 "_law_one" 0 f__law_one := fnm_mk D__law_one sc__law_one (fun f cdv A outer s H E hr => by
    have nd := sc__law_one.nd
    have tk := takes_of (X := cxOf (L2.CX P w) P w K mg base N__law_one "_law_one" (defScope s__law_one) f cdv A outer s H E) rfl rfl rfl rfl
    exact mss_one (ms_ret (me_tup (ma_cons (me_tup (ma_cons (me_tup ma_nil) (ma_cons me_int ma_nil))) ma_nil))))
abbrev s_power_of : Stmt := top 15
def N_power_of : List Str := ["base", "exponent", "found", "_"]
theorem sc_power_of : FnScope N_power_of ["base", "exponent"] (defScope s_power_of) := C8.fnScope_by (by decide +kernel)
theorem ok_power_of (D_power_of : DefOk K mg "power_of" s_power_of ["base", "exponent"]) (z_range : mg "range" = none) (g_MOST_STAGE : GC K mg "MOST_STAGE" c_MOST_STAGE) (e_Above : EC K mg ca 1 "Above") : FnM P w K mg base ca 1 "power_of" 2 f_power_of := fnm_mk D_power_of sc_power_of (fun f cdv A outer s H E hr => by
    have nd := sc_power_of.nd
    have tk := takes_of (X := cxOf (L2.CX P w) P w K mg base N_power_of "power_of" (defScope s_power_of) f cdv A outer s H E) rfl rfl rfl rfl
    exact mss_cons (ms_set (i := 2) me_int nd) (mss_cons (ms_for (passes_of rfl) rfl (mi_rng1 z_range (me_var 1)) (pg_name (i := 3) nd rfl (by first | exact Or.inl rfl | exact Or.inr rfl)) (gok_name (i := 3) (vs := [3]) (by decide)) (mss_cons (ms_set (i := 2) (me_mul (me_var 2) (me_var 0)) nd) (mss_cons (ms_if (mt_ge hr (me_var 2) (me_glob g_MOST_STAGE)) (mss_one (ms_raise e_Above rfl tk)) mss_nil) (mss_one (ms_if (mt_lt hr (me_var 0) me_int) (mss_one (ms_ret (me_var 2))) mss_nil))))) (mss_one (ms_ret (me_var 2)))))
abbrev s_plus : Stmt := top 6
def N_plus : List Str := ["a", "b", "first", "count", "kept", "power_of", "more", "pair"]
theorem sc_plus : FnScope N_plus ["a", "b"] (defScope s_plus) := C8.fnScope_by (by decide +kernel)
theorem ok_plus (D_plus : DefOk K mg "plus" s_plus ["a", "b"]) (z_tuple : mg "tuple" = none) (F_power_of : FnM P w K mg base ca 1 "power_of" 2 f_power_of) : FnM P w K mg base ca 2 "plus" 2 f_plus := fnm_mk D_plus sc_plus (fun f cdv A outer s H E hr => by
    have nd := sc_plus.nd
    have tk := takes_of (X := cxOf (L2.CX P w) P w K mg base N_plus "plus" (defScope s_plus) f cdv A outer s H E) rfl rfl rfl rfl
    exact mss_cons (ms_if (mt_not (mt_truth (me_var 1))) (mss_one (ms_ret (me_var 0))) mss_nil) (mss_cons (ms_setT (me_ix (me_var 1) me_int (fun _ _ => rfl)) (pg_tup (n := 2) rfl (pgs_cons (pg_name (i := 2) nd rfl (by first | exact Or.inl rfl | exact Or.inr rfl)) (pgs_cons (pg_name (i := 3) nd rfl (by first | exact Or.inl rfl | exact Or.inr rfl)) pgs_nil))) (gok_tup (n := 2) rfl (gsok_cons (gok_name (i := 2) (vs := [2, 3]) (by decide)) (gsok_cons (gok_name (i := 3) (vs := [2, 3]) (by decide)) gsok_nil)))) (mss_cons (ms_setLc (i := 4) (own := [("pair", 7)]) rfl nd (mi_seq (me_var 0)) (blkOk_by (N := N_plus) (sc := defScope s_plus) (own := [("pair", 7)]) (by decide +kernel)) (gok_name (i := 7) (vs := [7]) (by decide)) (fun _ _ _ _ _ => pg_name (i := 7) nd rfl (by first | exact Or.inl rfl | exact Or.inr rfl)) (fun _ _ _ _ _ => mts_one (mt_gt hr (me_ix (me_var 7) me_int (fun _ _ => rfl)) (me_var 2))) (fun _ _ _ _ _ => me_var 7)) (mss_cons (ms_for (passes_of rfl) rfl (mi_seq (me_var 0)) (pg_tup (n := 2) rfl (pgs_cons (pg_name (i := 5) nd rfl (by first | exact Or.inl rfl | exact Or.inr rfl)) (pgs_cons (pg_name (i := 6) nd rfl (by first | exact Or.inl rfl | exact Or.inr rfl)) pgs_nil))) (gok_tup (n := 2) rfl (gsok_cons (gok_name (i := 5) (vs := [5, 6]) (by decide)) (gsok_cons (gok_name (i := 6) (vs := [5, 6]) (by decide)) gsok_nil))) (mss_one (ms_if (mt_eq hr (me_var 5) (me_var 2)) (mss_one (ms_set (i := 3) (me_add (me_var 6) (me_var 3)) nd)) mss_nil))) (mss_one (ms_ret (me_add (me_add (me_tuple1 z_tuple (ma_cons (me_var 4) ma_nil)) (me_tup (ma_cons (me_tup (ma_cons (me_var 2) (ma_cons (me_var 3) ma_nil))) ma_nil))) (me_slice (me_var 1) (mo_some me_int) mo_none))))))))
abbrev s__law_bound : Stmt := top 34
def N__law_bound : List Str := ["stream", "omega", "square", "rows"]
theorem sc__law_bound : FnScope N__law_bound ["stream"] (defScope s__law_bound) := C8.fnScope_by (by decide +kernel)
theorem ok__law_bound (D__law_bound : DefOk K mg "_law_bound" s__law_bound ["stream"]) (F__law_one : FnM P w K mg base ca 1 "_law_one" 0 f__law_one) (F__law_pick : FnM P w K mg base ca 2 "_law_pick" 2 f__law_pick) (F_plus : FnM P w K mg base ca 2 "plus" 2 f_plus) (F_power : FnM P w K mg base ca 1 "power" 1 f_power) : FnM P w K mg base ca 3 "_law_bound" 1 f__law_bound := fnm_mk D__law_bound sc__law_bound (fun f cdv A outer s H E hr => by
    have nd := sc__law_bound.nd
    have tk := takes_of (X := cxOf (L2.CX P w) P w K mg base N__law_bound "_law_bound" (defScope s__law_bound) f cdv A outer s H E) rfl rfl rfl rfl
    exact mss_cons (ms_set (i := 1) (me_call F_power (hr.mono (by decide)) tk (ma_cons (me_call0 F__law_one (hr.mono (by decide))) ma_nil)) nd) (mss_cons (ms_set (i := 2) (me_call F_power (hr.mono (by decide)) tk (ma_cons (me_tup (ma_cons (me_tup (ma_cons (me_tup ma_nil) (ma_cons me_int ma_nil))) ma_nil)) ma_nil)) nd) (mss_cons (ms_set (i := 3) (me_lst (ma_cons (me_tup (ma_cons (me_tup (ma_cons (me_tup ma_nil) (ma_cons me_int ma_nil))) ma_nil)) (ma_cons (me_var 1) (ma_cons (me_call F_plus (hr.mono (by decide)) tk (ma_cons (me_var 1) (ma_cons (me_tup (ma_cons (me_tup (ma_cons (me_tup ma_nil) (ma_cons me_int ma_nil))) ma_nil)) ma_nil))) (ma_cons (me_tup (ma_cons (me_tup (ma_cons (me_call0 F__law_one (hr.mono (by decide))) (ma_cons me_int ma_nil))) ma_nil)) (ma_cons (me_var 2) (ma_cons (me_call F_plus (hr.mono (by decide)) tk (ma_cons (me_var 2) (ma_cons (me_var 1) ma_nil))) (ma_cons (me_call F_power (hr.mono (by decide)) tk (ma_cons (me_tup (ma_cons (me_tup (ma_cons (me_tup ma_nil) (ma_cons me_int ma_nil))) ma_nil)) ma_nil)) ma_nil)))))))) nd) (mss_one (ms_ret (me_call F__law_pick (hr.mono (by decide)) tk (ma_cons (me_var 0) (ma_cons (me_add (me_var 3) (me_lst (ma_cons (me_call F_power (hr.mono (by decide)) tk (ma_cons (me_var 1) ma_nil)) (ma_cons (me_call F_plus (hr.mono (by decide)) tk (ma_cons (me_call F_power (hr.mono (by decide)) tk (ma_cons (me_var 1) ma_nil)) (ma_cons (me_var 1) ma_nil))) (ma_cons (me_tup (ma_cons (me_tup (ma_cons (me_var 1) (ma_cons me_int ma_nil))) ma_nil)) ma_nil))))) ma_nil))))))))
abbrev s__law_all : Stmt := top 30
def N__law_all : List Str := ["bound", "k", "exponents", "found", "exponent", "longer", "a", "n"]
theorem sc__law_all : FnScope N__law_all ["bound", "k"] (defScope s__law_all) := C8.fnScope_by (by decide +kernel)
theorem st__law_all (D__law_all : DefOk K mg "_law_all" s__law_all ["bound", "k"]) (z_range : mg "range" = none) (z_sorted : mg "sorted" = none) (F__law_one : FnM P w K mg base ca 1 "_law_one" 0 f__law_one) (F_plus : FnM P w K mg base ca 2 "plus" 2 f_plus) (k : Nat) (self__law_all : LOp) (F__law_all : FnM P w K mg base ca k "_law_all" 2 self__law_all) (hk : 2 ≤ k) : FnM P w K mg base ca (k + 1) "_law_all" 2 (mFn 8 (m__law_all self__law_all)) := fnm_mk D__law_all sc__law_all (fun f cdv A outer s H E hr => by
    have nd := sc__law_all.nd
    have tk := takes_of (X := cxOf (L2.CX P w) P w K mg base N__law_all "_law_all" (defScope s__law_all) f cdv A outer s H E) rfl rfl rfl rfl
    exact mss_cons (ms_if (mt_eq hr (me_var 0) (me_tup ma_nil)) (mss_one (ms_ret (me_lst ma_nil))) mss_nil) (mss_cons (ms_set (i := 2) (me_if (mt_eq hr (me_ix (me_ix (me_var 0) me_int (fun _ _ => rfl)) me_int (fun _ _ => rfl)) (me_tup ma_nil)) (me_lst (ma_cons (me_tup ma_nil) ma_nil)) (me_call F__law_all hr tk (ma_cons (me_call F_plus (hr.mono (Nat.le_trans (by decide) hk)) tk (ma_cons (me_ix (me_ix (me_var 0) me_int (fun _ _ => rfl)) me_int (fun _ _ => rfl)) (ma_cons (me_call0 F__law_one (hr.mono (Nat.le_trans (by decide) hk))) ma_nil))) (ma_cons (me_var 1) ma_nil)))) nd) (mss_cons (ms_set (i := 3) (me_lst (ma_cons (me_tup ma_nil) ma_nil)) nd) (mss_cons (ms_for (passes_of rfl) rfl (mi_seq (me_rev (me_var 2))) (pg_name (i := 4) nd rfl (by first | exact Or.inl rfl | exact Or.inr rfl)) (gok_name (i := 4) (vs := [4]) (by decide)) (mss_cons (ms_setOwn (i := 5) (mf_lst ma_nil) nd) (mss_cons (ms_for (passes_of rfl) rfl (mi_seq (me_var 3)) (pg_name (i := 6) nd rfl (by first | exact Or.inl rfl | exact Or.inr rfl)) (gok_name (i := 6) (vs := [6]) (by decide)) (mss_cons (ms_own PySem.F.slot_list_append PySem.F.type_list_append mt_append om_append 5 (me_var 6)) (mss_one (ms_own PySem.F.slot_list_extend PySem.F.type_list_extend mt_extend om_extend 5 (me_of_mf (mf_lc (own := [("n", 7)]) rfl nd (mi_rng2 z_range me_int (me_add (me_var 1) me_int)) (blkOk_by (N := N__law_all) (sc := defScope s__law_all) (own := [("n", 7)]) (by decide +kernel)) (gok_name (i := 7) (vs := [7]) (by decide)) (fun _ _ _ _ _ => pg_name (i := 7) nd rfl (by first | exact Or.inl rfl | exact Or.inr rfl)) (fun _ _ _ _ _ => mts_nil) (fun _ _ _ _ _ => me_add (me_var 6) (me_tup (ma_cons (me_tup (ma_cons (me_var 4) (ma_cons (me_var 7) ma_nil))) ma_nil))))))))) (mss_one (ms_frz 5 (ms_setLc (i := 3) (own := [("a", 6)]) rfl nd (mi_seq (me_var 5)) (blkOk_by (N := N__law_all) (sc := defScope s__law_all) (own := [("a", 6)]) (by decide +kernel)) (gok_name (i := 6) (vs := [6]) (by decide)) (fun _ _ _ _ _ => pg_name (i := 6) nd rfl (by first | exact Or.inl rfl | exact Or.inr rfl)) (fun _ _ _ _ _ => mts_one (mt_lt hr (me_var 6) (me_var 0))) (fun _ _ _ _ _ => me_var 6))))))) (mss_one (ms_ret (me_sorted hr z_sorted (ma_cons (me_var 3) ma_nil))))))))
theorem ok__law_all (D__law_all : DefOk K mg "_law_all" s__law_all ["bound", "k"]) (z_range : mg "range" = none) (z_sorted : mg "sorted" = none) (F__law_one : FnM P w K mg base ca 1 "_law_one" 0 f__law_one) (F_plus : FnM P w K mg base ca 2 "plus" 2 f_plus) : FnM P w K mg base ca 72 "_law_all" 2 f__law_all := (fnm_rec (lv := 2) D__law_all (fun k a hk G0 => st__law_all D__law_all z_range z_sorted F__law_one F_plus k a G0 hk) 70)
abbrev s_checked : Stmt := top 14
def N_checked : List Str := ["n"]
theorem sc_checked : FnScope N_checked ["n"] (defScope s_checked) := C8.fnScope_by (by decide +kernel)
theorem ok_checked (D_checked : DefOk K mg "checked" s_checked ["n"]) (g_MOST_STAGE : GC K mg "MOST_STAGE" c_MOST_STAGE) (e_Above : EC K mg ca 1 "Above") : FnM P w K mg base ca 1 "checked" 1 f_checked := fnm_mk D_checked sc_checked (fun f cdv A outer s H E hr => by
    have nd := sc_checked.nd
    have tk := takes_of (X := cxOf (L2.CX P w) P w K mg base N_checked "checked" (defScope s_checked) f cdv A outer s H E) rfl rfl rfl rfl
    exact mss_cons (ms_if (mt_ge hr (me_var 0) (me_glob g_MOST_STAGE)) (mss_one (ms_raise e_Above rfl tk)) mss_nil) (mss_one (ms_ret (me_var 0))))
abbrev s_size : Stmt := top 12
def N_size : List Str := ["a", "found", "exponent", "count"]
theorem sc_size : FnScope N_size ["a"] (defScope s_size) := C8.fnScope_by (by decide +kernel)
theorem st_size (D_size : DefOk K mg "size" s_size ["a"]) (z_max : mg "max" = none) (k : Nat) (self_size : LOp) (F_size : FnM P w K mg base ca k "size" 1 self_size) (hk : 0 ≤ k) : FnM P w K mg base ca (k + 1) "size" 1 (mFn 4 (m_size self_size)) := fnm_mk D_size sc_size (fun f cdv A outer s H E hr => by
    have nd := sc_size.nd
    have tk := takes_of (X := cxOf (L2.CX P w) P w K mg base N_size "size" (defScope s_size) f cdv A outer s H E) rfl rfl rfl rfl
    exact mss_cons (ms_set (i := 1) me_int nd) (mss_cons (ms_for (passes_of rfl) rfl (mi_seq (me_var 0)) (pg_tup (n := 2) rfl (pgs_cons (pg_name (i := 2) nd rfl (by first | exact Or.inl rfl | exact Or.inr rfl)) (pgs_cons (pg_name (i := 3) nd rfl (by first | exact Or.inl rfl | exact Or.inr rfl)) pgs_nil))) (gok_tup (n := 2) rfl (gsok_cons (gok_name (i := 2) (vs := [2, 3]) (by decide)) (gsok_cons (gok_name (i := 3) (vs := [2, 3]) (by decide)) gsok_nil))) (mss_one (ms_set (i := 1) (me_max3 rfl z_max (ma_cons (me_var 1) (ma_cons (me_var 3) (ma_cons (me_call F_size hr tk (ma_cons (me_var 2) ma_nil)) ma_nil)))) nd))) (mss_one (ms_ret (me_var 1)))))
theorem ok_size (D_size : DefOk K mg "size" s_size ["a"]) (z_max : mg "max" = none) : FnM P w K mg base ca 70 "size" 1 f_size := (fnm_rec (lv := 0) D_size (fun k a hk G0 => st_size D_size z_max k a G0 hk) 70)
abbrev s_count_below : Stmt := top 13
def N_count_below : List Str := ["a", "k", "found", "exponent", "count", "below", "whole"]
theorem sc_count_below : FnScope N_count_below ["a", "k"] (defScope s_count_below) := C8.fnScope_by (by decide +kernel)
theorem st_count_below (D_count_below : DefOk K mg "count_below" s_count_below ["a", "k"]) (z_min : mg "min" = none) (F_checked : FnM P w K mg base ca 1 "checked" 1 f_checked) (F_power_of : FnM P w K mg base ca 1 "power_of" 2 f_power_of) (F_size : FnM P w K mg base ca 70 "size" 1 f_size) (k : Nat) (self_count_below : LOp) (F_count_below : FnM P w K mg base ca k "count_below" 2 self_count_below) (hk : 70 ≤ k) : FnM P w K mg base ca (k + 1) "count_below" 2 (mFn 7 (m_count_below self_count_below)) := fnm_mk D_count_below sc_count_below (fun f cdv A outer s H E hr => by
    have nd := sc_count_below.nd
    have tk := takes_of (X := cxOf (L2.CX P w) P w K mg base N_count_below "count_below" (defScope s_count_below) f cdv A outer s H E) rfl rfl rfl rfl
    exact mss_cons (ms_set (i := 2) me_int nd) (mss_cons (ms_for (passes_of rfl) rfl (mi_seq (me_var 0)) (pg_tup (n := 2) rfl (pgs_cons (pg_name (i := 3) nd rfl (by first | exact Or.inl rfl | exact Or.inr rfl)) (pgs_cons (pg_name (i := 4) nd rfl (by first | exact Or.inl rfl | exact Or.inr rfl)) pgs_nil))) (gok_tup (n := 2) rfl (gsok_cons (gok_name (i := 3) (vs := [3, 4]) (by decide)) (gsok_cons (gok_name (i := 4) (vs := [3, 4]) (by decide)) gsok_nil))) (mss_cons (ms_set (i := 5) (me_call F_count_below hr tk (ma_cons (me_var 3) (ma_cons (me_var 1) ma_nil))) nd) (mss_cons (ms_set (i := 6) (me_call F_power_of (hr.mono (Nat.le_trans (by decide) hk)) tk (ma_cons (me_add (me_var 1) me_int) (ma_cons (me_var 5) ma_nil))) nd) (mss_cons (ms_if (mt_gt hr (me_call F_size (hr.mono (Nat.le_trans (by decide) hk)) tk (ma_cons (me_var 3) ma_nil)) (me_var 1)) (mss_one (ms_ret (me_call F_checked (hr.mono (Nat.le_trans (by decide) hk)) tk (ma_cons (me_add (me_var 2) (me_var 6)) ma_nil)))) mss_nil) (mss_cons (ms_set (i := 2) (me_call F_checked (hr.mono (Nat.le_trans (by decide) hk)) tk (ma_cons (me_add (me_var 2) (me_mul (me_min rfl z_min (ma_cons (me_var 4) (ma_cons (me_add (me_var 1) me_int) ma_nil))) (me_var 6))) ma_nil)) nd) (mss_one (ms_if (mt_gt hr (me_var 4) (me_var 1)) (mss_one (ms_ret (me_var 2))) mss_nil))))))) (mss_one (ms_ret (me_var 2)))))
theorem ok_count_below (D_count_below : DefOk K mg "count_below" s_count_below ["a", "k"]) (z_min : mg "min" = none) (F_checked : FnM P w K mg base ca 1 "checked" 1 f_checked) (F_power_of : FnM P w K mg base ca 1 "power_of" 2 f_power_of) (F_size : FnM P w K mg base ca 70 "size" 1 f_size) : FnM P w K mg base ca 140 "count_below" 2 f_count_below := (fnm_rec (lv := 70) D_count_below (fun k a hk G0 => st_count_below D_count_below z_min F_checked F_power_of F_size k a G0 hk) 70)
abbrev s_first_exponent : Stmt := top 17
def N_first_exponent : List Str := ["index", "k", "bound", "at", "whole"]
theorem sc_first_exponent : FnScope N_first_exponent ["index", "k", "bound"] (defScope s_first_exponent) := C8.fnScope_by (by decide +kernel)
abbrev s_nth : Stmt := top 16
def N_nth : List Str := ["index", "k", "bound", "found", "exponent", "whole"]
theorem sc_nth : FnScope N_nth ["index", "k", "bound"] (defScope s_nth) := C8.fnScope_by (by decide +kernel)
theorem st_first_exponent (D_first_exponent : DefOk K mg "first_exponent" s_first_exponent ["index", "k", "bound"]) (g_ONE : GC K mg "ONE" c_ONE) (g_ZERO : GC K mg "ZERO" c_ZERO) (e_NotAllowed : EC K mg ca 2 "NotAllowed") (F_count_below : FnM P w K mg base ca 140 "count_below" 2 f_count_below) (F_plus : FnM P w K mg base ca 2 "plus" 2 f_plus) (F_power_of : FnM P w K mg base ca 1 "power_of" 2 f_power_of) (k : Nat) (self_first_exponent : LOp) (F_first_exponent : FnM P w K mg base ca k "first_exponent" 3 self_first_exponent) (self_nth : LOp) (F_nth : FnM P w K mg base ca k "nth" 3 self_nth) (hk : 140 ≤ k) : FnM P w K mg base ca (k + 1) "first_exponent" 3 (mFn 5 (m_first_exponent self_first_exponent self_nth)) := fnm_mk D_first_exponent sc_first_exponent (fun f cdv A outer s H E hr => by
    have nd := sc_first_exponent.nd
    have tk := takes_of (X := cxOf (L2.CX P w) P w K mg base N_first_exponent "first_exponent" (defScope s_first_exponent) f cdv A outer s H E) rfl rfl rfl rfl
    exact mss_cons (ms_set (i := 3) me_int nd) (mss_cons (ms_set (i := 4) me_int nd) (mss_cons (ms_while 1000 (passes_of rfl) (mt_le hr (me_mul (me_var 4) (me_add (me_var 1) me_int)) (me_var 0)) (mss_cons (ms_set (i := 4) (me_mul (me_var 4) (me_add (me_var 1) me_int)) nd) (mss_one (ms_augAdd (i := 3) me_int nd)))) (mss_one (ms_ret (me_if (mt_gt hr (me_var 3) me_int) (me_call F_nth hr tk (ma_cons (me_var 3) (ma_cons (me_var 1) (ma_cons (me_call F_plus (hr.mono (Nat.le_trans (by decide) hk)) tk (ma_cons (me_ix (me_ix (me_var 2) me_int (fun _ _ => rfl)) me_int (fun _ _ => rfl)) (ma_cons (me_glob g_ONE) ma_nil))) ma_nil)))) (me_glob g_ZERO)))))))
theorem st_nth (D_nth : DefOk K mg "nth" s_nth ["index", "k", "bound"]) (g_ONE : GC K mg "ONE" c_ONE) (g_ZERO : GC K mg "ZERO" c_ZERO) (e_NotAllowed : EC K mg ca 2 "NotAllowed") (F_count_below : FnM P w K mg base ca 140 "count_below" 2 f_count_below) (F_plus : FnM P w K mg base ca 2 "plus" 2 f_plus) (F_power_of : FnM P w K mg base ca 1 "power_of" 2 f_power_of) (k : Nat) (self_first_exponent : LOp) (F_first_exponent : FnM P w K mg base ca k "first_exponent" 3 self_first_exponent) (self_nth : LOp) (F_nth : FnM P w K mg base ca k "nth" 3 self_nth) (hk : 140 ≤ k) : FnM P w K mg base ca (k + 1) "nth" 3 (mFn 6 (m_nth self_first_exponent self_nth)) := fnm_mk D_nth sc_nth (fun f cdv A outer s H E hr => by
    have nd := sc_nth.nd
    have tk := takes_of (X := cxOf (L2.CX P w) P w K mg base N_nth "nth" (defScope s_nth) f cdv A outer s H E) rfl rfl rfl rfl
    exact mss_cons (ms_if (mt_ge hr (me_var 0) (me_call F_count_below (hr.mono (Nat.le_trans (by decide) hk)) tk (ma_cons (me_var 2) (ma_cons (me_var 1) ma_nil)))) (mss_one (ms_raise e_NotAllowed rfl tk)) mss_nil) (mss_cons (ms_set (i := 3) (me_glob g_ZERO) nd) (mss_cons (ms_while 1000 (passes_of rfl) (mt_gt hr (me_var 0) me_int) (mss_cons (ms_set (i := 4) (me_call F_first_exponent hr tk (ma_cons (me_var 0) (ma_cons (me_var 1) (ma_cons (me_var 2) ma_nil)))) nd) (mss_cons (ms_set (i := 5) (me_call F_power_of (hr.mono (Nat.le_trans (by decide) hk)) tk (ma_cons (me_add (me_var 1) me_int) (ma_cons (me_call F_count_below (hr.mono (Nat.le_trans (by decide) hk)) tk (ma_cons (me_var 4) (ma_cons (me_var 1) ma_nil))) ma_nil))) nd) (mss_cons (ms_set (i := 3) (me_call F_plus (hr.mono (Nat.le_trans (by decide) hk)) tk (ma_cons (me_var 3) (ma_cons (me_tup (ma_cons (me_tup (ma_cons (me_var 4) (ma_cons (me_div (me_var 0) (me_var 5)) ma_nil))) ma_nil)) ma_nil))) nd) (mss_one (ms_set (i := 0) (me_mod (me_var 0) (me_var 5)) nd)))))) (mss_one (ms_ret (me_var 3))))))
theorem ok_first_exponent (D_first_exponent : DefOk K mg "first_exponent" s_first_exponent ["index", "k", "bound"]) (D_nth : DefOk K mg "nth" s_nth ["index", "k", "bound"]) (g_ONE : GC K mg "ONE" c_ONE) (g_ZERO : GC K mg "ZERO" c_ZERO) (e_NotAllowed : EC K mg ca 2 "NotAllowed") (F_count_below : FnM P w K mg base ca 140 "count_below" 2 f_count_below) (F_plus : FnM P w K mg base ca 2 "plus" 2 f_plus) (F_power_of : FnM P w K mg base ca 1 "power_of" 2 f_power_of) : FnM P w K mg base ca 210 "first_exponent" 3 f_first_exponent := (fnm_recP (lv := 140) D_first_exponent D_nth (fun k a b hk G0 G1 => st_first_exponent D_first_exponent g_ONE g_ZERO e_NotAllowed F_count_below F_plus F_power_of k a G0 b G1 hk) (fun k a b hk G0 G1 => st_nth D_nth g_ONE g_ZERO e_NotAllowed F_count_below F_plus F_power_of k a G0 b G1 hk) 70).1
theorem ok_nth (D_first_exponent : DefOk K mg "first_exponent" s_first_exponent ["index", "k", "bound"]) (D_nth : DefOk K mg "nth" s_nth ["index", "k", "bound"]) (g_ONE : GC K mg "ONE" c_ONE) (g_ZERO : GC K mg "ZERO" c_ZERO) (e_NotAllowed : EC K mg ca 2 "NotAllowed") (F_count_below : FnM P w K mg base ca 140 "count_below" 2 f_count_below) (F_plus : FnM P w K mg base ca 2 "plus" 2 f_plus) (F_power_of : FnM P w K mg base ca 1 "power_of" 2 f_power_of) : FnM P w K mg base ca 210 "nth" 3 f_nth := (fnm_recP (lv := 140) D_first_exponent D_nth (fun k a b hk G0 G1 => st_first_exponent D_first_exponent g_ONE g_ZERO e_NotAllowed F_count_below F_plus F_power_of k a G0 b G1 hk) (fun k a b hk G0 G1 => st_nth D_nth g_ONE g_ZERO e_NotAllowed F_count_below F_plus F_power_of k a G0 b G1 hk) 70).2
abbrev s_in_order : Stmt := top 22
def N_in_order : List Str := ["k", "bound", "many", "index"]
theorem sc_in_order : FnScope N_in_order ["k", "bound"] (defScope s_in_order) := C8.fnScope_by (by decide +kernel)
theorem ok_in_order (D_in_order : DefOk K mg "in_order" s_in_order ["k", "bound"]) (z_range : mg "range" = none) (g_MOST_LIST : GC K mg "MOST_LIST" c_MOST_LIST) (e_Above : EC K mg ca 1 "Above") (F_count_below : FnM P w K mg base ca 140 "count_below" 2 f_count_below) (F_nth : FnM P w K mg base ca 210 "nth" 3 f_nth) : FnM P w K mg base ca 211 "in_order" 2 f_in_order := fnm_mk D_in_order sc_in_order (fun f cdv A outer s H E hr => by
    have nd := sc_in_order.nd
    have tk := takes_of (X := cxOf (L2.CX P w) P w K mg base N_in_order "in_order" (defScope s_in_order) f cdv A outer s H E) rfl rfl rfl rfl
    exact mss_cons (ms_set (i := 2) (me_call F_count_below (hr.mono (by decide)) tk (ma_cons (me_var 1) (ma_cons (me_var 0) ma_nil))) nd) (mss_cons (ms_if (mt_gt hr (me_var 2) (me_glob g_MOST_LIST)) (mss_one (ms_raise e_Above rfl tk)) mss_nil) (mss_one (ms_ret (me_of_mf (mf_lc (own := [("index", 3)]) rfl nd (mi_rng1 z_range (me_var 2)) (blkOk_by (N := N_in_order) (sc := defScope s_in_order) (own := [("index", 3)]) (by decide +kernel)) (gok_name (i := 3) (vs := [3]) (by decide)) (fun _ _ _ _ _ => pg_name (i := 3) nd rfl (by first | exact Or.inl rfl | exact Or.inr rfl)) (fun _ _ _ _ _ => mts_nil) (fun _ _ _ _ _ => me_call F_nth (hr.mono (by decide)) takes0 (ma_cons (me_var 3) (ma_cons (me_var 0) (ma_cons (me_var 1) ma_nil))))))))))
abbrev s__law_size : Stmt := top 31
def N__law_size : List Str := ["a", "pair"]
theorem sc__law_size : FnScope N__law_size ["a"] (defScope s__law_size) := C8.fnScope_by (by decide +kernel)
theorem st__law_size (D__law_size : DefOk K mg "_law_size" s__law_size ["a"]) (z_max : mg "max" = none) (k : Nat) (self__law_size : LOp) (F__law_size : FnM P w K mg base ca k "_law_size" 1 self__law_size) (hk : 0 ≤ k) : FnM P w K mg base ca (k + 1) "_law_size" 1 (mFn 2 (m__law_size self__law_size)) := fnm_mk D__law_size sc__law_size (fun f cdv A outer s H E hr => by
    have nd := sc__law_size.nd
    have tk := takes_of (X := cxOf (L2.CX P w) P w K mg base N__law_size "_law_size" (defScope s__law_size) f cdv A outer s H E) rfl rfl rfl rfl
    exact mss_one (ms_ret (me_max rfl z_max (ma_cons (me_add (me_lst (ma_cons me_int ma_nil)) (me_of_mf (mf_lc (own := [("pair", 1)]) rfl nd (mi_seq (me_var 0)) (blkOk_by (N := N__law_size) (sc := defScope s__law_size) (own := [("pair", 1)]) (by decide +kernel)) (gok_name (i := 1) (vs := [1]) (by decide)) (fun _ _ _ _ _ => pg_name (i := 1) nd rfl (by first | exact Or.inl rfl | exact Or.inr rfl)) (fun _ _ _ _ _ => mts_nil) (fun _ _ _ _ _ => me_max rfl z_max (ma_cons (me_ix (me_var 1) me_int (fun _ _ => rfl)) (ma_cons (me_call F__law_size hr takes0 (ma_cons (me_ix (me_var 1) me_int (fun _ _ => rfl)) ma_nil)) ma_nil)))))) ma_nil))))
theorem ok__law_size (D__law_size : DefOk K mg "_law_size" s__law_size ["a"]) (z_max : mg "max" = none) : FnM P w K mg base ca 70 "_law_size" 1 f__law_size := (fnm_rec (lv := 0) D__law_size (fun k a hk G0 => st__law_size D__law_size z_max k a G0 hk) 70)
abbrev s__law_longest : Stmt := top 33
def N__law_longest : List Str := ["rows", "a", "k", "known", "key", "best", "b"]
theorem sc__law_longest : FnScope N__law_longest ["rows", "a", "k", "known"] (defScope s__law_longest) := C8.fnScope_by (by decide +kernel)
theorem st__law_longest (D__law_longest : DefOk K mg "_law_longest" s__law_longest ["rows", "a", "k", "known"]) (z_max : mg "max" = none) (hW_ : ca.wd = w) (F__law_size : FnM P w K mg base ca 70 "_law_size" 1 f__law_size) (k : Nat) (self__law_longest : LOp) (F__law_longest : FnM P w K mg base ca k "_law_longest" 4 self__law_longest) (hk : 70 ≤ k) : FnM P w K mg base ca (k + 1) "_law_longest" 4 (mFn 7 (m__law_longest self__law_longest)) := fnm_mk D__law_longest sc__law_longest (fun f cdv A outer s H E hr => by
    have nd := sc__law_longest.nd
    have tk := takes_of (X := cxOf (L2.CX P w) P w K mg base N__law_longest "_law_longest" (defScope s__law_longest) f cdv A outer s H E) rfl rfl rfl rfl
    exact mss_cons (ms_set (i := 4) (me_tup (ma_cons (me_var 1) (ma_cons (me_var 2) ma_nil))) nd) (mss_cons (ms_if (mt_dnin hr hW_ (me_var 4) (me_var 3)) (mss_cons (ms_set (i := 5) me_int nd) (mss_cons (ms_for (passes_of rfl) rfl (mi_seq (me_var 0)) (pg_name (i := 6) nd rfl (by first | exact Or.inl rfl | exact Or.inr rfl)) (gok_name (i := 6) (vs := [6]) (by decide)) (mss_one (ms_if (mw_pt (mw_and (mt_lt hr (me_var 6) (me_var 1)) (mw_and1 (mt_le hr (me_call F__law_size (hr.mono (Nat.le_trans (by decide) hk)) tk (ma_cons (me_var 6) ma_nil)) (me_var 2))))) (mss_one (ms_set (i := 5) (me_max rfl z_max (ma_cons (me_var 5) (ma_cons (me_add me_int (me_call F__law_longest hr tk (ma_cons (me_var 0) (ma_cons (me_var 6) (ma_cons (me_add (me_var 2) me_int) (ma_cons (me_var 3) ma_nil)))))) ma_nil))) nd)) mss_nil))) (mss_one (ms_setDx hr hW_ (me_var 5) (me_var 3) (me_var 4))))) mss_nil) (mss_one (ms_ret (me_dix hr hW_ (me_var 3) (me_var 4) (fun _ _ => rfl))))))
theorem ok__law_longest (D__law_longest : DefOk K mg "_law_longest" s__law_longest ["rows", "a", "k", "known"]) (z_max : mg "max" = none) (hW_ : ca.wd = w) (F__law_size : FnM P w K mg base ca 70 "_law_size" 1 f__law_size) : FnM P w K mg base ca 140 "_law_longest" 4 f__law_longest := (fnm_rec (lv := 70) D__law_longest (fun k a hk G0 => st__law_longest D__law_longest z_max hW_ F__law_size k a G0 hk) 70)
abbrev s_greatest_below : Stmt := top 18
def N_greatest_below : List Str := ["a", "k", "many"]
theorem sc_greatest_below : FnScope N_greatest_below ["a", "k"] (defScope s_greatest_below) := C8.fnScope_by (by decide +kernel)
theorem ok_greatest_below (D_greatest_below : DefOk K mg "greatest_below" s_greatest_below ["a", "k"]) (F_count_below : FnM P w K mg base ca 140 "count_below" 2 f_count_below) (F_nth : FnM P w K mg base ca 210 "nth" 3 f_nth) : FnM P w K mg base ca 211 "greatest_below" 2 f_greatest_below := fnm_mk D_greatest_below sc_greatest_below (fun f cdv A outer s H E hr => by
    have nd := sc_greatest_below.nd
    have tk := takes_of (X := cxOf (L2.CX P w) P w K mg base N_greatest_below "greatest_below" (defScope s_greatest_below) f cdv A outer s H E) rfl rfl rfl rfl
    exact mss_cons (ms_set (i := 2) (me_call F_count_below (hr.mono (by decide)) tk (ma_cons (me_var 0) (ma_cons (me_var 1) ma_nil))) nd) (mss_one (ms_ret (me_if (mt_gt hr (me_var 2) me_int) (me_call F_nth (hr.mono (by decide)) tk (ma_cons (me_sub (me_var 2) me_int) (ma_cons (me_var 1) (ma_cons (me_var 0) ma_nil)))) me_non))))
abbrev s_falling : Stmt := top 20
def N_falling : List Str := ["a", "k", "most", "found", "below"]
theorem sc_falling : FnScope N_falling ["a", "k", "most"] (defScope s_falling) := C8.fnScope_by (by decide +kernel)
theorem ok_falling (D_falling : DefOk K mg "falling" s_falling ["a", "k", "most"]) (z_len : mg "len" = none) (F_greatest_below : FnM P w K mg base ca 211 "greatest_below" 2 f_greatest_below) : FnM P w K mg base ca 212 "falling" 3 f_falling := fnm_mk D_falling sc_falling (fun f cdv A outer s H E hr => by
    have nd := sc_falling.nd
    have tk := takes_of (X := cxOf (L2.CX P w) P w K mg base N_falling "falling" (defScope s_falling) f cdv A outer s H E) rfl rfl rfl rfl
    exact mss_cons (ms_setOwn (i := 3) (mf_lst ma_nil) nd) (mss_cons (ms_set (i := 4) (me_call F_greatest_below (hr.mono (by decide)) tk (ma_cons (me_var 0) (ma_cons (me_var 1) ma_nil))) nd) (mss_cons (ms_while 1000 (passes_of rfl) (mt_bor 3 (mw_pt (mw_and (mt_isnot (me_var 4) me_non) (mw_and1 (mt_lt hr (me_len z_len (ma_cons (me_var 3) ma_nil)) (me_var 2)))))) (mss_cons (ms_own PySem.F.slot_list_append PySem.F.type_list_append mt_append om_append 3 (me_var 4)) (mss_one (ms_set (i := 4) (me_bor 3 (me_call F_greatest_below (hr.mono (by decide)) tk (ma_cons (me_var 4) (ma_cons (me_add (me_var 1) (me_len z_len (ma_cons (me_var 3) ma_nil))) ma_nil)))) nd)))) (mss_one (ms_frz 3 (ms_ret (me_var 3)))))))
abbrev s__law_same : Stmt := top 29
def N__law_same : List Str := ["one", "two", "k"]
theorem sc__law_same : FnScope N__law_same ["one", "two"] (defScope s__law_same) := C8.fnScope_by (by decide +kernel)
theorem st__law_same (D__law_same : DefOk K mg "_law_same" s__law_same ["one", "two"]) (z_isinstance : mg "isinstance" = none) (z_tuple : mg "tuple" = none) (z_list : mg "list" = none) (z_len : mg "len" = none) (z_range : mg "range" = none) (z_all : mg "all" = none) (z_bool : mg "bool" = none) (k : Nat) (self__law_same : LOp) (F__law_same : FnM P w K mg base ca k "_law_same" 2 self__law_same) (hk : 0 ≤ k) : FnM P w K mg base ca (k + 1) "_law_same" 2 (mFn 3 (m__law_same self__law_same)) := fnm_mk D__law_same sc__law_same (fun f cdv A outer s H E hr => by
    have nd := sc__law_same.nd
    have tk := takes_of (X := cxOf (L2.CX P w) P w K mg base N__law_same "_law_same" (defScope s__law_same) f cdv A outer s H E) rfl rfl rfl rfl
    exact mss_cons (ms_if (mw_pt (mw_or (mw_pt (mw_and (mt_truth (me_isi_tuple z_isinstance z_tuple (me_var 0))) (mw_and1 (mt_truth (me_isi_tuple z_isinstance z_tuple (me_var 1)))))) (mw_or1 (mw_pt (mw_and (mt_truth (me_isi_list z_isinstance z_list (me_var 0))) (mw_and1 (mt_truth (me_isi_list z_isinstance z_list (me_var 1))))))))) (mss_one (ms_ret (me_and (me_eq hr (me_len z_len (ma_cons (me_var 0) ma_nil)) (me_len z_len (ma_cons (me_var 1) ma_nil))) (me_one (me_all rfl z_all (ma_cons (me_of_mf (mf_lc (own := [("k", 2)]) rfl nd (mi_rng1 z_range (me_len z_len (ma_cons (me_var 0) ma_nil))) (blkOk_by (N := N__law_same) (sc := defScope s__law_same) (own := [("k", 2)]) (by decide +kernel)) (gok_name (i := 2) (vs := [2]) (by decide)) (fun _ _ _ _ _ => pg_name (i := 2) nd rfl (by first | exact Or.inl rfl | exact Or.inr rfl)) (fun _ _ _ _ _ => mts_nil) (fun _ _ _ _ _ => me_call F__law_same hr takes0 (ma_cons (me_ix (me_var 0) (me_var 2) (fun _ _ => rfl)) (ma_cons (me_ix (me_var 1) (me_var 2) (fun _ _ => rfl)) ma_nil))))) ma_nil)))))) mss_nil) (mss_cons (ms_if (mw_pt (mw_or (mt_truth (me_isi_tuple z_isinstance z_tuple (me_var 0))) (mw_or (mt_truth (me_isi_tuple z_isinstance z_tuple (me_var 1))) (mw_or (mt_truth (me_isi_list z_isinstance z_list (me_var 0))) (mw_or1 (mt_truth (me_isi_list z_isinstance z_list (me_var 1)))))))) (mss_one (ms_ret me_bl)) mss_nil) (mss_one (ms_ret (me_and (me_eq hr (me_var 0) (me_var 1)) (me_one (me_eq hr (me_isi_bool z_isinstance z_bool (me_var 0)) (me_isi_bool z_isinstance z_bool (me_var 1)))))))))
theorem ok__law_same (D__law_same : DefOk K mg "_law_same" s__law_same ["one", "two"]) (z_isinstance : mg "isinstance" = none) (z_tuple : mg "tuple" = none) (z_list : mg "list" = none) (z_len : mg "len" = none) (z_range : mg "range" = none) (z_all : mg "all" = none) (z_bool : mg "bool" = none) : FnM P w K mg base ca 70 "_law_same" 2 f__law_same := (fnm_rec (lv := 0) D__law_same (fun k a hk G0 => st__law_same D__law_same z_isinstance z_tuple z_list z_len z_range z_all z_bool k a G0 hk) 70)
abbrev s__law_is_plain : Stmt := top 28
def N__law_is_plain : List Str := ["value", "part"]
theorem sc__law_is_plain : FnScope N__law_is_plain ["value"] (defScope s__law_is_plain) := C8.fnScope_by (by decide +kernel)
theorem st__law_is_plain (D__law_is_plain : DefOk K mg "_law_is_plain" s__law_is_plain ["value"]) (z_isinstance : mg "isinstance" = none) (z_tuple : mg "tuple" = none) (z_list : mg "list" = none) (z_all : mg "all" = none) (z_str : mg "str" = none) (z_int : mg "int" = none) (k : Nat) (self__law_is_plain : LOp) (F__law_is_plain : FnM P w K mg base ca k "_law_is_plain" 1 self__law_is_plain) (hk : 0 ≤ k) : FnM P w K mg base ca (k + 1) "_law_is_plain" 1 (mFn 2 (m__law_is_plain self__law_is_plain)) := fnm_mk D__law_is_plain sc__law_is_plain (fun f cdv A outer s H E hr => by
    have nd := sc__law_is_plain.nd
    have tk := takes_of (X := cxOf (L2.CX P w) P w K mg base N__law_is_plain "_law_is_plain" (defScope s__law_is_plain) f cdv A outer s H E) rfl rfl rfl rfl
    exact mss_cons (ms_if (mw_pt (mw_or (mt_truth (me_isi_tuple z_isinstance z_tuple (me_var 0))) (mw_or1 (mt_truth (me_isi_list z_isinstance z_list (me_var 0)))))) (mss_one (ms_ret (me_all rfl z_all (ma_cons (me_of_mf (mf_lc (own := [("part", 1)]) rfl nd (mi_seq (me_var 0)) (blkOk_by (N := N__law_is_plain) (sc := defScope s__law_is_plain) (own := [("part", 1)]) (by decide +kernel)) (gok_name (i := 1) (vs := [1]) (by decide)) (fun _ _ _ _ _ => pg_name (i := 1) nd rfl (by first | exact Or.inl rfl | exact Or.inr rfl)) (fun _ _ _ _ _ => mts_nil) (fun _ _ _ _ _ => me_call F__law_is_plain hr takes0 (ma_cons (me_var 1) ma_nil)))) ma_nil)))) mss_nil) (mss_one (ms_ret (me_or (me_is (me_var 0) me_non) (me_or (me_isi_str z_isinstance z_str (me_var 0)) (me_one (me_isi_int z_isinstance z_int (me_var 0))))))))
theorem ok__law_is_plain (D__law_is_plain : DefOk K mg "_law_is_plain" s__law_is_plain ["value"]) (z_isinstance : mg "isinstance" = none) (z_tuple : mg "tuple" = none) (z_list : mg "list" = none) (z_all : mg "all" = none) (z_str : mg "str" = none) (z_int : mg "int" = none) : FnM P w K mg base ca 70 "_law_is_plain" 1 f__law_is_plain := (fnm_rec (lv := 0) D__law_is_plain (fun k a hk G0 => st__law_is_plain D__law_is_plain z_isinstance z_tuple z_list z_all z_str z_int k a G0 hk) 70)
abbrev s__law_refuses : Stmt := top 32
def N__law_refuses : List Str := ["index", "k", "bound"]
theorem sc__law_refuses : FnScope N__law_refuses ["index", "k", "bound"] (defScope s__law_refuses) := C8.fnScope_by (by decide +kernel)
theorem ok__law_refuses (D__law_refuses : DefOk K mg "_law_refuses" s__law_refuses ["index", "k", "bound"]) (e_NotAllowed : EC K mg ca 2 "NotAllowed") (m_of_NotAllowed : EM K ca 2 s_of_NotAllowed) (F_nth : FnM P w K mg base ca 210 "nth" 3 f_nth) : FnM P w K mg base ca 211 "_law_refuses" 3 f__law_refuses := fnm_mk D__law_refuses sc__law_refuses (fun f cdv A outer s H E hr => by
    have nd := sc__law_refuses.nd
    have tk := takes_of (X := cxOf (L2.CX P w) P w K mg base N__law_refuses "_law_refuses" (defScope s__law_refuses) f cdv A outer s H E) rfl rfl rfl rfl
    exact mss_cons (ms_try e_NotAllowed m_of_NotAllowed rfl rfl tk (fun W1 pn1 xe1 tk1 po1 => mss_one (ms_expr (me_call F_nth (hr.mono (by decide)) tk1 (ma_cons (me_var 0) (ma_cons (me_var 1) (ma_cons (me_var 2) ma_nil)))))) (fun a1 oe1 pm1 => mss_one (ms_ret me_bl))) (mss_one (ms_ret me_bl)))
abbrev s_is_fall : Stmt := top 21
def N_is_fall : List Str := ["a", "k", "row", "at", "b"]
theorem sc_is_fall : FnScope N_is_fall ["a", "k", "row"] (defScope s_is_fall) := C8.fnScope_by (by decide +kernel)
theorem ok_is_fall (D_is_fall : DefOk K mg "is_fall" s_is_fall ["a", "k", "row"]) (z_enumerate : mg "enumerate" = none) (F_size : FnM P w K mg base ca 70 "size" 1 f_size) : FnM P w K mg base ca 71 "is_fall" 3 f_is_fall := fnm_mk D_is_fall sc_is_fall (fun f cdv A outer s H E hr => by
    have nd := sc_is_fall.nd
    have tk := takes_of (X := cxOf (L2.CX P w) P w K mg base N_is_fall "is_fall" (defScope s_is_fall) f cdv A outer s H E) rfl rfl rfl rfl
    exact mss_cons (ms_for (passes_of rfl) rfl (mi_enum z_enumerate (ma_cons (me_var 2) ma_nil)) (pg_tup (n := 2) rfl (pgs_cons (pg_name (i := 3) nd rfl (by first | exact Or.inl rfl | exact Or.inr rfl)) (pgs_cons (pg_name (i := 4) nd rfl (by first | exact Or.inl rfl | exact Or.inr rfl)) pgs_nil))) (gok_tup (n := 2) rfl (gsok_cons (gok_name (i := 3) (vs := [3, 4]) (by decide)) (gsok_cons (gok_name (i := 4) (vs := [3, 4]) (by decide)) gsok_nil))) (mss_one (ms_if (mw_pt (mw_or (mt_ge hr (me_var 4) (me_if (mt_gt hr (me_var 3) me_int) (me_ix (me_var 2) (me_sub (me_var 3) me_int) (fun _ _ => rfl)) (me_var 0))) (mw_or1 (mt_gt hr (me_call F_size (hr.mono (by decide)) tk (ma_cons (me_var 4) ma_nil)) (me_add (me_var 1) (me_var 3)))))) (mss_one (ms_ret me_bl)) mss_nil))) (mss_one (ms_ret me_bl)))
abbrev s_fall : Stmt := top 19
def N_fall : List Str := ["a", "k", "found", "below"]
theorem sc_fall : FnScope N_fall ["a", "k"] (defScope s_fall) := C8.fnScope_by (by decide +kernel)
theorem ok_fall (D_fall : DefOk K mg "fall" s_fall ["a", "k"]) (g_MOST_LIST : GC K mg "MOST_LIST" c_MOST_LIST) (e_Above : EC K mg ca 1 "Above") (F_greatest_below : FnM P w K mg base ca 211 "greatest_below" 2 f_greatest_below) : FnM P w K mg base ca 212 "fall" 2 f_fall := fnm_mk D_fall sc_fall (fun f cdv A outer s H E hr => by
    have nd := sc_fall.nd
    have tk := takes_of (X := cxOf (L2.CX P w) P w K mg base N_fall "fall" (defScope s_fall) f cdv A outer s H E) rfl rfl rfl rfl
    exact mss_cons (ms_set (i := 2) me_int nd) (mss_cons (ms_set (i := 3) (me_call F_greatest_below (hr.mono (by decide)) tk (ma_cons (me_var 0) (ma_cons (me_var 1) ma_nil))) nd) (mss_cons (ms_while 1000 (passes_of rfl) (mt_isnot (me_var 3) me_non) (mss_cons (ms_augAdd (i := 2) me_int nd) (mss_cons (ms_if (mt_gt hr (me_var 2) (me_glob g_MOST_LIST)) (mss_one (ms_raise e_Above rfl tk)) mss_nil) (mss_cons (ms_set (i := 0) (me_var 3) nd) (mss_one (ms_set (i := 3) (me_call F_greatest_below (hr.mono (by decide)) tk (ma_cons (me_var 0) (ma_cons (me_add (me_var 1) (me_var 2)) ma_nil))) nd)))))) (mss_one (ms_ret (me_var 2))))))
abbrev s_law : Stmt := top 35
def N_law : List Str := ["script", "stream", "bound", "k", "due", "told", "at", "small", "start", "rows", "length", "row"]
theorem sc_law : FnScope N_law ["script"] (defScope s_law) := C8.fnScope_by (by decide +kernel)
theorem body_law (z_len : mg "len" = none) (hW_ : ca.wd = w) (F__law_all : FnM P w K mg base ca 72 "_law_all" 2 f__law_all) (F__law_bound : FnM P w K mg base ca 3 "_law_bound" 1 f__law_bound) (F__law_draw : FnM P w K mg base ca 1 "_law_draw" 2 f__law_draw) (F__law_is_plain : FnM P w K mg base ca 70 "_law_is_plain" 1 f__law_is_plain) (F__law_longest : FnM P w K mg base ca 140 "_law_longest" 4 f__law_longest) (F__law_one : FnM P w K mg base ca 1 "_law_one" 0 f__law_one) (F__law_pick : FnM P w K mg base ca 2 "_law_pick" 2 f__law_pick) (F__law_refuses : FnM P w K mg base ca 211 "_law_refuses" 3 f__law_refuses) (F__law_same : FnM P w K mg base ca 70 "_law_same" 2 f__law_same) (F__law_size : FnM P w K mg base ca 70 "_law_size" 1 f__law_size) (F__law_stream : FnM P w K mg base ca 1 "_law_stream" 1 f__law_stream) (F_count_below : FnM P w K mg base ca 140 "count_below" 2 f_count_below) (F_fall : FnM P w K mg base ca 212 "fall" 2 f_fall) (F_falling : FnM P w K mg base ca 212 "falling" 3 f_falling) (F_greatest_below : FnM P w K mg base ca 211 "greatest_below" 2 f_greatest_below) (F_in_order : FnM P w K mg base ca 211 "in_order" 2 f_in_order) (F_is_fall : FnM P w K mg base ca 71 "is_fall" 3 f_is_fall) (F_nth : FnM P w K mg base ca 210 "nth" 3 f_nth) (F_plus : FnM P w K mg base ca 2 "plus" 2 f_plus) (F_power : FnM P w K mg base ca 1 "power" 1 f_power) (F_size : FnM P w K mg base ca 70 "size" 1 f_size) : BodyOk P w K mg base ca 212 "law" s_law N_law m_law := (fun f cdv A outer s H E hr => by
    have nd := sc_law.nd
    have tk := takes_of (X := cxOf (L2.CX P w) P w K mg base N_law "law" (defScope s_law) f cdv A outer s H E) rfl rfl rfl rfl
    exact mss_cons (ms_set (i := 1) (me_call F__law_stream (hr.mono (by decide)) tk (ma_cons (me_var 0) ma_nil)) nd) (mss_drop 0 (mss_cons (ms_set (i := 2) (me_call F__law_bound (hr.mono (by decide)) tk (ma_cons (me_var 1) ma_nil)) nd) (mss_dropL [0, 3, 4, 5, 6, 7, 8, 9, 10, 11] (mss_cons (ms_set (i := 3) (me_call F__law_draw (hr.mono (by decide)) tk (ma_cons (me_var 1) (ma_cons me_int ma_nil))) nd) (mss_dropL [0, 4, 5, 6, 7, 8, 9, 10, 11] (mss_cons (ms_if (mt_ge hr (me_var 2) (me_call F_power (hr.mono (by decide)) tk (ma_cons (me_call F_power (hr.mono (by decide)) tk (ma_cons (me_call0 F__law_one (hr.mono (by decide))) ma_nil)) ma_nil))) (mss_one (ms_set (i := 3) (me_call F__law_draw (hr.mono (by decide)) tk (ma_cons (me_var 1) (ma_cons me_int ma_nil))) nd)) mss_nil) (mss_dropL [0, 4, 5, 6, 7, 8, 9, 10, 11] (mss_cons (ms_set (i := 4) (me_call F__law_all (hr.mono (by decide)) tk (ma_cons (me_var 2) (ma_cons (me_var 3) ma_nil))) nd) (mss_dropL [0, 5, 6, 7, 8, 9, 10, 11] (mss_cons (ms_if (mt_gt hr (me_len z_len (ma_cons (me_var 4) ma_nil)) me_int) (mss_one (ms_ret (me_call F__law_same (hr.mono (by decide)) tk (ma_cons (me_call F_count_below (hr.mono (by decide)) tk (ma_cons (me_var 2) (ma_cons (me_var 3) ma_nil))) (ma_cons (me_len z_len (ma_cons (me_var 4) ma_nil)) ma_nil))))) mss_nil) (mss_dropL [0, 5, 6, 7, 8, 9, 10, 11] (mss_cons (ms_set (i := 5) (me_call F_in_order (hr.mono (by decide)) tk (ma_cons (me_var 3) (ma_cons (me_var 2) ma_nil))) nd) (mss_dropL [0, 6, 7, 8, 9, 10, 11] (mss_cons (ms_if (mw_pt (mw_or (mt_not (mt_truth (me_call F__law_is_plain (hr.mono (by decide)) tk (ma_cons (me_var 5) ma_nil)))) (mw_or (mt_not (mt_truth (me_call F__law_same (hr.mono (by decide)) tk (ma_cons (me_var 5) (ma_cons (me_var 4) ma_nil))))) (mw_or1 (mt_not (mt_truth (me_call F__law_same (hr.mono (by decide)) tk (ma_cons (me_call F_count_below (hr.mono (by decide)) tk (ma_cons (me_var 2) (ma_cons (me_var 3) ma_nil))) (ma_cons (me_len z_len (ma_cons (me_var 4) ma_nil)) ma_nil))))))))) (mss_one (ms_ret me_bl)) mss_nil) (mss_dropL [0, 5, 6, 7, 8, 9, 10, 11] (mss_cons (ms_if (mw_pt (mw_or (mt_not (mt_truth (me_call F__law_refuses (hr.mono (by decide)) tk (ma_cons (me_len z_len (ma_cons (me_var 4) ma_nil)) (ma_cons (me_var 3) (ma_cons (me_var 2) ma_nil)))))) (mw_or (mt_not (mt_truth (me_call F__law_same (hr.mono (by decide)) tk (ma_cons (me_call F_greatest_below (hr.mono (by decide)) tk (ma_cons (me_var 2) (ma_cons (me_var 3) ma_nil))) (ma_cons (me_ix (me_var 4) (me_neg me_int) (fun _ _ => rfl)) ma_nil))))) (mw_or1 (mt_isnot (me_call F_greatest_below (hr.mono (by decide)) tk (ma_cons (me_tup ma_nil) (ma_cons (me_var 3) ma_nil))) me_non))))) (mss_one (ms_ret me_bl)) mss_nil) (mss_dropL [0, 5, 6, 7, 8, 9, 10, 11] (mss_cons (ms_set (i := 6) (me_call F__law_draw (hr.mono (by decide)) tk (ma_cons (me_var 1) (ma_cons (me_len z_len (ma_cons (me_var 4) ma_nil)) ma_nil))) nd) (mss_dropL [0, 5, 7, 8, 9, 10, 11] (mss_cons (ms_if (mw_pt (mw_or (mt_not (mt_truth (me_call F__law_same (hr.mono (by decide)) tk (ma_cons (me_call F_nth (hr.mono (by decide)) tk (ma_cons (me_var 6) (ma_cons (me_var 3) (ma_cons (me_var 2) ma_nil)))) (ma_cons (me_ix (me_var 4) (me_var 6) (fun _ _ => rfl)) ma_nil))))) (mw_or1 (mt_not (mt_truth (me_call F__law_same (hr.mono (by decide)) tk (ma_cons (me_call F_size (hr.mono (by decide)) tk (ma_cons (me_ix (me_var 4) (me_var 6) (fun _ _ => rfl)) ma_nil)) (ma_cons (me_call F__law_size (hr.mono (by decide)) tk (ma_cons (me_ix (me_var 4) (me_var 6) (fun _ _ => rfl)) ma_nil)) ma_nil)))))))) (mss_one (ms_ret me_bl)) mss_nil) (mss_dropL [0, 2, 5, 7, 8, 9, 10, 11] (mss_cons (ms_if (mt_not (mt_truth (me_call F__law_same (hr.mono (by decide)) tk (ma_cons (me_call F_count_below (hr.mono (by decide)) tk (ma_cons (me_ix (me_var 4) (me_var 6) (fun _ _ => rfl)) (ma_cons (me_var 3) ma_nil))) (ma_cons (me_var 6) ma_nil))))) (mss_one (ms_ret me_bl)) mss_nil) (mss_dropL [0, 2, 3, 4, 5, 6, 7, 8, 9, 10, 11] (mss_cons (ms_set (i := 7) (me_call F__law_pick (hr.mono (by decide)) tk (ma_cons (me_var 1) (ma_cons (me_lst (ma_cons (me_tup (ma_cons (me_tup (ma_cons (me_tup ma_nil) (ma_cons me_int ma_nil))) ma_nil)) (ma_cons (me_call F_power (hr.mono (by decide)) tk (ma_cons (me_call0 F__law_one (hr.mono (by decide))) ma_nil)) (ma_cons (me_call F_plus (hr.mono (by decide)) tk (ma_cons (me_call F_power (hr.mono (by decide)) tk (ma_cons (me_call0 F__law_one (hr.mono (by decide))) ma_nil)) (ma_cons (me_call0 F__law_one (hr.mono (by decide))) ma_nil))) (ma_cons (me_tup (ma_cons (me_tup (ma_cons (me_call0 F__law_one (hr.mono (by decide))) (ma_cons me_int ma_nil))) ma_nil)) ma_nil))))) ma_nil))) nd) (mss_dropL [0, 2, 3, 4, 5, 6, 8, 9, 10, 11] (mss_cons (ms_set (i := 8) (me_call F__law_draw (hr.mono (by decide)) tk (ma_cons (me_var 1) (ma_cons me_int ma_nil))) nd) (mss_dropL [0, 1, 2, 3, 4, 5, 6, 9, 10, 11] (mss_cons (ms_set (i := 9) (me_call F__law_all (hr.mono (by decide)) tk (ma_cons (me_var 7) (ma_cons me_int ma_nil))) nd) (mss_dropL [0, 1, 2, 3, 4, 5, 6, 10, 11] (mss_cons (ms_set (i := 10) (me_call F__law_longest (hr.mono (by decide)) tk (ma_cons (me_var 9) (ma_cons (me_var 7) (ma_cons (me_var 8) (ma_cons (me_newD hW_) ma_nil))))) nd) (mss_dropL [0, 1, 2, 3, 4, 5, 6, 9, 11] (mss_cons (ms_set (i := 11) (me_call F_falling (hr.mono (by decide)) tk (ma_cons (me_var 7) (ma_cons (me_var 8) (ma_cons me_int ma_nil)))) nd) (mss_dropL [0, 1, 2, 3, 4, 5, 6, 9] (mss_cons (ms_if (mw_pt (mw_or (mt_not (mt_truth (me_call F__law_same (hr.mono (by decide)) tk (ma_cons (me_call F_fall (hr.mono (by decide)) tk (ma_cons (me_var 7) (ma_cons (me_var 8) ma_nil))) (ma_cons (me_var 10) ma_nil))))) (mw_or (mt_ne hr (me_len z_len (ma_cons (me_var 11) ma_nil)) (me_var 10)) (mw_or1 (mt_isnot (me_call F_is_fall (hr.mono (by decide)) tk (ma_cons (me_var 7) (ma_cons (me_var 8) (ma_cons (me_var 11) ma_nil)))) me_bl))))) (mss_one (ms_ret me_bl)) mss_nil) (mss_dropL [0, 1, 2, 3, 4, 5, 6, 9, 10] (mss_cons (ms_if (mt_not (mt_truth (me_call F__law_same (hr.mono (by decide)) tk (ma_cons (me_call F_falling (hr.mono (by decide)) tk (ma_cons (me_var 7) (ma_cons (me_var 8) (ma_cons me_int ma_nil)))) (ma_cons (me_slice (me_var 11) mo_none (mo_some me_int)) ma_nil))))) (mss_one (ms_ret me_bl)) mss_nil) (mss_dropL [0, 1, 2, 3, 4, 5, 6, 9, 10] (mss_one (ms_ret (me_or (me_eq hr (me_var 11) (me_lst ma_nil)) (me_one (me_and (me_is (me_call F_is_fall (hr.mono (by decide)) tk (ma_cons (me_var 7) (ma_cons (me_var 8) (ma_cons (me_add (me_var 11) (me_lst (ma_cons (me_ix (me_var 11) (me_neg me_int) (fun _ _ => rfl)) ma_nil))) ma_nil)))) me_bl) (me_one (me_is (me_call F_is_fall (hr.mono (by decide)) tk (ma_cons (me_var 7) (ma_cons (me_var 8) (ma_cons (me_lst (ma_cons (me_var 7) ma_nil)) ma_nil)))) me_bl)))))))))))))))))))))))))))))))))))))))))))))
end
end L_k05
namespace L_k05
open PySem L2 AG
abbrev H0 : MH := [.stream]
def dN (n : Int) : D := .tup [.tup [.tup [], .int n]]
def dW (d : D) (n : Int) : D := .tup [d, .int n]
/-- bounds below w ** w, and the others -/
def bnds : List D := [dN 3, .tup [dW (dN 1) 1], .tup [dW (dN 1) 1, dW (.tup []) 2], .tup [dW (dN 1) 2], .tup [dW (dN 2) 1], .tup [dW (dN 2) 1, dW (dN 1) 1], .tup [dW (dN 3) 1]]
def bndt : List D := [.tup [dW (.tup [dW (dN 1) 1]) 1], .tup [dW (.tup [dW (dN 1) 1]) 1, dW (dN 1) 1], .tup [dW (.tup [dW (dN 1) 1]) 2]]
theorem bound_chk : chk (fun d h => isS h && d.among (bnds ++ bndt)) (fun _ _ => false) (f__law_bound [.ref 0] H0) = true := by decide +kernel
def Eb (b : D) : AG.Env := [.no, .v (.ref 0), .v b, .no, .no, .no, .no, .no, .no, .no, .no, .no]
def Ek (b : D) (k : Int) : AG.Env := [.no, .v (.ref 0), .v b, .v (.int k), .no, .no, .no, .no, .no, .no, .no, .no]
def E11 : AG.Env := [.no, .v (.ref 0), .no, .no, .no, .no, .no, .no, .no, .no, .no, .no]
/-- from the bound on: all numbers drawn -/
def part1 (b : D) : Bool :=
  chkS (fun e => chkS (fun e => chkS (fun e => chkS (fun e => chkS (fun e => chkS (fun e => chkS (fun e => chkS (fun e => chkS (fun e => chkS (fun e => kSame E11 e)
    (qd_law_10 e H0)) (qd_law_9 e H0)) (qd_law_8 e H0)) (qd_law_7 e H0)) (qd_law_6 e H0)) (qd_law_5 e H0)) (qd_law_4 e H0)) (qd_law_3 e H0)) (qd_law_2 e H0)) (qd_law_1 (Eb b) H0)
def part2 : Bool := retT (z_law_11 E11 H0)
end L_k05
namespace L_k05
open PySem L2 AG
theorem b_ok : (bnds ++ bndt).all part1 = true := by decide +kernel
theorem p2_ok : part2 = true := by decide +kernel
theorem bound_wp : Wp (f__law_bound [.ref 0] H0) (fun d h => d ∈ bnds ++ bndt ∧ h = H0) EF :=
  Wp.chk bound_chk (fun d h p => by rw [Bool.and_eq_true] at p; exact ⟨D.among_mem p.2, isS_eq p.1⟩) (fun _ _ p => by cases p)
theorem e1 {e h} : z_law_1 e h = mSeq q_law_1 z_law_2 (dropL [0, 3, 4, 5, 6, 7, 8, 9, 10, 11] e) h := rfl
theorem e2 {e h} : z_law_2 e h = mSeq q_law_2 z_law_3 (dropL [0, 4, 5, 6, 7, 8, 9, 10, 11] e) h := rfl
theorem e3 {e h} : z_law_3 e h = mSeq q_law_3 z_law_4 (dropL [0, 4, 5, 6, 7, 8, 9, 10, 11] e) h := rfl
theorem e4 {e h} : z_law_4 e h = mSeq q_law_4 z_law_5 (dropL [0, 5, 6, 7, 8, 9, 10, 11] e) h := rfl
theorem e5 {e h} : z_law_5 e h = mSeq q_law_5 z_law_6 (dropL [0, 5, 6, 7, 8, 9, 10, 11] e) h := rfl
theorem e6 {e h} : z_law_6 e h = mSeq q_law_6 z_law_7 (dropL [0, 6, 7, 8, 9, 10, 11] e) h := rfl
theorem e7 {e h} : z_law_7 e h = mSeq q_law_7 z_law_8 (dropL [0, 5, 6, 7, 8, 9, 10, 11] e) h := rfl
theorem e8 {e h} : z_law_8 e h = mSeq q_law_8 z_law_9 (dropL [0, 5, 6, 7, 8, 9, 10, 11] e) h := rfl
theorem e9 {e h} : z_law_9 e h = mSeq q_law_9 z_law_10 (dropL [0, 5, 7, 8, 9, 10, 11] e) h := rfl
theorem e10 {e h} : z_law_10 e h = mSeq q_law_10 z_law_11 (dropL [0, 2, 5, 7, 8, 9, 10, 11] e) h := rfl
theorem d1 {e h} : qd_law_1 e h = q_law_1 (dropL [0, 3, 4, 5, 6, 7, 8, 9, 10, 11] e) h := rfl
theorem e11 {e h} : z_law_11 e h = z_law_11 (dropL [0, 2, 3, 4, 5, 6, 7, 8, 9, 10, 11] e) h := by
  show mSeq q_law_11 z_law_12 (dropL [0, 2, 3, 4, 5, 6, 7, 8, 9, 10, 11] e) h = mSeq q_law_11 z_law_12 (dropL [0, 2, 3, 4, 5, 6, 7, 8, 9, 10, 11] (dropL [0, 2, 3, 4, 5, 6, 7, 8, 9, 10, 11] e)) h
  have : dropL [0, 2, 3, 4, 5, 6, 7, 8, 9, 10, 11] (dropL [0, 2, 3, 4, 5, 6, 7, 8, 9, 10, 11] e) = dropL [0, 2, 3, 4, 5, 6, 7, 8, 9, 10, 11] e := by
    refine List.ext_getElem? fun i => ?_
    rw [dropL_at]
    by_cases q : i ∈ [0, 2, 3, 4, 5, 6, 7, 8, 9, 10, 11] ∧ i < (dropL [0, 2, 3, 4, 5, 6, 7, 8, 9, 10, 11] e).length
    · rw [if_pos q, dropL_at, if_pos ⟨q.1, by simpa [dropL] using q.2⟩]
    · rw [if_neg q]
  rw [this]
theorem part1_wp {b : D} (h : part1 b = true) : Wp (z_law_1 (Eb b) H0) QT EF := by
  rw [e1]
  refine Wp.seqST h fun e he => ?_
  rw [e2]
  refine Wp.seqST he fun e he => ?_
  rw [e3]
  refine Wp.seqST he fun e he => ?_
  rw [e4]
  refine Wp.seqST he fun e he => ?_
  rw [e5]
  refine Wp.seqST he fun e he => ?_
  rw [e6]
  refine Wp.seqST he fun e he => ?_
  rw [e7]
  refine Wp.seqST he fun e he => ?_
  rw [e8]
  refine Wp.seqST he fun e he => ?_
  rw [e9]
  refine Wp.seqST he fun e he => ?_
  rw [e10]
  refine Wp.seqST he fun e he => ?_
  rw [e11, dropL_same he rfl]
  exact retT_wp p2_ok
theorem law_holds : LawM f_law := fun ns _ => by
  unfold f_law
  refine law_of (env := [.v (.scr ns), .no, .no, .no, .no, .no, .no, .no, .no, .no, .no, .no]) rfl ?_
  unfold m_law
  refine Wp.seqE (e := [.v (.scr ns), .v (.ref 0), .no, .no, .no, .no, .no, .no, .no, .no, .no, .no]) (h' := H0) (by simp [fStream]) ?_
  rw [ev_drop]
  unfold r_law_1
  refine Wp.seqP (P := fun e h => h = H0 ∧ ∃ b ∈ bnds ++ bndt, e = Eb b) ?_ ?_
  · unfold q_law_0
    simp [-exists_and_left, -exists_and_right, Wp.bind_iff, -List.mem_append]
    refine Wp.mono bound_wp (fun a h' q => ?_) fun _ _ e => e
    obtain ⟨m1, rfl⟩ := q
    exact Wp.ok ⟨_, rfl, rfl, a, m1, rfl⟩
  · rintro e h' ⟨rfl, b, hb, rfl⟩
    exact part1_wp (List.all_eq_true.mp b_ok b hb)
end L_k05
namespace L_k05
open PySem L2 AG PyProof.Rows
set_option maxHeartbeats 4000000 in
theorem all_mk {P : Program} {w : World} {K : PySem.W.Frag} {h : Heap} {mg : Str → Option Value} {d : DefRec} (hd : ("law" : Str) = d.name) (X : K.In h) (G : h.Ns mainGlobals mg)
    {A0 A1 A2 : Addr}
    {f0 : Addr} {od0 an0 : Option Addr} {sl0 : Array (Option Value)} {oc0 kV0 dc0 pm0 cd0 ct0 : Value}
    (a0 : PySem.W.nsIn K mainGlobals "_law_stream" = some (some (.ref f0))) (l0 : K.lookup f0 = some ⟨oc0, od0, .func (PySem.W.fnOf "_law_stream" "_law_stream" (defArgs s__law_stream) (defBody s__law_stream) (defScope s__law_stream) .none kV0 dc0 pm0 an0 cd0 ct0), sl0⟩)
    (c0 : PySem.W.codeIn K cd0 "_law_stream" = true) (k0 : PySem.W.keepIn K (.ref f0) = true)
    {f1 : Addr} {od1 an1 : Option Addr} {sl1 : Array (Option Value)} {oc1 kV1 dc1 pm1 cd1 ct1 : Value}
    (a1 : PySem.W.nsIn K mainGlobals "power" = some (some (.ref f1))) (l1 : K.lookup f1 = some ⟨oc1, od1, .func (PySem.W.fnOf "power" "power" (defArgs s_power) (defBody s_power) (defScope s_power) .none kV1 dc1 pm1 an1 cd1 ct1), sl1⟩)
    (c1 : PySem.W.codeIn K cd1 "power" = true) (k1 : PySem.W.keepIn K (.ref f1) = true)
    {f2 : Addr} {od2 an2 : Option Addr} {sl2 : Array (Option Value)} {oc2 kV2 dc2 pm2 cd2 ct2 : Value}
    (a2 : PySem.W.nsIn K mainGlobals "_law_draw" = some (some (.ref f2))) (l2 : K.lookup f2 = some ⟨oc2, od2, .func (PySem.W.fnOf "_law_draw" "_law_draw" (defArgs s__law_draw) (defBody s__law_draw) (defScope s__law_draw) .none kV2 dc2 pm2 an2 cd2 ct2), sl2⟩)
    (c2 : PySem.W.codeIn K cd2 "_law_draw" = true) (k2 : PySem.W.keepIn K (.ref f2) = true)
    {f3 : Addr} {od3 an3 : Option Addr} {sl3 : Array (Option Value)} {oc3 kV3 dc3 pm3 cd3 ct3 : Value}
    (a3 : PySem.W.nsIn K mainGlobals "_law_pick" = some (some (.ref f3))) (l3 : K.lookup f3 = some ⟨oc3, od3, .func (PySem.W.fnOf "_law_pick" "_law_pick" (defArgs s__law_pick) (defBody s__law_pick) (defScope s__law_pick) .none kV3 dc3 pm3 an3 cd3 ct3), sl3⟩)
    (c3 : PySem.W.codeIn K cd3 "_law_pick" = true) (k3 : PySem.W.keepIn K (.ref f3) = true)
    {f4 : Addr} {od4 an4 : Option Addr} {sl4 : Array (Option Value)} {oc4 kV4 dc4 pm4 cd4 ct4 : Value}
    (a4 : PySem.W.nsIn K mainGlobals "_law_one" = some (some (.ref f4))) (l4 : K.lookup f4 = some ⟨oc4, od4, .func (PySem.W.fnOf "_law_one" "_law_one" (defArgs s__law_one) (defBody s__law_one) (defScope s__law_one) .none kV4 dc4 pm4 an4 cd4 ct4), sl4⟩)
    (c4 : PySem.W.codeIn K cd4 "_law_one" = true) (k4 : PySem.W.keepIn K (.ref f4) = true)
    {f5 : Addr} {od5 an5 : Option Addr} {sl5 : Array (Option Value)} {oc5 kV5 dc5 pm5 cd5 ct5 : Value}
    (a5 : PySem.W.nsIn K mainGlobals "power_of" = some (some (.ref f5))) (l5 : K.lookup f5 = some ⟨oc5, od5, .func (PySem.W.fnOf "power_of" "power_of" (defArgs s_power_of) (defBody s_power_of) (defScope s_power_of) .none kV5 dc5 pm5 an5 cd5 ct5), sl5⟩)
    (c5 : PySem.W.codeIn K cd5 "power_of" = true) (k5 : PySem.W.keepIn K (.ref f5) = true)
    {f6 : Addr} {od6 an6 : Option Addr} {sl6 : Array (Option Value)} {oc6 kV6 dc6 pm6 cd6 ct6 : Value}
    (a6 : PySem.W.nsIn K mainGlobals "plus" = some (some (.ref f6))) (l6 : K.lookup f6 = some ⟨oc6, od6, .func (PySem.W.fnOf "plus" "plus" (defArgs s_plus) (defBody s_plus) (defScope s_plus) .none kV6 dc6 pm6 an6 cd6 ct6), sl6⟩)
    (c6 : PySem.W.codeIn K cd6 "plus" = true) (k6 : PySem.W.keepIn K (.ref f6) = true)
    {f7 : Addr} {od7 an7 : Option Addr} {sl7 : Array (Option Value)} {oc7 kV7 dc7 pm7 cd7 ct7 : Value}
    (a7 : PySem.W.nsIn K mainGlobals "_law_bound" = some (some (.ref f7))) (l7 : K.lookup f7 = some ⟨oc7, od7, .func (PySem.W.fnOf "_law_bound" "_law_bound" (defArgs s__law_bound) (defBody s__law_bound) (defScope s__law_bound) .none kV7 dc7 pm7 an7 cd7 ct7), sl7⟩)
    (c7 : PySem.W.codeIn K cd7 "_law_bound" = true) (k7 : PySem.W.keepIn K (.ref f7) = true)
    {f8 : Addr} {od8 an8 : Option Addr} {sl8 : Array (Option Value)} {oc8 kV8 dc8 pm8 cd8 ct8 : Value}
    (a8 : PySem.W.nsIn K mainGlobals "_law_all" = some (some (.ref f8))) (l8 : K.lookup f8 = some ⟨oc8, od8, .func (PySem.W.fnOf "_law_all" "_law_all" (defArgs s__law_all) (defBody s__law_all) (defScope s__law_all) .none kV8 dc8 pm8 an8 cd8 ct8), sl8⟩)
    (c8 : PySem.W.codeIn K cd8 "_law_all" = true) (k8 : PySem.W.keepIn K (.ref f8) = true)
    {f9 : Addr} {od9 an9 : Option Addr} {sl9 : Array (Option Value)} {oc9 kV9 dc9 pm9 cd9 ct9 : Value}
    (a9 : PySem.W.nsIn K mainGlobals "checked" = some (some (.ref f9))) (l9 : K.lookup f9 = some ⟨oc9, od9, .func (PySem.W.fnOf "checked" "checked" (defArgs s_checked) (defBody s_checked) (defScope s_checked) .none kV9 dc9 pm9 an9 cd9 ct9), sl9⟩)
    (c9 : PySem.W.codeIn K cd9 "checked" = true) (k9 : PySem.W.keepIn K (.ref f9) = true)
    {f10 : Addr} {od10 an10 : Option Addr} {sl10 : Array (Option Value)} {oc10 kV10 dc10 pm10 cd10 ct10 : Value}
    (a10 : PySem.W.nsIn K mainGlobals "size" = some (some (.ref f10))) (l10 : K.lookup f10 = some ⟨oc10, od10, .func (PySem.W.fnOf "size" "size" (defArgs s_size) (defBody s_size) (defScope s_size) .none kV10 dc10 pm10 an10 cd10 ct10), sl10⟩)
    (c10 : PySem.W.codeIn K cd10 "size" = true) (k10 : PySem.W.keepIn K (.ref f10) = true)
    {f11 : Addr} {od11 an11 : Option Addr} {sl11 : Array (Option Value)} {oc11 kV11 dc11 pm11 cd11 ct11 : Value}
    (a11 : PySem.W.nsIn K mainGlobals "count_below" = some (some (.ref f11))) (l11 : K.lookup f11 = some ⟨oc11, od11, .func (PySem.W.fnOf "count_below" "count_below" (defArgs s_count_below) (defBody s_count_below) (defScope s_count_below) .none kV11 dc11 pm11 an11 cd11 ct11), sl11⟩)
    (c11 : PySem.W.codeIn K cd11 "count_below" = true) (k11 : PySem.W.keepIn K (.ref f11) = true)
    {f12 : Addr} {od12 an12 : Option Addr} {sl12 : Array (Option Value)} {oc12 kV12 dc12 pm12 cd12 ct12 : Value}
    (a12 : PySem.W.nsIn K mainGlobals "first_exponent" = some (some (.ref f12))) (l12 : K.lookup f12 = some ⟨oc12, od12, .func (PySem.W.fnOf "first_exponent" "first_exponent" (defArgs s_first_exponent) (defBody s_first_exponent) (defScope s_first_exponent) .none kV12 dc12 pm12 an12 cd12 ct12), sl12⟩)
    (c12 : PySem.W.codeIn K cd12 "first_exponent" = true) (k12 : PySem.W.keepIn K (.ref f12) = true)
    {f13 : Addr} {od13 an13 : Option Addr} {sl13 : Array (Option Value)} {oc13 kV13 dc13 pm13 cd13 ct13 : Value}
    (a13 : PySem.W.nsIn K mainGlobals "nth" = some (some (.ref f13))) (l13 : K.lookup f13 = some ⟨oc13, od13, .func (PySem.W.fnOf "nth" "nth" (defArgs s_nth) (defBody s_nth) (defScope s_nth) .none kV13 dc13 pm13 an13 cd13 ct13), sl13⟩)
    (c13 : PySem.W.codeIn K cd13 "nth" = true) (k13 : PySem.W.keepIn K (.ref f13) = true)
    {f14 : Addr} {od14 an14 : Option Addr} {sl14 : Array (Option Value)} {oc14 kV14 dc14 pm14 cd14 ct14 : Value}
    (a14 : PySem.W.nsIn K mainGlobals "in_order" = some (some (.ref f14))) (l14 : K.lookup f14 = some ⟨oc14, od14, .func (PySem.W.fnOf "in_order" "in_order" (defArgs s_in_order) (defBody s_in_order) (defScope s_in_order) .none kV14 dc14 pm14 an14 cd14 ct14), sl14⟩)
    (c14 : PySem.W.codeIn K cd14 "in_order" = true) (k14 : PySem.W.keepIn K (.ref f14) = true)
    {f15 : Addr} {od15 an15 : Option Addr} {sl15 : Array (Option Value)} {oc15 kV15 dc15 pm15 cd15 ct15 : Value}
    (a15 : PySem.W.nsIn K mainGlobals "_law_size" = some (some (.ref f15))) (l15 : K.lookup f15 = some ⟨oc15, od15, .func (PySem.W.fnOf "_law_size" "_law_size" (defArgs s__law_size) (defBody s__law_size) (defScope s__law_size) .none kV15 dc15 pm15 an15 cd15 ct15), sl15⟩)
    (c15 : PySem.W.codeIn K cd15 "_law_size" = true) (k15 : PySem.W.keepIn K (.ref f15) = true)
    {f16 : Addr} {od16 an16 : Option Addr} {sl16 : Array (Option Value)} {oc16 kV16 dc16 pm16 cd16 ct16 : Value}
    (a16 : PySem.W.nsIn K mainGlobals "_law_longest" = some (some (.ref f16))) (l16 : K.lookup f16 = some ⟨oc16, od16, .func (PySem.W.fnOf "_law_longest" "_law_longest" (defArgs s__law_longest) (defBody s__law_longest) (defScope s__law_longest) .none kV16 dc16 pm16 an16 cd16 ct16), sl16⟩)
    (c16 : PySem.W.codeIn K cd16 "_law_longest" = true) (k16 : PySem.W.keepIn K (.ref f16) = true)
    {f17 : Addr} {od17 an17 : Option Addr} {sl17 : Array (Option Value)} {oc17 kV17 dc17 pm17 cd17 ct17 : Value}
    (a17 : PySem.W.nsIn K mainGlobals "greatest_below" = some (some (.ref f17))) (l17 : K.lookup f17 = some ⟨oc17, od17, .func (PySem.W.fnOf "greatest_below" "greatest_below" (defArgs s_greatest_below) (defBody s_greatest_below) (defScope s_greatest_below) .none kV17 dc17 pm17 an17 cd17 ct17), sl17⟩)
    (c17 : PySem.W.codeIn K cd17 "greatest_below" = true) (k17 : PySem.W.keepIn K (.ref f17) = true)
    {f18 : Addr} {od18 an18 : Option Addr} {sl18 : Array (Option Value)} {oc18 kV18 dc18 pm18 cd18 ct18 : Value}
    (a18 : PySem.W.nsIn K mainGlobals "falling" = some (some (.ref f18))) (l18 : K.lookup f18 = some ⟨oc18, od18, .func (PySem.W.fnOf "falling" "falling" (defArgs s_falling) (defBody s_falling) (defScope s_falling) .none kV18 dc18 pm18 an18 cd18 ct18), sl18⟩)
    (c18 : PySem.W.codeIn K cd18 "falling" = true) (k18 : PySem.W.keepIn K (.ref f18) = true)
    {f19 : Addr} {od19 an19 : Option Addr} {sl19 : Array (Option Value)} {oc19 kV19 dc19 pm19 cd19 ct19 : Value}
    (a19 : PySem.W.nsIn K mainGlobals "_law_same" = some (some (.ref f19))) (l19 : K.lookup f19 = some ⟨oc19, od19, .func (PySem.W.fnOf "_law_same" "_law_same" (defArgs s__law_same) (defBody s__law_same) (defScope s__law_same) .none kV19 dc19 pm19 an19 cd19 ct19), sl19⟩)
    (c19 : PySem.W.codeIn K cd19 "_law_same" = true) (k19 : PySem.W.keepIn K (.ref f19) = true)
    {f20 : Addr} {od20 an20 : Option Addr} {sl20 : Array (Option Value)} {oc20 kV20 dc20 pm20 cd20 ct20 : Value}
    (a20 : PySem.W.nsIn K mainGlobals "_law_is_plain" = some (some (.ref f20))) (l20 : K.lookup f20 = some ⟨oc20, od20, .func (PySem.W.fnOf "_law_is_plain" "_law_is_plain" (defArgs s__law_is_plain) (defBody s__law_is_plain) (defScope s__law_is_plain) .none kV20 dc20 pm20 an20 cd20 ct20), sl20⟩)
    (c20 : PySem.W.codeIn K cd20 "_law_is_plain" = true) (k20 : PySem.W.keepIn K (.ref f20) = true)
    {f21 : Addr} {od21 an21 : Option Addr} {sl21 : Array (Option Value)} {oc21 kV21 dc21 pm21 cd21 ct21 : Value}
    (a21 : PySem.W.nsIn K mainGlobals "_law_refuses" = some (some (.ref f21))) (l21 : K.lookup f21 = some ⟨oc21, od21, .func (PySem.W.fnOf "_law_refuses" "_law_refuses" (defArgs s__law_refuses) (defBody s__law_refuses) (defScope s__law_refuses) .none kV21 dc21 pm21 an21 cd21 ct21), sl21⟩)
    (c21 : PySem.W.codeIn K cd21 "_law_refuses" = true) (k21 : PySem.W.keepIn K (.ref f21) = true)
    {f22 : Addr} {od22 an22 : Option Addr} {sl22 : Array (Option Value)} {oc22 kV22 dc22 pm22 cd22 ct22 : Value}
    (a22 : PySem.W.nsIn K mainGlobals "is_fall" = some (some (.ref f22))) (l22 : K.lookup f22 = some ⟨oc22, od22, .func (PySem.W.fnOf "is_fall" "is_fall" (defArgs s_is_fall) (defBody s_is_fall) (defScope s_is_fall) .none kV22 dc22 pm22 an22 cd22 ct22), sl22⟩)
    (c22 : PySem.W.codeIn K cd22 "is_fall" = true) (k22 : PySem.W.keepIn K (.ref f22) = true)
    {f23 : Addr} {od23 an23 : Option Addr} {sl23 : Array (Option Value)} {oc23 kV23 dc23 pm23 cd23 ct23 : Value}
    (a23 : PySem.W.nsIn K mainGlobals "fall" = some (some (.ref f23))) (l23 : K.lookup f23 = some ⟨oc23, od23, .func (PySem.W.fnOf "fall" "fall" (defArgs s_fall) (defBody s_fall) (defScope s_fall) .none kV23 dc23 pm23 an23 cd23 ct23), sl23⟩)
    (c23 : PySem.W.codeIn K cd23 "fall" = true) (k23 : PySem.W.keepIn K (.ref f23) = true)
    {f24 : Addr} {od24 an24 : Option Addr} {sl24 : Array (Option Value)} {oc24 kV24 dc24 pm24 cd24 ct24 : Value}
    (a24 : PySem.W.nsIn K mainGlobals "law" = some (some (.ref f24))) (l24 : K.lookup f24 = some ⟨oc24, od24, .func (PySem.W.fnOf "law" "law" (defArgs s_law) (defBody s_law) (defScope s_law) .none kV24 dc24 pm24 an24 cd24 ct24), sl24⟩)
    (c24 : PySem.W.codeIn K cd24 "law" = true) (k24 : PySem.W.keepIn K (.ref f24) = true)
    (z_int : PySem.W.nsIn K mainGlobals "int" = some none)
    (z_list : PySem.W.nsIn K mainGlobals "list" = some none)
    (z_len : PySem.W.nsIn K mainGlobals "len" = some none)
    (z_abs : PySem.W.nsIn K mainGlobals "abs" = some none)
    (z_range : PySem.W.nsIn K mainGlobals "range" = some none)
    (z_tuple : PySem.W.nsIn K mainGlobals "tuple" = some none)
    (z_sorted : PySem.W.nsIn K mainGlobals "sorted" = some none)
    (z_max : PySem.W.nsIn K mainGlobals "max" = some none)
    (z_min : PySem.W.nsIn K mainGlobals "min" = some none)
    (z_isinstance : PySem.W.nsIn K mainGlobals "isinstance" = some none)
    (z_all : PySem.W.nsIn K mainGlobals "all" = some none)
    (z_bool : PySem.W.nsIn K mainGlobals "bool" = some none)
    (z_str : PySem.W.nsIn K mainGlobals "str" = some none)
    (z_enumerate : PySem.W.nsIn K mainGlobals "enumerate" = some none)
    {tk_MOST_STAGE_1 : Nat}
    (y_MOST_STAGE : PySem.W.nsIn K mainGlobals "MOST_STAGE" = some (some (.int 100000000000000000000000000000000000000000000000000000000000000000000000000000000000000000000000000000000000000000000000000000000000000000000000000000000000000000000000000000000000000000000000000000000 tk_MOST_STAGE_1)))
    {ta_ONE_3 : Addr} {to_ONE_3 : Option Addr} {tn_ONE_3 : Nat} {ts_ONE_3 : Array (Option Value)}
    {tk_ONE_4 : Nat}
    {ta_ONE_2 : Addr} {to_ONE_2 : Option Addr} {tn_ONE_2 : Nat} {ts_ONE_2 : Array (Option Value)}
    {ta_ONE_1 : Addr} {to_ONE_1 : Option Addr} {tn_ONE_1 : Nat} {ts_ONE_1 : Array (Option Value)}
    (y_ONE : PySem.W.nsIn K mainGlobals "ONE" = some (some (.ref ta_ONE_1)))
    (x_ONE_1 : K.lookup ta_ONE_1 = some ⟨.type "tuple", to_ONE_1, .seq #[.ref ta_ONE_2] tn_ONE_1, ts_ONE_1⟩)
    (x_ONE_2 : K.lookup ta_ONE_2 = some ⟨.type "tuple", to_ONE_2, .seq #[.ref ta_ONE_3, .int 1 tk_ONE_4] tn_ONE_2, ts_ONE_2⟩)
    (x_ONE_3 : K.lookup ta_ONE_3 = some ⟨.type "tuple", to_ONE_3, .seq #[] tn_ONE_3, ts_ONE_3⟩)
    {ta_ZERO_1 : Addr} {to_ZERO_1 : Option Addr} {tn_ZERO_1 : Nat} {ts_ZERO_1 : Array (Option Value)}
    (y_ZERO : PySem.W.nsIn K mainGlobals "ZERO" = some (some (.ref ta_ZERO_1)))
    (x_ZERO_1 : K.lookup ta_ZERO_1 = some ⟨.type "tuple", to_ZERO_1, .seq #[] tn_ZERO_1, ts_ZERO_1⟩)
    {tk_MOST_LIST_1 : Nat}
    (y_MOST_LIST : PySem.W.nsIn K mainGlobals "MOST_LIST" = some (some (.int 5000 tk_MOST_LIST_1)))
    (gx0 : PySem.W.nsIn K mainGlobals "AllgradesError" = some (some (.ref A0)))
    (gx1 : PySem.W.nsIn K mainGlobals "Above" = some (some (.ref A1)))
    (xx1 : PySem.W.excIn K A1 [.type "ValueError", .type "Exception", .type "BaseException", .type "object"] "ValueError.__new__" = true) (kx1 : PySem.W.keepIn K (.ref A1) = true) (bx1 : PySem.W.subIn K (.ref A1) (.type "BaseException") = some true) (tx1 : PySem.W.typeIn K (.ref A1) = some (.type "type"))
    (gx2 : PySem.W.nsIn K mainGlobals "NotAllowed" = some (some (.ref A2)))
    (xx2 : PySem.W.excIn K A2 [.type "ValueError", .type "Exception", .type "BaseException", .type "object"] "ValueError.__new__" = true) (kx2 : PySem.W.keepIn K (.ref A2) = true) (bx2 : PySem.W.subIn K (.ref A2) (.type "BaseException") = some true) (tx2 : PySem.W.typeIn K (.ref A2) = some (.type "type"))
    (sx0_2 : PySem.W.subIn K (.ref A0) (.ref A2) = some false)
    (sx1_2 : PySem.W.subIn K (.ref A1) (.ref A2) = some false)
    (sx2_2 : PySem.W.subIn K (.ref A2) (.ref A2) = some true)
    (ix2 : PySem.W.isClsIn K A2 = true)
    : ∃ (ca : CA) (x : Str) (st : Stmt) (k : Nat) (N : List Str) (mb : AG.Env → M Fl), x = d.name ∧ DefOk K mg x st ["script"] ∧ FnScope N ["script"] (defScope st) ∧ 213 = k + 1 ∧ f_law = mFn N.length mb ∧ ∀ base : Heap, K.In base → base.Ns mainGlobals mg → BodyOk P w K mg base ca k x st N mb := by
  let ca : CA := ⟨fun c => match c with | 0 => A0 | 1 => A1 | 2 => A2 | _ => 0, w⟩
  have hW_ : ca.wd = w := rfl
  have D__law_stream : DefOk K mg "_law_stream" s__law_stream ["script"] := def_mk X G a0 l0 c0 k0 fun _ _ _ _ _ _ us hl => match us, hl with | [_], _ => rfl
  have D_power : DefOk K mg "power" s_power ["a"] := def_mk X G a1 l1 c1 k1 fun _ _ _ _ _ _ us hl => match us, hl with | [_], _ => rfl
  have D__law_draw : DefOk K mg "_law_draw" s__law_draw ["stream", "many"] := def_mk X G a2 l2 c2 k2 fun _ _ _ _ _ _ us hl => match us, hl with | [_, _], _ => rfl
  have D__law_pick : DefOk K mg "_law_pick" s__law_pick ["stream", "rows"] := def_mk X G a3 l3 c3 k3 fun _ _ _ _ _ _ us hl => match us, hl with | [_, _], _ => rfl
  have D__law_one : DefOk K mg "_law_one" s__law_one [] := def_mk X G a4 l4 c4 k4 fun _ _ _ _ _ _ us hl => match us, hl with | [], _ => rfl
  have D_power_of : DefOk K mg "power_of" s_power_of ["base", "exponent"] := def_mk X G a5 l5 c5 k5 fun _ _ _ _ _ _ us hl => match us, hl with | [_, _], _ => rfl
  have D_plus : DefOk K mg "plus" s_plus ["a", "b"] := def_mk X G a6 l6 c6 k6 fun _ _ _ _ _ _ us hl => match us, hl with | [_, _], _ => rfl
  have D__law_bound : DefOk K mg "_law_bound" s__law_bound ["stream"] := def_mk X G a7 l7 c7 k7 fun _ _ _ _ _ _ us hl => match us, hl with | [_], _ => rfl
  have D__law_all : DefOk K mg "_law_all" s__law_all ["bound", "k"] := def_mk X G a8 l8 c8 k8 fun _ _ _ _ _ _ us hl => match us, hl with | [_, _], _ => rfl
  have D_checked : DefOk K mg "checked" s_checked ["n"] := def_mk X G a9 l9 c9 k9 fun _ _ _ _ _ _ us hl => match us, hl with | [_], _ => rfl
  have D_size : DefOk K mg "size" s_size ["a"] := def_mk X G a10 l10 c10 k10 fun _ _ _ _ _ _ us hl => match us, hl with | [_], _ => rfl
  have D_count_below : DefOk K mg "count_below" s_count_below ["a", "k"] := def_mk X G a11 l11 c11 k11 fun _ _ _ _ _ _ us hl => match us, hl with | [_, _], _ => rfl
  have D_first_exponent : DefOk K mg "first_exponent" s_first_exponent ["index", "k", "bound"] := def_mk X G a12 l12 c12 k12 fun _ _ _ _ _ _ us hl => match us, hl with | [_, _, _], _ => rfl
  have D_nth : DefOk K mg "nth" s_nth ["index", "k", "bound"] := def_mk X G a13 l13 c13 k13 fun _ _ _ _ _ _ us hl => match us, hl with | [_, _, _], _ => rfl
  have D_in_order : DefOk K mg "in_order" s_in_order ["k", "bound"] := def_mk X G a14 l14 c14 k14 fun _ _ _ _ _ _ us hl => match us, hl with | [_, _], _ => rfl
  have D__law_size : DefOk K mg "_law_size" s__law_size ["a"] := def_mk X G a15 l15 c15 k15 fun _ _ _ _ _ _ us hl => match us, hl with | [_], _ => rfl
  have D__law_longest : DefOk K mg "_law_longest" s__law_longest ["rows", "a", "k", "known"] := def_mk X G a16 l16 c16 k16 fun _ _ _ _ _ _ us hl => match us, hl with | [_, _, _, _], _ => rfl
  have D_greatest_below : DefOk K mg "greatest_below" s_greatest_below ["a", "k"] := def_mk X G a17 l17 c17 k17 fun _ _ _ _ _ _ us hl => match us, hl with | [_, _], _ => rfl
  have D_falling : DefOk K mg "falling" s_falling ["a", "k", "most"] := def_mk X G a18 l18 c18 k18 fun _ _ _ _ _ _ us hl => match us, hl with | [_, _, _], _ => rfl
  have D__law_same : DefOk K mg "_law_same" s__law_same ["one", "two"] := def_mk X G a19 l19 c19 k19 fun _ _ _ _ _ _ us hl => match us, hl with | [_, _], _ => rfl
  have D__law_is_plain : DefOk K mg "_law_is_plain" s__law_is_plain ["value"] := def_mk X G a20 l20 c20 k20 fun _ _ _ _ _ _ us hl => match us, hl with | [_], _ => rfl
  have D__law_refuses : DefOk K mg "_law_refuses" s__law_refuses ["index", "k", "bound"] := def_mk X G a21 l21 c21 k21 fun _ _ _ _ _ _ us hl => match us, hl with | [_, _, _], _ => rfl
  have D_is_fall : DefOk K mg "is_fall" s_is_fall ["a", "k", "row"] := def_mk X G a22 l22 c22 k22 fun _ _ _ _ _ _ us hl => match us, hl with | [_, _, _], _ => rfl
  have D_fall : DefOk K mg "fall" s_fall ["a", "k"] := def_mk X G a23 l23 c23 k23 fun _ _ _ _ _ _ us hl => match us, hl with | [_, _], _ => rfl
  have D_law : DefOk K mg "law" s_law ["script"] := def_mk X G a24 l24 c24 k24 fun _ _ _ _ _ _ us hl => match us, hl with | [_], _ => rfl
  have z_int := PySem.W.mg_none_of X G z_int
  have z_list := PySem.W.mg_none_of X G z_list
  have z_len := PySem.W.mg_none_of X G z_len
  have z_abs := PySem.W.mg_none_of X G z_abs
  have z_range := PySem.W.mg_none_of X G z_range
  have z_tuple := PySem.W.mg_none_of X G z_tuple
  have z_sorted := PySem.W.mg_none_of X G z_sorted
  have z_max := PySem.W.mg_none_of X G z_max
  have z_min := PySem.W.mg_none_of X G z_min
  have z_isinstance := PySem.W.mg_none_of X G z_isinstance
  have z_all := PySem.W.mg_none_of X G z_all
  have z_bool := PySem.W.mg_none_of X G z_bool
  have z_str := PySem.W.mg_none_of X G z_str
  have z_enumerate := PySem.W.mg_none_of X G z_enumerate
  have g_MOST_STAGE : GC K mg "MOST_STAGE" c_MOST_STAGE := ⟨.int 100000000000000000000000000000000000000000000000000000000000000000000000000000000000000000000000000000000000000000000000000000000000000000000000000000000000000000000000000000000000000000000000000000000, .int 100000000000000000000000000000000000000000000000000000000000000000000000000000000000000000000000000000000000000000000000000000000000000000000000000000000000000000000000000000000000000000000000000000000 tk_MOST_STAGE_1, PySem.W.mg_of X G y_MOST_STAGE, ⟨_, rfl⟩, fun w => .int _⟩
  have g_ONE : GC K mg "ONE" c_ONE := ⟨.ref ta_ONE_1, .ref ta_ONE_1, PySem.W.mg_of X G y_ONE, rfl, fun w => .tup (xs := [.ref ta_ONE_2]) (.inr ⟨_, _, _, x_ONE_1, rfl, rfl, (show 1 ≤ sizeLine by decide), .cons rfl .nil⟩) (.cons (.tup (xs := [.ref ta_ONE_3, .int 1]) (.inr ⟨_, _, _, x_ONE_2, rfl, rfl, (show 2 ≤ sizeLine by decide), .cons rfl (.cons (⟨_, rfl⟩) .nil)⟩) (.cons (.tup (xs := []) (.inr ⟨_, _, _, x_ONE_3, rfl, rfl, (show 0 ≤ sizeLine by decide), .nil⟩) .nil) (.cons (.int _) .nil))) .nil)⟩
  have g_ZERO : GC K mg "ZERO" c_ZERO := ⟨.ref ta_ZERO_1, .ref ta_ZERO_1, PySem.W.mg_of X G y_ZERO, rfl, fun w => .tup (xs := []) (.inr ⟨_, _, _, x_ZERO_1, rfl, rfl, (show 0 ≤ sizeLine by decide), .nil⟩) .nil⟩
  have g_MOST_LIST : GC K mg "MOST_LIST" c_MOST_LIST := ⟨.int 5000, .int 5000 tk_MOST_LIST_1, PySem.W.mg_of X G y_MOST_LIST, ⟨_, rfl⟩, fun w => .int _⟩
  have e_Above : EC K mg ca 1 "Above" := ⟨⟨_, _, _, _, PySem.F.excBase_ValueError, xx1⟩, PySem.W.mg_of X G gx1, kx1, bx1, tx1⟩
  have e_NotAllowed : EC K mg ca 2 "NotAllowed" := ⟨⟨_, _, _, _, PySem.F.excBase_ValueError, xx2⟩, PySem.W.mg_of X G gx2, kx2, bx2, tx2⟩
  have m_of_NotAllowed : EM K ca 2 s_of_NotAllowed := fun c b e => match c, e with | 0, e => by cases e; exact exm_mk bx2 ix2 tx2 sx0_2 | 1, e => by cases e; exact exm_mk bx2 ix2 tx2 sx1_2 | 2, e => by cases e; exact exm_mk bx2 ix2 tx2 sx2_2
  refine ⟨ca, "law", s_law, 212, N_law, m_law, hd, D_law, sc_law, rfl, rfl, fun base hB1 hB2 => ?_⟩
  have F__law_stream := ok2__law_stream (ok__law_stream (P := P) (w := w) (base := base) (ca := ca) D__law_stream z_int z_list)
  have F_power := ok_power (P := P) (w := w) (base := base) (ca := ca) D_power
  have F__law_draw := ok2__law_draw (ok__law_draw (P := P) (w := w) (base := base) (ca := ca) D__law_draw z_len z_int z_abs)
  have F__law_pick := ok__law_pick (P := P) (w := w) (base := base) (ca := ca) D__law_pick z_len F__law_draw
  have F__law_one := ok__law_one (P := P) (w := w) (base := base) (ca := ca) D__law_one
  have F_power_of := ok_power_of (P := P) (w := w) (base := base) (ca := ca) D_power_of z_range g_MOST_STAGE e_Above
  have F_plus := ok_plus (P := P) (w := w) (base := base) (ca := ca) D_plus z_tuple F_power_of
  have F__law_bound := ok__law_bound (P := P) (w := w) (base := base) (ca := ca) D__law_bound F__law_one F__law_pick F_plus F_power
  have F__law_all := ok__law_all (P := P) (w := w) (base := base) (ca := ca) D__law_all z_range z_sorted F__law_one F_plus
  have F_checked := ok_checked (P := P) (w := w) (base := base) (ca := ca) D_checked g_MOST_STAGE e_Above
  have F_size := ok_size (P := P) (w := w) (base := base) (ca := ca) D_size z_max
  have F_count_below := ok_count_below (P := P) (w := w) (base := base) (ca := ca) D_count_below z_min F_checked F_power_of F_size
  have F_first_exponent := ok_first_exponent (P := P) (w := w) (base := base) (ca := ca) D_first_exponent D_nth g_ONE g_ZERO e_NotAllowed F_count_below F_plus F_power_of
  have F_nth := ok_nth (P := P) (w := w) (base := base) (ca := ca) D_first_exponent D_nth g_ONE g_ZERO e_NotAllowed F_count_below F_plus F_power_of
  have F_in_order := ok_in_order (P := P) (w := w) (base := base) (ca := ca) D_in_order z_range g_MOST_LIST e_Above F_count_below F_nth
  have F__law_size := ok__law_size (P := P) (w := w) (base := base) (ca := ca) D__law_size z_max
  have F__law_longest := ok__law_longest (P := P) (w := w) (base := base) (ca := ca) D__law_longest z_max hW_ F__law_size
  have F_greatest_below := ok_greatest_below (P := P) (w := w) (base := base) (ca := ca) D_greatest_below F_count_below F_nth
  have F_falling := ok_falling (P := P) (w := w) (base := base) (ca := ca) D_falling z_len F_greatest_below
  have F__law_same := ok__law_same (P := P) (w := w) (base := base) (ca := ca) D__law_same z_isinstance z_tuple z_list z_len z_range z_all z_bool
  have F__law_is_plain := ok__law_is_plain (P := P) (w := w) (base := base) (ca := ca) D__law_is_plain z_isinstance z_tuple z_list z_all z_str z_int
  have F__law_refuses := ok__law_refuses (P := P) (w := w) (base := base) (ca := ca) D__law_refuses e_NotAllowed m_of_NotAllowed F_nth
  have F_is_fall := ok_is_fall (P := P) (w := w) (base := base) (ca := ca) D_is_fall z_enumerate F_size
  have F_fall := ok_fall (P := P) (w := w) (base := base) (ca := ca) D_fall g_MOST_LIST e_Above F_greatest_below
  exact body_law z_len hW_ F__law_all F__law_bound F__law_draw F__law_is_plain F__law_longest F__law_one F__law_pick F__law_refuses F__law_same F__law_size F__law_stream F_count_below F_fall F_falling F_greatest_below F_in_order F_is_fall F_nth F_plus F_power F_size
end L_k05
open PySem PySem.W PyProof.Rows
set_option maxRecDepth 100000 in
set_option maxHeartbeats 0 in
theorem PySem.Challenge.cw_allgrades_k05_whole_sizes_and_falls_holds : PySem.Challenge.rw_allgrades_k05_whole_sizes_and_falls.Holds := by
  w_on; o_law; k_head; (case hw => w_witness2)
  k_fill
  refine AG.walkM (l := PySem.Challenge.rw_allgrades_k05_whole_sizes_and_falls) (m := L_k05.f_law) (lv := 213) L_k05.law_holds rfl rfl ⟨rfl, by decide, by decide⟩ (fun w h Y => PySem.W.kIn_of Y) ?F
  case F =>
    intro w mg h KX G
    refine' L_k05.all_mk rfl KX G ?a0 ?l0 ?c0 ?k0 ?a1 ?l1 ?c1 ?k1 ?a2 ?l2 ?c2 ?k2 ?a3 ?l3 ?c3 ?k3 ?a4 ?l4 ?c4 ?k4 ?a5 ?l5 ?c5 ?k5 ?a6 ?l6 ?c6 ?k6 ?a7 ?l7 ?c7 ?k7 ?a8 ?l8 ?c8 ?k8 ?a9 ?l9 ?c9 ?k9 ?a10 ?l10 ?c10 ?k10 ?a11 ?l11 ?c11 ?k11 ?a12 ?l12 ?c12 ?k12 ?a13 ?l13 ?c13 ?k13 ?a14 ?l14 ?c14 ?k14 ?a15 ?l15 ?c15 ?k15 ?a16 ?l16 ?c16 ?k16 ?a17 ?l17 ?c17 ?k17 ?a18 ?l18 ?c18 ?k18 ?a19 ?l19 ?c19 ?k19 ?a20 ?l20 ?c20 ?k20 ?a21 ?l21 ?c21 ?k21 ?a22 ?l22 ?c22 ?k22 ?a23 ?l23 ?c23 ?k23 ?a24 ?l24 ?c24 ?k24 ?z_int ?z_list ?z_len ?z_abs ?z_range ?z_tuple ?z_sorted ?z_max ?z_min ?z_isinstance ?z_all ?z_bool ?z_str ?z_enumerate ?y_MOST_STAGE ?y_ONE ?x_ONE_1 ?x_ONE_2 ?x_ONE_3 ?y_ZERO ?x_ZERO_1 ?y_MOST_LIST ?gx0 ?gx1 ?xx1 ?kx1 ?bx1 ?tx1 ?gx2 ?xx2 ?kx2 ?bx2 ?tx2 ?sx0_2 ?sx1_2 ?sx2_2 ?ix2
    (case a0 => k_is); (case l0 => k_is); (case c0 => k_is); (case k0 => k_is)
    (case a1 => k_is); (case l1 => k_is); (case c1 => k_is); (case k1 => k_is)
    (case a2 => k_is); (case l2 => k_is); (case c2 => k_is); (case k2 => k_is)
    (case a3 => k_is); (case l3 => k_is); (case c3 => k_is); (case k3 => k_is)
    (case a4 => k_is); (case l4 => k_is); (case c4 => k_is); (case k4 => k_is)
    (case a5 => k_is); (case l5 => k_is); (case c5 => k_is); (case k5 => k_is)
    (case a6 => k_is); (case l6 => k_is); (case c6 => k_is); (case k6 => k_is)
    (case a7 => k_is); (case l7 => k_is); (case c7 => k_is); (case k7 => k_is)
    (case a8 => k_is); (case l8 => k_is); (case c8 => k_is); (case k8 => k_is)
    (case a9 => k_is); (case l9 => k_is); (case c9 => k_is); (case k9 => k_is)
    (case a10 => k_is); (case l10 => k_is); (case c10 => k_is); (case k10 => k_is)
    (case a11 => k_is); (case l11 => k_is); (case c11 => k_is); (case k11 => k_is)
    (case a12 => k_is); (case l12 => k_is); (case c12 => k_is); (case k12 => k_is)
    (case a13 => k_is); (case l13 => k_is); (case c13 => k_is); (case k13 => k_is)
    (case a14 => k_is); (case l14 => k_is); (case c14 => k_is); (case k14 => k_is)
    (case a15 => k_is); (case l15 => k_is); (case c15 => k_is); (case k15 => k_is)
    (case a16 => k_is); (case l16 => k_is); (case c16 => k_is); (case k16 => k_is)
    (case a17 => k_is); (case l17 => k_is); (case c17 => k_is); (case k17 => k_is)
    (case a18 => k_is); (case l18 => k_is); (case c18 => k_is); (case k18 => k_is)
    (case a19 => k_is); (case l19 => k_is); (case c19 => k_is); (case k19 => k_is)
    (case a20 => k_is); (case l20 => k_is); (case c20 => k_is); (case k20 => k_is)
    (case a21 => k_is); (case l21 => k_is); (case c21 => k_is); (case k21 => k_is)
    (case a22 => k_is); (case l22 => k_is); (case c22 => k_is); (case k22 => k_is)
    (case a23 => k_is); (case l23 => k_is); (case c23 => k_is); (case k23 => k_is)
    (case a24 => k_is); (case l24 => k_is); (case c24 => k_is); (case k24 => k_is)
    (case z_int => k_is); (case z_list => k_is); (case z_len => k_is); (case z_abs => k_is)
    (case z_range => k_is); (case z_tuple => k_is); (case z_sorted => k_is); (case z_max => k_is)
    (case z_min => k_is); (case z_isinstance => k_is); (case z_all => k_is); (case z_bool => k_is)
    (case z_str => k_is); (case z_enumerate => k_is); (case y_MOST_STAGE => k_is); (case y_ONE => k_is)
    (case x_ONE_1 => k_is); (case x_ONE_2 => k_is); (case x_ONE_3 => k_is); (case y_ZERO => k_is)
    (case x_ZERO_1 => k_is); (case y_MOST_LIST => k_is); (case gx0 => k_is); (case gx1 => k_is)
    (case xx1 => k_exc); (case kx1 => k_is); (case bx1 => k_is); (case tx1 => k_is)
    (case gx2 => k_is); (case xx2 => k_exc); (case kx2 => k_is); (case bx2 => k_is)
    (case tx2 => k_is); (case sx0_2 => k_is); (case sx1_2 => k_is); (case sx2_2 => k_is)
    (case ix2 => k_is)
#print axioms PySem.Challenge.cw_allgrades_k05_whole_sizes_and_falls_holds
