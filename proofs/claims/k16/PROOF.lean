import PyProof.Rows.All
import Wide.All
import OpenK.AllK
import Wide.FinOn
import HandS.ForMost
import HandS.ForExc
import KE.KDictKeyed
import HandS.TupLe
import HandS.TupAny
import HandS.WideBits
import HandS.Flow
import HandS.Style
import HandS.Steps
import KE.DataCmp
import KE.DataEq
import KE.DataAny
import KE.DataIsa
import KE.DataFind
import KE.DataMinMax
import KE.SortData
import HandS.Rev
import PyProof.LongRange
import HandS.SortKw
import HandS.TryOnly
import HandS.Small
import HandS.Zip
import HandS.More
import PyProof.Rows.AssignMoreSeq
import HandS.Flt
import KE.GoesEnum
import KE.KStateDown
import PyProof.Rows.Range3
import KE.KTryMore
import HandS.DictComp
import KE.KDictSum
import KE.KDictCopyH
import HandS.TupMul
import HandS.Codes
import PySem.Challenge.RW_allgrades_k16_whole_bounded_programs
set_option Elab.async false
set_option linter.all false
set_option maxRecDepth 100000
/-! AgA: plain data D, the monad M, the worlds, and what it means that a Python value is a datum. -/
namespace AG
open PySem L2

/-- plain data; ref n: the n-th explicit (mutable) object -/
inductive D where
  | non | bl (b : Bool) | int (i : Int) | str (s : Str) | tup (xs : List D) | lst (xs : List D) | ref (n : Nat) | scr (ns : List Int)

/-- explicit objects -/
inductive MO where
  | lst (xs : List D)
  | stream
  | inst (c : Nat) (fs : List (Str × D))
  | dct (kvs : List (D × D))
  | dky (kvs : List (Key × D))
abbrev MH := List MO

/-- what a computation comes to: a value, an exception of a class, nothing that is told, or one of n ways -/
inductive R (α : Type) where
  | ok (a : α) (h : MH)
  | exc (c : Nat) (h : MH)
  | bad
  | pick (n : Nat) (k : Nat → R α)

def R.bind {α β : Type} : R α → (α → MH → R β) → R β
  | .ok a h, f => f a h
  | .exc c h, _ => .exc c h
  | .bad, _ => .bad
  | .pick n k, f => .pick n fun i => (k i).bind f

abbrev M (α : Type) := MH → R α
def M.bind {α β : Type} (m : M α) (f : α → M β) : M β := fun h => (m h).bind fun a h' => f a h'
def M.pure {α : Type} (a : α) : M α := fun h => .ok a h
def M.bad {α : Type} : M α := fun _ => .bad
def M.exc {α : Type} (c : Nat) : M α := fun h => .exc c h
instance : Monad M where
  pure := M.pure
  bind := M.bind

def wpR {α : Type} (r : R α) (Q : α → MH → Prop) (E : Nat → MH → Prop) : Prop :=
  match r with
  | .ok a h => Q a h
  | .exc c h => E c h
  | .bad => False
  | .pick n k => 0 < n ∧ ∀ i, i < n → wpR (k i) Q E

theorem wpR_bind {α β : Type} {r : R α} {f : α → MH → R β} {Q : β → MH → Prop} {E : Nat → MH → Prop} : wpR (r.bind f) Q E ↔ wpR r (fun a h => wpR (f a h) Q E) E := by
  induction r with
  | ok a h => exact Iff.rfl
  | exc c h => exact Iff.rfl
  | bad => exact Iff.rfl
  | pick n k ih => exact ⟨fun h => ⟨h.1, fun i hi => (ih i).mp (h.2 i hi)⟩, fun h => ⟨h.1, fun i hi => (ih i).mpr (h.2 i hi)⟩⟩
theorem wpR_mono {α : Type} {r : R α} {Q Q' : α → MH → Prop} {E E' : Nat → MH → Prop} (h : wpR r Q E) (hQ : ∀ a h, Q a h → Q' a h) (hE : ∀ c h, E c h → E' c h) : wpR r Q' E' := by
  induction r with
  | ok a m => exact hQ _ _ h
  | exc c m => exact hE _ _ h
  | bad => exact h
  | pick n k ih => exact ⟨h.1, fun i hi => ih i (h.2 i hi)⟩

inductive Slot where
  | no
  | v (d : D)
  | own (xs : List D)
abbrev Env := List Slot
inductive Fl where
  | nx (e : Env) | bk (e : Env) | ct (e : Env) | rt (d : D)

/-! ### worlds -/
/-- ρ: where the explicit objects stand; F: what is frozen for ever (tuples, the script's copies); L: lists that are not written any more (or are lent); H: all that is tracked -/
structure Wd where
  ρ : List Addr
  F : Hp
  L : Addr → Option (List V)
  H : Hp

mutual
inductive Rp (K : PySem.W.Frag) (w : Wd) : V → D → Prop
  | non : Rp K w .non .non
  | bl (b : Bool) : Rp K w (.bl b) (.bl b)
  | int (i : Int) : Rp K w (.int i) (.int i)
  | str (x : Str) : Rp K w (.str x) (.str x)
  | tup {a : Addr} {xs : List V} {ds : List D} : SqT K w.F a xs → RpAll K w xs ds → Rp K w (.ref a) (.tup ds)
  | lst {a : Addr} {xs : List V} {ds : List D} : w.L a = some xs → RpAll K w xs ds → Rp K w (.ref a) (.lst ds)
  | ref {a : Addr} {n : Nat} : w.ρ[n]? = some a → Rp K w (.ref a) (.ref n)
  | scr {a : Addr} {ns : List Int} : SqL K w.F a (ns.map V.int) → ns.length ≤ 63 → Rp K w (.ref a) (.scr ns)
inductive RpAll (K : PySem.W.Frag) (w : Wd) : List V → List D → Prop
  | nil : RpAll K w [] []
  | cons {v : V} {vs : List V} {d : D} {ds : List D} : Rp K w v d → RpAll K w vs ds → RpAll K w (v :: vs) (d :: ds)
end

/-- what was told of data stays told -/
structure Grow (w w' : Wd) : Prop where
  rpre : ∃ ν, w'.ρ = w.ρ ++ ν
  fz : ∀ a o, w.F a = some o → w'.F a = some o
  lz : ∀ a o, w.L a = some o → w'.L a = some o
theorem Grow.refl (w : Wd) : Grow w w := ⟨⟨[], by simp⟩, fun _ _ h => h, fun _ _ h => h⟩
theorem Grow.trans {w w1 w2 : Wd} (a : Grow w w1) (b : Grow w1 w2) : Grow w w2 := by
  obtain ⟨n1, e1⟩ := a.rpre
  obtain ⟨n2, e2⟩ := b.rpre
  exact ⟨⟨n1 ++ n2, by rw [e2, e1, List.append_assoc]⟩, fun x o h => b.fz x o (a.fz x o h), fun x o h => b.lz x o (a.lz x o h)⟩
structure Ext (w w' : Wd) : Prop where
  rho : ∃ ν, w'.ρ = w.ρ ++ ν ∧ ∀ a ∈ ν, w.H a = none
  fz : ∀ a o, w.F a = some o → w'.F a = some o
  lz : ∀ a o, w.L a = some o → w'.L a = some o
  kp : ∀ a o, w.H a = some o → a ∉ w.ρ → w'.H a = some o
  nf : ∀ a o, w'.F a = some o → w.F a = some o ∨ w.H a = none
  nl : ∀ a o, w'.L a = some o → w.L a = some o ∨ w.H a = none
  th : ∀ a, w'.H a = none → w.H a = none
theorem Ext.grow {w w' : Wd} (x : Ext w w') : Grow w w' := ⟨let ⟨ν, e, _⟩ := x.rho; ⟨ν, e⟩, x.fz, x.lz⟩

theorem Ext.refl (w : Wd) : Ext w w := ⟨⟨[], by simp, by simp⟩, fun _ _ h => h, fun _ _ h => h, fun _ _ h _ => h, fun _ _ h => .inl h, fun _ _ h => .inl h, fun _ h => h⟩
theorem Ext.trans {w w1 w2 : Wd} (a : Ext w w1) (b : Ext w1 w2) : Ext w w2 := by
  obtain ⟨n1, e1, f1⟩ := a.rho
  obtain ⟨n2, e2, f2⟩ := b.rho
  refine ⟨⟨n1 ++ n2, by rw [e2, e1, List.append_assoc], fun x hx => ?_⟩, fun x o h => b.fz x o (a.fz x o h), fun x o h => b.lz x o (a.lz x o h), fun x o h hn => ?_, fun x o h => ?_, fun x o h => ?_, fun x h => a.th x (b.th x h)⟩
  · rcases List.mem_append.mp hx with h | h
    · exact f1 x h
    · exact a.th x (f2 x h)
  · refine b.kp x o (a.kp x o h hn) fun hm => ?_
    rw [e1] at hm
    rcases List.mem_append.mp hm with q | q
    · exact hn q
    · rw [f1 x q] at h; cases h
  · rcases b.nf x o h with q | q
    · exact a.nf x o q
    · exact .inr (a.th x q)
  · rcases b.nl x o h with q | q
    · exact a.nl x o q
    · exact .inr (a.th x q)

section
variable {K : PySem.W.Frag} {F F' : Hp}
theorem rd_mono {a : Addr} {u : HO} (hf : ∀ a o, F a = some o → F' a = some o) (h : Rd F a u) : Rd F' a u := by
  rcases h with h | ⟨o, h⟩
  · exact .inl (hf _ _ h)
  · exact .inr ⟨o, hf _ _ h⟩
theorem sqT_mono {a : Addr} {xs : List V} (hf : ∀ a o, F a = some o → F' a = some o) (h : SqT K F a xs) : SqT K F' a xs := by
  rcases h with h | h
  · exact .inl (rd_mono hf h)
  · exact .inr h
theorem sqL_mono {a : Addr} {xs : List V} (hf : ∀ a o, F a = some o → F' a = some o) (h : SqL K F a xs) : SqL K F' a xs := by
  rcases h with h | h
  · exact .inl (rd_mono hf h)
  · exact .inr h
end
section
variable {K : PySem.W.Frag} {w w' : Wd}
mutual
theorem Rp.mono (g : Grow w w') : ∀ {v : V} {d : D}, Rp K w v d → Rp K w' v d
  | _, _, .non => .non
  | _, _, .bl b => .bl b
  | _, _, .int i => .int i
  | _, _, .str x => .str x
  | _, _, .tup h r => .tup (sqT_mono g.fz h) (RpAll.mono g r)
  | _, _, .lst h r => .lst (g.lz _ _ h) (RpAll.mono g r)
  | _, _, .ref h => .ref (by
      obtain ⟨ν, e⟩ := g.rpre
      rw [e, List.getElem?_append_left (List.getElem?_eq_some_iff.mp h).1]
      exact h)
  | _, _, .scr h l => .scr (sqL_mono g.fz h) l
theorem RpAll.mono (g : Grow w w') : ∀ {vs : List V} {ds : List D}, RpAll K w vs ds → RpAll K w' vs ds
  | _, _, .nil => .nil
  | _, _, .cons h r => .cons (Rp.mono g h) (RpAll.mono g r)
end
theorem RpAll.length : ∀ {vs : List V} {ds : List D}, RpAll K w vs ds → vs.length = ds.length
  | _, _, .nil => rfl
  | _, _, .cons _ r => by simp [RpAll.length r]
theorem RpAll.get : ∀ {vs : List V} {ds : List D} {i : Nat} {d : D}, RpAll K w vs ds → ds[i]? = some d → ∃ v, vs[i]? = some v ∧ Rp K w v d
  | _, _, _, _, .nil, e => by simp at e
  | _, _, 0, _, .cons h _, e => by simp at e; subst e; exact ⟨_, rfl, h⟩
  | _, _, i + 1, d, .cons _ r, e => by
    obtain ⟨v, h1, h2⟩ := RpAll.get (i := i) (d := d) r (by simpa using e)
    exact ⟨v, by simpa using h1, h2⟩
theorem RpAll.getV : ∀ {vs : List V} {ds : List D} {i : Nat} {v : V}, RpAll K w vs ds → vs[i]? = some v → ∃ d, ds[i]? = some d ∧ Rp K w v d
  | _, _, _, _, .nil, e => by simp at e
  | _, _, 0, _, .cons h _, e => by simp at e; subst e; exact ⟨_, rfl, h⟩
  | _, _, i + 1, v, .cons _ r, e => by
    obtain ⟨d, h1, h2⟩ := RpAll.getV (i := i) (v := v) r (by simpa using e)
    exact ⟨d, by simpa using h1, h2⟩
theorem RpAll.append : ∀ {vs us : List V} {ds es : List D}, RpAll K w vs ds → RpAll K w us es → RpAll K w (vs ++ us) (ds ++ es)
  | _, _, _, _, .nil, s => s
  | _, _, _, _, .cons h r, s => .cons h (RpAll.append r s)
theorem RpAll.take : ∀ {vs : List V} {ds : List D} (n : Nat), RpAll K w vs ds → RpAll K w (vs.take n) (ds.take n)
  | _, _, 0, _ => by simp; exact .nil
  | _, _, _ + 1, .nil => .nil
  | _, _, n + 1, .cons h r => .cons h (RpAll.take n r)
theorem RpAll.drop : ∀ {vs : List V} {ds : List D} (n : Nat), RpAll K w vs ds → RpAll K w (vs.drop n) (ds.drop n)
  | _, _, 0, r => r
  | _, _, _ + 1, .nil => .nil
  | _, _, n + 1, .cons _ r => RpAll.drop n r
theorem RpAll.set {v : V} {d : D} (h : Rp K w v d) : ∀ {vs : List V} {ds : List D} (i : Nat), RpAll K w vs ds → RpAll K w (vs.set i v) (ds.set i d)
  | _, _, _, .nil => .nil
  | _, _, 0, .cons _ t => .cons h t
  | _, _, i + 1, .cons q t => .cons q (RpAll.set h i t)
theorem RpAll.eraseIdx : ∀ {vs : List V} {ds : List D} (i : Nat), RpAll K w vs ds → RpAll K w (vs.eraseIdx i) (ds.eraseIdx i)
  | _, _, _, .nil => .nil
  | _, _, 0, .cons _ t => t
  | _, _, i + 1, .cons q t => .cons q (RpAll.eraseIdx i t)
theorem RpAll.reverse {vs : List V} {ds : List D} (h : RpAll K w vs ds) : RpAll K w vs.reverse ds.reverse := by
  induction ds generalizing vs with
  | nil => cases h; exact .nil
  | cons d ds ih =>
    cases h with
    | cons h1 h2 => rw [List.reverse_cons, List.reverse_cons]; exact (ih h2).append (.cons h1 .nil)
theorem RpAll.dropLast {vs : List V} {ds : List D} (h : RpAll K w vs ds) : RpAll K w vs.dropLast ds.dropLast := by
  rw [List.dropLast_eq_take, List.dropLast_eq_take, h.length]
  exact h.take _
theorem RpAll.ints : ∀ (ns : List Int), RpAll K w (ns.map V.int) (ns.map D.int)
  | [] => .nil
  | n :: ns => .cons (.int n) (RpAll.ints ns)
theorem Ext.rp (x : Ext w w') {v : V} {d : D} (h : Rp K w v d) : Rp K w' v d := h.mono x.grow
theorem Ext.rps (x : Ext w w') {v : List V} {d : List D} (h : RpAll K w v d) : RpAll K w' v d := h.mono x.grow
theorem Ext.at (x : Ext w w') {n : Nat} {a : Addr} (h : w.ρ[n]? = some a) : w'.ρ[n]? = some a := by
  obtain ⟨ν, e⟩ := x.grow.rpre
  rw [e, List.getElem?_append_left (List.getElem?_eq_some_iff.mp h).1]
  exact h
end

/-! ### the objects -/
/-- the classes' addresses by their numbers; the world -/
structure CA where
  fn : Nat → Addr
  wd : World
instance : CoeFun CA (fun _ => Nat → Addr) := ⟨CA.fn⟩
mutual
/-- data as a key -/
def D.nk : D → Option NestedKey
  | .non => some .none
  | .bl b => some (.num (if b = true then 1 else 0))
  | .int i => some (.num i)
  | .str s => some (.text s)
  | .tup xs => match D.nks xs with | some ks => some (.tup ks) | none => none
  | .lst _ => none
  | .ref _ => none
  | .scr _ => none
def D.nks : List D → Option (List NestedKey)
  | [] => some []
  | x :: xs => match D.nk x, D.nks xs with | some k, some ks => some (k :: ks) | _, _ => none
end
/-- a dict whose keys are tuples, by what is true of its one object -/
def dctφ (wd : World) (a : Addr) (xs : List (NestedKey × Addr × V)) : Heap → Prop := fun h => ∃ ys : List (NestedKey × Addr × Value), Paired (fun x y => x.1 = y.1 ∧ x.2.1 = y.2.1 ∧ RelV x.2.2 y.2.2) xs ys ∧
  ∃ o es ep, h.get? a = some o ∧ o.ExactDict ∧ o.data = .dict es ep ∧ es.toList = ys.map fun x => (⟨x.1.hash wd, .ref x.2.1, x.2.2⟩ : DictEntry)
abbrev DKs (K : PySem.W.Frag) (w : Wd) : List (D × D) → List (NestedKey × Addr × V) → Prop := Paired fun kv x => kv.1.nk = some x.1 ∧ x.1.depth ≤ 8 ∧ Rp K w (.ref x.2.1) kv.1 ∧ Rp K w x.2.2 kv.2
def MOk (K : PySem.W.Frag) (ca : CA) (w : Wd) (a : Addr) : MO → Prop
  | .lst ds => ∃ vs, w.H a = some (.lst vs) ∧ RpAll K w vs ds
  | .stream => ∃ (ns : List Int) (x y z : Int) (vs : List V), w.H a = some (.lst vs) ∧ RpAll K w vs [.scr ns, .int x, .int y, .int z] ∧ 0 ≤ y ∧ 0 ≤ z ∧ z < 2147483647
  | .inst c fs => ∃ dx us, w.H a = some (.ins (ca c) dx ((fs.map (·.1)).zip us)) ∧ RpAll K w us (fs.map (·.2))
  | .dct kvs => ∃ xs, w.H a = some (.ext (dctφ ca.wd a xs)) ∧ (a == sysModules) = false ∧ xs.length ≤ 16000000 ∧ DKs K w kvs xs ∧ (xs.map (·.1)).Nodup
  | .dky kvs => ∃ us, w.H a = some (.dK ((kvs.map (·.1)).zip us)) ∧ RpAll K w us (kvs.map (·.2))

structure WOk (K : PySem.W.Frag) (ca : CA) (w : Wd) (mh : MH) : Prop where
  sub : ∀ a o, w.F a = some o → w.H a = some o
  subL : ∀ a xs, w.L a = some xs → w.H a = some (.lst xs)
  len : w.ρ.length = mh.length
  nd : w.ρ.Nodup
  obj : ∀ (n : Nat) (a : Addr) (mo : MO), w.ρ[n]? = some a → mh[n]? = some mo → w.F a = none ∧ w.L a = none ∧ MOk K ca w a mo

/-- a list of one's own at a -/
structure Own (K : PySem.W.Frag) (w : Wd) (a : Addr) (ds : List D) : Prop where
  at' : ∃ vs, w.H a = some (.lst vs) ∧ RpAll K w vs ds
  nF : w.F a = none
  nL : w.L a = none
  nr : a ∉ w.ρ
structure FrOk (K : PySem.W.Frag) (w : Wd) (env : Env) (σ : St) : Prop where
  len : σ.length = env.length
  v : ∀ (i : Nat) (d : D), env[i]? = some (.v d) → ∃ v, σ[i]? = some (some v) ∧ Rp K w v d
  own : ∀ (i : Nat) (ds : List D), env[i]? = some (.own ds) → ∃ a, σ[i]? = some (some (.ref a)) ∧ Own K w a ds
  sep : ∀ (i j : Nat) (ds es : List D) (a : Addr), i ≠ j → env[i]? = some (.own ds) → env[j]? = some (.own es) → σ[i]? = some (some (.ref a)) → σ[j]? ≠ some (some (.ref a))

section
variable {K : PySem.W.Frag} {ca : CA} {w w' : Wd} {env : Env} {σ : St} {mh : MH}
theorem MOk.tracked {a : Addr} : ∀ {mo : MO}, MOk K ca w a mo → ∃ o, w.H a = some o
  | .lst _, ⟨_, h, _⟩ => ⟨_, h⟩
  | .stream, ⟨_, _, _, _, _, h, _⟩ => ⟨_, h⟩
  | .inst _ _, ⟨_, _, h, _⟩ => ⟨_, h⟩
  | .dct _, ⟨_, h, _⟩ => ⟨_, h⟩
  | .dky _, ⟨_, h, _⟩ => ⟨_, h⟩
theorem WOk.at (hw : WOk K ca w mh) {n : Nat} {a : Addr} (h : w.ρ[n]? = some a) : ∃ mo, mh[n]? = some mo ∧ w.F a = none ∧ w.L a = none ∧ MOk K ca w a mo := by
  have l := (List.getElem?_eq_some_iff.mp h).1
  rw [hw.len] at l
  exact ⟨mh[n], List.getElem?_eq_getElem l, hw.obj n a _ h (List.getElem?_eq_getElem l)⟩
theorem WOk.rhoAt (hw : WOk K ca w mh) {n : Nat} {mo : MO} (h : mh[n]? = some mo) : ∃ a, w.ρ[n]? = some a ∧ w.F a = none ∧ w.L a = none ∧ MOk K ca w a mo := by
  have l := (List.getElem?_eq_some_iff.mp h).1
  rw [← hw.len] at l
  exact ⟨w.ρ[n], List.getElem?_eq_getElem l, hw.obj n _ mo (List.getElem?_eq_getElem l) h⟩
theorem WOk.memAt (hw : WOk K ca w mh) {a : Addr} (h : a ∈ w.ρ) : w.F a = none ∧ w.L a = none ∧ ∃ o, w.H a = some o := by
  obtain ⟨n, hn⟩ := List.getElem?_of_mem h
  obtain ⟨mo, _, hf, hl, ho⟩ := hw.at hn
  exact ⟨hf, hl, ho.tracked⟩
theorem Own.ext {a : Addr} {ds : List D} (h : Own K w a ds) (x : Ext w w') : Own K w' a ds := by
  obtain ⟨vs, ha, r⟩ := h.at'
  refine ⟨⟨vs, x.kp _ _ ha h.nr, x.rps r⟩, ?_, ?_, fun hm => ?_⟩
  · cases q : w'.F a with
    | none => rfl
    | some o =>
      rcases x.nf a o q with z | z
      · rw [h.nF] at z; cases z
      · rw [ha] at z; cases z
  · cases q : w'.L a with
    | none => rfl
    | some o =>
      rcases x.nl a o q with z | z
      · rw [h.nL] at z; cases z
      · rw [ha] at z; cases z
  · obtain ⟨ν, e, f⟩ := x.rho
    rw [e] at hm
    rcases List.mem_append.mp hm with q | q
    · exact h.nr q
    · rw [f a q] at ha; cases ha
/-- a frame stays over what an expression does -/
theorem FrOk.ext (hf : FrOk K w env σ) (x : Ext w w') : FrOk K w' env σ := by
  refine ⟨hf.len, fun i d h => ?_, fun i ds h => ?_, hf.sep⟩
  · obtain ⟨v, e, r⟩ := hf.v i d h
    exact ⟨v, e, x.rp r⟩
  · obtain ⟨a, e, o⟩ := hf.own i ds h
    exact ⟨a, e, o.ext x⟩
/-- the objects stay where the tracked heap only grows -/
theorem MOk.grow {a : Addr} {mo : MO} (h : MOk K ca w a mo) (hH : ∀ o, w.H a = some o → w'.H a = some o) (g : Grow w w') : MOk K ca w' a mo := by
  cases mo with
  | lst ds => obtain ⟨vs, e, r⟩ := h; exact ⟨vs, hH _ e, r.mono g⟩
  | stream => obtain ⟨ns, x, y, z, vs, e, q, l⟩ := h; exact ⟨ns, x, y, z, vs, hH _ e, q.mono g, l⟩
  | inst c fs => obtain ⟨dx, us, e, r⟩ := h; exact ⟨dx, us, hH _ e, r.mono g⟩
  | dct kvs => obtain ⟨xs, e, y, z, r, n⟩ := h; exact ⟨xs, hH _ e, y, z, Paired.mapP r fun _ _ q => ⟨q.1, q.2.1, q.2.2.1.mono g, q.2.2.2.mono g⟩, n⟩
  | dky kvs => obtain ⟨us, e, r⟩ := h; exact ⟨us, hH _ e, r.mono g⟩

/-- a new frozen thing at p -/
def Wd.frz (w : Wd) (p : Addr) (o : HO) : Wd := ⟨w.ρ, upd w.F p o, w.L, upd w.H p o⟩
/-- a new thing at p that is not frozen -/
def Wd.put (w : Wd) (p : Addr) (o : HO) : Wd := ⟨w.ρ, w.F, w.L, upd w.H p o⟩
/-- the list at p is not written any more -/
def updL (L : Addr → Option (List V)) (p : Addr) (xs : List V) : Addr → Option (List V) := fun b => if b = p then some xs else L b
def Wd.lfz (w : Wd) (p : Addr) (xs : List V) : Wd := ⟨w.ρ, w.F, updL w.L p xs, upd w.H p (.lst xs)⟩
theorem upd_some {H : Hp} {p a : Addr} {o u : HO} (hp : H p = none) (h : H a = some u) : upd H p o a = some u := by
  rw [upd_ne]
  · exact h
  · intro e; subst e; rw [hp] at h; cases h
theorem updL_same {L : Addr → Option (List V)} {p : Addr} {xs : List V} : updL L p xs p = some xs := by simp [updL]
theorem updL_ne {L : Addr → Option (List V)} {p a : Addr} {xs : List V} (h : a ≠ p) : updL L p xs a = L a := by simp [updL, h]
theorem WOk.fnone (hw : WOk K ca w mh) {p : Addr} (hp : w.H p = none) : w.F p = none := by
  cases q : w.F p with
  | none => rfl
  | some o => rw [hw.sub _ _ q] at hp; cases hp
theorem WOk.lnone (hw : WOk K ca w mh) {p : Addr} (hp : w.H p = none) : w.L p = none := by
  cases q : w.L p with
  | none => rfl
  | some o => rw [hw.subL _ _ q] at hp; cases hp
theorem WOk.nrho (hw : WOk K ca w mh) {p : Addr} (hp : w.H p = none) : p ∉ w.ρ := fun h => by
  obtain ⟨_, _, o, e⟩ := hw.memAt h
  rw [hp] at e; cases e
theorem th_upd {H : Hp} {p : Addr} {o : HO} (hp : H p = none) : ∀ a, upd H p o a = none → H a = none := fun a h => by
  by_cases e : a = p
  · subst e; exact hp
  · rw [← upd_ne (H := H) (o := o) e]; exact h
theorem Ext.frz (hw : WOk K ca w mh) {p : Addr} {o : HO} (hp : w.H p = none) : Ext w (w.frz p o) := by
  refine ⟨⟨[], by simp [Wd.frz], by simp⟩, fun a u h => upd_some (hw.fnone hp) h, fun a u h => h, fun a u h _ => upd_some hp h, fun a u h => ?_, fun a u h => .inl h, th_upd hp⟩
  by_cases e : a = p
  · subst e; exact .inr hp
  · exact .inl (by rw [← upd_ne (H := w.F) (o := o) e]; exact h)
theorem WOk.frz (hw : WOk K ca w mh) {p : Addr} {o : HO} (hp : w.H p = none) : WOk K ca (w.frz p o) mh := by
  have x := Ext.frz (o := o) hw hp
  refine ⟨fun a u h => ?_, fun a xs h => upd_some hp (hw.subL _ _ h), hw.len, hw.nd, fun n a mo h1 h2 => ?_⟩
  · by_cases e : a = p
    · subst e
      have : u = o := by simpa [Wd.frz, upd] using h.symm
      subst this
      exact upd_same
    · have h' : w.F a = some u := by rw [← upd_ne (H := w.F) (o := o) e]; exact h
      exact upd_some hp (hw.sub _ _ h')
  · obtain ⟨f, l, q⟩ := hw.obj n a mo h1 h2
    have ne : a ≠ p := fun e => by
      subst e
      obtain ⟨u, z⟩ := q.tracked
      rw [hp] at z; cases z
    exact ⟨by show upd w.F p o a = none; rw [upd_ne ne]; exact f, l, q.grow (fun u z => upd_some hp z) x.grow⟩
theorem Ext.put (hw : WOk K ca w mh) {p : Addr} {o : HO} (hp : w.H p = none) : Ext w (w.put p o) :=
  ⟨⟨[], by simp [Wd.put], by simp⟩, fun a u h => h, fun a u h => h, fun a u h _ => upd_some hp h, fun a u h => .inl h, fun a u h => .inl h, th_upd hp⟩
theorem WOk.put (hw : WOk K ca w mh) {p : Addr} {o : HO} (hp : w.H p = none) : WOk K ca (w.put p o) mh := by
  refine ⟨fun a u h => upd_some hp (hw.sub _ _ h), fun a xs h => upd_some hp (hw.subL _ _ h), hw.len, hw.nd, fun n a mo h1 h2 => ?_⟩
  obtain ⟨f, l, q⟩ := hw.obj n a mo h1 h2
  exact ⟨f, l, q.grow (fun u z => upd_some hp z) (Ext.put (o := o) hw hp).grow⟩
theorem Ext.lfz (hw : WOk K ca w mh) {p : Addr} {xs : List V} (hp : w.H p = none) : Ext w (w.lfz p xs) := by
  refine ⟨⟨[], by simp [Wd.lfz], by simp⟩, fun a u h => h, fun a u h => ?_, fun a u h _ => upd_some hp h, fun a u h => .inl h, fun a u h => ?_, th_upd hp⟩
  · show updL w.L p xs a = some u
    rw [updL_ne]
    · exact h
    · intro e; subst e; rw [hw.lnone hp] at h; cases h
  · by_cases e : a = p
    · subst e; exact .inr hp
    · exact .inl (by rw [← updL_ne (L := w.L) (xs := xs) e]; exact h)
theorem WOk.lfz (hw : WOk K ca w mh) {p : Addr} {xs : List V} (hp : w.H p = none) : WOk K ca (w.lfz p xs) mh := by
  have x := Ext.lfz (xs := xs) hw hp
  refine ⟨fun a u h => upd_some hp (hw.sub _ _ h), fun a ys h => ?_, hw.len, hw.nd, fun n a mo h1 h2 => ?_⟩
  · by_cases e : a = p
    · subst e
      have h : updL w.L a xs a = some ys := h
      rw [updL_same] at h
      cases h
      exact upd_same
    · have h' : w.L a = some ys := by rw [← updL_ne (L := w.L) (xs := xs) e]; exact h
      exact upd_some hp (hw.subL _ _ h')
  · obtain ⟨f, l, q⟩ := hw.obj n a mo h1 h2
    have ne : a ≠ p := fun e => by
      subst e
      obtain ⟨u, z⟩ := q.tracked
      rw [hp] at z; cases z
    exact ⟨f, by show updL w.L p xs a = none; rw [updL_ne ne]; exact l, q.grow (fun u z => upd_some hp z) x.grow⟩
end

/-! ### the judgements -/
/-- what is wanted of what a part comes to (rep: how it is told by the tracked heap) -/
def PostG {α β : Type} (rep : Wd → β → α → Prop) (K : PySem.W.Frag) (ca : CA) (W : WX) (σ : St) (w : Wd) (r : R α) (Q : β → Hp → Prop) : Prop :=
  wpR r (fun d mh => ∀ w' v, Ext w w' → WOk K ca w' mh → rep w' v d → Q v w'.H) (fun cl mh => ∀ w', Ext w w' → WOk K ca w' mh → W (.ref (ca cl)) none σ w'.H)
def denG {α β : Type} (rep : Wd → β → α → Prop) (K : PySem.W.Frag) (ca : CA) (W : WX) (m : Env → M α) : St → Hp → (β → Hp → Prop) → Prop :=
  fun σ H Q => ∃ w mh env, w.H = H ∧ WOk K ca w mh ∧ FrOk K w env σ ∧ PostG rep K ca W σ w (m env mh) Q
abbrev repV (K : PySem.W.Frag) : Wd → V → D → Prop := fun w v d => Rp K w v d
abbrev repA (K : PySem.W.Frag) : Wd → List V → List D → Prop := fun w v d => RpAll K w v d
abbrev repB : Wd → Bool → Bool → Prop := fun _ b c => b = c
abbrev Post (K : PySem.W.Frag) := PostG (repV K) K
abbrev ME (X : Cx) (ca : CA) (W : WX) (e : Expr) (m : Env → M D) : Prop := PE X e (denG (repV X.K) X.K ca W m)
abbrev MT (X : Cx) (ca : CA) (W : WX) (e : Expr) (m : Env → M Bool) : Prop := PT X e (denG repB X.K ca W m)
abbrev MW (X : Cx) (ca : CA) (W : WX) (e : Expr) (m : Env → M Bool) : Prop := PW X e (denG repB X.K ca W m)
abbrev MA (X : Cx) (ca : CA) (W : WX) (es : List Expr) (m : Env → M (List D)) : Prop := PA X es (denG (repA X.K) X.K ca W m)

theorem PE.mono {X : Cx} {e : Expr} {t t' : TE} (h : PE X e t) (k : ∀ σ H Q, t' σ H Q → t σ H Q) : PE X e t' := ⟨fun pins s σ H Q I q => h.run pins s σ H Q I (k σ H Q q)⟩
theorem PT.mono {X : Cx} {e : Expr} {t t' : TT} (h : PT X e t) (k : ∀ σ H Q, t' σ H Q → t σ H Q) : PT X e t' := ⟨fun pins s σ H Q I q => h.run pins s σ H Q I (k σ H Q q)⟩
theorem PW.mono {X : Cx} {e : Expr} {t t' : TT} (h : PW X e t) (k : ∀ σ H Q, t' σ H Q → t σ H Q) : PW X e t' := ⟨fun wh pins s σ H Q I q => h.run wh pins s σ H Q I (k σ H Q q)⟩
theorem PS.mono {X : Cx} {e : Stmt} {t t' : TS} (h : PS X e t) (k : ∀ D σ H, t' D σ H → t D σ H) : PS X e t' := ⟨fun pins s σ H D I q => h.run pins s σ H D I (k D σ H q)⟩
theorem PSs.mono {X : Cx} {e : List Stmt} {t t' : TS} (h : PSs X e t) (k : ∀ D σ H, t' D σ H → t D σ H) : PSs X e t' := ⟨fun pins s σ H D I q => h.run pins s σ H D I (k D σ H q)⟩
theorem PA.mono {X : Cx} {es : List Expr} {t t' : TA} (h : PA X es t) (k : ∀ σ H Q, t' σ H Q → t σ H Q) : PA X es t' := ⟨fun pos pins s σ H Q I q => h.run pos pins s σ H Q I (k σ H Q q)⟩

section
variable {K : PySem.W.Frag} {ca : CA} {W : WX} {w w1 : Wd} {env : Env} {σ : St} {mh : MH}
section
variable {α β : Type} {rep : Wd → β → α → Prop} {Q Q' : β → Hp → Prop}
theorem PostG.ext {r : R α} (h : PostG rep K ca W σ w r Q) (x : Ext w w1) : PostG rep K ca W σ w1 r Q :=
  wpR_mono h (fun _ _ q w' v y hw r => q w' v (x.trans y) hw r) fun _ _ q w' y hw => q w' (x.trans y) hw
theorem PostG.imp {r : R α} (h : PostG rep K ca W σ w r Q) (k : ∀ v H, Q v H → Q' v H) : PostG rep K ca W σ w r Q' :=
  wpR_mono h (fun _ _ q w' v y hw r => k _ _ (q w' v y hw r)) fun _ _ q => q
/-- a first part, then the rest -/
theorem stepG {α2 β2 : Type} {rep2 : Wd → β2 → α2 → Prop} {ma : Env → M α} {f : α → M α2} {Q : β2 → Hp → Prop} {K1 : β → Hp → Prop} (hw : WOk K ca w mh) (hf : FrOk K w env σ) (hp : PostG rep2 K ca W σ w (M.bind (ma env) f mh) Q)
    (k : ∀ w1 mh1 v d, Ext w w1 → WOk K ca w1 mh1 → FrOk K w1 env σ → rep w1 v d → PostG rep2 K ca W σ w1 (f d mh1) Q → K1 v w1.H) : denG rep K ca W ma σ w.H K1 := by
  refine ⟨w, mh, env, rfl, hw, hf, ?_⟩
  refine wpR_mono (wpR_bind.mp hp) (fun d mh' q w1 v x hw1 r => ?_) fun _ _ q => q
  exact k w1 mh' v d x hw1 (hf.ext x) r (PostG.ext (w := w) q x)
/-- a last part -/
theorem lastG {ma : Env → M α} {Q : β → Hp → Prop} (hw : WOk K ca w mh) (hf : FrOk K w env σ) (hp : PostG rep K ca W σ w (ma env mh) Q) : denG rep K ca W ma σ w.H Q := ⟨w, mh, env, rfl, hw, hf, hp⟩
/-- a value at hand -/
theorem PostG.ret {d : α} {v : β} (h : PostG rep K ca W σ w (.ok d mh) Q) (hw : WOk K ca w mh) (r : rep w v d) : Q v w.H := h w v (Ext.refl w) hw r
end
/-- a new tuple -/
theorem PostG.tup {ds : List D} {vs : List V} {Q : VK} (h : Post K ca W σ w (.ok (.tup ds) mh) Q) (hw : WOk K ca w mh) (r : RpAll K w vs ds) : ∀ p, w.H p = none → Q (.ref p) (upd w.H p (.tup vs)) := fun p hp => by
  have x := Ext.frz (o := .tup vs) hw hp
  exact h (w.frz p (.tup vs)) (.ref p) x (hw.frz hp) (.tup (SqT.of upd_same) (x.rps r))
/-- a new copy of the script -/
theorem PostG.scr {ns : List Int} {vs : List V} {Q : VK} (h : Post K ca W σ w (.ok (.scr ns) mh) Q) (hw : WOk K ca w mh) (hl : ns.length ≤ 63) : ∀ p, w.H p = none → Q (.ref p) (upd w.H p (.lst (ns.map V.int))) := fun p hp => by
  have x := Ext.frz (o := .lst (ns.map V.int)) hw hp
  exact h (w.frz p (.lst (ns.map V.int))) (.ref p) x (hw.frz hp) (.scr (SqL.of upd_same) hl)
/-- a new list, not written any more -/
theorem PostG.lst {ds : List D} {vs : List V} {Q : VK} (h : Post K ca W σ w (.ok (.lst ds) mh) Q) (hw : WOk K ca w mh) (r : RpAll K w vs ds) : ∀ p, w.H p = none → Q (.ref p) (upd w.H p (.lst vs)) := fun p hp => by
  have x := Ext.lfz (xs := vs) hw hp
  exact h (w.lfz p vs) (.ref p) x (hw.lfz hp) (.lst updL_same (x.rps r))
end
end AG
/-! AgB: data and the library's data; operators. -/
namespace AG
open PySem L2

mutual
def D.toPy : D → PyData
  | .non => .none
  | .bl b => .bool b
  | .int i => .int i
  | .str s => .str s
  | .tup xs => .tuple (D.toPys xs)
  | .lst xs => .list (D.toPys xs)
  | .ref _ => .none
  | .scr _ => .none
def D.toPys : List D → List PyData
  | [] => []
  | x :: xs => D.toPy x :: D.toPys xs
end
theorem D.toPys_map : ∀ xs : List D, D.toPys xs = xs.map D.toPy
  | [] => rfl
  | x :: xs => by rw [D.toPys, D.toPys_map xs]; rfl

/-- no explicit object in it, nested at most n deep -/
def D.sm : Nat → D → Bool
  | _, .non => true
  | _, .bl _ => true
  | _, .int _ => true
  | _, .str _ => true
  | _, .ref _ => false
  | _, .scr _ => false
  | 0, .tup _ => false
  | 0, .lst _ => false
  | n + 1, .tup xs => xs.all (D.sm n)
  | n + 1, .lst xs => xs.all (D.sm n)
/-- no list in it -/
def D.nl : Nat → D → Bool
  | _, .lst _ => false
  | 0, .tup _ => false
  | n + 1, .tup xs => xs.all (D.nl n)
  | _, _ => true

theorem depthAll_le {n : Nat} : ∀ {xs : List D}, (∀ x ∈ xs, x.toPy.depth ≤ n) → PyData.depthAll (D.toPys xs) ≤ n
  | [], _ => by simp [D.toPys, PyData.depthAll]
  | x :: xs, h => by
    rw [D.toPys, PyData.depthAll]
    have h1 := h x List.mem_cons_self
    have h2 := depthAll_le (xs := xs) fun y hy => h y (List.mem_cons_of_mem _ hy)
    omega
theorem sm_depth : ∀ {n : Nat} {d : D}, D.sm n d = true → d.toPy.depth ≤ n
  | n, .non, _ => by simp [D.toPy, PyData.depth]
  | n, .bl _, _ => by simp [D.toPy, PyData.depth]
  | n, .int _, _ => by simp [D.toPy, PyData.depth]
  | n, .str _, _ => by simp [D.toPy, PyData.depth]
  | n, .ref _, h => by simp [D.toPy, PyData.depth]
  | n, .scr _, h => by simp [D.toPy, PyData.depth]
  | 0, .tup xs, h => by simp [D.sm] at h
  | 0, .lst xs, h => by simp [D.sm] at h
  | n + 1, .tup xs, h => by
    simp only [D.sm, List.all_eq_true] at h
    rw [D.toPy, PyData.depth]
    have := depthAll_le (n := n) (xs := xs) fun x hx => sm_depth (h x hx)
    omega
  | n + 1, .lst xs, h => by
    simp only [D.sm, List.all_eq_true] at h
    rw [D.toPy, PyData.depth]
    have := depthAll_le (n := n) (xs := xs) fun x hx => sm_depth (h x hx)
    omega
theorem plainAll_of {xs : List D} (h : ∀ x ∈ xs, x.toPy.plain = true) : PyData.plainAll (D.toPys xs) = true := by
  induction xs with
  | nil => simp [D.toPys, PyData.plainAll]
  | cons x xs ih => rw [D.toPys, PyData.plainAll, h x List.mem_cons_self, ih fun y hy => h y (List.mem_cons_of_mem _ hy)]; rfl
mutual
theorem plain_toPy : ∀ d : D, d.toPy.plain = true
  | .non => by simp [D.toPy, PyData.plain]
  | .bl _ => by simp [D.toPy, PyData.plain]
  | .int _ => by simp [D.toPy, PyData.plain]
  | .str _ => by simp [D.toPy, PyData.plain]
  | .ref _ => by simp [D.toPy, PyData.plain]
  | .scr _ => by simp [D.toPy, PyData.plain]
  | .tup xs => by rw [D.toPy, PyData.plain]; exact plainAll_toPy xs
  | .lst xs => by rw [D.toPy, PyData.plain]; exact plainAll_toPy xs
theorem plainAll_toPy : ∀ xs : List D, PyData.plainAll (D.toPys xs) = true
  | [] => by simp [D.toPys, PyData.plainAll]
  | x :: xs => by rw [D.toPys, PyData.plainAll, plain_toPy x, plainAll_toPy xs]; rfl
end

section
variable {K : PySem.W.Frag} {w : Wd}
theorem sqT_sub {F H : Hp} {a : Addr} {xs : List V} (hs : ∀ a o, F a = some o → H a = some o) (h : SqT K F a xs) : SqT K H a xs := sqT_mono hs h
structure Subs (w : Wd) : Prop where
  f : ∀ a o, w.F a = some o → w.H a = some o
  l : ∀ a xs, w.L a = some xs → w.H a = some (.lst xs)
theorem WOk.subs {ca : CA} {mh : MH} (hw : WOk K ca w mh) : Subs w := ⟨hw.sub, hw.subL⟩
theorem dpAll_of {n : Nat} (ih : ∀ {v : V} {d : D}, Rp K w v d → D.sm n d = true → Dp K w.H v d.toPy) : ∀ {vs : List V} {ds : List D}, RpAll K w vs ds → ds.all (D.sm n) = true → DpAll K w.H vs (D.toPys ds)
  | _, _, .nil, _ => .nil
  | _, _, .cons h r, q => by
    simp only [List.all_cons, Bool.and_eq_true] at q
    exact .cons (ih h q.1) (dpAll_of ih r q.2)
theorem Rp.dp (hs : Subs w) : ∀ {n : Nat} {v : V} {d : D}, Rp K w v d → D.sm n d = true → Dp K w.H v d.toPy
  | _, _, _, .non, _ => .non
  | _, _, _, .bl b, _ => .bl b
  | _, _, _, .int i, _ => .int i
  | _, _, _, .str x, _ => .str x
  | 0, _, _, .tup _ _, q => by simp [D.sm] at q
  | 0, _, _, .lst _ _, q => by simp [D.sm] at q
  | n + 1, _, _, .tup h r, q => .tup (sqT_sub hs.f h) (dpAll_of (fun a b => Rp.dp hs a b) r (by simpa [D.sm] using q))
  | n + 1, _, _, .lst h r, q => .lst (.of (hs.l _ _ h)) (dpAll_of (fun a b => Rp.dp hs a b) r (by simpa [D.sm] using q))
  | _, _, _, .ref _, q => by simp [D.sm] at q
  | _, _, _, .scr _ _, q => by simp [D.sm] at q
end

/-! ### comparisons of data -/
def D.eqv (d e : D) : Bool := PyData.eqv d.toPy e.toPy
def D.lt (d e : D) : Bool := PySem.W.dataLt d.toPy e.toPy
def D.alike (d e : D) : Bool := PySem.W.alike d.toPy e.toPy
def D.isNon : D → Bool | .non => true | .ref _ => true | .scr _ => true | _ => false
theorem ne_none {d : D} (h : d.isNon = false) : d.toPy ≠ .none := by
  cases d <;> simp [D.isNon, D.toPy] at h ⊢

section
variable {X : Cx}
def rEq2 (K : PySem.W.Frag) (g : Bool → Bool) : R2 := fun x y H Q => ∃ d e, Dp K H x d ∧ Dp K H y e ∧ d.plain = true ∧ e.plain = true ∧ d.depth ≤ 64 ∧ Q (.bl (g (PyData.eqv d e))) H
theorem op_eq2 (hu : X.A.units + 64 < cLine) : OpR X (compareOp .Eq) (rEq2 X.K id) := by
  intro pins s σ H x y v u Q I rx ry h
  obtain ⟨d, e, hd, he, sd, se, dd, q⟩ := h
  obtain ⟨as, r1⟩ := Dp.reads I d x v hd rx
  obtain ⟨bs, r2⟩ := Dp.reads I e y u he ry
  exact PySem.SeqAt.eq_plain r1 r2 sd se (by have := Nat.min_le_left d.depth e.depth; omega) ⟨.bl _, H, I, rfl, q⟩
theorem op_ne2 (hu : X.A.units + 64 < cLine) : OpR X (compareOp .NotEq) (rEq2 X.K not) := by
  intro pins s σ H x y v u Q I rx ry h
  obtain ⟨d, e, hd, he, sd, se, dd, q⟩ := h
  obtain ⟨as, r1⟩ := Dp.reads I d x v hd rx
  obtain ⟨bs, r2⟩ := Dp.reads I e y u he ry
  exact PySem.SeqAt.ne_plain r1 r2 sd se (by have := Nat.min_le_left d.depth e.depth; omega) ⟨.bl _, H, I, rfl, q⟩
def rCm2 (K : PySem.W.Frag) (g : PyData → PyData → Bool) : R2 := fun x y H Q => ∃ d e, Dp K H x d ∧ Dp K H y e ∧ PySem.W.alike d e = true ∧ d ≠ .none ∧ d.depth ≤ 64 ∧ Q (.bl (g d e)) H
theorem op_lt2 (hu : X.A.units + 64 < cLine) : OpR X (compareOp .Lt) (rCm2 X.K fun d e => PySem.W.dataLt d e) := by
  intro pins s σ H x y v u Q I rx ry h
  obtain ⟨d, e, hd, he, sd, se, dd, q⟩ := h
  obtain ⟨as, r1⟩ := Dp.reads I d x v hd rx
  obtain ⟨bs, r2⟩ := Dp.reads I e y u he ry
  exact PySem.W.lt_data r1 r2 sd se (by have := Nat.min_le_left d.depth e.depth; omega) ⟨.bl _, H, I, rfl, q⟩
theorem op_gt2 (hu : X.A.units + 64 < cLine) : OpR X (compareOp .Gt) (rCm2 X.K fun d e => PySem.W.dataLt e d) := by
  intro pins s σ H x y v u Q I rx ry h
  obtain ⟨d, e, hd, he, sd, se, dd, q⟩ := h
  obtain ⟨as, r1⟩ := Dp.reads I d x v hd rx
  obtain ⟨bs, r2⟩ := Dp.reads I e y u he ry
  exact PySem.W.gt_data r1 r2 sd se (by have := Nat.min_le_left d.depth e.depth; omega) ⟨.bl _, H, I, rfl, q⟩
theorem op_le2 (hu : X.A.units + 64 < cLine) : OpR X (compareOp .LtE) (rCm2 X.K fun d e => !PySem.W.dataLt e d) := by
  intro pins s σ H x y v u Q I rx ry h
  obtain ⟨d, e, hd, he, sd, se, dd, q⟩ := h
  obtain ⟨as, r1⟩ := Dp.reads I d x v hd rx
  obtain ⟨bs, r2⟩ := Dp.reads I e y u he ry
  exact PySem.W.le_data r1 r2 sd se (by have := Nat.min_le_left d.depth e.depth; omega) ⟨.bl _, H, I, rfl, q⟩
theorem op_ge2 (hu : X.A.units + 64 < cLine) : OpR X (compareOp .GtE) (rCm2 X.K fun d e => !PySem.W.dataLt d e) := by
  intro pins s σ H x y v u Q I rx ry h
  obtain ⟨d, e, hd, he, sd, se, dd, q⟩ := h
  obtain ⟨as, r1⟩ := Dp.reads I d x v hd rx
  obtain ⟨bs, r2⟩ := Dp.reads I e y u he ry
  exact PySem.W.ge_data r1 r2 sd se (by have := Nat.min_le_left d.depth e.depth; omega) ⟨.bl _, H, I, rfl, q⟩
def rIn2 (K : PySem.W.Frag) (g : Bool → Bool) : R2 := fun x y H Q => ∃ d ds, Dp K H x d ∧ (Dp K H y (.list ds) ∨ Dp K H y (.tuple ds)) ∧ d.plain = true ∧ PyData.plainAll ds = true ∧ d.depth ≤ 64 ∧ Q (.bl (g (ds.any fun z => PyData.eqv z d))) H
theorem op_in2 (hu : X.A.units + 66 < cLine) : OpR X (compareOp .In) (rIn2 X.K id) := by
  intro pins s σ H x y v u Q I rx ry h
  obtain ⟨d, ds, hd, he, sd, se, dd, q⟩ := h
  obtain ⟨as, r1⟩ := Dp.reads I d x v hd rx
  rcases he with he | he
  · obtain ⟨bs, r2⟩ := Dp.reads I _ y u he ry
    exact PySem.SeqAt.in_list_data r2 r1 se sd (by have := Nat.min_le_right (PyData.depthAll ds) d.depth; omega) ⟨.bl _, H, I, rfl, q⟩
  · obtain ⟨bs, r2⟩ := Dp.reads I _ y u he ry
    exact PySem.SeqAt.in_tuple_data r2 r1 se sd (by have := Nat.min_le_right (PyData.depthAll ds) d.depth; omega) ⟨.bl _, H, I, rfl, q⟩
theorem op_nin2 (hu : X.A.units + 66 < cLine) : OpR X (compareOp .NotIn) (rIn2 X.K not) := by
  intro pins s σ H x y v u Q I rx ry h
  obtain ⟨d, ds, hd, he, sd, se, dd, q⟩ := h
  obtain ⟨as, r1⟩ := Dp.reads I d x v hd rx
  rcases he with he | he
  · obtain ⟨bs, r2⟩ := Dp.reads I _ y u he ry
    exact PySem.SeqAt.notIn_list_data r2 r1 se sd (by have := Nat.min_le_right (PyData.depthAll ds) d.depth; omega) ⟨.bl _, H, I, rfl, q⟩
  · obtain ⟨bs, r2⟩ := Dp.reads I _ y u he ry
    exact PySem.SeqAt.notIn_tuple_data r2 r1 se sd (by have := Nat.min_le_right (PyData.depthAll ds) d.depth; omega) ⟨.bl _, H, I, rfl, q⟩
end

/-! ### operators by data -/
abbrev DOp := D → D → M D
def OpM (K : PySem.W.Frag) (ca : CA) (r : R2) (f : DOp) : Prop :=
  ∀ (W : WX) (σ : St) (w : Wd) (mh : MH) (x y : V) (d e : D) (Q : VK), WOk K ca w mh → Rp K w x d → Rp K w y e → Post K ca W σ w (f d e mh) Q → r x y w.H Q

def mBin (f : DOp) (ma mb : Env → M D) : Env → M D := fun env => M.bind (ma env) fun x => M.bind (mb env) fun y => f x y

section
variable {X : Cx} {ca : CA} {W : WX} {a b : Expr} {ma mb : Env → M D} {r : R2} {f : DOp} {pos : Pos}
theorem tOp_of (hf : OpM X.K ca r f) {σ : St} {H : Hp} {Q : VK} (h : denG (repV X.K) X.K ca W (mBin f ma mb) σ H Q) : tOp r (denG (repV X.K) X.K ca W ma) (denG (repV X.K) X.K ca W mb) σ H Q := by
  obtain ⟨w, mh, env, e, hw, hfr, hp⟩ := h
  subst e
  refine stepG hw hfr hp fun w1 mh1 v1 d1 x1 hw1 hf1 r1 hp1 => ?_
  refine stepG hw1 hf1 hp1 fun w2 mh2 v2 d2 x2 hw2 hf2 r2 hp2 => ?_
  exact hf W σ w2 mh2 v1 v2 d1 d2 Q hw2 (x2.rp r1) r2 hp2
theorem me_op {op : Operator} (ho : OpR X (binaryOp op) r) (hf : OpM X.K ca r f) (ha : ME X ca W a ma) (hb : ME X ca W b mb) : ME X ca W (.BinOp a op b pos) (mBin f ma mb) :=
  PE.mono (pe_op ho ha hb) fun _ _ _ h => tOp_of hf h
theorem me_cmp {op : CmpOp} (ho : OpR X (compareOp op) r) (hf : OpM X.K ca r f) (ha : ME X ca W a ma) (hb : ME X ca W b mb) (hm : behindInMarks op b = false) : ME X ca W (.Compare a [op] [b] pos) (mBin f ma mb) :=
  PE.mono (pe_cmpR ho ha hb hm) fun _ _ _ h => tOp_of hf h
end

/-! what an op gives where it raises nothing -/
section
variable {K : PySem.W.Frag} {ca : CA}
theorem OpM.or {r r' : R2} {f g : DOp} (c : D → D → Bool) (h : OpM K ca r f) (h' : OpM K ca r' g) : OpM K ca (fun x y H Q => r x y H Q ∨ r' x y H Q) (fun d e => if c d e = true then f d e else g d e) := by
  intro W σ w mh x y d e Q hw rx ry hp
  by_cases q : c d e = true
  · simp only [q, if_true] at hp; exact .inl (h W σ w mh x y d e Q hw rx ry hp)
  · simp only [q, if_false] at hp; exact .inr (h' W σ w mh x y d e Q hw rx ry hp)
theorem opm_int {g : Int → Int → V} {g' : Int → Int → D} (hg : ∀ K w i j, Rp K w (g i j) (g' i j)) : OpM K ca (rI0 g) (fun d e => match d, e with | .int i, .int j => M.pure (g' i j) | _, _ => M.bad) := by
  intro W σ w mh x y d e Q hw rx ry hp
  cases rx <;> cases ry <;> first | exact hp.elim | skip
  exact ⟨_, _, rfl, rfl, PostG.ret hp hw (hg _ _ _ _)⟩
theorem opm_intC {C : Int → Int → Prop} {c : Int → Int → Bool} {g : Int → Int → V} {g' : Int → Int → D} (hc : ∀ i j, c i j = true → C i j) (hg : ∀ K w i j, Rp K w (g i j) (g' i j)) :
    OpM K ca (rI C g) (fun d e => match d, e with | .int i, .int j => if c i j = true then M.pure (g' i j) else M.bad | _, _ => M.bad) := by
  intro W σ w mh x y d e Q hw rx ry hp
  cases rx <;> cases ry <;> first | exact hp.elim | skip
  rename_i i j
  by_cases q : c i j = true
  · simp only [q, if_true] at hp; exact ⟨_, _, rfl, rfl, hc _ _ q, PostG.ret hp hw (hg _ _ _ _)⟩
  · simp only [q] at hp; exact hp.elim
end
end AG
/-! AgC: expressions. -/
namespace AG
open PySem L2

theorem sizeLine_lit : sizeLine = 16777216 := sizeLine_eq
def BIG : Nat := 2 ^ 60000
theorem BIG_of {n k : Nat} (h : n < 2 ^ k) (hk : k ≤ 60000) : n < BIG := Nat.lt_of_lt_of_le h (Nat.pow_le_pow_right (by decide) hk)
def mulOk (i j : Int) : Bool := decide (i.natAbs < BIG) && decide (j.natAbs < BIG)
theorem mulOk_x {i j : Int} (h : mulOk i j = true) : CMulX i j := by
  unfold mulOk at h
  simp only [Bool.and_eq_true, decide_eq_true_eq] at h
  exact mulx_ok (a := 60000) (b := 60000) h.1 h.2 (by decide)

/-! ### operators -/
def opAdd : DOp := fun d e => match d, e with
  | .int i, .int j => M.pure (.int (i + j))
  | .str s, .str t => if s.length + t.length ≤ 16777216 then M.pure (.str (s ++ t)) else M.bad
  | .tup xs, .tup ys => if xs.length + ys.length ≤ 16777216 then M.pure (.tup (xs ++ ys)) else M.bad
  | .lst xs, .lst ys => if xs.length + ys.length ≤ 16777216 then M.pure (.lst (xs ++ ys)) else M.bad
  | _, _ => M.bad
def opSub : DOp := fun d e => match d, e with
  | .int i, .int j => M.pure (.int (i - j))
  | _, _ => M.bad
def opMul : DOp := fun d e => match d, e with
  | .int i, .int j => if mulOk i j = true then M.pure (.int (i * j)) else M.bad
  | .lst xs, .int k => if 0 ≤ k ∧ k < 1000000 ∧ xs.length * k.toNat ≤ 16777216 then M.pure (.lst (List.replicate k.toNat xs).flatten) else M.bad
  | _, _ => M.bad
def opDiv : DOp := fun d e => match d, e with
  | .int i, .int j => if 0 < j ∧ j.natAbs.log2 < 9000 then M.pure (.int (i / j)) else M.bad
  | _, _ => M.bad
def opMod : DOp := fun d e => match d, e with
  | .int i, .int j => if 0 < j then M.pure (.int (i % j)) else M.bad
  | _, _ => M.bad
def opPow : DOp := fun d e => match d, e with
  | .int i, .int j => if 0 ≤ j ∧ j ≤ 1000000 ∧ i.natAbs < 18446744073709551616 then M.pure (.int (i ^ j.toNat)) else M.bad
  | _, _ => M.bad
def opEq : DOp := fun d e => match d, e with
  | .int i, .int j => M.pure (.bl (decide (i = j)))
  | d, e => if D.sm 60 d && D.sm 60 e then M.pure (.bl (D.eqv d e)) else M.bad
def opNe : DOp := fun d e => match d, e with
  | .int i, .int j => M.pure (.bl (!decide (i = j)))
  | d, e => if D.sm 60 d && D.sm 60 e then M.pure (.bl (!D.eqv d e)) else M.bad
def cmpOk (d e : D) : Bool := D.sm 60 d && D.sm 60 e && D.alike d e && !d.isNon
def opLt : DOp := fun d e => match d, e with
  | .int i, .int j => M.pure (.bl (decide (i < j)))
  | d, e => if cmpOk d e then M.pure (.bl (D.lt d e)) else M.bad
def opGt : DOp := fun d e => match d, e with
  | .int i, .int j => M.pure (.bl (decide (j < i)))
  | d, e => if cmpOk d e then M.pure (.bl (D.lt e d)) else M.bad
def opLe : DOp := fun d e => match d, e with
  | .int i, .int j => M.pure (.bl (decide (i ≤ j)))
  | d, e => if cmpOk d e then M.pure (.bl (!D.lt e d)) else M.bad
def opGe : DOp := fun d e => match d, e with
  | .int i, .int j => M.pure (.bl (decide (j ≤ i)))
  | d, e => if cmpOk d e then M.pure (.bl (!D.lt d e)) else M.bad
def D.items : D → Option (List D)
  | .lst xs => some xs
  | .tup xs => some xs
  | _ => none
def opIn (g : Bool → Bool) : DOp := fun d e => match e with
  | .lst xs => if D.sm 60 d && D.sm 60 e then M.pure (.bl (g (xs.any fun z => D.eqv z d))) else M.bad
  | .tup xs => if D.sm 60 d && D.sm 60 e then M.pure (.bl (g (xs.any fun z => D.eqv z d))) else M.bad
  | _ => M.bad
/-- x is y, y None or a truth -/
def opIs (g : Bool → Bool) : DOp := fun d e => match e with
  | .non => match d with
    | .non => M.pure (.bl (g true))
    | _ => M.pure (.bl (g false))
  | .bl b => match d with
    | .bl c => M.pure (.bl (g (decide (c = b))))
    | _ => M.bad
  | _ => M.bad
def opIx : DOp := fun d e => match d, e with
  | .tup xs, .int i => match atI xs i with | some x => M.pure x | none => M.bad
  | .lst xs, .int i => match atI xs i with | some x => M.pure x | none => M.bad
  | .str s, .int i => match atI s.cps.toList i with | some c => if s.length ≤ 16777216 then M.pure (.str ⟨#[c]⟩) else M.bad | none => M.bad
  | .scr ns, .int i => match atI ns i with | some x => M.pure (.int x) | none => M.bad
  | .ref n, .int i => fun h => match h[n]? with
    | some (.lst xs) => match atI xs i with | some x => .ok x h | none => .bad
    | _ => .bad
  | _, _ => M.bad

section
variable {K : PySem.W.Frag} {ca : CA}
theorem sub_of {w : Wd} {mh : MH} (hw : WOk K ca w mh) : ∀ a o, w.F a = some o → w.H a = some o := hw.sub
theorem opm_add : OpM K ca (fun x y H Q => rI0 (fun i j => .int (i + j)) x y H Q ∨ (∃ i j, x = .str i ∧ y = .str j ∧ i.length + j.length ≤ sizeLine ∧ Q (.str (i ++ j)) H) ∨ rCatA K x y H Q ∨ rCat x y H Q) opAdd := by
  intro W σ w mh x y d e Q hw rx ry hp
  rw [sizeLine_lit]
  cases rx with
  | int i => cases ry with
    | int j => exact .inl ⟨_, _, rfl, rfl, PostG.ret hp hw (.int _)⟩
    | _ => exact hp.elim
  | str i => cases ry with
    | str j =>
      by_cases q : i.length + j.length ≤ 16777216
      · simp only [opAdd, q, if_true] at hp
        exact .inr (.inl ⟨_, _, rfl, rfl, q, PostG.ret hp hw (.str _)⟩)
      · simp only [opAdd, q, if_false] at hp; exact hp.elim
    | _ => exact hp.elim
  | tup h1 r1 => cases ry with
    | tup h2 r2 =>
      rename_i a xs ds b ys es
      by_cases q : ds.length + es.length ≤ 16777216
      · simp only [opAdd, q, if_true] at hp
        have hr := r1.append r2
        refine .inr (.inr (.inl ⟨a, b, xs, ys, rfl, rfl, sqT_sub hw.sub h1, sqT_sub hw.sub h2, by rw [r1.length, r2.length, sizeLine_lit]; exact q, fun e => ?_, fun _ e => ?_, fun _ _ => PostG.tup hp hw hr⟩))
        · subst e; cases r1; exact PostG.ret hp hw (.tup h2 r2)
        · subst e; cases r2; exact PostG.ret hp hw (by rw [List.append_nil]; exact .tup h1 r1)
      · simp only [opAdd, q, if_false] at hp; exact hp.elim
    | _ => exact hp.elim
  | lst h1 r1 => cases ry with
    | lst h2 r2 =>
      rename_i a xs ds b ys es
      by_cases q : ds.length + es.length ≤ 16777216
      · simp only [opAdd, q, if_true] at hp
        exact .inr (.inr (.inr ⟨a, b, xs, ys, rfl, rfl, hw.subL _ _ h1, hw.subL _ _ h2, by rw [r1.length, r2.length, sizeLine_lit]; exact q, PostG.lst hp hw (r1.append r2)⟩))
      · simp only [opAdd, q, if_false] at hp; exact hp.elim
    | _ => exact hp.elim
  | _ => exact hp.elim
theorem opm_sub : OpM K ca (rI0 fun i j => .int (i - j)) opSub := opm_int fun _ _ _ _ => .int _
theorem RpAll.repl {w : Wd} {vs : List V} {ds : List D} (h : RpAll K w vs ds) : ∀ n : Nat, RpAll K w (List.replicate n vs).flatten (List.replicate n ds).flatten
  | 0 => .nil
  | n + 1 => by rw [List.replicate_succ, List.replicate_succ, List.flatten_cons, List.flatten_cons]; exact h.append (RpAll.repl h n)
theorem opm_mul : OpM K ca (fun x y H Q => rI CMulX (fun i j => .int (i * j)) x y H Q ∨ rRep x y H Q) opMul := by
  intro W σ w mh x y d e Q hw rx ry hp
  cases rx with
  | int i => cases ry with
    | int j =>
      by_cases q : mulOk i j = true
      · simp only [opMul, q, if_true] at hp; exact .inl ⟨_, _, rfl, rfl, mulOk_x q, PostG.ret hp hw (.int _)⟩
      · simp only [opMul, q] at hp; exact hp.elim
    | _ => exact hp.elim
  | lst h1 r1 => cases ry with
    | int j =>
      rename_i a xs ds
      by_cases q : 0 ≤ j ∧ j < 1000000 ∧ ds.length * j.toNat ≤ 16777216
      · simp only [opMul, q, if_true] at hp
        exact .inr ⟨a, j, xs, rfl, rfl, hw.subL _ _ h1, by omega, by omega, by rw [r1.length, sizeLine_lit]; exact q.2.2, PostG.lst hp hw (r1.repl _)⟩
      · simp only [opMul, q, if_false] at hp; exact hp.elim
    | _ => exact hp.elim
  | _ => cases ry <;> exact hp.elim
theorem opm_div : OpM K ca (rI CDivW fun i j => .int (i / j)) opDiv := by
  intro W σ w mh x y d e Q hw rx ry hp
  cases rx <;> cases ry <;> first | exact hp.elim | skip
  rename_i i j
  by_cases q : 0 < j ∧ j.natAbs.log2 < 9000
  · simp only [opDiv, q, if_true] at hp; exact ⟨_, _, rfl, rfl, q, PostG.ret hp hw (.int _)⟩
  · simp only [opDiv, q, if_false] at hp; exact hp.elim
theorem opm_mod : OpM K ca (rI (fun _ j => 0 < j) fun i j => .int (i % j)) opMod := by
  intro W σ w mh x y d e Q hw rx ry hp
  cases rx <;> cases ry <;> first | exact hp.elim | skip
  rename_i i j
  by_cases q : 0 < j
  · simp only [opMod, q, if_true] at hp; exact ⟨_, _, rfl, rfl, q, PostG.ret hp hw (.int _)⟩
  · simp only [opMod, q, if_false] at hp; exact hp.elim
theorem sm2 {d e : D} (h : (D.sm 60 d && D.sm 60 e) = true) : D.sm 60 d = true ∧ D.sm 60 e = true := by simpa using h
theorem sm64 {d : D} (h : D.sm 60 d = true) : d.toPy.depth ≤ 64 := Nat.le_trans (sm_depth h) (by decide)
theorem eq2_of {g : Bool → Bool} {W : WX} {σ : St} {w : Wd} {mh : MH} {x y : V} {d e : D} {Q : VK} (hw : WOk K ca w mh) (rx : Rp K w x d) (ry : Rp K w y e)
    (hp : Post K ca W σ w ((if D.sm 60 d && D.sm 60 e then M.pure (.bl (g (D.eqv d e))) else M.bad : M D) mh) Q) : rEq2 K g x y w.H Q := by
  by_cases q : (D.sm 60 d && D.sm 60 e) = true
  · rw [if_pos q] at hp
    exact ⟨_, _, rx.dp hw.subs (sm2 q).1, ry.dp hw.subs (sm2 q).2, plain_toPy _, plain_toPy _, sm64 (sm2 q).1, PostG.ret hp hw (.bl _)⟩
  · rw [if_neg q] at hp; exact hp.elim
theorem eqv_int (i j : Int) : D.eqv (.int i) (.int j) = decide (i = j) := by
  simp only [D.eqv, D.toPy, PyData.eqv]
  exact Bool.beq_eq_decide_eq i j
theorem opm_eq : OpM K ca (rEq2 K id) opEq := by
  intro W σ w mh x y d e Q hw rx ry hp
  refine eq2_of (W := W) (σ := σ) (mh := mh) hw rx ry ?_
  cases d <;> cases e <;> exact hp
theorem opm_ne : OpM K ca (rEq2 K not) opNe := by
  intro W σ w mh x y d e Q hw rx ry hp
  refine eq2_of (W := W) (σ := σ) (mh := mh) hw rx ry ?_
  cases d <;> cases e <;> exact hp
theorem cmpOk_of {d e : D} (h : cmpOk d e = true) : D.sm 60 d = true ∧ D.sm 60 e = true ∧ D.alike d e = true ∧ d.isNon = false := by
  simp only [cmpOk, Bool.and_eq_true, Bool.not_eq_true'] at h
  exact ⟨h.1.1.1, h.1.1.2, h.1.2, h.2⟩
theorem cm2_of {g : PyData → PyData → Bool} {W : WX} {σ : St} {w : Wd} {mh : MH} {x y : V} {d e : D} {Q : VK} (hw : WOk K ca w mh) (rx : Rp K w x d) (ry : Rp K w y e)
    (hp : Post K ca W σ w ((if cmpOk d e then M.pure (.bl (g d.toPy e.toPy)) else M.bad : M D) mh) Q) : rCm2 K g x y w.H Q := by
  by_cases q : cmpOk d e = true
  · rw [if_pos q] at hp
    obtain ⟨q1, q2, q3, q4⟩ := cmpOk_of q
    exact ⟨_, _, rx.dp hw.subs q1, ry.dp hw.subs q2, q3, ne_none q4, sm64 q1, PostG.ret hp hw (.bl _)⟩
  · rw [if_neg q] at hp; exact hp.elim
theorem cmpOk_int (i j : Int) : cmpOk (.int i) (.int j) = true := by
  simp [cmpOk, D.sm, D.alike, D.toPy, PySem.W.alike, D.isNon]
theorem not_lt (i j : Int) : (!decide (i < j)) = decide (j ≤ i) := by
  by_cases h : i < j
  · rw [decide_eq_true h, decide_eq_false (by omega)]; rfl
  · rw [decide_eq_false h, decide_eq_true (by omega)]; rfl
theorem opm_lt : OpM K ca (rCm2 K fun d e => PySem.W.dataLt d e) opLt := by
  intro W σ w mh x y d e Q hw rx ry hp
  refine cm2_of (W := W) (σ := σ) (mh := mh) hw rx ry ?_
  cases d <;> cases e <;> first | exact hp | skip
  rename_i i j
  rw [if_pos (cmpOk_int i j)]; simp only [D.toPy, PySem.W.dataLt_int]; exact hp
theorem opm_gt : OpM K ca (rCm2 K fun d e => PySem.W.dataLt e d) opGt := by
  intro W σ w mh x y d e Q hw rx ry hp
  refine cm2_of (W := W) (σ := σ) (mh := mh) hw rx ry ?_
  cases d <;> cases e <;> first | exact hp | skip
  rename_i i j
  rw [if_pos (cmpOk_int i j)]; simp only [D.toPy, PySem.W.dataLt_int]; exact hp
theorem opm_le : OpM K ca (rCm2 K fun d e => !PySem.W.dataLt e d) opLe := by
  intro W σ w mh x y d e Q hw rx ry hp
  refine cm2_of (W := W) (σ := σ) (mh := mh) hw rx ry ?_
  cases d <;> cases e <;> first | exact hp | skip
  rename_i i j
  rw [if_pos (cmpOk_int i j)]; simp only [D.toPy, PySem.W.dataLt_int, not_lt]; exact hp
theorem opm_ge : OpM K ca (rCm2 K fun d e => !PySem.W.dataLt d e) opGe := by
  intro W σ w mh x y d e Q hw rx ry hp
  refine cm2_of (W := W) (σ := σ) (mh := mh) hw rx ry ?_
  cases d <;> cases e <;> first | exact hp | skip
  rename_i i j
  rw [if_pos (cmpOk_int i j)]; simp only [D.toPy, PySem.W.dataLt_int, not_lt]; exact hp
theorem any_toPys (xs : List D) (d : D) : (D.toPys xs).any (fun z => PyData.eqv z d.toPy) = xs.any fun z => D.eqv z d := by
  rw [D.toPys_map, List.any_map]; rfl
theorem opm_in {g : Bool → Bool} : OpM K ca (rIn2 K g) (opIn g) := by
  intro W σ w mh x y d e Q hw rx ry hp
  cases e <;> first | exact hp.elim | skip
  · rename_i xs
    by_cases q : (D.sm 60 d && D.sm 60 (.tup xs)) = true
    · simp only [opIn, q, if_true] at hp
      refine ⟨_, _, rx.dp hw.subs (sm2 q).1, .inr (ry.dp hw.subs (sm2 q).2), plain_toPy _, plainAll_toPy _, sm64 (sm2 q).1, ?_⟩
      rw [any_toPys]
      exact PostG.ret hp hw (.bl _)
    · simp only [opIn, q] at hp; exact hp.elim
  · rename_i xs
    by_cases q : (D.sm 60 d && D.sm 60 (.lst xs)) = true
    · simp only [opIn, q, if_true] at hp
      refine ⟨_, _, rx.dp hw.subs (sm2 q).1, .inl (ry.dp hw.subs (sm2 q).2), plain_toPy _, plainAll_toPy _, sm64 (sm2 q).1, ?_⟩
      rw [any_toPys]
      exact PostG.ret hp hw (.bl _)
    · simp only [opIn, q] at hp; exact hp.elim
theorem opm_is : OpM K ca (fun x y H Q => rIsN x y H Q ∨ (∃ a b, x = .bl a ∧ y = .bl b ∧ Q (.bl (decide (a = b))) H)) (opIs id) := by
  intro W σ w mh x y d e Q hw rx ry hp
  cases ry <;> first | exact hp.elim | skip
  · refine .inl ⟨rfl, ?_⟩
    cases rx <;> exact PostG.ret hp hw (.bl _)
  · cases rx <;> first | exact hp.elim | skip
    exact .inr ⟨_, _, rfl, rfl, PostG.ret hp hw (.bl _)⟩
theorem opm_isnot : OpM K ca (fun x y H Q => rNotN x y H Q ∨ (∃ a b, x = .bl a ∧ y = .bl b ∧ Q (.bl (!decide (a = b))) H)) (opIs not) := by
  intro W σ w mh x y d e Q hw rx ry hp
  cases ry <;> first | exact hp.elim | skip
  · refine .inl ⟨rfl, ?_⟩
    cases rx <;> exact PostG.ret hp hw (.bl _)
  · cases rx <;> first | exact hp.elim | skip
    exact .inr ⟨_, _, rfl, rfl, PostG.ret hp hw (.bl _)⟩
theorem RpAll.atI {w : Wd} {vs : List V} {ds : List D} (h : RpAll K w vs ds) {i : Int} {d : D} (e : L2.atI ds i = some d) : ∃ v, L2.atI vs i = some v ∧ Rp K w v d := by
  unfold L2.atI at e ⊢
  rw [h.length]
  cases q : ixN ds.length i with
  | none => rw [q] at e; cases e
  | some j => rw [q] at e; exact h.get e
theorem opm_ix : OpM K ca (rIx K) opIx := by
  intro W σ w mh x y d e Q hw rx ry hp
  cases rx with
  | tup h r => cases ry with
    | int i =>
      rename_i a xs ds
      cases q : L2.atI ds i with
      | none => simp only [opIx, q] at hp; exact hp.elim
      | some z =>
        simp only [opIx, q] at hp
        obtain ⟨v, e1, e2⟩ := r.atI q
        exact .inr (.inl ⟨a, xs, i, v, rfl, rfl, sqT_sub hw.sub h, e1, PostG.ret hp hw e2⟩)
    | _ => exact hp.elim
  | lst h r => cases ry with
    | int i =>
      rename_i a xs ds
      cases q : L2.atI ds i with
      | none => simp only [opIx, q] at hp; exact hp.elim
      | some z =>
        simp only [opIx, q] at hp
        obtain ⟨v, e1, e2⟩ := r.atI q
        exact .inl ⟨a, xs, i, v, rfl, rfl, .of (hw.subL _ _ h), e1, PostG.ret hp hw e2⟩
    | _ => exact hp.elim
  | str s => cases ry with
    | int i =>
      cases q : L2.atI s.cps.toList i with
      | none => simp only [opIx, q] at hp; exact hp.elim
      | some z =>
        by_cases l : s.length ≤ 16777216
        · simp only [opIx, q, l, if_true] at hp
          exact .inr (.inr ⟨s, i, z, rfl, rfl, by rw [sizeLine_lit]; exact l, q, PostG.ret hp hw (.str _)⟩)
        · simp only [opIx, q, l, if_false] at hp; exact hp.elim
    | _ => exact hp.elim
  | scr h l => cases ry with
    | int i =>
      rename_i a ns
      cases q : L2.atI ns i with
      | none => simp only [opIx, q] at hp; exact hp.elim
      | some z =>
        simp only [opIx, q] at hp
        have q' : L2.atI (ns.map V.int) i = some (.int z) := by
          unfold L2.atI at q ⊢
          rw [List.length_map]
          cases r : ixN ns.length i with
          | none => rw [r] at q; cases q
          | some j =>
            rw [r] at q
            have q : ns[j]? = some z := q
            show (ns.map V.int)[j]? = _
            rw [List.getElem?_map, q]
            rfl
        exact .inl ⟨a, _, i, _, rfl, rfl, sqL_mono hw.sub h, q', PostG.ret hp hw (.int _)⟩
    | _ => exact hp.elim
  | ref h => cases ry with
    | int i =>
      obtain ⟨mo, e1, _, _, ho⟩ := hw.at h
      cases mo with
      | lst ds =>
        obtain ⟨vs, hH, rr⟩ := ho
        cases q : L2.atI ds i with
        | none => simp only [opIx, e1, q] at hp; exact hp.elim
        | some z =>
          simp only [opIx, e1, q] at hp
          obtain ⟨v, e2, e3⟩ := rr.atI q
          exact .inl ⟨_, vs, i, v, rfl, rfl, .of hH, e2, PostG.ret hp hw e3⟩
      | _ => simp only [opIx, e1] at hp; exact hp.elim
    | _ => exact hp.elim
  | _ => cases ry <;> exact hp.elim
end

section
variable {X : Cx} {ca : CA} {W : WX} {a b : Expr} {ma mb : Env → M D} {pos : Pos}
theorem me_add (ha : ME X ca W a ma) (hb : ME X ca W b mb) : ME X ca W (.BinOp a .Add b pos) (mBin opAdd ma mb) := me_op (OpR.or op_add (OpR.or op_add_str (OpR.or op_catA op_cat))) opm_add ha hb
theorem me_sub (ha : ME X ca W a ma) (hb : ME X ca W b mb) : ME X ca W (.BinOp a .Sub b pos) (mBin opSub ma mb) := me_op op_sub opm_sub ha hb
theorem me_mul (ha : ME X ca W a ma) (hb : ME X ca W b mb) : ME X ca W (.BinOp a .Mult b pos) (mBin opMul ma mb) := me_op (OpR.or op_mulX op_rep) opm_mul ha hb
theorem me_div (ha : ME X ca W a ma) (hb : ME X ca W b mb) : ME X ca W (.BinOp a .FloorDiv b pos) (mBin opDiv ma mb) := me_op op_fdivW opm_div ha hb
theorem me_mod (ha : ME X ca W a ma) (hb : ME X ca W b mb) : ME X ca W (.BinOp a .Mod b pos) (mBin opMod ma mb) := me_op op_mod opm_mod ha hb
theorem hu64 {k : Nat} {A : Around} (r : Room k A) : A.units + 64 < cLine := by have := r.un; omega
theorem hu66 {k : Nat} {A : Around} (r : Room k A) : A.units + 66 < cLine := by have := r.un; omega
theorem me_eq {k : Nat} (hr : Room k X.A) (ha : ME X ca W a ma) (hb : ME X ca W b mb) : ME X ca W (.Compare a [.Eq] [b] pos) (mBin opEq ma mb) := me_cmp (op_eq2 (hu64 hr)) opm_eq ha hb (nomark _)
theorem me_ne {k : Nat} (hr : Room k X.A) (ha : ME X ca W a ma) (hb : ME X ca W b mb) : ME X ca W (.Compare a [.NotEq] [b] pos) (mBin opNe ma mb) := me_cmp (op_ne2 (hu64 hr)) opm_ne ha hb (nomark _)
theorem me_lt {k : Nat} (hr : Room k X.A) (ha : ME X ca W a ma) (hb : ME X ca W b mb) : ME X ca W (.Compare a [.Lt] [b] pos) (mBin opLt ma mb) := me_cmp (op_lt2 (hu64 hr)) opm_lt ha hb (nomark _)
theorem me_gt {k : Nat} (hr : Room k X.A) (ha : ME X ca W a ma) (hb : ME X ca W b mb) : ME X ca W (.Compare a [.Gt] [b] pos) (mBin opGt ma mb) := me_cmp (op_gt2 (hu64 hr)) opm_gt ha hb (nomark _)
theorem me_le {k : Nat} (hr : Room k X.A) (ha : ME X ca W a ma) (hb : ME X ca W b mb) : ME X ca W (.Compare a [.LtE] [b] pos) (mBin opLe ma mb) := me_cmp (op_le2 (hu64 hr)) opm_le ha hb (nomark _)
theorem me_ge {k : Nat} (hr : Room k X.A) (ha : ME X ca W a ma) (hb : ME X ca W b mb) : ME X ca W (.Compare a [.GtE] [b] pos) (mBin opGe ma mb) := me_cmp (op_ge2 (hu64 hr)) opm_ge ha hb (nomark _)
theorem me_in {k : Nat} (hr : Room k X.A) (ha : ME X ca W a ma) (hb : ME X ca W b mb) (hm : behindInMarks .In b = false := by rfl) : ME X ca W (.Compare a [.In] [b] pos) (mBin (opIn id) ma mb) := me_cmp (op_in2 (hu66 hr)) opm_in ha hb hm
theorem me_nin {k : Nat} (hr : Room k X.A) (ha : ME X ca W a ma) (hb : ME X ca W b mb) (hm : behindInMarks .NotIn b = false := by rfl) : ME X ca W (.Compare a [.NotIn] [b] pos) (mBin (opIn not) ma mb) := me_cmp (op_nin2 (hu66 hr)) opm_in ha hb hm
theorem me_is (ha : ME X ca W a ma) (hb : ME X ca W b mb) : ME X ca W (.Compare a [.Is] [b] pos) (mBin (opIs id) ma mb) := me_cmp (OpR.or op_isN1 op_is_bl) opm_is ha hb (nomark _)
theorem me_isnot (ha : ME X ca W a ma) (hb : ME X ca W b mb) : ME X ca W (.Compare a [.IsNot] [b] pos) (mBin (opIs not) ma mb) := me_cmp (OpR.or op_notN1 op_isnot_bl) opm_isnot ha hb (nomark _)
theorem me_ix (ha : ME X ca W a ma) (hb : ME X ca W b mb) (hs : PlainIx b) : ME X ca W (.Subscript a b pos) (mBin opIx ma mb) :=
  PE.mono (pe_ix ix_seq ha hb hs) fun _ _ _ h => tOp_of opm_ix h
end
end AG
/-! AgD: names, tests, displays, slices, built-in calls. -/
namespace AG
open PySem L2

def mVar (i : Nat) : Env → M D := fun env => match env[i]? with | some (.v d) => M.pure d | _ => M.bad
def mC (d : D) : Env → M D := fun _ => M.pure d
def D.truth : D → Option Bool
  | .non => some false
  | .bl b => some b
  | .int i => some (i != 0)
  | .str s => if s.length ≤ 16777216 then some ((s.length : Int) != 0) else none
  | .tup xs => some (!xs.isEmpty)
  | .lst xs => some (!xs.isEmpty)
  | .ref _ => none
  | .scr _ => none
def truthM (d : D) : M Bool := match d.truth with | some b => M.pure b | none => M.bad
def mTruth (m : Env → M D) : Env → M Bool := fun env => M.bind (m env) truthM
def blM (d : D) : M Bool := match d with | .bl b => M.pure b | _ => M.bad
def mTest (m : Env → M D) : Env → M Bool := fun env => M.bind (m env) blM
def mAndT (a b : Env → M Bool) : Env → M Bool := fun env => M.bind (a env) fun c => if c = true then b env else M.pure false
def mOrT (a b : Env → M Bool) : Env → M Bool := fun env => M.bind (a env) fun c => if c = true then M.pure true else b env
def mNotT (a : Env → M Bool) : Env → M Bool := fun env => M.bind (a env) fun c => M.pure (!c)
def mAndV (a b : Env → M D) : Env → M D := fun env => M.bind (a env) fun d => M.bind (truthM d) fun c => if c = true then b env else M.pure d
def mOrV (a b : Env → M D) : Env → M D := fun env => M.bind (a env) fun d => M.bind (truthM d) fun c => if c = true then M.pure d else b env
def mNotV (a : Env → M D) : Env → M D := fun env => M.bind (a env) fun d => M.bind (truthM d) fun c => M.pure (.bl (!c))
def mIfE (t : Env → M Bool) (a b : Env → M D) : Env → M D := fun env => M.bind (t env) fun c => if c = true then a env else b env
def mNil : Env → M (List D) := fun _ => M.pure []
def mCons (m : Env → M D) (ms : Env → M (List D)) : Env → M (List D) := fun env => M.bind (m env) fun x => M.bind (ms env) fun xs => M.pure (x :: xs)
def mTup (ms : Env → M (List D)) : Env → M D := fun env => M.bind (ms env) fun xs => if xs.length ≤ 16777216 then M.pure (.tup xs) else M.bad
def mLst (ms : Env → M (List D)) : Env → M D := fun env => M.bind (ms env) fun xs => if xs.length ≤ 16777216 then M.pure (.lst xs) else M.bad
def mUn (f : D → M D) (a : Env → M D) : Env → M D := fun env => M.bind (a env) f
def opNeg : D → M D := fun d => match d with | .int i => M.pure (.int (-i)) | _ => M.bad

section
variable {X : Cx} {ca : CA} {W : WX} {a b c e : Expr} {es rest : List Expr} {ma mb : Env → M D} {mt mu : Env → M Bool} {ms : Env → M (List D)} {pos : Pos}
theorem me_var (i : Nat) {x : Str} (hN : X.N[i]? = some x := by rfl) (hv : Vis X.env.scope x := by first | exact Or.inl rfl | exact Or.inr (Or.inl rfl) | exact Or.inr (Or.inr rfl)) (hd : (x == ("__debug__" : Str)) = false := by decide)
    (hcd : (x == ("__classdict__" : Str)) = false := by decide) : ME X ca W (.Name x pos) (mVar i) := PE.mono (pe_var hN hv hd hcd) fun σ H Q h => by
  obtain ⟨w, mh, env, rfl, hw, hf, hp⟩ := h
  cases e : env[i]? with
  | none => simp only [mVar, e] at hp; exact hp.elim
  | some sl =>
    cases sl with
    | v d =>
      simp only [mVar, e] at hp
      obtain ⟨v, e1, r⟩ := hf.v i d e
      exact ⟨v, e1, PostG.ret hp hw r⟩
    | _ => simp only [mVar, e] at hp; exact hp.elim
theorem me_const {d : D} {v : V} (h : PE X e (tC v)) (hd : ∀ w, Rp X.K w v d) : ME X ca W e (mC d) := PE.mono h fun σ H Q q => by
  obtain ⟨w, mh, env, rfl, hw, hf, hp⟩ := q
  exact PostG.ret hp hw (hd _)
theorem me_int {i : Int} {j pos} : ME X ca W (.Constant (.int i) j pos) (mC (.int i)) := me_const pe_int fun _ => .int i
theorem me_bl {b : Bool} {j pos} : ME X ca W (.Constant (.bool b) j pos) (mC (.bl b)) := me_const pe_bl fun _ => .bl b
theorem me_non {j pos} : ME X ca W (.Constant .none j pos) (mC .non) := me_const pe_non fun _ => .non
theorem me_str {x : Str} {j pos} : ME X ca W (.Constant (.str x) j pos) (mC (.str x)) := me_const pe_str fun _ => .str x
/-- a module's constant -/
structure GC (K : PySem.W.Frag) (mg : Str → Option Value) (x : Str) (d : D) : Prop where
  ex : ∃ (v : V) (u : Value), mg x = some u ∧ RelV v u ∧ ∀ w, Rp K w v d
theorem me_glob {x : Str} {d : D} (h : GC X.K X.mg x d) (hg : Gl X x := by rfl) (hd : (x == ("__debug__" : Str)) = false := by decide) : ME X ca W (.Name x pos) (mC d) := by
  obtain ⟨v, u, hm, r, hp⟩ := h.ex
  exact me_const (pe_glob hg hm r hd) hp

theorem truV_of {K : PySem.W.Frag} {w : Wd} (hs : Subs w) {v : V} {d : D} {k : Bool} (r : Rp K w v d) (h : d.truth = some k) : TruV K v w.H k := by
  cases r with
  | non => exact (Option.some.inj h).symm
  | bl b => exact (Option.some.inj h).symm
  | int i => exact (Option.some.inj h).symm
  | str s =>
    simp only [D.truth] at h
    split at h
    · rename_i q
      exact ⟨by rw [sizeLine_lit]; exact q, (Option.some.inj h).symm⟩
    · cases h
  | tup q r => 
    have e : (!(_ : List D).isEmpty) = k := Option.some.inj h
    refine .inr (.inl ⟨_, sqT_sub hs.f q, ?_⟩)
    rw [← e]
    cases r <;> rfl
  | lst q r =>
    have e : (!(_ : List D).isEmpty) = k := Option.some.inj h
    refine .inl ⟨_, .of (hs.l _ _ q), ?_⟩
    rw [← e]
    cases r <;> rfl
  | ref q => cases h
  | scr q l => cases h
theorem truth_post {σ : St} {w : Wd} {mh : MH} {v : V} {d : D} {α β : Type} {rep : Wd → β → α → Prop} {f : Bool → M α} {Q : β → Hp → Prop} (hw : WOk X.K ca w mh) (r : Rp X.K w v d) (hp : PostG rep X.K ca W σ w (M.bind (truthM d) f mh) Q) :
    ∃ k, TruV X.K v w.H k ∧ PostG rep X.K ca W σ w (f k mh) Q := by
  unfold truthM at hp
  cases q : d.truth with
  | none => simp only [q] at hp; exact hp.elim
  | some k => simp only [q] at hp; exact ⟨k, truV_of hw.subs r q, hp⟩
theorem mt_truth (ha : ME X ca W a ma) (he : ∀ whole, isTrue a X.env whole = (do let v ← whole; standAt a.pos; holding [v] (truthy v)) := by intro _; rfl) : MT X ca W a (mTruth ma) :=
  PT.mono (pt_truth ha he) fun σ H Q h => by
    obtain ⟨w, mh, env, rfl, hw, hf, hp⟩ := h
    refine stepG hw hf hp fun w1 mh1 v1 d1 x1 hw1 hf1 r1 hp1 => ?_
    have hp1 : PostG repB X.K ca W σ w1 (M.bind (truthM d1) M.pure mh1) Q := by
      have : M.bind (truthM d1) M.pure mh1 = truthM d1 mh1 := by
        unfold truthM M.bind
        cases d1.truth <;> rfl
      rw [this]; exact hp1
    obtain ⟨k, tk, q⟩ := truth_post hw1 r1 hp1
    exact ⟨k, tk, PostG.ret q hw1 rfl⟩
theorem mt_cmp {op : CmpOp} {r : R2} {f : DOp} (ho : OpR X (compareOp op) r) (hf : OpM X.K ca r f) (ha : ME X ca W a ma) (hb : ME X ca W b mb) (hm : behindInMarks op b = false) : MT X ca W (.Compare a [op] [b] pos) (mTest (mBin f ma mb)) :=
  PT.mono (pt_cmpR ho ha hb hm) fun σ H Q h => by
    obtain ⟨w, mh, env, rfl, hw, hfr, hp⟩ := h
    refine tOp_of (X := X) (W := W) hf (stepG (rep := repV X.K) (ma := mBin f ma mb) hw hfr hp fun w1 mh1 v1 d1 x1 hw1 hf1 r1 hp1 => ?_)
    cases r1 <;> first | exact hp1.elim | skip
    exact ⟨_, rfl, PostG.ret hp1 hw1 rfl⟩
section
variable {k : Nat}
theorem mt_eq (hr : Room k X.A) (ha : ME X ca W a ma) (hb : ME X ca W b mb) : MT X ca W (.Compare a [.Eq] [b] pos) (mTest (mBin opEq ma mb)) := mt_cmp (op_eq2 (hu64 hr)) opm_eq ha hb (nomark _)
theorem mt_ne (hr : Room k X.A) (ha : ME X ca W a ma) (hb : ME X ca W b mb) : MT X ca W (.Compare a [.NotEq] [b] pos) (mTest (mBin opNe ma mb)) := mt_cmp (op_ne2 (hu64 hr)) opm_ne ha hb (nomark _)
theorem mt_lt (hr : Room k X.A) (ha : ME X ca W a ma) (hb : ME X ca W b mb) : MT X ca W (.Compare a [.Lt] [b] pos) (mTest (mBin opLt ma mb)) := mt_cmp (op_lt2 (hu64 hr)) opm_lt ha hb (nomark _)
theorem mt_gt (hr : Room k X.A) (ha : ME X ca W a ma) (hb : ME X ca W b mb) : MT X ca W (.Compare a [.Gt] [b] pos) (mTest (mBin opGt ma mb)) := mt_cmp (op_gt2 (hu64 hr)) opm_gt ha hb (nomark _)
theorem mt_le (hr : Room k X.A) (ha : ME X ca W a ma) (hb : ME X ca W b mb) : MT X ca W (.Compare a [.LtE] [b] pos) (mTest (mBin opLe ma mb)) := mt_cmp (op_le2 (hu64 hr)) opm_le ha hb (nomark _)
theorem mt_ge (hr : Room k X.A) (ha : ME X ca W a ma) (hb : ME X ca W b mb) : MT X ca W (.Compare a [.GtE] [b] pos) (mTest (mBin opGe ma mb)) := mt_cmp (op_ge2 (hu64 hr)) opm_ge ha hb (nomark _)
theorem mt_in (hr : Room k X.A) (ha : ME X ca W a ma) (hb : ME X ca W b mb) (hm : behindInMarks .In b = false := by rfl) : MT X ca W (.Compare a [.In] [b] pos) (mTest (mBin (opIn id) ma mb)) := mt_cmp (op_in2 (hu66 hr)) opm_in ha hb hm
theorem mt_nin (hr : Room k X.A) (ha : ME X ca W a ma) (hb : ME X ca W b mb) (hm : behindInMarks .NotIn b = false := by rfl) : MT X ca W (.Compare a [.NotIn] [b] pos) (mTest (mBin (opIn not) ma mb)) := mt_cmp (op_nin2 (hu66 hr)) opm_in ha hb hm
theorem mt_is (ha : ME X ca W a ma) (hb : ME X ca W b mb) : MT X ca W (.Compare a [.Is] [b] pos) (mTest (mBin (opIs id) ma mb)) := mt_cmp (OpR.or op_isN1 op_is_bl) opm_is ha hb (nomark _)
theorem mt_isnot (ha : ME X ca W a ma) (hb : ME X ca W b mb) : MT X ca W (.Compare a [.IsNot] [b] pos) (mTest (mBin (opIs not) ma mb)) := mt_cmp (OpR.or op_notN1 op_isnot_bl) opm_isnot ha hb (nomark _)
end
theorem mw_pt (h : MW X ca W a mt) : MT X ca W a mt := h.pt
theorem mw_and1 (ha : MT X ca W a mt) : MW X ca W (.BoolOp .And [a] pos) mt := pw_and1 ha
theorem mw_or1 (ha : MT X ca W a mt) : MW X ca W (.BoolOp .Or [a] pos) mt := pw_or1 ha
theorem mw_and (ha : MT X ca W a mt) (hb : MW X ca W (.BoolOp .And (b :: rest) pos) mu) : MW X ca W (.BoolOp .And (a :: b :: rest) pos) (mAndT mt mu) :=
  PW.mono (pw_and ha hb) fun σ H Q h => by
    obtain ⟨w, mh, env, rfl, hw, hf, hp⟩ := h
    refine stepG (rep := repB) hw hf hp fun w1 mh1 v1 d1 x1 hw1 hf1 r1 hp1 => ?_
    have r1 : v1 = d1 := r1
    subst r1
    cases v1 with
    | true => exact iteT ⟨w1, mh1, env, rfl, hw1, hf1, hp1⟩
    | false => exact iteF (PostG.ret hp1 hw1 rfl)
theorem mw_or (ha : MT X ca W a mt) (hb : MW X ca W (.BoolOp .Or (b :: rest) pos) mu) : MW X ca W (.BoolOp .Or (a :: b :: rest) pos) (mOrT mt mu) :=
  PW.mono (pw_or ha hb) fun σ H Q h => by
    obtain ⟨w, mh, env, rfl, hw, hf, hp⟩ := h
    refine stepG (rep := repB) hw hf hp fun w1 mh1 v1 d1 x1 hw1 hf1 r1 hp1 => ?_
    have r1 : v1 = d1 := r1
    subst r1
    cases v1 with
    | true => exact iteT (PostG.ret hp1 hw1 rfl)
    | false => exact iteF ⟨w1, mh1, env, rfl, hw1, hf1, hp1⟩
theorem mt_not (ha : MT X ca W a mt) : MT X ca W (.UnaryOp .Not a pos) (mNotT mt) :=
  PT.mono (pt_not ha) fun σ H Q h => by
    obtain ⟨w, mh, env, rfl, hw, hf, hp⟩ := h
    refine stepG (rep := repB) hw hf hp fun w1 mh1 v1 d1 x1 hw1 hf1 r1 hp1 => ?_
    have r1 : v1 = d1 := r1
    subst r1
    exact PostG.ret hp1 hw1 rfl
theorem me_one {op} (h : ME X ca W a ma) : ME X ca W (.BoolOp op [a] pos) ma := pe_one h
theorem me_and (ha : ME X ca W a ma) (hb : ME X ca W (.BoolOp .And (b :: rest) pos) mb) : ME X ca W (.BoolOp .And (a :: b :: rest) pos) (mAndV ma mb) :=
  PE.mono (pe_andT ha hb) fun σ H Q h => by
    obtain ⟨w, mh, env, rfl, hw, hf, hp⟩ := h
    refine stepG (rep := repV X.K) hw hf hp fun w1 mh1 v1 d1 x1 hw1 hf1 r1 hp1 => ?_
    obtain ⟨k, tk, q⟩ := truth_post hw1 r1 hp1
    refine ⟨k, tk, ?_⟩
    cases k with
    | true => exact iteT ⟨w1, mh1, env, rfl, hw1, hf1, q⟩
    | false => exact iteF (PostG.ret q hw1 r1)
theorem me_or (ha : ME X ca W a ma) (hb : ME X ca W (.BoolOp .Or (b :: rest) pos) mb) : ME X ca W (.BoolOp .Or (a :: b :: rest) pos) (mOrV ma mb) :=
  PE.mono (pe_orT ha hb) fun σ H Q h => by
    obtain ⟨w, mh, env, rfl, hw, hf, hp⟩ := h
    refine stepG (rep := repV X.K) hw hf hp fun w1 mh1 v1 d1 x1 hw1 hf1 r1 hp1 => ?_
    obtain ⟨k, tk, q⟩ := truth_post hw1 r1 hp1
    refine ⟨k, tk, ?_⟩
    cases k with
    | true => exact iteT (PostG.ret q hw1 r1)
    | false => exact iteF ⟨w1, mh1, env, rfl, hw1, hf1, q⟩
theorem me_not (ha : ME X ca W a ma) : ME X ca W (.UnaryOp .Not a pos) (mNotV ma) :=
  PE.mono (pe_notT ha) fun σ H Q h => by
    obtain ⟨w, mh, env, rfl, hw, hf, hp⟩ := h
    refine stepG (rep := repV X.K) hw hf hp fun w1 mh1 v1 d1 x1 hw1 hf1 r1 hp1 => ?_
    obtain ⟨k, tk, q⟩ := truth_post hw1 r1 hp1
    exact ⟨k, tk, PostG.ret q hw1 (.bl _)⟩
theorem me_if (hc : MT X ca W c mt) (ha : ME X ca W a ma) (hb : ME X ca W b mb) : ME X ca W (.IfExp c a b pos) (mIfE mt ma mb) :=
  PE.mono (pe_ifExp hc ha hb) fun σ H Q h => by
    obtain ⟨w, mh, env, rfl, hw, hf, hp⟩ := h
    refine stepG (rep := repB) hw hf hp fun w1 mh1 v1 d1 x1 hw1 hf1 r1 hp1 => ?_
    have r1 : v1 = d1 := r1
    subst r1
    cases v1 with
    | true => exact iteT ⟨w1, mh1, env, rfl, hw1, hf1, hp1⟩
    | false => exact iteF ⟨w1, mh1, env, rfl, hw1, hf1, hp1⟩
theorem me_neg (ha : ME X ca W a ma) : ME X ca W (.UnaryOp .USub a pos) (mUn opNeg ma) :=
  PE.mono (pe_un un_neg ha) fun σ H Q h => by
    obtain ⟨w, mh, env, rfl, hw, hf, hp⟩ := h
    refine stepG (rep := repV X.K) hw hf hp fun w1 mh1 v1 d1 x1 hw1 hf1 r1 hp1 => ?_
    cases r1 <;> first | exact hp1.elim | skip
    exact ⟨_, rfl, PostG.ret hp1 hw1 (.int _)⟩

/-! ### argument lists, displays -/
theorem ma_nil : MA X ca W [] mNil := PA.mono pa_nil fun σ H Q h => by
  obtain ⟨w, mh, env, rfl, hw, hf, hp⟩ := h
  exact PostG.ret hp hw .nil
theorem ma_cons (ha : ME X ca W e ma) (hr : MA X ca W es ms) (hs : starEach (e :: es) X.env = (false, eval e X.env) :: starEach es X.env := by rfl) : MA X ca W (e :: es) (mCons ma ms) :=
  PA.mono (pa_cons ha hr hs) fun σ H Q h => by
    obtain ⟨w, mh, env, rfl, hw, hf, hp⟩ := h
    refine stepG (rep := repV X.K) hw hf hp fun w1 mh1 v1 d1 x1 hw1 hf1 r1 hp1 => ?_
    refine stepG (rep := repA X.K) hw1 hf1 hp1 fun w2 mh2 v2 d2 x2 hw2 hf2 r2 hp2 => ?_
    exact PostG.ret hp2 hw2 (.cons (x2.rp r1) r2)
theorem me_tup {j} (h : MA X ca W es ms) : ME X ca W (.Tuple es j pos) (mTup ms) :=
  PE.mono (pe_tup h) fun σ H Q h => by
    obtain ⟨w, mh, env, rfl, hw, hf, hp⟩ := h
    refine stepG (rep := repA X.K) hw hf hp fun w1 mh1 v1 d1 x1 hw1 hf1 r1 hp1 => ?_
    have r1 : RpAll X.K w1 v1 d1 := r1
    by_cases q : d1.length ≤ 16777216
    · simp only [q, if_true] at hp1
      exact ⟨by rw [r1.length, sizeLine_lit]; exact q, PostG.tup hp1 hw1 r1⟩
    · simp only [q, if_false] at hp1; exact hp1.elim
theorem me_lst (h : MA X ca W es ms) : ME X ca W (.List es pos) (mLst ms) :=
  PE.mono (pe_lst h) fun σ H Q h => by
    obtain ⟨w, mh, env, rfl, hw, hf, hp⟩ := h
    refine stepG (rep := repA X.K) hw hf hp fun w1 mh1 v1 d1 x1 hw1 hf1 r1 hp1 => ?_
    have r1 : RpAll X.K w1 v1 d1 := r1
    by_cases q : d1.length ≤ 16777216
    · simp only [q, if_true] at hp1
      exact ⟨by rw [r1.length, sizeLine_lit]; exact q, PostG.lst hp1 hw1 r1⟩
    · simp only [q, if_false] at hp1; exact hp1.elim
end

/-! ### slices -/
def cutD (xs : List D) (lo hi : Option Int) : List D := (xs.drop (HT.sIx xs.length 0 lo)).take (HT.sIx xs.length xs.length hi - HT.sIx xs.length 0 lo)
def opSl (d : D) (lo hi : Option Int) : M D := match d with
  | .tup xs => M.pure (.tup (cutD xs lo hi))
  | .lst xs => M.pure (.lst (cutD xs lo hi))
  | .str z => if z.length ≤ 16777216 then M.pure (.str (cutS z lo hi)) else M.bad
  | _ => M.bad
def partM (d : D) : M (Option Int) := match d with | .int i => M.pure (some i) | _ => M.bad
def mPart (m : Env → M D) : Env → M (Option Int) := fun env => M.bind (m env) partM
def mNoPart : Env → M (Option Int) := fun _ => M.pure none
def mSl (a : Env → M D) (lo hi : Env → M (Option Int)) : Env → M D := fun env => M.bind (a env) fun d => M.bind (lo env) fun l => M.bind (hi env) fun u => opSl d l u
def opRev (d : D) : M D := match d with | .lst xs => M.pure (.lst xs.reverse) | _ => M.bad
abbrev repO : Wd → Option Int → Option Int → Prop := fun _ o p => o = p
theorem PO.mono {X : Cx} {e : Option Expr} {t t' : TO} (h : PO X e t) (k : ∀ σ H Q, t' σ H Q → t σ H Q) : PO X e t' := ⟨fun pins s σ H Q I q => h.run pins s σ H Q I (k σ H Q q)⟩
abbrev MO' (X : Cx) (ca : CA) (W : WX) (e : Option Expr) (m : Env → M (Option Int)) : Prop := PO X e (denG repO X.K ca W m)
section
variable {K : PySem.W.Frag} {w : Wd}
theorem RpAll.cut {vs : List V} {ds : List D} (h : RpAll K w vs ds) (lo hi : Option Int) : RpAll K w (cutV vs lo hi) (cutD ds lo hi) := by
  unfold cutV cutD
  rw [h.length]
  exact (h.drop _).take _
theorem cutD_whole {xs : List D} {lo hi : Option Int} (h : HT.sIx xs.length 0 lo = 0 ∧ HT.sIx xs.length xs.length hi = xs.length) : cutD xs lo hi = xs := by
  unfold cutD
  rw [h.1, h.2]
  simp
end
section
variable {X : Cx} {ca : CA} {W : WX} {a e : Expr} {lo hi : Option Expr} {ma : Env → M D} {ml mh' : Env → M (Option Int)} {pos p2 : Pos}
theorem mo_none : MO' X ca W none mNoPart := PO.mono po_none fun σ H Q h => by
  obtain ⟨w, mh, env, rfl, hw, hf, hp⟩ := h
  exact PostG.ret hp hw rfl
theorem mo_some (h : ME X ca W e ma) : MO' X ca W (some e) (mPart ma) := PO.mono (po_some h) fun σ H Q h => by
  obtain ⟨w, mh, env, rfl, hw, hf, hp⟩ := h
  refine stepG (rep := repV X.K) hw hf hp fun w1 mh1 v1 d1 x1 hw1 hf1 r1 hp1 => ?_
  cases r1 <;> first | exact hp1.elim | skip
  exact ⟨_, rfl, PostG.ret hp1 hw1 rfl⟩
theorem me_slice (ha : ME X ca W a ma) (hl : MO' X ca W lo ml) (hu : MO' X ca W hi mh') : ME X ca W (.Subscript a (.Slice lo hi none p2) pos) (mSl ma ml mh') :=
  PE.mono (pe_slice (SlR.or sl_tupA (SlR.or sl_list sl_str)) ha hl hu) fun σ H Q h => by
    obtain ⟨w, mh, env, rfl, hw, hf, hp⟩ := h
    refine stepG (rep := repV X.K) hw hf hp fun w1 mh1 v1 d1 x1 hw1 hf1 r1 hp1 => ?_
    refine stepG (rep := repO) hw1 hf1 hp1 fun w2 mh2 v2 d2 x2 hw2 hf2 r2 hp2 => ?_
    refine stepG (rep := repO) hw2 hf2 hp2 fun w3 mh3 v3 d3 x3 hw3 hf3 r3 hp3 => ?_
    have r2 : v2 = d2 := r2
    have r3 : v3 = d3 := r3
    subst r2 r3
    have r1 : Rp X.K w3 v1 d1 := x3.rp (x2.rp r1)
    cases r1 with
    | tup q r =>
      rename_i p xs ds
      refine .inl ⟨p, xs, rfl, sqT_sub hw3.sub q, fun h => ?_, fun _ => PostG.tup hp3 hw3 (r.cut _ _)⟩
      refine PostG.ret hp3 hw3 ?_
      rw [cutD_whole (by rw [← r.length]; exact h)]
      exact .tup q r
    | lst q r => exact .inr (.inl ⟨_, _, rfl, .of (hw3.subL _ _ q), PostG.lst hp3 hw3 (r.cut _ _)⟩)
    | str z =>
      by_cases l : z.length ≤ 16777216
      · simp only [opSl, l, if_true] at hp3
        exact .inr (.inr ⟨z, rfl, by rw [sizeLine_lit]; exact l, PostG.ret hp3 hw3 (.str _)⟩)
      · simp only [opSl, l, if_false] at hp3; exact hp3.elim
    | _ => exact hp3.elim
theorem me_rev {k : Nat} {p1 p2 p3 : Pos} (ha : ME X ca W a ma) : ME X ca W (.Subscript a (.Slice none none (some (.UnaryOp .USub (.Constant (.int 1) k p1) p2)) p3) pos) (mUn opRev ma) :=
  PE.mono (pe_revL ha) fun σ H Q h => by
    obtain ⟨w, mh, env, rfl, hw, hf, hp⟩ := h
    refine stepG (rep := repV X.K) hw hf hp fun w1 mh1 v1 d1 x1 hw1 hf1 r1 hp1 => ?_
    cases r1 <;> first | exact hp1.elim | skip
    rename_i q r
    exact ⟨_, _, rfl, .of (hw1.subL _ _ q), PostG.lst hp1 hw1 r.reverse⟩
end
end AG
/-! AgE: calls: built-ins, isinstance, defs. -/
namespace AG
open PySem L2

abbrev LOp := List D → M D
def CallM (K : PySem.W.Frag) (ca : CA) (r : List V → Hp → VK → Prop) (f : LOp) : Prop :=
  ∀ (W : WX) (σ : St) (w : Wd) (mh : MH) (xs : List V) (ds : List D) (Q : VK), WOk K ca w mh → RpAll K w xs ds → Post K ca W σ w (f ds mh) Q → r xs w.H Q
def mCall (f : LOp) (ms : Env → M (List D)) : Env → M D := fun env => M.bind (ms env) f

def fLen : LOp := fun ds => match ds with
  | [.tup xs] => M.pure (.int xs.length)
  | [.lst xs] => M.pure (.int xs.length)
  | [.str s] => if s.length ≤ 16777216 then M.pure (.int s.length) else M.bad
  | [.scr ns] => M.pure (.int ns.length)
  | [.ref n] => fun h => match h[n]? with | some (.lst xs) => .ok (.int xs.length) h | _ => .bad
  | _ => M.bad
def fInt : LOp := fun ds => match ds with
  | [.int i] => M.pure (.int i)
  | [.bl b] => M.pure (.int (if b then 1 else 0))
  | _ => M.bad
def fAbs : LOp := fun ds => match ds with
  | [.int i] => M.pure (.int (if i < 0 then -i else i))
  | _ => M.bad
def fList : LOp := fun ds => match ds with
  | [.tup xs] => M.pure (.lst xs)
  | [.lst xs] => M.pure (.lst xs)
  | [.scr ns] => M.pure (.scr ns)
  | _ => M.bad
def fTuple : LOp := fun ds => match ds with
  | [.tup xs] => M.pure (.tup xs)
  | [.lst xs] => M.pure (.tup xs)
  | _ => M.bad
def D.ints : List D → Option (List Int)
  | [] => some []
  | .int i :: r => (D.ints r).map (i :: ·)
  | _ :: _ => none
def fSum : LOp := fun ds => match ds with
  | [.lst xs] => match D.ints xs with | some ns => M.pure (.int ns.sum) | none => M.bad
  | _ => M.bad
def D.tb (d : D) : Bool := d.truth.getD false
def D.fit : D → Bool
  | .tup xs => decide (xs.length ≤ 16777216)
  | .lst xs => decide (xs.length ≤ 16777216)
  | _ => true
def D.tok (d : D) : Bool := d.truth.isSome && D.sm 60 d && d.fit
def fAny : LOp := fun ds => match ds with
  | [.lst xs] => if xs.all D.tok = true then M.pure (.bl (xs.any D.tb)) else M.bad
  | _ => M.bad
def fAll : LOp := fun ds => match ds with
  | [.lst xs] => if xs.all D.tok = true then M.pure (.bl (xs.all D.tb)) else M.bad
  | _ => M.bad
def maxI (n : Int) (ns : List Int) : Int := ns.foldl (fun m x => if m < x then x else m) n
def minI (n : Int) (ns : List Int) : Int := ns.foldl (fun m x => if x < m then x else m) n
def fMax : LOp := fun ds => match ds with
  | [.lst xs] => match D.ints xs with | some (n :: ns) => M.pure (.int (maxI n ns)) | _ => M.bad
  | [.int i, .int j] => M.pure (.int (if j > i then j else i))
  | _ => M.bad
def fMin : LOp := fun ds => match ds with
  | [.lst xs] => match D.ints xs with | some (n :: ns) => M.pure (.int (minI n ns)) | _ => M.bad
  | [.int i, .int j] => M.pure (.int (if j < i then j else i))
  | _ => M.bad

section
variable {K : PySem.W.Frag} {ca : CA}
theorem RpAll.one {w : Wd} {xs : List V} {d : D} (h : RpAll K w xs [d]) : ∃ x, xs = [x] ∧ Rp K w x d := by
  cases h with
  | cons h r => cases r; exact ⟨_, rfl, h⟩
theorem RpAll.two {w : Wd} {xs : List V} {d e : D} (h : RpAll K w xs [d, e]) : ∃ x y, xs = [x, y] ∧ Rp K w x d ∧ Rp K w y e := by
  cases h with
  | cons h r =>
    obtain ⟨y, rfl, q⟩ := r.one
    exact ⟨_, _, rfl, h, q⟩
theorem cm_len : CallM K ca (fun xs H Q => ∃ x n, xs = [x] ∧ LenV K x H n ∧ Q (.int n) H) fLen := by
  intro W σ w mh xs ds Q hw r hp
  unfold fLen at hp
  match ds, r, hp with
  | [.tup ys], r, hp =>
    obtain ⟨x, rfl, q⟩ := r.one
    cases q with
    | tup h1 h2 => exact ⟨_, _, rfl, .inr ⟨_, sqT_sub hw.sub h1, h2.length.symm⟩, PostG.ret hp hw (.int _)⟩
  | [.lst ys], r, hp =>
    obtain ⟨x, rfl, q⟩ := r.one
    cases q with
    | lst h1 h2 => exact ⟨_, _, rfl, .inl ⟨_, .of (hw.subL _ _ h1), h2.length.symm⟩, PostG.ret hp hw (.int _)⟩
  | [.str s], r, hp =>
    obtain ⟨x, rfl, q⟩ := r.one
    cases q with
    | str _ =>
      by_cases l : s.length ≤ 16777216
      · simp only [l, if_true] at hp
        exact ⟨_, _, rfl, ⟨by rw [sizeLine_lit]; exact l, rfl⟩, PostG.ret hp hw (.int _)⟩
      · simp only [l, if_false] at hp; exact hp.elim
  | [.scr ns], r, hp =>
    obtain ⟨x, rfl, q⟩ := r.one
    cases q with
    | scr h1 h2 => exact ⟨_, ns.length, rfl, .inl ⟨_, sqL_mono hw.sub h1, by simp⟩, PostG.ret hp hw (.int _)⟩
  | [.ref n], r, hp =>
    obtain ⟨x, rfl, q⟩ := r.one
    cases q with
    | ref h1 =>
      obtain ⟨mo, e1, _, _, ho⟩ := hw.at h1
      cases mo with
      | lst ds =>
        obtain ⟨vs, hH, rr⟩ := ho
        simp only [e1] at hp
        exact ⟨_, _, rfl, .inl ⟨_, .of hH, rr.length.symm⟩, PostG.ret hp hw (.int _)⟩
      | _ => simp only [e1] at hp; exact hp.elim
theorem cm_int : CallM K ca (fun xs H Q => (∃ i, xs = [.int i] ∧ Q (.int i) H) ∨ ∃ k, xs = [.bl k] ∧ Q (.int (if k then 1 else 0)) H) fInt := by
  intro W σ w mh xs ds Q hw r hp
  unfold fInt at hp
  match ds, r, hp with
  | [.int i], r, hp =>
    obtain ⟨x, rfl, q⟩ := r.one
    cases q
    exact .inl ⟨_, rfl, PostG.ret hp hw (.int _)⟩
  | [.bl b], r, hp =>
    obtain ⟨x, rfl, q⟩ := r.one
    cases q
    exact .inr ⟨_, rfl, PostG.ret hp hw (.int _)⟩
theorem cm_abs : CallM K ca (fun xs H Q => ∃ i, xs = [.int i] ∧ Q (.int (if i < 0 then -i else i)) H) fAbs := by
  intro W σ w mh xs ds Q hw r hp
  unfold fAbs at hp
  match ds, r, hp with
  | [.int i], r, hp =>
    obtain ⟨x, rfl, q⟩ := r.one
    cases q
    exact ⟨_, rfl, PostG.ret hp hw (.int _)⟩
theorem cm_list : CallM K ca (fun xs H Q => ∃ p ys, xs = [.ref p] ∧ (SqL K H p ys ∨ SqT K H p ys) ∧ ∀ l, H l = none → Q (.ref l) (upd H l (.lst ys))) fList := by
  intro W σ w mh xs ds Q hw r hp
  unfold fList at hp
  match ds, r, hp with
  | [.tup ys], r, hp =>
    obtain ⟨x, rfl, q⟩ := r.one
    cases q with
    | tup h1 h2 => exact ⟨_, _, rfl, .inr (sqT_sub hw.sub h1), PostG.lst hp hw h2⟩
  | [.lst ys], r, hp =>
    obtain ⟨x, rfl, q⟩ := r.one
    cases q with
    | lst h1 h2 => exact ⟨_, _, rfl, .inl (.of (hw.subL _ _ h1)), PostG.lst hp hw h2⟩
  | [.scr ns], r, hp =>
    obtain ⟨x, rfl, q⟩ := r.one
    cases q with
    | scr h1 h2 => exact ⟨_, _, rfl, .inl (sqL_mono hw.sub h1), PostG.scr (vs := []) hp hw h2⟩
theorem cm_tuple : CallM K ca (fun xs H Q => ∃ p ys, xs = [.ref p] ∧ ((SqL K H p ys ∧ ∀ l, H l = none → Q (.ref l) (upd H l (.tup ys))) ∨ (SqT K H p ys ∧ Q (.ref p) H))) fTuple := by
  intro W σ w mh xs ds Q hw r hp
  unfold fTuple at hp
  match ds, r, hp with
  | [.tup ys], r, hp =>
    obtain ⟨x, rfl, q⟩ := r.one
    cases q with
    | tup h1 h2 => exact ⟨_, _, rfl, .inr ⟨sqT_sub hw.sub h1, PostG.ret hp hw (.tup h1 h2)⟩⟩
  | [.lst ys], r, hp =>
    obtain ⟨x, rfl, q⟩ := r.one
    cases q with
    | lst h1 h2 => exact ⟨_, _, rfl, .inl ⟨.of (hw.subL _ _ h1), PostG.tup hp hw h2⟩⟩
theorem ints_of {w : Wd} : ∀ {ds : List D} {xs : List V} {ns : List Int}, RpAll K w xs ds → D.ints ds = some ns → xs = ns.map V.int
  | [], _, _, r, e => by cases r; cases e; rfl
  | .int i :: ds, _, _, r, e => by
    cases r with
    | cons h r =>
      cases h
      simp only [D.ints] at e
      cases q : D.ints ds with
      | none => rw [q] at e; cases e
      | some ms =>
        rw [q] at e
        cases e
        rw [ints_of r q]; rfl
  | .non :: _, _, _, _, e => by cases e
  | .bl _ :: _, _, _, _, e => by cases e
  | .str _ :: _, _, _, _, e => by cases e
  | .tup _ :: _, _, _, _, e => by cases e
  | .lst _ :: _, _, _, _, e => by cases e
  | .ref _ :: _, _, _, _, e => by cases e
  | .scr _ :: _, _, _, _, e => by cases e
theorem cm_sum : CallM K ca (rSum K) fSum := by
  intro W σ w mh xs ds Q hw r hp
  unfold fSum at hp
  match ds, r, hp with
  | [.lst ys], r, hp =>
    obtain ⟨x, rfl, q⟩ := r.one
    cases q with
    | lst h1 h2 =>
      cases e : D.ints ys with
      | none => simp only [e] at hp; exact hp.elim
      | some ns =>
        simp only [e] at hp
        rw [ints_of h2 e] at h1
        exact ⟨_, ns, rfl, .of (hw.subL _ _ h1), PostG.ret hp hw (.int _)⟩
theorem maxI_spec : ∀ (ns : List Int) (n : Int), maxI n ns ∈ n :: ns ∧ ∀ y ∈ n :: ns, y ≤ maxI n ns
  | [], n => by simp [maxI]
  | m :: ns, n => by
    have e : maxI n (m :: ns) = maxI (if n < m then m else n) ns := rfl
    rw [e]
    obtain ⟨h1, h2⟩ := maxI_spec ns (if n < m then m else n)
    have h3 := h2 (if n < m then m else n) List.mem_cons_self
    generalize maxI (if n < m then m else n) ns = Z at h1 h2 h3 ⊢
    refine ⟨?_, fun y hy => ?_⟩
    · rcases List.mem_cons.mp h1 with q | q
      · rw [q]; split <;> simp
      · exact List.mem_cons_of_mem _ (List.mem_cons_of_mem _ q)
    · rcases List.mem_cons.mp hy with q | q
      · subst q; split at h3 <;> omega
      · rcases List.mem_cons.mp q with q | q
        · subst q; split at h3 <;> omega
        · exact h2 y (List.mem_cons_of_mem _ q)
theorem minI_spec : ∀ (ns : List Int) (n : Int), minI n ns ∈ n :: ns ∧ ∀ y ∈ n :: ns, minI n ns ≤ y
  | [], n => by simp [minI]
  | m :: ns, n => by
    have e : minI n (m :: ns) = minI (if m < n then m else n) ns := rfl
    rw [e]
    obtain ⟨h1, h2⟩ := minI_spec ns (if m < n then m else n)
    have h3 := h2 (if m < n then m else n) List.mem_cons_self
    generalize minI (if m < n then m else n) ns = Z at h1 h2 h3 ⊢
    refine ⟨?_, fun y hy => ?_⟩
    · rcases List.mem_cons.mp h1 with q | q
      · rw [q]; split <;> simp
      · exact List.mem_cons_of_mem _ (List.mem_cons_of_mem _ q)
    · rcases List.mem_cons.mp hy with q | q
      · subst q; split at h3 <;> omega
      · rcases List.mem_cons.mp q with q | q
        · subst q; split at h3 <;> omega
        · exact h2 y (List.mem_cons_of_mem _ q)
def rMax2 (K : PySem.W.Frag) : List V → Hp → VK → Prop := fun xs H Q => rMax K xs H Q ∨ ∃ i j, xs = [.int i, .int j] ∧ Q (.int (if j > i then j else i)) H
def rMin2 (K : PySem.W.Frag) : List V → Hp → VK → Prop := fun xs H Q => rMin K xs H Q ∨ ∃ i j, xs = [.int i, .int j] ∧ Q (.int (if j < i then j else i)) H
theorem cm_max : CallM K ca (rMax2 K) fMax := by
  intro W σ w mh xs ds Q hw r hp
  unfold fMax at hp
  match ds, r, hp with
  | [.lst ys], r, hp =>
    obtain ⟨x, rfl, q⟩ := r.one
    cases q with
    | lst h1 h2 =>
      cases e : D.ints ys with
      | none => simp only [e] at hp; exact hp.elim
      | some ns =>
        cases ns with
        | nil => simp only [e] at hp; exact hp.elim
        | cons n ns =>
          simp only [e] at hp
          rw [ints_of h2 e] at h1
          have sp := maxI_spec ns n
          refine .inl ⟨_, n :: ns, rfl, .of (hw.subL _ _ h1), by simp, fun m h3 h4 => ?_⟩
          have : m = maxI n ns := by have := h4 _ sp.1; have := sp.2 _ h3; omega
          subst this
          exact PostG.ret hp hw (.int _)
  | [.int i, .int j], r, hp =>
    obtain ⟨x, y, rfl, q1, q2⟩ := r.two
    cases q1
    cases q2
    exact .inr ⟨_, _, rfl, PostG.ret hp hw (.int _)⟩
theorem cm_min : CallM K ca (rMin2 K) fMin := by
  intro W σ w mh xs ds Q hw r hp
  unfold fMin at hp
  match ds, r, hp with
  | [.lst ys], r, hp =>
    obtain ⟨x, rfl, q⟩ := r.one
    cases q with
    | lst h1 h2 =>
      cases e : D.ints ys with
      | none => simp only [e] at hp; exact hp.elim
      | some ns =>
        cases ns with
        | nil => simp only [e] at hp; exact hp.elim
        | cons n ns =>
          simp only [e] at hp
          rw [ints_of h2 e] at h1
          have sp := minI_spec ns n
          refine .inl ⟨_, n :: ns, rfl, .of (hw.subL _ _ h1), by simp, fun m h3 h4 => ?_⟩
          have : m = minI n ns := by have := h4 _ sp.1; have := sp.2 _ h3; omega
          subst this
          exact PostG.ret hp hw (.int _)
  | [.int i, .int j], r, hp =>
    obtain ⟨x, y, rfl, q1, q2⟩ := r.two
    cases q1
    cases q2
    exact .inr ⟨_, _, rfl, PostG.ret hp hw (.int _)⟩

/-! any, all -/
def rAnyD (K : PySem.W.Frag) (g : List PyData → Bool) : List V → Hp → VK → Prop := fun xs H Q => ∃ a ys ds, xs = [.ref a] ∧ SqL K H a ys ∧ DpAll K H ys ds ∧ PyData.plainAll ds = true ∧ (∀ x ∈ ds, x.fits63) ∧ Q (.bl (g ds)) H
theorem cr_anyD {X : Cx} (hc : X.calm = true) : CallR X (.builtin "any") (rAnyD X.K fun ds => ds.any PyData.truthy) := by
  intro pins s σ H xs us Q I r h
  obtain ⟨a, ys, ds, rfl, hl, hd, hp, hf, q⟩ := h
  obtain ⟨its, rv, pl, hz⟩ := I.list hl
  obtain ⟨as, hr⟩ := Dp.readsAll I ds ys its hd rv
  cases r with
  | cons r1 r2 =>
    cases r1
    cases r2
    exact PySem.W.any_list_data (I.ok.hd hc) pl.isList (by simpa using hr) hp hf fun h' tk k => ⟨.bl _, H, I.kept (t' := tk) k, rfl, q⟩
theorem cr_allD {X : Cx} (hc : X.calm = true) : CallR X (.builtin "all") (rAnyD X.K fun ds => ds.all PyData.truthy) := by
  intro pins s σ H xs us Q I r h
  obtain ⟨a, ys, ds, rfl, hl, hd, hp, hf, q⟩ := h
  obtain ⟨its, rv, pl, hz⟩ := I.list hl
  obtain ⟨as, hr⟩ := Dp.readsAll I ds ys its hd rv
  cases r with
  | cons r1 r2 =>
    cases r1
    cases r2
    exact PySem.W.all_list_data (I.ok.hd hc) pl.isList (by simpa using hr) hp hf fun h' tk k => ⟨.bl _, H, I.kept (t' := tk) k, rfl, q⟩
theorem tok_of {d : D} (h : d.tok = true) : D.sm 60 d = true ∧ d.toPy.truthy = d.tb ∧ d.toPy.fits63 := by
  simp only [D.tok, Bool.and_eq_true] at h
  obtain ⟨⟨h1, h2⟩, h3⟩ := h
  refine ⟨h2, ?_, ?_⟩
  · cases d <;> simp [D.truth, D.tb, D.toPy, PyData.truthy] at h1 ⊢
    · rename_i s
      by_cases l : s.length ≤ 16777216
      · simp [l]
      · omega
    · rename_i xs; rw [D.toPys_map]; cases xs <;> rfl
    · rename_i xs; rw [D.toPys_map]; cases xs <;> rfl
  · cases d <;> simp [D.toPy, PyData.fits63, D.fit, D.truth, D.toPys_map] at h1 h3 ⊢
    · omega
    · omega
    · omega
theorem dpAll_tok {w : Wd} (hs : Subs w) : ∀ {vs : List V} {ds : List D}, RpAll K w vs ds → ds.all D.tok = true → DpAll K w.H vs (D.toPys ds)
  | _, _, .nil, _ => .nil
  | _, _, .cons h r, q => by
    simp only [List.all_cons, Bool.and_eq_true] at q
    exact .cons (h.dp hs (tok_of q.1).1) (dpAll_tok hs r q.2)
theorem any_tok : ∀ {ds : List D}, ds.all D.tok = true → (D.toPys ds).any PyData.truthy = ds.any D.tb
  | [], _ => rfl
  | d :: ds, q => by
    simp only [List.all_cons, Bool.and_eq_true] at q
    rw [D.toPys, List.any_cons, List.any_cons, (tok_of q.1).2.1, any_tok q.2]
theorem all_tok : ∀ {ds : List D}, ds.all D.tok = true → (D.toPys ds).all PyData.truthy = ds.all D.tb
  | [], _ => rfl
  | d :: ds, q => by
    simp only [List.all_cons, Bool.and_eq_true] at q
    rw [D.toPys, List.all_cons, List.all_cons, (tok_of q.1).2.1, all_tok q.2]
theorem fits_tok {ds : List D} (q : ds.all D.tok = true) : ∀ x ∈ D.toPys ds, x.fits63 := by
  rw [D.toPys_map]
  intro x hx
  obtain ⟨d, hd, rfl⟩ := List.mem_map.mp hx
  exact (tok_of (List.all_eq_true.mp q d hd)).2.2
theorem cm_any : CallM K ca (rAnyD K fun ds => ds.any PyData.truthy) fAny := by
  intro W σ w mh xs ds Q hw r hp
  unfold fAny at hp
  match ds, r, hp with
  | [.lst ys], r, hp =>
    obtain ⟨x, rfl, q⟩ := r.one
    cases q with
    | lst h1 h2 =>
      by_cases c : ys.all D.tok = true
      · simp only [c, if_true] at hp
        refine ⟨_, _, _, rfl, .of (hw.subL _ _ h1), dpAll_tok hw.subs h2 c, plainAll_toPy _, fits_tok c, ?_⟩
        show Q (V.bl ((D.toPys ys).any PyData.truthy)) w.H
        rw [any_tok c]
        exact PostG.ret hp hw (.bl _)
      · simp only [c] at hp; exact hp.elim
theorem cm_all : CallM K ca (rAnyD K fun ds => ds.all PyData.truthy) fAll := by
  intro W σ w mh xs ds Q hw r hp
  unfold fAll at hp
  match ds, r, hp with
  | [.lst ys], r, hp =>
    obtain ⟨x, rfl, q⟩ := r.one
    cases q with
    | lst h1 h2 =>
      by_cases c : ys.all D.tok = true
      · simp only [c, if_true] at hp
        refine ⟨_, _, _, rfl, .of (hw.subL _ _ h1), dpAll_tok hw.subs h2 c, plainAll_toPy _, fits_tok c, ?_⟩
        show Q (V.bl ((D.toPys ys).all PyData.truthy)) w.H
        rw [all_tok c]
        exact PostG.ret hp hw (.bl _)
      · simp only [c] at hp; exact hp.elim
end

section
variable {X : Cx} {ca : CA} {W : WX} {e : Expr} {es : List Expr} {ms : Env → M (List D)} {m : Env → M D} {r : List V → Hp → VK → Prop} {f : LOp} {x : Str} {p pos : Pos} {id : String}
theorem me_callB (hc : CallR X (.builtin id) r) (hf : CallM X.K ca r f) (hm : X.mg x = none) (hv : bootBuiltins x = some (.builtin id)) (ha : MA X ca W (e :: es) ms) (hg : Gl X x := by rfl) (hn : x ≠ "__name__" := by decide) (hdb : (x == ("__debug__" : Str)) = false := by decide)
    (he : starEach (e :: es) X.env = (false, eval e X.env) :: starEach es X.env := by rfl) (hpl : (backTo pos (starEach es X.env)).any (·.1) = false := by rfl) : ME X ca W (.Call (.Name x p) (e :: es) [] pos) (mCall f ms) :=
  PE.mono (pe_callB hc hg hm hv ha hn hdb he hpl) fun σ H Q h => by
    obtain ⟨w, mh, env, rfl, hw, hfr, hp⟩ := h
    exact stepG (rep := repA X.K) hw hfr hp fun w1 mh1 v1 d1 x1 hw1 hf1 r1 hp1 => hf W σ w1 mh1 v1 d1 Q hw1 r1 hp1
theorem me_callTy (hc : CallR X (.type id) r) (hf : CallM X.K ca r f) (hm : X.mg x = none) (hv : bootBuiltins x = some (.type id)) (ha : MA X ca W (e :: es) ms) (hg : Gl X x := by rfl) (hn : x ≠ "__name__" := by decide) (hdb : (x == ("__debug__" : Str)) = false := by decide)
    (he : starEach (e :: es) X.env = (false, eval e X.env) :: starEach es X.env := by rfl) (hpl : (backTo pos (starEach es X.env)).any (·.1) = false := by rfl) : ME X ca W (.Call (.Name x p) (e :: es) [] pos) (mCall f ms) :=
  PE.mono (pe_callTy hc hg hm hv ha hn hdb he hpl) fun σ H Q h => by
    obtain ⟨w, mh, env, rfl, hw, hfr, hp⟩ := h
    exact stepG (rep := repA X.K) hw hfr hp fun w1 mh1 v1 d1 x1 hw1 hf1 r1 hp1 => hf W σ w1 mh1 v1 d1 Q hw1 r1 hp1
theorem me_len (hm : X.mg "len" = none) (ha : MA X ca W (e :: es) ms) (hg : Gl X "len" := by rfl) (he : starEach (e :: es) X.env = (false, eval e X.env) :: starEach es X.env := by rfl) (hpl : (backTo pos (starEach es X.env)).any (·.1) = false := by rfl) : ME X ca W (.Call (.Name "len" p) (e :: es) [] pos) (mCall fLen ms) :=
  me_callB call_len cm_len hm PySem.boot_len ha hg (by decide) (by decide) he hpl
theorem me_int1 (hm : X.mg "int" = none) (ha : MA X ca W (e :: es) ms) (hg : Gl X "int" := by rfl) (he : starEach (e :: es) X.env = (false, eval e X.env) :: starEach es X.env := by rfl) (hpl : (backTo pos (starEach es X.env)).any (·.1) = false := by rfl) : ME X ca W (.Call (.Name "int" p) (e :: es) [] pos) (mCall fInt ms) :=
  me_callTy call_int1 cm_int hm (by decide +kernel) ha hg (by decide) (by decide) he hpl
theorem me_abs (hm : X.mg "abs" = none) (ha : MA X ca W (e :: es) ms) (hg : Gl X "abs" := by rfl) (he : starEach (e :: es) X.env = (false, eval e X.env) :: starEach es X.env := by rfl) (hpl : (backTo pos (starEach es X.env)).any (·.1) = false := by rfl) : ME X ca W (.Call (.Name "abs" p) (e :: es) [] pos) (mCall fAbs ms) :=
  me_callB call_abs cm_abs hm (by decide +kernel) ha hg (by decide) (by decide) he hpl
theorem me_list1 (hm : X.mg "list" = none) (ha : MA X ca W (e :: es) ms) (hg : Gl X "list" := by rfl) (he : starEach (e :: es) X.env = (false, eval e X.env) :: starEach es X.env := by rfl) (hpl : (backTo pos (starEach es X.env)).any (·.1) = false := by rfl) : ME X ca W (.Call (.Name "list" p) (e :: es) [] pos) (mCall fList ms) :=
  me_callTy call_list_of cm_list hm (by decide +kernel) ha hg (by decide) (by decide) he hpl
theorem me_tuple1 (hm : X.mg "tuple" = none) (ha : MA X ca W (e :: es) ms) (hg : Gl X "tuple" := by rfl) (he : starEach (e :: es) X.env = (false, eval e X.env) :: starEach es X.env := by rfl) (hpl : (backTo pos (starEach es X.env)).any (·.1) = false := by rfl) : ME X ca W (.Call (.Name "tuple" p) (e :: es) [] pos) (mCall fTuple ms) :=
  me_callTy call_tuple_of cm_tuple hm (by decide +kernel) ha hg (by decide) (by decide) he hpl
theorem me_sum (hc : X.calm = true) (hm : X.mg "sum" = none) (ha : MA X ca W (e :: es) ms) (hg : Gl X "sum" := by rfl) (he : starEach (e :: es) X.env = (false, eval e X.env) :: starEach es X.env := by rfl) (hpl : (backTo pos (starEach es X.env)).any (·.1) = false := by rfl) : ME X ca W (.Call (.Name "sum" p) (e :: es) [] pos) (mCall fSum ms) :=
  me_callB (cr_sum hc) cm_sum hm (by decide +kernel) ha hg (by decide) (by decide) he hpl
theorem me_any (hc : X.calm = true) (hm : X.mg "any" = none) (ha : MA X ca W (e :: es) ms) (hg : Gl X "any" := by rfl) (he : starEach (e :: es) X.env = (false, eval e X.env) :: starEach es X.env := by rfl) (hpl : (backTo pos (starEach es X.env)).any (·.1) = false := by rfl) : ME X ca W (.Call (.Name "any" p) (e :: es) [] pos) (mCall fAny ms) :=
  me_callB (cr_anyD hc) cm_any hm (by decide +kernel) ha hg (by decide) (by decide) he hpl
theorem me_all (hc : X.calm = true) (hm : X.mg "all" = none) (ha : MA X ca W (e :: es) ms) (hg : Gl X "all" := by rfl) (he : starEach (e :: es) X.env = (false, eval e X.env) :: starEach es X.env := by rfl) (hpl : (backTo pos (starEach es X.env)).any (·.1) = false := by rfl) : ME X ca W (.Call (.Name "all" p) (e :: es) [] pos) (mCall fAll ms) :=
  me_callB (cr_allD hc) cm_all hm (by decide +kernel) ha hg (by decide) (by decide) he hpl
theorem CallR.or {v : Value} {r r' : List V → Hp → VK → Prop} (h : CallR X v r) (h' : CallR X v r') : CallR X v (fun xs H Q => r xs H Q ∨ r' xs H Q) := by
  intro pins s σ H xs us Q I rr q
  rcases q with q | q
  · exact h pins s σ H xs us Q I rr q
  · exact h' pins s σ H xs us Q I rr q
theorem me_max (hc : X.calm = true) (hm : X.mg "max" = none) (ha : MA X ca W (e :: es) ms) (hg : Gl X "max" := by rfl) (he : starEach (e :: es) X.env = (false, eval e X.env) :: starEach es X.env := by rfl) (hpl : (backTo pos (starEach es X.env)).any (·.1) = false := by rfl) : ME X ca W (.Call (.Name "max" p) (e :: es) [] pos) (mCall fMax ms) :=
  me_callB (CallR.or (cr_max hc) (call_max2 hc)) cm_max hm (by decide +kernel) ha hg (by decide) (by decide) he hpl
theorem me_min (hc : X.calm = true) (hm : X.mg "min" = none) (ha : MA X ca W (e :: es) ms) (hg : Gl X "min" := by rfl) (he : starEach (e :: es) X.env = (false, eval e X.env) :: starEach es X.env := by rfl) (hpl : (backTo pos (starEach es X.env)).any (·.1) = false := by rfl) : ME X ca W (.Call (.Name "min" p) (e :: es) [] pos) (mCall fMin ms) :=
  me_callB (CallR.or (cr_min hc) (call_min2 hc)) cm_min hm (by decide +kernel) ha hg (by decide) (by decide) he hpl

/-! ### isinstance -/
def rIsiD (K : PySem.W.Frag) (T : String) (g : PyData → Bool) : List V → Hp → VK → Prop := fun xs H Q => ∃ x d, xs = [x, .ty T] ∧ Dp K H x d ∧ Q (.bl (g d)) H
theorem cr_isi {T : String} {g : PyData → Bool} (hi : ∀ (A : Around) (E : Value → Shared → Prop) (s : Shared) (v : Value) (d : PyData) (as : List Addr) (Q : Value → Shared → Prop), Reads s.heap v d as → (∀ tk, s.toks ≤ tk → Q (.bool (g d)) { s with toks := tk }) → wpAny (model X.prog X.w) A (call (.builtin "isinstance") [v, .type T]) Q E s) :
    CallR X (.builtin "isinstance") (rIsiD X.K T g) := by
  intro pins s σ H xs us Q I r h
  obtain ⟨x, d, rfl, hd, q⟩ := h
  cases r with
  | cons r1 r2 =>
    cases r2 with
    | cons r2 r3 =>
      cases r2
      cases r3
      obtain ⟨as, hr⟩ := Dp.reads I d x _ hd r1
      exact hi _ _ _ _ _ _ _ hr fun tk _ => ⟨.bl _, H, I.tok _, rfl, q⟩
def mIsi (g : PyData → Bool) (m : Env → M D) : Env → M D := fun env => M.bind (m env) fun d => if D.sm 60 d = true then M.pure (.bl (g d.toPy)) else M.bad
theorem me_isi {T : String} {y : Str} {p2 : Pos} {g : PyData → Bool} (hi : CallR X (.builtin "isinstance") (rIsiD X.K T g)) (hm : X.mg "isinstance" = none) (ht : X.mg y = none) (hv : bootBuiltins y = some (.type T)) (ha : ME X ca W e m) (hg : Gl X "isinstance" := by rfl) (hg2 : Gl X y := by rfl) (hn : y ≠ "__name__" := by decide) (hdb : (y == ("__debug__" : Str)) = false := by decide)
    (he : starEach (e :: [.Name y p2]) X.env = (false, eval e X.env) :: starEach [.Name y p2] X.env := by rfl) (he2 : starEach [.Name y p2] X.env = (false, eval (.Name y p2) X.env) :: starEach [] X.env := by rfl) (hpl : (backTo pos (starEach [.Name y p2] X.env)).any (·.1) = false := by rfl) :
    ME X ca W (.Call (.Name "isinstance" p) [e, .Name y p2] [] pos) (mIsi g m) :=
  PE.mono (pe_callB hi hg hm (by decide +kernel) (pa_cons ha (pa_cons (pe_bltn (v := .ty T) hg2 ht hv rfl hn hdb) pa_nil he2) he) (by decide) (by decide) he hpl) fun σ H Q h => by
    obtain ⟨w, mh, env, rfl, hw, hfr, hp⟩ := h
    refine stepG (rep := repV X.K) hw hfr hp fun w1 mh1 v1 d1 x1 hw1 hf1 r1 hp1 => ?_
    by_cases c : D.sm 60 d1 = true
    · simp only [c, if_true] at hp1
      exact ⟨_, _, rfl, Rp.dp hw1.subs r1 c, PostG.ret hp1 hw1 (.bl _)⟩
    · simp only [c] at hp1; exact hp1.elim
theorem me_isi_tuple {p2 : Pos} (hm : X.mg "isinstance" = none) (ht : X.mg "tuple" = none) (ha : ME X ca W e m) (hg : Gl X "isinstance" := by rfl) (hg2 : Gl X "tuple" := by rfl)
    (he : starEach (e :: [.Name "tuple" p2]) X.env = (false, eval e X.env) :: starEach [.Name "tuple" p2] X.env := by rfl) (he2 : starEach [.Name "tuple" p2] X.env = (false, eval (.Name "tuple" p2) X.env) :: starEach [] X.env := by rfl) (hpl : (backTo pos (starEach [.Name "tuple" p2] X.env)).any (·.1) = false := by rfl) :
    ME X ca W (.Call (.Name "isinstance" p) [e, .Name "tuple" p2] [] pos) (mIsi PyData.isTuple m) := me_isi (cr_isi fun _ _ _ _ _ _ _ r h => PySem.W.isinstance_tuple_data r h) hm ht (by decide +kernel) ha hg hg2 (by decide) (by decide) he he2 hpl
theorem me_isi_list {p2 : Pos} (hm : X.mg "isinstance" = none) (ht : X.mg "list" = none) (ha : ME X ca W e m) (hg : Gl X "isinstance" := by rfl) (hg2 : Gl X "list" := by rfl)
    (he : starEach (e :: [.Name "list" p2]) X.env = (false, eval e X.env) :: starEach [.Name "list" p2] X.env := by rfl) (he2 : starEach [.Name "list" p2] X.env = (false, eval (.Name "list" p2) X.env) :: starEach [] X.env := by rfl) (hpl : (backTo pos (starEach [.Name "list" p2] X.env)).any (·.1) = false := by rfl) :
    ME X ca W (.Call (.Name "isinstance" p) [e, .Name "list" p2] [] pos) (mIsi PyData.isList m) := me_isi (cr_isi fun _ _ _ _ _ _ _ r h => PySem.W.isinstance_list_data r h) hm ht (by decide +kernel) ha hg hg2 (by decide) (by decide) he he2 hpl
theorem me_isi_int {p2 : Pos} (hm : X.mg "isinstance" = none) (ht : X.mg "int" = none) (ha : ME X ca W e m) (hg : Gl X "isinstance" := by rfl) (hg2 : Gl X "int" := by rfl)
    (he : starEach (e :: [.Name "int" p2]) X.env = (false, eval e X.env) :: starEach [.Name "int" p2] X.env := by rfl) (he2 : starEach [.Name "int" p2] X.env = (false, eval (.Name "int" p2) X.env) :: starEach [] X.env := by rfl) (hpl : (backTo pos (starEach [.Name "int" p2] X.env)).any (·.1) = false := by rfl) :
    ME X ca W (.Call (.Name "isinstance" p) [e, .Name "int" p2] [] pos) (mIsi PyData.isInt m) := me_isi (cr_isi fun _ _ _ _ _ _ _ r h => PySem.W.isinstance_int_data r h) hm ht (by decide +kernel) ha hg hg2 (by decide) (by decide) he he2 hpl
theorem me_isi_bool {p2 : Pos} (hm : X.mg "isinstance" = none) (ht : X.mg "bool" = none) (ha : ME X ca W e m) (hg : Gl X "isinstance" := by rfl) (hg2 : Gl X "bool" := by rfl)
    (he : starEach (e :: [.Name "bool" p2]) X.env = (false, eval e X.env) :: starEach [.Name "bool" p2] X.env := by rfl) (he2 : starEach [.Name "bool" p2] X.env = (false, eval (.Name "bool" p2) X.env) :: starEach [] X.env := by rfl) (hpl : (backTo pos (starEach [.Name "bool" p2] X.env)).any (·.1) = false := by rfl) :
    ME X ca W (.Call (.Name "isinstance" p) [e, .Name "bool" p2] [] pos) (mIsi PyData.isBool m) := me_isi (cr_isi fun _ _ _ _ _ _ _ r h => PySem.W.isinstance_bool_data r h) hm ht (by decide +kernel) ha hg hg2 (by decide) (by decide) he he2 hpl
theorem me_isi_str {p2 : Pos} (hm : X.mg "isinstance" = none) (ht : X.mg "str" = none) (ha : ME X ca W e m) (hg : Gl X "isinstance" := by rfl) (hg2 : Gl X "str" := by rfl)
    (he : starEach (e :: [.Name "str" p2]) X.env = (false, eval e X.env) :: starEach [.Name "str" p2] X.env := by rfl) (he2 : starEach [.Name "str" p2] X.env = (false, eval (.Name "str" p2) X.env) :: starEach [] X.env := by rfl) (hpl : (backTo pos (starEach [.Name "str" p2] X.env)).any (·.1) = false := by rfl) :
    ME X ca W (.Call (.Name "isinstance" p) [e, .Name "str" p2] [] pos) (mIsi PyData.isStr m) := me_isi (cr_isi fun _ _ _ _ _ _ _ r h => PySem.W.isinstance_str_data r h) hm ht (by decide +kernel) ha hg hg2 (by decide) (by decide) he he2 hpl
theorem me_isi_dict {p2 : Pos} (hm : X.mg "isinstance" = none) (ht : X.mg "dict" = none) (ha : ME X ca W e m) (hg : Gl X "isinstance" := by rfl) (hg2 : Gl X "dict" := by rfl)
    (he : starEach (e :: [.Name "dict" p2]) X.env = (false, eval e X.env) :: starEach [.Name "dict" p2] X.env := by rfl) (he2 : starEach [.Name "dict" p2] X.env = (false, eval (.Name "dict" p2) X.env) :: starEach [] X.env := by rfl) (hpl : (backTo pos (starEach [.Name "dict" p2] X.env)).any (·.1) = false := by rfl) :
    ME X ca W (.Call (.Name "isinstance" p) [e, .Name "dict" p2] [] pos) (mIsi PyData.isDict m) := me_isi (cr_isi fun _ _ _ _ _ _ _ r h => PySem.W.isinstance_dict_data r h) hm ht (by decide +kernel) ha hg hg2 (by decide) (by decide) he he2 hpl
end

/-! ### defs -/
def spM (K : PySem.W.Frag) (ca : CA) (n : Nat) (m : LOp) : Sp := fun vs H Q E => ∃ w mh ds, w.H = H ∧ WOk K ca w mh ∧ RpAll K w vs ds ∧ vs.length = n ∧ PostG (repV K) K ca (fun cls d _ H' => E cls d H') [] w (m ds mh) Q
structure FnM (P : Program) (w : World) (K : PySem.W.Frag) (mg : Str → Option Value) (base : Heap) (ca : CA) (k : Nat) (x : Str) (n : Nat) (m : LOp) : Prop where
  ex : ∃ (f : Addr) (fd : FuncData) (ps : List Str), FnOk P w K mg base (L2.CX P w) k f fd ps (spM K ca n m) ∧ mg x = some (.ref f) ∧ PySem.W.keepIn K (.ref f) = true ∧ ∀ us : List Value, us.length = ps.length → bindArgs fd ⟨us, []⟩ = pure (ps.zip us)
section
variable {X : Cx} {ca : CA} {W : WX} {e : Expr} {es : List Expr} {ms : Env → M (List D)} {f : LOp} {x : Str} {p pos : Pos} {n k : Nat}
def mCallN (n : Nat) (f : LOp) (ms : Env → M (List D)) : Env → M D := fun env => M.bind (ms env) fun ds => if ds.length = n then f ds else M.bad
theorem me_call (F : FnM X.prog X.w X.K X.mg X.base ca k x n f) (hr : Room k X.A) (tk : Takes X W) (ha : MA X ca W (e :: es) ms) (hg : Gl X x := by rfl) (hdb : (x == ("__debug__" : Str)) = false := by decide)
    (he : starEach (e :: es) X.env = (false, eval e X.env) :: starEach es X.env := by rfl) (hpl : (backTo pos (starEach es X.env)).any (·.1) = false := by rfl) : ME X ca W (.Call (.Name x p) (e :: es) [] pos) (mCallN n f ms) := by
  obtain ⟨fa, fd, ps, ok, hm, kp, hb⟩ := F.ex
  exact PE.mono (pe_callS ok hr hg hm kp (.all hb) (fun σ => passAt tk σ) ha hdb he hpl) fun σ H Q h => by
    obtain ⟨w, mh, env, rfl, hw, hfr, hp⟩ := h
    refine stepG (rep := repA X.K) hw hfr hp fun w1 mh1 v1 d1 x1 hw1 hf1 r1 hp1 => ?_
    have r1 : RpAll X.K w1 v1 d1 := r1
    by_cases c : d1.length = n
    · simp only [c, if_true] at hp1
      exact ⟨w1, mh1, d1, rfl, hw1, r1, r1.length.trans c, hp1⟩
    · simp only [c, if_false] at hp1; exact hp1.elim
def R.calm {α : Type} : R α → R α
  | .ok a h => .ok a h
  | .exc _ _ => .bad
  | .bad => .bad
  | .pick n k => .pick n fun i => (k i).calm
theorem wpR_calm {α : Type} {r : R α} {Q : α → MH → Prop} {E E' : Nat → MH → Prop} (h : wpR r.calm Q E) : wpR r Q E' := by
  induction r with
  | ok a m => exact h
  | exc c m => exact h.elim
  | bad => exact h
  | pick n k ih => exact ⟨h.1, fun i hi => ih i (h.2 i hi)⟩
def mCall0 (f : LOp) : Env → M D := fun _ h => (f [] h).calm
theorem me_call0 (F : FnM X.prog X.w X.K X.mg X.base ca k x 0 f) (hr : Room k X.A) (hg : Gl X x := by rfl) (hdb : (x == ("__debug__" : Str)) = false := by decide) : ME X ca W (.Call (.Name x p) [] [] pos) (mCall0 f) := by
  obtain ⟨fa, fd, ps, ok, hm, kp, hb⟩ := F.ex
  exact PE.mono (pe_call0 (E := E0) ok hr hg hm kp (.all hb) .nil passL hdb) fun σ H Q h => by
    obtain ⟨w, mh, env, rfl, hw, hfr, hp⟩ := h
    exact ⟨w, mh, [], rfl, hw, .nil, rfl, wpR_calm hp⟩
end
end AG
/-! AgF: what is walked, targets, fresh lists, comprehensions. -/
namespace AG
open PySem L2

/-! ### what is walked -/
structure Serves (K : PySem.W.Frag) (ca : CA) (w : Wd) (J : It) (ds : List D) : Prop where
  go : ∀ w2 mh i, Grow w w2 → WOk K ca w2 mh → i < ds.length → J.go i w2.H
  stop : ∀ w2 mh i, Grow w w2 → WOk K ca w2 mh → ds.length ≤ i → J.stop i w2.H
  yld : ∀ w2 mh i x H', Grow w w2 → WOk K ca w2 mh → i < ds.length → J.yld i w2.H x H' → ∃ d w3, ds[i]? = some d ∧ w3.H = H' ∧ Ext w2 w3 ∧ WOk K ca w3 mh ∧ Rp K w3 x d
theorem PI.mono {X : Cx} {tg e : Expr} {t t' : TI} (h : PI X tg e t) (k : ∀ σ H R, t' σ H R → t σ H R) : PI X tg e t' := ⟨fun pins s σ H R I q => h.run pins s σ H R I (k σ H R q)⟩
abbrev repI (K : PySem.W.Frag) (ca : CA) : Wd → It → List D → Prop := Serves K ca
abbrev MI (X : Cx) (ca : CA) (W : WX) (tg e : Expr) (m : Env → M (List D)) : Prop := PI X tg e (denG (repI X.K ca) X.K ca W m)

section
variable {K : PySem.W.Frag} {ca : CA} {w : Wd} {mh : MH}
theorem serves_lst {a : Addr} {xs : List V} {ds : List D} (h : w.L a = some xs) (r : RpAll K w xs ds) : Serves K ca w (Itl K a) ds where
  go := fun w2 mh i g hw hi => by
    have e := hw.subL _ _ (g.lz _ _ h)
    refine ⟨xs, xs[i]'(by rw [r.length]; exact hi), .of e, List.getElem?_eq_getElem _⟩
  stop := fun w2 mh i g hw hi => ⟨xs, .of (hw.subL _ _ (g.lz _ _ h)), by rw [r.length]; exact hi⟩
  yld := fun w2 mh i x H' g hw hi ⟨e, q⟩ => by
    subst e
    obtain ⟨d, e1, e2⟩ := (r.mono g).getV (q xs (.of (hw.subL _ _ (g.lz _ _ h))))
    exact ⟨d, w2, e1, rfl, Ext.refl _, hw, e2⟩
theorem serves_scr {a : Addr} {ns : List Int} (h : SqL K w.F a (ns.map V.int)) : Serves K ca w (Itl K a) (ns.map D.int) where
  go := fun w2 mh i g hw hi => by
    refine ⟨ns.map V.int, (ns.map V.int)[i]'(by simpa using hi), sqL_mono hw.sub (sqL_mono g.fz h), List.getElem?_eq_getElem _⟩
  stop := fun w2 mh i g hw hi => ⟨ns.map V.int, sqL_mono hw.sub (sqL_mono g.fz h), by simpa using hi⟩
  yld := fun w2 mh i x H' g hw hi ⟨e, q⟩ => by
    subst e
    obtain ⟨d, e1, e2⟩ := (RpAll.ints (w := w2) (K := K) ns).getV (q _ (sqL_mono hw.sub (sqL_mono g.fz h)))
    exact ⟨d, w2, e1, rfl, Ext.refl _, hw, e2⟩
theorem serves_tup {a : Addr} {xs : List V} {ds : List D} (h : SqT K w.F a xs) (r : RpAll K w xs ds) : Serves K ca w (Itt K a) ds where
  go := fun w2 mh i g hw hi => by
    have e := sqT_sub hw.sub (sqT_mono g.fz h)
    exact ⟨xs, xs[i]'(by rw [r.length]; exact hi), e, List.getElem?_eq_getElem _⟩
  stop := fun w2 mh i g hw hi => ⟨xs, sqT_sub hw.sub (sqT_mono g.fz h), by rw [r.length]; exact hi⟩
  yld := fun w2 mh i x H' g hw hi ⟨e, q⟩ => by
    subst e
    obtain ⟨d, e1, e2⟩ := (r.mono g).getV (q xs (sqT_sub hw.sub (sqT_mono g.fz h)))
    exact ⟨d, w2, e1, rfl, Ext.refl _, hw, e2⟩
def rngD (lo : Int) : Nat → List D
  | 0 => []
  | n + 1 => .int lo :: rngD (lo + 1) n
theorem rngD_def : ∀ (n : Nat) (lo : Int), rngD lo n = (List.range n).map fun i => .int (lo + (i : Nat))
  | 0, lo => rfl
  | n + 1, lo => by
    rw [rngD, rngD_def n (lo + 1), List.range_succ_eq_map, List.map_cons, List.map_map]
    refine List.cons_eq_cons.mpr ⟨by simp, List.map_congr_left fun i _ => ?_⟩
    show D.int (lo + 1 + (i : Nat)) = D.int (lo + ((i + 1 : Nat) : Nat))
    congr 1
    omega
theorem serves_rng {lo : Int} {n : Nat} : Serves K ca w (Itr lo n) (rngD lo n) where
  go := fun w2 mh i g hw hi => by
    show i < n
    simpa [rngD_def] using hi
  stop := fun w2 mh i g hw hi => by
    show n ≤ i
    simpa [rngD_def] using hi
  yld := fun w2 mh i x H' g hw hi ⟨e, q⟩ => by
    subst e q
    have hi' : i < n := by simpa [rngD_def] using hi
    exact ⟨.int (lo + i), w2, by simp [rngD_def, hi'], rfl, Ext.refl _, hw, .int _⟩
end
def itemsM (d : D) : M (List D) := match d with | .lst xs => M.pure xs | .tup xs => M.pure xs | .scr ns => M.pure (ns.map .int) | _ => M.bad
def mItems (m : Env → M D) : Env → M (List D) := fun env => M.bind (m env) itemsM
/-! ranges of any size -/
theorem turn_long {P : Program} {w : World} {K : PySem.W.Frag} {tg : Expr} (it : Addr) (lo : Int) (n : Nat) : Turn P w K tg (Itr lo n) [it] it (fun i h => IsLongIter h it (lo + (i : Nat) * 1) ((n : Int) - (i : Nat)) 1) where
  mem := by simp
  obj := fun i h st b hb => by
    have e : b = it := by simpa using hb
    subst e
    exact ⟨_, st, fun v z => by
      have z' : Data.fields _ = Data.cell v := z
      cases z'⟩
  keep := fun i h h' st k => k it (by simp) _ st
  item := by
    intro X hP hw hK hc i pins s σ H E I hf st hg
    subst hP hw hK
    obtain ⟨f0, f1, f2, f3, f4, f5⟩ := hf it (by simp)
    have W := Walks.longrange (prog := X.prog) (w := X.w) (I.ok.hd hc) it lo 1 n
    refine W.item i s _ _ hg st fun v h' tk hv st' kk => ?_
    obtain ⟨t, rfl⟩ := hv
    have I1 : Inv X pins σ H { s with heap := h', toks := tk } := I.turned (fun b o hb e => kk b o (by simpa using hb) e) f0 f1 f3 f4 f5
    refine ⟨_, rfl, go_of (s := { s with heap := h', toks := tk }) (n := "longrange_iterator") st' rfl rfl (by decide) ⟨.int (lo + i), H, I1, ⟨t, ?_⟩, ⟨rfl, rfl⟩, st', fun b hb => (hf b hb).1⟩⟩
    rw [Int.mul_one]
  done := by
    intro X hP hw hK hc i pins s σ H E I hf st hg
    subst hP hw hK
    obtain ⟨f0, f1, f2, f3, f4, f5⟩ := hf it (by simp)
    exact wpAny_pyNext_long_end (I.ok.hd hc) st (by have : n ≤ i := hg; omega) fun h' eb => ⟨rfl, I.turned (t' := s.toks) (fun b o hb e => eb b o hb e) f0 f1 f3 f4 f5⟩
  self := fun _ _ _ _ _ st h => wpAny_pyIter_longiter st h
theorem range_itW {X : Cx} {tg : Expr} {pins : List (Addr × Obj)} {σ : St} {H : Hp} {s : Shared} {R : It → Hp → Prop} {E : Value → Shared → Prop} {lo hi : Int} {t u v : Tok} {tk : Nat} (I : Inv X pins σ H s)
    (q : R (Itr lo (hi - lo).toNat) H) : wpAny (model X.prog X.w) X.A (pyIter (.ref s.heap.objs.size)) (PIE X pins σ tg R) E { s with heap := s.heap.push { cls := .type "range", data := .fields #[.int lo t, .int hi u, .int 1 v] }, toks := tk } := by
  have I1 : Inv X pins σ H { s with heap := s.heap.push { cls := .type "range", data := .fields #[.int lo t, .int hi u, .int 1 v] }, toks := tk } := I.kept fun b o e => Heap.get?_push_of_some _ e
  have e1 : lo + ((0 : Nat) : Int) * 1 = lo := by simp
  have e2 : (((hi - lo).toNat : Nat) : Int) - ((0 : Nat) : Int) = Builtin.Range.rangeSize lo hi 1 := by rw [rangeSize_one]; split <;> omega
  cases sm : Builtin.Range.small lo hi 1 with
  | true =>
    refine wpAny_pyIter_range (IsRange.new ..) sm ?_
    refine ⟨(s.heap.push { cls := .type "range", data := .fields #[.int lo t, .int hi u, .int 1 v] }).objs.size, [(s.heap.push { cls := .type "range", data := .fields #[.int lo t, .int hi u, .int 1 v] }).objs.size], _, _, H, rfl,
      I1.kept (t' := tk) fun b o e => Heap.get?_push_of_some _ e, turn_range _ lo (hi - lo).toNat, ?_, fun b hb => ?_, q⟩
    · show IsRangeIter _ _ (lo + ((0 : Nat) : Int) * 1) ((((hi - lo).toNat : Nat) : Int) - ((0 : Nat) : Int)) 1
      rw [e1, e2]
      exact Heap.get?_push_size _ rfl
    · have e : b = (s.heap.push { cls := .type "range", data := .fields #[.int lo t, .int hi u, .int 1 v] }).objs.size := by simpa using hb
      subst e
      exact I1.fpOk (Nat.le_refl _) (I1.hok.fresh (Nat.le_refl _))
  | false =>
    refine wpAny_pyIter_longrange (IsRange.new ..) sm ?_
    refine ⟨(s.heap.push { cls := .type "range", data := .fields #[.int lo t, .int hi u, .int 1 v] }).objs.size, [(s.heap.push { cls := .type "range", data := .fields #[.int lo t, .int hi u, .int 1 v] }).objs.size], _, _, H, rfl,
      I1.kept (t' := tk) fun b o e => Heap.get?_push_of_some _ e, turn_long _ lo (hi - lo).toNat, ?_, fun b hb => ?_, q⟩
    · show IsLongIter _ _ (lo + ((0 : Nat) : Int) * 1) ((((hi - lo).toNat : Nat) : Int) - ((0 : Nat) : Int)) 1
      rw [e1, e2]
      exact Heap.get?_push_size _ rfl
    · have e : b = (s.heap.push { cls := .type "range", data := .fields #[.int lo t, .int hi u, .int 1 v] }).objs.size := by simpa using hb
      subst e
      exact I1.fpOk (Nat.le_refl _) (I1.hok.fresh (Nat.le_refl _))
def iRng1W (ta : TA) : TI := fun σ H R => ta σ H fun vs H1 => ∃ j : Int, vs = [.int j] ∧ R (Itr 0 j.toNat) H1
theorem pi_range1W {X : Cx} {tg : Expr} {a : Expr} {ta : TA} {p pos : Pos} (hg : Gl X "range") (hm : X.mg "range" = none) (ha : PA X [a] ta) (hs : starEach [a] X.env = [(false, eval a X.env)] := by rfl) : PI X tg (.Call (.Name "range" p) [a] [] pos) (iRng1W ta) := by
  refine ⟨fun pins s σ H R I h => ?_⟩
  refine PyProof.Rows.Call_ (ld_blt I hg hm PyProof.Rows.boot_range (PyProof.Rows.callWith_type1 (thn (ha.run pos pins s σ H _ I h) fun us s1 ⟨vs, H1, I1, r1, q1⟩ => ?_) hs rfl))
  obtain ⟨j, e, q⟩ := q1
  subst e
  cases r1 with
  | cons r rr =>
    cases rr
    obtain ⟨t, rfl⟩ := r
    exact call_range_1 (range_itW I1 (by simpa using q))
def rngOk (i : Int) : Bool := decide (-4611686018427387904 ≤ i) && decide (i < 4611686018427387904)
def rng1M (d : D) : M (List D) := match d with | .int j => M.pure (rngD 0 j.toNat) | _ => M.bad
def rng2M (d e : D) : M (List D) := match d, e with | .int i, .int j => if (rngOk i && rngOk j) = true then M.pure (rngD i (j - i).toNat) else M.bad | _, _ => M.bad
def mRng1 (m : Env → M D) : Env → M (List D) := fun env => M.bind (m env) rng1M
def mRng2 (m m' : Env → M D) : Env → M (List D) := fun env => M.bind (m env) fun x => M.bind (m' env) fun y => rng2M x y
theorem rngOk_of {i : Int} (h : rngOk i = true) : -(2 ^ 62) ≤ i ∧ i < 2 ^ 62 := by
  simp only [rngOk, Bool.and_eq_true, decide_eq_true_eq] at h
  omega

/-- a list or a tuple, walked -/
def iSeq (K : PySem.W.Frag) (tl : TE) : TI := fun σ H R => tl σ H fun x H1 => ∃ a, x = .ref a ∧ (((∃ xs, SqL K H1 a xs) ∧ R (Itl K a) H1) ∨ ((∃ xs, SqT K H1 a xs) ∧ R (Itt K a) H1))
theorem pi_seq {X : Cx} {tg : Expr} {l : Expr} {tl : TE} (hl : PE X l tl) : PI X tg l (iSeq X.K tl) := by
  refine ⟨fun pins s σ H R I h => ?_⟩
  refine thn (hl.run pins s σ H _ I h) fun v s1 ⟨x, H1, I1, r1, q1⟩ => ?_
  obtain ⟨a, e, q⟩ := q1
  subst e
  cases r1
  rcases q with ⟨⟨xs, hq⟩, q⟩ | ⟨⟨xs, hq⟩, q⟩
  · obtain ⟨its, rv, p, hz⟩ := I1.list hq
    refine wpAny_pyIter_list p.isList ?_
    refine ⟨s1.heap.objs.size, [s1.heap.objs.size], _, _, H1, rfl, I1.kept (t' := s1.toks) fun b o e => Heap.get?_push_of_some _ e, turn_list a _, ⟨_, Heap.get?_push_size _ rfl, rfl, rfl⟩, fun b hb => ?_, q⟩
    have e : b = s1.heap.objs.size := by simpa using hb
    subst e
    exact I1.fpOk (Nat.le_refl _) (I1.hok.fresh (Nat.le_refl _))
  · obtain ⟨its, rv, p, hz⟩ := I1.tuple hq
    refine wpAny_pyIter_tuple (show s1.heap.IsTuple a its.toArray from p) ?_
    refine ⟨s1.heap.objs.size, [s1.heap.objs.size], _, _, H1, rfl, I1.kept (t' := s1.toks) fun b o e => Heap.get?_push_of_some _ e, turn_tuple a _, ⟨_, Heap.get?_push_size _ rfl, rfl, rfl⟩, fun b hb => ?_, q⟩
    have e : b = s1.heap.objs.size := by simpa using hb
    subst e
    exact I1.fpOk (Nat.le_refl _) (I1.hok.fresh (Nat.le_refl _))
section
variable {X : Cx} {ca : CA} {W : WX} {tg e a b : Expr} {m : Env → M D} {ms : Env → M (List D)} {p pos : Pos}
theorem mi_seq (h : ME X ca W e m) : MI X ca W tg e (mItems m) :=
  PI.mono (pi_seq h) fun σ H R q => by
    obtain ⟨w, mh, env, rfl, hw, hf, hp⟩ := q
    refine stepG (rep := repV X.K) hw hf hp fun w1 mh1 v1 d1 x1 hw1 hf1 r1 hp1 => ?_
    cases r1 with
    | tup h r => exact ⟨_, rfl, .inr ⟨⟨_, sqT_sub hw1.sub h⟩, PostG.ret hp1 hw1 (serves_tup h r)⟩⟩
    | lst h r => exact ⟨_, rfl, .inl ⟨⟨_, .of (hw1.subL _ _ h)⟩, PostG.ret hp1 hw1 (serves_lst h r)⟩⟩
    | scr h l => exact ⟨_, rfl, .inl ⟨⟨_, sqL_mono hw1.sub h⟩, PostG.ret hp1 hw1 (serves_scr h)⟩⟩
    | _ => exact hp1.elim
theorem mi_rng1 (hm : X.mg "range" = none) (ha : ME X ca W a m) (hg : Gl X "range" := by rfl) (hs : starEach [a] X.env = [(false, eval a X.env)] := by rfl) : MI X ca W tg (.Call (.Name "range" p) [a] [] pos) (mRng1 m) :=
  PI.mono (pi_range1W hg hm (pa_cons ha pa_nil hs) hs) fun σ H R q => by
    obtain ⟨w, mh, env, rfl, hw, hf, hp⟩ := q
    refine stepG (rep := repV X.K) hw hf hp fun w1 mh1 v1 d1 x1 hw1 hf1 r1 hp1 => ?_
    cases r1 <;> first | exact hp1.elim | skip
    rename_i j
    exact ⟨j, rfl, PostG.ret hp1 hw1 serves_rng⟩
theorem mi_rng2 {m' : Env → M D} (hm : X.mg "range" = none) (ha : ME X ca W a m) (hb : ME X ca W b m') (hg : Gl X "range" := by rfl) (hs : starEach [a, b] X.env = [(false, eval a X.env), (false, eval b X.env)] := by rfl) (hs2 : starEach [b] X.env = [(false, eval b X.env)] := by rfl) : MI X ca W tg (.Call (.Name "range" p) [a, b] [] pos) (mRng2 m m') :=
  PI.mono (pi_range2 hg hm (pa_cons ha (pa_cons hb pa_nil hs2) (by rw [hs, hs2])) hs hs2) fun σ H R q => by
    obtain ⟨w, mh, env, rfl, hw, hf, hp⟩ := q
    refine stepG (rep := repV X.K) hw hf hp fun w1 mh1 v1 d1 x1 hw1 hf1 r1 hp1 => ?_
    refine stepG (rep := repV X.K) hw1 hf1 hp1 fun w2 mh2 v2 d2 x2 hw2 hf2 r2 hp2 => ?_
    cases r1 <;> cases r2 <;> first | exact hp2.elim | skip
    rename_i i j
    by_cases c : (rngOk i && rngOk j) = true
    · simp only [rng2M, c, if_true] at hp2
      have c' : rngOk i = true ∧ rngOk j = true := by simpa using c
      exact ⟨i, j, rfl, ⟨(rngOk_of c'.1).1, (rngOk_of c'.1).2, (rngOk_of c'.2).1, (rngOk_of c'.2).2⟩, PostG.ret hp2 hw2 serves_rng⟩
    · simp only [rng2M, c] at hp2; exact hp2.elim
end

/-! ### targets -/
abbrev Tgt := D → Env → Option Env
def tgName (i : Nat) : Tgt := fun d env => some (env.set i (.v d))
def tgTup : List Tgt → Tgt := fun ts d env => match d with
  | .tup ds => if ds.length = ts.length then (ts.zip ds).foldl (fun o p => o.bind (p.1 p.2)) (some env) else none
  | _ => none
/-- the lists of one's own were so before -/
def OwnBack (env' : Env) (σ' : St) (env : Env) (σ : St) : Prop := ∀ (i : Nat) (ds : List D) (a : Addr), env'[i]? = some (Slot.own ds) → σ'[i]? = some (some (V.ref a)) → env[i]? = some (Slot.own ds) ∧ σ[i]? = some (some (V.ref a))
/-- g does what t says, and touches the slots vs alone -/
def GOk (K : PySem.W.Frag) (g : TG) (t : Tgt) (vs : List Nat) : Prop := ∀ (w : Wd) (v : V) (d : D) (env env' : Env) (σ : St) (Q : St → Hp → Prop), Subs w → Rp K w v d → FrOk K w env σ → t d env = some env' →
  (∀ σ', FrOk K w env' σ' → wipe σ' vs = wipe σ vs → OwnBack env' σ' env σ → Q σ' w.H) → g v σ w.H Q
def GsOk (K : PySem.W.Frag) (g : TGs) (ts : List Tgt) (vs : List Nat) : Prop := ∀ (w : Wd) (us : List V) (ds : List D) (env env' : Env) (σ : St) (Q : St → Hp → Prop), Subs w → RpAll K w us ds → ds.length = ts.length → FrOk K w env σ → (ts.zip ds).foldl (fun o p => o.bind (p.1 p.2)) (some env) = some env' →
  (∀ σ', FrOk K w env' σ' → wipe σ' vs = wipe σ vs → OwnBack env' σ' env σ → Q σ' w.H) → g us σ w.H Q
section
variable {K : PySem.W.Frag} {w : Wd} {env : Env} {σ : St}
theorem getElem?_setS {α : Type} {l : List α} {i j : Nat} {x : α} : (l.set i x)[j]? = if i = j then (if j < l.length then some x else none) else l[j]? := by
  rw [List.getElem?_set]
  by_cases h : i = j
  · subst h; simp
  · simp [h]
theorem FrOk.set (hf : FrOk K w env σ) {i : Nat} {v : V} {d : D} (r : Rp K w v d) : FrOk K w (env.set i (.v d)) (σ.set i (some v)) := by
  refine ⟨by simp [hf.len], fun j e h => ?_, fun j ds h => ?_, fun j k ds es a ne h1 h2 h3 => ?_⟩
  · by_cases ij : i = j
    · subst ij
      rw [getElem?_setS, if_pos rfl] at h
      by_cases l : i < env.length
      · rw [if_pos l] at h
        cases h
        exact ⟨v, by rw [getElem?_setS, if_pos rfl, if_pos (by rw [hf.len]; exact l)], r⟩
      · rw [if_neg l] at h; cases h
    · rw [getElem?_setS, if_neg ij] at h
      obtain ⟨u, e1, e2⟩ := hf.v j e h
      exact ⟨u, by rw [getElem?_setS, if_neg ij]; exact e1, e2⟩
  · by_cases ij : i = j
    · subst ij
      rw [getElem?_setS, if_pos rfl] at h
      split at h <;> cases h
    · rw [getElem?_setS, if_neg ij] at h
      obtain ⟨a, e1, e2⟩ := hf.own j ds h
      exact ⟨a, by rw [getElem?_setS, if_neg ij]; exact e1, e2⟩
  · by_cases ij : i = j
    · subst ij
      rw [getElem?_setS, if_pos rfl] at h1
      split at h1 <;> cases h1
    · by_cases ik : i = k
      · subst ik
        rw [getElem?_setS, if_pos rfl] at h2
        split at h2 <;> cases h2
      · rw [getElem?_setS, if_neg ij] at h1 h3
        rw [getElem?_setS, if_neg ik] at h2 ⊢
        exact hf.sep j k ds es a ne h1 h2 h3
theorem wipe_set_in {σ : St} {i : Nat} {x : Option V} : ∀ {vs : List Nat}, i ∈ vs → wipe (σ.set i x) vs = wipe σ vs
  | [], h => by cases h
  | v :: vs, h => by
    by_cases q : i ∈ vs
    · unfold wipe; rw [wipe_set_in q]
    · have e : i = v := by
        rcases List.mem_cons.mp h with h | h
        · exact h
        · exact absurd h q
      subst e
      unfold wipe
      have : ∀ us : List Nat, i ∉ us → wipe (σ.set i x) us = (wipe σ us).set i x := by
        intro us
        induction us with
        | nil => intro _; rfl
        | cons u us ih =>
          intro hu
          have h1 : i ≠ u := fun e => hu (by rw [e]; exact List.mem_cons_self)
          have h2 : i ∉ us := fun z => hu (List.mem_cons_of_mem _ z)
          unfold wipe
          rw [ih h2, List.set_comm _ _ h1]
      rw [this vs q, List.set_set]
theorem gok_name {i : Nat} {vs : List Nat} (h : i ∈ vs) : GOk K (gName i) (tgName i) vs := by
  intro w v d env env' σ Q hs r hf e k
  cases e
  refine k _ (hf.set r) (wipe_set_in h) fun j ds a h1 h2 => ?_
  by_cases ij : i = j
  · subst ij
    rw [getElem?_setS, if_pos rfl] at h1
    split at h1 <;> cases h1
  · rw [getElem?_setS, if_neg ij] at h1 h2
    exact ⟨h1, h2⟩
theorem gsok_nil {vs : List Nat} : GsOk K gNil [] vs := by
  intro w us ds env env' σ Q hs r hl hf e k
  cases ds with
  | nil =>
    cases r
    cases e
    exact ⟨rfl, k _ hf rfl fun _ _ _ a b => ⟨a, b⟩⟩
  | cons d ds => simp at hl
theorem foldl_none {α : Type} {l : List α} {f : α → Env → Option Env} : l.foldl (fun o p => o.bind (f p)) none = none := by
  induction l with
  | nil => rfl
  | cons a l ih => exact ih
theorem gsok_cons {g : TG} {u : TGs} {t : Tgt} {ts : List Tgt} {vs : List Nat} (h1 : GOk K g t vs) (h2 : GsOk K u ts vs) : GsOk K (gCons g u) (t :: ts) vs := by
  intro w us ds env env' σ Q hs r hl hf e k
  cases ds with
  | nil => simp at hl
  | cons d ds =>
    cases r with
    | cons rv rr =>
      refine ⟨_, _, rfl, ?_⟩
      simp only [List.zip_cons_cons, List.foldl_cons, Option.bind_some] at e
      cases q : t d env with
      | none => rw [q, foldl_none (f := fun p : Tgt × D => p.1 p.2)] at e; cases e
      | some env1 =>
        rw [q] at e
        refine h1 w _ d env env1 σ _ hs rv hf q fun σ1 f1 w1 o1 => ?_
        refine h2 w _ ds env1 env' σ1 Q hs rr (by simpa using hl) f1 e fun σ2 f2 w2 o2 => k σ2 f2 (w2.trans w1) fun i es a z1 z2 => ?_
        obtain ⟨z3, z4⟩ := o2 i es a z1 z2
        exact o1 i es a z3 z4
theorem gok_tup {n : Nat} {u : TGs} {ts : List Tgt} {vs : List Nat} (hn : n = ts.length) (h : GsOk K u ts vs) : GOk K (gTup K n u) (tgTup ts) vs := by
  intro w v d env env' σ Q hs r hf e k
  cases r <;> try (simp [tgTup] at e; done)
  rename_i a xs ds hq r
  simp only [tgTup] at e
  split at e
  · rename_i hl
    exact ⟨a, xs, rfl, sqT_sub hs.f hq, by rw [r.length, hl, hn], h w xs ds env env' σ Q hs r hl hf e k⟩
  · cases e
end
end AG
/-! AgG: fresh lists, comprehensions. -/
namespace AG
open PySem L2

section
variable {K : PySem.W.Frag} {ca : CA} {W : WX} {w w1 : Wd} {env : Env} {σ : St} {mh : MH}
/-- what is wanted of an exception -/
def ExP (K : PySem.W.Frag) (ca : CA) (W : WX) (σ : St) (w : Wd) : Nat → MH → Prop := fun cl mh => ∀ w', Ext w w' → WOk K ca w' mh → W (.ref (ca cl)) none σ w'.H
theorem stepX {α β α2 : Type} {rep : Wd → β → α → Prop} {ma : Env → M α} {f : α → M α2} {Z : α2 → MH → Prop} {Ex : Nat → MH → Prop} {K1 : β → Hp → Prop} (hw : WOk K ca w mh) (hf : FrOk K w env σ) (hp : wpR (M.bind (ma env) f mh) Z Ex)
    (hex : ∀ cl mh, Ex cl mh → ∀ w', Ext w w' → WOk K ca w' mh → W (.ref (ca cl)) none σ w'.H)
    (k : ∀ w1 mh1 v d, Ext w w1 → WOk K ca w1 mh1 → FrOk K w1 env σ → rep w1 v d → wpR (f d mh1) Z Ex → K1 v w1.H) : denG rep K ca W ma σ w.H K1 :=
  ⟨w, mh, env, rfl, hw, hf, wpR_mono (wpR_bind.mp hp) (fun d mh' q w1 v x hw1 r => k w1 mh' v d x hw1 (hf.ext x) r q) hex⟩

def PostF (K : PySem.W.Frag) (ca : CA) (W : WX) (σ : St) (w : Wd) (r : R (List D)) (Q : VK) : Prop :=
  wpR r (fun ds mh => ∀ w' p, Ext w w' → WOk K ca w' mh → w.H p = none → Own K w' p ds → Q (.ref p) w'.H) (ExP K ca W σ w)
def denF (K : PySem.W.Frag) (ca : CA) (W : WX) (m : Env → M (List D)) : TE := fun σ H Q => ∃ w mh env, w.H = H ∧ WOk K ca w mh ∧ FrOk K w env σ ∧ PostF K ca W σ w (m env mh) Q
abbrev MF (X : Cx) (ca : CA) (W : WX) (e : Expr) (m : Env → M (List D)) : Prop := PE X e (denF X.K ca W m)

/-- the thing at p is written: no one's but one's own -/
theorem WOk.wr (hw : WOk K ca w mh) {p : Addr} {o : HO} (hF : w.F p = none) (hL : w.L p = none) (hr : p ∉ w.ρ) : WOk K ca (w.put p o) mh := by
  refine ⟨fun a u h => ?_, fun a xs h => ?_, hw.len, hw.nd, fun n a mo h1 h2 => ?_⟩
  · have h' : w.F a = some u := h
    have ne : a ≠ p := fun e => by subst e; rw [hF] at h'; cases h'
    show upd w.H p o a = some u
    rw [upd_ne ne]
    exact hw.sub _ _ h'
  · have h' : w.L a = some xs := h
    have ne : a ≠ p := fun e => by subst e; rw [hL] at h'; cases h'
    show upd w.H p o a = some (.lst xs)
    rw [upd_ne ne]
    exact hw.subL _ _ h'
  · obtain ⟨f, l, q⟩ := hw.obj n a mo h1 h2
    have ne : a ≠ p := fun e => by subst e; exact hr (List.mem_of_getElem? h1)
    exact ⟨f, l, q.grow (fun u z => by show upd w.H p o a = some u; rw [upd_ne ne]; exact z) ⟨⟨[], by simp [Wd.put]⟩, fun _ _ h => h, fun _ _ h => h⟩⟩
theorem Ext.wr {w0 : Wd} (x : Ext w0 w) {p : Addr} {o : HO} (hn : w0.H p = none) : Ext w0 (w.put p o) := by
  refine ⟨x.rho, x.fz, x.lz, fun a u h hr => ?_, x.nf, x.nl, fun a h => ?_⟩
  · have ne : a ≠ p := fun e => by subst e; rw [hn] at h; cases h
    show upd w.H p o a = some u
    rw [upd_ne ne]
    exact x.kp _ _ h hr
  · by_cases e : a = p
    · subst e; exact hn
    · have h : upd w.H p o a = none := h
      rw [upd_ne e] at h
      exact x.th a h
theorem put_grow {p : Addr} {o : HO} : Grow w (w.put p o) := ⟨⟨[], by simp [Wd.put]⟩, fun _ _ h => h, fun _ _ h => h⟩
theorem Own.put {p : Addr} {vs : List V} {ds : List D} (hF : w.F p = none) (hL : w.L p = none) (hr : p ∉ w.ρ) (r : RpAll K w vs ds) : Own K (w.put p (.lst vs)) p ds :=
  ⟨⟨vs, upd_same, r.mono put_grow⟩, hF, hL, hr⟩
/-- a new list -/
theorem PostF.new {ds : List D} {vs : List V} {Q : VK} {w0 : Wd} (h : ∀ w' p, Ext w0 w' → WOk K ca w' mh → w0.H p = none → Own K w' p ds → Q (.ref p) w'.H) (x : Ext w0 w) (hw : WOk K ca w mh) (r : RpAll K w vs ds) : ∀ p, w.H p = none → Q (.ref p) (upd w.H p (.lst vs)) := fun p hp =>
  h (w.put p (.lst vs)) p (x.trans (Ext.put hw hp)) (hw.put hp) (x.th p hp) (Own.put (hw.fnone hp) (hw.lnone hp) (hw.nrho hp) r)

/-- one's own list is not written any more -/
def Wd.lock (w : Wd) (p : Addr) (vs : List V) : Wd := ⟨w.ρ, w.F, updL w.L p vs, w.H⟩
theorem lock_grow {p : Addr} {vs : List V} (hL : w.L p = none) : Grow w (w.lock p vs) := ⟨⟨[], by simp [Wd.lock]⟩, fun _ _ h => h, fun a u h => by
  show updL w.L p vs a = some u
  rw [updL_ne (fun e => by subst e; rw [hL] at h; cases h)]
  exact h⟩
theorem WOk.lock (hw : WOk K ca w mh) {p : Addr} {vs : List V} (hH : w.H p = some (.lst vs)) (hL : w.L p = none) (hr : p ∉ w.ρ) : WOk K ca (w.lock p vs) mh := by
  refine ⟨hw.sub, fun a xs h => ?_, hw.len, hw.nd, fun n a mo h1 h2 => ?_⟩
  · have h : updL w.L p vs a = some xs := h
    by_cases e : a = p
    · subst e; rw [updL_same] at h; cases h; exact hH
    · rw [updL_ne e] at h; exact hw.subL _ _ h
  · obtain ⟨f, l, q⟩ := hw.obj n a mo h1 h2
    have ne : a ≠ p := fun e => by subst e; exact hr (List.mem_of_getElem? h1)
    exact ⟨f, by show updL w.L p vs a = none; rw [updL_ne ne]; exact l, q.grow (fun u z => z) (lock_grow hL)⟩
theorem Ext.lock {w0 : Wd} (x : Ext w0 w) {p : Addr} {vs : List V} (hn : w0.H p = none) (hL : w.L p = none) : Ext w0 (w.lock p vs) := by
  refine ⟨x.rho, x.fz, fun a u h => (lock_grow hL).lz a u (x.lz a u h), x.kp, x.nf, fun a u h => ?_, x.th⟩
  have h : updL w.L p vs a = some u := h
  by_cases e : a = p
  · subst e; exact .inr hn
  · rw [updL_ne e] at h; exact x.nl a u h
end

def mFrz (m : Env → M (List D)) : Env → M D := fun env => M.bind (m env) fun ds => M.pure (.lst ds)
section
variable {X : Cx} {ca : CA} {W : WX} {e : Expr} {es : List Expr} {m : Env → M (List D)} {ms : Env → M (List D)} {pos : Pos}
theorem me_of_mf (h : MF X ca W e m) : ME X ca W e (mFrz m) := PE.mono h fun σ H Q q => by
  obtain ⟨w, mh, env, rfl, hw, hf, hp⟩ := q
  refine ⟨w, mh, env, rfl, hw, hf, ?_⟩
  refine wpR_mono (wpR_bind.mp hp) (fun ds mh' q w' p x hw' hn o => ?_) fun _ _ q => q
  obtain ⟨vs, hH, r⟩ := o.at'
  exact q (w'.lock p vs) (.ref p) (x.lock hn o.nL) (hw'.lock hH o.nL o.nr) (.lst updL_same (r.mono (lock_grow o.nL)))
def mLstF (ms : Env → M (List D)) : Env → M (List D) := fun env => M.bind (ms env) fun xs => if xs.length ≤ 16777216 then M.pure xs else M.bad
theorem mf_lst (h : MA X ca W es ms) : MF X ca W (.List es pos) (mLstF ms) :=
  PE.mono (pe_lst h) fun σ H Q h => by
    obtain ⟨w, mh, env, rfl, hw, hf, hp⟩ := h
    refine stepX (rep := repA X.K) hw hf hp (fun _ _ q => q) fun w1 mh1 v1 d1 x1 hw1 hf1 r1 hp1 => ?_
    have r1 : RpAll X.K w1 v1 d1 := r1
    by_cases q : d1.length ≤ 16777216
    · simp only [q, if_true] at hp1
      exact ⟨by rw [r1.length, sizeLine_lit]; exact q, PostF.new hp1 x1 hw1 r1⟩
    · simp only [q, if_false] at hp1; exact hp1.elim
def itemsF (ds : List D) : M (List D) := match ds with | [d] => itemsM d | _ => M.bad
def mListF (ms : Env → M (List D)) : Env → M (List D) := fun env => M.bind (ms env) itemsF
theorem mf_list1 {p : Pos} (hm : X.mg "list" = none) (ha : MA X ca W (e :: es) ms) (hg : Gl X "list" := by rfl) (he : starEach (e :: es) X.env = (false, eval e X.env) :: starEach es X.env := by rfl) (hpl : (backTo pos (starEach es X.env)).any (·.1) = false := by rfl) :
    MF X ca W (.Call (.Name "list" p) (e :: es) [] pos) (mListF ms) :=
  PE.mono (pe_callTy call_list_of hg hm (by decide +kernel) ha (by decide) (by decide) he hpl) fun σ H Q h => by
    obtain ⟨w, mh, env, rfl, hw, hf, hp⟩ := h
    refine stepX (rep := repA X.K) hw hf hp (fun _ _ q => q) fun w1 mh1 v1 d1 x1 hw1 hf1 r1 hp1 => ?_
    have r1 : RpAll X.K w1 v1 d1 := r1
    match d1, r1, hp1 with
    | [.tup ys], r1, hp1 =>
      obtain ⟨x, rfl, q⟩ := r1.one
      cases q with
      | tup h1 h2 => exact ⟨_, _, rfl, .inr (sqT_sub hw1.sub h1), PostF.new hp1 x1 hw1 h2⟩
    | [.lst ys], r1, hp1 =>
      obtain ⟨x, rfl, q⟩ := r1.one
      cases q with
      | lst h1 h2 => exact ⟨_, _, rfl, .inl (.of (hw1.subL _ _ h1)), PostF.new hp1 x1 hw1 h2⟩
    | [], r1, hp1 => exact hp1.elim
    | _ :: _ :: _, r1, hp1 => exact hp1.elim
    | [.non], r1, hp1 => exact hp1.elim
    | [.bl _], r1, hp1 => exact hp1.elim
    | [.int _], r1, hp1 => exact hp1.elim
    | [.str _], r1, hp1 => exact hp1.elim
    | [.ref _], r1, hp1 => exact hp1.elim
    | [.scr ns], r1, hp1 =>
      obtain ⟨x, rfl, q⟩ := r1.one
      cases q with
      | scr h1 h2 => exact ⟨_, _, rfl, .inl (sqL_mono hw1.sub h1), PostF.new hp1 x1 hw1 (RpAll.ints ns)⟩
end

/-! ### comprehensions -/
def wipeE (env : Env) : List Nat → Env
  | [] => env
  | v :: vs => (wipeE env vs).set v .no
def compF (t : Tgt) (tt : Env → M Bool) (te : Env → M D) (env : Env) : List D → M (List D)
  | [] => M.pure []
  | x :: xs => match t x env with
    | some env1 => M.bind (tt env1) fun b => if b = true then M.bind (te env1) fun y => M.bind (compF t tt te env xs) fun ys => M.pure (y :: ys) else compF t tt te env xs
    | none => M.bad
def mLc (mi : Env → M (List D)) (t : Tgt) (tt : Env → M Bool) (te : Env → M D) (vs : List Nat) : Env → M (List D) :=
  fun env => M.bind (mi env) fun xs => if xs.length ≤ 16777216 then (fun h => (compF t tt te (wipeE env vs) xs h).calm) else M.bad
theorem set_wipe {i : Nat} : ∀ {σ : St} {vs : List Nat}, i ∈ vs → (L2.wipe σ vs).set i none = L2.wipe σ vs
  | σ, [], h => by cases h
  | σ, v :: vs, h => by
    unfold L2.wipe
    by_cases e : i = v
    · subst e; rw [List.set_set]
    · rw [List.set_comm _ _ (Ne.symm e)]
      rcases List.mem_cons.mp h with h | h
      · exact absurd h e
      · rw [set_wipe h]
theorem wipe_wipe {σ : St} {vs : List Nat} : L2.wipe (L2.wipe σ vs) vs = L2.wipe σ vs := by
  have : ∀ us : List Nat, (∀ i ∈ us, i ∈ vs) → L2.wipe (L2.wipe σ vs) us = L2.wipe σ vs := by
    intro us
    induction us with
    | nil => intro _; rfl
    | cons u us ih =>
      intro h
      show (L2.wipe (L2.wipe σ vs) us).set u none = L2.wipe σ vs
      rw [ih fun i hi => h i (List.mem_cons_of_mem _ hi)]
      exact set_wipe (h u List.mem_cons_self)
  exact this vs fun _ h => h
def mYes : Env → M Bool := fun _ => M.pure true
def W0 : WX := fun _ _ _ _ => False
section
variable {K : PySem.W.Frag} {w : Wd} {env : Env} {σ : St}
theorem FrOk.unset (hf : FrOk K w env σ) (i : Nat) : FrOk K w (env.set i .no) (σ.set i none) := by
  refine ⟨by simp [hf.len], fun j e h => ?_, fun j ds h => ?_, fun j k ds es a ne h1 h2 h3 => ?_⟩
  · by_cases ij : i = j
    · subst ij
      rw [getElem?_setS, if_pos rfl] at h
      split at h <;> cases h
    · rw [getElem?_setS, if_neg ij] at h
      obtain ⟨u, e1, e2⟩ := hf.v j e h
      exact ⟨u, by rw [getElem?_setS, if_neg ij]; exact e1, e2⟩
  · by_cases ij : i = j
    · subst ij
      rw [getElem?_setS, if_pos rfl] at h
      split at h <;> cases h
    · rw [getElem?_setS, if_neg ij] at h
      obtain ⟨a, e1, e2⟩ := hf.own j ds h
      exact ⟨a, by rw [getElem?_setS, if_neg ij]; exact e1, e2⟩
  · by_cases ij : i = j
    · subst ij
      rw [getElem?_setS, if_pos rfl] at h1
      split at h1 <;> cases h1
    · by_cases ik : i = k
      · subst ik
        rw [getElem?_setS, if_pos rfl] at h2
        split at h2 <;> cases h2
      · rw [getElem?_setS, if_neg ij] at h1 h3
        rw [getElem?_setS, if_neg ik] at h2 ⊢
        exact hf.sep j k ds es a ne h1 h2 h3
theorem FrOk.wipe (hf : FrOk K w env σ) : ∀ vs : List Nat, FrOk K w (wipeE env vs) (L2.wipe σ vs)
  | [] => hf
  | v :: vs => by unfold wipeE L2.wipe; exact (FrOk.wipe hf vs).unset v
end
theorem PTs.mono {X : Cx} {ifs : List Expr} {t t' : TT} (h : PTs X ifs t) (k : ∀ σ H Q, t' σ H Q → t σ H Q) : PTs X ifs t' := ⟨fun pins s σ H Q I q => h.run pins s σ H Q I (k σ H Q q)⟩
abbrev MTs (X : Cx) (ca : CA) (W : WX) (ifs : List Expr) (m : Env → M Bool) : Prop := PTs X ifs (denG repB X.K ca W m)
theorem mts_nil {X : Cx} {ca : CA} {W : WX} : MTs X ca W [] mYes := PTs.mono pts_nil fun σ H Q h => by
  obtain ⟨w, mh, env, rfl, hw, hf, hp⟩ := h
  exact PostG.ret (rep := repB) hp hw rfl
theorem mts_one {X : Cx} {ca : CA} {W : WX} {c : Expr} {m : Env → M Bool} (h : MT X ca W c m) : MTs X ca W [c] m := pts_one h

theorem lc_read {K : PySem.W.Frag} {ca : CA} {W : WX} {vs : List Nat} {mi : Env → M (List D)} {g : TG} {t : Tgt} {tt : Env → M Bool} {te : Env → M D} (hgk : GOk K g t vs) {σ : St} {H : Hp} {Q : VK} (h : denF K ca W (mLc mi t tt te vs) σ H Q) :
    tLc (denG (repI K ca) K ca W mi) g (denG repB K ca W0 tt) (denG (repV K) K ca W0 te) vs σ H Q := by
  obtain ⟨w, mh, env, rfl, hw, hf, hp⟩ := h
  refine stepX (rep := repI K ca) hw hf hp (fun _ _ q => q) fun w1 mh1 J xs x1 hw1 hf1 S hp1 => ?_
  have S : Serves K ca w1 J xs := S
  by_cases hl : xs.length ≤ 16777216
  case neg => simp only [hl, if_false] at hp1; exact hp1.elim
  simp only [hl, if_true] at hp1
  have hp1 := wpR_calm (E' := fun _ _ => False) hp1
  intro L hL
  refine ⟨fun i m H => m = xs.length - i ∧ i ≤ xs.length ∧ ∃ w2 mh2 dacc, w2.H = H ∧ Ext w1 w2 ∧ WOk K ca w2 mh2 ∧ Own K w2 L dacc ∧ dacc.length ≤ i ∧
    wpR (compF t tt te (wipeE env vs) (xs.drop i) mh2) (fun ys mh3 => ∀ w' p, Ext w w' → WOk K ca w' mh3 → w.H p = none → Own K w' p (dacc ++ ys) → Q (.ref p) w'.H) (fun _ _ => False), ⟨xs.length, by simp, Nat.zero_le _, w1.put L (.lst []), mh1, [], rfl, Ext.put hw1 hL, hw1.put hL, Own.put (hw1.fnone hL) (hw1.lnone hL) (hw1.nrho hL) .nil, Nat.zero_le _, by simpa using hp1⟩, ?_⟩
  rintro i m H ⟨rfl, hi, w2, mh2, dacc, rfl, x2, hw2, o2, hd, hp2⟩
  have fr2 := (hf1.ext x2).wipe vs
  by_cases hlt : i < xs.length
  · refine .inr ⟨S.go w2 mh2 i x2.grow hw2 hlt, fun H' => ∃ w4 mh4 dacc', w4.H = H' ∧ Ext w1 w4 ∧ WOk K ca w4 mh4 ∧ Own K w4 L dacc' ∧ dacc'.length ≤ i + 1 ∧
      wpR (compF t tt te (wipeE env vs) (xs.drop (i + 1)) mh4) (fun ys mh3 => ∀ w' p, Ext w w' → WOk K ca w' mh3 → w.H p = none → Own K w' p (dacc' ++ ys) → Q (.ref p) w'.H) (fun _ _ => False), fun H' q => ?_, fun x H' y => ?_⟩
    · exact ⟨xs.length - (i + 1), by omega, rfl, hlt, q⟩
    · obtain ⟨d, w3, e3, rfl, x3, hw3, r3⟩ := S.yld w2 mh2 i x H' x2.grow hw2 hlt y
      rw [List.drop_eq_getElem_cons hlt] at hp2
      have e3' : xs[i] = d := by rw [List.getElem?_eq_getElem hlt] at e3; exact Option.some.inj e3
      rw [e3'] at hp2
      cases q : t d (wipeE env vs) with
      | none => simp only [compF, q] at hp2; exact hp2.elim
      | some env1 =>
        simp only [compF, q] at hp2
        refine hgk w3 x d _ env1 _ _ hw3.subs r3 (fr2.ext x3) q fun σ1 f1 we _ => ⟨we.trans wipe_wipe, ?_⟩
        refine stepX (rep := repB) hw3 f1 hp2 (fun _ _ z => z.elim) fun w4 mh4 b b' x4 hw4 hf4 rb hp4 => ?_
        have rb : b = b' := rb
        subst rb
        have o4 := o2.ext (x3.trans x4)
        have x14 := x2.trans (x3.trans x4)
        cases b with
        | false =>
          simp only [Bool.false_eq_true, if_false] at hp4 ⊢
          exact ⟨w4, mh4, dacc, rfl, x14, hw4, o4, by omega, hp4⟩
        | true =>
          simp only [if_true] at hp4 ⊢
          refine stepX (rep := repV K) hw4 hf4 hp4 (fun _ _ z => z.elim) fun w5 mh5 v5 d5 x5 hw5 hf5 r5 hp5 => ?_
          have o5 := o4.ext x5
          obtain ⟨vs, hH, rr⟩ := o5.at'
          have r5 : Rp K w5 v5 d5 := r5
          refine ⟨vs, hH, by rw [rr.length, sizeLine_lit]; omega, w5.put L (.lst (vs ++ [v5])), mh5, dacc ++ [d5], rfl, (x14.trans x5).wr hL, hw5.wr o5.nF o5.nL o5.nr, Own.put o5.nF o5.nL o5.nr (rr.append (.cons r5 .nil)), by simp; omega, ?_⟩
          refine wpR_mono (wpR_bind.mp hp5) (fun ys mh6 z w' p a1 a2 a3 a4 => ?_) fun _ _ z => z
          exact z w' p a1 a2 a3 (by simpa using a4)
  · have e : i = xs.length := by omega
    subst e
    refine .inl ⟨S.stop w2 mh2 _ x2.grow hw2 (Nat.le_refl _), ?_⟩
    rw [List.drop_length] at hp2
    exact hp2 w2 L (x1.trans x2) hw2 (x1.th _ hL) (by simpa using o2)

theorem mf_lc {X : Cx} {ca : CA} {W : WX} {elt tg iter : Expr} {ifs : List Expr} {scope : Scope} {own : List (Str × Nat)} {pos : Pos} {mi : Env → M (List D)} {g : TG} {t : Tgt} {tt : Env → M Bool} {te : Env → M D}
    (hc : X.calm = true) (hN : X.N.Nodup) (hi : MI X ca W tg iter mi) (ok : BlkOk X.N X.env.scope scope own) (hgk : GOk X.K g t (own.map (·.2)))
    (hg : ∀ (s : Shared) (H : Hp) (C : Addr) (cl : List (Str × Addr)) (fp : List Addr), PG (X.blk s H scope (compEnvC scope cl C X.env) fp) tg g)
    (ht : ∀ (s : Shared) (H : Hp) (C : Addr) (cl : List (Str × Addr)) (fp : List Addr), MTs (X.blk s H scope (compEnvC scope cl C X.env) fp) ca W0 ifs tt)
    (he : ∀ (s : Shared) (H : Hp) (C : Addr) (cl : List (Str × Addr)) (fp : List Addr), ME (X.blk s H scope (compEnvC scope cl C X.env) fp) ca W0 elt te)
    (hs : ∀ x, foldedSetIterable iter X.env x = pure x := by intro _; rfl) : MF X ca W (.ListComp elt [⟨tg, iter, ifs, 0⟩] scope pos) (mLc mi t tt te (own.map (·.2))) :=
  PE.mono (pe_lc (te := denG (repV X.K) X.K ca W0 te) (tt := denG repB X.K ca W0 tt) hc hN hi ok hg ht he hs) fun σ H Q h => lc_read hgk h
end AG
/-! AgH: statements. -/
namespace AG
open PySem L2

structure SRel (K : PySem.W.Frag) (n : Nat) (w0 : Wd) (env : Env) (σ : St) (w : Wd) : Prop where
  ext : Ext w0 w
  fr : FrOk K w env σ
  ln : σ.length = n
  ow : ∀ (i : Nat) (ds : List D) (a : Addr), env[i]? = some (Slot.own ds) → σ[i]? = some (some (V.ref a)) → w0.H a = none
/-- what is wanted of a statement -/
def FlP (K : PySem.W.Frag) (ca : CA) (n : Nat) (w0 wb : Wd) (D' : Ends) : Fl → MH → Prop := fun fl mh => match fl with
  | .nx e => ∀ w σ, SRel K n w0 e σ w → Grow wb w → WOk K ca w mh → D'.nx σ w.H
  | .bk e => ∀ w σ, SRel K n w0 e σ w → Grow wb w → WOk K ca w mh → D'.bk σ w.H
  | .ct e => ∀ w σ, SRel K n w0 e σ w → Grow wb w → WOk K ca w mh → D'.ct σ w.H
  | .rt d => ∀ w v, Ext w0 w → WOk K ca w mh → Rp K w v d → D'.rt v w.H
theorem FlP.grow {K : PySem.W.Frag} {ca : CA} {n : Nat} {w0 wb w1 : Wd} {D' : Ends} {fl : Fl} {mh : MH} (h : FlP K ca n w0 wb D' fl mh) (g : Grow wb w1) : FlP K ca n w0 w1 D' fl mh := by
  cases fl with
  | nx e => exact fun w σ s g' hw => h w σ s (g.trans g') hw
  | bk e => exact fun w σ s g' hw => h w σ s (g.trans g') hw
  | ct e => exact fun w σ s g' hw => h w σ s (g.trans g') hw
  | rt d => exact h
def ExS (K : PySem.W.Frag) (ca : CA) (W : WX) (n : Nat) (w0 : Wd) : Nat → MH → Prop := fun cl mh => ∀ w σ, Ext w0 w → WOk K ca w mh → σ.length = n → W (.ref (ca cl)) none σ w.H
def denS (K : PySem.W.Frag) (ca : CA) (W : WX) (n : Nat) (m : Env → M Fl) : TS := fun D' σ H => ∃ w0 w mh env, w.H = H ∧ WOk K ca w mh ∧ SRel K n w0 env σ w ∧ wpR (m env mh) (FlP K ca n w0 w D') (ExS K ca W n w0)
abbrev MS (X : Cx) (ca : CA) (W : WX) (n : Nat) (st : Stmt) (m : Env → M Fl) : Prop := PS X st (denS X.K ca W n m)
abbrev MSs (X : Cx) (ca : CA) (W : WX) (n : Nat) (st : List Stmt) (m : Env → M Fl) : Prop := PSs X st (denS X.K ca W n m)

section
variable {K : PySem.W.Frag} {ca : CA} {W : WX} {n : Nat} {w0 w w1 : Wd} {env : Env} {σ : St} {mh : MH}
theorem SRel.then (s : SRel K n w0 env σ w) (x : Ext w w1) : SRel K n w0 env σ w1 := ⟨s.ext.trans x, s.fr.ext x, s.ln, s.ow⟩
theorem stepS {α β : Type} {rep : Wd → β → α → Prop} {ma : Env → M α} {f : α → M Fl} {wb : Wd} {D' : Ends} {K1 : β → Hp → Prop} (hw : WOk K ca w mh) (s : SRel K n w0 env σ w) (hp : wpR (M.bind (ma env) f mh) (FlP K ca n w0 wb D') (ExS K ca W n w0))
    (k : ∀ w1 mh1 v d, Ext w w1 → WOk K ca w1 mh1 → SRel K n w0 env σ w1 → rep w1 v d → wpR (f d mh1) (FlP K ca n w0 wb D') (ExS K ca W n w0) → K1 v w1.H) : denG rep K ca W ma σ w.H K1 :=
  stepX hw s.fr hp (fun cl mh q w' x hw' => q w' σ (s.ext.trans x) hw' s.ln) fun w1 mh1 v d x hw1 _ r hp1 => k w1 mh1 v d x hw1 (s.then x) r hp1
theorem SRel.set (s : SRel K n w0 env σ w) {i : Nat} {v : V} {d : D} (r : Rp K w v d) : SRel K n w0 (env.set i (.v d)) (σ.set i (some v)) w := by
  refine ⟨s.ext, s.fr.set r, by simp [s.ln], fun j ds a h1 h2 => ?_⟩
  by_cases ij : i = j
  · subst ij
    rw [getElem?_setS, if_pos rfl] at h1
    split at h1 <;> cases h1
  · rw [getElem?_setS, if_neg ij] at h1 h2
    exact s.ow j ds a h1 h2
theorem FrOk.setOwn (hf : FrOk K w env σ) {i : Nat} {a : Addr} {ds : List D} (o : Own K w a ds) (ne : ∀ (j : Nat) (es : List D), j ≠ i → env[j]? = some (Slot.own es) → σ[j]? ≠ some (some (V.ref a))) : FrOk K w (env.set i (.own ds)) (σ.set i (some (.ref a))) := by
  refine ⟨by simp [hf.len], fun j e h => ?_, fun j es h => ?_, fun j k es fs b hne h1 h2 h3 => ?_⟩
  · by_cases ij : i = j
    · subst ij
      rw [getElem?_setS, if_pos rfl] at h
      split at h <;> cases h
    · rw [getElem?_setS, if_neg ij] at h
      obtain ⟨u, e1, e2⟩ := hf.v j e h
      exact ⟨u, by rw [getElem?_setS, if_neg ij]; exact e1, e2⟩
  · by_cases ij : i = j
    · subst ij
      rw [getElem?_setS, if_pos rfl] at h
      by_cases l : i < env.length
      · rw [if_pos l] at h
        cases h
        exact ⟨a, by rw [getElem?_setS, if_pos rfl, if_pos (by rw [hf.len]; exact l)], o⟩
      · rw [if_neg l] at h; cases h
    · rw [getElem?_setS, if_neg ij] at h
      obtain ⟨b, e1, e2⟩ := hf.own j es h
      exact ⟨b, by rw [getElem?_setS, if_neg ij]; exact e1, e2⟩
  · by_cases ij : i = j
    · subst ij
      have ik : i ≠ k := hne
      rw [getElem?_setS, if_pos rfl] at h3
      rw [getElem?_setS, if_neg ik] at h2 ⊢
      split at h3
      · cases h3
        exact ne k fs (Ne.symm ik) h2
      · cases h3
    · rw [getElem?_setS, if_neg ij] at h1 h3
      by_cases ik : i = k
      · subst ik
        rw [getElem?_setS, if_pos rfl]
        intro q
        split at q
        · cases q
          exact ne j es (Ne.symm ij) h1 h3
        · cases q
      · rw [getElem?_setS, if_neg ik] at h2 ⊢
        exact hf.sep j k es fs b hne h1 h2 h3
theorem SRel.setOwn (s : SRel K n w0 env σ w) {i : Nat} {a : Addr} {ds : List D} (o : Own K w a ds) (hn : w0.H a = none) (ne : ∀ (j : Nat) (es : List D), j ≠ i → env[j]? = some (Slot.own es) → σ[j]? ≠ some (some (V.ref a))) : SRel K n w0 (env.set i (.own ds)) (σ.set i (some (.ref a))) w := by
  refine ⟨s.ext, s.fr.setOwn o ne, by simp [s.ln], fun j es b h1 h2 => ?_⟩
  by_cases ij : i = j
  · subst ij
    rw [getElem?_setS, if_pos rfl] at h2
    split at h2
    · cases h2; exact hn
    · cases h2
  · rw [getElem?_setS, if_neg ij] at h1 h2
    exact s.ow j es b h1 h2
/-- a list made since w stands in no slot yet -/
theorem FrOk.apart (hf : FrOk K w env σ) {a : Addr} (hn : w.H a = none) (j : Nat) (es : List D) (h : env[j]? = some (Slot.own es)) : σ[j]? ≠ some (some (V.ref a)) := fun q => by
  obtain ⟨b, e, o⟩ := hf.own j es h
  rw [q] at e
  cases e
  obtain ⟨vs, hH, _⟩ := o.at'
  rw [hn] at hH
  cases hH
/-- one's own list is written -/
theorem SRel.wr (s : SRel K n w0 env σ w) {i : Nat} {a : Addr} {ds ds' : List D} {vs : List V} (he : env[i]? = some (.own ds)) (hσ : σ[i]? = some (some (.ref a))) (r : RpAll K w vs ds') : SRel K n w0 (env.set i (.own ds')) σ (w.put a (.lst vs)) := by
  obtain ⟨a', e', o⟩ := s.fr.own i ds he
  rw [hσ] at e'
  cases e'
  have li : i < env.length := (List.getElem?_eq_some_iff.mp he).1
  refine ⟨s.ext.wr (s.ow i ds a he hσ), ⟨by simp [s.fr.len], fun j d h => ?_, fun j es h => ?_, fun j k es fs b ne h1 h2 h3 => ?_⟩, s.ln, fun j es b h1 h2 => ?_⟩
  · by_cases ij : i = j
    · subst ij
      rw [getElem?_setS, if_pos rfl, if_pos li] at h
      cases h
    · rw [getElem?_setS, if_neg ij] at h
      obtain ⟨u, e1, e2⟩ := s.fr.v j d h
      exact ⟨u, e1, e2.mono put_grow⟩
  · by_cases ij : i = j
    · subst ij
      rw [getElem?_setS, if_pos rfl, if_pos li] at h
      cases h
      exact ⟨a, hσ, Own.put o.nF o.nL o.nr r⟩
    · rw [getElem?_setS, if_neg ij] at h
      obtain ⟨b, e1, e2⟩ := s.fr.own j es h
      have ab : b ≠ a := fun e => by subst e; exact s.fr.sep i j ds es b ij he h hσ e1
      obtain ⟨us, hH, rr⟩ := e2.at'
      exact ⟨b, e1, ⟨⟨us, by show upd w.H a _ b = _; rw [upd_ne ab]; exact hH, rr.mono put_grow⟩, e2.nF, e2.nL, e2.nr⟩⟩
  · have own_of : ∀ (j : Nat) (es : List D), (env.set i (Slot.own ds'))[j]? = some (Slot.own es) → ∃ es', env[j]? = some (Slot.own es') := fun j es h => by
      by_cases ij : i = j
      · subst ij; exact ⟨ds, he⟩
      · rw [getElem?_setS, if_neg ij] at h; exact ⟨es, h⟩
    obtain ⟨es', q1⟩ := own_of j es h1
    obtain ⟨fs', q2⟩ := own_of k fs h2
    exact s.fr.sep j k es' fs' b ne q1 q2 h3
  · by_cases ij : i = j
    · subst ij; rw [hσ] at h2; cases h2; exact s.ow i ds a he hσ
    · rw [getElem?_setS, if_neg ij] at h1
      exact s.ow j es b h1 h2
end

/-! ### blocks -/
def mNx : Env → M Fl := fun env => M.pure (.nx env)
def mSeq (a b : Env → M Fl) : Env → M Fl := fun env => M.bind (a env) fun fl => match fl with | .nx e => b e | fl => M.pure fl
section
variable {X : Cx} {ca : CA} {W : WX} {n : Nat} {st : Stmt} {rest : List Stmt} {ma mb : Env → M Fl} {pos : Pos}
theorem mss_nil : MSs X ca W n [] mNx := PSs.mono pss_nil fun D' σ H h => by
  obtain ⟨w0, w, mh, env, rfl, hw, s, hp⟩ := h
  exact hp w σ s (Grow.refl _) hw
theorem mss_one (h : MS X ca W n st ma) : MSs X ca W n [st] ma := pss_one h
theorem mss_cons (h1 : MS X ca W n st ma) (h2 : MSs X ca W n rest mb) : MSs X ca W n (st :: rest) (mSeq ma mb) := PSs.mono (pss_cons h1 h2) fun D' σ H h => by
  obtain ⟨w0, w, mh, env, rfl, hw, s, hp⟩ := h
  refine ⟨w0, w, mh, env, rfl, hw, s, wpR_mono (wpR_bind.mp hp) (fun fl mh' q => ?_) fun _ _ q => q⟩
  cases fl with
  | nx e => exact fun w1 σ1 s1 g1 hw1 => ⟨w0, w1, mh', e, rfl, hw1, s1, wpR_mono q (fun _ _ z => z.grow g1) fun _ _ z => z⟩
  | bk e => exact q
  | ct e => exact q
  | rt d => exact q
theorem ms_pass : MS X ca W n (.Pass pos) mNx := PS.mono ps_pass fun D' σ H h => by
  obtain ⟨w0, w, mh, env, rfl, hw, s, hp⟩ := h
  exact hp w σ s (Grow.refl _) hw
def mBk : Env → M Fl := fun env => M.pure (.bk env)
def mCt : Env → M Fl := fun env => M.pure (.ct env)
theorem ms_break : MS X ca W n (.Break pos) mBk := PS.mono ps_break fun D' σ H h => by
  obtain ⟨w0, w, mh, env, rfl, hw, s, hp⟩ := h
  exact hp w σ s (Grow.refl _) hw
theorem ms_continue : MS X ca W n (.Continue pos) mCt := PS.mono ps_continue fun D' σ H h => by
  obtain ⟨w0, w, mh, env, rfl, hw, s, hp⟩ := h
  exact hp w σ s (Grow.refl _) hw
theorem ms_doc {x : Str} {j : Nat} {pos pos' : Pos} : MS X ca W n (.Expr (.Constant (.str x) j pos) pos') mNx := PS.mono ps_doc fun D' σ H h => by
  obtain ⟨w0, w, mh, env, rfl, hw, s, hp⟩ := h
  exact hp w σ s (Grow.refl _) hw
/-- never walked -/
def mDead : Env → M Fl := fun _ => M.bad
theorem ms_dead : MS X ca W n st mDead := PS.mono ps_never fun D' σ H h => by
  obtain ⟨w0, w, mh, env, rfl, hw, s, hp⟩ := h
  exact hp.elim
end

/-! ### simple statements -/
def mSet (i : Nat) (m : Env → M D) : Env → M Fl := fun env => M.bind (m env) fun d => M.pure (.nx (env.set i (.v d)))
def mSetOwn (i : Nat) (m : Env → M (List D)) : Env → M Fl := fun env => M.bind (m env) fun ds => M.pure (.nx (env.set i (.own ds)))
def mSetT (t : Tgt) (m : Env → M D) : Env → M Fl := fun env => M.bind (m env) fun d => match t d env with | some e => M.pure (.nx e) | none => M.bad
def mRet (m : Env → M D) : Env → M Fl := fun env => M.bind (m env) fun d => M.pure (.rt d)
def mRetN : Env → M Fl := fun _ => M.pure (.rt .non)
def mExpr (m : Env → M D) : Env → M Fl := fun env => M.bind (m env) fun _ => M.pure (.nx env)
def mIf (t : Env → M Bool) (a b : Env → M Fl) : Env → M Fl := fun env => M.bind (t env) fun c => if c = true then a env else b env
def mPar (i j : Nat) (ms : Env → M (List D)) : Env → M Fl := fun env => M.bind (ms env) fun ds => match ds with | [a, b] => M.pure (.nx ((env.set i (.v a)).set j (.v b))) | _ => M.bad
def mAug (f : DOp) (i : Nat) (m : Env → M D) : Env → M Fl := fun env => match env[i]? with | some (.v x) => M.bind (m env) fun y => M.bind (f x y) fun z => M.pure (.nx (env.set i (.v z))) | _ => M.bad
def augAdd : DOp := fun d e => match d, e with | .int i, .int j => M.pure (.int (i + j)) | _, _ => M.bad
section
variable {X : Cx} {ca : CA} {W : WX} {n : Nat} {e : Expr} {m : Env → M D} {mf ms : Env → M (List D)} {mt : Env → M Bool} {ma mb : Env → M Fl} {pos : Pos}
theorem ms_set {i : Nat} {x : Str} {pos' : Pos} (he : ME X ca W e m) (hN : X.N.Nodup) (hi : X.N[i]? = some x := by rfl) (hx : Loc X.env.scope x := by first | exact Or.inl rfl | exact Or.inr rfl) (hs : swapsWith e (some (.Name x pos')) pos.line X.env = pure false := by rfl) (hf : X.fn x = true ∨ X.env.scope.names.lookup x = some .local := by first | exact .inl rfl | exact .inr rfl) :
    MS X ca W n (.Assign [.Name x pos'] e pos) (mSet i m) := PS.mono (ps_set hN hi hx he hs hf) fun D' σ H h => by
  obtain ⟨w0, w, mh, env, rfl, hw, s, hp⟩ := h
  refine stepS (rep := repV X.K) hw s hp fun w1 mh1 v d x1 hw1 s1 r1 hp1 => ?_
  exact hp1 w1 _ (s1.set r1) x1.grow hw1
theorem ms_setOwn {i : Nat} {x : Str} {pos' : Pos} (he : MF X ca W e mf) (hN : X.N.Nodup) (hi : X.N[i]? = some x := by rfl) (hx : Loc X.env.scope x := by first | exact Or.inl rfl | exact Or.inr rfl) (hs : swapsWith e (some (.Name x pos')) pos.line X.env = pure false := by rfl) (hf : X.fn x = true ∨ X.env.scope.names.lookup x = some .local := by first | exact .inl rfl | exact .inr rfl) :
    MS X ca W n (.Assign [.Name x pos'] e pos) (mSetOwn i mf) := PS.mono (ps_set hN hi hx he hs hf) fun D' σ H h => by
  obtain ⟨w0, w, mh, env, rfl, hw, s, hp⟩ := h
  refine ⟨w, mh, env, rfl, hw, s.fr, wpR_mono (wpR_bind.mp hp) (fun ds mh' q w' p x hw' hn o => ?_) fun cl mh q w' x hw' => q w' σ (s.ext.trans x) hw' s.ln⟩
  exact q w' _ ((s.then x).setOwn o (s.ext.th p hn) fun j es _ h => s.fr.apart hn j es h) x.grow hw'
theorem ms_setT {tg : Expr} {g : TG} {t : Tgt} {vs : List Nat} (he : ME X ca W e m) (hg : PG X tg g) (hk : GOk X.K g t vs) (hs : swapsWithSole [tg] e pos.line X.env = pure false := by rfl) (hw : swappedStores [tg] e X.env = pure none := by rfl) (h1 : (assignEach [tg] X.env).map (·.2) = [assign tg X.env] := by rfl) : MS X ca W n (.Assign [tg] e pos) (mSetT t m) := PS.mono (ps_asg he hg hs hw h1) fun D' σ H h => by
  obtain ⟨w0, w, mh, env, rfl, hw, s, hp⟩ := h
  refine stepS (rep := repV X.K) hw s hp fun w1 mh1 v d x1 hw1 s1 r1 hp1 => ?_
  cases q : t d env with
  | none => simp only [q] at hp1; exact hp1.elim
  | some env' =>
    simp only [q] at hp1
    refine hk w1 v d env env' σ _ hw1.subs r1 s1.fr q fun σ' f' we ob => hp1 w1 σ' ⟨s1.ext, f', ?_, fun i ds a h1 h2 => ?_⟩ x1.grow hw1
    · have := congrArg List.length we
      rw [wipe_length, wipe_length] at this
      rw [this]; exact s1.ln
    · obtain ⟨q1, q2⟩ := ob i ds a h1 h2
      exact s1.ow i ds a q1 q2
theorem ms_ret (he : ME X ca W e m) : MS X ca W n (.Return (some e) pos) (mRet m) := PS.mono (ps_ret he) fun D' σ H h => by
  obtain ⟨w0, w, mh, env, rfl, hw, s, hp⟩ := h
  refine stepS (rep := repV X.K) hw s hp fun w1 mh1 v d x1 hw1 s1 r1 hp1 => ?_
  exact hp1 w1 v s1.ext hw1 r1
theorem ms_retN : MS X ca W n (.Return none pos) mRetN := PS.mono ps_retN fun D' σ H h => by
  obtain ⟨w0, w, mh, env, rfl, hw, s, hp⟩ := h
  exact hp w .non s.ext hw .non
theorem ms_expr (he : ME X ca W e m) (hs : swapsWith e none pos.line X.env = pure false := by rfl) : MS X ca W n (.Expr e pos) (mExpr m) := PS.mono (ps_expr he hs) fun D' σ H h => by
  obtain ⟨w0, w, mh, env, rfl, hw, s, hp⟩ := h
  refine stepS (rep := repV X.K) hw s hp fun w1 mh1 v d x1 hw1 s1 r1 hp1 => ?_
  exact hp1 w1 σ s1 x1.grow hw1
theorem ms_if {c : Expr} {a b : List Stmt} (hc : MT X ca W c mt) (ha : MSs X ca W n a ma) (hb : MSs X ca W n b mb) : MS X ca W n (.If c a b pos) (mIf mt ma mb) := PS.mono (ps_if hc ha hb) fun D' σ H h => by
  obtain ⟨w0, w, mh, env, rfl, hw, s, hp⟩ := h
  refine stepS (rep := repB) hw s hp fun w1 mh1 v d x1 hw1 s1 r1 hp1 => ?_
  have r1 : v = d := r1
  subst r1
  cases v with
  | true => exact iteT ⟨w0, w1, mh1, env, rfl, hw1, s1, wpR_mono hp1 (fun _ _ z => z.grow x1.grow) fun _ _ z => z⟩
  | false => exact iteF ⟨w0, w1, mh1, env, rfl, hw1, s1, wpR_mono hp1 (fun _ _ z => z.grow x1.grow) fun _ _ z => z⟩
theorem ms_par {i j : Nat} {x y : Str} {a b : Expr} {px py pt : Pos} {kt k2 pt2} (hc : X.calm = true) (ha : MA X ca W [a, b] ms) (hN : X.N.Nodup) (hi : X.N[i]? = some x := by rfl) (hj : X.N[j]? = some y := by rfl) (hij : i ≠ j := by decide)
    (hx : X.env.scope.names.lookup x = some .local := by rfl) (hy : X.env.scope.names.lookup y = some .local := by rfl)
    (hw : swappedStores [.Tuple [.Name x px, .Name y py] kt pt] (.Tuple [a, b] k2 pt2) X.env = pure (some [x, y]) := by rfl)
    (hs : swapsWithSole [.Tuple [.Name x px, .Name y py] kt pt] (.Tuple [a, b] k2 pt2) pos.line X.env = pure false := by rfl) : MS X ca W n (.Assign [.Tuple [.Name x px, .Name y py] kt pt] (.Tuple [a, b] k2 pt2) pos) (mPar i j ms) := PS.mono (ps_par hc hN hi hj hij hx hy ha hw hs) fun D' σ H h => by
  obtain ⟨w0, w, mh, env, rfl, hw, s, hp⟩ := h
  refine stepS (rep := repA X.K) hw s hp fun w1 mh1 v d x1 hw1 s1 r1 hp1 => ?_
  have r1 : RpAll X.K w1 v d := r1
  match d, r1, hp1 with
  | [d1, d2], r1, hp1 =>
    obtain ⟨v1, v2, rfl, q1, q2⟩ := r1.two
    exact ⟨v1, v2, rfl, hp1 w1 _ ((s1.set q1).set q2) x1.grow hw1⟩
  | [], r1, hp1 => exact hp1.elim
  | [_], r1, hp1 => exact hp1.elim
  | _ :: _ :: _ :: _, r1, hp1 => exact hp1.elim
theorem ms_aug {i : Nat} {x : Str} {op : Operator} {r : R2} {f : DOp} {pos' : Pos} (ho : OpR X (inplaceOp op) r) (hf : OpM X.K ca r f) (he : ME X ca W e m) (hN : X.N.Nodup) (hi : X.N[i]? = some x := by rfl) (hx : Loc X.env.scope x := by first | exact Or.inl rfl | exact Or.inr rfl) (hfn : X.fn x = true ∨ X.env.scope.names.lookup x = some .local := by first | exact .inl rfl | exact .inr rfl) :
    MS X ca W n (.AugAssign (.Name x pos') op e pos) (mAug f i m) := PS.mono (ps_aug hN hi hx he (show PIp X op r from ho) hfn) fun D' σ H h => by
  obtain ⟨w0, w, mh, env, rfl, hw, s, hp⟩ := h
  cases q : env[i]? with
  | none => simp only [mAug, q] at hp; exact hp.elim
  | some sl =>
    cases sl with
    | v d =>
      simp only [mAug, q] at hp
      obtain ⟨v, e1, r1⟩ := s.fr.v i d q
      refine ⟨v, e1, ?_⟩
      refine stepS (rep := repV X.K) hw s hp fun w1 mh1 v2 d2 x1 hw1 s1 r2 hp1 => ?_
      refine hf W σ w1 mh1 v v2 d d2 _ hw1 (x1.rp r1) r2 (wpR_mono (wpR_bind.mp hp1) (fun z mh' q w' vz xz hw' rz => ?_) fun cl mh q w' xz hw' => q w' σ (s1.ext.trans xz) hw' s1.ln)
      exact q w' _ ((s1.then xz).set rz) (x1.trans xz).grow hw'
    | _ => simp only [mAug, q] at hp; exact hp.elim
theorem ms_augAdd {i : Nat} {x : Str} {pos' : Pos} (he : ME X ca W e m) (hN : X.N.Nodup) (hi : X.N[i]? = some x := by rfl) (hx : Loc X.env.scope x := by first | exact Or.inl rfl | exact Or.inr rfl) (hfn : X.fn x = true ∨ X.env.scope.names.lookup x = some .local := by first | exact .inl rfl | exact .inr rfl) :
    MS X ca W n (.AugAssign (.Name x pos') .Add e pos) (mAug augAdd i m) := ms_aug iop_add (opm_int fun _ _ _ _ => .int _) he hN hi hx hfn
theorem ms_augSub {i : Nat} {x : Str} {pos' : Pos} (he : ME X ca W e m) (hN : X.N.Nodup) (hi : X.N[i]? = some x := by rfl) (hx : Loc X.env.scope x := by first | exact Or.inl rfl | exact Or.inr rfl) (hfn : X.fn x = true ∨ X.env.scope.names.lookup x = some .local := by first | exact .inl rfl | exact .inr rfl) :
    MS X ca W n (.AugAssign (.Name x pos') .Sub e pos) (mAug opSub i m) := ms_aug iop_sub opm_sub he hN hi hx hfn
end
end AG
/-! AgI: loops, lists of one's own, lending, raising, bodies. -/
namespace AG
open PySem L2

/-! ### for -/
def loopF (t : Tgt) (body : Env → M Fl) : List D → Env → M Fl
  | [], env => M.pure (.nx env)
  | x :: xs, env => match t x env with
    | some e1 => M.bind (body e1) fun fl => match fl with
      | .nx e => loopF t body xs e
      | .ct e => loopF t body xs e
      | .bk e => M.pure (.nx e)
      | .rt d => M.pure (.rt d)
    | none => M.bad
def mFor (mi : Env → M (List D)) (t : Tgt) (body : Env → M Fl) : Env → M Fl := fun env => M.bind (mi env) fun xs => loopF t body xs env
section
variable {X : Cx} {ca : CA} {W : WX} {n : Nat} {tg iter : Expr} {body : List Stmt} {mi : Env → M (List D)} {mb : Env → M Fl} {g : TG} {t : Tgt} {vs : List Nat} {pos : Pos}
theorem ms_for (hp : PassesOwn (model X.prog X.w) X.A X.env X.xe) (hc : X.calm = true) (hi : MI X ca W tg iter mi) (hg : PG X tg g) (hk : GOk X.K g t vs) (hb : MSs X ca W n body mb)
    (hs : ∀ x, foldedSetIterable iter X.env x = pure x := by intro _; rfl) : MS X ca W n (.For tg iter body [] pos) (mFor mi t mb) := PS.mono (ps_for hp hc hi hg hb hs) fun D' σ H h => by
  obtain ⟨w0, w, mh, env, rfl, hw, s, hp⟩ := h
  refine stepS (rep := repI X.K ca) hw s hp fun w1 mh1 J xs x1 hw1 s1 S hp1 => ?_
  have S : Serves X.K ca w1 J xs := S
  refine ⟨fun i m σ H => m = xs.length - i ∧ i ≤ xs.length ∧ ∃ w2 mh2 env2, w2.H = H ∧ Grow w1 w2 ∧ WOk X.K ca w2 mh2 ∧ SRel X.K n w0 env2 σ w2 ∧
    wpR (loopF t mb (xs.drop i) env2 mh2) (FlP X.K ca n w0 w D') (ExS X.K ca W n w0), ⟨xs.length, by simp, Nat.zero_le _, w1, mh1, env, rfl, Grow.refl _, hw1, s1, by simpa using hp1⟩, ?_⟩
  rintro i m σ2 H ⟨rfl, hi, w2, mh2, env2, rfl, g2, hw2, s2, hp2⟩
  by_cases hlt : i < xs.length
  · refine .inr ⟨S.go w2 mh2 i g2 hw2 hlt, fun σ' H' => ∃ w4 mh4 env4, w4.H = H' ∧ Grow w1 w4 ∧ WOk X.K ca w4 mh4 ∧ SRel X.K n w0 env4 σ' w4 ∧
      wpR (loopF t mb (xs.drop (i + 1)) env4 mh4) (FlP X.K ca n w0 w D') (ExS X.K ca W n w0), fun σ' H' q => ⟨_, by omega, rfl, hlt, q⟩, fun x H' y => ?_⟩
    obtain ⟨d, w3, e3, rfl, x3, hw3, r3⟩ := S.yld w2 mh2 i x H' g2 hw2 hlt y
    rw [List.drop_eq_getElem_cons hlt] at hp2
    have e3' : xs[i] = d := by rw [List.getElem?_eq_getElem hlt] at e3; exact Option.some.inj e3
    rw [e3'] at hp2
    cases q : t d env2 with
    | none => simp only [loopF, q] at hp2; exact hp2.elim
    | some env3 =>
      simp only [loopF, q] at hp2
      have s3 := s2.then x3
      refine hk w3 x d env2 env3 _ _ hw3.subs r3 s3.fr q fun σ3 f3 we ob => ?_
      have ln3 : σ3.length = n := by
        have := congrArg List.length we
        rw [wipe_length, wipe_length] at this
        rw [this]; exact s3.ln
      refine ⟨w0, w3, mh2, env3, rfl, hw3, ⟨s3.ext, f3, ln3, fun j ds a h1 h2 => ?_⟩, ?_⟩
      · obtain ⟨q1, q2⟩ := ob j ds a h1 h2
        exact s3.ow j ds a q1 q2
      · have g13 : Grow w1 w3 := g2.trans x3.grow
        refine wpR_mono (wpR_bind.mp hp2) (fun fl mh5 z => ?_) fun _ _ z => z
        cases fl with
        | nx e => exact fun w5 σ5 s5 g5 hw5 => ⟨w5, mh5, e, rfl, g13.trans g5, hw5, s5, z⟩
        | ct e => exact fun w5 σ5 s5 g5 hw5 => ⟨w5, mh5, e, rfl, g13.trans g5, hw5, s5, z⟩
        | bk e => exact fun w5 σ5 s5 g5 hw5 => z w5 σ5 s5 (x1.grow.trans (g13.trans g5)) hw5
        | rt d => exact z
  · have e : i = xs.length := by omega
    subst e
    refine .inl ⟨S.stop w2 mh2 _ g2 hw2 (Nat.le_refl _), ?_⟩
    rw [List.drop_length] at hp2
    exact hp2 w2 _ s2 (x1.grow.trans g2) hw2
end

/-! ### while -/
def whileF (c : Env → M Bool) (body : Env → M Fl) : Nat → Env → M Fl
  | 0, _ => M.bad
  | k + 1, env => M.bind (c env) fun b => if b = true then M.bind (body env) fun fl => match fl with
      | .nx e => whileF c body k e
      | .ct e => whileF c body k e
      | .bk e => M.pure (.nx e)
      | .rt d => M.pure (.rt d)
    else M.pure (.nx env)
section
variable {X : Cx} {ca : CA} {W : WX} {n : Nat} {c : Expr} {body : List Stmt} {mc : Env → M Bool} {mb : Env → M Fl} {pos : Pos}
theorem ms_while (k : Nat) (hp : PassesOwn (model X.prog X.w) X.A X.env X.xe) (hc : MT X ca W c mc) (hb : MSs X ca W n body mb) : MS X ca W n (.While c body [] pos) (whileF mc mb k) := PS.mono (ps_while hp hc hb) fun D' σ H h => by
  obtain ⟨w0, w, mh, env, rfl, hw, s, hp⟩ := h
  refine ⟨fun m σ H => ∃ w2 mh2 env2, w2.H = H ∧ Grow w w2 ∧ WOk X.K ca w2 mh2 ∧ SRel X.K n w0 env2 σ w2 ∧ wpR (whileF mc mb m env2 mh2) (FlP X.K ca n w0 w D') (ExS X.K ca W n w0), ⟨k, w, mh, env, rfl, Grow.refl _, hw, s, hp⟩, ?_⟩
  rintro m σ2 H ⟨w2, mh2, env2, rfl, g2, hw2, s2, hp2⟩
  cases m with
  | zero => exact hp2.elim
  | succ m =>
    simp only [whileF] at hp2
    refine stepS (rep := repB) hw2 s2 hp2 fun w3 mh3 b b' x3 hw3 s3 rb hp3 => ?_
    have rb : b = b' := rb
    subst rb
    cases b with
    | false =>
      simp only [Bool.false_eq_true, if_false] at hp3 ⊢
      exact hp3 w3 _ s3 (g2.trans x3.grow) hw3
    | true =>
      simp only [if_true] at hp3 ⊢
      refine ⟨fun σ' H' => ∃ w2 mh2 env2, w2.H = H' ∧ Grow w w2 ∧ WOk X.K ca w2 mh2 ∧ SRel X.K n w0 env2 σ' w2 ∧ wpR (whileF mc mb m env2 mh2) (FlP X.K ca n w0 w D') (ExS X.K ca W n w0), fun σ' H' q => ⟨m, Nat.lt_succ_self _, q⟩, w0, w3, mh3, env2, rfl, hw3, s3, ?_⟩
      have g3 : Grow w w3 := g2.trans x3.grow
      refine wpR_mono (wpR_bind.mp hp3) (fun fl mh5 z => ?_) fun _ _ z => z
      cases fl with
      | nx e => exact fun w5 σ5 s5 g5 hw5 => ⟨w5, mh5, e, rfl, g3.trans g5, hw5, s5, z⟩
      | ct e => exact fun w5 σ5 s5 g5 hw5 => ⟨w5, mh5, e, rfl, g3.trans g5, hw5, s5, z⟩
      | bk e => exact fun w5 σ5 s5 g5 hw5 => z w5 σ5 s5 (g3.trans g5) hw5
      | rt d => exact z
end

/-! ### lists of one's own -/
def mOwnM (f : List D → D → Option (List D)) (i : Nat) (m : Env → M D) : Env → M Fl := fun env => match env[i]? with
  | some (.own _) => M.bind (m env) fun y => match env[i]? with
    | some (.own ds) => match f ds y with | some es => M.pure (.nx (env.set i (.own es))) | none => M.bad
    | _ => M.bad
  | _ => M.bad
def fAppend : List D → D → Option (List D) := fun ds y => if ds.length < 16777216 then some (ds ++ [y]) else none
def fExtend : List D → D → Option (List D) := fun ds y => match y with | .lst es => if ds.length + es.length ≤ 16777216 then some (ds ++ es) else none | _ => none
def fRemove : List D → D → Option (List D) := fun ds y => if (ds.all (D.sm 60) && D.sm 60 y) = true then (ds.findIdx? fun z => D.eqv z y).map ds.eraseIdx else none
/-- by values -/
def OwnMt (K : PySem.W.Frag) (r : V → List V → Hp → VK → Prop) (f : List D → D → Option (List D)) : Prop := ∀ (w : Wd) (a : Addr) (vs : List V) (ds es : List D) (y : V) (d : D) (Q : VK), Subs w → w.H a = some (.lst vs) → RpAll K w vs ds → Rp K w y d → f ds d = some es →
  (∀ us, RpAll K w us es → Q .non (upd w.H a (.lst us))) → r (.ref a) [y] w.H Q
section
variable {K : PySem.W.Frag}
theorem om_append : OwnMt K rAppend fAppend := by
  intro w a vs ds es y d Q hs hH r ry e k
  unfold fAppend at e
  split at e
  · cases e
    exact ⟨a, vs, y, rfl, rfl, hH, by rw [r.length, sizeLine_lit]; assumption, k _ (r.append (.cons ry .nil))⟩
  · cases e
theorem om_extend : OwnMt K rExtend fExtend := by
  intro w a vs ds es y d Q hs hH r ry e k
  unfold fExtend at e
  cases d <;> first | (cases e; done) | skip
  rename_i zs
  simp only at e
  split at e
  · cases e
    cases ry with
    | lst h1 h2 => exact ⟨a, _, vs, _, rfl, rfl, hH, hs.l _ _ h1, by rw [r.length, h2.length, sizeLine_lit]; assumption, k _ (r.append h2)⟩
  · cases e
end
def rRemD (K : PySem.W.Frag) : V → List V → Hp → VK → Prop := fun x vs H Q => ∃ l xs y ds d j, x = .ref l ∧ vs = [y] ∧ H l = some (.lst xs) ∧ DpAll K H xs ds ∧ Dp K H y d ∧ PyData.plainAll ds = true ∧ d.plain = true ∧ d.depth ≤ 64 ∧ PySem.SeqAt.dataPlace ds d = some j ∧ Q .non (upd H l (.lst (xs.eraseIdx j)))
theorem eraseIf_toArray {α : Type} (l : List α) (j : Nat) (h : j < l.length) : l.toArray.eraseIdxIfInBounds j = (l.eraseIdx j).toArray := by
  simp [Array.eraseIdxIfInBounds, h]
theorem mt_removeD {X : Cx} (hu : X.A.units + 66 < cLine) : MtR X "list.remove" (rRemD X.K) := by
  intro pins s σ H x vs v us Q I rx rv h
  obtain ⟨l, xs, y, ds, d, j, rfl, rfl, hH, hds, hd, pl, pd, dd, hj, q⟩ := h
  cases rx
  obtain ⟨u, rfl, ru⟩ := rv.one
  obtain ⟨z, its, n, r, hl, e⟩ := I.lstM hH
  obtain ⟨as, hr⟩ := Dp.readsAll I ds xs its hds r
  obtain ⟨bs, hr2⟩ := Dp.reads I d y u hd ru
  have hjl : j < its.length := by
    obtain ⟨h1, _⟩ := List.findIdx?_eq_some_iff_getElem.mp hj
    have := PySem.SeqAt.ReadsAll.length _ _ _ hr
    omega
  refine PySem.SeqAt.remove_list_data (vs := its.toArray) ⟨_, e, rfl, _, rfl⟩ (by simpa using hr) hr2 pl pd (by have := Nat.min_le_right (PyData.depthAll ds) d.depth; omega) hj (by rw [List.size_toArray, ← hl]; exact z) ?_
  refine ⟨.non, _, I.lset (t' := s.toks) (f := fun ys => ys.eraseIdxIfInBounds j) (its' := its.eraseIdx j) hH e (eraseIf_toArray its j hjl) (r.eraseIdx j) ?_, rfl, q⟩
  exact Nat.le_trans (List.length_eraseIdx_le _ _) z
theorem all_sm {n : Nat} {ds : List D} (h : ds.all (D.sm n) = true) : ∀ d ∈ ds, D.sm n d = true := List.all_eq_true.mp h
theorem place_toPys (ds : List D) (y : D) : PySem.SeqAt.dataPlace (D.toPys ds) y.toPy = ds.findIdx? fun z => D.eqv z y := by
  unfold PySem.SeqAt.dataPlace
  rw [D.toPys_map, List.findIdx?_map]
  rfl
theorem om_remove {K : PySem.W.Frag} : OwnMt K (rRemD K) fRemove := by
  intro w a vs ds es y d Q hs hH r ry e k
  unfold fRemove at e
  split at e
  · rename_i c
    simp only [Bool.and_eq_true] at c
    cases q : ds.findIdx? fun z => D.eqv z d with
    | none => rw [q] at e; cases e
    | some j =>
      rw [q] at e
      cases e
      refine ⟨a, vs, y, _, _, j, rfl, rfl, hH, dpAll_of (fun h q => Rp.dp hs h q) r c.1, ry.dp hs c.2, plainAll_toPy _, plain_toPy _, sm64 c.2, by rw [place_toPys]; exact q, k _ (r.eraseIdx j)⟩
  · cases e
section
variable {X : Cx} {ca : CA} {W : WX} {n : Nat} {e : Expr} {m : Env → M D} {x name : Str} {id : String} {p1 apos cpos pos : Pos} {r : V → List V → Hp → VK → Prop} {f : List D → D → Option (List D)}
theorem ms_own (slot : PySem.Slot "list" name id) (hty : typeOf (.builtin id) = pure (.type "method_descriptor")) (hm : MtR X id r) (ho : OwnMt X.K r f) (i : Nat) (he : ME X ca W e m) (hN : X.N[i]? = some x := by rfl) (hv : Vis X.env.scope x := by first | exact Or.inl rfl | exact Or.inr (Or.inl rfl) | exact Or.inr (Or.inr rfl))
    (hd : (x == ("__debug__" : Str)) = false := by decide) (hcd : (x == ("__classdict__" : Str)) = false := by decide)
    (hbase : attributeBase (.Name x p1) name X.env (eval (.Name x p1) X.env) = eval (.Name x p1) X.env := by rfl)
    (hfew : ((backTo cpos (starEach [e] X.env)).all (fun x => !x.1) && (backToKw cpos (keywordEach [] X.env)).all (fun x => x.1.isSome)
      && decide ([e].length + ([] : List Keyword).length + (if ([] : List Keyword).isEmpty then 0 else 1) < 30)) = true := by rfl)
    (hline : (apos.endLine == cpos.line) = true := by rfl) (hs : starEach [e] X.env = (false, eval e X.env) :: starEach [] X.env := by rfl) (hplain : (backTo cpos (starEach [] X.env)).any (·.1) = false := by rfl)
    (hsw : swapsWith (.Call (.Attribute (.Name x p1) name apos) [e] [] cpos) none pos.line X.env = pure false := by rfl) :
    MS X ca W n (.Expr (.Call (.Attribute (.Name x p1) name apos) [e] [] cpos) pos) (mOwnM f i m) :=
  PS.mono (ps_expr (pe_bm PySem.F.plainAttrs_list slot hty hm (pv i hN hv hd hcd) (pa_cons he pa_nil hs) hbase hfew hline hs hplain) hsw) fun D' σ H h => by
    obtain ⟨w0, w, mh, env, rfl, hw, s, hp⟩ := h
    cases q : env[i]? with
    | none => simp only [mOwnM, q] at hp; exact hp.elim
    | some sl =>
      cases sl with
      | own ds =>
        simp only [mOwnM, q] at hp
        obtain ⟨a, e1, o⟩ := s.fr.own i ds q
        obtain ⟨vs, hH, _⟩ := o.at'
        refine ⟨_, e1, .inl ⟨rfl, vs, .of hH⟩, ?_⟩
        refine stepS (rep := repV X.K) hw s hp fun w1 mh1 v2 d2 x1 hw1 s1 r2 hp1 => ?_
        obtain ⟨a', e1', o1⟩ := s1.fr.own i ds q
        rw [e1] at e1'
        cases e1'
        obtain ⟨vs1, hH1, rr1⟩ := o1.at'
        cases qf : f ds d2 with
        | none => simp only [qf] at hp1; exact hp1.elim
        | some es =>
          simp only [qf] at hp1
          refine ho w1 a vs1 ds es v2 d2 _ hw1.subs hH1 rr1 r2 qf fun us ru => ?_
          exact hp1 (w1.put a (.lst us)) σ (s1.wr q e1 ru) (x1.grow.trans put_grow) (hw1.wr o1.nF o1.nL o1.nr)
      | _ => simp only [mOwnM, q] at hp; exact hp.elim
end
end AG
/-! AgJ: lending, freezing, bodies of defs. -/
namespace AG
open PySem L2

/-! ### a list of one's own is lent to an expression -/
def MO.nl : MO → Bool
  | .lst ds => ds.all (D.nl 60)
  | .stream => true
  | .inst _ fs => fs.all fun p => D.nl 60 p.2
  | .dct kvs => kvs.all fun p => D.nl 60 p.1 && D.nl 60 p.2
  | .dky kvs => kvs.all fun p => D.nl 60 p.2
theorem unLs {K : PySem.W.Frag} {w w' : Wd} {n : Nat} (ih : ∀ {v : V} {d : D}, Rp K w v d → D.nl n d = true → Rp K w' v d) : ∀ {vs : List V} {ds : List D}, RpAll K w vs ds → ds.all (D.nl n) = true → RpAll K w' vs ds
  | _, _, .nil, _ => .nil
  | _, _, .cons h r, q => by
    simp only [List.all_cons, Bool.and_eq_true] at q
    exact .cons (ih h q.1) (unLs ih r q.2)
theorem Rp.unL {K : PySem.W.Frag} {w w' : Wd} (hρ : w'.ρ = w.ρ) (hF : w'.F = w.F) : ∀ {n : Nat} {v : V} {d : D}, Rp K w v d → D.nl n d = true → Rp K w' v d
  | _, _, _, .non, _ => .non
  | _, _, _, .bl b, _ => .bl b
  | _, _, _, .int i, _ => .int i
  | _, _, _, .str x, _ => .str x
  | 0, _, _, .tup _ _, q => by simp [D.nl] at q
  | n + 1, _, _, .tup h r, q => .tup (by rw [hF]; exact h) (unLs (fun a b => Rp.unL hρ hF a b) r (by simpa [D.nl] using q))
  | 0, _, _, .lst _ _, q => by simp [D.nl] at q
  | n + 1, _, _, .lst _ _, q => by simp [D.nl] at q
  | _, _, _, .ref h, _ => .ref (by rw [hρ]; exact h)
  | _, _, _, .scr h l, _ => .scr (by rw [hF]; exact h) l
theorem unL1 {K : PySem.W.Frag} {w w' : Wd} (hρ : w'.ρ = w.ρ) (hF : w'.F = w.F) {vs : List V} {ds : List D} (r : RpAll K w vs ds) (q : ds.all (D.nl 60) = true) : RpAll K w' vs ds := unLs (fun a b => Rp.unL hρ hF a b) r q
def Wd.unlock (w : Wd) (p : Addr) : Wd := ⟨w.ρ, w.F, fun b => if b = p then none else w.L b, w.H⟩
def R.lent {α : Type} (ok : α → Bool) : R α → R α
  | .ok a h => if (ok a && h.all MO.nl) = true then .ok a h else .bad
  | .exc c h => if h.all MO.nl = true then .exc c h else .bad
  | .bad => .bad
  | .pick n k => .pick n fun i => (k i).lent ok
theorem wpR_lent {α : Type} {ok : α → Bool} {r : R α} {Q : α → MH → Prop} {E : Nat → MH → Prop} (h : wpR (r.lent ok) Q E) : wpR r (fun a m => ok a = true ∧ m.all MO.nl = true ∧ Q a m) (fun c m => m.all MO.nl = true ∧ E c m) := by
  induction r with
  | ok a m =>
    unfold R.lent at h
    split at h
    · rename_i c
      simp only [Bool.and_eq_true] at c
      exact ⟨c.1, c.2, h⟩
    · exact h.elim
  | exc c m =>
    unfold R.lent at h
    split at h
    · rename_i q
      exact ⟨q, h⟩
    · exact h.elim
  | bad => exact h
  | pick n k ih => exact ⟨h.1, fun i hi => ih i (h.2 i hi)⟩
def mBorR {α : Type} (ok : α → Bool) (i : Nat) (m : Env → M α) : Env → M α := fun env => match env[i]? with
  | some (.own ds) => fun h => (m (env.set i (.v (.lst ds))) h).lent ok
  | _ => m env
def mBor (i : Nat) (m : Env → M D) : Env → M D := mBorR (D.nl 60) i m
def mBorT (i : Nat) (m : Env → M Bool) : Env → M Bool := mBorR (fun _ => true) i m
def mBorF (i : Nat) (m : Env → M (List D)) : Env → M (List D) := mBorR (fun ds => ds.all (D.nl 60)) i m
section
variable {K : PySem.W.Frag} {ca : CA} {W : WX} {w w1 : Wd} {env : Env} {σ : St} {mh : MH} {i : Nat} {ds : List D}
/-- the world in which the list is lent -/
theorem lend {a : Addr} {vs : List V} (hw : WOk K ca w mh) (hf : FrOk K w env σ) (he : env[i]? = some (.own ds)) (e1 : σ[i]? = some (some (.ref a))) (o : Own K w a ds) (hH : w.H a = some (.lst vs)) (r : RpAll K w vs ds) :
    WOk K ca (w.lock a vs) mh ∧ FrOk K (w.lock a vs) (env.set i (.v (.lst ds))) σ := by
  refine ⟨hw.lock hH o.nL o.nr, by simp [hf.len], fun j d h => ?_, fun j es h => ?_, fun j k es fs b ne h1 h2 h3 => ?_⟩
  · by_cases ij : i = j
    · subst ij
      rw [getElem?_setS, if_pos rfl] at h
      split at h
      · cases h
        exact ⟨_, e1, .lst updL_same (r.mono (lock_grow o.nL))⟩
      · cases h
    · rw [getElem?_setS, if_neg ij] at h
      obtain ⟨u, e2, e3⟩ := hf.v j d h
      exact ⟨u, e2, e3.mono (lock_grow o.nL)⟩
  · by_cases ij : i = j
    · subst ij
      rw [getElem?_setS, if_pos rfl] at h
      split at h <;> cases h
    · rw [getElem?_setS, if_neg ij] at h
      obtain ⟨b, e2, o2⟩ := hf.own j es h
      have ab : b ≠ a := fun e => by subst e; exact hf.sep i j ds es b ij he h e1 e2
      obtain ⟨us, q1, q2⟩ := o2.at'
      exact ⟨b, e2, ⟨us, q1, q2.mono (lock_grow o.nL)⟩, o2.nF, by show updL w.L a vs b = none; rw [updL_ne ab]; exact o2.nL, o2.nr⟩
  · by_cases ij : i = j
    · subst ij
      rw [getElem?_setS, if_pos rfl] at h1
      split at h1 <;> cases h1
    · by_cases ik : i = k
      · subst ik
        rw [getElem?_setS, if_pos rfl] at h2
        split at h2 <;> cases h2
      · rw [getElem?_setS, if_neg ij] at h1
        rw [getElem?_setS, if_neg ik] at h2
        exact hf.sep j k es fs b ne h1 h2 h3
/-- .. and given back -/
theorem back {a : Addr} {vs : List V} {w2 : Wd} {mh2 : MH} (hw : WOk K ca w mh) (o : Own K w a ds) (hH : w.H a = some (.lst vs)) (x : Ext (w.lock a vs) w2) (hw2 : WOk K ca w2 mh2) (hn : mh2.all MO.nl = true) :
    Ext w (w2.unlock a) ∧ WOk K ca (w2.unlock a) mh2 := by
  have Lne : ∀ b, b ≠ a → (w2.unlock a).L b = w2.L b := fun b h => by simp [Wd.unlock, h]
  have La : (w2.unlock a).L a = none := by simp [Wd.unlock]
  refine ⟨⟨x.rho, x.fz, fun b u h => ?_, x.kp, x.nf, fun b u h => ?_, x.th⟩, ⟨hw2.sub, fun b u h => ?_, hw2.len, hw2.nd, fun n b mo h1 h2 => ?_⟩⟩
  · have ba : b ≠ a := fun e => by subst e; rw [o.nL] at h; cases h
    rw [Lne b ba]
    refine x.lz b u ?_
    show updL w.L a vs b = some u
    rw [updL_ne ba]
    exact h
  · by_cases ba : b = a
    · subst ba; rw [La] at h; cases h
    · rw [Lne b ba] at h
      rcases x.nl b u h with q | q
      · have q : updL w.L a vs b = some u := q
        rw [updL_ne ba] at q
        exact .inl q
      · exact .inr q
  · by_cases ba : b = a
    · subst ba; rw [La] at h; cases h
    · rw [Lne b ba] at h; exact hw2.subL b u h
  · obtain ⟨f, l, q⟩ := hw2.obj n b mo h1 h2
    refine ⟨f, ?_, ?_⟩
    · by_cases ba : b = a
      · subst ba; exact La
      · rw [Lne b ba]; exact l
    · have qn : mo.nl = true := List.all_eq_true.mp hn mo (List.mem_of_getElem? h2)
      cases mo with
      | lst es => obtain ⟨us, e, rr⟩ := q; exact ⟨us, e, unL1 (w := w2) (w' := w2.unlock a) rfl rfl rr qn⟩
      | stream => obtain ⟨ns, x, y, z, us, e, rr, l⟩ := q; exact ⟨ns, x, y, z, us, e, unL1 (w := w2) (w' := w2.unlock a) rfl rfl rr (by simp [D.nl]), l⟩
      | inst c fs =>
        obtain ⟨dx, us, e, rr⟩ := q
        refine ⟨dx, us, e, unL1 (w := w2) (w' := w2.unlock a) rfl rfl rr ?_⟩
        rw [List.all_map]
        exact qn
      | dky kvs =>
        obtain ⟨us, e, rr⟩ := q
        refine ⟨us, e, unL1 (w := w2) (w' := w2.unlock a) rfl rfl rr ?_⟩
        rw [List.all_map]
        exact qn
      | dct kvs =>
        obtain ⟨xs, e, y, z, rr, nd⟩ := q
        refine ⟨xs, e, y, z, ?_, nd⟩
        have all : ∀ {kvs : List (D × D)} {xs : List (NestedKey × Addr × V)}, DKs K w2 kvs xs → kvs.all (fun p => D.nl 60 p.1 && D.nl 60 p.2) = true → DKs K (w2.unlock a) kvs xs := by
          intro kvs xs r
          induction r with
          | nil => exact fun _ => .nil
          | cons h t ih =>
            intro q
            rw [List.all_cons, Bool.and_eq_true, Bool.and_eq_true] at q
            exact .cons ⟨h.1, h.2.1, Rp.unL (w := w2) (w' := w2.unlock a) rfl rfl h.2.2.1 q.1.1, Rp.unL (w := w2) (w' := w2.unlock a) rfl rfl h.2.2.2 q.1.2⟩ (ih q.2)
        exact all rr qn
/-- a part that may read the list at i -/
theorem bor_read {α β : Type} {rep : Wd → β → α → Prop} {ok : α → Bool} {m : Env → M α} {H : Hp} {Q : β → Hp → Prop} (hrep : ∀ (w : Wd) (a : Addr) (v : β) (d : α), rep w v d → ok d = true → rep (w.unlock a) v d)
    (h : denG rep K ca W (mBorR ok i m) σ H Q) : denG rep K ca W m σ H Q := by
  obtain ⟨w, mh, env, rfl, hw, hf, hp⟩ := h
  cases q : env[i]? with
  | none => simp only [mBorR, q] at hp; exact ⟨w, mh, env, rfl, hw, hf, hp⟩
  | some sl =>
    cases sl with
    | own ds =>
      simp only [mBorR, q] at hp
      obtain ⟨a, e1, o⟩ := hf.own i ds q
      obtain ⟨vs, hH, r⟩ := o.at'
      obtain ⟨lw, lf⟩ := lend hw hf q e1 o hH r
      refine ⟨w.lock a vs, mh, _, rfl, lw, lf, wpR_mono (wpR_lent hp) (fun d mh' z w' v x hw' rr => ?_) fun cl mh' z w' x hw' => ?_⟩
      · obtain ⟨x', hw2⟩ := back hw o hH x hw' z.2.1
        exact z.2.2 (w'.unlock a) v x' hw2 (hrep _ _ _ _ rr z.1)
      · obtain ⟨x', hw2⟩ := back hw o hH x hw' z.1
        exact z.2 (w'.unlock a) x' hw2
    | no => simp only [mBorR, q] at hp; exact ⟨w, mh, env, rfl, hw, hf, hp⟩
    | v d => simp only [mBorR, q] at hp; exact ⟨w, mh, env, rfl, hw, hf, hp⟩
theorem borF_read {m : Env → M (List D)} {H : Hp} {Q : VK} (h : denF K ca W (mBorF i m) σ H Q) : denF K ca W m σ H Q := by
  obtain ⟨w, mh, env, rfl, hw, hf, hp⟩ := h
  cases q : env[i]? with
  | none => simp only [mBorF, mBorR, q] at hp; exact ⟨w, mh, env, rfl, hw, hf, hp⟩
  | some sl =>
    cases sl with
    | own ds =>
      simp only [mBorF, mBorR, q] at hp
      obtain ⟨a, e1, o⟩ := hf.own i ds q
      obtain ⟨vs, hH, r⟩ := o.at'
      obtain ⟨lw, lf⟩ := lend hw hf q e1 o hH r
      refine ⟨w.lock a vs, mh, _, rfl, lw, lf, wpR_mono (wpR_lent hp) (fun d mh' z w' p x hw' hn op => ?_) fun cl mh' z w' x hw' => ?_⟩
      · obtain ⟨x', hw2⟩ := back hw o hH x hw' z.2.1
        obtain ⟨us, h1, r1⟩ := op.at'
        have pa : p ≠ a := fun e => by
          subst e
          have hn : w.H p = none := hn
          rw [hH] at hn; cases hn
        exact z.2.2 (w'.unlock a) p x' hw2 hn ⟨⟨us, h1, unL1 (w := w') (w' := w'.unlock a) rfl rfl r1 z.1⟩, op.nF, by simp only [Wd.unlock, pa, if_false]; exact op.nL, op.nr⟩
      · obtain ⟨x', hw2⟩ := back hw o hH x hw' z.1
        exact z.2 (w'.unlock a) x' hw2
    | no => simp only [mBorF, mBorR, q] at hp; exact ⟨w, mh, env, rfl, hw, hf, hp⟩
    | v d => simp only [mBorF, mBorR, q] at hp; exact ⟨w, mh, env, rfl, hw, hf, hp⟩
end
section
variable {X : Cx} {ca : CA} {W : WX} {e : Expr} {m : Env → M D} {mt : Env → M Bool} {mf : Env → M (List D)} {es : List Expr} {st : Stmt} {n : Nat} {ma : Env → M Fl}
theorem me_bor (i : Nat) (h : ME X ca W e m) : ME X ca W e (mBor i m) := PE.mono h fun _ _ _ q => bor_read (fun w a v d r o => Rp.unL (w := w) (w' := w.unlock a) rfl rfl r o) q
theorem mt_bor (i : Nat) (h : MT X ca W e mt) : MT X ca W e (mBorT i mt) := PT.mono h fun _ _ _ q => bor_read (fun w a v d r _ => r) q
theorem mf_bor (i : Nat) (h : MF X ca W e mf) : MF X ca W e (mBorF i mf) := PE.mono h fun _ _ _ q => borF_read q

/-! ### a list of one's own is not written any more -/
def mFrzB (i : Nat) (m : Env → M Fl) : Env → M Fl := fun env => match env[i]? with
  | some (.own ds) => m (env.set i (.v (.lst ds)))
  | _ => m env
theorem frz_read {K : PySem.W.Frag} {i : Nat} {D' : Ends} {σ : St} {H : Hp} (h : denS K ca W n (mFrzB i ma) D' σ H) : denS K ca W n ma D' σ H := by
  obtain ⟨w0, w, mh, env, rfl, hw, s, hp⟩ := h
  cases q : env[i]? with
  | none => simp only [mFrzB, q] at hp; exact ⟨w0, w, mh, env, rfl, hw, s, hp⟩
  | some sl =>
    cases sl with
    | own ds =>
      simp only [mFrzB, q] at hp
      obtain ⟨a, e1, o⟩ := s.fr.own i ds q
      obtain ⟨vs, hH, r⟩ := o.at'
      obtain ⟨lw, lf⟩ := lend hw s.fr q e1 o hH r
      refine ⟨w0, w.lock a vs, mh, _, rfl, lw, ⟨s.ext.lock (s.ow i ds a q e1) o.nL, lf, s.ln, fun j es b h1 h2 => ?_⟩, wpR_mono hp (fun _ _ z => z.grow (lock_grow o.nL)) fun _ _ z => z⟩
      by_cases ij : i = j
      · subst ij
        rw [getElem?_setS, if_pos rfl] at h1
        split at h1 <;> cases h1
      · rw [getElem?_setS, if_neg ij] at h1
        exact s.ow j es b h1 h2
    | no => simp only [mFrzB, q] at hp; exact ⟨w0, w, mh, env, rfl, hw, s, hp⟩
    | v d => simp only [mFrzB, q] at hp; exact ⟨w0, w, mh, env, rfl, hw, s, hp⟩
theorem ms_frz (i : Nat) (h : MS X ca W n st ma) : MS X ca W n st (mFrzB i ma) := PS.mono h fun _ _ _ q => frz_read q
end
end AG
/-! AgK: bodies of defs, recursion, the law's end. -/
namespace AG
open PySem L2 PyProof.Rows

/-- a def of the text as it stands behind the top -/
structure DefOk (K : PySem.W.Frag) (mg : Str → Option Value) (x : Str) (st : Stmt) (ps : List Str) : Prop where
  ex : ∃ (f : Addr) (fd : FuncData), Fun K x x st f fd ∧ mg x = some (.ref f) ∧ ∀ us : List Value, us.length = ps.length → bindArgs fd ⟨us, []⟩ = pure (ps.zip us)
def flD (fl : Fl) : M D := match fl with | .rt d => M.pure d | .nx _ => M.pure .non | _ => M.bad
def mFn (N : Nat) (m : Env → M Fl) : LOp := fun ds => M.bind (m (ds.map Slot.v ++ List.replicate (N - ds.length) Slot.no)) flD
section
variable {K : PySem.W.Frag} {w : Wd}
theorem start_fr {vs : List V} {ds : List D} {N : List Str} (r : RpAll K w vs ds) : FrOk K w (ds.map Slot.v ++ List.replicate (N.length - ds.length) Slot.no) (L2.start N vs) := by
  have hl := r.length
  have notOwn : ∀ (i : Nat) (es : List D), (ds.map Slot.v ++ List.replicate (N.length - ds.length) Slot.no)[i]? ≠ some (Slot.own es) := fun i es h => by
    rcases List.mem_append.mp (List.mem_of_getElem? h) with q | q
    · obtain ⟨d, _, e⟩ := List.mem_map.mp q
      cases e
    · have := List.eq_of_mem_replicate q
      cases this
  refine ⟨by simp [L2.start, hl], fun i d h => ?_, fun i es h => absurd h (notOwn i es), fun i j es fs a _ h => absurd h (notOwn i es)⟩
  by_cases li : i < ds.length
  · rw [List.getElem?_append_left (by simpa using li)] at h
    rw [List.getElem?_map] at h
    have e : ds[i]? = some d := by
      cases q : ds[i]? with
      | none => rw [q] at h; cases h
      | some z => rw [q] at h; cases h; rfl
    obtain ⟨v, e1, e2⟩ := r.get e
    refine ⟨v, ?_, e2⟩
    unfold L2.start
    rw [List.getElem?_append_left (by rw [List.length_map, hl]; exact li), List.getElem?_map, e1]
    rfl
  · rw [List.getElem?_append_right (by simpa using li)] at h
    have := List.eq_of_mem_replicate (List.mem_of_getElem? h)
    cases this
end
section
variable {P : Program} {w : World} {K : PySem.W.Frag} {mg : Str → Option Value} {base : Heap} {ca : CA}
theorem FnM.up {j k : Nat} {x : Str} {n : Nat} {m : LOp} (F : FnM P w K mg base ca j x n m) (h : j ≤ k) : FnM P w K mg base ca k x n m := by
  obtain ⟨f, fd, ps, ok, r⟩ := F.ex
  exact ⟨f, fd, ps, ok.mono h, r⟩
/-- a def's body -/
def BodyOk (P : Program) (w : World) (K : PySem.W.Frag) (mg : Str → Option Value) (base : Heap) (ca : CA) (k : Nat) (x : Str) (st : Stmt) (N : List Str) (mb : Env → M Fl) : Prop :=
  ∀ (f : Addr) (cdv : Value) (A : Around) (outer : List PySem.Env) (s : Shared) (H : Hp) (E : XK), Room k (A.deeper (envOfC x (defScope st) s.heap.objs.size f cdv)) →
      MSs (cxOf (L2.CX P w) P w K mg base N x (defScope st) f cdv A outer s H E) ca (fun cls d _ H' => E cls d H') N.length (defBody st) mb
theorem fn_body {x : Str} {st : Stmt} {N ps : List Str} {k : Nat} (D : DefOk K mg x st ps) (S : FnScope N ps (defScope st)) :
    ∃ (f : Addr) (fd : FuncData), mg x = some (.ref f) ∧ (∀ us : List Value, us.length = ps.length → bindArgs fd ⟨us, []⟩ = pure (ps.zip us)) ∧
      ∀ (base : Heap) (mb : Env → M Fl), BodyOk P w K mg base ca k x st N mb → FnOk P w K mg base (L2.CX P w) (k + 1) f fd ps (spM K ca ps.length (mFn N.length mb)) := by
  obtain ⟨f, fd, F, hm, hbd⟩ := D.ex
  have hpl : ps.length ≤ N.length := by have := congrArg List.length S.pre; rw [List.length_take] at this; omega
  refine ⟨f, fd, hm, hbd, fun base mb hb => F.okX S (fun vs H Q E h => ?_) (fun cdv A outer s H vs Q E hr h => ⟨_, hb f cdv A outer s H E hr, ?_⟩)⟩
  · obtain ⟨_, _, _, _, _, _, h, _⟩ := h
    exact h
  obtain ⟨w0, mh, ds, rfl, hw, r, hl, hp⟩ := h
  refine ⟨w0, w0, mh, _, rfl, hw, ⟨Ext.refl _, start_fr (N := N) r, by simp [L2.start]; omega, fun i es a h1 => ?_⟩, ?_⟩
  · rcases List.mem_append.mp (List.mem_of_getElem? h1) with q | q
    · obtain ⟨d, _, e⟩ := List.mem_map.mp q
      cases e
    · have := List.eq_of_mem_replicate q
      cases this
  · refine wpR_mono (wpR_bind.mp hp) (fun fl mh' z => ?_) fun cl mh' z w1 σ1 x1 hw1 _ => z w1 x1 hw1
    cases fl with
    | nx e => exact fun w1 σ1 s1 _ hw1 => z w1 .non s1.ext hw1 .non
    | rt d => exact fun w1 v x1 hw1 rr => z w1 v x1 hw1 rr
    | bk e => exact z.elim
    | ct e => exact z.elim
theorem fnm_mk {x : Str} {st : Stmt} {N ps : List Str} {k : Nat} {mb : Env → M Fl} (D : DefOk K mg x st ps) (S : FnScope N ps (defScope st)) (hb : BodyOk P w K mg base ca k x st N mb) : FnM P w K mg base ca (k + 1) x ps.length (mFn N.length mb) := by
  obtain ⟨f, fd, F, hm, hbd⟩ := D.ex
  obtain ⟨f', fd', hm', hbd', ok⟩ := fn_body (P := P) (w := w) (ca := ca) (k := k) D S
  rw [hm] at hm'
  cases hm'
  exact ⟨f, fd', ps, ok base mb hb, hm, F.kp, hbd'⟩
/-- a def that calls itself: n calls at most -/
def recF (f : LOp → LOp) : Nat → LOp
  | 0 => fun _ => M.bad
  | n + 1 => f (recF f n)
theorem fnm_none {x : Str} {st : Stmt} {ps : List Str} {k : Nat} (D : DefOk K mg x st ps) : FnM P w K mg base ca k x ps.length (fun _ => M.bad) := by
  obtain ⟨f, fd, F, hm, hbd⟩ := D.ex
  have no : ∀ vs H Q E, ¬ spM K ca ps.length (fun _ => M.bad) vs H Q E := fun vs H Q E ⟨_, _, _, _, _, _, _, hp⟩ => hp.elim
  exact ⟨f, fd, ps, ⟨fun vs H Q E h => absurd h (no vs H Q E), fun A outer s H args us vs Q E _ _ _ _ h => absurd h (no vs H Q E)⟩, hm, F.kp, hbd⟩
theorem fnm_rec {x : Str} {st : Stmt} {ps : List Str} {lv : Nat} {f : LOp → LOp} (D : DefOk K mg x st ps)
    (h : ∀ (k : Nat) (g : LOp), lv ≤ k → FnM P w K mg base ca k x ps.length g → FnM P w K mg base ca (k + 1) x ps.length (f g)) : ∀ n, FnM P w K mg base ca (lv + n) x ps.length (recF f n)
  | 0 => fnm_none D
  | n + 1 => h (lv + n) _ (Nat.le_add_right _ _) (fnm_rec D h n)
/-- two defs that call each other -/
def recP (f g : LOp → LOp → LOp) : Nat → LOp × LOp
  | 0 => (fun _ => M.bad, fun _ => M.bad)
  | n + 1 => (f (recP f g n).1 (recP f g n).2, g (recP f g n).1 (recP f g n).2)
theorem fnm_recP {x y : Str} {st su : Stmt} {ps qs : List Str} {lv : Nat} {f g : LOp → LOp → LOp} (D : DefOk K mg x st ps) (D2 : DefOk K mg y su qs)
    (h : ∀ (k : Nat) (a b : LOp), lv ≤ k → FnM P w K mg base ca k x ps.length a → FnM P w K mg base ca k y qs.length b → FnM P w K mg base ca (k + 1) x ps.length (f a b))
    (h2 : ∀ (k : Nat) (a b : LOp), lv ≤ k → FnM P w K mg base ca k x ps.length a → FnM P w K mg base ca k y qs.length b → FnM P w K mg base ca (k + 1) y qs.length (g a b)) :
    ∀ n, FnM P w K mg base ca (lv + n) x ps.length (recP f g n).1 ∧ FnM P w K mg base ca (lv + n) y qs.length (recP f g n).2
  | 0 => ⟨fnm_none D, fnm_none D2⟩
  | n + 1 => by
    obtain ⟨a, b⟩ := fnm_recP D D2 h h2 n
    exact ⟨h (lv + n) _ _ (Nat.le_add_right _ _) a b, h2 (lv + n) _ _ (Nat.le_add_right _ _) a b⟩
theorem def_mk {x : Str} {st : Stmt} {ps : List Str} {f : Addr} {oc : Value} {od an : Option Addr} {osl : Array (Option Value)} {kV doc pm cdv ct : Value} {h : Heap} (X : K.In h) (G : h.Ns mainGlobals mg) (a : PySem.W.nsIn K mainGlobals x = some (some (.ref f)))
    (l : K.lookup f = some ⟨oc, od, .func (PySem.W.fnOf x x (defArgs st) (defBody st) (defScope st) .none kV doc pm an cdv ct), osl⟩)
    (c : PySem.W.codeIn K cdv x = true) (k : PySem.W.keepIn K (.ref f) = true)
    (hb : ∀ (kV doc pm : Value) (an : Option Addr) (cdv ct : Value) (us : List Value), us.length = ps.length → bindArgs (PySem.W.fnOf x x (defArgs st) (defBody st) (defScope st) .none kV doc pm an cdv ct) ⟨us, []⟩ = pure (ps.zip us)) : DefOk K mg x st ps :=
  ⟨_, _, fun_mk l c k, PySem.W.mg_of X G a, hb kV doc pm an cdv ct⟩
/-- the law's answer -/
def LawM (m : LOp) : Prop := ∀ ns : List Int, ns.length ≤ 63 → wpR (m [.scr ns] []) (fun d _ => d = .bl true) (fun _ _ => False)
def spLaw (K : PySem.W.Frag) : Sp := fun vs H Q _ => ∃ (a : Addr) (ns : List Int), vs = [.ref a] ∧ Only H ∧ SqL K H a (ns.map V.int) ∧ ns.length ≤ 63 ∧ ∀ H', Q (.bl true) H'
theorem law_sp {m : LOp} (h : LawM m) {vs : List V} {H : Hp} {Q : VK} {E : XK} (q : spLaw K vs H Q E) : spM K ca 1 m vs H Q E := by
  obtain ⟨a, ns, rfl, hO, hS, hl, k⟩ := q
  refine ⟨⟨[], H, fun _ => none, H⟩, [], [.scr ns], rfl, ⟨fun _ _ h => h, fun a xs h => (by cases h), rfl, List.nodup_nil, fun n a mo h => by cases h⟩, .cons (.scr hS hl) .nil, rfl, ?_⟩
  refine wpR_mono (h ns hl) (fun d mh' e w' v x hw' r => ?_) fun _ _ z => z.elim
  subst e
  have r : Rp K w' v (.bl true) := r
  cases r
  exact k _
/-- a module's empty tuple -/
theorem gc_tup0 {x : Str} {a : Addr} {h : Heap} {od : Option Addr} {n : Nat} {osl : Array (Option Value)} (X : K.In h) (G : h.Ns mainGlobals mg) (e : PySem.W.nsIn K mainGlobals x = some (some (.ref a)))
    (l : K.lookup a = some ⟨.type "tuple", od, .seq #[] n, osl⟩) : GC K mg x (.tup []) :=
  ⟨.ref a, .ref a, PySem.W.mg_of X G e, rfl, fun w => .tup (.inr ⟨_, _, _, l, rfl, rfl, by decide, .nil⟩) .nil⟩
theorem gc_int {x : Str} {i : Int} {t : Nat} {h : Heap} (X : K.In h) (G : h.Ns mainGlobals mg) (e : PySem.W.nsIn K mainGlobals x = some (some (.int i t))) : GC K mg x (.int i) :=
  ⟨.int i, _, PySem.W.mg_of X G e, ⟨_, rfl⟩, fun w => .int i⟩
end
theorem walkM {l : PySem.W.OpenLaw} {q : Program} {loose : List Str} {XP : (Str → Option Value) → Heap → Prop} {YP : World → Heap → Prop} {d : DefRec} {K : Params → PySem.W.Frag} {m : LOp} {lv : Nat} (hm : LawM m) (hn : l.most = some 63) (hdf : d.params.defaults = []) (hr : Room lv callerA)
    (hY : ∀ (w : World) (h : Heap), YP w h → (K w.params).In h)
    (F : ∀ (w : World) (mg : Str → Option Value) (h : Heap), (K w.params).In h → h.Ns mainGlobals mg →
      ∃ (ca : CA) (x : Str) (st : Stmt) (k : Nat) (N : List Str) (mb : Env → M Fl), x = d.name ∧ DefOk (K w.params) mg x st ["script"] ∧ FnScope N ["script"] (defScope st) ∧ lv = k + 1 ∧ m = mFn N.length mb ∧ ∀ base : Heap, (K w.params).In base → base.Ns mainGlobals mg →
        BodyOk l.prog w (K w.params) mg base ca k x st N mb) :
    PySem.W.WalkO q loose XP YP l.row.toRowW d [] (fun f vs => PySem.call f vs) :=
  L2.walk_of (n := 63) (k := lv) (x := "script") (CX := fun w => L2.CX l.prog w) (sp := fun w => spLaw (K w.params)) hn (by decide) hdf hr hY
    (fun w mg fa h KX G hmg => by
      obtain ⟨ca, x, st, k, N, mb, e, D, S, rfl, rfl, F2⟩ := F w mg h KX G
      obtain ⟨f, fd, hf, hb, ok⟩ := fn_body (ca := ca) D S
      rw [e, hmg] at hf
      cases hf
      exact ⟨fd, fun s u => .of_eq (hb [u] rfl), fun base B1 B2 => (ok base mb (F2 base B1 B2)).imp fun vs H Q E z => law_sp hm z⟩)
    (fun w H a ns hl hO hS => ⟨a, ns, rfl, hO, hS, hl, fun _ => rfl⟩) fun _ _ _ _ _ z => by
      obtain ⟨_, _, _, _, _, _, _, _, _, _, _, _, z⟩ := z
      exact z
end AG
/-! AgL: sorting of alike data, tuples without items too. -/
namespace AG
open PySem L2 PyProof.Rows PySem.SeqAt PySem.W

section
variable {prog : Program} {w : World} {A : Around} {E : Value → Shared → Prop} {s : Shared}
theorem tuple_lt_call {Q : Value → Shared → Prop} {l b : Addr} {items items2 : Array Value} {e r : Nat → Bool} (hl : s.heap.IsTuple l items) (hb : s.heap.IsTuple b items2)
    (he : ∀ j (h1 : j < items.size) (h2 : j < items2.size), EqAt A.in1 s items[j] items2[j] (e j)) (hr : ∀ j (h1 : j < items.size) (h2 : j < items2.size), e j = false → RcLt A.in1 s items[j] items2[j] (r j))
    (h : Q (.bool (firstLt e r (decide (items.size < items2.size)) (List.range (min items.size items2.size)))) s) : wpAny (model prog w) A (call (.builtin "tuple.__lt__") [.ref l, .ref b]) Q E s := by
  obtain ⟨⟨cls, dd, data, sl⟩, ho, hc, n, hd⟩ := id hl
  obtain ⟨⟨cls2, dd2, data2, sl2⟩, ho2, hc2, n2, hd2⟩ := id hb
  simp only at hc hd hc2 hd2
  subst hc hd hc2 hd2
  exact call_meets F.slot_tuple_lt ⟨_, ho, rfl⟩ F.entry_tuple_lt (F.args_tuple_lt_2 _ _) (tuple_ltAt l b items items2 n n2 dd dd2 sl sl2 e r) ⟨ho, ho2, he, hr, h⟩
theorem oneLt_tuple {xs ys : List PyData} {a b : Value} {as bs : List Addr} {Q : Bool → Shared → Prop} (ra : Reads s.heap a (.tuple xs) as) (rb : Reads s.heap b (.tuple ys) bs) (h : alike (.tuple xs) (.tuple ys) = true)
    (hu : A.units + min (PyData.tuple xs).depth (PyData.tuple ys).depth < cLine) (hq : Q (dataLt (.tuple xs) (.tuple ys)) s) : wpAny (model prog w) A (oneLt' true a b) Q E s := by
  have hal : alikeAll xs ys = true := by simpa [alike] using h
  cases ra with
  | @tuple l o vs n _ as₁ h1 h2 h3 h4 =>
    cases rb with
    | @tuple l' o' vs' n' _ bs₁ k1 k2 k3 k4 =>
      have n1 : vs.size = xs.length := by simpa using PySem.SeqAt.ReadsAll.length _ _ _ h4
      have n2 : vs'.size = ys.length := by simpa using PySem.SeqAt.ReadsAll.length _ _ _ k4
      rw [dataLt_tuple, ← firstLt_toks xs ys hal, ← n1, ← n2] at hq
      rw [oneLt'_eq]
      simp only [if_true]
      refine wpAny_bind (wpAny_cRoomFor (room_here hu) ?_)
      refine wpAny_bind (wpAny_callSpecialIfBound?_slot (T := "tuple") ⟨_, h1, h2⟩ F.slot_tuple_lt (tuple_lt_call (e := pairEq xs ys) (r := fun j => dataLt (xs.getD j .none) (ys.getD j .none)) ⟨_, h1, h2, _, h3⟩ ⟨_, k1, k2, _, k3⟩ (fun j j1 j2 => ?_) (fun j j1 j2 hj => ?_) ?_))
      · have := eqAt_alikeAll xs ys A.in1 s vs.toList vs'.toList _ _ h4 k4 hal (room_in hu) j (by simpa using j1) (by simpa using j2)
        simpa using this
      · have := rcLt_alikeAll xs ys A.in1 s vs.toList vs'.toList _ _ h4 k4 hal (room_in hu) j (by simpa using j1) (by simpa using j2) hj
        simpa using this
      · exact wpAny_truthy_bool hq
end
section
variable {M : Model} {A : Around} {E : Value → Shared → Prop} {s : Shared}
/-- the first items, where the values read as tuples -/
theorem firsts_tup : ∀ (vs : List Value) (ds : List PyData) {Q : List (Option Value) → Shared → Prop}, EachIs (fun v d => ∃ as, Reads s.heap v d as) vs ds → (∀ d ∈ ds, ∃ xs, d = .tuple xs) →
    (∀ fs : List (Option Value), EachIs (fun f d => ∃ xs, d = PyData.tuple xs ∧ f.isSome = !xs.isEmpty) fs ds → Q fs s) → wpAny M A (vs.mapM firstOfTuple') Q E s
  | _, _, _, .nil, _, h => by rw [List.mapM_nil]; exact wpAny_pure (h _ .nil)
  | _, _, Q, .cons (a := v) (b := d) (as := vs) (bs := ds) ⟨as, r⟩ t, ht, h => by
    obtain ⟨xs, rfl⟩ := ht d List.mem_cons_self
    cases r with
    | @tuple l o us n _ as₁ h1 h2 h3 h4 =>
      rw [List.mapM_cons]
      refine wpAny_bind ?_
      rw [kas_first_eq]
      refine wpAny_bind (Looks.here (show Looks M s.heap (typeOf (.ref l)) o.cls from (Looks.ld h1).andThen .now) ?_)
      rw [h2, if_neg (by first | decide | simp)]
      refine wpAny_bind (listItems_at h1 h3 (wpAny_pure ?_))
      refine wpAny_bind (firsts_tup vs ds (Q := fun bs s' => wpAny M A (pure (us[0]? :: bs)) Q E s') t (fun d hd => ht d (List.mem_cons_of_mem _ hd)) fun fs hfs => wpAny_pure (h _ (.cons ⟨xs, rfl, ?_⟩ hfs)))
      have n1 : us.size = xs.length := by simpa using PySem.SeqAt.ReadsAll.length _ _ _ h4
      cases xs with
      | nil =>
        have : us[0]? = none := by rw [Array.getElem?_eq_none_iff, n1]; simp
        rw [this]; rfl
      | cons x xs =>
        have : us[0]? = some (us[0]'(by rw [n1]; simp)) := Array.getElem?_eq_getElem _
        rw [this]; rfl
end
section
variable {prog : Program} {w : World} {A : Around} {s : Shared}
theorem eachIs_all {fs : List (Option Value)} {ds : List PyData} (h : EachIs (fun f d => ∃ xs, d = PyData.tuple xs ∧ f.isSome = !xs.isEmpty) fs ds) (hn : ∃ d ∈ ds, d = PyData.tuple []) : fs.all (·.isSome) = false := by
  induction h with
  | nil => obtain ⟨d, h, _⟩ := hn; cases h
  | @cons a b as bs h t ih =>
    obtain ⟨d, hd, e⟩ := hn
    rcases List.mem_cons.mp hd with q | q
    · subst q
      obtain ⟨xs, e1, e2⟩ := h
      rw [e] at e1
      cases e1
      simp [List.all_cons, e2]
    · rw [List.all_cons, ih ⟨d, q, e⟩, Bool.and_false]
/-- tuples, one of them without items -/
theorem sortsAt_tups {vs : List Value} {ds : List PyData} (e : EachIs (fun v d => ∃ as, Reads s.heap v d as) vs ds) (hal : AllAlike ds) (ht : ∀ d ∈ ds, ∃ xs, d = .tuple xs) (hn : ∃ d ∈ ds, d = PyData.tuple []) (hu : ∀ d, d ∈ ds → A.units + d.depth < cLine) : SortsAt prog w A s (dataKind s.heap ds) vs := by
  have room : ∀ {d d' : PyData}, d ∈ ds → A.units + min d.depth d'.depth < cLine := fun {d d'} hd => Nat.lt_of_le_of_lt (Nat.add_le_add_left (Nat.min_le_left _ _) _) (hu d hd)
  refine ⟨fun v hv => ?_, ?_⟩
  · obtain ⟨d, hd, as, r⟩ := e.left v hv
    exact ⟨_, dataKind_some hal hd r⟩
  · have oneT : H.LtAt prog w A s (dataKind s.heap ds) oneType' := by
      intro E x y a b Q ha hb hq
      obtain ⟨d, as, hd, ra, rfl⟩ := dataKind_inv ha
      obtain ⟨d', as', hd', rb, rfl⟩ := dataKind_inv hb
      rw [keyLt'_oneType]
      obtain ⟨xs, rfl⟩ := ht d hd
      obtain ⟨ys, rfl⟩ := ht d' hd'
      exact oneLt_tuple ra rb (hal _ hd _ hd') (room hd) hq
    have genT : H.LtAt prog w A s (dataKind s.heap ds) general' := by
      intro E x y a b Q ha hb hq
      obtain ⟨d, as, hd, ra, rfl⟩ := dataKind_inv ha
      obtain ⟨d', as', hd', rb, rfl⟩ := dataKind_inv hb
      show wpAny (model prog w) A (oneLt' false x y) Q E s
      obtain ⟨xs, rfl⟩ := ht d hd
      exact oneLt_alike (fun h => by cases h) ra rb (hal _ hd _ hd') (by simp) (room hd) hq
    -- which kind: by the first value
    by_cases hf : ∃ x r rest, ds = PyData.tuple (x :: r) :: rest
    · refine ⟨general', genT, fun h2 E Q hq => ?_⟩
      rw [kat_kind_eq, List.mapM_toArray, map_eq_pure_bind]
      refine wpAny_bind (wpAny_bind (firsts_tup vs ds e ht fun fs hfs => wpAny_pure ?_))
      have hall := eachIs_all hfs hn
      rw [if_neg (by simp only [List.all_toArray, hall]; decide)]
      obtain ⟨x, r, rest, rfl⟩ := hf
      cases hfs with
      | cons h t =>
        obtain ⟨zs, e1, e2⟩ := h
        cases e1
        rename_i f fs'
        have : ((f :: fs').toArray[0]?.bind id).isSome = true := by simpa using e2
        rw [if_pos this]
        exact wpAny_pure hq
    · refine ⟨oneType', oneT, fun h2 E Q hq => ?_⟩
      rw [kat_kind_eq, List.mapM_toArray, map_eq_pure_bind]
      refine wpAny_bind (wpAny_bind (firsts_tup vs ds e ht fun fs hfs => wpAny_pure ?_))
      have hall := eachIs_all hfs hn
      rw [if_neg (by simp only [List.all_toArray, hall]; decide)]
      have h0 : (fs.toArray[0]?.bind id).isSome = false := by
        cases hfs with
        | nil => rfl
        | cons h t =>
          obtain ⟨zs, e1, e2⟩ := h
          subst e1
          cases zs with
          | nil => simpa using e2
          | cons x r => exact absurd ⟨x, r, _, rfl⟩ hf
      rw [if_neg (by rw [h0]; decide)]
      rw [oneTypeOnly'_eq, List.mapM_toArray, map_eq_pure_bind]
      refine wpAny_bind (wpAny_bind (wpAny_bind (kas_mapM (r := Value.type "tuple") _ (fun v hv Q' hq' => ?_) (wpAny_pure ?_))))
      · obtain ⟨d, hd, as, r⟩ := e.left v hv
        obtain ⟨xs, rfl⟩ := ht d hd
        exact (looks_reads r).here hq'
      · have hall2 : ((List.map (fun _ => Value.type "tuple") vs).toArray.all fun x => x == Value.type "tuple") = true := by
          simp only [List.all_toArray, List.all_map, List.all_eq_true]
          intro _ _
          rfl
        obtain ⟨v₁, v₂, rest, rfl⟩ : ∃ v₁ v₂ rest, vs = v₁ :: v₂ :: rest := by
          match vs, h2 with
          | [], h2 => simp at h2
          | [_], h2 => simp at h2
          | v₁ :: v₂ :: rest, _ => exact ⟨v₁, v₂, rest, rfl⟩
        have h1 : (List.map (fun _ => Value.type "tuple") (v₁ :: v₂ :: rest)).toArray[0]? = some (Value.type "tuple") := by simp
        rw [h1]
        simp only [hall2, if_true]
        exact wpAny_pure (wpAny_pure hq)
/-- all tuples, or none a tuple or None -/
def Srt (ds : List PyData) : Prop := (∀ d ∈ ds, ∃ xs, d = .tuple xs) ∨ ∀ d, d ∈ ds → d ≠ .none ∧ ∀ xs, d ≠ .tuple xs
theorem sortsAt {vs : List Value} {ds : List PyData} (e : EachIs (fun v d => ∃ as, Reads s.heap v d as) vs ds) (hal : AllAlike ds) (hk : Srt ds) (hu : ∀ d, d ∈ ds → A.units + d.depth < cLine) : SortsAt prog w A s (dataKind s.heap ds) vs := by
  rcases hk with ht | ho
  · by_cases hn : ∃ d ∈ ds, d = PyData.tuple []
    · exact sortsAt_tups e hal ht hn hu
    · refine SortsAt.data e hal (.inl fun d hd => ?_) hu
      obtain ⟨xs, rfl⟩ := ht d hd
      cases xs with
      | nil => exact absurd ⟨_, hd, rfl⟩ hn
      | cons x r => exact ⟨x, r, rfl⟩
  · exact SortsAt.data e hal (.inr ho) hu
section
variable {E : Value → Shared → Prop} {β : Type} {vs : List Value} {bs : List β} {enc : β → PyData} {R : Value → β → Prop}
theorem sorted_any {l : Addr} {Q : Value → Shared → Prop} (hl : s.heap.IsList l vs.toArray) (e : EachIs R vs bs) (er : EachIs (fun v b => ∃ as, Reads s.heap v (enc b) as) vs bs) (hal : AllAlike (bs.map enc)) (hk : Srt (bs.map enc)) (hL : bs.length ≤ sizeLine)
    (hu : ∀ b, b ∈ bs → A.units + 2 + (enc b).depth < cLine) (h : ∀ out, out.length = bs.length → EachIs R out (bs.mergeSort (dataLe false enc)) → Q (.ref (s.heap.objs.size + 1)) { s with heap := sortedAll s.heap vs (List.toArray out) }) :
    wpAny (model prog w) A (call (.builtin "sorted") [.ref l]) Q E s := by
  have er' : EachIs (fun v b => ∃ as, Reads (sortingHeap (copyHeap s.heap vs) (s.heap.objs.size + 1) vs) v (enc b) as) vs bs := er.mono fun _ _ ⟨as, r⟩ => ⟨as, PyProof.Rows.Reads.keeps (fun _ _ => sorting_copy_old) r⟩
  exact sorted_vals hl (sortsAt (s := { s with heap := sortingHeap (copyHeap s.heap vs) (s.heap.objs.size + 1) vs }) (each_map (R := fun v d => ∃ as, Reads (sortingHeap (copyHeap s.heap vs) (s.heap.objs.size + 1) vs) v d as) enc er') hal hk (bound_map hu)) (by rw [e.length]; exact hL)
    (h _ (by rw [sortVals_length false rfl]; exact e.length) (sortVals_data false e er' hal))
theorem sorted_anyR {l : Addr} {b : Bool} {Q : Value → Shared → Prop} (hl : s.heap.IsList l vs.toArray) (e : EachIs R vs bs) (er : EachIs (fun v b => ∃ as, Reads s.heap v (enc b) as) vs bs) (hal : AllAlike (bs.map enc)) (hk : Srt (bs.map enc)) (hL : bs.length ≤ sizeLine)
    (hu : ∀ b, b ∈ bs → A.units + 2 + (enc b).depth < cLine) (h : ∀ out, out.length = bs.length → EachIs R out (bs.mergeSort (dataLe b enc)) → Q (.ref (s.heap.objs.size + 1)) { s with heap := sortedAll s.heap vs (List.toArray out) }) :
    wpAny (model prog w) A (call (.builtin "sorted") [.ref l] [(Str.ofString "reverse", .bool b)]) Q E s := by
  have er' : EachIs (fun v b => ∃ as, Reads (sortingHeap (copyHeap s.heap vs) (s.heap.objs.size + 1) vs) v (enc b) as) vs bs := er.mono fun _ _ ⟨as, r⟩ => ⟨as, PyProof.Rows.Reads.keeps (fun _ _ => sorting_copy_old) r⟩
  exact sorted_rev_vals hl (sortsAt (s := { s with heap := sortingHeap (copyHeap s.heap vs) (s.heap.objs.size + 1) vs }) (each_map (R := fun v d => ∃ as, Reads (sortingHeap (copyHeap s.heap vs) (s.heap.objs.size + 1) vs) v d as) enc er') hal hk (bound_map hu)) (by rw [e.length]; exact hL)
    (h _ (by rw [sortVals_length b rfl]; exact e.length) (sortVals_data b e er' hal))
end
end
end AG
/-! AgM: sorted. -/
namespace AG
open PySem L2

/-! the sort, as the kernel can work it out -/
def mrg {α : Type} (le : α → α → Bool) : Nat → List α → List α → List α
  | 0, _, _ => []
  | _ + 1, [], ys => ys
  | _ + 1, x :: xs, [] => x :: xs
  | n + 1, x :: xs, y :: ys => if le x y = true then x :: mrg le n xs (y :: ys) else y :: mrg le n (x :: xs) ys
theorem mrg_eq {α : Type} {le : α → α → Bool} : ∀ (n : Nat) (xs ys : List α), xs.length + ys.length ≤ n → mrg le n xs ys = xs.merge ys le
  | 0, [], [], _ => by simp [mrg]
  | 0, _ :: _, _, h => by simp at h
  | 0, [], _ :: _, h => by simp at h
  | n + 1, [], ys, h => by simp [mrg]
  | n + 1, x :: xs, [], h => by simp [mrg]
  | n + 1, x :: xs, y :: ys, h => by
    simp only [List.length_cons] at h
    rw [mrg, List.merge.eq_3, mrg_eq n xs (y :: ys) (by simp only [List.length_cons]; omega), mrg_eq n (x :: xs) ys (by simp only [List.length_cons]; omega)]
def msrt {α : Type} (le : α → α → Bool) : Nat → List α → List α
  | 0, xs => xs
  | _ + 1, [] => []
  | _ + 1, [a] => [a]
  | n + 1, a :: b :: xs => mrg le (xs.length + 2) (msrt le n ((a :: b :: xs).take ((xs.length + 3) / 2))) (msrt le n ((a :: b :: xs).drop ((xs.length + 3) / 2)))
theorem msrt_eq {α : Type} {le : α → α → Bool} : ∀ (n : Nat) (xs : List α), xs.length ≤ n → msrt le n xs = xs.mergeSort le
  | 0, [], _ => by simp [msrt]
  | 0, _ :: _, h => by simp at h
  | n + 1, [], _ => by simp [msrt]
  | n + 1, [a], _ => by simp [msrt]
  | n + 1, a :: b :: xs, h => by
    simp only [List.length_cons] at h
    have l1 : ((a :: b :: xs).take ((xs.length + 3) / 2)).length ≤ n := by simp only [List.length_take, List.length_cons]; omega
    have l2 : ((a :: b :: xs).drop ((xs.length + 3) / 2)).length ≤ n := by simp only [List.length_drop, List.length_cons]; omega
    rw [msrt, msrt_eq n _ l1, msrt_eq n _ l2, mrg_eq, List.mergeSort.eq_3, List.MergeSort.Internal.splitInTwo_fst, List.MergeSort.Internal.splitInTwo_snd]
    · rfl
    · rw [List.length_mergeSort, List.length_mergeSort, List.length_take, List.length_drop, List.length_cons, List.length_cons]
      omega
def sortD (rev : Bool) (ds : List D) : List D := msrt (fun a b => cond rev (!D.lt a b) (!D.lt b a)) ds.length ds
theorem sortD_def (rev : Bool) (ds : List D) : sortD rev ds = ds.mergeSort fun a b => cond rev (!D.lt a b) (!D.lt b a) := msrt_eq _ _ (Nat.le_refl _)
def D.isTup : D → Bool | .tup _ => true | _ => false
def srtOk (ds : List D) : Bool := ds.all (D.sm 60) && (ds.all fun d => ds.all fun e => D.alike d e) && (ds.all D.isTup || ds.all fun d => !d.isTup && !d.isNon) && decide (ds.length ≤ 16777216)
def fSorted (rev : Bool) : LOp := fun ds => match ds with
  | [.lst xs] => if srtOk xs = true then M.pure (.lst (sortD rev xs)) else M.bad
  | _ => M.bad
def rSrt (K : PySem.W.Frag) (rev : Bool) : List V → Hp → VK → Prop := fun xs H Q => ∃ (a : Addr) (ps : List (V × D)), xs = [V.ref a] ∧ SqL K H a (ps.map Prod.fst) ∧ (∀ p ∈ ps, Dp K H p.1 p.2.toPy) ∧ srtOk (ps.map Prod.snd) = true ∧
  ∀ l, H l = none → Q (.ref l) (upd H l (.lst ((ps.mergeSort fun a b => cond rev (!D.lt a.2 b.2) (!D.lt b.2 a.2)).map Prod.fst)))
theorem each_vals {s : Shared} {us : List Value} {ps : List (V × D)} : ∀ {ps : List (V × D)} {us : List Value}, Vals (ps.map Prod.fst) us → PySem.W.EachIs (fun v p => RelV p.1 v) us ps
  | [], us, h => by cases h; exact .nil
  | p :: ps, us, h => by
    cases h with
    | cons a b => exact .cons a (each_vals (s := s) (us := us) (ps := ps) b)
theorem vals_each : ∀ {ps : List (V × D)} {us : List Value}, PySem.W.EachIs (fun v (p : V × D) => RelV p.1 v) us ps → Vals (ps.map Prod.fst) us
  | _, _, .nil => .nil
  | _, _, .cons h t => .cons h (vals_each t)
theorem each_reads {X : Cx} {pins : List (Addr × Obj)} {σ : St} {H : Hp} {s : Shared} (I : Inv X pins σ H s) : ∀ {ps : List (V × D)} {us : List Value}, Vals (ps.map Prod.fst) us → (∀ p ∈ ps, Dp X.K H p.1 p.2.toPy) → PySem.W.EachIs (fun v p => ∃ as, Reads s.heap v p.2.toPy as) us ps
  | [], us, h, _ => by cases h; exact .nil
  | p :: ps, us, h, hd => by
    cases h with
    | cons a b => exact .cons (Dp.reads I _ _ _ (hd p List.mem_cons_self) a) (each_reads I b fun q hq => hd q (List.mem_cons_of_mem _ hq))
theorem srt_of {ps : List (V × D)} (h : srtOk (ps.map Prod.snd) = true) : PySem.W.AllAlike (ps.map fun p => p.2.toPy) ∧ Srt (ps.map fun p => p.2.toPy) ∧ ps.length ≤ sizeLine ∧ ∀ p ∈ ps, p.2.toPy.depth ≤ 60 := by
  simp only [srtOk, Bool.and_eq_true, Bool.or_eq_true, List.all_eq_true, decide_eq_true_eq, List.length_map] at h
  obtain ⟨⟨⟨h1, h2⟩, h3⟩, h4⟩ := h
  refine ⟨fun d hd d' hd' => ?_, ?_, by rw [sizeLine_lit]; exact h4, fun p hp => sm_depth (h1 _ (List.mem_map_of_mem hp))⟩
  · obtain ⟨p, hp, rfl⟩ := List.mem_map.mp hd
    obtain ⟨q, hq, rfl⟩ := List.mem_map.mp hd'
    exact h2 _ (List.mem_map_of_mem hp) _ (List.mem_map_of_mem hq)
  · rcases h3 with h3 | h3
    · refine .inl fun d hd => ?_
      obtain ⟨p, hp, rfl⟩ := List.mem_map.mp hd
      have := h3 _ (List.mem_map_of_mem hp)
      cases q : p.2 <;> rw [q] at this <;> simp [D.isTup] at this
      exact ⟨_, rfl⟩
    · refine .inr fun d hd => ?_
      obtain ⟨p, hp, rfl⟩ := List.mem_map.mp hd
      have := h3 _ (List.mem_map_of_mem hp)
      cases q : p.2 <;> rw [q] at this <;> simp [D.isTup, D.isNon, D.toPy] at this ⊢
section
variable {X : Cx}
theorem cr_srt (hu : X.A.units + 66 < cLine) : CallR X (.builtin "sorted") (rSrt X.K false) := by
  intro pins s σ H xs us Q I r h
  obtain ⟨a, ps, rfl, hs, hd, ok, q⟩ := h
  obtain ⟨its, rv, hl, hz⟩ := I.list hs
  rw [Vals.ref1 r]
  obtain ⟨o1, o2, o3, o4⟩ := srt_of ok
  refine sorted_any (R := fun v (p : V × D) => RelV p.1 v) (enc := fun p : V × D => p.2.toPy) (bs := ps) hl.isList (each_vals (s := s) (us := its) (ps := ps) rv) (each_reads I rv hd) o1 o2 o3 (fun p hp => by have := o4 p hp; omega) fun out hlen e => ?_
  have e := vals_each e
  obtain ⟨ep, he'⟩ := PyProof.Rows.sortedAll_at s.heap its out.toArray
  have hz2 : ((ps.mergeSort fun a b => cond false (!D.lt a.2 b.2) (!D.lt b.2 a.2)).map Prod.fst).length ≤ sizeLine := by rw [List.length_map, List.length_mergeSort]; exact o3
  exact ⟨.ref _, upd H (s.heap.objs.size + 1) (.lst ((ps.mergeSort fun a b => cond false (!D.lt a.2 b.2) (!D.lt b.2 a.2)).map Prod.fst)), I.laid (t' := s.toks) (fun _ _ => PyProof.Rows.sortedAll_old) (Nat.le_succ _) ⟨hz2, out, ep, e, he'⟩, rfl, q _ (I.hok.fresh (Nat.le_succ _))⟩
theorem cr_srtR (hu : X.A.units + 66 < cLine) : CallRK X (.builtin "sorted") [Str.ofString "reverse"] (fun xs zs H Q => ∃ b, zs = [.bl b] ∧ rSrt X.K b xs H Q) := by
  intro pins s σ H xs zs us ws Q I r rz h
  obtain ⟨b, rfl, a, ps, rfl, hs, hd, ok, q⟩ := h
  obtain ⟨its, rv, hl, hz⟩ := I.list hs
  rw [Vals.ref1 r]
  obtain ⟨bv, rfl, rb⟩ := rz.one
  cases rb
  obtain ⟨o1, o2, o3, o4⟩ := srt_of ok
  refine sorted_anyR (R := fun v (p : V × D) => RelV p.1 v) (enc := fun p : V × D => p.2.toPy) (bs := ps) hl.isList (each_vals (s := s) (us := its) (ps := ps) rv) (each_reads I rv hd) o1 o2 o3 (fun p hp => by have := o4 p hp; omega) fun out hlen e => ?_
  have e := vals_each e
  obtain ⟨ep, he'⟩ := PyProof.Rows.sortedAll_at s.heap its out.toArray
  have hz2 : ((ps.mergeSort fun a c => cond b (!D.lt a.2 c.2) (!D.lt c.2 a.2)).map Prod.fst).length ≤ sizeLine := by rw [List.length_map, List.length_mergeSort]; exact o3
  exact ⟨.ref _, upd H (s.heap.objs.size + 1) (.lst ((ps.mergeSort fun a c => cond b (!D.lt a.2 c.2) (!D.lt c.2 a.2)).map Prod.fst)), I.laid (t' := s.toks) (fun _ _ => PyProof.Rows.sortedAll_old) (Nat.le_succ _) ⟨hz2, out, ep, e, he'⟩, rfl, q _ (I.hok.fresh (Nat.le_succ _))⟩
end
theorem RpAll.zip {K : PySem.W.Frag} {w : Wd} : ∀ {vs : List V} {ds : List D}, RpAll K w vs ds → (∀ p ∈ vs.zip ds, Rp K w p.1 p.2) ∧ (vs.zip ds).map Prod.fst = vs ∧ (vs.zip ds).map Prod.snd = ds
  | _, _, .nil => ⟨fun p h => (by cases h), rfl, rfl⟩
  | _, _, .cons h r => by
    obtain ⟨a, b, c⟩ := RpAll.zip r
    refine ⟨fun p hp => ?_, by simp [b], by simp [c]⟩
    rcases List.mem_cons.mp hp with e | e
    · subst e; exact h
    · exact a p e
theorem RpAll.of_zip {K : PySem.W.Frag} {w : Wd} : ∀ {ps : List (V × D)}, (∀ p ∈ ps, Rp K w p.1 p.2) → RpAll K w (ps.map Prod.fst) (ps.map Prod.snd)
  | [], _ => .nil
  | p :: ps, h => .cons (h p List.mem_cons_self) (RpAll.of_zip fun q hq => h q (List.mem_cons_of_mem _ hq))
theorem sorted_one {rev : Bool} {ds : List D} {mh : MH} {Q : D → MH → Prop} {E : Nat → MH → Prop} (h : wpR (fSorted rev ds mh) Q E) : ∃ xs, ds = [.lst xs] := by
  unfold fSorted at h
  split at h
  · exact ⟨_, rfl⟩
  · exact h.elim
theorem srt_read {K : PySem.W.Frag} {ca : CA} {W : WX} {σ : St} {w : Wd} {mh : MH} {rev : Bool} {v : V} {xs : List D} {Q : VK} (hw : WOk K ca w mh) (r : Rp K w v (.lst xs)) (hp : Post K ca W σ w (fSorted rev [.lst xs] mh) Q) : rSrt K rev [v] w.H Q := by
  cases r with
  | lst h1 h2 =>
    rename_i a vs
    by_cases c : srtOk xs = true
    · simp only [fSorted, c, if_true] at hp
      obtain ⟨z1, z2, z3⟩ := h2.zip
      refine ⟨a, vs.zip xs, rfl, by rw [z2]; exact .of (hw.subL _ _ h1), fun p hp' => (z1 p hp').dp (n := 60) hw.subs ?_, by rw [z3]; exact c, fun l hl => ?_⟩
      · have c1 : xs.all (D.sm 60) = true := by
          simp only [srtOk, Bool.and_eq_true] at c
          exact c.1.1.1
        refine all_sm c1 _ ?_
        have := List.mem_map_of_mem (f := Prod.snd) hp'
        rwa [z3] at this
      · refine PostG.lst (ds := sortD rev xs) hp hw ?_ l hl
        have e : sortD rev xs = ((vs.zip xs).mergeSort fun a b => cond rev (!D.lt a.2 b.2) (!D.lt b.2 a.2)).map Prod.snd := by
          rw [List.map_mergeSort (s := fun a b => cond rev (!D.lt a b) (!D.lt b a)) (fun _ _ _ _ => rfl), z3, sortD_def]
        rw [e]
        exact RpAll.of_zip fun p hp' => z1 p (List.mem_mergeSort.mp hp')
    · simp only [fSorted, c] at hp; exact hp.elim
section
variable {X : Cx} {ca : CA} {W : WX} {e : Expr} {es : List Expr} {ms : Env → M (List D)} {p pos : Pos} {k : Nat}
theorem me_sorted (hr : Room k X.A) (hm : X.mg "sorted" = none) (ha : MA X ca W (e :: es) ms) (hg : Gl X "sorted" := by rfl) (he : starEach (e :: es) X.env = (false, eval e X.env) :: starEach es X.env := by rfl) (hpl : (backTo pos (starEach es X.env)).any (·.1) = false := by rfl) : ME X ca W (.Call (.Name "sorted" p) (e :: es) [] pos) (mCall (fSorted false) ms) :=
  PE.mono (pe_callB (cr_srt (hu66 hr)) hg hm (by decide +kernel) ha (by decide) (by decide) he hpl) fun σ H Q h => by
    obtain ⟨w, mh, env, rfl, hw, hfr, hp⟩ := h
    refine stepG (rep := repA X.K) hw hfr hp fun w1 mh1 v1 d1 x1 hw1 hf1 r1 hp1 => ?_
    have r1 : RpAll X.K w1 v1 d1 := r1
    obtain ⟨xs, rfl⟩ := sorted_one hp1
    obtain ⟨x, rfl, q⟩ := r1.one
    exact srt_read hw1 q hp1
/-- sorted(e, reverse=True) -/
theorem me_sortedR {b : Bool} {j : Nat} {p2 kp : Pos} (hr : Room k X.A) (hm : X.mg "sorted" = none) (ha : MA X ca W [e] ms) (hg : Gl X "sorted" := by rfl)
    (he : backTo pos (starEach [e] X.env) = (false, eval e X.env) :: backTo pos (starEach [] X.env) := by rfl) (hpl : (backTo pos (starEach [e] X.env)).any (·.1) = false := by rfl)
    (hall : (backToKw pos (keywordEach [⟨some "reverse", .Constant (.bool b) j p2, kp⟩] X.env)).all (·.1.isSome) = true := by rfl) (hnone : (backToKw pos (keywordEach [⟨some "reverse", .Constant (.bool b) j p2, kp⟩] X.env)).any (·.1.isNone) = false := by rfl)
    (hks : (backToKw pos (keywordEach [⟨some "reverse", .Constant (.bool b) j p2, kp⟩] X.env)).filterMap (·.1) = [Str.ofString "reverse"] := by rfl) :
    ME X ca W (.Call (.Name "sorted" p) [e] [⟨some "reverse", .Constant (.bool b) j p2, kp⟩] pos) (mCall (fSorted b) ms) :=
  PE.mono (pe_callBK (cr_srtR (hu66 hr)) hg hm (by decide +kernel) ha (pk_cons pe_bl pk_nil) (by decide) (by decide) he hpl hall hnone hks) fun σ H Q h => by
    obtain ⟨w, mh, env, rfl, hw, hfr, hp⟩ := h
    refine stepG (rep := repA X.K) hw hfr hp fun w1 mh1 v1 d1 x1 hw1 hf1 r1 hp1 => ?_
    have r1 : RpAll X.K w1 v1 d1 := r1
    obtain ⟨xs, rfl⟩ := sorted_one hp1
    obtain ⟨x, rfl, q⟩ := r1.one
    exact ⟨b, rfl, srt_read hw1 q hp1⟩
end
end AG
/-! AgN: explicit objects, the stream. -/
namespace AG
open PySem L2

theorem nodup_inj {α : Type} : ∀ {l : List α} {i j : Nat} {a : α}, l.Nodup → l[i]? = some a → l[j]? = some a → i = j
  | [], _, _, _, _, h, _ => by simp at h
  | x :: l, 0, 0, _, _, _, _ => rfl
  | x :: l, 0, j + 1, a, n, h1, h2 => by
    simp at h1 h2
    subst h1
    exact absurd (List.mem_of_getElem? h2) (List.nodup_cons.mp n).1
  | x :: l, i + 1, 0, a, n, h1, h2 => by
    simp at h1 h2
    subst h2
    exact absurd (List.mem_of_getElem? h1) (List.nodup_cons.mp n).1
  | x :: l, i + 1, j + 1, a, n, h1, h2 => by
    simp at h1 h2
    rw [nodup_inj (List.nodup_cons.mp n).2 h1 h2]
section
variable {K : PySem.W.Frag} {ca : CA} {w : Wd} {mh : MH}
/-- an explicit object is written -/
theorem Ext.obj {a : Addr} {o : HO} (hr : a ∈ w.ρ) : Ext w (w.put a o) := by
  refine ⟨⟨[], by simp [Wd.put], by simp⟩, fun _ _ h => h, fun _ _ h => h, fun b u h hb => ?_, fun _ _ h => .inl h, fun _ _ h => .inl h, fun b h => ?_⟩
  · show upd w.H a o b = some u
    rw [upd_ne (fun e => hb (by rw [e]; exact hr))]
    exact h
  · have h : upd w.H a o b = none := h
    by_cases e : b = a
    · subst e; rw [upd_same] at h; cases h
    · rw [upd_ne e] at h; exact h
theorem WOk.obj' (hw : WOk K ca w mh) {n : Nat} {a : Addr} {o : HO} {mo : MO} (hn : w.ρ[n]? = some a) (hk : MOk K ca (w.put a o) a mo) : WOk K ca (w.put a o) (mh.set n mo) := by
  obtain ⟨mo0, e0, hF, hL, h0⟩ := hw.at hn
  refine ⟨fun b u h => ?_, fun b xs h => ?_, by simpa [Wd.put] using hw.len, hw.nd, fun m b mo' h1 h2 => ?_⟩
  · show upd w.H a o b = some u
    rw [upd_ne (fun e => by subst e; have h : w.F b = some u := h; rw [hF] at h; cases h)]
    exact hw.sub _ _ h
  · show upd w.H a o b = some (.lst xs)
    rw [upd_ne (fun e => by subst e; have h : w.L b = some xs := h; rw [hL] at h; cases h)]
    exact hw.subL _ _ h
  · rw [getElem?_setS] at h2
    have h1 : w.ρ[m]? = some b := h1
    by_cases e : n = m
    · subst e
      rw [hn] at h1
      cases h1
      rw [if_pos rfl] at h2
      split at h2
      · cases h2
        exact ⟨hF, hL, hk⟩
      · cases h2
    · rw [if_neg e] at h2
      obtain ⟨f, l, q⟩ := hw.obj m b mo' h1 h2
      have ab : b ≠ a := fun z => by
        subst z
        have h1' := hn
        exact e (nodup_inj hw.nd h1' h1)
      refine ⟨f, l, ?_⟩
      have hb : ∀ u, w.H b = some u → (w.put a o).H b = some u := fun u h => by
        show upd w.H a o b = some u
        rw [upd_ne ab]; exact h
      exact q.grow hb put_grow
/-- a new explicit object -/
def Wd.new (w : Wd) (p : Addr) (o : HO) : Wd := ⟨w.ρ ++ [p], w.F, w.L, upd w.H p o⟩
theorem Ext.new {p : Addr} {o : HO} (hp : w.H p = none) : Ext w (w.new p o) :=
  ⟨⟨[p], rfl, fun a h => by rw [List.mem_singleton.mp h]; exact hp⟩, fun _ _ h => h, fun _ _ h => h, fun b u h _ => upd_some hp h, fun _ _ h => .inl h, fun _ _ h => .inl h, th_upd hp⟩
theorem WOk.new (hw : WOk K ca w mh) {p : Addr} {o : HO} {mo : MO} (hp : w.H p = none) (hk : MOk K ca (w.new p o) p mo) : WOk K ca (w.new p o) (mh ++ [mo]) := by
  refine ⟨fun a u h => upd_some hp (hw.sub _ _ h), fun a xs h => upd_some hp (hw.subL _ _ h), by simp [Wd.new, hw.len], ?_, fun m b mo' h1 h2 => ?_⟩
  · show (w.ρ ++ [p]).Nodup
    rw [List.nodup_append]
    exact ⟨hw.nd, by simp, fun a ha b hb => by rw [List.mem_singleton.mp hb]; exact fun e => hw.nrho hp (e ▸ ha)⟩
  · have h1 : (w.ρ ++ [p])[m]? = some b := h1
    rcases Nat.lt_trichotomy m w.ρ.length with l | l | l
    · rw [List.getElem?_append_left l] at h1
      rw [List.getElem?_append_left (by rw [← hw.len]; exact l)] at h2
      obtain ⟨f, l', q⟩ := hw.obj m b mo' h1 h2
      exact ⟨f, l', q.grow (fun u z => upd_some hp z) (Ext.new hp).grow⟩
    · subst l
      rw [List.getElem?_append_right (Nat.le_refl _)] at h1
      rw [hw.len, List.getElem?_append_right (Nat.le_refl _)] at h2
      simp at h1 h2
      subst h1 h2
      exact ⟨hw.fnone hp, hw.lnone hp, hk⟩
    · rw [List.getElem?_eq_none (by simp; omega)] at h1; cases h1
end

/-! ### explicit lists -/
def mNewLst (ms : Env → M (List D)) : Env → M D := fun env => M.bind (ms env) fun xs => if xs.length ≤ 16777216 then fun h => .ok (.ref h.length) (h ++ [.lst xs]) else M.bad
def setIxM (v d j : D) : M Unit := match d, j with
  | .ref n, .int k => fun h => match h[n]? with
    | some (.lst xs) => match ixN xs.length k with | some t => .ok () (h.set n (.lst (xs.set t v))) | none => .bad
    | _ => .bad
  | _, _ => M.bad
def mSetIx (o i e : Env → M D) : Env → M Fl := fun env => M.bind (e env) fun v => M.bind (o env) fun d => M.bind (i env) fun j => M.bind (setIxM v d j) fun _ => M.pure (.nx env)
def mSetIxOwn (x : Nat) (i e : Env → M D) : Env → M Fl := fun env => match env[x]? with
  | some (.own _) => M.bind (e env) fun v => M.bind (i env) fun j => match env[x]?, j with
    | some (.own ds), .int k => match ixN ds.length k with | some t => M.pure (.nx (env.set x (.own (ds.set t v)))) | none => M.bad
    | _, _ => M.bad
  | _ => M.bad
section
variable {X : Cx} {ca : CA} {W : WX} {n : Nat} {es : List Expr} {ms : Env → M (List D)} {o i e : Expr} {mo mi me : Env → M D} {pos pos' : Pos} {x : Str}
theorem me_newLst (h : MA X ca W es ms) : ME X ca W (.List es pos) (mNewLst ms) :=
  PE.mono (pe_lst h) fun σ H Q h => by
    obtain ⟨w, mh, env, rfl, hw, hf, hp⟩ := h
    refine stepG (rep := repA X.K) hw hf hp fun w1 mh1 v1 d1 x1 hw1 hf1 r1 hp1 => ?_
    have r1 : RpAll X.K w1 v1 d1 := r1
    by_cases q : d1.length ≤ 16777216
    · simp only [q, if_true] at hp1
      refine ⟨by rw [r1.length, sizeLine_lit]; exact q, fun p hp => ?_⟩
      refine hp1 (w1.new p (.lst v1)) (.ref p) (Ext.new hp) (hw1.new hp ⟨v1, upd_same, r1.mono (Ext.new hp).grow⟩) (.ref ?_)
      show (w1.ρ ++ [p])[mh1.length]? = some p
      rw [← hw1.len]
      simp
    · simp only [q, if_false] at hp1; exact hp1.elim
theorem ms_setIx (he : ME X ca W e me) (ho : ME X ca W o mo) (hi : ME X ca W i mi)
    (ha : ∀ v, assign (.Subscript o i pos') X.env v = (do
      let ov ← holding [v] (eval o X.env)
      let iv ← holding [v, ov] (eval i X.env)
      standAt pos'
      holding [v, ov, iv] (setItem ov iv v)
      release [v, ov, iv] []) := by intro _; rfl)
    (hs : swapsWithSole [.Subscript o i pos'] e pos.line X.env = pure false := by rfl) (hw : swappedStores [.Subscript o i pos'] e X.env = pure none := by rfl) (h1 : (assignEach [.Subscript o i pos'] X.env).map (·.2) = [assign (.Subscript o i pos') X.env] := by rfl) :
    MS X ca W n (.Assign [.Subscript o i pos'] e pos) (mSetIx mo mi me) := PS.mono (ps_asg he (pg_sub ho hi set_list ha) hs hw h1) fun D' σ H h => by
  obtain ⟨w0, w, mh, env, rfl, hw, s, hp⟩ := h
  refine stepS (rep := repV X.K) hw s hp fun w1 mh1 v1 d1 x1 hw1 s1 r1 hp1 => ?_
  refine stepS (rep := repV X.K) hw1 s1 hp1 fun w2 mh2 v2 d2 x2 hw2 s2 r2 hp2 => ?_
  refine stepS (rep := repV X.K) hw2 s2 hp2 fun w3 mh3 v3 d3 x3 hw3 s3 r3 hp3 => ?_
  have r1 : Rp X.K w3 v1 d1 := x3.rp (x2.rp r1)
  have r2 : Rp X.K w3 v2 d2 := x3.rp r2
  cases r2 with
  | ref h2 =>
    rename_i a m
    cases r3 with
    | int k =>
      obtain ⟨mo', e1, _, _, hob⟩ := hw3.at h2
      cases mo' with
      | lst xs =>
        obtain ⟨vs, hH, rr⟩ := hob
        cases q : ixN xs.length k with
        | none => simp only [M.bind, setIxM, e1, q, R.bind] at hp3; exact hp3.elim
        | some t =>
          simp only [M.bind, setIxM, e1, q, R.bind, M.pure] at hp3
          refine ⟨a, vs, k, t, rfl, rfl, hH, by rw [rr.length]; exact q, ?_⟩
          have hm := List.mem_of_getElem? h2
          have x4 : Ext w3 (w3.put a (.lst (vs.set t v1))) := Ext.obj hm
          exact hp3 _ σ (s3.then x4) (x1.grow.trans (x2.grow.trans (x3.grow.trans x4.grow))) (hw3.obj' h2 ⟨_, upd_same, (rr.set r1 t).mono put_grow⟩)
      | stream => simp only [M.bind, setIxM, e1, R.bind] at hp3; exact hp3.elim
      | inst c fs => simp only [M.bind, setIxM, e1, R.bind] at hp3; exact hp3.elim
      | dct kvs => simp only [M.bind, setIxM, e1, R.bind] at hp3; exact hp3.elim
      | dky kvs => simp only [M.bind, setIxM, e1, R.bind] at hp3; exact hp3.elim
    | _ => exact hp3.elim
  | _ => first | exact hp3.elim | (cases r3 <;> exact hp3.elim)
theorem ms_setIxOwn (j : Nat) {p1 : Pos} (he : ME X ca W e me) (hi : ME X ca W i mi) (hN : X.N[j]? = some x := by rfl) (hv : Vis X.env.scope x := by first | exact Or.inl rfl | exact Or.inr (Or.inl rfl) | exact Or.inr (Or.inr rfl)) (hd : (x == ("__debug__" : Str)) = false := by decide)
    (hcd : (x == ("__classdict__" : Str)) = false := by decide)
    (ha : ∀ v, assign (.Subscript (.Name x p1) i pos') X.env v = (do
      let ov ← holding [v] (eval (.Name x p1) X.env)
      let iv ← holding [v, ov] (eval i X.env)
      standAt pos'
      holding [v, ov, iv] (setItem ov iv v)
      release [v, ov, iv] []) := by intro _; rfl)
    (hs : swapsWithSole [.Subscript (.Name x p1) i pos'] e pos.line X.env = pure false := by rfl) (hw : swappedStores [.Subscript (.Name x p1) i pos'] e X.env = pure none := by rfl) (h1 : (assignEach [.Subscript (.Name x p1) i pos'] X.env).map (·.2) = [assign (.Subscript (.Name x p1) i pos') X.env] := by rfl) :
    MS X ca W n (.Assign [.Subscript (.Name x p1) i pos'] e pos) (mSetIxOwn j mi me) := PS.mono (ps_asg he (pg_sub (pv j hN hv hd hcd) hi set_list ha) hs hw h1) fun D' σ H h => by
  obtain ⟨w0, w, mh, env, rfl, hw, s, hp⟩ := h
  cases q : env[j]? with
  | none => simp only [mSetIxOwn, q] at hp; exact hp.elim
  | some sl =>
    cases sl with
    | own ds =>
      simp only [mSetIxOwn, q] at hp
      refine stepS (rep := repV X.K) hw s hp fun w1 mh1 v1 d1 x1 hw1 s1 r1 hp1 => ?_
      obtain ⟨a, e1, o0⟩ := s1.fr.own j ds q
      refine ⟨_, e1, ?_⟩
      refine stepS (rep := repV X.K) hw1 s1 hp1 fun w2 mh2 v2 d2 x2 hw2 s2 r2 hp2 => ?_
      obtain ⟨a', e1', o1⟩ := s2.fr.own j ds q
      rw [e1] at e1'
      cases e1'
      obtain ⟨vs, hH, rr⟩ := o1.at'
      cases r2 <;> first | exact hp2.elim | skip
      rename_i k
      cases qi : ixN ds.length k with
      | none => simp only [qi] at hp2; exact hp2.elim
      | some t =>
        simp only [qi] at hp2
        refine ⟨a, vs, k, t, rfl, rfl, hH, by rw [rr.length]; exact qi, ?_⟩
        exact hp2 (w2.put a (.lst (vs.set t v1))) σ (s2.wr q e1 (rr.set (x2.rp r1) t)) ((x1.trans x2).grow.trans put_grow) (hw2.wr o1.nF o1.nL o1.nr)
    | _ => simp only [mSetIxOwn, q] at hp; exact hp.elim
end

/-! ### the stream -/
def strOk (y z : Int) : Bool := decide (0 ≤ y) && decide (0 ≤ z) && decide (z < 2147483647)
def strL (ns : List Int) (x y z : Int) : MO := .lst [.scr ns, .int x, .int y, .int z]
section
variable {P : Program} {pw : World} {K : PySem.W.Frag} {mg : Str → Option Value} {base : Heap} {ca : CA} {k n : Nat} {x : Str} {f g : LOp}
theorem FnM.imp (F : FnM P pw K mg base ca k x n f) (h : ∀ (ds : List D) (mh : MH) (Q : D → MH → Prop) (E : Nat → MH → Prop), ds.length = n → wpR (g ds mh) Q E → wpR (f ds mh) Q E) : FnM P pw K mg base ca k x n g := by
  obtain ⟨fa, fd, ps, ok, r⟩ := F.ex
  refine ⟨fa, fd, ps, ok.imp fun vs H Q E q => ?_, r⟩
  obtain ⟨w, mh, ds, e, hw, rr, hl, hp⟩ := q
  exact ⟨w, mh, ds, e, hw, rr, hl, h ds mh _ _ (rr.length.symm.trans hl) hp⟩
/-- a new stream -/
theorem strm_close {w : Wd} {mh : MH} {i : Nat} {ns : List Int} {y1 y2 y3 : Int} (hw : WOk K ca w mh) (hi : mh[i]? = some (strL ns y1 y2 y3)) (hk : strOk y2 y3 = true) : WOk K ca w (mh.set i .stream) := by
  refine ⟨hw.sub, hw.subL, by simpa using hw.len, hw.nd, fun m b mo' h1 h2 => ?_⟩
  rw [getElem?_setS] at h2
  by_cases e : i = m
  · subst e
    rw [if_pos rfl] at h2
    split at h2
    · cases h2
      obtain ⟨q1, q2, q3⟩ := hw.obj i b _ h1 hi
      obtain ⟨vs, e1, rr⟩ := q3
      simp only [strOk, Bool.and_eq_true, decide_eq_true_eq] at hk
      exact ⟨q1, q2, ns, y1, y2, y3, vs, e1, rr, hk.1.1, hk.1.2, hk.2⟩
    · cases h2
  · rw [if_neg e] at h2
    exact hw.obj m b mo' h1 h2
theorem strm_open {w : Wd} {mh : MH} {i : Nat} (hw : WOk K ca w mh) (hi : mh[i]? = some .stream) : ∃ (ns : List Int) (y1 y2 y3 : Int), ns.length ≤ 63 ∧ strOk y2 y3 = true ∧ WOk K ca w (mh.set i (strL ns y1 y2 y3)) := by
  obtain ⟨a, ha, q1, q2, ns, y1, y2, y3, vs, e1, rr, h1, h2, h3⟩ := hw.rhoAt hi
  have hl : ns.length ≤ 63 := by
    cases rr with
    | cons r _ => cases r; assumption
  refine ⟨ns, y1, y2, y3, hl, by simp [strOk, h1, h2, h3], hw.sub, hw.subL, by simpa using hw.len, hw.nd, fun m b mo' p1 p2 => ?_⟩
  rw [getElem?_setS] at p2
  by_cases e : i = m
  · subst e
    rw [if_pos rfl] at p2
    split at p2
    · cases p2
      rw [ha] at p1
      cases p1
      exact ⟨q1, q2, vs, e1, rr⟩
    · cases p2
  · rw [if_neg e] at p2
    exact hw.obj m b mo' p1 p2
def fStream : LOp := fun ds => match ds with
  | [.scr ns] => fun h => .ok (.ref h.length) (h ++ [.stream])
  | _ => M.bad
def fDraw : LOp := fun ds => match ds with
  | [.ref i, .int m] => fun h => match h[i]? with
    | some .stream => if 0 < m ∧ m < 1073741824 then .pick m.toNat fun j => .ok (.int j) h else .bad
    | _ => .bad
  | _ => M.bad
/-- what the text makes of a stream is a stream -/
theorem fnm_stream (F : FnM P pw K mg base ca k x 1 f) (h : ∀ (ns : List Int) (mh : MH), ∃ (z : Int), strOk 0 z = true ∧ f [.scr ns] mh = .ok (.ref mh.length) (mh ++ [strL ns 0 0 z])) : FnM P pw K mg base ca k x 1 fStream := by
  obtain ⟨fa, fd, ps, ok, r⟩ := F.ex
  refine ⟨fa, fd, ps, ok.imp fun vs H Q E q => ?_, r⟩
  obtain ⟨w, mh, ds, e, hw, rr, hl, hp⟩ := q
  have hd := rr.length.symm.trans hl
  refine ⟨w, mh, ds, e, hw, rr, hl, ?_⟩
  match ds, hd, hp with
  | [.scr ns], _, hp =>
    obtain ⟨z, hz, e⟩ := h ns mh
    show wpR (f [.scr ns] mh) _ _
    rw [e]
    intro w' v x' hw' r'
    refine hp w' v x' ?_ r'
    have := strm_close (i := mh.length) (ns := ns) (y1 := 0) (y2 := 0) (y3 := z) hw' (by simp) hz
    simpa using this
  | [.non], _, hp => exact hp.elim
  | [.bl _], _, hp => exact hp.elim
  | [.int _], _, hp => exact hp.elim
  | [.str _], _, hp => exact hp.elim
  | [.tup _], _, hp => exact hp.elim
  | [.lst _], _, hp => exact hp.elim
  | [.ref _], _, hp => exact hp.elim
theorem fnm_draw (F : FnM P pw K mg base ca k x 2 f) (h : ∀ (ns : List Int) (y1 y2 y3 m : Int) (i : Nat) (mh : MH), ns.length ≤ 63 → strOk y2 y3 = true → 0 < m → m < 1073741824 → mh[i]? = some (strL ns y1 y2 y3) →
    ∃ (j : Nat) (z1 z2 z3 : Int), j < m.toNat ∧ strOk z2 z3 = true ∧ f [.ref i, .int m] mh = .ok (.int j) (mh.set i (strL ns z1 z2 z3))) : FnM P pw K mg base ca k x 2 fDraw := by
  obtain ⟨fa, fd, ps, ok, r⟩ := F.ex
  refine ⟨fa, fd, ps, ok.imp fun vs H Q E q => ?_, r⟩
  obtain ⟨w, mh, ds, e, hw, rr, hl, hp⟩ := q
  unfold fDraw at hp
  split at hp
  · rename_i i m
    cases q : mh[i]? with
    | none => simp only [q] at hp; exact hp.elim
    | some mo =>
      cases mo with
      | stream =>
        simp only [q] at hp
        split at hp
        · rename_i c
          obtain ⟨ns, y1, y2, y3, hl63, hk, hw2⟩ := strm_open hw q
          have li : i < mh.length := (List.getElem?_eq_some_iff.mp q).1
          obtain ⟨j, z1, z2, z3, hj, hz, e2⟩ := h ns y1 y2 y3 m i (mh.set i (strL ns y1 y2 y3)) hl63 hk c.1 c.2 (by rw [getElem?_setS, if_pos rfl, if_pos li])
          refine ⟨w, mh.set i (strL ns y1 y2 y3), [.ref i, .int m], e, hw2, rr, hl, ?_⟩
          show wpR (f [.ref i, .int m] _) _ _
          rw [e2]
          intro w' v x' hw' r'
          refine hp.2 j hj w' v x' ?_ r'
          have h3 := strm_close (i := i) (ns := ns) (y1 := z1) hw' (by rw [getElem?_setS, if_pos rfl, if_pos (by simpa using li)]) hz
          rw [List.set_set, List.set_set] at h3
          have : mh.set i .stream = mh := by
            apply List.ext_getElem?
            intro m
            rw [getElem?_setS]
            by_cases e : i = m
            · subst e; rw [if_pos rfl, if_pos li, q]
            · rw [if_neg e]
          rw [this] at h3
          exact h3
        · exact hp.elim
      | lst _ => simp only [q] at hp; exact hp.elim
      | inst _ _ => simp only [q] at hp; exact hp.elim
      | dct _ => simp only [q] at hp; exact hp.elim
      | dky _ => simp only [q] at hp; exact hp.elim
  · exact hp.elim
end
end AG
/-! AgO: stores of comprehensions, two fresh lists at once. -/
namespace AG
open PySem L2

theorem frz_den {K : PySem.W.Frag} {ca : CA} {W : WX} {m : Env → M (List D)} {σ : St} {H : Hp} {Q : VK} (q : denG (repV K) K ca W (mFrz m) σ H Q) : denF K ca W m σ H Q := by
  obtain ⟨w, mh, env, rfl, hw, hf, hp⟩ := q
  refine ⟨w, mh, env, rfl, hw, hf, ?_⟩
  refine wpR_mono (wpR_bind.mp hp) (fun ds mh' q w' p x hw' hn o => ?_) fun _ _ q => q
  obtain ⟨vs, hH, r⟩ := o.at'
  exact q (w'.lock p vs) (.ref p) (x.lock hn o.nL) (hw'.lock hH o.nL o.nr) (.lst updL_same (r.mono (lock_grow o.nL)))
section
variable {X : Cx} {ca : CA} {W : WX} {n : Nat} {elt tg iter : Expr} {ifs : List Expr} {scope : Scope} {own : List (Str × Nat)} {pos spos py : Pos} {mi : Env → M (List D)} {g : TG} {t : Tgt} {tt : Env → M Bool} {te : Env → M D} {y : Str}
theorem ms_setLcOwn {i : Nat} (hc : X.calm = true) (hN : X.N.Nodup) (hi : MI X ca W tg iter mi) (ok : BlkOk X.N X.env.scope scope own) (hgk : GOk X.K g t (own.map (·.2)))
    (hg : ∀ (s : Shared) (H : Hp) (C : Addr) (cl : List (Str × Addr)) (fp : List Addr), PG (X.blk s H scope (compEnvC scope cl C X.env) fp) tg g)
    (ht : ∀ (s : Shared) (H : Hp) (C : Addr) (cl : List (Str × Addr)) (fp : List Addr), MTs (X.blk s H scope (compEnvC scope cl C X.env) fp) ca W0 ifs tt)
    (he : ∀ (s : Shared) (H : Hp) (C : Addr) (cl : List (Str × Addr)) (fp : List Addr), ME (X.blk s H scope (compEnvC scope cl C X.env) fp) ca W0 elt te)
    (hy : X.N[i]? = some y := by rfl) (hyl : X.env.scope.names.lookup y = some .local := by rfl) (hk : X.env.scope.kind = .function := by rfl) (hl : (py.line == pos.line) = true := by rfl)
    (ha : (scope.names.any fun (n, k) => n == y && (k == .local || k == .cell)) = false := by decide +kernel)
    (hs : ∀ x, foldedSetIterable iter X.env x = pure x := by intro _; rfl) :
    MS X ca W n (.Assign [.Name y py] (.ListComp elt [⟨tg, iter, ifs, 0⟩] scope pos) spos) (mSetOwn i (mLc mi t tt te (own.map (·.2)))) :=
  PS.mono (ps_setLc (te := denG (repV X.K) X.K ca W0 te) (tt := denG repB X.K ca W0 tt) hc hN hy hyl (sw_true hk hyl hl ha) hi ok hg ht he hs) fun D' σ H h => by
    obtain ⟨w0, w, mh, env, rfl, hw, s, hp⟩ := h
    refine lc_read hgk (σ := σ) (W := W) ⟨w, mh, env, rfl, hw, s.fr, wpR_mono (wpR_bind.mp hp) (fun ds mh' q w' p x hw' hn o => ?_) fun cl mh q w' x hw' => q w' σ (s.ext.trans x) hw' s.ln⟩
    exact q w' _ ((s.then x).setOwn o (s.ext.th p hn) fun j es _ h => s.fr.apart hn j es h) x.grow hw'
theorem ms_setLc {i : Nat} (hc : X.calm = true) (hN : X.N.Nodup) (hi : MI X ca W tg iter mi) (ok : BlkOk X.N X.env.scope scope own) (hgk : GOk X.K g t (own.map (·.2)))
    (hg : ∀ (s : Shared) (H : Hp) (C : Addr) (cl : List (Str × Addr)) (fp : List Addr), PG (X.blk s H scope (compEnvC scope cl C X.env) fp) tg g)
    (ht : ∀ (s : Shared) (H : Hp) (C : Addr) (cl : List (Str × Addr)) (fp : List Addr), MTs (X.blk s H scope (compEnvC scope cl C X.env) fp) ca W0 ifs tt)
    (he : ∀ (s : Shared) (H : Hp) (C : Addr) (cl : List (Str × Addr)) (fp : List Addr), ME (X.blk s H scope (compEnvC scope cl C X.env) fp) ca W0 elt te)
    (hy : X.N[i]? = some y := by rfl) (hyl : X.env.scope.names.lookup y = some .local := by rfl) (hk : X.env.scope.kind = .function := by rfl) (hl : (py.line == pos.line) = true := by rfl)
    (ha : (scope.names.any fun (n, k) => n == y && (k == .local || k == .cell)) = false := by decide +kernel)
    (hs : ∀ x, foldedSetIterable iter X.env x = pure x := by intro _; rfl) :
    MS X ca W n (.Assign [.Name y py] (.ListComp elt [⟨tg, iter, ifs, 0⟩] scope pos) spos) (mSet i (mFrz (mLc mi t tt te (own.map (·.2))))) :=
  PS.mono (ps_setLc (te := denG (repV X.K) X.K ca W0 te) (tt := denG repB X.K ca W0 tt) hc hN hy hyl (sw_true hk hyl hl ha) hi ok hg ht he hs) fun D' σ H h => by
    obtain ⟨w0, w, mh, env, rfl, hw, s, hp⟩ := h
    refine lc_read hgk (σ := σ) (W := W) (frz_den ?_)
    refine stepS (rep := repV X.K) hw s hp fun w1 mh1 v d x1 hw1 s1 r1 hp1 => ?_
    exact hp1 w1 _ (s1.set r1) x1.grow hw1
end

/-! ### x, y = (fresh, fresh) -/
def mParOwn (i j : Nat) (m1 m2 : Env → M (List D)) : Env → M Fl := fun env => M.bind (m1 env) fun xs => M.bind (m2 env) fun ys => M.pure (.nx ((env.set i (.own xs)).set j (.own ys)))
section
variable {K : PySem.W.Frag} {ca : CA} {W : WX} {n : Nat} {w0 w : Wd} {env : Env} {σ : St} {mh : MH} {m1 m2 : Env → M (List D)} {i j : Nat}
theorem two_own {wb : Wd} {D' : Ends} {Q : List V → Hp → Prop} (hij : i ≠ j) (hw : WOk K ca w mh) (s : SRel K n w0 env σ w) (hp : wpR (mParOwn i j m1 m2 env mh) (FlP K ca n w0 wb D') (ExS K ca W n w0))
    (k : ∀ w' p1 p2 mh' e, Ext w w' → WOk K ca w' mh' → SRel K n w0 e ((σ.set i (some (.ref p1))).set j (some (.ref p2))) w' → FlP K ca n w0 wb D' (.nx e) mh' → Q [.ref p1, .ref p2] w'.H) :
    L2.tCons (denF K ca W m1) (L2.tCons (denF K ca W m2) L2.tNil) σ w.H Q := by
  refine ⟨w, mh, env, rfl, hw, s.fr, wpR_mono (wpR_bind.mp hp) (fun xs mh1 q w1 p1 x1 hw1 hn1 o1 => ?_) fun cl mh q w' x hw' => q w' σ (s.ext.trans x) hw' s.ln⟩
  refine ⟨w1, mh1, env, rfl, hw1, s.fr.ext x1, wpR_mono (wpR_bind.mp q) (fun ys mh2 q2 w2 p2 x2 hw2 hn2 o2 => ?_) fun cl mh q w' x hw' => q w' σ (s.ext.trans (x1.trans x)) hw' s.ln⟩
  have x12 := x1.trans x2
  have hn2' : w.H p2 = none := x1.th p2 hn2
  have ne : p2 ≠ p1 := fun e => by
    subst e
    obtain ⟨vs, h, _⟩ := o1.at'
    rw [hn2] at h; cases h
  have s1 : SRel K n w0 (env.set i (.own xs)) (σ.set i (some (.ref p1))) w2 := (s.then x12).setOwn (o1.ext x2) (s.ext.th p1 hn1) fun l es _ h => s.fr.apart hn1 l es h
  have s2 : SRel K n w0 ((env.set i (.own xs)).set j (.own ys)) ((σ.set i (some (.ref p1))).set j (some (.ref p2))) w2 := s1.setOwn o2 (s.ext.th p2 hn2') fun l es hl h => by
    by_cases il : i = l
    · subst il
      rw [getElem?_setS, if_pos rfl]
      intro q
      split at q
      · cases q; exact ne rfl
      · cases q
    · rw [getElem?_setS, if_neg il] at h ⊢
      exact s.fr.apart hn2' l es h
  exact k w2 p1 p2 mh2 _ x12 hw2 s2 q2
end
section
variable {X : Cx} {ca : CA} {W : WX} {n : Nat} {a b : Expr} {m1 m2 : Env → M (List D)} {px py pt pos : Pos} {kt k2 pt2} {x y : Str}
theorem ms_parOwn {i j : Nat} (hc : X.calm = true) (ha : MF X ca W a m1) (hb : MF X ca W b m2) (hN : X.N.Nodup) (hi : X.N[i]? = some x := by rfl) (hj : X.N[j]? = some y := by rfl) (hij : i ≠ j := by decide)
    (hx : X.env.scope.names.lookup x = some .local := by rfl) (hy : X.env.scope.names.lookup y = some .local := by rfl)
    (hs1 : starEach [a, b] X.env = (false, eval a X.env) :: starEach [b] X.env := by rfl) (hs2 : starEach [b] X.env = (false, eval b X.env) :: starEach [] X.env := by rfl)
    (hw : swappedStores [.Tuple [.Name x px, .Name y py] kt pt] (.Tuple [a, b] k2 pt2) X.env = pure (some [x, y]) := by rfl)
    (hs : swapsWithSole [.Tuple [.Name x px, .Name y py] kt pt] (.Tuple [a, b] k2 pt2) pos.line X.env = pure false := by rfl) : MS X ca W n (.Assign [.Tuple [.Name x px, .Name y py] kt pt] (.Tuple [a, b] k2 pt2) pos) (mParOwn i j m1 m2) :=
  PS.mono (ps_par hc hN hi hj hij hx hy (pa_cons ha (pa_cons hb pa_nil hs2) hs1) hw hs) fun D' σ H h => by
    obtain ⟨w0, w, mh, env, rfl, hw, s, hp⟩ := h
    exact two_own hij hw s hp fun w' p1 p2 mh' e x' hw' s' q => ⟨_, _, rfl, q w' _ s' x'.grow hw'⟩
theorem ms_parOwnT {i j : Nat} (hc : X.calm = true) (ha : MF X ca W a m1) (hb : MF X ca W b m2) (hN : X.N.Nodup) (hi : X.N[i]? = some x := by rfl) (hj : X.N[j]? = some y := by rfl) (hij : i ≠ j := by decide)
    (hx : Loc X.env.scope x := by first | exact Or.inl rfl | exact Or.inr rfl) (hy : Loc X.env.scope y := by first | exact Or.inl rfl | exact Or.inr rfl)
    (hfx : X.fn x = true ∨ X.env.scope.names.lookup x = some .local := by first | exact .inl rfl | exact .inr rfl) (hfy : X.fn y = true ∨ X.env.scope.names.lookup y = some .local := by first | exact .inl rfl | exact .inr rfl)
    (hs1 : starEach [a, b] X.env = (false, eval a X.env) :: starEach [b] X.env := by rfl) (hs2 : starEach [b] X.env = (false, eval b X.env) :: starEach [] X.env := by rfl)
    (hn : (assignEach [.Name x px, .Name y py] X.env).length = 2 := by rfl) (hst : (assignEach [.Name x px, .Name y py] X.env).findIdx? (·.1) = none := by rfl)
    (ha1 : (assignEach [.Name x px, .Name y py] X.env).map (·.2) = assign (.Name x px) X.env :: (assignEach [.Name y py] X.env).map (·.2) := by rfl)
    (ha2 : (assignEach [.Name y py] X.env).map (·.2) = assign (.Name y py) X.env :: (assignEach [] X.env).map (·.2) := by rfl)
    (hs : swapsWithSole [.Tuple [.Name x px, .Name y py] kt pt] (.Tuple [a, b] k2 pt2) pos.line X.env = pure false := by rfl) (hw : swappedStores [.Tuple [.Name x px, .Name y py] kt pt] (.Tuple [a, b] k2 pt2) X.env = pure none := by rfl)
    (h1 : (assignEach [.Tuple [.Name x px, .Name y py] kt pt] X.env).map (·.2) = [assign (.Tuple [.Name x px, .Name y py] kt pt) X.env] := by rfl) : MS X ca W n (.Assign [.Tuple [.Name x px, .Name y py] kt pt] (.Tuple [a, b] k2 pt2) pos) (mParOwn i j m1 m2) :=
  PS.mono (ps_asg (pe_tup (pa_cons ha (pa_cons hb pa_nil hs2) hs1)) (pg_tup (n := 2) hc (pgs_cons (pg_name hN hi hx hfx) (pgs_cons (pg_name hN hj hy hfy) pgs_nil ha2) ha1) hn hst) hs hw h1) fun D' σ H h => by
    obtain ⟨w0, w, mh, env, rfl, hw, s, hp⟩ := h
    refine two_own (Q := fun xs H1 => xs.length ≤ sizeLine ∧ ∀ p, H1 p = none → gTup X.K 2 (gCons (gName i) (gCons (gName j) gNil)) (.ref p) σ (upd H1 p (.tup xs)) D'.nx) hij hw s hp fun w' p1 p2 mh' e x' hw' s' q => ⟨by rw [sizeLine_lit]; simp, fun t ht => ?_⟩
    have x2 : Ext w' (w'.put t (.tup [.ref p1, .ref p2])) := Ext.put hw' ht
    exact ⟨t, _, rfl, SqT.of upd_same, rfl, _, _, rfl, _, _, rfl, rfl, q _ _ (s'.then x2) (x'.trans x2).grow (hw'.put ht)⟩
end
end AG
/-! AgP: the streams of the laws' texts. -/
namespace AG
open PySem L2

def m__law_stream : Env → M Fl := mSeq (mSet 1 (mC (.int 17))) (mSeq (mFor (mItems (mVar 0)) (tgName 2) (mSet 1 (mBin opMod (mCall fInt (mCons (mBin opAdd (mBin opAdd (mBin opMul (mVar 1) (mC (.int 48271))) (mBin opMod (mCall fInt (mCons (mVar 2) mNil)) (mC (.int 65521)))) (mC (.int 1))) mNil)) (mC (.int 2147483647))))) (mRet (mNewLst (mCons (mCall fList (mCons (mVar 0) mNil)) (mCons (mC (.int 0)) (mCons (mC (.int 0)) (mCons (mVar 1) mNil)))))))
def fg__law_stream : LOp := mFn 3 m__law_stream
theorem mulOk_of {i j : Int} (hi : i.natAbs < 2 ^ 64) (hj : j.natAbs < 2 ^ 64) : mulOk i j = true := by
  unfold mulOk
  simp only [Bool.and_eq_true, decide_eq_true_eq]
  exact ⟨BIG_of hi (by decide), BIG_of hj (by decide)⟩
theorem M.bind_ok {α β : Type} {m : M α} {f : α → M β} {h h' : MH} {a : α} (e : m h = .ok a h') : M.bind m f h = f a h' := by
  unfold M.bind
  rw [e]
  rfl
theorem bin_ok {f : DOp} {ma mb : Env → M D} {env : Env} {h h' h'' : MH} {x y : D} (h1 : ma env h = .ok x h') (h2 : mb env h' = .ok y h'') : mBin f ma mb env h = f x y h'' := by
  show M.bind _ _ h = _
  rw [M.bind_ok h1, M.bind_ok h2]
theorem test_ok {m : Env → M D} {env : Env} {h h' : MH} {b : Bool} (h1 : m env h = .ok (.bl b) h') : mTest m env h = .ok b h' := by
  show M.bind _ _ h = _
  rw [M.bind_ok h1]
  rfl
theorem call1_ok {f : LOp} {m : Env → M D} {env : Env} {h h' : MH} {x : D} (h1 : m env h = .ok x h') : mCall f (mCons m mNil) env h = f [x] h' := by
  show M.bind (M.bind _ _) _ h = _
  have : M.bind (m env) (fun x => M.bind (mNil env) fun xs => M.pure (x :: xs)) h = .ok [x] h' := by rw [M.bind_ok h1]; rfl
  rw [M.bind_ok this]
theorem c_ok {d : D} {env : Env} {h : MH} : mC d env h = .ok d h := rfl
theorem stream_loop (ns : List Int) (mh : MH) : ∀ (ms : List Int) (b : Int) (sl : Slot), 0 ≤ b → b < 2147483647 → ∃ (b' : Int) (sl' : Slot), 0 ≤ b' ∧ b' < 2147483647 ∧
    loopF (tgName 2) (mSet 1 (mBin opMod (mCall fInt (mCons (mBin opAdd (mBin opAdd (mBin opMul (mVar 1) (mC (.int 48271))) (mBin opMod (mCall fInt (mCons (mVar 2) mNil)) (mC (.int 65521)))) (mC (.int 1))) mNil)) (mC (.int 2147483647)))) (ms.map D.int) [.v (.scr ns), .v (.int b), sl] mh = .ok (.nx [.v (.scr ns), .v (.int b'), sl']) mh
  | [], b, sl, h0, h1 => ⟨b, sl, h0, h1, rfl⟩
  | m :: ms, b, sl, h0, h1 => by
    have hm : mulOk b 48271 = true := mulOk_of (by omega) (by decide)
    have e1 : (mSet 1 (mBin opMod (mCall fInt (mCons (mBin opAdd (mBin opAdd (mBin opMul (mVar 1) (mC (.int 48271))) (mBin opMod (mCall fInt (mCons (mVar 2) mNil)) (mC (.int 65521)))) (mC (.int 1))) mNil)) (mC (.int 2147483647)))) [.v (.scr ns), .v (.int b), .v (.int m)] mh = .ok (.nx [.v (.scr ns), .v (.int ((b * 48271 + m % 65521 + 1) % 2147483647)), .v (.int m)]) mh := by
      simp [mSet, mBin, mCall, mCons, mVar, mC, mNil, M.bind, M.pure, R.bind, opMod, opMul, opAdd, fInt, hm]
    obtain ⟨b', sl', q0, q1, q⟩ := stream_loop ns mh ms ((b * 48271 + m % 65521 + 1) % 2147483647) (.v (.int m)) (Int.emod_nonneg _ (by decide)) (Int.emod_lt_of_pos _ (by decide))
    refine ⟨b', sl', q0, q1, ?_⟩
    rw [List.map_cons]
    simp only [loopF, tgName, List.set_cons_succ, List.set_cons_zero]
    rw [M.bind_ok e1]
    exact q
theorem stream_gen (ns : List Int) (mh : MH) : ∃ (z : Int), strOk 0 z = true ∧ fg__law_stream [.scr ns] mh = .ok (.ref mh.length) (mh ++ [strL ns 0 0 z]) := by
  obtain ⟨b', sl', q0, q1, q⟩ := stream_loop ns mh ns 17 .no (by decide) (by decide)
  refine ⟨b', by simp [strOk, q0, q1], ?_⟩
  have e2 : (mRet (mNewLst (mCons (mCall fList (mCons (mVar 0) mNil)) (mCons (mC (.int 0)) (mCons (mC (.int 0)) (mCons (mVar 1) mNil)))))) [.v (.scr ns), .v (.int b'), sl'] mh = .ok (.rt (.ref mh.length)) (mh ++ [strL ns 0 0 b']) := by
    simp [mRet, mNewLst, mCall, mCons, mVar, mC, mNil, M.bind, M.pure, R.bind, fList, strL]
  have e1 : m__law_stream [.v (.scr ns), .no, .no] mh = .ok (.rt (.ref mh.length)) (mh ++ [strL ns 0 0 b']) := by
    unfold m__law_stream mSeq
    rw [M.bind_ok (a := .nx [.v (.scr ns), .v (.int 17), .no]) (h' := mh) (by simp [mSet, mC, M.bind, M.pure, R.bind])]
    show M.bind _ _ mh = _
    rw [M.bind_ok (a := .nx [.v (.scr ns), .v (.int b'), sl']) (h' := mh) ?_]
    · exact e2
    · unfold mFor
      rw [M.bind_ok (a := ns.map D.int) (h' := mh) (by simp [mItems, mVar, M.bind, M.pure, R.bind, itemsM])]
      exact q
  show M.bind _ _ mh = _
  rw [M.bind_ok (h' := mh ++ [strL ns 0 0 b']) (a := .rt (.ref mh.length)) e1]
  rfl
def m__law_draw : Env → M Fl := mSeq (mIf (mAndT (mTest (mBin opEq (mBin opIx (mVar 0) (mC (.int 1))) (mC (.int 0)))) (mTest (mBin opLt (mBin opIx (mVar 0) (mC (.int 2))) (mCall fLen (mCons (mBin opIx (mVar 0) (mC (.int 0))) mNil))))) (mSeq (mSetIx (mVar 0) (mC (.int 1)) (mCall fAbs (mCons (mCall fInt (mCons (mBin opIx (mBin opIx (mVar 0) (mC (.int 0))) (mBin opIx (mVar 0) (mC (.int 2)))) mNil)) mNil))) (mSetIx (mVar 0) (mC (.int 2)) (mBin opAdd (mBin opIx (mVar 0) (mC (.int 2))) (mC (.int 1))))) mNx) (mSeq (mIf (mTest (mBin opEq (mBin opIx (mVar 0) (mC (.int 1))) (mC (.int 0)))) (mSeq (mSetIx (mVar 0) (mC (.int 3)) (mBin opMod (mCall fInt (mCons (mBin opAdd (mBin opMul (mBin opIx (mVar 0) (mC (.int 3))) (mC (.int 48271))) (mC (.int 11))) mNil)) (mC (.int 2147483647)))) (mRet (mBin opMod (mCall fInt (mCons (mBin opDiv (mBin opIx (mVar 0) (mC (.int 3))) (mC (.int 97))) mNil)) (mVar 1)))) mNx) (mSeq (mSet 2 (mBin opMod (mCall fInt (mCons (mBin opIx (mVar 0) (mC (.int 1))) mNil)) (mVar 1))) (mSeq (mSetIx (mVar 0) (mC (.int 1)) (mBin opDiv (mBin opIx (mVar 0) (mC (.int 1))) (mVar 1))) (mRet (mVar 2)))))
def fg__law_draw : LOp := mFn 3 m__law_draw
section
variable {ns : List Int} {i : Nat} {m a b c : Int} {h : MH} {sl : Slot}
theorem at4 {α : Type} (x y z w : α) : L2.atI [x, y, z, w] 0 = some x ∧ L2.atI [x, y, z, w] 1 = some y ∧ L2.atI [x, y, z, w] 2 = some z ∧ L2.atI [x, y, z, w] 3 = some w := ⟨rfl, rfl, rfl, rfl⟩
theorem draw_rd (hh : h[i]? = some (strL ns a b c)) (env : Env) (he : env[0]? = some (.v (.ref i))) :
    mBin opIx (mVar 0) (mC (.int 0)) env h = .ok (.scr ns) h ∧ mBin opIx (mVar 0) (mC (.int 1)) env h = .ok (.int a) h ∧ mBin opIx (mVar 0) (mC (.int 2)) env h = .ok (.int b) h ∧ mBin opIx (mVar 0) (mC (.int 3)) env h = .ok (.int c) h := by
  have q := at4 (D.scr ns) (.int a) (.int b) (.int c)
  refine ⟨?_, ?_, ?_, ?_⟩ <;> simp [mBin, mVar, mC, he, M.bind, M.pure, R.bind, opIx, hh, strL, q]
theorem draw_wr (hh : h[i]? = some (strL ns a b c)) (env : Env) (he : env[0]? = some (.v (.ref i))) {e : Env → M D} {v : Int} (ev : e env h = .ok (.int v) h) :
    mSetIx (mVar 0) (mC (.int 1)) e env h = .ok (.nx env) (h.set i (strL ns v b c)) ∧ mSetIx (mVar 0) (mC (.int 2)) e env h = .ok (.nx env) (h.set i (strL ns a v c)) ∧ mSetIx (mVar 0) (mC (.int 3)) e env h = .ok (.nx env) (h.set i (strL ns a b v)) := by
  have r1 : ixN 4 1 = some 1 := rfl
  have r2 : ixN 4 2 = some 2 := rfl
  have r3 : ixN 4 3 = some 3 := rfl
  refine ⟨?_, ?_, ?_⟩ <;> simp [mSetIx, mVar, mC, he, M.bind, M.pure, R.bind, setIxM, hh, strL, ev, r1, r2, r3]
theorem set_at (hh : h[i]? = some (strL ns a b c)) (mo : MO) : (h.set i mo)[i]? = some mo := by
  have li : i < h.length := (List.getElem?_eq_some_iff.mp hh).1
  rw [getElem?_setS, if_pos rfl, if_pos li]
theorem set_self (hh : h[i]? = some (strL ns a b c)) : h.set i (strL ns a b c) = h := by
  apply List.ext_getElem?
  intro k
  rw [getElem?_setS]
  by_cases e : i = k
  · subst e
    rw [if_pos rfl, hh, if_pos (List.getElem?_eq_some_iff.mp hh).1]
  · rw [if_neg e]
/-- the next cell is taken -/
theorem draw_one (hh : h[i]? = some (strL ns a b c)) (hb : 0 ≤ b) (sl : Slot) : ∃ a' b', 0 ≤ b' ∧
    (mIf (mAndT (mTest (mBin opEq (mBin opIx (mVar 0) (mC (.int 1))) (mC (.int 0)))) (mTest (mBin opLt (mBin opIx (mVar 0) (mC (.int 2))) (mCall fLen (mCons (mBin opIx (mVar 0) (mC (.int 0))) mNil))))) (mSeq (mSetIx (mVar 0) (mC (.int 1)) (mCall fAbs (mCons (mCall fInt (mCons (mBin opIx (mBin opIx (mVar 0) (mC (.int 0))) (mBin opIx (mVar 0) (mC (.int 2)))) mNil)) mNil))) (mSetIx (mVar 0) (mC (.int 2)) (mBin opAdd (mBin opIx (mVar 0) (mC (.int 2))) (mC (.int 1))))) mNx)
      [.v (.ref i), .v (.int m), sl] h = .ok (.nx [.v (.ref i), .v (.int m), sl]) (h.set i (strL ns a' b' c)) := by
  obtain ⟨q0, q1, q2, q3⟩ := draw_rd hh [.v (.ref i), .v (.int m), sl] rfl
  have t1 : (mTest (mBin opEq (mBin opIx (mVar 0) (mC (.int 1))) (mC (.int 0)))) [.v (.ref i), .v (.int m), sl] h = .ok (decide (a = 0)) h := by
    exact test_ok ((bin_ok q1 c_ok).trans rfl)
  have t2 : (mTest (mBin opLt (mBin opIx (mVar 0) (mC (.int 2))) (mCall fLen (mCons (mBin opIx (mVar 0) (mC (.int 0))) mNil)))) [.v (.ref i), .v (.int m), sl] h = .ok (decide (b < ns.length)) h := by
    exact test_ok ((bin_ok q2 ((call1_ok q0).trans rfl)).trans rfl)
  by_cases ca : a = 0
  · by_cases cb : b < ns.length
    · have hat : ∃ v, L2.atI ns b = some v := by
        have hx : ixN ns.length b = some b.toNat := by
          unfold ixN
          rw [if_pos hb, if_pos cb]
        have hl : b.toNat < ns.length := by omega
        exact ⟨ns[b.toNat], by unfold L2.atI; rw [hx]; exact List.getElem?_eq_getElem hl⟩
      obtain ⟨v, hv⟩ := hat
      have e1 : (mCall fAbs (mCons (mCall fInt (mCons (mBin opIx (mBin opIx (mVar 0) (mC (.int 0))) (mBin opIx (mVar 0) (mC (.int 2)))) mNil)) mNil)) [.v (.ref i), .v (.int m), sl] h = .ok (.int (if v < 0 then -v else v)) h := by
        have : mBin opIx (mBin opIx (mVar 0) (mC (.int 0))) (mBin opIx (mVar 0) (mC (.int 2))) [.v (.ref i), .v (.int m), sl] h = .ok (.int v) h := by
          show M.bind _ _ h = _
          rw [M.bind_ok q0, M.bind_ok q2]
          simp only [opIx, hv, M.pure]
        exact (call1_ok ((call1_ok this).trans rfl)).trans rfl
      have w1 := (draw_wr hh [.v (.ref i), .v (.int m), sl] rfl e1).1
      have hh1 := set_at hh (strL ns (if v < 0 then -v else v) b c)
      obtain ⟨p0, p1, p2, p3⟩ := draw_rd hh1 [.v (.ref i), .v (.int m), sl] rfl
      have e2 : (mBin opAdd (mBin opIx (mVar 0) (mC (.int 2))) (mC (.int 1))) [.v (.ref i), .v (.int m), sl] (h.set i (strL ns (if v < 0 then -v else v) b c)) = .ok (.int (b + 1)) (h.set i (strL ns (if v < 0 then -v else v) b c)) := by
        show M.bind _ _ _ = _
        rw [M.bind_ok p2]
        rfl
      have w2 := (draw_wr hh1 [.v (.ref i), .v (.int m), sl] rfl e2).2.1
      rw [List.set_set] at w2
      refine ⟨(if v < 0 then -v else v), b + 1, by omega, ?_⟩
      show M.bind (M.bind _ _) _ h = _
      rw [M.bind_ok (a := true) (h' := h) (by rw [M.bind_ok t1]; simp only [ca, decide_true, if_true]; rw [t2]; simp [cb])]
      simp only [if_true]
      show M.bind _ _ h = _
      rw [M.bind_ok w1]
      exact w2
    · refine ⟨a, b, hb, ?_⟩
      show M.bind (M.bind _ _) _ h = _
      rw [M.bind_ok (a := false) (h' := h) (by rw [M.bind_ok t1]; simp only [ca, decide_true, if_true]; rw [t2]; simp [cb]), set_self hh]
      rfl
  · refine ⟨a, b, hb, ?_⟩
    show M.bind (M.bind _ _) _ h = _
    rw [M.bind_ok (a := false) (h' := h) (by rw [M.bind_ok t1]; simp [ca, M.pure]), set_self hh]
    rfl
theorem draw_gen (ns : List Int) (y1 y2 y3 m : Int) (i : Nat) (mh : MH) (h63 : ns.length ≤ 63) (hk : strOk y2 y3 = true) (h0 : 0 < m) (h30 : m < 1073741824) (hh : mh[i]? = some (strL ns y1 y2 y3)) :
    ∃ (j : Nat) (z1 z2 z3 : Int), j < m.toNat ∧ strOk z2 z3 = true ∧ fg__law_draw [.ref i, .int m] mh = .ok (.int j) (mh.set i (strL ns z1 z2 z3)) := by
  simp only [strOk, Bool.and_eq_true, decide_eq_true_eq] at hk
  obtain ⟨⟨k1, k2⟩, k3⟩ := hk
  obtain ⟨a, b, hb, e1⟩ := draw_one (m := m) hh k1 .no
  have hh1 := set_at hh (strL ns a b y3)
  have l2 : m.natAbs.log2 < 9000 := by
    have : m.natAbs.log2 < 30 := (Nat.log2_lt (by omega)).mpr (by omega)
    omega
  obtain ⟨q0, q1, q2, q3⟩ := draw_rd hh1 [.v (.ref i), .v (.int m), .no] rfl
  have t1 : (mTest (mBin opEq (mBin opIx (mVar 0) (mC (.int 1))) (mC (.int 0)))) [.v (.ref i), .v (.int m), .no] (mh.set i (strL ns a b y3)) = .ok (decide (a = 0)) (mh.set i (strL ns a b y3)) := by
    exact test_ok ((bin_ok q1 c_ok).trans rfl)
  by_cases ca : a = 0
  · -- from the generator
    have e3 : (mBin opMod (mCall fInt (mCons (mBin opAdd (mBin opMul (mBin opIx (mVar 0) (mC (.int 3))) (mC (.int 48271))) (mC (.int 11))) mNil)) (mC (.int 2147483647))) [.v (.ref i), .v (.int m), .no] (mh.set i (strL ns a b y3)) = .ok (.int ((y3 * 48271 + 11) % 2147483647)) (mh.set i (strL ns a b y3)) := by
      have hm : mulOk y3 48271 = true := mulOk_of (by omega) (by decide)
      have p : mBin opMul (mBin opIx (mVar 0) (mC (.int 3))) (mC (.int 48271)) [.v (.ref i), .v (.int m), .no] (mh.set i (strL ns a b y3)) = .ok (.int (y3 * 48271)) (mh.set i (strL ns a b y3)) := by
        rw [bin_ok q3 c_ok]
        simp [opMul, hm, M.pure]
      exact (bin_ok ((call1_ok ((bin_ok p c_ok).trans rfl)).trans rfl) c_ok).trans rfl
    have w3 := (draw_wr hh1 [.v (.ref i), .v (.int m), .no] rfl e3).2.2
    rw [List.set_set] at w3
    have z0 := Int.emod_nonneg (y3 * 48271 + 11) (b := 2147483647) (by decide)
    have z1 := Int.emod_lt_of_pos (y3 * 48271 + 11) (b := 2147483647) (by decide)
    generalize (y3 * 48271 + 11) % 2147483647 = z at w3 z0 z1 e3
    have hh3 := set_at hh (strL ns a b z)
    obtain ⟨p0, p1, p2, p3⟩ := draw_rd hh3 [.v (.ref i), .v (.int m), .no] rfl
    have e4 : (mBin opMod (mCall fInt (mCons (mBin opDiv (mBin opIx (mVar 0) (mC (.int 3))) (mC (.int 97))) mNil)) (mVar 1)) [.v (.ref i), .v (.int m), .no] (mh.set i (strL ns a b z)) = .ok (.int (z / 97 % m)) (mh.set i (strL ns a b z)) := by
      have d97 : (97 : Int).natAbs.log2 < 9000 := by decide
      have p : mBin opDiv (mBin opIx (mVar 0) (mC (.int 3))) (mC (.int 97)) [.v (.ref i), .v (.int m), .no] (mh.set i (strL ns a b z)) = .ok (.int (z / 97)) (mh.set i (strL ns a b z)) := by
        rw [bin_ok p3 c_ok]
        simp only [opDiv, d97, and_true]
        rfl
      rw [bin_ok ((call1_ok p).trans rfl) (show mVar 1 _ _ = .ok (.int m) _ from rfl)]
      simp [opMod, h0, M.pure]
    have u0 := Int.emod_nonneg (z / 97) (b := m) (by omega)
    have u1 := Int.emod_lt_of_pos (z / 97) h0
    refine ⟨(z / 97 % m).toNat, a, b, z, by omega, by simp [strOk, hb, z0, z1], ?_⟩
    show M.bind (M.bind _ _) _ mh = _
    rw [M.bind_ok (a := .rt (.int (z / 97 % m))) (h' := mh.set i (strL ns a b z)) ?_]
    · show R.ok _ _ = _
      rw [Int.toNat_of_nonneg u0]
    · show M.bind _ _ mh = _
      refine (M.bind_ok e1).trans ?_
      show M.bind (M.bind _ _) _ _ = _
      rw [M.bind_ok (a := .rt (.int (z / 97 % m))) (h' := mh.set i (strL ns a b z)) ?_]
      · rfl
      · rw [M.bind_ok t1]
        simp only [ca, decide_true, if_true]
        subst ca
        show M.bind _ _ _ = _
        rw [M.bind_ok w3]
        show M.bind _ _ _ = _
        rw [M.bind_ok e4]
        rfl
  · -- from the cell
    have e3 : (mBin opMod (mCall fInt (mCons (mBin opIx (mVar 0) (mC (.int 1))) mNil)) (mVar 1)) [.v (.ref i), .v (.int m), .no] (mh.set i (strL ns a b y3)) = .ok (.int (a % m)) (mh.set i (strL ns a b y3)) := by
      rw [bin_ok ((call1_ok q1).trans rfl) (show mVar 1 _ _ = .ok (.int m) _ from rfl)]
      simp [opMod, h0, M.pure]
    obtain ⟨p0, p1, p2, p3⟩ := draw_rd hh1 [.v (.ref i), .v (.int m), .v (.int (a % m))] rfl
    have e4 : (mBin opDiv (mBin opIx (mVar 0) (mC (.int 1))) (mVar 1)) [.v (.ref i), .v (.int m), .v (.int (a % m))] (mh.set i (strL ns a b y3)) = .ok (.int (a / m)) (mh.set i (strL ns a b y3)) := by
      rw [bin_ok p1 (show mVar 1 _ _ = .ok (.int m) _ from rfl)]
      simp [opDiv, h0, l2, M.pure]
    have w4 := (draw_wr hh1 [.v (.ref i), .v (.int m), .v (.int (a % m))] rfl e4).1
    rw [List.set_set] at w4
    have u0 := Int.emod_nonneg a (b := m) (by omega)
    have u1 := Int.emod_lt_of_pos a h0
    refine ⟨(a % m).toNat, a / m, b, y3, by omega, by simp [strOk, hb, k2, k3], ?_⟩
    show M.bind (M.bind _ _) _ mh = _
    rw [M.bind_ok (a := .rt (.int (a % m))) (h' := mh.set i (strL ns (a / m) b y3)) ?_]
    · show R.ok _ _ = _
      rw [Int.toNat_of_nonneg u0]
    · show M.bind _ _ mh = _
      refine (M.bind_ok e1).trans ?_
      show M.bind (M.bind _ _) _ _ = _
      rw [M.bind_ok (a := .nx [.v (.ref i), .v (.int m), .no]) (h' := mh.set i (strL ns a b y3)) ?_]
      · show M.bind (M.bind _ _) _ _ = _
        rw [M.bind_ok (a := .nx [.v (.ref i), .v (.int m), .v (.int (a % m))]) (h' := mh.set i (strL ns a b y3)) ?_]
        · show M.bind _ _ _ = _
          rw [M.bind_ok w4]
          rfl
        · rw [M.bind_ok e3]
          rfl
      · rw [M.bind_ok t1]
        simp [ca, mNx, M.pure]
end
end AG
/-! AgQ: ordinals, as data. -/
namespace AG
open PySem L2

inductive O where
  | z
  | c (p : O) (n : Int) (r : O)
deriving DecidableEq
namespace O
/-- the pairs -/
def its : O → List D
  | z => []
  | c p n r => .tup [.tup p.its, .int n] :: r.its
def enc (o : O) : D := .tup o.its
def dp : O → Nat
  | z => 0
  | c p _ r => max (p.dp + 1) r.dp
def len : O → Nat
  | z => 0
  | c _ _ r => r.len + 1
def lt : O → O → Bool
  | z, z => false
  | z, c _ _ _ => true
  | c _ _ _, z => false
  | c p n r, c q m s => if p = q then (if n = m then lt r s else decide (n < m)) else lt p q
theorem enc_z : enc z = .tup [] := rfl
theorem enc_c {p r : O} {n : Int} : enc (c p n r) = .tup (.tup [p.enc, .int n] :: r.its) := rfl
theorem its_c {p r : O} {n : Int} : its (c p n r) = .tup [p.enc, .int n] :: r.its := rfl
theorem its_len : ∀ o : O, o.its.length = o.len
  | z => rfl
  | c _ _ r => by simp [its, len, its_len r]
theorem its_sm : ∀ (o : O) (n : Nat), 2 * o.dp ≤ n → o.its.all (D.sm n) = true
  | z, _, _ => rfl
  | c p k r, n, h => by
    have h1 : 2 * (p.dp + 1) ≤ n := Nat.le_trans (Nat.mul_le_mul_left 2 (Nat.le_max_left _ _)) h
    have h2 : 2 * r.dp ≤ n := Nat.le_trans (Nat.mul_le_mul_left 2 (Nat.le_max_right _ _)) h
    obtain ⟨m, rfl⟩ : ∃ m, n = m + 2 := ⟨n - 2, by omega⟩
    have a := its_sm p m (by omega)
    have b := its_sm r (m + 2) h2
    simp [its, List.all_cons, D.sm, a, b]
theorem sm {o : O} {n : Nat} (h : 2 * o.dp + 1 ≤ n) : D.sm n o.enc = true := by
  obtain ⟨m, rfl⟩ : ∃ m, n = m + 1 := ⟨n - 1, by omega⟩
  exact its_sm o m (by omega)
theorem its_nl : ∀ (o : O) (n : Nat), 2 * o.dp ≤ n → o.its.all (D.nl n) = true
  | z, _, _ => rfl
  | c p k r, n, h => by
    have h1 : 2 * (p.dp + 1) ≤ n := Nat.le_trans (Nat.mul_le_mul_left 2 (Nat.le_max_left _ _)) h
    have h2 : 2 * r.dp ≤ n := Nat.le_trans (Nat.mul_le_mul_left 2 (Nat.le_max_right _ _)) h
    obtain ⟨m, rfl⟩ : ∃ m, n = m + 2 := ⟨n - 2, by omega⟩
    have a := its_nl p m (by omega)
    have b := its_nl r (m + 2) h2
    simp [its, List.all_cons, D.nl, a, b]
theorem nl {o : O} {n : Nat} (h : 2 * o.dp + 1 ≤ n) : D.nl n o.enc = true := by
  obtain ⟨m, rfl⟩ : ∃ m, n = m + 1 := ⟨n - 1, by omega⟩
  exact its_nl o m (by omega)
theorem ralike : ∀ a b : O, PySem.W.alikeAll (D.toPys a.its) (D.toPys b.its) = true
  | z, z => by simp [its, D.toPys, PySem.W.alikeAll]
  | z, c _ _ _ => by simp [its, D.toPys, PySem.W.alikeAll]
  | c _ _ _, z => by simp [its, D.toPys, PySem.W.alikeAll]
  | c p n r, c q m s => by
    have a := ralike p q
    have b := ralike r s
    simp [its, D.toPys, D.toPy, PySem.W.alikeAll, PySem.W.alike, a, b]
theorem alike (a b : O) : D.alike a.enc b.enc = true := by
  have := ralike a b
  simpa [D.alike, enc, D.toPy, PySem.W.alike] using this
theorem reqv : ∀ a b : O, PyData.eqvAll (D.toPys a.its) (D.toPys b.its) = decide (a = b)
  | z, z => by simp [its, D.toPys, PyData.eqvAll]
  | z, c _ _ _ => by simp [its, D.toPys, PyData.eqvAll]
  | c _ _ _, z => by simp [its, D.toPys, PyData.eqvAll]
  | c p n r, c q m s => by
    have a := reqv p q
    have b := reqv r s
    simp only [its, D.toPys, D.toPy, PyData.eqvAll, PyData.eqv, a, b]
    by_cases h1 : p = q <;> by_cases h2 : n = m <;> by_cases h3 : r = s <;> simp [h1, h2, h3]
theorem eqv (a b : O) : D.eqv a.enc b.enc = decide (a = b) := by
  have := reqv a b
  simpa [D.eqv, enc, D.toPy, PyData.eqv] using this
theorem rlt : ∀ a b : O, PyProof.Rows.lexLt PyProof.Rows.itemOrd (PySem.W.keyToksAll (D.toPys a.its)) (PySem.W.keyToksAll (D.toPys b.its)) = lt a b
  | z, z => PyProof.Rows.lex_irrefl _
  | z, c p n r => by
    simp only [its, D.toPys]
    rw [PySem.W.toks_all_cons]
    simp only [PySem.W.keyToksAll]
    rw [PyProof.Rows.lex_diff (O := PyProof.Rows.itemOrd) (by simp)]
    simp [PyProof.Rows.itemOrd, PyProof.Rows.itemLt, lt]
  | c p n r, z => by
    simp only [its, D.toPys]
    rw [PySem.W.toks_all_cons]
    simp only [PySem.W.keyToksAll]
    rw [PyProof.Rows.lex_diff (O := PyProof.Rows.itemOrd) (by simp)]
    simp [PyProof.Rows.itemOrd, PyProof.Rows.itemLt, lt]
  | c p n r, c q m s => by
    have a1 := ralike p q
    have e1 := reqv p q
    have l1 := rlt p q
    have l2 := rlt r s
    have al : PySem.W.alike (.tuple [.tuple (D.toPys p.its), .int n]) (.tuple [.tuple (D.toPys q.its), .int m]) = true := by simp [PySem.W.alike, PySem.W.alikeAll, a1]
    simp only [its, D.toPys, D.toPy]
    rw [PySem.W.dataLt_cons al, PySem.W.dataLt_pair (by simpa [PySem.W.alike] using a1) (by simp [PySem.W.alike])]
    simp only [PyData.eqv, PyData.eqvAll, e1, PySem.W.dataLt_int, PySem.W.dataLt_tuple, l1, l2, lt]
    by_cases h1 : p = q <;> by_cases h2 : n = m <;> simp [h1, h2]
theorem dlt (a b : O) : D.lt a.enc b.enc = lt a b := by
  have := rlt a b
  simp only [D.lt, enc, D.toPy]
  rw [PySem.W.dataLt_tuple]
  exact this

/-! the order -/
theorem lt_irrefl : ∀ a : O, lt a a = false
  | z => rfl
  | c p n r => by simp [lt, lt_irrefl r]
theorem lt_total : ∀ a b : O, lt a b = true ∨ a = b ∨ lt b a = true
  | z, z => .inr (.inl rfl)
  | z, c _ _ _ => .inl rfl
  | c _ _ _, z => .inr (.inr rfl)
  | c p n r, c q m s => by
    by_cases h1 : p = q
    · subst h1
      by_cases h2 : n = m
      · subst h2
        rcases lt_total r s with h | h | h
        · exact .inl (by simp [lt, h])
        · exact .inr (.inl (by rw [h]))
        · exact .inr (.inr (by simp [lt, h]))
      · have h2' : ¬ m = n := fun e => h2 e.symm
        rcases Int.lt_or_gt_of_ne h2 with h | h
        · exact .inl (by simp [lt, h2, h])
        · exact .inr (.inr (by simp [lt, h2', h]))
    · have h1' : ¬ q = p := fun e => h1 e.symm
      rcases lt_total p q with h | h | h
      · exact .inl (by simp [lt, h1, h])
      · exact absurd h h1
      · exact .inr (.inr (by simp [lt, h1', h]))
theorem lt_trans : ∀ {a b d : O}, lt a b = true → lt b d = true → lt a d = true
  | z, z, _, h, _ => by cases h
  | z, c _ _ _, z, _, h => by cases h
  | z, c _ _ _, c _ _ _, _, _ => rfl
  | c _ _ _, z, _, h, _ => by cases h
  | c _ _ _, c _ _ _, z, _, h => by cases h
  | c p n r, c q m s, c t k u, h1, h2 => by
    simp only [lt] at h1 h2 ⊢
    by_cases e1 : p = q
    · subst e1
      by_cases e2 : p = t
      · subst e2
        simp only [if_true] at h1 h2 ⊢
        by_cases e3 : n = m
        · subst e3
          by_cases e4 : n = k
          · subst e4
            simp only [if_true] at h1 h2 ⊢
            exact lt_trans h1 h2
          · simp only [e4, if_false, if_true, decide_eq_true_eq] at h1 h2 ⊢
            exact h2
        · simp only [e3, if_false, decide_eq_true_eq] at h1
          by_cases e4 : m = k
          · subst e4
            simp only [e3, if_false, decide_eq_true_eq]
            exact h1
          · simp only [e4, if_false, decide_eq_true_eq] at h2
            have e5 : ¬ n = k := by omega
            simp only [e5, if_false, decide_eq_true_eq]
            omega
      · simp only [e2, if_false] at h2 ⊢
        exact h2
    · simp only [e1, if_false] at h1
      by_cases e2 : q = t
      · subst e2
        simp only [e1, if_false]
        exact h1
      · simp only [e2, if_false] at h2
        have h3 := lt_trans h1 h2
        by_cases e3 : p = t
        · subst e3
          rw [lt_irrefl] at h3
          cases h3
        · simp only [e3, if_false]
          exact h3
theorem lt_asymm {a b : O} (h : lt a b = true) : lt b a = false := by
  cases q : lt b a with
  | false => rfl
  | true =>
    have := lt_trans h q
    rw [lt_irrefl] at this
    cases this
theorem lt_ne {a b : O} (h : lt a b = true) : a ≠ b := fun e => by
  subst e
  rw [lt_irrefl] at h
  cases h
theorem not_lt {a b : O} (h : lt a b = false) : a = b ∨ lt b a = true := by
  rcases lt_total a b with q | q | q
  · rw [h] at q; cases q
  · exact .inl q
  · exact .inr q
end O

/-! ### what the operators make of them -/
section
variable {h : MH} {a b : O} {L L' : List O}
theorem opLt_enc (ha : a.dp ≤ 29) (hb : b.dp ≤ 29) : opLt a.enc b.enc h = .ok (.bl (O.lt a b)) h := by
  have c : cmpOk a.enc b.enc = true := by
    simp [cmpOk, O.sm (show 2 * a.dp + 1 ≤ 60 by omega), O.sm (show 2 * b.dp + 1 ≤ 60 by omega), O.alike]
    rfl
  show (if cmpOk a.enc b.enc = true then M.pure (D.bl (D.lt a.enc b.enc)) else M.bad) h = _
  rw [if_pos c, O.dlt]
  rfl
theorem opGt_enc (ha : a.dp ≤ 29) (hb : b.dp ≤ 29) : opGt a.enc b.enc h = .ok (.bl (O.lt b a)) h := by
  have c : cmpOk a.enc b.enc = true := by
    simp [cmpOk, O.sm (show 2 * a.dp + 1 ≤ 60 by omega), O.sm (show 2 * b.dp + 1 ≤ 60 by omega), O.alike]
    rfl
  show (if cmpOk a.enc b.enc = true then M.pure (D.bl (D.lt b.enc a.enc)) else M.bad) h = _
  rw [if_pos c, O.dlt]
  rfl
theorem opLe_enc (ha : a.dp ≤ 29) (hb : b.dp ≤ 29) : opLe a.enc b.enc h = .ok (.bl (!O.lt b a)) h := by
  have c : cmpOk a.enc b.enc = true := by
    simp [cmpOk, O.sm (show 2 * a.dp + 1 ≤ 60 by omega), O.sm (show 2 * b.dp + 1 ≤ 60 by omega), O.alike]
    rfl
  show (if cmpOk a.enc b.enc = true then M.pure (D.bl (!D.lt b.enc a.enc)) else M.bad) h = _
  rw [if_pos c, O.dlt]
  rfl
theorem opGe_enc (ha : a.dp ≤ 29) (hb : b.dp ≤ 29) : opGe a.enc b.enc h = .ok (.bl (!O.lt a b)) h := by
  have c : cmpOk a.enc b.enc = true := by
    simp [cmpOk, O.sm (show 2 * a.dp + 1 ≤ 60 by omega), O.sm (show 2 * b.dp + 1 ≤ 60 by omega), O.alike]
    rfl
  show (if cmpOk a.enc b.enc = true then M.pure (D.bl (!D.lt a.enc b.enc)) else M.bad) h = _
  rw [if_pos c, O.dlt]
  rfl
theorem opEq_enc (ha : a.dp ≤ 29) (hb : b.dp ≤ 29) : opEq a.enc b.enc h = .ok (.bl (decide (a = b))) h := by
  have c : (D.sm 60 a.enc && D.sm 60 b.enc) = true := by simp [O.sm (show 2 * a.dp + 1 ≤ 60 by omega), O.sm (show 2 * b.dp + 1 ≤ 60 by omega)]
  show (if (D.sm 60 a.enc && D.sm 60 b.enc) = true then M.pure (D.bl (D.eqv a.enc b.enc)) else M.bad) h = _
  rw [if_pos c, O.eqv]
  rfl
theorem opNe_enc (ha : a.dp ≤ 29) (hb : b.dp ≤ 29) : opNe a.enc b.enc h = .ok (.bl (!decide (a = b))) h := by
  have c : (D.sm 60 a.enc && D.sm 60 b.enc) = true := by simp [O.sm (show 2 * a.dp + 1 ≤ 60 by omega), O.sm (show 2 * b.dp + 1 ≤ 60 by omega)]
  show (if (D.sm 60 a.enc && D.sm 60 b.enc) = true then M.pure (D.bl (!D.eqv a.enc b.enc)) else M.bad) h = _
  rw [if_pos c, O.eqv]
  rfl
theorem smL {n : Nat} (hL : ∀ x ∈ L, x.dp ≤ 28) (hn : 58 ≤ n) : (L.map O.enc).all (D.sm n) = true := by
  rw [List.all_map, List.all_eq_true]
  intro x hx
  exact O.sm (by have := hL x hx; omega)
theorem nlL {n : Nat} (hL : ∀ x ∈ L, x.dp ≤ 28) (hn : 58 ≤ n) : (L.map O.enc).all (D.nl n) = true := by
  rw [List.all_map, List.all_eq_true]
  intro x hx
  exact O.nl (by have := hL x hx; omega)
theorem any_enc : ((L.map O.enc).any fun z => D.eqv z a.enc) = decide (a ∈ L) := by
  rw [List.any_map]
  induction L with
  | nil => simp
  | cons x L ih =>
    rw [List.any_cons, ih]
    show (D.eqv x.enc a.enc || _) = _
    rw [O.eqv]
    by_cases h1 : x = a
    · subst h1; simp
    · have h1' : ¬ a = x := fun e => h1 e.symm
      simp [h1, h1']
theorem opIn_encL {g : Bool → Bool} (ha : a.dp ≤ 28) (hL : ∀ x ∈ L, x.dp ≤ 28) : opIn g a.enc (.lst (L.map O.enc)) h = .ok (.bl (g (decide (a ∈ L)))) h := by
  have c : (D.sm 60 a.enc && D.sm 60 (.lst (L.map O.enc))) = true := by
    have : (L.map O.enc).all (D.sm 59) = true := smL hL (by omega)
    rw [O.sm (show 2 * a.dp + 1 ≤ 60 by omega)]
    simpa [D.sm] using this
  show (if (D.sm 60 a.enc && D.sm 60 (.lst (L.map O.enc))) = true then M.pure _ else M.bad) h = _
  rw [if_pos c, any_enc]
  rfl
theorem opIn_encT {g : Bool → Bool} (ha : a.dp ≤ 28) (hL : ∀ x ∈ L, x.dp ≤ 28) : opIn g a.enc (.tup (L.map O.enc)) h = .ok (.bl (g (decide (a ∈ L)))) h := by
  have c : (D.sm 60 a.enc && D.sm 60 (.tup (L.map O.enc))) = true := by
    have : (L.map O.enc).all (D.sm 59) = true := smL hL (by omega)
    rw [O.sm (show 2 * a.dp + 1 ≤ 60 by omega)]
    simpa [D.sm] using this
  show (if (D.sm 60 a.enc && D.sm 60 (.tup (L.map O.enc))) = true then M.pure _ else M.bad) h = _
  rw [if_pos c, any_enc]
  rfl
theorem eqvL : ∀ L L' : List O, PyData.eqvAll (D.toPys (L.map O.enc)) (D.toPys (L'.map O.enc)) = decide (L = L')
  | [], [] => by simp [D.toPys, PyData.eqvAll]
  | [], _ :: _ => by simp [D.toPys, PyData.eqvAll]
  | _ :: _, [] => by simp [D.toPys, PyData.eqvAll]
  | x :: L, y :: L' => by
    have e := O.eqv x y
    have r := eqvL L L'
    unfold D.eqv at e
    simp only [List.map_cons, D.toPys, PyData.eqvAll, e, r]
    by_cases h1 : x = y <;> by_cases h2 : L = L' <;> simp [h1, h2]
theorem opEq_encL (hL : ∀ x ∈ L, x.dp ≤ 28) (hM : ∀ x ∈ L', x.dp ≤ 28) : opEq (.lst (L.map O.enc)) (.lst (L'.map O.enc)) h = .ok (.bl (decide (L = L'))) h := by
  have c : (D.sm 60 (.lst (L.map O.enc)) && D.sm 60 (.lst (L'.map O.enc))) = true := by
    have c1 : (L.map O.enc).all (D.sm 59) = true := smL hL (by omega)
    have c2 : (L'.map O.enc).all (D.sm 59) = true := smL hM (by omega)
    simp only [D.sm, c1, c2]
    rfl
  show (if (D.sm 60 (.lst (L.map O.enc)) && D.sm 60 (.lst (L'.map O.enc))) = true then M.pure (D.bl (D.eqv (.lst (L.map O.enc)) (.lst (L'.map O.enc)))) else M.bad) h = _
  rw [if_pos c]
  have e : D.eqv (.lst (L.map O.enc)) (.lst (L'.map O.enc)) = decide (L = L') := by
    have := eqvL L L'
    simpa [D.eqv, D.toPy, PyData.eqv] using this
  rw [e]
  rfl
theorem fRemove_enc (ha : a.dp ≤ 28) (hL : ∀ x ∈ L, x.dp ≤ 28) (hm : a ∈ L) : fRemove (L.map O.enc) a.enc = some ((L.erase a).map O.enc) := by
  have c : ((L.map O.enc).all (D.sm 60) && D.sm 60 a.enc) = true := by
    rw [smL hL (by omega), O.sm (show 2 * a.dp + 1 ≤ 60 by omega)]
    rfl
  unfold fRemove
  rw [if_pos c]
  clear c
  induction L with
  | nil => cases hm
  | cons x L ih =>
    rw [List.map_cons, List.findIdx?_cons, O.eqv]
    by_cases e : x = a
    · subst e
      simp
    · have hm' : a ∈ L := by
        rcases List.mem_cons.mp hm with q | q
        · exact absurd q.symm e
        · exact q
      have i := ih (fun y hy => hL y (List.mem_cons_of_mem _ hy)) hm'
      have hb : (x == a) = false := by simp [e]
      rw [List.erase_cons, hb]
      simp only [e, decide_false, Bool.false_eq_true, if_false, Option.map_map]
      cases q : List.findIdx? (fun z => D.eqv z a.enc) (L.map O.enc) with
      | none => rw [q] at i; cases i
      | some j =>
        rw [q] at i
        simp only [Option.map_some, Option.some.injEq] at i ⊢
        show (x.enc :: L.map O.enc).eraseIdx (j + 1) = _
        rw [List.eraseIdx_cons_succ, i]
        rfl
end

/-! ### comprehensions, any, all -/
section
variable {h : MH} {t : Tgt} {te : Env → M D} {tt : Env → M Bool} {env : Env}
theorem compF_map {α : Type} {f : α → D} {g : α → D} : ∀ {xs : List α}, (∀ x ∈ xs, ∃ env1, t (f x) env = some env1 ∧ te env1 h = .ok (g x) h) → compF t mYes te env (xs.map f) h = .ok (xs.map g) h
  | [], _ => rfl
  | x :: xs, hh => by
    obtain ⟨env1, e1, e2⟩ := hh x List.mem_cons_self
    have ih := compF_map (xs := xs) fun y hy => hh y (List.mem_cons_of_mem _ hy)
    rw [List.map_cons]
    simp only [compF, e1, M.bind, mYes, M.pure, R.bind, if_true, e2, ih, List.map_cons]
theorem compF_filter {α : Type} {f : α → D} {p : α → Bool} {g : α → D} : ∀ {xs : List α}, (∀ x ∈ xs, ∃ env1, t (f x) env = some env1 ∧ tt env1 h = .ok (p x) h ∧ (p x = true → te env1 h = .ok (g x) h)) → compF t tt te env (xs.map f) h = .ok ((xs.filter p).map g) h
  | [], _ => rfl
  | x :: xs, hh => by
    obtain ⟨env1, e1, e2, e3⟩ := hh x List.mem_cons_self
    have ih := compF_filter (xs := xs) fun y hy => hh y (List.mem_cons_of_mem _ hy)
    rw [List.map_cons]
    cases q : p x with
    | true => simp only [compF, e1, M.bind, e2, R.bind, q, if_true, e3 q, ih, M.pure, List.filter_cons, List.map_cons]
    | false => simp only [compF, e1, M.bind, e2, R.bind, q, if_false, ih, List.filter_cons, Bool.false_eq_true]
/-- by what each turn gives -/
theorem compF_wp {P : D → Prop} {E : Nat → MH → Prop} : ∀ {xs : List D}, (∀ x ∈ xs, ∃ env1, t x env = some env1 ∧ wpR (te env1 h) (fun d h' => P d ∧ h' = h) E) → wpR (compF t mYes te env xs h) (fun ds h' => (∀ d ∈ ds, P d) ∧ ds.length = xs.length ∧ h' = h) E
  | [], _ => ⟨fun _ h => (by cases h), rfl, rfl⟩
  | x :: xs, hh => by
    obtain ⟨env1, e1, e2⟩ := hh x List.mem_cons_self
    have ih := compF_wp (xs := xs) fun y hy => hh y (List.mem_cons_of_mem _ hy)
    simp only [compF, e1, M.bind, mYes, M.pure, R.bind, if_true]
    rw [wpR_bind]
    refine wpR_mono e2 (fun d h' q => ?_) fun _ _ q => q
    obtain ⟨q1, rfl⟩ := q
    rw [wpR_bind]
    refine wpR_mono ih (fun ds h'' q => ?_) fun _ _ q => q
    obtain ⟨q2, q3, rfl⟩ := q
    exact ⟨fun d' hd => (List.mem_cons.mp hd).elim (fun e => e ▸ q1) (q2 d'), by simp [q3], rfl⟩
theorem wpR_calm' {α : Type} {r : R α} {Q : α → MH → Prop} {E : Nat → MH → Prop} (h : wpR r Q fun _ _ => False) : wpR r.calm Q E := by
  induction r with
  | ok a m => exact h
  | exc c m => exact h.elim
  | bad => exact h
  | pick n k ih => exact ⟨h.1, fun i hi => ih i (h.2 i hi)⟩
theorem tok_bl (b : Bool) : D.tok (.bl b) = true := by cases b <;> rfl
theorem fAll_map {α : Type} {p : α → Bool} {xs : List α} : fAll [.lst (xs.map fun x => D.bl (p x))] h = .ok (.bl (xs.all p)) h := by
  have c : (xs.map fun x => D.bl (p x)).all D.tok = true := by
    rw [List.all_map, List.all_eq_true]
    intro x _
    exact tok_bl _
  show (if _ then M.pure (D.bl _) else M.bad) h = _
  rw [if_pos c, List.all_map]
  rfl
theorem fAny_map {α : Type} {p : α → Bool} {xs : List α} : fAny [.lst (xs.map fun x => D.bl (p x))] h = .ok (.bl (xs.any p)) h := by
  have c : (xs.map fun x => D.bl (p x)).all D.tok = true := by
    rw [List.all_map, List.all_eq_true]
    intro x _
    exact tok_bl _
  show (if _ then M.pure (D.bl _) else M.bad) h = _
  rw [if_pos c, List.any_map]
  rfl
end
end AG
/-! AgR: how the parts are worked out (simp). -/
namespace AG
open PySem L2

section
variable {α β : Type} {h : MH} {env : Env} {a b c m : Env → M D} {t u : Env → M Bool} {s s' : Env → M Fl} {ms mf mg : Env → M (List D)} {i j : Nat} {d : D}
@[simp] theorem rb_ok {x : α} {f : α → MH → R β} : (R.ok x h).bind f = f x h := id rfl
@[simp] theorem rb_exc {n : Nat} {f : α → MH → R β} : (R.exc n h : R α).bind f = .exc n h := id rfl
@[simp] theorem rb_bad {f : α → MH → R β} : (R.bad : R α).bind f = .bad := id rfl
@[simp] theorem rb_pick {n : Nat} {k : Nat → R α} {f : α → MH → R β} : (R.pick n k).bind f = .pick n fun i => (k i).bind f := id rfl
@[simp] theorem ev_bind {x : M α} {f : α → M β} : M.bind x f h = (x h).bind fun y h' => f y h' := id rfl
@[simp] theorem ev_pure {x : α} : M.pure x h = .ok x h := id rfl
@[simp] theorem ev_bad : (M.bad : M α) h = .bad := id rfl
@[simp] theorem ev_exc {n : Nat} : (M.exc n : M α) h = .exc n h := id rfl
@[simp] theorem calm_ok {x : α} : (R.ok x h).calm = .ok x h := id rfl
@[simp] theorem lent_pick {n : Nat} {ok : α → Bool} {k : Nat → R α} : (R.pick n k).lent ok = .pick n fun i => (k i).lent ok := id rfl
@[simp] theorem lent_ok {ok : α → Bool} {x : α} : (R.ok x h).lent ok = if (ok x && h.all MO.nl) = true then .ok x h else .bad := id rfl
@[simp] theorem wp_ok {x : α} {Q : α → MH → Prop} {E : Nat → MH → Prop} : wpR (.ok x h) Q E ↔ Q x h := Iff.intro id id
@[simp] theorem wp_exc {n : Nat} {Q : α → MH → Prop} {E : Nat → MH → Prop} : wpR (.exc n h : R α) Q E ↔ E n h := Iff.intro id id
@[simp] theorem wp_bad {Q : α → MH → Prop} {E : Nat → MH → Prop} : wpR (.bad : R α) Q E ↔ False := Iff.intro id id
@[simp] theorem ev_seq : mSeq s s' env h = (s env h).bind fun fl h' => (match fl with | .nx e => s' e | fl => M.pure fl) h' := id rfl
@[simp] theorem ev_set : mSet i a env h = (a env h).bind fun x h' => .ok (.nx (env.set i (.v x))) h' := id rfl
@[simp] theorem ev_setOwn : mSetOwn i mf env h = (mf env h).bind fun x h' => .ok (.nx (env.set i (.own x))) h' := id rfl
@[simp] theorem ev_setT {tg : Tgt} : mSetT tg a env h = (a env h).bind fun x h' => (match tg x env with | some e => M.pure (Fl.nx e) | none => M.bad) h' := id rfl
@[simp] theorem ev_ret : mRet a env h = (a env h).bind fun x h' => .ok (.rt x) h' := id rfl
@[simp] theorem ev_retN : mRetN env h = .ok (.rt .non) h := id rfl
@[simp] theorem ev_expr : mExpr a env h = (a env h).bind fun _ h' => .ok (.nx env) h' := id rfl
@[simp] theorem ev_if : mIf t s s' env h = (t env h).bind fun x h' => (if x = true then s env else s' env) h' := id rfl
@[simp] theorem ev_par : mPar i j ms env h = (ms env h).bind fun ds h' => (match ds with | [x, y] => M.pure (Fl.nx ((env.set i (.v x)).set j (.v y))) | _ => M.bad) h' := id rfl
@[simp] theorem ev_parOwn : mParOwn i j mf mg env h = (mf env h).bind fun xs h' => (mg env h').bind fun ys h'' => .ok (.nx ((env.set i (.own xs)).set j (.own ys))) h'' := id rfl
@[simp] theorem ev_nx : mNx env h = .ok (.nx env) h := id rfl
@[simp] theorem ev_bk : mBk env h = .ok (.bk env) h := id rfl
@[simp] theorem ev_ct : mCt env h = .ok (.ct env) h := id rfl
@[simp] theorem ev_for {tg : Tgt} : mFor ms tg s env h = (ms env h).bind fun xs h' => loopF tg s xs env h' := id rfl
@[simp] theorem ev_bin {f : DOp} : mBin f a b env h = (a env h).bind fun x h' => (b env h').bind fun y h'' => f x y h'' := id rfl
@[simp] theorem ev_c : mC d env h = .ok d h := id rfl
@[simp] theorem ev_truth : mTruth a env h = (a env h).bind fun x h' => truthM x h' := id rfl
@[simp] theorem ev_test : mTest a env h = (a env h).bind fun x h' => blM x h' := id rfl
@[simp] theorem ev_blM {x : Bool} : blM (.bl x) h = .ok x h := id rfl
@[simp] theorem ev_truthB {x : Bool} : truthM (.bl x) h = .ok x h := id rfl
@[simp] theorem ev_truthI {x : Int} : truthM (.int x) h = .ok (x != 0) h := id rfl
@[simp] theorem ev_truthN : truthM .non h = .ok false h := id rfl
@[simp] theorem ev_truthT {x : List D} : truthM (.tup x) h = .ok (!x.isEmpty) h := id rfl
@[simp] theorem ev_truthL {x : List D} : truthM (.lst x) h = .ok (!x.isEmpty) h := id rfl
@[simp] theorem ev_andT : mAndT t u env h = (t env h).bind fun x h' => (if x = true then u env else M.pure false) h' := id rfl
@[simp] theorem ev_orT : mOrT t u env h = (t env h).bind fun x h' => (if x = true then M.pure true else u env) h' := id rfl
@[simp] theorem ev_notT : mNotT t env h = (t env h).bind fun x h' => .ok (!x) h' := id rfl
@[simp] theorem ev_andV : mAndV a b env h = (a env h).bind fun x h' => (truthM x h').bind fun y h'' => (if y = true then b env else M.pure x) h'' := id rfl
@[simp] theorem ev_orV : mOrV a b env h = (a env h).bind fun x h' => (truthM x h').bind fun y h'' => (if y = true then M.pure x else b env) h'' := id rfl
@[simp] theorem ev_notV : mNotV a env h = (a env h).bind fun x h' => (truthM x h').bind fun y h'' => .ok (.bl (!y)) h'' := id rfl
@[simp] theorem ev_ifE : mIfE t a b env h = (t env h).bind fun x h' => (if x = true then a env else b env) h' := id rfl
@[simp] theorem ev_nil : mNil env h = .ok [] h := id rfl
@[simp] theorem ev_cons : mCons a ms env h = (a env h).bind fun x h' => (ms env h').bind fun xs h'' => .ok (x :: xs) h'' := id rfl
@[simp] theorem ev_tup : mTup ms env h = (ms env h).bind fun xs h' => (if xs.length ≤ 16777216 then M.pure (.tup xs) else M.bad) h' := id rfl
@[simp] theorem ev_lst : mLst ms env h = (ms env h).bind fun xs h' => (if xs.length ≤ 16777216 then M.pure (.lst xs) else M.bad) h' := id rfl
@[simp] theorem ev_lstF : mLstF ms env h = (ms env h).bind fun xs h' => (if xs.length ≤ 16777216 then M.pure xs else M.bad) h' := id rfl
@[simp] theorem ev_listF : mListF ms env h = (ms env h).bind fun xs h' => itemsF xs h' := id rfl
@[simp] theorem ev_itemsF {x : D} : itemsF [x] h = itemsM x h := id rfl
@[simp] theorem ev_itemsL {x : List D} : itemsM (.lst x) h = .ok x h := id rfl
@[simp] theorem ev_itemsT {x : List D} : itemsM (.tup x) h = .ok x h := id rfl
@[simp] theorem ev_frz : mFrz mf env h = (mf env h).bind fun xs h' => .ok (.lst xs) h' := id rfl
@[simp] theorem ev_un {f : D → M D} : mUn f a env h = (a env h).bind fun x h' => f x h' := id rfl
@[simp] theorem ev_neg {x : Int} : opNeg (.int x) h = .ok (.int (-x)) h := id rfl
@[simp] theorem ev_rev {x : List D} : opRev (.lst x) h = .ok (.lst x.reverse) h := id rfl
@[simp] theorem ev_call {f : LOp} : mCall f ms env h = (ms env h).bind fun xs h' => f xs h' := id rfl
@[simp] theorem ev_callN {f : LOp} {n : Nat} : mCallN n f ms env h = (ms env h).bind fun xs h' => (if xs.length = n then f xs else M.bad) h' := id rfl
@[simp] theorem ev_call0 {f : LOp} : mCall0 f env h = (f [] h).calm := id rfl
@[simp] theorem ev_items : mItems a env h = (a env h).bind fun x h' => itemsM x h' := id rfl
@[simp] theorem ev_rng1 : mRng1 a env h = (a env h).bind fun x h' => rng1M x h' := id rfl
@[simp] theorem ev_rng2 : mRng2 a b env h = (a env h).bind fun x h' => (b env h').bind fun y h'' => rng2M x y h'' := id rfl
@[simp] theorem ev_part : mPart a env h = (a env h).bind fun x h' => partM x h' := id rfl
@[simp] theorem ev_partM {x : Int} : partM (.int x) h = .ok (some x) h := id rfl
@[simp] theorem ev_noPart : mNoPart env h = .ok none h := id rfl
@[simp] theorem ev_sl {lo hi : Env → M (Option Int)} : mSl a lo hi env h = (a env h).bind fun x h' => (lo env h').bind fun l h'' => (hi env h'').bind fun u h3 => opSl x l u h3 := id rfl
@[simp] theorem ev_slT {x : List D} {l u : Option Int} : opSl (.tup x) l u h = .ok (.tup (cutD x l u)) h := id rfl
@[simp] theorem ev_slL {x : List D} {l u : Option Int} : opSl (.lst x) l u h = .ok (.lst (cutD x l u)) h := id rfl
@[simp] theorem ev_lc {tg : Tgt} {vs : List Nat} : mLc ms tg t a vs env h = (ms env h).bind fun xs h' => (if xs.length ≤ 16777216 then (fun h => (compF tg t a (wipeE env vs) xs h).calm) else M.bad) h' := id rfl
@[simp] theorem ev_isi {g : PyData → Bool} : mIsi g a env h = (a env h).bind fun x h' => (if D.sm 60 x = true then M.pure (.bl (g x.toPy)) else M.bad) h' := id rfl
@[simp] theorem ev_fn {n : Nat} {ds : List D} : mFn n s ds h = (s (ds.map Slot.v ++ List.replicate (n - ds.length) Slot.no) h).bind fun fl h' => flD fl h' := id rfl
@[simp] theorem ev_flR {x : D} : flD (.rt x) h = .ok x h := id rfl
@[simp] theorem ev_flN {e : Env} : flD (.nx e) h = .ok .non h := id rfl
@[simp] theorem ev_var (he : env[i]? = some (.v d)) : mVar i env h = .ok d h := by
  unfold mVar
  rw [he]
  rfl
@[simp] theorem ev_ownM {f : List D → D → Option (List D)} {ds : List D} (he : env[i]? = some (.own ds)) : mOwnM f i a env h = (a env h).bind fun y h' => (match f ds y with | some es => M.pure (Fl.nx (env.set i (.own es))) | none => M.bad) h' := by
  unfold mOwnM
  rw [he]
  rfl
@[simp] theorem ev_frzO {ds : List D} (he : env[i]? = some (.own ds)) : mFrzB i s env h = s (env.set i (.v (.lst ds))) h := by
  unfold mFrzB
  rw [he]
@[simp] theorem ev_frzV {x : D} (he : env[i]? = some (.v x)) : mFrzB i s env h = s env h := by
  unfold mFrzB
  rw [he]
@[simp] theorem ev_borO {ds : List D} (he : env[i]? = some (.own ds)) : mBor i a env h = (a (env.set i (.v (.lst ds))) h).lent (D.nl 60) := by
  unfold mBor mBorR
  rw [he]
@[simp] theorem ev_borTO {ds : List D} (he : env[i]? = some (.own ds)) : mBorT i t env h = (t (env.set i (.v (.lst ds))) h).lent (fun _ => true) := by
  unfold mBorT mBorR
  rw [he]
@[simp] theorem ev_borFO {ds : List D} (he : env[i]? = some (.own ds)) : mBorF i mf env h = (mf (env.set i (.v (.lst ds))) h).lent (fun ds => ds.all (D.nl 60)) := by
  unfold mBorF mBorR
  rw [he]
@[simp] theorem ev_aug {f : DOp} {x : D} (he : env[i]? = some (.v x)) : mAug f i a env h = (a env h).bind fun y h' => (f x y h').bind fun z h'' => .ok (.nx (env.set i (.v z))) h'' := by
  unfold mAug
  rw [he]
  rfl
@[simp] theorem ev_setIxOwn {ds : List D} (he : env[i]? = some (.own ds)) : mSetIxOwn i a b env h = (b env h).bind fun v h' => (a env h').bind fun j h'' => (match j with | .int k => (match ixN ds.length k with | some t => M.pure (Fl.nx (env.set i (.own (ds.set t v)))) | none => M.bad) | _ => M.bad) h'' := by
  unfold mSetIxOwn
  rw [he]
  show ((b env h).bind fun v h' => _) = _
  congr
  funext v h'
  show ((a env h').bind fun j h'' => _) = _
  congr
  funext k h''
  cases k <;> rfl
@[simp] theorem loop_nil {tg : Tgt} : loopF tg s [] env h = .ok (.nx env) h := id rfl
@[simp] theorem tgName_ {x : D} : tgName i x env = some (env.set i (.v x)) := id rfl
@[simp] theorem op_addI {x y : Int} : opAdd (.int x) (.int y) h = .ok (.int (x + y)) h := id rfl
@[simp] theorem aug_addI {x y : Int} : augAdd (.int x) (.int y) h = .ok (.int (x + y)) h := id rfl
@[simp] theorem op_subI {x y : Int} : opSub (.int x) (.int y) h = .ok (.int (x - y)) h := id rfl
@[simp] theorem op_eqI {x y : Int} : opEq (.int x) (.int y) h = .ok (.bl (decide (x = y))) h := id rfl
@[simp] theorem op_neI {x y : Int} : opNe (.int x) (.int y) h = .ok (.bl (!decide (x = y))) h := id rfl
@[simp] theorem op_ltI {x y : Int} : opLt (.int x) (.int y) h = .ok (.bl (decide (x < y))) h := id rfl
@[simp] theorem op_gtI {x y : Int} : opGt (.int x) (.int y) h = .ok (.bl (decide (y < x))) h := id rfl
@[simp] theorem op_leI {x y : Int} : opLe (.int x) (.int y) h = .ok (.bl (decide (x ≤ y))) h := id rfl
@[simp] theorem op_geI {x y : Int} : opGe (.int x) (.int y) h = .ok (.bl (decide (y ≤ x))) h := id rfl
@[simp] theorem op_addT {x y : List D} : opAdd (.tup x) (.tup y) h = (if x.length + y.length ≤ 16777216 then .ok (.tup (x ++ y)) h else .bad) := by
  show (if x.length + y.length ≤ 16777216 then M.pure (D.tup (x ++ y)) else M.bad) h = _
  split <;> rfl
@[simp] theorem op_addL {x y : List D} : opAdd (.lst x) (.lst y) h = (if x.length + y.length ≤ 16777216 then .ok (.lst (x ++ y)) h else .bad) := by
  show (if x.length + y.length ≤ 16777216 then M.pure (D.lst (x ++ y)) else M.bad) h = _
  split <;> rfl
@[simp] theorem op_ixT {x : List D} {k : Int} : opIx (.tup x) (.int k) h = (match atI x k with | some y => .ok y h | none => .bad) := by
  show (match atI x k with | some y => M.pure y | none => M.bad) h = _
  cases atI x k <;> rfl
@[simp] theorem op_ixL {x : List D} {k : Int} : opIx (.lst x) (.int k) h = (match atI x k with | some y => .ok y h | none => .bad) := by
  show (match atI x k with | some y => M.pure y | none => M.bad) h = _
  cases atI x k <;> rfl
@[simp] theorem at_0 {x : α} {r : List α} : atI (x :: r) 0 = some x := by
  have : ((0 : Int)) < ((r.length + 1 : Nat) : Int) := by omega
  simp [atI, ixN, this]
@[simp] theorem at_1 {x y : α} {r : List α} : atI (x :: y :: r) 1 = some y := by
  have : ((1 : Int)) < ((r.length + 1 + 1 : Nat) : Int) := by omega
  simp only [atI, ixN, List.length_cons, this, if_true]
  rfl
@[simp] theorem f_lenT {x : List D} : fLen [.tup x] h = .ok (.int x.length) h := id rfl
@[simp] theorem f_lenL {x : List D} : fLen [.lst x] h = .ok (.int x.length) h := id rfl
@[simp] theorem f_intI {x : Int} : fInt [.int x] h = .ok (.int x) h := id rfl
@[simp] theorem f_intB {x : Bool} : fInt [.bl x] h = .ok (.int (if x then 1 else 0)) h := id rfl
@[simp] theorem f_listL {x : List D} : fList [.lst x] h = .ok (.lst x) h := id rfl
@[simp] theorem f_listT {x : List D} : fList [.tup x] h = .ok (.lst x) h := id rfl
@[simp] theorem f_tupL {x : List D} : fTuple [.lst x] h = .ok (.tup x) h := id rfl
@[simp] theorem f_tupT {x : List D} : fTuple [.tup x] h = .ok (.tup x) h := id rfl
theorem rng1_nat {n : Nat} (hn : n < 4611686018427387904) : rng1M (.int n) h = .ok (rngD 0 n) h := by
  show M.pure (rngD 0 (n : Int).toNat) h = _
  rfl
theorem rng1_int {x : Int} : rng1M (.int x) h = .ok (rngD 0 x.toNat) h := rfl
end
/-- a loop by what each turn gives -/
theorem loopF_cons {tg : Tgt} {s : Env → M Fl} {x : D} {xs : List D} {env env1 : Env} {h h' : MH} (ht : tg x env = some env1) {e : Env} (hs : s env1 h = .ok (.nx e) h') : loopF tg s (x :: xs) env h = loopF tg s xs e h' := by
  simp only [loopF, ht, ev_bind, hs, rb_ok]
theorem loopF_ct {tg : Tgt} {s : Env → M Fl} {x : D} {xs : List D} {env env1 : Env} {h h' : MH} (ht : tg x env = some env1) {e : Env} (hs : s env1 h = .ok (.ct e) h') : loopF tg s (x :: xs) env h = loopF tg s xs e h' := by
  simp only [loopF, ht, ev_bind, hs, rb_ok]
theorem loopF_rt {tg : Tgt} {s : Env → M Fl} {x : D} {xs : List D} {env env1 : Env} {h h' : MH} (ht : tg x env = some env1) {d : D} (hs : s env1 h = .ok (.rt d) h') : loopF tg s (x :: xs) env h = .ok (.rt d) h' := by
  simp only [loopF, ht, ev_bind, hs, rb_ok, ev_pure]
theorem loopF_bk {tg : Tgt} {s : Env → M Fl} {x : D} {xs : List D} {env env1 : Env} {h h' : MH} (ht : tg x env = some env1) {e : Env} (hs : s env1 h = .ok (.bk e) h') : loopF tg s (x :: xs) env h = .ok (.nx e) h' := by
  simp only [loopF, ht, ev_bind, hs, rb_ok, ev_pure]
/-- a while by a turn -/
theorem while_go {c : Env → M Bool} {s : Env → M Fl} {k : Nat} {env e : Env} {h h' h'' : MH} (hc : c env h = .ok true h') (hs : s env h' = .ok (.nx e) h'') : whileF c s (k + 1) env h = whileF c s k e h'' := by
  simp only [whileF, ev_bind, hc, rb_ok, if_true, hs]
theorem while_end {c : Env → M Bool} {s : Env → M Fl} {k : Nat} {env : Env} {h h' : MH} (hc : c env h = .ok false h') : whileF c s (k + 1) env h = .ok (.nx env) h' := by
  simp only [whileF, ev_bind, hc, rb_ok, Bool.false_eq_true, if_false, ev_pure]
/-- a loop with ways: an invariant -/
theorem loopF_wp {tg : Tgt} {s : Env → M Fl} {I : Env → Prop} {h : MH} {E : Nat → MH → Prop} : ∀ {xs : List D} {env : Env}, I env → (∀ x ∈ xs, ∀ env, I env → ∃ env1, tg x env = some env1 ∧ wpR (s env1 h) (fun fl h' => h' = h ∧ ∃ e, fl = .nx e ∧ I e) E) →
    wpR (loopF tg s xs env h) (fun fl h' => h' = h ∧ ∃ e, fl = .nx e ∧ I e) E
  | [], env, i, _ => ⟨rfl, env, rfl, i⟩
  | x :: xs, env, i, hh => by
    obtain ⟨env1, e1, e2⟩ := hh x List.mem_cons_self env i
    simp only [loopF, e1, ev_bind]
    rw [wpR_bind]
    refine wpR_mono e2 (fun fl h' q => ?_) fun _ _ q => q
    obtain ⟨rfl, e, rfl, i2⟩ := q
    exact loopF_wp i2 fun y hy => hh y (List.mem_cons_of_mem _ hy)
/-- a draw -/
theorem draw_wp {h : MH} {i : Nat} {m : Int} {Q : D → MH → Prop} {E : Nat → MH → Prop} (hi : h[i]? = some .stream) (h0 : 0 < m) (h1 : m < 1073741824) (hq : ∀ j : Nat, (j : Int) < m → Q (.int j) h) : wpR (fDraw [.ref i, .int m] h) Q E := by
  unfold fDraw
  simp only [hi, h0, h1, and_self, if_true]
  exact ⟨by omega, fun j hj => hq j (by omega)⟩
end AG
/-! AgS: mixed sums of ordinals; counts. -/
namespace AG
open PySem L2

section
variable {h : MH} {o : O}
@[simp] theorem op_ixE {k : Int} : opIx o.enc (.int k) h = (match atI o.its k with | some y => .ok y h | none => .bad) := op_ixT
@[simp] theorem f_lenE : fLen [o.enc] h = .ok (.int o.len) h := by
  show R.ok (D.int o.its.length) h = _
  rw [O.its_len]
@[simp] theorem ev_itemsE : itemsM o.enc h = .ok o.its h := id rfl
@[simp] theorem ev_slE {l u : Option Int} : opSl o.enc l u h = .ok (.tup (cutD o.its l u)) h := id rfl
@[simp] theorem ev_truthE : truthM o.enc h = .ok (!o.its.isEmpty) h := id rfl
theorem enc_eq (o : O) : o.enc = .tup o.its := rfl
theorem at_mid {α : Type} {pre suf : List α} {x : α} : atI (pre ++ x :: suf) (pre.length : Int) = some x := L2.atI_nat (by simp)
end
namespace O
def mixIn (p : O) (n : Int) (f : O → O) : O → O
  | z => c p n (f z)
  | c q m s => if lt p q = true then c q m (mixIn p n f s) else if p = q then c p (n + m) (f s) else c p n (f (c q m s))
/-- the mixed sum -/
def mix : O → O → O
  | z, b => b
  | c p n r, b => mixIn p n (mix r) b
/-- how often a place stands in it -/
def cnt : O → O → Int
  | z, _ => 0
  | c p n r, x => (if p = x then n else 0) + r.cnt x
/-- no place above b -/
def under (b : O) : O → Prop
  | z => True
  | c p _ _ => lt p b = true
/-- numbers from 1 on, places falling -/
def nf : O → Prop
  | z => True
  | c p n r => nf p ∧ 1 ≤ n ∧ under p r ∧ nf r
theorem cnt_c (p r x : O) (n : Int) : cnt (c p n r) x = (if p = x then n else 0) + r.cnt x := rfl
theorem cnt_mixIn {p : O} {n : Int} {f : O → O} {k : O → Int} (hf : ∀ b x, cnt (f b) x = k x + cnt b x) : ∀ (b x : O), cnt (mixIn p n f b) x = (if p = x then n else 0) + k x + cnt b x
  | z, x => by rw [mixIn, cnt_c, hf]; omega
  | c q m s, x => by
    rw [mixIn]
    by_cases h1 : lt p q = true
    · rw [if_pos h1, cnt_c, cnt_mixIn hf s x, cnt_c]
      omega
    · rw [if_neg h1]
      by_cases h2 : p = q
      · rw [if_pos h2, cnt_c, hf, cnt_c]
        subst h2
        by_cases h3 : p = x
        · simp only [h3, if_true]; omega
        · simp only [h3, if_false]; omega
      · rw [if_neg h2, cnt_c, hf]
        omega
theorem cnt_mix : ∀ (a b x : O), cnt (mix a b) x = cnt a x + cnt b x
  | z, b, x => by simp [mix, cnt]
  | c p n r, b, x => by
    rw [mix, cnt_mixIn (k := fun x => cnt r x) (fun b x => cnt_mix r b x), cnt_c]
theorem under_mixIn {p t : O} {n : Int} {f : O → O} (hp : lt p t = true) : ∀ b : O, under t b → under t (mixIn p n f b)
  | z, _ => hp
  | c q m s, hb => by
    rw [mixIn]
    by_cases h1 : lt p q = true
    · rw [if_pos h1]; exact hb
    · rw [if_neg h1]
      by_cases h2 : p = q
      · rw [if_pos h2]; exact hp
      · rw [if_neg h2]; exact hp
theorem under_mix {t : O} : ∀ a b : O, under t a → under t b → under t (mix a b)
  | z, _, _, hb => hb
  | c p n r, b, ha, hb => by
    rw [mix]
    exact under_mixIn ha b hb
theorem nf_mixIn {p : O} {n : Int} {f : O → O} (hp : nf p) (hn : 1 ≤ n) (hf : ∀ b, nf b → nf (f b)) (hb : ∀ b, under p b → under p (f b)) : ∀ b : O, nf b → nf (mixIn p n f b)
  | z, _ => ⟨hp, hn, hb z trivial, hf z trivial⟩
  | c q m s, h => by
    obtain ⟨a1, a2, a3, a4⟩ := h
    rw [mixIn]
    by_cases h1 : lt p q = true
    · rw [if_pos h1]
      exact ⟨a1, a2, under_mixIn h1 s a3, nf_mixIn hp hn hf hb s a4⟩
    · rw [if_neg h1]
      by_cases h2 : p = q
      · rw [if_pos h2]
        subst h2
        exact ⟨hp, by omega, hb s a3, hf s a4⟩
      · rw [if_neg h2]
        have h3 : lt q p = true := by
          rcases lt_total p q with z | z | z
          · exact absurd z h1
          · exact absurd z h2
          · exact z
        exact ⟨hp, hn, hb _ h3, hf _ ⟨a1, a2, a3, a4⟩⟩
theorem nf_mix : ∀ a b : O, nf a → nf b → nf (mix a b)
  | z, _, _, hb => hb
  | c p n r, b, ha, hb => by
    rw [mix]
    exact nf_mixIn ha.1 ha.2.1 (fun b hb => nf_mix r b ha.2.2.2 hb) (fun b hb => under_mix r b ha.2.2.1 hb) b hb
theorem under_trans {p t : O} (h : lt p t = true) : ∀ {o : O}, under p o → under t o
  | z, _ => trivial
  | c _ _ _, hb => lt_trans hb h
theorem cnt_under {t : O} : ∀ {o x : O}, nf o → under t o → lt x t = false → cnt o x = 0
  | z, _, _, _, _ => rfl
  | c p n r, x, h, hb, hx => by
    have hp : ¬ p = x := fun e => by subst e; have hb : lt p t = true := hb; rw [hx] at hb; cases hb
    rw [cnt_c, if_neg hp, cnt_under h.2.2.2 (under_trans hb h.2.2.1) hx]
    rfl
theorem cnt_nonneg : ∀ {o : O} (x : O), nf o → 0 ≤ cnt o x
  | z, _, _ => Int.le_refl 0
  | c p n r, x, h => by
    have h1 := cnt_nonneg x h.2.2.2
    have h2 := h.2.1
    rw [cnt_c]
    by_cases e : p = x
    · rw [if_pos e]; omega
    · rw [if_neg e]; omega
/-- which of two is less, by counts -/
theorem lt_cnt : ∀ {a b : O}, nf a → nf b → lt a b = true → ∃ x, cnt a x < cnt b x ∧ ∀ y, lt x y = true → cnt a y = cnt b y
  | z, z, _, _, h => by cases h
  | z, c q m s, _, hb, _ => by
    refine ⟨q, ?_, fun y hy => ?_⟩
    · rw [cnt_c, if_pos rfl]
      have h1 := cnt_nonneg q hb.2.2.2
      have h2 := hb.2.1
      show (0 : Int) < _
      omega
    · rw [cnt_c, if_neg (lt_ne hy), cnt_under hb.2.2.2 hb.2.2.1 (lt_asymm hy)]
      rfl
  | c _ _ _, z, _, _, h => by cases h
  | c p n r, c q m s, ha, hb, h => by
    simp only [lt] at h
    by_cases e1 : p = q
    · subst e1
      by_cases e2 : n = m
      · subst e2
        simp only [if_true] at h
        obtain ⟨x, h1, h2⟩ := lt_cnt ha.2.2.2 hb.2.2.2 h
        refine ⟨x, by rw [cnt_c, cnt_c]; omega, fun y hy => by rw [cnt_c, cnt_c, h2 y hy]⟩
      · simp only [e2, if_false, if_true, decide_eq_true_eq] at h
        refine ⟨p, ?_, fun y hy => ?_⟩
        · rw [cnt_c, cnt_c, cnt_under ha.2.2.2 ha.2.2.1 (lt_irrefl p), cnt_under hb.2.2.2 hb.2.2.1 (lt_irrefl p)]
          simp only [if_true]
          omega
        · rw [cnt_c, cnt_c, cnt_under ha.2.2.2 ha.2.2.1 (lt_asymm hy), cnt_under hb.2.2.2 hb.2.2.1 (lt_asymm hy), if_neg (lt_ne hy), if_neg (lt_ne hy)]
    · simp only [e1, if_false] at h
      refine ⟨q, ?_, fun y hy => ?_⟩
      · rw [cnt_c, cnt_c, if_neg e1, if_pos rfl, cnt_under ha.2.2.2 ha.2.2.1 (lt_asymm h)]
        have h1 := cnt_nonneg q hb.2.2.2
        have h2 := hb.2.1
        omega
      · have h3 := lt_trans h hy
        rw [cnt_c, cnt_c, if_neg (lt_ne h3), if_neg (lt_ne hy), cnt_under ha.2.2.2 ha.2.2.1 (lt_asymm h3), cnt_under hb.2.2.2 hb.2.2.1 (lt_asymm hy)]
theorem cnt_ext {a b : O} (ha : nf a) (hb : nf b) (h : ∀ x, cnt a x = cnt b x) : a = b := by
  rcases lt_total a b with q | q | q
  · obtain ⟨x, h1, _⟩ := lt_cnt ha hb q
    have := h x
    omega
  · exact q
  · obtain ⟨x, h1, _⟩ := lt_cnt hb ha q
    have := h x
    omega
theorem cnt_lt {a b x : O} (ha : nf a) (hb : nf b) (h1 : cnt a x < cnt b x) (h2 : ∀ y, lt x y = true → cnt a y = cnt b y) : lt a b = true := by
  rcases lt_total a b with q | q | q
  · exact q
  · subst q; omega
  · obtain ⟨y, k1, k2⟩ := lt_cnt hb ha q
    rcases lt_total x y with z | z | z
    · have := h2 y z; omega
    · subst z; omega
    · have := k2 x z; omega
theorem mixIn_dp {p : O} {n : Int} {f : O → O} {k : Nat} (hp : p.dp < k) (hf : ∀ b, b.dp ≤ k → (f b).dp ≤ k) : ∀ b : O, b.dp ≤ k → (mixIn p n f b).dp ≤ k
  | z, _ => by rw [mixIn]; exact Nat.max_le.mpr ⟨hp, hf z (Nat.zero_le _)⟩
  | c q m s, h => by
    have h1 : q.dp + 1 ≤ k := Nat.le_trans (Nat.le_max_left _ _) h
    have h2 : s.dp ≤ k := Nat.le_trans (Nat.le_max_right _ _) h
    rw [mixIn]
    split
    · exact Nat.max_le.mpr ⟨h1, mixIn_dp hp hf s h2⟩
    · split
      · exact Nat.max_le.mpr ⟨hp, hf s h2⟩
      · exact Nat.max_le.mpr ⟨hp, hf _ h⟩
theorem mix_dp {k : Nat} : ∀ a b : O, a.dp ≤ k → b.dp ≤ k → (mix a b).dp ≤ k
  | z, _, _, hb => hb
  | c p n r, b, ha, hb => by
    rw [mix]
    exact mixIn_dp (Nat.le_trans (Nat.le_max_left _ _) ha) (fun b hb => mix_dp r b (Nat.le_trans (Nat.le_max_right _ _) ha) hb) b hb
theorem mixIn_len {p : O} {n : Int} {f : O → O} {k : Nat} (hf : ∀ b, (f b).len ≤ k + b.len) : ∀ b : O, (mixIn p n f b).len ≤ k + 1 + b.len
  | z => by
    rw [mixIn]
    have := hf z
    simp only [len] at this ⊢
    omega
  | c q m s => by
    have h1 := mixIn_len (p := p) (n := n) hf s
    have h2 := hf s
    have h3 := hf (c q m s)
    rw [mixIn]
    simp only [len] at h3 ⊢
    split
    · simp only [len]; omega
    · split <;> simp only [len] <;> omega
theorem mix_len : ∀ a b : O, (mix a b).len ≤ a.len + b.len
  | z, b => by rw [mix]; simp [len]
  | c p n r, b => by
    rw [mix]
    have := mixIn_len (p := p) (n := n) (f := mix r) (k := r.len) (fun b => mix_len r b) b
    simp only [len]
    omega
end O
end AG
/-! AgT: lists of ordinals: counts, differences; the laws' _law_same. -/
namespace AG
open PySem L2

/-- as wpR, not unfolded -/
structure Wp {α : Type} (r : R α) (Q : α → MH → Prop) (E : Nat → MH → Prop) : Prop where
  out : wpR r Q E
/-! ### what is in one and not in the other -/
def wo (L M : List O) : List O := M.foldl (fun r a => r.erase a) L
theorem count_wo : ∀ (M L : List O) (x : O), (wo L M).count x = L.count x - M.count x
  | [], L, x => by simp [wo]
  | m :: M, L, x => by
    show (wo (L.erase m) M).count x = _
    rw [count_wo M (L.erase m) x, List.count_erase, List.count_cons]
    omega
theorem mem_wo {L M : List O} {x : O} : x ∈ wo L M ↔ M.count x < L.count x := by
  rw [← List.count_pos_iff, count_wo]
  omega
theorem wo_sub {L M : List O} {x : O} (h : x ∈ wo L M) : x ∈ L := by
  have := mem_wo.mp h
  exact List.count_pos_iff.mp (by omega)

theorem wo_len : ∀ (L M : List O), (wo L M).length ≤ L.length
  | L, [] => Nat.le_refl _
  | L, m :: M => Nat.le_trans (wo_len (L.erase m) M) (List.length_erase_le ..)
/-! ### data that _law_same takes -/
def D.okN : Nat → D → Bool
  | _, .ref _ => false
  | _, .scr _ => false
  | 0, .tup _ => false
  | 0, .lst _ => false
  | n + 1, .tup xs => decide (xs.length ≤ 16777216) && xs.all (D.okN n)
  | n + 1, .lst xs => decide (xs.length ≤ 16777216) && xs.all (D.okN n)
  | _, _ => true
theorem okN_sm : ∀ {n : Nat} {d : D}, D.okN n d = true → D.sm n d = true
  | _, .non, _ => by simp [D.sm]
  | _, .bl _, _ => by simp [D.sm]
  | _, .int _, _ => by simp [D.sm]
  | _, .str _, _ => by simp [D.sm]
  | n, .ref _, h => by cases n <;> simp [D.okN] at h
  | n, .scr _, h => by cases n <;> simp [D.okN] at h
  | 0, .tup _, h => by simp [D.okN] at h
  | 0, .lst _, h => by simp [D.okN] at h
  | n + 1, .tup xs, h => by
    simp only [D.okN, Bool.and_eq_true, List.all_eq_true, D.sm] at h ⊢
    exact fun x hx => okN_sm (h.2 x hx)
  | n + 1, .lst xs, h => by
    simp only [D.okN, Bool.and_eq_true, List.all_eq_true, D.sm] at h ⊢
    exact fun x hx => okN_sm (h.2 x hx)
theorem sm_up : ∀ {n : Nat} {d : D}, D.sm n d = true → D.sm (n + 1) d = true
  | _, .non, _ => by simp [D.sm]
  | _, .bl _, _ => by simp [D.sm]
  | _, .int _, _ => by simp [D.sm]
  | _, .str _, _ => by simp [D.sm]
  | n, .ref _, h => by cases n <;> simp [D.sm] at h
  | n, .scr _, h => by cases n <;> simp [D.sm] at h
  | 0, .tup _, h => by simp [D.sm] at h
  | 0, .lst _, h => by simp [D.sm] at h
  | n + 1, .tup xs, h => by
    simp only [List.all_eq_true, D.sm] at h ⊢
    exact fun x hx => sm_up (h x hx)
  | n + 1, .lst xs, h => by
    simp only [List.all_eq_true, D.sm] at h ⊢
    exact fun x hx => sm_up (h x hx)
theorem sm_le {n m : Nat} {d : D} (hn : n ≤ m) (h : D.sm n d = true) : D.sm m d = true := by
  induction hn with
  | refl => exact h
  | step _ ih => exact sm_up ih
namespace O
/-- the greatest length in it -/
def mx : O → Nat
  | z => 0
  | c p _ r => max p.mx (max (r.len + 1) r.mx)
theorem len_mx : ∀ o : O, o.len ≤ o.mx
  | z => Nat.le_refl _
  | c p n r => Nat.le_trans (Nat.le_max_left _ _) (Nat.le_max_right _ _)
/-- every place keeps P -/
def allP (P : O → Prop) : O → Prop
  | z => True
  | c p _ r => P p ∧ allP P r
theorem allP_mixIn {P : O → Prop} {p : O} {n : Int} {f : O → O} (hp : P p) (hf : ∀ b, allP P b → allP P (f b)) : ∀ b, allP P b → allP P (mixIn p n f b)
  | z, _ => ⟨hp, hf z trivial⟩
  | c q m s, h => by
    rw [mixIn]
    split
    · exact ⟨h.1, allP_mixIn hp hf s h.2⟩
    · split
      · exact ⟨hp, hf s h.2⟩
      · exact ⟨hp, hf _ h⟩
theorem allP_mix {P : O → Prop} : ∀ a b, allP P a → allP P b → allP P (mix a b)
  | z, _, _, hb => hb
  | c p n r, b, ha, hb => by
    rw [mix]
    exact allP_mixIn ha.1 (fun b hb => allP_mix r b ha.2 hb) b hb
theorem mx_of {k : Nat} : ∀ {o : O}, o.len ≤ k → allP (fun p => p.mx ≤ k) o → o.mx ≤ k
  | z, _, _ => Nat.zero_le _
  | c p n r, hl, h => Nat.max_le.mpr ⟨h.1, Nat.max_le.mpr ⟨hl, mx_of (Nat.le_of_succ_le hl) h.2⟩⟩
theorem of_mx {k : Nat} : ∀ {o : O}, o.mx ≤ k → allP (fun p => p.mx ≤ k) o
  | z, _ => trivial
  | c p n r, h => ⟨Nat.le_trans (Nat.le_max_left _ _) h, of_mx (Nat.le_trans (Nat.le_trans (Nat.le_max_right _ _) (Nat.le_max_right _ _)) h)⟩
theorem its_ok : ∀ (o : O) (n : Nat), 2 * o.dp ≤ n → o.mx ≤ 16777216 → o.its.all (D.okN n) = true
  | z, _, _, _ => rfl
  | c p k r, n, h, hm => by
    have h1 : 2 * (p.dp + 1) ≤ n := Nat.le_trans (Nat.mul_le_mul_left 2 (Nat.le_max_left _ _)) h
    have h2 : 2 * r.dp ≤ n := Nat.le_trans (Nat.mul_le_mul_left 2 (Nat.le_max_right _ _)) h
    have m1 : p.mx ≤ 16777216 := Nat.le_trans (Nat.le_max_left _ _) hm
    have m2 : r.mx ≤ 16777216 := Nat.le_trans (Nat.le_trans (Nat.le_max_right _ _) (Nat.le_max_right _ _)) hm
    obtain ⟨m, rfl⟩ : ∃ m, n = m + 2 := ⟨n - 2, by omega⟩
    have a := its_ok p m (by omega) m1
    have b := its_ok r (m + 2) h2 m2
    have l := len_mx p
    have l' : p.its.length ≤ 16777216 := by rw [its_len]; omega
    simp [its, List.all_cons, D.okN, a, b, l']
theorem okD {o : O} (h : o.dp ≤ 29) (hm : o.mx ≤ 16777216) : D.okN 60 o.enc = true := by
  have a := its_ok o 59 (by omega) hm
  have l := len_mx o
  have l' : o.its.length ≤ 16777216 := by rw [its_len]; omega
  simp [enc, D.okN, a, l']
end O

/-! ### _law_same of the laws k51 to k56 -/
def e__law_same_1 (self__law_same : LOp) : AG.Env → M D := mCallN 2 self__law_same (mCons (mBin opIx (mVar 0) (mVar 2)) (mCons (mBin opIx (mVar 1) (mVar 2)) mNil))
def e__law_same_2 (self__law_same : LOp) : AG.Env → M D := mAndV (mBin (opIn id) (mVar 3) (mVar 1)) (mCallN 2 self__law_same (mCons (mBin opIx (mVar 0) (mVar 3)) (mCons (mBin opIx (mVar 1) (mVar 3)) mNil)))
def m__law_same (self__law_same : LOp) : AG.Env → M Fl := mSeq (mIf (mOrT (mAndT (mTruth (mIsi PyData.isTuple (mVar 0))) (mTruth (mIsi PyData.isTuple (mVar 1)))) (mAndT (mTruth (mIsi PyData.isList (mVar 0))) (mTruth (mIsi PyData.isList (mVar 1))))) (mRet (mAndV (mBin opEq (mCall fLen (mCons (mVar 0) mNil)) (mCall fLen (mCons (mVar 1) mNil))) (mCall fAll (mCons (mFrz (mLc (mRng1 (mCall fLen (mCons (mVar 0) mNil))) (tgName 2) mYes (e__law_same_1 self__law_same) [2])) mNil)))) mNx) (mSeq (mIf (mAndT (mTruth (mIsi PyData.isDict (mVar 0))) (mTruth (mIsi PyData.isDict (mVar 1)))) (mRet (mAndV (mBin opEq (mCall fLen (mCons (mVar 0) mNil)) (mCall fLen (mCons (mVar 1) mNil))) (mCall fAll (mCons (mFrz (mLc (mItems (mVar 0)) (tgName 3) mYes (e__law_same_2 self__law_same) [3])) mNil)))) mNx) (mSeq (mIf (mOrT (mAndT (mTruth (mIsi PyData.isStr (mVar 0))) (mTruth (mIsi PyData.isStr (mVar 1)))) (mAndT (mTest (mBin (opIs id) (mVar 0) (mC .non))) (mTest (mBin (opIs id) (mVar 1) (mC .non))))) (mRet (mBin opEq (mVar 0) (mVar 1))) mNx) (mSeq (mIf (mOrT (mNotT (mTruth (mIsi PyData.isInt (mVar 0)))) (mNotT (mTruth (mIsi PyData.isInt (mVar 1))))) (mRet (mC (.bl false))) mNx) (mRet (mAndV (mBin opEq (mVar 0) (mVar 1)) (mBin opEq (mIsi PyData.isBool (mVar 0)) (mIsi PyData.isBool (mVar 1))))))))
def f__law_same : LOp := recF (fun self => mFn 4 (m__law_same self)) 70
section
variable {h : MH}
@[simp] theorem op_isN {d : D} : opIs id d .non h = .ok (.bl (match d with | .non => true | _ => false)) h := by cases d <;> rfl
@[simp] theorem op_eqB {x y : Bool} : opEq (.bl x) (.bl y) h = .ok (.bl (x == y)) h := by cases x <;> cases y <;> rfl
theorem op_eqS {d : D} (hd : D.sm 60 d = true) (hr : D.eqv d d = true) : opEq d d h = .ok (.bl true) h := by
  have e : opEq d d h = .ok (.bl (D.eqv d d)) h := by
    unfold opEq
    split
    · simp [D.eqv, D.toPy, PyData.eqv]
    · rw [hd]
      rfl
  rw [e, hr]
theorem at_nat {xs : List D} {k : Nat} (hk : k < xs.length) : atI xs (k : Int) = some xs[k] := L2.atI_nat (List.getElem?_eq_getElem hk)
theorem same_all {self : LOp} {xs : List D} {X : D} (hX : X = .tup xs ∨ X = .lst xs) (hl : xs.length ≤ 16777216) (ih : ∀ x ∈ xs, self [x, x] h = .ok (.bl true) h) (sl : Slot) :
    compF (tgName 2) mYes (e__law_same_1 self) [.v X, .v X, .no, sl] (rngD 0 xs.length) h = .ok ((List.range xs.length).map fun _ => D.bl true) h := by
  rw [rngD_def]
  refine compF_map (f := fun i : Nat => D.int (0 + (i : Int))) (g := fun _ => D.bl true) fun k hk => ?_
  have hk : k < xs.length := List.mem_range.mp hk
  refine ⟨_, rfl, ?_⟩
  have hi : atI xs (k : Int) = some xs[k] := at_nat hk
  have hs := ih xs[k] (List.getElem_mem hk)
  rcases hX with rfl | rfl
  · simp [e__law_same_1, hi, hs]
  · simp [e__law_same_1, hi, hs]
theorem fAll_yes {α : Type} {xs : List α} : fAll [.lst (xs.map fun _ => D.bl true)] h = .ok (.bl true) h := by
  rw [fAll_map]
  simp
theorem same_non {self : LOp} : mFn 4 (m__law_same self) [.non, .non] h = .ok (.bl true) h := by
  have e := op_eqS (h := h) (d := .non) (by simp [D.sm]) (by simp [D.eqv, D.toPy, PyData.eqv])
  simp [m__law_same, D.sm, D.toPy, PyData.isTuple, PyData.isList, PyData.isDict, PyData.isStr, PyData.isInt, PyData.isBool, e]
theorem same_bl' {self : LOp} {b : Bool} : mFn 4 (m__law_same self) [.bl b, .bl b] h = .ok (.bl true) h := by
  simp [m__law_same, D.sm, D.toPy, PyData.isTuple, PyData.isList, PyData.isDict, PyData.isStr, PyData.isInt, PyData.isBool]
theorem same_int' {self : LOp} {i : Int} : mFn 4 (m__law_same self) [.int i, .int i] h = .ok (.bl true) h := by
  simp [m__law_same, D.sm, D.toPy, PyData.isTuple, PyData.isList, PyData.isDict, PyData.isStr, PyData.isInt, PyData.isBool]
theorem same_str' {self : LOp} {x : Str} : mFn 4 (m__law_same self) [.str x, .str x] h = .ok (.bl true) h := by
  have e := op_eqS (h := h) (d := .str x) (by simp [D.sm]) (by simp [D.eqv, D.toPy, PyData.eqv])
  simp [m__law_same, D.sm, D.toPy, PyData.isTuple, PyData.isList, PyData.isDict, PyData.isStr, PyData.isInt, PyData.isBool, e]
theorem same_tup {self : LOp} {xs : List D} (sm : D.sm 60 (.tup xs) = true) (hl : xs.length ≤ 16777216) (ih : ∀ x ∈ xs, self [x, x] h = .ok (.bl true) h) : mFn 4 (m__law_same self) [.tup xs, .tup xs] h = .ok (.bl true) h := by
  have c := same_all (h := h) (X := .tup xs) (.inl rfl) hl ih .no
  have r := rng1_nat (h := h) (n := xs.length) (by omega)
  have l : (rngD 0 xs.length).length ≤ 16777216 := by simp [rngD_def, hl]
  simp [m__law_same, sm, D.toPy, PyData.isTuple, r, l, wipeE, c, fAll_yes]
theorem same_lst {self : LOp} {xs : List D} (sm : D.sm 60 (.lst xs) = true) (hl : xs.length ≤ 16777216) (ih : ∀ x ∈ xs, self [x, x] h = .ok (.bl true) h) : mFn 4 (m__law_same self) [.lst xs, .lst xs] h = .ok (.bl true) h := by
  have c := same_all (h := h) (X := .lst xs) (.inr rfl) hl ih .no
  have r := rng1_nat (h := h) (n := xs.length) (by omega)
  have l : (rngD 0 xs.length).length ≤ 16777216 := by simp [rngD_def, hl]
  simp [m__law_same, sm, D.toPy, PyData.isTuple, PyData.isList, r, l, wipeE, c, fAll_yes]
theorem same_step {self : LOp} {n : Nat} {d : D} (hn : n ≤ 60) (hd : D.okN n d = true) (ih : ∀ (m : Nat) (x : D), m < n → D.okN m x = true → self [x, x] h = .ok (.bl true) h) : mFn 4 (m__law_same self) [d, d] h = .ok (.bl true) h := by
  have sm := sm_le hn (okN_sm hd)
  cases d with
  | non => exact same_non
  | bl b => exact same_bl'
  | int i => exact same_int'
  | str x => exact same_str'
  | ref m => cases n <;> simp [D.okN] at hd
  | scr m => cases n <;> simp [D.okN] at hd
  | tup xs =>
    cases n with
    | zero => simp [D.okN] at hd
    | succ n =>
      simp only [D.okN, Bool.and_eq_true, decide_eq_true_eq, List.all_eq_true] at hd
      exact same_tup sm hd.1 fun x hx => ih n x (Nat.lt_succ_self n) (hd.2 x hx)
  | lst xs =>
    cases n with
    | zero => simp [D.okN] at hd
    | succ n =>
      simp only [D.okN, Bool.and_eq_true, decide_eq_true_eq, List.all_eq_true] at hd
      exact same_lst sm hd.1 fun x hx => ih n x (Nat.lt_succ_self n) (hd.2 x hx)
theorem same_refl (k : Nat) : ∀ (n : Nat) (d : D), n ≤ 60 → D.okN n d = true → n < k → recF (fun self => mFn 4 (m__law_same self)) k [d, d] h = .ok (.bl true) h := by
  induction k with
  | zero => exact fun n d _ _ hk => absurd hk (Nat.not_lt_zero _)
  | succ k ih =>
    intro n d hn hd hk
    show mFn 4 (m__law_same (recF (fun self => mFn 4 (m__law_same self)) k)) [d, d] h = _
    exact same_step hn hd fun m x hm hx => ih m x (by omega) hx (by omega)
theorem same_ok {d : D} (hd : D.okN 60 d = true) : f__law_same [d, d] h = .ok (.bl true) h := same_refl 70 60 d (Nat.le_refl _) hd (by decide)
theorem same_int {i : Int} : f__law_same [.int i, .int i] h = .ok (.bl true) h := same_ok rfl
theorem same_bl {i : Bool} : f__law_same [.bl i, .bl i] h = .ok (.bl true) h := same_ok rfl
end
end AG
/-! AgU: exceptions. -/
namespace AG
open PySem L2

section
variable {X : Cx} {C : Addr} {bmB : List Value} {B newId initId : String} {x : Str} {p pos : Pos}
/-- X() -/
theorem pmk_own0 (F : ExcBaseFacts B newId initId bmB) (q : PySem.W.excIn X.K C bmB newId = true) (gC : X.mg x = some (.ref C))
    (kC : PySem.W.keepIn X.K (.ref C) = true) (r : Raises X (.ref C)) (hg : Gl X x) (hdb : (x == ("__debug__" : Str)) = false := by decide) :
    PMk X (.Call (.Name x p) [] [] pos) (fun σ H Q => Q (.ref C) none H) := by
  intro pins s σ H Q I h
  refine wpAny_Call_Name_kw (ld_glob I hg gC ?_ hdb)
  refine PySem.W.callWith_K0 I.kIn kC ?_
  obtain ⟨bm, N, nm, qn, bs, hdct, sn, sub, ab, col, dd, k0, k1, k2, k3, k5, mN, hC, hN, hni, T⟩ := exc_obj I.kIn q
  refine wpAny_call_exc_subT F T hC hN hni (fun h' e hm => ?_) (by show 0 ≤ sizeLine; rw [sizeLine_eq]; omega)
  exact mk_of I hm r h (I.hok.gone hm.new)
end
theorem FnM.alias {P : Program} {pw : World} {K : PySem.W.Frag} {mg : Str → Option Value} {base : Heap} {ca : CA} {k n : Nat} {x y : Str} {f : LOp} (F : FnM P pw K mg base ca k x n f) (h : mg y = mg x) : FnM P pw K mg base ca k y n f := by
  obtain ⟨fa, fd, ps, ok, hm, kp, hb⟩ := F.ex
  exact ⟨fa, fd, ps, ok, h.trans hm, kp, hb⟩
/-- the own exception classes of a text: their addresses, which of them are kinds of which -/
structure EC (K : PySem.W.Frag) (mg : Str → Option Value) (ca : CA) (c : Nat) (x : Str) : Prop where
  ex : ∃ (B newId initId : String) (bmB : List Value), ExcBaseFacts B newId initId bmB ∧ PySem.W.excIn K (ca c) bmB newId = true
  gC : mg x = some (.ref (ca c))
  kC : PySem.W.keepIn K (.ref (ca c)) = true
  b : PySem.W.subIn K (.ref (ca c)) (.type "BaseException") = some true
  t : PySem.W.typeIn K (.ref (ca c)) = some (.type "type")
/-- class h catches class c just if s c h says so -/
def EM (K : PySem.W.Frag) (ca : CA) (h : Nat) (s : Nat → Option Bool) : Prop := ∀ c b, s c = some b → PySem.W.exmOne K (.ref (ca c)) (.ref (ca h)) = some b
theorem exm_mk {K : PySem.W.Frag} {A C : Addr} {v : Bool} (b : PySem.W.subIn K (.ref C) (.type "BaseException") = some true) (i : PySem.W.isClsIn K C = true) (t : PySem.W.typeIn K (.ref C) = some (.type "type")) (s : PySem.W.subIn K (.ref A) (.ref C) = some v) : PySem.W.exmOne K (.ref A) (.ref C) = some v := by
  have i' : (PySem.W.clsIn K C).isSome = true := i
  unfold PySem.W.exmOne PySem.W.kitCls
  simp only [b, i', t, s]
  simp
def mRaise (c : Nat) : Env → M Fl := fun _ h => .exc c h
def R.catch {α : Type} (s : Nat → Option Bool) (k : MH → R α) : R α → R α
  | .ok a h => .ok a h
  | .exc c h => match s c with | some true => k h | some false => .exc c h | none => .bad
  | .bad => .bad
  | .pick n f => .pick n fun i => (f i).catch s k
theorem wpR_catch {α : Type} {s : Nat → Option Bool} {k : MH → R α} {r : R α} {Q : α → MH → Prop} {E : Nat → MH → Prop} (h : wpR (r.catch s k) Q E) :
    wpR r Q (fun c m => ∃ b, s c = some b ∧ (b = true → wpR (k m) Q E) ∧ (b = false → E c m)) := by
  induction r with
  | ok a m => exact h
  | exc c m =>
    unfold R.catch at h
    split at h
    · rename_i e; exact ⟨true, e, fun _ => h, fun z => (by cases z)⟩
    · rename_i e; exact ⟨false, e, fun z => (by cases z), fun _ => h⟩
    · exact h.elim
  | bad => exact h
  | pick n f ih => exact ⟨h.1, fun i hi => ih i (h.2 i hi)⟩
/-- only a return -/
def rtOnly : Fl → M Fl := fun fl => match fl with | .rt d => M.pure (.rt d) | _ => M.bad
def mTry (n : Nat) (s : Nat → Option Bool) (mb ms : Env → M Fl) : Env → M Fl := fun env h => (mb env h).catch s fun h' => (M.bind (ms (List.replicate n Slot.no)) rtOnly h').calm
theorem frOk_no {K : PySem.W.Frag} {w : Wd} {σ : St} {n : Nat} (hn : σ.length = n) : FrOk K w (List.replicate n Slot.no) σ := by
  have no : ∀ (i : Nat) (sl : Slot), (List.replicate n Slot.no)[i]? = some sl → sl = .no := fun i sl h => List.eq_of_mem_replicate (List.mem_of_getElem? h)
  exact ⟨by simp [hn], fun i d h => (by cases no i _ h), fun i ds h => (by cases no i _ h), fun i j ds es a _ h => (by cases no i _ h)⟩
section
variable {X : Cx} {ca : CA} {W : WX} {n : Nat} {x : Str} {c : Nat} {p pos cpos np pos' : Pos} {mb ms : Env → M Fl} {body suite : List Stmt} {b₀ : Stmt} {s : Nat → Option Bool}
theorem ms_raise (E : EC X.K X.mg ca c x) (hc : X.calm = true) (tk : Takes X W) (hg : Gl X x := by rfl) (hdb : (x == ("__debug__" : Str)) = false := by decide) : MS X ca W n (.Raise (some (.Call (.Name x p) [] [] cpos)) none pos) (mRaise c) := by
  obtain ⟨B, newId, initId, bmB, F, q⟩ := E.ex
  exact PS.mono (ps_raise hc tk (pmk_own0 F q E.gC E.kC (raises_own E.b E.t) hg hdb)) fun D' σ H h => by
    obtain ⟨w0, w, mh, env, rfl, hw, sr, hp⟩ := h
    exact hp w σ sr.ext hw sr.ln
theorem ms_try (E : EC X.K X.mg ca c x) (M : EM X.K ca c s) (hs : X.stack = X.env :: X.outer) (hf : X.env.frame = some X.env.locals) (tk : Takes X W)
    (hb : ∀ (W' : WX) (pn : List (Addr × Obj)) (xe : Value → Shared → Prop), Takes (X.tr pn xe) W' → PassesOwn (model X.prog X.w) X.A X.env xe → MSs (X.tr pn xe) ca W' n body mb)
    (hsu : ∀ (a : Addr) (oe : Obj) (pn : List (Addr × Obj)), MSs (X.suite a ((a, oe) :: pn)) ca W0 n (b₀ :: suite) ms) (hg : Gl X x := by rfl) (hdb : (x == ("__debug__" : Str)) = false := by decide) :
    MS X ca W n (.Try body [.ExceptHandler (some (.Name x np)) none (b₀ :: suite) pos'] [] [] pos) (mTry n s mb ms) :=
  PS.mono (ps_try_only (tb := fun W' => denS X.K ca W' n mb) (ts := fun _ _ _ => denS X.K ca W0 n ms) hs hf ⟨hg, hdb, .inl E.gC⟩ tk (fun W' pn xe tk' po => hb W' pn xe tk' po) (fun a oe cls d pn _ _ => hsu a oe pn)) fun D' σ H h => by
    obtain ⟨w0, w, mh, env, rfl, hw, sr, hp⟩ := h
    refine ⟨w0, w, mh, env, rfl, hw, sr, wpR_mono (wpR_catch hp) (fun _ _ z => z) fun cl mh' z w1 σ1 x1 hw1 l1 => ?_⟩
    obtain ⟨b, e, z1, z2⟩ := z
    refine ⟨b, M cl b e, fun hb a ha => ?_, fun hb => z2 hb w1 σ1 x1 hw1 l1⟩
    have z3 := wpR_bind.mp (wpR_calm (E' := fun _ _ => False) (z1 hb))
    refine ⟨w0, w1, mh', List.replicate n .no, rfl, hw1, ⟨x1, frOk_no l1, l1, fun i ds a h => ?_⟩, wpR_mono z3 (fun fl m2 q => ?_) fun _ _ q => q.elim⟩
    · cases List.eq_of_mem_replicate (List.mem_of_getElem? h)
    · cases fl with
      | rt d => exact q
      | nx e => exact q.elim
      | bk e => exact q.elim
      | ct e => exact q.elim
end
end AG
/-! AgV: reversed, enumerate, zip; more operators. -/
namespace AG
open PySem L2

/-- where a datum's items stand -/
def SeqV (K : PySem.W.Frag) (w : Wd) (a : Addr) (xs : List V) : Prop := ∀ w2 ca mh, Grow w w2 → WOk K ca w2 mh → SqL K w2.H a xs
section
variable {K : PySem.W.Frag} {ca : CA} {w : Wd}
theorem serves_revL {a : Addr} {xs : List V} {ds : List D} (h : SeqV K w a xs) (r : RpAll K w xs ds) : Serves K ca w (Itv K a xs.length) ds.reverse where
  go := fun w2 mh i g hw hi => by
    have hi : i < xs.length := by rw [r.length]; simpa using hi
    exact ⟨hi, xs, xs[xs.length - 1 - i], h w2 ca mh g hw, List.getElem?_eq_getElem (by omega)⟩
  stop := fun w2 mh i g hw hi => by
    show xs.length ≤ i
    rw [r.length]; simpa using hi
  yld := fun w2 mh i x H' g hw hi ⟨e, q⟩ => by
    subst e
    have hi : i < ds.length := by simpa using hi
    obtain ⟨d, e1, e2⟩ := (r.mono g).getV (q xs (h w2 ca mh g hw))
    refine ⟨d, w2, ?_, rfl, Ext.refl _, hw, e2⟩
    rw [List.getElem?_reverse hi, ← e1, r.length]
theorem serves_revT {a : Addr} {xs : List V} {ds : List D} (h : SqT K w.F a xs) (r : RpAll K w xs ds) : Serves K ca w (RT.ItvT K a xs.length) ds.reverse where
  go := fun w2 mh i g hw hi => by
    have hi : i < xs.length := by rw [r.length]; simpa using hi
    exact ⟨hi, xs, xs[xs.length - 1 - i], sqT_sub hw.sub (sqT_mono g.fz h), List.getElem?_eq_getElem (by omega)⟩
  stop := fun w2 mh i g hw hi => by
    show xs.length ≤ i
    rw [r.length]; simpa using hi
  yld := fun w2 mh i x H' g hw hi ⟨e, q⟩ => by
    subst e
    have hi : i < ds.length := by simpa using hi
    obtain ⟨d, e1, e2⟩ := (r.mono g).getV (q xs (sqT_sub hw.sub (sqT_mono g.fz h)))
    refine ⟨d, w2, ?_, rfl, Ext.refl _, hw, e2⟩
    rw [List.getElem?_reverse hi, ← e1, r.length]
def pairsD (xs : List D) : List D := (List.range xs.length).map fun i => .tup [.int (i : Nat), xs.getD i .non]
theorem pairsD_at {xs : List D} {i : Nat} {d : D} (h : xs[i]? = some d) : (pairsD xs)[i]? = some (.tup [.int (i : Nat), d]) := by
  have hi := (List.getElem?_eq_some_iff.mp h).1
  unfold pairsD
  rw [List.getElem?_map, List.getElem?_range hi]
  simp [List.getD, h]
theorem serves_enum {a : Addr} {xs : List V} {ds : List D} (h : SeqV K w a xs) (r : RpAll K w xs ds) : Serves K ca w (Ite K a) (pairsD ds) where
  go := fun w2 mh i g hw hi => by
    have hi : i < xs.length := by rw [r.length]; simpa [pairsD] using hi
    exact ⟨xs, xs[i], h w2 ca mh g hw, List.getElem?_eq_getElem hi⟩
  stop := fun w2 mh i g hw hi => ⟨xs, h w2 ca mh g hw, by rw [r.length]; simpa [pairsD] using hi⟩
  yld := fun w2 mh i x H' g hw hi ⟨T, y, e, hT, e2, q⟩ => by
    subst e e2
    obtain ⟨d, e1, e2⟩ := (r.mono g).getV (q xs (h w2 ca mh g hw))
    refine ⟨_, w2.frz T (.tup [.int (i : Nat), y]), pairsD_at e1, rfl, Ext.frz hw hT, hw.frz hT, .tup (SqT.of upd_same) ?_⟩
    exact .cons (.int _) (.cons ((Ext.frz hw hT).rp e2) .nil)
def zipD (xs ys : List D) : List D := (xs.zip ys).map fun p => .tup [p.1, p.2]
theorem zipD_at {xs ys : List D} {i : Nat} {d e : D} (h1 : xs[i]? = some d) (h2 : ys[i]? = some e) : (zipD xs ys)[i]? = some (.tup [d, e]) := by
  unfold zipD
  have : (xs.zip ys)[i]? = some (d, e) := List.getElem?_zip_eq_some.mpr ⟨h1, h2⟩
  rw [List.getElem?_map, this]
  rfl
theorem serves_zipL {a b : Addr} {xs ys : List V} {ds es : List D} (h : SeqV K w a xs) (r : RpAll K w xs ds) (h2 : SeqV K w b ys) (r2 : RpAll K w ys es) : Serves K ca w (Itz K a b) (zipD ds es) where
  go := fun w2 mh i g hw hi => by
    have hi : i < ds.length ∧ i < es.length := by simpa [zipD, Nat.lt_min] using hi
    exact ⟨xs, ys, xs[i]'(by rw [r.length]; exact hi.1), ys[i]'(by rw [r2.length]; exact hi.2), h w2 ca mh g hw, h2 w2 ca mh g hw, List.getElem?_eq_getElem _, List.getElem?_eq_getElem _⟩
  stop := fun w2 mh i g hw hi => ⟨xs, ys, h w2 ca mh g hw, h2 w2 ca mh g hw, by
    have hi : min ds.length es.length ≤ i := by simpa [zipD] using hi
    rw [r.length, r2.length]; omega⟩
  yld := fun w2 mh i x H' g hw hi ⟨T, y, z, e, hT, e2, q, q2⟩ => by
    subst e e2
    obtain ⟨d, e1, e2⟩ := (r.mono g).getV (q xs (h w2 ca mh g hw))
    obtain ⟨d', e3, e4⟩ := (r2.mono g).getV (q2 ys (h2 w2 ca mh g hw))
    refine ⟨_, w2.frz T (.tup [y, z]), zipD_at e1 e3, rfl, Ext.frz hw hT, hw.frz hT, .tup (SqT.of upd_same) ?_⟩
    exact .cons ((Ext.frz hw hT).rp e2) (.cons ((Ext.frz hw hT).rp e4) .nil)
theorem serves_zipT {a b : Addr} {xs ys : List V} {ds es : List D} (h : SqT K w.F a xs) (r : RpAll K w xs ds) (h2 : SqT K w.F b ys) (r2 : RpAll K w ys es) : Serves K ca w (RZ.ItzT K a b) (zipD ds es) where
  go := fun w2 mh i g hw hi => by
    have hi : i < ds.length ∧ i < es.length := by simpa [zipD, Nat.lt_min] using hi
    exact ⟨xs, ys, xs[i]'(by rw [r.length]; exact hi.1), ys[i]'(by rw [r2.length]; exact hi.2), sqT_sub hw.sub (sqT_mono g.fz h), sqT_sub hw.sub (sqT_mono g.fz h2), List.getElem?_eq_getElem _, List.getElem?_eq_getElem _⟩
  stop := fun w2 mh i g hw hi => ⟨xs, ys, sqT_sub hw.sub (sqT_mono g.fz h), sqT_sub hw.sub (sqT_mono g.fz h2), by
    have hi : min ds.length es.length ≤ i := by simpa [zipD] using hi
    rw [r.length, r2.length]; omega⟩
  yld := fun w2 mh i x H' g hw hi ⟨T, y, z, e, hT, e2, q, q2⟩ => by
    subst e e2
    obtain ⟨d, e1, e2⟩ := (r.mono g).getV (q xs (sqT_sub hw.sub (sqT_mono g.fz h)))
    obtain ⟨d', e3, e4⟩ := (r2.mono g).getV (q2 ys (sqT_sub hw.sub (sqT_mono g.fz h2)))
    refine ⟨_, w2.frz T (.tup [y, z]), zipD_at e1 e3, rfl, Ext.frz hw hT, hw.frz hT, .tup (SqT.of upd_same) ?_⟩
    exact .cons ((Ext.frz hw hT).rp e2) (.cons ((Ext.frz hw hT).rp e4) .nil)
theorem seqV_lst {a : Addr} {xs : List V} (h : w.L a = some xs) : SeqV K w a xs := fun w2 ca mh g hw => .of (hw.subL _ _ (g.lz _ _ h))
theorem seqV_scr {a : Addr} {xs : List V} (h : SqL K w.F a xs) : SeqV K w a xs := fun w2 ca mh g hw => sqL_mono hw.sub (sqL_mono g.fz h)
end
def revM (d : D) : M (List D) := match d with | .lst xs => M.pure xs.reverse | .tup xs => M.pure xs.reverse | _ => M.bad
def enumM (ds : List D) : M (List D) := match ds with | [.lst xs] => M.pure (pairsD xs) | _ => M.bad
def zipM (ds : List D) : M (List D) := match ds with | [.lst xs, .lst ys] => M.pure (zipD xs ys) | [.tup xs, .tup ys] => M.pure (zipD xs ys) | _ => M.bad
def mRevI (m : Env → M D) : Env → M (List D) := fun env => M.bind (m env) revM
def mEnum (ms : Env → M (List D)) : Env → M (List D) := fun env => M.bind (ms env) enumM
def mZip (ms : Env → M (List D)) : Env → M (List D) := fun env => M.bind (ms env) zipM
section
variable {X : Cx} {ca : CA} {W : WX} {tg e e2 : Expr} {m : Env → M D} {ms : Env → M (List D)} {p pos tpos : Pos} {elts : List Expr} {kk : Nat}
theorem mi_rev (hm : X.mg "reversed" = none) (he : ME X ca W e m) (hg : Gl X "reversed" := by rfl) (hs : starEach [e] X.env = (false, eval e X.env) :: starEach [] X.env := by rfl) : MI X ca W tg (.Call (.Name "reversed" p) [e] [] pos) (mRevI m) :=
  PI.mono (RT.pi_revA hg hm he hs) fun σ H R q => by
    obtain ⟨w, mh, env, rfl, hw, hf, hp⟩ := q
    refine stepG (rep := repV X.K) hw hf hp fun w1 mh1 v1 d1 x1 hw1 hf1 r1 hp1 => ?_
    cases r1 with
    | tup h r => exact ⟨_, _, rfl, .inr ⟨sqT_sub hw1.sub h, PostG.ret hp1 hw1 (serves_revT h r)⟩⟩
    | lst h r => exact ⟨_, _, rfl, .inl ⟨.of (hw1.subL _ _ h), PostG.ret hp1 hw1 (serves_revL (seqV_lst h) r)⟩⟩
    | _ => exact hp1.elim
theorem enum_one {ds : List D} {mh : MH} {Q : List D → MH → Prop} {E : Nat → MH → Prop} (h : wpR (enumM ds mh) Q E) : ∃ xs, ds = [.lst xs] := by
  unfold enumM at h
  split at h
  · exact ⟨_, rfl⟩
  · exact h.elim
theorem mi_enum (hm : X.mg "enumerate" = none) (ha : MA X ca W [e] ms) (hg : Gl X "enumerate" := by rfl) (hs : starEach [e] X.env = [(false, eval e X.env)] := by rfl) : MI X ca W (.Tuple elts kk tpos) (.Call (.Name "enumerate" p) [e] [] pos) (mEnum ms) :=
  PI.mono (pi_enum hg hm ha hs) fun σ H R q => by
    obtain ⟨w, mh, env, rfl, hw, hf, hp⟩ := q
    refine stepG (rep := repA X.K) hw hf hp fun w1 mh1 v1 d1 x1 hw1 hf1 r1 hp1 => ?_
    have r1 : RpAll X.K w1 v1 d1 := r1
    obtain ⟨xs, rfl⟩ := enum_one hp1
    obtain ⟨x, rfl, q⟩ := r1.one
    cases q with
    | lst h r => exact ⟨_, _, rfl, .of (hw1.subL _ _ h), PostG.ret hp1 hw1 (serves_enum (seqV_lst h) r)⟩
theorem zip_two {ds : List D} {mh : MH} {Q : List D → MH → Prop} {E : Nat → MH → Prop} (h : wpR (zipM ds mh) Q E) : ∃ xs ys, ds = [.lst xs, .lst ys] ∨ ds = [.tup xs, .tup ys] := by
  unfold zipM at h
  split at h
  · exact ⟨_, _, .inl rfl⟩
  · exact ⟨_, _, .inr rfl⟩
  · exact h.elim
theorem mi_zip (hm : X.mg "zip" = none) (ha : MA X ca W [e, e2] ms) (hg : Gl X "zip" := by rfl) (hs : starEach [e, e2] X.env = (false, eval e X.env) :: starEach [e2] X.env := by rfl) (hpl : (backTo pos (starEach [e2] X.env)).any (·.1) = false := by rfl) : MI X ca W (.Tuple elts kk tpos) (.Call (.Name "zip" p) [e, e2] [] pos) (mZip ms) :=
  PI.mono (RZ.pi_zipA hg hm ha hs hpl) fun σ H R q => by
    obtain ⟨w, mh, env, rfl, hw, hf, hp⟩ := q
    refine stepG (rep := repA X.K) hw hf hp fun w1 mh1 v1 d1 x1 hw1 hf1 r1 hp1 => ?_
    have r1 : RpAll X.K w1 v1 d1 := r1
    obtain ⟨xs, ys, rfl | rfl⟩ := zip_two hp1
    · obtain ⟨x, y, rfl, q1, q2⟩ := r1.two
      cases q1 with
      | lst h r => cases q2 with
        | lst h2 r2 => exact ⟨_, _, _, _, rfl, .inl ⟨.of (hw1.subL _ _ h), .of (hw1.subL _ _ h2), PostG.ret hp1 hw1 (serves_zipL (seqV_lst h) r (seqV_lst h2) r2)⟩⟩
    · obtain ⟨x, y, rfl, q1, q2⟩ := r1.two
      cases q1 with
      | tup h r => cases q2 with
        | tup h2 r2 => exact ⟨_, _, _, _, rfl, .inr ⟨sqT_sub hw1.sub h, sqT_sub hw1.sub h2, PostG.ret hp1 hw1 (serves_zipT h r h2 r2)⟩⟩
end

/-! ### operators -/
def opPowI : DOp := fun d e => match d, e with | .int i, .int j => if (decide (0 ≤ j) && decide (j ≤ 1000000) && decide (i.natAbs < 18446744073709551616)) = true then M.pure (.int (i ^ j.toNat)) else M.bad | _, _ => M.bad
def opShlI : DOp := fun d e => match d, e with | .int i, .int j => if (decide (0 ≤ j) && decide (j ≤ 1000000) && decide (i.natAbs < 18446744073709551616)) = true then M.pure (.int (i * 2 ^ j.toNat)) else M.bad | _, _ => M.bad
def opShrI : DOp := fun d e => match d, e with | .int i, .int j => if decide (0 ≤ j) = true then M.pure (.int (i / 2 ^ j.toNat)) else M.bad | _, _ => M.bad
def opAndI : DOp := fun d e => match d, e with | .int i, .int j => M.pure (.int (Builtin.bitAnd i j)) | _, _ => M.bad
def opXorI : DOp := fun d e => match d, e with | .int i, .int j => M.pure (.int (Builtin.bitXor i j)) | _, _ => M.bad
theorem cpow_of {i j : Int} (h : (decide (0 ≤ j) && decide (j ≤ 1000000) && decide (i.natAbs < 18446744073709551616)) = true) : CPow i j := by
  simp only [Bool.and_eq_true, decide_eq_true_eq] at h
  exact ⟨h.1.1, h.1.2, by have := h.2; omega⟩
section
variable {X : Cx} {ca : CA} {W : WX} {a b : Expr} {ma mb : Env → M D} {pos : Pos}
theorem me_pow (ha : ME X ca W a ma) (hb : ME X ca W b mb) : ME X ca W (.BinOp a .Pow b pos) (mBin opPowI ma mb) := me_op op_pow (opm_intC (fun _ _ h => cpow_of h) fun _ _ _ _ => .int _) ha hb
theorem me_shl (ha : ME X ca W a ma) (hb : ME X ca W b mb) : ME X ca W (.BinOp a .LShift b pos) (mBin opShlI ma mb) := me_op op_shl (opm_intC (fun _ _ h => cpow_of h) fun _ _ _ _ => .int _) ha hb
theorem me_shr (ha : ME X ca W a ma) (hb : ME X ca W b mb) : ME X ca W (.BinOp a .RShift b pos) (mBin opShrI ma mb) := me_op op_shr (opm_intC (C := fun _ j => 0 ≤ j) (c := fun _ j => decide (0 ≤ j)) (fun _ _ h => of_decide_eq_true h) fun _ _ _ _ => .int _) ha hb
theorem me_band (ha : ME X ca W a ma) (hb : ME X ca W b mb) : ME X ca W (.BinOp a .BitAnd b pos) (mBin opAndI ma mb) := me_op op_and (opm_int fun _ _ _ _ => .int _) ha hb
theorem me_bxor (ha : ME X ca W a ma) (hb : ME X ca W b mb) : ME X ca W (.BinOp a .BitXor b pos) (mBin opXorI ma mb) := me_op op_xor (opm_int fun _ _ _ _ => .int _) ha hb
end
end AG
/-! AgW: chained comparisons, more methods of lists of one's own, more assignments. -/
namespace AG
open PySem L2

/-- a comparison's rule -/
structure CR (X : Cx) (ca : CA) (op : CmpOp) (f : DOp) : Prop where
  ex : ∃ r : R2, OpR X (compareOp op) r ∧ OpM X.K ca r f
def mChain (f g : DOp) (a b c : Env → M D) : Env → M D := fun env => M.bind (a env) fun x => M.bind (b env) fun y => M.bind (f x y) fun z => match z with
  | .bl k => if k = true then M.bind (c env) fun u => g y u else M.pure (.bl false)
  | _ => M.bad
section
variable {X : Cx} {ca : CA} {W : WX} {a b c : Expr} {ma mb mc : Env → M D} {pos : Pos} {k : Nat} {op op' : CmpOp} {f g : DOp}
theorem cr_lt (hr : Room k X.A) : CR X ca .Lt opLt := ⟨_, op_lt2 (hu64 hr), opm_lt⟩
theorem cr_le (hr : Room k X.A) : CR X ca .LtE opLe := ⟨_, op_le2 (hu64 hr), opm_le⟩
theorem cr_gt (hr : Room k X.A) : CR X ca .Gt opGt := ⟨_, op_gt2 (hu64 hr), opm_gt⟩
theorem cr_ge (hr : Room k X.A) : CR X ca .GtE opGe := ⟨_, op_ge2 (hu64 hr), opm_ge⟩
theorem cr_eq (hr : Room k X.A) : CR X ca .Eq opEq := ⟨_, op_eq2 (hu64 hr), opm_eq⟩
theorem cr_ne (hr : Room k X.A) : CR X ca .NotEq opNe := ⟨_, op_ne2 (hu64 hr), opm_ne⟩
theorem chain_read {r r' : R2} (hf : OpM X.K ca r f) (hg : OpM X.K ca r' g) {σ : St} {H : Hp} {Q : VK} (h : denG (repV X.K) X.K ca W (mChain f g ma mb mc) σ H Q) :
    tChain r r' (denG (repV X.K) X.K ca W ma) (denG (repV X.K) X.K ca W mb) (denG (repV X.K) X.K ca W mc) σ H Q := by
  obtain ⟨w, mh, env, rfl, hw, hfr, hp⟩ := h
  refine stepG (rep := repV X.K) hw hfr hp fun w1 mh1 v1 d1 x1 hw1 hf1 r1 hp1 => ?_
  refine stepG (rep := repV X.K) hw1 hf1 hp1 fun w2 mh2 v2 d2 x2 hw2 hf2 r2 hp2 => ?_
  refine hf W σ w2 mh2 v1 v2 d1 d2 _ hw2 (x2.rp r1) r2 (wpR_mono (wpR_bind.mp hp2) (fun z mh' q w' vz xz hw' rz => ?_) fun cl mh q w' xz hw' => q w' xz hw')
  cases rz with
  | bl t =>
    refine ⟨t, rfl, ?_⟩
    cases t with
    | true =>
      simp only [if_true] at q ⊢
      refine stepG (rep := repV X.K) hw' (hf2.ext xz) (PostG.ext (w := w2) q xz) fun w4 mh4 v4 d4 x4 hw4 hf4 r4 hp4 => ?_
      exact hg W σ w4 mh4 v2 v4 d2 d4 Q hw4 (x4.rp (xz.rp r2)) r4 hp4
    | false =>
      simp only [Bool.false_eq_true, if_false] at q ⊢
      exact PostG.ret (PostG.ext (w := w2) q xz) hw' (.bl _)
  | _ => exact q.elim
theorem me_chain (h1 : CR X ca op f) (h2 : CR X ca op' g) (ha : ME X ca W a ma) (hb : ME X ca W b mb) (hc : ME X ca W c mc) (hm : lastMarks [op, op'] [b, c] = false := by with_unfolding_all rfl) :
    ME X ca W (.Compare a [op, op'] [b, c] pos) (mChain f g ma mb mc) := by
  obtain ⟨r, o1, m1⟩ := h1.ex
  obtain ⟨r', o2, m2⟩ := h2.ex
  exact PE.mono (pe_chain o1 o2 ha hb hc hm) fun σ H Q h => chain_read m1 m2 h
theorem mt_chain (h1 : CR X ca op f) (h2 : CR X ca op' g) (ha : ME X ca W a ma) (hb : ME X ca W b mb) (hc : ME X ca W c mc) (hm : lastMarks [op, op'] [b, c] = false := by with_unfolding_all rfl) :
    MT X ca W (.Compare a [op, op'] [b, c] pos) (mTest (mChain f g ma mb mc)) := by
  obtain ⟨r, o1, m1⟩ := h1.ex
  obtain ⟨r', o2, m2⟩ := h2.ex
  exact PT.mono (pt_chain o1 o2 ha hb hc hm) fun σ H Q h => by
    obtain ⟨w, mh, env, rfl, hw, hfr, hp⟩ := h
    refine chain_read (X := X) (W := W) m1 m2 ⟨w, mh, env, rfl, hw, hfr, ?_⟩
    refine wpR_mono (wpR_bind.mp hp) (fun z mh' q w' v x' hw' r' => ?_) fun _ _ q => q
    cases r' with
    | bl t => exact ⟨t, rfl, q w' _ x' hw' rfl⟩
    | _ => exact q.elim
end
def mulS (i j : Int) : Bool := decide (i.natAbs < 18446744073709551616) || decide (j.natAbs < 18446744073709551616)
def augMul : DOp := fun d e => match d, e with | .int i, .int j => if mulS i j = true then M.pure (.int (i * j)) else M.bad | _, _ => M.bad
theorem cmul_of {i j : Int} (h : mulS i j = true) : CMul i j := by
  simp only [mulS, Bool.or_eq_true, decide_eq_true_eq] at h
  rcases h with h | h
  · exact .inl (by omega)
  · exact .inr (by omega)
section
variable {X : Cx} {ca : CA} {W : WX} {n : Nat} {e : Expr} {m : Env → M D} {pos : Pos}
theorem ms_augMul {i : Nat} {x : Str} {pos' : Pos} (he : ME X ca W e m) (hN : X.N.Nodup) (hi : X.N[i]? = some x := by rfl) (hx : Loc X.env.scope x := by first | exact Or.inl rfl | exact Or.inr rfl) (hfn : X.fn x = true ∨ X.env.scope.names.lookup x = some .local := by first | exact .inl rfl | exact .inr rfl) :
    MS X ca W n (.AugAssign (.Name x pos') .Mult e pos) (mAug augMul i m) := ms_aug iop_mul (opm_intC (fun _ _ h => cmul_of h) fun _ _ _ _ => .int _) he hN hi hx hfn
end
theorem RpAll.three {K : PySem.W.Frag} {w : Wd} {xs : List V} {d e f : D} (h : RpAll K w xs [d, e, f]) : ∃ x y z, xs = [x, y, z] ∧ Rp K w x d ∧ Rp K w y e ∧ Rp K w z f := by
  cases h with
  | cons h r =>
    obtain ⟨y, z, rfl, q1, q2⟩ := r.two
    exact ⟨_, _, _, rfl, h, q1, q2⟩
def par3M (i j l : Nat) (env : Env) (ds : List D) : M Fl := match ds with | [a, b, c] => M.pure (.nx (((env.set i (.v a)).set j (.v b)).set l (.v c))) | _ => M.bad
def mPar3 (i j l : Nat) (ms : Env → M (List D)) : Env → M Fl := fun env => M.bind (ms env) (par3M i j l env)
theorem par3_three {i j l : Nat} {env : Env} {ds : List D} {mh : MH} {Q : Fl → MH → Prop} {E : Nat → MH → Prop} (h : wpR (par3M i j l env ds mh) Q E) : ∃ a b c, ds = [a, b, c] := by
  unfold par3M at h
  split at h
  · exact ⟨_, _, _, rfl⟩
  · exact h.elim
theorem ms_par3 {X : Cx} {ca : CA} {W : WX} {n : Nat} {ms : Env → M (List D)} {i j l : Nat} {x y z : Str} {a b c : Expr} {px py pz pt pos : Pos} {kt k2 pt2} (hc : X.calm = true) (ha : MA X ca W [a, b, c] ms) (hN : X.N.Nodup) (hi : X.N[i]? = some x := by rfl) (hj : X.N[j]? = some y := by rfl) (hl : X.N[l]? = some z := by rfl)
    (hij : i ≠ j := by decide) (hil : i ≠ l := by decide) (hjl : j ≠ l := by decide)
    (hx : X.env.scope.names.lookup x = some .local := by rfl) (hy : X.env.scope.names.lookup y = some .local := by rfl) (hz : X.env.scope.names.lookup z = some .local := by rfl)
    (hw : swappedStores [.Tuple [.Name x px, .Name y py, .Name z pz] kt pt] (.Tuple [a, b, c] k2 pt2) X.env = pure (some [x, y, z]) := by rfl)
    (hs : swapsWithSole [.Tuple [.Name x px, .Name y py, .Name z pz] kt pt] (.Tuple [a, b, c] k2 pt2) pos.line X.env = pure false := by rfl) : MS X ca W n (.Assign [.Tuple [.Name x px, .Name y py, .Name z pz] kt pt] (.Tuple [a, b, c] k2 pt2) pos) (mPar3 i j l ms) := PS.mono (ps_par3 hc hN hi hj hl hij hil hjl hx hy hz ha hw hs) fun D' σ H h => by
  obtain ⟨w0, w, mh, env, rfl, hw, s, hp⟩ := h
  refine stepS (rep := repA X.K) hw s hp fun w1 mh1 v d x1 hw1 s1 r1 hp1 => ?_
  have r1 : RpAll X.K w1 v d := r1
  obtain ⟨d1, d2, d3, rfl⟩ := par3_three hp1
  obtain ⟨v1, v2, v3, rfl, q1, q2, q3⟩ := r1.three
  exact ⟨v1, v2, v3, rfl, hp1 w1 _ (((s1.set q1).set q2).set q3) x1.grow hw1⟩
end AG
/-! AgX: names that are not used any more; runs that the kernel works out; three and four defs that call each other. -/
namespace AG
open PySem L2

/-- the slot is not read from here on -/
def mDropB (i : Nat) (m : Env → M Fl) : Env → M Fl := fun env => m (env.set i .no)
section
variable {K : PySem.W.Frag} {w w0 : Wd} {env : Env} {σ : St} {n : Nat}
theorem FrOk.drop (h : FrOk K w env σ) (i : Nat) : FrOk K w (env.set i .no) σ := by
  have sub : ∀ (j : Nat) (s : Slot), s ≠ .no → (env.set i .no)[j]? = some s → env[j]? = some s := fun j s ne e => by
    rw [getElem?_setS] at e
    by_cases ij : i = j
    · rw [if_pos ij] at e
      split at e
      · cases e; exact absurd rfl ne
      · cases e
    · rw [if_neg ij] at e; exact e
  exact ⟨by simp [h.len], fun j d e => h.v j d (sub j _ (by simp) e), fun j ds e => h.own j ds (sub j _ (by simp) e), fun j k ds es a ne e1 e2 => h.sep j k ds es a ne (sub j _ (by simp) e1) (sub k _ (by simp) e2)⟩
theorem SRel.drop (s : SRel K n w0 env σ w) (i : Nat) : SRel K n w0 (env.set i .no) σ w := by
  refine ⟨s.ext, s.fr.drop i, s.ln, fun j ds a e => s.ow j ds a ?_⟩
  rw [getElem?_setS] at e
  by_cases ij : i = j
  · rw [if_pos ij] at e
    split at e <;> cases e
  · rw [if_neg ij] at e; exact e
end
theorem mss_drop {X : Cx} {ca : CA} {W : WX} {n : Nat} {st : List Stmt} {m : Env → M Fl} (i : Nat) (h : MSs X ca W n st m) : MSs X ca W n st (mDropB i m) :=
  PSs.mono h fun D' σ H ⟨w0, w, mh, env, e, hw, s, q⟩ => ⟨w0, w, mh, env.set i .no, e, hw, s.drop i, q⟩

/-- a run worked out: every way ends with a value that p takes, or an exception that e takes -/
def chk {α : Type} (p : α → MH → Bool) (e : Nat → MH → Bool) : R α → Bool
  | .ok a h => p a h
  | .exc c h => e c h
  | .bad => false
  | .pick n k => decide (0 < n) && (List.range n).all fun i => chk p e (k i)
theorem chk_wp {α : Type} {p : α → MH → Bool} {e : Nat → MH → Bool} {Q : α → MH → Prop} {E : Nat → MH → Prop} (hp : ∀ a h, p a h = true → Q a h) (he : ∀ c h, e c h = true → E c h) :
    ∀ {r : R α}, chk p e r = true → wpR r Q E
  | .ok a h, q => hp a h q
  | .exc c h, q => he c h q
  | .bad, q => by cases q
  | .pick n k, q => by
    simp only [chk, Bool.and_eq_true, decide_eq_true_eq, List.all_eq_true, List.mem_range] at q
    exact ⟨q.1, fun i hi => chk_wp hp he (q.2 i hi)⟩
def D.isTrue : D → Bool
  | .bl true => true
  | _ => false
theorem D.isTrue_eq : ∀ {d : D}, d.isTrue = true → d = .bl true
  | .bl true, _ => rfl
  | .bl false, h => by cases h
  | .non, h => by cases h
  | .int _, h => by cases h
  | .str _, h => by cases h
  | .tup _, h => by cases h
  | .lst _, h => by cases h
  | .ref _, h => by cases h
  | .scr _, h => by cases h
/-- every way gives True -/
def chkT (r : R D) : Bool := chk (fun d _ => d.isTrue) (fun _ _ => false) r
theorem chkT_wp {r : R D} (h : chkT r = true) : wpR r (fun d _ => d = .bl true) (fun _ _ => False) :=
  chk_wp (fun _ _ h => D.isTrue_eq h) (fun _ _ h => by cases h) h

section
variable {P : Program} {w : World} {K : PySem.W.Frag} {mg : Str → Option Value} {base : Heap} {ca : CA}
/-- three defs that call each other -/
def recP3 (f g e : LOp → LOp → LOp → LOp) : Nat → LOp × LOp × LOp
  | 0 => (fun _ => M.bad, fun _ => M.bad, fun _ => M.bad)
  | n + 1 => (f (recP3 f g e n).1 (recP3 f g e n).2.1 (recP3 f g e n).2.2, g (recP3 f g e n).1 (recP3 f g e n).2.1 (recP3 f g e n).2.2, e (recP3 f g e n).1 (recP3 f g e n).2.1 (recP3 f g e n).2.2)
theorem fnm_recP3 {x y z : Str} {st su sv : Stmt} {ps qs rs : List Str} {lv : Nat} {f g e : LOp → LOp → LOp → LOp} (D : DefOk K mg x st ps) (D2 : DefOk K mg y su qs) (D3 : DefOk K mg z sv rs)
    (h : ∀ (k : Nat) (a b c : LOp), lv ≤ k → FnM P w K mg base ca k x ps.length a → FnM P w K mg base ca k y qs.length b → FnM P w K mg base ca k z rs.length c → FnM P w K mg base ca (k + 1) x ps.length (f a b c))
    (h2 : ∀ (k : Nat) (a b c : LOp), lv ≤ k → FnM P w K mg base ca k x ps.length a → FnM P w K mg base ca k y qs.length b → FnM P w K mg base ca k z rs.length c → FnM P w K mg base ca (k + 1) y qs.length (g a b c))
    (h3 : ∀ (k : Nat) (a b c : LOp), lv ≤ k → FnM P w K mg base ca k x ps.length a → FnM P w K mg base ca k y qs.length b → FnM P w K mg base ca k z rs.length c → FnM P w K mg base ca (k + 1) z rs.length (e a b c)) :
    ∀ n, FnM P w K mg base ca (lv + n) x ps.length (recP3 f g e n).1 ∧ FnM P w K mg base ca (lv + n) y qs.length (recP3 f g e n).2.1 ∧ FnM P w K mg base ca (lv + n) z rs.length (recP3 f g e n).2.2
  | 0 => ⟨fnm_none D, fnm_none D2, fnm_none D3⟩
  | n + 1 => by
    obtain ⟨a, b, c⟩ := fnm_recP3 D D2 D3 h h2 h3 n
    exact ⟨h (lv + n) _ _ _ (Nat.le_add_right _ _) a b c, h2 (lv + n) _ _ _ (Nat.le_add_right _ _) a b c, h3 (lv + n) _ _ _ (Nat.le_add_right _ _) a b c⟩
end
end AG
/-! AgY: own classes: fields, methods, new instances; fresh lists as objects that others see. -/
namespace AG
open PySem L2

/-- what a class's text says: c its number, flds the names that no class of it has -/
structure CK (K : PySem.W.Frag) (ca : CA) (c : Nat) (flds : List Str) : Prop where
  cls : Cls K (ca c)
  no : ∀ f ∈ flds, NoAttr K (ca c) f
/-- a method of the class c -/
structure MthD (K : PySem.W.Frag) (ca : CA) (c : Nat) (x q : Str) (st : Stmt) (ps : List Str) : Prop where
  ex : ∃ (f : Addr) (fd : FuncData), Fun K x q st f fd ∧ Meth K (ca c) x f ∧ ∀ us : List Value, us.length = ps.length → bindArgs fd ⟨us, []⟩ = pure (ps.zip us)
structure MthM (P : Program) (w : World) (K : PySem.W.Frag) (mg : Str → Option Value) (base : Heap) (ca : CA) (k : Nat) (c : Nat) (x : Str) (n : Nat) (m : LOp) : Prop where
  ex : ∃ (f : Addr) (fd : FuncData) (ps : List Str), FnOk P w K mg base (L2.CX P w) k f fd ps (spM K ca n m) ∧ Meth K (ca c) x f ∧ ∀ us : List Value, us.length = ps.length → bindArgs fd ⟨us, []⟩ = pure (ps.zip us)
/-- a class that is made by a call of its name -/
structure CMk (K : PySem.W.Frag) (mg : Str → Option Value) (ca : CA) (c : Nat) (x : Str) : Prop where
  makes : PySem.W.makesIn K (ca c) = true
  kp : PySem.W.keepIn K (.ref (ca c)) = true
  gC : mg x = some (.ref (ca c))

section
variable {P : Program} {w : World} {K : PySem.W.Frag} {mg : Str → Option Value} {base : Heap} {ca : CA} {c : Nat}
theorem mth_mk {x q : Str} {st : Stmt} {f : Addr} {ps : List Str} {oc : Value} {od an : Option Addr} {osl : Array (Option Value)} {kV doc pm cdv ct : Value} (a : PySem.W.findIn K (.ref (ca c)) x = some (some (.ref f))) (i : PySem.W.isFn K (.ref f) = true)
    (l : K.lookup f = some ⟨oc, od, .func (PySem.W.fnOf x q (defArgs st) (defBody st) (defScope st) .none kV doc pm an cdv ct), osl⟩) (cd : PySem.W.codeIn K cdv q = true) (k : PySem.W.keepIn K (.ref f) = true)
    (hb : ∀ (kV doc pm : Value) (an : Option Addr) (cdv ct : Value) (us : List Value), us.length = ps.length → bindArgs (PySem.W.fnOf x q (defArgs st) (defBody st) (defScope st) .none kV doc pm an cdv ct) ⟨us, []⟩ = pure (ps.zip us)) : MthD K ca c x q st ps :=
  ⟨_, _, fun_mk l cd k, ⟨a, i, k⟩, hb kV doc pm an cdv ct⟩
theorem fn_bodyQ {x q : Str} {st : Stmt} {f : Addr} {fd : FuncData} {N ps : List Str} {k : Nat} (F : Fun K x q st f fd) (S : FnScope N ps (defScope st)) (base : Heap) (mb : Env → M Fl) (hb : BodyOk P w K mg base ca k q st N mb) : FnOk P w K mg base (L2.CX P w) (k + 1) f fd ps (spM K ca ps.length (mFn N.length mb)) := by
  have hpl : ps.length ≤ N.length := by have := congrArg List.length S.pre; rw [List.length_take] at this; omega
  refine F.okX S (fun vs H Q E h => ?_) (fun cdv A outer s H vs Q E hr h => ⟨_, hb f cdv A outer s H E hr, ?_⟩)
  · obtain ⟨_, _, _, _, _, _, h, _⟩ := h
    exact h
  obtain ⟨w0, mh, ds, rfl, hw, r, hl, hp⟩ := h
  refine ⟨w0, w0, mh, _, rfl, hw, ⟨Ext.refl _, start_fr (N := N) r, by simp [L2.start]; omega, fun i es a h1 => ?_⟩, ?_⟩
  · rcases List.mem_append.mp (List.mem_of_getElem? h1) with q | q
    · obtain ⟨d, _, e⟩ := List.mem_map.mp q
      cases e
    · have := List.eq_of_mem_replicate q
      cases this
  · refine wpR_mono (wpR_bind.mp hp) (fun fl mh' z => ?_) fun cl mh' z w1 σ1 x1 hw1 _ => z w1 x1 hw1
    cases fl with
    | nx e => exact fun w1 σ1 s1 _ hw1 => z w1 .non s1.ext hw1 .non
    | rt d => exact fun w1 v x1 hw1 rr => z w1 v x1 hw1 rr
    | bk e => exact z.elim
    | ct e => exact z.elim
theorem mthm_mk {x q : Str} {st : Stmt} {N ps : List Str} {k : Nat} {mb : Env → M Fl} (D : MthD K ca c x q st ps) (S : FnScope N ps (defScope st)) (hb : BodyOk P w K mg base ca k q st N mb) : MthM P w K mg base ca (k + 1) c x ps.length (mFn N.length mb) := by
  obtain ⟨f, fd, F, hm, hbd⟩ := D.ex
  exact ⟨f, fd, ps, fn_bodyQ F S base mb hb, hm, hbd⟩
theorem MthM.up {j k : Nat} {x : Str} {n : Nat} {m : LOp} (F : MthM P w K mg base ca j c x n m) (h : j ≤ k) : MthM P w K mg base ca k c x n m := by
  obtain ⟨f, fd, ps, ok, r⟩ := F.ex
  exact ⟨f, fd, ps, ok.mono h, r⟩
theorem mthm_none {x q : Str} {st : Stmt} {ps : List Str} {k : Nat} (D : MthD K ca c x q st ps) : MthM P w K mg base ca k c x ps.length (fun _ => M.bad) := by
  obtain ⟨f, fd, F, hm, hbd⟩ := D.ex
  have no : ∀ vs H Q E, ¬ spM K ca ps.length (fun _ => M.bad) vs H Q E := fun vs H Q E ⟨_, _, _, _, _, _, _, hp⟩ => hp.elim
  exact ⟨f, fd, ps, ⟨fun vs H Q E h => absurd h (no vs H Q E), fun A outer s H args us vs Q E _ _ _ _ h => absurd h (no vs H Q E)⟩, hm, hbd⟩
theorem mthm_rec {x q : Str} {st : Stmt} {ps : List Str} {lv : Nat} {f : LOp → LOp} (D : MthD K ca c x q st ps)
    (h : ∀ (k : Nat) (g : LOp), lv ≤ k → MthM P w K mg base ca k c x ps.length g → MthM P w K mg base ca (k + 1) c x ps.length (f g)) : ∀ n, MthM P w K mg base ca (lv + n) c x ps.length (recF f n)
  | 0 => mthm_none D
  | n + 1 => h (lv + n) _ (Nat.le_add_right _ _) (mthm_rec D h n)
theorem mthm_recP {x y q r : Str} {c2 : Nat} {st su : Stmt} {ps qs : List Str} {lv : Nat} {f g : LOp → LOp → LOp} (D : MthD K ca c x q st ps) (D2 : MthD K ca c2 y r su qs)
    (h : ∀ (k : Nat) (a b : LOp), lv ≤ k → MthM P w K mg base ca k c x ps.length a → MthM P w K mg base ca k c2 y qs.length b → MthM P w K mg base ca (k + 1) c x ps.length (f a b))
    (h2 : ∀ (k : Nat) (a b : LOp), lv ≤ k → MthM P w K mg base ca k c x ps.length a → MthM P w K mg base ca k c2 y qs.length b → MthM P w K mg base ca (k + 1) c2 y qs.length (g a b)) :
    ∀ n, MthM P w K mg base ca (lv + n) c x ps.length (recP f g n).1 ∧ MthM P w K mg base ca (lv + n) c2 y qs.length (recP f g n).2
  | 0 => ⟨mthm_none D, mthm_none D2⟩
  | n + 1 => by
    obtain ⟨a, b⟩ := mthm_recP D D2 h h2 n
    exact ⟨h (lv + n) _ _ (Nat.le_add_right _ _) a b, h2 (lv + n) _ _ (Nat.le_add_right _ _) a b⟩
end

/-! ### fields -/
def fldM (c : Nat) (f : Str) : D → M D
  | .ref n => fun h => match h[n]? with
    | some (.inst c' fs) => if c' = c then (match fs.lookup f with | some d => .ok d h | none => .bad) else .bad
    | _ => .bad
  | _ => M.bad
def mFld (c : Nat) (f : Str) (m : Env → M D) : Env → M D := fun env => M.bind (m env) (fldM c f)
def putD (f : Str) (v : D) : List (Str × D) → List (Str × D)
  | [] => [(f, v)]
  | (k, x) :: r => if k = f then (k, v) :: r else (k, x) :: putD f v r
def setFldM (c : Nat) (f : Str) (v : D) : D → M Unit
  | .ref n => fun h => match h[n]? with
    | some (.inst c' fs) => if c' = c ∧ fs.length < 1000 then .ok () (h.set n (.inst c (putD f v fs))) else .bad
    | _ => .bad
  | _ => M.bad
def mSetFld (c : Nat) (f : Str) (o e : Env → M D) : Env → M Fl := fun env => M.bind (e env) fun v => M.bind (o env) fun d => M.bind (setFldM c f v d) fun _ => M.pure (.nx env)
/-- e.f op= v -/
def mAugFld (op : DOp) (c : Nat) (f : Str) (o e : Env → M D) : Env → M Fl := fun env => M.bind (o env) fun d => M.bind (fldM c f d) fun x => M.bind (e env) fun y => M.bind (op x y) fun z => M.bind (setFldM c f z d) fun _ => M.pure (.nx env)

theorem zip_lookup {K : PySem.W.Frag} {w : Wd} {f : Str} : ∀ {fs : List (Str × D)} {us : List V} {d : D}, RpAll K w us (fs.map (·.2)) → fs.lookup f = some d → ∃ v, ((fs.map (·.1)).zip us).lookup f = some v ∧ Rp K w v d
  | [], _, _, _, h => by simp at h
  | (k, x) :: r, us, d, hr, h => by
    cases hr with
    | cons h1 h2 =>
      by_cases e : f = k
      · subst e
        simp only [List.lookup_cons, beq_self_eq_true] at h
        cases h
        exact ⟨_, by simp, h1⟩
      · have e' : (f == k) = false := by simpa using e
        simp only [List.lookup_cons, e'] at h
        obtain ⟨v, q1, q2⟩ := zip_lookup h2 h
        refine ⟨v, ?_, q2⟩
        simp only [List.map_cons, List.zip_cons_cons, List.lookup_cons, e']
        exact q1
theorem zip_none {K : PySem.W.Frag} {w : Wd} {f : Str} : ∀ {fs : List (Str × D)} {us : List V}, RpAll K w us (fs.map (·.2)) → fs.lookup f = none → ((fs.map (·.1)).zip us).lookup f = none
  | [], _, _, h => rfl
  | (k, x) :: r, us, hr, h => by
    cases hr with
    | cons h1 h2 =>
      by_cases e : f = k
      · subst e
        simp at h
      · have e' : (f == k) = false := by simpa using e
        simp only [List.lookup_cons, e'] at h
        simp only [List.map_cons, List.zip_cons_cons, List.lookup_cons, e']
        exact zip_none h2 h
theorem zip_put {K : PySem.W.Frag} {w : Wd} {f : Str} {v : V} {d : D} (hv : Rp K w v d) : ∀ {fs : List (Str × D)} {us : List V}, RpAll K w us (fs.map (·.2)) → ∃ us', putF f v ((fs.map (·.1)).zip us) = ((putD f d fs).map (·.1)).zip us' ∧ RpAll K w us' ((putD f d fs).map (·.2))
  | [], us, hr => by
    cases hr
    exact ⟨[v], rfl, .cons hv .nil⟩
  | (k, x) :: r, us, hr => by
    cases hr with
    | cons h1 h2 =>
      rename_i u us
      by_cases e : k = f
      · refine ⟨v :: us, ?_, ?_⟩
        · simp only [putD, e, if_true, List.map_cons, List.zip_cons_cons]
          rw [show putF f v ((f, u) :: (r.map (·.1)).zip us) = (if f = f then (f, v) :: (r.map (·.1)).zip us else (f, u) :: putF f v ((r.map (·.1)).zip us)) from rfl, if_pos rfl]
        · simp only [putD, e, if_true, List.map_cons]
          exact .cons hv h2
      · obtain ⟨us', q1, q2⟩ := zip_put hv h2
        refine ⟨u :: us', ?_, ?_⟩
        · simp only [putD, e, if_false, List.map_cons, List.zip_cons_cons]
          rw [show putF f v ((k, u) :: (r.map (·.1)).zip us) = (if k = f then (k, v) :: (r.map (·.1)).zip us else (k, u) :: putF f v ((r.map (·.1)).zip us)) from rfl, if_neg e, q1]
        · simp only [putD, e, if_false, List.map_cons]
          exact .cons h1 q2
theorem zip_len {us : List V} {fs : List (Str × D)} {K : PySem.W.Frag} {w : Wd} (h : RpAll K w us (fs.map (·.2))) : ((fs.map (·.1)).zip us).length = fs.length := by
  have := h.length
  simp only [List.length_zip, List.length_map] at this ⊢
  omega
section
variable {X : Cx} {ca : CA} {W : WX} {n c : Nat} {e o : Expr} {f : Str} {flds : List Str} {pos pos' tpos : Pos} {m mo me : Env → M D}
theorem me_fld (C : CK X.K ca c flds) (h : ME X ca W e m) (hf : f ∈ flds := by decide) (hb : attributeBase e f X.env (eval e X.env) = eval e X.env := by rfl) : ME X ca W (.Attribute e f pos) (mFld c f m) :=
  PE.mono (pe_fld h hb) fun σ H Q h => by
    obtain ⟨w, mh, env, rfl, hw, hfr, hp⟩ := h
    refine stepG (rep := repV X.K) hw hfr hp fun w1 mh1 v1 d1 x1 hw1 hf1 r1 hp1 => ?_
    cases r1 with
    | ref h2 =>
      rename_i a k
      obtain ⟨mo', e1, _, _, hob⟩ := hw1.at h2
      cases mo' with
      | inst c' fs =>
        obtain ⟨dx, us, hH, rr⟩ := hob
        by_cases q : c' = c
        · subst q
          cases ql : fs.lookup f with
          | none => simp only [fldM, e1, ql, if_true] at hp1; exact hp1.elim
          | some d =>
            simp only [fldM, e1, ql, if_true] at hp1
            obtain ⟨v, z1, z2⟩ := zip_lookup rr ql
            exact ⟨a, ca c', dx, _, v, rfl, hH, C.cls, C.no f hf, z1, PostG.ret hp1 hw1 z2⟩
        · simp only [fldM, e1, q, if_false] at hp1; exact hp1.elim
      | _ => simp only [fldM, e1] at hp1; exact hp1.elim
    | _ => exact hp1.elim
theorem ms_setFld (C : CK X.K ca c flds) (ho : ME X ca W o mo) (he : ME X ca W e me) (hf : f ∈ flds := by decide) (hs : swapsWith e (some (.Attribute o f pos')) pos.line X.env = pure false := by rfl) : MS X ca W n (.Assign [.Attribute o f pos'] e pos) (mSetFld c f mo me) :=
  PS.mono (ps_fld ho he hs) fun D' σ H h => by
    obtain ⟨w0, w, mh, env, rfl, hw, s, hp⟩ := h
    refine stepS (rep := repV X.K) hw s hp fun w1 mh1 v1 d1 x1 hw1 s1 r1 hp1 => ?_
    refine stepS (rep := repV X.K) hw1 s1 hp1 fun w2 mh2 v2 d2 x2 hw2 s2 r2 hp2 => ?_
    have r1 : Rp X.K w2 v1 d1 := x2.rp r1
    cases r2 with
    | ref h2 =>
      rename_i a k
      obtain ⟨mo', e1, _, _, hob⟩ := hw2.at h2
      cases mo' with
      | inst c' fs =>
        obtain ⟨dx, us, hH, rr⟩ := hob
        by_cases q : c' = c ∧ fs.length < 1000
        · simp only [M.bind, setFldM, e1, q, and_self, if_true, R.bind, M.pure] at hp2
          obtain ⟨q, l⟩ := q
          subst q
          obtain ⟨us', z1, z2⟩ := zip_put (f := f) r1 rr
          refine ⟨a, ca c', dx, _, rfl, hH, C.cls, C.no f hf, by rw [zip_len rr]; exact l, ?_⟩
          rw [z1]
          have hm := List.mem_of_getElem? h2
          have x3 : Ext w2 (w2.put a (.ins (ca c') dx (((putD f d1 fs).map (·.1)).zip us'))) := Ext.obj hm
          exact hp2 _ σ (s2.then x3) (x1.grow.trans (x2.grow.trans x3.grow)) (hw2.obj' h2 ⟨dx, us', upd_same, z2.mono put_grow⟩)
        · simp only [M.bind, setFldM, e1, q, if_false, R.bind] at hp2; exact hp2.elim
      | _ => simp only [M.bind, setFldM, e1, R.bind] at hp2; exact hp2.elim
    | _ => exact hp2.elim
end

/-! ### methods -/
def isC (c : Nat) (x : Str) : D → M Unit
  | .ref n => fun h => match h[n]? with
    | some (.inst c' fs) => if c' = c ∧ fs.lookup x = none then .ok () h else .bad
    | _ => .bad
  | _ => M.bad
def mMeth (c : Nat) (x : Str) (n : Nat) (f : LOp) (mo : Env → M D) (ms : Env → M (List D)) : Env → M D := fun env => M.bind (mo env) fun d => M.bind (isC c x d) fun _ => M.bind (ms env) fun ds => if ds.length + 1 = n then f (d :: ds) else M.bad
def mMake (c : Nat) (n : Nat) (f : LOp) (ms : Env → M (List D)) : Env → M D := fun env => M.bind (ms env) fun ds => if ds.length + 1 = n then (fun h => (f (.ref h.length :: ds) (h ++ [.inst c []])).bind fun r h' => match r with | .non => .ok (.ref h.length) h' | _ => .bad) else M.bad
section
variable {X : Cx} {CX : CXT} {k : Nat} {f C : Addr} {fd : FuncData} {ps : List Str} {sp : Sp} {E : St → XK} {x m : Str} {p pos apos : Pos} {e o : Expr} {es : List Expr} {ta : TE} {t : TA}
def tMethW (C : Addr) (m : Str) (sp : Sp) (E : St → XK) (ta : TE) (t : TA) : TE := fun σ H Q => ta σ H fun x H1 => ∃ a dx fs, x = .ref a ∧ H1 a = some (.ins C dx fs) ∧ fs.lookup m = none ∧
  t σ H1 fun vs H2 => sp (x :: vs) H2 Q (E σ)
def tMakeW (C : Addr) (sp : Sp) (E : St → XK) (t : TA) : TE := fun σ H Q => t σ H fun vs H1 => ∀ x dx, H1 x = none → H1 dx = none → dx ≠ x →
  sp (.ref x :: vs) (upd (upd H1 dx (.own x)) x (.ins C dx [])) (fun v H2 => v = .non ∧ Q (.ref x) H2) (E σ)
theorem pe_methW {pl : Sem Bool} (he : PE X o ta) (c : Cls X.K C) (hm : Meth X.K C m f) (F : FnOk X.prog X.w X.K X.mg X.base CX k f fd ps sp) (hr : Room k X.A) (hb : Binds X.K fd ps []) (hx : ∀ σ, PassesAt CX X σ (E σ)) (ha : PA X (e :: es) t)
    (hst : starEach (e :: es) X.env = (false, eval e X.env) :: starEach es X.env) (hpl : (backTo pos (starEach es X.env)).any (·.1) = false)
    (ht : eval (.Call (.Attribute o m apos) (e :: es) [] pos) X.env = (do
      let ov ← eval o X.env
      standAt apos.atName
      let (f, first) ← holding [ov] (getMethod ov m pl)
      callWith pos f first (backTo pos (starEach (e :: es) X.env)) (backToKw pos (keywordEach [] X.env)))) :
    PE X (.Call (.Attribute o m apos) (e :: es) [] pos) (tMethW C m sp E ta t) := by
  refine ⟨fun pins s σ H Q I h => ?_⟩
  refine PySem.W.methodCall_KW (pl := pl) (thn (he.run pins s σ H _ I h) fun u s1 ⟨x, H1, I1, rx, a, dx, fs, ex, ea, l, q⟩ => ?_) ht
  subst ex
  obtain rfl : u = Value.ref a := rx
  refine getmeth_ok I1 ea c hm l ?_
  refine PySem.W.callWith_K (first := [.ref a]) (h₀ := X.base) I.ok.mod.kin hm.kp (thn (ha.run pos pins s1 σ H1 _ I1 q) fun us s2 ⟨vs, H2, I2, r, q2⟩ => ⟨I2.kIn, ?_⟩) hst hpl
  exact run_fnS (us := .ref a :: us) (vs := .ref a :: vs) F hr hb (hx σ) I2 (.cons rfl r) q2
theorem pe_methW0 {pl : Sem Bool} (he : PE X o ta) (c : Cls X.K C) (hm : Meth X.K C m f) (F : FnOk X.prog X.w X.K X.mg X.base CX k f fd ps sp) (hr : Room k X.A) (hb : Binds X.K fd ps []) (hx : ∀ σ, PassesAt CX X σ (E σ))
    (ht : eval (.Call (.Attribute o m apos) [] [] pos) X.env = (do
      let ov ← eval o X.env
      standAt apos.atName
      let (f, first) ← holding [ov] (getMethod ov m pl)
      callWith pos f first (backTo pos (starEach [] X.env)) (backToKw pos (keywordEach [] X.env)))) :
    PE X (.Call (.Attribute o m apos) [] [] pos) (tMethW C m sp E ta tNil) := by
  refine ⟨fun pins s σ H Q I h => ?_⟩
  refine PySem.W.methodCall_KW (pl := pl) (thn (he.run pins s σ H _ I h) fun u s1 ⟨x, H1, I1, rx, a, dx, fs, ex, ea, l, q⟩ => ?_) ht
  subst ex
  obtain rfl : u = Value.ref a := rx
  refine getmeth_ok I1 ea c hm l ?_
  exact PySem.W.callWith_K0 (first := [.ref a]) I1.kIn hm.kp (run_fnS (us := [.ref a]) (vs := [.ref a]) F hr hb (hx σ) I1 (.cons rfl .nil) q)
theorem run_makeW {pins : List (Addr × Obj)} {σ : St} {H : Hp} {s : Shared} {Q : VK} {us : List Value} {vs : List V} {E : XK} (M : Mk X.K C f) (F : FnOk X.prog X.w X.K X.mg X.base CX k f fd ps sp) (hr : Room (k + 1) X.A) (hb : Binds X.K fd ps [])
    (hx : PassesAt CX X σ E) (I : Inv X pins σ H s) (r : Vals vs us)
    (h : ∀ x dx, H x = none → H dx = none → dx ≠ x → sp (.ref x :: vs) (upd (upd H dx (.own x)) x (.ins C dx [])) (fun v H2 => v = .non ∧ Q (.ref x) H2) E) :
    wpAny (model X.prog X.w) X.A (call (.ref C) us) (EP X pins σ Q) X.xe s := by
  have hq := h (s.heap.objs.size + 1) s.heap.objs.size (I.hok.fresh (Nat.le_succ _)) (I.hok.fresh (Nat.le_refl _)) (Nat.ne_of_lt (Nat.lt_succ_self _))
  have I2 := Inv.made (C := C) I
  have r2 : Vals (V.ref (s.heap.objs.size + 1) :: vs) (Value.ref (s.heap.objs.size + 1) :: us) := .cons rfl r
  have hl : (Value.ref (s.heap.objs.size + 1) :: us ++ []).length = ps.length := by
    have e := r2.length
    rw [F.len _ _ _ _ hq] at e
    rw [List.append_nil]
    exact e.symm
  have b := hb _ (Value.ref (s.heap.objs.size + 1) :: us) I2.kIn hl
  rw [List.append_nil] at b
  refine wpAny_call (make_map (f := f) I.kIn M.makes M.init (beq_iff_eq.mp M.fn) (codeAny_mono (F.run _ X.stack _ _ ⟨Value.ref (s.heap.objs.size + 1) :: us, []⟩ (Value.ref (s.heap.objs.size + 1) :: us) _ _ E (hr.make C us [])
    (I2.env0.make C us []) b r2 hq) fun r s' hq' => ?_))
  cases r with
  | error e => exact hx pins _ _ e s' I2 hq'
  | ok fl =>
    cases fl with
    | ret u =>
      obtain ⟨v, H', I3, rv, ev, q3⟩ := I2.after hq'
      subst ev
      exact ⟨rv, ⟨V.ref (s.heap.objs.size + 1), H', I3, rfl, q3⟩⟩
    | next => exact False.elim hq'
    | brk => exact False.elim hq'
    | cont => exact False.elim hq'
theorem pe_makeW (M : Mk X.K C f) (F : FnOk X.prog X.w X.K X.mg X.base CX k f fd ps sp) (hr : Room (k + 1) X.A) (hg : Gl X x) (hm : X.mg x = some (.ref C)) (hb : Binds X.K fd ps []) (hx : ∀ σ, PassesAt CX X σ (E σ))
    (ha : PA X (e :: es) t) (hdb : (x == ("__debug__" : Str)) = false) (he : starEach (e :: es) X.env = (false, eval e X.env) :: starEach es X.env) (hpl : (backTo pos (starEach es X.env)).any (·.1) = false) :
    PE X (.Call (.Name x p) (e :: es) [] pos) (tMakeW C sp E t) := by
  refine ⟨fun pins s σ H Q I h => ?_⟩
  refine wpAny_Call_Name_kw (ld_glob I hg hm ?_ hdb)
  refine PySem.W.callWith_K (h₀ := X.base) I.ok.mod.kin M.kp (thn (ha.run pos pins s σ H _ I h) fun us s1 ⟨vs, H1, I1, r, q⟩ => ⟨I1.kIn, ?_⟩) he hpl
  exact run_makeW M F hr hb (hx σ) I1 r q
theorem pe_makeW0 (M : Mk X.K C f) (F : FnOk X.prog X.w X.K X.mg X.base CX k f fd ps sp) (hr : Room (k + 1) X.A) (hg : Gl X x) (hm : X.mg x = some (.ref C)) (hb : Binds X.K fd ps []) (hx : ∀ σ, PassesAt CX X σ (E σ))
    (hdb : (x == ("__debug__" : Str)) = false) : PE X (.Call (.Name x p) [] [] pos) (tMakeW C sp E tNil) := by
  refine ⟨fun pins s σ H Q I h => ?_⟩
  refine wpAny_Call_Name_kw (ld_glob I hg hm ?_ hdb)
  exact PySem.W.callWith_K0 I.kIn M.kp (run_makeW (us := []) M F hr hb (hx σ) I .nil h)
end
section
variable {X : Cx} {ca : CA} {W : WX} {n k c : Nat} {e o : Expr} {es : List Expr} {x : Str} {flds : List Str} {p apos pos : Pos} {mo : Env → M D} {ms : Env → M (List D)} {f : LOp}
theorem meth_den (C : CK X.K ca c flds) {fa : Addr} (hm : Meth X.K (ca c) x fa) {σ : St} {H : Hp} {Q : VK} (h : denG (repV X.K) X.K ca W (mMeth c x n f mo ms) σ H Q) :
    tMethW (ca c) x (spM X.K ca n f) (WE W) (denG (repV X.K) X.K ca W mo) (denG (repA X.K) X.K ca W ms) σ H Q := by
  obtain ⟨w, mh, env, rfl, hw, hfr, hp⟩ := h
  refine stepG (rep := repV X.K) hw hfr hp fun w1 mh1 v1 d1 x1 hw1 hf1 r1 hp1 => ?_
  cases r1 with
  | ref h2 =>
    rename_i a j
    obtain ⟨mo', e1, _, _, hob⟩ := hw1.at h2
    cases mo' with
    | inst c' fs =>
      obtain ⟨dx, us, hH, rr⟩ := hob
      by_cases q : c' = c ∧ fs.lookup x = none
      · simp only [M.bind, isC, e1, q, and_self, if_true, R.bind] at hp1
        obtain ⟨q, l⟩ := q
        subst q
        refine ⟨a, dx, _, rfl, hH, zip_none rr l, ?_⟩
        refine stepG (rep := repA X.K) hw1 hf1 hp1 fun w2 mh2 v2 d2 x2 hw2 hf2 r2 hp2 => ?_
        have r2 : RpAll X.K w2 v2 d2 := r2
        by_cases l2 : d2.length + 1 = n
        · simp only [l2, if_true] at hp2
          refine ⟨w2, mh2, .ref j :: d2, rfl, hw2, .cons (.ref (x2.at h2)) r2, ?_, hp2⟩
          rw [List.length_cons, r2.length]; exact l2
        · simp only [l2, if_false] at hp2; exact hp2.elim
      · simp only [M.bind, isC, e1, q, if_false, R.bind] at hp1; exact hp1.elim
    | _ => simp only [M.bind, isC, e1, R.bind] at hp1; exact hp1.elim
  | _ => exact hp1.elim
theorem make_den {σ : St} {H : Hp} {Q : VK} (h : denG (repV X.K) X.K ca W (mMake c n f ms) σ H Q) : tMakeW (ca c) (spM X.K ca n f) (WE W) (denG (repA X.K) X.K ca W ms) σ H Q := by
  obtain ⟨w, mh, env, rfl, hw, hfr, hp⟩ := h
  refine stepG (rep := repA X.K) hw hfr hp fun w1 mh1 v1 d1 x1 hw1 hf1 r1 hp1 => ?_
  have r1 : RpAll X.K w1 v1 d1 := r1
  by_cases l2 : d1.length + 1 = n
  · simp only [l2, if_true] at hp1
    intro a dx ha hdx ne
    have e1 := Ext.put (o := .own a) hw1 hdx
    have hw2 := hw1.put (o := .own a) hdx
    have ha2 : (w1.put dx (.own a)).H a = none := by
      show upd w1.H dx (.own a) a = none
      rw [upd_ne (Ne.symm ne)]; exact ha
    have e2 := Ext.new (o := .ins (ca c) dx []) ha2
    have hw3 : WOk X.K ca ((w1.put dx (.own a)).new a (.ins (ca c) dx [])) (mh1 ++ [.inst c []]) := hw2.new ha2 ⟨dx, [], upd_same, .nil⟩
    have x3 := e1.trans e2
    have hat : ((w1.put dx (.own a)).new a (.ins (ca c) dx [])).ρ[mh1.length]? = some a := by
      show (w1.ρ ++ [a])[mh1.length]? = some a
      rw [← hw1.len]
      simp
    refine ⟨(w1.put dx (.own a)).new a (.ins (ca c) dx []), mh1 ++ [.inst c []], .ref mh1.length :: d1, rfl, hw3, .cons (.ref hat) (x3.rps r1), by rw [List.length_cons, r1.length]; exact l2, ?_⟩
    refine wpR_mono (wpR_bind.mp hp1) (fun d mh' z w' v x' hw' r' => ?_) fun cl mh' z w' x' hw' => z w' (x3.trans x') hw'
    have r' : Rp X.K w' v d := r'
    cases r' with
    | non => exact ⟨rfl, PostG.ret (PostG.ext (w := w1) z (x3.trans x')) hw' (.ref (x'.at hat))⟩
    | _ => exact z.elim
  · simp only [l2, if_false] at hp1; exact hp1.elim
theorem me_meth {pl : Sem Bool} (C : CK X.K ca c flds) (F : MthM X.prog X.w X.K X.mg X.base ca k c x n f) (hr : Room k X.A) (tk : Takes X W) (ho : ME X ca W o mo) (ha : MA X ca W (e :: es) ms)
    (hst : starEach (e :: es) X.env = (false, eval e X.env) :: starEach es X.env := by rfl) (hpl : (backTo pos (starEach es X.env)).any (·.1) = false := by rfl)
    (ht : eval (.Call (.Attribute o x apos) (e :: es) [] pos) X.env = (do
      let ov ← eval o X.env
      standAt apos.atName
      let (f, first) ← holding [ov] (getMethod ov x pl)
      callWith pos f first (backTo pos (starEach (e :: es) X.env)) (backToKw pos (keywordEach [] X.env))) := by rfl) :
    ME X ca W (.Call (.Attribute o x apos) (e :: es) [] pos) (mMeth c x n f mo ms) := by
  obtain ⟨fa, fd, ps, ok, hm, hb⟩ := F.ex
  exact PE.mono (pe_methW ho C.cls hm ok hr (.all hb) (fun σ => passAt tk σ) ha hst hpl ht) fun _ _ _ h => meth_den C hm h
theorem me_meth0 {pl : Sem Bool} (C : CK X.K ca c flds) (F : MthM X.prog X.w X.K X.mg X.base ca k c x n f) (hr : Room k X.A) (tk : Takes X W) (ho : ME X ca W o mo)
    (ht : eval (.Call (.Attribute o x apos) [] [] pos) X.env = (do
      let ov ← eval o X.env
      standAt apos.atName
      let (f, first) ← holding [ov] (getMethod ov x pl)
      callWith pos f first (backTo pos (starEach [] X.env)) (backToKw pos (keywordEach [] X.env))) := by rfl) :
    ME X ca W (.Call (.Attribute o x apos) [] [] pos) (mMeth c x n f mo mNil) := by
  obtain ⟨fa, fd, ps, ok, hm, hb⟩ := F.ex
  refine PE.mono (pe_methW0 ho C.cls hm ok hr (.all hb) (fun σ => passAt tk σ) ht) fun σ H Q h => ?_
  obtain ⟨w, mh, env, rfl, hw, hfr, hp⟩ := meth_den C hm h
  refine ⟨w, mh, env, rfl, hw, hfr, wpR_mono hp (fun d mh' z w' v x' hw' r' => ?_) fun _ _ z => z⟩
  obtain ⟨a, dx, fs, e1, e2, e3, w2, mh2, env2, e4, hw2, hf2, hp2⟩ := z w' v x' hw' r'
  refine ⟨a, dx, fs, e1, e2, e3, ?_⟩
  have := hp2 w2 [] (Ext.refl _) hw2 .nil
  rw [e4] at this
  exact this
theorem me_make (C : CMk X.K X.mg ca c x) (F : MthM X.prog X.w X.K X.mg X.base ca k c "__init__" n f) (hr : Room (k + 1) X.A) (tk : Takes X W) (ha : MA X ca W (e :: es) ms) (hg : Gl X x := by rfl) (hdb : (x == ("__debug__" : Str)) = false := by decide)
    (he : starEach (e :: es) X.env = (false, eval e X.env) :: starEach es X.env := by rfl) (hpl : (backTo pos (starEach es X.env)).any (·.1) = false := by rfl) : ME X ca W (.Call (.Name x p) (e :: es) [] pos) (mMake c n f ms) := by
  obtain ⟨fa, fd, ps, ok, hm, hb⟩ := F.ex
  exact PE.mono (pe_makeW ⟨C.makes, hm.at_, hm.fn, C.kp⟩ ok hr hg C.gC (.all hb) (fun σ => passAt tk σ) ha hdb he hpl) fun _ _ _ h => make_den h
theorem me_make0 (C : CMk X.K X.mg ca c x) (F : MthM X.prog X.w X.K X.mg X.base ca k c "__init__" n f) (hr : Room (k + 1) X.A) (tk : Takes X W) (hg : Gl X x := by rfl) (hdb : (x == ("__debug__" : Str)) = false := by decide) : ME X ca W (.Call (.Name x p) [] [] pos) (mMake c n f mNil) := by
  obtain ⟨fa, fd, ps, ok, hm, hb⟩ := F.ex
  refine PE.mono (pe_makeW0 ⟨C.makes, hm.at_, hm.fn, C.kp⟩ ok hr hg C.gC (.all hb) (fun σ => passAt tk σ) hdb) fun σ H Q h => ?_
  obtain ⟨w, mh, env, e4, hw, hfr, hp⟩ := make_den h
  have := hp w [] (Ext.refl _) hw .nil
  rw [e4] at this
  exact this
end
end AG
/-! AgZ: data compared in the kernel; pieces of runs. -/
namespace AG
open PySem L2

mutual
def D.beq : D → D → Bool
  | .non, .non => true
  | .bl a, .bl b => a == b
  | .int a, .int b => decide (a = b)
  | .str a, .str b => decide (a = b)
  | .tup a, .tup b => D.beqs a b
  | .lst a, .lst b => D.beqs a b
  | .ref a, .ref b => decide (a = b)
  | .scr a, .scr b => decide (a = b)
  | _, _ => false
def D.beqs : List D → List D → Bool
  | [], [] => true
  | a :: as, b :: bs => D.beq a b && D.beqs as bs
  | _, _ => false
end
mutual
theorem D.beq_eq : ∀ {a b : D}, D.beq a b = true → a = b
  | .non, .non, _ => rfl
  | .bl a, .bl b, h => by simp [D.beq] at h; rw [h]
  | .int a, .int b, h => by simp [D.beq] at h; rw [h]
  | .str a, .str b, h => by simp [D.beq] at h; rw [h]
  | .tup a, .tup b, h => by rw [D.beq] at h; rw [D.beqs_eq h]
  | .lst a, .lst b, h => by rw [D.beq] at h; rw [D.beqs_eq h]
  | .ref a, .ref b, h => by simp [D.beq] at h; rw [h]
  | .scr a, .scr b, h => by simp [D.beq] at h; rw [h]
  | .non, .bl _, h | .non, .int _, h | .non, .str _, h | .non, .tup _, h | .non, .lst _, h | .non, .ref _, h | .non, .scr _, h => by simp [D.beq] at h
  | .bl _, .non, h | .bl _, .int _, h | .bl _, .str _, h | .bl _, .tup _, h | .bl _, .lst _, h | .bl _, .ref _, h | .bl _, .scr _, h => by simp [D.beq] at h
  | .int _, .non, h | .int _, .bl _, h | .int _, .str _, h | .int _, .tup _, h | .int _, .lst _, h | .int _, .ref _, h | .int _, .scr _, h => by simp [D.beq] at h
  | .str _, .non, h | .str _, .bl _, h | .str _, .int _, h | .str _, .tup _, h | .str _, .lst _, h | .str _, .ref _, h | .str _, .scr _, h => by simp [D.beq] at h
  | .tup _, .non, h | .tup _, .bl _, h | .tup _, .int _, h | .tup _, .str _, h | .tup _, .lst _, h | .tup _, .ref _, h | .tup _, .scr _, h => by simp [D.beq] at h
  | .lst _, .non, h | .lst _, .bl _, h | .lst _, .int _, h | .lst _, .str _, h | .lst _, .tup _, h | .lst _, .ref _, h | .lst _, .scr _, h => by simp [D.beq] at h
  | .ref _, .non, h | .ref _, .bl _, h | .ref _, .int _, h | .ref _, .str _, h | .ref _, .tup _, h | .ref _, .lst _, h | .ref _, .scr _, h => by simp [D.beq] at h
  | .scr _, .non, h | .scr _, .bl _, h | .scr _, .int _, h | .scr _, .str _, h | .scr _, .tup _, h | .scr _, .lst _, h | .scr _, .ref _, h => by simp [D.beq] at h
theorem D.beqs_eq : ∀ {a b : List D}, D.beqs a b = true → a = b
  | [], [], _ => rfl
  | a :: as, b :: bs, h => by
    rw [D.beqs, Bool.and_eq_true] at h
    rw [D.beq_eq h.1, D.beqs_eq h.2]
  | [], _ :: _, h => by simp [D.beqs] at h
  | _ :: _, [], h => by simp [D.beqs] at h
end
/-- one of some -/
def D.among (d : D) (xs : List D) : Bool := xs.any fun x => D.beq x d
theorem D.among_mem {d : D} {xs : List D} (h : d.among xs = true) : d ∈ xs := by
  obtain ⟨x, hx, e⟩ := List.any_eq_true.mp h
  rw [← D.beq_eq e]; exact hx
/-- the heap is the stream alone -/
def isS : MH → Bool
  | [.stream] => true
  | _ => false
theorem isS_eq : ∀ {h : MH}, isS h = true → h = [.stream]
  | [.stream], _ => rfl
  | [], h => by cases h
  | [.lst _], h => by cases h
  | [.inst _ _], h => by cases h
  | _ :: _ :: _, h => by simp [isS] at h
/-- the slot holds the datum -/
def slotV (e : Env) (i : Nat) (d : D) : Bool := match e[i]? with | some (.v x) => D.beq x d | _ => false
theorem slotV_eq {e : Env} {i : Nat} {d : D} (h : slotV e i d = true) : e[i]? = some (.v d) := by
  unfold slotV at h
  split at h
  · rename_i x q
    rw [q, D.beq_eq h]
  · cases h
/-- the value, where the run is a plain one over the stream alone -/
def R.val : R D → Option D
  | .ok d h => if isS h then some d else none
  | _ => none
theorem R.val_eq : ∀ {r : R D} {d : D}, r.val = some d → r = .ok d [.stream]
  | .ok d h, e, q => by
    simp only [R.val] at q
    split at q
    · rename_i z
      cases q
      rw [isS_eq z]
    · cases q
  | .exc _ _, _, q => by cases q
  | .bad, _, q => by cases q
  | .pick _ _, _, q => by cases q
theorem wp_seq {s t : Env → M Fl} {env : Env} {h : MH} {Q : Fl → MH → Prop} {E : Nat → MH → Prop} (q : wpR (s env h) (fun fl h' => match fl with | .nx e => wpR (t e h') Q E | fl => Q fl h') E) : wpR (mSeq s t env h) Q E := by
  show wpR ((s env h).bind _) Q E
  refine wpR_bind.mpr (wpR_mono q (fun fl h' z => ?_) fun _ _ z => z)
  cases fl <;> exact z
theorem wp_bindv {α β : Type} {r : R α} {f : α → MH → R β} {v : α} {h : MH} {Q : β → MH → Prop} {E : Nat → MH → Prop} (q : wpR r (fun d h' => d = v ∧ h' = h) (fun _ _ => False)) (z : wpR (f v h) Q E) : wpR (r.bind f) Q E :=
  wpR_bind.mpr (wpR_mono q (fun d h' e => by rw [e.1, e.2]; exact z) fun _ _ e => e.elim)
/-- a for loop whose turns end as usual, over the same heap -/
theorem loop_inv {tg : Tgt} {s : Env → M Fl} {h : MH} {I : Env → Prop} : ∀ {xs : List D} {env : Env}, I env → (∀ x ∈ xs, ∀ e, I e → ∃ e1 e2, tg x e = some e1 ∧ s e1 h = .ok (.nx e2) h ∧ I e2) → ∃ e, loopF tg s xs env h = .ok (.nx e) h ∧ I e
  | [], env, hi, _ => ⟨env, rfl, hi⟩
  | x :: xs, env, hi, k => by
    obtain ⟨e1, e2, t1, t2, t3⟩ := k x List.mem_cons_self env hi
    obtain ⟨e, q1, q2⟩ := loop_inv (xs := xs) t3 fun y hy => k y (List.mem_cons_of_mem _ hy)
    exact ⟨e, by rw [loopF_cons t1 t2]; exact q1, q2⟩
end AG
namespace AG
open PySem L2
/-- a statement's run: where it goes on, k is asked; where it returns, it returns True -/
def chkN (k : Env → MH → Bool) (r : R Fl) : Bool := chk (fun fl h => match fl with | .nx e => k e h | .rt d => d.isTrue | _ => false) (fun _ _ => false) r
abbrev QT : Fl → MH → Prop := fun fl _ => fl = .rt (.bl true)
abbrev EF : Nat → MH → Prop := fun _ _ => False
theorem seq_chk {s t : Env → M Fl} {env : Env} {h : MH} {k : Env → MH → Bool} (q : chkN k (s env h) = true) (z : ∀ e h', k e h' = true → wpR (t e h') QT EF) : wpR (mSeq s t env h) QT EF := by
  refine wp_seq (chk_wp (fun fl h' p => ?_) (fun _ _ p => by cases p) q)
  cases fl with
  | nx e => exact z e h' p
  | rt d =>
    have p : d.isTrue = true := p
    show Fl.rt d = .rt (.bl true)
    rw [D.isTrue_eq p]
  | bk e => cases p
  | ct e => cases p
theorem last_chk {s : Env → M Fl} {env : Env} {h : MH} (q : chkN (fun _ _ => false) (s env h) = true) : wpR (s env h) QT EF :=
  chk_wp (fun fl h' p => by
    cases fl with
    | nx e => cases p
    | rt d =>
      have p : d.isTrue = true := p
      show Fl.rt d = .rt (.bl true)
      rw [D.isTrue_eq p]
    | bk e => cases p
    | ct e => cases p) (fun _ _ p => by cases p) q
/-- the law's body returns True -/
theorem fn_true {n : Nat} {s : Env → M Fl} {ds : List D} {h : MH} {env : Env} (he : ds.map Slot.v ++ List.replicate (n - ds.length) Slot.no = env) (q : wpR (s env h) QT EF) : wpR (mFn n s ds h) (fun d _ => d = .bl true) (fun _ _ => False) := by
  subst he
  refine wpR_bind.mpr (wpR_mono q (fun fl h' e => ?_) fun _ _ e => e)
  have e : fl = .rt (.bl true) := e
  subst e
  exact rfl
end AG
namespace AG
open PySem L2
/-! the same, sealed -/
theorem Wp.seq {s t : Env → M Fl} {env : Env} {h : MH} {Q : Fl → MH → Prop} {E : Nat → MH → Prop} (q : Wp (s env h) (fun fl h' => match fl with | .nx e => Wp (t e h') Q E | fl => Q fl h') E) : Wp (mSeq s t env h) Q E :=
  ⟨wp_seq (wpR_mono q.out (fun fl h' z => by cases fl <;> first | exact z.out | exact z) fun _ _ z => z)⟩
theorem Wp.seqE {s t : Env → M Fl} {env e : Env} {h h' : MH} {Q : Fl → MH → Prop} {E : Nat → MH → Prop} (q : s env h = .ok (.nx e) h') (z : Wp (t e h') Q E) : Wp (mSeq s t env h) Q E :=
  Wp.seq (by rw [q]; exact ⟨z⟩)
theorem Wp.seqP {s t : Env → M Fl} {env : Env} {h : MH} {P : Env → MH → Prop} {Q : Fl → MH → Prop} {E : Nat → MH → Prop} (q : Wp (s env h) (fun fl h' => ∃ e, fl = .nx e ∧ P e h') E) (z : ∀ e h', P e h' → Wp (t e h') Q E) : Wp (mSeq s t env h) Q E :=
  Wp.seq ⟨wpR_mono q.out (fun fl h' ⟨e, e1, e2⟩ => by subst e1; exact z e h' e2) fun _ _ z => z⟩
theorem Wp.fn {n : Nat} {s : Env → M Fl} {ds : List D} {h : MH} {env : Env} {Q : D → MH → Prop} {E : Nat → MH → Prop} (he : ds.map Slot.v ++ List.replicate (n - ds.length) Slot.no = env)
    (q : Wp (s env h) (fun fl h' => match fl with | .rt d => Q d h' | .nx _ => Q .non h' | _ => False) E) : Wp (mFn n s ds h) Q E := by
  subst he
  refine ⟨wpR_bind.mpr (wpR_mono q.out (fun fl h' e => ?_) fun _ _ e => e)⟩
  cases fl <;> exact e
theorem Wp.mono {α : Type} {r : R α} {Q Q' : α → MH → Prop} {E E' : Nat → MH → Prop} (q : Wp r Q E) (h : ∀ a m, Q a m → Q' a m) (he : ∀ c m, E c m → E' c m) : Wp r Q' E' := ⟨wpR_mono q.out h he⟩
theorem Wp.bind {α β : Type} {r : R α} {f : α → MH → R β} {Q : β → MH → Prop} {E : Nat → MH → Prop} (q : Wp r (fun a h => Wp (f a h) Q E) E) : Wp (r.bind f) Q E := ⟨wpR_bind.mpr (wpR_mono q.out (fun _ _ z => z.out) fun _ _ z => z)⟩
theorem Wp.bindv {α β : Type} {r : R α} {f : α → MH → R β} {v : α} {h : MH} {Q : β → MH → Prop} {E : Nat → MH → Prop} (q : Wp r (fun d h' => d = v ∧ h' = h) EF) (z : Wp (f v h) Q E) : Wp (r.bind f) Q E :=
  ⟨wp_bindv q.out z.out⟩
theorem Wp.ok {α : Type} {a : α} {h : MH} {Q : α → MH → Prop} {E : Nat → MH → Prop} (q : Q a h) : Wp (.ok a h) Q E := ⟨q⟩
theorem Wp.chk {α : Type} {p : α → MH → Bool} {e : Nat → MH → Bool} {r : R α} {Q : α → MH → Prop} {E : Nat → MH → Prop} (q : AG.chk p e r = true) (hp : ∀ a h, p a h = true → Q a h) (he : ∀ c h, e c h = true → E c h) : Wp r Q E := ⟨chk_wp hp he q⟩
@[simp] theorem ev_drop {i : Nat} {m : Env → M Fl} {env : Env} {h : MH} : mDropB i m env h = m (env.set i .no) h := id rfl
/-- over the stream alone, strictly -/
abbrev QS : Fl → MH → Prop := fun fl h => fl = .rt (.bl true) ∧ h = [.stream]
def chkS (k : Env → Bool) (r : R Fl) : Bool := chk (fun fl h => isS h && (match fl with | .nx e => k e | .rt d => d.isTrue | _ => false)) (fun _ _ => false) r
theorem Wp.seqS {s t : Env → M Fl} {env : Env} {h : MH} {k : Env → Bool} (q : chkS k (s env h) = true) (z : ∀ e, k e = true → Wp (t e [.stream]) QS EF) : Wp (mSeq s t env h) QS EF := by
  refine Wp.seq (Wp.chk q (fun fl h' p => ?_) (fun _ _ p => by cases p))
  rw [Bool.and_eq_true] at p
  rw [isS_eq p.1]
  cases fl with
  | nx e => exact z e p.2
  | rt d => exact ⟨by rw [D.isTrue_eq p.2], rfl⟩
  | bk e => exact absurd p.2 (by simp)
  | ct e => exact absurd p.2 (by simp)
theorem Wp.lastS {s : Env → M Fl} {env : Env} {h : MH} (q : chkS (fun _ => false) (s env h) = true) : Wp (s env h) QS EF := by
  refine Wp.chk q (fun fl h' p => ?_) (fun _ _ p => by cases p)
  rw [Bool.and_eq_true] at p
  rw [isS_eq p.1]
  cases fl with
  | nx e => exact absurd p.2 (by simp)
  | rt d => exact ⟨by rw [D.isTrue_eq p.2], rfl⟩
  | bk e => exact absurd p.2 (by simp)
  | ct e => exact absurd p.2 (by simp)
/-- what the live slots hold -/
def kSame (e0 e : Env) : Bool := decide (e.length = e0.length) && (List.range e0.length).all fun i => match e0[i]? with | some (.v d) => slotV e i d | _ => true
theorem kSame_len {e0 e : Env} (h : kSame e0 e = true) : e.length = e0.length := by
  unfold kSame at h
  rw [Bool.and_eq_true, decide_eq_true_eq] at h
  exact h.1
theorem kSame_at {e0 e : Env} (h : kSame e0 e = true) {i : Nat} {d : D} (hi : e0[i]? = some (.v d)) : e[i]? = some (.v d) := by
  unfold kSame at h
  rw [Bool.and_eq_true, List.all_eq_true] at h
  have := h.2 i (List.mem_range.mpr (List.getElem?_eq_some_iff.mp hi).1)
  rw [hi] at this
  exact slotV_eq this
/-- slots that are not read from here on are dropped -/
def dropL (l : List Nat) (e : Env) : Env := l.foldl (fun e i => e.set i .no) e
theorem dropL_at {l : List Nat} : ∀ {e : Env} {i : Nat}, (dropL l e)[i]? = if i ∈ l ∧ i < e.length then some .no else e[i]? := by
  induction l with
  | nil => intro e i; simp [dropL]
  | cons a l ih =>
    intro e i
    show (dropL l (e.set a .no))[i]? = _
    rw [ih, List.length_set]
    by_cases h1 : i ∈ l
    · by_cases h2 : i < e.length
      · simp [h1, h2]
      · simp [h1, h2, List.getElem?_set]
    · by_cases h2 : i = a
      · subst h2
        by_cases h3 : i < e.length
        · simp [h1, h3, List.getElem?_set]
        · simp [h1, h3, List.getElem?_set]
      · have : ¬ a = i := fun z => h2 z.symm
        simp [h1, h2, List.getElem?_set, this]
/-- all but the slots of e0 are dropped: e0 is left -/
theorem dropL_same {e0 e : Env} {l : List Nat} (h : kSame e0 e = true) (hl : ((List.range e0.length).all fun i => match e0[i]? with | some (.v _) => !l.contains i | some .no => l.contains i | _ => false) = true) : dropL l e = e0 := by
  refine List.ext_getElem? fun i => ?_
  rw [dropL_at]
  by_cases hi : i < e0.length
  · have hx := (List.all_eq_true.mp hl) i (List.mem_range.mpr hi)
    have hl := kSame_len h
    cases q : e0[i]? with
    | none => rw [List.getElem?_eq_none_iff] at q; omega
    | some s =>
      rw [q] at hx
      cases s with
      | no =>
        have hx : l.contains i = true := hx
        have : i ∈ l := by simpa using hx
        rw [if_pos ⟨this, by omega⟩]
      | v d =>
        have hx : (!l.contains i) = true := hx
        have : i ∉ l := by simpa using hx
        rw [if_neg (fun z => this z.1)]
        exact kSame_at h q
      | own _ => cases hx
  · have hl := kSame_len h
    rw [List.getElem?_eq_none (by omega)]
    rw [if_neg (fun z => by omega), List.getElem?_eq_none (by omega)]
end AG
namespace AG
open PySem L2
def mDropL (l : List Nat) (m : Env → M Fl) : Env → M Fl := fun env => m (dropL l env)
@[simp] theorem ev_dropL {l : List Nat} {m : Env → M Fl} {env : Env} {h : MH} : mDropL l m env h = m (dropL l env) h := id rfl
theorem mss_dropL {X : Cx} {ca : CA} {W : WX} {n : Nat} {st : List Stmt} : ∀ {m : Env → M Fl} (l : List Nat), MSs X ca W n st m → MSs X ca W n st (mDropL l m)
  | m, [], h => h
  | m, i :: l, h => mss_drop i (mss_dropL l h)
end AG
namespace AG
open PySem L2
theorem Wp.bind_iff {α β : Type} {r : R α} {f : α → MH → R β} {Q : β → MH → Prop} {E : Nat → MH → Prop} : Wp (r.bind f) Q E ↔ Wp r (fun a h => Wp (f a h) Q E) E :=
  ⟨fun q => ⟨wpR_mono (wpR_bind.mp q.out) (fun _ _ z => ⟨z⟩) fun _ _ z => z⟩, Wp.bind⟩
theorem Wp.ok_iff {α : Type} {a : α} {h : MH} {Q : α → MH → Prop} {E : Nat → MH → Prop} : Wp (.ok a h) Q E ↔ Q a h := ⟨fun q => q.out, fun q => ⟨q⟩⟩
end AG
namespace AG
open PySem L2
mutual
theorem D.beq_refl : ∀ d : D, D.beq d d = true
  | .non => rfl
  | .bl b => by simp [D.beq]
  | .int i => by simp [D.beq]
  | .str s => by simp [D.beq]
  | .tup xs => by rw [D.beq]; exact D.beqs_refl xs
  | .lst xs => by rw [D.beq]; exact D.beqs_refl xs
  | .ref n => by simp [D.beq]
  | .scr ns => by simp [D.beq]
theorem D.beqs_refl : ∀ ds : List D, D.beqs ds ds = true
  | [] => rfl
  | d :: ds => by rw [D.beqs, D.beq_refl d, D.beqs_refl ds]; rfl
end
theorem kSame_of {e0 e : Env} (hl : e.length = e0.length) (h : ∀ (i : Nat) (d : D), e0[i]? = some (.v d) → e[i]? = some (.v d)) : kSame e0 e = true := by
  unfold kSame
  rw [Bool.and_eq_true, decide_eq_true_eq, List.all_eq_true]
  refine ⟨hl, fun i hi => ?_⟩
  cases q : e0[i]? with
  | none => rfl
  | some s =>
    cases s with
    | v d =>
      show slotV e i d = true
      unfold slotV
      rw [h i d q]
      exact D.beq_refl d
    | no => rfl
    | own _ => rfl
end AG
/-! AgY2: fields and lists of objects that are written. -/
namespace AG
open PySem L2

theorem isN {X : Cx} {op : Operator} {r : R2} (h : OpR X (inplaceOp op) r) : InOp X op r := fun pins s σ H x y u v Q I rx ry q => h pins s σ H x y u v Q I rx ry q
section
variable {X : Cx} {ca : CA} {W : WX} {n c : Nat} {e o : Expr} {f : Str} {flds : List Str} {pos pos' tpos : Pos} {m mo me : Env → M D} {op : Operator} {r : R2} {g : DOp}
theorem ms_augFld (C : CK X.K ca c flds) (hi : OpR X (inplaceOp op) r) (hg : OpM X.K ca r g) (ho : ME X ca W o mo) (he : ME X ca W e me) (hf : f ∈ flds := by decide) : MS X ca W n (.AugAssign (.Attribute o f tpos) op e pos) (mAugFld g c f mo me) :=
  PS.mono (ps_fldaug ho he (isN hi)) fun D' σ H h => by
    obtain ⟨w0, w, mh, env, rfl, hw, s, hp⟩ := h
    refine stepS (rep := repV X.K) hw s hp fun w1 mh1 v1 d1 x1 hw1 s1 r1 hp1 => ?_
    cases r1 with
    | ref h2 =>
      rename_i a k
      obtain ⟨mo', e1, _, _, hob⟩ := hw1.at h2
      cases mo' with
      | inst c' fs =>
        obtain ⟨dx, us, hH, rr⟩ := hob
        by_cases q : c' = c
        · subst q
          cases ql : fs.lookup f with
          | none => simp only [M.bind, fldM, e1, ql, if_true, R.bind] at hp1; exact hp1.elim
          | some d =>
            simp only [M.bind, fldM, e1, ql, if_true, R.bind] at hp1
            obtain ⟨v, z1, z2⟩ := zip_lookup rr ql
            refine ⟨a, ca c', dx, _, v, rfl, hH, C.cls, C.no f hf, z1, ?_⟩
            refine stepS (rep := repV X.K) hw1 s1 hp1 fun w2 mh2 v2 d2 x2 hw2 s2 r2 hp2 => ?_
            refine hg W σ w2 mh2 v v2 d d2 _ hw2 (x2.rp z2) r2 (wpR_mono (wpR_bind.mp hp2) (fun z mh' q w' vz xz hw' rz => ?_) fun cl mh q w' xz hw' => q w' σ (s2.ext.trans xz) hw' s2.ln)
            have h3 : w'.ρ[k]? = some a := xz.at (x2.at h2)
            obtain ⟨mo3, e3, _, _, hob3⟩ := hw'.at h3
            cases mo3 with
            | inst c3 fs3 =>
              obtain ⟨dx3, us3, hH3, rr3⟩ := hob3
              by_cases q3 : c3 = c' ∧ fs3.length < 1000
              · simp only [M.bind, setFldM, e3, q3, and_self, if_true, R.bind, M.pure] at q
                obtain ⟨q3, l⟩ := q3
                subst q3
                obtain ⟨us', y1, y2⟩ := zip_put (f := f) rz rr3
                refine ⟨dx3, _, hH3, by rw [zip_len rr3]; exact l, ?_⟩
                rw [y1]
                have hm := List.mem_of_getElem? h3
                have x4 : Ext w' (w'.put a (.ins (ca c3) dx3 (((putD f z fs3).map (·.1)).zip us'))) := Ext.obj hm
                exact q _ σ ((s2.then xz).then x4) (x1.grow.trans (x2.grow.trans (xz.grow.trans x4.grow))) (hw'.obj' h3 ⟨dx3, us', upd_same, y2.mono put_grow⟩)
              · simp only [M.bind, setFldM, e3, q3, if_false, R.bind] at q; exact q.elim
            | _ => simp only [M.bind, setFldM, e3, R.bind] at q; exact q.elim
        · simp only [M.bind, fldM, e1, q, if_false, R.bind] at hp1; exact hp1.elim
      | _ => simp only [M.bind, fldM, e1, R.bind] at hp1; exact hp1.elim
    | _ => exact hp1.elim
end

/-! ### o[i] op= e, o an explicit list -/
def getIxM (d j : D) : M D := match d, j with
  | .ref n, .int k => fun h => match h[n]? with
    | some (.lst xs) => if 0 ≤ k ∧ k < 1000000 then (match xs[k.toNat]? with | some x => .ok x h | none => .bad) else .bad
    | _ => .bad
  | _, _ => M.bad
def mAugIx (op : DOp) (o i e : Env → M D) : Env → M Fl := fun env => M.bind (o env) fun d => M.bind (i env) fun j => M.bind (getIxM d j) fun x => M.bind (e env) fun y => M.bind (op x y) fun z => M.bind (setIxM z d j) fun _ => M.pure (.nx env)
def rGetN : V → V → Hp → VK → Prop := fun x y H Q => ∃ p xs i v, x = .ref p ∧ y = .int i ∧ H p = some (.lst xs) ∧ 0 ≤ i ∧ i < 1000000 ∧ xs[i.toNat]? = some v ∧ Q v H
theorem get_listN {X : Cx} : PGet X rGetN := by
  intro pins s σ H o i ov iv Q I ro ri h
  obtain ⟨p, xs, k, v, rfl, rfl, hp, h0, h1, hv, q⟩ := h
  cases ro
  obtain ⟨t, rfl⟩ := ri
  obtain ⟨its, r, pl, hz⟩ := I.list (show SqL X.K H p xs from .of hp)
  obtain ⟨w, ew, rw'⟩ := r.get hv
  exact PyProof.Rows.getItem_listL (l := its) (by simpa using pl.isList) h0 (by omega) ew ⟨v, H, I, rw', q⟩
section
variable {X : Cx} {ca : CA} {W : WX} {n : Nat} {o i e : Expr} {mo mi me : Env → M D} {pos tpos : Pos} {op : Operator} {r : R2} {g : DOp}
theorem ms_augIx (hi' : OpR X (inplaceOp op) r) (hg : OpM X.K ca r g) (ho : ME X ca W o mo) (hi : ME X ca W i mi) (he : ME X ca W e me)
    (ha : ∀ ov iv new, augStore i ov iv new = (do holding [new, ov, iv] (setItem ov iv new); release [new, ov, iv] []; pure .next) := by intros; rfl) : MS X ca W n (.AugAssign (.Subscript o i tpos) op e pos) (mAugIx g mo mi me) :=
  PS.mono (ps_augS ho hi get_listN he (show PIp X op r from hi') set_list ha) fun D' σ H h => by
    obtain ⟨w0, w, mh, env, rfl, hw, s, hp⟩ := h
    refine stepS (rep := repV X.K) hw s hp fun w1 mh1 v1 d1 x1 hw1 s1 r1 hp1 => ?_
    refine stepS (rep := repV X.K) hw1 s1 hp1 fun w2 mh2 v2 d2 x2 hw2 s2 r2 hp2 => ?_
    have r1 : Rp X.K w2 v1 d1 := x2.rp r1
    cases r1 with
    | ref h2 =>
      rename_i a m
      cases r2 with
      | int k =>
        obtain ⟨mo', e1, _, _, hob⟩ := hw2.at h2
        cases mo' with
        | lst xs =>
          obtain ⟨vs, hH, rr⟩ := hob
          by_cases q : 0 ≤ k ∧ k < 1000000
          · cases ql : xs[k.toNat]? with
            | none => simp only [M.bind, getIxM, e1, ql, q, and_self, if_true, R.bind] at hp2; exact hp2.elim
            | some x =>
              simp only [M.bind, getIxM, e1, ql, q, and_self, if_true, R.bind] at hp2
              obtain ⟨v, z1, z2⟩ := rr.get ql
              refine ⟨a, vs, k, v, rfl, rfl, hH, q.1, q.2, z1, ?_⟩
              refine stepS (rep := repV X.K) hw2 s2 hp2 fun w3 mh3 v3 d3 x3 hw3 s3 r3 hp3 => ?_
              refine hg W σ w3 mh3 v v3 x d3 _ hw3 (x3.rp z2) r3 (wpR_mono (wpR_bind.mp hp3) (fun z mh' q w' vz xz hw' rz => ?_) fun cl mh q w' xz hw' => q w' σ (s3.ext.trans xz) hw' s3.ln)
              have h3 : w'.ρ[m]? = some a := xz.at (x3.at h2)
              obtain ⟨mo3, e3, _, _, hob3⟩ := hw'.at h3
              cases mo3 with
              | lst xs3 =>
                obtain ⟨vs3, hH3, rr3⟩ := hob3
                cases q3 : ixN xs3.length k with
                | none => simp only [M.bind, setIxM, e3, q3, R.bind] at q; exact q.elim
                | some t =>
                  simp only [M.bind, setIxM, e3, q3, R.bind, M.pure] at q
                  refine ⟨a, vs3, k, t, rfl, rfl, hH3, by rw [rr3.length]; exact q3, ?_⟩
                  have hm := List.mem_of_getElem? h3
                  have x4 : Ext w' (w'.put a (.lst (vs3.set t vz))) := Ext.obj hm
                  exact q _ σ ((s3.then xz).then x4) (x1.grow.trans (x2.grow.trans (x3.grow.trans (xz.grow.trans x4.grow)))) (hw'.obj' h3 ⟨_, upd_same, (rr3.set rz t).mono put_grow⟩)
              | _ => simp only [M.bind, setIxM, e3, R.bind] at q; exact q.elim
          · simp only [M.bind, getIxM, e1, q, if_false, R.bind] at hp2; exact hp2.elim
        | _ => simp only [M.bind, getIxM, e1, R.bind] at hp2; exact hp2.elim
      | _ => exact hp2.elim
    | _ => first | exact hp2.elim | (cases r2 <;> exact hp2.elim)
end

/-! ### fresh lists -/
def addF (d e : D) : M (List D) := match d, e with
  | .lst xs, .lst ys => if xs.length + ys.length ≤ 16777216 then M.pure (xs ++ ys) else M.bad
  | _, _ => M.bad
def mAddF (ma mb : Env → M D) : Env → M (List D) := fun env => M.bind (ma env) fun x => M.bind (mb env) fun y => addF x y
/-- a fresh list, as an object that others see -/
def mNewL (m : Env → M (List D)) : Env → M D := fun env => M.bind (m env) fun xs h => .ok (.ref h.length) (h ++ [.lst xs])
/-- tuple(x), x an explicit list too -/
def fTupR : LOp := fun ds => match ds with
  | [.ref n] => fun h => match h[n]? with | some (.lst xs) => .ok (.tup xs) h | _ => .bad
  | ds => fTuple ds
section
variable {X : Cx} {ca : CA} {W : WX} {e o a b : Expr} {es : List Expr} {pos p : Pos} {ma mb : Env → M D} {m ms : Env → M (List D)}
theorem mf_add (ha : ME X ca W a ma) (hb : ME X ca W b mb) : MF X ca W (.BinOp a .Add b pos) (mAddF ma mb) :=
  PE.mono (pe_op op_cat ha hb) fun σ H Q h => by
    obtain ⟨w, mh, env, rfl, hw, hf, hp⟩ := h
    refine stepX (rep := repV X.K) hw hf hp (fun _ _ q => q) fun w1 mh1 v1 d1 x1 hw1 hf1 r1 hp1 => ?_
    refine stepX (rep := repV X.K) hw1 hf1 hp1 (fun cl mh q w' x' hw' => q w' (x1.trans x') hw') fun w2 mh2 v2 d2 x2 hw2 hf2 r2 hp2 => ?_
    have r1 : Rp X.K w2 v1 d1 := x2.rp r1
    cases r1 with
    | lst h1 q1 => cases r2 with
      | lst h2 q2 =>
        rename_i a xs ds b ys es
        by_cases q : ds.length + es.length ≤ 16777216
        · simp only [addF, q, if_true] at hp2
          exact ⟨a, b, xs, ys, rfl, rfl, hw2.subL _ _ h1, hw2.subL _ _ h2, by rw [q1.length, q2.length, sizeLine_lit]; exact q, PostF.new hp2 (x1.trans x2) hw2 (q1.append q2)⟩
        · simp only [addF, q, if_false] at hp2; exact hp2.elim
      | _ => exact hp2.elim
    | _ => first | exact hp2.elim | (cases r2 <;> exact hp2.elim)
theorem me_newL (h : MF X ca W e m) : ME X ca W e (mNewL m) :=
  PE.mono h fun σ H Q h => by
    obtain ⟨w, mh, env, rfl, hw, hf, hp⟩ := h
    refine ⟨w, mh, env, rfl, hw, hf, wpR_mono (wpR_bind.mp hp) (fun ds mh' q w' p x' hw' hn o => ?_) fun _ _ q => q⟩
    obtain ⟨vs, hH, r⟩ := o.at'
    have hx : Ext w ⟨w'.ρ ++ [p], w'.F, w'.L, w'.H⟩ := by
      obtain ⟨ν, e, f⟩ := x'.rho
      exact ⟨⟨ν ++ [p], by rw [e, List.append_assoc], fun b hb => (List.mem_append.mp hb).elim (f b) fun hb => by rw [List.mem_singleton.mp hb]; exact hn⟩, x'.fz, x'.lz, x'.kp, x'.nf, x'.nl, x'.th⟩
    have hg : Grow w' ⟨w'.ρ ++ [p], w'.F, w'.L, w'.H⟩ := ⟨⟨[p], rfl⟩, fun _ _ h => h, fun _ _ h => h⟩
    have hw2 : WOk X.K ca ⟨w'.ρ ++ [p], w'.F, w'.L, w'.H⟩ (mh' ++ [.lst ds]) := by
      refine ⟨hw'.sub, hw'.subL, by simp [hw'.len], ?_, fun k b mo' h1 h2 => ?_⟩
      · show (w'.ρ ++ [p]).Nodup
        rw [List.nodup_append]
        exact ⟨hw'.nd, by simp, fun a ha b hb => by rw [List.mem_singleton.mp hb]; exact fun e => o.nr (e ▸ ha)⟩
      · have h1 : (w'.ρ ++ [p])[k]? = some b := h1
        rcases Nat.lt_trichotomy k w'.ρ.length with l | l | l
        · rw [List.getElem?_append_left l] at h1
          rw [List.getElem?_append_left (by rw [← hw'.len]; exact l)] at h2
          obtain ⟨f, l', q⟩ := hw'.obj k b mo' h1 h2
          exact ⟨f, l', q.grow (fun u z => z) hg⟩
        · subst l
          rw [List.getElem?_append_right (Nat.le_refl _)] at h1
          rw [hw'.len, List.getElem?_append_right (Nat.le_refl _)] at h2
          simp at h1 h2
          subst h1 h2
          exact ⟨o.nF, o.nL, vs, hH, r.mono hg⟩
        · rw [List.getElem?_eq_none (by simp; omega)] at h1; cases h1
    have hat : (w'.ρ ++ [p])[mh'.length]? = some p := by
      rw [← hw'.len]
      simp
    exact q ⟨w'.ρ ++ [p], w'.F, w'.L, w'.H⟩ (.ref p) hx hw2 (.ref hat)
theorem cm_tupR {K : PySem.W.Frag} : CallM K ca (fun xs H Q => ∃ p ys, xs = [.ref p] ∧ ((SqL K H p ys ∧ ∀ l, H l = none → Q (.ref l) (upd H l (.tup ys))) ∨ (SqT K H p ys ∧ Q (.ref p) H))) fTupR := by
  intro W σ w mh xs ds Q hw r hp
  unfold fTupR at hp
  split at hp
  · rename_i n
    obtain ⟨x, rfl, q⟩ := r.one
    cases q with
    | ref h2 =>
      obtain ⟨mo', e1, _, _, hob⟩ := hw.at h2
      cases mo' with
      | lst zs =>
        obtain ⟨vs, hH, rr⟩ := hob
        simp only [e1] at hp
        exact ⟨_, vs, rfl, .inl ⟨.of hH, PostG.tup hp hw rr⟩⟩
      | _ => simp only [e1] at hp; exact hp.elim
  · exact cm_tuple W σ w mh xs ds Q hw r hp
theorem me_tupR (hm : X.mg "tuple" = none) (ha : MA X ca W (e :: es) ms) (hg : Gl X "tuple" := by rfl) (he : starEach (e :: es) X.env = (false, eval e X.env) :: starEach es X.env := by rfl) (hpl : (backTo pos (starEach es X.env)).any (·.1) = false := by rfl) : ME X ca W (.Call (.Name "tuple" p) (e :: es) [] pos) (mCall fTupR ms) :=
  me_callTy call_tuple_of cm_tupR hm (by decide +kernel) ha hg (by decide) (by decide) he hpl
end
end AG
/-! AgDc: dicts whose keys are tuples of any depth. -/
namespace AG
open PySem L2

/-! ### data as keys -/
section
variable {X : Cx} {pins : List (Addr × Obj)} {σ : St} {s : Shared} {w : Wd}
mutual
theorem nk_is (I : Inv X pins σ w.H s) (hs : Subs w) : ∀ (d : D) (v : V) (u : Value) (k : NestedKey), Rp X.K w v d → RelV v u → d.nk = some k → NestedIs s.heap k u
  | .non, _, u, k, r, ru, e => by
    cases r
    cases (show u = .none from ru)
    cases e; exact .none
  | .bl b, _, u, k, r, ru, e => by
    cases r
    cases (show u = .bool b from ru)
    cases e; exact .bool rfl
  | .int i, _, u, k, r, ru, e => by
    cases r
    obtain ⟨t, rfl⟩ := (show ∃ t, u = Value.int i t from ru)
    cases e; exact .int _ _
  | .str x, _, u, k, r, ru, e => by
    cases r
    obtain ⟨t, rfl⟩ := (show ∃ t, u = Value.str x t from ru)
    cases e; exact .text _ _
  | .tup xs, _, u, k, r, ru, e => by
    cases r with
    | @tup a vs ds h1 h2 =>
      cases (show u = Value.ref a from ru)
      obtain ⟨its, rv, ⟨o, ho, hc, n, hd⟩, _⟩ := I.tuple (sqT_sub hs.f h1)
      simp only [D.nk] at e
      split at e
      · rename_i ks q
        cases e
        exact .tup ho hc hd (by simpa using nks_is I hs xs vs its ks h2 rv q)
      · cases e
  | .lst _, _, _, _, _, _, e => by simp [D.nk] at e
  | .ref _, _, _, _, _, _, e => by simp [D.nk] at e
  | .scr _, _, _, _, _, _, e => by simp [D.nk] at e
theorem nks_is (I : Inv X pins σ w.H s) (hs : Subs w) : ∀ (ds : List D) (vs : List V) (us : List Value) (ks : List NestedKey), RpAll X.K w vs ds → Vals vs us → D.nks ds = some ks → NestedAll s.heap ks us
  | [], _, us, ks, r, ru, e => by
    cases r
    cases ru
    cases e
    exact .nil
  | d :: ds, _, us, ks, r, ru, e => by
    cases r with
    | cons h t =>
      cases ru with
      | cons hu tu =>
        simp only [D.nks] at e
        split at e
        · rename_i k ks' q1 q2
          cases e
          exact .cons (nk_is I hs d _ _ k h hu q1) (nks_is I hs ds _ _ ks' t tu q2)
        · cases e
end
end
/-- what is at a key -/
def dGet (kvs : List (D × D)) (k : NestedKey) : Option D := (kvs.find? fun p => decide (p.1.nk = some k)).map (·.2)
def dPut (kvs : List (D × D)) (d : D) (k : NestedKey) (v : D) : List (D × D) := if (kvs.any fun p => decide (p.1.nk = some k)) = true then kvs.map fun p => if p.1.nk = some k then (p.1, v) else p else kvs ++ [(d, v)]
/-- a key: a tuple, nested to depth 8 -/
def keyOk (d : D) : Option NestedKey := match d with | .tup _ => (match d.nk with | some k => if k.depth ≤ 8 then some k else none | none => none) | _ => none
theorem keyOk_of {d : D} {k : NestedKey} (h : keyOk d = some k) : d.nk = some k ∧ k.depth ≤ 8 ∧ ∃ xs, d = .tup xs := by
  unfold keyOk at h
  split at h
  · split at h
    · rename_i q
      split at h
      · rename_i l
        cases h
        exact ⟨q, l, _, rfl⟩
      · cases h
    · cases h
  · cases h
/-- what the library's rules take of a dict -/
def dK (X : Cx) (a : Addr) (xs : List (NestedKey × Addr × V)) (H : Hp) : Prop := H a = some (.ext (dctφ X.w a xs)) ∧ (a == sysModules) = false ∧ xs.length ≤ 16000000 ∧ (xs.map (·.1)).Nodup ∧
  ∀ x ∈ xs, x.1.depth ≤ 8 ∧ ∀ (pins : List (Addr × Obj)) (σ : St) (s : Shared), Inv X pins σ H s → NestedIs s.heap x.1 (.ref x.2.1)
def isK (X : Cx) (k : NestedKey) (b : Addr) (H : Hp) : Prop := k.depth ≤ 8 ∧ ∀ (pins : List (Addr × Obj)) (σ : St) (s : Shared), Inv X pins σ H s → NestedIs s.heap k (.ref b)
abbrev Ys : List (NestedKey × Addr × V) → List (NestedKey × Addr × Value) → Prop := Paired fun x y => x.1 = y.1 ∧ x.2.1 = y.2.1 ∧ RelV x.2.2 y.2.2
theorem ys_keys : ∀ {xs : List (NestedKey × Addr × V)} {ys : List (NestedKey × Addr × Value)}, Ys xs ys → ys.map (·.1) = xs.map (·.1)
  | _, _, .nil => rfl
  | _, _, .cons h t => by rw [List.map_cons, List.map_cons, h.1, ys_keys t]
theorem ys_len : ∀ {xs : List (NestedKey × Addr × V)} {ys : List (NestedKey × Addr × Value)}, Ys xs ys → xs.length = ys.length
  | _, _, .nil => rfl
  | _, _, .cons h t => by rw [List.length_cons, List.length_cons, ys_len t]
theorem dK_of {X : Cx} {a : Addr} {xs : List (NestedKey × Addr × V)} {H : Hp} (h : dK X a xs H) {pins : List (Addr × Obj)} {σ : St} {s : Shared} (I : Inv X pins σ H s) : ∃ ys, Ys xs ys ∧ s.heap.DictOfH (nestedKind X.prog X.w) a ys := by
  obtain ⟨e, _, _, nd, al⟩ := h
  obtain ⟨⟨ys, r, o, es, ep, h1, h2, h3, h4⟩, _, _⟩ := (show ObjOk X.prog X.w H s.heap a (.ext (dctφ X.w a xs)) from I.hok a _ e)
  refine ⟨ys, r, o, es, ep, h1, h2, h3, h4, ?_, by rw [ys_keys r]; exact nd⟩
  have : ∀ {xs : List (NestedKey × Addr × V)} {ys : List (NestedKey × Addr × Value)}, Ys xs ys → (∀ x ∈ xs, x.1.depth ≤ 8 ∧ NestedIs s.heap x.1 (.ref x.2.1)) → ∀ y ∈ ys, (nestedKind X.prog X.w).is s.heap y.1 y.2.1 := by
    intro xs ys r
    induction r with
    | nil => intro _ y hy; cases hy
    | cons h t ih =>
      intro q y hy
      rcases List.mem_cons.mp hy with e | hy
      · subst e
        have := q _ List.mem_cons_self
        rw [h.1, h.2.1] at this
        exact ⟨this.2, this.1⟩
      · exact ih (fun x hx => q x (List.mem_cons_of_mem _ hx)) y hy
  exact this r fun x hx => ⟨(al x hx).1, (al x hx).2 pins σ s I⟩
/-- the entry at a key -/
def xGet (xs : List (NestedKey × Addr × V)) (k : NestedKey) : Option V := (xs.find? fun x => decide (x.1 = k)).map fun x => x.2.2
theorem ys_get : ∀ {xs : List (NestedKey × Addr × V)} {ys : List (NestedKey × Addr × Value)} {k : NestedKey}, Ys xs ys → RelO (xGet xs k) ((atKey ys k).map (·.2))
  | _, _, _, .nil => True.intro
  | x :: xs, y :: ys, k, .cons h t => by
    by_cases e : x.1 = k
    · have e' : y.1 = k := h.1.symm.trans e
      simp [xGet, atKey, e, e']
      exact h.2.2
    · have e' : ¬ y.1 = k := fun z => e (h.1.trans z)
      have := ys_get (k := k) t
      simp only [xGet, atKey, List.find?_cons, e, e', decide_false] at this ⊢
      exact this
def xPut (xs : List (NestedKey × Addr × V)) (k : NestedKey) (b : Addr) (v : V) : List (NestedKey × Addr × V) := if (xs.any fun x => decide (x.1 = k)) = true then xs.map fun x => if x.1 = k then (x.1, x.2.1, v) else x else xs ++ [(k, b, v)]
theorem ys_any : ∀ {xs : List (NestedKey × Addr × V)} {ys : List (NestedKey × Addr × Value)} {k : NestedKey}, Ys xs ys → (xs.any fun x => decide (x.1 = k)) = (atKey ys k).isSome
  | _, _, _, .nil => rfl
  | x :: xs, y :: ys, k, .cons h t => by
    by_cases e : x.1 = k
    · have e' : y.1 = k := h.1.symm.trans e
      simp [atKey, e, e']
    · have e' : ¬ y.1 = k := fun z => e (h.1.trans z)
      have := ys_any (k := k) t
      simp only [List.any_cons, atKey, List.find?_cons, e, e', decide_false, Bool.false_or] at this ⊢
      exact this
theorem ys_put {k : NestedKey} {b : Addr} {v : V} {u : Value} (ru : RelV v u) {xs : List (NestedKey × Addr × V)} {ys : List (NestedKey × Addr × Value)} (r : Ys xs ys) : Ys (xPut xs k b v) (storedH ys k b u) := by
  unfold xPut storedH
  rw [ys_any r]
  by_cases q : (atKey ys k).isSome = true
  · rw [if_pos q, if_pos q]
    have : ∀ {xs : List (NestedKey × Addr × V)} {ys : List (NestedKey × Addr × Value)}, Ys xs ys → Ys (xs.map fun x => if x.1 = k then (x.1, x.2.1, v) else x) (ys.map (putAt k u)) := by
      intro xs ys r
      induction r with
      | nil => exact .nil
      | @cons x y xs ys h t ih =>
        rw [List.map_cons, List.map_cons]
        refine .cons ?_ ih
        unfold putAt
        by_cases e : x.1 = k
        · rw [if_pos e, if_pos (h.1.symm.trans e)]; exact ⟨h.1, h.2.1, ru⟩
        · rw [if_neg e, if_neg (fun z => e (h.1.trans z))]; exact h
    exact this r
  · rw [if_neg q, if_neg q]
    exact Paired.snoc r ⟨rfl, rfl, ru⟩
theorem xPut_keys {xs : List (NestedKey × Addr × V)} {k : NestedKey} {b : Addr} {v : V} (nd : (xs.map (·.1)).Nodup) : ((xPut xs k b v).map (·.1)).Nodup := by
  unfold xPut
  by_cases q : (xs.any fun x => decide (x.1 = k)) = true
  · rw [if_pos q]
    have : (xs.map fun x => if x.1 = k then (x.1, x.2.1, v) else x).map (·.1) = xs.map (·.1) := by
      rw [List.map_map]
      refine List.map_congr_left fun x _ => ?_
      show (if x.1 = k then (x.1, x.2.1, v) else x).1 = x.1
      split <;> rfl
    rw [this]; exact nd
  · rw [if_neg q, List.map_append, List.nodup_append]
    refine ⟨nd, by simp, fun a ha b' hb => ?_⟩
    simp at hb
    subst hb
    intro e
    subst e
    obtain ⟨x, hx, e⟩ := List.mem_map.mp ha
    exact q (List.any_eq_true.mpr ⟨x, hx, by simp [e]⟩)
theorem xPut_len {xs : List (NestedKey × Addr × V)} {k : NestedKey} {b : Addr} {v : V} : (xPut xs k b v).length ≤ xs.length + 1 := by
  unfold xPut
  split <;> simp

section
variable {X : Cx}
def rDin (X : Cx) (g : Bool → Bool) : R2 := fun x y H Q => ∃ b a k xs, x = .ref b ∧ y = .ref a ∧ dK X a xs H ∧ isK X k b H ∧ Q (.bl (g (xGet xs k).isSome)) H
theorem room8 {k : Nat} {A : Around} (r : Room k A) (P : Program) (w : World) : (nestedKind P w).room A.in1 := by
  have := r.un
  show A.in1.units + 8 < cLine
  simp only [Around.in1_units]
  omega
theorem relO_some {o : Option V} {u : Option Value} (h : RelO o u) : o.isSome = u.isSome := h.isSome_eq
theorem op_din {k0 : Nat} (hr : Room k0 X.A) : OpR X (compareOp .In) (rDin X id) := by
  intro pins s σ H x y v u Q I rx ry h
  obtain ⟨b, a, k, xs, rfl, rfl, hd, hk, q⟩ := h
  cases (show v = Value.ref b from rx)
  cases (show u = Value.ref a from ry)
  obtain ⟨ys, r, dd⟩ := dK_of hd I
  refine in_keyed (knd := nestedKind X.prog X.w) (room8 hr _ _) ⟨hk.2 _ _ _ I, hk.1⟩ hd.2.1 ⟨ys, dd, rfl⟩ ?_
  rw [valueAt_pairsH, ← relO_some (ys_get r)]
  exact ⟨.bl _, H, I.tok _, rfl, q⟩
theorem op_dnin {k0 : Nat} (hr : Room k0 X.A) : OpR X (compareOp .NotIn) (rDin X not) := by
  intro pins s σ H x y v u Q I rx ry h
  obtain ⟨b, a, k, xs, rfl, rfl, hd, hk, q⟩ := h
  cases (show v = Value.ref b from rx)
  cases (show u = Value.ref a from ry)
  obtain ⟨ys, r, dd⟩ := dK_of hd I
  refine notIn_keyed (knd := nestedKind X.prog X.w) (room8 hr _ _) ⟨hk.2 _ _ _ I, hk.1⟩ hd.2.1 ⟨ys, dd, rfl⟩ ?_
  rw [valueAt_pairsH, ← relO_some (ys_get r)]
  exact ⟨.bl _, H, I.tok _, rfl, q⟩
end

/-! ### by data -/
theorem dks_get {K : PySem.W.Frag} {w : Wd} {k : NestedKey} : ∀ {kvs : List (D × D)} {xs : List (NestedKey × Addr × V)}, DKs K w kvs xs → (dGet kvs k).isSome = (xGet xs k).isSome ∧ ∀ d, dGet kvs k = some d → ∃ v, xGet xs k = some v ∧ Rp K w v d
  | _, _, .nil => ⟨rfl, fun d h => by cases h⟩
  | kv :: kvs, x :: xs, .cons h t => by
    have ih := dks_get (k := k) t
    by_cases e : x.1 = k
    · have e' : kv.1.nk = some k := by rw [h.1, e]
      refine ⟨by simp [dGet, xGet, e, e'], fun d q => ?_⟩
      simp [dGet, e'] at q
      subst q
      exact ⟨x.2.2, by simp [xGet, e], h.2.2.2⟩
    · have e' : ¬ kv.1.nk = some k := fun z => e (by rw [h.1] at z; exact Option.some.inj z)
      simp only [dGet, xGet, List.find?_cons, e, e', decide_false] at ih ⊢
      exact ih
theorem dks_put {K : PySem.W.Frag} {w : Wd} {k : NestedKey} {d v : D} {b : Addr} {y : V} (hk : d.nk = some k) (h8 : k.depth ≤ 8) (hb : Rp K w (.ref b) d) (hv : Rp K w y v) {kvs : List (D × D)} {xs : List (NestedKey × Addr × V)} (r : DKs K w kvs xs) : DKs K w (dPut kvs d k v) (xPut xs k b y) := by
  have ha : ∀ {kvs : List (D × D)} {xs : List (NestedKey × Addr × V)}, DKs K w kvs xs → (kvs.any fun p => decide (p.1.nk = some k)) = xs.any fun x => decide (x.1 = k) := by
    intro kvs xs r
    induction r with
    | nil => rfl
    | @cons kv x kvs xs h t ih =>
      rw [List.any_cons, List.any_cons, ih, h.1]
      congr 1
      by_cases e : x.1 = k <;> simp [e]
  have hm : ∀ {kvs : List (D × D)} {xs : List (NestedKey × Addr × V)}, DKs K w kvs xs → DKs K w (kvs.map fun p => if p.1.nk = some k then (p.1, v) else p) (xs.map fun x => if x.1 = k then (x.1, x.2.1, y) else x) := by
    intro kvs xs r
    induction r with
    | nil => exact .nil
    | @cons kv x kvs xs h t ih =>
      rw [List.map_cons, List.map_cons]
      refine .cons ?_ ih
      by_cases e : x.1 = k
      · have e' : kv.1.nk = some k := by rw [h.1, e]
        rw [if_pos e, if_pos e']; exact ⟨h.1, h.2.1, h.2.2.1, hv⟩
      · have e' : ¬ kv.1.nk = some k := fun z => e (by rw [h.1] at z; exact Option.some.inj z)
        rw [if_neg e, if_neg e']; exact h
  unfold dPut xPut
  rw [ha r]
  split
  · exact hm r
  · exact Paired.snoc r ⟨hk, h8, hb, hv⟩
theorem dks_all {X : Cx} {w : Wd} (hs : Subs w) {kvs : List (D × D)} {xs : List (NestedKey × Addr × V)} (r : DKs X.K w kvs xs) : ∀ x ∈ xs, x.1.depth ≤ 8 ∧ ∀ (pins : List (Addr × Obj)) (σ : St) (s : Shared), Inv X pins σ w.H s → NestedIs s.heap x.1 (.ref x.2.1) := by
  induction r with
  | nil => intro x hx; cases hx
  | @cons kv x kvs xs h t ih =>
    intro y hy
    rcases List.mem_cons.mp hy with e | hy
    · subst e
      exact ⟨h.2.1, fun pins σ s I => nk_is I hs _ _ _ _ h.2.2.1 rfl h.1⟩
    · exact ih y hy
theorem key_isK {X : Cx} {w : Wd} (hs : Subs w) {d : D} {k : NestedKey} {b : Addr} (hk : d.nk = some k) (h8 : k.depth ≤ 8) (r : Rp X.K w (.ref b) d) : isK X k b w.H := ⟨h8, fun pins σ s I => nk_is I hs _ _ _ _ r rfl hk⟩
def opDin (g : Bool → Bool) : DOp := fun d e => match e with
  | .ref n => fun h => match h[n]?, keyOk d with
    | some (.dct kvs), some k => .ok (.bl (g (dGet kvs k).isSome)) h
    | _, _ => .bad
  | _ => M.bad
theorem opm_din {X : Cx} {ca : CA} (hW : ca.wd = X.w) {g : Bool → Bool} : OpM X.K ca (rDin X g) (opDin g) := by
  intro W σ w mh x y d e Q hw rx ry hp
  cases ry with
  | ref h2 =>
    rename_i a n
    obtain ⟨mo, e1, _, _, ho⟩ := hw.at h2
    cases mo with
    | dct kvs =>
      cases q : keyOk d with
      | none => simp only [opDin, e1, q] at hp; exact hp.elim
      | some k =>
        simp only [opDin, e1, q] at hp
        obtain ⟨k1, k2, ys, rfl⟩ := keyOk_of q
        obtain ⟨xs, hH, hS, hl, r, nd⟩ := ho
        have rx' := rx
        cases rx with
        | tup h1 r1 =>
          rename_i b vs
          have gs := (dks_get (k := k) r).1
          rw [gs] at hp
          refine ⟨b, a, k, xs, rfl, rfl, ⟨by rw [← hW]; exact hH, hS, hl, nd, dks_all hw.subs r⟩, key_isK hw.subs k1 k2 rx', PostG.ret hp hw (.bl _)⟩
    | _ => simp only [opDin, e1] at hp; exact hp.elim
  | _ => exact hp.elim
section
variable {X : Cx} {ca : CA} {W : WX} {a b : Expr} {ma mb : Env → M D} {pos : Pos}
theorem me_din {k : Nat} (hr : Room k X.A) (hW : ca.wd = X.w) (ha : ME X ca W a ma) (hb : ME X ca W b mb) (hm : behindInMarks .In b = false := by rfl) : ME X ca W (.Compare a [.In] [b] pos) (mBin (opDin id) ma mb) := me_cmp (op_din hr) (opm_din hW) ha hb hm
theorem me_dnin {k : Nat} (hr : Room k X.A) (hW : ca.wd = X.w) (ha : ME X ca W a ma) (hb : ME X ca W b mb) (hm : behindInMarks .NotIn b = false := by rfl) : ME X ca W (.Compare a [.NotIn] [b] pos) (mBin (opDin not) ma mb) := me_cmp (op_dnin hr) (opm_din hW) ha hb hm
end
/-! ### d[k], d[k] = v, {} -/
def rDix (X : Cx) : R2 := fun x y H Q => ∃ a b k xs v, x = .ref a ∧ y = .ref b ∧ dK X a xs H ∧ isK X k b H ∧ xGet xs k = some v ∧ Q v H
theorem pe_dixX {X : Cx} {o i : Expr} {pos : Pos} {td ty : TE} {k0 : Nat} (hr : Room k0 X.A) (ho : PE X o td) (hi : PE X i ty) (hs : NoSl i) : PE X (.Subscript o i pos) (tOp (rDix X) td ty) := by
  refine ⟨fun pins s σ H Q I h => ?_⟩
  refine subD_of PySem.F.slot_dict_getitem.lookup hs (thn (ho.run pins s σ H _ I h) fun u s1 ⟨x, H1, I1, rx, q1⟩ => thn (hi.run pins s1 σ H1 _ I1 q1) fun iv s2 ⟨y, H2, I2, ry, a, b, k, xs, v, ex, ey, hd, hk, g, q2⟩ => ?_)
  subst ex ey
  cases (show u = Value.ref a from rx)
  cases (show iv = Value.ref b from ry)
  obtain ⟨ys, r, dd⟩ := dK_of hd I2
  have rg := ys_get (k := k) r
  rw [g] at rg
  cases q : atKey ys k with
  | none => rw [q] at rg; exact (show False from rg).elim
  | some p =>
    rw [q] at rg
    exact ⟨dd.typeIs, wpAny_getItem_heap (knd := nestedKind X.prog X.w) (room8 hr _ _) ⟨hk.2 _ _ _ I2, hk.1⟩ dd q ⟨v, H2, I2.tok _, rg, q2⟩⟩
def rSetX (X : Cx) : V → V → V → Hp → (Hp → Prop) → Prop := fun o i v H Q => ∃ a b k xs, o = .ref a ∧ i = .ref b ∧ dK X a xs H ∧ isK X k b H ∧ Q (upd H a (.ext (dctφ X.w a (xPut xs k b v))))
theorem dct_ok {X : Cx} {a : Addr} {H' : Hp} {h' : Heap} {xs : List (NestedKey × Addr × V)} {ys : List (NestedKey × Addr × Value)} (r : Ys xs ys) (dd : h'.DictOfH (nestedKind X.prog X.w) a ys) : ObjOk X.prog X.w H' h' a (.ext (dctφ X.w a xs)) := by
  obtain ⟨o, es, ep, h1, h2, h3, h4, _⟩ := dd
  exact ⟨⟨ys, r, o, es, ep, h1, h2, h3, h4⟩, ⟨o, h1⟩, fun g1 g2 ⟨zs, rz, o', es', ep', k1, k2⟩ hk => ⟨zs, rz, o', es', ep', hk _ k1, k2⟩⟩
theorem set_X {X : Cx} {k0 : Nat} (hr : Room k0 X.A) : PSet X (rSetX X) := by
  intro pins s σ H o i v ov iv u Q I ro ri rv h
  obtain ⟨a, b, k, xs, rfl, rfl, hd, hk, q⟩ := h
  cases (show ov = Value.ref a from ro)
  cases (show iv = Value.ref b from ri)
  obtain ⟨ys, r, dd⟩ := dK_of hd I
  refine wpAny_setItem_heap (knd := nestedKind X.prog X.w) (hsz := by rw [← ys_len r, sizeLine_eq]; have := hd.2.2.1; omega) (room8 hr _ _) ⟨hk.2 _ _ _ I, hk.1⟩ dd fun h' dd' hs => ⟨_, ?_, q⟩
  have he : ∃ q, h'.get? a = some q := let ⟨q, _, _, hq, _⟩ := dd'; ⟨q, hq⟩
  exact d_write I (by rw [hd.1]; exact True.intro) hs he (dct_ok (ys_put rv r) dd')
def tDNewX (X : Cx) : TE := fun _ H Q => ∀ p, H p = none → (p == sysModules) = false → Q (.ref p) (upd H p (.ext (dctφ X.w p [])))
theorem pe_dnewX {X : Cx} {pos : Pos} : PE X (.Dict [] [] pos) (tDNewX X) := ⟨fun pins s σ H Q I h =>
  have hb : sysModules < s.heap.objs.size := I.big
  wpAny_Dict_empty ⟨.ref s.heap.objs.size, _, I.laid (a := s.heap.objs.size) (o := .ext (dctφ X.w s.heap.objs.size [])) (t' := s.toks) (fun _ _ q => Heap.get?_push_of_some _ q) (Nat.le_refl _) (dct_ok .nil (Heap.DictOfH.new s.heap)), rfl,
    h _ (I.hok.fresh (Nat.le_refl _)) (beq_eq_false_iff_ne.mpr (Ne.symm (Nat.ne_of_lt hb)))⟩⟩
def opDix : DOp := fun d e => match d with
  | .ref n => fun h => match h[n]?, keyOk e with
    | some (.dct kvs), some k => (match dGet kvs k with | some v => .ok v h | none => .bad)
    | _, _ => .bad
  | _ => M.bad
def setDxM (v d j : D) : M Unit := match d with
  | .ref n => fun h => match h[n]?, keyOk j with
    | some (.dct kvs), some k => if kvs.length < 16000000 then .ok () (h.set n (.dct (dPut kvs j k v))) else .bad
    | _, _ => .bad
  | _ => M.bad
def mSetDx (o i e : Env → M D) : Env → M Fl := fun env => M.bind (e env) fun v => M.bind (o env) fun d => M.bind (i env) fun j => M.bind (setDxM v d j) fun _ => M.pure (.nx env)
def mNewD : Env → M D := fun _ h => .ok (.ref h.length) (h ++ [.dct []])
theorem dks_len {K : PySem.W.Frag} {w : Wd} : ∀ {kvs : List (D × D)} {xs : List (NestedKey × Addr × V)}, DKs K w kvs xs → kvs.length = xs.length
  | _, _, .nil => rfl
  | _, _, .cons _ t => by rw [List.length_cons, List.length_cons, dks_len t]
section
variable {X : Cx} {ca : CA} {W : WX} {n : Nat} {o i e : Expr} {mo mi me : Env → M D} {pos pos' : Pos}
theorem opm_dix (hW : ca.wd = X.w) : OpM X.K ca (rDix X) opDix := by
  intro W σ w mh x y d e Q hw rx ry hp
  cases rx with
  | ref h2 =>
    rename_i a n
    obtain ⟨mo, e1, _, _, ho⟩ := hw.at h2
    cases mo with
    | dct kvs =>
      cases q : keyOk e with
      | none => simp only [opDix, e1, q] at hp; exact hp.elim
      | some k =>
        cases g : dGet kvs k with
        | none => simp only [opDix, e1, q, g] at hp; exact hp.elim
        | some v =>
          simp only [opDix, e1, q, g] at hp
          obtain ⟨k1, k2, ys, rfl⟩ := keyOk_of q
          obtain ⟨xs, hH, hS, hl, r, nd⟩ := ho
          obtain ⟨vv, g2, rv⟩ := (dks_get (k := k) r).2 v g
          have ry' := ry
          cases ry with
          | tup h1 r1 =>
            rename_i b vs
            exact ⟨a, b, k, xs, vv, rfl, rfl, ⟨by rw [← hW]; exact hH, hS, hl, nd, dks_all hw.subs r⟩, key_isK hw.subs k1 k2 ry', g2, PostG.ret hp hw rv⟩
    | _ => simp only [opDix, e1] at hp; exact hp.elim
  | _ => exact hp.elim
theorem me_dix {k : Nat} (hr : Room k X.A) (hW : ca.wd = X.w) (ha : ME X ca W o mo) (hb : ME X ca W i mi) (hs : NoSl i) : ME X ca W (.Subscript o i pos) (mBin opDix mo mi) :=
  PE.mono (pe_dixX hr ha hb hs) fun _ _ _ h => tOp_of (opm_dix hW) h
theorem me_newD (hW : ca.wd = X.w) : ME X ca W (.Dict [] [] pos) mNewD := PE.mono pe_dnewX fun σ H Q h => by
  obtain ⟨w, mh, env, rfl, hw, hf, hp⟩ := h
  intro p hp0 hs0
  have x1 := Ext.new (o := .ext (dctφ X.w p [])) hp0
  have hw1 : WOk X.K ca (w.new p (.ext (dctφ X.w p []))) (mh ++ [.dct []]) := hw.new hp0 ⟨[], by rw [hW]; exact upd_same, hs0, Nat.zero_le _, .nil, List.nodup_nil⟩
  have hat : (w.ρ ++ [p])[mh.length]? = some p := by
    rw [← hw.len]
    simp
  exact hp (w.new p (.ext (dctφ X.w p []))) (.ref p) x1 hw1 (.ref hat)
theorem ms_setDx {k0 : Nat} (hr : Room k0 X.A) (hW : ca.wd = X.w) (he : ME X ca W e me) (ho : ME X ca W o mo) (hi : ME X ca W i mi)
    (ha : ∀ v, assign (.Subscript o i pos') X.env v = (do
      let ov ← holding [v] (eval o X.env)
      let iv ← holding [v, ov] (eval i X.env)
      standAt pos'
      holding [v, ov, iv] (setItem ov iv v)
      release [v, ov, iv] []) := by intro _; rfl)
    (hs : swapsWithSole [.Subscript o i pos'] e pos.line X.env = pure false := by rfl) (hw : swappedStores [.Subscript o i pos'] e X.env = pure none := by rfl) (h1 : (assignEach [.Subscript o i pos'] X.env).map (·.2) = [assign (.Subscript o i pos') X.env] := by rfl) :
    MS X ca W n (.Assign [.Subscript o i pos'] e pos) (mSetDx mo mi me) := PS.mono (ps_asg he (pg_sub ho hi (set_X hr) ha) hs hw h1) fun D' σ H h => by
  obtain ⟨w0, w, mh, env, rfl, hw, s, hp⟩ := h
  refine stepS (rep := repV X.K) hw s hp fun w1 mh1 v1 d1 x1 hw1 s1 r1 hp1 => ?_
  refine stepS (rep := repV X.K) hw1 s1 hp1 fun w2 mh2 v2 d2 x2 hw2 s2 r2 hp2 => ?_
  refine stepS (rep := repV X.K) hw2 s2 hp2 fun w3 mh3 v3 d3 x3 hw3 s3 r3 hp3 => ?_
  have r1 : Rp X.K w3 v1 d1 := x3.rp (x2.rp r1)
  have r2 : Rp X.K w3 v2 d2 := x3.rp r2
  cases r2 with
  | ref h2 =>
    rename_i a m
    obtain ⟨mo', e1, _, _, hob⟩ := hw3.at h2
    cases mo' with
    | dct kvs =>
      cases q : keyOk d3 with
      | none => simp only [M.bind, setDxM, e1, q, R.bind] at hp3; exact hp3.elim
      | some k =>
        by_cases lz : kvs.length < 16000000
        · simp only [M.bind, setDxM, e1, q, lz, if_true, R.bind, M.pure] at hp3
          obtain ⟨k1, k2, ys, rfl⟩ := keyOk_of q
          obtain ⟨xs, hH, hS, hl, r, nd⟩ := hob
          have r3' : Rp X.K w3 v3 (.tup ys) := r3
          have r3 : Rp X.K w3 v3 (.tup ys) := r3
          cases r3 with
          | tup h1 rr =>
            rename_i b vs
            refine ⟨a, b, k, xs, rfl, rfl, ⟨by rw [← hW]; exact hH, hS, hl, nd, dks_all hw3.subs r⟩, key_isK hw3.subs k1 k2 r3', ?_⟩
            have hm := List.mem_of_getElem? h2
            have x4 : Ext w3 (w3.put a (.ext (dctφ X.w a (xPut xs k b v1)))) := Ext.obj hm
            have hl2 : (xPut xs k b v1).length ≤ 16000000 := by
              have := xPut_len (xs := xs) (k := k) (b := b) (v := v1)
              have := dks_len r
              omega
            have dd := dks_put k1 k2 r3' r1 r
            exact hp3 _ σ (s3.then x4) (x1.grow.trans (x2.grow.trans (x3.grow.trans x4.grow))) (hw3.obj' h2 ⟨xPut xs k b v1, by rw [hW]; exact upd_same, hS, hl2, Paired.mapP dd fun _ _ z => ⟨z.1, z.2.1, z.2.2.1.mono put_grow, z.2.2.2.mono put_grow⟩, xPut_keys nd⟩)
        · simp only [M.bind, setDxM, e1, q, lz, if_false, R.bind] at hp3; exact hp3.elim
    | _ => simp only [M.bind, setDxM, e1, R.bind] at hp3; exact hp3.elim
  | _ => exact hp3.elim
end
section
variable {X : Cx} {ca : CA} {W : WX} {a b : Expr} {ma mb : Env → M D} {pos : Pos}
theorem mt_din {k : Nat} (hr : Room k X.A) (hW : ca.wd = X.w) (ha : ME X ca W a ma) (hb : ME X ca W b mb) (hm : behindInMarks .In b = false := by rfl) : MT X ca W (.Compare a [.In] [b] pos) (mTest (mBin (opDin id) ma mb)) := mt_cmp (op_din hr) (opm_din hW) ha hb hm
theorem mt_dnin {k : Nat} (hr : Room k X.A) (hW : ca.wd = X.w) (ha : ME X ca W a ma) (hb : ME X ca W b mb) (hm : behindInMarks .NotIn b = false := by rfl) : MT X ca W (.Compare a [.NotIn] [b] pos) (mTest (mBin (opDin not) ma mb)) := mt_cmp (op_dnin hr) (opm_din hW) ha hb hm
end
end AG
namespace AG
open PySem L2
theorem Wp.seqST {s t : Env → M Fl} {env : Env} {h : MH} {k : Env → Bool} (q : chkS k (s env h) = true) (z : ∀ e, k e = true → Wp (t e [.stream]) QT EF) : Wp (mSeq s t env h) QT EF := by
  refine Wp.seq (Wp.chk q (fun fl h' p => ?_) (fun _ _ p => by cases p))
  rw [Bool.and_eq_true] at p
  rw [isS_eq p.1]
  cases fl with
  | nx e => exact z e p.2
  | rt d =>
    show Fl.rt d = .rt (.bl true)
    rw [D.isTrue_eq p.2]
  | bk e => exact absurd p.2 (by simp)
  | ct e => exact absurd p.2 (by simp)
def retT (r : R Fl) : Bool := chk (fun fl _ => match fl with | .rt d => d.isTrue | _ => false) (fun _ _ => false) r
theorem retT_wp {r : R Fl} (h : retT r = true) : Wp r QT EF := Wp.chk h (fun fl m p => by
  cases fl with
  | rt d =>
    have p : d.isTrue = true := p
    show Fl.rt d = .rt (.bl true)
    rw [D.isTrue_eq p]
  | nx e => cases p
  | bk e => cases p
  | ct e => cases p) fun _ _ p => by cases p
/-- the law's run from its body -/
theorem law_of {m : Env → M Fl} {n : Nat} {ns : List Int} {env : Env} (he : [D.scr ns].map Slot.v ++ List.replicate (n - 1) Slot.no = env) (h : Wp (m env []) QT EF) : wpR (mFn n m [.scr ns] []) (fun d _ => d = .bl true) (fun _ _ => False) :=
  (Wp.fn (n := n) (s := m) (ds := [.scr ns]) (h := []) (env := env) (Q := fun d _ => d = .bl true) (E := EF) he (Wp.mono h (fun fl h' e => by have e : fl = .rt (.bl true) := e; subst e; exact rfl) fun _ _ e => e)).out
end AG
namespace AG
open PySem L2
/-! max, min of three ints -/
def max2 (i j : Int) : Int := if i < j then j else i
def min2 (i j : Int) : Int := if j < i then j else i
def fMax3 : LOp := fun ds => match ds with
  | [.int i, .int j, .int k] => M.pure (.int (max2 (max2 i j) k))
  | _ => M.bad
def fMin3 : LOp := fun ds => match ds with
  | [.int i, .int j, .int k] => M.pure (.int (min2 (min2 i j) k))
  | _ => M.bad
theorem nuMax2_int (i j : Int) : nuMax2 (.int i) (.int j) = some (.int (max2 i j)) := by
  have : nuLt (.int i) (.int j) = some (decide (i < j)) := rfl
  unfold nuMax2
  rw [this]
  by_cases h : i < j <;> simp [max2, h]
theorem nuMin2_int (i j : Int) : nuMin2 (.int i) (.int j) = some (.int (min2 i j)) := by
  have : nuLt (.int j) (.int i) = some (decide (j < i)) := rfl
  unfold nuMin2
  rw [this]
  by_cases h : j < i <;> simp [min2, h]
section
variable {K : PySem.W.Frag} {ca : CA}
theorem cm_max3 : CallM K ca (rNuC3 nuMax3) fMax3 := by
  intro W σ w mh xs ds Q hw r hp
  unfold fMax3 at hp
  split at hp
  · rename_i i j k
    cases r with
    | cons h1 r => cases r with
      | cons h2 r => cases r with
        | cons h3 r =>
          cases r
          cases h1; cases h2; cases h3
          refine ⟨_, _, _, _, rfl, ?_, PostG.ret hp hw (.int _)⟩
          unfold nuMax3
          rw [nuMax2_int]
          exact nuMax2_int _ _
  · exact hp.elim
theorem cm_min3 : CallM K ca (rNuC3 nuMin3) fMin3 := by
  intro W σ w mh xs ds Q hw r hp
  unfold fMin3 at hp
  split at hp
  · rename_i i j k
    cases r with
    | cons h1 r => cases r with
      | cons h2 r => cases r with
        | cons h3 r =>
          cases r
          cases h1; cases h2; cases h3
          refine ⟨_, _, _, _, rfl, ?_, PostG.ret hp hw (.int _)⟩
          unfold nuMin3
          rw [nuMin2_int]
          exact nuMin2_int _ _
  · exact hp.elim
end
section
variable {X : Cx} {ca : CA} {W : WX} {e : Expr} {es : List Expr} {ms : Env → M (List D)} {p pos : Pos}
theorem me_max3 (hc : X.calm = true) (hm : X.mg "max" = none) (ha : MA X ca W (e :: es) ms) (hg : Gl X "max" := by rfl) (he : starEach (e :: es) X.env = (false, eval e X.env) :: starEach es X.env := by rfl) (hpl : (backTo pos (starEach es X.env)).any (·.1) = false := by rfl) : ME X ca W (.Call (.Name "max" p) (e :: es) [] pos) (mCall fMax3 ms) :=
  me_callB (call_max3Nu hc) cm_max3 hm (by decide +kernel) ha hg (by decide) (by decide) he hpl
theorem me_min3 (hc : X.calm = true) (hm : X.mg "min" = none) (ha : MA X ca W (e :: es) ms) (hg : Gl X "min" := by rfl) (he : starEach (e :: es) X.env = (false, eval e X.env) :: starEach es X.env := by rfl) (hpl : (backTo pos (starEach es X.env)).any (·.1) = false := by rfl) : ME X ca W (.Call (.Name "min" p) (e :: es) [] pos) (mCall fMin3 ms) :=
  me_callB (call_min3Nu hc) cm_min3 hm (by decide +kernel) ha hg (by decide) (by decide) he hpl
end
end AG
/-! OrdA: sums and products of ordinals, in plain Lean. -/
namespace AG
namespace O
theorem tri (p q : O) : lt p q = true ∨ p = q ∨ lt q p = true := lt_total p q
theorem lt_nn {p : O} (h : lt p p = true) : False := by rw [lt_irrefl] at h; cases h
theorem lt_c {p q r s : O} {n m : Int} : lt (c p n r) (c q m s) = if p = q then (if n = m then lt r s else decide (n < m)) else lt p q := by rw [lt]
theorem lt_c_pq {p q r s : O} {n m : Int} (h : lt p q = true) : lt (c p n r) (c q m s) = true := by
  rw [lt_c, if_neg (lt_ne h)]; exact h
theorem lt_z_c {p r : O} {n : Int} : lt z (c p n r) = true := by rw [lt]
theorem lt_x_z (a : O) : lt a z = false := by cases a <;> rw [lt]
theorem z_lt {a : O} (h : a ≠ z) : lt z a = true := by
  cases a with
  | z => exact absurd rfl h
  | c p n r => exact lt_z_c
theorem lt_le {a b : O} (h : lt a b = true) : lt b a = false := lt_asymm h
theorem le_lt {a b d : O} (h : lt b a = false) (k : lt b d = true) : lt a d = true := by
  rcases not_lt h with e | e
  · rw [← e]; exact k
  · exact lt_trans e k
theorem lt_lelt {a b d : O} (h : lt a b = true) (k : lt d b = false) : lt a d = true := by
  rcases not_lt k with e | e
  · rw [e]; exact h
  · exact lt_trans h e
theorem le_le {a b d : O} (h : lt b a = false) (k : lt d b = false) : lt d a = false := by
  cases q : lt d a with
  | false => rfl
  | true => rw [lt_lelt q h] at k; cases k
theorem le_anti {a b : O} (h : lt b a = false) (k : lt a b = false) : a = b := by
  rcases not_lt h with e | e
  · exact e.symm
  · rw [e] at k; cases k

/-! ### sums -/
def plus : O → O → O
  | z, b => b
  | c p n r, z => c p n r
  | c p n r, c q m s => if lt p q = true then c q m s else if p = q then c p (n + m) s else c p n (plus r (c q m s))
@[simp] theorem plus_zl {b : O} : plus z b = b := by rw [plus]
@[simp] theorem plus_zr : ∀ {a : O}, plus a z = a
  | z => by rw [plus]
  | c p n r => by rw [plus]
theorem plus_lt {p q r s : O} {n m : Int} (h : lt p q = true) : plus (c p n r) (c q m s) = c q m s := by rw [plus, if_pos h]
theorem plus_eq {p r s : O} {n m : Int} : plus (c p n r) (c p m s) = c p (n + m) s := by
  rw [plus, if_neg (by rw [lt_irrefl]; decide), if_pos rfl]
theorem plus_gt {p q r s : O} {n m : Int} (h : lt q p = true) : plus (c p n r) (c q m s) = c p n (plus r (c q m s)) := by
  rw [plus, if_neg (by rw [lt_asymm h]; decide), if_neg (fun e => lt_nn (by rw [e] at h; exact h))]
theorem plus_ne_z {a q s : O} {m : Int} : plus a (c q m s) ≠ z := by
  cases a with
  | z => simp
  | c p n r =>
    rcases tri p q with h | h | h
    · rw [plus_lt h]; simp
    · subst h; rw [plus_eq]; simp
    · rw [plus_gt h]; simp
theorem plus_eq_z {a b : O} (h : plus a b = z) : a = z ∧ b = z := by
  cases b with
  | z => rw [plus_zr] at h; exact ⟨h, rfl⟩
  | c q m s => exact absurd h plus_ne_z
/-- what is below the first place of the right side goes away -/
theorem plus_gone {x : O} : ∀ {a q s : O} {m : Int}, (∀ p n r, a = c p n r → lt p q = true) → plus a (c q m s) = c q m s
  | z, q, s, m, _ => plus_zl
  | c p n r, q, s, m, h => plus_lt (h p n r rfl)
theorem plus_assoc : ∀ (a b d : O), plus (plus a b) d = plus a (plus b d)
  | z, b, d => by simp
  | c p n r, z, d => by simp
  | c p n r, c q m s, z => by simp
  | c p n r, c q m s, c u k v => by
    rcases tri p q with h | h | h
    · rw [plus_lt h]
      rcases tri q u with g | g | g
      · rw [plus_lt g, plus_lt (lt_trans h g)]
      · subst g; rw [plus_eq, plus_lt h]
      · rw [plus_gt g, plus_lt h]
    · subst h
      rw [plus_eq]
      rcases tri p u with g | g | g
      · rw [plus_lt g, plus_lt g, plus_lt g]
      · subst g; rw [plus_eq, plus_eq, plus_eq, Int.add_assoc]
      · rw [plus_gt g, plus_gt g, plus_eq]
    · rw [plus_gt h]
      rcases tri p u with g | g | g
      · rw [plus_lt g]
        rw [plus_lt (lt_trans h g), plus_lt g]
      · subst g
        rw [plus_eq, plus_lt h, plus_eq]
      · rw [plus_gt g]
        have ih := plus_assoc r (c q m s) (c u k v)
        rw [ih]
        rcases tri q u with f | f | f
        · rw [plus_lt f, plus_gt g]
        · subst f; rw [plus_eq, plus_gt h]
        · rw [plus_gt f, plus_gt h]
theorem under_plus {t : O} : ∀ {a b : O}, under t a → under t b → under t (plus a b)
  | z, b, _, hb => by rw [plus_zl]; exact hb
  | c p n r, z, ha, _ => by rw [plus_zr]; exact ha
  | c p n r, c q m s, ha, hb => by
    rcases tri p q with h | h | h
    · rw [plus_lt h]; exact hb
    · subst h; rw [plus_eq]; exact ha
    · rw [plus_gt h]; exact ha
theorem nf_plus : ∀ {a b : O}, nf a → nf b → nf (plus a b)
  | z, b, _, hb => by rw [plus_zl]; exact hb
  | c p n r, z, ha, _ => by rw [plus_zr]; exact ha
  | c p n r, c q m s, ha, hb => by
    obtain ⟨h1, h2, h3, h4⟩ := ha
    obtain ⟨g1, g2, g3, g4⟩ := hb
    rcases tri p q with h | h | h
    · rw [plus_lt h]; exact ⟨g1, g2, g3, g4⟩
    · subst h; rw [plus_eq]; exact ⟨h1, by omega, g3, g4⟩
    · rw [plus_gt h]
      exact ⟨h1, h2, under_plus h3 (show lt q p = true from h), nf_plus h4 ⟨g1, g2, g3, g4⟩⟩
/-- sums rise with the right side -/
theorem plus_lt_r : ∀ {a b d : O}, nf a → nf b → nf d → lt b d = true → lt (plus a b) (plus a d) = true
  | z, b, d, _, _, _, h => by simpa using h
  | c p n r, b, z, _, _, _, h => by rw [lt_x_z] at h; cases h
  | c p n r, z, c u k v, ha, _, hd, h => by
    rw [plus_zr]
    rcases tri p u with g | g | g
    · rw [plus_lt g]; exact lt_c_pq g
    · subst g
      rw [plus_eq, lt_c, if_pos rfl]
      have := hd.2.1
      rw [if_neg (by omega)]
      simp; omega
    · rw [plus_gt g, lt_c, if_pos rfl, if_pos rfl]
      have := plus_lt_r (a := r) (b := z) (d := c u k v) ha.2.2.2 trivial hd lt_z_c
      rwa [plus_zr] at this
  | c p n r, c q m s, c u k v, ha, hb, hd, h => by
    rcases tri p u with g | g | g
    · rw [plus_lt g]
      rcases tri p q with f | f | f
      · rw [plus_lt f]; exact h
      · subst f; rw [plus_eq]; exact lt_c_pq g
      · rw [plus_gt f]; exact lt_c_pq g
    · subst g
      rw [plus_eq]
      rcases tri p q with f | f | f
      · rw [lt_c, if_neg (fun e => lt_nn (by rw [e] at f; exact f)), lt_asymm f] at h; cases h
      · subst f
        rw [plus_eq, lt_c, if_pos rfl]
        rw [lt_c, if_pos rfl] at h
        by_cases e : m = k
        · subst e
          rw [if_pos rfl] at h ⊢
          exact h
        · rw [if_neg e] at h
          rw [if_neg (by omega)]
          simp at h ⊢; omega
      · rw [plus_gt f, lt_c, if_pos rfl]
        have := hd.2.1
        rw [if_neg (by omega)]
        simp; omega
    · rw [plus_gt g]
      have hq : lt q p = true := by
        rw [lt_c] at h
        by_cases e : q = u
        · rw [e]; exact g
        · rw [if_neg e] at h; exact lt_trans h g
      rw [plus_gt hq, lt_c, if_pos rfl, if_pos rfl]
      exact plus_lt_r ha.2.2.2 hb hd h
theorem plus_inj {a b d : O} (ha : nf a) (hb : nf b) (hd : nf d) (h : plus a b = plus a d) : b = d := by
  rcases tri b d with e | e | e
  · have := plus_lt_r ha hb hd e; rw [h] at this; exact (lt_nn this).elim
  · exact e
  · have := plus_lt_r ha hd hb e; rw [h] at this; exact (lt_nn this).elim
theorem plus_lt_iff {a b d : O} (ha : nf a) (hb : nf b) (hd : nf d) : lt (plus a b) (plus a d) = lt b d := by
  cases q : lt b d with
  | true => exact plus_lt_r ha hb hd q
  | false =>
    rcases not_lt q with e | e
    · rw [e]; exact lt_irrefl _
    · exact lt_asymm (plus_lt_r ha hd hb e)
/-- a sum is not below its left side -/
theorem plus_ge_l {a b : O} (ha : nf a) (hb : nf b) : lt (plus a b) a = false := by
  cases b with
  | z => rw [plus_zr]; exact lt_irrefl _
  | c q m s =>
    have := plus_lt_r ha (show nf z from trivial) hb lt_z_c
    rw [plus_zr] at this
    exact lt_asymm this
/-- nor below its right side -/
theorem plus_ge_r : ∀ {a b : O}, nf a → nf b → lt (plus a b) b = false
  | z, b, _, _ => by rw [plus_zl]; exact lt_irrefl _
  | c p n r, z, _, _ => lt_x_z _
  | c p n r, c q m s, ha, hb => by
    rcases tri p q with h | h | h
    · rw [plus_lt h]; exact lt_irrefl _
    · subst h
      rw [plus_eq, lt_c, if_pos rfl]
      have := ha.2.1
      rw [if_neg (by omega)]
      simp; omega
    · rw [plus_gt h, lt_c, if_neg (fun e => lt_nn (by rw [e] at h; exact h))]
      exact lt_asymm h
/-- sums do not fall with the left side -/
theorem plus_le_l : ∀ {a b d : O}, nf a → nf b → nf d → lt b a = false → lt (plus b d) (plus a d) = false
  | a, b, z, _, _, _, h => by simpa using h
  | z, b, c u k v, _, hb, hd, _ => by rw [plus_zl]; exact plus_ge_r hb hd
  | c p n r, z, c u k v, _, _, _, h => by rw [lt_z_c] at h; cases h
  | c p n r, c q m s, c u k v, ha, hb, hd, h => by
    rcases tri p u with g | g | g
    · rw [plus_lt g]; exact plus_ge_r hb hd
    · subst g
      rw [plus_eq]
      rcases tri q p with f | f | f
      · rw [lt_c_pq f] at h; cases h
      · subst f
        rw [plus_eq, lt_c, if_pos rfl]
        rw [lt_c, if_pos rfl] at h
        by_cases e : m = n
        · subst e; rw [if_pos rfl]; exact lt_irrefl _
        · rw [if_neg e] at h
          rw [if_neg (by omega)]
          simp at h ⊢; omega
      · rw [plus_gt f, lt_c, if_neg (fun e => lt_nn (by rw [e] at f; exact f))]
        exact lt_asymm f
    · rw [plus_gt g]
      rcases tri q p with f | f | f
      · rw [lt_c_pq f] at h; cases h
      · subst f
        rw [plus_gt g, lt_c, if_pos rfl]
        rw [lt_c, if_pos rfl] at h
        by_cases e : m = n
        · subst e
          rw [if_pos rfl] at h ⊢
          exact plus_le_l ha.2.2.2 hb.2.2.2 hd h
        · rw [if_neg e] at h ⊢; exact h
      · rw [plus_gt (lt_trans g f), lt_c, if_neg (fun e => lt_nn (by rw [e] at f; exact f))]
        exact lt_asymm f

/-! ### what is left -/
/-- the d with a + d = b, for a at most b -/
def rest : O → O → O
  | z, b => b
  | c _ _ _, z => z
  | c p n r, c q m s => if p = q then (if n = m then rest r s else c q (m - n) s) else c q m s
theorem rest_ok : ∀ {a b : O}, nf a → nf b → lt b a = false → plus a (rest a b) = b ∧ nf (rest a b)
  | z, b, _, hb, _ => by rw [rest]; exact ⟨plus_zl, hb⟩
  | c p n r, z, _, _, h => by rw [lt_z_c] at h; cases h
  | c p n r, c q m s, ha, hb, h => by
    rw [rest]
    rw [lt_c] at h
    by_cases e : p = q
    · subst e
      rw [if_pos rfl] at h ⊢
      by_cases f : n = m
      · subst f
        rw [if_pos rfl] at h ⊢
        obtain ⟨i1, i2⟩ := rest_ok ha.2.2.2 hb.2.2.2 h
        refine ⟨?_, i2⟩
        cases q : rest r s with
        | z => rw [q, plus_zr] at i1; rw [plus_zr, i1]
        | c u k v =>
          have hu : lt u p = true := by
            rw [q] at i1
            have hs := hb.2.2.1
            rw [← i1] at hs
            cases r with
            | z => rw [plus_zl] at hs; exact hs
            | c p' n' r' =>
              rcases tri p' u with g | g | g
              · rw [plus_lt g] at hs; exact hs
              · subst g; exact ha.2.2.1
              · exact lt_trans g ha.2.2.1
          rw [plus_gt hu, ← q, i1]
      · rw [if_neg (fun z => f z.symm)] at h
        rw [if_neg f]
        simp at h
        refine ⟨by rw [plus_eq]; congr 1; omega, hb.1, by omega, hb.2.2.1, hb.2.2.2⟩
    · rw [if_neg (fun z => e z.symm)] at h
      rw [if_neg e]
      have hpq : lt p q = true := by
        rcases not_lt h with g | g
        · exact absurd g.symm e
        · exact g
      exact ⟨plus_lt hpq, hb⟩
theorem rest_plus {a b : O} (ha : nf a) (hb : nf b) : rest a (plus a b) = b := by
  obtain ⟨h1, h2⟩ := rest_ok ha (nf_plus ha hb) (plus_ge_l ha hb)
  exact plus_inj ha h2 hb h1

/-! ### products -/
theorem le_mul1 {n m : Int} (h : 0 ≤ n) (k : 1 ≤ m) : n ≤ n * m := by
  have := Int.mul_le_mul_of_nonneg_left k h
  rwa [Int.mul_one] at this

def times (a : O) : O → O
  | z => z
  | c q m s => match a with
    | z => z
    | c p n r => if q = z then c p (n * m) r else c (plus p q) m (times a s)
@[simp] theorem times_zr {a : O} : times a z = z := by rw [times]
@[simp] theorem times_zl : ∀ {b : O}, times z b = z
  | z => by rw [times]
  | c q m s => by rw [times]
theorem times_fin {p r s : O} {n m : Int} : times (c p n r) (c z m s) = c p (n * m) r := by rw [times, if_pos rfl]
theorem times_inf {p r q s : O} {n m : Int} (h : q ≠ z) : times (c p n r) (c q m s) = c (plus p q) m (times (c p n r) s) := by rw [times, if_neg h]
theorem under_z {r : O} (h : under z r) : r = z := by
  cases r with
  | z => rfl
  | c p n r => have h : lt p z = true := h; rw [lt_x_z] at h; cases h
theorem under_times {p n r q : O} {k : Int} (hp : nf p) (hq : nf q) (h0 : q ≠ z) : ∀ {s : O}, nf s → under q s → under (plus p q) (times (c p k r) s)
  | z, _, _ => by rw [times_zr]; trivial
  | c u m v, hs, hu => by
    have hu : lt u q = true := hu
    by_cases e : u = z
    · subst e
      rw [times_fin]
      show lt p (plus p q) = true
      have := plus_lt_r hp (show nf z from trivial) hq hu
      rwa [plus_zr] at this
    · rw [times_inf e]
      exact plus_lt_r hp hs.1 hq hu
theorem nf_times : ∀ {a b : O}, nf a → nf b → nf (times a b)
  | z, b, _, _ => by rw [times_zl]; trivial
  | c p n r, z, _, _ => by rw [times_zr]; trivial
  | c p n r, c q m s, ha, hb => by
    obtain ⟨h1, h2, h3, h4⟩ := ha
    by_cases e : q = z
    · subst e
      rw [times_fin]
      exact ⟨h1, Int.le_trans h2 (le_mul1 (by omega) hb.2.1), h3, h4⟩
    · rw [times_inf e]
      exact ⟨nf_plus h1 hb.1, hb.2.1, under_times (n := z) h1 hb.1 e hb.2.2.2 hb.2.2.1, nf_times ⟨h1, h2, h3, h4⟩ hb.2.2.2⟩
theorem times_eq_z {a b : O} (h : times a b = z) : a = z ∨ b = z := by
  cases b with
  | z => exact .inr rfl
  | c q m s =>
    cases a with
    | z => exact .inl rfl
    | c p n r =>
      by_cases e : q = z
      · subst e; rw [times_fin] at h; cases h
      · rw [times_inf e] at h; cases h
theorem times_plus : ∀ {a b d : O}, nf a → nf b → nf d → times a (plus b d) = plus (times a b) (times a d)
  | z, b, d, _, _, _ => by simp
  | c p n r, z, d, _, _, _ => by simp
  | c p n r, c q m s, z, _, _, _ => by simp
  | c p n r, c q m s, c u k v, ha, hb, hd => by
    obtain ⟨h1, h2, h3, h4⟩ := ha
    rcases tri q u with g | g | g
    · rw [plus_lt g]
      have hu : u ≠ z := fun e => by subst e; rw [lt_x_z] at g; cases g
      rw [times_inf hu]
      by_cases e : q = z
      · subst e
        rw [times_fin, plus_lt]
        have := plus_lt_r h1 (show nf z from trivial) hd.1 g
        rwa [plus_zr] at this
      · rw [times_inf e, plus_lt (plus_lt_r h1 hb.1 hd.1 g)]
    · subst g
      rw [plus_eq]
      by_cases e : q = z
      · subst e
        rw [times_fin, times_fin, times_fin, plus_eq, Int.mul_add]
      · rw [times_inf e, times_inf e, times_inf e, plus_eq]
    · rw [plus_gt g]
      have hq : q ≠ z := fun e => by subst e; rw [lt_x_z] at g; cases g
      rw [times_inf hq, times_inf hq, times_plus (a := c p n r) ⟨h1, h2, h3, h4⟩ hb.2.2.2 hd]
      by_cases e : u = z
      · subst e
        rw [times_fin, plus_gt]
        have := plus_lt_r h1 (show nf z from trivial) hb.1 g
        rwa [plus_zr] at this
      · rw [times_inf e, plus_gt (plus_lt_r h1 hd.1 hb.1 g)]
theorem times_assoc : ∀ {a b d : O}, nf a → nf b → nf d → times (times a b) d = times a (times b d)
  | a, b, z, _, _, _ => by simp
  | z, b, c u k v, _, _, _ => by simp
  | c p n r, z, c u k v, _, _, _ => by simp
  | c p n r, c q m s, c u k v, ha, hb, hd => by
    by_cases e : u = z
    · subst e
      rw [times_fin]
      by_cases f : q = z
      · subst f
        rw [times_fin, times_fin, times_fin, Int.mul_assoc]
      · rw [times_inf f, times_fin, times_inf f]
    · have ih := times_assoc (a := c p n r) (b := c q m s) (d := v) ha hb hd.2.2.2
      rw [times_inf e]
      have hne : plus q u ≠ z := fun w => e (plus_eq_z w).2
      rw [times_inf hne, ← ih]
      by_cases f : q = z
      · subst f
        rw [times_fin, times_inf e, plus_zl]
      · rw [times_inf f, times_inf e, plus_assoc]
theorem times_lt_r : ∀ {a b d : O}, nf a → a ≠ z → nf b → nf d → lt b d = true → lt (times a b) (times a d) = true := by
  intro a b d ha h0 hb hd h
  obtain ⟨h1, h2⟩ := rest_ok hb hd (lt_asymm h)
  have hr : rest b d ≠ z := fun e => by rw [e, plus_zr] at h1; rw [h1] at h; exact lt_nn h
  rw [← h1, times_plus ha hb h2]
  have h3 : times a (rest b d) ≠ z := fun e => (times_eq_z e).elim h0 hr
  have := plus_lt_r (nf_times ha hb) (show nf z from trivial) (nf_times ha h2) (z_lt h3)
  rwa [plus_zr] at this
theorem times_inj {a b d : O} (ha : nf a) (h0 : a ≠ z) (hb : nf b) (hd : nf d) (h : times a b = times a d) : b = d := by
  rcases tri b d with e | e | e
  · have := times_lt_r ha h0 hb hd e; rw [h] at this; exact (lt_nn this).elim
  · exact e
  · have := times_lt_r ha h0 hd hb e; rw [h] at this; exact (lt_nn this).elim
def one : O := c z 1 z
theorem nf_one : nf one := ⟨trivial, Int.le_refl 1, trivial, trivial⟩
@[simp] theorem times_one {a : O} : times a one = a := by
  cases a with
  | z => simp
  | c p n r => unfold one; rw [times_fin, Int.mul_one]
theorem one_times : ∀ {b : O}, nf b → times one b = b
  | z, _ => by simp
  | c q m s, hb => by
    unfold one
    by_cases e : q = z
    · subst e
      have := under_z hb.2.2.1
      subst this
      rw [times_fin, Int.one_mul]
    · have ih := one_times hb.2.2.2
      unfold one at ih
      rw [times_inf e, plus_zl, ih]
/-- quotient and rest are the only ones -/
theorem div_unique {b q r q' r' : O} (hb : nf b) (hq : nf q) (hr : nf r) (hq' : nf q') (hr' : nf r') (h1 : lt r b = true) (h2 : lt r' b = true) (h : plus (times b q) r = plus (times b q') r') : q = q' ∧ r = r' := by
  have key : ∀ {q q' r r' : O}, nf q → nf q' → nf r → nf r' → lt r b = true → lt q q' = true → plus (times b q) r ≠ plus (times b q') r' := by
    intro q q' r r' hq hq' hr hr' h1 hlt e
    -- b q + r < b (q + 1) <= b q'
    have hb0 : b ≠ z := fun w => by rw [w, lt_x_z] at h1; cases h1
    obtain ⟨k1, k2⟩ := rest_ok hq hq' (lt_asymm hlt)
    have kz : rest q q' ≠ z := fun w => by rw [w, plus_zr] at k1; rw [k1] at hlt; exact lt_nn hlt
    rw [← k1, times_plus hb hq k2, plus_assoc] at e
    have e := plus_inj (nf_times hb hq) hr (nf_plus (nf_times hb k2) hr') e
    have g1 : lt (times b (rest q q')) b = false := by
      cases w : rest q q' with
      | z => exact absurd w kz
      | c u k v =>
        cases b with
        | z => exact absurd rfl hb0
        | c p n s =>
          rw [w] at k2
          by_cases f : u = z
          · subst f
            rw [times_fin, lt_c, if_pos rfl]
            have k21 := k2.2.1
            by_cases f2 : n * k = n
            · rw [if_pos f2]; exact lt_irrefl _
            · rw [if_neg f2]
              have := hb.2.1
              have : n ≤ n * k := le_mul1 (by omega) k21
              simp; omega
          · rw [times_inf f]
            have : lt p (plus p u) = true := by
              have := plus_lt_r hb.1 (show nf z from trivial) k2.1 (z_lt f)
              rwa [plus_zr] at this
            exact lt_asymm (lt_c_pq this)
    have g2 := plus_ge_l (nf_times hb k2) hr'
    rw [e] at h1
    have := lt_lelt h1 g1
    rw [this] at g2
    cases g2
  rcases tri q q' with e | e | e
  · exact absurd h (key hq hq' hr hr' h1 e)
  · subst e
    exact ⟨rfl, plus_inj (nf_times hb hq) hr hr' h⟩
  · exact absurd h.symm (key hq' hq hr' hr h2 e)
end O
end AG
/-! AgMx: max and min over data (tuples, and lists of these). -/
namespace AG
open PySem L2
open PySem.W (dataLt AlikeAll reads_keeps iter_tupleW iter_listW cmpIn_gt cmpIn_lt moved_old argBest_fold readsAll_atA readsAll_len)

section
variable {prog : Program} {w : World} {A : Around} {E : Value → Shared → Prop} {s : Shared} {a b : Value} {da db : PyData} {as bs : List Addr} {Q : Value → Shared → Prop}
theorem rd2 (ra : Reads s.heap a da as) (rb : Reads s.heap b db bs) : ∃ cs, ReadsAll s.heap [a, b] [da, db] cs := ⟨_, .cons ra (.cons rb .nil)⟩
theorem al2 (h1 : PySem.W.alike da da = true) (h2 : PySem.W.alike da db = true) (h3 : PySem.W.alike db da = true) (h4 : PySem.W.alike db db = true) (hn : da ≠ .none) (hm : db ≠ .none) : AlikeAll [da, db] := by
  constructor
  · intro x hx y hy
    simp only [List.mem_cons, List.not_mem_nil, or_false] at hx hy
    rcases hx with rfl | rfl <;> rcases hy with rfl | rfl <;> assumption
  · intro x hx
    simp only [List.mem_cons, List.not_mem_nil, or_false] at hx
    rcases hx with rfl | rfl <;> assumption
theorem max_pairD (hh : A.handled = none) (ra : Reads s.heap a da as) (rb : Reads s.heap b db bs) (hal : AlikeAll [da, db]) (hu : A.units + 1 + PyData.depthAll [da, db] < cLine)
    (h : ∀ h' tk, (∀ c o, s.heap.get? c = some o → h'.get? c = some o) → Q (if dataLt da db then b else a) { s with heap := h', toks := tk }) :
    wpAny (model prog w) A (call (.builtin "max") [a, b]) Q E s := by
  have hname : (toString "max" ++ toString ".loop" : String) = "max.loop" := by decide
  refine call_function_tree F.kind_max F.plain_max F.entry_max (F.args_max2 _ _) ?_
  show wpAny _ A.in1 (Builtin.Builtins.bindParams "max" ["key", "default"] 0 ⟨[], []⟩ >>= _) _ _ s
  refine wpAny_bind (wpAny_of_eq (show Builtin.Builtins.bindParams "max" ["key", "default"] 0 ⟨[], []⟩ = pure [none, none] from rfl) ?_)
  show wpAny _ A.in1 (newTuple [a, b] >>= _) _ _ s
  refine wpAny_bind (wpAny_newObj_type ?_)
  refine wpAny_bind ?_
  have k0 : ∀ c o, s.heap.get? c = some o → (s.heap.push { cls := .type "tuple", data := .seq #[a, b] }).get? c = some o := fun c o e => Heap.get?_push_of_some _ e
  obtain ⟨cs, hr⟩ := rd2 (s := { s with heap := s.heap.push { cls := .type "tuple", data := .seq #[a, b] } }) (reads_keeps k0 ra) (reads_keeps k0 rb)
  refine iter_tupleW (A := A.in1) (s := { s with heap := s.heap.push { cls := .type "tuple", data := .seq #[a, b] } }) (l := s.heap.objs.size) (vs := #[a, b]) hh ⟨_, Heap.get?_push_size _ rfl, rfl, 0, rfl⟩ fun s₂ e W hst hfp hw hkeep => ?_
  refine wpAny_bind (wpAny_newObj_type ?_)
  have hSf := fun hm => Nat.lt_irrefl _ (hfp s₂.heap.objs.size hm)
  rw [hname]
  refine wpAny_pure ⟨plainId_quiet F.plain_max_loop _, codeAny_max_loop_firstH W (s.heap.push { cls := .type "tuple", data := .seq #[a, b] }) hw _ (cmpIn_gt (A := A.in1) (s := { s with heap := s.heap.push { cls := .type "tuple", data := .seq #[a, b] } }) (vs := #[a, b]) hr hal (by show A.units + 1 + _ < _; exact hu)) s₂.heap.objs.size hSf (fresh_in hkeep) _ (by show 0 < 2; decide) (fun b o e => Heap.get?_push_of_some _ (hkeep b o e)) (W.frame 0 s₂ _ s₂.toks hst (Nat.le_refl _) fun b _ o e => Heap.get?_push_of_some _ e) (Heap.get?_push_size _ rfl) fun v s' hP hm => ?_⟩
  have m := Moved.drop_new (tk := s₂.toks) hm (Nat.le_refl _)
  obtain ⟨h', tk, rfl, hk'⟩ := moved_old e rfl m
  have hv : v = if dataLt da db then b else a := by
    cases c : dataLt da db <;> simp [argBest, c] at hP <;> simp [hP]
  rw [hv]
  exact h h' tk fun c o e => hk' c o (k0 c o e)
theorem min_pairD (hh : A.handled = none) (ra : Reads s.heap a da as) (rb : Reads s.heap b db bs) (hal : AlikeAll [da, db]) (hu : A.units + 1 + PyData.depthAll [da, db] < cLine)
    (h : ∀ h' tk, (∀ c o, s.heap.get? c = some o → h'.get? c = some o) → Q (if dataLt db da then b else a) { s with heap := h', toks := tk }) :
    wpAny (model prog w) A (call (.builtin "min") [a, b]) Q E s := by
  have hname : (toString "min" ++ toString ".loop" : String) = "min.loop" := by decide
  refine call_function_tree F.kind_min F.plain_min F.entry_min (F.args_min2 _ _) ?_
  show wpAny _ A.in1 (Builtin.Builtins.bindParams "min" ["key", "default"] 0 ⟨[], []⟩ >>= _) _ _ s
  refine wpAny_bind (wpAny_of_eq (show Builtin.Builtins.bindParams "min" ["key", "default"] 0 ⟨[], []⟩ = pure [none, none] from rfl) ?_)
  show wpAny _ A.in1 (newTuple [a, b] >>= _) _ _ s
  refine wpAny_bind (wpAny_newObj_type ?_)
  refine wpAny_bind ?_
  have k0 : ∀ c o, s.heap.get? c = some o → (s.heap.push { cls := .type "tuple", data := .seq #[a, b] }).get? c = some o := fun c o e => Heap.get?_push_of_some _ e
  obtain ⟨cs, hr⟩ := rd2 (s := { s with heap := s.heap.push { cls := .type "tuple", data := .seq #[a, b] } }) (reads_keeps k0 ra) (reads_keeps k0 rb)
  refine iter_tupleW (A := A.in1) (s := { s with heap := s.heap.push { cls := .type "tuple", data := .seq #[a, b] } }) (l := s.heap.objs.size) (vs := #[a, b]) hh ⟨_, Heap.get?_push_size _ rfl, rfl, 0, rfl⟩ fun s₂ e W hst hfp hw hkeep => ?_
  refine wpAny_bind (wpAny_newObj_type ?_)
  have hSf := fun hm => Nat.lt_irrefl _ (hfp s₂.heap.objs.size hm)
  rw [hname]
  refine wpAny_pure ⟨plainId_quiet F.plain_min_loop _, codeAny_min_loop_firstH W (s.heap.push { cls := .type "tuple", data := .seq #[a, b] }) hw _ (cmpIn_lt (A := A.in1) (s := { s with heap := s.heap.push { cls := .type "tuple", data := .seq #[a, b] } }) (vs := #[a, b]) hr hal (by show A.units + 1 + _ < _; exact hu)) s₂.heap.objs.size hSf (fresh_in hkeep) _ (by show 0 < 2; decide) (fun b o e => Heap.get?_push_of_some _ (hkeep b o e)) (W.frame 0 s₂ _ s₂.toks hst (Nat.le_refl _) fun b _ o e => Heap.get?_push_of_some _ e) (Heap.get?_push_size _ rfl) fun v s' hP hm => ?_⟩
  have m := Moved.drop_new (tk := s₂.toks) hm (Nat.le_refl _)
  obtain ⟨h', tk, rfl, hk'⟩ := moved_old e rfl m
  have hv : v = if dataLt db da then b else a := by
    cases c : dataLt db da <;> simp [argBest, c] at hP <;> simp [hP]
  rw [hv]
  exact h h' tk fun c o e => hk' c o (k0 c o e)
end

section
variable {K : PySem.W.Frag} {ca : CA} {X : Cx}
def pairOk (d e : PyData) : Prop := PySem.W.alike d d = true ∧ PySem.W.alike d e = true ∧ PySem.W.alike e d = true ∧ PySem.W.alike e e = true ∧ d ≠ .none ∧ e ≠ .none ∧ d.depth ≤ 62 ∧ e.depth ≤ 62
theorem pair_depth {d e : PyData} (h1 : d.depth ≤ 62) (h2 : e.depth ≤ 62) : PyData.depthAll [d, e] ≤ 62 := by
  simp only [PyData.depthAll]
  omega
def rMaxD2 (K : PySem.W.Frag) : List V → Hp → VK → Prop := fun xs H Q => ∃ x y d e, xs = [x, y] ∧ Dp K H x d ∧ Dp K H y e ∧ pairOk d e ∧ Q (if dataLt d e then y else x) H
def rMinD2 (K : PySem.W.Frag) : List V → Hp → VK → Prop := fun xs H Q => ∃ x y d e, xs = [x, y] ∧ Dp K H x d ∧ Dp K H y e ∧ pairOk d e ∧ Q (if dataLt e d then y else x) H
theorem cr_maxD2 (hc : X.calm = true) (hu : X.A.units + 64 < cLine) : CallR X (.builtin "max") (rMaxD2 X.K) := by
  intro pins s σ H xs us Q I r h
  obtain ⟨x, y, d, e, rfl, hd, he, ⟨p1, p2, p3, p4, p5, p6, p7, p8⟩, q⟩ := h
  obtain ⟨u, v, rfl, r1, r2⟩ := vals2 r
  obtain ⟨as, e1⟩ := Dp.reads I d x u hd r1
  obtain ⟨bs, e2⟩ := Dp.reads I e y v he r2
  refine max_pairD (I.ok.hd hc) e1 e2 (al2 p1 p2 p3 p4 p5 p6) (by have := pair_depth p7 p8; omega) fun h' tk k => ⟨_, H, I.kept k, ?_, q⟩
  by_cases c : dataLt d e = true
  · rw [if_pos c, if_pos c]; exact r2
  · rw [if_neg c, if_neg c]; exact r1
theorem cr_minD2 (hc : X.calm = true) (hu : X.A.units + 64 < cLine) : CallR X (.builtin "min") (rMinD2 X.K) := by
  intro pins s σ H xs us Q I r h
  obtain ⟨x, y, d, e, rfl, hd, he, ⟨p1, p2, p3, p4, p5, p6, p7, p8⟩, q⟩ := h
  obtain ⟨u, v, rfl, r1, r2⟩ := vals2 r
  obtain ⟨as, e1⟩ := Dp.reads I d x u hd r1
  obtain ⟨bs, e2⟩ := Dp.reads I e y v he r2
  refine min_pairD (I.ok.hd hc) e1 e2 (al2 p1 p2 p3 p4 p5 p6) (by have := pair_depth p7 p8; omega) fun h' tk k => ⟨_, H, I.kept k, ?_, q⟩
  by_cases c : dataLt e d = true
  · rw [if_pos c, if_pos c]; exact r2
  · rw [if_neg c, if_neg c]; exact r1
/-- lists of data -/
def bestOf (f : D → D → Bool) (ds : List D) : Nat := argBest (fun i j => f (ds.getD i .non) (ds.getD j .non)) (ds.length - 1)
def rMaxDL (K : PySem.W.Frag) : List V → Hp → VK → Prop := fun xs H Q => ∃ a ys ds, xs = [.ref a] ∧ SqL K H a ys ∧ DpAll K H ys ds ∧ AlikeAll ds ∧ PyData.depthAll ds ≤ 62 ∧ 0 < ds.length ∧ ∀ y, ys[argBest (fun i j => dataLt (ds.getD j .none) (ds.getD i .none)) (ds.length - 1)]? = some y → Q y H
def rMinDL (K : PySem.W.Frag) : List V → Hp → VK → Prop := fun xs H Q => ∃ a ys ds, xs = [.ref a] ∧ SqL K H a ys ∧ DpAll K H ys ds ∧ AlikeAll ds ∧ PyData.depthAll ds ≤ 62 ∧ 0 < ds.length ∧ ∀ y, ys[argBest (fun i j => dataLt (ds.getD i .none) (ds.getD j .none)) (ds.length - 1)]? = some y → Q y H
theorem valsAt : ∀ {ys : List V} {us : List Value}, Vals ys us → ∀ {i : Nat} {u : Value}, us[i]? = some u → ∃ y, ys[i]? = some y ∧ RelV y u
  | _, _, .nil, i, u, h => by cases i <;> cases h
  | _, _, .cons h r, 0, u, e => by
    simp only [List.getElem?_cons_zero, Option.some.injEq] at e
    subst e
    exact ⟨_, rfl, h⟩
  | _, _, .cons h r, i + 1, u, e => by
    simp only [List.getElem?_cons_succ] at e ⊢
    exact valsAt r e
theorem cr_maxDL (hc : X.calm = true) (hu : X.A.units + 64 < cLine) : CallR X (.builtin "max") (rMaxDL X.K) := by
  intro pins s σ H xs us Q I r h
  obtain ⟨a, ys, ds, rfl, hl, hd, hal, hdp, hn, q⟩ := h
  obtain ⟨its, rv, pl, hz⟩ := I.list hl
  obtain ⟨as, hr⟩ := Dp.readsAll I ds ys its hd rv
  rw [Vals.ref1 r]
  have hr' : ReadsAll s.heap its.toArray.toList ds as := by simpa using hr
  have hn' : its.toArray.size = ds.length := readsAll_len hr'
  refine call_max_walkH (iter_listW (A := X.A.in1) (I.ok.hd hc) pl.isList fun s₂ e W st hfp hw hk => ?_)
  refine ⟨_, _, _, _, _, _, _, s.heap, _, rfl, W, st, hfp, by omega, hw, hk, cmpIn_gt (A := X.A.in1) hr' hal (by show X.A.units + 1 + _ < _; omega), fun v s' hP m => ?_⟩
  obtain ⟨h', tk, rfl, hk'⟩ := moved_old e rfl m
  rw [hn'] at hP
  obtain ⟨y, e1, e2⟩ := valsAt rv (by simpa using hP)
  exact ⟨y, H, I.kept hk', e2, q y e1⟩
theorem cr_minDL (hc : X.calm = true) (hu : X.A.units + 64 < cLine) : CallR X (.builtin "min") (rMinDL X.K) := by
  intro pins s σ H xs us Q I r h
  obtain ⟨a, ys, ds, rfl, hl, hd, hal, hdp, hn, q⟩ := h
  obtain ⟨its, rv, pl, hz⟩ := I.list hl
  obtain ⟨as, hr⟩ := Dp.readsAll I ds ys its hd rv
  rw [Vals.ref1 r]
  have hr' : ReadsAll s.heap its.toArray.toList ds as := by simpa using hr
  have hn' : its.toArray.size = ds.length := readsAll_len hr'
  refine call_min_walkH (iter_listW (A := X.A.in1) (I.ok.hd hc) pl.isList fun s₂ e W st hfp hw hk => ?_)
  refine ⟨_, _, _, _, _, _, _, s.heap, _, rfl, W, st, hfp, by omega, hw, hk, cmpIn_lt (A := X.A.in1) hr' hal (by show X.A.units + 1 + _ < _; omega), fun v s' hP m => ?_⟩
  obtain ⟨h', tk, rfl, hk'⟩ := moved_old e rfl m
  rw [hn'] at hP
  obtain ⟨y, e1, e2⟩ := valsAt rv (by simpa using hP)
  exact ⟨y, H, I.kept hk', e2, q y e1⟩
/-- d and e are to be compared both ways -/
def pairC (d e : D) : Bool := cmpOk d d && cmpOk d e && cmpOk e d && cmpOk e e
theorem pairC_of {d e : D} (h : pairC d e = true) : D.sm 60 d = true ∧ D.sm 60 e = true ∧ pairOk d.toPy e.toPy := by
  simp only [pairC, Bool.and_eq_true] at h
  obtain ⟨⟨⟨h1, h2⟩, h3⟩, h4⟩ := h
  obtain ⟨a1, a2, a3, a4⟩ := cmpOk_of h1
  obtain ⟨b1, b2, b3, b4⟩ := cmpOk_of h2
  obtain ⟨c1, c2, c3, c4⟩ := cmpOk_of h3
  obtain ⟨e1, e2, e3, e4⟩ := cmpOk_of h4
  exact ⟨a1, b2, a3, b3, c3, e3, ne_none a4, ne_none e4, Nat.le_trans (sm_depth a1) (by decide), Nat.le_trans (sm_depth b2) (by decide)⟩
def fMaxA : LOp := fun ds => match ds with
  | [.int i, .int j] => M.pure (.int (if j > i then j else i))
  | [d, e] => if pairC d e = true then M.pure (if D.lt d e = true then e else d) else M.bad
  | [.lst xs] => match D.ints xs with
    | some (n :: ns) => M.pure (.int (maxI n ns))
    | _ => if 0 < xs.length ∧ (xs.all fun d => xs.all fun e => cmpOk d e) = true then (match xs[bestOf (fun a b => D.lt b a) xs]? with | some d => M.pure d | none => M.bad) else M.bad
  | _ => M.bad
def fMinA : LOp := fun ds => match ds with
  | [.int i, .int j] => M.pure (.int (if j < i then j else i))
  | [d, e] => if pairC d e = true then M.pure (if D.lt e d = true then e else d) else M.bad
  | [.lst xs] => match D.ints xs with
    | some (n :: ns) => M.pure (.int (minI n ns))
    | _ => if 0 < xs.length ∧ (xs.all fun d => xs.all fun e => cmpOk d e) = true then (match xs[bestOf (fun a b => D.lt a b) xs]? with | some d => M.pure d | none => M.bad) else M.bad
  | _ => M.bad
theorem getD_toPys : ∀ (ds : List D) (i : Nat), (D.toPys ds).getD i .none = (ds.getD i .non).toPy
  | [], i => by simp [D.toPys, D.toPy]
  | d :: ds, 0 => by simp [D.toPys]
  | d :: ds, i + 1 => by simpa [D.toPys] using getD_toPys ds i
theorem toPys_len : ∀ ds : List D, (D.toPys ds).length = ds.length
  | [] => rfl
  | d :: ds => by simp [D.toPys, toPys_len ds]
theorem mem_toPys : ∀ {ds : List D} {x : PyData}, x ∈ D.toPys ds → ∃ d ∈ ds, x = d.toPy
  | [], x, h => by cases h
  | d :: ds, x, h => by
    rw [D.toPys] at h
    rcases List.mem_cons.mp h with rfl | h
    · exact ⟨d, List.mem_cons_self, rfl⟩
    · obtain ⟨e, h1, h2⟩ := mem_toPys h
      exact ⟨e, List.mem_cons_of_mem _ h1, h2⟩
theorem allC_alike {ds : List D} (h : (ds.all fun d => ds.all fun e => cmpOk d e) = true) : AlikeAll (D.toPys ds) := by
  simp only [List.all_eq_true] at h
  constructor
  · intro x hx y hy
    obtain ⟨d, h1, rfl⟩ := mem_toPys hx
    obtain ⟨e, h2, rfl⟩ := mem_toPys hy
    exact (cmpOk_of (h d h1 e h2)).2.2.1
  · intro x hx
    obtain ⟨d, h1, rfl⟩ := mem_toPys hx
    exact ne_none (cmpOk_of (h d h1 d h1)).2.2.2
theorem allC_sm {ds : List D} (h : (ds.all fun d => ds.all fun e => cmpOk d e) = true) : ∀ d ∈ ds, D.sm 60 d = true := by
  simp only [List.all_eq_true] at h
  exact fun d hd => (cmpOk_of (h d hd d hd)).1
theorem allC_depth : ∀ {ds : List D}, (∀ d ∈ ds, D.sm 60 d = true) → PyData.depthAll (D.toPys ds) ≤ 62
  | [], _ => by simp [D.toPys, PyData.depthAll]
  | d :: ds, h => by
    have h1 := allC_depth fun e he => h e (List.mem_cons_of_mem _ he)
    have h2 := sm_depth (h d List.mem_cons_self)
    simp only [D.toPys, PyData.depthAll]
    omega
theorem dpAll_sm {w : Wd} (hs : Subs w) : ∀ {vs : List V} {ds : List D}, RpAll K w vs ds → (∀ d ∈ ds, D.sm 60 d = true) → DpAll K w.H vs (D.toPys ds)
  | _, _, .nil, _ => .nil
  | _, _, .cons h r, q => .cons (h.dp hs (q _ List.mem_cons_self)) (dpAll_sm hs r fun d hd => q d (List.mem_cons_of_mem _ hd))
theorem RpAll.atS {w : Wd} : ∀ {vs : List V} {ds : List D}, RpAll K w vs ds → ∀ {i : Nat} {v : V} {d : D}, vs[i]? = some v → ds[i]? = some d → Rp K w v d
  | _, _, .nil, i, v, d, h, _ => by cases i <;> cases h
  | _, _, .cons h r, 0, v, d, e1, e2 => by
    simp only [List.getElem?_cons_zero, Option.some.injEq] at e1 e2
    subst e1; subst e2
    exact h
  | _, _, .cons h r, i + 1, v, d, e1, e2 => by
    simp only [List.getElem?_cons_succ] at e1 e2
    exact RpAll.atS r e1 e2
theorem maxDL_of {W : WX} {σ : St} {w : Wd} {mh : MH} {Q : VK} {a : Addr} {xs : List V} {ys : List D} (hw : WOk K ca w mh) (h1 : SqL K w.H a xs) (h2 : RpAll K w xs ys)
    (hp : Post K ca W σ w ((if 0 < ys.length ∧ (ys.all fun d => ys.all fun e => cmpOk d e) = true then (match ys[bestOf (fun a b => D.lt b a) ys]? with | some d => M.pure d | none => M.bad) else M.bad : M D) mh) Q) : rMaxDL K [.ref a] w.H Q := by
  by_cases c : 0 < ys.length ∧ (ys.all fun d => ys.all fun e => cmpOk d e) = true
  · rw [if_pos c] at hp
    have sm := allC_sm c.2
    refine ⟨a, xs, D.toPys ys, rfl, h1, dpAll_sm hw.subs h2 sm, allC_alike c.2, allC_depth sm, by rw [toPys_len]; exact c.1, fun y hy => ?_⟩
    have e : bestOf (fun a b => D.lt b a) ys = argBest (fun i j => dataLt ((D.toPys ys).getD j .none) ((D.toPys ys).getD i .none)) ((D.toPys ys).length - 1) := by
      unfold bestOf
      rw [toPys_len]
      congr 1
      funext i j
      rw [getD_toPys, getD_toPys]
      rfl
    rw [← e] at hy
    cases q : ys[bestOf (fun a b => D.lt b a) ys]? with
    | none => rw [q] at hp; exact hp.elim
    | some d =>
      rw [q] at hp
      exact PostG.ret hp hw (h2.atS hy q)
  · rw [if_neg c] at hp; exact hp.elim
theorem minDL_of {W : WX} {σ : St} {w : Wd} {mh : MH} {Q : VK} {a : Addr} {xs : List V} {ys : List D} (hw : WOk K ca w mh) (h1 : SqL K w.H a xs) (h2 : RpAll K w xs ys)
    (hp : Post K ca W σ w ((if 0 < ys.length ∧ (ys.all fun d => ys.all fun e => cmpOk d e) = true then (match ys[bestOf (fun a b => D.lt a b) ys]? with | some d => M.pure d | none => M.bad) else M.bad : M D) mh) Q) : rMinDL K [.ref a] w.H Q := by
  by_cases c : 0 < ys.length ∧ (ys.all fun d => ys.all fun e => cmpOk d e) = true
  · rw [if_pos c] at hp
    have sm := allC_sm c.2
    refine ⟨a, xs, D.toPys ys, rfl, h1, dpAll_sm hw.subs h2 sm, allC_alike c.2, allC_depth sm, by rw [toPys_len]; exact c.1, fun y hy => ?_⟩
    have e : bestOf (fun a b => D.lt a b) ys = argBest (fun i j => dataLt ((D.toPys ys).getD i .none) ((D.toPys ys).getD j .none)) ((D.toPys ys).length - 1) := by
      unfold bestOf
      rw [toPys_len]
      congr 1
      funext i j
      rw [getD_toPys, getD_toPys]
      rfl
    rw [← e] at hy
    cases q : ys[bestOf (fun a b => D.lt a b) ys]? with
    | none => rw [q] at hp; exact hp.elim
    | some d =>
      rw [q] at hp
      exact PostG.ret hp hw (h2.atS hy q)
  · rw [if_neg c] at hp; exact hp.elim
def rMaxA (K : PySem.W.Frag) : List V → Hp → VK → Prop := fun xs H Q => (rMax K xs H Q ∨ ∃ i j, xs = [.int i, .int j] ∧ Q (.int (if j > i then j else i)) H) ∨ rMaxD2 K xs H Q ∨ rMaxDL K xs H Q
theorem cm_maxA : CallM K ca (rMaxA K) fMaxA := by
  intro W σ w mh xs ds Q hw r hp
  unfold fMaxA at hp
  split at hp
  · rename_i i j
    obtain ⟨x, y, rfl, q1, q2⟩ := r.two
    cases q1
    cases q2
    exact .inl (.inr ⟨_, _, rfl, PostG.ret hp hw (.int _)⟩)
  · rename_i d e hne
    obtain ⟨x, y, rfl, q1, q2⟩ := r.two
    by_cases c : pairC d e = true
    · rw [if_pos c] at hp
      obtain ⟨s1, s2, p⟩ := pairC_of c
      refine .inr (.inl ⟨x, y, _, _, rfl, q1.dp hw.subs s1, q2.dp hw.subs s2, p, ?_⟩)
      have l : dataLt d.toPy e.toPy = D.lt d e := rfl
      have l' : dataLt e.toPy d.toPy = D.lt e d := rfl
      by_cases b : D.lt d e = true
      · rw [if_pos b] at hp
        rw [if_pos (by first | rwa [l] | rwa [l'])]
        exact PostG.ret hp hw q2
      · rw [if_neg b] at hp
        rw [if_neg (by first | rwa [l] | rwa [l'])]
        exact PostG.ret hp hw q1
    · rw [if_neg c] at hp; exact hp.elim
  · rename_i ys
    obtain ⟨x, rfl, q⟩ := r.one
    cases q with
    | lst h1 h2 =>
      cases e : D.ints ys with
      | none =>
        simp only [e] at hp
        exact .inr (.inr (maxDL_of hw (.of (hw.subL _ _ h1)) h2 hp))
      | some ns =>
      cases ns with
      | nil =>
        simp only [e] at hp
        exact .inr (.inr (maxDL_of hw (.of (hw.subL _ _ h1)) h2 hp))
      | cons n ns =>
        simp only [e] at hp
        rw [ints_of h2 e] at h1
        have sp := maxI_spec ns n
        refine .inl (.inl ⟨_, n :: ns, rfl, .of (hw.subL _ _ h1), by simp, fun m h3 h4 => ?_⟩)
        have : m = maxI n ns := by have := h4 _ sp.1; have := sp.2 _ h3; omega
        subst this
        exact PostG.ret hp hw (.int _)
  · exact hp.elim
def rMinA (K : PySem.W.Frag) : List V → Hp → VK → Prop := fun xs H Q => (rMin K xs H Q ∨ ∃ i j, xs = [.int i, .int j] ∧ Q (.int (if j < i then j else i)) H) ∨ rMinD2 K xs H Q ∨ rMinDL K xs H Q
theorem cm_minA : CallM K ca (rMinA K) fMinA := by
  intro W σ w mh xs ds Q hw r hp
  unfold fMinA at hp
  split at hp
  · rename_i i j
    obtain ⟨x, y, rfl, q1, q2⟩ := r.two
    cases q1
    cases q2
    exact .inl (.inr ⟨_, _, rfl, PostG.ret hp hw (.int _)⟩)
  · rename_i d e hne
    obtain ⟨x, y, rfl, q1, q2⟩ := r.two
    by_cases c : pairC d e = true
    · rw [if_pos c] at hp
      obtain ⟨s1, s2, p⟩ := pairC_of c
      refine .inr (.inl ⟨x, y, _, _, rfl, q1.dp hw.subs s1, q2.dp hw.subs s2, p, ?_⟩)
      have l : dataLt d.toPy e.toPy = D.lt d e := rfl
      have l' : dataLt e.toPy d.toPy = D.lt e d := rfl
      by_cases b : D.lt e d = true
      · rw [if_pos b] at hp
        rw [if_pos (by first | rwa [l] | rwa [l'])]
        exact PostG.ret hp hw q2
      · rw [if_neg b] at hp
        rw [if_neg (by first | rwa [l] | rwa [l'])]
        exact PostG.ret hp hw q1
    · rw [if_neg c] at hp; exact hp.elim
  · rename_i ys
    obtain ⟨x, rfl, q⟩ := r.one
    cases q with
    | lst h1 h2 =>
      cases e : D.ints ys with
      | none =>
        simp only [e] at hp
        exact .inr (.inr (minDL_of hw (.of (hw.subL _ _ h1)) h2 hp))
      | some ns =>
      cases ns with
      | nil =>
        simp only [e] at hp
        exact .inr (.inr (minDL_of hw (.of (hw.subL _ _ h1)) h2 hp))
      | cons n ns =>
        simp only [e] at hp
        rw [ints_of h2 e] at h1
        have sp := minI_spec ns n
        refine .inl (.inl ⟨_, n :: ns, rfl, .of (hw.subL _ _ h1), by simp, fun m h3 h4 => ?_⟩)
        have : m = minI n ns := by have := h4 _ sp.1; have := sp.2 _ h3; omega
        subst this
        exact PostG.ret hp hw (.int _)
  · exact hp.elim
theorem me_maxA {ca : CA} {W : WX} {e : Expr} {es : List Expr} {ms : Env → M (List D)} {p pos : Pos} {k : Nat} (hr : Room k X.A) (hc : X.calm = true) (hm : X.mg "max" = none) (ha : MA X ca W (e :: es) ms) (hg : Gl X "max" := by rfl) (he : starEach (e :: es) X.env = (false, eval e X.env) :: starEach es X.env := by rfl) (hpl : (backTo pos (starEach es X.env)).any (·.1) = false := by rfl) : ME X ca W (.Call (.Name "max" p) (e :: es) [] pos) (mCall fMaxA ms) :=
  me_callB (CallR.or (CallR.or (cr_max hc) (call_max2 hc)) (CallR.or (cr_maxD2 hc (hu64 hr)) (cr_maxDL hc (hu64 hr)))) cm_maxA hm (by decide +kernel) ha hg (by decide) (by decide) he hpl
theorem me_minA {ca : CA} {W : WX} {e : Expr} {es : List Expr} {ms : Env → M (List D)} {p pos : Pos} {k : Nat} (hr : Room k X.A) (hc : X.calm = true) (hm : X.mg "min" = none) (ha : MA X ca W (e :: es) ms) (hg : Gl X "min" := by rfl) (he : starEach (e :: es) X.env = (false, eval e X.env) :: starEach es X.env := by rfl) (hpl : (backTo pos (starEach es X.env)).any (·.1) = false := by rfl) : ME X ca W (.Call (.Name "min" p) (e :: es) [] pos) (mCall fMinA ms) :=
  me_callB (CallR.or (CallR.or (cr_min hc) (call_min2 hc)) (CallR.or (cr_minD2 hc (hu64 hr)) (cr_minDL hc (hu64 hr)))) cm_minA hm (by decide +kernel) ha hg (by decide) (by decide) he hpl
end
end AG
/-! OrdB: the parts of ordinals that the program takes; sizes. -/
namespace AG
open PySem L2
namespace O
/-- last part that is a number; what stands before it -/
def fin : O → Int
  | z => 0
  | c p n z => if p = z then n else 0
  | c _ _ r => fin r
def opn : O → O
  | z => z
  | c p n z => if p = z then z else c p n z
  | c p n r => c p n (opn r)
/-- all but the last pair; the last one -/
def front : O → O
  | z => z
  | c _ _ z => z
  | c p n r => c p n (front r)
def lastP : O → O
  | z => z
  | c p _ z => p
  | c _ _ r => lastP r
def lastN : O → Int
  | z => 0
  | c _ n z => n
  | c _ _ r => lastN r
theorem its_front : ∀ {o : O}, o ≠ z → o.its = (front o).its ++ [.tup [(lastP o).enc, .int (lastN o)]]
  | z, h => absurd rfl h
  | c p n z, _ => rfl
  | c p n (c q m s), _ => by
    rw [its_c, its_front (o := c q m s) (by simp)]
    rfl
theorem fin_last : ∀ o : O, fin o = if lastP o = z then lastN o else 0
  | z => rfl
  | c p n z => rfl
  | c p n (c q m s) => fin_last (c q m s)
theorem opn_front : ∀ {o : O}, o ≠ z → opn o = if lastP o = z then front o else o
  | z, h => absurd rfl h
  | c p n z, _ => rfl
  | c p n (c q m s), _ => by
    have := opn_front (o := c q m s) (by simp)
    show c p n (opn (c q m s)) = _
    rw [this]
    show c p n (if lastP (c q m s) = z then front (c q m s) else c q m s) = if lastP (c q m s) = z then c p n (front (c q m s)) else c p n (c q m s)
    split <;> rfl
theorem lastN_pos : ∀ {o : O}, nf o → o ≠ z → 1 ≤ lastN o
  | z, _, h => absurd rfl h
  | c p n z, h, _ => h.2.1
  | c p n (c q m s), h, _ => lastN_pos (o := c q m s) h.2.2.2 (by simp)
theorem lastP_dp : ∀ (o : O), (lastP o).dp ≤ o.dp - 1
  | z => Nat.zero_le _
  | c p n z => by simp [lastP, dp]
  | c p n (c q m s) => by
    have := lastP_dp (c q m s)
    show (lastP (c q m s)).dp ≤ _
    have h : (c q m s).dp ≤ (c p n (c q m s)).dp := Nat.le_max_right _ _
    omega
theorem at_neg1 {o : O} (h : o ≠ z) : atI o.its (-1) = some (.tup [(lastP o).enc, .int (lastN o)]) := by
  rw [its_front h]
  have l : ((front o).its ++ [D.tup [(lastP o).enc, .int (lastN o)]]).length = (front o).its.length + 1 := by simp
  have : ixN ((front o).its.length + 1) (-1) = some (front o).its.length := by
    unfold ixN
    rw [if_neg (by omega)]
    have : (-1 : Int) + (((front o).its.length + 1 : Nat) : Int) = ((front o).its.length : Int) := by omega
    simp [this]
    try omega
  unfold atI
  rw [l, this]
  simp
theorem cut_neg1 {o : O} : cutD o.its none (some (-1)) = (front o).its := by
  by_cases h : o = z
  · subst h; rfl
  · have e := its_front h
    have e2 : HT.sIx o.its.length o.its.length (some (-1)) = (front o).its.length := by
      rw [e]
      simp [HT.sIx]
      try omega
    have e1 : HT.sIx o.its.length 0 none = 0 := rfl
    unfold cutD
    rw [e1, e2, e]
    simp
theorem cut_1 {p r : O} {n : Int} : cutD (c p n r).its (some 1) none = r.its := by
  have e1 : HT.sIx (c p n r).its.length 0 (some 1) = 1 := by
    rw [its_c]
    simp [HT.sIx]
    try omega
  have e2 : HT.sIx (c p n r).its.length (c p n r).its.length none = (c p n r).its.length := rfl
  unfold cutD
  rw [e1, e2, its_c]
  simp
/-- what stays of a below a place; the number at it -/
def kept (q : O) : O → O
  | z => z
  | c p n r => if lt q p = true then c p n (kept q r) else kept q r
def numAt (q : O) : O → Int
  | z => 0
  | c p n r => (if p = q then n else 0) + numAt q r
/-- one after the other -/
def app : O → O → O
  | z, b => b
  | c p n r, b => c p n (app r b)
theorem its_app : ∀ a b : O, (app a b).its = a.its ++ b.its
  | z, b => rfl
  | c p n r, b => by rw [app, its_c, its_c, its_app r b]; rfl
theorem under_kept {p q : O} : ∀ {r : O}, lt q p = false → under p r → nf r → kept q r = z
  | z, _, _, _ => rfl
  | c t n r, h, u, f => by
    have u : lt t p = true := u
    have h1 : lt q t = false := by
      cases e : lt q t with
      | false => rfl
      | true => rw [lt_trans e u] at h; cases h
    rw [kept, if_neg (by rw [h1]; decide)]
    exact under_kept h1 f.2.2.1 f.2.2.2
theorem under_numAt {q : O} : ∀ {r : O} {p : O}, lt q p = false → under p r → nf r → numAt q r = 0
  | z, _, _, _, _ => rfl
  | c t n r, p, h, u, f => by
    have u : lt t p = true := u
    have h1 : t ≠ q := fun e => by subst e; rw [u] at h; cases h
    have h2 : lt q t = false := by
      cases e : lt q t with
      | false => rfl
      | true => rw [lt_trans e u] at h; cases h
    rw [numAt, if_neg h1, under_numAt h2 f.2.2.1 f.2.2.2]
    rfl
theorem plus_kept : ∀ {a q s : O} {m : Int}, nf a → plus a (c q m s) = app (kept q a) (c q (numAt q a + m) s)
  | z, q, s, m, _ => by simp [kept, numAt, app]
  | c p n r, q, s, m, h => by
    rcases tri p q with e | e | e
    · have l : lt q p = false := lt_asymm e
      have lq : p ≠ q := lt_ne e
      rw [plus_lt e, kept, if_neg (by rw [l]; decide), under_kept l h.2.2.1 h.2.2.2, numAt, if_neg lq, under_numAt l h.2.2.1 h.2.2.2]
      simp [app]
    · subst e
      rw [plus_eq, kept, if_neg (by rw [lt_irrefl]; decide), under_kept (lt_irrefl p) h.2.2.1 h.2.2.2, numAt, if_pos rfl, under_numAt (lt_irrefl p) h.2.2.1 h.2.2.2]
      simp [app]
    · have lq : p ≠ q := fun w => by subst w; exact lt_nn e
      rw [plus_gt e, kept, if_pos e, numAt, if_neg lq, plus_kept h.2.2.2]
      simp [app]
/-- pairs of the open part of b, the place of a added -/
def shift (p : O) : O → O
  | z => z
  | c q m s => c (plus p q) m (shift p s)
theorem times_shift : ∀ {b p r : O} {n : Int}, nf b → times (c p n r) b = app (shift p (opn b)) (if fin b = 0 then z else c p (n * fin b) r)
  | z, p, r, n, _ => by simp [opn, shift, app, fin]
  | c q m z, p, r, n, h => by
    have hm := h.2.1
    by_cases e : q = z
    · subst e
      have : ¬ m = 0 := by omega
      simp [times_fin, opn, shift, app, fin, this]
    · simp [times_inf e, opn, shift, app, fin, e]
  | c q m (c u k v), p, r, n, h => by
    have hu : lt u q = true := h.2.2.1
    have e : q ≠ z := fun w => by subst w; rw [lt_x_z] at hu; cases hu
    rw [times_inf e, times_shift (b := c u k v) h.2.2.2]
    rfl
/-! sizes -/
/-- pairs in all -/
def pc : O → Nat
  | z => 0
  | c p _ r => 1 + pc p + pc r
/-- the greatest number -/
def gn : O → Int
  | z => 0
  | c p n r => max2 (max2 n (gn p)) (gn r)
/-- pairs in the places, at most -/
def pe : O → Nat
  | z => 0
  | c p _ r => max (pc p) (pe r)
theorem pc_le : ∀ a : O, pc a ≤ len a * (1 + pe a)
  | z => Nat.zero_le _
  | c p n r => by
    have h := pc_le r
    have h1 : pc p ≤ max (pc p) (pe r) := Nat.le_max_left _ _
    have h2 : pe r ≤ max (pc p) (pe r) := Nat.le_max_right _ _
    have h3 : len r * (1 + pe r) ≤ len r * (1 + max (pc p) (pe r)) := Nat.mul_le_mul_left _ (by omega)
    simp only [pc, len, pe, Nat.add_mul, Nat.one_mul]
    omega
theorem len_pc : ∀ a : O, len a ≤ pc a
  | z => Nat.le_refl _
  | c p n r => by have := len_pc r; simp only [len, pc]; omega
theorem plus_pc : ∀ a b : O, pc (plus a b) ≤ pc a + pc b
  | z, b => by simp [pc]
  | c p n r, z => by simp
  | c p n r, c q m s => by
    rcases tri p q with e | e | e
    · rw [plus_lt e]; omega
    · subst e; rw [plus_eq]; simp only [pc]; omega
    · rw [plus_gt e]
      have := plus_pc r (c q m s)
      simp only [pc] at this ⊢
      omega
theorem plus_len : ∀ a b : O, len (plus a b) ≤ len a + len b
  | z, b => by simp [len]
  | c p n r, z => by simp
  | c p n r, c q m s => by
    rcases tri p q with e | e | e
    · rw [plus_lt e]; omega
    · subst e; rw [plus_eq]; simp only [len]; omega
    · rw [plus_gt e]
      have := plus_len r (c q m s)
      simp only [len] at this ⊢
      omega
theorem plus_pe : ∀ a b : O, pe (plus a b) ≤ max (pe a) (pe b)
  | z, b => by simp [pe]
  | c p n r, z => by simp [pe]
  | c p n r, c q m s => by
    rcases tri p q with e | e | e
    · rw [plus_lt e]; simp only [pe]; omega
    · subst e; rw [plus_eq]; simp only [pe]; omega
    · rw [plus_gt e]
      have := plus_pe r (c q m s)
      simp only [pe] at this ⊢
      omega
theorem plus_dp : ∀ a b : O, dp (plus a b) ≤ max (dp a) (dp b)
  | z, b => by simp [dp]
  | c p n r, z => by simp [dp]
  | c p n r, c q m s => by
    rcases tri p q with e | e | e
    · rw [plus_lt e]; simp only [dp]; omega
    · subst e; rw [plus_eq]; simp only [dp]; omega
    · rw [plus_gt e]
      have := plus_dp r (c q m s)
      simp only [dp] at this ⊢
      omega
theorem le_max2 {a b : Int} : a ≤ max2 a b ∧ b ≤ max2 a b := by unfold max2; split <;> omega
theorem max2_le {a b x : Int} (h1 : a ≤ x) (h2 : b ≤ x) : max2 a b ≤ x := by unfold max2; split <;> omega
theorem gn_nn : ∀ {a : O}, nf a → 0 ≤ gn a
  | z, _ => Int.le_refl _
  | c p n r, h => by
    have h1 := h.2.1
    have h2 := (le_max2 (a := n) (b := gn p)).1
    have h3 := (le_max2 (a := max2 n (gn p)) (b := gn r)).1
    simp only [gn]; omega
theorem gn_le {p r : O} {n x : Int} (h : gn (c p n r) ≤ x) : n ≤ x ∧ gn p ≤ x ∧ gn r ≤ x := by
  have h1 := le_max2 (a := n) (b := gn p)
  have h3 := le_max2 (a := max2 n (gn p)) (b := gn r)
  simp only [gn] at h
  omega
theorem le_gn {p r : O} {n x : Int} (h1 : n ≤ x) (h2 : gn p ≤ x) (h3 : gn r ≤ x) : gn (c p n r) ≤ x := max2_le (max2_le h1 h2) h3
theorem plus_gn : ∀ {a b : O} {x y : Int}, nf a → nf b → gn a ≤ x → gn b ≤ y → gn (plus a b) ≤ x + y
  | z, b, x, y, ha, hb, h1, h2 => by have h1 : (0 : Int) ≤ x := h1; rw [plus_zl]; omega
  | c p n r, z, x, y, ha, hb, h1, h2 => by have h2 : (0 : Int) ≤ y := h2; rw [plus_zr]; omega
  | c p n r, c q m s, x, y, ha, hb, h1, h2 => by
    have i1 := gn_nn ha
    have i2 := gn_nn hb
    have j1 := gn_le h1
    have j2 := gn_le h2
    rcases tri p q with e | e | e
    · rw [plus_lt e]; omega
    · subst e; rw [plus_eq]
      exact le_gn (by omega) (by omega) (by omega)
    · rw [plus_gt e]
      exact le_gn (by omega) (by omega) (plus_gn ha.2.2.2 hb j1.2.2 h2)
theorem times_len : ∀ a b : O, len (times a b) ≤ len a + len b
  | z, b => by simp [len]
  | c p n r, z => by simp [len]
  | c p n r, c q m s => by
    by_cases e : q = z
    · subst e; rw [times_fin]; simp only [len]; omega
    · rw [times_inf e]
      have := times_len (c p n r) s
      simp only [len] at this ⊢
      omega
theorem times_pe : ∀ a b : O, pe (times a b) ≤ pe a + pe b
  | z, b => by simp [pe]
  | c p n r, z => by simp [pe]
  | c p n r, c q m s => by
    by_cases e : q = z
    · subst e; rw [times_fin]; simp only [pe]; omega
    · rw [times_inf e]
      have := times_pe (c p n r) s
      have h2 := plus_pc p q
      simp only [pe] at this ⊢
      omega
theorem times_dp : ∀ a b : O, dp (times a b) ≤ max (dp a) (dp b)
  | z, b => by simp [dp]
  | c p n r, z => by simp [dp]
  | c p n r, c q m s => by
    by_cases e : q = z
    · subst e; rw [times_fin]; simp only [dp]; omega
    · rw [times_inf e]
      have := times_dp (c p n r) s
      have h2 := plus_dp p q
      simp only [dp] at this ⊢
      omega
/-- numbers under a power of two -/
def gb (g : Nat) (a : O) : Prop := gn a + 1 ≤ 2 ^ g
theorem two_pos (g : Nat) : (1 : Int) ≤ 2 ^ g := by
  have : 0 < 2 ^ g := Nat.two_pow_pos g
  have h : ((2 ^ g : Nat) : Int) = 2 ^ g := by simp
  omega
theorem pow_add2 {g k : Nat} : (2 : Int) ^ (g + k) = 2 ^ g * 2 ^ k := Int.pow_add _ _ _
theorem sum_le {x y g k : Int} (h1 : x + 1 ≤ g) (h2 : y + 1 ≤ k) (h3 : 0 ≤ x) (h4 : 0 ≤ y) : x + y + 1 ≤ g * k ∧ x * y + 1 ≤ g * k ∧ x + 1 ≤ g * k ∧ y + 1 ≤ g * k := by
  have : (x + 1) * (y + 1) ≤ g * k := Int.mul_le_mul h1 h2 (by omega) (by omega)
  have e : (x + 1) * (y + 1) = x * y + x + y + 1 := by rw [Int.add_mul, Int.mul_add]; omega
  have := Int.mul_nonneg h3 h4
  omega
theorem plus_gb {a b : O} {g k : Nat} (ha : nf a) (hb : nf b) (h1 : gb g a) (h2 : gb k b) : gb (g + k) (plus a b) := by
  have i1 := gn_nn ha
  have i2 := gn_nn hb
  have := plus_gn ha hb (Int.le_refl _) (Int.le_refl _)
  have s := (sum_le h1 h2 i1 i2).1
  unfold gb
  rw [pow_add2]
  omega
theorem times_gn {X : Int} : ∀ {a b : O} {x y : Int}, nf a → nf b → gn a ≤ x → gn b ≤ y → 0 ≤ x → 0 ≤ y → x + y ≤ X → x * y ≤ X → gn (times a b) ≤ X
  | z, b, x, y, ha, hb, _, _, _, _, _, _ => by rw [times_zl]; show (0 : Int) ≤ X; omega
  | c p n r, z, x, y, ha, hb, _, _, _, _, _, _ => by rw [times_zr]; show (0 : Int) ≤ X; omega
  | c p n r, c q m s, x, y, ha, hb, h1, h2, h3, h4, h5, h6 => by
    have j1 := gn_le h1
    have j2 := gn_le h2
    have n1 := ha.2.1
    have m1 := hb.2.1
    by_cases e : q = z
    · subst e; rw [times_fin]
      have : n * m ≤ x * y := Int.mul_le_mul j1.1 j2.1 (by omega) (by omega)
      exact le_gn (by omega) (by omega) (by omega)
    · rw [times_inf e]
      have := plus_gn ha.1 hb.1 j1.2.1 j2.2.1
      exact le_gn (by omega) (by omega) (times_gn ha hb.2.2.2 h1 j2.2.2 h3 h4 h5 h6)
theorem times_gb {a b : O} {g k : Nat} (ha : nf a) (hb : nf b) (h1 : gb g a) (h2 : gb k b) : gb (g + k) (times a b) := by
  have i1 := gn_nn ha
  have i2 := gn_nn hb
  have s := sum_le h1 h2 i1 i2
  unfold gb
  rw [pow_add2]
  have := times_gn (X := 2 ^ g * 2 ^ k - 1) ha hb (Int.le_refl _) (Int.le_refl _) i1 i2 (by omega) (by omega)
  omega
end O
/-- an ordinal within bounds: depth, pairs, pairs in a place, bits -/
structure Bd (d L E g : Nat) (a : O) : Prop where
  nf : a.nf
  dp : a.dp ≤ d
  len : a.len ≤ L
  pe : a.pe ≤ E
  gb : O.gb g a
namespace Bd
variable {d L E g d' L' E' g' : Nat} {a b : O}
theorem plus (h : Bd d L E g a) (k : Bd d' L' E' g' b) : Bd (max d d') (L + L') (max E E') (g + g') (O.plus a b) :=
  ⟨O.nf_plus h.nf k.nf, Nat.le_trans (O.plus_dp a b) (by have := h.dp; have := k.dp; omega), Nat.le_trans (O.plus_len a b) (by have := h.len; have := k.len; omega), Nat.le_trans (O.plus_pe a b) (by have := h.pe; have := k.pe; omega), O.plus_gb h.nf k.nf h.gb k.gb⟩
theorem times (h : Bd d L E g a) (k : Bd d' L' E' g' b) : Bd (max d d') (L + L') (E + E') (g + g') (O.times a b) :=
  ⟨O.nf_times h.nf k.nf, Nat.le_trans (O.times_dp a b) (by have := h.dp; have := k.dp; omega), Nat.le_trans (O.times_len a b) (by have := h.len; have := k.len; omega), Nat.le_trans (O.times_pe a b) (by have := h.pe; have := k.pe; omega), O.times_gb h.nf k.nf h.gb k.gb⟩
theorem mono (h : Bd d L E g a) (h1 : d ≤ d') (h2 : L ≤ L') (h3 : E ≤ E') (h4 : g ≤ g') : Bd d' L' E' g' a :=
  ⟨h.nf, Nat.le_trans h.dp h1, Nat.le_trans h.len h2, Nat.le_trans h.pe h3, by
    have hp : (2 : Nat) ^ g ≤ 2 ^ g' := Nat.pow_le_pow_right (by decide) h4
    have e1 : ((2 ^ g : Nat) : Int) = 2 ^ g := by simp
    have e2 : ((2 ^ g' : Nat) : Int) = 2 ^ g' := by simp
    have := h.gb
    unfold O.gb at this ⊢
    omega⟩
theorem zero : Bd 0 0 0 0 .z := ⟨trivial, Nat.le_refl _, Nat.le_refl _, Nat.le_refl _, Int.le_refl _⟩
end Bd
end AG
/-! OrdC: quotients, as the program makes them; the first open ordinal. -/
namespace AG
open PySem L2
namespace O
def num (k : Int) : O := if 0 < k then c z k z else z
def om : O := c one 1 z
theorem nf_om : nf om := ⟨nf_one, Int.le_refl 1, trivial, trivial⟩
theorem nf_num {k : Int} : nf (num k) := by
  unfold num
  split
  · exact ⟨trivial, by omega, trivial, trivial⟩
  · trivial
theorem lt_one {d : O} (h : d ≠ z) (hn : nf d) : lt d one = false := by
  cases d with
  | z => exact absurd rfl h
  | c p n r =>
    unfold one
    rw [lt_c]
    by_cases e : p = z
    · rw [if_pos e]
      have := hn.2.1
      by_cases f : n = 1
      · rw [if_pos f]; exact lt_x_z _
      · rw [if_neg f]; simp; omega
    · rw [if_neg e]; exact lt_x_z _
/-- nothing stands between an ordinal and its next one -/
theorem next_le {p q : O} (hp : nf p) (hq : nf q) (h : lt p q = true) : lt q (plus p one) = false := by
  obtain ⟨h1, h2⟩ := rest_ok hp hq (lt_asymm h)
  have hz : rest p q ≠ z := fun e => by rw [e, plus_zr] at h1; rw [h1] at h; exact lt_nn h
  have h3 := lt_one hz h2
  rw [← h1, plus_lt_iff hp h2 nf_one]
  exact h3
theorem lt_next {p : O} (hp : nf p) : lt p (plus p one) = true := by
  have := plus_lt_r hp (show nf z from trivial) nf_one (show lt z one = true from lt_z_c)
  rwa [plus_zr] at this
theorem times_om {p r : O} {n : Int} : times (c p n r) om = c (plus p one) 1 z := by
  unfold om
  rw [times_inf (by simp [one]), times_zr]
/-- what a sum leaves as it is -/
theorem plus_fix {s x : O} (hs : nf s) (hx : nf x) : plus s x = x ↔ lt x (times s om) = false := by
  cases s with
  | z => simp [lt_x_z]
  | c p n r =>
    rw [times_om]
    cases x with
    | z => rw [plus_zr, lt_z_c]; simp
    | c q m t =>
      have n1 := hs.2.1
      have m1 := hx.2.1
      rcases tri p q with e | e | e
      · rw [plus_lt e]
        have := next_le hs.1 hx.1 e
        simp only [true_iff]
        rw [lt_c]
        by_cases f : q = plus p one
        · rw [if_pos f]
          by_cases g : m = 1
          · rw [if_pos g]; exact lt_x_z _
          · rw [if_neg g]; simp; omega
        · rw [if_neg f]; exact this
      · subst e
        rw [plus_eq]
        constructor
        · intro h; injection h with _ h _; omega
        · intro h
          rw [lt_c_pq (lt_next hs.1)] at h
          cases h
      · rw [plus_gt e]
        constructor
        · intro h; injection h with h _ _; subst h; exact (lt_nn e).elim
        · intro h
          rw [lt_c_pq (lt_trans e (lt_next hs.1))] at h
          cases h
/-! ### quotients -/
section
variable (q : O) (m : Int) (s : O)
/-- how often c q m s goes into c q n r -/
def many (n : Int) (r : O) : Int := if lt (c q n r) (times (c q m s) (num (n / m))) = true then n / m - 1 else n / m
def quo : O → O
  | z => z
  | c p n r => if lt q p = true then c (rest q p) n (quo r) else if lt (c p n r) (c q m s) = true then z else num (many q m s n r)
def rem : O → O
  | z => z
  | c p n r => if lt q p = true then rem r else if lt (c p n r) (c q m s) = true then c p n r else rest (times (c q m s) (num (many q m s n r))) (c p n r)
end
theorem div_mul {n m : Int} (h : 1 ≤ m) : m * (n / m) ≤ n ∧ n < m * (n / m) + m := by
  have h1 := Int.mul_ediv_self_le (x := n) (k := m) (by omega)
  have h2 := Int.lt_mul_ediv_self_add (x := n) (k := m) (by omega)
  exact ⟨h1, h2⟩
theorem times_num {q s : O} {m k : Int} (hk : 1 ≤ k) : times (c q m s) (num k) = c q (m * k) s := by
  unfold num
  rw [if_pos (by omega), times_fin]
/-- the last step of a division -/
theorem many_ok {q s r : O} {m n : Int} (hb : nf (c q m s)) (ha : nf (c q n r)) (h : lt (c q n r) (c q m s) = false) :
    1 ≤ many q m s n r ∧ lt (c q n r) (times (c q m s) (num (many q m s n r))) = false ∧ lt (rest (times (c q m s) (num (many q m s n r))) (c q n r)) (c q m s) = true ∧ many q m s n r ≤ n := by
  have m1 := hb.2.1
  have n1 := ha.2.1
  obtain ⟨d1, d2⟩ := div_mul (n := n) m1
  have nm : m ≤ n := by
    rw [lt_c, if_pos rfl] at h
    by_cases e : n = m
    · omega
    · rw [if_neg e] at h; simp at h; omega
  have k1 : 1 ≤ n / m := by
    apply Decidable.byContradiction
    intro hk
    have : n / m ≤ 0 := by omega
    have : m * (n / m) ≤ m * 0 := Int.mul_le_mul_of_nonneg_left this (by omega)
    omega
  have kn : n / m ≤ n := by
    have := le_mul1 (n := n / m) (m := m) (by omega) m1
    have e : n / m * m = m * (n / m) := Int.mul_comm _ _
    omega
  have e1 := times_num (q := q) (s := s) (m := m) k1
  by_cases c1 : lt (c q n r) (times (c q m s) (num (n / m))) = true
  · have hm : many q m s n r = n / m - 1 := by unfold many; rw [if_pos c1]
    rw [e1, lt_c, if_pos rfl] at c1
    have nk : n = m * (n / m) := by
      by_cases e : n = m * (n / m)
      · exact e
      · rw [if_neg e] at c1; simp at c1; omega
    rw [if_pos nk] at c1
    have k2 : 1 ≤ n / m - 1 := by
      apply Decidable.byContradiction
      intro hk
      have hk : n / m = 1 := by omega
      rw [hk, Int.mul_one] at nk
      rw [lt_c, if_pos rfl, if_pos nk] at h
      rw [c1] at h; cases h
    have e2 := times_num (q := q) (s := s) (m := m) k2
    have e3 : m * (n / m - 1) = n - m := by rw [Int.mul_sub, Int.mul_one]; omega
    rw [hm, e2, e3]
    refine ⟨k2, ?_, ?_, by omega⟩
    · rw [lt_c, if_pos rfl, if_neg (by omega)]; simp; omega
    · rw [rest, if_pos rfl, if_neg (by omega)]
      have : n - (n - m) = m := by omega
      rw [this, lt_c, if_pos rfl, if_pos rfl]
      exact c1
  · have hm : many q m s n r = n / m := by unfold many; rw [if_neg c1]
    have c1' : lt (c q n r) (times (c q m s) (num (n / m))) = false := by simpa using c1
    rw [hm]
    refine ⟨k1, c1', ?_, kn⟩
    rw [e1] at c1' ⊢
    rw [rest, if_pos rfl]
    by_cases e : m * (n / m) = n
    · rw [if_pos e]
      rw [lt_c, if_pos rfl, if_pos e.symm] at c1'
      obtain ⟨i1, i2⟩ := rest_ok hb.2.2.2 ha.2.2.2 c1'
      cases w : rest s r with
      | z => exact lt_z_c
      | c u k v =>
        refine lt_c_pq ?_
        have hr := ha.2.2.1
        rw [← i1, w] at hr
        cases s with
        | z => rw [plus_zl] at hr; exact hr
        | c u' k' v' =>
          rcases tri u' u with g | g | g
          · rw [plus_lt g] at hr; exact hr
          · subst g; exact hb.2.2.1
          · exact lt_trans g hb.2.2.1
    · rw [if_neg e, lt_c, if_pos rfl, if_neg (by omega)]
      simp; omega
theorem lt_p {p q s r : O} {n m : Int} (h : lt q p = false) (k : lt (c p n r) (c q m s) = false) : p = q := by
  rcases tri p q with e | e | e
  · rw [lt_c_pq e] at k; cases k
  · exact e
  · rw [e] at h; cases h
theorem rest_ne {p q : O} (hp : nf p) (hq : nf q) (h : lt p q = true) : rest p q ≠ z := fun e => by
  obtain ⟨h1, _⟩ := rest_ok hp hq (lt_asymm h)
  rw [e, plus_zr] at h1
  rw [h1] at h
  exact lt_nn h
theorem rest_lt {q p t : O} (hq : nf q) (hp : nf p) (ht : nf t) (h : lt q t = true) (k : lt t p = true) : lt (rest q t) (rest q p) = true := by
  obtain ⟨h1, h2⟩ := rest_ok hq ht (lt_asymm h)
  obtain ⟨h3, h4⟩ := rest_ok hq hp (lt_asymm (lt_trans h k))
  rw [← h1, ← h3, plus_lt_iff hq h2 h4] at k
  exact k
theorem under_quo {q s : O} {m : Int} (hq : nf q) {p : O} (hp : nf p) (hqp : lt q p = true) : ∀ {r : O}, nf r → under p r → under (rest q p) (quo q m s r)
  | z, _, _ => trivial
  | c t n r, hr, hu => by
    have hu : lt t p = true := hu
    unfold quo
    by_cases e : lt q t = true
    · rw [if_pos e]
      exact rest_lt hq hp hr.1 e hu
    · rw [if_neg e]
      split
      · trivial
      · unfold num
        split
        · exact z_lt (rest_ne hq hp hqp)
        · trivial
theorem div_ok {q s : O} {m : Int} (hb : nf (c q m s)) : ∀ {a : O}, nf a → nf (quo q m s a) ∧ nf (rem q m s a) ∧ lt (rem q m s a) (c q m s) = true ∧ plus (times (c q m s) (quo q m s a)) (rem q m s a) = a
  | z, _ => ⟨trivial, trivial, lt_z_c, by simp [quo, rem]⟩
  | c p n r, ha => by
    unfold quo rem
    by_cases e : lt q p = true
    · rw [if_pos e, if_pos e]
      obtain ⟨h1, h2, h3, h4⟩ := div_ok hb ha.2.2.2
      obtain ⟨r1, r2⟩ := rest_ok hb.1 ha.1 (lt_asymm e)
      refine ⟨⟨r2, ha.2.1, under_quo hb.1 ha.1 e ha.2.2.2 ha.2.2.1, h1⟩, h2, h3, ?_⟩
      rw [times_inf (rest_ne hb.1 ha.1 e), r1]
      have : plus (c p n (times (c q m s) (quo q m s r))) (rem q m s r) = c p n (plus (times (c q m s) (quo q m s r)) (rem q m s r)) := by
        cases w : rem q m s r with
        | z => rw [plus_zr, plus_zr]
        | c u k v =>
          refine plus_gt ?_
          rw [w] at h3
          rw [lt_c] at h3
          by_cases f : u = q
          · rw [f]; exact e
          · rw [if_neg f] at h3; exact lt_trans h3 e
      rw [this, h4]
    · rw [if_neg e, if_neg e]
      have e' : lt q p = false := by simpa using e
      by_cases f : lt (c p n r) (c q m s) = true
      · rw [if_pos f, if_pos f]
        exact ⟨trivial, ha, f, by simp⟩
      · rw [if_neg f, if_neg f]
        have f' : lt (c p n r) (c q m s) = false := by simpa using f
        have := lt_p e' f'
        subst this
        obtain ⟨k1, k2, k3, _⟩ := many_ok hb ha f'
        obtain ⟨i1, i2⟩ := rest_ok (nf_times hb nf_num) ha k2
        exact ⟨nf_num, i2, k3, i1⟩
/-! sizes of rests and quotients -/
theorem rest_len : ∀ a b : O, len (rest a b) ≤ len b
  | z, b => by rw [rest]; exact Nat.le_refl _
  | c p n r, z => by rw [rest]; exact Nat.le_refl _
  | c p n r, c q m s => by
    have := rest_len r s
    rw [rest]
    split
    · split <;> simp only [len] <;> omega
    · exact Nat.le_refl _
theorem rest_pc : ∀ a b : O, pc (rest a b) ≤ pc b
  | z, b => by rw [rest]; exact Nat.le_refl _
  | c p n r, z => by rw [rest]; exact Nat.le_refl _
  | c p n r, c q m s => by
    have := rest_pc r s
    rw [rest]
    split
    · split <;> simp only [pc] <;> omega
    · exact Nat.le_refl _
theorem rest_pe : ∀ a b : O, pe (rest a b) ≤ pe b
  | z, b => by rw [rest]; exact Nat.le_refl _
  | c p n r, z => by rw [rest]; exact Nat.le_refl _
  | c p n r, c q m s => by
    have := rest_pe r s
    rw [rest]
    split
    · split <;> simp only [pe] <;> omega
    · exact Nat.le_refl _
theorem rest_dp : ∀ a b : O, dp (rest a b) ≤ dp b
  | z, b => by rw [rest]; exact Nat.le_refl _
  | c p n r, z => by rw [rest]; exact Nat.le_refl _
  | c p n r, c q m s => by
    have := rest_dp r s
    rw [rest]
    split
    · split <;> simp only [dp] <;> omega
    · exact Nat.le_refl _
theorem rest_gn : ∀ {a b : O}, nf a → nf b → gn (rest a b) ≤ gn b
  | z, b, _, _ => by rw [rest]; exact Int.le_refl _
  | c p n r, z, _, _ => by rw [rest]; exact Int.le_refl _
  | c p n r, c q m s, ha, hb => by
    have ih := rest_gn ha.2.2.2 hb.2.2.2
    have h := gn_le (Int.le_refl (gn (c q m s)))
    have n1 := ha.2.1
    rw [rest]
    split
    · split
      · omega
      · exact le_gn (by omega) (by omega) (by omega)
    · exact Int.le_refl _
theorem quo_len {q s : O} {m : Int} : ∀ a : O, len (quo q m s a) ≤ len a
  | z => Nat.le_refl _
  | c p n r => by
    have := quo_len (q := q) (s := s) (m := m) r
    unfold quo
    split
    · simp only [len]; omega
    · split
      · exact Nat.zero_le _
      · unfold num; split <;> simp [len]
theorem quo_pe {q s : O} {m : Int} : ∀ a : O, pe (quo q m s a) ≤ pe a
  | z => Nat.le_refl _
  | c p n r => by
    have := quo_pe (q := q) (s := s) (m := m) r
    have h2 := rest_pc q p
    unfold quo
    split
    · simp only [pe]; omega
    · split
      · exact Nat.zero_le _
      · unfold num; split <;> simp [pe, pc]
theorem quo_dp {q s : O} {m : Int} : ∀ a : O, dp (quo q m s a) ≤ dp a
  | z => Nat.le_refl _
  | c p n r => by
    have := quo_dp (q := q) (s := s) (m := m) r
    have h2 := rest_dp q p
    unfold quo
    split
    · simp only [dp]; omega
    · split
      · exact Nat.zero_le _
      · unfold num; split
        · simp only [dp]; omega
        · exact Nat.zero_le _
theorem many_le {q s r : O} {m n : Int} (hm : 1 ≤ m) (hn : 1 ≤ n) : many q m s n r ≤ n := by
  obtain ⟨d1, d2⟩ := div_mul (n := n) hm
  have kn : n / m ≤ n := by
    by_cases h : n / m ≤ 0
    · omega
    · have := le_mul1 (n := n / m) (m := m) (by omega) hm
      have e : n / m * m = m * (n / m) := Int.mul_comm _ _
      omega
  unfold many
  split <;> omega
theorem quo_gn {q s : O} {m : Int} (hb : nf (c q m s)) : ∀ {a : O}, nf a → gn (quo q m s a) ≤ gn a
  | z, _ => Int.le_refl _
  | c p n r, ha => by
    have ih := quo_gn hb ha.2.2.2
    have h := gn_le (Int.le_refl (gn (c p n r)))
    have h2 := rest_gn hb.1 ha.1
    have n1 := ha.2.1
    unfold quo
    split
    · exact le_gn (by omega) (by omega) (by omega)
    · split
      · show (0 : Int) ≤ _; omega
      · have := many_le (q := q) (s := s) (r := r) hb.2.1 n1
        unfold num
        split
        · exact le_gn (by omega) (show (0 : Int) ≤ _ by omega) (show (0 : Int) ≤ _ by omega)
        · show (0 : Int) ≤ _; omega
theorem rem_len {q s : O} {m : Int} : ∀ a : O, len (rem q m s a) ≤ len a
  | z => Nat.le_refl _
  | c p n r => by
    have := rem_len (q := q) (s := s) (m := m) r
    unfold rem
    split
    · simp only [len]; omega
    · split
      · exact Nat.le_refl _
      · exact rest_len _ _
theorem rem_pe {q s : O} {m : Int} : ∀ a : O, pe (rem q m s a) ≤ pe a
  | z => Nat.le_refl _
  | c p n r => by
    have := rem_pe (q := q) (s := s) (m := m) r
    unfold rem
    split
    · simp only [pe]; omega
    · split
      · exact Nat.le_refl _
      · exact rest_pe _ _
theorem rem_dp {q s : O} {m : Int} : ∀ a : O, dp (rem q m s a) ≤ dp a
  | z => Nat.le_refl _
  | c p n r => by
    have := rem_dp (q := q) (s := s) (m := m) r
    unfold rem
    split
    · simp only [dp]; omega
    · split
      · exact Nat.le_refl _
      · exact rest_dp _ _
theorem rem_gn {q s : O} {m : Int} (hb : nf (c q m s)) : ∀ {a : O}, nf a → gn (rem q m s a) ≤ gn a
  | z, _ => Int.le_refl _
  | c p n r, ha => by
    have ih := rem_gn hb ha.2.2.2
    have h := gn_le (Int.le_refl (gn (c p n r)))
    unfold rem
    split
    · omega
    · split
      · exact Int.le_refl _
      · exact rest_gn (nf_times hb nf_num) ha
end O
end AG
/-! OrdD: what functions of sums and products leave as it is; classes of ordinals with few places. -/
namespace AG
open PySem L2
namespace O
/-! ### lesser and under -/
theorem lt_w {a p : O} (ha : nf a) : lt a (c p 1 z) = true ↔ under p a := by
  cases a with
  | z => exact ⟨fun _ => trivial, fun _ => lt_z_c⟩
  | c q n r =>
    have n1 := ha.2.1
    show _ ↔ lt q p = true
    rw [lt_c]
    by_cases e : q = p
    · rw [if_pos e, e]
      by_cases f : n = 1
      · rw [if_pos f, lt_x_z, lt_irrefl]
      · rw [if_neg f, lt_irrefl]; simp; omega
    · rw [if_neg e]
theorem lt_plus {a b p : O} (ha : nf a) (hb : nf b) (h1 : lt a (c p 1 z) = true) (h2 : lt b (c p 1 z) = true) : lt (plus a b) (c p 1 z) = true :=
  (lt_w (nf_plus ha hb)).mpr (under_plus ((lt_w ha).mp h1) ((lt_w hb).mp h2))
theorem under_times2 {p : O} : ∀ {a b : O}, nf a → nf b → under (c p 1 z) a → under (c p 1 z) b → under (c p 1 z) (times a b)
  | z, b, _, _, _, _ => by rw [times_zl]; trivial
  | c q n r, z, _, _, _, _ => by rw [times_zr]; trivial
  | c q n r, c t m s, ha, hb, h1, h2 => by
    by_cases e : t = z
    · subst e; rw [times_fin]; exact h1
    · rw [times_inf e]
      exact lt_plus ha.1 hb.1 h1 h2
theorem lt_times {a b p : O} (ha : nf a) (hb : nf b) (h1 : lt a (c (c p 1 z) 1 z) = true) (h2 : lt b (c (c p 1 z) 1 z) = true) : lt (times a b) (c (c p 1 z) 1 z) = true :=
  (lt_w (nf_times ha hb)).mpr (under_times2 ha hb ((lt_w ha).mp h1) ((lt_w hb).mp h2))
/-! ### places that are numbers -/
theorem fin_lt {t : O} {k : Int} (ht : nf t) (h : lt t (c z k z) = true) : t = z ∨ ∃ i, t = c z i z ∧ 1 ≤ i ∧ i < k := by
  cases t with
  | z => exact .inl rfl
  | c p n r =>
    have n1 := ht.2.1
    rw [lt_c] at h
    by_cases e : p = z
    · subst e
      rw [if_pos rfl] at h
      have hr := under_z ht.2.2.1
      subst hr
      by_cases f : n = k
      · rw [if_pos f, lt_x_z] at h; cases h
      · rw [if_neg f] at h; simp at h; exact .inr ⟨n, rfl, n1, h⟩
    · rw [if_neg e, lt_x_z] at h; cases h
theorem len_fin : ∀ {e : O} {k : Nat}, nf e → 1 ≤ k → under (c z k z) e → len e ≤ k ∧ dp e ≤ 2 ∧ pc e ≤ 2 * k
  | z, k, _, _, _ => ⟨Nat.zero_le _, Nat.zero_le _, Nat.zero_le _⟩
  | c t n r, k, he, hk, hu => by
    rcases fin_lt he.1 hu with rfl | ⟨i, rfl, i1, i2⟩
    · have := under_z he.2.2.1
      subst this
      exact ⟨by simp [len]; omega, by simp [dp], by simp [pc]; omega⟩
    · obtain ⟨j, rfl⟩ : ∃ j : Nat, i = j := ⟨i.toNat, by omega⟩
      obtain ⟨h1, h2, h3⟩ := len_fin (k := j) he.2.2.2 (by omega) he.2.2.1
      refine ⟨by simp only [len]; omega, ?_, by simp only [pc]; omega⟩
      simp only [dp]
      omega
/-- w to the k, w to this -/
def wk (k : Nat) : O := c (c z k z) 1 z
def ww (k : Nat) : O := c (wk k) 1 z
theorem wk_len {e : O} {k : Nat} (he : nf e) (hk : 1 ≤ k) (h : lt e (wk k) = true) : len e ≤ k ∧ dp e ≤ 2 ∧ pc e ≤ 2 * k := len_fin he hk ((lt_w he).mp h)
theorem ww_pe {k : Nat} (hk : 1 ≤ k) : ∀ {a : O}, nf a → under (wk k) a → pe a ≤ 2 * k ∧ dp a ≤ 3
  | z, _, _ => ⟨Nat.zero_le _, Nat.zero_le _⟩
  | c p n r, ha, hu => by
    obtain ⟨h1, h2, h3⟩ := wk_len ha.1 hk hu
    obtain ⟨i1, i2⟩ := ww_pe hk ha.2.2.2 (under_trans hu ha.2.2.1)
    exact ⟨by simp only [pe]; omega, by simp only [dp]; omega⟩
theorem ww_mono {k j : Nat} (h : k ≤ j) {a : O} (ha : lt a (ww k) = true) : lt a (ww j) = true := by
  by_cases e : k = j
  · rw [← e]; exact ha
  · refine lt_trans ha ?_
    unfold ww wk
    refine lt_c_pq (lt_c_pq ?_)
    rw [lt_c, if_pos rfl, if_neg (by omega)]
    simp; omega

/-! ### products do not fall below their right side -/
theorem times_ge_r : ∀ {a b : O}, nf a → a ≠ z → nf b → lt (times a b) b = false
  | z, b, _, h, _ => absurd rfl h
  | c p n r, z, _, _, _ => lt_x_z _
  | c p n r, c q m s, ha, h0, hb => by
    have n1 := ha.2.1
    have m1 := hb.2.1
    by_cases e : q = z
    · subst e
      have := under_z hb.2.2.1
      subst this
      rw [times_fin, lt_c]
      by_cases f : p = z
      · rw [if_pos f]
        have g := le_mul1 (n := m) (m := n) (by omega) n1
        have e : m * n = n * m := Int.mul_comm _ _
        by_cases w : n * m = m
        · rw [if_pos w]; exact lt_x_z _
        · rw [if_neg w]; simp; omega
      · rw [if_neg f]; exact lt_x_z _
    · rw [times_inf e, lt_c]
      by_cases f : plus p q = q
      · rw [if_pos f, if_pos rfl]
        exact times_ge_r ha h0 hb.2.2.2
      · rw [if_neg f]
        exact plus_ge_r ha.1 hb.1
theorem fix_iff {s f x : O} (hs : nf s) (hf : nf f) (h0 : f ≠ z) (hx : nf x) : plus s (times f x) = x ↔ plus s x = x ∧ times f x = x := by
  constructor
  · intro h
    have h1 := plus_ge_r hs (nf_times hf hx)
    rw [h] at h1
    have h2 := times_ge_r hf h0 hx
    have e := le_anti h1 h2
    rw [e] at h
    exact ⟨h, e⟩
  · rintro ⟨h1, h2⟩
    rw [h2, h1]
/-! ### a to the first open power -/
def aw : O → O
  | z => z
  | c p _ _ => if p = z then om else c (times p om) 1 z
theorem aw_1 {r : O} {n : Int} : aw (c z n r) = om := by simp [aw]
theorem aw_2 {p r : O} {n : Int} (h : p ≠ z) : aw (c p n r) = c (times p om) 1 z := by simp [aw, h]
theorem nf_aw {f : O} (hf : nf f) : nf (aw f) := by
  cases f with
  | z => trivial
  | c p n r =>
    by_cases e : p = z
    · subst e; rw [aw_1]; exact nf_om
    · rw [aw_2 e]; exact ⟨nf_times hf.1 nf_om, Int.le_refl 1, trivial, trivial⟩
theorem aw_c {f : O} (h0 : f ≠ z) : ∃ e, aw f = c e 1 z := by
  cases f with
  | z => exact absurd rfl h0
  | c p n r =>
    by_cases e : p = z
    · subst e; exact ⟨one, aw_1⟩
    · exact ⟨_, aw_2 e⟩
theorem times_aw {f : O} (hf : nf f) (h0 : f ≠ z) : times f (aw f) = aw f := by
  cases f with
  | z => exact absurd rfl h0
  | c p n r =>
    by_cases e : p = z
    · subst e
      rw [aw_1]
      unfold om
      rw [times_inf (by simp [one]), times_zr, plus_zl]
    · rw [aw_2 e]
      have hz : times p om ≠ z := fun w => (times_eq_z w).elim e (by simp [om])
      rw [times_inf hz, times_zr, (plus_fix hf.1 (nf_times hf.1 nf_om)).mpr (lt_irrefl _)]
/-- only the multiples of its open power are left as they are -/
theorem small_fix {f r e : O} (hf : nf f) (h0 : f ≠ z) (h1 : f ≠ one) (hr : nf r) (he : aw f = c e 1 z) (hl : lt r (aw f) = true) (h : times f r = r) : r = z := by
  cases r with
  | z => rfl
  | c u k v =>
    exfalso
    rw [he, lt_w hr] at hl
    have hl : lt u e = true := hl
    have k1 := hr.2.1
    cases f with
    | z => exact h0 rfl
    | c p n t =>
      have n1 := hf.2.1
      by_cases w : p = z
      · subst w
        rw [aw_1] at he
        have he : one = e := by unfold om at he; injection he
        have ht := under_z hf.2.2.1
        subst ht
        have hu : u = z := by
          apply Decidable.byContradiction
          intro hu
          rw [← he, lt_one hu hr.1] at hl
          cases hl
        subst hu
        rw [times_fin] at h
        injection h with _ h _
        have n2 : 2 ≤ n := by
          apply Decidable.byContradiction
          intro hn
          exact h1 (by rw [show n = 1 by omega]; rfl)
        have : 2 * k ≤ n * k := Int.mul_le_mul_of_nonneg_right n2 (by omega)
        omega
      · rw [aw_2 w] at he
        have he : times p om = e := by injection he
        by_cases hu : u = z
        · subst hu
          rw [times_fin] at h
          injection h with h _ _
          exact w h
        · rw [times_inf hu] at h
          injection h with h _ _
          have := (plus_fix hf.1 hr.1).mp h
          rw [he] at this
          rw [this] at hl
          cases hl
theorem mul_fix {f x : O} (hf : nf f) (h0 : f ≠ z) (h1 : f ≠ one) (hx : nf x) : times f x = x ↔ ∃ y, nf y ∧ x = times (aw f) y := by
  constructor
  · intro h
    obtain ⟨e, he⟩ := aw_c h0
    have hw := nf_aw hf
    rw [he] at hw
    obtain ⟨d1, d2, d3, d4⟩ := div_ok hw hx
    refine ⟨_, d1, ?_⟩
    have ta := times_aw hf h0
    rw [he] at ta
    have hr : times f (rem e 1 z x) = rem e 1 z x := by
      have h' := h
      rw [← d4, times_plus hf (nf_times hw d1) d2, ← times_assoc hf hw d1, ta] at h'
      exact plus_inj (nf_times hw d1) (nf_times hf d2) d2 h'
    have := small_fix hf h0 h1 d2 he (by rw [he]; exact d3) hr
    rw [this, plus_zr] at d4
    rw [he]
    exact d4.symm
  · rintro ⟨y, hy, rfl⟩
    rw [← times_assoc hf (nf_aw hf) hy, times_aw hf h0]
/-! ### the next multiple -/
def up (e x : O) : O := if rem e 1 z x = z then times (c e 1 z) (quo e 1 z x) else times (c e 1 z) (plus (quo e 1 z x) one)
theorem up_ok {e x : O} (he : nf (c e 1 z)) (hx : nf x) : lt (up e x) x = false ∧ (∃ y, nf y ∧ up e x = times (c e 1 z) y) ∧ ∀ y, nf y → lt (times (c e 1 z) y) x = false → lt (times (c e 1 z) y) (up e x) = false := by
  obtain ⟨d1, d2, d3, d4⟩ := div_ok he hx
  have hz : c e 1 z ≠ z := by simp
  unfold up
  by_cases h : rem e 1 z x = z
  · rw [if_pos h]
    rw [h, plus_zr] at d4
    rw [d4]
    exact ⟨lt_irrefl _, ⟨_, d1, d4.symm⟩, fun y _ hl => hl⟩
  · rw [if_neg h]
    refine ⟨?_, ⟨_, nf_plus d1 nf_one, rfl⟩, fun y hy hl => ?_⟩
    · rw [times_plus he d1 nf_one, times_one]
      have := plus_lt_r (nf_times he d1) d2 he d3
      rw [d4] at this
      exact lt_asymm this
    · have q1 : lt (quo e 1 z x) y = true := by
        apply Decidable.byContradiction
        intro hq
        have hq : lt (quo e 1 z x) y = false := by simpa using hq
        have h1 : lt (times (c e 1 z) (quo e 1 z x)) (times (c e 1 z) y) = false := by
          rcases not_lt hq with g | g
          · rw [g]; exact lt_irrefl _
          · exact lt_asymm (times_lt_r he hz hy d1 g)
        have h2 : lt (times (c e 1 z) (quo e 1 z x)) x = true := by
          have := plus_lt_r (nf_times he d1) (show nf z from trivial) d2 (z_lt h)
          rwa [plus_zr, d4] at this
        rw [le_lt h1 h2] at hl
        cases hl
      have q2 := next_le d1 hy q1
      rcases not_lt q2 with g | g
      · rw [g]; exact lt_irrefl _
      · exact lt_asymm (times_lt_r he hz (nf_plus d1 nf_one) hy g)
/-! ### the least that is left as it is -/
def mxO (a b : O) : O := if lt a b = true then b else a
theorem mxO_ge {a b : O} : lt (mxO a b) a = false ∧ lt (mxO a b) b = false := by
  unfold mxO
  by_cases h : lt a b = true
  · rw [if_pos h]; exact ⟨lt_asymm h, lt_irrefl _⟩
  · rw [if_neg h]; exact ⟨lt_irrefl _, by simpa using h⟩
theorem mxO_or (a b : O) : mxO a b = a ∨ mxO a b = b := by unfold mxO; split <;> simp
theorem mxO_le {a b x : O} (h1 : lt x a = false) (h2 : lt x b = false) : lt x (mxO a b) = false := by
  rcases mxO_or a b with e | e <;> rw [e] <;> assumption
theorem nf_mxO {a b : O} (h1 : nf a) (h2 : nf b) : nf (mxO a b) := by
  rcases mxO_or a b with e | e <;> rw [e] <;> assumption
def ex (f : O) : O := match aw f with | c e _ _ => e | z => z
theorem aw_ex {f : O} (h0 : f ≠ z) : aw f = c (ex f) 1 z := by
  obtain ⟨e, he⟩ := aw_c h0
  unfold ex
  rw [he]
def low (s f start : O) : O := if s = z then mxO start (times s om) else mxO (mxO start (times s om)) (aw f)
def lf (s f start : O) : O := if f = one then mxO start (times s om) else up (ex f) (low s f start)
theorem nf_low {s f start : O} (hs : nf s) (hf : nf f) (ht : nf start) : nf (low s f start) := by
  have := nf_mxO ht (nf_times hs nf_om)
  unfold low
  split
  · exact this
  · exact nf_mxO this (nf_aw hf)
theorem lf_ok {s f start : O} (hs : nf s) (hf : nf f) (h0 : f ≠ z) (ht : nf start) :
    nf (lf s f start) ∧ plus s (times f (lf s f start)) = lf s f start ∧ lt (lf s f start) start = false ∧ ∀ x, nf x → plus s (times f x) = x → lt x start = false → lt x (lf s f start) = false := by
  have hso := nf_times hs nf_om
  have hm := nf_mxO ht hso
  obtain ⟨m1, m2⟩ := mxO_ge (a := start) (b := times s om)
  unfold lf
  by_cases h1 : f = one
  · rw [if_pos h1]
    subst h1
    refine ⟨hm, ?_, m1, fun x hx hfx hl => ?_⟩
    · rw [one_times hm]
      exact (plus_fix hs hm).mpr m2
    · rw [one_times hx] at hfx
      exact mxO_le hl ((plus_fix hs hx).mp hfx)
  · rw [if_neg h1]
    have hw := nf_aw hf
    have ew := aw_ex h0
    rw [ew] at hw
    have hl := nf_low (f := f) hs hf ht
    obtain ⟨u1, ⟨y, hy, u2⟩, u3⟩ := up_ok hw hl
    have hu : nf (up (ex f) (low s f start)) := by rw [u2]; exact nf_times hw hy
    have l1 : lt (low s f start) (mxO start (times s om)) = false := by
      unfold low
      split
      · exact lt_irrefl _
      · exact mxO_ge.1
    refine ⟨hu, ?_, le_le m1 (le_le l1 u1), fun x hx hfx hlx => ?_⟩
    · refine (fix_iff hs hf h0 hu).mpr ⟨(plus_fix hs hu).mpr (le_le m2 (le_le l1 u1)), ?_⟩
      refine (mul_fix hf h0 h1 hu).mpr ⟨y, hy, ?_⟩
      rw [ew]; exact u2
    · obtain ⟨f1, f2⟩ := (fix_iff hs hf h0 hx).mp hfx
      obtain ⟨v, hv, rfl⟩ := (mul_fix hf h0 h1 hx).mp f2
      rw [ew] at f1 f2 hfx hlx hx ⊢
      refine u3 v hv ?_
      have b1 := (plus_fix hs hx).mp f1
      have b2 := mxO_le hlx b1
      unfold low
      split
      · exact b2
      · rename_i hs0
        refine mxO_le b2 ?_
        rw [ew]
        -- a multiple that is not nothing is not below the power
        have hv0 : v ≠ z := by
          intro hv0
          subst hv0
          rw [times_zr] at b1
          have : times s om ≠ z := fun w => (times_eq_z w).elim hs0 (by simp [om])
          rw [z_lt this] at b1
          cases b1
        rcases not_lt (lt_one hv0 hv) with g | g
        · rw [g, times_one]; exact lt_irrefl _
        · have := times_lt_r hw (by simp) nf_one hv g
          rw [times_one] at this
          exact lt_asymm this
end O
end AG
/-! OrdE: all that a function of sums and products leaves as it is, in order; bounds. -/
namespace AG
open PySem L2
namespace O
def nth (s f place : O) : O := if f = one then plus (lf s f z) place else plus (lf s f z) (times (aw f) place)
section
variable {s f : O} (hs : nf s) (hf : nf f) (h0 : f ≠ z)
include hs hf h0
theorem nf_nth {y : O} (hy : nf y) : nf (nth s f y) := by
  have h := (lf_ok hs hf h0 (show nf z from trivial)).1
  unfold nth
  split
  · exact nf_plus h hy
  · exact nf_plus h (nf_times (nf_aw hf) hy)
theorem nth_fix {y : O} (hy : nf y) : plus s (times f (nth s f y)) = nth s f y := by
  obtain ⟨h1, h2, h3, h4⟩ := lf_ok hs hf h0 (show nf z from trivial)
  have hn := nf_nth hs hf h0 hy
  obtain ⟨f1, f2⟩ := (fix_iff hs hf h0 h1).mp h2
  have b1 := (plus_fix hs h1).mp f1
  have ge : lt (nth s f y) (lf s f z) = false := by
    unfold nth
    split
    · exact plus_ge_l h1 hy
    · exact plus_ge_l h1 (nf_times (nf_aw hf) hy)
  refine (fix_iff hs hf h0 hn).mpr ⟨(plus_fix hs hn).mpr (le_le b1 ge), ?_⟩
  by_cases e : f = one
  · subst e; exact one_times hn
  · obtain ⟨v, hv, ev⟩ := (mul_fix hf h0 e h1).mp f2
    refine (mul_fix hf h0 e hn).mpr ⟨plus v y, nf_plus hv hy, ?_⟩
    unfold nth
    rw [if_neg e, times_plus (nf_aw hf) hv hy, ← ev]
theorem nth_zero : nth s f z = lf s f z := by
  unfold nth
  split <;> simp
theorem aw_ne : aw f ≠ z := by
  rw [aw_ex h0]; simp
theorem nth_lt {y y' : O} (hy : nf y) (hy' : nf y') (h : lt y y' = true) : lt (nth s f y) (nth s f y') = true := by
  have h1 := (lf_ok hs hf h0 (show nf z from trivial)).1
  unfold nth
  split
  · exact plus_lt_r h1 hy hy' h
  · exact plus_lt_r h1 (nf_times (nf_aw hf) hy) (nf_times (nf_aw hf) hy') (times_lt_r (nf_aw hf) (aw_ne hs hf h0) hy hy' h)
/-- the next one -/
theorem nth_next {y : O} (hy : nf y) : lf s f (plus (nth s f y) one) = nth s f (plus y one) := by
  have hX := nf_nth hs hf h0 hy
  have hy1 := nf_plus hy nf_one
  have hX' := nf_nth hs hf h0 hy1
  have hst := nf_plus hX nf_one
  obtain ⟨l1, l2, l3, l4⟩ := lf_ok hs hf h0 hst
  have a1 := next_le hX hX' (nth_lt hs hf h0 hy hy1 (lt_next hy))
  have up1 := l4 _ hX' (nth_fix hs hf h0 hy1) a1
  -- the other way
  refine le_anti up1 ?_
  have gt : lt (nth s f y) (lf s f (plus (nth s f y) one)) = true := lt_lelt (lt_next hX) l3
  by_cases e : f = one
  · have e1 : nth s f (plus y one) = plus (nth s f y) one := by
      unfold nth
      rw [if_pos e, if_pos e, plus_assoc]
    rw [e1]; exact l3
  · obtain ⟨h1, h2, h3, h4⟩ := lf_ok hs hf h0 (show nf z from trivial)
    obtain ⟨v0, hv0, ev0⟩ := (mul_fix hf h0 e h1).mp ((fix_iff hs hf h0 h1).mp h2).2
    obtain ⟨v, hv, ev⟩ := (mul_fix hf h0 e l1).mp ((fix_iff hs hf h0 l1).mp l2).2
    have hw := nf_aw hf
    have wz := aw_ne hs hf h0
    have eX : nth s f y = times (aw f) (plus v0 y) := by
      unfold nth
      rw [if_neg e, times_plus hw hv0 hy, ← ev0]
    have eX' : nth s f (plus y one) = times (aw f) (plus (plus v0 y) one) := by
      unfold nth
      rw [if_neg e, plus_assoc, times_plus hw hv0 hy1, ← ev0]
    have hv0y := nf_plus hv0 hy
    rw [ev, eX] at gt
    have q1 : lt (plus v0 y) v = true := by
      rcases tri (plus v0 y) v with g | g | g
      · exact g
      · rw [g] at gt; exact (lt_nn gt).elim
      · have := times_lt_r hw wz hv hv0y g
        rw [lt_asymm this] at gt; cases gt
    have q2 := next_le hv0y hv q1
    rw [ev, eX']
    rcases not_lt q2 with g | g
    · rw [g]; exact lt_irrefl _
    · exact lt_asymm (times_lt_r hw wz (nf_plus hv0y nf_one) hv g)
end
end O
/-- below w to the w to the k, at most L pairs, g bits -/
structure Bc (k L g : Nat) (a : O) : Prop where
  nf : a.nf
  lt : O.lt a (O.ww k) = true
  len : a.len ≤ L
  gb : O.gb g a
namespace Bc
variable {k L g k' L' g' : Nat} {a b : O}
theorem mono (h : Bc k L g a) (h1 : k ≤ k') (h2 : L ≤ L') (h3 : g ≤ g') : Bc k' L' g' a :=
  ⟨h.nf, O.ww_mono h1 h.lt, Nat.le_trans h.len h2, by
    have hp : (2 : Nat) ^ g ≤ 2 ^ g' := Nat.pow_le_pow_right (by decide) h3
    have e1 : ((2 ^ g : Nat) : Int) = 2 ^ g := by simp
    have e2 : ((2 ^ g' : Nat) : Int) = 2 ^ g' := by simp
    have := h.gb
    unfold O.gb at this ⊢
    omega⟩
theorem plus (h : Bc k L g a) (h' : Bc k L' g' b) : Bc k (L + L') (g + g') (O.plus a b) :=
  ⟨O.nf_plus h.nf h'.nf, O.lt_plus h.nf h'.nf h.lt h'.lt, Nat.le_trans (O.plus_len a b) (by have := h.len; have := h'.len; omega), O.plus_gb h.nf h'.nf h.gb h'.gb⟩
theorem times (h : Bc k L g a) (h' : Bc k L' g' b) : Bc k (L + L') (g + g') (O.times a b) :=
  ⟨O.nf_times h.nf h'.nf, O.lt_times h.nf h'.nf h.lt h'.lt, Nat.le_trans (O.times_len a b) (by have := h.len; have := h'.len; omega), O.times_gb h.nf h'.nf h.gb h'.gb⟩
theorem zero : Bc k L g .z := ⟨trivial, O.lt_z_c, Nat.zero_le _, by
  have : 0 < 2 ^ g := Nat.two_pow_pos g
  have e1 : ((2 ^ g : Nat) : Int) = 2 ^ g := by simp
  unfold O.gb
  show (0 : Int) + 1 ≤ _
  omega⟩
theorem one (hk : 1 ≤ L) (hg : 1 ≤ g) : Bc k L g O.one := ⟨O.nf_one, by
  unfold O.one O.ww O.wk
  exact O.lt_c_pq O.lt_z_c, hk, by
  have hp : (2 : Nat) ^ 1 ≤ 2 ^ g := Nat.pow_le_pow_right (by decide) hg
  have e1 : ((2 ^ g : Nat) : Int) = 2 ^ g := by simp
  have : O.gn O.one = 1 := by decide
  unfold O.gb
  omega⟩
theorem om (hk : 1 ≤ L) (hg : 1 ≤ g) : Bc k L g O.om := ⟨O.nf_om, by
  unfold O.om O.one O.ww O.wk
  exact O.lt_c_pq (O.lt_c_pq O.lt_z_c), hk, by
  have hp : (2 : Nat) ^ 1 ≤ 2 ^ g := Nat.pow_le_pow_right (by decide) hg
  have e1 : ((2 ^ g : Nat) : Int) = 2 ^ g := by simp
  have : O.gn O.om = 1 := by decide
  unfold O.gb
  omega⟩
/-- sizes -/
theorem pe (hk : 1 ≤ k) (h : Bc k L g a) : O.pe a ≤ 2 * k ∧ a.dp ≤ 3 := O.ww_pe hk h.nf ((O.lt_w h.nf).mp h.lt)
theorem pc (hk : 1 ≤ k) (h : Bc k L g a) : O.pc a ≤ L * (1 + 2 * k) := by
  have h1 := O.pc_le a
  have h2 : a.len * (1 + O.pe a) ≤ L * (1 + 2 * k) := Nat.mul_le_mul h.len (by have := (h.pe hk).1; omega)
  omega
theorem gn_le {x : O} {g : Nat} (hg : O.gb g a) (hx : O.gn x ≤ O.gn a) : O.gb g x := by unfold O.gb at hg ⊢; omega
/-- what is not above it, by way of its pairs -/
theorem under_le {x : O} (h : Bc k L g a) (hx : x.nf) (hl : O.lt a x = false) (h1 : x.len ≤ L') (h2 : O.gb g' x) : Bc k L' g' x := ⟨hx, O.le_lt hl h.lt, h1, h2⟩
theorem quo {e : O} (he : O.nf (.c e 1 .z)) (h : Bc k L g a) : Bc k L g (O.quo e 1 .z a) := by
  obtain ⟨d1, d2, d3, d4⟩ := O.div_ok he h.nf
  refine h.under_le d1 ?_ (Nat.le_trans (O.quo_len a) h.len) (gn_le h.gb (O.quo_gn he h.nf))
  have h1 := O.times_ge_r he (by simp) d1
  have h2 := O.plus_ge_l (O.nf_times he d1) d2
  rw [d4] at h2
  exact O.le_le h1 h2
theorem rem {e : O} (he : O.nf (.c e 1 .z)) (h : Bc k L g a) : Bc k L g (O.rem e 1 .z a) := by
  obtain ⟨d1, d2, d3, d4⟩ := O.div_ok he h.nf
  refine h.under_le d2 ?_ (Nat.le_trans (O.rem_len a) h.len) (gn_le h.gb (O.rem_gn he h.nf))
  have h2 := O.plus_ge_r (O.nf_times he d1) d2
  rw [d4] at h2
  exact h2
theorem mx (h : Bc k L g a) (h' : Bc k L' g' b) : Bc k (max L L') (max g g') (O.mxO a b) := by
  rcases O.mxO_or a b with e | e <;> rw [e]
  · exact h.mono (Nat.le_refl _) (Nat.le_max_left _ _) (Nat.le_max_left _ _)
  · exact h'.mono (Nat.le_refl _) (Nat.le_max_right _ _) (Nat.le_max_right _ _)
/-- the open power of a factor -/
theorem aw (hk : 1 ≤ k) (h : Bc k L g a) (h0 : a ≠ .z) : Bc (k + 1) 1 (g + 1) (O.aw a) := by
  cases a with
  | z => exact absurd rfl h0
  | c p n r =>
    by_cases e : p = .z
    · subst e; rw [O.aw_1]; exact om (Nat.le_refl _) (by omega)
    · rw [O.aw_2 e]
      cases p with
      | z => exact absurd rfl e
      | c t m v =>
        have hu : O.lt (.c t m v) (O.wk k) = true := (O.lt_w h.nf).mp h.lt
        have ht : O.lt t (.c .z k .z) = true := (O.lt_w h.nf.1).mp hu
        have nt := h.nf.1.1
        have pg := O.gn_le (Int.le_refl (O.gn (.c (.c t m v) n r)))
        have tg := O.gn_le pg.2.1
        have hg := h.gb
        have ng := O.gn_nn h.nf
        have n1 := h.nf.2.1
        have pl := O.plus_gn nt O.nf_one (Int.le_refl _) (Int.le_refl _)
        have o1 : O.gn O.one = 1 := by decide
        have wl : O.lt (O.plus t O.one) (.c .z (k + 1 : Nat) .z) = true := by
          rcases O.fin_lt nt ht with rfl | ⟨i, rfl, i1, i2⟩
          · rw [O.plus_zl]
            unfold O.one
            rw [O.lt_c, if_pos rfl, if_neg (by omega)]; simp; omega
          · unfold O.one
            rw [O.plus_eq, O.lt_c, if_pos rfl, if_neg (by omega)]; simp; omega
        rw [O.times_om]
        have hn : O.nf (.c (.c (O.plus t O.one) 1 .z) 1 .z) := ⟨⟨O.nf_plus nt O.nf_one, Int.le_refl 1, trivial, trivial⟩, Int.le_refl 1, trivial, trivial⟩
        refine ⟨hn, ?_, Nat.le_refl _, ?_⟩
        · exact (O.lt_w hn).mpr ((O.lt_w hn.1).mpr wl)
        · have e1 : (2 : Int) ^ (g + 1) = 2 ^ g * 2 := by rw [Int.pow_succ]
          have q : O.gn (.c (.c (O.plus t O.one) 1 .z) 1 .z) ≤ O.gn (.c (.c t m v) n r) + 1 := O.le_gn (by omega) (O.le_gn (by omega) (by omega) (by show (0 : Int) ≤ _; omega)) (by show (0 : Int) ≤ _; omega)
          unfold O.gb at hg ⊢
          rw [e1]
          omega
end Bc
end AG
/-! AgWp: loops and comprehensions by what each turn gives. -/
namespace AG
open PySem L2
/-- pairwise -/
def F2 {α β : Type} (R : α → β → Prop) : List α → List β → Prop
  | [], [] => True
  | a :: as, b :: bs => R a b ∧ F2 R as bs
  | _, _ => False
theorem F2.length {α β : Type} {R : α → β → Prop} : ∀ {as : List α} {bs : List β}, F2 R as bs → as.length = bs.length
  | [], [], _ => rfl
  | _ :: _, _ :: _, h => by simp [F2.length h.2]
  | [], _ :: _, h => h.elim
  | _ :: _, [], h => h.elim
theorem compF_wpZ {h : MH} {t : Tgt} {te : Env → M D} {env : Env} {α : Type} {f : α → D} {R : α → D → Prop} {E : Nat → MH → Prop} : ∀ {xs : List α}, (∀ x ∈ xs, ∃ env1, t (f x) env = some env1 ∧ wpR (te env1 h) (fun d h' => R x d ∧ h' = h) E) →
    wpR (compF t mYes te env (xs.map f) h) (fun ds h' => F2 R xs ds ∧ h' = h) E
  | [], _ => ⟨trivial, rfl⟩
  | x :: xs, hh => by
    obtain ⟨env1, e1, e2⟩ := hh x List.mem_cons_self
    have ih := compF_wpZ (xs := xs) fun y hy => hh y (List.mem_cons_of_mem _ hy)
    rw [List.map_cons]
    simp only [compF, e1, ev_bind, mYes, ev_pure, rb_ok, if_true]
    rw [wpR_bind]
    refine wpR_mono e2 (fun d h' q => ?_) fun _ _ q => q
    obtain ⟨q1, rfl⟩ := q
    rw [wpR_bind]
    refine wpR_mono ih (fun ds h'' q => ?_) fun _ _ q => q
    obtain ⟨q2, rfl⟩ := q
    exact ⟨⟨q1, q2⟩, rfl⟩
theorem loopF_wpN {tg : Tgt} {s : Env → M Fl} {I : Nat → Env → Prop} {h : MH} {E : Nat → MH → Prop} (b : Nat) : ∀ {xs : List D} {k : Nat} {env : Env}, k + xs.length ≤ b → I k env → (∀ x ∈ xs, ∀ k env, k < b → I k env → ∃ env1, tg x env = some env1 ∧ wpR (s env1 h) (fun fl h' => h' = h ∧ ∃ e, fl = .nx e ∧ I (k + 1) e) E) →
    wpR (loopF tg s xs env h) (fun fl h' => h' = h ∧ ∃ e, fl = .nx e ∧ I (k + xs.length) e) E
  | [], k, env, _, i, _ => ⟨rfl, env, rfl, i⟩
  | x :: xs, k, env, hb, i, hh => by
    rw [List.length_cons] at hb
    obtain ⟨env1, e1, e2⟩ := hh x List.mem_cons_self k env (by omega) i
    simp only [loopF, e1, ev_bind]
    rw [wpR_bind]
    refine wpR_mono e2 (fun fl h' q => ?_) fun _ _ q => q
    obtain ⟨rfl, e, rfl, i2⟩ := q
    have := loopF_wpN (E := E) b (by omega) i2 fun y hy => hh y (List.mem_cons_of_mem _ hy)
    refine wpR_mono this (fun fl h'' q => ?_) fun _ _ q => q
    obtain ⟨q1, e', q2, q3⟩ := q
    refine ⟨q1, e', q2, ?_⟩
    rw [List.length_cons, show k + (xs.length + 1) = k + 1 + xs.length by omega]
    exact q3
theorem rec_all {F : LOp → LOp} {A : Nat → LOp → Prop} {b : Nat} (hz : ∀ self, A 0 (F self)) (hs : ∀ self d, d < b → A d self → A (d + 1) (F self)) : ∀ d k, d ≤ b → d < k → A d (recF F k)
  | 0, k + 1, _, _ => hz _
  | d + 1, k + 1, h1, h2 => hs _ d h1 (rec_all hz hs d k (Nat.le_of_succ_le h1) (Nat.lt_of_succ_lt_succ h2))
theorem seq_wp2 {a b : Env → M Fl} {env : Env} {h : MH} {P : Env → Prop} {Q : Fl → MH → Prop} {E : Nat → MH → Prop} (h1 : wpR (a env h) (fun fl h' => h' = h ∧ ∃ e, fl = .nx e ∧ P e) E) (h2 : ∀ e, P e → wpR (b e h) Q E) : wpR (mSeq a b env h) Q E := by
  rw [ev_seq, wpR_bind]
  refine wpR_mono h1 (fun fl h' q => ?_) fun _ _ q => q
  obtain ⟨rfl, e, rfl, p⟩ := q
  exact h2 e p
theorem seq_ok {a b : Env → M Fl} {env e : Env} {h h' : MH} (h1 : a env h = .ok (.nx e) h') : mSeq a b env h = b e h' := by
  rw [ev_seq, h1]
  rfl
theorem encs_of {P : O → Prop} : ∀ {ds : List D}, (∀ d ∈ ds, ∃ o : O, d = o.enc ∧ P o) → ∃ L : List O, ds = L.map O.enc ∧ L.length = ds.length ∧ ∀ x ∈ L, P x
  | [], _ => ⟨[], rfl, rfl, by simp⟩
  | d :: ds, h => by
    obtain ⟨L, h1, h2, h3⟩ := encs_of fun y hy => h y (List.mem_cons_of_mem _ hy)
    obtain ⟨o, rfl, ho⟩ := h d List.mem_cons_self
    exact ⟨o :: L, by rw [h1]; rfl, by simp [h2], fun x hx => (List.mem_cons.mp hx).elim (fun e => e ▸ ho) (h3 x)⟩
end AG
/-! AgEn: enumerate over a tuple. -/
namespace AG
open PySem L2
open AutoSeq1 (wpAny_loadPart')
set_option maxHeartbeats 1000000 in
theorem new_enumT {l : Addr} {items : Array Value} : Meets (Builtin.«enumerate.__new__» ⟨[.type "enumerate", .ref l], []⟩) (fun _ R s => s.heap.IsTuple l items ∧
    R (.ok (.ret (.ref (s.heap.push { cls := .type "tuple_iterator", data := .fields #[.ref l, .int 0 0] }).objs.size)))
      { s with heap := (s.heap.push { cls := .type "tuple_iterator", data := .fields #[.ref l, .int 0 0] }).push { cls := .type "enumerate", data := .fields #[.none, .bool false, .ref s.heap.objs.size, rawInt 0, .none, .none] } }) :=
  .of_wp fun prog w A R s h => by
    obtain ⟨hp, g, d, tk, os⟩ := s
    obtain ⟨hT, h⟩ := h
    have hsub := sub_enumerate
    obtain ⟨ob, hl, hrest⟩ := id hT
    have start : ∀ {A' : Around} {E : Value → Shared → Prop} {Q : Value → Shared → Prop}, Q (.ref hp.objs.size) ⟨hp.push { cls := .type "tuple_iterator", data := .fields #[.ref l, .int 0 0] }, g, d, tk, os⟩ → wpAny (model prog w) A' (pyIter (.ref l)) Q E ⟨hp, g, d, tk, os⟩ := fun q => wpAny_pyIter_tuple hT q
    wp_walk using wpAny_loadPart' hl, start
    refine wpAny_stack_any fun st => wpAny_pure ?_
    split
    · rename_i c _ _ _ _ _
      cases (c == Value.type "enumerate")
      · wp_walk using wpAny_loadPart' hl, start
        exact ⟨_, rfl, h⟩
      · wp_walk using wpAny_loadPart' hl, start
        exact ⟨_, rfl, h⟩
    · wp_walk using wpAny_loadPart' hl, start
      exact ⟨_, rfl, h⟩
section
variable {prog : Program} {w : World} {A : Around} {E : Value → Shared → Prop} {s : Shared}
theorem call_enumT {l : Addr} {items : Array Value} {Q : Value → Shared → Prop} (hT : s.heap.IsTuple l items)
    (h : ∀ h', IsEnum h' (s.heap.objs.size + 1) s.heap.objs.size 0 .none → h'.IsTupleIter s.heap.objs.size l 0 → (∀ b o, s.heap.get? b = some o → h'.get? b = some o) → Q (.ref (s.heap.objs.size + 1)) { s with heap := h' }) :
    wpAny (model prog w) A (call (.type "enumerate") [.ref l]) Q E s := by
  refine callType_new F.called_enumerate (by decide) (F.typeCall_enumerate_1 _) (F.newCall_enumerate_1 _) (fun obj => F.args_object_init_2 obj _) F.entry_enumerate_new (new_enumT (items := items)) ⟨hT, ?_⟩
  have z1 : (s.heap.push { cls := .type "tuple_iterator", data := .fields #[.ref l, .int 0 0] }).objs.size = s.heap.objs.size + 1 := Heap.size_push ..
  show _ ∧ _
  rw [z1]
  have e1 : IsEnum ((s.heap.push { cls := .type "tuple_iterator", data := .fields #[.ref l, .int 0 0] }).push { cls := .type "enumerate", data := .fields #[.none, .bool false, .ref s.heap.objs.size, rawInt 0, .none, .none] }) (s.heap.objs.size + 1) s.heap.objs.size 0 .none := by
    rw [← z1]
    exact Heap.get?_push_size _ rfl
  exact ⟨⟨_, e1, rfl⟩, h _ e1 ⟨_, Heap.get?_push_of_some _ (Heap.get?_push_size _ rfl), rfl, rfl⟩ fun b o x => Heap.get?_push_of_some _ (Heap.get?_push_of_some _ x)⟩
end
theorem next_enumT_end {prog : Program} {w : World} {A : Around} {E : Value → Shared → Prop} {s : Shared} {e it l : Addr} {i : Nat} {items : Array Value} {old : Value} {Q : Option Value → Shared → Prop} (hh : A.handled = none)
    (he : IsEnum s.heap e it i old) (hit : s.heap.IsTupleIter it l i) (hl : s.heap.IsTuple l items) (hx : items[i]? = none)
    (hQ : ∀ h', Heap.ExtBut it s.heap h' → Q none { s with heap := h' }) : wpAny (model prog w) A (pyNext (.ref e)) Q E s := by
  have ty : s.TypeIs (.ref e) "enumerate" := ⟨_, he, rfl⟩
  unfold pyNext
  refine wpAny_bind (wpAny_attempt (wpAny_callSpecial?_slot (name := Str.ofString "__next__") ty F.slot_enumerate_next (wpAny_call_entry F.slot_enumerate_next ty F.entry_enumerate_next ?_ (F.args_enumerate_next_1 _))))
  show wpAny _ _ (field (.ref e) 2 >>= _) _ _ _
  refine wpAny_bind (wpAny_field he rfl (x := .ref it) rfl (wpAny_bind (wpAny_nextOf_tuple_end hh hit hl hx fun h' x he' ⟨o, ho, hc⟩ => ?_)))
  exact wpAny_bind (wpAny_isInstance (T := "StopIteration") (b := true) ⟨o, ho, hc⟩ isSubtype_stop (wpAny_pure (hQ _ he')))
/-- the tuple at a, each item in a new pair -/
def IteT (K : PySem.W.Frag) (a : Addr) : It :=
  ⟨fun i H => ∃ (xs : List V) (x : V), SqT K H a xs ∧ xs[i]? = some x, fun i H v H' => ∃ T x, v = .ref T ∧ H T = none ∧ H' = upd H T (.tup [.int (i : Nat), x]) ∧ ∀ xs, SqT K H a xs → xs[i]? = some x, fun i H => ∃ xs : List V, SqT K H a xs ∧ xs.length ≤ i⟩
theorem two_of {b e it : Addr} (h : b ∈ [e, it]) : b = e ∨ b = it := by simpa using h
theorem turn_enumT {P : Program} {w : World} {K : PySem.W.Frag} {elts : List Expr} {kk : Nat} {tpos : Pos} (a e it : Addr) (hne : e ≠ it) (hea : e ≠ a) (hia : a ≠ it) :
    Turn P w K (.Tuple elts kk tpos) (IteT K a) [e, it] e (fun i h => (∃ old, IsEnum h e it ((i : Nat) : Int) old) ∧ h.IsTupleIter it a i) where
  mem := by simp
  obj := fun i h st b hb => by
    obtain ⟨⟨old, he⟩, ⟨o, ho, hc, hd⟩⟩ := st
    rcases two_of hb with z | z
    · rw [z]; exact ⟨_, he, fun v q => nomatch q⟩
    · rw [z]; exact ⟨o, ho, fun v q => by rw [hd] at q; cases q⟩
  keep := fun i h h' st k => ⟨st.1.elim fun old he => ⟨old, k e (by simp) _ he⟩, st.2.at fun o q => k it (by simp) o q⟩
  item := by
    intro X hP hw hK hc i pins s σ H E I hf st hg
    subst hP hw hK
    obtain ⟨⟨old, he⟩, hit⟩ := st
    obtain ⟨xs, x, hq, hx⟩ := hg
    obtain ⟨its, rv, p, hz⟩ := I.tuple hq
    obtain ⟨u, hu, ru⟩ := rv.get hx
    have hel : e < s.heap.objs.size := Heap.lt_size he
    have hil : it < s.heap.objs.size := by obtain ⟨_, q, _⟩ := hit; exact Heap.lt_size q
    have hlt : i < its.toArray.size := by
      obtain ⟨h1, _⟩ := List.getElem?_eq_some_iff.mp hu
      simpa using h1
    refine wpAny_pyNext_enum_itemD (Draws.tuple (A := X.A.in1) (I.ok.hd hc) it a hia its.toArray) he ⟨hit, p⟩ hlt hne (by simp [hne, hea]) fun y h' tk hy ho hst' hT hsz hk => ?_
    have hy : y = u := by
      have : its[i]? = some y := by simpa using hy
      rw [hu] at this
      exact (Option.some.inj this).symm
    subst hy
    refine ⟨_, rfl, wpAny_letOwnedTupleGo_enum (s := { s with heap := h', toks := tk + 1 }) ho fun h'' he' sb => ?_⟩
    have hT2 : h''.get? s.heap.objs.size = some { cls := .type "tuple", data := .seq #[.int i tk, y] } := (sb.2 _ (Nat.ne_of_gt hel)).trans hT
    have new : ObjOk X.prog X.w (upd H s.heap.objs.size (.tup [.int (i : Nat), x])) h'' s.heap.objs.size (.tup [.int (i : Nat), x]) :=
      ⟨by show 2 ≤ sizeLine; decide, [.int i tk, y], .cons ⟨_, rfl⟩ (.cons ru .nil), ⟨_, hT2, rfl, _, rfl⟩⟩
    have I1 : Inv X pins σ (upd H s.heap.objs.size (.tup [.int (i : Nat), x])) { s with heap := h'', toks := tk + 1 } :=
      I.turnedNew (ch := [e, it]) (fun b ob hb q => (sb.2 b (fun z => hb (by simp [z]))).trans (hk b ob (fun z => hb (by simp [z])) (fun z => hb (by simp [z])) q)) hf (Nat.le_refl _) new
    refine ⟨.ref s.heap.objs.size, _, I1, rfl, ⟨_, x, rfl, I.hok.fresh (Nat.le_refl _), rfl, fun ys hy => by rw [I.tuple_inj hy hq]; exact hx⟩, ⟨⟨y, ?_⟩, hst'.1.at fun o q => (sb.2 it (Ne.symm hne)).trans q⟩, fun b hb => ?_⟩
    · have e1 : ((i + 1 : Nat) : Int) = (i : Int) + 1 := by omega
      rw [e1]; exact he'
    · have hb' : b < s.heap.objs.size := by
        rcases two_of hb with z | z
        · rw [z]; exact hel
        · rw [z]; exact hil
      rw [upd_ne (Nat.ne_of_lt hb')]
      exact (hf b hb).1
  done := by
    intro X hP hw hK hc i pins s σ H E I hf st hg
    subst hP hw hK
    obtain ⟨⟨old, he⟩, hit⟩ := st
    obtain ⟨xs, hq, hx⟩ := hg
    obtain ⟨its, rv, p, hz⟩ := I.tuple hq
    obtain ⟨f0, f1, f2, f3, f4, f5⟩ := hf it (by simp)
    have hl := rv.length
    exact next_enumT_end (I.ok.hd hc) he hit p (by simp; omega) fun h' eb => ⟨rfl, I.turned (t' := s.toks) (fun b o hb q => eb b o hb q) f0 f1 f3 f4 f5⟩
  self := fun A i s Q E st h => st.1.elim fun old he => wpAny_pyIter_enum he h
def iEnumA (K : PySem.W.Frag) (ta : TA) : TI := fun σ H R => ta σ H fun vs H1 => ∃ a xs, vs = [.ref a] ∧ ((SqL K H1 a xs ∧ R (Ite K a) H1) ∨ (SqT K H1 a xs ∧ R (IteT K a) H1))
section
variable {X : Cx} {ca : CA} {W : WX} {e : Expr} {ta : TA} {p pos tpos : Pos} {elts : List Expr} {kk : Nat} {ms : Env → M (List D)}
open PySem.Spec PyProof.Rows in
theorem pi_enumA (hg : Gl X "enumerate") (hm : X.mg "enumerate" = none) (ha : PA X [e] ta) (hs : starEach [e] X.env = [(false, eval e X.env)] := by rfl) :
    PI X (.Tuple elts kk tpos) (.Call (.Name "enumerate" p) [e] [] pos) (iEnumA X.K ta) := by
  refine ⟨fun pins s σ H R I h => ?_⟩
  refine Call_ (ld_blt I hg hm boot_enumerate (PyProof.Rows.callWith_type1 (thn (ha.run pos pins s σ H _ I h) fun us s1 ⟨vs, H1, I1, r1, q1⟩ => ?_) hs rfl))
  obtain ⟨a, xs, ex, q⟩ := q1
  subst ex
  cases r1 with
  | cons r rr =>
    cases rr
    cases r
    have fp : ∀ b ∈ [s1.heap.objs.size + 1, s1.heap.objs.size], FpOk X pins H1 b := fun b hb => by
      have hle : s1.heap.objs.size ≤ b := by
        rcases two_of hb with z | z
        · rw [z]; exact Nat.le_add_right _ _
        · rw [z]; exact Nat.le_refl _
      exact I1.fpOk hle (I1.hok.fresh hle)
    rcases q with ⟨hq, q⟩ | ⟨hq, q⟩
    · obtain ⟨its, rv, p', hz⟩ := I1.list hq
      refine call_enumerate_list p'.isList fun h' he hit hsz hk => wpAny_pyIter_enum he ?_
      have I2 : Inv X pins σ H1 { s1 with heap := h' } := I1.kept (t' := s1.toks) hk
      exact ⟨s1.heap.objs.size + 1, [s1.heap.objs.size + 1, s1.heap.objs.size], _, _, H1, rfl, I2, turn_enum a (s1.heap.objs.size + 1) s1.heap.objs.size, ⟨⟨.none, he⟩, hit, Nat.succ_ne_self _⟩, fp, q⟩
    · obtain ⟨its, rv, p', hz⟩ := I1.tuple hq
      have hlt : a < s1.heap.objs.size := by obtain ⟨_, z, _⟩ := p'; exact Heap.lt_size z
      refine call_enumT p' fun h' he hit hk => wpAny_pyIter_enum he ?_
      have I2 : Inv X pins σ H1 { s1 with heap := h' } := I1.kept (t' := s1.toks) hk
      exact ⟨s1.heap.objs.size + 1, [s1.heap.objs.size + 1, s1.heap.objs.size], _, _, H1, rfl, I2, turn_enumT a (s1.heap.objs.size + 1) s1.heap.objs.size (Nat.succ_ne_self _) (Nat.ne_of_gt (Nat.lt_succ_of_lt hlt)) (Nat.ne_of_lt hlt), ⟨⟨.none, he⟩, hit⟩, fp, q⟩
theorem serves_enumT {K : PySem.W.Frag} {w : Wd} {a : Addr} {xs : List V} {ds : List D} (h : SqT K w.F a xs) (r : RpAll K w xs ds) : Serves K ca w (IteT K a) (pairsD ds) where
  go := fun w2 mh i g hw hi => by
    have hi : i < xs.length := by rw [r.length]; simpa [pairsD] using hi
    exact ⟨xs, xs[i], sqT_sub hw.sub (sqT_mono g.fz h), List.getElem?_eq_getElem hi⟩
  stop := fun w2 mh i g hw hi => ⟨xs, sqT_sub hw.sub (sqT_mono g.fz h), by rw [r.length]; simpa [pairsD] using hi⟩
  yld := fun w2 mh i x H' g hw hi ⟨T, y, e, hT, e2, q⟩ => by
    subst e e2
    obtain ⟨d, e1, e2⟩ := (r.mono g).getV (q xs (sqT_sub hw.sub (sqT_mono g.fz h)))
    refine ⟨_, w2.frz T (.tup [.int (i : Nat), y]), pairsD_at e1, rfl, Ext.frz hw hT, hw.frz hT, .tup (SqT.of upd_same) ?_⟩
    exact .cons (.int _) (.cons ((Ext.frz hw hT).rp e2) .nil)
def enumAM (ds : List D) : M (List D) := match ds with | [.lst xs] => M.pure (pairsD xs) | [.tup xs] => M.pure (pairsD xs) | _ => M.bad
def mEnumA (ms : Env → M (List D)) : Env → M (List D) := fun env => M.bind (ms env) enumAM
theorem enum_two {ds : List D} {mh : MH} {Q : List D → MH → Prop} {E : Nat → MH → Prop} (h : wpR (enumAM ds mh) Q E) : ∃ xs, ds = [.lst xs] ∨ ds = [.tup xs] := by
  unfold enumAM at h
  split at h
  · exact ⟨_, .inl rfl⟩
  · exact ⟨_, .inr rfl⟩
  · exact h.elim
theorem mi_enumA (hm : X.mg "enumerate" = none) (ha : MA X ca W [e] ms) (hg : Gl X "enumerate" := by rfl) (hs : starEach [e] X.env = [(false, eval e X.env)] := by rfl) : MI X ca W (.Tuple elts kk tpos) (.Call (.Name "enumerate" p) [e] [] pos) (mEnumA ms) :=
  PI.mono (pi_enumA hg hm ha hs) fun σ H R q => by
    obtain ⟨w, mh, env, rfl, hw, hf, hp⟩ := q
    refine stepG (rep := repA X.K) hw hf hp fun w1 mh1 v1 d1 x1 hw1 hf1 r1 hp1 => ?_
    have r1 : RpAll X.K w1 v1 d1 := r1
    obtain ⟨xs, rfl | rfl⟩ := enum_two hp1
    · obtain ⟨x, rfl, q⟩ := r1.one
      cases q with
      | lst h r => exact ⟨_, _, rfl, .inl ⟨.of (hw1.subL _ _ h), PostG.ret hp1 hw1 (serves_enum (seqV_lst h) r)⟩⟩
    · obtain ⟨x, rfl, q⟩ := r1.one
      cases q with
      | tup h r => exact ⟨_, _, rfl, .inr ⟨sqT_sub hw1.sub h, PostG.ret hp1 hw1 (serves_enumT h r)⟩⟩
@[simp] theorem ev_enumA {env : Env} {h : MH} : mEnumA ms env h = (ms env h).bind fun xs h' => enumAM xs h' := id rfl
@[simp] theorem ev_enumT {xs : List D} {h : MH} : enumAM [.tup xs] h = .ok (pairsD xs) h := id rfl
end
end AG
/-! AgSt: sorted over a tuple. -/
namespace AG
open PySem L2
open PySem.W PyProof.Rows PySem.Calls
section
variable {prog : Program} {w : World} {A : Around} {E : Value → Shared → Prop} {s : Shared}
theorem collect_tup {l : Addr} {vs : List Value} {Q : List Value → Shared → Prop} (hl : PyProof.Rows.IsTup s.heap l vs.toArray) (hz : vs.length ≤ sizeLine)
    (h : Q vs { s with heap := (s.heap.push (PyProof.Rows.seqObj "list" #[] 0)).update s.heap.objs.size (Obj.mapSeq (· ++ vs.toArray)) }) :
    wpAny (model prog w) A (collect (.ref l)) Q E s := by
  obtain ⟨o, q1, q2, n, q3⟩ := id hl
  unfold collect
  refine wpAny_bind (wpAny_runValue (codeAny_builtin PyProof.Rows.entry_proto_collect' ?_))
  show wpAny _ _ (do again (.builtin "list.__iadd__" ⟨[← newList [], .ref l], []⟩)) _ _ s
  refine wpAny_bind (wpAny_newList (wpAny_pure ⟨Code.quiet_builtin _ (by decide +kernel), codeAny_builtin PyProof.Rows.entry_list_iadd' ?_⟩))
  show wpAny _ _ (Builtin.List.listExtendWith (.ref s.heap.objs.size) (.ref l) (.ref s.heap.objs.size)) _ _ { s with heap := s.heap.push (PyProof.Rows.seqObj "list" #[] 0) }
  unfold Builtin.List.listExtendWith
  have q1' : (s.heap.push (PyProof.Rows.seqObj "list" #[] 0)).get? l = some o := Heap.get?_push_of_some _ q1
  refine wpAny_bind (wpAny_typeOf (T := "tuple") ⟨o, q1', q2⟩ ?_)
  have ht : (Value.type "tuple" == Value.type "tuple") = true := by rfl
  rw [if_pos (by rw [ht]; simp)]
  refine wpAny_bind (PyProof.Rows.listItems_at q1' q3 ?_)
  refine wpAny_bind (PyProof.Rows.listItems_at (xs := #[]) (n := 0) (Heap.get?_push_size _ rfl) rfl ?_)
  rw [if_neg (by simp)]
  have hz' : (#[] ++ vs.toArray).size ≤ sizeLine + 1 := by simp only [Array.size_append, List.size_toArray, List.length_nil]; omega
  refine wpAny_bind (PyProof.Rows.listUpdate_at (xs := #[]) (n := 0) (Heap.get?_push_size _ rfl) rfl ?_ (Nat.zero_le _) hz')
  refine wpAny_pure ?_
  refine wpAny_bind (wpAny_load (PyProof.Rows.get?_update_seq (Heap.get?_push_size _ rfl) _) ?_)
  show wpAny _ _ (pure ((#[] : Array Value) ++ vs.toArray).toList) Q E _
  have e : ((#[] : Array Value) ++ vs.toArray).toList = vs := by simp
  rw [e]
  exact wpAny_pure h
theorem sorted_tupSort {l : Addr} {vs : List Value} {kw : List (Str × Value)} {Q : Value → Shared → Prop} (hl : PyProof.Rows.IsTup s.heap l vs.toArray) (hL : vs.length ≤ sizeLine) (ha1 : argsOk "sorted" ⟨[.ref l], kw⟩) (ha2 : ∀ x, argsOk "list.sort" ⟨[.ref x], kw⟩)
    (body : ∀ E' : Value → Shared → Prop, wpAny (model prog w) A.in1.in1 (Builtin.«list.sort» ⟨[.ref (s.heap.objs.size + 1)], kw⟩) (fun f s' => f = .done (.ret .none) ∧ Q (.ref (s.heap.objs.size + 1)) s') E' { s with heap := copyHeap s.heap vs }) :
    wpAny (model prog w) A (call (.builtin "sorted") [.ref l] kw) Q E s := by
  refine call_function_entry_kw kind_sorted plain_sorted entry_sorted ha1 ?_
  unfold Builtin.«sorted»
  refine wpAny_bind (m := checkCount "sorted" 1 1 _) (wpAny_pure ?_)
  refine wpAny_bind (collect_tup hl hL ?_)
  refine wpAny_bind (wpAny_newList ?_ hL)
  have hsz : ((s.heap.push (PyProof.Rows.seqObj "list" #[] 0)).update s.heap.objs.size (Obj.mapSeq (· ++ vs.toArray))).objs.size = s.heap.objs.size + 1 := by
    rw [Heap.size_update, PyProof.Rows.size_push']
  show wpAny _ _ _ _ _ { s with heap := copyHeap s.heap vs }
  rw [hsz]
  have bd : ∀ E' : Value → Shared → Prop, wpAny (model prog w) A.in1.in1 (Builtin.«list.sort» ⟨[.ref (s.heap.objs.size + 1)], kw⟩) (fun f s' => ∃ v, f = .done (.ret v) ∧ wpAny (model prog w) A.in1 (pure (Fin.done (.ret (.ref (s.heap.objs.size + 1))))) (fun f s' => ∃ v, f = .done (.ret v) ∧ Q v s') E s') E' { s with heap := copyHeap s.heap vs } := fun E' =>
    wpAny_mono (body E') (fun f s' hf => by obtain ⟨rfl, hq⟩ := hf; exact ⟨_, rfl, wpAny_pure ⟨_, rfl, hq⟩⟩) fun _ _ e => e
  refine wpAny_bind (wpAny_holding (wpAny_call_entry_kw slot_list_sort ⟨_, copyHeap_at s.heap vs, rfl⟩ entry_list_sort ?_ (ha2 _)))
  exact bd _

section
variable {β : Type} {vs : List Value} {bs : List β} {enc : β → PyData} {R : Value → β → Prop}
theorem sorted_tupAny {l : Addr} {kw : List (Str × Value)} {b : Bool} (hk' : (kw = [] ∧ b = false) ∨ kw = [(Str.ofString "reverse", .bool b)]) {Q : Value → Shared → Prop} (hl : PyProof.Rows.IsTup s.heap l vs.toArray) (e : EachIs R vs bs) (er : EachIs (fun v b => ∃ as, Reads s.heap v (enc b) as) vs bs) (hal : AllAlike (bs.map enc)) (hk : Srt (bs.map enc)) (hL : bs.length ≤ sizeLine)
    (hu : ∀ b, b ∈ bs → A.units + 2 + (enc b).depth < cLine) (h : ∀ out, out.length = bs.length → EachIs R out (bs.mergeSort (dataLe b enc)) → Q (.ref (s.heap.objs.size + 1)) { s with heap := sortedAll s.heap vs (List.toArray out) }) :
    wpAny (model prog w) A (call (.builtin "sorted") [.ref l] kw) Q E s := by
  have er' : EachIs (fun v b => ∃ as, Reads (sortingHeap (copyHeap s.heap vs) (s.heap.objs.size + 1) vs) v (enc b) as) vs bs := er.mono fun _ _ ⟨as, r⟩ => ⟨as, PyProof.Rows.Reads.keeps (fun _ _ => sorting_copy_old) r⟩
  have hL' : vs.length ≤ sizeLine := by rw [e.length]; exact hL
  have S := sortsAt (prog := prog) (w := w) (A := A.in1.in1) (s := { s with heap := sortingHeap (copyHeap s.heap vs) (s.heap.objs.size + 1) vs }) (each_map (R := fun v d => ∃ as, Reads (sortingHeap (copyHeap s.heap vs) (s.heap.objs.size + 1) vs) v d as) enc er') hal hk (bound_map hu)
  have hq := h _ (by rw [sortVals_length b rfl]; exact e.length) (sortVals_data b e er' hal)
  rcases hk' with ⟨rfl, rfl⟩ | rfl
  · exact sorted_tupSort hl hL' (args_sorted1 _) (fun _ => args_list_sort _) fun _ => list_sort_vals (s := { s with heap := copyHeap s.heap vs }) (copyHeap_at s.heap vs) S hL' ⟨rfl, hq⟩
  · exact sorted_tupSort hl hL' (args_sorted_rev _ _) (fun _ => args_list_sort_rev _ _) fun _ => list_sort_rev_vals (s := { s with heap := copyHeap s.heap vs }) (copyHeap_at s.heap vs) S hL' ⟨rfl, hq⟩
end
end
/-- what sorted asks of a tuple -/
def rSrtT (K : PySem.W.Frag) (rev : Bool) : List V → Hp → VK → Prop := fun xs H Q => ∃ (a : Addr) (ps : List (V × D)), xs = [V.ref a] ∧ SqT K H a (ps.map Prod.fst) ∧ (∀ p ∈ ps, Dp K H p.1 p.2.toPy) ∧ srtOk (ps.map Prod.snd) = true ∧
  ∀ l, H l = none → Q (.ref l) (upd H l (.lst ((ps.mergeSort fun a b => cond rev (!D.lt a.2 b.2) (!D.lt b.2 a.2)).map Prod.fst)))
section
variable {X : Cx}
theorem cr_srtT (hu : X.A.units + 66 < cLine) : CallR X (.builtin "sorted") (rSrtT X.K false) := by
  intro pins s σ H xs us Q I r h
  obtain ⟨a, ps, rfl, hs, hd, ok, q⟩ := h
  obtain ⟨its, rv, hl, hz⟩ := I.tuple hs
  rw [Vals.ref1 r]
  obtain ⟨o1, o2, o3, o4⟩ := srt_of ok
  refine sorted_tupAny (b := false) (.inl ⟨rfl, rfl⟩) (R := fun v (p : V × D) => RelV p.1 v) (enc := fun p : V × D => p.2.toPy) (bs := ps) hl (each_vals (s := s) (us := its) (ps := ps) rv) (each_reads I rv hd) o1 o2 o3 (fun p hp => by have := o4 p hp; omega) fun out hlen e => ?_
  have e := vals_each e
  obtain ⟨ep, he'⟩ := PyProof.Rows.sortedAll_at s.heap its out.toArray
  have hz2 : ((ps.mergeSort fun a b => cond false (!D.lt a.2 b.2) (!D.lt b.2 a.2)).map Prod.fst).length ≤ sizeLine := by rw [List.length_map, List.length_mergeSort]; exact o3
  exact ⟨.ref _, upd H (s.heap.objs.size + 1) (.lst ((ps.mergeSort fun a b => cond false (!D.lt a.2 b.2) (!D.lt b.2 a.2)).map Prod.fst)), I.laid (t' := s.toks) (fun _ _ => PyProof.Rows.sortedAll_old) (Nat.le_succ _) ⟨hz2, out, ep, e, he'⟩, rfl, q _ (I.hok.fresh (Nat.le_succ _))⟩
theorem cr_srtRT (hu : X.A.units + 66 < cLine) : CallRK X (.builtin "sorted") [Str.ofString "reverse"] (fun xs zs H Q => ∃ b, zs = [.bl b] ∧ rSrtT X.K b xs H Q) := by
  intro pins s σ H xs zs us ws Q I r rz h
  obtain ⟨b, rfl, a, ps, rfl, hs, hd, ok, q⟩ := h
  obtain ⟨its, rv, hl, hz⟩ := I.tuple hs
  rw [Vals.ref1 r]
  obtain ⟨bv, rfl, rb⟩ := rz.one
  cases rb
  obtain ⟨o1, o2, o3, o4⟩ := srt_of ok
  refine sorted_tupAny (b := b) (.inr rfl) (R := fun v (p : V × D) => RelV p.1 v) (enc := fun p : V × D => p.2.toPy) (bs := ps) hl (each_vals (s := s) (us := its) (ps := ps) rv) (each_reads I rv hd) o1 o2 o3 (fun p hp => by have := o4 p hp; omega) fun out hlen e => ?_
  have e := vals_each e
  obtain ⟨ep, he'⟩ := PyProof.Rows.sortedAll_at s.heap its out.toArray
  have hz2 : ((ps.mergeSort fun a c => cond b (!D.lt a.2 c.2) (!D.lt c.2 a.2)).map Prod.fst).length ≤ sizeLine := by rw [List.length_map, List.length_mergeSort]; exact o3
  exact ⟨.ref _, upd H (s.heap.objs.size + 1) (.lst ((ps.mergeSort fun a c => cond b (!D.lt a.2 c.2) (!D.lt c.2 a.2)).map Prod.fst)), I.laid (t' := s.toks) (fun _ _ => PyProof.Rows.sortedAll_old) (Nat.le_succ _) ⟨hz2, out, ep, e, he'⟩, rfl, q _ (I.hok.fresh (Nat.le_succ _))⟩
end
/-- sorted of a list or a tuple -/
def fSortedA (rev : Bool) : LOp := fun ds => match ds with
  | [.lst xs] => if srtOk xs = true then M.pure (.lst (sortD rev xs)) else M.bad
  | [.tup xs] => if srtOk xs = true then M.pure (.lst (sortD rev xs)) else M.bad
  | _ => M.bad
def rSrtA (K : PySem.W.Frag) (rev : Bool) : List V → Hp → VK → Prop := fun xs H Q => rSrt K rev xs H Q ∨ rSrtT K rev xs H Q
theorem sortedA_one {rev : Bool} {ds : List D} {mh : MH} {Q : D → MH → Prop} {E : Nat → MH → Prop} (h : wpR (fSortedA rev ds mh) Q E) : ∃ xs, ds = [.lst xs] ∨ ds = [.tup xs] := by
  unfold fSortedA at h
  split at h
  · exact ⟨_, .inl rfl⟩
  · exact ⟨_, .inr rfl⟩
  · exact h.elim
theorem srtT_read {K : PySem.W.Frag} {ca : CA} {W : WX} {σ : L2.St} {w : Wd} {mh : MH} {rev : Bool} {v : V} {xs : List D} {Q : VK} (hw : WOk K ca w mh) (r : Rp K w v (.tup xs)) (hp : Post K ca W σ w (fSortedA rev [.tup xs] mh) Q) : rSrtT K rev [v] w.H Q := by
  cases r with
  | tup h1 h2 =>
    rename_i a vs
    by_cases c : srtOk xs = true
    · simp only [fSortedA, c, if_true] at hp
      obtain ⟨z1, z2, z3⟩ := h2.zip
      refine ⟨a, vs.zip xs, rfl, by rw [z2]; exact sqT_sub hw.sub h1, fun p hp' => (z1 p hp').dp (n := 60) hw.subs ?_, by rw [z3]; exact c, fun l hl => ?_⟩
      · have c1 : xs.all (D.sm 60) = true := by
          simp only [srtOk, Bool.and_eq_true] at c
          exact c.1.1.1
        refine all_sm c1 _ ?_
        have := List.mem_map_of_mem (f := Prod.snd) hp'
        rwa [z3] at this
      · refine PostG.lst (ds := sortD rev xs) hp hw ?_ l hl
        have e : sortD rev xs = ((vs.zip xs).mergeSort fun a b => cond rev (!D.lt a.2 b.2) (!D.lt b.2 a.2)).map Prod.snd := by
          rw [List.map_mergeSort (s := fun a b => cond rev (!D.lt a b) (!D.lt b a)) (fun _ _ _ _ => rfl), z3, sortD_def]
        rw [e]
        exact RpAll.of_zip fun p hp' => z1 p (List.mem_mergeSort.mp hp')
    · simp only [fSortedA, c] at hp; exact hp.elim
theorem srtA_read {K : PySem.W.Frag} {ca : CA} {W : WX} {σ : L2.St} {w : Wd} {mh : MH} {rev : Bool} {vs : List V} {ds : List D} {Q : VK} (hw : WOk K ca w mh) (r : RpAll K w vs ds) (hp : Post K ca W σ w (fSortedA rev ds mh) Q) : rSrtA K rev vs w.H Q := by
  obtain ⟨xs, rfl | rfl⟩ := sortedA_one hp
  · obtain ⟨x, rfl, q⟩ := r.one
    exact .inl (srt_read hw q hp)
  · obtain ⟨x, rfl, q⟩ := r.one
    exact .inr (srtT_read hw q hp)
section
variable {X : Cx} {ca : CA} {W : WX} {e : Expr} {es : List Expr} {ms : Env → M (List D)} {p pos : Pos} {k : Nat}
theorem cr_srtA (hu : X.A.units + 66 < cLine) : CallR X (.builtin "sorted") (rSrtA X.K false) := by
  intro pins s σ H xs us Q I r h
  rcases h with h | h
  · exact cr_srt hu _ _ _ _ _ _ _ I r h
  · exact cr_srtT hu _ _ _ _ _ _ _ I r h
theorem cr_srtRA (hu : X.A.units + 66 < cLine) : CallRK X (.builtin "sorted") [Str.ofString "reverse"] (fun xs zs H Q => ∃ b, zs = [.bl b] ∧ rSrtA X.K b xs H Q) := by
  intro pins s σ H xs zs us ws Q I r rz h
  obtain ⟨b, rfl, h | h⟩ := h
  · exact cr_srtR hu _ _ _ _ _ _ _ _ _ I r rz ⟨b, rfl, h⟩
  · exact cr_srtRT hu _ _ _ _ _ _ _ _ _ I r rz ⟨b, rfl, h⟩
theorem me_sortedA (hr : Room k X.A) (hm : X.mg "sorted" = none) (ha : MA X ca W (e :: es) ms) (hg : Gl X "sorted" := by rfl) (he : starEach (e :: es) X.env = (false, eval e X.env) :: starEach es X.env := by rfl) (hpl : (backTo pos (starEach es X.env)).any (·.1) = false := by rfl) : ME X ca W (.Call (.Name "sorted" p) (e :: es) [] pos) (mCall (fSortedA false) ms) :=
  PE.mono (pe_callB (cr_srtA (hu66 hr)) hg hm (by decide +kernel) ha (by decide) (by decide) he hpl) fun σ H Q h => by
    obtain ⟨w, mh, env, rfl, hw, hfr, hp⟩ := h
    refine stepG (rep := repA X.K) hw hfr hp fun w1 mh1 v1 d1 x1 hw1 hf1 r1 hp1 => ?_
    have r1 : RpAll X.K w1 v1 d1 := r1
    exact srtA_read hw1 r1 hp1
/-- sorted(e, reverse=True) -/
theorem me_sortedRA {b : Bool} {j : Nat} {p2 kp : Pos} (hr : Room k X.A) (hm : X.mg "sorted" = none) (ha : MA X ca W [e] ms) (hg : Gl X "sorted" := by rfl)
    (he : backTo pos (starEach [e] X.env) = (false, eval e X.env) :: backTo pos (starEach [] X.env) := by rfl) (hpl : (backTo pos (starEach [e] X.env)).any (·.1) = false := by rfl)
    (hall : (backToKw pos (keywordEach [⟨some "reverse", .Constant (.bool b) j p2, kp⟩] X.env)).all (·.1.isSome) = true := by rfl) (hnone : (backToKw pos (keywordEach [⟨some "reverse", .Constant (.bool b) j p2, kp⟩] X.env)).any (·.1.isNone) = false := by rfl)
    (hks : (backToKw pos (keywordEach [⟨some "reverse", .Constant (.bool b) j p2, kp⟩] X.env)).filterMap (·.1) = [Str.ofString "reverse"] := by rfl) :
    ME X ca W (.Call (.Name "sorted" p) [e] [⟨some "reverse", .Constant (.bool b) j p2, kp⟩] pos) (mCall (fSortedA b) ms) :=
  PE.mono (pe_callBK (cr_srtRA (hu66 hr)) hg hm (by decide +kernel) ha (pk_cons pe_bl pk_nil) (by decide) (by decide) he hpl hall hnone hks) fun σ H Q h => by
    obtain ⟨w, mh, env, rfl, hw, hfr, hp⟩ := h
    refine stepG (rep := repA X.K) hw hfr hp fun w1 mh1 v1 d1 x1 hw1 hf1 r1 hp1 => ?_
    have r1 : RpAll X.K w1 v1 d1 := r1
    exact ⟨b, rfl, srtA_read hw1 r1 hp1⟩
end
end AG
/-! AgLw: pieces of a law's own walk over the stream alone. -/
namespace AG
open PySem L2
abbrev h0 : MH := [MO.stream]
theorem h0s : h0[0]? = some MO.stream := rfl
section
variable {E : Nat → MH → Prop}
theorem wp_set {i : Nat} {m : AG.Env → M D} {env : AG.Env} {h : MH} {Q : Fl → MH → Prop} (q : Wp (m env h) (fun x h' => Q (.nx (env.set i (.v x))) h') E) : Wp (mSet i m env h) Q E := by
  rw [ev_set]
  exact Wp.bind (Wp.mono q (fun x h' z => Wp.ok z) fun _ _ z => z)
theorem wp_draw {i : Nat} {m : Int} {h : MH} {Q : D → MH → Prop} (hi : h[i]? = some .stream) (h0 : 0 < m) (h1 : m < 1073741824) (hq : ∀ j : Nat, (j : Int) < m → Q (.int j) h) : Wp (fDraw [.ref i, .int m] h) Q E := ⟨draw_wp hi h0 h1 hq⟩
/-- a statement that sets a slot to what a call gives -/
theorem wp_setCall {i : Nat} {m : AG.Env → M D} {env : AG.Env} {h : MH} {r : R D} {P : D → Prop} {Q : Fl → MH → Prop} (e : m env h = r) (w : Wp r (fun v h' => P v ∧ h' = h) E) (q : ∀ v, P v → Q (.nx (env.set i (.v v))) h) : Wp (mSet i m env h) Q E :=
  wp_set (by rw [e]; exact Wp.mono w (fun v h' z => by rw [z.2]; exact q v z.1) fun _ _ z => z)
end
/-- lists of ordinals, unequal -/
theorem opNe_encL {h : MH} {L L' : List O} (hL : ∀ x ∈ L, x.dp ≤ 28) (hM : ∀ x ∈ L', x.dp ≤ 28) : opNe (.lst (L.map O.enc)) (.lst (L'.map O.enc)) h = .ok (.bl (!decide (L = L'))) h := by
  have c : (D.sm 60 (.lst (L.map O.enc)) && D.sm 60 (.lst (L'.map O.enc))) = true := by
    have c1 : (L.map O.enc).all (D.sm 59) = true := smL hL (by omega)
    have c2 : (L'.map O.enc).all (D.sm 59) = true := smL hM (by omega)
    simp only [D.sm, c1, c2]
    rfl
  show (if (D.sm 60 (.lst (L.map O.enc)) && D.sm 60 (.lst (L'.map O.enc))) = true then M.pure (D.bl (!D.eqv (.lst (L.map O.enc)) (.lst (L'.map O.enc)))) else M.bad) h = _
  rw [if_pos c]
  have e : D.eqv (.lst (L.map O.enc)) (.lst (L'.map O.enc)) = decide (L = L') := by
    have := eqvL L L'
    simpa [D.eqv, D.toPy, PyData.eqv] using this
  rw [e]
  rfl
/-- ordinals that may be sorted -/
theorem srtOk_enc {L : List O} (hL : ∀ x ∈ L, x.dp ≤ 28) (hl : L.length ≤ 16777216) : srtOk (L.map O.enc) = true := by
  unfold srtOk
  simp only [Bool.and_eq_true, Bool.or_eq_true, List.all_eq_true, decide_eq_true_eq, List.length_map]
  refine ⟨⟨⟨fun d hd => ?_, fun d hd e he => ?_⟩, .inl fun d hd => ?_⟩, hl⟩
  · obtain ⟨x, hx, rfl⟩ := List.mem_map.mp hd
    exact O.sm (by have := hL x hx; omega)
  · obtain ⟨x, hx, rfl⟩ := List.mem_map.mp hd
    obtain ⟨y, hy, rfl⟩ := List.mem_map.mp he
    exact O.alike x y
  · obtain ⟨x, hx, rfl⟩ := List.mem_map.mp hd
    rfl
/-- what never rises is sorted, the other way round -/
theorem sort_falls {L : List O} (hp : L.Pairwise fun a b => O.lt a b = false) : sortD true (L.map O.enc) = L.map O.enc := by
  rw [sortD_def]
  refine List.mergeSort_of_pairwise ?_
  rw [List.pairwise_map]
  refine hp.imp fun {a b} h => ?_
  show (!D.lt a.enc b.enc) = true
  rw [O.dlt, h]
  rfl
theorem sort_rises {L : List O} (hp : L.Pairwise fun a b => O.lt b a = false) : sortD false (L.map O.enc) = L.map O.enc := by
  rw [sortD_def]
  refine List.mergeSort_of_pairwise ?_
  rw [List.pairwise_map]
  refine hp.imp fun {a b} h => ?_
  show (!D.lt b.enc a.enc) = true
  rw [O.dlt, h]
  rfl
@[simp] theorem f_sortA {h : MH} {rev : Bool} {xs : List D} (hs : srtOk xs = true) : fSortedA rev [.tup xs] h = .ok (.lst (sortD rev xs)) h := by
  show (if srtOk xs = true then M.pure (D.lst (sortD rev xs)) else M.bad) h = _
  rw [if_pos hs]
  rfl
@[simp] theorem f_sortAL {h : MH} {rev : Bool} {xs : List D} (hs : srtOk xs = true) : fSortedA rev [.lst xs] h = .ok (.lst (sortD rev xs)) h := by
  show (if srtOk xs = true then M.pure (D.lst (sortD rev xs)) else M.bad) h = _
  rw [if_pos hs]
  rfl
/-- a loop whose turns go on, or return -/
theorem loopF_wpR {tg : Tgt} {s : Env → M Fl} {h : MH} {E : Nat → MH → Prop} {I : Nat → Env → Prop} {Qr : D → Prop} (b : Nat) : ∀ {xs : List D} {k : Nat} {env : Env}, k + xs.length ≤ b → I k env → (∀ x ∈ xs, ∀ k env, k < b → I k env → ∃ env1, tg x env = some env1 ∧ Wp (s env1 h) (fun fl h' => h' = h ∧ ((∃ e, fl = .nx e ∧ I (k + 1) e) ∨ ∃ d, fl = .rt d ∧ Qr d)) E) →
    Wp (loopF tg s xs env h) (fun fl h' => h' = h ∧ ((∃ e, fl = .nx e ∧ I (k + xs.length) e) ∨ ∃ d, fl = .rt d ∧ Qr d)) E
  | [], k, env, _, hi, _ => Wp.ok ⟨rfl, .inl ⟨env, rfl, hi⟩⟩
  | x :: xs, k, env, hb, hi, hh => by
    rw [List.length_cons] at hb
    obtain ⟨env1, e1, e2⟩ := hh x List.mem_cons_self k env (by omega) hi
    have ee : loopF tg s (x :: xs) env h = (s env1 h).bind fun fl h' => (match fl with | .nx e => loopF tg s xs e | .ct e => loopF tg s xs e | .bk e => M.pure (.nx e) | .rt d => M.pure (.rt d)) h' := by
      simp only [loopF, e1]
      rfl
    rw [ee]
    refine Wp.bind (Wp.mono e2 (fun fl h' q => ?_) fun _ _ q => q)
    obtain ⟨rfl, ⟨e, rfl, hi2⟩ | ⟨d, rfl, hd⟩⟩ := q
    · have := loopF_wpR (E := E) (Qr := Qr) b (k := k + 1) (by omega) hi2 fun y hy => hh y (List.mem_cons_of_mem _ hy)
      rw [List.length_cons, show k + (xs.length + 1) = k + 1 + xs.length by omega]
      exact this
    · exact Wp.ok ⟨rfl, .inr ⟨d, rfl, hd⟩⟩
@[simp] theorem op_neB {h : MH} {x y : Bool} : opNe (.bl x) (.bl y) h = .ok (.bl (x != y)) h := by cases x <;> cases y <;> rfl
end AG
/-! AgRg: ranges that go down by one. -/
namespace AG
open PySem PySem.Spec PyProof.Rows L2
def Itd (lo : Int) (n : Nat) : It := ⟨fun i _ => i < n, fun i H x H' => H' = H ∧ x = .int (lo - i), fun i _ => n ≤ i⟩
theorem turn_down {P : Program} {w : World} {K : PySem.W.Frag} {tg : Expr} (it : Addr) (lo : Int) (n : Nat) : Turn P w K tg (Itd lo n) [it] it (fun i h => IsRangeIter h it (lo + (i : Nat) * (-1)) ((n : Int) - (i : Nat)) (-1)) where
  mem := by simp
  obj := fun i h st b hb => by
    have e : b = it := by simpa using hb
    subst e
    exact ⟨_, st, fun v z => by
      have z' : Data.fields _ = Data.cell v := z
      cases z'⟩
  keep := fun i h h' st k => k it (by simp) _ st
  item := by
    intro X hP hw hK hc i pins s σ H E I hf st hg
    subst hP hw hK
    obtain ⟨f0, f1, f2, f3, f4, f5⟩ := hf it (by simp)
    have W := Walks.range (prog := X.prog) (w := X.w) (I.ok.hd hc) it lo (-1) n
    refine W.item i s _ _ hg st fun v h' tk hv st' kk => ?_
    obtain ⟨t, rfl⟩ := hv
    have I1 : Inv X pins σ H { s with heap := h', toks := tk } := I.turned (fun b o hb e => kk b o (by simpa using hb) e) f0 f1 f3 f4 f5
    refine ⟨_, rfl, go_of (s := { s with heap := h', toks := tk }) (n := "range_iterator") st' rfl rfl (by decide) ⟨.int (lo - i), H, I1, ⟨t, ?_⟩, ⟨rfl, rfl⟩, st', fun b hb => (hf b hb).1⟩⟩
    congr 1
    omega
  done := by
    intro X hP hw hK hc i pins s σ H E I hf st hg
    subst hP hw hK
    obtain ⟨f0, f1, f2, f3, f4, f5⟩ := hf it (by simp)
    exact wpAny_pyNext_range_end (I.ok.hd hc) st (by have : n ≤ i := hg; omega) fun h' eb => ⟨rfl, I.turned (t' := s.toks) (fun b o hb e => eb b o hb e) f0 f1 f3 f4 f5⟩
  self := fun _ _ _ _ _ st h => wpAny_pyIter_rangeiter st h
theorem range_itd {X : Cx} {tg : Expr} {pins : List (Addr × Obj)} {σ : L2.St} {H : Hp} {s : Shared} {R : It → Hp → Prop} {E : Value → Shared → Prop} {lo hi : Int} {t u v : Tok} {tk : Nat} (I : Inv X pins σ H s) (h1 : -(2 ^ 62) ≤ lo) (h2 : lo < 2 ^ 62) (h3 : -(2 ^ 62) ≤ hi) (h4 : hi < 2 ^ 62)
    (q : R (Itd lo (lo - hi).toNat) H) : wpAny (model X.prog X.w) X.A (pyIter (.ref s.heap.objs.size)) (PIE X pins σ tg R) E { s with heap := s.heap.push { cls := .type "range", data := .fields #[.int lo t, .int hi u, .int (-1) v] }, toks := tk } := by
  refine wpAny_pyIter_range (IsRange.new ..) (PySem.W.small_down h1 h2 h3 h4) ?_
  have I1 : Inv X pins σ H { s with heap := s.heap.push { cls := .type "range", data := .fields #[.int lo t, .int hi u, .int (-1) v] }, toks := tk } := I.kept fun b o e => Heap.get?_push_of_some _ e
  refine ⟨(s.heap.push { cls := .type "range", data := .fields #[.int lo t, .int hi u, .int (-1) v] }).objs.size, [(s.heap.push { cls := .type "range", data := .fields #[.int lo t, .int hi u, .int (-1) v] }).objs.size], _, _, H, rfl,
    I1.kept (t' := tk) fun b o e => Heap.get?_push_of_some _ e, turn_down _ lo (lo - hi).toNat, ?_, fun b hb => ?_, q⟩
  · have e1 : lo + ((0 : Nat) : Int) * (-1) = lo := by simp
    have e2 : (((lo - hi).toNat : Nat) : Int) - ((0 : Nat) : Int) = Builtin.Range.rangeSize lo hi (-1) := by rw [PySem.W.rangeSize_downNat]; simp
    show IsRangeIter _ _ (lo + ((0 : Nat) : Int) * (-1)) ((((lo - hi).toNat : Nat) : Int) - ((0 : Nat) : Int)) (-1)
    rw [e1, e2]
    exact Heap.get?_push_size _ rfl
  · have e : b = (s.heap.push { cls := .type "range", data := .fields #[.int lo t, .int hi u, .int (-1) v] }).objs.size := by simpa using hb
    subst e
    exact I1.fpOk (Nat.le_refl _) (I1.hok.fresh (Nat.le_refl _))
def iRngD (ta : TA) : TI := fun σ H R => ta σ H fun vs H1 => ∃ i j : Int, vs = [.int i, .int j, .int (-1)] ∧ (-(2 ^ 60) ≤ i ∧ i < 2 ^ 60 ∧ -(2 ^ 60) ≤ j ∧ j < 2 ^ 60) ∧ R (Itd i (i - j).toNat) H1
theorem pi_rangeD {X : Cx} {tg : Expr} {a b c : Expr} {ta : TA} {p pos : Pos} (hg : Gl X "range") (hm : X.mg "range" = none) (ha : PA X [a, b, c] ta) (hs : starEach [a, b, c] X.env = [(false, eval a X.env), (false, eval b X.env), (false, eval c X.env)] := by rfl) (hs2 : starEach [b, c] X.env = [(false, eval b X.env), (false, eval c X.env)] := by rfl) :
    PI X tg (.Call (.Name "range" p) [a, b, c] [] pos) (iRngD ta) := by
  refine ⟨fun pins s σ H R I h => ?_⟩
  refine Call_ (ld_blt I hg hm boot_range (PyProof.Rows.callWith_type1 (thn (ha.run pos pins s σ H _ I h) fun us s1 ⟨vs, H1, I1, r1, q1⟩ => ?_) (by rw [hs, hs2]) (by rw [hs2]; rfl)))
  obtain ⟨i, j, e, ⟨q1, q2, q3, q4⟩, q⟩ := q1
  subst e
  cases r1 with
  | cons r rr =>
    cases rr with
    | cons r' rr =>
      cases rr with
      | cons r'' rr =>
        cases rr
        obtain ⟨t, rfl⟩ := r
        obtain ⟨t', rfl⟩ := r'
        obtain ⟨t'', rfl⟩ := r''
        exact call_range_3 (by decide) (range_itd I1 (by omega) (by omega) (by omega) (by omega) q) (.inl (PyProof.noPylong_small (by omega)))
def dwnD (lo : Int) (n : Nat) : List D := (List.range n).map fun i => .int (lo - (i : Nat))
section
variable {K : PySem.W.Frag} {ca : CA} {w : Wd}
theorem serves_dwn {lo : Int} {n : Nat} : Serves K ca w (Itd lo n) (dwnD lo n) where
  go := fun w2 mh i g hw hi => by
    show i < n
    simpa [dwnD] using hi
  stop := fun w2 mh i g hw hi => by
    show n ≤ i
    simpa [dwnD] using hi
  yld := fun w2 mh i x H' g hw hi ⟨e, q⟩ => by
    subst e q
    have hi' : i < n := by simpa [dwnD] using hi
    exact ⟨.int (lo - i), w2, by simp [dwnD, hi'], rfl, Ext.refl _, hw, .int _⟩
end
def rngOk60 (i : Int) : Bool := decide (-1152921504606846976 ≤ i) && decide (i < 1152921504606846976)
def rngDM (d e f : D) : M (List D) := match d, e, f with | .int i, .int j, .int k => if (rngOk60 i && rngOk60 j && decide (k = -1)) = true then M.pure (dwnD i (i - j).toNat) else M.bad | _, _, _ => M.bad
def mRngD (m m' m'' : Env → M D) : Env → M (List D) := fun env => M.bind (m env) fun x => M.bind (m' env) fun y => M.bind (m'' env) fun z => rngDM x y z
section
variable {X : Cx} {ca : CA} {W : WX} {tg a b c : Expr} {m m' m'' : Env → M D} {p pos : Pos}
theorem mi_rngD (hm : X.mg "range" = none) (ha : ME X ca W a m) (hb : ME X ca W b m') (hc : ME X ca W c m'') (hg : Gl X "range" := by rfl) (hs : starEach [a, b, c] X.env = [(false, eval a X.env), (false, eval b X.env), (false, eval c X.env)] := by rfl) (hs2 : starEach [b, c] X.env = [(false, eval b X.env), (false, eval c X.env)] := by rfl) (hs3 : starEach [c] X.env = [(false, eval c X.env)] := by rfl) : MI X ca W tg (.Call (.Name "range" p) [a, b, c] [] pos) (mRngD m m' m'') :=
  PI.mono (pi_rangeD hg hm (pa_cons ha (pa_cons hb (pa_cons hc pa_nil hs3) (by rw [hs2, hs3])) (by rw [hs, hs2])) hs hs2) fun σ H R q => by
    obtain ⟨w, mh, env, rfl, hw, hf, hp⟩ := q
    refine stepG (rep := repV X.K) hw hf hp fun w1 mh1 v1 d1 x1 hw1 hf1 r1 hp1 => ?_
    refine stepG (rep := repV X.K) hw1 hf1 hp1 fun w2 mh2 v2 d2 x2 hw2 hf2 r2 hp2 => ?_
    refine stepG (rep := repV X.K) hw2 hf2 hp2 fun w3 mh3 v3 d3 x3 hw3 hf3 r3 hp3 => ?_
    cases r1 <;> cases r2 <;> cases r3 <;> first | exact hp3.elim | skip
    rename_i i j k
    by_cases c : (rngOk60 i && rngOk60 j && decide (k = -1)) = true
    · simp only [rngDM, c, if_true] at hp3
      simp only [Bool.and_eq_true, decide_eq_true_eq, rngOk60] at c
      obtain ⟨⟨⟨c1, c2⟩, c3, c4⟩, rfl⟩ := c
      exact ⟨i, j, rfl, ⟨by omega, by omega, by omega, by omega⟩, PostG.ret hp3 hw3 serves_dwn⟩
    · simp only [rngDM, c] at hp3; exact hp3.elim
end
@[simp] theorem ev_rngD {m m' m'' : Env → M D} {env : Env} {h : MH} : mRngD m m' m'' env h = (m env h).bind fun x h' => (m' env h').bind fun y h'' => (m'' env h'').bind fun z h3 => rngDM x y z h3 := id rfl
end AG
/-! AgDm: divmod. -/
namespace AG
open PySem PySem.Spec PyProof.Rows L2
def fDivmod : LOp := fun ds => match ds with
  | [.int i, .int j] => if 0 < j ∧ j.natAbs < 1073741824 then M.pure (.tup [.int (i / j), .int (i % j)]) else M.bad
  | _ => M.bad
section
variable {K : PySem.W.Frag} {ca : CA}
theorem cm_divmod : CallM K ca (fun xs H Q => ∃ i j, xs = [.int i, .int j] ∧ CDivP i j ∧ ∀ p, H p = none → Q (.ref p) (upd H p (.tup [.int (i / j), .int (i % j)]))) fDivmod := by
  intro W σ w mh xs ds Q hw r hp
  unfold fDivmod at hp
  split at hp
  · rename_i i j
    cases r with
    | cons h1 r => cases r with
      | cons h2 r =>
        cases r
        cases h1; cases h2
        by_cases c : 0 < j ∧ j.natAbs < 1073741824
        · rw [if_pos c] at hp
          exact ⟨i, j, rfl, ⟨c.1, PyProof.noPylong_small c.2⟩, PostG.tup hp hw (.cons (.int _) (.cons (.int _) .nil))⟩
        · rw [if_neg c] at hp
          exact hp.elim
  · exact hp.elim
end
section
variable {X : Cx} {ca : CA} {W : WX} {e : Expr} {es : List Expr} {ms : Env → M (List D)} {p pos : Pos}
theorem me_divmod (hm : X.mg "divmod" = none) (ha : MA X ca W (e :: es) ms) (hg : Gl X "divmod" := by rfl) (he : starEach (e :: es) X.env = (false, eval e X.env) :: starEach es X.env := by rfl) (hpl : (backTo pos (starEach es X.env)).any (·.1) = false := by rfl) : ME X ca W (.Call (.Name "divmod" p) (e :: es) [] pos) (mCall fDivmod ms) :=
  me_callB call_divmodW cm_divmod hm (by decide +kernel) ha hg (by decide) (by decide) he hpl
end
/-- tuple(reversed(x)), x a list -/
def revTM (d : D) : M D := match d with | .lst xs => M.pure (.tup xs.reverse) | _ => M.bad
def mTupRev (m : Env → M D) : Env → M D := fun env => M.bind (m env) revTM
section
variable {X : Cx} {ca : CA} {W : WX} {e : Expr} {m : Env → M D} {p p2 pos pos2 : Pos}
theorem me_tupRev (hc : X.calm = true) (hm : X.mg "tuple" = none) (hm2 : X.mg "reversed" = none) (he : ME X ca W e m) (hg : Gl X "tuple" := by rfl) (hg2 : Gl X "reversed" := by rfl)
    (hs : starEach [e] X.env = (false, eval e X.env) :: starEach [] X.env := by rfl)
    (hs2 : starEach [.Call (.Name "reversed" p2) [e] [] pos2] X.env = (false, eval (.Call (.Name "reversed" p2) [e] [] pos2) X.env) :: starEach [] X.env := by rfl) :
    ME X ca W (.Call (.Name "tuple" p) [.Call (.Name "reversed" p2) [e] [] pos2] [] pos) (mTupRev m) :=
  PE.mono (RT.pe_tupRev hc hg hm hg2 hm2 he hs hs2) fun σ H Q h => by
    obtain ⟨w, mh, env, rfl, hw, hf, hp⟩ := h
    refine stepG (rep := repV X.K) hw hf hp fun w1 mh1 v1 d1 x1 hw1 hf1 r1 hp1 => ?_
    cases r1 with
    | lst h r => exact ⟨_, _, rfl, .of (hw1.subL _ _ h), PostG.tup hp1 hw1 r.reverse⟩
    | _ => exact hp1.elim
end
@[simp] theorem ev_tupRev {m : Env → M D} {env : Env} {h : MH} : mTupRev m env h = (m env h).bind fun x h' => revTM x h' := id rfl
@[simp] theorem ev_revT {xs : List D} {h : MH} : revTM (.lst xs) h = .ok (.tup xs.reverse) h := id rfl
@[simp] theorem f_divmod {h : MH} {i j : Int} (c : 0 < j ∧ j.natAbs < 1073741824) : fDivmod [.int i, .int j] h = .ok (.tup [.int (i / j), .int (i % j)]) h := by
  show (if 0 < j ∧ j.natAbs < 1073741824 then M.pure (D.tup [.int (i / j), .int (i % j)]) else M.bad) h = _
  rw [if_pos c]
  rfl
end AG
/-! AgTp: except (A, B): two classes in one clause. -/
namespace L2
open PySem PySem.Spec PyProof.Rows
/-- what the clause wishes of an exception of the body -/
def wTup2 (K : PySem.W.Frag) (c c2 : Value) (ts : Addr → Value → Option Addr → TS) (Wout : WX) (D : Ends) : WX := fun cls d σ H =>
  ∃ b, PySem.W.exmAny K cls [c, c2] = some b ∧ (b = true → ∀ a, H a = none → ts a cls d D σ H) ∧ (b = false → Wout cls d σ H)
theorem FlyingZ_keep {base h h' : Heap} {l : List PySem.Env} {e : Addr} {Z : Obj → Prop} (x : HandSPX.FlyingZ base l e Z h) (k : ∀ q o, h.get? q = some o → h'.get? q = some o) : HandSPX.FlyingZ base l e Z h' := by
  obtain ⟨x1, x2, x3, oe, vs, T, oT, ts, t1, t2, t3, t4, t5, t6, t7, t8, t9⟩ := x
  exact ⟨fun b o e => k b o (x1 b o e), x2, Heap.FunFrames.of_keeps (fun b o e _ => ⟨o, k b o e, rfl⟩) x3, oe, vs, T, oT, ts, k _ _ t1, t2, t3, t4, t5, t6, k _ _ t7, t8, t9⟩
section
variable {X : Cx} {x y : Str} {c c2 : Value} {body suite : List Stmt} {b₀ : Stmt} {np mp tp pos pos' : Pos} {kk : Nat} {tb : WX → TS} {ts : Addr → Value → Option Addr → TS} {Wout : WX}
theorem ps_try_tup2 (hs : X.stack = X.env :: X.outer) (hf : X.env.frame = some X.env.locals) (hc : Names X x c) (hc2 : Names X y c2) (tk : Takes X Wout)
    (hb : ∀ (W : WX) (pn : List (Addr × Obj)) (xe : Value → Shared → Prop), Takes (X.tr pn xe) W → PassesOwn (model X.prog X.w) X.A X.env xe → PSs (X.tr pn xe) body (tb W))
    (hsu : ∀ (a : Addr) (oe : Obj) (cls : Value) (d : Option Addr) (pn : List (Addr × Obj)), Zc cls d oe → (∃ vs, oe.data = .fields vs) → PSs (X.suite a ((a, oe) :: pn)) (b₀ :: suite) (ts a cls d)) :
    PS X (.Try body [.ExceptHandler (some (.Tuple [.Name x np, .Name y mp] kk tp)) none (b₀ :: suite) pos'] [] [] pos) (fun D σ H => tb (wTup2 X.K c c2 ts Wout D) D σ H) := by
  refine ⟨fun pins s σ H D I h => ?_⟩
  have ok := I.ok
  have hfr : X.A.frames = some (X.env :: X.outer) := by rw [ok.frames, hs]
  refine wpAny_Try_except ?_
  refine wpAny_mono ((hb (wTup2 X.K c c2 ts Wout D) (X.pn ++ pins) (fun e s₁ => wpAny (model X.prog X.w) X.A (noteFrame e X.env) (fun _ s₂ => wpAny (model X.prog X.w) X.A (setFlight e none) (fun _ s₃ =>
    wpAny (model X.prog X.w) X.A (handleBy e X.env [.ExceptHandler (some (.Tuple [.Name x np, .Name y mp] kk tp)) none (b₀ :: suite) pos']) (SP X pins D) X.xe s₃) X.xe s₂) X.xe s₁) (fun u s' xx => ?_) PassesOwn.looking).run [] s σ H D (I.toTry _) h) (fun f s1 hsp => ?_) (fun e s1 he => he)
  · -- the catch
    obtain ⟨a, B, sI, pins', σ', H', cls, d, rfl, J', nb, up, sky, na, os, ag, b, hb1, hyes, hno⟩ := xx
    have J : Inv X pins σ' H' sI := J'.ofTry ok
    have sky' : Sky B (X.env :: X.outer) a (Zc cls d) X.env.locals s'.heap := by rw [← hs]; exact sky
    show wpAny (model X.prog X.w) X.A (noteFrame (.ref a) X.env) _ _ _
    refine Sky.land Zc.steady hfr hf sky' fun h3 fl3 up3 => ?_
    have J3 : Inv X pins σ' H' { s' with heap := h3 } := J.landed nb fl3.1 (up.trans up3) os ag
    obtain ⟨oe3, vs3, he3, hz3, hd3⟩ := fl3.there
    have notFr : ∀ {h : Heap} {o : Obj} {vs : Array Value}, h.FunFrames B (X.env :: X.outer) → h.get? a = some o → o.data = .fields vs → a ∉ frs (X.env :: X.outer) := fun {h o vs} ff e dd hm => by
      obtain ⟨_, o', e', hnf⟩ := ff.mem hm
      rw [e] at e'; cases e'
      exact hnf _ dd
    have nfr := notFr fl3.2.2.1 he3 hd3
    have nL : a ≠ X.env.locals := fun z => nfr (List.mem_filterMap.mpr ⟨X.env, List.mem_cons_self, by rw [hf, z]⟩)
    have nF : a ∉ X.fs := fun hm => by
      obtain ⟨e, he, q⟩ := List.mem_filterMap.mp hm
      exact nfr (List.mem_filterMap.mpr ⟨e, List.mem_cons_of_mem _ he, q⟩)
    have S3 := J3.suite he3 hd3 na nL nF
    refine wpAny_handleBy_cons (codeAny_handlers_test ?_) (by intro q; cases q)
    have LT : PySem.W.Looks (model X.prog X.w) h3 (typeOf (.ref a)) cls := fun A Q E s k q => wpAny_typeOf_ref (k _ _ he3) (by rw [hz3.1]; exact q)
    have test : ∀ {z : Str} {zp : Pos} {cz : Value} {Q : Value → Shared → Prop} {E : Value → Shared → Prop}, Names X z cz → Q cz { s' with heap := h3 } → wpAny (model X.prog X.w) (X.A.mark (some (.ref a))) (eval (.Name z zp) X.env) Q E { s' with heap := h3 } := fun {z zp cz Q E} hz q => by
      obtain ⟨hg, hdbg, hm | ⟨hm, hv, hnn⟩⟩ := hz
      · exact ld_glob (X := X.suite a ((a, oe3) :: (X.pn ++ pins))) S3 hg hm q hdbg
      · exact ld_blt (X := X.suite a ((a, oe3) :: (X.pn ++ pins))) S3 hg hm hv q hnn hdbg
    have ls : ∀ {z : Str} {zp : Pos} {rest : List Expr}, starEach (.Name z zp :: rest) X.env = (false, eval (.Name z zp) X.env) :: starEach rest X.env := by intros; rfl
    refine Tuple_ (spliced_more (test hc (spliced_more (test hc2 (spliced_none ?_)))))
    refine wpAny_newObj_type ?_
    have kp : ∀ q o, h3.get? q = some o → (h3.push { cls := .type "tuple", data := .seq [c, c2].toArray }).get? q = some o := fun _ _ e => Heap.get?_push_of_some _ e
    have flp := FlyingZ_keep fl3 kp
    have upp : h3.UpToSlots (h3.push { cls := .type "tuple", data := .seq [c, c2].toArray }) := Heap.UpToSlots.of_keeps kp
    have Jp : Inv X pins σ' H' { s' with heap := h3.push { cls := .type "tuple", data := .seq [c, c2].toArray } } := J.landed nb flp.1 ((up.trans up3).trans upp) os ag
    have tpAt : (h3.push { cls := .type "tuple", data := .seq [c, c2].toArray }).get? h3.objs.size = some { cls := .type "tuple", data := .seq [c, c2].toArray } := Heap.get?_push_size _ rfl
    have LM := PySem.W.exm_tup2 (M := model X.prog X.w) Jp.kIn (LT.keeps kp) tpAt hb1
    refine LM.here ?_
    have up3 := up3.trans upp
    have fl3 := flp
    generalize h3.push { cls := .type "tuple", data := .seq [c, c2].toArray } = h3 at *
    cases b with
    | true =>
      refine codeAny_handlers_suite ?_
      refine HandSPX.lands_againZ fl3 fun h4 fl4 up4 => ?_
      have J4 : Inv X pins σ' H' { s' with heap := h4 } := J.landed nb fl4.1 ((up.trans up3).trans up4) os ag
      obtain ⟨oe4, vs4, he4, hz4, hd4⟩ := fl4.there
      have S4 := J4.suite he4 hd4 na nL nF
      refine wpAny_mono ((hsu a oe4 cls d (X.pn ++ pins) hz4 ⟨_, hd4⟩).run [] _ _ H' _ S4 (hyes rfl a na)) (fun f s6 hsp => ?_) (fun _ _ z => False.elim z)
      cases f with
      | next =>
        obtain ⟨σ6, H6, S6, q6⟩ := hsp
        exact ⟨_, _, S6.unsuite ok, q6⟩
      | brk =>
        obtain ⟨σ6, H6, S6, q6⟩ := hsp
        exact ⟨_, _, S6.unsuite ok, q6⟩
      | cont =>
        obtain ⟨σ6, H6, S6, q6⟩ := hsp
        exact ⟨_, _, S6.unsuite ok, q6⟩
      | ret u =>
        obtain ⟨v6, σ6, H6, S6, r6, q6⟩ := hsp
        exact ⟨_, _, _, S6.unsuite ok, r6, q6⟩
    | false =>
      show wpAny _ X.A (handleBy (.ref a) X.env []) _ _ _
      refine wpAny_handleBy_nil ?_
      obtain ⟨k1, k2, k3, oe, vs, T, oT, ts', he, hz, hd, h1, hr⟩ := id fl3
      unfold PySem.passOn
      refine wpAny_bind (wpAny_field he hd h1 ?_)
      rw [if_neg (show ¬ ((Value.ref T == Value.none) = true) from by simp)]
      have fin : wpAny (model X.prog X.w) X.A (setFlight (.ref a) X.env.frame) (fun _ s4 => wpAny (model X.prog X.w) X.A (throw (.ref a) : Sem Flow) (SP X pins D) X.xe s4) X.xe { s' with heap := h3 } := by
        rw [hf]
        refine HandSPX.setFlight_upZ fl3 fun h4 hh4 up4 => wpAny_throw (tk _ _ ?_)
        exact ⟨a, B, sI, pins, σ', H', cls, d, rfl, J, nb, (up.trans up3).trans up4, .inr (.inr (by rw [hs]; exact hh4)), na, os, ag, hno rfl⟩
      first
        | exact wpAny_bind (wpAny_pure (wpAny_bind fin))
        | exact wpAny_bind fin
  · cases f with
    | next =>
      obtain ⟨σ', H', J', q⟩ := hsp
      exact wpAny_execs_nil ⟨σ', H', J'.ofTry ok, q⟩
    | brk =>
      obtain ⟨σ', H', J', q⟩ := hsp
      exact ⟨σ', H', J'.ofTry ok, q⟩
    | cont =>
      obtain ⟨σ', H', J', q⟩ := hsp
      exact ⟨σ', H', J'.ofTry ok, q⟩
    | ret u =>
      obtain ⟨v, σ', H', J', r, q⟩ := hsp
      exact ⟨v, σ', H', J'.ofTry ok, r, q⟩
end
end L2
namespace AG
open PySem PySem.Spec PyProof.Rows L2
/-- either of two clauses -/
def s_or (s1 s2 : Nat → Option Bool) : Nat → Option Bool := fun c => match s1 c, s2 c with | some a, some b => some (a || b) | _, _ => none
section
variable {X : Cx} {ca : CA} {W : WX} {n : Nat} {x y : Str} {c c2 kk : Nat} {p pos cpos np mp tp pos' : Pos} {mb ms : Env → M Fl} {body suite : List Stmt} {b₀ : Stmt} {s s2 : Nat → Option Bool}
theorem ms_try2 (E : EC X.K X.mg ca c x) (M : EM X.K ca c s) (E2 : EC X.K X.mg ca c2 y) (M2 : EM X.K ca c2 s2) (hs : X.stack = X.env :: X.outer) (hf : X.env.frame = some X.env.locals) (tk : Takes X W)
    (hb : ∀ (W' : WX) (pn : List (Addr × Obj)) (xe : Value → Shared → Prop), Takes (X.tr pn xe) W' → PassesOwn (model X.prog X.w) X.A X.env xe → MSs (X.tr pn xe) ca W' n body mb)
    (hsu : ∀ (a : Addr) (oe : Obj) (pn : List (Addr × Obj)), MSs (X.suite a ((a, oe) :: pn)) ca W0 n (b₀ :: suite) ms) (hg : Gl X x := by rfl) (hdb : (x == ("__debug__" : Str)) = false := by decide) (hg2 : Gl X y := by rfl) (hdb2 : (y == ("__debug__" : Str)) = false := by decide) :
    MS X ca W n (.Try body [.ExceptHandler (some (.Tuple [.Name x np, .Name y mp] kk tp)) none (b₀ :: suite) pos'] [] [] pos) (mTry n (s_or s s2) mb ms) :=
  PS.mono (ps_try_tup2 (tb := fun W' => denS X.K ca W' n mb) (ts := fun _ _ _ => denS X.K ca W0 n ms) hs hf ⟨hg, hdb, .inl E.gC⟩ ⟨hg2, hdb2, .inl E2.gC⟩ tk (fun W' pn xe tk' po => hb W' pn xe tk' po) (fun a oe cls d pn _ _ => hsu a oe pn)) fun D' σ H h => by
    obtain ⟨w0, w, mh, env, rfl, hw, sr, hp⟩ := h
    refine ⟨w0, w, mh, env, rfl, hw, sr, wpR_mono (wpR_catch hp) (fun _ _ z => z) fun cl mh' z w1 σ1 x1 hw1 l1 => ?_⟩
    obtain ⟨b, e, z1, z2⟩ := z
    have e' : ∃ b1 b2, s cl = some b1 ∧ s2 cl = some b2 ∧ b = (b1 || b2) := by
      unfold s_or at e
      split at e
      · rename_i b1 b2 h1 h2
        exact ⟨b1, b2, h1, h2, (Option.some.inj e).symm⟩
      · cases e
    obtain ⟨b1, b2, h1, h2, rfl⟩ := e'
    refine ⟨b1 || b2, ?_, fun hb a ha => ?_, fun hb => z2 hb w1 σ1 x1 hw1 l1⟩
    · have k1 := M cl b1 h1
      have k2 := M2 cl b2 h2
      unfold PySem.W.exmAny
      rw [k1]
      unfold PySem.W.exmAny
      rw [k2]
      simp [PySem.W.exmAny]
    have z3 := wpR_bind.mp (wpR_calm (E' := fun _ _ => False) (z1 hb))
    refine ⟨w0, w1, mh', List.replicate n .no, rfl, hw1, ⟨x1, frOk_no l1, l1, fun i ds a h => ?_⟩, wpR_mono z3 (fun fl m2 q => ?_) fun _ _ q => q.elim⟩
    · cases List.eq_of_mem_replicate (List.mem_of_getElem? h)
    · cases fl with
      | rt d => exact q
      | nx e => exact q.elim
      | bk e => exact q.elim
      | ct e => exact q.elim
end
end AG
/-! AgDk: comprehensions of dicts whose keys are tuples; len of such dicts, sorted over them. -/
namespace AG
open PySem L2
open PySem.Spec PyProof.Rows
section
variable {X : Cx} {pins : List (Addr × Obj)} {σ : L2.St} {H : Hp} {s : Shared}
abbrev dxO (X : Cx) (D : Addr) (xs : List (NestedKey × Addr × V)) : HO := .ext (dctφ X.w D xs)
theorem dict_put {k0 : Nat} (hr : Room k0 X.A) {E : Value → Shared → Prop} {D b : Addr} {k : NestedKey} {xs : List (NestedKey × Addr × V)} {v : V} {r : Value} {Q : Unit → Shared → Prop} (I : Inv X pins σ H s) (hd : dK X D xs H) (hk : isK X k b H) (rv : RelV v r)
    (h : ∀ s', Inv X pins σ (upd H D (dxO X D (xPut xs k b v))) s' → Q () s') : wpAny (model X.prog X.w) X.A (dictSet D (.ref b) r) Q E s := by
  obtain ⟨ys, rel, dd⟩ := dK_of hd I
  have rm : (nestedKind X.prog X.w).room X.A := by
    have := hr.un
    show X.A.units + 8 < cLine
    omega
  have sz : ys.length ≤ sizeLine := by
    have := hd.2.2.1
    rw [← ys_len rel, sizeLine_eq]; omega
  refine wpAny_dictSet_heap (knd := nestedKind X.prog X.w) (hsz := sz) rm ⟨hk.2 _ _ _ I, hk.1⟩ dd fun g dg same => h _ ?_
  exact d_write I (by rw [hd.1]; exact True.intro) same (by obtain ⟨o, _, _, e, _⟩ := dg; exact ⟨o, e⟩) (dct_ok (ys_put rv rel) dg)
/-- the same facts in any context over the same fragment and world -/
def dKs (X : Cx) (D : Addr) (xs : List (NestedKey × Addr × V)) (k : NestedKey) (b : Addr) (H : Hp) : Prop := ∀ Y : Cx, Y.K = X.K → Y.prog = X.prog → Y.w = X.w → dK Y D xs H ∧ isK Y k b H
/-- a comprehension: D is the new dict, W what holds ahead of each turn -/
def tDcX (X : Cx) (wi : TI) (g : TG) (tt : TT) (tk tv : TE) (vs : List Nat) : TE := fun σ H Q => wi σ H fun J H1 => ∀ D, H1 D = none → (D == sysModules) = false →
  ∃ W : Nat → Nat → Hp → Prop, (∃ m, W 0 m (upd H1 D (dxO X D []))) ∧ ∀ i m H, W i m H → (J.stop i H ∧ Q (.ref D) H) ∨
    (J.go i H ∧ ∃ N : Hp → Prop, (∀ H', N H' → ∃ j, j < m ∧ W (i + 1) j H') ∧ ∀ x H', J.yld i H x H' → g x (wipe σ vs) H' fun σ2 H2 => wipe σ2 vs = wipe σ vs ∧ tt σ2 H2 fun c H3 =>
      if c = true then tk σ2 H3 fun y H4 => tv σ2 H4 fun z H5 => ∃ xs k b, y = .ref b ∧ dKs X D xs k b H5 ∧ N (upd H5 D (dxO X D (xPut xs k b z))) else N H3)
theorem pe_dcX {kx vx tg iter : Expr} {ifs : List Expr} {scope : Scope} {own : List (Str × Nat)} {pos : Pos} {wi : TI} {g : TG} {tt : TT} {tk tv : TE} {k0 : Nat} (hr : Room k0 X.A) (hc : X.calm = true) (hN : X.N.Nodup) (hi : PI X tg iter wi) (ok : BlkOk X.N X.env.scope scope own)
    (hg : ∀ (s : Shared) (H : Hp) (C : Addr) (cl : List (Str × Addr)) (fp : List Addr), PG (X.blk s H scope (compEnvC scope cl C X.env) fp) tg g)
    (ht : ∀ (s : Shared) (H : Hp) (C : Addr) (cl : List (Str × Addr)) (fp : List Addr), PTs (X.blk s H scope (compEnvC scope cl C X.env) fp) ifs tt)
    (hk : ∀ (s : Shared) (H : Hp) (C : Addr) (cl : List (Str × Addr)) (fp : List Addr), PE (X.blk s H scope (compEnvC scope cl C X.env) fp) kx tk)
    (he : ∀ (s : Shared) (H : Hp) (C : Addr) (cl : List (Str × Addr)) (fp : List Addr), PE (X.blk s H scope (compEnvC scope cl C X.env) fp) vx tv)
    (hs : ∀ x, foldedSetIterable iter X.env x = pure x := by intro _; rfl) :
    PE X (.DictComp kx vx [⟨tg, iter, ifs, 0⟩] scope pos) (tDcX X wi g tt tk tv (own.map (·.2))) := by
  refine ⟨fun pins s σ H Q I q0 => ?_⟩
  rw [arm_eval_DictComp]
  have hfr : ∀ y ∈ scope.names, y.2 = .free → ∃ c, X.env.cells.lookup y.1 = some c := fun y hy e =>
    (ok.free y hy e).elim (fun z => I.ok.has _ (.inl z)) (fun z => I.ok.has _ (.inr z))
  refine wpAny_comprehension_free (use := none) rfl hs (closure_ok hfr) ok.kind (fun y hy e => by rw [ok.uniq y hy, e]) (thn (hi.run pins s σ H _ I q0) fun xv s1 r1 => thn r1 fun itv s2 r2 => ?_)
  obtain ⟨it, fp, tn, J, H1, rfl, I2, T, t0, f2, q1⟩ := r2
  refine wpAny_newObj_type (newEnv_comp ?_)
  have low : sysModules < s2.heap.objs.size := I2.big
  obtain ⟨W, ⟨m0, w0⟩, turn⟩ := q1 s2.heap.objs.size (I2.hok.fresh (Nat.le_refl _)) (beq_eq_false_iff_ne.mpr (Ne.symm (Nat.ne_of_lt low)))
  obtain ⟨D, hD⟩ : ∃ D, D = s2.heap.objs.size := ⟨_, rfl⟩
  rw [← hD] at w0 turn ⊢
  -- with the new dict
  obtain ⟨s3, hs3⟩ : ∃ s3 : Shared, s3 = { s2 with heap := s2.heap.push { cls := .type "dict", data := .dict #[] } } := ⟨_, rfl⟩
  have e3 : s3.heap = s2.heap.push { cls := .type "dict", data := .dict #[] } := by rw [hs3]
  have I3 : Inv X pins σ (upd H1 D (dxO X D [])) s3 := by
    rw [hs3, hD]
    exact I2.laid (t' := s2.toks) (fun _ _ z => Heap.get?_push_of_some _ z) (Nat.le_refl _) (dct_ok .nil (Heap.DictOfH.new s2.heap))
  have lt2 : ∀ b ∈ fp, b < s2.heap.objs.size := fun b hb => let ⟨_, z, _⟩ := T.obj _ _ t0 b hb; Heap.lt_size z
  have f3 : ∀ b ∈ fp, FpOk X pins (upd H1 D (dxO X D [])) b ∧ b < s3.heap.objs.size := fun b hb =>
    ⟨⟨by rw [upd_ne (by rw [hD]; exact Nat.ne_of_lt (lt2 b hb))]; exact (f2 b hb).1, (f2 b hb).2⟩, by rw [e3, Heap.size_push]; exact Nat.lt_succ_of_lt (lt2 b hb)⟩
  have t3 : tn 0 s3.heap := T.keep _ _ _ t0 fun b _ o z => by rw [e3]; exact Heap.get?_push_of_some _ z
  have I4 := block_start I3 ok hN f3
  have gP := hg s3 (upd H1 D (dxO X D [])) s3.heap.objs.size (cellsFrom (s3.heap.objs.size + 1) scope.names (cloFrom X.env.cells scope.names [])) fp
  have tP := ht s3 (upd H1 D (dxO X D [])) s3.heap.objs.size (cellsFrom (s3.heap.objs.size + 1) scope.names (cloFrom X.env.cells scope.names [])) fp
  have kP := hk s3 (upd H1 D (dxO X D [])) s3.heap.objs.size (cellsFrom (s3.heap.objs.size + 1) scope.names (cloFrom X.env.cells scope.names [])) fp
  have vP := he s3 (upd H1 D (dxO X D [])) s3.heap.objs.size (cellsFrom (s3.heap.objs.size + 1) scope.names (cloFrom X.env.cells scope.names [])) fp
  rw [← hs3]
  show codeAny (model X.prog X.w) X.A (.compStart (.DictComp kx vx [⟨tg, iter, ifs, 0⟩] scope pos) 0 (.ref it) (.ref D) (compEnvC scope (cellsFrom (s3.heap.objs.size + 1) scope.names (cloFrom X.env.cells scope.names [])) s3.heap.objs.size X.env)) (compPost (model X.prog X.w) X.A X.xe none (EP X pins σ Q) (.ref D) s3.heap.objs.size) { s3 with heap := pushCells (s3.heap.push { cls := .type "dict", data := .dict #[] }) scope.names }
  have nfp : ∀ b ∈ fp, upd H1 D (dxO X D []) b = none := fun b hb => (f3 b hb).1.1
  generalize hce : compEnvC scope (cellsFrom (s3.heap.objs.size + 1) scope.names (cloFrom X.env.cells scope.names [])) s3.heap.objs.size X.env = ce at I4 gP tP kP vP ⊢
  have cL : ce.locals = s3.heap.objs.size := by rw [← hce]; rfl
  generalize hH3 : upd H1 D (dxO X D []) = H3 at I3 I4 gP tP kP vP w0 nfp f3
  generalize hs4 : ({ s3 with heap := pushCells (s3.heap.push { cls := .type "dict", data := .dict #[] }) scope.names } : Shared) = s4 at I4 ⊢
  have t4 : tn 0 s4.heap := T.keep _ _ _ t3 fun b _ o z => by rw [← hs4]; exact pushCells_keeps _ _ _ _ (Heap.get?_push_of_some _ z)
  have chOk : ∀ {σ' : L2.St} {H' : Hp} {s' : Shared}, Inv (X.blk s3 H3 scope ce fp) [] σ' H' s' → (∀ b ∈ fp, H' b = none) → ∀ b ∈ fp, FpOk (X.blk s3 H3 scope ce fp) [] H' b := fun {σ' H' s'} J' nn b hb =>
    ⟨nn b hb, (J'.ok.exf b hb).1, J'.ok.exfs b hb, .inl hb, fun x c e => (J'.ok.exf b hb).2 x c e, fun p hp => absurd (show p ∈ ([] : List (Addr × Obj)) ++ [] from hp) (by simp)⟩
  have loop : codeAny (model X.prog X.w) X.A (.compLoop (.DictComp kx vx [⟨tg, iter, ifs, 0⟩] scope pos) 0 (.ref it) (.ref D) ce) (compPost (model X.prog X.w) X.A X.xe none (EP X pins σ Q) (.ref D) s3.heap.objs.size) s4 := by
    refine compLoop_anyD (fun n s' => ∃ i H', Inv (X.blk s3 H3 scope ce fp) [] (wipe σ (own.map (·.2))) H' s' ∧ tn i s'.heap ∧ (∀ b ∈ fp, H' b = none) ∧ W i n H') ?_ m0 ⟨0, H3, I4, t4, nfp, w0⟩
    intro n s5 inv
    obtain ⟨i, H5, I5, t5, n5, w5⟩ := inv
    rcases turn i n H5 w5 with ⟨halt, qq⟩ | ⟨go, N, hNx, step⟩
    · refine thnF (T.done (X.blk s3 H3 scope ce fp) rfl rfl rfl hc i [] s5 _ H5 (fun _ _ => False) I5 (chOk I5 n5) t5 halt) fun r s6 z => ?_
      obtain ⟨rfl, I6⟩ := z
      have I7 : Inv X pins σ H5 s6 := I3.call' (ch := fp) I6.os I6.base I6.hok I6.bare fun b hb => ⟨(f3 b hb).1.2.2.2.1, (f3 b hb).1.2.1, (f3 b hb).1.2.2.2.2.1, (f3 b hb).1.2.2.2.2.2⟩
      have nC : H5 s3.heap.objs.size = none := by rw [← cL]; exact I6.free
      obtain ⟨m, hn, _⟩ := I6.loc
      have hn : s6.heap.Ns s3.heap.objs.size m := by rw [← cL]; exact hn
      refine ⟨m, hn, fun g' sb => ?_⟩
      obtain ⟨a0, a1, a2, a3, a4, a5⟩ := I3.fpOk (H' := H5) (Nat.le_refl _) nC
      exact ⟨.ref D, H5, I7.turned (t' := s6.toks) (fun b o hb e => (sb.2 b hb).trans e) a0 a1 a3 a4 a5, rfl, qq⟩
    · refine thnF (T.item (X.blk s3 H3 scope ce fp) rfl rfl rfl hc i [] s5 _ H5 (fun _ _ => False) I5 (chOk I5 n5) t5 go) fun r s6 z => ?_
      obtain ⟨u, rfl, h6⟩ := z
      refine thnF h6 fun _ s7 z => ?_
      obtain ⟨x, H7, I7, r7, y7, t7, n7⟩ := z
      have I7p := I7.pinned (chOk I7 n7) (T.obj _ _ t7)
      refine thnF (gP.run _ s7 _ H7 x u _ I7p r7 (step x H7 y7)) fun _ s8 z => ?_
      obtain ⟨σ8, H8, I8, e8, q8⟩ := z
      refine thnF (tP.run _ s8 σ8 H8 _ I8 q8) fun c s9 z => ?_
      obtain ⟨H9, I9, q9⟩ := z
      have done : ∀ {s' : Shared} {H' : Hp}, Inv (X.blk s3 H3 scope ce fp) ([] ++ pinsAt fp s7.heap) σ8 H' s' → N H' → ∃ m, m < n ∧ ∃ i H', Inv (X.blk s3 H3 scope ce fp) [] (wipe σ (own.map (·.2))) H' s' ∧ tn i s'.heap ∧ (∀ b ∈ fp, H' b = none) ∧ W i m H' := fun {s' H'} J' nx => by
        obtain ⟨m', hm, w'⟩ := hNx H' nx
        have pin : ∀ b ∈ fp, ∀ o, s7.heap.get? b = some o → s'.heap.get? b = some o ∧ H' b = none := fun b hb o e =>
          have z := J'.pin (b, o) (List.mem_append_right _ (List.mem_append_right _ (mem_pinsAt hb e)))
          ⟨z.1, z.2.1⟩
        refine ⟨m', hm, i + 1, H', (J'.unpinned (pins := [])).weak (by rw [← e8, wipe_length]) (fun j v e => ?_), T.keep _ _ _ t7 fun b hb o e => (pin b hb o e).1, fun b hb => ?_, w'⟩
        · rw [← e8] at e
          exact (wipe_some e).1
        · obtain ⟨o, e, _⟩ := T.obj _ _ t7 b hb
          exact (pin b hb o e).2
      cases c with
      | false =>
        simp only [Bool.false_eq_true, if_false] at q9 ⊢
        exact done I9 q9
      | true =>
        simp only [if_true] at q9 ⊢
        refine thnF (kP.run _ s9 σ8 H9 _ I9 q9) fun ku s10 z => ?_
        obtain ⟨yk, H10, I10, rk, q10⟩ := z
        refine thnF (vP.run _ s10 σ8 H10 _ I10 q10) fun vu s11 z => ?_
        obtain ⟨yv, H11, I11, rv, xs, k, b, rfl, dk, nx⟩ := z
        cases (show ku = Value.ref b from rk)
        have dk := dk (X.blk s3 H3 scope ce fp) rfl rfl rfl
        exact dict_put (X := X.blk s3 H3 scope ce fp) (k0 := k0) hr I11 dk.1 dk.2 rv fun s12 I12 => done I12 nx
  exact codeAny_compStart_dict loop (T.self X.A 0 _ _ _ t4 loop)
end
/-! by data -/
def dcF (t : Tgt) (tt : Env → M Bool) (tk tv : Env → M D) (env : Env) (n : Nat) : List D → M D
  | [] => M.pure (.ref n)
  | x :: xs => match t x env with
    | some env1 => M.bind (tt env1) fun b => if b = true then M.bind (tk env1) fun y => M.bind (tv env1) fun z => M.bind (setDxM z (.ref n) y) fun _ => dcF t tt tk tv env n xs else dcF t tt tk tv env n xs
    | none => M.bad
def mDc (mi : Env → M (List D)) (t : Tgt) (tt : Env → M Bool) (tk tv : Env → M D) (vs : List Nat) : Env → M D :=
  fun env => M.bind (mi env) fun xs h => (dcF t tt tk tv (wipeE env vs) h.length xs (h ++ [.dct []])).calm
theorem dc_read {X : Cx} {ca : CA} (hW : ca.wd = X.w) {W : WX} {vs : List Nat} {mi : Env → M (List D)} {g : TG} {t : Tgt} {tt : Env → M Bool} {tk tv : Env → M D} (hgk : GOk X.K g t vs) {σ : L2.St} {H : Hp} {Q : VK} (h : denG (repV X.K) X.K ca W (mDc mi t tt tk tv vs) σ H Q) :
    tDcX X (denG (repI X.K ca) X.K ca W mi) g (denG repB X.K ca W0 tt) (denG (repV X.K) X.K ca W0 tk) (denG (repV X.K) X.K ca W0 tv) vs σ H Q := by
  obtain ⟨w, mh, env, rfl, hw, hf, hp⟩ := h
  refine stepX (rep := repI X.K ca) hw hf hp (fun _ _ q => q) fun w1 mh1 J xs x1 hw1 hf1 S hp1 => ?_
  have S : Serves X.K ca w1 J xs := S
  have hp1 := wpR_calm (E' := fun _ _ => False) hp1
  intro p hp0 hs0
  have x2 := Ext.new (o := dxO X p []) hp0
  have hw2 : WOk X.K ca (w1.new p (dxO X p [])) (mh1 ++ [.dct []]) := hw1.new hp0 ⟨[], by rw [hW]; exact upd_same, hs0, Nat.zero_le _, .nil, List.nodup_nil⟩
  have hat : (w1.ρ ++ [p])[mh1.length]? = some p := by
    rw [← hw1.len]
    simp
  refine ⟨fun i m H => m = xs.length - i ∧ i ≤ xs.length ∧ ∃ w2 mh2, w2.H = H ∧ Ext w1 w2 ∧ Grow (w1.new p (dxO X p [])) w2 ∧ WOk X.K ca w2 mh2 ∧
    wpR (dcF t tt tk tv (wipeE env vs) mh1.length (xs.drop i) mh2) (fun d mh3 => ∀ w' v, Ext w w' → WOk X.K ca w' mh3 → Rp X.K w' v d → Q v w'.H) (fun _ _ => False), ⟨xs.length, by simp, Nat.zero_le _, w1.new p (dxO X p []), _, rfl, x2, Grow.refl _, hw2, by simpa using hp1⟩, ?_⟩
  rintro i m H ⟨rfl, hi, w2, mh2, rfl, x2, g2, hw2, hp2⟩
  have fr2 := (hf1.ext x2).wipe vs
  have at2 : ∀ {w' : Wd}, Grow w2 w' → w'.ρ[mh1.length]? = some p := fun {w'} gg => by
    obtain ⟨ν, e⟩ := (g2.trans gg).rpre
    have e : w'.ρ = (w1.ρ ++ [p]) ++ ν := e
    rw [e, List.getElem?_append_left (List.getElem?_eq_some_iff.mp hat).1]
    exact hat
  by_cases hlt : i < xs.length
  · refine .inr ⟨S.go w2 mh2 i x2.grow hw2 hlt, fun H' => ∃ w4 mh4, w4.H = H' ∧ Ext w1 w4 ∧ Grow (w1.new p (dxO X p [])) w4 ∧ WOk X.K ca w4 mh4 ∧
      wpR (dcF t tt tk tv (wipeE env vs) mh1.length (xs.drop (i + 1)) mh4) (fun d mh3 => ∀ w' v, Ext w w' → WOk X.K ca w' mh3 → Rp X.K w' v d → Q v w'.H) (fun _ _ => False), fun H' q => ?_, fun x H' y => ?_⟩
    · exact ⟨xs.length - (i + 1), by omega, rfl, hlt, q⟩
    · obtain ⟨d, w3, e3, rfl, x3, hw3, r3⟩ := S.yld w2 mh2 i x H' x2.grow hw2 hlt y
      rw [List.drop_eq_getElem_cons hlt] at hp2
      have e3' : xs[i] = d := by rw [List.getElem?_eq_getElem hlt] at e3; exact Option.some.inj e3
      rw [e3'] at hp2
      cases q : t d (wipeE env vs) with
      | none => simp only [dcF, q] at hp2; exact hp2.elim
      | some env1 =>
        simp only [dcF, q] at hp2
        refine hgk w3 x d _ env1 _ _ hw3.subs r3 (fr2.ext x3) q fun σ1 f1 we _ => ⟨we.trans wipe_wipe, ?_⟩
        refine stepX (rep := repB) hw3 f1 hp2 (fun _ _ z => z.elim) fun w4 mh4 b b' x4 hw4 hf4 rb hp4 => ?_
        have rb : b = b' := rb
        subst rb
        have x14 := x2.trans (x3.trans x4)
        have g4 := x3.grow.trans x4.grow
        cases b with
        | false =>
          simp only [Bool.false_eq_true, if_false] at hp4 ⊢
          exact ⟨w4, mh4, rfl, x14, g2.trans g4, hw4, hp4⟩
        | true =>
          simp only [if_true] at hp4 ⊢
          refine stepX (rep := repV X.K) hw4 hf4 hp4 (fun _ _ z => z.elim) fun w5 mh5 v5 d5 x5 hw5 hf5 r5 hp5 => ?_
          refine stepX (rep := repV X.K) hw5 hf5 hp5 (fun _ _ z => z.elim) fun w6 mh6 v6 d6 x6 hw6 hf6 r6 hp6 => ?_
          have g6 := g4.trans (x5.grow.trans x6.grow)
          have h2 := at2 g6
          have x16 := x14.trans (x5.trans x6)
          obtain ⟨mo', e1, _, _, hob⟩ := hw6.at h2
          cases mo' with
          | dct kvs =>
            cases q : keyOk d5 with
            | none => simp only [M.bind, setDxM, e1, q, R.bind] at hp6; exact hp6.elim
            | some k =>
              by_cases lz : kvs.length < 16000000
              · simp only [M.bind, setDxM, e1, q, lz, if_true, R.bind, M.pure] at hp6
                obtain ⟨k1, k2, ys, rfl⟩ := keyOk_of q
                obtain ⟨zs, hH, hS, hl, r, nd⟩ := hob
                have rk : Rp X.K w6 v5 (.tup ys) := x6.rp r5
                have rk' := rk
                cases rk with
                | tup h1 rr =>
                  rename_i b us
                  refine ⟨zs, k, b, rfl, fun Y hK hP hYw => ⟨⟨by rw [hYw, ← hW]; exact hH, hS, hl, nd, ?_⟩, ?_⟩, ?_⟩
                  · exact dks_all (X := Y) hw6.subs (by rw [hK]; exact r)
                  · exact key_isK (X := Y) hw6.subs k1 k2 (by rw [hK]; exact rk')
                  · have hm := List.mem_of_getElem? h2
                    have x7 : Ext w6 (w6.put p (dxO X p (xPut zs k b v6))) := Ext.obj hm
                    have hl2 : (xPut zs k b v6).length ≤ 16000000 := by
                      have := xPut_len (xs := zs) (k := k) (b := b) (v := v6)
                      have := dks_len r
                      omega
                    have dd := dks_put k1 k2 rk' (show Rp X.K w6 v6 d6 from r6) r
                    exact ⟨w6.put p (dxO X p (xPut zs k b v6)), _, rfl, x16.trans x7, g2.trans (g6.trans x7.grow), hw6.obj' (mo := .dct (dPut kvs (.tup ys) k d6)) h2 ⟨xPut zs k b v6, by rw [hW]; exact upd_same, hS, hl2, Paired.mapP dd fun _ _ z => ⟨z.1, z.2.1, z.2.2.1.mono put_grow, z.2.2.2.mono put_grow⟩, xPut_keys nd⟩, hp6⟩
              · simp only [M.bind, setDxM, e1, q, lz, if_false, R.bind] at hp6; exact hp6.elim
          | _ => simp only [M.bind, setDxM, e1, R.bind] at hp6; exact hp6.elim
  · have e : i = xs.length := by omega
    subst e
    refine .inl ⟨S.stop w2 mh2 _ x2.grow hw2 (Nat.le_refl _), ?_⟩
    rw [List.drop_length] at hp2
    exact hp2 w2 (.ref p) (x1.trans x2) hw2 (.ref (at2 (Grow.refl _)))
theorem me_dc {X : Cx} {ca : CA} {W : WX} {kx vx tg iter : Expr} {ifs : List Expr} {scope : Scope} {own : List (Str × Nat)} {pos : Pos} {mi : Env → M (List D)} {g : TG} {t : Tgt} {tt : Env → M Bool} {tk tv : Env → M D} {k0 : Nat}
    (hr : Room k0 X.A) (hW : ca.wd = X.w) (hc : X.calm = true) (hN : X.N.Nodup) (hi : MI X ca W tg iter mi) (ok : BlkOk X.N X.env.scope scope own) (hgk : GOk X.K g t (own.map (·.2)))
    (hg : ∀ (s : Shared) (H : Hp) (C : Addr) (cl : List (Str × Addr)) (fp : List Addr), PG (X.blk s H scope (compEnvC scope cl C X.env) fp) tg g)
    (ht : ∀ (s : Shared) (H : Hp) (C : Addr) (cl : List (Str × Addr)) (fp : List Addr), MTs (X.blk s H scope (compEnvC scope cl C X.env) fp) ca W0 ifs tt)
    (hk : ∀ (s : Shared) (H : Hp) (C : Addr) (cl : List (Str × Addr)) (fp : List Addr), ME (X.blk s H scope (compEnvC scope cl C X.env) fp) ca W0 kx tk)
    (he : ∀ (s : Shared) (H : Hp) (C : Addr) (cl : List (Str × Addr)) (fp : List Addr), ME (X.blk s H scope (compEnvC scope cl C X.env) fp) ca W0 vx tv)
    (hs : ∀ x, foldedSetIterable iter X.env x = pure x := by intro _; rfl) : ME X ca W (.DictComp kx vx [⟨tg, iter, ifs, 0⟩] scope pos) (mDc mi t tt tk tv (own.map (·.2))) :=
  PE.mono (pe_dcX (tv := denG (repV X.K) X.K ca W0 tv) (tk := denG (repV X.K) X.K ca W0 tk) (tt := denG repB X.K ca W0 tt) hr hc hN hi ok hg ht hk he hs) fun σ H Q h => dc_read hW hgk h
end AG
namespace AG
open PySem L2
open PySem.Spec PySem.W PyProof.Rows PySem.Calls
section
variable {prog : Program} {w : World} {A : Around} {E : Value → Shared → Prop} {s : Shared} {T : String} {r d : Addr} {n : Nat} {P : Nat → Value → Prop} {OK : Heap → Prop}
theorem vals_raw {es : Array DictEntry} {acc : Array Value} (h : ItemsOf (fun i v => ∃ hi : i < es.size, v = es[i].key) acc es.size) : acc.toList = es.toList.map (·.key) := by
  refine List.ext_getElem? fun i => ?_
  obtain ⟨h1, h2⟩ := h
  rw [List.getElem?_map, Array.getElem?_toList, Array.getElem?_toList]
  by_cases hi : i < es.size
  · have ha : i < acc.size := by rw [h1]; exact hi
    obtain ⟨_, e⟩ := h2 i acc[i] (Array.getElem?_eq_getElem ha)
    rw [Array.getElem?_eq_getElem ha, Array.getElem?_eq_getElem hi, e]
    rfl
  · rw [Array.getElem?_eq_none (by rw [h1]; omega), Array.getElem?_eq_none (by omega)]
    rfl
theorem dict_collect {R : List Value → Shared → Prop} {es : Array DictEntry} {ep : Nat} (lo : (d == sysModules) = false) (hh : A.handled = none) (hm : s.heap.DictRaw d es ep) (hn : es.size ≤ sizeLine)
    (h : ∀ (h' : Heap) (tk : Nat) (acc : Array Value), (∀ b o, s.heap.get? b = some o → h'.get? b = some o) → s.heap.objs.size < h'.objs.size → ItemsOf (fun i v => ∃ hi : i < es.size, v = es[i].key) acc es.size → R acc.toList { s with heap := h', toks := tk }) :
    wpAny (model prog w) A (collect (.ref d)) R E s := by
  have src := KdlSrc.rawDict (prog := prog) (w := w) (es := es) (ep := ep) lo
  unfold collect
  refine wpAny_bind (wpAny_runValue (codeAny_builtin entry_proto_collect' ?_))
  rw [Around.under_plainId PySem.F.plain_proto_collect _]
  show wpAny _ A.in1 (newList [] >>= fun l => again (.builtin "list.__iadd__" ⟨[l, .ref d], []⟩)) _ _ s
  refine wpAny_bind (wpAny_newObj_type (wpAny_pure ⟨plainId_quiet PySem.F.plain_list_iadd _, codeAny_builtin entry_list_iadd' ?_⟩))
  rw [Around.under_plainId PySem.F.plain_list_iadd _]
  have at0 : (s.heap.push { cls := .type "list", data := .seq ([] : List Value).toArray }).get? s.heap.objs.size = some { cls := .type "list", data := .seq #[] } := Heap.get?_push_size _ rfl
  have ne : s.heap.objs.size ≠ d := Nat.ne_of_gt hm.lt_size
  show wpAny _ A.in1 (Builtin.List.listExtendWith (.ref s.heap.objs.size) (.ref d) (.ref s.heap.objs.size)) _ _ _
  have ext := kdl_extend (A := A) (s := { s with heap := s.heap.push { cls := .type "list", data := .seq ([] : List Value).toArray } })
    (R := fun (q : Result) (s' : Shared) => ∃ (h' : Heap) (tk : Nat) (acc : Array Value) (c : Nat), q = .ok (.ret (.ref s.heap.objs.size)) ∧ s' = { s with heap := h', toks := tk } ∧ (∀ b o, s.heap.get? b = some o → h'.get? b = some o) ∧
      h'.get? s.heap.objs.size = some { cls := .type "list", dict := none, data := .seq acc c, slots := #[] } ∧ ItemsOf (fun i v => ∃ hi : i < es.size, v = es[i].key) acc es.size)
    src hh (src.keep _ _ hm fun b _ o z => Heap.get?_push_of_some _ z) s.heap.objs.size ne ne (.ref s.heap.objs.size) 0 at0
    (fun h' tk acc c kp z items => ⟨h', tk, acc, c, rfl, rfl, fun b o q => kp b o (Nat.ne_of_lt (Heap.lt_size q)) (Heap.get?_push_of_some _ q), z, items⟩) hn
  refine wpAny_mono ext (fun out s1 x => ?_) fun _ s1 x => by
    obtain ⟨_, _, _, _, z, _⟩ := x
    cases z
  cases out with
  | done f =>
    obtain ⟨g, tk, acc, c, z, rfl, kp, got, items⟩ := x
    cases z
    show wpAny _ A (load s.heap.objs.size >>= _) _ _ _
    exact wpAny_bind (wpAny_load got (wpAny_pure (h g tk acc kp (Heap.lt_size got) items)))
  | again cc =>
    refine ⟨x.1, codeAny_mono x.2 fun q s2 y => ?_⟩
    obtain ⟨g, tk, acc, c, rfl, rfl, kp, got, items⟩ := y
    show wpAny _ A (load s.heap.objs.size >>= _) _ _ _
    exact wpAny_bind (wpAny_load got (wpAny_pure (h g tk acc kp (Heap.lt_size got) items)))
section
variable {β : Type} {vs : List Value} {bs : List β} {enc : β → PyData} {R : Value → β → Prop}
theorem sorted_dictAny {es : Array DictEntry} {ep : Nat} (lo : (d == sysModules) = false) (hh : A.handled = none) {Q : Value → Shared → Prop} (hm : s.heap.DictRaw d es ep) (ev : es.toList.map (·.key) = vs) (hn : es.size ≤ sizeLine) (e : EachIs R vs bs) (er : EachIs (fun v b => ∃ as, Reads s.heap v (enc b) as) vs bs) (hal : AllAlike (bs.map enc)) (hk : Srt (bs.map enc)) (hL : bs.length ≤ sizeLine)
    (hu : ∀ b, b ∈ bs → A.units + 2 + (enc b).depth < cLine)
    (h : ∀ (a : Addr) (h' : Heap) (tk : Nat) (out : List Value) (m : Nat), (∀ b o, s.heap.get? b = some o → h'.get? b = some o) → s.heap.objs.size ≤ a → out.length = bs.length → EachIs R out (bs.mergeSort (dataLe false enc)) → h'.get? a = some (seqObj "list" out.toArray m) → Q (.ref a) { s with heap := h', toks := tk }) :
    wpAny (model prog w) A (call (.builtin "sorted") [.ref d]) Q E s := by
  refine call_function_entry kind_sorted plain_sorted entry_sorted (args_sorted1 _) ?_
  unfold Builtin.«sorted»
  refine wpAny_bind (m := checkCount "sorted" 1 1 _) (wpAny_pure ?_)
  refine wpAny_bind (dict_collect (A := A.in1) (es := es) (ep := ep) lo hh hm hn fun h1 tk acc keep big items => ?_)
  have ea : acc.toList = vs := by rw [← ev]; exact vals_raw items
  rw [ea]
  have hL' : vs.length ≤ sizeLine := by rw [e.length]; exact hL
  refine wpAny_bind (wpAny_newList ?_ hL')
  have ho : (h1.push { cls := .type "list", data := .seq vs.toArray }).get? h1.objs.size = some (seqObj "list" vs.toArray 0) := Heap.get?_push_size _ rfl
  have kp : ∀ b o, s.heap.get? b = some o → (sortingHeap (h1.push { cls := .type "list", data := .seq vs.toArray }) h1.objs.size vs).get? b = some o := fun b o q =>
    sortingHeap_old (Nat.ne_of_lt (Heap.lt_size (keep b o q))) (Heap.get?_push_of_some _ (keep b o q))
  have er' : EachIs (fun v b => ∃ as, Reads (sortingHeap (h1.push { cls := .type "list", data := .seq vs.toArray }) h1.objs.size vs) v (enc b) as) vs bs := er.mono fun _ _ ⟨as, q⟩ => ⟨as, PyProof.Rows.Reads.keeps (fun b o z => kp b o z) q⟩
  have S := sortsAt (prog := prog) (w := w) (A := A.in1.in1) (s := { s with heap := sortingHeap (h1.push { cls := .type "list", data := .seq vs.toArray }) h1.objs.size vs, toks := tk }) (each_map (R := fun v d => ∃ as, Reads (sortingHeap (h1.push { cls := .type "list", data := .seq vs.toArray }) h1.objs.size vs) v d as) enc er') hal hk (bound_map hu)
  refine wpAny_bind (wpAny_holding (wpAny_call_entry slot_list_sort ⟨_, ho, rfl⟩ entry_list_sort (list_sort_vals (s := { s with heap := h1.push { cls := .type "list", data := .seq vs.toArray }, toks := tk }) ho S hL' ⟨.none, rfl, ?_⟩) (args_list_sort _)))
  refine wpAny_pure ⟨_, rfl, ?_⟩
  obtain ⟨m, hm'⟩ := sortedHeap_at (out := (sortVals (dataKind (sortingHeap (h1.push { cls := .type "list", data := .seq vs.toArray }) h1.objs.size vs) (bs.map enc)) false vs vs).toArray) ho
  have lt : s.heap.objs.size ≤ h1.objs.size := Nat.le_of_lt big
  refine h h1.objs.size _ tk _ m (fun b o q => ?_) lt (by rw [sortVals_length false rfl]; exact e.length) (sortVals_data false e er' hal) hm'
  rw [sortedHeap_old (Nat.ne_of_lt (Heap.lt_size (keep b o q))) (by rw [Heap.size_push]; exact Nat.lt_succ_of_lt (Heap.lt_size (keep b o q)))]
  exact Heap.get?_push_of_some _ (keep b o q)
end
end
end AG
namespace AG
open PySem L2
open PySem.Spec PySem.W PyProof.Rows PySem.Calls
/-- what sorted asks of a dict with tuple keys -/
def rSrtX (X : Cx) : List V → Hp → VK → Prop := fun xs H Q => ∃ (a : Addr) (zs : List (NestedKey × Addr × V)) (ps : List (V × D)), xs = [V.ref a] ∧ dK X a zs H ∧ ps.map Prod.fst = zs.map (fun x => V.ref x.2.1) ∧ (∀ p ∈ ps, Dp X.K H p.1 p.2.toPy) ∧ srtOk (ps.map Prod.snd) = true ∧
  ∀ l, H l = none → Q (.ref l) (upd H l (.lst ((ps.mergeSort fun a b => cond false (!D.lt a.2 b.2) (!D.lt b.2 a.2)).map Prod.fst)))
theorem ys_vals : ∀ {xs : List (NestedKey × Addr × V)} {ys : List (NestedKey × Addr × Value)}, Ys xs ys → Vals (xs.map fun x => V.ref x.2.1) (ys.map fun y => Value.ref y.2.1)
  | _, _, .nil => .nil
  | _, _, .cons h t => .cons (by show Value.ref _ = Value.ref _; rw [h.2.1]) (ys_vals t)
theorem cr_srtX {X : Cx} (hc : X.calm = true) (hu : X.A.units + 66 < cLine) : CallR X (.builtin "sorted") (rSrtX X) := by
  intro pins s σ H xs us Q I r h
  obtain ⟨a, zs, ps, rfl, hd, hz, hp, ok, q⟩ := h
  obtain ⟨ys, rel, dd⟩ := dK_of hd I
  obtain ⟨es, ep, raw, len, ent⟩ := dd.raw
  rw [Vals.ref1 r]
  obtain ⟨o1, o2, o3, o4⟩ := srt_of ok
  have rv : Vals (ps.map Prod.fst) (ys.map fun y => Value.ref y.2.1) := by rw [hz]; exact ys_vals rel
  have sz : es.size ≤ sizeLine := by
    have := hd.2.2.1
    rw [len, ← ys_len rel, sizeLine_eq]; omega
  have ev : es.toList.map (·.key) = ys.map fun y => Value.ref y.2.1 := by
    refine List.ext_getElem? fun i => ?_
    rw [List.getElem?_map, Array.getElem?_toList, List.getElem?_map]
    by_cases hi : i < es.size
    · obtain ⟨y, e1, e2, _⟩ := ent i hi
      rw [Array.getElem?_eq_getElem hi, e1]
      simp [e2]
    · rw [Array.getElem?_eq_none (by omega), List.getElem?_eq_none (by omega)]
      rfl
  refine sorted_dictAny (R := fun v (p : V × D) => L2.RelV p.1 v) (enc := fun p : V × D => p.2.toPy) (bs := ps) hd.2.1 (I.ok.hd hc) raw ev sz (each_vals (s := s) (us := ys.map fun y => Value.ref y.2.1) (ps := ps) rv) (each_reads I rv hp) o1 o2 o3 (fun p hp => by have := o4 p hp; omega) fun l g tk out m kp big hlen e got => ?_
  have e := vals_each e
  have hz2 : ((ps.mergeSort fun a b => cond false (!D.lt a.2 b.2) (!D.lt b.2 a.2)).map Prod.fst).length ≤ sizeLine := by rw [List.length_map, List.length_mergeSort]; exact o3
  exact ⟨.ref _, upd H l (.lst ((ps.mergeSort fun a b => cond false (!D.lt a.2 b.2) (!D.lt b.2 a.2)).map Prod.fst)), I.laid (t' := tk) kp big ⟨hz2, out, m, e, got⟩, rfl, q _ (I.hok.fresh big)⟩
/-- sorted of a list, a tuple, or a dict with tuple keys -/
def fSortedK : LOp := fun ds => match ds with
  | [.ref n] => fun h => match h[n]? with
    | some (.dct kvs) => if srtOk (kvs.map (·.1)) = true then .ok (.lst (sortD false (kvs.map (·.1)))) h else .bad
    | _ => .bad
  | ds => fSortedA false ds
theorem dks_keys {K : PySem.W.Frag} {w : Wd} : ∀ {kvs : List (D × D)} {xs : List (NestedKey × Addr × V)}, DKs K w kvs xs → RpAll K w (xs.map fun x => V.ref x.2.1) (kvs.map (·.1))
  | _, _, .nil => .nil
  | _, _, .cons h t => .cons h.2.2.1 (dks_keys t)
theorem srtX_read {X : Cx} {ca : CA} (hW : ca.wd = X.w) {W : WX} {σ : L2.St} {w : Wd} {mh : MH} {v : V} {n : Nat} {Q : VK} (hw : WOk X.K ca w mh) (r : Rp X.K w v (.ref n)) (hp : Post X.K ca W σ w (fSortedK [.ref n] mh) Q) : rSrtX X [v] w.H Q := by
  cases r with
  | ref h2 =>
    rename_i a
    obtain ⟨mo, e1, _, _, ho⟩ := hw.at h2
    cases mo with
    | dct kvs =>
      obtain ⟨xs, hH, hS, hl, r, nd⟩ := ho
      by_cases c : srtOk (kvs.map (·.1)) = true
      · simp only [fSortedK, e1, c, if_true] at hp
        obtain ⟨z1, z2, z3⟩ := (dks_keys r).zip
        refine ⟨a, xs, (xs.map fun x => V.ref x.2.1).zip (kvs.map (·.1)), rfl, ⟨by rw [← hW]; exact hH, hS, hl, nd, dks_all hw.subs r⟩, z2, fun p hp' => (z1 p hp').dp (n := 60) hw.subs ?_, by rw [z3]; exact c, fun l hl => ?_⟩
        · have c1 : (kvs.map (·.1)).all (D.sm 60) = true := by
            simp only [srtOk, Bool.and_eq_true] at c
            exact c.1.1.1
          refine all_sm c1 _ ?_
          have := List.mem_map_of_mem (f := Prod.snd) hp'
          rwa [z3] at this
        · refine PostG.lst (ds := sortD false (kvs.map (·.1))) hp hw ?_ l hl
          have e : sortD false (kvs.map (·.1)) = (((xs.map fun x => V.ref x.2.1).zip (kvs.map (·.1))).mergeSort fun a b => cond false (!D.lt a.2 b.2) (!D.lt b.2 a.2)).map Prod.snd := by
            rw [List.map_mergeSort (s := fun a b => cond false (!D.lt a b) (!D.lt b a)) (fun _ _ _ _ => rfl), z3, sortD_def]
          rw [e]
          exact RpAll.of_zip fun p hp' => z1 p (List.mem_mergeSort.mp hp')
      · simp only [fSortedK, e1, c] at hp; exact hp.elim
    | _ => simp only [fSortedK, e1] at hp; exact hp.elim
def rSrtK (X : Cx) : List V → Hp → VK → Prop := fun xs H Q => rSrtA X.K false xs H Q ∨ rSrtX X xs H Q
theorem srtK_read {X : Cx} {ca : CA} (hW : ca.wd = X.w) {W : WX} {σ : L2.St} {w : Wd} {mh : MH} {vs : List V} {ds : List D} {Q : VK} (hw : WOk X.K ca w mh) (r : RpAll X.K w vs ds) (hp : Post X.K ca W σ w (fSortedK ds mh) Q) : rSrtK X vs w.H Q := by
  by_cases c : ∃ n, ds = [.ref n]
  · obtain ⟨n, rfl⟩ := c
    obtain ⟨x, rfl, q⟩ := r.one
    exact .inr (srtX_read hW hw q hp)
  · have e : fSortedK ds = fSortedA false ds := by
      unfold fSortedK
      split
      · rename_i n
        exact absurd ⟨n, rfl⟩ c
      · rfl
    rw [e] at hp
    exact .inl (srtA_read hw r hp)
section
variable {X : Cx} {ca : CA} {W : WX} {e : Expr} {es : List Expr} {ms : Env → M (List D)} {p pos : Pos} {k : Nat}
theorem cr_srtK (hc : X.calm = true) (hu : X.A.units + 66 < cLine) : CallR X (.builtin "sorted") (rSrtK X) := by
  intro pins s σ H xs us Q I r h
  rcases h with h | h
  · exact cr_srtA hu _ _ _ _ _ _ _ I r h
  · exact cr_srtX hc hu _ _ _ _ _ _ _ I r h
theorem me_sortedK (hr : Room k X.A) (hW : ca.wd = X.w) (hc : X.calm = true) (hm : X.mg "sorted" = none) (ha : MA X ca W (e :: es) ms) (hg : Gl X "sorted" := by rfl) (he : starEach (e :: es) X.env = (false, eval e X.env) :: starEach es X.env := by rfl) (hpl : (backTo pos (starEach es X.env)).any (·.1) = false := by rfl) : ME X ca W (.Call (.Name "sorted" p) (e :: es) [] pos) (mCall fSortedK ms) :=
  PE.mono (pe_callB (cr_srtK hc (hu66 hr)) hg hm (by decide +kernel) ha (by decide) (by decide) he hpl) fun σ H Q h => by
    obtain ⟨w, mh, env, rfl, hw, hfr, hp⟩ := h
    refine stepG (rep := repA X.K) hw hfr hp fun w1 mh1 v1 d1 x1 hw1 hf1 r1 hp1 => ?_
    have r1 : RpAll X.K w1 v1 d1 := r1
    exact srtK_read hW hw1 r1 hp1
end
/-! len of a dict -/
def rLenX (X : Cx) : List V → Hp → VK → Prop := fun xs H Q => (∃ x n, xs = [x] ∧ LenV X.K x H n ∧ Q (.int n) H) ∨ ∃ a zs, xs = [V.ref a] ∧ dK X a zs H ∧ Q (.int (zs.length : Nat)) H
theorem cr_lenX {X : Cx} : CallR X (.builtin "len") (rLenX X) := by
  intro pins s σ H xs us Q I r h
  rcases h with h | h
  · exact call_len _ _ _ _ _ _ _ I r h
  · obtain ⟨a, zs, rfl, hd, q⟩ := h
    rw [Vals.ref1 r]
    obtain ⟨ys, rel, dd⟩ := dK_of hd I
    obtain ⟨es, ep, raw, len, _⟩ := dd.raw
    have sz : es.size ≤ 16000000 := by rw [len, ← ys_len rel]; exact hd.2.2.1
    have e : es.size = zs.length := by rw [len, ys_len rel]
    refine PyProof.Rows.call_len_slot (n := es.size) raw.typeIs PySem.F.slot_dict_len (fun Q' hq => call_len_raw hd.2.1 raw hq) (by omega) (by omega) ?_
    exact ⟨.int zs.length, H, I.tok _, ⟨_, by rw [e]⟩, q⟩
def fLenK : LOp := fun ds => match ds with
  | [.ref n] => fun h => match h[n]? with
    | some (.dct kvs) => .ok (.int (kvs.length : Nat)) h
    | _ => fLen [.ref n] h
  | ds => fLen ds
theorem cm_lenK {X : Cx} {ca : CA} (hW : ca.wd = X.w) : CallM X.K ca (rLenX X) fLenK := by
  intro W σ w mh xs ds Q hw r hp
  by_cases c : ∃ n kvs, ds = [.ref n] ∧ mh[n]? = some (.dct kvs)
  · obtain ⟨n, kvs, rfl, e1⟩ := c
    obtain ⟨x, rfl, q⟩ := r.one
    cases q with
    | ref h2 =>
      rename_i a
      obtain ⟨mo, e2, _, _, ho⟩ := hw.at h2
      rw [e1] at e2
      cases e2
      obtain ⟨zs, hH, hS, hl, r, nd⟩ := ho
      simp only [fLenK, e1] at hp
      rw [dks_len r] at hp
      exact .inr ⟨a, zs, rfl, ⟨by rw [← hW]; exact hH, hS, hl, nd, dks_all hw.subs r⟩, PostG.ret hp hw (.int _)⟩
  · have e : fLenK ds mh = fLen ds mh := by
      unfold fLenK
      split
      · rename_i n
        split
        · rename_i kvs q
          exact absurd ⟨n, kvs, rfl, q⟩ c
        · rfl
      · rfl
    rw [e] at hp
    exact .inl (cm_len W σ w mh xs ds Q hw r hp)
section
variable {X : Cx} {ca : CA} {W : WX} {e : Expr} {es : List Expr} {ms : Env → M (List D)} {p pos : Pos}
theorem me_lenK (hW : ca.wd = X.w) (hm : X.mg "len" = none) (ha : MA X ca W (e :: es) ms) (hg : Gl X "len" := by rfl) (he : starEach (e :: es) X.env = (false, eval e X.env) :: starEach es X.env := by rfl) (hpl : (backTo pos (starEach es X.env)).any (·.1) = false := by rfl) : ME X ca W (.Call (.Name "len" p) (e :: es) [] pos) (mCall fLenK ms) :=
  me_callB cr_lenX (cm_lenK hW) hm PySem.boot_len ha hg (by decide) (by decide) he hpl
end
end AG
set_option maxHeartbeats 4000000
/-! AgMu: a tuple so often, whatever the number. -/
namespace L2
open PySem PySem.Spec PyProof.Rows
theorem tuple_mulSame (l : Addr) (items : Array Value) (n : Nat) (dd : Option Addr) (sl : Array (Option Value)) (x : Int) (u : Tok) (c0 : (decide (x < -(2 ^ 63)) || decide (x ≥ 2 ^ 63)) = false) (c1 : (items.isEmpty || x == 1) = true) :
    Meets (Builtin.«tuple.__mul__» ⟨[.ref l, .int x u], []⟩) (fun _ R s => s.heap.get? l = some { cls := .type "tuple", dict := dd, data := .seq items n, slots := sl } ∧ R (.ok (.ret (Value.ref l))) s) :=
  .of_wp fun prog w A R s h => by
    obtain ⟨hp, g, d, tk, os⟩ := s
    obtain ⟨hl, h⟩ := h
    have f1 := AutoSeq1.idx_int
    wp_walk using wpAny_loadPart' hl
    repeat (first
      | (refine wpAny_ite_false (decide_eq_false (by rw [c0]; exact Bool.false_ne_true)) ?_; wp_walk using wpAny_loadPart' hl)
      | (refine wpAny_ite_true (decide_eq_true c1) ?_; wp_walk using wpAny_loadPart' hl))
    exact ⟨_, rfl, h⟩
theorem tuple_mulNone (l : Addr) (items : Array Value) (n : Nat) (dd : Option Addr) (sl : Array (Option Value)) (x : Int) (u : Tok) (c0 : (decide (x < -(2 ^ 63)) || decide (x ≥ 2 ^ 63)) = false) (c1 : (items.isEmpty || x == 1) = false) (c2 : (decide (x ≤ 0) || items.isEmpty) = true) :
    Meets (Builtin.«tuple.__mul__» ⟨[.ref l, .int x u], []⟩) (fun _ R s => s.heap.get? l = some { cls := .type "tuple", dict := dd, data := .seq items n, slots := sl } ∧
      R (.ok (.ret (Value.ref s.heap.objs.size))) { s with heap := s.heap.push { cls := Value.type "tuple", data := Data.seq #[] }, toks := s.toks }) :=
  .of_wp fun prog w A R s h => by
    obtain ⟨hp, g, d, tk, os⟩ := s
    obtain ⟨hl, h⟩ := h
    have f1 := AutoSeq1.idx_int
    wp_walk using wpAny_loadPart' hl
    repeat (first
      | (refine wpAny_ite_false (decide_eq_false (by rw [c0]; exact Bool.false_ne_true)) ?_; wp_walk using wpAny_loadPart' hl)
      | (refine wpAny_ite_false (decide_eq_false (by rw [c1]; exact Bool.false_ne_true)) ?_; wp_walk using wpAny_loadPart' hl)
      | (refine wpAny_ite_true (decide_eq_true c2) ?_; wp_walk using wpAny_loadPart' hl))
    exact ⟨_, rfl, h⟩
end L2
namespace L2
open PySem PySem.Spec PyProof.Rows
section
variable {X : Cx}
/-- not more than one of it -/
def rRepS (K : PySem.W.Frag) : R2 := fun x y H Q => ∃ l k xs, x = .ref l ∧ y = .int k ∧ SqT K H l xs ∧ 0 ≤ k ∧ k ≤ 1000 ∧ (((xs = [] ∨ k = 1) ∧ Q (.ref l) H) ∨ (xs ≠ [] ∧ k = 0 ∧ ∀ p, H p = none → Q (.ref p) (upd H p (.tup []))))
theorem op_repS : OpR X (binaryOp .Mult) (rRepS X.K) := by
  intro pins s σ H x y v u Q I rx ry h
  obtain ⟨l, k, xs, rfl, rfl, hT, k0, k1, h⟩ := h
  cases rx
  obtain ⟨t, rfl⟩ := ry
  obtain ⟨its, r, ⟨⟨cls, dd, data, sl⟩, ho, hc, n, hd⟩, hs⟩ := I.tuple hT
  simp only at hc hd
  subst hc hd
  have hle : its.length = xs.length := r.length.symm
  have c0 : (decide (k < -(2 ^ 63)) || decide (k ≥ 2 ^ 63)) = false := by
    rw [decide_eq_false (by omega), decide_eq_false (by omega)] <;> rfl
  rcases h with ⟨c, q⟩ | ⟨ne, rfl, q⟩
  · have c1 : (its.toArray.isEmpty || k == 1) = true := by
      rcases c with rfl | rfl
      · have : its = [] := List.eq_nil_of_length_eq_zero hle
        subst this; rfl
      · simp
    refine wpAny_binaryOp_repeat_ref (T := "tuple") (U := "int") (by decide) ⟨_, ho, rfl⟩ (fun s' => typeIs_int s' k t) noFill_tuple_mul F.fills_int_mul F.slot_int_rmul repeat_tuple F.slot_int_index.lookup
      (call_meets F.slot_int_rmul (typeIs_int s k t) F.entry_int_rmul (F.args_int_rmul_2 _ _) (int_rmul_tuple k t l its.toArray n dd sl)
        ⟨ho, rfl, ⟨_, ho, rfl⟩, call_meets F.slot_tuple_mul ⟨_, ho, rfl⟩ F.entry_tuple_mul (F.args_tuple_mul_2 _ _) (tuple_mulSame l its.toArray n dd sl k t c0 c1) ⟨ho, ?_⟩⟩)
    exact ⟨.ref l, H, I, rfl, q⟩
  · have hn : its ≠ [] := fun e => ne (by
      rw [e] at hle
      exact List.eq_nil_of_length_eq_zero hle.symm)
    have hi : its.toArray.isEmpty = false := by
      cases its with
      | nil => exact absurd rfl hn
      | cons a b => rfl
    have c1 : (its.toArray.isEmpty || (0 : Int) == 1) = false := by rw [hi]; rfl
    have c2 : (decide ((0 : Int) ≤ 0) || its.toArray.isEmpty) = true := by simp
    refine wpAny_binaryOp_repeat_ref (T := "tuple") (U := "int") (by decide) ⟨_, ho, rfl⟩ (fun s' => typeIs_int s' 0 t) noFill_tuple_mul F.fills_int_mul F.slot_int_rmul repeat_tuple F.slot_int_index.lookup
      (call_meets F.slot_int_rmul (typeIs_int s 0 t) F.entry_int_rmul (F.args_int_rmul_2 _ _) (int_rmul_tuple 0 t l its.toArray n dd sl)
        ⟨ho, rfl, ⟨_, ho, rfl⟩, call_meets F.slot_tuple_mul ⟨_, ho, rfl⟩ F.entry_tuple_mul (F.args_tuple_mul_2 _ _) (tuple_mulNone l its.toArray n dd sl 0 t c0 c1 c2) ⟨ho, ?_⟩⟩)
    exact ⟨.ref s.heap.objs.size, _, I.laid (t' := s.toks) (o := .tup []) (fun b ob z => Heap.get?_push_of_some _ z) (Nat.le_refl _) ⟨Nat.zero_le _, _, .nil, IsTup.new _ _⟩, rfl, q _ (I.hok.fresh (Nat.le_refl _))⟩
end
end L2
namespace AG
open PySem L2
/-- d * n, where d may be a tuple -/
def opMulT : DOp := fun d e => match d, e with
  | .tup xs, .int k => if 0 ≤ k ∧ k ≤ 1000 ∧ xs.length ≤ 1000 then M.pure (.tup (List.replicate k.toNat xs).flatten) else M.bad
  | d, e => opMul d e
section
variable {X : Cx} {ca : CA} {W : WX} {a b : Expr} {ma mb : Env → M D} {pos : Pos}
abbrev rMulT (K : PySem.W.Frag) : R2 := fun x y H Q => (rI CMulX (fun i j => .int (i * j)) x y H Q ∨ rRep x y H Q) ∨ (rRepT K x y H Q ∨ rRepS K x y H Q)
theorem opm_mulT {K : PySem.W.Frag} : OpM K ca (rMulT K) opMulT := by
  intro W σ w mh x y d e Q hw rx ry hp
  by_cases c : ∃ xs k, d = .tup xs ∧ e = .int k
  · obtain ⟨xs, k, rfl, rfl⟩ := c
    cases ry
    cases rx with
    | tup h1 r1 =>
      rename_i l vs
      refine .inr ?_
      by_cases q : 0 ≤ k ∧ k ≤ 1000 ∧ xs.length ≤ 1000
      · obtain ⟨q0, q1, q2⟩ := id q
        simp only [opMulT, q, and_self, if_true] at hp
        have hT := sqT_sub hw.sub h1
        have hl := r1.length
        by_cases c : vs = [] ∨ k = 1
        · refine .inr ⟨l, k, vs, rfl, rfl, hT, q0, q1, .inl ⟨c, ?_⟩⟩
          have e : (List.replicate k.toNat xs).flatten = xs := by
            rcases c with rfl | rfl
            · have : xs = [] := List.eq_nil_of_length_eq_zero (by rw [← hl]; rfl)
              subst this
              simp
            · simp
          rw [e] at hp
          exact PostG.ret hp hw (.tup h1 r1)
        · have c1 : vs ≠ [] := fun z => c (.inl z)
          have c2 : k ≠ 1 := fun z => c (.inr z)
          by_cases k0 : k = 0
          · subst k0
            have e : (List.replicate (0 : Int).toNat xs).flatten = [] := by simp
            rw [e] at hp
            exact .inr ⟨l, 0, vs, rfl, rfl, hT, q0, q1, .inr ⟨c1, rfl, PostG.tup hp hw .nil⟩⟩
          · exact .inl ⟨l, k, vs, rfl, rfl, hT, c1, by omega, q1, by rw [hl]; exact q2, PostG.tup hp hw (r1.repl _)⟩
      · simp only [opMulT, q, if_false] at hp; exact hp.elim
  · have e2 : opMulT d e = opMul d e := by
      unfold opMulT
      split
      · rename_i xs k
        exact absurd ⟨xs, k, rfl, rfl⟩ c
      · rfl
    rw [e2] at hp
    exact .inl (opm_mul W σ w mh x y d e Q hw rx ry hp)
theorem me_mulT (ha : ME X ca W a ma) (hb : ME X ca W b mb) : ME X ca W (.BinOp a .Mult b pos) (mBin opMulT ma mb) := me_op (OpR.or (OpR.or op_mulX op_rep) (OpR.or op_repT op_repS)) opm_mulT ha hb
end
end AG
/-! AgRv: t[::-1] of a tuple. -/
namespace L2
open PySem PySem.Spec PyProof.Rows
section
variable {prog : Program} {w : World} {A : Around} {E : Value → Shared → Prop} {s : Shared}
theorem adjust_back (n : Nat) : Builtin.Slice.sliceAdjust none none (-1) (n : Int) = ((n : Int) - 1, -1) := by
  unfold Builtin.Slice.sliceAdjust
  simp
theorem places_back (n : Nat) : Builtin.Slice.slicePlaces ((n : Int) - 1) (-1) (-1) = n := by
  unfold Builtin.Slice.slicePlaces
  simp
  try omega
theorem applied_back {sl : Addr} {vl vu vs : Value} {n : Nat} {Q : Int × Int × Nat → Shared → Prop} (hs : s.heap.IsSliceOf sl vl vu vs) (pl : IsPart vl none) (pu : IsPart vu none) (ps : IsPart vs (some (-1)))
    (h : Q ((n : Int) - 1, -1, n) s) : wpAny (model prog w) A (Builtin.Slice.sliceApplied (.ref sl) (pure (n : Int))) Q E s := by
  obtain ⟨os, hos, hcs, hds⟩ := id hs
  unfold Builtin.Slice.sliceApplied Builtin.Slice.sliceFields
  refine wpAny_bind (wpAny_bind (wpAny_field hos hds (x := vl) rfl (wpAny_bind (wpAny_field hos hds (x := vu) rfl (wpAny_bind (wpAny_field hos hds (x := vs) rfl (wpAny_pure ?_)))))))
  refine wpAny_bind (HT.slicePart_ ps ?_)
  show wpAny _ _ (if ((-1 : Int) == 0) = true then _ else _) _ _ s
  rw [if_neg (by decide)]
  refine wpAny_bind (HT.slicePart_ pl (wpAny_bind (HT.slicePart_ pu (wpAny_bind (wpAny_pure ?_)))))
  show wpAny _ _ (match Builtin.Slice.sliceAdjust none none (-1) (n : Int) with | (lo, hi) => pure (lo, (-1 : Int), Builtin.Slice.slicePlaces lo hi (-1))) _ _ s
  rw [adjust_back n]
  show wpAny _ _ (pure ((n : Int) - 1, (-1 : Int), Builtin.Slice.slicePlaces ((n : Int) - 1) (-1) (-1))) _ _ s
  rw [places_back]
  exact wpAny_pure h
theorem pick_back (its : List Value) : ((List.range its.length).filterMap fun (m : Nat) => its.toArray[((its.length : Int) - 1 + (m : Int) * -1).toNat]?) = its.reverse := by
  have e : ((List.range its.length).filterMap fun (m : Nat) => its.toArray[((its.length : Int) - 1 + (m : Int) * -1).toNat]?) = (List.range its.length).filterMap fun m => its.reverse[m]? := by
    have key : ∀ (f g : Nat → Option Value) (ms : List Nat), (∀ m ∈ ms, f m = g m) → ms.filterMap f = ms.filterMap g := by
      intro f g ms
      induction ms with
      | nil => intro _; rfl
      | cons a ms ih =>
        intro q
        rw [List.filterMap_cons, List.filterMap_cons, q a List.mem_cons_self, ih fun m hm => q m (List.mem_cons_of_mem _ hm)]
    refine key _ _ _ fun m hm => ?_
    have lt := List.mem_range.mp hm
    have i1 : ((its.length : Int) - 1 + (m : Int) * -1).toNat = its.length - 1 - m := by omega
    rw [i1, List.getElem?_toArray, List.getElem?_reverse lt]
  rw [e]
  have all : ∀ zs : List Value, (List.range zs.length).filterMap (fun m => zs[m]?) = zs := by
    intro zs
    induction zs with
    | nil => rfl
    | cons z zs ih =>
      rw [List.length_cons, List.range_succ_eq_map, List.filterMap_cons]
      simp only [List.getElem?_cons_zero, List.filterMap_map]
      congr 1
  have := all its.reverse
  rw [List.length_reverse] at this
  exact this
theorem getItem_tuple_back {t sl : Addr} {its : List Value} {vl vu vs : Value} {Q : Value → Shared → Prop} (ht : IsTup s.heap t its.toArray) (hs : s.heap.IsSliceOf sl vl vu vs) (pl : IsPart vl none) (pu : IsPart vu none) (ps : IsPart vs (some (-1)))
    (h : Q (.ref s.heap.objs.size) { s with heap := s.heap.push { cls := .type "tuple", data := .seq its.reverse.toArray } }) (hsz : its.length ≤ sizeLine) : wpAny (model prog w) A (getItem (.ref t) (.ref sl)) Q E s := by
  have big : sizeOk (.seq its.reverse.toArray) := by
    show its.reverse.toArray.size ≤ sizeLine
    rw [List.size_toArray, List.length_reverse]
    exact hsz
  obtain ⟨os, hos, hcs, hds⟩ := id hs
  have hTs : s.TypeIs (.ref sl) "slice" := ⟨os, hos, hcs⟩
  unfold getItem
  try with_reducible refine wpAny_holding ?_
  first | refine wpAny_bind (wpAny_pure ?_) | skip
  refine wpAny_bind (wpAny_sequenceKey ht.typeIs (by decide) ?_)
  refine wpAny_bind (wpAny_callSpecial?_slot (name := Str.ofString "__getitem__") ht.typeIs PyProof.Rows.slot_tuple_getitem
    (wpAny_call_entry PyProof.Rows.slot_tuple_getitem ht.typeIs entry_tuple_getitem ?_ (args_tuple_getitem _ _)))
  show wpAny _ _ (Builtin.Tuple.tupleItemsOf (.ref t) >>= _) _ _ s
  refine wpAny_bind (tupleItemsOf_ ht ?_)
  refine wpAny_bind (wpAny_typeOf hTs ?_)
  rw [if_pos (by decide)]
  rw [List.size_toArray]
  refine wpAny_bind (applied_back hs pl pu ps ?_)
  show wpAny _ _ (if ((((its.length : Nat) : Int) - 1) == 0 && (-1 : Int) == 1 && its.length == its.toArray.size) = true then _ else _) _ _ s
  have no : ¬ (((((its.length : Nat) : Int) - 1) == 0 && (-1 : Int) == 1 && its.length == its.toArray.size) = true) := by
    intro q
    rw [Bool.and_eq_true, Bool.and_eq_true] at q
    exact absurd q.1.2 (by decide)
  rw [if_neg no, pick_back]
  first
    | exact wpAny_bind (m := Builtin.Tuple.tupleExact _) (wpAny_newObj_type (wpAny_pure ⟨_, rfl, wpAny_pure h⟩) big)
    | exact wpAny_bind (wpAny_bind (m := Builtin.Tuple.tupleExact _) (wpAny_newObj_type (wpAny_pure ⟨_, rfl, wpAny_pure h⟩) big))
end
end L2
namespace L2
open PySem PySem.Spec PyProof.Rows
section
variable {X : Cx}
/-- x[::-1], a list or a tuple -/
def tRevA (K : PySem.W.Frag) (te : TE) : TE := fun σ H Q => te σ H fun x H1 => (∃ a xs, x = .ref a ∧ SqL K H1 a xs ∧ ∀ p, H1 p = none → Q (.ref p) (upd H1 p (.lst xs.reverse))) ∨ (∃ a xs, x = .ref a ∧ SqT K H1 a xs ∧ ∀ p, H1 p = none → Q (.ref p) (upd H1 p (.tup xs.reverse)))
theorem pe_revA {e : Expr} {te : TE} {k : Nat} {p1 p2 p3 pos : Pos} (he : PE X e te) : PE X (.Subscript e (.Slice none none (some (.UnaryOp .USub (.Constant (.int 1) k p1) p2)) p3) pos) (tRevA X.K te) := by
  refine ⟨fun pins s σ H Q I h => ?_⟩
  refine Subscript_ (thn (he.run pins s σ H _ I h) fun v s1 z => ?_)
  obtain ⟨x, H1, I1, r1, q1⟩ := z
  have st : PO X (some (.UnaryOp .USub (.Constant (.int 1) k p1) p2)) (tPart (tUn (rU fun i => .int (-i)) (tC (.int 1)))) := po_some (pe_un un_neg pe_int)
  refine wpAny_Slice (thn (po_none.run pins s1 σ H1 (fun o H2 => o = none ∧ H2 = H1) I1 ⟨rfl, rfl⟩) fun vl s2 z => ?_)
  obtain ⟨l, H2, I2, pl, rfl, rfl⟩ := z
  refine thn (po_none.run pins s2 σ H2 (fun o H3 => o = none ∧ H3 = H2) I2 ⟨rfl, rfl⟩) fun vu s3 z => ?_
  obtain ⟨u, H3, I3, pu, rfl, rfl⟩ := z
  refine thn (st.run pins s3 σ H3 (fun o H4 => o = some (-1) ∧ H4 = H3) I3 ⟨1, rfl, -1, rfl, rfl, rfl⟩) fun vs s4 z => ?_
  obtain ⟨o, H4, I4, ps, rfl, rfl⟩ := z
  have I5 : Inv X pins σ H4 { s4 with heap := s4.heap.push { cls := .type "slice", data := .fields #[vl, vu, vs] } } := I4.kept (t' := s4.toks) fun b ob q => Heap.get?_push_of_some _ q
  rcases q1 with ⟨a, xs, rfl, hx, q⟩ | ⟨a, xs, rfl, hx, q⟩
  · cases r1
    obtain ⟨its, r, ht, hz⟩ := I5.list hx
    have hl := r.length
    show wpAny (model X.prog X.w) X.A (subscriptTail e (.Slice none none (some (.UnaryOp .USub (.Constant (.int 1) k p1) p2)) p3) (.ref a) (.ref s4.heap.objs.size)) (EP X pins σ Q) X.xe { s4 with heap := s4.heap.push { cls := .type "slice", data := .fields #[vl, vu, vs] } }
    refine tail_any (ops := [.ref a, .ref s4.heap.objs.size]) ht.isList.typeIs (PySem.slot_list_getitem.lookup) ?_ (by with_unfolding_all rfl)
    refine wpAny_getItem_list_slice ht.isList (Heap.IsSliceOf.new _ vl vu vs) pl pu ps (by decide) ?_ (by rw [List.size_toArray]; omega)
    rw [PySem.W.krv_pick]
    exact ⟨.ref _, _, I5.laid (t' := s4.toks) (o := .lst xs.reverse) (fun b ob q => Heap.get?_push_of_some _ q) (Nat.le_refl _) ⟨by rw [List.length_reverse]; exact hz, _, 0, r.reverse, Heap.get?_push_size _ rfl⟩, rfl, q _ (I5.hok.fresh (Nat.le_refl _))⟩
  · cases r1
    obtain ⟨its, r, ht, hz⟩ := I5.tuple hx
    have hl := r.length
    show wpAny (model X.prog X.w) X.A (subscriptTail e (.Slice none none (some (.UnaryOp .USub (.Constant (.int 1) k p1) p2)) p3) (.ref a) (.ref s4.heap.objs.size)) (EP X pins σ Q) X.xe { s4 with heap := s4.heap.push { cls := .type "slice", data := .fields #[vl, vu, vs] } }
    refine tail_any (ops := [.ref a, .ref s4.heap.objs.size]) ht.typeIs (PyProof.Rows.slot_tuple_getitem.lookup) ?_ (by with_unfolding_all rfl)
    refine getItem_tuple_back ht (Heap.IsSliceOf.new _ vl vu vs) pl pu ps ?_ (by omega)
    exact ⟨.ref _, _, I5.laid (t' := s4.toks) (o := .tup xs.reverse) (fun b ob q => Heap.get?_push_of_some _ q) (Nat.le_refl _) ⟨by rw [List.length_reverse]; exact hz, _, r.reverse, IsTup.new _ _⟩, rfl, q _ (I5.hok.fresh (Nat.le_refl _))⟩
end
end L2
namespace AG
open PySem L2
def opRevA (d : D) : M D := match d with | .lst xs => M.pure (.lst xs.reverse) | .tup xs => M.pure (.tup xs.reverse) | _ => M.bad
theorem me_revA {X : Cx} {ca : CA} {W : WX} {a : Expr} {ma : Env → M D} {pos : Pos} {k : Nat} {p1 p2 p3 : Pos} (ha : ME X ca W a ma) : ME X ca W (.Subscript a (.Slice none none (some (.UnaryOp .USub (.Constant (.int 1) k p1) p2)) p3) pos) (mUn opRevA ma) :=
  PE.mono (pe_revA ha) fun σ H Q h => by
    obtain ⟨w, mh, env, rfl, hw, hf, hp⟩ := h
    refine stepG (rep := repV X.K) hw hf hp fun w1 mh1 v1 d1 x1 hw1 hf1 r1 hp1 => ?_
    cases r1 with
    | lst q r => exact .inl ⟨_, _, rfl, .of (hw1.subL _ _ q), PostG.lst hp1 hw1 r.reverse⟩
    | tup q r => exact .inr ⟨_, _, rfl, sqT_sub hw1.sub q, PostG.tup hp1 hw1 r.reverse⟩
    | _ => exact hp1.elim
@[simp] theorem ev_revAT {x : List D} {h : MH} : opRevA (.tup x) h = .ok (.tup x.reverse) h := id rfl
@[simp] theorem ev_revAL {x : List D} {h : MH} : opRevA (.lst x) h = .ok (.lst x.reverse) h := id rfl
end AG
/-! AgL2: comprehensions with two for. -/
namespace AG
open PySem L2
def comp2F (t : Tgt) (tt : Env → M Bool) (mi1 : Env → M (List D)) (t1 : Tgt) (tt1 : Env → M Bool) (te : Env → M D) (vs1 : List Nat) (env : Env) : List D → M (List D)
  | [] => M.pure []
  | x :: xs => match t x env with
    | some env1 => M.bind (tt env1) fun b => if b = true then M.bind (mi1 env1) fun ys => (if ys.length ≤ 4096 then M.bind (compF t1 tt1 te (wipeE env1 vs1) ys) fun zs => M.bind (comp2F t tt mi1 t1 tt1 te vs1 env xs) fun us => M.pure (zs ++ us) else M.bad) else comp2F t tt mi1 t1 tt1 te vs1 env xs
    | none => M.bad
def mLc2 (mi : Env → M (List D)) (t : Tgt) (tt : Env → M Bool) (mi1 : Env → M (List D)) (t1 : Tgt) (tt1 : Env → M Bool) (te : Env → M D) (vs vs1 : List Nat) : Env → M (List D) :=
  fun env => M.bind (mi env) fun xs => if xs.length ≤ 4096 then (fun h => (comp2F t tt mi1 t1 tt1 te vs1 (wipeE env vs) xs h).calm) else M.bad
theorem FrOk.put {K : PySem.W.Frag} {w : Wd} {env : Env} {σ : St} (hf : FrOk K w env σ) {p : Addr} {o : HO} (ne : ∀ (i : Nat) (ds : List D) (a : Addr), env[i]? = some (.own ds) → σ[i]? = some (some (V.ref a)) → a ≠ p) : FrOk K (w.put p o) env σ := by
  refine ⟨hf.len, fun i d h => ?_, fun i ds h => ?_, hf.sep⟩
  · obtain ⟨v, e, r⟩ := hf.v i d h
    exact ⟨v, e, r.mono put_grow⟩
  · obtain ⟨a, e, ow⟩ := hf.own i ds h
    obtain ⟨vs, hH, r⟩ := ow.at'
    exact ⟨a, e, ⟨⟨vs, by show upd w.H p o a = _; rw [upd_ne (ne i ds a h e)]; exact hH, r.mono put_grow⟩, ow.nF, ow.nL, ow.nr⟩⟩
theorem lc2_read {K : PySem.W.Frag} {ca : CA} {W : WX} {vs vs1 : List Nat} {mi mi1 : Env → M (List D)} {g g1 : TG} {t t1 : Tgt} {tt tt1 : Env → M Bool} {te : Env → M D} (hgk : GOk K g t vs) (hgk1 : GOk K g1 t1 vs1) {σ : St} {H : Hp} {Q : VK} (h : denF K ca W (mLc2 mi t tt mi1 t1 tt1 te vs vs1) σ H Q) :
    tLc2 (denG (repI K ca) K ca W mi) g (denG repB K ca W0 tt) (denG (repI K ca) K ca W0 mi1) g1 (denG repB K ca W0 tt1) (denG (repV K) K ca W0 te) vs vs1 σ H Q := by
  obtain ⟨w, mh, env, rfl, hw, hf, hp⟩ := h
  refine stepX (rep := repI K ca) hw hf hp (fun _ _ q => q) fun w1 mh1 J xs x1 hw1 hf1 S hp1 => ?_
  have S : Serves K ca w1 J xs := S
  by_cases hl : xs.length ≤ 4096
  case neg => simp only [hl, if_false] at hp1; exact hp1.elim
  simp only [hl, if_true] at hp1
  have hp1 := wpR_calm (E' := fun _ _ => False) hp1
  intro L hL
  -- ahead of the outer turn i
  refine ⟨fun i m H => m = xs.length - i ∧ i ≤ xs.length ∧ ∃ w2 mh2 dacc, w2.H = H ∧ Ext w1 w2 ∧ WOk K ca w2 mh2 ∧ Own K w2 L dacc ∧ dacc.length ≤ i * 4096 ∧
    wpR (comp2F t tt mi1 t1 tt1 te vs1 (wipeE env vs) (xs.drop i) mh2) (fun ys mh3 => ∀ w' p, Ext w w' → WOk K ca w' mh3 → w.H p = none → Own K w' p (dacc ++ ys) → Q (.ref p) w'.H) (fun _ _ => False), ⟨xs.length, by simp, Nat.zero_le _, w1.put L (.lst []), mh1, [], rfl, Ext.put hw1 hL, hw1.put hL, Own.put (hw1.fnone hL) (hw1.lnone hL) (hw1.nrho hL) .nil, Nat.zero_le _, by simpa using hp1⟩, ?_⟩
  rintro i m H ⟨rfl, hi, w2, mh2, dacc, rfl, x2, hw2, o2, hd, hp2⟩
  have fr2 := (hf1.ext x2).wipe vs
  by_cases hlt : i < xs.length
  · refine .inr ⟨S.go w2 mh2 i x2.grow hw2 hlt, fun H' => ∃ w4 mh4 dacc', w4.H = H' ∧ Ext w1 w4 ∧ WOk K ca w4 mh4 ∧ Own K w4 L dacc' ∧ dacc'.length ≤ (i + 1) * 4096 ∧
      wpR (comp2F t tt mi1 t1 tt1 te vs1 (wipeE env vs) (xs.drop (i + 1)) mh4) (fun ys mh3 => ∀ w' p, Ext w w' → WOk K ca w' mh3 → w.H p = none → Own K w' p (dacc' ++ ys) → Q (.ref p) w'.H) (fun _ _ => False), fun H' q => ?_, fun x H' y => ?_⟩
    · exact ⟨xs.length - (i + 1), by omega, rfl, hlt, q⟩
    · obtain ⟨d, w3, e3, rfl, x3, hw3, r3⟩ := S.yld w2 mh2 i x H' x2.grow hw2 hlt y
      rw [List.drop_eq_getElem_cons hlt] at hp2
      have e3' : xs[i] = d := by rw [List.getElem?_eq_getElem hlt] at e3; exact Option.some.inj e3
      rw [e3'] at hp2
      cases q : t d (wipeE env vs) with
      | none => simp only [comp2F, q] at hp2; exact hp2.elim
      | some env1 =>
        simp only [comp2F, q] at hp2
        refine hgk w3 x d _ env1 _ _ hw3.subs r3 (fr2.ext x3) q fun σ1 f1 we ob => ⟨we.trans wipe_wipe, ?_⟩
        have neL : ∀ (i : Nat) (ds : List D) (a : Addr), env1[i]? = some (.own ds) → σ1[i]? = some (some (V.ref a)) → a ≠ L := fun i ds a h1 h2 e => by
          obtain ⟨z1, z2⟩ := ob i ds a h1 h2
          obtain ⟨a', e', ow⟩ := (hf1.wipe vs).own i ds z1
          rw [z2] at e'
          cases e'
          obtain ⟨_, hH, _⟩ := ow.at'
          rw [e, hL] at hH
          cases hH
        refine stepX (rep := repB) hw3 f1 hp2 (fun _ _ z => z.elim) fun w4 mh4 b b' x4 hw4 hf4 rb hp4 => ?_
        have rb : b = b' := rb
        subst rb
        have o4 := o2.ext (x3.trans x4)
        have x14 := x2.trans (x3.trans x4)
        cases b with
        | false =>
          simp only [Bool.false_eq_true, if_false] at hp4 ⊢
          exact ⟨w4, mh4, dacc, rfl, x14, hw4, o4, by omega, hp4⟩
        | true =>
          simp only [if_true] at hp4 ⊢
          refine stepX (rep := repI K ca) hw4 hf4 hp4 (fun _ _ z => z.elim) fun w5 mh5 J1 ys x5 hw5 hf5 S1 hp5 => ?_
          have S1 : Serves K ca w5 J1 ys := S1
          by_cases hl1 : ys.length ≤ 4096
          case neg => simp only [hl1, if_false] at hp5; exact hp5.elim
          simp only [hl1, if_true] at hp5
          have o5 := o4.ext x5
          have x15 := x14.trans x5
          -- ahead of the inner turn j
          refine ⟨fun j k H => k = ys.length - j ∧ j ≤ ys.length ∧ ∃ w6 mh6 da, w6.H = H ∧ Ext w1 w6 ∧ Grow w5 w6 ∧ FrOk K w6 env1 σ1 ∧ WOk K ca w6 mh6 ∧ Own K w6 L da ∧ da.length ≤ i * 4096 + j ∧
            wpR (compF t1 tt1 te (wipeE env1 vs1) (ys.drop j) mh6) (fun zs mh7 => wpR (comp2F t tt mi1 t1 tt1 te vs1 (wipeE env vs) (xs.drop (i + 1)) mh7) (fun us mh3 => ∀ w' p, Ext w w' → WOk K ca w' mh3 → w.H p = none → Own K w' p (da ++ zs ++ us) → Q (.ref p) w'.H) (fun _ _ => False)) (fun _ _ => False),
            ⟨ys.length, by simp, Nat.zero_le _, w5, mh5, dacc, rfl, x15, Grow.refl _, hf5, hw5, o5, by omega, ?_⟩, ?_⟩
          · rw [List.drop_zero]
            refine wpR_mono (wpR_bind.mp hp5) (fun zs mh7 z => ?_) fun _ _ z => z
            refine wpR_mono (wpR_bind.mp z) (fun us mh8 z w' p a1 a2 a3 a4 => ?_) fun _ _ z => z
            exact z w' p a1 a2 a3 (by rw [← List.append_assoc]; exact a4)
          · rintro j k H ⟨rfl, hj, w6, mh6, da, rfl, x16, g6, hf6, hw6, o6, hd6, hp6⟩
            have fr6 := hf6.wipe vs1
            by_cases hlt1 : j < ys.length
            · refine .inr ⟨S1.go w6 mh6 j g6 hw6 hlt1, fun H' => ∃ w8 mh8 da', w8.H = H' ∧ Ext w1 w8 ∧ Grow w5 w8 ∧ FrOk K w8 env1 σ1 ∧ WOk K ca w8 mh8 ∧ Own K w8 L da' ∧ da'.length ≤ i * 4096 + (j + 1) ∧
                wpR (compF t1 tt1 te (wipeE env1 vs1) (ys.drop (j + 1)) mh8) (fun zs mh7 => wpR (comp2F t tt mi1 t1 tt1 te vs1 (wipeE env vs) (xs.drop (i + 1)) mh7) (fun us mh3 => ∀ w' p, Ext w w' → WOk K ca w' mh3 → w.H p = none → Own K w' p (da' ++ zs ++ us) → Q (.ref p) w'.H) (fun _ _ => False)) (fun _ _ => False), fun H' q => ⟨ys.length - (j + 1), by omega, rfl, hlt1, q⟩, fun x H' y => ?_⟩
              obtain ⟨d1, w7, e7, rfl, x7, hw7, r7⟩ := S1.yld w6 mh6 j x H' g6 hw6 hlt1 y
              rw [List.drop_eq_getElem_cons hlt1] at hp6
              have e7' : ys[j] = d1 := by rw [List.getElem?_eq_getElem hlt1] at e7; exact Option.some.inj e7
              rw [e7'] at hp6
              cases q1 : t1 d1 (wipeE env1 vs1) with
              | none => simp only [compF, q1] at hp6; exact hp6.elim
              | some env2 =>
                simp only [compF, q1] at hp6
                refine hgk1 w7 x d1 _ env2 _ _ hw7.subs r7 (fr6.ext x7) q1 fun σ2 f2 we2 _ => ⟨we2.trans wipe_wipe, ?_⟩
                refine stepX (rep := repB) hw7 f2 hp6 (fun _ _ z => z.elim) fun w8 mh8 b b' x8 hw8 hf8 rb hp8 => ?_
                have rb : b = b' := rb
                subst rb
                have o8 := o6.ext (x7.trans x8)
                have x18 := x16.trans (x7.trans x8)
                have g8 := g6.trans (x7.grow.trans x8.grow)
                have f8 := hf6.ext (x7.trans x8)
                cases b with
                | false =>
                  simp only [Bool.false_eq_true, if_false] at hp8 ⊢
                  exact ⟨w8, mh8, da, rfl, x18, g8, f8, hw8, o8, by omega, hp8⟩
                | true =>
                  simp only [if_true] at hp8 ⊢
                  refine stepX (rep := repV K) hw8 hf8 hp8 (fun _ _ z => z.elim) fun w9 mh9 v9 d9 x9 hw9 hf9 r9 hp9 => ?_
                  have o9 := o8.ext x9
                  obtain ⟨us, hH, rr⟩ := o9.at'
                  have r9 : Rp K w9 v9 d9 := r9
                  refine ⟨us, hH, by rw [rr.length, sizeLine_lit]; omega, w9.put L (.lst (us ++ [v9])), mh9, da ++ [d9], rfl, (x18.trans x9).wr hL, (g8.trans x9.grow).trans put_grow, (f8.ext x9).put neL, hw9.wr o9.nF o9.nL o9.nr, Own.put o9.nF o9.nL o9.nr (rr.append (.cons r9 .nil)), by simp; omega, ?_⟩
                  refine wpR_mono (wpR_bind.mp hp9) (fun zs mh10 z => ?_) fun _ _ z => z
                  refine wpR_mono z (fun us2 mh11 z w' p a1 a2 a3 a4 => z w' p a1 a2 a3 (by simpa using a4)) fun _ _ z => z
            · have e : j = ys.length := by omega
              subst e
              refine .inl ⟨S1.stop w6 mh6 _ g6 hw6 (Nat.le_refl _), ?_⟩
              rw [List.drop_length] at hp6
              refine ⟨w6, mh6, da, rfl, x16, hw6, o6, by omega, ?_⟩
              refine wpR_mono hp6 (fun us mh3 z w' p a1 a2 a3 a4 => z w' p a1 a2 a3 (by simpa using a4)) fun _ _ z => z
  · have e : i = xs.length := by omega
    subst e
    refine .inl ⟨S.stop w2 mh2 _ x2.grow hw2 (Nat.le_refl _), ?_⟩
    rw [List.drop_length] at hp2
    exact hp2 w2 L (x1.trans x2) hw2 (x1.th _ hL) (by simpa using o2)
section
variable {X : Cx} {ca : CA} {W : WX} {elt tg iter tg1 iter1 : Expr} {ifs ifs1 : List Expr} {scope : Scope} {own : List (Str × Nat)} {vs1 : List Nat} {pos : Pos} {mi mi1 : Env → M (List D)} {g g1 : TG} {t t1 : Tgt} {tt tt1 : Env → M Bool} {te : Env → M D}
theorem mf_lc2 (hc : X.calm = true) (hN : X.N.Nodup) (hi : MI X ca W tg iter mi) (ok : BlkOk X.N X.env.scope scope own) (hv : ∀ i ∈ vs1, i ∈ own.map (·.2)) (hgk : GOk X.K g t (own.map (·.2))) (hgk1 : GOk X.K g1 t1 vs1)
    (hg : ∀ (s : Shared) (H : Hp) (C : Addr) (cl : List (Str × Addr)) (fp : List Addr), PG (X.blk s H scope (compEnvC scope cl C X.env) fp) tg g)
    (ht : ∀ (s : Shared) (H : Hp) (C : Addr) (cl : List (Str × Addr)) (fp : List Addr), MTs (X.blk s H scope (compEnvC scope cl C X.env) fp) ca W0 ifs tt)
    (hi1 : ∀ (s : Shared) (H : Hp) (C : Addr) (cl : List (Str × Addr)) (fp : List Addr), MI (X.blk s H scope (compEnvC scope cl C X.env) fp) ca W0 tg1 iter1 mi1)
    (hg1 : ∀ (s : Shared) (H : Hp) (C : Addr) (cl : List (Str × Addr)) (fp : List Addr), PG (X.blk s H scope (compEnvC scope cl C X.env) fp) tg1 g1)
    (ht1 : ∀ (s : Shared) (H : Hp) (C : Addr) (cl : List (Str × Addr)) (fp : List Addr), MTs (X.blk s H scope (compEnvC scope cl C X.env) fp) ca W0 ifs1 tt1)
    (he : ∀ (s : Shared) (H : Hp) (C : Addr) (cl : List (Str × Addr)) (fp : List Addr), ME (X.blk s H scope (compEnvC scope cl C X.env) fp) ca W0 elt te)
    (hs : ∀ x, foldedSetIterable iter X.env x = pure x := by intro _; rfl) (hs1 : ∀ env x, foldedSetIterable iter1 env x = pure x := by intro _ _; rfl) : MF X ca W (.ListComp elt [⟨tg, iter, ifs, 0⟩, ⟨tg1, iter1, ifs1, 0⟩] scope pos) (mLc2 mi t tt mi1 t1 tt1 te (own.map (·.2)) vs1) :=
  PE.mono (pe_lc2 (te := denG (repV X.K) X.K ca W0 te) (tt := denG repB X.K ca W0 tt) (tt1 := denG repB X.K ca W0 tt1) (wi1 := denG (repI X.K ca) X.K ca W0 mi1) hc hN hi ok hv hg ht hi1 hg1 ht1 he hs hs1) fun σ H Q h => lc2_read hgk hgk1 h
section
variable {n i : Nat} {y : Str} {py spos : Pos}
theorem ms_setLc2Own (hc : X.calm = true) (hN : X.N.Nodup) (hi : MI X ca W tg iter mi) (ok : BlkOk X.N X.env.scope scope own) (hv : ∀ i ∈ vs1, i ∈ own.map (·.2)) (hgk : GOk X.K g t (own.map (·.2))) (hgk1 : GOk X.K g1 t1 vs1)
    (hg : ∀ (s : Shared) (H : Hp) (C : Addr) (cl : List (Str × Addr)) (fp : List Addr), PG (X.blk s H scope (compEnvC scope cl C X.env) fp) tg g)
    (ht : ∀ (s : Shared) (H : Hp) (C : Addr) (cl : List (Str × Addr)) (fp : List Addr), MTs (X.blk s H scope (compEnvC scope cl C X.env) fp) ca W0 ifs tt)
    (hi1 : ∀ (s : Shared) (H : Hp) (C : Addr) (cl : List (Str × Addr)) (fp : List Addr), MI (X.blk s H scope (compEnvC scope cl C X.env) fp) ca W0 tg1 iter1 mi1)
    (hg1 : ∀ (s : Shared) (H : Hp) (C : Addr) (cl : List (Str × Addr)) (fp : List Addr), PG (X.blk s H scope (compEnvC scope cl C X.env) fp) tg1 g1)
    (ht1 : ∀ (s : Shared) (H : Hp) (C : Addr) (cl : List (Str × Addr)) (fp : List Addr), MTs (X.blk s H scope (compEnvC scope cl C X.env) fp) ca W0 ifs1 tt1)
    (he : ∀ (s : Shared) (H : Hp) (C : Addr) (cl : List (Str × Addr)) (fp : List Addr), ME (X.blk s H scope (compEnvC scope cl C X.env) fp) ca W0 elt te)
    (hy : X.N[i]? = some y := by rfl) (hyl : X.env.scope.names.lookup y = some .local := by rfl) (hk : X.env.scope.kind = .function := by rfl) (hl : (py.line == pos.line) = true := by rfl)
    (ha : (scope.names.any fun (n, k) => n == y && (k == .local || k == .cell)) = false := by decide +kernel)
    (hs : ∀ x, foldedSetIterable iter X.env x = pure x := by intro _; rfl) (hs1 : ∀ env x, foldedSetIterable iter1 env x = pure x := by intro _ _; rfl) :
    MS X ca W n (.Assign [.Name y py] (.ListComp elt [⟨tg, iter, ifs, 0⟩, ⟨tg1, iter1, ifs1, 0⟩] scope pos) spos) (mSetOwn i (mLc2 mi t tt mi1 t1 tt1 te (own.map (·.2)) vs1)) :=
  PS.mono (ps_setLc2 (te := denG (repV X.K) X.K ca W0 te) (tt := denG repB X.K ca W0 tt) (tt1 := denG repB X.K ca W0 tt1) (wi1 := denG (repI X.K ca) X.K ca W0 mi1) hc hN hy hyl (sw_true hk hyl hl ha) hi ok hv hg ht hi1 hg1 ht1 he hs hs1) fun D' σ H h => by
    obtain ⟨w0, w, mh, env, rfl, hw, s, hp⟩ := h
    refine lc2_read hgk hgk1 (σ := σ) (W := W) ⟨w, mh, env, rfl, hw, s.fr, wpR_mono (wpR_bind.mp hp) (fun ds mh' q w' p x hw' hn o => ?_) fun cl mh q w' x hw' => q w' σ (s.ext.trans x) hw' s.ln⟩
    exact q w' _ ((s.then x).setOwn o (s.ext.th p hn) fun j es _ h => s.fr.apart hn j es h) x.grow hw'
theorem ms_setLc2 (hc : X.calm = true) (hN : X.N.Nodup) (hi : MI X ca W tg iter mi) (ok : BlkOk X.N X.env.scope scope own) (hv : ∀ i ∈ vs1, i ∈ own.map (·.2)) (hgk : GOk X.K g t (own.map (·.2))) (hgk1 : GOk X.K g1 t1 vs1)
    (hg : ∀ (s : Shared) (H : Hp) (C : Addr) (cl : List (Str × Addr)) (fp : List Addr), PG (X.blk s H scope (compEnvC scope cl C X.env) fp) tg g)
    (ht : ∀ (s : Shared) (H : Hp) (C : Addr) (cl : List (Str × Addr)) (fp : List Addr), MTs (X.blk s H scope (compEnvC scope cl C X.env) fp) ca W0 ifs tt)
    (hi1 : ∀ (s : Shared) (H : Hp) (C : Addr) (cl : List (Str × Addr)) (fp : List Addr), MI (X.blk s H scope (compEnvC scope cl C X.env) fp) ca W0 tg1 iter1 mi1)
    (hg1 : ∀ (s : Shared) (H : Hp) (C : Addr) (cl : List (Str × Addr)) (fp : List Addr), PG (X.blk s H scope (compEnvC scope cl C X.env) fp) tg1 g1)
    (ht1 : ∀ (s : Shared) (H : Hp) (C : Addr) (cl : List (Str × Addr)) (fp : List Addr), MTs (X.blk s H scope (compEnvC scope cl C X.env) fp) ca W0 ifs1 tt1)
    (he : ∀ (s : Shared) (H : Hp) (C : Addr) (cl : List (Str × Addr)) (fp : List Addr), ME (X.blk s H scope (compEnvC scope cl C X.env) fp) ca W0 elt te)
    (hy : X.N[i]? = some y := by rfl) (hyl : X.env.scope.names.lookup y = some .local := by rfl) (hk : X.env.scope.kind = .function := by rfl) (hl : (py.line == pos.line) = true := by rfl)
    (ha : (scope.names.any fun (n, k) => n == y && (k == .local || k == .cell)) = false := by decide +kernel)
    (hs : ∀ x, foldedSetIterable iter X.env x = pure x := by intro _; rfl) (hs1 : ∀ env x, foldedSetIterable iter1 env x = pure x := by intro _ _; rfl) :
    MS X ca W n (.Assign [.Name y py] (.ListComp elt [⟨tg, iter, ifs, 0⟩, ⟨tg1, iter1, ifs1, 0⟩] scope pos) spos) (mSet i (mFrz (mLc2 mi t tt mi1 t1 tt1 te (own.map (·.2)) vs1))) :=
  PS.mono (ps_setLc2 (te := denG (repV X.K) X.K ca W0 te) (tt := denG repB X.K ca W0 tt) (tt1 := denG repB X.K ca W0 tt1) (wi1 := denG (repI X.K ca) X.K ca W0 mi1) hc hN hy hyl (sw_true hk hyl hl ha) hi ok hv hg ht hi1 hg1 ht1 he hs hs1) fun D' σ H h => by
    obtain ⟨w0, w, mh, env, rfl, hw, s, hp⟩ := h
    refine lc2_read hgk hgk1 (σ := σ) (W := W) (frz_den ?_)
    refine stepS (rep := repV X.K) hw s hp fun w1 mh1 v d x1 hw1 s1 r1 hp1 => ?_
    exact hp1 w1 _ (s1.set r1) x1.grow hw1
end
end
end AG
/-! AgKd: dicts whose keys are texts and ints, as objects that are passed on and changed. -/
namespace AG
open PySem L2
def D.key : D → Option Key
  | .int i => some (.inl i)
  | .str s => some (.inr s)
  | _ => none
def kGet (kvs : List (Key × D)) (k : Key) : Option D := (kvs.find? fun p => decide (p.1 = k)).map (·.2)
def kPut (kvs : List (Key × D)) (k : Key) (v : D) : List (Key × D) := if (kvs.any fun p => decide (p.1 = k)) = true then kvs.map fun p => if p.1 = k then (p.1, v) else p else kvs ++ [(k, v)]
theorem key_of {K : PySem.W.Frag} {w : Wd} {v : V} {d : D} {k : Key} (r : Rp K w v d) (h : d.key = some k) : v = kV k := by
  cases r <;> simp only [D.key, Option.some.injEq, reduceCtorEq] at h
  · subst h; rfl
  · subst h; rfl
theorem kz_get {K : PySem.W.Frag} {w : Wd} {k : Key} : ∀ {kvs : List (Key × D)} {us : List V}, RpAll K w us (kvs.map (·.2)) → ∀ d, kGet kvs k = some d → ∃ v, valV ((kvs.map (·.1)).zip us) k = some v ∧ Rp K w v d
  | [], _, _, d, h => by simp [kGet] at h
  | (q, x) :: kvs, us, r, d, h => by
    cases r with
    | cons h1 h2 =>
      rename_i u us
      rw [List.map_cons, List.zip_cons_cons]
      by_cases e : q = k
      · have : kGet ((q, x) :: kvs) k = some x := by simp [kGet, e]
        rw [this] at h
        cases h
        exact ⟨u, valV_pos e, h1⟩
      · have : kGet ((q, x) :: kvs) k = kGet kvs k := by simp [kGet, e]
        rw [this] at h
        rw [valV_neg e]
        exact kz_get h2 d h
theorem kz_any {k : Key} {K : PySem.W.Frag} {w : Wd} : ∀ {kvs : List (Key × D)} {us : List V}, RpAll K w us (kvs.map (·.2)) → (((kvs.map (·.1)).zip us).any fun p => decide (p.1 = k)) = kvs.any fun p => decide (p.1 = k)
  | [], _, _ => by simp
  | (q, x) :: kvs, us, r => by
    cases r with
    | cons h1 h2 => rw [List.map_cons, List.zip_cons_cons, List.any_cons, List.any_cons, kz_any h2]
theorem kz_map {K : PySem.W.Frag} {w : Wd} {k : Key} {v : V} {d : D} (hv : Rp K w v d) : ∀ {kvs : List (Key × D)} {us : List V}, RpAll K w us (kvs.map (·.2)) →
    ∃ us', (((kvs.map (·.1)).zip us).map fun p => if p.1 = k then (p.1, v) else p) = ((kvs.map fun p => if p.1 = k then (p.1, d) else p).map (·.1)).zip us' ∧ RpAll K w us' ((kvs.map fun p => if p.1 = k then (p.1, d) else p).map (·.2))
  | [], us, r => ⟨[], by simp, .nil⟩
  | (q, x) :: kvs, us, r => by
    cases r with
    | cons h1 h2 =>
      rename_i u us
      obtain ⟨us', e, r'⟩ := kz_map hv (k := k) h2
      rw [List.map_cons, List.zip_cons_cons, List.map_cons, List.map_cons, e]
      by_cases c : q = k
      · exact ⟨v :: us', by simp [c], by simp only [c, if_true, List.map_cons]; exact .cons hv r'⟩
      · exact ⟨u :: us', by simp [c], by simp only [c, if_false, List.map_cons]; exact .cons h1 r'⟩
theorem kz_app {K : PySem.W.Frag} {w : Wd} {k : Key} {v : V} {d : D} (hv : Rp K w v d) : ∀ {kvs : List (Key × D)} {us : List V}, RpAll K w us (kvs.map (·.2)) →
    ∃ us', ((kvs.map (·.1)).zip us) ++ [(k, v)] = ((kvs ++ [(k, d)]).map (·.1)).zip us' ∧ RpAll K w us' ((kvs ++ [(k, d)]).map (·.2))
  | [], us, r => ⟨[v], by simp, .cons hv .nil⟩
  | (q, x) :: kvs, us, r => by
    cases r with
    | cons h1 h2 =>
      rename_i u us
      obtain ⟨us', e, r'⟩ := kz_app hv (k := k) h2
      refine ⟨u :: us', ?_, .cons h1 r'⟩
      rw [List.map_cons, List.zip_cons_cons, List.cons_append, e]
      simp
theorem kz_put {K : PySem.W.Frag} {w : Wd} {k : Key} {v : V} {d : D} (hv : Rp K w v d) {kvs : List (Key × D)} {us : List V} (r : RpAll K w us (kvs.map (·.2))) :
    ∃ us', putK ((kvs.map (·.1)).zip us) k v = ((kPut kvs k d).map (·.1)).zip us' ∧ RpAll K w us' ((kPut kvs k d).map (·.2)) := by
  unfold putK kPut
  rw [kz_any r]
  split
  · exact kz_map hv r
  · exact kz_app hv r
theorem kz_len {K : PySem.W.Frag} {w : Wd} {kvs : List (Key × D)} {us : List V} (r : RpAll K w us (kvs.map (·.2))) : ((kvs.map (·.1)).zip us).length = kvs.length := by
  have := r.length
  simp only [List.length_zip, List.length_map] at this ⊢
  omega
/-- d[k] -/
def rGetK : R2 := fun x y H Q => ∃ a v, x = .ref a ∧ DGet H a y (some v) ∧ Q v H
def opGetK : DOp := fun d e => match d with
  | .ref n => fun h => match h[n]?, e.key with
    | some (.dky kvs), some k => (match kGet kvs k with | some v => .ok v h | none => .bad)
    | _, _ => .bad
  | _ => M.bad
/-- k in d -/
def rInK (g : Bool → Bool) : R2 := fun x y H Q => ∃ a kvs k, y = .ref a ∧ H a = some (.dK kvs) ∧ x = kV k ∧ Q (.bl (g (valV kvs k).isSome)) H
def setKM (v d j : D) : M Unit := match d with
  | .ref n => fun h => match h[n]?, j.key with
    | some (.dky kvs), some k => if kvs.length < 16000000 then .ok () (h.set n (.dky (kPut kvs k v))) else .bad
    | _, _ => .bad
  | _ => M.bad
def mSetK (o i e : Env → M D) : Env → M Fl := fun env => M.bind (e env) fun v => M.bind (o env) fun d => M.bind (i env) fun j => M.bind (setKM v d j) fun _ => M.pure (.nx env)
/-- {"x": i} -/
def mNewK (x : Str) (i : Int) : Env → M D := fun _ h => .ok (.ref h.length) (h ++ [.dky [(.inr x, .int i)]])
section
variable {X : Cx} {ca : CA} {W : WX} {n : Nat} {o i e : Expr} {mo mi me : Env → M D} {pos pos' : Pos}
theorem opm_getK : OpM X.K ca rGetK opGetK := by
  intro W σ w mh x y d e Q hw rx ry hp
  cases rx with
  | ref h2 =>
    rename_i a n
    obtain ⟨mo, e1, _, _, ho⟩ := hw.at h2
    cases mo with
    | dky kvs =>
      cases q : e.key with
      | none => simp only [opGetK, e1, q] at hp; exact hp.elim
      | some k =>
        cases g : kGet kvs k with
        | none => simp only [opGetK, e1, q, g] at hp; exact hp.elim
        | some v =>
          simp only [opGetK, e1, q, g] at hp
          obtain ⟨us, hH, r⟩ := ho
          obtain ⟨vv, g2, rv⟩ := kz_get r v g
          refine ⟨a, vv, rfl, ?_, PostG.ret hp hw rv⟩
          rw [key_of ry q, ← g2]
          exact DGet.k hH
    | _ => simp only [opGetK, e1] at hp; exact hp.elim
  | _ => exact hp.elim
theorem me_getK {k : Nat} (hr : Room k X.A) (ha : ME X ca W o mo) (hb : ME X ca W i mi) (hs : NoSl i) : ME X ca W (.Subscript o i pos) (mBin opGetK mo mi) :=
  PE.mono (pe_dget (by have := hu64 hr; omega) ha hb hs) fun _ _ _ h => tOp_of (r := rGetK) opm_getK h
theorem ms_setK {k0 : Nat} (hr : Room k0 X.A) (he : ME X ca W e me) (ho : ME X ca W o mo) (hi : ME X ca W i mi)
    (ha : ∀ v, assign (.Subscript o i pos') X.env v = (do
      let ov ← holding [v] (eval o X.env)
      let iv ← holding [v, ov] (eval i X.env)
      standAt pos'
      holding [v, ov, iv] (setItem ov iv v)
      release [v, ov, iv] []) := by intro _; rfl)
    (hs : swapsWithSole [.Subscript o i pos'] e pos.line X.env = pure false := by rfl) (hw : swappedStores [.Subscript o i pos'] e X.env = pure none := by rfl) (h1 : (assignEach [.Subscript o i pos'] X.env).map (·.2) = [assign (.Subscript o i pos') X.env] := by rfl) :
    MS X ca W n (.Assign [.Subscript o i pos'] e pos) (mSetK mo mi me) := PS.mono (ps_asg he (pg_sub ho hi (set_dict (by have := hu64 hr; omega)) ha) hs hw h1) fun D' σ H h => by
  obtain ⟨w0, w, mh, env, rfl, hw, s, hp⟩ := h
  refine stepS (rep := repV X.K) hw s hp fun w1 mh1 v1 d1 x1 hw1 s1 r1 hp1 => ?_
  refine stepS (rep := repV X.K) hw1 s1 hp1 fun w2 mh2 v2 d2 x2 hw2 s2 r2 hp2 => ?_
  refine stepS (rep := repV X.K) hw2 s2 hp2 fun w3 mh3 v3 d3 x3 hw3 s3 r3 hp3 => ?_
  have r1 : Rp X.K w3 v1 d1 := x3.rp (x2.rp r1)
  have r2 : Rp X.K w3 v2 d2 := x3.rp r2
  have r3 : Rp X.K w3 v3 d3 := r3
  cases r2 with
  | ref h2 =>
    rename_i a m
    obtain ⟨mo', e1, _, _, hob⟩ := hw3.at h2
    cases mo' with
    | dky kvs =>
      cases q : d3.key with
      | none => simp only [M.bind, setKM, e1, q, R.bind] at hp3; exact hp3.elim
      | some k =>
        by_cases lz : kvs.length < 16000000
        · simp only [M.bind, setKM, e1, q, lz, if_true, R.bind, M.pure] at hp3
          obtain ⟨us, hH, r⟩ := hob
          have ek := key_of r3 q
          subst ek
          obtain ⟨us', z1, z2⟩ := kz_put (k := k) r1 r
          have hm := List.mem_of_getElem? h2
          have x4 : Ext w3 (w3.put a (.dK (putK ((kvs.map (·.1)).zip us) k v1))) := Ext.obj hm
          refine ⟨a, _, rfl, DPut.k hH (by rw [kz_len r, sizeLine_lit]; omega), ?_⟩
          exact hp3 _ σ (s3.then x4) (x1.grow.trans (x2.grow.trans (x3.grow.trans x4.grow))) (hw3.obj' h2 ⟨us', by rw [← z1]; exact upd_same, z2.mono put_grow⟩)
        · simp only [M.bind, setKM, e1, q, lz, if_false, R.bind] at hp3; exact hp3.elim
    | _ => simp only [M.bind, setKM, e1, R.bind] at hp3; exact hp3.elim
  | _ => exact hp3.elim
theorem upd_upd {H : Hp} {p : Addr} {o u : HO} : upd (upd H p o) p u = upd H p u := by
  funext b
  unfold upd
  split <;> rfl
theorem me_newK {x : Str} {c : Int} {j1 j2 p1 p2} : ME X ca W (.Dict [some (.Constant (.str x) j1 p1)] [.Constant (.int c) j2 p2] pos) (mNewK x c) :=
  PE.mono (pe_disp (pps_cons pe_str pe_int pps_nil) rfl rfl (by simp) (by simp)) fun σ H Q h => by
    obtain ⟨w, mh, env, rfl, hw, hf, hp⟩ := h
    intro p hp0
    show upd w.H p (.dK []) p = some (.dK []) ∧ _
    refine ⟨upd_same, [(.inr x, .int c)], rfl, by simp, ?_⟩
    have em : mergeK [] [((.inr x : Key), V.int c)] = [((.inr x : Key), V.int c)] := rfl
    rw [em, upd_upd]
    have x1 := Ext.new (o := .dK [((.inr x : Key), V.int c)]) hp0
    have hw1 : WOk X.K ca (w.new p (.dK [((.inr x : Key), V.int c)])) (mh ++ [.dky [(.inr x, .int c)]]) := hw.new hp0 ⟨[.int c], upd_same, .cons (.int c) .nil⟩
    have hat : (w.ρ ++ [p])[mh.length]? = some p := by
      rw [← hw.len]
      simp
    exact hp (w.new p _) (.ref p) x1 hw1 (.ref hat)
end
section
variable {env : Env} {h : MH}
@[simp] theorem ev_newK {x : Str} {c : Int} : mNewK x c env h = .ok (.ref h.length) (h ++ [.dky [(.inr x, .int c)]]) := id rfl
end
end AG
set_option maxHeartbeats 4000000
namespace L_k16
open PySem L2 AG PyProof.Rows
def s_of_AllgradesError : Nat → Option Bool := fun c => match c with | 0 => some true | 1 => some true | _ => none
def s_of_Above : Nat → Option Bool := fun c => match c with | 0 => some false | 1 => some true | _ => none
abbrev f__law_stream : LOp := fStream
abbrev f__law_draw : LOp := fDraw
def b__law_program_1 (self__law_program : LOp) : AG.Env → M Fl := mSeq (mSet 4 (mCallN 2 f__law_draw (mCons (mVar 0) (mCons (mC (.int 5)) mNil)))) (mSeq (mSet 5 (mCallN 2 f__law_draw (mCons (mVar 0) (mCons (mC (.int 4)) mNil)))) (mIf (mTest (mBin opEq (mVar 4) (mC (.int 0)))) (mOwnM fAppend 2 (mTup (mCons (mC (.str "zero")) (mCons (mVar 5) mNil)))) (mIf (mOrT (mTest (mBin opLt (mVar 4) (mC (.int 3)))) (mTest (mBin opEq (mVar 1) (mC (.int 1))))) (mOwnM fAppend 2 (mIfE (mTest (mBin opEq (mVar 4) (mC (.int 1)))) (mTup (mCons (mC (.str "next")) (mCons (mVar 5) mNil))) (mTup (mCons (mC (.str "copy")) (mCons (mVar 5) (mCons (mCallN 2 f__law_draw (mCons (mVar 0) (mCons (mC (.int 4)) mNil))) mNil)))))) (mOwnM fAppend 2 (mTup (mCons (mC (.str "repeat")) (mCons (mVar 5) (mCons (mCallN 2 self__law_program (mCons (mVar 0) (mCons (mBin opSub (mVar 1) (mC (.int 1))) mNil))) mNil))))))))
def m__law_program (self__law_program : LOp) : AG.Env → M Fl := mSeq (mSetOwn 2 (mLstF mNil)) (mSeq (mFor (mRng1 (mCallN 2 f__law_draw (mCons (mVar 0) (mCons (mC (.int 4)) mNil)))) (tgName 3) (b__law_program_1 self__law_program)) (mFrzB 2 (mRet (mCall fTuple (mCons (mVar 2) mNil)))))
def f__law_program : LOp := recF (fun self => mFn 6 (m__law_program self)) 70
def b__law_run_1 (self__law_run : LOp) : AG.Env → M Fl := mIf (mTest (mBin opLe (mBin opGetK (mVar 2) (mC (.str "work"))) (mC (.int 200000)))) (mExpr (mCallN 3 self__law_run (mCons (mBin opIx (mVar 3) (mC (.int 2))) (mCons (mVar 1) (mCons (mVar 2) mNil))))) mNx
def b__law_run_2 (self__law_run : LOp) : AG.Env → M Fl := mSeq (mSetK (mVar 2) (mC (.str "work")) (mBin opAdd (mBin opGetK (mVar 2) (mC (.str "work"))) (mC (.int 1)))) (mSeq (mIf (mTest (mBin opGt (mBin opGetK (mVar 2) (mC (.str "work"))) (mC (.int 200000)))) mRetN mNx) (mIf (mTest (mBin opEq (mBin opIx (mVar 3) (mC (.int 0))) (mC (.str "zero")))) (mSetIx (mVar 1) (mBin opIx (mVar 3) (mC (.int 1))) (mC (.int 0))) (mIf (mTest (mBin opEq (mBin opIx (mVar 3) (mC (.int 0))) (mC (.str "next")))) (mSetIx (mVar 1) (mBin opIx (mVar 3) (mC (.int 1))) (mBin opAdd (mBin opIx (mVar 1) (mBin opIx (mVar 3) (mC (.int 1)))) (mC (.int 1)))) (mIf (mTest (mBin opEq (mBin opIx (mVar 3) (mC (.int 0))) (mC (.str "copy")))) (mSetIx (mVar 1) (mBin opIx (mVar 3) (mC (.int 1))) (mBin opIx (mVar 1) (mBin opIx (mVar 3) (mC (.int 2))))) (mFor (mRng1 (mBin opIx (mVar 1) (mBin opIx (mVar 3) (mC (.int 1))))) (tgName 4) (b__law_run_1 self__law_run))))))
def m__law_run (self__law_run : LOp) : AG.Env → M Fl := mFor (mItems (mVar 0)) (tgName 3) (b__law_run_2 self__law_run)
def f__law_run : LOp := recF (fun self => mFn 5 (m__law_run self)) 70
def c_MOST_NAMES : D := (.int 4)
abbrev fl_Runner : List Str := ["places", "work"]
def m_Runner___init__ : AG.Env → M Fl := mSeq (mSetFld 2 "places" (mVar 0) (mNewL (mAddF (mCall fList (mCons (mVar 1) mNil)) (mBin opMul (mLst (mCons (mC (.int 0)) mNil)) (mBin opSub (mC c_MOST_NAMES) (mCall fLen (mCons (mVar 1) mNil))))))) (mSetFld 2 "work" (mVar 0) (mC (.int 0)))
def f_Runner___init__ : LOp := mFn 2 m_Runner___init__
def c_WORK : D := (.int 200000)
def b_Runner_do_1 (self_Runner_do : LOp) : AG.Env → M Fl := mExpr (mMeth 2 "do" 2 self_Runner_do (mVar 0) (mCons (mBin opIx (mVar 2) (mC (.int 2))) mNil))
def b_Runner_do_2 (self_Runner_do : LOp) : AG.Env → M Fl := mSeq (mAugFld augAdd 2 "work" (mVar 0) (mC (.int 1))) (mSeq (mIf (mTest (mBin opGt (mFld 2 "work" (mVar 0)) (mC c_WORK))) (mRaise 1) mNx) (mIf (mTest (mBin opEq (mBin opIx (mVar 2) (mC (.int 0))) (mC (.str "zero")))) (mSetIx (mFld 2 "places" (mVar 0)) (mBin opIx (mVar 2) (mC (.int 1))) (mC (.int 0))) (mIf (mTest (mBin opEq (mBin opIx (mVar 2) (mC (.int 0))) (mC (.str "next")))) (mAugIx augAdd (mFld 2 "places" (mVar 0)) (mBin opIx (mVar 2) (mC (.int 1))) (mC (.int 1))) (mIf (mTest (mBin opEq (mBin opIx (mVar 2) (mC (.int 0))) (mC (.str "copy")))) (mSetIx (mFld 2 "places" (mVar 0)) (mBin opIx (mVar 2) (mC (.int 1))) (mBin opIx (mFld 2 "places" (mVar 0)) (mBin opIx (mVar 2) (mC (.int 2))))) (mIf (mTruth (mBin opIx (mVar 2) (mC (.int 2)))) (mFor (mRng1 (mBin opIx (mFld 2 "places" (mVar 0)) (mBin opIx (mVar 2) (mC (.int 1))))) (tgName 3) (b_Runner_do_1 self_Runner_do)) mNx)))))
def m_Runner_do (self_Runner_do : LOp) : AG.Env → M Fl := mFor (mItems (mVar 1)) (tgName 2) (b_Runner_do_2 self_Runner_do)
def f_Runner_do : LOp := recF (fun self => mFn 4 (m_Runner_do self)) 70
def m_run : AG.Env → M Fl := mSeq (mSet 2 (mMake 2 2 f_Runner___init__ (mCons (mVar 1) mNil))) (mSeq (mExpr (mMeth 2 "do" 2 f_Runner_do (mVar 2) (mCons (mVar 0) mNil))) (mRet (mCall fTupR (mCons (mFld 2 "places" (mVar 2)) mNil))))
def f_run : LOp := mFn 3 m_run
def m__law_told : AG.Env → M Fl := mTry 2 s_of_Above (mRet (mCallN 2 f_run (mCons (mVar 0) (mCons (mVar 1) mNil)))) (mRet (mC .non))
def f__law_told : LOp := mFn 2 m__law_told
def c_MOST_STAGE : D := (.int 100000000000000000000000000000000000000000000000000000000000000000000000000000000000000000000000000000000000000000000000000000000000000000000000000000000000000000000000000000000000000000000000000000000)
def m_checked : AG.Env → M Fl := mSeq (mIf (mTest (mBin opGe (mVar 0) (mC c_MOST_STAGE))) (mRaise 1) mNx) (mRet (mVar 0))
def f_checked : LOp := mFn 1 m_checked
def m_is_level (self_is_level : LOp) (self_repeated : LOp) (self_bound : LOp) : AG.Env → M Fl := mRet (mBin opEq (mCallN 2 self_bound (mCons (mVar 0) (mCons (mC (.int 2)) mNil))) (mC (.int 2)))
def e_repeated_1 (self_is_level : LOp) (self_repeated : LOp) (self_bound : LOp) : AG.Env → M D := mOrV (mBin opNe (mBin opIx (mVar 3) (mC (.int 0))) (mC (.str "repeat"))) (mCallN 1 self_is_level (mCons (mBin opIx (mVar 3) (mC (.int 2))) mNil))
def b_repeated_1 (self_is_level : LOp) (self_repeated : LOp) (self_bound : LOp) : AG.Env → M Fl := mSet 1 (mCallN 2 self_bound (mCons (mVar 0) (mCons (mVar 1) mNil)))
def m_repeated (self_is_level : LOp) (self_repeated : LOp) (self_bound : LOp) : AG.Env → M Fl := mSeq (mIf (mTruth (mCallN 1 self_is_level (mCons (mVar 0) mNil))) (mRet (mVar 1)) mNx) (mSeq (mIf (mTruth (mCall fAll (mCons (mFrz (mLc (mItems (mVar 0)) (tgName 3) mYes (e_repeated_1 self_is_level self_repeated self_bound) [3])) mNil))) (mRet (mCallN 1 f_checked (mCons (mBin opAdd (mVar 1) (mBin opMul (mVar 1) (mBin opSub (mCallN 2 self_bound (mCons (mVar 0) (mCons (mVar 1) mNil))) (mVar 1)))) mNil))) mNx) (mSeq (mFor (mRng1 (mCall fMinA (mCons (mVar 1) (mCons (mC c_MOST_STAGE) mNil)))) (tgName 2) (b_repeated_1 self_is_level self_repeated self_bound)) (mRet (mVar 1))))
def b_bound_1 (self_is_level : LOp) (self_repeated : LOp) (self_bound : LOp) : AG.Env → M Fl := mIf (mTest (mBin opEq (mBin opIx (mVar 2) (mC (.int 0))) (mC (.str "next")))) (mSet 1 (mCallN 1 f_checked (mCons (mBin opAdd (mVar 1) (mC (.int 1))) mNil))) (mIf (mTest (mBin opEq (mBin opIx (mVar 2) (mC (.int 0))) (mC (.str "repeat")))) (mSet 1 (mCallN 2 self_repeated (mCons (mBin opIx (mVar 2) (mC (.int 2))) (mCons (mVar 1) mNil)))) mNx)
def m_bound (self_is_level : LOp) (self_repeated : LOp) (self_bound : LOp) : AG.Env → M Fl := mSeq (mFor (mItems (mVar 0)) (tgName 2) (b_bound_1 self_is_level self_repeated self_bound)) (mRet (mVar 1))
def f_is_level : LOp := (recP3 (fun a b c => mFn 1 (m_is_level a b c)) (fun a b c => mFn 4 (m_repeated a b c)) (fun a b c => mFn 3 (m_bound a b c)) 70).1
def f_repeated : LOp := (recP3 (fun a b c => mFn 1 (m_is_level a b c)) (fun a b c => mFn 4 (m_repeated a b c)) (fun a b c => mFn 3 (m_bound a b c)) 70).2.1
def f_bound : LOp := (recP3 (fun a b c => mFn 1 (m_is_level a b c)) (fun a b c => mFn 4 (m_repeated a b c)) (fun a b c => mFn 3 (m_bound a b c)) 70).2.2
def m__law_told_bound : AG.Env → M Fl := mTry 2 s_of_Above (mRet (mCallN 2 f_bound (mCons (mVar 0) (mCons (mVar 1) mNil)))) (mRet (mC .non))
def f__law_told_bound : LOp := mFn 2 m__law_told_bound
def e__law_same_1 (self__law_same : LOp) : AG.Env → M D := mCallN 2 self__law_same (mCons (mBin opIx (mVar 0) (mVar 2)) (mCons (mBin opIx (mVar 1) (mVar 2)) mNil))
def m__law_same (self__law_same : LOp) : AG.Env → M Fl := mSeq (mIf (mOrT (mAndT (mTruth (mIsi PyData.isTuple (mVar 0))) (mTruth (mIsi PyData.isTuple (mVar 1)))) (mAndT (mTruth (mIsi PyData.isList (mVar 0))) (mTruth (mIsi PyData.isList (mVar 1))))) (mRet (mAndV (mBin opEq (mCall fLen (mCons (mVar 0) mNil)) (mCall fLen (mCons (mVar 1) mNil))) (mCall fAll (mCons (mFrz (mLc (mRng1 (mCall fLen (mCons (mVar 0) mNil))) (tgName 2) mYes (e__law_same_1 self__law_same) [2])) mNil)))) mNx) (mSeq (mIf (mOrT (mTruth (mIsi PyData.isTuple (mVar 0))) (mOrT (mTruth (mIsi PyData.isTuple (mVar 1))) (mOrT (mTruth (mIsi PyData.isList (mVar 0))) (mTruth (mIsi PyData.isList (mVar 1)))))) (mRet (mC (.bl false))) mNx) (mRet (mAndV (mBin opEq (mVar 0) (mVar 1)) (mBin opEq (mIsi PyData.isBool (mVar 0)) (mIsi PyData.isBool (mVar 1))))))
def f__law_same : LOp := recF (fun self => mFn 3 (m__law_same self)) 70
def m_is_number : AG.Env → M Fl := mRet (mAndV (mIsi PyData.isInt (mVar 0)) (mAndV (mNotV (mIsi PyData.isBool (mVar 0))) (mBin opGe (mVar 0) (mC (.int 0)))))
def f_is_number : LOp := mFn 1 m_is_number
def m_is_place : AG.Env → M Fl := mRet (mAndV (mCallN 1 f_is_number (mCons (mVar 0) mNil)) (mBin opLt (mVar 0) (mC c_MOST_NAMES)))
def f_is_place : LOp := mFn 1 m_is_place
def m_is_step (self_is_step : LOp) (self_is_program_at : LOp) : AG.Env → M Fl := mSeq (mIf (mOrT (mNotT (mTruth (mIsi PyData.isTuple (mVar 0)))) (mOrT (mTest (mBin opLt (mCall fLen (mCons (mVar 0) mNil)) (mC (.int 2)))) (mOrT (mNotT (mTruth (mIsi PyData.isStr (mBin opIx (mVar 0) (mC (.int 0)))))) (mNotT (mTruth (mCallN 1 f_is_place (mCons (mBin opIx (mVar 0) (mC (.int 1))) mNil))))))) (mRet (mC (.bl false))) mNx) (mSeq (mIf (mTest (mBin (opIn id) (mBin opIx (mVar 0) (mC (.int 0))) (mTup (mCons (mC (.str "zero")) (mCons (mC (.str "next")) mNil))))) (mRet (mBin opEq (mCall fLen (mCons (mVar 0) mNil)) (mC (.int 2)))) mNx) (mSeq (mIf (mTest (mBin opEq (mBin opIx (mVar 0) (mC (.int 0))) (mC (.str "copy")))) (mRet (mAndV (mBin opEq (mCall fLen (mCons (mVar 0) mNil)) (mC (.int 3))) (mCallN 1 f_is_place (mCons (mBin opIx (mVar 0) (mC (.int 2))) mNil)))) mNx) (mRet (mAndV (mBin opEq (mBin opIx (mVar 0) (mC (.int 0))) (mC (.str "repeat"))) (mAndV (mBin opEq (mCall fLen (mCons (mVar 0) mNil)) (mC (.int 3))) (mCallN 2 self_is_program_at (mCons (mBin opIx (mVar 0) (mC (.int 2))) (mCons (mBin opSub (mVar 1) (mC (.int 1))) mNil))))))))
def c_MOST_STEPS : D := (.int 12)
def e_is_program_at_1 (self_is_step : LOp) (self_is_program_at : LOp) : AG.Env → M D := mCallN 2 self_is_step (mCons (mVar 2) (mCons (mVar 1) mNil))
def m_is_program_at (self_is_step : LOp) (self_is_program_at : LOp) : AG.Env → M Fl := mSeq (mIf (mOrT (mNotT (mTruth (mIsi PyData.isTuple (mVar 0)))) (mOrT (mTest (mBin opGt (mCall fLen (mCons (mVar 0) mNil)) (mC c_MOST_STEPS))) (mTest (mBin opEq (mVar 1) (mC (.int 0)))))) (mRet (mC (.bl false))) mNx) (mRet (mCall fAll (mCons (mFrz (mLc (mItems (mVar 0)) (tgName 2) mYes (e_is_program_at_1 self_is_step self_is_program_at) [2])) mNil)))
def f_is_step : LOp := (recP (fun a b => mFn 2 (m_is_step a b)) (fun a b => mFn 3 (m_is_program_at a b)) 70).1
def f_is_program_at : LOp := (recP (fun a b => mFn 2 (m_is_step a b)) (fun a b => mFn 3 (m_is_program_at a b)) 70).2
def c_MOST_DEEP : D := (.int 4)
def m_is_program : AG.Env → M Fl := mRet (mCallN 2 f_is_program_at (mCons (mVar 0) (mCons (mC c_MOST_DEEP) mNil)))
def f_is_program : LOp := mFn 1 m_is_program
def b__law_bound_1 (self__law_bound : LOp) : AG.Env → M Fl := mSeq (mSet 1 (mCallN 3 self__law_bound (mCons (mBin opIx (mVar 3) (mC (.int 2))) (mCons (mVar 1) (mCons (mVar 2) mNil))))) (mIf (mTest (mBin (opIs id) (mVar 1) (mC .non))) mBk mNx)
def b__law_bound_2 (self__law_bound : LOp) : AG.Env → M Fl := mSeq (mIf (mAndT (mTest (mBin (opIs not) (mVar 1) (mC .non))) (mTest (mBin opEq (mBin opIx (mVar 3) (mC (.int 0))) (mC (.str "next"))))) (mSet 1 (mBin opAdd (mVar 1) (mC (.int 1)))) (mIf (mAndT (mTest (mBin (opIs not) (mVar 1) (mC .non))) (mTest (mBin opEq (mBin opIx (mVar 3) (mC (.int 0))) (mC (.str "repeat"))))) (mFor (mRng1 (mVar 1)) (tgName 4) (b__law_bound_1 self__law_bound)) mNx)) (mIf (mOrT (mTest (mBin (opIs id) (mVar 1) (mC .non))) (mTest (mBin opGt (mVar 1) (mVar 2)))) (mRet (mC .non)) mNx)
def m__law_bound (self__law_bound : LOp) : AG.Env → M Fl := mSeq (mFor (mItems (mVar 0)) (tgName 3) (b__law_bound_2 self__law_bound)) (mRet (mVar 1))
def f__law_bound : LOp := recF (fun self => mFn 5 (m__law_bound self)) 70
def m__law_is_bound_right : AG.Env → M Fl := mSeq (mSet 2 (mCallN 3 f__law_bound (mCons (mVar 0) (mCons (mVar 1) (mCons (mC (.int 3000)) mNil))))) (mSeq (mSet 3 (mCallN 2 f__law_told_bound (mCons (mVar 0) (mCons (mVar 1) mNil)))) (mRet (mIfE (mTest (mBin (opIs not) (mVar 2) (mC .non))) (mBin opEq (mVar 3) (mVar 2)) (mOrV (mBin (opIs id) (mVar 3) (mC .non)) (mBin opGt (mVar 3) (mC (.int 3000)))))))
def f__law_is_bound_right : LOp := mFn 4 m__law_is_bound_right
def m_doubled : AG.Env → M Fl := mRet (mTup (mCons (mTup (mCons (mC (.str "copy")) (mCons (mVar 1) (mCons (mVar 0) mNil)))) (mCons (mTup (mCons (mC (.str "repeat")) (mCons (mVar 1) (mCons (mTup (mCons (mTup (mCons (mC (.str "next")) (mCons (mVar 0) mNil))) mNil)) mNil)))) mNil)))
def f_doubled : LOp := mFn 2 m_doubled
def b_nested_1 : AG.Env → M Fl := mSet 1 (mTup (mCons (mTup (mCons (mC (.str "copy")) (mCons (mBin opAdd (mC (.int 1)) (mVar 2)) (mCons (mC (.int 0)) mNil)))) (mCons (mTup (mCons (mC (.str "repeat")) (mCons (mBin opAdd (mC (.int 1)) (mVar 2)) (mCons (mVar 1) mNil)))) mNil)))
def m_nested : AG.Env → M Fl := mSeq (mSet 1 (mTup (mCons (mTup (mCons (mC (.str "next")) (mCons (mC (.int 0)) mNil))) mNil))) (mSeq (mFor (mRng1 (mVar 0)) (tgName 2) b_nested_1) (mRet (mVar 1)))
def f_nested : LOp := mFn 3 m_nested
def e_level_1 (self_level : LOp) : AG.Env → M D := mBin opAdd (mC (.int 1)) (mCallN 1 self_level (mCons (mBin opIx (mVar 1) (mC (.int 2))) mNil))
def t_level_1 (self_level : LOp) : AG.Env → M Bool := mTest (mBin opEq (mBin opIx (mVar 1) (mC (.int 0))) (mC (.str "repeat")))
def m_level (self_level : LOp) : AG.Env → M Fl := mRet (mCall fMaxA (mCons (mBin opAdd (mLst (mCons (mC (.int 0)) mNil)) (mFrz (mLc (mItems (mVar 0)) (tgName 1) (t_level_1 self_level) (e_level_1 self_level) [1]))) mNil))
def f_level : LOp := recF (fun self => mFn 2 (m_level self)) 70
def e__law_level_1 (self__law_level : LOp) : AG.Env → M D := mBin opAdd (mC (.int 1)) (mCallN 1 self__law_level (mCons (mBin opIx (mVar 1) (mC (.int 2))) mNil))
def t__law_level_1 (self__law_level : LOp) : AG.Env → M Bool := mTest (mBin opEq (mBin opIx (mVar 1) (mC (.int 0))) (mC (.str "repeat")))
def m__law_level (self__law_level : LOp) : AG.Env → M Fl := mRet (mCall fMaxA (mCons (mBin opAdd (mLst (mCons (mC (.int 0)) mNil)) (mFrz (mLc (mItems (mVar 0)) (tgName 1) (t__law_level_1 self__law_level) (e__law_level_1 self__law_level) [1]))) mNil))
def f__law_level : LOp := recF (fun self => mFn 2 (m__law_level self)) 70
def e_law_1 : AG.Env → M D := mCallN 2 f__law_draw (mCons (mVar 1) (mCons (mC (.int 4)) mNil))
def e_law_2 : AG.Env → M D := mBin opLe (mVar 14) (mVar 8)
def b_law_1 : AG.Env → M Fl := mSet 9 (mTup (mCons (mTup (mCons (mC (.str "copy")) (mCons (mBin opAdd (mC (.int 1)) (mVar 11)) (mCons (mC (.int 0)) mNil)))) (mCons (mTup (mCons (mC (.str "repeat")) (mCons (mBin opAdd (mC (.int 1)) (mVar 11)) (mCons (mVar 9) mNil)))) mNil)))
def q_law_0 : AG.Env → M Fl := mSet 2 (mCallN 2 f__law_program (mCons (mVar 1) (mCons (mC (.int 3)) mNil)))
def q_law_1 : AG.Env → M Fl := mSet 3 (mFrz (mLc (mRng1 (mCallN 2 f__law_draw (mCons (mVar 1) (mCons (mC (.int 5)) mNil)))) (tgName 11) mYes e_law_1 [11]))
def q_law_2 : AG.Env → M Fl := mIf (mOrT (mTest (mBin (opIs not) (mCallN 1 f_is_program (mCons (mVar 2) mNil)) (mC (.bl true)))) (mOrT (mTest (mBin (opIs not) (mCallN 1 f_is_program (mCons (mTup (mCons (mTup (mCons (mC (.str "next")) (mCons (mC (.int 4)) mNil))) mNil)) mNil)) (mC (.bl false)))) (mTest (mBin (opIs not) (mCallN 1 f_is_program (mCons (mLst mNil) mNil)) (mC (.bl false)))))) (mRet (mC (.bl false))) mNx
def q_law_3 : AG.Env → M Fl := mSet 4 (mNewL (mAddF (mVar 3) (mBin opMul (mLst (mCons (mC (.int 0)) mNil)) (mBin opSub (mC (.int 4)) (mCall fLen (mCons (mVar 3) mNil))))))
def q_law_4 : AG.Env → M Fl := mSet 5 (mCall fMaxA (mCons (mBin opAdd (mLst (mCons (mC (.int 0)) mNil)) (mVar 3)) mNil))
def q_law_5 : AG.Env → M Fl := mSet 6 (mNewK "work" 0)
def q_law_6 : AG.Env → M Fl := mExpr (mCallN 3 f__law_run (mCons (mVar 2) (mCons (mVar 4) (mCons (mVar 6) mNil))))
def q_law_7 : AG.Env → M Fl := mSet 7 (mCallN 2 f__law_told (mCons (mVar 2) (mCons (mVar 3) mNil)))
def q_law_8 : AG.Env → M Fl := mIf (mOrT (mTest (mBin opNe (mBin (opIs id) (mVar 7) (mC .non)) (mBin opGt (mBin opGetK (mVar 6) (mC (.str "work"))) (mC (.int 200000))))) (mAndT (mTest (mBin (opIs not) (mVar 7) (mC .non))) (mNotT (mTruth (mCallN 2 f__law_same (mCons (mVar 7) (mCons (mCall fTupR (mCons (mVar 4) mNil)) mNil))))))) (mRet (mC (.bl false))) mNx
def q_law_9 : AG.Env → M Fl := mIf (mOrT (mNotT (mTruth (mCallN 2 f__law_same (mCons (mCallN 1 f_level (mCons (mVar 2) mNil)) (mCons (mCallN 1 f__law_level (mCons (mVar 2) mNil)) mNil))))) (mNotT (mTruth (mCallN 2 f__law_is_bound_right (mCons (mVar 2) (mCons (mVar 5) mNil)))))) (mRet (mC (.bl false))) mNx
def q_law_10 : AG.Env → M Fl := mSet 8 (mCallN 2 f__law_told_bound (mCons (mVar 2) (mCons (mVar 5) mNil)))
def q_law_11 : AG.Env → M Fl := mIf (mAndT (mTest (mBin (opIs not) (mVar 8) (mC .non))) (mAndT (mTest (mBin (opIs not) (mVar 7) (mC .non))) (mNotT (mTruth (mCall fAll (mCons (mFrz (mLc (mItems (mVar 7)) (tgName 14) mYes e_law_2 [14])) mNil)))))) (mRet (mC (.bl false))) mNx
def q_law_12 : AG.Env → M Fl := mIf (mNotT (mTruth (mCallN 2 f__law_same (mCons (mCallN 2 f_doubled (mCons (mC (.int 0)) (mCons (mC (.int 1)) mNil))) (mCons (mTup (mCons (mTup (mCons (mC (.str "copy")) (mCons (mC (.int 1)) (mCons (mC (.int 0)) mNil)))) (mCons (mTup (mCons (mC (.str "repeat")) (mCons (mC (.int 1)) (mCons (mTup (mCons (mTup (mCons (mC (.str "next")) (mCons (mC (.int 0)) mNil))) mNil)) mNil)))) mNil))) mNil))))) (mRet (mC (.bl false))) mNx
def q_law_13 : AG.Env → M Fl := mSet 9 (mTup (mCons (mTup (mCons (mC (.str "next")) (mCons (mC (.int 0)) mNil))) mNil))
def q_law_14 : AG.Env → M Fl := mSet 10 (mCallN 2 f__law_draw (mCons (mVar 1) (mCons (mC (.int 4)) mNil)))
def q_law_15 : AG.Env → M Fl := mFor (mRng1 (mVar 10)) (tgName 11) b_law_1
def q_law_16 : AG.Env → M Fl := mIf (mNotT (mTruth (mCallN 2 f__law_same (mCons (mCallN 1 f_nested (mCons (mVar 10) mNil)) (mCons (mVar 9) mNil))))) (mRet (mC (.bl false))) mNx
def q_law_17 : AG.Env → M Fl := mSet 12 (mCallN 2 f__law_draw (mCons (mVar 1) (mCons (mC (.int 3)) mNil)))
def q_law_18 : AG.Env → M Fl := mSet 13 (mCallN 2 f__law_told (mCons (mVar 9) (mCons (mLst (mCons (mVar 12) mNil)) mNil)))
def q_law_19 : AG.Env → M Fl := mRet (mOrV (mBin (opIs id) (mVar 13) (mC .non)) (mBin opEq (mBin opIx (mVar 13) (mC (.int 0))) (mCallN 2 f__law_told_bound (mCons (mVar 9) (mCons (mVar 12) mNil)))))
def z_law_18 : AG.Env → M Fl := mSeq q_law_18 q_law_19
def z_law_17 : AG.Env → M Fl := mSeq q_law_17 z_law_18
def z_law_16 : AG.Env → M Fl := mSeq q_law_16 z_law_17
def z_law_15 : AG.Env → M Fl := mSeq q_law_15 z_law_16
def z_law_14 : AG.Env → M Fl := mSeq q_law_14 z_law_15
def z_law_13 : AG.Env → M Fl := mSeq q_law_13 z_law_14
def z_law_12 : AG.Env → M Fl := mSeq q_law_12 z_law_13
def z_law_11 : AG.Env → M Fl := mSeq q_law_11 z_law_12
def z_law_10 : AG.Env → M Fl := mSeq q_law_10 z_law_11
def z_law_9 : AG.Env → M Fl := mSeq q_law_9 z_law_10
def z_law_8 : AG.Env → M Fl := mSeq q_law_8 z_law_9
def z_law_7 : AG.Env → M Fl := mSeq q_law_7 z_law_8
def z_law_6 : AG.Env → M Fl := mSeq q_law_6 z_law_7
def z_law_5 : AG.Env → M Fl := mSeq q_law_5 z_law_6
def z_law_4 : AG.Env → M Fl := mSeq q_law_4 z_law_5
def z_law_3 : AG.Env → M Fl := mSeq q_law_3 z_law_4
def z_law_2 : AG.Env → M Fl := mSeq q_law_2 z_law_3
def z_law_1 : AG.Env → M Fl := mSeq q_law_1 z_law_2
def r_law_1 : AG.Env → M Fl := mSeq q_law_0 z_law_1
def m_law : AG.Env → M Fl := mSeq (mSet 1 (mCallN 1 f__law_stream (mCons (mVar 0) mNil))) (mDropB 0 r_law_1)
def f_law : LOp := mFn 15 m_law
end L_k16
set_option maxHeartbeats 4000000
namespace L_k16
open PySem L2 AG PyProof.Rows
section
variable {P : Program} {w : World} {K : PySem.W.Frag} {mg : Str → Option Value} {base : Heap} {ca : CA}
def top (i : Nat) : Stmt := PySem.Challenge.pw_allgrades_k16_whole_bounded_programs.main.body.getD i (.Pass ⟨0, 0, 0, 0⟩)
abbrev s__law_stream : Stmt := top 25
def N__law_stream : List Str := ["script", "mixed", "cell"]
theorem sc__law_stream : FnScope N__law_stream ["script"] (defScope s__law_stream) := C8.fnScope_by (by decide +kernel)
theorem ok__law_stream (D__law_stream : DefOk K mg "_law_stream" s__law_stream ["script"]) (z_int : mg "int" = none) (z_list : mg "list" = none) : FnM P w K mg base ca 1 "_law_stream" 1 fg__law_stream := fnm_mk D__law_stream sc__law_stream (fun f cdv A outer s H E hr => by
    have nd := sc__law_stream.nd
    have tk := takes_of (X := cxOf (L2.CX P w) P w K mg base N__law_stream "_law_stream" (defScope s__law_stream) f cdv A outer s H E) rfl rfl rfl rfl
    exact mss_cons (ms_set (i := 1) me_int nd) (mss_cons (ms_for (passes_of rfl) rfl (mi_seq (me_var 0)) (pg_name (i := 2) nd rfl (by first | exact Or.inl rfl | exact Or.inr rfl)) (gok_name (i := 2) (vs := [2]) (by decide)) (mss_one (ms_set (i := 1) (me_mod (me_int1 z_int (ma_cons (me_add (me_add (me_mul (me_var 1) me_int) (me_mod (me_int1 z_int (ma_cons (me_var 2) ma_nil)) me_int)) me_int) ma_nil)) me_int) nd))) (mss_one (ms_ret (me_newLst (ma_cons (me_list1 z_list (ma_cons (me_var 0) ma_nil)) (ma_cons me_int (ma_cons me_int (ma_cons (me_var 1) ma_nil)))))))))
theorem ok2__law_stream (F : FnM P w K mg base ca 1 "_law_stream" 1 fg__law_stream) : FnM P w K mg base ca 1 "_law_stream" 1 fStream := fnm_stream F stream_gen
abbrev s__law_draw : Stmt := top 26
def N__law_draw : List Str := ["stream", "many", "value"]
theorem sc__law_draw : FnScope N__law_draw ["stream", "many"] (defScope s__law_draw) := C8.fnScope_by (by decide +kernel)
theorem ok__law_draw (D__law_draw : DefOk K mg "_law_draw" s__law_draw ["stream", "many"]) (z_len : mg "len" = none) (z_int : mg "int" = none) (z_abs : mg "abs" = none) : FnM P w K mg base ca 1 "_law_draw" 2 fg__law_draw := fnm_mk D__law_draw sc__law_draw (fun f cdv A outer s H E hr => by
    have nd := sc__law_draw.nd
    have tk := takes_of (X := cxOf (L2.CX P w) P w K mg base N__law_draw "_law_draw" (defScope s__law_draw) f cdv A outer s H E) rfl rfl rfl rfl
    exact mss_cons (ms_if (mw_pt (mw_and (mt_eq hr (me_ix (me_var 0) me_int (fun _ _ => rfl)) me_int) (mw_and1 (mt_lt hr (me_ix (me_var 0) me_int (fun _ _ => rfl)) (me_len z_len (ma_cons (me_ix (me_var 0) me_int (fun _ _ => rfl)) ma_nil)))))) (mss_cons (ms_setIx (me_abs z_abs (ma_cons (me_int1 z_int (ma_cons (me_ix (me_ix (me_var 0) me_int (fun _ _ => rfl)) (me_ix (me_var 0) me_int (fun _ _ => rfl)) (fun _ _ => rfl)) ma_nil)) ma_nil)) (me_var 0) me_int) (mss_one (ms_setIx (me_add (me_ix (me_var 0) me_int (fun _ _ => rfl)) me_int) (me_var 0) me_int))) mss_nil) (mss_cons (ms_if (mt_eq hr (me_ix (me_var 0) me_int (fun _ _ => rfl)) me_int) (mss_cons (ms_setIx (me_mod (me_int1 z_int (ma_cons (me_add (me_mul (me_ix (me_var 0) me_int (fun _ _ => rfl)) me_int) me_int) ma_nil)) me_int) (me_var 0) me_int) (mss_one (ms_ret (me_mod (me_int1 z_int (ma_cons (me_div (me_ix (me_var 0) me_int (fun _ _ => rfl)) me_int) ma_nil)) (me_var 1))))) mss_nil) (mss_cons (ms_set (i := 2) (me_mod (me_int1 z_int (ma_cons (me_ix (me_var 0) me_int (fun _ _ => rfl)) ma_nil)) (me_var 1)) nd) (mss_cons (ms_setIx (me_div (me_ix (me_var 0) me_int (fun _ _ => rfl)) (me_var 1)) (me_var 0) me_int) (mss_one (ms_ret (me_var 2)))))))
theorem ok2__law_draw (F : FnM P w K mg base ca 1 "_law_draw" 2 fg__law_draw) : FnM P w K mg base ca 1 "_law_draw" 2 fDraw := fnm_draw F draw_gen
abbrev s__law_program : Stmt := top 28
def N__law_program : List Str := ["stream", "deep", "found", "k", "pick", "i"]
theorem sc__law_program : FnScope N__law_program ["stream", "deep"] (defScope s__law_program) := C8.fnScope_by (by decide +kernel)
theorem st__law_program (D__law_program : DefOk K mg "_law_program" s__law_program ["stream", "deep"]) (z_range : mg "range" = none) (z_tuple : mg "tuple" = none) (F__law_draw : FnM P w K mg base ca 1 "_law_draw" 2 f__law_draw) (k : Nat) (self__law_program : LOp) (F__law_program : FnM P w K mg base ca k "_law_program" 2 self__law_program) (hk : 1 ≤ k) : FnM P w K mg base ca (k + 1) "_law_program" 2 (mFn 6 (m__law_program self__law_program)) := fnm_mk D__law_program sc__law_program (fun f cdv A outer s H E hr => by
    have nd := sc__law_program.nd
    have tk := takes_of (X := cxOf (L2.CX P w) P w K mg base N__law_program "_law_program" (defScope s__law_program) f cdv A outer s H E) rfl rfl rfl rfl
    exact mss_cons (ms_setOwn (i := 2) (mf_lst ma_nil) nd) (mss_cons (ms_for (passes_of rfl) rfl (mi_rng1 z_range (me_call F__law_draw (hr.mono (Nat.le_trans (by decide) hk)) tk (ma_cons (me_var 0) (ma_cons me_int ma_nil)))) (pg_name (i := 3) nd rfl (by first | exact Or.inl rfl | exact Or.inr rfl)) (gok_name (i := 3) (vs := [3]) (by decide)) (mss_cons (ms_set (i := 4) (me_call F__law_draw (hr.mono (Nat.le_trans (by decide) hk)) tk (ma_cons (me_var 0) (ma_cons me_int ma_nil))) nd) (mss_cons (ms_set (i := 5) (me_call F__law_draw (hr.mono (Nat.le_trans (by decide) hk)) tk (ma_cons (me_var 0) (ma_cons me_int ma_nil))) nd) (mss_one (ms_if (mt_eq hr (me_var 4) me_int) (mss_one (ms_own PySem.F.slot_list_append PySem.F.type_list_append mt_append om_append 2 (me_tup (ma_cons me_str (ma_cons (me_var 5) ma_nil))))) (mss_one (ms_if (mw_pt (mw_or (mt_lt hr (me_var 4) me_int) (mw_or1 (mt_eq hr (me_var 1) me_int)))) (mss_one (ms_own PySem.F.slot_list_append PySem.F.type_list_append mt_append om_append 2 (me_if (mt_eq hr (me_var 4) me_int) (me_tup (ma_cons me_str (ma_cons (me_var 5) ma_nil))) (me_tup (ma_cons me_str (ma_cons (me_var 5) (ma_cons (me_call F__law_draw (hr.mono (Nat.le_trans (by decide) hk)) tk (ma_cons (me_var 0) (ma_cons me_int ma_nil))) ma_nil))))))) (mss_one (ms_own PySem.F.slot_list_append PySem.F.type_list_append mt_append om_append 2 (me_tup (ma_cons me_str (ma_cons (me_var 5) (ma_cons (me_call F__law_program hr tk (ma_cons (me_var 0) (ma_cons (me_sub (me_var 1) me_int) ma_nil))) ma_nil))))))))))))) (mss_one (ms_frz 2 (ms_ret (me_tuple1 z_tuple (ma_cons (me_var 2) ma_nil)))))))
theorem ok__law_program (D__law_program : DefOk K mg "_law_program" s__law_program ["stream", "deep"]) (z_range : mg "range" = none) (z_tuple : mg "tuple" = none) (F__law_draw : FnM P w K mg base ca 1 "_law_draw" 2 f__law_draw) : FnM P w K mg base ca 71 "_law_program" 2 f__law_program := (fnm_rec (lv := 1) D__law_program (fun k a hk G0 => st__law_program D__law_program z_range z_tuple F__law_draw k a G0 hk) 70)
abbrev s__law_run : Stmt := top 29
def N__law_run : List Str := ["program", "places", "world", "step", "k"]
theorem sc__law_run : FnScope N__law_run ["program", "places", "world"] (defScope s__law_run) := C8.fnScope_by (by decide +kernel)
theorem st__law_run (D__law_run : DefOk K mg "_law_run" s__law_run ["program", "places", "world"]) (z_range : mg "range" = none) (k : Nat) (self__law_run : LOp) (F__law_run : FnM P w K mg base ca k "_law_run" 3 self__law_run) (hk : 0 ≤ k) : FnM P w K mg base ca (k + 1) "_law_run" 3 (mFn 5 (m__law_run self__law_run)) := fnm_mk D__law_run sc__law_run (fun f cdv A outer s H E hr => by
    have nd := sc__law_run.nd
    have tk := takes_of (X := cxOf (L2.CX P w) P w K mg base N__law_run "_law_run" (defScope s__law_run) f cdv A outer s H E) rfl rfl rfl rfl
    exact mss_one (ms_for (passes_of rfl) rfl (mi_seq (me_var 0)) (pg_name (i := 3) nd rfl (by first | exact Or.inl rfl | exact Or.inr rfl)) (gok_name (i := 3) (vs := [3]) (by decide)) (mss_cons (ms_setK hr (me_add (me_getK hr (me_var 2) me_str (fun _ _ => rfl)) me_int) (me_var 2) me_str) (mss_cons (ms_if (mt_gt hr (me_getK hr (me_var 2) me_str (fun _ _ => rfl)) me_int) (mss_one ms_retN) mss_nil) (mss_one (ms_if (mt_eq hr (me_ix (me_var 3) me_int (fun _ _ => rfl)) me_str) (mss_one (ms_setIx me_int (me_var 1) (me_ix (me_var 3) me_int (fun _ _ => rfl)))) (mss_one (ms_if (mt_eq hr (me_ix (me_var 3) me_int (fun _ _ => rfl)) me_str) (mss_one (ms_setIx (me_add (me_ix (me_var 1) (me_ix (me_var 3) me_int (fun _ _ => rfl)) (fun _ _ => rfl)) me_int) (me_var 1) (me_ix (me_var 3) me_int (fun _ _ => rfl)))) (mss_one (ms_if (mt_eq hr (me_ix (me_var 3) me_int (fun _ _ => rfl)) me_str) (mss_one (ms_setIx (me_ix (me_var 1) (me_ix (me_var 3) me_int (fun _ _ => rfl)) (fun _ _ => rfl)) (me_var 1) (me_ix (me_var 3) me_int (fun _ _ => rfl)))) (mss_one (ms_for (passes_of rfl) rfl (mi_rng1 z_range (me_ix (me_var 1) (me_ix (me_var 3) me_int (fun _ _ => rfl)) (fun _ _ => rfl))) (pg_name (i := 4) nd rfl (by first | exact Or.inl rfl | exact Or.inr rfl)) (gok_name (i := 4) (vs := [4]) (by decide)) (mss_one (ms_if (mt_le hr (me_getK hr (me_var 2) me_str (fun _ _ => rfl)) me_int) (mss_one (ms_expr (me_call F__law_run hr tk (ma_cons (me_ix (me_var 3) me_int (fun _ _ => rfl)) (ma_cons (me_var 1) (ma_cons (me_var 2) ma_nil)))))) mss_nil))))))))))))))
theorem ok__law_run (D__law_run : DefOk K mg "_law_run" s__law_run ["program", "places", "world"]) (z_range : mg "range" = none) : FnM P w K mg base ca 70 "_law_run" 3 f__law_run := (fnm_rec (lv := 0) D__law_run (fun k a hk G0 => st__law_run D__law_run z_range k a G0 hk) 70)
abbrev s_Runner___init__ : Stmt := inClass (top 15) 0
def N_Runner___init__ : List Str := ["self", "places"]
theorem sc_Runner___init__ : FnScope N_Runner___init__ ["self", "places"] (defScope s_Runner___init__) := C8.fnScope_by (by decide +kernel)
theorem ok_Runner___init__ (D_Runner___init__ : MthD K ca 2 "__init__" "Runner.__init__" s_Runner___init__ ["self", "places"]) (z_list : mg "list" = none) (z_len : mg "len" = none) (g_MOST_NAMES : GC K mg "MOST_NAMES" c_MOST_NAMES) (k_Runner : CK K ca 2 fl_Runner) : MthM P w K mg base ca 1 2 "__init__" 2 f_Runner___init__ := mthm_mk D_Runner___init__ sc_Runner___init__ (fun f cdv A outer s H E hr => by
    have nd := sc_Runner___init__.nd
    have tk := takes_of (X := cxOf (L2.CX P w) P w K mg base N_Runner___init__ "Runner.__init__" (defScope s_Runner___init__) f cdv A outer s H E) rfl rfl rfl rfl
    exact mss_cons (ms_setFld k_Runner (me_var 0) (me_newL (mf_add (me_list1 z_list (ma_cons (me_var 1) ma_nil)) (me_mul (me_lst (ma_cons me_int ma_nil)) (me_sub (me_glob g_MOST_NAMES) (me_len z_len (ma_cons (me_var 1) ma_nil))))))) (mss_one (ms_setFld k_Runner (me_var 0) me_int)))
abbrev s_Runner_do : Stmt := inClass (top 15) 1
def N_Runner_do : List Str := ["self", "program", "step", "_"]
theorem sc_Runner_do : FnScope N_Runner_do ["self", "program"] (defScope s_Runner_do) := C8.fnScope_by (by decide +kernel)
theorem st_Runner_do (D_Runner_do : MthD K ca 2 "do" "Runner.do" s_Runner_do ["self", "program"]) (z_range : mg "range" = none) (g_WORK : GC K mg "WORK" c_WORK) (e_Above : EC K mg ca 1 "Above") (k_Runner : CK K ca 2 fl_Runner) (k : Nat) (self_Runner_do : LOp) (F_Runner_do : MthM P w K mg base ca k 2 "do" 2 self_Runner_do) (hk : 0 ≤ k) : MthM P w K mg base ca (k + 1) 2 "do" 2 (mFn 4 (m_Runner_do self_Runner_do)) := mthm_mk D_Runner_do sc_Runner_do (fun f cdv A outer s H E hr => by
    have nd := sc_Runner_do.nd
    have tk := takes_of (X := cxOf (L2.CX P w) P w K mg base N_Runner_do "Runner.do" (defScope s_Runner_do) f cdv A outer s H E) rfl rfl rfl rfl
    exact mss_one (ms_for (passes_of rfl) rfl (mi_seq (me_var 1)) (pg_name (i := 2) nd rfl (by first | exact Or.inl rfl | exact Or.inr rfl)) (gok_name (i := 2) (vs := [2]) (by decide)) (mss_cons (ms_augFld k_Runner iop_add (opm_int fun _ _ _ _ => .int _) (me_var 0) me_int) (mss_cons (ms_if (mt_gt hr (me_fld k_Runner (me_var 0)) (me_glob g_WORK)) (mss_one (ms_raise e_Above rfl tk)) mss_nil) (mss_one (ms_if (mt_eq hr (me_ix (me_var 2) me_int (fun _ _ => rfl)) me_str) (mss_one (ms_setIx me_int (me_fld k_Runner (me_var 0)) (me_ix (me_var 2) me_int (fun _ _ => rfl)))) (mss_one (ms_if (mt_eq hr (me_ix (me_var 2) me_int (fun _ _ => rfl)) me_str) (mss_one (ms_augIx iop_add (opm_int fun _ _ _ _ => .int _) (me_fld k_Runner (me_var 0)) (me_ix (me_var 2) me_int (fun _ _ => rfl)) me_int)) (mss_one (ms_if (mt_eq hr (me_ix (me_var 2) me_int (fun _ _ => rfl)) me_str) (mss_one (ms_setIx (me_ix (me_fld k_Runner (me_var 0)) (me_ix (me_var 2) me_int (fun _ _ => rfl)) (fun _ _ => rfl)) (me_fld k_Runner (me_var 0)) (me_ix (me_var 2) me_int (fun _ _ => rfl)))) (mss_one (ms_if (mt_truth (me_ix (me_var 2) me_int (fun _ _ => rfl))) (mss_one (ms_for (passes_of rfl) rfl (mi_rng1 z_range (me_ix (me_fld k_Runner (me_var 0)) (me_ix (me_var 2) me_int (fun _ _ => rfl)) (fun _ _ => rfl))) (pg_name (i := 3) nd rfl (by first | exact Or.inl rfl | exact Or.inr rfl)) (gok_name (i := 3) (vs := [3]) (by decide)) (mss_one (ms_expr (me_meth k_Runner F_Runner_do hr tk (me_var 0) (ma_cons (me_ix (me_var 2) me_int (fun _ _ => rfl)) ma_nil)))))) mss_nil))))))))))))
theorem ok_Runner_do (D_Runner_do : MthD K ca 2 "do" "Runner.do" s_Runner_do ["self", "program"]) (z_range : mg "range" = none) (g_WORK : GC K mg "WORK" c_WORK) (e_Above : EC K mg ca 1 "Above") (k_Runner : CK K ca 2 fl_Runner) : MthM P w K mg base ca 70 2 "do" 2 f_Runner_do := (mthm_rec (lv := 0) D_Runner_do (fun k a hk G0 => st_Runner_do D_Runner_do z_range g_WORK e_Above k_Runner k a G0 hk) 70)
abbrev s_run : Stmt := top 16
def N_run : List Str := ["program", "places", "runner"]
theorem sc_run : FnScope N_run ["program", "places"] (defScope s_run) := C8.fnScope_by (by decide +kernel)
theorem ok_run (D_run : DefOk K mg "run" s_run ["program", "places"]) (z_tuple : mg "tuple" = none) (k_Runner : CK K ca 2 fl_Runner) (mk_Runner : CMk K mg ca 2 "Runner") (F_Runner___init__ : MthM P w K mg base ca 1 2 "__init__" 2 f_Runner___init__) (F_Runner_do : MthM P w K mg base ca 70 2 "do" 2 f_Runner_do) : FnM P w K mg base ca 71 "run" 2 f_run := fnm_mk D_run sc_run (fun f cdv A outer s H E hr => by
    have nd := sc_run.nd
    have tk := takes_of (X := cxOf (L2.CX P w) P w K mg base N_run "run" (defScope s_run) f cdv A outer s H E) rfl rfl rfl rfl
    exact mss_cons (ms_set (i := 2) (me_make mk_Runner F_Runner___init__ (hr.mono (by decide)) tk (ma_cons (me_var 1) ma_nil)) nd) (mss_cons (ms_expr (me_meth k_Runner F_Runner_do (hr.mono (by decide)) tk (me_var 2) (ma_cons (me_var 0) ma_nil))) (mss_one (ms_ret (me_tupR z_tuple (ma_cons (me_fld k_Runner (me_var 2)) ma_nil))))))
abbrev s__law_told : Stmt := top 32
def N__law_told : List Str := ["program", "places"]
theorem sc__law_told : FnScope N__law_told ["program", "places"] (defScope s__law_told) := C8.fnScope_by (by decide +kernel)
theorem ok__law_told (D__law_told : DefOk K mg "_law_told" s__law_told ["program", "places"]) (e_Above : EC K mg ca 1 "Above") (m_of_Above : EM K ca 1 s_of_Above) (F_run : FnM P w K mg base ca 71 "run" 2 f_run) : FnM P w K mg base ca 72 "_law_told" 2 f__law_told := fnm_mk D__law_told sc__law_told (fun f cdv A outer s H E hr => by
    have nd := sc__law_told.nd
    have tk := takes_of (X := cxOf (L2.CX P w) P w K mg base N__law_told "_law_told" (defScope s__law_told) f cdv A outer s H E) rfl rfl rfl rfl
    exact mss_one (ms_try e_Above m_of_Above rfl rfl tk (fun W1 pn1 xe1 tk1 po1 => mss_one (ms_ret (me_call F_run (hr.mono (by decide)) tk1 (ma_cons (me_var 0) (ma_cons (me_var 1) ma_nil))))) (fun a1 oe1 pm1 => mss_one (ms_ret me_non))))
abbrev s_checked : Stmt := top 21
def N_checked : List Str := ["n"]
theorem sc_checked : FnScope N_checked ["n"] (defScope s_checked) := C8.fnScope_by (by decide +kernel)
theorem ok_checked (D_checked : DefOk K mg "checked" s_checked ["n"]) (g_MOST_STAGE : GC K mg "MOST_STAGE" c_MOST_STAGE) (e_Above : EC K mg ca 1 "Above") : FnM P w K mg base ca 1 "checked" 1 f_checked := fnm_mk D_checked sc_checked (fun f cdv A outer s H E hr => by
    have nd := sc_checked.nd
    have tk := takes_of (X := cxOf (L2.CX P w) P w K mg base N_checked "checked" (defScope s_checked) f cdv A outer s H E) rfl rfl rfl rfl
    exact mss_cons (ms_if (mt_ge hr (me_var 0) (me_glob g_MOST_STAGE)) (mss_one (ms_raise e_Above rfl tk)) mss_nil) (mss_one (ms_ret (me_var 0))))
abbrev s_is_level : Stmt := top 20
def N_is_level : List Str := ["program"]
theorem sc_is_level : FnScope N_is_level ["program"] (defScope s_is_level) := C8.fnScope_by (by decide +kernel)
abbrev s_repeated : Stmt := top 19
def N_repeated : List Str := ["program", "n", "_", "step"]
theorem sc_repeated : FnScope N_repeated ["program", "n"] (defScope s_repeated) := C8.fnScope_by (by decide +kernel)
abbrev s_bound : Stmt := top 18
def N_bound : List Str := ["program", "n", "step"]
theorem sc_bound : FnScope N_bound ["program", "n"] (defScope s_bound) := C8.fnScope_by (by decide +kernel)
theorem st_is_level (D_is_level : DefOk K mg "is_level" s_is_level ["program"]) (z_all : mg "all" = none) (z_range : mg "range" = none) (z_min : mg "min" = none) (g_MOST_STAGE : GC K mg "MOST_STAGE" c_MOST_STAGE) (F_checked : FnM P w K mg base ca 1 "checked" 1 f_checked) (k : Nat) (self_is_level : LOp) (F_is_level : FnM P w K mg base ca k "is_level" 1 self_is_level) (self_repeated : LOp) (F_repeated : FnM P w K mg base ca k "repeated" 2 self_repeated) (self_bound : LOp) (F_bound : FnM P w K mg base ca k "bound" 2 self_bound) (hk : 1 ≤ k) : FnM P w K mg base ca (k + 1) "is_level" 1 (mFn 1 (m_is_level self_is_level self_repeated self_bound)) := fnm_mk D_is_level sc_is_level (fun f cdv A outer s H E hr => by
    have nd := sc_is_level.nd
    have tk := takes_of (X := cxOf (L2.CX P w) P w K mg base N_is_level "is_level" (defScope s_is_level) f cdv A outer s H E) rfl rfl rfl rfl
    exact mss_one (ms_ret (me_eq hr (me_call F_bound hr tk (ma_cons (me_var 0) (ma_cons me_int ma_nil))) me_int)))
theorem st_repeated (D_repeated : DefOk K mg "repeated" s_repeated ["program", "n"]) (z_all : mg "all" = none) (z_range : mg "range" = none) (z_min : mg "min" = none) (g_MOST_STAGE : GC K mg "MOST_STAGE" c_MOST_STAGE) (F_checked : FnM P w K mg base ca 1 "checked" 1 f_checked) (k : Nat) (self_is_level : LOp) (F_is_level : FnM P w K mg base ca k "is_level" 1 self_is_level) (self_repeated : LOp) (F_repeated : FnM P w K mg base ca k "repeated" 2 self_repeated) (self_bound : LOp) (F_bound : FnM P w K mg base ca k "bound" 2 self_bound) (hk : 1 ≤ k) : FnM P w K mg base ca (k + 1) "repeated" 2 (mFn 4 (m_repeated self_is_level self_repeated self_bound)) := fnm_mk D_repeated sc_repeated (fun f cdv A outer s H E hr => by
    have nd := sc_repeated.nd
    have tk := takes_of (X := cxOf (L2.CX P w) P w K mg base N_repeated "repeated" (defScope s_repeated) f cdv A outer s H E) rfl rfl rfl rfl
    exact mss_cons (ms_if (mt_truth (me_call F_is_level hr tk (ma_cons (me_var 0) ma_nil))) (mss_one (ms_ret (me_var 1))) mss_nil) (mss_cons (ms_if (mt_truth (me_all rfl z_all (ma_cons (me_of_mf (mf_lc (own := [("step", 3)]) rfl nd (mi_seq (me_var 0)) (blkOk_by (N := N_repeated) (sc := defScope s_repeated) (own := [("step", 3)]) (by decide +kernel)) (gok_name (i := 3) (vs := [3]) (by decide)) (fun _ _ _ _ _ => pg_name (i := 3) nd rfl (by first | exact Or.inl rfl | exact Or.inr rfl)) (fun _ _ _ _ _ => mts_nil) (fun _ _ _ _ _ => me_or (me_ne hr (me_ix (me_var 3) me_int (fun _ _ => rfl)) me_str) (me_one (me_call F_is_level hr takes0 (ma_cons (me_ix (me_var 3) me_int (fun _ _ => rfl)) ma_nil)))))) ma_nil))) (mss_one (ms_ret (me_call F_checked (hr.mono (Nat.le_trans (by decide) hk)) tk (ma_cons (me_add (me_var 1) (me_mul (me_var 1) (me_sub (me_call F_bound hr tk (ma_cons (me_var 0) (ma_cons (me_var 1) ma_nil))) (me_var 1)))) ma_nil)))) mss_nil) (mss_cons (ms_for (passes_of rfl) rfl (mi_rng1 z_range (me_minA hr rfl z_min (ma_cons (me_var 1) (ma_cons (me_glob g_MOST_STAGE) ma_nil)))) (pg_name (i := 2) nd rfl (by first | exact Or.inl rfl | exact Or.inr rfl)) (gok_name (i := 2) (vs := [2]) (by decide)) (mss_one (ms_set (i := 1) (me_call F_bound hr tk (ma_cons (me_var 0) (ma_cons (me_var 1) ma_nil))) nd))) (mss_one (ms_ret (me_var 1))))))
theorem st_bound (D_bound : DefOk K mg "bound" s_bound ["program", "n"]) (z_all : mg "all" = none) (z_range : mg "range" = none) (z_min : mg "min" = none) (g_MOST_STAGE : GC K mg "MOST_STAGE" c_MOST_STAGE) (F_checked : FnM P w K mg base ca 1 "checked" 1 f_checked) (k : Nat) (self_is_level : LOp) (F_is_level : FnM P w K mg base ca k "is_level" 1 self_is_level) (self_repeated : LOp) (F_repeated : FnM P w K mg base ca k "repeated" 2 self_repeated) (self_bound : LOp) (F_bound : FnM P w K mg base ca k "bound" 2 self_bound) (hk : 1 ≤ k) : FnM P w K mg base ca (k + 1) "bound" 2 (mFn 3 (m_bound self_is_level self_repeated self_bound)) := fnm_mk D_bound sc_bound (fun f cdv A outer s H E hr => by
    have nd := sc_bound.nd
    have tk := takes_of (X := cxOf (L2.CX P w) P w K mg base N_bound "bound" (defScope s_bound) f cdv A outer s H E) rfl rfl rfl rfl
    exact mss_cons (ms_for (passes_of rfl) rfl (mi_seq (me_var 0)) (pg_name (i := 2) nd rfl (by first | exact Or.inl rfl | exact Or.inr rfl)) (gok_name (i := 2) (vs := [2]) (by decide)) (mss_one (ms_if (mt_eq hr (me_ix (me_var 2) me_int (fun _ _ => rfl)) me_str) (mss_one (ms_set (i := 1) (me_call F_checked (hr.mono (Nat.le_trans (by decide) hk)) tk (ma_cons (me_add (me_var 1) me_int) ma_nil)) nd)) (mss_one (ms_if (mt_eq hr (me_ix (me_var 2) me_int (fun _ _ => rfl)) me_str) (mss_one (ms_set (i := 1) (me_call F_repeated hr tk (ma_cons (me_ix (me_var 2) me_int (fun _ _ => rfl)) (ma_cons (me_var 1) ma_nil))) nd)) mss_nil))))) (mss_one (ms_ret (me_var 1))))
theorem ok_is_level (D_is_level : DefOk K mg "is_level" s_is_level ["program"]) (D_repeated : DefOk K mg "repeated" s_repeated ["program", "n"]) (D_bound : DefOk K mg "bound" s_bound ["program", "n"]) (z_all : mg "all" = none) (z_range : mg "range" = none) (z_min : mg "min" = none) (g_MOST_STAGE : GC K mg "MOST_STAGE" c_MOST_STAGE) (F_checked : FnM P w K mg base ca 1 "checked" 1 f_checked) : FnM P w K mg base ca 71 "is_level" 1 f_is_level := (fnm_recP3 (lv := 1) D_is_level D_repeated D_bound (fun k a b c hk G0 G1 G2 => st_is_level D_is_level z_all z_range z_min g_MOST_STAGE F_checked k a G0 b G1 c G2 hk) (fun k a b c hk G0 G1 G2 => st_repeated D_repeated z_all z_range z_min g_MOST_STAGE F_checked k a G0 b G1 c G2 hk) (fun k a b c hk G0 G1 G2 => st_bound D_bound z_all z_range z_min g_MOST_STAGE F_checked k a G0 b G1 c G2 hk) 70).1
theorem ok_repeated (D_is_level : DefOk K mg "is_level" s_is_level ["program"]) (D_repeated : DefOk K mg "repeated" s_repeated ["program", "n"]) (D_bound : DefOk K mg "bound" s_bound ["program", "n"]) (z_all : mg "all" = none) (z_range : mg "range" = none) (z_min : mg "min" = none) (g_MOST_STAGE : GC K mg "MOST_STAGE" c_MOST_STAGE) (F_checked : FnM P w K mg base ca 1 "checked" 1 f_checked) : FnM P w K mg base ca 71 "repeated" 2 f_repeated := (fnm_recP3 (lv := 1) D_is_level D_repeated D_bound (fun k a b c hk G0 G1 G2 => st_is_level D_is_level z_all z_range z_min g_MOST_STAGE F_checked k a G0 b G1 c G2 hk) (fun k a b c hk G0 G1 G2 => st_repeated D_repeated z_all z_range z_min g_MOST_STAGE F_checked k a G0 b G1 c G2 hk) (fun k a b c hk G0 G1 G2 => st_bound D_bound z_all z_range z_min g_MOST_STAGE F_checked k a G0 b G1 c G2 hk) 70).2.1
theorem ok_bound (D_is_level : DefOk K mg "is_level" s_is_level ["program"]) (D_repeated : DefOk K mg "repeated" s_repeated ["program", "n"]) (D_bound : DefOk K mg "bound" s_bound ["program", "n"]) (z_all : mg "all" = none) (z_range : mg "range" = none) (z_min : mg "min" = none) (g_MOST_STAGE : GC K mg "MOST_STAGE" c_MOST_STAGE) (F_checked : FnM P w K mg base ca 1 "checked" 1 f_checked) : FnM P w K mg base ca 71 "bound" 2 f_bound := (fnm_recP3 (lv := 1) D_is_level D_repeated D_bound (fun k a b c hk G0 G1 G2 => st_is_level D_is_level z_all z_range z_min g_MOST_STAGE F_checked k a G0 b G1 c G2 hk) (fun k a b c hk G0 G1 G2 => st_repeated D_repeated z_all z_range z_min g_MOST_STAGE F_checked k a G0 b G1 c G2 hk) (fun k a b c hk G0 G1 G2 => st_bound D_bound z_all z_range z_min g_MOST_STAGE F_checked k a G0 b G1 c G2 hk) 70).2.2
abbrev s__law_told_bound : Stmt := top 33
def N__law_told_bound : List Str := ["program", "n"]
theorem sc__law_told_bound : FnScope N__law_told_bound ["program", "n"] (defScope s__law_told_bound) := C8.fnScope_by (by decide +kernel)
theorem ok__law_told_bound (D__law_told_bound : DefOk K mg "_law_told_bound" s__law_told_bound ["program", "n"]) (e_Above : EC K mg ca 1 "Above") (m_of_Above : EM K ca 1 s_of_Above) (F_bound : FnM P w K mg base ca 71 "bound" 2 f_bound) : FnM P w K mg base ca 72 "_law_told_bound" 2 f__law_told_bound := fnm_mk D__law_told_bound sc__law_told_bound (fun f cdv A outer s H E hr => by
    have nd := sc__law_told_bound.nd
    have tk := takes_of (X := cxOf (L2.CX P w) P w K mg base N__law_told_bound "_law_told_bound" (defScope s__law_told_bound) f cdv A outer s H E) rfl rfl rfl rfl
    exact mss_one (ms_try e_Above m_of_Above rfl rfl tk (fun W1 pn1 xe1 tk1 po1 => mss_one (ms_ret (me_call F_bound (hr.mono (by decide)) tk1 (ma_cons (me_var 0) (ma_cons (me_var 1) ma_nil))))) (fun a1 oe1 pm1 => mss_one (ms_ret me_non))))
abbrev s__law_same : Stmt := top 27
def N__law_same : List Str := ["one", "two", "k"]
theorem sc__law_same : FnScope N__law_same ["one", "two"] (defScope s__law_same) := C8.fnScope_by (by decide +kernel)
theorem st__law_same (D__law_same : DefOk K mg "_law_same" s__law_same ["one", "two"]) (z_isinstance : mg "isinstance" = none) (z_tuple : mg "tuple" = none) (z_list : mg "list" = none) (z_len : mg "len" = none) (z_range : mg "range" = none) (z_all : mg "all" = none) (z_bool : mg "bool" = none) (k : Nat) (self__law_same : LOp) (F__law_same : FnM P w K mg base ca k "_law_same" 2 self__law_same) (hk : 0 ≤ k) : FnM P w K mg base ca (k + 1) "_law_same" 2 (mFn 3 (m__law_same self__law_same)) := fnm_mk D__law_same sc__law_same (fun f cdv A outer s H E hr => by
    have nd := sc__law_same.nd
    have tk := takes_of (X := cxOf (L2.CX P w) P w K mg base N__law_same "_law_same" (defScope s__law_same) f cdv A outer s H E) rfl rfl rfl rfl
    exact mss_cons (ms_if (mw_pt (mw_or (mw_pt (mw_and (mt_truth (me_isi_tuple z_isinstance z_tuple (me_var 0))) (mw_and1 (mt_truth (me_isi_tuple z_isinstance z_tuple (me_var 1)))))) (mw_or1 (mw_pt (mw_and (mt_truth (me_isi_list z_isinstance z_list (me_var 0))) (mw_and1 (mt_truth (me_isi_list z_isinstance z_list (me_var 1))))))))) (mss_one (ms_ret (me_and (me_eq hr (me_len z_len (ma_cons (me_var 0) ma_nil)) (me_len z_len (ma_cons (me_var 1) ma_nil))) (me_one (me_all rfl z_all (ma_cons (me_of_mf (mf_lc (own := [("k", 2)]) rfl nd (mi_rng1 z_range (me_len z_len (ma_cons (me_var 0) ma_nil))) (blkOk_by (N := N__law_same) (sc := defScope s__law_same) (own := [("k", 2)]) (by decide +kernel)) (gok_name (i := 2) (vs := [2]) (by decide)) (fun _ _ _ _ _ => pg_name (i := 2) nd rfl (by first | exact Or.inl rfl | exact Or.inr rfl)) (fun _ _ _ _ _ => mts_nil) (fun _ _ _ _ _ => me_call F__law_same hr takes0 (ma_cons (me_ix (me_var 0) (me_var 2) (fun _ _ => rfl)) (ma_cons (me_ix (me_var 1) (me_var 2) (fun _ _ => rfl)) ma_nil))))) ma_nil)))))) mss_nil) (mss_cons (ms_if (mw_pt (mw_or (mt_truth (me_isi_tuple z_isinstance z_tuple (me_var 0))) (mw_or (mt_truth (me_isi_tuple z_isinstance z_tuple (me_var 1))) (mw_or (mt_truth (me_isi_list z_isinstance z_list (me_var 0))) (mw_or1 (mt_truth (me_isi_list z_isinstance z_list (me_var 1)))))))) (mss_one (ms_ret me_bl)) mss_nil) (mss_one (ms_ret (me_and (me_eq hr (me_var 0) (me_var 1)) (me_one (me_eq hr (me_isi_bool z_isinstance z_bool (me_var 0)) (me_isi_bool z_isinstance z_bool (me_var 1)))))))))
theorem ok__law_same (D__law_same : DefOk K mg "_law_same" s__law_same ["one", "two"]) (z_isinstance : mg "isinstance" = none) (z_tuple : mg "tuple" = none) (z_list : mg "list" = none) (z_len : mg "len" = none) (z_range : mg "range" = none) (z_all : mg "all" = none) (z_bool : mg "bool" = none) : FnM P w K mg base ca 70 "_law_same" 2 f__law_same := (fnm_rec (lv := 0) D__law_same (fun k a hk G0 => st__law_same D__law_same z_isinstance z_tuple z_list z_len z_range z_all z_bool k a G0 hk) 70)
abbrev s_is_number : Stmt := top 4
def N_is_number : List Str := ["value"]
theorem sc_is_number : FnScope N_is_number ["value"] (defScope s_is_number) := C8.fnScope_by (by decide +kernel)
theorem ok_is_number (D_is_number : DefOk K mg "is_number" s_is_number ["value"]) (z_isinstance : mg "isinstance" = none) (z_int : mg "int" = none) (z_bool : mg "bool" = none) : FnM P w K mg base ca 1 "is_number" 1 f_is_number := fnm_mk D_is_number sc_is_number (fun f cdv A outer s H E hr => by
    have nd := sc_is_number.nd
    have tk := takes_of (X := cxOf (L2.CX P w) P w K mg base N_is_number "is_number" (defScope s_is_number) f cdv A outer s H E) rfl rfl rfl rfl
    exact mss_one (ms_ret (me_and (me_isi_int z_isinstance z_int (me_var 0)) (me_and (me_not (me_isi_bool z_isinstance z_bool (me_var 0))) (me_one (me_ge hr (me_var 0) me_int))))))
abbrev s_is_place : Stmt := top 13
def N_is_place : List Str := ["value"]
theorem sc_is_place : FnScope N_is_place ["value"] (defScope s_is_place) := C8.fnScope_by (by decide +kernel)
theorem ok_is_place (D_is_place : DefOk K mg "is_place" s_is_place ["value"]) (g_MOST_NAMES : GC K mg "MOST_NAMES" c_MOST_NAMES) (F_is_number : FnM P w K mg base ca 1 "is_number" 1 f_is_number) : FnM P w K mg base ca 2 "is_place" 1 f_is_place := fnm_mk D_is_place sc_is_place (fun f cdv A outer s H E hr => by
    have nd := sc_is_place.nd
    have tk := takes_of (X := cxOf (L2.CX P w) P w K mg base N_is_place "is_place" (defScope s_is_place) f cdv A outer s H E) rfl rfl rfl rfl
    exact mss_one (ms_ret (me_and (me_call F_is_number (hr.mono (by decide)) tk (ma_cons (me_var 0) ma_nil)) (me_one (me_lt hr (me_var 0) (me_glob g_MOST_NAMES))))))
abbrev s_is_step : Stmt := top 14
def N_is_step : List Str := ["value", "deep"]
theorem sc_is_step : FnScope N_is_step ["value", "deep"] (defScope s_is_step) := C8.fnScope_by (by decide +kernel)
abbrev s_is_program_at : Stmt := top 11
def N_is_program_at : List Str := ["value", "deep", "step"]
theorem sc_is_program_at : FnScope N_is_program_at ["value", "deep"] (defScope s_is_program_at) := C8.fnScope_by (by decide +kernel)
theorem st_is_step (D_is_step : DefOk K mg "is_step" s_is_step ["value", "deep"]) (z_isinstance : mg "isinstance" = none) (z_tuple : mg "tuple" = none) (z_len : mg "len" = none) (z_str : mg "str" = none) (z_all : mg "all" = none) (g_MOST_STEPS : GC K mg "MOST_STEPS" c_MOST_STEPS) (F_is_place : FnM P w K mg base ca 2 "is_place" 1 f_is_place) (k : Nat) (self_is_step : LOp) (F_is_step : FnM P w K mg base ca k "is_step" 2 self_is_step) (self_is_program_at : LOp) (F_is_program_at : FnM P w K mg base ca k "is_program_at" 2 self_is_program_at) (hk : 2 ≤ k) : FnM P w K mg base ca (k + 1) "is_step" 2 (mFn 2 (m_is_step self_is_step self_is_program_at)) := fnm_mk D_is_step sc_is_step (fun f cdv A outer s H E hr => by
    have nd := sc_is_step.nd
    have tk := takes_of (X := cxOf (L2.CX P w) P w K mg base N_is_step "is_step" (defScope s_is_step) f cdv A outer s H E) rfl rfl rfl rfl
    exact mss_cons (ms_if (mw_pt (mw_or (mt_not (mt_truth (me_isi_tuple z_isinstance z_tuple (me_var 0)))) (mw_or (mt_lt hr (me_len z_len (ma_cons (me_var 0) ma_nil)) me_int) (mw_or (mt_not (mt_truth (me_isi_str z_isinstance z_str (me_ix (me_var 0) me_int (fun _ _ => rfl))))) (mw_or1 (mt_not (mt_truth (me_call F_is_place (hr.mono (Nat.le_trans (by decide) hk)) tk (ma_cons (me_ix (me_var 0) me_int (fun _ _ => rfl)) ma_nil))))))))) (mss_one (ms_ret me_bl)) mss_nil) (mss_cons (ms_if (mt_in hr (me_ix (me_var 0) me_int (fun _ _ => rfl)) (me_tup (ma_cons me_str (ma_cons me_str ma_nil)))) (mss_one (ms_ret (me_eq hr (me_len z_len (ma_cons (me_var 0) ma_nil)) me_int))) mss_nil) (mss_cons (ms_if (mt_eq hr (me_ix (me_var 0) me_int (fun _ _ => rfl)) me_str) (mss_one (ms_ret (me_and (me_eq hr (me_len z_len (ma_cons (me_var 0) ma_nil)) me_int) (me_one (me_call F_is_place (hr.mono (Nat.le_trans (by decide) hk)) tk (ma_cons (me_ix (me_var 0) me_int (fun _ _ => rfl)) ma_nil)))))) mss_nil) (mss_one (ms_ret (me_and (me_eq hr (me_ix (me_var 0) me_int (fun _ _ => rfl)) me_str) (me_and (me_eq hr (me_len z_len (ma_cons (me_var 0) ma_nil)) me_int) (me_one (me_call F_is_program_at hr tk (ma_cons (me_ix (me_var 0) me_int (fun _ _ => rfl)) (ma_cons (me_sub (me_var 1) me_int) ma_nil)))))))))))
theorem st_is_program_at (D_is_program_at : DefOk K mg "is_program_at" s_is_program_at ["value", "deep"]) (z_isinstance : mg "isinstance" = none) (z_tuple : mg "tuple" = none) (z_len : mg "len" = none) (z_str : mg "str" = none) (z_all : mg "all" = none) (g_MOST_STEPS : GC K mg "MOST_STEPS" c_MOST_STEPS) (F_is_place : FnM P w K mg base ca 2 "is_place" 1 f_is_place) (k : Nat) (self_is_step : LOp) (F_is_step : FnM P w K mg base ca k "is_step" 2 self_is_step) (self_is_program_at : LOp) (F_is_program_at : FnM P w K mg base ca k "is_program_at" 2 self_is_program_at) (hk : 2 ≤ k) : FnM P w K mg base ca (k + 1) "is_program_at" 2 (mFn 3 (m_is_program_at self_is_step self_is_program_at)) := fnm_mk D_is_program_at sc_is_program_at (fun f cdv A outer s H E hr => by
    have nd := sc_is_program_at.nd
    have tk := takes_of (X := cxOf (L2.CX P w) P w K mg base N_is_program_at "is_program_at" (defScope s_is_program_at) f cdv A outer s H E) rfl rfl rfl rfl
    exact mss_cons (ms_if (mw_pt (mw_or (mt_not (mt_truth (me_isi_tuple z_isinstance z_tuple (me_var 0)))) (mw_or (mt_gt hr (me_len z_len (ma_cons (me_var 0) ma_nil)) (me_glob g_MOST_STEPS)) (mw_or1 (mt_eq hr (me_var 1) me_int))))) (mss_one (ms_ret me_bl)) mss_nil) (mss_one (ms_ret (me_all rfl z_all (ma_cons (me_of_mf (mf_lc (own := [("step", 2)]) rfl nd (mi_seq (me_var 0)) (blkOk_by (N := N_is_program_at) (sc := defScope s_is_program_at) (own := [("step", 2)]) (by decide +kernel)) (gok_name (i := 2) (vs := [2]) (by decide)) (fun _ _ _ _ _ => pg_name (i := 2) nd rfl (by first | exact Or.inl rfl | exact Or.inr rfl)) (fun _ _ _ _ _ => mts_nil) (fun _ _ _ _ _ => me_call F_is_step hr takes0 (ma_cons (me_var 2) (ma_cons (me_var 1) ma_nil))))) ma_nil)))))
theorem ok_is_step (D_is_step : DefOk K mg "is_step" s_is_step ["value", "deep"]) (D_is_program_at : DefOk K mg "is_program_at" s_is_program_at ["value", "deep"]) (z_isinstance : mg "isinstance" = none) (z_tuple : mg "tuple" = none) (z_len : mg "len" = none) (z_str : mg "str" = none) (z_all : mg "all" = none) (g_MOST_STEPS : GC K mg "MOST_STEPS" c_MOST_STEPS) (F_is_place : FnM P w K mg base ca 2 "is_place" 1 f_is_place) : FnM P w K mg base ca 72 "is_step" 2 f_is_step := (fnm_recP (lv := 2) D_is_step D_is_program_at (fun k a b hk G0 G1 => st_is_step D_is_step z_isinstance z_tuple z_len z_str z_all g_MOST_STEPS F_is_place k a G0 b G1 hk) (fun k a b hk G0 G1 => st_is_program_at D_is_program_at z_isinstance z_tuple z_len z_str z_all g_MOST_STEPS F_is_place k a G0 b G1 hk) 70).1
theorem ok_is_program_at (D_is_step : DefOk K mg "is_step" s_is_step ["value", "deep"]) (D_is_program_at : DefOk K mg "is_program_at" s_is_program_at ["value", "deep"]) (z_isinstance : mg "isinstance" = none) (z_tuple : mg "tuple" = none) (z_len : mg "len" = none) (z_str : mg "str" = none) (z_all : mg "all" = none) (g_MOST_STEPS : GC K mg "MOST_STEPS" c_MOST_STEPS) (F_is_place : FnM P w K mg base ca 2 "is_place" 1 f_is_place) : FnM P w K mg base ca 72 "is_program_at" 2 f_is_program_at := (fnm_recP (lv := 2) D_is_step D_is_program_at (fun k a b hk G0 G1 => st_is_step D_is_step z_isinstance z_tuple z_len z_str z_all g_MOST_STEPS F_is_place k a G0 b G1 hk) (fun k a b hk G0 G1 => st_is_program_at D_is_program_at z_isinstance z_tuple z_len z_str z_all g_MOST_STEPS F_is_place k a G0 b G1 hk) 70).2
abbrev s_is_program : Stmt := top 12
def N_is_program : List Str := ["value"]
theorem sc_is_program : FnScope N_is_program ["value"] (defScope s_is_program) := C8.fnScope_by (by decide +kernel)
theorem ok_is_program (D_is_program : DefOk K mg "is_program" s_is_program ["value"]) (g_MOST_DEEP : GC K mg "MOST_DEEP" c_MOST_DEEP) (F_is_program_at : FnM P w K mg base ca 72 "is_program_at" 2 f_is_program_at) : FnM P w K mg base ca 73 "is_program" 1 f_is_program := fnm_mk D_is_program sc_is_program (fun f cdv A outer s H E hr => by
    have nd := sc_is_program.nd
    have tk := takes_of (X := cxOf (L2.CX P w) P w K mg base N_is_program "is_program" (defScope s_is_program) f cdv A outer s H E) rfl rfl rfl rfl
    exact mss_one (ms_ret (me_call F_is_program_at (hr.mono (by decide)) tk (ma_cons (me_var 0) (ma_cons (me_glob g_MOST_DEEP) ma_nil)))))
abbrev s__law_bound : Stmt := top 31
def N__law_bound : List Str := ["program", "n", "most", "step", "k"]
theorem sc__law_bound : FnScope N__law_bound ["program", "n", "most"] (defScope s__law_bound) := C8.fnScope_by (by decide +kernel)
theorem st__law_bound (D__law_bound : DefOk K mg "_law_bound" s__law_bound ["program", "n", "most"]) (z_range : mg "range" = none) (k : Nat) (self__law_bound : LOp) (F__law_bound : FnM P w K mg base ca k "_law_bound" 3 self__law_bound) (hk : 0 ≤ k) : FnM P w K mg base ca (k + 1) "_law_bound" 3 (mFn 5 (m__law_bound self__law_bound)) := fnm_mk D__law_bound sc__law_bound (fun f cdv A outer s H E hr => by
    have nd := sc__law_bound.nd
    have tk := takes_of (X := cxOf (L2.CX P w) P w K mg base N__law_bound "_law_bound" (defScope s__law_bound) f cdv A outer s H E) rfl rfl rfl rfl
    exact mss_cons (ms_for (passes_of rfl) rfl (mi_seq (me_var 0)) (pg_name (i := 3) nd rfl (by first | exact Or.inl rfl | exact Or.inr rfl)) (gok_name (i := 3) (vs := [3]) (by decide)) (mss_cons (ms_if (mw_pt (mw_and (mt_isnot (me_var 1) me_non) (mw_and1 (mt_eq hr (me_ix (me_var 3) me_int (fun _ _ => rfl)) me_str)))) (mss_one (ms_set (i := 1) (me_add (me_var 1) me_int) nd)) (mss_one (ms_if (mw_pt (mw_and (mt_isnot (me_var 1) me_non) (mw_and1 (mt_eq hr (me_ix (me_var 3) me_int (fun _ _ => rfl)) me_str)))) (mss_one (ms_for (passes_of rfl) rfl (mi_rng1 z_range (me_var 1)) (pg_name (i := 4) nd rfl (by first | exact Or.inl rfl | exact Or.inr rfl)) (gok_name (i := 4) (vs := [4]) (by decide)) (mss_cons (ms_set (i := 1) (me_call F__law_bound hr tk (ma_cons (me_ix (me_var 3) me_int (fun _ _ => rfl)) (ma_cons (me_var 1) (ma_cons (me_var 2) ma_nil)))) nd) (mss_one (ms_if (mt_is (me_var 1) me_non) (mss_one ms_break) mss_nil))))) mss_nil))) (mss_one (ms_if (mw_pt (mw_or (mt_is (me_var 1) me_non) (mw_or1 (mt_gt hr (me_var 1) (me_var 2))))) (mss_one (ms_ret me_non)) mss_nil)))) (mss_one (ms_ret (me_var 1))))
theorem ok__law_bound (D__law_bound : DefOk K mg "_law_bound" s__law_bound ["program", "n", "most"]) (z_range : mg "range" = none) : FnM P w K mg base ca 70 "_law_bound" 3 f__law_bound := (fnm_rec (lv := 0) D__law_bound (fun k a hk G0 => st__law_bound D__law_bound z_range k a G0 hk) 70)
abbrev s__law_is_bound_right : Stmt := top 34
def N__law_is_bound_right : List Str := ["program", "n", "due", "told"]
theorem sc__law_is_bound_right : FnScope N__law_is_bound_right ["program", "n"] (defScope s__law_is_bound_right) := C8.fnScope_by (by decide +kernel)
theorem ok__law_is_bound_right (D__law_is_bound_right : DefOk K mg "_law_is_bound_right" s__law_is_bound_right ["program", "n"]) (F__law_bound : FnM P w K mg base ca 70 "_law_bound" 3 f__law_bound) (F__law_told_bound : FnM P w K mg base ca 72 "_law_told_bound" 2 f__law_told_bound) : FnM P w K mg base ca 73 "_law_is_bound_right" 2 f__law_is_bound_right := fnm_mk D__law_is_bound_right sc__law_is_bound_right (fun f cdv A outer s H E hr => by
    have nd := sc__law_is_bound_right.nd
    have tk := takes_of (X := cxOf (L2.CX P w) P w K mg base N__law_is_bound_right "_law_is_bound_right" (defScope s__law_is_bound_right) f cdv A outer s H E) rfl rfl rfl rfl
    exact mss_cons (ms_set (i := 2) (me_call F__law_bound (hr.mono (by decide)) tk (ma_cons (me_var 0) (ma_cons (me_var 1) (ma_cons me_int ma_nil)))) nd) (mss_cons (ms_set (i := 3) (me_call F__law_told_bound (hr.mono (by decide)) tk (ma_cons (me_var 0) (ma_cons (me_var 1) ma_nil))) nd) (mss_one (ms_ret (me_if (mt_isnot (me_var 2) me_non) (me_eq hr (me_var 3) (me_var 2)) (me_or (me_is (me_var 3) me_non) (me_one (me_gt hr (me_var 3) me_int))))))))
abbrev s_doubled : Stmt := top 22
def N_doubled : List Str := ["place", "other"]
theorem sc_doubled : FnScope N_doubled ["place", "other"] (defScope s_doubled) := C8.fnScope_by (by decide +kernel)
theorem ok_doubled (D_doubled : DefOk K mg "doubled" s_doubled ["place", "other"]) : FnM P w K mg base ca 1 "doubled" 2 f_doubled := fnm_mk D_doubled sc_doubled (fun f cdv A outer s H E hr => by
    have nd := sc_doubled.nd
    have tk := takes_of (X := cxOf (L2.CX P w) P w K mg base N_doubled "doubled" (defScope s_doubled) f cdv A outer s H E) rfl rfl rfl rfl
    exact mss_one (ms_ret (me_tup (ma_cons (me_tup (ma_cons me_str (ma_cons (me_var 1) (ma_cons (me_var 0) ma_nil)))) (ma_cons (me_tup (ma_cons me_str (ma_cons (me_var 1) (ma_cons (me_tup (ma_cons (me_tup (ma_cons me_str (ma_cons (me_var 0) ma_nil))) ma_nil)) ma_nil)))) ma_nil)))))
abbrev s_nested : Stmt := top 23
def N_nested : List Str := ["depth", "inner", "k"]
theorem sc_nested : FnScope N_nested ["depth"] (defScope s_nested) := C8.fnScope_by (by decide +kernel)
theorem ok_nested (D_nested : DefOk K mg "nested" s_nested ["depth"]) (z_range : mg "range" = none) : FnM P w K mg base ca 1 "nested" 1 f_nested := fnm_mk D_nested sc_nested (fun f cdv A outer s H E hr => by
    have nd := sc_nested.nd
    have tk := takes_of (X := cxOf (L2.CX P w) P w K mg base N_nested "nested" (defScope s_nested) f cdv A outer s H E) rfl rfl rfl rfl
    exact mss_cons (ms_set (i := 1) (me_tup (ma_cons (me_tup (ma_cons me_str (ma_cons me_int ma_nil))) ma_nil)) nd) (mss_cons (ms_for (passes_of rfl) rfl (mi_rng1 z_range (me_var 0)) (pg_name (i := 2) nd rfl (by first | exact Or.inl rfl | exact Or.inr rfl)) (gok_name (i := 2) (vs := [2]) (by decide)) (mss_one (ms_set (i := 1) (me_tup (ma_cons (me_tup (ma_cons me_str (ma_cons (me_add me_int (me_var 2)) (ma_cons me_int ma_nil)))) (ma_cons (me_tup (ma_cons me_str (ma_cons (me_add me_int (me_var 2)) (ma_cons (me_var 1) ma_nil)))) ma_nil))) nd))) (mss_one (ms_ret (me_var 1)))))
abbrev s_level : Stmt := top 17
def N_level : List Str := ["program", "step"]
theorem sc_level : FnScope N_level ["program"] (defScope s_level) := C8.fnScope_by (by decide +kernel)
theorem st_level (D_level : DefOk K mg "level" s_level ["program"]) (z_max : mg "max" = none) (k : Nat) (self_level : LOp) (F_level : FnM P w K mg base ca k "level" 1 self_level) (hk : 0 ≤ k) : FnM P w K mg base ca (k + 1) "level" 1 (mFn 2 (m_level self_level)) := fnm_mk D_level sc_level (fun f cdv A outer s H E hr => by
    have nd := sc_level.nd
    have tk := takes_of (X := cxOf (L2.CX P w) P w K mg base N_level "level" (defScope s_level) f cdv A outer s H E) rfl rfl rfl rfl
    exact mss_one (ms_ret (me_maxA hr rfl z_max (ma_cons (me_add (me_lst (ma_cons me_int ma_nil)) (me_of_mf (mf_lc (own := [("step", 1)]) rfl nd (mi_seq (me_var 0)) (blkOk_by (N := N_level) (sc := defScope s_level) (own := [("step", 1)]) (by decide +kernel)) (gok_name (i := 1) (vs := [1]) (by decide)) (fun _ _ _ _ _ => pg_name (i := 1) nd rfl (by first | exact Or.inl rfl | exact Or.inr rfl)) (fun _ _ _ _ _ => mts_one (mt_eq hr (me_ix (me_var 1) me_int (fun _ _ => rfl)) me_str)) (fun _ _ _ _ _ => me_add me_int (me_call F_level hr takes0 (ma_cons (me_ix (me_var 1) me_int (fun _ _ => rfl)) ma_nil)))))) ma_nil))))
theorem ok_level (D_level : DefOk K mg "level" s_level ["program"]) (z_max : mg "max" = none) : FnM P w K mg base ca 70 "level" 1 f_level := (fnm_rec (lv := 0) D_level (fun k a hk G0 => st_level D_level z_max k a G0 hk) 70)
abbrev s__law_level : Stmt := top 30
def N__law_level : List Str := ["program", "step"]
theorem sc__law_level : FnScope N__law_level ["program"] (defScope s__law_level) := C8.fnScope_by (by decide +kernel)
theorem st__law_level (D__law_level : DefOk K mg "_law_level" s__law_level ["program"]) (z_max : mg "max" = none) (k : Nat) (self__law_level : LOp) (F__law_level : FnM P w K mg base ca k "_law_level" 1 self__law_level) (hk : 0 ≤ k) : FnM P w K mg base ca (k + 1) "_law_level" 1 (mFn 2 (m__law_level self__law_level)) := fnm_mk D__law_level sc__law_level (fun f cdv A outer s H E hr => by
    have nd := sc__law_level.nd
    have tk := takes_of (X := cxOf (L2.CX P w) P w K mg base N__law_level "_law_level" (defScope s__law_level) f cdv A outer s H E) rfl rfl rfl rfl
    exact mss_one (ms_ret (me_maxA hr rfl z_max (ma_cons (me_add (me_lst (ma_cons me_int ma_nil)) (me_of_mf (mf_lc (own := [("step", 1)]) rfl nd (mi_seq (me_var 0)) (blkOk_by (N := N__law_level) (sc := defScope s__law_level) (own := [("step", 1)]) (by decide +kernel)) (gok_name (i := 1) (vs := [1]) (by decide)) (fun _ _ _ _ _ => pg_name (i := 1) nd rfl (by first | exact Or.inl rfl | exact Or.inr rfl)) (fun _ _ _ _ _ => mts_one (mt_eq hr (me_ix (me_var 1) me_int (fun _ _ => rfl)) me_str)) (fun _ _ _ _ _ => me_add me_int (me_call F__law_level hr takes0 (ma_cons (me_ix (me_var 1) me_int (fun _ _ => rfl)) ma_nil)))))) ma_nil))))
theorem ok__law_level (D__law_level : DefOk K mg "_law_level" s__law_level ["program"]) (z_max : mg "max" = none) : FnM P w K mg base ca 70 "_law_level" 1 f__law_level := (fnm_rec (lv := 0) D__law_level (fun k a hk G0 => st__law_level D__law_level z_max k a G0 hk) 70)
abbrev s_law : Stmt := top 35
def N_law : List Str := ["script", "stream", "program", "places", "own", "n", "world", "told", "most", "inner", "deep", "k", "start", "found", "x"]
theorem sc_law : FnScope N_law ["script"] (defScope s_law) := C8.fnScope_by (by decide +kernel)
theorem body_law (z_range : mg "range" = none) (z_len : mg "len" = none) (z_max : mg "max" = none) (z_tuple : mg "tuple" = none) (z_all : mg "all" = none) (F__law_draw : FnM P w K mg base ca 1 "_law_draw" 2 f__law_draw) (F__law_is_bound_right : FnM P w K mg base ca 73 "_law_is_bound_right" 2 f__law_is_bound_right) (F__law_level : FnM P w K mg base ca 70 "_law_level" 1 f__law_level) (F__law_program : FnM P w K mg base ca 71 "_law_program" 2 f__law_program) (F__law_run : FnM P w K mg base ca 70 "_law_run" 3 f__law_run) (F__law_same : FnM P w K mg base ca 70 "_law_same" 2 f__law_same) (F__law_stream : FnM P w K mg base ca 1 "_law_stream" 1 f__law_stream) (F__law_told : FnM P w K mg base ca 72 "_law_told" 2 f__law_told) (F__law_told_bound : FnM P w K mg base ca 72 "_law_told_bound" 2 f__law_told_bound) (F_doubled : FnM P w K mg base ca 1 "doubled" 2 f_doubled) (F_is_program : FnM P w K mg base ca 73 "is_program" 1 f_is_program) (F_level : FnM P w K mg base ca 70 "level" 1 f_level) (F_nested : FnM P w K mg base ca 1 "nested" 1 f_nested) : BodyOk P w K mg base ca 73 "law" s_law N_law m_law := (fun f cdv A outer s H E hr => by
    have nd := sc_law.nd
    have tk := takes_of (X := cxOf (L2.CX P w) P w K mg base N_law "law" (defScope s_law) f cdv A outer s H E) rfl rfl rfl rfl
    exact mss_cons (ms_set (i := 1) (me_call F__law_stream (hr.mono (by decide)) tk (ma_cons (me_var 0) ma_nil)) nd) (mss_drop 0 (mss_cons (ms_set (i := 2) (me_call F__law_program (hr.mono (by decide)) tk (ma_cons (me_var 1) (ma_cons me_int ma_nil))) nd) (mss_cons (ms_setLc (i := 3) (own := [("k", 11)]) rfl nd (mi_rng1 z_range (me_call F__law_draw (hr.mono (by decide)) tk (ma_cons (me_var 1) (ma_cons me_int ma_nil)))) (blkOk_by (N := N_law) (sc := defScope s_law) (own := [("k", 11)]) (by decide +kernel)) (gok_name (i := 11) (vs := [11]) (by decide)) (fun _ _ _ _ _ => pg_name (i := 11) nd rfl (by first | exact Or.inl rfl | exact Or.inr rfl)) (fun _ _ _ _ _ => mts_nil) (fun _ _ _ _ _ => me_call F__law_draw (hr.mono (by decide)) takes0 (ma_cons (me_var 1) (ma_cons me_int ma_nil)))) (mss_cons (ms_if (mw_pt (mw_or (mt_isnot (me_call F_is_program (hr.mono (by decide)) tk (ma_cons (me_var 2) ma_nil)) me_bl) (mw_or (mt_isnot (me_call F_is_program (hr.mono (by decide)) tk (ma_cons (me_tup (ma_cons (me_tup (ma_cons me_str (ma_cons me_int ma_nil))) ma_nil)) ma_nil)) me_bl) (mw_or1 (mt_isnot (me_call F_is_program (hr.mono (by decide)) tk (ma_cons (me_lst ma_nil) ma_nil)) me_bl))))) (mss_one (ms_ret me_bl)) mss_nil) (mss_cons (ms_set (i := 4) (me_newL (mf_add (me_var 3) (me_mul (me_lst (ma_cons me_int ma_nil)) (me_sub me_int (me_len z_len (ma_cons (me_var 3) ma_nil)))))) nd) (mss_cons (ms_set (i := 5) (me_maxA hr rfl z_max (ma_cons (me_add (me_lst (ma_cons me_int ma_nil)) (me_var 3)) ma_nil)) nd) (mss_cons (ms_set (i := 6) me_newK nd) (mss_cons (ms_expr (me_call F__law_run (hr.mono (by decide)) tk (ma_cons (me_var 2) (ma_cons (me_var 4) (ma_cons (me_var 6) ma_nil))))) (mss_cons (ms_set (i := 7) (me_call F__law_told (hr.mono (by decide)) tk (ma_cons (me_var 2) (ma_cons (me_var 3) ma_nil))) nd) (mss_cons (ms_if (mw_pt (mw_or (mt_ne hr (me_is (me_var 7) me_non) (me_gt hr (me_getK hr (me_var 6) me_str (fun _ _ => rfl)) me_int)) (mw_or1 (mw_pt (mw_and (mt_isnot (me_var 7) me_non) (mw_and1 (mt_not (mt_truth (me_call F__law_same (hr.mono (by decide)) tk (ma_cons (me_var 7) (ma_cons (me_tupR z_tuple (ma_cons (me_var 4) ma_nil)) ma_nil))))))))))) (mss_one (ms_ret me_bl)) mss_nil) (mss_cons (ms_if (mw_pt (mw_or (mt_not (mt_truth (me_call F__law_same (hr.mono (by decide)) tk (ma_cons (me_call F_level (hr.mono (by decide)) tk (ma_cons (me_var 2) ma_nil)) (ma_cons (me_call F__law_level (hr.mono (by decide)) tk (ma_cons (me_var 2) ma_nil)) ma_nil))))) (mw_or1 (mt_not (mt_truth (me_call F__law_is_bound_right (hr.mono (by decide)) tk (ma_cons (me_var 2) (ma_cons (me_var 5) ma_nil)))))))) (mss_one (ms_ret me_bl)) mss_nil) (mss_cons (ms_set (i := 8) (me_call F__law_told_bound (hr.mono (by decide)) tk (ma_cons (me_var 2) (ma_cons (me_var 5) ma_nil))) nd) (mss_cons (ms_if (mw_pt (mw_and (mt_isnot (me_var 8) me_non) (mw_and (mt_isnot (me_var 7) me_non) (mw_and1 (mt_not (mt_truth (me_all rfl z_all (ma_cons (me_of_mf (mf_lc (own := [("x", 14)]) rfl nd (mi_seq (me_var 7)) (blkOk_by (N := N_law) (sc := defScope s_law) (own := [("x", 14)]) (by decide +kernel)) (gok_name (i := 14) (vs := [14]) (by decide)) (fun _ _ _ _ _ => pg_name (i := 14) nd rfl (by first | exact Or.inl rfl | exact Or.inr rfl)) (fun _ _ _ _ _ => mts_nil) (fun _ _ _ _ _ => me_le hr (me_var 14) (me_var 8)))) ma_nil)))))))) (mss_one (ms_ret me_bl)) mss_nil) (mss_cons (ms_if (mt_not (mt_truth (me_call F__law_same (hr.mono (by decide)) tk (ma_cons (me_call F_doubled (hr.mono (by decide)) tk (ma_cons me_int (ma_cons me_int ma_nil))) (ma_cons (me_tup (ma_cons (me_tup (ma_cons me_str (ma_cons me_int (ma_cons me_int ma_nil)))) (ma_cons (me_tup (ma_cons me_str (ma_cons me_int (ma_cons (me_tup (ma_cons (me_tup (ma_cons me_str (ma_cons me_int ma_nil))) ma_nil)) ma_nil)))) ma_nil))) ma_nil))))) (mss_one (ms_ret me_bl)) mss_nil) (mss_cons (ms_set (i := 9) (me_tup (ma_cons (me_tup (ma_cons me_str (ma_cons me_int ma_nil))) ma_nil)) nd) (mss_cons (ms_set (i := 10) (me_call F__law_draw (hr.mono (by decide)) tk (ma_cons (me_var 1) (ma_cons me_int ma_nil))) nd) (mss_cons (ms_for (passes_of rfl) rfl (mi_rng1 z_range (me_var 10)) (pg_name (i := 11) nd rfl (by first | exact Or.inl rfl | exact Or.inr rfl)) (gok_name (i := 11) (vs := [11]) (by decide)) (mss_one (ms_set (i := 9) (me_tup (ma_cons (me_tup (ma_cons me_str (ma_cons (me_add me_int (me_var 11)) (ma_cons me_int ma_nil)))) (ma_cons (me_tup (ma_cons me_str (ma_cons (me_add me_int (me_var 11)) (ma_cons (me_var 9) ma_nil)))) ma_nil))) nd))) (mss_cons (ms_if (mt_not (mt_truth (me_call F__law_same (hr.mono (by decide)) tk (ma_cons (me_call F_nested (hr.mono (by decide)) tk (ma_cons (me_var 10) ma_nil)) (ma_cons (me_var 9) ma_nil))))) (mss_one (ms_ret me_bl)) mss_nil) (mss_cons (ms_set (i := 12) (me_call F__law_draw (hr.mono (by decide)) tk (ma_cons (me_var 1) (ma_cons me_int ma_nil))) nd) (mss_cons (ms_set (i := 13) (me_call F__law_told (hr.mono (by decide)) tk (ma_cons (me_var 9) (ma_cons (me_lst (ma_cons (me_var 12) ma_nil)) ma_nil))) nd) (mss_one (ms_ret (me_or (me_is (me_var 13) me_non) (me_one (me_eq hr (me_ix (me_var 13) me_int (fun _ _ => rfl)) (me_call F__law_told_bound (hr.mono (by decide)) tk (ma_cons (me_var 9) (ma_cons (me_var 12) ma_nil)))))))))))))))))))))))))))))
end
end L_k16
namespace L_k16
open PySem L2 AG
/-! ### programs with repeats -/
inductive St where
  | z (i : Nat) | n (i : Nat) | c (i j : Nat) | r (i : Nat) (b : List St)
mutual
def St.enc : St → D
  | .z i => .tup [.str "zero", .int i]
  | .n i => .tup [.str "next", .int i]
  | .c i j => .tup [.str "copy", .int i, .int j]
  | .r i b => .tup [.str "repeat", .int i, .tup (St.encs b)]
def St.encs : List St → List D
  | [] => []
  | s :: b => s.enc :: St.encs b
end
mutual
def St.okS : St → Prop
  | .z i => i < 4
  | .n i => i < 4
  | .c i j => i < 4 ∧ j < 4
  | .r i b => i < 4 ∧ St.oks b
def St.oks : List St → Prop
  | [] => True
  | s :: b => s.okS ∧ St.oks b
end
mutual
def St.dep : St → Nat
  | .z _ => 0
  | .n _ => 0
  | .c _ _ => 0
  | .r _ b => St.deps b + 1
def St.deps : List St → Nat
  | [] => 0
  | s :: b => max s.dep (St.deps b)
end
structure PW where
  ps : List Int
  w : Int
abbrev Res := Bool × PW
def iter (f : PW → Res) : Nat → PW → Res
  | 0, s => (false, s)
  | k + 1, s => match f s with | (true, t) => (true, t) | (false, t) => iter f k t
def tick (s : PW) (k : PW → Res) : Res := if 200000 < s.w + 1 then (true, ⟨s.ps, s.w + 1⟩) else k ⟨s.ps, s.w + 1⟩
mutual
def St.run : St → PW → Res
  | .z i => fun s => tick s fun s => (false, ⟨s.ps.set i 0, s.w⟩)
  | .n i => fun s => tick s fun s => (false, ⟨s.ps.set i (s.ps.getD i 0 + 1), s.w⟩)
  | .c i j => fun s => tick s fun s => (false, ⟨s.ps.set i (s.ps.getD j 0), s.w⟩)
  | .r i b => fun s => tick s fun s => if b.isEmpty then (false, s) else iter (St.runs b) (s.ps.getD i 0).toNat s
def St.runs : List St → PW → Res
  | [] => fun s => (false, s)
  | t :: b => fun s => match t.run s with | (true, u) => (true, u) | (false, u) => St.runs b u
end
/-- what stays so -/
structure PW.good (C : Int) (s : PW) : Prop where
  len : s.ps.length = 4
  w0 : 0 ≤ s.w
  bd : ∀ p ∈ s.ps, 0 ≤ p ∧ p ≤ C + s.w
theorem good_set {C : Int} {s : PW} (h : s.good C) {i : Nat} {v : Int} (h0 : 0 ≤ v) (h1 : v ≤ C + s.w) : PW.good C ⟨s.ps.set i v, s.w⟩ :=
  ⟨by simp [h.len], h.w0, fun p hp => by
    rcases List.mem_or_eq_of_mem_set hp with q | q
    · exact h.bd p q
    · subst q; exact ⟨h0, h1⟩⟩
theorem good_tick {C : Int} {s : PW} (h : s.good C) : PW.good C ⟨s.ps, s.w + 1⟩ := ⟨h.len, by have := h.w0; show 0 ≤ s.w + 1; omega, fun p hp => by have := h.bd p hp; exact ⟨this.1, by show p ≤ C + (s.w + 1); omega⟩⟩
theorem good_get {C : Int} {s : PW} (h : s.good C) {i : Nat} (hi : i < 4) : s.ps[i]? = some (s.ps.getD i 0) ∧ 0 ≤ s.ps.getD i 0 ∧ s.ps.getD i 0 ≤ C + s.w := by
  have hl : i < s.ps.length := by rw [h.len]; exact hi
  have e : s.ps[i]? = some s.ps[i] := List.getElem?_eq_getElem hl
  have e2 : s.ps.getD i 0 = s.ps[i] := by rw [List.getD_eq_getElem?_getD, e]; rfl
  rw [e2]
  exact ⟨e, h.bd _ (List.getElem_mem hl)⟩
theorem iter_good {C : Int} {f : PW → Res} (hf : ∀ s, s.good C → ∀ t, f s = (false, t) → t.good C) : ∀ (k : Nat) (s : PW), s.good C → ∀ t, iter f k s = (false, t) → t.good C
  | 0, s, h, t, e => by cases e; exact h
  | k + 1, s, h, t, e => by
    simp only [iter] at e
    split at e
    · cases e
    · rename_i u q
      exact iter_good hf k u (hf s h u q) t e
theorem tick_good {C : Int} {s : PW} {k : PW → Res} (h : s.good C) (hk : ∀ u, u.good C → ∀ t, k u = (false, t) → t.good C) : ∀ t, tick s k = (false, t) → t.good C := fun t e => by
  unfold tick at e
  split at e
  · cases e
  · exact hk _ (good_tick h) t e
mutual
theorem run_good {C : Int} (hC : 0 ≤ C) : ∀ (t : St), t.okS → ∀ s, s.good C → ∀ u, t.run s = (false, u) → u.good C
  | .z i, ho, s, h, u, e => by
    rw [St.run] at e
    exact tick_good h (fun v hv t e => by cases e; exact good_set hv (Int.le_refl 0) (by have := hv.w0; omega)) u e
  | .n i, ho, s, h, u, e => by
    rw [St.run] at e
    -- one tick ahead: there is room for one more
    unfold tick at e
    dsimp only at e
    split at e
    · cases e
    · cases e
      obtain ⟨_, q0, q1⟩ := good_get h (show i < 4 from ho)
      exact good_set (good_tick h) (by show 0 ≤ s.ps.getD i 0 + 1; omega) (by show s.ps.getD i 0 + 1 ≤ C + (s.w + 1); omega)
  | .c i j, ho, s, h, u, e => by
    rw [St.run] at e
    exact tick_good h (fun v hv t e => by
      cases e
      obtain ⟨_, q0, q1⟩ := good_get hv (show j < 4 from ho.2)
      exact good_set hv q0 q1) u e
  | .r i b, ho, s, h, u, e => by
    rw [St.run] at e
    refine tick_good h (fun v hv t e => ?_) u e
    split at e
    · cases e; exact hv
    · exact iter_good (fun s hs t e => runs_good hC b ho.2 s hs t e) _ v hv t e
theorem runs_good {C : Int} (hC : 0 ≤ C) : ∀ (b : List St), St.oks b → ∀ s, s.good C → ∀ u, St.runs b s = (false, u) → u.good C
  | [], _, s, h, u, e => by rw [St.runs] at e; cases e; exact h
  | t :: b, ho, s, h, u, e => by
    rw [St.runs] at e
    dsimp only at e
    split at e
    · cases e
    · rename_i v q
      exact runs_good hC b ho.2 v (run_good hC t ho.1 s h v q) u e
end
/-- the objects of a run -/
def hp (h : MH) (r l : Nat) (s : PW) : MH := (h.set r (.inst 2 [("places", .ref l), ("work", .int s.w)])).set l (.lst (s.ps.map D.int))
section
variable {h : MH} {r l : Nat} {s t : PW}
theorem hp_r (hr : r < h.length) (hne : r ≠ l) : (hp h r l s)[r]? = some (.inst 2 [("places", .ref l), ("work", .int s.w)]) := by
  unfold hp
  rw [List.getElem?_set_ne (Ne.symm hne), List.getElem?_set_self hr]
theorem hp_l (hl : l < h.length) : (hp h r l s)[l]? = some (.lst (s.ps.map D.int)) := by
  unfold hp
  rw [List.getElem?_set_self (by simpa using hl)]
theorem hp_setr (hne : r ≠ l) {w : Int} : (hp h r l s).set r (.inst 2 [("places", .ref l), ("work", .int w)]) = hp h r l ⟨s.ps, w⟩ := by
  unfold hp
  rw [List.set_comm _ _ (Ne.symm hne), List.set_set]
theorem hp_setl {xs : List D} {ps : List Int} (e : xs = ps.map D.int) : (hp h r l s).set l (.lst xs) = hp h r l ⟨ps, s.w⟩ := by
  subst e
  unfold hp
  rw [List.set_set]
end
def resM (h : MH) (r l : Nat) {α : Type} (a : α) : Res → R α
  | (true, s) => .exc 1 (hp h r l s)
  | (false, s) => .ok a (hp h r l s)
theorem ne_wp : (("work" : Str) == "places") = false := by decide +kernel
theorem ne_pw : ¬ (("places" : Str) = "work") := by decide +kernel
theorem lk_w {x : D} {w : Int} : List.lookup ("work" : Str) ([("places", x), ("work", .int w)] : List (Str × D)) = some (.int w) := by
  simp only [List.lookup_cons, ne_wp]
  simp
theorem lk_p {x : D} {w : Int} : List.lookup ("places" : Str) ([("places", x), ("work", .int w)] : List (Str × D)) = some x := by simp
theorem put_w {x y : D} {w : Int} : putD "work" y ([("places", x), ("work", .int w)] : List (Str × D)) = ([("places", x), ("work", y)] : List (Str × D)) := by
  simp [putD, ne_pw]
section
variable {h : MH} {r l : Nat} {s : PW} {env : AG.Env} (hr : r < h.length) (hl : l < h.length) (hne : r ≠ l) (he : env[0]? = some (.v (.ref r)))
include hr hne he
theorem fld_w : mFld 2 "work" (mVar 0) env (hp h r l s) = .ok (.int s.w) (hp h r l s) := by
  have ev : mVar 0 env (hp h r l s) = .ok (.ref r) (hp h r l s) := ev_var he
  unfold mFld
  simp only [ev_bind, ev, rb_ok, fldM, hp_r (s := s) hr hne, if_true, lk_w]
theorem fld_p : mFld 2 "places" (mVar 0) env (hp h r l s) = .ok (.ref l) (hp h r l s) := by
  have ev : mVar 0 env (hp h r l s) = .ok (.ref r) (hp h r l s) := ev_var he
  unfold mFld
  simp only [ev_bind, ev, rb_ok, fldM, hp_r (s := s) hr hne, if_true, lk_p]
theorem aug_fld : mAugFld augAdd 2 "work" (mVar 0) (mC (.int 1)) env (hp h r l s) = .ok (.nx env) (hp h r l ⟨s.ps, s.w + 1⟩) := by
  have ev : mVar 0 env (hp h r l s) = .ok (.ref r) (hp h r l s) := ev_var he
  unfold mAugFld
  simp only [ev_bind, ev, rb_ok, fldM, hp_r (s := s) hr hne, if_true, lk_w, ev_c, aug_addI, setFldM, put_w, List.length_cons, List.length_nil]
  simp [hp_setr hne]
include hl
theorem set_p {i v : AG.Env → M D} {k : Nat} {x : Int} (hk : k < s.ps.length) (hi : i env (hp h r l s) = .ok (.int k) (hp h r l s)) (hv : v env (hp h r l s) = .ok (.int x) (hp h r l s)) :
    mSetIx (mFld 2 "places" (mVar 0)) i v env (hp h r l s) = .ok (.nx env) (hp h r l ⟨s.ps.set k x, s.w⟩) := by
  have e1 := fld_p (s := s) hr hne he
  have e2 : ixN (s.ps.map D.int).length (k : Int) = some k := by
    unfold ixN
    rw [List.length_map, if_pos (by omega), if_pos (by omega)]
    simp
  unfold mSetIx
  simp only [ev_bind, hv, rb_ok, e1, hi, setIxM, hp_l (r := r) (s := s) hl, e2, ev_pure]
  rw [hp_setl (ps := s.ps.set k x) (by rw [List.map_set])]
theorem aug_p {i : AG.Env → M D} {k : Nat} {x : Int} (hk : k < 1000000) (hx : s.ps[k]? = some x) (hi : i env (hp h r l s) = .ok (.int k) (hp h r l s)) :
    mAugIx augAdd (mFld 2 "places" (mVar 0)) i (mC (.int 1)) env (hp h r l s) = .ok (.nx env) (hp h r l ⟨s.ps.set k (x + 1), s.w⟩) := by
  have e1 := fld_p (s := s) hr hne he
  have hk' : k < s.ps.length := (List.getElem?_eq_some_iff.mp hx).1
  have e2 : ixN (s.ps.map D.int).length (k : Int) = some k := by
    unfold ixN
    rw [List.length_map, if_pos (by omega), if_pos (by omega)]
    simp
  have e3 : (0 : Int) ≤ (k : Int) ∧ (k : Int) < 1000000 := by omega
  have e4 : (s.ps.map D.int)[(k : Int).toNat]? = some (.int x) := by rw [List.getElem?_map]; simp [hx]
  unfold mAugIx
  simp only [ev_bind, rb_ok, e1, hi, getIxM, hp_l (r := r) (s := s) hl, e3, and_self, if_true, e4, ev_c, aug_addI, setIxM, e2, ev_pure]
  rw [hp_setl (ps := s.ps.set k (x + 1)) (by rw [List.map_set])]
end
theorem eq_str {a b : Str} {h : MH} : opEq (.str a) (.str b) h = .ok (.bl (D.eqv (.str a) (.str b))) h := rfl
theorem es_zz : D.eqv (.str "zero") (.str "zero") = true := by decide +kernel
theorem es_nz : D.eqv (.str "next") (.str "zero") = false := by decide +kernel
theorem es_cz : D.eqv (.str "copy") (.str "zero") = false := by decide +kernel
theorem es_rz : D.eqv (.str "repeat") (.str "zero") = false := by decide +kernel
theorem es_nn : D.eqv (.str "next") (.str "next") = true := by decide +kernel
theorem es_cn : D.eqv (.str "copy") (.str "next") = false := by decide +kernel
theorem es_rn : D.eqv (.str "repeat") (.str "next") = false := by decide +kernel
theorem es_cc : D.eqv (.str "copy") (.str "copy") = true := by decide +kernel
theorem es_rc : D.eqv (.str "repeat") (.str "copy") = false := by decide +kernel
theorem at3 {α : Type} {x y z : α} : atI [x, y, z] 2 = some z := rfl
theorem at_ps {ps : List Int} {j : Nat} (hj : j < ps.length) : atI (ps.map D.int) (j : Int) = some (.int (ps.getD j 0)) := by
  have e2 : ixN (ps.map D.int).length (j : Int) = some j := by
    unfold ixN
    rw [List.length_map, if_pos (by omega), if_pos (by omega)]
    simp
  unfold atI
  rw [e2]
  show (ps.map D.int)[j]? = _
  rw [List.getElem?_map, List.getElem?_eq_getElem hj, List.getD_eq_getElem?_getD, List.getElem?_eq_getElem hj]
  rfl
theorem get_p {h : MH} {r l : Nat} {s : PW} {env : AG.Env} {i : AG.Env → M D} {j : Nat} (hr : r < h.length) (hl : l < h.length) (hne : r ≠ l) (he : env[0]? = some (.v (.ref r))) (hj : j < s.ps.length) (hi : i env (hp h r l s) = .ok (.int j) (hp h r l s)) :
    mBin opIx (mFld 2 "places" (mVar 0)) i env (hp h r l s) = .ok (.int (s.ps.getD j 0)) (hp h r l s) := by
  have e1 := fld_p (s := s) hr hne he
  simp only [ev_bin, e1, rb_ok, hi, opIx, hp_l (r := r) (s := s) hl, at_ps hj]
theorem encs_len : ∀ b : List St, (St.encs b).length = b.length
  | [] => rfl
  | _ :: b => by rw [St.encs, List.length_cons, encs_len b]; rfl
/-- the work that was done when a run ends as usual is within bounds -/
theorem tick_w {s : PW} {k : PW → Res} (hk : ∀ u, u.w ≤ 200000 → ∀ t, k u = (false, t) → t.w ≤ 200000) : ∀ t, tick s k = (false, t) → t.w ≤ 200000 := fun t e => by
  unfold tick at e
  split at e
  · cases e
  · exact hk _ (by show s.w + 1 ≤ 200000; omega) t e
theorem iter_w {f : PW → Res} (hf : ∀ s, s.w ≤ 200000 → ∀ t, f s = (false, t) → t.w ≤ 200000) : ∀ (k : Nat) (s : PW), s.w ≤ 200000 → ∀ t, iter f k s = (false, t) → t.w ≤ 200000
  | 0, s, h, t, e => by cases e; exact h
  | k + 1, s, h, t, e => by
    simp only [iter] at e
    split at e
    · cases e
    · rename_i u q
      exact iter_w hf k u (hf s h u q) t e
mutual
theorem run_le : ∀ (t : St) (s u : PW), s.w ≤ 200000 → t.run s = (false, u) → u.w ≤ 200000
  | .z i, s, u, h, e => by
    rw [St.run] at e
    exact tick_w (fun v hv t e => by cases e; exact hv) u e
  | .n i, s, u, h, e => by
    rw [St.run] at e
    exact tick_w (fun v hv t e => by cases e; exact hv) u e
  | .c i j, s, u, h, e => by
    rw [St.run] at e
    exact tick_w (fun v hv t e => by cases e; exact hv) u e
  | .r i b, s, u, h, e => by
    rw [St.run] at e
    refine tick_w (fun v hv t e => ?_) u e
    split at e
    · cases e; exact hv
    · exact iter_w (fun s hs t e => runs_le b s t hs e) _ v hv t e
theorem runs_le : ∀ (b : List St) (s u : PW), s.w ≤ 200000 → St.runs b s = (false, u) → u.w ≤ 200000
  | [], s, u, h, e => by rw [St.runs] at e; cases e; exact h
  | t :: b, s, u, h, e => by
    rw [St.runs] at e
    dsimp only at e
    split at e
    · cases e
    · rename_i v q
      exact runs_le b v u (run_le t s v h q) e
end
section
variable {h : MH} {r l : Nat} {self : LOp} {C : Int} {P : AG.Slot}
theorem over {s : PW} {env : AG.Env} (hr : r < h.length) (hne : r ≠ l) (he : env[0]? = some (.v (.ref r))) :
    mIf (mTest (mBin opGt (mFld 2 "work" (mVar 0)) (mC c_WORK))) (mRaise 1) mNx env (hp h r l s) = if 200000 < s.w then .exc 1 (hp h r l s) else .ok (.nx env) (hp h r l s) := by
  have e := fld_w (s := s) hr hne he
  have ec : ∀ h, mC c_WORK env h = .ok (.int 200000) h := fun _ => rfl
  simp only [ev_if, ev_test, ev_bin, e, rb_ok, ec, op_gtI, ev_blM]
  by_cases q : 200000 < s.w
  · simp [q, mRaise]
  · simp [q]
/-- the turns of an inner loop -/
theorem turns {b : List St} {i : Nat} (hC : 0 ≤ C) (ho : St.oks b) (hself : ∀ s, s.good C → s.w ≤ 200000 → self [.ref r, .tup (St.encs b)] (hp h r l s) = resM h r l .non (St.runs b s)) (hr : r < h.length) (hne : r ≠ l) :
    ∀ (n : Nat) (xs : List D) (s : PW) (sl : AG.Slot), xs.length = n → s.good C → s.w ≤ 200000 →
      (∃ sl', loopF (tgName 3) (b_Runner_do_1 self) xs [.v (.ref r), P, .v (.tup [.str "repeat", .int i, .tup (St.encs b)]), sl] (hp h r l s) = resM h r l (Fl.nx [.v (.ref r), P, .v (.tup [.str "repeat", .int i, .tup (St.encs b)]), sl']) (iter (St.runs b) n s))
  | 0, xs, s, sl, hx, hs, hw => by
    rw [List.length_eq_zero_iff] at hx
    subst hx
    exact ⟨sl, rfl⟩
  | n + 1, [], s, sl, hx, hs, hw => by cases hx
  | n + 1, x :: xs, s, sl, hx, hs, hw => by
    have e0 : isC 2 "do" (.ref r) (hp h r l s) = .ok () (hp h r l s) := by
      have : List.lookup ("do" : Str) ([("places", D.ref l), ("work", .int s.w)] : List (Str × D)) = none := by
        have q1 : (("do" : Str) == "places") = false := by decide +kernel
        have q2 : (("do" : Str) == "work") = false := by decide +kernel
        simp only [List.lookup_cons, q1, q2]
        rfl
      simp only [isC, hp_r (s := s) hr hne, this, and_self, if_true]
    have e1 := hself s hs hw
    have e2 : b_Runner_do_1 self [.v (.ref r), P, .v (.tup [.str "repeat", .int i, .tup (St.encs b)]), .v x] (hp h r l s) = (resM h r l D.non (St.runs b s)).bind fun _ h' => .ok (.nx [.v (.ref r), P, .v (.tup [.str "repeat", .int i, .tup (St.encs b)]), .v x]) h' := by
      unfold b_Runner_do_1
      simp [mMeth, e0, e1, at3]
    cases q : St.runs b s with
    | mk f t =>
      rw [q] at e2
      cases f with
      | true =>
        refine ⟨sl, ?_⟩
        simp only [iter, q]
        have e3 : loopF (tgName 3) (b_Runner_do_1 self) (x :: xs) [.v (.ref r), P, .v (.tup [.str "repeat", .int i, .tup (St.encs b)]), sl] (hp h r l s) = .exc 1 (hp h r l t) := by
          simp only [loopF, tgName_, List.set_cons_succ, List.set_cons_zero, ev_bind, e2, resM, rb_exc]
        exact e3
      | false =>
        obtain ⟨sl', e3⟩ := turns hC ho hself hr hne n xs t (.v x) (by simpa using hx) (runs_good hC b ho s hs t q) (runs_le b s t hw q)
        refine ⟨sl', ?_⟩
        simp only [iter, q]
        rw [loopF_cons (by rfl) e2]
        exact e3
theorem step_ok (hC : 0 ≤ C) (hb : C ≤ 1000000) (t : St) (ho : t.okS) (hself : ∀ i b, t = .r i b → ∀ s, s.good C → s.w ≤ 200000 → self [.ref r, .tup (St.encs b)] (hp h r l s) = resM h r l .non (St.runs b s)) (hr : r < h.length) (hl : l < h.length) (hne : r ≠ l) (s : PW) (hs : s.good C) (hw : s.w ≤ 200000) (sl : AG.Slot) :
    ∃ sl', b_Runner_do_2 self [.v (.ref r), P, .v t.enc, sl] (hp h r l s) = resM h r l (Fl.nx [.v (.ref r), P, .v t.enc, sl']) (t.run s) := by
  have a := aug_fld (s := s) (env := [.v (.ref r), P, .v t.enc, sl]) hr hne rfl
  have o := over (s := ⟨s.ps, s.w + 1⟩) (env := [.v (.ref r), P, .v t.enc, sl]) hr hne rfl
  have hg := good_tick hs
  unfold b_Runner_do_2
  simp only [ev_seq, a, rb_ok, o]
  by_cases c : 200000 < s.w + 1
  · refine ⟨sl, ?_⟩
    have : t.run s = (true, ⟨s.ps, s.w + 1⟩) := by cases t <;> simp [St.run, tick, c]
    rw [this]
    simp [c, resM]
  · simp only [c, if_false, rb_ok]
    cases t with
    | z i =>
      refine ⟨sl, ?_⟩
      have hi : i < 4 := ho
      have e := set_p (s := ⟨s.ps, s.w + 1⟩) (env := [.v (.ref r), P, .v (St.z i).enc, sl]) (i := mBin opIx (mVar 2) (mC (.int 1))) (v := mC (.int 0)) (k := i) (x := 0) hr hl hne rfl (by rw [hs.len]; exact hi) (by simp [St.enc]) rfl
      simp [St.enc, eq_str, es_zz] at e ⊢
      simp [e, St.run, tick, c, resM]
    | n i =>
      refine ⟨sl, ?_⟩
      have hi : i < 4 := ho
      have e := aug_p (s := ⟨s.ps, s.w + 1⟩) (env := [.v (.ref r), P, .v (St.n i).enc, sl]) (i := mBin opIx (mVar 2) (mC (.int 1))) (k := i) hr hl hne rfl (by omega) (good_get hg hi).1 (by simp [St.enc])
      simp [St.enc, eq_str, es_nz, es_nn] at e ⊢
      simp [e, St.run, tick, c, resM]
    | c i j =>
      refine ⟨sl, ?_⟩
      have hi : i < 4 := ho.1
      have hj : j < 4 := ho.2
      have e := set_p (s := ⟨s.ps, s.w + 1⟩) (env := [.v (.ref r), P, .v (St.c i j).enc, sl]) (i := mBin opIx (mVar 2) (mC (.int 1))) (v := mBin opIx (mFld 2 "places" (mVar 0)) (mBin opIx (mVar 2) (mC (.int 2)))) (k := i) (x := s.ps.getD j 0) hr hl hne rfl (by rw [hs.len]; exact hi) (by simp [St.enc]) (get_p (s := ⟨s.ps, s.w + 1⟩) hr hl hne rfl (by rw [hs.len]; exact hj) (by simp [St.enc, at3]))
      simp [St.enc, eq_str, es_cz, es_cn, es_cc] at e ⊢
      simp [e, St.run, tick, c, resM]
    | r i b =>
      have hi : i < 4 := ho.1
      have e := get_p (s := ⟨s.ps, s.w + 1⟩) (env := [.v (.ref r), P, .v (St.r i b).enc, sl]) (i := mBin opIx (mVar 2) (mC (.int 1))) (j := i) hr hl hne rfl (by rw [hs.len]; exact hi) (by simp [St.enc])
      obtain ⟨_, g0, g1⟩ := good_get hg hi
      have g1 : s.ps.getD i 0 ≤ C + (s.w + 1) := g1
      have er : rng1M (.int (s.ps.getD i 0)) (hp h r l ⟨s.ps, s.w + 1⟩) = .ok (rngD 0 (s.ps.getD i 0).toNat) (hp h r l ⟨s.ps, s.w + 1⟩) := by
        have := rng1_nat (h := hp h r l ⟨s.ps, s.w + 1⟩) (n := (s.ps.getD i 0).toNat) (by omega)
        rwa [Int.toNat_of_nonneg g0] at this
      obtain ⟨sl', et⟩ := turns (P := P) (i := i) hC ho.2 (hself i b rfl) hr hne (s.ps.getD i 0).toNat (rngD 0 (s.ps.getD i 0).toNat) ⟨s.ps, s.w + 1⟩ sl (by simp [rngD_def]) hg (by show s.w + 1 ≤ 200000; omega)
      cases b with
      | nil =>
        refine ⟨sl, ?_⟩
        simp [St.enc, St.encs, eq_str, es_rz, es_rn, es_rc, at3]
        simp [St.run, tick, c, resM]
      | cons t b =>
        refine ⟨sl', ?_⟩
        have e' : mBin opIx (mFld 2 "places" (mVar 0)) (mBin opIx (mVar 2) (mC (.int 1))) [.v (.ref r), P, .v (.tup [.str "repeat", .int i, .tup (St.encs (t :: b))]), sl] (hp h r l ⟨s.ps, s.w + 1⟩) = .ok (.int (s.ps.getD i 0)) (hp h r l ⟨s.ps, s.w + 1⟩) := e
        have ett : truthM (.tup (St.encs (t :: b))) (hp h r l ⟨s.ps, s.w + 1⟩) = .ok true (hp h r l ⟨s.ps, s.w + 1⟩) := rfl
        simp only [St.enc, ev_if, ev_test, ev_bin, ev_var (show [AG.Slot.v (.ref r), P, .v (.tup [.str "repeat", .int i, .tup (St.encs (t :: b))]), sl][2]? = some (.v (.tup [.str "repeat", .int i, .tup (St.encs (t :: b))])) from rfl), rb_ok, ev_c, op_ixT, at_0, eq_str, es_rz, es_rn, es_rc, ev_blM, ev_truth, at3, ett, ev_for, ev_rng1, if_true, Bool.false_eq_true, if_false]
        simp only [ev_bin] at e'
        simp only [ev_var (show [AG.Slot.v (.ref r), P, .v (.tup [.str "repeat", .int i, .tup (St.encs (t :: b))]), sl][2]? = some (.v (.tup [.str "repeat", .int i, .tup (St.encs (t :: b))])) from rfl), rb_ok, ev_c, op_ixT] at e'
        rw [e']
        simp only [rb_ok, er]
        rw [et]
        simp [St.run, tick, c]
end
/-- what has no work left raises at once, or has none to do -/
theorem run_w : ∀ (t : St) (s : PW), ¬ s.w ≤ 200000 → t.run s = (true, ⟨s.ps, s.w + 1⟩) := fun t s h => by
  have c : 200000 < s.w + 1 := by omega
  cases t <;> simp [St.run, tick, c]
section
variable {h : MH} {r l : Nat} {C : Int}
theorem do_ok (hC : 0 ≤ C) (hb : C ≤ 1000000) (hr : r < h.length) (hl : l < h.length) (hne : r ≠ l) : ∀ (k : Nat) (b : List St), St.deps b < k → St.oks b → ∀ s : PW, s.good C → s.w ≤ 200000 →
    recF (fun self => mFn 4 (m_Runner_do self)) k [.ref r, .tup (St.encs b)] (hp h r l s) = resM h r l .non (St.runs b s)
  | 0, b, hd, _, _, _, _ => by omega
  | k + 1, b, hd, ho, s, hs, hw => by
    have key : ∀ (c : List St), St.deps c ≤ k → St.oks c → ∀ (s : PW) (sl sl2 : AG.Slot), s.good C → s.w ≤ 200000 →
        ∃ sl' sl2', loopF (tgName 2) (b_Runner_do_2 (recF (fun self => mFn 4 (m_Runner_do self)) k)) (St.encs c) [.v (.ref r), .v (.tup (St.encs b)), sl, sl2] (hp h r l s) = resM h r l (Fl.nx [.v (.ref r), .v (.tup (St.encs b)), sl', sl2']) (St.runs c s) := by
      intro c
      induction c with
      | nil => exact fun _ _ s sl sl2 _ _ => ⟨sl, sl2, rfl⟩
      | cons t c ih =>
        intro hd ho s sl sl2 hs hw
        have hdt : t.dep ≤ k := Nat.le_trans (Nat.le_max_left _ _) hd
        have hdc : St.deps c ≤ k := Nat.le_trans (Nat.le_max_right _ _) hd
        obtain ⟨sl', e⟩ := step_ok (P := .v (.tup (St.encs b))) (self := recF (fun self => mFn 4 (m_Runner_do self)) k) hC hb t ho.1 (fun i b' et s hs hw => by
          subst et
          exact do_ok hC hb hr hl hne k b' (by simp only [St.dep] at hdt; omega) ho.1.2 s hs hw) hr hl hne s hs hw sl2
        cases q : t.run s with
        | mk f u =>
          rw [q] at e
          cases f with
          | true =>
            refine ⟨.no, .no, ?_⟩
            have : St.runs (t :: c) s = (true, u) := by rw [St.runs]; simp [q]
            rw [this, St.encs]
            simp only [loopF, tgName_, List.set_cons_succ, List.set_cons_zero, ev_bind, e, resM, rb_exc]
          | false =>
            obtain ⟨sl3, sl4, e3⟩ := ih hdc ho.2 u (.v t.enc) sl' (run_good hC t ho.1 s hs u q) (run_le t s u hw q)
            refine ⟨sl3, sl4, ?_⟩
            have : St.runs (t :: c) s = St.runs c u := by rw [St.runs]; simp [q]
            rw [this, St.encs, loopF_cons (by rfl) e]
            exact e3
    obtain ⟨sl', sl2', e⟩ := key b (by omega) ho s .no .no hs hw
    show mFn 4 (m_Runner_do _) [.ref r, .tup (St.encs b)] (hp h r l s) = _
    refine (show mFn 4 (m_Runner_do (recF (fun self => mFn 4 (m_Runner_do self)) k)) [.ref r, .tup (St.encs b)] (hp h r l s) = (loopF (tgName 2) (b_Runner_do_2 (recF (fun self => mFn 4 (m_Runner_do self)) k)) (St.encs b) [.v (.ref r), .v (.tup (St.encs b)), .no, .no] (hp h r l s)).bind fun fl h' => flD fl h' from rfl).trans ?_
    rw [e]
    cases q : St.runs b s with
    | mk f u => cases f <;> rfl
end
end L_k16
namespace L_k16
open PySem L2 AG
/-! ### bounds: plain numbers -/
def itN (f : Nat → Nat) : Nat → Nat → Nat
  | 0, n => n
  | k + 1, n => itN f k (f n)
mutual
def St.B : St → Nat → Nat
  | .z _, x => x
  | .n _, x => x + 1
  | .c _ _, x => x
  | .r _ b, x => itN (St.Bs b) x x
def St.Bs : List St → Nat → Nat
  | [], x => x
  | t :: b, x => St.Bs b (t.B x)
end
theorem itN_ge {f : Nat → Nat} (hf : ∀ n, n ≤ f n) : ∀ k n, n ≤ itN f k n
  | 0, n => Nat.le_refl _
  | k + 1, n => Nat.le_trans (hf n) (itN_ge hf k (f n))
theorem itN_mono {f : Nat → Nat} (hf : ∀ n, n ≤ f n) (hm : ∀ n m, n ≤ m → f n ≤ f m) : ∀ k l n m, k ≤ l → n ≤ m → itN f k n ≤ itN f l m
  | 0, l, n, m, _, h => Nat.le_trans h (itN_ge hf l m)
  | k + 1, 0, n, m, h, _ => by omega
  | k + 1, l + 1, n, m, h1, h2 => itN_mono hf hm k l (f n) (f m) (by omega) (hm n m h2)
mutual
theorem B_ge : ∀ (t : St) (n : Nat), n ≤ t.B n
  | .z _, n => by simp [St.B]
  | .n _, n => by simp [St.B]
  | .c _ _, n => by simp [St.B]
  | .r _ b, n => by
    rw [St.B]
    exact itN_ge (fun m => Bs_ge b m) n n
theorem Bs_ge : ∀ (b : List St) (n : Nat), n ≤ St.Bs b n
  | [], n => by simp [St.Bs]
  | t :: b, n => by
    rw [St.Bs]
    exact Nat.le_trans (B_ge t n) (Bs_ge b _)
end
mutual
theorem B_mono : ∀ (t : St) (n m : Nat), n ≤ m → t.B n ≤ t.B m
  | .z _, n, m, h => by simpa [St.B] using h
  | .n _, n, m, h => by simpa [St.B] using h
  | .c _ _, n, m, h => by simpa [St.B] using h
  | .r _ b, n, m, h => by
    rw [St.B, St.B]
    exact itN_mono (fun m => Bs_ge b m) (fun n m h => Bs_mono b n m h) n m n m h h
theorem Bs_mono : ∀ (b : List St) (n m : Nat), n ≤ m → St.Bs b n ≤ St.Bs b m
  | [], n, m, h => by simpa [St.Bs] using h
  | t :: b, n, m, h => by
    rw [St.Bs, St.Bs]
    exact Bs_mono b _ _ (B_mono t n m h)
end
theorem itN_id {f : Nat → Nat} (hf : ∀ n, f n = n) : ∀ k n, itN f k n = n
  | 0, n => rfl
  | k + 1, n => by rw [itN, hf n]; exact itN_id hf k n
/-- what leaves 2 as it is leaves all as they are -/
theorem Bs_lev : ∀ (b : List St), St.Bs b 2 = 2 → ∀ n, St.Bs b n = n
  | [], _, n => by rw [St.Bs]
  | t :: b, h, n => by
    rw [St.Bs] at h ⊢
    have g1 := B_ge t 2
    have g2 := Bs_ge b (t.B 2)
    have e2 : t.B 2 = 2 := by omega
    rw [e2] at h
    rw [Bs_lev b h]
    cases t with
    | z i => rw [St.B]
    | n i => rw [St.B] at e2; omega
    | c i j => rw [St.B]
    | r i c =>
      rw [St.B] at e2 ⊢
      have e3 : itN (St.Bs c) 2 2 = St.Bs c (St.Bs c 2) := rfl
      rw [e3] at e2
      have g3 := Bs_ge c 2
      have g4 := Bs_ge c (St.Bs c 2)
      have e4 : St.Bs c 2 = 2 := by omega
      exact itN_id (fun n => Bs_lev c e4 n) n n
/-- repeats of what changes nothing alone: a sum -/
def flat : List St → Bool
  | [] => true
  | .r _ c :: b => decide (St.Bs c 2 = 2) && flat b
  | _ :: b => flat b
def nx : List St → Nat
  | [] => 0
  | .n _ :: b => nx b + 1
  | _ :: b => nx b
theorem Bs_flat : ∀ (b : List St), flat b = true → ∀ n, St.Bs b n = n + nx b
  | [], _, n => by simp [St.Bs, nx]
  | .z i :: b, h, n => by rw [St.Bs, St.B, Bs_flat b h, nx]; simp
  | .n i :: b, h, n => by rw [St.Bs, St.B, Bs_flat b h, nx]; omega
  | .c i j :: b, h, n => by rw [St.Bs, St.B, Bs_flat b h, nx]; simp
  | .r i c :: b, h, n => by
    simp only [flat, Bool.and_eq_true, decide_eq_true_eq] at h
    rw [St.Bs, St.B, itN_id (fun n => Bs_lev c h.1 n), Bs_flat b h.2, nx]
    simp
theorem itN_add {f : Nat → Nat} {c : Nat} (hf : ∀ n, f n = n + c) : ∀ k n, itN f k n = n + k * c
  | 0, n => by simp [itN]
  | k + 1, n => by rw [itN, hf, itN_add hf k, Nat.succ_mul]; omega
/-! ### as the program makes them -/
def MS : Nat := 10 ^ 200
def itO (f : Nat → Option Nat) : Nat → Nat → Option Nat
  | 0, n => some n
  | k + 1, n => match f n with | none => none | some m => itO f k m
def chk (n : Nat) : Option Nat := if MS ≤ n then none else some n
mutual
def St.bd : St → Nat → Option Nat
  | .z _, x => some x
  | .n _, x => chk (x + 1)
  | .c _ _, x => some x
  | .r _ b, x => match St.bds b 2 with
    | none => none
    | some l => if l = 2 then some x else match St.alv b with
      | none => none
      | some true => (match St.bds b x with | none => none | some m => chk (x + x * (m - x)))
      | some false => itO (St.bds b) (min x MS) x
def St.bds : List St → Nat → Option Nat
  | [], x => some x
  | t :: b, x => match t.bd x with | none => none | some m => St.bds b m
def St.alv : List St → Option Bool
  | [] => some true
  | t :: b => match t.al1 with | none => none | some x => (match St.alv b with | none => none | some y => some (x && y))
def St.al1 : St → Option Bool
  | .z _ => some true
  | .n _ => some true
  | .c _ _ => some true
  | .r _ b => match St.bds b 2 with | none => none | some l => some (decide (l = 2))
end
mutual
def St.sm1 : St → Prop
  | .z _ => True
  | .n _ => True
  | .c _ _ => True
  | .r _ b => St.Bs b 2 < MS ∧ St.sms b
def St.sms : List St → Prop
  | [] => True
  | t :: b => t.sm1 ∧ St.sms b
end
def cut (n : Nat) : Option Nat := if n < MS then some n else none
theorem chk_cut (n : Nat) : chk n = cut n := by
  unfold chk cut
  by_cases h : n < MS
  · rw [if_neg (by omega), if_pos h]
  · rw [if_pos (by omega), if_neg h]
theorem cut_lt {n : Nat} (h : n < MS) : cut n = some n := if_pos h
theorem cut_ge {n : Nat} (h : MS ≤ n) : cut n = none := if_neg (by omega)
theorem itO_cut {f : Nat → Option Nat} {g : Nat → Nat} (hg : ∀ n, n ≤ g n) (hf : ∀ n, n < MS → f n = cut (g n)) : ∀ k n, n < MS → itO f k n = cut (itN g k n)
  | 0, n, h => by rw [itO, itN, cut_lt h]
  | k + 1, n, h => by
    rw [itO, hf n h, itN]
    by_cases c : g n < MS
    · rw [cut_lt c]
      exact itO_cut hg hf k (g n) c
    · rw [cut_ge (by omega), cut_ge (Nat.le_trans (by omega) (itN_ge hg k (g n)))]
theorem two_MS : 2 < MS := by decide
theorem nx_le : ∀ b : List St, flat b = true → nx b + 2 = St.Bs b 2 := fun b h => by rw [Bs_flat b h]; omega
mutual
theorem bd_ok : ∀ (t : St), t.sm1 → ∀ n, n < MS → t.bd n = cut (t.B n)
  | .z i, _, n, h => by rw [St.bd, St.B, cut_lt h]
  | .n i, _, n, h => by rw [St.bd, St.B, chk_cut]
  | .c i j, _, n, h => by rw [St.bd, St.B, cut_lt h]
  | .r i b, hs, n, h => by
    obtain ⟨h2, hb⟩ := hs
    have e2 := bds_ok b hb 2 two_MS
    rw [cut_lt h2] at e2
    rw [St.bd, St.B, e2]
    dsimp only
    by_cases c : St.Bs b 2 = 2
    · rw [if_pos c, itN_id (fun n => Bs_lev b c n), cut_lt h]
    · rw [if_neg c, alv_ok b hb]
      cases q : flat b with
      | true =>
        dsimp only
        rw [bds_ok b hb n h, Bs_flat b q]
        have l := nx_le b q
        rw [itN_add (fun n => Bs_flat b q n)]
        by_cases d : n + nx b < MS
        · rw [cut_lt d]
          dsimp only
          rw [chk_cut]
          have : n + nx b - n = nx b := by omega
          rw [this]
        · rw [cut_ge (by omega)]
          dsimp only
          have : 1 ≤ n := by omega
          have : 1 * nx b ≤ n * nx b := Nat.mul_le_mul_right _ this
          rw [cut_ge (by omega)]
      | false =>
        dsimp only
        rw [Nat.min_eq_left (by omega)]
        exact itO_cut (fun n => Bs_ge b n) (fun n h => bds_ok b hb n h) n n h
theorem bds_ok : ∀ (b : List St), St.sms b → ∀ n, n < MS → St.bds b n = cut (St.Bs b n)
  | [], _, n, h => by rw [St.bds, St.Bs, cut_lt h]
  | t :: b, hs, n, h => by
    rw [St.bds, St.Bs, bd_ok t hs.1 n h]
    by_cases c : t.B n < MS
    · rw [cut_lt c]
      exact bds_ok b hs.2 _ c
    · rw [cut_ge (by omega), cut_ge (Nat.le_trans (by omega) (Bs_ge b _))]
theorem alv_ok : ∀ (b : List St), St.sms b → St.alv b = some (flat b)
  | [], _ => by rw [St.alv, flat]
  | .z i :: b, hs => by simp [St.alv, St.al1, alv_ok b hs.2, flat]
  | .n i :: b, hs => by simp [St.alv, St.al1, alv_ok b hs.2, flat]
  | .c i j :: b, hs => by simp [St.alv, St.al1, alv_ok b hs.2, flat]
  | .r i c :: b, hs => by
    have h1 : St.Bs c 2 < MS := hs.1.1
    have e2 := bds_ok c hs.1.2 2 two_MS
    rw [cut_lt h1] at e2
    simp [St.alv, St.al1, alv_ok b hs.2, flat, e2]
end
/-! ### as the law makes them -/
def itL (f : Nat → Option Nat) : Nat → Nat → Option Nat
  | 0, n => some n
  | k + 1, n => match f n with | none => none | some m => itL f k m
def lim (M : Nat) (o : Option Nat) : Option Nat := match o with | none => none | some n => if M < n then none else some n
mutual
def St.lb (M : Nat) : St → Nat → Option Nat
  | .z _, x => some x
  | .n _, x => some (x + 1)
  | .c _ _, x => some x
  | .r _ b, x => itL (St.lbs M b) x x
def St.lbs (M : Nat) : List St → Nat → Option Nat
  | [], x => some x
  | t :: b, x => match lim M (t.lb M x) with | none => none | some m => St.lbs M b m
end
def cutL (M n : Nat) : Option Nat := if n ≤ M then some n else none
theorem lim_cut {M n : Nat} : lim M (cutL M n) = cutL M n := by
  unfold cutL
  split
  · rename_i h
    show (if M < n then none else some n) = some n
    rw [if_neg (by omega)]
  · rfl
theorem lim_some {M n : Nat} : lim M (some n) = cutL M n := by
  unfold cutL lim
  by_cases h : n ≤ M
  · rw [if_pos h]; exact if_neg (by omega)
  · rw [if_neg h]; exact if_pos (by omega)
theorem itL_cut {M : Nat} {f : Nat → Option Nat} {g : Nat → Nat} (hg : ∀ n, n ≤ g n) (hf : ∀ n, n ≤ M → f n = cutL M (g n)) : ∀ k n, n ≤ M → itL f k n = cutL M (itN g k n)
  | 0, n, h => by rw [itL, itN]; exact (if_pos h).symm
  | k + 1, n, h => by
    rw [itL, hf n h, itN]
    by_cases c : g n ≤ M
    · rw [show cutL M (g n) = some (g n) from if_pos c]
      exact itL_cut hg hf k (g n) c
    · rw [show cutL M (g n) = none from if_neg c]
      exact (if_neg (fun q => c (Nat.le_trans (itN_ge hg k (g n)) q))).symm
mutual
theorem lb_ok {M : Nat} : ∀ (t : St) (n : Nat), n ≤ M → lim M (t.lb M n) = cutL M (t.B n)
  | .z i, n, h => by rw [St.lb, St.B, lim_some]
  | .n i, n, h => by rw [St.lb, St.B, lim_some]
  | .c i j, n, h => by rw [St.lb, St.B, lim_some]
  | .r i b, n, h => by
    rw [St.lb, St.B, itL_cut (fun n => Bs_ge b n) (fun n h => lbs_ok b n h) n n h, lim_cut]
theorem lbs_ok {M : Nat} : ∀ (b : List St) (n : Nat), n ≤ M → St.lbs M b n = cutL M (St.Bs b n)
  | [], n, h => by rw [St.lbs, St.Bs]; exact (if_pos h).symm
  | t :: b, n, h => by
    rw [St.lbs, St.Bs, lb_ok t n h]
    by_cases c : t.B n ≤ M
    · rw [show cutL M (t.B n) = some (t.B n) from if_pos c]
      exact lbs_ok b _ c
    · rw [show cutL M (t.B n) = none from if_neg c]
      exact (if_neg (fun q => c (Nat.le_trans (Bs_ge b _) q))).symm
end
/-! ### no place passes the bound -/
def PW.le (s : PW) (n : Nat) : Prop := s.ps.length = 4 ∧ ∀ p ∈ s.ps, 0 ≤ p ∧ p ≤ (n : Int)
theorem le_up {s : PW} {n m : Nat} (h : s.le n) (k : n ≤ m) : s.le m := ⟨h.1, fun p hp => by have := h.2 p hp; omega⟩
theorem le_set {s : PW} {n i : Nat} {v w : Int} (h : s.le n) (h0 : 0 ≤ v) (h1 : v ≤ n) : PW.le ⟨s.ps.set i v, w⟩ n :=
  ⟨by simp [h.1], fun p hp => by
    rcases List.mem_or_eq_of_mem_set hp with q | q
    · exact h.2 p q
    · subst q; exact ⟨h0, h1⟩⟩
theorem le_get {s : PW} {n i : Nat} (h : s.le n) (hi : i < 4) : 0 ≤ s.ps.getD i 0 ∧ s.ps.getD i 0 ≤ n := by
  have hl : i < s.ps.length := by rw [h.1]; exact hi
  have e2 : s.ps.getD i 0 = s.ps[i] := by rw [List.getD_eq_getElem?_getD, List.getElem?_eq_getElem hl]; rfl
  rw [e2]
  exact h.2 _ (List.getElem_mem hl)
theorem iter_B {f : PW → Res} {g : Nat → Nat} (hf : ∀ s n u, s.le n → f s = (false, u) → u.le (g n)) : ∀ (k : Nat) (s : PW) (n : Nat) (u : PW), s.le n → iter f k s = (false, u) → u.le (itN g k n)
  | 0, s, n, u, h, e => by cases e; exact h
  | k + 1, s, n, u, h, e => by
    simp only [iter] at e
    split at e
    · cases e
    · rename_i v q
      exact iter_B hf k v (g n) u (hf s n v h q) e
theorem tick_B {s : PW} {n : Nat} {k : PW → Res} {m : Nat} (h : s.le n) (hk : ∀ v, v.le n → ∀ u, k v = (false, u) → u.le m) : ∀ u, tick s k = (false, u) → u.le m := fun u e => by
  unfold tick at e
  split at e
  · cases e
  · exact hk ⟨s.ps, s.w + 1⟩ ⟨h.1, h.2⟩ u e
mutual
theorem run_B : ∀ (t : St), t.okS → ∀ (s : PW) (n : Nat) (u : PW), s.le n → t.run s = (false, u) → u.le (t.B n)
  | .z i, ho, s, n, u, h, e => by
    rw [St.run] at e
    rw [St.B]
    exact tick_B h (fun v hv u e => by cases e; exact le_set hv (Int.le_refl 0) (by omega)) u e
  | .n i, ho, s, n, u, h, e => by
    rw [St.run] at e
    rw [St.B]
    exact tick_B h (fun v hv u e => by
      cases e
      obtain ⟨g0, g1⟩ := le_get hv (show i < 4 from ho)
      exact le_set (le_up hv (Nat.le_succ n)) (by omega) (by omega)) u e
  | .c i j, ho, s, n, u, h, e => by
    rw [St.run] at e
    rw [St.B]
    exact tick_B h (fun v hv u e => by
      cases e
      obtain ⟨g0, g1⟩ := le_get hv (show j < 4 from ho.2)
      exact le_set hv g0 g1) u e
  | .r i b, ho, s, n, u, h, e => by
    rw [St.run] at e
    rw [St.B]
    refine tick_B h (fun v hv u e => ?_) u e
    obtain ⟨g0, g1⟩ := le_get hv (show i < 4 from ho.1)
    have up : itN (St.Bs b) (v.ps.getD i 0).toNat n ≤ itN (St.Bs b) n n := itN_mono (fun m => Bs_ge b m) (fun n m h => Bs_mono b n m h) _ _ _ _ (by omega) (Nat.le_refl _)
    split at e
    · cases e; exact le_up hv (itN_ge (fun m => Bs_ge b m) n n)
    · exact le_up (iter_B (fun s n u h e => runs_B b ho.2 s n u h e) _ v n u hv e) up
theorem runs_B : ∀ (b : List St), St.oks b → ∀ (s : PW) (n : Nat) (u : PW), s.le n → St.runs b s = (false, u) → u.le (St.Bs b n)
  | [], _, s, n, u, h, e => by rw [St.runs] at e; cases e; rw [St.Bs]; exact h
  | t :: b, ho, s, n, u, h, e => by
    rw [St.runs] at e
    dsimp only at e
    split at e
    · cases e
    · rename_i v q
      rw [St.Bs]
      exact runs_B b ho.2 v _ u (run_B t ho.1 s n v h q) e
end
/-! ### nested ones -/
def pn : Nat → List St
  | 0 => [.n 0]
  | d + 1 => [.c (d + 1) 0, .r (d + 1) (pn d)]
theorem getD_set {ps : List Int} {i j : Nat} {v : Int} (hl : ps.length = 4) (hi : i < 4) : (ps.set i v).getD j 0 = if i = j then v else ps.getD j 0 := by
  rw [List.getD_eq_getElem?_getD, List.getElem?_set, List.getD_eq_getElem?_getD]
  by_cases e : i = j
  · simp [e, show j < ps.length by omega]
  · simp [e]
theorem iter_pn {f : PW → Res} {g : Nat → Nat} (hf : ∀ (s : PW) (n : Nat) (u : PW), s.ps.length = 4 → s.ps.getD 0 0 = (n : Int) → f s = (false, u) → u.ps.length = 4 ∧ u.ps.getD 0 0 = (g n : Int)) : ∀ (k : Nat) (s : PW) (n : Nat) (u : PW), s.ps.length = 4 → s.ps.getD 0 0 = (n : Int) → iter f k s = (false, u) → u.ps.length = 4 ∧ u.ps.getD 0 0 = (itN g k n : Int)
  | 0, s, n, u, h, h0, e => by cases e; exact ⟨h, h0⟩
  | k + 1, s, n, u, h, h0, e => by
    simp only [iter] at e
    split at e
    · cases e
    · rename_i v q
      obtain ⟨a, b⟩ := hf s n v h h0 q
      exact iter_pn hf k v (g n) u a b e
theorem pn_run : ∀ (d : Nat), d ≤ 3 → ∀ (s : PW) (n : Nat) (u : PW), s.ps.length = 4 → s.ps.getD 0 0 = (n : Int) → St.runs (pn d) s = (false, u) → u.ps.length = 4 ∧ u.ps.getD 0 0 = (St.Bs (pn d) n : Int)
  | 0, _, s, n, u, h, h0, e => by
    simp only [pn, St.runs, St.run, tick] at e
    split at e
    · cases e
    · rename_i v q
      split at q
      · cases q
      · cases q
        cases e
        refine ⟨by simp [h], ?_⟩
        have h0' : s.ps.getD 0 0 = (n : Int) := h0
        simp only [getD_set h (show 0 < 4 by decide), if_true, h0', pn, St.Bs, St.B]
        omega
  | d + 1, hd, s, n, u, h, h0, e => by
    simp only [pn, St.runs, St.run, tick] at e
    split at e
    · cases e
    · rename_i v q
      split at q
      · cases q
      · cases q
        split at e
        · cases e
        · rename_i v2 q2
          cases e
          split at q2
          · cases q2
          · have hi : d + 1 < 4 := by omega
            have ne : (pn d).isEmpty = false := by cases d <;> rfl
            simp only [ne, Bool.false_eq_true, if_false] at q2
            have e1 : ((s.ps.set (d + 1) (s.ps.getD 0 0)).getD (d + 1) 0) = (n : Int) := by rw [getD_set h hi, if_pos rfl, h0]
            have e0 : ((s.ps.set (d + 1) (s.ps.getD 0 0)).getD 0 0) = (n : Int) := by rw [getD_set h hi, if_neg (by omega), h0]
            simp only [e1, Int.toNat_natCast] at q2
            obtain ⟨a, b⟩ := iter_pn (g := St.Bs (pn d)) (fun s n u h h0 e => pn_run d (by omega) s n u h h0 e) n _ n _ (by simp [h]) e0 q2
            refine ⟨a, ?_⟩
            rw [b]
            simp only [pn, St.Bs, St.B]
end L_k16
namespace L_k16
open PySem L2 AG
/-! ### bound, as the program makes it -/
theorem es_zn : D.eqv (.str "zero") (.str "next") = false := by decide +kernel
theorem es_zr : D.eqv (.str "zero") (.str "repeat") = false := by decide +kernel
theorem es_nr : D.eqv (.str "next") (.str "repeat") = false := by decide +kernel
theorem es_cr : D.eqv (.str "copy") (.str "repeat") = false := by decide +kernel
theorem es_rr : D.eqv (.str "repeat") (.str "repeat") = true := by decide +kernel
theorem ne_str {a b : Str} {h : MH} : opNe (.str a) (.str b) h = .ok (.bl (!D.eqv (.str a) (.str b))) h := rfl
def resO (h : MH) : Option Nat → R D
  | none => .exc 1 h
  | some n => .ok (.int (n : Int)) h
section
variable {h : MH}
theorem ms_c : c_MOST_STAGE = .int ((MS : Nat) : Int) := by
  have : ((MS : Nat) : Int) = 10 ^ 200 := by decide +kernel
  rw [this]
  exact congrArg D.int (by decide +kernel)
theorem checked_ok {n : Nat} : f_checked [.int (n : Int)] h = resO h (cut n) := by
  unfold cut
  by_cases c : n < MS
  · have : ¬ ((MS : Nat) : Int) ≤ (n : Int) := by omega
    simp [f_checked, m_checked, ms_c, this, c, resO]
  · have : ((MS : Nat) : Int) ≤ (n : Int) := by omega
    simp [f_checked, m_checked, ms_c, this, c, resO, mRaise]
def tb (k : Nat) : LOp × LOp × LOp := recP3 (fun a b c => mFn 1 (m_is_level a b c)) (fun a b c => mFn 4 (m_repeated a b c)) (fun a b c => mFn 3 (m_bound a b c)) k
mutual
def St.shS : St → Prop
  | .z _ => True
  | .n _ => True
  | .c _ _ => True
  | .r _ b => b.length ≤ 1000 ∧ St.shs b
def St.shs : List St → Prop
  | [] => True
  | t :: b => t.shS ∧ St.shs b
end
structure Tb (il rp bd : LOp) (h : MH) (k : Nat) : Prop where
  bd : ∀ (b : List St) (n : Nat), 3 * St.deps b + 1 ≤ k → St.sms b → St.shs b → n < MS → bd [.tup (St.encs b), .int (n : Int)] h = resO h (cut (St.Bs b n))
  il : ∀ (b : List St), 3 * St.deps b + 2 ≤ k → St.sms b → St.shs b → St.Bs b 2 < MS → il [.tup (St.encs b)] h = .ok (.bl (decide (St.Bs b 2 = 2))) h
  rp : ∀ (b : List St) (n : Nat), 3 * St.deps b + 3 ≤ k → St.sms b → St.shs b → St.Bs b 2 < MS → b.length ≤ 1000 → n < MS → rp [.tup (St.encs b), .int (n : Int)] h = resO h (cut (itN (St.Bs b) n n))
theorem bound_loop {il rp bd : LOp} {k : Nat} (T : Tb il rp bd h k) {P : AG.Slot} : ∀ (b : List St) (n : Nat) (sl : AG.Slot), 3 * St.deps b ≤ k → St.sms b → St.shs b → n < MS →
    ∃ sl', loopF (tgName 2) (b_bound_1 il rp bd) (St.encs b) [P, .v (.int (n : Int)), sl] h = match cut (St.Bs b n) with
      | none => .exc 1 h
      | some m => .ok (.nx [P, .v (.int (m : Int)), sl']) h
  | [], n, sl, _, _, _, hn => ⟨sl, by rw [St.Bs, cut_lt hn]; rfl⟩
  | t :: b, n, sl, hk, hs, hw, hn => by
    have hk1 : 3 * t.dep ≤ k := Nat.le_trans (Nat.mul_le_mul_left 3 (Nat.le_max_left _ _)) hk
    have hk2 : 3 * St.deps b ≤ k := Nat.le_trans (Nat.mul_le_mul_left 3 (Nat.le_max_right _ _)) hk
    have st : b_bound_1 il rp bd [P, .v (.int (n : Int)), .v t.enc] h = match cut (t.B n) with
        | none => .exc 1 h
        | some m => .ok (.nx [P, .v (.int (m : Int)), .v t.enc]) h := by
      cases t with
      | z i => rw [St.B, cut_lt hn]; simp [b_bound_1, St.enc, eq_str, es_zn, es_zr]
      | n i =>
        rw [St.B]
        have e := checked_ok (h := h) (n := n + 1)
        have e' : f_checked [.int ((n : Int) + 1)] h = resO h (cut (n + 1)) := e
        cases q : cut (n + 1) with
        | none => rw [q] at e'; simp [b_bound_1, St.enc, eq_str, es_nn, e', resO]
        | some m => rw [q] at e'; simp [b_bound_1, St.enc, eq_str, es_nn, e', resO]
      | c i j => rw [St.B, cut_lt hn]; simp [b_bound_1, St.enc, eq_str, es_cn, es_cr]
      | r i c =>
        rw [St.B]
        have e := T.rp c n (by simp only [St.dep] at hk1; omega) hs.1.2 hw.1.2 hs.1.1 hw.1.1 hn
        cases q : cut (itN (St.Bs c) n n) with
        | none => rw [q] at e; simp [b_bound_1, St.enc, eq_str, es_rn, es_rr, at3, e, resO]
        | some m => rw [q] at e; simp [b_bound_1, St.enc, eq_str, es_rn, es_rr, at3, e, resO]
    rw [St.Bs, St.encs]
    by_cases c : t.B n < MS
    · rw [cut_lt c] at st
      obtain ⟨sl', e⟩ := bound_loop T b (t.B n) (.v t.enc) hk2 hs.2 hw.2 c
      refine ⟨sl', ?_⟩
      rw [loopF_cons (by rfl) st]
      exact e
    · rw [cut_ge (by omega)] at st
      refine ⟨sl, ?_⟩
      rw [cut_ge (Nat.le_trans (by omega) (Bs_ge b _))]
      simp only [loopF, tgName_, List.set_cons_succ, List.set_cons_zero, ev_bind, st, rb_exc]
theorem rep_loop {il rp bd : LOp} {k : Nat} (T : Tb il rp bd h k) {b : List St} (hk : 3 * St.deps b + 1 ≤ k) (hs : St.sms b) (hw : St.shs b) {s3 : AG.Slot} : ∀ (xs : List D) (n : Nat) (sl : AG.Slot), n < MS →
    ∃ sl', loopF (tgName 2) (b_repeated_1 il rp bd) xs [.v (.tup (St.encs b)), .v (.int (n : Int)), sl, s3] h = match cut (itN (St.Bs b) xs.length n) with
      | none => .exc 1 h
      | some m => .ok (.nx [.v (.tup (St.encs b)), .v (.int (m : Int)), sl', s3]) h
  | [], n, sl, hn => ⟨sl, by simp only [List.length_nil, itN, cut_lt hn]; rfl⟩
  | x :: xs, n, sl, hn => by
    have e := T.bd b n hk hs hw hn
    rw [List.length_cons, itN]
    by_cases c : St.Bs b n < MS
    · rw [cut_lt c] at e
      obtain ⟨sl', e2⟩ := rep_loop T hk hs hw (s3 := s3) xs (St.Bs b n) (.v x) c
      refine ⟨sl', ?_⟩
      rw [loopF_cons (env1 := [.v (.tup (St.encs b)), .v (.int (n : Int)), .v x, s3]) (e := [.v (.tup (St.encs b)), .v (.int ((St.Bs b n : Nat) : Int)), .v x, s3]) (h' := h) (by rfl) (by simp [b_repeated_1, e, resO])]
      exact e2
    · rw [cut_ge (by omega)] at e
      refine ⟨sl, ?_⟩
      rw [cut_ge (Nat.le_trans (by omega) (itN_ge (fun n => Bs_ge b n) _ _))]
      have e2 : b_repeated_1 il rp bd [.v (.tup (St.encs b)), .v (.int (n : Int)), .v x, s3] h = .exc 1 h := by simp [b_repeated_1, e, resO]
      simp only [loopF, tgName_, List.set_cons_succ, List.set_cons_zero, ev_bind, e2, rb_exc]
def fl1 : St → Bool
  | .r _ c => decide (St.Bs c 2 = 2)
  | _ => true
theorem flat_all : ∀ b : List St, flat b = b.all fl1
  | [] => rfl
  | .z _ :: b => by simp [flat, fl1, flat_all b]
  | .n _ :: b => by simp [flat, fl1, flat_all b]
  | .c _ _ :: b => by simp [flat, fl1, flat_all b]
  | .r _ c :: b => by simp [flat, fl1, flat_all b]
theorem encs_map : ∀ b : List St, St.encs b = b.map St.enc
  | [] => rfl
  | t :: b => by rw [St.encs, encs_map b]; rfl
theorem mem_sms : ∀ {b : List St} {t : St}, St.sms b → t ∈ b → t.sm1 ∧ t.dep ≤ St.deps b
  | s :: b, t, h, m => by
    rcases List.mem_cons.mp m with e | m
    · subst e; exact ⟨h.1, Nat.le_max_left _ _⟩
    · have := mem_sms h.2 m; exact ⟨this.1, Nat.le_trans this.2 (Nat.le_max_right _ _)⟩
theorem mem_shs : ∀ {b : List St} {t : St}, St.shs b → t ∈ b → t.shS
  | s :: b, t, h, m => by
    rcases List.mem_cons.mp m with e | m
    · subst e; exact h.1
    · exact mem_shs h.2 m
theorem all_comp {il rp bd : LOp} {k : Nat} (T : Tb il rp bd h k) {b : List St} (hk : 3 * St.deps b ≤ k) (hs : St.sms b) (hw : St.shs b) {s0 s1 s2 : AG.Slot} :
    compF (tgName 3) mYes (e_repeated_1 il rp bd) [s0, s1, s2, .no] (St.encs b) h = .ok (b.map fun t => .bl (fl1 t)) h := by
  rw [encs_map]
  refine compF_map (f := St.enc) (g := fun t => D.bl (fl1 t)) fun t ht => ⟨_, rfl, ?_⟩
  obtain ⟨h1, h2⟩ := mem_sms hs ht
  cases t with
  | z i => simp [e_repeated_1, St.enc, ne_str, es_zr, fl1]
  | n i => simp [e_repeated_1, St.enc, ne_str, es_nr, fl1]
  | c i j => simp [e_repeated_1, St.enc, ne_str, es_cr, fl1]
  | r i c =>
    have e := T.il c (by simp only [St.dep] at h2; omega) h1.2 (mem_shs hw ht).2 h1.1
    simp [e_repeated_1, St.enc, ne_str, es_rr, fl1, at3, e]
theorem mulOk_MS {n m : Nat} (hn : n < MS) (hm : m < MS) : mulOk (n : Int) (m : Int) = true := by
  have a : MS < 2 ^ 700 := by decide +kernel
  have b1 : n < BIG := BIG_of (k := 700) (by omega) (by decide)
  have b2 : m < BIG := BIG_of (k := 700) (by omega) (by decide)
  simp [mulOk, b1, b2]
theorem tb_zero : Tb (tb 0).1 (tb 0).2.1 (tb 0).2.2 h 0 := ⟨fun _ _ h => by omega, fun _ h => by omega, fun _ _ h => by omega⟩
theorem tb_succ {il rp bd : LOp} {k : Nat} (T : Tb il rp bd h k) : Tb (mFn 1 (m_is_level il rp bd)) (mFn 4 (m_repeated il rp bd)) (mFn 3 (m_bound il rp bd)) h (k + 1) := by
  refine ⟨fun b n hk hs hw hn => ?_, fun b hk hs hw h2 => ?_, fun b n hk hs hw h2 hl hn => ?_⟩
  · obtain ⟨sl', e⟩ := bound_loop T (P := .v (.tup (St.encs b))) b n .no (by omega) hs hw hn
    cases q : cut (St.Bs b n) with
    | none => rw [q] at e; simp [m_bound, e, resO]
    | some m => rw [q] at e; simp [m_bound, e, resO]
  · have e := T.bd b 2 (by omega) hs hw two_MS
    rw [cut_lt h2] at e
    have e : bd [.tup (St.encs b), .int 2] h = .ok (.int ((St.Bs b 2 : Nat) : Int)) h := e
    have d : decide (((St.Bs b 2 : Nat) : Int) = 2) = decide (St.Bs b 2 = 2) := by
      by_cases q : St.Bs b 2 = 2
      · simp [q]
      · have : ¬ ((St.Bs b 2 : Nat) : Int) = 2 := by omega
        simp [q, this]
    simp [m_is_level, e, d]
  · have e1 := T.il b (by omega) hs hw h2
    have e2 := all_comp T (b := b) (by omega) hs hw (s0 := .v (.tup (St.encs b))) (s1 := .v (.int (n : Int))) (s2 := .no)
    have e3 := T.bd b n (by omega) hs hw hn
    have fa : fAll [.lst (b.map fun t => .bl (fl1 t))] h = .ok (.bl (b.all fl1)) h := fAll_map
    have l1 : (St.encs b).length ≤ 16777216 := by rw [encs_len]; omega
    by_cases c : St.Bs b 2 = 2
    · rw [itN_id (fun n => Bs_lev b c n), cut_lt hn]
      rw [decide_eq_true c] at e1
      simp [m_repeated, e1, resO]
    · rw [decide_eq_false c] at e1
      cases q : flat b with
      | true =>
        rw [← flat_all, q] at fa
        have l := nx_le b q
        rw [itN_add (fun n => Bs_flat b q n)]
        rw [Bs_flat b q] at e3
        by_cases d : n + nx b < MS
        · rw [cut_lt d] at e3
          have mo := mulOk_MS hn (show nx b < MS by omega)
          have ck := checked_ok (h := h) (n := n + n * nx b)
          have ex : ((n : Int) + ((nx b : Nat) : Int) - (n : Int)) = ((nx b : Nat) : Int) := by omega
          have mm : opMul (.int (n : Int)) (.int ((nx b : Nat) : Int)) h = .ok (.int ((n : Int) * (nx b : Int))) h := by
            show (if mulOk (n : Int) ((nx b : Nat) : Int) = true then M.pure (D.int ((n : Int) * (nx b : Int))) else M.bad) h = _
            rw [if_pos mo]
            rfl
          have ck' : f_checked [.int ((n : Int) + (n : Int) * (nx b : Int))] h = resO h (cut (n + n * nx b)) := by rw [← ck]; simp
          simp only [resO] at e3
          have e3' : bd [.tup (St.encs b), .int (n : Int)] h = .ok (.int ((n : Int) + (nx b : Int))) h := by rw [e3]; simp
          cases q2 : cut (n + n * nx b) with
          | none => rw [q2] at ck'; simp [m_repeated, e1, wipeE, e2, l1, fa, e3', ex, mm, ck', resO]
          | some m => rw [q2] at ck'; simp [m_repeated, e1, wipeE, e2, l1, fa, e3', ex, mm, ck', resO]
        · rw [cut_ge (by omega)] at e3
          have g1 : 1 ≤ n := by omega
          have g2 : 1 * nx b ≤ n * nx b := Nat.mul_le_mul_right _ g1
          rw [cut_ge (by omega)]
          simp [m_repeated, e1, wipeE, e2, l1, fa, e3, resO]
      | false =>
        rw [← flat_all, q] at fa
        have mn : fMinA [.int (n : Int), c_MOST_STAGE] h = .ok (.int (n : Int)) h := by
          rw [ms_c]
          show R.ok (D.int (if ((MS : Nat) : Int) < (n : Int) then ((MS : Nat) : Int) else (n : Int))) h = _
          rw [if_neg (by omega)]
        have er : rng1M (.int (n : Int)) h = .ok (rngD 0 n) h := by
          show R.ok (rngD 0 ((n : Int)).toNat) h = _
          rw [Int.toNat_natCast]
        obtain ⟨sl', e4⟩ := rep_loop T (b := b) (by omega) hs hw (s3 := .no) (rngD 0 n) n .no hn
        have lr : (rngD 0 n).length = n := by simp [rngD_def]
        rw [lr] at e4
        cases q2 : cut (itN (St.Bs b) n n) with
        | none => rw [q2] at e4; simp [m_repeated, e1, wipeE, e2, l1, fa, mn, er, e4, resO]
        | some m => rw [q2] at e4; simp [m_repeated, e1, wipeE, e2, l1, fa, mn, er, e4, resO]
theorem tb_ok : ∀ k, Tb (tb k).1 (tb k).2.1 (tb k).2.2 h k
  | 0 => tb_zero
  | k + 1 => tb_succ (tb_ok k)
theorem bound_ok {b : List St} {n : Nat} (hd : St.deps b ≤ 20) (hs : St.sms b) (hw : St.shs b) (hn : n < MS) : f_bound [.tup (St.encs b), .int (n : Int)] h = resO h (cut (St.Bs b n)) := (tb_ok 70).bd b n (by omega) hs hw hn
def oD : Option Nat → D
  | none => .non
  | some n => .int (n : Int)
theorem told_bound_ok {b : List St} {n : Nat} (hd : St.deps b ≤ 20) (hs : St.sms b) (hw : St.shs b) (hn : n < MS) : f__law_told_bound [.tup (St.encs b), .int (n : Int)] h = .ok (oD (cut (St.Bs b n))) h := by
  have e := bound_ok (h := h) hd hs hw hn
  cases q : cut (St.Bs b n) with
  | none =>
    rw [q] at e
    simp only [resO] at e
    have s : s_of_Above 1 = some true := rfl
    simp [f__law_told_bound, m__law_told_bound, mTry, e, R.catch, s, R.bind, R.calm, rtOnly, oD]
  | some m =>
    rw [q] at e
    simp only [resO] at e
    simp [f__law_told_bound, m__law_told_bound, mTry, e, R.catch, R.bind, R.calm, rtOnly, oD]
end
end L_k16
namespace L_k16
open PySem L2 AG
/-! ### the law's own run -/
/-- its objects: the places at l, the work at d -/
def hq (h : MH) (l d : Nat) (s : PW) : MH := (h.set l (.lst (s.ps.map D.int))).set d (.dky [(.inr "work", .int s.w)])
section
variable {h : MH} {l d : Nat} {s : PW}
theorem hq_d (hd : d < h.length) : (hq h l d s)[d]? = some (.dky [(.inr "work", .int s.w)]) := by
  unfold hq
  rw [List.getElem?_set_self (by simpa using hd)]
theorem hq_l (hl : l < h.length) (hne : l ≠ d) : (hq h l d s)[l]? = some (.lst (s.ps.map D.int)) := by
  unfold hq
  rw [List.getElem?_set_ne (Ne.symm hne), List.getElem?_set_self hl]
theorem hq_setd {w : Int} : (hq h l d s).set d (.dky [(.inr "work", .int w)]) = hq h l d ⟨s.ps, w⟩ := by
  unfold hq
  rw [List.set_set]
theorem hq_setl (hne : l ≠ d) {xs : List D} {ps : List Int} (e : xs = ps.map D.int) : (hq h l d s).set l (.lst xs) = hq h l d ⟨ps, s.w⟩ := by
  subst e
  unfold hq
  rw [List.set_comm _ _ (Ne.symm hne), List.set_set]
theorem kget_w {w : Int} : kGet [((.inr "work" : Key), D.int w)] (.inr "work") = some (.int w) := by simp [kGet]
theorem kput_w {w : Int} {x : D} : kPut [((.inr "work" : Key), D.int w)] (.inr "work") x = [(.inr "work", x)] := by simp [kPut]
theorem key_w : (D.str "work").key = some (.inr "work") := rfl
theorem getW {env : AG.Env} (hd : d < h.length) (he : env[2]? = some (.v (.ref d))) : mBin opGetK (mVar 2) (mC (.str "work")) env (hq h l d s) = .ok (.int s.w) (hq h l d s) := by
  have ev : mVar 2 env (hq h l d s) = .ok (.ref d) (hq h l d s) := ev_var he
  simp only [ev_bin, ev, rb_ok, ev_c, opGetK, hq_d (s := s) hd, key_w, kget_w]
theorem setW {env : AG.Env} {v : AG.Env → M D} {x : Int} (hd : d < h.length) (he : env[2]? = some (.v (.ref d))) (hv : v env (hq h l d s) = .ok (.int x) (hq h l d s)) :
    mSetK (mVar 2) (mC (.str "work")) v env (hq h l d s) = .ok (.nx env) (hq h l d ⟨s.ps, x⟩) := by
  have ev : mVar 2 env (hq h l d s) = .ok (.ref d) (hq h l d s) := ev_var he
  unfold mSetK
  simp only [ev_bind, hv, rb_ok, ev, ev_c, setKM, hq_d (s := s) hd, key_w, kput_w, ev_pure]
  simp [hq_setd]
theorem setP {env : AG.Env} {i v : AG.Env → M D} {k : Nat} {x : Int} (hl : l < h.length) (hne : l ≠ d) (he : env[1]? = some (.v (.ref l))) (hk : k < s.ps.length) (hi : i env (hq h l d s) = .ok (.int k) (hq h l d s)) (hv : v env (hq h l d s) = .ok (.int x) (hq h l d s)) :
    mSetIx (mVar 1) i v env (hq h l d s) = .ok (.nx env) (hq h l d ⟨s.ps.set k x, s.w⟩) := by
  have ev : mVar 1 env (hq h l d s) = .ok (.ref l) (hq h l d s) := ev_var he
  have e2 : ixN (s.ps.map D.int).length (k : Int) = some k := by
    unfold ixN
    rw [List.length_map, if_pos (by omega), if_pos (by omega)]
    simp
  unfold mSetIx
  simp only [ev_bind, hv, rb_ok, ev, hi, setIxM, hq_l (s := s) hl hne, e2, ev_pure]
  rw [hq_setl hne (ps := s.ps.set k x) (by rw [List.map_set])]
theorem getP {env : AG.Env} {i : AG.Env → M D} {j : Nat} (hl : l < h.length) (hne : l ≠ d) (he : env[1]? = some (.v (.ref l))) (hj : j < s.ps.length) (hi : i env (hq h l d s) = .ok (.int j) (hq h l d s)) :
    mBin opIx (mVar 1) i env (hq h l d s) = .ok (.int (s.ps.getD j 0)) (hq h l d s) := by
  have ev : mVar 1 env (hq h l d s) = .ok (.ref l) (hq h l d s) := ev_var he
  simp only [ev_bin, ev, rb_ok, hi, opIx, hq_l (s := s) hl hne, at_ps hj]
end
/-- what the law's own run comes to: the same, or above the work -/
def Rl (r : Res) (s : PW) : Prop := match r with
  | (false, u) => s = u
  | (true, _) => 200000 < s.w
section
variable {h : MH} {l d : Nat} {self : LOp} {C : Int} {P : AG.Slot}
theorem idle {E : D} : ∀ (xs : List D) (s : PW) (sl : AG.Slot) (hd : d < h.length), 200000 < s.w →
    ∃ sl', loopF (tgName 4) (b__law_run_1 self) xs [P, .v (.ref l), .v (.ref d), .v E, sl] (hq h l d s) = .ok (.nx [P, .v (.ref l), .v (.ref d), .v E, sl']) (hq h l d s)
  | [], s, sl, hd, hw => ⟨sl, rfl⟩
  | x :: xs, s, sl, hd, hw => by
    obtain ⟨sl', e⟩ := idle (E := E) xs s (.v x) hd hw
    have g := getW (s := s) (h := h) (l := l) (env := [P, .v (.ref l), .v (.ref d), .v E, .v x]) hd rfl
    refine ⟨sl', ?_⟩
    rw [loopF_cons (env1 := [P, .v (.ref l), .v (.ref d), .v E, .v x]) (e := [P, .v (.ref l), .v (.ref d), .v E, .v x]) (h' := hq h l d s) (by rfl) ?_]
    · exact e
    · have c : ¬ s.w ≤ 200000 := by omega
      simp only [b__law_run_1, ev_if, ev_test, ev_bin] at g ⊢
      rw [g]
      simp [c]
/-- the turns of an inner loop -/
theorem turnsL {b : List St} {i : Nat} (hC : 0 ≤ C) (ho : St.oks b) (hself : ∀ s, s.good C → s.w ≤ 200000 → ∃ s', self [.tup (St.encs b), .ref l, .ref d] (hq h l d s) = .ok .non (hq h l d s') ∧ Rl (St.runs b s) s') (hd : d < h.length) :
    ∀ (n : Nat) (xs : List D) (s : PW) (sl : AG.Slot), xs.length = n → s.good C → s.w ≤ 200000 →
      (∃ sl' s', loopF (tgName 4) (b__law_run_1 self) xs [P, .v (.ref l), .v (.ref d), .v (.tup [.str "repeat", .int i, .tup (St.encs b)]), sl] (hq h l d s) = .ok (.nx [P, .v (.ref l), .v (.ref d), .v (.tup [.str "repeat", .int i, .tup (St.encs b)]), sl']) (hq h l d s') ∧ Rl (iter (St.runs b) n s) s')
  | 0, xs, s, sl, hx, hs, hw => by
    rw [List.length_eq_zero_iff] at hx
    subst hx
    exact ⟨sl, s, rfl, rfl⟩
  | n + 1, [], s, sl, hx, hs, hw => by cases hx
  | n + 1, x :: xs, s, sl, hx, hs, hw => by
    obtain ⟨s1, e1, r1⟩ := hself s hs hw
    have g := getW (s := s) (h := h) (l := l) (env := [P, .v (.ref l), .v (.ref d), .v (.tup [.str "repeat", .int i, .tup (St.encs b)]), .v x]) hd rfl
    have e2 : b__law_run_1 self [P, .v (.ref l), .v (.ref d), .v (.tup [.str "repeat", .int i, .tup (St.encs b)]), .v x] (hq h l d s) = .ok (.nx [P, .v (.ref l), .v (.ref d), .v (.tup [.str "repeat", .int i, .tup (St.encs b)]), .v x]) (hq h l d s1) := by
      simp only [b__law_run_1, ev_if, ev_test, ev_bin] at g ⊢
      rw [g]
      simp [hw, at3, e1]
    cases q : St.runs b s with
    | mk f t =>
      rw [q] at r1
      cases f with
      | true =>
        obtain ⟨sl', e3⟩ := idle (h := h) (l := l) (d := d) (self := self) (P := P) (E := .tup [.str "repeat", .int i, .tup (St.encs b)]) xs s1 (.v x) hd r1
        refine ⟨sl', s1, ?_, ?_⟩
        · rw [loopF_cons (by rfl) e2]
          exact e3
        · simp only [iter, q]
          exact r1
      | false =>
        have r1 : s1 = t := r1
        subst r1
        obtain ⟨sl', s', e3, r3⟩ := turnsL hC ho hself hd n xs s1 (.v x) (by simpa using hx) (runs_good hC b ho s hs s1 q) (runs_le b s s1 hw q)
        refine ⟨sl', s', ?_, ?_⟩
        · rw [loopF_cons (by rfl) e2]
          exact e3
        · simp only [iter, q]
          exact r3
def eL (P : AG.Slot) (l d : Nat) (a b : AG.Slot) : AG.Env := [P, .v (.ref l), .v (.ref d), a, b]
theorem workL {s : PW} {a b : AG.Slot} (hd : d < h.length) : mSetK (mVar 2) (mC (.str "work")) (mBin opAdd (mBin opGetK (mVar 2) (mC (.str "work"))) (mC (.int 1))) (eL P l d a b) (hq h l d s) = .ok (.nx (eL P l d a b)) (hq h l d ⟨s.ps, s.w + 1⟩) := by
  have g := getW (s := s) (h := h) (l := l) (env := eL P l d a b) hd rfl
  refine setW hd rfl ?_
  simp only [ev_bin] at g ⊢
  rw [g]
  simp
theorem overL {s : PW} {a b : AG.Slot} (hd : d < h.length) : mIf (mTest (mBin opGt (mBin opGetK (mVar 2) (mC (.str "work"))) (mC (.int 200000)))) mRetN mNx (eL P l d a b) (hq h l d s) = .ok (if 200000 < s.w then .rt .non else .nx (eL P l d a b)) (hq h l d s) := by
  have g := getW (s := s) (h := h) (l := l) (env := eL P l d a b) hd rfl
  simp only [ev_if, ev_test, ev_bin] at g ⊢
  rw [g]
  by_cases c : 200000 < s.w
  · simp [c, mRetN]
  · simp [c]
theorem lateL {s : PW} {a b : AG.Slot} (hd : d < h.length) (hw : 200000 < s.w + 1) : b__law_run_2 self (eL P l d a b) (hq h l d s) = .ok (.rt .non) (hq h l d ⟨s.ps, s.w + 1⟩) := by
  have e1 := workL (P := P) (s := s) (l := l) (a := a) (b := b) hd
  have e2 := overL (P := P) (s := ⟨s.ps, s.w + 1⟩) (l := l) (a := a) (b := b) hd
  rw [if_pos hw] at e2
  unfold b__law_run_2
  rw [ev_seq, e1, rb_ok]
  simp only [ev_seq, e2, rb_ok]
  rfl
theorem stepL (hC : 0 ≤ C) (t : St) (ho : t.okS) (hself : ∀ i b, t = .r i b → ∀ s, s.good C → s.w ≤ 200000 → ∃ s', self [.tup (St.encs b), .ref l, .ref d] (hq h l d s) = .ok .non (hq h l d s') ∧ Rl (St.runs b s) s') (hl : l < h.length) (hd : d < h.length) (hne : l ≠ d) (s : PW) (hs : s.good C) (hw : s.w + 1 ≤ 200000) (sl : AG.Slot) :
    ∃ sl' s', b__law_run_2 self (eL P l d (.v t.enc) sl) (hq h l d s) = .ok (.nx (eL P l d (.v t.enc) sl')) (hq h l d s') ∧ Rl (t.run s) s' := by
  have e1 := workL (P := P) (s := s) (l := l) (a := .v t.enc) (b := sl) hd
  have e2 := overL (P := P) (s := ⟨s.ps, s.w + 1⟩) (l := l) (a := .v t.enc) (b := sl) hd
  have nw : ¬ 200000 < s.w + 1 := by omega
  rw [if_neg nw] at e2
  have hg := good_tick hs
  unfold b__law_run_2
  rw [ev_seq, e1, rb_ok]
  simp only [ev_seq, e2, rb_ok]
  cases t with
  | z i =>
    have hi : i < 4 := ho
    have e := setP (s := ⟨s.ps, s.w + 1⟩) (h := h) (l := l) (d := d) (env := eL P l d (.v (St.z i).enc) sl) (i := mBin opIx (mVar 3) (mC (.int 1))) (v := mC (.int 0)) (k := i) (x := 0) hl hne rfl (by rw [hs.len]; exact hi) (by simp [St.enc, eL]) rfl
    refine ⟨sl, ⟨s.ps.set i 0, s.w + 1⟩, ?_, by rw [St.run]; simp [tick, nw, Rl]⟩
    simp [St.enc, eL, eq_str, es_zz] at e ⊢
    exact e
  | n i =>
    have hi : i < 4 := ho
    have gp := getP (s := ⟨s.ps, s.w + 1⟩) (h := h) (l := l) (d := d) (env := eL P l d (.v (St.n i).enc) sl) (i := mBin opIx (mVar 3) (mC (.int 1))) (j := i) hl hne rfl (by rw [hs.len]; exact hi) (by simp [St.enc, eL])
    have e := setP (s := ⟨s.ps, s.w + 1⟩) (h := h) (l := l) (d := d) (env := eL P l d (.v (St.n i).enc) sl) (i := mBin opIx (mVar 3) (mC (.int 1))) (v := mBin opAdd (mBin opIx (mVar 1) (mBin opIx (mVar 3) (mC (.int 1)))) (mC (.int 1))) (k := i) (x := s.ps.getD i 0 + 1) hl hne rfl (by rw [hs.len]; exact hi) (by simp [St.enc, eL]) (by
      rw [ev_bin, gp, rb_ok]
      simp)
    refine ⟨sl, ⟨s.ps.set i (s.ps.getD i 0 + 1), s.w + 1⟩, ?_, by rw [St.run]; simp [tick, nw, Rl]⟩
    have q1 : mTest (mBin opEq (mBin opIx (mVar 3) (mC (.int 0))) (mC (.str "zero"))) (eL P l d (.v (St.n i).enc) sl) (hq h l d ⟨s.ps, s.w + 1⟩) = .ok false (hq h l d ⟨s.ps, s.w + 1⟩) := by simp [St.enc, eL, eq_str, es_nz]
    have q2 : mTest (mBin opEq (mBin opIx (mVar 3) (mC (.int 0))) (mC (.str "next"))) (eL P l d (.v (St.n i).enc) sl) (hq h l d ⟨s.ps, s.w + 1⟩) = .ok true (hq h l d ⟨s.ps, s.w + 1⟩) := by simp [St.enc, eL, eq_str, es_nn]
    simp only [ev_if, q1, q2, rb_ok, if_true, Bool.false_eq_true, if_false]
    exact e
  | c i j =>
    have hi : i < 4 := ho.1
    have hj : j < 4 := ho.2
    have gp := getP (s := ⟨s.ps, s.w + 1⟩) (h := h) (l := l) (d := d) (env := eL P l d (.v (St.c i j).enc) sl) (i := mBin opIx (mVar 3) (mC (.int 2))) (j := j) hl hne rfl (by rw [hs.len]; exact hj) (by simp [St.enc, eL, at3])
    have e := setP (s := ⟨s.ps, s.w + 1⟩) (h := h) (l := l) (d := d) (env := eL P l d (.v (St.c i j).enc) sl) (i := mBin opIx (mVar 3) (mC (.int 1))) (v := mBin opIx (mVar 1) (mBin opIx (mVar 3) (mC (.int 2)))) (k := i) (x := s.ps.getD j 0) hl hne rfl (by rw [hs.len]; exact hi) (by simp [St.enc, eL]) gp
    refine ⟨sl, ⟨s.ps.set i (s.ps.getD j 0), s.w + 1⟩, ?_, by rw [St.run]; simp [tick, nw, Rl]⟩
    have q1 : mTest (mBin opEq (mBin opIx (mVar 3) (mC (.int 0))) (mC (.str "zero"))) (eL P l d (.v (St.c i j).enc) sl) (hq h l d ⟨s.ps, s.w + 1⟩) = .ok false (hq h l d ⟨s.ps, s.w + 1⟩) := by simp [St.enc, eL, eq_str, es_cz]
    have q2 : mTest (mBin opEq (mBin opIx (mVar 3) (mC (.int 0))) (mC (.str "next"))) (eL P l d (.v (St.c i j).enc) sl) (hq h l d ⟨s.ps, s.w + 1⟩) = .ok false (hq h l d ⟨s.ps, s.w + 1⟩) := by simp [St.enc, eL, eq_str, es_cn]
    have q3 : mTest (mBin opEq (mBin opIx (mVar 3) (mC (.int 0))) (mC (.str "copy"))) (eL P l d (.v (St.c i j).enc) sl) (hq h l d ⟨s.ps, s.w + 1⟩) = .ok true (hq h l d ⟨s.ps, s.w + 1⟩) := by simp [St.enc, eL, eq_str, es_cc]
    simp only [ev_if, q1, q2, q3, rb_ok, if_true, Bool.false_eq_true, if_false]
    exact e
  | r i b =>
    have hi : i < 4 := ho.1
    have gp := getP (s := ⟨s.ps, s.w + 1⟩) (h := h) (l := l) (d := d) (env := eL P l d (.v (St.r i b).enc) sl) (i := mBin opIx (mVar 3) (mC (.int 1))) (j := i) hl hne rfl (by rw [hs.len]; exact hi) (by simp [St.enc, eL])
    have gp : mBin opIx (mVar 1) (mBin opIx (mVar 3) (mC (.int 1))) (eL P l d (.v (St.r i b).enc) sl) (hq h l d ⟨s.ps, s.w + 1⟩) = .ok (.int (s.ps.getD i 0)) (hq h l d ⟨s.ps, s.w + 1⟩) := gp
    obtain ⟨_, g0, g1⟩ := good_get hg hi
    have g0 : 0 ≤ s.ps.getD i 0 := g0
    have er : rng1M (.int (s.ps.getD i 0)) (hq h l d ⟨s.ps, s.w + 1⟩) = .ok (rngD 0 (s.ps.getD i 0).toNat) (hq h l d ⟨s.ps, s.w + 1⟩) := rfl
    obtain ⟨sl', s', et, rt⟩ := turnsL (P := P) (i := i) hC ho.2 (hself i b rfl) hd (s.ps.getD i 0).toNat (rngD 0 (s.ps.getD i 0).toNat) ⟨s.ps, s.w + 1⟩ sl (by simp [rngD_def]) hg hw
    have q1 : mTest (mBin opEq (mBin opIx (mVar 3) (mC (.int 0))) (mC (.str "zero"))) (eL P l d (.v (St.r i b).enc) sl) (hq h l d ⟨s.ps, s.w + 1⟩) = .ok false (hq h l d ⟨s.ps, s.w + 1⟩) := by simp [St.enc, eL, eq_str, es_rz]
    have q2 : mTest (mBin opEq (mBin opIx (mVar 3) (mC (.int 0))) (mC (.str "next"))) (eL P l d (.v (St.r i b).enc) sl) (hq h l d ⟨s.ps, s.w + 1⟩) = .ok false (hq h l d ⟨s.ps, s.w + 1⟩) := by simp [St.enc, eL, eq_str, es_rn]
    have q3 : mTest (mBin opEq (mBin opIx (mVar 3) (mC (.int 0))) (mC (.str "copy"))) (eL P l d (.v (St.r i b).enc) sl) (hq h l d ⟨s.ps, s.w + 1⟩) = .ok false (hq h l d ⟨s.ps, s.w + 1⟩) := by simp [St.enc, eL, eq_str, es_rc]
    refine ⟨sl', s', ?_, ?_⟩
    · simp only [ev_if, q1, q2, q3, rb_ok, if_true, Bool.false_eq_true, if_false, ev_for, ev_rng1, gp, er]
      exact et
    · have e : St.run (.r i b) s = iter (St.runs b) (s.ps.getD i 0).toNat ⟨s.ps, s.w + 1⟩ := by
        rw [St.run]
        simp only [tick, nw, if_false]
        cases b with
        | nil =>
          simp only [List.isEmpty_nil, if_true]
          have : ∀ (k : Nat) (u : PW), iter (St.runs []) k u = (false, u) := by
            intro k
            induction k with
            | zero => exact fun u => rfl
            | succ k ih => intro u; simp only [iter, St.runs]; exact ih u
          exact (this _ _).symm
        | cons t b => rfl
      rw [e]
      exact rt
end
section
variable {h : MH} {l d : Nat} {C : Int}
theorem law_do (hC : 0 ≤ C) (hl : l < h.length) (hd : d < h.length) (hne : l ≠ d) : ∀ (k : Nat) (b : List St), St.deps b < k → St.oks b → ∀ s : PW, s.good C → s.w ≤ 200000 →
    ∃ s', recF (fun self => mFn 5 (m__law_run self)) k [.tup (St.encs b), .ref l, .ref d] (hq h l d s) = .ok .non (hq h l d s') ∧ Rl (St.runs b s) s'
  | 0, b, hd, _, _, _, _ => by omega
  | k + 1, b, hb, ho, s, hs, hw => by
    have key : ∀ (c : List St), St.deps c ≤ k → St.oks c → ∀ (s : PW) (a sl : AG.Slot), s.good C → s.w ≤ 200000 →
        ∃ fl s', loopF (tgName 3) (b__law_run_2 (recF (fun self => mFn 5 (m__law_run self)) k)) (St.encs c) (eL (.v (.tup (St.encs b))) l d a sl) (hq h l d s) = .ok fl (hq h l d s') ∧ (fl = .rt .non ∨ ∃ e, fl = .nx e) ∧ Rl (St.runs c s) s' := by
      intro c
      induction c with
      | nil => exact fun _ _ s a sl _ _ => ⟨_, s, rfl, .inr ⟨_, rfl⟩, by rw [St.runs]; rfl⟩
      | cons t c ih =>
        intro hdc ho s a sl hs hw
        have hdt : t.dep ≤ k := Nat.le_trans (Nat.le_max_left _ _) hdc
        have hdc' : St.deps c ≤ k := Nat.le_trans (Nat.le_max_right _ _) hdc
        by_cases cw : s.w + 1 ≤ 200000
        · obtain ⟨sl', s1, e, r⟩ := stepL (h := h) (l := l) (d := d) (P := .v (.tup (St.encs b))) (self := recF (fun self => mFn 5 (m__law_run self)) k) hC t ho.1 (fun i b' et s hs hw => by
            subst et
            exact law_do hC hl hd hne k b' (by simp only [St.dep] at hdt; omega) ho.1.2 s hs hw) hl hd hne s hs cw sl
          cases q : t.run s with
          | mk f u =>
            rw [q] at r
            cases f with
            | true =>
              have r : 200000 < s1.w := r
              have er : St.runs (t :: c) s = (true, u) := by rw [St.runs]; simp [q]
              cases c with
              | nil =>
                refine ⟨.nx (eL (.v (.tup (St.encs b))) l d (.v t.enc) sl'), s1, ?_, .inr ⟨_, rfl⟩, by rw [er]; exact r⟩
                rw [St.encs, loopF_cons (by rfl) e]
                rfl
              | cons t2 c =>
                refine ⟨.rt .non, ⟨s1.ps, s1.w + 1⟩, ?_, .inl rfl, by rw [er]; show 200000 < s1.w + 1; omega⟩
                rw [St.encs, loopF_cons (by rfl) e, St.encs]
                exact loopF_rt (env1 := eL (.v (.tup (St.encs b))) l d (.v t2.enc) sl') (by rfl) (lateL hd (by omega))
            | false =>
              have r : s1 = u := r
              subst r
              have er : St.runs (t :: c) s = St.runs c s1 := by rw [St.runs]; simp [q]
              obtain ⟨fl, s', e3, h3, r3⟩ := ih hdc' ho.2 s1 (.v t.enc) sl' (run_good hC t ho.1 s hs s1 q) (run_le t s s1 hw q)
              refine ⟨fl, s', ?_, h3, by rw [er]; exact r3⟩
              rw [St.encs, loopF_cons (by rfl) e]
              exact e3
        · have q : t.run s = (true, ⟨s.ps, s.w + 1⟩) := by
            have c : 200000 < s.w + 1 := by omega
            cases t <;> simp [St.run, tick, c]
          have er : St.runs (t :: c) s = (true, ⟨s.ps, s.w + 1⟩) := by rw [St.runs]; simp [q]
          refine ⟨.rt .non, ⟨s.ps, s.w + 1⟩, ?_, .inl rfl, by rw [er]; show 200000 < s.w + 1; omega⟩
          rw [St.encs]
          exact loopF_rt (env1 := eL (.v (.tup (St.encs b))) l d (.v t.enc) sl) (by rfl) (lateL hd (by omega))
    obtain ⟨fl, s', e, hf, r⟩ := key b (by omega) ho s .no .no hs hw
    refine ⟨s', ?_, r⟩
    refine (show mFn 5 (m__law_run (recF (fun self => mFn 5 (m__law_run self)) k)) [.tup (St.encs b), .ref l, .ref d] (hq h l d s) = (loopF (tgName 3) (b__law_run_2 (recF (fun self => mFn 5 (m__law_run self)) k)) (St.encs b) (eL (.v (.tup (St.encs b))) l d .no .no) (hq h l d s)).bind fun fl h' => flD fl h' from rfl).trans ?_
    rw [e]
    rcases hf with rfl | ⟨_, rfl⟩ <;> rfl
end
end L_k16
namespace L_k16
open PySem L2 AG
section
variable {h : MH}
/-! ### the law's own bound -/
theorem is_int {x : Int} : opIs id (.int x) .non h = .ok (.bl false) h := rfl
theorem is_non : opIs id .non .non h = .ok (.bl true) h := rfl
theorem isn_int {x : Int} : opIs not (.int x) .non h = .ok (.bl true) h := rfl
theorem isn_non : opIs not .non .non h = .ok (.bl false) h := rfl
theorem lb_turns {self : LOp} {b : List St} {M : Nat} {P E : D} (hE : atI (match E with | .tup xs => xs | _ => []) 2 = some (.tup (St.encs b))) (hT : ∃ xs, E = .tup xs) (hs : ∀ n : Nat, n ≤ M → self [.tup (St.encs b), .int (n : Int), .int (M : Int)] h = .ok (oD (cutL M (St.Bs b n))) h) :
    ∀ (xs : List D) (n : Nat) (sl : AG.Slot), n ≤ M → ∃ sl', loopF (tgName 4) (b__law_bound_1 self) xs [.v P, .v (.int (n : Int)), .v (.int (M : Int)), .v E, sl] h = .ok (.nx [.v P, .v (oD (cutL M (itN (St.Bs b) xs.length n))), .v (.int (M : Int)), .v E, sl']) h
  | [], n, sl, hn => ⟨sl, by
    have : cutL M n = some n := if_pos hn
    simp only [List.length_nil, itN, this]; rfl⟩
  | x :: xs, n, sl, hn => by
    obtain ⟨es, rfl⟩ := hT
    have hE' : atI es 2 = some (.tup (St.encs b)) := hE
    have e := hs n hn
    rw [List.length_cons, itN]
    by_cases c : St.Bs b n ≤ M
    · rw [show cutL M (St.Bs b n) = some (St.Bs b n) from if_pos c] at e
      obtain ⟨sl', e2⟩ := lb_turns (P := P) (E := .tup es) (b := b) hE ⟨es, rfl⟩ hs xs (St.Bs b n) (.v x) c
      refine ⟨sl', ?_⟩
      rw [loopF_cons (env1 := [.v P, .v (.int (n : Int)), .v (.int (M : Int)), .v (.tup es), .v x]) (e := [.v P, .v (.int ((St.Bs b n : Nat) : Int)), .v (.int (M : Int)), .v (.tup es), .v x]) (h' := h) (by rfl) (by simp [b__law_bound_1, hE', e, oD, is_int])]
      exact e2
    · rw [show cutL M (St.Bs b n) = none from if_neg c] at e
      have : cutL M (itN (St.Bs b) xs.length (St.Bs b n)) = none := if_neg (fun q => c (Nat.le_trans (itN_ge (fun n => Bs_ge b n) _ _) q))
      rw [this]
      refine ⟨.v x, ?_⟩
      rw [loopF_bk (env1 := [.v P, .v (.int (n : Int)), .v (.int (M : Int)), .v (.tup es), .v x]) (e := [.v P, .v .non, .v (.int (M : Int)), .v (.tup es), .v x]) (h' := h) (by rfl) (by simp [b__law_bound_1, hE', e, oD, is_non])]
      rfl
theorem lb_step {self : LOp} {M : Nat} {P : D} {t : St} (hs : ∀ i b, t = .r i b → ∀ n : Nat, n ≤ M → self [.tup (St.encs b), .int (n : Int), .int (M : Int)] h = .ok (oD (cutL M (St.Bs b n))) h) {n : Nat} (hn : n ≤ M) {sl : AG.Slot} :
    ∃ sl', b__law_bound_2 self [.v P, .v (.int (n : Int)), .v (.int (M : Int)), .v t.enc, sl] h = .ok (match cutL M (t.B n) with | none => .rt .non | some m => .nx [.v P, .v (.int (m : Int)), .v (.int (M : Int)), .v t.enc, sl']) h := by
  have nn : ¬ (M : Int) < (n : Int) := by omega
  cases t with
  | z i =>
    have : cutL M n = some n := if_pos hn
    refine ⟨sl, ?_⟩
    rw [St.B, this]
    simp [b__law_bound_2, St.enc, isn_int, is_int, eq_str, es_zn, es_zr, nn]
  | c i j =>
    have : cutL M n = some n := if_pos hn
    refine ⟨sl, ?_⟩
    rw [St.B, this]
    simp [b__law_bound_2, St.enc, isn_int, is_int, eq_str, es_cn, es_cr, nn]
  | n i =>
    refine ⟨sl, ?_⟩
    rw [St.B]
    by_cases c : n + 1 ≤ M
    · have : cutL M (n + 1) = some (n + 1) := if_pos c
      have q : ¬ (M : Int) < (n : Int) + 1 := by omega
      rw [this]
      simp [b__law_bound_2, St.enc, isn_int, is_int, eq_str, es_nn, q]
    · have : cutL M (n + 1) = none := if_neg c
      have q : (M : Int) < (n : Int) + 1 := by omega
      rw [this]
      simp [b__law_bound_2, St.enc, isn_int, is_int, eq_str, es_nn, q]
  | r i b =>
    have er : rng1M (.int (n : Int)) h = .ok (rngD 0 n) h := by
      show R.ok (rngD 0 ((n : Int)).toNat) h = _
      rw [Int.toNat_natCast]
    obtain ⟨sl', e⟩ := lb_turns (P := P) (E := .tup [.str "repeat", .int i, .tup (St.encs b)]) (b := b) at3 ⟨_, rfl⟩ (hs i b rfl) (rngD 0 n) n sl hn
    have lr : (rngD 0 n).length = n := by simp [rngD_def]
    rw [lr] at e
    refine ⟨sl', ?_⟩
    rw [St.B]
    by_cases c : itN (St.Bs b) n n ≤ M
    · have q1 : cutL M (itN (St.Bs b) n n) = some (itN (St.Bs b) n n) := if_pos c
      rw [q1] at e ⊢
      have q : ¬ (M : Int) < ((itN (St.Bs b) n n : Nat) : Int) := by omega
      simp [b__law_bound_2, St.enc, isn_int, is_int, eq_str, es_rn, es_rr, er, e, oD, q]
    · have q1 : cutL M (itN (St.Bs b) n n) = none := if_neg c
      rw [q1] at e ⊢
      simp [b__law_bound_2, St.enc, isn_int, is_int, is_non, eq_str, es_rn, es_rr, er, e, oD]
theorem lb_do {M : Nat} : ∀ (k : Nat) (b : List St), St.deps b < k → ∀ n : Nat, n ≤ M → recF (fun self => mFn 5 (m__law_bound self)) k [.tup (St.encs b), .int (n : Int), .int (M : Int)] h = .ok (oD (cutL M (St.Bs b n))) h
  | 0, b, hb, _, _ => by omega
  | k + 1, b, hb, n, hn => by
    have key : ∀ (c : List St), St.deps c ≤ k → ∀ (n : Nat) (a sl : AG.Slot), n ≤ M →
        ∃ env, loopF (tgName 3) (b__law_bound_2 (recF (fun self => mFn 5 (m__law_bound self)) k)) (St.encs c) [.v (.tup (St.encs b)), .v (.int (n : Int)), .v (.int (M : Int)), a, sl] h = .ok (match cutL M (St.Bs c n) with | none => .rt .non | some m => .nx (.v (.tup (St.encs b)) :: .v (.int (m : Int)) :: env)) h := by
      intro c
      induction c with
      | nil =>
        intro _ n a sl hn
        refine ⟨[.v (.int (M : Int)), a, sl], ?_⟩
        rw [St.Bs, show cutL M n = some n from if_pos hn]
        rfl
      | cons t c ih =>
        intro hdc n a sl hn
        have hdt : t.dep ≤ k := Nat.le_trans (Nat.le_max_left _ _) hdc
        have hdc' : St.deps c ≤ k := Nat.le_trans (Nat.le_max_right _ _) hdc
        obtain ⟨sl', e⟩ := lb_step (h := h) (P := .tup (St.encs b)) (self := recF (fun self => mFn 5 (m__law_bound self)) k) (t := t) (fun i b' et n hn => by
          subst et
          exact lb_do k b' (by simp only [St.dep] at hdt; omega) n hn) hn (sl := sl)
        rw [St.encs, St.Bs]
        by_cases q : t.B n ≤ M
        · rw [show cutL M (t.B n) = some (t.B n) from if_pos q] at e
          obtain ⟨env, e3⟩ := ih hdc' (t.B n) (.v t.enc) sl' q
          refine ⟨env, ?_⟩
          rw [loopF_cons (by rfl) e]
          exact e3
        · rw [show cutL M (t.B n) = none from if_neg q] at e
          rw [show cutL M (St.Bs c (t.B n)) = none from if_neg (fun w => q (Nat.le_trans (Bs_ge c _) w))]
          exact ⟨[], loopF_rt (env1 := [.v (.tup (St.encs b)), .v (.int (n : Int)), .v (.int (M : Int)), .v t.enc, sl]) (by rfl) e⟩
    obtain ⟨env, e⟩ := key b (by omega) n .no .no hn
    show mFn 5 (m__law_bound (recF (fun self => mFn 5 (m__law_bound self)) k)) [.tup (St.encs b), .int (n : Int), .int (M : Int)] h = _
    generalize recF (fun self => mFn 5 (m__law_bound self)) k = self at e
    cases q : cutL M (St.Bs b n) with
    | none => rw [q] at e; simp [m__law_bound, e, oD]
    | some m => rw [q] at e; simp [m__law_bound, e, oD]
theorem right_ok {b : List St} {n : Nat} (hd : St.deps b ≤ 20) (hs : St.sms b) (hw : St.shs b) (hn : n ≤ 3000) : f__law_is_bound_right [.tup (St.encs b), .int (n : Int)] h = .ok (.bl true) h := by
  have e1 : f__law_bound [.tup (St.encs b), .int (n : Int), .int 3000] h = .ok (oD (cutL 3000 (St.Bs b n))) h := lb_do (M := 3000) 70 b (by omega) n hn
  have m3 : 3000 < MS := by decide
  have e2 := told_bound_ok (h := h) hd hs hw (show n < MS by omega)
  by_cases c : St.Bs b n ≤ 3000
  · rw [show cutL 3000 (St.Bs b n) = some (St.Bs b n) from if_pos c] at e1
    rw [cut_lt (by omega)] at e2
    simp [f__law_is_bound_right, m__law_is_bound_right, e1, e2, oD, isn_int]
  · rw [show cutL 3000 (St.Bs b n) = none from if_neg c] at e1
    cases q : cut (St.Bs b n) with
    | none =>
      rw [q] at e2
      simp [f__law_is_bound_right, m__law_is_bound_right, e1, e2, oD, isn_non, is_non]
    | some m =>
      rw [q] at e2
      have em : m = St.Bs b n := by
        unfold cut at q
        split at q
        · cases q; rfl
        · cases q
      have g : (3000 : Int) < (m : Int) := by omega
      simp [f__law_is_bound_right, m__law_is_bound_right, e1, e2, oD, isn_non, is_int, g]
/-! ### level -/
theorem compF_c {t : Tgt} {tt : AG.Env → M Bool} {te : AG.Env → M D} {env env1 : AG.Env} {x y : D} {xs ys : List D} (e1 : t x env = some env1) (e2 : tt env1 h = .ok true h) (e3 : te env1 h = .ok y h) (e4 : compF t tt te env xs h = .ok ys h) : compF t tt te env (x :: xs) h = .ok (y :: ys) h := by
  simp only [compF, e1, ev_bind, e2, rb_ok, if_true, e3, e4, ev_pure]
theorem compF_n {t : Tgt} {tt : AG.Env → M Bool} {te : AG.Env → M D} {env env1 : AG.Env} {x : D} {xs ys : List D} (e1 : t x env = some env1) (e2 : tt env1 h = .ok false h) (e4 : compF t tt te env xs h = .ok ys h) : compF t tt te env (x :: xs) h = .ok ys h := by
  simp only [compF, e1, ev_bind, e2, rb_ok, Bool.false_eq_true, if_false, e4]
theorem level_comp {self : LOp} {k : Nat} (ih : ∀ b : List St, St.deps b < k → St.shs b → b.length ≤ 1000 → ∃ v : Int, self [.tup (St.encs b)] h = .ok (.int v) h) {x0 : AG.Slot} : ∀ (b : List St), St.deps b ≤ k → St.shs b → ∃ vs : List Int, vs.length ≤ b.length ∧ compF (tgName 1) (t_level_1 self) (e_level_1 self) [x0, .no] (St.encs b) h = .ok (vs.map D.int) h
  | [], _, _ => ⟨[], Nat.le_refl _, rfl⟩
  | t :: b, hd, hw => by
    have hdt : t.dep ≤ k := Nat.le_trans (Nat.le_max_left _ _) hd
    obtain ⟨vs, l, e⟩ := level_comp ih (x0 := x0) b (Nat.le_trans (Nat.le_max_right _ _) hd) hw.2
    cases t with
    | z i => exact ⟨vs, by simp; omega, compF_n rfl (by simp [t_level_1, St.enc, eq_str, es_zr]) e⟩
    | n i => exact ⟨vs, by simp; omega, compF_n rfl (by simp [t_level_1, St.enc, eq_str, es_nr]) e⟩
    | c i j => exact ⟨vs, by simp; omega, compF_n rfl (by simp [t_level_1, St.enc, eq_str, es_cr]) e⟩
    | r i c =>
      obtain ⟨v, ev⟩ := ih c (by simp only [St.dep] at hdt; omega) hw.1.2 hw.1.1
      exact ⟨(1 + v) :: vs, by simp; omega, compF_c rfl (by simp [t_level_1, St.enc, eq_str, es_rr]) (by simp [e_level_1, St.enc, at3, ev]) e⟩
theorem ints_map : ∀ ns : List Int, D.ints (ns.map D.int) = some ns
  | [] => rfl
  | n :: ns => by rw [List.map_cons, D.ints, ints_map ns]; rfl
theorem max_ints {n : Int} {ns : List Int} : fMaxA [.lst (.int n :: ns.map D.int)] h = .ok (.int (maxI n ns)) h := by
  unfold fMaxA
  have e : D.ints (.int n :: ns.map D.int) = some (n :: ns) := ints_map (n :: ns)
  simp only [e]
  rfl
theorem level_M : ∀ (k : Nat) (b : List St), St.deps b < k → St.shs b → b.length ≤ 1000 → ∃ v : Int, recF (fun self => mFn 2 (m_level self)) k [.tup (St.encs b)] h = .ok (.int v) h
  | 0, b, hb, _, _ => by omega
  | k + 1, b, hb, hw, hl => by
    obtain ⟨vs, l, c⟩ := level_comp (h := h) (self := recF (fun self => mFn 2 (m_level self)) k) (fun b hb hw hl => level_M k b hb hw hl) (x0 := .v (.tup (St.encs b))) b (by omega) hw
    refine ⟨maxI 0 vs, ?_⟩
    show mFn 2 (m_level (recF (fun self => mFn 2 (m_level self)) k)) [.tup (St.encs b)] h = _
    generalize recF (fun self => mFn 2 (m_level self)) k = self at c
    have l1 : (St.encs b).length ≤ 16777216 := by rw [encs_len]; omega
    have mx := max_ints (h := h) (n := 0) (ns := vs)
    have l2 : 1 + vs.length ≤ 16777216 := by omega
    have l3 : vs.length + 1 ≤ 16777216 := by omega
    simp [m_level, wipeE, c, l1, mx, l2, l3]
theorem level_eq : f__law_level = f_level := rfl
theorem same_int {x : Int} : f__law_same [.int x, .int x] h = .ok (.bl true) h := by
  have sm : D.sm 60 (.int x) = true := by simp [D.sm]
  have t1 : PyData.isTuple (D.int x).toPy = false := rfl
  have t2 : PyData.isList (D.int x).toPy = false := rfl
  show mFn 3 (m__law_same _) [.int x, .int x] h = _
  simp [m__law_same, sm, t1, t2]
end
end L_k16
namespace L_k16
open PySem L2 AG
/-! ### drawn programs -/
mutual
def St.wdS : St → Prop
  | .z _ => True
  | .n _ => True
  | .c _ _ => True
  | .r _ b => b.length ≤ 3 ∧ St.wds b
def St.wds : List St → Prop
  | [] => True
  | t :: b => t.wdS ∧ St.wds b
end
mutual
theorem wd_shS : ∀ t : St, t.wdS → t.shS
  | .z _, _ => True.intro
  | .n _, _ => True.intro
  | .c _ _, _ => True.intro
  | .r _ b, h => ⟨Nat.le_trans h.1 (by decide), wd_shs b h.2⟩
theorem wd_shs : ∀ b : List St, St.wds b → St.shs b
  | [], _ => True.intro
  | t :: b, h => ⟨wd_shS t h.1, wd_shs b h.2⟩
end
theorem itN_le {f : Nat → Nat} {c : Nat} (hf : ∀ n, f n ≤ n + c) : ∀ k n, itN f k n ≤ n + k * c
  | 0, n => by simp [itN]
  | k + 1, n => by
    rw [itN, Nat.succ_mul]
    have := itN_le hf k (f n)
    have := hf n
    omega
theorem B0 : ∀ (b : List St), St.deps b = 0 → ∀ n, St.Bs b n ≤ n + b.length
  | [], _, n => by rw [St.Bs]; simp
  | t :: b, h, n => by
    simp only [St.deps] at h
    rw [St.Bs, List.length_cons]
    have := B0 b (by omega) (t.B n)
    cases t with
    | z i => rw [St.B] at this ⊢; omega
    | n i => rw [St.B] at this ⊢; omega
    | c i j => rw [St.B] at this ⊢; omega
    | r i c => simp only [St.dep] at h; omega
theorem B1 : ∀ (b : List St), St.deps b ≤ 1 → St.wds b → ∀ n, St.Bs b n + 1 ≤ 4 ^ b.length * (n + 1)
  | [], _, _, n => by rw [St.Bs]; simp
  | t :: b, h, hw, n => by
    simp only [St.deps] at h
    rw [St.Bs, List.length_cons, Nat.pow_succ, Nat.mul_assoc]
    refine Nat.le_trans (B1 b (by omega) hw.2 (t.B n)) (Nat.mul_le_mul_left _ ?_)
    cases t with
    | z i => rw [St.B]; omega
    | n i => rw [St.B]; omega
    | c i j => rw [St.B]; omega
    | r i c =>
      rw [St.B]
      simp only [St.dep] at h
      have l := hw.1.1
      have := itN_le (f := St.Bs c) (c := 3) (fun n => Nat.le_trans (B0 c (by omega) n) (by omega)) n n
      omega
mutual
theorem sm_S : ∀ t : St, t.dep ≤ 2 → t.wdS → t.sm1
  | .z _, _, _ => True.intro
  | .n _, _, _ => True.intro
  | .c _ _, _, _ => True.intro
  | .r _ b, hd, hw => by
    simp only [St.dep] at hd
    have h1 := B1 b (by omega) hw.2 2
    have h2 : 4 ^ b.length ≤ 4 ^ 3 := Nat.pow_le_pow_right (by decide) hw.1
    have h3 : 4 ^ b.length * (2 + 1) ≤ 4 ^ 3 * (2 + 1) := Nat.mul_le_mul_right _ h2
    have h4 : 200 < MS := by decide
    exact ⟨by omega, sm_s b (by omega) hw.2⟩
theorem sm_s : ∀ b : List St, St.deps b ≤ 2 → St.wds b → St.sms b
  | [], _, _ => True.intro
  | t :: b, hd, hw => by
    simp only [St.deps] at hd
    exact ⟨sm_S t (by omega) hw.1, sm_s b (by omega) hw.2⟩
end
/-- programs of depth d -/
structure Pr (d : Nat) (k : Nat) (b : List St) : Prop where
  ok : St.oks b
  wd : St.wds b
  len : b.length ≤ k
  dep : St.deps b ≤ d
theorem oks_app : ∀ {b c : List St}, St.oks b → St.oks c → St.oks (b ++ c)
  | [], _, _, h => h
  | _ :: _, _, h, k => ⟨h.1, oks_app h.2 k⟩
theorem wds_app : ∀ {b c : List St}, St.wds b → St.wds c → St.wds (b ++ c)
  | [], _, _, h => h
  | _ :: _, _, h, k => ⟨h.1, wds_app h.2 k⟩
theorem deps_app : ∀ {b c : List St}, St.deps (b ++ c) = max (St.deps b) (St.deps c)
  | [], c => by simp [St.deps]
  | t :: b, c => by rw [List.cons_append, St.deps, deps_app, St.deps]; omega
theorem encs_app : ∀ {b c : List St}, St.encs (b ++ c) = St.encs b ++ St.encs c
  | [], c => rfl
  | t :: b, c => by rw [List.cons_append, St.encs, encs_app, St.encs]; rfl
theorem Pr.add {d k : Nat} {b : List St} {t : St} (h : Pr d k b) (o : t.okS) (w : t.wdS) (e : t.dep ≤ d) : Pr d (k + 1) (b ++ [t]) :=
  ⟨oks_app h.ok ⟨o, True.intro⟩, wds_app h.wd ⟨w, True.intro⟩, by simp; exact h.len, by rw [deps_app]; simp only [St.deps]; have := h.dep; omega⟩
section
variable {h : MH} {E : Nat → MH → Prop}
theorem prog_step {self : LOp} {i d : Nat} (hs : h[i]? = some .stream) (hd : d ≤ 20) (ih : d ≠ 0 → Wp (self [.ref i, .int (d : Int)] h) (fun v h' => (∃ b : List St, v = .tup (St.encs b) ∧ Pr (d - 1) 3 b) ∧ h' = h) E) :
    Wp (mFn 6 (m__law_program self) [.ref i, .int ((d + 1 : Nat) : Int)] h) (fun v h' => (∃ b : List St, v = .tup (St.encs b) ∧ Pr d 3 b) ∧ h' = h) E := by
  refine ⟨?_⟩
  have c1 : (d : Int) + 1 - 1 = d := by omega
  simp [m__law_program, wpR_bind]
  refine draw_wp hs (by decide) (by decide) fun j hj => ?_
  have r := rng1_nat (h := h) (n := j) (by omega)
  simp [r]
  have hl := loopF_wpN (E := E) (h := h) (tg := tgName 3) (s := b__law_program_1 self) (xs := rngD 0 j) 3
    (I := fun k env => ∃ (b : List St) (s3 s4 s5 : AG.Slot), env = [.v (.ref i), .v (.int ((d : Int) + 1)), .own (St.encs b), s3, s4, s5] ∧ Pr d k b)
    (k := 0) (env := [.v (.ref i), .v (.int ((d : Int) + 1)), .own [], .no, .no, .no]) (by simp [rngD_def]; omega) ⟨[], .no, .no, .no, rfl, ⟨True.intro, True.intro, Nat.le_refl _, Nat.zero_le _⟩⟩
    (fun x hx k env hk hI => by
      obtain ⟨b, s3, s4, s5, rfl, hb⟩ := hI
      refine ⟨_, rfl, ?_⟩
      have la : (St.encs b).length < 16777216 := by rw [encs_len]; have := hb.len; omega
      have fin : ∀ t : St, t.okS → t.wdS → t.dep ≤ d → ∃ b' : List St, St.encs b ++ [t.enc] = St.encs b' ∧ Pr d (k + 1) b' := fun t o w e => by
        refine ⟨b ++ [t], ?_, hb.add o w e⟩
        rw [encs_app]
        rfl
      simp [b__law_program_1, wpR_bind]
      refine draw_wp hs (by decide) (by decide) fun u hu => ?_
      simp [wpR_bind]
      refine draw_wp hs (by decide) (by decide) fun q hq => ?_
      have hq : q < 4 := by omega
      have c0 : ¬ ((d : Int) + 1 = 0) := by omega
      by_cases u0 : u = 0
      · subst u0
        simp [fAppend, la]
        exact fin (.z q) hq True.intro (Nat.zero_le _)
      · by_cases u1 : u = 1
        · subst u1
          simp [fAppend, la]
          exact fin (.n q) hq True.intro (Nat.zero_le _)
        · by_cases u2 : u = 2
          · subst u2
            simp [wpR_bind]
            refine draw_wp hs (by decide) (by decide) fun v hv => ?_
            simp [fAppend, la]
            exact fin (.c q v) ⟨hq, by omega⟩ True.intro (Nat.zero_le _)
          · have w1 : ¬ ((u : Int) = 0) := by omega
            have w2 : ¬ ((u : Int) < 3) := by omega
            have w3 : ¬ ((u : Int) = 1) := by omega
            by_cases dz : d = 0
            · subst dz
              simp [u0, w1, w2, w3, wpR_bind]
              refine draw_wp hs (by decide) (by decide) fun v hv => ?_
              simp [fAppend, la, u1, u0]
              exact fin (.c q v) ⟨hq, by omega⟩ True.intro (Nat.zero_le _)
            · have d1 : ¬ ((d : Int) + 1 = 1) := by omega
              have d2 : ¬ ((d : Int) = 0) := by omega
              simp [u0, w1, w2, w3, d1, d2, dz, wpR_bind, c1]
              refine wpR_mono (ih dz).out (fun v h' q2 => ?_) fun _ _ q => q
              obtain ⟨⟨b2, rfl, h2⟩, rfl⟩ := q2
              simp [fAppend, la]
              exact fin (.r q b2) ⟨hq, h2.ok⟩ ⟨h2.len, h2.wd⟩ (by simp only [St.dep]; have := h2.dep; omega))
  refine wpR_mono hl (fun fl h' q => ?_) fun _ _ q => q
  obtain ⟨rfl, e, rfl, b, s3, s4, s5, rfl, hb⟩ := q
  have lj : (rngD 0 j).length ≤ 3 := by simp [rngD_def]; omega
  simp
  exact ⟨b, rfl, hb.ok, hb.wd, Nat.le_trans hb.len (by simpa using lj), hb.dep⟩
theorem prog_wp {i : Nat} (hs : h[i]? = some .stream) : Wp (f__law_program [.ref i, .int 3] h) (fun v h' => (∃ b : List St, v = .tup (St.encs b) ∧ Pr 2 3 b) ∧ h' = h) E := by
  have key : ∀ (k d : Nat), d < k → d ≤ 20 → Wp (recF (fun self => mFn 6 (m__law_program self)) k [.ref i, .int ((d + 1 : Nat) : Int)] h) (fun v h' => (∃ b : List St, v = .tup (St.encs b) ∧ Pr d 3 b) ∧ h' = h) E := by
    intro k
    induction k with
    | zero => exact fun d hd => by omega
    | succ k ih =>
      intro d hd h20
      show Wp (mFn 6 (m__law_program (recF (fun self => mFn 6 (m__law_program self)) k)) [.ref i, .int ((d + 1 : Nat) : Int)] h) _ _
      refine prog_step hs h20 fun dz => ?_
      obtain ⟨d', rfl⟩ : ∃ j, d = j + 1 := ⟨d - 1, by omega⟩
      exact ih d' (by omega) (by omega)
  exact key 70 2 (by decide) (by decide)
end
end L_k16
namespace L_k16
open PySem L2 AG
section
variable {h : MH}
/-! _law_same -/
theorem same_allK {self : LOp} {xs : List D} {X : D} (hX : X = .tup xs ∨ X = .lst xs) (ih : ∀ x ∈ xs, self [x, x] h = .ok (.bl true) h) :
    compF (tgName 2) mYes (e__law_same_1 self) [.v X, .v X, .no] (rngD 0 xs.length) h = .ok ((List.range xs.length).map fun _ => D.bl true) h := by
  rw [rngD_def]
  refine compF_map (f := fun i : Nat => D.int (0 + (i : Int))) (g := fun _ => D.bl true) fun k hk => ?_
  have hk : k < xs.length := List.mem_range.mp hk
  refine ⟨_, rfl, ?_⟩
  have hi : atI xs (k : Int) = some xs[k] := at_nat hk
  have hs := ih xs[k] (List.getElem_mem hk)
  rcases hX with rfl | rfl
  · simp [e__law_same_1, hi, hs]
  · simp [e__law_same_1, hi, hs]
theorem same_leaf {self : LOp} {d : D} (sm : D.sm 60 d = true) (e : opEq d d h = .ok (.bl true) h) (t : d.toPy.isTuple = false) (l : d.toPy.isList = false) : mFn 3 (m__law_same self) [d, d] h = .ok (.bl true) h := by
  simp [m__law_same, sm, t, l, e]
theorem same_tupK {self : LOp} {xs : List D} (sm : D.sm 60 (.tup xs) = true) (hl : xs.length ≤ 16777216) (ih : ∀ x ∈ xs, self [x, x] h = .ok (.bl true) h) : mFn 3 (m__law_same self) [.tup xs, .tup xs] h = .ok (.bl true) h := by
  have c := same_allK (h := h) (X := .tup xs) (.inl rfl) ih
  have r := rng1_nat (h := h) (n := xs.length) (by omega)
  have l : (rngD 0 xs.length).length ≤ 16777216 := by simp [rngD_def, hl]
  simp [m__law_same, sm, D.toPy, PyData.isTuple, r, l, wipeE, c, fAll_yes]
theorem same_lstK {self : LOp} {xs : List D} (sm : D.sm 60 (.lst xs) = true) (hl : xs.length ≤ 16777216) (ih : ∀ x ∈ xs, self [x, x] h = .ok (.bl true) h) : mFn 3 (m__law_same self) [.lst xs, .lst xs] h = .ok (.bl true) h := by
  have c := same_allK (h := h) (X := .lst xs) (.inr rfl) ih
  have r := rng1_nat (h := h) (n := xs.length) (by omega)
  have l : (rngD 0 xs.length).length ≤ 16777216 := by simp [rngD_def, hl]
  simp [m__law_same, sm, D.toPy, PyData.isTuple, PyData.isList, r, l, wipeE, c, fAll_yes]
theorem same_stepK {self : LOp} {n : Nat} {d : D} (hn : n ≤ 60) (hd : D.okN n d = true) (ih : ∀ (m : Nat) (x : D), m < n → D.okN m x = true → self [x, x] h = .ok (.bl true) h) : mFn 3 (m__law_same self) [d, d] h = .ok (.bl true) h := by
  have sm := sm_le hn (okN_sm hd)
  cases d with
  | non => exact same_leaf sm (op_eqS sm (by simp [D.eqv, D.toPy, PyData.eqv])) rfl rfl
  | bl b => exact same_leaf sm (by simp) rfl rfl
  | int i => exact same_leaf sm (by simp) rfl rfl
  | str x => exact same_leaf sm (op_eqS sm (by simp [D.eqv, D.toPy, PyData.eqv])) rfl rfl
  | ref m => cases n <;> simp [D.okN] at hd
  | scr m => cases n <;> simp [D.okN] at hd
  | tup xs =>
    cases n with
    | zero => simp [D.okN] at hd
    | succ n =>
      simp only [D.okN, Bool.and_eq_true, decide_eq_true_eq, List.all_eq_true] at hd
      exact same_tupK sm hd.1 fun x hx => ih n x (Nat.lt_succ_self n) (hd.2 x hx)
  | lst xs =>
    cases n with
    | zero => simp [D.okN] at hd
    | succ n =>
      simp only [D.okN, Bool.and_eq_true, decide_eq_true_eq, List.all_eq_true] at hd
      exact same_lstK sm hd.1 fun x hx => ih n x (Nat.lt_succ_self n) (hd.2 x hx)
theorem same_reflK (k : Nat) : ∀ (n : Nat) (d : D), n ≤ 60 → D.okN n d = true → n < k → recF (fun self => mFn 3 (m__law_same self)) k [d, d] h = .ok (.bl true) h := by
  induction k with
  | zero => exact fun n d _ _ hk => absurd hk (Nat.not_lt_zero _)
  | succ k ih =>
    intro n d hn hd hk
    show mFn 3 (m__law_same (recF (fun self => mFn 3 (m__law_same self)) k)) [d, d] h = _
    exact same_stepK hn hd fun m x hm hx => ih m x (by omega) hx (by omega)
theorem same_okK {d : D} (hd : D.okN 60 d = true) : f__law_same [d, d] h = .ok (.bl true) h := same_reflK 70 60 d (Nat.le_refl _) hd (by decide)
theorem same_bool {x : Bool} : f__law_same [.bl x, .bl x] h = .ok (.bl true) h := same_okK rfl
end
end L_k16
namespace L_k16
open PySem L2 AG
/-! ### is_program -/
mutual
theorem okE : ∀ (t : St), t.shS → ∀ n, 2 * t.dep + 2 ≤ n → D.okN n t.enc = true
  | .z i, _, n, h => by obtain ⟨n, rfl⟩ : ∃ j, n = j + 1 := ⟨n - 1, by omega⟩; simp [St.enc, D.okN]
  | .n i, _, n, h => by obtain ⟨n, rfl⟩ : ∃ j, n = j + 1 := ⟨n - 1, by omega⟩; simp [St.enc, D.okN]
  | .c i j, _, n, h => by obtain ⟨n, rfl⟩ : ∃ j, n = j + 1 := ⟨n - 1, by omega⟩; simp [St.enc, D.okN]
  | .r i b, w, n, h => by
    simp only [St.dep] at h
    obtain ⟨n, rfl⟩ : ∃ j, n = j + 2 := ⟨n - 2, by omega⟩
    have e := okEs b w.2 n (by omega)
    have l := w.1
    have l1 : (St.encs b).length ≤ 16777216 := by rw [encs_len]; omega
    simp only [St.enc, D.okN, List.length_cons, List.length_nil, List.all_cons, List.all_nil, e, l1]
    simp
theorem okEs : ∀ (b : List St), St.shs b → ∀ n, 2 * St.deps b + 2 ≤ n → (St.encs b).all (D.okN n) = true
  | [], _, n, h => rfl
  | t :: b, w, n, h => by
    simp only [St.deps] at h
    rw [St.encs, List.all_cons, okE t w.1 n (by omega), okEs b w.2 n (by omega)]
    rfl
end
theorem ok_prog {b : List St} (w : St.shs b) (l : b.length ≤ 1000) (d : St.deps b ≤ 20) {n : Nat} (hn : 45 ≤ n) : D.okN n (.tup (St.encs b)) = true := by
  obtain ⟨n, rfl⟩ : ∃ j, n = j + 1 := ⟨n - 1, by omega⟩
  have e := okEs b w n (by omega)
  have l1 : (St.encs b).length ≤ 16777216 := by rw [encs_len]; omega
  simp only [D.okN, e, l1]
  simp
section
variable {h : MH}
@[simp] theorem sm_str {x : Str} : D.sm 60 (.str x) = true := by simp [D.sm]
@[simp] theorem sm_int {i : Int} : D.sm 60 (.int i) = true := by simp [D.sm]
@[simp] theorem tup_tup {xs : List D} : PyData.isTuple (D.tup xs).toPy = true := rfl
@[simp] theorem str_str {x : Str} : PyData.isStr (D.str x).toPy = true := rfl
@[simp] theorem int_int {i : Int} : PyData.isInt (D.int i).toPy = true := rfl
@[simp] theorem bool_int {i : Int} : PyData.isBool (D.int i).toPy = false := rfl
theorem place_ok {i : Nat} (hi : i < 4) : f_is_place [.int (i : Int)] h = .ok (.bl true) h := by
  have c0 : (0 : Int) ≤ (i : Int) := by omega
  have c4 : (i : Int) < 4 := by omega
  have e : f_is_number [.int (i : Int)] h = .ok (.bl true) h := by simp [f_is_number, m_is_number]
  simp [f_is_place, m_is_place, e, c_MOST_NAMES, c4]
theorem in_z : opIn id (.str "zero") (.tup [.str "zero", .str "next"]) h = .ok (.bl true) h := by kernel_rfl
theorem in_n : opIn id (.str "next") (.tup [.str "zero", .str "next"]) h = .ok (.bl true) h := by kernel_rfl
theorem in_c : opIn id (.str "copy") (.tup [.str "zero", .str "next"]) h = .ok (.bl false) h := by kernel_rfl
theorem in_r : opIn id (.str "repeat") (.tup [.str "zero", .str "next"]) h = .ok (.bl false) h := by kernel_rfl
structure Tp (st pr : LOp) (h : MH) (k : Nat) : Prop where
  st : ∀ (t : St) (d : Nat), 2 * t.dep + 1 ≤ k → t.okS → t.wdS → t.dep < d → d ≤ 9 → st [t.enc, .int (d : Int)] h = .ok (.bl true) h
  pr : ∀ (b : List St) (d : Nat), 2 * St.deps b + 2 ≤ k → St.oks b → St.wds b → b.length ≤ 12 → St.deps b < d → d ≤ 9 → pr [.tup (St.encs b), .int (d : Int)] h = .ok (.bl true) h
theorem mem_ok : ∀ {b : List St} {t : St}, St.oks b → St.wds b → t ∈ b → t.okS ∧ t.wdS ∧ t.dep ≤ St.deps b
  | s :: b, t, h, w, m => by
    rcases List.mem_cons.mp m with e | m
    · subst e; exact ⟨h.1, w.1, Nat.le_max_left _ _⟩
    · have := mem_ok h.2 w.2 m; exact ⟨this.1, this.2.1, Nat.le_trans this.2.2 (Nat.le_max_right _ _)⟩
theorem tp_succ {st pr : LOp} {k : Nat} (T : Tp st pr h k) : Tp (mFn 2 (m_is_step st pr)) (mFn 3 (m_is_program_at st pr)) h (k + 1) := by
  refine ⟨fun t d hk ho hw hd h9 => ?_, fun b d hk ho hw hl hd h9 => ?_⟩
  · have sm : D.sm 60 t.enc = true := okN_sm (okE t (wd_shS t hw) 60 (by omega))
    cases t with
    | z i =>
      have p := place_ok (h := h) (i := i) ho
      simp only [St.enc] at sm
      simp [m_is_step, St.enc, sm, p, in_z]
    | n i =>
      have p := place_ok (h := h) (i := i) ho
      simp only [St.enc] at sm
      simp [m_is_step, St.enc, sm, p, in_n]
    | c i j =>
      have p := place_ok (h := h) (i := i) ho.1
      have p2 := place_ok (h := h) (i := j) ho.2
      simp only [St.enc] at sm
      simp [m_is_step, St.enc, sm, p, p2, in_c, eq_str, es_cc, at3]
    | r i b =>
      have p := place_ok (h := h) (i := i) ho.1
      simp only [St.dep] at hk hd
      have e := T.pr b (d - 1) (by omega) ho.2 hw.2 (by have := hw.1; omega) (by omega) (by omega)
      have ed : (d : Int) - 1 = ((d - 1 : Nat) : Int) := by omega
      simp only [St.enc] at sm
      simp [m_is_step, St.enc, sm, p, in_r, eq_str, es_rc, es_rr, at3, ed, e]
  · have sm : D.sm 60 (.tup (St.encs b)) = true := okN_sm (ok_prog (wd_shs b hw) (by omega) (by omega) (by decide))
    have c : compF (tgName 2) mYes (e_is_program_at_1 st pr) [.v (.tup (St.encs b)), .v (.int (d : Int)), .no] (St.encs b) h = .ok (b.map fun _ => .bl true) h := by
      rw [encs_map]
      refine compF_map (f := St.enc) (g := fun _ => D.bl true) fun t ht => ⟨_, rfl, ?_⟩
      obtain ⟨h1, h2, h3⟩ := mem_ok ho hw ht
      have e := T.st t d (by omega) h1 h2 (by omega) h9
      simp [e_is_program_at_1, e]
    have l1 : (St.encs b).length ≤ 16777216 := by rw [encs_len]; omega
    have l2 : ¬ (12 : Int) < ((St.encs b).length : Int) := by rw [encs_len]; omega
    have d0 : ¬ (d : Int) = 0 := by omega
    have d0' : ¬ d = 0 := by omega
    have l3 : ¬ 12 < (St.encs b).length := by rw [encs_len]; omega
    have l4 : ¬ (12 : Int) < (b.length : Int) := by omega
    have el := encs_len b
    have l5 : b.length ≤ 16777216 := by omega
    simp [m_is_program_at, sm, c_MOST_STEPS, l1, l2, l3, l4, l5, el, d0, d0', wipeE, c, fAll_yes]
theorem tp_ok : ∀ k, Tp (recP (fun a b => mFn 2 (m_is_step a b)) (fun a b => mFn 3 (m_is_program_at a b)) k).1 (recP (fun a b => mFn 2 (m_is_step a b)) (fun a b => mFn 3 (m_is_program_at a b)) k).2 h k
  | 0 => ⟨fun _ _ h => by omega, fun _ _ h => by omega⟩
  | k + 1 => tp_succ (tp_ok k)
theorem prog_ok {b : List St} (p : Pr 2 3 b) : f_is_program [.tup (St.encs b)] h = .ok (.bl true) h := by
  have e : f_is_program_at [.tup (St.encs b), .int 4] h = .ok (.bl true) h := (tp_ok 70).pr b 4 (by have := p.dep; omega) p.ok p.wd (by have := p.len; omega) (by have := p.dep; omega) (by decide)
  simp [f_is_program, m_is_program, c_MOST_DEEP, e]
theorem prog_4 : f_is_program [.tup [.tup [.str "next", .int 4]]] h = .ok (.bl false) h := by kernel_rfl
theorem prog_l : f_is_program [.lst []] h = .ok (.bl false) h := by kernel_rfl
end
end L_k16
namespace L_k16
open PySem L2 AG
/-! ### run, and what is told of it -/
def pad (ps : List Int) : List Int := ps ++ List.replicate (4 - ps.length) 0
theorem pad_len {ps : List Int} (h : ps.length ≤ 4) : (pad ps).length = 4 := by simp [pad]; omega
def hr (h : MH) (s : PW) : MH := h ++ [.inst 2 [("places", .ref (h.length + 1)), ("work", .int s.w)], .lst (s.ps.map D.int)]
def h2 (h : MH) : MH := h ++ [.stream, .stream]
section
variable {h : MH} {s : PW}
theorem hp_hr : hp (h2 h) h.length (h.length + 1) s = hr h s := by
  unfold hp h2 hr
  simp [List.set_append]
theorem hr_lt {i : Nat} (hi : i < h.length) : (hr h s)[i]? = h[i]? := by
  unfold hr
  rw [List.getElem?_append_left hi]
theorem zeros {k : Nat} (hk : k ≤ 4) : opMul (.lst [.int 0]) (.int (k : Int)) h = .ok (.lst (List.replicate k (.int 0))) h := by
  match k, hk with
  | 0, _ => rfl
  | 1, _ => rfl
  | 2, _ => rfl
  | 3, _ => rfl
  | 4, _ => rfl
theorem ev_newLe {m : AG.Env → M (List D)} {env : AG.Env} : mNewL m env h = (m env h).bind fun xs h' => .ok (.ref h'.length) (h' ++ [.lst xs]) := rfl
theorem ev_addFe {a b : AG.Env → M D} {env : AG.Env} : mAddF a b env h = (a env h).bind fun x h' => (b env h').bind fun y h'' => addF x y h'' := rfl
theorem pad_add {ps : List Int} (hl : ps.length ≤ 4) : addF (.lst (ps.map D.int)) (.lst (List.replicate (4 - ps.length) (.int 0))) h = .ok ((pad ps).map D.int) h := by
  show (if (ps.map D.int).length + (List.replicate (4 - ps.length) (D.int 0)).length ≤ 16777216 then M.pure (ps.map D.int ++ List.replicate (4 - ps.length) (D.int 0)) else M.bad) h = _
  rw [if_pos (by simp; omega)]
  simp [pad]
theorem make_ok {ps : List Int} {P : D} (hl : ps.length ≤ 4) : mMake 2 2 f_Runner___init__ (mCons (mVar 1) mNil) [.v P, .v (.lst (ps.map D.int)), .no] h = .ok (.ref h.length) (hr h ⟨pad ps, 0⟩) := by
  have ez : (4 : Int) - ((ps.length : Nat) : Int) = ((4 - ps.length : Nat) : Int) := by omega
  have z := fun H : MH => zeros (h := H) (k := 4 - ps.length) (by omega)
  have p := fun H : MH => pad_add (h := H) hl
  have ne : ("work" : Str) ≠ "places" := by decide
  have nwp := ne_pw
  simp [mMake, f_Runner___init__, m_Runner___init__, mSetFld, ev_newLe, ev_addFe, c_MOST_NAMES, ez, z, p, setFldM, putD, nwp, hr, List.set_append]
theorem run_ok {C : Int} {b : List St} {ps : List Int} (hl : ps.length ≤ 4) (hC : 0 ≤ C) (hb : C ≤ 1000000) (hp' : ∀ p ∈ ps, 0 ≤ p ∧ p ≤ C) (hd : St.deps b < 70) (ho : St.oks b) :
    f_run [.tup (St.encs b), .lst (ps.map D.int)] h = match St.runs b ⟨pad ps, 0⟩ with
      | (true, u) => .exc 1 (hr h u)
      | (false, u) => .ok (.tup (u.ps.map D.int)) (hr h u) := by
  have g : PW.good C ⟨pad ps, 0⟩ := ⟨pad_len hl, Int.le_refl 0, fun p hp => by
    simp only [pad, List.mem_append, List.mem_replicate] at hp
    rcases hp with q | ⟨_, q⟩
    · have := hp' p q; exact ⟨this.1, by show p ≤ C + 0; omega⟩
    · subst q; exact ⟨Int.le_refl 0, by show (0 : Int) ≤ C + 0; omega⟩⟩
  have lh : h.length < (h2 h).length := by simp [h2]
  have lh2 : h.length + 1 < (h2 h).length := by simp [h2]
  have e := do_ok (h := h2 h) (r := h.length) (l := h.length + 1) (C := C) hC hb lh lh2 (by omega) 70 b hd ho ⟨pad ps, 0⟩ g (by show (0 : Int) ≤ 200000; decide)
  have ed : f_Runner_do [.ref h.length, .tup (St.encs b)] (hr h ⟨pad ps, 0⟩) = resM (h2 h) h.length (h.length + 1) .non (St.runs b ⟨pad ps, 0⟩) := by rw [← hp_hr]; exact e
  have e0 : isC 2 "do" (.ref h.length) (hr h ⟨pad ps, 0⟩) = .ok () (hr h ⟨pad ps, 0⟩) := by
    rw [← hp_hr]
    have : List.lookup ("do" : Str) ([("places", D.ref (h.length + 1)), ("work", .int 0)] : List (Str × D)) = none := by
      have q1 : (("do" : Str) == "places") = false := by decide +kernel
      have q2 : (("do" : Str) == "work") = false := by decide +kernel
      simp only [List.lookup_cons, q1, q2]
      rfl
    simp only [isC, hp_r (s := ⟨pad ps, 0⟩) lh (show h.length ≠ h.length + 1 by omega), this, and_self, if_true]
  have hm := make_ok (h := h) (P := .tup (St.encs b)) hl
  unfold f_run m_run
  simp only [ev_fn, List.map_cons, List.map_nil, List.length_cons, List.length_nil]
  show ((mSeq _ _ [.v (.tup (St.encs b)), .v (.lst (ps.map D.int)), .no] h).bind _) = _
  simp only [ev_seq, ev_set, hm, rb_ok, ev_expr, mMeth, ev_bind]
  cases q : St.runs b ⟨pad ps, 0⟩ with
  | mk f u =>
    rw [q] at ed
    cases f with
    | true =>
      simp only [resM, hp_hr] at ed
      simp [e0, ed]
    | false =>
      simp only [resM, hp_hr] at ed
      have ef : ∀ env : AG.Env, env[2]? = some (.v (.ref h.length)) → mFld 2 "places" (mVar 2) env (hr h u) = .ok (.ref (h.length + 1)) (hr h u) := fun env he => by
        rw [← hp_hr]
        have ev : mVar 2 env (hp (h2 h) h.length (h.length + 1) u) = .ok (.ref h.length) (hp (h2 h) h.length (h.length + 1) u) := ev_var he
        unfold mFld
        simp only [ev_bind, ev, rb_ok, fldM, hp_r (s := u) lh (show h.length ≠ h.length + 1 by omega), if_true, lk_p]
      have et : fTupR [.ref (h.length + 1)] (hr h u) = .ok (.tup (u.ps.map D.int)) (hr h u) := by
        rw [← hp_hr]
        simp only [fTupR, hp_l (s := u) (r := h.length) lh2]
      simp [e0, ed, ef, et]
def tO (r : Res) : D := match r with
  | (true, _) => .non
  | (false, u) => .tup (u.ps.map D.int)
theorem told_ok {C : Int} {b : List St} {ps : List Int} (hl : ps.length ≤ 4) (hC : 0 ≤ C) (hb : C ≤ 1000000) (hp' : ∀ p ∈ ps, 0 ≤ p ∧ p ≤ C) (hd : St.deps b < 70) (ho : St.oks b) :
    f__law_told [.tup (St.encs b), .lst (ps.map D.int)] h = .ok (tO (St.runs b ⟨pad ps, 0⟩)) (hr h (St.runs b ⟨pad ps, 0⟩).2) := by
  have e := run_ok (h := h) hl hC hb hp' hd ho
  cases q : St.runs b ⟨pad ps, 0⟩ with
  | mk f u =>
    rw [q] at e
    cases f with
    | true =>
      have s : s_of_Above 1 = some true := rfl
      simp only at e
      simp [f__law_told, m__law_told, mTry, e, R.catch, s, R.bind, R.calm, rtOnly, tO]
    | false =>
      simp only at e
      simp [f__law_told, m__law_told, mTry, e, R.catch, R.bind, R.calm, rtOnly, tO]
end
end L_k16
namespace L_k16
open PySem L2 AG
abbrev Ez (y2 y3 y4 y5 y6 y7 y8 y9 y10 y11 y12 y13 y14 : AG.Slot) : AG.Env := [.no, .v (.ref 0), y2, y3, y4, y5, y6, y7, y8, y9, y10, y11, y12, y13, y14]
def h0 : MH := [.stream]
def bD (b : List St) : D := .tup (St.encs b)
def pD (ps : List Int) : D := .lst (ps.map D.int)
structure Pl (ps : List Int) : Prop where
  len : ps.length ≤ 4
  bd : ∀ p ∈ ps, 0 ≤ p ∧ p ≤ 3
section
variable {h : MH} {b : List St} {ps : List Int} {E : Nat → MH → Prop}
theorem part0 : Wp (q_law_0 (Ez .no .no .no .no .no .no .no .no .no .no .no .no .no) h0) (fun fl h' => ∃ e, fl = .nx e ∧ h' = h0 ∧ ∃ b, Pr 2 3 b ∧ e = Ez (.v (bD b)) .no .no .no .no .no .no .no .no .no .no .no .no) E := by
  unfold q_law_0
  refine wp_set ⟨?_⟩
  have c := prog_wp (E := E) (h := h0) (i := 0) rfl
  simp
  generalize f__law_program [.ref 0, .int 3] h0 = R at *
  refine wpR_mono c.out ?_ fun _ _ q => q
  rintro v h' ⟨⟨b, rfl, hb⟩, rfl⟩
  exact ⟨rfl, b, hb, rfl⟩
theorem f2_ints {xs : List D} : ∀ {zs : List D}, F2 (fun (_ : D) d => ∃ n : Nat, d = .int (n : Int) ∧ n ≤ 3) xs zs → ∃ ps : List Int, zs = ps.map D.int ∧ ps.length = xs.length ∧ ∀ p ∈ ps, 0 ≤ p ∧ p ≤ 3 := by
  induction xs with
  | nil => intro zs f; cases zs with
    | nil => exact ⟨[], rfl, rfl, fun p hp => by cases hp⟩
    | cons => exact f.elim
  | cons x xs ih =>
    intro zs f
    cases zs with
    | nil => exact f.elim
    | cons z zs =>
      obtain ⟨⟨n, rfl, l⟩, q⟩ := f
      obtain ⟨ps, rfl, e, h⟩ := ih q
      refine ⟨(n : Int) :: ps, rfl, by simp [e], fun p hp => ?_⟩
      rcases List.mem_cons.mp hp with q | q
      · subst q; omega
      · exact h p q
theorem part1 {y2 : AG.Slot} : Wp (q_law_1 (Ez y2 .no .no .no .no .no .no .no .no .no .no .no .no) h0) (fun fl h' => ∃ e, fl = .nx e ∧ h' = h0 ∧ ∃ ps, Pl ps ∧ e = Ez y2 (.v (pD ps)) .no .no .no .no .no .no .no .no .no .no .no) E := by
  unfold q_law_1
  refine wp_set ⟨?_⟩
  simp [wpR_bind]
  refine draw_wp rfl (by decide) (by decide) fun j hj => ?_
  have r := rng1_nat (h := h0) (n := j) (by omega)
  have l : (rngD 0 j).length ≤ 16777216 := by simp [rngD_def]; omega
  have ll : (rngD 0 j).length = j := by simp [rngD_def]
  simp [r, l, wipeE, wpR_bind]
  refine wpR_calm' ?_
  have cw := compF_wpZ (E := fun _ _ => False) (h := h0) (t := tgName 11) (te := e_law_1) (env := Ez y2 .no .no .no .no .no .no .no .no .no .no .no .no) (f := fun x : D => x) (R := fun _ d => ∃ n : Nat, d = .int (n : Int) ∧ n ≤ 3) (xs := rngD 0 j) fun x hx => ⟨_, rfl, by
    simp [e_law_1, wpR_bind]
    refine draw_wp rfl (by decide) (by decide) fun i hi => ?_
    simp
    exact ⟨i, rfl, by omega⟩⟩
  rw [List.map_id'] at cw
  refine wpR_mono cw (fun ds h'' q => ?_) fun _ _ q => q
  obtain ⟨q, rfl⟩ := q
  obtain ⟨ps, e1, e2, e3⟩ := f2_ints q
  rw [e1]
  exact ⟨rfl, ps, ⟨by omega, e3⟩, rfl⟩
theorem ist {x y : Bool} : opIs not (.bl x) (.bl y) h = .ok (.bl (!(x == y))) h := by cases x <;> cases y <;> rfl
theorem part2 (hb : Pr 2 3 b) {y3 : AG.Slot} : q_law_2 (Ez (.v (bD b)) y3 .no .no .no .no .no .no .no .no .no .no .no) h = .ok (.nx (Ez (.v (bD b)) y3 .no .no .no .no .no .no .no .no .no .no .no)) h := by
  have p : f_is_program [bD b] h = .ok (.bl true) h := prog_ok hb
  have p4 := prog_4 (h := h)
  have pl := prog_l (h := h)
  simp [q_law_2, p, p4, pl, ist]
theorem part3 (hp : Pl ps) {y2 : AG.Slot} : q_law_3 (Ez y2 (.v (pD ps)) .no .no .no .no .no .no .no .no .no .no .no) h = .ok (.nx (Ez y2 (.v (pD ps)) (.v (.ref h.length)) .no .no .no .no .no .no .no .no .no .no)) (h ++ [.lst ((pad ps).map D.int)]) := by
  have hl := hp.len
  have ez : (4 : Int) - ((ps.length : Nat) : Int) = ((4 - ps.length : Nat) : Int) := by omega
  have z := zeros (h := h) (k := 4 - ps.length) (by omega)
  have p := pad_add (h := h) hl
  simp [q_law_3, ev_newLe, ev_addFe, pD, ez, z, p]
theorem part4 (hp : Pl ps) {y2 y4 : AG.Slot} : q_law_4 (Ez y2 (.v (pD ps)) y4 .no .no .no .no .no .no .no .no .no .no) h = .ok (.nx (Ez y2 (.v (pD ps)) y4 (.v (.int (maxI 0 ps))) .no .no .no .no .no .no .no .no .no)) h := by
  have hl := hp.len
  have m := max_ints (h := h) (n := 0) (ns := ps)
  have l1 : 1 + ps.length ≤ 16777216 := by omega
  have l2 : ps.length + 1 ≤ 16777216 := by omega
  simp [q_law_4, pD, m, l1, l2]
theorem maxI_ok : ∀ (ps : List Int) (m : Int), m ≤ maxI m ps ∧ (∀ p ∈ ps, p ≤ maxI m ps) ∧ ∀ C, m ≤ C → (∀ p ∈ ps, p ≤ C) → maxI m ps ≤ C
  | [], m => ⟨Int.le_refl _, (fun p hp => by cases hp), fun C h _ => h⟩
  | p :: ps, m => by
    obtain ⟨a, b, c⟩ := maxI_ok ps (if m < p then p else m)
    have e : maxI m (p :: ps) = maxI (if m < p then p else m) ps := rfl
    have hm : m ≤ (if m < p then p else m) ∧ p ≤ (if m < p then p else m) := by split <;> omega
    rw [e]
    refine ⟨by omega, fun q hq => ?_, fun C h1 h2 => c C ?_ fun q hq => h2 q (List.mem_cons_of_mem _ hq)⟩
    · rcases List.mem_cons.mp hq with w | w
      · subst w; omega
      · exact b q w
    · have := h2 p List.mem_cons_self
      split <;> omega
theorem part5 {y2 y3 y4 y5 : AG.Slot} : q_law_5 (Ez y2 y3 y4 y5 .no .no .no .no .no .no .no .no .no) h = .ok (.nx (Ez y2 y3 y4 y5 (.v (.ref h.length)) .no .no .no .no .no .no .no .no)) (h ++ [.dky [(.inr "work", .int 0)]]) := by
  simp [q_law_5]
def h3 : MH := [.stream, .stream, .stream]
theorem pad_good (hp : Pl ps) : PW.good 3 ⟨pad ps, 0⟩ := ⟨pad_len hp.len, Int.le_refl 0, fun p hq => by
    simp only [pad, List.mem_append, List.mem_replicate] at hq
    rcases hq with q | ⟨_, q⟩
    · have := hp.bd p q; exact ⟨this.1, by show p ≤ 3 + 0; omega⟩
    · subst q; exact ⟨Int.le_refl 0, by show (0 : Int) ≤ 3 + 0; omega⟩⟩
theorem part6 (hb : Pr 2 3 b) (hp : Pl ps) {y3 y5 : AG.Slot} : ∃ s, q_law_6 (Ez (.v (bD b)) y3 (.v (.ref 1)) y5 (.v (.ref 2)) .no .no .no .no .no .no .no .no) (hq h3 1 2 ⟨pad ps, 0⟩) = .ok (.nx (Ez (.v (bD b)) y3 (.v (.ref 1)) y5 (.v (.ref 2)) .no .no .no .no .no .no .no .no)) (hq h3 1 2 s) ∧ Rl (St.runs b ⟨pad ps, 0⟩) s := by
  obtain ⟨s, e, r⟩ := law_do (h := h3) (l := 1) (d := 2) (C := 3) (by decide) (by decide) (by decide) (by decide) 70 b (by have := hb.dep; omega) hb.ok ⟨pad ps, 0⟩ (pad_good hp) (by show (0 : Int) ≤ 200000; decide)
  have e : f__law_run [bD b, .ref 1, .ref 2] (hq h3 1 2 ⟨pad ps, 0⟩) = .ok .non (hq h3 1 2 s) := e
  refine ⟨s, ?_, r⟩
  simp [q_law_6, e]
theorem part7 (hb : Pr 2 3 b) (hp : Pl ps) {y4 y5 y6 : AG.Slot} : q_law_7 (Ez (.v (bD b)) (.v (pD ps)) y4 y5 y6 .no .no .no .no .no .no .no .no) h = .ok (.nx (Ez (.v (bD b)) (.v (pD ps)) y4 y5 y6 (.v (tO (St.runs b ⟨pad ps, 0⟩))) .no .no .no .no .no .no .no)) (hr h (St.runs b ⟨pad ps, 0⟩).2) := by
  have e := told_ok (h := h) (b := b) hp.len (C := 3) (by decide) (by decide) hp.bd (by have := hb.dep; omega) hb.ok
  have e : f__law_told [bD b, pD ps] h = .ok (tO (St.runs b ⟨pad ps, 0⟩)) (hr h (St.runs b ⟨pad ps, 0⟩).2) := e
  generalize St.runs b ⟨pad ps, 0⟩ = R at *
  simp [q_law_7, e]
theorem same_ps {xs : List Int} (hl : xs.length ≤ 1000) : f__law_same [.tup (xs.map D.int), .tup (xs.map D.int)] h = .ok (.bl true) h := same_okK (by
  have l : (xs.map D.int).length ≤ 16777216 := by simp; omega
  simp [D.okN]
  omega)
/-- the run, and what is left in the law's own objects -/
theorem part8 {R : Res} {s : PW} (rl : Rl R s) (hw : ∀ u, R = (false, u) → u.w ≤ 200000 ∧ u.ps.length ≤ 1000) (h1 : h[1]? = some (.lst (s.ps.map D.int))) (h2 : h[2]? = some (.dky [(.inr "work", .int s.w)])) {y2 y3 y5 : AG.Slot} :
    q_law_8 (Ez y2 y3 (.v (.ref 1)) y5 (.v (.ref 2)) (.v (tO R)) .no .no .no .no .no .no .no) h = .ok (.nx (Ez y2 y3 (.v (.ref 1)) y5 (.v (.ref 2)) (.v (tO R)) .no .no .no .no .no .no .no)) h := by
  have gk : opGetK (.ref 2) (.str "work") h = .ok (.int s.w) h := by simp only [opGetK, h2, key_w, kget_w]
  have n1 : ∀ x y : Bool, opNe (.bl x) (.bl y) h = .ok (.bl (x != y)) h := fun x y => by cases x <;> cases y <;> rfl
  obtain ⟨f, u⟩ := R
  cases f with
  | true =>
    have w : 200000 < s.w := rl
    simp [q_law_8, tO, gk, is_non, isn_non, w, n1]
  | false =>
    have e : s = u := rl
    subst e
    obtain ⟨w, l⟩ := hw s rfl
    have w : ¬ 200000 < s.w := by omega
    have i1 : opIs id (.tup (s.ps.map D.int)) .non h = .ok (.bl false) h := rfl
    have i2 : opIs not (.tup (s.ps.map D.int)) .non h = .ok (.bl true) h := rfl
    have tr : fTupR [.ref 1] h = .ok (.tup (s.ps.map D.int)) h := by simp only [fTupR, h1]
    have sm := same_ps (h := h) l
    rw [show tO (false, s) = .tup (s.ps.map D.int) from rfl]
    generalize s.ps.map D.int = X at *
    simp [q_law_8, gk, i1, i2, w, n1, tr, sm]
theorem part9 (hb : Pr 2 3 b) {n : Nat} (hn : n ≤ 3) {y3 y4 y6 y7 : AG.Slot} : q_law_9 (Ez (.v (bD b)) y3 y4 (.v (.int (n : Int))) y6 y7 .no .no .no .no .no .no .no) h = .ok (.nx (Ez (.v (bD b)) y3 y4 (.v (.int (n : Int))) y6 y7 .no .no .no .no .no .no .no)) h := by
  have hs := sm_s b hb.dep hb.wd
  have hw := wd_shs b hb.wd
  have hd := hb.dep
  have hl := hb.len
  obtain ⟨v, lv⟩ := level_M (h := h) 70 b (by omega) hw (by omega)
  have lv : f_level [bD b] h = .ok (.int v) h := lv
  have lv2 : f__law_level [bD b] h = .ok (.int v) h := by rw [level_eq]; exact lv
  have sm := same_int (h := h) (x := v)
  have r : f__law_is_bound_right [bD b, .int (n : Int)] h = .ok (.bl true) h := right_ok (by omega) hs hw (by omega)
  simp [q_law_9, lv, lv2, sm, r]
theorem part10 (hb : Pr 2 3 b) {n : Nat} (hn : n ≤ 3) {y3 y4 y6 y7 : AG.Slot} : q_law_10 (Ez (.v (bD b)) y3 y4 (.v (.int (n : Int))) y6 y7 .no .no .no .no .no .no .no) h = .ok (.nx (Ez (.v (bD b)) y3 y4 (.v (.int (n : Int))) y6 y7 (.v (oD (cut (St.Bs b n)))) .no .no .no .no .no .no)) h := by
  have hs := sm_s b hb.dep hb.wd
  have hw := wd_shs b hb.wd
  have hd := hb.dep
  have m3 : 3 < MS := by decide
  have r : f__law_told_bound [bD b, .int (n : Int)] h = .ok (oD (cut (St.Bs b n))) h := told_bound_ok (by omega) hs hw (by omega)
  simp [q_law_10, r]
theorem part11 {R : Res} {o : Option Nat} (hu : ∀ u m, R = (false, u) → o = some m → u.ps.length ≤ 1000 ∧ ∀ p ∈ u.ps, p ≤ (m : Int)) {y2 y3 y4 y5 y6 : AG.Slot} :
    q_law_11 (Ez y2 y3 y4 y5 y6 (.v (tO R)) (.v (oD o)) .no .no .no .no .no .no) h = .ok (.nx (Ez y2 y3 y4 y5 y6 (.v (tO R)) (.v (oD o)) .no .no .no .no .no .no)) h := by
  cases o with
  | none => simp [q_law_11, oD, isn_non]
  | some m =>
    obtain ⟨f, u⟩ := R
    cases f with
    | true => simp [q_law_11, oD, tO, isn_int, isn_non]
    | false =>
      obtain ⟨l, q⟩ := hu u m rfl rfl
      have i2 : opIs not (.tup (u.ps.map D.int)) .non h = .ok (.bl true) h := rfl
      have c : compF (tgName 14) mYes e_law_2 (Ez y2 y3 y4 y5 y6 (.v (.tup (u.ps.map D.int))) (.v (.int (m : Int))) .no .no .no .no .no .no) (u.ps.map D.int) h = .ok (u.ps.map fun _ => .bl true) h :=
        compF_map (f := D.int) (g := fun _ => D.bl true) fun p hp => ⟨_, rfl, by
          have := q p hp
          simp [e_law_2, this]⟩
      have l1 : (u.ps.map D.int).length ≤ 16777216 := by simp; omega
      have fy := fAll_yes (h := h) (xs := u.ps)
      rw [show tO (false, u) = .tup (u.ps.map D.int) from rfl]
      generalize u.ps.map (fun _ => D.bl true) = Y at *
      generalize u.ps.map D.int = X at *
      simp [q_law_11, oD, isn_int, i2, l1, wipeE, c, fy]
theorem part12 {e : AG.Env} : q_law_12 e h = .ok (.nx e) h := by
  have d : f_doubled [.int 0, .int 1] h = .ok (.tup [.tup [.str "copy", .int 1, .int 0], .tup [.str "repeat", .int 1, .tup [.tup [.str "next", .int 0]]]]) h := by simp [f_doubled, m_doubled]
  have s : f__law_same [.tup [.tup [.str "copy", .int 1, .int 0], .tup [.str "repeat", .int 1, .tup [.tup [.str "next", .int 0]]]], .tup [.tup [.str "copy", .int 1, .int 0], .tup [.str "repeat", .int 1, .tup [.tup [.str "next", .int 0]]]]] h = .ok (.bl true) h := same_okK rfl
  simp [q_law_12, d, s]
/-! ### the nested ones -/
theorem part13 {y2 y3 y4 y5 y6 y7 y8 : AG.Slot} : q_law_13 (Ez y2 y3 y4 y5 y6 y7 y8 .no .no .no .no .no .no) h = .ok (.nx (Ez y2 y3 y4 y5 y6 y7 y8 (.v (bD (pn 0))) .no .no .no .no .no)) h := rfl
theorem bD_succ {j : Nat} : bD (pn (j + 1)) = .tup [.tup [.str "copy", .int (1 + (j : Int)), .int 0], .tup [.str "repeat", .int (1 + (j : Int)), bD (pn j)]] := by
  have e : (1 + (j : Int)) = ((j + 1 : Nat) : Int) := by omega
  rw [e]
  rfl
theorem loop15 {y2 y3 y4 y5 y6 y7 y8 y10 : AG.Slot} : ∀ (k j : Nat) (y11 : AG.Slot), ∃ y, loopF (tgName 11) b_law_1 (rngD (j : Int) k) (Ez y2 y3 y4 y5 y6 y7 y8 (.v (bD (pn j))) y10 y11 .no .no .no) h = .ok (.nx (Ez y2 y3 y4 y5 y6 y7 y8 (.v (bD (pn (j + k)))) y10 y .no .no .no)) h
  | 0, j, y11 => ⟨y11, rfl⟩
  | k + 1, j, y11 => by
    obtain ⟨y, e⟩ := loop15 (y2 := y2) (y3 := y3) (y4 := y4) (y5 := y5) (y6 := y6) (y7 := y7) (y8 := y8) (y10 := y10) k (j + 1) (.v (.int (j : Int)))
    refine ⟨y, ?_⟩
    have er : rngD (j : Int) (k + 1) = .int (j : Int) :: rngD ((j + 1 : Nat) : Int) k := rfl
    rw [er, loopF_cons (env1 := Ez y2 y3 y4 y5 y6 y7 y8 (.v (bD (pn j))) y10 (.v (.int (j : Int))) .no .no .no) (e := Ez y2 y3 y4 y5 y6 y7 y8 (.v (bD (pn (j + 1)))) y10 (.v (.int (j : Int))) .no .no .no) (h' := h) (by rfl) ?_, e]
    · have : j + 1 + k = j + (k + 1) := by omega
      rw [this]
    · rw [bD_succ]
      generalize bD (pn j) = X
      simp [b_law_1]
theorem part15 {d : Nat} (hd : d < 4) {y2 y3 y4 y5 y6 y7 y8 : AG.Slot} : ∃ y11, q_law_15 (Ez y2 y3 y4 y5 y6 y7 y8 (.v (bD (pn 0))) (.v (.int (d : Int))) .no .no .no .no) h = .ok (.nx (Ez y2 y3 y4 y5 y6 y7 y8 (.v (bD (pn d))) (.v (.int (d : Int))) y11 .no .no .no)) h := by
  obtain ⟨y, e⟩ := loop15 (h := h) (y2 := y2) (y3 := y3) (y4 := y4) (y5 := y5) (y6 := y6) (y7 := y7) (y8 := y8) (y10 := .v (.int (d : Int))) d 0 .no
  have r := rng1_nat (h := h) (n := d) (by omega)
  rw [Nat.zero_add] at e
  have e : loopF (tgName 11) b_law_1 (rngD 0 d) (Ez y2 y3 y4 y5 y6 y7 y8 (.v (bD (pn 0))) (.v (.int (d : Int))) .no .no .no .no) h = .ok (.nx (Ez y2 y3 y4 y5 y6 y7 y8 (.v (bD (pn d))) (.v (.int (d : Int))) y .no .no .no)) h := e
  refine ⟨y, ?_⟩
  generalize bD (pn 0) = X at *
  generalize bD (pn d) = Y at *
  simp [q_law_15, r, e]
theorem nested_ok {d : Nat} (hd : d < 4) : f_nested [.int (d : Int)] h = .ok (bD (pn d)) h := by
  match d, hd with
  | 0, _ => rfl
  | 1, _ => rfl
  | 2, _ => rfl
  | 3, _ => rfl
theorem pn_sh : ∀ d, St.shs (pn d)
  | 0 => ⟨True.intro, True.intro⟩
  | d + 1 => ⟨True.intro, ⟨by cases d <;> simp [pn], pn_sh d⟩, True.intro⟩
theorem pn_ok : ∀ d, d < 4 → St.oks (pn d)
  | 0, _ => ⟨(show 0 < 4 by decide), True.intro⟩
  | d + 1, h => ⟨⟨h, (show 0 < 4 by decide)⟩, ⟨h, pn_ok d (by omega)⟩, True.intro⟩
theorem pn_dep : ∀ d, St.deps (pn d) = d
  | 0 => rfl
  | d + 1 => by simp only [pn, St.deps, St.dep, pn_dep d]; omega
theorem pn_lt {d n : Nat} (hd : d < 4) (hn : n < 3) : St.Bs (pn d) n < 3000 := by
  match d, hd, n, hn with
  | 0, _, 0, _ => decide +kernel
  | 0, _, 1, _ => decide +kernel
  | 0, _, 2, _ => decide +kernel
  | 1, _, 0, _ => decide +kernel
  | 1, _, 1, _ => decide +kernel
  | 1, _, 2, _ => decide +kernel
  | 2, _, 0, _ => decide +kernel
  | 2, _, 1, _ => decide +kernel
  | 2, _, 2, _ => decide +kernel
  | 3, _, 0, _ => decide +kernel
  | 3, _, 1, _ => decide +kernel
  | 3, _, 2, _ => decide +kernel
theorem pn_sm : ∀ d, d < 4 → St.sms (pn d)
  | 0, _ => ⟨True.intro, True.intro⟩
  | d + 1, h => ⟨True.intro, ⟨by
    have := pn_lt (d := d) (n := 2) (by omega) (by decide)
    have m : 3000 < MS := by decide
    omega, pn_sm d (by omega)⟩, True.intro⟩
theorem part16 {d : Nat} (hd : d < 4) {y2 y3 y4 y5 y6 y7 y8 y11 : AG.Slot} : q_law_16 (Ez y2 y3 y4 y5 y6 y7 y8 (.v (bD (pn d))) (.v (.int (d : Int))) y11 .no .no .no) h = .ok (.nx (Ez y2 y3 y4 y5 y6 y7 y8 (.v (bD (pn d))) (.v (.int (d : Int))) y11 .no .no .no)) h := by
  have e := nested_ok (h := h) hd
  have s : f__law_same [bD (pn d), bD (pn d)] h = .ok (.bl true) h := same_okK (ok_prog (pn_sh d) (by cases d <;> simp [pn]) (by rw [pn_dep]; omega) (by decide))
  generalize bD (pn d) = X at *
  simp [q_law_16, e, s]
theorem part18 {d n : Nat} (hd : d < 4) (hn : n < 3) {y2 y3 y4 y5 y6 y7 y8 y10 y11 : AG.Slot} : q_law_18 (Ez y2 y3 y4 y5 y6 y7 y8 (.v (bD (pn d))) y10 y11 (.v (.int (n : Int))) .no .no) h = .ok (.nx (Ez y2 y3 y4 y5 y6 y7 y8 (.v (bD (pn d))) y10 y11 (.v (.int (n : Int))) (.v (tO (St.runs (pn d) ⟨pad [(n : Int)], 0⟩))) .no)) (hr h (St.runs (pn d) ⟨pad [(n : Int)], 0⟩).2) := by
  have e := told_ok (h := h) (b := pn d) (ps := [(n : Int)]) (by simp) (C := 3) (by decide) (by decide) (fun p hp => by simp at hp; subst hp; omega) (by rw [pn_dep]; omega) (pn_ok d hd)
  have e : f__law_told [bD (pn d), .lst [.int (n : Int)]] h = .ok (tO (St.runs (pn d) ⟨pad [(n : Int)], 0⟩)) (hr h (St.runs (pn d) ⟨pad [(n : Int)], 0⟩).2) := e
  generalize St.runs (pn d) ⟨pad [(n : Int)], 0⟩ = R at *
  generalize bD (pn d) = X at *
  simp [q_law_18, e]
theorem part19 {d n : Nat} (hd : d < 4) (hn : n < 3) {R : Res} (eR : St.runs (pn d) ⟨pad [(n : Int)], 0⟩ = R) {y2 y3 y4 y5 y6 y7 y8 y10 y11 : AG.Slot} : q_law_19 (Ez y2 y3 y4 y5 y6 y7 y8 (.v (bD (pn d))) y10 y11 (.v (.int (n : Int))) (.v (tO R)) .no) h = .ok (.rt (.bl true)) h := by
  obtain ⟨f, u⟩ := R
  cases f with
  | true => simp [q_law_19, tO, is_non]
  | false =>
    obtain ⟨l4, u0⟩ := pn_run d (by omega) ⟨pad [(n : Int)], 0⟩ n u (pad_len (by simp)) rfl eR
    have lt := pn_lt hd hn
    have m : 3000 < MS := by decide
    have tb := told_bound_ok (h := h) (b := pn d) (n := n) (by rw [pn_dep]; omega) (pn_sm d hd) (pn_sh d) (by omega)
    rw [cut_lt (by omega)] at tb
    have tb : f__law_told_bound [bD (pn d), .int (n : Int)] h = .ok (.int ((St.Bs (pn d) n : Nat) : Int)) h := tb
    have i1 : opIs id (.tup (u.ps.map D.int)) .non h = .ok (.bl false) h := rfl
    have ix : atI (u.ps.map D.int) 0 = some (.int ((St.Bs (pn d) n : Nat) : Int)) := by
      rw [← u0]
      exact at_ps (j := 0) (by omega)
    rw [show tO (false, u) = .tup (u.ps.map D.int) from rfl]
    generalize u.ps.map D.int = X at *
    generalize bD (pn d) = Y at *
    simp [q_law_19, i1, ix, tb]
theorem draw_part {q : AG.Env → M Fl} {i n : Nat} {e : AG.Env} (hq : q = mSet i (mCallN 2 f__law_draw (mCons (mVar 1) (mCons (mC (.int (n : Int))) mNil)))) (he : e[1]? = some (.v (.ref 0))) (hs : h[0]? = some .stream) (h1 : 0 < n) (h2 : n < 1000) :
    Wp (q e h) (fun fl h' => ∃ e', fl = .nx e' ∧ h' = h ∧ ∃ j : Nat, j < n ∧ e' = e.set i (.v (.int (j : Int)))) E := by
  subst hq
  refine wp_set ⟨?_⟩
  have ev : mVar 1 e h = .ok (.ref 0) h := ev_var he
  simp [wpR_bind, ev]
  refine draw_wp hs (by omega) (by omega) fun j hj => ?_
  simp
  exact ⟨j, by omega, rfl⟩
theorem law_holds : LawM f_law := fun ns _ => by
  unfold f_law
  refine law_of (env := .v (.scr ns) :: List.replicate 14 .no) rfl ?_
  unfold m_law
  refine Wp.seqE (e := .v (.scr ns) :: .v (.ref 0) :: List.replicate 13 .no) (h' := h0) (by simp [fStream]; rfl) ?_
  rw [ev_drop]
  unfold r_law_1
  refine Wp.seqP part0 ?_
  rintro e h ⟨rfl, b, hb, rfl⟩
  unfold z_law_1
  refine Wp.seqP part1 ?_
  rintro e h ⟨rfl, ps, hp, rfl⟩
  unfold z_law_2
  refine Wp.seqE (part2 hb) ?_
  unfold z_law_3
  refine Wp.seqE (part3 hp) ?_
  unfold z_law_4
  refine Wp.seqE (part4 hp) ?_
  obtain ⟨m0, m1, m2⟩ := maxI_ok ps 0
  have m3 := m2 3 (by decide) fun p hq => (hp.bd p hq).2
  obtain ⟨n, en⟩ : ∃ n : Nat, maxI 0 ps = (n : Int) := ⟨(maxI 0 ps).toNat, by omega⟩
  rw [en] at m1 m3 ⊢
  have hn : n ≤ 3 := by omega
  unfold z_law_5
  refine Wp.seqE part5 ?_
  have eh : h0 ++ [MO.lst ((pad ps).map D.int)] ++ [MO.dky [(.inr "work", .int 0)]] = hq h3 1 2 ⟨pad ps, 0⟩ := rfl
  rw [eh]
  obtain ⟨s, e6, rl⟩ := part6 hb hp (y3 := .v (pD ps)) (y5 := .v (.int (n : Int)))
  unfold z_law_6
  refine Wp.seqE e6 ?_
  unfold z_law_7
  refine Wp.seqE (part7 hb hp) ?_
  have rw8 : ∀ u, St.runs b ⟨pad ps, 0⟩ = (false, u) → u.w ≤ 200000 ∧ u.ps.length ≤ 1000 ∧ ∀ m, cut (St.Bs b n) = some m → ∀ p ∈ u.ps, p ≤ (m : Int) := fun u e => by
    have le0 : PW.le ⟨pad ps, 0⟩ n := ⟨pad_len hp.len, fun p hq => by
      simp only [pad, List.mem_append, List.mem_replicate] at hq
      rcases hq with q | ⟨_, q⟩
      · have := hp.bd p q; have := m1 p q; omega
      · subst q; omega⟩
    have q := runs_B b hb.ok ⟨pad ps, 0⟩ n u le0 e
    refine ⟨runs_le b ⟨pad ps, 0⟩ u (by show (0 : Int) ≤ 200000; decide) e, by have := q.1; omega, fun m hm p hpp => ?_⟩
    have em : m = St.Bs b n := by
      unfold cut at hm
      split at hm
      · cases hm; rfl
      · cases hm
    rw [em]
    exact (q.2 p hpp).2
  generalize St.runs b ⟨pad ps, 0⟩ = R at *
  have l3 : (hq h3 1 2 s).length = 3 := rfl
  have g1 : (hr (hq h3 1 2 s) R.2)[1]? = some (.lst (s.ps.map D.int)) := by rw [hr_lt (by omega)]; rfl
  have g2 : (hr (hq h3 1 2 s) R.2)[2]? = some (.dky [(.inr "work", .int s.w)]) := by rw [hr_lt (by omega)]; rfl
  have g0 : (hr (hq h3 1 2 s) R.2)[0]? = some .stream := by rw [hr_lt (by omega)]; rfl
  generalize hr (hq h3 1 2 s) R.2 = h1 at *
  unfold z_law_8
  refine Wp.seqE (part8 rl (fun u e => ⟨(rw8 u e).1, (rw8 u e).2.1⟩) g1 g2) ?_
  unfold z_law_9
  refine Wp.seqE (part9 hb hn) ?_
  unfold z_law_10
  refine Wp.seqE (part10 hb hn) ?_
  unfold z_law_11
  refine Wp.seqE (part11 fun u m e1 e2 => ⟨(rw8 u e1).2.1, (rw8 u e1).2.2 m e2⟩) ?_
  unfold z_law_12
  refine Wp.seqE part12 ?_
  unfold z_law_13
  refine Wp.seqE part13 ?_
  unfold z_law_14
  refine Wp.seqP (draw_part (q := q_law_14) (i := 10) (n := 4) rfl rfl g0 (by decide) (by decide)) ?_
  rintro e h ⟨rfl, d, hd, rfl⟩
  obtain ⟨y11, e15⟩ := part15 (h := h) hd (y2 := .v (bD b)) (y3 := .v (pD ps)) (y4 := .v (.ref 1)) (y5 := .v (.int (n : Int))) (y6 := .v (.ref 2)) (y7 := .v (tO R)) (y8 := .v (oD (cut (St.Bs b n))))
  unfold z_law_15
  refine Wp.seqE e15 ?_
  unfold z_law_16
  refine Wp.seqE (part16 hd) ?_
  unfold z_law_17
  refine Wp.seqP (draw_part (q := q_law_17) (i := 12) (n := 3) rfl rfl g0 (by decide) (by decide)) ?_
  rintro e h ⟨rfl, k, hk, rfl⟩
  unfold z_law_18
  refine Wp.seqE (part18 hd hk) ?_
  rw [part19 hd hk rfl]
  exact Wp.ok rfl
end
end L_k16
namespace L_k16
open PySem L2 AG PyProof.Rows
set_option maxHeartbeats 4000000 in
theorem all_mk {P : Program} {w : World} {K : PySem.W.Frag} {h : Heap} {mg : Str → Option Value} {d : DefRec} (hd : ("law" : Str) = d.name) (X : K.In h) (G : h.Ns mainGlobals mg)
    {A0 A1 A2 : Addr}
    {f0 : Addr} {od0 an0 : Option Addr} {sl0 : Array (Option Value)} {oc0 kV0 dc0 pm0 cd0 ct0 : Value}
    (a0 : PySem.W.nsIn K mainGlobals "_law_stream" = some (some (.ref f0))) (l0 : K.lookup f0 = some ⟨oc0, od0, .func (PySem.W.fnOf "_law_stream" "_law_stream" (defArgs s__law_stream) (defBody s__law_stream) (defScope s__law_stream) .none kV0 dc0 pm0 an0 cd0 ct0), sl0⟩)
    (c0 : PySem.W.codeIn K cd0 "_law_stream" = true) (k0 : PySem.W.keepIn K (.ref f0) = true)
    {f1 : Addr} {od1 an1 : Option Addr} {sl1 : Array (Option Value)} {oc1 kV1 dc1 pm1 cd1 ct1 : Value}
    (a1 : PySem.W.nsIn K mainGlobals "_law_draw" = some (some (.ref f1))) (l1 : K.lookup f1 = some ⟨oc1, od1, .func (PySem.W.fnOf "_law_draw" "_law_draw" (defArgs s__law_draw) (defBody s__law_draw) (defScope s__law_draw) .none kV1 dc1 pm1 an1 cd1 ct1), sl1⟩)
    (c1 : PySem.W.codeIn K cd1 "_law_draw" = true) (k1 : PySem.W.keepIn K (.ref f1) = true)
    {f2 : Addr} {od2 an2 : Option Addr} {sl2 : Array (Option Value)} {oc2 kV2 dc2 pm2 cd2 ct2 : Value}
    (a2 : PySem.W.nsIn K mainGlobals "_law_program" = some (some (.ref f2))) (l2 : K.lookup f2 = some ⟨oc2, od2, .func (PySem.W.fnOf "_law_program" "_law_program" (defArgs s__law_program) (defBody s__law_program) (defScope s__law_program) .none kV2 dc2 pm2 an2 cd2 ct2), sl2⟩)
    (c2 : PySem.W.codeIn K cd2 "_law_program" = true) (k2 : PySem.W.keepIn K (.ref f2) = true)
    {f3 : Addr} {od3 an3 : Option Addr} {sl3 : Array (Option Value)} {oc3 kV3 dc3 pm3 cd3 ct3 : Value}
    (a3 : PySem.W.nsIn K mainGlobals "_law_run" = some (some (.ref f3))) (l3 : K.lookup f3 = some ⟨oc3, od3, .func (PySem.W.fnOf "_law_run" "_law_run" (defArgs s__law_run) (defBody s__law_run) (defScope s__law_run) .none kV3 dc3 pm3 an3 cd3 ct3), sl3⟩)
    (c3 : PySem.W.codeIn K cd3 "_law_run" = true) (k3 : PySem.W.keepIn K (.ref f3) = true)
    {f4 : Addr} {od4 an4 : Option Addr} {sl4 : Array (Option Value)} {oc4 kV4 dc4 pm4 cd4 ct4 : Value}
    (a4 : PySem.W.findIn K (.ref A2) "__init__" = some (some (.ref f4))) (i4 : PySem.W.isFn K (.ref f4) = true) (l4 : K.lookup f4 = some ⟨oc4, od4, .func (PySem.W.fnOf "__init__" "Runner.__init__" (defArgs s_Runner___init__) (defBody s_Runner___init__) (defScope s_Runner___init__) .none kV4 dc4 pm4 an4 cd4 ct4), sl4⟩)
    (c4 : PySem.W.codeIn K cd4 "Runner.__init__" = true) (k4 : PySem.W.keepIn K (.ref f4) = true)
    {f5 : Addr} {od5 an5 : Option Addr} {sl5 : Array (Option Value)} {oc5 kV5 dc5 pm5 cd5 ct5 : Value}
    (a5 : PySem.W.findIn K (.ref A2) "do" = some (some (.ref f5))) (i5 : PySem.W.isFn K (.ref f5) = true) (l5 : K.lookup f5 = some ⟨oc5, od5, .func (PySem.W.fnOf "do" "Runner.do" (defArgs s_Runner_do) (defBody s_Runner_do) (defScope s_Runner_do) .none kV5 dc5 pm5 an5 cd5 ct5), sl5⟩)
    (c5 : PySem.W.codeIn K cd5 "Runner.do" = true) (k5 : PySem.W.keepIn K (.ref f5) = true)
    {f6 : Addr} {od6 an6 : Option Addr} {sl6 : Array (Option Value)} {oc6 kV6 dc6 pm6 cd6 ct6 : Value}
    (a6 : PySem.W.nsIn K mainGlobals "run" = some (some (.ref f6))) (l6 : K.lookup f6 = some ⟨oc6, od6, .func (PySem.W.fnOf "run" "run" (defArgs s_run) (defBody s_run) (defScope s_run) .none kV6 dc6 pm6 an6 cd6 ct6), sl6⟩)
    (c6 : PySem.W.codeIn K cd6 "run" = true) (k6 : PySem.W.keepIn K (.ref f6) = true)
    {f7 : Addr} {od7 an7 : Option Addr} {sl7 : Array (Option Value)} {oc7 kV7 dc7 pm7 cd7 ct7 : Value}
    (a7 : PySem.W.nsIn K mainGlobals "_law_told" = some (some (.ref f7))) (l7 : K.lookup f7 = some ⟨oc7, od7, .func (PySem.W.fnOf "_law_told" "_law_told" (defArgs s__law_told) (defBody s__law_told) (defScope s__law_told) .none kV7 dc7 pm7 an7 cd7 ct7), sl7⟩)
    (c7 : PySem.W.codeIn K cd7 "_law_told" = true) (k7 : PySem.W.keepIn K (.ref f7) = true)
    {f8 : Addr} {od8 an8 : Option Addr} {sl8 : Array (Option Value)} {oc8 kV8 dc8 pm8 cd8 ct8 : Value}
    (a8 : PySem.W.nsIn K mainGlobals "checked" = some (some (.ref f8))) (l8 : K.lookup f8 = some ⟨oc8, od8, .func (PySem.W.fnOf "checked" "checked" (defArgs s_checked) (defBody s_checked) (defScope s_checked) .none kV8 dc8 pm8 an8 cd8 ct8), sl8⟩)
    (c8 : PySem.W.codeIn K cd8 "checked" = true) (k8 : PySem.W.keepIn K (.ref f8) = true)
    {f9 : Addr} {od9 an9 : Option Addr} {sl9 : Array (Option Value)} {oc9 kV9 dc9 pm9 cd9 ct9 : Value}
    (a9 : PySem.W.nsIn K mainGlobals "is_level" = some (some (.ref f9))) (l9 : K.lookup f9 = some ⟨oc9, od9, .func (PySem.W.fnOf "is_level" "is_level" (defArgs s_is_level) (defBody s_is_level) (defScope s_is_level) .none kV9 dc9 pm9 an9 cd9 ct9), sl9⟩)
    (c9 : PySem.W.codeIn K cd9 "is_level" = true) (k9 : PySem.W.keepIn K (.ref f9) = true)
    {f10 : Addr} {od10 an10 : Option Addr} {sl10 : Array (Option Value)} {oc10 kV10 dc10 pm10 cd10 ct10 : Value}
    (a10 : PySem.W.nsIn K mainGlobals "repeated" = some (some (.ref f10))) (l10 : K.lookup f10 = some ⟨oc10, od10, .func (PySem.W.fnOf "repeated" "repeated" (defArgs s_repeated) (defBody s_repeated) (defScope s_repeated) .none kV10 dc10 pm10 an10 cd10 ct10), sl10⟩)
    (c10 : PySem.W.codeIn K cd10 "repeated" = true) (k10 : PySem.W.keepIn K (.ref f10) = true)
    {f11 : Addr} {od11 an11 : Option Addr} {sl11 : Array (Option Value)} {oc11 kV11 dc11 pm11 cd11 ct11 : Value}
    (a11 : PySem.W.nsIn K mainGlobals "bound" = some (some (.ref f11))) (l11 : K.lookup f11 = some ⟨oc11, od11, .func (PySem.W.fnOf "bound" "bound" (defArgs s_bound) (defBody s_bound) (defScope s_bound) .none kV11 dc11 pm11 an11 cd11 ct11), sl11⟩)
    (c11 : PySem.W.codeIn K cd11 "bound" = true) (k11 : PySem.W.keepIn K (.ref f11) = true)
    {f12 : Addr} {od12 an12 : Option Addr} {sl12 : Array (Option Value)} {oc12 kV12 dc12 pm12 cd12 ct12 : Value}
    (a12 : PySem.W.nsIn K mainGlobals "_law_told_bound" = some (some (.ref f12))) (l12 : K.lookup f12 = some ⟨oc12, od12, .func (PySem.W.fnOf "_law_told_bound" "_law_told_bound" (defArgs s__law_told_bound) (defBody s__law_told_bound) (defScope s__law_told_bound) .none kV12 dc12 pm12 an12 cd12 ct12), sl12⟩)
    (c12 : PySem.W.codeIn K cd12 "_law_told_bound" = true) (k12 : PySem.W.keepIn K (.ref f12) = true)
    {f13 : Addr} {od13 an13 : Option Addr} {sl13 : Array (Option Value)} {oc13 kV13 dc13 pm13 cd13 ct13 : Value}
    (a13 : PySem.W.nsIn K mainGlobals "_law_same" = some (some (.ref f13))) (l13 : K.lookup f13 = some ⟨oc13, od13, .func (PySem.W.fnOf "_law_same" "_law_same" (defArgs s__law_same) (defBody s__law_same) (defScope s__law_same) .none kV13 dc13 pm13 an13 cd13 ct13), sl13⟩)
    (c13 : PySem.W.codeIn K cd13 "_law_same" = true) (k13 : PySem.W.keepIn K (.ref f13) = true)
    {f14 : Addr} {od14 an14 : Option Addr} {sl14 : Array (Option Value)} {oc14 kV14 dc14 pm14 cd14 ct14 : Value}
    (a14 : PySem.W.nsIn K mainGlobals "is_number" = some (some (.ref f14))) (l14 : K.lookup f14 = some ⟨oc14, od14, .func (PySem.W.fnOf "is_number" "is_number" (defArgs s_is_number) (defBody s_is_number) (defScope s_is_number) .none kV14 dc14 pm14 an14 cd14 ct14), sl14⟩)
    (c14 : PySem.W.codeIn K cd14 "is_number" = true) (k14 : PySem.W.keepIn K (.ref f14) = true)
    {f15 : Addr} {od15 an15 : Option Addr} {sl15 : Array (Option Value)} {oc15 kV15 dc15 pm15 cd15 ct15 : Value}
    (a15 : PySem.W.nsIn K mainGlobals "is_place" = some (some (.ref f15))) (l15 : K.lookup f15 = some ⟨oc15, od15, .func (PySem.W.fnOf "is_place" "is_place" (defArgs s_is_place) (defBody s_is_place) (defScope s_is_place) .none kV15 dc15 pm15 an15 cd15 ct15), sl15⟩)
    (c15 : PySem.W.codeIn K cd15 "is_place" = true) (k15 : PySem.W.keepIn K (.ref f15) = true)
    {f16 : Addr} {od16 an16 : Option Addr} {sl16 : Array (Option Value)} {oc16 kV16 dc16 pm16 cd16 ct16 : Value}
    (a16 : PySem.W.nsIn K mainGlobals "is_step" = some (some (.ref f16))) (l16 : K.lookup f16 = some ⟨oc16, od16, .func (PySem.W.fnOf "is_step" "is_step" (defArgs s_is_step) (defBody s_is_step) (defScope s_is_step) .none kV16 dc16 pm16 an16 cd16 ct16), sl16⟩)
    (c16 : PySem.W.codeIn K cd16 "is_step" = true) (k16 : PySem.W.keepIn K (.ref f16) = true)
    {f17 : Addr} {od17 an17 : Option Addr} {sl17 : Array (Option Value)} {oc17 kV17 dc17 pm17 cd17 ct17 : Value}
    (a17 : PySem.W.nsIn K mainGlobals "is_program_at" = some (some (.ref f17))) (l17 : K.lookup f17 = some ⟨oc17, od17, .func (PySem.W.fnOf "is_program_at" "is_program_at" (defArgs s_is_program_at) (defBody s_is_program_at) (defScope s_is_program_at) .none kV17 dc17 pm17 an17 cd17 ct17), sl17⟩)
    (c17 : PySem.W.codeIn K cd17 "is_program_at" = true) (k17 : PySem.W.keepIn K (.ref f17) = true)
    {f18 : Addr} {od18 an18 : Option Addr} {sl18 : Array (Option Value)} {oc18 kV18 dc18 pm18 cd18 ct18 : Value}
    (a18 : PySem.W.nsIn K mainGlobals "is_program" = some (some (.ref f18))) (l18 : K.lookup f18 = some ⟨oc18, od18, .func (PySem.W.fnOf "is_program" "is_program" (defArgs s_is_program) (defBody s_is_program) (defScope s_is_program) .none kV18 dc18 pm18 an18 cd18 ct18), sl18⟩)
    (c18 : PySem.W.codeIn K cd18 "is_program" = true) (k18 : PySem.W.keepIn K (.ref f18) = true)
    {f19 : Addr} {od19 an19 : Option Addr} {sl19 : Array (Option Value)} {oc19 kV19 dc19 pm19 cd19 ct19 : Value}
    (a19 : PySem.W.nsIn K mainGlobals "_law_bound" = some (some (.ref f19))) (l19 : K.lookup f19 = some ⟨oc19, od19, .func (PySem.W.fnOf "_law_bound" "_law_bound" (defArgs s__law_bound) (defBody s__law_bound) (defScope s__law_bound) .none kV19 dc19 pm19 an19 cd19 ct19), sl19⟩)
    (c19 : PySem.W.codeIn K cd19 "_law_bound" = true) (k19 : PySem.W.keepIn K (.ref f19) = true)
    {f20 : Addr} {od20 an20 : Option Addr} {sl20 : Array (Option Value)} {oc20 kV20 dc20 pm20 cd20 ct20 : Value}
    (a20 : PySem.W.nsIn K mainGlobals "_law_is_bound_right" = some (some (.ref f20))) (l20 : K.lookup f20 = some ⟨oc20, od20, .func (PySem.W.fnOf "_law_is_bound_right" "_law_is_bound_right" (defArgs s__law_is_bound_right) (defBody s__law_is_bound_right) (defScope s__law_is_bound_right) .none kV20 dc20 pm20 an20 cd20 ct20), sl20⟩)
    (c20 : PySem.W.codeIn K cd20 "_law_is_bound_right" = true) (k20 : PySem.W.keepIn K (.ref f20) = true)
    {f21 : Addr} {od21 an21 : Option Addr} {sl21 : Array (Option Value)} {oc21 kV21 dc21 pm21 cd21 ct21 : Value}
    (a21 : PySem.W.nsIn K mainGlobals "doubled" = some (some (.ref f21))) (l21 : K.lookup f21 = some ⟨oc21, od21, .func (PySem.W.fnOf "doubled" "doubled" (defArgs s_doubled) (defBody s_doubled) (defScope s_doubled) .none kV21 dc21 pm21 an21 cd21 ct21), sl21⟩)
    (c21 : PySem.W.codeIn K cd21 "doubled" = true) (k21 : PySem.W.keepIn K (.ref f21) = true)
    {f22 : Addr} {od22 an22 : Option Addr} {sl22 : Array (Option Value)} {oc22 kV22 dc22 pm22 cd22 ct22 : Value}
    (a22 : PySem.W.nsIn K mainGlobals "nested" = some (some (.ref f22))) (l22 : K.lookup f22 = some ⟨oc22, od22, .func (PySem.W.fnOf "nested" "nested" (defArgs s_nested) (defBody s_nested) (defScope s_nested) .none kV22 dc22 pm22 an22 cd22 ct22), sl22⟩)
    (c22 : PySem.W.codeIn K cd22 "nested" = true) (k22 : PySem.W.keepIn K (.ref f22) = true)
    {f23 : Addr} {od23 an23 : Option Addr} {sl23 : Array (Option Value)} {oc23 kV23 dc23 pm23 cd23 ct23 : Value}
    (a23 : PySem.W.nsIn K mainGlobals "level" = some (some (.ref f23))) (l23 : K.lookup f23 = some ⟨oc23, od23, .func (PySem.W.fnOf "level" "level" (defArgs s_level) (defBody s_level) (defScope s_level) .none kV23 dc23 pm23 an23 cd23 ct23), sl23⟩)
    (c23 : PySem.W.codeIn K cd23 "level" = true) (k23 : PySem.W.keepIn K (.ref f23) = true)
    {f24 : Addr} {od24 an24 : Option Addr} {sl24 : Array (Option Value)} {oc24 kV24 dc24 pm24 cd24 ct24 : Value}
    (a24 : PySem.W.nsIn K mainGlobals "_law_level" = some (some (.ref f24))) (l24 : K.lookup f24 = some ⟨oc24, od24, .func (PySem.W.fnOf "_law_level" "_law_level" (defArgs s__law_level) (defBody s__law_level) (defScope s__law_level) .none kV24 dc24 pm24 an24 cd24 ct24), sl24⟩)
    (c24 : PySem.W.codeIn K cd24 "_law_level" = true) (k24 : PySem.W.keepIn K (.ref f24) = true)
    {f25 : Addr} {od25 an25 : Option Addr} {sl25 : Array (Option Value)} {oc25 kV25 dc25 pm25 cd25 ct25 : Value}
    (a25 : PySem.W.nsIn K mainGlobals "law" = some (some (.ref f25))) (l25 : K.lookup f25 = some ⟨oc25, od25, .func (PySem.W.fnOf "law" "law" (defArgs s_law) (defBody s_law) (defScope s_law) .none kV25 dc25 pm25 an25 cd25 ct25), sl25⟩)
    (c25 : PySem.W.codeIn K cd25 "law" = true) (k25 : PySem.W.keepIn K (.ref f25) = true)
    (aC2 : PySem.W.nsIn K mainGlobals "Runner" = some (some (.ref A2))) (pg2 : PySem.W.plainGet K A2 Str.empty = true) (hD2 : PySem.W.hasDictIn K A2 = true) (po2 : PySem.W.plainOver K A2 = true) (sa2 : PySem.W.findIn K (.ref A2) "__setattr__" = some (some (.builtin "object.__setattr__"))) (mm2 : PySem.W.makesIn K A2 = true) (kc2 : PySem.W.keepIn K (.ref A2) = true)
    (nf2_0 : PySem.W.findIn K (.ref A2) "places" = some none)
    (nf2_1 : PySem.W.findIn K (.ref A2) "work" = some none)
    (z_int : PySem.W.nsIn K mainGlobals "int" = some none)
    (z_list : PySem.W.nsIn K mainGlobals "list" = some none)
    (z_len : PySem.W.nsIn K mainGlobals "len" = some none)
    (z_abs : PySem.W.nsIn K mainGlobals "abs" = some none)
    (z_range : PySem.W.nsIn K mainGlobals "range" = some none)
    (z_tuple : PySem.W.nsIn K mainGlobals "tuple" = some none)
    (z_all : PySem.W.nsIn K mainGlobals "all" = some none)
    (z_min : PySem.W.nsIn K mainGlobals "min" = some none)
    (z_isinstance : PySem.W.nsIn K mainGlobals "isinstance" = some none)
    (z_bool : PySem.W.nsIn K mainGlobals "bool" = some none)
    (z_str : PySem.W.nsIn K mainGlobals "str" = some none)
    (z_max : PySem.W.nsIn K mainGlobals "max" = some none)
    {tk_MOST_NAMES_1 : Nat}
    (y_MOST_NAMES : PySem.W.nsIn K mainGlobals "MOST_NAMES" = some (some (.int 4 tk_MOST_NAMES_1)))
    {tk_WORK_1 : Nat}
    (y_WORK : PySem.W.nsIn K mainGlobals "WORK" = some (some (.int 200000 tk_WORK_1)))
    {tk_MOST_STAGE_1 : Nat}
    (y_MOST_STAGE : PySem.W.nsIn K mainGlobals "MOST_STAGE" = some (some (.int 100000000000000000000000000000000000000000000000000000000000000000000000000000000000000000000000000000000000000000000000000000000000000000000000000000000000000000000000000000000000000000000000000000000 tk_MOST_STAGE_1)))
    {tk_MOST_STEPS_1 : Nat}
    (y_MOST_STEPS : PySem.W.nsIn K mainGlobals "MOST_STEPS" = some (some (.int 12 tk_MOST_STEPS_1)))
    {tk_MOST_DEEP_1 : Nat}
    (y_MOST_DEEP : PySem.W.nsIn K mainGlobals "MOST_DEEP" = some (some (.int 4 tk_MOST_DEEP_1)))
    (gx0 : PySem.W.nsIn K mainGlobals "AllgradesError" = some (some (.ref A0)))
    (gx1 : PySem.W.nsIn K mainGlobals "Above" = some (some (.ref A1)))
    (xx1 : PySem.W.excIn K A1 [.type "ValueError", .type "Exception", .type "BaseException", .type "object"] "ValueError.__new__" = true) (kx1 : PySem.W.keepIn K (.ref A1) = true) (bx1 : PySem.W.subIn K (.ref A1) (.type "BaseException") = some true) (tx1 : PySem.W.typeIn K (.ref A1) = some (.type "type"))
    (sx0_1 : PySem.W.subIn K (.ref A0) (.ref A1) = some false)
    (sx1_1 : PySem.W.subIn K (.ref A1) (.ref A1) = some true)
    (ix1 : PySem.W.isClsIn K A1 = true)
    : ∃ (ca : CA) (x : Str) (st : Stmt) (k : Nat) (N : List Str) (mb : AG.Env → M Fl), x = d.name ∧ DefOk K mg x st ["script"] ∧ FnScope N ["script"] (defScope st) ∧ 74 = k + 1 ∧ f_law = mFn N.length mb ∧ ∀ base : Heap, K.In base → base.Ns mainGlobals mg → BodyOk P w K mg base ca k x st N mb := by
  let ca : CA := ⟨fun c => match c with | 0 => A0 | 1 => A1 | 2 => A2 | _ => 0, w⟩
  have hW_ : ca.wd = w := rfl
  have D__law_stream : DefOk K mg "_law_stream" s__law_stream ["script"] := def_mk X G a0 l0 c0 k0 fun _ _ _ _ _ _ us hl => match us, hl with | [_], _ => rfl
  have D__law_draw : DefOk K mg "_law_draw" s__law_draw ["stream", "many"] := def_mk X G a1 l1 c1 k1 fun _ _ _ _ _ _ us hl => match us, hl with | [_, _], _ => rfl
  have D__law_program : DefOk K mg "_law_program" s__law_program ["stream", "deep"] := def_mk X G a2 l2 c2 k2 fun _ _ _ _ _ _ us hl => match us, hl with | [_, _], _ => rfl
  have D__law_run : DefOk K mg "_law_run" s__law_run ["program", "places", "world"] := def_mk X G a3 l3 c3 k3 fun _ _ _ _ _ _ us hl => match us, hl with | [_, _, _], _ => rfl
  have D_Runner___init__ : MthD K ca 2 "__init__" "Runner.__init__" s_Runner___init__ ["self", "places"] := mth_mk a4 i4 l4 c4 k4 fun _ _ _ _ _ _ us hl => match us, hl with | [_, _], _ => rfl
  have D_Runner_do : MthD K ca 2 "do" "Runner.do" s_Runner_do ["self", "program"] := mth_mk a5 i5 l5 c5 k5 fun _ _ _ _ _ _ us hl => match us, hl with | [_, _], _ => rfl
  have D_run : DefOk K mg "run" s_run ["program", "places"] := def_mk X G a6 l6 c6 k6 fun _ _ _ _ _ _ us hl => match us, hl with | [_, _], _ => rfl
  have D__law_told : DefOk K mg "_law_told" s__law_told ["program", "places"] := def_mk X G a7 l7 c7 k7 fun _ _ _ _ _ _ us hl => match us, hl with | [_, _], _ => rfl
  have D_checked : DefOk K mg "checked" s_checked ["n"] := def_mk X G a8 l8 c8 k8 fun _ _ _ _ _ _ us hl => match us, hl with | [_], _ => rfl
  have D_is_level : DefOk K mg "is_level" s_is_level ["program"] := def_mk X G a9 l9 c9 k9 fun _ _ _ _ _ _ us hl => match us, hl with | [_], _ => rfl
  have D_repeated : DefOk K mg "repeated" s_repeated ["program", "n"] := def_mk X G a10 l10 c10 k10 fun _ _ _ _ _ _ us hl => match us, hl with | [_, _], _ => rfl
  have D_bound : DefOk K mg "bound" s_bound ["program", "n"] := def_mk X G a11 l11 c11 k11 fun _ _ _ _ _ _ us hl => match us, hl with | [_, _], _ => rfl
  have D__law_told_bound : DefOk K mg "_law_told_bound" s__law_told_bound ["program", "n"] := def_mk X G a12 l12 c12 k12 fun _ _ _ _ _ _ us hl => match us, hl with | [_, _], _ => rfl
  have D__law_same : DefOk K mg "_law_same" s__law_same ["one", "two"] := def_mk X G a13 l13 c13 k13 fun _ _ _ _ _ _ us hl => match us, hl with | [_, _], _ => rfl
  have D_is_number : DefOk K mg "is_number" s_is_number ["value"] := def_mk X G a14 l14 c14 k14 fun _ _ _ _ _ _ us hl => match us, hl with | [_], _ => rfl
  have D_is_place : DefOk K mg "is_place" s_is_place ["value"] := def_mk X G a15 l15 c15 k15 fun _ _ _ _ _ _ us hl => match us, hl with | [_], _ => rfl
  have D_is_step : DefOk K mg "is_step" s_is_step ["value", "deep"] := def_mk X G a16 l16 c16 k16 fun _ _ _ _ _ _ us hl => match us, hl with | [_, _], _ => rfl
  have D_is_program_at : DefOk K mg "is_program_at" s_is_program_at ["value", "deep"] := def_mk X G a17 l17 c17 k17 fun _ _ _ _ _ _ us hl => match us, hl with | [_, _], _ => rfl
  have D_is_program : DefOk K mg "is_program" s_is_program ["value"] := def_mk X G a18 l18 c18 k18 fun _ _ _ _ _ _ us hl => match us, hl with | [_], _ => rfl
  have D__law_bound : DefOk K mg "_law_bound" s__law_bound ["program", "n", "most"] := def_mk X G a19 l19 c19 k19 fun _ _ _ _ _ _ us hl => match us, hl with | [_, _, _], _ => rfl
  have D__law_is_bound_right : DefOk K mg "_law_is_bound_right" s__law_is_bound_right ["program", "n"] := def_mk X G a20 l20 c20 k20 fun _ _ _ _ _ _ us hl => match us, hl with | [_, _], _ => rfl
  have D_doubled : DefOk K mg "doubled" s_doubled ["place", "other"] := def_mk X G a21 l21 c21 k21 fun _ _ _ _ _ _ us hl => match us, hl with | [_, _], _ => rfl
  have D_nested : DefOk K mg "nested" s_nested ["depth"] := def_mk X G a22 l22 c22 k22 fun _ _ _ _ _ _ us hl => match us, hl with | [_], _ => rfl
  have D_level : DefOk K mg "level" s_level ["program"] := def_mk X G a23 l23 c23 k23 fun _ _ _ _ _ _ us hl => match us, hl with | [_], _ => rfl
  have D__law_level : DefOk K mg "_law_level" s__law_level ["program"] := def_mk X G a24 l24 c24 k24 fun _ _ _ _ _ _ us hl => match us, hl with | [_], _ => rfl
  have D_law : DefOk K mg "law" s_law ["script"] := def_mk X G a25 l25 c25 k25 fun _ _ _ _ _ _ us hl => match us, hl with | [_], _ => rfl
  have z_int := PySem.W.mg_none_of X G z_int
  have z_list := PySem.W.mg_none_of X G z_list
  have z_len := PySem.W.mg_none_of X G z_len
  have z_abs := PySem.W.mg_none_of X G z_abs
  have z_range := PySem.W.mg_none_of X G z_range
  have z_tuple := PySem.W.mg_none_of X G z_tuple
  have z_all := PySem.W.mg_none_of X G z_all
  have z_min := PySem.W.mg_none_of X G z_min
  have z_isinstance := PySem.W.mg_none_of X G z_isinstance
  have z_bool := PySem.W.mg_none_of X G z_bool
  have z_str := PySem.W.mg_none_of X G z_str
  have z_max := PySem.W.mg_none_of X G z_max
  have g_MOST_NAMES : GC K mg "MOST_NAMES" c_MOST_NAMES := ⟨.int 4, .int 4 tk_MOST_NAMES_1, PySem.W.mg_of X G y_MOST_NAMES, ⟨_, rfl⟩, fun w => .int _⟩
  have g_WORK : GC K mg "WORK" c_WORK := ⟨.int 200000, .int 200000 tk_WORK_1, PySem.W.mg_of X G y_WORK, ⟨_, rfl⟩, fun w => .int _⟩
  have g_MOST_STAGE : GC K mg "MOST_STAGE" c_MOST_STAGE := ⟨.int 100000000000000000000000000000000000000000000000000000000000000000000000000000000000000000000000000000000000000000000000000000000000000000000000000000000000000000000000000000000000000000000000000000000, .int 100000000000000000000000000000000000000000000000000000000000000000000000000000000000000000000000000000000000000000000000000000000000000000000000000000000000000000000000000000000000000000000000000000000 tk_MOST_STAGE_1, PySem.W.mg_of X G y_MOST_STAGE, ⟨_, rfl⟩, fun w => .int _⟩
  have g_MOST_STEPS : GC K mg "MOST_STEPS" c_MOST_STEPS := ⟨.int 12, .int 12 tk_MOST_STEPS_1, PySem.W.mg_of X G y_MOST_STEPS, ⟨_, rfl⟩, fun w => .int _⟩
  have g_MOST_DEEP : GC K mg "MOST_DEEP" c_MOST_DEEP := ⟨.int 4, .int 4 tk_MOST_DEEP_1, PySem.W.mg_of X G y_MOST_DEEP, ⟨_, rfl⟩, fun w => .int _⟩
  have e_Above : EC K mg ca 1 "Above" := ⟨⟨_, _, _, _, PySem.F.excBase_ValueError, xx1⟩, PySem.W.mg_of X G gx1, kx1, bx1, tx1⟩
  have m_of_Above : EM K ca 1 s_of_Above := fun c b e => match c, e with | 0, e => by cases e; exact exm_mk bx1 ix1 tx1 sx0_1 | 1, e => by cases e; exact exm_mk bx1 ix1 tx1 sx1_1
  have k_Runner : CK K ca 2 fl_Runner := ⟨⟨pg2, hD2, po2, sa2⟩, fun f hf => by
    simp only [fl_Runner, List.mem_cons, List.mem_nil_iff, or_false] at hf
    rcases hf with rfl | rfl
    · exact nf2_0
    · exact nf2_1⟩
  have mk_Runner : CMk K mg ca 2 "Runner" := ⟨mm2, kc2, PySem.W.mg_of X G aC2⟩
  refine ⟨ca, "law", s_law, 73, N_law, m_law, hd, D_law, sc_law, rfl, rfl, fun base hB1 hB2 => ?_⟩
  have F__law_stream := ok2__law_stream (ok__law_stream (P := P) (w := w) (mg := mg) (base := base) (ca := ca) D__law_stream z_int z_list)
  have F__law_draw := ok2__law_draw (ok__law_draw (P := P) (w := w) (mg := mg) (base := base) (ca := ca) D__law_draw z_len z_int z_abs)
  have F__law_program := ok__law_program (P := P) (w := w) (mg := mg) (base := base) (ca := ca) D__law_program z_range z_tuple F__law_draw
  have F__law_run := ok__law_run (P := P) (w := w) (mg := mg) (base := base) (ca := ca) D__law_run z_range
  have F_Runner___init__ := ok_Runner___init__ (P := P) (w := w) (mg := mg) (base := base) (ca := ca) D_Runner___init__ z_list z_len g_MOST_NAMES k_Runner
  have F_Runner_do := ok_Runner_do (P := P) (w := w) (mg := mg) (base := base) (ca := ca) D_Runner_do z_range g_WORK e_Above k_Runner
  have F_run := ok_run (P := P) (w := w) (mg := mg) (base := base) (ca := ca) D_run z_tuple k_Runner mk_Runner F_Runner___init__ F_Runner_do
  have F__law_told := ok__law_told (P := P) (w := w) (mg := mg) (base := base) (ca := ca) D__law_told e_Above m_of_Above F_run
  have F_checked := ok_checked (P := P) (w := w) (mg := mg) (base := base) (ca := ca) D_checked g_MOST_STAGE e_Above
  have F_is_level := ok_is_level (P := P) (w := w) (mg := mg) (base := base) (ca := ca) D_is_level D_repeated D_bound z_all z_range z_min g_MOST_STAGE F_checked
  have F_repeated := ok_repeated (P := P) (w := w) (mg := mg) (base := base) (ca := ca) D_is_level D_repeated D_bound z_all z_range z_min g_MOST_STAGE F_checked
  have F_bound := ok_bound (P := P) (w := w) (mg := mg) (base := base) (ca := ca) D_is_level D_repeated D_bound z_all z_range z_min g_MOST_STAGE F_checked
  have F__law_told_bound := ok__law_told_bound (P := P) (w := w) (mg := mg) (base := base) (ca := ca) D__law_told_bound e_Above m_of_Above F_bound
  have F__law_same := ok__law_same (P := P) (w := w) (mg := mg) (base := base) (ca := ca) D__law_same z_isinstance z_tuple z_list z_len z_range z_all z_bool
  have F_is_number := ok_is_number (P := P) (w := w) (mg := mg) (base := base) (ca := ca) D_is_number z_isinstance z_int z_bool
  have F_is_place := ok_is_place (P := P) (w := w) (mg := mg) (base := base) (ca := ca) D_is_place g_MOST_NAMES F_is_number
  have F_is_step := ok_is_step (P := P) (w := w) (mg := mg) (base := base) (ca := ca) D_is_step D_is_program_at z_isinstance z_tuple z_len z_str z_all g_MOST_STEPS F_is_place
  have F_is_program_at := ok_is_program_at (P := P) (w := w) (mg := mg) (base := base) (ca := ca) D_is_step D_is_program_at z_isinstance z_tuple z_len z_str z_all g_MOST_STEPS F_is_place
  have F_is_program := ok_is_program (P := P) (w := w) (mg := mg) (base := base) (ca := ca) D_is_program g_MOST_DEEP F_is_program_at
  have F__law_bound := ok__law_bound (P := P) (w := w) (mg := mg) (base := base) (ca := ca) D__law_bound z_range
  have F__law_is_bound_right := ok__law_is_bound_right (P := P) (w := w) (mg := mg) (base := base) (ca := ca) D__law_is_bound_right F__law_bound F__law_told_bound
  have F_doubled := ok_doubled (P := P) (w := w) (mg := mg) (base := base) (ca := ca) D_doubled
  have F_nested := ok_nested (P := P) (w := w) (mg := mg) (base := base) (ca := ca) D_nested z_range
  have F_level := ok_level (P := P) (w := w) (mg := mg) (base := base) (ca := ca) D_level z_max
  have F__law_level := ok__law_level (P := P) (w := w) (mg := mg) (base := base) (ca := ca) D__law_level z_max
  exact body_law z_range z_len z_max z_tuple z_all F__law_draw F__law_is_bound_right F__law_level F__law_program F__law_run F__law_same F__law_stream F__law_told F__law_told_bound F_doubled F_is_program F_level F_nested
end L_k16
open PySem PySem.W PyProof.Rows
set_option maxRecDepth 100000 in
set_option maxHeartbeats 0 in
theorem PySem.Challenge.cw_allgrades_k16_whole_bounded_programs_holds : PySem.Challenge.rw_allgrades_k16_whole_bounded_programs.Holds := by
  w_on; o_law; k_head; (case hw => w_witness2)
  k_fill
  refine AG.walkM (l := PySem.Challenge.rw_allgrades_k16_whole_bounded_programs) (m := L_k16.f_law) (lv := 74) L_k16.law_holds rfl rfl ⟨rfl, by decide, by decide⟩ (fun w h Y => PySem.W.kIn_of Y) ?F
  case F =>
    intro w mg h KX G
    refine' L_k16.all_mk rfl KX G ?a0 ?l0 ?c0 ?k0 ?a1 ?l1 ?c1 ?k1 ?a2 ?l2 ?c2 ?k2 ?a3 ?l3 ?c3 ?k3 ?a4 ?i4 ?l4 ?c4 ?k4 ?a5 ?i5 ?l5 ?c5 ?k5 ?a6 ?l6 ?c6 ?k6 ?a7 ?l7 ?c7 ?k7 ?a8 ?l8 ?c8 ?k8 ?a9 ?l9 ?c9 ?k9 ?a10 ?l10 ?c10 ?k10 ?a11 ?l11 ?c11 ?k11 ?a12 ?l12 ?c12 ?k12 ?a13 ?l13 ?c13 ?k13 ?a14 ?l14 ?c14 ?k14 ?a15 ?l15 ?c15 ?k15 ?a16 ?l16 ?c16 ?k16 ?a17 ?l17 ?c17 ?k17 ?a18 ?l18 ?c18 ?k18 ?a19 ?l19 ?c19 ?k19 ?a20 ?l20 ?c20 ?k20 ?a21 ?l21 ?c21 ?k21 ?a22 ?l22 ?c22 ?k22 ?a23 ?l23 ?c23 ?k23 ?a24 ?l24 ?c24 ?k24 ?a25 ?l25 ?c25 ?k25 ?aC2 ?pg2 ?hD2 ?po2 ?sa2 ?mm2 ?kc2 ?nf2_0 ?nf2_1 ?z_int ?z_list ?z_len ?z_abs ?z_range ?z_tuple ?z_all ?z_min ?z_isinstance ?z_bool ?z_str ?z_max ?y_MOST_NAMES ?y_WORK ?y_MOST_STAGE ?y_MOST_STEPS ?y_MOST_DEEP ?gx0 ?gx1 ?xx1 ?kx1 ?bx1 ?tx1 ?sx0_1 ?sx1_1 ?ix1
    (case aC2 => k_is); (case a0 => k_is); (case l0 => k_is); (case c0 => k_is)
    (case k0 => k_is); (case a1 => k_is); (case l1 => k_is); (case c1 => k_is)
    (case k1 => k_is); (case a2 => k_is); (case l2 => k_is); (case c2 => k_is)
    (case k2 => k_is); (case a3 => k_is); (case l3 => k_is); (case c3 => k_is)
    (case k3 => k_is); (case a4 => k_is); (case i4 => k_is); (case l4 => k_is)
    (case c4 => k_is); (case k4 => k_is); (case a5 => k_is); (case i5 => k_is)
    (case l5 => k_is); (case c5 => k_is); (case k5 => k_is); (case a6 => k_is)
    (case l6 => k_is); (case c6 => k_is); (case k6 => k_is); (case a7 => k_is)
    (case l7 => k_is); (case c7 => k_is); (case k7 => k_is); (case a8 => k_is)
    (case l8 => k_is); (case c8 => k_is); (case k8 => k_is); (case a9 => k_is)
    (case l9 => k_is); (case c9 => k_is); (case k9 => k_is); (case a10 => k_is)
    (case l10 => k_is); (case c10 => k_is); (case k10 => k_is); (case a11 => k_is)
    (case l11 => k_is); (case c11 => k_is); (case k11 => k_is); (case a12 => k_is)
    (case l12 => k_is); (case c12 => k_is); (case k12 => k_is); (case a13 => k_is)
    (case l13 => k_is); (case c13 => k_is); (case k13 => k_is); (case a14 => k_is)
    (case l14 => k_is); (case c14 => k_is); (case k14 => k_is); (case a15 => k_is)
    (case l15 => k_is); (case c15 => k_is); (case k15 => k_is); (case a16 => k_is)
    (case l16 => k_is); (case c16 => k_is); (case k16 => k_is); (case a17 => k_is)
    (case l17 => k_is); (case c17 => k_is); (case k17 => k_is); (case a18 => k_is)
    (case l18 => k_is); (case c18 => k_is); (case k18 => k_is); (case a19 => k_is)
    (case l19 => k_is); (case c19 => k_is); (case k19 => k_is); (case a20 => k_is)
    (case l20 => k_is); (case c20 => k_is); (case k20 => k_is); (case a21 => k_is)
    (case l21 => k_is); (case c21 => k_is); (case k21 => k_is); (case a22 => k_is)
    (case l22 => k_is); (case c22 => k_is); (case k22 => k_is); (case a23 => k_is)
    (case l23 => k_is); (case c23 => k_is); (case k23 => k_is); (case a24 => k_is)
    (case l24 => k_is); (case c24 => k_is); (case k24 => k_is); (case a25 => k_is)
    (case l25 => k_is); (case c25 => k_is); (case k25 => k_is); (case pg2 => k_is)
    (case hD2 => k_is); (case po2 => k_is); (case sa2 => k_is); (case mm2 => k_is)
    (case kc2 => k_is); (case nf2_0 => k_is); (case nf2_1 => k_is); (case z_int => k_is)
    (case z_list => k_is); (case z_len => k_is); (case z_abs => k_is); (case z_range => k_is)
    (case z_tuple => k_is); (case z_all => k_is); (case z_min => k_is); (case z_isinstance => k_is)
    (case z_bool => k_is); (case z_str => k_is); (case z_max => k_is); (case y_MOST_NAMES => k_is)
    (case y_WORK => k_is); (case y_MOST_STAGE => k_is); (case y_MOST_STEPS => k_is); (case y_MOST_DEEP => k_is)
    (case gx0 => k_is); (case gx1 => k_is); (case xx1 => k_exc); (case kx1 => k_is)
    (case bx1 => k_is); (case tx1 => k_is); (case sx0_1 => k_is); (case sx1_1 => k_is)
    (case ix1 => k_is)
#print axioms PySem.Challenge.cw_allgrades_k16_whole_bounded_programs_holds
