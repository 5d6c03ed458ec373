import PyProof.Rows.All
import Wide.All
import OpenK.AllK
import Wide.FinOn
import HandS.ForMost
import HandS.Walk
import HandS.Exc
import HandS.ExcOwn
import HandS.WordsExc
import HandS.ExcCtx
import HandS.Lambda
import HandS.TupAny
import HandS.Deep
import HandS.Wide
import HandS.IsInst
import HandS.Style
import HandS.TupLe
import KE.GoesMore
import HandS.TupSets
import HandS.Zip
import HandS.Hot
import HandS.HotCalls
import HandS.ExcIs
import HandS.Conv
import HandS.Dict
import HandS.SortInts
import PyProof.Rows.StrMul
import PySem.Challenge.RW_curvecodes_k03_whole_places_of_codes
import HandS.EndTab
import KE.KNestM
set_option Elab.async false
set_option linter.all false
set_option maxRecDepth 100000
set_option maxHeartbeats 4000000
/-! DL: data, frozen heaps, and what a Python expression or statement is worth as a function on environments. -/
namespace DL
open PySem PySem.Spec PyProof.Rows L2

abbrev St := L2.St
/-- plain data -/
inductive D where
  | non | bl (b : Bool) | int (i : Int) | str (x : Str) | tup (l : List D) | lst (l : List D) | scr (l : List Int) | ty (n : String)
  | dcK (l : List (Key × D)) | dcT (l : List (List Key × D)) | ad (a : Addr)

/- what v is, read off the frozen part F -/
mutual
inductive Rp (K : PySem.W.Frag) (F : Hp) : V → D → Prop
  | non : Rp K F .non .non
  | bl (b : Bool) : Rp K F (.bl b) (.bl b)
  | int (i : Int) : Rp K F (.int i) (.int i)
  | str (x : Str) : Rp K F (.str x) (.str x)
  | tup {a : Addr} {vs : List V} {l : List D} : SqT K F a vs → RpL K F vs l → Rp K F (.ref a) (.tup l)
  | lst {a : Addr} {vs : List V} {l : List D} : F a = some (.lst vs) → RpL K F vs l → Rp K F (.ref a) (.lst l)
  | scr {a : Addr} {l : List Int} : SqL K F a (l.map V.int) → Rp K F (.ref a) (.scr l)
  | ty (n : String) : Rp K F (.ty n) (.ty n)
  | ad (a : Addr) : Rp K F (.ref a) (.ad a)
  | dcK {a : Addr} {kvs : List (Key × V)} {l : List (Key × D)} : F a = some (.dK kvs) → RpK K F kvs l → Rp K F (.ref a) (.dcK l)
  | dcT {a : Addr} {kvs : List (List Key × V)} {l : List (List Key × D)} : F a = some (.dT kvs) → RpT K F kvs l → Rp K F (.ref a) (.dcT l)
inductive RpL (K : PySem.W.Frag) (F : Hp) : List V → List D → Prop
  | nil : RpL K F [] []
  | cons {v : V} {vs : List V} {d : D} {l : List D} : Rp K F v d → RpL K F vs l → RpL K F (v :: vs) (d :: l)
inductive RpK (K : PySem.W.Frag) (F : Hp) : List (Key × V) → List (Key × D) → Prop
  | nil : RpK K F [] []
  | cons {k : Key} {v : V} {kvs : List (Key × V)} {d : D} {l : List (Key × D)} : Rp K F v d → RpK K F kvs l → RpK K F ((k, v) :: kvs) ((k, d) :: l)
inductive RpT (K : PySem.W.Frag) (F : Hp) : List (List Key × V) → List (List Key × D) → Prop
  | nil : RpT K F [] []
  | cons {k : List Key} {v : V} {kvs : List (List Key × V)} {d : D} {l : List (List Key × D)} : Rp K F v d → RpT K F kvs l → RpT K F ((k, v) :: kvs) ((k, d) :: l)
end

theorem same_rd {H H' : Hp} {a : Addr} {u : HO} (e : Same H H') (h : Rd H a u) : Rd H' a u := by
  rcases h with h | ⟨o, h⟩
  · exact .inl (e a _ h)
  · exact .inr ⟨o, e a _ h⟩
theorem same_t {K : PySem.W.Frag} {H H' : Hp} {a : Addr} {xs : List V} (e : Same H H') (h : SqT K H a xs) : SqT K H' a xs := by
  rcases h with h | h
  · exact .inl (same_rd e h)
  · exact .inr h
theorem same_l {K : PySem.W.Frag} {H H' : Hp} {a : Addr} {xs : List V} (e : Same H H') (h : SqL K H a xs) : SqL K H' a xs := by
  rcases h with h | h
  · exact .inl (same_rd e h)
  · exact .inr h
theorem same_new {H : Hp} {p : Addr} {o : HO} (h : H p = none) : Same H (upd H p o) := fun b x e => by
  rw [upd_ne (ne_of_none e h)]
  exact e
mutual
theorem Rp.mono {K : PySem.W.Frag} {F F' : Hp} (e : Same F F') : ∀ {v : V} {d : D}, Rp K F v d → Rp K F' v d
  | _, _, .non => .non
  | _, _, .bl b => .bl b
  | _, _, .int i => .int i
  | _, _, .str x => .str x
  | _, _, .tup h r => .tup (same_t e h) (RpL.mono e r)
  | _, _, .lst h r => .lst (e _ _ h) (RpL.mono e r)
  | _, _, .scr h => .scr (same_l e h)
  | _, _, .ty n => .ty n
  | _, _, .ad a => .ad a
  | _, _, .dcK h r => .dcK (e _ _ h) (RpK.mono e r)
  | _, _, .dcT h r => .dcT (e _ _ h) (RpT.mono e r)
theorem RpL.mono {K : PySem.W.Frag} {F F' : Hp} (e : Same F F') : ∀ {vs : List V} {l : List D}, RpL K F vs l → RpL K F' vs l
  | _, _, .nil => .nil
  | _, _, .cons r t => .cons (Rp.mono e r) (RpL.mono e t)
theorem RpK.mono {K : PySem.W.Frag} {F F' : Hp} (e : Same F F') : ∀ {kvs : List (Key × V)} {l : List (Key × D)}, RpK K F kvs l → RpK K F' kvs l
  | _, _, .nil => .nil
  | _, _, .cons r t => .cons (Rp.mono e r) (RpK.mono e t)
theorem RpT.mono {K : PySem.W.Frag} {F F' : Hp} (e : Same F F') : ∀ {kvs : List (List Key × V)} {l : List (List Key × D)}, RpT K F kvs l → RpT K F' kvs l
  | _, _, .nil => .nil
  | _, _, .cons r t => .cons (Rp.mono e r) (RpT.mono e t)
end
section
variable {K : PySem.W.Frag} {F F' H : Hp}
theorem RpL.length : ∀ {vs : List V} {l : List D}, RpL K F vs l → vs.length = l.length
  | _, _, .nil => rfl
  | _, _, .cons _ t => by rw [List.length_cons, List.length_cons, RpL.length t]
theorem RpL.get : ∀ {vs : List V} {l : List D} {i : Nat} {d : D}, RpL K F vs l → l[i]? = some d → ∃ v, vs[i]? = some v ∧ Rp K F v d
  | _, _, _, _, .nil, e => by simp at e
  | _, _, 0, _, .cons r _, e => by simp at e; subst e; exact ⟨_, rfl, r⟩
  | _, _, i + 1, d, .cons _ t, e => by
    obtain ⟨v, h1, h2⟩ := RpL.get (i := i) (d := d) t (by simpa using e)
    exact ⟨v, by simpa using h1, h2⟩
theorem RpL.getV : ∀ {vs : List V} {l : List D} {i : Nat} {v : V}, RpL K F vs l → vs[i]? = some v → ∃ d, l[i]? = some d ∧ Rp K F v d
  | _, _, _, _, .nil, e => by simp at e
  | _, _, 0, _, .cons r _, e => by simp at e; subst e; exact ⟨_, rfl, r⟩
  | _, _, i + 1, d, .cons _ t, e => by
    obtain ⟨v, h1, h2⟩ := RpL.getV (i := i) (v := d) t (by simpa using e)
    exact ⟨v, by simpa using h1, h2⟩
theorem RpL.append : ∀ {vs ws : List V} {l m : List D}, RpL K F vs l → RpL K F ws m → RpL K F (vs ++ ws) (l ++ m)
  | _, _, _, _, .nil, s => s
  | _, _, _, _, .cons r t, s => .cons r (RpL.append t s)
theorem RpL.set : ∀ {vs : List V} {l : List D} (i : Nat) {v : V} {d : D}, Rp K F v d → RpL K F vs l → RpL K F (vs.set i v) (l.set i d)
  | _, _, _, _, _, _, .nil => .nil
  | _, _, 0, _, _, q, .cons _ t => .cons q t
  | _, _, i + 1, _, _, q, .cons r t => .cons r (RpL.set i q t)
theorem RpL.take : ∀ {vs : List V} {l : List D} (n : Nat), RpL K F vs l → RpL K F (vs.take n) (l.take n)
  | _, _, 0, _ => by rw [List.take_zero, List.take_zero]; exact .nil
  | _, _, _ + 1, .nil => .nil
  | _, _, n + 1, .cons r t => .cons r (RpL.take n t)
theorem RpL.drop : ∀ {vs : List V} {l : List D} (n : Nat), RpL K F vs l → RpL K F (vs.drop n) (l.drop n)
  | _, _, 0, r => r
  | _, _, _ + 1, .nil => .nil
  | _, _, n + 1, .cons _ t => RpL.drop n t
theorem RpL.eraseIdx : ∀ {vs : List V} {l : List D} (n : Nat), RpL K F vs l → RpL K F (vs.eraseIdx n) (l.eraseIdx n)
  | _, _, _, .nil => .nil
  | _, _, 0, .cons _ t => t
  | _, _, n + 1, .cons r t => .cons r (RpL.eraseIdx n t)
theorem RpL.reverse : ∀ {vs : List V} {l : List D}, RpL K F vs l → RpL K F vs.reverse l.reverse
  | _, _, .nil => .nil
  | _, _, .cons r t => by
    rw [List.reverse_cons, List.reverse_cons]
    exact RpL.append (RpL.reverse t) (.cons r .nil)
theorem RpL.ints : ∀ {vs : List V} {ns : List Int}, RpL K F vs (ns.map D.int) → vs = ns.map V.int
  | _, [], .nil => rfl
  | _, _ :: _, .cons (.int _) t => by rw [List.map_cons, RpL.ints t]
theorem RpL.of_ints : ∀ {ns : List Int}, RpL K F (ns.map V.int) (ns.map D.int)
  | [] => .nil
  | _ :: _ => .cons (.int _) RpL.of_ints
theorem RpL.bls : ∀ {vs : List V} {ns : List Bool}, RpL K F vs (ns.map D.bl) → vs = ns.map V.bl
  | _, [], .nil => rfl
  | _, _ :: _, .cons (.bl _) t => by rw [List.map_cons, RpL.bls t]
theorem RpL.strs : ∀ {vs : List V} {ns : List Str}, RpL K F vs (ns.map D.str) → vs = ns.map V.str
  | _, [], .nil => rfl
  | _, _ :: _, .cons (.str _) t => by rw [List.map_cons, RpL.strs t]
end

/-! ### environments -/
/-- a slot: unknown; a frozen value; an object of our own that may still change; one that the caller handed by reference -/
inductive Sl where
  | u | p (d : D) | o (d : D) | r (d : D)
abbrev Ev := List Sl
/-- a value, or the object in a slot -/
inductive LV where
  | v (d : D) | s (i : Nat)
structure Exc where
  c : Str
inductive Rx (α : Type) where
  | ok (a : α) (e : Ev) | er (x : Exc) | no
inductive Out where
  | nx (e : Ev) | rt (d : D) (e : Ev) | rf (d : D) (e : Ev) | bk (e : Ev) | ct (e : Ev) | er (x : Exc) | no

/-- tables of code objects whose lambdas all bear one name (a law's own, fixed) -/
class Tab where
  T : List (Addr × Str)
/-- kinds of objects -/
def NT (o : HO) : Prop := ∀ ps, o ≠ .tbl ps
def IsOwn : HO → Prop
  | .lst _ => True
  | .dK _ => True
  | .dT _ => True
  | _ => False
theorem IsOwn.nt {o : HO} (h : IsOwn o) : NT o := fun ps e => by subst e; exact h
def NoT (F : Hp) : Prop := ∀ a o, F a = some o → NT o
theorem NoT.upd {F : Hp} {p : Addr} {o : HO} (h : NoT F) (ho : NT o) : NoT (upd F p o) := fun a u e => by
  by_cases z : a = p
  · subst z; rw [upd_same] at e; cases e; exact ho
  · rw [upd_ne z] at e; exact h a u e
theorem tabs_ext {T : List (Addr × Str)} {H H' : Hp} (t : LamX.Tabs T H) (e : ∀ b u, H b = some u → ¬ IsOwn u → H' b = some u) : LamX.Tabs T H' := fun p hp => by
  obtain ⟨ps, h1, h2, h3⟩ := t p hp
  refine ⟨ps, e _ _ h1 (fun z => z), h2, fun pos cv hc => ?_⟩
  obtain ⟨c, e1, e2⟩ := h3 pos cv hc
  exact ⟨c, e1, e _ _ e2 (fun z => z)⟩
/-- the object o, not frozen, holds d -/
inductive OwnAt (K : PySem.W.Frag) (F : Hp) : Option HO → D → Prop
  | lst {vs : List V} {l : List D} : RpL K F vs l → OwnAt K F (some (.lst vs)) (.lst l)
  | dcK {kvs : List (Key × V)} {l : List (Key × D)} : RpK K F kvs l → OwnAt K F (some (.dK kvs)) (.dcK l)
  | dcT {kvs : List (List Key × V)} {l : List (List Key × D)} : RpT K F kvs l → OwnAt K F (some (.dT kvs)) (.dcT l)
theorem OwnAt.mono {K : PySem.W.Frag} {F F' : Hp} {o : Option HO} {d : D} (e : Same F F') (h : OwnAt K F o d) : OwnAt K F' o d := by
  cases h with
  | lst r => exact .lst (r.mono e)
  | dcK r => exact .dcK (r.mono e)
  | dcT r => exact .dcT (r.mono e)
theorem OwnAt.is {K : PySem.W.Frag} {F : Hp} {o : Option HO} {d : D} (h : OwnAt K F o d) : ∃ u, o = some u := by
  cases h <;> exact ⟨_, rfl⟩
theorem OwnAt.own {K : PySem.W.Frag} {F : Hp} {o : HO} {d : D} (h : OwnAt K F (some o) d) : IsOwn o := by
  generalize e : Option.some o = q at h
  cases h <;> (cases e; trivial)
theorem OwnAt.isO {K : PySem.W.Frag} {F : Hp} {o : Option HO} {d : D} (h : OwnAt K F o d) : ∃ u, o = some u ∧ IsOwn u := by
  obtain ⟨u, rfl⟩ := h.is
  exact ⟨u, rfl, h.own⟩
theorem OwnAt.get {K : PySem.W.Frag} {F : Hp} {o : Option HO} {l : List D} (h : OwnAt K F o (.lst l)) : ∃ vs, o = some (.lst vs) ∧ RpL K F vs l := by
  cases h with
  | lst r => exact ⟨_, rfl, r⟩
/-- the entry: the heap, its frozen part, what may be changed of it -/
structure C0 where
  H : Hp
  F : Hp
  A : Addr → Prop
  P : Addr → Prop
/-- a def's own entry: what it may change of what stood before is what it may not freeze -/
def Stm (c : C0) : Prop := (∀ a, c.A a → c.P a) ∧ ∀ a, c.P a → c.H a ≠ none
/-- slot i of env bears an object that may change -/
def Live (env : Ev) (i : Nat) (d : D) : Prop := env[i]? = some (Sl.o d) ∨ env[i]? = some (Sl.r d)

structure TabI [Tab] (H F : Hp) : Prop where
  nt : NoT F
  tab : LamX.Tabs Tab.T H
theorem TabI.ext [Tab] {H F H' F' : Hp} (t : TabI H F) (n : NoT F') (e : ∀ b u, H b = some u → ¬ IsOwn u → H' b = some u) : TabI H' F' := ⟨n, tabs_ext t.tab e⟩
theorem TabI.new [Tab] {H F : Hp} {p : Addr} {o : HO} (t : TabI H F) (hp : H p = none) (ho : NT o) : TabI (upd H p o) (upd F p o) :=
  t.ext (t.nt.upd ho) fun b u e _ => by rw [upd_ne (ne_of_none e hp)]; exact e
theorem TabI.newO [Tab] {H F : Hp} {p : Addr} {o : HO} (t : TabI H F) (hp : H p = none) : TabI (upd H p o) F :=
  t.ext t.nt fun b u e _ => by rw [upd_ne (ne_of_none e hp)]; exact e
theorem TabI.put [Tab] {H F : Hp} {p : Addr} {o u : HO} (t : TabI H F) (hp : H p = some u) (hu : IsOwn u) : TabI (upd H p o) F :=
  t.ext t.nt fun b v e n => by
    have : b ≠ p := fun z => by
      subst z
      rw [hp] at e
      cases e
      exact n hu
    rw [upd_ne this]; exact e
variable [Tab]
structure Sim (K : PySem.W.Frag) (c : C0) (σ : St) (H F : Hp) (env : Ev) : Prop where
  sub : Same F H
  f0 : Same c.F F
  new : ∀ a o, F a = some o → c.F a = some o ∨ c.H a = none
  keep : ∀ a o, c.H a = some o → ¬ c.A a → NT o → H a = some o
  live : ∀ a, H a = none → c.H a = none
  pure : ∀ (i : Nat) (d : D), env[i]? = some (Sl.p d) → ∃ v, σ[i]? = some (some v) ∧ Rp K F v d
  own : ∀ (i : Nat) (d : D), Live env i d → ∃ a, σ[i]? = some (some (.ref a)) ∧ F a = none ∧ (c.A a ∨ c.H a = none) ∧ ((env[i]? = some (Sl.o d) → ¬ c.P a) ∧ (env[i]? = some (Sl.r d) → c.P a)) ∧ OwnAt K F (H a) d
  apart : ∀ (i j : Nat) (d d' : D) (a : Addr), Live env i d → Live env j d' → i ≠ j → σ[i]? = some (some (.ref a)) → σ[j]? ≠ some (some (.ref a))
  len : σ.length = env.length
  tb : TabI H F

/-- a new object that nothing but the caller knows -/
structure Fresh (c : C0) (σ : St) (H F : Hp) (env : Ev) (p : Addr) : Prop where
  there : ∃ o, H p = some o ∧ IsOwn o
  noF : F p = none
  noc : c.H p = none
  nos : ∀ (i : Nat) (d : D), Live env i d → σ[i]? ≠ some (some (.ref p))

def LRp (K : PySem.W.Frag) (F : Hp) (σ : St) (v : V) : LV → Prop
  | .v d => Rp K F v d
  | .s i => σ[i]? = some (some v)
/-- the content of a value or of the object in a slot -/
@[simp] def rs (env : Ev) : LV → Option D
  | .v d => some d
  | .s i => match env[i]? with
    | some (Sl.o d) => some d
    | some (Sl.r d) => some d
    | _ => none
/-- what v is, the object itself perhaps not frozen -/
def HRp (K : PySem.W.Frag) (H F : Hp) (v : V) (d : D) : Prop := Rp K F v d ∨ ∃ a, v = .ref a ∧ OwnAt K F (H a) d

section
variable {K : PySem.W.Frag} {c : C0} {σ : St} {H F H' F' : Hp} {env : Ev} {v : V} {d : D} {lv : LV}
theorem rs_live {i : Nat} (e : rs env (.s i) = some d) : Live env i d := by
  simp only [rs] at e
  split at e
  · rename_i h
    cases e
    exact .inl h
  · rename_i h
    cases e
    exact .inr h
  · cases e
theorem Sim.hrp (S : Sim K c σ H F env) (h : LRp K F σ v lv) (e : rs env lv = some d) : HRp K H F v d := by
  cases lv with
  | v d0 =>
    cases e
    exact .inl h
  | s i =>
    have h1 : σ[i]? = some (some v) := h
    obtain ⟨a, q1, _, _, _, q2⟩ := S.own i d (rs_live e)
    rw [h1] at q1
    cases q1
    exact .inr ⟨a, rfl, q2⟩
theorem LRp.mono (h : LRp K F σ v lv) (e : Same F F') : LRp K F' σ v lv := by
  cases lv with
  | v d => exact Rp.mono e h
  | s i => exact h
theorem HRp.lst {l : List D} (h : HRp K H F v (.lst l)) (e : Same F H) : ∃ a vs, v = .ref a ∧ H a = some (.lst vs) ∧ RpL K F vs l := by
  rcases h with h | ⟨a, rfl, ow⟩
  · cases h with
    | lst h r => exact ⟨_, _, rfl, e _ _ h, r⟩
  · obtain ⟨vs, h1, h3⟩ := ow.get
    exact ⟨a, vs, rfl, h1, h3⟩
theorem HRp.tup {l : List D} (h : HRp K H F v (.tup l)) (e : Same F H) : ∃ a vs, v = .ref a ∧ SqT K H a vs ∧ RpL K F vs l := by
  rcases h with h | ⟨a, rfl, ow⟩
  · cases h with
    | tup h r => exact ⟨_, _, rfl, same_t e h, r⟩
  · generalize H a = o at ow
    cases ow
theorem HRp.scr {l : List Int} (h : HRp K H F v (.scr l)) (e : Same F H) : ∃ a, v = .ref a ∧ SqL K H a (l.map V.int) := by
  rcases h with h | ⟨a, rfl, ow⟩
  · cases h with
    | scr h => exact ⟨_, rfl, same_l e h⟩
  · generalize H a = o at ow
    cases ow
theorem HRp.int {i : Int} (h : HRp K H F v (.int i)) : v = .int i := by
  rcases h with h | ⟨a, rfl, ow⟩
  · cases h; rfl
  · generalize H a = o at ow
    cases ow
theorem HRp.bl {b : Bool} (h : HRp K H F v (.bl b)) : v = .bl b := by
  rcases h with h | ⟨a, rfl, ow⟩
  · cases h; rfl
  · generalize H a = o at ow
    cases ow
theorem HRp.str {x : Str} (h : HRp K H F v (.str x)) : v = .str x := by
  rcases h with h | ⟨a, rfl, ow⟩
  · cases h; rfl
  · generalize H a = o at ow
    cases ow
theorem HRp.non (h : HRp K H F v .non) : v = .non := by
  rcases h with h | ⟨a, rfl, ow⟩
  · cases h; rfl
  · generalize H a = o at ow
    cases ow

/-- a new frozen object -/
theorem Sim.alloc {p : Addr} {o : HO} (S : Sim K c σ H F env) (hp : H p = none) (ho : NT o := by exact fun _ z => nomatch z) : Sim K c σ (upd H p o) (upd F p o) env := by
  have hF : F p = none := S.sub.free hp
  have nF : Same F (upd F p o) := same_new hF
  refine ⟨fun a u e => ?_, S.f0.trans nF, fun a u e => ?_, fun a u e n nt => ?_, fun a e => ?_, fun i d e => ?_, fun i d e => ?_, S.apart, S.len, S.tb.new hp ho⟩
  · by_cases h : a = p
    · subst h; rw [upd_same] at e ⊢; exact e
    · rw [upd_ne h] at e ⊢; exact S.sub _ _ e
  · by_cases h : a = p
    · subst h; exact .inr (S.live _ hp)
    · rw [upd_ne h] at e; exact S.new _ _ e
  · have := S.keep a u e n nt
    rw [upd_ne (ne_of_none this hp)]; exact this
  · by_cases h : a = p
    · subst h; exact S.live _ hp
    · rw [upd_ne h] at e; exact S.live _ e
  · obtain ⟨v, h1, h2⟩ := S.pure i d e
    exact ⟨v, h1, h2.mono nF⟩
  · obtain ⟨a, h1, h2, h3, h3', h4⟩ := S.own i d e
    have ha : a ≠ p := by
      obtain ⟨u, h5⟩ := h4.is
      exact ne_of_none h5 hp
    exact ⟨a, h1, by rw [upd_ne ha]; exact h2, h3, h3', by rw [upd_ne ha]; exact h4.mono nF⟩
/-- a new object, not frozen -/
theorem Sim.newU {p : Addr} {o : HO} (S : Sim K c σ H F env) (hp : H p = none) : Sim K c σ (upd H p o) F env := by
  have hF : F p = none := S.sub.free hp
  refine ⟨fun a u e => ?_, S.f0, S.new, fun a u e n nt => ?_, fun a e => ?_, S.pure, fun i d e => ?_, S.apart, S.len, S.tb.newO hp⟩
  · rw [upd_ne (ne_of_none e hF)]; exact S.sub _ _ e
  · have := S.keep a u e n nt
    rw [upd_ne (ne_of_none this hp)]; exact this
  · by_cases h : a = p
    · subst h; rw [upd_same] at e; cases e
    · rw [upd_ne h] at e; exact S.live _ e
  · obtain ⟨a, h1, h2, h3, h3', h4⟩ := S.own i d e
    have ha : a ≠ p := by
      obtain ⟨u, h5⟩ := h4.is
      exact ne_of_none h5 hp
    exact ⟨a, h1, h2, h3, h3', by rw [upd_ne ha]; exact h4⟩
theorem Sim.fresh {p : Addr} {o : HO} (S : Sim K c σ H F env) (hp : H p = none) (ho : IsOwn o := by trivial) : Sim K c σ (upd H p o) F env ∧ Fresh c σ (upd H p o) F env p := by
  refine ⟨S.newU hp, ⟨o, upd_same, ho⟩, S.sub.free hp, S.live _ hp, fun i d e z => ?_⟩
  obtain ⟨a, h1, _, _, _, h4⟩ := S.own i d e
  obtain ⟨u, h5⟩ := h4.is
  rw [h1] at z
  cases z
  rw [h5] at hp; cases hp
/-- what is frozen at p -/
theorem OwnAt.rp {K : PySem.W.Frag} {F : Hp} {p : Addr} {o : HO} {d : D} (h : OwnAt K F (some o) d) (hF : F p = none) : Rp K (upd F p o) (.ref p) d := by
  have nF : Same F (upd F p o) := same_new hF
  generalize e : Option.some o = q at h
  cases h with
  | lst r => cases e; exact .lst upd_same (r.mono nF)
  | dcK r => cases e; exact .dcK upd_same (r.mono nF)
  | dcT r => cases e; exact .dcT upd_same (r.mono nF)
/-- a new object is frozen -/
theorem Sim.freeze {p : Addr} (S : Sim K c σ H F env) (f : Fresh c σ H F env p) (h : OwnAt K F (H p) d) : ∃ F', Sim K c σ H F' env ∧ Same F F' ∧ Rp K F' (.ref p) d := by
  obtain ⟨o, h1, ho⟩ := f.there
  rw [h1] at h
  have nF : Same F (upd F p o) := same_new f.noF
  refine ⟨upd F p o, ⟨fun a u e => ?_, S.f0.trans nF, fun a u e => ?_, S.keep, S.live, fun i d e => ?_, fun i d e => ?_, S.apart, S.len, ⟨S.tb.nt.upd ho.nt, S.tb.tab⟩⟩, nF, h.rp f.noF⟩
  · by_cases h : a = p
    · subst h; rw [upd_same] at e; cases e; exact h1
    · rw [upd_ne h] at e; exact S.sub _ _ e
  · by_cases h : a = p
    · subst h; exact .inr f.noc
    · rw [upd_ne h] at e; exact S.new _ _ e
  · obtain ⟨v, q1, q2⟩ := S.pure i d e
    exact ⟨v, q1, q2.mono nF⟩
  · obtain ⟨a, q1, q2, q3, q3', q4⟩ := S.own i d e
    have ha : a ≠ p := fun z => by
      subst z
      exact f.nos i d e q1
    exact ⟨a, q1, by rw [upd_ne ha]; exact q2, q3, q3', q4.mono nF⟩
/-- the context of a part: its entry is the present state -/
def here (c : C0) (σ : St) (H F : Hp) (env : Ev) : C0 := ⟨H, F, fun a => ∃ (i : Nat) (d : D), Live env i d ∧ σ[i]? = some (some (V.ref a)), c.P⟩
theorem Sim.rebase (S : Sim K c σ H F env) : Sim K (here c σ H F env) σ H F env := by
  refine ⟨S.sub, Same.refl _, fun a o e => .inl e, fun a o e _ _ => e, fun a e => e, S.pure, fun i d e => ?_, S.apart, S.len, S.tb⟩
  obtain ⟨a, h1, h2, h3, h3', h4⟩ := S.own i d e
  exact ⟨a, h1, h2, .inl ⟨i, d, e, h1⟩, h3', h4⟩
theorem Sim.unbase {σ' : St} {env' : Ev} (S : Sim K c σ H F env) (S' : Sim K (here c σ H F env) σ' H' F' env') : Sim K c σ' H' F' env' := by
  have hA : ∀ a, (here c σ H F env).A a → c.A a ∨ c.H a = none := fun a ⟨i, d, e, q⟩ => by
    obtain ⟨b, h1, _, h3, _⟩ := S.own i d e
    rw [q] at h1
    cases h1
    exact h3
  refine ⟨S'.sub, S.f0.trans S'.f0, fun a o e => ?_, fun a o e n nt => ?_, fun a e => S.live a (S'.live a e), S'.pure, fun i d e => ?_, S'.apart, S'.len, S'.tb⟩
  · rcases S'.new a o e with h | h
    · exact S.new a o h
    · exact .inr (S.live a h)
  · refine S'.keep a o (S.keep a o e n nt) (fun z => ?_) nt
    rcases hA a z with h | h
    · exact n h
    · rw [e] at h; cases h
  · obtain ⟨a, h1, h2, h3, h3', h4⟩ := S'.own i d e
    refine ⟨a, h1, h2, ?_, h3', h4⟩
    rcases h3 with h | h
    · exact hA a h
    · exact .inr (S.live a h)
/-- a slot is stored: a value -/
theorem Sim.setP {i : Nat} (S : Sim K c σ H F env) (r : Rp K F v d) : Sim K c (σ.set i (some v)) H F (env.set i (.p d)) := by
  have hl : ∀ (j : Nat) (e : D), Live (env.set i (.p d)) j e → j ≠ i ∧ Live env j e := fun j e q => by
    by_cases h : i = j
    · subst h
      unfold Live at q
      rw [List.getElem?_set] at q
      simp only [if_true] at q
      split at q <;> simp at q
    · refine ⟨Ne.symm h, ?_⟩
      unfold Live at q ⊢
      rw [List.getElem?_set_ne h] at q
      exact q
  refine ⟨S.sub, S.f0, S.new, S.keep, S.live, fun j e q => ?_, fun j e q => ?_, fun j k e e' a q q' n z => ?_, by simpa using S.len, S.tb⟩
  · by_cases h : i = j
    · subst h
      have hi : i < env.length := by
        by_cases hi : i < env.length
        · exact hi
        · rw [List.getElem?_eq_none (by simpa using hi)] at q; cases q
      rw [List.getElem?_set_self hi] at q
      cases q
      exact ⟨v, List.getElem?_set_self (by rw [S.len]; exact hi), r⟩
    · rw [List.getElem?_set_ne h] at q ⊢
      exact S.pure j e q
  · obtain ⟨n, q'⟩ := hl j e q
    obtain ⟨a, h1, h2, h3, h3', h4⟩ := S.own j e q'
    rw [List.getElem?_set_ne (Ne.symm n), List.getElem?_set_ne (Ne.symm n)]
    exact ⟨a, h1, h2, h3, h3', h4⟩
  · obtain ⟨n1, q1⟩ := hl j e q
    obtain ⟨n2, q2⟩ := hl k e' q'
    rw [List.getElem?_set_ne (Ne.symm n1)] at z
    rw [List.getElem?_set_ne (Ne.symm n2)]
    exact S.apart j k e e' a q1 q2 n z
/-- a slot is stored: a new object of our own -/
theorem Sim.setO {i : Nat} {p : Addr} (S : Sim K c σ H F env) (f : Fresh c σ H F env p) (hc : Stm c) (h : OwnAt K F (H p) d) : Sim K c (σ.set i (some (.ref p))) H F (env.set i (.o d)) := by
  have hl : ∀ (j : Nat) (e : D), Live (env.set i (.o d)) j e → (j = i ∧ e = d ∧ i < env.length) ∨ (j ≠ i ∧ Live env j e) := fun j e q => by
    by_cases h : i = j
    · subst h
      by_cases hi : i < env.length
      · unfold Live at q
        rw [List.getElem?_set_self hi] at q
        rcases q with q | q
        · cases q
          exact .inl ⟨rfl, rfl, hi⟩
        · cases q
      · unfold Live at q
        rw [List.getElem?_eq_none (by simpa using hi)] at q
        rcases q with q | q <;> cases q
    · refine .inr ⟨Ne.symm h, ?_⟩
      unfold Live at q ⊢
      rw [List.getElem?_set_ne h] at q
      exact q
  refine ⟨S.sub, S.f0, S.new, S.keep, S.live, fun j e q => ?_, fun j e q => ?_, fun j k e e' a q q' n z => ?_, by simpa using S.len, S.tb⟩
  · by_cases h : i = j
    · subst h
      by_cases hi : i < env.length
      · rw [List.getElem?_set_self hi] at q; cases q
      · rw [List.getElem?_eq_none (by simpa using hi)] at q; cases q
    · rw [List.getElem?_set_ne h] at q ⊢
      exact S.pure j e q
  · rcases hl j e q with ⟨rfl, rfl, hi⟩ | ⟨n, q'⟩
    · exact ⟨p, List.getElem?_set_self (by rw [S.len]; exact hi), f.noF, .inr f.noc, ⟨fun _ z => hc.2 p z f.noc, fun z => by rw [List.getElem?_set_self hi] at z; cases z⟩, h⟩
    · obtain ⟨a, h1, h2, h3, h3', h4⟩ := S.own j e q'
      rw [List.getElem?_set_ne (Ne.symm n), List.getElem?_set_ne (Ne.symm n)]
      exact ⟨a, h1, h2, h3, h3', h4⟩
  · rcases hl j e q with ⟨rfl, rfl, hi⟩ | ⟨n1, q1⟩
    · rw [List.getElem?_set_self (by rw [S.len]; exact hi)] at z
      cases z
      rcases hl k e' q' with ⟨rfl, rfl, _⟩ | ⟨n2, q2⟩
      · exact absurd rfl n
      · rw [List.getElem?_set_ne (Ne.symm n2)]
        exact f.nos k e' q2
    · rw [List.getElem?_set_ne (Ne.symm n1)] at z
      rcases hl k e' q' with ⟨rfl, rfl, hi⟩ | ⟨n2, q2⟩
      · rw [List.getElem?_set_self (by rw [S.len]; exact hi)]
        intro y
        cases y
        exact f.nos j e q1 z
      · rw [List.getElem?_set_ne (Ne.symm n2)]
        exact S.apart j k e e' a q1 q2 n z
/-- less is known -/
theorem Sim.weak {σ' : St} {env' : Ev} (S : Sim K c σ H F env) (hl : σ'.length = env'.length) (h : ∀ (i : Nat), (env'[i]? = some Sl.u ∨ env'[i]? = none) ∨ (env'[i]? = env[i]? ∧ σ'[i]? = σ[i]?)) : Sim K c σ' H F env' := by
  have hl' : ∀ (j : Nat) (e : D), Live env' j e → Live env j e ∧ σ'[j]? = σ[j]? ∧ env'[j]? = env[j]? := fun j e q => by
    rcases h j with (z | z) | ⟨z1, z2⟩
    · unfold Live at q
      rw [z] at q
      rcases q with q | q <;> cases q
    · unfold Live at q
      rw [z] at q
      rcases q with q | q <;> cases q
    · unfold Live at q ⊢
      rw [z1] at q
      exact ⟨q, z2, z1⟩
  refine ⟨S.sub, S.f0, S.new, S.keep, S.live, fun j e q => ?_, fun j e q => ?_, fun j k e e' a q q' n z => ?_, hl, S.tb⟩
  · rcases h j with (z | z) | ⟨z1, z2⟩
    · rw [z] at q; cases q
    · rw [z] at q; cases q
    · rw [z2]
      exact S.pure j e (z1 ▸ q)
  · obtain ⟨q1, q2, q3⟩ := hl' j e q
    obtain ⟨a, h1, h2, h3, h3', h4⟩ := S.own j e q1
    rw [q2, q3]
    exact ⟨a, h1, h2, h3, h3', h4⟩
  · obtain ⟨q1, q2, _⟩ := hl' j e q
    obtain ⟨q1', q2', _⟩ := hl' k e' q'
    rw [q2']
    exact S.apart j k e e' a q1 q1' n (q2 ▸ z)
/-- an object of ours is changed -/
theorem Sim.write {i : Nat} {p : Addr} {o : HO} {d0 : D} {s' : Sl} (S : Sim K c σ H F env) (h : Live env i d0) (hp : σ[i]? = some (some (.ref p))) (hs : (env[i]? = some (Sl.o d0) ∧ s' = .o d) ∨ (env[i]? = some (Sl.r d0) ∧ s' = .r d)) (ho : OwnAt K F (some o) d) : Sim K c σ (upd H p o) F (env.set i s') := by
  obtain ⟨a, h1, h2, h3, h3', h4⟩ := S.own i d0 h
  rw [hp] at h1
  cases h1
  have hi : i < env.length := by
    by_cases hi : i < env.length
    · exact hi
    · have z := List.getElem?_eq_none (show env.length ≤ i by omega)
      unfold Live at h
      rw [z] at h
      rcases h with h | h <;> cases h
  have hl : ∀ (j : Nat) (e : D), Live (env.set i s') j e → (j = i ∧ e = d) ∨ (j ≠ i ∧ Live env j e) := fun j e q => by
    by_cases hj : i = j
    · subst hj
      unfold Live at q
      rw [List.getElem?_set_self hi] at q
      refine .inl ⟨rfl, ?_⟩
      rcases hs with ⟨_, z⟩ | ⟨_, z⟩ <;> (subst z; rcases q with q | q <;> cases q; rfl)
    · refine .inr ⟨Ne.symm hj, ?_⟩
      unfold Live at q ⊢
      rw [List.getElem?_set_ne hj] at q
      exact q
  obtain ⟨u0, hu0, hu1⟩ := h4.isO
  refine ⟨fun b u e => ?_, S.f0, S.new, fun b u e n nt => ?_, fun b e => ?_, fun j e q => ?_, fun j e q => ?_, fun j k e e' b q q' n z => ?_, by simpa using S.len, S.tb.put hu0 hu1⟩
  · rw [upd_ne (ne_of_none e h2)]; exact S.sub _ _ e
  · have hb : b ≠ p := fun z => by
      subst z
      rcases h3 with z | z
      · exact n z
      · rw [e] at z; cases z
    rw [upd_ne hb]; exact S.keep b u e n nt
  · by_cases hb : b = p
    · subst hb; rw [upd_same] at e; cases e
    · rw [upd_ne hb] at e; exact S.live b e
  · by_cases hj : i = j
    · subst hj
      rw [List.getElem?_set_self hi] at q
      rcases hs with ⟨_, z⟩ | ⟨_, z⟩ <;> (subst z; cases q)
    · rw [List.getElem?_set_ne hj] at q
      exact S.pure j e q
  · rcases hl j e q with ⟨rfl, rfl⟩ | ⟨n, q'⟩
    · refine ⟨p, hp, h2, h3, ⟨fun z => ?_, fun z => ?_⟩, by rw [upd_same]; exact ho⟩
      · rw [List.getElem?_set_self hi] at z
        rcases hs with ⟨y, _⟩ | ⟨_, y⟩
        · exact h3'.1 y
        · subst y; cases z
      · rw [List.getElem?_set_self hi] at z
        rcases hs with ⟨_, y⟩ | ⟨y, _⟩
        · subst y; cases z
        · exact h3'.2 y
    · obtain ⟨b, g1, g2, g3, g3', g4⟩ := S.own j e q'
      have hb : b ≠ p := fun z => by
        subst z
        exact S.apart j i e d0 b q' h n g1 hp
      rw [List.getElem?_set_ne (Ne.symm n)]
      exact ⟨b, g1, g2, g3, g3', by rw [upd_ne hb]; exact g4⟩
  · rcases hl j e q with ⟨rfl, rfl⟩ | ⟨n1, q1⟩
    · rcases hl k e' q' with ⟨rfl, rfl⟩ | ⟨n2, q2⟩
      · exact absurd rfl n
      · exact S.apart j k d0 e' b h q2 n z
    · rcases hl k e' q' with ⟨rfl, rfl⟩ | ⟨n2, q2⟩
      · exact S.apart j k e d0 b q1 h n z
      · exact S.apart j k e e' b q1 q2 n z
/-- an object of our own is frozen -/
theorem Sim.frz {i : Nat} (S : Sim K c σ H F env) (hc : Stm c) (h : env[i]? = some (Sl.o d)) : ∃ F', Sim K c σ H F' (env.set i (.p d)) ∧ Same F F' := by
  obtain ⟨a, h1, h2, h3, h3', h4⟩ := S.own i d (.inl h)
  obtain ⟨u0, h5, h50⟩ := h4.isO
  have hca : c.H a = none := by
    rcases h3 with z | z
    · exact absurd (hc.1 a z) (h3'.1 h)
    · exact z
  have S1 : Sim K c σ H F (env.set i .u) := S.weak (by simpa using S.len) fun j => by
    by_cases hj : i = j
    · subst hj
      refine .inl ?_
      rw [List.getElem?_set]
      simp only [if_true]
      split
      · exact .inl rfl
      · exact .inr rfl
    · exact .inr ⟨by rw [List.getElem?_set_ne hj], rfl⟩
  have hn : ∀ (j : Nat) (e : D), Live (env.set i .u) j e → j ≠ i ∧ Live env j e := fun j e q => by
    by_cases hj : i = j
    · subst hj
      unfold Live at q
      rw [List.getElem?_set] at q
      simp only [if_true] at q
      split at q <;> simp at q
    · unfold Live at q ⊢
      rw [List.getElem?_set_ne hj] at q
      exact ⟨Ne.symm hj, q⟩
  have f : Fresh c σ H F (env.set i .u) a := ⟨⟨_, h5, h50⟩, h2, hca, fun j e q z => by
    obtain ⟨n, q'⟩ := hn j e q
    exact S.apart i j _ e a (.inl h) q' (Ne.symm n) h1 z⟩
  obtain ⟨F', S2, e2, r⟩ := S1.freeze f h4
  refine ⟨F', ?_, e2⟩
  have S3 := S2.setP (i := i) r
  rw [List.set_set] at S3
  have hs : σ.set i (some (.ref a)) = σ := by
    apply List.ext_getElem?
    intro j
    by_cases hj : i = j
    · subst hj
      rw [List.getElem?_set_self (List.getElem?_eq_some_iff.mp h1).1, h1]
    · rw [List.getElem?_set_ne hj]
  rw [hs] at S3
  exact S3
end
end DL

namespace DL
open PySem PySem.Spec PyProof.Rows L2
variable [Tab]

def LIM : Nat := 100000
theorem lim_le {n : Nat} (h : n ≤ LIM) : n ≤ sizeLine := Nat.le_trans h (by decide)
theorem lim_lt {n : Nat} (h : n < LIM) : n < sizeLine := Nat.lt_of_lt_of_le h (by decide)

def Rx.bind {α β : Type} (x : Rx α) (f : α → Ev → Rx β) : Rx β := match x with
  | .ok a e => f a e
  | .er x => .er x
  | .no => .no
@[simp] theorem Rx.bind_ok {α β : Type} (a : α) (e : Ev) (f : α → Ev → Rx β) : (Rx.ok a e).bind f = f a e := rfl
@[simp] theorem Rx.bind_er {α β : Type} (x : Exc) (f : α → Ev → Rx β) : (Rx.er x : Rx α).bind f = .er x := rfl
@[simp] theorem Rx.bind_no {α β : Type} (f : α → Ev → Rx β) : (Rx.no : Rx α).bind f = .no := rfl
def Rx.out {α : Type} (x : Rx α) (f : α → Ev → Out) : Out := match x with
  | .ok a e => f a e
  | .er x => .er x
  | .no => .no
@[simp] theorem Rx.out_ok {α : Type} (a : α) (e : Ev) (f : α → Ev → Out) : (Rx.ok a e).out f = f a e := rfl
@[simp] theorem Rx.out_er {α : Type} (x : Exc) (f : α → Ev → Out) : (Rx.er x : Rx α).out f = .er x := rfl
@[simp] theorem Rx.out_no {α : Type} (f : α → Ev → Out) : (Rx.no : Rx α).out f = .no := rfl

def clsV (mg : Str → Option Value) (x : Exc) : Value := (mg x.c).getD .none
def Away (c : C0) (H' : Hp) : Prop := (∀ a o, c.H a = some o → ¬ c.A a → NT o → H' a = some o) ∧ LamX.Tabs Tab.T H' ∧ ∀ a, H' a = none → c.H a = none

/-! ### judgements -/
def Post {α : Type} (X : Cx) (c : C0) (W : WX) (σ : St) (F : Hp) (R : α → Ev → Hp → Hp → Prop) : Rx α → Prop
  | .ok a env' => ∀ H' F', Sim X.K c σ H' F' env' → Same F F' → R a env' H' F'
  | .er x => ∀ H', Away c H' → W (clsV X.mg x) none σ H'
  | .no => False
theorem Post.imp {α : Type} {X : Cx} {c : C0} {W : WX} {σ : St} {F F1 : Hp} {R R' : α → Ev → Hp → Hp → Prop} {x : Rx α} (h : Post X c W σ F R x) (e : Same F F1)
    (k : ∀ a env' H' F', Sim X.K c σ H' F' env' → Same F1 F' → R a env' H' F' → R' a env' H' F') : Post X c W σ F1 R' x := by
  cases x with
  | ok a env' => exact fun H' F' S e' => k a env' H' F' S e' (h H' F' S (e.trans e'))
  | er x => exact h
  | no => exact h
def RE (X : Cx) (σ : St) (Q : VK) : LV → Ev → Hp → Hp → Prop := fun lv _ H' F' => ∀ v, LRp X.K F' σ v lv → Q v H'
def RF (X : Cx) (c : C0) (σ : St) (Q : VK) : D → Ev → Hp → Hp → Prop := fun d env' H' F' => ∀ p, Fresh c σ H' F' env' p → OwnAt X.K F' (H' p) d → Q (.ref p) H'
def RT (Q : Bool → Hp → Prop) : Bool → Ev → Hp → Hp → Prop := fun b _ H' _ => Q b H'
def RA (X : Cx) (σ : St) (Q : List V → Hp → Prop) : List LV → Ev → Hp → Hp → Prop := fun lvs _ H' F' => ∀ vs, Paired (LRp X.K F' σ) vs lvs → Q vs H'
/-- a reading evaluates as f tells -/
def ESem (X : Cx) (W : WX) (t : TE) (f : Ev → Rx LV) : Prop := ∀ c σ H F env Q, Sim X.K c σ H F env → Post X c W σ F (RE X σ Q) (f env) → t σ H Q
def FSem (X : Cx) (W : WX) (t : TE) (f : Ev → Rx D) : Prop := ∀ c σ H F env Q, Sim X.K c σ H F env → Post X c W σ F (RF X c σ Q) (f env) → t σ H Q
def TSem (X : Cx) (W : WX) (t : TT) (f : Ev → Rx Bool) : Prop := ∀ c σ H F env Q, Sim X.K c σ H F env → Post X c W σ F (RT Q) (f env) → t σ H Q
def ASem (X : Cx) (W : WX) (t : TA) (f : Ev → Rx (List LV)) : Prop := ∀ c σ H F env Q, Sim X.K c σ H F env → Post X c W σ F (RA X σ Q) (f env) → t σ H Q
structure EOk (X : Cx) (W : WX) (e : Expr) (f : Ev → Rx LV) : Prop where
  ex : ∃ t, PE X e t ∧ ESem X W t f
structure FOk (X : Cx) (W : WX) (e : Expr) (f : Ev → Rx D) : Prop where
  ex : ∃ t, PE X e t ∧ FSem X W t f
structure TOk (X : Cx) (W : WX) (e : Expr) (f : Ev → Rx Bool) : Prop where
  ex : ∃ t, PT X e t ∧ TSem X W t f
structure WOk (X : Cx) (W : WX) (e : Expr) (f : Ev → Rx Bool) : Prop where
  ex : ∃ t, PW X e t ∧ TSem X W t f
structure AOk (X : Cx) (W : WX) (es : List Expr) (f : Ev → Rx (List LV)) : Prop where
  ex : ∃ t, PA X es t ∧ ASem X W t f

/-- a new object, then frozen -/
def eFr (f : Ev → Rx D) : Ev → Rx LV := fun env => (f env).bind fun d e => .ok (.v d) e
section
variable {X : Cx} {W : WX} {e a b : Expr}
theorem FSem.fr {t : TE} {f : Ev → Rx D} (h : FSem X W t f) : ESem X W t (eFr f) := fun c σ H F env Q S p => by
  refine h c σ H F env Q S ?_
  unfold eFr at p
  cases q : f env with
  | ok d env' =>
    rw [q] at p
    intro H' F' S' e p' fr ow
    obtain ⟨F2, S2, e2, r2⟩ := S'.freeze fr ow
    exact p H' F2 S2 (e.trans e2) _ r2
  | er x => rw [q] at p; exact p
  | no => rw [q] at p; exact p
theorem FOk.fr {f : Ev → Rx D} (h : FOk X W e f) : EOk X W e (eFr f) := let ⟨t, h1, h2⟩ := h.ex; ⟨t, h1, h2.fr⟩

/-! ### names and constants -/
def eVar (i : Nat) : Ev → Rx LV := fun env => match env[i]? with
  | some (.p d) => .ok (.v d) env
  | some (.o _) => .ok (.s i) env
  | some (.r _) => .ok (.s i) env
  | _ => .no
theorem esem_var {i : Nat} : ESem X W (tVar i) (eVar i) := fun c σ H F env Q S p => by
  unfold eVar at p
  split at p
  · rename_i d h
    obtain ⟨v, h1, h2⟩ := S.pure i d h
    exact ⟨v, h1, p H F S (Same.refl _) v h2⟩
  · rename_i d h
    obtain ⟨a, h1, _⟩ := S.own i d (.inl h)
    exact ⟨_, h1, p H F S (Same.refl _) _ h1⟩
  · rename_i d h
    obtain ⟨a, h1, _⟩ := S.own i d (.inr h)
    exact ⟨_, h1, p H F S (Same.refl _) _ h1⟩
  · exact p.elim
theorem eok_var {i : Nat} (h : PE X e (tVar i)) : EOk X W e (eVar i) := ⟨_, h, esem_var⟩
def eC (d : D) : Ev → Rx LV := fun env => .ok (.v d) env
theorem eok_c {v : V} {d : D} (h : PE X e (tC v)) (r : ∀ F, Rp X.K F v d) : EOk X W e (eC d) := ⟨_, h, fun c σ H F env Q S p => p H F S (Same.refl _) v (r F)⟩
theorem eok_int {i j pos} : EOk X W (.Constant (.int i) j pos) (eC (.int i)) := eok_c pe_int fun _ => .int i
theorem eok_bl {b j pos} : EOk X W (.Constant (.bool b) j pos) (eC (.bl b)) := eok_c pe_bl fun _ => .bl b
theorem eok_non {j pos} : EOk X W (.Constant .none j pos) (eC .non) := eok_c pe_non fun _ => .non
theorem eok_str {x j pos} : EOk X W (.Constant (.str x) j pos) (eC (.str x)) := eok_c pe_str fun _ => .str x

/-! ### two-place operations -/
@[simp] def op2 (g : D → D → Option D) (env : Ev) (x y : LV) : Rx LV := match rs env x, rs env y with
  | some x', some y' => match g x' y' with
    | some z => .ok (.v z) env
    | none => .no
  | _, _ => .no
def eOp (g : D → D → Option D) (a b : Ev → Rx LV) : Ev → Rx LV := fun env => (a env).bind fun x e1 => (b e1).bind fun y e2 => op2 g e2 x y
/-- what an operation on values does with data -/
def D2 (X : Cx) (r : R2) (g : D → D → Option D) : Prop := ∀ c σ H F env v w x y z (Q : VK), Sim X.K c σ H F env → HRp X.K H F v x → HRp X.K H F w y → g x y = some z →
  (∀ u H' F', Sim X.K c σ H' F' env → Same F F' → Rp X.K F' u z → Q u H') → r v w H Q
theorem esem_op {r : R2} {g : D → D → Option D} {ta tb : TE} {fa fb : Ev → Rx LV} (d2 : D2 X r g) (ha : ESem X W ta fa) (hb : ESem X W tb fb) : ESem X W (tOp r ta tb) (eOp g fa fb) := fun c σ H F env Q S p => by
  refine ha c σ H F env _ S ?_
  unfold eOp at p
  cases q : fa env with
  | er x => rw [q] at p; exact p
  | no => rw [q] at p; exact p.elim
  | ok x e1 =>
    rw [q] at p
    replace p : Post X c W σ F (RE X σ Q) ((fb e1).bind fun y e2 => op2 g e2 x y) := p
    intro H1 F1 S1 s1 v hv
    refine hb c σ H1 F1 e1 _ S1 ?_
    cases q2 : fb e1 with
    | er x => rw [q2] at p; exact p
    | no => rw [q2] at p; exact p.elim
    | ok y e2 =>
      rw [q2] at p
      replace p : Post X c W σ F (RE X σ Q) (op2 g e2 x y) := p
      intro H2 F2 S2 s2 w hw
      unfold op2 at p
      cases r1 : rs e2 x with
      | none => simp only [r1] at p; exact p.elim
      | some x' =>
        cases r2 : rs e2 y with
        | none => simp only [r1, r2] at p; exact p.elim
        | some y' =>
          simp only [r1, r2] at p
          cases r3 : g x' y' with
          | none => simp only [r3] at p; exact p.elim
          | some z =>
            simp only [r3] at p
            refine d2 c σ H2 F2 e2 v w x' y' z Q S2 (S2.hrp (hv.mono s2) r1) (S2.hrp hw r2) r3 fun u H' F' S' s' ru => ?_
            exact p H' F' S' ((s1.trans s2).trans s') u ru
theorem eok_op {r : R2} {g : D → D → Option D} {fa fb : Ev → Rx LV} (d2 : D2 X r g) (hp : ∀ {ta tb}, PE X a ta → PE X b tb → PE X e (tOp r ta tb)) (ha : EOk X W a fa) (hb : EOk X W b fb) : EOk X W e (eOp g fa fb) := by
  obtain ⟨ta, a1, a2⟩ := ha.ex
  obtain ⟨tb, b1, b2⟩ := hb.ex
  exact ⟨_, hp a1 b1, esem_op d2 a2 b2⟩
/-- .. that make a new list -/
def D2F (X : Cx) (r : R2) (g : D → D → Option D) : Prop := ∀ c σ H F env v w x y z (Q : VK), Sim X.K c σ H F env → HRp X.K H F v x → HRp X.K H F w y → g x y = some z →
  (∀ p H' F', Sim X.K c σ H' F' env → Same F F' → Fresh c σ H' F' env p → OwnAt X.K F' (H' p) z → Q (.ref p) H') → r v w H Q
@[simp] def op2F (g : D → D → Option D) (env : Ev) (x y : LV) : Rx D := match rs env x, rs env y with
  | some x', some y' => match g x' y' with
    | some z => .ok z env
    | none => .no
  | _, _ => .no
def eOpF (g : D → D → Option D) (a b : Ev → Rx LV) : Ev → Rx D := fun env => (a env).bind fun x e1 => (b e1).bind fun y e2 => op2F g e2 x y
theorem fok_op {r : R2} {g : D → D → Option D} {fa fb : Ev → Rx LV} (d2 : D2F X r g) (hp : ∀ {ta tb}, PE X a ta → PE X b tb → PE X e (tOp r ta tb)) (ha : EOk X W a fa) (hb : EOk X W b fb) : FOk X W e (eOpF g fa fb) := by
  obtain ⟨ta, a1, a2⟩ := ha.ex
  obtain ⟨tb, b1, b2⟩ := hb.ex
  refine ⟨_, hp a1 b1, fun c σ H F env Q S p => ?_⟩
  refine a2 c σ H F env _ S ?_
  unfold eOpF at p
  cases q : fa env with
  | er x => rw [q] at p; exact p
  | no => rw [q] at p; exact p.elim
  | ok x e1 =>
    rw [q] at p
    replace p : Post X c W σ F (RF X c σ Q) ((fb e1).bind fun y e2 => op2F g e2 x y) := p
    intro H1 F1 S1 s1 v hv
    refine b2 c σ H1 F1 e1 _ S1 ?_
    cases q2 : fb e1 with
    | er x => rw [q2] at p; exact p
    | no => rw [q2] at p; exact p.elim
    | ok y e2 =>
      rw [q2] at p
      replace p : Post X c W σ F (RF X c σ Q) (op2F g e2 x y) := p
      intro H2 F2 S2 s2 w hw
      unfold op2F at p
      cases r1 : rs e2 x with
      | none => simp only [r1] at p; exact p.elim
      | some x' =>
        cases r2 : rs e2 y with
        | none => simp only [r1, r2] at p; exact p.elim
        | some y' =>
          simp only [r1, r2] at p
          cases r3 : g x' y' with
          | none => simp only [r3] at p; exact p.elim
          | some z =>
            simp only [r3] at p
            refine d2 c σ H2 F2 e2 v w x' y' z Q S2 (S2.hrp (hv.mono s2) r1) (S2.hrp hw r2) r3 fun u H' F' S' s' fr ow => ?_
            exact p H' F' S' ((s1.trans s2).trans s') u fr ow
/-! ### one-place operations -/
@[simp] def op1 (g : D → Option D) (env : Ev) (x : LV) : Rx LV := match rs env x with
  | some x' => match g x' with
    | some z => .ok (.v z) env
    | none => .no
  | none => .no
def eUn (g : D → Option D) (a : Ev → Rx LV) : Ev → Rx LV := fun env => (a env).bind fun x e1 => op1 g e1 x
def D1 (X : Cx) (r : V → Hp → VK → Prop) (g : D → Option D) : Prop := ∀ c σ H F env v x z (Q : VK), Sim X.K c σ H F env → HRp X.K H F v x → g x = some z →
  (∀ u H' F', Sim X.K c σ H' F' env → Same F F' → Rp X.K F' u z → Q u H') → r v H Q
theorem esem_un {r : V → Hp → VK → Prop} {g : D → Option D} {ta : TE} {fa : Ev → Rx LV} (d1 : D1 X r g) (ha : ESem X W ta fa) : ESem X W (tUn r ta) (eUn g fa) := fun c σ H F env Q S p => by
  refine ha c σ H F env _ S ?_
  unfold eUn at p
  cases q : fa env with
  | er x => rw [q] at p; exact p
  | no => rw [q] at p; exact p.elim
  | ok x e1 =>
    rw [q] at p
    replace p : Post X c W σ F (RE X σ Q) (op1 g e1 x) := p
    intro H1 F1 S1 s1 v hv
    unfold op1 at p
    cases r1 : rs e1 x with
    | none => simp only [r1] at p; exact p.elim
    | some x' =>
      simp only [r1] at p
      cases r3 : g x' with
      | none => simp only [r3] at p; exact p.elim
      | some z =>
        simp only [r3] at p
        refine d1 c σ H1 F1 e1 v x' z Q S1 (S1.hrp hv r1) r3 fun u H' F' S' s' ru => ?_
        exact p H' F' S' (s1.trans s') u ru
theorem eok_un {r : V → Hp → VK → Prop} {g : D → Option D} {fa : Ev → Rx LV} (d1 : D1 X r g) (hp : ∀ {ta}, PE X a ta → PE X e (tUn r ta)) (ha : EOk X W a fa) : EOk X W e (eUn g fa) := by
  obtain ⟨ta, a1, a2⟩ := ha.ex
  exact ⟨_, hp a1, esem_un d1 a2⟩

/-! ### argument lists -/
def aNil : Ev → Rx (List LV) := fun env => .ok [] env
def aCons (a : Ev → Rx LV) (r : Ev → Rx (List LV)) : Ev → Rx (List LV) := fun env => (a env).bind fun x e1 => (r e1).bind fun xs e2 => .ok (x :: xs) e2
theorem aok_nil : AOk X W [] aNil := ⟨_, pa_nil, fun c σ H F env Q S p => p H F S (Same.refl _) [] .nil⟩
theorem aok_cons {es : List Expr} {fa : Ev → Rx LV} {fr : Ev → Rx (List LV)} (ha : EOk X W a fa) (hr : AOk X W es fr) (hs : starEach (a :: es) X.env = (false, eval a X.env) :: starEach es X.env := by rfl) : AOk X W (a :: es) (aCons fa fr) := by
  obtain ⟨ta, a1, a2⟩ := ha.ex
  obtain ⟨tr, r1, r2⟩ := hr.ex
  refine ⟨_, pa_cons a1 r1 hs, fun c σ H F env Q S p => ?_⟩
  refine a2 c σ H F env _ S ?_
  unfold aCons at p
  cases q : fa env with
  | er x => rw [q] at p; exact p
  | no => rw [q] at p; exact p.elim
  | ok x e1 =>
    rw [q] at p
    replace p : Post X c W σ F (RA X σ Q) ((fr e1).bind fun xs e2 => .ok (x :: xs) e2) := p
    intro H1 F1 S1 s1 v hv
    refine r2 c σ H1 F1 e1 _ S1 ?_
    cases q2 : fr e1 with
    | er x => rw [q2] at p; exact p
    | no => rw [q2] at p; exact p.elim
    | ok xs e2 =>
      rw [q2] at p
      intro H2 F2 S2 s2 vs hvs
      exact p H2 F2 S2 (s1.trans s2) (v :: vs) (.cons (hv.mono s2) hvs)
/-- the data of frozen values -/
@[simp] def allV : List LV → Option (List D)
  | [] => some []
  | .v d :: r => match allV r with
    | some l => some (d :: l)
    | none => none
  | .s _ :: _ => none
theorem allV_rp {K : PySem.W.Frag} {F : Hp} {σ : St} : ∀ {vs : List V} {lvs : List LV} {l : List D}, Paired (LRp K F σ) vs lvs → allV lvs = some l → RpL K F vs l
  | _, _, _, .nil, e => by cases e; exact .nil
  | _, .v d :: r, l, .cons h t, e => by
    unfold allV at e
    cases q : allV r with
    | none => simp only [q] at e; cases e
    | some l' =>
      simp only [q] at e
      cases e
      exact .cons h (allV_rp t q)
  | _, .s i :: r, l, .cons h t, e => by cases e
/-- the contents of values and slots -/
@[simp] def rsL (env : Ev) : List LV → Option (List D)
  | [] => some []
  | x :: r => match rs env x, rsL env r with
    | some d, some l => some (d :: l)
    | _, _ => none
theorem rsL_rp {K : PySem.W.Frag} {c : C0} {H F : Hp} {σ : St} {env : Ev} (S : Sim K c σ H F env) : ∀ {vs : List V} {lvs : List LV} {l : List D}, Paired (LRp K F σ) vs lvs → rsL env lvs = some l → Paired (HRp K H F) vs l
  | _, _, _, .nil, e => by cases e; exact .nil
  | _, x :: r, l, .cons h t, e => by
    unfold rsL at e
    cases q : rs env x with
    | none => simp only [q] at e; cases e
    | some d =>
      cases q2 : rsL env r with
      | none => simp only [q, q2] at e; cases e
      | some l' =>
        simp only [q, q2] at e
        cases e
        exact .cons (S.hrp h q) (rsL_rp S t q2)

/-! ### displays -/
def eTup (fa : Ev → Rx (List LV)) : Ev → Rx LV := fun env => (fa env).bind fun xs e1 => match allV xs with
  | some l => if l.length ≤ LIM then .ok (.v (.tup l)) e1 else .no
  | none => .no
theorem eok_tup {es : List Expr} {x1 : Nat} {pos : Pos} {fa : Ev → Rx (List LV)} (ha : AOk X W es fa) : EOk X W (.Tuple es x1 pos) (eTup fa) := by
  obtain ⟨ta, a1, a2⟩ := ha.ex
  refine ⟨_, pe_tup a1, fun c σ H F env Q S p => ?_⟩
  refine a2 c σ H F env _ S ?_
  unfold eTup at p
  cases q : fa env with
  | er x => rw [q] at p; exact p
  | no => rw [q] at p; exact p.elim
  | ok xs e1 =>
    rw [q] at p
    simp only [Rx.bind_ok] at p
    intro H1 F1 S1 s1 vs hvs
    cases q2 : allV xs with
    | none => simp only [q2] at p; exact p.elim
    | some l =>
      simp only [q2] at p
      have r := allV_rp hvs q2
      by_cases hl : l.length ≤ LIM
      · rw [if_pos hl] at p
        refine ⟨by rw [r.length]; exact lim_le hl, fun a ha => ?_⟩
        have hF : F1 a = none := S1.sub.free ha
        exact p _ _ (S1.alloc ha) (s1.trans (same_new hF)) _ (.tup (.inl (.inl upd_same)) (r.mono (same_new hF)))
      · rw [if_neg hl] at p; exact p.elim
def eLst (fa : Ev → Rx (List LV)) : Ev → Rx D := fun env => (fa env).bind fun xs e1 => match allV xs with
  | some l => if l.length ≤ LIM then .ok (.lst l) e1 else .no
  | none => .no
theorem fok_lst {es : List Expr} {pos : Pos} {fa : Ev → Rx (List LV)} (ha : AOk X W es fa) : FOk X W (.List es pos) (eLst fa) := by
  obtain ⟨ta, a1, a2⟩ := ha.ex
  refine ⟨_, pe_lst a1, fun c σ H F env Q S p => ?_⟩
  refine a2 c σ H F env _ S ?_
  unfold eLst at p
  cases q : fa env with
  | er x => rw [q] at p; exact p
  | no => rw [q] at p; exact p.elim
  | ok xs e1 =>
    rw [q] at p
    simp only [Rx.bind_ok] at p
    intro H1 F1 S1 s1 vs hvs
    cases q2 : allV xs with
    | none => simp only [q2] at p; exact p.elim
    | some l =>
      simp only [q2] at p
      have r := allV_rp hvs q2
      by_cases hl : l.length ≤ LIM
      · rw [if_pos hl] at p
        refine ⟨by rw [r.length]; exact lim_le hl, fun a ha => ?_⟩
        obtain ⟨S2, f2⟩ := S1.fresh (o := .lst vs) ha
        exact p _ _ S2 s1 a f2 (by rw [upd_same]; exact .lst r)
      · rw [if_neg hl] at p; exact p.elim

/-! ### calls of built-ins by values -/
@[simp] def rCall (g : List D → Option D) (env : Ev) (xs : List LV) : Rx LV := match rsL env xs with
  | some l => match g l with
    | some z => .ok (.v z) env
    | none => .no
  | none => .no
def eCB (g : List D → Option D) (fa : Ev → Rx (List LV)) : Ev → Rx LV := fun env => (fa env).bind fun xs e1 => rCall g e1 xs
def DC (X : Cx) (r : List V → Hp → VK → Prop) (g : List D → Option D) : Prop := ∀ c σ H F env vs l z (Q : VK), Sim X.K c σ H F env → Paired (HRp X.K H F) vs l → g l = some z →
  (∀ u H' F', Sim X.K c σ H' F' env → Same F F' → Rp X.K F' u z → Q u H') → r vs H Q
theorem eok_cb {es : List Expr} {r : List V → Hp → VK → Prop} {g : List D → Option D} {fa : Ev → Rx (List LV)} (dc : DC X r g) (hp : ∀ {ta}, PA X es ta → PE X e (tCB r ta)) (ha : AOk X W es fa) : EOk X W e (eCB g fa) := by
  obtain ⟨ta, a1, a2⟩ := ha.ex
  refine ⟨_, hp a1, fun c σ H F env Q S p => ?_⟩
  refine a2 c σ H F env _ S ?_
  unfold eCB at p
  cases q : fa env with
  | er x => rw [q] at p; exact p
  | no => rw [q] at p; exact p.elim
  | ok xs e1 =>
    rw [q] at p
    replace p : Post X c W σ F (RE X σ Q) (rCall g e1 xs) := p
    intro H1 F1 S1 s1 vs hvs
    unfold rCall at p
    cases q2 : rsL e1 xs with
    | none => simp only [q2] at p; exact p.elim
    | some l =>
      simp only [q2] at p
      cases q3 : g l with
      | none => simp only [q3] at p; exact p.elim
      | some z =>
        simp only [q3] at p
        exact dc c σ H1 F1 e1 vs l z Q S1 (rsL_rp S1 hvs q2) q3 fun u H' F' S' s' ru => p H' F' S' (s1.trans s') u ru
def DCF (X : Cx) (r : List V → Hp → VK → Prop) (g : List D → Option D) : Prop := ∀ c σ H F env vs l z (Q : VK), Sim X.K c σ H F env → Paired (HRp X.K H F) vs l → g l = some z →
  (∀ p H' F', Sim X.K c σ H' F' env → Same F F' → Fresh c σ H' F' env p → OwnAt X.K F' (H' p) z → Q (.ref p) H') → r vs H Q
@[simp] def rCallF (g : List D → Option D) (env : Ev) (xs : List LV) : Rx D := match rsL env xs with
  | some l => match g l with
    | some z => .ok z env
    | none => .no
  | none => .no
def eCBF (g : List D → Option D) (fa : Ev → Rx (List LV)) : Ev → Rx D := fun env => (fa env).bind fun xs e1 => rCallF g e1 xs
theorem fok_cb {es : List Expr} {r : List V → Hp → VK → Prop} {g : List D → Option D} {fa : Ev → Rx (List LV)} (dc : DCF X r g) (hp : ∀ {ta}, PA X es ta → PE X e (tCB r ta)) (ha : AOk X W es fa) : FOk X W e (eCBF g fa) := by
  obtain ⟨ta, a1, a2⟩ := ha.ex
  refine ⟨_, hp a1, fun c σ H F env Q S p => ?_⟩
  refine a2 c σ H F env _ S ?_
  unfold eCBF at p
  cases q : fa env with
  | er x => rw [q] at p; exact p
  | no => rw [q] at p; exact p.elim
  | ok xs e1 =>
    rw [q] at p
    replace p : Post X c W σ F (RF X c σ Q) (rCallF g e1 xs) := p
    intro H1 F1 S1 s1 vs hvs
    unfold rCallF at p
    cases q2 : rsL e1 xs with
    | none => simp only [q2] at p; exact p.elim
    | some l =>
      simp only [q2] at p
      cases q3 : g l with
      | none => simp only [q3] at p; exact p.elim
      | some z =>
        simp only [q3] at p
        exact dc c σ H1 F1 e1 vs l z Q S1 (rsL_rp S1 hvs q2) q3 fun u H' F' S' s' fr ow => p H' F' S' (s1.trans s') u fr ow

/-! ### tests -/
def tE (f : Ev → Rx LV) : Ev → Rx Bool := fun env => (f env).bind fun x e1 => match x with
  | .v (.bl b) => .ok b e1
  | _ => .no
theorem tsem_b {t : TE} {f : Ev → Rx LV} (h : ESem X W t f) : TSem X W (tB t) (tE f) := fun c σ H F env Q S p => by
  refine h c σ H F env _ S ?_
  unfold tE at p
  cases q : f env with
  | er x => rw [q] at p; exact p
  | no => rw [q] at p; exact p.elim
  | ok x e1 =>
    rw [q] at p
    simp only [Rx.bind_ok] at p
    intro H1 F1 S1 s1 v hv
    split at p
    · cases hv with
      | bl b => exact ⟨_, rfl, p H1 F1 S1 s1⟩
    · exact p.elim
theorem tok_val {f : Ev → Rx LV} (h : EOk X W e f) (hp : ∀ {t}, PE X e t → PT X e (tB t)) : TOk X W e (tE f) := by
  obtain ⟨t, h1, h2⟩ := h.ex
  exact ⟨_, hp h1, tsem_b h2⟩
theorem tok_cmp {r : R2} {g : D → D → Option D} {fa fb : Ev → Rx LV} (d2 : D2 X r g) (hp : ∀ {ta tb}, PE X a ta → PE X b tb → PT X e (tTest (tOp r ta tb))) (ha : EOk X W a fa) (hb : EOk X W b fb) : TOk X W e (tE (eOp g fa fb)) := by
  obtain ⟨ta, a1, a2⟩ := ha.ex
  obtain ⟨tb, b1, b2⟩ := hb.ex
  exact ⟨_, hp a1 b1, tsem_b (esem_op d2 a2 b2)⟩
def tNt (f : Ev → Rx Bool) : Ev → Rx Bool := fun env => (f env).bind fun b e1 => .ok (!b) e1
theorem tok_not {pos : Pos} {f : Ev → Rx Bool} (h : TOk X W a f) : TOk X W (.UnaryOp .Not a pos) (tNt f) := by
  obtain ⟨t, h1, h2⟩ := h.ex
  refine ⟨_, pt_not h1, fun c σ H F env Q S p => h2 c σ H F env _ S ?_⟩
  unfold tNt at p
  cases q : f env with
  | er x => rw [q] at p; exact p
  | no => rw [q] at p; exact p.elim
  | ok x e1 => rw [q] at p; exact p
def tAn (f g : Ev → Rx Bool) : Ev → Rx Bool := fun env => (f env).bind fun b e1 => if b = true then g e1 else .ok false e1
def tOr (f g : Ev → Rx Bool) : Ev → Rx Bool := fun env => (f env).bind fun b e1 => if b = true then .ok true e1 else g e1
theorem WOk.t {f : Ev → Rx Bool} (h : WOk X W e f) : TOk X W e f := let ⟨t, h1, h2⟩ := h.ex; ⟨t, h1.pt, h2⟩
theorem wok_and1 {pos : Pos} {f : Ev → Rx Bool} (h : TOk X W a f) : WOk X W (.BoolOp .And [a] pos) f := let ⟨t, h1, h2⟩ := h.ex; ⟨t, pw_and1 h1, h2⟩
theorem wok_or1 {pos : Pos} {f : Ev → Rx Bool} (h : TOk X W a f) : WOk X W (.BoolOp .Or [a] pos) f := let ⟨t, h1, h2⟩ := h.ex; ⟨t, pw_or1 h1, h2⟩
theorem wok_and {rest : List Expr} {pos : Pos} {f g : Ev → Rx Bool} (h : TOk X W a f) (hr : WOk X W (.BoolOp .And (b :: rest) pos) g) : WOk X W (.BoolOp .And (a :: b :: rest) pos) (tAn f g) := by
  obtain ⟨t, h1, h2⟩ := h.ex
  obtain ⟨u, u1, u2⟩ := hr.ex
  refine ⟨_, pw_and h1 u1, fun c σ H F env Q S p => h2 c σ H F env _ S ?_⟩
  unfold tAn at p
  cases q : f env with
  | er x => rw [q] at p; exact p
  | no => rw [q] at p; exact p.elim
  | ok x e1 =>
    rw [q] at p
    simp only [Rx.bind_ok] at p
    intro H1 F1 S1 s1
    cases x with
    | true =>
      show u σ H1 Q
      exact u2 c σ H1 F1 e1 Q S1 (Post.imp p s1 fun _ _ _ _ _ _ z => z)
    | false =>
      show Q false H1
      exact p H1 F1 S1 s1
theorem wok_or {rest : List Expr} {pos : Pos} {f g : Ev → Rx Bool} (h : TOk X W a f) (hr : WOk X W (.BoolOp .Or (b :: rest) pos) g) : WOk X W (.BoolOp .Or (a :: b :: rest) pos) (tOr f g) := by
  obtain ⟨t, h1, h2⟩ := h.ex
  obtain ⟨u, u1, u2⟩ := hr.ex
  refine ⟨_, pw_or h1 u1, fun c σ H F env Q S p => h2 c σ H F env _ S ?_⟩
  unfold tOr at p
  cases q : f env with
  | er x => rw [q] at p; exact p
  | no => rw [q] at p; exact p.elim
  | ok x e1 =>
    rw [q] at p
    simp only [Rx.bind_ok] at p
    intro H1 F1 S1 s1
    cases x with
    | true =>
      show Q true H1
      exact p H1 F1 S1 s1
    | false =>
      show u σ H1 Q
      exact u2 c σ H1 F1 e1 Q S1 (Post.imp p s1 fun _ _ _ _ _ _ z => z)
/-! ### and, or, not as values, conditional expressions -/
def eAn (f g : Ev → Rx LV) : Ev → Rx LV := fun env => (tE f env).bind fun b e1 => if b = true then g e1 else .ok (.v (.bl false)) e1
def eOr (f g : Ev → Rx LV) : Ev → Rx LV := fun env => (tE f env).bind fun b e1 => if b = true then .ok (.v (.bl true)) e1 else g e1
def eNt (f : Ev → Rx LV) : Ev → Rx LV := fun env => (tE f env).bind fun b e1 => .ok (.v (.bl (!b))) e1
def eIf (t : Ev → Rx Bool) (f g : Ev → Rx LV) : Ev → Rx LV := fun env => (t env).bind fun b e1 => if b = true then f e1 else g e1
theorem eok_one {op} {pos : Pos} {f : Ev → Rx LV} (h : EOk X W a f) : EOk X W (.BoolOp op [a] pos) f := let ⟨t, h1, h2⟩ := h.ex; ⟨t, pe_one h1, h2⟩
theorem eok_and {rest : List Expr} {pos : Pos} {f g : Ev → Rx LV} (h : EOk X W a f) (hr : EOk X W (.BoolOp .And (b :: rest) pos) g) : EOk X W (.BoolOp .And (a :: b :: rest) pos) (eAn f g) := by
  obtain ⟨t, h1, h2⟩ := h.ex
  obtain ⟨u, u1, u2⟩ := hr.ex
  refine ⟨_, pe_and h1 u1, fun c σ H F env Q S p => tsem_b h2 c σ H F env (fun c H1 => if c = true then u σ H1 Q else Q (.bl false) H1) S ?_⟩
  unfold eAn at p
  cases q : tE f env with
  | er x => rw [q] at p; exact p
  | no => rw [q] at p; exact p.elim
  | ok x e1 =>
    rw [q] at p
    simp only [Rx.bind_ok] at p
    intro H1 F1 S1 s1
    cases x with
    | true =>
      show u σ H1 Q
      exact u2 c σ H1 F1 e1 Q S1 (Post.imp p s1 fun _ _ _ _ _ _ z => z)
    | false =>
      show Q (.bl false) H1
      exact p H1 F1 S1 s1 _ (.bl false)
theorem eok_or {rest : List Expr} {pos : Pos} {f g : Ev → Rx LV} (h : EOk X W a f) (hr : EOk X W (.BoolOp .Or (b :: rest) pos) g) : EOk X W (.BoolOp .Or (a :: b :: rest) pos) (eOr f g) := by
  obtain ⟨t, h1, h2⟩ := h.ex
  obtain ⟨u, u1, u2⟩ := hr.ex
  refine ⟨_, pe_or h1 u1, fun c σ H F env Q S p => tsem_b h2 c σ H F env (fun c H1 => if c = true then Q (.bl true) H1 else u σ H1 Q) S ?_⟩
  unfold eOr at p
  cases q : tE f env with
  | er x => rw [q] at p; exact p
  | no => rw [q] at p; exact p.elim
  | ok x e1 =>
    rw [q] at p
    simp only [Rx.bind_ok] at p
    intro H1 F1 S1 s1
    cases x with
    | true =>
      show Q (.bl true) H1
      exact p H1 F1 S1 s1 _ (.bl true)
    | false =>
      show u σ H1 Q
      exact u2 c σ H1 F1 e1 Q S1 (Post.imp p s1 fun _ _ _ _ _ _ z => z)
theorem eok_not {pos : Pos} {f : Ev → Rx LV} (h : EOk X W a f) : EOk X W (.UnaryOp .Not a pos) (eNt f) := by
  obtain ⟨t, h1, h2⟩ := h.ex
  refine ⟨_, pe_not h1, fun c σ H F env Q S p => tsem_b h2 c σ H F env (fun c H1 => Q (.bl (!c)) H1) S ?_⟩
  unfold eNt at p
  cases q : tE f env with
  | er x => rw [q] at p; exact p
  | no => rw [q] at p; exact p.elim
  | ok x e1 =>
    rw [q] at p
    intro H1 F1 S1 s1
    exact p H1 F1 S1 s1 _ (.bl _)
theorem eok_if {cnd : Expr} {pos : Pos} {t : Ev → Rx Bool} {f g : Ev → Rx LV} (ht : TOk X W cnd t) (ha : EOk X W a f) (hb : EOk X W b g) : EOk X W (.IfExp cnd a b pos) (eIf t f g) := by
  obtain ⟨u, u1, u2⟩ := ht.ex
  obtain ⟨ta, a1, a2⟩ := ha.ex
  obtain ⟨tb, b1, b2⟩ := hb.ex
  refine ⟨_, pe_ifExp u1 a1 b1, fun c σ H F env Q S p => u2 c σ H F env _ S ?_⟩
  unfold eIf at p
  cases q : t env with
  | er x => rw [q] at p; exact p
  | no => rw [q] at p; exact p.elim
  | ok x e1 =>
    rw [q] at p
    simp only [Rx.bind_ok] at p
    intro H1 F1 S1 s1
    cases x with
    | true =>
      show ta σ H1 Q
      exact a2 c σ H1 F1 e1 Q S1 (Post.imp p s1 fun _ _ _ _ _ _ z => z)
    | false =>
      show tb σ H1 Q
      exact b2 c σ H1 F1 e1 Q S1 (Post.imp p s1 fun _ _ _ _ _ _ z => z)
end
end DL

namespace DL
open PySem PySem.Spec PyProof.Rows L2
variable [Tab]

/-! ### a def's promise -/
inductive FOut where
  | ok (d fin : D) | er (x : Exc) | no
def RefA (ref : Option Nat) (vs : List V) (a : Addr) : Prop := ∃ j, ref = some j ∧ vs[j]? = some (.ref a)
structure CallEnd (K : PySem.W.Frag) (ref : Option Nat) (fr : Bool) (H F : Hp) (vs : List V) (H' F' : Hp) (v : V) (d fin : D) : Prop where
  sub : Same F' H'
  f0 : Same F F'
  new : ∀ a o, F' a = some o → F a = some o ∨ H a = none
  keep : ∀ a o, H a = some o → ¬ RefA ref vs a → NT o → H' a = some o
  tb : TabI H' F'
  live : ∀ a, H' a = none → H a = none
  ref : ∀ j a, ref = some j → vs[j]? = some (.ref a) → F' a = none ∧ OwnAt K F' (H' a) fin
  val : if fr = true then ∃ p, v = .ref p ∧ F' p = none ∧ H p = none ∧ OwnAt K F' (H' p) d else Rp K F' v d
def ArgRp (K : PySem.W.Frag) (ref : Option Nat) (H F : Hp) (vs : List V) (ds : List D) : Prop :=
  vs.length = ds.length ∧ ∀ (j : Nat) (v : V) (d : D), vs[j]? = some v → ds[j]? = some d → (ref = some j → ∃ a, v = .ref a ∧ F a = none ∧ OwnAt K F (H a) d) ∧ (ref ≠ some j → Rp K F v d)
def FPost (K : PySem.W.Frag) (mg : Str → Option Value) (ref : Option Nat) (fr : Bool) (H F : Hp) (vs : List V) (Q : VK) (E : XK) : FOut → Prop
  | .ok d fin => ∀ v H' F', CallEnd K ref fr H F vs H' F' v d fin → Q v H'
  | .er x => ∀ H', (∀ a o, H a = some o → ¬ RefA ref vs a → NT o → H' a = some o) → LamX.Tabs Tab.T H' → (∀ a, H' a = none → H a = none) → E (clsV mg x) none H'
  | .no => False
/-- the promise: what fn tells of the arguments' data -/
def spD (K : PySem.W.Frag) (mg : Str → Option Value) (ref : Option Nat) (fr : Bool) (n : Nat) (fn : List D → FOut) : Sp := fun vs H Q E =>
  vs.length = n ∧ ∃ F ds, Same F H ∧ TabI H F ∧ ArgRp K ref H F vs ds ∧ FPost K mg ref fr H F vs Q E (fn ds)

/-! ### its body -/
/-- the environment at a def's start -/
@[simp] def stE (ref : Option Nat) : Nat → List D → Ev
  | _, [] => []
  | j, d :: ds => (if ref = some j then Sl.r d else Sl.p d) :: stE ref (j + 1) ds
@[simp] def fin (ref : Option Nat) (e : Ev) : Option D := match ref with
  | none => some .non
  | some j => match e[j]? with
    | some (.r d) => some d
    | _ => none
@[simp] def outF (ref : Option Nat) (fr : Bool) : Out → FOut
  | .rt d e => if fr = true then .no else match fin ref e with
    | some z => .ok d z
    | none => .no
  | .rf d e => if fr = true then match fin ref e with
    | some z => .ok d z
    | none => .no else .no
  | .nx e => if fr = true then .no else match fin ref e with
    | some z => .ok .non z
    | none => .no
  | .er x => .er x
  | _ => .no
/-- n slots -/
def fnD (n : Nat) (ref : Option Nat) (fr : Bool) (b : Ev → Out) (ds : List D) : FOut := outF ref fr (b (stE ref 0 ds ++ List.replicate (n - ds.length) Sl.u))

/-! ### statements -/
def SPost (X : Cx) (c : C0) (W : WX) (F : Hp) (De : Ends) : Out → Prop
  | .nx env' => ∀ σ' H' F', Sim X.K c σ' H' F' env' → Same F F' → De.nx σ' H'
  | .rt d env' => ∀ v σ' H' F', Sim X.K c σ' H' F' env' → Same F F' → Rp X.K F' v d → De.rt v H'
  | .rf d env' => ∀ p σ' H' F', Sim X.K c σ' H' F' env' → Same F F' → Fresh c σ' H' F' env' p → OwnAt X.K F' (H' p) d → De.rt (.ref p) H'
  | .bk env' => ∀ σ' H' F', Sim X.K c σ' H' F' env' → Same F F' → De.bk σ' H'
  | .ct env' => ∀ σ' H' F', Sim X.K c σ' H' F' env' → Same F F' → De.ct σ' H'
  | .er x => ∀ σ' H', Away c H' → W (clsV X.mg x) none σ' H'
  | .no => False
theorem SPost.mono {X : Cx} {c : C0} {W : WX} {F F' : Hp} {De : Ends} {o : Out} (h : SPost X c W F De o) (e : Same F F') : SPost X c W F' De o := by
  cases o with
  | nx env' => exact fun σ' H' F1 S s => h σ' H' F1 S (e.trans s)
  | rt d env' => exact fun v σ' H' F1 S s => h v σ' H' F1 S (e.trans s)
  | rf d env' => exact fun v σ' H' F1 S s => h v σ' H' F1 S (e.trans s)
  | bk env' => exact fun σ' H' F1 S s => h σ' H' F1 S (e.trans s)
  | ct env' => exact fun σ' H' F1 S s => h σ' H' F1 S (e.trans s)
  | er x => exact h
  | no => exact h
def SSem (X : Cx) (W : WX) (t : TS) (f : Ev → Out) : Prop := ∀ c σ H F env De, Stm c → Sim X.K c σ H F env → SPost X c W F De (f env) → t De σ H
structure SOk (X : Cx) (W : WX) (st : Stmt) (f : Ev → Out) : Prop where
  ex : ∃ t, PS X st t ∧ SSem X W t f
structure SsOk (X : Cx) (W : WX) (st : List Stmt) (f : Ev → Out) : Prop where
  ex : ∃ t, PSs X st t ∧ SSem X W t f

/-- from an expression's end to a statement's -/
theorem post_out {α : Type} {X : Cx} {c : C0} {W : WX} {σ : St} {F : Hp} {De : Ends} {R : α → Ev → Hp → Hp → Prop} {x : Rx α} {g : α → Ev → Out} (p : SPost X c W F De (x.out g))
    (k : ∀ a env' H' F', Sim X.K c σ H' F' env' → Same F F' → SPost X c W F' De (g a env') → R a env' H' F') : Post X c W σ F R x := by
  cases x with
  | ok a env' => exact fun H' F' S s => k a env' H' F' S s (SPost.mono p s)
  | er x => exact fun H' h => p σ H' h
  | no => exact p

section
variable {X : Cx} {W : WX} {e : Expr} {st : Stmt} {rest body : List Stmt}

/-! ### stores -/
def sSet (i : Nat) (f : Ev → Rx LV) : Ev → Out := fun env => (f env).out fun x e1 => match x with
  | .v d => .nx (e1.set i (.p d))
  | .s _ => .no
def sSetO (i : Nat) (f : Ev → Rx D) : Ev → Out := fun env => (f env).out fun d e1 => .nx (e1.set i (.o d))
theorem sok_asg {i : Nat} {t : TE} {f : Ev → Rx LV} (h1 : PS X st (tAsg t (gName i))) (h2 : ESem X W t f) : SOk X W st (sSet i f) := by
  refine ⟨_, h1, fun c σ H F env De hc S p => h2 c σ H F env _ S (post_out p fun x e1 H1 F1 S1 s1 p1 => fun v hv => ?_)⟩
  cases x with
  | v d => exact p1 _ _ _ (S1.setP hv) (Same.refl _)
  | s j => exact p1.elim
theorem sok_asgO {i : Nat} {t : TE} {f : Ev → Rx D} (h1 : PS X st (tAsg t (gName i))) (h2 : FSem X W t f) : SOk X W st (sSetO i f) := by
  refine ⟨_, h1, fun c σ H F env De hc S p => h2 c σ H F env _ S (post_out p fun x e1 H1 F1 S1 s1 p1 => fun v fr ow => ?_)⟩
  exact p1 _ _ _ (S1.setO fr hc ow) (Same.refl _)
theorem sok_set {i : Nat} {f : Ev → Rx LV} (hp : ∀ {t}, PE X e t → PS X st (tAsg t (gName i))) (h : EOk X W e f) : SOk X W st (sSet i f) := let ⟨_, h1, h2⟩ := h.ex; sok_asg (hp h1) h2
theorem sok_setO {i : Nat} {f : Ev → Rx D} (hp : ∀ {t}, PE X e t → PS X st (tAsg t (gName i))) (h : FOk X W e f) : SOk X W st (sSetO i f) := let ⟨_, h1, h2⟩ := h.ex; sok_asgO (hp h1) h2

/-! ### targets -/
def Alike (ts : List Nat) (σ σ' : St) : Prop := σ'.length = σ.length ∧ ∀ i : Nat, i ∉ ts → σ'[i]? = σ[i]?
def GSem (X : Cx) (g : TG) (gf : D → Ev → Option Ev) (ts : List Nat) : Prop := ∀ c σ H F env v d env' (Q : St → Hp → Prop), Sim X.K c σ H F env → Rp X.K F v d → gf d env = some env' → (∀ σ', Sim X.K c σ' H F env' → Alike ts σ σ' → Q σ' H) → g v σ H Q
def GsSem (X : Cx) (g : TGs) (gf : List D → Ev → Option Ev) (ts : List Nat) : Prop := ∀ c σ H F env vs ds env' (Q : St → Hp → Prop), Sim X.K c σ H F env → RpL X.K F vs ds → gf ds env = some env' → (∀ σ', Sim X.K c σ' H F env' → Alike ts σ σ' → Q σ' H) → g vs σ H Q
structure GOk (X : Cx) (tg : Expr) (gf : D → Ev → Option Ev) (ts : List Nat) : Prop where
  ex : ∃ g, PG X tg g ∧ GSem X g gf ts
structure GsOk (X : Cx) (tgs : List Expr) (gf : List D → Ev → Option Ev) (ts : List Nat) : Prop where
  ex : ∃ g, PGs X tgs g ∧ GsSem X g gf ts
def gN (i : Nat) : D → Ev → Option Ev := fun d env => some (env.set i (.p d))
theorem gok_name {tg : Expr} {i : Nat} (h : PG X tg (gName i)) : GOk X tg (gN i) [i] := ⟨_, h, fun c σ H F env v d env' Q S r e k => by
  cases e
  exact k _ (S.setP r) ⟨by simp, fun j hj => List.getElem?_set_ne (fun z => hj (by simp [z]))⟩⟩
def gsNil : List D → Ev → Option Ev := fun ds env => match ds with
  | [] => some env
  | _ => none
def gsCons (g : D → Ev → Option Ev) (gs : List D → Ev → Option Ev) : List D → Ev → Option Ev := fun ds env => match ds with
  | d :: r => (g d env).bind (gs r)
  | [] => none
theorem gsok_nil : GsOk X [] gsNil [] := ⟨_, pgs_nil, fun c σ H F env vs ds env' Q S r e k => by
  cases r with
  | nil => cases e; exact ⟨rfl, k σ S ⟨rfl, fun _ _ => rfl⟩⟩
  | cons _ _ => cases e⟩
theorem gsok_cons {tg : Expr} {tgs : List Expr} {g : D → Ev → Option Ev} {gs : List D → Ev → Option Ev} {ts us : List Nat} (h : GOk X tg g ts) (hs : GsOk X tgs gs us) (he : (assignEach (tg :: tgs) X.env).map (·.2) = assign tg X.env :: (assignEach tgs X.env).map (·.2) := by rfl) : GsOk X (tg :: tgs) (gsCons g gs) (ts ++ us) := by
  obtain ⟨t, h1, h2⟩ := h.ex
  obtain ⟨u, u1, u2⟩ := hs.ex
  refine ⟨_, pgs_cons h1 u1 he, fun c σ H F env vs ds env' Q S r e k => ?_⟩
  cases r with
  | nil => cases e
  | cons r rs =>
    replace e : (g _ env).bind (gs _) = some env' := e
    rename_i v vs d ds
    cases q : g d env with
    | none => rw [q] at e; cases e
    | some e1 =>
      rw [q] at e
      exact ⟨v, vs, rfl, h2 c σ H F env v d e1 _ S r q fun σ1 S1 a1 => u2 c σ1 H F e1 vs ds env' Q S1 rs e fun σ2 S2 a2 => k σ2 S2 ⟨a2.1.trans a1.1, fun i hi => (a2.2 i fun z => hi (List.mem_append_right _ z)).trans (a1.2 i fun z => hi (List.mem_append_left _ z))⟩⟩
def gT (n : Nat) (gs : List D → Ev → Option Ev) : D → Ev → Option Ev := fun d env => match d with
  | .tup l => if l.length = n then gs l env else none
  | _ => none
theorem gok_tup {tg : Expr} {tgs : List Expr} {n : Nat} {gs : List D → Ev → Option Ev} {ts : List Nat} (hp : ∀ {t}, PGs X tgs t → PG X tg (gTup X.K n t)) (h : GsOk X tgs gs ts) : GOk X tg (gT n gs) ts := by
  obtain ⟨t, h1, h2⟩ := h.ex
  refine ⟨_, hp h1, fun c σ H F env v d env' Q S r e k => ?_⟩
  unfold gT at e
  split at e
  · rename_i l
    split at e
    · rename_i hl
      cases r with
      | tup hq hr => exact ⟨_, _, rfl, same_t S.sub hq, by rw [hr.length]; exact hl, h2 c σ H F env _ l env' Q S hr e k⟩
    · cases e
  · cases e
def sAsg (g : D → Ev → Option Ev) (f : Ev → Rx LV) : Ev → Out := fun env => (f env).out fun x e1 => match x with
  | .v d => match g d e1 with
    | some e2 => .nx e2
    | none => .no
  | .s _ => .no
theorem sok_asgG {tg : Expr} {g : D → Ev → Option Ev} {ts : List Nat} {f : Ev → Rx LV} (hp : ∀ {t u}, PE X e t → PG X tg u → PS X st (tAsg t u)) (hg : GOk X tg g ts) (h : EOk X W e f) : SOk X W st (sAsg g f) := by
  obtain ⟨t, h1, h2⟩ := h.ex
  obtain ⟨u, u1, u2⟩ := hg.ex
  refine ⟨_, hp h1 u1, fun c σ H F env De hc S p => h2 c σ H F env _ S (post_out p fun x e1 H1 F1 S1 s1 p1 => fun v hv => ?_)⟩
  cases x with
  | v d =>
    replace p1 : SPost X c W F1 De (match g d e1 with
      | some e2 => Out.nx e2
      | none => .no) := p1
    cases q : g d e1 with
    | none => rw [q] at p1; exact p1.elim
    | some e2 =>
      rw [q] at p1
      exact u2 c σ H1 F1 e1 v d e2 De.nx S1 hv q fun σ' S' _ => p1 σ' H1 F1 S' (Same.refl _)
  | s j => exact p1.elim
/-- a, b = e1, e2 without a tuple -/
@[simp] def parF (i j : Nat) : List LV → Ev → Out
  | [.v d, .v d'], e1 => .nx ((e1.set i (.p d)).set j (.p d'))
  | _, _ => .no
def sPar (i j : Nat) (f : Ev → Rx (List LV)) : Ev → Out := fun env => (f env).out (parF i j)
theorem parF_ok {X : Cx} {W : WX} {i j : Nat} {c : C0} {σ : St} {H F : Hp} {env : Ev} {De : Ends} (S : Sim X.K c σ H F env) : ∀ {vs : List V} {xs : List LV}, SPost X c W F De (parF i j xs env) → Paired (LRp X.K F σ) vs xs → ∃ v w, vs = [v, w] ∧ De.nx ((σ.set i (some v)).set j (some w)) H
  | _, [.v d, .v d'], p, .cons r1 (.cons r2 .nil) => ⟨_, _, rfl, p _ _ _ ((S.setP r1).setP r2) (Same.refl _)⟩
  | _, [], p, _ => p.elim
  | _, [.v _], p, _ => p.elim
  | _, .s _ :: _, p, _ => p.elim
  | _, .v _ :: .s _ :: _, p, _ => p.elim
  | _, .v _ :: .v _ :: _ :: _, p, _ => p.elim
theorem sok_par {i j : Nat} {es : List Expr} {f : Ev → Rx (List LV)} (hp : ∀ {t}, PA X es t → PS X st (tPar i j t)) (h : AOk X W es f) : SOk X W st (sPar i j f) := by
  obtain ⟨t, h1, h2⟩ := h.ex
  refine ⟨_, hp h1, fun c σ H F env De hc S p => h2 c σ H F env _ S (post_out p fun xs e1 H1 F1 S1 s1 p1 => fun vs hv => ?_)⟩
  exact parF_ok S1 p1 hv

/-! ### simple statements -/
def sDrop (f : Ev → Rx LV) : Ev → Out := fun env => (f env).out fun _ e1 => .nx e1
theorem sok_drop {f : Ev → Rx LV} (hp : ∀ {t}, PE X e t → PS X st (tDrop t)) (h : EOk X W e f) : SOk X W st (sDrop f) := by
  obtain ⟨t, h1, h2⟩ := h.ex
  refine ⟨_, hp h1, fun c σ H F env De hc S p => h2 c σ H F env _ S (post_out p fun x e1 H1 F1 S1 s1 p1 => fun v hv => ?_)⟩
  exact p1 _ _ _ S1 (Same.refl _)
def sRet (f : Ev → Rx LV) : Ev → Out := fun env => (f env).out fun x e1 => match x with
  | .v d => .rt d e1
  | .s _ => .no
theorem sok_ret {f : Ev → Rx LV} {pos : Pos} (h : EOk X W e f) : SOk X W (.Return (some e) pos) (sRet f) := by
  obtain ⟨t, h1, h2⟩ := h.ex
  refine ⟨_, ps_ret h1, fun c σ H F env De hc S p => h2 c σ H F env _ S (post_out p fun x e1 H1 F1 S1 s1 p1 => fun v hv => ?_)⟩
  cases x with
  | v d => exact p1 _ _ _ _ S1 (Same.refl _) hv
  | s j => exact p1.elim
def sRetF (f : Ev → Rx D) : Ev → Out := fun env => (f env).out fun d e1 => .rf d e1
theorem sok_retF {f : Ev → Rx D} {pos : Pos} (h : FOk X W e f) : SOk X W (.Return (some e) pos) (sRetF f) := by
  obtain ⟨t, h1, h2⟩ := h.ex
  refine ⟨_, ps_ret h1, fun c σ H F env De hc S p => h2 c σ H F env _ S (post_out p fun x e1 H1 F1 S1 s1 p1 => fun v fr ow => ?_)⟩
  exact p1 _ _ _ _ S1 (Same.refl _) fr ow
def sRetN : Ev → Out := fun env => .rt .non env
theorem sok_retN {pos : Pos} : SOk X W (.Return none pos) sRetN := ⟨_, ps_retN, fun c σ H F env De hc S p => p _ _ _ _ S (Same.refl _) .non⟩
def sNx : Ev → Out := fun env => .nx env
def sBk : Ev → Out := fun env => .bk env
def sCt : Ev → Out := fun env => .ct env
theorem sok_pass {pos : Pos} : SOk X W (.Pass pos) sNx := ⟨_, ps_pass, fun c σ H F env De hc S p => p _ _ _ S (Same.refl _)⟩
theorem sok_break {pos : Pos} : SOk X W (.Break pos) sBk := ⟨_, ps_break, fun c σ H F env De hc S p => p _ _ _ S (Same.refl _)⟩
theorem sok_continue {pos : Pos} : SOk X W (.Continue pos) sCt := ⟨_, ps_continue, fun c σ H F env De hc S p => p _ _ _ S (Same.refl _)⟩
/-- blocks -/
def sSeq (f g : Ev → Out) : Ev → Out := fun env => match f env with
  | .nx e => g e
  | o => o
theorem ssok_nil : SsOk X W [] sNx := ⟨_, pss_nil, fun c σ H F env De hc S p => p _ _ _ S (Same.refl _)⟩
theorem ssok_one {f : Ev → Out} (h : SOk X W st f) : SsOk X W [st] f := let ⟨_, h1, h2⟩ := h.ex; ⟨_, pss_one h1, h2⟩
theorem ssok_cons {f g : Ev → Out} (h : SOk X W st f) (hs : SsOk X W rest g) : SsOk X W (st :: rest) (sSeq f g) := by
  obtain ⟨t, h1, h2⟩ := h.ex
  obtain ⟨u, u1, u2⟩ := hs.ex
  refine ⟨_, pss_cons h1 u1, fun c σ H F env De hc S p => h2 c σ H F env _ hc S ?_⟩
  unfold sSeq at p
  cases q : f env with
  | nx e1 =>
    rw [q] at p
    exact fun σ1 H1 F1 S1 s1 => u2 c σ1 H1 F1 e1 De hc S1 (SPost.mono p s1)
  | rt d e1 => rw [q] at p; exact p
  | rf d e1 => rw [q] at p; exact p
  | bk e1 => rw [q] at p; exact p
  | ct e1 => rw [q] at p; exact p
  | er x => rw [q] at p; exact p
  | no => rw [q] at p; exact p
def sIf (t : Ev → Rx Bool) (f g : Ev → Out) : Ev → Out := fun env => (t env).out fun b e1 => if b = true then f e1 else g e1
theorem sok_if {cnd : Expr} {a b : List Stmt} {pos : Pos} {t : Ev → Rx Bool} {f g : Ev → Out} (ht : TOk X W cnd t) (ha : SsOk X W a f) (hb : SsOk X W b g) : SOk X W (.If cnd a b pos) (sIf t f g) := by
  obtain ⟨u, u1, u2⟩ := ht.ex
  obtain ⟨ta, a1, a2⟩ := ha.ex
  obtain ⟨tb, b1, b2⟩ := hb.ex
  refine ⟨_, ps_if u1 a1 b1, fun c σ H F env De hc S p => u2 c σ H F env _ S (post_out p fun x e1 H1 F1 S1 s1 p1 => ?_)⟩
  cases x with
  | true =>
    show ta De σ H1
    exact a2 c σ H1 F1 e1 De hc S1 p1
  | false =>
    show tb De σ H1
    exact b2 c σ H1 F1 e1 De hc S1 p1
/-- slots forgotten; an object of ours frozen -/
@[simp] def fgt : List Nat → Ev → Ev
  | [], e => e
  | i :: r, e => (fgt r e).set i .u
theorem Sim.fgt {K : PySem.W.Frag} {c : C0} {σ : St} {H F : Hp} {env : Ev} (S : Sim K c σ H F env) : ∀ is, Sim K c σ H F (DL.fgt is env)
  | [] => S
  | i :: r => by
    have S1 := S.fgt r
    refine S1.weak (by rw [S1.len]; simp [DL.fgt]) fun j => ?_
    show (((DL.fgt r env).set i Sl.u)[j]? = some Sl.u ∨ ((DL.fgt r env).set i Sl.u)[j]? = none) ∨ ((DL.fgt r env).set i Sl.u)[j]? = (DL.fgt r env)[j]? ∧ _
    by_cases h : i = j
    · subst h
      refine .inl ?_
      rw [List.getElem?_set]
      simp only [if_true]
      split
      · exact .inl rfl
      · exact .inr rfl
    · exact .inr ⟨by rw [List.getElem?_set_ne h], rfl⟩
def sFg (is : List Nat) (f : Ev → Out) : Ev → Out := fun env => match f env with
  | .nx e => .nx (fgt is e)
  | o => o
theorem ssem_fg {t : TS} {f : Ev → Out} (is : List Nat) (h : SSem X W t f) : SSem X W t (sFg is f) := fun c σ H F env De hc S p => h c σ H F env De hc S (by
  unfold sFg at p
  cases q : f env with
  | nx e1 =>
    rw [q] at p
    exact fun σ1 H1 F1 S1 s1 => p σ1 H1 F1 (S1.fgt is) s1
  | rt d e1 => rw [q] at p; exact p
  | rf d e1 => rw [q] at p; exact p
  | bk e1 => rw [q] at p; exact p
  | ct e1 => rw [q] at p; exact p
  | er x => rw [q] at p; exact p
  | no => rw [q] at p; exact p)
theorem sok_fg {f : Ev → Out} (is : List Nat) (h : SOk X W st f) : SOk X W st (sFg is f) := let ⟨_, h1, h2⟩ := h.ex; ⟨_, h1, ssem_fg is h2⟩
theorem ssok_fg {f : Ev → Out} (is : List Nat) (h : SsOk X W rest f) : SsOk X W rest (sFg is f) := let ⟨_, h1, h2⟩ := h.ex; ⟨_, h1, ssem_fg is h2⟩
@[simp] def frz (i : Nat) (e : Ev) : Ev := match e[i]? with
  | some (.o d) => e.set i (.p d)
  | _ => e
def sFz (i : Nat) (f : Ev → Out) : Ev → Out := fun env => f (frz i env)
theorem sok_fz {f : Ev → Out} (i : Nat) (h : SOk X W st f) : SOk X W st (sFz i f) := let ⟨t, h1, h2⟩ := h.ex; ⟨t, h1, fun c σ H F env De hc S p => by
  unfold sFz frz at p
  split at p
  · rename_i d h
    obtain ⟨F', S', s'⟩ := S.frz hc h
    exact h2 c σ H F' _ De hc S' (SPost.mono p s')
  · exact h2 c σ H F env De hc S p⟩

/-! ### what a loop walks -/
/-- a turn's item: the heap as it was, or one new object more -/
def Grown (H F H' F' : Hp) : Prop := (H' = H ∧ F' = F) ∨ ∃ p o, H p = none ∧ NT o ∧ H' = upd H p o ∧ F' = upd F p o
theorem Grown.same {K : PySem.W.Frag} {c : C0} {σ : St} {H F H' F' : Hp} {env : Ev} (S : Sim K c σ H F env) (g : Grown H F H' F') : Sim K c σ H' F' env ∧ Same F F' := by
  rcases g with ⟨rfl, rfl⟩ | ⟨p, o, hp, ho, rfl, rfl⟩
  · exact ⟨S, Same.refl _⟩
  · exact ⟨S.alloc hp ho, same_new (S.sub.free hp)⟩
structure Walks (K : PySem.W.Frag) (F : Hp) (J : It) (items : List D) : Prop where
  ex : ∃ G Y, Walk J items.length G Y ∧ (∀ H, Same F H → G H) ∧ ∀ i d H x H' F1, items[i]? = some d → Same F F1 → Same F1 H → Y i H x H' → ∃ F', Grown H F1 H' F' ∧ Rp K F' x d
def ISem (X : Cx) (W : WX) (wi : TI) (f : Ev → Rx (List D)) : Prop := ∀ c σ H F env (R : It → Hp → Prop), Sim X.K c σ H F env → Post X c W σ F (fun items env' H' F' => ∀ J, Walks X.K F' J items → R J H') (f env) → wi σ H R
structure IOk (X : Cx) (W : WX) (tg it : Expr) (f : Ev → Rx (List D)) : Prop where
  ex : ∃ wi, PI X tg it wi ∧ ISem X W wi f

def forL (g : D → Ev → Option Ev) (b : Ev → Out) : List D → Ev → Out
  | [], env => .nx env
  | d :: ds, env => match g d env with
    | none => .no
    | some e1 => match b e1 with
      | .nx e2 => forL g b ds e2
      | .ct e2 => forL g b ds e2
      | .bk e2 => .nx e2
      | o => o
def sFor (it : Ev → Rx (List D)) (g : D → Ev → Option Ev) (b : Ev → Out) : Ev → Out := fun env => (it env).out fun items e1 => forL g b items e1
theorem ssem_for {wi : TI} {g : TG} {tb : TS} {it : Ev → Rx (List D)} {gf : D → Ev → Option Ev} {ts : List Nat} {b : Ev → Out} (hi : ISem X W wi it) (hg : GSem X g gf ts) (hb : SSem X W tb b) : SSem X W (tFor wi g tb) (sFor it gf b) := fun c σ H F env De hc S p => by
  refine hi c σ H F env _ S (post_out p fun items e1 H1 F1 S1 s1 p1 => fun J wk => ?_)
  obtain ⟨G, Y, w, hG, hY⟩ := wk.ex
  refine for_it w (fun i σ' H' => ∃ F' env', Sim X.K c σ' H' F' env' ∧ Same F1 F' ∧ SPost X c W F' De (forL gf b (items.drop i) env')) ⟨F1, e1, S1, Same.refl _, p1⟩ (fun i σ' H' _ ⟨F', env', S', s', _⟩ => hG H' (s'.trans S'.sub)) ?_ ?_
  · rintro i x σ' H' H2 hi ⟨F', env', S', s', p'⟩ hy
    have hd : items.drop i = items[i] :: items.drop (i + 1) := (List.drop_eq_getElem_cons hi)
    obtain ⟨F2, gr, rx⟩ := hY i items[i] H' x H2 F' (List.getElem?_eq_getElem hi) s' S'.sub hy
    obtain ⟨S2, s2⟩ := gr.same S'
    rw [hd] at p'
    unfold forL at p'
    cases q : gf items[i] env' with
    | none => simp only [q] at p'; exact p'.elim
    | some e2 =>
      simp only [q] at p'
      refine hg c σ' H2 F2 env' x items[i] e2 _ S2 rx q fun σ3 S3 _ => ?_
      refine hb c σ3 H2 F2 e2 _ hc S3 ?_
      cases q2 : b e2 with
      | nx e3 =>
        simp only [q2] at p'
        exact fun σ4 H4 F4 S4 s4 => ⟨F4, e3, S4, (s'.trans s2).trans s4, SPost.mono p' (s2.trans s4)⟩
      | ct e3 =>
        simp only [q2] at p'
        exact fun σ4 H4 F4 S4 s4 => ⟨F4, e3, S4, (s'.trans s2).trans s4, SPost.mono p' (s2.trans s4)⟩
      | bk e3 => simp only [q2] at p'; exact fun σ4 H4 F4 S4 s4 => p' σ4 H4 F4 S4 (s2.trans s4)
      | rt d e3 => simp only [q2] at p'; exact fun v σ4 H4 F4 S4 s4 => p' v σ4 H4 F4 S4 (s2.trans s4)
      | rf d e3 => simp only [q2] at p'; exact fun v σ4 H4 F4 S4 s4 => p' v σ4 H4 F4 S4 (s2.trans s4)
      | er x => simp only [q2] at p'; exact p'
      | no => simp only [q2] at p'; exact p'.elim
  · rintro σ' H' ⟨F', env', S', s', p'⟩
    rw [List.drop_length] at p'
    exact p' σ' H' F' S' (Same.refl _)
theorem sok_for {tg it : Expr} {pos : Pos} {f : Ev → Rx (List D)} {gf : D → Ev → Option Ev} {ts : List Nat} {b : Ev → Out} (hp : PassesOwn (model X.prog X.w) X.A X.env X.xe) (hcal : X.calm = true) (hi : IOk X W tg it f) (hg : GOk X tg gf ts) (hb : SsOk X W body b)
    (hs : ∀ x, foldedSetIterable it X.env x = pure x := by intro _; rfl) : SOk X W (.For tg it body [] pos) (sFor f gf b) := by
  obtain ⟨wi, i1, i2⟩ := hi.ex
  obtain ⟨g, g1, g2⟩ := hg.ex
  obtain ⟨tb, b1, b2⟩ := hb.ex
  exact ⟨_, ps_for hp hcal i1 g1 b1 hs, ssem_for i2 g2 b2⟩
def whL (t : Ev → Rx Bool) (b : Ev → Out) : Nat → Ev → Out
  | 0, _ => .no
  | n + 1, env => (t env).out fun k e1 => if k = true then match b e1 with
      | .nx e2 => whL t b n e2
      | .ct e2 => whL t b n e2
      | .bk e2 => .nx e2
      | o => o
    else .nx e1
theorem ssem_while {tc : TT} {tb : TS} {t : Ev → Rx Bool} {b : Ev → Out} (n : Nat) (ht : TSem X W tc t) (hb : SSem X W tb b) : SSem X W (tWhile tc tb) (whL t b n) := fun c σ H F env De hc S p => by
  refine ⟨fun m σ' H' => ∃ F' env', Sim X.K c σ' H' F' env' ∧ Same F F' ∧ SPost X c W F' De (whL t b m env'), ⟨n, F, env, S, Same.refl _, p⟩, ?_⟩
  rintro m σ' H' ⟨F', env', S', s', p'⟩
  cases m with
  | zero => exact p'.elim
  | succ m =>
    refine ht c σ' H' F' env' _ S' (post_out p' fun k e1 H1 F1 S1 s1 p1 => ?_)
    cases k with
    | false => exact p1 _ _ _ S1 (Same.refl _)
    | true =>
      replace p1 : SPost X c W F1 De (match b e1 with
        | .nx e2 => whL t b m e2
        | .ct e2 => whL t b m e2
        | .bk e2 => .nx e2
        | o => o) := p1
      refine ⟨fun σ4 H4 => ∃ F' env', Sim X.K c σ4 H4 F' env' ∧ Same F F' ∧ SPost X c W F' De (whL t b m env'), fun σ4 H4 z => ⟨m, Nat.lt_succ_self m, z⟩, ?_⟩
      refine hb c σ' H1 F1 e1 _ hc S1 ?_
      cases q2 : b e1 with
      | nx e3 =>
        simp only [q2] at p1
        exact fun σ4 H4 F4 S4 s4 => ⟨F4, e3, S4, (s'.trans s1).trans s4, SPost.mono p1 s4⟩
      | ct e3 =>
        simp only [q2] at p1
        exact fun σ4 H4 F4 S4 s4 => ⟨F4, e3, S4, (s'.trans s1).trans s4, SPost.mono p1 s4⟩
      | bk e3 => simp only [q2] at p1; exact p1
      | rt d e3 => simp only [q2] at p1; exact p1
      | rf d e3 => simp only [q2] at p1; exact p1
      | er x => simp only [q2] at p1; exact p1
      | no => simp only [q2] at p1; exact p1.elim
theorem sok_while {cnd : Expr} {pos : Pos} {t : Ev → Rx Bool} {b : Ev → Out} (n : Nat) (hp : PassesOwn (model X.prog X.w) X.A X.env X.xe) (ht : TOk X W cnd t) (hb : SsOk X W body b) : SOk X W (.While cnd body [] pos) (whL t b n) := by
  obtain ⟨tc, i1, i2⟩ := ht.ex
  obtain ⟨tb, b1, b2⟩ := hb.ex
  exact ⟨_, ps_while hp i1 b1, ssem_while n i2 b2⟩
end
end DL

namespace DL
open PySem PySem.Spec PyProof.Rows L2
variable [Tab]

/-! ### a def keeps its promise -/
theorem stE_get (ref : Option Nat) : ∀ (ds : List D) (j i : Nat), (stE ref j ds)[i]? = (ds[i]?).map fun d => if ref = some (j + i) then Sl.r d else Sl.p d
  | [], _, _ => by simp [stE]
  | d :: ds, j, 0 => by simp [stE]
  | d :: ds, j, i + 1 => by
    show (stE ref (j + 1) ds)[i]? = (ds[i]?).map _
    rw [stE_get ref ds (j + 1) i]
    have : j + 1 + i = j + (i + 1) := by omega
    rw [this]
theorem stE_len (ref : Option Nat) : ∀ (ds : List D) (j : Nat), (stE ref j ds).length = ds.length
  | [], _ => rfl
  | d :: ds, j => by
    show (stE ref (j + 1) ds).length + 1 = ds.length + 1
    rw [stE_len ref ds (j + 1)]
theorem env0_get {ref : Option Nat} {ds : List D} {k i : Nat} {s : Sl} (h : (stE ref 0 ds ++ List.replicate k Sl.u)[i]? = some s) (hs : s ≠ .u) : ∃ d, ds[i]? = some d ∧ s = if ref = some i then Sl.r d else Sl.p d := by
  by_cases hi : i < (stE ref 0 ds).length
  · rw [List.getElem?_append_left hi, stE_get] at h
    cases q : ds[i]? with
    | none => rw [q] at h; cases h
    | some d =>
      rw [q] at h
      simp only [Option.map_some, Option.some.injEq, Nat.zero_add] at h
      exact ⟨d, rfl, h.symm⟩
  · rw [List.getElem?_append_right (by omega), List.getElem?_replicate] at h
    split at h
    · cases h; exact absurd rfl hs
    · cases h
theorem start_get {N : List Str} {vs : List V} {i : Nat} {v : V} (h : vs[i]? = some v) : (L2.start N vs)[i]? = some (some v) := by
  have hi : i < vs.length := (List.getElem?_eq_some_iff.mp h).1
  unfold L2.start
  rw [List.getElem?_append_left (by simpa using hi), List.getElem?_map, h]
  rfl
theorem sim_start {K : PySem.W.Frag} {ref : Option Nat} {H F : Hp} {vs : List V} {ds : List D} {N : List Str} (hF : Same F H) (tb : TabI H F) (ha : ArgRp K ref H F vs ds) :
    Sim K ⟨H, F, RefA ref vs, RefA ref vs⟩ (L2.start N vs) H F (stE ref 0 ds ++ List.replicate (N.length - ds.length) Sl.u) ∧ Stm ⟨H, F, RefA ref vs, RefA ref vs⟩ := by
  obtain ⟨hl, ha⟩ := ha
  have vget : ∀ {i : Nat} {d : D}, ds[i]? = some d → ∃ v, vs[i]? = some v := fun {i d} h => by
    have hi : i < ds.length := (List.getElem?_eq_some_iff.mp h).1
    exact ⟨vs[i], List.getElem?_eq_getElem (by omega)⟩
  have noO : ∀ {i : Nat} {d : D}, (stE ref 0 ds ++ List.replicate (N.length - ds.length) Sl.u)[i]? ≠ some (Sl.o d) := fun {i d} h => by
    obtain ⟨d', _, h2⟩ := env0_get h (by simp)
    split at h2 <;> cases h2
  have isR : ∀ {i : Nat} {d : D}, Live (stE ref 0 ds ++ List.replicate (N.length - ds.length) Sl.u) i d → ds[i]? = some d ∧ ref = some i := fun {i d} h => by
    rcases h with h | h
    · exact absurd h noO
    · obtain ⟨d', h1, h2⟩ := env0_get h (by simp)
      split at h2
      · rename_i hr
        cases h2
        exact ⟨h1, hr⟩
      · cases h2
  refine ⟨⟨hF, Same.refl _, fun a o e => .inl e, fun a o e _ _ => e, fun a e => e, fun i d h => ?_, fun i d h => ?_, fun i j d d' a h1 h2 n _ => ?_, ?_, tb⟩, fun a h => h, fun a ⟨j, h1, h2⟩ => ?_⟩
  · obtain ⟨d', h1, h2⟩ := env0_get h (by simp)
    split at h2
    · cases h2
    · rename_i hr
      cases h2
      obtain ⟨v, hv⟩ := vget h1
      exact ⟨v, start_get hv, (ha i v d hv h1).2 hr⟩
  · obtain ⟨h1, hr⟩ := isR h
    obtain ⟨v, hv⟩ := vget h1
    obtain ⟨a, rfl, e1, e2⟩ := (ha i v d hv h1).1 hr
    exact ⟨a, start_get hv, e1, .inl ⟨i, hr, hv⟩, ⟨fun z => absurd z noO, fun _ => ⟨i, hr, hv⟩⟩, e2⟩
  · have e1 := (isR h1).2
    have e2 := (isR h2).2
    rw [e1] at e2
    exact absurd (Option.some.inj e2) n
  · unfold L2.start
    simp only [List.length_append, List.length_map, List.length_replicate, stE_len]
    omega
  · have hj : j < vs.length := (List.getElem?_eq_some_iff.mp h2).1
    have h3 : ds[j]? = some ds[j] := List.getElem?_eq_getElem (by omega)
    obtain ⟨b, e, _, ow⟩ := (ha j _ _ h2 h3).1 h1
    obtain ⟨u, e2⟩ := ow.is
    cases e
    show H a ≠ none
    rw [e2]
    exact fun z => nomatch z
theorem fin_rf {K : PySem.W.Frag} {ref : Option Nat} {H F : Hp} {vs : List V} {σ : St} {H' F' : Hp} {e1 : Ev} {z : D} (S : Sim K ⟨H, F, RefA ref vs, RefA ref vs⟩ σ H' F' e1) (hz : fin ref e1 = some z) (j : Nat) (a : Addr) (hj : ref = some j) (ha : vs[j]? = some (.ref a)) :
    F' a = none ∧ OwnAt K F' (H' a) z := by
  subst hj
  unfold fin at hz
  simp only at hz
  split at hz
  · rename_i d hd
    cases hz
    obtain ⟨b, _, h2, _, h4, h5⟩ := S.own j z (.inr hd)
    obtain ⟨j', e1, e2⟩ := h4.2 hd
    cases e1
    have : a = b := by
      rw [ha] at e2
      cases e2
      rfl
    subst this
    exact ⟨h2, h5⟩
  · cases hz
section
variable {P : Program} {w : World} {K : PySem.W.Frag} {mg : Str → Option Value} {base : Heap}
theorem fn_body {qual : Str} {st : Stmt} {f : Addr} {N ps : List Str} {ref : Option Nat} {fr : Bool} {b : Ev → Out} {cdv : Value} {A : Around} {outer : List Env} {s : Shared} {H : Hp} {vs : List V} {Q : VK} {E : XK} (S : FnScope N ps (defScope st)) (h : spD K mg ref fr ps.length (fnD N.length ref fr b) vs H Q E)
    (hb : SsOk (cxOf (L2N.CX P w) P w K mg base N qual (defScope st) f cdv A outer s H E) (fun cls d _ H' => E cls d H') (defBody st) b) :
    ∃ t, PSs (cxOf (L2N.CX P w) P w K mg base N qual (defScope st) f cdv A outer s H E) (defBody st) t ∧ t { nx := fun _ H' => Q .non H', rt := Q } (L2.start N vs) H := by
  obtain ⟨hl, F, ds, hF, tb, ha, hp⟩ := h
  obtain ⟨t, t1, t2⟩ := hb.ex
  obtain ⟨S0, hc⟩ := sim_start (N := N) hF tb ha
  refine ⟨t, t1, t2 ⟨H, F, RefA ref vs, RefA ref vs⟩ _ H F _ _ hc S0 ?_⟩
  unfold fnD at hp
  cases q : b (stE ref 0 ds ++ List.replicate (N.length - ds.length) Sl.u) with
  | nx e1 =>
    rw [q] at hp
    unfold outF at hp
    simp only at hp
    cases fr with
    | true => exact hp.elim
    | false =>
      simp only [Bool.false_eq_true, if_false] at hp
      cases hz : fin ref e1 with
      | none => simp only [hz] at hp; exact hp.elim
      | some z =>
        simp only [hz] at hp
        intro σ' H' F' S' s'
        exact hp .non H' F' ⟨S'.sub, s', S'.new, S'.keep, S'.tb, S'.live, fin_rf S' hz, by rw [if_neg Bool.false_ne_true]; exact .non⟩
  | rt d e1 =>
    rw [q] at hp
    unfold outF at hp
    simp only at hp
    cases fr with
    | true => exact hp.elim
    | false =>
      simp only [Bool.false_eq_true, if_false] at hp
      cases hz : fin ref e1 with
      | none => simp only [hz] at hp; exact hp.elim
      | some z =>
        simp only [hz] at hp
        intro v σ' H' F' S' s' r'
        exact hp v H' F' ⟨S'.sub, s', S'.new, S'.keep, S'.tb, S'.live, fin_rf S' hz, by rw [if_neg Bool.false_ne_true]; exact r'⟩
  | rf d e1 =>
    rw [q] at hp
    unfold outF at hp
    simp only at hp
    cases fr with
    | false => exact hp.elim
    | true =>
      simp only [if_true] at hp
      cases hz : fin ref e1 with
      | none => simp only [hz] at hp; exact hp.elim
      | some z =>
        simp only [hz] at hp
        intro p σ' H' F' S' s' fr' ow
        exact hp (.ref p) H' F' ⟨S'.sub, s', S'.new, S'.keep, S'.tb, S'.live, fin_rf S' hz, by
          rw [if_pos rfl]
          exact ⟨p, rfl, fr'.noF, fr'.noc, ow⟩⟩
  | bk e1 => rw [q] at hp; exact hp.elim
  | ct e1 => rw [q] at hp; exact hp.elim
  | er x =>
    rw [q] at hp
    intro σ' H' h'
    exact hp H' h'.1 h'.2.1 h'.2.2
  | no => rw [q] at hp; exact hp.elim
theorem fn_okD {x qual : Str} {st : Stmt} {f : Addr} {fd : FuncData} {N ps : List Str} {k : Nat} {ref : Option Nat} {fr : Bool} {b : Ev → Out} (Fn : L2.Fun K x qual st f fd) (S : FnScope N ps (defScope st))
    (hb : ∀ (cdv : Value) (A : Around) (outer : List Env) (s : Shared) (H : Hp) (E : XK), Room k (A.deeper (envOfC qual (defScope st) s.heap.objs.size f cdv)) →
      SsOk (cxOf (L2N.CX P w) P w K mg base N qual (defScope st) f cdv A outer s H E) (fun cls d _ H' => E cls d H') (defBody st) b) :
    FnOk P w K mg base (L2N.CX P w) (k + 1) f fd ps (spD K mg ref fr ps.length (fnD N.length ref fr b)) := by
  obtain ⟨oc, od, kV, doc, pm, an, cdv0, ct, osl, rfl, lk, hcd⟩ := Fn.ex
  refine fn_of lk hcd S (fun vs H Q E h => h.1) fun A outer s H vs Q E hr h => ?_
  exact fn_body S h (hb cdv0 A outer s H E hr)
/-- a def of which nothing is promised -/
theorem fn_no {f : Addr} {fd : FuncData} {ps : List Str} {k : Nat} {ref : Option Nat} {fr : Bool} : FnOk P w K mg base (L2N.CX P w) k f fd ps (spD K mg ref fr ps.length fun _ => .no) :=
  ⟨fun vs H Q E h => h.1, fun A outer s H args us vs Q E _ _ _ _ h => by
    obtain ⟨_, F, ds, _, _, _, hp⟩ := h
    exact hp.elim⟩
end

/-! ### calls -/
@[simp] def arg1 (ref : Option Nat) (j : Nat) (env : Ev) : LV → Option D
  | .v d => if ref = some j then none else some d
  | .s i => if ref = some j then rs env (.s i) else none
@[simp] def argsD (ref : Option Nat) : Nat → Ev → List LV → Option (List D)
  | _, _, [] => some []
  | j, env, x :: r => match arg1 ref j env x, argsD ref (j + 1) env r with
    | some d, some l => some (d :: l)
    | _, _ => none
@[simp] def putR (env : Ev) (i : Nat) (z : D) : Ev := match env[i]? with
  | some (.o _) => env.set i (.o z)
  | some (.r _) => env.set i (.r z)
  | _ => env
@[simp] def endE (ref : Option Nat) (lvs : List LV) (z : D) (env : Ev) : Ev := match ref with
  | none => env
  | some j => match lvs[j]? with
    | some (.s i) => putR env i z
    | _ => env
@[simp] def callX (ref : Option Nat) (fn : List D → FOut) (lvs : List LV) (env : Ev) : Rx D := match argsD ref 0 env lvs with
  | none => .no
  | some ds => match fn ds with
    | .ok d z => .ok d (endE ref lvs z env)
    | .er x => .er x
    | .no => .no
def eCallF (ref : Option Nat) (fn : List D → FOut) (fa : Ev → Rx (List LV)) : Ev → Rx D := fun env => (fa env).bind (callX ref fn)
def eCall (ref : Option Nat) (fn : List D → FOut) (fa : Ev → Rx (List LV)) : Ev → Rx LV := fun env => ((fa env).bind (callX ref fn)).bind fun d e => .ok (.v d) e
theorem argsD_rp {K : PySem.W.Frag} {c : C0} {σ : St} {H F : Hp} {env : Ev} {ref : Option Nat} (S : Sim K c σ H F env) : ∀ {vs : List V} {lvs : List LV} {ds : List D} {j0 : Nat}, Paired (LRp K F σ) vs lvs → argsD ref j0 env lvs = some ds →
    vs.length = ds.length ∧ ∀ (j : Nat) (v : V) (d : D), vs[j]? = some v → ds[j]? = some d → (ref = some (j0 + j) → ∃ i a, lvs[j]? = some (.s i) ∧ σ[i]? = some (some (.ref a)) ∧ v = .ref a ∧ Live env i d) ∧ (ref ≠ some (j0 + j) → Rp K F v d)
  | _, _, _, j0, .nil, e => by
    cases e
    exact ⟨rfl, fun j v d h => by simp at h⟩
  | _, x :: r, ds, j0, .cons (a := v0) h t, e => by
    unfold argsD at e
    cases hq : arg1 ref j0 env x with
    | none => simp only [hq] at e; cases e
    | some d0 =>
      cases q2 : argsD ref (j0 + 1) env r with
      | none => simp only [hq, q2] at e; cases e
      | some l =>
        simp only [hq, q2] at e
        have e' : d0 :: l = ds := Option.some.inj e
        subst e'
        obtain ⟨l1, l2⟩ := argsD_rp S t q2
        refine ⟨by simp [l1], fun j v d hv hd => ?_⟩
        cases j with
        | zero =>
          simp at hv hd
          subst hv hd
          cases x with
          | v d =>
            simp only [arg1] at hq
            split at hq
            · cases hq
            · rename_i hn
              cases hq
              exact ⟨fun hr => absurd (by simpa using hr) hn, fun _ => h⟩
          | s i =>
            simp only [arg1] at hq
            split at hq
            · rename_i hn
              have lv := rs_live hq
              obtain ⟨a, h1, _⟩ := S.own i _ lv
              have h2 : σ[i]? = some (some v0) := h
              rw [h1] at h2
              cases h2
              exact ⟨fun _ => ⟨i, a, rfl, h1, rfl, lv⟩, fun hr => absurd hn (by simpa using hr)⟩
            · cases hq
        | succ j =>
          have := l2 j v d (by simpa using hv) (by simpa using hd)
          have e : j0 + 1 + j = j0 + (j + 1) := by omega
          rw [e] at this
          exact ⟨fun hr => by
            obtain ⟨i, a, q1, q2⟩ := this.1 hr
            exact ⟨i, a, by simpa using q1, q2⟩, this.2⟩
/-- behind a step that changed but objects of our own -/
theorem Sim.after {K : PySem.W.Frag} {c : C0} {σ : St} {H F H' F' : Hp} {env env' : Ev} {A : Addr → Prop} (S : Sim K c σ H F env) (sub : Same F' H') (f0 : Same F F') (new : ∀ a o, F' a = some o → F a = some o ∨ H a = none) (keep : ∀ a o, H a = some o → ¬ A a → NT o → H' a = some o) (tb : TabI H' F')
    (live : ∀ a, H' a = none → H a = none) (hA : ∀ a, A a → ∃ (i : Nat) (d : D), Live env i d ∧ σ[i]? = some (some (V.ref a))) (pure' : ∀ (i : Nat) (d : D), env'[i]? = some (Sl.p d) → env[i]? = some (Sl.p d))
    (own' : ∀ (i : Nat) (d : D), Live env' i d → ∃ d0, Live env i d0 ∧ (env'[i]? = some (Sl.o d) → env[i]? = some (Sl.o d0)) ∧ (env'[i]? = some (Sl.r d) → env[i]? = some (Sl.r d0)) ∧ ∀ a, σ[i]? = some (some (V.ref a)) → OwnAt K F' (H' a) d) (len : env'.length = env.length) : Sim K c σ H' F' env' := by
  have frF : ∀ b o, H b = some o → F b = none → F' b = none := fun b o e n => by
    cases q : F' b with
    | none => rfl
    | some o' =>
      rcases new b o' q with z | z
      · rw [n] at z; cases z
      · rw [e] at z; cases z
  refine ⟨sub, S.f0.trans f0, fun a o e => ?_, fun a o e n nt => ?_, fun a e => S.live a (live a e), fun i e q => ?_, fun i e q => ?_, fun i j e e' a q q' n y => ?_, by rw [len]; exact S.len, tb⟩
  · rcases new a o e with h | h
    · exact S.new a o h
    · exact .inr (S.live a h)
  · refine keep a o (S.keep a o e n nt) (fun hr => ?_) nt
    obtain ⟨i, d0, h4, h3⟩ := hA a hr
    obtain ⟨b, g1, _, g3, _⟩ := S.own i d0 h4
    rw [h3] at g1
    cases g1
    rcases g3 with g3 | g3
    · exact n g3
    · rw [e] at g3; cases g3
  · obtain ⟨v, q1, q2⟩ := S.pure i e (pure' i e q)
    exact ⟨v, q1, q2.mono f0⟩
  · obtain ⟨e0, l0, h1, h2, h3⟩ := own' i e q
    obtain ⟨a, g1, g2, g3, g4, g5⟩ := S.own i e0 l0
    obtain ⟨u, g6⟩ := g5.is
    exact ⟨a, g1, frF a _ g6 g2, g3, ⟨fun y => g4.1 (h1 y), fun y => g4.2 (h2 y)⟩, h3 a g1⟩
  · obtain ⟨e0, l0, _⟩ := own' i e q
    obtain ⟨e1, l1, _⟩ := own' j e' q'
    exact S.apart i j e0 e1 a l0 l1 n y
theorem Sim.called {K : PySem.W.Frag} {c : C0} {σ : St} {H F H' F' : Hp} {env : Ev} {ref : Option Nat} {fr : Bool} {vs : List V} {lvs : List LV} {ds : List D} {v : V} {d z : D} (S : Sim K c σ H F env) (hp : Paired (LRp K F σ) vs lvs) (ha : argsD ref 0 env lvs = some ds)
    (ce : CallEnd K ref fr H F vs H' F' v d z) : Sim K c σ H' F' (endE ref lvs z env) ∧ ∀ (p : Addr), H p = none → ∀ (i : Nat) (d : D), Live (endE ref lvs z env) i d → σ[i]? ≠ some (some (V.ref p)) := by
  obtain ⟨hl, hA⟩ := argsD_rp S hp ha
  have noP : ∀ {env' : Ev}, (∀ (i : Nat) (d : D), Live env' i d → ∃ d0, Live env i d0) → ∀ (p : Addr), H p = none → ∀ (i : Nat) (d : D), Live env' i d → σ[i]? ≠ some (some (V.ref p)) := fun hL p hpn i d l y => by
    obtain ⟨d0, l0⟩ := hL i d l
    obtain ⟨a, g1, _, _, _, g5⟩ := S.own i d0 l0
    obtain ⟨u, g6⟩ := g5.is
    rw [g1] at y
    cases y
    rw [g6] at hpn; cases hpn
  have plain : (∀ a, ¬ RefA ref vs a) → Sim K c σ H' F' env := fun hn => by
    refine S.after (A := fun _ => False) ce.sub ce.f0 ce.new (fun a o e _ nt => ce.keep a o e (hn a) nt) ce.tb ce.live (fun a h => h.elim) (fun i d e => e) (fun i d l => ⟨d, l, fun e => e, fun e => e, fun a e => ?_⟩) rfl
    obtain ⟨b, g1, _, _, _, g5⟩ := S.own i d l
    obtain ⟨u, g6, g7⟩ := g5.isO
    rw [g1] at e
    cases e
    rw [ce.keep a _ g6 (hn a) g7.nt, ← g6]
    exact g5.mono ce.f0
  -- the argument that is handed by reference
  have own : ∀ b, RefA ref vs b → ∃ (j i : Nat) (d0 : D), ref = some j ∧ lvs[j]? = some (.s i) ∧ σ[i]? = some (some (V.ref b)) ∧ Live env i d0 ∧ vs[j]? = some (V.ref b) := fun b ⟨j, h1, h2⟩ => by
    have hj : j < vs.length := (List.getElem?_eq_some_iff.mp h2).1
    obtain ⟨i, a, q1, q2, q3, q4⟩ := (hA j _ ds[j] h2 (List.getElem?_eq_getElem (by omega))).1 (by simpa using h1)
    cases q3
    exact ⟨j, i, _, h1, q1, q2, q4, h2⟩
  cases hr : ref with
  | none =>
    subst hr
    exact ⟨plain fun a ⟨j, h, _⟩ => (by cases h), noP fun i d l => ⟨d, l⟩⟩
  | some j =>
    subst hr
    have bad : (∀ i, lvs[j]? ≠ some (.s i)) → ∀ a, ¬ RefA (some j) vs a := fun h a hr => by
      obtain ⟨j', i, d0, h1, h2, _⟩ := own a hr
      cases h1
      exact h i h2
    unfold endE
    simp only
    cases hx : lvs[j]? with
    | none => exact ⟨plain (bad fun i => by rw [hx]; exact fun z => nomatch z), noP fun i d l => ⟨d, l⟩⟩
    | some x =>
      cases x with
      | v d => exact ⟨plain (bad fun i => by rw [hx]; exact fun z => nomatch z), noP fun i d l => ⟨d, l⟩⟩
      | s i =>
        simp only
        have hjl : j < vs.length := by
          have : j < lvs.length := (List.getElem?_eq_some_iff.mp hx).1
          have e := Paired.length hp
          omega
        obtain ⟨i', a, q1, q2, q3, q4⟩ := (hA j vs[j] ds[j] (List.getElem?_eq_getElem hjl) (List.getElem?_eq_getElem (by omega))).1 (by simp)
        rw [hx] at q1
        cases q1
        have hva : vs[j]? = some (.ref a) := by rw [List.getElem?_eq_getElem hjl, q3]
        have hi : i < env.length := by
          by_cases hi : i < env.length
          · exact hi
          · have y := List.getElem?_eq_none (show env.length ≤ i by omega)
            unfold Live at q4
            rw [y] at q4
            rcases q4 with q4 | q4 <;> cases q4
        have key : ∀ (s0 s1 : Sl), env[i]? = some s0 → ((∃ d0, s0 = .o d0 ∧ s1 = .o z) ∨ ∃ d0, s0 = .r d0 ∧ s1 = .r z) → Sim K c σ H' F' (env.set i s1) ∧ ∀ (p : Addr), H p = none → ∀ (i' : Nat) (d : D), Live (env.set i s1) i' d → σ[i']? ≠ some (some (V.ref p)) := fun s0 s1 h0 hs => by
          have ne01 : (env.set i s1)[i]? = some s1 := List.getElem?_set_self hi
          refine ⟨S.after (A := RefA (some j) vs) ce.sub ce.f0 ce.new ce.keep ce.tb ce.live (fun b hb => ?_) (fun i2 d2 e => ?_) (fun i2 d2 l2 => ?_) (by simp), noP fun i2 d2 l2 => ?_⟩
          · obtain ⟨_, i3, d3, _, _, h3, h4, _⟩ := own b hb
            exact ⟨i3, d3, h4, h3⟩
          · by_cases h : i = i2
            · subst h
              rw [ne01] at e
              rcases hs with ⟨d0, rfl, rfl⟩ | ⟨d0, rfl, rfl⟩ <;> cases e
            · rw [List.getElem?_set_ne h] at e
              exact e
          · by_cases h : i = i2
            · subst h
              have ow := (ce.ref j a rfl hva).2
              rcases hs with ⟨d0, rfl, rfl⟩ | ⟨d0, rfl, rfl⟩
              · have ez : d2 = z := by
                  unfold Live at l2
                  rw [ne01] at l2
                  rcases l2 with l2 | l2 <;> cases l2
                  rfl
                subst ez
                refine ⟨d0, .inl h0, fun _ => h0, fun y => (by rw [ne01] at y; cases y), fun b hb => ?_⟩
                rw [q2] at hb
                cases hb
                exact ow
              · have ez : d2 = z := by
                  unfold Live at l2
                  rw [ne01] at l2
                  rcases l2 with l2 | l2 <;> cases l2
                  rfl
                subst ez
                refine ⟨d0, .inr h0, fun y => (by rw [ne01] at y; cases y), fun _ => h0, fun b hb => ?_⟩
                rw [q2] at hb
                cases hb
                exact ow
            · unfold Live at l2
              rw [List.getElem?_set_ne h] at l2 ⊢
              refine ⟨d2, l2, fun y => y, fun y => y, fun b hb => ?_⟩
              obtain ⟨b', g1, _, _, _, g5⟩ := S.own i2 d2 l2
              obtain ⟨u, g6, g7⟩ := g5.isO
              rw [g1] at hb
              cases hb
              have nr : ¬ RefA (some j) vs b := fun ⟨j', h1, h2⟩ => by
                cases h1
                rw [hva] at h2
                cases h2
                exact S.apart i i2 _ d2 _ q4 l2 h q2 g1
              rw [ce.keep _ _ g6 nr g7.nt, ← g6]
              exact g5.mono ce.f0
          · by_cases h : i = i2
            · subst h; exact ⟨_, q4⟩
            · unfold Live at l2 ⊢
              rw [List.getElem?_set_ne h] at l2
              exact ⟨d2, l2⟩
        unfold putR
        have q4' := q4
        rcases q4' with h4 | h4
        · rw [h4]
          exact key _ _ h4 (.inl ⟨_, rfl, rfl⟩)
        · rw [h4]
          exact key _ _ h4 (.inr ⟨_, rfl, rfl⟩)
section
variable {X : Cx} {W : WX}
theorem call_sem {ref : Option Nat} {fr : Bool} {n : Nat} {fn : List D → FOut} {c : C0} {σ : St} {H F : Hp} {env : Ev} {vs : List V} {lvs : List LV} {R : D → Ev → Hp → Hp → Prop} {Q : VK} (S : Sim X.K c σ H F env) (hn : vs.length = n) (hp : Paired (LRp X.K F σ) vs lvs)
    (p : Post X c W σ F R (callX ref fn lvs env)) (k : ∀ d v z H' F', CallEnd X.K ref fr H F vs H' F' v d z → Sim X.K c σ H' F' (endE ref lvs z env) → (∀ (p : Addr), H p = none → ∀ (i : Nat) (d : D), Live (endE ref lvs z env) i d → σ[i]? ≠ some (some (V.ref p))) → R d (endE ref lvs z env) H' F' → Q v H') :
    spD X.K X.mg ref fr n fn vs H Q (WE W σ) := by
  unfold callX at p
  cases ha : argsD ref 0 env lvs with
  | none => simp only [ha] at p; exact p.elim
  | some ds =>
    simp only [ha] at p
    obtain ⟨hl, hA⟩ := argsD_rp S hp ha
    refine ⟨hn, F, ds, S.sub, S.tb, ⟨hl, fun j v d hv hd => ?_⟩, ?_⟩
    · have := hA j v d hv hd
      rw [Nat.zero_add] at this
      refine ⟨fun hr => ?_, this.2⟩
      obtain ⟨i, a, q1, q2, q3, q4⟩ := this.1 hr
      obtain ⟨b, g1, g2, _, _, g5⟩ := S.own i d q4
      rw [q2] at g1
      cases g1
      exact ⟨a, q3, g2, g5⟩
    · cases q : fn ds with
      | ok d z =>
        simp only [q] at p
        intro v H' F' ce
        obtain ⟨S', nP⟩ := S.called hp ha ce
        exact k d v z H' F' ce S' nP (p H' F' S' ce.f0)
      | er x =>
        simp only [q] at p
        intro H' hk ht hl'
        refine p H' ⟨fun a o e n nt => hk a o (S.keep a o e n nt) (fun ⟨j, h1, h2⟩ => ?_) nt, ht, fun a e => S.live a (hl' a e)⟩
        have hj : j < vs.length := (List.getElem?_eq_some_iff.mp h2).1
        obtain ⟨i, b, q1, q2, q3, q4⟩ := (hA j _ ds[j] h2 (List.getElem?_eq_getElem (by omega))).1 (by simpa using h1)
        cases q3
        obtain ⟨b, g1, _, g3, _⟩ := S.own i _ q4
        rw [q2] at g1
        cases g1
        rcases g3 with g3 | g3
        · exact n g3
        · rw [e] at g3; cases g3
      | no => simp only [q] at p; exact p.elim
theorem paired_len {α β : Type} {R : α → β → Prop} {l : List α} {m : List β} (h : Paired R l m) : l.length = m.length := Paired.length h
variable {k : Nat} {f : Addr} {fd : FuncData} {ps : List Str} {ref : Option Nat} {fn : List D → FOut} {x : Str} {p pos : Pos} {e : Expr} {es : List Expr} {fa : Ev → Rx (List LV)}
theorem esem_call {n : Nat} {t : TA} (ha : ASem X W t fa) (hlen : ∀ env lvs e1, fa env = .ok lvs e1 → lvs.length = n) : ESem X W (tCallS (spD X.K X.mg ref false n fn) (WE W) t) (eCall ref fn fa) := fun c σ H F env Q S p => by
  refine ha c σ H F env _ S ?_
  unfold eCall at p
  cases q : fa env with
  | er x => rw [q] at p; exact p
  | no => rw [q] at p; exact p.elim
  | ok lvs e1 =>
    rw [q] at p
    intro H1 F1 S1 s1 vs hvs
    have p' : Post X c W σ F (fun d env' H' F' => ∀ v, Rp X.K F' v d → Q v H') (callX ref fn lvs e1) := by
      replace p : Post X c W σ F (RE X σ Q) ((callX ref fn lvs e1).bind fun d e => .ok (.v d) e) := p
      cases q2 : callX ref fn lvs e1 with
      | er x => rw [q2] at p; exact p
      | no => rw [q2] at p; exact p
      | ok d e2 => rw [q2] at p; exact p
    refine call_sem (W := W) S1 (by rw [paired_len hvs]; exact hlen env lvs e1 q) hvs (Post.imp p' s1 fun _ _ _ _ _ _ z => z) fun d v z H' F' ce S' nP r => ?_
    exact r v (by have := ce.val; rw [if_neg Bool.false_ne_true] at this; exact this)
theorem fsem_call {n : Nat} {t : TA} (ha : ASem X W t fa) (hlen : ∀ env lvs e1, fa env = .ok lvs e1 → lvs.length = n) : FSem X W (tCallS (spD X.K X.mg ref true n fn) (WE W) t) (eCallF ref fn fa) := fun c σ H F env Q S p => by
  refine ha c σ H F env _ S ?_
  unfold eCallF at p
  cases q : fa env with
  | er x => rw [q] at p; exact p
  | no => rw [q] at p; exact p.elim
  | ok lvs e1 =>
    rw [q] at p
    replace p : Post X c W σ F (RF X c σ Q) (callX ref fn lvs e1) := p
    intro H1 F1 S1 s1 vs hvs
    refine call_sem (W := W) S1 (by rw [paired_len hvs]; exact hlen env lvs e1 q) hvs (Post.imp p s1 fun _ _ _ _ _ _ z => z) fun d v z H' F' ce S' nP r => ?_
    have hv := ce.val
    rw [if_pos rfl] at hv
    obtain ⟨a, rfl, h1, h2, h3⟩ := hv
    refine r a ⟨?_, h1, S1.live a h2, nP a h2⟩ h3
    exact h3.isO
end
/-- how many arguments -/
theorem aNil_len : ∀ env lvs e1, aNil env = .ok lvs e1 → lvs.length = 0 := fun env lvs e1 h => by cases h; rfl
theorem aCons_len {a : Ev → Rx LV} {r : Ev → Rx (List LV)} {n : Nat} (h : ∀ env lvs e1, r env = .ok lvs e1 → lvs.length = n) : ∀ env lvs e1, aCons a r env = .ok lvs e1 → lvs.length = n + 1 := fun env lvs e1 q => by
  unfold aCons at q
  cases q1 : a env with
  | er x => rw [q1] at q; cases q
  | no => rw [q1] at q; cases q
  | ok x e2 =>
    rw [q1] at q
    simp only [Rx.bind_ok] at q
    cases q2 : r e2 with
    | er x => rw [q2] at q; cases q
    | no => rw [q2] at q; cases q
    | ok xs e3 =>
      rw [q2] at q
      cases q
      simp [h _ _ _ q2]
section
variable {X : Cx} {W : WX} {k : Nat} {f : Addr} {fd : FuncData} {ps : List Str} {ref : Option Nat} {fn : List D → FOut} {x : Str} {p pos : Pos} {e : Expr} {es : List Expr} {fa : Ev → Rx (List LV)}
theorem eok_call {n : Nat} (tk : L2N.Takes X W) (G : FnOk X.prog X.w X.K X.mg X.base (L2N.CX X.prog X.w) k f fd ps (spD X.K X.mg ref false n fn)) (hr : Room k X.A) (hg : Gl X x) (hm : X.mg x = some (.ref f)) (hk : PySem.W.keepIn X.K (.ref f) = true) (hb : Binds X.K fd ps [])
    (ha : AOk X W (e :: es) fa) (hlen : ∀ env lvs e1, fa env = .ok lvs e1 → lvs.length = n) (hdb : (x == ("__debug__" : Str)) = false := by decide)
    (he : starEach (e :: es) X.env = (false, eval e X.env) :: starEach es X.env := by rfl) (hpl : (backTo pos (starEach es X.env)).any (·.1) = false := by rfl) : EOk X W (.Call (.Name x p) (e :: es) [] pos) (eCall ref fn fa) := by
  obtain ⟨t, h1, h2⟩ := ha.ex
  exact ⟨_, pe_callS G hr hg hm hk hb (fun σ => L2N.passAt tk σ) h1 hdb he hpl, esem_call h2 hlen⟩
theorem fok_call {n : Nat} (tk : L2N.Takes X W) (G : FnOk X.prog X.w X.K X.mg X.base (L2N.CX X.prog X.w) k f fd ps (spD X.K X.mg ref true n fn)) (hr : Room k X.A) (hg : Gl X x) (hm : X.mg x = some (.ref f)) (hk : PySem.W.keepIn X.K (.ref f) = true) (hb : Binds X.K fd ps [])
    (ha : AOk X W (e :: es) fa) (hlen : ∀ env lvs e1, fa env = .ok lvs e1 → lvs.length = n) (hdb : (x == ("__debug__" : Str)) = false := by decide)
    (he : starEach (e :: es) X.env = (false, eval e X.env) :: starEach es X.env := by rfl) (hpl : (backTo pos (starEach es X.env)).any (·.1) = false := by rfl) : FOk X W (.Call (.Name x p) (e :: es) [] pos) (eCallF ref fn fa) := by
  obtain ⟨t, h1, h2⟩ := ha.ex
  exact ⟨_, pe_callS G hr hg hm hk hb (fun σ => L2N.passAt tk σ) h1 hdb he hpl, fsem_call h2 hlen⟩
end
end DL

namespace DL
open PySem PySem.Spec PyProof.Rows L2
variable [Tab]

/-! ### readings that hang on the function alone -/
def canE (X : Cx) (W : WX) (f : Ev → Rx LV) : TE := fun σ H Q => ∃ c F env, Sim X.K c σ H F env ∧ Post X c W σ F (RE X σ Q) (f env)
def canT (X : Cx) (W : WX) (f : Ev → Rx Bool) : TT := fun σ H Q => ∃ c F env, Sim X.K c σ H F env ∧ Post X c W σ F (RT Q) (f env)
def canG (X : Cx) (gf : D → Ev → Option Ev) (ts : List Nat) : TG := fun v σ H Q => ∃ c F env d env', Sim X.K c σ H F env ∧ Rp X.K F v d ∧ gf d env = some env' ∧ ∀ σ', Sim X.K c σ' H F env' → Alike ts σ σ' → Q σ' H
structure TsOk (X : Cx) (W : WX) (ifs : List Expr) (f : Ev → Rx Bool) : Prop where
  ex : ∃ t, PTs X ifs t ∧ TSem X W t f
section
variable {X : Cx} {W : WX} {e : Expr}
theorem EOk.can {f : Ev → Rx LV} (h : EOk X W e f) : PE X e (canE X W f) := ⟨fun pins s σ H Q I ⟨c, F, env, S, p⟩ => let ⟨t, h1, h2⟩ := h.ex; h1.run pins s σ H Q I (h2 c σ H F env Q S p)⟩
theorem TsOk.can {es : List Expr} {f : Ev → Rx Bool} (h : TsOk X W es f) : PTs X es (canT X W f) := ⟨fun pins s σ H Q I ⟨c, F, env, S, p⟩ => let ⟨t, h1, h2⟩ := h.ex; h1.run pins s σ H Q I (h2 c σ H F env Q S p)⟩
theorem GOk.can {gf : D → Ev → Option Ev} {ts : List Nat} (h : GOk X e gf ts) : PG X e (canG X gf ts) := by
  obtain ⟨g, h1, h2⟩ := h.ex
  refine ⟨fun pins s σ H v u Q I r ⟨c, F, env, d, env', S, hr, he, k⟩ => h1.run pins s σ H v u Q I r (h2 c σ H F env v d env' Q S hr he k)⟩
def tYs : Ev → Rx Bool := fun env => .ok true env
theorem tsok_nil : TsOk X W [] tYs := ⟨_, pts_nil, fun c σ H F env Q S p => p H F S (Same.refl _)⟩
theorem tsok_one {f : Ev → Rx Bool} (h : TOk X W e f) : TsOk X W [e] f := let ⟨t, h1, h2⟩ := h.ex; ⟨t, pts_one h1, h2⟩
end
/-- nothing may be raised within -/
abbrev W0 : WX := fun _ _ _ _ => False
theorem takes_0 {X : Cx} : L2N.Takes X W0 := fun _ _ x => by
  obtain ⟨_, _, _, _, _, _, _, _, _, _, _, _, _, _, _, _, z⟩ := x
  exact z.elim

def Rx.bindN {α β : Type} (x : Rx α) (f : α → Ev → Rx β) : Rx β := match x with
  | .ok a e => f a e
  | _ => .no
@[simp] theorem Rx.bindN_ok {α β : Type} (a : α) (e : Ev) (f : α → Ev → Rx β) : (Rx.ok a e).bindN f = f a e := rfl
theorem Rx.bindN_inv {α β : Type} {x : Rx α} {f : α → Ev → Rx β} {b : β} {e : Ev} (h : x.bindN f = .ok b e) : ∃ a e1, x = .ok a e1 ∧ f a e1 = .ok b e := by
  cases x with
  | ok a e1 => exact ⟨a, e1, rfl, h⟩
  | er x => cases h
  | no => cases h

/-! ### list comprehensions -/
def compL (g : D → Ev → Option Ev) (t : Ev → Rx Bool) (f : Ev → Rx LV) (vs : List Nat) : List D → Ev → List D → Rx (List D)
  | [], env, acc => .ok acc env
  | d :: ds, env, acc => match g d env with
    | none => .no
    | some e1 => (t e1).bindN fun b e2 => if b = true then (f e2).bindN fun x e3 => match x with
          | .v y => if acc.length < LIM then compL g t f vs ds (fgt vs e3) (acc ++ [y]) else .no
          | .s _ => .no
        else compL g t f vs ds (fgt vs e2) acc
@[simp] def rst : List Nat → Ev → Ev → Ev
  | [], _, e => e
  | i :: r, e0, e => (rst r e0 e).set i ((e0[i]?).getD .u)
@[simp] def noLv (vs : List Nat) (e : Ev) : Bool := vs.all fun i => match e[i]? with
  | some (.o _) => false
  | some (.r _) => false
  | _ => true
def lcL (g : D → Ev → Option Ev) (t : Ev → Rx Bool) (f : Ev → Rx LV) (vs : List Nat) (items : List D) (e1 : Ev) : Rx D :=
  if noLv vs e1 = true then (compL g t f vs items (fgt vs e1) []).bindN fun l e2 => .ok (.lst l) (rst vs e1 e2) else .no
def eLc (it : Ev → Rx (List D)) (g : D → Ev → Option Ev) (t : Ev → Rx Bool) (f : Ev → Rx LV) (vs : List Nat) : Ev → Rx D := fun env => (it env).bind (lcL g t f vs)

theorem fgt_len (e : Ev) : ∀ vs, (fgt vs e).length = e.length
  | [] => rfl
  | i :: r => by
    show ((fgt r e).set i Sl.u).length = _
    rw [List.length_set, fgt_len e r]
theorem fgt_in (e : Ev) {j : Nat} : ∀ {vs : List Nat}, j ∈ vs → (fgt vs e)[j]? = some Sl.u ∨ (fgt vs e)[j]? = none
  | [], h => by cases h
  | i :: r, h => by
    show ((fgt r e).set i Sl.u)[j]? = some Sl.u ∨ ((fgt r e).set i Sl.u)[j]? = none
    by_cases hj : i = j
    · subst hj
      rw [List.getElem?_set]
      simp only [if_true]
      split
      · exact .inl rfl
      · exact .inr rfl
    · rw [List.getElem?_set_ne hj]
      exact fgt_in e ((List.mem_cons.mp h).resolve_left fun z => hj z.symm)
theorem fgt_out (e : Ev) {j : Nat} : ∀ {vs : List Nat}, j ∉ vs → (fgt vs e)[j]? = e[j]?
  | [], _ => rfl
  | i :: r, h => by
    show ((fgt r e).set i Sl.u)[j]? = _
    rw [List.getElem?_set_ne (fun z => h (by simp [z]))]
    exact fgt_out e fun z => h (List.mem_cons_of_mem _ z)
theorem rst_len (e0 e : Ev) : ∀ vs, (rst vs e0 e).length = e.length
  | [] => rfl
  | i :: r => by
    show ((rst r e0 e).set i _).length = _
    rw [List.length_set, rst_len e0 e r]
theorem rst_in {e0 e : Ev} (hl : e0.length = e.length) {j : Nat} : ∀ {vs : List Nat}, j ∈ vs → (rst vs e0 e)[j]? = e0[j]?
  | [], h => by cases h
  | i :: r, h => by
    show ((rst r e0 e).set i ((e0[i]?).getD Sl.u))[j]? = _
    by_cases hj : i = j
    · subst hj
      by_cases hi : i < e.length
      · rw [List.getElem?_set_self (by rw [rst_len]; exact hi), List.getElem?_eq_getElem (by omega)]
        rfl
      · rw [List.getElem?_eq_none (by rw [List.length_set, rst_len]; omega), List.getElem?_eq_none (by omega)]
    · rw [List.getElem?_set_ne hj]
      exact rst_in hl ((List.mem_cons.mp h).resolve_left fun z => hj z.symm)
theorem rst_out {e0 e : Ev} {j : Nat} : ∀ {vs : List Nat}, j ∉ vs → (rst vs e0 e)[j]? = e[j]?
  | [], _ => rfl
  | i :: r, h => by
    show ((rst r e0 e).set i _)[j]? = _
    rw [List.getElem?_set_ne (fun z => h (by simp [z]))]
    exact rst_out fun z => h (List.mem_cons_of_mem _ z)
theorem noLv_no {vs : List Nat} {e : Ev} (h : noLv vs e = true) {i : Nat} (hi : i ∈ vs) (d : D) : ¬ Live e i d := fun l => by
  have := List.all_eq_true.mp h i hi
  rcases l with l | l <;> (rw [l] at this; cases this)
theorem wipe_in {σ : St} {j : Nat} : ∀ {vs : List Nat}, j ∈ vs → (wipe σ vs)[j]? = if j < σ.length then some none else none
  | [], h => by cases h
  | i :: r, h => by
    unfold wipe
    by_cases hj : i = j
    · subst hj
      by_cases hi : i < σ.length
      · rw [List.getElem?_set_self (by rw [wipe_length]; exact hi), if_pos hi]
      · rw [List.getElem?_eq_none (by rw [List.length_set, wipe_length]; omega), if_neg hi]
    · rw [List.getElem?_set_ne hj]
      exact wipe_in ((List.mem_cons.mp h).resolve_left fun z => hj z.symm)
section
variable {K : PySem.W.Frag} {c : C0} {σ : St} {H F H' F' : Hp} {env : Ev} {vs : List Nat}
theorem Sim.wiped {σ' : St} (S : Sim K c σ' H F env) (ha : Alike vs σ σ') : Sim K c (wipe σ vs) H F (DL.fgt vs env) := by
  refine S.weak (by rw [wipe_length, fgt_len, ← S.len, ha.1]) fun j => ?_
  by_cases h : j ∈ vs
  · exact .inl (fgt_in env h)
  · exact .inr ⟨fgt_out env h, by rw [wipe_out h, ha.2 j h]⟩
theorem wipe_eq {σ2 : St} (hl : σ2.length = σ.length) (ha : ∀ i : Nat, i ∉ vs → σ2[i]? = (wipe σ vs)[i]?) : wipe σ2 vs = wipe σ vs := by
  apply List.ext_getElem?
  intro j
  by_cases h : j ∈ vs
  · rw [wipe_in h, wipe_in h, hl]
  · rw [wipe_out h, ha j h]
theorem Sim.rst {H0 F0 : Hp} {e0 : Ev} (S0 : Sim K c σ H0 F0 e0) (S : Sim K c (wipe σ vs) H F env) (e : Same F0 F) (hn : noLv vs e0 = true) : Sim K c σ H F (DL.rst vs e0 env) := by
  have hl : e0.length = env.length := by
    rw [← S0.len, ← S.len, wipe_length]
  have lv : ∀ (i : Nat) (d : D), Live (DL.rst vs e0 env) i d → i ∉ vs ∧ Live env i d := fun i d l => by
    by_cases h : i ∈ vs
    · unfold Live at l
      rw [rst_in hl h] at l
      exact absurd l (noLv_no hn h d)
    · unfold Live at l ⊢
      rw [rst_out h] at l
      exact ⟨h, l⟩
  refine ⟨S.sub, S.f0, S.new, S.keep, S.live, fun i d q => ?_, fun i d q => ?_, fun i j d d' a q q' n y => ?_, by rw [rst_len, ← hl, S0.len], S.tb⟩
  · by_cases h : i ∈ vs
    · rw [rst_in hl h] at q
      obtain ⟨v, h1, h2⟩ := S0.pure i d q
      exact ⟨v, h1, h2.mono e⟩
    · rw [rst_out h] at q
      obtain ⟨v, h1, h2⟩ := S.pure i d q
      rw [wipe_out h] at h1
      exact ⟨v, h1, h2⟩
  · obtain ⟨h, q'⟩ := lv i d q
    obtain ⟨a, h1, h2⟩ := S.own i d q'
    rw [wipe_out h] at h1
    rw [rst_out h]
    exact ⟨a, h1, h2⟩
  · obtain ⟨h, q1⟩ := lv i d q
    obtain ⟨h', q1'⟩ := lv j d' q'
    have := S.apart i j d d' a q1 q1' n (by rw [wipe_out h]; exact y)
    rw [wipe_out h'] at this
    exact this
/-- an object that nothing else knows is changed -/
theorem Sim.writeF {p : Addr} {o : HO} (S : Sim K c σ H F env) (f : Fresh c σ H F env p) (ho : IsOwn o := by trivial) : Sim K c σ (upd H p o) F env ∧ Fresh c σ (upd H p o) F env p := by
  obtain ⟨u0, hu0, hu1⟩ := f.there
  refine ⟨⟨fun a u e => ?_, S.f0, S.new, fun a u e n nt => ?_, fun a e => ?_, S.pure, fun i d e => ?_, S.apart, S.len, S.tb.put hu0 hu1⟩, ⟨o, upd_same, ho⟩, f.noF, f.noc, f.nos⟩
  · rw [upd_ne (ne_of_none e f.noF)]; exact S.sub _ _ e
  · rw [upd_ne (ne_of_none e f.noc)]; exact S.keep a u e n nt
  · by_cases h : a = p
    · subst h; rw [upd_same] at e; cases e
    · rw [upd_ne h] at e; exact S.live _ e
  · obtain ⟨a, h1, h2, h3, h3', h4⟩ := S.own i d e
    have ha : a ≠ p := fun z => f.nos i d e (by rw [h1, z])
    exact ⟨a, h1, h2, h3, h3', by rw [upd_ne ha]; exact h4⟩
theorem Fresh.grown {p : Addr} (S : Sim K c σ H F env) (f : Fresh c σ H F env p) (g : Grown H F H' F') : Fresh c σ H' F' env p ∧ H' p = H p := by
  rcases g with ⟨rfl, rfl⟩ | ⟨q, o, hq, ho, rfl, rfl⟩
  · exact ⟨f, rfl⟩
  · obtain ⟨u, hu, hu2⟩ := f.there
    have hne : p ≠ q := ne_of_none hu hq
    exact ⟨⟨⟨u, by rw [upd_ne hne]; exact hu, hu2⟩, by rw [upd_ne hne]; exact f.noF, f.noc, f.nos⟩, upd_ne hne⟩
/-- .. is not touched by a part that does not know it -/
theorem Fresh.part {p : Addr} {σ2 : St} {env' env2 : Ev} (S : Sim K c σ H F env) (f : Fresh c σ H F env p) (S' : Sim K (here c σ H F env) σ2 H' F' env') (h2 : ∀ (i : Nat) (d : D), Live env2 i d → Live env' i d ∧ (σ2[i]? = some (some (V.ref p)) ∨ σ[i]? ≠ some (some (V.ref p)))) : H' p = H p ∧ Fresh c σ H' F' env2 p := by
  have nA : ¬ (here c σ H F env).A p := fun ⟨i, d, l, e⟩ => f.nos i d l e
  obtain ⟨u, hu, hu2⟩ := f.there
  have e1 : H' p = some u := S'.keep p u hu nA hu2.nt
  refine ⟨by rw [e1, hu], ⟨u, e1, hu2⟩, ?_, f.noc, fun i d l z => ?_⟩
  · cases q : F' p with
    | none => rfl
    | some o =>
      rcases S'.new p o q with y | y
      · rw [show (here c σ H F env).F p = F p from rfl, f.noF] at y; cases y
      · rw [show (here c σ H F env).H p = H p from rfl, hu] at y; cases y
  · obtain ⟨l', h⟩ := h2 i d l
    rcases h with h | h
    · obtain ⟨a, q1, _, q3, _⟩ := S'.own i d l'
      rw [h] at q1
      cases q1
      rcases q3 with q3 | q3
      · exact nA q3
      · rw [show (here c σ H F env).H p = H p from rfl, hu] at q3; cases q3
    · exact h z
end
section
variable {X : Cx} {W : WX}
theorem fsem_lc {wi : TI} {it : Ev → Rx (List D)} {gf : D → Ev → Option Ev} {ts vs : List Nat} {t : Ev → Rx Bool} {f : Ev → Rx LV} (hi : ISem X W wi it) (hts : ∀ i ∈ ts, i ∈ vs) :
    FSem X W (tLc wi (canG X gf ts) (canT X W0 t) (canE X W0 f) vs) (eLc it gf t f vs) := fun c σ H F env Q S p => by
  refine hi c σ H F env _ S ?_
  unfold eLc at p
  cases q : it env with
  | er x => rw [q] at p; exact p
  | no => rw [q] at p; exact p.elim
  | ok items e1 =>
    rw [q] at p
    replace p : Post X c W σ F (RF X c σ Q) (lcL gf t f vs items e1) := p
    unfold lcL at p
    by_cases hn : noLv vs e1 = true
    · rw [if_pos hn] at p
      cases q2 : compL gf t f vs items (fgt vs e1) [] with
      | er x => rw [q2] at p; exact p.elim
      | no => rw [q2] at p; exact p.elim
      | ok l e2 =>
        rw [q2] at p
        replace p : ∀ H' F', Sim X.K c σ H' F' (rst vs e1 e2) → Same F F' → ∀ p, Fresh c σ H' F' (rst vs e1 e2) p → OwnAt X.K F' (H' p) (.lst l) → Q (.ref p) H' := p
        intro H1 F1 S1 s1 J wk Dl hD
        obtain ⟨G, Y, w, hG, hY⟩ := wk.ex
        have Sw : Sim X.K c (wipe σ vs) H1 F1 (fgt vs e1) := S1.wiped ⟨rfl, fun _ _ => rfl⟩
        obtain ⟨S2, f2⟩ := Sw.fresh (o := .lst []) hD
        refine lc_it w (fun i H' => ∃ F' env' accV acc, Sim X.K c (wipe σ vs) H' F' env' ∧ Same F1 F' ∧ Fresh c (wipe σ vs) H' F' env' Dl ∧ H' Dl = some (.lst accV) ∧ RpL X.K F' accV acc ∧ compL gf t f vs (items.drop i) env' acc = .ok l e2)
          ⟨F1, _, [], [], S2, Same.refl _, f2, upd_same, .nil, q2⟩ (fun i H' _ ⟨F', env', _, _, S', s', _⟩ => hG H' (s'.trans S'.sub)) ?_ ?_
        · rintro i x H' H'' hi ⟨F', env', accV, acc, S', s', f', hDl, hacc, hc⟩ hy
          have hd : items.drop i = items[i] :: items.drop (i + 1) := (List.drop_eq_getElem_cons hi)
          obtain ⟨F2, gr, rx⟩ := hY i items[i] H' x H'' F' (List.getElem?_eq_getElem hi) s' S'.sub hy
          obtain ⟨S3, s3⟩ := gr.same S'
          obtain ⟨f3, e3⟩ := f'.grown S' gr
          rw [hd] at hc
          unfold compL at hc
          cases q4 : gf items[i] env' with
          | none => simp only [q4] at hc; cases hc
          | some e4 =>
            simp only [q4] at hc
            obtain ⟨b, e5, ht, hc⟩ := Rx.bindN_inv hc
            refine ⟨here c (wipe σ vs) H'' F2 env', F2, env', items[i], e4, S3.rebase, rx, q4, fun σ2 Sg ag => ?_⟩
            have hl2 : σ2.length = σ.length := by rw [ag.1, wipe_length]
            have ag' : ∀ j : Nat, j ∉ vs → σ2[j]? = (wipe σ vs)[j]? := fun j hj => ag.2 j fun z => hj (hts j z)
            have agσ : Alike vs σ σ2 := ⟨hl2, fun j hj => by rw [ag' j hj, wipe_out hj]⟩
            refine ⟨wipe_eq hl2 ag', here c (wipe σ vs) H'' F2 env', F2, e4, Sg, ?_⟩
            rw [ht]
            intro H5 F5 S5 s5
            have Su5 := (S3.unbase S5).wiped (vs := vs) agσ
            have live5 : ∀ (e6 : Ev) (i : Nat) (d : D), Live (fgt vs e6) i d → Live e6 i d ∧ (σ2[i]? = some (some (V.ref Dl)) ∨ (wipe σ vs)[i]? ≠ some (some (V.ref Dl))) := fun e6 j d lv => by
              by_cases hj : j ∈ vs
              · unfold Live at lv
                rcases fgt_in e6 hj with z | z <;> (rw [z] at lv; rcases lv with lv | lv <;> cases lv)
              · unfold Live at lv
                rw [fgt_out e6 hj] at lv
                refine ⟨lv, ?_⟩
                rw [ag' j hj]
                by_cases hz : (wipe σ vs)[j]? = some (some (V.ref Dl))
                · exact .inl hz
                · exact .inr hz
            cases b with
            | false =>
              simp only [Bool.false_eq_true, if_false] at hc
              show ∃ F' env' accV acc, _
              obtain ⟨e7, f7⟩ := f3.part (env2 := fgt vs e5) S3 S5 (live5 e5)
              exact ⟨F5, _, accV, acc, Su5, (s'.trans s3).trans s5, f7, by rw [e7, e3, hDl], hacc.mono (s3.trans s5), hc⟩
            | true =>
              simp only [if_true] at hc
              obtain ⟨y, e6, hf, hc⟩ := Rx.bindN_inv hc
              cases y with
              | s j => cases hc
              | v y =>
                simp only at hc
                by_cases hlen : acc.length < LIM
                · rw [if_pos hlen] at hc
                  refine ⟨here c (wipe σ vs) H'' F2 env', F5, e5, S5, ?_⟩
                  rw [hf]
                  intro H6 F6 S6 s6 v hv
                  have Su6 := (S3.unbase S6).wiped (vs := vs) agσ
                  obtain ⟨e7, f7⟩ := f3.part (env2 := fgt vs e6) S3 S6 (live5 e6)
                  obtain ⟨S8, f8⟩ := Su6.writeF (o := .lst (accV ++ [v])) f7
                  have hacc6 : RpL X.K F6 accV acc := hacc.mono ((s3.trans s5).trans s6)
                  refine ⟨accV, by rw [e7, e3, hDl], by rw [hacc6.length]; exact lim_lt hlen, F6, _, accV ++ [v], acc ++ [y], S8, ((s'.trans s3).trans s5).trans s6, f8, upd_same, hacc6.append (.cons hv .nil), hc⟩
                · rw [if_neg hlen] at hc; cases hc
        · rintro H' ⟨F', env', accV, acc, S', s', f', hDl, hacc, hc⟩
          rw [List.drop_length] at hc
          cases hc
          have S9 := S1.rst S' s' hn
          refine p H' F' S9 (s1.trans s') Dl ⟨f'.there, f'.noF, f'.noc, fun i d lv z => ?_⟩ (by rw [hDl]; exact .lst hacc)
          have hl := (S1.len.symm.trans (wipe_length σ vs).symm).trans S'.len
          by_cases hj : i ∈ vs
          · unfold Live at lv
            rw [rst_in hl hj] at lv
            exact noLv_no hn hj d lv
          · unfold Live at lv
            rw [rst_out hj] at lv
            exact f'.nos i d lv (by rw [wipe_out hj]; exact z)
    · rw [if_neg hn] at p; exact p.elim
end
end DL

namespace DL
open PySem PySem.Spec PyProof.Rows L2
variable [Tab]
section
variable {X : Cx}

/-! ### arithmetic -/
/-- a rule that answers without a change of the heap -/
theorem d2_val {r : R2} {g : D → D → Option D} (h : ∀ H F v w x y z (Q : VK), Same F H → HRp X.K H F v x → HRp X.K H F w y → g x y = some z → (∀ u, Rp X.K F u z → Q u H) → r v w H Q) : D2 X r g :=
  fun c σ H F env v w x y z Q S hv hw hz k => h H F v w x y z Q S.sub hv hw hz fun u ru => k u H F S (Same.refl _) ru
@[simp] def gI (C : Int → Int → Bool) (f : Int → Int → D) : D → D → Option D
  | .int i, .int j => if C i j = true then some (f i j) else none
  | _, _ => none
theorem d2_int {C : Int → Int → Prop} {Cb : Int → Int → Bool} {f : Int → Int → V} {fd : Int → Int → D} (hC : ∀ i j, Cb i j = true → C i j) (hf : ∀ i j F, Rp X.K F (f i j) (fd i j)) : D2 X (rI C f) (gI Cb fd) :=
  d2_val fun H F v w x y z Q _ hv hw hz k => by
    unfold gI at hz
    split at hz
    · rename_i i j
      split at hz
      · rename_i hc
        cases hz
        exact ⟨i, j, hv.int, hw.int, hC i j hc, k _ (hf i j F)⟩
      · cases hz
    · cases hz
@[simp] def gI0 (f : Int → Int → D) : D → D → Option D
  | .int i, .int j => some (f i j)
  | _, _ => none
theorem d2_int0 {f : Int → Int → V} {fd : Int → Int → D} (hf : ∀ i j F, Rp X.K F (f i j) (fd i j)) : D2 X (rI0 f) (gI0 fd) :=
  d2_val fun H F v w x y z Q _ hv hw hz k => by
    unfold gI0 at hz
    split at hz
    · rename_i i j
      cases hz
      exact ⟨i, j, hv.int, hw.int, k _ (hf i j F)⟩
    · cases hz
theorem D2.or {r r' : R2} {g g' : D → D → Option D} (h : D2 X r g) (h' : D2 X r' g') : D2 X (fun x y H Q => r x y H Q ∨ r' x y H Q) (fun x y => match g x y with
    | some z => some z
    | none => g' x y) := fun c σ H F env v w x y z Q S hv hw hz k => by
  cases q : g x y with
  | some z' =>
    simp only [q] at hz
    cases hz
    exact .inl (h c σ H F env v w x y _ Q S hv hw q k)
  | none =>
    simp only [q] at hz
    exact .inr (h' c σ H F env v w x y z Q S hv hw hz k)
/-- the right-hand side by cases -/
theorem D2.of {r : R2} {g g' : D → D → Option D} (h : D2 X r g) (e : ∀ x y z, g' x y = some z → g x y = some z) : D2 X r g' := fun c σ H F env v w x y z Q S hv hw hz k => h c σ H F env v w x y z Q S hv hw (e x y z hz) k

def rAddS : R2 := fun x y H Q => ∃ i j, x = .str i ∧ y = .str j ∧ i.length + j.length ≤ sizeLine ∧ Q (.str (i ++ j)) H
def rAddX (K : PySem.W.Frag) : R2 := fun x y H Q => ((rI0 fun i j => .int (i + j)) x y H Q ∨ rAddS x y H Q) ∨ (rCatA K x y H Q ∨ rCat x y H Q)
theorem op_addX : OpR X (binaryOp .Add) (rAddX X.K) := (op_add.or op_add_str).or (op_catA.or op_cat)
@[simp] def gAdd : D → D → Option D
  | .int i, .int j => some (.int (i + j))
  | .str a, .str b => if a.length + b.length ≤ LIM then some (.str (a ++ b)) else none
  | .tup a, .tup b => if a.length + b.length ≤ LIM then some (.tup (a ++ b)) else none
  | .lst a, .lst b => if a.length + b.length ≤ LIM then some (.lst (a ++ b)) else none
  | _, _ => none
theorem d2_add : D2 X (rAddX X.K) gAdd := fun c σ H F env v w x y z Q S hv hw hz k => by
  unfold gAdd at hz
  split at hz
  · rename_i i j
    cases hz
    exact .inl (.inl ⟨i, j, hv.int, hw.int, k _ H F S (Same.refl _) (.int _)⟩)
  · rename_i a b
    split at hz
    · rename_i hl
      cases hz
      exact .inl (.inr ⟨a, b, hv.str, hw.str, lim_le hl, k _ H F S (Same.refl _) (.str _)⟩)
    · cases hz
  · rename_i a b
    split at hz
    · rename_i hl
      cases hz
      obtain ⟨p, vs, rfl, h1, h2⟩ := hv.tup S.sub
      obtain ⟨q, ws, rfl, h3, h4⟩ := hw.tup S.sub
      have e1 := h2.length
      have e2 := h4.length
      -- the parts as they are represented in the frozen part
      have f1 : Rp X.K F (.ref p) (.tup a) := by
        rcases hv with hv | ⟨_, _, ow⟩
        · exact hv
        · generalize H _ = o at ow
          cases ow
      have f2 : Rp X.K F (.ref q) (.tup b) := by
        rcases hw with hw | ⟨_, _, ow⟩
        · exact hw
        · generalize H _ = o at ow
          cases ow
      refine .inr (.inl ⟨p, q, vs, ws, rfl, rfl, h1, h3, by rw [e1, e2]; exact lim_le hl, fun hx => ?_, fun hx hy => ?_, fun hx hy r hr => ?_⟩)
      · subst hx
        cases h2
        exact k _ H F S (Same.refl _) f2
      · subst hy
        cases h4
        rw [List.append_nil] at k
        exact k _ H F S (Same.refl _) f1
      · have nF := same_new (o := .tup (vs ++ ws)) (S.sub.free hr)
        exact k _ _ _ (S.alloc hr) nF (.tup (.inl (.inl upd_same)) ((h2.append h4).mono nF))
    · cases hz
  · rename_i a b
    split at hz
    · rename_i hl
      cases hz
      obtain ⟨p, vs, rfl, h1, h2⟩ := hv.lst S.sub
      obtain ⟨q, ws, rfl, h3, h4⟩ := hw.lst S.sub
      refine .inr (.inr ⟨p, q, vs, ws, rfl, rfl, h1, h3, by rw [h2.length, h4.length]; exact lim_le hl, fun r hr => ?_⟩)
      have nF := same_new (o := .lst (vs ++ ws)) (S.sub.free hr)
      exact k _ _ _ (S.alloc hr) nF (.lst upd_same ((h2.append h4).mono nF))
    · cases hz
  · cases hz
/-- list + list as a new list of our own -/
@[simp] def gCat : D → D → Option D
  | .lst a, .lst b => if a.length + b.length ≤ LIM then some (.lst (a ++ b)) else none
  | _, _ => none
theorem d2f_cat : D2F X rCat gCat := fun c σ H F env v w x y z Q S hv hw hz k => by
  unfold gCat at hz
  split at hz
  · rename_i a b
    split at hz
    · rename_i hl
      cases hz
      obtain ⟨p, vs, rfl, h1, h2⟩ := hv.lst S.sub
      obtain ⟨q, ws, rfl, h3, h4⟩ := hw.lst S.sub
      refine ⟨p, q, vs, ws, rfl, rfl, h1, h3, by rw [h2.length, h4.length]; exact lim_le hl, fun r hr => ?_⟩
      obtain ⟨S2, f2⟩ := S.fresh (o := .lst (vs ++ ws)) hr
      exact k _ _ _ S2 (Same.refl _) f2 (by rw [upd_same]; exact .lst (h2.append h4))
    · cases hz
  · cases hz
@[simp] def gSub : D → D → Option D := gI0 fun i j => .int (i - j)
theorem d2_sub : D2 X (rI0 fun i j => .int (i - j)) gSub := d2_int0 fun _ _ _ => .int _
def mulOk (i j : Int) : Bool := decide ((-(2 ^ 64) < i ∧ i < 2 ^ 64) ∨ (-(2 ^ 64) < j ∧ j < 2 ^ 64))
@[simp] def gMulI : D → D → Option D := gI mulOk fun i j => .int (i * j)
theorem d2_mulI : D2 X (rI CMul fun i j => .int (i * j)) gMulI := d2_int (C := CMul) (Cb := mulOk) (fun i j h => by
  have h' : (-(2 ^ 64) < i ∧ i < 2 ^ 64) ∨ (-(2 ^ 64) < j ∧ j < 2 ^ 64) := of_decide_eq_true h
  exact h') fun _ _ _ => .int _
def divOk (_ j : Int) : Bool := decide (0 < j ∧ j < 2 ^ 200)
@[simp] def gDiv : D → D → Option D := gI divOk fun i j => .int (i / j)
theorem d2_div : D2 X (rI CDivW fun i j => .int (i / j)) gDiv := d2_int (fun i j h => by
  have h' : 0 < j ∧ j < 2 ^ 200 := of_decide_eq_true h
  refine wide_div (b := 200) h'.1 ?_ (by decide) (by decide)
  have : ((2 ^ 200 : Nat) : Int) = (2 : Int) ^ 200 := by decide +kernel
  omega) fun _ _ _ => .int _
@[simp] def gMod : D → D → Option D := gI (fun _ j => decide (0 < j)) fun i j => .int (i % j)
theorem d2_mod : D2 X (rI (fun _ j => 0 < j) fun i j => .int (i % j)) gMod := d2_int (fun i j h => of_decide_eq_true h) fun _ _ _ => .int _
def powOk (i j : Int) : Bool := decide (0 ≤ j ∧ j ≤ 1000 ∧ -(2 ^ 63) < i ∧ i < 2 ^ 63)
@[simp] def gPow : D → D → Option D := gI powOk fun i j => .int (i ^ j.toNat)
theorem d2_pow : D2 X (rI CPow fun i j => .int (i ^ j.toNat)) gPow := d2_int (fun i j h => by
  have h' : 0 ≤ j ∧ j ≤ 1000 ∧ -(2 ^ 63) < i ∧ i < 2 ^ 63 := of_decide_eq_true h
  exact ⟨h'.1, by omega, by omega⟩) fun _ _ _ => .int _
/-- a list times an int -/
@[simp] def gRep : D → D → Option D
  | .lst a, .int k => if a.length * k.toNat ≤ LIM ∧ -1000000 ≤ k ∧ k ≤ 1000000 then some (.lst (List.replicate k.toNat a).flatten) else none
  | _, _ => none
theorem RpL.rep {K : PySem.W.Frag} {F : Hp} {vs : List V} {l : List D} (h : RpL K F vs l) : ∀ n, RpL K F (List.replicate n vs).flatten (List.replicate n l).flatten
  | 0 => .nil
  | n + 1 => by
    rw [List.replicate_succ, List.replicate_succ, List.flatten_cons, List.flatten_cons]
    exact h.append (RpL.rep h n)
theorem d2f_rep : D2F X rRep gRep := fun c σ H F env v w x y z Q S hv hw hz k => by
  unfold gRep at hz
  split at hz
  · rename_i a i
    split at hz
    · rename_i hl
      cases hz
      obtain ⟨p, vs, rfl, h1, h2⟩ := hv.lst S.sub
      refine ⟨p, i, vs, rfl, hw.int, h1, by omega, by omega, by rw [h2.length]; exact lim_le hl.1, fun r hr => ?_⟩
      obtain ⟨S2, f2⟩ := S.fresh (o := .lst (List.replicate i.toNat vs).flatten) hr
      exact k _ _ _ S2 (Same.refl _) f2 (by rw [upd_same]; exact .lst (h2.rep _))
    · cases hz
  · cases hz
/-- minus -/
@[simp] def gNeg : D → Option D
  | .int i => some (.int (-i))
  | _ => none
theorem d1_neg : D1 X (rU fun i => .int (-i)) gNeg := fun c σ H F env v x z Q S hv hz k => by
  unfold gNeg at hz
  split at hz
  · cases hz
    exact ⟨_, hv.int, k _ H F S (Same.refl _) (.int _)⟩
  · cases hz

/-! ### order of ints -/
@[simp] def gLt : D → D → Option D := gI0 fun i j => .bl (decide (i < j))
@[simp] def gLe : D → D → Option D := gI0 fun i j => .bl (decide (i ≤ j))
@[simp] def gGt : D → D → Option D := gI0 fun i j => .bl (decide (j < i))
@[simp] def gGe : D → D → Option D := gI0 fun i j => .bl (decide (j ≤ i))
theorem d2_lt : D2 X (rI0 fun i j => .bl (decide (i < j))) gLt := d2_int0 fun _ _ _ => .bl _
theorem d2_le : D2 X (rI0 fun i j => .bl (decide (i ≤ j))) gLe := d2_int0 fun _ _ _ => .bl _
theorem d2_gt : D2 X (rI0 fun i j => .bl (decide (j < i))) gGt := d2_int0 fun _ _ _ => .bl _
theorem d2_ge : D2 X (rI0 fun i j => .bl (decide (j ≤ i))) gGe := d2_int0 fun _ _ _ => .bl _
/-- a op b op' c -/
def eCh (g g' : D → D → Option D) (fa fb fc : Ev → Rx LV) : Ev → Rx LV := fun env => (fa env).bind fun x e1 => (fb e1).bind fun y e2 => match rs e2 x, rs e2 y with
  | some x', some y' => match g x' y' with
    | some (.bl true) => (fc e2).bind fun z e3 => op2 g' e3 y z
    | some (.bl false) => .ok (.v (.bl false)) e2
    | _ => .no
  | _, _ => .no
theorem esem_ch {W : WX} {r r' : R2} {g g' : D → D → Option D} {ta tb tc : TE} {fa fb fc : Ev → Rx LV} (d : D2 X r g) (d' : D2 X r' g') (ha : ESem X W ta fa) (hb : ESem X W tb fb) (hc : ESem X W tc fc) : ESem X W (tChain r r' ta tb tc) (eCh g g' fa fb fc) := fun c σ H F env Q S p => by
  refine ha c σ H F env _ S ?_
  unfold eCh at p
  cases q : fa env with
  | er x => rw [q] at p; exact p
  | no => rw [q] at p; exact p.elim
  | ok x e1 =>
    rw [q] at p
    simp only [Rx.bind_ok] at p
    intro H1 F1 S1 s1 v hv
    refine hb c σ H1 F1 e1 _ S1 ?_
    cases q2 : fb e1 with
    | er x => rw [q2] at p; exact p
    | no => rw [q2] at p; exact p.elim
    | ok y e2 =>
      rw [q2] at p
      simp only [Rx.bind_ok] at p
      intro H2 F2 S2 s2 w hw
      cases r1 : rs e2 x with
      | none => simp only [r1] at p; exact p.elim
      | some x' =>
        cases r2 : rs e2 y with
        | none => simp only [r1, r2] at p; exact p.elim
        | some y' =>
          simp only [r1, r2] at p
          cases r3 : g x' y' with
          | none => simp only [r3] at p; exact p.elim
          | some z =>
            simp only [r3] at p
            refine d c σ H2 F2 e2 v w x' y' z _ S2 (S2.hrp (hv.mono s2) r1) (S2.hrp hw r2) r3 fun u H3 F3 S3 s3 ru => ?_
            cases ru with
            | bl k =>
              refine ⟨k, rfl, ?_⟩
              cases k with
              | false =>
                show Q (.bl false) H3
                exact p H3 F3 S3 ((s1.trans s2).trans s3) _ (.bl false)
              | true =>
                show tc σ H3 _
                refine hc c σ H3 F3 e2 _ S3 ?_
                replace p : Post X c W σ F (RE X σ Q) ((fc e2).bind fun z e3 => op2 g' e3 y z) := p
                cases q4 : fc e2 with
                | er x => rw [q4] at p; exact p
                | no => rw [q4] at p; exact p.elim
                | ok z e3 =>
                  rw [q4] at p
                  replace p : Post X c W σ F (RE X σ Q) (op2 g' e3 y z) := p
                  intro H4 F4 S4 s4 u hu
                  unfold op2 at p
                  cases r5 : rs e3 y with
                  | none => simp only [r5] at p; exact p.elim
                  | some y2 =>
                    cases r6 : rs e3 z with
                    | none => simp only [r5, r6] at p; exact p.elim
                    | some z2 =>
                      simp only [r5, r6] at p
                      cases r7 : g' y2 z2 with
                      | none => simp only [r7] at p; exact p.elim
                      | some z3 =>
                        simp only [r7] at p
                        refine d' c σ H4 F4 e3 w u y2 z2 z3 Q S4 (S4.hrp ((hw.mono s3).mono s4) r5) (S4.hrp hu r6) r7 fun u' H' F' S' s' ru => ?_
                        exact p H' F' S' ((((s1.trans s2).trans s3).trans s4).trans s') u' ru
            | _ => exact p.elim
theorem eok_ch {W : WX} {a b c' e : Expr} {r r' : R2} {g g' : D → D → Option D} {fa fb fc : Ev → Rx LV} (d : D2 X r g) (d' : D2 X r' g') (hp : ∀ {ta tb tc}, PE X a ta → PE X b tb → PE X c' tc → PE X e (tChain r r' ta tb tc)) (ha : EOk X W a fa) (hb : EOk X W b fb) (hc : EOk X W c' fc) : EOk X W e (eCh g g' fa fb fc) := by
  obtain ⟨ta, a1, a2⟩ := ha.ex
  obtain ⟨tb, b1, b2⟩ := hb.ex
  obtain ⟨tc, c1, c2⟩ := hc.ex
  exact ⟨_, hp a1 b1 c1, esem_ch d d' a2 b2 c2⟩
theorem tok_ch {W : WX} {a b c' e : Expr} {r r' : R2} {g g' : D → D → Option D} {fa fb fc : Ev → Rx LV} (d : D2 X r g) (d' : D2 X r' g') (hp : ∀ {ta tb tc}, PE X a ta → PE X b tb → PE X c' tc → PT X e (tTest (tChain r r' ta tb tc))) (ha : EOk X W a fa) (hb : EOk X W b fb) (hc : EOk X W c' fc) : TOk X W e (tE (eCh g g' fa fb fc)) := by
  obtain ⟨ta, a1, a2⟩ := ha.ex
  obtain ⟨tb, b1, b2⟩ := hb.ex
  obtain ⟨tc, c1, c2⟩ := hc.ex
  exact ⟨_, hp a1 b1 c1, tsem_b (esem_ch d d' a2 b2 c2)⟩

/-! ### equality of data -/
mutual
def toPy : D → PyData
  | .non => .none
  | .bl b => .bool b
  | .int i => .int i
  | .str x => .str x
  | .tup l => .tuple (toPyL l)
  | .lst l => .list (toPyL l)
  | _ => .none
def toPyL : List D → List PyData
  | [] => []
  | d :: l => toPy d :: toPyL l
end
mutual
/-- plain data, at most n deep -/
def sh : Nat → D → Bool
  | _, .non => true
  | _, .bl _ => true
  | _, .int _ => true
  | _, .str x => PyData.strOk x
  | n + 1, .tup l => shL n l
  | n + 1, .lst l => shL n l
  | _, _ => false
def shL : Nat → List D → Bool
  | _, [] => true
  | n, d :: l => sh n d && shL n l
end
mutual
def deq : D → D → Bool
  | .non, .non => true
  | .bl a, .bl b => a == b
  | .bl a, .int j => (if a then 1 else 0) == j
  | .int i, .bl b => i == (if b then 1 else 0)
  | .int i, .int j => i == j
  | .str x, .str y => decide (x = y)
  | .lst xs, .lst ys => deqL xs ys
  | .tup xs, .tup ys => deqL xs ys
  | _, _ => false
def deqL : List D → List D → Bool
  | [], [] => true
  | x :: xs, y :: ys => deq x y && deqL xs ys
  | _, _ => false
end
end
theorem str_beq (x y : Str) : (x == y) = decide (x = y) := by
  rw [← dec_str]
  rw [Bool.eq_iff_iff]
  simp
mutual
theorem eqv_toPy : ∀ (n m : Nat) (d e : D), sh n d = true → sh m e = true → PyData.eqv (toPy d) (toPy e) = deq d e
  | n, m, .non, e, _, he => by cases e <;> first | rfl | (cases m <;> cases he)
  | n, m, .bl a, e, _, he => by cases e <;> first | rfl | (cases m <;> cases he)
  | n, m, .int i, e, _, he => by cases e <;> first | rfl | (cases m <;> cases he)
  | n, m, .str x, e, _, he => by
    cases e with
    | str y =>
      show (x == y) = decide (x = y)
      exact str_beq x y
    | _ => first | rfl | (cases m <;> cases he)
  | 0, _, .tup l, _, h, _ => by cases h
  | 0, _, .lst l, _, h, _ => by cases h
  | n + 1, m, .tup l, e, h, he => by
    cases e with
    | tup l2 =>
      cases m with
      | zero => cases he
      | succ m =>
        show PyData.eqvAll (toPyL l) (toPyL l2) = deqL l l2
        exact eqv_toPyL n m l l2 h he
    | _ => first | rfl | (cases m <;> cases he)
  | n + 1, m, .lst l, e, h, he => by
    cases e with
    | lst l2 =>
      cases m with
      | zero => cases he
      | succ m =>
        show PyData.eqvAll (toPyL l) (toPyL l2) = deqL l l2
        exact eqv_toPyL n m l l2 h he
    | _ => first | rfl | (cases m <;> cases he)
  | n, _, .scr _, _, h, _ => by cases n <;> cases h
  | n, _, .ty _, _, h, _ => by cases n <;> cases h
  | n, _, .dcK _, _, h, _ => by cases n <;> cases h
  | n, _, .dcT _, _, h, _ => by cases n <;> cases h
  | n, _, .ad _, _, h, _ => by cases n <;> cases h
theorem eqv_toPyL : ∀ (n m : Nat) (l l2 : List D), shL n l = true → shL m l2 = true → PyData.eqvAll (toPyL l) (toPyL l2) = deqL l l2
  | n, m, [], [], _, _ => rfl
  | n, m, [], _ :: _, _, _ => rfl
  | n, m, _ :: _, [], _, _ => rfl
  | n, m, d :: l, e :: l2, h, h2 => by
    have h' : sh n d = true ∧ shL n l = true := by simpa [shL] using h
    have h2' : sh m e = true ∧ shL m l2 = true := by simpa [shL] using h2
    show (PyData.eqv (toPy d) (toPy e) && PyData.eqvAll (toPyL l) (toPyL l2)) = (deq d e && deqL l l2)
    rw [eqv_toPy n m d e h'.1 h2'.1, eqv_toPyL n m l l2 h'.2 h2'.2]
end
mutual
theorem sh_lay : ∀ (n : Nat) (d : D), sh n d = true → (toPy d).canLay0 = true ∧ (toPy d).depth ≤ n
  | n, .non, _ => ⟨rfl, Nat.zero_le _⟩
  | n, .bl _, _ => ⟨rfl, Nat.zero_le _⟩
  | n, .int _, _ => ⟨rfl, Nat.zero_le _⟩
  | n, .str x, h => ⟨by cases n <;> exact h, Nat.zero_le _⟩
  | 0, .tup l, h => by cases h
  | 0, .lst l, h => by cases h
  | n + 1, .tup l, h => by
    obtain ⟨h1, h2⟩ := sh_layL n l h
    exact ⟨h1, Nat.succ_le_succ h2⟩
  | n + 1, .lst l, h => by
    obtain ⟨h1, h2⟩ := sh_layL n l h
    exact ⟨h1, Nat.succ_le_succ h2⟩
  | n, .scr _, h => by cases n <;> cases h
  | n, .ty _, h => by cases n <;> cases h
  | n, .dcK _, h => by cases n <;> cases h
  | n, .dcT _, h => by cases n <;> cases h
  | n, .ad _, h => by cases n <;> cases h
theorem sh_layL : ∀ (n : Nat) (l : List D), shL n l = true → PyData.canLayAll0 (toPyL l) = true ∧ PyData.depthAll (toPyL l) ≤ n
  | n, [], _ => ⟨rfl, Nat.zero_le _⟩
  | n, d :: l, h => by
    have h' : sh n d = true ∧ shL n l = true := by simpa [shL] using h
    obtain ⟨a1, a2⟩ := sh_lay n d h'.1
    obtain ⟨b1, b2⟩ := sh_layL n l h'.2
    refine ⟨?_, ?_⟩
    · show ((toPy d).canLay0 && PyData.canLayAll0 (toPyL l)) = true
      rw [a1, b1]; rfl
    · show max (toPy d).depth (PyData.depthAll (toPyL l)) ≤ n
      omega
end
theorem sh_shaped {d : D} (h : sh 8 d = true) : SeqAt.shaped (toPy d) = true := by
  obtain ⟨h1, h2⟩ := sh_lay 8 d h
  unfold SeqAt.shaped
  rw [h1, decide_eq_true (by omega : (toPy d).depth ≤ 64)]
  rfl
mutual
theorem Rp.dp {K : PySem.W.Frag} {F H : Hp} (e : Same F H) : ∀ {n : Nat} {v : V} {d : D}, Rp K F v d → sh n d = true → Dp K H v (toPy d)
  | _, _, _, .non, _ => .non
  | _, _, _, .bl b, _ => .bl b
  | _, _, _, .int i, _ => .int i
  | _, _, _, .str x, _ => .str x
  | 0, _, _, .tup _ _, h => by cases h
  | n + 1, _, _, .tup h r, hs => .tup (same_t e h) (RpL.dp e r hs)
  | 0, _, _, .lst _ _, h => by cases h
  | n + 1, _, _, .lst h r, hs => .lst (SqL.of (e _ _ h)) (RpL.dp e r hs)
  | n, _, _, .scr _, h => by cases n <;> cases h
  | n, _, _, .ty _, h => by cases n <;> cases h
  | n, _, _, .dcK _ _, h => by cases n <;> cases h
  | n, _, _, .dcT _ _, h => by cases n <;> cases h
  | n, _, _, .ad _, h => by cases n <;> cases h
theorem RpL.dp {K : PySem.W.Frag} {F H : Hp} (e : Same F H) : ∀ {n : Nat} {vs : List V} {l : List D}, RpL K F vs l → shL n l = true → DpAll K H vs (toPyL l)
  | _, _, _, .nil, _ => .nil
  | n, _, _, .cons (d := d) (l := l) r t, h => by
    have h' : sh n d = true ∧ shL n l = true := by simpa [shL] using h
    exact .cons (Rp.dp e r h'.1) (RpL.dp e t h'.2)
end
theorem HRp.dp {K : PySem.W.Frag} {F H : Hp} {v : V} {d : D} (h : HRp K H F v d) (e : Same F H) (hs : sh 8 d = true) : Dp K H v (toPy d) := by
  rcases h with h | ⟨a, rfl, ow⟩
  · exact h.dp e hs
  · cases d with
    | lst l =>
      obtain ⟨vs, h1, h2⟩ := ow.get
      exact .lst (SqL.of h1) (h2.dp e (n := 7) hs)
    | dcK l => cases hs
    | dcT l => cases hs
    | _ => generalize H a = o at ow; cases ow
section
variable {X : Cx}
/-- two values of these kinds are compared at once -/
def scD : D → D → Bool
  | .non, .non => true | .non, .int _ => true | .int _, .non => true | .non, .bl _ => true | .bl _, .non => true | .non, .str _ => true | .str _, .non => true
  | .int _, .int _ => true | .bl _, .bl _ => true | .str _, .str _ => true
  | .int _, .str _ => true | .str _, .int _ => true | .bl _, .str _ => true | .str _, .bl _ => true
  | _, _ => false
theorem scD_ok {H F : Hp} {v w : V} {x y : D} (h : scD x y = true) (hv : HRp X.K H F v x) (hw : HRp X.K H F w y) : scal v w = true ∧ decide (v = w) = deq x y := by
  cases x <;> cases y <;> first
    | (exfalso; exact Bool.noConfusion (show false = true from h))
    | skip
  all_goals
    first
    | rw [hv.non] | rw [hv.int] | rw [hv.bl] | rw [hv.str]
    first
    | rw [hw.non] | rw [hw.int] | rw [hw.bl] | rw [hw.str]
    refine ⟨rfl, ?_⟩
  all_goals first
    | rfl
    | (rw [dec_int]; rfl)
    | (rw [dec_bl]; rfl)
    | (rw [dec_str, str_beq]; rfl)
    | exact decide_eq_false (by intro z; cases z)
def gEq (x y : D) : Option D := if scD x y = true then some (.bl (deq x y)) else if sh 8 x = true ∧ sh 8 y = true then some (.bl (deq x y)) else none
def gNe (x y : D) : Option D := if scD x y = true then some (.bl (!deq x y)) else if sh 8 x = true ∧ sh 8 y = true then some (.bl (!deq x y)) else none
def rEqX (K : PySem.W.Frag) : R2 := fun x y H Q => rEq x y H Q ∨ rEqD K x y H Q
def rNeX (K : PySem.W.Frag) : R2 := fun x y H Q => rNe x y H Q ∨ rNeD K x y H Q
theorem op_eqX (hu : X.A.units + 64 < cLine) : OpR X (compareOp .Eq) (rEqX X.K) := op_eq.or (op_eqD hu)
theorem op_neX (hu : X.A.units + 64 < cLine) : OpR X (compareOp .NotEq) (rNeX X.K) := op_ne.or (op_neD hu)
theorem d2_eq : D2 X (rEqX X.K) gEq := d2_val fun H F v w x y z Q hs hv hw hz k => by
  unfold gEq at hz
  by_cases h : scD x y = true
  · rw [if_pos h] at hz
    cases hz
    obtain ⟨h1, h2⟩ := scD_ok h hv hw
    exact .inl ⟨h1, by rw [h2]; exact k _ (.bl _)⟩
  · rw [if_neg h] at hz
    by_cases h2 : sh 8 x = true ∧ sh 8 y = true
    · rw [if_pos h2] at hz
      cases hz
      exact .inr ⟨toPy x, toPy y, hv.dp hs h2.1, hw.dp hs h2.2, sh_shaped h2.1, sh_shaped h2.2, by rw [eqv_toPy 8 8 x y h2.1 h2.2]; exact k _ (.bl _)⟩
    · rw [if_neg h2] at hz; cases hz
theorem d2_ne : D2 X (rNeX X.K) gNe := d2_val fun H F v w x y z Q hs hv hw hz k => by
  unfold gNe at hz
  by_cases h : scD x y = true
  · rw [if_pos h] at hz
    cases hz
    obtain ⟨h1, h2⟩ := scD_ok h hv hw
    exact .inl ⟨h1, by rw [h2]; exact k _ (.bl _)⟩
  · rw [if_neg h] at hz
    by_cases h2 : sh 8 x = true ∧ sh 8 y = true
    · rw [if_pos h2] at hz
      cases hz
      exact .inr ⟨toPy x, toPy y, hv.dp hs h2.1, hw.dp hs h2.2, sh_shaped h2.1, sh_shaped h2.2, by rw [eqv_toPy 8 8 x y h2.1 h2.2]; exact k _ (.bl _)⟩
    · rw [if_neg h2] at hz; cases hz
/-- is None, is not None; is True, is False -/
@[simp] def gIsN (x y : D) : Option D := match y with
  | .non => match x with
    | .non => some (.bl true)
    | _ => some (.bl false)
  | _ => none
@[simp] def gNotN (x y : D) : Option D := match y with
  | .non => match x with
    | .non => some (.bl false)
    | _ => some (.bl true)
  | _ => none
@[simp] def isNonD : D → Bool
  | .non => true
  | _ => false
theorem isnon {H F : Hp} {v : V} {x : D} (hv : HRp X.K H F v x) : decide (v = .non) = isNonD x := by
  cases x with
  | non => rw [hv.non]; rfl
  | _ =>
    refine decide_eq_false fun z => ?_
    subst z
    rcases hv with hv | ⟨a, e, _⟩
    · cases hv
    · cases e
theorem d2_isN : D2 X (fun x y H Q => y = .non ∧ Q (.bl (decide (x = .non))) H) gIsN := d2_val fun H F v w x y z Q hs hv hw hz k => by
  unfold gIsN at hz
  cases y with
  | non =>
    refine ⟨hw.non, ?_⟩
    rw [isnon hv]
    simp only at hz
    cases x <;> (cases hz; exact k _ (.bl _))
  | _ => cases hz
theorem d2_notN : D2 X (fun x y H Q => y = .non ∧ Q (.bl (!decide (x = .non))) H) gNotN := d2_val fun H F v w x y z Q hs hv hw hz k => by
  unfold gNotN at hz
  cases y with
  | non =>
    refine ⟨hw.non, ?_⟩
    rw [isnon hv]
    simp only at hz
    cases x <;> (cases hz; exact k _ (.bl _))
  | _ => cases hz
@[simp] def gIsB : D → D → Option D
  | .bl a, .bl b => some (.bl (decide (a = b)))
  | _, _ => none
@[simp] def gNotB : D → D → Option D
  | .bl a, .bl b => some (.bl (!decide (a = b)))
  | _, _ => none
theorem d2_isB : D2 X rIsB gIsB := d2_val fun H F v w x y z Q hs hv hw hz k => by
  unfold gIsB at hz
  split at hz
  · cases hz
    exact ⟨_, _, hv.bl, hw.bl, k _ (.bl _)⟩
  · cases hz
theorem d2_notB : D2 X rNotB gNotB := d2_val fun H F v w x y z Q hs hv hw hz k => by
  unfold gNotB at hz
  split at hz
  · cases hz
    exact ⟨_, _, hv.bl, hw.bl, k _ (.bl _)⟩
  · cases hz

/-! ### in, not in -/
theorem any_toPy {d : D} {n : Nat} (hd : sh 8 d = true) : ∀ {l : List D}, shL n l = true → ((toPyL l).any fun z => PyData.eqv z (toPy d)) = l.any fun z => deq z d
  | [], _ => rfl
  | x :: l, h => by
    have h' : sh n x = true ∧ shL n l = true := by simpa [shL] using h
    show (PyData.eqv (toPy x) (toPy d) || (toPyL l).any fun z => PyData.eqv z (toPy d)) = (deq x d || l.any fun z => deq z d)
    rw [eqv_toPy n 8 x d h'.1 hd, any_toPy hd h'.2]
def flD : D → Bool
  | .non => true | .bl _ => true | .int _ => true | .str _ => true | _ => false
def inD (x : D) (l : List D) : Bool := l.any fun z => deq z x
/-- in a list or tuple of flat things; in a list of data; one sign in a text -/
def gInB (x : D) : D → Option Bool
  | .lst l => if flD x = true ∧ l.all flD = true then some (inD x l) else if sh 8 x = true ∧ shL 7 l = true then some (inD x l) else none
  | .tup l => if flD x = true ∧ l.all flD = true then some (inD x l) else none
  | .str z => match x with
    | .str c => if c.length = 1 then some (decide ((c.cps.getD 0 0) ∈ z.cps.toList)) else none
    | _ => none
  | _ => none
def gIn (x y : D) : Option D := (gInB x y).map .bl
def gNin (x y : D) : Option D := (gInB x y).map fun b => .bl (!b)
theorem flD_v {H F : Hp} {v : V} {x : D} (h : flD x = true) (hv : HRp X.K H F v x) : flatV v = true := by
  cases x with
  | non => rw [hv.non]; rfl
  | bl b => rw [hv.bl]; rfl
  | int i => rw [hv.int]; rfl
  | str s => rw [hv.str]; rfl
  | _ => cases h
theorem flD_eq {H F : Hp} {v w : V} {x y : D} (h : flD x = true) (h2 : flD y = true) (hv : HRp X.K H F v x) (hw : HRp X.K H F w y) : eqV v w = deq x y := by
  cases x <;> cases y <;> first
    | (exfalso; exact Bool.noConfusion (show false = true from h))
    | (exfalso; exact Bool.noConfusion (show false = true from h2))
    | skip
  all_goals
    first
    | rw [hv.non] | rw [hv.int] | rw [hv.bl] | rw [hv.str]
    first
    | rw [hw.non] | rw [hw.int] | rw [hw.bl] | rw [hw.str]
  all_goals first
    | rfl
    | exact str_beq _ _
theorem flD_in {H F : Hp} {v : V} {x : D} (h : flD x = true) (hv : HRp X.K H F v x) : ∀ {vs : List V} {l : List D}, RpL X.K F vs l → l.all flD = true → vs.all flatV = true ∧ inV v vs = inD x l
  | _, _, .nil, _ => ⟨rfl, rfl⟩
  | _, _, .cons (v := w) (d := y) (l := l) (vs := ws) r t, ha => by
    have ha' : flD y = true ∧ l.all flD = true := by simpa using ha
    obtain ⟨h1, h2⟩ := flD_in h hv t ha'.2
    have h2 : (ws.any fun z => eqV z v) = l.any fun z => deq z x := h2
    refine ⟨?_, ?_⟩
    · rw [List.all_cons, flD_v (H := H) ha'.1 (.inl r), h1]; rfl
    · show ((w :: ws).any fun z => eqV z v) = ((y :: l).any fun z => deq z x)
      rw [List.any_cons, List.any_cons, flD_eq ha'.1 h (.inl r) hv, h2]
def rInX (K : PySem.W.Frag) : R2 := fun x y H Q => (rIn K false x y H Q ∨ rInD K x y H Q) ∨ (∃ (c : Nat) (z : Str), x = .str ⟨#[c]⟩ ∧ y = .str z ∧ Q (.bl (decide (c ∈ z.cps.toList))) H)
def rNinX (K : PySem.W.Frag) : R2 := fun x y H Q => (rIn K true x y H Q ∨ rNotInD K x y H Q) ∨ (∃ (c : Nat) (z : Str), x = .str ⟨#[c]⟩ ∧ y = .str z ∧ Q (.bl (!decide (c ∈ z.cps.toList))) H)
theorem op_inX (hu : X.A.units + 65 < cLine) : OpR X (compareOp .In) (rInX X.K) := (op_in_seq.or (op_inD hu)).or op_in_sign
theorem op_ninX (hu : X.A.units + 65 < cLine) : OpR X (compareOp .NotIn) (rNinX X.K) := (op_notIn_seq.or (op_notInD hu)).or op_notIn_sign
theorem one_sign {c : Str} (h : c.length = 1) : c = ⟨#[c.cps.getD 0 0]⟩ := by
  obtain ⟨a⟩ := c
  have h' : a.size = 1 := h
  congr 1
  apply Array.ext
  · simp [h']
  · intro i h1 h2
    have : i = 0 := by omega
    subst this
    simp [Array.getD, h']
theorem in_ok {H F : Hp} {v w : V} {x y : D} {b : Bool} (hs : Same F H) (hv : HRp X.K H F v x) (hw : HRp X.K H F w y) (h : gInB x y = some b) (R : Bool → Bool) :
    (∃ p xs, w = .ref p ∧ (SqL X.K H p xs ∨ SqT X.K H p xs) ∧ flatV v = true ∧ xs.all flatV = true ∧ inV v xs = b) ∨ (∃ d ds, Dp X.K H v d ∧ Dp X.K H w (.list ds) ∧ SeqAt.shaped d = true ∧ SeqAt.shaped (.list ds) = true ∧ (ds.any fun z => PyData.eqv z d) = b) ∨
      (∃ (c : Nat) (z : Str), v = .str ⟨#[c]⟩ ∧ w = .str z ∧ decide (c ∈ z.cps.toList) = b) := by
  unfold gInB at h
  split at h
  · rename_i l
    obtain ⟨p, vs, rfl, h1, h2⟩ := hw.lst hs
    by_cases hc : flD x = true ∧ l.all flD = true
    · rw [if_pos hc] at h
      cases h
      obtain ⟨a1, a2⟩ := flD_in hc.1 hv h2 hc.2
      exact .inl ⟨p, vs, rfl, .inl (SqL.of h1), flD_v hc.1 hv, a1, a2⟩
    · rw [if_neg hc] at h
      by_cases hc2 : sh 8 x = true ∧ shL 7 l = true
      · rw [if_pos hc2] at h
        cases h
        exact .inr (.inl ⟨toPy x, toPyL l, hv.dp hs hc2.1, .lst (SqL.of h1) (h2.dp hs hc2.2), sh_shaped hc2.1, sh_shaped (d := .lst l) hc2.2, any_toPy hc2.1 hc2.2⟩)
      · rw [if_neg hc2] at h; cases h
  · rename_i l
    obtain ⟨p, vs, rfl, h1, h2⟩ := hw.tup hs
    by_cases hc : flD x = true ∧ l.all flD = true
    · rw [if_pos hc] at h
      cases h
      obtain ⟨a1, a2⟩ := flD_in hc.1 hv h2 hc.2
      exact .inl ⟨p, vs, rfl, .inr h1, flD_v hc.1 hv, a1, a2⟩
    · rw [if_neg hc] at h; cases h
  · split at h
    · rename_i c
      by_cases hc : c.length = 1
      · rw [if_pos hc] at h
        cases h
        exact .inr (.inr ⟨c.cps.getD 0 0, _, by rw [hv.str, ← one_sign hc], hw.str, rfl⟩)
      · rw [if_neg hc] at h; cases h
    · cases h
  · cases h
theorem d2_in : D2 X (rInX X.K) gIn := d2_val fun H F v w x y z Q hs hv hw hz k => by
  unfold gIn at hz
  cases q : gInB x y with
  | none => rw [q] at hz; cases hz
  | some b =>
    rw [q] at hz
    cases hz
    rcases in_ok hs hv hw q id with ⟨p, xs, h1, h2, h3, h4, h5⟩ | ⟨d, ds, h1, h2, h3, h4, h5⟩ | ⟨c, z, h1, h2, h3⟩
    · exact .inl (.inl ⟨p, xs, h1, h2, h3, h4, by rw [if_neg Bool.false_ne_true, h5]; exact k _ (.bl _)⟩)
    · exact .inl (.inr ⟨d, ds, h1, h2, h3, h4, by rw [h5]; exact k _ (.bl _)⟩)
    · exact .inr ⟨c, z, h1, h2, by rw [h3]; exact k _ (.bl _)⟩
theorem d2_nin : D2 X (rNinX X.K) gNin := d2_val fun H F v w x y z Q hs hv hw hz k => by
  unfold gNin at hz
  cases q : gInB x y with
  | none => rw [q] at hz; cases hz
  | some b =>
    rw [q] at hz
    cases hz
    rcases in_ok hs hv hw q id with ⟨p, xs, h1, h2, h3, h4, h5⟩ | ⟨d, ds, h1, h2, h3, h4, h5⟩ | ⟨c, z, h1, h2, h3⟩
    · exact .inl (.inl ⟨p, xs, h1, h2, h3, h4, by rw [if_pos rfl, h5]; exact k _ (.bl _)⟩)
    · exact .inl (.inr ⟨d, ds, h1, h2, h3, h4, by rw [h5]; exact k _ (.bl _)⟩)
    · exact .inr ⟨c, z, h1, h2, by rw [h3]; exact k _ (.bl _)⟩
end
end DL

namespace PySem
open Sem (wp)
open AutoSeq1 (wpAny_loadPart')
theorem meets_enumerate_newTup (l : Addr) (items : Array Value) (n : Nat) (dct : Option Addr) (sl : Array (Option Value)) :
    Meets (Builtin.«enumerate.__new__» ⟨[.type "enumerate", .ref l], []⟩) (fun _ R s => s.heap.get? l = some { cls := .type "tuple", dict := dct, data := .seq items n, slots := sl } ∧
      R (.ok (.ret (.ref (s.heap.push { cls := .type "tuple_iterator", data := .fields #[.ref l, .int 0 0] }).objs.size)))
        { s with heap := (s.heap.push { cls := .type "tuple_iterator", data := .fields #[.ref l, .int 0 0] }).push { cls := .type "enumerate", data := .fields #[.none, .bool false, .ref s.heap.objs.size, rawInt 0, .none, .none] } }) :=
  .of_wp fun prog w A R s h => by
    obtain ⟨hp, g, d, tk, os⟩ := s; obtain ⟨hl, h⟩ := h
    have hsub := sub_enumerate
    have hL : Heap.IsTuple (Shared.heap ⟨hp, g, d, tk, os⟩) l items := ⟨_, hl, rfl, n, rfl⟩
    wp_walk using wpAny_loadPart' hl
    refine wpAny_stack_any fun st => wpAny_pure ?_
    split
    · rename_i c _ _ _ _ _
      cases (c == Value.type "enumerate")
      · wp_walk using wpAny_loadPart' hl, wpAny_pyIter_tuple hL
        exact ⟨_, rfl, h⟩
      · wp_walk using wpAny_loadPart' hl, wpAny_pyIter_tuple hL
        exact ⟨_, rfl, h⟩
    · wp_walk using wpAny_loadPart' hl, wpAny_pyIter_tuple hL
      exact ⟨_, rfl, h⟩
theorem call_enumerate_tup {prog : Program} {w : World} {A : Around} {E : Value → Shared → Prop} {s : Shared} {l : Addr} {items : Array Value} {Q : Value → Shared → Prop} (hL : s.heap.IsTuple l items)
    (h : ∀ h', IsEnum h' (s.heap.objs.size + 1) s.heap.objs.size 0 .none → h'.IsTupleIter s.heap.objs.size l 0 → h'.objs.size = s.heap.objs.size + 2 →
      (∀ b o, s.heap.get? b = some o → h'.get? b = some o) → Q (.ref (s.heap.objs.size + 1)) { s with heap := h' }) :
    wpAny (model prog w) A (call (.type "enumerate") [.ref l]) Q E s := by
  obtain ⟨⟨c, dct, dt, sl⟩, hl, hc, n, hd⟩ := hL
  replace hc : c = .type "tuple" := hc
  replace hd : dt = .seq items n := hd
  subst hc hd
  refine callType_new F.called_enumerate (by decide) (F.typeCall_enumerate_1 _) (F.newCall_enumerate_1 _) (fun obj => F.args_object_init_2 obj _) F.entry_enumerate_new
    (meets_enumerate_newTup l items n dct sl) ⟨hl, ?_⟩
  have hz : (s.heap.push { cls := .type "tuple_iterator", data := .fields #[.ref l, .int 0 0] }).objs.size = s.heap.objs.size + 1 := Heap.size_push ..
  show _ ∧ _
  rw [hz]
  have he : IsEnum ((s.heap.push { cls := .type "tuple_iterator", data := .fields #[.ref l, .int 0 0] }).push
      { cls := .type "enumerate", data := .fields #[.none, .bool false, .ref s.heap.objs.size, rawInt 0, .none, .none] }) (s.heap.objs.size + 1) s.heap.objs.size 0 .none := by
    have := Heap.get?_push_size (s.heap.push { cls := .type "tuple_iterator", data := .fields #[.ref l, .int 0 0] })
      (o := { cls := .type "enumerate", data := .fields #[.none, .bool false, .ref s.heap.objs.size, rawInt 0, .none, .none] }) rfl
    rw [hz] at this; exact this
  refine ⟨⟨_, he, rfl⟩, h _ he ⟨_, Heap.get?_push_of_some _ (Heap.get?_push_size _ rfl), rfl, rfl⟩ (by rw [Heap.size_push, hz]) fun b o x => Heap.get?_push_of_some _ (Heap.get?_push_of_some _ x)⟩
end PySem

namespace DL
open PySem PySem.Spec PyProof.Rows L2
variable [Tab]

/-! ### enumerate(tuple) -/
def IteT (K : PySem.W.Frag) (a : Addr) : It :=
  ⟨fun i H => ∃ (xs : List V) (x : V), SqT K H a xs ∧ xs[i]? = some x, fun i H v H' => ∃ T x, v = .ref T ∧ H T = none ∧ H' = upd H T (.tup [.int (i : Nat), x]) ∧ ∀ xs, SqT K H a xs → xs[i]? = some x, fun i H => ∃ xs : List V, SqT K H a xs ∧ xs.length ≤ i⟩
theorem turn_enumT {P : Program} {w : World} {K : PySem.W.Frag} {elts : List Expr} {kk : Nat} {tpos : Pos} (a e it : Addr) :
    Turn P w K (.Tuple elts kk tpos) (IteT K a) [e, it] e (fun i h => (∃ old, IsEnum h e it ((i : Nat) : Int) old) ∧ h.IsTupleIter it a i ∧ e ≠ it ∧ a ≠ it ∧ e ≠ a) where
  mem := by simp
  obj := fun i h st b hb => by
    obtain ⟨⟨old, he⟩, ⟨o, ho, hc, hd⟩, _⟩ := st
    have e' : b = e ∨ b = it := by simpa using hb
    rcases e' with z | z
    · rw [z]; exact ⟨_, he, fun v q => nomatch q⟩
    · rw [z]; exact ⟨o, ho, fun v q => by rw [hd] at q; cases q⟩
  keep := fun i h h' st k => let ⟨⟨old, he⟩, hi, hne⟩ := st; ⟨⟨old, k e (by simp) _ he⟩, hi.at fun o q => k it (by simp) o q, hne⟩
  item := by
    intro X hP hw hK hc i pins s σ H E I hf st hg
    subst hP hw hK
    obtain ⟨⟨old, he⟩, hit, hne, hai, hea⟩ := st
    obtain ⟨xs, x, hq, hx⟩ := hg
    obtain ⟨its, rv, p, hz⟩ := I.tuple hq
    obtain ⟨u, hu, ru⟩ := rv.get hx
    have hel : e < s.heap.objs.size := Heap.lt_size he
    have hil : it < s.heap.objs.size := by obtain ⟨_, q, _⟩ := hit; exact Heap.lt_size q
    have hlt : i < its.toArray.size := by
      rw [List.size_toArray]
      exact (List.getElem?_eq_some_iff.mp hu).1
    refine wpAny_pyNext_enum_itemD (Draws.tuple (A := X.A.in1) (I.ok.hd hc) it a hai its.toArray) he ⟨hit, p⟩ hlt hne (by simp [hne, hea]) fun u' h' tk hP ho hst' hT hsz hk => ?_
    have eu : u' = u := by
      have z : its.toArray[i]? = some u' := hP
      have z2 : its.toArray[i]? = some u := by simpa using hu
      rw [z2] at z
      exact (Option.some.inj z).symm
    subst eu
    obtain ⟨hit', _⟩ := hst'
    refine ⟨_, rfl, wpAny_letOwnedTupleGo_enum (s := { s with heap := h', toks := tk + 1 }) ho fun h'' he' sb => ?_⟩
    have hT2 : h''.get? s.heap.objs.size = some { cls := .type "tuple", data := .seq #[.int i tk, u'] } := (sb.2 _ (Nat.ne_of_gt hel)).trans hT
    have new : ObjOk X.prog X.w (upd H s.heap.objs.size (.tup [.int (i : Nat), x])) h'' s.heap.objs.size (.tup [.int (i : Nat), x]) :=
      ⟨by show 2 ≤ sizeLine; decide, [.int i tk, u'], .cons ⟨_, rfl⟩ (.cons ru .nil), ⟨_, hT2, rfl, _, rfl⟩⟩
    have I1 : Inv X pins σ (upd H s.heap.objs.size (.tup [.int (i : Nat), x])) { s with heap := h'', toks := tk + 1 } :=
      I.turnedNew (ch := [e, it]) (fun b ob hb q => (sb.2 b (fun z => hb (by simp [z]))).trans (hk b ob (fun z => hb (by simp [z])) (fun z => hb (by simp [z])) q)) hf (Nat.le_refl _) new
    refine ⟨.ref s.heap.objs.size, _, I1, rfl, ⟨_, x, rfl, I.hok.fresh (Nat.le_refl _), rfl, fun ys hy => by rw [I.tuple_inj hy hq]; exact hx⟩, ⟨⟨u', ?_⟩, hit'.at fun o q => (sb.2 it (Ne.symm hne)).trans q, hne, hai, hea⟩, fun b hb => ?_⟩
    · have e1 : ((i + 1 : Nat) : Int) = (i : Int) + 1 := by omega
      rw [e1]; exact he'
    · have hb' : b < s.heap.objs.size := by
        have e' : b = e ∨ b = it := by simpa using hb
        rcases e' with z | z
        · rw [z]; exact hel
        · rw [z]; exact hil
      rw [upd_ne (Nat.ne_of_lt hb')]
      exact (hf b hb).1
  done := by
    intro X hP hw hK hc i pins s σ H E I hf st hg
    subst hP hw hK
    obtain ⟨⟨old, he⟩, hit, hne, hai, hea⟩ := st
    obtain ⟨xs, hq, hx⟩ := hg
    obtain ⟨its, rv, p, hz⟩ := I.tuple hq
    obtain ⟨f0, f1, f2, f3, f4, f5⟩ := hf it (by simp)
    have hl := rv.length
    have T := Draws.tuple (prog := X.prog) (w := X.w) (A := X.A.in1) (I.ok.hd hc) it a hai its.toArray
    have hT : s.TypeIs (.ref e) "enumerate" := ⟨_, he, rfl⟩
    unfold pyNext
    refine wpAny_bind (wpAny_attempt (wpAny_callSpecial?_slot (name := Str.ofString "__next__") hT F.slot_enumerate_next
      (wpAny_call_entry F.slot_enumerate_next hT F.entry_enumerate_next ?_ (F.args_enumerate_next_1 _))))
    show wpAny _ _ (field (.ref e) 2 >>= _) _ _ _
    refine wpAny_bind (wpAny_field he rfl (x := .ref it) rfl ?_)
    refine wpAny_bind (wpAny_nextOf_tuple_end (A := X.A.in1) (items := its.toArray) (I.ok.hd hc) hit p (by simp; omega) fun h' x he' hx' => ?_)
    obtain ⟨o, ho, hc'⟩ := hx'
    refine wpAny_bind (wpAny_isInstance (T := "StopIteration") (b := true) ⟨o, ho, hc'⟩ isSubtype_stop ?_)
    exact wpAny_pure ⟨rfl, I.turned (t' := s.toks) (fun b o hb q => he' b o hb q) f0 f1 f3 f4 f5⟩
  self := fun A i s Q E st h => let ⟨⟨_, he⟩, _⟩ := st; wpAny_pyIter_enum he h
def iEnumT (K : PySem.W.Frag) (ta : TA) : TI := fun σ H R => ta σ H fun vs H1 => ∃ a xs, vs = [.ref a] ∧ SqT K H1 a xs ∧ R (IteT K a) H1
theorem pi_enumT {X : Cx} {e : Expr} {ta : TA} {p pos tpos : Pos} {elts : List Expr} {kk : Nat} (hg : Gl X "enumerate") (hm : X.mg "enumerate" = none) (ha : PA X [e] ta) (hs : starEach [e] X.env = [(false, eval e X.env)] := by rfl) :
    PI X (.Tuple elts kk tpos) (.Call (.Name "enumerate" p) [e] [] pos) (iEnumT X.K ta) := by
  refine ⟨fun pins s σ H R I h => ?_⟩
  refine Call_ (ld_blt I hg hm boot_enumerate (PyProof.Rows.callWith_type1 (thn (ha.run pos pins s σ H _ I h) fun us s1 ⟨vs, H1, I1, r1, q1⟩ => ?_) hs rfl))
  obtain ⟨a, xs, ex, hq, q⟩ := q1
  subst ex
  cases r1 with
  | cons r rr =>
    cases rr
    cases r
    obtain ⟨its, rv, p', hz⟩ := I1.tuple hq
    have hal : a < s1.heap.objs.size := by obtain ⟨_, q, _⟩ := p'; exact Heap.lt_size q
    refine call_enumerate_tup p' fun h' he hit hsz hk => wpAny_pyIter_enum he ?_
    have I2 : Inv X pins σ H1 { s1 with heap := h' } := I1.kept (t' := s1.toks) hk
    refine ⟨s1.heap.objs.size + 1, [s1.heap.objs.size + 1, s1.heap.objs.size], _, _, H1, rfl, I2, turn_enumT a (s1.heap.objs.size + 1) s1.heap.objs.size, ⟨⟨.none, he⟩, hit, Nat.succ_ne_self _, Nat.ne_of_lt hal, Nat.ne_of_gt (Nat.lt_succ_of_lt hal)⟩, fun b hb => ?_, q⟩
    have e' : b = s1.heap.objs.size + 1 ∨ b = s1.heap.objs.size := by simpa using hb
    have hle : s1.heap.objs.size ≤ b := by
      rcases e' with z | z
      · rw [z]; exact Nat.le_add_right _ _
      · rw [z]; exact Nat.le_refl _
    exact I1.fpOk hle (I1.hok.fresh hle)
end DL

namespace DL
open PySem PySem.Spec PyProof.Rows L2
variable [Tab]
section
variable {K : PySem.W.Frag} {H F : Hp} {v : V} {d : D}

/-! ### places -/
theorem RpL.atI {vs : List V} {l : List D} {i : Int} {d : D} (r : RpL K F vs l) (h : L2.atI l i = some d) : ∃ v, L2.atI vs i = some v ∧ Rp K F v d := by
  unfold L2.atI at h ⊢
  rw [r.length]
  cases q : ixN l.length i with
  | none => rw [q] at h; cases h
  | some j =>
    rw [q] at h
    exact r.get (i := j) h
theorem atI_map {α β : Type} (f : α → β) {l : List α} {i : Int} {a : α} (h : L2.atI l i = some a) : L2.atI (l.map f) i = some (f a) := by
  unfold L2.atI at h ⊢
  rw [List.length_map]
  cases q : ixN l.length i with
  | none => rw [q] at h; cases h
  | some j =>
    rw [q] at h
    have h : l[j]? = some a := h
    show (l.map f)[j]? = some (f a)
    rw [List.getElem?_map, h]
    rfl
def cutL {α : Type} (xs : List α) (lo hi : Option Int) : List α := (xs.drop (HT.sIx xs.length 0 lo)).take (HT.sIx xs.length xs.length hi - HT.sIx xs.length 0 lo)
theorem cutL_V (xs : List V) (lo hi : Option Int) : cutV xs lo hi = cutL xs lo hi := rfl
theorem RpL.cut {vs : List V} {l : List D} (r : RpL K F vs l) (lo hi : Option Int) : RpL K F (cutV vs lo hi) (cutL l lo hi) := by
  unfold cutV cutL
  rw [r.length]
  exact (r.drop _).take _
theorem cutL_whole {α : Type} (xs : List α) {lo hi : Option Int} (h : HT.sIx xs.length 0 lo = 0 ∧ HT.sIx xs.length xs.length hi = xs.length) : cutL xs lo hi = xs := by
  unfold cutL
  rw [h.1, h.2, List.drop_zero, Nat.sub_zero, List.take_length]
end
section
variable {X : Cx} {W : WX}

@[simp] def gIx : D → D → Option D
  | .lst l, .int i => L2.atI l i
  | .tup l, .int i => L2.atI l i
  | .scr l, .int i => (L2.atI l i).map .int
  | .str z, .int i => if z.length ≤ LIM then (L2.atI z.cps.toList i).map fun c => .str ⟨#[c]⟩ else none
  | _, _ => none
theorem d2_ix : D2 X (rIx X.K) gIx := d2_val fun H F v w x y z Q hs hv hw hz k => by
  unfold gIx at hz
  split at hz
  · obtain ⟨p, vs, rfl, h1, r⟩ := hv.lst hs
    cases hw.int
    obtain ⟨u, h2, h3⟩ := r.atI hz
    exact .inl ⟨p, vs, _, u, rfl, rfl, .inl (.inl h1), h2, k u h3⟩
  · obtain ⟨p, vs, rfl, h1, r⟩ := hv.tup hs
    cases hw.int
    obtain ⟨u, h2, h3⟩ := r.atI hz
    exact .inr (.inl ⟨p, vs, _, u, rfl, rfl, h1, h2, k u h3⟩)
  · obtain ⟨p, rfl, h1⟩ := hv.scr hs
    cases hw.int
    obtain ⟨n, h2, rfl⟩ := Option.map_eq_some_iff.mp hz
    exact .inl ⟨p, _, _, .int n, rfl, rfl, h1, atI_map _ h2, k _ (.int n)⟩
  · cases hv.str
    cases hw.int
    split at hz
    · rename_i hl
      obtain ⟨n, h2, rfl⟩ := Option.map_eq_some_iff.mp hz
      exact .inr (.inr ⟨_, _, n, rfl, rfl, lim_le hl, h2, k _ (.str _)⟩)
    · cases hz
  · cases hz
theorem eok_ix {a b : Expr} {pos : Pos} {fa fb : Ev → Rx LV} (ha : EOk X W a fa) (hb : EOk X W b fb) (hs : PlainIx b := by intro _ _; rfl) : EOk X W (.Subscript a b pos) (eOp gIx fa fb) :=
  eok_op d2_ix (fun h1 h2 => pe_ix ix_seq h1 h2 hs) ha hb

/-! ### slices -/
def OSem (X : Cx) (W : WX) (t : TO) (f : Ev → Rx (Option Int)) : Prop := ∀ c σ H F env (Q : Option Int → Hp → Prop), Sim X.K c σ H F env → Post X c W σ F (fun o _ H' _ => Q o H') (f env) → t σ H Q
structure OOk (X : Cx) (W : WX) (e : Option Expr) (f : Ev → Rx (Option Int)) : Prop where
  ex : ∃ t, PO X e t ∧ OSem X W t f
def oNo : Ev → Rx (Option Int) := fun env => .ok none env
def oPt (f : Ev → Rx LV) : Ev → Rx (Option Int) := fun env => (f env).bind fun x e1 => match x with
  | .v (.int i) => .ok (some i) e1
  | _ => .no
theorem ook_no : OOk X W none oNo := ⟨_, po_none, fun c σ H F env Q S p => p H F S (Same.refl _)⟩
theorem ook_pt {e : Expr} {f : Ev → Rx LV} (h : EOk X W e f) : OOk X W (some e) (oPt f) := by
  obtain ⟨t, h1, h2⟩ := h.ex
  refine ⟨_, po_some h1, fun c σ H F env Q S p => h2 c σ H F env _ S ?_⟩
  unfold oPt at p
  cases q : f env with
  | er x => rw [q] at p; exact p
  | no => rw [q] at p; exact p.elim
  | ok x e1 =>
    rw [q] at p
    intro H1 F1 S1 s1 u hu
    rw [Rx.bind_ok] at p
    split at p
    · cases hu
      exact ⟨_, rfl, p H1 F1 S1 s1⟩
    · exact p.elim
@[simp] def gSl (x : D) (lo hi : Option Int) : Option D := match x with
  | .tup l => some (.tup (cutL l lo hi))
  | .str z => if z.length ≤ LIM then some (.str (cutS z lo hi)) else none
  | .lst l => some (.lst (cutL l lo hi))
  | _ => none
@[simp] def gSlF (x : D) (lo hi : Option Int) : Option D := match x with
  | .lst l => some (.lst (cutL l lo hi))
  | _ => none
def rSlX (K : PySem.W.Frag) : V → Option Int → Option Int → Hp → VK → Prop := fun x lo hi H Q => rSlL K x lo hi H Q ∨ (rSlA K x lo hi H Q ∨ rSlS x lo hi H Q)
theorem sl_x : SlR X (rSlX X.K) := sl_list.or (sl_tupA.or sl_str)
def eSl (fa : Ev → Rx LV) (fl fh : Ev → Rx (Option Int)) : Ev → Rx LV := fun env => (fa env).bind fun x e1 => (fl e1).bind fun lo e2 => (fh e2).bind fun hi e3 => match (rs e3 x).bind fun d => gSl d lo hi with
  | some z => .ok (.v z) e3
  | none => .no
def eSlF (fa : Ev → Rx LV) (fl fh : Ev → Rx (Option Int)) : Ev → Rx D := fun env => (fa env).bind fun x e1 => (fl e1).bind fun lo e2 => (fh e2).bind fun hi e3 => match (rs e3 x).bind fun d => gSlF d lo hi with
  | some z => .ok z e3
  | none => .no
theorem eok_sl {a : Expr} {lo hi : Option Expr} {p2 pos : Pos} {fa : Ev → Rx LV} {fl fh : Ev → Rx (Option Int)} (ha : EOk X W a fa) (hl : OOk X W lo fl) (hh : OOk X W hi fh) : EOk X W (.Subscript a (.Slice lo hi none p2) pos) (eSl fa fl fh) := by
  obtain ⟨t, h1, h2⟩ := ha.ex
  obtain ⟨tl, l1, l2⟩ := hl.ex
  obtain ⟨th, g1, g2⟩ := hh.ex
  refine ⟨_, pe_slice sl_x h1 l1 g1, fun c σ H F env Q S p => h2 c σ H F env _ S ?_⟩
  unfold eSl at p
  cases q : fa env with
  | er x => rw [q] at p; exact p
  | no => rw [q] at p; exact p.elim
  | ok x e1 =>
    rw [q] at p
    intro H1 F1 S1 s1 u hu
    refine l2 c σ H1 F1 e1 _ S1 ?_
    rw [Rx.bind_ok] at p
    cases q2 : fl e1 with
    | er x => rw [q2] at p; exact p
    | no => rw [q2] at p; exact p.elim
    | ok l e2 =>
      rw [q2] at p
      intro H2 F2 S2 s2
      refine g2 c σ H2 F2 e2 _ S2 ?_
      rw [Rx.bind_ok] at p
      cases q3 : fh e2 with
      | er x => rw [q3] at p; exact p
      | no => rw [q3] at p; exact p.elim
      | ok h e3 =>
        rw [q3] at p
        intro H3 F3 S3 s3
        rw [Rx.bind_ok] at p
        have hu3 := (hu.mono s2).mono s3
        have st := (s1.trans s2).trans s3
        cases q4 : rs e3 x with
        | none => rw [q4] at p; exact p.elim
        | some d =>
          rw [q4] at p
          have hr := S3.hrp hu3 q4
          simp only [Option.bind_some] at p
          unfold gSl at p
          split at p
          · rename_i z hz
            split at hz
            · rename_i dl
              cases hz
              obtain ⟨a0, vs, rfl, ht, r⟩ := hr.tup S3.sub
              refine .inr (.inl ⟨a0, vs, rfl, ht, fun hw => ?_, fun hw p0 hp0 => ?_⟩)
              · refine p H3 F3 S3 st _ ?_
                rcases hr with hr | ⟨a1, e, ow⟩
                · rw [r.length] at hw
                  rw [show (LV.v (.tup (cutL dl l h))) = LV.v (.tup dl) by rw [cutL_whole dl hw]]
                  exact hr
                · generalize H3 a1 = o at ow
                  cases ow
              · have S4 := S3.alloc (o := .tup (cutV vs l h)) hp0
                exact p _ _ S4 (st.trans (same_new (S3.sub.free hp0))) _ (Rp.tup (.inl (.inl upd_same)) ((r.cut l h).mono (same_new (S3.sub.free hp0))))
            · rename_i z0
              cases hr.str
              split at hz
              · rename_i hlen
                cases hz
                exact .inr (.inr ⟨_, rfl, lim_le hlen, p H3 F3 S3 st _ (Rp.str _)⟩)
              · cases hz
            · rename_i dl
              cases hz
              obtain ⟨a0, vs, rfl, ht, r⟩ := hr.lst S3.sub
              refine .inl ⟨a0, vs, rfl, .inl (.inl ht), fun p0 hp0 => ?_⟩
              have S4 := S3.alloc (o := .lst (cutV vs l h)) hp0
              exact p _ _ S4 (st.trans (same_new (S3.sub.free hp0))) _ (Rp.lst upd_same ((r.cut l h).mono (same_new (S3.sub.free hp0))))
            · cases hz
          · exact p.elim
theorem fok_sl {a : Expr} {lo hi : Option Expr} {p2 pos : Pos} {fa : Ev → Rx LV} {fl fh : Ev → Rx (Option Int)} (ha : EOk X W a fa) (hl : OOk X W lo fl) (hh : OOk X W hi fh) : FOk X W (.Subscript a (.Slice lo hi none p2) pos) (eSlF fa fl fh) := by
  obtain ⟨t, h1, h2⟩ := ha.ex
  obtain ⟨tl, l1, l2⟩ := hl.ex
  obtain ⟨th, g1, g2⟩ := hh.ex
  refine ⟨_, pe_slice sl_x h1 l1 g1, fun c σ H F env Q S p => h2 c σ H F env _ S ?_⟩
  unfold eSlF at p
  cases q : fa env with
  | er x => rw [q] at p; exact p
  | no => rw [q] at p; exact p.elim
  | ok x e1 =>
    rw [q] at p
    intro H1 F1 S1 s1 u hu
    refine l2 c σ H1 F1 e1 _ S1 ?_
    rw [Rx.bind_ok] at p
    cases q2 : fl e1 with
    | er x => rw [q2] at p; exact p
    | no => rw [q2] at p; exact p.elim
    | ok l e2 =>
      rw [q2] at p
      intro H2 F2 S2 s2
      refine g2 c σ H2 F2 e2 _ S2 ?_
      rw [Rx.bind_ok] at p
      cases q3 : fh e2 with
      | er x => rw [q3] at p; exact p
      | no => rw [q3] at p; exact p.elim
      | ok h e3 =>
        rw [q3] at p
        intro H3 F3 S3 s3
        rw [Rx.bind_ok] at p
        have hu3 := (hu.mono s2).mono s3
        have st := (s1.trans s2).trans s3
        cases q4 : rs e3 x with
        | none => rw [q4] at p; exact p.elim
        | some d =>
          rw [q4] at p
          have hr := S3.hrp hu3 q4
          simp only [Option.bind_some] at p
          unfold gSlF at p
          split at p
          · rename_i z hz
            split at hz
            · rename_i dl
              cases hz
              obtain ⟨a0, vs, rfl, ht, r⟩ := hr.lst S3.sub
              refine .inl ⟨a0, vs, rfl, .inl (.inl ht), fun p0 hp0 => ?_⟩
              obtain ⟨S4, f4⟩ := S3.fresh (o := .lst (cutV vs l h)) hp0
              exact p _ _ S4 st _ f4 (by rw [upd_same]; exact .lst (r.cut l h))
            · cases hz
          · exact p.elim
@[simp] def gRev : D → Option D
  | .lst l => some (.lst l.reverse)
  | _ => none
def eUnF (g : D → Option D) (fa : Ev → Rx LV) : Ev → Rx D := fun env => (fa env).bind fun x e1 => match (rs e1 x).bind g with
  | some z => .ok z e1
  | none => .no
theorem fok_rev {e : Expr} {k : Nat} {p1 p2 p3 pos : Pos} {fa : Ev → Rx LV} (ha : EOk X W e fa) : FOk X W (.Subscript e (.Slice none none (some (.UnaryOp .USub (.Constant (.int 1) k p1) p2)) p3) pos) (eUnF gRev fa) := by
  obtain ⟨t, h1, h2⟩ := ha.ex
  refine ⟨_, pe_revL h1, fun c σ H F env Q S p => h2 c σ H F env _ S ?_⟩
  unfold eUnF at p
  cases q : fa env with
  | er x => rw [q] at p; exact p
  | no => rw [q] at p; exact p.elim
  | ok x e1 =>
    rw [q] at p
    intro H1 F1 S1 s1 u hu
    rw [Rx.bind_ok] at p
    cases q4 : rs e1 x with
    | none => rw [q4] at p; exact p.elim
    | some d =>
      rw [q4] at p
      have hr := S1.hrp hu q4
      simp only [Option.bind_some] at p
      unfold gRev at p
      split at p
      · rename_i z hz
        split at hz
        · cases hz
          obtain ⟨a0, vs, rfl, ht, r⟩ := hr.lst S1.sub
          refine ⟨a0, vs, rfl, .inl (.inl ht), fun p0 hp0 => ?_⟩
          obtain ⟨S4, f4⟩ := S1.fresh (o := .lst vs.reverse) hp0
          exact p _ _ S4 s1 _ f4 (by rw [upd_same]; exact .lst r.reverse)
        · cases hz
      · exact p.elim

/-! ### what a loop walks -/
@[simp] def itD : D → Option (List D)
  | .lst l => some l
  | .tup l => some l
  | .scr l => some (l.map .int)
  | .str z => some (z.cps.toList.map fun c => .str ⟨#[c]⟩)
  | _ => none
def iE (f : Ev → Rx LV) : Ev → Rx (List D) := fun env => (f env).bind fun x e1 => match x with
  | .v d => match itD d with
    | some l => .ok l e1
    | none => .no
  | .s _ => .no
theorem pi_or {tg it : Expr} {a b : TI} (h : PI X tg it a) (h' : PI X tg it b) : PI X tg it (fun σ H R => a σ H R ∨ b σ H R) :=
  ⟨fun pins s σ H R I q => q.elim (h.run pins s σ H R I) (h'.run pins s σ H R I)⟩
theorem RpL.map_ints {K : PySem.W.Frag} {F : Hp} {l : List Int} {i : Nat} {d : D} {x : V} (h : (l.map D.int)[i]? = some d) (h2 : (l.map V.int)[i]? = some x) : Rp K F x d := by
  rw [List.getElem?_map] at h h2
  cases q : l[i]? with
  | none => rw [q] at h; cases h
  | some n => rw [q] at h h2; cases h; cases h2; exact .int n
theorem walks_list {K : PySem.W.Frag} {F : Hp} {a : Addr} {vs : List V} {l : List D} (h : SqL K F a vs) (r : ∀ F1, Same F F1 → ∀ (i : Nat) x d, vs[i]? = some x → l[i]? = some d → Rp K F1 x d) (hl : vs.length = l.length) : Walks K F (Itl K a) l :=
  ⟨_, _, hl ▸ walk_list (xs := vs), fun H e => same_l e h, fun i d H x H' F1 hd e1 e2 y => ⟨F1, .inl ⟨y.1, rfl⟩, r F1 e1 i x d y.2 hd⟩⟩
theorem walks_tup {K : PySem.W.Frag} {F : Hp} {a : Addr} {vs : List V} {l : List D} (h : SqT K F a vs) (r : ∀ F1, Same F F1 → ∀ (i : Nat) x d, vs[i]? = some x → l[i]? = some d → Rp K F1 x d) (hl : vs.length = l.length) : Walks K F (Itt K a) l :=
  ⟨_, _, hl ▸ walk_tup (xs := vs), fun H e => same_t e h, fun i d H x H' F1 hd e1 e2 y => ⟨F1, .inl ⟨y.1, rfl⟩, r F1 e1 i x d y.2 hd⟩⟩
theorem RpL.at2 {K : PySem.W.Frag} {F : Hp} {vs : List V} {l : List D} (r : RpL K F vs l) : ∀ F1, Same F F1 → ∀ (i : Nat) x d, vs[i]? = some x → l[i]? = some d → Rp K F1 x d := fun F1 e i x d h1 h2 => by
  obtain ⟨v, q1, q2⟩ := r.get h2
  rw [h1] at q1
  cases q1
  exact q2.mono e
theorem iok_e {tg e : Expr} {f : Ev → Rx LV} (h : EOk X W e f) : IOk X W tg e (iE f) := by
  obtain ⟨t, h1, h2⟩ := h.ex
  refine ⟨_, pi_or (pi_list h1) (pi_or (pi_tup h1) (pi_str h1)), fun c σ H F env R S p => ?_⟩
  unfold iE at p
  cases q : f env with
  | er x => rw [q] at p; exact .inl (h2 c σ H F env _ S (by rw [q]; exact p))
  | no => rw [q] at p; exact p.elim
  | ok x e1 =>
    rw [q] at p
    rw [Rx.bind_ok] at p
    cases x with
    | s j => exact p.elim
    | v d =>
      simp only at p
      cases d with
      | lst l =>
        refine .inl (h2 c σ H F env _ S ?_)
        rw [q]
        intro H1 F1 S1 s1 v hv
        cases (show Rp X.K F1 v (.lst l) from hv) with
        | @lst a vs _ h r => exact ⟨a, rfl, ⟨vs, .inl (.inl (S1.sub _ _ h))⟩, p H1 F1 S1 s1 _ (walks_list (.inl (.inl h)) r.at2 r.length)⟩
      | scr l =>
        refine .inl (h2 c σ H F env _ S ?_)
        rw [q]
        intro H1 F1 S1 s1 v hv
        cases (show Rp X.K F1 v (.scr l) from hv) with
        | @scr a _ h => exact ⟨a, rfl, ⟨_, same_l S1.sub h⟩, p H1 F1 S1 s1 _ (walks_list h (fun F1 _ i x d a b => RpL.map_ints b a) (by rw [List.length_map, List.length_map]))⟩
      | tup l =>
        refine .inr (.inl (h2 c σ H F env _ S ?_))
        rw [q]
        intro H1 F1 S1 s1 v hv
        cases (show Rp X.K F1 v (.tup l) from hv) with
        | @tup a vs _ h r => exact ⟨a, rfl, ⟨vs, same_t S1.sub h⟩, p H1 F1 S1 s1 _ (walks_tup h r.at2 r.length)⟩
      | str z =>
        refine .inr (.inr (h2 c σ H F env _ S ?_))
        rw [q]
        intro H1 F1 S1 s1 v hv
        cases (show Rp X.K F1 v (.str z) from hv)
        refine ⟨z, rfl, p H1 F1 S1 s1 _ ⟨_, _, (show (z.cps.toList.map fun c => D.str ⟨#[c]⟩).length = z.cps.size by simp) ▸ walk_str (z := z), fun _ _ => True.intro, fun i d H x H' F2 hd _ _ y => ⟨F2, .inl ⟨y.1, rfl⟩, ?_⟩⟩⟩
        obtain ⟨_, ch, hc, rfl⟩ := y
        rw [List.getElem?_map, Array.getElem?_toList, hc] at hd
        cases hd
        exact .str _
      | _ => exact p.elim
def rng (lo : Int) (n : Nat) : List D := (List.range n).map fun i => .int (lo + (i : Nat))
def rngC (lo c : Int) (n : Nat) : List D := (List.range n).map fun i => .int (lo + (i : Nat) * c)
def bg (i : Int) : Bool := decide (-(2 ^ 62) ≤ i ∧ i < 2 ^ 62)
def iRg (fa : Ev → Rx (List LV)) : Ev → Rx (List D) := fun env => (fa env).bind fun xs e1 => match allV xs with
  | some [.int j] => if bg j = true then .ok (rng 0 j.toNat) e1 else .no
  | _ => .no
def iRg2 (fa : Ev → Rx (List LV)) : Ev → Rx (List D) := fun env => (fa env).bind fun xs e1 => match allV xs with
  | some [.int i, .int j] => if bg i = true ∧ bg j = true then .ok (rng i (j - i).toNat) e1 else .no
  | _ => .no
theorem walk_rangeE {lo : Int} {n m : Nat} (h : m = n) : Walk (Itr lo n) m (fun _ => True) (YFn fun i => .int (lo + i)) := by subst h; exact walk_range
theorem walks_range {K : PySem.W.Frag} {F : Hp} (lo : Int) (n : Nat) : Walks K F (Itr lo n) (rng lo n) :=
  ⟨fun _ => True, _, walk_rangeE (by unfold rng; rw [List.length_map, List.length_range]), fun _ _ => True.intro, fun i d H x H' F1 hd _ _ y => ⟨F1, .inl ⟨y.1, rfl⟩, by
    obtain ⟨_, rfl⟩ := y
    unfold rng at hd
    rw [List.getElem?_map] at hd
    cases q : (List.range n)[i]? with
    | none => rw [q] at hd; cases hd
    | some k =>
      rw [q] at hd
      cases hd
      obtain ⟨h1, h2⟩ := List.getElem?_eq_some_iff.mp q
      rw [List.getElem_range] at h2
      subst h2
      exact .int _⟩⟩
theorem iok_rg {tg a : Expr} {p pos : Pos} {fa : Ev → Rx (List LV)} (hg : Gl X "range") (hm : X.mg "range" = none) (ha : AOk X W [a] fa) (hs : starEach [a] X.env = [(false, eval a X.env)] := by rfl) :
    IOk X W tg (.Call (.Name "range" p) [a] [] pos) (iRg fa) := by
  obtain ⟨t, h1, h2⟩ := ha.ex
  refine ⟨_, pi_range1 hg hm h1 hs, fun c σ H F env R S p => h2 c σ H F env _ S ?_⟩
  unfold iRg at p
  cases q : fa env with
  | er x => rw [q] at p; exact p
  | no => rw [q] at p; exact p.elim
  | ok xs e1 =>
    rw [q] at p
    rw [Rx.bind_ok] at p
    intro H1 F1 S1 s1 vs hvs
    split at p
    · rename_i j hj
      split at p
      · rename_i hb
        have r := allV_rp hvs hj
        cases r with
        | cons r1 r2 =>
          cases r2
          cases r1
          obtain ⟨b1, b2⟩ := of_decide_eq_true hb
          exact ⟨j, rfl, b1, b2, p H1 F1 S1 s1 _ (walks_range 0 _)⟩
      · exact p.elim
    · exact p.elim
theorem iok_rg2 {tg a b : Expr} {p pos : Pos} {fa : Ev → Rx (List LV)} (hg : Gl X "range") (hm : X.mg "range" = none) (ha : AOk X W [a, b] fa) (hs : starEach [a, b] X.env = [(false, eval a X.env), (false, eval b X.env)] := by rfl) (hs2 : starEach [b] X.env = [(false, eval b X.env)] := by rfl) :
    IOk X W tg (.Call (.Name "range" p) [a, b] [] pos) (iRg2 fa) := by
  obtain ⟨t, h1, h2⟩ := ha.ex
  refine ⟨_, pi_range2 hg hm h1 hs hs2, fun c σ H F env R S p => h2 c σ H F env _ S ?_⟩
  unfold iRg2 at p
  cases q : fa env with
  | er x => rw [q] at p; exact p
  | no => rw [q] at p; exact p.elim
  | ok xs e1 =>
    rw [q] at p
    rw [Rx.bind_ok] at p
    intro H1 F1 S1 s1 vs hvs
    split at p
    · rename_i i j hj
      split at p
      · rename_i hb
        have r := allV_rp hvs hj
        cases r with
        | cons r1 r2 =>
          cases r2 with
          | cons r2 r3 =>
            cases r3
            cases r1
            cases r2
            obtain ⟨b1, b2⟩ := of_decide_eq_true hb.1
            obtain ⟨b3, b4⟩ := of_decide_eq_true hb.2
            exact ⟨i, j, rfl, ⟨b1, b2, b3, b4⟩, p H1 F1 S1 s1 _ (walks_range _ _)⟩
      · exact p.elim
    · exact p.elim
@[simp] def enumL : Nat → List D → List D
  | _, [] => []
  | i, d :: r => .tup [.int (i : Nat), d] :: enumL (i + 1) r
theorem enumL_len : ∀ (l : List D) (i : Nat), (enumL i l).length = l.length
  | [], _ => rfl
  | _ :: r, i => congrArg (· + 1) (enumL_len r (i + 1))
theorem enumL_get : ∀ (l : List D) (i j : Nat) (d : D), (enumL i l)[j]? = some d → ∃ x, l[j]? = some x ∧ d = .tup [.int ((i + j : Nat) : Int), x]
  | [], _, _, _, h => by cases h
  | x :: r, i, 0, d, h => by cases h; exact ⟨x, rfl, rfl⟩
  | x :: r, i, j + 1, d, h => by
    obtain ⟨y, h1, h2⟩ := enumL_get r (i + 1) j d h
    exact ⟨y, h1, by rw [h2, show i + 1 + j = i + (j + 1) by omega]⟩
def iEn (fa : Ev → Rx (List LV)) : Ev → Rx (List D) := fun env => (fa env).bind fun xs e1 => match allV xs with
  | some [d] => match itD d, d with
    | some l, .lst _ => .ok (enumL 0 l) e1
    | some l, .tup _ => .ok (enumL 0 l) e1
    | some l, .scr _ => .ok (enumL 0 l) e1
    | _, _ => .no
  | _ => .no
theorem pair_grown {K : PySem.W.Frag} {H F1 : Hp} {T : Addr} {x y : V} {d e : D} (hT : H T = none) (sub : Same F1 H) (rx : Rp K F1 x d) (ry : Rp K F1 y e) :
    ∃ F', Grown H F1 (upd H T (.tup [x, y])) F' ∧ Rp K F' (.ref T) (.tup [d, e]) :=
  ⟨upd F1 T (.tup [x, y]), .inr ⟨T, HO.tup [x, y], hT, (fun _ z => nomatch z), rfl, rfl⟩, .tup (.inl (.inl upd_same)) (.cons (rx.mono (same_new (sub.free hT))) (.cons (ry.mono (same_new (sub.free hT))) .nil))⟩
theorem walks_enum {K : PySem.W.Frag} {F : Hp} {a : Addr} {vs : List V} {l : List D} (h : SqL K F a vs) (r : ∀ F1, Same F F1 → ∀ (i : Nat) x d, vs[i]? = some x → l[i]? = some d → Rp K F1 x d) (hl : vs.length = l.length) : Walks K F (Ite K a) (enumL 0 l) := by
  refine ⟨_, _, (show (enumL 0 l).length = vs.length by rw [enumL_len, hl]) ▸ walk_enum (xs := vs), fun H e => same_l e h, fun i d H x H' F1 hd e1 e2 y => ?_⟩
  obtain ⟨T, x1, y1, rfl, hT, rfl, h1, h2⟩ := y
  cases h1
  obtain ⟨z, h3, rfl⟩ := enumL_get _ _ _ _ hd
  rw [Nat.zero_add]
  exact pair_grown hT e2 (.int _) (r F1 e1 i _ _ h2 h3)
theorem walk_enumT {K : PySem.W.Frag} {a : Addr} {xs : List V} : Walk (IteT K a) xs.length (fun H => SqT K H a xs) (YPair (fun i => some (.int (i : Nat))) (fun i => xs[i]?)) := by
  refine ⟨fun i _ hi q => ⟨xs, xs[i], q, by simp [hi]⟩, fun _ q => ⟨xs, q, Nat.le_refl _⟩, fun i H v H' _ q y => ?_⟩
  obtain ⟨T, x, h1, h2, h3, h4⟩ := y
  exact ⟨T, .int (i : Nat), x, h1, h2, h3, rfl, h4 xs q⟩
theorem walks_enumT {K : PySem.W.Frag} {F : Hp} {a : Addr} {vs : List V} {l : List D} (h : SqT K F a vs) (r : ∀ F1, Same F F1 → ∀ (i : Nat) x d, vs[i]? = some x → l[i]? = some d → Rp K F1 x d) (hl : vs.length = l.length) : Walks K F (IteT K a) (enumL 0 l) := by
  refine ⟨_, _, (show (enumL 0 l).length = vs.length by rw [enumL_len, hl]) ▸ walk_enumT (xs := vs), fun H e => same_t e h, fun i d H x H' F1 hd e1 e2 y => ?_⟩
  obtain ⟨T, x1, y1, rfl, hT, rfl, h1, h2⟩ := y
  cases h1
  obtain ⟨z, h3, rfl⟩ := enumL_get _ _ _ _ hd
  rw [Nat.zero_add]
  exact pair_grown hT e2 (.int _) (r F1 e1 i _ _ h2 h3)
theorem iok_en {e : Expr} {p pos tpos : Pos} {elts : List Expr} {kk : Nat} {fa : Ev → Rx (List LV)} (hg : Gl X "enumerate") (hm : X.mg "enumerate" = none) (ha : AOk X W [e] fa) (hs : starEach [e] X.env = [(false, eval e X.env)] := by rfl) :
    IOk X W (.Tuple elts kk tpos) (.Call (.Name "enumerate" p) [e] [] pos) (iEn fa) := by
  obtain ⟨t, h1, h2⟩ := ha.ex
  refine ⟨_, pi_or (pi_enum hg hm h1 hs) (pi_enumT hg hm h1 hs), fun c σ H F env R S p => ?_⟩
  unfold iEn at p
  cases q : fa env with
  | er x => rw [q] at p; exact .inl (h2 c σ H F env _ S (by rw [q]; exact p))
  | no => rw [q] at p; exact p.elim
  | ok xs e1 =>
    rw [q] at p
    rw [Rx.bind_ok] at p
    split at p
    · rename_i d hd
      split at p
      · rename_i l0 l hi
        cases hi
        refine .inl (h2 c σ H F env _ S ?_)
        rw [q]
        intro H1 F1 S1 s1 vs hvs
        have r := allV_rp hvs hd
        cases r with
        | cons r1 r2 =>
          cases r2
          cases r1 with
          | @lst a vs _ h r => exact ⟨a, vs, rfl, .inl (.inl (S1.sub _ _ h)), p H1 F1 S1 s1 _ (walks_enum (.inl (.inl h)) r.at2 r.length)⟩
      · rename_i l0 l hi
        cases hi
        refine .inr (h2 c σ H F env _ S ?_)
        rw [q]
        intro H1 F1 S1 s1 vs hvs
        have r := allV_rp hvs hd
        cases r with
        | cons r1 r2 =>
          cases r2
          cases r1 with
          | @tup a vs _ h r => exact ⟨a, vs, rfl, same_t S1.sub h, p H1 F1 S1 s1 _ (walks_enumT h r.at2 r.length)⟩
      · rename_i l0 l hi
        cases hi
        refine .inl (h2 c σ H F env _ S ?_)
        rw [q]
        intro H1 F1 S1 s1 vs hvs
        have r := allV_rp hvs hd
        cases r with
        | cons r1 r2 =>
          cases r2
          cases r1 with
          | @scr a _ h => exact ⟨a, _, rfl, same_l S1.sub h, p H1 F1 S1 s1 _ (walks_enum h (fun F1 _ i x d a b => RpL.map_ints b a) (by rw [List.length_map, List.length_map]))⟩
      · exact p.elim
    · exact p.elim
end
end DL

namespace DL
open PySem PySem.Spec PyProof.Rows L2
variable [Tab]

/-! ### calls of built-ins -/
section
variable {X : Cx} {W : WX}
/-- rules that leave the heap -/
theorem dc_val {r : List V → Hp → VK → Prop} {g : List D → Option D} (h : ∀ H F vs l z (Q : VK), Same F H → Paired (HRp X.K H F) vs l → g l = some z → (∀ u, Rp X.K F u z → Q u H) → r vs H Q) : DC X r g :=
  fun c σ H F env vs l z Q S hv hz k => h H F vs l z Q S.sub hv hz fun u ru => k u H F S (Same.refl _) ru
theorem p1 {K : PySem.W.Frag} {H F : Hp} {vs : List V} {d : D} (h : Paired (HRp K H F) vs [d]) : ∃ v, vs = [v] ∧ HRp K H F v d := by
  cases h with
  | cons a b => cases b; exact ⟨_, rfl, a⟩
theorem p2 {K : PySem.W.Frag} {H F : Hp} {vs : List V} {d e : D} (h : Paired (HRp K H F) vs [d, e]) : ∃ v w, vs = [v, w] ∧ HRp K H F v d ∧ HRp K H F w e := by
  cases h with
  | cons a b => obtain ⟨w, rfl, q⟩ := p1 b; exact ⟨_, w, rfl, a, q⟩
@[simp] def lenD : D → Option Nat
  | .lst l => some l.length
  | .tup l => some l.length
  | .scr l => some l.length
  | .str z => if z.length ≤ LIM then some z.length else none
  | _ => none
@[simp] def gLen : List D → Option D
  | [d] => (lenD d).map fun n => .int (n : Nat)
  | _ => none
theorem dc_len : DC X (fun xs H Q => ∃ x n, xs = [x] ∧ LenV X.K x H n ∧ Q (.int n) H) gLen := dc_val fun H F vs l z Q hs hv hz k => by
  unfold gLen at hz
  split at hz
  · replace hv := p1 hv; obtain ⟨v, rfl, hv⟩ := hv
    obtain ⟨n, h1, rfl⟩ := Option.map_eq_some_iff.mp hz
    unfold lenD at h1
    split at h1
    · cases h1
      obtain ⟨p, vs, rfl, h2, r⟩ := hv.lst hs
      exact ⟨_, _, rfl, .inl ⟨vs, .inl (.inl h2), r.length.symm⟩, k _ (.int _)⟩
    · cases h1
      obtain ⟨p, vs, rfl, h2, r⟩ := hv.tup hs
      exact ⟨_, _, rfl, .inr ⟨vs, h2, r.length.symm⟩, k _ (.int _)⟩
    · cases h1
      obtain ⟨p, rfl, h2⟩ := hv.scr hs
      exact ⟨_, _, rfl, .inl ⟨_, h2, (List.length_map _).symm⟩, k _ (.int _)⟩
    · cases hv.str
      split at h1
      · rename_i hl
        cases h1
        exact ⟨_, _, rfl, ⟨lim_le hl, rfl⟩, k _ (.int _)⟩
      · cases h1
    · cases h1
  · cases hz
@[simp] def gAbs : List D → Option D
  | [.int i] => some (.int (if i < 0 then -i else i))
  | _ => none
theorem dc_abs : DC X (fun xs H Q => ∃ i, xs = [.int i] ∧ Q (.int (if i < 0 then -i else i)) H) gAbs := dc_val fun H F vs l z Q hs hv hz k => by
  unfold gAbs at hz
  split at hz
  · cases hz
    replace hv := p1 hv; obtain ⟨v, rfl, hv⟩ := hv
    cases hv.int
    exact ⟨_, rfl, k _ (.int _)⟩
  · cases hz
@[simp] def gMax2 : List D → Option D
  | [.int i, .int j] => some (.int (if j > i then j else i))
  | _ => none
@[simp] def gMin2 : List D → Option D
  | [.int i, .int j] => some (.int (if j < i then j else i))
  | _ => none
theorem dc_max2 : DC X (fun xs H Q => ∃ i j, xs = [.int i, .int j] ∧ Q (.int (if j > i then j else i)) H) gMax2 := dc_val fun H F vs l z Q hs hv hz k => by
  unfold gMax2 at hz
  split at hz
  · cases hz
    replace hv := p2 hv; obtain ⟨v, w, rfl, hv, hw⟩ := hv
    cases hv.int
    cases hw.int
    exact ⟨_, _, rfl, k _ (.int _)⟩
  · cases hz
theorem dc_min2 : DC X (fun xs H Q => ∃ i j, xs = [.int i, .int j] ∧ Q (.int (if j < i then j else i)) H) gMin2 := dc_val fun H F vs l z Q hs hv hz k => by
  unfold gMin2 at hz
  split at hz
  · cases hz
    replace hv := p2 hv; obtain ⟨v, w, rfl, hv, hw⟩ := hv
    cases hv.int
    cases hw.int
    exact ⟨_, _, rfl, k _ (.int _)⟩
  · cases hz
def rIntX : List V → Hp → VK → Prop := fun xs H Q => ((∃ i, xs = [.int i] ∧ Q (.int i) H) ∨ ∃ k, xs = [.bl k] ∧ Q (.int (if k then 1 else 0)) H) ∨ ∃ a n, xs = [.str a] ∧ PySem.intText? a = some n ∧ a.length ≤ 640 ∧ Q (.int n) H
theorem call_intX : CallR X (.type "int") rIntX := call_int1.or call_int_str
@[simp] def gInt1 : List D → Option D
  | [.int i] => some (.int i)
  | [.bl b] => some (.int (if b then 1 else 0))
  | [.str a] => if a.length ≤ 640 then (PySem.intText? a).map .int else none
  | _ => none
theorem dc_int1 : DC X rIntX gInt1 := dc_val fun H F vs l z Q hs hv hz k => by
  unfold gInt1 at hz
  split at hz
  · cases hz
    replace hv := p1 hv; obtain ⟨v, rfl, hv⟩ := hv
    cases hv.int
    exact .inl (.inl ⟨_, rfl, k _ (.int _)⟩)
  · cases hz
    replace hv := p1 hv; obtain ⟨v, rfl, hv⟩ := hv
    cases hv.bl
    exact .inl (.inr ⟨_, rfl, k _ (.int _)⟩)
  · split at hz
    · rename_i hl
      replace hv := p1 hv; obtain ⟨v, rfl, hv⟩ := hv
      cases hv.str
      obtain ⟨n, h1, rfl⟩ := Option.map_eq_some_iff.mp hz
      exact .inr ⟨_, n, rfl, h1, hl, k _ (.int _)⟩
    · cases hz
  · cases hz
def strOfInt (i : Int) : Str := (toString i : String)
@[simp] def gStr1 : List D → Option D
  | [.int i] => if i.natAbs.log2 < 1920 then some (.str (strOfInt i)) else none
  | _ => none
theorem dc_str1 : DC X (fun xs H Q => ∃ i, xs = [.int i] ∧ i.natAbs.log2 < 1920 ∧ Q (.str (toString i)) H) gStr1 := dc_val fun H F vs l z Q hs hv hz k => by
  unfold gStr1 at hz
  split at hz
  · split at hz
    · rename_i hl
      cases hz
      replace hv := p1 hv; obtain ⟨v, rfl, hv⟩ := hv
      cases hv.int
      exact ⟨_, rfl, hl, k _ (.str _)⟩
    · cases hz
  · cases hz
def rTupX (K : PySem.W.Frag) : List V → Hp → VK → Prop := fun xs H Q => ∃ p ys, xs = [.ref p] ∧ ((SqL K H p ys ∧ ∀ l, H l = none → Q (.ref l) (upd H l (.tup ys))) ∨ (SqT K H p ys ∧ Q (.ref p) H))
@[simp] def gTup1 : List D → Option D
  | [.lst l] => some (.tup l)
  | [.tup l] => some (.tup l)
  | [.scr l] => some (.tup (l.map .int))
  | _ => none
theorem dc_tup1 : DC X (rTupX X.K) gTup1 := fun c σ H F env vs l z Q S hv hz k => by
  unfold gTup1 at hz
  split at hz
  · cases hz
    replace hv := p1 hv; obtain ⟨v, rfl, hv⟩ := hv
    obtain ⟨p, ws, rfl, h1, r⟩ := hv.lst S.sub
    exact ⟨p, ws, rfl, .inl ⟨.inl (.inl h1), fun q hq => k _ _ _ (S.alloc hq) (same_new (S.sub.free hq)) (.tup (.inl (.inl upd_same)) (r.mono (same_new (S.sub.free hq))))⟩⟩
  · cases hz
    replace hv := p1 hv; obtain ⟨v, rfl, hv⟩ := hv
    rcases id hv with hv' | ⟨a1, e, ow⟩
    · obtain ⟨p, ws, rfl, h1, r⟩ := hv.tup S.sub
      exact ⟨p, ws, rfl, .inr ⟨h1, k _ _ _ S (Same.refl _) hv'⟩⟩
    · generalize H a1 = o at ow
      cases ow
  · cases hz
    replace hv := p1 hv; obtain ⟨v, rfl, hv⟩ := hv
    obtain ⟨p, rfl, h1⟩ := hv.scr S.sub
    exact ⟨p, _, rfl, .inl ⟨h1, fun q hq => k _ _ _ (S.alloc hq) (same_new (S.sub.free hq)) (.tup (.inl (.inl upd_same)) RpL.of_ints)⟩⟩
  · cases hz
def rLstX (K : PySem.W.Frag) : List V → Hp → VK → Prop := fun xs H Q => ∃ p ys, xs = [.ref p] ∧ (SqL K H p ys ∨ SqT K H p ys) ∧ ∀ l, H l = none → Q (.ref l) (upd H l (.lst ys))
@[simp] def gLst1 : List D → Option D
  | [.lst l] => some (.lst l)
  | [.tup l] => some (.lst l)
  | [.scr l] => some (.lst (l.map .int))
  | _ => none
theorem dcf_lst1 : DCF X (rLstX X.K) gLst1 := fun c σ H F env vs l z Q S hv hz k => by
  unfold gLst1 at hz
  split at hz
  · cases hz
    replace hv := p1 hv; obtain ⟨v, rfl, hv⟩ := hv
    obtain ⟨p, ws, rfl, h1, r⟩ := hv.lst S.sub
    refine ⟨p, ws, rfl, .inl (.inl (.inl h1)), fun q hq => ?_⟩
    obtain ⟨S4, f4⟩ := S.fresh (o := .lst ws) hq
    exact k _ _ _ S4 (Same.refl _) f4 (by rw [upd_same]; exact .lst r)
  · cases hz
    replace hv := p1 hv; obtain ⟨v, rfl, hv⟩ := hv
    obtain ⟨p, ws, rfl, h1, r⟩ := hv.tup S.sub
    refine ⟨p, ws, rfl, .inr h1, fun q hq => ?_⟩
    obtain ⟨S4, f4⟩ := S.fresh (o := .lst ws) hq
    exact k _ _ _ S4 (Same.refl _) f4 (by rw [upd_same]; exact .lst r)
  · cases hz
    replace hv := p1 hv; obtain ⟨v, rfl, hv⟩ := hv
    obtain ⟨p, rfl, h1⟩ := hv.scr S.sub
    refine ⟨p, _, rfl, .inl h1, fun q hq => ?_⟩
    obtain ⟨S4, f4⟩ := S.fresh (o := .lst _) hq
    exact k _ _ _ S4 (Same.refl _) f4 (by rw [upd_same]; exact .lst RpL.of_ints)
  · cases hz

/-! isinstance -/
inductive TN where
  | non | bl | int | str | tup | lst | dct
deriving DecidableEq
def TN.s : TN → String
  | .non => "NoneType" | .bl => "bool" | .int => "int" | .str => "str" | .tup => "tuple" | .lst => "list" | .dct => "dict"
@[simp] def tyN : D → Option TN
  | .non => some .non
  | .bl _ => some .bl
  | .int _ => some .int
  | .str _ => some .str
  | .tup _ => some .tup
  | .lst _ => some .lst
  | .scr _ => some .lst
  | .dcK _ => some .dct
  | .dcT _ => some .dct
  | .ty _ => none
  | .ad _ => none
@[simp] def isiT (a b : TN) : Bool := a == b || (a == .bl && b == .int)
theorem kit_all (a b : TN) (h : b ≠ .non) : kitB a.s b.s = some (isiT a b) := by
  cases b with
  | non => exact absurd rfl h
  | _ => cases a <;> decide +kernel
theorem tyN_x {K : PySem.W.Frag} {H F : Hp} {v : V} {x : D} {a : TN} (hs : Same F H) (hv : HRp K H F v x) (h : tyN x = some a) : TyX K H v (.type a.s) := by
  cases x with
  | non => cases h; cases hv.non; exact .base .non
  | bl b => cases h; cases hv.bl; exact .base (.bl _)
  | int b => cases h; cases hv.int; exact .base (.int _)
  | str b => cases h; cases hv.str; exact .base (.str _)
  | tup l =>
    cases h
    obtain ⟨p, vs, rfl, h1, _⟩ := hv.tup hs
    rcases h1 with (h1 | ⟨o, h1⟩) | ⟨o, its, n, h1, h2, _⟩
    · exact .base (.tup h1)
    · exact .fTuple h1
    · exact .kTuple h1 h2
  | lst l =>
    cases h
    obtain ⟨p, vs, rfl, h1, _⟩ := hv.lst hs
    exact .base (.lst h1)
  | scr l =>
    cases h
    obtain ⟨p, rfl, h1⟩ := hv.scr hs
    rcases h1 with (h1 | ⟨o, h1⟩) | ⟨o, its, n, h1, h2, _⟩
    · exact .base (.lst h1)
    · exact .base (.frz h1)
    · exact .kList h1 h2
  | ty n => cases h
  | ad n => cases h
  | dcK l =>
    cases h
    rcases hv with hv | ⟨p, rfl, ow⟩
    · cases hv with
      | dcK h1 _ => exact .base (.dK (hs _ _ h1))
    · generalize e : H p = o at ow
      cases ow
      exact .base (.dK e)
  | dcT l =>
    cases h
    rcases hv with hv | ⟨p, rfl, ow⟩
    · cases hv with
      | dcT h1 _ => exact .base (.dT (hs _ _ h1))
    · generalize e : H p = o at ow
      cases ow
      exact .base (.dT e)
/-- isinstance(x, T), T a built-in type's name -/
def gIsi (T : TN) : List D → Option D
  | [x, .ty _] => (tyN x).map fun a => .bl (isiT a T)
  | _ => none
def eIsi (T : TN) (f : Ev → Rx LV) : Ev → Rx LV := fun env => (f env).bind fun x e1 => match (rs e1 x).bind tyN with
  | some a => .ok (.v (.bl (isiT a T))) e1
  | none => .no
theorem eok_isi {e : Expr} {x : Str} {p p2 pos : Pos} {f : Ev → Rx LV} (T : TN) (hT : T ≠ .non) (hg : Gl X "isinstance") (hm : X.mg "isinstance" = none) (hg2 : Gl X x) (hm2 : X.mg x = none) (hv2 : bootBuiltins x = some (.type T.s)) (h : EOk X W e f)
    (he : starEach (e :: [.Name x p2]) X.env = (false, eval e X.env) :: starEach [.Name x p2] X.env := by rfl) (hpl : (backTo pos (starEach [.Name x p2] X.env)).any (·.1) = false := by rfl)
    (hs2 : starEach [.Name x p2] X.env = (false, eval (.Name x p2) X.env) :: starEach [] X.env := by rfl) (hn : x ≠ "__name__" := by decide) (hdb : (x == ("__debug__" : Str)) = false := by decide) :
    EOk X W (.Call (.Name "isinstance" p) [e, .Name x p2] [] pos) (eIsi T f) := by
  obtain ⟨t, h1, h2⟩ := h.ex
  refine ⟨_, pe_callB call_isi hg hm PyProof.Rows.boot_isinstance (pa_cons h1 (pa_cons (pe_bltn (v := .ty T.s) hg2 hm2 hv2 rfl hn hdb) pa_nil hs2) he) (by decide) (by decide) he hpl, fun c σ H F env Q S p => h2 c σ H F env _ S ?_⟩
  unfold eIsi at p
  cases q : f env with
  | er x => rw [q] at p; exact p
  | no => rw [q] at p; exact p.elim
  | ok x e1 =>
    rw [q] at p
    rw [Rx.bind_ok] at p
    intro H1 F1 S1 s1 v hv
    cases q2 : rs e1 x with
    | none => rw [q2] at p; exact p.elim
    | some d =>
      rw [q2] at p
      simp only [Option.bind_some] at p
      cases q3 : tyN d with
      | none => rw [q3] at p; exact p.elim
      | some a =>
        rw [q3] at p
        exact ⟨v, .ty T.s, _, _, isiT a T, rfl, .ty _, tyN_x S1.sub (S1.hrp hv q2) q3, kit_ty (kit_all a T hT), p H1 F1 S1 s1 _ (.bl _)⟩

/-! lists of flat values -/
@[simp] def blL : List D → Option (List Bool)
  | [] => some []
  | .bl b :: r => (blL r).map (b :: ·)
  | _ => none
@[simp] def inL : List D → Option (List Int)
  | [] => some []
  | .int b :: r => (inL r).map (b :: ·)
  | _ => none
@[simp] def stL : List D → Option (List Str)
  | [] => some []
  | .str b :: r => (stL r).map (b :: ·)
  | _ => none
theorem blL_eq : ∀ {l : List D} {bs : List Bool}, blL l = some bs → l = bs.map .bl
  | [], _, h => by cases h; rfl
  | d :: r, bs, h => by
    cases d with
    | bl b => obtain ⟨cs, h1, rfl⟩ := Option.map_eq_some_iff.mp h; rw [blL_eq h1]; rfl
    | _ => cases h
theorem inL_eq : ∀ {l : List D} {bs : List Int}, inL l = some bs → l = bs.map .int
  | [], _, h => by cases h; rfl
  | d :: r, bs, h => by
    cases d with
    | int b => obtain ⟨cs, h1, rfl⟩ := Option.map_eq_some_iff.mp h; rw [inL_eq h1]; rfl
    | _ => cases h
theorem stL_eq : ∀ {l : List D} {bs : List Str}, stL l = some bs → l = bs.map .str
  | [], _, h => by cases h; rfl
  | d :: r, bs, h => by
    cases d with
    | str b => obtain ⟨cs, h1, rfl⟩ := Option.map_eq_some_iff.mp h; rw [stL_eq h1]; rfl
    | _ => cases h
theorem blL_map (bs : List Bool) : blL (bs.map .bl) = some bs := by
  induction bs with
  | nil => rfl
  | cons b r ih => show (blL (r.map .bl)).map (b :: ·) = _; rw [ih]; rfl
theorem inL_map (bs : List Int) : inL (bs.map .int) = some bs := by
  induction bs with
  | nil => rfl
  | cons b r ih => show (inL (r.map .int)).map (b :: ·) = _; rw [ih]; rfl
theorem stL_map (bs : List Str) : stL (bs.map .str) = some bs := by
  induction bs with
  | nil => rfl
  | cons b r ih => show (stL (r.map .str)).map (b :: ·) = _; rw [ih]; rfl
@[simp] def gAll : List D → Option D
  | [.lst l] => (blL l).map fun bs => .bl (bs.all id)
  | _ => none
@[simp] def gAny : List D → Option D
  | [.lst l] => (blL l).map fun bs => .bl (bs.any id)
  | _ => none
theorem dc_all : DC X (rAll X.K) gAll := dc_val fun H F vs l z Q hs hv hz k => by
  unfold gAll at hz
  split at hz
  · replace hv := p1 hv; obtain ⟨v, rfl, hv⟩ := hv
    obtain ⟨p, ws, rfl, h1, r⟩ := hv.lst hs
    obtain ⟨bs, h2, rfl⟩ := Option.map_eq_some_iff.mp hz
    rw [blL_eq h2] at r
    rw [r.bls] at h1
    exact ⟨p, bs, rfl, .inl (.inl h1), k _ (.bl _)⟩
  · cases hz
theorem dc_any : DC X (rAny X.K) gAny := dc_val fun H F vs l z Q hs hv hz k => by
  unfold gAny at hz
  split at hz
  · replace hv := p1 hv; obtain ⟨v, rfl, hv⟩ := hv
    obtain ⟨p, ws, rfl, h1, r⟩ := hv.lst hs
    obtain ⟨bs, h2, rfl⟩ := Option.map_eq_some_iff.mp hz
    rw [blL_eq h2] at r
    rw [r.bls] at h1
    exact ⟨p, bs, rfl, .inl (.inl h1), k _ (.bl _)⟩
  · cases hz
@[simp] def seqI : D → Option (List Int)
  | .lst l => inL l
  | .scr l => some l
  | _ => none
theorem seqI_ok {K : PySem.W.Frag} {H F : Hp} {v : V} {d : D} {ns : List Int} (hs : Same F H) (hv : HRp K H F v d) (h : seqI d = some ns) : ∃ p, v = .ref p ∧ SqL K H p (ns.map V.int) := by
  unfold seqI at h
  split at h
  · obtain ⟨p, ws, rfl, h1, r⟩ := hv.lst hs
    rw [inL_eq h] at r
    rw [r.ints] at h1
    exact ⟨p, rfl, .inl (.inl h1)⟩
  · cases h
    exact hv.scr hs
  · cases h
@[simp] def gSum : List D → Option D
  | [d] => (seqI d).map fun ns => .int ns.sum
  | _ => none
theorem dc_sum : DC X (rSum X.K) gSum := dc_val fun H F vs l z Q hs hv hz k => by
  unfold gSum at hz
  split at hz
  · replace hv := p1 hv; obtain ⟨v, rfl, hv⟩ := hv
    obtain ⟨ns, h2, rfl⟩ := Option.map_eq_some_iff.mp hz
    obtain ⟨p, rfl, h1⟩ := seqI_ok hs hv h2
    exact ⟨p, ns, rfl, h1, k _ (.int _)⟩
  · cases hz
@[simp] def gMax1 : List D → Option D
  | [d] => match seqI d with
    | some (n :: r) => some (.int (r.foldl (fun a b => if b > a then b else a) n))
    | _ => none
  | _ => none
@[simp] def gMin1 : List D → Option D
  | [d] => match seqI d with
    | some (n :: r) => some (.int (r.foldl (fun a b => if b < a then b else a) n))
    | _ => none
  | _ => none
theorem foldmax : ∀ (r : List Int) (n m : Int), m ∈ n :: r → (∀ y ∈ n :: r, y ≤ m) → r.foldl (fun a b => if b > a then b else a) n = m
  | [], n, m, h, _ => (List.mem_singleton.mp h).symm
  | b :: r, n, m, h, h2 => by
    show r.foldl _ (if b > n then b else n) = m
    refine foldmax r _ m ?_ fun y hy => ?_
    · have hb := h2 b (by simp)
      have hn := h2 n (by simp)
      rcases List.mem_cons.mp h with rfl | h
      · rw [if_neg (by omega)]; exact List.mem_cons_self ..
      · rcases List.mem_cons.mp h with rfl | h
        · split
          · exact List.mem_cons_self ..
          · have : n = m := by omega
            rw [this]; exact List.mem_cons_self ..
        · exact List.mem_cons_of_mem _ h
    · rcases List.mem_cons.mp hy with rfl | hy
      · split
        · exact h2 _ (by simp)
        · exact h2 _ (by simp)
      · exact h2 y (by simp [hy])
theorem foldmin : ∀ (r : List Int) (n m : Int), m ∈ n :: r → (∀ y ∈ n :: r, m ≤ y) → r.foldl (fun a b => if b < a then b else a) n = m
  | [], n, m, h, _ => (List.mem_singleton.mp h).symm
  | b :: r, n, m, h, h2 => by
    show r.foldl _ (if b < n then b else n) = m
    refine foldmin r _ m ?_ fun y hy => ?_
    · have hb := h2 b (by simp)
      have hn := h2 n (by simp)
      rcases List.mem_cons.mp h with rfl | h
      · rw [if_neg (by omega)]; exact List.mem_cons_self ..
      · rcases List.mem_cons.mp h with rfl | h
        · split
          · exact List.mem_cons_self ..
          · have : n = m := by omega
            rw [this]; exact List.mem_cons_self ..
        · exact List.mem_cons_of_mem _ h
    · rcases List.mem_cons.mp hy with rfl | hy
      · split
        · exact h2 _ (by simp)
        · exact h2 _ (by simp)
      · exact h2 y (by simp [hy])
theorem dc_max1 : DC X (rMax X.K) gMax1 := dc_val fun H F vs l z Q hs hv hz k => by
  unfold gMax1 at hz
  split at hz
  · replace hv := p1 hv; obtain ⟨v, rfl, hv⟩ := hv
    split at hz
    · rename_i n r hq
      cases hz
      obtain ⟨p, rfl, h1⟩ := seqI_ok hs hv hq
      exact ⟨p, _, rfl, h1, Nat.succ_pos _, fun m h2 h3 => by rw [foldmax r n m h2 h3] at k; exact k _ (.int _)⟩
    · cases hz
  · cases hz
theorem dc_min1 : DC X (rMin X.K) gMin1 := dc_val fun H F vs l z Q hs hv hz k => by
  unfold gMin1 at hz
  split at hz
  · replace hv := p1 hv; obtain ⟨v, rfl, hv⟩ := hv
    split at hz
    · rename_i n r hq
      cases hz
      obtain ⟨p, rfl, h1⟩ := seqI_ok hs hv hq
      exact ⟨p, _, rfl, h1, Nat.succ_pos _, fun m h2 h3 => by rw [foldmin r n m h2 h3] at k; exact k _ (.int _)⟩
    · cases hz
  · cases hz

/-! join -/
@[simp] def gJoin (x y : D) : Option D := match x, y with
  | .str a, .lst l => match stL l with
    | some ys => if (ys.map (·.length)).sum + ys.length * a.length ≤ 16777216 then some (.str (Str.join a ys)) else none
    | none => none
  | _, _ => none
def eJoin (fo fe : Ev → Rx LV) : Ev → Rx LV := fun env => (fo env).bind fun x e1 => (match x with | .v (.str a) => Rx.ok a e1 | _ => Rx.no).bind fun a e1 => (fe e1).bind fun y e2 => op2 gJoin e2 (.v (.str a)) y
theorem eok_join {o e : Expr} {apos pos : Pos} {fo fe : Ev → Rx LV} (ho : EOk X W o fo) (he : EOk X W e fe) (hs : starEach [e] X.env = [(false, eval e X.env)] := by rfl) (hbase : attributeBase o "join" X.env (eval o X.env) = eval o X.env := by rfl) (hline : (apos.endLine == pos.line) = true := by rfl)
    : EOk X W (.Call (.Attribute o "join" apos) [e] [] pos) (eJoin fo fe) := by
  obtain ⟨t, h1, h2⟩ := ho.ex
  obtain ⟨u, g1, g2⟩ := he.ex
  refine ⟨_, pe_join h1 g1 hs hbase hline, fun c σ H F env Q S p => h2 c σ H F env _ S ?_⟩
  unfold eJoin at p
  cases q : fo env with
  | er x => simp only [q] at p; exact p
  | no => simp only [q] at p; exact p.elim
  | ok x e1 =>
    simp only [q, Rx.bind_ok] at p
    intro H1 F1 S1 s1 v hv
    split at p
    · rename_i a
      simp only [Rx.bind_ok] at p
      have ev : v = .str a := by cases (show Rp X.K F1 v (.str a) from hv); rfl
      subst ev
      refine ⟨⟨a, rfl⟩, g2 c σ H1 F1 e1 _ S1 ?_⟩
      cases q2 : fe e1 with
      | er x => simp only [q2] at p; exact p
      | no => simp only [q2] at p; exact p.elim
      | ok y e2 =>
        simp only [q2, Rx.bind_ok] at p
        intro H2 F2 S2 s2 w hw
        cases q3 : rs e2 y with
        | none => unfold op2 at p; rw [q3] at p; exact p.elim
        | some d =>
          unfold op2 at p
          rw [q3, show rs e2 (.v (.str a)) = some (.str a) from rfl] at p
          cases hz : gJoin (.str a) d with
          | none => simp only [hz] at p; exact p.elim
          | some z =>
            simp only [hz] at p
            cases d with
            | lst l =>
              simp only [gJoin] at hz
              split at hz
              · rename_i ys hys
                split at hz
                · rename_i hlen
                  cases hz
                  obtain ⟨p0, ws, rfl, h5, r⟩ := (S2.hrp hw q3).lst S2.sub
                  rw [stL_eq hys] at r
                  rw [r.strs] at h5
                  refine ⟨a, p0, ys, rfl, rfl, .inl (.inl (.inl h5)), hlen, ?_⟩
                  rw [TL.join_eq]
                  exact p H2 F2 S2 (s1.trans s2) _ (.str _)
                · cases hz
              · cases hz
            | _ => cases hz
    · exact p.elim
end
end DL

namespace DL
open PySem PySem.Spec PyProof.Rows L2
variable [Tab]

/-! ### len(set(xs)), xs a list of tuples of ints -/
@[simp] def tupI : List D → Option (List (List Int))
  | [] => some []
  | .tup l :: r => match inL l, tupI r with
    | some k, some ks => some (k :: ks)
    | _, _ => none
  | _ => none
def dis : List (List Int) → List (List Int)
  | [] => []
  | k :: r => if k ∈ dis r then dis r else k :: dis r
theorem dis_mem (k : List Int) : ∀ l, k ∈ dis l ↔ k ∈ l
  | [] => Iff.rfl
  | x :: r => by
    have ih := dis_mem k r
    show k ∈ (if x ∈ dis r then dis r else x :: dis r) ↔ _
    split
    · rename_i h
      rw [ih, List.mem_cons]
      exact ⟨.inr, fun h2 => h2.elim (fun e => by rw [e]; exact (dis_mem x r).mp h) _root_.id⟩
    · rw [List.mem_cons, List.mem_cons, ih]
theorem dis_nd : ∀ l, (dis l).Nodup
  | [] => List.nodup_nil
  | x :: r => by
    show (if x ∈ dis r then dis r else x :: dis r).Nodup
    split
    · exact dis_nd r
    · rename_i h
      exact List.nodup_cons.mpr ⟨h, dis_nd r⟩
theorem dis_len {L l : List (List Int)} (h : L.Nodup) (h1 : ∀ k ∈ L, k ∈ l) (h2 : ∀ k ∈ l, k ∈ L) : L.length = (dis l).length := by
  refine (List.perm_ext_iff_of_nodup h (dis_nd l) |>.mpr fun k => ?_).length_eq
  rw [dis_mem]
  exact ⟨h1 k, h2 k⟩
theorem dis_nodup : ∀ {l : List (List Int)}, l.Nodup → dis l = l
  | [], _ => rfl
  | x :: r, h => by
    obtain ⟨h1, h2⟩ := List.nodup_cons.mp h
    have ih := dis_nodup h2
    show (if x ∈ dis r then dis r else x :: dis r) = _
    rw [ih, if_neg h1]
theorem tupI_rp {K : PySem.W.Frag} {F : Hp} : ∀ {l : List D} {ks : List (List Int)} {vs : List V}, tupI l = some ks → RpL K F vs l → ∃ qs : List (Addr × List Int), vs = qs.map (fun p => V.ref p.1) ∧ qs.map (·.2) = ks ∧ ∀ p ∈ qs, SqT K F p.1 (p.2.map V.int)
  | [], ks, vs, h, r => by
    cases h
    cases r
    exact ⟨[], rfl, rfl, fun p hp => by cases hp⟩
  | d :: l, ks, vs, h, r => by
    cases d with
    | tup t =>
      simp only [tupI] at h
      split at h
      · rename_i k ks' hk hks
        cases h
        cases r with
        | cons r1 r2 =>
          cases r1 with
          | @tup a ws _ h1 rw1 =>
            rw [inL_eq hk] at rw1
            rw [rw1.ints] at h1
            obtain ⟨qs, e1, e2, e3⟩ := tupI_rp hks r2
            exact ⟨(a, k) :: qs, by rw [e1]; rfl, by rw [List.map_cons, e2], fun p hp => by
              rcases List.mem_cons.mp hp with rfl | hp
              · exact h1
              · exact e3 p hp⟩
      · cases h
    | _ => cases h
section
variable {X : Cx} {W : WX}
def tLenSetT (K : PySem.W.Frag) (ta : TE) : TE := fun σ H Q => ta σ H fun x H1 => ∃ (l : Addr) (ks : List (Addr × List Int)), x = V.ref l ∧ SqL K H1 l (ks.map fun p => V.ref p.1) ∧ (∀ p ∈ ks, SqT K H1 p.1 (p.2.map V.int)) ∧ ks.length < 64 ∧
  Q (.int ((dis (ks.map (·.2))).length : Nat)) H1
theorem pe_lenSetT {a : Expr} {ta : TE} {p p2 q pos : Pos} (hc : X.calm = true) (hu : X.A.units + 64 < cLine) (hg : Gl X "len") (hm : X.mg "len" = none) (hg2 : Gl X "set") (hm2 : X.mg "set" = none) (ha : PE X a ta)
    (na : starEach [a] X.env = (false, eval a X.env) :: starEach [] X.env := by rfl) : PE X (.Call (.Name "len" p) [.Call (.Name "set" p2) [a] [] q] [] pos) (tLenSetT X.K ta) := by
  refine ⟨fun pins s σ H Q I h => ?_⟩
  refine Call_ (ld_blt I hg hm PySem.boot_len ?_)
  refine PyProof.Rows.callWith_builtin1 (PyProof.Rows.args_cons ?_ rfl) rfl rfl
  refine Call_ (ld_blt I hg2 hm2 PyProof.Rows.boot_set ?_)
  refine PyProof.Rows.callWith_type1 (PyProof.Rows.args_cons (thn (ha.run pins s σ H _ I h) fun v s1 ⟨x, H1, I1, r1, q1⟩ => PyProof.Rows.args_nil ?_) na) na rfl
  obtain ⟨l, ks, rfl, hq, hk, hf, q1⟩ := q1
  cases r1
  obtain ⟨its, r, pl, hz⟩ := I1.list hq
  refine call_set_tups (P := X.prog) (w := X.w) ks (I1.ok.hd hc) pl.isList (by simpa using refs_of_vals r) (fun p hp => I1.isT (hk p hp)) hf (by omega) fun h' tk L es ep t R g k => ?_
  refine PyProof.Rows.args_nil ?_
  obtain ⟨o, ho, hex, hd⟩ := R.ob
  have hsz := SetTR.size (s := { s1 with heap := h', toks := tk }) R
  have hfew := R.few
  have I2 : Inv X pins σ H1 { s1 with heap := h', toks := tk } := I1.kept fun b o e => k b o e
  have hlen : L.length = (dis (ks.map (·.2))).length := by
    have e := dis_len (L := L.map (·.2)) (l := ks.map (·.2)) R.nd (fun k hk => by
      obtain ⟨p, hp, rfl⟩ := List.mem_map.mp hk
      exact List.mem_map.mpr ⟨p, List.mem_of_mem_take (g.sub p hp), rfl⟩) (fun k hk => by
      obtain ⟨p, hp, rfl⟩ := List.mem_map.mp hk
      exact g.all p (by rw [List.take_length]; exact hp))
    rw [← e, List.length_map]
  refine call_len_set ho hex hd (SetTR.fits (s := { s1 with heap := h', toks := tk }) R) (by omega) ⟨.int _, H1, I2.tok _, ⟨_, by rw [hsz, hlen]⟩, q1⟩
@[simp] def gLenSet : D → Option D
  | .lst l => match tupI l with
    | some ks => if ks.length < 64 then some (.int ((dis ks).length : Nat)) else none
    | none => none
  | _ => none
theorem eok_lenSetT {a : Expr} {p p2 q pos : Pos} {fa : Ev → Rx LV} (hc : X.calm = true) (hu : X.A.units + 64 < cLine) (hg : Gl X "len") (hm : X.mg "len" = none) (hg2 : Gl X "set") (hm2 : X.mg "set" = none) (ha : EOk X W a fa)
    (na : starEach [a] X.env = (false, eval a X.env) :: starEach [] X.env := by rfl) : EOk X W (.Call (.Name "len" p) [.Call (.Name "set" p2) [a] [] q] [] pos) (eUn gLenSet fa) := by
  obtain ⟨t, h1, h2⟩ := ha.ex
  refine ⟨_, pe_lenSetT hc hu hg hm hg2 hm2 h1 na, fun c σ H F env Q S p => h2 c σ H F env _ S ?_⟩
  unfold eUn at p
  cases q : fa env with
  | er x => rw [q] at p; exact p
  | no => rw [q] at p; exact p.elim
  | ok x e1 =>
    rw [q] at p
    rw [Rx.bind_ok] at p
    intro H1 F1 S1 s1 v hv
    unfold op1 at p
    cases q2 : rs e1 x with
    | none => rw [q2] at p; exact p.elim
    | some d =>
      rw [q2] at p
      cases q3 : gLenSet d with
      | none => simp only [q3] at p; exact p.elim
      | some z =>
        simp only [q3] at p
        have hr := S1.hrp hv q2
        unfold gLenSet at q3
        split at q3
        · split at q3
          · rename_i ks hks
            split at q3
            · rename_i hlen
              cases q3
              obtain ⟨a0, vs, rfl, h5, r⟩ := hr.lst S1.sub
              obtain ⟨qs, rfl, e2, e3⟩ := tupI_rp hks r
              refine ⟨a0, qs, rfl, .inl (.inl h5), fun p hp => same_t S1.sub (e3 p hp), by rw [← e2, List.length_map] at hlen; exact hlen, ?_⟩
              rw [e2]
              exact p H1 F1 S1 s1 _ (.int _)
            · cases q3
          · cases q3
        · cases q3

/-! ### comprehensions -/
theorem fok_lc {elt tg iter : Expr} {ifs : List Expr} {scope : Scope} {own : List (Str × Nat)} {ts vs : List Nat} {pos : Pos} {it : Ev → Rx (List D)} {gf : D → Ev → Option Ev} {ft : Ev → Rx Bool} {f : Ev → Rx LV} (hc : X.calm = true) (hN : X.N.Nodup) (hi : IOk X W tg iter it) (ok : blkC X.N X.env.scope scope own = true)
    (hg : ∀ (s : Shared) (H : Hp) (C : Addr) (cl : List (Str × Addr)) (fp : List Addr), GOk (X.blk s H scope (compEnvC scope cl C X.env) fp) tg gf ts) (ht : ∀ (s : Shared) (H : Hp) (C : Addr) (cl : List (Str × Addr)) (fp : List Addr), TsOk (X.blk s H scope (compEnvC scope cl C X.env) fp) W0 ifs ft)
    (he : ∀ (s : Shared) (H : Hp) (C : Addr) (cl : List (Str × Addr)) (fp : List Addr), EOk (X.blk s H scope (compEnvC scope cl C X.env) fp) W0 elt f) (hv : vs = own.map (·.2)) (hts : ∀ i ∈ ts, i ∈ vs) (hs : ∀ x, foldedSetIterable iter X.env x = pure x := by intro _; rfl) :
    FOk X W (.ListComp elt [⟨tg, iter, ifs, 0⟩] scope pos) (eLc it gf ft f vs) := by
  subst hv
  obtain ⟨wi, h1, h2⟩ := hi.ex
  exact ⟨_, pe_lc (g := canG X gf ts) (tt := canT X W0 ft) (te := canE X W0 f) hc hN h1 (blkOk_by ok) (fun s H C cl fp => (hg s H C cl fp).can) (fun s H C cl fp => (ht s H C cl fp).can) (fun s H C cl fp => (he s H C cl fp).can) hs, fsem_lc h2 hts⟩
theorem sok_setLc {i : Nat} {y : Str} {py : Pos} {elt tg iter : Expr} {ifs : List Expr} {scope : Scope} {own : List (Str × Nat)} {ts vs : List Nat} {pos spos : Pos} {it : Ev → Rx (List D)} {gf : D → Ev → Option Ev} {ft : Ev → Rx Bool} {f : Ev → Rx LV} (hc : X.calm = true) (hN : X.N.Nodup) (hy : X.N[i]? = some y) (hyl : X.env.scope.names.lookup y = some .local)
    (hsw : swapsWith (.ListComp elt [⟨tg, iter, ifs, 0⟩] scope pos) (some (.Name y py)) spos.line X.env = pure true) (hi : IOk X W tg iter it) (ok : blkC X.N X.env.scope scope own = true)
    (hg : ∀ (s : Shared) (H : Hp) (C : Addr) (cl : List (Str × Addr)) (fp : List Addr), GOk (X.blk s H scope (compEnvC scope cl C X.env) fp) tg gf ts) (ht : ∀ (s : Shared) (H : Hp) (C : Addr) (cl : List (Str × Addr)) (fp : List Addr), TsOk (X.blk s H scope (compEnvC scope cl C X.env) fp) W0 ifs ft)
    (he : ∀ (s : Shared) (H : Hp) (C : Addr) (cl : List (Str × Addr)) (fp : List Addr), EOk (X.blk s H scope (compEnvC scope cl C X.env) fp) W0 elt f) (hv : vs = own.map (·.2)) (hts : ∀ i ∈ ts, i ∈ vs) (hs : ∀ x, foldedSetIterable iter X.env x = pure x := by intro _; rfl) :
    SOk X W (.Assign [.Name y py] (.ListComp elt [⟨tg, iter, ifs, 0⟩] scope pos) spos) (sSetO i (eLc it gf ft f vs)) := by
  subst hv
  obtain ⟨wi, h1, h2⟩ := hi.ex
  exact sok_asgO (ps_setLc (g := canG X gf ts) (tt := canT X W0 ft) (te := canE X W0 f) hc hN hy hyl hsw h1 (blkOk_by ok) (fun s H C cl fp => (hg s H C cl fp).can) (fun s H C cl fp => (ht s H C cl fp).can) (fun s H C cl fp => (he s H C cl fp).can) hs) (fsem_lc h2 hts)

/-! ### a list of our own is changed -/
@[simp] def lvL (e : Ev) (i : Nat) : Option (List D) := match e[i]? with
  | some (.o (.lst l)) => some l
  | some (.r (.lst l)) => some l
  | _ => none
@[simp] def putL (e : Ev) (i : Nat) (l : List D) : Ev := match e[i]? with
  | some (.o _) => e.set i (.o (.lst l))
  | some (.r _) => e.set i (.r (.lst l))
  | _ => e
theorem lvL_sim {K : PySem.W.Frag} {c : C0} {σ : St} {H F : Hp} {e : Ev} {i : Nat} {l : List D} (S : Sim K c σ H F e) (h : lvL e i = some l) : Live e i (.lst l) ∧ ∃ a vs, σ[i]? = some (some (V.ref a)) ∧ H a = some (.lst vs) ∧ RpL K F vs l := by
  have lv : Live e i (.lst l) := by
    unfold lvL at h
    split at h
    · rename_i q
      cases h
      exact .inl q
    · rename_i q
      cases h
      exact .inr q
    · cases h
  refine ⟨lv, ?_⟩
  obtain ⟨a, h1, _, _, _, ow⟩ := S.own i _ lv
  obtain ⟨vs, h2, h3⟩ := ow.get
  exact ⟨a, vs, h1, h2, h3⟩
theorem putL_sim {K : PySem.W.Frag} {c : C0} {σ : St} {H F : Hp} {e : Ev} {i : Nat} {l l' : List D} {a : Addr} {vs' : List V} (S : Sim K c σ H F e) (h : lvL e i = some l) (ha : σ[i]? = some (some (V.ref a))) (r : RpL K F vs' l') : Sim K c σ (upd H a (.lst vs')) F (putL e i l') := by
  obtain ⟨lv, _⟩ := lvL_sim S h
  rcases lv with q | q
  · rw [show putL e i l' = e.set i (.o (.lst l')) by unfold putL; rw [q]]
    exact S.write (.inl q) ha (.inl ⟨q, rfl⟩) (.lst r)
  · rw [show putL e i l' = e.set i (.r (.lst l')) by unfold putL; rw [q]]
    exact S.write (.inr q) ha (.inr ⟨q, rfl⟩) (.lst r)
end
end DL

namespace DL
open PySem PySem.Spec PyProof.Rows L2
variable [Tab]
section
variable {X : Cx} {W : WX}

/-! ### x.append(e) -/
@[simp] def appF (i : Nat) (xs : List LV) (e1 : Ev) : Out := match xs, lvL e1 i with
  | [.v d], some l => if l.length < LIM then .nx (putL e1 i (l ++ [d])) else .no
  | _, _ => .no
def sApp (i : Nat) (fa : Ev → Rx (List LV)) : Ev → Out := fun env => match lvL env i with
  | some _ => (fa env).out (appF i)
  | none => .no
theorem sok_app {st : Stmt} {i : Nat} {es : List Expr} {fa : Ev → Rx (List LV)} (hp : ∀ {t}, PA X es t → PS X st (tDrop (tBM X.K "list" rAppend (tVar i) t))) (ha : AOk X W es fa) : SOk X W st (sApp i fa) := by
  obtain ⟨t, h1, h2⟩ := ha.ex
  refine ⟨_, hp h1, fun c σ H F env De hc S p => ?_⟩
  unfold sApp at p
  cases q0 : lvL env i with
  | none => simp only [q0] at p; exact p.elim
  | some l0 =>
    simp only [q0] at p
    obtain ⟨_, a, vs0, e1, e2, _⟩ := lvL_sim S q0
    refine ⟨.ref a, e1, .inl ⟨rfl, vs0, .inl (.inl e2)⟩, ?_⟩
    refine h2 c σ H F env _ S (post_out p fun xs env1 H1 F1 S1 s1 p1 vs hvs => ?_)
    unfold appF at p1
    split at p1
    · rename_i d l q1
      obtain ⟨_, a', ws, e3, e4, r⟩ := lvL_sim S1 q1
      rw [e1] at e3
      cases e3
      split at p1
      · rename_i hl
        cases hvs with
        | cons r1 r2 =>
          cases r2
          exact ⟨a, ws, _, rfl, rfl, e4, by rw [r.length]; exact lim_lt hl, p1 _ _ _ (putL_sim S1 q1 e1 (r.append (.cons r1 .nil))) (Same.refl _)⟩
      · exact p1.elim
    · exact p1.elim

/-! ### x[i] = e -/
@[simp] def putF (i : Nat) (d : D) (k : LV) (e2 : Ev) : Out := match k, lvL e2 i with
  | .v (.int n), some l => match ixN l.length n with
    | some j => .nx (putL e2 i (l.set j d))
    | none => .no
  | _, _ => .no
def sPut (i : Nat) (fi f : Ev → Rx LV) : Ev → Out := fun env => (f env).out fun x e1 => match x, lvL e1 i with
  | .v d, some _ => (fi e1).out (putF i d)
  | _, _ => .no
theorem sok_put {st : Stmt} {i : Nat} {e ei : Expr} {f fi : Ev → Rx LV} (hp : ∀ {t ti}, PE X e t → PE X ei ti → PS X st (tAsg t (L2.gSub (tVar i) ti rSetL))) (h : EOk X W e f) (hi : EOk X W ei fi) : SOk X W st (sPut i fi f) := by
  obtain ⟨t, h1, h2⟩ := h.ex
  obtain ⟨ti, g1, g2⟩ := hi.ex
  refine ⟨_, hp h1 g1, fun c σ H F env De hc S p => ?_⟩
  refine h2 c σ H F env _ S (post_out p fun x e1 H1 F1 S1 s1 p1 v hv => ?_)
  split at p1
  · rename_i d l0 q0
    obtain ⟨_, a, vs0, z1, z2, _⟩ := lvL_sim S1 q0
    refine ⟨.ref a, z1, g2 c σ H1 F1 e1 _ S1 (post_out p1 fun k e2 H2 F2 S2 s2 p2 w hw => ?_)⟩
    unfold putF at p2
    split at p2
    · rename_i n l q1
      obtain ⟨_, a', ws, e3, e4, r⟩ := lvL_sim S2 q1
      rw [z1] at e3
      cases e3
      split at p2
      · rename_i j hj
        cases (show Rp X.K F2 w (.int n) from hw)
        exact ⟨a, ws, n, j, rfl, rfl, e4, by rw [r.length]; exact hj, p2 _ _ _ (putL_sim S2 q1 z1 (r.set j ((show Rp X.K F1 v d from hv).mono s2))) (Same.refl _)⟩
      · exact p2.elim
    · exact p2.elim
  · exact p1.elim

/-! ### x.pop(i) -/
@[simp] def popF (i : Nat) (xs : List LV) (e1 : Ev) : Rx LV := match xs, lvL e1 i with
  | [.v (.int n)], some l => match ixN l.length n with
    | some j => if bg n = true then match l[j]? with
        | some d => .ok (.v d) (putL e1 i (l.eraseIdx j))
        | none => .no
      else .no
    | none => .no
  | _, _ => .no
def ePop (i : Nat) (fa : Ev → Rx (List LV)) : Ev → Rx LV := fun env => match lvL env i with
  | some _ => (fa env).bind (popF i)
  | none => .no
theorem eok_pop {e : Expr} {i : Nat} {es : List Expr} {fa : Ev → Rx (List LV)} (hp : ∀ {t}, PA X es t → PE X e (tBM X.K "list" rPopAt (tVar i) t)) (ha : AOk X W es fa) : EOk X W e (ePop i fa) := by
  obtain ⟨t, h1, h2⟩ := ha.ex
  refine ⟨_, hp h1, fun c σ H F env Q S p => ?_⟩
  unfold ePop at p
  cases q0 : lvL env i with
  | none => simp only [q0] at p; exact p.elim
  | some l0 =>
    simp only [q0] at p
    obtain ⟨_, a, vs0, e1, e2, _⟩ := lvL_sim S q0
    refine ⟨.ref a, e1, .inl ⟨rfl, vs0, .inl (.inl e2)⟩, ?_⟩
    refine h2 c σ H F env _ S ?_
    cases q : fa env with
    | er x => rw [q] at p; exact p
    | no => rw [q] at p; exact p.elim
    | ok xs env1 =>
      rw [q] at p
      rw [Rx.bind_ok] at p
      intro H1 F1 S1 s1 vs hvs
      unfold popF at p
      split at p
      · rename_i n l q1
        obtain ⟨_, a', ws, e3, e4, r⟩ := lvL_sim S1 q1
        rw [e1] at e3
        cases e3
        split at p
        · rename_i j hj
          split at p
          · rename_i hb
            split at p
            · rename_i d hd
              cases hvs with
              | cons r1 r2 =>
                cases r2
                cases (show Rp X.K F1 _ (.int n) from r1)
                obtain ⟨y, y1, y2⟩ := r.get hd
                obtain ⟨b1, b2⟩ := of_decide_eq_true hb
                exact ⟨a, ws, n, j, y, rfl, rfl, e4, by omega, by omega, by rw [r.length]; exact (ixN_seq hj).1, y1, p _ _ (putL_sim S1 q1 e1 (r.eraseIdx j)) s1 _ y2⟩
            · exact p.elim
          · exact p.elim
        · exact p.elim
      · exact p.elim
/-! x.pop() -/
def ePop0 (i : Nat) : Ev → Rx LV := fun env => match lvL env i with
  | some l => match l[l.length - 1]? with
    | some d => .ok (.v d) (putL env i l.dropLast)
    | none => .no
  | none => .no
theorem RpL.dropLast {K : PySem.W.Frag} {F : Hp} {vs : List V} {l : List D} (r : RpL K F vs l) : RpL K F vs.dropLast l.dropLast := by
  rw [List.dropLast_eq_take, List.dropLast_eq_take, r.length]
  exact r.take _
theorem eok_pop0 {e : Expr} {i : Nat} (hp : PE X e (tBM0 X.K "list" rPop (tVar i))) : EOk X W e (ePop0 i) := by
  refine ⟨_, hp, fun c σ H F env Q S p => ?_⟩
  unfold ePop0 at p
  cases q0 : lvL env i with
  | none => simp only [q0] at p; exact p.elim
  | some l0 =>
    simp only [q0] at p
    obtain ⟨_, a, vs0, e1, e2, r⟩ := lvL_sim S q0
    refine ⟨.ref a, e1, .inl ⟨rfl, vs0, .inl (.inl e2)⟩, ?_⟩
    split at p
    · rename_i d hd
      obtain ⟨y, y1, y2⟩ := r.get hd
      exact ⟨a, vs0, y, rfl, rfl, e2, by rw [r.length]; exact y1, p _ _ (putL_sim S q0 e1 r.dropLast) (Same.refl _) _ y2⟩
    · exact p.elim

/-! ### x, y = new, new -/
def sParF (i j : Nat) (fa fb : Ev → Rx D) : Ev → Out := fun env => (fa env).out fun d e1 => ((fb e1).bindN Rx.ok).out fun d' e2 => .nx ((e2.set i (.o d)).set j (.o d'))
theorem sok_parF {st : Stmt} {i j : Nat} {a b : Expr} {fa fb : Ev → Rx D} (hp : ∀ {ta tb}, PE X a ta → PE X b tb → PS X st (tPar i j (tCons ta (tCons tb tNil)))) (ha : FOk X W a fa) (hb : FOk X W b fb) : SOk X W st (sParF i j fa fb) := by
  obtain ⟨t, h1, h2⟩ := ha.ex
  obtain ⟨u, g1, g2⟩ := hb.ex
  refine ⟨_, hp h1 g1, fun c σ H F env De hc S p => ?_⟩
  refine h2 c σ H F env _ S (post_out p fun d e1 H1 F1 S1 s1 p1 a fr ow => ?_)
  refine g2 (here c σ H1 F1 e1) σ H1 F1 e1 _ S1.rebase ?_
  cases q : fb e1 with
  | er x => simp only [q] at p1; exact p1.elim
  | no => simp only [q] at p1; exact p1.elim
  | ok d' e2 =>
    simp only [q, Rx.bindN_ok, Rx.out_ok] at p1
    intro H2 F2 S2 s2 b fr2 ow2
    have S3 := S1.unbase S2
    obtain ⟨eq1, fr3⟩ := fr.part (env2 := e2) S1 S2 (fun k d lv => ⟨lv, by
      by_cases hz : σ[k]? = some (some (V.ref a))
      · exact .inl hz
      · exact .inr hz⟩)
    have hne : a ≠ b := fun z => by
      obtain ⟨o, ho, _⟩ := fr.there
      rw [z] at ho
      have q := fr2.noc
      rw [show (here c σ H1 F1 e1).H b = H1 b from rfl, ho] at q
      cases q
    refine ⟨.ref a, .ref b, rfl, ?_⟩
    have S4 := S3.setO (i := i) fr3 hc (show OwnAt X.K F2 (H2 a) d by rw [eq1]; exact ow.mono s2)
    have fr4 : Fresh c (σ.set i (some (.ref a))) H2 F2 (e2.set i (.o d)) b := by
      refine ⟨fr2.there, fr2.noF, S1.live b fr2.noc, fun k d0 lv z => ?_⟩
      by_cases hk : k = i
      · subst hk
        rw [List.getElem?_set] at z
        simp only [if_true] at z
        split at z
        · cases z; exact hne rfl
        · cases z
      · rw [List.getElem?_set_ne (Ne.symm hk)] at z
        refine fr2.nos k d0 ?_ z
        unfold Live at lv ⊢
        rw [List.getElem?_set_ne (Ne.symm hk)] at lv
        exact lv
    have S5 := S4.setO (i := j) fr4 hc ow2
    exact p1 _ _ _ S5 s2
/-! x, y = value, new -/
def sParEF (i j : Nat) (fa : Ev → Rx LV) (fb : Ev → Rx D) : Ev → Out := fun env => (fa env).out fun x e1 => match x with
  | .v d => (fb e1).out fun d' e2 => .nx ((e2.set i (.p d)).set j (.o d'))
  | .s _ => .no
theorem sok_parEF {st : Stmt} {i j : Nat} {a b : Expr} {fa : Ev → Rx LV} {fb : Ev → Rx D} (hp : ∀ {ta tb}, PE X a ta → PE X b tb → PS X st (tPar i j (tCons ta (tCons tb tNil)))) (ha : EOk X W a fa) (hb : FOk X W b fb) : SOk X W st (sParEF i j fa fb) := by
  obtain ⟨t, h1, h2⟩ := ha.ex
  obtain ⟨u, g1, g2⟩ := hb.ex
  refine ⟨_, hp h1 g1, fun c σ H F env De hc S p => ?_⟩
  refine h2 c σ H F env _ S (post_out p fun x e1 H1 F1 S1 s1 p1 v hv => ?_)
  split at p1
  · rename_i d
    refine g2 c σ H1 F1 e1 _ S1 (post_out p1 fun d' e2 H2 F2 S2 s2 p2 b fr ow => ?_)
    refine ⟨v, .ref b, rfl, ?_⟩
    have hv : Rp X.K F1 v d := hv
    have S4 := S2.setP (i := i) (hv.mono s2)
    have fr4 : Fresh c (σ.set i (some v)) H2 F2 (e2.set i (.p d)) b := by
      refine ⟨fr.there, fr.noF, fr.noc, fun k d0 lv z => ?_⟩
      by_cases hk : k = i
      · subst hk
        unfold Live at lv
        rw [List.getElem?_set] at lv
        simp only [if_true] at lv
        split at lv <;> rcases lv with lv | lv <;> cases lv
      · rw [List.getElem?_set_ne (Ne.symm hk)] at z
        refine fr.nos k d0 ?_ z
        unfold Live at lv ⊢
        rw [List.getElem?_set_ne (Ne.symm hk)] at lv
        exact lv
    exact p2 _ _ _ (S4.setO (i := j) fr4 hc ow) (Same.refl _)
  · exact p1.elim

/-! ### raise, names of the module -/
def sEr (n : Str) : Ev → Out := fun _ => .er ⟨n⟩
theorem sok_raise {x m : Str} {C : Addr} {j : Nat} {p p2 cpos pos : Pos} {bmB : List Value} {B newId initId : String} (hcalm : X.calm = true) (tk : L2N.Takes X W) (Fb : ExcBaseFacts B newId initId bmB) (q : PySem.W.excIn X.K C bmB newId = true) (gC : X.mg x = some (.ref C)) (kC : PySem.W.keepIn X.K (.ref C) = true)
    (s1 : PySem.W.subIn X.K (.ref C) (.type "BaseException") = some true) (s2 : PySem.W.typeIn X.K (.ref C) = some (.type "type")) (hg : Gl X x)
    (hdb : (x == ("__debug__" : Str)) = false := by decide) : SOk X W (.Raise (some (.Call (.Name x p) [.Constant (.str m) j p2] [] cpos)) none pos) (sEr x) := by
  refine ⟨_, L2N.ps_raise hcalm tk (L2N.pmk_own Fb q gC kC (L2.raises_own s1 s2) hg hdb), fun c σ H F env De hc S p => ?_⟩
  have e := p σ H ⟨fun a o h n nt => S.keep a o h n nt, S.tb.tab, S.live⟩
  rw [show clsV X.mg ⟨x⟩ = .ref C by unfold clsV; rw [gC]; rfl] at e
  exact e
theorem eok_globI {x : Str} {i : Int} {t : Tok} {pos : Pos} (hg : Gl X x) (hm : X.mg x = some (.int i t)) (hd : (x == ("__debug__" : Str)) = false := by decide) : EOk X W (.Name x pos) (eC (.int i)) := eok_c (pe_glob (v := .int i) hg hm ⟨t, rfl⟩ hd) fun _ => .int i
theorem eok_globS {x z : Str} {t : Tok} {pos : Pos} (hg : Gl X x) (hm : X.mg x = some (.str z t)) (hd : (x == ("__debug__" : Str)) = false := by decide) : EOk X W (.Name x pos) (eC (.str z)) := eok_c (pe_glob (v := .str z) hg hm ⟨t, rfl⟩ hd) fun _ => .str z
theorem eok_globB {x : Str} {z : Bool} {pos : Pos} (hg : Gl X x) (hm : X.mg x = some (.bool z)) (hd : (x == ("__debug__" : Str)) = false := by decide) : EOk X W (.Name x pos) (eC (.bl z)) := eok_c (pe_glob (v := .bl z) hg hm rfl hd) fun _ => .bl z
theorem tkD {P : Program} {w : World} {K : PySem.W.Frag} {mg : Str → Option Value} {base : Heap} {N : List Str} {qual : Str} {sc : Scope} {f : Addr} {cdv : Value} {A : Around} {outer : List Env} {s : Shared} {H : Hp} {E : XK} :
    L2N.Takes (cxOf (L2N.CX P w) P w K mg base N qual sc f cdv A outer s H E) (fun cls d _ H' => E cls d H') := L2N.takes_of rfl rfl rfl rfl
theorem poD {P : Program} {w : World} {K : PySem.W.Frag} {mg : Str → Option Value} {base : Heap} {N : List Str} {qual : Str} {sc : Scope} {f : Addr} {cdv : Value} {A : Around} {outer : List Env} {s : Shared} {H : Hp} {E : XK} :
    PassesOwn (model (cxOf (L2N.CX P w) P w K mg base N qual sc f cdv A outer s H E).prog (cxOf (L2N.CX P w) P w K mg base N qual sc f cdv A outer s H E).w) (cxOf (L2N.CX P w) P w K mg base N qual sc f cdv A outer s H E).A (cxOf (L2N.CX P w) P w K mg base N qual sc f cdv A outer s H E).env (cxOf (L2N.CX P w) P w K mg base N qual sc f cdv A outer s H E).xe := passes_of rfl
/-- a new list is frozen as soon as it is stored -/
def sFzA (i : Nat) (f : Ev → Out) : Ev → Out := fun env => match f env with
  | .nx e => .nx (frz i e)
  | o => o
theorem sok_fza {st : Stmt} {f : Ev → Out} (i : Nat) (h : SOk X W st f) : SOk X W st (sFzA i f) := let ⟨t, h1, h2⟩ := h.ex; ⟨t, h1, fun c σ H F env De hc S p => h2 c σ H F env De hc S (by
  unfold sFzA at p
  cases q : f env with
  | nx e =>
    rw [q] at p
    intro σ' H' F' S' s'
    replace p : ∀ σ' H' F', Sim X.K c σ' H' F' (frz i e) → Same F F' → De.nx σ' H' := p
    unfold frz at p
    split at p
    · rename_i d hd
      obtain ⟨F2, S2, s2⟩ := S'.frz hc hd
      exact p σ' H' F2 S2 (s'.trans s2)
    · exact p σ' H' F' S' s'
  | ct e => rw [q] at p; exact p
  | bk e => rw [q] at p; exact p
  | rt d e => rw [q] at p; exact p
  | rf d e => rw [q] at p; exact p
  | er x => rw [q] at p; exact p
  | no => rw [q] at p; exact p)⟩
theorem u64 {k : Nat} {A : Around} (hr : Room k A) : A.units + 64 < cLine := by have := hr.un; omega
theorem u65 {k : Nat} {A : Around} (hr : Room k A) : A.units + 65 < cLine := by have := hr.un; omega
/-- behind a loop's body: what is not read again is forgotten -/
def sAf (is : List Nat) (f : Ev → Out) : Ev → Out := fun env => match f env with
  | .nx e => .nx (fgt is e)
  | .ct e => .ct (fgt is e)
  | .bk e => .bk (fgt is e)
  | o => o
theorem ssem_af {t : TS} {f : Ev → Out} (is : List Nat) (h : SSem X W t f) : SSem X W t (sAf is f) := fun c σ H F env De hc S p => h c σ H F env De hc S (by
  unfold sAf at p
  cases q : f env with
  | nx e => rw [q] at p; exact fun σ' H' F' S' s' => p σ' H' F' (S'.fgt is) s'
  | ct e => rw [q] at p; exact fun σ' H' F' S' s' => p σ' H' F' (S'.fgt is) s'
  | bk e => rw [q] at p; exact fun σ' H' F' S' s' => p σ' H' F' (S'.fgt is) s'
  | rt d e => rw [q] at p; exact p
  | rf d e => rw [q] at p; exact p
  | er x => rw [q] at p; exact p
  | no => rw [q] at p; exact p)
theorem sok_af {st : Stmt} {f : Ev → Out} (is : List Nat) (h : SOk X W st f) : SOk X W st (sAf is f) := let ⟨_, h1, h2⟩ := h.ex; ⟨_, h1, ssem_af is h2⟩
theorem ssok_af {rest : List Stmt} {f : Ev → Out} (is : List Nat) (h : SsOk X W rest f) : SsOk X W rest (sAf is f) := let ⟨_, h1, h2⟩ := h.ex; ⟨_, h1, ssem_af is h2⟩
end
end DL

namespace DL
open PySem PySem.Spec PyProof.Rows L2
variable [Tab]
abbrev bmVE : List Value := [.type "ValueError", .type "Exception", .type "BaseException", .type "object"]
theorem glk {X : Cx} {x : Str} (h : X.env.kindOf x = some .globalImplicit) : Gl X x := h
/-- the law's own promise -/
def spL (n : Nat) (K : PySem.W.Frag) : Sp := fun vs H Q _ => ∃ (a : Addr) (ns : List Int), vs = [.ref a] ∧ ns.length ≤ n ∧ SqL K H a (ns.map V.int) ∧ LamX.Tabs Tab.T H ∧ ∀ H', Q (.bl true) H'
/-- the heap without its tables -/
def noTab (H : Hp) : Hp := fun b => match H b with
  | some (.tbl _) => none
  | o => o
theorem noTab_nt (H : Hp) : NoT (noTab H) := fun a o e ps z => by
  subst z
  unfold noTab at e
  split at e
  · cases e
  · rename_i h
    exact h ps e
theorem noTab_sub (H : Hp) : Same (noTab H) H := fun a o e => by
  unfold noTab at e
  split at e
  · cases e
  · exact e
theorem noTab_at {H : Hp} {a : Addr} {o : HO} (h : H a = some o) (n : NT o) : noTab H a = some o := by
  unfold noTab
  split
  · rename_i ps z
    rw [h] at z
    cases z
    exact absurd rfl (n ps)
  · exact h
theorem spL_imp {n : Nat} {K : PySem.W.Frag} {mg : Str → Option Value} {fn : List D → FOut} (h : ∀ ns : List Int, ns.length ≤ n → ∃ z, fn [.scr ns] = .ok (.bl true) z) (vs : List V) (H : Hp) (Q : VK) (E : XK) (q : spL n K vs H Q E) : spD K mg none false 1 fn vs H Q E := by
  obtain ⟨a, ns, rfl, hl, hs, ht, hq⟩ := q
  replace hs : SqL K (noTab H) a (ns.map V.int) := by
    rcases hs with (hs | ⟨o, hs⟩) | hs
    · exact .inl (.inl (noTab_at hs fun _ z => nomatch z))
    · exact .inl (.inr ⟨o, noTab_at hs fun _ z => nomatch z⟩)
    · exact .inr hs
  obtain ⟨z, hz⟩ := h ns hl
  refine ⟨rfl, noTab H, [.scr ns], noTab_sub H, ⟨noTab_nt H, ht⟩, ⟨rfl, fun j v d h1 h2 => ?_⟩, ?_⟩
  · cases j with
    | zero =>
      cases h1
      cases h2
      exact ⟨fun e => (by cases e), fun _ => .scr hs⟩
    | succ j => cases h1
  · rw [hz]
    intro v H' F' ce
    have := ce.val
    simp only [Bool.false_eq_true, if_false] at this
    cases this
    exact hq H'
theorem cx_no {P : Program} {w : World} {o : List Env} {H : Hp} {s : Shared} {e : Value} {s' : Shared} (z : L2N.CX P w o H s (fun _ _ _ => False) e s') : False := by
  obtain ⟨_, _, _, _, _, _, _, _, _, _, _, _, z⟩ := z
  exact z
end DL

/-! the functions of the layer, unfolded where they are applied to an environment; what stands behind a bind waits until its head is known -/
namespace DL
open PySem PySem.Spec PyProof.Rows L2
/-- where no lambda is made -/
instance (priority := low) tab0 : Tab := ⟨[]⟩
/-- what stands under it is not touched by simp (its type hangs on it) -/
inductive Hide {α : Type} (a : α) : Type
  | mk
theorem nrfl {α : Sort _} {a b : α} (h : a = b) : a = b := h
def bdK {α β : Type} (x : Rx α) (f : α → Ev → Rx β) (_ : Hide f) : Rx β := x.bind f
@[simp] theorem bdK_ok {α β : Type} (a : α) (e : Ev) (f : α → Ev → Rx β) (h : Hide f) : bdK (.ok a e) f h = f a e := rfl
@[simp] theorem bdK_er {α β : Type} (x : Exc) (f : α → Ev → Rx β) (h : Hide f) : bdK (.er x) f h = .er x := rfl
@[simp] theorem bdK_no {α β : Type} (f : α → Ev → Rx β) (h : Hide f) : bdK .no f h = .no := rfl
def otK {α : Type} (x : Rx α) (f : α → Ev → Out) (_ : Hide f) : Out := x.out f
@[simp] theorem otK_ok {α : Type} (a : α) (e : Ev) (f : α → Ev → Out) (h : Hide f) : otK (.ok a e) f h = f a e := rfl
@[simp] theorem otK_er {α : Type} (x : Exc) (f : α → Ev → Out) (h : Hide f) : otK (.er x) f h = .er x := rfl
@[simp] theorem otK_no {α : Type} (f : α → Ev → Out) (h : Hide f) : otK .no f h = .no := rfl
def bnK {α β : Type} (x : Rx α) (f : α → Ev → Rx β) (_ : Hide f) : Rx β := x.bindN f
@[simp] theorem bnK_ok {α β : Type} (a : α) (e : Ev) (f : α → Ev → Rx β) (h : Hide f) : bnK (.ok a e) f h = f a e := rfl
def Out.thn (o : Out) (g : Ev → Out) : Out := match o with
  | .nx e => g e
  | o => o
@[simp] theorem thn_nx (e : Ev) (g : Ev → Out) : (Out.nx e).thn g = g e := rfl
@[simp] theorem thn_rt (d : D) (e : Ev) (g : Ev → Out) : (Out.rt d e).thn g = .rt d e := rfl
@[simp] theorem thn_rf (d : D) (e : Ev) (g : Ev → Out) : (Out.rf d e).thn g = .rf d e := rfl
@[simp] theorem thn_bk (e : Ev) (g : Ev → Out) : (Out.bk e).thn g = .bk e := rfl
@[simp] theorem thn_ct (e : Ev) (g : Ev → Out) : (Out.ct e).thn g = .ct e := rfl
@[simp] theorem thn_er (e : Exc) (g : Ev → Out) : (Out.er e).thn g = .er e := rfl
@[simp] theorem thn_no (g : Ev → Out) : Out.no.thn g = .no := rfl
@[simp] theorem sSeq_ap (f g : Ev → Out) (env : Ev) : sSeq f g env = (f env).thn g := by
  unfold sSeq Out.thn
  rfl
def nxF (i : Nat) (e : Ev) : Out := .nx (frz i e)
@[simp] theorem nxF_ap (i : Nat) (e : Ev) : nxF i e = .nx (frz i e) := rfl
def Out.aft (o : Out) (h : Ev → Ev) : Out := match o with
  | .nx e => .nx (h e)
  | .ct e => .ct (h e)
  | .bk e => .bk (h e)
  | o => o
@[simp] theorem aft_nx (e : Ev) (g : Ev → Ev) : (Out.nx e).aft g = .nx (g e) := rfl
@[simp] theorem aft_rt (d : D) (e : Ev) (g : Ev → Ev) : (Out.rt d e).aft g = .rt d e := rfl
@[simp] theorem aft_rf (d : D) (e : Ev) (g : Ev → Ev) : (Out.rf d e).aft g = .rf d e := rfl
@[simp] theorem aft_bk (e : Ev) (g : Ev → Ev) : (Out.bk e).aft g = .bk (g e) := rfl
@[simp] theorem aft_ct (e : Ev) (g : Ev → Ev) : (Out.ct e).aft g = .ct (g e) := rfl
@[simp] theorem aft_er (e : Exc) (g : Ev → Ev) : (Out.er e).aft g = .er e := rfl
@[simp] theorem aft_no (g : Ev → Ev) : Out.no.aft g = .no := rfl
@[simp] theorem sAf_ap (is : List Nat) (f : Ev → Out) (env : Ev) : sAf is f env = (f env).aft (fgt is) := by
  unfold sAf Out.aft
  rfl
@[simp] theorem sFzA_ap (i : Nat) (f : Ev → Out) (env : Ev) : sFzA i f env = (f env).thn (nxF i) := by
  unfold sFzA Out.thn
  rfl
def Out.stp (o : Out) (g : Ev → Out) : Out := match o with
  | .nx e => g e
  | .ct e => g e
  | .bk e => .nx e
  | o => o
@[simp] theorem stp_nx (e : Ev) (g : Ev → Out) : (Out.nx e).stp g = g e := rfl
@[simp] theorem stp_rt (d : D) (e : Ev) (g : Ev → Out) : (Out.rt d e).stp g = .rt d e := rfl
@[simp] theorem stp_rf (d : D) (e : Ev) (g : Ev → Out) : (Out.rf d e).stp g = .rf d e := rfl
@[simp] theorem stp_bk (e : Ev) (g : Ev → Out) : (Out.bk e).stp g = .nx e := rfl
@[simp] theorem stp_ct (e : Ev) (g : Ev → Out) : (Out.ct e).stp g = g e := rfl
@[simp] theorem stp_er (e : Exc) (g : Ev → Out) : (Out.er e).stp g = .er e := rfl
@[simp] theorem stp_no (g : Ev → Out) : Out.no.stp g = .no := rfl
def ogo (o : Option Ev) (g : Ev → Out) (_ : Hide g) : Out := match o with
  | some e => g e
  | none => .no
@[simp] theorem ogo_some (e : Ev) (g : Ev → Out) (h : Hide g) : ogo (some e) g h = g e := rfl
theorem forL_nil (g : D → Ev → Option Ev) (b : Ev → Out) (env : Ev) : forL g b [] env = .nx env := rfl
theorem forL_cons (g : D → Ev → Option Ev) (b : Ev → Out) (d : D) (ds : List D) (env : Ev) : forL g b (d :: ds) env = ogo (g d env) (fun e1 => (b e1).stp (forL g b ds)) .mk := by
  unfold forL ogo
  cases g d env with
  | none => rfl
  | some e => unfold Out.stp; rfl
@[simp] theorem sFor_ap (it : Ev → Rx (List D)) (g : D → Ev → Option Ev) (b : Ev → Out) (env : Ev) : sFor it g b env = (it env).out (forL g b) := nrfl rfl
theorem whL_succ (t : Ev → Rx Bool) (b : Ev → Out) (n : Nat) (env : Ev) : whL t b (n + 1) env = otK (t env) (fun k e1 => if k = true then (b e1).stp (whL t b n) else .nx e1) .mk := by
  rw [whL]
  congr 1
def Rx.lc {β : Type} (o : Option Ev) (f : Ev → Rx β) (_ : Hide f) : Rx β := match o with
  | some e => f e
  | none => .no
@[simp] theorem lc_some {β : Type} (e : Ev) (g : Ev → Rx β) (h : Hide g) : Rx.lc (some e) g h = g e := rfl
theorem compL_nil (g : D → Ev → Option Ev) (t : Ev → Rx Bool) (f : Ev → Rx LV) (vs : List Nat) (env : Ev) (acc : List D) : compL g t f vs [] env acc = .ok acc env := rfl
theorem compL_cons (g : D → Ev → Option Ev) (t : Ev → Rx Bool) (f : Ev → Rx LV) (vs : List Nat) (d : D) (ds : List D) (env : Ev) (acc : List D) : compL g t f vs (d :: ds) env acc =
    Rx.lc (g d env) (fun e1 => bnK (t e1) (fun b e2 => if b = true then bnK (f e2) (fun x e3 => match x with
          | .v y => if acc.length < LIM then compL g t f vs ds (fgt vs e3) (acc ++ [y]) else .no
          | .s _ => .no) .mk
        else compL g t f vs ds (fgt vs e2) acc) .mk) .mk := by
  rw [compL]
  cases g d env <;> rfl
@[simp] theorem lcL_ap (g : D → Ev → Option Ev) (t : Ev → Rx Bool) (f : Ev → Rx LV) (vs : List Nat) (items : List D) (e1 : Ev) : lcL g t f vs items e1 =
    if noLv vs e1 = true then bnK (compL g t f vs items (fgt vs e1) []) (fun l e2 => .ok (.lst l) (rst vs e1 e2)) .mk else .no := nrfl rfl
@[simp] theorem eFr_ap (f : Ev → Rx D) (env : Ev) : eFr f env = (bdK (f env) (fun d e => .ok (.v d) e) .mk) := by
  first | exact nrfl rfl | exact nrfl (by cases env <;> rfl)
@[simp] theorem eVar_ap (i : Nat) (env : Ev) : eVar i env = (match env[i]? with
  | some (.p d) => .ok (.v d) env
  | some (.o _) => .ok (.s i) env
  | some (.r _) => .ok (.s i) env
  | _ => .no) := by
  first | exact nrfl rfl | exact nrfl (by cases env <;> rfl)
@[simp] theorem eC_ap (d : D) (env : Ev) : eC d env = (.ok (.v d) env) := by
  first | exact nrfl rfl | exact nrfl (by cases env <;> rfl)
@[simp] theorem eOp_ap (g : D → D → Option D) (a b : Ev → Rx LV) (env : Ev) : eOp g a b env = (bdK (a env) (fun x e1 => bdK (b e1) (fun y e2 => op2 g e2 x y) .mk) .mk) := by
  first | exact nrfl rfl | exact nrfl (by cases env <;> rfl)
@[simp] theorem eOpF_ap (g : D → D → Option D) (a b : Ev → Rx LV) (env : Ev) : eOpF g a b env = (bdK (a env) (fun x e1 => bdK (b e1) (fun y e2 => op2F g e2 x y) .mk) .mk) := by
  first | exact nrfl rfl | exact nrfl (by cases env <;> rfl)
@[simp] theorem eUn_ap (g : D → Option D) (a : Ev → Rx LV) (env : Ev) : eUn g a env = (bdK (a env) (fun x e1 => op1 g e1 x) .mk) := by
  first | exact nrfl rfl | exact nrfl (by cases env <;> rfl)
@[simp] theorem aNil_ap (env : Ev) : aNil  env = (.ok [] env) := by
  first | exact nrfl rfl | exact nrfl (by cases env <;> rfl)
@[simp] theorem aCons_ap (a : Ev → Rx LV) (r : Ev → Rx (List LV)) (env : Ev) : aCons a r env = (bdK (a env) (fun x e1 => bdK (r e1) (fun xs e2 => .ok (x :: xs) e2) .mk) .mk) := by
  first | exact nrfl rfl | exact nrfl (by cases env <;> rfl)
@[simp] theorem eTup_ap (fa : Ev → Rx (List LV)) (env : Ev) : eTup fa env = (bdK (fa env) (fun xs e1 => match allV xs with
  | some l => if l.length ≤ LIM then .ok (.v (.tup l)) e1 else .no
  | none => .no) .mk) := by
  first | exact nrfl rfl | exact nrfl (by cases env <;> rfl)
@[simp] theorem eLst_ap (fa : Ev → Rx (List LV)) (env : Ev) : eLst fa env = (bdK (fa env) (fun xs e1 => match allV xs with
  | some l => if l.length ≤ LIM then .ok (.lst l) e1 else .no
  | none => .no) .mk) := by
  first | exact nrfl rfl | exact nrfl (by cases env <;> rfl)
@[simp] theorem eCB_ap (g : List D → Option D) (fa : Ev → Rx (List LV)) (env : Ev) : eCB g fa env = (bdK (fa env) (fun xs e1 => rCall g e1 xs) .mk) := by
  first | exact nrfl rfl | exact nrfl (by cases env <;> rfl)
@[simp] theorem eCBF_ap (g : List D → Option D) (fa : Ev → Rx (List LV)) (env : Ev) : eCBF g fa env = (bdK (fa env) (fun xs e1 => rCallF g e1 xs) .mk) := by
  first | exact nrfl rfl | exact nrfl (by cases env <;> rfl)
@[simp] theorem tE_ap (f : Ev → Rx LV) (env : Ev) : tE f env = (bdK (f env) (fun x e1 => match x with
  | .v (.bl b) => .ok b e1
  | _ => .no) .mk) := by
  first | exact nrfl rfl | exact nrfl (by cases env <;> rfl)
@[simp] theorem tNt_ap (f : Ev → Rx Bool) (env : Ev) : tNt f env = (bdK (f env) (fun b e1 => .ok (!b) e1) .mk) := by
  first | exact nrfl rfl | exact nrfl (by cases env <;> rfl)
@[simp] theorem tAn_ap (f g : Ev → Rx Bool) (env : Ev) : tAn f g env = (bdK (f env) (fun b e1 => if b = true then g e1 else .ok false e1) .mk) := by
  first | exact nrfl rfl | exact nrfl (by cases env <;> rfl)
@[simp] theorem tOr_ap (f g : Ev → Rx Bool) (env : Ev) : tOr f g env = (bdK (f env) (fun b e1 => if b = true then .ok true e1 else g e1) .mk) := by
  first | exact nrfl rfl | exact nrfl (by cases env <;> rfl)
@[simp] theorem eAn_ap (f g : Ev → Rx LV) (env : Ev) : eAn f g env = (bdK (tE f env) (fun b e1 => if b = true then g e1 else .ok (.v (.bl false)) e1) .mk) := by
  first | exact nrfl rfl | exact nrfl (by cases env <;> rfl)
@[simp] theorem eOr_ap (f g : Ev → Rx LV) (env : Ev) : eOr f g env = (bdK (tE f env) (fun b e1 => if b = true then .ok (.v (.bl true)) e1 else g e1) .mk) := by
  first | exact nrfl rfl | exact nrfl (by cases env <;> rfl)
@[simp] theorem eNt_ap (f : Ev → Rx LV) (env : Ev) : eNt f env = (bdK (tE f env) (fun b e1 => .ok (.v (.bl (!b))) e1) .mk) := by
  first | exact nrfl rfl | exact nrfl (by cases env <;> rfl)
@[simp] theorem eIf_ap (t : Ev → Rx Bool) (f g : Ev → Rx LV) (env : Ev) : eIf t f g env = (bdK (t env) (fun b e1 => if b = true then f e1 else g e1) .mk) := by
  first | exact nrfl rfl | exact nrfl (by cases env <;> rfl)
@[simp] theorem sSet_ap (i : Nat) (f : Ev → Rx LV) (env : Ev) : sSet i f env = (otK (f env) (fun x e1 => match x with
  | .v d => .nx (e1.set i (.p d))
  | .s _ => .no) .mk) := by
  first | exact nrfl rfl | exact nrfl (by cases env <;> rfl)
@[simp] theorem sSetO_ap (i : Nat) (f : Ev → Rx D) (env : Ev) : sSetO i f env = (otK (f env) (fun d e1 => .nx (e1.set i (.o d))) .mk) := by
  first | exact nrfl rfl | exact nrfl (by cases env <;> rfl)
@[simp] theorem gN_ap (i : Nat) (d : D) (env : Ev) : gN i d env = (some (env.set i (.p d))) := by
  first | exact nrfl rfl | exact nrfl (by cases env <;> rfl)
@[simp] theorem gsNil_ap (ds : List D) (env : Ev) : gsNil  ds env = (match ds with
  | [] => some env
  | _ => none) := by
  first | exact nrfl rfl | exact nrfl (by cases env <;> rfl)
@[simp] theorem gsCons_ap (g : D → Ev → Option Ev) (gs : List D → Ev → Option Ev) (ds : List D) (env : Ev) : gsCons g gs ds env = (match ds with
  | d :: r => (g d env).bind (gs r)
  | [] => none) := by
  first | exact nrfl rfl | exact nrfl (by cases env <;> rfl)
@[simp] theorem gT_ap (n : Nat) (gs : List D → Ev → Option Ev) (d : D) (env : Ev) : gT n gs d env = (match d with
  | .tup l => if l.length = n then gs l env else none
  | _ => none) := by
  first | exact nrfl rfl | exact nrfl (by cases env <;> rfl)
@[simp] theorem sAsg_ap (g : D → Ev → Option Ev) (f : Ev → Rx LV) (env : Ev) : sAsg g f env = (otK (f env) (fun x e1 => match x with
  | .v d => match g d e1 with
    | some e2 => .nx e2
    | none => .no
  | .s _ => .no) .mk) := by
  first | exact nrfl rfl | exact nrfl (by cases env <;> rfl)
@[simp] theorem sPar_ap (i j : Nat) (f : Ev → Rx (List LV)) (env : Ev) : sPar i j f env = ((f env).out (parF i j)) := by
  first | exact nrfl rfl | exact nrfl (by cases env <;> rfl)
@[simp] theorem sDrop_ap (f : Ev → Rx LV) (env : Ev) : sDrop f env = (otK (f env) (fun _ e1 => .nx e1) .mk) := by
  first | exact nrfl rfl | exact nrfl (by cases env <;> rfl)
@[simp] theorem sRet_ap (f : Ev → Rx LV) (env : Ev) : sRet f env = (otK (f env) (fun x e1 => match x with
  | .v d => .rt d e1
  | .s _ => .no) .mk) := by
  first | exact nrfl rfl | exact nrfl (by cases env <;> rfl)
@[simp] theorem sRetF_ap (f : Ev → Rx D) (env : Ev) : sRetF f env = (otK (f env) (fun d e1 => .rf d e1) .mk) := by
  first | exact nrfl rfl | exact nrfl (by cases env <;> rfl)
@[simp] theorem sRetN_ap (env : Ev) : sRetN  env = (.rt .non env) := by
  first | exact nrfl rfl | exact nrfl (by cases env <;> rfl)
@[simp] theorem sNx_ap (env : Ev) : sNx  env = (.nx env) := by
  first | exact nrfl rfl | exact nrfl (by cases env <;> rfl)
@[simp] theorem sBk_ap (env : Ev) : sBk  env = (.bk env) := by
  first | exact nrfl rfl | exact nrfl (by cases env <;> rfl)
@[simp] theorem sCt_ap (env : Ev) : sCt  env = (.ct env) := by
  first | exact nrfl rfl | exact nrfl (by cases env <;> rfl)
@[simp] theorem sIf_ap (t : Ev → Rx Bool) (f g : Ev → Out) (env : Ev) : sIf t f g env = (otK (t env) (fun b e1 => if b = true then f e1 else g e1) .mk) := by
  first | exact nrfl rfl | exact nrfl (by cases env <;> rfl)
@[simp] theorem sFz_ap (i : Nat) (f : Ev → Out) (env : Ev) : sFz i f env = (f (frz i env)) := by
  first | exact nrfl rfl | exact nrfl (by cases env <;> rfl)
@[simp] theorem eCallF_ap (ref : Option Nat) (fn : List D → FOut) (fa : Ev → Rx (List LV)) (env : Ev) : eCallF ref fn fa env = ((fa env).bind (callX ref fn)) := by
  first | exact nrfl rfl | exact nrfl (by cases env <;> rfl)
@[simp] theorem eCall_ap (ref : Option Nat) (fn : List D → FOut) (fa : Ev → Rx (List LV)) (env : Ev) : eCall ref fn fa env = (bdK ((fa env).bind (callX ref fn)) (fun d e => .ok (.v d) e) .mk) := by
  first | exact nrfl rfl | exact nrfl (by cases env <;> rfl)
@[simp] theorem tYs_ap (env : Ev) : tYs  env = (.ok true env) := by
  first | exact nrfl rfl | exact nrfl (by cases env <;> rfl)
@[simp] theorem eLc_ap (it : Ev → Rx (List D)) (g : D → Ev → Option Ev) (t : Ev → Rx Bool) (f : Ev → Rx LV) (vs : List Nat) (env : Ev) : eLc it g t f vs env = ((it env).bind (lcL g t f vs)) := by
  first | exact nrfl rfl | exact nrfl (by cases env <;> rfl)
theorem eCh_ap (g g' : D → D → Option D) (fa fb fc : Ev → Rx LV) (env : Ev) : eCh g g' fa fb fc env = (bdK (fa env) (fun x e1 => bdK (fb e1) (fun y e2 => match rs e2 x, rs e2 y with
  | some x', some y' => match g x' y' with
    | some (.bl true) => bdK (fc e2) (fun z e3 => op2 g' e3 y z) .mk
    | some (.bl false) => .ok (.v (.bl false)) e2
    | _ => .no
  | _, _ => .no) .mk) .mk) := by
  first | exact nrfl rfl | exact nrfl (by cases env <;> rfl)
@[simp] theorem oNo_ap (env : Ev) : oNo  env = (.ok none env) := by
  first | exact nrfl rfl | exact nrfl (by cases env <;> rfl)
@[simp] theorem oPt_ap (f : Ev → Rx LV) (env : Ev) : oPt f env = (bdK (f env) (fun x e1 => match x with
  | .v (.int i) => .ok (some i) e1
  | _ => .no) .mk) := by
  first | exact nrfl rfl | exact nrfl (by cases env <;> rfl)
@[simp] theorem eSl_ap (fa : Ev → Rx LV) (fl fh : Ev → Rx (Option Int)) (env : Ev) : eSl fa fl fh env = (bdK (fa env) (fun x e1 => bdK (fl e1) (fun lo e2 => bdK (fh e2) (fun hi e3 => match (rs e3 x).bind (fun d => gSl d lo hi) with
  | some z => .ok (.v z) e3
  | none => .no) .mk) .mk) .mk) := by
  first | exact nrfl rfl | exact nrfl (by cases env <;> rfl)
@[simp] theorem eSlF_ap (fa : Ev → Rx LV) (fl fh : Ev → Rx (Option Int)) (env : Ev) : eSlF fa fl fh env = (bdK (fa env) (fun x e1 => bdK (fl e1) (fun lo e2 => bdK (fh e2) (fun hi e3 => match (rs e3 x).bind (fun d => gSlF d lo hi) with
  | some z => .ok z e3
  | none => .no) .mk) .mk) .mk) := by
  first | exact nrfl rfl | exact nrfl (by cases env <;> rfl)
@[simp] theorem eUnF_ap (g : D → Option D) (fa : Ev → Rx LV) (env : Ev) : eUnF g fa env = (bdK (fa env) (fun x e1 => match (rs e1 x).bind g with
  | some z => .ok z e1
  | none => .no) .mk) := by
  first | exact nrfl rfl | exact nrfl (by cases env <;> rfl)
@[simp] theorem iE_ap (f : Ev → Rx LV) (env : Ev) : iE f env = (bdK (f env) (fun x e1 => match x with
  | .v d => match itD d with
    | some l => .ok l e1
    | none => .no
  | .s _ => .no) .mk) := by
  first | exact nrfl rfl | exact nrfl (by cases env <;> rfl)
@[simp] theorem iRg_ap (fa : Ev → Rx (List LV)) (env : Ev) : iRg fa env = (bdK (fa env) (fun xs e1 => match allV xs with
  | some [.int j] => if bg j = true then .ok (rng 0 j.toNat) e1 else .no
  | _ => .no) .mk) := by
  first | exact nrfl rfl | exact nrfl (by cases env <;> rfl)
@[simp] theorem iRg2_ap (fa : Ev → Rx (List LV)) (env : Ev) : iRg2 fa env = (bdK (fa env) (fun xs e1 => match allV xs with
  | some [.int i, .int j] => if bg i = true ∧ bg j = true then .ok (rng i (j - i).toNat) e1 else .no
  | _ => .no) .mk) := by
  first | exact nrfl rfl | exact nrfl (by cases env <;> rfl)
@[simp] theorem iEn_ap (fa : Ev → Rx (List LV)) (env : Ev) : iEn fa env = (bdK (fa env) (fun xs e1 => match allV xs with
  | some [d] => match itD d, d with
    | some l, .lst _ => .ok (enumL 0 l) e1
    | some l, .tup _ => .ok (enumL 0 l) e1
    | some l, .scr _ => .ok (enumL 0 l) e1
    | _, _ => .no
  | _ => .no) .mk) := by
  first | exact nrfl rfl | exact nrfl (by cases env <;> rfl)
@[simp] theorem eIsi_ap (T : TN) (f : Ev → Rx LV) (env : Ev) : eIsi T f env = (bdK (f env) (fun x e1 => match (rs e1 x).bind tyN with
  | some a => .ok (.v (.bl (isiT a T))) e1
  | none => .no) .mk) := by
  first | exact nrfl rfl | exact nrfl (by cases env <;> rfl)
@[simp] theorem eJoin_ap (fo fe : Ev → Rx LV) (env : Ev) : eJoin fo fe env = (bdK (fo env) (fun x e1 => bdK (match x with | .v (.str a) => Rx.ok a e1 | _ => Rx.no) (fun a e1 => bdK (fe e1) (fun y e2 => op2 gJoin e2 (.v (.str a)) y) .mk) .mk) .mk) := by
  first | exact nrfl rfl | exact nrfl (by cases env <;> rfl)
@[simp] theorem sApp_ap (i : Nat) (fa : Ev → Rx (List LV)) (env : Ev) : sApp i fa env = (match lvL env i with
  | some _ => (fa env).out (appF i)
  | none => .no) := by
  first | exact nrfl rfl | exact nrfl (by cases env <;> rfl)
@[simp] theorem sPut_ap (i : Nat) (fi f : Ev → Rx LV) (env : Ev) : sPut i fi f env = (otK (f env) (fun x e1 => match x, lvL e1 i with
  | .v d, some _ => (fi e1).out (putF i d)
  | _, _ => .no) .mk) := by
  first | exact nrfl rfl | exact nrfl (by cases env <;> rfl)
@[simp] theorem ePop_ap (i : Nat) (fa : Ev → Rx (List LV)) (env : Ev) : ePop i fa env = (match lvL env i with
  | some _ => (fa env).bind (popF i)
  | none => .no) := by
  first | exact nrfl rfl | exact nrfl (by cases env <;> rfl)
@[simp] theorem ePop0_ap (i : Nat) (env : Ev) : ePop0 i env = (match lvL env i with
  | some l => match l[l.length - 1]? with
    | some d => .ok (.v d) (putL env i l.dropLast)
    | none => .no
  | none => .no) := by
  first | exact nrfl rfl | exact nrfl (by cases env <;> rfl)
@[simp] theorem sParF_ap (i j : Nat) (fa fb : Ev → Rx D) (env : Ev) : sParF i j fa fb env = (otK (fa env) (fun d e1 => otK ((fb e1).bindN Rx.ok) (fun d' e2 => .nx ((e2.set i (.o d)).set j (.o d'))) .mk) .mk) := by
  first | exact nrfl rfl | exact nrfl (by cases env <;> rfl)
@[simp] theorem sParEF_ap (i j : Nat) (fa : Ev → Rx LV) (fb : Ev → Rx D) (env : Ev) : sParEF i j fa fb env = (otK (fa env) (fun x e1 => match x with
  | .v d => otK (fb e1) (fun d' e2 => .nx ((e2.set i (.p d)).set j (.o d'))) .mk
  | .s _ => .no) .mk) := by
  first | exact nrfl rfl | exact nrfl (by cases env <;> rfl)
@[simp] theorem sEr_ap (n : Str) (env : Ev) : sEr n env = (.er ⟨n⟩) := by
  first | exact nrfl rfl | exact nrfl (by cases env <;> rfl)
end DL

namespace DL
open PySem PySem.Spec PyProof.Rows L2

/-! ### helps for the plain laws -/
@[simp] theorem bdK_ite {α β : Type} {c : Prop} [Decidable c] (x y : Rx α) (f : α → Ev → Rx β) (h : Hide f) : bdK (if c then x else y) f h = if c then bdK x f h else bdK y f h := by split <;> rfl
@[simp] theorem otK_ite {α : Type} {c : Prop} [Decidable c] (x y : Rx α) (f : α → Ev → Out) (h : Hide f) : otK (if c then x else y) f h = if c then otK x f h else otK y f h := by split <;> rfl
theorem gEq_sh {x y : D} (h : sh 8 x = true) (h2 : sh 8 y = true) : gEq x y = some (.bl (deq x y)) := by unfold gEq; split <;> simp [h, h2]
theorem gNe_sh {x y : D} (h : sh 8 x = true) (h2 : sh 8 y = true) : gNe x y = some (.bl (!deq x y)) := by unfold gNe; split <;> simp [h, h2]
theorem mulOk_l {i j : Int} (h : -1000000000000000000 < i) (h2 : i < 1000000000000000000) : mulOk i j = true := decide_eq_true (.inl ⟨by omega, by omega⟩)
theorem mulOk_r {i j : Int} (h : -1000000000000000000 < j) (h2 : j < 1000000000000000000) : mulOk i j = true := decide_eq_true (.inr ⟨by omega, by omega⟩)
theorem divOk_t {i j : Int} (h : 0 < j) (h2 : j < 1000000000000000000) : divOk i j = true := decide_eq_true ⟨h, by omega⟩
theorem bg_t {i : Int} (h : -1000000000000000000 < i) (h2 : i < 1000000000000000000) : bg i = true := decide_eq_true ⟨by omega, by omega⟩
@[simp] theorem gEq_int (a b : Int) : gEq (.int a) (.int b) = some (.bl (decide (a = b))) := by
  rw [gEq_sh rfl rfl]; rfl
@[simp] theorem gNe_int (a b : Int) : gNe (.int a) (.int b) = some (.bl (!decide (a = b))) := by
  rw [gNe_sh rfl rfl]; rfl
@[simp] theorem gEq_str (a b : Str) : gEq (.str a) (.str b) = some (.bl (decide (a = b))) := by simp [gEq, scD, deq]
@[simp] theorem gNe_str (a b : Str) : gNe (.str a) (.str b) = some (.bl (!decide (a = b))) := by simp [gNe, scD, deq]
@[simp] theorem eCh_if (g g' : D → D → Option D) (fa fb fc : Ev → Rx LV) (env : Ev) : eCh g g' fa fb fc env = bdK (fa env) (fun x e1 => bdK (fb e1) (fun y e2 => match rs e2 x, rs e2 y with
  | some x', some y' => match g x' y' with
    | some (.bl b) => if b = true then bdK (fc e2) (fun z e3 => op2 g' e3 y z) .mk else .ok (.v (.bl false)) e2
    | _ => .no
  | _, _ => .no) .mk) .mk := by
  rw [eCh_ap]
  unfold bdK
  congr 1
  funext x e1
  congr 1
  funext y e2
  cases rs e2 x with
  | none => rfl
  | some x' =>
    cases rs e2 y with
    | none => rfl
    | some y' =>
      dsimp only
      cases g x' y' with
      | none => rfl
      | some z => cases z <;> first | rfl | (rename_i b; cases b <;> rfl)
theorem ixN_nat {n j : Nat} (h : j < n) : ixN n (j : Int) = some j := by
  unfold ixN
  rw [if_pos (by omega), if_pos (by omega)]
  rfl
theorem atI_nat' {α : Type} {l : List α} {j : Nat} (h : j < l.length) : atI l (j : Int) = some l[j] := by
  unfold atI
  rw [ixN_nat h]
  simp [h]
theorem atI_of {α : Type} {l : List α} {i : Int} (h0 : 0 ≤ i) (h : i < l.length) : ∃ x, atI l i = some x ∧ x ∈ l := by
  obtain ⟨j, rfl⟩ := Int.eq_ofNat_of_zero_le h0
  have hj : j < l.length := by omega
  exact ⟨l[j], atI_nat' hj, List.getElem_mem hj⟩
/-- a comprehension whose parts only read -/
theorem compL_map {g : D → Ev → Option Ev} {t : Ev → Rx Bool} {f : Ev → Rx LV} {vs : List Nat} (env : Ev) (F : D → D) : ∀ (items acc : List D),
    (∀ d ∈ items, ∃ e1, g d env = some e1 ∧ t e1 = .ok true e1 ∧ f e1 = .ok (.v (F d)) e1 ∧ fgt vs e1 = env) → acc.length + items.length ≤ LIM → compL g t f vs items env acc = .ok (acc ++ items.map F) env
  | [], acc, _, _ => by rw [compL_nil]; simp
  | d :: r, acc, h, hl => by
    obtain ⟨e1, h1, h2, h3, h4⟩ := h d (List.mem_cons_self ..)
    rw [List.length_cons] at hl
    rw [compL_cons, h1, lc_some, h2, bnK_ok, if_pos rfl, h3, bnK_ok]
    show (if acc.length < LIM then compL g t f vs r (fgt vs e1) (acc ++ [F d]) else .no) = _
    rw [if_pos (by omega), h4, compL_map env F r (acc ++ [F d]) (fun d' hd' => h d' (List.mem_cons_of_mem _ hd')) (by rw [List.length_append, List.length_singleton]; omega)]
    simp
/-- a comprehension whose parts change the environment: P of it and of what is made holds on -/
theorem compL_inv {g : D → Ev → Option Ev} {t : Ev → Rx Bool} {f : Ev → Rx LV} {vs : List Nat} (I : Ev → Prop) (R : D → D → Prop) : ∀ (items acc : List D) (env : Ev), I env →
    (∀ d ∈ items, ∀ env, I env → ∃ e1 e2 e3 y, g d env = some e1 ∧ t e1 = .ok true e2 ∧ f e2 = .ok (.v y) e3 ∧ I (fgt vs e3) ∧ R d y) → acc.length + items.length ≤ LIM →
    ∃ l env', compL g t f vs items env acc = .ok (acc ++ l) env' ∧ I env' ∧ Paired R items l
  | [], acc, env, hI, _, _ => ⟨[], env, by rw [compL_nil]; simp, hI, .nil⟩
  | d :: r, acc, env, hI, h, hl => by
    obtain ⟨e1, e2, e3, y, h1, h2, h3, h4, h5⟩ := h d (List.mem_cons_self ..) env hI
    rw [List.length_cons] at hl
    obtain ⟨l, env', q1, q2, q3⟩ := compL_inv I R r (acc ++ [y]) (fgt vs e3) h4 (fun d' hd' => h d' (List.mem_cons_of_mem _ hd')) (by rw [List.length_append, List.length_singleton]; omega)
    refine ⟨y :: l, env', ?_, q2, .cons h5 q3⟩
    rw [compL_cons, h1, lc_some, h2, bnK_ok, if_pos rfl, h3, bnK_ok]
    show (if acc.length < LIM then compL g t f vs r (fgt vs e3) (acc ++ [y]) else .no) = _
    rw [if_pos (by omega), q1]
    simp
/-- a loop that runs through: I by the items gone -/
theorem forL_inv {g : D → Ev → Option Ev} {b : Ev → Out} (I : List D → Ev → Prop) : ∀ (items : List D) (env : Ev), I items env →
    (∀ d r env, I (d :: r) env → ∃ e1 e2, g d env = some e1 ∧ (b e1 = .nx e2 ∨ b e1 = .ct e2) ∧ I r e2) → ∃ env', forL g b items env = .nx env' ∧ I [] env'
  | [], env, hI, _ => ⟨env, forL_nil .., hI⟩
  | d :: r, env, hI, h => by
    obtain ⟨e1, e2, h1, h2, h3⟩ := h d r env hI
    obtain ⟨env', q1, q2⟩ := forL_inv I r e2 h3 h
    refine ⟨env', ?_, q2⟩
    rw [forL_cons, h1, ogo_some]
    rcases h2 with h2 | h2
    · rw [h2, stp_nx, q1]
    · rw [h2, stp_ct, q1]
end DL

namespace DL
open PySem PySem.Spec PyProof.Rows L2
variable [Tab]
section
variable {X : Cx} {W : WX}

/-! ### x, y, .. = .., values and new lists mixed -/
abbrev Mk := (Ev → Rx LV) ⊕ (Ev → Rx D)
def mEv : List Mk → Ev → Rx (List Sl)
  | [], env => .ok [] env
  | .inl f :: r, env => (f env).bindN fun x e1 => match x with
    | .v d => (mEv r e1).bindN fun l e2 => .ok (.p d :: l) e2
    | .s _ => .no
  | .inr f :: r, env => (f env).bindN fun d e1 => (mEv r e1).bindN fun l e2 => .ok (.o d :: l) e2
def Ap (a : Addr) : List V → List Sl → Prop
  | v :: vs, .o _ :: l => v ≠ V.ref a ∧ Ap a vs l
  | _ :: vs, .p _ :: l => Ap a vs l
  | _, _ => True
/-- what stands for the slots' data -/
inductive MRp (X : Cx) (c : C0) (σ : St) (H F : Hp) (env : Ev) : List V → List Sl → Prop
  | nil : MRp X c σ H F env [] []
  | p {v d vs l} : Rp X.K F v d → MRp X c σ H F env vs l → MRp X c σ H F env (v :: vs) (.p d :: l)
  | o {a d vs l} : Fresh c σ H F env a → OwnAt X.K F (H a) d → Ap a vs l → MRp X c σ H F env vs l → MRp X c σ H F env (.ref a :: vs) (.o d :: l)
def MSem (X : Cx) (t : TA) (f : Ev → Rx (List Sl)) : Prop := ∀ c σ H F env (Q : List V → Hp → Prop) l env', Sim X.K c σ H F env → f env = .ok l env' →
  (∀ vs H' F', Sim X.K c σ H' F' env' → Same F F' → MRp X c σ H' F' env' vs l → Q vs H') → t σ H Q
structure MOk (X : Cx) (es : List Expr) (f : Ev → Rx (List Sl)) : Prop where
  ex : ∃ t, PA X es t ∧ MSem X t f
theorem mok_nil : MOk X [] (mEv []) := ⟨_, pa_nil, fun c σ H F env Q l env' S e p => by cases e; exact p [] H F S (Same.refl _) .nil⟩
theorem mok_e {e : Expr} {es : List Expr} {f : Ev → Rx LV} {ms : List Mk} (h : EOk X W e f) (hr : MOk X es (mEv ms)) (hs : starEach (e :: es) X.env = (false, eval e X.env) :: starEach es X.env := by rfl) : MOk X (e :: es) (mEv (.inl f :: ms)) := by
  obtain ⟨t, h1, h2⟩ := h.ex
  obtain ⟨u, g1, g2⟩ := hr.ex
  refine ⟨_, pa_cons h1 g1 hs, fun c σ H F env Q l env' S e p => h2 c σ H F env _ S ?_⟩
  simp only [mEv] at e
  obtain ⟨x, e1, q1, e⟩ := Rx.bindN_inv e
  rw [q1]
  intro H1 F1 S1 s1 v hv
  cases x with
  | s i => cases e
  | v d =>
    simp only at e
    obtain ⟨l', e2, q2, e⟩ := Rx.bindN_inv e
    cases e
    refine g2 c σ H1 F1 e1 _ l' env' S1 q2 fun vs H2 F2 S2 s2 r2 => ?_
    exact p _ H2 F2 S2 (s1.trans s2) (.p ((show Rp X.K F1 v d from hv).mono s2) r2)
theorem MRp.unbase {c : C0} {σ : St} {H F H' F' : Hp} {env env' : Ev} (S : Sim X.K c σ H F env) : ∀ {vs : List V} {l : List Sl}, MRp X (here c σ H F env) σ H' F' env' vs l → MRp X c σ H' F' env' vs l
  | _, _, .nil => .nil
  | _, _, .p r t => .p r (t.unbase S)
  | _, _, .o f ow n t => .o ⟨f.there, f.noF, S.live _ f.noc, f.nos⟩ ow n (t.unbase S)
theorem MRp.ap {c : C0} {σ : St} {H F H' F' : Hp} {env env' : Ev} {a : Addr} (ha : ∃ o, H a = some o) : ∀ {vs : List V} {l : List Sl}, MRp X (here c σ H F env) σ H' F' env' vs l → Ap a vs l
  | _, _, .nil => trivial
  | _, _, .p r t => t.ap ha
  | _, _, .o (a := b) f ow n t => ⟨fun e => (by
      cases e
      obtain ⟨o, ho⟩ := ha
      have q := f.noc
      rw [show (here c σ H F env).H a = H a from rfl, ho] at q
      cases q), t.ap ha⟩
theorem mok_f {e : Expr} {es : List Expr} {f : Ev → Rx D} {ms : List Mk} (h : FOk X W e f) (hr : MOk X es (mEv ms)) (hs : starEach (e :: es) X.env = (false, eval e X.env) :: starEach es X.env := by rfl) : MOk X (e :: es) (mEv (.inr f :: ms)) := by
  obtain ⟨t, h1, h2⟩ := h.ex
  obtain ⟨u, g1, g2⟩ := hr.ex
  refine ⟨_, pa_cons h1 g1 hs, fun c σ H F env Q l env' S e p => h2 c σ H F env _ S ?_⟩
  simp only [mEv] at e
  obtain ⟨d, e1, q1, e⟩ := Rx.bindN_inv e
  obtain ⟨l', e2, q2, e⟩ := Rx.bindN_inv e
  cases e
  rw [q1]
  intro H1 F1 S1 s1 a fr ow
  refine g2 (here c σ H1 F1 e1) σ H1 F1 e1 _ l' env' S1.rebase q2 fun vs H2 F2 S2 s2 r2 => ?_
  obtain ⟨eq1, fr3⟩ := fr.part (env2 := env') S1 S2 (fun k d lv => ⟨lv, by
    by_cases hz : σ[k]? = some (some (V.ref a))
    · exact .inl hz
    · exact .inr hz⟩)
  exact p _ H2 F2 (S1.unbase S2) (s1.trans s2) (.o fr3 (by rw [eq1]; exact ow.mono s2) (r2.ap (let ⟨o, h, _⟩ := fr.there; ⟨o, h⟩)) (r2.unbase S1))
/-- the slots are stored one by one -/
def stV : List Nat → List V → St → St
  | i :: is, v :: vs, σ => stV is vs (σ.set i (some v))
  | _, _, σ => σ
def stS : List Nat → List Sl → Ev → Ev
  | i :: is, s :: l, e => stS is l (e.set i s)
  | _, _, e => e
theorem fresh_p {c : C0} {σ : St} {H F : Hp} {env : Ev} {a : Addr} {i : Nat} {v : V} {d : D} (f : Fresh c σ H F env a) : Fresh c (σ.set i (some v)) H F (env.set i (.p d)) a := by
  refine ⟨f.there, f.noF, f.noc, fun k d0 lv z => ?_⟩
  by_cases hk : k = i
  · subst hk
    unfold Live at lv
    rw [List.getElem?_set] at lv
    simp only [if_true] at lv
    split at lv <;> rcases lv with lv | lv <;> cases lv
  · rw [List.getElem?_set_ne (Ne.symm hk)] at z
    refine f.nos k d0 ?_ z
    unfold Live at lv ⊢
    rw [List.getElem?_set_ne (Ne.symm hk)] at lv
    exact lv
theorem fresh_o {c : C0} {σ : St} {H F : Hp} {env : Ev} {a b : Addr} {i : Nat} {d : D} (f : Fresh c σ H F env a) (hne : b ≠ a) : Fresh c (σ.set i (some (.ref b))) H F (env.set i (.o d)) a := by
  refine ⟨f.there, f.noF, f.noc, fun k d0 lv z => ?_⟩
  by_cases hk : k = i
  · subst hk
    rw [List.getElem?_set] at z
    simp only [if_true] at z
    split at z
    · cases z; exact hne rfl
    · cases z
  · rw [List.getElem?_set_ne (Ne.symm hk)] at z
    refine f.nos k d0 ?_ z
    unfold Live at lv ⊢
    rw [List.getElem?_set_ne (Ne.symm hk)] at lv
    exact lv
theorem MRp.set_p {c : C0} {σ : St} {H F : Hp} {env : Ev} {i : Nat} {v : V} {d : D} : ∀ {vs : List V} {l : List Sl}, MRp X c σ H F env vs l → MRp X c (σ.set i (some v)) H F (env.set i (.p d)) vs l
  | _, _, .nil => .nil
  | _, _, .p r t => .p r t.set_p
  | _, _, .o f ow n t => .o (fresh_p f) ow n t.set_p
theorem MRp.set_o {c : C0} {σ : St} {H F : Hp} {env : Ev} {i : Nat} {b : Addr} {d : D} : ∀ {vs : List V} {l : List Sl}, MRp X c σ H F env vs l → Ap b vs l → MRp X c (σ.set i (some (.ref b))) H F (env.set i (.o d)) vs l
  | _, _, .nil, _ => .nil
  | _, _, .p r t, h => .p r (t.set_o h)
  | _, _, .o f ow n t, h => .o (fresh_o f fun e => h.1 (by rw [e])) ow n (t.set_o h.2)
theorem stV_sim {c : C0} (hc : Stm c) {H F : Hp} : ∀ {is : List Nat} {vs : List V} {l : List Sl} {σ : St} {env : Ev}, Sim X.K c σ H F env → MRp X c σ H F env vs l → Sim X.K c (stV is vs σ) H F (stS is l env)
  | [], _, _, _, _, S, _ => by simpa [stV, stS] using S
  | _ :: _, _, _, _, _, S, .nil => S
  | i :: is, _, _, _, _, S, .p r t => stV_sim (is := is) hc (S.setP (i := i) r) t.set_p
  | i :: is, _, _, _, _, S, .o f ow n t => stV_sim (is := is) hc (S.setO (i := i) f hc ow) (t.set_o n)
def sMul (is : List Nat) (f : Ev → Rx (List Sl)) : Ev → Out := fun env => match f env with
  | .ok l e => if l.length = is.length then .nx (stS is l e) else .no
  | _ => .no
theorem MRp.len {c : C0} {σ : St} {H F : Hp} {env : Ev} : ∀ {vs : List V} {l : List Sl}, MRp X c σ H F env vs l → vs.length = l.length
  | _, _, .nil => rfl
  | _, _, .p r t => congrArg (· + 1) t.len
  | _, _, .o f ow n t => congrArg (· + 1) t.len
theorem sok_mul2 {st : Stmt} {i j : Nat} {es : List Expr} {f : Ev → Rx (List Sl)} (hp : ∀ {t}, PA X es t → PS X st (tPar i j t)) (h : MOk X es f) : SOk X W st (sMul [i, j] f) := by
  obtain ⟨t, h1, h2⟩ := h.ex
  refine ⟨_, hp h1, fun c σ H F env De hc S p => ?_⟩
  unfold sMul at p
  cases q : f env with
  | er x => rw [q] at p; exact p.elim
  | no => rw [q] at p; exact p.elim
  | ok l e =>
    rw [q] at p
    simp only at p
    split at p
    · rename_i hl
      refine h2 c σ H F env _ l e S q fun vs H1 F1 S1 s1 r => ?_
      have hv := r.len
      rw [hl] at hv
      match vs, hv with
      | [v, w], _ => exact ⟨v, w, rfl, p _ _ _ (stV_sim (is := [i, j]) hc S1 r) s1⟩
    · exact p.elim
theorem sok_mul3 {st : Stmt} {i j k : Nat} {es : List Expr} {f : Ev → Rx (List Sl)} (hp : ∀ {t}, PA X es t → PS X st (tPar3 i j k t)) (h : MOk X es f) : SOk X W st (sMul [i, j, k] f) := by
  obtain ⟨t, h1, h2⟩ := h.ex
  refine ⟨_, hp h1, fun c σ H F env De hc S p => ?_⟩
  unfold sMul at p
  cases q : f env with
  | er x => rw [q] at p; exact p.elim
  | no => rw [q] at p; exact p.elim
  | ok l e =>
    rw [q] at p
    simp only at p
    split at p
    · rename_i hl
      refine h2 c σ H F env _ l e S q fun vs H1 F1 S1 s1 r => ?_
      have hv := r.len
      rw [hl] at hv
      match vs, hv with
      | [v, w, x], _ => exact ⟨v, w, x, rfl, p _ _ _ (stV_sim (is := [i, j, k]) hc S1 r) s1⟩
    · exact p.elim

/-! ### zip -/
def zipL : List D → List D → List D
  | a :: l, b :: m => .tup [a, b] :: zipL l m
  | _, _ => []
theorem zipL_len : ∀ (l m : List D), (zipL l m).length = min l.length m.length
  | [], m => by simp [zipL]
  | a :: l, [] => by simp [zipL]
  | a :: l, b :: m => by simp [zipL, zipL_len l m]
theorem zipL_get : ∀ (l m : List D) (j : Nat) (d : D), (zipL l m)[j]? = some d → ∃ x y, l[j]? = some x ∧ m[j]? = some y ∧ d = .tup [x, y]
  | [], m, j, d, h => by simp [zipL] at h
  | a :: l, [], j, d, h => by simp [zipL] at h
  | a :: l, b :: m, 0, d, h => by cases h; exact ⟨a, b, rfl, rfl, rfl⟩
  | a :: l, b :: m, j + 1, d, h => zipL_get l m j d h
def iZp (fa : Ev → Rx (List LV)) : Ev → Rx (List D) := fun env => (fa env).bind fun xs e1 => match allV xs with
  | some [.lst l, .lst m] => .ok (zipL l m) e1
  | some [.tup l, .tup m] => .ok (zipL l m) e1
  | _ => .no
theorem walk_zipT {K : PySem.W.Frag} {a b : Addr} {xs ys : List V} {n : Nat} (hn : n = min xs.length ys.length) : Walk (RZ.ItzT K a b) n (fun H => SqT K H a xs ∧ SqT K H b ys) (YPair (fun i => xs[i]?) (fun i => ys[i]?)) := by
  subst hn
  refine ⟨fun i _ hi q => ?_, fun _ q => ⟨xs, ys, q.1, q.2, (by omega : xs.length ≤ min xs.length ys.length ∨ ys.length ≤ min xs.length ys.length)⟩, fun i H v H' _ q y => ?_⟩
  · have g1 : i < xs.length := by omega
    have g2 : i < ys.length := by omega
    exact ⟨xs, ys, xs[i]'g1, ys[i]'g2, q.1, q.2, List.getElem?_eq_getElem g1, List.getElem?_eq_getElem g2⟩
  · obtain ⟨T, x, z, e1, e2, e3, e4, e5⟩ := y
    exact ⟨T, x, z, e1, e2, e3, e4 xs q.1, e5 ys q.2⟩
theorem iok_zp {e e2 : Expr} {p pos tpos : Pos} {elts : List Expr} {kk : Nat} {fa : Ev → Rx (List LV)} (hg : Gl X "zip") (hm : X.mg "zip" = none) (ha : AOk X W [e, e2] fa)
    (hs : starEach [e, e2] X.env = (false, eval e X.env) :: starEach [e2] X.env := by rfl) (hpl : (backTo pos (starEach [e2] X.env)).any (·.1) = false := by rfl) :
    IOk X W (.Tuple elts kk tpos) (.Call (.Name "zip" p) [e, e2] [] pos) (iZp fa) := by
  obtain ⟨t, h1, h2⟩ := ha.ex
  refine ⟨_, RZ.pi_zipA hg hm h1 hs hpl, fun c σ H F env R S p => h2 c σ H F env _ S ?_⟩
  unfold iZp at p
  cases q : fa env with
  | er x => rw [q] at p; exact p
  | no => rw [q] at p; exact p.elim
  | ok xs e1 =>
    rw [q] at p
    rw [Rx.bind_ok] at p
    intro H1 F1 S1 s1 vs hvs
    split at p
    · rename_i l m hd
      have r := allV_rp hvs hd
      cases r with
      | cons r1 r2 =>
        cases r2 with
        | cons r2 r3 =>
          cases r3
          cases r1 with
          | @lst a ws _ h r =>
            cases r2 with
            | @lst b us _ h' r' =>
              refine ⟨a, b, ws, us, rfl, .inl ⟨.inl (.inl (S1.sub _ _ h)), .inl (.inl (S1.sub _ _ h')), p H1 F1 S1 s1 _ ⟨_, _, walk_zip (xs := ws) (ys := us) (by rw [zipL_len, r.length, r'.length]), fun H e => ⟨.inl (.inl (e _ _ h)), .inl (.inl (e _ _ h'))⟩, fun i d H x H' F1 hd e1 e2 y => ?_⟩⟩⟩
              obtain ⟨T, x1, y1, rfl, hT, rfl, h1, h2⟩ := y
              obtain ⟨z1, z2, h3, h4, rfl⟩ := zipL_get _ _ _ _ hd
              exact pair_grown hT e2 (r.at2 F1 e1 i _ _ h1 h3) (r'.at2 F1 e1 i _ _ h2 h4)
    · rename_i l m hd
      have r := allV_rp hvs hd
      cases r with
      | cons r1 r2 =>
        cases r2 with
        | cons r2 r3 =>
          cases r3
          cases r1 with
          | @tup a ws _ h r =>
            cases r2 with
            | @tup b us _ h' r' =>
              refine ⟨a, b, ws, us, rfl, .inr ⟨same_t S1.sub h, same_t S1.sub h', p H1 F1 S1 s1 _ ⟨_, _, walk_zipT (xs := ws) (ys := us) (by rw [zipL_len, r.length, r'.length]), fun H e => ⟨same_t e h, same_t e h'⟩, fun i d H x H' F1 hd e1 e2 y => ?_⟩⟩⟩
              obtain ⟨T, x1, y1, rfl, hT, rfl, h1, h2⟩ := y
              obtain ⟨z1, z2, h3, h4, rfl⟩ := zipL_get _ _ _ _ hd
              exact pair_grown hT e2 (r.at2 F1 e1 i _ _ h1 h3) (r'.at2 F1 e1 i _ _ h2 h4)
    · exact p.elim
end
end DL

namespace DL
open PySem PySem.Spec PyProof.Rows L2
variable [Tab]
section
variable {X : Cx} {W : WX}

/-! ### the same where a tuple is built between (names of cells) -/
def nGs : List Nat → TGs
  | [] => gNil
  | i :: is => gCons (gName i) (nGs is)
theorem nGs_ok : ∀ {is : List Nat} {vs : List V} {σ : St} {H : Hp} {Q : St → Hp → Prop}, vs.length = is.length → Q (stV is vs σ) H → nGs is vs σ H Q
  | [], [], σ, H, Q, _, q => ⟨rfl, q⟩
  | i :: is, v :: vs, σ, H, Q, h, q => ⟨v, vs, rfl, nGs_ok (is := is) (by simpa using h) q⟩
  | [], _ :: _, _, _, _, h, _ => by simp at h
  | _ :: _, [], _, _, _, h, _ => by simp at h
theorem MRp.alloc {c : C0} {σ : St} {H F : Hp} {env : Ev} {p : Addr} {o : HO} (hp : H p = none) : ∀ {vs : List V} {l : List Sl}, MRp X c σ H F env vs l → MRp X c σ (upd H p o) F env vs l
  | _, _, .nil => .nil
  | _, _, .p r t => .p r (t.alloc hp)
  | _, _, .o (a := a) f ow n t => by
    obtain ⟨u, hu, hu2⟩ := f.there
    have hne : a ≠ p := ne_of_none hu hp
    exact .o ⟨⟨u, by rw [upd_ne hne]; exact hu, hu2⟩, f.noF, f.noc, f.nos⟩ (by rw [upd_ne hne]; exact ow) n (t.alloc hp)
theorem sok_mulT {st : Stmt} {is : List Nat} {es : List Expr} {f : Ev → Rx (List Sl)} (hn : is.length ≤ 10) (hp : ∀ {t}, PA X es t → PS X st (tAsg (tTup t) (gTup X.K is.length (nGs is)))) (h : MOk X es f) : SOk X W st (sMul is f) := by
  obtain ⟨t, h1, h2⟩ := h.ex
  refine ⟨_, hp h1, fun c σ H F env De hc S p => ?_⟩
  unfold sMul at p
  cases q : f env with
  | er x => rw [q] at p; exact p.elim
  | no => rw [q] at p; exact p.elim
  | ok l e =>
    rw [q] at p
    simp only at p
    split at p
    · rename_i hl
      refine h2 c σ H F env _ l e S q fun vs H1 F1 S1 s1 r => ?_
      have hv := r.len
      rw [hl] at hv
      refine ⟨by rw [hv]; exact Nat.le_trans hn (by decide), fun p0 hp0 => ⟨p0, vs, rfl, .inl (.inl upd_same), hv, nGs_ok hv ?_⟩⟩
      exact p _ _ _ (stV_sim hc (S1.newU hp0) (r.alloc hp0)) s1
    · exact p.elim

/-! ### f() -/
def eCall0 (fn : List D → FOut) : Ev → Rx LV := fun env => match fn [] with
  | .ok d _ => .ok (.v d) env
  | _ => .no
theorem eok_call0 {k : Nat} {f : Addr} {fd : FuncData} {fn : List D → FOut} {x : Str} {p pos : Pos} (G : FnOk X.prog X.w X.K X.mg X.base (L2N.CX X.prog X.w) k f fd [] (spD X.K X.mg none false 0 fn)) (hr : Room k X.A) (hg : Gl X x) (hm : X.mg x = some (.ref f)) (hk : PySem.W.keepIn X.K (.ref f) = true) (hb : Binds X.K fd [] [])
    (hdb : (x == ("__debug__" : Str)) = false := by decide) : EOk X W (.Call (.Name x p) [] [] pos) (eCall0 fn) := by
  refine ⟨_, pe_call0 (E := fun _ _ _ => False) G hr hg hm hk hb .nil (fun pins σ H s e s' I z => ?_) hdb, fun c σ H F env Q S p => ?_⟩
  · obtain ⟨_, _, _, _, _, _, _, _, _, _, _, _, z⟩ := z
    exact z.elim
  · show spD X.K X.mg none false 0 fn [] H Q (fun _ _ _ => False)
    unfold eCall0 at p
    refine call_sem (W := W0) (lvs := []) (R := fun d env' H' F' => ∀ v, Rp X.K F' v d → Q v H') (c := c) (σ := σ) (F := F) (env := env) S rfl .nil ?_ fun d v z H' F' ce S' nP r => ?_
    · cases q : fn [] with
      | ok d z =>
        rw [q] at p
        unfold callX
        simp only [argsD, q]
        exact fun H' F' S' s' v hv => p H' F' S' s' v hv
      | er e => rw [q] at p; exact p.elim
      | no => rw [q] at p; exact p.elim
    · exact r v (by have := ce.val; rw [if_neg Bool.false_ne_true] at this; exact this)

/-! ### xs.index(y) -/
theorem shL_all {n : Nat} : ∀ {l : List D}, shL n l = true → ∀ d ∈ l, sh n d = true
  | [], _, d, hd => by cases hd
  | x :: r, h, d, hd => by
    simp only [shL, Bool.and_eq_true] at h
    rcases List.mem_cons.mp hd with rfl | hd
    · exact h.1
    · exact shL_all h.2 d hd
def idxD (y : D) : List D → Option Nat
  | [] => none
  | x :: r => if deq x y = true then some 0 else (idxD y r).map (· + 1)
theorem idxD_some {y : D} : ∀ {l : List D} {j : Nat}, idxD y l = some j → ∃ z, l[j]? = some z ∧ deq z y = true ∧ ∀ (m : Nat) z', m < j → l[m]? = some z' → deq z' y = false
  | [], j, h => by cases h
  | x :: r, j, h => by
    simp only [idxD] at h
    split at h
    · rename_i hx
      cases h
      exact ⟨x, rfl, hx, fun m z' hm _ => absurd hm (Nat.not_lt_zero _)⟩
    · rename_i hx
      obtain ⟨k, h1, rfl⟩ := Option.map_eq_some_iff.mp h
      obtain ⟨z, h2, h3, h4⟩ := idxD_some h1
      refine ⟨z, h2, h3, fun m z' hm hz => ?_⟩
      cases m with
      | zero => cases hz; exact Bool.eq_false_iff.mpr hx
      | succ m => exact h4 m z' (by omega) hz
def gIndex (x y : D) : Option D := match x with
  | .lst l => if shL 7 l = true ∧ sh 8 y = true then (idxD y l).map fun j => .int (j : Nat) else none
  | _ => none
def idxF (x : LV) (xs : List LV) (e2 : Ev) : Rx LV := match xs with
  | [y] => op2 gIndex e2 x y
  | _ => .no
def eIndex (fo : Ev → Rx LV) (fa : Ev → Rx (List LV)) : Ev → Rx LV := fun env => (fo env).bind fun x e1 => match rs e1 x with
  | some (.lst _) => (fa e1).bind (idxF x)
  | _ => .no
theorem toPyL_get : ∀ (l : List D) (m : Nat), (toPyL l)[m]? = (l[m]?).map toPy
  | [], m => by simp [toPyL]
  | d :: r, 0 => by simp [toPyL]
  | d :: r, m + 1 => by simpa [toPyL] using toPyL_get r m
theorem eok_index {o e : Expr} {es : List Expr} {fo : Ev → Rx LV} {fa : Ev → Rx (List LV)} (hp : ∀ {to t}, PE X o to → PA X es t → PE X e (tBM X.K "list" (rIndexD X.K) to t)) (ho : EOk X W o fo) (ha : AOk X W es fa) : EOk X W e (eIndex fo fa) := by
  obtain ⟨to, o1, o2⟩ := ho.ex
  obtain ⟨t, a1, a2⟩ := ha.ex
  refine ⟨_, hp o1 a1, fun c σ H F env Q S p => o2 c σ H F env _ S ?_⟩
  unfold eIndex at p
  cases q : fo env with
  | er x => rw [q] at p; exact p
  | no => rw [q] at p; exact p.elim
  | ok x e1 =>
    rw [q] at p
    rw [Rx.bind_ok] at p
    intro H1 F1 S1 s1 v hv
    split at p
    · rename_i l0 hl0
      obtain ⟨a, ws, rfl, h1, _⟩ := (S1.hrp hv hl0).lst S1.sub
      refine ⟨.inl ⟨rfl, ws, .inl (.inl h1)⟩, a2 c σ H1 F1 e1 _ S1 ?_⟩
      cases q2 : fa e1 with
      | er x => rw [q2] at p; exact p
      | no => rw [q2] at p; exact p.elim
      | ok xs e2 =>
        rw [q2] at p
        rw [Rx.bind_ok] at p
        intro H2 F2 S2 s2 vs hvs
        unfold idxF at p
        split at p
        · rename_i y
          unfold op2 at p
          split at p
          · rename_i dx dy hx hy
            split at p
            · rename_i z hz
              unfold gIndex at hz
              split at hz
              · rename_i l
                split at hz
                · rename_i hsh
                  obtain ⟨j, hj, rfl⟩ := Option.map_eq_some_iff.mp hz
                  cases hvs with
                  | cons r1 r2 =>
                    cases r2
                    have hx2 := S2.hrp (hv.mono s2) hx
                    have hy2 := S2.hrp r1 hy
                    have hsl : sh 8 (.lst l) = true := hsh.1
                    obtain ⟨w, g1, g2, g3⟩ := idxD_some hj
                    have sd : ∀ d ∈ l, sh 7 d = true := shL_all hsh.1
                    refine ⟨a, _, toPy dy, toPyL l, j, toPy w, rfl, rfl, hx2.dp S2.sub hsl, hy2.dp S2.sub hsh.2, sh_shaped hsl, sh_shaped hsh.2, by rw [toPyL_get, g1]; rfl, ?_, fun m z' hm hz' => ?_, p H2 F2 S2 (s1.trans s2) _ (.int _)⟩
                    · rw [eqv_toPy 7 8 w dy (sd w (List.mem_of_getElem? g1)) hsh.2]; exact g2
                    · rw [toPyL_get] at hz'
                      obtain ⟨w', h5, rfl⟩ := Option.map_eq_some_iff.mp hz'
                      rw [eqv_toPy 7 8 w' dy (sd w' (List.mem_of_getElem? h5)) hsh.2]
                      exact g3 m w' hm h5
                · cases hz
              · cases hz
            · exact p.elim
          · exact p.elim
        · exact p.elim
    · exact p.elim
end
/-! ### evaluation -/
@[simp] theorem eCall0_ap (fn : List D → FOut) (env : Ev) : eCall0 fn env = (match fn [] with
  | .ok d _ => .ok (.v d) env
  | _ => .no) := nrfl rfl
@[simp] theorem iZp_ap (fa : Ev → Rx (List LV)) (env : Ev) : iZp fa env = bdK (fa env) (fun xs e1 => match allV xs with
  | some [.lst l, .lst m] => .ok (zipL l m) e1
  | some [.tup l, .tup m] => .ok (zipL l m) e1
  | _ => .no) .mk := nrfl rfl
@[simp] theorem eIndex_ap (fo : Ev → Rx LV) (fa : Ev → Rx (List LV)) (env : Ev) : eIndex fo fa env = bdK (fo env) (fun x e1 => match rs e1 x with
  | some (.lst _) => (fa e1).bind (idxF x)
  | _ => .no) .mk := nrfl rfl
@[simp] theorem idxF_ap (x y : LV) (e2 : Ev) : idxF x [y] e2 = op2 gIndex e2 x y := nrfl rfl
def omK {α : Type} (x : Rx α) (f : α → Ev → Out) (_ : Hide f) : Out := match x with
  | .ok a e => f a e
  | _ => .no
@[simp] theorem omK_ok {α : Type} (a : α) (e : Ev) (f : α → Ev → Out) (h : Hide f) : omK (.ok a e) f h = f a e := rfl
@[simp] theorem sMul_ap (is : List Nat) (f : Ev → Rx (List Sl)) (env : Ev) : sMul is f env = omK (f env) (fun l e => if l.length = is.length then .nx (stS is l e) else .no) .mk := by
  unfold sMul omK
  cases f env <;> rfl
@[simp] theorem mEv_nil (env : Ev) : mEv [] env = .ok [] env := nrfl rfl
@[simp] theorem mEv_l (f : Ev → Rx LV) (r : List Mk) (env : Ev) : mEv (.inl f :: r) env = bnK (f env) (fun x e1 => match x with
    | .v d => bnK (mEv r e1) (fun l e2 => .ok (.p d :: l) e2) .mk
    | .s _ => .no) .mk := nrfl (by rw [mEv]; rfl)
@[simp] theorem mEv_r (f : Ev → Rx D) (r : List Mk) (env : Ev) : mEv (.inr f :: r) env = bnK (f env) (fun d e1 => bnK (mEv r e1) (fun l e2 => .ok (.o d :: l) e2) .mk) .mk := nrfl (by rw [mEv]; rfl)
@[simp] theorem stS_cons (i : Nat) (is : List Nat) (s : Sl) (l : List Sl) (e : Ev) : stS (i :: is) (s :: l) e = stS is l (e.set i s) := nrfl rfl
@[simp] theorem stS_nil (l : List Sl) (e : Ev) : stS [] l e = e := nrfl (by cases l <;> rfl)
theorem sMul_ok {is : List Nat} {f : Ev → Rx (List Sl)} {env e : Ev} {l : List Sl} (h : f env = .ok l e) (hl : l.length = is.length) : sMul is f env = .nx (stS is l e) := by
  unfold sMul
  rw [h]
  exact if_pos hl
end DL

/-! while an exception is handled: zip ends, pairs are unpacked -/
namespace DLH
open PySem PySem.Spec PyProof.Rows L2 HotX
section
variable {prog : Program} {w : World} {A : Around} {E : Value → Shared → Prop} {s : Shared}
/-- StopIteration is raised where x1 is handled -/
theorem stop_hot {α : Type} {x1 : Addr} {Q : α → Shared → Prop} (hot : HotAt A x1 s.heap)
    (hE : ∀ h' e, (∀ b o, s.heap.get? b = some o → h'.get? b = some o) → (∃ o, h'.get? e = some o ∧ o.cls = .type "StopIteration") → E (.ref e) { s with heap := h' }) :
    wpAny (model prog w) A (newExc (.type "StopIteration") [] >>= fun e => (raiseNew e : Sem α)) Q E s := by
  obtain ⟨hh, o1, vs1, h1, d1, c1⟩ := hot
  refine wpAny_bind ?_
  simp only [newExc, newTuple]
  refine wpAny_bind (wpAny_newObj_type ?_ (by size_fits)); refine wpAny_bind (m := firstArgMember _ _) (wpAny_of_eq (a := Value.none) (by first | rfl | (simp only [firstArgMember]; rfl)) ?_)
  refine wpAny_newObj_type ?_ (by size_fits)
  have g1 := Heap.get?_push_of_some { cls := .type "tuple", data := .seq #[] } h1
  refine raiseNew_hot (x1 := x1) (vs := #[.ref s.heap.objs.size, .none, .none, .none, .bool false, .none]) ⟨hh, o1, vs1, Heap.get?_push_of_some _ (Heap.get?_push_of_some _ h1), d1, c1⟩ (Nat.ne_of_lt (Heap.lt_size (Heap.get?_push_of_some _ h1))) (Heap.get?_push_size _ rfl) rfl (by simp) ?_
  refine hE _ _ (fun b o e => ?_) ⟨_, Heap.get?_update_self _ (Heap.get?_push_size _ rfl) rfl, rfl⟩
  rw [Heap.get?_update_other _ _ (Nat.ne_of_gt (Heap.lt_size (Heap.get?_push_of_some _ e)))]
  exact Heap.get?_push_of_some _ (Heap.get?_push_of_some _ e)
theorem HotAt.up {x1 : Addr} {h h' : Heap} (hot : HotAt A x1 h) (k : ∀ o, h.get? x1 = some o → h'.get? x1 = some o) : HotAt A x1 h' := by
  obtain ⟨hh, o1, vs1, h1, d1, c1⟩ := hot
  exact ⟨hh, o1, vs1, k _ h1, d1, c1⟩
theorem nextOf_list_hot {x1 it l : Addr} {i : Nat} {items : Array Value} {Q : Value → Shared → Prop} (hot : HotAt A x1 s.heap) (hne : x1 ≠ it) (hit : s.heap.IsListIter it l i) (hl : s.heap.IsList l items) (hx : items[i]? = none)
    (hE : ∀ h' e, Heap.ExtBut it s.heap h' → (∃ o, h'.get? e = some o ∧ o.cls = .type "StopIteration") → E (.ref e) { s with heap := h' }) : wpAny (model prog w) A (Builtin.SmallTypes.nextOf (.ref it)) Q E s := by
  obtain ⟨o, ho, hc, hd⟩ := id hit
  obtain ⟨ol, hol, _, nl, hdl⟩ := hl
  unfold Builtin.SmallTypes.nextOf
  refine wpAny_bind (wpAny_callSpecial?_slot (name := Str.ofString "__next__") hit.typeIs slot_listiter_next (wpAny_call_entry slot_listiter_next hit.typeIs entry_listiter_next ?_ (args_listiter_next _)))
  show wpAny _ _ (field (.ref it) 0 >>= _) _ _ s
  refine wpAny_bind (wpAny_field ho hd (x := .ref l) rfl ?_); show wpAny _ _ (if (Value.ref l == Value.none) = true then _ else _) _ _ s
  rw [if_neg (show ¬ ((Value.ref l == Value.none) = true) from Bool.false_ne_true)]; show wpAny _ _ (field (.ref it) 1 >>= _) _ _ s
  refine wpAny_bind (wpAny_field ho hd (x := .int i 0) rfl ?_); show wpAny _ _ (seqItems? (.ref l) >>= _) _ _ s
  refine wpAny_bind (wpAny_seqItems hol hdl ?_)
  simp only [Int.toNat_natCast, hx]
  refine wpAny_bind (wpAny_rule (wpAny_bind (wpAny_setField ho hd (by simp) ?_)))
  refine stop_hot (x1 := x1) (HotAt.up (h := s.heap) hot fun o1 e1 => ?_) fun h' e k he => hE h' e (fun b u hb q => ?_) he
  · rw [Heap.get?_update_other _ _ (Ne.symm hne)]; exact e1
  · exact k b u (by rw [Heap.get?_update_other _ _ (Ne.symm hb)]; exact q)
/-- zip's end, the first list being through -/
theorem zip_end_hot {x1 z TI TO i1 i2 l1 l2 : Addr} {k1 k2 : Nat} {xs ys : Array Value} {a b : Value} {Q : Option Value → Shared → Prop} (hot : HotAt A x1 s.heap) (n1 : x1 ≠ z) (n2 : x1 ≠ i1) (n3 : x1 ≠ TO) (n4 : x1 ≠ i2) (D : ZipApart z TI TO i1 i2 l1 l2)
    (hz : IsZip s.heap z TI TO .none) (hTI : IsPair s.heap TI (.ref i1) (.ref i2)) (hTO : IsPair s.heap TO a b) (h1 : s.heap.IsListIter i1 l1 k1) (h2 : s.heap.IsListIter i2 l2 k2) (hl1 : s.heap.IsList l1 xs) (hl2 : s.heap.IsList l2 ys) (hend : xs[k1]? = none ∨ ys[k2]? = none)
    (hQ : ∀ h', (∀ c o, c ≠ z → c ≠ TO → c ≠ i1 → c ≠ i2 → s.heap.get? c = some o → h'.get? c = some o) → Q none { s with heap := h' }) : wpAny (model prog w) A (pyNext (.ref z)) Q E s := by
  have hT : s.TypeIs (.ref z) "zip" := ⟨_, hz, rfl⟩
  have key : ∀ {A : Around} {Q : Fin → Shared → Prop} {E : Value → Shared → Prop}, HotAt A x1 s.heap → (∀ h' e, (∀ c o, c ≠ z → c ≠ TO → c ≠ i1 → c ≠ i2 → s.heap.get? c = some o → h'.get? c = some o) → (∃ o, h'.get? e = some o ∧ o.cls = .type "StopIteration") → E (.ref e) { s with heap := h' }) →
      wpAny (model prog w) A (Builtin.«zip.__next__» ⟨[.ref z], []⟩) Q E s := by
    intro A Q E hot hE
    show wpAny _ _ (field (.ref z) 2 >>= _) _ _ _
    refine wpAny_bind (wpAny_field hz rfl (x := .bool false) rfl ?_); show wpAny _ _ (field (.ref z) 3 >>= _) _ _ _
    refine wpAny_bind (wpAny_field hz rfl (x := .ref TI) rfl ?_); refine wpAny_bind (wpAny_seqItems hTI rfl ?_)
    show wpAny _ _ (Builtin.SmallTypes.ownedTupleIsFree (.ref z) >>= _) _ _ _
    refine wpAny_bind ?_
    unfold Builtin.SmallTypes.ownedTupleIsFree
    refine wpAny_bind (wpAny_field hz rfl (x := .none) rfl (wpAny_pure ?_)); simp only [if_true]
    refine wpAny_bind (wpAny_rule ?_); refine wpAny_bind (wpAny_field hz rfl (x := .ref TO) rfl ?_)
    refine wpAny_bind (wpAny_setField_rec hz (by simp) fun h₁ hz₁ hs₁ => ?_)
    replace hz₁ : IsZip h₁ z TI TO .ellipsis := hz₁
    refine wpAny_bind ?_
    simp only [List.zipIdx_cons, List.zipIdx_nil, List.forIn_cons, List.forIn_nil]
    refine wpAny_bind (wpAny_bind (wpAny_onRaise ?_)); show wpAny _ _ (Builtin.SmallTypes.nextOf (.ref i1) >>= _) _ _ _
    cases hx : xs[k1]? with
    | none =>
      refine wpAny_bind (nextOf_list_hot (x1 := x1) (HotAt.up (h := s.heap) hot fun o1 e1 => hs₁.extBut _ _ n1 e1) n2 (h1.extBut hs₁.extBut D.i1z) (hl1.extBut hs₁.extBut D.l1z) hx fun h₂ e hs₂ he => ?_)
      obtain ⟨oe, hoe, hce⟩ := he
      have hz₂ : IsZip h₂ z TI TO .ellipsis := hs₂ _ _ D.i1z.symm hz₁
      have hez : e ≠ z := fun x => by subst x; rw [hz₂] at hoe; cases hoe; simp at hce
      refine wpAny_setField_rec hz₂ (by simp) fun h₃ _ hs₃ => hE h₃ e (fun c o c1 _ c3 _ x => hs₃.extBut _ _ c1 (hs₂ _ _ c3 (hs₁.extBut _ _ c1 x))) ⟨oe, hs₃.extBut _ _ hez hoe, hce⟩
    | some x =>
      have hy : ys[k2]? = none := hend.elim (fun h => by rw [hx] at h; cases h) id
      refine wpAny_bind (wpAny_nextOf_list_item (h1.extBut hs₁.extBut D.i1z) (hl1.extBut hs₁.extBut D.l1z) hx fun h₂ h1₂ hs₂ => wpAny_pure ?_)
      have hTO₂ : IsPair h₂ TO a b := hs₂.extBut _ _ D.TOi1 (hs₁.extBut _ _ D.TOz hTO)
      refine wpAny_bind (wpAny_seqItems hTO₂ rfl ?_); refine wpAny_bind (wpAny_updateSeq_pair hTO₂ fun h₃ hTO₃ hs₃ => ?_)
      refine wpAny_bind (wpAny_letGo (wpAny_pure ?_)); refine wpAny_bind (wpAny_bind (wpAny_onRaise ?_))
      show wpAny _ _ (Builtin.SmallTypes.nextOf (.ref i2) >>= _) _ _ _
      refine wpAny_bind (nextOf_list_hot (x1 := x1) (HotAt.up (h := s.heap) hot fun o1 e1 => hs₃.extBut _ _ n3 (hs₂.extBut _ _ n2 (hs₁.extBut _ _ n1 e1))) n4 (((h2.extBut hs₁.extBut D.i2z).extBut hs₂.extBut D.i12.symm).extBut hs₃.extBut D.TOi2.symm)
        (((hl2.extBut hs₁.extBut D.l2z).extBut hs₂.extBut D.l2i1).extBut hs₃.extBut D.l2TO) hy fun h₄ e hs₄ he => ?_)
      obtain ⟨oe, hoe, hce⟩ := he
      have hz₄ : IsZip h₄ z TI TO .ellipsis := hs₄ _ _ D.i2z.symm (hs₃.extBut _ _ D.TOz.symm (hs₂.extBut _ _ D.i1z.symm hz₁))
      have hez : e ≠ z := fun x => by subst x; rw [hz₄] at hoe; cases hoe; simp at hce
      refine wpAny_setField_rec hz₄ (by simp) fun h₅ _ hs₅ => hE h₅ e (fun c o c1 c2 c3 c4 x => hs₅.extBut _ _ c1 (hs₄ _ _ c4 (hs₃.extBut _ _ c2 (hs₂.extBut _ _ c3 (hs₁.extBut _ _ c1 x))))) ⟨oe, hs₅.extBut _ _ hez hoe, hce⟩
  unfold pyNext
  refine wpAny_bind (wpAny_attempt (wpAny_callSpecial?_slot (name := Str.ofString "__next__") hT F.slot_zip_next (wpAny_call_entry F.slot_zip_next hT F.entry_zip_next (key hot fun h' e hk he => ?_) (F.args_zip_next_1 _))))
  obtain ⟨o, ho, hc⟩ := he
  refine wpAny_bind (wpAny_isInstance (T := "StopIteration") (b := true) ⟨o, ho, hc⟩ isSubtype_stop ?_)
  exact wpAny_pure (hQ _ hk)
/-- a tuple's items come, one by one, and then no more -/
theorem tup_end_hot {x1 it t : Addr} {i : Nat} {items : Array Value} {Q : Option Value → Shared → Prop} (hot : HotAt A x1 s.heap) (hne : x1 ≠ it) (hit : s.heap.IsTupleIter it t i) (ht : IsTup s.heap t items) (hx : items[i]? = none)
    (hQ : ∀ h', Heap.ExtBut it s.heap h' → Q none { s with heap := h' }) : wpAny (model prog w) A (pyNext (.ref it)) Q E s := by
  obtain ⟨o, ho, hc, hd⟩ := id hit
  obtain ⟨ol, hol, hcl, nl, hdl⟩ := ht
  unfold pyNext
  refine wpAny_bind (wpAny_attempt (wpAny_callSpecial?_slot (name := Str.ofString "__next__") hit.typeIs F.slot_tuple_iterator_next (wpAny_call_entry F.slot_tuple_iterator_next hit.typeIs F.entry_tuple_iterator_next ?_ (F.args_tuple_iterator_next_1 _))))
  show wpAny _ _ (field (.ref it) 0 >>= _) _ _ s
  refine wpAny_bind (wpAny_field ho hd (x := .ref t) rfl ?_); show wpAny _ _ (if (Value.ref t == Value.none) = true then _ else _) _ _ s
  rw [if_neg (show ¬ ((Value.ref t == Value.none) = true) from Bool.false_ne_true)]; show wpAny _ _ (field (.ref it) 1 >>= _) _ _ s
  refine wpAny_bind (wpAny_field ho hd (x := .int i 0) rfl ?_); show wpAny _ _ (seqItems? (.ref t) >>= _) _ _ s
  refine wpAny_bind (wpAny_seqItems hol hdl ?_)
  simp only [Int.toNat_natCast, hx]
  refine wpAny_bind (wpAny_rule (wpAny_bind (wpAny_setField ho hd (by simp) ?_)))
  refine stop_hot (x1 := x1) (HotAt.up (h := s.heap) hot fun o1 e1 => ?_) fun h' e k he => ?_
  · rw [Heap.get?_update_other _ _ (Ne.symm hne)]; exact e1
  · obtain ⟨oe, h1, h2⟩ := he
    refine wpAny_bind (wpAny_isInstance (T := "StopIteration") (b := true) ⟨oe, h1, h2⟩ isSubtype_stop ?_)
    exact wpAny_pure (hQ _ fun b u hb q => k b u (by rw [Heap.get?_update_other _ _ (Ne.symm hb)]; exact q))
end
end DLH

/-! [.. for a, b in zip(x, y) if ..] while an exception is handled -/
namespace DLH
open PySem PySem.Spec PyProof.Rows L2 HotX L2H
section
variable {prog : Program} {w : World} {A : Around} {E : Value → Shared → Prop} {s : Shared}
theorem unpackItems_hot {x1 t : Addr} {items : Array Value} {Q : List Value → Shared → Prop} (hot : HotAt A x1 s.heap) (ht : IsTup s.heap t items)
    (hQ : ∀ h', Heap.ExtBut s.heap.objs.size s.heap h' → Q items.toList { s with heap := h' }) : wpAny (model prog w) A (unpackItems (.ref t) items.size none) Q E s := by
  have hlt : t ≠ s.heap.objs.size := by obtain ⟨o, ho, _⟩ := ht; exact Nat.ne_of_lt (Heap.lt_size ho)
  have hx1 : x1 ≠ s.heap.objs.size := by obtain ⟨_, o, _, ho, _⟩ := hot; exact Nat.ne_of_lt (Heap.lt_size ho)
  unfold unpackItems
  refine wpAny_bind ?_
  unfold notIterableAtAll
  refine wpAny_bind (wpAny_specialOf ht.typeIs slot_tuple_iter.lookup ?_); refine wpAny_pure ?_
  simp only [Bool.false_eq_true, if_false]
  refine wpAny_bind (wpAny_holding (iter_tuple ht ?_))
  refine wpAny_bind (wpAny_holding (draw_tuple hlt items.size 0 _ _ ⟨_, Heap.get?_push_size _ rfl, rfl, rfl⟩ (ht.push _) (by omega) fun h₁ hit₁ hs₁ => ?_))
  have hall : List.take items.size (List.drop 0 items.toList) = items.toList := by rw [List.drop_zero]; exact List.take_of_length_le (by simp)
  rw [hall, if_neg (by simp)]
  have ht₁ : IsTup h₁ t items := (ht.push _).extBut hs₁.extBut hlt
  have hot₁ : HotAt A x1 h₁ := HotAt.up hot fun o e => hs₁.extBut x1 o hx1 (Heap.get?_push_of_some _ e)
  refine wpAny_bind (wpAny_holding (tup_end_hot (x1 := x1) (s := { s with heap := h₁ }) hot₁ hx1 hit₁ ht₁ (by simp) fun h₂ he₂ => ?_))
  simp only [Option.isSome_none, Bool.false_eq_true, if_false]
  exact wpAny_pure (hQ h₂ fun b o hb e => he₂ b o hb (hs₁.extBut b o hb (Heap.get?_push_of_some _ e)))
theorem assign_tuple_hot {x1 : Addr} {env : Env} {elts : List Expr} {k : Nat} {pos : Pos} {t : Addr} {items : Array Value} {Q : Unit → Shared → Prop} (hot : HotAt A x1 s.heap) (ht : IsTup s.heap t items)
    (hn : (assignEach elts env).length = items.size) (hstar : (assignEach elts env).findIdx? (·.1) = none)
    (h : ∀ h', Heap.ExtBut s.heap.objs.size s.heap h' → wpAny (model prog w) A (assignInOrder ((assignEach elts env).map (·.2)) items.toList) Q E { s with heap := h' }) :
    wpAny (model prog w) A (assign (.Tuple elts k pos) env (.ref t)) Q E s := by
  rw [assign_Tuple]
  refine wpAny_bind (wpAny_standAt ?_)
  unfold unpack
  rw [hn, hstar]
  exact wpAny_bind (wpAny_holding (unpackItems_hot hot ht h))
end
/-- the exception that is handled, among the pins -/
theorem hot_of {X : Cx} {pins : List (Addr × Obj)} {σ : L2.St} {H : Hp} {s : Shared} {p : Addr × Obj} (hp : p ∈ X.pn ++ pins) (hot : Hot1 X.A p) (I : Inv X pins σ H s) : HotAt X.A p.1 s.heap := by
  obtain ⟨hh, v1, e1, c1⟩ := hot
  exact ⟨hh, p.2, v1, (I.pin p hp).1, e1, c1⟩
/-- a target stored where p is handled -/
structure PGH (X : Cx) (p : Addr × Obj) (e : Expr) (t : TG) : Prop where
  run : ∀ (pins : List (Addr × Obj)) (s : Shared) (σ : L2.St) (H : Hp) (v : V) (u : Value) (Q : L2.St → Hp → Prop), p ∈ X.pn ++ pins → Inv X pins σ H s → RelV v u → t v σ H Q →
    wpAny (model X.prog X.w) X.A (assign e X.env u) (fun _ s' => ∃ σ' H', Inv X pins σ' H' s' ∧ Q σ' H') X.xe s
theorem pg_tupH {X : Cx} {p : Addr × Obj} {tgs : List Expr} {kk n : Nat} {pos : Pos} {t : TGs} (hot : Hot1 X.A p) (h : PGs X tgs t)
    (hn : (assignEach tgs X.env).length = n) (hst : (assignEach tgs X.env).findIdx? (·.1) = none) : PGH X p (.Tuple tgs kk pos) (gTup X.K n t) := by
  refine ⟨fun pins s σ H v u Q hp I r hw => ?_⟩
  obtain ⟨a, xs, e1, hq, hl, hw⟩ := hw
  subst e1
  cases r
  obtain ⟨its, rv, ht, hz⟩ := I.tuple hq
  refine assign_tuple_hot (hot_of hp hot I) ht (by simp [hn, ← hl, rv.length]) hst fun h' hx => ?_
  have I1 : Inv X pins σ H { s with heap := h' } := I.kept (t' := s.toks) fun b o e => hx b o (Nat.ne_of_lt (Heap.lt_size e)) e
  exact h.run pins _ σ H xs _ Q I1 (by simpa using rv) hw
/-- zip of two lists, drawn from where p is handled -/
abbrev ZipTn (z TI TO i1 i2 a b : Addr) (i : Nat) (h : Heap) : Prop := IsZip h z TI TO .none ∧ IsPair h TI (.ref i1) (.ref i2) ∧ (∃ x y, IsPair h TO x y) ∧ h.IsListIter i1 a i ∧ h.IsListIter i2 b i
section
variable {X : Cx} {pins : List (Addr × Obj)} {p : Addr × Obj} {σ : L2.St} {H : Hp} {s : Shared} {E : Value → Shared → Prop} {a b z TI TO i1 i2 : Addr} {i : Nat}
theorem zipTn_obj (st : ZipTn z TI TO i1 i2 a b i s.heap) : ∀ c ∈ [z, TI, TO, i1, i2], ∃ o, s.heap.get? c = some o ∧ ∀ v, o.data ≠ .cell v := fun c hc => by
  obtain ⟨hz, hTI, ⟨x, y, hTO⟩, ⟨o1, e1, _, d1⟩, ⟨o2, e2, _, d2⟩⟩ := st
  simp only [List.mem_cons, List.not_mem_nil, or_false] at hc
  rcases hc with q | q | q | q | q <;> subst q
  · exact ⟨_, hz, fun v q => nomatch q⟩
  · exact ⟨_, hTI, fun v q => nomatch q⟩
  · exact ⟨_, hTO, fun v q => nomatch q⟩
  · exact ⟨o1, e1, fun v q => by rw [d1] at q; cases q⟩
  · exact ⟨o2, e2, fun v q => by rw [d2] at q; cases q⟩
theorem zipTn_keep {h h' : Heap} (st : ZipTn z TI TO i1 i2 a b i h) (k : ∀ c ∈ [z, TI, TO, i1, i2], ∀ o, h.get? c = some o → h'.get? c = some o) : ZipTn z TI TO i1 i2 a b i h' := by
  obtain ⟨hz, hTI, ⟨x, y, hTO⟩, h1, h2⟩ := st
  exact ⟨k z (by simp) _ hz, k TI (by simp) _ hTI, ⟨x, y, k TO (by simp) _ hTO⟩, h1.at fun o q => k i1 (by simp) o q, h2.at fun o q => k i2 (by simp) o q⟩
/-- one pair more -/
theorem zip_item {elts : List Expr} {kk : Nat} {tpos : Pos} {xs ys : List V} {x y : V} (D : ZipApart z TI TO i1 i2 a b) (I : Inv X pins σ H s) (hf : ∀ c ∈ [z, TI, TO, i1, i2], FpOk X pins H c) (st : ZipTn z TI TO i1 i2 a b i s.heap)
    (hqx : SqL X.K H a xs) (hqy : SqL X.K H b ys) (hx : xs[i]? = some x) (hy : ys[i]? = some y) :
    wpAny (model X.prog X.w) X.A (pyNext (.ref z)) (fun r s1 => ∃ u, r = some u ∧ wpAny (model X.prog X.w) X.A (letOwnedTupleGo (.Tuple elts kk tpos) (.ref z) u) (fun _ s2 =>
      ∃ T, u = .ref T ∧ H T = none ∧ Inv X pins σ (upd H T (.tup [x, y])) s2 ∧ ZipTn z TI TO i1 i2 a b (i + 1) s2.heap ∧ ∀ c ∈ [z, TI, TO, i1, i2], c ≠ T) E s1) E s := by
  obtain ⟨hz, hTI, ⟨x0, y0, hTO⟩, h1, h2⟩ := st
  obtain ⟨its, rv, p1, _⟩ := I.list hqx
  obtain ⟨its2, rv2, p2, _⟩ := I.list hqy
  obtain ⟨u, hu, ru⟩ := rv.get hx
  obtain ⟨u2, hu2, ru2⟩ := rv2.get hy
  have hzl : z < s.heap.objs.size := Heap.lt_size hz
  refine wpAny_pyNext_zip_item D hz hTI hTO h1 h2 p1.isList p2.isList (x := u) (y := u2) (by simpa using hu) (by simpa using hu2) fun h' z' TO' h1' h2' hT hsz hk => ?_
  refine ⟨_, rfl, wpAny_letOwnedTupleGo_zip (s := { s with heap := h' }) z' fun h'' z'' sb => ?_⟩
  have hT2 : h''.get? s.heap.objs.size = some { cls := .type "tuple", data := .seq #[u, u2] } := (sb.2 _ (Nat.ne_of_gt hzl)).trans hT
  have new : ObjOk X.prog X.w (upd H s.heap.objs.size (.tup [x, y])) h'' s.heap.objs.size (.tup [x, y]) := ⟨by show 2 ≤ sizeLine; decide, [u, u2], .cons ru (.cons ru2 .nil), ⟨_, hT2, rfl, _, rfl⟩⟩
  refine ⟨s.heap.objs.size, rfl, I.hok.fresh (Nat.le_refl _), I.turnedNew (t' := s.toks) (ch := [z, TI, TO, i1, i2]) (fun c o hb q => (sb.2 c (fun q' => hb (by simp [q']))).trans
    (hk c o (fun q' => hb (by simp [q'])) (fun q' => hb (by simp [q'])) (fun q' => hb (by simp [q'])) (fun q' => hb (by simp [q'])) q)) hf (Nat.le_refl _) new, ⟨z'', (sb.2 _ D.TIz).trans (hk _ _ D.TIz D.TITO D.TIi1 D.TIi2 hTI), ⟨u, u2, (sb.2 _ D.TOz).trans TO'⟩, h1'.at fun o q => (sb.2 _ D.i1z).trans q, h2'.at fun o q => (sb.2 _ D.i2z).trans q⟩, fun c hcm => ?_⟩
  obtain ⟨o, ho, _⟩ := zipTn_obj (s := s) ⟨hz, hTI, ⟨x0, y0, hTO⟩, h1, h2⟩ c hcm
  exact Nat.ne_of_lt (Heap.lt_size ho)
theorem zip_done {xs ys : List V} (hp : p ∈ X.pn ++ pins) (hot : Hot1 X.A p) (D : ZipApart z TI TO i1 i2 a b) (I : Inv X pins σ H s) (hf : ∀ c ∈ [z, TI, TO, i1, i2], FpOk X pins H c) (st : ZipTn z TI TO i1 i2 a b i s.heap)
    (hqx : SqL X.K H a xs) (hqy : SqL X.K H b ys) (hx : xs.length ≤ i ∨ ys.length ≤ i) : wpAny (model X.prog X.w) X.A (pyNext (.ref z)) (fun r s1 => r = none ∧ Inv X pins σ H s1) E s := by
  obtain ⟨hz, hTI, ⟨x0, y0, hTO⟩, h1, h2⟩ := st
  obtain ⟨its, rv, p1, _⟩ := I.list hqx
  obtain ⟨its2, rv2, p2, _⟩ := I.list hqy
  have l1 := rv.length
  have l2 := rv2.length
  have he : its.toArray[i]? = none ∨ its2.toArray[i]? = none := hx.elim (fun q => .inl (by simp; omega)) fun q => .inr (by simp; omega)
  have np : ∀ c ∈ [z, TI, TO, i1, i2], p.1 ≠ c := fun c hc => (hf c hc).2.2.2.2.2 p hp
  exact zip_end_hot (hot_of hp hot I) (np z (by simp)) (np i1 (by simp)) (np TO (by simp)) (np i2 (by simp)) D hz hTI hTO h1 h2 p1.isList p2.isList he fun h' hk => ⟨rfl, I.turnedL (t' := s.toks) (ch := [z, TI, TO, i1, i2])
    (fun c o hb q => hk c o (fun q' => hb (by simp [q'])) (fun q' => hb (by simp [q'])) (fun q' => hb (by simp [q'])) (fun q' => hb (by simp [q'])) q) hf⟩
end
end DLH

namespace DLH
open PySem PySem.Spec PyProof.Rows L2 HotX L2H
/-- [elt for (tgs) in zip(e, e2) if ..] where an exception is handled -/
theorem lc_coreZ {X : Cx} {pins : List (Addr × Obj)} {s : Shared} {σ : L2.St} {H : Hp} {Q : VK} {use : Option (Value → Sem Unit)} {Qf : Value → Shared → Prop} {pos' : Pos} {p : Addr × Obj} {elt e e2 : Expr} {tgs ifs : List Expr} {kk : Nat} {tpos p1 p2 pos : Pos} {scope : Scope} {own : List (Str × Nat)} {ta : TA} {g : TG} {tt : TT} {te : TE} (hot : Hot1 X.A p) (hpin : p ∈ X.pn) (hN : X.N.Nodup) (I : Inv X pins σ H s)
    (hg0 : Gl X "zip") (hm0 : X.mg "zip" = none) (ha : PA X [e, e2] ta) (ok : BlkOk X.N X.env.scope scope own)
    (hg : ∀ (s : Shared) (H : Hp) (C : Addr) (cl : List (Str × Addr)) (fp : List Addr), PGH (X.blk s H scope (compEnvC scope cl C X.env) fp) p (.Tuple tgs kk tpos) g)
    (ht : ∀ (s : Shared) (H : Hp) (C : Addr) (cl : List (Str × Addr)) (fp : List Addr), PTs (X.blk s H scope (compEnvC scope cl C X.env) fp) ifs tt)
    (he : ∀ (s : Shared) (H : Hp) (C : Addr) (cl : List (Str × Addr)) (fp : List Addr), PE (X.blk s H scope (compEnvC scope cl C X.env) fp) elt te)
    (hs : ∀ x, foldedSetIterable (.Call (.Name "zip" p1) [e, e2] [] p2) X.env x = pure x)
    (hs2 : starEach [e, e2] X.env = (false, eval e X.env) :: starEach [e2] X.env) (hpl : (backTo p2 (starEach [e2] X.env)).any (·.1) = false)
    (h : tLc (iZip X.K ta) g tt te (own.map (·.2)) σ H Q) (hRR : ∀ D C s' m H', Inv X pins σ H' s' → Q (.ref D) H' → s'.heap.Ns C m → FpOk X pins H' C → compPost (model X.prog X.w) X.A X.xe use Qf (.ref D) C (.ok .next) s') :
    wpAny (model X.prog X.w) X.A (comprehension (.ListComp elt [⟨.Tuple tgs kk tpos, .Call (.Name "zip" p1) [e, e2] [] p2, ifs, 0⟩] scope pos) scope X.env pos' (newList []) false (eval (.Call (.Name "zip" p1) [e, e2] [] p2) X.env) use) Qf X.xe s := by
  have hfree : ∀ y ∈ scope.names, y.2 = .free → ∃ c, X.env.cells.lookup y.1 = some c := fun y hy e => by
    rcases ok.free y hy e with k | k
    · exact I.ok.has _ (.inl k)
    · exact I.ok.has _ (.inr k)
  refine wpAny_comprehension_free (use := use) rfl hs (closure_ok hfree) ok.kind (fun y hy e => by rw [ok.uniq y hy, e])
    (Call_ (ld_blt I hg0 hm0 PyProof.Rows.boot_zip (PyProof.Rows.callWith_type1 (thn (ha.run p2 pins s σ H _ I h) fun us s1 ⟨vs, H1, I1, r1, q1⟩ => ?_) hs2 hpl)))
  obtain ⟨a, b, xs, ys, ex, hqx, hqy, q⟩ := q1
  subst ex
  obtain ⟨r, rr⟩ : us = [.ref a, .ref b] ∧ True := by
    cases r1 with
    | cons r rr =>
      cases rr with
      | cons r' rr =>
        cases rr
        cases r
        cases r'
        exact ⟨rfl, trivial⟩
  subst r
  obtain ⟨its, rv, pl1, _⟩ := I1.list hqx
  obtain ⟨its2, rv2, pl2, _⟩ := I1.list hqy
  have la : a < s1.heap.objs.size := pl1.lt
  have lb : b < s1.heap.objs.size := pl2.lt
  refine call_zip_2 pl1.isList pl2.isList fun h' hz hTI hTO h1 h2 hsz hk => wpAny_pyIter_zip hz ?_
  have I2 : Inv X pins σ H1 { s1 with heap := h' } := I1.kept (t' := s1.toks) hk
  generalize hz0 : s1.heap.objs.size + 4 = z at hz ⊢
  generalize hTI0 : s1.heap.objs.size + 2 = TI at hz hTI
  generalize hTO0 : s1.heap.objs.size + 3 = TO at hz hTO
  have DD : ZipApart z TI TO s1.heap.objs.size (s1.heap.objs.size + 1) a b := by rw [← hz0, ← hTI0, ← hTO0]; exact PySem.W.ktu_apart s1.heap.objs.size a b la lb
  have fpx : ∀ c ∈ [z, TI, TO, s1.heap.objs.size, s1.heap.objs.size + 1], s1.heap.objs.size ≤ c := fun c hcm => by
    simp only [List.mem_cons, List.not_mem_nil, or_false] at hcm
    rcases hcm with q | q | q | q | q <;> omega
  have f2 : ∀ c ∈ [z, TI, TO, s1.heap.objs.size, s1.heap.objs.size + 1], FpOk X pins H1 c := fun c hcm => I1.fpOk (fpx c hcm) (I1.hok.fresh (fpx c hcm))
  have st2 : ZipTn z TI TO s1.heap.objs.size (s1.heap.objs.size + 1) a b 0 h' := ⟨hz, hTI, ⟨_, _, hTO⟩, h1, h2⟩
  generalize hi1 : s1.heap.objs.size = i1 at DD f2 st2
  generalize hi2 : i1 + 1 = i2 at DD f2 st2
  generalize hs2e : ({ s1 with heap := h' } : Shared) = s2 at I2
  have eh : h' = s2.heap := by rw [← hs2e]
  rw [eh] at st2
  show wpAny _ _ _ _ _ s2
  clear hz hTI hTO h1 h2 hsz hk fpx
  -- the new list
  refine wpAny_newObj_type (newEnv_comp ?_) (by show 0 ≤ sizeLine; decide)
  generalize hD : s2.heap.objs.size = D
  have hDn : H1 D = none := I2.hok.fresh (Nat.le_of_eq hD)
  obtain ⟨W, ⟨m0, w0⟩, turn⟩ := q D hDn
  generalize hs3 : ({ s2 with heap := s2.heap.push { cls := .type "list", data := .seq ([] : List Value).toArray } } : Shared) = s3
  have h3 : s3.heap = s2.heap.push { cls := .type "list", data := .seq ([] : List Value).toArray } := by rw [← hs3]
  have I3 : Inv X pins σ (upd H1 D (.lst [])) s3 := by
    rw [← hs3]
    refine I2.laid (t' := s2.toks) (fun b o e => Heap.get?_push_of_some _ e) (Nat.le_of_eq hD) ⟨Nat.zero_le _, [], 0, .nil, ?_⟩
    rw [← hD]
    exact Heap.get?_push_size _ rfl
  generalize hfp : [z, TI, TO, i1, i2] = fp at f2
  have f3 : ∀ b ∈ fp, FpOk X pins (upd H1 D (.lst [])) b ∧ b < s3.heap.objs.size := fun b hb => by
    obtain ⟨o, e, _⟩ := zipTn_obj (s := s2) st2 b (by rw [hfp]; exact hb)
    have hlt := Heap.lt_size e
    refine ⟨⟨?_, (f2 b hb).2⟩, by rw [h3, Heap.size_push]; exact Nat.lt_succ_of_lt hlt⟩
    rw [upd_ne (by rw [← hD]; exact Nat.ne_of_lt hlt)]
    exact (f2 b hb).1
  have st3 : ZipTn z TI TO i1 i2 a b 0 s3.heap := zipTn_keep st2 fun b _ o e => by rw [h3]; exact Heap.get?_push_of_some _ e
  have I4 := block_start I3 ok hN f3
  have pin3 := I3.pin p (List.mem_append_left _ hpin)
  have pgs := hg s3 (upd H1 D (.lst [])) s3.heap.objs.size (cellsFrom (s3.heap.objs.size + 1) scope.names (cloFrom X.env.cells scope.names [])) fp
  have pt := ht s3 (upd H1 D (.lst [])) s3.heap.objs.size (cellsFrom (s3.heap.objs.size + 1) scope.names (cloFrom X.env.cells scope.names [])) fp
  have pe := he s3 (upd H1 D (.lst [])) s3.heap.objs.size (cellsFrom (s3.heap.objs.size + 1) scope.names (cloFrom X.env.cells scope.names [])) fp
  show codeAny _ _ (.compStart (.ListComp elt [⟨.Tuple tgs kk tpos, .Call (.Name "zip" p1) [e, e2] [] p2, ifs, 0⟩] scope pos) 0 (.ref z) (.ref D) (compEnvC scope (cellsFrom (s3.heap.objs.size + 1) scope.names (cloFrom X.env.cells scope.names [])) s3.heap.objs.size X.env)) _ { s3 with heap := pushCells (s3.heap.push { cls := .type "dict", data := .dict #[] }) scope.names }
  have nfp : ∀ b ∈ fp, (upd H1 D (.lst [])) b = none := fun b hb => (f3 b hb).1.1
  generalize hce : compEnvC scope (cellsFrom (s3.heap.objs.size + 1) scope.names (cloFrom X.env.cells scope.names [])) s3.heap.objs.size X.env = ce at I4 pgs pt pe ⊢
  have cL : ce.locals = s3.heap.objs.size := by subst hce; rfl
  generalize hH3 : upd H1 D (.lst []) = H3 at I3 I4 pgs pt pe w0 nfp f3 pin3
  generalize hs4 : ({ s3 with heap := pushCells (s3.heap.push { cls := .type "dict", data := .dict #[] }) scope.names } : Shared) = s4 at I4 ⊢
  have kp4 : ∀ b o, s3.heap.get? b = some o → s4.heap.get? b = some o := fun b o e => by rw [← hs4]; exact pushCells_keeps _ _ _ _ (Heap.get?_push_of_some _ e)
  have st4 : ZipTn z TI TO i1 i2 a b 0 s4.heap := zipTn_keep st3 fun b _ o e => kp4 b o e
  -- the exception stays where it is
  have pinB : ∀ {σ' : L2.St} {H' : Hp} {s' : Shared}, Inv (X.blk s3 H3 scope ce fp) [] σ' H' s' → s'.heap.get? p.1 = some p.2 ∧ H' p.1 = none := fun {σ' H' s'} I' => by
    have nf : p.1 ∉ frs X.stack := fun hm => (List.mem_cons.mp (I3.stkSub p.1 hm)).elim pin3.2.2.1 pin3.2.2.2.1
    have nx : p.1 ∉ fp := fun hm => (f3 p.1 hm).1.2.2.2.2.2 p (List.mem_append_left _ hpin) rfl
    exact ⟨I'.base.keep p.1 _ pin3.1 pin3.2.1 nf nx, I'.base.free p.1 _ pin3.1 pin3.2.1 nx⟩
  have toP : ∀ {σ' : L2.St} {H' : Hp} {s' : Shared}, Inv (X.blk s3 H3 scope ce fp) [] σ' H' s' → Inv (X.blk s3 H3 scope ce fp) [p] σ' H' s' := fun {σ' H' s'} I' => I'.pins_of fun q hq => by
    obtain rfl : q = p := by simpa using hq
    obtain ⟨e1, e2⟩ := pinB I'
    refine ⟨e1, e2, ?_, fun hm => (List.mem_cons.mp (I3.stkSub q.1 hm)).elim pin3.2.2.1 pin3.2.2.2.1, pin3.2.2.2.2⟩
    show q.1 ≠ ce.locals
    rw [cL]
    exact Nat.ne_of_lt (Heap.lt_size pin3.1)
  have hotB : Hot1 (X.blk s3 H3 scope ce fp).A p := hot
  have mem0 : ∀ {l : List (Addr × Obj)}, p ∈ (X.blk s3 H3 scope ce fp).pn ++ ([p] ++ l) := fun {l} => List.mem_append_right _ (List.mem_append_left _ (List.mem_singleton.mpr rfl))
  have stat : ∀ {σ' : L2.St} {H' : Hp} {s' : Shared}, Inv (X.blk s3 H3 scope ce fp) [] σ' H' s' → (∀ b ∈ fp, H' b = none) → ∀ b ∈ fp, FpOk (X.blk s3 H3 scope ce fp) [p] H' b := fun {σ' H' s'} I' hn b hb =>
    ⟨hn b hb, (I'.ok.exf b hb).1, I'.ok.exfs b hb, .inl hb, fun x c e => (I'.ok.exf b hb).2 x c e, fun q hq => by
      obtain rfl : q = p := by simpa using (show q ∈ ([] : List (Addr × Obj)) ++ [p] from hq)
      exact (f3 b hb).1.2.2.2.2.2 q (List.mem_append_left _ hpin)⟩
  have self : ∀ {Q : Value → Shared → Prop} {E : Value → Shared → Prop}, Q (.ref z) s4 → wpAny (model X.prog X.w) X.A (pyIter (.ref z)) Q E s4 := fun {Q E} q => wpAny_pyIter_zip st4.1 q
  refine (fun loop => codeAny_compStart_list loop (self loop)) ?_
  refine compLoop_any (fun n s' => ∃ i H', Inv (X.blk s3 H3 scope ce fp) [] (wipe σ (own.map (·.2))) H' s' ∧ ZipTn z TI TO i1 i2 a b i s'.heap ∧ (∀ b ∈ fp, H' b = none) ∧ W i n H') ?_ m0 ⟨0, H3, I4, st4, nfp, w0⟩
  rintro n s5 ⟨i, H5, I5, st5, n5, w5⟩
  rcases turn i n H5 w5 with ⟨⟨xs5, ys5, hqx5, hqy5, hle⟩, qq⟩ | ⟨⟨xs5, ys5, x, y, hqx5, hqy5, hx, hy⟩, Nx, hNx, step⟩
  · refine thnF (zip_done (X := X.blk s3 H3 scope ce fp) (E := fun _ _ => False) (List.mem_append_right _ (List.mem_singleton.mpr rfl)) hotB DD (toP I5) (by rw [hfp]; exact stat I5 n5) st5 hqx5 hqy5 hle) fun r s6 ⟨hr, I6⟩ => ?_
    subst hr
    have I6 := I6.pins_of (pins' := []) fun q hq => absurd hq (by simp)
    have I7 : Inv X pins σ H5 s6 := I3.call' (ch := fp) I6.os I6.base I6.hok I6.bare fun b hb => ⟨(f3 b hb).1.2.2.2.1, (f3 b hb).1.2.1, (f3 b hb).1.2.2.2.2.1, (f3 b hb).1.2.2.2.2.2⟩
    have nC : H5 s3.heap.objs.size = none := by
      have z : H5 ce.locals = none := I6.free
      rw [cL] at z
      exact z
    obtain ⟨m, hm, _⟩ := I6.loc
    replace hm : s6.heap.Ns ce.locals m := hm
    rw [cL] at hm
    exact hRR D s3.heap.objs.size s6 m H5 I7 qq hm (I3.fpOk (Nat.le_refl _) nC)
  · refine thnF (zip_item (X := X.blk s3 H3 scope ce fp) (E := fun _ _ => False) (elts := tgs) (kk := kk) (tpos := tpos) DD (toP I5) (by rw [hfp]; exact stat I5 n5) st5 hqx5 hqy5 hx hy) fun r s6 ⟨u, hr, h6⟩ => ?_
    subst hr
    refine thnF h6 fun _ s7 ⟨T, eu, hT, I7, st7, nT⟩ => ?_
    subst eu
    have n7 : ∀ b ∈ fp, (upd H5 T (.tup [x, y])) b = none := fun b hb => by
      rw [upd_ne (nT b (by rw [hfp]; exact hb))]
      exact n5 b hb
    have yl : (Itz X.K a b).yld i H5 (.ref T) (upd H5 T (.tup [x, y])) := ⟨T, x, y, rfl, hT, rfl, fun l hl => by rw [I5.list_inj hl hqx5]; exact hx, fun l hl => by rw [I5.list_inj hl hqy5]; exact hy⟩
    have I7' := I7.pinned (fp := fp) (fun b hb => stat (I7.pins_of (pins' := []) fun q hq => absurd hq (by simp)) n7 b hb) (fun b hb => zipTn_obj (s := s7) st7 b (by rw [hfp]; exact hb))
    refine thnF (pgs.run _ s7 _ _ (.ref T) (.ref T) _ mem0 I7' rfl (step _ _ yl)) fun _ s8 ⟨σ8, H8, I8, hw8, q8⟩ => ?_
    refine thnF (pt.run _ s8 σ8 H8 _ I8 q8) fun bb s9 ⟨H9, I9, q9⟩ => ?_
    have fin : ∀ {s' : Shared} {H' : Hp}, Inv (X.blk s3 H3 scope ce fp) ([p] ++ pinsAt fp s7.heap) σ8 H' s' → Nx H' → ∃ m, m < n ∧ ∃ i H', Inv (X.blk s3 H3 scope ce fp) [] (wipe σ (own.map (·.2))) H' s' ∧ ZipTn z TI TO i1 i2 a b i s'.heap ∧ (∀ b ∈ fp, H' b = none) ∧ W i m H' := fun {s' H'} I' nx => by
      obtain ⟨m', hm, w'⟩ := hNx H' nx
      have pin' : ∀ b ∈ fp, ∀ o, s7.heap.get? b = some o → s'.heap.get? b = some o ∧ H' b = none := fun b hb o e =>
        let z := I'.pin (b, o) (List.mem_append_right _ (List.mem_append_right _ (mem_pinsAt hb e)))
        ⟨z.1, z.2.1⟩
      have hl : (wipe σ (own.map (·.2))).length = σ8.length := by rw [← hw8, wipe_length]
      refine ⟨m', hm, i + 1, H', (I'.pins_of (pins' := []) fun q hq => absurd hq (by simp)).weak hl (fun j v e => ?_), zipTn_keep st7 fun b hb o e => (pin' b (by rw [← hfp]; exact hb) o e).1, fun b hb => ?_, w'⟩
      · rw [← hw8] at e
        exact (wipe_some e).1
      · obtain ⟨o, e, _⟩ := zipTn_obj (s := s7) st7 b (by rw [hfp]; exact hb)
        exact (pin' b hb o e).2
    cases bb with
    | false =>
      simp only [Bool.false_eq_true, if_false] at q9 ⊢
      exact fin I9 q9
    | true =>
      simp only [if_true] at q9 ⊢
      refine thnF (pe.run _ s9 σ8 H9 _ I9 q9) fun z s10 ⟨yv, H10, I10, r10, acc, hD10, hz10, nx⟩ => ?_
      exact app_ok (X := X.blk s3 H3 scope ce fp) I10 hD10 hz10 r10 fun s11 I11 => fin I11 nx
theorem pe_lcZ {X : Cx} {p : Addr × Obj} {elt e e2 : Expr} {tgs ifs : List Expr} {kk : Nat} {tpos p1 p2 pos : Pos} {scope : Scope} {own : List (Str × Nat)} {ta : TA} {g : TG} {tt : TT} {te : TE} (hot : Hot1 X.A p) (hpin : p ∈ X.pn) (hN : X.N.Nodup)
    (hg0 : Gl X "zip") (hm0 : X.mg "zip" = none) (ha : PA X [e, e2] ta) (ok : BlkOk X.N X.env.scope scope own)
    (hg : ∀ (s : Shared) (H : Hp) (C : Addr) (cl : List (Str × Addr)) (fp : List Addr), PGH (X.blk s H scope (compEnvC scope cl C X.env) fp) p (.Tuple tgs kk tpos) g)
    (ht : ∀ (s : Shared) (H : Hp) (C : Addr) (cl : List (Str × Addr)) (fp : List Addr), PTs (X.blk s H scope (compEnvC scope cl C X.env) fp) ifs tt)
    (he : ∀ (s : Shared) (H : Hp) (C : Addr) (cl : List (Str × Addr)) (fp : List Addr), PE (X.blk s H scope (compEnvC scope cl C X.env) fp) elt te)
    (hs : ∀ x, foldedSetIterable (.Call (.Name "zip" p1) [e, e2] [] p2) X.env x = pure x)
    (hs2 : starEach [e, e2] X.env = (false, eval e X.env) :: starEach [e2] X.env) (hpl : (backTo p2 (starEach [e2] X.env)).any (·.1) = false) :
    PE X (.ListComp elt [⟨.Tuple tgs kk tpos, .Call (.Name "zip" p1) [e, e2] [] p2, ifs, 0⟩] scope pos) (tLc (iZip X.K ta) g tt te (own.map (·.2))) := by
  refine ⟨fun pins s σ H Q I h => ?_⟩
  rw [eval_ListComp]
  refine lc_coreZ hot hpin hN I hg0 hm0 ha ok hg ht he hs hs2 hpl h fun D C s' m H' I' q hn f => ⟨m, hn, fun h'' sb => ?_⟩
  obtain ⟨f0, f1, f2, f3, f4, f5⟩ := f
  exact ⟨.ref D, H', I'.turned (t' := s'.toks) (fun b o hb e => (sb.2 b hb).trans e) f0 f1 f3 f4 f5, rfl, q⟩
theorem ps_setLcZ {X : Cx} {i : Nat} {y : Str} {py spos : Pos} {p : Addr × Obj} {elt e e2 : Expr} {tgs ifs : List Expr} {kk : Nat} {tpos p1 p2 pos : Pos} {scope : Scope} {own : List (Str × Nat)} {ta : TA} {g : TG} {tt : TT} {te : TE} (hot : Hot1 X.A p) (hpin : p ∈ X.pn) (hN : X.N.Nodup) (hy : X.N[i]? = some y) (hyl : X.env.scope.names.lookup y = some .local)
    (hsw : swapsWith (.ListComp elt [⟨.Tuple tgs kk tpos, .Call (.Name "zip" p1) [e, e2] [] p2, ifs, 0⟩] scope pos) (some (.Name y py)) spos.line X.env = pure true)
    (hg0 : Gl X "zip") (hm0 : X.mg "zip" = none) (ha : PA X [e, e2] ta) (ok : BlkOk X.N X.env.scope scope own)
    (hg : ∀ (s : Shared) (H : Hp) (C : Addr) (cl : List (Str × Addr)) (fp : List Addr), PGH (X.blk s H scope (compEnvC scope cl C X.env) fp) p (.Tuple tgs kk tpos) g)
    (ht : ∀ (s : Shared) (H : Hp) (C : Addr) (cl : List (Str × Addr)) (fp : List Addr), PTs (X.blk s H scope (compEnvC scope cl C X.env) fp) ifs tt)
    (he : ∀ (s : Shared) (H : Hp) (C : Addr) (cl : List (Str × Addr)) (fp : List Addr), PE (X.blk s H scope (compEnvC scope cl C X.env) fp) elt te)
    (hs : ∀ x, foldedSetIterable (.Call (.Name "zip" p1) [e, e2] [] p2) X.env x = pure x)
    (hs2 : starEach [e, e2] X.env = (false, eval e X.env) :: starEach [e2] X.env) (hpl : (backTo p2 (starEach [e2] X.env)).any (·.1) = false) :
    PS X (.Assign [.Name y py] (.ListComp elt [⟨.Tuple tgs kk tpos, .Call (.Name "zip" p1) [e, e2] [] p2, ifs, 0⟩] scope pos) spos) (tAsg (tLc (iZip X.K ta) g tt te (own.map (·.2))) (gName i)) := by
  refine ⟨fun pins s σ H D I h => ?_⟩
  rw [exec_Assign_Name_used _ _ _ _ hsw]
  refine wpAny_bind (wpAny_standAt (wpAny_bind ?_))
  show wpAny _ X.A (do let _ ← comprehension (.ListComp elt [⟨.Tuple tgs kk tpos, .Call (.Name "zip" p1) [e, e2] [] p2, ifs, 0⟩] scope pos) scope X.env (firstIterPos [⟨.Tuple tgs kk tpos, .Call (.Name "zip" p1) [e, e2] [] p2, ifs, 0⟩] pos) (newList []) false (eval (.Call (.Name "zip" p1) [e, e2] [] p2) X.env) (some (assign (.Name y py) X.env))) _ _ s
  have h : tLc (iZip X.K ta) g tt te (own.map (·.2)) σ H (fun x H1 => gName i x σ H1 D.nx) := h
  refine wpAny_bind (thn (lc_coreZ (Qf := fun _ s' => SP X pins D .next s') hot hpin hN I hg0 hm0 ha ok hg ht he hs hs2 hpl h fun L C s' m H' I' q hn f => ?_) fun _ s' hq => wpAny_pure (wpAny_pure hq))
  show wpAny _ _ (assign (.Name y py) X.env (.ref L)) _ _ _
  refine wpAny_assign_Name (store_ok2 (v := V.ref L) I' hN hy (.inl hyl) rfl (fun s2 I2 ⟨a, sb, ha⟩ => ?_) (.inr hyl))
  obtain ⟨f0, f1, f2, f3, f4, f5⟩ := f
  have haC : C ≠ a := by
    rcases ha with z | z
    · rw [z]; exact f1
    · exact fun e => f4 y a z e.symm
  refine ⟨m, hn.sameBut sb haC, fun h3 sb3 => ?_⟩
  exact ⟨_, H', I2.turned (t' := s2.toks) (fun b o hb e => (sb3.2 b hb).trans e) f0 f1 f3 f4 f5, q⟩
end DLH

/-! defs called where an exception is handled: isinstance of it, comprehensions over zip; what they promise -/
namespace DLH
open PySem PySem.Spec PyProof.Rows L2 HotX L2H DL
variable [Tab]
/-! ### isinstance(e, C) -/
def eIsE (a : Addr) (b : Bool) (f : Ev → Rx LV) : Ev → Rx LV := fun env => (f env).bind fun x e1 => match x with
  | .v (.ad a') => if a' = a then .ok (.v (.bl b)) e1 else .no
  | _ => .no
@[simp] theorem eIsE_ap (a : Addr) (b : Bool) (f : Ev → Rx LV) (env : Ev) : eIsE a b f env = bdK (f env) (fun x e1 => match x with
  | .v (.ad a') => if a' = a then .ok (.v (.bl b)) e1 else .no
  | _ => .no) .mk := nrfl rfl
theorem call_isP {X : Cx} {p : Addr × Obj} {D : Addr} (hp : p ∈ X.pn) (C : ExcC X.K D) (hz : Zc (.ref D) none p.2) (hf : ∃ vs, p.2.data = .fields vs) : CallR X (.builtin "isinstance") (rIsE X.K D p.1) := by
  intro pins s σ H xs us Q I r h
  obtain ⟨c, cv, b, rfl, hcv, e, q⟩ := h
  cases r with
  | cons rx rr =>
    cases rr with
    | cons rt rr =>
      cases rr
      cases rx
      have ec := hcv _ rt
      subst ec
      obtain ⟨hget, _⟩ := I.pin p (List.mem_append_left _ hp)
      obtain ⟨vs, hv⟩ := hf
      have J : PySem.W.InstAt s.heap p.1 p.2 D none := by
        obtain ⟨pa, oc, od, oda, osl⟩ := p
        obtain ⟨h1, h2⟩ := hz
        dsimp only at h1 h2 hv hget
        subst h1 h2 hv
        exact ⟨hget, rfl, rfl, trivial⟩
      exact PySem.W.kia_one (PySem.W.handS_kitx_exc C.hg C.hk C.hs C.hd C.ha C.hn C.ht C.hm) I.kIn J e (fun z => nomatch z) fun tk => ⟨.bl b, H, I.kept (t' := tk) fun _ _ z => z, rfl, q⟩
theorem eok_isP {X : Cx} {W : WX} {p : Addr × Obj} {D : Addr} {b : Bool} {e ce : Expr} {p1 pos : Pos} {f : Ev → Rx LV} {cv : V} {cw : Value} (hp : p ∈ X.pn) (C : ExcC X.K D) (hz : Zc (.ref D) none p.2) (hf : ∃ vs, p.2.data = .fields vs)
    (hg : Gl X "isinstance") (hm : X.mg "isinstance" = none) (he : EOk X W e f) (hc : PE X ce (tC cv)) (hcv : ∀ u, RelV cv u → u = cw) (hk : PySem.W.kitOne X.K (.ref D) cw = some b)
    (hs : starEach [e, ce] X.env = (false, eval e X.env) :: starEach [ce] X.env := by rfl) (hs2 : starEach [ce] X.env = (false, eval ce X.env) :: starEach [] X.env := by rfl) (hpl : (backTo pos (starEach [ce] X.env)).any (·.1) = false := by rfl) :
    EOk X W (.Call (.Name "isinstance" p1) [e, ce] [] pos) (eIsE p.1 b f) := by
  obtain ⟨t, h1, h2⟩ := he.ex
  refine ⟨_, pe_callB (call_isP hp C hz hf) hg hm PyProof.Rows.boot_isinstance (pa_cons h1 (pa_cons hc pa_nil hs2) hs) (he := hs) (hpl := hpl), fun c σ H F env Q S q => h2 c σ H F env _ S ?_⟩
  unfold eIsE at q
  cases q1 : f env with
  | er x => rw [q1] at q; exact q
  | no => rw [q1] at q; exact q.elim
  | ok x e1 =>
    rw [q1] at q
    rw [Rx.bind_ok] at q
    intro H1 F1 S1 s1 v hv
    split at q
    · rename_i a'
      split at q
      · rename_i ea
        subst ea
        cases hv with
        | ad a => exact ⟨cv, cw, b, rfl, hcv, hk, q H1 F1 S1 s1 _ (.bl b)⟩
      · exact q.elim
    · exact q.elim
/-! ### comprehensions over zip(list, list) -/
def iZpL (fa : Ev → Rx (List LV)) : Ev → Rx (List D) := fun env => (fa env).bind fun xs e1 => match allV xs with
  | some [.lst l, .lst m] => .ok (zipL l m) e1
  | _ => .no
@[simp] theorem iZpL_ap (fa : Ev → Rx (List LV)) (env : Ev) : iZpL fa env = bdK (fa env) (fun xs e1 => match allV xs with
  | some [.lst l, .lst m] => .ok (zipL l m) e1
  | _ => .no) .mk := nrfl rfl
theorem isem_zpL {X : Cx} {W : WX} {t : TA} {fa : Ev → Rx (List LV)} (h2 : ASem X W t fa) : ISem X W (iZip X.K t) (iZpL fa) := fun c σ H F env R S p => h2 c σ H F env _ S (by
  unfold iZpL at p
  cases q : fa env with
  | er x => rw [q] at p; exact p
  | no => rw [q] at p; exact p.elim
  | ok xs e1 =>
    rw [q] at p
    rw [Rx.bind_ok] at p
    intro H1 F1 S1 s1 vs hvs
    split at p
    · rename_i l m hd
      have r := allV_rp hvs hd
      cases r with
      | cons r1 r2 =>
        cases r2 with
        | cons r2 r3 =>
          cases r3
          cases r1 with
          | @lst a ws _ h r =>
            cases r2 with
            | @lst b us _ h' r' =>
              refine ⟨a, b, ws, us, rfl, .inl (.inl (S1.sub _ _ h)), .inl (.inl (S1.sub _ _ h')), p H1 F1 S1 s1 _ ⟨_, _, walk_zip (xs := ws) (ys := us) (by rw [zipL_len, r.length, r'.length]), fun H e => ⟨.inl (.inl (e _ _ h)), .inl (.inl (e _ _ h'))⟩, fun i d H x H' F1 hd e1 e2 y => ?_⟩⟩
              obtain ⟨T, x1, y1, rfl, hT, rfl, h1, h2⟩ := y
              obtain ⟨z1, z2, h3, h4, rfl⟩ := zipL_get _ _ _ _ hd
              exact pair_grown hT e2 (r.at2 F1 e1 i _ _ h1 h3) (r'.at2 F1 e1 i _ _ h2 h4)
    · exact p.elim)
structure GOkH (X : Cx) (p : Addr × Obj) (tg : Expr) (gf : D → Ev → Option Ev) (ts : List Nat) : Prop where
  ex : ∃ g, PGH X p tg g ∧ GSem X g gf ts
theorem gok_tupH {X : Cx} {p : Addr × Obj} {tgs : List Expr} {kk n : Nat} {pos : Pos} {gs : List D → Ev → Option Ev} {ts : List Nat} (hot : Hot1 X.A p) (h : GsOk X tgs gs ts) (hn : (assignEach tgs X.env).length = n) (hst : (assignEach tgs X.env).findIdx? (·.1) = none) :
    GOkH X p (.Tuple tgs kk pos) (gT n gs) ts := by
  obtain ⟨t, h1, h2⟩ := h.ex
  refine ⟨_, pg_tupH hot h1 hn hst, fun c σ H F env v d env' Q S r e k => ?_⟩
  unfold gT at e
  split at e
  · split at e
    · rename_i l hl
      cases r with
      | tup hq hr => exact ⟨_, _, rfl, same_t S.sub hq, by rw [hr.length]; exact hl, h2 c σ H F env _ l env' Q S hr e k⟩
    · cases e
  · cases e
theorem GOkH.can {X : Cx} {p : Addr × Obj} {e : Expr} {gf : D → Ev → Option Ev} {ts : List Nat} (h : GOkH X p e gf ts) : PGH X p e (canG X gf ts) := by
  obtain ⟨g, h1, h2⟩ := h.ex
  exact ⟨fun pins s σ H v u Q hp I r ⟨c, F, env, d, env', S, hr, he, k⟩ => h1.run pins s σ H v u Q hp I r (h2 c σ H F env v d env' Q S hr he k)⟩
theorem fok_lcZ {X : Cx} {W : WX} {p : Addr × Obj} {elt e e2 : Expr} {tgs ifs : List Expr} {kk : Nat} {tpos p1 p2 pos : Pos} {scope : Scope} {own : List (Str × Nat)} {ts vs : List Nat} {fa : Ev → Rx (List LV)} {gf : D → Ev → Option Ev} {ft : Ev → Rx Bool} {f : Ev → Rx LV}
    (hot : Hot1 X.A p) (hpin : p ∈ X.pn) (hN : X.N.Nodup) (hg0 : Gl X "zip") (hm0 : X.mg "zip" = none) (ha : AOk X W [e, e2] fa) (ok : blkC X.N X.env.scope scope own = true)
    (hg : ∀ (s : Shared) (H : Hp) (C : Addr) (cl : List (Str × Addr)) (fp : List Addr), GOkH (X.blk s H scope (compEnvC scope cl C X.env) fp) p (.Tuple tgs kk tpos) gf ts)
    (ht : ∀ (s : Shared) (H : Hp) (C : Addr) (cl : List (Str × Addr)) (fp : List Addr), TsOk (X.blk s H scope (compEnvC scope cl C X.env) fp) W0 ifs ft)
    (he : ∀ (s : Shared) (H : Hp) (C : Addr) (cl : List (Str × Addr)) (fp : List Addr), EOk (X.blk s H scope (compEnvC scope cl C X.env) fp) W0 elt f) (hv : vs = own.map (·.2)) (hts : ∀ i ∈ ts, i ∈ vs)
    (hs : ∀ x, foldedSetIterable (.Call (.Name "zip" p1) [e, e2] [] p2) X.env x = pure x := by intro _; rfl)
    (hs2 : starEach [e, e2] X.env = (false, eval e X.env) :: starEach [e2] X.env := by rfl) (hpl : (backTo p2 (starEach [e2] X.env)).any (·.1) = false := by rfl) :
    FOk X W (.ListComp elt [⟨.Tuple tgs kk tpos, .Call (.Name "zip" p1) [e, e2] [] p2, ifs, 0⟩] scope pos) (eLc (iZpL fa) gf ft f vs) := by
  subst hv
  obtain ⟨t, h1, h2⟩ := ha.ex
  exact ⟨_, pe_lcZ (g := canG X gf ts) (tt := canT X W0 ft) (te := canE X W0 f) hot hpin hN hg0 hm0 h1 (blkOk_by ok) (fun s H C cl fp => (hg s H C cl fp).can) (fun s H C cl fp => (ht s H C cl fp).can) (fun s H C cl fp => (he s H C cl fp).can) hs hs2 hpl, fsem_lc (isem_zpL h2) hts⟩
/-! ### what a def promises there of the exception it gets: the text b tells -/
/-- all but the tables is kept -/
structure After (H H' : Hp) : Prop where
  keep : ∀ a o, H a = some o → NT o → H' a = some o
  live : ∀ a, H' a = none → H a = none
  tab : LamX.Tabs Tab.T H'
structure FnE (P : Program) (w : World) (K : PySem.W.Frag) (mg : Str → Option Value) (base : Heap) (CX : CXT) (k : Nat) (f : Addr) (fd : FuncData) (x : Str) (D : Addr) (nm : Str) : Prop where
  run : ∀ (A : Around) (outer : List Env) (s : Shared) (H : Hp) (args : Args) (Q : VK) (E : XK) (p : Addr × Obj), RoomH k A → Hot1 A p → PinOk outer H s p → Zc (.ref D) none p.2 → Env0 P w K mg base A outer s H → BindsTo s fd args [(x, .ref p.1)] → LamX.Tabs Tab.T H →
    (∀ H', After H H' → Q (.str nm) H') → codeAny (model P w) A (.call (.ref f) args) (CR CX outer P w H s Q E) s
theorem fn_E {CX : CXT} {P : Program} {w : World} {K : PySem.W.Frag} {mg : Str → Option Value} {base : Heap} {k : Nat} {f D : Addr} {x qual nm : Str} {st : Stmt} {fd : FuncData} {N : List Str} {b : Addr → Ev → Out} (Fn : L2.Fun K x qual st f fd) {y : Str} (S : FnScope N [y] (defScope st))
    (hv : ∀ a, fnD N.length none false (b a) [.ad a] = .ok (.str nm) .non)
    (hb : ∀ (cdv : Value) (A : Around) (outer : List Env) (s : Shared) (H : Hp) (E : XK) (p : Addr × Obj), Hot1 A p → Zc (.ref D) none p.2 → (∃ vs, p.2.data = .fields vs) → RoomH k (A.deeper (envOfC qual (defScope st) s.heap.objs.size f cdv)) →
      SsOk (cxH CX P w K mg base N qual (defScope st) f cdv A outer s H E p) (fun cls d _ H' => E cls d H') (defBody st) (b p.1)) :
    FnE P w K mg base CX (k + 1) f fd y D nm := by
  obtain ⟨oc, od, kV, doc, pm, an, cdv0, ct, osl, rfl, lk, hcd⟩ := Fn.ex
  refine ⟨fun A outer s H args Q E p hr hot hpin hz e0 hbd ht0 hq => ?_⟩
  obtain ⟨F, hFe⟩ : ∃ F, F = noTab H := ⟨_, rfl⟩
  have hF : Same F H := by rw [hFe]; exact noTab_sub H
  have tb : TabI H F := ⟨by rw [hFe]; exact noTab_nt H, ht0⟩
  have KX : K.In s.heap := e0.mod.kin.keeps fun b o e => (e0.bs b o e).1
  have lim : s.heap.NoLimit := e0.mod.nolimit.keeps fun b o e => (e0.bs b o e).1
  have hkind : ∀ z ∈ [(y, Value.ref p.1)], (defScope st).names.lookup z.1 = some .local ∨ ((defScope st).names.lookup z.1 = some .cell ∧ ((cellsFrom (s.heap.objs.size + 1) (defScope st).names []).lookup z.1).isSome = true) := fun z hz => by
    rw [List.mem_singleton.mp hz]
    rcases S.par y (List.mem_singleton.mpr rfl) with q | q
    · exact .inl q
    · exact .inr ⟨q, PySem.W.cellsFrom_some _ _ _ (.inl q)⟩
  refine codeAny_call_function hr.depth (KX _ _ lk) rfl S.co S.gen rfl (PySem.W.codeRec_of KX hcd) (hbd _ _ _ _ ?_)
  refine wpAny_newFunctionEnv_cells S.kind hkind fun env he s1 xx => ?_
  subst he
  refine ⟨lim.keeps xx.toInCall.keep, codeAny_func ?_⟩
  have hfl : ∃ vs, p.2.data = .fields vs := let ⟨_, vs, e, _⟩ := hot; ⟨vs, e⟩
  obtain ⟨t, t1, t2⟩ := (hb cdv0 A outer s H E p hot hz hfl (hr.deeper _)).ex
  have I : Inv (cxH CX P w K mg base N qual (defScope st) f cdv0 A outer s H E p) [] (L2.start N [.ref p.1]) H s1 := inv_startH (ps := [y]) (us := [.ref p.1]) S hpin e0 rfl (.cons rfl .nil) xx
  have arg : ArgRp K none H F [V.ref p.1] [DL.D.ad p.1] := ⟨rfl, fun j v d h1 h2 => by
    cases j with
    | zero => cases h1; cases h2; exact ⟨(fun z => nomatch z), fun _ => .ad _⟩
    | succ j => cases h1⟩
  obtain ⟨S0, hc⟩ := sim_start (N := N) hF tb arg
  have ht : t { nx := fun _ H' => Q .non H', rt := Q } (L2.start N [.ref p.1]) H := by
    refine t2 ⟨H, F, RefA none [.ref p.1], RefA none [.ref p.1]⟩ _ H F _ _ hc S0 ?_
    have hv' := hv p.1
    unfold fnD at hv'
    cases q : b p.1 (stE none 0 [DL.D.ad p.1] ++ List.replicate (N.length - [DL.D.ad p.1].length) Sl.u) with
    | rt d e1 =>
      rw [q] at hv'
      simp only [outF, fin, Bool.false_eq_true, if_false, FOut.ok.injEq] at hv'
      obtain ⟨rfl, -⟩ := hv'
      intro v σ' H' F' S' s' r'
      cases r'
      exact hq H' ⟨fun a o e nt => S'.keep a o e (fun ⟨j, h, _⟩ => nomatch h) nt, S'.live, S'.tb.tab⟩
    | nx e1 => rw [q] at hv'; simp [outF] at hv'
    | rf d e1 => rw [q] at hv'; simp [outF] at hv'
    | bk e1 => rw [q] at hv'; simp [outF] at hv'
    | ct e1 => rw [q] at hv'; simp [outF] at hv'
    | er x => rw [q] at hv'; simp [outF] at hv'
    | no => rw [q] at hv'; simp [outF] at hv'
  refine wpAny_mono (t1.run [] s1 (L2.start N [.ref p.1]) H _ I ht) (fun fl s' hs => ?_) fun e s' hs => hs
  have fin : ∀ {σ' : L2.St} {H' : Hp} {v : V} {u : Value}, Inv (cxH CX P w K mg base N qual (defScope st) f cdv0 A outer s H E p) [] σ' H' s' → RelV v u → Q v H' → CE outer P w H s Q u s' :=
    fun {σ' H' v u} J rv q => ⟨v, H', J.os, J.bare, J.base, J.hok, rv, q⟩
  cases fl with
  | ret u =>
    obtain ⟨v, σ', H', J, rv, q⟩ := hs
    exact fin J rv q
  | next =>
    obtain ⟨σ', H', J, q⟩ := hs
    exact fin (v := V.non) (u := Value.none) J rfl q
  | brk =>
    obtain ⟨_, _, _, q⟩ := hs
    exact False.elim q
  | cont =>
    obtain ⟨_, _, _, q⟩ := hs
    exact False.elim q
end DLH

/-! f(lambda: e), f a def that calls what it gets in a try and tells the exception's name -/
namespace DLH
open PySem PySem.Spec PyProof.Rows L2 HotX L2H LamX DL
variable [Tab]
/-- the context of a lambda's body; what it lets out has no context -/
abbrev lamN (X : Cx) (A : Around) (outer : List Env) (s : Shared) (H : Hp) (E : XK) (scope : Scope) (f c' : Addr) : Cx :=
  (lamCx X A outer s H E scope f c').wish fun e s' => wpAny (model X.prog X.w) (A.deeper (lamEnv X scope s.heap.objs.size f c')) (leaving (lamEnv X scope s.heap.objs.size f c') e) (fun _ s'' => L2N.CX X.prog X.w outer H s E e s'') (fun e' s'' => L2N.CX X.prog X.w outer H s E e' s'') s'
theorem takes_lam {X : Cx} {A : Around} {outer : List Env} {s : Shared} {H : Hp} {E : XK} {scope : Scope} {f c' : Addr} : L2N.Takes (lamN X A outer s H E scope f c') (fun cls d _ H' => E cls d H') := L2N.takes_of rfl rfl rfl rfl
section
variable {X : Cx} {pins : List (Addr × Obj)} {σ : L2.St} {H : Hp} {s : Shared}
/-- the lambda is made, and nothing goes -/
theorem lam_make3 {T : List (Addr × Str)} {c P : Addr} {params : Arguments} {body : Expr} {scope : Scope} {pos : Pos} {E : Value → Shared → Prop} {Q : Value → Shared → Prop} (I : Inv X pins σ H s) (TB : TabB X.base X.mg c P) (hcode : X.env.code = .ref c)
    (hm : (P, X.env.qual ++ "<lambda>") ∈ T) (hu : ∀ p ∈ T, p.1 = P → p.2 = X.env.qual ++ "<lambda>") (hT : Tabs T H) (hdef : defaultsOf params X.env = ([], [])) (hfree : ∀ y ∈ scope.names, y.2 = .free → ∃ c, X.env.cells.lookup y.1 = some c)
    (h : ∀ (f c' : Addr) (pm ctv : Value) (H1 : Hp) (s' : Shared), Inv X pins σ H1 s' → ExtN H H1 → (∀ b, H1 b = none → H b = none) → Tabs T H1 →
      s'.heap.get? f = some (PySem.W.kla_obj "<lambda>" (X.env.qual ++ "<lambda>") params body scope (cloFrom X.env.cells scope.names []) pm c' ctv) → H1 f = none → f ∉ frs X.stack → H1 c' = some (CodeO c' (X.env.qual ++ "<lambda>")) → Q (.ref f) s') :
    wpAny (model X.prog X.w) X.A (eval (.Lambda params body scope pos) X.env) Q E s := by
  obtain ⟨ps, hP, ht, ha⟩ := hT _ hm
  refine PySem.W.kla_eval hdef ?_
  have bP : s.heap.BuiltinsAt X.mg P := TB.bm.keeps I.bk
  have hP' : s.heap.get? P = some { cls := .none, data := .fields ps } := I.hok P _ hP
  have nofr : ∀ f, s.heap.objs.size ≤ f → f ∉ frs X.stack := fun f hf z => by
    rcases List.mem_cons.mp (I.stkSub _ z) with e | e
    · have h1 := I.lt
      rw [← e] at h1
      exact Nat.lt_irrefl _ (Nat.lt_of_lt_of_le h1 hf)
    · exact I.nofs hf e
  cases hc : codeAmong pos ps.toList with
  | none =>
    refine PySem.W.kla_makeFunction (mg := X.mg) (c := c) (P := P) (ps := ps) (closure_ok hfree) I.ok.glob (I.mod.glob.keeps I.bk) hcode (TB.code.keeps I.bk) hP' ht hc TB.gP bP fun c' ctv h' tk hx hge hlt hrec htb => ?_
    obtain ⟨c2, oc, vs, t, e2, hoc, hd, hv⟩ := hrec
    cases e2
    have hsz : s.heap.objs.size ≤ h'.objs.size := Nat.le_trans hge (Nat.le_of_lt hlt)
    have nC : H c' = none := I.hok.fresh hge
    have I1 := inv_table (t' := tk) (more := #[rawInt pos.line, rawInt pos.col, .ref c']) (h' := h'.push (PySem.W.kla_obj "<lambda>" (X.env.qual ++ "<lambda>") params body scope (cloFrom X.env.cells scope.names []) ((X.mg "__name__").getD .none) c' ctv)) I hP
      (fun b o hb e => Heap.get?_push_of_some _ (hx b o hb e)) (Heap.get?_push_of_some _ htb) hge ⟨oc, vs, t, Heap.get?_push_of_some _ hoc, hd, hv⟩
    have hE : ExtN H (upd (upd H P (.tbl (ps ++ #[rawInt pos.line, rawInt pos.col, .ref c']))) c' (CodeO c' (X.env.qual ++ "<lambda>"))) := fun b o e n => by
      rw [upd_ne (ne_of_none e nC), upd_ne (fun z => n ps (Option.some.inj (e.symm.trans (by rw [z]; exact hP))))]
      exact e
    have eL : (ps ++ #[rawInt pos.line, rawInt pos.col, .ref c']).toList = ps.toList ++ [rawInt pos.line, rawInt pos.col, .ref c'] := by simp
    refine h h'.objs.size c' ((X.mg "__name__").getD .none) ctv _ _ I1 hE (fun b e => ?lv) (fun p hp => ?_) (Heap.get?_push_size _ rfl) ?_ (nofr _ hsz) upd_same
    case lv =>
      by_cases z1 : b = c'
      · rw [z1, upd_same] at e; cases e
      · rw [upd_ne z1] at e
        by_cases z2 : b = P
        · rw [z2, upd_same] at e; cases e
        · rw [upd_ne z2] at e; exact e
    · by_cases hb : p.1 = P
      · rw [hu p hp hb, hb]
        refine ⟨_, by rw [upd_ne (ne_of_none hP nC), upd_same], by rw [eL]; exact PySem.TriplesOk_snoc _ _ _ _ ht, fun p' cv hcv => ?_⟩
        rw [eL] at hcv
        rcases among_app _ ht hcv with z | z
        · obtain ⟨c0, e1, e2⟩ := ha p' cv z
          exact ⟨c0, e1, hE _ _ e2 codeO_ne⟩
        · exact ⟨c', z, upd_same⟩
      · obtain ⟨ps', a1, a2, a3⟩ := hT p hp
        refine ⟨ps', by rw [upd_ne (ne_of_none a1 nC), upd_ne hb]; exact a1, a2, fun p' cv hcv => ?_⟩
        obtain ⟨c0, e1, e2⟩ := a3 p' cv hcv
        exact ⟨c0, e1, hE _ _ e2 codeO_ne⟩
    · have n1 : h'.objs.size ≠ c' := Nat.ne_of_gt hlt
      have n2 : h'.objs.size ≠ P := Nat.ne_of_gt (Nat.lt_of_lt_of_le (Heap.lt_size hP') hsz)
      rw [upd_ne n1, upd_ne n2]
      exact I.hok.fresh hsz
  | some cv =>
    obtain ⟨c', e, hco⟩ := ha pos cv hc
    subst e
    refine PySem.W.kla_makeFunctionHit (mg := X.mg) (c := c) (P := P) (ps := ps) (closure_ok hfree) I.ok.glob (I.mod.glob.keeps I.bk) hcode (TB.code.keeps I.bk) hP' ht hc bP fun ctv h' tk hx hsz => ?_
    have I1 : Inv X pins σ H { s with heap := h'.push (PySem.W.kla_obj "<lambda>" (X.env.qual ++ "<lambda>") params body scope (cloFrom X.env.cells scope.names []) ((X.mg "__name__").getD .none) c' ctv), toks := tk } := I.kept fun b o e => Heap.get?_push_of_some _ (hx b o e)
    exact h h'.objs.size c' ((X.mg "__name__").getD .none) ctv H _ I1 (ExtN.refl H) (fun b e => e) hT (Heap.get?_push_size _ rfl) (I.hok.fresh hsz) (nofr _ hsz) hco
/-- x() -/
theorem pe_actN {CXg : CXT} {Eg : XK} {Ng : List Str} {qg : Str} {sg : Scope} {g f c' : Addr} {cdg pm ctv : Value} {params : Arguments} {body : Expr} {scope : Scope} {k i : Nat} {a : Str} {pn : List (Addr × Obj)} {xe : Value → Shared → Prop} {W : WX} {t : XK → TE} {p1 p2 : Pos}
    (I : Inv X pins σ H s) (L : LamS X.env.scope scope) (hf : s.heap.get? f = some (PySem.W.kla_obj "<lambda>" (X.env.qual ++ "<lambda>") params body scope (cloFrom X.env.cells scope.names []) pm c' ctv)) (hfn : H f = none) (hfr : f ∉ frs X.stack)
    (hbind : bindArgs (PySem.W.kla_fn "<lambda>" (X.env.qual ++ "<lambda>") params body scope (cloFrom X.env.cells scope.names []) pm (.ref c') ctv) ⟨[], []⟩ = pure [])
    (tk : L2N.Takes ((cxOf CXg X.prog X.w X.K X.mg X.base Ng qg sg g cdg X.A X.stack s H Eg).tr pn xe) W) (hr : Room (k + 1) (X.A.deeper (envOfC qg sg s.heap.objs.size g cdg)))
    (hbody : ∀ (A : Around) (outer : List Env) (s : Shared) (H : Hp) (E : XK), Room k (A.deeper (lamEnv X scope s.heap.objs.size f c')) → PE (lamN X A outer s H E scope f c') body (t E))
    (hN : Ng[i]? = some a) (hv : Vis sg a) (hd : (a == ("__debug__" : Str)) = false) (hcd : (a == ("__classdict__" : Str)) = false) :
    PE ((cxOf CXg X.prog X.w X.K X.mg X.base Ng qg sg g cdg X.A X.stack s H Eg).tr pn xe) (.Call (.Name a p1) [] [] p2)
      (fun σZ HZ Q => σZ[i]? = some (some (.ref f)) ∧ HZ c' = some (CodeO c' (X.env.qual ++ "<lambda>")) ∧ t (WE W σZ) σ HZ Q) := by
  refine ⟨fun pinsZ sZ σZ HZ Q IZ ⟨hs, hc, ht⟩ => ?_⟩
  refine wpAny_Call_Name_kw (thn ((pe_var (pos := p1) (i := i) hN hv hd hcd).run pinsZ sZ σZ HZ (fun v H1 => v = .ref f ∧ H1 = HZ) IZ ⟨.ref f, hs, rfl, rfl⟩) fun u s1 ⟨v, H1, I1, r1, ev, eH⟩ => ?_)
  subst ev
  rw [eH] at I1
  obtain rfl : u = Value.ref f := r1
  have of1 : s1.heap.get? f = some (PySem.W.kla_obj "<lambda>" (X.env.qual ++ "<lambda>") params body scope (cloFrom X.env.cells scope.names []) pm c' ctv) := I1.base.keep f _ hf hfn hfr (fun z => nomatch (show f ∈ ([] : List Addr) from z))
  refine PySem.W.callWith_F0 ⟨_, _, _, _, of1⟩ ?_
  have un : Un (frs X.stack) [] H HZ s.heap s1.heap := I1.base
  obtain ⟨⟨oc, vs, tk0, hoc, hdc, hvc⟩, _, _⟩ := I1.hok c' _ hc
  have rc : codeAny (model X.prog X.w) (X.A.deeper (envOfC qg sg s.heap.objs.size g cdg)) (.call (.ref f) ⟨[], []⟩) (CR (L2N.CX X.prog X.w) (envOfC qg sg s.heap.objs.size g cdg :: X.stack) X.prog X.w HZ s1 Q (WE W σZ)) s1 := by
    refine PySem.W.kla_callFunE hr.depth of1 rfl L.co L.gen rfl ⟨c', oc, vs, tk0, rfl, hoc, hdc, hvc⟩ ?_
    rw [hbind]
    refine wpAny_pure (wpAny_newFunctionEnv (fun y hy => (L.own y hy).2) (fun y hy => absurd hy (by simp)) (fun h₁ hns hsb => ⟨I1.nolimit.fresh _ hsb, ?_⟩) L.kind)
    show codeAny _ _ (.expr body (lamEnv X scope s1.heap.objs.size f c')) _ _
    have kp : ∀ b o, s1.heap.get? b = some o → h₁.get? b = some o := fun b o e => hsb.extBut b o (Nat.ne_of_lt (Heap.lt_size e)) (Heap.get?_push_of_some _ e)
    have J : Inv (lamN X (X.A.deeper (envOfC qg sg s.heap.objs.size g cdg)) (envOfC qg sg s.heap.objs.size g cdg :: X.stack) s1 HZ (WE W σZ) scope f c') [] σ HZ { s1 with heap := h₁, toks := s1.toks + ([] : List (Str × Value)).length } :=
      (lam_start2 (E := WE W σZ) I L I1.env0 hr.hd un hns kp).wish _
    refine PySem.W.kla_codeExpr (wpAny_mono ((hbody _ _ s1 HZ (WE W σZ) (hr.deeper _)).run [] _ _ HZ Q J ht) (fun v s' ⟨w', H', J', rv, q⟩ => ?_) fun e s' hq => hq)
    exact ⟨w', H', J'.os, J'.bare, J'.base, J'.hok, rv, q⟩
  have hx := L2N.passAt tk σZ
  refine wpAny_call (codeAny_mono rc fun r s' hq => ?_)
  cases r with
  | error e => exact hx pinsZ HZ s1 e s' I1 hq
  | ok fl =>
    cases fl with
    | ret u => exact I1.after hq
    | next => exact False.elim hq
    | brk => exact False.elim hq
    | cont => exact False.elim hq
end
/-- the suite: return f(e) -/
theorem pss_nm {Z : Cx} {CX : CXT} {k i : Nat} {f a : Addr} {oe : Obj} {fd : FuncData} {x y ne : Str} {cls : Value} {d : Option Addr} {pn : List (Addr × Obj)} {p1 p2 pos pos2 : Pos} (hz : L2N.Zn cls d oe) (hfl : ∃ vs, oe.data = .fields vs)
    (Nm : Addr → Str → Prop) (hNm : ∀ D nm, Nm D nm → FnE Z.prog Z.w Z.K Z.mg Z.base CX k f fd y D nm) (hr : Room k Z.A) (hg : Gl Z x) (hm : Z.mg x = some (.ref f)) (hk : PySem.W.keepIn Z.K (.ref f) = true) (hb : Binds Z.K fd [y] [])
    (hN : Z.N[i]? = some ne) (hv : Vis Z.env.scope ne) (hd : (ne == ("__debug__" : Str)) = false) (hcd : (ne == ("__classdict__" : Str)) = false) (hdb : (x == ("__debug__" : Str)) = false) (hCX : ∀ o H s e s', CX o H s (fun _ _ _ => False) e s' → False) :
    PSs (Z.suite a ((a, oe) :: pn)) [.Return (some (.Call (.Name x p1) [.Name ne p2] [] pos)) pos2]
      (fun De σ H => σ[i]? = some (some (.ref a)) ∧ ∃ D nm, cls = .ref D ∧ d = none ∧ Nm D nm ∧ LamX.Tabs Tab.T H ∧ ∀ H', After H H' → De.rt (.str nm) H') := by
  have pe : PE (Z.suite a ((a, oe) :: pn)) (.Call (.Name x p1) [.Name ne p2] [] pos) (fun σ H Q => σ[i]? = some (some (.ref a)) ∧ ∃ D nm, cls = .ref D ∧ d = none ∧ Nm D nm ∧ LamX.Tabs Tab.T H ∧ ∀ H', After H H' → Q (.str nm) H') := by
    refine ⟨fun pins s σ H Q I ⟨hs, D, nm, ec, ed, hn, ht, hq⟩ => ?_⟩
    have hg' : Gl (Z.suite a ((a, oe) :: pn)) x := hg
    refine wpAny_Call_Name_kw (ld_glob I hg' hm ?_ hdb)
    refine PySem.W.callWith_K (h₀ := Z.base) I.ok.mod.kin hk (thn ((pa_cons (pe_var (X := Z.suite a ((a, oe) :: pn)) (pos := p2) (i := i) hN hv hd hcd) pa_nil rfl).run pos pins s σ H (fun vs H1 => vs = [.ref a] ∧ H1 = H) I ⟨.ref a, hs, rfl, rfl⟩) fun us s1 ⟨vs, H1, I1, r, e1, e2⟩ => ⟨I1.kIn, ?_⟩) rfl rfl
    rw [e2] at I1
    rw [e1] at r
    have hus : us = [Value.ref a] := by
      cases r with
      | cons r rr => cases rr; cases r; rfl
    subst hus
    subst ec ed
    obtain ⟨vs0, hv0⟩ := hfl
    have hot : Hot1 (Z.suite a ((a, oe) :: pn)).A (a, oe) := ⟨rfl, vs0, hv0, hz.2.2 vs0 hv0⟩
    have P1 := I1.pin (a, oe) (List.mem_append_left _ List.mem_cons_self)
    have hpin : PinOk (Z.suite a ((a, oe) :: pn)).stack H s1 (a, oe) := ⟨P1.1, P1.2.1, fun hm => (List.mem_cons.mp (I1.stkSub a hm)).elim P1.2.2.1 P1.2.2.2.1, P1.2.2.2.2⟩
    have bd := hb s1 [.ref a] I1.kIn rfl
    have hr' : RoomH k (Z.suite a ((a, oe) :: pn)).A := ⟨hr.dp, hr.un⟩
    refine wpAny_call (codeAny_mono ((hNm D nm hn).run _ _ s1 H ⟨[.ref a], []⟩ Q (fun _ _ _ => False) (a, oe) hr' hot hpin hz.zc I1.env0 bd ht hq) fun r2 s2 hq2 => ?_)
    cases r2 with
    | error e => exact (hCX _ _ _ _ _ hq2).elim
    | ok fl =>
      cases fl with
      | ret u => exact I1.after hq2
      | next => exact False.elim hq2
      | brk => exact False.elim hq2
      | cont => exact False.elim hq2
  have q := pss_one (ps_ret (pos := pos2) pe)
  exact ⟨fun pins s σ H De I h => q.run pins s σ H De I h⟩
/-- g(lambda: e); def g(call): try: call() / except C as e: return h(e) ; return "" -/
theorem pe_lawerr {X : Cx} {g nf CE c P : Addr} {gn hn cn y : Str} {k : Nat} {st : Stmt} {fdg fdh : FuncData} {scope : Scope} {params : Arguments} {body : Expr} {t : XK → TE} {Nm : Addr → Str → Prop} {p lpos pos p1 p2 p3 p4 p5 p6 p7 p8 p9 p10 p11 p12 : Pos} {j : Nat}
    (Fg : L2.Fun X.K gn gn st g fdg) (Sg : FnScope ["call", "e"] ["call"] (defScope st)) (hbg : defBody st = [.Try [.Expr (.Call (.Name "call" p1) [] [] p2) p3] [.ExceptHandler (some (.Name cn p4)) (some "e") [.Return (some (.Call (.Name hn p5) [.Name "e" p6] [] p7)) p8] p9] [] [] p10, .Return (some (.Constant (.str "") j p11)) p12])
    (hg : Gl X gn) (hm : X.mg gn = some (.ref g)) (hvc : Vis (defScope st) "call") (hve : (defScope st).names.lookup ("e" : Str) = some .local) (hgh : (defScope st).names.lookup hn = some .globalImplicit) (hmh : X.mg hn = some (.ref nf)) (Fh : ∀ D nm, Nm D nm → FnE X.prog X.w X.K X.mg X.base (L2N.CX X.prog X.w) k nf fdh y D nm)
    (hkh : PySem.W.keepIn X.K (.ref nf) = true) (hbh : Binds X.K fdh [y] []) (hbd : Binds X.K fdg ["call"] []) (hgc : (defScope st).names.lookup cn = some .globalImplicit) (hmc : X.mg cn = some (.ref CE)) (hce : ∀ D nm, Nm D nm → PySem.W.exmOne X.K (.ref D) (.ref CE) = some true)
    (TB : TabB X.base X.mg c P) (hcode : X.env.code = .ref c) (hmT : (P, X.env.qual ++ "<lambda>") ∈ Tab.T) (hu : ∀ q ∈ Tab.T, q.1 = P → q.2 = X.env.qual ++ "<lambda>") (hr : Room (k + 2) X.A) (L : LamS X.env.scope scope) (hdef : defaultsOf params X.env = ([], []))
    (hbind : ∀ (q : Str) (cl : List (Str × Addr)) (pm cv ctv : Value), bindArgs (PySem.W.kla_fn "<lambda>" q params body scope cl pm cv ctv) ⟨[], []⟩ = pure [])
    (hbody : ∀ (A : Around) (outer : List Env) (s : Shared) (H : Hp) (E : XK) (f c' : Addr), Room k (A.deeper (lamEnv X scope s.heap.objs.size f c')) → PE (lamN X A outer s H E scope f c') body (t E))
    (hdb : (gn == ("__debug__" : Str)) = false) (hdh : (hn == ("__debug__" : Str)) = false) (hdc : (cn == ("__debug__" : Str)) = false) (hmono : ∀ (E E' : XK) σ H Q, (∀ cls d H', E cls d H' → E' cls d H') → t E σ H Q → t E' σ H Q) :
    PE X (.Call (.Name gn p) [.Lambda params body scope lpos] [] pos) (fun σ H Q => Tabs Tab.T H ∧ ∀ H1, ExtN H H1 → (∀ b, H1 b = none → H b = none) → Tabs Tab.T H1 →
      t (fun cls d H' => ∃ D nm, cls = .ref D ∧ d = none ∧ Nm D nm ∧ Tabs Tab.T H' ∧ ∀ H'', After H' H'' → Q (.str nm) H'') σ H1 (fun _ H' => Q (.str "") H')) := by
  refine ⟨fun pins s σ H Q I h => ?_⟩
  obtain ⟨hT, h⟩ := h
  refine wpAny_Call_Name_kw (ld_glob I hg hm ?_ hdb)
  refine PySem.W.callWith_K (h₀ := X.base) I.ok.mod.kin Fg.kp ?_ (by rfl) (by rfl)
  show wpAny _ _ (spliced ((false, eval (.Lambda params body scope lpos) X.env) :: backTo pos (starEach [] X.env))) _ _ s
  refine Calls.spliced_cons (lam_make3 I TB hcode hmT hu hT hdef (L.has I.ok) fun f c' pm' ctv H1 s' I1 eN lv T1 hf hfn hfr hco => ?_)
  refine Calls.spliced_nil ⟨I1.kIn, ?_⟩
  obtain ⟨oc, od, kV, doc, pm, an, cdv, ct, osl, rfl, lk, hcg⟩ := Fg.ex
  have rc : codeAny (model X.prog X.w) X.A (.call (.ref g) ⟨[.ref f], []⟩) (CR C8.CX0 X.stack X.prog X.w H1 s' Q C8.E0) s' := by
    refine run_ofS (N := ["call", "e"]) (ps := ["call"]) (us := [.ref f]) (vs := [.ref f]) lk hcg Sg (k := k + 1) hr I1.env0 (hbd s' [.ref f] I1.kIn rfl) (.cons rfl .nil) rfl fun hr' => ?_
    rw [hbg]
    have rt : PSs ((cxOf C8.CX0 X.prog X.w X.K X.mg X.base ["call", "e"] gn (defScope st) g cdv X.A X.stack s' H1 C8.E0).nox) [.Return (some (.Constant (.str "") j p11)) p12] (fun De σ H => De.rt (.str "") H) := ⟨fun pins s σ H De I h => (pss_one (ps_ret pe_str)).run pins s σ H De I h⟩
    have tr := L2N.ps_try_as (X := (cxOf C8.CX0 X.prog X.w X.K X.mg X.base ["call", "e"] gn (defScope st) g cdv X.A X.stack s' H1 C8.E0).nox) (x := cn) (n := "e") (c := .ref CE) (i := 1) (Wout := fun _ _ _ _ => False) (np := p4) (pos := p10) (pos' := p9)
      (body := [.Expr (.Call (.Name "call" p1) [] [] p2) p3]) (b₀ := .Return (some (.Call (.Name hn p5) [.Name "e" p6] [] p7)) p8) (suite := [])
      (tb := fun W De σZ HZ => σZ[0]? = some (some (.ref f)) ∧ HZ c' = some (CodeO c' (X.env.qual ++ "<lambda>")) ∧ t (WE W σZ) σ HZ (fun _ H' => De.nx σZ H'))
      (ts := fun a cls d De σ H => σ[1]? = some (some (.ref a)) ∧ ∃ D nm, cls = .ref D ∧ d = none ∧ Nm D nm ∧ LamX.Tabs Tab.T H ∧ ∀ H', After H H' → De.rt (.str nm) H')
      rfl rfl (by show (["call", "e"] : List Str).Nodup; decide) rfl (by exact hve) ⟨hgc, hdc, .inl hmc⟩ ?tk ?hb ?hsu
    case tk => exact fun _ _ x => by obtain ⟨_, _, _, _, _, _, _, _, _, _, _, _, _, _, _, _, z⟩ := x; exact z.elim
    case hsu =>
      intro a oe cls d pn hz hfl
      exact pss_nm (Z := (cxOf C8.CX0 X.prog X.w X.K X.mg X.base ["call", "e"] gn (defScope st) g cdv X.A X.stack s' H1 C8.E0).nox) (k := k) hz hfl Nm Fh (hr'.mono (Nat.le_succ k)) hgh hmh hkh hbh (i := 1) rfl (.inl hve) (by decide) (by decide) hdh (fun o H s e s' z => DL.cx_no z)
    case hb =>
      intro W pn xe tk _
      have pa := pe_actN (CXg := C8.CX0) (Eg := C8.E0) (Ng := ["call", "e"]) (qg := gn) (sg := defScope st) (g := g) (cdg := cdv) (i := 0) (a := "call") (pn := pn) (xe := xe) (W := W) (t := t) (p1 := p1) (p2 := p2) I1 L hf hfn hfr (hbind _ _ _ _ _) tk hr' (fun A outer s H E hr2 => hbody A outer s H E f c' hr2) rfl hvc (by decide) (by decide)
      have q := pss_one (ps_expr (pos := p3) pa)
      exact ⟨fun pins s σ H De I h => q.run pins s σ H De I h⟩
    refine ⟨_, (pss_cons tr rt).nox, ?_⟩
    refine ⟨rfl, hco, hmono _ _ _ _ _ (fun cls d H' hE => ?_) (h H1 eN lv T1)⟩
    obtain ⟨D, nm, rfl, ed, hn0, ht0, hq0⟩ := hE
    exact ⟨true, hce D nm hn0, fun _ a na => ⟨rfl, D, nm, rfl, ed, hn0, ht0, hq0⟩, fun z => nomatch z⟩
  refine wpAny_call (codeAny_mono rc fun r s2 hq => ?_)
  cases r with
  | error e => exact (show False from hq).elim
  | ok fl =>
    cases fl with
    | ret u => exact I1.after hq
    | next => exact False.elim hq
    | brk => exact False.elim hq
    | cont => exact False.elim hq
end DLH

/-! .. over data -/
namespace DLH
open PySem PySem.Spec PyProof.Rows L2 HotX L2H LamX DL
/-- what a lambda sees: frozen values -/
@[simp] def cut (env : Ev) : Ev := env.map fun s => match s with
  | .p d => .p d
  | _ => .u
def eLE (nm : Str → Option Str) (f : Ev → Rx LV) : Ev → Rx LV := fun env => match f (cut env) with
  | .ok _ _ => .ok (.v (.str "")) env
  | .er x => match nm x.c with
    | some z => .ok (.v (.str z)) env
    | none => .no
  | .no => .no
def leK (nm : Str → Option Str) (x : Rx LV) (env : Ev) : Rx LV := match x with
  | .ok _ _ => .ok (.v (.str "")) env
  | .er x => match nm x.c with
    | some z => .ok (.v (.str z)) env
    | none => .no
  | .no => .no
@[simp] theorem eLE_ap (nm : Str → Option Str) (f : Ev → Rx LV) (env : Ev) : eLE nm f env = leK nm (f (cut env)) env := nrfl rfl
@[simp] theorem leK_ok (nm : Str → Option Str) (a : LV) (e env : Ev) : leK nm (.ok a e) env = .ok (.v (.str "")) env := rfl
@[simp] theorem leK_er (nm : Str → Option Str) (x : Exc) (env : Ev) : leK nm (.er x) env = match nm x.c with
    | some z => .ok (.v (.str z)) env
    | none => .no := rfl
theorem cut_get {env : Ev} {i : Nat} {s : Sl} (h : (cut env)[i]? = some s) (hs : s ≠ .u) : env[i]? = some s ∧ ∃ d, s = .p d := by
  unfold cut at h
  rw [List.getElem?_map] at h
  cases q : env[i]? with
  | none => rw [q] at h; cases h
  | some s0 =>
    rw [q] at h
    cases s0 with
    | p d => cases h; exact ⟨rfl, d, rfl⟩
    | u => cases h; exact absurd rfl hs
    | o d => cases h; exact absurd rfl hs
    | r d => cases h; exact absurd rfl hs
theorem cut_live {env : Ev} {i : Nat} {d : D} (l : Live (cut env) i d) : False := by
  rcases l with l | l
  · obtain ⟨_, d', e⟩ := cut_get l (fun z => nomatch z); cases e
  · obtain ⟨_, d', e⟩ := cut_get l (fun z => nomatch z); cases e
variable [Tab]
theorem sim_cut {K : PySem.W.Frag} {c : C0} {σ : L2.St} {H F H1 : Hp} {env : Ev} (S : Sim K c σ H F env) (eN : ExtN H H1) (T1 : Tabs Tab.T H1) : Sim K ⟨H1, F, fun _ => False, fun _ => False⟩ σ H1 F (cut env) := by
  refine ⟨fun a o e => eN a o (S.sub a o e) (S.tb.nt a o e), Same.refl _, fun a o e => .inl e, fun a o e _ _ => e, fun a e => e, fun i d h => ?_, fun i d l => (cut_live l).elim, fun i j d d' a l => (cut_live l).elim, by unfold cut; rw [List.length_map]; exact S.len, ⟨S.tb.nt, T1⟩⟩
  exact S.pure i d (cut_get h (fun z => nomatch z)).1
theorem sim_back {K : PySem.W.Frag} {c : C0} {σ : L2.St} {H F H1 H' F' : Hp} {env : Ev} (S : Sim K c σ H F env) (eN : ExtN H H1) (lv : ∀ b, H1 b = none → H b = none) (keep : ∀ a o, H1 a = some o → NT o → H' a = some o) (live : ∀ a, H' a = none → H1 a = none) (sub : Same F' H') (f0 : Same F F')
    (new : ∀ a o, F' a = some o → F a = some o ∨ H1 a = none) (tb : TabI H' F') : Sim K c σ H' F' env := by
  have k2 : ∀ a o, H a = some o → NT o → H' a = some o := fun a o e nt => keep a o (eN a o e nt) nt
  refine ⟨sub, S.f0.trans f0, fun a o e => ?_, fun a o e n nt => k2 a o (S.keep a o e n nt) nt, fun a e => S.live a (lv a (live a e)), fun i d h => ?_, fun i d l => ?_, S.apart, S.len, tb⟩
  · rcases new a o e with z | z
    · exact S.new a o z
    · exact .inr (S.live a (lv a z))
  · obtain ⟨v, h1, h2⟩ := S.pure i d h
    exact ⟨v, h1, h2.mono f0⟩
  · obtain ⟨a, h1, h2, h3, h4, h5⟩ := S.own i d l
    obtain ⟨u, h6, h7⟩ := h5.isO
    refine ⟨a, h1, ?_, h3, h4, by rw [k2 a u h6 h7.nt, ← h6]; exact h5.mono f0⟩
    cases q : F' a with
    | none => rfl
    | some o =>
      rcases new a o q with z | z
      · rw [h2] at z; cases z
      · have := eN a u h6 h7.nt
        rw [z] at this; cases this
theorem eok_lawerr {X : Cx} {W : WX} {g nf CE c P : Addr} {gn hn cn y : Str} {k : Nat} {st : Stmt} {fdg fdh : FuncData} {scope : Scope} {params : Arguments} {body : Expr} {f : Ev → Rx LV} {nm : Str → Option Str} {p lpos pos p1 p2 p3 p4 p5 p6 p7 p8 p9 p10 p11 p12 : Pos} {j : Nat}
    (Fg : L2.Fun X.K gn gn st g fdg) (Sg : FnScope ["call", "e"] ["call"] (defScope st)) (hbg : defBody st = [.Try [.Expr (.Call (.Name "call" p1) [] [] p2) p3] [.ExceptHandler (some (.Name cn p4)) (some "e") [.Return (some (.Call (.Name hn p5) [.Name "e" p6] [] p7)) p8] p9] [] [] p10, .Return (some (.Constant (.str "") j p11)) p12])
    (hg : Gl X gn) (hm : X.mg gn = some (.ref g)) (hvc : Vis (defScope st) "call") (hve : (defScope st).names.lookup ("e" : Str) = some .local) (hgh : (defScope st).names.lookup hn = some .globalImplicit) (hmh : X.mg hn = some (.ref nf))
    (hNm : ∀ x z, nm x = some z → ∃ D, X.mg x = some (.ref D) ∧ PySem.W.exmOne X.K (.ref D) (.ref CE) = some true ∧ FnE X.prog X.w X.K X.mg X.base (L2N.CX X.prog X.w) k nf fdh y D z)
    (hkh : PySem.W.keepIn X.K (.ref nf) = true) (hbh : Binds X.K fdh [y] []) (hbd : Binds X.K fdg ["call"] []) (hgc : (defScope st).names.lookup cn = some .globalImplicit) (hmc : X.mg cn = some (.ref CE))
    (TB : TabB X.base X.mg c P) (hcode : X.env.code = .ref c) (hT : Tab.T = [(P, X.env.qual ++ "<lambda>")]) (hr : Room (k + 2) X.A) (L : lamSB X.env.scope scope = true) (hdef : defaultsOf params X.env = ([], []))
    (hbind : ∀ (q : Str) (cl : List (Str × Addr)) (pm cv ctv : Value), bindArgs (PySem.W.kla_fn "<lambda>" q params body scope cl pm cv ctv) ⟨[], []⟩ = pure [])
    (hbody : ∀ (A : Around) (outer : List Env) (s : Shared) (H : Hp) (E : XK) (f' c' : Addr), Room k (A.deeper (lamEnv X scope s.heap.objs.size f' c')) → EOk (lamN X A outer s H E scope f' c') (fun cls d _ H' => E cls d H') body f)
    (hdb : (gn == ("__debug__" : Str)) = false := by decide) (hdh : (hn == ("__debug__" : Str)) = false := by decide) (hdc : (cn == ("__debug__" : Str)) = false := by decide) :
    EOk X W (.Call (.Name gn p) [.Lambda params body scope lpos] [] pos) (eLE nm f) := by
  refine ⟨_, pe_lawerr (t := fun E => canE X (fun cls d _ H' => E cls d H') f) (Nm := fun D z => ∃ x, nm x = some z ∧ X.mg x = some (.ref D)) Fg Sg hbg hg hm hvc hve hgh hmh (fun D z ⟨x, h1, h2⟩ => ?n1) hkh hbh hbd hgc hmc (fun D z ⟨x, h1, h2⟩ => ?n2) TB hcode (by rw [hT]; exact List.mem_singleton.mpr rfl) (fun q hq _ => by rw [hT] at hq; rw [List.mem_singleton.mp hq])
    hr (lamS_by L) hdef hbind (fun A outer s H E f' c' hr2 => (hbody A outer s H E f' c' hr2).can) hdb hdh hdc (fun E E' σ H Q hEE h => ?mono), fun c σ H F env Q S p => ?_⟩
  case n1 =>
    obtain ⟨D', e1, e2, e3⟩ := hNm x z h1
    rw [h2] at e1; cases e1; exact e3
  case n2 =>
    obtain ⟨D', e1, e2, e3⟩ := hNm x z h1
    rw [h2] at e1; cases e1; exact e2
  case mono =>
    obtain ⟨c, F, env, S, p⟩ := h
    refine ⟨c, F, env, S, ?_⟩
    cases q : f env with
    | ok a e => rw [q] at p; exact p
    | er x => rw [q] at p; exact fun H' aw => hEE _ _ _ (p H' aw)
    | no => rw [q] at p; exact p
  · refine ⟨S.tb.tab, fun H1 eN lv T1 => ⟨_, F, cut env, sim_cut S eN T1, ?_⟩⟩
    unfold eLE at p
    cases q : f (cut env) with
    | ok a e =>
      rw [q] at p
      intro H' F' S' s' v hv
      exact p H' F' (sim_back S eN lv (fun a o e nt => S'.keep a o e (fun z => z) nt) S'.live S'.sub s' S'.new S'.tb) s' _ (.str "")
    | er x =>
      rw [q] at p
      replace p : Post X c W σ F (RE X σ Q) (match nm x.c with
        | some z => .ok (.v (.str z)) env
        | none => .no) := p
      intro H' aw
      cases hz : nm x.c with
      | none => rw [hz] at p; exact p.elim
      | some z =>
        rw [hz] at p
        obtain ⟨D', e1, e2, e3⟩ := hNm x.c z hz
        refine ⟨D', z, ?_, rfl, ⟨x.c, hz, e1⟩, aw.2.1, fun H'' af => ?_⟩
        · unfold clsV; rw [e1]; rfl
        · have k1 : ∀ a o, H1 a = some o → NT o → H'' a = some o := fun a o e nt => af.keep a o (aw.1 a o e (fun z => z) nt) nt
          refine p H'' F (sim_back S eN lv k1 (fun a e => ?_) (fun a o e => k1 a o (eN a o (S.sub a o e) (S.tb.nt a o e)) (S.tb.nt a o e)) (Same.refl _) (fun a o e => .inl e) ⟨S.tb.nt, af.tab⟩) (Same.refl _) _ (.str z)
          exact aw.2.2 a (af.live a e)
    | no => rw [q] at p; exact p.elim
end DLH

/-! a text's split; a name = [..] where an exception is handled; a def that makes lambdas; the law's promise with tables -/
namespace DLH
open PySem PySem.Spec PyProof.Rows L2 HotX L2H LamX DL
variable [Tab]
def gSplit (a : Str) (y : D) : Option D := match y with
  | .str b => if (b.length == 0) = false ∧ a.length + 2 ≤ LIM then some (.lst ((Txt.split a b).map .str)) else none
  | _ => none
def spK (e2 : Ev) (a : Str) (y : LV) : Rx D := match (rs e2 y).bind (gSplit a) with
  | some z => .ok z e2
  | none => .no
def stV1 (e1 : Ev) (x : LV) : Rx Str := match x with
  | .v (.str a) => .ok a e1
  | _ => .no
@[simp] theorem spK_ap (e2 : Ev) (a : Str) (y : LV) : spK e2 a y = match (rs e2 y).bind (gSplit a) with
  | some z => .ok z e2
  | none => .no := rfl
@[simp] theorem stV1_ap (e1 : Ev) (a : Str) : stV1 e1 (.v (.str a)) = .ok a e1 := rfl
def eSplit (fo fe : Ev → Rx LV) : Ev → Rx D := fun env => (fo env).bind fun x e1 => (stV1 e1 x).bind fun a e1 => (fe e1).bind fun y e2 => spK e2 a y
@[simp] theorem eSplit_ap (fo fe : Ev → Rx LV) (env : Ev) : eSplit fo fe env = bdK (fo env) (fun x e1 => bdK (stV1 e1 x) (fun a e1 => bdK (fe e1) (fun y e2 => spK e2 a y) .mk) .mk) .mk := nrfl rfl
theorem rpl_strs {K : PySem.W.Frag} {F : Hp} : ∀ ys : List Str, RpL K F (ys.map V.str) (ys.map D.str)
  | [] => .nil
  | y :: ys => .cons (.str y) (rpl_strs ys)
theorem fok_split {X : Cx} {W : WX} {o e : Expr} {apos pos : Pos} {fo fe : Ev → Rx LV} (ho : EOk X W o fo) (he : EOk X W e fe) (hs : starEach [e] X.env = [(false, eval e X.env)] := by rfl) (hbase : attributeBase o "split" X.env (eval o X.env) = eval o X.env := by rfl) (hline : (apos.endLine == pos.line) = true := by rfl)
    : FOk X W (.Call (.Attribute o "split" apos) [e] [] pos) (eSplit fo fe) := by
  obtain ⟨t, h1, h2⟩ := ho.ex
  obtain ⟨u, g1, g2⟩ := he.ex
  refine ⟨_, pe_split h1 g1 hs hbase hline, fun c σ H F env Q S p => h2 c σ H F env _ S ?_⟩
  unfold eSplit at p
  cases q : fo env with
  | er x => simp only [q] at p; exact p
  | no => simp only [q] at p; exact p.elim
  | ok x e1 =>
    simp only [q, Rx.bind_ok] at p
    intro H1 F1 S1 s1 v hv
    cases qa : stV1 e1 x with
    | er x => simp only [qa] at p; exact (by unfold stV1 at qa; split at qa <;> cases qa)
    | no => simp only [qa] at p; exact p.elim
    | ok a e3 =>
      simp only [qa, Rx.bind_ok] at p
      unfold stV1 at qa
      split at qa
      · cases qa
        have ev : v = .str a := by cases (show Rp X.K F1 v (.str a) from hv); rfl
        subst ev
        refine ⟨⟨a, rfl⟩, g2 c σ H1 F1 e1 _ S1 ?_⟩
        cases q2 : fe e1 with
        | er x => simp only [q2] at p; exact p
        | no => simp only [q2] at p; exact p.elim
        | ok y e2 =>
          simp only [q2, Rx.bind_ok] at p
          intro H2 F2 S2 s2 w hw
          unfold spK at p
          cases q3 : rs e2 y with
          | none => rw [q3] at p; exact p.elim
          | some d =>
            rw [q3, Option.bind_some] at p
            cases hz : gSplit a d with
            | none => simp only [hz] at p; exact p.elim
            | some z =>
              simp only [hz] at p
              unfold gSplit at hz
              split at hz
              · rename_i b
                split at hz
                · rename_i hlen
                  cases hz
                  have ew := (S2.hrp hw q3).str
                  subst ew
                  refine ⟨a, b, rfl, rfl, hlen.1, lim_le hlen.2, fun p0 hp0 => ?_⟩
                  obtain ⟨S3, f3⟩ := S2.fresh (o := .lst ((Txt.split a b).map V.str)) hp0
                  exact p _ F2 S3 (s1.trans s2) p0 f3 (by rw [upd_same]; exact .lst (rpl_strs _))
                · cases hz
              · cases hz
      · cases qa
theorem sok_setLcZ {X : Cx} {W : WX} {p : Addr × Obj} {i : Nat} {y : Str} {elt e e2 : Expr} {tgs ifs : List Expr} {kk : Nat} {tpos p1 p2 pos py spos : Pos} {scope : Scope} {own : List (Str × Nat)} {ts vs : List Nat} {fa : Ev → Rx (List LV)} {gf : D → Ev → Option Ev} {ft : Ev → Rx Bool} {f : Ev → Rx LV}
    (hot : Hot1 X.A p) (hpin : p ∈ X.pn) (hN : X.N.Nodup) (hy : X.N[i]? = some y) (hyl : X.env.scope.names.lookup y = some .local) (hsw : swapsWith (.ListComp elt [⟨.Tuple tgs kk tpos, .Call (.Name "zip" p1) [e, e2] [] p2, ifs, 0⟩] scope pos) (some (.Name y py)) spos.line X.env = pure true)
    (hg0 : Gl X "zip") (hm0 : X.mg "zip" = none) (ha : AOk X W [e, e2] fa) (ok : blkC X.N X.env.scope scope own = true)
    (hg : ∀ (s : Shared) (H : Hp) (C : Addr) (cl : List (Str × Addr)) (fp : List Addr), GOkH (X.blk s H scope (compEnvC scope cl C X.env) fp) p (.Tuple tgs kk tpos) gf ts)
    (ht : ∀ (s : Shared) (H : Hp) (C : Addr) (cl : List (Str × Addr)) (fp : List Addr), TsOk (X.blk s H scope (compEnvC scope cl C X.env) fp) W0 ifs ft)
    (he : ∀ (s : Shared) (H : Hp) (C : Addr) (cl : List (Str × Addr)) (fp : List Addr), EOk (X.blk s H scope (compEnvC scope cl C X.env) fp) W0 elt f) (hv : vs = own.map (·.2)) (hts : ∀ i ∈ ts, i ∈ vs)
    (hs : ∀ x, foldedSetIterable (.Call (.Name "zip" p1) [e, e2] [] p2) X.env x = pure x := by intro _; rfl)
    (hs2 : starEach [e, e2] X.env = (false, eval e X.env) :: starEach [e2] X.env := by rfl) (hpl : (backTo p2 (starEach [e2] X.env)).any (·.1) = false := by rfl) :
    SOk X W (.Assign [.Name y py] (.ListComp elt [⟨.Tuple tgs kk tpos, .Call (.Name "zip" p1) [e, e2] [] p2, ifs, 0⟩] scope pos) spos) (sSetO i (eLc (iZpL fa) gf ft f vs)) := by
  subst hv
  obtain ⟨t, h1, h2⟩ := ha.ex
  exact sok_asgO (ps_setLcZ (g := canG X gf ts) (tt := canT X W0 ft) (te := canE X W0 f) hot hpin hN hy hyl hsw hg0 hm0 h1 (blkOk_by ok) (fun s H C cl fp => (hg s H C cl fp).can) (fun s H C cl fp => (ht s H C cl fp).can) (fun s H C cl fp => (he s H C cl fp).can) hs hs2 hpl) (fsem_lc (isem_zpL h2) hts)
/-! ### a def whose code object is told -/
section
variable {P : Program} {w : World} {K : PySem.W.Frag} {mg : Str → Option Value} {base : Heap}
theorem fn_okC {x qual : Str} {st : Stmt} {f c : Addr} {fd : FuncData} {N ps : List Str} {k : Nat} {ref : Option Nat} {fr : Bool} {b : Ev → Out} (Fn : L2.Fun K x qual st f fd) (hc : fd.code = .ref c) (S : FnScope N ps (defScope st))
    (hb : ∀ (A : Around) (outer : List Env) (s : Shared) (H : Hp) (E : XK), Room k (A.deeper (envOfC qual (defScope st) s.heap.objs.size f (.ref c))) →
      SsOk (cxOf (L2N.CX P w) P w K mg base N qual (defScope st) f (.ref c) A outer s H E) (fun cls d _ H' => E cls d H') (defBody st) b) :
    FnOk P w K mg base (L2N.CX P w) (k + 1) f fd ps (spD K mg ref fr ps.length (fnD N.length ref fr b)) := by
  obtain ⟨oc, od, kV, doc, pm, an, cdv0, ct, osl, rfl, lk, hcd⟩ := Fn.ex
  obtain rfl : cdv0 = .ref c := hc
  have key : ∀ (cdv : Value) (A : Around) (outer : List Env) (s : Shared) (H : Hp) (E : XK), cdv = .ref c → Room k (A.deeper (envOfC qual (defScope st) s.heap.objs.size f cdv)) → SsOk (cxOf (L2N.CX P w) P w K mg base N qual (defScope st) f cdv A outer s H E) (fun cls d _ H' => E cls d H') (defBody st) b := fun cdv A outer s H E e hr => by
    subst e
    exact hb A outer s H E hr
  refine fn_of lk hcd S (fun vs H Q E h => h.1) fun A outer s H vs Q E hr h => ?_
  exact fn_body S h (key _ A outer s H E rfl hr)
end
theorem u64H {k : Nat} {A : Around} (hr : RoomH k A) : A.units + 64 < cLine := by have := hr.un; omega
end DLH

/-! more that is walked and made: range with a step, list(range(n)) -/
namespace DLH
open PySem PySem.Spec PyProof.Rows L2 HotX L2H LamX DL
def iRg3 (fa : Ev → Rx (List LV)) : Ev → Rx (List D) := fun env => (fa env).bind fun xs e1 => match allV xs with
  | some [.int i, .int j, .int c] => if c = -1 ∧ bg i = true ∧ bg j = true then .ok (rngC i (-1) (i - j).toNat) e1 else .no
  | _ => .no
@[simp] theorem iRg3_ap (fa : Ev → Rx (List LV)) (env : Ev) : iRg3 fa env = bdK (fa env) (fun xs e1 => match allV xs with
  | some [.int i, .int j, .int c] => if c = -1 ∧ bg i = true ∧ bg j = true then .ok (rngC i (-1) (i - j).toNat) e1 else .no
  | _ => .no) .mk := nrfl rfl
variable [Tab]
section
variable {X : Cx} {W : WX}
theorem walks_rangeC {K : PySem.W.Frag} {F : Hp} (lo c : Int) (n : Nat) : Walks K F (Itc lo c n) (rngC lo c n) := by
  have hl : (rngC lo c n).length = n := by unfold rngC; rw [List.length_map, List.length_range]
  refine ⟨fun _ => True, (YFn fun i => .int (lo + (i : Nat) * c)), by rw [hl]; exact walk_rangeC, fun _ _ => True.intro, fun i d H x H' F1 hd _ _ y => ⟨F1, .inl ⟨y.1, rfl⟩, ?_⟩⟩
  obtain ⟨_, rfl⟩ := y
  unfold rngC at hd
  rw [List.getElem?_map] at hd
  cases q : (List.range n)[i]? with
  | none => rw [q] at hd; cases hd
  | some k =>
    rw [q] at hd
    cases hd
    obtain ⟨h1, h2⟩ := List.getElem?_eq_some_iff.mp q
    rw [List.getElem_range] at h2
    subst h2
    exact .int _
theorem iok_rg3 {tg a b c : Expr} {p pos : Pos} {fa : Ev → Rx (List LV)} (hg : Gl X "range") (hm : X.mg "range" = none) (ha : AOk X W [a, b, c] fa) (hs : starEach [a, b, c] X.env = (false, eval a X.env) :: starEach [b, c] X.env := by rfl) (hpl : (backTo pos (starEach [b, c] X.env)).any (·.1) = false := by rfl) :
    IOk X W tg (.Call (.Name "range" p) [a, b, c] [] pos) (iRg3 fa) := by
  obtain ⟨t, h1, h2⟩ := ha.ex
  refine ⟨_, pi_range3 hg hm h1 hs hpl, fun c0 σ H F env R S p => h2 c0 σ H F env _ S ?_⟩
  unfold iRg3 at p
  cases q : fa env with
  | er x => rw [q] at p; exact p
  | no => rw [q] at p; exact p.elim
  | ok xs e1 =>
    rw [q] at p
    rw [Rx.bind_ok] at p
    intro H1 F1 S1 s1 vs hvs
    split at p
    · rename_i i j c hj
      split at p
      · rename_i hb
        have r := allV_rp hvs hj
        cases r with
        | cons r1 r2 =>
          cases r2 with
          | cons r2 r3 =>
            cases r3 with
            | cons r3 r4 =>
              cases r4
              cases r1
              cases r2
              cases r3
              obtain ⟨rfl, b1, b2⟩ := hb
              obtain ⟨b1, b1'⟩ := of_decide_eq_true b1
              obtain ⟨b2, b2'⟩ := of_decide_eq_true b2
              exact ⟨i, j, -1, _, rfl, RgC.neg b1 b1' b2 b2', p H1 F1 S1 s1 _ (walks_rangeC _ _ _)⟩
      · exact p.elim
    · exact p.elim
end
end DLH

/-! dicts of constants, tuples that stand in a module -/
namespace DL
open PySem PySem.Spec PyProof.Rows L2
theorem HRp.dcK {K : PySem.W.Frag} {H F : Hp} {v : V} {l : List (Key × D)} (h : HRp K H F v (.dcK l)) (e : Same F H) : ∃ a kvs, v = .ref a ∧ H a = some (.dK kvs) ∧ RpK K F kvs l := by
  rcases h with h | ⟨a, rfl, ow⟩
  · cases h with
    | dcK h r => exact ⟨_, _, rfl, e _ _ h, r⟩
  · generalize q : H a = o at ow
    cases ow with
    | dcK r => exact ⟨a, _, rfl, q, r⟩
def lookK : List (Key × D) → Key → Option D
  | [], _ => none
  | p :: r, k => if p.1 = k then some p.2 else lookK r k
theorem lookK_rp {K : PySem.W.Frag} {F : Hp} {k : Key} : ∀ {kvs : List (Key × V)} {l : List (Key × D)}, RpK K F kvs l → ∀ {d : D}, lookK l k = some d → ∃ v, valV kvs k = some v ∧ Rp K F v d
  | _, _, .nil, d, h => nomatch h
  | _, _, .cons (k := k0) (v := v0) (d := d0) r t, d, h => by
    by_cases e : k0 = k
    · rw [lookK, if_pos e] at h
      cases h
      exact ⟨v0, valV_pos e, r⟩
    · rw [lookK, if_neg e] at h
      obtain ⟨v, h1, h2⟩ := lookK_rp t h
      exact ⟨v, by rw [valV_neg e]; exact h1, h2⟩
def keyD : D → Option Key
  | .int i => some (.inl i)
  | .str x => some (.inr x)
  | _ => none
theorem keyD_rp {K : PySem.W.Frag} {H F : Hp} {v : V} {d : D} {k : Key} (h : HRp K H F v d) (e : keyD d = some k) : v = kV k := by
  unfold keyD at e
  split at e
  · cases e; exact h.int
  · cases e; exact h.str
  · cases e
@[simp] def gDG (x y : D) : Option D := match x, keyD y with
  | .dcK l, some k => lookK l k
  | _, _ => none
def rDG : R2 := fun x y H Q => ∃ a v, x = .ref a ∧ DGet H a y (some v) ∧ Q v H
section
variable [Tab] {X : Cx} {W : WX}
theorem d2_dg : D2 X rDG gDG := d2_val fun H F v w x y z Q hs hv hw hz k => by
  unfold gDG at hz
  split at hz
  · rename_i l kk hk
    obtain ⟨p, kvs, rfl, h1, r⟩ := hv.dcK hs
    have hw2 := keyD_rp hw hk
    subst hw2
    obtain ⟨u, h2, h3⟩ := lookK_rp r hz
    exact ⟨p, u, rfl, .inl ⟨kvs, kk, .inl h1, rfl, h2.symm⟩, k u h3⟩
  · cases hz
theorem eok_dg {a b : Expr} {pos : Pos} {fa fb : Ev → Rx LV} (hu : X.A.units + 1 < cLine) (hs : NoSl b) (ha : EOk X W a fa) (hb : EOk X W b fb) : EOk X W (.Subscript a b pos) (eOp gDG fa fb) :=
  eok_op d2_dg (fun h1 h2 => pe_dget hu h1 h2 hs) ha hb
/-- a dict of ints by constants -/
def eDct (l : List (Key × Int)) : Ev → Rx D := fun env => .ok (.dcK (l.map fun p => (p.1, .int p.2))) env
def trsI (l : List (Key × Int)) : List (TE × TE) := l.map fun p => (tC (kV p.1), tC (.int p.2))
def kvsI (l : List (Key × Int)) : List (Key × V) := l.map fun p => (p.1, .int p.2)
theorem tPairs_I {σ : St} {H : Hp} {Q : List (V × V) → Hp → Prop} : ∀ (l : List (Key × Int)) (acc : List (V × V)), Q (acc ++ l.map fun p => (kV p.1, V.int p.2)) H → tPairs (trsI l) σ H (fun ps H1 => Q (acc ++ ps) H1)
  | [], acc, q => by
    show Q (acc ++ []) H
    simpa using q
  | p :: l, acc, q => by
    show tPairs (trsI l) σ H (fun ps H1 => Q (acc ++ ((kV p.1, V.int p.2) :: ps)) H1)
    have := tPairs_I (σ := σ) (H := H) (Q := Q) l (acc ++ [(kV p.1, V.int p.2)]) (by simpa using q)
    simpa using this
theorem rpK_I {K : PySem.W.Frag} {F : Hp} : ∀ l : List (Key × Int), RpK K F (kvsI l) (l.map fun p => (p.1, D.int p.2))
  | [] => .nil
  | _ :: l => .cons (.int _) (rpK_I l)
theorem fok_dct {keys : List (Option Expr)} {values : List Expr} {pos : Pos} (l : List (Key × Int)) (h : PPs X pos keys values (trsI l)) (hall : keys.all (·.isSome) = true) (hl : keys.length = values.length) (h0 : keys ≠ []) (h15 : keys.length ≤ 15)
    (hm : mergeK [] (kvsI l) = kvsI l) (hl15 : l.length ≤ 15) : FOk X W (.Dict keys values pos) (eDct l) := by
  refine ⟨_, pe_disp h hall hl h0 h15, fun c σ H F env Q S p q hq => ?_⟩
  have key := tPairs_I (σ := σ) (H := upd H q (.dK [])) (Q := fun ps H2 => H2 q = some (.dK []) ∧ ∃ kvs : List (Key × V), ps = kvs.map (fun kv => (kV kv.1, kv.2)) ∧ kvs.length ≤ 15 ∧ Q (.ref q) (upd H2 q (.dK (mergeK [] kvs)))) l [] ⟨upd_same, kvsI l, by
    unfold kvsI
    rw [List.nil_append, List.map_map]
    rfl, by unfold kvsI; rw [List.length_map]; exact hl15, by
    rw [hm, show upd (upd H q (.dK [])) q (.dK (kvsI l)) = upd H q (.dK (kvsI l)) from by
      funext b
      by_cases e : b = q
      · subst e; rw [upd_same, upd_same]
      · rw [upd_ne e, upd_ne e, upd_ne e]]
    obtain ⟨S2, f2⟩ := S.fresh (o := .dK (kvsI l)) hq
    exact p _ _ S2 (Same.refl _) q f2 (by rw [upd_same]; exact .dcK (rpK_I l))⟩
  simpa using key
end
/-! ### tuples that stand in a module -/
mutual
def kD (K : PySem.W.Frag) : D → Value → Bool
  | .int i, .int j _ => decide (i = j)
  | .str x, .str y _ => decide (x = y)
  | .tup l, .ref a => match K.lookup a with
    | some ⟨.type "tuple", _, .seq its _, _⟩ => decide (its.size ≤ 1000) && kDL K l its.toList
    | _ => false
  | _, _ => false
def kDL (K : PySem.W.Frag) : List D → List Value → Bool
  | [], [] => true
  | d :: l, v :: vs => kD K d v && kDL K l vs
  | _, _ => false
end
mutual
theorem kD_rp {K : PySem.W.Frag} {F : Hp} : ∀ {d : D} {u : Value}, kD K d u = true → ∃ v, RelV v u ∧ Rp K F v d
  | .int i, .int j t, h => by
    obtain rfl : i = j := by simpa [kD] using h
    exact ⟨.int i, ⟨t, rfl⟩, .int i⟩
  | .str x, .str y t, h => by
    obtain rfl : x = y := by simpa [kD] using h
    exact ⟨.str x, ⟨t, rfl⟩, .str x⟩
  | .tup l, .ref a, h => by
    unfold kD at h
    split at h
    · rename_i d its n sl hk
      obtain ⟨h1, h2⟩ := (Bool.and_eq_true ..).mp h
      obtain ⟨vs, r1, r2⟩ := kDL_rp (F := F) h2
      refine ⟨.ref a, rfl, .tup (.inr ⟨_, its, n, hk, rfl, rfl, ?_, r1⟩) r2⟩
      have := of_decide_eq_true h1
      rw [sizeLine_eq]
      omega
    · cases h
theorem kDL_rp {K : PySem.W.Frag} {F : Hp} : ∀ {l : List D} {us : List Value}, kDL K l us = true → ∃ vs, Vals vs us ∧ RpL K F vs l
  | [], [], _ => ⟨[], .nil, .nil⟩
  | d :: l, u :: us, h => by
    unfold kDL at h
    obtain ⟨h1, h2⟩ := (Bool.and_eq_true ..).mp h
    obtain ⟨v, r1, r2⟩ := kD_rp (F := F) h1
    obtain ⟨vs, q1, q2⟩ := kDL_rp (F := F) h2
    exact ⟨v :: vs, .cons r1 q1, .cons r2 q2⟩
end
theorem eok_globT [Tab] {X : Cx} {W : WX} {x : Str} {a : Addr} {l : List D} {pos : Pos} (hg : Gl X x) (hm : X.mg x = some (.ref a)) (hk : kD X.K (.tup l) (.ref a) = true) (hd : (x == ("__debug__" : Str)) = false := by decide) : EOk X W (.Name x pos) (eC (.tup l)) :=
  eok_c (pe_glob (v := .ref a) hg hm rfl hd) fun F => by
    obtain ⟨v, r1, r2⟩ := kD_rp (F := F) hk
    cases v with
    | ref b => cases r1; exact r2
    | _ => cases r2
end DL

/-! a text times an int -/
namespace DL
open PySem PySem.Spec PyProof.Rows L2
def rRepS : R2 := fun x y H Q => ∃ z n, x = .str z ∧ y = .int n ∧ z.length ≤ 16 ∧ -1000 ≤ n ∧ n ≤ 1000 ∧ Q (.str (Txt.mul z n)) H
@[simp] def gMulS : D → D → Option D
  | .str z, .int n => if z.length ≤ 16 ∧ -1000 ≤ n ∧ n ≤ 1000 then some (.str (Txt.mul z n)) else none
  | _, _ => none
section
variable [Tab] {X : Cx} {W : WX}
theorem op_repS : OpR X (binaryOp .Mult) rRepS := by
  intro pins s σ H x y v u Q I rx ry h
  obtain ⟨z, n, rfl, rfl, h1, h2, h3, q⟩ := h
  obtain ⟨t, rfl⟩ := rx
  obtain ⟨t', rfl⟩ := ry
  exact SB.mul (mulOk_of 16 1000 h1 h3 (by omega) (by decide) (by decide)) fun t' k => ⟨.str _, H, I.tok _, ⟨_, rfl⟩, q⟩
theorem d2_mulS : D2 X rRepS gMulS := d2_val fun H F v w x y z Q hs hv hw hz k => by
  unfold gMulS at hz
  split at hz
  · split at hz
    · rename_i hc
      cases hz
      exact ⟨_, _, hv.str, hw.int, hc.1, hc.2.1, hc.2.2, k _ (.str _)⟩
    · cases hz
  · cases hz
/-! ### list(range(..)) -/
theorem RpL.maps {K : PySem.W.Frag} {F : Hp} {α : Type} {f : α → V} {g : α → D} (h : ∀ a, Rp K F (f a) (g a)) : ∀ l : List α, RpL K F (l.map f) (l.map g)
  | [] => .nil
  | a :: l => .cons (h a) (RpL.maps h l)
@[simp] def gLR1 : D → Option D
  | .int n => if 0 ≤ n ∧ n ≤ 100000 then some (.lst (rng 0 n.toNat)) else none
  | _ => none
@[simp] def gLR2 : D → D → Option D
  | .int a, .int b => if 0 ≤ a ∧ a ≤ 100000 ∧ 0 ≤ b ∧ b ≤ 100000 then some (.lst (rng a (b - a).toNat)) else none
  | _, _ => none
def rLR2 : R2 := fun x y H Q => ∃ i j, x = .int i ∧ y = .int j ∧ RgOk i j ∧ ∀ q, H q = none → Q (.ref q) (upd H q (.lst (rgV i j)))
theorem d2f_lr2 : D2F X rLR2 gLR2 := fun c σ H F env v w x y z Q S hv hw hz k => by
  unfold gLR2 at hz
  split at hz
  · rename_i a b
    split at hz
    · rename_i hl
      cases hz
      refine ⟨a, b, hv.int, hw.int, RgOk.of_le hl.1 (by omega) (by omega) hl.2.2.1, fun r hr => ?_⟩
      obtain ⟨S2, f2⟩ := S.fresh (o := .lst (rgV a b)) hr
      exact k _ _ _ S2 (Same.refl _) f2 (by rw [upd_same]; exact .lst (RpL.maps (fun _ => .int _) _))
    · cases hz
  · cases hz
theorem fok_lr2 {a b : Expr} {p p2 pos pos2 : Pos} {fa fb : Ev → Rx LV} (hc : X.calm = true) (hg : Gl X "list") (hm : X.mg "list" = none) (hg2 : Gl X "range") (hm2 : X.mg "range" = none) (ha : EOk X W a fa) (hb : EOk X W b fb)
    (na : starEach [a, b] X.env = (false, eval a X.env) :: starEach [b] X.env := by rfl) (nb : starEach [b] X.env = (false, eval b X.env) :: starEach [] X.env := by rfl) (hp : (backTo pos2 (starEach [b] X.env)).any (·.1) = false := by rfl)
    (nc : starEach [Expr.Call (.Name "range" p2) [a, b] [] pos2] X.env = (false, eval (Expr.Call (.Name "range" p2) [a, b] [] pos2) X.env) :: starEach [] X.env := by rfl) :
    FOk X W (.Call (.Name "list" p) [.Call (.Name "range" p2) [a, b] [] pos2] [] pos) (eOpF gLR2 fa fb) :=
  fok_op d2f_lr2 (fun h1 h2 => pe_listRg hc hg hm (prg_2 hg2 hm2 h1 h2 na nb hp) nc) ha hb
/-- with 0 as the lower bound -/
def eLR1 (fa : Ev → Rx LV) : Ev → Rx D := fun env => (fa env).bind fun x e1 => match (rs e1 x).bind gLR1 with
  | some z => .ok z e1
  | none => .no
theorem fok_lr1 {a : Expr} {p p2 pos pos2 : Pos} {fa : Ev → Rx LV} (hc : X.calm = true) (hg : Gl X "list") (hm : X.mg "list" = none) (hg2 : Gl X "range") (hm2 : X.mg "range" = none) (ha : EOk X W a fa)
    (na : starEach [a] X.env = (false, eval a X.env) :: starEach [] X.env := by rfl)
    (nc : starEach [Expr.Call (.Name "range" p2) [a] [] pos2] X.env = (false, eval (Expr.Call (.Name "range" p2) [a] [] pos2) X.env) :: starEach [] X.env := by rfl) :
    FOk X W (.Call (.Name "list" p) [.Call (.Name "range" p2) [a] [] pos2] [] pos) (eLR1 fa) := by
  obtain ⟨ta, a1, a2⟩ := ha.ex
  refine ⟨_, pe_listRg hc hg hm (prg_1 hg2 hm2 a1 na) nc, fun c σ H F env Q S p => ?_⟩
  refine a2 c σ H F env _ S ?_
  unfold eLR1 at p
  cases q : fa env with
  | er x => rw [q] at p; exact p
  | no => rw [q] at p; exact p.elim
  | ok x e1 =>
    rw [q] at p
    rw [Rx.bind_ok] at p
    intro H1 F1 S1 s1 v hv
    cases q2 : rs e1 x with
    | none => rw [q2] at p; exact p.elim
    | some d =>
      rw [q2] at p
      have hd := S1.hrp hv q2
      simp only [Option.bind_some] at p
      cases d with
      | int n =>
        have e := hd.int
        subst e
        unfold gLR1 at p
        by_cases hl : 0 ≤ n ∧ n ≤ 100000
        · simp only [if_pos hl] at p
          refine ⟨n, rfl, RgOk.of_le (by omega) (by omega) (by omega) hl.1, fun r hr => ?_⟩
          obtain ⟨S2, f2⟩ := S1.fresh (o := .lst (rgV 0 n)) hr
          refine p _ _ S2 s1 r f2 ?_
          rw [upd_same]
          have : rng 0 n.toNat = rng 0 (n - 0).toNat := by rw [Int.sub_zero]
          rw [this]
          exact .lst (RpL.maps (fun _ => .int _) _)
        · simp only [if_neg hl] at p; exact p.elim
      | _ => exact p.elim
@[simp] theorem eLR1_ap (fa : Ev → Rx LV) (env : Ev) : eLR1 fa env = (bdK (fa env) (fun x e1 => match (rs e1 x).bind gLR1 with
  | some z => .ok z e1
  | none => .no) .mk) := nrfl rfl
/-! ### sorted(ints) -/
@[simp] def gSortI : List D → Option D
  | [.lst l] => (inL l).map fun ns => .lst ((ns.mergeSort fun a b => decide (a ≤ b)).map .int)
  | _ => none
theorem sort_uniq {ns ns' : List Int} (h : ns'.Perm ns) (hs : ns'.Pairwise (· ≤ ·)) : ns' = ns.mergeSort fun a b => decide (a ≤ b) := by
  have h2 : (ns.mergeSort fun a b => decide (a ≤ b)).Pairwise (· ≤ ·) := (List.pairwise_mergeSort (le := fun a b => decide (a ≤ b)) (fun a b c h1 h2 => decide_eq_true (Int.le_trans (of_decide_eq_true h1) (of_decide_eq_true h2))) (fun a b => by
    simp only [Bool.or_eq_true, decide_eq_true_eq]
    exact Int.le_total a b) ns).imp fun h => of_decide_eq_true h
  exact (h.trans (List.mergeSort_perm ns _).symm).eq_of_pairwise (fun a b _ _ h1 h2 => Int.le_antisymm h1 h2) hs h2
theorem dcf_sortI : DCF X (rSortedI X.K) gSortI := fun c σ H F env vs l z Q S hv hz k => by
  unfold gSortI at hz
  split at hz
  · rename_i l0
    cases q : inL l0 with
    | none => rw [q] at hz; cases hz
    | some ns =>
      rw [q] at hz
      cases hz
      replace hv := p1 hv; obtain ⟨v, rfl, hv⟩ := hv
      obtain ⟨p, ws, rfl, h1, r⟩ := hv.lst S.sub
      have e := inL_eq q
      subst e
      have e2 := RpL.ints r
      subst e2
      refine ⟨p, ns, rfl, .inl (.inl h1), fun ns' r2 hp hs hq => ?_⟩
      rw [sort_uniq hp hs]
      obtain ⟨S4, f4⟩ := S.fresh (o := .lst ((ns.mergeSort fun a b => decide (a ≤ b)).map V.int)) hq
      exact k _ _ _ S4 (Same.refl _) f4 (by rw [upd_same]; exact .lst RpL.of_ints)
  · cases hz
end
end DL

/-! t[::-1], t a tuple -/
namespace DL
open PySem PySem.Spec PyProof.Rows L2 HT
section
variable {prog : Program} {w : World} {A : Around} {E : Value → Shared → Prop} {s : Shared}
theorem adjust_rev (n : Nat) : Builtin.Slice.sliceAdjust none none (-1) (n : Int) = ((n : Int) - 1, -1) := by
  have h1 : ((-1 : Int) < 0) := by omega
  unfold Builtin.Slice.sliceAdjust
  simp only [h1, if_true]
theorem places_rev (n : Nat) : Builtin.Slice.slicePlaces ((n : Int) - 1) (-1) (-1) = n := by
  unfold Builtin.Slice.slicePlaces
  have h1 : ¬ (-1 : Int) > 0 := by omega
  simp only [h1, if_false, Int.neg_neg, Int.ediv_one]
  split <;> omega
theorem sliceApplied_rev {sl : Addr} {vl vu vs : Value} {n : Nat} {Q : Int × Int × Nat → Shared → Prop} (hs : s.heap.IsSliceOf sl vl vu vs) (pl : IsPart vl none) (pu : IsPart vu none) (ps : IsPart vs (some (-1)))
    (h : Q ((n : Int) - 1, -1, n) s) : wpAny (model prog w) A (Builtin.Slice.sliceApplied (.ref sl) (pure (n : Int))) Q E s := by
  obtain ⟨os, hos, hcs, hds⟩ := id hs
  unfold Builtin.Slice.sliceApplied Builtin.Slice.sliceFields
  refine wpAny_bind (wpAny_bind (wpAny_field hos hds (x := vl) rfl (wpAny_bind (wpAny_field hos hds (x := vu) rfl (wpAny_bind (wpAny_field hos hds (x := vs) rfl (wpAny_pure ?_)))))))
  refine wpAny_bind (slicePart_ ps ?_)
  show wpAny _ _ (if ((-1 : Int) == 0) = true then _ else _) _ _ s
  rw [if_neg (by decide)]
  refine wpAny_bind (slicePart_ pl (wpAny_bind (slicePart_ pu (wpAny_bind (wpAny_pure ?_)))))
  show wpAny _ _ (match Builtin.Slice.sliceAdjust none none (-1) (n : Int) with | (lo, hi) => pure (lo, (-1 : Int), Builtin.Slice.slicePlaces lo hi (-1))) _ _ s
  rw [adjust_rev]
  show wpAny _ _ (pure ((n : Int) - 1, (-1 : Int), Builtin.Slice.slicePlaces ((n : Int) - 1) (-1) (-1))) _ _ s
  rw [places_rev]
  exact wpAny_pure h
theorem fm_some {α β : Type} {f : α → Option β} {g : α → β} : ∀ {l : List α}, (∀ m ∈ l, f m = some (g m)) → l.filterMap f = l.map g
  | [], _ => rfl
  | a :: l, h => by rw [List.filterMap_cons, h a (List.mem_cons_self ..), fm_some fun m hm => h m (List.mem_cons_of_mem _ hm)]; rfl
theorem pick_rev (xs : Array Value) : ((List.range xs.size).filterMap fun (m : Nat) => xs[(((xs.size : Nat) : Int) - 1 + (m : Int) * (-1)).toNat]?).toArray = xs.toList.reverse.toArray := by
  congr 1
  have e : ∀ m ∈ List.range xs.size, xs[(((xs.size : Nat) : Int) - 1 + (m : Int) * (-1)).toNat]? = some (xs.toList.reverse.getD m .none) := fun m hm => by
    have hm := List.mem_range.mp hm
    have e1 : (((xs.size : Nat) : Int) - 1 + (m : Int) * (-1)).toNat = xs.size - 1 - m := by omega
    rw [e1, ← Array.getElem?_toList, List.getD_eq_getElem?_getD, List.getElem?_reverse (by rw [Array.length_toList]; exact hm), Array.length_toList, List.getElem?_eq_getElem (by rw [Array.length_toList]; omega)]
    rfl
  rw [fm_some e]
  refine List.ext_getElem? fun i => ?_
  rw [List.getElem?_map]
  by_cases hi : i < xs.size
  · rw [List.getElem?_range hi]
    show some (xs.toList.reverse.getD i .none) = _
    rw [List.getD_eq_getElem?_getD, List.getElem?_eq_getElem (by rw [List.length_reverse, Array.length_toList]; exact hi)]
    rfl
  · rw [List.getElem?_eq_none (by rw [List.length_range]; omega), List.getElem?_eq_none (by rw [List.length_reverse, Array.length_toList]; omega)]
    rfl
theorem getItem_tuple_rev {t sl : Addr} {items : Array Value} {vl vu vs : Value} {Q : Value → Shared → Prop} (ht : IsTup s.heap t items) (hs : s.heap.IsSliceOf sl vl vu vs) (pl : IsPart vl none) (pu : IsPart vu none) (ps : IsPart vs (some (-1)))
    (h : Q (.ref s.heap.objs.size) { s with heap := s.heap.push { cls := .type "tuple", data := .seq items.toList.reverse.toArray } })
    (hsz : items.size ≤ sizeLine) : wpAny (model prog w) A (getItem (.ref t) (.ref sl)) Q E s := by
  have htake : sizeOk (.seq items.toList.reverse.toArray) := by
    show items.toList.reverse.toArray.size ≤ sizeLine
    rw [List.size_toArray, List.length_reverse, Array.length_toList]
    exact hsz
  obtain ⟨os, hos, hcs, hds⟩ := id hs
  have hTs : s.TypeIs (.ref sl) "slice" := ⟨os, hos, hcs⟩
  unfold getItem
  try with_reducible refine wpAny_holding ?_
  first | refine wpAny_bind (wpAny_pure ?_) | skip
  refine wpAny_bind (wpAny_sequenceKey ht.typeIs (by decide) ?_)
  refine wpAny_bind (wpAny_callSpecial?_slot (name := Str.ofString "__getitem__") ht.typeIs PyProof.Rows.slot_tuple_getitem
    (wpAny_call_entry PyProof.Rows.slot_tuple_getitem ht.typeIs entry_tuple_getitem ?_ (args_tuple_getitem _ _)))
  show wpAny _ _ (Builtin.Tuple.tupleItemsOf (.ref t) >>= _) _ _ s
  refine wpAny_bind (tupleItemsOf_ ht ?_)
  refine wpAny_bind (wpAny_typeOf hTs ?_)
  rw [if_pos (by decide)]
  refine wpAny_bind (sliceApplied_rev hs pl pu ps ?_)
  have hno : ¬ ((((items.size : Nat) : Int) - 1 == 0 && (-1 : Int) == 1 && items.size == items.size) = true) := by
    intro q
    rw [Bool.and_eq_true, Bool.and_eq_true] at q
    exact absurd q.1.2 (by decide)
  show wpAny _ _ (if (((items.size : Nat) : Int) - 1 == 0 && (-1 : Int) == 1 && items.size == items.size) = true then _ else _) _ _ s
  rw [if_neg hno, pick_rev]
  first
    | exact wpAny_bind (m := Builtin.Tuple.tupleExact _) (wpAny_newObj_type (wpAny_pure ⟨_, rfl, wpAny_pure h⟩) htake)
    | exact wpAny_bind (m := Builtin.Tuple.tupleExact _) (wpAny_newObj_type (wpAny_bind (wpAny_pure (wpAny_pure ⟨_, rfl, wpAny_pure h⟩))) htake)
    | exact wpAny_bind (wpAny_bind (m := Builtin.Tuple.tupleExact _) (wpAny_newObj_type (wpAny_pure (wpAny_pure ⟨_, rfl, wpAny_pure h⟩)) htake))
    | exact wpAny_bind (wpAny_bind (m := Builtin.Tuple.tupleExact _) (wpAny_newObj_type (wpAny_pure ⟨_, rfl, wpAny_pure h⟩) htake))
end
def tRevT (K : PySem.W.Frag) (te : TE) : TE := fun σ H Q => te σ H fun x H1 => ∃ a xs, x = .ref a ∧ SqT K H1 a xs ∧ ∀ p, H1 p = none → Q (.ref p) (upd H1 p (.tup xs.reverse))
section
variable {X : Cx}
theorem pe_revT {e : Expr} {te : TE} {k : Nat} {p1 p2 p3 pos : Pos} (he : PE X e te) : PE X (.Subscript e (.Slice none none (some (.UnaryOp .USub (.Constant (.int 1) k p1) p2)) p3) pos) (tRevT X.K te) := by
  refine ⟨fun pins s σ H Q I h => ?_⟩
  refine Subscript_ (thn (he.run pins s σ H _ I h) fun v s1 ⟨x, H1, I1, r1, q1⟩ => ?_)
  obtain ⟨a, xs, ex, hx, q⟩ := q1
  subst ex
  cases r1
  have hst : PO X (some (.UnaryOp .USub (.Constant (.int 1) k p1) p2)) (tPart (tUn (rU fun i => .int (-i)) (tC (.int 1)))) := po_some (pe_un un_neg pe_int)
  refine wpAny_Slice (thn (po_none.run pins s1 σ H1 (fun o H2 => o = none ∧ H2 = H1) I1 ⟨rfl, rfl⟩) fun vl s2 ⟨l, H2, I2, pl, el, e2⟩ => ?_)
  subst el e2
  refine thn (po_none.run pins s2 σ H2 (fun o H3 => o = none ∧ H3 = H2) I2 ⟨rfl, rfl⟩) fun vu s3 ⟨u, H3, I3, pu, eu, e3⟩ => ?_
  subst eu e3
  refine thn (hst.run pins s3 σ H3 (fun o H4 => o = some (-1) ∧ H4 = H3) I3 ⟨1, rfl, -1, rfl, rfl, rfl⟩) fun vs s4 ⟨o, H4, I4, ps, eo, e4⟩ => ?_
  subst eo e4
  have I5 : Inv X pins σ H4 { s4 with heap := s4.heap.push { cls := .type "slice", data := .fields #[vl, vu, vs] } } := I4.kept (t' := s4.toks) fun b ob q => Heap.get?_push_of_some _ q
  obtain ⟨its, r, ht, hz⟩ := I5.tuple hx
  have hlen := r.length
  show wpAny (model X.prog X.w) X.A (subscriptTail e (.Slice none none (some (.UnaryOp .USub (.Constant (.int 1) k p1) p2)) p3) (.ref a) (.ref s4.heap.objs.size)) (EP X pins σ Q) X.xe { s4 with heap := s4.heap.push { cls := .type "slice", data := .fields #[vl, vu, vs] } }
  refine tail_any (ops := [.ref a, .ref s4.heap.objs.size]) ht.typeIs (PyProof.Rows.slot_tuple_getitem.lookup) ?_ (by with_unfolding_all rfl)
  refine getItem_tuple_rev ht (Heap.IsSliceOf.new _ vl vu vs) pl pu ps ?_ (by rw [List.size_toArray]; omega)
  refine ⟨.ref _, _, I5.laid (t' := s4.toks) (o := .tup xs.reverse) (fun b ob q => Heap.get?_push_of_some _ q) (Nat.le_refl _) ?_, rfl, q _ (I5.hok.fresh (Nat.le_refl _))⟩
  exact ⟨by rw [List.length_reverse]; exact hz, _, r.reverse, IsTup.new _ _⟩
end
section
variable [Tab] {X : Cx} {W : WX}
def rRevT (K : PySem.W.Frag) : V → Hp → VK → Prop := fun x H Q => ∃ a xs, x = .ref a ∧ SqT K H a xs ∧ ∀ p, H p = none → Q (.ref p) (upd H p (.tup xs.reverse))
@[simp] def gRevT : D → Option D
  | .tup l => some (.tup l.reverse)
  | _ => none
theorem d1_revT : D1 X (rRevT X.K) gRevT := fun c σ H F env v x z Q S hv hz k => by
  unfold gRevT at hz
  split at hz
  · cases hz
    obtain ⟨p, vs, rfl, h1, r⟩ := hv.tup S.sub
    refine ⟨p, vs, rfl, h1, fun q hq => ?_⟩
    have hF : F q = none := S.sub.free hq
    exact k _ _ _ (S.alloc hq) (same_new hF) (.tup (.inl (.inl upd_same)) (r.reverse.mono (same_new hF)))
  · cases hz
theorem eok_revT {e : Expr} {k : Nat} {p1 p2 p3 pos : Pos} {fa : Ev → Rx LV} (ha : EOk X W e fa) : EOk X W (.Subscript e (.Slice none none (some (.UnaryOp .USub (.Constant (.int 1) k p1) p2)) p3) pos) (eUn gRevT fa) :=
  eok_un d1_revT (fun h => pe_revT h) ha
end
end DL

namespace CM
open PySem PySem.Spec PyProof.Rows L2 DL
-- is_integer
def bd_is_integer : Ev → Out :=
 (sRet (eAn (eIsi .int (eVar 0)) (eNt (eIsi .bl (eVar 0)))))
def ev_is_integer : List D → FOut := fnD 1 none false bd_is_integer
-- is_between
def bd_is_between : Ev → Out :=
 (sRet (eAn (eCall none ev_is_integer (aCons (eVar 0) aNil)) (eCh gLe gLe (eVar 1) (eVar 0) (eVar 2))))
def ev_is_between : List D → FOut := fnD 3 none false bd_is_between
-- is_cell
def bd_is_cell : Ev → Out :=
 (sSeq (sIf (tOr (tNt (tE (eIsi .tup (eVar 0)))) (tOr (tE (eOp gNe (eCB gLen (aCons (eVar 0) aNil)) (eC (.int 3)))) (tNt (tE (eCall none ev_is_between (aCons (eOp gIx (eVar 0) (eC (.int 2))) (aCons (eC (.int 0)) (aCons (eOp gSub (eVar 3) (eC (.int 1))) aNil))))))))
 (sRet (eC (.bl false)))
 sNx)
 (sRet (eAn (eCall none ev_is_between (aCons (eOp gIx (eVar 0) (eC (.int 0))) (aCons (eC (.int 0)) (aCons (eOp gSub (eVar 1) (eC (.int 1))) aNil)))) (eCall none ev_is_between (aCons (eOp gIx (eVar 0) (eC (.int 1))) (aCons (eC (.int 0)) (aCons (eOp gSub (eVar 2) (eC (.int 1))) aNil)))))))
def ev_is_cell : List D → FOut := fnD 4 none false bd_is_cell
-- is_pattern
def bd_is_pattern : Ev → Out :=
 (sSeq (sIf (tOr (tNt (tE (eIsi .tup (eVar 0)))) (tE (eOp gNe (eCB gLen (aCons (eVar 0) aNil)) (eOp gMulI (eVar 1) (eVar 2)))))
 (sRet (eC (.bl false)))
 sNx)
 (sSeq (sIf (tNt (tE (eCB gAll (aCons (eFr (eLc (iE (eVar 0)) (gN 4) tYs (eCall none ev_is_cell (aCons (eVar 4) (aCons (eVar 1) (aCons (eVar 2) (aCons (eVar 3) aNil))))) [4])) aNil))))
 (sRet (eC (.bl false)))
 sNx)
 (sRet (eOp gEq (eUn gLenSet (eFr (eLc (iE (eVar 0)) (gN 4) tYs (eSl (eVar 4) oNo (oPt (eC (.int 2)))) [4]))) (eCB gLen (aCons (eVar 0) aNil))))))
def ev_is_pattern : List D → FOut := fnD 5 none false bd_is_pattern
-- a_manner
def bd_a_manner : Ev → Out :=
 (sSeq (sIf (tOr (tNt (tE (eIsi .tup (eVar 0)))) (tOr (tE (eOp gNe (eCB gLen (aCons (eVar 0) aNil)) (eC (.int 3)))) (tNt (tE (eIsi .tup (eOp gIx (eVar 0) (eC (.int 2))))))))
 (sRet (eC (.bl false)))
 sNx)
 (sSeq (sAsg (gT 3 (gsCons (gN 1) (gsCons (gN 2) (gsCons (gN 3) gsNil)))) (eVar 0))
 (sSeq (sIf (tOr (tNt (tE (eCall none ev_is_between (aCons (eVar 1) (aCons (eC (.int 1)) (aCons (eC (.int 3)) aNil)))))) (tOr (tNt (tE (eCall none ev_is_between (aCons (eVar 2) (aCons (eC (.int 1)) (aCons (eC (.int 3)) aNil)))))) (tE (eOp gEq (eOp gMulI (eVar 1) (eVar 2)) (eC (.int 1))))))
 (sRet (eC (.bl false)))
 sNx)
 (sSeq (sIf (tNt (tE (eCh gLe gLe (eC (.int 1)) (eCB gLen (aCons (eVar 3) aNil)) (eC (.int (6))))))
 (sRet (eC (.bl false)))
 sNx)
 (sRet (eCB gAll (aCons (eFr (eLc (iE (eVar 3)) (gN 4) tYs (eCall none ev_is_pattern (aCons (eVar 4) (aCons (eVar 1) (aCons (eVar 2) (aCons (eCB gLen (aCons (eVar 3) aNil)) aNil))))) [4])) aNil)))))))
def ev_a_manner : List D → FOut := fnD 5 none false bd_a_manner
-- need_manner
def bd_need_manner : Ev → Out :=
 (sIf (tNt (tE (eCall none ev_a_manner (aCons (eVar 0) aNil))))
 (sEr "InvalidManner")
 sNx)
def ev_need_manner : List D → FOut := fnD 1 none false bd_need_manner
-- parting
def lp_parting_1 : Ev → Out :=
 (sAf [8, 9, 10] (sSeq (sSet 10 (eOp gIx (eOp gIx (eOp gIx (eVar 1) (eC (.int 2))) (eVar 7)) (eVar 8)))
 (sSeq (sIf (tE (eOp gNe (eSl (eVar 9) oNo (oPt (eC (.int 2)))) (eSl (eVar 10) oNo (oPt (eC (.int 2))))))
 (sRet (eOp gAdd (eVar 5) (eCB gStr1 (aCons (eVar 8) aNil))))
 sNx)
 (sIf (tE (eOp gNin (eTup (aCons (eOp gIx (eVar 9) (eC (.int 2))) (aCons (eOp gIx (eVar 10) (eC (.int 2))) aNil))) (eVar 2)))
 (sSeq (sSet 2 (eOp gAdd (eVar 2) (eFr (eLst (aCons (eTup (aCons (eOp gIx (eVar 9) (eC (.int 2))) (aCons (eOp gIx (eVar 10) (eC (.int 2))) aNil))) aNil)))))
 (sSet 4 (eOp gAdd (eVar 4) (eFr (eLst (aCons (eTup (aCons (eOp gAdd (eVar 5) (eCB gStr1 (aCons (eVar 8) aNil))) (aCons (eOp gIx (eVar 9) (eC (.int 2))) (aCons (eOp gIx (eVar 10) (eC (.int 2))) aNil)))) aNil))))))
 sNx))))
def lp_parting_2 : Ev → Out :=
 (sAf [5, 6, 7, 8, 9, 10] (sFor (iEn (aCons (eOp gIx (eOp gIx (eVar 0) (eC (.int 2))) (eVar 6)) aNil)) (gT 2 (gsCons (gN 8) (gsCons (gN 9) gsNil))) lp_parting_1))
def lp_parting_3_t : Ev → Rx Bool :=
 (tE (eOp gNe (eVar 3) (eFr (eLst aNil))))
def lp_parting_3 : Ev → Out :=
 (sAf [4, 5, 6, 7, 8, 9, 10] (sSeq (sSet 4 (eFr (eLst aNil)))
 (sSeq (sFor (iE (eVar 3)) (gT 3 (gsCons (gN 5) (gsCons (gN 6) (gsCons (gN 7) gsNil)))) lp_parting_2)
 (sSet 3 (eVar 4)))))
def bd_parting : Ev → Out :=
 (sSeq (sIf (tE (eOp gNe (eSl (eVar 0) oNo (oPt (eC (.int 2)))) (eSl (eVar 1) oNo (oPt (eC (.int 2))))))
 (sRet (eC (.str "")))
 sNx)
 (sSeq (sPar 2 3 (aCons (eFr (eLst (aCons (eTup (aCons (eC (.int 0)) (aCons (eC (.int 0)) aNil))) aNil))) (aCons (eFr (eLst (aCons (eTup (aCons (eC (.str "")) (aCons (eC (.int 0)) (aCons (eC (.int 0)) aNil)))) aNil))) aNil)))
 (sSeq (whL lp_parting_3_t lp_parting_3 LIM)
 (sRet (eC .non)))))
def ev_parting : List D → FOut := fnD 11 none false bd_parting
-- are_alike
def bd_are_alike : Ev → Out :=
 (sRet (eOp gIsN (eCall none ev_parting (aCons (eVar 0) (aCons (eVar 1) aNil))) (eC .non)))
def ev_are_alike : List D → FOut := fnD 2 none false bd_are_alike
-- alike
def bd_alike : Ev → Out :=
 (sSeq (sDrop (eCall none ev_need_manner (aCons (eVar 0) aNil)))
 (sSeq (sDrop (eCall none ev_need_manner (aCons (eVar 1) aNil)))
 (sRet (eCall none ev_are_alike (aCons (eVar 0) (aCons (eVar 1) aNil))))))
def ev_alike : List D → FOut := fnD 2 none false bd_alike
-- parting_code
def bd_parting_code : Ev → Out :=
 (sSeq (sDrop (eCall none ev_need_manner (aCons (eVar 0) aNil)))
 (sSeq (sDrop (eCall none ev_need_manner (aCons (eVar 1) aNil)))
 (sRet (eCall none ev_parting (aCons (eVar 0) (aCons (eVar 1) aNil))))))
def ev_parting_code : List D → FOut := fnD 2 none false bd_parting_code
-- _law_source
def bd__law_source : Ev → Out :=
 (sSeq (sSet 2 (eOp gAdd (eOp gMulI (eC (.int 7919)) (eVar 1)) (eC (.int 101))))
 (sSeq (sIf (tE (eOp gLt (eVar 1) (eCB gLen (aCons (eVar 0) aNil))))
 (sSet 2 (eOp gIx (eVar 0) (eVar 1)))
 sNx)
 (sSeq (sSet 3 (eTup (aCons (eC (.int 2147483647)) (aCons (eC (.int 2147483629)) (aCons (eC (.int 2147483587)) (aCons (eC (.int 2147483579)) (aCons (eC (.int 2147483563)) (aCons (eC (.int 2147483549)) (aCons (eC (.int 2147483543)) (aCons (eC (.int 2147483497)) aNil))))))))))
 (sSeq (sSet 4 (eOp gIx (eVar 3) (eOp gMod (eCB gInt1 (aCons (eVar 1) aNil)) (eC (.int 8)))))
 (sSeq (sSet 5 (eOp gMod (eCB gInt1 (aCons (eOp gAdd (eOp gMulI (eOp gMod (eCB gInt1 (aCons (eVar 2) aNil)) (eVar 4)) (eC (.int 48271))) (eOp gMulI (eC (.int 104729)) (eOp gAdd (eVar 1) (eC (.int 1))))) aNil)) (eVar 4)))
 (sSeq (sIf (tE (eOp gGe (eVar 2) (eOp gPow (eC (.int 10)) (eC (.int 18)))))
 (sRetF (eLst (aCons (eCB gInt1 (aCons (eVar 2) aNil)) (aCons (eVar 5) (aCons (eVar 4) aNil)))))
 sNx)
 (sRetF (eLst (aCons (eC (.int 0)) (aCons (eVar 5) (aCons (eVar 4) aNil)))))))))))
def ev__law_source : List D → FOut := fnD 6 none true bd__law_source
-- _law_pick
def bd__law_pick : Ev → Out :=
 (sSeq (sIf (tE (eOp gGt (eOp gIx (eVar 0) (eC (.int 0))) (eC (.int 0))))
 (sSeq (sSet 2 (eOp gMod (eCB gInt1 (aCons (eOp gIx (eVar 0) (eC (.int 0))) aNil)) (eVar 1)))
 (sSeq (sPut 0 (eC (.int 0)) (eOp gDiv (eOp gIx (eVar 0) (eC (.int 0))) (eVar 1)))
 (sRet (eVar 2))))
 sNx)
 (sSeq (sPut 0 (eC (.int 1)) (eOp gMod (eCB gInt1 (aCons (eOp gAdd (eOp gMulI (eOp gIx (eVar 0) (eC (.int 1))) (eC (.int 48271))) (eC (.int 11))) aNil)) (eOp gIx (eVar 0) (eC (.int 2)))))
 (sRet (eOp gMod (eCB gInt1 (aCons (eOp gDiv (eOp gMod (eCB gInt1 (aCons (eOp gMulI (eOp gIx (eVar 0) (eC (.int 1))) (eOp gIx (eVar 0) (eC (.int 1)))) aNil)) (eC (.int 2147483423))) (eC (.int 7))) aNil)) (eVar 1)))))
def ev__law_pick : List D → FOut := fnD 3 (some 0) false bd__law_pick
-- _law_chosen
def bd__law_chosen : Ev → Out :=
 (sRet (eOp gIx (eVar 1) (eCall (some 0) ev__law_pick (aCons (eVar 0) (aCons (eCB gLen (aCons (eVar 1) aNil)) aNil)))))
def ev__law_chosen : List D → FOut := fnD 2 (some 0) false bd__law_chosen
-- _law_shuffled
def lp__law_shuffled_1_t : Ev → Rx Bool :=
 (tE (eOp gNe (eVar 2) (eFr (eLst aNil))))
def lp__law_shuffled_1 : Ev → Out :=
 (sApp 3 (aCons (ePop 2 (aCons (eCall (some 0) ev__law_pick (aCons (eVar 0) (aCons (eCB gLen (aCons (eVar 2) aNil)) aNil))) aNil)) aNil))
def bd__law_shuffled : Ev → Out :=
 (sSeq (sParF 2 3 (eCBF gLst1 (aCons (eVar 1) aNil)) (eLst aNil))
 (sSeq (whL lp__law_shuffled_1_t lp__law_shuffled_1 LIM)
 (sFz 3 (sRet (eVar 3)))))
def ev__law_shuffled : List D → FOut := fnD 4 (some 0) false bd__law_shuffled
-- _law_order
def lp__law_order_1 : Ev → Out :=
 (sAf [5, 6] (sSeq (sFzA 6 (sSetO 6 (eLc (iRg (aCons (eVar 1) aNil)) (gN 7) tYs (eTup (aCons (eVar 7) (aCons (eVar 5) aNil))) [7])))
 (sSet 4 (eOp gAdd (eVar 4) (eIf (tAn (tE (eOp gIn (eVar 3) (eFr (eLst (aCons (eC (.int 1)) (aCons (eC (.int 2)) aNil)))))) (tE (eOp gEq (eOp gMod (eCB gInt1 (aCons (eVar 5) aNil)) (eC (.int 2))) (eC (.int 1))))) (eFr (eUnF gRev (eVar 6))) (eVar 6))))))
def bd__law_order : Ev → Out :=
 (sSeq (sPar 3 4 (aCons (eCall (some 0) ev__law_pick (aCons (eVar 0) (aCons (eC (.int 4)) aNil))) (aCons (eFr (eLst aNil)) aNil)))
 (sSeq (sFor (iRg (aCons (eVar 2) aNil)) (gN 5) lp__law_order_1)
 (sRet (eIf (tE (eOp gEq (eVar 3) (eC (.int 3)))) (eCall (some 0) ev__law_shuffled (aCons (eVar 0) (aCons (eVar 4) aNil))) (eVar 4)))))
def ev__law_order : List D → FOut := fnD 8 (some 0) false bd__law_order
-- _law_chain
def lp__law_chain_1 : Ev → Out :=
 (sAf [6, 7, 8] (sSeq (sSetO 8 (eLc (iE (eVar 3)) (gN 9) tYs (eOp gAdd (eVar 9) (eTup (aCons (eC (.int 0)) aNil))) [9]))
 (sSeq (sPut 8 (eVar 7) (eOp gAdd (eSl (eOp gIx (eVar 8) (eVar 7)) oNo (oPt (eC (.int 2)))) (eTup (aCons (eOp gAdd (eVar 6) (eC (.int 1))) aNil))))
 (sApp 5 (aCons (eCB gTup1 (aCons (eVar 8) aNil)) aNil)))))
def bd__law_chain : Ev → Out :=
 (sSeq (sSetO 5 (eLst aNil))
 (sSeq (sFor (iEn (aCons (eVar 2) aNil)) (gT 2 (gsCons (gN 6) (gsCons (gN 7) gsNil))) lp__law_chain_1)
 (sRet (eTup (aCons (eVar 0) (aCons (eVar 1) (aCons (eOp gAdd (eCB gTup1 (aCons (eVar 5) aNil)) (eTup (aCons (eCB gTup1 (aCons (eFr (eLc (iE (eVar 4)) (gN 9) tYs (eOp gAdd (eVar 9) (eTup (aCons (eC (.int 0)) aNil))) [9])) aNil)) aNil))) aNil)))))))
def ev__law_chain : List D → FOut := fnD 10 none false bd__law_chain
end CM

namespace CM
open PySem PySem.Spec PyProof.Rows L2 DL
-- are_digits
def bd_are_digits : Ev → Out :=
 (sRet (eAn (eIsi .str (eVar 0)) (eCB gAll (aCons (eFr (eLc (iE (eVar 0)) (gN 2) tYs (eOp gIn (eVar 2) (eSl (eC (.str "012345678")) oNo (oPt (eVar 1)))) [2])) aNil))))
def ev_are_digits : List D → FOut := fnD 3 none false bd_are_digits
-- a_code
def bd_a_code : Ev → Out :=
 (sRet (eAn (eCall none ev_are_digits (aCons (eVar 1) (aCons (eOp gMulI (eOp gIx (eVar 0) (eC (.int 0))) (eOp gIx (eVar 0) (eC (.int 1)))) aNil))) (eOp gLe (eCB gLen (aCons (eVar 1) aNil)) (eC (.int (30))))))
def ev_a_code : List D → FOut := fnD 2 none false bd_a_code
-- need_code
def bd_need_code : Ev → Out :=
 (sIf (tNt (tE (eCall none ev_a_code (aCons (eVar 0) (aCons (eVar 1) aNil)))))
 (sEr "InvalidCode")
 sNx)
def ev_need_code : List D → FOut := fnD 2 none false bd_need_code
-- behind
def lp_behind_1 : Ev → Out :=
 (sAf [3] (sSet 2 (eOp gIx (eOp gIx (eOp gIx (eOp gIx (eVar 0) (eC (.int 2))) (eVar 2)) (eCB gInt1 (aCons (eVar 3) aNil))) (eC (.int 2)))))
def bd_behind : Ev → Out :=
 (sSeq (sSet 2 (eC (.int 0)))
 (sSeq (sFor (iE (eVar 1)) (gN 3) lp_behind_1)
 (sRet (eVar 2))))
def ev_behind : List D → FOut := fnD 4 none false bd_behind
-- kinds
def lp_kinds_1_t : Ev → Rx Bool :=
 (tE (eC (.bl true)))
def lp_kinds_1 : Ev → Out :=
 (sAf [2, 3] (sSeq (sSet 2 (eFr (eLc (iEn (aCons (eOp gIx (eVar 0) (eC (.int 2))) aNil)) (gT 2 (gsCons (gN 7) (gsCons (gN 4) gsNil))) tYs (eTup (aCons (eOp gIx (eVar 1) (eVar 7)) (aCons (eFr (eLc (iE (eVar 4)) (gN 6) tYs (eOp gIx (eVar 1) (eOp gIx (eVar 6) (eC (.int 2)))) [6])) aNil))) [7, 4])))
 (sSeq (sFzA 3 (sSetO 3 (eLc (iE (eVar 2)) (gN 8) tYs (eIndex (eVar 2) (aCons (eVar 8) aNil)) [8])))
 (sSeq (sIf (tE (eOp gEq (eVar 3) (eVar 1)))
 (sRet (eVar 1))
 sNx)
 (sSet 1 (eVar 3))))))
def bd_kinds : Ev → Out :=
 (sSeq (sSet 1 (eFr (eLc (iE (eOp gIx (eVar 0) (eC (.int 2)))) (gN 4) tYs (eFr (eLc (iE (eVar 4)) (gN 6) tYs (eSl (eVar 6) oNo (oPt (eC (.int 2)))) [6])) [4])))
 (sSeq (sSet 1 (eFr (eLc (iE (eVar 1)) (gN 5) tYs (eIndex (eVar 1) (aCons (eVar 5) aNil)) [5])))
 (whL lp_kinds_1_t lp_kinds_1 LIM)))
def ev_kinds : List D → FOut := fnD 9 none false bd_kinds
-- rests_alike
def bd_rests_alike : Ev → Out :=
 (sSeq (sDrop (eCall none ev_need_manner (aCons (eVar 0) aNil)))
 (sSeq (sDrop (eCall none ev_need_code (aCons (eVar 0) (aCons (eVar 1) aNil))))
 (sSeq (sDrop (eCall none ev_need_code (aCons (eVar 0) (aCons (eVar 2) aNil))))
 (sSeq (sSet 3 (eCall none ev_kinds (aCons (eVar 0) aNil)))
 (sRet (eOp gEq (eOp gIx (eVar 3) (eCall none ev_behind (aCons (eVar 0) (aCons (eVar 1) aNil)))) (eOp gIx (eVar 3) (eCall none ev_behind (aCons (eVar 0) (aCons (eVar 2) aNil))))))))))
def ev_rests_alike : List D → FOut := fnD 4 none false bd_rests_alike
-- place_in
def lp_place_in_1 : Ev → Out :=
 (sAf [5, 6] (sSeq (sSet 6 (eOp gIx (eOp gIx (eOp gIx (eVar 0) (eC (.int 2))) (eVar 1)) (eCB gInt1 (aCons (eVar 5) aNil))))
 (sMul [3, 4, 1] (mEv [.inl (eOp gAdd (eOp gMulI (eVar 3) (eOp gIx (eVar 0) (eC (.int 0)))) (eOp gIx (eVar 6) (eC (.int 0)))), .inl (eOp gAdd (eOp gMulI (eVar 4) (eOp gIx (eVar 0) (eC (.int 1)))) (eOp gIx (eVar 6) (eC (.int 1)))), .inl (eOp gIx (eVar 6) (eC (.int 2)))]))))
def bd_place_in : Ev → Out :=
 (sSeq (sAsg (gT 2 (gsCons (gN 3) (gsCons (gN 4) gsNil))) (eTup (aCons (eC (.int 0)) (aCons (eC (.int 0)) aNil))))
 (sSeq (sFor (iE (eVar 2)) (gN 5) lp_place_in_1)
 (sRet (eTup (aCons (eVar 3) (aCons (eVar 4) aNil))))))
def ev_place_in : List D → FOut := fnD 7 none false bd_place_in
-- place_of
def bd_place_of : Ev → Out :=
 (sSeq (sDrop (eCall none ev_need_manner (aCons (eVar 0) aNil)))
 (sSeq (sDrop (eCall none ev_need_code (aCons (eVar 0) (aCons (eVar 1) aNil))))
 (sRet (eCall none ev_place_in (aCons (eVar 0) (aCons (eC (.int 0)) (aCons (eVar 1) aNil)))))))
def ev_place_of : List D → FOut := fnD 2 none false bd_place_of
-- _law_power
def lp__law_power_1 : Ev → Out :=
 (sAf [3] (sSet 2 (eOp gMulI (eVar 2) (eVar 0))))
def bd__law_power : Ev → Out :=
 (sSeq (sSet 2 (eC (.int 1)))
 (sSeq (sFor (iRg (aCons (eVar 1) aNil)) (gN 3) lp__law_power_1)
 (sRet (eVar 2))))
def ev__law_power : List D → FOut := fnD 4 none false bd__law_power
-- _law_known
def lp__law_known_1 : Ev → Out :=
 (sAf [0, 11, 12, 13, 14] (sSeq (sSet 12 (eIf (tE (eOp gEq (eVar 8) (eC (.int 1)))) (eOp gSub (eC (.int 2)) (eOp gIx (eVar 11) (eC (.int 0)))) (eOp gIx (eVar 11) (eC (.int 0)))))
 (sSeq (sSet 13 (eIf (tE (eOp gEq (eVar 9) (eC (.int 1)))) (eOp gSub (eC (.int 2)) (eOp gIx (eVar 11) (eC (.int 1)))) (eOp gIx (eVar 11) (eC (.int 1)))))
 (sSeq (sSet 14 (eOp gIx (eFr (eLst (aCons (eFr (eLst (aCons (eC (.int 0)) (aCons (eC (.int 1)) (aCons (eC (.int 2)) (aCons (eC (.int 3)) aNil)))))) (aCons (eFr (eLst (aCons (eC (.int 1)) (aCons (eC (.int 0)) (aCons (eC (.int 3)) (aCons (eC (.int 2)) aNil)))))) (aCons (eFr (eLst (aCons (eC (.int 2)) (aCons (eC (.int 3)) (aCons (eC (.int 0)) (aCons (eC (.int 1)) aNil)))))) (aCons (eFr (eLst (aCons (eC (.int 3)) (aCons (eC (.int 2)) (aCons (eC (.int 1)) (aCons (eC (.int 0)) aNil)))))) aNil)))))) (eOp gAdd (eVar 8) (eOp gMulI (eC (.int 2)) (eVar 9)))))
 (sApp 10 (aCons (eTup (aCons (eVar 12) (aCons (eVar 13) (aCons (eOp gIx (eVar 14) (eVar 0)) aNil)))) aNil))))))
def lp__law_known_2 : Ev → Out :=
 (sAf [0, 8, 9, 10, 11, 12, 13, 14] (sSeq (sSetO 10 (eLst aNil))
 (sSeq (sFor (iZp (aCons (eVar 5) (aCons (eVar 6) aNil))) (gT 2 (gsCons (gN 11) (gsCons (gN 0) gsNil))) lp__law_known_1)
 (sApp 7 (aCons (eCB gTup1 (aCons (eVar 10) aNil)) aNil)))))
def bd__law_known : Ev → Out :=
 (sSeq (sSet 0 (eTup (aCons (eTup (aCons (eC (.int 0)) (aCons (eC (.int 0)) (aCons (eC (.int 1)) aNil)))) (aCons (eTup (aCons (eC (.int 0)) (aCons (eC (.int 1)) (aCons (eC (.int 0)) aNil)))) (aCons (eTup (aCons (eC (.int 1)) (aCons (eC (.int 1)) (aCons (eC (.int 0)) aNil)))) (aCons (eTup (aCons (eC (.int 1)) (aCons (eC (.int 0)) (aCons (eC (.int 2)) aNil)))) aNil))))))
 (sSeq (sSet 1 (eTup (aCons (eTup (aCons (eC (.int 0)) (aCons (eC (.int 0)) (aCons (eC (.int 0)) aNil)))) (aCons (eTup (aCons (eC (.int 1)) (aCons (eC (.int 0)) (aCons (eC (.int 1)) aNil)))) (aCons (eTup (aCons (eC (.int 1)) (aCons (eC (.int 1)) (aCons (eC (.int 1)) aNil)))) (aCons (eTup (aCons (eC (.int 0)) (aCons (eC (.int 1)) (aCons (eC (.int 3)) aNil)))) aNil))))))
 (sSeq (sSet 2 (eTup (aCons (eTup (aCons (eC (.int 1)) (aCons (eC (.int 1)) (aCons (eC (.int 3)) aNil)))) (aCons (eTup (aCons (eC (.int 0)) (aCons (eC (.int 1)) (aCons (eC (.int 2)) aNil)))) (aCons (eTup (aCons (eC (.int 0)) (aCons (eC (.int 0)) (aCons (eC (.int 2)) aNil)))) (aCons (eTup (aCons (eC (.int 1)) (aCons (eC (.int 0)) (aCons (eC (.int 0)) aNil)))) aNil))))))
 (sSeq (sSet 3 (eTup (aCons (eTup (aCons (eC (.int 1)) (aCons (eC (.int 1)) (aCons (eC (.int 2)) aNil)))) (aCons (eTup (aCons (eC (.int 1)) (aCons (eC (.int 0)) (aCons (eC (.int 3)) aNil)))) (aCons (eTup (aCons (eC (.int 0)) (aCons (eC (.int 0)) (aCons (eC (.int 3)) aNil)))) (aCons (eTup (aCons (eC (.int 0)) (aCons (eC (.int 1)) (aCons (eC (.int 1)) aNil)))) aNil))))))
 (sSeq (sSet 4 (eFr (eLst (aCons (eTup (aCons (eC (.int 2)) (aCons (eC (.int 2)) (aCons (eTup (aCons (eVar 0) (aCons (eVar 1) (aCons (eVar 2) (aCons (eVar 3) aNil))))) aNil)))) (aCons (eTup (aCons (eC (.int 1)) (aCons (eC (.int 3)) (aCons (eTup (aCons (eTup (aCons (eTup (aCons (eC (.int 0)) (aCons (eC (.int 0)) (aCons (eC (.int 0)) aNil)))) (aCons (eTup (aCons (eC (.int 0)) (aCons (eC (.int 1)) (aCons (eC (.int 0)) aNil)))) (aCons (eTup (aCons (eC (.int 0)) (aCons (eC (.int 2)) (aCons (eC (.int 0)) aNil)))) aNil)))) aNil)) aNil)))) aNil)))))
 (sSeq (sSet 5 (eFr (eLst (aCons (eTup (aCons (eC (.int 0)) (aCons (eC (.int 0)) aNil))) (aCons (eTup (aCons (eC (.int 0)) (aCons (eC (.int 1)) aNil))) (aCons (eTup (aCons (eC (.int 0)) (aCons (eC (.int 2)) aNil))) (aCons (eTup (aCons (eC (.int 1)) (aCons (eC (.int 2)) aNil))) (aCons (eTup (aCons (eC (.int 1)) (aCons (eC (.int 1)) aNil))) (aCons (eTup (aCons (eC (.int 1)) (aCons (eC (.int 0)) aNil))) (aCons (eTup (aCons (eC (.int 2)) (aCons (eC (.int 0)) aNil))) (aCons (eTup (aCons (eC (.int 2)) (aCons (eC (.int 1)) aNil))) (aCons (eTup (aCons (eC (.int 2)) (aCons (eC (.int 2)) aNil))) aNil))))))))))))
 (sSeq (sParEF 6 7 (eFr (eLst (aCons (eC (.int 0)) (aCons (eC (.int 1)) (aCons (eC (.int 0)) (aCons (eC (.int 2)) (aCons (eC (.int 3)) (aCons (eC (.int 2)) (aCons (eC (.int 0)) (aCons (eC (.int 1)) (aCons (eC (.int 0)) aNil))))))))))) (eLst aNil))
 (sSeq (sFor (iE (eFr (eLst (aCons (eTup (aCons (eC (.int 0)) (aCons (eC (.int 0)) aNil))) (aCons (eTup (aCons (eC (.int 1)) (aCons (eC (.int 0)) aNil))) (aCons (eTup (aCons (eC (.int 0)) (aCons (eC (.int 1)) aNil))) (aCons (eTup (aCons (eC (.int 1)) (aCons (eC (.int 1)) aNil))) aNil))))))) (gT 2 (gsCons (gN 8) (gsCons (gN 9) gsNil))) lp__law_known_2)
 (sRet (eOp gAdd (eVar 4) (eFr (eLst (aCons (eTup (aCons (eC (.int 3)) (aCons (eC (.int 3)) (aCons (eCB gTup1 (aCons (eVar 7) aNil)) aNil)))) (aCons (eTup (aCons (eC (.int 2)) (aCons (eC (.int 1)) (aCons (eTup (aCons (eTup (aCons (eTup (aCons (eC (.int 0)) (aCons (eC (.int 0)) (aCons (eC (.int 0)) aNil)))) (aCons (eTup (aCons (eC (.int 1)) (aCons (eC (.int 0)) (aCons (eC (.int 1)) aNil)))) aNil))) (aCons (eTup (aCons (eTup (aCons (eC (.int 0)) (aCons (eC (.int 0)) (aCons (eC (.int 1)) aNil)))) (aCons (eTup (aCons (eC (.int 1)) (aCons (eC (.int 0)) (aCons (eC (.int 0)) aNil)))) aNil))) aNil))) aNil)))) aNil))))))))))))))
def ev__law_known : List D → FOut := fnD 15 none false bd__law_known
-- _law_with
def bd__law_with : Ev → Out :=
 (sSeq (sSet 4 (eOp gIx (eOp gIx (eVar 0) (eC (.int 2))) (eVar 1)))
 (sSeq (sSet 5 (eOp gAdd (eOp gAdd (eSl (eVar 4) oNo (oPt (eVar 2))) (eTup (aCons (eOp gAdd (eSl (eOp gIx (eVar 4) (eVar 2)) oNo (oPt (eC (.int 2)))) (eTup (aCons (eVar 3) aNil))) aNil))) (eSl (eVar 4) (oPt (eOp gAdd (eVar 2) (eC (.int 1)))) oNo)))
 (sRet (eOp gAdd (eSl (eVar 0) oNo (oPt (eC (.int 2)))) (eTup (aCons (eOp gAdd (eOp gAdd (eSl (eOp gIx (eVar 0) (eC (.int 2))) oNo (oPt (eVar 1))) (eTup (aCons (eVar 5) aNil))) (eSl (eOp gIx (eVar 0) (eC (.int 2))) (oPt (eOp gAdd (eVar 1) (eC (.int 1)))) oNo)) aNil))))))
def ev__law_with : List D → FOut := fnD 6 none false bd__law_with
-- _law_near
def bd__law_near : Ev → Out :=
 (sSeq (sPar 2 3 (aCons (eCall (some 0) ev__law_pick (aCons (eVar 0) (aCons (eCB gLen (aCons (eOp gIx (eVar 1) (eC (.int 2))) aNil)) aNil))) (aCons (eCall (some 0) ev__law_pick (aCons (eVar 0) (aCons (eOp gMulI (eOp gIx (eVar 1) (eC (.int 0))) (eOp gIx (eVar 1) (eC (.int 1)))) aNil))) aNil)))
 (sRet (eCall none ev__law_with (aCons (eVar 1) (aCons (eVar 2) (aCons (eVar 3) (aCons (eCall (some 0) ev__law_pick (aCons (eVar 0) (aCons (eCB gLen (aCons (eOp gIx (eVar 1) (eC (.int 2))) aNil)) aNil))) aNil)))))))
def ev__law_near : List D → FOut := fnD 4 (some 0) false bd__law_near
-- _law_manner
def lp__law_manner_1 : Ev → Out :=
 (sAf [8] (sSeq (sSet 7 (eIf (tE (eOp gEq (eCall (some 0) ev__law_pick (aCons (eVar 0) (aCons (eC (.int 2)) aNil))) (eC (.int 0)))) (eVar 7) (eCall (some 0) ev__law_order (aCons (eVar 0) (aCons (eVar 3) (aCons (eVar 4) aNil))))))
 (sApp 6 (aCons (eCB gTup1 (aCons (eFr (eLc (iE (eVar 7)) (gN 10) tYs (eOp gAdd (eVar 10) (eTup (aCons (eCall (some 0) ev__law_pick (aCons (eVar 0) (aCons (eVar 5) aNil))) aNil))) [10])) aNil)) aNil))))
def bd__law_manner : Ev → Out :=
 (sSeq (sSet 1 (eCall (some 0) ev__law_pick (aCons (eVar 0) (aCons (eC (.int 6)) aNil))))
 (sSeq (sIf (tE (eOp gLt (eVar 1) (eC (.int 2))))
 (sSeq (sSet 9 (eCall (some 0) ev__law_chosen (aCons (eVar 0) (aCons (eCall0 ev__law_known) aNil))))
 (sRet (eIf (tE (eOp gEq (eVar 1) (eC (.int 0)))) (eVar 9) (eCall (some 0) ev__law_near (aCons (eVar 0) (aCons (eVar 9) aNil))))))
 sNx)
 (sSeq (sSet 2 (eFr (eLst (aCons (eTup (aCons (eC (.int 2)) (aCons (eC (.int 2)) aNil))) (aCons (eTup (aCons (eC (.int 2)) (aCons (eC (.int 2)) aNil))) (aCons (eTup (aCons (eC (.int 1)) (aCons (eC (.int 2)) aNil))) (aCons (eTup (aCons (eC (.int 2)) (aCons (eC (.int 1)) aNil))) (aCons (eTup (aCons (eC (.int 3)) (aCons (eC (.int 3)) aNil))) (aCons (eTup (aCons (eC (.int 3)) (aCons (eC (.int 2)) aNil))) (aCons (eTup (aCons (eC (.int 2)) (aCons (eC (.int 3)) aNil))) (aCons (eTup (aCons (eC (.int 1)) (aCons (eC (.int 3)) aNil))) (aCons (eTup (aCons (eC (.int 3)) (aCons (eC (.int 1)) aNil))) aNil))))))))))))
 (sSeq (sAsg (gT 2 (gsCons (gN 3) (gsCons (gN 4) gsNil))) (eCall (some 0) ev__law_chosen (aCons (eVar 0) (aCons (eVar 2) aNil))))
 (sSeq (sMul [5, 6, 7] (mEv [.inl (eOp gAdd (eC (.int 1)) (eCall (some 0) ev__law_pick (aCons (eVar 0) (aCons (eC (.int 4)) aNil)))), .inr (eLst aNil), .inl (eCall (some 0) ev__law_order (aCons (eVar 0) (aCons (eVar 3) (aCons (eVar 4) aNil))))]))
 (sSeq (sFor (iRg (aCons (eVar 5) aNil)) (gN 8) lp__law_manner_1)
 (sRet (eTup (aCons (eVar 3) (aCons (eVar 4) (aCons (eCB gTup1 (aCons (eVar 6) aNil)) aNil)))))))))))
def ev__law_manner : List D → FOut := fnD 11 (some 0) false bd__law_manner
-- _law_any_code
def bd__law_any_code : Ev → Out :=
 (sRet (eJoin (eC (.str "")) (eFr (eLc (iRg (aCons (eVar 2) aNil)) (gN 3) tYs (eCB gStr1 (aCons (eCall (some 0) ev__law_pick (aCons (eVar 0) (aCons (eOp gMulI (eOp gIx (eVar 1) (eC (.int 0))) (eOp gIx (eVar 1) (eC (.int 1)))) aNil))) aNil)) [3]))))
def ev__law_any_code : List D → FOut := fnD 4 (some 0) false bd__law_any_code
-- _law_behind
def lp__law_behind_1 : Ev → Out :=
 (sAf [3] (sSet 2 (eOp gIx (eOp gIx (eOp gIx (eOp gIx (eVar 0) (eC (.int 2))) (eVar 2)) (eCB gInt1 (aCons (eVar 3) aNil))) (eC (.int 2)))))
def bd__law_behind : Ev → Out :=
 (sSeq (sSet 2 (eC (.int 0)))
 (sSeq (sFor (iE (eVar 1)) (gN 3) lp__law_behind_1)
 (sRet (eVar 2))))
def ev__law_behind : List D → FOut := fnD 4 none false bd__law_behind
-- _law_same_rests
def lp__law_same_rests_1 : Ev → Out :=
 (sAf [9, 10] (sSeq (sIf (tE (eOp gNe (eSl (eVar 9) oNo (oPt (eC (.int 2)))) (eSl (eVar 10) oNo (oPt (eC (.int 2))))))
 (sRet (eC (.bl false)))
 sNx)
 (sIf (tE (eOp gNin (eTup (aCons (eOp gIx (eVar 9) (eC (.int 2))) (aCons (eOp gIx (eVar 10) (eC (.int 2))) aNil))) (eVar 6)))
 (sApp 6 (aCons (eTup (aCons (eOp gIx (eVar 9) (eC (.int 2))) (aCons (eOp gIx (eVar 10) (eC (.int 2))) aNil))) aNil))
 sNx)))
def lp__law_same_rests_2 : Ev → Out :=
 (sAf [7, 8, 9, 10] (sFor (iZp (aCons (eOp gIx (eOp gIx (eVar 0) (eC (.int 2))) (eVar 7)) (aCons (eOp gIx (eOp gIx (eVar 0) (eC (.int 2))) (eVar 8)) aNil))) (gT 2 (gsCons (gN 9) (gsCons (gN 10) gsNil))) lp__law_same_rests_1))
def lp__law_same_rests_3 : Ev → Out :=
 (sAf [5, 6, 7, 8, 9, 10] (sSeq (sSetO 6 (eLst aNil))
 (sSeq (sFor (iE (eVar 4)) (gT 2 (gsCons (gN 7) (gsCons (gN 8) gsNil))) lp__law_same_rests_2)
 (sFz 6 (sSet 4 (eVar 6))))))
def bd__law_same_rests : Ev → Out :=
 (sSeq (sSet 4 (eFr (eLst (aCons (eTup (aCons (eVar 1) (aCons (eVar 2) aNil))) aNil))))
 (sSeq (sFor (iRg (aCons (eVar 3) aNil)) (gN 5) lp__law_same_rests_3)
 (sRet (eC (.bl true)))))
def ev__law_same_rests : List D → FOut := fnD 11 none false bd__law_same_rests
-- _law_doubled
def lp__law_doubled_1 : Ev → Out :=
 (sAf [6, 7] (sSeq (sSet 7 (eAn (eOp gEq (eOp gIx (eVar 6) (eC (.int 2))) (eVar 2)) (eOp gEq (eCall (some 0) ev__law_pick (aCons (eVar 0) (aCons (eC (.int 2)) aNil))) (eC (.int 0)))))
 (sApp 5 (aCons (eOp gAdd (eSl (eVar 6) oNo (oPt (eC (.int 2)))) (eTup (aCons (eIf (tE (eVar 7)) (eCB gLen (aCons (eOp gIx (eVar 1) (eC (.int 2))) aNil)) (eOp gIx (eVar 6) (eC (.int 2)))) aNil))) aNil))))
def lp__law_doubled_2 : Ev → Out :=
 (sAf [4, 5, 6, 7] (sSeq (sSetO 5 (eLst aNil))
 (sSeq (sFor (iE (eVar 4)) (gN 6) lp__law_doubled_1)
 (sApp 3 (aCons (eCB gTup1 (aCons (eVar 5) aNil)) aNil)))))
def bd__law_doubled : Ev → Out :=
 (sSeq (sIf (tE (eOp gGt (eCB gLen (aCons (eOp gIx (eVar 1) (eC (.int 2))) aNil)) (eC (.int 5))))
 (sRet (eVar 1))
 sNx)
 (sSeq (sParEF 2 3 (eCall (some 0) ev__law_pick (aCons (eVar 0) (aCons (eCB gLen (aCons (eOp gIx (eVar 1) (eC (.int 2))) aNil)) aNil))) (eLst aNil))
 (sSeq (sFor (iE (eOp gAdd (eOp gIx (eVar 1) (eC (.int 2))) (eTup (aCons (eOp gIx (eOp gIx (eVar 1) (eC (.int 2))) (eVar 2)) aNil)))) (gN 4) lp__law_doubled_2)
 (sRet (eOp gAdd (eSl (eVar 1) oNo (oPt (eC (.int 2)))) (eTup (aCons (eCB gTup1 (aCons (eVar 3) aNil)) aNil)))))))
def ev__law_doubled : List D → FOut := fnD 8 (some 0) false bd__law_doubled
end CM

namespace CM
open PySem PySem.Spec PyProof.Rows L2 DL DLH
-- need_depth
def bd_need_depth : Ev → Out :=
 (sIf (tNt (tE (eCall none ev_is_between (aCons (eVar 0) (aCons (eC (.int 0)) (aCons (eC (.int (30))) aNil))))))
 (sEr "InvalidDepth")
 sNx)
def ev_need_depth : List D → FOut := fnD 1 none false bd_need_depth
-- power
def lp_power_1 : Ev → Out :=
 (sAf [3] (sSet 2 (eOp gMulI (eVar 2) (eVar 0))))
def bd_power : Ev → Out :=
 (sSeq (sSet 2 (eC (.int 1)))
 (sSeq (sFor (iRg (aCons (eVar 1) aNil)) (gN 3) lp_power_1)
 (sRet (eVar 2))))
def ev_power : List D → FOut := fnD 4 none false bd_power
-- sides
def bd_sides : Ev → Out :=
 (sRet (eTup (aCons (eCall none ev_power (aCons (eOp gIx (eVar 0) (eC (.int 0))) (aCons (eVar 1) aNil))) (aCons (eCall none ev_power (aCons (eOp gIx (eVar 0) (eC (.int 1))) (aCons (eVar 1) aNil))) aNil))))
def ev_sides : List D → FOut := fnD 2 none false bd_sides
-- box_of
def bd_box_of : Ev → Out :=
 (sSeq (sDrop (eCall none ev_need_manner (aCons (eVar 0) aNil)))
 (sSeq (sDrop (eCall none ev_need_depth (aCons (eVar 1) aNil)))
 (sSeq (sDrop (eCall none ev_need_code (aCons (eVar 0) (aCons (eVar 2) aNil))))
 (sSeq (sIf (tE (eOp gGt (eCB gLen (aCons (eVar 2) aNil)) (eVar 1)))
 (sEr "InvalidCode")
 sNx)
 (sSeq (sAsg (gT 2 (gsCons (gN 3) (gsCons (gN 4) gsNil))) (eCall none ev_sides (aCons (eVar 0) (aCons (eOp gSub (eVar 1) (eCB gLen (aCons (eVar 2) aNil))) aNil))))
 (sSeq (sAsg (gT 2 (gsCons (gN 5) (gsCons (gN 6) gsNil))) (eCall none ev_place_in (aCons (eVar 0) (aCons (eC (.int 0)) (aCons (eVar 2) aNil)))))
 (sRet (eTup (aCons (eOp gMulI (eVar 5) (eVar 3)) (aCons (eOp gMulI (eVar 6) (eVar 4)) (aCons (eOp gSub (eOp gAdd (eOp gMulI (eVar 5) (eVar 3)) (eVar 3)) (eC (.int 1))) (aCons (eOp gSub (eOp gAdd (eOp gMulI (eVar 6) (eVar 4)) (eVar 4)) (eC (.int 1))) aNil))))))))))))
def ev_box_of : List D → FOut := fnD 7 none false bd_box_of
-- _law_place_by
def lp__law_place_by_1 : Ev → Out :=
 (sAf [4, 8, 9, 10] (sSeq (sAsg (gT 3 (gsCons (gN 8) (gsCons (gN 9) (gsCons (gN 10) gsNil)))) (eOp gIx (eOp gIx (eOp gIx (eVar 0) (eC (.int 2))) (eVar 1)) (eCB gInt1 (aCons (eVar 4) aNil))))
 (sSeq (sApp 3 (aCons (eTup (aCons (eVar 8) (aCons (eVar 9) aNil))) aNil))
 (sSet 1 (eVar 10)))))
def lp__law_place_by_2 : Ev → Out :=
 (sAf [8, 9] (sSeq (sSet 5 (eTup (aCons (eOp gAdd (eOp gIx (eVar 5) (eC (.int 0))) (eOp gMulI (eVar 8) (eVar 6))) (aCons (eOp gAdd (eOp gIx (eVar 5) (eC (.int 1))) (eOp gMulI (eVar 9) (eVar 7))) aNil))))
 (sPar 6 7 (aCons (eOp gMulI (eVar 6) (eOp gIx (eVar 0) (eC (.int 0)))) (aCons (eOp gMulI (eVar 7) (eOp gIx (eVar 0) (eC (.int 1)))) aNil)))))
def bd__law_place_by : Ev → Out :=
 (sSeq (sSetO 3 (eLst aNil))
 (sSeq (sFor (iE (eVar 2)) (gN 4) lp__law_place_by_1)
 (sSeq (sAsg (gT 3 (gsCons (gN 5) (gsCons (gN 6) (gsCons (gN 7) gsNil)))) (eTup (aCons (eTup (aCons (eC (.int 0)) (aCons (eC (.int 0)) aNil))) (aCons (eC (.int 1)) (aCons (eC (.int 1)) aNil)))))
 (sSeq (sFor (iE (eFr (eUnF gRev (eVar 3)))) (gT 2 (gsCons (gN 8) (gsCons (gN 9) gsNil))) lp__law_place_by_2)
 (sRet (eVar 5))))))
def ev__law_place_by : List D → FOut := fnD 11 none false bd__law_place_by
-- _law_place
def bd__law_place : Ev → Out :=
 (sRet (eCall none ev__law_place_by (aCons (eVar 0) (aCons (eC (.int 0)) (aCons (eVar 1) aNil)))))
def ev__law_place : List D → FOut := fnD 2 none false bd__law_place
-- _law_number
def lp__law_number_1 : Ev → Out :=
 (sAf [3] (sSet 2 (eOp gAdd (eOp gMulI (eVar 2) (eOp gMulI (eOp gIx (eVar 0) (eC (.int 0))) (eOp gIx (eVar 0) (eC (.int 1))))) (eCB gInt1 (aCons (eVar 3) aNil)))))
def bd__law_number : Ev → Out :=
 (sSeq (sSet 2 (eC (.int 0)))
 (sSeq (sFor (iE (eVar 1)) (gN 3) lp__law_number_1)
 (sRet (eVar 2))))
def ev__law_number : List D → FOut := fnD 4 none false bd__law_number
-- is_pair
def bd_is_pair : Ev → Out :=
 (sRet (eAn (eIsi .tup (eVar 0)) (eAn (eOp gEq (eCB gLen (aCons (eVar 0) aNil)) (eC (.int 2))) (eCB gAll (aCons (eFr (eLc (iE (eVar 0)) (gN 1) tYs (eCall none ev_is_integer (aCons (eVar 1) aNil)) [1])) aNil)))))
def ev_is_pair : List D → FOut := fnD 2 none false bd_is_pair
-- is_place
def bd_is_place : Ev → Out :=
 (sRet (eAn (eCall none ev_is_pair (aCons (eVar 0) aNil)) (eAn (eCh gLe gLt (eC (.int 0)) (eOp gIx (eVar 0) (eC (.int 0))) (eVar 1)) (eCh gLe gLt (eC (.int 0)) (eOp gIx (eVar 0) (eC (.int 1))) (eVar 2)))))
def ev_is_place : List D → FOut := fnD 3 none false bd_is_place
-- need_place
def bd_need_place : Ev → Out :=
 (sIf (tNt (tE (eCall none ev_is_place (aCons (eVar 0) (aCons (eVar 1) (aCons (eVar 2) aNil))))))
 (sEr "InvalidPlace")
 sNx)
def ev_need_place : List D → FOut := fnD 3 none false bd_need_place
-- code_in
def lp_code_in_1 : Ev → Out :=
 (sAf [7, 8, 9, 10, 11, 12] (sSeq (sAsg (gT 2 (gsCons (gN 8) (gsCons (gN 9) gsNil))) (eCall none ev_sides (aCons (eVar 0) (aCons (eVar 7) aNil))))
 (sSeq (sSet 10 (eTup (aCons (eOp gDiv (eVar 3) (eVar 8)) (aCons (eOp gDiv (eVar 4) (eVar 9)) aNil))))
 (sSeq (sPar 3 4 (aCons (eOp gMod (eVar 3) (eVar 8)) (aCons (eOp gMod (eVar 4) (eVar 9)) aNil)))
 (sSeq (sSet 11 (eOp gIx (eOp gIx (eVar 0) (eC (.int 2))) (eVar 5)))
 (sSeq (sSet 12 (eOp gIx (eFr (eLc (iEn (aCons (eVar 11) aNil)) (gT 2 (gsCons (gN 13) (gsCons (gN 14) gsNil))) (tE (eOp gEq (eSl (eVar 14) oNo (oPt (eC (.int 2)))) (eVar 10))) (eVar 13) [13, 14])) (eC (.int 0))))
 (sPar 5 6 (aCons (eOp gIx (eOp gIx (eVar 11) (eVar 12)) (eC (.int 2))) (aCons (eOp gAdd (eVar 6) (eCB gStr1 (aCons (eVar 12) aNil))) aNil)))))))))
def bd_code_in : Ev → Out :=
 (sSeq (sAsg (gT 2 (gsCons (gN 3) (gsCons (gN 4) gsNil))) (eVar 2))
 (sSeq (sAsg (gT 2 (gsCons (gN 5) (gsCons (gN 6) gsNil))) (eTup (aCons (eC (.int 0)) (aCons (eC (.str "")) aNil))))
 (sSeq (sFor (iRg3 (aCons (eOp gSub (eVar 1) (eC (.int 1))) (aCons (eUn gNeg (eC (.int 1))) (aCons (eUn gNeg (eC (.int 1))) aNil)))) (gN 7) lp_code_in_1)
 (sRet (eVar 6)))))
def ev_code_in : List D → FOut := fnD 15 none false bd_code_in
-- code_of
def bd_code_of : Ev → Out :=
 (sSeq (sDrop (eCall none ev_need_manner (aCons (eVar 0) aNil)))
 (sSeq (sDrop (eCall none ev_need_depth (aCons (eVar 1) aNil)))
 (sSeq (sAsg (gT 2 (gsCons (gN 3) (gsCons (gN 4) gsNil))) (eCall none ev_sides (aCons (eVar 0) (aCons (eVar 1) aNil))))
 (sSeq (sDrop (eCall none ev_need_place (aCons (eVar 2) (aCons (eVar 3) (aCons (eVar 4) aNil)))))
 (sRet (eCall none ev_code_in (aCons (eVar 0) (aCons (eVar 1) (aCons (eVar 2) aNil)))))))))
def ev_code_of : List D → FOut := fnD 5 none false bd_code_of
-- _law_table
def lp__law_table_1 : Ev → Out :=
 (sAf [9, 10, 11] (sSet 8 (eOp gAdd (eVar 8) (eFr (eLc (iE (eOp gIx (eVar 2) (eVar 11))) (gT 2 (gsCons (gN 12) (gsCons (gN 13) gsNil))) tYs (eTup (aCons (eOp gAdd (eOp gMulI (eVar 9) (eVar 3)) (eVar 12)) (aCons (eOp gAdd (eOp gMulI (eVar 10) (eVar 4)) (eVar 13)) aNil))) [12, 13])))))
def lp__law_table_2 : Ev → Out :=
 (sAf [7, 8, 9, 10, 11] (sSeq (sSet 8 (eFr (eLst aNil)))
 (sSeq (sFor (iE (eVar 7)) (gT 3 (gsCons (gN 9) (gsCons (gN 10) (gsCons (gN 11) gsNil)))) lp__law_table_1)
 (sApp 6 (aCons (eVar 8) aNil)))))
def lp__law_table_3 : Ev → Out :=
 (sAf [5, 6, 7, 8, 9, 10, 11] (sSeq (sSetO 6 (eLst aNil))
 (sSeq (sFor (iE (eOp gIx (eVar 0) (eC (.int 2)))) (gN 7) lp__law_table_2)
 (sFz 6 (sAsg (gT 3 (gsCons (gN 2) (gsCons (gN 3) (gsCons (gN 4) gsNil)))) (eTup (aCons (eVar 6) (aCons (eOp gMulI (eVar 3) (eOp gIx (eVar 0) (eC (.int 0)))) (aCons (eOp gMulI (eVar 4) (eOp gIx (eVar 0) (eC (.int 1)))) aNil)))))))))
def bd__law_table : Ev → Out :=
 (sSeq (sAsg (gT 3 (gsCons (gN 2) (gsCons (gN 3) (gsCons (gN 4) gsNil)))) (eTup (aCons (eFr (eLc (iE (eOp gIx (eVar 0) (eC (.int 2)))) (gN 7) tYs (eFr (eLst (aCons (eTup (aCons (eC (.int 0)) (aCons (eC (.int 0)) aNil))) aNil))) [7])) (aCons (eC (.int 1)) (aCons (eC (.int 1)) aNil)))))
 (sSeq (sFor (iRg (aCons (eVar 1) aNil)) (gN 5) lp__law_table_3)
 (sRet (eOp gIx (eVar 2) (eC (.int 0))))))
def ev__law_table : List D → FOut := fnD 14 none false bd__law_table
-- size_of
def bd_size_of : Ev → Out :=
 (sRet (eOp gMulI (eOp gIx (eVar 0) (eC (.int 0))) (eOp gIx (eVar 0) (eC (.int 1)))))
def ev_size_of : List D → FOut := fnD 1 none false bd_size_of
-- number_in
def lp_number_in_1 : Ev → Out :=
 (sAf [3] (sSet 2 (eOp gAdd (eOp gMulI (eVar 2) (eCall none ev_size_of (aCons (eVar 0) aNil))) (eCB gInt1 (aCons (eVar 3) aNil)))))
def bd_number_in : Ev → Out :=
 (sSeq (sSet 2 (eC (.int 0)))
 (sSeq (sFor (iE (eVar 1)) (gN 3) lp_number_in_1)
 (sRet (eVar 2))))
def ev_number_in : List D → FOut := fnD 4 none false bd_number_in
-- number_of
def bd_number_of : Ev → Out :=
 (sSeq (sDrop (eCall none ev_need_manner (aCons (eVar 0) aNil)))
 (sSeq (sDrop (eCall none ev_need_code (aCons (eVar 0) (aCons (eVar 1) aNil))))
 (sRet (eCall none ev_number_in (aCons (eVar 0) (aCons (eVar 1) aNil))))))
def ev_number_of : List D → FOut := fnD 2 none false bd_number_of
-- need_number
def bd_need_number : Ev → Out :=
 (sIf (tNt (tE (eCall none ev_is_between (aCons (eVar 0) (aCons (eVar 1) (aCons (eVar 2) aNil))))))
 (sEr "InvalidNumber")
 sNx)
def ev_need_number : List D → FOut := fnD 3 none false bd_need_number
-- code_for
def lp_code_for_1 : Ev → Out :=
 (sAf [4] (sPar 3 2 (aCons (eOp gAdd (eCB gStr1 (aCons (eOp gMod (eVar 2) (eCall none ev_size_of (aCons (eVar 0) aNil))) aNil)) (eVar 3)) (aCons (eOp gDiv (eVar 2) (eCall none ev_size_of (aCons (eVar 0) aNil))) aNil))))
def bd_code_for : Ev → Out :=
 (sSeq (sSet 3 (eC (.str "")))
 (sSeq (sFor (iRg (aCons (eVar 1) aNil)) (gN 4) lp_code_for_1)
 (sRet (eVar 3))))
def ev_code_for : List D → FOut := fnD 5 none false bd_code_for
-- all_cells
def bd_all_cells : Ev → Out :=
 (sRet (eCall none ev_power (aCons (eCall none ev_size_of (aCons (eVar 0) aNil)) (aCons (eVar 1) aNil))))
def ev_all_cells : List D → FOut := fnD 2 none false bd_all_cells
-- code_at
def bd_code_at : Ev → Out :=
 (sSeq (sDrop (eCall none ev_need_manner (aCons (eVar 0) aNil)))
 (sSeq (sDrop (eCall none ev_need_depth (aCons (eVar 1) aNil)))
 (sSeq (sDrop (eCall none ev_need_number (aCons (eVar 2) (aCons (eC (.int 0)) (aCons (eOp gSub (eCall none ev_all_cells (aCons (eVar 0) (aCons (eVar 1) aNil))) (eC (.int 1))) aNil)))))
 (sRet (eCall none ev_code_for (aCons (eVar 0) (aCons (eVar 1) (aCons (eVar 2) aNil))))))))
def ev_code_at : List D → FOut := fnD 3 none false bd_code_at
end CM

namespace CM
open PySem PySem.Spec PyProof.Rows L2 DL DLH
-- _law_deep
def bd__law_deep : Ev → Out :=
 (sRet (eOp gDG (eFr (eDct [(.inl 2, 6), (.inl 3, 4), (.inl 4, 3), (.inl 6, 3), (.inl 9, 2)])) (eOp gMulI (eOp gIx (eVar 0) (eC (.int 0))) (eOp gIx (eVar 0) (eC (.int 1))))))
def ev__law_deep : List D → FOut := fnD 1 none false bd__law_deep
-- _law_code
def lp__law_code_1 : Ev → Out :=
 (sAf [4] (sSeq (sSet 3 (eOp gAdd (eCB gStr1 (aCons (eOp gMod (eCB gInt1 (aCons (eVar 2) aNil)) (eOp gMulI (eOp gIx (eVar 0) (eC (.int 0))) (eOp gIx (eVar 0) (eC (.int 1))))) aNil)) (eVar 3)))
 (sSet 2 (eOp gDiv (eVar 2) (eOp gMulI (eOp gIx (eVar 0) (eC (.int 0))) (eOp gIx (eVar 0) (eC (.int 1))))))))
def bd__law_code : Ev → Out :=
 (sSeq (sSet 3 (eC (.str "")))
 (sSeq (sFor (iRg (aCons (eVar 1) aNil)) (gN 4) lp__law_code_1)
 (sRet (eVar 3))))
def ev__law_code : List D → FOut := fnD 5 none false bd__law_code
-- neighbours
def lp_neighbours_1 : Ev → Out :=
 (sAf [7, 8, 9, 10] (sSeq (sSet 9 (eTup (aCons (eOp gAdd (eVar 4) (eVar 7)) (aCons (eOp gAdd (eVar 5) (eVar 8)) aNil))))
 (sSeq (sSet 10 (eAn (eCh gLe gLt (eC (.int 0)) (eOp gIx (eVar 9) (eC (.int 0))) (eVar 2)) (eCh gLe gLt (eC (.int 0)) (eOp gIx (eVar 9) (eC (.int 1))) (eVar 3))))
 (sApp 6 (aCons (eIf (tE (eVar 10)) (eCall none ev_code_in (aCons (eVar 0) (aCons (eCB gLen (aCons (eVar 1) aNil)) (aCons (eVar 9) aNil)))) (eC .non)) aNil)))))
def bd_neighbours : Ev → Out :=
 (sSeq (sDrop (eCall none ev_need_manner (aCons (eVar 0) aNil)))
 (sSeq (sDrop (eCall none ev_need_code (aCons (eVar 0) (aCons (eVar 1) aNil))))
 (sSeq (sAsg (gT 2 (gsCons (gN 2) (gsCons (gN 3) gsNil))) (eCall none ev_sides (aCons (eVar 0) (aCons (eCB gLen (aCons (eVar 1) aNil)) aNil))))
 (sSeq (sAsg (gT 2 (gsCons (gN 4) (gsCons (gN 5) gsNil))) (eCall none ev_place_in (aCons (eVar 0) (aCons (eC (.int 0)) (aCons (eVar 1) aNil)))))
 (sSeq (sSetO 6 (eLst aNil))
 (sSeq (sFor (iE (eC (.tup [.tup [.int (-1), .int (0)], .tup [.int (1), .int (0)], .tup [.int (0), .int (-1)], .tup [.int (0), .int (1)]]))) (gT 2 (gsCons (gN 7) (gsCons (gN 8) gsNil))) lp_neighbours_1)
 (sFz 6 (sRet (eVar 6)))))))))
def ev_neighbours : List D → FOut := fnD 11 none false bd_neighbours
-- _law_turns
def bd__law_turns : Ev → Out :=
 (sRet (eIf (tE (eVar 0)) (eFr (eLst (aCons (eC (.str "as")) (aCons (eC (.str "s")) (aCons (eC (.str "sx")) (aCons (eC (.str "sxy")) (aCons (eC (.str "sy")) (aCons (eC (.str "x")) (aCons (eC (.str "xy")) (aCons (eC (.str "y")) aNil)))))))))) (eFr (eLst (aCons (eC (.str "as")) (aCons (eC (.str "x")) (aCons (eC (.str "xy")) (aCons (eC (.str "y")) aNil))))))))
def ev__law_turns : List D → FOut := fnD 1 none false bd__law_turns
-- a_turn
def bd_a_turn : Ev → Out :=
 (sRet (eAn (eIsi .str (eVar 0)) (eOp gIn (eVar 0) (eC (.tup [.str "as", .str "s", .str "sx", .str "sxy", .str "sy", .str "x", .str "xy", .str "y"])))))
def ev_a_turn : List D → FOut := fnD 1 none false bd_a_turn
-- need_turn
def bd_need_turn : Ev → Out :=
 (sIf (tNt (tE (eCall none ev_a_turn (aCons (eVar 0) aNil))))
 (sEr "InvalidTurn")
 sNx)
def ev_need_turn : List D → FOut := fnD 1 none false bd_need_turn
-- swaps
def bd_swaps : Ev → Out :=
 (sRet (eAn (eOp gNe (eVar 0) (eC (.str "as"))) (eOp gIn (eC (.str "s")) (eVar 0))))
def ev_swaps : List D → FOut := fnD 1 none false bd_swaps
-- led
def bd_led : Ev → Out :=
 (sSeq (sAsg (gT 2 (gsCons (gN 4) (gsCons (gN 5) gsNil))) (eIf (tE (eCall none ev_swaps (aCons (eVar 0) aNil))) (eTup (aCons (eOp gIx (eVar 3) (eC (.int 1))) (aCons (eOp gIx (eVar 3) (eC (.int 0))) aNil))) (eVar 3)))
 (sRet (eTup (aCons (eIf (tE (eOp gIn (eC (.str "x")) (eVar 0))) (eOp gSub (eOp gSub (eVar 1) (eC (.int 1))) (eVar 4)) (eVar 4)) (aCons (eIf (tE (eOp gIn (eC (.str "y")) (eVar 0))) (eOp gSub (eOp gSub (eVar 2) (eC (.int 1))) (eVar 5)) (eVar 5)) aNil)))))
def ev_led : List D → FOut := fnD 6 none false bd_led
-- turned
def bd_turned : Ev → Out :=
 (sSeq (sDrop (eCall none ev_need_turn (aCons (eVar 0) aNil)))
 (sSeq (sDrop (eCall none ev_need_number (aCons (eVar 1) (aCons (eC (.int 1)) (aCons (eC (.int (1000000000000000))) aNil)))))
 (sSeq (sDrop (eCall none ev_need_number (aCons (eVar 2) (aCons (eC (.int 1)) (aCons (eC (.int (1000000000000000))) aNil)))))
 (sSeq (sIf (tAn (tE (eCall none ev_swaps (aCons (eVar 0) aNil))) (tE (eOp gNe (eVar 1) (eVar 2))))
 (sEr "InvalidTurn")
 sNx)
 (sSeq (sDrop (eCall none ev_need_place (aCons (eVar 3) (aCons (eVar 1) (aCons (eVar 2) aNil)))))
 (sRet (eCall none ev_led (aCons (eVar 0) (aCons (eVar 1) (aCons (eVar 2) (aCons (eVar 3) aNil)))))))))))
def ev_turned : List D → FOut := fnD 4 none false bd_turned
-- is_turn
def bd_is_turn : Ev → Out :=
 (sRet (eCall none ev_a_turn (aCons (eVar 0) aNil)))
def ev_is_turn : List D → FOut := fnD 1 none false bd_is_turn
-- _law_turned
def lp__law_turned_1 : Ev → Out :=
 (sAf [6] (sIf (tE (eOp gEq (eVar 6) (eC (.str "s"))))
 (sPar 4 5 (aCons (eVar 5) (aCons (eVar 4) aNil)))
 (sIf (tE (eOp gEq (eVar 6) (eC (.str "x"))))
 (sSet 4 (eOp gSub (eOp gSub (eVar 1) (eC (.int 1))) (eVar 4)))
 (sSet 5 (eOp gSub (eOp gSub (eVar 2) (eC (.int 1))) (eVar 5))))))
def bd__law_turned : Ev → Out :=
 (sSeq (sAsg (gT 2 (gsCons (gN 4) (gsCons (gN 5) gsNil))) (eVar 3))
 (sSeq (sFor (iE (eIf (tE (eOp gNe (eVar 0) (eC (.str "as")))) (eVar 0) (eC (.str "")))) (gN 6) lp__law_turned_1)
 (sRet (eTup (aCons (eVar 4) (aCons (eVar 5) aNil))))))
def ev__law_turned : List D → FOut := fnD 7 none false bd__law_turned
-- backward
def bd_backward : Ev → Out :=
 (sRet (eOp gAdd (eSl (eVar 0) oNo (oPt (eC (.int 2)))) (eTup (aCons (eCB gTup1 (aCons (eFr (eLc (iE (eOp gIx (eVar 0) (eC (.int 2)))) (gN 1) tYs (eUn gRevT (eVar 1)) [1])) aNil)) aNil))))
def ev_backward : List D → FOut := fnD 2 none false bd_backward
-- reversed_manner
def bd_reversed_manner : Ev → Out :=
 (sSeq (sDrop (eCall none ev_need_manner (aCons (eVar 0) aNil)))
 (sRet (eCall none ev_backward (aCons (eVar 0) aNil))))
def ev_reversed_manner : List D → FOut := fnD 1 none false bd_reversed_manner
-- need_turn_of
def bd_need_turn_of : Ev → Out :=
 (sSeq (sDrop (eCall none ev_need_turn (aCons (eVar 1) aNil)))
 (sIf (tAn (tE (eCall none ev_swaps (aCons (eVar 1) aNil))) (tE (eOp gNe (eOp gIx (eVar 0) (eC (.int 0))) (eOp gIx (eVar 0) (eC (.int 1))))))
 (sEr "InvalidTurn")
 sNx))
def ev_need_turn_of : List D → FOut := fnD 2 none false bd_need_turn_of
-- led_manner
def lp_led_manner_1 : Ev → Out :=
 (sAf [3, 4] (sSeq (sFzA 4 (sSetO 4 (eLc (iE (eVar 3)) (gN 5) tYs (eOp gAdd (eCall none ev_led (aCons (eVar 1) (aCons (eOp gIx (eVar 0) (eC (.int 0))) (aCons (eOp gIx (eVar 0) (eC (.int 1))) (aCons (eSl (eVar 5) oNo (oPt (eC (.int 2)))) aNil))))) (eSl (eVar 5) (oPt (eC (.int 2))) oNo)) [5])))
 (sSet 2 (eOp gAdd (eVar 2) (eFr (eLst (aCons (eCB gTup1 (aCons (eVar 4) aNil)) aNil)))))))
def bd_led_manner : Ev → Out :=
 (sSeq (sSet 2 (eFr (eLst aNil)))
 (sSeq (sFor (iE (eOp gIx (eVar 0) (eC (.int 2)))) (gN 3) lp_led_manner_1)
 (sRet (eOp gAdd (eSl (eVar 0) oNo (oPt (eC (.int 2)))) (eTup (aCons (eCB gTup1 (aCons (eVar 2) aNil)) aNil))))))
def ev_led_manner : List D → FOut := fnD 6 none false bd_led_manner
-- turned_manner
def bd_turned_manner : Ev → Out :=
 (sSeq (sDrop (eCall none ev_need_manner (aCons (eVar 0) aNil)))
 (sSeq (sDrop (eCall none ev_need_turn_of (aCons (eVar 0) (aCons (eVar 1) aNil))))
 (sRet (eCall none ev_led_manner (aCons (eVar 0) (aCons (eVar 1) aNil))))))
def ev_turned_manner : List D → FOut := fnD 2 none false bd_turned_manner
-- _law_apart
def bd__law_apart : Ev → Out :=
 (sSeq (sSet 4 (eCall none ev__law_place_by (aCons (eVar 0) (aCons (eVar 1) (aCons (eOp gAdd (eCB gStr1 (aCons (eVar 2) aNil)) (eOp gMulS (eCB gStr1 (aCons (eOp gSub (eOp gMulI (eOp gIx (eVar 0) (eC (.int 0))) (eOp gIx (eVar 0) (eC (.int 1)))) (eC (.int 1))) aNil)) (eOp gSub (eVar 3) (eC (.int 1))))) aNil)))))
 (sSeq (sSet 5 (eCall none ev__law_place_by (aCons (eVar 0) (aCons (eVar 1) (aCons (eOp gAdd (eCB gStr1 (aCons (eOp gAdd (eVar 2) (eC (.int 1))) aNil)) (eOp gMulS (eC (.str "0")) (eOp gSub (eVar 3) (eC (.int 1))))) aNil)))))
 (sRet (eOp gAdd (eCB gAbs (aCons (eOp gSub (eOp gIx (eVar 4) (eC (.int 0))) (eOp gIx (eVar 5) (eC (.int 0)))) aNil)) (eCB gAbs (aCons (eOp gSub (eOp gIx (eVar 4) (eC (.int 1))) (eOp gIx (eVar 5) (eC (.int 1)))) aNil))))))
def ev__law_apart : List D → FOut := fnD 6 none false bd__law_apart
-- _law_next_jumps
def lp__law_next_jumps_1 : Ev → Out :=
 (sAf [8, 9, 10] (sSeq (sSet 10 (eOp gIx (eVar 1) (eOp gIx (eVar 9) (eC (.int 2)))))
 (sSeq (sIf (tE (eOp gNotN (eVar 10) (eC .non)))
 (sApp 7 (aCons (eTup (aCons (eOp gSub (eC (.int 0)) (eOp gIx (eVar 10) (eC (.int 0)))) (aCons (eOp gAdd (eOp gMulI (eVar 8) (eVar 4)) (eOp gIx (eVar 10) (eC (.int 1)))) aNil))) aNil))
 sNx)
 (sIf (tE (eOp gLt (eVar 8) (eOp gSub (eCB gLen (aCons (eVar 6) aNil)) (eC (.int 1)))))
 (sApp 7 (aCons (eTup (aCons (eOp gSub (eC (.int 0)) (eCall none ev__law_apart (aCons (eVar 0) (aCons (eVar 5) (aCons (eVar 8) (aCons (eVar 2) aNil)))))) (aCons (eOp gSub (eOp gMulI (eOp gAdd (eVar 8) (eC (.int 1))) (eVar 4)) (eC (.int 1))) aNil))) aNil))
 sNx))))
def lp__law_next_jumps_2 : Ev → Out :=
 (sAf [5, 6, 7, 8, 9, 10] (sSeq (sSetO 7 (eLst aNil))
 (sSeq (sFor (iEn (aCons (eVar 6) aNil)) (gT 2 (gsCons (gN 8) (gsCons (gN 9) gsNil))) lp__law_next_jumps_1)
 (sApp 3 (aCons (eTup (aCons (eOp gSub (eC (.int 0)) (eOp gIx (eCB gMin1 (aCons (eVar 7) aNil)) (eC (.int 0)))) (aCons (eOp gIx (eCB gMin1 (aCons (eVar 7) aNil)) (eC (.int 1))) aNil))) aNil)))))
def bd__law_next_jumps : Ev → Out :=
 (sSeq (sMul [3, 4] (mEv [.inr (eLst aNil), .inl (eCall none ev__law_power (aCons (eOp gMulI (eOp gIx (eVar 0) (eC (.int 0))) (eOp gIx (eVar 0) (eC (.int 1)))) (aCons (eOp gSub (eVar 2) (eC (.int 1))) aNil)))]))
 (sSeq (sFor (iEn (aCons (eOp gIx (eVar 0) (eC (.int 2))) aNil)) (gT 2 (gsCons (gN 5) (gsCons (gN 6) gsNil))) lp__law_next_jumps_2)
 (sFz 3 (sRet (eVar 3)))))
def ev__law_next_jumps : List D → FOut := fnD 11 none false bd__law_next_jumps
-- farthest
def bd_farthest : Ev → Out :=
 (sSeq (sSet 1 (eCB gMax1 (aCons (eFr (eLc (iE (eVar 0)) (gT 2 (gsCons (gN 2) (gsCons (gN 3) gsNil))) tYs (eVar 2) [2, 3])) aNil)))
 (sRet (eTup (aCons (eVar 1) (aCons (eCB gMin1 (aCons (eFr (eLc (iE (eVar 0)) (gT 2 (gsCons (gN 2) (gsCons (gN 3) gsNil))) (tE (eOp gEq (eVar 2) (eVar 1))) (eVar 3) [2, 3])) aNil)) aNil)))))
def ev_farthest : List D → FOut := fnD 4 none false bd_farthest
-- ends_apart
def bd_ends_apart : Ev → Out :=
 (sSeq (sSet 4 (eOp gAdd (eCB gStr1 (aCons (eVar 3) aNil)) (eOp gMulS (eCB gStr1 (aCons (eOp gSub (eCall none ev_size_of (aCons (eVar 0) aNil)) (eC (.int 1))) aNil)) (eOp gSub (eVar 2) (eC (.int 1))))))
 (sSeq (sSet 5 (eCall none ev_place_in (aCons (eVar 0) (aCons (eVar 1) (aCons (eVar 4) aNil)))))
 (sSeq (sSet 6 (eCall none ev_place_in (aCons (eVar 0) (aCons (eVar 1) (aCons (eOp gAdd (eCB gStr1 (aCons (eOp gAdd (eVar 3) (eC (.int 1))) aNil)) (eOp gMulS (eC (.str "0")) (eOp gSub (eVar 2) (eC (.int 1))))) aNil)))))
 (sRet (eOp gAdd (eCB gAbs (aCons (eOp gSub (eOp gIx (eVar 5) (eC (.int 0))) (eOp gIx (eVar 6) (eC (.int 0)))) aNil)) (eCB gAbs (aCons (eOp gSub (eOp gIx (eVar 5) (eC (.int 1))) (eOp gIx (eVar 6) (eC (.int 1)))) aNil)))))))
def ev_ends_apart : List D → FOut := fnD 7 none false bd_ends_apart
-- greatest_jump
def lp_greatest_jump_1 : Ev → Out :=
 (sAf [9, 10] (sSeq (sSet 8 (eOp gAdd (eVar 8) (eFr (eLc (iE (eOp gIx (eVar 2) (eOp gIx (eVar 10) (eC (.int 2))))) (gT 2 (gsCons (gN 11) (gsCons (gN 12) gsNil))) tYs (eTup (aCons (eVar 11) (aCons (eOp gAdd (eOp gMulI (eVar 9) (eVar 4)) (eVar 12)) aNil))) [11, 12]))))
 (sIf (tE (eOp gLt (eVar 9) (eOp gSub (eCB gLen (aCons (eVar 7) aNil)) (eC (.int 1)))))
 (sSet 8 (eOp gAdd (eVar 8) (eFr (eLst (aCons (eTup (aCons (eCall none ev_ends_apart (aCons (eVar 0) (aCons (eVar 6) (aCons (eVar 3) (aCons (eVar 9) aNil))))) (aCons (eOp gSub (eOp gMulI (eOp gAdd (eVar 9) (eC (.int 1))) (eVar 4)) (eC (.int 1))) aNil))) aNil)))))
 sNx)))
def lp_greatest_jump_2 : Ev → Out :=
 (sAf [6, 7, 8, 9, 10] (sSeq (sSet 8 (eFr (eLst aNil)))
 (sSeq (sFor (iEn (aCons (eVar 7) aNil)) (gT 2 (gsCons (gN 9) (gsCons (gN 10) gsNil))) lp_greatest_jump_1)
 (sApp 5 (aCons (eFr (eLst (aCons (eCall none ev_farthest (aCons (eVar 8) aNil)) aNil))) aNil)))))
def lp_greatest_jump_3 : Ev → Out :=
 (sAf [3, 4, 5, 6, 7, 8, 9, 10] (sSeq (sMul [4, 5] (mEv [.inl (eCall none ev_all_cells (aCons (eVar 0) (aCons (eOp gSub (eVar 3) (eC (.int 1))) aNil))), .inr (eLst aNil)]))
 (sSeq (sFor (iEn (aCons (eOp gIx (eVar 0) (eC (.int 2))) aNil)) (gT 2 (gsCons (gN 6) (gsCons (gN 7) gsNil))) lp_greatest_jump_2)
 (sFz 5 (sSet 2 (eVar 5))))))
def bd_greatest_jump : Ev → Out :=
 (sSeq (sDrop (eCall none ev_need_manner (aCons (eVar 0) aNil)))
 (sSeq (sDrop (eCall none ev_need_depth (aCons (eVar 1) aNil)))
 (sSeq (sFzA 2 (sSetO 2 (eLc (iE (eOp gIx (eVar 0) (eC (.int 2)))) (gN 6) tYs (eFr (eLst aNil)) [6])))
 (sSeq (sFor (iRg2 (aCons (eC (.int 1)) (aCons (eOp gAdd (eVar 1) (eC (.int 1))) aNil))) (gN 3) lp_greatest_jump_3)
 (sRet (eIf (tE (eOp gNe (eOp gIx (eVar 2) (eC (.int 0))) (eFr (eLst aNil)))) (eOp gIx (eOp gIx (eVar 2) (eC (.int 0))) (eC (.int 0))) (eC .non)))))))
def ev_greatest_jump : List D → FOut := fnD 13 none false bd_greatest_jump
-- _law_walked
def lp__law_walked_1 : Ev → Out :=
 (sAf [4, 5, 6, 7] (sSeq (sPar 5 6 (aCons (eOp gIx (eVar 2) (eVar 4)) (aCons (eOp gIx (eVar 2) (eOp gAdd (eVar 4) (eC (.int 1)))) aNil)))
 (sSeq (sSet 7 (eOp gAdd (eCB gAbs (aCons (eOp gSub (eOp gIx (eVar 5) (eC (.int 0))) (eOp gIx (eVar 6) (eC (.int 0)))) aNil)) (eCB gAbs (aCons (eOp gSub (eOp gIx (eVar 5) (eC (.int 1))) (eOp gIx (eVar 6) (eC (.int 1)))) aNil))))
 (sIf (tOr (tE (eOp gIsN (eVar 3) (eC .non))) (tE (eOp gGt (eVar 7) (eOp gIx (eVar 3) (eC (.int 0))))))
 (sSet 3 (eTup (aCons (eVar 7) (aCons (eVar 4) aNil))))
 sNx))))
def bd__law_walked : Ev → Out :=
 (sSeq (sPar 2 3 (aCons (eCall none ev__law_table (aCons (eVar 0) (aCons (eVar 1) aNil))) (aCons (eC .non) aNil)))
 (sSeq (sFor (iRg (aCons (eOp gSub (eCB gLen (aCons (eVar 2) aNil)) (eC (.int 1))) aNil)) (gN 4) lp__law_walked_1)
 (sRet (eVar 3))))
def ev__law_walked : List D → FOut := fnD 8 none false bd__law_walked
-- _law_plain_and_late
def bd__law_plain_and_late : Ev → Out :=
 (sSeq (sSet 0 (eTup (aCons (eTup (aCons (eC (.int 0)) (aCons (eC (.int 0)) (aCons (eC (.int 1)) aNil)))) (aCons (eTup (aCons (eC (.int 1)) (aCons (eC (.int 0)) (aCons (eC (.int 1)) aNil)))) (aCons (eTup (aCons (eC (.int 0)) (aCons (eC (.int 1)) (aCons (eC (.int 1)) aNil)))) (aCons (eTup (aCons (eC (.int 1)) (aCons (eC (.int 1)) (aCons (eC (.int 1)) aNil)))) aNil))))))
 (sSeq (sSet 1 (eTup (aCons (eTup (aCons (eC (.int 0)) (aCons (eC (.int 0)) (aCons (eC (.int 0)) aNil)))) (aCons (eTup (aCons (eC (.int 1)) (aCons (eC (.int 0)) (aCons (eC (.int 0)) aNil)))) (aCons (eTup (aCons (eC (.int 0)) (aCons (eC (.int 1)) (aCons (eC (.int 0)) aNil)))) (aCons (eTup (aCons (eC (.int 1)) (aCons (eC (.int 1)) (aCons (eC (.int 2)) aNil)))) aNil))))))
 (sSeq (sSet 2 (eTup (aCons (eC (.int 2)) (aCons (eC (.int 2)) (aCons (eTup (aCons (eVar 0) (aCons (eVar 1) (aCons (eTup (aCons (eTup (aCons (eC (.int 1)) (aCons (eC (.int 0)) (aCons (eC (.int 0)) aNil)))) (aCons (eTup (aCons (eC (.int 0)) (aCons (eC (.int 0)) (aCons (eC (.int 0)) aNil)))) (aCons (eTup (aCons (eC (.int 0)) (aCons (eC (.int 1)) (aCons (eC (.int 0)) aNil)))) (aCons (eTup (aCons (eC (.int 1)) (aCons (eC (.int 1)) (aCons (eC (.int 0)) aNil)))) aNil))))) aNil)))) aNil)))))
 (sRet (eTup (aCons (eTup (aCons (eC (.int 2)) (aCons (eC (.int 2)) (aCons (eTup (aCons (eTup (aCons (eTup (aCons (eC (.int 0)) (aCons (eC (.int 0)) (aCons (eC (.int 0)) aNil)))) (aCons (eTup (aCons (eC (.int 1)) (aCons (eC (.int 0)) (aCons (eC (.int 0)) aNil)))) (aCons (eTup (aCons (eC (.int 0)) (aCons (eC (.int 1)) (aCons (eC (.int 0)) aNil)))) (aCons (eTup (aCons (eC (.int 1)) (aCons (eC (.int 1)) (aCons (eC (.int 0)) aNil)))) aNil))))) aNil)) aNil)))) (aCons (eVar 2) aNil)))))))
def ev__law_plain_and_late : List D → FOut := fnD 3 none false bd__law_plain_and_late
-- met
def lp_met_1 : Ev → Out :=
 (sAf [5, 6, 7] (sIf (tAn (tE (eOp gNin (eVar 7) (eVar 1))) (tE (eOp gNin (eVar 7) (eVar 3))))
 (sSet 3 (eOp gAdd (eVar 3) (eFr (eLst (aCons (eVar 7) aNil)))))
 sNx))
def lp_met_2 : Ev → Out :=
 (sAf [4, 5, 6, 7] (sFor (iE (eOp gIx (eOp gIx (eVar 0) (eC (.int 2))) (eVar 4))) (gT 3 (gsCons (gN 5) (gsCons (gN 6) (gsCons (gN 7) gsNil)))) lp_met_1))
def lp_met_3_t : Ev → Rx Bool :=
 (tE (eOp gNe (eVar 2) (eFr (eLst aNil))))
def lp_met_3 : Ev → Out :=
 (sAf [3, 4, 5, 6, 7] (sSeq (sSet 3 (eFr (eLst aNil)))
 (sSeq (sFor (iE (eVar 2)) (gN 4) lp_met_2)
 (sPar 1 2 (aCons (eOp gAdd (eVar 1) (eVar 3)) (aCons (eVar 3) aNil))))))
def bd_met : Ev → Out :=
 (sSeq (sPar 1 2 (aCons (eFr (eLst (aCons (eC (.int 0)) aNil))) (aCons (eFr (eLst (aCons (eC (.int 0)) aNil))) aNil)))
 (sSeq (whL lp_met_3_t lp_met_3 LIM)
 (sRet (eVar 1))))
def ev_met : List D → FOut := fnD 8 none false bd_met
-- least
def lp_least_1 : Ev → Out :=
 (sAf [3] (sIf (tE (eOp gNin (eOp gIx (eVar 1) (eVar 3)) (eVar 2)))
 (sSet 2 (eOp gAdd (eVar 2) (eFr (eLst (aCons (eOp gIx (eVar 1) (eVar 3)) aNil)))))
 sNx))
def lp_least_2 : Ev → Out :=
 (sAf [3, 5] (sSeq (sFzA 5 (sSetO 5 (eLc (iE (eOp gIx (eOp gIx (eVar 0) (eC (.int 2))) (eVar 3))) (gN 6) tYs (eOp gAdd (eSl (eVar 6) oNo (oPt (eC (.int 2)))) (eTup (aCons (eIndex (eVar 2) (aCons (eOp gIx (eVar 1) (eOp gIx (eVar 6) (eC (.int 2)))) aNil)) aNil))) [6])))
 (sSet 4 (eOp gAdd (eVar 4) (eFr (eLst (aCons (eCB gTup1 (aCons (eVar 5) aNil)) aNil)))))))
def bd_least : Ev → Out :=
 (sSeq (sAsg (gT 2 (gsCons (gN 1) (gsCons (gN 2) gsNil))) (eTup (aCons (eCall none ev_kinds (aCons (eVar 0) aNil)) (aCons (eFr (eLst aNil)) aNil))))
 (sSeq (sFor (iE (eCall none ev_met (aCons (eVar 0) aNil))) (gN 3) lp_least_1)
 (sSeq (sSet 4 (eFr (eLst aNil)))
 (sSeq (sFor (iE (eVar 2)) (gN 3) lp_least_2)
 (sRet (eOp gAdd (eSl (eVar 0) oNo (oPt (eC (.int 2)))) (eTup (aCons (eCB gTup1 (aCons (eVar 4) aNil)) aNil))))))))
def ev_least : List D → FOut := fnD 7 none false bd_least
-- least_manner
def bd_least_manner : Ev → Out :=
 (sSeq (sDrop (eCall none ev_need_manner (aCons (eVar 0) aNil)))
 (sRet (eCall none ev_least (aCons (eVar 0) aNil))))
def ev_least_manner : List D → FOut := fnD 1 none false bd_least_manner
-- fewest_patterns
def bd_fewest_patterns : Ev → Out :=
 (sSeq (sDrop (eCall none ev_need_manner (aCons (eVar 0) aNil)))
 (sRet (eCB gLen (aCons (eOp gIx (eCall none ev_least (aCons (eVar 0) aNil)) (eC (.int 2))) aNil))))
def ev_fewest_patterns : List D → FOut := fnD 1 none false bd_fewest_patterns
-- _law_used
def lp__law_used_1 : Ev → Out :=
 (sAf [6, 7] (sFz 1 (sIf (tE (eOp gNin (eOp gIx (eVar 7) (eC (.int 2))) (eFr (eLc (iE (eVar 1)) (gN 8) tYs (eOp gIx (eVar 8) (eC (.int 0))) [8]))))
 (sSeq (sApp 1 (aCons (eTup (aCons (eOp gIx (eVar 7) (eC (.int 2))) (aCons (eOp gAdd (eVar 5) (eCB gStr1 (aCons (eVar 6) aNil))) aNil))) aNil))
 (sApp 3 (aCons (eTup (aCons (eOp gIx (eVar 7) (eC (.int 2))) (aCons (eOp gAdd (eVar 5) (eCB gStr1 (aCons (eVar 6) aNil))) aNil))) aNil)))
 sNx)))
def lp__law_used_2 : Ev → Out :=
 (sAf [4, 5, 6, 7] (sFor (iEn (aCons (eOp gIx (eOp gIx (eVar 0) (eC (.int 2))) (eVar 4)) aNil)) (gT 2 (gsCons (gN 6) (gsCons (gN 7) gsNil))) lp__law_used_1))
def lp__law_used_3_t : Ev → Rx Bool :=
 (tE (eOp gNe (eVar 2) (eFr (eLst aNil))))
def lp__law_used_3 : Ev → Out :=
 (sAf [3, 4, 5, 6, 7] (sSeq (sSetO 3 (eLst aNil))
 (sSeq (sFor (iE (eVar 2)) (gT 2 (gsCons (gN 4) (gsCons (gN 5) gsNil))) lp__law_used_2)
 (sFz 3 (sSet 2 (eVar 3))))))
def bd__law_used : Ev → Out :=
 (sSeq (sMul [1, 2] (mEv [.inr (eLst (aCons (eTup (aCons (eC (.int 0)) (aCons (eC (.str "")) aNil))) aNil)), .inl (eFr (eLst (aCons (eTup (aCons (eC (.int 0)) (aCons (eC (.str "")) aNil))) aNil)))]))
 (sSeq (whL lp__law_used_3_t lp__law_used_3 LIM)
 (sFz 1 (sRet (eVar 1)))))
def ev__law_used : List D → FOut := fnD 9 none false bd__law_used
-- _law_moved
def lp__law_moved_1 : Ev → Out :=
 (sAf [4] (sApp 3 (aCons (eCB gTup1 (aCons (eFr (eLc (iE (eOp gIx (eOp gIx (eVar 1) (eC (.int 2))) (eVar 4))) (gN 5) tYs (eOp gAdd (eSl (eVar 5) oNo (oPt (eC (.int 2)))) (eTup (aCons (eIndex (eVar 2) (aCons (eOp gIx (eVar 5) (eC (.int 2))) aNil)) aNil))) [5])) aNil)) aNil)))
def bd__law_moved : Ev → Out :=
 (sSeq (sSet 2 (eOp gAdd (eFr (eLst (aCons (eC (.int 0)) aNil))) (eCall (some 0) ev__law_shuffled (aCons (eVar 0) (aCons (eFr (eOpF gLR2 (eC (.int 1)) (eCB gLen (aCons (eOp gIx (eVar 1) (eC (.int 2))) aNil)))) aNil)))))
 (sSeq (sSetO 3 (eLst aNil))
 (sSeq (sFor (iE (eVar 2)) (gN 4) lp__law_moved_1)
 (sRet (eOp gAdd (eSl (eVar 1) oNo (oPt (eC (.int 2)))) (eTup (aCons (eCB gTup1 (aCons (eVar 3) aNil)) aNil)))))))
def ev__law_moved : List D → FOut := fnD 6 (some 0) false bd__law_moved
-- _law_next_counts
def lp__law_next_counts_1 : Ev → Out :=
 (sAf [7] (sSet 6 (eOp gAdd (eVar 6) (eCB gInt1 (aCons (eOp gEq (eCall none ev__law_apart (aCons (eVar 0) (aCons (eVar 4) (aCons (eVar 7) (aCons (eVar 2) aNil))))) (eC (.int 1))) aNil)))))
def lp__law_next_counts_2 : Ev → Out :=
 (sAf [4, 5, 6, 7] (sSeq (sSet 6 (eCB gSum (aCons (eFr (eLc (iE (eVar 5)) (gN 8) tYs (eOp gIx (eVar 1) (eOp gIx (eVar 8) (eC (.int 2)))) [8])) aNil)))
 (sSeq (sFor (iRg (aCons (eOp gSub (eCB gLen (aCons (eVar 5) aNil)) (eC (.int 1))) aNil)) (gN 7) lp__law_next_counts_1)
 (sApp 3 (aCons (eVar 6) aNil)))))
def bd__law_next_counts : Ev → Out :=
 (sSeq (sSetO 3 (eLst aNil))
 (sSeq (sFor (iEn (aCons (eOp gIx (eVar 0) (eC (.int 2))) aNil)) (gT 2 (gsCons (gN 4) (gsCons (gN 5) gsNil))) lp__law_next_counts_2)
 (sFz 3 (sRet (eVar 3)))))
def ev__law_next_counts : List D → FOut := fnD 9 none false bd__law_next_counts
-- is_beside
def bd_is_beside : Ev → Out :=
 (sRet (eOp gEq (eOp gAdd (eCB gAbs (aCons (eOp gIx (eVar 0) (eC (.int 0))) aNil)) (eCB gAbs (aCons (eOp gIx (eVar 0) (eC (.int 1))) aNil))) (eC (.int 1))))
def ev_is_beside : List D → FOut := fnD 1 none false bd_is_beside
-- later_state
def bd_later_state : Ev → Out :=
 (sSeq (sPar 4 5 (aCons (eOp gIx (eOp gIx (eOp gIx (eVar 0) (eC (.int 2))) (eVar 2)) (eUn gNeg (eC (.int 1)))) (aCons (eOp gIx (eOp gIx (eOp gIx (eVar 0) (eC (.int 2))) (eVar 3)) (eC (.int 0))) aNil)))
 (sSeq (sSet 6 (eOp gSub (eOp gAdd (eOp gMulI (eOp gIx (eVar 1) (eC (.int 0))) (eOp gIx (eVar 0) (eC (.int 0)))) (eOp gIx (eVar 5) (eC (.int 0)))) (eOp gIx (eVar 4) (eC (.int 0)))))
 (sRet (eTup (aCons (eTup (aCons (eVar 6) (aCons (eOp gSub (eOp gAdd (eOp gMulI (eOp gIx (eVar 1) (eC (.int 1))) (eOp gIx (eVar 0) (eC (.int 1)))) (eOp gIx (eVar 5) (eC (.int 1)))) (eOp gIx (eVar 4) (eC (.int 1)))) aNil))) (aCons (eOp gIx (eVar 4) (eC (.int 2))) (aCons (eOp gIx (eVar 5) (eC (.int 2))) aNil)))))))
def ev_later_state : List D → FOut := fnD 7 none false bd_later_state
-- touch_length
def lp_touch_length_1_t : Ev → Rx Bool :=
 (tE (eOp gNin (eVar 5) (eVar 6)))
def lp_touch_length_1 : Ev → Out :=
 (sSeq (sIf (tNt (tE (eCall none ev_is_beside (aCons (eOp gIx (eVar 5) (eC (.int 0))) aNil))))
 (sRet (eVar 7))
 sNx)
 (sSeq (sSet 6 (eOp gAdd (eVar 6) (eFr (eLst (aCons (eVar 5) aNil)))))
 (sPar 5 7 (aCons (eCall none ev_later_state (aCons (eVar 0) (aCons (eOp gIx (eVar 5) (eC (.int 0))) (aCons (eOp gIx (eVar 5) (eC (.int 1))) (aCons (eOp gIx (eVar 5) (eC (.int 2))) aNil))))) (aCons (eOp gAdd (eVar 7) (eC (.int 1))) aNil)))))
def bd_touch_length : Ev → Out :=
 (sSeq (sPar 3 4 (aCons (eOp gIx (eOp gIx (eOp gIx (eVar 0) (eC (.int 2))) (eVar 1)) (eVar 2)) (aCons (eOp gIx (eOp gIx (eOp gIx (eVar 0) (eC (.int 2))) (eVar 1)) (eOp gAdd (eVar 2) (eC (.int 1)))) aNil)))
 (sSeq (sSet 5 (eTup (aCons (eTup (aCons (eOp gSub (eOp gIx (eVar 4) (eC (.int 0))) (eOp gIx (eVar 3) (eC (.int 0)))) (aCons (eOp gSub (eOp gIx (eVar 4) (eC (.int 1))) (eOp gIx (eVar 3) (eC (.int 1)))) aNil))) (aCons (eOp gIx (eVar 3) (eC (.int 2))) (aCons (eOp gIx (eVar 4) (eC (.int 2))) aNil)))))
 (sSeq (sPar 6 7 (aCons (eFr (eLst aNil)) (aCons (eC (.int 1)) aNil)))
 (sSeq (whL lp_touch_length_1_t lp_touch_length_1 LIM)
 (sRet (eC .non))))))
def ev_touch_length : List D → FOut := fnD 8 none false bd_touch_length
-- jump_depths
def bd_jump_depths : Ev → Out :=
 (sSeq (sSet 1 (eFr (eLR1 (eOp gSub (eCall none ev_size_of (aCons (eVar 0) aNil)) (eC (.int 1))))))
 (sRet (eFr (eLc (iRg (aCons (eCB gLen (aCons (eOp gIx (eVar 0) (eC (.int 2))) aNil)) aNil)) (gN 2) tYs (eFr (eLc (iE (eVar 1)) (gN 3) tYs (eCall none ev_touch_length (aCons (eVar 0) (aCons (eVar 2) (aCons (eVar 3) aNil)))) [3])) [2]))))
def ev_jump_depths : List D → FOut := fnD 4 none false bd_jump_depths
-- count_touching
def lp_count_touching_1 : Ev → Out :=
 (sAf [6, 7, 8] (sSeq (sSet 8 (eCB gLen (aCons (eFr (eLc (iE (eOp gIx (eVar 2) (eVar 6))) (gN 9) (tOr (tE (eOp gIsN (eVar 9) (eC .non))) (tE (eOp gLt (eVar 4) (eVar 9)))) (eVar 9) [9])) aNil)))
 (sApp 5 (aCons (eOp gAdd (eVar 8) (eCB gSum (aCons (eFr (eLc (iE (eVar 7)) (gN 10) tYs (eOp gIx (eVar 3) (eOp gIx (eVar 10) (eC (.int 2)))) [10])) aNil))) aNil))))
def lp_count_touching_2 : Ev → Out :=
 (sAf [4, 5, 6, 7, 8] (sSeq (sSetO 5 (eLst aNil))
 (sSeq (sFor (iEn (aCons (eOp gIx (eVar 0) (eC (.int 2))) aNil)) (gT 2 (gsCons (gN 6) (gsCons (gN 7) gsNil))) lp_count_touching_1)
 (sFz 5 (sSet 3 (eVar 5))))))
def bd_count_touching : Ev → Out :=
 (sSeq (sDrop (eCall none ev_need_manner (aCons (eVar 0) aNil)))
 (sSeq (sDrop (eCall none ev_need_depth (aCons (eVar 1) aNil)))
 (sSeq (sSet 2 (eCall none ev_jump_depths (aCons (eVar 0) aNil)))
 (sSeq (sSet 3 (eFr (eLc (iE (eOp gIx (eVar 0) (eC (.int 2)))) (gN 6) tYs (eC (.int 0)) [6])))
 (sSeq (sFor (iRg2 (aCons (eC (.int 1)) (aCons (eOp gAdd (eVar 1) (eC (.int 1))) aNil))) (gN 4) lp_count_touching_2)
 (sRet (eOp gIx (eVar 3) (eC (.int 0)))))))))
def ev_count_touching : List D → FOut := fnD 11 none false bd_count_touching
-- _law_counted
def lp__law_counted_1 : Ev → Out :=
 (sAf [4, 5] (sSet 3 (eOp gAdd (eVar 3) (eCB gInt1 (aCons (eOp gEq (eOp gAdd (eCB gAbs (aCons (eOp gSub (eOp gIx (eVar 4) (eC (.int 0))) (eOp gIx (eVar 5) (eC (.int 0)))) aNil)) (eCB gAbs (aCons (eOp gSub (eOp gIx (eVar 4) (eC (.int 1))) (eOp gIx (eVar 5) (eC (.int 1)))) aNil))) (eC (.int 1))) aNil)))))
def bd__law_counted : Ev → Out :=
 (sSeq (sPar 2 3 (aCons (eCall none ev__law_table (aCons (eVar 0) (aCons (eVar 1) aNil))) (aCons (eC (.int 0)) aNil)))
 (sSeq (sFor (iZp (aCons (eVar 2) (aCons (eSl (eVar 2) (oPt (eC (.int 1))) oNo) aNil))) (gT 2 (gsCons (gN 4) (gsCons (gN 5) gsNil))) lp__law_counted_1)
 (sRet (eVar 3))))
def ev__law_counted : List D → FOut := fnD 6 none false bd__law_counted
-- _law_seen
def lp__law_seen_1 : Ev → Out :=
 (sAf [3, 4, 5, 6] (sSeq (sSet 4 (eCall (some 0) ev__law_any_code (aCons (eVar 0) (aCons (eVar 1) (aCons (eCall (some 0) ev__law_pick (aCons (eVar 0) (aCons (eC (.int 8)) aNil))) aNil)))))
 (sSeq (sPar 5 6 (aCons (eCall none ev__law_place (aCons (eVar 1) (aCons (eVar 4) aNil))) (aCons (eCall (some 0) ev__law_pick (aCons (eVar 0) (aCons (eC (.int 12)) aNil))) aNil)))
 (sSeq (sIf (tE (eOp gEq (eVar 6) (eC (.int 0))))
 (sSet 5 (eTup (aCons (eOp gAdd (eOp gIx (eVar 5) (eC (.int 0))) (eC (.int 1))) (aCons (eOp gIx (eVar 5) (eC (.int 1))) aNil))))
 sNx)
 (sApp 2 (aCons (eTup (aCons (eIf (tE (eOp gEq (eVar 6) (eC (.int 1)))) (eOp gAdd (eVar 4) (eOp gIx (eFr (eLst (aCons (eC (.str "")) (aCons (eC (.str "")) (aCons (eC (.str "")) (aCons (eC (.str "8")) (aCons (eC (.str "9")) aNil))))))) (eCall (some 0) ev__law_pick (aCons (eVar 0) (aCons (eC (.int 5)) aNil))))) (eVar 4)) (aCons (eVar 5) aNil))) aNil))))))
def bd__law_seen : Ev → Out :=
 (sSeq (sSetO 2 (eLst aNil))
 (sSeq (sFor (iRg (aCons (eCall (some 0) ev__law_pick (aCons (eVar 0) (aCons (eC (.int 5)) aNil))) aNil)) (gN 3) lp__law_seen_1)
 (sRet (eCB gTup1 (aCons (eVar 2) aNil)))))
def ev__law_seen : List D → FOut := fnD 7 (some 0) false bd__law_seen
-- _law_explains
def lp__law_explains_1 : Ev → Out :=
 (sAf [2, 3] (sIf (tOr (tE (eOp gNe (eFr (eLc (iE (eVar 2)) (gN 4) (tE (eOp gNin (eVar 4) (eSl (eC (.str "0123456789")) oNo (oPt (eOp gMulI (eOp gIx (eVar 0) (eC (.int 0))) (eOp gIx (eVar 0) (eC (.int 1)))))))) (eVar 4) [4])) (eFr (eLst aNil)))) (tE (eOp gNe (eCall none ev__law_place (aCons (eVar 0) (aCons (eVar 2) aNil))) (eVar 3))))
 (sRet (eC (.bl false)))
 sNx))
def bd__law_explains : Ev → Out :=
 (sSeq (sFor (iE (eVar 1)) (gT 2 (gsCons (gN 2) (gsCons (gN 3) gsNil))) lp__law_explains_1)
 (sRet (eC (.bl true))))
def ev__law_explains : List D → FOut := fnD 5 none false bd__law_explains
-- need_index
def bd_need_index : Ev → Out :=
 (sIf (tNt (tE (eCall none ev_is_between (aCons (eVar 0) (aCons (eC (.int 0)) (aCons (eOp gSub (eVar 1) (eC (.int 1))) aNil))))))
 (sEr "InvalidIndex")
 sNx)
def ev_need_index : List D → FOut := fnD 2 none false bd_need_index
-- need_cell
def bd_need_cell : Ev → Out :=
 (sSeq (sDrop (eCall none ev_need_index (aCons (eVar 1) (aCons (eCB gLen (aCons (eOp gIx (eVar 0) (eC (.int 2))) aNil)) aNil))))
 (sDrop (eCall none ev_need_index (aCons (eVar 2) (aCons (eCall none ev_size_of (aCons (eVar 0) aNil)) aNil)))))
def ev_need_cell : List D → FOut := fnD 3 none false bd_need_cell
-- need_seen
def lp_need_seen_1 : Ev → Out :=
 (sAf [1] (sSeq (sIf (tOr (tNt (tE (eIsi .tup (eVar 1)))) (tOr (tE (eOp gNe (eCB gLen (aCons (eVar 1) aNil)) (eC (.int 2)))) (tOr (tNt (tE (eIsi .str (eOp gIx (eVar 1) (eC (.int 0)))))) (tNt (tE (eCall none ev_is_pair (aCons (eOp gIx (eVar 1) (eC (.int 1))) aNil)))))))
 (sEr "InvalidSeen")
 sNx)
 (sIf (tOr (tE (eOp gGt (eCB gLen (aCons (eOp gIx (eVar 1) (eC (.int 0))) aNil)) (eC (.int 30)))) (tNt (tE (eCB gAll (aCons (eFr (eLc (iE (eOp gIx (eVar 1) (eC (.int 0)))) (gN 2) tYs (eOp gIn (eVar 2) (eC (.str "0123456789"))) [2])) aNil)))))
 (sEr "InvalidSeen")
 sNx)))
def bd_need_seen : Ev → Out :=
 (sSeq (sIf (tOr (tNt (tE (eIsi .tup (eVar 0)))) (tE (eOp gGt (eCB gLen (aCons (eVar 0) aNil)) (eC (.int (8))))))
 (sEr "InvalidSeen")
 sNx)
 (sFor (iE (eVar 0)) (gN 1) lp_need_seen_1))
def ev_need_seen : List D → FOut := fnD 3 none false bd_need_seen
-- explains
def lp_explains_1 : Ev → Out :=
 (sAf [2, 3] (sIf (tOr (tNt (tE (eCall none ev_are_digits (aCons (eVar 2) (aCons (eCall none ev_size_of (aCons (eVar 0) aNil)) aNil))))) (tE (eOp gNe (eCall none ev_place_in (aCons (eVar 0) (aCons (eC (.int 0)) (aCons (eVar 2) aNil)))) (eVar 3))))
 (sRet (eC (.bl false)))
 sNx))
def bd_explains : Ev → Out :=
 (sSeq (sFor (iE (eVar 1)) (gT 2 (gsCons (gN 2) (gsCons (gN 3) gsNil))) lp_explains_1)
 (sRet (eC (.bl true))))
def ev_explains : List D → FOut := fnD 4 none false bd_explains
-- with_next
def bd_with_next : Ev → Out :=
 (sSeq (sSet 4 (eOp gIx (eOp gIx (eVar 0) (eC (.int 2))) (eVar 1)))
 (sSeq (sSet 5 (eOp gAdd (eOp gAdd (eSl (eVar 4) oNo (oPt (eVar 2))) (eTup (aCons (eOp gAdd (eSl (eOp gIx (eVar 4) (eVar 2)) oNo (oPt (eC (.int 2)))) (eTup (aCons (eVar 3) aNil))) aNil))) (eSl (eVar 4) (oPt (eOp gAdd (eVar 2) (eC (.int 1)))) oNo)))
 (sRet (eOp gAdd (eSl (eVar 0) oNo (oPt (eC (.int 2)))) (eTup (aCons (eOp gAdd (eOp gAdd (eSl (eOp gIx (eVar 0) (eC (.int 2))) oNo (oPt (eVar 1))) (eTup (aCons (eVar 5) aNil))) (eSl (eOp gIx (eVar 0) (eC (.int 2))) (oPt (eOp gAdd (eVar 1) (eC (.int 1)))) oNo)) aNil))))))
def ev_with_next : List D → FOut := fnD 6 none false bd_with_next
-- nexts_for
def bd_nexts_for : Ev → Out :=
 (sSeq (sDrop (eCall none ev_need_manner (aCons (eVar 0) aNil)))
 (sSeq (sDrop (eCall none ev_need_cell (aCons (eVar 0) (aCons (eVar 1) (aCons (eVar 2) aNil)))))
 (sSeq (sDrop (eCall none ev_need_seen (aCons (eVar 3) aNil)))
 (sSeq (sSet 4 (eFr (eLR1 (eCB gLen (aCons (eOp gIx (eVar 0) (eC (.int 2))) aNil)))))
 (sRet (eFr (eLc (iE (eVar 4)) (gN 5) (tE (eCall none ev_explains (aCons (eCall none ev_with_next (aCons (eVar 0) (aCons (eVar 1) (aCons (eVar 2) (aCons (eVar 5) aNil))))) (aCons (eVar 3) aNil)))) (eVar 5) [5])))))))
def ev_nexts_for : List D → FOut := fnD 6 none false bd_nexts_for
-- fitting
def bd_fitting : Ev → Out :=
 (sSeq (sIf (tOr (tNt (tE (eIsi .tup (eVar 0)))) (tOr (tNt (tE (eCh gLe gLe (eC (.int 1)) (eCB gLen (aCons (eVar 0) aNil)) (eC (.int (8)))))) (tNt (tE (eCB gAll (aCons (eFr (eLc (iE (eVar 0)) (gN 4) tYs (eCall none ev_a_manner (aCons (eVar 4) aNil)) [4])) aNil))))))
 (sEr "InvalidManner")
 sNx)
 (sSeq (sDrop (eCall none ev_need_seen (aCons (eVar 1) aNil)))
 (sRet (eFr (eLc (iEn (aCons (eVar 0) aNil)) (gT 2 (gsCons (gN 2) (gsCons (gN 3) gsNil))) (tE (eCall none ev_explains (aCons (eVar 3) (aCons (eVar 1) aNil)))) (eVar 2) [2, 3])))))
def ev_fitting : List D → FOut := fnD 5 none false bd_fitting
end CM

namespace CM
open PySem PySem.Spec PyProof.Rows L2 DL DLH
def nmB (b0 b1 b2 b3 b4 b5 b6 b7 b8 b9 b10 b11 b12 b13 b14 b15 : Bool) (a : Addr) : Ev → Out :=
 (sSeq (sSet 1 (eFr (eLst (aCons (eIsE a b0 (eVar 0)) (aCons (eIsE a b1 (eVar 0)) (aCons (eIsE a b2 (eVar 0)) aNil))))))
 (sSeq (sSet 1 (eOp gAdd (eVar 1) (eFr (eLst (aCons (eIsE a b3 (eVar 0)) (aCons (eIsE a b4 (eVar 0)) (aCons (eIsE a b5 (eVar 0)) aNil)))))))
 (sSeq (sSet 1 (eOp gAdd (eVar 1) (eFr (eLst (aCons (eIsE a b6 (eVar 0)) (aCons (eIsE a b7 (eVar 0)) (aCons (eIsE a b8 (eVar 0)) aNil)))))))
 (sSeq (sSet 1 (eOp gAdd (eVar 1) (eFr (eLst (aCons (eIsE a b9 (eVar 0)) (aCons (eIsE a b10 (eVar 0)) (aCons (eIsE a b11 (eVar 0)) aNil)))))))
 (sSeq (sSet 1 (eOp gAdd (eVar 1) (eFr (eLst (aCons (eIsE a b12 (eVar 0)) (aCons (eIsE a b13 (eVar 0)) (aCons (eIsE a b14 (eVar 0)) aNil)))))))
 (sSeq (sSet 2 (eC (.str "manner turn code depth place number box way index seen text there many undo base value")))
 (sSeq (sFzA 3 (sSetO 3 (eLc (iZpL (aCons (eFr (eSplit (eVar 2) (eC (.str " ")))) (aCons (eOp gAdd (eVar 1) (eFr (eLst (aCons (eIsE a b15 (eVar 0)) aNil)))) aNil))) (gT 2 (gsCons (gN 4) (gsCons (gN 5) gsNil))) (tE (eVar 5)) (eVar 4) [4, 5])))
 (sRet (eIf (tE (eOp gEq (eSl (eVar 3) (oPt (eC (.int 1))) oNo) (eFr (eLst (aCons (eC (.str "base")) (aCons (eC (.str "value")) aNil)))))) (eOp gIx (eVar 3) (eC (.int 0))) (eC (.str "else")))))))))))
theorem seqN {f : Ev → Out} {e e1 : Ev} {g : Ev → Out} (h : f e = .nx e1) : sSeq f g e = g e1 := by rw [sSeq_ap, h, thn_nx]
theorem nm_0 : ∀ a, fnD 6 none false (nmB true false false false false false false false false false false false false false true true a) [.ad a] = .ok (.str "manner") .non := fun a => by
  have e : gSplit "manner turn code depth place number box way index seen text there many undo base value" (.str " ") = some (.lst [.str "manner", .str "turn", .str "code", .str "depth", .str "place", .str "number", .str "box", .str "way", .str "index", .str "seen", .str "text", .str "there", .str "many", .str "undo", .str "base", .str "value"]) := by kernel_rfl
  have e2 : gEq (.lst [.str "base", .str "value"]) (.lst [.str "base", .str "value"]) = some (.bl true) := by kernel_rfl
  have key : nmB true false false false false false false false false false false false false false true true a [.p (.ad a), .u, .u, .u, .u, .u] = .rt (.str "manner") [.p (.ad a), .p (.lst [.bl true, .bl false, .bl false, .bl false, .bl false, .bl false, .bl false, .bl false, .bl false, .bl false, .bl false, .bl false, .bl false, .bl false, .bl true]), .p (.str "manner turn code depth place number box way index seen text there many undo base value"), .p (.lst [.str "manner", .str "base", .str "value"]), .u, .u] := by
    unfold nmB
    rw [seqN (e1 := [.p (.ad a), .p (.lst [.bl true, .bl false, .bl false]), .u, .u, .u, .u]) (by simp -dsimp [LIM])]
    rw [seqN (e1 := [.p (.ad a), .p (.lst [.bl true, .bl false, .bl false, .bl false, .bl false, .bl false]), .u, .u, .u, .u]) (by simp -dsimp [LIM])]
    rw [seqN (e1 := [.p (.ad a), .p (.lst [.bl true, .bl false, .bl false, .bl false, .bl false, .bl false, .bl false, .bl false, .bl false]), .u, .u, .u, .u]) (by simp -dsimp [LIM])]
    rw [seqN (e1 := [.p (.ad a), .p (.lst [.bl true, .bl false, .bl false, .bl false, .bl false, .bl false, .bl false, .bl false, .bl false, .bl false, .bl false, .bl false]), .u, .u, .u, .u]) (by simp -dsimp [LIM])]
    rw [seqN (e1 := [.p (.ad a), .p (.lst [.bl true, .bl false, .bl false, .bl false, .bl false, .bl false, .bl false, .bl false, .bl false, .bl false, .bl false, .bl false, .bl false, .bl false, .bl true]), .u, .u, .u, .u]) (by simp -dsimp [LIM])]
    rw [seqN (e1 := [.p (.ad a), .p (.lst [.bl true, .bl false, .bl false, .bl false, .bl false, .bl false, .bl false, .bl false, .bl false, .bl false, .bl false, .bl false, .bl false, .bl false, .bl true]), .p (.str "manner turn code depth place number box way index seen text there many undo base value"), .u, .u, .u]) (by simp -dsimp)]
    rw [seqN (e1 := [.p (.ad a), .p (.lst [.bl true, .bl false, .bl false, .bl false, .bl false, .bl false, .bl false, .bl false, .bl false, .bl false, .bl false, .bl false, .bl false, .bl false, .bl true]), .p (.str "manner turn code depth place number box way index seen text there many undo base value"), .p (.lst [.str "manner", .str "base", .str "value"]), .u, .u]) ?_]
    · kernel_rfl
    · have hi : iZpL (aCons (eFr (eSplit (eVar 2) (eC (.str " ")))) (aCons (eOp gAdd (eVar 1) (eFr (eLst (aCons (eIsE a true (eVar 0)) aNil)))) aNil)) [.p (.ad a), .p (.lst [.bl true, .bl false, .bl false, .bl false, .bl false, .bl false, .bl false, .bl false, .bl false, .bl false, .bl false, .bl false, .bl false, .bl false, .bl true]), .p (.str "manner turn code depth place number box way index seen text there many undo base value"), .u, .u, .u] = .ok (zipL [.str "manner", .str "turn", .str "code", .str "depth", .str "place", .str "number", .str "box", .str "way", .str "index", .str "seen", .str "text", .str "there", .str "many", .str "undo", .str "base", .str "value"] [.bl true, .bl false, .bl false, .bl false, .bl false, .bl false, .bl false, .bl false, .bl false, .bl false, .bl false, .bl false, .bl false, .bl false, .bl true, .bl true]) [.p (.ad a), .p (.lst [.bl true, .bl false, .bl false, .bl false, .bl false, .bl false, .bl false, .bl false, .bl false, .bl false, .bl false, .bl false, .bl false, .bl false, .bl true]), .p (.str "manner turn code depth place number box way index seen text there many undo base value"), .u, .u, .u] := by simp -dsimp [LIM, e]
      have hc : lcL (gT 2 (gsCons (gN 4) (gsCons (gN 5) gsNil))) (tE (eVar 5)) (eVar 4) [4, 5] (zipL [.str "manner", .str "turn", .str "code", .str "depth", .str "place", .str "number", .str "box", .str "way", .str "index", .str "seen", .str "text", .str "there", .str "many", .str "undo", .str "base", .str "value"] [.bl true, .bl false, .bl false, .bl false, .bl false, .bl false, .bl false, .bl false, .bl false, .bl false, .bl false, .bl false, .bl false, .bl false, .bl true, .bl true]) [.p (.ad a), .p (.lst [.bl true, .bl false, .bl false, .bl false, .bl false, .bl false, .bl false, .bl false, .bl false, .bl false, .bl false, .bl false, .bl false, .bl false, .bl true]), .p (.str "manner turn code depth place number box way index seen text there many undo base value"), .u, .u, .u] = .ok (.lst [.str "manner", .str "base", .str "value"]) [.p (.ad a), .p (.lst [.bl true, .bl false, .bl false, .bl false, .bl false, .bl false, .bl false, .bl false, .bl false, .bl false, .bl false, .bl false, .bl false, .bl false, .bl true]), .p (.str "manner turn code depth place number box way index seen text there many undo base value"), .u, .u, .u] := by kernel_rfl
      unfold sFzA sSetO eLc
      rw [hi, Rx.bind_ok, hc, Rx.out_ok]
      rfl
  unfold fnD
  rw [show stE none 0 [DL.D.ad a] ++ List.replicate (6 - [DL.D.ad a].length) Sl.u = [.p (.ad a), .u, .u, .u, .u, .u] from rfl, key]
  rfl
theorem nm_1 : ∀ a, fnD 6 none false (nmB false true false false false false false false false false false false false false true true a) [.ad a] = .ok (.str "turn") .non := fun a => by
  have e : gSplit "manner turn code depth place number box way index seen text there many undo base value" (.str " ") = some (.lst [.str "manner", .str "turn", .str "code", .str "depth", .str "place", .str "number", .str "box", .str "way", .str "index", .str "seen", .str "text", .str "there", .str "many", .str "undo", .str "base", .str "value"]) := by kernel_rfl
  have e2 : gEq (.lst [.str "base", .str "value"]) (.lst [.str "base", .str "value"]) = some (.bl true) := by kernel_rfl
  have key : nmB false true false false false false false false false false false false false false true true a [.p (.ad a), .u, .u, .u, .u, .u] = .rt (.str "turn") [.p (.ad a), .p (.lst [.bl false, .bl true, .bl false, .bl false, .bl false, .bl false, .bl false, .bl false, .bl false, .bl false, .bl false, .bl false, .bl false, .bl false, .bl true]), .p (.str "manner turn code depth place number box way index seen text there many undo base value"), .p (.lst [.str "turn", .str "base", .str "value"]), .u, .u] := by
    unfold nmB
    rw [seqN (e1 := [.p (.ad a), .p (.lst [.bl false, .bl true, .bl false]), .u, .u, .u, .u]) (by simp -dsimp [LIM])]
    rw [seqN (e1 := [.p (.ad a), .p (.lst [.bl false, .bl true, .bl false, .bl false, .bl false, .bl false]), .u, .u, .u, .u]) (by simp -dsimp [LIM])]
    rw [seqN (e1 := [.p (.ad a), .p (.lst [.bl false, .bl true, .bl false, .bl false, .bl false, .bl false, .bl false, .bl false, .bl false]), .u, .u, .u, .u]) (by simp -dsimp [LIM])]
    rw [seqN (e1 := [.p (.ad a), .p (.lst [.bl false, .bl true, .bl false, .bl false, .bl false, .bl false, .bl false, .bl false, .bl false, .bl false, .bl false, .bl false]), .u, .u, .u, .u]) (by simp -dsimp [LIM])]
    rw [seqN (e1 := [.p (.ad a), .p (.lst [.bl false, .bl true, .bl false, .bl false, .bl false, .bl false, .bl false, .bl false, .bl false, .bl false, .bl false, .bl false, .bl false, .bl false, .bl true]), .u, .u, .u, .u]) (by simp -dsimp [LIM])]
    rw [seqN (e1 := [.p (.ad a), .p (.lst [.bl false, .bl true, .bl false, .bl false, .bl false, .bl false, .bl false, .bl false, .bl false, .bl false, .bl false, .bl false, .bl false, .bl false, .bl true]), .p (.str "manner turn code depth place number box way index seen text there many undo base value"), .u, .u, .u]) (by simp -dsimp)]
    rw [seqN (e1 := [.p (.ad a), .p (.lst [.bl false, .bl true, .bl false, .bl false, .bl false, .bl false, .bl false, .bl false, .bl false, .bl false, .bl false, .bl false, .bl false, .bl false, .bl true]), .p (.str "manner turn code depth place number box way index seen text there many undo base value"), .p (.lst [.str "turn", .str "base", .str "value"]), .u, .u]) ?_]
    · kernel_rfl
    · have hi : iZpL (aCons (eFr (eSplit (eVar 2) (eC (.str " ")))) (aCons (eOp gAdd (eVar 1) (eFr (eLst (aCons (eIsE a true (eVar 0)) aNil)))) aNil)) [.p (.ad a), .p (.lst [.bl false, .bl true, .bl false, .bl false, .bl false, .bl false, .bl false, .bl false, .bl false, .bl false, .bl false, .bl false, .bl false, .bl false, .bl true]), .p (.str "manner turn code depth place number box way index seen text there many undo base value"), .u, .u, .u] = .ok (zipL [.str "manner", .str "turn", .str "code", .str "depth", .str "place", .str "number", .str "box", .str "way", .str "index", .str "seen", .str "text", .str "there", .str "many", .str "undo", .str "base", .str "value"] [.bl false, .bl true, .bl false, .bl false, .bl false, .bl false, .bl false, .bl false, .bl false, .bl false, .bl false, .bl false, .bl false, .bl false, .bl true, .bl true]) [.p (.ad a), .p (.lst [.bl false, .bl true, .bl false, .bl false, .bl false, .bl false, .bl false, .bl false, .bl false, .bl false, .bl false, .bl false, .bl false, .bl false, .bl true]), .p (.str "manner turn code depth place number box way index seen text there many undo base value"), .u, .u, .u] := by simp -dsimp [LIM, e]
      have hc : lcL (gT 2 (gsCons (gN 4) (gsCons (gN 5) gsNil))) (tE (eVar 5)) (eVar 4) [4, 5] (zipL [.str "manner", .str "turn", .str "code", .str "depth", .str "place", .str "number", .str "box", .str "way", .str "index", .str "seen", .str "text", .str "there", .str "many", .str "undo", .str "base", .str "value"] [.bl false, .bl true, .bl false, .bl false, .bl false, .bl false, .bl false, .bl false, .bl false, .bl false, .bl false, .bl false, .bl false, .bl false, .bl true, .bl true]) [.p (.ad a), .p (.lst [.bl false, .bl true, .bl false, .bl false, .bl false, .bl false, .bl false, .bl false, .bl false, .bl false, .bl false, .bl false, .bl false, .bl false, .bl true]), .p (.str "manner turn code depth place number box way index seen text there many undo base value"), .u, .u, .u] = .ok (.lst [.str "turn", .str "base", .str "value"]) [.p (.ad a), .p (.lst [.bl false, .bl true, .bl false, .bl false, .bl false, .bl false, .bl false, .bl false, .bl false, .bl false, .bl false, .bl false, .bl false, .bl false, .bl true]), .p (.str "manner turn code depth place number box way index seen text there many undo base value"), .u, .u, .u] := by kernel_rfl
      unfold sFzA sSetO eLc
      rw [hi, Rx.bind_ok, hc, Rx.out_ok]
      rfl
  unfold fnD
  rw [show stE none 0 [DL.D.ad a] ++ List.replicate (6 - [DL.D.ad a].length) Sl.u = [.p (.ad a), .u, .u, .u, .u, .u] from rfl, key]
  rfl
theorem nm_2 : ∀ a, fnD 6 none false (nmB false false true false false false false false false false false false false false true true a) [.ad a] = .ok (.str "code") .non := fun a => by
  have e : gSplit "manner turn code depth place number box way index seen text there many undo base value" (.str " ") = some (.lst [.str "manner", .str "turn", .str "code", .str "depth", .str "place", .str "number", .str "box", .str "way", .str "index", .str "seen", .str "text", .str "there", .str "many", .str "undo", .str "base", .str "value"]) := by kernel_rfl
  have e2 : gEq (.lst [.str "base", .str "value"]) (.lst [.str "base", .str "value"]) = some (.bl true) := by kernel_rfl
  have key : nmB false false true false false false false false false false false false false false true true a [.p (.ad a), .u, .u, .u, .u, .u] = .rt (.str "code") [.p (.ad a), .p (.lst [.bl false, .bl false, .bl true, .bl false, .bl false, .bl false, .bl false, .bl false, .bl false, .bl false, .bl false, .bl false, .bl false, .bl false, .bl true]), .p (.str "manner turn code depth place number box way index seen text there many undo base value"), .p (.lst [.str "code", .str "base", .str "value"]), .u, .u] := by
    unfold nmB
    rw [seqN (e1 := [.p (.ad a), .p (.lst [.bl false, .bl false, .bl true]), .u, .u, .u, .u]) (by simp -dsimp [LIM])]
    rw [seqN (e1 := [.p (.ad a), .p (.lst [.bl false, .bl false, .bl true, .bl false, .bl false, .bl false]), .u, .u, .u, .u]) (by simp -dsimp [LIM])]
    rw [seqN (e1 := [.p (.ad a), .p (.lst [.bl false, .bl false, .bl true, .bl false, .bl false, .bl false, .bl false, .bl false, .bl false]), .u, .u, .u, .u]) (by simp -dsimp [LIM])]
    rw [seqN (e1 := [.p (.ad a), .p (.lst [.bl false, .bl false, .bl true, .bl false, .bl false, .bl false, .bl false, .bl false, .bl false, .bl false, .bl false, .bl false]), .u, .u, .u, .u]) (by simp -dsimp [LIM])]
    rw [seqN (e1 := [.p (.ad a), .p (.lst [.bl false, .bl false, .bl true, .bl false, .bl false, .bl false, .bl false, .bl false, .bl false, .bl false, .bl false, .bl false, .bl false, .bl false, .bl true]), .u, .u, .u, .u]) (by simp -dsimp [LIM])]
    rw [seqN (e1 := [.p (.ad a), .p (.lst [.bl false, .bl false, .bl true, .bl false, .bl false, .bl false, .bl false, .bl false, .bl false, .bl false, .bl false, .bl false, .bl false, .bl false, .bl true]), .p (.str "manner turn code depth place number box way index seen text there many undo base value"), .u, .u, .u]) (by simp -dsimp)]
    rw [seqN (e1 := [.p (.ad a), .p (.lst [.bl false, .bl false, .bl true, .bl false, .bl false, .bl false, .bl false, .bl false, .bl false, .bl false, .bl false, .bl false, .bl false, .bl false, .bl true]), .p (.str "manner turn code depth place number box way index seen text there many undo base value"), .p (.lst [.str "code", .str "base", .str "value"]), .u, .u]) ?_]
    · kernel_rfl
    · have hi : iZpL (aCons (eFr (eSplit (eVar 2) (eC (.str " ")))) (aCons (eOp gAdd (eVar 1) (eFr (eLst (aCons (eIsE a true (eVar 0)) aNil)))) aNil)) [.p (.ad a), .p (.lst [.bl false, .bl false, .bl true, .bl false, .bl false, .bl false, .bl false, .bl false, .bl false, .bl false, .bl false, .bl false, .bl false, .bl false, .bl true]), .p (.str "manner turn code depth place number box way index seen text there many undo base value"), .u, .u, .u] = .ok (zipL [.str "manner", .str "turn", .str "code", .str "depth", .str "place", .str "number", .str "box", .str "way", .str "index", .str "seen", .str "text", .str "there", .str "many", .str "undo", .str "base", .str "value"] [.bl false, .bl false, .bl true, .bl false, .bl false, .bl false, .bl false, .bl false, .bl false, .bl false, .bl false, .bl false, .bl false, .bl false, .bl true, .bl true]) [.p (.ad a), .p (.lst [.bl false, .bl false, .bl true, .bl false, .bl false, .bl false, .bl false, .bl false, .bl false, .bl false, .bl false, .bl false, .bl false, .bl false, .bl true]), .p (.str "manner turn code depth place number box way index seen text there many undo base value"), .u, .u, .u] := by simp -dsimp [LIM, e]
      have hc : lcL (gT 2 (gsCons (gN 4) (gsCons (gN 5) gsNil))) (tE (eVar 5)) (eVar 4) [4, 5] (zipL [.str "manner", .str "turn", .str "code", .str "depth", .str "place", .str "number", .str "box", .str "way", .str "index", .str "seen", .str "text", .str "there", .str "many", .str "undo", .str "base", .str "value"] [.bl false, .bl false, .bl true, .bl false, .bl false, .bl false, .bl false, .bl false, .bl false, .bl false, .bl false, .bl false, .bl false, .bl false, .bl true, .bl true]) [.p (.ad a), .p (.lst [.bl false, .bl false, .bl true, .bl false, .bl false, .bl false, .bl false, .bl false, .bl false, .bl false, .bl false, .bl false, .bl false, .bl false, .bl true]), .p (.str "manner turn code depth place number box way index seen text there many undo base value"), .u, .u, .u] = .ok (.lst [.str "code", .str "base", .str "value"]) [.p (.ad a), .p (.lst [.bl false, .bl false, .bl true, .bl false, .bl false, .bl false, .bl false, .bl false, .bl false, .bl false, .bl false, .bl false, .bl false, .bl false, .bl true]), .p (.str "manner turn code depth place number box way index seen text there many undo base value"), .u, .u, .u] := by kernel_rfl
      unfold sFzA sSetO eLc
      rw [hi, Rx.bind_ok, hc, Rx.out_ok]
      rfl
  unfold fnD
  rw [show stE none 0 [DL.D.ad a] ++ List.replicate (6 - [DL.D.ad a].length) Sl.u = [.p (.ad a), .u, .u, .u, .u, .u] from rfl, key]
  rfl
theorem nm_3 : ∀ a, fnD 6 none false (nmB false false false true false false false false false false false false false false true true a) [.ad a] = .ok (.str "depth") .non := fun a => by
  have e : gSplit "manner turn code depth place number box way index seen text there many undo base value" (.str " ") = some (.lst [.str "manner", .str "turn", .str "code", .str "depth", .str "place", .str "number", .str "box", .str "way", .str "index", .str "seen", .str "text", .str "there", .str "many", .str "undo", .str "base", .str "value"]) := by kernel_rfl
  have e2 : gEq (.lst [.str "base", .str "value"]) (.lst [.str "base", .str "value"]) = some (.bl true) := by kernel_rfl
  have key : nmB false false false true false false false false false false false false false false true true a [.p (.ad a), .u, .u, .u, .u, .u] = .rt (.str "depth") [.p (.ad a), .p (.lst [.bl false, .bl false, .bl false, .bl true, .bl false, .bl false, .bl false, .bl false, .bl false, .bl false, .bl false, .bl false, .bl false, .bl false, .bl true]), .p (.str "manner turn code depth place number box way index seen text there many undo base value"), .p (.lst [.str "depth", .str "base", .str "value"]), .u, .u] := by
    unfold nmB
    rw [seqN (e1 := [.p (.ad a), .p (.lst [.bl false, .bl false, .bl false]), .u, .u, .u, .u]) (by simp -dsimp [LIM])]
    rw [seqN (e1 := [.p (.ad a), .p (.lst [.bl false, .bl false, .bl false, .bl true, .bl false, .bl false]), .u, .u, .u, .u]) (by simp -dsimp [LIM])]
    rw [seqN (e1 := [.p (.ad a), .p (.lst [.bl false, .bl false, .bl false, .bl true, .bl false, .bl false, .bl false, .bl false, .bl false]), .u, .u, .u, .u]) (by simp -dsimp [LIM])]
    rw [seqN (e1 := [.p (.ad a), .p (.lst [.bl false, .bl false, .bl false, .bl true, .bl false, .bl false, .bl false, .bl false, .bl false, .bl false, .bl false, .bl false]), .u, .u, .u, .u]) (by simp -dsimp [LIM])]
    rw [seqN (e1 := [.p (.ad a), .p (.lst [.bl false, .bl false, .bl false, .bl true, .bl false, .bl false, .bl false, .bl false, .bl false, .bl false, .bl false, .bl false, .bl false, .bl false, .bl true]), .u, .u, .u, .u]) (by simp -dsimp [LIM])]
    rw [seqN (e1 := [.p (.ad a), .p (.lst [.bl false, .bl false, .bl false, .bl true, .bl false, .bl false, .bl false, .bl false, .bl false, .bl false, .bl false, .bl false, .bl false, .bl false, .bl true]), .p (.str "manner turn code depth place number box way index seen text there many undo base value"), .u, .u, .u]) (by simp -dsimp)]
    rw [seqN (e1 := [.p (.ad a), .p (.lst [.bl false, .bl false, .bl false, .bl true, .bl false, .bl false, .bl false, .bl false, .bl false, .bl false, .bl false, .bl false, .bl false, .bl false, .bl true]), .p (.str "manner turn code depth place number box way index seen text there many undo base value"), .p (.lst [.str "depth", .str "base", .str "value"]), .u, .u]) ?_]
    · kernel_rfl
    · have hi : iZpL (aCons (eFr (eSplit (eVar 2) (eC (.str " ")))) (aCons (eOp gAdd (eVar 1) (eFr (eLst (aCons (eIsE a true (eVar 0)) aNil)))) aNil)) [.p (.ad a), .p (.lst [.bl false, .bl false, .bl false, .bl true, .bl false, .bl false, .bl false, .bl false, .bl false, .bl false, .bl false, .bl false, .bl false, .bl false, .bl true]), .p (.str "manner turn code depth place number box way index seen text there many undo base value"), .u, .u, .u] = .ok (zipL [.str "manner", .str "turn", .str "code", .str "depth", .str "place", .str "number", .str "box", .str "way", .str "index", .str "seen", .str "text", .str "there", .str "many", .str "undo", .str "base", .str "value"] [.bl false, .bl false, .bl false, .bl true, .bl false, .bl false, .bl false, .bl false, .bl false, .bl false, .bl false, .bl false, .bl false, .bl false, .bl true, .bl true]) [.p (.ad a), .p (.lst [.bl false, .bl false, .bl false, .bl true, .bl false, .bl false, .bl false, .bl false, .bl false, .bl false, .bl false, .bl false, .bl false, .bl false, .bl true]), .p (.str "manner turn code depth place number box way index seen text there many undo base value"), .u, .u, .u] := by simp -dsimp [LIM, e]
      have hc : lcL (gT 2 (gsCons (gN 4) (gsCons (gN 5) gsNil))) (tE (eVar 5)) (eVar 4) [4, 5] (zipL [.str "manner", .str "turn", .str "code", .str "depth", .str "place", .str "number", .str "box", .str "way", .str "index", .str "seen", .str "text", .str "there", .str "many", .str "undo", .str "base", .str "value"] [.bl false, .bl false, .bl false, .bl true, .bl false, .bl false, .bl false, .bl false, .bl false, .bl false, .bl false, .bl false, .bl false, .bl false, .bl true, .bl true]) [.p (.ad a), .p (.lst [.bl false, .bl false, .bl false, .bl true, .bl false, .bl false, .bl false, .bl false, .bl false, .bl false, .bl false, .bl false, .bl false, .bl false, .bl true]), .p (.str "manner turn code depth place number box way index seen text there many undo base value"), .u, .u, .u] = .ok (.lst [.str "depth", .str "base", .str "value"]) [.p (.ad a), .p (.lst [.bl false, .bl false, .bl false, .bl true, .bl false, .bl false, .bl false, .bl false, .bl false, .bl false, .bl false, .bl false, .bl false, .bl false, .bl true]), .p (.str "manner turn code depth place number box way index seen text there many undo base value"), .u, .u, .u] := by kernel_rfl
      unfold sFzA sSetO eLc
      rw [hi, Rx.bind_ok, hc, Rx.out_ok]
      rfl
  unfold fnD
  rw [show stE none 0 [DL.D.ad a] ++ List.replicate (6 - [DL.D.ad a].length) Sl.u = [.p (.ad a), .u, .u, .u, .u, .u] from rfl, key]
  rfl
theorem nm_4 : ∀ a, fnD 6 none false (nmB false false false false true false false false false false false false false false true true a) [.ad a] = .ok (.str "place") .non := fun a => by
  have e : gSplit "manner turn code depth place number box way index seen text there many undo base value" (.str " ") = some (.lst [.str "manner", .str "turn", .str "code", .str "depth", .str "place", .str "number", .str "box", .str "way", .str "index", .str "seen", .str "text", .str "there", .str "many", .str "undo", .str "base", .str "value"]) := by kernel_rfl
  have e2 : gEq (.lst [.str "base", .str "value"]) (.lst [.str "base", .str "value"]) = some (.bl true) := by kernel_rfl
  have key : nmB false false false false true false false false false false false false false false true true a [.p (.ad a), .u, .u, .u, .u, .u] = .rt (.str "place") [.p (.ad a), .p (.lst [.bl false, .bl false, .bl false, .bl false, .bl true, .bl false, .bl false, .bl false, .bl false, .bl false, .bl false, .bl false, .bl false, .bl false, .bl true]), .p (.str "manner turn code depth place number box way index seen text there many undo base value"), .p (.lst [.str "place", .str "base", .str "value"]), .u, .u] := by
    unfold nmB
    rw [seqN (e1 := [.p (.ad a), .p (.lst [.bl false, .bl false, .bl false]), .u, .u, .u, .u]) (by simp -dsimp [LIM])]
    rw [seqN (e1 := [.p (.ad a), .p (.lst [.bl false, .bl false, .bl false, .bl false, .bl true, .bl false]), .u, .u, .u, .u]) (by simp -dsimp [LIM])]
    rw [seqN (e1 := [.p (.ad a), .p (.lst [.bl false, .bl false, .bl false, .bl false, .bl true, .bl false, .bl false, .bl false, .bl false]), .u, .u, .u, .u]) (by simp -dsimp [LIM])]
    rw [seqN (e1 := [.p (.ad a), .p (.lst [.bl false, .bl false, .bl false, .bl false, .bl true, .bl false, .bl false, .bl false, .bl false, .bl false, .bl false, .bl false]), .u, .u, .u, .u]) (by simp -dsimp [LIM])]
    rw [seqN (e1 := [.p (.ad a), .p (.lst [.bl false, .bl false, .bl false, .bl false, .bl true, .bl false, .bl false, .bl false, .bl false, .bl false, .bl false, .bl false, .bl false, .bl false, .bl true]), .u, .u, .u, .u]) (by simp -dsimp [LIM])]
    rw [seqN (e1 := [.p (.ad a), .p (.lst [.bl false, .bl false, .bl false, .bl false, .bl true, .bl false, .bl false, .bl false, .bl false, .bl false, .bl false, .bl false, .bl false, .bl false, .bl true]), .p (.str "manner turn code depth place number box way index seen text there many undo base value"), .u, .u, .u]) (by simp -dsimp)]
    rw [seqN (e1 := [.p (.ad a), .p (.lst [.bl false, .bl false, .bl false, .bl false, .bl true, .bl false, .bl false, .bl false, .bl false, .bl false, .bl false, .bl false, .bl false, .bl false, .bl true]), .p (.str "manner turn code depth place number box way index seen text there many undo base value"), .p (.lst [.str "place", .str "base", .str "value"]), .u, .u]) ?_]
    · kernel_rfl
    · have hi : iZpL (aCons (eFr (eSplit (eVar 2) (eC (.str " ")))) (aCons (eOp gAdd (eVar 1) (eFr (eLst (aCons (eIsE a true (eVar 0)) aNil)))) aNil)) [.p (.ad a), .p (.lst [.bl false, .bl false, .bl false, .bl false, .bl true, .bl false, .bl false, .bl false, .bl false, .bl false, .bl false, .bl false, .bl false, .bl false, .bl true]), .p (.str "manner turn code depth place number box way index seen text there many undo base value"), .u, .u, .u] = .ok (zipL [.str "manner", .str "turn", .str "code", .str "depth", .str "place", .str "number", .str "box", .str "way", .str "index", .str "seen", .str "text", .str "there", .str "many", .str "undo", .str "base", .str "value"] [.bl false, .bl false, .bl false, .bl false, .bl true, .bl false, .bl false, .bl false, .bl false, .bl false, .bl false, .bl false, .bl false, .bl false, .bl true, .bl true]) [.p (.ad a), .p (.lst [.bl false, .bl false, .bl false, .bl false, .bl true, .bl false, .bl false, .bl false, .bl false, .bl false, .bl false, .bl false, .bl false, .bl false, .bl true]), .p (.str "manner turn code depth place number box way index seen text there many undo base value"), .u, .u, .u] := by simp -dsimp [LIM, e]
      have hc : lcL (gT 2 (gsCons (gN 4) (gsCons (gN 5) gsNil))) (tE (eVar 5)) (eVar 4) [4, 5] (zipL [.str "manner", .str "turn", .str "code", .str "depth", .str "place", .str "number", .str "box", .str "way", .str "index", .str "seen", .str "text", .str "there", .str "many", .str "undo", .str "base", .str "value"] [.bl false, .bl false, .bl false, .bl false, .bl true, .bl false, .bl false, .bl false, .bl false, .bl false, .bl false, .bl false, .bl false, .bl false, .bl true, .bl true]) [.p (.ad a), .p (.lst [.bl false, .bl false, .bl false, .bl false, .bl true, .bl false, .bl false, .bl false, .bl false, .bl false, .bl false, .bl false, .bl false, .bl false, .bl true]), .p (.str "manner turn code depth place number box way index seen text there many undo base value"), .u, .u, .u] = .ok (.lst [.str "place", .str "base", .str "value"]) [.p (.ad a), .p (.lst [.bl false, .bl false, .bl false, .bl false, .bl true, .bl false, .bl false, .bl false, .bl false, .bl false, .bl false, .bl false, .bl false, .bl false, .bl true]), .p (.str "manner turn code depth place number box way index seen text there many undo base value"), .u, .u, .u] := by kernel_rfl
      unfold sFzA sSetO eLc
      rw [hi, Rx.bind_ok, hc, Rx.out_ok]
      rfl
  unfold fnD
  rw [show stE none 0 [DL.D.ad a] ++ List.replicate (6 - [DL.D.ad a].length) Sl.u = [.p (.ad a), .u, .u, .u, .u, .u] from rfl, key]
  rfl
theorem nm_5 : ∀ a, fnD 6 none false (nmB false false false false false true false false false false false false false false true true a) [.ad a] = .ok (.str "number") .non := fun a => by
  have e : gSplit "manner turn code depth place number box way index seen text there many undo base value" (.str " ") = some (.lst [.str "manner", .str "turn", .str "code", .str "depth", .str "place", .str "number", .str "box", .str "way", .str "index", .str "seen", .str "text", .str "there", .str "many", .str "undo", .str "base", .str "value"]) := by kernel_rfl
  have e2 : gEq (.lst [.str "base", .str "value"]) (.lst [.str "base", .str "value"]) = some (.bl true) := by kernel_rfl
  have key : nmB false false false false false true false false false false false false false false true true a [.p (.ad a), .u, .u, .u, .u, .u] = .rt (.str "number") [.p (.ad a), .p (.lst [.bl false, .bl false, .bl false, .bl false, .bl false, .bl true, .bl false, .bl false, .bl false, .bl false, .bl false, .bl false, .bl false, .bl false, .bl true]), .p (.str "manner turn code depth place number box way index seen text there many undo base value"), .p (.lst [.str "number", .str "base", .str "value"]), .u, .u] := by
    unfold nmB
    rw [seqN (e1 := [.p (.ad a), .p (.lst [.bl false, .bl false, .bl false]), .u, .u, .u, .u]) (by simp -dsimp [LIM])]
    rw [seqN (e1 := [.p (.ad a), .p (.lst [.bl false, .bl false, .bl false, .bl false, .bl false, .bl true]), .u, .u, .u, .u]) (by simp -dsimp [LIM])]
    rw [seqN (e1 := [.p (.ad a), .p (.lst [.bl false, .bl false, .bl false, .bl false, .bl false, .bl true, .bl false, .bl false, .bl false]), .u, .u, .u, .u]) (by simp -dsimp [LIM])]
    rw [seqN (e1 := [.p (.ad a), .p (.lst [.bl false, .bl false, .bl false, .bl false, .bl false, .bl true, .bl false, .bl false, .bl false, .bl false, .bl false, .bl false]), .u, .u, .u, .u]) (by simp -dsimp [LIM])]
    rw [seqN (e1 := [.p (.ad a), .p (.lst [.bl false, .bl false, .bl false, .bl false, .bl false, .bl true, .bl false, .bl false, .bl false, .bl false, .bl false, .bl false, .bl false, .bl false, .bl true]), .u, .u, .u, .u]) (by simp -dsimp [LIM])]
    rw [seqN (e1 := [.p (.ad a), .p (.lst [.bl false, .bl false, .bl false, .bl false, .bl false, .bl true, .bl false, .bl false, .bl false, .bl false, .bl false, .bl false, .bl false, .bl false, .bl true]), .p (.str "manner turn code depth place number box way index seen text there many undo base value"), .u, .u, .u]) (by simp -dsimp)]
    rw [seqN (e1 := [.p (.ad a), .p (.lst [.bl false, .bl false, .bl false, .bl false, .bl false, .bl true, .bl false, .bl false, .bl false, .bl false, .bl false, .bl false, .bl false, .bl false, .bl true]), .p (.str "manner turn code depth place number box way index seen text there many undo base value"), .p (.lst [.str "number", .str "base", .str "value"]), .u, .u]) ?_]
    · kernel_rfl
    · have hi : iZpL (aCons (eFr (eSplit (eVar 2) (eC (.str " ")))) (aCons (eOp gAdd (eVar 1) (eFr (eLst (aCons (eIsE a true (eVar 0)) aNil)))) aNil)) [.p (.ad a), .p (.lst [.bl false, .bl false, .bl false, .bl false, .bl false, .bl true, .bl false, .bl false, .bl false, .bl false, .bl false, .bl false, .bl false, .bl false, .bl true]), .p (.str "manner turn code depth place number box way index seen text there many undo base value"), .u, .u, .u] = .ok (zipL [.str "manner", .str "turn", .str "code", .str "depth", .str "place", .str "number", .str "box", .str "way", .str "index", .str "seen", .str "text", .str "there", .str "many", .str "undo", .str "base", .str "value"] [.bl false, .bl false, .bl false, .bl false, .bl false, .bl true, .bl false, .bl false, .bl false, .bl false, .bl false, .bl false, .bl false, .bl false, .bl true, .bl true]) [.p (.ad a), .p (.lst [.bl false, .bl false, .bl false, .bl false, .bl false, .bl true, .bl false, .bl false, .bl false, .bl false, .bl false, .bl false, .bl false, .bl false, .bl true]), .p (.str "manner turn code depth place number box way index seen text there many undo base value"), .u, .u, .u] := by simp -dsimp [LIM, e]
      have hc : lcL (gT 2 (gsCons (gN 4) (gsCons (gN 5) gsNil))) (tE (eVar 5)) (eVar 4) [4, 5] (zipL [.str "manner", .str "turn", .str "code", .str "depth", .str "place", .str "number", .str "box", .str "way", .str "index", .str "seen", .str "text", .str "there", .str "many", .str "undo", .str "base", .str "value"] [.bl false, .bl false, .bl false, .bl false, .bl false, .bl true, .bl false, .bl false, .bl false, .bl false, .bl false, .bl false, .bl false, .bl false, .bl true, .bl true]) [.p (.ad a), .p (.lst [.bl false, .bl false, .bl false, .bl false, .bl false, .bl true, .bl false, .bl false, .bl false, .bl false, .bl false, .bl false, .bl false, .bl false, .bl true]), .p (.str "manner turn code depth place number box way index seen text there many undo base value"), .u, .u, .u] = .ok (.lst [.str "number", .str "base", .str "value"]) [.p (.ad a), .p (.lst [.bl false, .bl false, .bl false, .bl false, .bl false, .bl true, .bl false, .bl false, .bl false, .bl false, .bl false, .bl false, .bl false, .bl false, .bl true]), .p (.str "manner turn code depth place number box way index seen text there many undo base value"), .u, .u, .u] := by kernel_rfl
      unfold sFzA sSetO eLc
      rw [hi, Rx.bind_ok, hc, Rx.out_ok]
      rfl
  unfold fnD
  rw [show stE none 0 [DL.D.ad a] ++ List.replicate (6 - [DL.D.ad a].length) Sl.u = [.p (.ad a), .u, .u, .u, .u, .u] from rfl, key]
  rfl
theorem nm_6 : ∀ a, fnD 6 none false (nmB false false false false false false true false false false false false false false true true a) [.ad a] = .ok (.str "box") .non := fun a => by
  have e : gSplit "manner turn code depth place number box way index seen text there many undo base value" (.str " ") = some (.lst [.str "manner", .str "turn", .str "code", .str "depth", .str "place", .str "number", .str "box", .str "way", .str "index", .str "seen", .str "text", .str "there", .str "many", .str "undo", .str "base", .str "value"]) := by kernel_rfl
  have e2 : gEq (.lst [.str "base", .str "value"]) (.lst [.str "base", .str "value"]) = some (.bl true) := by kernel_rfl
  have key : nmB false false false false false false true false false false false false false false true true a [.p (.ad a), .u, .u, .u, .u, .u] = .rt (.str "box") [.p (.ad a), .p (.lst [.bl false, .bl false, .bl false, .bl false, .bl false, .bl false, .bl true, .bl false, .bl false, .bl false, .bl false, .bl false, .bl false, .bl false, .bl true]), .p (.str "manner turn code depth place number box way index seen text there many undo base value"), .p (.lst [.str "box", .str "base", .str "value"]), .u, .u] := by
    unfold nmB
    rw [seqN (e1 := [.p (.ad a), .p (.lst [.bl false, .bl false, .bl false]), .u, .u, .u, .u]) (by simp -dsimp [LIM])]
    rw [seqN (e1 := [.p (.ad a), .p (.lst [.bl false, .bl false, .bl false, .bl false, .bl false, .bl false]), .u, .u, .u, .u]) (by simp -dsimp [LIM])]
    rw [seqN (e1 := [.p (.ad a), .p (.lst [.bl false, .bl false, .bl false, .bl false, .bl false, .bl false, .bl true, .bl false, .bl false]), .u, .u, .u, .u]) (by simp -dsimp [LIM])]
    rw [seqN (e1 := [.p (.ad a), .p (.lst [.bl false, .bl false, .bl false, .bl false, .bl false, .bl false, .bl true, .bl false, .bl false, .bl false, .bl false, .bl false]), .u, .u, .u, .u]) (by simp -dsimp [LIM])]
    rw [seqN (e1 := [.p (.ad a), .p (.lst [.bl false, .bl false, .bl false, .bl false, .bl false, .bl false, .bl true, .bl false, .bl false, .bl false, .bl false, .bl false, .bl false, .bl false, .bl true]), .u, .u, .u, .u]) (by simp -dsimp [LIM])]
    rw [seqN (e1 := [.p (.ad a), .p (.lst [.bl false, .bl false, .bl false, .bl false, .bl false, .bl false, .bl true, .bl false, .bl false, .bl false, .bl false, .bl false, .bl false, .bl false, .bl true]), .p (.str "manner turn code depth place number box way index seen text there many undo base value"), .u, .u, .u]) (by simp -dsimp)]
    rw [seqN (e1 := [.p (.ad a), .p (.lst [.bl false, .bl false, .bl false, .bl false, .bl false, .bl false, .bl true, .bl false, .bl false, .bl false, .bl false, .bl false, .bl false, .bl false, .bl true]), .p (.str "manner turn code depth place number box way index seen text there many undo base value"), .p (.lst [.str "box", .str "base", .str "value"]), .u, .u]) ?_]
    · kernel_rfl
    · have hi : iZpL (aCons (eFr (eSplit (eVar 2) (eC (.str " ")))) (aCons (eOp gAdd (eVar 1) (eFr (eLst (aCons (eIsE a true (eVar 0)) aNil)))) aNil)) [.p (.ad a), .p (.lst [.bl false, .bl false, .bl false, .bl false, .bl false, .bl false, .bl true, .bl false, .bl false, .bl false, .bl false, .bl false, .bl false, .bl false, .bl true]), .p (.str "manner turn code depth place number box way index seen text there many undo base value"), .u, .u, .u] = .ok (zipL [.str "manner", .str "turn", .str "code", .str "depth", .str "place", .str "number", .str "box", .str "way", .str "index", .str "seen", .str "text", .str "there", .str "many", .str "undo", .str "base", .str "value"] [.bl false, .bl false, .bl false, .bl false, .bl false, .bl false, .bl true, .bl false, .bl false, .bl false, .bl false, .bl false, .bl false, .bl false, .bl true, .bl true]) [.p (.ad a), .p (.lst [.bl false, .bl false, .bl false, .bl false, .bl false, .bl false, .bl true, .bl false, .bl false, .bl false, .bl false, .bl false, .bl false, .bl false, .bl true]), .p (.str "manner turn code depth place number box way index seen text there many undo base value"), .u, .u, .u] := by simp -dsimp [LIM, e]
      have hc : lcL (gT 2 (gsCons (gN 4) (gsCons (gN 5) gsNil))) (tE (eVar 5)) (eVar 4) [4, 5] (zipL [.str "manner", .str "turn", .str "code", .str "depth", .str "place", .str "number", .str "box", .str "way", .str "index", .str "seen", .str "text", .str "there", .str "many", .str "undo", .str "base", .str "value"] [.bl false, .bl false, .bl false, .bl false, .bl false, .bl false, .bl true, .bl false, .bl false, .bl false, .bl false, .bl false, .bl false, .bl false, .bl true, .bl true]) [.p (.ad a), .p (.lst [.bl false, .bl false, .bl false, .bl false, .bl false, .bl false, .bl true, .bl false, .bl false, .bl false, .bl false, .bl false, .bl false, .bl false, .bl true]), .p (.str "manner turn code depth place number box way index seen text there many undo base value"), .u, .u, .u] = .ok (.lst [.str "box", .str "base", .str "value"]) [.p (.ad a), .p (.lst [.bl false, .bl false, .bl false, .bl false, .bl false, .bl false, .bl true, .bl false, .bl false, .bl false, .bl false, .bl false, .bl false, .bl false, .bl true]), .p (.str "manner turn code depth place number box way index seen text there many undo base value"), .u, .u, .u] := by kernel_rfl
      unfold sFzA sSetO eLc
      rw [hi, Rx.bind_ok, hc, Rx.out_ok]
      rfl
  unfold fnD
  rw [show stE none 0 [DL.D.ad a] ++ List.replicate (6 - [DL.D.ad a].length) Sl.u = [.p (.ad a), .u, .u, .u, .u, .u] from rfl, key]
  rfl
theorem nm_7 : ∀ a, fnD 6 none false (nmB false false false false false false false true false false false false false false true true a) [.ad a] = .ok (.str "way") .non := fun a => by
  have e : gSplit "manner turn code depth place number box way index seen text there many undo base value" (.str " ") = some (.lst [.str "manner", .str "turn", .str "code", .str "depth", .str "place", .str "number", .str "box", .str "way", .str "index", .str "seen", .str "text", .str "there", .str "many", .str "undo", .str "base", .str "value"]) := by kernel_rfl
  have e2 : gEq (.lst [.str "base", .str "value"]) (.lst [.str "base", .str "value"]) = some (.bl true) := by kernel_rfl
  have key : nmB false false false false false false false true false false false false false false true true a [.p (.ad a), .u, .u, .u, .u, .u] = .rt (.str "way") [.p (.ad a), .p (.lst [.bl false, .bl false, .bl false, .bl false, .bl false, .bl false, .bl false, .bl true, .bl false, .bl false, .bl false, .bl false, .bl false, .bl false, .bl true]), .p (.str "manner turn code depth place number box way index seen text there many undo base value"), .p (.lst [.str "way", .str "base", .str "value"]), .u, .u] := by
    unfold nmB
    rw [seqN (e1 := [.p (.ad a), .p (.lst [.bl false, .bl false, .bl false]), .u, .u, .u, .u]) (by simp -dsimp [LIM])]
    rw [seqN (e1 := [.p (.ad a), .p (.lst [.bl false, .bl false, .bl false, .bl false, .bl false, .bl false]), .u, .u, .u, .u]) (by simp -dsimp [LIM])]
    rw [seqN (e1 := [.p (.ad a), .p (.lst [.bl false, .bl false, .bl false, .bl false, .bl false, .bl false, .bl false, .bl true, .bl false]), .u, .u, .u, .u]) (by simp -dsimp [LIM])]
    rw [seqN (e1 := [.p (.ad a), .p (.lst [.bl false, .bl false, .bl false, .bl false, .bl false, .bl false, .bl false, .bl true, .bl false, .bl false, .bl false, .bl false]), .u, .u, .u, .u]) (by simp -dsimp [LIM])]
    rw [seqN (e1 := [.p (.ad a), .p (.lst [.bl false, .bl false, .bl false, .bl false, .bl false, .bl false, .bl false, .bl true, .bl false, .bl false, .bl false, .bl false, .bl false, .bl false, .bl true]), .u, .u, .u, .u]) (by simp -dsimp [LIM])]
    rw [seqN (e1 := [.p (.ad a), .p (.lst [.bl false, .bl false, .bl false, .bl false, .bl false, .bl false, .bl false, .bl true, .bl false, .bl false, .bl false, .bl false, .bl false, .bl false, .bl true]), .p (.str "manner turn code depth place number box way index seen text there many undo base value"), .u, .u, .u]) (by simp -dsimp)]
    rw [seqN (e1 := [.p (.ad a), .p (.lst [.bl false, .bl false, .bl false, .bl false, .bl false, .bl false, .bl false, .bl true, .bl false, .bl false, .bl false, .bl false, .bl false, .bl false, .bl true]), .p (.str "manner turn code depth place number box way index seen text there many undo base value"), .p (.lst [.str "way", .str "base", .str "value"]), .u, .u]) ?_]
    · kernel_rfl
    · have hi : iZpL (aCons (eFr (eSplit (eVar 2) (eC (.str " ")))) (aCons (eOp gAdd (eVar 1) (eFr (eLst (aCons (eIsE a true (eVar 0)) aNil)))) aNil)) [.p (.ad a), .p (.lst [.bl false, .bl false, .bl false, .bl false, .bl false, .bl false, .bl false, .bl true, .bl false, .bl false, .bl false, .bl false, .bl false, .bl false, .bl true]), .p (.str "manner turn code depth place number box way index seen text there many undo base value"), .u, .u, .u] = .ok (zipL [.str "manner", .str "turn", .str "code", .str "depth", .str "place", .str "number", .str "box", .str "way", .str "index", .str "seen", .str "text", .str "there", .str "many", .str "undo", .str "base", .str "value"] [.bl false, .bl false, .bl false, .bl false, .bl false, .bl false, .bl false, .bl true, .bl false, .bl false, .bl false, .bl false, .bl false, .bl false, .bl true, .bl true]) [.p (.ad a), .p (.lst [.bl false, .bl false, .bl false, .bl false, .bl false, .bl false, .bl false, .bl true, .bl false, .bl false, .bl false, .bl false, .bl false, .bl false, .bl true]), .p (.str "manner turn code depth place number box way index seen text there many undo base value"), .u, .u, .u] := by simp -dsimp [LIM, e]
      have hc : lcL (gT 2 (gsCons (gN 4) (gsCons (gN 5) gsNil))) (tE (eVar 5)) (eVar 4) [4, 5] (zipL [.str "manner", .str "turn", .str "code", .str "depth", .str "place", .str "number", .str "box", .str "way", .str "index", .str "seen", .str "text", .str "there", .str "many", .str "undo", .str "base", .str "value"] [.bl false, .bl false, .bl false, .bl false, .bl false, .bl false, .bl false, .bl true, .bl false, .bl false, .bl false, .bl false, .bl false, .bl false, .bl true, .bl true]) [.p (.ad a), .p (.lst [.bl false, .bl false, .bl false, .bl false, .bl false, .bl false, .bl false, .bl true, .bl false, .bl false, .bl false, .bl false, .bl false, .bl false, .bl true]), .p (.str "manner turn code depth place number box way index seen text there many undo base value"), .u, .u, .u] = .ok (.lst [.str "way", .str "base", .str "value"]) [.p (.ad a), .p (.lst [.bl false, .bl false, .bl false, .bl false, .bl false, .bl false, .bl false, .bl true, .bl false, .bl false, .bl false, .bl false, .bl false, .bl false, .bl true]), .p (.str "manner turn code depth place number box way index seen text there many undo base value"), .u, .u, .u] := by kernel_rfl
      unfold sFzA sSetO eLc
      rw [hi, Rx.bind_ok, hc, Rx.out_ok]
      rfl
  unfold fnD
  rw [show stE none 0 [DL.D.ad a] ++ List.replicate (6 - [DL.D.ad a].length) Sl.u = [.p (.ad a), .u, .u, .u, .u, .u] from rfl, key]
  rfl
theorem nm_8 : ∀ a, fnD 6 none false (nmB false false false false false false false false true false false false false false true true a) [.ad a] = .ok (.str "index") .non := fun a => by
  have e : gSplit "manner turn code depth place number box way index seen text there many undo base value" (.str " ") = some (.lst [.str "manner", .str "turn", .str "code", .str "depth", .str "place", .str "number", .str "box", .str "way", .str "index", .str "seen", .str "text", .str "there", .str "many", .str "undo", .str "base", .str "value"]) := by kernel_rfl
  have e2 : gEq (.lst [.str "base", .str "value"]) (.lst [.str "base", .str "value"]) = some (.bl true) := by kernel_rfl
  have key : nmB false false false false false false false false true false false false false false true true a [.p (.ad a), .u, .u, .u, .u, .u] = .rt (.str "index") [.p (.ad a), .p (.lst [.bl false, .bl false, .bl false, .bl false, .bl false, .bl false, .bl false, .bl false, .bl true, .bl false, .bl false, .bl false, .bl false, .bl false, .bl true]), .p (.str "manner turn code depth place number box way index seen text there many undo base value"), .p (.lst [.str "index", .str "base", .str "value"]), .u, .u] := by
    unfold nmB
    rw [seqN (e1 := [.p (.ad a), .p (.lst [.bl false, .bl false, .bl false]), .u, .u, .u, .u]) (by simp -dsimp [LIM])]
    rw [seqN (e1 := [.p (.ad a), .p (.lst [.bl false, .bl false, .bl false, .bl false, .bl false, .bl false]), .u, .u, .u, .u]) (by simp -dsimp [LIM])]
    rw [seqN (e1 := [.p (.ad a), .p (.lst [.bl false, .bl false, .bl false, .bl false, .bl false, .bl false, .bl false, .bl false, .bl true]), .u, .u, .u, .u]) (by simp -dsimp [LIM])]
    rw [seqN (e1 := [.p (.ad a), .p (.lst [.bl false, .bl false, .bl false, .bl false, .bl false, .bl false, .bl false, .bl false, .bl true, .bl false, .bl false, .bl false]), .u, .u, .u, .u]) (by simp -dsimp [LIM])]
    rw [seqN (e1 := [.p (.ad a), .p (.lst [.bl false, .bl false, .bl false, .bl false, .bl false, .bl false, .bl false, .bl false, .bl true, .bl false, .bl false, .bl false, .bl false, .bl false, .bl true]), .u, .u, .u, .u]) (by simp -dsimp [LIM])]
    rw [seqN (e1 := [.p (.ad a), .p (.lst [.bl false, .bl false, .bl false, .bl false, .bl false, .bl false, .bl false, .bl false, .bl true, .bl false, .bl false, .bl false, .bl false, .bl false, .bl true]), .p (.str "manner turn code depth place number box way index seen text there many undo base value"), .u, .u, .u]) (by simp -dsimp)]
    rw [seqN (e1 := [.p (.ad a), .p (.lst [.bl false, .bl false, .bl false, .bl false, .bl false, .bl false, .bl false, .bl false, .bl true, .bl false, .bl false, .bl false, .bl false, .bl false, .bl true]), .p (.str "manner turn code depth place number box way index seen text there many undo base value"), .p (.lst [.str "index", .str "base", .str "value"]), .u, .u]) ?_]
    · kernel_rfl
    · have hi : iZpL (aCons (eFr (eSplit (eVar 2) (eC (.str " ")))) (aCons (eOp gAdd (eVar 1) (eFr (eLst (aCons (eIsE a true (eVar 0)) aNil)))) aNil)) [.p (.ad a), .p (.lst [.bl false, .bl false, .bl false, .bl false, .bl false, .bl false, .bl false, .bl false, .bl true, .bl false, .bl false, .bl false, .bl false, .bl false, .bl true]), .p (.str "manner turn code depth place number box way index seen text there many undo base value"), .u, .u, .u] = .ok (zipL [.str "manner", .str "turn", .str "code", .str "depth", .str "place", .str "number", .str "box", .str "way", .str "index", .str "seen", .str "text", .str "there", .str "many", .str "undo", .str "base", .str "value"] [.bl false, .bl false, .bl false, .bl false, .bl false, .bl false, .bl false, .bl false, .bl true, .bl false, .bl false, .bl false, .bl false, .bl false, .bl true, .bl true]) [.p (.ad a), .p (.lst [.bl false, .bl false, .bl false, .bl false, .bl false, .bl false, .bl false, .bl false, .bl true, .bl false, .bl false, .bl false, .bl false, .bl false, .bl true]), .p (.str "manner turn code depth place number box way index seen text there many undo base value"), .u, .u, .u] := by simp -dsimp [LIM, e]
      have hc : lcL (gT 2 (gsCons (gN 4) (gsCons (gN 5) gsNil))) (tE (eVar 5)) (eVar 4) [4, 5] (zipL [.str "manner", .str "turn", .str "code", .str "depth", .str "place", .str "number", .str "box", .str "way", .str "index", .str "seen", .str "text", .str "there", .str "many", .str "undo", .str "base", .str "value"] [.bl false, .bl false, .bl false, .bl false, .bl false, .bl false, .bl false, .bl false, .bl true, .bl false, .bl false, .bl false, .bl false, .bl false, .bl true, .bl true]) [.p (.ad a), .p (.lst [.bl false, .bl false, .bl false, .bl false, .bl false, .bl false, .bl false, .bl false, .bl true, .bl false, .bl false, .bl false, .bl false, .bl false, .bl true]), .p (.str "manner turn code depth place number box way index seen text there many undo base value"), .u, .u, .u] = .ok (.lst [.str "index", .str "base", .str "value"]) [.p (.ad a), .p (.lst [.bl false, .bl false, .bl false, .bl false, .bl false, .bl false, .bl false, .bl false, .bl true, .bl false, .bl false, .bl false, .bl false, .bl false, .bl true]), .p (.str "manner turn code depth place number box way index seen text there many undo base value"), .u, .u, .u] := by kernel_rfl
      unfold sFzA sSetO eLc
      rw [hi, Rx.bind_ok, hc, Rx.out_ok]
      rfl
  unfold fnD
  rw [show stE none 0 [DL.D.ad a] ++ List.replicate (6 - [DL.D.ad a].length) Sl.u = [.p (.ad a), .u, .u, .u, .u, .u] from rfl, key]
  rfl
theorem nm_9 : ∀ a, fnD 6 none false (nmB false false false false false false false false false true false false false false true true a) [.ad a] = .ok (.str "seen") .non := fun a => by
  have e : gSplit "manner turn code depth place number box way index seen text there many undo base value" (.str " ") = some (.lst [.str "manner", .str "turn", .str "code", .str "depth", .str "place", .str "number", .str "box", .str "way", .str "index", .str "seen", .str "text", .str "there", .str "many", .str "undo", .str "base", .str "value"]) := by kernel_rfl
  have e2 : gEq (.lst [.str "base", .str "value"]) (.lst [.str "base", .str "value"]) = some (.bl true) := by kernel_rfl
  have key : nmB false false false false false false false false false true false false false false true true a [.p (.ad a), .u, .u, .u, .u, .u] = .rt (.str "seen") [.p (.ad a), .p (.lst [.bl false, .bl false, .bl false, .bl false, .bl false, .bl false, .bl false, .bl false, .bl false, .bl true, .bl false, .bl false, .bl false, .bl false, .bl true]), .p (.str "manner turn code depth place number box way index seen text there many undo base value"), .p (.lst [.str "seen", .str "base", .str "value"]), .u, .u] := by
    unfold nmB
    rw [seqN (e1 := [.p (.ad a), .p (.lst [.bl false, .bl false, .bl false]), .u, .u, .u, .u]) (by simp -dsimp [LIM])]
    rw [seqN (e1 := [.p (.ad a), .p (.lst [.bl false, .bl false, .bl false, .bl false, .bl false, .bl false]), .u, .u, .u, .u]) (by simp -dsimp [LIM])]
    rw [seqN (e1 := [.p (.ad a), .p (.lst [.bl false, .bl false, .bl false, .bl false, .bl false, .bl false, .bl false, .bl false, .bl false]), .u, .u, .u, .u]) (by simp -dsimp [LIM])]
    rw [seqN (e1 := [.p (.ad a), .p (.lst [.bl false, .bl false, .bl false, .bl false, .bl false, .bl false, .bl false, .bl false, .bl false, .bl true, .bl false, .bl false]), .u, .u, .u, .u]) (by simp -dsimp [LIM])]
    rw [seqN (e1 := [.p (.ad a), .p (.lst [.bl false, .bl false, .bl false, .bl false, .bl false, .bl false, .bl false, .bl false, .bl false, .bl true, .bl false, .bl false, .bl false, .bl false, .bl true]), .u, .u, .u, .u]) (by simp -dsimp [LIM])]
    rw [seqN (e1 := [.p (.ad a), .p (.lst [.bl false, .bl false, .bl false, .bl false, .bl false, .bl false, .bl false, .bl false, .bl false, .bl true, .bl false, .bl false, .bl false, .bl false, .bl true]), .p (.str "manner turn code depth place number box way index seen text there many undo base value"), .u, .u, .u]) (by simp -dsimp)]
    rw [seqN (e1 := [.p (.ad a), .p (.lst [.bl false, .bl false, .bl false, .bl false, .bl false, .bl false, .bl false, .bl false, .bl false, .bl true, .bl false, .bl false, .bl false, .bl false, .bl true]), .p (.str "manner turn code depth place number box way index seen text there many undo base value"), .p (.lst [.str "seen", .str "base", .str "value"]), .u, .u]) ?_]
    · kernel_rfl
    · have hi : iZpL (aCons (eFr (eSplit (eVar 2) (eC (.str " ")))) (aCons (eOp gAdd (eVar 1) (eFr (eLst (aCons (eIsE a true (eVar 0)) aNil)))) aNil)) [.p (.ad a), .p (.lst [.bl false, .bl false, .bl false, .bl false, .bl false, .bl false, .bl false, .bl false, .bl false, .bl true, .bl false, .bl false, .bl false, .bl false, .bl true]), .p (.str "manner turn code depth place number box way index seen text there many undo base value"), .u, .u, .u] = .ok (zipL [.str "manner", .str "turn", .str "code", .str "depth", .str "place", .str "number", .str "box", .str "way", .str "index", .str "seen", .str "text", .str "there", .str "many", .str "undo", .str "base", .str "value"] [.bl false, .bl false, .bl false, .bl false, .bl false, .bl false, .bl false, .bl false, .bl false, .bl true, .bl false, .bl false, .bl false, .bl false, .bl true, .bl true]) [.p (.ad a), .p (.lst [.bl false, .bl false, .bl false, .bl false, .bl false, .bl false, .bl false, .bl false, .bl false, .bl true, .bl false, .bl false, .bl false, .bl false, .bl true]), .p (.str "manner turn code depth place number box way index seen text there many undo base value"), .u, .u, .u] := by simp -dsimp [LIM, e]
      have hc : lcL (gT 2 (gsCons (gN 4) (gsCons (gN 5) gsNil))) (tE (eVar 5)) (eVar 4) [4, 5] (zipL [.str "manner", .str "turn", .str "code", .str "depth", .str "place", .str "number", .str "box", .str "way", .str "index", .str "seen", .str "text", .str "there", .str "many", .str "undo", .str "base", .str "value"] [.bl false, .bl false, .bl false, .bl false, .bl false, .bl false, .bl false, .bl false, .bl false, .bl true, .bl false, .bl false, .bl false, .bl false, .bl true, .bl true]) [.p (.ad a), .p (.lst [.bl false, .bl false, .bl false, .bl false, .bl false, .bl false, .bl false, .bl false, .bl false, .bl true, .bl false, .bl false, .bl false, .bl false, .bl true]), .p (.str "manner turn code depth place number box way index seen text there many undo base value"), .u, .u, .u] = .ok (.lst [.str "seen", .str "base", .str "value"]) [.p (.ad a), .p (.lst [.bl false, .bl false, .bl false, .bl false, .bl false, .bl false, .bl false, .bl false, .bl false, .bl true, .bl false, .bl false, .bl false, .bl false, .bl true]), .p (.str "manner turn code depth place number box way index seen text there many undo base value"), .u, .u, .u] := by kernel_rfl
      unfold sFzA sSetO eLc
      rw [hi, Rx.bind_ok, hc, Rx.out_ok]
      rfl
  unfold fnD
  rw [show stE none 0 [DL.D.ad a] ++ List.replicate (6 - [DL.D.ad a].length) Sl.u = [.p (.ad a), .u, .u, .u, .u, .u] from rfl, key]
  rfl
theorem nm_10 : ∀ a, fnD 6 none false (nmB false false false false false false false false false false true false false false true true a) [.ad a] = .ok (.str "text") .non := fun a => by
  have e : gSplit "manner turn code depth place number box way index seen text there many undo base value" (.str " ") = some (.lst [.str "manner", .str "turn", .str "code", .str "depth", .str "place", .str "number", .str "box", .str "way", .str "index", .str "seen", .str "text", .str "there", .str "many", .str "undo", .str "base", .str "value"]) := by kernel_rfl
  have e2 : gEq (.lst [.str "base", .str "value"]) (.lst [.str "base", .str "value"]) = some (.bl true) := by kernel_rfl
  have key : nmB false false false false false false false false false false true false false false true true a [.p (.ad a), .u, .u, .u, .u, .u] = .rt (.str "text") [.p (.ad a), .p (.lst [.bl false, .bl false, .bl false, .bl false, .bl false, .bl false, .bl false, .bl false, .bl false, .bl false, .bl true, .bl false, .bl false, .bl false, .bl true]), .p (.str "manner turn code depth place number box way index seen text there many undo base value"), .p (.lst [.str "text", .str "base", .str "value"]), .u, .u] := by
    unfold nmB
    rw [seqN (e1 := [.p (.ad a), .p (.lst [.bl false, .bl false, .bl false]), .u, .u, .u, .u]) (by simp -dsimp [LIM])]
    rw [seqN (e1 := [.p (.ad a), .p (.lst [.bl false, .bl false, .bl false, .bl false, .bl false, .bl false]), .u, .u, .u, .u]) (by simp -dsimp [LIM])]
    rw [seqN (e1 := [.p (.ad a), .p (.lst [.bl false, .bl false, .bl false, .bl false, .bl false, .bl false, .bl false, .bl false, .bl false]), .u, .u, .u, .u]) (by simp -dsimp [LIM])]
    rw [seqN (e1 := [.p (.ad a), .p (.lst [.bl false, .bl false, .bl false, .bl false, .bl false, .bl false, .bl false, .bl false, .bl false, .bl false, .bl true, .bl false]), .u, .u, .u, .u]) (by simp -dsimp [LIM])]
    rw [seqN (e1 := [.p (.ad a), .p (.lst [.bl false, .bl false, .bl false, .bl false, .bl false, .bl false, .bl false, .bl false, .bl false, .bl false, .bl true, .bl false, .bl false, .bl false, .bl true]), .u, .u, .u, .u]) (by simp -dsimp [LIM])]
    rw [seqN (e1 := [.p (.ad a), .p (.lst [.bl false, .bl false, .bl false, .bl false, .bl false, .bl false, .bl false, .bl false, .bl false, .bl false, .bl true, .bl false, .bl false, .bl false, .bl true]), .p (.str "manner turn code depth place number box way index seen text there many undo base value"), .u, .u, .u]) (by simp -dsimp)]
    rw [seqN (e1 := [.p (.ad a), .p (.lst [.bl false, .bl false, .bl false, .bl false, .bl false, .bl false, .bl false, .bl false, .bl false, .bl false, .bl true, .bl false, .bl false, .bl false, .bl true]), .p (.str "manner turn code depth place number box way index seen text there many undo base value"), .p (.lst [.str "text", .str "base", .str "value"]), .u, .u]) ?_]
    · kernel_rfl
    · have hi : iZpL (aCons (eFr (eSplit (eVar 2) (eC (.str " ")))) (aCons (eOp gAdd (eVar 1) (eFr (eLst (aCons (eIsE a true (eVar 0)) aNil)))) aNil)) [.p (.ad a), .p (.lst [.bl false, .bl false, .bl false, .bl false, .bl false, .bl false, .bl false, .bl false, .bl false, .bl false, .bl true, .bl false, .bl false, .bl false, .bl true]), .p (.str "manner turn code depth place number box way index seen text there many undo base value"), .u, .u, .u] = .ok (zipL [.str "manner", .str "turn", .str "code", .str "depth", .str "place", .str "number", .str "box", .str "way", .str "index", .str "seen", .str "text", .str "there", .str "many", .str "undo", .str "base", .str "value"] [.bl false, .bl false, .bl false, .bl false, .bl false, .bl false, .bl false, .bl false, .bl false, .bl false, .bl true, .bl false, .bl false, .bl false, .bl true, .bl true]) [.p (.ad a), .p (.lst [.bl false, .bl false, .bl false, .bl false, .bl false, .bl false, .bl false, .bl false, .bl false, .bl false, .bl true, .bl false, .bl false, .bl false, .bl true]), .p (.str "manner turn code depth place number box way index seen text there many undo base value"), .u, .u, .u] := by simp -dsimp [LIM, e]
      have hc : lcL (gT 2 (gsCons (gN 4) (gsCons (gN 5) gsNil))) (tE (eVar 5)) (eVar 4) [4, 5] (zipL [.str "manner", .str "turn", .str "code", .str "depth", .str "place", .str "number", .str "box", .str "way", .str "index", .str "seen", .str "text", .str "there", .str "many", .str "undo", .str "base", .str "value"] [.bl false, .bl false, .bl false, .bl false, .bl false, .bl false, .bl false, .bl false, .bl false, .bl false, .bl true, .bl false, .bl false, .bl false, .bl true, .bl true]) [.p (.ad a), .p (.lst [.bl false, .bl false, .bl false, .bl false, .bl false, .bl false, .bl false, .bl false, .bl false, .bl false, .bl true, .bl false, .bl false, .bl false, .bl true]), .p (.str "manner turn code depth place number box way index seen text there many undo base value"), .u, .u, .u] = .ok (.lst [.str "text", .str "base", .str "value"]) [.p (.ad a), .p (.lst [.bl false, .bl false, .bl false, .bl false, .bl false, .bl false, .bl false, .bl false, .bl false, .bl false, .bl true, .bl false, .bl false, .bl false, .bl true]), .p (.str "manner turn code depth place number box way index seen text there many undo base value"), .u, .u, .u] := by kernel_rfl
      unfold sFzA sSetO eLc
      rw [hi, Rx.bind_ok, hc, Rx.out_ok]
      rfl
  unfold fnD
  rw [show stE none 0 [DL.D.ad a] ++ List.replicate (6 - [DL.D.ad a].length) Sl.u = [.p (.ad a), .u, .u, .u, .u, .u] from rfl, key]
  rfl
theorem nm_11 : ∀ a, fnD 6 none false (nmB false false false false false false false false false false false true false false true true a) [.ad a] = .ok (.str "there") .non := fun a => by
  have e : gSplit "manner turn code depth place number box way index seen text there many undo base value" (.str " ") = some (.lst [.str "manner", .str "turn", .str "code", .str "depth", .str "place", .str "number", .str "box", .str "way", .str "index", .str "seen", .str "text", .str "there", .str "many", .str "undo", .str "base", .str "value"]) := by kernel_rfl
  have e2 : gEq (.lst [.str "base", .str "value"]) (.lst [.str "base", .str "value"]) = some (.bl true) := by kernel_rfl
  have key : nmB false false false false false false false false false false false true false false true true a [.p (.ad a), .u, .u, .u, .u, .u] = .rt (.str "there") [.p (.ad a), .p (.lst [.bl false, .bl false, .bl false, .bl false, .bl false, .bl false, .bl false, .bl false, .bl false, .bl false, .bl false, .bl true, .bl false, .bl false, .bl true]), .p (.str "manner turn code depth place number box way index seen text there many undo base value"), .p (.lst [.str "there", .str "base", .str "value"]), .u, .u] := by
    unfold nmB
    rw [seqN (e1 := [.p (.ad a), .p (.lst [.bl false, .bl false, .bl false]), .u, .u, .u, .u]) (by simp -dsimp [LIM])]
    rw [seqN (e1 := [.p (.ad a), .p (.lst [.bl false, .bl false, .bl false, .bl false, .bl false, .bl false]), .u, .u, .u, .u]) (by simp -dsimp [LIM])]
    rw [seqN (e1 := [.p (.ad a), .p (.lst [.bl false, .bl false, .bl false, .bl false, .bl false, .bl false, .bl false, .bl false, .bl false]), .u, .u, .u, .u]) (by simp -dsimp [LIM])]
    rw [seqN (e1 := [.p (.ad a), .p (.lst [.bl false, .bl false, .bl false, .bl false, .bl false, .bl false, .bl false, .bl false, .bl false, .bl false, .bl false, .bl true]), .u, .u, .u, .u]) (by simp -dsimp [LIM])]
    rw [seqN (e1 := [.p (.ad a), .p (.lst [.bl false, .bl false, .bl false, .bl false, .bl false, .bl false, .bl false, .bl false, .bl false, .bl false, .bl false, .bl true, .bl false, .bl false, .bl true]), .u, .u, .u, .u]) (by simp -dsimp [LIM])]
    rw [seqN (e1 := [.p (.ad a), .p (.lst [.bl false, .bl false, .bl false, .bl false, .bl false, .bl false, .bl false, .bl false, .bl false, .bl false, .bl false, .bl true, .bl false, .bl false, .bl true]), .p (.str "manner turn code depth place number box way index seen text there many undo base value"), .u, .u, .u]) (by simp -dsimp)]
    rw [seqN (e1 := [.p (.ad a), .p (.lst [.bl false, .bl false, .bl false, .bl false, .bl false, .bl false, .bl false, .bl false, .bl false, .bl false, .bl false, .bl true, .bl false, .bl false, .bl true]), .p (.str "manner turn code depth place number box way index seen text there many undo base value"), .p (.lst [.str "there", .str "base", .str "value"]), .u, .u]) ?_]
    · kernel_rfl
    · have hi : iZpL (aCons (eFr (eSplit (eVar 2) (eC (.str " ")))) (aCons (eOp gAdd (eVar 1) (eFr (eLst (aCons (eIsE a true (eVar 0)) aNil)))) aNil)) [.p (.ad a), .p (.lst [.bl false, .bl false, .bl false, .bl false, .bl false, .bl false, .bl false, .bl false, .bl false, .bl false, .bl false, .bl true, .bl false, .bl false, .bl true]), .p (.str "manner turn code depth place number box way index seen text there many undo base value"), .u, .u, .u] = .ok (zipL [.str "manner", .str "turn", .str "code", .str "depth", .str "place", .str "number", .str "box", .str "way", .str "index", .str "seen", .str "text", .str "there", .str "many", .str "undo", .str "base", .str "value"] [.bl false, .bl false, .bl false, .bl false, .bl false, .bl false, .bl false, .bl false, .bl false, .bl false, .bl false, .bl true, .bl false, .bl false, .bl true, .bl true]) [.p (.ad a), .p (.lst [.bl false, .bl false, .bl false, .bl false, .bl false, .bl false, .bl false, .bl false, .bl false, .bl false, .bl false, .bl true, .bl false, .bl false, .bl true]), .p (.str "manner turn code depth place number box way index seen text there many undo base value"), .u, .u, .u] := by simp -dsimp [LIM, e]
      have hc : lcL (gT 2 (gsCons (gN 4) (gsCons (gN 5) gsNil))) (tE (eVar 5)) (eVar 4) [4, 5] (zipL [.str "manner", .str "turn", .str "code", .str "depth", .str "place", .str "number", .str "box", .str "way", .str "index", .str "seen", .str "text", .str "there", .str "many", .str "undo", .str "base", .str "value"] [.bl false, .bl false, .bl false, .bl false, .bl false, .bl false, .bl false, .bl false, .bl false, .bl false, .bl false, .bl true, .bl false, .bl false, .bl true, .bl true]) [.p (.ad a), .p (.lst [.bl false, .bl false, .bl false, .bl false, .bl false, .bl false, .bl false, .bl false, .bl false, .bl false, .bl false, .bl true, .bl false, .bl false, .bl true]), .p (.str "manner turn code depth place number box way index seen text there many undo base value"), .u, .u, .u] = .ok (.lst [.str "there", .str "base", .str "value"]) [.p (.ad a), .p (.lst [.bl false, .bl false, .bl false, .bl false, .bl false, .bl false, .bl false, .bl false, .bl false, .bl false, .bl false, .bl true, .bl false, .bl false, .bl true]), .p (.str "manner turn code depth place number box way index seen text there many undo base value"), .u, .u, .u] := by kernel_rfl
      unfold sFzA sSetO eLc
      rw [hi, Rx.bind_ok, hc, Rx.out_ok]
      rfl
  unfold fnD
  rw [show stE none 0 [DL.D.ad a] ++ List.replicate (6 - [DL.D.ad a].length) Sl.u = [.p (.ad a), .u, .u, .u, .u, .u] from rfl, key]
  rfl
theorem nm_12 : ∀ a, fnD 6 none false (nmB false false false false false false false false false false false false true false true true a) [.ad a] = .ok (.str "many") .non := fun a => by
  have e : gSplit "manner turn code depth place number box way index seen text there many undo base value" (.str " ") = some (.lst [.str "manner", .str "turn", .str "code", .str "depth", .str "place", .str "number", .str "box", .str "way", .str "index", .str "seen", .str "text", .str "there", .str "many", .str "undo", .str "base", .str "value"]) := by kernel_rfl
  have e2 : gEq (.lst [.str "base", .str "value"]) (.lst [.str "base", .str "value"]) = some (.bl true) := by kernel_rfl
  have key : nmB false false false false false false false false false false false false true false true true a [.p (.ad a), .u, .u, .u, .u, .u] = .rt (.str "many") [.p (.ad a), .p (.lst [.bl false, .bl false, .bl false, .bl false, .bl false, .bl false, .bl false, .bl false, .bl false, .bl false, .bl false, .bl false, .bl true, .bl false, .bl true]), .p (.str "manner turn code depth place number box way index seen text there many undo base value"), .p (.lst [.str "many", .str "base", .str "value"]), .u, .u] := by
    unfold nmB
    rw [seqN (e1 := [.p (.ad a), .p (.lst [.bl false, .bl false, .bl false]), .u, .u, .u, .u]) (by simp -dsimp [LIM])]
    rw [seqN (e1 := [.p (.ad a), .p (.lst [.bl false, .bl false, .bl false, .bl false, .bl false, .bl false]), .u, .u, .u, .u]) (by simp -dsimp [LIM])]
    rw [seqN (e1 := [.p (.ad a), .p (.lst [.bl false, .bl false, .bl false, .bl false, .bl false, .bl false, .bl false, .bl false, .bl false]), .u, .u, .u, .u]) (by simp -dsimp [LIM])]
    rw [seqN (e1 := [.p (.ad a), .p (.lst [.bl false, .bl false, .bl false, .bl false, .bl false, .bl false, .bl false, .bl false, .bl false, .bl false, .bl false, .bl false]), .u, .u, .u, .u]) (by simp -dsimp [LIM])]
    rw [seqN (e1 := [.p (.ad a), .p (.lst [.bl false, .bl false, .bl false, .bl false, .bl false, .bl false, .bl false, .bl false, .bl false, .bl false, .bl false, .bl false, .bl true, .bl false, .bl true]), .u, .u, .u, .u]) (by simp -dsimp [LIM])]
    rw [seqN (e1 := [.p (.ad a), .p (.lst [.bl false, .bl false, .bl false, .bl false, .bl false, .bl false, .bl false, .bl false, .bl false, .bl false, .bl false, .bl false, .bl true, .bl false, .bl true]), .p (.str "manner turn code depth place number box way index seen text there many undo base value"), .u, .u, .u]) (by simp -dsimp)]
    rw [seqN (e1 := [.p (.ad a), .p (.lst [.bl false, .bl false, .bl false, .bl false, .bl false, .bl false, .bl false, .bl false, .bl false, .bl false, .bl false, .bl false, .bl true, .bl false, .bl true]), .p (.str "manner turn code depth place number box way index seen text there many undo base value"), .p (.lst [.str "many", .str "base", .str "value"]), .u, .u]) ?_]
    · kernel_rfl
    · have hi : iZpL (aCons (eFr (eSplit (eVar 2) (eC (.str " ")))) (aCons (eOp gAdd (eVar 1) (eFr (eLst (aCons (eIsE a true (eVar 0)) aNil)))) aNil)) [.p (.ad a), .p (.lst [.bl false, .bl false, .bl false, .bl false, .bl false, .bl false, .bl false, .bl false, .bl false, .bl false, .bl false, .bl false, .bl true, .bl false, .bl true]), .p (.str "manner turn code depth place number box way index seen text there many undo base value"), .u, .u, .u] = .ok (zipL [.str "manner", .str "turn", .str "code", .str "depth", .str "place", .str "number", .str "box", .str "way", .str "index", .str "seen", .str "text", .str "there", .str "many", .str "undo", .str "base", .str "value"] [.bl false, .bl false, .bl false, .bl false, .bl false, .bl false, .bl false, .bl false, .bl false, .bl false, .bl false, .bl false, .bl true, .bl false, .bl true, .bl true]) [.p (.ad a), .p (.lst [.bl false, .bl false, .bl false, .bl false, .bl false, .bl false, .bl false, .bl false, .bl false, .bl false, .bl false, .bl false, .bl true, .bl false, .bl true]), .p (.str "manner turn code depth place number box way index seen text there many undo base value"), .u, .u, .u] := by simp -dsimp [LIM, e]
      have hc : lcL (gT 2 (gsCons (gN 4) (gsCons (gN 5) gsNil))) (tE (eVar 5)) (eVar 4) [4, 5] (zipL [.str "manner", .str "turn", .str "code", .str "depth", .str "place", .str "number", .str "box", .str "way", .str "index", .str "seen", .str "text", .str "there", .str "many", .str "undo", .str "base", .str "value"] [.bl false, .bl false, .bl false, .bl false, .bl false, .bl false, .bl false, .bl false, .bl false, .bl false, .bl false, .bl false, .bl true, .bl false, .bl true, .bl true]) [.p (.ad a), .p (.lst [.bl false, .bl false, .bl false, .bl false, .bl false, .bl false, .bl false, .bl false, .bl false, .bl false, .bl false, .bl false, .bl true, .bl false, .bl true]), .p (.str "manner turn code depth place number box way index seen text there many undo base value"), .u, .u, .u] = .ok (.lst [.str "many", .str "base", .str "value"]) [.p (.ad a), .p (.lst [.bl false, .bl false, .bl false, .bl false, .bl false, .bl false, .bl false, .bl false, .bl false, .bl false, .bl false, .bl false, .bl true, .bl false, .bl true]), .p (.str "manner turn code depth place number box way index seen text there many undo base value"), .u, .u, .u] := by kernel_rfl
      unfold sFzA sSetO eLc
      rw [hi, Rx.bind_ok, hc, Rx.out_ok]
      rfl
  unfold fnD
  rw [show stE none 0 [DL.D.ad a] ++ List.replicate (6 - [DL.D.ad a].length) Sl.u = [.p (.ad a), .u, .u, .u, .u, .u] from rfl, key]
  rfl
theorem nm_13 : ∀ a, fnD 6 none false (nmB false false false false false false false false false false false false false true true true a) [.ad a] = .ok (.str "undo") .non := fun a => by
  have e : gSplit "manner turn code depth place number box way index seen text there many undo base value" (.str " ") = some (.lst [.str "manner", .str "turn", .str "code", .str "depth", .str "place", .str "number", .str "box", .str "way", .str "index", .str "seen", .str "text", .str "there", .str "many", .str "undo", .str "base", .str "value"]) := by kernel_rfl
  have e2 : gEq (.lst [.str "base", .str "value"]) (.lst [.str "base", .str "value"]) = some (.bl true) := by kernel_rfl
  have key : nmB false false false false false false false false false false false false false true true true a [.p (.ad a), .u, .u, .u, .u, .u] = .rt (.str "undo") [.p (.ad a), .p (.lst [.bl false, .bl false, .bl false, .bl false, .bl false, .bl false, .bl false, .bl false, .bl false, .bl false, .bl false, .bl false, .bl false, .bl true, .bl true]), .p (.str "manner turn code depth place number box way index seen text there many undo base value"), .p (.lst [.str "undo", .str "base", .str "value"]), .u, .u] := by
    unfold nmB
    rw [seqN (e1 := [.p (.ad a), .p (.lst [.bl false, .bl false, .bl false]), .u, .u, .u, .u]) (by simp -dsimp [LIM])]
    rw [seqN (e1 := [.p (.ad a), .p (.lst [.bl false, .bl false, .bl false, .bl false, .bl false, .bl false]), .u, .u, .u, .u]) (by simp -dsimp [LIM])]
    rw [seqN (e1 := [.p (.ad a), .p (.lst [.bl false, .bl false, .bl false, .bl false, .bl false, .bl false, .bl false, .bl false, .bl false]), .u, .u, .u, .u]) (by simp -dsimp [LIM])]
    rw [seqN (e1 := [.p (.ad a), .p (.lst [.bl false, .bl false, .bl false, .bl false, .bl false, .bl false, .bl false, .bl false, .bl false, .bl false, .bl false, .bl false]), .u, .u, .u, .u]) (by simp -dsimp [LIM])]
    rw [seqN (e1 := [.p (.ad a), .p (.lst [.bl false, .bl false, .bl false, .bl false, .bl false, .bl false, .bl false, .bl false, .bl false, .bl false, .bl false, .bl false, .bl false, .bl true, .bl true]), .u, .u, .u, .u]) (by simp -dsimp [LIM])]
    rw [seqN (e1 := [.p (.ad a), .p (.lst [.bl false, .bl false, .bl false, .bl false, .bl false, .bl false, .bl false, .bl false, .bl false, .bl false, .bl false, .bl false, .bl false, .bl true, .bl true]), .p (.str "manner turn code depth place number box way index seen text there many undo base value"), .u, .u, .u]) (by simp -dsimp)]
    rw [seqN (e1 := [.p (.ad a), .p (.lst [.bl false, .bl false, .bl false, .bl false, .bl false, .bl false, .bl false, .bl false, .bl false, .bl false, .bl false, .bl false, .bl false, .bl true, .bl true]), .p (.str "manner turn code depth place number box way index seen text there many undo base value"), .p (.lst [.str "undo", .str "base", .str "value"]), .u, .u]) ?_]
    · kernel_rfl
    · have hi : iZpL (aCons (eFr (eSplit (eVar 2) (eC (.str " ")))) (aCons (eOp gAdd (eVar 1) (eFr (eLst (aCons (eIsE a true (eVar 0)) aNil)))) aNil)) [.p (.ad a), .p (.lst [.bl false, .bl false, .bl false, .bl false, .bl false, .bl false, .bl false, .bl false, .bl false, .bl false, .bl false, .bl false, .bl false, .bl true, .bl true]), .p (.str "manner turn code depth place number box way index seen text there many undo base value"), .u, .u, .u] = .ok (zipL [.str "manner", .str "turn", .str "code", .str "depth", .str "place", .str "number", .str "box", .str "way", .str "index", .str "seen", .str "text", .str "there", .str "many", .str "undo", .str "base", .str "value"] [.bl false, .bl false, .bl false, .bl false, .bl false, .bl false, .bl false, .bl false, .bl false, .bl false, .bl false, .bl false, .bl false, .bl true, .bl true, .bl true]) [.p (.ad a), .p (.lst [.bl false, .bl false, .bl false, .bl false, .bl false, .bl false, .bl false, .bl false, .bl false, .bl false, .bl false, .bl false, .bl false, .bl true, .bl true]), .p (.str "manner turn code depth place number box way index seen text there many undo base value"), .u, .u, .u] := by simp -dsimp [LIM, e]
      have hc : lcL (gT 2 (gsCons (gN 4) (gsCons (gN 5) gsNil))) (tE (eVar 5)) (eVar 4) [4, 5] (zipL [.str "manner", .str "turn", .str "code", .str "depth", .str "place", .str "number", .str "box", .str "way", .str "index", .str "seen", .str "text", .str "there", .str "many", .str "undo", .str "base", .str "value"] [.bl false, .bl false, .bl false, .bl false, .bl false, .bl false, .bl false, .bl false, .bl false, .bl false, .bl false, .bl false, .bl false, .bl true, .bl true, .bl true]) [.p (.ad a), .p (.lst [.bl false, .bl false, .bl false, .bl false, .bl false, .bl false, .bl false, .bl false, .bl false, .bl false, .bl false, .bl false, .bl false, .bl true, .bl true]), .p (.str "manner turn code depth place number box way index seen text there many undo base value"), .u, .u, .u] = .ok (.lst [.str "undo", .str "base", .str "value"]) [.p (.ad a), .p (.lst [.bl false, .bl false, .bl false, .bl false, .bl false, .bl false, .bl false, .bl false, .bl false, .bl false, .bl false, .bl false, .bl false, .bl true, .bl true]), .p (.str "manner turn code depth place number box way index seen text there many undo base value"), .u, .u, .u] := by kernel_rfl
      unfold sFzA sSetO eLc
      rw [hi, Rx.bind_ok, hc, Rx.out_ok]
      rfl
  unfold fnD
  rw [show stE none 0 [DL.D.ad a] ++ List.replicate (6 - [DL.D.ad a].length) Sl.u = [.p (.ad a), .u, .u, .u, .u, .u] from rfl, key]
  rfl
end CM

namespace K03
open PySem PySem.Spec PyProof.Rows L2 DL DLH CM
def nmT (x : Str) : Option Str := if x = "InvalidManner" then some "manner" else if x = "InvalidCode" then some "code" else none
-- law
def lp_law_1 : Ev → Out :=
 (sAf [5, 9] (sSeq (sSet 9 (eCall (some 0) ev__law_any_code (aCons (eVar 3) (aCons (eVar 4) (aCons (eCall (some 0) ev__law_chosen (aCons (eVar 3) (aCons (eFr (eLst (aCons (eC (.int 0)) (aCons (eC (.int 1)) (aCons (eC (.int 2)) (aCons (eC (.int 3)) (aCons (eC (.int 30)) (aCons (eCall (some 0) ev__law_pick (aCons (eVar 3) (aCons (eC (.int 31)) aNil))) aNil)))))))) aNil))) aNil)))))
 (sIf (tE (eOp gNe (eCall none ev_place_of (aCons (eVar 4) (aCons (eVar 9) aNil))) (eCall none ev__law_place (aCons (eVar 4) (aCons (eVar 9) aNil)))))
 (sRet (eC (.bl false)))
 sNx)))
def lp_law_2 : Ev → Out :=
 (sAf [5, 10] (sSeq (sSet 10 (eCall (some 0) ev__law_pick (aCons (eVar 3) (aCons (eCB gLen (aCons (eVar 7) aNil)) aNil))))
 (sIf (tE (eOp gNe (eCall none ev_place_of (aCons (eVar 4) (aCons (eCall none ev__law_code (aCons (eVar 4) (aCons (eVar 6) (aCons (eVar 10) aNil)))) aNil))) (eOp gIx (eVar 7) (eVar 10))))
 (sRet (eC (.bl false)))
 sNx)))
def lp_law_3 : Ev → Out :=
 (sAf [1, 3, 4, 5, 6, 7, 8, 9, 10] (sSeq (sSetO 3 (eCallF none ev__law_source (aCons (eVar 0) (aCons (eVar 1) aNil))))
 (sSeq (sSet 4 (eCall (some 0) ev__law_manner (aCons (eVar 3) aNil)))
 (sSeq (sFor (iRg (aCons (eC (.int 12)) aNil)) (gN 5) lp_law_1)
 (sSeq (sSet 6 (eOp gAdd (eC (.int 1)) (eCall (some 0) ev__law_pick (aCons (eVar 3) (aCons (eOp gSub (eCall none ev__law_deep (aCons (eVar 4) aNil)) (eC (.int 1))) aNil)))))
 (sSeq (sSet 7 (eCall none ev__law_table (aCons (eVar 4) (aCons (eVar 6) aNil))))
 (sSeq (sIf (tE (eOp gNe (eUn gLenSet (eVar 7)) (eCB gLen (aCons (eVar 7) aNil))))
 (sRet (eC (.bl false)))
 sNx)
 (sSeq (sFor (iRg (aCons (eC (.int 20)) aNil)) (gN 5) lp_law_2)
 (sSeq (sSet 8 (eCall (some 0) ev__law_chosen (aCons (eVar 3) (aCons (eFr (eLst (aCons (eC .non) (aCons (eC (.str "9")) (aCons (eOp gMulS (eC (.str "0")) (eC (.int 31))) (aCons (eC (.int 5)) (aCons (eTup (aCons (eC (.str "0")) aNil)) (aCons (eC (.str "0 ")) aNil)))))))) aNil))))
 (sSeq (sIf (tOr (tE (eOp gNe (eLE nmT (eCall none ev_place_of (aCons (eVar 4) (aCons (eVar 8) aNil)))) (eC (.str "code")))) (tE (eOp gNe (eCall none ev_place_of (aCons (eVar 4) (aCons (eC (.str "")) aNil))) (eTup (aCons (eC (.int 0)) (aCons (eC (.int 0)) aNil))))))
 (sRet (eC (.bl false)))
 sNx)
 (sIf (tE (eOp gNe (eLE nmT (eCall none ev_place_of (aCons (eSl (eVar 4) oNo (oPt (eC (.int 2)))) (aCons (eC (.str "0")) aNil)))) (eC (.str "manner"))))
 (sRet (eC (.bl false)))
 sNx)))))))))))
def bd_law : Ev → Out :=
 (sSeq (sFor (iRg (aCons (eC (.int 10)) aNil)) (gN 1) lp_law_3)
 (sSeq (sSet 2 (eOp gIx (eCall0 ev__law_known) (eC (.int 0))))
 (sRet (eOp gEq (eFr (eLc (iE (eFr (eLst (aCons (eC (.str "12")) (aCons (eC (.str "02")) (aCons (eC (.str "01")) (aCons (eC (.str "30")) aNil))))))) (gN 9) tYs (eCall none ev_place_of (aCons (eVar 2) (aCons (eVar 9) aNil))) [9])) (eFr (eLst (aCons (eTup (aCons (eC (.int 1)) (aCons (eC (.int 3)) aNil))) (aCons (eTup (aCons (eC (.int 1)) (aCons (eC (.int 1)) aNil))) (aCons (eTup (aCons (eC (.int 1)) (aCons (eC (.int 0)) aNil))) (aCons (eTup (aCons (eC (.int 3)) (aCons (eC (.int 1)) aNil))) aNil))))))))))
def ev_law : List D → FOut := fnD 11 none false bd_law
end K03

namespace K03
open PySem PySem.Spec PyProof.Rows L2 DL DLH CM
def topS (i : Nat) : Stmt := PySem.Challenge.pw_curvecodes_k03_whole_places_of_codes.main.body.getD i (.Pass ⟨0, 0, 0, 0⟩)
/-! ### _law_source -/
abbrev s__law_source : Stmt := topS 32
theorem sc__law_source : FnScope ["script", "index", "cell_so", "primes", "prime", "mixed"] ["script", "index"] (defScope s__law_source) := ⟨rfl, rfl, rfl, by decide +kernel, rfl, by decide +kernel, by decide +kernel⟩
/-! ### _law_pick -/
abbrev s__law_pick : Stmt := topS 33
theorem sc__law_pick : FnScope ["source_so", "many", "drawn"] ["source_so", "many"] (defScope s__law_pick) := ⟨rfl, rfl, rfl, by decide +kernel, rfl, by decide +kernel, by decide +kernel⟩
/-! ### _law_chosen -/
abbrev s__law_chosen : Stmt := topS 34
theorem sc__law_chosen : FnScope ["source_so", "some"] ["source_so", "some"] (defScope s__law_chosen) := ⟨rfl, rfl, rfl, by decide +kernel, rfl, by decide +kernel, by decide +kernel⟩
/-! ### _law_shuffled -/
abbrev s__law_shuffled : Stmt := topS 35
theorem sc__law_shuffled : FnScope ["source_so", "some", "left", "found"] ["source_so", "some"] (defScope s__law_shuffled) := ⟨rfl, rfl, rfl, by decide +kernel, rfl, by decide +kernel, by decide +kernel⟩
/-! ### _law_order -/
abbrev s__law_order : Stmt := topS 36
theorem sc__law_order : FnScope ["source_so", "columns", "rows", "way", "found", "row", "line_so", "column"] ["source_so", "columns", "rows"] (defScope s__law_order) := ⟨rfl, rfl, rfl, by decide +kernel, rfl, by decide +kernel, by decide +kernel⟩
/-! ### _law_known -/
abbrev s__law_known : Stmt := topS 37
theorem sc__law_known : FnScope ["one", "two", "three", "four", "found", "order_so", "nexts_so", "rows_so", "across", "down", "row", "spot", "column", "line_so", "led_so"] [] (defScope s__law_known) := ⟨rfl, rfl, rfl, by decide +kernel, rfl, by decide +kernel, by decide +kernel⟩
/-! ### _law_with -/
abbrev s__law_with : Stmt := topS 40
theorem sc__law_with : FnScope ["m", "index_so", "digit", "following", "row", "new"] ["m", "index_so", "digit", "following"] (defScope s__law_with) := ⟨rfl, rfl, rfl, by decide +kernel, rfl, by decide +kernel, by decide +kernel⟩
/-! ### _law_near -/
abbrev s__law_near : Stmt := topS 39
theorem sc__law_near : FnScope ["source_so", "m", "index_so", "digit"] ["source_so", "m"] (defScope s__law_near) := ⟨rfl, rfl, rfl, by decide +kernel, rfl, by decide +kernel, by decide +kernel⟩
/-! ### _law_manner -/
abbrev s__law_manner : Stmt := topS 38
theorem sc__law_manner : FnScope ["source_so", "way", "some", "columns", "rows", "many", "found", "order_so", "turn_so", "m", "spot"] ["source_so"] (defScope s__law_manner) := ⟨rfl, rfl, rfl, by decide +kernel, rfl, by decide +kernel, by decide +kernel⟩
/-! ### _law_table -/
abbrev s__law_table : Stmt := topS 44
theorem sc__law_table : FnScope ["m", "depth_so", "found", "wide", "high", "level", "later", "row", "spots", "column", "line_so", "following", "x", "y"] ["m", "depth_so"] (defScope s__law_table) := ⟨rfl, rfl, rfl, by decide +kernel, rfl, by decide +kernel, by decide +kernel⟩
/-! ### _law_any_code -/
abbrev s__law_any_code : Stmt := topS 46
theorem sc__law_any_code : FnScope ["source_so", "m", "depth_so", "turn_so"] ["source_so", "m", "depth_so"] (defScope s__law_any_code) := ⟨rfl, rfl, rfl, by decide +kernel, rfl, by decide +kernel, by decide +kernel⟩
/-! ### _law_name_of -/
abbrev s__law_name_of : Stmt := topS 47
theorem sc__law_name_of : FnScope ["e", "some", "names", "found", "name", "good"] ["e"] (defScope s__law_name_of) := ⟨rfl, rfl, rfl, by decide +kernel, rfl, by decide +kernel, by decide +kernel⟩
/-! ### _law_error -/
abbrev s__law_error : Stmt := topS 48
theorem sc__law_error : FnScope ["call", "e"] ["call"] (defScope s__law_error) := ⟨rfl, rfl, rfl, by decide +kernel, rfl, by decide +kernel, by decide +kernel⟩
/-! ### is_integer -/
abbrev s_is_integer : Stmt := topS 19
theorem sc_is_integer : FnScope ["value"] ["value"] (defScope s_is_integer) := ⟨rfl, rfl, rfl, by decide +kernel, rfl, by decide +kernel, by decide +kernel⟩
/-! ### is_between -/
abbrev s_is_between : Stmt := topS 20
theorem sc_is_between : FnScope ["value", "low", "high"] ["value", "low", "high"] (defScope s_is_between) := ⟨rfl, rfl, rfl, by decide +kernel, rfl, by decide +kernel, by decide +kernel⟩
/-! ### is_cell -/
abbrev s_is_cell : Stmt := topS 21
theorem sc_is_cell : FnScope ["value", "columns", "rows", "many"] ["value", "columns", "rows", "many"] (defScope s_is_cell) := ⟨rfl, rfl, rfl, by decide +kernel, rfl, by decide +kernel, by decide +kernel⟩
/-! ### is_pattern -/
abbrev s_is_pattern : Stmt := topS 22
theorem sc_is_pattern : FnScope ["value", "columns", "rows", "many", "cell"] ["value", "columns", "rows", "many"] (defScope s_is_pattern) := ⟨rfl, rfl, rfl, by decide +kernel, rfl, by decide +kernel, by decide +kernel⟩
/-! ### a_manner -/
abbrev s_a_manner : Stmt := topS 23
theorem sc_a_manner : FnScope ["value", "columns", "rows", "patterns", "pattern"] ["value"] (defScope s_a_manner) := ⟨rfl, rfl, rfl, by decide +kernel, rfl, by decide +kernel, by decide +kernel⟩
/-! ### need_manner -/
abbrev s_need_manner : Stmt := topS 26
theorem sc_need_manner : FnScope ["value"] ["value"] (defScope s_need_manner) := ⟨rfl, rfl, rfl, by decide +kernel, rfl, by decide +kernel, by decide +kernel⟩
/-! ### are_digits -/
abbrev s_are_digits : Stmt := topS 24
theorem sc_are_digits : FnScope ["value", "many", "sign"] ["value", "many"] (defScope s_are_digits) := ⟨rfl, rfl, rfl, by decide +kernel, rfl, by decide +kernel, by decide +kernel⟩
/-! ### a_code -/
abbrev s_a_code : Stmt := topS 25
theorem sc_a_code : FnScope ["manner", "value"] ["manner", "value"] (defScope s_a_code) := ⟨rfl, rfl, rfl, by decide +kernel, rfl, by decide +kernel, by decide +kernel⟩
/-! ### need_code -/
abbrev s_need_code : Stmt := topS 27
theorem sc_need_code : FnScope ["manner", "value"] ["manner", "value"] (defScope s_need_code) := ⟨rfl, rfl, rfl, by decide +kernel, rfl, by decide +kernel, by decide +kernel⟩
/-! ### place_in -/
abbrev s_place_in : Stmt := topS 29
theorem sc_place_in : FnScope ["manner", "pattern", "code", "column", "row", "sign", "cell"] ["manner", "pattern", "code"] (defScope s_place_in) := ⟨rfl, rfl, rfl, by decide +kernel, rfl, by decide +kernel, by decide +kernel⟩
/-! ### place_of -/
abbrev s_place_of : Stmt := topS 30
theorem sc_place_of : FnScope ["manner", "code"] ["manner", "code"] (defScope s_place_of) := ⟨rfl, rfl, rfl, by decide +kernel, rfl, by decide +kernel, by decide +kernel⟩
/-! ### _law_place_by -/
abbrev s__law_place_by : Stmt := topS 41
theorem sc__law_place_by : FnScope ["m", "index_so", "code_so", "found", "sign", "spot", "wide", "high", "column", "row", "following"] ["m", "index_so", "code_so"] (defScope s__law_place_by) := ⟨rfl, rfl, rfl, by decide +kernel, rfl, by decide +kernel, by decide +kernel⟩
/-! ### _law_place -/
abbrev s__law_place : Stmt := topS 42
theorem sc__law_place : FnScope ["m", "code_so"] ["m", "code_so"] (defScope s__law_place) := ⟨rfl, rfl, rfl, by decide +kernel, rfl, by decide +kernel, by decide +kernel⟩
/-! ### _law_deep -/
abbrev s__law_deep : Stmt := topS 45
theorem sc__law_deep : FnScope ["m"] ["m"] (defScope s__law_deep) := ⟨rfl, rfl, rfl, by decide +kernel, rfl, by decide +kernel, by decide +kernel⟩
/-! ### _law_code -/
abbrev s__law_code : Stmt := topS 43
theorem sc__law_code : FnScope ["m", "depth_so", "number_so", "found", "turn_so"] ["m", "depth_so", "number_so"] (defScope s__law_code) := ⟨rfl, rfl, rfl, by decide +kernel, rfl, by decide +kernel, by decide +kernel⟩
/-! ### law -/
abbrev s_law : Stmt := topS 49
theorem sc_law : FnScope ["script", "k", "hilbert", "source_so", "m", "look", "depth_so", "table_so", "odd", "text", "number_so"] ["script"] (defScope s_law) := ⟨rfl, rfl, rfl, by decide +kernel, rfl, by decide +kernel, by decide +kernel⟩
structure Tx (K : PySem.W.Frag) (mg : Str → Option Value) where
  a__law_source : Addr
  d__law_source : FuncData
  F__law_source : Fun K "_law_source" "_law_source" s__law_source a__law_source d__law_source
  m__law_source : mg "_law_source" = some (.ref a__law_source)
  b__law_source : Binds K d__law_source ["script", "index"] []
  a__law_pick : Addr
  d__law_pick : FuncData
  F__law_pick : Fun K "_law_pick" "_law_pick" s__law_pick a__law_pick d__law_pick
  m__law_pick : mg "_law_pick" = some (.ref a__law_pick)
  b__law_pick : Binds K d__law_pick ["source_so", "many"] []
  a__law_chosen : Addr
  d__law_chosen : FuncData
  F__law_chosen : Fun K "_law_chosen" "_law_chosen" s__law_chosen a__law_chosen d__law_chosen
  m__law_chosen : mg "_law_chosen" = some (.ref a__law_chosen)
  b__law_chosen : Binds K d__law_chosen ["source_so", "some"] []
  a__law_shuffled : Addr
  d__law_shuffled : FuncData
  F__law_shuffled : Fun K "_law_shuffled" "_law_shuffled" s__law_shuffled a__law_shuffled d__law_shuffled
  m__law_shuffled : mg "_law_shuffled" = some (.ref a__law_shuffled)
  b__law_shuffled : Binds K d__law_shuffled ["source_so", "some"] []
  a__law_order : Addr
  d__law_order : FuncData
  F__law_order : Fun K "_law_order" "_law_order" s__law_order a__law_order d__law_order
  m__law_order : mg "_law_order" = some (.ref a__law_order)
  b__law_order : Binds K d__law_order ["source_so", "columns", "rows"] []
  a__law_known : Addr
  d__law_known : FuncData
  F__law_known : Fun K "_law_known" "_law_known" s__law_known a__law_known d__law_known
  m__law_known : mg "_law_known" = some (.ref a__law_known)
  b__law_known : Binds K d__law_known [] []
  a__law_with : Addr
  d__law_with : FuncData
  F__law_with : Fun K "_law_with" "_law_with" s__law_with a__law_with d__law_with
  m__law_with : mg "_law_with" = some (.ref a__law_with)
  b__law_with : Binds K d__law_with ["m", "index_so", "digit", "following"] []
  a__law_near : Addr
  d__law_near : FuncData
  F__law_near : Fun K "_law_near" "_law_near" s__law_near a__law_near d__law_near
  m__law_near : mg "_law_near" = some (.ref a__law_near)
  b__law_near : Binds K d__law_near ["source_so", "m"] []
  a__law_manner : Addr
  d__law_manner : FuncData
  F__law_manner : Fun K "_law_manner" "_law_manner" s__law_manner a__law_manner d__law_manner
  m__law_manner : mg "_law_manner" = some (.ref a__law_manner)
  b__law_manner : Binds K d__law_manner ["source_so"] []
  a__law_table : Addr
  d__law_table : FuncData
  F__law_table : Fun K "_law_table" "_law_table" s__law_table a__law_table d__law_table
  m__law_table : mg "_law_table" = some (.ref a__law_table)
  b__law_table : Binds K d__law_table ["m", "depth_so"] []
  a__law_any_code : Addr
  d__law_any_code : FuncData
  F__law_any_code : Fun K "_law_any_code" "_law_any_code" s__law_any_code a__law_any_code d__law_any_code
  m__law_any_code : mg "_law_any_code" = some (.ref a__law_any_code)
  b__law_any_code : Binds K d__law_any_code ["source_so", "m", "depth_so"] []
  a__law_name_of : Addr
  d__law_name_of : FuncData
  F__law_name_of : Fun K "_law_name_of" "_law_name_of" s__law_name_of a__law_name_of d__law_name_of
  m__law_name_of : mg "_law_name_of" = some (.ref a__law_name_of)
  b__law_name_of : Binds K d__law_name_of ["e"] []
  a__law_error : Addr
  d__law_error : FuncData
  F__law_error : Fun K "_law_error" "_law_error" s__law_error a__law_error d__law_error
  m__law_error : mg "_law_error" = some (.ref a__law_error)
  b__law_error : Binds K d__law_error ["call"] []
  a_is_integer : Addr
  d_is_integer : FuncData
  F_is_integer : Fun K "is_integer" "is_integer" s_is_integer a_is_integer d_is_integer
  m_is_integer : mg "is_integer" = some (.ref a_is_integer)
  b_is_integer : Binds K d_is_integer ["value"] []
  a_is_between : Addr
  d_is_between : FuncData
  F_is_between : Fun K "is_between" "is_between" s_is_between a_is_between d_is_between
  m_is_between : mg "is_between" = some (.ref a_is_between)
  b_is_between : Binds K d_is_between ["value", "low", "high"] []
  a_is_cell : Addr
  d_is_cell : FuncData
  F_is_cell : Fun K "is_cell" "is_cell" s_is_cell a_is_cell d_is_cell
  m_is_cell : mg "is_cell" = some (.ref a_is_cell)
  b_is_cell : Binds K d_is_cell ["value", "columns", "rows", "many"] []
  a_is_pattern : Addr
  d_is_pattern : FuncData
  F_is_pattern : Fun K "is_pattern" "is_pattern" s_is_pattern a_is_pattern d_is_pattern
  m_is_pattern : mg "is_pattern" = some (.ref a_is_pattern)
  b_is_pattern : Binds K d_is_pattern ["value", "columns", "rows", "many"] []
  a_a_manner : Addr
  d_a_manner : FuncData
  F_a_manner : Fun K "a_manner" "a_manner" s_a_manner a_a_manner d_a_manner
  m_a_manner : mg "a_manner" = some (.ref a_a_manner)
  b_a_manner : Binds K d_a_manner ["value"] []
  a_need_manner : Addr
  d_need_manner : FuncData
  F_need_manner : Fun K "need_manner" "need_manner" s_need_manner a_need_manner d_need_manner
  m_need_manner : mg "need_manner" = some (.ref a_need_manner)
  b_need_manner : Binds K d_need_manner ["value"] []
  a_are_digits : Addr
  d_are_digits : FuncData
  F_are_digits : Fun K "are_digits" "are_digits" s_are_digits a_are_digits d_are_digits
  m_are_digits : mg "are_digits" = some (.ref a_are_digits)
  b_are_digits : Binds K d_are_digits ["value", "many"] []
  a_a_code : Addr
  d_a_code : FuncData
  F_a_code : Fun K "a_code" "a_code" s_a_code a_a_code d_a_code
  m_a_code : mg "a_code" = some (.ref a_a_code)
  b_a_code : Binds K d_a_code ["manner", "value"] []
  a_need_code : Addr
  d_need_code : FuncData
  F_need_code : Fun K "need_code" "need_code" s_need_code a_need_code d_need_code
  m_need_code : mg "need_code" = some (.ref a_need_code)
  b_need_code : Binds K d_need_code ["manner", "value"] []
  a_place_in : Addr
  d_place_in : FuncData
  F_place_in : Fun K "place_in" "place_in" s_place_in a_place_in d_place_in
  m_place_in : mg "place_in" = some (.ref a_place_in)
  b_place_in : Binds K d_place_in ["manner", "pattern", "code"] []
  a_place_of : Addr
  d_place_of : FuncData
  F_place_of : Fun K "place_of" "place_of" s_place_of a_place_of d_place_of
  m_place_of : mg "place_of" = some (.ref a_place_of)
  b_place_of : Binds K d_place_of ["manner", "code"] []
  a__law_place_by : Addr
  d__law_place_by : FuncData
  F__law_place_by : Fun K "_law_place_by" "_law_place_by" s__law_place_by a__law_place_by d__law_place_by
  m__law_place_by : mg "_law_place_by" = some (.ref a__law_place_by)
  b__law_place_by : Binds K d__law_place_by ["m", "index_so", "code_so"] []
  a__law_place : Addr
  d__law_place : FuncData
  F__law_place : Fun K "_law_place" "_law_place" s__law_place a__law_place d__law_place
  m__law_place : mg "_law_place" = some (.ref a__law_place)
  b__law_place : Binds K d__law_place ["m", "code_so"] []
  a__law_deep : Addr
  d__law_deep : FuncData
  F__law_deep : Fun K "_law_deep" "_law_deep" s__law_deep a__law_deep d__law_deep
  m__law_deep : mg "_law_deep" = some (.ref a__law_deep)
  b__law_deep : Binds K d__law_deep ["m"] []
  a__law_code : Addr
  d__law_code : FuncData
  F__law_code : Fun K "_law_code" "_law_code" s__law_code a__law_code d__law_code
  m__law_code : mg "_law_code" = some (.ref a__law_code)
  b__law_code : Binds K d__law_code ["m", "depth_so", "number_so"] []
  a_law : Addr
  d_law : FuncData
  F_law : Fun K "law" "law" s_law a_law d_law
  m_law : mg "law" = some (.ref a_law)
  b_law : Binds K d_law ["script"] []
  n_ValueError : mg "ValueError" = none
  n_all : mg "all" = none
  n_bool : mg "bool" = none
  n_int : mg "int" = none
  n_isinstance : mg "isinstance" = none
  n_len : mg "len" = none
  n_list : mg "list" = none
  n_range : mg "range" = none
  n_set : mg "set" = none
  n_str : mg "str" = none
  n_tuple : mg "tuple" = none
  n_zip : mg "zip" = none
  tok_DEEPEST : Tok
  g_DEEPEST : mg "DEEPEST" = some (.int 30 tok_DEEPEST)
  tok_MOST : Tok
  g_MOST : mg "MOST" = some (.int 6 tok_MOST)
  c_CurveError : Addr
  m_CurveError : mg "CurveError" = some (.ref c_CurveError)
  c_InvalidBox : Addr
  m_InvalidBox : mg "InvalidBox" = some (.ref c_InvalidBox)
  c_InvalidDepth : Addr
  m_InvalidDepth : mg "InvalidDepth" = some (.ref c_InvalidDepth)
  c_InvalidIndex : Addr
  m_InvalidIndex : mg "InvalidIndex" = some (.ref c_InvalidIndex)
  c_InvalidNumber : Addr
  m_InvalidNumber : mg "InvalidNumber" = some (.ref c_InvalidNumber)
  c_InvalidPlace : Addr
  m_InvalidPlace : mg "InvalidPlace" = some (.ref c_InvalidPlace)
  c_InvalidSeen : Addr
  m_InvalidSeen : mg "InvalidSeen" = some (.ref c_InvalidSeen)
  c_InvalidText : Addr
  m_InvalidText : mg "InvalidText" = some (.ref c_InvalidText)
  c_InvalidTurn : Addr
  m_InvalidTurn : mg "InvalidTurn" = some (.ref c_InvalidTurn)
  c_InvalidWay : Addr
  m_InvalidWay : mg "InvalidWay" = some (.ref c_InvalidWay)
  c_NotThere : Addr
  m_NotThere : mg "NotThere" = some (.ref c_NotThere)
  c_NothingToUndo : Addr
  m_NothingToUndo : mg "NothingToUndo" = some (.ref c_NothingToUndo)
  c_TooMany : Addr
  m_TooMany : mg "TooMany" = some (.ref c_TooMany)
  c_InvalidCode : Addr
  m_InvalidCode : mg "InvalidCode" = some (.ref c_InvalidCode)
  q_InvalidCode : PySem.W.excIn K c_InvalidCode bmVE "ValueError.__new__" = true
  k_InvalidCode : PySem.W.keepIn K (.ref c_InvalidCode) = true
  s_InvalidCode : PySem.W.subIn K (.ref c_InvalidCode) (.type "BaseException") = some true
  t_InvalidCode : PySem.W.typeIn K (.ref c_InvalidCode) = some (.type "type")
  c_InvalidManner : Addr
  m_InvalidManner : mg "InvalidManner" = some (.ref c_InvalidManner)
  q_InvalidManner : PySem.W.excIn K c_InvalidManner bmVE "ValueError.__new__" = true
  k_InvalidManner : PySem.W.keepIn K (.ref c_InvalidManner) = true
  s_InvalidManner : PySem.W.subIn K (.ref c_InvalidManner) (.type "BaseException") = some true
  t_InvalidManner : PySem.W.typeIn K (.ref c_InvalidManner) = some (.type "type")
  e_InvalidManner : ExcC K c_InvalidManner
  x_InvalidManner : PySem.W.exmOne K (.ref c_InvalidManner) (.ref c_CurveError) = some true
  y_InvalidManner_0 : PySem.W.kitOne K (.ref c_InvalidManner) (.ref c_InvalidManner) = some true
  y_InvalidManner_1 : PySem.W.kitOne K (.ref c_InvalidManner) (.ref c_InvalidTurn) = some false
  y_InvalidManner_2 : PySem.W.kitOne K (.ref c_InvalidManner) (.ref c_InvalidCode) = some false
  y_InvalidManner_3 : PySem.W.kitOne K (.ref c_InvalidManner) (.ref c_InvalidDepth) = some false
  y_InvalidManner_4 : PySem.W.kitOne K (.ref c_InvalidManner) (.ref c_InvalidPlace) = some false
  y_InvalidManner_5 : PySem.W.kitOne K (.ref c_InvalidManner) (.ref c_InvalidNumber) = some false
  y_InvalidManner_6 : PySem.W.kitOne K (.ref c_InvalidManner) (.ref c_InvalidBox) = some false
  y_InvalidManner_7 : PySem.W.kitOne K (.ref c_InvalidManner) (.ref c_InvalidWay) = some false
  y_InvalidManner_8 : PySem.W.kitOne K (.ref c_InvalidManner) (.ref c_InvalidIndex) = some false
  y_InvalidManner_9 : PySem.W.kitOne K (.ref c_InvalidManner) (.ref c_InvalidSeen) = some false
  y_InvalidManner_10 : PySem.W.kitOne K (.ref c_InvalidManner) (.ref c_InvalidText) = some false
  y_InvalidManner_11 : PySem.W.kitOne K (.ref c_InvalidManner) (.ref c_NotThere) = some false
  y_InvalidManner_12 : PySem.W.kitOne K (.ref c_InvalidManner) (.ref c_TooMany) = some false
  y_InvalidManner_13 : PySem.W.kitOne K (.ref c_InvalidManner) (.ref c_NothingToUndo) = some false
  y_InvalidManner_14 : PySem.W.kitOne K (.ref c_InvalidManner) (.ref c_CurveError) = some true
  y_InvalidManner_15 : PySem.W.kitOne K (.ref c_InvalidManner) (.type "ValueError") = some true
  e_InvalidCode : ExcC K c_InvalidCode
  x_InvalidCode : PySem.W.exmOne K (.ref c_InvalidCode) (.ref c_CurveError) = some true
  y_InvalidCode_0 : PySem.W.kitOne K (.ref c_InvalidCode) (.ref c_InvalidManner) = some false
  y_InvalidCode_1 : PySem.W.kitOne K (.ref c_InvalidCode) (.ref c_InvalidTurn) = some false
  y_InvalidCode_2 : PySem.W.kitOne K (.ref c_InvalidCode) (.ref c_InvalidCode) = some true
  y_InvalidCode_3 : PySem.W.kitOne K (.ref c_InvalidCode) (.ref c_InvalidDepth) = some false
  y_InvalidCode_4 : PySem.W.kitOne K (.ref c_InvalidCode) (.ref c_InvalidPlace) = some false
  y_InvalidCode_5 : PySem.W.kitOne K (.ref c_InvalidCode) (.ref c_InvalidNumber) = some false
  y_InvalidCode_6 : PySem.W.kitOne K (.ref c_InvalidCode) (.ref c_InvalidBox) = some false
  y_InvalidCode_7 : PySem.W.kitOne K (.ref c_InvalidCode) (.ref c_InvalidWay) = some false
  y_InvalidCode_8 : PySem.W.kitOne K (.ref c_InvalidCode) (.ref c_InvalidIndex) = some false
  y_InvalidCode_9 : PySem.W.kitOne K (.ref c_InvalidCode) (.ref c_InvalidSeen) = some false
  y_InvalidCode_10 : PySem.W.kitOne K (.ref c_InvalidCode) (.ref c_InvalidText) = some false
  y_InvalidCode_11 : PySem.W.kitOne K (.ref c_InvalidCode) (.ref c_NotThere) = some false
  y_InvalidCode_12 : PySem.W.kitOne K (.ref c_InvalidCode) (.ref c_TooMany) = some false
  y_InvalidCode_13 : PySem.W.kitOne K (.ref c_InvalidCode) (.ref c_NothingToUndo) = some false
  y_InvalidCode_14 : PySem.W.kitOne K (.ref c_InvalidCode) (.ref c_CurveError) = some true
  y_InvalidCode_15 : PySem.W.kitOne K (.ref c_InvalidCode) (.type "ValueError") = some true
  cd_law : Addr
  tp_law : Addr
  hc_law : d_law.code = .ref cd_law
section
variable [Tab] {P : Program} {w : World} {K : PySem.W.Frag} {mg : Str → Option Value} {base : Heap}
theorem ok__law_source (T : Tx K mg) : FnOk P w K mg base (L2N.CX P w) 1 T.a__law_source T.d__law_source ["script", "index"] (spD K mg none true 2 ev__law_source) :=
 fn_okD T.F__law_source sc__law_source (fun cdv A outer s H E hr => show SsOk _ _ _ bd__law_source from
 (ssok_cons (sok_set (fun h => ps_set (i := 2) sc__law_source.nd rfl (.inl (by kernel_rfl)) h) (eok_op d2_add (fun h1 h2 => pe_op op_addX h1 h2) (eok_op d2_mulI (fun h1 h2 => pe_op op_mul h1 h2) eok_int (eok_var (pe_var (i := 1) rfl (.inl (by kernel_rfl))))) eok_int))
 (ssok_cons (sok_if (tok_cmp d2_lt (fun h1 h2 => pt_cmpR op_lt h1 h2 (nomark _)) (eok_var (pe_var (i := 1) rfl (.inl (by kernel_rfl)))) (eok_cb dc_len (fun h => pe_callB call_len (glk (by kernel_rfl)) T.n_len PySem.boot_len h) (aok_cons (eok_var (pe_var (i := 0) rfl (.inl (by kernel_rfl)))) aok_nil)))
 (ssok_one (sok_set (fun h => ps_set (i := 2) sc__law_source.nd rfl (.inl (by kernel_rfl)) h) (eok_ix (eok_var (pe_var (i := 0) rfl (.inl (by kernel_rfl)))) (eok_var (pe_var (i := 1) rfl (.inl (by kernel_rfl)))))))
 ssok_nil)
 (ssok_cons (sok_set (fun h => ps_set (i := 3) sc__law_source.nd rfl (.inl (by kernel_rfl)) h) (eok_tup (aok_cons eok_int (aok_cons eok_int (aok_cons eok_int (aok_cons eok_int (aok_cons eok_int (aok_cons eok_int (aok_cons eok_int (aok_cons eok_int aok_nil))))))))))
 (ssok_cons (sok_set (fun h => ps_set (i := 4) sc__law_source.nd rfl (.inl (by kernel_rfl)) h) (eok_ix (eok_var (pe_var (i := 3) rfl (.inl (by kernel_rfl)))) (eok_op d2_mod (fun h1 h2 => pe_op op_mod h1 h2) (eok_cb dc_int1 (fun h => pe_callTy call_intX (glk (by kernel_rfl)) T.n_int PyProof.Rows.boot_int h) (aok_cons (eok_var (pe_var (i := 1) rfl (.inl (by kernel_rfl)))) aok_nil)) eok_int)))
 (ssok_cons (sok_set (fun h => ps_set (i := 5) sc__law_source.nd rfl (.inl (by kernel_rfl)) h) (eok_op d2_mod (fun h1 h2 => pe_op op_mod h1 h2) (eok_cb dc_int1 (fun h => pe_callTy call_intX (glk (by kernel_rfl)) T.n_int PyProof.Rows.boot_int h) (aok_cons (eok_op d2_add (fun h1 h2 => pe_op op_addX h1 h2) (eok_op d2_mulI (fun h1 h2 => pe_op op_mul h1 h2) (eok_op d2_mod (fun h1 h2 => pe_op op_mod h1 h2) (eok_cb dc_int1 (fun h => pe_callTy call_intX (glk (by kernel_rfl)) T.n_int PyProof.Rows.boot_int h) (aok_cons (eok_var (pe_var (i := 2) rfl (.inl (by kernel_rfl)))) aok_nil)) (eok_var (pe_var (i := 4) rfl (.inl (by kernel_rfl))))) eok_int) (eok_op d2_mulI (fun h1 h2 => pe_op op_mul h1 h2) eok_int (eok_op d2_add (fun h1 h2 => pe_op op_addX h1 h2) (eok_var (pe_var (i := 1) rfl (.inl (by kernel_rfl)))) eok_int))) aok_nil)) (eok_var (pe_var (i := 4) rfl (.inl (by kernel_rfl))))))
 (ssok_cons (sok_if (tok_cmp d2_ge (fun h1 h2 => pt_cmpR op_ge h1 h2 (nomark _)) (eok_var (pe_var (i := 2) rfl (.inl (by kernel_rfl)))) (eok_op d2_pow (fun h1 h2 => pe_op op_pow h1 h2) eok_int eok_int))
 (ssok_one (sok_retF (fok_lst (aok_cons (eok_cb dc_int1 (fun h => pe_callTy call_intX (glk (by kernel_rfl)) T.n_int PyProof.Rows.boot_int h) (aok_cons (eok_var (pe_var (i := 2) rfl (.inl (by kernel_rfl)))) aok_nil)) (aok_cons (eok_var (pe_var (i := 5) rfl (.inl (by kernel_rfl)))) (aok_cons (eok_var (pe_var (i := 4) rfl (.inl (by kernel_rfl)))) aok_nil))))))
 ssok_nil)
 (ssok_one (sok_retF (fok_lst (aok_cons eok_int (aok_cons (eok_var (pe_var (i := 5) rfl (.inl (by kernel_rfl)))) (aok_cons (eok_var (pe_var (i := 4) rfl (.inl (by kernel_rfl)))) aok_nil)))))))))))))
theorem ok__law_pick (T : Tx K mg) : FnOk P w K mg base (L2N.CX P w) 1 T.a__law_pick T.d__law_pick ["source_so", "many"] (spD K mg (some 0) false 2 ev__law_pick) :=
 fn_okD T.F__law_pick sc__law_pick (fun cdv A outer s H E hr => show SsOk _ _ _ bd__law_pick from
 (ssok_cons (sok_if (tok_cmp d2_gt (fun h1 h2 => pt_cmpR op_gt h1 h2 (nomark _)) (eok_ix (eok_var (pe_var (i := 0) rfl (.inl (by kernel_rfl)))) eok_int) eok_int)
 (ssok_cons (sok_set (fun h => ps_set (i := 2) sc__law_pick.nd rfl (.inl (by kernel_rfl)) h) (eok_op d2_mod (fun h1 h2 => pe_op op_mod h1 h2) (eok_cb dc_int1 (fun h => pe_callTy call_intX (glk (by kernel_rfl)) T.n_int PyProof.Rows.boot_int h) (aok_cons (eok_ix (eok_var (pe_var (i := 0) rfl (.inl (by kernel_rfl)))) eok_int) aok_nil)) (eok_var (pe_var (i := 1) rfl (.inl (by kernel_rfl))))))
 (ssok_cons (sok_put (fun h hi => ps_asg h (pg_sub (pe_var (i := 0) rfl (.inl (by kernel_rfl))) hi set_list)) (eok_op d2_div (fun h1 h2 => pe_op op_fdivW h1 h2) (eok_ix (eok_var (pe_var (i := 0) rfl (.inl (by kernel_rfl)))) eok_int) (eok_var (pe_var (i := 1) rfl (.inl (by kernel_rfl))))) eok_int)
 (ssok_one (sok_ret (eok_var (pe_var (i := 2) rfl (.inl (by kernel_rfl))))))))
 ssok_nil)
 (ssok_cons (sok_put (fun h hi => ps_asg h (pg_sub (pe_var (i := 0) rfl (.inl (by kernel_rfl))) hi set_list)) (eok_op d2_mod (fun h1 h2 => pe_op op_mod h1 h2) (eok_cb dc_int1 (fun h => pe_callTy call_intX (glk (by kernel_rfl)) T.n_int PyProof.Rows.boot_int h) (aok_cons (eok_op d2_add (fun h1 h2 => pe_op op_addX h1 h2) (eok_op d2_mulI (fun h1 h2 => pe_op op_mul h1 h2) (eok_ix (eok_var (pe_var (i := 0) rfl (.inl (by kernel_rfl)))) eok_int) eok_int) eok_int) aok_nil)) (eok_ix (eok_var (pe_var (i := 0) rfl (.inl (by kernel_rfl)))) eok_int)) eok_int)
 (ssok_one (sok_ret (eok_op d2_mod (fun h1 h2 => pe_op op_mod h1 h2) (eok_cb dc_int1 (fun h => pe_callTy call_intX (glk (by kernel_rfl)) T.n_int PyProof.Rows.boot_int h) (aok_cons (eok_op d2_div (fun h1 h2 => pe_op op_fdivW h1 h2) (eok_op d2_mod (fun h1 h2 => pe_op op_mod h1 h2) (eok_cb dc_int1 (fun h => pe_callTy call_intX (glk (by kernel_rfl)) T.n_int PyProof.Rows.boot_int h) (aok_cons (eok_op d2_mulI (fun h1 h2 => pe_op op_mul h1 h2) (eok_ix (eok_var (pe_var (i := 0) rfl (.inl (by kernel_rfl)))) eok_int) (eok_ix (eok_var (pe_var (i := 0) rfl (.inl (by kernel_rfl)))) eok_int)) aok_nil)) eok_int) eok_int) aok_nil)) (eok_var (pe_var (i := 1) rfl (.inl (by kernel_rfl))))))))))
theorem ok__law_chosen (T : Tx K mg) : FnOk P w K mg base (L2N.CX P w) 2 T.a__law_chosen T.d__law_chosen ["source_so", "some"] (spD K mg (some 0) false 2 ev__law_chosen) :=
 fn_okD T.F__law_chosen sc__law_chosen (fun cdv A outer s H E hr => show SsOk _ _ _ bd__law_chosen from
 (ssok_one (sok_ret (eok_ix (eok_var (pe_var (i := 1) rfl (.inl (by kernel_rfl)))) (eok_call (n := 2) tkD (ok__law_pick T) (hr.mono (show 1 ≤ 1 by decide)) (glk (by kernel_rfl)) T.m__law_pick T.F__law_pick.kp T.b__law_pick (aok_cons (eok_var (pe_var (i := 0) rfl (.inl (by kernel_rfl)))) (aok_cons (eok_cb dc_len (fun h => pe_callB call_len (glk (by kernel_rfl)) T.n_len PySem.boot_len h) (aok_cons (eok_var (pe_var (i := 1) rfl (.inl (by kernel_rfl)))) aok_nil)) aok_nil)) (aCons_len (aCons_len aNil_len)))))))
theorem ok__law_shuffled (T : Tx K mg) : FnOk P w K mg base (L2N.CX P w) 2 T.a__law_shuffled T.d__law_shuffled ["source_so", "some"] (spD K mg (some 0) false 2 ev__law_shuffled) :=
 fn_okD T.F__law_shuffled sc__law_shuffled (fun cdv A outer s H E hr => show SsOk _ _ _ bd__law_shuffled from
 (ssok_cons (sok_parF (fun h1 h2 => ps_par (i := 2) (j := 3) rfl sc__law_shuffled.nd rfl rfl (by decide) (by kernel_rfl) (by kernel_rfl) (pa_cons h1 (pa_cons h2 pa_nil)) rfl) (fok_cb dcf_lst1 (fun h => pe_callTy call_list_of (glk (by kernel_rfl)) T.n_list PyProof.Rows.boot_list h) (aok_cons (eok_var (pe_var (i := 1) rfl (.inl (by kernel_rfl)))) aok_nil)) (fok_lst aok_nil))
 (ssok_cons (sok_while LIM poD (show TOk _ _ _ lp__law_shuffled_1_t from (tok_cmp d2_ne (fun h1 h2 => pt_cmpR (op_neX (u64 hr)) h1 h2 (nomark _)) (eok_var (pe_var (i := 2) rfl (.inl (by kernel_rfl)))) (FOk.fr (fok_lst aok_nil)))) (show SsOk _ _ _ lp__law_shuffled_1 from (ssok_one (sok_app (fun h => ps_expr (pe_bm PySem.F.plainAttrs_list PySem.F.slot_list_append PySem.F.type_list_append mt_append (pe_var (i := 3) rfl (.inl (by kernel_rfl))) h)) (aok_cons (eok_pop (fun h => pe_bm PySem.F.plainAttrs_list PySem.F.slot_list_pop PySem.F.type_list_pop mt_popAt (pe_var (i := 2) rfl (.inl (by kernel_rfl))) h) (aok_cons (eok_call (n := 2) tkD (ok__law_pick T) (hr.mono (show 1 ≤ 1 by decide)) (glk (by kernel_rfl)) T.m__law_pick T.F__law_pick.kp T.b__law_pick (aok_cons (eok_var (pe_var (i := 0) rfl (.inl (by kernel_rfl)))) (aok_cons (eok_cb dc_len (fun h => pe_callB call_len (glk (by kernel_rfl)) T.n_len PySem.boot_len h) (aok_cons (eok_var (pe_var (i := 2) rfl (.inl (by kernel_rfl)))) aok_nil)) aok_nil)) (aCons_len (aCons_len aNil_len))) aok_nil)) aok_nil)))))
 (ssok_one (sok_fz 3 (sok_ret (eok_var (pe_var (i := 3) rfl (.inl (by kernel_rfl))))))))))
theorem ok__law_order (T : Tx K mg) : FnOk P w K mg base (L2N.CX P w) 3 T.a__law_order T.d__law_order ["source_so", "columns", "rows"] (spD K mg (some 0) false 3 ev__law_order) :=
 fn_okD T.F__law_order sc__law_order (fun cdv A outer s H E hr => show SsOk _ _ _ bd__law_order from
 (ssok_cons (sok_par (fun h => ps_par (i := 3) (j := 4) rfl sc__law_order.nd rfl rfl (by decide) (by kernel_rfl) (by kernel_rfl) h rfl) (aok_cons (eok_call (n := 2) tkD (ok__law_pick T) (hr.mono (show 1 ≤ 2 by decide)) (glk (by kernel_rfl)) T.m__law_pick T.F__law_pick.kp T.b__law_pick (aok_cons (eok_var (pe_var (i := 0) rfl (.inl (by kernel_rfl)))) (aok_cons eok_int aok_nil)) (aCons_len (aCons_len aNil_len))) (aok_cons (FOk.fr (fok_lst aok_nil)) aok_nil)))
 (ssok_cons (sok_for poD rfl (iok_rg (glk (by kernel_rfl)) T.n_range (aok_cons (eok_var (pe_var (i := 2) rfl (.inl (by kernel_rfl)))) aok_nil)) (gok_name (pg_name (i := 5) sc__law_order.nd rfl (.inr (by kernel_rfl)))) (show SsOk _ _ _ lp__law_order_1 from (ssok_af [5, 6] (ssok_cons (sok_fza 6 (sok_setLc rfl sc__law_order.nd rfl (by kernel_rfl) (by first | rfl | kernel_rfl) (iok_rg (glk (by kernel_rfl)) T.n_range (aok_cons (eok_var (pe_var (i := 1) rfl (.inl (by kernel_rfl)))) aok_nil)) (own := [("column", 7)]) (by kernel_rfl) (fun s H C cl fp => (gok_name (pg_name (i := 7) sc__law_order.nd rfl (.inl (by kernel_rfl))))) (fun s H C cl fp => tsok_nil) (fun s H C cl fp => (eok_tup (aok_cons (eok_var (pe_var (i := 7) rfl (.inl (by kernel_rfl)))) (aok_cons (eok_var (pe_var (i := 5) rfl (.inr (.inl (by kernel_rfl))))) aok_nil)))) rfl (by decide)))
 (ssok_one (sok_set (fun h => ps_set (i := 4) sc__law_order.nd rfl (.inl (by kernel_rfl)) h) (eok_op d2_add (fun h1 h2 => pe_op op_addX h1 h2) (eok_var (pe_var (i := 4) rfl (.inl (by kernel_rfl)))) (eok_if (WOk.t (wok_and (tok_cmp d2_in (fun h1 h2 => pt_cmpR (op_inX (u65 hr)) h1 h2 rfl) (eok_var (pe_var (i := 3) rfl (.inl (by kernel_rfl)))) (FOk.fr (fok_lst (aok_cons eok_int (aok_cons eok_int aok_nil))))) (wok_and1 (tok_cmp d2_eq (fun h1 h2 => pt_cmpR (op_eqX (u64 hr)) h1 h2 (nomark _)) (eok_op d2_mod (fun h1 h2 => pe_op op_mod h1 h2) (eok_cb dc_int1 (fun h => pe_callTy call_intX (glk (by kernel_rfl)) T.n_int PyProof.Rows.boot_int h) (aok_cons (eok_var (pe_var (i := 5) rfl (.inr (.inl (by kernel_rfl))))) aok_nil)) eok_int) eok_int)))) (FOk.fr (fok_rev (eok_var (pe_var (i := 6) rfl (.inl (by kernel_rfl)))))) (eok_var (pe_var (i := 6) rfl (.inl (by kernel_rfl))))))))))))
 (ssok_one (sok_ret (eok_if (tok_cmp d2_eq (fun h1 h2 => pt_cmpR (op_eqX (u64 hr)) h1 h2 (nomark _)) (eok_var (pe_var (i := 3) rfl (.inl (by kernel_rfl)))) eok_int) (eok_call (n := 2) tkD (ok__law_shuffled T) (hr.mono (show 2 ≤ 2 by decide)) (glk (by kernel_rfl)) T.m__law_shuffled T.F__law_shuffled.kp T.b__law_shuffled (aok_cons (eok_var (pe_var (i := 0) rfl (.inl (by kernel_rfl)))) (aok_cons (eok_var (pe_var (i := 4) rfl (.inl (by kernel_rfl)))) aok_nil)) (aCons_len (aCons_len aNil_len))) (eok_var (pe_var (i := 4) rfl (.inl (by kernel_rfl))))))))))
theorem ok__law_known (T : Tx K mg) : FnOk P w K mg base (L2N.CX P w) 1 T.a__law_known T.d__law_known [] (spD K mg none false 0 ev__law_known) :=
 fn_okD T.F__law_known sc__law_known (fun cdv A outer s H E hr => show SsOk _ _ _ bd__law_known from
 (ssok_cons (sok_set (fun h => ps_set (i := 0) sc__law_known.nd rfl (.inl (by kernel_rfl)) h) (eok_tup (aok_cons (eok_tup (aok_cons eok_int (aok_cons eok_int (aok_cons eok_int aok_nil)))) (aok_cons (eok_tup (aok_cons eok_int (aok_cons eok_int (aok_cons eok_int aok_nil)))) (aok_cons (eok_tup (aok_cons eok_int (aok_cons eok_int (aok_cons eok_int aok_nil)))) (aok_cons (eok_tup (aok_cons eok_int (aok_cons eok_int (aok_cons eok_int aok_nil)))) aok_nil))))))
 (ssok_cons (sok_set (fun h => ps_set (i := 1) sc__law_known.nd rfl (.inl (by kernel_rfl)) h) (eok_tup (aok_cons (eok_tup (aok_cons eok_int (aok_cons eok_int (aok_cons eok_int aok_nil)))) (aok_cons (eok_tup (aok_cons eok_int (aok_cons eok_int (aok_cons eok_int aok_nil)))) (aok_cons (eok_tup (aok_cons eok_int (aok_cons eok_int (aok_cons eok_int aok_nil)))) (aok_cons (eok_tup (aok_cons eok_int (aok_cons eok_int (aok_cons eok_int aok_nil)))) aok_nil))))))
 (ssok_cons (sok_set (fun h => ps_set (i := 2) sc__law_known.nd rfl (.inl (by kernel_rfl)) h) (eok_tup (aok_cons (eok_tup (aok_cons eok_int (aok_cons eok_int (aok_cons eok_int aok_nil)))) (aok_cons (eok_tup (aok_cons eok_int (aok_cons eok_int (aok_cons eok_int aok_nil)))) (aok_cons (eok_tup (aok_cons eok_int (aok_cons eok_int (aok_cons eok_int aok_nil)))) (aok_cons (eok_tup (aok_cons eok_int (aok_cons eok_int (aok_cons eok_int aok_nil)))) aok_nil))))))
 (ssok_cons (sok_set (fun h => ps_set (i := 3) sc__law_known.nd rfl (.inl (by kernel_rfl)) h) (eok_tup (aok_cons (eok_tup (aok_cons eok_int (aok_cons eok_int (aok_cons eok_int aok_nil)))) (aok_cons (eok_tup (aok_cons eok_int (aok_cons eok_int (aok_cons eok_int aok_nil)))) (aok_cons (eok_tup (aok_cons eok_int (aok_cons eok_int (aok_cons eok_int aok_nil)))) (aok_cons (eok_tup (aok_cons eok_int (aok_cons eok_int (aok_cons eok_int aok_nil)))) aok_nil))))))
 (ssok_cons (sok_set (fun h => ps_set (i := 4) sc__law_known.nd rfl (.inl (by kernel_rfl)) h) (FOk.fr (fok_lst (aok_cons (eok_tup (aok_cons eok_int (aok_cons eok_int (aok_cons (eok_tup (aok_cons (eok_var (pe_var (i := 0) rfl (.inl (by kernel_rfl)))) (aok_cons (eok_var (pe_var (i := 1) rfl (.inl (by kernel_rfl)))) (aok_cons (eok_var (pe_var (i := 2) rfl (.inl (by kernel_rfl)))) (aok_cons (eok_var (pe_var (i := 3) rfl (.inl (by kernel_rfl)))) aok_nil))))) aok_nil)))) (aok_cons (eok_tup (aok_cons eok_int (aok_cons eok_int (aok_cons (eok_tup (aok_cons (eok_tup (aok_cons (eok_tup (aok_cons eok_int (aok_cons eok_int (aok_cons eok_int aok_nil)))) (aok_cons (eok_tup (aok_cons eok_int (aok_cons eok_int (aok_cons eok_int aok_nil)))) (aok_cons (eok_tup (aok_cons eok_int (aok_cons eok_int (aok_cons eok_int aok_nil)))) aok_nil)))) aok_nil)) aok_nil)))) aok_nil)))))
 (ssok_cons (sok_set (fun h => ps_set (i := 5) sc__law_known.nd rfl (.inl (by kernel_rfl)) h) (FOk.fr (fok_lst (aok_cons (eok_tup (aok_cons eok_int (aok_cons eok_int aok_nil))) (aok_cons (eok_tup (aok_cons eok_int (aok_cons eok_int aok_nil))) (aok_cons (eok_tup (aok_cons eok_int (aok_cons eok_int aok_nil))) (aok_cons (eok_tup (aok_cons eok_int (aok_cons eok_int aok_nil))) (aok_cons (eok_tup (aok_cons eok_int (aok_cons eok_int aok_nil))) (aok_cons (eok_tup (aok_cons eok_int (aok_cons eok_int aok_nil))) (aok_cons (eok_tup (aok_cons eok_int (aok_cons eok_int aok_nil))) (aok_cons (eok_tup (aok_cons eok_int (aok_cons eok_int aok_nil))) (aok_cons (eok_tup (aok_cons eok_int (aok_cons eok_int aok_nil))) aok_nil))))))))))))
 (ssok_cons (sok_parEF (fun h1 h2 => ps_par (i := 6) (j := 7) rfl sc__law_known.nd rfl rfl (by decide) (by kernel_rfl) (by kernel_rfl) (pa_cons h1 (pa_cons h2 pa_nil)) rfl) (FOk.fr (fok_lst (aok_cons eok_int (aok_cons eok_int (aok_cons eok_int (aok_cons eok_int (aok_cons eok_int (aok_cons eok_int (aok_cons eok_int (aok_cons eok_int (aok_cons eok_int aok_nil))))))))))) (fok_lst aok_nil))
 (ssok_cons (sok_for poD rfl (iok_e (FOk.fr (fok_lst (aok_cons (eok_tup (aok_cons eok_int (aok_cons eok_int aok_nil))) (aok_cons (eok_tup (aok_cons eok_int (aok_cons eok_int aok_nil))) (aok_cons (eok_tup (aok_cons eok_int (aok_cons eok_int aok_nil))) (aok_cons (eok_tup (aok_cons eok_int (aok_cons eok_int aok_nil))) aok_nil))))))) (gok_tup (fun h => pg_tup rfl h) (gsok_cons (gok_name (pg_name (i := 8) sc__law_known.nd rfl (.inl (by kernel_rfl)))) (gsok_cons (gok_name (pg_name (i := 9) sc__law_known.nd rfl (.inl (by kernel_rfl)))) gsok_nil))) (show SsOk _ _ _ lp__law_known_2 from (ssok_af [0, 8, 9, 10, 11, 12, 13, 14] (ssok_cons (sok_setO (fun h => ps_set (i := 10) sc__law_known.nd rfl (.inl (by kernel_rfl)) h) (fok_lst aok_nil))
 (ssok_cons (sok_for poD rfl (iok_zp (glk (by kernel_rfl)) T.n_zip (aok_cons (eok_var (pe_var (i := 5) rfl (.inl (by kernel_rfl)))) (aok_cons (eok_var (pe_var (i := 6) rfl (.inl (by kernel_rfl)))) aok_nil))) (gok_tup (fun h => pg_tup rfl h) (gsok_cons (gok_name (pg_name (i := 11) sc__law_known.nd rfl (.inl (by kernel_rfl)))) (gsok_cons (gok_name (pg_name (i := 0) sc__law_known.nd rfl (.inl (by kernel_rfl)))) gsok_nil))) (show SsOk _ _ _ lp__law_known_1 from (ssok_af [0, 11, 12, 13, 14] (ssok_cons (sok_set (fun h => ps_set (i := 12) sc__law_known.nd rfl (.inl (by kernel_rfl)) h) (eok_if (tok_cmp d2_eq (fun h1 h2 => pt_cmpR (op_eqX (u64 hr)) h1 h2 (nomark _)) (eok_var (pe_var (i := 8) rfl (.inl (by kernel_rfl)))) eok_int) (eok_op d2_sub (fun h1 h2 => pe_op op_sub h1 h2) eok_int (eok_ix (eok_var (pe_var (i := 11) rfl (.inl (by kernel_rfl)))) eok_int)) (eok_ix (eok_var (pe_var (i := 11) rfl (.inl (by kernel_rfl)))) eok_int)))
 (ssok_cons (sok_set (fun h => ps_set (i := 13) sc__law_known.nd rfl (.inl (by kernel_rfl)) h) (eok_if (tok_cmp d2_eq (fun h1 h2 => pt_cmpR (op_eqX (u64 hr)) h1 h2 (nomark _)) (eok_var (pe_var (i := 9) rfl (.inl (by kernel_rfl)))) eok_int) (eok_op d2_sub (fun h1 h2 => pe_op op_sub h1 h2) eok_int (eok_ix (eok_var (pe_var (i := 11) rfl (.inl (by kernel_rfl)))) eok_int)) (eok_ix (eok_var (pe_var (i := 11) rfl (.inl (by kernel_rfl)))) eok_int)))
 (ssok_cons (sok_set (fun h => ps_set (i := 14) sc__law_known.nd rfl (.inl (by kernel_rfl)) h) (eok_ix (FOk.fr (fok_lst (aok_cons (FOk.fr (fok_lst (aok_cons eok_int (aok_cons eok_int (aok_cons eok_int (aok_cons eok_int aok_nil)))))) (aok_cons (FOk.fr (fok_lst (aok_cons eok_int (aok_cons eok_int (aok_cons eok_int (aok_cons eok_int aok_nil)))))) (aok_cons (FOk.fr (fok_lst (aok_cons eok_int (aok_cons eok_int (aok_cons eok_int (aok_cons eok_int aok_nil)))))) (aok_cons (FOk.fr (fok_lst (aok_cons eok_int (aok_cons eok_int (aok_cons eok_int (aok_cons eok_int aok_nil)))))) aok_nil)))))) (eok_op d2_add (fun h1 h2 => pe_op op_addX h1 h2) (eok_var (pe_var (i := 8) rfl (.inl (by kernel_rfl)))) (eok_op d2_mulI (fun h1 h2 => pe_op op_mul h1 h2) eok_int (eok_var (pe_var (i := 9) rfl (.inl (by kernel_rfl))))))))
 (ssok_one (sok_app (fun h => ps_expr (pe_bm PySem.F.plainAttrs_list PySem.F.slot_list_append PySem.F.type_list_append mt_append (pe_var (i := 10) rfl (.inl (by kernel_rfl))) h)) (aok_cons (eok_tup (aok_cons (eok_var (pe_var (i := 12) rfl (.inl (by kernel_rfl)))) (aok_cons (eok_var (pe_var (i := 13) rfl (.inl (by kernel_rfl)))) (aok_cons (eok_ix (eok_var (pe_var (i := 14) rfl (.inl (by kernel_rfl)))) (eok_var (pe_var (i := 0) rfl (.inl (by kernel_rfl))))) aok_nil)))) aok_nil)))))))))
 (ssok_one (sok_app (fun h => ps_expr (pe_bm PySem.F.plainAttrs_list PySem.F.slot_list_append PySem.F.type_list_append mt_append (pe_var (i := 7) rfl (.inl (by kernel_rfl))) h)) (aok_cons (eok_cb dc_tup1 (fun h => pe_callTy call_tuple_of (glk (by kernel_rfl)) T.n_tuple PyProof.Rows.boot_tuple h) (aok_cons (eok_var (pe_var (i := 10) rfl (.inl (by kernel_rfl)))) aok_nil)) aok_nil))))))))
 (ssok_one (sok_ret (eok_op d2_add (fun h1 h2 => pe_op op_addX h1 h2) (eok_var (pe_var (i := 4) rfl (.inl (by kernel_rfl)))) (FOk.fr (fok_lst (aok_cons (eok_tup (aok_cons eok_int (aok_cons eok_int (aok_cons (eok_cb dc_tup1 (fun h => pe_callTy call_tuple_of (glk (by kernel_rfl)) T.n_tuple PyProof.Rows.boot_tuple h) (aok_cons (eok_var (pe_var (i := 7) rfl (.inl (by kernel_rfl)))) aok_nil)) aok_nil)))) (aok_cons (eok_tup (aok_cons eok_int (aok_cons eok_int (aok_cons (eok_tup (aok_cons (eok_tup (aok_cons (eok_tup (aok_cons eok_int (aok_cons eok_int (aok_cons eok_int aok_nil)))) (aok_cons (eok_tup (aok_cons eok_int (aok_cons eok_int (aok_cons eok_int aok_nil)))) aok_nil))) (aok_cons (eok_tup (aok_cons (eok_tup (aok_cons eok_int (aok_cons eok_int (aok_cons eok_int aok_nil)))) (aok_cons (eok_tup (aok_cons eok_int (aok_cons eok_int (aok_cons eok_int aok_nil)))) aok_nil))) aok_nil))) aok_nil)))) aok_nil))))))))))))))))
theorem ok__law_with (T : Tx K mg) : FnOk P w K mg base (L2N.CX P w) 1 T.a__law_with T.d__law_with ["m", "index_so", "digit", "following"] (spD K mg none false 4 ev__law_with) :=
 fn_okD T.F__law_with sc__law_with (fun cdv A outer s H E hr => show SsOk _ _ _ bd__law_with from
 (ssok_cons (sok_set (fun h => ps_set (i := 4) sc__law_with.nd rfl (.inl (by kernel_rfl)) h) (eok_ix (eok_ix (eok_var (pe_var (i := 0) rfl (.inl (by kernel_rfl)))) eok_int) (eok_var (pe_var (i := 1) rfl (.inl (by kernel_rfl))))))
 (ssok_cons (sok_set (fun h => ps_set (i := 5) sc__law_with.nd rfl (.inl (by kernel_rfl)) h) (eok_op d2_add (fun h1 h2 => pe_op op_addX h1 h2) (eok_op d2_add (fun h1 h2 => pe_op op_addX h1 h2) (eok_sl (eok_var (pe_var (i := 4) rfl (.inl (by kernel_rfl)))) ook_no (ook_pt (eok_var (pe_var (i := 2) rfl (.inl (by kernel_rfl)))))) (eok_tup (aok_cons (eok_op d2_add (fun h1 h2 => pe_op op_addX h1 h2) (eok_sl (eok_ix (eok_var (pe_var (i := 4) rfl (.inl (by kernel_rfl)))) (eok_var (pe_var (i := 2) rfl (.inl (by kernel_rfl))))) ook_no (ook_pt eok_int)) (eok_tup (aok_cons (eok_var (pe_var (i := 3) rfl (.inl (by kernel_rfl)))) aok_nil))) aok_nil))) (eok_sl (eok_var (pe_var (i := 4) rfl (.inl (by kernel_rfl)))) (ook_pt (eok_op d2_add (fun h1 h2 => pe_op op_addX h1 h2) (eok_var (pe_var (i := 2) rfl (.inl (by kernel_rfl)))) eok_int)) ook_no)))
 (ssok_one (sok_ret (eok_op d2_add (fun h1 h2 => pe_op op_addX h1 h2) (eok_sl (eok_var (pe_var (i := 0) rfl (.inl (by kernel_rfl)))) ook_no (ook_pt eok_int)) (eok_tup (aok_cons (eok_op d2_add (fun h1 h2 => pe_op op_addX h1 h2) (eok_op d2_add (fun h1 h2 => pe_op op_addX h1 h2) (eok_sl (eok_ix (eok_var (pe_var (i := 0) rfl (.inl (by kernel_rfl)))) eok_int) ook_no (ook_pt (eok_var (pe_var (i := 1) rfl (.inl (by kernel_rfl)))))) (eok_tup (aok_cons (eok_var (pe_var (i := 5) rfl (.inl (by kernel_rfl)))) aok_nil))) (eok_sl (eok_ix (eok_var (pe_var (i := 0) rfl (.inl (by kernel_rfl)))) eok_int) (ook_pt (eok_op d2_add (fun h1 h2 => pe_op op_addX h1 h2) (eok_var (pe_var (i := 1) rfl (.inl (by kernel_rfl)))) eok_int)) ook_no)) aok_nil))))))))
theorem ok__law_near (T : Tx K mg) : FnOk P w K mg base (L2N.CX P w) 2 T.a__law_near T.d__law_near ["source_so", "m"] (spD K mg (some 0) false 2 ev__law_near) :=
 fn_okD T.F__law_near sc__law_near (fun cdv A outer s H E hr => show SsOk _ _ _ bd__law_near from
 (ssok_cons (sok_par (fun h => ps_par (i := 2) (j := 3) rfl sc__law_near.nd rfl rfl (by decide) (by kernel_rfl) (by kernel_rfl) h rfl) (aok_cons (eok_call (n := 2) tkD (ok__law_pick T) (hr.mono (show 1 ≤ 1 by decide)) (glk (by kernel_rfl)) T.m__law_pick T.F__law_pick.kp T.b__law_pick (aok_cons (eok_var (pe_var (i := 0) rfl (.inl (by kernel_rfl)))) (aok_cons (eok_cb dc_len (fun h => pe_callB call_len (glk (by kernel_rfl)) T.n_len PySem.boot_len h) (aok_cons (eok_ix (eok_var (pe_var (i := 1) rfl (.inl (by kernel_rfl)))) eok_int) aok_nil)) aok_nil)) (aCons_len (aCons_len aNil_len))) (aok_cons (eok_call (n := 2) tkD (ok__law_pick T) (hr.mono (show 1 ≤ 1 by decide)) (glk (by kernel_rfl)) T.m__law_pick T.F__law_pick.kp T.b__law_pick (aok_cons (eok_var (pe_var (i := 0) rfl (.inl (by kernel_rfl)))) (aok_cons (eok_op d2_mulI (fun h1 h2 => pe_op op_mul h1 h2) (eok_ix (eok_var (pe_var (i := 1) rfl (.inl (by kernel_rfl)))) eok_int) (eok_ix (eok_var (pe_var (i := 1) rfl (.inl (by kernel_rfl)))) eok_int)) aok_nil)) (aCons_len (aCons_len aNil_len))) aok_nil)))
 (ssok_one (sok_ret (eok_call (n := 4) tkD (ok__law_with T) (hr.mono (show 1 ≤ 1 by decide)) (glk (by kernel_rfl)) T.m__law_with T.F__law_with.kp T.b__law_with (aok_cons (eok_var (pe_var (i := 1) rfl (.inl (by kernel_rfl)))) (aok_cons (eok_var (pe_var (i := 2) rfl (.inl (by kernel_rfl)))) (aok_cons (eok_var (pe_var (i := 3) rfl (.inl (by kernel_rfl)))) (aok_cons (eok_call (n := 2) tkD (ok__law_pick T) (hr.mono (show 1 ≤ 1 by decide)) (glk (by kernel_rfl)) T.m__law_pick T.F__law_pick.kp T.b__law_pick (aok_cons (eok_var (pe_var (i := 0) rfl (.inl (by kernel_rfl)))) (aok_cons (eok_cb dc_len (fun h => pe_callB call_len (glk (by kernel_rfl)) T.n_len PySem.boot_len h) (aok_cons (eok_ix (eok_var (pe_var (i := 1) rfl (.inl (by kernel_rfl)))) eok_int) aok_nil)) aok_nil)) (aCons_len (aCons_len aNil_len))) aok_nil)))) (aCons_len (aCons_len (aCons_len (aCons_len aNil_len)))))))))
theorem ok__law_manner (T : Tx K mg) : FnOk P w K mg base (L2N.CX P w) 4 T.a__law_manner T.d__law_manner ["source_so"] (spD K mg (some 0) false 1 ev__law_manner) :=
 fn_okD T.F__law_manner sc__law_manner (fun cdv A outer s H E hr => show SsOk _ _ _ bd__law_manner from
 (ssok_cons (sok_set (fun h => ps_set (i := 1) sc__law_manner.nd rfl (.inl (by kernel_rfl)) h) (eok_call (n := 2) tkD (ok__law_pick T) (hr.mono (show 1 ≤ 3 by decide)) (glk (by kernel_rfl)) T.m__law_pick T.F__law_pick.kp T.b__law_pick (aok_cons (eok_var (pe_var (i := 0) rfl (.inr (.inl (by kernel_rfl))))) (aok_cons eok_int aok_nil)) (aCons_len (aCons_len aNil_len))))
 (ssok_cons (sok_if (tok_cmp d2_lt (fun h1 h2 => pt_cmpR op_lt h1 h2 (nomark _)) (eok_var (pe_var (i := 1) rfl (.inl (by kernel_rfl)))) eok_int)
 (ssok_cons (sok_set (fun h => ps_set (i := 9) sc__law_manner.nd rfl (.inl (by kernel_rfl)) h) (eok_call (n := 2) tkD (ok__law_chosen T) (hr.mono (show 2 ≤ 3 by decide)) (glk (by kernel_rfl)) T.m__law_chosen T.F__law_chosen.kp T.b__law_chosen (aok_cons (eok_var (pe_var (i := 0) rfl (.inr (.inl (by kernel_rfl))))) (aok_cons (eok_call0 (ok__law_known T) (hr.mono (show 1 ≤ 3 by decide)) (glk (by kernel_rfl)) T.m__law_known T.F__law_known.kp T.b__law_known) aok_nil)) (aCons_len (aCons_len aNil_len))))
 (ssok_one (sok_ret (eok_if (tok_cmp d2_eq (fun h1 h2 => pt_cmpR (op_eqX (u64 hr)) h1 h2 (nomark _)) (eok_var (pe_var (i := 1) rfl (.inl (by kernel_rfl)))) eok_int) (eok_var (pe_var (i := 9) rfl (.inl (by kernel_rfl)))) (eok_call (n := 2) tkD (ok__law_near T) (hr.mono (show 2 ≤ 3 by decide)) (glk (by kernel_rfl)) T.m__law_near T.F__law_near.kp T.b__law_near (aok_cons (eok_var (pe_var (i := 0) rfl (.inr (.inl (by kernel_rfl))))) (aok_cons (eok_var (pe_var (i := 9) rfl (.inl (by kernel_rfl)))) aok_nil)) (aCons_len (aCons_len aNil_len)))))))
 ssok_nil)
 (ssok_cons (sok_set (fun h => ps_set (i := 2) sc__law_manner.nd rfl (.inl (by kernel_rfl)) h) (FOk.fr (fok_lst (aok_cons (eok_tup (aok_cons eok_int (aok_cons eok_int aok_nil))) (aok_cons (eok_tup (aok_cons eok_int (aok_cons eok_int aok_nil))) (aok_cons (eok_tup (aok_cons eok_int (aok_cons eok_int aok_nil))) (aok_cons (eok_tup (aok_cons eok_int (aok_cons eok_int aok_nil))) (aok_cons (eok_tup (aok_cons eok_int (aok_cons eok_int aok_nil))) (aok_cons (eok_tup (aok_cons eok_int (aok_cons eok_int aok_nil))) (aok_cons (eok_tup (aok_cons eok_int (aok_cons eok_int aok_nil))) (aok_cons (eok_tup (aok_cons eok_int (aok_cons eok_int aok_nil))) (aok_cons (eok_tup (aok_cons eok_int (aok_cons eok_int aok_nil))) aok_nil))))))))))))
 (ssok_cons (sok_asgG (fun h g => ps_asg h g) (gok_tup (fun h => pg_tup rfl h) (gsok_cons (gok_name (pg_name (i := 3) sc__law_manner.nd rfl (.inl (by kernel_rfl)))) (gsok_cons (gok_name (pg_name (i := 4) sc__law_manner.nd rfl (.inl (by kernel_rfl)))) gsok_nil))) (eok_call (n := 2) tkD (ok__law_chosen T) (hr.mono (show 2 ≤ 3 by decide)) (glk (by kernel_rfl)) T.m__law_chosen T.F__law_chosen.kp T.b__law_chosen (aok_cons (eok_var (pe_var (i := 0) rfl (.inr (.inl (by kernel_rfl))))) (aok_cons (eok_var (pe_var (i := 2) rfl (.inl (by kernel_rfl)))) aok_nil)) (aCons_len (aCons_len aNil_len))))
 (ssok_cons (sok_mulT (by decide) (fun h => ps_asg (pe_tup h) (pg_tup rfl (pgs_cons (pg_name (i := 5) sc__law_manner.nd rfl (.inr (by kernel_rfl))) (pgs_cons (pg_name (i := 6) sc__law_manner.nd rfl (.inl (by kernel_rfl))) (pgs_cons (pg_name (i := 7) sc__law_manner.nd rfl (.inl (by kernel_rfl))) pgs_nil))))) (mok_e (W := W0) (eok_op d2_add (fun h1 h2 => pe_op op_addX h1 h2) eok_int (eok_call (n := 2) takes_0 (ok__law_pick T) (hr.mono (show 1 ≤ 3 by decide)) (glk (by kernel_rfl)) T.m__law_pick T.F__law_pick.kp T.b__law_pick (aok_cons (eok_var (pe_var (i := 0) rfl (.inr (.inl (by kernel_rfl))))) (aok_cons eok_int aok_nil)) (aCons_len (aCons_len aNil_len)))) (mok_f (W := W0) (fok_lst aok_nil) (mok_e (W := W0) (eok_call (n := 3) takes_0 (ok__law_order T) (hr.mono (show 3 ≤ 3 by decide)) (glk (by kernel_rfl)) T.m__law_order T.F__law_order.kp T.b__law_order (aok_cons (eok_var (pe_var (i := 0) rfl (.inr (.inl (by kernel_rfl))))) (aok_cons (eok_var (pe_var (i := 3) rfl (.inl (by kernel_rfl)))) (aok_cons (eok_var (pe_var (i := 4) rfl (.inl (by kernel_rfl)))) aok_nil))) (aCons_len (aCons_len (aCons_len aNil_len)))) mok_nil))))
 (ssok_cons (sok_for poD rfl (iok_rg (glk (by kernel_rfl)) T.n_range (aok_cons (eok_var (pe_var (i := 5) rfl (.inr (.inl (by kernel_rfl))))) aok_nil)) (gok_name (pg_name (i := 8) sc__law_manner.nd rfl (.inl (by kernel_rfl)))) (show SsOk _ _ _ lp__law_manner_1 from (ssok_af [8] (ssok_cons (sok_set (fun h => ps_set (i := 7) sc__law_manner.nd rfl (.inl (by kernel_rfl)) h) (eok_if (tok_cmp d2_eq (fun h1 h2 => pt_cmpR (op_eqX (u64 hr)) h1 h2 (nomark _)) (eok_call (n := 2) tkD (ok__law_pick T) (hr.mono (show 1 ≤ 3 by decide)) (glk (by kernel_rfl)) T.m__law_pick T.F__law_pick.kp T.b__law_pick (aok_cons (eok_var (pe_var (i := 0) rfl (.inr (.inl (by kernel_rfl))))) (aok_cons eok_int aok_nil)) (aCons_len (aCons_len aNil_len))) eok_int) (eok_var (pe_var (i := 7) rfl (.inl (by kernel_rfl)))) (eok_call (n := 3) tkD (ok__law_order T) (hr.mono (show 3 ≤ 3 by decide)) (glk (by kernel_rfl)) T.m__law_order T.F__law_order.kp T.b__law_order (aok_cons (eok_var (pe_var (i := 0) rfl (.inr (.inl (by kernel_rfl))))) (aok_cons (eok_var (pe_var (i := 3) rfl (.inl (by kernel_rfl)))) (aok_cons (eok_var (pe_var (i := 4) rfl (.inl (by kernel_rfl)))) aok_nil))) (aCons_len (aCons_len (aCons_len aNil_len))))))
 (ssok_one (sok_app (fun h => ps_expr (pe_bm PySem.F.plainAttrs_list PySem.F.slot_list_append PySem.F.type_list_append mt_append (pe_var (i := 6) rfl (.inl (by kernel_rfl))) h)) (aok_cons (eok_cb dc_tup1 (fun h => pe_callTy call_tuple_of (glk (by kernel_rfl)) T.n_tuple PyProof.Rows.boot_tuple h) (aok_cons (FOk.fr (fok_lc rfl sc__law_manner.nd (iok_e (eok_var (pe_var (i := 7) rfl (.inl (by kernel_rfl))))) (own := [("spot", 10)]) (by kernel_rfl) (fun s H C cl fp => (gok_name (pg_name (i := 10) sc__law_manner.nd rfl (.inl (by kernel_rfl))))) (fun s H C cl fp => tsok_nil) (fun s H C cl fp => (eok_op d2_add (fun h1 h2 => pe_op op_addX h1 h2) (eok_var (pe_var (i := 10) rfl (.inl (by kernel_rfl)))) (eok_tup (aok_cons (eok_call (n := 2) takes_0 (ok__law_pick T) (hr.mono (show 1 ≤ 3 by decide)) (glk (by kernel_rfl)) T.m__law_pick T.F__law_pick.kp T.b__law_pick (aok_cons (eok_var (pe_var (i := 0) rfl (.inr (.inl (by kernel_rfl))))) (aok_cons (eok_var (pe_var (i := 5) rfl (.inr (.inl (by kernel_rfl))))) aok_nil)) (aCons_len (aCons_len aNil_len))) aok_nil)))) rfl (by decide))) aok_nil)) aok_nil)))))))
 (ssok_one (sok_ret (eok_tup (aok_cons (eok_var (pe_var (i := 3) rfl (.inl (by kernel_rfl)))) (aok_cons (eok_var (pe_var (i := 4) rfl (.inl (by kernel_rfl)))) (aok_cons (eok_cb dc_tup1 (fun h => pe_callTy call_tuple_of (glk (by kernel_rfl)) T.n_tuple PyProof.Rows.boot_tuple h) (aok_cons (eok_var (pe_var (i := 6) rfl (.inl (by kernel_rfl)))) aok_nil)) aok_nil)))))))))))))
theorem ok__law_table (T : Tx K mg) : FnOk P w K mg base (L2N.CX P w) 1 T.a__law_table T.d__law_table ["m", "depth_so"] (spD K mg none false 2 ev__law_table) :=
 fn_okD T.F__law_table sc__law_table (fun cdv A outer s H E hr => show SsOk _ _ _ bd__law_table from
 (ssok_cons (sok_asgG (fun h g => ps_asg h g) (gok_tup (fun h => pg_tup rfl h) (gsok_cons (gok_name (pg_name (i := 2) sc__law_table.nd rfl (.inl (by kernel_rfl)))) (gsok_cons (gok_name (pg_name (i := 3) sc__law_table.nd rfl (.inr (by kernel_rfl)))) (gsok_cons (gok_name (pg_name (i := 4) sc__law_table.nd rfl (.inr (by kernel_rfl)))) gsok_nil)))) (eok_tup (aok_cons (FOk.fr (fok_lc rfl sc__law_table.nd (iok_e (eok_ix (eok_var (pe_var (i := 0) rfl (.inl (by kernel_rfl)))) eok_int)) (own := [("row", 7)]) (by kernel_rfl) (fun s H C cl fp => (gok_name (pg_name (i := 7) sc__law_table.nd rfl (.inl (by kernel_rfl))))) (fun s H C cl fp => tsok_nil) (fun s H C cl fp => (FOk.fr (fok_lst (aok_cons (eok_tup (aok_cons eok_int (aok_cons eok_int aok_nil))) aok_nil)))) rfl (by decide))) (aok_cons eok_int (aok_cons eok_int aok_nil)))))
 (ssok_cons (sok_for poD rfl (iok_rg (glk (by kernel_rfl)) T.n_range (aok_cons (eok_var (pe_var (i := 1) rfl (.inl (by kernel_rfl)))) aok_nil)) (gok_name (pg_name (i := 5) sc__law_table.nd rfl (.inl (by kernel_rfl)))) (show SsOk _ _ _ lp__law_table_3 from (ssok_af [5, 6, 7, 8, 9, 10, 11] (ssok_cons (sok_setO (fun h => ps_set (i := 6) sc__law_table.nd rfl (.inl (by kernel_rfl)) h) (fok_lst aok_nil))
 (ssok_cons (sok_for poD rfl (iok_e (eok_ix (eok_var (pe_var (i := 0) rfl (.inl (by kernel_rfl)))) eok_int)) (gok_name (pg_name (i := 7) sc__law_table.nd rfl (.inl (by kernel_rfl)))) (show SsOk _ _ _ lp__law_table_2 from (ssok_af [7, 8, 9, 10, 11] (ssok_cons (sok_set (fun h => ps_set (i := 8) sc__law_table.nd rfl (.inl (by kernel_rfl)) h) (FOk.fr (fok_lst aok_nil)))
 (ssok_cons (sok_for poD rfl (iok_e (eok_var (pe_var (i := 7) rfl (.inl (by kernel_rfl))))) (gok_tup (fun h => pg_tup rfl h) (gsok_cons (gok_name (pg_name (i := 9) sc__law_table.nd rfl (.inr (by kernel_rfl)))) (gsok_cons (gok_name (pg_name (i := 10) sc__law_table.nd rfl (.inr (by kernel_rfl)))) (gsok_cons (gok_name (pg_name (i := 11) sc__law_table.nd rfl (.inl (by kernel_rfl)))) gsok_nil)))) (show SsOk _ _ _ lp__law_table_1 from (ssok_af [9, 10, 11] (ssok_one (sok_set (fun h => ps_set (i := 8) sc__law_table.nd rfl (.inl (by kernel_rfl)) h) (eok_op d2_add (fun h1 h2 => pe_op op_addX h1 h2) (eok_var (pe_var (i := 8) rfl (.inl (by kernel_rfl)))) (FOk.fr (fok_lc rfl sc__law_table.nd (iok_e (eok_ix (eok_var (pe_var (i := 2) rfl (.inl (by kernel_rfl)))) (eok_var (pe_var (i := 11) rfl (.inl (by kernel_rfl)))))) (own := [("x", 12), ("y", 13)]) (by kernel_rfl) (fun s H C cl fp => (gok_tup (fun h => pg_tup rfl h) (gsok_cons (gok_name (pg_name (i := 12) sc__law_table.nd rfl (.inl (by kernel_rfl)))) (gsok_cons (gok_name (pg_name (i := 13) sc__law_table.nd rfl (.inl (by kernel_rfl)))) gsok_nil)))) (fun s H C cl fp => tsok_nil) (fun s H C cl fp => (eok_tup (aok_cons (eok_op d2_add (fun h1 h2 => pe_op op_addX h1 h2) (eok_op d2_mulI (fun h1 h2 => pe_op op_mul h1 h2) (eok_var (pe_var (i := 9) rfl (.inr (.inl (by kernel_rfl))))) (eok_var (pe_var (i := 3) rfl (.inr (.inl (by kernel_rfl)))))) (eok_var (pe_var (i := 12) rfl (.inl (by kernel_rfl))))) (aok_cons (eok_op d2_add (fun h1 h2 => pe_op op_addX h1 h2) (eok_op d2_mulI (fun h1 h2 => pe_op op_mul h1 h2) (eok_var (pe_var (i := 10) rfl (.inr (.inl (by kernel_rfl))))) (eok_var (pe_var (i := 4) rfl (.inr (.inl (by kernel_rfl)))))) (eok_var (pe_var (i := 13) rfl (.inl (by kernel_rfl))))) aok_nil)))) rfl (by decide)))))))))
 (ssok_one (sok_app (fun h => ps_expr (pe_bm PySem.F.plainAttrs_list PySem.F.slot_list_append PySem.F.type_list_append mt_append (pe_var (i := 6) rfl (.inl (by kernel_rfl))) h)) (aok_cons (eok_var (pe_var (i := 8) rfl (.inl (by kernel_rfl)))) aok_nil))))))))
 (ssok_one (sok_fz 6 (sok_asgG (fun h g => ps_asg h g) (gok_tup (fun h => pg_tup rfl h) (gsok_cons (gok_name (pg_name (i := 2) sc__law_table.nd rfl (.inl (by kernel_rfl)))) (gsok_cons (gok_name (pg_name (i := 3) sc__law_table.nd rfl (.inr (by kernel_rfl)))) (gsok_cons (gok_name (pg_name (i := 4) sc__law_table.nd rfl (.inr (by kernel_rfl)))) gsok_nil)))) (eok_tup (aok_cons (eok_var (pe_var (i := 6) rfl (.inl (by kernel_rfl)))) (aok_cons (eok_op d2_mulI (fun h1 h2 => pe_op op_mul h1 h2) (eok_var (pe_var (i := 3) rfl (.inr (.inl (by kernel_rfl))))) (eok_ix (eok_var (pe_var (i := 0) rfl (.inl (by kernel_rfl)))) eok_int)) (aok_cons (eok_op d2_mulI (fun h1 h2 => pe_op op_mul h1 h2) (eok_var (pe_var (i := 4) rfl (.inr (.inl (by kernel_rfl))))) (eok_ix (eok_var (pe_var (i := 0) rfl (.inl (by kernel_rfl)))) eok_int)) aok_nil))))))))))))
 (ssok_one (sok_ret (eok_ix (eok_var (pe_var (i := 2) rfl (.inl (by kernel_rfl)))) eok_int))))))
theorem ok__law_any_code (T : Tx K mg) : FnOk P w K mg base (L2N.CX P w) 2 T.a__law_any_code T.d__law_any_code ["source_so", "m", "depth_so"] (spD K mg (some 0) false 3 ev__law_any_code) :=
 fn_okD T.F__law_any_code sc__law_any_code (fun cdv A outer s H E hr => show SsOk _ _ _ bd__law_any_code from
 (ssok_one (sok_ret (eok_join eok_str (FOk.fr (fok_lc rfl sc__law_any_code.nd (iok_rg (glk (by kernel_rfl)) T.n_range (aok_cons (eok_var (pe_var (i := 2) rfl (.inl (by kernel_rfl)))) aok_nil)) (own := [("turn_so", 3)]) (by kernel_rfl) (fun s H C cl fp => (gok_name (pg_name (i := 3) sc__law_any_code.nd rfl (.inl (by kernel_rfl))))) (fun s H C cl fp => tsok_nil) (fun s H C cl fp => (eok_cb dc_str1 (fun h => pe_callTy call_str_int (glk (by kernel_rfl)) T.n_str PyProof.Rows.boot_str h) (aok_cons (eok_call (n := 2) takes_0 (ok__law_pick T) (hr.mono (show 1 ≤ 1 by decide)) (glk (by kernel_rfl)) T.m__law_pick T.F__law_pick.kp T.b__law_pick (aok_cons (eok_var (pe_var (i := 0) rfl (.inr (.inl (by kernel_rfl))))) (aok_cons (eok_op d2_mulI (fun h1 h2 => pe_op op_mul h1 h2) (eok_ix (eok_var (pe_var (i := 1) rfl (.inr (.inl (by kernel_rfl))))) eok_int) (eok_ix (eok_var (pe_var (i := 1) rfl (.inr (.inl (by kernel_rfl))))) eok_int)) aok_nil)) (aCons_len (aCons_len aNil_len))) aok_nil))) rfl (by decide)))))))
theorem ok__law_name_of {k : Nat} (T : Tx K mg) {D : Addr} {nm : Str} {b0 b1 b2 b3 b4 b5 b6 b7 b8 b9 b10 b11 b12 b13 b14 b15 : Bool} (hv : ∀ a, fnD 6 none false (nmB b0 b1 b2 b3 b4 b5 b6 b7 b8 b9 b10 b11 b12 b13 b14 b15 a) [.ad a] = .ok (.str nm) .non) (EC : ExcC K D) (y0 : PySem.W.kitOne K (.ref D) (.ref T.c_InvalidManner) = some b0) (y1 : PySem.W.kitOne K (.ref D) (.ref T.c_InvalidTurn) = some b1) (y2 : PySem.W.kitOne K (.ref D) (.ref T.c_InvalidCode) = some b2) (y3 : PySem.W.kitOne K (.ref D) (.ref T.c_InvalidDepth) = some b3) (y4 : PySem.W.kitOne K (.ref D) (.ref T.c_InvalidPlace) = some b4) (y5 : PySem.W.kitOne K (.ref D) (.ref T.c_InvalidNumber) = some b5) (y6 : PySem.W.kitOne K (.ref D) (.ref T.c_InvalidBox) = some b6) (y7 : PySem.W.kitOne K (.ref D) (.ref T.c_InvalidWay) = some b7) (y8 : PySem.W.kitOne K (.ref D) (.ref T.c_InvalidIndex) = some b8) (y9 : PySem.W.kitOne K (.ref D) (.ref T.c_InvalidSeen) = some b9) (y10 : PySem.W.kitOne K (.ref D) (.ref T.c_InvalidText) = some b10) (y11 : PySem.W.kitOne K (.ref D) (.ref T.c_NotThere) = some b11) (y12 : PySem.W.kitOne K (.ref D) (.ref T.c_TooMany) = some b12) (y13 : PySem.W.kitOne K (.ref D) (.ref T.c_NothingToUndo) = some b13) (y14 : PySem.W.kitOne K (.ref D) (.ref T.c_CurveError) = some b14) (y15 : PySem.W.kitOne K (.ref D) (.type "ValueError") = some b15) : FnE P w K mg base (L2N.CX P w) (k + 1) T.a__law_name_of T.d__law_name_of "e" D nm :=
 fn_E (b := fun a => nmB b0 b1 b2 b3 b4 b5 b6 b7 b8 b9 b10 b11 b12 b13 b14 b15 a) T.F__law_name_of sc__law_name_of hv (fun cdv A outer s H E p hot hz hfl hr => show SsOk _ _ _ (nmB b0 b1 b2 b3 b4 b5 b6 b7 b8 b9 b10 b11 b12 b13 b14 b15 p.1) from
 (ssok_cons (sok_set (fun h => ps_set (i := 1) sc__law_name_of.nd rfl (.inl (by kernel_rfl)) h) (FOk.fr (fok_lst (aok_cons (eok_isP (List.mem_singleton.mpr rfl) EC hz hfl (glk (by kernel_rfl)) T.n_isinstance (eok_var (pe_var (i := 0) rfl (.inl (by kernel_rfl)))) (pe_glob (v := .ref T.c_InvalidManner) (glk (by kernel_rfl)) T.m_InvalidManner rfl (by decide)) (fun _ h => h) y0) (aok_cons (eok_isP (List.mem_singleton.mpr rfl) EC hz hfl (glk (by kernel_rfl)) T.n_isinstance (eok_var (pe_var (i := 0) rfl (.inl (by kernel_rfl)))) (pe_glob (v := .ref T.c_InvalidTurn) (glk (by kernel_rfl)) T.m_InvalidTurn rfl (by decide)) (fun _ h => h) y1) (aok_cons (eok_isP (List.mem_singleton.mpr rfl) EC hz hfl (glk (by kernel_rfl)) T.n_isinstance (eok_var (pe_var (i := 0) rfl (.inl (by kernel_rfl)))) (pe_glob (v := .ref T.c_InvalidCode) (glk (by kernel_rfl)) T.m_InvalidCode rfl (by decide)) (fun _ h => h) y2) aok_nil))))))
 (ssok_cons (sok_set (fun h => ps_set (i := 1) sc__law_name_of.nd rfl (.inl (by kernel_rfl)) h) (eok_op d2_add (fun h1 h2 => pe_op op_addX h1 h2) (eok_var (pe_var (i := 1) rfl (.inl (by kernel_rfl)))) (FOk.fr (fok_lst (aok_cons (eok_isP (List.mem_singleton.mpr rfl) EC hz hfl (glk (by kernel_rfl)) T.n_isinstance (eok_var (pe_var (i := 0) rfl (.inl (by kernel_rfl)))) (pe_glob (v := .ref T.c_InvalidDepth) (glk (by kernel_rfl)) T.m_InvalidDepth rfl (by decide)) (fun _ h => h) y3) (aok_cons (eok_isP (List.mem_singleton.mpr rfl) EC hz hfl (glk (by kernel_rfl)) T.n_isinstance (eok_var (pe_var (i := 0) rfl (.inl (by kernel_rfl)))) (pe_glob (v := .ref T.c_InvalidPlace) (glk (by kernel_rfl)) T.m_InvalidPlace rfl (by decide)) (fun _ h => h) y4) (aok_cons (eok_isP (List.mem_singleton.mpr rfl) EC hz hfl (glk (by kernel_rfl)) T.n_isinstance (eok_var (pe_var (i := 0) rfl (.inl (by kernel_rfl)))) (pe_glob (v := .ref T.c_InvalidNumber) (glk (by kernel_rfl)) T.m_InvalidNumber rfl (by decide)) (fun _ h => h) y5) aok_nil)))))))
 (ssok_cons (sok_set (fun h => ps_set (i := 1) sc__law_name_of.nd rfl (.inl (by kernel_rfl)) h) (eok_op d2_add (fun h1 h2 => pe_op op_addX h1 h2) (eok_var (pe_var (i := 1) rfl (.inl (by kernel_rfl)))) (FOk.fr (fok_lst (aok_cons (eok_isP (List.mem_singleton.mpr rfl) EC hz hfl (glk (by kernel_rfl)) T.n_isinstance (eok_var (pe_var (i := 0) rfl (.inl (by kernel_rfl)))) (pe_glob (v := .ref T.c_InvalidBox) (glk (by kernel_rfl)) T.m_InvalidBox rfl (by decide)) (fun _ h => h) y6) (aok_cons (eok_isP (List.mem_singleton.mpr rfl) EC hz hfl (glk (by kernel_rfl)) T.n_isinstance (eok_var (pe_var (i := 0) rfl (.inl (by kernel_rfl)))) (pe_glob (v := .ref T.c_InvalidWay) (glk (by kernel_rfl)) T.m_InvalidWay rfl (by decide)) (fun _ h => h) y7) (aok_cons (eok_isP (List.mem_singleton.mpr rfl) EC hz hfl (glk (by kernel_rfl)) T.n_isinstance (eok_var (pe_var (i := 0) rfl (.inl (by kernel_rfl)))) (pe_glob (v := .ref T.c_InvalidIndex) (glk (by kernel_rfl)) T.m_InvalidIndex rfl (by decide)) (fun _ h => h) y8) aok_nil)))))))
 (ssok_cons (sok_set (fun h => ps_set (i := 1) sc__law_name_of.nd rfl (.inl (by kernel_rfl)) h) (eok_op d2_add (fun h1 h2 => pe_op op_addX h1 h2) (eok_var (pe_var (i := 1) rfl (.inl (by kernel_rfl)))) (FOk.fr (fok_lst (aok_cons (eok_isP (List.mem_singleton.mpr rfl) EC hz hfl (glk (by kernel_rfl)) T.n_isinstance (eok_var (pe_var (i := 0) rfl (.inl (by kernel_rfl)))) (pe_glob (v := .ref T.c_InvalidSeen) (glk (by kernel_rfl)) T.m_InvalidSeen rfl (by decide)) (fun _ h => h) y9) (aok_cons (eok_isP (List.mem_singleton.mpr rfl) EC hz hfl (glk (by kernel_rfl)) T.n_isinstance (eok_var (pe_var (i := 0) rfl (.inl (by kernel_rfl)))) (pe_glob (v := .ref T.c_InvalidText) (glk (by kernel_rfl)) T.m_InvalidText rfl (by decide)) (fun _ h => h) y10) (aok_cons (eok_isP (List.mem_singleton.mpr rfl) EC hz hfl (glk (by kernel_rfl)) T.n_isinstance (eok_var (pe_var (i := 0) rfl (.inl (by kernel_rfl)))) (pe_glob (v := .ref T.c_NotThere) (glk (by kernel_rfl)) T.m_NotThere rfl (by decide)) (fun _ h => h) y11) aok_nil)))))))
 (ssok_cons (sok_set (fun h => ps_set (i := 1) sc__law_name_of.nd rfl (.inl (by kernel_rfl)) h) (eok_op d2_add (fun h1 h2 => pe_op op_addX h1 h2) (eok_var (pe_var (i := 1) rfl (.inl (by kernel_rfl)))) (FOk.fr (fok_lst (aok_cons (eok_isP (List.mem_singleton.mpr rfl) EC hz hfl (glk (by kernel_rfl)) T.n_isinstance (eok_var (pe_var (i := 0) rfl (.inl (by kernel_rfl)))) (pe_glob (v := .ref T.c_TooMany) (glk (by kernel_rfl)) T.m_TooMany rfl (by decide)) (fun _ h => h) y12) (aok_cons (eok_isP (List.mem_singleton.mpr rfl) EC hz hfl (glk (by kernel_rfl)) T.n_isinstance (eok_var (pe_var (i := 0) rfl (.inl (by kernel_rfl)))) (pe_glob (v := .ref T.c_NothingToUndo) (glk (by kernel_rfl)) T.m_NothingToUndo rfl (by decide)) (fun _ h => h) y13) (aok_cons (eok_isP (List.mem_singleton.mpr rfl) EC hz hfl (glk (by kernel_rfl)) T.n_isinstance (eok_var (pe_var (i := 0) rfl (.inl (by kernel_rfl)))) (pe_glob (v := .ref T.c_CurveError) (glk (by kernel_rfl)) T.m_CurveError rfl (by decide)) (fun _ h => h) y14) aok_nil)))))))
 (ssok_cons (sok_set (fun h => ps_set (i := 2) sc__law_name_of.nd rfl (.inl (by kernel_rfl)) h) eok_str)
 (ssok_cons (sok_fza 3 (sok_setLcZ hot (List.mem_singleton.mpr rfl) sc__law_name_of.nd rfl (by kernel_rfl) (by first | rfl | kernel_rfl) (glk (by kernel_rfl)) T.n_zip (aok_cons (FOk.fr (fok_split (eok_var (pe_var (i := 2) rfl (.inl (by kernel_rfl)))) eok_str)) (aok_cons (eok_op d2_add (fun h1 h2 => pe_op op_addX h1 h2) (eok_var (pe_var (i := 1) rfl (.inl (by kernel_rfl)))) (FOk.fr (fok_lst (aok_cons (eok_isP (List.mem_singleton.mpr rfl) EC hz hfl (glk (by kernel_rfl)) T.n_isinstance (eok_var (pe_var (i := 0) rfl (.inl (by kernel_rfl)))) (pe_bltn (v := .ty "ValueError") (glk (by kernel_rfl)) T.n_ValueError (by kernel_rfl) rfl (by decide) (by decide)) (fun _ h => h) y15) aok_nil)))) aok_nil)) (own := [("name", 4), ("good", 5)]) (by kernel_rfl) (fun s H C cl fp => gok_tupH hot (gsok_cons (gok_name (pg_name (i := 4) sc__law_name_of.nd rfl (.inl (by kernel_rfl)))) (gsok_cons (gok_name (pg_name (i := 5) sc__law_name_of.nd rfl (.inl (by kernel_rfl)))) gsok_nil)) rfl rfl) (fun s H C cl fp => (tsok_one (tok_val (eok_var (pe_var (i := 5) rfl (.inl (by kernel_rfl)))) (fun h => pt_val h)))) (fun s H C cl fp => (eok_var (pe_var (i := 4) rfl (.inl (by kernel_rfl))))) rfl (by decide)))
 (ssok_one (sok_ret (eok_if (tok_cmp d2_eq (fun h1 h2 => pt_cmpR (op_eqX (u64H hr)) h1 h2 (nomark _)) (eok_sl (eok_var (pe_var (i := 3) rfl (.inl (by kernel_rfl)))) (ook_pt eok_int) ook_no) (FOk.fr (fok_lst (aok_cons eok_str (aok_cons eok_str aok_nil))))) (eok_ix (eok_var (pe_var (i := 3) rfl (.inl (by kernel_rfl)))) eok_int) eok_str)))))))))))
theorem nm_ok {k : Nat} (T : Tx K mg) : ∀ x z, nmT x = some z → ∃ D, mg x = some (.ref D) ∧ PySem.W.exmOne K (.ref D) (.ref T.c_CurveError) = some true ∧ FnE P w K mg base (L2N.CX P w) (k + 1) T.a__law_name_of T.d__law_name_of "e" D z := by
  intro x z h
  unfold nmT at h
  split at h
  · rename_i e; subst e; cases h; exact ⟨_, T.m_InvalidManner, T.x_InvalidManner, ok__law_name_of T nm_0 T.e_InvalidManner T.y_InvalidManner_0 T.y_InvalidManner_1 T.y_InvalidManner_2 T.y_InvalidManner_3 T.y_InvalidManner_4 T.y_InvalidManner_5 T.y_InvalidManner_6 T.y_InvalidManner_7 T.y_InvalidManner_8 T.y_InvalidManner_9 T.y_InvalidManner_10 T.y_InvalidManner_11 T.y_InvalidManner_12 T.y_InvalidManner_13 T.y_InvalidManner_14 T.y_InvalidManner_15⟩
  split at h
  · rename_i e; subst e; cases h; exact ⟨_, T.m_InvalidCode, T.x_InvalidCode, ok__law_name_of T nm_2 T.e_InvalidCode T.y_InvalidCode_0 T.y_InvalidCode_1 T.y_InvalidCode_2 T.y_InvalidCode_3 T.y_InvalidCode_4 T.y_InvalidCode_5 T.y_InvalidCode_6 T.y_InvalidCode_7 T.y_InvalidCode_8 T.y_InvalidCode_9 T.y_InvalidCode_10 T.y_InvalidCode_11 T.y_InvalidCode_12 T.y_InvalidCode_13 T.y_InvalidCode_14 T.y_InvalidCode_15⟩
  cases h

theorem ok_is_integer (T : Tx K mg) : FnOk P w K mg base (L2N.CX P w) 1 T.a_is_integer T.d_is_integer ["value"] (spD K mg none false 1 ev_is_integer) :=
 fn_okD T.F_is_integer sc_is_integer (fun cdv A outer s H E hr => show SsOk _ _ _ bd_is_integer from
 (ssok_one (sok_ret (eok_and (eok_isi .int (by decide) (glk (by kernel_rfl)) T.n_isinstance (glk (by kernel_rfl)) T.n_int PyProof.Rows.boot_int (eok_var (pe_var (i := 0) rfl (.inl (by kernel_rfl))))) (eok_one (eok_not (eok_isi .bl (by decide) (glk (by kernel_rfl)) T.n_isinstance (glk (by kernel_rfl)) T.n_bool PyProof.Rows.boot_bool (eok_var (pe_var (i := 0) rfl (.inl (by kernel_rfl)))))))))))
theorem ok_is_between (T : Tx K mg) : FnOk P w K mg base (L2N.CX P w) 2 T.a_is_between T.d_is_between ["value", "low", "high"] (spD K mg none false 3 ev_is_between) :=
 fn_okD T.F_is_between sc_is_between (fun cdv A outer s H E hr => show SsOk _ _ _ bd_is_between from
 (ssok_one (sok_ret (eok_and (eok_call (n := 1) tkD (ok_is_integer T) (hr.mono (show 1 ≤ 1 by decide)) (glk (by kernel_rfl)) T.m_is_integer T.F_is_integer.kp T.b_is_integer (aok_cons (eok_var (pe_var (i := 0) rfl (.inl (by kernel_rfl)))) aok_nil) (aCons_len aNil_len)) (eok_one (eok_ch d2_le d2_le (fun h1 h2 h3 => pe_chain op_le op_le h1 h2 h3) (eok_var (pe_var (i := 1) rfl (.inl (by kernel_rfl)))) (eok_var (pe_var (i := 0) rfl (.inl (by kernel_rfl)))) (eok_var (pe_var (i := 2) rfl (.inl (by kernel_rfl))))))))))
theorem ok_is_cell (T : Tx K mg) : FnOk P w K mg base (L2N.CX P w) 3 T.a_is_cell T.d_is_cell ["value", "columns", "rows", "many"] (spD K mg none false 4 ev_is_cell) :=
 fn_okD T.F_is_cell sc_is_cell (fun cdv A outer s H E hr => show SsOk _ _ _ bd_is_cell from
 (ssok_cons (sok_if (WOk.t (wok_or (tok_not (tok_val (eok_isi .tup (by decide) (glk (by kernel_rfl)) T.n_isinstance (glk (by kernel_rfl)) T.n_tuple PyProof.Rows.boot_tuple (eok_var (pe_var (i := 0) rfl (.inl (by kernel_rfl))))) (fun h => pt_val h))) (wok_or (tok_cmp d2_ne (fun h1 h2 => pt_cmpR (op_neX (u64 hr)) h1 h2 (nomark _)) (eok_cb dc_len (fun h => pe_callB call_len (glk (by kernel_rfl)) T.n_len PySem.boot_len h) (aok_cons (eok_var (pe_var (i := 0) rfl (.inl (by kernel_rfl)))) aok_nil)) eok_int) (wok_or1 (tok_not (tok_val (eok_call (n := 3) tkD (ok_is_between T) (hr.mono (show 2 ≤ 2 by decide)) (glk (by kernel_rfl)) T.m_is_between T.F_is_between.kp T.b_is_between (aok_cons (eok_ix (eok_var (pe_var (i := 0) rfl (.inl (by kernel_rfl)))) eok_int) (aok_cons eok_int (aok_cons (eok_op d2_sub (fun h1 h2 => pe_op op_sub h1 h2) (eok_var (pe_var (i := 3) rfl (.inl (by kernel_rfl)))) eok_int) aok_nil))) (aCons_len (aCons_len (aCons_len aNil_len)))) (fun h => pt_val h)))))))
 (ssok_one (sok_ret eok_bl))
 ssok_nil)
 (ssok_one (sok_ret (eok_and (eok_call (n := 3) tkD (ok_is_between T) (hr.mono (show 2 ≤ 2 by decide)) (glk (by kernel_rfl)) T.m_is_between T.F_is_between.kp T.b_is_between (aok_cons (eok_ix (eok_var (pe_var (i := 0) rfl (.inl (by kernel_rfl)))) eok_int) (aok_cons eok_int (aok_cons (eok_op d2_sub (fun h1 h2 => pe_op op_sub h1 h2) (eok_var (pe_var (i := 1) rfl (.inl (by kernel_rfl)))) eok_int) aok_nil))) (aCons_len (aCons_len (aCons_len aNil_len)))) (eok_one (eok_call (n := 3) tkD (ok_is_between T) (hr.mono (show 2 ≤ 2 by decide)) (glk (by kernel_rfl)) T.m_is_between T.F_is_between.kp T.b_is_between (aok_cons (eok_ix (eok_var (pe_var (i := 0) rfl (.inl (by kernel_rfl)))) eok_int) (aok_cons eok_int (aok_cons (eok_op d2_sub (fun h1 h2 => pe_op op_sub h1 h2) (eok_var (pe_var (i := 2) rfl (.inl (by kernel_rfl)))) eok_int) aok_nil))) (aCons_len (aCons_len (aCons_len aNil_len))))))))))
theorem ok_is_pattern (T : Tx K mg) : FnOk P w K mg base (L2N.CX P w) 4 T.a_is_pattern T.d_is_pattern ["value", "columns", "rows", "many"] (spD K mg none false 4 ev_is_pattern) :=
 fn_okD T.F_is_pattern sc_is_pattern (fun cdv A outer s H E hr => show SsOk _ _ _ bd_is_pattern from
 (ssok_cons (sok_if (WOk.t (wok_or (tok_not (tok_val (eok_isi .tup (by decide) (glk (by kernel_rfl)) T.n_isinstance (glk (by kernel_rfl)) T.n_tuple PyProof.Rows.boot_tuple (eok_var (pe_var (i := 0) rfl (.inl (by kernel_rfl))))) (fun h => pt_val h))) (wok_or1 (tok_cmp d2_ne (fun h1 h2 => pt_cmpR (op_neX (u64 hr)) h1 h2 (nomark _)) (eok_cb dc_len (fun h => pe_callB call_len (glk (by kernel_rfl)) T.n_len PySem.boot_len h) (aok_cons (eok_var (pe_var (i := 0) rfl (.inl (by kernel_rfl)))) aok_nil)) (eok_op d2_mulI (fun h1 h2 => pe_op op_mul h1 h2) (eok_var (pe_var (i := 1) rfl (.inr (.inl (by kernel_rfl))))) (eok_var (pe_var (i := 2) rfl (.inr (.inl (by kernel_rfl))))))))))
 (ssok_one (sok_ret eok_bl))
 ssok_nil)
 (ssok_cons (sok_if (tok_not (tok_val (eok_cb dc_all (fun h => pe_callB (cr_all rfl) (glk (by kernel_rfl)) T.n_all PyProof.Rows.boot_all h) (aok_cons (FOk.fr (fok_lc rfl sc_is_pattern.nd (iok_e (eok_var (pe_var (i := 0) rfl (.inl (by kernel_rfl))))) (own := [("cell", 4)]) (by kernel_rfl) (fun s H C cl fp => (gok_name (pg_name (i := 4) sc_is_pattern.nd rfl (.inl (by kernel_rfl))))) (fun s H C cl fp => tsok_nil) (fun s H C cl fp => (eok_call (n := 4) takes_0 (ok_is_cell T) (hr.mono (show 3 ≤ 3 by decide)) (glk (by kernel_rfl)) T.m_is_cell T.F_is_cell.kp T.b_is_cell (aok_cons (eok_var (pe_var (i := 4) rfl (.inl (by kernel_rfl)))) (aok_cons (eok_var (pe_var (i := 1) rfl (.inr (.inl (by kernel_rfl))))) (aok_cons (eok_var (pe_var (i := 2) rfl (.inr (.inl (by kernel_rfl))))) (aok_cons (eok_var (pe_var (i := 3) rfl (.inr (.inl (by kernel_rfl))))) aok_nil)))) (aCons_len (aCons_len (aCons_len (aCons_len aNil_len)))))) rfl (by decide))) aok_nil)) (fun h => pt_val h)))
 (ssok_one (sok_ret eok_bl))
 ssok_nil)
 (ssok_one (sok_ret (eok_op d2_eq (fun h1 h2 => pe_cmpR (op_eqX (u64 hr)) h1 h2 (nomark _)) (eok_lenSetT rfl (u64 hr) (glk (by kernel_rfl)) T.n_len (glk (by kernel_rfl)) T.n_set (FOk.fr (fok_lc rfl sc_is_pattern.nd (iok_e (eok_var (pe_var (i := 0) rfl (.inl (by kernel_rfl))))) (own := [("cell", 4)]) (by kernel_rfl) (fun s H C cl fp => (gok_name (pg_name (i := 4) sc_is_pattern.nd rfl (.inl (by kernel_rfl))))) (fun s H C cl fp => tsok_nil) (fun s H C cl fp => (eok_sl (eok_var (pe_var (i := 4) rfl (.inl (by kernel_rfl)))) ook_no (ook_pt eok_int))) rfl (by decide)))) (eok_cb dc_len (fun h => pe_callB call_len (glk (by kernel_rfl)) T.n_len PySem.boot_len h) (aok_cons (eok_var (pe_var (i := 0) rfl (.inl (by kernel_rfl)))) aok_nil))))))))
theorem ok_a_manner (T : Tx K mg) : FnOk P w K mg base (L2N.CX P w) 5 T.a_a_manner T.d_a_manner ["value"] (spD K mg none false 1 ev_a_manner) :=
 fn_okD T.F_a_manner sc_a_manner (fun cdv A outer s H E hr => show SsOk _ _ _ bd_a_manner from
 (ssok_cons (sok_if (WOk.t (wok_or (tok_not (tok_val (eok_isi .tup (by decide) (glk (by kernel_rfl)) T.n_isinstance (glk (by kernel_rfl)) T.n_tuple PyProof.Rows.boot_tuple (eok_var (pe_var (i := 0) rfl (.inl (by kernel_rfl))))) (fun h => pt_val h))) (wok_or (tok_cmp d2_ne (fun h1 h2 => pt_cmpR (op_neX (u64 hr)) h1 h2 (nomark _)) (eok_cb dc_len (fun h => pe_callB call_len (glk (by kernel_rfl)) T.n_len PySem.boot_len h) (aok_cons (eok_var (pe_var (i := 0) rfl (.inl (by kernel_rfl)))) aok_nil)) eok_int) (wok_or1 (tok_not (tok_val (eok_isi .tup (by decide) (glk (by kernel_rfl)) T.n_isinstance (glk (by kernel_rfl)) T.n_tuple PyProof.Rows.boot_tuple (eok_ix (eok_var (pe_var (i := 0) rfl (.inl (by kernel_rfl)))) eok_int)) (fun h => pt_val h)))))))
 (ssok_one (sok_ret eok_bl))
 ssok_nil)
 (ssok_cons (sok_asgG (fun h g => ps_asg h g) (gok_tup (fun h => pg_tup rfl h) (gsok_cons (gok_name (pg_name (i := 1) sc_a_manner.nd rfl (.inr (by kernel_rfl)))) (gsok_cons (gok_name (pg_name (i := 2) sc_a_manner.nd rfl (.inr (by kernel_rfl)))) (gsok_cons (gok_name (pg_name (i := 3) sc_a_manner.nd rfl (.inr (by kernel_rfl)))) gsok_nil)))) (eok_var (pe_var (i := 0) rfl (.inl (by kernel_rfl)))))
 (ssok_cons (sok_if (WOk.t (wok_or (tok_not (tok_val (eok_call (n := 3) tkD (ok_is_between T) (hr.mono (show 2 ≤ 4 by decide)) (glk (by kernel_rfl)) T.m_is_between T.F_is_between.kp T.b_is_between (aok_cons (eok_var (pe_var (i := 1) rfl (.inr (.inl (by kernel_rfl))))) (aok_cons eok_int (aok_cons eok_int aok_nil))) (aCons_len (aCons_len (aCons_len aNil_len)))) (fun h => pt_val h))) (wok_or (tok_not (tok_val (eok_call (n := 3) tkD (ok_is_between T) (hr.mono (show 2 ≤ 4 by decide)) (glk (by kernel_rfl)) T.m_is_between T.F_is_between.kp T.b_is_between (aok_cons (eok_var (pe_var (i := 2) rfl (.inr (.inl (by kernel_rfl))))) (aok_cons eok_int (aok_cons eok_int aok_nil))) (aCons_len (aCons_len (aCons_len aNil_len)))) (fun h => pt_val h))) (wok_or1 (tok_cmp d2_eq (fun h1 h2 => pt_cmpR (op_eqX (u64 hr)) h1 h2 (nomark _)) (eok_op d2_mulI (fun h1 h2 => pe_op op_mul h1 h2) (eok_var (pe_var (i := 1) rfl (.inr (.inl (by kernel_rfl))))) (eok_var (pe_var (i := 2) rfl (.inr (.inl (by kernel_rfl)))))) eok_int)))))
 (ssok_one (sok_ret eok_bl))
 ssok_nil)
 (ssok_cons (sok_if (tok_not (tok_ch d2_le d2_le (fun h1 h2 h3 => pt_chain op_le op_le h1 h2 h3) eok_int (eok_cb dc_len (fun h => pe_callB call_len (glk (by kernel_rfl)) T.n_len PySem.boot_len h) (aok_cons (eok_var (pe_var (i := 3) rfl (.inr (.inl (by kernel_rfl))))) aok_nil)) (eok_globI (glk (by kernel_rfl)) T.g_MOST)))
 (ssok_one (sok_ret eok_bl))
 ssok_nil)
 (ssok_one (sok_ret (eok_cb dc_all (fun h => pe_callB (cr_all rfl) (glk (by kernel_rfl)) T.n_all PyProof.Rows.boot_all h) (aok_cons (FOk.fr (fok_lc rfl sc_a_manner.nd (iok_e (eok_var (pe_var (i := 3) rfl (.inr (.inl (by kernel_rfl)))))) (own := [("pattern", 4)]) (by kernel_rfl) (fun s H C cl fp => (gok_name (pg_name (i := 4) sc_a_manner.nd rfl (.inl (by kernel_rfl))))) (fun s H C cl fp => tsok_nil) (fun s H C cl fp => (eok_call (n := 4) takes_0 (ok_is_pattern T) (hr.mono (show 4 ≤ 4 by decide)) (glk (by kernel_rfl)) T.m_is_pattern T.F_is_pattern.kp T.b_is_pattern (aok_cons (eok_var (pe_var (i := 4) rfl (.inl (by kernel_rfl)))) (aok_cons (eok_var (pe_var (i := 1) rfl (.inr (.inl (by kernel_rfl))))) (aok_cons (eok_var (pe_var (i := 2) rfl (.inr (.inl (by kernel_rfl))))) (aok_cons (eok_cb dc_len (fun h => pe_callB call_len (glk (by kernel_rfl)) T.n_len PySem.boot_len h) (aok_cons (eok_var (pe_var (i := 3) rfl (.inr (.inl (by kernel_rfl))))) aok_nil)) aok_nil)))) (aCons_len (aCons_len (aCons_len (aCons_len aNil_len)))))) rfl (by decide))) aok_nil)))))))))
theorem ok_need_manner (T : Tx K mg) : FnOk P w K mg base (L2N.CX P w) 6 T.a_need_manner T.d_need_manner ["value"] (spD K mg none false 1 ev_need_manner) :=
 fn_okD T.F_need_manner sc_need_manner (fun cdv A outer s H E hr => show SsOk _ _ _ bd_need_manner from
 (ssok_one (sok_if (tok_not (tok_val (eok_call (n := 1) tkD (ok_a_manner T) (hr.mono (show 5 ≤ 5 by decide)) (glk (by kernel_rfl)) T.m_a_manner T.F_a_manner.kp T.b_a_manner (aok_cons (eok_var (pe_var (i := 0) rfl (.inl (by kernel_rfl)))) aok_nil) (aCons_len aNil_len)) (fun h => pt_val h)))
 (ssok_one (sok_raise rfl tkD PySem.F.excBase_ValueError T.q_InvalidManner T.m_InvalidManner T.k_InvalidManner T.s_InvalidManner T.t_InvalidManner (glk (by kernel_rfl))))
 ssok_nil)))
theorem ok_are_digits (T : Tx K mg) : FnOk P w K mg base (L2N.CX P w) 1 T.a_are_digits T.d_are_digits ["value", "many"] (spD K mg none false 2 ev_are_digits) :=
 fn_okD T.F_are_digits sc_are_digits (fun cdv A outer s H E hr => show SsOk _ _ _ bd_are_digits from
 (ssok_one (sok_ret (eok_and (eok_isi .str (by decide) (glk (by kernel_rfl)) T.n_isinstance (glk (by kernel_rfl)) T.n_str PyProof.Rows.boot_str (eok_var (pe_var (i := 0) rfl (.inl (by kernel_rfl))))) (eok_one (eok_cb dc_all (fun h => pe_callB (cr_all rfl) (glk (by kernel_rfl)) T.n_all PyProof.Rows.boot_all h) (aok_cons (FOk.fr (fok_lc rfl sc_are_digits.nd (iok_e (eok_var (pe_var (i := 0) rfl (.inl (by kernel_rfl))))) (own := [("sign", 2)]) (by kernel_rfl) (fun s H C cl fp => (gok_name (pg_name (i := 2) sc_are_digits.nd rfl (.inl (by kernel_rfl))))) (fun s H C cl fp => tsok_nil) (fun s H C cl fp => (eok_op d2_in (fun h1 h2 => pe_cmpR (op_inX (u65 hr)) h1 h2 rfl) (eok_var (pe_var (i := 2) rfl (.inl (by kernel_rfl)))) (eok_sl eok_str ook_no (ook_pt (eok_var (pe_var (i := 1) rfl (.inr (.inl (by kernel_rfl))))))))) rfl (by decide))) aok_nil)))))))
theorem ok_a_code (T : Tx K mg) : FnOk P w K mg base (L2N.CX P w) 2 T.a_a_code T.d_a_code ["manner", "value"] (spD K mg none false 2 ev_a_code) :=
 fn_okD T.F_a_code sc_a_code (fun cdv A outer s H E hr => show SsOk _ _ _ bd_a_code from
 (ssok_one (sok_ret (eok_and (eok_call (n := 2) tkD (ok_are_digits T) (hr.mono (show 1 ≤ 1 by decide)) (glk (by kernel_rfl)) T.m_are_digits T.F_are_digits.kp T.b_are_digits (aok_cons (eok_var (pe_var (i := 1) rfl (.inl (by kernel_rfl)))) (aok_cons (eok_op d2_mulI (fun h1 h2 => pe_op op_mul h1 h2) (eok_ix (eok_var (pe_var (i := 0) rfl (.inl (by kernel_rfl)))) eok_int) (eok_ix (eok_var (pe_var (i := 0) rfl (.inl (by kernel_rfl)))) eok_int)) aok_nil)) (aCons_len (aCons_len aNil_len))) (eok_one (eok_op d2_le (fun h1 h2 => pe_cmpR op_le h1 h2 (nomark _)) (eok_cb dc_len (fun h => pe_callB call_len (glk (by kernel_rfl)) T.n_len PySem.boot_len h) (aok_cons (eok_var (pe_var (i := 1) rfl (.inl (by kernel_rfl)))) aok_nil)) (eok_globI (glk (by kernel_rfl)) T.g_DEEPEST)))))))
theorem ok_need_code (T : Tx K mg) : FnOk P w K mg base (L2N.CX P w) 3 T.a_need_code T.d_need_code ["manner", "value"] (spD K mg none false 2 ev_need_code) :=
 fn_okD T.F_need_code sc_need_code (fun cdv A outer s H E hr => show SsOk _ _ _ bd_need_code from
 (ssok_one (sok_if (tok_not (tok_val (eok_call (n := 2) tkD (ok_a_code T) (hr.mono (show 2 ≤ 2 by decide)) (glk (by kernel_rfl)) T.m_a_code T.F_a_code.kp T.b_a_code (aok_cons (eok_var (pe_var (i := 0) rfl (.inl (by kernel_rfl)))) (aok_cons (eok_var (pe_var (i := 1) rfl (.inl (by kernel_rfl)))) aok_nil)) (aCons_len (aCons_len aNil_len))) (fun h => pt_val h)))
 (ssok_one (sok_raise rfl tkD PySem.F.excBase_ValueError T.q_InvalidCode T.m_InvalidCode T.k_InvalidCode T.s_InvalidCode T.t_InvalidCode (glk (by kernel_rfl))))
 ssok_nil)))
theorem ok_place_in (T : Tx K mg) : FnOk P w K mg base (L2N.CX P w) 1 T.a_place_in T.d_place_in ["manner", "pattern", "code"] (spD K mg none false 3 ev_place_in) :=
 fn_okD T.F_place_in sc_place_in (fun cdv A outer s H E hr => show SsOk _ _ _ bd_place_in from
 (ssok_cons (sok_asgG (fun h g => ps_asg h g) (gok_tup (fun h => pg_tup rfl h) (gsok_cons (gok_name (pg_name (i := 3) sc_place_in.nd rfl (.inl (by kernel_rfl)))) (gsok_cons (gok_name (pg_name (i := 4) sc_place_in.nd rfl (.inl (by kernel_rfl)))) gsok_nil))) (eok_tup (aok_cons eok_int (aok_cons eok_int aok_nil))))
 (ssok_cons (sok_for poD rfl (iok_e (eok_var (pe_var (i := 2) rfl (.inl (by kernel_rfl))))) (gok_name (pg_name (i := 5) sc_place_in.nd rfl (.inl (by kernel_rfl)))) (show SsOk _ _ _ lp_place_in_1 from (ssok_af [5, 6] (ssok_cons (sok_set (fun h => ps_set (i := 6) sc_place_in.nd rfl (.inl (by kernel_rfl)) h) (eok_ix (eok_ix (eok_ix (eok_var (pe_var (i := 0) rfl (.inl (by kernel_rfl)))) eok_int) (eok_var (pe_var (i := 1) rfl (.inl (by kernel_rfl))))) (eok_cb dc_int1 (fun h => pe_callTy call_intX (glk (by kernel_rfl)) T.n_int PyProof.Rows.boot_int h) (aok_cons (eok_var (pe_var (i := 5) rfl (.inl (by kernel_rfl)))) aok_nil))))
 (ssok_one (sok_mul3 (fun h => ps_par3 (i := 3) (j := 4) (l := 1) rfl sc_place_in.nd rfl rfl rfl (by decide) (by decide) (by decide) (by kernel_rfl) (by kernel_rfl) (by kernel_rfl) h rfl) (mok_e (W := W0) (eok_op d2_add (fun h1 h2 => pe_op op_addX h1 h2) (eok_op d2_mulI (fun h1 h2 => pe_op op_mul h1 h2) (eok_var (pe_var (i := 3) rfl (.inl (by kernel_rfl)))) (eok_ix (eok_var (pe_var (i := 0) rfl (.inl (by kernel_rfl)))) eok_int)) (eok_ix (eok_var (pe_var (i := 6) rfl (.inl (by kernel_rfl)))) eok_int)) (mok_e (W := W0) (eok_op d2_add (fun h1 h2 => pe_op op_addX h1 h2) (eok_op d2_mulI (fun h1 h2 => pe_op op_mul h1 h2) (eok_var (pe_var (i := 4) rfl (.inl (by kernel_rfl)))) (eok_ix (eok_var (pe_var (i := 0) rfl (.inl (by kernel_rfl)))) eok_int)) (eok_ix (eok_var (pe_var (i := 6) rfl (.inl (by kernel_rfl)))) eok_int)) (mok_e (W := W0) (eok_ix (eok_var (pe_var (i := 6) rfl (.inl (by kernel_rfl)))) eok_int) mok_nil)))))))))
 (ssok_one (sok_ret (eok_tup (aok_cons (eok_var (pe_var (i := 3) rfl (.inl (by kernel_rfl)))) (aok_cons (eok_var (pe_var (i := 4) rfl (.inl (by kernel_rfl)))) aok_nil))))))))
theorem ok_place_of (T : Tx K mg) : FnOk P w K mg base (L2N.CX P w) 7 T.a_place_of T.d_place_of ["manner", "code"] (spD K mg none false 2 ev_place_of) :=
 fn_okD T.F_place_of sc_place_of (fun cdv A outer s H E hr => show SsOk _ _ _ bd_place_of from
 (ssok_cons (sok_drop (fun h => ps_expr h) (eok_call (n := 1) tkD (ok_need_manner T) (hr.mono (show 6 ≤ 6 by decide)) (glk (by kernel_rfl)) T.m_need_manner T.F_need_manner.kp T.b_need_manner (aok_cons (eok_var (pe_var (i := 0) rfl (.inl (by kernel_rfl)))) aok_nil) (aCons_len aNil_len)))
 (ssok_cons (sok_drop (fun h => ps_expr h) (eok_call (n := 2) tkD (ok_need_code T) (hr.mono (show 3 ≤ 6 by decide)) (glk (by kernel_rfl)) T.m_need_code T.F_need_code.kp T.b_need_code (aok_cons (eok_var (pe_var (i := 0) rfl (.inl (by kernel_rfl)))) (aok_cons (eok_var (pe_var (i := 1) rfl (.inl (by kernel_rfl)))) aok_nil)) (aCons_len (aCons_len aNil_len))))
 (ssok_one (sok_ret (eok_call (n := 3) tkD (ok_place_in T) (hr.mono (show 1 ≤ 6 by decide)) (glk (by kernel_rfl)) T.m_place_in T.F_place_in.kp T.b_place_in (aok_cons (eok_var (pe_var (i := 0) rfl (.inl (by kernel_rfl)))) (aok_cons eok_int (aok_cons (eok_var (pe_var (i := 1) rfl (.inl (by kernel_rfl)))) aok_nil))) (aCons_len (aCons_len (aCons_len aNil_len)))))))))
theorem ok__law_place_by (T : Tx K mg) : FnOk P w K mg base (L2N.CX P w) 1 T.a__law_place_by T.d__law_place_by ["m", "index_so", "code_so"] (spD K mg none false 3 ev__law_place_by) :=
 fn_okD T.F__law_place_by sc__law_place_by (fun cdv A outer s H E hr => show SsOk _ _ _ bd__law_place_by from
 (ssok_cons (sok_setO (fun h => ps_set (i := 3) sc__law_place_by.nd rfl (.inl (by kernel_rfl)) h) (fok_lst aok_nil))
 (ssok_cons (sok_for poD rfl (iok_e (eok_var (pe_var (i := 2) rfl (.inl (by kernel_rfl))))) (gok_name (pg_name (i := 4) sc__law_place_by.nd rfl (.inl (by kernel_rfl)))) (show SsOk _ _ _ lp__law_place_by_1 from (ssok_af [4, 8, 9, 10] (ssok_cons (sok_asgG (fun h g => ps_asg h g) (gok_tup (fun h => pg_tup rfl h) (gsok_cons (gok_name (pg_name (i := 8) sc__law_place_by.nd rfl (.inl (by kernel_rfl)))) (gsok_cons (gok_name (pg_name (i := 9) sc__law_place_by.nd rfl (.inl (by kernel_rfl)))) (gsok_cons (gok_name (pg_name (i := 10) sc__law_place_by.nd rfl (.inl (by kernel_rfl)))) gsok_nil)))) (eok_ix (eok_ix (eok_ix (eok_var (pe_var (i := 0) rfl (.inl (by kernel_rfl)))) eok_int) (eok_var (pe_var (i := 1) rfl (.inl (by kernel_rfl))))) (eok_cb dc_int1 (fun h => pe_callTy call_intX (glk (by kernel_rfl)) T.n_int PyProof.Rows.boot_int h) (aok_cons (eok_var (pe_var (i := 4) rfl (.inl (by kernel_rfl)))) aok_nil))))
 (ssok_cons (sok_app (fun h => ps_expr (pe_bm PySem.F.plainAttrs_list PySem.F.slot_list_append PySem.F.type_list_append mt_append (pe_var (i := 3) rfl (.inl (by kernel_rfl))) h)) (aok_cons (eok_tup (aok_cons (eok_var (pe_var (i := 8) rfl (.inl (by kernel_rfl)))) (aok_cons (eok_var (pe_var (i := 9) rfl (.inl (by kernel_rfl)))) aok_nil))) aok_nil))
 (ssok_one (sok_set (fun h => ps_set (i := 1) sc__law_place_by.nd rfl (.inl (by kernel_rfl)) h) (eok_var (pe_var (i := 10) rfl (.inl (by kernel_rfl)))))))))))
 (ssok_cons (sok_asgG (fun h g => ps_asg h g) (gok_tup (fun h => pg_tup rfl h) (gsok_cons (gok_name (pg_name (i := 5) sc__law_place_by.nd rfl (.inl (by kernel_rfl)))) (gsok_cons (gok_name (pg_name (i := 6) sc__law_place_by.nd rfl (.inl (by kernel_rfl)))) (gsok_cons (gok_name (pg_name (i := 7) sc__law_place_by.nd rfl (.inl (by kernel_rfl)))) gsok_nil)))) (eok_tup (aok_cons (eok_tup (aok_cons eok_int (aok_cons eok_int aok_nil))) (aok_cons eok_int (aok_cons eok_int aok_nil)))))
 (ssok_cons (sok_for poD rfl (iok_e (FOk.fr (fok_rev (eok_var (pe_var (i := 3) rfl (.inl (by kernel_rfl))))))) (gok_tup (fun h => pg_tup rfl h) (gsok_cons (gok_name (pg_name (i := 8) sc__law_place_by.nd rfl (.inl (by kernel_rfl)))) (gsok_cons (gok_name (pg_name (i := 9) sc__law_place_by.nd rfl (.inl (by kernel_rfl)))) gsok_nil))) (show SsOk _ _ _ lp__law_place_by_2 from (ssok_af [8, 9] (ssok_cons (sok_set (fun h => ps_set (i := 5) sc__law_place_by.nd rfl (.inl (by kernel_rfl)) h) (eok_tup (aok_cons (eok_op d2_add (fun h1 h2 => pe_op op_addX h1 h2) (eok_ix (eok_var (pe_var (i := 5) rfl (.inl (by kernel_rfl)))) eok_int) (eok_op d2_mulI (fun h1 h2 => pe_op op_mul h1 h2) (eok_var (pe_var (i := 8) rfl (.inl (by kernel_rfl)))) (eok_var (pe_var (i := 6) rfl (.inl (by kernel_rfl)))))) (aok_cons (eok_op d2_add (fun h1 h2 => pe_op op_addX h1 h2) (eok_ix (eok_var (pe_var (i := 5) rfl (.inl (by kernel_rfl)))) eok_int) (eok_op d2_mulI (fun h1 h2 => pe_op op_mul h1 h2) (eok_var (pe_var (i := 9) rfl (.inl (by kernel_rfl)))) (eok_var (pe_var (i := 7) rfl (.inl (by kernel_rfl)))))) aok_nil))))
 (ssok_one (sok_par (fun h => ps_par (i := 6) (j := 7) rfl sc__law_place_by.nd rfl rfl (by decide) (by kernel_rfl) (by kernel_rfl) h rfl) (aok_cons (eok_op d2_mulI (fun h1 h2 => pe_op op_mul h1 h2) (eok_var (pe_var (i := 6) rfl (.inl (by kernel_rfl)))) (eok_ix (eok_var (pe_var (i := 0) rfl (.inl (by kernel_rfl)))) eok_int)) (aok_cons (eok_op d2_mulI (fun h1 h2 => pe_op op_mul h1 h2) (eok_var (pe_var (i := 7) rfl (.inl (by kernel_rfl)))) (eok_ix (eok_var (pe_var (i := 0) rfl (.inl (by kernel_rfl)))) eok_int)) aok_nil))))))))
 (ssok_one (sok_ret (eok_var (pe_var (i := 5) rfl (.inl (by kernel_rfl)))))))))))
theorem ok__law_place (T : Tx K mg) : FnOk P w K mg base (L2N.CX P w) 2 T.a__law_place T.d__law_place ["m", "code_so"] (spD K mg none false 2 ev__law_place) :=
 fn_okD T.F__law_place sc__law_place (fun cdv A outer s H E hr => show SsOk _ _ _ bd__law_place from
 (ssok_one (sok_ret (eok_call (n := 3) tkD (ok__law_place_by T) (hr.mono (show 1 ≤ 1 by decide)) (glk (by kernel_rfl)) T.m__law_place_by T.F__law_place_by.kp T.b__law_place_by (aok_cons (eok_var (pe_var (i := 0) rfl (.inl (by kernel_rfl)))) (aok_cons eok_int (aok_cons (eok_var (pe_var (i := 1) rfl (.inl (by kernel_rfl)))) aok_nil))) (aCons_len (aCons_len (aCons_len aNil_len)))))))
theorem ok__law_deep (T : Tx K mg) : FnOk P w K mg base (L2N.CX P w) 1 T.a__law_deep T.d__law_deep ["m"] (spD K mg none false 1 ev__law_deep) :=
 fn_okD T.F__law_deep sc__law_deep (fun cdv A outer s H E hr => show SsOk _ _ _ bd__law_deep from
 (ssok_one (sok_ret (eok_dg (hu_of hr) (by intro _ _; rfl) (FOk.fr (fok_dct [(.inl 2, 6), (.inl 3, 4), (.inl 4, 3), (.inl 6, 3), (.inl 9, 2)] (pps_cons pe_int pe_int (pps_cons pe_int pe_int (pps_cons pe_int pe_int (pps_cons pe_int pe_int (pps_cons pe_int pe_int pps_nil))))) rfl rfl (List.cons_ne_nil _ _) (by decide) rfl (by decide))) (eok_op d2_mulI (fun h1 h2 => pe_op op_mul h1 h2) (eok_ix (eok_var (pe_var (i := 0) rfl (.inl (by kernel_rfl)))) eok_int) (eok_ix (eok_var (pe_var (i := 0) rfl (.inl (by kernel_rfl)))) eok_int))))))
theorem ok__law_code (T : Tx K mg) : FnOk P w K mg base (L2N.CX P w) 1 T.a__law_code T.d__law_code ["m", "depth_so", "number_so"] (spD K mg none false 3 ev__law_code) :=
 fn_okD T.F__law_code sc__law_code (fun cdv A outer s H E hr => show SsOk _ _ _ bd__law_code from
 (ssok_cons (sok_set (fun h => ps_set (i := 3) sc__law_code.nd rfl (.inl (by kernel_rfl)) h) eok_str)
 (ssok_cons (sok_for poD rfl (iok_rg (glk (by kernel_rfl)) T.n_range (aok_cons (eok_var (pe_var (i := 1) rfl (.inl (by kernel_rfl)))) aok_nil)) (gok_name (pg_name (i := 4) sc__law_code.nd rfl (.inl (by kernel_rfl)))) (show SsOk _ _ _ lp__law_code_1 from (ssok_af [4] (ssok_cons (sok_set (fun h => ps_set (i := 3) sc__law_code.nd rfl (.inl (by kernel_rfl)) h) (eok_op d2_add (fun h1 h2 => pe_op op_addX h1 h2) (eok_cb dc_str1 (fun h => pe_callTy call_str_int (glk (by kernel_rfl)) T.n_str PyProof.Rows.boot_str h) (aok_cons (eok_op d2_mod (fun h1 h2 => pe_op op_mod h1 h2) (eok_cb dc_int1 (fun h => pe_callTy call_intX (glk (by kernel_rfl)) T.n_int PyProof.Rows.boot_int h) (aok_cons (eok_var (pe_var (i := 2) rfl (.inl (by kernel_rfl)))) aok_nil)) (eok_op d2_mulI (fun h1 h2 => pe_op op_mul h1 h2) (eok_ix (eok_var (pe_var (i := 0) rfl (.inl (by kernel_rfl)))) eok_int) (eok_ix (eok_var (pe_var (i := 0) rfl (.inl (by kernel_rfl)))) eok_int))) aok_nil)) (eok_var (pe_var (i := 3) rfl (.inl (by kernel_rfl))))))
 (ssok_one (sok_set (fun h => ps_set (i := 2) sc__law_code.nd rfl (.inl (by kernel_rfl)) h) (eok_op d2_div (fun h1 h2 => pe_op op_fdivW h1 h2) (eok_var (pe_var (i := 2) rfl (.inl (by kernel_rfl)))) (eok_op d2_mulI (fun h1 h2 => pe_op op_mul h1 h2) (eok_ix (eok_var (pe_var (i := 0) rfl (.inl (by kernel_rfl)))) eok_int) (eok_ix (eok_var (pe_var (i := 0) rfl (.inl (by kernel_rfl)))) eok_int)))))))))
 (ssok_one (sok_ret (eok_var (pe_var (i := 3) rfl (.inl (by kernel_rfl)))))))))
theorem ok_law (T : Tx K mg) (TB : LamX.TabB base mg T.cd_law T.tp_law) (hT : Tab.T = [(T.tp_law, (envOfC "law" (defScope s_law) 0 0 .none).qual ++ "<lambda>")]) : FnOk P w K mg base (L2N.CX P w) 10 T.a_law T.d_law ["script"] (spD K mg none false 1 ev_law) :=
 fn_okC T.F_law T.hc_law sc_law (fun A outer s H E hr => show SsOk _ _ _ bd_law from
 (ssok_cons (sok_for poD rfl (iok_rg (glk (by kernel_rfl)) T.n_range (aok_cons eok_int aok_nil)) (gok_name (pg_name (i := 1) sc_law.nd rfl (.inl (by kernel_rfl)))) (show SsOk _ _ _ lp_law_3 from (ssok_af [1, 3, 4, 5, 6, 7, 8, 9, 10] (ssok_cons (sok_setO (fun h => ps_set (i := 3) sc_law.nd rfl (.inl (by kernel_rfl)) h) (fok_call (n := 2) tkD (ok__law_source T) (hr.mono (show 1 ≤ 9 by decide)) (glk (by kernel_rfl)) T.m__law_source T.F__law_source.kp T.b__law_source (aok_cons (eok_var (pe_var (i := 0) rfl (.inl (by kernel_rfl)))) (aok_cons (eok_var (pe_var (i := 1) rfl (.inl (by kernel_rfl)))) aok_nil)) (aCons_len (aCons_len aNil_len))))
 (ssok_cons (sok_set (fun h => ps_set (i := 4) sc_law.nd rfl (.inr (by kernel_rfl)) h) (eok_call (n := 1) tkD (ok__law_manner T) (hr.mono (show 4 ≤ 9 by decide)) (glk (by kernel_rfl)) T.m__law_manner T.F__law_manner.kp T.b__law_manner (aok_cons (eok_var (pe_var (i := 3) rfl (.inl (by kernel_rfl)))) aok_nil) (aCons_len aNil_len)))
 (ssok_cons (sok_for poD rfl (iok_rg (glk (by kernel_rfl)) T.n_range (aok_cons eok_int aok_nil)) (gok_name (pg_name (i := 5) sc_law.nd rfl (.inl (by kernel_rfl)))) (show SsOk _ _ _ lp_law_1 from (ssok_af [5, 9] (ssok_cons (sok_set (fun h => ps_set (i := 9) sc_law.nd rfl (.inl (by kernel_rfl)) h) (eok_call (n := 3) tkD (ok__law_any_code T) (hr.mono (show 2 ≤ 9 by decide)) (glk (by kernel_rfl)) T.m__law_any_code T.F__law_any_code.kp T.b__law_any_code (aok_cons (eok_var (pe_var (i := 3) rfl (.inl (by kernel_rfl)))) (aok_cons (eok_var (pe_var (i := 4) rfl (.inr (.inl (by kernel_rfl))))) (aok_cons (eok_call (n := 2) tkD (ok__law_chosen T) (hr.mono (show 2 ≤ 9 by decide)) (glk (by kernel_rfl)) T.m__law_chosen T.F__law_chosen.kp T.b__law_chosen (aok_cons (eok_var (pe_var (i := 3) rfl (.inl (by kernel_rfl)))) (aok_cons (FOk.fr (fok_lst (aok_cons eok_int (aok_cons eok_int (aok_cons eok_int (aok_cons eok_int (aok_cons eok_int (aok_cons (eok_call (n := 2) tkD (ok__law_pick T) (hr.mono (show 1 ≤ 9 by decide)) (glk (by kernel_rfl)) T.m__law_pick T.F__law_pick.kp T.b__law_pick (aok_cons (eok_var (pe_var (i := 3) rfl (.inl (by kernel_rfl)))) (aok_cons eok_int aok_nil)) (aCons_len (aCons_len aNil_len))) aok_nil)))))))) aok_nil)) (aCons_len (aCons_len aNil_len))) aok_nil))) (aCons_len (aCons_len (aCons_len aNil_len)))))
 (ssok_one (sok_if (tok_cmp d2_ne (fun h1 h2 => pt_cmpR (op_neX (u64 hr)) h1 h2 (nomark _)) (eok_call (n := 2) tkD (ok_place_of T) (hr.mono (show 7 ≤ 9 by decide)) (glk (by kernel_rfl)) T.m_place_of T.F_place_of.kp T.b_place_of (aok_cons (eok_var (pe_var (i := 4) rfl (.inr (.inl (by kernel_rfl))))) (aok_cons (eok_var (pe_var (i := 9) rfl (.inl (by kernel_rfl)))) aok_nil)) (aCons_len (aCons_len aNil_len))) (eok_call (n := 2) tkD (ok__law_place T) (hr.mono (show 2 ≤ 9 by decide)) (glk (by kernel_rfl)) T.m__law_place T.F__law_place.kp T.b__law_place (aok_cons (eok_var (pe_var (i := 4) rfl (.inr (.inl (by kernel_rfl))))) (aok_cons (eok_var (pe_var (i := 9) rfl (.inl (by kernel_rfl)))) aok_nil)) (aCons_len (aCons_len aNil_len))))
 (ssok_one (sok_ret eok_bl))
 ssok_nil))))))
 (ssok_cons (sok_set (fun h => ps_set (i := 6) sc_law.nd rfl (.inl (by kernel_rfl)) h) (eok_op d2_add (fun h1 h2 => pe_op op_addX h1 h2) eok_int (eok_call (n := 2) tkD (ok__law_pick T) (hr.mono (show 1 ≤ 9 by decide)) (glk (by kernel_rfl)) T.m__law_pick T.F__law_pick.kp T.b__law_pick (aok_cons (eok_var (pe_var (i := 3) rfl (.inl (by kernel_rfl)))) (aok_cons (eok_op d2_sub (fun h1 h2 => pe_op op_sub h1 h2) (eok_call (n := 1) tkD (ok__law_deep T) (hr.mono (show 1 ≤ 9 by decide)) (glk (by kernel_rfl)) T.m__law_deep T.F__law_deep.kp T.b__law_deep (aok_cons (eok_var (pe_var (i := 4) rfl (.inr (.inl (by kernel_rfl))))) aok_nil) (aCons_len aNil_len)) eok_int) aok_nil)) (aCons_len (aCons_len aNil_len)))))
 (ssok_cons (sok_set (fun h => ps_set (i := 7) sc_law.nd rfl (.inl (by kernel_rfl)) h) (eok_call (n := 2) tkD (ok__law_table T) (hr.mono (show 1 ≤ 9 by decide)) (glk (by kernel_rfl)) T.m__law_table T.F__law_table.kp T.b__law_table (aok_cons (eok_var (pe_var (i := 4) rfl (.inr (.inl (by kernel_rfl))))) (aok_cons (eok_var (pe_var (i := 6) rfl (.inl (by kernel_rfl)))) aok_nil)) (aCons_len (aCons_len aNil_len))))
 (ssok_cons (sok_if (tok_cmp d2_ne (fun h1 h2 => pt_cmpR (op_neX (u64 hr)) h1 h2 (nomark _)) (eok_lenSetT rfl (u64 hr) (glk (by kernel_rfl)) T.n_len (glk (by kernel_rfl)) T.n_set (eok_var (pe_var (i := 7) rfl (.inl (by kernel_rfl))))) (eok_cb dc_len (fun h => pe_callB call_len (glk (by kernel_rfl)) T.n_len PySem.boot_len h) (aok_cons (eok_var (pe_var (i := 7) rfl (.inl (by kernel_rfl)))) aok_nil)))
 (ssok_one (sok_ret eok_bl))
 ssok_nil)
 (ssok_cons (sok_for poD rfl (iok_rg (glk (by kernel_rfl)) T.n_range (aok_cons eok_int aok_nil)) (gok_name (pg_name (i := 5) sc_law.nd rfl (.inl (by kernel_rfl)))) (show SsOk _ _ _ lp_law_2 from (ssok_af [5, 10] (ssok_cons (sok_set (fun h => ps_set (i := 10) sc_law.nd rfl (.inl (by kernel_rfl)) h) (eok_call (n := 2) tkD (ok__law_pick T) (hr.mono (show 1 ≤ 9 by decide)) (glk (by kernel_rfl)) T.m__law_pick T.F__law_pick.kp T.b__law_pick (aok_cons (eok_var (pe_var (i := 3) rfl (.inl (by kernel_rfl)))) (aok_cons (eok_cb dc_len (fun h => pe_callB call_len (glk (by kernel_rfl)) T.n_len PySem.boot_len h) (aok_cons (eok_var (pe_var (i := 7) rfl (.inl (by kernel_rfl)))) aok_nil)) aok_nil)) (aCons_len (aCons_len aNil_len))))
 (ssok_one (sok_if (tok_cmp d2_ne (fun h1 h2 => pt_cmpR (op_neX (u64 hr)) h1 h2 (nomark _)) (eok_call (n := 2) tkD (ok_place_of T) (hr.mono (show 7 ≤ 9 by decide)) (glk (by kernel_rfl)) T.m_place_of T.F_place_of.kp T.b_place_of (aok_cons (eok_var (pe_var (i := 4) rfl (.inr (.inl (by kernel_rfl))))) (aok_cons (eok_call (n := 3) tkD (ok__law_code T) (hr.mono (show 1 ≤ 9 by decide)) (glk (by kernel_rfl)) T.m__law_code T.F__law_code.kp T.b__law_code (aok_cons (eok_var (pe_var (i := 4) rfl (.inr (.inl (by kernel_rfl))))) (aok_cons (eok_var (pe_var (i := 6) rfl (.inl (by kernel_rfl)))) (aok_cons (eok_var (pe_var (i := 10) rfl (.inl (by kernel_rfl)))) aok_nil))) (aCons_len (aCons_len (aCons_len aNil_len)))) aok_nil)) (aCons_len (aCons_len aNil_len))) (eok_ix (eok_var (pe_var (i := 7) rfl (.inl (by kernel_rfl)))) (eok_var (pe_var (i := 10) rfl (.inl (by kernel_rfl))))))
 (ssok_one (sok_ret eok_bl))
 ssok_nil))))))
 (ssok_cons (sok_set (fun h => ps_set (i := 8) sc_law.nd rfl (.inr (by kernel_rfl)) h) (eok_call (n := 2) tkD (ok__law_chosen T) (hr.mono (show 2 ≤ 9 by decide)) (glk (by kernel_rfl)) T.m__law_chosen T.F__law_chosen.kp T.b__law_chosen (aok_cons (eok_var (pe_var (i := 3) rfl (.inl (by kernel_rfl)))) (aok_cons (FOk.fr (fok_lst (aok_cons eok_non (aok_cons eok_str (aok_cons (eok_op d2_mulS (fun h1 h2 => pe_op op_repS h1 h2) eok_str eok_int) (aok_cons eok_int (aok_cons (eok_tup (aok_cons eok_str aok_nil)) (aok_cons eok_str aok_nil)))))))) aok_nil)) (aCons_len (aCons_len aNil_len))))
 (ssok_cons (sok_if (WOk.t (wok_or (tok_cmp d2_ne (fun h1 h2 => pt_cmpR (op_neX (u64 hr)) h1 h2 (nomark _)) (eok_lawerr (k := 7) T.F__law_error sc__law_error rfl (glk (by kernel_rfl)) T.m__law_error (.inl (by kernel_rfl)) (by kernel_rfl) (by kernel_rfl) T.m__law_name_of (nm_ok T) T.F__law_name_of.kp T.b__law_name_of T.b__law_error (by kernel_rfl) T.m_CurveError TB rfl hT (hr.mono (show 9 ≤ 9 by decide)) (by kernel_rfl) rfl (fun _ _ _ _ _ => rfl) (fun A outer s H E f' c' hr => (eok_call (n := 2) takes_lam (ok_place_of T) (hr.mono (show 7 ≤ 7 by decide)) (glk (by kernel_rfl)) T.m_place_of T.F_place_of.kp T.b_place_of (aok_cons (eok_var (pe_var (i := 4) rfl (.inr (.inr (by kernel_rfl))))) (aok_cons (eok_var (pe_var (i := 8) rfl (.inr (.inr (by kernel_rfl))))) aok_nil)) (aCons_len (aCons_len aNil_len))))) eok_str) (wok_or1 (tok_cmp d2_ne (fun h1 h2 => pt_cmpR (op_neX (u64 hr)) h1 h2 (nomark _)) (eok_call (n := 2) tkD (ok_place_of T) (hr.mono (show 7 ≤ 9 by decide)) (glk (by kernel_rfl)) T.m_place_of T.F_place_of.kp T.b_place_of (aok_cons (eok_var (pe_var (i := 4) rfl (.inr (.inl (by kernel_rfl))))) (aok_cons eok_str aok_nil)) (aCons_len (aCons_len aNil_len))) (eok_tup (aok_cons eok_int (aok_cons eok_int aok_nil)))))))
 (ssok_one (sok_ret eok_bl))
 ssok_nil)
 (ssok_one (sok_if (tok_cmp d2_ne (fun h1 h2 => pt_cmpR (op_neX (u64 hr)) h1 h2 (nomark _)) (eok_lawerr (k := 7) T.F__law_error sc__law_error rfl (glk (by kernel_rfl)) T.m__law_error (.inl (by kernel_rfl)) (by kernel_rfl) (by kernel_rfl) T.m__law_name_of (nm_ok T) T.F__law_name_of.kp T.b__law_name_of T.b__law_error (by kernel_rfl) T.m_CurveError TB rfl hT (hr.mono (show 9 ≤ 9 by decide)) (by kernel_rfl) rfl (fun _ _ _ _ _ => rfl) (fun A outer s H E f' c' hr => (eok_call (n := 2) takes_lam (ok_place_of T) (hr.mono (show 7 ≤ 7 by decide)) (glk (by kernel_rfl)) T.m_place_of T.F_place_of.kp T.b_place_of (aok_cons (eok_sl (eok_var (pe_var (i := 4) rfl (.inr (.inr (by kernel_rfl))))) ook_no (ook_pt eok_int)) (aok_cons eok_str aok_nil)) (aCons_len (aCons_len aNil_len))))) eok_str)
 (ssok_one (sok_ret eok_bl))
 ssok_nil))))))))))))))
 (ssok_cons (sok_set (fun h => ps_set (i := 2) sc_law.nd rfl (.inr (by kernel_rfl)) h) (eok_ix (eok_call0 (ok__law_known T) (hr.mono (show 1 ≤ 9 by decide)) (glk (by kernel_rfl)) T.m__law_known T.F__law_known.kp T.b__law_known) eok_int))
 (ssok_one (sok_ret (eok_op d2_eq (fun h1 h2 => pe_cmpR (op_eqX (u64 hr)) h1 h2 (nomark _)) (FOk.fr (fok_lc rfl sc_law.nd (iok_e (FOk.fr (fok_lst (aok_cons eok_str (aok_cons eok_str (aok_cons eok_str (aok_cons eok_str aok_nil))))))) (own := [("text", 9)]) (by kernel_rfl) (fun s H C cl fp => (gok_name (pg_name (i := 9) sc_law.nd rfl (.inl (by kernel_rfl))))) (fun s H C cl fp => tsok_nil) (fun s H C cl fp => (eok_call (n := 2) takes_0 (ok_place_of T) (hr.mono (show 7 ≤ 9 by decide)) (glk (by kernel_rfl)) T.m_place_of T.F_place_of.kp T.b_place_of (aok_cons (eok_var (pe_var (i := 2) rfl (.inr (.inl (by kernel_rfl))))) (aok_cons (eok_var (pe_var (i := 9) rfl (.inl (by kernel_rfl)))) aok_nil)) (aCons_len (aCons_len aNil_len)))) rfl (by decide))) (FOk.fr (fok_lst (aok_cons (eok_tup (aok_cons eok_int (aok_cons eok_int aok_nil))) (aok_cons (eok_tup (aok_cons eok_int (aok_cons eok_int aok_nil))) (aok_cons (eok_tup (aok_cons eok_int (aok_cons eok_int aok_nil))) (aok_cons (eok_tup (aok_cons eok_int (aok_cons eok_int aok_nil))) aok_nil))))))))))))
end
end K03

namespace CM
open PySem PySem.Spec PyProof.Rows L2 DL
theorem is_integer_int (i : Int) : ev_is_integer [.int i] = .ok (.bl true) .non := by
  simp -dsimp [ev_is_integer, fnD, bd_is_integer]
theorem is_between_int (i a b : Int) : ev_is_between [.int i, .int a, .int b] = .ok (.bl (decide (a ≤ i ∧ i ≤ b))) .non := by
  simp -dsimp [ev_is_between, fnD, bd_is_between, is_integer_int]
  by_cases h : a ≤ i <;> simp [h]
theorem is_cell_ok (x y z c r m : Int) (hz : 0 ≤ z ∧ z < m) (hx : 0 ≤ x ∧ x < c) (hy : 0 ≤ y ∧ y < r) : ev_is_cell [.tup [.int x, .int y, .int z], .int c, .int r, .int m] = .ok (.bl true) .non := by
  simp -dsimp [ev_is_cell, fnD, bd_is_cell, is_between_int, atI, ixN, hz.1, hx.1, hy.1, show z ≤ m - 1 by omega, show x ≤ c - 1 by omega, show y ≤ r - 1 by omega]

/-! ### the numbers drawn -/
structure SrcOk (a b p : Int) : Prop where
  a0 : 0 ≤ a
  b0 : 0 ≤ b
  b1 : b < 2 ^ 31
  p0 : 0 < p
  p1 : p < 2 ^ 31
def srcD (a b p : Int) : D := .lst [.int a, .int b, .int p]
def Src (d : D) : Prop := ∃ a b p, d = srcD a b p ∧ SrcOk a b p
theorem pick_big (a b p m : Int) (ha : 0 < a) (hm : 0 < m) (hm2 : m < 1000000) : ev__law_pick [srcD a b p, .int m] = .ok (.int (a % m)) (srcD (a / m) b p) := by
  simp -dsimp [ev__law_pick, fnD, bd__law_pick, atI, ixN, ha, hm, srcD, divOk_t hm (show m < 1000000000000000000 by omega)]
theorem pick_low (a b p m : Int) (ha : ¬ 0 < a) (h : SrcOk a b p) (hm : 0 < m) : ev__law_pick [srcD a b p, .int m] = .ok (.int ((b * 48271 + 11) % p * ((b * 48271 + 11) % p) % 2147483423 / 7 % m)) (srcD a ((b * 48271 + 11) % p) p) := by
  have h1 := Int.emod_nonneg (b * 48271 + 11) (show p ≠ 0 by have := h.p0; omega)
  have h2 := Int.emod_lt_of_pos (b * 48271 + 11) h.p0
  have h3 := h.p1
  have h4 := h.b0
  have h5 := h.b1
  have e1 : mulOk b 48271 = true := mulOk_r (by omega) (by omega)
  have e2 : mulOk ((b * 48271 + 11) % p) ((b * 48271 + 11) % p) = true := mulOk_r (by omega) (by omega)
  have e3 : divOk ((b * 48271 + 11) % p * ((b * 48271 + 11) % p) % 2147483423) 7 = true := divOk_t (by omega) (by omega)
  simp -dsimp [ev__law_pick, fnD, bd__law_pick, atI, ixN, ha, hm, h.p0, srcD, e1, e2, e3]
theorem pick_ok {d : D} {m : Int} (h : Src d) (hm : 0 < m) (hm2 : m < 1000000) : ∃ x d', ev__law_pick [d, .int m] = .ok (.int x) d' ∧ Src d' ∧ 0 ≤ x ∧ x < m := by
  obtain ⟨a, b, p, rfl, ok⟩ := h
  by_cases ha : 0 < a
  · exact ⟨_, _, pick_big a b p m ha hm hm2, ⟨_, _, _, rfl, Int.ediv_nonneg ok.a0 (Int.le_of_lt hm), ok.b0, ok.b1, ok.p0, ok.p1⟩, Int.emod_nonneg _ (by omega), Int.emod_lt_of_pos _ hm⟩
  · refine ⟨_, _, pick_low a b p m ha ok hm, ⟨_, _, _, rfl, ok.a0, Int.emod_nonneg _ (by have := ok.p0; omega), ?_, ok.p0, ok.p1⟩, Int.emod_nonneg _ (by omega), Int.emod_lt_of_pos _ hm⟩
    have h2 := Int.emod_lt_of_pos (b * 48271 + 11) ok.p0
    have h3 := ok.p1
    omega
theorem chosen_ok {d : D} {l : List D} (h : Src d) (hl : l ≠ []) (hl2 : l.length < 1000) : ∃ x d', ev__law_chosen [d, .lst l] = .ok x d' ∧ Src d' ∧ x ∈ l := by
  have hp : 0 < l.length := by
    cases l with
    | nil => exact absurd rfl hl
    | cons _ _ => simp
  obtain ⟨i, d', h1, h2, h3, h4⟩ := pick_ok (m := (l.length : Int)) h (by omega) (by omega)
  obtain ⟨x, h5, h6⟩ := atI_of h3 h4
  refine ⟨x, d', ?_, h2, h6⟩
  obtain ⟨a, b, p, rfl, ok⟩ := h
  simp -dsimp [ev__law_chosen, fnD, bd__law_chosen, h1, h5]
end CM

namespace CM
open PySem PySem.Spec PyProof.Rows L2 DL
theorem srcOk_mk {a b p : Int} (h : 0 ≤ a) (hp : 0 < p) (hp1 : p < 2 ^ 31) (x : Int) (hb : b = x % p) : SrcOk a b p := by
  subst hb
  have h1 := Int.emod_nonneg x (show p ≠ 0 by omega)
  have h2 := Int.emod_lt_of_pos x hp
  exact ⟨h, h1, by omega, hp, hp1⟩
theorem primes_ok {j : Int} (h : 0 ≤ j) (h2 : j < 8) : ∃ p : Int, atI [D.int 2147483647, .int 2147483629, .int 2147483587, .int 2147483579, .int 2147483563, .int 2147483549, .int 2147483543, .int 2147483497] j = some (.int p) ∧ 2147483497 ≤ p ∧ p < 2 ^ 31 := by
  have : j = 0 ∨ j = 1 ∨ j = 2 ∨ j = 3 ∨ j = 4 ∨ j = 5 ∨ j = 6 ∨ j = 7 := by omega
  rcases this with rfl | rfl | rfl | rfl | rfl | rfl | rfl | rfl <;> exact ⟨_, rfl, by decide, by decide⟩
theorem source_ok (ns : List Int) (k : Int) (h0 : 0 ≤ k) (h1 : k < 1000) : ∃ d z, ev__law_source [.scr ns, .int k] = .ok d z ∧ Src d := by
  obtain ⟨p, hp, hp1, hp2⟩ := primes_ok (j := k % 8) (by omega) (by omega)
  have m1 : mulOk 7919 k = true := mulOk_r (by omega) (by omega)
  have m2 : ∀ x : Int, mulOk (x % p) 48271 = true := fun x => mulOk_r (by omega) (by omega)
  have m3 : mulOk 104729 (k + 1) = true := mulOk_r (by omega) (by omega)
  have m4 : powOk 10 18 = true := by decide
  have p0 : 0 < p := by omega
  have fin : ∀ c : Int, (∃ f : Int, True) → (c ≥ 1000000000000000000 → ev__law_source [.scr ns, .int k] = .ok (srcD c ((c % p * 48271 + 104729 * (k + 1)) % p) p) .non) → (¬ c ≥ 1000000000000000000 → ev__law_source [.scr ns, .int k] = .ok (srcD 0 ((c % p * 48271 + 104729 * (k + 1)) % p) p) .non) → ∃ d z, ev__law_source [.scr ns, .int k] = .ok d z ∧ Src d := fun c _ q1 q2 => by
    by_cases hc : c ≥ 1000000000000000000
    · exact ⟨_, _, q1 hc, ⟨_, _, _, rfl, srcOk_mk (by omega) p0 hp2 _ rfl⟩⟩
    · exact ⟨_, _, q2 hc, ⟨_, _, _, rfl, srcOk_mk (by omega) p0 hp2 _ rfl⟩⟩
  by_cases hk : k < ns.length
  · obtain ⟨c, hc, _⟩ := atI_of h0 hk
    refine fin c ⟨0, trivial⟩ (fun hc2 => ?_) (fun hc2 => ?_)
    · simp -dsimp [ev__law_source, fnD, bd__law_source, m1, m2, m3, m4, hk, hc, hp, p0, LIM, srcD, show c ≥ 1000000000000000000 from hc2, show (1000000000000000000 : Int) ≤ c from hc2]
    · simp -dsimp [ev__law_source, fnD, bd__law_source, m1, m2, m3, m4, hk, hc, hp, p0, LIM, srcD, show ¬ (1000000000000000000 : Int) ≤ c from hc2]
  · refine fin (7919 * k + 101) ⟨0, trivial⟩ (fun hc2 => ?_) (fun hc2 => ?_)
    · simp -dsimp [ev__law_source, fnD, bd__law_source, m1, m2, m3, m4, hk, hp, p0, LIM, srcD, show (1000000000000000000 : Int) ≤ 7919 * k + 101 from hc2]
    · simp -dsimp [ev__law_source, fnD, bd__law_source, m1, m2, m3, m4, hk, hp, p0, LIM, srcD, show ¬ (1000000000000000000 : Int) ≤ 7919 * k + 101 from hc2]
end CM

namespace DL
open PySem PySem.Spec PyProof.Rows L2
theorem shL_iff (n : Nat) : ∀ l : List D, shL n l = true ↔ ∀ d ∈ l, sh n d = true
  | [] => by simp [shL]
  | d :: r => by simp [shL, shL_iff n r]
theorem erase_perm {α : Type} : ∀ (l : List α) (j : Nat) (h : j < l.length), (l[j] :: l.eraseIdx j).Perm l
  | [], j, h => absurd h (Nat.not_lt_zero _)
  | a :: r, 0, _ => List.Perm.refl _
  | a :: r, j + 1, h => by
    have hj : j < r.length := by simpa using h
    have ih := erase_perm r j hj
    show (r[j] :: a :: r.eraseIdx j).Perm (a :: r)
    exact (List.Perm.swap _ _ _).trans (ih.cons a)
theorem deqL_nil_r (l : List D) : deqL l [] = decide (l = []) := by cases l <;> simp [deqL]
theorem gNe_lst {l m : List D} (h : shL 7 l = true) (h2 : shL 7 m = true) : gNe (.lst l) (.lst m) = some (.bl (!deqL l m)) := by
  rw [gNe_sh (show sh 8 (.lst l) = true from h) (show sh 8 (.lst m) = true from h2)]
  simp [deq]
end DL
namespace CM
open PySem PySem.Spec PyProof.Rows L2 DL
theorem shuf_loop (l : List D) : ∀ (n : Nat) (d : D) (left found : List D), left.length < n → shL 7 left = true → Src d → found.length + left.length ≤ 1000 →
    ∃ d' found', whL lp__law_shuffled_1_t lp__law_shuffled_1 n [.r d, .p (.lst l), .o (.lst left), .o (.lst found)] = .nx [.r d', .p (.lst l), .o (.lst []), .o (.lst found')] ∧ Src d' ∧ found'.Perm (found ++ left)
  | 0, _, _, _, h, _, _, _ => absurd h (Nat.not_lt_zero _)
  | n + 1, d, left, found, h, hs, hd, hl => by
    have ht : lp__law_shuffled_1_t [.r d, .p (.lst l), .o (.lst left), .o (.lst found)] = .ok (!deqL left []) [.r d, .p (.lst l), .o (.lst left), .o (.lst found)] := by
      simp -dsimp [lp__law_shuffled_1_t, LIM, gNe_lst hs (show shL 7 [] = true from rfl)]
    rw [whL_succ, ht, otK_ok, deqL_nil_r]
    by_cases he : left = []
    · subst he
      exact ⟨d, found, by simp, hd, by simp⟩
    · rw [decide_eq_false he]
      simp only [Bool.not_false, if_true]
      have hp : 0 < left.length := by
        cases left with
        | nil => exact absurd rfl he
        | cons _ _ => simp
      obtain ⟨i, d', h1, h2, h3, h4⟩ := pick_ok (m := (left.length : Int)) hd (by omega) (by omega)
      obtain ⟨j, rfl⟩ := Int.eq_ofNat_of_zero_le h3
      have hj : j < left.length := by omega
      have hb : lp__law_shuffled_1 [.r d, .p (.lst l), .o (.lst left), .o (.lst found)] = .nx [.r d', .p (.lst l), .o (.lst (left.eraseIdx j)), .o (.lst (found ++ [left[j]]))] := by
        simp -dsimp [lp__law_shuffled_1, h1, ixN_nat hj, bg_t (i := (j : Int)) (by omega) (by omega), hj, LIM, show found.length < 100000 by omega]
      rw [hb, stp_nx]
      have he2 := List.length_eraseIdx_of_lt hj
      obtain ⟨d2, f2, q1, q2, q3⟩ := shuf_loop l n d' (left.eraseIdx j) (found ++ [left[j]]) (by omega) ((shL_iff 7 _).mpr fun x hx => (shL_iff 7 _).mp hs x (List.mem_of_mem_eraseIdx hx)) h2 (by rw [List.length_append, List.length_singleton]; omega)
      refine ⟨d2, f2, q1, q2, q3.trans ?_⟩
      rw [List.append_assoc]
      exact (erase_perm left j hj).append_left found
theorem shuffled_ok {d : D} {l : List D} (hd : Src d) (hs : shL 7 l = true) (hl : l.length ≤ 1000) : ∃ l' d', ev__law_shuffled [d, .lst l] = .ok (.lst l') d' ∧ Src d' ∧ l'.Perm l := by
  obtain ⟨d', f', q1, q2, q3⟩ := shuf_loop l LIM d l [] (by unfold LIM; omega) hs hd (by simpa using hl)
  refine ⟨f', d', ?_, q2, by simpa using q3⟩
  have e0 : (0 : Nat) ≤ LIM := Nat.zero_le _
  simp -dsimp [ev__law_shuffled, fnD, bd__law_shuffled, q1]
/-- the cells of the row j -/
def rowL (c : Int) (j : D) : List D := (rng 0 c.toNat).map fun x => .tup [x, j]
def gridL (c r : Int) : List D := (rng 0 r.toNat).flatMap (rowL c)
theorem rng_mem {lo : Int} {n : Nat} {d : D} (h : d ∈ rng lo n) : ∃ i : Nat, i < n ∧ d = .int (lo + i) := by
  obtain ⟨i, h1, rfl⟩ := List.mem_map.mp h
  exact ⟨i, List.mem_range.mp h1, rfl⟩
theorem rng_len (lo : Int) (n : Nat) : (rng lo n).length = n := by unfold rng; rw [List.length_map, List.length_range]
theorem grid_mem {c r : Int} {d : D} (h : d ∈ gridL c r) : ∃ x y : Int, d = .tup [.int x, .int y] ∧ 0 ≤ x ∧ x < c ∧ 0 ≤ y ∧ y < r := by
  obtain ⟨j, h1, h2⟩ := List.mem_flatMap.mp h
  obtain ⟨y, h3, rfl⟩ := rng_mem h1
  obtain ⟨i, h4, rfl⟩ := List.mem_map.mp h2
  obtain ⟨x, h5, rfl⟩ := rng_mem h4
  exact ⟨0 + x, 0 + y, rfl, by omega, by omega, by omega, by omega⟩
theorem grid_sh {c r : Int} {l : List D} (h : l.Perm (gridL c r)) : shL 7 l = true := (shL_iff 7 _).mpr fun d hd => by
  obtain ⟨x, y, rfl, _⟩ := grid_mem (h.mem_iff.mp hd)
  rfl
theorem flatMap_len (c : Int) : ∀ l : List D, (l.flatMap (rowL c)).length = l.length * c.toNat
  | [] => by simp
  | j :: r => by
    rw [List.flatMap_cons, List.length_append, flatMap_len c r, List.length_cons]
    unfold rowL
    rw [List.length_map, rng_len, Nat.succ_mul, Nat.add_comm]
theorem grid_len (c r : Int) : (gridL c r).length = r.toNat * c.toNat := by
  unfold gridL
  rw [flatMap_len, rng_len]
theorem order_loop (way c r : Int) (hc : 0 < c ∧ c < 20) (hr : 0 < r ∧ r < 20) (d : D) : ∃ env' , forL (gN 5) lp__law_order_1 (rng 0 r.toNat) [.r d, .p (.int c), .p (.int r), .p (.int way), .p (.lst []), .u, .u, .u] = .nx env' ∧
    ∃ f, env' = [.r d, .p (.int c), .p (.int r), .p (.int way), .p (.lst f), .u, .u, .u] ∧ f.Perm (gridL c r) := by
  have z := forL_inv (g := gN 5) (b := lp__law_order_1) (fun items env => ∃ f X, env = [.r d, .p (.int c), .p (.int r), .p (.int way), .p (.lst f), .u, .u, .u] ∧ f.Perm X ∧ X ++ items.flatMap (rowL c) = gridL c r ∧ ∀ x ∈ items, ∃ y : Int, x = .int y) (rng 0 r.toNat) [.r d, .p (.int c), .p (.int r), .p (.int way), .p (.lst []), .u, .u, .u]
    ⟨[], [], rfl, List.Perm.refl _, rfl, fun x hx => by obtain ⟨i, _, rfl⟩ := rng_mem hx; exact ⟨_, rfl⟩⟩ ?_
  · obtain ⟨env', h1, f, X, h2, h3, h4, _⟩ := z
    refine ⟨env', h1, f, h2, ?_⟩
    rw [List.flatMap_nil, List.append_nil] at h4
    rw [← h4]
    exact h3
  · rintro x items env ⟨f, X, rfl, h3, h4, h5⟩
    obtain ⟨y, rfl⟩ := h5 _ (List.mem_cons_self ..)
    have hlen : f.length + c.toNat ≤ 100000 := by
      have e1 := congrArg List.length h4
      rw [List.length_append, List.flatMap_cons, List.length_append, grid_len, ← h3.length_eq] at e1
      have e2 : (rowL c (.int y)).length = c.toNat := by unfold rowL; rw [List.length_map, rng_len]
      have e3 : r.toNat * c.toNat ≤ 20 * 20 := Nat.mul_le_mul (by omega) (by omega)
      omega
    have hcomp := compL_map (g := gN 7) (t := tYs) (f := eTup (aCons (eVar 7) (aCons (eVar 5) aNil))) (vs := [7]) [.r d, .p (.int c), .p (.int r), .p (.int way), .p (.lst f), .p (.int y), .u, .u] (fun x => .tup [x, .int y]) (rng 0 c.toNat) []
      (fun x hx => ⟨_, rfl, rfl, by simp -dsimp [LIM], by simp⟩) (by rw [rng_len]; unfold LIM; simp; omega)
    rw [List.nil_append] at hcomp
    have hb := bg_t (i := c) (by omega) (by omega)
    have hrow : (List.map (fun x => D.tup [x, .int y]) (rng 0 c.toNat)) = rowL c (.int y) := rfl
    have hl2 : (rowL c (.int y)).length = c.toNat := by unfold rowL; rw [List.length_map, rng_len]
    have step : ∃ L, L.Perm (rowL c (.int y)) ∧ lp__law_order_1 [.r d, .p (.int c), .p (.int r), .p (.int way), .p (.lst f), .p (.int y), .u, .u] = .nx [.r d, .p (.int c), .p (.int r), .p (.int way), .p (.lst (f ++ L)), .u, .u, .u] := by
      by_cases h1 : way = 1 ∨ way = 2
      · by_cases h2 : y % 2 = 1
        · refine ⟨(rowL c (.int y)).reverse, List.reverse_perm _, ?_⟩
          have hin : inD (.int way) [.int 1, .int 2] = true := by rcases h1 with rfl | rfl <;> rfl
          simp -dsimp [lp__law_order_1, hb, hcomp, hrow, gIn, gInB, flD, hin, h2, LIM, hl2, hlen]
        · refine ⟨rowL c (.int y), List.Perm.refl _, ?_⟩
          have hin : inD (.int way) [.int 1, .int 2] = true := by rcases h1 with rfl | rfl <;> rfl
          simp -dsimp [lp__law_order_1, hb, hcomp, hrow, gIn, gInB, flD, hin, h2, LIM, hl2, hlen]
      · refine ⟨rowL c (.int y), List.Perm.refl _, ?_⟩
        have hin : inD (.int way) [.int 1, .int 2] = false := by
          have n1 : way ≠ 1 := fun e => h1 (.inl e)
          have n2 : way ≠ 2 := fun e => h1 (.inr e)
          simp [inD, deq, Ne.symm n1, Ne.symm n2]
        simp -dsimp [lp__law_order_1, hb, hcomp, hrow, gIn, gInB, flD, hin, LIM, hl2, hlen]
    obtain ⟨L, p1, p2⟩ := step
    refine ⟨_, _, rfl, .inl p2, f ++ L, X ++ rowL c (.int y), rfl, h3.append p1, ?_, fun x hx => h5 x (List.mem_cons_of_mem _ hx)⟩
    rw [List.append_assoc, ← List.flatMap_cons]
    exact h4
theorem order_ok {d : D} {c r : Int} (hd : Src d) (hc : 0 < c ∧ c < 20) (hr : 0 < r ∧ r < 20) : ∃ l d', ev__law_order [d, .int c, .int r] = .ok (.lst l) d' ∧ Src d' ∧ l.Perm (gridL c r) := by
  obtain ⟨way, d', h1, h2, h3, h4⟩ := pick_ok (m := 4) hd (by omega) (by omega)
  obtain ⟨env', q1, f, rfl, q2⟩ := order_loop way c r hc hr d'
  have hb := bg_t (i := r) (by omega) (by omega)
  by_cases hw : way = 3
  · subst hw
    have hl : f.length ≤ 1000 := by
      rw [q2.length_eq, grid_len]
      exact Nat.le_trans (Nat.mul_le_mul (show r.toNat ≤ 20 by omega) (show c.toNat ≤ 20 by omega)) (by omega)
    obtain ⟨l', d2, s1, s2, s3⟩ := shuffled_ok h2 (grid_sh q2) hl
    refine ⟨l', d2, ?_, s2, s3.trans q2⟩
    simp -dsimp [ev__law_order, fnD, bd__law_order, h1, hb, q1, s1, LIM]
  · refine ⟨f, d', ?_, h2, q2⟩
    simp -dsimp [ev__law_order, fnD, bd__law_order, h1, hb, q1, hw, LIM]
end CM

namespace CM
open PySem PySem.Spec PyProof.Rows L2 DL
/-! ### cells, patterns, manners -/
abbrev Pos2 := Int × Int
abbrev Cell := Pos2 × Int
def posD (p : Pos2) : D := .tup [.int p.1, .int p.2]
def cl (q : Cell) : D := .tup [.int q.1.1, .int q.1.2, .int q.2]
def patD (p : List Cell) : D := .tup (p.map cl)
structure Man where
  c : Int
  r : Int
  pats : List (List Cell)
def manD (m : Man) : D := .tup [.int m.c, .int m.r, .tup (m.pats.map patD)]
structure PatOk (c r : Int) (n : Nat) (p : List Cell) : Prop where
  len : (p.length : Int) = c * r
  pos : ∀ q ∈ p, 0 ≤ q.1.1 ∧ q.1.1 < c ∧ 0 ≤ q.1.2 ∧ q.1.2 < r
  nxt : ∀ q ∈ p, 0 ≤ q.2 ∧ q.2 < n
  nd : (p.map (·.1)).Nodup
structure ManOk (m : Man) : Prop where
  c : 1 ≤ m.c ∧ m.c ≤ 3
  r : 1 ≤ m.r ∧ m.r ≤ 3
  cr : m.c * m.r ≠ 1
  n0 : 0 < m.pats.length
  n6 : m.pats.length ≤ 6
  ok : ∀ p ∈ m.pats, PatOk m.c m.r m.pats.length p
theorem mul_small {a b : Int} (h : 1 ≤ a ∧ a ≤ 3) (h2 : 1 ≤ b ∧ b ≤ 3) : 1 ≤ a * b ∧ a * b ≤ 9 := by
  have h3 : a = 1 ∨ a = 2 ∨ a = 3 := by omega
  rcases h3 with rfl | rfl | rfl <;> omega
def trueF (_ : D) : D := .bl true
def cut2 : D → D
  | .tup l => .tup (cutL l none (some 2))
  | d => d
theorem cut2_cl (q : Cell) : cut2 (cl q) = posD q.1 := by
  show D.tup (cutL [D.int q.1.1, .int q.1.2, .int q.2] none (some 2)) = _
  rfl
theorem blL_true (l : List D) : blL (l.map trueF) = some (l.map fun _ => true) := by
  induction l with
  | nil => rfl
  | cons d r ih => show (blL (r.map trueF)).map (true :: ·) = _; rw [ih]; rfl
theorem all_true (l : List D) : (l.map fun _ => true).all id = true := by
  induction l with
  | nil => rfl
  | cons d r ih => simp
theorem tupI_pos : ∀ l : List Pos2, tupI (l.map posD) = some (l.map fun p => [p.1, p.2])
  | [] => rfl
  | p :: r => by
    have ih := tupI_pos r
    show tupI (D.tup [.int p.1, .int p.2] :: r.map posD) = _
    simp [tupI, ih, inL]
theorem nodup_map_inj {α β : Type} {f : α → β} (hf : ∀ x y, f x = f y → x = y) : ∀ {l : List α}, l.Nodup → (l.map f).Nodup
  | [], _ => List.nodup_nil
  | a :: r, h => by
    obtain ⟨h1, h2⟩ := List.nodup_cons.mp h
    rw [List.map_cons, List.nodup_cons]
    refine ⟨fun hm => ?_, nodup_map_inj hf h2⟩
    obtain ⟨b, hb, e⟩ := List.mem_map.mp hm
    exact h1 (hf _ _ e ▸ hb)
theorem is_pattern_ok {c r : Int} {n : Nat} {p : List Cell} (hc : 1 ≤ c ∧ c ≤ 3) (hr : 1 ≤ r ∧ r ≤ 3) (h : PatOk c r n p) : ev_is_pattern [patD p, .int c, .int r, .int n] = .ok (.bl true) .non := by
  have hm := mul_small hc hr
  have hlen : p.length ≤ 9 := by have := h.len; omega
  have e1 : mulOk c r = true := mulOk_r (by omega) (by omega)
  have k1 := compL_map (g := gN 4) (t := tYs) (f := eCall none ev_is_cell (aCons (eVar 4) (aCons (eVar 1) (aCons (eVar 2) (aCons (eVar 3) aNil))))) (vs := [4]) [.p (patD p), .p (.int c), .p (.int r), .p (.int n), .u] trueF (p.map cl) []
    (fun d hd => by
      obtain ⟨q, hq, rfl⟩ := List.mem_map.mp hd
      obtain ⟨a1, a2, a3, a4⟩ := h.pos q hq
      obtain ⟨a5, a6⟩ := h.nxt q hq
      have z := is_cell_ok q.1.1 q.1.2 q.2 c r n ⟨a5, a6⟩ ⟨a1, a2⟩ ⟨a3, a4⟩
      exact ⟨_, rfl, rfl, by simp -dsimp [cl, z, trueF], by simp⟩) (by simp [LIM]; omega)
  have k2 := compL_map (g := gN 4) (t := tYs) (f := eSl (eVar 4) oNo (oPt (eC (.int 2)))) (vs := [4]) [.p (patD p), .p (.int c), .p (.int r), .p (.int n), .u] cut2 (p.map cl) []
    (fun d hd => by
      obtain ⟨q, hq, rfl⟩ := List.mem_map.mp hd
      exact ⟨_, rfl, rfl, by simp -dsimp [cl, cut2], by simp⟩) (by simp [LIM]; omega)
  rw [List.nil_append] at k1 k2
  have e2 : (p.map cl).map cut2 = (p.map (·.1)).map posD := by
    rw [List.map_map, List.map_map]
    exact List.map_congr_left fun q _ => cut2_cl q
  rw [e2] at k2
  have e3 : dis ((p.map (·.1)).map fun x => [x.1, x.2]) = (p.map (·.1)).map fun x => [x.1, x.2] := dis_nodup (nodup_map_inj (fun x y e => by
    obtain ⟨x1, x2⟩ := x
    obtain ⟨y1, y2⟩ := y
    simp only [List.cons.injEq, and_true] at e
    rw [e.1, e.2]) h.nd)
  have e4 : gLenSet (.lst ((p.map (·.1)).map posD)) = some (.int (p.length : Nat)) := by
    unfold gLenSet
    simp only [tupI_pos]
    rw [e3]
    simp
    omega
  have e5 : ¬ ((p.length : Int) ≠ c * r) := fun z => z h.len
  have e6 := h.len
  unfold patD at k1 k2 ⊢
  simp -dsimp [ev_is_pattern, fnD, bd_is_pattern, e1, k1, k2, blL_true, all_true, e4, e6, -List.map_map, -gLenSet]
theorem a_manner_ok {m : Man} (h : ManOk m) : ev_a_manner [manD m] = .ok (.bl true) .non := by
  obtain ⟨c, r, pats⟩ := m
  have hc : 1 ≤ c ∧ c ≤ 3 := h.c
  have hr : 1 ≤ r ∧ r ≤ 3 := h.r
  have hm := mul_small hc hr
  have e1 : mulOk c r = true := mulOk_r (by omega) (by omega)
  have hn : pats.length ≤ 6 := h.n6
  have hn0 : 0 < pats.length := h.n0
  have hcr : ¬ c * r = 1 := h.cr
  have k1 := compL_map (g := gN 4) (t := tYs) (f := eCall none ev_is_pattern (aCons (eVar 4) (aCons (eVar 1) (aCons (eVar 2) (aCons (eCB gLen (aCons (eVar 3) aNil)) aNil))))) (vs := [4]) [.p (manD ⟨c, r, pats⟩), .p (.int c), .p (.int r), .p (.tup (pats.map patD)), .u] trueF (pats.map patD) []
    (fun d hd => by
      obtain ⟨q, hq, rfl⟩ := List.mem_map.mp hd
      have z := is_pattern_ok hc hr (h.ok q hq)
      exact ⟨_, rfl, rfl, by simp -dsimp [z, trueF], by simp⟩) (by simp [LIM]; omega)
  rw [List.nil_append] at k1
  unfold manD at k1 ⊢
  dsimp only at k1 ⊢
  simp -dsimp [ev_a_manner, fnD, bd_a_manner, e1, atI, ixN, is_between_int, hc, hr, hcr, k1, blL_true, all_true, hn, show (1 : Int) ≤ (pats.length : Int) by omega, show (pats.length : Int) ≤ 6 by omega, -List.map_map, show 0 < pats.length from hn0]
theorem need_manner_ok {m : Man} (h : ManOk m) : ev_need_manner [manD m] = .ok .non .non := by
  simp -dsimp [ev_need_manner, fnD, bd_need_manner, a_manner_ok h]
end CM

namespace CM
open PySem PySem.Spec PyProof.Rows L2 DL
theorem small_log {i : Int} (h0 : 0 ≤ i) (h1 : i < 10) : i.natAbs.log2 < 1920 := by
  have : i = 0 ∨ i = 1 ∨ i = 2 ∨ i = 3 ∨ i = 4 ∨ i = 5 ∨ i = 6 ∨ i = 7 ∨ i = 8 ∨ i = 9 := by omega
  rcases this with rfl | rfl | rfl | rfl | rfl | rfl | rfl | rfl | rfl | rfl <;> decide +kernel
theorem digit_str {i : Int} (h0 : 0 ≤ i) (h1 : i < 10) : (strOfInt i).length = 1 ∧ PyData.strOk (strOfInt i) = true := by
  have : i = 0 ∨ i = 1 ∨ i = 2 ∨ i = 3 ∨ i = 4 ∨ i = 5 ∨ i = 6 ∨ i = 7 ∨ i = 8 ∨ i = 9 := by omega
  rcases this with rfl | rfl | rfl | rfl | rfl | rfl | rfl | rfl | rfl | rfl <;> decide +kernel
theorem str_app_len (a b : Str) : (a ++ b).length = a.length + b.length := by
  show (a.cps ++ b.cps).size = a.cps.size + b.cps.size
  exact Array.size_append ..
theorem str_app_ok {a b : Str} (h : PyData.strOk a = true) (h2 : PyData.strOk b = true) : PyData.strOk (a ++ b) = true := by
  unfold PyData.strOk at *
  show (a.cps ++ b.cps).all _ = true
  rw [Array.all_append, h, h2]
  rfl
theorem str_assoc (a b c : Str) : a ++ b ++ c = a ++ (b ++ c) := by
  show (⟨a.cps ++ b.cps ++ c.cps⟩ : Str) = ⟨a.cps ++ (b.cps ++ c.cps)⟩
  rw [Array.append_assoc]
theorem deq_pos (p q : Pos2) : deq (posD p) (posD q) = decide (p = q) := by
  obtain ⟨a, b⟩ := p
  obtain ⟨c, d⟩ := q
  simp [posD, deq, deqL, Prod.ext_iff]
  by_cases h : a = c <;> by_cases h2 : b = d <;> simp [h, h2]
theorem gNe_pos (p q : Pos2) : gNe (posD p) (posD q) = some (.bl (!decide (p = q))) := by
  rw [gNe_sh rfl rfl, deq_pos]
theorem gEq_pos (p q : Pos2) : gEq (posD p) (posD q) = some (.bl (decide (p = q))) := by
  rw [gEq_sh rfl rfl, deq_pos]
theorem sh_poss (S : List Pos2) : shL 7 (S.map posD) = true := (shL_iff 7 _).mpr fun d hd => by
  obtain ⟨p, _, rfl⟩ := List.mem_map.mp hd
  rfl
theorem inD_pos (w : Pos2) : ∀ S : List Pos2, inD (posD w) (S.map posD) = decide (w ∈ S)
  | [] => rfl
  | p :: r => by
    have ih := inD_pos w r
    unfold inD at ih ⊢
    rw [List.map_cons, List.any_cons, ih, deq_pos]
    by_cases h : p = w
    · simp [h]
    · simp [h, Ne.symm h]
theorem gNin_pos (w : Pos2) (S : List Pos2) : gNin (posD w) (.lst (S.map posD)) = some (.bl (!decide (w ∈ S))) := by
  have e : gInB (posD w) (.lst (S.map posD)) = some (decide (w ∈ S)) := by
    simp only [gInB]
    rw [if_neg (show ¬ (flD (posD w) = true ∧ (S.map posD).all flD = true) from fun z => by cases z.1), if_pos ⟨rfl, sh_poss S⟩, inD_pos]
  unfold gNin
  rw [e]
  rfl
theorem cutL3 (a b c : D) : cutL [a, b, c] none (some 2) = [a, b] := rfl

/-! ### one row -/
def lvD (e : Str × Int × Int) : D := .tup [.str e.1, .int e.2.1, .int e.2.2]
def rowP (code : Str) : Nat → List (Cell × Cell) → List Pos2 → List (Str × Int × Int) → Str ⊕ (List Pos2 × List (Str × Int × Int))
  | _, [], S, L => .inr (S, L)
  | i, (q, t) :: r, S, L => if q.1 ≠ t.1 then .inl (code ++ strOfInt (i : Nat)) else if (q.2, t.2) ∈ S then rowP code (i + 1) r S L else rowP code (i + 1) r (S ++ [(q.2, t.2)]) (L ++ [(code ++ strOfInt (i : Nat), q.2, t.2)])
def RE (one other : D) (S : List Pos2) (lev : D) (L : List (Str × Int × Int)) (code : Str) (u v : Int) (a b c : Sl) : Ev := [.p one, .p other, .p (.lst (S.map posD)), .p lev, .p (.lst (L.map lvD)), .p (.str code), .p (.int u), .p (.int v), a, b, c]
theorem row_step {one lev : D} {N : Man} {S : List Pos2} {L : List (Str × Int × Int)} {code : Str} {u v : Int} {B : List Cell} {i : Nat} {q t : Cell} (hv : atI (N.pats.map patD) v = some (patD B)) (hi : B[i]? = some t) (h9 : i < 9)
    (hS : S.length < 1000) (hL : L.length < 1000) (hC : code.length < 1000) :
    lp_parting_1 (RE one (manD N) S lev L code u v (.p (.int (i : Nat))) (.p (cl q)) .u) =
      if q.1 ≠ t.1 then .rt (.str (code ++ strOfInt (i : Nat))) (RE one (manD N) S lev L code u v (.p (.int (i : Nat))) (.p (cl q)) (.p (cl t)))
      else if (q.2, t.2) ∈ S then .nx (RE one (manD N) S lev L code u v .u .u .u) else .nx (RE one (manD N) (S ++ [(q.2, t.2)]) lev (L ++ [(code ++ strOfInt (i : Nat), q.2, t.2)]) code u v .u .u .u) := by
  have hi2 : atI (B.map cl) (i : Int) = some (cl t) := atI_map cl (by
    have hl : i < B.length := (List.getElem?_eq_some_iff.mp hi).1
    rw [atI_nat' hl]
    rw [List.getElem?_eq_getElem hl] at hi
    exact hi)
  have ha : atI [D.int N.c, .int N.r, .tup (N.pats.map patD)] 2 = some (.tup (N.pats.map patD)) := rfl
  have hb : ∀ x y z : D, atI [x, y, z] 2 = some z := fun x y z => rfl
  have hlog : i.log2 < 1920 := small_log (i := ((i : Nat) : Int)) (by omega) (by omega)
  obtain ⟨hd, _⟩ := digit_str (i := ((i : Nat) : Int)) (by omega) (by omega)
  have n1 : gNe (.tup [.int q.1.1, .int q.1.2]) (.tup [.int t.1.1, .int t.1.2]) = some (.bl (!decide (q.1 = t.1))) := gNe_pos q.1 t.1
  have n2 : gNin (.tup [.int q.2, .int t.2]) (.lst (S.map posD)) = some (.bl (!decide ((q.2, t.2) ∈ S))) := gNin_pos (q.2, t.2) S
  replace hv : atI (N.pats.map patD) v = some (.tup (B.map cl)) := hv
  by_cases h1 : q.1 = t.1
  · rw [if_neg (fun z => z h1)]
    rw [h1] at n1
    by_cases h2 : (q.2, t.2) ∈ S
    · rw [if_pos h2]
      simp -dsimp [lp_parting_1, RE, manD, cl, ha, hv, hi2, cutL3, n1, n2, h1, h2, hb, LIM, hlog, -List.map_map]
    · rw [if_neg h2]
      simp -dsimp [lp_parting_1, RE, manD, cl, ha, hv, hi2, cutL3, n1, n2, h1, h2, hb, LIM, hlog, hd, posD, lvD, show S.length + 1 ≤ 100000 by omega, show L.length + 1 ≤ 100000 by omega, show code.length + 1 ≤ 100000 by omega, -List.map_map]
  · rw [if_pos h1]
    simp -dsimp [lp_parting_1, RE, manD, cl, ha, hv, hi2, cutL3, n1, n2, h1, hb, LIM, hlog, hd, show code.length + 1 ≤ 100000 by omega, -List.map_map]
/-- a walk along one row -/
theorem row_all {one lev : D} {N : Man} {code : Str} {u v : Int} {B : List Cell} (hv : atI (N.pats.map patD) v = some (patD B)) (hC : code.length < 1000) : ∀ (as : List Cell) (i : Nat) (bs : List Cell) (S : List Pos2) (L : List (Str × Int × Int)),
    B.drop i = bs → as.length = bs.length → i + as.length ≤ 9 → S.length + as.length < 1000 → L.length + as.length < 1000 →
    (∃ e, ∃ s, rowP code i (as.zip bs) S L = .inl s ∧ forL (gT 2 (gsCons (gN 8) (gsCons (gN 9) gsNil))) lp_parting_1 (enumL i (as.map cl)) (RE one (manD N) S lev L code u v .u .u .u) = .rt (.str s) e) ∨
    (∃ S' L', rowP code i (as.zip bs) S L = .inr (S', L') ∧ forL (gT 2 (gsCons (gN 8) (gsCons (gN 9) gsNil))) lp_parting_1 (enumL i (as.map cl)) (RE one (manD N) S lev L code u v .u .u .u) = .nx (RE one (manD N) S' lev L' code u v .u .u .u) ∧ S'.length ≤ S.length + as.length ∧ L'.length ≤ L.length + as.length)
  | [], i, bs, S, L, _, _, _, _, _ => .inr ⟨S, L, by simp [rowP], by simp [enumL, forL_nil], by simp, by simp⟩
  | q :: as, i, [], S, L, _, h, _, _, _ => by simp at h
  | q :: as, i, t :: bs, S, L, hb, h, h9, hS, hL => by
    have hi : B[i]? = some t := by
      have := congrArg (fun l => l[0]?) hb
      simpa using this
    have hb2 : B.drop (i + 1) = bs := by
      have e : B.drop (i + 1) = (B.drop i).drop 1 := by rw [List.drop_drop]
      rw [e, hb]; rfl
    simp only [List.length_cons] at h h9 hS hL
    have st := row_step (one := one) (lev := lev) (u := u) (q := q) (S := S) (L := L) (code := code) hv hi (by omega) (by omega) (by omega) hC
    have hg : gT 2 (gsCons (gN 8) (gsCons (gN 9) gsNil)) (.tup [.int (i : Nat), cl q]) (RE one (manD N) S lev L code u v .u .u .u) = some (RE one (manD N) S lev L code u v (.p (.int (i : Nat))) (.p (cl q)) .u) := by
      simp -dsimp [RE]
    simp only [List.map_cons, enumL, List.zip_cons_cons, forL_cons, hg, ogo_some, st, rowP]
    by_cases h1 : q.1 = t.1
    · simp only [h1, ne_eq, not_true_eq_false, if_false]
      by_cases h2 : (q.2, t.2) ∈ S
      · simp only [h2, if_true, stp_nx]
        rcases row_all hv hC as (i + 1) bs S L hb2 (by omega) (by omega) (by omega) (by omega) with ⟨e, s, q1, q2⟩ | ⟨S', L', q1, q2, q3, q4⟩
        · exact .inl ⟨e, s, q1, q2⟩
        · exact .inr ⟨S', L', q1, q2, by simp only [List.length_cons]; omega, by simp only [List.length_cons]; omega⟩
      · simp only [h2, if_false, stp_nx]
        rcases row_all hv hC as (i + 1) bs (S ++ [(q.2, t.2)]) (L ++ [(code ++ strOfInt (i : Nat), q.2, t.2)]) hb2 (by omega) (by omega) (by simp; omega) (by simp; omega) with ⟨e, s, q1, q2⟩ | ⟨S', L', q1, q2, q3, q4⟩
        · exact .inl ⟨e, s, q1, q2⟩
        · simp only [List.length_append, List.length_singleton] at q3 q4
          exact .inr ⟨S', L', q1, q2, by simp only [List.length_cons]; omega, by simp only [List.length_cons]; omega⟩
    · simp only [h1, ne_eq, not_false_eq_true, if_true, stp_rt]
      exact .inl ⟨_, _, rfl, rfl⟩
end CM

namespace CM
open PySem PySem.Spec PyProof.Rows L2 DL
/-- the pattern at place u -/
def patAt (m : Man) (u : Int) (p : List Cell) : Prop := atI m.pats u = some p
/-- one place of a level: the two rows -/
theorem pair_step {M N : Man} {code : Str} {u v : Int} {A B : List Cell} {lev : D} {S : List Pos2} {L : List (Str × Int × Int)} (hu : atI M.pats u = some A) (hv : atI N.pats v = some B) (hl : A.length = B.length) (h9 : A.length ≤ 9) (hC : code.length < 1000) (hS : S.length < 900) (hL : L.length < 900) :
    (∃ e, ∃ s, rowP code 0 (A.zip B) S L = .inl s ∧ lp_parting_2 (RE (manD M) (manD N) S lev L code u v .u .u .u) = .rt (.str s) e) ∨
    (∃ S' L', rowP code 0 (A.zip B) S L = .inr (S', L') ∧ lp_parting_2 (RE (manD M) (manD N) S lev L code u v .u .u .u) = .nx [.p (manD M), .p (manD N), .p (.lst (S'.map posD)), .p lev, .p (.lst (L'.map lvD)), .u, .u, .u, .u, .u, .u] ∧ S'.length ≤ S.length + 9 ∧ L'.length ≤ L.length + 9) := by
  have hu' : atI (M.pats.map patD) u = some (.tup (A.map cl)) := atI_map patD hu
  have hv' : atI (N.pats.map patD) v = some (patD B) := atI_map patD hv
  have ha : atI [D.int M.c, D.int M.r, .tup (M.pats.map patD)] 2 = some (.tup (M.pats.map patD)) := rfl
  have key := row_all (one := manD M) (lev := lev) (u := u) (N := N) (code := code) hv' hC A 0 B S L (by simp) hl (by omega) (by omega) (by omega)
  have hw : lp_parting_2 (RE (manD M) (manD N) S lev L code u v .u .u .u) = (forL (gT 2 (gsCons (gN 8) (gsCons (gN 9) gsNil))) lp_parting_1 (enumL 0 (A.map cl)) (RE (manD M) (manD N) S lev L code u v .u .u .u)).aft (fgt [5, 6, 7, 8, 9, 10]) := by
    simp -dsimp only [lp_parting_2, sAf_ap, sFor_ap, iEn_ap, aCons_ap, eOp_ap, eVar_ap, eC_ap, aNil_ap, RE, manD, ha, hu', bdK_ok, Rx.out_ok, op2, rs, gIx, allV, itD, List.getElem?_cons_succ, List.getElem?_cons_zero]
  rw [hw]
  rcases key with ⟨e, s, q1, q2⟩ | ⟨S', L', q1, q2, q3, q4⟩
  · exact .inl ⟨_, s, q1, by rw [q2]; rfl⟩
  · refine .inr ⟨S', L', q1, by rw [q2]; rfl, by omega, by omega⟩
/-! ### partings -/
def known (S : List Pos2) (X : List (Cell × Cell)) : Prop := ∀ w ∈ X, w.1.1 = w.2.1 ∧ (w.1.2, w.2.2) ∈ S
theorem rowP_known (code : Str) : ∀ (X Y : List (Cell × Cell)) (i : Nat) (S : List Pos2) (L : List (Str × Int × Int)), known S X → rowP code i (X ++ Y) S L = rowP code (i + X.length) Y S L
  | [], Y, i, S, L, _ => by simp
  | (q, t) :: X, Y, i, S, L, h => by
    obtain ⟨h1, h2⟩ := h (q, t) (List.mem_cons_self ..)
    have h1 : q.1 = t.1 := h1
    have h2 : (q.2, t.2) ∈ S := h2
    rw [List.cons_append]
    simp only [rowP, h1, ne_eq, not_true_eq_false, if_false, h2, if_true]
    rw [rowP_known code X Y (i + 1) S L fun w hw => h w (List.mem_cons_of_mem _ hw), List.length_cons]
    congr 1
    omega
theorem rowP_stop {code : Str} {X : List (Cell × Cell)} {S : List Pos2} {L : List (Str × Int × Int)} (h : known S X) : rowP code 0 X S L = .inr (S, L) := by
  have := rowP_known code X [] 0 S L h
  rw [List.append_nil] at this
  rw [this]
  rfl
theorem rowP_diff {code : Str} {X Y : List (Cell × Cell)} {q t : Cell} {S : List Pos2} {L : List (Str × Int × Int)} (h : known S X) (hne : q.1 ≠ t.1) : rowP code 0 (X ++ (q, t) :: Y) S L = .inl (code ++ strOfInt (X.length : Nat)) := by
  rw [rowP_known code X _ 0 S L h]
  simp [rowP, hne]
theorem rowP_new {code : Str} {X Y : List (Cell × Cell)} {q t : Cell} {S : List Pos2} {L : List (Str × Int × Int)} (h : known S X) (he : q.1 = t.1) (hn : (q.2, t.2) ∉ S) (hY : known (S ++ [(q.2, t.2)]) Y) :
    rowP code 0 (X ++ (q, t) :: Y) S L = .inr (S ++ [(q.2, t.2)], L ++ [(code ++ strOfInt (X.length : Nat), q.2, t.2)]) := by
  rw [rowP_known code X _ 0 S L h]
  simp only [rowP, he, ne_eq, not_true_eq_false, if_false, hn, Nat.zero_add]
  have := rowP_known code Y [] (X.length + 1) (S ++ [(q.2, t.2)]) (L ++ [(code ++ strOfInt (X.length : Nat), q.2, t.2)]) hY
  rw [List.append_nil] at this
  rw [this]
  rfl
/-- a run along one chain of pairs; k: steps -/
inductive Run (M N : Man) : Nat → Str → List Pos2 → Int → Int → Option Str → Prop
  | diff {code S u v A B X Y q t} : atI M.pats u = some A → atI N.pats v = some B → A.length = B.length → A.length ≤ 9 → A.zip B = X ++ (q, t) :: Y → known S X → q.1 ≠ t.1 → Run M N 0 code S u v (some (code ++ strOfInt (X.length : Nat)))
  | stop {code S u v A B} : atI M.pats u = some A → atI N.pats v = some B → A.length = B.length → A.length ≤ 9 → known S (A.zip B) → Run M N 0 code S u v none
  | step {k code S u v A B X Y q t res} : atI M.pats u = some A → atI N.pats v = some B → A.length = B.length → A.length ≤ 9 → A.zip B = X ++ (q, t) :: Y → known S X → q.1 = t.1 → (q.2, t.2) ∉ S → known (S ++ [(q.2, t.2)]) Y →
      Run M N k (code ++ strOfInt (X.length : Nat)) (S ++ [(q.2, t.2)]) q.2 t.2 res → Run M N (k + 1) code S u v res
def WE2 (M N : Man) (S : List Pos2) (lev : List (Str × Int × Int)) : Ev := [.p (manD M), .p (manD N), .p (.lst (S.map posD)), .p (.lst (lev.map lvD)), .u, .u, .u, .u, .u, .u, .u]
theorem lev_test {M N : Man} {S : List Pos2} {code : Str} {u v : Int} (hc : PyData.strOk code = true) : lp_parting_3_t (WE2 M N S [(code, u, v)]) = .ok true (WE2 M N S [(code, u, v)]) := by
  have e : gNe (.lst [lvD (code, u, v)]) (.lst []) = some (.bl true) := by
    rw [gNe_lst (show shL 7 [lvD (code, u, v)] = true by simp [shL, sh, lvD, hc]) rfl]
    rfl
  simp -dsimp [lp_parting_3_t, WE2, e, LIM]
theorem lev_stop {M N : Man} {S : List Pos2} : lp_parting_3_t (WE2 M N S []) = .ok false (WE2 M N S []) := by
  have e : gNe (.lst []) (.lst []) = some (.bl false) := by
    rw [gNe_lst rfl rfl]
    rfl
  simp -dsimp [lp_parting_3_t, WE2, e, LIM]
theorem lev_body {M N : Man} {code : Str} {u v : Int} {A B : List Cell} {S : List Pos2} (hu : atI M.pats u = some A) (hv : atI N.pats v = some B) (hl : A.length = B.length) (h9 : A.length ≤ 9) (hC : code.length < 1000) (hS : S.length < 900) :
    (∀ s, rowP code 0 (A.zip B) S [] = .inl s → ∃ e, lp_parting_3 (WE2 M N S [(code, u, v)]) = .rt (.str s) e) ∧
    (∀ S' L', rowP code 0 (A.zip B) S [] = .inr (S', L') → lp_parting_3 (WE2 M N S [(code, u, v)]) = .nx (WE2 M N S' L') ∧ S'.length ≤ S.length + 9) := by
  have key := pair_step (lev := .lst [lvD (code, u, v)]) (S := S) (L := []) hu hv hl h9 hC hS (by simp)
  have hw : lp_parting_3 (WE2 M N S [(code, u, v)]) = ((((lp_parting_2 (RE (manD M) (manD N) S (.lst [lvD (code, u, v)]) [] code u v .u .u .u)).stp (forL (gT 3 (gsCons (gN 5) (gsCons (gN 6) (gsCons (gN 7) gsNil)))) lp_parting_2 [])).thn (sSet 3 (eVar 4))).aft (fgt [4, 5, 6, 7, 8, 9, 10])) := by
    simp -dsimp [lp_parting_3, WE2, RE, forL_cons, lvD, LIM]
  rw [hw]
  rcases key with ⟨e, s, q1, q2⟩ | ⟨S', L', q1, q2, q3, q4⟩
  · refine ⟨fun s' h => ?_, fun S' L' h => ?_⟩
    · rw [q1] at h
      cases h
      exact ⟨_, by rw [q2]; rfl⟩
    · rw [q1] at h; cases h
  · refine ⟨fun s' h => ?_, fun S2 L2 h => ?_⟩
    · rw [q1] at h; cases h
    · rw [q1] at h
      cases h
      refine ⟨?_, by simpa using q3⟩
      rw [q2, stp_nx, forL_nil, thn_nx]
      simp -dsimp [WE2]
end CM

namespace CM
open PySem PySem.Spec PyProof.Rows L2 DL
theorem run_ok {M N : Man} {k : Nat} {code : Str} {S : List Pos2} {u v : Int} {res : Option Str} (h : Run M N k code S u v res) : PyData.strOk code = true → code.length + k < 900 → S.length + k < 800 → ∀ n, k + 2 ≤ n →
    (∀ s, res = some s → ∃ e, whL lp_parting_3_t lp_parting_3 n (WE2 M N S [(code, u, v)]) = .rt (.str s) e) ∧ (res = none → ∃ S', whL lp_parting_3_t lp_parting_3 n (WE2 M N S [(code, u, v)]) = .nx (WE2 M N S' [])) := by
  induction h with
  | @diff code S u v A B X Y q t hu hv hl h9 hz hk hne =>
    intro hc hcl hS n hn
    obtain ⟨n, rfl⟩ : ∃ m, n = m + 1 := ⟨n - 1, by omega⟩
    obtain ⟨l1, l2⟩ := lev_body (code := code) (S := S) hu hv hl h9 (by omega) (by omega)
    have := rowP_diff (code := code) (Y := Y) (L := []) hk hne
    rw [← hz] at this
    obtain ⟨e, he⟩ := l1 _ this
    refine ⟨fun s hs => ?_, fun hs => by cases hs⟩
    cases hs
    refine ⟨e, ?_⟩
    rw [whL_succ, lev_test hc, otK_ok, if_pos rfl, he, stp_rt]
  | @stop code S u v A B hu hv hl h9 hk =>
    intro hc hcl hS n hn
    obtain ⟨n, rfl⟩ : ∃ m, n = m + 1 + 1 := ⟨n - 2, by omega⟩
    obtain ⟨l1, l2⟩ := lev_body (code := code) (S := S) hu hv hl h9 (by omega) (by omega)
    obtain ⟨l3, _⟩ := l2 _ _ (rowP_stop (code := code) (L := []) hk)
    refine ⟨fun s hs => (by cases hs), fun _ => ⟨S, ?_⟩⟩
    rw [whL_succ, lev_test hc, otK_ok, if_pos rfl, l3, stp_nx, whL_succ, lev_stop, otK_ok]
    rfl
  | @step k code S u v A B X Y q t res hu hv hl h9 hz hk he hn' hY hr ih =>
    intro hc hcl hS n hn
    obtain ⟨n, rfl⟩ : ∃ m, n = m + 1 := ⟨n - 1, by omega⟩
    obtain ⟨l1, l2⟩ := lev_body (code := code) (S := S) hu hv hl h9 (by omega) (by omega)
    have := rowP_new (code := code) (L := []) hk he hn' hY
    rw [← hz] at this
    obtain ⟨l3, _⟩ := l2 _ _ this
    have hX : X.length < 9 := by
      have e := congrArg List.length hz
      rw [List.length_zip, List.length_append, List.length_cons] at e
      omega
    obtain ⟨d1, d2⟩ := digit_str (i := ((X.length : Nat) : Int)) (by omega) (by omega)
    have ih' := ih (str_app_ok hc d2) (by rw [str_app_len, d1]; omega) (by rw [List.length_append, List.length_singleton]; omega) n (by omega)
    rw [whL_succ, lev_test hc, otK_ok, if_pos rfl, l3, stp_nx]
    exact ih'
def resD : Option Str → D
  | some s => .str s
  | none => .non
theorem parting_ok {M N : Man} {k : Nat} {res : Option Str} (hc : M.c = N.c) (hr : M.r = N.r) (h : Run M N k "" [(0, 0)] 0 0 res) (hk : k < 500) : ev_parting [manD M, manD N] = .ok (resD res) .non := by
  obtain ⟨q1, q2⟩ := run_ok h (by decide +kernel) (by show 0 + k < 900; omega) (by simp; omega) LIM (by unfold LIM; omega)
  have hw : WE2 M N [(0, 0)] [("", 0, 0)] = [.p (manD M), .p (manD N), .p (.lst [.tup [.int 0, .int 0]]), .p (.lst [.tup [.str "", .int 0, .int 0]]), .u, .u, .u, .u, .u, .u, .u] := rfl
  rw [hw] at q1 q2
  have hcut : ∀ (a b c : D), cutL [a, b, c] none (some 2) = [a, b] := fun a b c => rfl
  have hne : gNe (.tup [.int N.c, .int N.r]) (.tup [.int N.c, .int N.r]) = some (.bl false) := by
    have z := gNe_pos (N.c, N.r) (N.c, N.r)
    rw [decide_eq_true rfl] at z
    exact z
  have hM : manD M = .tup [.int N.c, .int N.r, .tup (M.pats.map patD)] := by unfold manD; rw [hc, hr]
  have hN : manD N = .tup [.int N.c, .int N.r, .tup (N.pats.map patD)] := rfl
  rw [hM, hN] at q1 q2 ⊢
  cases res with
  | some s =>
    obtain ⟨e, he⟩ := q1 s rfl
    simp -dsimp [ev_parting, fnD, bd_parting, hcut, hne, he, LIM, resD]
    simp -dsimp [LIM] at he
    simp -dsimp [he]
  | none =>
    obtain ⟨S', he⟩ := q2 rfl
    simp -dsimp [LIM] at he
    simp -dsimp [ev_parting, fnD, bd_parting, hcut, hne, he, LIM, resD, WE2]
theorem parting_code_ok {M N : Man} {k : Nat} {res : Option Str} (hM : ManOk M) (hN : ManOk N) (hc : M.c = N.c) (hr : M.r = N.r) (h : Run M N k "" [(0, 0)] 0 0 res) (hk : k < 500) : ev_parting_code [manD M, manD N] = .ok (resD res) .non := by
  simp -dsimp [ev_parting_code, fnD, bd_parting_code, need_manner_ok hM, need_manner_ok hN, parting_ok hc hr h hk]
theorem alike_ok {M N : Man} {k : Nat} {res : Option Str} (hM : ManOk M) (hN : ManOk N) (hc : M.c = N.c) (hr : M.r = N.r) (h : Run M N k "" [(0, 0)] 0 0 res) (hk : k < 500) : ev_alike [manD M, manD N] = .ok (.bl res.isNone) .non := by
  cases res with
  | some s => simp -dsimp [ev_alike, fnD, bd_alike, ev_are_alike, bd_are_alike, need_manner_ok hM, need_manner_ok hN, parting_ok hc hr h hk, resD]
  | none => simp -dsimp [ev_alike, fnD, bd_alike, ev_are_alike, bd_are_alike, need_manner_ok hM, need_manner_ok hN, parting_ok hc hr h hk, resD]
end CM

namespace CM
open PySem PySem.Spec PyProof.Rows L2 DL
/-! ### chains -/
def zeros (P : List Pos2) : List Cell := P.map fun p => (p, 0)
def setrow (P : List Pos2) (d : Nat) (z : Int) : List Cell := (zeros P).set d (P.getD d (0, 0), z)
def rowsC (P : List Pos2) : Nat → List Nat → List (List Cell)
  | _, [] => []
  | i, d :: r => setrow P d ((i : Nat) + 1 : Int) :: rowsC P (i + 1) r
def chainM (c r : Int) (P : List Pos2) (ds : List Nat) (Q : List Pos2) : Man := ⟨c, r, rowsC P 0 ds ++ [zeros Q]⟩
theorem rowsC_len (P : List Pos2) : ∀ (ds : List Nat) (i : Nat), (rowsC P i ds).length = ds.length
  | [], _ => rfl
  | _ :: r, i => congrArg (· + 1) (rowsC_len P r (i + 1))
def addZ : D → D
  | .tup l => .tup (l ++ [.int 0])
  | d => d
theorem addZ_map (P : List Pos2) : (P.map posD).map addZ = (zeros P).map cl := by
  unfold zeros
  rw [List.map_map, List.map_map]
  exact List.map_congr_left fun p _ => rfl
theorem zeros_len (P : List Pos2) : (zeros P).length = P.length := List.length_map ..
theorem setrow_len (P : List Pos2) (d : Nat) (z : Int) : (setrow P d z).length = P.length := by unfold setrow; rw [List.length_set, zeros_len]
theorem spot_comp (env : Ev) (hlen : 10 ≤ env.length) (h9 : env[9]? = some .u) (h10 : env.length = 10) (P : List Pos2) (hP : P.length ≤ 9) : compL (gN 9) tYs (eOp gAdd (eVar 9) (eTup (aCons (eC (.int 0)) aNil))) [9] (P.map posD) env [] = .ok ((zeros P).map cl) env := by
  have k := compL_map (g := gN 9) (t := tYs) (f := eOp gAdd (eVar 9) (eTup (aCons (eC (.int 0)) aNil))) (vs := [9]) env addZ (P.map posD) []
    (fun d hd => by
      obtain ⟨p, _, rfl⟩ := List.mem_map.mp hd
      obtain ⟨a0, a1, a2, a3, a4, a5, a6, a7, a8, a9, rfl⟩ : ∃ a0 a1 a2 a3 a4 a5 a6 a7 a8 a9, env = [a0, a1, a2, a3, a4, a5, a6, a7, a8, a9] := by
        match env, h10 with
        | [a0, a1, a2, a3, a4, a5, a6, a7, a8, a9], _ => exact ⟨_, _, _, _, _, _, _, _, _, _, rfl⟩
      simp at h9
      subst h9
      exact ⟨_, rfl, rfl, by simp -dsimp [posD, addZ, LIM], by simp⟩) (by simp [LIM]; omega)
  rw [List.nil_append, addZ_map] at k
  exact k
theorem chain_loop {c r dg la : D} {P : List Pos2} (hP : P.length ≤ 9) : ∀ (ds : List Nat) (i : Nat) (acc : List (List Cell)), (∀ d ∈ ds, d < P.length) → acc.length + ds.length ≤ 1000 → i + ds.length ≤ 1000 →
    forL (gT 2 (gsCons (gN 6) (gsCons (gN 7) gsNil))) lp__law_chain_1 (enumL i (ds.map fun (d : Nat) => D.int d)) [.p c, .p r, .p dg, .p (.lst (P.map posD)), .p la, .o (.lst (acc.map patD)), .u, .u, .u, .u] =
      .nx [.p c, .p r, .p dg, .p (.lst (P.map posD)), .p la, .o (.lst ((acc ++ rowsC P i ds).map patD)), .u, .u, .u, .u]
  | [], i, acc, _, _, _ => by simp [enumL, forL_nil, rowsC]
  | d :: ds, i, acc, hd, hl, hi => by
    have hd0 : d < P.length := hd d (List.mem_cons_self ..)
    simp only [List.length_cons] at hl hi
    have k := spot_comp [.p c, .p r, .p dg, .p (.lst (P.map posD)), .p la, .o (.lst (acc.map patD)), .p (.int (i : Nat)), .p (.int (d : Nat)), .u, .u] (by simp) rfl rfl P hP
    have hz : d < ((zeros P).map cl).length := by rw [List.length_map, zeros_len]; exact hd0
    have e1 : atI ((zeros P).map cl) (d : Int) = some (.tup [.int (P.getD d (0, 0)).1, .int (P.getD d (0, 0)).2, .int 0]) := by
      rw [atI_nat' hz]
      unfold zeros
      simp [cl, hd0]
    have e2 : ixN (zeros P).length (d : Int) = some d := ixN_nat (by rw [zeros_len]; exact hd0)
    have hcut : ∀ (a b c : D), cutL [a, b, c] none (some 2) = [a, b] := fun a b c => rfl
    have e3 : ((zeros P).map cl).set d (.tup ([.int (P.getD d (0, 0)).1, .int (P.getD d (0, 0)).2] ++ [.int ((i : Nat) + 1 : Int)])) = (setrow P d ((i : Nat) + 1 : Int)).map cl := by
      unfold setrow
      rw [List.map_set]
      rfl
    have hb : lp__law_chain_1 [.p c, .p r, .p dg, .p (.lst (P.map posD)), .p la, .o (.lst (acc.map patD)), .p (.int (i : Nat)), .p (.int (d : Nat)), .u, .u] =
        .nx [.p c, .p r, .p dg, .p (.lst (P.map posD)), .p la, .o (.lst ((acc ++ [setrow P d ((i : Nat) + 1 : Int)]).map patD)), .u, .u, .u, .u] := by
      have e3' := e3
      simp only [List.cons_append, List.nil_append] at e3'
      simp -dsimp [lp__law_chain_1, k, e1, e2, hcut, LIM, e3', show acc.length < 100000 by omega, patD, -List.map_map, -List.getD_eq_getElem?_getD]
    rw [List.map_cons, enumL, forL_cons]
    have hg : gT 2 (gsCons (gN 6) (gsCons (gN 7) gsNil)) (.tup [.int (i : Nat), .int (d : Nat)]) [.p c, .p r, .p dg, .p (.lst (P.map posD)), .p la, .o (.lst (acc.map patD)), .u, .u, .u, .u] = some [.p c, .p r, .p dg, .p (.lst (P.map posD)), .p la, .o (.lst (acc.map patD)), .p (.int (i : Nat)), .p (.int (d : Nat)), .u, .u] := by
      simp -dsimp
    rw [hg, ogo_some, hb, stp_nx, chain_loop hP ds (i + 1) (acc ++ [setrow P d ((i : Nat) + 1 : Int)]) (fun x hx => hd x (List.mem_cons_of_mem _ hx)) (by simp; omega) (by omega)]
    simp [rowsC]
theorem chain_ok {c r : Int} {P Q : List Pos2} {ds : List Nat} (hP : P.length ≤ 9) (hQ : Q.length ≤ 9) (hd : ∀ d ∈ ds, d < P.length) (hl : ds.length ≤ 100) :
    ev__law_chain [.int c, .int r, .lst (ds.map fun (d : Nat) => D.int d), .lst (P.map posD), .lst (Q.map posD)] = .ok (manD (chainM c r P ds Q)) .non := by
  have k := chain_loop (c := .int c) (r := .int r) (dg := .lst (ds.map fun (d : Nat) => D.int d)) (la := .lst (Q.map posD)) hP ds 0 [] hd (by simp; omega) (by omega)
  have k2 := spot_comp [.p (.int c), .p (.int r), .p (.lst (ds.map fun (d : Nat) => D.int d)), .p (.lst (P.map posD)), .p (.lst (Q.map posD)), .o (.lst ((rowsC P 0 ds).map patD)), .u, .u, .u, .u] (by simp) rfl rfl Q hQ
  rw [List.nil_append] at k
  simp only [List.map_nil] at k
  have hl2 := rowsC_len P ds 0
  simp -dsimp [ev__law_chain, fnD, bd__law_chain, k, k2, LIM, manD, chainM, patD, hl2, show ds.length + 1 ≤ 100000 by omega, -List.map_map]
/-! ### the runs -/
def codeF : Str → List Nat → Str
  | s, [] => s
  | s, d :: r => codeF (s ++ strOfInt (d : Nat)) r
def seenF (F G : Nat → Int) (i : Nat) : List Pos2 := (List.range (i + 1)).map fun j => (F j, G j)
theorem seenF_succ (F G : Nat → Int) (i : Nat) : seenF F G (i + 1) = seenF F G i ++ [(F (i + 1), G (i + 1))] := by
  unfold seenF
  rw [List.range_succ, List.map_append]
  rfl
theorem seenF_0 {F G : Nat → Int} (h : F 0 = 0) (h2 : G 0 = 0) (i : Nat) : ((0 : Int), (0 : Int)) ∈ seenF F G i := List.mem_map.mpr ⟨0, List.mem_range.mpr (Nat.succ_pos _), by rw [h, h2]⟩
theorem zip_set (P : List Pos2) (d : Nat) (hd : d < P.length) (x y : Int) : (setrow P d x).zip (setrow P d y) = ((zeros P).zip (zeros P)).take d ++ ((P[d], x), (P[d], y)) :: ((zeros P).zip (zeros P)).drop (d + 1) := by
  have hg : P.getD d (0, 0) = P[d] := by simp [hd]
  unfold setrow
  rw [hg]
  apply List.ext_getElem?
  intro n
  rw [List.getElem?_append]
  simp only [List.length_take, List.length_zip, zeros_len, Nat.min_self]
  rw [Nat.min_eq_left (Nat.le_of_lt hd)]
  by_cases h1 : n < d
  · rw [if_pos h1, List.getElem?_take, if_pos h1]
    simp only [List.getElem?_zip_eq_some, List.zip, List.getElem?_zipWith]
    rw [List.getElem?_set_ne (by omega), List.getElem?_set_ne (by omega)]
  · rw [if_neg h1]
    simp only [List.zip, List.getElem?_zipWith]
    by_cases h2 : n = d
    · subst h2
      simp [zeros_len, hd]
    · rw [List.getElem?_set_ne (by omega), List.getElem?_set_ne (by omega)]
      obtain ⟨m, rfl⟩ : ∃ m, n = d + 1 + m := ⟨n - d - 1, by omega⟩
      rw [show d + 1 + m - d = m + 1 by omega, List.getElem?_cons_succ, List.getElem?_drop]
      simp only [List.getElem?_zipWith]
theorem known_zeros {F G : Nat → Int} (h : F 0 = 0) (h2 : G 0 = 0) (i : Nat) (P : List Pos2) : known (seenF F G i) ((zeros P).zip (zeros P)) := fun w hw => by
  obtain ⟨n, hn, rfl⟩ := List.mem_iff_getElem.mp hw
  simp only [List.getElem_zip, zeros, List.getElem_map]
  exact ⟨by first | rfl | trivial, seenF_0 h h2 i⟩
theorem known_mono {S S' : List Pos2} {X X' : List (Cell × Cell)} (h : known S X) (h1 : ∀ w ∈ X', w ∈ X) (h2 : ∀ w ∈ S, w ∈ S') : known S' X' := fun w hw => ⟨(h w (h1 w hw)).1, h2 _ (h w (h1 w hw)).2⟩
theorem runs {M N : Man} {F G : Nat → Int} (hF : F 0 = 0) (hG : G 0 = 0) (inj : ∀ i j, i < j → (F i, G i) ≠ (F j, G j)) {P : List Pos2} (hP : P.length ≤ 9) : ∀ (ds : List Nat) (i : Nat) (code : Str) (res : Option Str), (∀ d ∈ ds, d < P.length) →
    (∀ (j : Nat) (d : Nat), ds[j]? = some d → atI M.pats (F (i + j)) = some (setrow P d (F (i + j + 1))) ∧ atI N.pats (G (i + j)) = some (setrow P d (G (i + j + 1)))) →
    Run M N 0 (codeF code ds) (seenF F G (i + ds.length)) (F (i + ds.length)) (G (i + ds.length)) res → Run M N ds.length code (seenF F G i) (F i) (G i) res
  | [], i, code, res, _, _, h => h
  | d :: ds, i, code, res, hd, ha, h => by
    have hd0 : d < P.length := hd d (List.mem_cons_self ..)
    obtain ⟨a1, a2⟩ := ha 0 d rfl
    have ih := runs hF hG inj hP ds (i + 1) (code ++ strOfInt (d : Nat)) res (fun x hx => hd x (List.mem_cons_of_mem _ hx)) (fun j d' hj => by
      have := ha (j + 1) d' hj
      rw [show i + (j + 1) = i + 1 + j by omega] at this
      exact this) (by
      rw [List.length_cons, show i + (ds.length + 1) = i + 1 + ds.length by omega] at h
      exact h)
    have hz := zip_set P d hd0 (F (i + 1)) (G (i + 1))
    have hk := known_zeros hF hG i P
    have hlen : (((zeros P).zip (zeros P)).take d).length = d := by
      rw [List.length_take, List.length_zip, zeros_len, Nat.min_self, Nat.min_eq_left (Nat.le_of_lt hd0)]
    refine Run.step (A := setrow P d (F (i + 1))) (B := setrow P d (G (i + 1))) (X := ((zeros P).zip (zeros P)).take d) (Y := ((zeros P).zip (zeros P)).drop (d + 1)) (q := (P[d], F (i + 1))) (t := (P[d], G (i + 1))) a1 a2 (by rw [setrow_len, setrow_len]) (by rw [setrow_len]; exact hP) hz (known_mono hk (fun w hw => List.mem_of_mem_take hw) fun w hw => hw) rfl ?_ ?_ ?_
    · intro hm
      obtain ⟨j, hj, e⟩ := List.mem_map.mp hm
      exact inj j (i + 1) (List.mem_range.mp hj) e
    · exact known_mono hk (fun w hw => List.mem_of_mem_drop hw) fun w hw => List.mem_append_left _ hw
    · rw [hlen, ← seenF_succ]
      exact ih
end CM

namespace CM
open PySem PySem.Spec PyProof.Rows L2 DL
def unpos : D → Pos2
  | .tup [.int x, .int y] => (x, y)
  | _ => (0, 0)
theorem unpos_pos (p : Pos2) : unpos (posD p) = p := rfl
theorem perm_pos {l : List D} {G : List Pos2} (h : l.Perm (G.map posD)) : ∃ P : List Pos2, l = P.map posD ∧ P.Perm G := by
  refine ⟨l.map unpos, ?_, ?_⟩
  · rw [List.map_map]
    conv => lhs; rw [← List.map_id l]
    refine List.map_congr_left fun d hd => ?_
    obtain ⟨p, _, rfl⟩ := List.mem_map.mp (h.mem_iff.mp hd)
    rfl
  · have := h.map unpos
    rw [List.map_map] at this
    have e : G.map (unpos ∘ posD) = G := by
      conv => rhs; rw [← List.map_id G]
      exact List.map_congr_left fun p _ => rfl
    rw [e] at this
    exact this
theorem setrow_fst (P : List Pos2) (d : Nat) (z : Int) (hd : d < P.length) : (setrow P d z).map (·.1) = P := by
  have hg : P.getD d (0, 0) = P[d] := by simp [hd]
  unfold setrow zeros
  rw [List.map_set, List.map_map, hg]
  have e : P.map ((fun q : Cell => q.1) ∘ fun p => (p, (0 : Int))) = P := by
    conv => rhs; rw [← List.map_id P]
    exact List.map_congr_left fun p _ => rfl
  rw [e]
  apply List.ext_getElem?
  intro n
  by_cases h : d = n
  · subst h; simp [hd]
  · rw [List.getElem?_set_ne h]
theorem zeros_fst (P : List Pos2) : (zeros P).map (·.1) = P := by
  unfold zeros
  rw [List.map_map]
  conv => rhs; rw [← List.map_id P]
  exact List.map_congr_left fun p _ => rfl
/-- positions that fill the grid -/
structure Grid (c r : Int) (P : List Pos2) : Prop where
  len : (P.length : Int) = c * r
  pos : ∀ p ∈ P, 0 ≤ p.1 ∧ p.1 < c ∧ 0 ≤ p.2 ∧ p.2 < r
  nd : P.Nodup
theorem Grid.perm {c r : Int} {P Q : List Pos2} (g : Grid c r P) (h : Q.Perm P) : Grid c r Q := ⟨by rw [h.length_eq]; exact g.len, fun p hp => g.pos p (h.mem_iff.mp hp), h.nodup_iff.mpr g.nd⟩
theorem patOk_of {c r : Int} {n : Nat} {P : List Pos2} {p : List Cell} (g : Grid c r P) (h : p.map (·.1) = P) (hz : ∀ q ∈ p, 0 ≤ q.2 ∧ q.2 < n) : PatOk c r n p :=
  ⟨by rw [← g.len, ← h, List.length_map], fun q hq => g.pos q.1 (h ▸ List.mem_map.mpr ⟨q, hq, rfl⟩), hz, by rw [h]; exact g.nd⟩
theorem zeros_snd {P : List Pos2} {q : Cell} (h : q ∈ zeros P) : q.2 = 0 := by
  obtain ⟨p, _, rfl⟩ := List.mem_map.mp h
  rfl
theorem setrow_snd {P : List Pos2} {d : Nat} {z : Int} {q : Cell} (h : q ∈ setrow P d z) : q.2 = 0 ∨ q.2 = z := by
  unfold setrow at h
  rcases List.mem_or_eq_of_mem_set h with h | h
  · exact .inl (zeros_snd h)
  · exact .inr (by rw [h])
theorem rowsC_mem {P : List Pos2} : ∀ (ds : List Nat) (i : Nat) (p : List Cell), p ∈ rowsC P i ds → ∃ d z, d ∈ ds ∧ p = setrow P d z ∧ 0 ≤ z ∧ z ≤ (i + ds.length : Nat)
  | [], i, p, h => by cases h
  | d :: ds, i, p, h => by
    rcases List.mem_cons.mp h with rfl | h
    · exact ⟨d, _, List.mem_cons_self .., rfl, by omega, by simp only [List.length_cons]; omega⟩
    · obtain ⟨d', z, h1, h2, h3, h4⟩ := rowsC_mem ds (i + 1) p h
      exact ⟨d', z, List.mem_cons_of_mem _ h1, h2, h3, by simp only [List.length_cons]; omega⟩
theorem rowsC_get {P : List Pos2} : ∀ (ds : List Nat) (i j : Nat) (d : Nat), ds[j]? = some d → (rowsC P i ds)[j]? = some (setrow P d ((i + j : Nat) + 1 : Int))
  | [], i, j, d, h => by cases h
  | x :: ds, i, 0, d, h => by cases h; rfl
  | x :: ds, i, j + 1, d, h => by
    have := rowsC_get (P := P) ds (i + 1) j d h
    rw [show i + (j + 1) = i + 1 + j by omega]
    exact this
structure Dims (c r : Int) : Prop where
  hc : 1 ≤ c ∧ c ≤ 3
  hr : 1 ≤ r ∧ r ≤ 3
  cr : 1 < c * r
theorem chainM_ok {c r : Int} {P Q : List Pos2} {ds : List Nat} (hd : Dims c r) (gP : Grid c r P) (gQ : Grid c r Q) (h : ∀ d ∈ ds, d < P.length) (hl : ds.length ≤ 5) : ManOk (chainM c r P ds Q) := by
  have hlen : (chainM c r P ds Q).pats.length = ds.length + 1 := by
    show (rowsC P 0 ds ++ [zeros Q]).length = _
    rw [List.length_append, rowsC_len]; rfl
  have hcr := hd.cr
  refine ⟨hd.hc, hd.hr, fun z => ?_, by rw [hlen]; omega, by rw [hlen]; omega, fun p hp => ?_⟩
  · have z : c * r = 1 := z
    omega
  · rw [hlen]
    rcases List.mem_append.mp hp with hp | hp
    · obtain ⟨d, z, h1, rfl, h2, h3⟩ := rowsC_mem ds 0 p hp
      refine patOk_of gP (setrow_fst P d z (h d h1)) fun q hq => ?_
      rcases setrow_snd hq with e | e <;> rw [e] <;> omega
    · rw [List.mem_singleton.mp hp]
      exact patOk_of gQ (zeros_fst Q) fun q hq => by rw [zeros_snd hq]; omega
def twoM (c r : Int) (P : List Pos2) : Man := ⟨c, r, [zeros P]⟩
theorem twoM_ok {c r : Int} {P : List Pos2} (hd : Dims c r) (gP : Grid c r P) : ManOk (twoM c r P) := by
  have hcr := hd.cr
  refine ⟨hd.hc, hd.hr, fun z => ?_, Nat.zero_lt_one, by show 1 ≤ 6; decide, fun p hp => ?_⟩
  · have z : c * r = 1 := z
    omega
  · rw [List.mem_singleton.mp hp]
    exact patOk_of gP (zeros_fst P) fun q hq => by rw [zeros_snd hq]; exact ⟨by decide, by show (0 : Int) < 1; decide⟩
theorem grid_len9 {c r : Int} {P : List Pos2} (hd : Dims c r) (g : Grid c r P) : P.length ≤ 9 := by
  have := (mul_small hd.hc hd.hr).2
  have := g.len
  omega
theorem chain_at {c r : Int} {P Q : List Pos2} {ds : List Nat} {j : Nat} {d : Nat} (h : ds[j]? = some d) : atI (chainM c r P ds Q).pats ((j : Nat) : Int) = some (setrow P d ((j : Int) + 1)) := by
  have hj : j < ds.length := (List.getElem?_eq_some_iff.mp h).1
  have hl : j < (chainM c r P ds Q).pats.length := by
    show j < (rowsC P 0 ds ++ [zeros Q]).length
    rw [List.length_append, rowsC_len]; omega
  rw [atI_nat' hl]
  have e : (chainM c r P ds Q).pats[j]? = some (setrow P d ((j : Int) + 1)) := by
    show (rowsC P 0 ds ++ [zeros Q])[j]? = _
    rw [List.getElem?_append_left (by rw [rowsC_len]; exact hj), rowsC_get ds 0 j d h, Nat.zero_add]
  rw [List.getElem?_eq_getElem hl] at e
  exact e
theorem chain_last {c r : Int} {P Q : List Pos2} {ds : List Nat} : atI (chainM c r P ds Q).pats ((ds.length : Nat) : Int) = some (zeros Q) := by
  have hl : ds.length < (chainM c r P ds Q).pats.length := by
    show ds.length < (rowsC P 0 ds ++ [zeros Q]).length
    rw [List.length_append, rowsC_len]; simp
  rw [atI_nat' hl]
  have e : (chainM c r P ds Q).pats[ds.length]? = some (zeros Q) := by
    show (rowsC P 0 ds ++ [zeros Q])[ds.length]? = _
    rw [List.getElem?_append_right (by rw [rowsC_len]; exact Nat.le_refl _), rowsC_len, Nat.sub_self]
    rfl
  rw [List.getElem?_eq_getElem hl] at e
  exact e
theorem setrow_zero {P : List Pos2} {d : Nat} (hd : d < P.length) : setrow P d 0 = zeros P := by
  have hg : P.getD d (0, 0) = P[d] := by simp [hd]
  unfold setrow
  rw [hg]
  apply List.ext_getElem?
  intro n
  by_cases h : d = n
  · subst h; simp [zeros, hd]
  · rw [List.getElem?_set_ne h]
/-- positions that part at place f -/
theorem diff_zip {X Y : List Pos2} {a b : Pos2} (hne : a ≠ b) {F G : Nat → Int} (hF : F 0 = 0) (hG : G 0 = 0) (i : Nat) : ∃ Z W q t, (zeros (X ++ b :: a :: Y)).zip (zeros (X ++ a :: b :: Y)) = Z ++ (q, t) :: W ∧ known (seenF F G i) Z ∧ q.1 ≠ t.1 ∧ Z.length = X.length := by
  refine ⟨(zeros X).zip (zeros X), ((a, 0), (b, 0)) :: (zeros Y).zip (zeros Y), (b, 0), (a, 0), ?_, known_zeros hF hG i X, fun e => hne e.symm, by rw [List.length_zip, zeros_len, Nat.min_self]⟩
  unfold zeros
  rw [List.map_append, List.map_append, List.zip_append (by simp)]
  rfl
theorem runs_all {c r : Int} {X Y : List Pos2} {a b : Pos2} {ds : List Nat} (hd : Dims c r) (gP : Grid c r (X ++ a :: b :: Y)) (hds : ∀ d ∈ ds, d < (X ++ a :: b :: Y).length) (hne : a ≠ b) :
    Run (chainM c r (X ++ a :: b :: Y) ds (X ++ b :: a :: Y)) (twoM c r (X ++ a :: b :: Y)) ds.length "" [(0, 0)] 0 0 (some (codeF "" ds ++ strOfInt (X.length : Nat))) ∧
    Run (twoM c r (X ++ a :: b :: Y)) (chainM c r (X ++ a :: b :: Y) ds (X ++ b :: a :: Y)) ds.length "" [(0, 0)] 0 0 (some (codeF "" ds ++ strOfInt (X.length : Nat))) ∧
    Run (chainM c r (X ++ a :: b :: Y) ds (X ++ a :: b :: Y)) (twoM c r (X ++ a :: b :: Y)) ds.length "" [(0, 0)] 0 0 none ∧
    Run (chainM c r (X ++ a :: b :: Y) ds (X ++ a :: b :: Y)) (chainM c r (X ++ a :: b :: Y) ds (X ++ b :: a :: Y)) ds.length "" [(0, 0)] 0 0 (some (codeF "" ds ++ strOfInt (X.length : Nat))) := by
  have h9 := grid_len9 hd gP
  have hl2 : (X ++ b :: a :: Y).length = (X ++ a :: b :: Y).length := by simp
  have two : ∀ d ∈ ds, atI (twoM c r (X ++ a :: b :: Y)).pats 0 = some (setrow (X ++ a :: b :: Y) d 0) := fun d hdd => by rw [setrow_zero (hds d hdd)]; rfl
  have mem : ∀ {j d : Nat}, ds[j]? = some d → d ∈ ds := fun h => List.mem_of_getElem? h
  let I : Nat → Int := fun n => (n : Int)
  let O : Nat → Int := fun _ => 0
  have zl : ∀ P Q : List Pos2, P.length = Q.length → (zeros P).length = (zeros Q).length := fun P Q h => by rw [zeros_len, zeros_len, h]
  refine ⟨?_, ?_, ?_, ?_⟩
  · obtain ⟨Z, W, q, t, z1, z2, z3, z4⟩ := diff_zip (X := X) (Y := Y) hne (F := I) (G := O) rfl rfl (0 + ds.length)
    refine runs (F := I) (G := O) rfl rfl (fun i j h e => by simp only [Prod.mk.injEq, I] at e; omega) h9 ds 0 "" _ hds (fun j d h => ⟨by rw [Nat.zero_add]; exact chain_at h, two d (mem h)⟩) ?_
    rw [← z4]
    exact Run.diff (by rw [Nat.zero_add]; exact chain_last) rfl (zl _ _ hl2) (by rw [zeros_len, hl2]; exact h9) z1 z2 z3
  · have hz := diff_zip (X := X) (Y := Y) (a := b) (b := a) (Ne.symm hne) (F := O) (G := I) rfl rfl (0 + ds.length)
    obtain ⟨Z, W, q, t, z1, z2, z3, z4⟩ := hz
    refine runs (F := O) (G := I) rfl rfl (fun i j h e => by simp only [Prod.mk.injEq, I] at e; omega) h9 ds 0 "" _ hds (fun j d h => ⟨two d (mem h), by rw [Nat.zero_add]; exact chain_at h⟩) ?_
    rw [← z4]
    exact Run.diff rfl (by rw [Nat.zero_add]; exact chain_last) (zl _ _ hl2.symm) (by rw [zeros_len]; exact h9) z1 z2 z3
  · refine runs (F := I) (G := O) rfl rfl (fun i j h e => by simp only [Prod.mk.injEq, I] at e; omega) h9 ds 0 "" _ hds (fun j d h => ⟨by rw [Nat.zero_add]; exact chain_at h, two d (mem h)⟩) ?_
    exact Run.stop (by rw [Nat.zero_add]; exact chain_last) rfl rfl (by rw [zeros_len]; exact h9) (known_zeros (F := I) (G := O) rfl rfl _ _)
  · have hz := diff_zip (X := X) (Y := Y) (a := b) (b := a) (Ne.symm hne) (F := I) (G := I) rfl rfl (0 + ds.length)
    obtain ⟨Z, W, q, t, z1, z2, z3, z4⟩ := hz
    refine runs (F := I) (G := I) rfl rfl (fun i j h e => by simp only [Prod.mk.injEq, I] at e; omega) h9 ds 0 "" _ hds (fun j d h => ⟨by rw [Nat.zero_add]; exact chain_at h, by rw [Nat.zero_add]; exact chain_at h⟩) ?_
    rw [← z4]
    exact Run.diff (by rw [Nat.zero_add]; exact chain_last) (by rw [Nat.zero_add]; exact chain_last) (zl _ _ hl2.symm) (by rw [zeros_len]; exact h9) z1 z2 z3
end CM

namespace CM
open PySem PySem.Spec PyProof.Rows L2 DL
/-! ### the known manners -/
def m1 : Man := ⟨2, 2, [[((0, 0), 1), ((0, 1), 0), ((1, 1), 0), ((1, 0), 2)], [((0, 0), 0), ((1, 0), 1), ((1, 1), 1), ((0, 1), 3)], [((1, 1), 3), ((0, 1), 2), ((0, 0), 2), ((1, 0), 0)], [((1, 1), 2), ((1, 0), 3), ((0, 0), 3), ((0, 1), 1)]]⟩
def m2 : Man := ⟨1, 3, [[((0, 0), 0), ((0, 1), 0), ((0, 2), 0)]]⟩
def m3 : Man := ⟨3, 3, [[((0, 0), 0), ((0, 1), 1), ((0, 2), 0), ((1, 2), 2), ((1, 1), 3), ((1, 0), 2), ((2, 0), 0), ((2, 1), 1), ((2, 2), 0)],
  [((2, 0), 1), ((2, 1), 0), ((2, 2), 1), ((1, 2), 3), ((1, 1), 2), ((1, 0), 3), ((0, 0), 1), ((0, 1), 0), ((0, 2), 1)],
  [((0, 2), 2), ((0, 1), 3), ((0, 0), 2), ((1, 0), 0), ((1, 1), 1), ((1, 2), 0), ((2, 2), 2), ((2, 1), 3), ((2, 0), 2)],
  [((2, 2), 3), ((2, 1), 2), ((2, 0), 3), ((1, 0), 1), ((1, 1), 0), ((1, 2), 1), ((0, 2), 3), ((0, 1), 2), ((0, 0), 3)]]⟩
def m4 : Man := ⟨2, 1, [[((0, 0), 0), ((1, 0), 1)], [((0, 0), 1), ((1, 0), 0)]]⟩
theorem known_ok : ev__law_known [] = .ok (.lst [manD m1, manD m2, manD m3, manD m4]) .non := by kernel_rfl
theorem manOk_dec {m : Man} (h : (decide (1 ≤ m.c ∧ m.c ≤ 3) && decide (1 ≤ m.r ∧ m.r ≤ 3) && decide (m.c * m.r ≠ 1) && decide (0 < m.pats.length) && decide (m.pats.length ≤ 6) && m.pats.all fun p => decide ((p.length : Int) = m.c * m.r) && (p.all fun q => decide (0 ≤ q.1.1 ∧ q.1.1 < m.c ∧ 0 ≤ q.1.2 ∧ q.1.2 < m.r) && decide (0 ≤ q.2 ∧ q.2 < m.pats.length)) && decide (p.map (·.1)).Nodup) = true) : ManOk m := by
  simp only [Bool.and_eq_true, decide_eq_true_eq, List.all_eq_true] at h
  obtain ⟨⟨⟨⟨⟨h1, h2⟩, h3⟩, h4⟩, h5⟩, h6⟩ := h
  exact ⟨h1, h2, h3, h4, h5, fun p hp => ⟨(h6 p hp).1.1, fun q hq => ((h6 p hp).1.2 q hq).1, fun q hq => ((h6 p hp).1.2 q hq).2, (h6 p hp).2⟩⟩
theorem m1_ok : ManOk m1 := manOk_dec (by decide +kernel)
theorem m2_ok : ManOk m2 := manOk_dec (by decide +kernel)
theorem m3_ok : ManOk m3 := manOk_dec (by decide +kernel)
theorem m4_ok : ManOk m4 := manOk_dec (by decide +kernel)
end CM

namespace CM
open PySem PySem.Spec PyProof.Rows L2 DL
theorem cut_to' {l : List D} {f : Nat} (h : f ≤ l.length) : cutL l none (some (f : Int)) = l.take f := by
  unfold cutL
  rw [HT.sIx_nat, HT.sIx_none, List.drop_zero, Nat.sub_zero, Nat.min_eq_left h]
theorem cut_from' {l : List D} {f : Nat} (h : f ≤ l.length) : cutL l (some (f : Int)) none = l.drop f := by
  unfold cutL
  rw [HT.sIx_nat, HT.sIx_none, Nat.min_eq_left h]
  rw [List.take_of_length_le (by rw [List.length_drop]; exact Nat.le_refl _)]
theorem set_cut {α : Type} : ∀ (l : List α) (i : Nat) (x : α), i < l.length → l.take i ++ x :: l.drop (i + 1) = l.set i x
  | [], i, x, h => absurd h (Nat.not_lt_zero _)
  | a :: r, 0, x, _ => rfl
  | a :: r, i + 1, x, h => by
    have := set_cut r i x (by simpa using h)
    simpa using this
theorem at_pat {m : Man} {i : Nat} (hi : i < m.pats.length) : atI (m.pats.map patD) (i : Int) = some (patD m.pats[i]) := atI_map patD (atI_nat' hi)
theorem at_cell {p : List Cell} {i : Nat} (hi : i < p.length) : atI (p.map cl) (i : Int) = some (cl p[i]) := atI_map cl (atI_nat' hi)
theorem at3 (a b c : D) : atI [a, b, c] 2 = some c := rfl
theorem at3_0 (a b c : D) : atI [a, b, c] 0 = some a := rfl
theorem at3_1 (a b c : D) : atI [a, b, c] 1 = some b := rfl
def withM (m : Man) (i d : Nat) (f : Int) : Man := ⟨m.c, m.r, m.pats.set i ((m.pats.getD i []).set d (((m.pats.getD i []).getD d ((0, 0), 0)).1, f))⟩
theorem pat_len {m : Man} (h : ManOk m) {p : List Cell} (hp : p ∈ m.pats) : p.length ≤ 9 ∧ 1 ≤ p.length := by
  have h1 := (h.ok p hp).len
  have := mul_small h.c h.r
  omega
theorem with_ok {m : Man} (h : ManOk m) {i d : Nat} (f : Int) (hi : i < m.pats.length) (hd : (d : Int) < m.c * m.r) : ev__law_with [manD m, .int (i : Nat), .int (d : Nat), .int f] = .ok (manD (withM m i d f)) .non := by
  have hp : m.pats[i] ∈ m.pats := List.getElem_mem hi
  have hlen := (h.ok _ hp).len
  have hl9 := pat_len h hp
  have hd' : d < m.pats[i].length := by omega
  have n6 := h.n6
  have a1 := at_pat hi
  have a2 := at_cell hd'
  have c1 := cut_to' (l := m.pats[i].map cl) (f := d) (by rw [List.length_map]; omega)
  have c2 := cut_from' (l := m.pats[i].map cl) (f := d + 1) (by rw [List.length_map]; omega)
  have c3 := cut_to' (l := m.pats.map patD) (f := i) (by rw [List.length_map]; omega)
  have c4 := cut_from' (l := m.pats.map patD) (f := i + 1) (by rw [List.length_map]; omega)
  rw [show ((d + 1 : Nat) : Int) = (d : Int) + 1 by omega] at c2
  rw [show ((i + 1 : Nat) : Int) = (i : Int) + 1 by omega] at c4
  have e1 : (m.pats[i].map cl).take d ++ cl (m.pats[i][d].1, f) :: (m.pats[i].map cl).drop (d + 1) = (m.pats[i].set d (m.pats[i][d].1, f)).map cl := by
    rw [set_cut _ d _ (by rw [List.length_map]; exact hd'), List.map_set]
  have e2 : (m.pats.map patD).take i ++ patD (m.pats[i].set d (m.pats[i][d].1, f)) :: (m.pats.map patD).drop (i + 1) = (m.pats.set i (m.pats[i].set d (m.pats[i][d].1, f))).map patD := by
    rw [set_cut _ i _ (by rw [List.length_map]; exact hi), List.map_set]
  have g1 : m.pats.getD i [] = m.pats[i] := by simp [hi]
  have g2 : m.pats[i].getD d ((0, 0), 0) = m.pats[i][d] := by simp [hd']
  have hw : manD (withM m i d f) = .tup [.int m.c, .int m.r, .tup ((m.pats.set i (m.pats[i].set d (m.pats[i][d].1, f))).map patD)] := by
    unfold manD withM
    rw [g1, g2]
  rw [hw]
  have l1 : (m.pats[i].map cl).length = m.pats[i].length := List.length_map ..
  have e1' := e1
  unfold cl at e1'
  have k1 : atI (m.pats.map patD) (i : Int) = some (.tup (m.pats[i].map cl)) := a1
  have k2 : atI (m.pats[i].map cl) (d : Int) = some (.tup [.int m.pats[i][d].1.1, .int m.pats[i][d].1.2, .int m.pats[i][d].2]) := a2
  have k3 : (m.pats[i].map cl).take d ++ D.tup [.int m.pats[i][d].1.1, .int m.pats[i][d].1.2, .int f] :: (m.pats[i].map cl).drop (d + 1) = (m.pats[i].set d (m.pats[i][d].1, f)).map cl := e1
  have k4 : (m.pats.map patD).take i ++ D.tup ((m.pats[i].set d (m.pats[i][d].1, f)).map cl) :: (m.pats.map patD).drop (i + 1) = (m.pats.set i (m.pats[i].set d (m.pats[i][d].1, f))).map patD := e2
  have t1 : ((m.pats[i].map cl).take d).length = d := by rw [List.length_take, l1]; omega
  have t2 : ((m.pats.map patD).take i).length = i := by rw [List.length_take, List.length_map]; omega
  have t3 : ((m.pats[i].map cl).drop (d + 1)).length ≤ 9 := by rw [List.length_drop, l1]; omega
  have t4 : ((m.pats.map patD).drop (i + 1)).length ≤ 9 := by rw [List.length_drop, List.length_map]; omega
  have q1 : d + 1 + ((m.pats[i].map cl).drop (d + 1)).length ≤ 100000 := by omega
  have q2 : i + 1 + ((m.pats.map patD).drop (i + 1)).length ≤ 100000 := by omega
  generalize (m.pats[i].map cl).drop (d + 1) = Z1 at *
  generalize (m.pats.map patD).drop (i + 1) = Z2 at *
  generalize hT1 : (m.pats[i].map cl).take d = T1 at *
  generalize hT2 : (m.pats.map patD).take i = T2 at *
  simp -dsimp [ev__law_with, fnD, bd__law_with, manD, at3, k1, k2, c1, c2, c3, c4, cutL3, LIM, t1, t2, q1, q2, k3, k4, show d + 1 ≤ 100000 by omega, show i + 1 ≤ 100000 by omega, -List.map_map, -List.map_set]
theorem with_man {m : Man} (h : ManOk m) {i d : Nat} {f : Int} (hi : i < m.pats.length) (hd : (d : Int) < m.c * m.r) (hf : 0 ≤ f ∧ f < m.pats.length) : ManOk (withM m i d f) := by
  have hp : m.pats[i] ∈ m.pats := List.getElem_mem hi
  have hok := h.ok _ hp
  have hd' : d < m.pats[i].length := by have := hok.len; omega
  have g1 : m.pats.getD i [] = m.pats[i] := by simp [hi]
  have g2 : m.pats[i].getD d ((0, 0), 0) = m.pats[i][d] := by simp [hd']
  have hl : (withM m i d f).pats.length = m.pats.length := by unfold withM; simp
  refine ⟨h.c, h.r, h.cr, by rw [hl]; exact h.n0, by rw [hl]; exact h.n6, fun p hp' => ?_⟩
  rw [hl]
  unfold withM at hp'
  rw [g1, g2] at hp'
  rcases List.mem_or_eq_of_mem_set hp' with hp' | rfl
  · exact h.ok p hp'
  · refine ⟨by rw [List.length_set]; exact hok.len, fun q hq => ?_, fun q hq => ?_, ?_⟩
    · rcases List.mem_or_eq_of_mem_set hq with hq | rfl
      · exact hok.pos q hq
      · exact hok.pos m.pats[i][d] (List.getElem_mem hd')
    · rcases List.mem_or_eq_of_mem_set hq with hq | rfl
      · exact hok.nxt q hq
      · exact hf
    · rw [List.map_set]
      have e : (m.pats[i].map (·.1)).set d m.pats[i][d].1 = m.pats[i].map (·.1) := by
        apply List.ext_getElem?
        intro n
        by_cases hn : d = n
        · subst hn; simp [hd']
        · rw [List.getElem?_set_ne hn]
      rw [e]
      exact hok.nd
theorem near_ok {m : Man} {d : D} (hs : Src d) (h : ManOk m) : ∃ m' d', ev__law_near [d, manD m] = .ok (manD m') d' ∧ Src d' ∧ ManOk m' ∧ m'.pats.length = m.pats.length ∧ m'.c = m.c ∧ m'.r = m.r := by
  have hm := mul_small h.c h.r
  have n0 := h.n0
  have n6 := h.n6
  obtain ⟨i, d1, a1, a2, a3, a4⟩ := pick_ok (m := (m.pats.length : Int)) hs (by omega) (by omega)
  obtain ⟨i, rfl⟩ := Int.eq_ofNat_of_zero_le a3
  obtain ⟨j, d2, b1, b2, b3, b4⟩ := pick_ok (m := m.c * m.r) a2 (by omega) (by omega)
  obtain ⟨j, rfl⟩ := Int.eq_ofNat_of_zero_le b3
  obtain ⟨f, d3, c1, c2, c3, c4⟩ := pick_ok (m := (m.pats.length : Int)) b2 (by omega) (by omega)
  have hw := with_ok h f (show i < m.pats.length by omega) b4
  have e1 : mulOk m.c m.r = true := mulOk_r (by have := h.r; omega) (by have := h.r; omega)
  refine ⟨withM m i j f, d3, ?_, c2, with_man h (by omega) b4 ⟨c3, c4⟩, by unfold withM; simp, rfl, rfl⟩
  unfold manD at hw ⊢
  simp -dsimp [ev__law_near, fnD, bd__law_near, at3, at3_0, at3_1, a1, b1, c1, hw, e1, -List.map_map]
end CM

namespace CM
open PySem PySem.Spec PyProof.Rows L2 DL
theorem grids9 {x : D} (h : x ∈ [D.tup [.int 2, .int 2], .tup [.int 2, .int 2], .tup [.int 1, .int 2], .tup [.int 2, .int 1], .tup [.int 3, .int 3], .tup [.int 3, .int 2], .tup [.int 2, .int 3], .tup [.int 1, .int 3], .tup [.int 3, .int 1]]) :
    ∃ c r G, x = .tup [.int c, .int r] ∧ Dims c r ∧ gridL c r = G.map posD ∧ Grid c r G := by
  simp only [List.mem_cons, List.not_mem_nil, or_false] at h
  rcases h with rfl | rfl | rfl | rfl | rfl | rfl | rfl | rfl | rfl
  · exact ⟨2, 2, [(0, 0), (1, 0), (0, 1), (1, 1)], rfl, ⟨by decide, by decide, by decide⟩, rfl, ⟨by decide, by decide, by decide⟩⟩
  · exact ⟨2, 2, [(0, 0), (1, 0), (0, 1), (1, 1)], rfl, ⟨by decide, by decide, by decide⟩, rfl, ⟨by decide, by decide, by decide⟩⟩
  · exact ⟨1, 2, [(0, 0), (0, 1)], rfl, ⟨by decide, by decide, by decide⟩, rfl, ⟨by decide, by decide, by decide⟩⟩
  · exact ⟨2, 1, [(0, 0), (1, 0)], rfl, ⟨by decide, by decide, by decide⟩, rfl, ⟨by decide, by decide, by decide⟩⟩
  · exact ⟨3, 3, [(0, 0), (1, 0), (2, 0), (0, 1), (1, 1), (2, 1), (0, 2), (1, 2), (2, 2)], rfl, ⟨by decide, by decide, by decide⟩, rfl, ⟨by decide, by decide, by decide⟩⟩
  · exact ⟨3, 2, [(0, 0), (1, 0), (2, 0), (0, 1), (1, 1), (2, 1)], rfl, ⟨by decide, by decide, by decide⟩, rfl, ⟨by decide, by decide, by decide⟩⟩
  · exact ⟨2, 3, [(0, 0), (1, 0), (0, 1), (1, 1), (0, 2), (1, 2)], rfl, ⟨by decide, by decide, by decide⟩, rfl, ⟨by decide, by decide, by decide⟩⟩
  · exact ⟨1, 3, [(0, 0), (0, 1), (0, 2)], rfl, ⟨by decide, by decide, by decide⟩, rfl, ⟨by decide, by decide, by decide⟩⟩
  · exact ⟨3, 1, [(0, 0), (1, 0), (2, 0)], rfl, ⟨by decide, by decide, by decide⟩, rfl, ⟨by decide, by decide, by decide⟩⟩
theorem order_pos {d : D} {c r : Int} {G : List Pos2} (hd : Src d) (h : Dims c r) (hG : gridL c r = G.map posD) (gG : Grid c r G) : ∃ P d', ev__law_order [d, .int c, .int r] = .ok (.lst (P.map posD)) d' ∧ Src d' ∧ Grid c r P := by
  obtain ⟨l, d', h1, h2, h3⟩ := order_ok (c := c) (r := r) hd (by have := h.hc; omega) (by have := h.hr; omega)
  rw [hG] at h3
  obtain ⟨P, rfl, h4⟩ := perm_pos h3
  exact ⟨P, d', h1, h2, gG.perm h4⟩
/-- cells drawn behind positions -/
theorem cells_drawn {e1 e2 e3 e4 e6 e7 e8 e9 : Sl} {d : D} {n : Int} (hs : Src d) (hn : 0 < n ∧ n < 1000) (P : List Pos2) (hP : P.length ≤ 9) : ∃ (p : List Cell) (d' : D), compL (gN 10) tYs (eOp gAdd (eVar 10) (eTup (aCons (eCall (some 0) ev__law_pick (aCons (eVar 0) (aCons (eVar 5) aNil))) aNil))) [10] (P.map posD) [.r d, e1, e2, e3, e4, .p (.int n), e6, e7, e8, e9, .u] [] =
    .ok (p.map cl) [.r d', e1, e2, e3, e4, .p (.int n), e6, e7, e8, e9, .u] ∧ Src d' ∧ p.map (·.1) = P ∧ ∀ q ∈ p, 0 ≤ q.2 ∧ q.2 < n := by
  obtain ⟨l, env', q1, ⟨d', rfl, q2⟩, q3⟩ := compL_inv (g := gN 10) (t := tYs) (f := eOp gAdd (eVar 10) (eTup (aCons (eCall (some 0) ev__law_pick (aCons (eVar 0) (aCons (eVar 5) aNil))) aNil))) (vs := [10]) (fun env => ∃ d, env = [.r d, e1, e2, e3, e4, .p (.int n), e6, e7, e8, e9, .u] ∧ Src d) (fun x y => ∃ (p : Pos2) (z : Int), x = posD p ∧ y = cl (p, z) ∧ 0 ≤ z ∧ z < n)
    (P.map posD) [] [.r d, e1, e2, e3, e4, .p (.int n), e6, e7, e8, e9, .u] ⟨d, rfl, hs⟩ (fun x hx env hI => by
      obtain ⟨d, rfl, hs⟩ := hI
      obtain ⟨p, _, rfl⟩ := List.mem_map.mp hx
      obtain ⟨z, d2, h1, h2, h3, h4⟩ := pick_ok (m := n) hs (by omega) (by omega)
      exact ⟨_, _, [.r d2, e1, e2, e3, e4, .p (.int n), e6, e7, e8, e9, .p (posD p)], cl (p, z), rfl, rfl, by simp -dsimp [h1, posD, cl, LIM], ⟨d2, by simp, h2⟩, p, z, rfl, rfl, h3, h4⟩) (by simp [LIM]; omega)
  have : ∃ p : List Cell, l = p.map cl ∧ p.map (·.1) = P ∧ ∀ q ∈ p, 0 ≤ q.2 ∧ q.2 < n := by
    clear q1 hP
    generalize hX : P.map posD = Xs at q3
    induction q3 generalizing P with
    | nil =>
      cases P with
      | nil => exact ⟨[], rfl, rfl, fun q hq => by cases hq⟩
      | cons _ _ => cases hX
    | cons h t ih =>
      cases P with
      | nil => cases hX
      | cons a P =>
        rw [List.map_cons] at hX
        injection hX with e1 e2
        obtain ⟨p, z, rfl, rfl, h3, h4⟩ := h
        obtain ⟨ps, rfl, g1, g2⟩ := ih P e2
        have ea : a = p := by
          have := congrArg unpos e1
          exact this
        subst ea
        exact ⟨(a, z) :: ps, rfl, by rw [List.map_cons, g1], fun q hq => by
          rcases List.mem_cons.mp hq with rfl | hq
          · exact ⟨h3, h4⟩
          · exact g2 q hq⟩
  obtain ⟨p, rfl, h1, h2⟩ := this
  exact ⟨p, d', by rw [q1, List.nil_append], q2, h1, h2⟩
theorem manner_loop {c r : Int} {n : Nat} {G : List Pos2} {e1 e2 e9 : Sl} (hd : Dims c r) (hG : gridL c r = G.map posD) (gG : Grid c r G) (hn : 0 < n ∧ n ≤ 6) : ∀ (items : List D) (d : D) (found : List (List Cell)) (P : List Pos2), Src d → Grid c r P → (∀ p ∈ found, PatOk c r n p) → found.length + items.length ≤ 100 →
    ∃ (d' : D) (found' : List (List Cell)) (P' : List Pos2), forL (gN 8) lp__law_manner_1 items [.r d, e1, e2, .p (.int c), .p (.int r), .p (.int (n : Nat)), .o (.lst (found.map patD)), .p (.lst (P.map posD)), .u, e9, .u] = .nx [.r d', e1, e2, .p (.int c), .p (.int r), .p (.int (n : Nat)), .o (.lst (found'.map patD)), .p (.lst (P'.map posD)), .u, e9, .u] ∧ Src d' ∧ (∀ p ∈ found', PatOk c r n p) ∧ found'.length = found.length + items.length
  | [], d, found, P, hs, gP, hf, hl => ⟨d, found, P, by rw [forL_nil], hs, hf, rfl⟩
  | x :: items, d, found, P, hs, gP, hf, hl => by
    rw [List.length_cons] at hl
    obtain ⟨w, d1, a1, a2, a3, a4⟩ := pick_ok (m := 2) hs (by omega) (by omega)
    have key : ∃ P' d2 p d3, lp__law_manner_1 [.r d, e1, e2, .p (.int c), .p (.int r), .p (.int (n : Nat)), .o (.lst (found.map patD)), .p (.lst (P.map posD)), .p x, e9, .u] = .nx [.r d3, e1, e2, .p (.int c), .p (.int r), .p (.int (n : Nat)), .o (.lst ((found ++ [p]).map patD)), .p (.lst (P'.map posD)), .u, e9, .u] ∧ Src d2 ∧ Src d3 ∧ Grid c r P' ∧ PatOk c r n p := by
      by_cases hw : w = 0
      · obtain ⟨p, d3, b1, b2, b3, b4⟩ := cells_drawn (e1 := e1) (e2 := e2) (e3 := .p (.int c)) (e4 := .p (.int r)) (e6 := .o (.lst (found.map patD))) (e7 := .p (.lst (P.map posD))) (e8 := .p x) (e9 := e9) (n := (n : Int)) a2 (by omega) P (grid_len9 hd gP)
        refine ⟨P, d1, p, d3, ?_, a2, b2, gP, patOk_of gP b3 b4⟩
        simp -dsimp [lp__law_manner_1, a1, hw, b1, LIM, patD, show found.length < 100000 by omega, -List.map_map]
      · obtain ⟨P', d2, o1, o2, o3⟩ := order_pos a2 hd hG gG
        obtain ⟨p, d3, b1, b2, b3, b4⟩ := cells_drawn (e1 := e1) (e2 := e2) (e3 := .p (.int c)) (e4 := .p (.int r)) (e6 := .o (.lst (found.map patD))) (e7 := .p (.lst (P'.map posD))) (e8 := .p x) (e9 := e9) (n := (n : Int)) o2 (by omega) P' (grid_len9 hd o3)
        refine ⟨P', d2, p, d3, ?_, o2, b2, o3, patOk_of o3 b3 b4⟩
        simp -dsimp [lp__law_manner_1, a1, hw, o1, b1, LIM, patD, show found.length < 100000 by omega, -List.map_map]
    obtain ⟨P', d2, p, d3, k1, k2, k3, k4, k5⟩ := key
    have hg : gN 8 x [.r d, e1, e2, .p (.int c), .p (.int r), .p (.int (n : Nat)), .o (.lst (found.map patD)), .p (.lst (P.map posD)), .u, e9, .u] = some [.r d, e1, e2, .p (.int c), .p (.int r), .p (.int (n : Nat)), .o (.lst (found.map patD)), .p (.lst (P.map posD)), .p x, e9, .u] := rfl
    obtain ⟨d', found', P2, z1, z2, z3, z4⟩ := manner_loop hd hG gG hn items d3 (found ++ [p]) P' k3 k4 (fun q hq => by
      rcases List.mem_append.mp hq with hq | hq
      · exact hf q hq
      · rw [List.mem_singleton.mp hq]; exact k5) (by rw [List.length_append, List.length_singleton]; omega)
    refine ⟨d', found', P2, ?_, z2, z3, by rw [z4, List.length_append, List.length_singleton, List.length_cons]; omega⟩
    rw [forL_cons, hg, ogo_some, k1, stp_nx, z1]
theorem known_list : ∃ K : List D, ev__law_known [] = .ok (.lst K) .non ∧ K ≠ [] ∧ K.length < 1000 ∧ ∀ x ∈ K, ∃ m, x = manD m ∧ ManOk m ∧ m.pats.length ≤ 4 := by
  refine ⟨_, known_ok, List.cons_ne_nil _ _, by decide, fun x b3 => ?_⟩
  rcases List.mem_cons.mp b3 with rfl | b3
  · exact ⟨_, rfl, m1_ok, by decide⟩
  rcases List.mem_cons.mp b3 with rfl | b3
  · exact ⟨_, rfl, m2_ok, by decide⟩
  rcases List.mem_cons.mp b3 with rfl | b3
  · exact ⟨_, rfl, m3_ok, by decide⟩
  rcases List.mem_cons.mp b3 with rfl | b3
  · exact ⟨_, rfl, m4_ok, by decide⟩
  · cases b3
theorem manner_known {d d1 : D} {w : Int} (a1 : ev__law_pick [d, .int 6] = .ok (.int w) d1) (a2 : Src d1) (hw : w < 2) : ∃ m d', ev__law_manner [d] = .ok (manD m) d' ∧ Src d' ∧ ManOk m ∧ m.pats.length ≤ 4 := by
  obtain ⟨K, hk, k1, k2, k3⟩ := known_list
  obtain ⟨x, d2, b1, b2, b3⟩ := chosen_ok a2 k1 k2
  obtain ⟨m, rfl, hm, h4⟩ := k3 x b3
  by_cases hw0 : w = 0
  · refine ⟨m, d2, ?_, b2, hm, h4⟩
    simp -dsimp [ev__law_manner, fnD, bd__law_manner, a1, hw, hw0, hk, b1]
  · obtain ⟨m', d3, c1, c2, c3, c4, _⟩ := near_ok b2 hm
    refine ⟨m', d3, ?_, c2, c3, by omega⟩
    simp -dsimp [ev__law_manner, fnD, bd__law_manner, a1, hw, hw0, hk, b1, c1]
theorem iRg_at {env : Ev} {i : Nat} {j : Int} (h : env[i]? = some (.p (.int j))) (hb : bg j = true) : iRg (aCons (eVar i) aNil) env = .ok (rng 0 j.toNat) env := by
  simp -dsimp [h, hb]
theorem seq_at {f : Ev → Out} {e e1 : Ev} {g : Ev → Out} (h : f e = .nx e1) : sSeq f g e = g e1 := by rw [sSeq_ap, h, thn_nx]
theorem for_at {it : Ev → Rx (List D)} {g : D → Ev → Option Ev} {b : Ev → Out} {env e1 : Ev} {items : List D} {o : Out} (h : it env = .ok items e1) (h2 : forL g b items e1 = o) : sFor it g b env = o := by rw [sFor_ap, h, Rx.out_ok, h2]
def nineD : List D := [D.tup [.int 2, .int 2], .tup [.int 2, .int 2], .tup [.int 1, .int 2], .tup [.int 2, .int 1], .tup [.int 3, .int 3], .tup [.int 3, .int 2], .tup [.int 2, .int 3], .tup [.int 1, .int 3], .tup [.int 3, .int 1]]
theorem manner_eval {d d1 d2 d3 d4 d5 : D} {w c r j : Int} {P P' : List Pos2} {found : List (List Cell)} (a1 : ev__law_pick [d, .int 6] = .ok (.int w) d1) (hw : ¬ w < 2) (b1 : ev__law_chosen [d1, .lst nineD] = .ok (.tup [.int c, .int r]) d2) {n : Int} (c1 : ev__law_pick [d2, .int 4] = .ok (.int n) d3)
    (o1 : ev__law_order [d3, .int c, .int r] = .ok (.lst (P.map posD)) d4) (hj : 1 + n = j) (hb : bg j = true)
    (l1 : forL (gN 8) lp__law_manner_1 (rng 0 j.toNat) [.r d4, .p (.int w), .p (.lst nineD), .p (.int c), .p (.int r), .p (.int j), .o (.lst []), .p (.lst (P.map posD)), .u, .u, .u] = .nx [.r d5, .p (.int w), .p (.lst nineD), .p (.int c), .p (.int r), .p (.int j), .o (.lst (found.map patD)), .p (.lst (P'.map posD)), .u, .u, .u]) :
    ev__law_manner [d] = .ok (.tup [.int c, .int r, .tup (found.map patD)]) d5 := by
  have key : bd__law_manner [.r d, .u, .u, .u, .u, .u, .u, .u, .u, .u, .u] = .rt (.tup [.int c, .int r, .tup (found.map patD)]) [.r d5, .p (.int w), .p (.lst nineD), .p (.int c), .p (.int r), .p (.int j), .o (.lst (found.map patD)), .p (.lst (P'.map posD)), .u, .u, .u] := by
    unfold bd__law_manner
    rw [seq_at (e1 := [.r d1, .p (.int w), .u, .u, .u, .u, .u, .u, .u, .u, .u]) (by simp -dsimp [a1])]
    rw [seq_at (e1 := [.r d1, .p (.int w), .u, .u, .u, .u, .u, .u, .u, .u, .u]) (by simp -dsimp [hw])]
    rw [seq_at (e1 := [.r d1, .p (.int w), .p (.lst nineD), .u, .u, .u, .u, .u, .u, .u, .u]) (by simp -dsimp [LIM, nineD])]
    rw [seq_at (e1 := [.r d2, .p (.int w), .p (.lst nineD), .p (.int c), .p (.int r), .u, .u, .u, .u, .u, .u]) (by simp -dsimp [b1])]
    rw [seq_at (e1 := [.r d4, .p (.int w), .p (.lst nineD), .p (.int c), .p (.int r), .p (.int j), .o (.lst []), .p (.lst (P.map posD)), .u, .u, .u]) (by simp -dsimp [c1, o1, hj, LIM])]
    rw [seq_at (for_at (iRg_at (i := 5) rfl hb) l1)]
    simp -dsimp [LIM]
  simp -dsimp [ev__law_manner, fnD, key]
theorem manner_more {d : D} {w : Int} {d1 : D} (a1 : ev__law_pick [d, .int 6] = .ok (.int w) d1) (a2 : Src d1) (hw : ¬ w < 2) : ∃ m d', ev__law_manner [d] = .ok (manD m) d' ∧ Src d' ∧ ManOk m ∧ m.pats.length ≤ 4 := by
  obtain ⟨x, d2, b1, b2, b3⟩ := chosen_ok (l := nineD) a2 (List.cons_ne_nil _ _) (by decide)
  obtain ⟨c, r, G, rfl, hd, hG, gG⟩ := grids9 b3
  obtain ⟨i, d3, c1, c2, c3, c4⟩ := pick_ok (m := 4) b2 (by omega) (by omega)
  obtain ⟨P, d4, o1, o2, o3⟩ := order_pos c2 hd hG gG
  obtain ⟨j, hj⟩ : ∃ j : Int, 1 + i = j := ⟨_, rfl⟩
  obtain ⟨n, hn⟩ : ∃ n : Nat, j.toNat = n := ⟨_, rfl⟩
  have hn1 : 1 ≤ n := by omega
  have hn4 : n ≤ 4 := by omega
  have hji : (n : Int) = j := by omega
  obtain ⟨d5, found, P', l1, l2, l3, l4⟩ := manner_loop (e1 := .p (.int w)) (e2 := .p (.lst nineD)) (e9 := .u) (n := n) hd hG gG (by omega) (rng 0 n) d4 [] P o2 o3 (fun p hp => by cases hp) (by rw [rng_len]; simp only [List.length_nil]; omega)
  rw [rng_len] at l4
  simp only [List.length_nil, Nat.zero_add] at l4
  have hb : bg j = true := bg_t (by omega) (by omega)
  rw [hji, ← hn] at l1
  have hcr := hd.cr
  have h1 := manner_eval a1 hw b1 c1 o1 hj hb l1
  rw [hn] at *
  exact ⟨⟨c, r, found⟩, d5, h1, l2, ⟨hd.hc, hd.hr, (show c * r ≠ 1 by omega), by show 0 < found.length; omega, by show found.length ≤ 6; omega, fun p hp => by show PatOk c r found.length p; rw [l4]; exact l3 p hp⟩, by show found.length ≤ 4; omega⟩
theorem manner_ok {d : D} (hs : Src d) : ∃ m d', ev__law_manner [d] = .ok (manD m) d' ∧ Src d' ∧ ManOk m ∧ m.pats.length ≤ 4 := by
  obtain ⟨w, d1, a1, a2, a3, a4⟩ := pick_ok (m := 6) hs (by omega) (by omega)
  by_cases hw : w < 2
  · exact manner_known a1 a2 hw
  · exact manner_more a1 a2 hw
end CM

namespace CM
end CM

namespace CM
open PySem PySem.Spec PyProof.Rows L2 DL
/-! ### codes -/
def dig (d : Nat) : Str := ⟨#[48 + d]⟩
def codeS (ds : List Nat) : Str := ⟨(ds.map fun d => 48 + d).toArray⟩
theorem dig_str {d : Nat} (h : d < 10) : strOfInt (d : Nat) = dig d := by
  have : ∀ d < 10, strOfInt ((d : Nat) : Int) = dig d := by decide +kernel
  exact this d h
theorem dig_int {d : Nat} (h : d < 10) : gInt1 [.str (dig d)] = some (.int (d : Nat)) := by
  have h2 : ∀ d < 10, PySem.intText? (dig d) = some ((d : Nat) : Int) := by decide +kernel
  simp only [gInt1]
  rw [if_pos (show (dig d).length ≤ 640 by show 1 ≤ 640; decide), h2 d h]
  rfl
theorem codeF_S : ∀ (ds es : List Nat), (∀ d ∈ ds, d < 10) → codeF (codeS es) ds = codeS (es ++ ds)
  | [], es, _ => by simp [codeF]
  | d :: ds, es, h => by
    show codeF (codeS es ++ strOfInt (d : Nat)) ds = _
    rw [dig_str (h d (List.mem_cons_self ..))]
    have e : codeS es ++ dig d = codeS (es ++ [d]) := by
      show (⟨(es.map fun d => 48 + d).toArray ++ #[48 + d]⟩ : Str) = _
      unfold codeS
      simp
    rw [e, codeF_S ds (es ++ [d]) fun x hx => h x (List.mem_cons_of_mem _ hx), List.append_assoc]
    rfl
theorem codeF_0 {ds : List Nat} (h : ∀ d ∈ ds, d < 10) : codeF "" ds = codeS ds := by
  have e : ("" : Str) = codeS [] := rfl
  rw [e, codeF_S ds [] h, List.nil_append]
theorem codeS_len (ds : List Nat) : (codeS ds).length = ds.length := by
  show (ds.map fun d => 48 + d).toArray.size = _
  simp
theorem codeS_it (ds : List Nat) : itD (.str (codeS ds)) = some (ds.map fun d => D.str (dig d)) := by
  unfold codeS
  simp [itD, dig]
theorem codeS_app (ds es : List Nat) : codeS ds ++ codeS es = codeS (ds ++ es) := by
  show (⟨(ds.map fun d => 48 + d).toArray ++ (es.map fun d => 48 + d).toArray⟩ : Str) = _
  unfold codeS
  simp
theorem str_nil_app' (s : Str) : ("" : Str) ++ s = s := by
  show (⟨#[] ++ s.cps⟩ : Str) = s
  simp
theorem str_app_nil' (s : Str) : s ++ ("" : Str) = s := by
  show (⟨s.cps ++ #[]⟩ : Str) = s
  simp
theorem codeF_app' : ∀ (ds : List Nat) (a b : Str), codeF (a ++ b) ds = a ++ codeF b ds
  | [], _, _ => rfl
  | d :: ds, a, b => by
    show codeF (a ++ b ++ strOfInt (d : Nat)) ds = _
    rw [str_assoc, codeF_app' ds a (b ++ strOfInt (d : Nat))]
    rfl
theorem join_code' : ∀ ds : List Nat, Str.join "" (ds.map fun (d : Nat) => strOfInt d) = codeF "" ds
  | [] => rfl
  | [d] => by show strOfInt (d : Nat) = "" ++ strOfInt (d : Nat); rw [str_nil_app']
  | d :: e :: ds => by
    have ih := join_code' (e :: ds)
    show strOfInt (d : Nat) ++ "" ++ Str.join "" ((e :: ds).map fun (d : Nat) => strOfInt d) = codeF ("" ++ strOfInt (d : Nat)) (e :: ds)
    rw [ih, str_app_nil', str_nil_app']
    have := codeF_app' (e :: ds) (strOfInt (d : Nat)) ""
    rw [str_app_nil'] at this
    exact this.symm
theorem len_sum' (ds : List Nat) (h : ∀ d ∈ ds, d < 10) : ((ds.map fun (d : Nat) => strOfInt d).map (·.length)).sum = ds.length := by
  induction ds with
  | nil => rfl
  | cons d r ih =>
    obtain ⟨h1, _⟩ := digit_str (i := ((d : Nat) : Int)) (by omega) (by have := h d (List.mem_cons_self ..); omega)
    rw [List.map_cons, List.map_cons, List.sum_cons, ih fun x hx => h x (List.mem_cons_of_mem _ hx), h1, List.length_cons, Nat.add_comm]
theorem join_ok (ds : List Nat) (h : ∀ d ∈ ds, d < 10) (hl : ds.length ≤ 1000) : gJoin (.str "") (.lst ((ds.map fun (x : Nat) => strOfInt x).map D.str)) = some (.str (codeS ds)) := by
  unfold gJoin
  simp only [stL_map]
  rw [join_code', codeF_0 h, if_pos]
  rw [len_sum' ds h, List.length_map]
  show ds.length + ds.length * 0 ≤ 16777216
  omega
/-- digits of a manner's codes -/
def Digs (m : Man) (ds : List Nat) : Prop := ∀ d ∈ ds, (d : Int) < m.c * m.r
theorem Digs.ten {m : Man} (h : ManOk m) {ds : List Nat} (hd : Digs m ds) : ∀ d ∈ ds, d < 10 := fun d hd' => by
  have := hd d hd'
  have := mul_small h.c h.r
  omega
theorem any_code_ok {m : Man} {d : D} {n : Int} (hs : Src d) (h : ManOk m) (hn : 0 ≤ n ∧ n ≤ 100) : ∃ ds d', ev__law_any_code [d, manD m, .int n] = .ok (.str (codeS ds)) d' ∧ Src d' ∧ Digs m ds ∧ ds.length = n.toNat := by
  have hm := mul_small h.c h.r
  have e1 : mulOk m.c m.r = true := mulOk_r (by have := h.r; omega) (by have := h.r; omega)
  obtain ⟨l, env', q1, ⟨d', rfl, q2⟩, q3⟩ := compL_inv (g := gN 3) (t := tYs) (f := eCB gStr1 (aCons (eCall (some 0) ev__law_pick (aCons (eVar 0) (aCons (eOp gMulI (eOp gIx (eVar 1) (eC (.int 0))) (eOp gIx (eVar 1) (eC (.int 1)))) aNil))) aNil)) (vs := [3]) (fun env => ∃ d, env = [.r d, .p (manD m), .p (.int n), .u] ∧ Src d) (fun _ y => ∃ x : Nat, y = .str (strOfInt x) ∧ (x : Int) < m.c * m.r)
    (rng 0 n.toNat) [] [.r d, .p (manD m), .p (.int n), .u] ⟨d, rfl, hs⟩ (fun x hx env hI => by
      obtain ⟨d, rfl, hs⟩ := hI
      obtain ⟨y, d2, h1, h2, h3, h4⟩ := pick_ok (m := m.c * m.r) hs (by omega) (by omega)
      obtain ⟨z, rfl⟩ := Int.eq_ofNat_of_zero_le h3
      have hlog : z.log2 < 1920 := small_log (i := ((z : Nat) : Int)) (by omega) (by omega)
      exact ⟨_, _, [.r d2, .p (manD m), .p (.int n), .p x], .str (strOfInt z), rfl, rfl, by simp -dsimp [manD, at3_0, at3_1, e1, h1, hlog], ⟨d2, by simp, h2⟩, z, rfl, h4⟩) (by rw [rng_len]; simp [LIM]; omega)
  have hl := Paired.length q3
  rw [rng_len] at hl
  have : ∃ ds : List Nat, l = ((ds.map fun (x : Nat) => strOfInt x).map D.str) ∧ Digs m ds := by
    clear q1 hl
    generalize rng 0 n.toNat = items at q3
    induction q3 with
    | nil => exact ⟨[], rfl, fun x hx => by cases hx⟩
    | cons h t ih =>
      obtain ⟨x, rfl, h2⟩ := h
      obtain ⟨ds, rfl, h4⟩ := ih
      exact ⟨x :: ds, rfl, fun y hy => by
        rcases List.mem_cons.mp hy with rfl | hy
        · exact h2
        · exact h4 y hy⟩
  obtain ⟨ds, rfl, h4⟩ := this
  rw [List.length_map, List.length_map] at hl
  have hj := join_ok ds (h4.ten h) (by omega)
  have hb := bg_t (i := n) (by omega) (by omega)
  rw [List.nil_append] at q1
  simp only [gMulI] at q1
  have hit : iRg (aCons (eVar 2) aNil) [.r d, .p (manD m), .p (.int n), .u] = .ok (rng 0 n.toNat) [.r d, .p (manD m), .p (.int n), .u] := iRg_at rfl hb
  refine ⟨ds, d', ?_, q2, h4, hl.symm⟩
  simp -dsimp [ev__law_any_code, fnD, bd__law_any_code, hit, q1, hj, -gJoin, -iRg_ap, -List.map_map]
/-! ### codes are codes -/
theorem in_digits : ∀ m < 10, ∀ d < m, (decide ((48 + d) ∈ (cutS "012345678" none (some ((m : Nat) : Int))).cps.toList)) = true := by decide +kernel
theorem need_code_ok {m : Man} {ds : List Nat} (h : ManOk m) (hd : Digs m ds) (hl : ds.length ≤ 30) : ev_need_code [manD m, .str (codeS ds)] = .ok .non .non := by
  have hm := mul_small h.c h.r
  have e1 : mulOk m.c m.r = true := mulOk_r (by have := h.r; omega) (by have := h.r; omega)
  obtain ⟨n, hn⟩ := Int.eq_ofNat_of_zero_le (show 0 ≤ m.c * m.r by omega)
  have key : ev_are_digits [.str (codeS ds), .int (m.c * m.r)] = .ok (.bl true) .non := by
    have k := compL_map (g := gN 2) (t := tYs) (f := eOp gIn (eVar 2) (eSl (eC (.str "012345678")) oNo (oPt (eVar 1)))) (vs := [2]) [.p (.str (codeS ds)), .p (.int (m.c * m.r)), .u] trueF (ds.map fun d => D.str (dig d)) []
      (fun x hx => by
        obtain ⟨d, hd', rfl⟩ := List.mem_map.mp hx
        have hdn : d < n := by have := hd d hd'; omega
        have z := in_digits n (by omega) d hdn
        have z2 : gIn (.str (dig d)) (.str (cutS "012345678" none (some (m.c * m.r)))) = some (.bl true) := by
          rw [hn]
          simp only [gIn, gInB]
          rw [if_pos (show (dig d).length = 1 from rfl)]
          show some (D.bl (decide ((48 + d) ∈ (cutS "012345678" none (some ((n : Nat) : Int))).cps.toList))) = _
          rw [z]
        have z3 : (Str.ofString "012345678").length ≤ 100000 := by decide +kernel
        exact ⟨_, rfl, rfl, by simp -dsimp [z2, z3, LIM, trueF], by simp⟩) (by simp [LIM]; omega)
    rw [List.nil_append] at k
    have hit : iE (eVar 0) [.p (.str (codeS ds)), .p (.int (m.c * m.r)), .u] = .ok (ds.map fun d => D.str (dig d)) [.p (.str (codeS ds)), .p (.int (m.c * m.r)), .u] := by
      simp -dsimp [codeS_it, -itD]
    simp -dsimp [ev_are_digits, fnD, bd_are_digits, hit, k, blL_true, all_true, -iE_ap, -List.map_map]
  unfold manD
  simp -dsimp [ev_need_code, fnD, bd_need_code, ev_a_code, bd_a_code, at3_0, at3_1, e1, key, codeS_len, hl, LIM, show ds.length ≤ 100000 by omega, show (ds.length : Int) ≤ 30 by omega]
end CM

namespace CM
open PySem PySem.Spec PyProof.Rows L2 DL
/-! ### patterns behind codes, places -/
def patN (m : Man) (p : Nat) : List Cell := m.pats.getD p []
def cellN (m : Man) (p d : Nat) : Cell := (patN m p).getD d ((0, 0), 0)
def nx (m : Man) (p d : Nat) : Nat := (cellN m p d).2.toNat
def beh (m : Man) : Nat → List Nat → Nat
  | p, [] => p
  | p, d :: ds => beh m (nx m p d) ds
def plc (m : Man) : Int → Int → Nat → List Nat → Int × Int
  | x, y, _, [] => (x, y)
  | x, y, p, d :: ds => plc m (x * m.c + (cellN m p d).1.1) (y * m.r + (cellN m p d).1.2) (nx m p d) ds
theorem patN_at {m : Man} {p : Nat} (hp : p < m.pats.length) : patN m p = m.pats[p] := by unfold patN; simp [hp]
theorem patN_ok {m : Man} (h : ManOk m) {p : Nat} (hp : p < m.pats.length) : PatOk m.c m.r m.pats.length (patN m p) := by
  rw [patN_at hp]
  exact h.ok _ (List.getElem_mem hp)
theorem pat_at {m : Man} {p : Nat} (hp : p < m.pats.length) : atI (m.pats.map patD) (p : Int) = some (.tup ((patN m p).map cl)) := by
  rw [at_pat hp, patN_at hp]
  rfl
theorem cellN_mem {m : Man} (h : ManOk m) {p d : Nat} (hp : p < m.pats.length) (hd : (d : Int) < m.c * m.r) : d < (patN m p).length ∧ cellN m p d ∈ patN m p ∧ (patN m p)[d]? = some (cellN m p d) := by
  have hl := (patN_ok h hp).len
  have hd' : d < (patN m p).length := by omega
  refine ⟨hd', ?_, ?_⟩
  · unfold cellN
    simp only [List.getD_eq_getElem?_getD, List.getElem?_eq_getElem hd', Option.getD_some]
    exact List.getElem_mem hd'
  · unfold cellN
    simp only [List.getD_eq_getElem?_getD, List.getElem?_eq_getElem hd', Option.getD_some]
theorem cell_at {m : Man} (h : ManOk m) {p d : Nat} (hp : p < m.pats.length) (hd : (d : Int) < m.c * m.r) : atI ((patN m p).map cl) (d : Int) = some (.tup [.int (cellN m p d).1.1, .int (cellN m p d).1.2, .int (nx m p d : Nat)]) := by
  obtain ⟨h1, h2, h3⟩ := cellN_mem h hp hd
  have e : atI (patN m p) (d : Int) = some (cellN m p d) := by
    rw [atI_nat' h1]
    rw [List.getElem?_eq_getElem h1] at h3
    exact h3
  rw [atI_map cl e]
  have hz := ((patN_ok h hp).nxt _ h2).1
  show some (D.tup [.int (cellN m p d).1.1, .int (cellN m p d).1.2, .int (cellN m p d).2]) = _
  rw [show ((nx m p d : Nat) : Int) = (cellN m p d).2 from Int.toNat_of_nonneg hz]
theorem nx_lt {m : Man} (h : ManOk m) {p d : Nat} (hp : p < m.pats.length) (hd : (d : Int) < m.c * m.r) : nx m p d < m.pats.length := by
  obtain ⟨_, h2, _⟩ := cellN_mem h hp hd
  have hz := (patN_ok h hp).nxt _ h2
  unfold nx
  omega
theorem beh_lt {m : Man} (h : ManOk m) : ∀ (ds : List Nat) {p : Nat}, p < m.pats.length → Digs m ds → beh m p ds < m.pats.length
  | [], p, hp, _ => hp
  | d :: ds, p, hp, hd => beh_lt h ds (nx_lt h hp (hd d (List.mem_cons_self ..))) fun x hx => hd x (List.mem_cons_of_mem _ hx)
theorem beh_app (m : Man) : ∀ (ds es : List Nat) (p : Nat), beh m p (ds ++ es) = beh m (beh m p ds) es
  | [], _, _ => rfl
  | d :: ds, es, p => beh_app m ds es (nx m p d)
theorem behind_loop {m : Man} (h : ManOk m) {code : D} : ∀ (ds : List Nat) (p : Nat), p < m.pats.length → Digs m ds →
    forL (gN 3) lp_behind_1 (ds.map fun d => D.str (dig d)) [.p (manD m), .p code, .p (.int (p : Nat)), .u] = .nx [.p (manD m), .p code, .p (.int (beh m p ds : Nat)), .u]
  | [], p, _, _ => by rw [List.map_nil, forL_nil]; rfl
  | d :: ds, p, hp, hd => by
    have hd0 := hd d (List.mem_cons_self ..)
    have h10 : d < 10 := hd.ten h d (List.mem_cons_self ..)
    have k1 := pat_at hp
    have k2 := cell_at h hp hd0
    have k3 := dig_int h10
    have hg : gN 3 (.str (dig d)) [.p (manD m), .p code, .p (.int (p : Nat)), .u] = some [.p (manD m), .p code, .p (.int (p : Nat)), .p (.str (dig d))] := rfl
    have hb : lp_behind_1 [.p (manD m), .p code, .p (.int (p : Nat)), .p (.str (dig d))] = .nx [.p (manD m), .p code, .p (.int (nx m p d : Nat)), .u] := by
      unfold manD
      simp -dsimp [lp_behind_1, at3, k1, k2, k3, -gInt1, -List.map_map]
    rw [List.map_cons, forL_cons, hg, ogo_some, hb, stp_nx, behind_loop h ds (nx m p d) (nx_lt h hp hd0) fun x hx => hd x (List.mem_cons_of_mem _ hx)]
    rfl
theorem iE_code {env : Ev} {i : Nat} {ds : List Nat} (h : env[i]? = some (.p (.str (codeS ds)))) : iE (eVar i) env = .ok (ds.map fun d => D.str (dig d)) env := by
  simp -dsimp [h, codeS_it, -itD]
theorem behind_ok {m : Man} (h : ManOk m) {ds : List Nat} (hd : Digs m ds) : ev_behind [manD m, .str (codeS ds)] = .ok (.int (beh m 0 ds : Nat)) .non := by
  have k := behind_loop h (code := .str (codeS ds)) ds 0 h.n0 hd
  rw [show ((0 : Nat) : Int) = 0 from rfl] at k
  have key : bd_behind [.p (manD m), .p (.str (codeS ds)), .u, .u] = .rt (.int (beh m 0 ds : Nat)) [.p (manD m), .p (.str (codeS ds)), .p (.int (beh m 0 ds : Nat)), .u] := by
    unfold bd_behind
    rw [seq_at (e1 := [.p (manD m), .p (.str (codeS ds)), .p (.int 0), .u]) (by simp -dsimp)]
    rw [seq_at (for_at (iE_code (i := 1) rfl) k)]
    simp -dsimp
  simp -dsimp [ev_behind, fnD, key]
theorem law_behind_ok {m : Man} (h : ManOk m) {ds : List Nat} (hd : Digs m ds) : ev__law_behind [manD m, .str (codeS ds)] = .ok (.int (beh m 0 ds : Nat)) .non := behind_ok h hd
theorem place_loop {m : Man} (h : ManOk m) {code : D} : ∀ (ds : List Nat) (p : Nat) (x y : Int), p < m.pats.length → Digs m ds →
    forL (gN 5) lp_place_in_1 (ds.map fun d => D.str (dig d)) [.p (manD m), .p (.int (p : Nat)), .p code, .p (.int x), .p (.int y), .u, .u] = .nx [.p (manD m), .p (.int (beh m p ds : Nat)), .p code, .p (.int (plc m x y p ds).1), .p (.int (plc m x y p ds).2), .u, .u]
  | [], p, x, y, _, _ => by rw [List.map_nil, forL_nil]; rfl
  | d :: ds, p, x, y, hp, hd => by
    have hd0 := hd d (List.mem_cons_self ..)
    have h10 : d < 10 := hd.ten h d (List.mem_cons_self ..)
    have k1 := pat_at hp
    have k2 := cell_at h hp hd0
    have k3 := dig_int h10
    have e1 : mulOk x m.c = true := mulOk_r (by have := h.c; omega) (by have := h.c; omega)
    have e2 : mulOk y m.r = true := mulOk_r (by have := h.r; omega) (by have := h.r; omega)
    have hg : gN 5 (.str (dig d)) [.p (manD m), .p (.int (p : Nat)), .p code, .p (.int x), .p (.int y), .u, .u] = some [.p (manD m), .p (.int (p : Nat)), .p code, .p (.int x), .p (.int y), .p (.str (dig d)), .u] := rfl
    have hb : lp_place_in_1 [.p (manD m), .p (.int (p : Nat)), .p code, .p (.int x), .p (.int y), .p (.str (dig d)), .u] = .nx [.p (manD m), .p (.int (nx m p d : Nat)), .p code, .p (.int (x * m.c + (cellN m p d).1.1)), .p (.int (y * m.r + (cellN m p d).1.2)), .u, .u] := by
      unfold manD
      simp -dsimp [lp_place_in_1, at3, at3_0, at3_1, k1, k2, k3, e1, e2, -gInt1, -List.map_map]
    rw [List.map_cons, forL_cons, hg, ogo_some, hb, stp_nx, place_loop h ds (nx m p d) _ _ (nx_lt h hp hd0) fun x hx => hd x (List.mem_cons_of_mem _ hx)]
    rfl
theorem place_in_ok {m : Man} (h : ManOk m) {p : Nat} {ds : List Nat} (hp : p < m.pats.length) (hd : Digs m ds) : ev_place_in [manD m, .int (p : Nat), .str (codeS ds)] = .ok (posD (plc m 0 0 p ds)) .non := by
  have k := place_loop h (code := .str (codeS ds)) ds p 0 0 hp hd
  have key : bd_place_in [.p (manD m), .p (.int (p : Nat)), .p (.str (codeS ds)), .u, .u, .u, .u] = .rt (posD (plc m 0 0 p ds)) [.p (manD m), .p (.int (beh m p ds : Nat)), .p (.str (codeS ds)), .p (.int (plc m 0 0 p ds).1), .p (.int (plc m 0 0 p ds).2), .u, .u] := by
    unfold bd_place_in
    rw [seq_at (e1 := [.p (manD m), .p (.int (p : Nat)), .p (.str (codeS ds)), .p (.int 0), .p (.int 0), .u, .u]) (by simp -dsimp [LIM])]
    rw [seq_at (for_at (iE_code (i := 2) rfl) k)]
    simp -dsimp [LIM, posD]
  simp -dsimp [ev_place_in, fnD, key]
theorem place_of_ok {m : Man} (h : ManOk m) {ds : List Nat} (hd : Digs m ds) (hl : ds.length ≤ 30) : ev_place_of [manD m, .str (codeS ds)] = .ok (posD (plc m 0 0 0 ds)) .non := by
  have k := place_in_ok h (p := 0) h.n0 hd
  simp -dsimp [ev_place_of, fnD, bd_place_of, need_manner_ok h, need_code_ok h hd hl]
  have k' : ev_place_in [manD m, .int 0, .str (codeS ds)] = .ok (posD (plc m 0 0 0 ds)) .non := k
  simp -dsimp [k']
end CM

namespace CM
open PySem PySem.Spec PyProof.Rows L2 DL
/-! ### kinds of patterns -/
theorem deqL_map {α : Type} [DecidableEq α] {f : α → D} (hf : ∀ a b, deq (f a) (f b) = decide (a = b)) : ∀ l m : List α, deqL (l.map f) (m.map f) = decide (l = m)
  | [], [] => rfl
  | [], b :: m => rfl
  | a :: l, [] => rfl
  | a :: l, b :: m => by
    rw [List.map_cons, List.map_cons]
    simp only [deqL, hf, deqL_map hf l m]
    by_cases h : a = b <;> by_cases h2 : l = m <;> simp [h, h2]
def intD (n : Nat) : D := .int (n : Nat)
theorem deq_int (a b : Nat) : deq (intD a) (intD b) = decide (a = b) := by
  unfold intD
  simp only [deq]
  by_cases h : a = b
  · simp [h]
  · simp [h]
    omega
def firstIx {α : Type} [DecidableEq α] (a : α) : List α → Nat
  | [] => 0
  | x :: r => if x = a then 0 else firstIx a r + 1
theorem firstIx_spec {α : Type} [DecidableEq α] {a : α} : ∀ {l : List α}, a ∈ l → firstIx a l < l.length ∧ l[firstIx a l]? = some a ∧ ∀ j : Nat, j < firstIx a l → l[j]? ≠ some a
  | [], h => by cases h
  | x :: r, h => by
    unfold firstIx
    by_cases hx : x = a
    · rw [if_pos hx]
      exact ⟨by simp, by simp [hx], fun j hj => absurd hj (Nat.not_lt_zero _)⟩
    · rw [if_neg hx]
      have hr : a ∈ r := by
        rcases List.mem_cons.mp h with e | h
        · exact absurd e.symm hx
        · exact h
      obtain ⟨h1, h2, h3⟩ := firstIx_spec hr
      refine ⟨by simpa using h1, by simpa using h2, fun j hj => ?_⟩
      cases j with
      | zero => simpa using hx
      | succ j => simpa using h3 j (by omega)
theorem idxD_map {α : Type} [DecidableEq α] {f : α → D} (hf : ∀ a b, deq (f a) (f b) = decide (a = b)) {a : α} : ∀ {l : List α}, a ∈ l → idxD (f a) (l.map f) = some (firstIx a l)
  | [], h => by cases h
  | x :: r, h => by
    rw [List.map_cons]
    simp only [idxD, hf, decide_eq_true_eq, firstIx]
    by_cases hx : x = a
    · simp [hx]
    · have hr : a ∈ r := by
        rcases List.mem_cons.mp h with e | h
        · exact absurd e.symm hx
        · exact h
      rw [if_neg hx, if_neg hx, idxD_map hf hr]
      rfl
def canon {α : Type} [DecidableEq α] (l : List α) : List Nat := l.map fun a => firstIx a l
theorem canon_len {α : Type} [DecidableEq α] (l : List α) : (canon l).length = l.length := List.length_map ..
theorem canon_eq {α : Type} [DecidableEq α] {l : List α} {i j : Nat} (hi : i < l.length) (hj : j < l.length) : (canon l)[i]? = (canon l)[j]? ↔ l[i]? = l[j]? := by
  unfold canon
  rw [List.getElem?_map, List.getElem?_map, List.getElem?_eq_getElem hi, List.getElem?_eq_getElem hj]
  simp only [Option.map_some, Option.some.injEq]
  constructor
  · intro h
    have h1 := (firstIx_spec (List.getElem_mem hi)).2.1
    have h2 := (firstIx_spec (List.getElem_mem hj)).2.1
    rw [h] at h1
    rw [h1] at h2
    exact Option.some.inj h2
  · intro h
    rw [h]
/-- the first of its kind -/
theorem canon_first {α : Type} [DecidableEq α] {l : List α} {i : Nat} (hi : i < l.length) : ∃ r, (canon l)[i]? = some r ∧ r < l.length ∧ r ≤ i ∧ l[r]? = l[i]? ∧ ∀ j : Nat, j < r → l[j]? ≠ l[i]? := by
  obtain ⟨h1, h2, h3⟩ := firstIx_spec (List.getElem_mem hi)
  refine ⟨firstIx l[i] l, ?_, h1, ?_, ?_, fun j hj e => h3 j hj ?_⟩
  · unfold canon
    rw [List.getElem?_map, List.getElem?_eq_getElem hi]
    rfl
  · rcases Nat.lt_or_ge i (firstIx l[i] l) with h | h
    · exact absurd (List.getElem?_eq_getElem hi) (h3 i h)
    · exact h
  · rw [h2, List.getElem?_eq_getElem hi]
  · rw [e, List.getElem?_eq_getElem hi]
/-- xs.index(x) for x in xs -/
def idF (l : List D) (y : D) : D := match idxD y l with
  | some j => intD j
  | none => .non
theorem idF_map {α : Type} [DecidableEq α] {f : α → D} (hf : ∀ a b, deq (f a) (f b) = decide (a = b)) (l : List α) : (l.map f).map (idF (l.map f)) = (canon l).map intD := by
  unfold canon
  rw [List.map_map, List.map_map]
  refine List.map_congr_left fun a ha => ?_
  show idF (l.map f) (f a) = _
  unfold idF
  rw [idxD_map hf ha]
  rfl
mutual
theorem sh_mono : ∀ (n : Nat) (d : D), sh n d = true → sh (n + 1) d = true
  | n, .non, _ => rfl
  | n, .bl _, _ => rfl
  | n, .int _, _ => rfl
  | n, .str x, h => by cases n <;> exact h
  | 0, .tup l, h => by cases h
  | 0, .lst l, h => by cases h
  | n + 1, .tup l, h => shL_mono n l h
  | n + 1, .lst l, h => shL_mono n l h
  | n, .scr _, h => by cases n <;> cases h
  | n, .ty _, h => by cases n <;> cases h
  | n, .dcK _, h => by cases n <;> cases h
  | n, .dcT _, h => by cases n <;> cases h
theorem shL_mono : ∀ (n : Nat) (l : List D), shL n l = true → shL (n + 1) l = true
  | n, [], _ => by cases n <;> rfl
  | n, d :: l, h => by
    have h' : sh n d = true ∧ shL n l = true := by simpa [shL] using h
    have a := sh_mono n d h'.1
    have b := shL_mono n l h'.2
    simp [shL, a, b]
end
theorem index_comp {env : Ev} {i j : Nat} {X : List D} (hij : i ≠ j) (hj : j < env.length) (he : env[j]? = some .u) (hx : env[i]? = some (.p (.lst X))) (hs : shL 7 X = true) (hm : ∀ x ∈ X, ∃ k, idxD x X = some k) (hl : X.length ≤ 1000) :
    compL (gN j) tYs (eIndex (eVar i) (aCons (eVar j) aNil)) [j] X env [] = .ok (X.map (idF X)) env := by
  have k := compL_map (g := gN j) (t := tYs) (f := eIndex (eVar i) (aCons (eVar j) aNil)) (vs := [j]) env (idF X) X []
    (fun x hxm => by
      obtain ⟨k, hk⟩ := hm x hxm
      have h1 : (env.set j (.p x))[i]? = some (.p (.lst X)) := by rw [List.getElem?_set_ne (Ne.symm hij), hx]
      have h2 : (env.set j (.p x))[j]? = some (.p x) := by rw [List.getElem?_set_self hj]
      have hsx : sh 8 x = true := by
        have := shL_all hs x hxm
        exact sh_mono _ _ this
      have hg : gIndex (.lst X) x = some (idF X x) := by
        unfold gIndex idF
        simp only [hs, hsx, and_self, if_true, hk, Option.map_some, intD]
      refine ⟨env.set j (.p x), rfl, rfl, by simp -dsimp [h1, h2, hg], ?_⟩
      show (env.set j (.p x)).set j .u = env
      rw [List.set_set]
      apply List.ext_getElem?
      intro n
      by_cases hn : j = n
      · subst hn; rw [List.getElem?_set_self hj, he]
      · rw [List.getElem?_set_ne hn]) (by simp [LIM]; omega)
  rw [List.nil_append] at k
  exact k
end CM

namespace CM
open PySem PySem.Spec PyProof.Rows L2 DL
/-! ### the kinds: the comprehensions -/
def posOf (p : List Cell) : List Pos2 := p.map (·.1)
def pf (l : List Pos2) : D := .lst (l.map posD)
theorem deq_posD (a b : Pos2) : deq (posD a) (posD b) = decide (a = b) := by
  obtain ⟨a1, a2⟩ := a
  obtain ⟨b1, b2⟩ := b
  simp only [posD, deq, deqL, Bool.and_true]
  by_cases h1 : a1 = b1 <;> by_cases h2 : a2 = b2 <;> simp [h1, h2]
theorem deq_pf (a b : List Pos2) : deq (pf a) (pf b) = decide (a = b) := by
  unfold pf
  simp only [deq]
  exact deqL_map deq_posD a b
theorem sh_pf (a : List Pos2) (n : Nat) : sh (n + 2) (pf a) = true := by
  unfold pf
  show shL (n + 1) (a.map posD) = true
  refine (shL_iff _ _).mpr fun d hd => ?_
  obtain ⟨p, _, rfl⟩ := List.mem_map.mp hd
  rfl
theorem cut_cl (q : Cell) : cutL [D.int q.1.1, .int q.1.2, .int q.2] none (some 2) = [D.int q.1.1, .int q.1.2] := by
  obtain ⟨⟨a, b⟩, c⟩ := q
  rfl
theorem lc_at {it : Ev → Rx (List D)} {g : D → Ev → Option Ev} {t : Ev → Rx Bool} {f : Ev → Rx LV} {vs : List Nat} {env e1 e2 : Ev} {items l : List D} (h : it env = .ok items e1) (hn : noLv vs e1 = true) (hf : fgt vs e1 = e1) (hr : rst vs e1 e2 = e2) (hc : compL g t f vs items e1 [] = .ok l e2) : eLc it g t f vs env = .ok (.lst l) e2 := by
  unfold eLc
  rw [h, Rx.bind_ok]
  unfold lcL
  rw [if_pos hn, hf, hc]
  show Rx.ok (D.lst l) (rst vs e1 e2) = _
  rw [hr]
def ev9 (m : Man) (a b c d e f g h : Sl) : Ev := [.p (manD m), a, b, c, d, e, f, g, h]
theorem comp0 (m : Man) (p : List Cell) (h9 : p.length ≤ 9) : compL (gN 6) tYs (eSl (eVar 6) oNo (oPt (eC (.int 2)))) [6] (p.map cl) (ev9 m .u .u .u (.p (patD p)) .u .u .u .u) [] = .ok ((posOf p).map posD) (ev9 m .u .u .u (.p (patD p)) .u .u .u .u) := by
  have k := compL_map (g := gN 6) (t := tYs) (f := eSl (eVar 6) oNo (oPt (eC (.int 2)))) (vs := [6]) (ev9 m .u .u .u (.p (patD p)) .u .u .u .u) (fun d => match d with
      | .tup (a :: b :: _) => .tup [a, b]
      | x => x) (p.map cl) []
    (fun d hd => by
      obtain ⟨q, _, rfl⟩ := List.mem_map.mp hd
      have := cut_cl q
      exact ⟨_, rfl, rfl, by simp -dsimp [ev9, cl, this, LIM], rfl⟩) (by simp [LIM]; omega)
  rw [k, List.nil_append]
  unfold posOf
  rw [List.map_map, List.map_map]
  rfl
theorem comp1 (m : Man) (hm : ManOk m) : compL (gN 4) tYs (eFr (eLc (iE (eVar 4)) (gN 6) tYs (eSl (eVar 6) oNo (oPt (eC (.int 2)))) [6])) [4] (m.pats.map patD) (ev9 m .u .u .u .u .u .u .u .u) [] = .ok ((m.pats.map posOf).map pf) (ev9 m .u .u .u .u .u .u .u .u) := by
  have k := compL_map (g := gN 4) (t := tYs) (f := eFr (eLc (iE (eVar 4)) (gN 6) tYs (eSl (eVar 6) oNo (oPt (eC (.int 2)))) [6])) (vs := [4]) (ev9 m .u .u .u .u .u .u .u .u) (fun d => match d with
      | .tup l => .lst (l.map fun d => match d with
        | .tup (a :: b :: _) => .tup [a, b]
        | x => x)
      | x => x) (m.pats.map patD) []
    (fun d hd => by
      obtain ⟨p, hp, rfl⟩ := List.mem_map.mp hd
      have := comp0 m p (pat_len hm hp).1
      have e : (posOf p).map posD = (p.map cl).map fun d => match d with
        | .tup (a :: b :: _) => .tup [a, b]
        | x => x := by
        unfold posOf
        rw [List.map_map, List.map_map]
        rfl
      rw [e] at this
      have hit : iE (eVar 4) (ev9 m .u .u .u (.p (patD p)) .u .u .u .u) = .ok (p.map cl) (ev9 m .u .u .u (.p (patD p)) .u .u .u .u) := by
        simp -dsimp [ev9, patD]
      refine ⟨ev9 m .u .u .u (.p (patD p)) .u .u .u .u, rfl, rfl, ?_, rfl⟩
      rw [eFr_ap, lc_at hit rfl rfl rfl this, bdK_ok]
      rfl) (by simp [LIM]; have := hm.n6; omega)
  rw [k, List.nil_append, List.map_map, List.map_map]
  congr 1
  refine List.map_congr_left fun p hp => ?_
  show D.lst _ = pf (posOf p)
  unfold pf posOf
  rw [List.map_map, List.map_map]
  rfl
/-! ### the keys -/
def key (m : Man) (k : List Nat) (i : Nat) : Nat × List Nat := (k.getD i 0, (patN m i).map fun q => k.getD q.2.toNat 0)
def keys (m : Man) (k : List Nat) : List (Nat × List Nat) := (List.range m.pats.length).map (key m k)
def kf (x : Nat × List Nat) : D := .tup [intD x.1, .lst (x.2.map intD)]
theorem deq_kf (a b : Nat × List Nat) : deq (kf a) (kf b) = decide (a = b) := by
  obtain ⟨a1, a2⟩ := a
  obtain ⟨b1, b2⟩ := b
  simp only [kf, deq, deqL, Bool.and_true, deq_int, deqL_map deq_int]
  by_cases h1 : a1 = b1 <;> by_cases h2 : a2 = b2 <;> simp [h1, h2]
theorem sh_ints (l : List Nat) (n : Nat) : shL n (l.map intD) = true := (shL_iff _ _).mpr fun d hd => by
  obtain ⟨p, _, rfl⟩ := List.mem_map.mp hd
  cases n <;> rfl
theorem sh_kf (a : Nat × List Nat) (n : Nat) : sh (n + 2) (kf a) = true := by
  show (sh (n + 1) (intD a.1) && (shL n (a.2.map intD) && true)) = true
  rw [sh_ints]
  rfl
theorem at_int {k : List Nat} {i : Nat} (h : i < k.length) : atI (k.map intD) (i : Int) = some (intD (k.getD i 0)) := by
  rw [atI_map intD (atI_nat' h)]
  simp [h]
theorem comp2 {m : Man} (hm : ManOk m) {k : List Nat} (hk : k.length = m.pats.length) {p : List Cell} (hp : p ∈ m.pats) {b c : Sl} {i : Nat} : compL (gN 6) tYs (eOp gIx (eVar 1) (eOp gIx (eVar 6) (eC (.int 2)))) [6] (p.map cl) (ev9 m (.p (.lst (k.map intD))) b c (.p (patD p)) .u .u (.p (.int (i : Nat))) .u) [] = .ok ((p.map fun q => k.getD q.2.toNat 0).map intD) (ev9 m (.p (.lst (k.map intD))) b c (.p (patD p)) .u .u (.p (.int (i : Nat))) .u) := by
  have K := compL_map (g := gN 6) (t := tYs) (f := eOp gIx (eVar 1) (eOp gIx (eVar 6) (eC (.int 2)))) (vs := [6]) (ev9 m (.p (.lst (k.map intD))) b c (.p (patD p)) .u .u (.p (.int (i : Nat))) .u) (fun d => match d with
      | .tup [_, _, .int z] => intD (k.getD z.toNat 0)
      | x => x) (p.map cl) []
    (fun d hd => by
      obtain ⟨q, hq, rfl⟩ := List.mem_map.mp hd
      have hn := ((hm.ok p hp).nxt q hq)
      obtain ⟨z, hz⟩ := Int.eq_ofNat_of_zero_le hn.1
      have := at_int (k := k) (i := z) (by omega)
      rw [← hz] at this
      have e : z = q.2.toNat := by omega
      rw [e] at this
      exact ⟨_, rfl, rfl, by simp -dsimp [ev9, cl, at3, this, LIM], rfl⟩) (by simp [LIM]; have := (pat_len hm hp).1; omega)
  rw [K, List.nil_append, List.map_map, List.map_map]
  rfl
theorem enum_pats (m : Man) : enumL 0 (m.pats.map patD) = (List.range m.pats.length).map fun i => D.tup [.int (i : Nat), patD (patN m i)] := by
  apply List.ext_getElem?
  intro j
  by_cases h : j < m.pats.length
  · have h1 : j < (enumL 0 (m.pats.map patD)).length := by rw [enumL_len, List.length_map]; exact h
    obtain ⟨x, hx, he⟩ := enumL_get (m.pats.map patD) 0 j _ (List.getElem?_eq_getElem h1)
    rw [List.getElem?_eq_getElem h1, he]
    rw [List.getElem?_map, List.getElem?_range h, Nat.zero_add]
    rw [List.getElem?_map, List.getElem?_eq_getElem h] at hx
    cases hx
    rw [← patN_at h]
    rfl
  · rw [List.getElem?_eq_none (by rw [enumL_len, List.length_map]; omega), List.getElem?_eq_none (by rw [List.length_map, List.length_range]; omega)]
theorem comp3 {m : Man} (hm : ManOk m) {k : List Nat} (hk : k.length = m.pats.length) {b c : Sl} : compL (gT 2 (gsCons (gN 7) (gsCons (gN 4) gsNil))) tYs (eTup (aCons (eOp gIx (eVar 1) (eVar 7)) (aCons (eFr (eLc (iE (eVar 4)) (gN 6) tYs (eOp gIx (eVar 1) (eOp gIx (eVar 6) (eC (.int 2)))) [6])) aNil))) [7, 4] (enumL 0 (m.pats.map patD)) (ev9 m (.p (.lst (k.map intD))) b c .u .u .u .u .u) [] = .ok ((keys m k).map kf) (ev9 m (.p (.lst (k.map intD))) b c .u .u .u .u .u) := by
  have K := compL_map (g := gT 2 (gsCons (gN 7) (gsCons (gN 4) gsNil))) (t := tYs) (f := eTup (aCons (eOp gIx (eVar 1) (eVar 7)) (aCons (eFr (eLc (iE (eVar 4)) (gN 6) tYs (eOp gIx (eVar 1) (eOp gIx (eVar 6) (eC (.int 2)))) [6])) aNil))) (vs := [7, 4]) (ev9 m (.p (.lst (k.map intD))) b c .u .u .u .u .u) (fun d => match d with
      | .tup [.int i, _] => kf (key m k i.toNat)
      | x => x) (enumL 0 (m.pats.map patD)) []
    (fun d hd => by
      rw [enum_pats] at hd
      obtain ⟨i, hi, rfl⟩ := List.mem_map.mp hd
      have hi := List.mem_range.mp hi
      have hp : patN m i ∈ m.pats := by rw [patN_at hi]; exact List.getElem_mem hi
      have k2 := comp2 hm hk hp (b := b) (c := c) (i := i)
      have k1 := at_int (k := k) (i := i) (by omega)
      have hit : iE (eVar 4) (ev9 m (.p (.lst (k.map intD))) b c (.p (patD (patN m i))) .u .u (.p (.int (i : Nat))) .u) = .ok ((patN m i).map cl) (ev9 m (.p (.lst (k.map intD))) b c (.p (patD (patN m i))) .u .u (.p (.int (i : Nat))) .u) := by
        simp -dsimp [ev9, patD]
      have hfr : eFr (eLc (iE (eVar 4)) (gN 6) tYs (eOp gIx (eVar 1) (eOp gIx (eVar 6) (eC (.int 2)))) [6]) (ev9 m (.p (.lst (k.map intD))) b c (.p (patD (patN m i))) .u .u (.p (.int (i : Nat))) .u) = .ok (.v (.lst (((patN m i).map fun q => k.getD q.2.toNat 0).map intD))) (ev9 m (.p (.lst (k.map intD))) b c (.p (patD (patN m i))) .u .u (.p (.int (i : Nat))) .u) := by
        rw [eFr_ap, lc_at hit rfl rfl rfl k2, bdK_ok]
      have hix : eOp gIx (eVar 1) (eVar 7) (ev9 m (.p (.lst (k.map intD))) b c (.p (patD (patN m i))) .u .u (.p (.int (i : Nat))) .u) = .ok (.v (intD (k.getD i 0))) (ev9 m (.p (.lst (k.map intD))) b c (.p (patD (patN m i))) .u .u (.p (.int (i : Nat))) .u) := by
        simp -dsimp [ev9, k1, -List.map_map]
      refine ⟨ev9 m (.p (.lst (k.map intD))) b c (.p (patD (patN m i))) .u .u (.p (.int (i : Nat))) .u, rfl, rfl, ?_, rfl⟩
      simp -dsimp [hfr, hix, -eFr_ap, -eOp_ap, LIM, -List.map_map]
      rfl) (by rw [enumL_len]; simp [LIM]; have := hm.n6; omega)
  rw [K, List.nil_append, enum_pats]
  unfold keys
  rw [List.map_map, List.map_map]
  rfl
end CM

namespace CM
open PySem PySem.Spec PyProof.Rows L2 DL
/-! ### the kinds: what they say -/
def A (m : Man) : Nat → Nat → Nat → Prop
  | 0, i, j => posOf (patN m i) = posOf (patN m j)
  | s + 1, i, j => A m s i j ∧ ∀ d : Nat, (d : Int) < m.c * m.r → A m s (nx m i d) (nx m j d)
theorem A_mono {m : Man} {i j : Nat} : ∀ {s t : Nat}, s ≤ t → A m t i j → A m s i j
  | s, 0, h, a => by rw [Nat.le_zero.mp h]; exact a
  | s, t + 1, h, a => by
    rcases Nat.lt_or_ge s (t + 1) with h2 | h2
    · exact A_mono (by omega) a.1
    · rw [show s = t + 1 by omega]; exact a
/-- nothing new after s -/
def Stab (m : Man) (s : Nat) : Prop := ∀ i j, i < m.pats.length → j < m.pats.length → A m s i j → A m (s + 1) i j
theorem stab_all {m : Man} (hm : ManOk m) {s : Nat} (h : Stab m s) : ∀ t i j, i < m.pats.length → j < m.pats.length → A m s i j → A m (s + t) i j
  | 0, i, j, _, _, a => a
  | t + 1, i, j, hi, hj, a => by
    have b := h i j hi hj a
    exact ⟨stab_all hm h t i j hi hj a, fun d hd => stab_all hm h t _ _ (nx_lt hm hi hd) (nx_lt hm hj hd) (b.2 d hd)⟩
theorem stab_iff {m : Man} (hm : ManOk m) {s t : Nat} (h : Stab m s) (hs : s ≤ t) {i j : Nat} (hi : i < m.pats.length) (hj : j < m.pats.length) : A m s i j ↔ A m t i j := by
  refine ⟨fun a => ?_, A_mono hs⟩
  have := stab_all hm h (t - s) i j hi hj a
  rwa [show s + (t - s) = t by omega] at this
/-! ### counting -/
def rc (k : List Nat) : Nat → Nat
  | 0 => 0
  | n + 1 => rc k n + if k.getD n 0 = n then 1 else 0
theorem rc_le (k : List Nat) : ∀ n, rc k n ≤ n
  | 0 => Nat.le_refl _
  | n + 1 => by have := rc_le k n; unfold rc; split <;> omega
theorem rc_mono {k k' : List Nat} : ∀ {n : Nat}, (∀ i < n, k.getD i 0 = i → k'.getD i 0 = i) → rc k n ≤ rc k' n
  | 0, _ => Nat.le_refl _
  | n + 1, h => by
    have a := rc_mono (n := n) fun i hi => h i (by omega)
    have b := h n (by omega)
    unfold rc
    split
    · rename_i c; rw [if_pos (b c)]; omega
    · split <;> omega
theorem rc_lt {k k' : List Nat} : ∀ {n : Nat}, (∀ i < n, k.getD i 0 = i → k'.getD i 0 = i) → ∀ {j : Nat}, j < n → k'.getD j 0 = j → k.getD j 0 ≠ j → rc k n < rc k' n
  | 0, _, j, hj, _, _ => absurd hj (Nat.not_lt_zero _)
  | n + 1, h, j, hj, h1, h2 => by
    unfold rc
    by_cases e : j = n
    · subst e
      have a := rc_mono (n := j) fun i hi => h i (by omega)
      rw [if_pos h1, if_neg h2]
      omega
    · have a := rc_lt (n := n) (fun i hi => h i (by omega)) (j := j) (by omega) h1 h2
      have b := h n (by omega)
      split
      · rename_i c; rw [if_pos (b c)]; omega
      · split <;> omega
/-! ### canon -/
theorem canon_get {α : Type} [DecidableEq α] {l : List α} {i j : Nat} (hi : i < l.length) (hj : j < l.length) : (canon l).getD i 0 = (canon l).getD j 0 ↔ l[i]? = l[j]? := by
  rw [← canon_eq hi hj]
  have h1 : i < (canon l).length := by rw [canon_len]; exact hi
  have h2 : j < (canon l).length := by rw [canon_len]; exact hj
  simp [h1, h2]
theorem canon_rep {α : Type} [DecidableEq α] {l : List α} {i : Nat} (hi : i < l.length) : (canon l).getD i 0 ≤ i ∧ (canon l).getD ((canon l).getD i 0) 0 = (canon l).getD i 0 := by
  obtain ⟨r, h1, h2, h3, h4, h5⟩ := canon_first hi
  have e : (canon l).getD i 0 = r := by simp [h1]
  rw [e]
  refine ⟨h3, ?_⟩
  rw [← e, canon_get (by rw [e]; exact h2) hi, e]
  exact h4
structure KOk (m : Man) (s : Nat) (k : List Nat) : Prop where
  len : k.length = m.pats.length
  rep : ∀ i < m.pats.length, k.getD i 0 ≤ i ∧ k.getD (k.getD i 0) 0 = k.getD i 0
  rel : ∀ i j, i < m.pats.length → j < m.pats.length → (k.getD i 0 = k.getD j 0 ↔ A m s i j)
theorem kok_0 {m : Man} : KOk m 0 (canon (m.pats.map posOf)) := by
  have hl : (m.pats.map posOf).length = m.pats.length := List.length_map ..
  refine ⟨by rw [canon_len, hl], fun i hi => canon_rep (by rw [hl]; exact hi), fun i j hi hj => ?_⟩
  rw [canon_get (by rw [hl]; exact hi) (by rw [hl]; exact hj)]
  simp only [List.getElem?_map, List.getElem?_eq_getElem hi, List.getElem?_eq_getElem hj, Option.map_some, Option.some.injEq]
  unfold A
  rw [patN_at hi, patN_at hj]
theorem map_eq_iff {α β : Type} {f : α → β} {z : α} {p q : List α} {L : Nat} (hp : p.length = L) (hq : q.length = L) : p.map f = q.map f ↔ ∀ d < L, f (p.getD d z) = f (q.getD d z) := by
  constructor
  · intro h d hd
    have := congrArg (fun l => l[d]?) h
    simp only [List.getElem?_map] at this
    rw [List.getElem?_eq_getElem (by omega), List.getElem?_eq_getElem (by omega)] at this
    simp only [Option.map_some, Option.some.injEq] at this
    simp only [List.getD_eq_getElem?_getD]
    rw [List.getElem?_eq_getElem (by omega), List.getElem?_eq_getElem (by omega)]
    exact this
  · intro h
    apply List.ext_getElem?
    intro d
    by_cases hd : d < L
    · have := h d hd
      simp only [List.getD_eq_getElem?_getD] at this
      rw [List.getElem?_eq_getElem (by omega), List.getElem?_eq_getElem (by omega)] at this
      simp only [List.getElem?_map]
      rw [List.getElem?_eq_getElem (by omega), List.getElem?_eq_getElem (by omega)]
      exact congrArg some this
    · rw [List.getElem?_eq_none (by rw [List.length_map]; omega), List.getElem?_eq_none (by rw [List.length_map]; omega)]
theorem kok_s {m : Man} (hm : ManOk m) {s : Nat} {k : List Nat} (h : KOk m s k) : KOk m (s + 1) (canon (keys m k)) := by
  have hl : (keys m k).length = m.pats.length := by unfold keys; rw [List.length_map, List.length_range]
  refine ⟨by rw [canon_len, hl], fun i hi => canon_rep (by rw [hl]; exact hi), fun i j hi hj => ?_⟩
  rw [canon_get (by rw [hl]; exact hi) (by rw [hl]; exact hj)]
  unfold keys
  simp only [List.getElem?_map, List.getElem?_range hi, List.getElem?_range hj, Option.map_some, Option.some.injEq]
  unfold key
  rw [Prod.mk.injEq, h.rel i j hi hj]
  have li := (patN_ok hm hi).len
  have lj := (patN_ok hm hj).len
  rw [map_eq_iff (z := ((0, 0), 0)) (L := (patN m i).length) rfl (by omega)]
  show _ ↔ (A m s i j ∧ ∀ d : Nat, (d : Int) < m.c * m.r → A m s (nx m i d) (nx m j d))
  refine and_congr_right fun _ => ?_
  constructor
  · intro g d hd
    have := g d (by omega)
    exact (h.rel _ _ (nx_lt hm hi hd) (nx_lt hm hj hd)).mp this
  · intro g d hd
    have hd' : (d : Int) < m.c * m.r := by omega
    exact (h.rel _ _ (nx_lt hm hi hd') (nx_lt hm hj hd')).mpr (g d hd')
theorem kok_next {m : Man} (hm : ManOk m) {s : Nat} {k k' : List Nat} (h : KOk m s k) (h' : KOk m (s + 1) k') (hne : k' ≠ k) : rc k m.pats.length < rc k' m.pats.length := by
  have up : ∀ i < m.pats.length, k.getD i 0 = i → k'.getD i 0 = i := fun i hi e => by
    obtain ⟨r1, r2⟩ := h'.rep i hi
    have hr : k'.getD i 0 < m.pats.length := by omega
    have a := (h'.rel _ i hr hi).mp r2
    have b := (h.rel _ i hr hi).mpr a.1
    have c := (h.rep _ hr).1
    omega
  have ex : ∃ j, j < m.pats.length ∧ k'.getD j 0 = j ∧ k.getD j 0 ≠ j := by
    apply Classical.byContradiction
    intro no
    apply hne
    apply List.ext_getElem?
    intro i
    by_cases hi : i < m.pats.length
    · obtain ⟨r1, r2⟩ := h'.rep i hi
      have hr : k'.getD i 0 < m.pats.length := by omega
      have a := (h'.rel _ i hr hi).mp r2
      have b := (h.rel _ i hr hi).mpr a.1
      have c : k.getD (k'.getD i 0) 0 = k'.getD i 0 := by
        apply Classical.byContradiction
        intro hc
        exact no ⟨_, hr, r2, hc⟩
      have e : k'.getD i 0 = k.getD i 0 := by omega
      have l1 := h'.len
      have l2 := h.len
      simp only [List.getD_eq_getElem?_getD] at e
      rw [List.getElem?_eq_getElem (by omega), List.getElem?_eq_getElem (by omega)] at e ⊢
      exact congrArg some e
    · have l1 := h'.len
      have l2 := h.len
      rw [List.getElem?_eq_none (by omega), List.getElem?_eq_none (by omega)]
  obtain ⟨j, h1, h2, h3⟩ := ex
  exact rc_lt up h1 h2 h3
theorem kok_stab {m : Man} (hm : ManOk m) {s : Nat} {k : List Nat} (h : KOk m s k) (h' : KOk m (s + 1) k) : Stab m s := fun i j hi hj a =>
  (h'.rel i j hi hj).mp ((h.rel i j hi hj).mpr a)
end CM

namespace CM
open PySem PySem.Spec PyProof.Rows L2 DL
/-! ### the kinds: the program's loop -/
theorem idx_self {α : Type} [DecidableEq α] {f : α → D} (hf : ∀ a b, deq (f a) (f b) = decide (a = b)) (l : List α) : ∀ x ∈ l.map f, ∃ k, idxD x (l.map f) = some k := fun x hx => by
  obtain ⟨a, ha, rfl⟩ := List.mem_map.mp hx
  exact ⟨_, idxD_map hf ha⟩
theorem comp_index {α : Type} [DecidableEq α] {f : α → D} (hf : ∀ a b, deq (f a) (f b) = decide (a = b)) (hs : ∀ a, sh 7 (f a) = true) {env : Ev} {i j : Nat} {l : List α} (hij : i ≠ j) (hj : j < env.length) (he : env[j]? = some .u) (hx : env[i]? = some (.p (.lst (l.map f)))) (hl : l.length ≤ 1000) :
    compL (gN j) tYs (eIndex (eVar i) (aCons (eVar j) aNil)) [j] (l.map f) env [] = .ok ((canon l).map intD) env := by
  rw [index_comp hij hj he hx ((shL_iff _ _).mpr fun d hd => by
    obtain ⟨a, _, rfl⟩ := List.mem_map.mp hd
    exact hs a) (idx_self hf l) (by rw [List.length_map]; exact hl), idF_map hf]
theorem body_kinds {m : Man} (hm : ManOk m) {k : List Nat} (hk : k.length = m.pats.length) :
    lp_kinds_1 (ev9 m (.p (.lst (k.map intD))) .u .u .u .u .u .u .u) = if canon (keys m k) = k then .rt (.lst (k.map intD)) (ev9 m (.p (.lst (k.map intD))) (.p (.lst ((keys m k).map kf))) (.p (.lst (k.map intD))) .u .u .u .u .u) else .nx (ev9 m (.p (.lst ((canon (keys m k)).map intD))) .u .u .u .u .u .u .u) := by
  have hkl : (keys m k).length = m.pats.length := by unfold keys; rw [List.length_map, List.length_range]
  have n6 := hm.n6
  have k1 := comp3 hm hk (b := .u) (c := .u)
  have k2 := comp_index deq_kf (fun a => sh_kf a 5) (env := ev9 m (.p (.lst (k.map intD))) (.p (.lst ((keys m k).map kf))) .u .u .u .u .u .u) (i := 2) (j := 8) (l := keys m k) (by decide) (by show 8 < 9; decide) rfl rfl (by omega)
  have hq : gEq (.lst ((canon (keys m k)).map intD)) (.lst (k.map intD)) = some (.bl (decide (canon (keys m k) = k))) := by
    rw [gEq_sh (show sh 8 (.lst _) = true from sh_ints _ 7) (show sh 8 (.lst _) = true from sh_ints _ 7)]
    simp only [deq]
    rw [deqL_map deq_int]
  have s1 : sSet 2 (eFr (eLc (iEn (aCons (eOp gIx (eVar 0) (eC (.int 2))) aNil)) (gT 2 (gsCons (gN 7) (gsCons (gN 4) gsNil))) tYs (eTup (aCons (eOp gIx (eVar 1) (eVar 7)) (aCons (eFr (eLc (iE (eVar 4)) (gN 6) tYs (eOp gIx (eVar 1) (eOp gIx (eVar 6) (eC (.int 2)))) [6])) aNil))) [7, 4])) (ev9 m (.p (.lst (k.map intD))) .u .u .u .u .u .u .u) = .nx (ev9 m (.p (.lst (k.map intD))) (.p (.lst ((keys m k).map kf))) .u .u .u .u .u .u) := by
    have hit : iEn (aCons (eOp gIx (eVar 0) (eC (.int 2))) aNil) (ev9 m (.p (.lst (k.map intD))) .u .u .u .u .u .u .u) = .ok (enumL 0 (m.pats.map patD)) (ev9 m (.p (.lst (k.map intD))) .u .u .u .u .u .u .u) := by
      simp -dsimp [ev9, manD, at3, -List.map_map]
    unfold sSet
    rw [eFr_ap, lc_at hit rfl rfl rfl k1, bdK_ok]
    rfl
  have s2 : sFzA 3 (sSetO 3 (eLc (iE (eVar 2)) (gN 8) tYs (eIndex (eVar 2) (aCons (eVar 8) aNil)) [8])) (ev9 m (.p (.lst (k.map intD))) (.p (.lst ((keys m k).map kf))) .u .u .u .u .u .u) = .nx (ev9 m (.p (.lst (k.map intD))) (.p (.lst ((keys m k).map kf))) (.p (.lst ((canon (keys m k)).map intD))) .u .u .u .u .u) := by
    have hit : iE (eVar 2) (ev9 m (.p (.lst (k.map intD))) (.p (.lst ((keys m k).map kf))) .u .u .u .u .u .u) = .ok ((keys m k).map kf) (ev9 m (.p (.lst (k.map intD))) (.p (.lst ((keys m k).map kf))) .u .u .u .u .u .u) := by
      simp -dsimp [ev9, -List.map_map]
    unfold sFzA sSetO
    rw [lc_at hit rfl rfl rfl k2, Rx.out_ok]
    rfl
  unfold lp_kinds_1
  rw [sAf_ap, seq_at s1, seq_at s2]
  by_cases hc : canon (keys m k) = k
  · rw [if_pos hc]
    rw [hc] at hq
    simp -dsimp [ev9, hq, hc, -List.map_map]
  · rw [if_neg hc]
    simp -dsimp [ev9, hq, hc, -List.map_map]
theorem kinds_loop {m : Man} (hm : ManOk m) : ∀ (w s : Nat) (k : List Nat), KOk m s k → s + 1 ≤ rc k m.pats.length → m.pats.length < rc k m.pats.length + w →
    ∃ s' k' e, whL lp_kinds_1_t lp_kinds_1 w (ev9 m (.p (.lst (k.map intD))) .u .u .u .u .u .u .u) = .rt (.lst (k'.map intD)) e ∧ KOk m s' k' ∧ Stab m s' ∧ s' < m.pats.length
  | 0, s, k, h, h1, h2 => by have := rc_le k m.pats.length; omega
  | w + 1, s, k, h, h1, h2 => by
    have ht : lp_kinds_1_t (ev9 m (.p (.lst (k.map intD))) .u .u .u .u .u .u .u) = .ok true (ev9 m (.p (.lst (k.map intD))) .u .u .u .u .u .u .u) := by
      simp -dsimp [lp_kinds_1_t]
    have hb := body_kinds hm h.len
    have h' := kok_s hm h
    rw [whL_succ, ht, otK_ok, if_pos rfl, hb]
    by_cases hc : canon (keys m k) = k
    · rw [if_pos hc, stp_rt]
      rw [hc] at h'
      have := rc_le k m.pats.length
      exact ⟨s, k, _, rfl, h, kok_stab hm h h', by omega⟩
    · rw [if_neg hc, stp_nx]
      have := kok_next hm h h' hc
      exact kinds_loop hm w (s + 1) _ h' (by omega) (by omega)
theorem rc_pos {m : Man} {k : List Nat} (h : KOk m 0 k) (hn : 0 < m.pats.length) : 1 ≤ rc k m.pats.length := by
  have e : k.getD 0 0 = 0 := Nat.le_zero.mp (h.rep 0 hn).1
  have : ∀ n, 0 < n → 1 ≤ rc k n := fun n => by
    induction n with
    | zero => intro h; exact absurd h (Nat.lt_irrefl _)
    | succ n ih =>
      intro _
      unfold rc
      by_cases hz : n = 0
      · subst hz; rw [if_pos e]; omega
      · have := ih (by omega); omega
  exact this _ hn
theorem kinds_ok {m : Man} (hm : ManOk m) : ∃ s k, ev_kinds [manD m] = .ok (.lst (k.map intD)) .non ∧ KOk m s k ∧ Stab m s ∧ s < m.pats.length := by
  have n6 := hm.n6
  have hl : (m.pats.map posOf).length = m.pats.length := List.length_map ..
  have k1 := comp1 m hm
  have k2 := comp_index deq_pf (fun a => sh_pf a 5) (env := ev9 m (.p (.lst ((m.pats.map posOf).map pf))) .u .u .u .u .u .u .u) (i := 1) (j := 5) (l := m.pats.map posOf) (by decide) (by show 5 < 9; decide) rfl rfl (by omega)
  have s1 : sSet 1 (eFr (eLc (iE (eOp gIx (eVar 0) (eC (.int 2)))) (gN 4) tYs (eFr (eLc (iE (eVar 4)) (gN 6) tYs (eSl (eVar 6) oNo (oPt (eC (.int 2)))) [6])) [4])) (ev9 m .u .u .u .u .u .u .u .u) = .nx (ev9 m (.p (.lst ((m.pats.map posOf).map pf))) .u .u .u .u .u .u .u) := by
    have hit : iE (eOp gIx (eVar 0) (eC (.int 2))) (ev9 m .u .u .u .u .u .u .u .u) = .ok (m.pats.map patD) (ev9 m .u .u .u .u .u .u .u .u) := by
      simp -dsimp [ev9, manD, at3, -List.map_map]
    unfold sSet
    rw [eFr_ap, lc_at hit rfl rfl rfl k1, bdK_ok]
    rfl
  have s2 : sSet 1 (eFr (eLc (iE (eVar 1)) (gN 5) tYs (eIndex (eVar 1) (aCons (eVar 5) aNil)) [5])) (ev9 m (.p (.lst ((m.pats.map posOf).map pf))) .u .u .u .u .u .u .u) = .nx (ev9 m (.p (.lst ((canon (m.pats.map posOf)).map intD))) .u .u .u .u .u .u .u) := by
    have hit : iE (eVar 1) (ev9 m (.p (.lst ((m.pats.map posOf).map pf))) .u .u .u .u .u .u .u) = .ok ((m.pats.map posOf).map pf) (ev9 m (.p (.lst ((m.pats.map posOf).map pf))) .u .u .u .u .u .u .u) := by
      simp -dsimp [ev9, -List.map_map]
    unfold sSet
    rw [eFr_ap, lc_at hit rfl rfl rfl k2, bdK_ok]
    rfl
  obtain ⟨s, k, e, h1, h2, h3, h4⟩ := kinds_loop hm LIM 0 _ (kok_0 (m := m)) (rc_pos kok_0 hm.n0) (by have : LIM = 100000 := rfl; omega)
  refine ⟨s, k, ?_, h2, h3, h4⟩
  have key : bd_kinds (ev9 m .u .u .u .u .u .u .u .u) = .rt (.lst (k.map intD)) e := by
    unfold bd_kinds
    rw [seq_at s1, seq_at s2, h1]
  have key' : bd_kinds [.p (manD m), .u, .u, .u, .u, .u, .u, .u, .u] = .rt (.lst (k.map intD)) e := key
  simp -dsimp [ev_kinds, fnD, key', -List.map_map]
end CM

namespace CM
open PySem PySem.Spec PyProof.Rows L2 DL
theorem nodup_len {α : Type} [DecidableEq α] : ∀ {l m : List α}, l.Nodup → (∀ x ∈ l, x ∈ m) → l.length ≤ m.length
  | [], _, _, _ => Nat.zero_le _
  | x :: r, m, h, hs => by
    obtain ⟨h1, h2⟩ := List.nodup_cons.mp h
    have hx := hs x (List.mem_cons_self ..)
    have := nodup_len (m := m.erase x) h2 fun y hy => by
      have hne : y ≠ x := fun e => h1 (by rw [← e]; exact hy)
      exact (List.mem_erase_of_ne hne).mpr (hs y (List.mem_cons_of_mem _ hy))
    rw [List.length_erase_of_mem hx] at this
    have hp := List.length_pos_of_mem hx
    rw [List.length_cons]
    omega
def sq6 : List Pos2 := (List.range 6).flatMap fun (i : Nat) => (List.range 6).map fun (j : Nat) => ((i : Int), (j : Int))
def Ok2 (m : Man) (L : List Pos2) : Prop := ∀ w ∈ L, (0 ≤ w.1 ∧ w.1 < m.pats.length) ∧ (0 ≤ w.2 ∧ w.2 < m.pats.length)
theorem ok2_len {m : Man} (hm : ManOk m) {L : List Pos2} (h : Ok2 m L) (hn : L.Nodup) : L.length ≤ 36 := by
  have : sq6.length = 36 := by decide
  rw [← this]
  refine nodup_len hn fun w hw => ?_
  obtain ⟨⟨a1, a2⟩, b1, b2⟩ := h w hw
  obtain ⟨i, hi⟩ := Int.eq_ofNat_of_zero_le a1
  obtain ⟨j, hj⟩ := Int.eq_ofNat_of_zero_le b1
  have := hm.n6
  unfold sq6
  refine List.mem_flatMap.mpr ⟨i, List.mem_range.mpr (by omega), List.mem_map.mpr ⟨j, List.mem_range.mpr (by omega), ?_⟩⟩
  obtain ⟨x, y⟩ := w
  simp only at hi hj
  rw [hi, hj]
/-! ### rests as the law sees them -/
def B (m : Man) : Nat → Nat → Nat → Prop
  | 0, _, _ => True
  | t + 1, i, j => posOf (patN m i) = posOf (patN m j) ∧ ∀ d : Nat, (d : Int) < m.c * m.r → B m t (nx m i d) (nx m j d)
theorem B_pred {m : Man} : ∀ {t i j : Nat}, B m (t + 1) i j → B m t i j
  | 0, _, _, _ => trivial
  | t + 1, i, j, h => ⟨h.1, fun d hd => B_pred (h.2 d hd)⟩
theorem A_B {m : Man} : ∀ {s i j : Nat}, A m s i j ↔ B m (s + 1) i j
  | 0, i, j => ⟨fun h => ⟨h, fun _ _ => trivial⟩, fun h => h.1⟩
  | s + 1, i, j => by
    constructor
    · intro h
      exact ⟨(A_B.mp h.1).1, fun d hd => A_B.mp (h.2 d hd)⟩
    · intro h
      exact ⟨A_B.mpr (B_pred h), fun d hd => A_B.mpr (h.2 d hd)⟩
def addP : List (Cell × Cell) → List Pos2 → Option (List Pos2)
  | [], S => some S
  | (q, t) :: r, S => if q.1 ≠ t.1 then none else if (q.2, t.2) ∈ S then addP r S else addP r (S ++ [(q.2, t.2)])
theorem addP_spec : ∀ (X : List (Cell × Cell)) (S : List Pos2), (addP X S = none ∧ ∃ x ∈ X, x.1.1 ≠ x.2.1) ∨ (∃ S', addP X S = some S' ∧ (∀ x ∈ X, x.1.1 = x.2.1) ∧ (S.Nodup → S'.Nodup) ∧ ∀ w, w ∈ S' ↔ w ∈ S ∨ ∃ x ∈ X, w = (x.1.2, x.2.2))
  | [], S => .inr ⟨S, rfl, (fun x hx => by cases hx), _root_.id, fun w => by simp⟩
  | (q, t) :: r, S => by
    unfold addP
    by_cases h1 : q.1 = t.1
    · rw [if_neg (fun z => z h1)]
      by_cases h2 : (q.2, t.2) ∈ S
      · rw [if_pos h2]
        rcases addP_spec r S with ⟨e, x, hx, hne⟩ | ⟨S', e, a, b, c⟩
        · exact .inl ⟨e, x, List.mem_cons_of_mem _ hx, hne⟩
        · refine .inr ⟨S', e, fun x hx => ?_, b, fun w => ?_⟩
          · rcases List.mem_cons.mp hx with rfl | hx
            · exact h1
            · exact a x hx
          · rw [c w]
            constructor
            · rintro (h | ⟨x, hx, e⟩)
              · exact .inl h
              · exact .inr ⟨x, List.mem_cons_of_mem _ hx, e⟩
            · rintro (h | ⟨x, hx, e⟩)
              · exact .inl h
              · rcases List.mem_cons.mp hx with rfl | hx
                · exact .inl (e ▸ h2)
                · exact .inr ⟨x, hx, e⟩
      · rw [if_neg h2]
        rcases addP_spec r (S ++ [(q.2, t.2)]) with ⟨e, x, hx, hne⟩ | ⟨S', e, a, b, c⟩
        · exact .inl ⟨e, x, List.mem_cons_of_mem _ hx, hne⟩
        · refine .inr ⟨S', e, fun x hx => ?_, fun hn => b ?_, fun w => ?_⟩
          · rcases List.mem_cons.mp hx with rfl | hx
            · exact h1
            · exact a x hx
          · exact List.nodup_append.mpr ⟨hn, by simp, fun a ha b hb e => h2 (by rw [List.mem_singleton.mp hb] at e; exact e ▸ ha)⟩
          · rw [c w, List.mem_append, List.mem_singleton]
            constructor
            · rintro ((h | h) | ⟨x, hx, e⟩)
              · exact .inl h
              · exact .inr ⟨_, List.mem_cons_self .., h⟩
              · exact .inr ⟨x, List.mem_cons_of_mem _ hx, e⟩
            · rintro (h | ⟨x, hx, e⟩)
              · exact .inl (.inl h)
              · rcases List.mem_cons.mp hx with rfl | hx
                · exact .inl (.inr e)
                · exact .inr ⟨x, hx, e⟩
    · rw [if_pos h1]
      exact .inl ⟨rfl, _, List.mem_cons_self .., h1⟩
/-! ### the program's rounds -/
def e11 (m : Man) (i j k : D) (L : List Pos2) (r : Sl) (l a b c d : Sl) : Ev := [.p (manD m), .p i, .p j, .p k, .p (.lst (L.map posD)), r, l, a, b, c, d]
theorem zip_cl : ∀ p q : List Cell, zipL (p.map cl) (q.map cl) = (p.zip q).map fun x => D.tup [cl x.1, cl x.2]
  | [], q => by simp [zipL]
  | a :: p, [] => by simp [zipL]
  | a :: p, b :: q => by simp [zipL, zip_cl p q]
theorem same_cells {m : Man} {i j k : D} {L : List Pos2} {r a b : Sl} : ∀ (X : List (Cell × Cell)) (S : List Pos2), S.length + X.length ≤ 1000 →
    (addP X S = none → ∃ e, forL (gT 2 (gsCons (gN 9) (gsCons (gN 10) gsNil))) lp__law_same_rests_1 (X.map fun x => D.tup [cl x.1, cl x.2]) (e11 m i j k L r (.o (.lst (S.map posD))) a b .u .u) = .rt (.bl false) e) ∧
    (∀ S', addP X S = some S' → forL (gT 2 (gsCons (gN 9) (gsCons (gN 10) gsNil))) lp__law_same_rests_1 (X.map fun x => D.tup [cl x.1, cl x.2]) (e11 m i j k L r (.o (.lst (S.map posD))) a b .u .u) = .nx (e11 m i j k L r (.o (.lst (S'.map posD))) a b .u .u))
  | [], S, _ => ⟨fun h => by simp [addP] at h, fun S' h => by simp only [addP, Option.some.injEq] at h; subst h; rw [List.map_nil, forL_nil]⟩
  | (q, t) :: X, S, hl => by
    rw [List.length_cons] at hl
    have n1 : gNe (.tup [.int q.1.1, .int q.1.2]) (.tup [.int t.1.1, .int t.1.2]) = some (.bl (!decide (q.1 = t.1))) := gNe_pos q.1 t.1
    have n2 : gNin (.tup [.int q.2, .int t.2]) (.lst (S.map posD)) = some (.bl (!decide ((q.2, t.2) ∈ S))) := gNin_pos (q.2, t.2) S
    have hg : gT 2 (gsCons (gN 9) (gsCons (gN 10) gsNil)) (.tup [cl q, cl t]) (e11 m i j k L r (.o (.lst (S.map posD))) a b .u .u) = some (e11 m i j k L r (.o (.lst (S.map posD))) a b (.p (cl q)) (.p (cl t))) := by
      simp -dsimp [e11]
    rw [List.map_cons, forL_cons, hg, ogo_some]
    unfold addP
    by_cases h1 : q.1 = t.1
    · rw [if_neg (fun z => z h1)]
      rw [h1] at n1
      by_cases h2 : (q.2, t.2) ∈ S
      · rw [if_pos h2]
        have hb : lp__law_same_rests_1 (e11 m i j k L r (.o (.lst (S.map posD))) a b (.p (cl q)) (.p (cl t))) = .nx (e11 m i j k L r (.o (.lst (S.map posD))) a b .u .u) := by
          simp -dsimp [lp__law_same_rests_1, e11, cl, cutL3, n1, n2, h1, h2, at3, LIM, -List.map_map]
        rw [hb, stp_nx]
        exact same_cells X S (by omega)
      · rw [if_neg h2]
        have hb : lp__law_same_rests_1 (e11 m i j k L r (.o (.lst (S.map posD))) a b (.p (cl q)) (.p (cl t))) = .nx (e11 m i j k L r (.o (.lst ((S ++ [(q.2, t.2)]).map posD))) a b .u .u) := by
          simp -dsimp [lp__law_same_rests_1, e11, cl, cutL3, n1, n2, h1, h2, at3, LIM, posD, show S.length + 1 ≤ 100000 by omega, show S.length < 100000 by omega, -List.map_map]
        rw [hb, stp_nx]
        exact same_cells X _ (by rw [List.length_append, List.length_singleton]; omega)
    · rw [if_pos h1]
      have hb : ∃ e, lp__law_same_rests_1 (e11 m i j k L r (.o (.lst (S.map posD))) a b (.p (cl q)) (.p (cl t))) = .rt (.bl false) e := by
        refine ⟨e11 m i j k L r (.o (.lst (S.map posD))) a b (.p (cl q)) (.p (cl t)), ?_⟩
        simp -dsimp [lp__law_same_rests_1, e11, cl, cutL3, n1, h1, at3, LIM, -List.map_map]
      obtain ⟨e, hb⟩ := hb
      rw [hb, stp_rt]
      exact ⟨fun _ => ⟨e, rfl⟩, fun S' h => by cases h⟩
end CM

namespace CM
open PySem PySem.Spec PyProof.Rows L2 DL
def c0 : Cell := ((0, 0), 0)
theorem mem_zip_iff {p q : List Cell} (h : p.length = q.length) {x : Cell × Cell} : x ∈ p.zip q ↔ ∃ d < p.length, x = (p.getD d c0, q.getD d c0) := by
  rw [List.mem_iff_getElem?]
  constructor
  · rintro ⟨d, hd⟩
    obtain ⟨h1, h2⟩ := List.getElem?_zip_eq_some.mp hd
    have hl : d < p.length := (List.getElem?_eq_some_iff.mp h1).1
    refine ⟨d, hl, ?_⟩
    simp only [List.getD_eq_getElem?_getD, h1, h2, Option.getD_some]
  · rintro ⟨d, hd, rfl⟩
    refine ⟨d, List.getElem?_zip_eq_some.mpr ⟨?_, ?_⟩⟩
    · simp only [List.getD_eq_getElem?_getD, List.getElem?_eq_getElem hd, Option.getD_some]
    · simp only [List.getD_eq_getElem?_getD, List.getElem?_eq_getElem (h ▸ hd : d < q.length), Option.getD_some]
theorem posOf_iff {p q : List Cell} (h : p.length = q.length) : posOf p = posOf q ↔ ∀ x ∈ p.zip q, x.1.1 = x.2.1 := by
  unfold posOf
  rw [map_eq_iff (z := c0) (L := p.length) rfl h.symm]
  constructor
  · intro g x hx
    obtain ⟨d, hd, rfl⟩ := (mem_zip_iff h).mp hx
    exact g d hd
  · intro g d hd
    exact g _ ((mem_zip_iff h).mpr ⟨d, hd, rfl⟩)
theorem nx_cast {m : Man} (hm : ManOk m) {p d : Nat} (hp : p < m.pats.length) (hd : (d : Int) < m.c * m.r) : ((nx m p d : Nat) : Int) = ((patN m p).getD d c0).2 := by
  obtain ⟨_, h2, _⟩ := cellN_mem hm hp hd
  have hz := (patN_ok hm hp).nxt _ h2
  exact Int.toNat_of_nonneg hz.1
/-- one pair of patterns -/
theorem pair_spec {m : Man} (hm : ManOk m) {u v : Nat} (hu : u < m.pats.length) (hv : v < m.pats.length) (S : List Pos2) : (addP ((patN m u).zip (patN m v)) S = none ∧ posOf (patN m u) ≠ posOf (patN m v)) ∨
    (∃ S', addP ((patN m u).zip (patN m v)) S = some S' ∧ posOf (patN m u) = posOf (patN m v) ∧ (S.Nodup → S'.Nodup) ∧ ∀ w, w ∈ S' ↔ w ∈ S ∨ ∃ d : Nat, (d : Int) < m.c * m.r ∧ w = (((nx m u d : Nat) : Int), ((nx m v d : Nat) : Int))) := by
  have lu := (patN_ok hm hu).len
  have lv := (patN_ok hm hv).len
  have hl : (patN m u).length = (patN m v).length := by omega
  rcases addP_spec ((patN m u).zip (patN m v)) S with ⟨e, x, hx, hne⟩ | ⟨S', e, a, b, c⟩
  · exact .inl ⟨e, fun h => hne ((posOf_iff hl).mp h x hx)⟩
  · refine .inr ⟨S', e, (posOf_iff hl).mpr a, b, fun w => ?_⟩
    rw [c w]
    refine or_congr_right ?_
    constructor
    · rintro ⟨x, hx, rfl⟩
      obtain ⟨d, hd, rfl⟩ := (mem_zip_iff hl).mp hx
      have hd' : (d : Int) < m.c * m.r := by omega
      exact ⟨d, hd', by rw [nx_cast hm hu hd', nx_cast hm hv hd']⟩
    · rintro ⟨d, hd, rfl⟩
      refine ⟨_, (mem_zip_iff hl).mpr ⟨d, by omega, rfl⟩, ?_⟩
      rw [nx_cast hm hu hd, nx_cast hm hv hd]
theorem nx_ok2 {m : Man} (hm : ManOk m) {u v d : Nat} (hu : u < m.pats.length) (hv : v < m.pats.length) (hd : (d : Int) < m.c * m.r) : (0 ≤ ((nx m u d : Nat) : Int) ∧ ((nx m u d : Nat) : Int) < m.pats.length) ∧ (0 ≤ ((nx m v d : Nat) : Int) ∧ ((nx m v d : Nat) : Int) < m.pats.length) := by
  have h1 := nx_lt hm hu hd
  have h2 := nx_lt hm hv hd
  omega
/-- all pairs of a round -/
theorem round_pairs {m : Man} (hm : ManOk m) {i j k : D} {L : List Pos2} {r : Sl} : ∀ (X S : List Pos2), Ok2 m X → Ok2 m S → S.Nodup →
    (∃ e, forL (gT 2 (gsCons (gN 7) (gsCons (gN 8) gsNil))) lp__law_same_rests_2 (X.map posD) (e11 m i j k L r (.o (.lst (S.map posD))) .u .u .u .u) = .rt (.bl false) e ∧ ∃ w ∈ X, posOf (patN m w.1.toNat) ≠ posOf (patN m w.2.toNat)) ∨
    (∃ S', forL (gT 2 (gsCons (gN 7) (gsCons (gN 8) gsNil))) lp__law_same_rests_2 (X.map posD) (e11 m i j k L r (.o (.lst (S.map posD))) .u .u .u .u) = .nx (e11 m i j k L r (.o (.lst (S'.map posD))) .u .u .u .u) ∧ (∀ w ∈ X, posOf (patN m w.1.toNat) = posOf (patN m w.2.toNat)) ∧ Ok2 m S' ∧ S'.Nodup ∧
      ∀ z, z ∈ S' ↔ z ∈ S ∨ ∃ w ∈ X, ∃ d : Nat, (d : Int) < m.c * m.r ∧ z = (((nx m w.1.toNat d : Nat) : Int), ((nx m w.2.toNat d : Nat) : Int)))
  | [], S, _, hS, hn => .inr ⟨S, by rw [List.map_nil, forL_nil], (fun w hw => by cases hw), hS, hn, fun z => by simp⟩
  | (x, y) :: X, S, hX, hS, hn => by
    obtain ⟨⟨x0, x1⟩, y0, y1⟩ := hX (x, y) (List.mem_cons_self ..)
    simp only at x0 x1 y0 y1
    obtain ⟨u, rfl⟩ := Int.eq_ofNat_of_zero_le x0
    obtain ⟨v, rfl⟩ := Int.eq_ofNat_of_zero_le y0
    have hu : u < m.pats.length := by omega
    have hv : v < m.pats.length := by omega
    have lu := (patN_ok hm hu).len
    have l9 := mul_small hm.c hm.r
    have k1 := pat_at hu
    have k2 := pat_at hv
    have hlen := ok2_len hm hS hn
    have hz : (patN m u).zip (patN m v) = (patN m u).zip (patN m v) := rfl
    obtain ⟨s1, s2⟩ := same_cells (m := m) (i := i) (j := j) (k := k) (L := L) (r := r) (a := .p (.int (u : Nat))) (b := .p (.int (v : Nat))) ((patN m u).zip (patN m v)) S (by rw [List.length_zip]; omega)
    have hg : gT 2 (gsCons (gN 7) (gsCons (gN 8) gsNil)) (posD (((u : Nat) : Int), ((v : Nat) : Int))) (e11 m i j k L r (.o (.lst (S.map posD))) .u .u .u .u) = some (e11 m i j k L r (.o (.lst (S.map posD))) (.p (.int (u : Nat))) (.p (.int (v : Nat))) .u .u) := by
      simp -dsimp [e11, posD]
    have hit : iZp (aCons (eOp gIx (eOp gIx (eVar 0) (eC (.int 2))) (eVar 7)) (aCons (eOp gIx (eOp gIx (eVar 0) (eC (.int 2))) (eVar 8)) aNil)) (e11 m i j k L r (.o (.lst (S.map posD))) (.p (.int (u : Nat))) (.p (.int (v : Nat))) .u .u) = .ok (((patN m u).zip (patN m v)).map fun x => D.tup [cl x.1, cl x.2]) (e11 m i j k L r (.o (.lst (S.map posD))) (.p (.int (u : Nat))) (.p (.int (v : Nat))) .u .u) := by
      rw [← zip_cl]
      simp -dsimp [e11, manD, at3, k1, k2, -List.map_map]
    rw [List.map_cons, forL_cons, hg, ogo_some]
    rcases pair_spec hm hu hv S with ⟨p1, p2⟩ | ⟨S1, p1, p2, p3, p4⟩
    · obtain ⟨e, he⟩ := s1 p1
      have hb : lp__law_same_rests_2 (e11 m i j k L r (.o (.lst (S.map posD))) (.p (.int (u : Nat))) (.p (.int (v : Nat))) .u .u) = .rt (.bl false) e := by
        unfold lp__law_same_rests_2
        rw [sAf_ap, for_at hit he]
        rfl
      rw [hb, stp_rt]
      exact .inl ⟨e, rfl, _, List.mem_cons_self .., p2⟩
    · have hb : lp__law_same_rests_2 (e11 m i j k L r (.o (.lst (S.map posD))) (.p (.int (u : Nat))) (.p (.int (v : Nat))) .u .u) = .nx (e11 m i j k L r (.o (.lst (S1.map posD))) .u .u .u .u) := by
        unfold lp__law_same_rests_2
        rw [sAf_ap, for_at hit (s2 S1 p1)]
        rfl
      rw [hb, stp_nx]
      have o1 : Ok2 m S1 := fun w hw => by
        rcases (p4 w).mp hw with h | ⟨d, hd, rfl⟩
        · exact hS w h
        · exact nx_ok2 hm hu hv hd
      rcases round_pairs hm X S1 (fun w hw => hX w (List.mem_cons_of_mem _ hw)) o1 (p3 hn) with ⟨e, he, w, hw, hne⟩ | ⟨S', q1, q2, q3, q4, q5⟩
      · exact .inl ⟨e, he, w, List.mem_cons_of_mem _ hw, hne⟩
      · refine .inr ⟨S', q1, fun w hw => ?_, q3, q4, fun z => ?_⟩
        · rcases List.mem_cons.mp hw with rfl | hw
          · exact p2
          · exact q2 w hw
        · rw [q5 z, p4 z]
          constructor
          · rintro ((h | ⟨d, hd, e⟩) | ⟨w, hw, d, hd, e⟩)
            · exact .inl h
            · exact .inr ⟨_, List.mem_cons_self .., d, hd, e⟩
            · exact .inr ⟨w, List.mem_cons_of_mem _ hw, d, hd, e⟩
          · rintro (h | ⟨w, hw, d, hd, e⟩)
            · exact .inl (.inl h)
            · rcases List.mem_cons.mp hw with rfl | hw
              · exact .inl (.inr ⟨d, hd, e⟩)
              · exact .inr ⟨w, hw, d, hd, e⟩
def BB (m : Man) (t : Nat) (w : Pos2) : Prop := B m t w.1.toNat w.2.toNat
theorem rounds {m : Man} (hm : ManOk m) {i j k : D} : ∀ (items : List D) (L : List Pos2), Ok2 m L →
    (∃ e, forL (gN 5) lp__law_same_rests_3 items (e11 m i j k L .u .u .u .u .u .u) = .rt (.bl false) e ∧ ¬ ∀ w ∈ L, BB m items.length w) ∨
    (∃ L', forL (gN 5) lp__law_same_rests_3 items (e11 m i j k L .u .u .u .u .u .u) = .nx (e11 m i j k L' .u .u .u .u .u .u) ∧ ∀ w ∈ L, BB m items.length w)
  | [], L, _ => .inr ⟨L, by rw [forL_nil], fun w _ => trivial⟩
  | x :: items, L, hL => by
    have hg : gN 5 x (e11 m i j k L .u .u .u .u .u .u) = some (e11 m i j k L (.p x) .u .u .u .u .u) := rfl
    have hit : iE (eVar 4) (e11 m i j k L (.p x) (.o (.lst [])) .u .u .u .u) = .ok (L.map posD) (e11 m i j k L (.p x) (.o (.lst [])) .u .u .u .u) := by
      simp -dsimp [e11, -List.map_map]
    have h0 : sSetO 6 (eLst aNil) (e11 m i j k L (.p x) .u .u .u .u .u) = .nx (e11 m i j k L (.p x) (.o (.lst [])) .u .u .u .u) := by
      simp -dsimp [e11, LIM]
    rw [forL_cons, hg, ogo_some]
    rcases round_pairs hm (i := i) (j := j) (k := k) (L := L) (r := .p x) L [] hL (fun w hw => by cases hw) List.nodup_nil with ⟨e, he, w, hw, hne⟩ | ⟨S', q1, q2, q3, q4, q5⟩
    · have hb : lp__law_same_rests_3 (e11 m i j k L (.p x) .u .u .u .u .u) = .rt (.bl false) e := by
        unfold lp__law_same_rests_3
        rw [sAf_ap, seq_at h0, sSeq_ap, for_at hit he]
        rfl
      rw [hb, stp_rt]
      exact .inl ⟨e, rfl, fun h => hne (h w hw).1⟩
    · have hb : lp__law_same_rests_3 (e11 m i j k L (.p x) .u .u .u .u .u) = .nx (e11 m i j k S' .u .u .u .u .u .u) := by
        unfold lp__law_same_rests_3
        rw [sAf_ap, seq_at h0, seq_at (for_at hit q1)]
        simp -dsimp [e11, -List.map_map]
      rw [hb, stp_nx]
      have iff1 : (∀ w ∈ L, BB m (items.length + 1) w) ↔ ∀ z ∈ S', BB m items.length z := by
        constructor
        · intro h z hz
          rcases (q5 z).mp hz with h0 | ⟨w, hw, d, hd, rfl⟩
          · cases h0
          · exact (h w hw).2 d hd
        · intro h w hw
          refine ⟨q2 w hw, fun d hd => ?_⟩
          exact h _ ((q5 _).mpr (.inr ⟨w, hw, d, hd, rfl⟩))
      rw [List.length_cons]
      rcases rounds hm items S' q3 with ⟨e, he, hn⟩ | ⟨L', he, hn⟩
      · exact .inl ⟨e, he, fun h => hn (iff1.mp h)⟩
      · exact .inr ⟨L', he, iff1.mpr hn⟩
theorem same_rests_ok {m : Man} (hm : ManOk m) {u v : Nat} (hu : u < m.pats.length) (hv : v < m.pats.length) : ∃ b : Bool, ev__law_same_rests [manD m, .int (u : Nat), .int (v : Nat), .int 14] = .ok (.bl b) .non ∧ (b = true ↔ B m 14 u v) := by
  have ho : Ok2 m [(((u : Nat) : Int), ((v : Nat) : Int))] := fun w hw => by
    rw [List.mem_singleton.mp hw]
    simp only
    omega
  have h0 : sSet 4 (eFr (eLst (aCons (eTup (aCons (eVar 1) (aCons (eVar 2) aNil))) aNil))) [.p (manD m), .p (.int (u : Nat)), .p (.int (v : Nat)), .p (.int 14), .u, .u, .u, .u, .u, .u, .u] = .nx (e11 m (.int (u : Nat)) (.int (v : Nat)) (.int 14) [(((u : Nat) : Int), ((v : Nat) : Int))] .u .u .u .u .u .u) := by
    simp -dsimp [e11, LIM, posD]
  have hit : iRg (aCons (eVar 3) aNil) (e11 m (.int (u : Nat)) (.int (v : Nat)) (.int 14) [(((u : Nat) : Int), ((v : Nat) : Int))] .u .u .u .u .u .u) = .ok (rng 0 14) (e11 m (.int (u : Nat)) (.int (v : Nat)) (.int 14) [(((u : Nat) : Int), ((v : Nat) : Int))] .u .u .u .u .u .u) := iRg_at (j := 14) rfl (by decide)
  have hl : (rng 0 14).length = 14 := rng_len ..
  rcases rounds hm (i := .int (u : Nat)) (j := .int (v : Nat)) (k := .int 14) (rng 0 14) _ ho with ⟨e, he, hn⟩ | ⟨L', he, hn⟩
  · refine ⟨false, ?_, ?_⟩
    · have key : bd__law_same_rests [.p (manD m), .p (.int (u : Nat)), .p (.int (v : Nat)), .p (.int 14), .u, .u, .u, .u, .u, .u, .u] = .rt (.bl false) e := by
        unfold bd__law_same_rests
        rw [seq_at h0, sSeq_ap, for_at hit he]
        rfl
      simp -dsimp [ev__law_same_rests, fnD, key]
    · rw [hl] at hn
      constructor
      · intro h; cases h
      · intro h
        exact absurd (fun w hw => by rw [List.mem_singleton.mp hw]; exact h) hn
  · refine ⟨true, ?_, ?_⟩
    · have key : bd__law_same_rests [.p (manD m), .p (.int (u : Nat)), .p (.int (v : Nat)), .p (.int 14), .u, .u, .u, .u, .u, .u, .u] = .rt (.bl true) (e11 m (.int (u : Nat)) (.int (v : Nat)) (.int 14) L' .u .u .u .u .u .u) := by
        unfold bd__law_same_rests
        rw [seq_at h0, seq_at (for_at hit he)]
        simp -dsimp
      simp -dsimp [ev__law_same_rests, fnD, key]
    · rw [hl] at hn
      exact ⟨fun _ => hn _ (List.mem_singleton.mpr rfl), fun _ => rfl⟩
end CM

namespace CM
open PySem PySem.Spec PyProof.Rows L2 DL
theorem rests_alike_ok {m : Man} (hm : ManOk m) {a b : List Nat} (ha : Digs m a) (hb : Digs m b) (la : a.length ≤ 30) (lb : b.length ≤ 30) : ∃ z : Bool, ev_rests_alike [manD m, .str (codeS a), .str (codeS b)] = .ok (.bl z) .non ∧ (z = true ↔ B m 14 (beh m 0 a) (beh m 0 b)) := by
  obtain ⟨s, k, h1, h2, h3, h4⟩ := kinds_ok hm
  have n6 := hm.n6
  have pa := beh_lt hm a hm.n0 ha
  have pb := beh_lt hm b hm.n0 hb
  have k1 := at_int (k := k) (i := beh m 0 a) (by rw [h2.len]; exact pa)
  have k2 := at_int (k := k) (i := beh m 0 b) (by rw [h2.len]; exact pb)
  have b1 := behind_ok hm ha
  have b2 := behind_ok hm hb
  have i1 : intD (k.getD (beh m 0 a) 0) = .int ((k.getD (beh m 0 a) 0 : Nat) : Int) := rfl
  have i2 : intD (k.getD (beh m 0 b) 0) = .int ((k.getD (beh m 0 b) 0 : Nat) : Int) := rfl
  rw [i1] at k1
  rw [i2] at k2
  refine ⟨decide (((k.getD (beh m 0 a) 0 : Nat) : Int) = ((k.getD (beh m 0 b) 0 : Nat) : Int)), ?_, ?_⟩
  · simp -dsimp [ev_rests_alike, fnD, bd_rests_alike, need_manner_ok hm, need_code_ok hm ha la, need_code_ok hm hb lb, h1, b1, b2, k1, k2, -List.map_map]
  · rw [decide_eq_true_eq]
    have e := h2.rel _ _ pa pb
    rw [stab_iff hm h3 (t := 13) (by omega) pa pb, A_B] at e
    rw [← e]
    omega
/-! ### a state doubled -/
theorem gEq_int' (a b : Int) : gEq (.int a) (.int b) = some (.bl (decide (a = b))) := gEq_int a b
def ED (d : D) (m : Man) (s : Int) (found pat : Sl) (row : List Cell) (a b : Sl) : Ev := [.r d, .p (manD m), .p (.int s), found, pat, .o (.lst (row.map cl)), a, b]
theorem dbl_cells {m : Man} (hm : ManOk m) {s : Int} {found pat : Sl} : ∀ (p row : List Cell) (d : D), Src d → row.length + p.length ≤ 100 → (∀ q ∈ p, 0 ≤ q.2 ∧ q.2 < m.pats.length) →
    ∃ d' p', forL (gN 6) lp__law_doubled_1 (p.map cl) (ED d m s found pat row .u .u) = .nx (ED d' m s found pat (row ++ p') .u .u) ∧ Src d' ∧ p'.map (·.1) = p.map (·.1) ∧ ∀ q ∈ p', 0 ≤ q.2 ∧ q.2 < m.pats.length + 1
  | [], row, d, hs, _, _ => ⟨d, [], by rw [List.map_nil, forL_nil, List.append_nil], hs, rfl, fun q hq => by cases hq⟩
  | q :: p, row, d, hs, hl, hq => by
    rw [List.length_cons] at hl
    have n6 := hm.n6
    obtain ⟨q0, q1⟩ := hq q (List.mem_cons_self ..)
    have hg : gN 6 (cl q) (ED d m s found pat row .u .u) = some (ED d m s found pat row (.p (cl q)) .u) := rfl
    have key : ∃ d1 z, lp__law_doubled_1 (ED d m s found pat row (.p (cl q)) .u) = .nx (ED d1 m s found pat (row ++ [(q.1, z)]) .u .u) ∧ Src d1 ∧ 0 ≤ z ∧ z < (m.pats.length : Int) + 1 := by
      by_cases h1 : q.2 = s
      · obtain ⟨w, d1, a1, a2, a3, a4⟩ := pick_ok (m := 2) hs (by omega) (by omega)
        by_cases hw : w = 0
        · refine ⟨d1, (m.pats.length : Int), ?_, a2, by omega, by omega⟩
          have e : manD m = .tup [.int m.c, .int m.r, .tup (m.pats.map patD)] := rfl
          simp -dsimp [lp__law_doubled_1, ED, e, cl, cutL3, at3, h1, a1, hw, LIM, show row.length < 100000 by omega, show row.length + 1 ≤ 100000 by omega, show m.pats.length ≤ 100000 by omega, -List.map_map]
        · refine ⟨d1, q.2, ?_, a2, by omega, by omega⟩
          have e : manD m = .tup [.int m.c, .int m.r, .tup (m.pats.map patD)] := rfl
          simp -dsimp [lp__law_doubled_1, ED, e, cl, cutL3, at3, h1, a1, hw, LIM, show row.length < 100000 by omega, show row.length + 1 ≤ 100000 by omega, show m.pats.length ≤ 100000 by omega, -List.map_map]
      · refine ⟨d, q.2, ?_, hs, by omega, by omega⟩
        have e : manD m = .tup [.int m.c, .int m.r, .tup (m.pats.map patD)] := rfl
        simp -dsimp [lp__law_doubled_1, ED, e, cl, cutL3, at3, h1, LIM, show row.length < 100000 by omega, show row.length + 1 ≤ 100000 by omega, show m.pats.length ≤ 100000 by omega, -List.map_map]
    obtain ⟨d1, z, k1, k2, k3, k4⟩ := key
    obtain ⟨d', p', r1, r2, r3, r4⟩ := dbl_cells hm (s := s) (found := found) (pat := pat) p (row ++ [(q.1, z)]) d1 k2 (by rw [List.length_append, List.length_singleton]; omega) fun x hx => hq x (List.mem_cons_of_mem _ hx)
    refine ⟨d', (q.1, z) :: p', ?_, r2, by rw [List.map_cons, List.map_cons, r3], fun x hx => ?_⟩
    · rw [List.map_cons, forL_cons, hg, ogo_some, k1, stp_nx, r1, List.append_assoc]
      rfl
    · rcases List.mem_cons.mp hx with rfl | hx
      · exact ⟨k3, k4⟩
      · exact r4 x hx
end CM

namespace CM
open PySem PySem.Spec PyProof.Rows L2 DL
theorem dbl_pats {m : Man} (hm : ManOk m) {s : Int} : ∀ (X : List (List Cell)) (found : List (List Cell)) (d : D), Src d → found.length + X.length ≤ 100 → (∀ p ∈ X, PatOk m.c m.r m.pats.length p) → (∀ p ∈ found, PatOk m.c m.r (m.pats.length + 1) p) →
    ∃ (d' : D) (found' : List (List Cell)), forL (gN 4) lp__law_doubled_2 (X.map patD) [.r d, .p (manD m), .p (.int s), .o (.lst (found.map patD)), .u, .u, .u, .u] = .nx [.r d', .p (manD m), .p (.int s), .o (.lst (found'.map patD)), .u, .u, .u, .u] ∧ Src d' ∧ found'.length = found.length + X.length ∧ ∀ p ∈ found', PatOk m.c m.r (m.pats.length + 1) p
  | [], found, d, hs, _, _, hf => ⟨d, found, by rw [List.map_nil, forL_nil], hs, rfl, hf⟩
  | p :: X, found, d, hs, hl, hX, hf => by
    rw [List.length_cons] at hl
    have hp := hX p (List.mem_cons_self ..)
    have l9 := mul_small hm.c hm.r
    have hpl := hp.len
    obtain ⟨d1, p', r1, r2, r3, r4⟩ := dbl_cells hm (s := s) (found := .o (.lst (found.map patD))) (pat := .p (patD p)) p [] d hs (by rw [List.length_nil]; omega) hp.nxt
    have okp : PatOk m.c m.r (m.pats.length + 1) p' := by
      have hlen : p'.length = p.length := by
        have := congrArg List.length r3
        rwa [List.length_map, List.length_map] at this
      refine ⟨by rw [hlen]; exact hp.len, fun q hq => ?_, fun q hq => ?_, by rw [r3]; exact hp.nd⟩
      · have : q.1 ∈ p.map (·.1) := r3 ▸ List.mem_map.mpr ⟨q, hq, rfl⟩
        obtain ⟨q2, h2, e2⟩ := List.mem_map.mp this
        rw [← e2]
        exact hp.pos q2 h2
      · have := r4 q hq
        omega
    have hg : gN 4 (patD p) [.r d, .p (manD m), .p (.int s), .o (.lst (found.map patD)), .u, .u, .u, .u] = some [.r d, .p (manD m), .p (.int s), .o (.lst (found.map patD)), .p (patD p), .u, .u, .u] := rfl
    have h0 : sSetO 5 (eLst aNil) [.r d, .p (manD m), .p (.int s), .o (.lst (found.map patD)), .p (patD p), .u, .u, .u] = .nx (ED d m s (.o (.lst (found.map patD))) (.p (patD p)) [] .u .u) := by
      simp -dsimp [ED, LIM, -List.map_map]
    have hit : iE (eVar 4) (ED d m s (.o (.lst (found.map patD))) (.p (patD p)) [] .u .u) = .ok (p.map cl) (ED d m s (.o (.lst (found.map patD))) (.p (patD p)) [] .u .u) := by
      simp -dsimp [ED, patD, -List.map_map]
    have hb : lp__law_doubled_2 [.r d, .p (manD m), .p (.int s), .o (.lst (found.map patD)), .p (patD p), .u, .u, .u] = .nx [.r d1, .p (manD m), .p (.int s), .o (.lst ((found ++ [p']).map patD)), .u, .u, .u, .u] := by
      unfold lp__law_doubled_2
      rw [sAf_ap, seq_at h0, seq_at (for_at hit r1), List.nil_append]
      simp -dsimp [ED, patD, LIM, show found.length < 100000 by omega, -List.map_map]
    obtain ⟨d', found', q1, q2, q3, q4⟩ := dbl_pats hm (s := s) X (found ++ [p']) d1 r2 (by rw [List.length_append, List.length_singleton]; omega) (fun x hx => hX x (List.mem_cons_of_mem _ hx)) fun x hx => by
      rcases List.mem_append.mp hx with hx | hx
      · exact hf x hx
      · rw [List.mem_singleton.mp hx]; exact okp
    refine ⟨d', found', ?_, q2, by rw [q3, List.length_append, List.length_singleton, List.length_cons]; omega, q4⟩
    rw [List.map_cons, forL_cons, hg, ogo_some, hb, stp_nx, q1]
theorem doubled_ok {m : Man} {d : D} (hs : Src d) (hm : ManOk m) : ∃ m' d', ev__law_doubled [d, manD m] = .ok (manD m') d' ∧ Src d' ∧ ManOk m' ∧ m'.c = m.c ∧ m'.r = m.r := by
  have n6 := hm.n6
  have n0 := hm.n0
  have em : manD m = .tup [.int m.c, .int m.r, .tup (m.pats.map patD)] := rfl
  by_cases h5 : m.pats.length > 5
  · refine ⟨m, d, ?_, hs, hm, rfl, rfl⟩
    simp -dsimp [ev__law_doubled, fnD, bd__law_doubled, em, at3, show m.pats.length ≤ 100000 by omega, show (5 : Int) < (m.pats.length : Int) by omega, LIM, -List.map_map]
  · obtain ⟨s, d1, a1, a2, a3, a4⟩ := pick_ok (m := (m.pats.length : Int)) hs (by omega) (by omega)
    obtain ⟨u, rfl⟩ := Int.eq_ofNat_of_zero_le a3
    have hu : u < m.pats.length := by omega
    have hX : ∀ p ∈ m.pats ++ [m.pats[u]], PatOk m.c m.r m.pats.length p := fun p hp => by
      rcases List.mem_append.mp hp with hp | hp
      · exact hm.ok p hp
      · rw [List.mem_singleton.mp hp]; exact hm.ok _ (List.getElem_mem hu)
    obtain ⟨d', found', q1, q2, q3, q4⟩ := dbl_pats hm (s := ((u : Nat) : Int)) (m.pats ++ [m.pats[u]]) [] d1 a2 (by simp; omega) hX (fun p hp => by cases hp)
    have hl : found'.length = m.pats.length + 1 := by rw [q3]; simp
    refine ⟨⟨m.c, m.r, found'⟩, d', ?_, q2, ⟨hm.c, hm.r, hm.cr, by show 0 < found'.length; omega, by show found'.length ≤ 6; omega, fun p hp => ?_⟩, rfl, rfl⟩
    · have k1 := at_pat hu
      have key : bd__law_doubled [.r d, .p (manD m), .u, .u, .u, .u, .u, .u] = .rt (manD ⟨m.c, m.r, found'⟩) [.r d', .p (manD m), .p (.int (u : Nat)), .o (.lst (found'.map patD)), .u, .u, .u, .u] := by
        unfold bd__law_doubled
        rw [seq_at (e1 := [.r d, .p (manD m), .u, .u, .u, .u, .u, .u]) (by simp -dsimp [em, at3, show m.pats.length ≤ 100000 by omega, show ¬ (5 : Int) < (m.pats.length : Int) by omega, LIM, -List.map_map])]
        rw [seq_at (e1 := [.r d1, .p (manD m), .p (.int (u : Nat)), .o (.lst []), .u, .u, .u, .u]) (by simp -dsimp [em, at3, a1, show m.pats.length ≤ 100000 by omega, LIM, -List.map_map])]
        rw [seq_at (for_at (items := (m.pats ++ [m.pats[u]]).map patD) (e1 := [.r d1, .p (manD m), .p (.int (u : Nat)), .o (.lst []), .u, .u, .u, .u]) (by simp -dsimp [em, at3, k1, LIM, show m.pats.length + 1 ≤ 100000 by omega, -List.map_map]) q1)]
        have hc : cutL [D.int m.c, .int m.r, .tup (m.pats.map patD)] none (some 2) = [D.int m.c, .int m.r] := rfl
        simp -dsimp [em, hc, manD, LIM, -List.map_map]
      simp -dsimp [ev__law_doubled, fnD, key, -List.map_map]
    · have := q4 p hp
      show PatOk m.c m.r found'.length p
      rw [hl]
      exact this
/-! ### powers -/
theorem pow_loop {b n : Int} (hb : 1 ≤ b ∧ b ≤ 3) : ∀ (items : List D) (x : Int), forL (gN 3) lp__law_power_1 items [.p (.int b), .p (.int n), .p (.int x), .u] = .nx [.p (.int b), .p (.int n), .p (.int (x * b ^ items.length)), .u]
  | [], x => by rw [forL_nil]; simp
  | i :: items, x => by
    have e1 : mulOk x b = true := mulOk_r (by omega) (by omega)
    have hg : gN 3 i [.p (.int b), .p (.int n), .p (.int x), .u] = some [.p (.int b), .p (.int n), .p (.int x), .p i] := rfl
    have hb2 : lp__law_power_1 [.p (.int b), .p (.int n), .p (.int x), .p i] = .nx [.p (.int b), .p (.int n), .p (.int (x * b)), .u] := by
      simp -dsimp [lp__law_power_1, e1]
    rw [forL_cons, hg, ogo_some, hb2, stp_nx, pow_loop hb items (x * b), List.length_cons, Int.mul_assoc, Int.pow_succ, Int.mul_comm b]
theorem power_ok {b : Int} {j : Int} {n : Nat} (hb : 1 ≤ b ∧ b ≤ 3) (hj : (n : Int) = j) (hn : j ≤ 100) : ev__law_power [.int b, .int j] = .ok (.int (b ^ n)) .non := by
  have hjn : j.toNat = n := by omega
  have hit : iRg (aCons (eVar 1) aNil) [.p (.int b), .p (.int j), .p (.int 1), .u] = .ok (rng 0 j.toNat) [.p (.int b), .p (.int j), .p (.int 1), .u] := iRg_at rfl (bg_t (by omega) (by omega))
  have k := pow_loop (n := j) hb (rng 0 j.toNat) 1
  rw [rng_len, hjn, Int.one_mul] at k
  rw [hjn] at hit
  generalize b ^ n = x at k
  have key : bd__law_power [.p (.int b), .p (.int j), .u, .u] = .rt (.int x) [.p (.int b), .p (.int j), .p (.int x), .u] := by
    unfold bd__law_power
    rw [seq_at (e1 := [.p (.int b), .p (.int j), .p (.int 1), .u]) (by simp -dsimp)]
    rw [seq_at (for_at hit k)]
    simp -dsimp
  simp -dsimp [ev__law_power, fnD, key]
end CM

namespace CM
open PySem PySem.Spec PyProof.Rows L2 DL
/-! ### places behind a rest -/
theorem B_symm {m : Man} : ∀ {t i j : Nat}, B m t i j → B m t j i
  | 0, _, _, _ => trivial
  | t + 1, i, j, h => ⟨h.1.symm, fun d hd => B_symm (h.2 d hd)⟩
theorem B_refl {m : Man} : ∀ {t i : Nat}, B m t i i
  | 0, _ => trivial
  | t + 1, i => ⟨rfl, fun d hd => B_refl⟩
theorem B_15 {m : Man} (hm : ManOk m) {u v : Nat} (hu : u < m.pats.length) (hv : v < m.pats.length) (h : B m 14 u v) : B m 15 u v := by
  obtain ⟨s, k, h1, h2, h3, h4⟩ := kinds_ok hm
  have n6 := hm.n6
  have e1 := stab_iff hm h3 (t := 13) (by omega) hu hv
  have e2 := stab_iff hm h3 (t := 14) (by omega) hu hv
  exact A_B.mp (e2.mp (e1.mpr (A_B.mpr h)))
theorem B_le {m : Man} {i j : Nat} : ∀ {s t : Nat}, s ≤ t → B m t i j → B m s i j
  | s, 0, h, a => by rw [Nat.le_zero.mp h]; exact a
  | s, t + 1, h, a => by
    rcases Nat.lt_or_ge s (t + 1) with h2 | h2
    · exact B_le (by omega) (B_pred a)
    · rw [show s = t + 1 by omega]; exact a
theorem cell_pos {m : Man} (hm : ManOk m) {u v d : Nat} (hu : u < m.pats.length) (hv : v < m.pats.length) (hd : (d : Int) < m.c * m.r) (h : posOf (patN m u) = posOf (patN m v)) : (cellN m u d).1 = (cellN m v d).1 := by
  have lu := (patN_ok hm hu).len
  have lv := (patN_ok hm hv).len
  exact (map_eq_iff (f := fun q : Cell => q.1) (z := ((0, 0), 0)) (L := (patN m u).length) rfl (by omega)).mp h d (by omega)
theorem plc_B {m : Man} (hm : ManOk m) : ∀ (e : List Nat) (x y : Int) (u v : Nat), u < m.pats.length → v < m.pats.length → Digs m e → B m e.length u v → plc m x y u e = plc m x y v e
  | [], x, y, u, v, _, _, _, _ => rfl
  | d :: e, x, y, u, v, hu, hv, he, hB => by
    have hd := he d (List.mem_cons_self ..)
    have hB : B m (e.length + 1) u v := hB
    have hc := cell_pos hm hu hv hd hB.1
    show plc m (x * m.c + (cellN m u d).1.1) (y * m.r + (cellN m u d).1.2) (nx m u d) e = plc m (x * m.c + (cellN m v d).1.1) (y * m.r + (cellN m v d).1.2) (nx m v d) e
    rw [hc]
    exact plc_B hm e _ _ _ _ (nx_lt hm hu hd) (nx_lt hm hv hd) (fun z hz => he z (List.mem_cons_of_mem _ hz)) (hB.2 d hd)
theorem plc_app (m : Man) : ∀ (a e : List Nat) (x y : Int) (p : Nat), plc m x y p (a ++ e) = plc m (plc m x y p a).1 (plc m x y p a).2 (beh m p a) e
  | [], _, _, _, _ => rfl
  | d :: a, e, x, y, p => plc_app m a e _ _ _
theorem plc_lin (m : Man) : ∀ (e : List Nat) (x y : Int) (p : Nat), plc m x y p e = (x * m.c ^ e.length + (plc m 0 0 p e).1, y * m.r ^ e.length + (plc m 0 0 p e).2)
  | [], x, y, p => by simp [plc]
  | d :: e, x, y, p => by
    have h1 := plc_lin m e (x * m.c + (cellN m p d).1.1) (y * m.r + (cellN m p d).1.2) (nx m p d)
    have h2 := plc_lin m e (0 * m.c + (cellN m p d).1.1) (0 * m.r + (cellN m p d).1.2) (nx m p d)
    have e1 : plc m x y p (d :: e) = plc m (x * m.c + (cellN m p d).1.1) (y * m.r + (cellN m p d).1.2) (nx m p d) e := rfl
    have e2 : plc m 0 0 p (d :: e) = plc m (0 * m.c + (cellN m p d).1.1) (0 * m.r + (cellN m p d).1.2) (nx m p d) e := rfl
    rw [e1, h1, e2, h2, List.length_cons]
    refine Prod.ext ?_ ?_
    · simp only [Int.zero_mul, Int.zero_add, Int.pow_succ, Int.add_mul]
      rw [Int.mul_comm (m.c ^ e.length) m.c, ← Int.mul_assoc, Int.add_assoc]
    · simp only [Int.zero_mul, Int.zero_add, Int.pow_succ, Int.add_mul]
      rw [Int.mul_comm (m.r ^ e.length) m.r, ← Int.mul_assoc, Int.add_assoc]
theorem plc_mod {m : Man} (hm : ManOk m) {a b e : List Nat} (hu : beh m 0 a < m.pats.length) (hv : beh m 0 b < m.pats.length) (he : Digs m e) (h : B m e.length (beh m 0 a) (beh m 0 b)) : (plc m 0 0 0 (a ++ e)).1 % m.c ^ e.length = (plc m 0 0 0 (b ++ e)).1 % m.c ^ e.length ∧ (plc m 0 0 0 (a ++ e)).2 % m.r ^ e.length = (plc m 0 0 0 (b ++ e)).2 % m.r ^ e.length := by
  rw [plc_app, plc_app, plc_lin m e _ _ (beh m 0 a), plc_lin m e _ _ (beh m 0 b), plc_B hm e 0 0 _ _ hu hv he h]
  constructor
  · show (_ * _ + _) % _ = (_ * _ + _) % _
    rw [Int.add_comm, Int.add_mul_emod_self_right, Int.add_comm, Int.add_mul_emod_self_right]
  · show (_ * _ + _) % _ = (_ * _ + _) % _
    rw [Int.add_comm, Int.add_mul_emod_self_right, Int.add_comm, Int.add_mul_emod_self_right]
theorem pow_small {b : Int} (hb : 1 ≤ b ∧ b ≤ 3) {n : Nat} (hn : n ≤ 15) : 0 < b ^ n ∧ b ^ n < 1000000000 := by
  have key : ∀ n ≤ 15, (1 : Int) ^ n < 1000000000 ∧ (2 : Int) ^ n < 1000000000 ∧ (3 : Int) ^ n < 1000000000 := by decide +kernel
  have h3 : b = 1 ∨ b = 2 ∨ b = 3 := by omega
  refine ⟨Int.pow_pos (by omega), ?_⟩
  rcases h3 with rfl | rfl | rfl
  · exact (key n hn).1
  · exact (key n hn).2.1
  · exact (key n hn).2.2
end CM

/-! what a block comes to, step by step -/
namespace DL
open PySem PySem.Spec PyProof.Rows L2
/-- what is wanted of the other ways out -/
structure Pr where
  rt : D → Ev → Prop
  rf : D → Ev → Prop
  er : Exc → Prop
  bk : Ev → Prop
  ct : Ev → Prop
def noP : Pr := ⟨fun _ _ => False, fun _ _ => False, fun _ => False, fun _ => False, fun _ => False⟩
def rtP (Q : D → Ev → Prop) : Pr := ⟨Q, fun _ _ => False, fun _ => False, fun _ => False, fun _ => False⟩
def rfP (Q : D → Ev → Prop) : Pr := ⟨fun _ _ => False, Q, fun _ => False, fun _ => False, fun _ => False⟩
def erP (Q : Exc → Prop) : Pr := ⟨fun _ _ => False, fun _ _ => False, Q, fun _ => False, fun _ => False⟩
/-- within a loop: behind a break, behind a turn -/
def Pr.lp (P : Pr) (B C : Ev → Prop) : Pr := ⟨P.rt, P.rf, P.er, B, C⟩
@[irreducible] def Sat (N : Ev → Prop) (P : Pr) : Out → Prop
  | .nx e => N e
  | .rt d e => P.rt d e
  | .rf d e => P.rf d e
  | .er x => P.er x
  | .bk e => P.bk e
  | .ct e => P.ct e
  | .no => False
@[simp] theorem sat_nx (N : Ev → Prop) (P : Pr) (e : Ev) : Sat N P (.nx e) = N e := by unfold Sat; rfl
@[simp] theorem sat_no (N : Ev → Prop) (P : Pr) : Sat N P .no = False := by unfold Sat; rfl
theorem sat_rt0 (N : Ev → Prop) (P : Pr) (d : D) (e : Ev) : Sat N P (.rt d e) = P.rt d e := by unfold Sat; rfl
theorem sat_rf0 (N : Ev → Prop) (P : Pr) (d : D) (e : Ev) : Sat N P (.rf d e) = P.rf d e := by unfold Sat; rfl
theorem sat_er0 (N : Ev → Prop) (P : Pr) (x : Exc) : Sat N P (.er x) = P.er x := by unfold Sat; rfl
theorem sat_bk0 (N : Ev → Prop) (P : Pr) (e : Ev) : Sat N P (.bk e) = P.bk e := by unfold Sat; rfl
theorem sat_ct0 (N : Ev → Prop) (P : Pr) (e : Ev) : Sat N P (.ct e) = P.ct e := by unfold Sat; rfl
@[simp] theorem sat_rt (N : Ev → Prop) (Q : D → Ev → Prop) (d : D) (e : Ev) : Sat N (rtP Q) (.rt d e) = Q d e := sat_rt0 ..
@[simp] theorem sat_rf (N : Ev → Prop) (Q : D → Ev → Prop) (d : D) (e : Ev) : Sat N (rfP Q) (.rf d e) = Q d e := sat_rf0 ..
@[simp] theorem sat_er (N : Ev → Prop) (Q : Exc → Prop) (x : Exc) : Sat N (erP Q) (.er x) = Q x := sat_er0 ..
@[simp] theorem sat_bk (N B C : Ev → Prop) (P : Pr) (e : Ev) : Sat N (P.lp B C) (.bk e) = B e := sat_bk0 ..
@[simp] theorem sat_ct (N B C : Ev → Prop) (P : Pr) (e : Ev) : Sat N (P.lp B C) (.ct e) = C e := sat_ct0 ..
@[simp] theorem sat_lrt (N B C : Ev → Prop) (Q : D → Ev → Prop) (d : D) (e : Ev) : Sat N ((rtP Q).lp B C) (.rt d e) = Q d e := sat_rt0 ..
theorem Sat.imp {N N' : Ev → Prop} {P : Pr} {o : Out} (h : Sat N P o) (k : ∀ e, N e → N' e) : Sat N' P o := by
  cases o <;> simp only [sat_nx, sat_rt0, sat_rf0, sat_er0, sat_bk0, sat_ct0, sat_no] at h ⊢ <;> first | exact k _ h | exact h
/-- not touched by simp -/
def HidP (I : Ev → Prop) (_ : Hide I) (e : Ev) : Prop := I e
def Cont (g : Ev → Out) (N : Ev → Prop) (P : Pr) (e : Ev) : Prop := Sat N P (g e)
theorem contR {g : Ev → Out} {N : Ev → Prop} {P : Pr} {e : Ev} (h : Sat N P (g e)) : HidP (Cont g N P) .mk e := h
theorem hidR {I : Ev → Prop} {e : Ev} (h : I e) : HidP I .mk e := h
theorem seqR {f g : Ev → Out} {N : Ev → Prop} {P : Pr} {e : Ev} (h : Sat (HidP (Cont g N P) .mk) P (f e)) : Sat N P (sSeq f g e) := by
  rw [sSeq_ap]
  cases q : f e with
  | nx e1 => rw [q, sat_nx] at h; exact h
  | _ => rw [q] at h; simp only [sat_nx, sat_rt0, sat_rf0, sat_er0, sat_bk0, sat_ct0, sat_no] at h; try (simp only [Out.thn, sat_nx, sat_rt0, sat_rf0, sat_er0, sat_bk0, sat_ct0, sat_no]; exact h)
theorem Sat.nxE {N : Ev → Prop} {P : Pr} {o : Out} {e : Ev} (h : o = .nx e) (k : N e) : Sat N P o := by rw [h, sat_nx]; exact k
/-- slots forgotten behind a turn -/
theorem afR {is : List Nat} {f : Ev → Out} {N B C : Ev → Prop} {P : Pr} {e : Ev} (h : Sat (fun e => N (fgt is e)) (P.lp (fun e => B (fgt is e)) (fun e => C (fgt is e))) (f e)) : Sat N (P.lp B C) (sAf is f e) := by
  rw [sAf_ap]
  cases q : f e <;> (rw [q] at h; simp only [sat_nx, sat_rt0, sat_rf0, sat_er0, sat_bk0, sat_ct0, sat_no] at h; try (simp only [Out.aft, sat_nx, sat_rt0, sat_rf0, sat_er0, sat_bk0, sat_ct0, sat_no]; exact h))
theorem ifR {t : Ev → Rx Bool} {f g : Ev → Out} {N : Ev → Prop} {P : Pr} {e e1 : Ev} {b : Bool} (ht : t e = .ok b e1) (h : if b = true then Sat N P (f e1) else Sat N P (g e1)) : Sat N P (sIf t f g e) := by
  rw [sIf_ap, ht, otK_ok]
  split <;> simp_all
theorem forR {it : Ev → Rx (List D)} {g : D → Ev → Option Ev} {b : Ev → Out} {N : Ev → Prop} {P : Pr} {e e1 : Ev} {items : List D} (I : List D → Ev → Prop) (hit : it e = .ok items e1) (h0 : I items e1)
    (hs : ∀ d r e, I (d :: r) e → ∃ e2, g d e = some e2 ∧ Sat (HidP (I r) .mk) (P.lp N (HidP (I r) .mk)) (b e2)) (hN : ∀ e, I [] e → N e) : Sat N P (sFor it g b e) := by
  rw [sFor_ap, hit, Rx.out_ok]
  clear hit
  induction items generalizing e1 with
  | nil => rw [forL_nil, sat_nx]; exact hN _ h0
  | cons d r ih =>
    obtain ⟨e2, q1, q2⟩ := hs d r e1 h0
    rw [forL_cons, q1, ogo_some]
    cases q : b e2 with
    | nx e3 => rw [q, sat_nx] at q2; exact ih q2
    | ct e3 => rw [q, sat_ct] at q2; exact ih q2
    | bk e3 => rw [q, sat_bk] at q2; show Sat N P (.nx e3); rw [sat_nx]; exact q2
    | rt d e3 => rw [q, sat_rt0] at q2; show Sat N P (.rt d e3); rw [sat_rt0]; exact q2
    | rf d e3 => rw [q, sat_rf0] at q2; show Sat N P (.rf d e3); rw [sat_rf0]; exact q2
    | er x => rw [q, sat_er0] at q2; show Sat N P (.er x); rw [sat_er0]; exact q2
    | no => rw [q, sat_no] at q2; exact q2.elim
theorem whR {t : Ev → Rx Bool} {b : Ev → Out} {N : Ev → Prop} {P : Pr} (I : Nat → Ev → Prop) (hs : ∀ m e, I m e → (∃ e1, t e = .ok false e1 ∧ N e1) ∨ ∃ e1, t e = .ok true e1 ∧ Sat (HidP (fun e => ∃ m', m' < m ∧ I m' e) .mk) (P.lp N (HidP (fun e => ∃ m', m' < m ∧ I m' e) .mk)) (b e1)) :
    ∀ (n m : Nat) (e : Ev), m < n → I m e → Sat N P (whL t b n e)
  | 0, m, e, hm, h => absurd hm (Nat.not_lt_zero _)
  | n + 1, m, e, hm, h => by
    rw [whL_succ]
    rcases hs m e h with ⟨e1, q1, q2⟩ | ⟨e1, q1, q2⟩
    · rw [q1, otK_ok]; show Sat N P (.nx e1); rw [sat_nx]; exact q2
    · rw [q1, otK_ok]
      show Sat N P ((b e1).stp (whL t b n))
      cases q : b e1 with
      | nx e3 => rw [q, sat_nx] at q2; obtain ⟨m', h1, h2⟩ := q2; exact whR I hs n m' e3 (by omega) h2
      | ct e3 => rw [q, sat_ct] at q2; obtain ⟨m', h1, h2⟩ := q2; exact whR I hs n m' e3 (by omega) h2
      | bk e3 => rw [q, sat_bk] at q2; show Sat N P (.nx e3); rw [sat_nx]; exact q2
      | rt d e3 => rw [q, sat_rt0] at q2; show Sat N P (.rt d e3); rw [sat_rt0]; exact q2
      | rf d e3 => rw [q, sat_rf0] at q2; show Sat N P (.rf d e3); rw [sat_rf0]; exact q2
      | er x => rw [q, sat_er0] at q2; show Sat N P (.er x); rw [sat_er0]; exact q2
      | no => rw [q, sat_no] at q2; exact q2.elim
/-- a loop whose turns keep I -/
theorem forI {it : Ev → Rx (List D)} {g : D → Ev → Option Ev} {b : Ev → Out} {N : Ev → Prop} {P : Pr} {e e1 : Ev} {items : List D} (I : Ev → Prop) (hit : it e = .ok items e1) (h0 : I e1)
    (hs : ∀ d ∈ items, ∀ e, I e → ∃ e2, g d e = some e2 ∧ Sat (HidP I .mk) (P.lp N (HidP I .mk)) (b e2)) (hN : ∀ e, I e → N e) : Sat N P (sFor it g b e) :=
  forR (fun l e => I e ∧ ∀ d ∈ l, d ∈ items) hit ⟨h0, fun _ h => h⟩ (fun d r e ⟨h1, h2⟩ => by
    obtain ⟨e2, q1, q2⟩ := hs d (h2 d (List.mem_cons_self ..)) e h1
    refine ⟨e2, q1, ?_⟩
    have h3 : ∀ d ∈ r, d ∈ items := fun x hx => h2 x (List.mem_cons_of_mem _ hx)
    cases q : b e2 with
    | nx e3 => rw [q, sat_nx] at q2; rw [sat_nx]; exact ⟨q2, h3⟩
    | ct e3 => rw [q, sat_ct] at q2; rw [sat_ct]; exact ⟨q2, h3⟩
    | _ => rw [q] at q2; simp only [sat_nx, sat_rt0, sat_rf0, sat_er0, sat_bk0, sat_ct0, sat_no] at q2 ⊢; try exact q2) fun e h => hN e h.1
/-- a def's value -/
theorem fnR {n : Nat} {ref : Option Nat} {b : Ev → Out} {ds : List D} {Q : D → D → Prop} (h : Sat (fun e => ∃ z, fin ref e = some z ∧ Q .non z) (rtP fun d e => ∃ z, fin ref e = some z ∧ Q d z) (b (stE ref 0 ds ++ List.replicate (n - ds.length) Sl.u))) : ∃ d z, fnD n ref false b ds = .ok d z ∧ Q d z := by
  unfold fnD
  cases q : b (stE ref 0 ds ++ List.replicate (n - ds.length) Sl.u) with
  | nx e => rw [q, sat_nx] at h; obtain ⟨z, h1, h2⟩ := h; exact ⟨_, z, by simp only [outF, h1]; rfl, h2⟩
  | rt d e => rw [q, sat_rt] at h; obtain ⟨z, h1, h2⟩ := h; exact ⟨d, z, by simp only [outF, h1]; rfl, h2⟩
  | rf d e => rw [q, sat_rf0] at h; exact h.elim
  | er x => rw [q, sat_er0] at h; exact h.elim
  | bk e => rw [q, sat_bk0] at h; exact h.elim
  | ct e => rw [q, sat_ct0] at h; exact h.elim
  | no => rw [q, sat_no] at h; exact h.elim
theorem fnV {n : Nat} {b : Ev → Out} {ds : List D} {v : D} (h : Sat (fun _ => v = .non) (rtP fun d _ => d = v) (b (stE none 0 ds ++ List.replicate (n - ds.length) Sl.u))) : fnD n none false b ds = .ok v .non := by
  obtain ⟨d, z, h1, h2, h3⟩ := fnR (n := n) (ref := none) (b := b) (ds := ds) (Q := fun d z => d = v ∧ z = .non) (by
    cases q : b (stE none 0 ds ++ List.replicate (n - ds.length) Sl.u) with
    | nx e => rw [q, sat_nx] at h; rw [sat_nx]; exact ⟨.non, rfl, h.symm, rfl⟩
    | rt d e => rw [q, sat_rt] at h; rw [sat_rt]; exact ⟨.non, rfl, h, rfl⟩
    | rf d e => rw [q, sat_rf0] at h; exact h.elim
    | er x => rw [q, sat_er0] at h; exact h.elim
    | bk e => rw [q, sat_bk0] at h; exact h.elim
    | ct e => rw [q, sat_ct0] at h; exact h.elim
    | no => rw [q, sat_no] at h; exact h.elim)
  rw [h1, h2, h3]
theorem fnE {n : Nat} {ref : Option Nat} {fr : Bool} {b : Ev → Out} {ds : List D} {x : Exc} (h : Sat (fun _ => False) (erP fun y => y = x) (b (stE ref 0 ds ++ List.replicate (n - ds.length) Sl.u))) : fnD n ref fr b ds = .er x := by
  unfold fnD
  cases q : b (stE ref 0 ds ++ List.replicate (n - ds.length) Sl.u) with
  | er y => rw [q, sat_er] at h; obtain rfl : y = x := h; rfl
  | nx e => rw [q, sat_nx] at h; exact h.elim
  | rt d e => rw [q, sat_rt0] at h; exact h.elim
  | rf d e => rw [q, sat_rf0] at h; exact h.elim
  | bk e => rw [q, sat_bk0] at h; exact h.elim
  | ct e => rw [q, sat_ct0] at h; exact h.elim
  | no => rw [q, sat_no] at h; exact h.elim
def isE (e1 e : Ev) : Prop := e = e1
theorem isE_self (e : Ev) : isE e e := rfl
def noB (_ : Ev) : Prop := False
theorem nxV {o : Out} {e1 : Ev} (h : Sat (isE e1) (noP.lp noB noB) o) : o = .nx e1 := by
  cases o with
  | nx e => rw [sat_nx] at h; exact congrArg _ h
  | rt d e => rw [sat_rt0] at h; exact h.elim
  | rf d e => rw [sat_rf0] at h; exact h.elim
  | er x => rw [sat_er0] at h; exact h.elim
  | bk e => rw [sat_bk] at h; exact h.elim
  | ct e => rw [sat_ct] at h; exact h.elim
  | no => rw [sat_no] at h; exact h.elim
end DL

namespace CM
open PySem PySem.Spec PyProof.Rows L2 DL DLH
/-! powers, sides, places by the law, boxes -/
theorem ppow_loop {b n : Int} (hb : 1 ≤ b ∧ b ≤ 9) : ∀ (items : List D) (x : Int), forL (gN 3) lp_power_1 items [.p (.int b), .p (.int n), .p (.int x), .u] = .nx [.p (.int b), .p (.int n), .p (.int (x * b ^ items.length)), .u]
  | [], x => by rw [forL_nil]; simp
  | i :: items, x => by
    have e1 : mulOk x b = true := mulOk_r (by omega) (by omega)
    have hg : gN 3 i [.p (.int b), .p (.int n), .p (.int x), .u] = some [.p (.int b), .p (.int n), .p (.int x), .p i] := rfl
    have hb2 : lp_power_1 [.p (.int b), .p (.int n), .p (.int x), .p i] = .nx [.p (.int b), .p (.int n), .p (.int (x * b)), .u] := by
      simp -dsimp [lp_power_1, e1]
    rw [forL_cons, hg, ogo_some, hb2, stp_nx, ppow_loop hb items (x * b), List.length_cons, Int.mul_assoc, Int.pow_succ, Int.mul_comm b]
theorem ppower_ok {b : Int} {j : Int} {n : Nat} (hb : 1 ≤ b ∧ b ≤ 9) (hj : (n : Int) = j) (hn : j ≤ 1000) : ev_power [.int b, .int j] = .ok (.int (b ^ n)) .non := by
  have hjn : j.toNat = n := by omega
  have hit : iRg (aCons (eVar 1) aNil) [.p (.int b), .p (.int j), .p (.int 1), .u] = .ok (rng 0 j.toNat) [.p (.int b), .p (.int j), .p (.int 1), .u] := iRg_at rfl (bg_t (by omega) (by omega))
  have k := ppow_loop (n := j) hb (rng 0 j.toNat) 1
  rw [rng_len, hjn, Int.one_mul] at k
  rw [hjn] at hit
  generalize b ^ n = x at k
  have key : bd_power [.p (.int b), .p (.int j), .u, .u] = .rt (.int x) [.p (.int b), .p (.int j), .p (.int x), .u] := by
    unfold bd_power
    rw [seq_at (e1 := [.p (.int b), .p (.int j), .p (.int 1), .u]) (by simp -dsimp)]
    rw [seq_at (for_at hit k)]
    simp -dsimp
  simp -dsimp [ev_power, fnD, key]
theorem manD_0 (m : Man) : atI [D.int m.c, .int m.r, .tup (m.pats.map patD)] 0 = some (.int m.c) := rfl
theorem manD_1 (m : Man) : atI [D.int m.c, .int m.r, .tup (m.pats.map patD)] 1 = some (.int m.r) := rfl
theorem manD_2 (m : Man) : atI [D.int m.c, .int m.r, .tup (m.pats.map patD)] 2 = some (.tup (m.pats.map patD)) := rfl
theorem man_ix0 (m : Man) : gIx (manD m) (.int 0) = some (.int m.c) := rfl
theorem man_ix1 (m : Man) : gIx (manD m) (.int 1) = some (.int m.r) := rfl
theorem man_ix2 (m : Man) : gIx (manD m) (.int 2) = some (.tup (m.pats.map patD)) := rfl
theorem sides_ok {m : Man} (h : ManOk m) {j : Int} {n : Nat} (hj : (n : Int) = j) (hn : j ≤ 1000) : ev_sides [manD m, .int j] = .ok (posD (m.c ^ n, m.r ^ n)) .non := by
  have hc := h.c
  have hr := h.r
  have p1 := ppower_ok (b := m.c) (by omega) hj hn
  have p2 := ppower_ok (b := m.r) (by omega) hj hn
  generalize m.c ^ n = X at *
  generalize m.r ^ n = Y at *
  simp -dsimp [ev_sides, fnD, bd_sides, man_ix0, man_ix1, -gIx, p1, p2, LIM, posD]
theorem need_depth_ok {j : Int} (h : 0 ≤ j ∧ j ≤ 30) : ev_need_depth [.int j] = .ok .non .non := by
  simp -dsimp [ev_need_depth, fnD, bd_need_depth, is_between_int, h.1, h.2]
theorem need_depth_er {j : Int} (h : ¬ (0 ≤ j ∧ j ≤ 30)) : ev_need_depth [.int j] = .er ⟨"InvalidDepth"⟩ := by
  simp -dsimp [ev_need_depth, fnD, bd_need_depth, is_between_int, h]
/-- how great places are -/
theorem plc_bd {m : Man} (h : ManOk m) : ∀ (e : List Nat) (p : Nat), p < m.pats.length → Digs m e → (0 ≤ (plc m 0 0 p e).1 ∧ (plc m 0 0 p e).1 < m.c ^ e.length) ∧ 0 ≤ (plc m 0 0 p e).2 ∧ (plc m 0 0 p e).2 < m.r ^ e.length
  | [], p, _, _ => by simp [plc]
  | d :: e, p, hp, hd => by
    have hd0 := hd d (List.mem_cons_self ..)
    obtain ⟨h1, h2, h3⟩ := cellN_mem h hp hd0
    have q := (patN_ok h hp).pos _ h2
    obtain ⟨a1, a2⟩ := plc_bd h e (nx m p d) (nx_lt h hp hd0) fun x hx => hd x (List.mem_cons_of_mem _ hx)
    have e1 : plc m 0 0 p (d :: e) = plc m (0 * m.c + (cellN m p d).1.1) (0 * m.r + (cellN m p d).1.2) (nx m p d) e := rfl
    rw [e1, plc_lin, Int.zero_mul, Int.zero_mul, Int.zero_add, Int.zero_add, List.length_cons, Int.pow_succ, Int.pow_succ]
    have hc := h.c
    have hr := h.r
    have pc : 0 < m.c ^ e.length := Int.pow_pos (by omega)
    have pr : 0 < m.r ^ e.length := Int.pow_pos (by omega)
    generalize m.c ^ e.length = X at *
    generalize m.r ^ e.length = Y at *
    generalize (plc m 0 0 (nx m p d) e) = P at *
    obtain ⟨q1, q2, q3, q4⟩ := q
    have k1 : (cellN m p d).1.1 * X + X ≤ X * m.c := by
      have : ((cellN m p d).1.1 + 1) * X ≤ m.c * X := Int.mul_le_mul_of_nonneg_right (by omega) (by omega)
      rw [Int.add_mul, Int.one_mul, Int.mul_comm m.c] at this
      exact this
    have k2 : (cellN m p d).1.2 * Y + Y ≤ Y * m.r := by
      have : ((cellN m p d).1.2 + 1) * Y ≤ m.r * Y := Int.mul_le_mul_of_nonneg_right (by omega) (by omega)
      rw [Int.add_mul, Int.one_mul, Int.mul_comm m.r] at this
      exact this
    have k3 : 0 ≤ (cellN m p d).1.1 * X := Int.mul_nonneg (by omega) (by omega)
    have k4 : 0 ≤ (cellN m p d).1.2 * Y := Int.mul_nonneg (by omega) (by omega)
    simp only
    omega
theorem pow_30 {b : Int} (hb : 1 ≤ b ∧ b ≤ 3) {n : Nat} (hn : n ≤ 31) : 0 < b ^ n ∧ b ^ n < 1000000000000000 := by
  have key : ∀ n ≤ 31, (1 : Int) ^ n < 1000000000000000 ∧ (2 : Int) ^ n < 1000000000000000 ∧ (3 : Int) ^ n < 1000000000000000 := by decide +kernel
  have h3 : b = 1 ∨ b = 2 ∨ b = 3 := by omega
  refine ⟨Int.pow_pos (by omega), ?_⟩
  rcases h3 with rfl | rfl | rfl
  · exact (key n hn).1
  · exact (key n hn).2.1
  · exact (key n hn).2.2
/-! the law's place -/
def posns (m : Man) : Nat → List Nat → List Pos2
  | _, [] => []
  | p, d :: ds => (cellN m p d).1 :: posns m (nx m p d) ds
theorem posns_app (m : Man) : ∀ (A : List Nat) (p d : Nat), posns m p (A ++ [d]) = posns m p A ++ [(cellN m (beh m p A) d).1]
  | [], _, _ => rfl
  | a :: A, p, d => by
    show (cellN m p a).1 :: posns m (nx m p a) (A ++ [d]) = _
    rw [posns_app m A (nx m p a) d]
    rfl
theorem posns_len (m : Man) : ∀ (A : List Nat) (p : Nat), (posns m p A).length = A.length
  | [], _ => rfl
  | a :: A, p => by show (posns m (nx m p a) A).length + 1 = _; rw [posns_len m A]; rfl
theorem pby1 {m : Man} (h : ManOk m) {code : D} : ∀ (ds : List Nat) (p : Nat) (F : List Pos2), p < m.pats.length → Digs m ds → F.length + ds.length ≤ 1000 →
    forL (gN 4) lp__law_place_by_1 (ds.map fun d => D.str (dig d)) [.p (manD m), .p (.int (p : Nat)), .p code, .o (.lst (F.map posD)), .u, .u, .u, .u, .u, .u, .u] = .nx [.p (manD m), .p (.int (beh m p ds : Nat)), .p code, .o (.lst ((F ++ posns m p ds).map posD)), .u, .u, .u, .u, .u, .u, .u]
  | [], p, F, _, _, _ => by rw [List.map_nil, forL_nil]; simp [posns, beh]
  | d :: ds, p, F, hp, hd, hl => by
    have hd0 := hd d (List.mem_cons_self ..)
    have h10 : d < 10 := hd.ten h d (List.mem_cons_self ..)
    have k1 := pat_at hp
    have k2 := cell_at h hp hd0
    have k3 := dig_int h10
    rw [List.length_cons] at hl
    have hg : gN 4 (.str (dig d)) [.p (manD m), .p (.int (p : Nat)), .p code, .o (.lst (F.map posD)), .u, .u, .u, .u, .u, .u, .u] = some [.p (manD m), .p (.int (p : Nat)), .p code, .o (.lst (F.map posD)), .p (.str (dig d)), .u, .u, .u, .u, .u, .u] := rfl
    have hb : lp__law_place_by_1 [.p (manD m), .p (.int (p : Nat)), .p code, .o (.lst (F.map posD)), .p (.str (dig d)), .u, .u, .u, .u, .u, .u] = .nx [.p (manD m), .p (.int (nx m p d : Nat)), .p code, .o (.lst ((F ++ [(cellN m p d).1]).map posD)), .u, .u, .u, .u, .u, .u, .u] := by
      unfold manD
      simp -dsimp [lp__law_place_by_1, at3, k1, k2, k3, LIM, posD, show F.length < 100000 by omega, -gInt1, -List.map_map]
    rw [List.map_cons, forL_cons, hg, ogo_some, hb, stp_nx, pby1 h ds (nx m p d) (F ++ [(cellN m p d).1]) (nx_lt h hp hd0) (fun x hx => hd x (List.mem_cons_of_mem _ hx)) (by rw [List.length_append, List.length_singleton]; omega)]
    rw [List.append_assoc]
    rfl
theorem pby2 {m : Man} (h : ManOk m) {p : Nat} {s1 s2 s3 : Sl} (hp : p < m.pats.length) : ∀ (n : Nat) (A B : List Nat), A.length = n → Digs m A → Digs m B →
    forL (gT 2 (gsCons (gN 8) (gsCons (gN 9) gsNil))) lp__law_place_by_2 ((posns m p A).reverse.map posD) [.p (manD m), s1, s2, s3, .u, .p (posD (plc m 0 0 (beh m p A) B)), .p (.int (m.c ^ B.length)), .p (.int (m.r ^ B.length)), .u, .u, .u] =
      .nx [.p (manD m), s1, s2, s3, .u, .p (posD (plc m 0 0 p (A ++ B))), .p (.int (m.c ^ (A ++ B).length)), .p (.int (m.r ^ (A ++ B).length)), .u, .u, .u]
  | 0, A, B, hA, _, _ => by
    rw [List.length_eq_zero_iff.mp hA]
    rfl
  | n + 1, A, B, hA, dA, dB => by
    obtain ⟨A', d, rfl⟩ : ∃ A' d, A = A' ++ [d] := ⟨A.dropLast, A.getLast (by intro e; rw [e] at hA; cases hA), (List.dropLast_concat_getLast _).symm⟩
    have dA' : Digs m A' := fun x hx => dA x (List.mem_append_left _ hx)
    have hd0 := dA d (List.mem_append_right _ (List.mem_singleton.mpr rfl))
    have hpA := beh_lt h A' hp dA'
    have ih := pby2 h (s1 := s1) (s2 := s2) (s3 := s3) hp n A' (d :: B) (by rw [List.length_append] at hA; simpa using hA) dA' (fun x hx => (List.mem_cons.mp hx).elim (fun e => e ▸ hd0) (dB x))
    rw [posns_app, List.reverse_append, List.reverse_singleton, List.singleton_append, List.map_cons, forL_cons]
    have hpl : plc m 0 0 (beh m p A') (d :: B) = ((cellN m (beh m p A') d).1.1 * m.c ^ B.length + (plc m 0 0 (nx m (beh m p A') d) B).1, (cellN m (beh m p A') d).1.2 * m.r ^ B.length + (plc m 0 0 (nx m (beh m p A') d) B).2) := by
      show plc m (0 * m.c + (cellN m (beh m p A') d).1.1) (0 * m.r + (cellN m (beh m p A') d).1.2) (nx m (beh m p A') d) B = _
      rw [plc_lin, Int.zero_mul, Int.zero_mul, Int.zero_add, Int.zero_add]
    have hbe : beh m p (A' ++ [d]) = nx m (beh m p A') d := by rw [beh_app]; rfl
    rw [hpl, List.length_cons, Int.pow_succ, Int.pow_succ, List.append_cons] at ih
    obtain ⟨h1, h2, h3⟩ := cellN_mem h hpA hd0
    obtain ⟨q1, q2, q3, q4⟩ := (patN_ok h hpA).pos _ h2
    have hc := h.c
    have hr := h.r
    rw [hbe]
    generalize m.c ^ B.length = X at *
    generalize m.r ^ B.length = Y at *
    generalize (plc m 0 0 (nx m (beh m p A') d) B) = P at *
    generalize (cellN m (beh m p A') d).1 = C at *
    have e1 : mulOk C.1 X = true := mulOk_l (by omega) (by omega)
    have e2 : mulOk C.2 Y = true := mulOk_l (by omega) (by omega)
    have e3 : mulOk X m.c = true := mulOk_r (by omega) (by omega)
    have e4 : mulOk Y m.r = true := mulOk_r (by omega) (by omega)
    have hg : gT 2 (gsCons (gN 8) (gsCons (gN 9) gsNil)) (posD C) [.p (manD m), s1, s2, s3, .u, .p (posD P), .p (.int X), .p (.int Y), .u, .u, .u] = some [.p (manD m), s1, s2, s3, .u, .p (posD P), .p (.int X), .p (.int Y), .p (.int C.1), .p (.int C.2), .u] := rfl
    have i0 : ∀ P : Pos2, gIx (posD P) (.int 0) = some (.int P.1) := fun _ => rfl
    have i1 : ∀ P : Pos2, gIx (posD P) (.int 1) = some (.int P.2) := fun _ => rfl
    have hb : lp__law_place_by_2 [.p (manD m), s1, s2, s3, .u, .p (posD P), .p (.int X), .p (.int Y), .p (.int C.1), .p (.int C.2), .u] = .nx [.p (manD m), s1, s2, s3, .u, .p (posD (C.1 * X + P.1, C.2 * Y + P.2)), .p (.int (X * m.c)), .p (.int (Y * m.r)), .u, .u, .u] := by
      simp -dsimp [lp__law_place_by_2, i0, i1, man_ix0, man_ix1, -gIx, e1, e2, e3, e4, LIM]
      rw [show posD (C.1 * X + P.1, C.2 * Y + P.2) = .tup [.int (C.1 * X + P.1), .int (C.2 * Y + P.2)] from rfl, Int.add_comm P.1, Int.add_comm P.2]
    rw [hg, ogo_some, hb, stp_nx, ih]
theorem law_place_by_ok {m : Man} (h : ManOk m) {p : Nat} {ds : List Nat} (hp : p < m.pats.length) (hd : Digs m ds) (hl : ds.length ≤ 100) : ev__law_place_by [manD m, .int (p : Nat), .str (codeS ds)] = .ok (posD (plc m 0 0 p ds)) .non := by
  refine fnV ?_
  show Sat _ _ (bd__law_place_by [.p (manD m), .p (.int (p : Nat)), .p (.str (codeS ds)), .u, .u, .u, .u, .u, .u, .u, .u])
  unfold bd__law_place_by
  have k1 := pby1 h (code := .str (codeS ds)) ds p [] hp hd (by simp; omega)
  have k2 := pby2 h (s1 := .p (.int (beh m p ds : Nat))) (s2 := .p (.str (codeS ds))) (s3 := .o (.lst ((posns m p ds).map posD))) hp ds.length ds [] rfl hd (fun x hx => by cases hx)
  rw [List.append_nil, List.length_nil, Int.pow_zero, Int.pow_zero] at k2
  refine seqR ?_
  simp -dsimp [LIM]
  refine contR ?_
  refine seqR (.nxE (for_at (iE_code (i := 2) rfl) k1) (contR ?_))
  rw [List.nil_append]
  refine seqR ?_
  simp -dsimp [LIM]
  refine contR ?_
  have hit : iE (eFr (eUnF gRev (eVar 3))) [.p (manD m), .p (.int (beh m p ds : Nat)), .p (.str (codeS ds)), .o (.lst ((posns m p ds).map posD)), .u, .p (.tup [.int 0, .int 0]), .p (.int 1), .p (.int 1), .u, .u, .u] = .ok ((posns m p ds).reverse.map posD) [.p (manD m), .p (.int (beh m p ds : Nat)), .p (.str (codeS ds)), .o (.lst ((posns m p ds).map posD)), .u, .p (.tup [.int 0, .int 0]), .p (.int 1), .p (.int 1), .u, .u, .u] := by
    simp -dsimp [LIM, posns_len, show ds.length ≤ 100000 by omega]
  refine seqR (.nxE (for_at hit k2) (contR ?_))
  simp -dsimp
theorem law_place_ok {m : Man} (h : ManOk m) {ds : List Nat} (hd : Digs m ds) (hl : ds.length ≤ 100) : ev__law_place [manD m, .str (codeS ds)] = .ok (posD (plc m 0 0 0 ds)) .non := by
  have k := law_place_by_ok h (p := 0) h.n0 hd hl
  rw [show ((0 : Nat) : Int) = 0 from rfl] at k
  simp -dsimp [ev__law_place, fnD, bd__law_place, k]
end CM

namespace CM
open PySem PySem.Spec PyProof.Rows L2 DL DLH
/-! codes refused -/
theorem are_digits_ok {m : Man} (h : ManOk m) {ds : List Nat} (hd : Digs m ds) (hl : ds.length ≤ 1000) : ev_are_digits [.str (codeS ds), .int (m.c * m.r)] = .ok (.bl true) .non := by
  have hm := mul_small h.c h.r
  obtain ⟨n, hn⟩ := Int.eq_ofNat_of_zero_le (show 0 ≤ m.c * m.r by omega)
  have k := compL_map (g := gN 2) (t := tYs) (f := eOp gIn (eVar 2) (eSl (eC (.str "012345678")) oNo (oPt (eVar 1)))) (vs := [2]) [.p (.str (codeS ds)), .p (.int (m.c * m.r)), .u] trueF (ds.map fun d => D.str (dig d)) []
    (fun x hx => by
      obtain ⟨d, hd', rfl⟩ := List.mem_map.mp hx
      have hdn : d < n := by have := hd d hd'; omega
      have z := in_digits n (by omega) d hdn
      have z2 : gIn (.str (dig d)) (.str (cutS "012345678" none (some (m.c * m.r)))) = some (.bl true) := by
        rw [hn]
        simp only [gIn, gInB]
        rw [if_pos (show (dig d).length = 1 from rfl)]
        show some (D.bl (decide ((48 + d) ∈ (cutS "012345678" none (some ((n : Nat) : Int))).cps.toList))) = _
        rw [z]
      have z3 : (Str.ofString "012345678").length ≤ 100000 := by decide +kernel
      exact ⟨_, rfl, rfl, by simp -dsimp [z2, z3, LIM, trueF], by simp⟩) (by simp [LIM]; omega)
  rw [List.nil_append] at k
  have hit : iE (eVar 0) [.p (.str (codeS ds)), .p (.int (m.c * m.r)), .u] = .ok (ds.map fun d => D.str (dig d)) [.p (.str (codeS ds)), .p (.int (m.c * m.r)), .u] := by
    simp -dsimp [codeS_it, -itD]
  simp -dsimp [ev_are_digits, fnD, bd_are_digits, hit, k, blL_true, all_true, -iE_ap, -List.map_map]
theorem man_mul {m : Man} (h : ManOk m) : mulOk m.c m.r = true := mulOk_r (by have := h.r; omega) (by have := h.r; omega)
theorem need_code_of {m : Man} (h : ManOk m) {s : Str} {b : Bool} (hd : ev_are_digits [.str s, .int (m.c * m.r)] = .ok (.bl b) .non) (hb : b = true → ¬ s.length ≤ 30) (hl : s.length ≤ 100000) : ev_need_code [manD m, .str s] = .er ⟨"InvalidCode"⟩ := by
  have e1 := man_mul h
  cases b with
  | false => simp -dsimp [ev_need_code, fnD, bd_need_code, ev_a_code, bd_a_code, man_ix0, man_ix1, -gIx, e1, hd]
  | true =>
    have hb := hb rfl
    obtain ⟨z, hz⟩ : ∃ z : Int, (s.length : Int) = z := ⟨_, rfl⟩
    simp -dsimp [ev_need_code, fnD, bd_need_code, ev_a_code, bd_a_code, man_ix0, man_ix1, -gIx, e1, hd, LIM, hl, hz, show ¬ z ≤ 30 by omega]
theorem need_code_long {m : Man} (h : ManOk m) {ds : List Nat} (hd : Digs m ds) (h1 : 30 < ds.length) (h2 : ds.length ≤ 1000) : ev_need_code [manD m, .str (codeS ds)] = .er ⟨"InvalidCode"⟩ :=
  need_code_of h (are_digits_ok h hd h2) (fun _ => by rw [codeS_len]; omega) (by rw [codeS_len]; omega)
theorem mul_cases {m : Man} (h : ManOk m) : m.c * m.r = 2 ∨ m.c * m.r = 3 ∨ m.c * m.r = 4 ∨ m.c * m.r = 6 ∨ m.c * m.r = 9 := by
  have hc := h.c
  have hr := h.r
  have h1 := h.cr
  have h3 : m.c = 1 ∨ m.c = 2 ∨ m.c = 3 := by omega
  have h4 : m.r = 1 ∨ m.r = 2 ∨ m.r = 3 := by omega
  rcases h3 with e | e | e <;> rcases h4 with e2 | e2 | e2 <;> rw [e, e2] at h1 ⊢ <;> omega
/-- a text that is no row of figures -/
theorem need_code_odd {m : Man} (h : ManOk m) {s : Str} (hl : s.length ≤ 100000) (h2 : ev_are_digits [.str s, .int 2] = .ok (.bl false) .non) (h3 : ev_are_digits [.str s, .int 3] = .ok (.bl false) .non) (h4 : ev_are_digits [.str s, .int 4] = .ok (.bl false) .non) (h6 : ev_are_digits [.str s, .int 6] = .ok (.bl false) .non) (h9 : ev_are_digits [.str s, .int 9] = .ok (.bl false) .non) : ev_need_code [manD m, .str s] = .er ⟨"InvalidCode"⟩ := by
  refine need_code_of h (b := false) ?_ (fun z => nomatch z) hl
  rcases mul_cases h with e | e | e | e | e <;> rw [e] <;> assumption
theorem need_code_9 {m : Man} (h : ManOk m) : ev_need_code [manD m, .str "9"] = .er ⟨"InvalidCode"⟩ :=
  need_code_odd h (by decide +kernel) (by kernel_rfl) (by kernel_rfl) (by kernel_rfl) (by kernel_rfl) (by kernel_rfl)
/-- no text at all -/
theorem need_code_no {m : Man} (h : ManOk m) {d : D} (hd : ∃ T, tyN d = some T ∧ T ≠ .str) : ev_need_code [manD m, d] = .er ⟨"InvalidCode"⟩ := by
  obtain ⟨T, h1, h2⟩ := hd
  have e1 := man_mul h
  have h3 : isiT T .str = false := by cases T <;> first | rfl | exact absurd rfl h2
  simp -dsimp [ev_need_code, fnD, bd_need_code, ev_a_code, bd_a_code, man_ix0, man_ix1, -gIx, e1, ev_are_digits, bd_are_digits, h1, h3, -tyN, -isiT]
end CM

namespace CM
open PySem PySem.Spec PyProof.Rows L2 DL DLH
/-! numbers of codes -/
theorem pick_wide {d : D} {m : Int} (h : Src d) (hm : 0 < m) (hm2 : m < 1000000000000000000) : ∃ x d', ev__law_pick [d, .int m] = .ok (.int x) d' ∧ Src d' ∧ 0 ≤ x ∧ x < m := by
  obtain ⟨a, b, p, rfl, ok⟩ := h
  by_cases ha : 0 < a
  · exact ⟨a % m, srcD (a / m) b p, by simp -dsimp [ev__law_pick, fnD, bd__law_pick, atI, ixN, ha, hm, srcD, divOk_t hm hm2], ⟨_, _, _, rfl, Int.ediv_nonneg ok.a0 (Int.le_of_lt hm), ok.b0, ok.b1, ok.p0, ok.p1⟩, Int.emod_nonneg _ (by omega), Int.emod_lt_of_pos _ hm⟩
  · refine ⟨_, _, pick_low a b p m ha ok hm, ⟨_, _, _, rfl, ok.a0, Int.emod_nonneg _ (by have := ok.p0; omega), ?_, ok.p0, ok.p1⟩, Int.emod_nonneg _ (by omega), Int.emod_lt_of_pos _ hm⟩
    have h2 := Int.emod_lt_of_pos (b * 48271 + 11) ok.p0
    have h3 := ok.p1
    omega
def num (b : Int) : Int → List Nat → Int
  | x, [] => x
  | x, d :: ds => num b (x * b + (d : Nat)) ds
theorem num_app (b : Int) : ∀ (A B : List Nat) (x : Int), num b x (A ++ B) = num b (num b x A) B
  | [], _, _ => rfl
  | _ :: A, B, _ => num_app b A B _
theorem num_lin (b : Int) : ∀ (e : List Nat) (x : Int), num b x e = x * b ^ e.length + num b 0 e
  | [], x => by simp [num]
  | d :: e, x => by
    have h1 := num_lin b e (x * b + (d : Nat))
    have h2 := num_lin b e (0 * b + (d : Nat))
    have e1 : num b x (d :: e) = num b (x * b + (d : Nat)) e := rfl
    have e2 : num b 0 (d :: e) = num b (0 * b + (d : Nat)) e := rfl
    rw [e1, h1, e2, h2, List.length_cons]
    simp only [Int.zero_mul, Int.zero_add, Int.pow_succ, Int.add_mul]
    rw [Int.mul_comm (b ^ e.length) b, ← Int.mul_assoc, Int.add_assoc]
theorem num_bd {b : Int} (hb : 0 < b) : ∀ {e : List Nat}, (∀ d ∈ e, (d : Int) < b) → 0 ≤ num b 0 e ∧ num b 0 e < b ^ e.length
  | [], _ => by simp [num]
  | d :: e, h => by
    obtain ⟨i1, i2⟩ := num_bd hb (e := e) fun x hx => h x (List.mem_cons_of_mem _ hx)
    have hd := h d (List.mem_cons_self ..)
    have e1 : num b 0 (d :: e) = num b (0 * b + (d : Nat)) e := rfl
    rw [e1, num_lin, List.length_cons, Int.pow_succ, Int.zero_mul, Int.zero_add]
    have p : 0 < b ^ e.length := Int.pow_pos hb
    generalize b ^ e.length = X at *
    have k1 : 0 ≤ (d : Int) * X := Int.mul_nonneg (by omega) (by omega)
    have k2 : ((d : Int) + 1) * X ≤ b * X := Int.mul_le_mul_of_nonneg_right (by omega) (by omega)
    rw [Int.add_mul, Int.one_mul, Int.mul_comm b] at k2
    omega
theorem size_ok {m : Man} (h : ManOk m) : ev_size_of [manD m] = .ok (.int (m.c * m.r)) .non := by
  have e1 := man_mul h
  simp -dsimp [ev_size_of, fnD, bd_size_of, man_ix0, man_ix1, -gIx, e1]
theorem numin_loop {m : Man} (h : ManOk m) {code : D} : ∀ (ds : List Nat) (x : Int), Digs m ds →
    forL (gN 3) lp_number_in_1 (ds.map fun d => D.str (dig d)) [.p (manD m), .p code, .p (.int x), .u] = .nx [.p (manD m), .p code, .p (.int (num (m.c * m.r) x ds)), .u]
  | [], x, _ => by rw [List.map_nil, forL_nil]; rfl
  | d :: ds, x, hd => by
    have h10 : d < 10 := hd.ten h d (List.mem_cons_self ..)
    have k3 := dig_int h10
    have hs := mul_small h.c h.r
    have e1 : mulOk x (m.c * m.r) = true := mulOk_r (by omega) (by omega)
    have s1 := size_ok h
    have hg : gN 3 (.str (dig d)) [.p (manD m), .p code, .p (.int x), .u] = some [.p (manD m), .p code, .p (.int x), .p (.str (dig d))] := rfl
    have hb : lp_number_in_1 [.p (manD m), .p code, .p (.int x), .p (.str (dig d))] = .nx [.p (manD m), .p code, .p (.int (x * (m.c * m.r) + (d : Nat))), .u] := by
      simp -dsimp [lp_number_in_1, k3, e1, s1, -gInt1]
    rw [List.map_cons, forL_cons, hg, ogo_some, hb, stp_nx, numin_loop h ds _ fun x hx => hd x (List.mem_cons_of_mem _ hx)]
    rfl
theorem number_in_ok {m : Man} (h : ManOk m) {ds : List Nat} (hd : Digs m ds) : ev_number_in [manD m, .str (codeS ds)] = .ok (.int (num (m.c * m.r) 0 ds)) .non := by
  refine fnV ?_
  show Sat _ _ (bd_number_in [.p (manD m), .p (.str (codeS ds)), .u, .u])
  unfold bd_number_in
  refine seqR ?_
  simp -dsimp [LIM]
  refine contR ?_
  refine seqR (.nxE (for_at (iE_code (i := 1) rfl) (numin_loop h (code := .str (codeS ds)) ds 0 hd)) (contR ?_))
  simp -dsimp
theorem number_of_ok {m : Man} (h : ManOk m) {ds : List Nat} (hd : Digs m ds) (hl : ds.length ≤ 30) : ev_number_of [manD m, .str (codeS ds)] = .ok (.int (num (m.c * m.r) 0 ds)) .non := by
  simp -dsimp [ev_number_of, fnD, bd_number_of, need_manner_ok h, need_code_ok h hd hl, number_in_ok h hd]
theorem lawnum_loop {m : Man} (h : ManOk m) {code : D} : ∀ (ds : List Nat) (x : Int), Digs m ds →
    forL (gN 3) lp__law_number_1 (ds.map fun d => D.str (dig d)) [.p (manD m), .p code, .p (.int x), .u] = .nx [.p (manD m), .p code, .p (.int (num (m.c * m.r) x ds)), .u]
  | [], x, _ => by rw [List.map_nil, forL_nil]; rfl
  | d :: ds, x, hd => by
    have h10 : d < 10 := hd.ten h d (List.mem_cons_self ..)
    have k3 := dig_int h10
    have hs := mul_small h.c h.r
    have e1 : mulOk x (m.c * m.r) = true := mulOk_r (by omega) (by omega)
    have e2 := man_mul h
    have hg : gN 3 (.str (dig d)) [.p (manD m), .p code, .p (.int x), .u] = some [.p (manD m), .p code, .p (.int x), .p (.str (dig d))] := rfl
    have hb : lp__law_number_1 [.p (manD m), .p code, .p (.int x), .p (.str (dig d))] = .nx [.p (manD m), .p code, .p (.int (x * (m.c * m.r) + (d : Nat))), .u] := by
      simp -dsimp [lp__law_number_1, k3, e1, e2, man_ix0, man_ix1, -gIx, -gInt1]
    rw [List.map_cons, forL_cons, hg, ogo_some, hb, stp_nx, lawnum_loop h ds _ fun x hx => hd x (List.mem_cons_of_mem _ hx)]
    rfl
theorem law_number_ok {m : Man} (h : ManOk m) {ds : List Nat} (hd : Digs m ds) : ev__law_number [manD m, .str (codeS ds)] = .ok (.int (num (m.c * m.r) 0 ds)) .non := by
  refine fnV ?_
  show Sat _ _ (bd__law_number [.p (manD m), .p (.str (codeS ds)), .u, .u])
  unfold bd__law_number
  refine seqR ?_
  simp -dsimp [LIM]
  refine contR ?_
  refine seqR (.nxE (for_at (iE_code (i := 1) rfl) (lawnum_loop h (code := .str (codeS ds)) ds 0 hd)) (contR ?_))
  simp -dsimp
theorem codefor_loop {m : Man} (h : ManOk m) {N : Int} : ∀ (items : List D) (A B : List Nat), A.length = items.length → Digs m A → Digs m B → A.length + B.length ≤ 1000 →
    forL (gN 4) lp_code_for_1 items [.p (manD m), .p (.int N), .p (.int (num (m.c * m.r) 0 A)), .p (.str (codeS B)), .u] = .nx [.p (manD m), .p (.int N), .p (.int 0), .p (.str (codeS (A ++ B))), .u]
  | [], A, B, hA, _, _, _ => by
    rw [List.length_eq_zero_iff.mp (show A.length = 0 from hA), forL_nil]
    rfl
  | i :: items, A, B, hA, dA, dB, hl => by
    obtain ⟨A', d, rfl⟩ : ∃ A' d, A = A' ++ [d] := ⟨A.dropLast, A.getLast (by intro e; rw [e] at hA; cases hA), (List.dropLast_concat_getLast _).symm⟩
    have dA' : Digs m A' := fun x hx => dA x (List.mem_append_left _ hx)
    have hd0 := dA d (List.mem_append_right _ (List.mem_singleton.mpr rfl))
    have h10 : d < 10 := dA.ten h d (List.mem_append_right _ (List.mem_singleton.mpr rfl))
    have hA' : A'.length = items.length := by rw [List.length_append] at hA; simpa using hA
    have hl' : A'.length + (d :: B).length ≤ 1000 := by rw [List.length_append, List.length_singleton] at hl; rw [List.length_cons]; omega
    have dB' : Digs m (d :: B) := fun x hx => (List.mem_cons.mp hx).elim (fun e => e ▸ hd0) (dB x)
    have ih := codefor_loop h (N := N) items A' (d :: B) hA' dA' dB' hl'
    rw [List.append_cons] at ih
    have hs := mul_small h.c h.r
    have s1 := size_ok h
    have n1 : num (m.c * m.r) 0 (A' ++ [d]) = num (m.c * m.r) 0 A' * (m.c * m.r) + (d : Nat) := by rw [num_app]; rfl
    rw [n1]
    generalize num (m.c * m.r) 0 A' = x at *
    generalize m.c * m.r = b at hs s1 hd0 ⊢
    have m1 : (x * b + (d : Nat)) % b = (d : Nat) := by rw [Int.add_comm, Int.add_mul_emod_self_right]; exact Int.emod_eq_of_lt (by omega) hd0
    have m2 : (x * b + (d : Nat)) / b = x := by rw [Int.add_comm, Int.add_mul_ediv_right _ _ (by omega), Int.ediv_eq_zero_of_lt (by omega) hd0, Int.zero_add]
    have hb0 : 0 < b := by omega
    have e1 : divOk (x * b + (d : Nat)) b = true := divOk_t hb0 (by omega)
    have l1 := codeS_len B
    have l2 : (dig d).length = 1 := rfl
    rw [List.length_append, List.length_singleton] at hl
    have hst : gStr1 [.int (d : Nat)] = some (.str (dig d)) := by
      rw [← dig_str h10]
      simp only [gStr1]
      rw [if_pos (small_log (by omega) (by omega))]
    have ap : dig d ++ codeS B = codeS (d :: B) := by rw [show dig d = codeS [d] from rfl, codeS_app]; rfl
    have hg : gN 4 i [.p (manD m), .p (.int N), .p (.int (x * b + (d : Nat))), .p (.str (codeS B)), .u] = some [.p (manD m), .p (.int N), .p (.int (x * b + (d : Nat))), .p (.str (codeS B)), .p i] := rfl
    have hb : lp_code_for_1 [.p (manD m), .p (.int N), .p (.int (x * b + (d : Nat))), .p (.str (codeS B)), .p i] = .nx [.p (manD m), .p (.int N), .p (.int x), .p (.str (codeS (d :: B))), .u] := by
      simp -dsimp [lp_code_for_1, s1, hb0, e1, m1, m2, hst, -gStr1, l1, l2, LIM, show B.length + 1 ≤ 100000 by omega, show 1 + B.length ≤ 100000 by omega, ap]
    rw [forL_cons, hg, ogo_some, hb, stp_nx, ih]
theorem code_for_ok {m : Man} (h : ManOk m) {N : Int} {ds : List Nat} (hd : Digs m ds) (hN : (ds.length : Int) = N) (hl : ds.length ≤ 100) : ev_code_for [manD m, .int N, .int (num (m.c * m.r) 0 ds)] = .ok (.str (codeS ds)) .non := by
  refine fnV ?_
  show Sat _ _ (bd_code_for [.p (manD m), .p (.int N), .p (.int (num (m.c * m.r) 0 ds)), .u, .u])
  unfold bd_code_for
  have hNn : N.toNat = ds.length := by omega
  have k := codefor_loop h (N := N) (rng 0 N.toNat) ds [] (by rw [rng_len, hNn]) hd (fun x hx => by cases hx) (by simp; omega)
  rw [List.append_nil, show codeS [] = "" from rfl] at k
  refine seqR ?_
  simp -dsimp [LIM]
  refine contR ?_
  refine seqR (.nxE (for_at (iRg_at (i := 1) rfl (bg_t (by omega) (by omega))) k) (contR ?_))
  simp -dsimp
/-- powers to the base 9 -/
theorem pow9_loop {b n : Int} (hb : 1 ≤ b ∧ b ≤ 9) : ∀ (items : List D) (x : Int), forL (gN 3) lp__law_power_1 items [.p (.int b), .p (.int n), .p (.int x), .u] = .nx [.p (.int b), .p (.int n), .p (.int (x * b ^ items.length)), .u]
  | [], x => by rw [forL_nil]; simp
  | i :: items, x => by
    have e1 : mulOk x b = true := mulOk_r (by omega) (by omega)
    have hg : gN 3 i [.p (.int b), .p (.int n), .p (.int x), .u] = some [.p (.int b), .p (.int n), .p (.int x), .p i] := rfl
    have hb2 : lp__law_power_1 [.p (.int b), .p (.int n), .p (.int x), .p i] = .nx [.p (.int b), .p (.int n), .p (.int (x * b)), .u] := by
      simp -dsimp [lp__law_power_1, e1]
    rw [forL_cons, hg, ogo_some, hb2, stp_nx, pow9_loop hb items (x * b), List.length_cons, Int.mul_assoc, Int.pow_succ, Int.mul_comm b]
theorem power9_ok {b : Int} {j : Int} {n : Nat} (hb : 1 ≤ b ∧ b ≤ 9) (hj : (n : Int) = j) (hn : j ≤ 1000) : ev__law_power [.int b, .int j] = .ok (.int (b ^ n)) .non := by
  refine fnV ?_
  show Sat _ _ (bd__law_power [.p (.int b), .p (.int j), .u, .u])
  unfold bd__law_power
  have hjn : j.toNat = n := by omega
  have k := pow9_loop (n := j) hb (rng 0 j.toNat) 1
  rw [rng_len, hjn, Int.one_mul, ← hjn] at k
  refine seqR ?_
  simp -dsimp [LIM]
  refine contR ?_
  refine seqR (.nxE (for_at (iRg_at (i := 1) rfl (bg_t (by omega) (by omega))) k) (contR ?_))
  simp -dsimp [hjn]
theorem all_cells_ok {m : Man} (h : ManOk m) {j : Int} {n : Nat} (hj : (n : Int) = j) (hn : j ≤ 1000) : ev_all_cells [manD m, .int j] = .ok (.int ((m.c * m.r) ^ n)) .non := by
  have hs := mul_small h.c h.r
  have p1 := ppower_ok (b := m.c * m.r) (by omega) hj hn
  simp -dsimp [ev_all_cells, fnD, bd_all_cells, size_ok h, p1]
theorem code_at_ok {m : Man} (h : ManOk m) {N : Int} {ds : List Nat} (hd : Digs m ds) (hN : (ds.length : Int) = N) (hl : ds.length ≤ 30) : ev_code_at [manD m, .int N, .int (num (m.c * m.r) 0 ds)] = .ok (.str (codeS ds)) .non := by
  have hs := mul_small h.c h.r
  have b1 := num_bd (b := m.c * m.r) (by omega) hd
  have c1 := code_for_ok h hd hN (by omega)
  have a1 := all_cells_ok h hN (by omega)
  generalize num (m.c * m.r) 0 ds = x at *
  generalize (m.c * m.r) ^ ds.length = y at *
  simp -dsimp [ev_code_at, fnD, bd_code_at, need_manner_ok h, need_depth_ok (show 0 ≤ N ∧ N ≤ 30 by omega), a1, c1, ev_need_number, bd_need_number, is_between_int, b1.1, show x ≤ y - 1 by omega]
theorem need_number_er {d : D} {a b : D} (h : ev_is_between [d, a, b] = .ok (.bl false) .non) : ev_need_number [d, a, b] = .er ⟨"InvalidNumber"⟩ := by
  simp -dsimp [ev_need_number, fnD, bd_need_number, h]
theorem code_at_er {m : Man} (h : ManOk m) {N : Int} {n : Nat} (hN : (n : Int) = N) (hl : n ≤ 30) {d : D} (hd : ∀ y, (m.c * m.r) ^ n = y → ev_is_between [d, .int 0, .int (y - 1)] = .ok (.bl false) .non) : ev_code_at [manD m, .int N, d] = .er ⟨"InvalidNumber"⟩ := by
  have a1 := all_cells_ok h hN (by omega)
  have e1 := need_number_er (hd _ rfl)
  generalize (m.c * m.r) ^ n = y at *
  simp -dsimp [ev_code_at, fnD, bd_code_at, need_manner_ok h, need_depth_ok (show 0 ≤ N ∧ N ≤ 30 by omega), a1, e1]
theorem need_depth_od {d : D} (h : ev_is_between [d, .int 0, .int 30] = .ok (.bl false) .non) : ev_need_depth [d] = .er ⟨"InvalidDepth"⟩ := by
  simp -dsimp [ev_need_depth, fnD, bd_need_depth, h]
theorem code_at_er1 {m : Man} (h : ManOk m) {d x : D} (hd : ev_need_depth [d] = .er ⟨"InvalidDepth"⟩) : ev_code_at [manD m, d, x] = .er ⟨"InvalidDepth"⟩ := by
  simp -dsimp [ev_code_at, fnD, bd_code_at, need_manner_ok h, hd]
end CM

namespace CM
open PySem PySem.Spec PyProof.Rows L2 DL DLH
/-! codes of places -/
def gridP (c r : Int) : List Pos2 := (List.range c.toNat).flatMap fun (i : Nat) => (List.range r.toNat).map fun (j : Nat) => ((i : Int), (j : Int))
theorem gridP_mem {c r x y : Int} (h : 0 ≤ x ∧ x < c) (h2 : 0 ≤ y ∧ y < r) : (x, y) ∈ gridP c r :=
  List.mem_flatMap.mpr ⟨x.toNat, List.mem_range.mpr (by omega), List.mem_map.mpr ⟨y.toNat, List.mem_range.mpr (by omega), Prod.ext (Int.toNat_of_nonneg h.1) (Int.toNat_of_nonneg h2.1)⟩⟩
theorem gridP_len {c r : Int} (h : 1 ≤ c ∧ c ≤ 3) (h2 : 1 ≤ r ∧ r ≤ 3) : ((gridP c r).length : Int) = c * r := by
  have h3 : c = 1 ∨ c = 2 ∨ c = 3 := by omega
  have h4 : r = 1 ∨ r = 2 ∨ r = 3 := by omega
  rcases h3 with rfl | rfl | rfl <;> rcases h4 with rfl | rfl | rfl <;> rfl
theorem cell_of {m : Man} (h : ManOk m) {p : Nat} (hp : p < m.pats.length) {x y : Int} (hx : 0 ≤ x ∧ x < m.c) (hy : 0 ≤ y ∧ y < m.r) : ∃ d : Nat, (d : Int) < m.c * m.r ∧ (cellN m p d).1 = (x, y) := by
  have ok := patN_ok h hp
  by_cases hm : (x, y) ∈ (patN m p).map (·.1)
  · obtain ⟨q, h1, h2⟩ := List.mem_map.mp hm
    obtain ⟨d, h3, h4⟩ := List.getElem_of_mem h1
    have hl := ok.len
    refine ⟨d, by omega, ?_⟩
    unfold cellN
    simp only [List.getD_eq_getElem?_getD, List.getElem?_eq_getElem h3, Option.getD_some]
    rw [h4, h2]
  · have k := nodup_len (l := (x, y) :: (patN m p).map (·.1)) (m := gridP m.c m.r) (List.nodup_cons.mpr ⟨hm, ok.nd⟩) (fun z hz => by
      rcases List.mem_cons.mp hz with rfl | hz
      · exact gridP_mem hx hy
      · obtain ⟨q, h1, rfl⟩ := List.mem_map.mp hz
        have := ok.pos q h1
        exact gridP_mem ⟨this.1, this.2.1⟩ this.2.2)
    have l1 := gridP_len h.c h.r
    have l2 := ok.len
    rw [List.length_cons, List.length_map] at k
    omega
theorem cellN_inj {m : Man} (h : ManOk m) {p : Nat} (hp : p < m.pats.length) {d e : Nat} (hd : (d : Int) < m.c * m.r) (he : (e : Int) < m.c * m.r) (hq : (cellN m p d).1 = (cellN m p e).1) : d = e := by
  obtain ⟨a1, a2, a3⟩ := cellN_mem h hp hd
  obtain ⟨b1, b2, b3⟩ := cellN_mem h hp he
  have nd := (patN_ok h hp).nd
  have e1 : ((patN m p).map (·.1))[d]? = ((patN m p).map (·.1))[e]? := by rw [List.getElem?_map, List.getElem?_map, a3, b3]; simp [hq]
  exact (List.getElem?_inj (by rw [List.length_map]; exact a1) nd).mp e1
theorem plc_cons {m : Man} (p d : Nat) (e : List Nat) : plc m 0 0 p (d :: e) = ((cellN m p d).1.1 * m.c ^ e.length + (plc m 0 0 (nx m p d) e).1, (cellN m p d).1.2 * m.r ^ e.length + (plc m 0 0 (nx m p d) e).2) := by
  show plc m (0 * m.c + (cellN m p d).1.1) (0 * m.r + (cellN m p d).1.2) (nx m p d) e = _
  rw [plc_lin, Int.zero_mul, Int.zero_mul, Int.zero_add, Int.zero_add]
theorem two_parts {a b X s t : Int} (hs : 0 ≤ s ∧ s < X) (ht : 0 ≤ t ∧ t < X) (h : a * X + s = b * X + t) : a = b ∧ s = t := by
  have h1 : (a * X + s) / X = a := by rw [Int.add_comm, Int.add_mul_ediv_right _ _ (by omega), Int.ediv_eq_zero_of_lt hs.1 hs.2, Int.zero_add]
  have h2 : (b * X + t) / X = b := by rw [Int.add_comm, Int.add_mul_ediv_right _ _ (by omega), Int.ediv_eq_zero_of_lt ht.1 ht.2, Int.zero_add]
  have h3 : a = b := by rw [← h1, ← h2, h]
  subst h3
  exact ⟨rfl, by omega⟩
theorem plc_inj {m : Man} (h : ManOk m) : ∀ (a b : List Nat) (p : Nat), p < m.pats.length → Digs m a → Digs m b → a.length = b.length → plc m 0 0 p a = plc m 0 0 p b → a = b
  | [], b, _, _, _, _, hl, _ => (List.length_eq_zero_iff.mp hl.symm).symm
  | d :: a, [], _, _, _, _, hl, _ => by cases hl
  | d :: a, e :: b, p, hp, da, db, hl, hq => by
    have hd := da d (List.mem_cons_self ..)
    have he := db e (List.mem_cons_self ..)
    have da' : Digs m a := fun x hx => da x (List.mem_cons_of_mem _ hx)
    have db' : Digs m b := fun x hx => db x (List.mem_cons_of_mem _ hx)
    have hl' : a.length = b.length := by simpa using hl
    rw [plc_cons, plc_cons, ← hl'] at hq
    obtain ⟨x1, x2⟩ := plc_bd h a _ (nx_lt h hp hd) da'
    obtain ⟨y1, y2⟩ := plc_bd h b _ (nx_lt h hp he) db'
    rw [← hl'] at y1 y2
    obtain ⟨q1, q2⟩ := Prod.mk.inj hq
    obtain ⟨u1, u2⟩ := two_parts x1 y1 q1
    obtain ⟨v1, v2⟩ := two_parts x2 y2 q2
    have hde := cellN_inj h hp hd he (Prod.ext u1 v1)
    subst hde
    rw [plc_inj h a b _ (nx_lt h hp hd) da' db' hl' (Prod.ext u2 v2)]
def downs : Nat → List D
  | 0 => []
  | n + 1 => .int (n : Nat) :: downs n
theorem rngC_downs : ∀ n : Nat, rngC ((n : Int) - 1) (-1) n = downs n
  | 0 => rfl
  | n + 1 => by
    have ih := rngC_downs n
    unfold rngC at *
    rw [List.range_succ_eq_map, List.map_cons, List.map_map, downs, ← ih]
    congr 1
    · congr 1
      push_cast
      omega
    · refine List.map_congr_left fun i _ => ?_
      show D.int _ = D.int _
      congr 1
      push_cast
      omega
def hits (h : Pos2) : Nat → List Cell → List D
  | _, [] => []
  | i, q :: r => if q.1 = h then .int (i : Nat) :: hits h (i + 1) r else hits h (i + 1) r
theorem hits_first {h : Pos2} : ∀ (l : List Cell) (i d : Nat) (q : Cell), (l.map (·.1)).Nodup → l[d]? = some q → q.1 = h → ∃ r, hits h i l = .int (((i + d : Nat)) : Int) :: r
  | [], _, _, _, _, h, _ => by simp at h
  | a :: l, i, 0, q, _, h1, h2 => by
    obtain rfl : a = q := by simpa using h1
    exact ⟨_, by rw [hits, if_pos h2]; rfl⟩
  | a :: l, i, d + 1, q, nd, h1, h2 => by
    obtain ⟨n1, n2⟩ := List.nodup_cons.mp nd
    have h1' : l[d]? = some q := by simpa using h1
    have hne : ¬ a.1 = h := fun e => n1 (List.mem_map.mpr ⟨q, List.mem_of_getElem? h1', by rw [h2]; exact e.symm⟩)
    obtain ⟨r, hr⟩ := hits_first l (i + 1) d q n2 h1' h2
    exact ⟨r, by rw [hits, if_neg hne, hr, show i + 1 + d = i + (d + 1) by omega]⟩
theorem comp_hits {env : Ev} {h : Pos2} (hl : env.length = 15) (h10 : env[10]? = some (.p (posD h))) (h13 : env[13]? = some .u) (h14 : env[14]? = some .u) : ∀ (l : List Cell) (i : Nat) (acc : List D), acc.length + l.length ≤ 1000 →
    compL (gT 2 (gsCons (gN 13) (gsCons (gN 14) gsNil))) (tE (eOp gEq (eSl (eVar 14) oNo (oPt (eC (.int 2)))) (eVar 10))) (eVar 13) [13, 14] (enumL i (l.map cl)) env acc = .ok (acc ++ hits h i l) env
  | [], i, acc, _ => by rw [List.map_nil, enumL, compL_nil, hits, List.append_nil]
  | q :: l, i, acc, hc => by
    rw [List.length_cons] at hc
    have g1 : gEq (.tup [.int q.1.1, .int q.1.2]) (posD h) = some (.bl (decide (q.1 = h))) := gEq_pos q.1 h
    have cc := cut_cl q
    have a1 : (env.set 13 (.p (.int (i : Nat))))[14]? = some .u := by rw [List.getElem?_set_ne (by omega)]; exact h14
    have a2 : ((env.set 13 (.p (.int (i : Nat)))).set 14 (.p (cl q)))[14]? = some (.p (cl q)) := by rw [List.getElem?_set_self (by rw [List.length_set]; omega)]
    have a3 : ((env.set 13 (.p (.int (i : Nat)))).set 14 (.p (cl q)))[13]? = some (.p (.int (i : Nat))) := by rw [List.getElem?_set_ne (by omega), List.getElem?_set_self (by omega)]
    have a4 : ((env.set 13 (.p (.int (i : Nat)))).set 14 (.p (cl q)))[10]? = some (.p (posD h)) := by rw [List.getElem?_set_ne (by omega), List.getElem?_set_ne (by omega)]; exact h10
    have a5 : fgt [13, 14] ((env.set 13 (.p (.int (i : Nat)))).set 14 (.p (cl q))) = env := by
      refine List.ext_getElem? fun n => ?_
      by_cases e1 : n = 13
      · subst e1; rw [h13]; simp [hl]
      by_cases e2 : n = 14
      · subst e2; rw [h14]; simp [hl]
      simp [List.getElem?_set_ne, Ne.symm e1, Ne.symm e2]
    have hg : gT 2 (gsCons (gN 13) (gsCons (gN 14) gsNil)) (.tup [.int (i : Nat), cl q]) env = some ((env.set 13 (.p (.int (i : Nat)))).set 14 (.p (cl q))) := rfl
    have ht : tE (eOp gEq (eSl (eVar 14) oNo (oPt (eC (.int 2)))) (eVar 10)) ((env.set 13 (.p (.int (i : Nat)))).set 14 (.p (cl q))) = .ok (decide (q.1 = h)) ((env.set 13 (.p (.int (i : Nat)))).set 14 (.p (cl q))) := by
      generalize (env.set 13 (.p (.int (i : Nat)))).set 14 (.p (cl q)) = E at *
      simp -dsimp [a2, a4, cl, cc, g1, LIM]
    have hf : eVar 13 ((env.set 13 (.p (.int (i : Nat)))).set 14 (.p (cl q))) = .ok (.v (.int (i : Nat))) ((env.set 13 (.p (.int (i : Nat)))).set 14 (.p (cl q))) := by
      generalize (env.set 13 (.p (.int (i : Nat)))).set 14 (.p (cl q)) = E at *
      simp -dsimp [a3]
    rw [List.map_cons, enumL, compL_cons, hg, lc_some, ht, bnK_ok]
    by_cases hq : q.1 = h
    · rw [if_pos (decide_eq_true hq), hf, bnK_ok]
      show (if acc.length < LIM then compL _ _ _ _ (enumL (i + 1) (l.map cl)) (fgt [13, 14] _) (acc ++ [_]) else .no) = _
      rw [if_pos (by simp [LIM]; omega), a5, comp_hits hl h10 h13 h14 l (i + 1) _ (by rw [List.length_append, List.length_singleton]; omega), hits, if_pos hq, List.append_assoc]
      rfl
    · rw [if_neg (by simp [hq]), a5, comp_hits hl h10 h13 h14 l (i + 1) acc (by omega), hits, if_neg hq]
theorem str_dig {d : Nat} (h10 : d < 10) : gStr1 [.int (d : Nat)] = some (.str (dig d)) := by
  rw [← dig_str h10]
  simp only [gStr1]
  rw [if_pos (small_log (by omega) (by omega))]
def ei (m : Man) (N pl : D) (x y : Int) (p : Nat) (A : List Nat) : Ev := [.p (manD m), .p N, .p pl, .p (.int x), .p (.int y), .p (.int (p : Nat)), .p (.str (codeS A)), .u, .u, .u, .u, .u, .u, .u, .u]
theorem codein_body {N0 B C : Ev → Prop} {P : Pr} {m : Man} (h : ManOk m) {N pl : D} {n : Nat} {k : Int} (hk : (n : Int) = k) (hn : n ≤ 31) {x y X Y : Int} {p d : Nat} {A : List Nat} (hX : m.c ^ n = X) (hY : m.r ^ n = Y) (hp : p < m.pats.length) (hd : (d : Int) < m.c * m.r) (hq : (cellN m p d).1 = (x / X, y / Y)) (hA : A.length ≤ 100) (hN0 : N0 (ei m N pl (x % X) (y % Y) (nx m p d) (A ++ [d]))) :
    Sat N0 (P.lp B C) (lp_code_in_1 [.p (manD m), .p N, .p pl, .p (.int x), .p (.int y), .p (.int (p : Nat)), .p (.str (codeS A)), .p (.int k), .u, .u, .u, .u, .u, .u, .u]) := by
  have s1 := sides_ok h hk (by omega)
  obtain ⟨x1, x2⟩ := pow_30 h.c hn
  obtain ⟨y1, y2⟩ := pow_30 h.r hn
  rw [hX, hY] at s1
  rw [hX] at x1 x2
  rw [hY] at y1 y2
  have d1 : divOk x X = true := divOk_t x1 (by omega)
  have d2 : divOk y Y = true := divOk_t y1 (by omega)
  obtain ⟨c1, c2, c3⟩ := cellN_mem h hp hd
  obtain ⟨r, hr⟩ := hits_first (patN m p) 0 d (cellN m p d) (patN_ok h hp).nd c3 hq
  rw [Nat.zero_add] at hr
  have k1 := pat_at hp
  have k2 := cell_at h hp hd
  have l9 : (patN m p).length ≤ 9 := (pat_len h (p := patN m p) (by rw [patN_at hp]; exact List.getElem_mem hp)).1
  have lc : eFr (eLc (iEn (aCons (eVar 11) aNil)) (gT 2 (gsCons (gN 13) (gsCons (gN 14) gsNil))) (tE (eOp gEq (eSl (eVar 14) oNo (oPt (eC (.int 2)))) (eVar 10))) (eVar 13) [13, 14]) [.p (manD m), .p N, .p pl, .p (.int (x % X)), .p (.int (y % Y)), .p (.int (p : Nat)), .p (.str (codeS A)), .p (.int k), .p (.int X), .p (.int Y), .p (posD (x / X, y / Y)), .p (.tup ((patN m p).map cl)), .u, .u, .u]
    = .ok (.v (.lst (.int (d : Nat) :: r))) [.p (manD m), .p N, .p pl, .p (.int (x % X)), .p (.int (y % Y)), .p (.int (p : Nat)), .p (.str (codeS A)), .p (.int k), .p (.int X), .p (.int Y), .p (posD (x / X, y / Y)), .p (.tup ((patN m p).map cl)), .u, .u, .u] := by
    have c := comp_hits (env := [.p (manD m), .p N, .p pl, .p (.int (x % X)), .p (.int (y % Y)), .p (.int (p : Nat)), .p (.str (codeS A)), .p (.int k), .p (.int X), .p (.int Y), .p (posD (x / X, y / Y)), .p (.tup ((patN m p).map cl)), .u, .u, .u]) (h := (x / X, y / Y)) rfl rfl rfl rfl (patN m p) 0 [] (by simp; omega)
    rw [List.nil_append, hr] at c
    rw [eFr_ap, lc_at (it := iEn (aCons (eVar 11) aNil)) (by simp -dsimp) rfl rfl rfl c]
    rfl
  have h10 : d < 10 := by have := mul_small h.c h.r; omega
  have st := str_dig h10
  have l1 := codeS_len A
  have l2 : (dig d).length = 1 := rfl
  have ap : codeS A ++ dig d = codeS (A ++ [d]) := by rw [show dig d = codeS [d] from rfl, codeS_app]
  have i0 : atI (D.int (d : Nat) :: r) 0 = some (.int (d : Nat)) := by
    rw [show (0 : Int) = ((0 : Nat) : Int) from rfl, atI_nat' (by simp)]
    rfl
  unfold lp_code_in_1
  refine afR ?_
  refine seqR ?_
  simp -dsimp [s1, posD]
  refine contR ?_
  refine seqR ?_
  simp -dsimp [LIM, d1, d2]
  refine contR ?_
  refine seqR ?_
  simp -dsimp [LIM, x1, y1]
  refine contR ?_
  refine seqR ?_
  simp -dsimp [k1, man_ix2, -gIx, show gIx (D.tup (m.pats.map patD)) (.int (p : Nat)) = some (D.tup ((patN m p).map cl)) from k1]
  refine contR ?_
  refine seqR (.nxE (e := [.p (manD m), .p N, .p pl, .p (.int (x % X)), .p (.int (y % Y)), .p (.int (p : Nat)), .p (.str (codeS A)), .p (.int k), .p (.int X), .p (.int Y), .p (posD (x / X, y / Y)), .p (.tup ((patN m p).map cl)), .p (.int (d : Nat)), .u, .u]) ?_ (contR ?_))
  · rw [sSet_ap, eOp_ap]
    unfold posD at lc
    rw [lc]
    simp -dsimp [i0, posD, -List.map_map]
  simp -dsimp [k2, at3, st, -gStr1, l1, l2, LIM, show A.length + 1 ≤ 100000 by omega, ap, -List.map_map]
  exact hN0
theorem codein_loop {m : Man} (h : ManOk m) {N pl : D} : ∀ (n : Nat) (x y : Int) (p : Nat) (A : List Nat), n ≤ 31 → (0 ≤ x ∧ x < m.c ^ n) → (0 ≤ y ∧ y < m.r ^ n) → p < m.pats.length → A.length + n ≤ 100 →
    ∃ ds x' y' p', ds.length = n ∧ Digs m ds ∧ plc m 0 0 p ds = (x, y) ∧ forL (gN 7) lp_code_in_1 (downs n) (ei m N pl x y p A) = .nx (ei m N pl x' y' p' (A ++ ds))
  | 0, x, y, p, A, _, hx, hy, _, _ => ⟨[], x, y, p, rfl, (fun z hz => by cases hz), by
      rw [Int.pow_zero] at hx hy
      show ((0 : Int), (0 : Int)) = _
      exact Prod.ext (show 0 = x by omega) (show 0 = y by omega), by rw [downs, forL_nil, List.append_nil]⟩
  | n + 1, x, y, p, A, hn, hx, hy, hp, hA => by
    obtain ⟨x1, _⟩ := pow_30 h.c (show n ≤ 31 by omega)
    obtain ⟨y1, _⟩ := pow_30 h.r (show n ≤ 31 by omega)
    rw [Int.pow_succ] at hx hy
    obtain ⟨d, hd, hq⟩ := cell_of h hp (x := x / m.c ^ n) (y := y / m.r ^ n) ⟨Int.ediv_nonneg hx.1 (by omega), Int.ediv_lt_of_lt_mul x1 (by rw [Int.mul_comm]; exact hx.2)⟩ ⟨Int.ediv_nonneg hy.1 (by omega), Int.ediv_lt_of_lt_mul y1 (by rw [Int.mul_comm]; exact hy.2)⟩
    obtain ⟨ds, x', y', p', e1, e2, e3, e4⟩ := codein_loop h (N := N) (pl := pl) n (x % m.c ^ n) (y % m.r ^ n) (nx m p d) (A ++ [d]) (by omega) ⟨Int.emod_nonneg _ (by omega), Int.emod_lt_of_pos _ x1⟩ ⟨Int.emod_nonneg _ (by omega), Int.emod_lt_of_pos _ y1⟩ (nx_lt h hp hd) (by rw [List.length_append, List.length_singleton]; omega)
    have b := nxV (codein_body h (N := N) (pl := pl) (n := n) rfl (by omega) rfl rfl hp hd hq (A := A) (by omega) (isE_self _))
    refine ⟨d :: ds, x', y', p', by rw [List.length_cons, e1], fun z hz => (List.mem_cons.mp hz).elim (fun e => e ▸ hd) (e2 z), ?_, ?_⟩
    · rw [plc_cons, e1, e3, hq]
      exact Prod.ext (by show x / m.c ^ n * m.c ^ n + x % m.c ^ n = x; rw [Int.mul_comm]; exact Int.mul_ediv_add_emod x _) (by show y / m.r ^ n * m.r ^ n + y % m.r ^ n = y; rw [Int.mul_comm]; exact Int.mul_ediv_add_emod y _)
    · have hg : gN 7 (.int (n : Nat)) (ei m N pl x y p A) = some [.p (manD m), .p N, .p pl, .p (.int x), .p (.int y), .p (.int (p : Nat)), .p (.str (codeS A)), .p (.int (n : Nat)), .u, .u, .u, .u, .u, .u, .u] := rfl
      rw [downs, forL_cons, hg, ogo_some, b, stp_nx, e4, List.append_assoc]
      rfl
theorem code_in_ok {m : Man} (h : ManOk m) {n : Nat} {N : Int} (hN : (n : Int) = N) (hn : n ≤ 31) {x y : Int} (hx : 0 ≤ x ∧ x < m.c ^ n) (hy : 0 ≤ y ∧ y < m.r ^ n) : ∃ ds, ds.length = n ∧ Digs m ds ∧ plc m 0 0 0 ds = (x, y) ∧ ev_code_in [manD m, .int N, .tup [.int x, .int y]] = .ok (.str (codeS ds)) .non := by
  obtain ⟨ds, x', y', p', e1, e2, e3, e4⟩ := codein_loop h (N := .int N) (pl := .tup [.int x, .int y]) n x y 0 [] hn hx hy h.n0 (by simp; omega)
  refine ⟨ds, e1, e2, e3, fnV ?_⟩
  show Sat _ _ (bd_code_in [.p (manD m), .p (.int N), .p (.tup [.int x, .int y]), .u, .u, .u, .u, .u, .u, .u, .u, .u, .u, .u, .u])
  unfold bd_code_in
  refine seqR ?_
  simp -dsimp [LIM]
  refine contR ?_
  refine seqR ?_
  simp -dsimp [LIM]
  refine contR ?_
  have hit : iRg3 (aCons (eOp gSub (eVar 1) (eC (.int 1))) (aCons (eUn gNeg (eC (.int 1))) (aCons (eUn gNeg (eC (.int 1))) aNil))) [.p (manD m), .p (.int N), .p (.tup [.int x, .int y]), .p (.int x), .p (.int y), .p (.int 0), .p (.str ""), .u, .u, .u, .u, .u, .u, .u, .u] = .ok (downs n) [.p (manD m), .p (.int N), .p (.tup [.int x, .int y]), .p (.int x), .p (.int y), .p (.int 0), .p (.str ""), .u, .u, .u, .u, .u, .u, .u, .u] := by
    rw [← rngC_downs n, hN]
    have b1 : bg (N - 1) = true := bg_t (by omega) (by omega)
    have b2 : bg (-1) = true := bg_t (by omega) (by omega)
    simp -dsimp [b1, b2, show N.toNat = n by omega]
  refine seqR (.nxE (for_at hit e4) (contR ?_))
  rw [List.nil_append]
  unfold ei
  simp -dsimp
end CM

namespace CM
open PySem PySem.Spec PyProof.Rows L2 DL DLH
/-! the places of all codes of a depth -/
def codesL (b : Nat) : Nat → List (List Nat)
  | 0 => [[]]
  | t + 1 => (List.range b).flatMap fun d => (codesL b t).map (d :: ·)
def sz (m : Man) : Nat := (m.c * m.r).toNat
theorem sz_int {m : Man} (h : ManOk m) : ((sz m : Nat) : Int) = m.c * m.r := Int.toNat_of_nonneg (by have := mul_small h.c h.r; omega)
theorem codesL_mem {b : Nat} : ∀ {t : Nat} {e : List Nat}, e ∈ codesL b t → e.length = t ∧ ∀ d ∈ e, d < b
  | 0, e, h => by
    obtain rfl : e = [] := by simpa [codesL] using h
    exact ⟨rfl, fun d hd => by cases hd⟩
  | t + 1, e, h => by
    obtain ⟨d, h1, h2⟩ := List.mem_flatMap.mp h
    obtain ⟨f, h3, rfl⟩ := List.mem_map.mp h2
    obtain ⟨h4, h5⟩ := codesL_mem h3
    exact ⟨by rw [List.length_cons, h4], fun x hx => (List.mem_cons.mp hx).elim (fun e => e ▸ List.mem_range.mp h1) (h5 x)⟩
theorem codesL_digs {m : Man} (h : ManOk m) {t : Nat} {e : List Nat} (he : e ∈ codesL (sz m) t) : e.length = t ∧ Digs m e := by
  obtain ⟨h1, h2⟩ := codesL_mem he
  have h3 := sz_int h
  exact ⟨h1, fun d hd => by have := h2 d hd; omega⟩
theorem sum_const {α : Type} (n : Nat) : ∀ l : List α, (l.map fun _ => n).sum = l.length * n
  | [] => by simp
  | _ :: l => by rw [List.map_cons, List.sum_cons, sum_const n l, List.length_cons, Nat.add_mul, Nat.one_mul, Nat.add_comm]
theorem codesL_len (b : Nat) : ∀ t : Nat, (codesL b t).length = b ^ t
  | 0 => rfl
  | t + 1 => by
    rw [codesL, List.length_flatMap]
    simp only [List.length_map, codesL_len b t]
    rw [sum_const, List.length_range, Nat.pow_succ, Nat.mul_comm]
/-- all of them -/
theorem codesL_all {b : Nat} : ∀ {e : List Nat}, (∀ d ∈ e, d < b) → e ∈ codesL b e.length
  | [], _ => List.mem_singleton.mpr rfl
  | d :: e, h => List.mem_flatMap.mpr ⟨d, List.mem_range.mpr (h d (List.mem_cons_self ..)), List.mem_map.mpr ⟨e, codesL_all fun x hx => h x (List.mem_cons_of_mem _ hx), rfl⟩⟩
/-- their numbers are their spots -/
theorem range_flat (n : Nat) : ∀ a : Nat, ((List.range a).flatMap fun d => (List.range n).map fun i => d * n + i) = List.range (a * n)
  | 0 => by simp
  | a + 1 => by
    rw [List.range_succ, List.flatMap_append, range_flat n a, Nat.add_mul, Nat.one_mul, List.range_add]
    simp
theorem codesL_num (b : Nat) : ∀ t : Nat, ((codesL b t).map fun e => num (b : Int) 0 e) = (List.range (b ^ t)).map fun (i : Nat) => (i : Int)
  | 0 => rfl
  | t + 1 => by
    rw [Nat.pow_succ, Nat.mul_comm, ← range_flat, codesL, List.map_flatMap, List.map_flatMap]
    congr 1
    funext d
    rw [List.map_map, List.map_map]
    have ih := codesL_num b t
    have key : ∀ e ∈ codesL b t, ((fun e => num (b : Int) 0 e) ∘ (d :: ·)) e = (fun x => (((d * b ^ t : Nat) : Int) + x)) (num (b : Int) 0 e) := fun e he => by
      show num (b : Int) (0 * (b : Int) + (d : Nat)) e = _
      rw [num_lin, (codesL_mem he).1, Int.zero_mul, Int.zero_add]
      push_cast
      rfl
    rw [List.map_congr_left key]
    have k2 := congrArg (List.map fun x => (((d * b ^ t : Nat) : Int) + x)) ih
    rw [List.map_map, List.map_map] at k2
    refine k2.trans (List.map_congr_left fun i _ => ?_)
    show ((d * b ^ t : Nat) : Int) + (i : Int) = ((d * b ^ t + i : Nat) : Int)
    push_cast
    rfl
def tab (m : Man) (t p : Nat) : List Pos2 := (codesL (sz m) t).map (plc m 0 0 p)
def lift (q : Cell) (W H : Int) (z : Pos2) : Pos2 := (q.1.1 * W + z.1, q.1.2 * H + z.2)
theorem pat_range {m : Man} (h : ManOk m) {p : Nat} (hp : p < m.pats.length) : patN m p = (List.range (sz m)).map (cellN m p) := by
  have l := (patN_ok h hp).len
  have s := sz_int h
  refine List.ext_getElem? fun i => ?_
  rw [List.getElem?_map]
  by_cases hi : i < sz m
  · obtain ⟨_, _, h3⟩ := cellN_mem h hp (d := i) (by omega)
    rw [h3, List.getElem?_range hi]
    rfl
  · rw [List.getElem?_eq_none (by omega), List.getElem?_eq_none (by rw [List.length_range]; omega)]
    rfl
theorem tab_succ {m : Man} (h : ManOk m) {t p : Nat} (hp : p < m.pats.length) : tab m (t + 1) p = (patN m p).flatMap fun q => (tab m t q.2.toNat).map (lift q (m.c ^ t) (m.r ^ t)) := by
  rw [pat_range h hp]
  unfold tab
  rw [codesL, List.map_flatMap, List.flatMap_map]
  congr 1
  funext d
  rw [List.map_map, List.map_map]
  refine List.map_congr_left fun e he => ?_
  show plc m 0 0 p (d :: e) = lift (cellN m p d) _ _ (plc m 0 0 (cellN m p d).2.toNat e)
  rw [plc_cons, (codesL_mem he).1]
  rfl
def tabD (m : Man) (t : Nat) : D := .lst ((List.range m.pats.length).map fun p => .lst ((tab m t p).map posD))
theorem tab_at {m : Man} {t : Nat} {z : Int} (h : 0 ≤ z ∧ z < m.pats.length) : gIx (tabD m t) (.int z) = some (.lst ((tab m t z.toNat).map posD)) := by
  obtain ⟨k, rfl⟩ := Int.eq_ofNat_of_zero_le h.1
  show atI _ _ = _
  rw [atI_nat' (by rw [List.length_map, List.length_range]; omega), List.getElem_map, List.getElem_range]
  rfl
theorem tab_len (m : Man) (t p : Nat) : (tab m t p).length = sz m ^ t := by unfold tab; rw [List.length_map, codesL_len]
def et (m : Man) (N F : D) (W H : Int) (lv la row : Sl) (S : List Pos2) : Ev := [.p (manD m), .p N, .p F, .p (.int W), .p (.int H), lv, la, row, .p (.lst (S.map posD)), .u, .u, .u, .u, .u]
theorem table_cells {m : Man} {N : D} {W H : Int} {lv la row : Sl} {t : Nat} : ∀ (L : List Cell) (S : List Pos2), (∀ q ∈ L, (0 ≤ q.1.1 ∧ q.1.1 < 10) ∧ (0 ≤ q.1.2 ∧ q.1.2 < 10) ∧ 0 ≤ q.2 ∧ q.2 < m.pats.length) → S.length + L.length * sz m ^ t ≤ 100000 →
    forL (gT 3 (gsCons (gN 9) (gsCons (gN 10) (gsCons (gN 11) gsNil)))) lp__law_table_1 (L.map cl) (et m N (tabD m t) W H lv la row S) = .nx (et m N (tabD m t) W H lv la row (S ++ L.flatMap fun q => (tab m t q.2.toNat).map (lift q W H)))
  | [], S, _, _ => by rw [List.map_nil, forL_nil, List.flatMap_nil, List.append_nil]
  | q :: L, S, hq, hl => by
    rw [List.length_cons, Nat.add_mul, Nat.one_mul] at hl
    obtain ⟨⟨q1, q2⟩, ⟨q3, q4⟩, q5⟩ := hq q (List.mem_cons_self ..)
    have ih := table_cells (N := N) (W := W) (H := H) (lv := lv) (la := la) (row := row) (t := t) L (S ++ (tab m t q.2.toNat).map (lift q W H)) (fun x hx => hq x (List.mem_cons_of_mem _ hx)) (by rw [List.length_append, List.length_map, tab_len]; omega)
    have ta := tab_at (t := t) q5
    have tl := tab_len m t q.2.toNat
    generalize hT : tab m t q.2.toNat = T at ta tl ih ⊢
    have e1 : mulOk q.1.1 W = true := mulOk_l (by omega) (by omega)
    have e2 : mulOk q.1.2 H = true := mulOk_l (by omega) (by omega)
    have lc : eLc (iE (eOp gIx (eVar 2) (eVar 11))) (gT 2 (gsCons (gN 12) (gsCons (gN 13) gsNil))) tYs (eTup (aCons (eOp gAdd (eOp gMulI (eVar 9) (eVar 3)) (eVar 12)) (aCons (eOp gAdd (eOp gMulI (eVar 10) (eVar 4)) (eVar 13)) aNil))) [12, 13] [.p (manD m), .p N, .p (tabD m t), .p (.int W), .p (.int H), lv, la, row, .p (.lst (S.map posD)), .p (.int q.1.1), .p (.int q.1.2), .p (.int q.2), .u, .u] = .ok (.lst ((T.map (lift q W H)).map posD)) [.p (manD m), .p N, .p (tabD m t), .p (.int W), .p (.int H), lv, la, row, .p (.lst (S.map posD)), .p (.int q.1.1), .p (.int q.1.2), .p (.int q.2), .u, .u] := by
      have c := compL_map (g := gT 2 (gsCons (gN 12) (gsCons (gN 13) gsNil))) (t := tYs) (f := eTup (aCons (eOp gAdd (eOp gMulI (eVar 9) (eVar 3)) (eVar 12)) (aCons (eOp gAdd (eOp gMulI (eVar 10) (eVar 4)) (eVar 13)) aNil))) (vs := [12, 13]) [.p (manD m), .p N, .p (tabD m t), .p (.int W), .p (.int H), lv, la, row, .p (.lst (S.map posD)), .p (.int q.1.1), .p (.int q.1.2), .p (.int q.2), .u, .u] (fun d => posD (lift q W H (unpos d))) (T.map posD) []
        (fun d hd => by
          obtain ⟨z, _, rfl⟩ := List.mem_map.mp hd
          exact ⟨_, rfl, rfl, by
            have u : unpos (.tup [.int z.1, .int z.2]) = z := unpos_pos z
            simp -dsimp [e1, e2, LIM, u, lift, posD], rfl⟩) (by simp [LIM]; omega)
      have hit : iE (eOp gIx (eVar 2) (eVar 11)) [.p (manD m), .p N, .p (tabD m t), .p (.int W), .p (.int H), lv, la, row, .p (.lst (S.map posD)), .p (.int q.1.1), .p (.int q.1.2), .p (.int q.2), .u, .u] = .ok (T.map posD) [.p (manD m), .p N, .p (tabD m t), .p (.int W), .p (.int H), lv, la, row, .p (.lst (S.map posD)), .p (.int q.1.1), .p (.int q.1.2), .p (.int q.2), .u, .u] := by
        simp -dsimp [ta, -gIx]
      have ef : ((fun d => posD (lift q W H (unpos d))) ∘ posD) = posD ∘ lift q W H := funext fun z => by
        show posD (lift q W H (unpos (posD z))) = _
        rw [unpos_pos]
        rfl
      rw [lc_at hit rfl rfl rfl c, List.nil_append, List.map_map, List.map_map, ef]
    have hg : gT 3 (gsCons (gN 9) (gsCons (gN 10) (gsCons (gN 11) gsNil))) (cl q) (et m N (tabD m t) W H lv la row S) = some [.p (manD m), .p N, .p (tabD m t), .p (.int W), .p (.int H), lv, la, row, .p (.lst (S.map posD)), .p (.int q.1.1), .p (.int q.1.2), .p (.int q.2), .u, .u] := rfl
    have hb : lp__law_table_1 [.p (manD m), .p N, .p (tabD m t), .p (.int W), .p (.int H), lv, la, row, .p (.lst (S.map posD)), .p (.int q.1.1), .p (.int q.1.2), .p (.int q.2), .u, .u] = .nx (et m N (tabD m t) W H lv la row (S ++ T.map (lift q W H))) := by
      simp -dsimp [lp__law_table_1, lc, -eLc_ap, -gMulI, LIM, tl, show S.length + sz m ^ t ≤ 100000 by omega, -List.map_map, et]
    rw [List.map_cons, forL_cons, hg, ogo_some, hb, stp_nx, ih, List.flatMap_cons, hT, List.append_assoc]
theorem table_rows {m : Man} (h : ManOk m) {N : D} {lv : Sl} {t : Nat} (hb : sz m ^ (t + 1) ≤ 100000) {W H : Int} (hW : m.c ^ t = W) (hH : m.r ^ t = H) : ∀ (k : Nat) (ps : List Nat), (∀ p ∈ ps, p < m.pats.length) → k + ps.length ≤ 1000 → ∀ acc : List D, acc.length = k →
    forL (gN 7) lp__law_table_2 (ps.map fun p => patD (patN m p)) [.p (manD m), .p N, .p (tabD m t), .p (.int W), .p (.int H), lv, .o (.lst acc), .u, .u, .u, .u, .u, .u, .u] =
      .nx [.p (manD m), .p N, .p (tabD m t), .p (.int W), .p (.int H), lv, .o (.lst (acc ++ ps.map fun p => .lst ((tab m (t + 1) p).map posD))), .u, .u, .u, .u, .u, .u, .u]
  | k, [], _, _, acc, _ => by rw [List.map_nil, List.map_nil, forL_nil, List.append_nil]
  | k, p :: ps, hp, hk, acc, ha => by
    rw [List.length_cons] at hk
    have hp0 := hp p (List.mem_cons_self ..)
    have ok := patN_ok h hp0
    have ts := tab_succ h (t := t) hp0
    have tl := tab_len m (t + 1) p
    have s1 := sz_int h
    have hl : (patN m p).length = sz m := by have := ok.len; omega
    have hc := h.c
    have hr := h.r
    have loop := fun lv la row => table_cells (m := m) (N := N) (W := W) (H := H) (t := t) (lv := lv) (la := la) (row := row) (patN m p) [] (fun q hq => by
      have := ok.pos q hq
      have := ok.nxt q hq
      omega) (by rw [hl, List.length_nil, Nat.zero_add]; rw [Nat.pow_succ, Nat.mul_comm] at hb; exact hb)
    rw [List.nil_append, ← hW, ← hH, ← ts, hW, hH] at loop
    have hg : gN 7 (patD (patN m p)) [.p (manD m), .p N, .p (tabD m t), .p (.int W), .p (.int H), lv, .o (.lst acc), .u, .u, .u, .u, .u, .u, .u] = some [.p (manD m), .p N, .p (tabD m t), .p (.int W), .p (.int H), lv, .o (.lst acc), .p (patD (patN m p)), .u, .u, .u, .u, .u, .u] := rfl
    have hb2 : lp__law_table_2 [.p (manD m), .p N, .p (tabD m t), .p (.int W), .p (.int H), lv, .o (.lst acc), .p (patD (patN m p)), .u, .u, .u, .u, .u, .u] = .nx [.p (manD m), .p N, .p (tabD m t), .p (.int W), .p (.int H), lv, .o (.lst (acc ++ [.lst ((tab m (t + 1) p).map posD)])), .u, .u, .u, .u, .u, .u, .u] := by
      generalize tab m (t + 1) p = T at *
      refine nxV ?_
      unfold lp__law_table_2
      refine afR ?_
      refine seqR ?_
      simp -dsimp [LIM]
      refine contR ?_
      have hit : iE (eVar 7) [.p (manD m), .p N, .p (tabD m t), .p (.int W), .p (.int H), lv, .o (.lst acc), .p (patD (patN m p)), .p (.lst []), .u, .u, .u, .u, .u] = .ok ((patN m p).map cl) [.p (manD m), .p N, .p (tabD m t), .p (.int W), .p (.int H), lv, .o (.lst acc), .p (patD (patN m p)), .p (.lst []), .u, .u, .u, .u, .u] := by
        simp -dsimp [patD, -List.map_map]
      refine seqR (.nxE (for_at hit (loop ..)) (contR ?_))
      unfold et
      simp -dsimp [LIM, ha, show k < 100000 by omega, show k + 1 ≤ 100000 by omega, -List.map_map]
      exact isE_self _
    rw [List.map_cons, forL_cons, hg, ogo_some, hb2, stp_nx, table_rows h hb hW hH (k + 1) ps (fun x hx => hp x (List.mem_cons_of_mem _ hx)) (by omega) _ (by rw [List.length_append, ha, List.length_singleton])]
    rw [List.append_assoc]
    rfl
theorem pats_range {m : Man} : m.pats.map patD = (List.range m.pats.length).map fun p => patD (patN m p) := by
  refine List.ext_getElem? fun i => ?_
  rw [List.getElem?_map, List.getElem?_map]
  by_cases hi : i < m.pats.length
  · rw [List.getElem?_eq_getElem hi, List.getElem?_range hi]
    show some (patD m.pats[i]) = some (patD (patN m i))
    rw [patN_at hi]
  · rw [List.getElem?_eq_none (by omega), List.getElem?_eq_none (by rw [List.length_range]; omega)]
    rfl
theorem sz_le {m : Man} (h : ManOk m) : 2 ≤ sz m ∧ sz m ≤ 9 := by
  have := sz_int h
  have := mul_small h.c h.r
  have := h.cr
  omega
theorem table_levels {m : Man} (h : ManOk m) {N : D} : ∀ (items : List D) (t : Nat), sz m ^ (t + items.length) ≤ 100000 → t + items.length ≤ 30 →
    forL (gN 5) lp__law_table_3 items [.p (manD m), .p N, .p (tabD m t), .p (.int (m.c ^ t)), .p (.int (m.r ^ t)), .u, .u, .u, .u, .u, .u, .u, .u, .u] = .nx [.p (manD m), .p N, .p (tabD m (t + items.length)), .p (.int (m.c ^ (t + items.length))), .p (.int (m.r ^ (t + items.length))), .u, .u, .u, .u, .u, .u, .u, .u, .u]
  | [], t, _, _ => by rw [forL_nil]; rfl
  | i :: items, t, hb, hl => by
    rw [List.length_cons] at hl hb
    rw [show t + (items.length + 1) = (t + 1) + items.length by omega] at hb
    have ih := table_levels h (N := N) items (t + 1) hb (by omega)
    have hb1 : sz m ^ (t + 1) ≤ 100000 := Nat.le_trans (Nat.pow_le_pow_right (by have := sz_le h; omega) (by omega)) hb
    have rows := table_rows h (N := N) (lv := .p i) (t := t) hb1 rfl rfl 0 (List.range m.pats.length) (fun p hp => List.mem_range.mp hp) (by rw [List.length_range]; have := h.n6; omega) [] rfl
    rw [← pats_range, List.nil_append] at rows
    have hc := h.c
    have hr := h.r
    rw [Int.pow_succ, Int.pow_succ] at ih
    rw [List.length_cons, show t + (items.length + 1) = (t + 1) + items.length by omega]
    generalize m.c ^ (t + 1 + items.length) = X1 at *
    generalize m.r ^ (t + 1 + items.length) = Y1 at *
    generalize m.c ^ t = X at *
    generalize m.r ^ t = Y at *
    have e3 : mulOk X m.c = true := mulOk_r (by omega) (by omega)
    have e4 : mulOk Y m.r = true := mulOk_r (by omega) (by omega)
    have hg : gN 5 i [.p (manD m), .p N, .p (tabD m t), .p (.int X), .p (.int Y), .u, .u, .u, .u, .u, .u, .u, .u, .u] = some [.p (manD m), .p N, .p (tabD m t), .p (.int X), .p (.int Y), .p i, .u, .u, .u, .u, .u, .u, .u, .u] := rfl
    have hb2 : lp__law_table_3 [.p (manD m), .p N, .p (tabD m t), .p (.int X), .p (.int Y), .p i, .u, .u, .u, .u, .u, .u, .u, .u] = .nx [.p (manD m), .p N, .p (tabD m (t + 1)), .p (.int (X * m.c)), .p (.int (Y * m.r)), .u, .u, .u, .u, .u, .u, .u, .u, .u] := by
      refine nxV ?_
      unfold lp__law_table_3
      refine afR ?_
      refine seqR ?_
      simp -dsimp [LIM]
      refine contR ?_
      have hit : iE (eOp gIx (eVar 0) (eC (.int 2))) [.p (manD m), .p N, .p (tabD m t), .p (.int X), .p (.int Y), .p i, .o (.lst []), .u, .u, .u, .u, .u, .u, .u] = .ok (m.pats.map patD) [.p (manD m), .p N, .p (tabD m t), .p (.int X), .p (.int Y), .p i, .o (.lst []), .u, .u, .u, .u, .u, .u, .u] := by
        simp -dsimp [man_ix2, -gIx]
      refine seqR (.nxE (for_at hit rows) (contR ?_))
      rw [show D.lst ((List.range m.pats.length).map fun p => D.lst ((tab m (t + 1) p).map posD)) = tabD m (t + 1) from rfl]
      simp -dsimp [LIM, e3, e4, man_ix0, man_ix1, -gIx]
      exact isE_self _
    rw [forL_cons, hg, ogo_some, hb2, stp_nx, ih]
theorem law_table_ok {m : Man} (h : ManOk m) {t : Nat} {N : Int} (hN : (t : Int) = N) (hb : sz m ^ t ≤ 100000) (h30 : t ≤ 30) : ev__law_table [manD m, .int N] = .ok (.lst ((tab m t 0).map posD)) .non := by
  refine fnV ?_
  show Sat _ _ (bd__law_table [.p (manD m), .p (.int N), .u, .u, .u, .u, .u, .u, .u, .u, .u, .u, .u, .u])
  unfold bd__law_table
  have hNt : N.toNat = t := by omega
  have lev := table_levels h (N := .int N) (rng 0 N.toNat) 0 (by rw [rng_len, hNt, Nat.zero_add]; exact hb) (by rw [rng_len, hNt]; omega)
  rw [Int.pow_zero, Int.pow_zero, rng_len, Nat.zero_add] at lev
  have c := compL_map (g := gN 7) (t := tYs) (f := eFr (eLst (aCons (eTup (aCons (eC (.int 0)) (aCons (eC (.int 0)) aNil))) aNil))) (vs := [7]) [.p (manD m), .p (.int N), .u, .u, .u, .u, .u, .u, .u, .u, .u, .u, .u, .u] (fun _ => .lst [.tup [.int 0, .int 0]]) (m.pats.map patD) [] (fun d _ => ⟨_, rfl, rfl, by simp -dsimp [LIM], rfl⟩) (by have := h.n6; simp [LIM]; omega)
  have hit : iE (eOp gIx (eVar 0) (eC (.int 2))) [.p (manD m), .p (.int N), .u, .u, .u, .u, .u, .u, .u, .u, .u, .u, .u, .u] = .ok (m.pats.map patD) [.p (manD m), .p (.int N), .u, .u, .u, .u, .u, .u, .u, .u, .u, .u, .u, .u] := by
    simp -dsimp [man_ix2, -gIx]
  have lc := lc_at hit rfl rfl rfl c
  have et0 : D.lst ((m.pats.map patD).map fun _ => .lst [.tup [.int 0, .int 0]]) = tabD m 0 := by
    rw [pats_range, List.map_map]
    rfl
  rw [List.nil_append, et0] at lc
  refine seqR ?_
  simp -dsimp [lc, -eLc_ap, LIM]
  refine contR ?_
  refine seqR (.nxE (for_at (iRg_at (i := 1) rfl (bg_t (by omega) (by omega))) lev) (contR ?_))
  have i0 : gIx (tabD m t) (.int 0) = some (.lst ((tab m t 0).map posD)) := tab_at (z := 0) ⟨by omega, by have := h.n0; omega⟩
  simp -dsimp [i0, -gIx, hNt]
/-- what the numbers of the places of a table are -/
theorem tab_num {m : Man} (h : ManOk m) {t : Nat} {d : D} (hd : d ∈ enumL 0 ((tab m t 0).map posD)) : ∃ ds, ds.length = t ∧ Digs m ds ∧ d = .tup [.int (num (m.c * m.r) 0 ds), posD (plc m 0 0 0 ds)] := by
  obtain ⟨j, hj, e⟩ := List.getElem_of_mem hd
  obtain ⟨x, h1, h2⟩ := enumL_get _ 0 j d (by rw [List.getElem?_eq_getElem hj, e])
  unfold tab at h1
  rw [List.map_map, List.getElem?_map] at h1
  cases q : (codesL (sz m) t)[j]? with
  | none => rw [q] at h1; cases h1
  | some ds =>
    rw [q] at h1
    obtain rfl := (Option.some.inj h1).symm
    obtain ⟨l1, l2⟩ := codesL_digs h (List.mem_of_getElem? q)
    refine ⟨ds, l1, l2, ?_⟩
    have k := congrArg (fun l => l[j]?) (codesL_num (sz m) t)
    simp only [List.getElem?_map, q] at k
    cases r : (List.range (sz m ^ t))[j]? with
    | none => rw [r] at k; cases k
    | some i =>
      rw [r] at k
      have k2 : num ((sz m : Nat) : Int) 0 ds = (i : Int) := Option.some.inj k
      have k3 : i = j := by
        have := List.getElem?_eq_some_iff.mp r
        obtain ⟨_, e⟩ := this
        rw [List.getElem_range] at e
        exact e.symm
      rw [h2, ← sz_int h, k2, k3, Nat.zero_add]
      rfl
end CM

namespace CM
open PySem PySem.Spec PyProof.Rows L2 DL DLH
/-! codes by the law, depths, tables without repetitions -/
theorem lawcode_loop {m : Man} (h : ManOk m) {N : D} : ∀ (items : List D) (A B : List Nat), A.length = items.length → Digs m A → Digs m B → A.length + B.length ≤ 1000 →
    forL (gN 4) lp__law_code_1 items [.p (manD m), .p N, .p (.int (num (m.c * m.r) 0 A)), .p (.str (codeS B)), .u] = .nx [.p (manD m), .p N, .p (.int 0), .p (.str (codeS (A ++ B))), .u]
  | [], A, B, hA, _, _, _ => by
    rw [List.length_eq_zero_iff.mp (show A.length = 0 from hA), forL_nil]
    rfl
  | i :: items, A, B, hA, dA, dB, hl => by
    obtain ⟨A', d, rfl⟩ : ∃ A' d, A = A' ++ [d] := ⟨A.dropLast, A.getLast (by intro e; rw [e] at hA; cases hA), (List.dropLast_concat_getLast _).symm⟩
    have dA' : Digs m A' := fun x hx => dA x (List.mem_append_left _ hx)
    have hd0 := dA d (List.mem_append_right _ (List.mem_singleton.mpr rfl))
    have h10 : d < 10 := dA.ten h d (List.mem_append_right _ (List.mem_singleton.mpr rfl))
    have hA' : A'.length = items.length := by rw [List.length_append] at hA; simpa using hA
    have hl' : A'.length + (d :: B).length ≤ 1000 := by rw [List.length_append, List.length_singleton] at hl; rw [List.length_cons]; omega
    have dB' : Digs m (d :: B) := fun x hx => (List.mem_cons.mp hx).elim (fun e => e ▸ hd0) (dB x)
    have ih := lawcode_loop h (N := N) items A' (d :: B) hA' dA' dB' hl'
    rw [List.append_cons] at ih
    have hs := mul_small h.c h.r
    have mm := man_mul h
    have n1 : num (m.c * m.r) 0 (A' ++ [d]) = num (m.c * m.r) 0 A' * (m.c * m.r) + (d : Nat) := by rw [num_app]; rfl
    rw [n1]
    generalize num (m.c * m.r) 0 A' = x at *
    obtain ⟨b, hb⟩ : ∃ b, b = m.c * m.r := ⟨_, rfl⟩
    have m1 : (x * (m.c * m.r) + (d : Nat)) % (m.c * m.r) = (d : Nat) := by rw [Int.add_comm, Int.add_mul_emod_self_right]; exact Int.emod_eq_of_lt (by omega) hd0
    have m2 : (x * (m.c * m.r) + (d : Nat)) / (m.c * m.r) = x := by rw [Int.add_comm, Int.add_mul_ediv_right _ _ (by omega), Int.ediv_eq_zero_of_lt (by omega) hd0, Int.zero_add]
    have hb0 : 0 < m.c * m.r := by omega
    have e1 : divOk (x * (m.c * m.r) + (d : Nat)) (m.c * m.r) = true := divOk_t hb0 (by omega)
    have l1 := codeS_len B
    have l2 : (dig d).length = 1 := rfl
    rw [List.length_append, List.length_singleton] at hl
    have hst := str_dig h10
    have ap : dig d ++ codeS B = codeS (d :: B) := by rw [show dig d = codeS [d] from rfl, codeS_app]; rfl
    have hg : gN 4 i [.p (manD m), .p N, .p (.int (x * (m.c * m.r) + (d : Nat))), .p (.str (codeS B)), .u] = some [.p (manD m), .p N, .p (.int (x * (m.c * m.r) + (d : Nat))), .p (.str (codeS B)), .p i] := rfl
    have hb : lp__law_code_1 [.p (manD m), .p N, .p (.int (x * (m.c * m.r) + (d : Nat))), .p (.str (codeS B)), .p i] = .nx [.p (manD m), .p N, .p (.int x), .p (.str (codeS (d :: B))), .u] := by
      simp -dsimp [lp__law_code_1, man_ix0, man_ix1, -gIx, mm, hb0, e1, m1, m2, hst, -gStr1, l1, l2, LIM, show B.length + 1 ≤ 100000 by omega, show 1 + B.length ≤ 100000 by omega, ap]
    rw [forL_cons, hg, ogo_some, hb, stp_nx, ih]
theorem law_code_ok {m : Man} (h : ManOk m) {N : Int} {ds : List Nat} (hd : Digs m ds) (hN : (ds.length : Int) = N) (hl : ds.length ≤ 100) : ev__law_code [manD m, .int N, .int (num (m.c * m.r) 0 ds)] = .ok (.str (codeS ds)) .non := by
  refine fnV ?_
  show Sat _ _ (bd__law_code [.p (manD m), .p (.int N), .p (.int (num (m.c * m.r) 0 ds)), .u, .u])
  unfold bd__law_code
  have hNn : N.toNat = ds.length := by omega
  have k := lawcode_loop h (N := .int N) (rng 0 N.toNat) ds [] (by rw [rng_len, hNn]) hd (fun x hx => by cases hx) (by simp; omega)
  rw [List.append_nil, show codeS [] = "" from rfl] at k
  refine seqR ?_
  simp -dsimp [LIM]
  refine contR ?_
  refine seqR (.nxE (for_at (iRg_at (i := 1) rfl (bg_t (by omega) (by omega))) k) (contR ?_))
  simp -dsimp
/-- the depth to which all is looked at -/
theorem law_deep_ok {m : Man} (h : ManOk m) : ∃ (q : Nat) (z : Int), (q : Int) = z ∧ ev__law_deep [manD m] = .ok (.int z) .non ∧ 2 ≤ q ∧ q ≤ 6 ∧ sz m ^ q ≤ 216 ∧ sz m ^ (q - 1) ≤ 36 := by
  have mm := man_mul h
  have hs := sz_int h
  rcases mul_cases h with e | e | e | e | e
  · have e2 : sz m = 2 := by omega
    exact ⟨6, 6, rfl, by simp -dsimp [ev__law_deep, fnD, bd__law_deep, eDct, man_ix0, man_ix1, -gIx, mm, e, keyD, lookK], by omega, by omega, by rw [e2]; decide, by rw [e2]; decide⟩
  · have e2 : sz m = 3 := by omega
    exact ⟨4, 4, rfl, by simp -dsimp [ev__law_deep, fnD, bd__law_deep, eDct, man_ix0, man_ix1, -gIx, mm, e, keyD, lookK], by omega, by omega, by rw [e2]; decide, by rw [e2]; decide⟩
  · have e2 : sz m = 4 := by omega
    exact ⟨3, 3, rfl, by simp -dsimp [ev__law_deep, fnD, bd__law_deep, eDct, man_ix0, man_ix1, -gIx, mm, e, keyD, lookK], by omega, by omega, by rw [e2]; decide, by rw [e2]; decide⟩
  · have e2 : sz m = 6 := by omega
    exact ⟨3, 3, rfl, by simp -dsimp [ev__law_deep, fnD, bd__law_deep, eDct, man_ix0, man_ix1, -gIx, mm, e, keyD, lookK], by omega, by omega, by rw [e2]; decide, by rw [e2]; decide⟩
  · have e2 : sz m = 9 := by omega
    exact ⟨2, 2, rfl, by simp -dsimp [ev__law_deep, fnD, bd__law_deep, eDct, man_ix0, man_ix1, -gIx, mm, e, keyD, lookK], by omega, by omega, by rw [e2]; decide, by rw [e2]; decide⟩
theorem codesL_nodup (b t : Nat) : (codesL b t).Nodup := by
  have h : ((codesL b t).map fun e => num (b : Int) 0 e).Nodup := by
    rw [codesL_num]
    exact nodup_map_inj (fun x y e => Int.ofNat.inj e) List.nodup_range
  exact (List.pairwise_map.mp h).imp fun h e => h (by rw [e])
theorem tab_nodup {m : Man} (h : ManOk m) (t : Nat) : (tab m t 0).Nodup := by
  unfold tab
  refine List.pairwise_map.mpr ((codesL_nodup (sz m) t).imp_of_mem fun {a b} ha hb hne e => hne ?_)
  obtain ⟨a1, a2⟩ := codesL_digs h ha
  obtain ⟨b1, b2⟩ := codesL_digs h hb
  exact plc_inj h a b 0 h.n0 a2 b2 (by rw [a1, b1]) e
/-- the place that stands at a number -/
theorem tab_get {m : Man} (h : ManOk m) {t j : Nat} (hj : j < sz m ^ t) : ∃ ds, ds.length = t ∧ Digs m ds ∧ num (m.c * m.r) 0 ds = (j : Int) ∧ (codesL (sz m) t)[j]? = some ds ∧ (tab m t 0)[j]? = some (plc m 0 0 0 ds) := by
  have hl : j < (codesL (sz m) t).length := by rw [codesL_len]; exact hj
  obtain ⟨l1, l2⟩ := codesL_digs h (List.getElem_mem hl)
  refine ⟨(codesL (sz m) t)[j], l1, l2, ?_, List.getElem?_eq_getElem hl, ?_⟩
  · have k := congrArg (fun l => l[j]?) (codesL_num (sz m) t)
    simp only [List.getElem?_map, List.getElem?_eq_getElem hl, List.getElem?_range hj, Option.map_some] at k
    rw [← sz_int h]
    exact Option.some.inj k
  · unfold tab
    rw [List.getElem?_map, List.getElem?_eq_getElem hl]
    rfl
theorem tab_ix {m : Man} {t j : Nat} {q : Pos2} (h : (tab m t 0)[j]? = some q) : gIx (.lst ((tab m t 0).map posD)) (.int (j : Nat)) = some (posD q) := by
  obtain ⟨hl, e⟩ := List.getElem?_eq_some_iff.mp h
  show atI _ _ = _
  rw [atI_nat' (by rw [List.length_map]; exact hl), List.getElem_map, e]
theorem tab_set {m : Man} (h : ManOk m) {t : Nat} (hs : sz m ^ t < 64) : gLenSet (.lst ((tab m t 0).map posD)) = some (.int (sz m ^ t : Nat)) := by
  have nd := tab_nodup h t
  have hl := tab_len m t 0
  have e3 : dis ((tab m t 0).map fun x => [x.1, x.2]) = (tab m t 0).map fun x => [x.1, x.2] := dis_nodup (nodup_map_inj (fun x y e => by
    obtain ⟨x1, x2⟩ := x
    obtain ⟨y1, y2⟩ := y
    simp only [List.cons.injEq, and_true] at e
    rw [e.1, e.2]) nd)
  unfold gLenSet
  simp only [tupI_pos]
  rw [e3]
  simp [hl]
  exact_mod_cast hs
theorem place_of_er {m : Man} (h : ManOk m) {d : D} (hd : ev_need_code [manD m, d] = .er ⟨"InvalidCode"⟩) : ev_place_of [manD m, d] = .er ⟨"InvalidCode"⟩ := by
  simp -dsimp [ev_place_of, fnD, bd_place_of, need_manner_ok h, hd]
theorem place_of_er0 {d x : D} (hd : ev_need_manner [d] = .er ⟨"InvalidManner"⟩) : ev_place_of [d, x] = .er ⟨"InvalidManner"⟩ := by
  simp -dsimp [ev_place_of, fnD, bd_place_of, hd]
end CM

namespace K03
open PySem PySem.Spec PyProof.Rows L2 DL DLH CM
theorem nm_manner : nmT "InvalidManner" = some "manner" := by kernel_rfl
theorem nm_code : nmT "InvalidCode" = some "code" := by kernel_rfl
theorem depth_drawn {d : D} (hs : Src d) : ∃ x y d1 d2, ev__law_pick [d, .int 31] = .ok (.int x) d1 ∧ ev__law_chosen [d1, .lst [.int 0, .int 1, .int 2, .int 3, .int 30, .int x]] = .ok (.int y) d2 ∧ Src d2 ∧ 0 ≤ y ∧ y ≤ 30 := by
  obtain ⟨x, d1, a1, a2, a3, a4⟩ := pick_ok (m := 31) hs (by omega) (by omega)
  obtain ⟨y, d2, b1, b2, b3⟩ := chosen_ok (l := [.int 0, .int 1, .int 2, .int 3, .int 30, .int x]) a2 (by simp) (by simp)
  simp only [List.mem_cons, List.not_mem_nil, or_false] at b3
  rcases b3 with rfl | rfl | rfl | rfl | rfl | rfl <;> exact ⟨x, _, d1, d2, a1, b1, b2, by omega, by omega⟩
def zeros31 : Str := codeS (List.replicate 31 0)
theorem z31 : gMulS (.str "0") (.int 31) = some (.str zeros31) := by kernel_rfl
theorem bad_code {m : Man} (h : ManOk m) {d : D} (hs : Src d) : ∃ x d', ev__law_chosen [d, .lst [.non, .str "9", .str zeros31, .int 5, .tup [.str "0"], .str "0 "]] = .ok x d' ∧ Src d' ∧ ev_place_of [manD m, x] = .er ⟨"InvalidCode"⟩ := by
  obtain ⟨x, d', b1, b2, b3⟩ := chosen_ok (l := [.non, .str "9", .str zeros31, .int 5, .tup [.str "0"], .str "0 "]) hs (by simp) (by simp)
  refine ⟨x, d', b1, b2, place_of_er h ?_⟩
  simp only [List.mem_cons, List.not_mem_nil, or_false] at b3
  rcases b3 with rfl | rfl | rfl | rfl | rfl | rfl
  · exact need_code_no h ⟨_, rfl, fun z => nomatch z⟩
  · exact need_code_9 h
  · unfold zeros31
    refine need_code_long h (fun d hd => ?_) (by decide) (by decide)
    rw [List.eq_of_mem_replicate hd]
    have := mul_small h.c h.r
    omega
  · exact need_code_no h ⟨_, rfl, fun z => nomatch z⟩
  · exact need_code_no h ⟨_, rfl, fun z => nomatch z⟩
  · exact need_code_odd h (by decide +kernel) (by kernel_rfl) (by kernel_rfl) (by kernel_rfl) (by kernel_rfl) (by kernel_rfl)
theorem look1 {ns k : D} {m : Man} {x : D} {d : D} (hm : ManOk m) (hs : Src d) {N B C : Ev → Prop} {P : Pr} (hN : ∀ d, Src d → N [.p ns, .p k, .u, .o d, .p (manD m), .u, .u, .u, .u, .u, .u]) : Sat N (P.lp B C) (lp_law_1 [.p ns, .p k, .u, .o d, .p (manD m), .p x, .u, .u, .u, .u, .u]) := by
  unfold lp_law_1
  refine afR ?_
  obtain ⟨x0, j, d1, d2, a1, a2, a3, a4, a5⟩ := depth_drawn hs
  obtain ⟨ds, d3, c1, c2, c3, c4⟩ := any_code_ok (n := j) a3 hm (by omega)
  have p1 := place_of_ok hm c3 (by omega)
  have p2 := law_place_ok hm c3 (by omega)
  refine seqR ?_
  simp -dsimp [a1, a2, c1, LIM]
  refine contR ?_
  simp -dsimp [p1, p2, gNe_pos]
  exact hN d3 c2
theorem look2 {ns k : D} {m : Man} {x : D} {d : D} {t : Nat} {j : Int} (hm : ManOk m) (hs : Src d) (ht : (t : Int) = j) (h30 : t ≤ 30) (hb : sz m ^ t ≤ 1000) {N B C : Ev → Prop} {P : Pr} (hN : ∀ d, Src d → N [.p ns, .p k, .u, .o d, .p (manD m), .u, .p (.int j), .p (.lst ((tab m t 0).map posD)), .u, .u, .u]) : Sat N (P.lp B C) (lp_law_2 [.p ns, .p k, .u, .o d, .p (manD m), .p x, .p (.int j), .p (.lst ((tab m t 0).map posD)), .u, .u, .u]) := by
  unfold lp_law_2
  refine afR ?_
  have tl := tab_len m t 0
  have hs2 := sz_le hm
  have hp : 0 < sz m ^ t := Nat.pow_pos (by omega)
  obtain ⟨Z, hZ⟩ : ∃ Z : Int, ((sz m ^ t : Nat) : Int) = Z := ⟨_, rfl⟩
  obtain ⟨y, d1, a1, a2, a3, a4⟩ := pick_ok (m := Z) hs (by omega) (by omega)
  obtain ⟨i, rfl⟩ := Int.eq_ofNat_of_zero_le a3
  obtain ⟨ds, l1, l2, l3, l4, l5⟩ := tab_get hm (t := t) (j := i) (by omega)
  have g1 := tab_ix l5
  have c1 := law_code_ok hm (N := j) l2 (by rw [l1]; exact ht) (by omega)
  have p1 := place_of_ok hm l2 (by omega)
  rw [l3] at c1
  have hgl : gLen [.lst ((tab m t 0).map posD)] = some (.int Z) := by
    simp only [gLen, lenD, List.length_map, tl, hZ]
    rw [← hZ]
    rfl
  refine seqR ?_
  simp -dsimp [hgl, -gLen, a1]
  refine contR ?_
  simp -dsimp [c1, p1, g1, -gIx, gNe_pos]
  exact hN d1 a2
theorem turn {ns : List Int} {k : Int} (h0 : 0 ≤ k) (h1 : k < 1000) {N B C : Ev → Prop} {P : Pr} (hN : N [.p (.scr ns), .u, .u, .u, .u, .u, .u, .u, .u, .u, .u]) : Sat N (P.lp B C) (lp_law_3 [.p (.scr ns), .p (.int k), .u, .u, .u, .u, .u, .u, .u, .u, .u]) := by
  unfold lp_law_3
  refine afR ?_
  obtain ⟨d, z, s1, s2⟩ := source_ok ns k h0 h1
  obtain ⟨m, d1, m1, m2, hm, m4⟩ := manner_ok s2
  refine seqR ?_
  simp -dsimp [s1]
  refine contR ?_
  refine seqR ?_
  simp -dsimp [m1]
  refine contR ?_
  refine seqR (forI (fun e => ∃ d, e = [.p (.scr ns), .p (.int k), .u, .o d, .p (manD m), .u, .u, .u, .u, .u, .u] ∧ Src d) (items := rng 0 12) (by simp -dsimp [bg_t]) ⟨d1, rfl, m2⟩ (fun y hy e he => ?_) ?_)
  · obtain ⟨d, rfl, hs⟩ := he
    exact ⟨_, rfl, look1 hm hs fun d hs => ⟨d, rfl, hs⟩⟩
  rintro e ⟨d2, rfl, hs⟩
  refine contR ?_
  obtain ⟨q, z, q1, q2, q3, q4, q5, q6⟩ := law_deep_ok hm
  obtain ⟨w, d3, b1, b2, b3, b4⟩ := pick_ok (m := z - 1) hs (by omega) (by omega)
  obtain ⟨t, ht⟩ := Int.eq_ofNat_of_zero_le (show 0 ≤ 1 + w by omega)
  obtain ⟨j, hj⟩ : ∃ j, 1 + w = j := ⟨_, rfl⟩
  have hz := sz_le hm
  have hb : sz m ^ t ≤ 36 := Nat.le_trans (Nat.pow_le_pow_right (by omega) (show t ≤ q - 1 by omega)) q6
  have tb := law_table_ok hm (t := t) (N := j) (by omega) (by omega) (by omega)
  have ts := tab_set hm (t := t) (by omega)
  have hgl : gLen [.lst ((tab m t 0).map posD)] = some (.int ((sz m ^ t : Nat) : Int)) := by
    simp only [gLen, lenD, List.length_map, tab_len m t 0]
    rfl
  refine seqR ?_
  simp -dsimp [q2, b1, hj]
  refine contR ?_
  refine seqR ?_
  simp -dsimp [tb]
  refine contR ?_
  refine seqR ?_
  simp -dsimp [ts, hgl, -gLen, -gLenSet]
  refine contR ?_
  refine seqR (forI (fun e => ∃ d, e = [.p (.scr ns), .p (.int k), .u, .o d, .p (manD m), .u, .p (.int j), .p (.lst ((tab m t 0).map posD)), .u, .u, .u] ∧ Src d) (items := rng 0 20) (by simp -dsimp [bg_t]) ⟨d3, rfl, b2⟩ (fun y hy e he => ?_) ?_)
  · obtain ⟨d, rfl, hs⟩ := he
    exact ⟨_, rfl, look2 hm hs (by omega) (by omega) (by omega) fun d hs => ⟨d, rfl, hs⟩⟩
  rintro e ⟨d4, rfl, hs⟩
  refine contR ?_
  obtain ⟨bc, d5, o1, o2, o3⟩ := bad_code hm hs
  have e0 := place_of_ok hm (ds := []) (fun x hx => by cases hx) (by simp)
  rw [show codeS [] = "" from rfl] at e0
  have e1 : ev_place_of [.tup [.int m.c, .int m.r], .str "0"] = .er ⟨"InvalidManner"⟩ := place_of_er0 (by kernel_rfl)
  have e2 : gNe (posD (plc m 0 0 0 [])) (.tup [.int 0, .int 0]) = some (.bl false) := by kernel_rfl
  refine seqR ?_
  simp -dsimp [z31, -gMulS, o1, LIM]
  refine contR ?_
  refine seqR ?_
  simp -dsimp [o3, nm_code, e0, e2, LIM]
  refine contR ?_
  unfold manD at *
  simp -dsimp [LIM, cutL3, e1, nm_manner, -List.map_map]
  exact hN
theorem plain (ns : List Int) (_ : ns.length ≤ 63) : ∃ z, ev_law [.scr ns] = .ok (.bl true) z := by
  refine ⟨.non, fnV ?_⟩
  show Sat _ _ (bd_law [.p (.scr ns), .u, .u, .u, .u, .u, .u, .u, .u, .u, .u])
  unfold bd_law
  refine seqR (forI (fun e => e = [.p (.scr ns), .u, .u, .u, .u, .u, .u, .u, .u, .u, .u]) (items := rng 0 10) (by simp -dsimp [bg_t]) rfl (fun y hy e he => ?_) ?_)
  · subst he
    obtain ⟨i, hi, rfl⟩ := rng_mem hy
    exact ⟨_, rfl, turn (by omega) (by omega) rfl⟩
  rintro e rfl
  refine contR ?_
  have g1 : ev_place_of [manD m1, .str "12"] = .ok (.tup [.int 1, .int 3]) .non := by kernel_rfl
  have g2 : ev_place_of [manD m1, .str "02"] = .ok (.tup [.int 1, .int 1]) .non := by kernel_rfl
  have g3 : ev_place_of [manD m1, .str "01"] = .ok (.tup [.int 1, .int 0]) .non := by kernel_rfl
  have g4 : ev_place_of [manD m1, .str "30"] = .ok (.tup [.int 3, .int 1]) .non := by kernel_rfl
  have g5 : gEq (.lst [.tup [.int 1, .int 3], .tup [.int 1, .int 1], .tup [.int 1, .int 0], .tup [.int 3, .int 1]]) (.lst [.tup [.int 1, .int 3], .tup [.int 1, .int 1], .tup [.int 1, .int 0], .tup [.int 3, .int 1]]) = some (.bl true) := by kernel_rfl
  refine seqR ?_
  simp -dsimp [known_ok, show atI [manD m1, manD m2, manD m3, manD m4] 0 = some (manD m1) from rfl]
  refine contR ?_
  simp -dsimp [LIM, compL_cons, compL_nil, g1, g2, g3, g4, g5]
end K03

namespace K03
open PySem PySem.Spec PyProof.Rows L2 DL DLH CM
theorem all_mk {l : PySem.W.OpenLaw} {w : World} {K : PySem.W.Frag} {h : Heap} {mg : Str → Option Value} {fa : Addr} (X : K.In h) (G : h.Ns mainGlobals mg) (hfa : mg "law" = some (.ref fa))
{a__law_source : Addr} {od__law_source an__law_source : Option Addr} {sl__law_source : Array (Option Value)} {oc__law_source kV__law_source dc__law_source pm__law_source cd__law_source ct__law_source : Value}
{a__law_pick : Addr} {od__law_pick an__law_pick : Option Addr} {sl__law_pick : Array (Option Value)} {oc__law_pick kV__law_pick dc__law_pick pm__law_pick cd__law_pick ct__law_pick : Value}
{a__law_chosen : Addr} {od__law_chosen an__law_chosen : Option Addr} {sl__law_chosen : Array (Option Value)} {oc__law_chosen kV__law_chosen dc__law_chosen pm__law_chosen cd__law_chosen ct__law_chosen : Value}
{a__law_shuffled : Addr} {od__law_shuffled an__law_shuffled : Option Addr} {sl__law_shuffled : Array (Option Value)} {oc__law_shuffled kV__law_shuffled dc__law_shuffled pm__law_shuffled cd__law_shuffled ct__law_shuffled : Value}
{a__law_order : Addr} {od__law_order an__law_order : Option Addr} {sl__law_order : Array (Option Value)} {oc__law_order kV__law_order dc__law_order pm__law_order cd__law_order ct__law_order : Value}
{a__law_known : Addr} {od__law_known an__law_known : Option Addr} {sl__law_known : Array (Option Value)} {oc__law_known kV__law_known dc__law_known pm__law_known cd__law_known ct__law_known : Value}
{a__law_with : Addr} {od__law_with an__law_with : Option Addr} {sl__law_with : Array (Option Value)} {oc__law_with kV__law_with dc__law_with pm__law_with cd__law_with ct__law_with : Value}
{a__law_near : Addr} {od__law_near an__law_near : Option Addr} {sl__law_near : Array (Option Value)} {oc__law_near kV__law_near dc__law_near pm__law_near cd__law_near ct__law_near : Value}
{a__law_manner : Addr} {od__law_manner an__law_manner : Option Addr} {sl__law_manner : Array (Option Value)} {oc__law_manner kV__law_manner dc__law_manner pm__law_manner cd__law_manner ct__law_manner : Value}
{a__law_table : Addr} {od__law_table an__law_table : Option Addr} {sl__law_table : Array (Option Value)} {oc__law_table kV__law_table dc__law_table pm__law_table cd__law_table ct__law_table : Value}
{a__law_any_code : Addr} {od__law_any_code an__law_any_code : Option Addr} {sl__law_any_code : Array (Option Value)} {oc__law_any_code kV__law_any_code dc__law_any_code pm__law_any_code cd__law_any_code ct__law_any_code : Value}
{a__law_name_of : Addr} {od__law_name_of an__law_name_of : Option Addr} {sl__law_name_of : Array (Option Value)} {oc__law_name_of kV__law_name_of dc__law_name_of pm__law_name_of cd__law_name_of ct__law_name_of : Value}
{a__law_error : Addr} {od__law_error an__law_error : Option Addr} {sl__law_error : Array (Option Value)} {oc__law_error kV__law_error dc__law_error pm__law_error cd__law_error ct__law_error : Value}
{a_is_integer : Addr} {od_is_integer an_is_integer : Option Addr} {sl_is_integer : Array (Option Value)} {oc_is_integer kV_is_integer dc_is_integer pm_is_integer cd_is_integer ct_is_integer : Value}
{a_is_between : Addr} {od_is_between an_is_between : Option Addr} {sl_is_between : Array (Option Value)} {oc_is_between kV_is_between dc_is_between pm_is_between cd_is_between ct_is_between : Value}
{a_is_cell : Addr} {od_is_cell an_is_cell : Option Addr} {sl_is_cell : Array (Option Value)} {oc_is_cell kV_is_cell dc_is_cell pm_is_cell cd_is_cell ct_is_cell : Value}
{a_is_pattern : Addr} {od_is_pattern an_is_pattern : Option Addr} {sl_is_pattern : Array (Option Value)} {oc_is_pattern kV_is_pattern dc_is_pattern pm_is_pattern cd_is_pattern ct_is_pattern : Value}
{a_a_manner : Addr} {od_a_manner an_a_manner : Option Addr} {sl_a_manner : Array (Option Value)} {oc_a_manner kV_a_manner dc_a_manner pm_a_manner cd_a_manner ct_a_manner : Value}
{a_need_manner : Addr} {od_need_manner an_need_manner : Option Addr} {sl_need_manner : Array (Option Value)} {oc_need_manner kV_need_manner dc_need_manner pm_need_manner cd_need_manner ct_need_manner : Value}
{a_are_digits : Addr} {od_are_digits an_are_digits : Option Addr} {sl_are_digits : Array (Option Value)} {oc_are_digits kV_are_digits dc_are_digits pm_are_digits cd_are_digits ct_are_digits : Value}
{a_a_code : Addr} {od_a_code an_a_code : Option Addr} {sl_a_code : Array (Option Value)} {oc_a_code kV_a_code dc_a_code pm_a_code cd_a_code ct_a_code : Value}
{a_need_code : Addr} {od_need_code an_need_code : Option Addr} {sl_need_code : Array (Option Value)} {oc_need_code kV_need_code dc_need_code pm_need_code cd_need_code ct_need_code : Value}
{a_place_in : Addr} {od_place_in an_place_in : Option Addr} {sl_place_in : Array (Option Value)} {oc_place_in kV_place_in dc_place_in pm_place_in cd_place_in ct_place_in : Value}
{a_place_of : Addr} {od_place_of an_place_of : Option Addr} {sl_place_of : Array (Option Value)} {oc_place_of kV_place_of dc_place_of pm_place_of cd_place_of ct_place_of : Value}
{a__law_place_by : Addr} {od__law_place_by an__law_place_by : Option Addr} {sl__law_place_by : Array (Option Value)} {oc__law_place_by kV__law_place_by dc__law_place_by pm__law_place_by cd__law_place_by ct__law_place_by : Value}
{a__law_place : Addr} {od__law_place an__law_place : Option Addr} {sl__law_place : Array (Option Value)} {oc__law_place kV__law_place dc__law_place pm__law_place cd__law_place ct__law_place : Value}
{a__law_deep : Addr} {od__law_deep an__law_deep : Option Addr} {sl__law_deep : Array (Option Value)} {oc__law_deep kV__law_deep dc__law_deep pm__law_deep cd__law_deep ct__law_deep : Value}
{a__law_code : Addr} {od__law_code an__law_code : Option Addr} {sl__law_code : Array (Option Value)} {oc__law_code kV__law_code dc__law_code pm__law_code cd__law_code ct__law_code : Value}
{a_law : Addr} {od_law an_law : Option Addr} {sl_law : Array (Option Value)} {oc_law kV_law dc_law pm_law ct_law : Value}
{tok_DEEPEST : Tok}
{tok_MOST : Tok}
{c_InvalidCode : Addr}
{c_InvalidManner : Addr}
{c_CurveError : Addr}
{c_InvalidBox : Addr}
{c_InvalidDepth : Addr}
{c_InvalidIndex : Addr}
{c_InvalidNumber : Addr}
{c_InvalidPlace : Addr}
{c_InvalidSeen : Addr}
{c_InvalidText : Addr}
{c_InvalidTurn : Addr}
{c_InvalidWay : Addr}
{c_NotThere : Addr}
{c_NothingToUndo : Addr}
{c_TooMany : Addr}
{cd_law tp_law : Addr} {oc2 : Value} {od2 : Option Addr} {vsC : Array Value} {sl2 : Array (Option Value)} {ts : List Addr}
(a0 : PySem.W.nsIn K mainGlobals "_law_source" = some (some (.ref a__law_source))) (l0 : K.lookup a__law_source = some ⟨oc__law_source, od__law_source, .func (PySem.W.fnOf "_law_source" "_law_source" (defArgs s__law_source) (defBody s__law_source) (defScope s__law_source) .none kV__law_source dc__law_source pm__law_source an__law_source cd__law_source ct__law_source), sl__law_source⟩) (c0 : PySem.W.codeIn K cd__law_source "_law_source" = true) (k0 : PySem.W.keepIn K (.ref a__law_source) = true)
(a1 : PySem.W.nsIn K mainGlobals "_law_pick" = some (some (.ref a__law_pick))) (l1 : K.lookup a__law_pick = some ⟨oc__law_pick, od__law_pick, .func (PySem.W.fnOf "_law_pick" "_law_pick" (defArgs s__law_pick) (defBody s__law_pick) (defScope s__law_pick) .none kV__law_pick dc__law_pick pm__law_pick an__law_pick cd__law_pick ct__law_pick), sl__law_pick⟩) (c1 : PySem.W.codeIn K cd__law_pick "_law_pick" = true) (k1 : PySem.W.keepIn K (.ref a__law_pick) = true)
(a2 : PySem.W.nsIn K mainGlobals "_law_chosen" = some (some (.ref a__law_chosen))) (l2 : K.lookup a__law_chosen = some ⟨oc__law_chosen, od__law_chosen, .func (PySem.W.fnOf "_law_chosen" "_law_chosen" (defArgs s__law_chosen) (defBody s__law_chosen) (defScope s__law_chosen) .none kV__law_chosen dc__law_chosen pm__law_chosen an__law_chosen cd__law_chosen ct__law_chosen), sl__law_chosen⟩) (c2 : PySem.W.codeIn K cd__law_chosen "_law_chosen" = true) (k2 : PySem.W.keepIn K (.ref a__law_chosen) = true)
(a3 : PySem.W.nsIn K mainGlobals "_law_shuffled" = some (some (.ref a__law_shuffled))) (l3 : K.lookup a__law_shuffled = some ⟨oc__law_shuffled, od__law_shuffled, .func (PySem.W.fnOf "_law_shuffled" "_law_shuffled" (defArgs s__law_shuffled) (defBody s__law_shuffled) (defScope s__law_shuffled) .none kV__law_shuffled dc__law_shuffled pm__law_shuffled an__law_shuffled cd__law_shuffled ct__law_shuffled), sl__law_shuffled⟩) (c3 : PySem.W.codeIn K cd__law_shuffled "_law_shuffled" = true) (k3 : PySem.W.keepIn K (.ref a__law_shuffled) = true)
(a4 : PySem.W.nsIn K mainGlobals "_law_order" = some (some (.ref a__law_order))) (l4 : K.lookup a__law_order = some ⟨oc__law_order, od__law_order, .func (PySem.W.fnOf "_law_order" "_law_order" (defArgs s__law_order) (defBody s__law_order) (defScope s__law_order) .none kV__law_order dc__law_order pm__law_order an__law_order cd__law_order ct__law_order), sl__law_order⟩) (c4 : PySem.W.codeIn K cd__law_order "_law_order" = true) (k4 : PySem.W.keepIn K (.ref a__law_order) = true)
(a5 : PySem.W.nsIn K mainGlobals "_law_known" = some (some (.ref a__law_known))) (l5 : K.lookup a__law_known = some ⟨oc__law_known, od__law_known, .func (PySem.W.fnOf "_law_known" "_law_known" (defArgs s__law_known) (defBody s__law_known) (defScope s__law_known) .none kV__law_known dc__law_known pm__law_known an__law_known cd__law_known ct__law_known), sl__law_known⟩) (c5 : PySem.W.codeIn K cd__law_known "_law_known" = true) (k5 : PySem.W.keepIn K (.ref a__law_known) = true)
(a6 : PySem.W.nsIn K mainGlobals "_law_with" = some (some (.ref a__law_with))) (l6 : K.lookup a__law_with = some ⟨oc__law_with, od__law_with, .func (PySem.W.fnOf "_law_with" "_law_with" (defArgs s__law_with) (defBody s__law_with) (defScope s__law_with) .none kV__law_with dc__law_with pm__law_with an__law_with cd__law_with ct__law_with), sl__law_with⟩) (c6 : PySem.W.codeIn K cd__law_with "_law_with" = true) (k6 : PySem.W.keepIn K (.ref a__law_with) = true)
(a7 : PySem.W.nsIn K mainGlobals "_law_near" = some (some (.ref a__law_near))) (l7 : K.lookup a__law_near = some ⟨oc__law_near, od__law_near, .func (PySem.W.fnOf "_law_near" "_law_near" (defArgs s__law_near) (defBody s__law_near) (defScope s__law_near) .none kV__law_near dc__law_near pm__law_near an__law_near cd__law_near ct__law_near), sl__law_near⟩) (c7 : PySem.W.codeIn K cd__law_near "_law_near" = true) (k7 : PySem.W.keepIn K (.ref a__law_near) = true)
(a8 : PySem.W.nsIn K mainGlobals "_law_manner" = some (some (.ref a__law_manner))) (l8 : K.lookup a__law_manner = some ⟨oc__law_manner, od__law_manner, .func (PySem.W.fnOf "_law_manner" "_law_manner" (defArgs s__law_manner) (defBody s__law_manner) (defScope s__law_manner) .none kV__law_manner dc__law_manner pm__law_manner an__law_manner cd__law_manner ct__law_manner), sl__law_manner⟩) (c8 : PySem.W.codeIn K cd__law_manner "_law_manner" = true) (k8 : PySem.W.keepIn K (.ref a__law_manner) = true)
(a9 : PySem.W.nsIn K mainGlobals "_law_table" = some (some (.ref a__law_table))) (l9 : K.lookup a__law_table = some ⟨oc__law_table, od__law_table, .func (PySem.W.fnOf "_law_table" "_law_table" (defArgs s__law_table) (defBody s__law_table) (defScope s__law_table) .none kV__law_table dc__law_table pm__law_table an__law_table cd__law_table ct__law_table), sl__law_table⟩) (c9 : PySem.W.codeIn K cd__law_table "_law_table" = true) (k9 : PySem.W.keepIn K (.ref a__law_table) = true)
(a10 : PySem.W.nsIn K mainGlobals "_law_any_code" = some (some (.ref a__law_any_code))) (l10 : K.lookup a__law_any_code = some ⟨oc__law_any_code, od__law_any_code, .func (PySem.W.fnOf "_law_any_code" "_law_any_code" (defArgs s__law_any_code) (defBody s__law_any_code) (defScope s__law_any_code) .none kV__law_any_code dc__law_any_code pm__law_any_code an__law_any_code cd__law_any_code ct__law_any_code), sl__law_any_code⟩) (c10 : PySem.W.codeIn K cd__law_any_code "_law_any_code" = true) (k10 : PySem.W.keepIn K (.ref a__law_any_code) = true)
(a11 : PySem.W.nsIn K mainGlobals "_law_name_of" = some (some (.ref a__law_name_of))) (l11 : K.lookup a__law_name_of = some ⟨oc__law_name_of, od__law_name_of, .func (PySem.W.fnOf "_law_name_of" "_law_name_of" (defArgs s__law_name_of) (defBody s__law_name_of) (defScope s__law_name_of) .none kV__law_name_of dc__law_name_of pm__law_name_of an__law_name_of cd__law_name_of ct__law_name_of), sl__law_name_of⟩) (c11 : PySem.W.codeIn K cd__law_name_of "_law_name_of" = true) (k11 : PySem.W.keepIn K (.ref a__law_name_of) = true)
(a12 : PySem.W.nsIn K mainGlobals "_law_error" = some (some (.ref a__law_error))) (l12 : K.lookup a__law_error = some ⟨oc__law_error, od__law_error, .func (PySem.W.fnOf "_law_error" "_law_error" (defArgs s__law_error) (defBody s__law_error) (defScope s__law_error) .none kV__law_error dc__law_error pm__law_error an__law_error cd__law_error ct__law_error), sl__law_error⟩) (c12 : PySem.W.codeIn K cd__law_error "_law_error" = true) (k12 : PySem.W.keepIn K (.ref a__law_error) = true)
(a13 : PySem.W.nsIn K mainGlobals "is_integer" = some (some (.ref a_is_integer))) (l13 : K.lookup a_is_integer = some ⟨oc_is_integer, od_is_integer, .func (PySem.W.fnOf "is_integer" "is_integer" (defArgs s_is_integer) (defBody s_is_integer) (defScope s_is_integer) .none kV_is_integer dc_is_integer pm_is_integer an_is_integer cd_is_integer ct_is_integer), sl_is_integer⟩) (c13 : PySem.W.codeIn K cd_is_integer "is_integer" = true) (k13 : PySem.W.keepIn K (.ref a_is_integer) = true)
(a14 : PySem.W.nsIn K mainGlobals "is_between" = some (some (.ref a_is_between))) (l14 : K.lookup a_is_between = some ⟨oc_is_between, od_is_between, .func (PySem.W.fnOf "is_between" "is_between" (defArgs s_is_between) (defBody s_is_between) (defScope s_is_between) .none kV_is_between dc_is_between pm_is_between an_is_between cd_is_between ct_is_between), sl_is_between⟩) (c14 : PySem.W.codeIn K cd_is_between "is_between" = true) (k14 : PySem.W.keepIn K (.ref a_is_between) = true)
(a15 : PySem.W.nsIn K mainGlobals "is_cell" = some (some (.ref a_is_cell))) (l15 : K.lookup a_is_cell = some ⟨oc_is_cell, od_is_cell, .func (PySem.W.fnOf "is_cell" "is_cell" (defArgs s_is_cell) (defBody s_is_cell) (defScope s_is_cell) .none kV_is_cell dc_is_cell pm_is_cell an_is_cell cd_is_cell ct_is_cell), sl_is_cell⟩) (c15 : PySem.W.codeIn K cd_is_cell "is_cell" = true) (k15 : PySem.W.keepIn K (.ref a_is_cell) = true)
(a16 : PySem.W.nsIn K mainGlobals "is_pattern" = some (some (.ref a_is_pattern))) (l16 : K.lookup a_is_pattern = some ⟨oc_is_pattern, od_is_pattern, .func (PySem.W.fnOf "is_pattern" "is_pattern" (defArgs s_is_pattern) (defBody s_is_pattern) (defScope s_is_pattern) .none kV_is_pattern dc_is_pattern pm_is_pattern an_is_pattern cd_is_pattern ct_is_pattern), sl_is_pattern⟩) (c16 : PySem.W.codeIn K cd_is_pattern "is_pattern" = true) (k16 : PySem.W.keepIn K (.ref a_is_pattern) = true)
(a17 : PySem.W.nsIn K mainGlobals "a_manner" = some (some (.ref a_a_manner))) (l17 : K.lookup a_a_manner = some ⟨oc_a_manner, od_a_manner, .func (PySem.W.fnOf "a_manner" "a_manner" (defArgs s_a_manner) (defBody s_a_manner) (defScope s_a_manner) .none kV_a_manner dc_a_manner pm_a_manner an_a_manner cd_a_manner ct_a_manner), sl_a_manner⟩) (c17 : PySem.W.codeIn K cd_a_manner "a_manner" = true) (k17 : PySem.W.keepIn K (.ref a_a_manner) = true)
(a18 : PySem.W.nsIn K mainGlobals "need_manner" = some (some (.ref a_need_manner))) (l18 : K.lookup a_need_manner = some ⟨oc_need_manner, od_need_manner, .func (PySem.W.fnOf "need_manner" "need_manner" (defArgs s_need_manner) (defBody s_need_manner) (defScope s_need_manner) .none kV_need_manner dc_need_manner pm_need_manner an_need_manner cd_need_manner ct_need_manner), sl_need_manner⟩) (c18 : PySem.W.codeIn K cd_need_manner "need_manner" = true) (k18 : PySem.W.keepIn K (.ref a_need_manner) = true)
(a19 : PySem.W.nsIn K mainGlobals "are_digits" = some (some (.ref a_are_digits))) (l19 : K.lookup a_are_digits = some ⟨oc_are_digits, od_are_digits, .func (PySem.W.fnOf "are_digits" "are_digits" (defArgs s_are_digits) (defBody s_are_digits) (defScope s_are_digits) .none kV_are_digits dc_are_digits pm_are_digits an_are_digits cd_are_digits ct_are_digits), sl_are_digits⟩) (c19 : PySem.W.codeIn K cd_are_digits "are_digits" = true) (k19 : PySem.W.keepIn K (.ref a_are_digits) = true)
(a20 : PySem.W.nsIn K mainGlobals "a_code" = some (some (.ref a_a_code))) (l20 : K.lookup a_a_code = some ⟨oc_a_code, od_a_code, .func (PySem.W.fnOf "a_code" "a_code" (defArgs s_a_code) (defBody s_a_code) (defScope s_a_code) .none kV_a_code dc_a_code pm_a_code an_a_code cd_a_code ct_a_code), sl_a_code⟩) (c20 : PySem.W.codeIn K cd_a_code "a_code" = true) (k20 : PySem.W.keepIn K (.ref a_a_code) = true)
(a21 : PySem.W.nsIn K mainGlobals "need_code" = some (some (.ref a_need_code))) (l21 : K.lookup a_need_code = some ⟨oc_need_code, od_need_code, .func (PySem.W.fnOf "need_code" "need_code" (defArgs s_need_code) (defBody s_need_code) (defScope s_need_code) .none kV_need_code dc_need_code pm_need_code an_need_code cd_need_code ct_need_code), sl_need_code⟩) (c21 : PySem.W.codeIn K cd_need_code "need_code" = true) (k21 : PySem.W.keepIn K (.ref a_need_code) = true)
(a22 : PySem.W.nsIn K mainGlobals "place_in" = some (some (.ref a_place_in))) (l22 : K.lookup a_place_in = some ⟨oc_place_in, od_place_in, .func (PySem.W.fnOf "place_in" "place_in" (defArgs s_place_in) (defBody s_place_in) (defScope s_place_in) .none kV_place_in dc_place_in pm_place_in an_place_in cd_place_in ct_place_in), sl_place_in⟩) (c22 : PySem.W.codeIn K cd_place_in "place_in" = true) (k22 : PySem.W.keepIn K (.ref a_place_in) = true)
(a23 : PySem.W.nsIn K mainGlobals "place_of" = some (some (.ref a_place_of))) (l23 : K.lookup a_place_of = some ⟨oc_place_of, od_place_of, .func (PySem.W.fnOf "place_of" "place_of" (defArgs s_place_of) (defBody s_place_of) (defScope s_place_of) .none kV_place_of dc_place_of pm_place_of an_place_of cd_place_of ct_place_of), sl_place_of⟩) (c23 : PySem.W.codeIn K cd_place_of "place_of" = true) (k23 : PySem.W.keepIn K (.ref a_place_of) = true)
(a24 : PySem.W.nsIn K mainGlobals "_law_place_by" = some (some (.ref a__law_place_by))) (l24 : K.lookup a__law_place_by = some ⟨oc__law_place_by, od__law_place_by, .func (PySem.W.fnOf "_law_place_by" "_law_place_by" (defArgs s__law_place_by) (defBody s__law_place_by) (defScope s__law_place_by) .none kV__law_place_by dc__law_place_by pm__law_place_by an__law_place_by cd__law_place_by ct__law_place_by), sl__law_place_by⟩) (c24 : PySem.W.codeIn K cd__law_place_by "_law_place_by" = true) (k24 : PySem.W.keepIn K (.ref a__law_place_by) = true)
(a25 : PySem.W.nsIn K mainGlobals "_law_place" = some (some (.ref a__law_place))) (l25 : K.lookup a__law_place = some ⟨oc__law_place, od__law_place, .func (PySem.W.fnOf "_law_place" "_law_place" (defArgs s__law_place) (defBody s__law_place) (defScope s__law_place) .none kV__law_place dc__law_place pm__law_place an__law_place cd__law_place ct__law_place), sl__law_place⟩) (c25 : PySem.W.codeIn K cd__law_place "_law_place" = true) (k25 : PySem.W.keepIn K (.ref a__law_place) = true)
(a26 : PySem.W.nsIn K mainGlobals "_law_deep" = some (some (.ref a__law_deep))) (l26 : K.lookup a__law_deep = some ⟨oc__law_deep, od__law_deep, .func (PySem.W.fnOf "_law_deep" "_law_deep" (defArgs s__law_deep) (defBody s__law_deep) (defScope s__law_deep) .none kV__law_deep dc__law_deep pm__law_deep an__law_deep cd__law_deep ct__law_deep), sl__law_deep⟩) (c26 : PySem.W.codeIn K cd__law_deep "_law_deep" = true) (k26 : PySem.W.keepIn K (.ref a__law_deep) = true)
(a27 : PySem.W.nsIn K mainGlobals "_law_code" = some (some (.ref a__law_code))) (l27 : K.lookup a__law_code = some ⟨oc__law_code, od__law_code, .func (PySem.W.fnOf "_law_code" "_law_code" (defArgs s__law_code) (defBody s__law_code) (defScope s__law_code) .none kV__law_code dc__law_code pm__law_code an__law_code cd__law_code ct__law_code), sl__law_code⟩) (c27 : PySem.W.codeIn K cd__law_code "_law_code" = true) (k27 : PySem.W.keepIn K (.ref a__law_code) = true)
(a28 : PySem.W.nsIn K mainGlobals "law" = some (some (.ref a_law))) (l28 : K.lookup a_law = some ⟨oc_law, od_law, .func (PySem.W.fnOf "law" "law" (defArgs s_law) (defBody s_law) (defScope s_law) .none kV_law dc_law pm_law an_law (.ref cd_law) ct_law), sl_law⟩) (c28 : PySem.W.codeIn K (.ref cd_law) "law" = true) (k28 : PySem.W.keepIn K (.ref a_law) = true)
(z_ValueError : PySem.W.nsIn K mainGlobals "ValueError" = some none)
(z_all : PySem.W.nsIn K mainGlobals "all" = some none)
(z_bool : PySem.W.nsIn K mainGlobals "bool" = some none)
(z_int : PySem.W.nsIn K mainGlobals "int" = some none)
(z_isinstance : PySem.W.nsIn K mainGlobals "isinstance" = some none)
(z_len : PySem.W.nsIn K mainGlobals "len" = some none)
(z_list : PySem.W.nsIn K mainGlobals "list" = some none)
(z_range : PySem.W.nsIn K mainGlobals "range" = some none)
(z_set : PySem.W.nsIn K mainGlobals "set" = some none)
(z_str : PySem.W.nsIn K mainGlobals "str" = some none)
(z_tuple : PySem.W.nsIn K mainGlobals "tuple" = some none)
(z_zip : PySem.W.nsIn K mainGlobals "zip" = some none)
(g_DEEPEST : PySem.W.nsIn K mainGlobals "DEEPEST" = some (some (.int 30 tok_DEEPEST)))
(g_MOST : PySem.W.nsIn K mainGlobals "MOST" = some (some (.int 6 tok_MOST)))
(m_InvalidCode : PySem.W.nsIn K mainGlobals "InvalidCode" = some (some (.ref c_InvalidCode))) (q_InvalidCode : PySem.W.excIn K c_InvalidCode [.type "ValueError", .type "Exception", .type "BaseException", .type "object"] "ValueError.__new__" = true) (k_InvalidCode : PySem.W.keepIn K (.ref c_InvalidCode) = true) (s_InvalidCode : PySem.W.subIn K (.ref c_InvalidCode) (.type "BaseException") = some true) (t_InvalidCode : PySem.W.typeIn K (.ref c_InvalidCode) = some (.type "type"))
(m_InvalidManner : PySem.W.nsIn K mainGlobals "InvalidManner" = some (some (.ref c_InvalidManner))) (q_InvalidManner : PySem.W.excIn K c_InvalidManner [.type "ValueError", .type "Exception", .type "BaseException", .type "object"] "ValueError.__new__" = true) (k_InvalidManner : PySem.W.keepIn K (.ref c_InvalidManner) = true) (s_InvalidManner : PySem.W.subIn K (.ref c_InvalidManner) (.type "BaseException") = some true) (t_InvalidManner : PySem.W.typeIn K (.ref c_InvalidManner) = some (.type "type"))
(m_CurveError : PySem.W.nsIn K mainGlobals "CurveError" = some (some (.ref c_CurveError)))
(m_InvalidBox : PySem.W.nsIn K mainGlobals "InvalidBox" = some (some (.ref c_InvalidBox)))
(m_InvalidDepth : PySem.W.nsIn K mainGlobals "InvalidDepth" = some (some (.ref c_InvalidDepth)))
(m_InvalidIndex : PySem.W.nsIn K mainGlobals "InvalidIndex" = some (some (.ref c_InvalidIndex)))
(m_InvalidNumber : PySem.W.nsIn K mainGlobals "InvalidNumber" = some (some (.ref c_InvalidNumber)))
(m_InvalidPlace : PySem.W.nsIn K mainGlobals "InvalidPlace" = some (some (.ref c_InvalidPlace)))
(m_InvalidSeen : PySem.W.nsIn K mainGlobals "InvalidSeen" = some (some (.ref c_InvalidSeen)))
(m_InvalidText : PySem.W.nsIn K mainGlobals "InvalidText" = some (some (.ref c_InvalidText)))
(m_InvalidTurn : PySem.W.nsIn K mainGlobals "InvalidTurn" = some (some (.ref c_InvalidTurn)))
(m_InvalidWay : PySem.W.nsIn K mainGlobals "InvalidWay" = some (some (.ref c_InvalidWay)))
(m_NotThere : PySem.W.nsIn K mainGlobals "NotThere" = some (some (.ref c_NotThere)))
(m_NothingToUndo : PySem.W.nsIn K mainGlobals "NothingToUndo" = some (some (.ref c_NothingToUndo)))
(m_TooMany : PySem.W.nsIn K mainGlobals "TooMany" = some (some (.ref c_TooMany)))
(eg_InvalidManner : PySem.W.findIn K (.ref c_InvalidManner) "__getattribute__" = some (some (.builtin "BaseException.__getattribute__")))
(eh_InvalidManner : PySem.W.findIn K (.ref c_InvalidManner) "__getattr__" = some none)
(ei_InvalidManner : PySem.W.subIn K (.ref c_InvalidManner) (.type "BaseException") = some true)
(ej_InvalidManner : PySem.W.hasDictIn K c_InvalidManner = true)
(ek_InvalidManner : PySem.W.findIn K (.ref c_InvalidManner) "__class__" = some (some (.builtin "object.__class__")))
(en_InvalidManner : PySem.W.mroIn K c_InvalidManner (.type "object") = some true)
(x_InvalidManner : PySem.W.exmOne K (.ref c_InvalidManner) (.ref c_CurveError) = some true)
(y_InvalidManner_0 : PySem.W.kitOne K (.ref c_InvalidManner) (.ref c_InvalidManner) = some true)
(y_InvalidManner_1 : PySem.W.kitOne K (.ref c_InvalidManner) (.ref c_InvalidTurn) = some false)
(y_InvalidManner_2 : PySem.W.kitOne K (.ref c_InvalidManner) (.ref c_InvalidCode) = some false)
(y_InvalidManner_3 : PySem.W.kitOne K (.ref c_InvalidManner) (.ref c_InvalidDepth) = some false)
(y_InvalidManner_4 : PySem.W.kitOne K (.ref c_InvalidManner) (.ref c_InvalidPlace) = some false)
(y_InvalidManner_5 : PySem.W.kitOne K (.ref c_InvalidManner) (.ref c_InvalidNumber) = some false)
(y_InvalidManner_6 : PySem.W.kitOne K (.ref c_InvalidManner) (.ref c_InvalidBox) = some false)
(y_InvalidManner_7 : PySem.W.kitOne K (.ref c_InvalidManner) (.ref c_InvalidWay) = some false)
(y_InvalidManner_8 : PySem.W.kitOne K (.ref c_InvalidManner) (.ref c_InvalidIndex) = some false)
(y_InvalidManner_9 : PySem.W.kitOne K (.ref c_InvalidManner) (.ref c_InvalidSeen) = some false)
(y_InvalidManner_10 : PySem.W.kitOne K (.ref c_InvalidManner) (.ref c_InvalidText) = some false)
(y_InvalidManner_11 : PySem.W.kitOne K (.ref c_InvalidManner) (.ref c_NotThere) = some false)
(y_InvalidManner_12 : PySem.W.kitOne K (.ref c_InvalidManner) (.ref c_TooMany) = some false)
(y_InvalidManner_13 : PySem.W.kitOne K (.ref c_InvalidManner) (.ref c_NothingToUndo) = some false)
(y_InvalidManner_14 : PySem.W.kitOne K (.ref c_InvalidManner) (.ref c_CurveError) = some true)
(y_InvalidManner_15 : PySem.W.kitOne K (.ref c_InvalidManner) (.type "ValueError") = some true)
(eg_InvalidCode : PySem.W.findIn K (.ref c_InvalidCode) "__getattribute__" = some (some (.builtin "BaseException.__getattribute__")))
(eh_InvalidCode : PySem.W.findIn K (.ref c_InvalidCode) "__getattr__" = some none)
(ei_InvalidCode : PySem.W.subIn K (.ref c_InvalidCode) (.type "BaseException") = some true)
(ej_InvalidCode : PySem.W.hasDictIn K c_InvalidCode = true)
(ek_InvalidCode : PySem.W.findIn K (.ref c_InvalidCode) "__class__" = some (some (.builtin "object.__class__")))
(en_InvalidCode : PySem.W.mroIn K c_InvalidCode (.type "object") = some true)
(x_InvalidCode : PySem.W.exmOne K (.ref c_InvalidCode) (.ref c_CurveError) = some true)
(y_InvalidCode_0 : PySem.W.kitOne K (.ref c_InvalidCode) (.ref c_InvalidManner) = some false)
(y_InvalidCode_1 : PySem.W.kitOne K (.ref c_InvalidCode) (.ref c_InvalidTurn) = some false)
(y_InvalidCode_2 : PySem.W.kitOne K (.ref c_InvalidCode) (.ref c_InvalidCode) = some true)
(y_InvalidCode_3 : PySem.W.kitOne K (.ref c_InvalidCode) (.ref c_InvalidDepth) = some false)
(y_InvalidCode_4 : PySem.W.kitOne K (.ref c_InvalidCode) (.ref c_InvalidPlace) = some false)
(y_InvalidCode_5 : PySem.W.kitOne K (.ref c_InvalidCode) (.ref c_InvalidNumber) = some false)
(y_InvalidCode_6 : PySem.W.kitOne K (.ref c_InvalidCode) (.ref c_InvalidBox) = some false)
(y_InvalidCode_7 : PySem.W.kitOne K (.ref c_InvalidCode) (.ref c_InvalidWay) = some false)
(y_InvalidCode_8 : PySem.W.kitOne K (.ref c_InvalidCode) (.ref c_InvalidIndex) = some false)
(y_InvalidCode_9 : PySem.W.kitOne K (.ref c_InvalidCode) (.ref c_InvalidSeen) = some false)
(y_InvalidCode_10 : PySem.W.kitOne K (.ref c_InvalidCode) (.ref c_InvalidText) = some false)
(y_InvalidCode_11 : PySem.W.kitOne K (.ref c_InvalidCode) (.ref c_NotThere) = some false)
(y_InvalidCode_12 : PySem.W.kitOne K (.ref c_InvalidCode) (.ref c_TooMany) = some false)
(y_InvalidCode_13 : PySem.W.kitOne K (.ref c_InvalidCode) (.ref c_NothingToUndo) = some false)
(y_InvalidCode_14 : PySem.W.kitOne K (.ref c_InvalidCode) (.ref c_CurveError) = some true)
(y_InvalidCode_15 : PySem.W.kitOne K (.ref c_InvalidCode) (.type "ValueError") = some true)
(e_get : PySem.W.specialIn K (.builtin "object.__class__") "__get__" = some (some (.builtin "getset_descriptor.__get__"))) (e_takes : PySem.W.takesIn K (.builtin "object.__class__") = some true)
(cv : K.lookup cd_law = some ⟨oc2, od2, .fields vsC, sl2⟩) (tp0 : vsC[11]? = some (.ref tp_law)) (tn : K.lookup tp_law = none) (ch : PySem.W.codeHdIn K cd_law tp_law = true) (tm : tp_law ∈ ts)
(hTb : ∀ P ∈ ts, h.get? P = some (PySem.W.tabObj #[]))
: LamX.LawAtS l w K (L2N.CX l.prog w) 10 63 "script" mg fa h := by
  have e := hfa.symm.trans (PySem.W.mg_of X G a28)
  cases e
  let T : Tx K mg := { a__law_source := _, d__law_source := _, F__law_source := fun_mk (st := s__law_source) l0 c0 k0, m__law_source := PySem.W.mg_of X G a0, b__law_source := ((fun_mk (st := s__law_source) l0 c0 k0).binds (ps := ["script", "index"]) fun _ _ _ _ _ _ us hl => match us, hl with | [_, _], _ => rfl), a__law_pick := _, d__law_pick := _, F__law_pick := fun_mk (st := s__law_pick) l1 c1 k1, m__law_pick := PySem.W.mg_of X G a1, b__law_pick := ((fun_mk (st := s__law_pick) l1 c1 k1).binds (ps := ["source_so", "many"]) fun _ _ _ _ _ _ us hl => match us, hl with | [_, _], _ => rfl), a__law_chosen := _, d__law_chosen := _, F__law_chosen := fun_mk (st := s__law_chosen) l2 c2 k2, m__law_chosen := PySem.W.mg_of X G a2, b__law_chosen := ((fun_mk (st := s__law_chosen) l2 c2 k2).binds (ps := ["source_so", "some"]) fun _ _ _ _ _ _ us hl => match us, hl with | [_, _], _ => rfl), a__law_shuffled := _, d__law_shuffled := _, F__law_shuffled := fun_mk (st := s__law_shuffled) l3 c3 k3, m__law_shuffled := PySem.W.mg_of X G a3, b__law_shuffled := ((fun_mk (st := s__law_shuffled) l3 c3 k3).binds (ps := ["source_so", "some"]) fun _ _ _ _ _ _ us hl => match us, hl with | [_, _], _ => rfl), a__law_order := _, d__law_order := _, F__law_order := fun_mk (st := s__law_order) l4 c4 k4, m__law_order := PySem.W.mg_of X G a4, b__law_order := ((fun_mk (st := s__law_order) l4 c4 k4).binds (ps := ["source_so", "columns", "rows"]) fun _ _ _ _ _ _ us hl => match us, hl with | [_, _, _], _ => rfl), a__law_known := _, d__law_known := _, F__law_known := fun_mk (st := s__law_known) l5 c5 k5, m__law_known := PySem.W.mg_of X G a5, b__law_known := ((fun_mk (st := s__law_known) l5 c5 k5).binds (ps := []) fun _ _ _ _ _ _ us hl => match us, hl with | [], _ => rfl), a__law_with := _, d__law_with := _, F__law_with := fun_mk (st := s__law_with) l6 c6 k6, m__law_with := PySem.W.mg_of X G a6, b__law_with := ((fun_mk (st := s__law_with) l6 c6 k6).binds (ps := ["m", "index_so", "digit", "following"]) fun _ _ _ _ _ _ us hl => match us, hl with | [_, _, _, _], _ => rfl), a__law_near := _, d__law_near := _, F__law_near := fun_mk (st := s__law_near) l7 c7 k7, m__law_near := PySem.W.mg_of X G a7, b__law_near := ((fun_mk (st := s__law_near) l7 c7 k7).binds (ps := ["source_so", "m"]) fun _ _ _ _ _ _ us hl => match us, hl with | [_, _], _ => rfl), a__law_manner := _, d__law_manner := _, F__law_manner := fun_mk (st := s__law_manner) l8 c8 k8, m__law_manner := PySem.W.mg_of X G a8, b__law_manner := ((fun_mk (st := s__law_manner) l8 c8 k8).binds (ps := ["source_so"]) fun _ _ _ _ _ _ us hl => match us, hl with | [_], _ => rfl), a__law_table := _, d__law_table := _, F__law_table := fun_mk (st := s__law_table) l9 c9 k9, m__law_table := PySem.W.mg_of X G a9, b__law_table := ((fun_mk (st := s__law_table) l9 c9 k9).binds (ps := ["m", "depth_so"]) fun _ _ _ _ _ _ us hl => match us, hl with | [_, _], _ => rfl), a__law_any_code := _, d__law_any_code := _, F__law_any_code := fun_mk (st := s__law_any_code) l10 c10 k10, m__law_any_code := PySem.W.mg_of X G a10, b__law_any_code := ((fun_mk (st := s__law_any_code) l10 c10 k10).binds (ps := ["source_so", "m", "depth_so"]) fun _ _ _ _ _ _ us hl => match us, hl with | [_, _, _], _ => rfl), a__law_name_of := _, d__law_name_of := _, F__law_name_of := fun_mk (st := s__law_name_of) l11 c11 k11, m__law_name_of := PySem.W.mg_of X G a11, b__law_name_of := ((fun_mk (st := s__law_name_of) l11 c11 k11).binds (ps := ["e"]) fun _ _ _ _ _ _ us hl => match us, hl with | [_], _ => rfl), a__law_error := _, d__law_error := _, F__law_error := fun_mk (st := s__law_error) l12 c12 k12, m__law_error := PySem.W.mg_of X G a12, b__law_error := ((fun_mk (st := s__law_error) l12 c12 k12).binds (ps := ["call"]) fun _ _ _ _ _ _ us hl => match us, hl with | [_], _ => rfl), a_is_integer := _, d_is_integer := _, F_is_integer := fun_mk (st := s_is_integer) l13 c13 k13, m_is_integer := PySem.W.mg_of X G a13, b_is_integer := ((fun_mk (st := s_is_integer) l13 c13 k13).binds (ps := ["value"]) fun _ _ _ _ _ _ us hl => match us, hl with | [_], _ => rfl), a_is_between := _, d_is_between := _, F_is_between := fun_mk (st := s_is_between) l14 c14 k14, m_is_between := PySem.W.mg_of X G a14, b_is_between := ((fun_mk (st := s_is_between) l14 c14 k14).binds (ps := ["value", "low", "high"]) fun _ _ _ _ _ _ us hl => match us, hl with | [_, _, _], _ => rfl), a_is_cell := _, d_is_cell := _, F_is_cell := fun_mk (st := s_is_cell) l15 c15 k15, m_is_cell := PySem.W.mg_of X G a15, b_is_cell := ((fun_mk (st := s_is_cell) l15 c15 k15).binds (ps := ["value", "columns", "rows", "many"]) fun _ _ _ _ _ _ us hl => match us, hl with | [_, _, _, _], _ => rfl), a_is_pattern := _, d_is_pattern := _, F_is_pattern := fun_mk (st := s_is_pattern) l16 c16 k16, m_is_pattern := PySem.W.mg_of X G a16, b_is_pattern := ((fun_mk (st := s_is_pattern) l16 c16 k16).binds (ps := ["value", "columns", "rows", "many"]) fun _ _ _ _ _ _ us hl => match us, hl with | [_, _, _, _], _ => rfl), a_a_manner := _, d_a_manner := _, F_a_manner := fun_mk (st := s_a_manner) l17 c17 k17, m_a_manner := PySem.W.mg_of X G a17, b_a_manner := ((fun_mk (st := s_a_manner) l17 c17 k17).binds (ps := ["value"]) fun _ _ _ _ _ _ us hl => match us, hl with | [_], _ => rfl), a_need_manner := _, d_need_manner := _, F_need_manner := fun_mk (st := s_need_manner) l18 c18 k18, m_need_manner := PySem.W.mg_of X G a18, b_need_manner := ((fun_mk (st := s_need_manner) l18 c18 k18).binds (ps := ["value"]) fun _ _ _ _ _ _ us hl => match us, hl with | [_], _ => rfl), a_are_digits := _, d_are_digits := _, F_are_digits := fun_mk (st := s_are_digits) l19 c19 k19, m_are_digits := PySem.W.mg_of X G a19, b_are_digits := ((fun_mk (st := s_are_digits) l19 c19 k19).binds (ps := ["value", "many"]) fun _ _ _ _ _ _ us hl => match us, hl with | [_, _], _ => rfl), a_a_code := _, d_a_code := _, F_a_code := fun_mk (st := s_a_code) l20 c20 k20, m_a_code := PySem.W.mg_of X G a20, b_a_code := ((fun_mk (st := s_a_code) l20 c20 k20).binds (ps := ["manner", "value"]) fun _ _ _ _ _ _ us hl => match us, hl with | [_, _], _ => rfl), a_need_code := _, d_need_code := _, F_need_code := fun_mk (st := s_need_code) l21 c21 k21, m_need_code := PySem.W.mg_of X G a21, b_need_code := ((fun_mk (st := s_need_code) l21 c21 k21).binds (ps := ["manner", "value"]) fun _ _ _ _ _ _ us hl => match us, hl with | [_, _], _ => rfl), a_place_in := _, d_place_in := _, F_place_in := fun_mk (st := s_place_in) l22 c22 k22, m_place_in := PySem.W.mg_of X G a22, b_place_in := ((fun_mk (st := s_place_in) l22 c22 k22).binds (ps := ["manner", "pattern", "code"]) fun _ _ _ _ _ _ us hl => match us, hl with | [_, _, _], _ => rfl), a_place_of := _, d_place_of := _, F_place_of := fun_mk (st := s_place_of) l23 c23 k23, m_place_of := PySem.W.mg_of X G a23, b_place_of := ((fun_mk (st := s_place_of) l23 c23 k23).binds (ps := ["manner", "code"]) fun _ _ _ _ _ _ us hl => match us, hl with | [_, _], _ => rfl), a__law_place_by := _, d__law_place_by := _, F__law_place_by := fun_mk (st := s__law_place_by) l24 c24 k24, m__law_place_by := PySem.W.mg_of X G a24, b__law_place_by := ((fun_mk (st := s__law_place_by) l24 c24 k24).binds (ps := ["m", "index_so", "code_so"]) fun _ _ _ _ _ _ us hl => match us, hl with | [_, _, _], _ => rfl), a__law_place := _, d__law_place := _, F__law_place := fun_mk (st := s__law_place) l25 c25 k25, m__law_place := PySem.W.mg_of X G a25, b__law_place := ((fun_mk (st := s__law_place) l25 c25 k25).binds (ps := ["m", "code_so"]) fun _ _ _ _ _ _ us hl => match us, hl with | [_, _], _ => rfl), a__law_deep := _, d__law_deep := _, F__law_deep := fun_mk (st := s__law_deep) l26 c26 k26, m__law_deep := PySem.W.mg_of X G a26, b__law_deep := ((fun_mk (st := s__law_deep) l26 c26 k26).binds (ps := ["m"]) fun _ _ _ _ _ _ us hl => match us, hl with | [_], _ => rfl), a__law_code := _, d__law_code := _, F__law_code := fun_mk (st := s__law_code) l27 c27 k27, m__law_code := PySem.W.mg_of X G a27, b__law_code := ((fun_mk (st := s__law_code) l27 c27 k27).binds (ps := ["m", "depth_so", "number_so"]) fun _ _ _ _ _ _ us hl => match us, hl with | [_, _, _], _ => rfl), a_law := _, d_law := _, F_law := fun_mk (st := s_law) l28 c28 k28, m_law := PySem.W.mg_of X G a28, b_law := ((fun_mk (st := s_law) l28 c28 k28).binds (ps := ["script"]) fun _ _ _ _ _ _ us hl => match us, hl with | [_], _ => rfl), n_ValueError := PySem.W.mg_none_of X G z_ValueError, n_all := PySem.W.mg_none_of X G z_all, n_bool := PySem.W.mg_none_of X G z_bool, n_int := PySem.W.mg_none_of X G z_int, n_isinstance := PySem.W.mg_none_of X G z_isinstance, n_len := PySem.W.mg_none_of X G z_len, n_list := PySem.W.mg_none_of X G z_list, n_range := PySem.W.mg_none_of X G z_range, n_set := PySem.W.mg_none_of X G z_set, n_str := PySem.W.mg_none_of X G z_str, n_tuple := PySem.W.mg_none_of X G z_tuple, n_zip := PySem.W.mg_none_of X G z_zip, tok_DEEPEST := tok_DEEPEST, g_DEEPEST := PySem.W.mg_of X G g_DEEPEST, tok_MOST := tok_MOST, g_MOST := PySem.W.mg_of X G g_MOST, c_InvalidCode := c_InvalidCode, m_InvalidCode := PySem.W.mg_of X G m_InvalidCode, q_InvalidCode := q_InvalidCode, k_InvalidCode := k_InvalidCode, s_InvalidCode := s_InvalidCode, t_InvalidCode := t_InvalidCode, c_InvalidManner := c_InvalidManner, m_InvalidManner := PySem.W.mg_of X G m_InvalidManner, q_InvalidManner := q_InvalidManner, k_InvalidManner := k_InvalidManner, s_InvalidManner := s_InvalidManner, t_InvalidManner := t_InvalidManner, c_CurveError := c_CurveError, m_CurveError := PySem.W.mg_of X G m_CurveError, c_InvalidBox := c_InvalidBox, m_InvalidBox := PySem.W.mg_of X G m_InvalidBox, c_InvalidDepth := c_InvalidDepth, m_InvalidDepth := PySem.W.mg_of X G m_InvalidDepth, c_InvalidIndex := c_InvalidIndex, m_InvalidIndex := PySem.W.mg_of X G m_InvalidIndex, c_InvalidNumber := c_InvalidNumber, m_InvalidNumber := PySem.W.mg_of X G m_InvalidNumber, c_InvalidPlace := c_InvalidPlace, m_InvalidPlace := PySem.W.mg_of X G m_InvalidPlace, c_InvalidSeen := c_InvalidSeen, m_InvalidSeen := PySem.W.mg_of X G m_InvalidSeen, c_InvalidText := c_InvalidText, m_InvalidText := PySem.W.mg_of X G m_InvalidText, c_InvalidTurn := c_InvalidTurn, m_InvalidTurn := PySem.W.mg_of X G m_InvalidTurn, c_InvalidWay := c_InvalidWay, m_InvalidWay := PySem.W.mg_of X G m_InvalidWay, c_NotThere := c_NotThere, m_NotThere := PySem.W.mg_of X G m_NotThere, c_NothingToUndo := c_NothingToUndo, m_NothingToUndo := PySem.W.mg_of X G m_NothingToUndo, c_TooMany := c_TooMany, m_TooMany := PySem.W.mg_of X G m_TooMany, e_InvalidManner := ⟨eg_InvalidManner, eh_InvalidManner, ei_InvalidManner, ej_InvalidManner, ek_InvalidManner, e_get, e_takes, en_InvalidManner⟩, x_InvalidManner := x_InvalidManner, y_InvalidManner_0 := y_InvalidManner_0, y_InvalidManner_1 := y_InvalidManner_1, y_InvalidManner_2 := y_InvalidManner_2, y_InvalidManner_3 := y_InvalidManner_3, y_InvalidManner_4 := y_InvalidManner_4, y_InvalidManner_5 := y_InvalidManner_5, y_InvalidManner_6 := y_InvalidManner_6, y_InvalidManner_7 := y_InvalidManner_7, y_InvalidManner_8 := y_InvalidManner_8, y_InvalidManner_9 := y_InvalidManner_9, y_InvalidManner_10 := y_InvalidManner_10, y_InvalidManner_11 := y_InvalidManner_11, y_InvalidManner_12 := y_InvalidManner_12, y_InvalidManner_13 := y_InvalidManner_13, y_InvalidManner_14 := y_InvalidManner_14, y_InvalidManner_15 := y_InvalidManner_15, e_InvalidCode := ⟨eg_InvalidCode, eh_InvalidCode, ei_InvalidCode, ej_InvalidCode, ek_InvalidCode, e_get, e_takes, en_InvalidCode⟩, x_InvalidCode := x_InvalidCode, y_InvalidCode_0 := y_InvalidCode_0, y_InvalidCode_1 := y_InvalidCode_1, y_InvalidCode_2 := y_InvalidCode_2, y_InvalidCode_3 := y_InvalidCode_3, y_InvalidCode_4 := y_InvalidCode_4, y_InvalidCode_5 := y_InvalidCode_5, y_InvalidCode_6 := y_InvalidCode_6, y_InvalidCode_7 := y_InvalidCode_7, y_InvalidCode_8 := y_InvalidCode_8, y_InvalidCode_9 := y_InvalidCode_9, y_InvalidCode_10 := y_InvalidCode_10, y_InvalidCode_11 := y_InvalidCode_11, y_InvalidCode_12 := y_InvalidCode_12, y_InvalidCode_13 := y_InvalidCode_13, y_InvalidCode_14 := y_InvalidCode_14, y_InvalidCode_15 := y_InvalidCode_15, cd_law := cd_law, tp_law := tp_law, hc_law := rfl }
  letI : Tab := ⟨[(tp_law, (envOfC "law" (defScope s_law) 0 0 .none).qual ++ "<lambda>")]⟩
  refine ⟨_, [(cd_law, tp_law)], spL 63 K, fun p hp => ?_, fun p hp => ?_, fun p hp => ?_, fun s v => .of_eq rfl, fun H a ns h1 _ h3 h4 => ⟨a, ns, rfl, h1, h4, fun p hp => ?_, fun _ => rfl⟩, fun base _ _ hB => (ok_law (P := l.prog) (w := w) (base := base) T (hB _ (List.mem_singleton.mpr rfl)) rfl).imp (spL_imp plain)⟩
  · rw [List.mem_singleton.mp hp]; exact hTb tp_law tm
  · rw [List.mem_singleton.mp hp]; exact tn
  · rw [List.mem_singleton.mp hp]; exact PySem.W.codeHd_of_K X ch
  · rw [List.mem_singleton.mp hp]; exact LamX.TabS.nil (h3 (cd_law, tp_law) (List.mem_singleton.mpr rfl))
end K03
open PySem PySem.W PyProof.Rows
set_option maxRecDepth 100000 in
set_option maxHeartbeats 0 in
theorem PySem.Challenge.cw_curvecodes_k03_whole_places_of_codes_holds : PySem.Challenge.rw_curvecodes_k03_whole_places_of_codes.Holds := by
  w_on; o_law; k_head; (case hw => w_witness2)
  k_fill
  refine LamX.walk_ofTs (l := PySem.Challenge.rw_curvecodes_k03_whole_places_of_codes) (n := 63) (k := 10) (x := "script") (CX := fun w => L2N.CX PySem.Challenge.rw_curvecodes_k03_whole_places_of_codes.prog w) rfl (by decide) rfl ⟨rfl, by decide, by decide⟩ (fun w h Y => PySem.W.km_in_of Y) ?F (fun w H s e s' z => DL.cx_no z)
  case F =>
    intro w mg fa h Y KX G hmg
    have hTb := PySem.W.km_tabs_of Y
    refine' K03.all_mk KX G hmg ?a0 ?l0 ?c0 ?k0 ?a1 ?l1 ?c1 ?k1 ?a2 ?l2 ?c2 ?k2 ?a3 ?l3 ?c3 ?k3 ?a4 ?l4 ?c4 ?k4 ?a5 ?l5 ?c5 ?k5 ?a6 ?l6 ?c6 ?k6 ?a7 ?l7 ?c7 ?k7 ?a8 ?l8 ?c8 ?k8 ?a9 ?l9 ?c9 ?k9 ?a10 ?l10 ?c10 ?k10 ?a11 ?l11 ?c11 ?k11 ?a12 ?l12 ?c12 ?k12 ?a13 ?l13 ?c13 ?k13 ?a14 ?l14 ?c14 ?k14 ?a15 ?l15 ?c15 ?k15 ?a16 ?l16 ?c16 ?k16 ?a17 ?l17 ?c17 ?k17 ?a18 ?l18 ?c18 ?k18 ?a19 ?l19 ?c19 ?k19 ?a20 ?l20 ?c20 ?k20 ?a21 ?l21 ?c21 ?k21 ?a22 ?l22 ?c22 ?k22 ?a23 ?l23 ?c23 ?k23 ?a24 ?l24 ?c24 ?k24 ?a25 ?l25 ?c25 ?k25 ?a26 ?l26 ?c26 ?k26 ?a27 ?l27 ?c27 ?k27 ?a28 ?l28 ?c28 ?k28 ?z_ValueError ?z_all ?z_bool ?z_int ?z_isinstance ?z_len ?z_list ?z_range ?z_set ?z_str ?z_tuple ?z_zip ?g_DEEPEST ?g_MOST ?m_InvalidCode ?q_InvalidCode ?k_InvalidCode ?s_InvalidCode ?t_InvalidCode ?m_InvalidManner ?q_InvalidManner ?k_InvalidManner ?s_InvalidManner ?t_InvalidManner ?m_CurveError ?m_InvalidBox ?m_InvalidDepth ?m_InvalidIndex ?m_InvalidNumber ?m_InvalidPlace ?m_InvalidSeen ?m_InvalidText ?m_InvalidTurn ?m_InvalidWay ?m_NotThere ?m_NothingToUndo ?m_TooMany ?eg_InvalidManner ?eh_InvalidManner ?ei_InvalidManner ?ej_InvalidManner ?ek_InvalidManner ?en_InvalidManner ?x_InvalidManner ?y_InvalidManner_0 ?y_InvalidManner_1 ?y_InvalidManner_2 ?y_InvalidManner_3 ?y_InvalidManner_4 ?y_InvalidManner_5 ?y_InvalidManner_6 ?y_InvalidManner_7 ?y_InvalidManner_8 ?y_InvalidManner_9 ?y_InvalidManner_10 ?y_InvalidManner_11 ?y_InvalidManner_12 ?y_InvalidManner_13 ?y_InvalidManner_14 ?y_InvalidManner_15 ?eg_InvalidCode ?eh_InvalidCode ?ei_InvalidCode ?ej_InvalidCode ?ek_InvalidCode ?en_InvalidCode ?x_InvalidCode ?y_InvalidCode_0 ?y_InvalidCode_1 ?y_InvalidCode_2 ?y_InvalidCode_3 ?y_InvalidCode_4 ?y_InvalidCode_5 ?y_InvalidCode_6 ?y_InvalidCode_7 ?y_InvalidCode_8 ?y_InvalidCode_9 ?y_InvalidCode_10 ?y_InvalidCode_11 ?y_InvalidCode_12 ?y_InvalidCode_13 ?y_InvalidCode_14 ?y_InvalidCode_15 ?e_get ?e_takes ?cv ?tp0 ?tn ?ch ?tm hTb
    (case a0 => k_is)
    (case l0 => k_is)
    (case c0 => k_is)
    (case k0 => k_is)
    (case a1 => k_is)
    (case l1 => k_is)
    (case c1 => k_is)
    (case k1 => k_is)
    (case a2 => k_is)
    (case l2 => k_is)
    (case c2 => k_is)
    (case k2 => k_is)
    (case a3 => k_is)
    (case l3 => k_is)
    (case c3 => k_is)
    (case k3 => k_is)
    (case a4 => k_is)
    (case l4 => k_is)
    (case c4 => k_is)
    (case k4 => k_is)
    (case a5 => k_is)
    (case l5 => k_is)
    (case c5 => k_is)
    (case k5 => k_is)
    (case a6 => k_is)
    (case l6 => k_is)
    (case c6 => k_is)
    (case k6 => k_is)
    (case a7 => k_is)
    (case l7 => k_is)
    (case c7 => k_is)
    (case k7 => k_is)
    (case a8 => k_is)
    (case l8 => k_is)
    (case c8 => k_is)
    (case k8 => k_is)
    (case a9 => k_is)
    (case l9 => k_is)
    (case c9 => k_is)
    (case k9 => k_is)
    (case a10 => k_is)
    (case l10 => k_is)
    (case c10 => k_is)
    (case k10 => k_is)
    (case a11 => k_is)
    (case l11 => k_is)
    (case c11 => k_is)
    (case k11 => k_is)
    (case a12 => k_is)
    (case l12 => k_is)
    (case c12 => k_is)
    (case k12 => k_is)
    (case a13 => k_is)
    (case l13 => k_is)
    (case c13 => k_is)
    (case k13 => k_is)
    (case a14 => k_is)
    (case l14 => k_is)
    (case c14 => k_is)
    (case k14 => k_is)
    (case a15 => k_is)
    (case l15 => k_is)
    (case c15 => k_is)
    (case k15 => k_is)
    (case a16 => k_is)
    (case l16 => k_is)
    (case c16 => k_is)
    (case k16 => k_is)
    (case a17 => k_is)
    (case l17 => k_is)
    (case c17 => k_is)
    (case k17 => k_is)
    (case a18 => k_is)
    (case l18 => k_is)
    (case c18 => k_is)
    (case k18 => k_is)
    (case a19 => k_is)
    (case l19 => k_is)
    (case c19 => k_is)
    (case k19 => k_is)
    (case a20 => k_is)
    (case l20 => k_is)
    (case c20 => k_is)
    (case k20 => k_is)
    (case a21 => k_is)
    (case l21 => k_is)
    (case c21 => k_is)
    (case k21 => k_is)
    (case a22 => k_is)
    (case l22 => k_is)
    (case c22 => k_is)
    (case k22 => k_is)
    (case a23 => k_is)
    (case l23 => k_is)
    (case c23 => k_is)
    (case k23 => k_is)
    (case a24 => k_is)
    (case l24 => k_is)
    (case c24 => k_is)
    (case k24 => k_is)
    (case a25 => k_is)
    (case l25 => k_is)
    (case c25 => k_is)
    (case k25 => k_is)
    (case a26 => k_is)
    (case l26 => k_is)
    (case c26 => k_is)
    (case k26 => k_is)
    (case a27 => k_is)
    (case l27 => k_is)
    (case c27 => k_is)
    (case k27 => k_is)
    (case a28 => k_is)
    (case l28 => k_is)
    (case c28 => k_is)
    (case k28 => k_is)
    (case z_ValueError => k_is)
    (case z_all => k_is)
    (case z_bool => k_is)
    (case z_int => k_is)
    (case z_isinstance => k_is)
    (case z_len => k_is)
    (case z_list => k_is)
    (case z_range => k_is)
    (case z_set => k_is)
    (case z_str => k_is)
    (case z_tuple => k_is)
    (case z_zip => k_is)
    (case g_DEEPEST => k_is)
    (case g_MOST => k_is)
    (case m_InvalidCode => k_is)
    (case q_InvalidCode => k_exc)
    (case k_InvalidCode => k_is)
    (case s_InvalidCode => k_is)
    (case t_InvalidCode => k_is)
    (case m_InvalidManner => k_is)
    (case q_InvalidManner => k_exc)
    (case k_InvalidManner => k_is)
    (case s_InvalidManner => k_is)
    (case t_InvalidManner => k_is)
    (case m_CurveError => k_is)
    (case m_InvalidBox => k_is)
    (case m_InvalidDepth => k_is)
    (case m_InvalidIndex => k_is)
    (case m_InvalidNumber => k_is)
    (case m_InvalidPlace => k_is)
    (case m_InvalidSeen => k_is)
    (case m_InvalidText => k_is)
    (case m_InvalidTurn => k_is)
    (case m_InvalidWay => k_is)
    (case m_NotThere => k_is)
    (case m_NothingToUndo => k_is)
    (case m_TooMany => k_is)
    (case eg_InvalidManner => k_is)
    (case eh_InvalidManner => k_is)
    (case ei_InvalidManner => k_is)
    (case ej_InvalidManner => k_is)
    (case ek_InvalidManner => k_is)
    (case en_InvalidManner => k_is)
    (case x_InvalidManner => kernel_rfl)
    (case y_InvalidManner_0 => kernel_rfl)
    (case y_InvalidManner_1 => kernel_rfl)
    (case y_InvalidManner_2 => kernel_rfl)
    (case y_InvalidManner_3 => kernel_rfl)
    (case y_InvalidManner_4 => kernel_rfl)
    (case y_InvalidManner_5 => kernel_rfl)
    (case y_InvalidManner_6 => kernel_rfl)
    (case y_InvalidManner_7 => kernel_rfl)
    (case y_InvalidManner_8 => kernel_rfl)
    (case y_InvalidManner_9 => kernel_rfl)
    (case y_InvalidManner_10 => kernel_rfl)
    (case y_InvalidManner_11 => kernel_rfl)
    (case y_InvalidManner_12 => kernel_rfl)
    (case y_InvalidManner_13 => kernel_rfl)
    (case y_InvalidManner_14 => kernel_rfl)
    (case y_InvalidManner_15 => kernel_rfl)
    (case eg_InvalidCode => k_is)
    (case eh_InvalidCode => k_is)
    (case ei_InvalidCode => k_is)
    (case ej_InvalidCode => k_is)
    (case ek_InvalidCode => k_is)
    (case en_InvalidCode => k_is)
    (case x_InvalidCode => kernel_rfl)
    (case y_InvalidCode_0 => kernel_rfl)
    (case y_InvalidCode_1 => kernel_rfl)
    (case y_InvalidCode_2 => kernel_rfl)
    (case y_InvalidCode_3 => kernel_rfl)
    (case y_InvalidCode_4 => kernel_rfl)
    (case y_InvalidCode_5 => kernel_rfl)
    (case y_InvalidCode_6 => kernel_rfl)
    (case y_InvalidCode_7 => kernel_rfl)
    (case y_InvalidCode_8 => kernel_rfl)
    (case y_InvalidCode_9 => kernel_rfl)
    (case y_InvalidCode_10 => kernel_rfl)
    (case y_InvalidCode_11 => kernel_rfl)
    (case y_InvalidCode_12 => kernel_rfl)
    (case y_InvalidCode_13 => kernel_rfl)
    (case y_InvalidCode_14 => kernel_rfl)
    (case y_InvalidCode_15 => kernel_rfl)
    (case e_get => k_is)
    (case e_takes => k_is)
    (case cv => k_is)
    (case tp0 => exact rfl)
    (case tn => kernel_rfl)
    (case ch => kernel_rfl)
    (case tm => k_mem)

