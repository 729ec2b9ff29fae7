import PyProof.Rows.All
import Wide.All
import OpenK.AllK
import Wide.FinOn
import HandS.ForMost
import HandS.ForExc
import HandS.Wide
import HandS.IsInst
import HandS.Lambda
import HandS.TupMul
import PyProof.StrOps2
import HandS.TupAny
import HandS.Conv
import HandS.SortInts
import HandS.Deep
import HandS.Walk
import KE.GoesNew
import PyProof.EnumMake
import KE.KTupSum
import KE.SortData
import KE.DataMinMax
import PyProof.ReprRoads
import PyProof.SliceStr2
import HandS.Style
import HandS.Dict
import HandS.Ends
import HandS.Words
import PyProof.ReprLen
import PyProof.P3Eq
import HandS.Codes
import HandS.Star
import HandS.FStr
import HandS.Text
import HandS.ExcInit
import HandS.Nested
import KE.KExcSuper
import HandS.ExcIs
import KE.KDictZip
import PyProof.Rows.SortShellAny
import KE.KDflt
import HandS.ExcField
import HandS.EndTab
import KE.KNest
import KE.RegKSuper
import PyProof.ListStr
import PyProof.TupleOfStr
import PyProof.RowDictHeap
import PySem.Challenge.RW_pointfolds_k02_things_judged
section
set_option Elab.async false
set_option linter.all false
set_option maxRecDepth 100000
set_option maxHeartbeats 4000000
/-! DBase: data, what a value represents, how heaps go on, denotations, judgements over HandS. -/
namespace DL
open PySem PySem.Spec PyProof.Rows L2

/-- the tables of the defs that make lambdas, and the lambdas' names -/
class Tb where
  tabs : List (Addr × Str)
  one : ∀ p ∈ tabs, ∀ p' ∈ tabs, p.1 = p'.1 → p.2 = p'.2
  /-- whether what stands at sys.modules is watched -/
  sys : Bool
variable [Tb]

inductive D where
  | non | bl (b : Bool) | int (i : Int) | str (s : Str)
  | tup (l : List D) | lst (l : List D) | dct (l : List (Key × D))
  | scr (k : Nat) | rng (z : Bool) (c : Nat)
  | exc (c : Str) (p : D)
  | fn (x : Str)
  | ty (t : String)
  | thk (a c : Addr) (q : Str) (ws : List (Option V)) (ds : List D)
  | obj (c : Str) (ks : List Str) (ds : List D)

/-! ### the draws' state -/
def rngO (l : Addr) (L : Int) (sd : Option Int) (k : Int) : HO := match sd with
  | none => .dK [(Sum.inr "cells", .ref l), (Sum.inr "left", .int L), (Sum.inr "spot", .int k)]
  | some z => .dK [(Sum.inr "left", .int L), (Sum.inr "seed", .int z), (Sum.inr "cells", .ref l), (Sum.inr "spot", .int k)]
def RngGood (n : Nat) (k : Int) : Prop := 0 ≤ k ∧ k ≤ n
/-- what may change: the draws' state, the tables of code objects -/
def IsRng (o : HO) : Prop := (∃ l L sd k, o = rngO l L sd k) ∨ ∃ ps, o = .tbl ps
/-- tables stay tables, and what they tell stays known -/
def TabG (F F' : Hp) : Prop := (∀ b ps, F b = some (.tbl ps) → ∃ ps', F' b = some (.tbl ps')) ∧ ∀ P q, (P, q) ∈ Tb.tabs → LamX.TabS F P q → LamX.TabS F' P q
theorem TabG.of {F F' : Hp} (h1 : ∀ b ps, F b = some (.tbl ps) → F' b = some (.tbl ps)) (h2 : ∀ b φ, F b = some (.ext φ) → F' b = some (.ext φ)) : TabG F F' :=
  ⟨fun b ps e => ⟨ps, h1 b ps e⟩, fun P q _ ⟨ps, e1, e2, e3⟩ => ⟨ps, h1 _ _ e1, e2, fun pos cv hc => let ⟨c, e4, e5⟩ := e3 pos cv hc; ⟨c, e4, h2 _ _ e5⟩⟩⟩
theorem TabG.same {F F' : Hp} (h : ∀ b o, F b = some o → F' b = some o) : TabG F F' := .of (fun b _ e => h b _ e) fun b _ e => h b _ e
/-- what is known of the makers' tables -/
def SysO (u : HO) : Prop := (∃ φ, u = .ext φ) ∨ ∃ o v, u = .frz o v
theorem SysO.not_rng {u : HO} (h : SysO u) : ¬ IsRng u := fun z => by
  rcases h with ⟨φ, rfl⟩ | ⟨o, v, rfl⟩ <;> rcases z with ⟨_, _, sd, _, h⟩ | ⟨_, h⟩
  · unfold rngO at h; cases sd <;> cases h
  · cases h
  · unfold rngO at h; cases sd <;> cases h
  · cases h
def TabsK (F : Hp) : Prop := (∀ P q, (P, q) ∈ Tb.tabs → LamX.TabS F P q) ∧ (Tb.sys = true → ∃ u, F sysModules = some u ∧ SysO u)
structure Grow (n : Nat) (F : Hp) (n' : Nat) (F' : Hp) : Prop where
  le : n ≤ n'
  obj : ∀ b o, F b = some o → ¬ IsRng o → F' b = some o
  rng : ∀ b l L sd k, F b = some (rngO l L sd k) → ∃ L' k', F' b = some (rngO l L' sd k') ∧ (RngGood n k → RngGood n' k')
  tab : TabG F F'
theorem TabsK.grow {n n' : Nat} {F F' : Hp} (g : Grow n F n' F') (h : TabsK F) : TabsK F' := ⟨fun P q m => g.tab.2 P q m (h.1 P q m), fun e => let ⟨u, h1, h2⟩ := h.2 e; ⟨u, g.obj _ _ h1 h2.not_rng, h2⟩⟩
theorem rngO_inj {l l' : Addr} {L L' k k' : Int} {sd sd' : Option Int} (h : rngO l L sd k = rngO l' L' sd' k') : l = l' ∧ L = L' ∧ sd = sd' ∧ k = k' := by
  unfold rngO at h
  cases sd with
  | none =>
    cases sd' with
    | none => simp at h; exact ⟨h.1, h.2.1, rfl, h.2.2⟩
    | some z => simp at h
  | some z =>
    cases sd' with
    | none => simp at h
    | some z' => simp at h; exact ⟨h.2.2.1, h.1, congrArg some h.2.1, h.2.2.2⟩
theorem rngO_dk (l : Addr) (L : Int) (sd : Option Int) (k : Int) : ∃ kvs, rngO l L sd k = .dK kvs := by cases sd <;> exact ⟨_, rfl⟩
theorem Grow.refl (n : Nat) (F : Hp) : Grow n F n F := ⟨Nat.le_refl _, fun _ _ h _ => h, fun b l L sd k h => ⟨L, k, h, fun g => g⟩, .same fun _ _ e => e⟩
theorem Grow.trans {n n1 n2 : Nat} {F F1 F2 : Hp} (a : Grow n F n1 F1) (b : Grow n1 F1 n2 F2) : Grow n F n2 F2 :=
  ⟨Nat.le_trans a.le b.le, fun c o h z => b.obj c o (a.obj c o h z) z, fun c l L sd k h => by
    obtain ⟨L1, k1, h1, g1⟩ := a.rng c l L sd k h
    obtain ⟨L2, k2, h2, g2⟩ := b.rng c l L1 sd k1 h1
    exact ⟨L2, k2, h2, fun g => g2 (g1 g)⟩, fun c ps e => let ⟨_, e1⟩ := a.tab.1 c ps e; b.tab.1 c _ e1, fun P q m z => b.tab.2 P q m (a.tab.2 P q m z)⟩
theorem Grow.same {n n' : Nat} {F F' : Hp} (hn : n ≤ n') (h : ∀ b o, F b = some o → F' b = some o) : Grow n F n' F' :=
  ⟨hn, fun b o e _ => h b o e, fun b l L sd k e => ⟨L, k, h b _ e, fun g => ⟨g.1, by have := g.2; omega⟩⟩, .same h⟩
theorem Grow.new {n : Nat} {F : Hp} {p : Addr} {o : HO} (h : F p = none) : Grow n F n (upd F p o) :=
  Grow.same (Nat.le_refl _) fun b u e => by rw [upd_ne (ne_of_none e h)]; exact e
theorem Grow.free {n n' : Nat} {F F' : Hp} (g : Grow n F n' F') {p : Addr} (h : F' p = none) : F p = none := by
  cases e : F p with
  | none => rfl
  | some o =>
    by_cases z : IsRng o
    · rcases z with ⟨l, L, sd, k, rfl⟩ | ⟨ps, rfl⟩
      · obtain ⟨L', k', h', _⟩ := g.rng p l L sd k e
        rw [h] at h'; cases h'
      · obtain ⟨ps', h'⟩ := g.tab.1 p ps e
        rw [h] at h'; cases h'
    · rw [g.obj p o e z] at h; cases h
theorem not_rng_lst {xs : List V} : ¬ IsRng (.lst xs) := fun h => by
  rcases h with ⟨_, _, sd, _, h⟩ | ⟨_, h⟩
  · unfold rngO at h; cases sd <;> cases h
  · cases h
theorem not_rng_tup {xs : List V} : ¬ IsRng (.tup xs) := fun h => by
  rcases h with ⟨_, _, sd, _, h⟩ | ⟨_, h⟩
  · unfold rngO at h; cases sd <;> cases h
  · cases h
theorem not_rng_xd {xs : List (Str × V)} : ¬ IsRng (.xd xs) := fun h => by
  rcases h with ⟨_, _, sd, _, h⟩ | ⟨_, h⟩
  · unfold rngO at h; cases sd <;> cases h
  · cases h
theorem not_rng_ext {φ : Heap → Prop} : ¬ IsRng (.ext φ) := fun h => by
  rcases h with ⟨_, _, sd, _, h⟩ | ⟨_, h⟩
  · unfold rngO at h; cases sd <;> cases h
  · cases h
theorem not_rng_frz {o : Obj} {u : HO} : ¬ IsRng (.frz o u) := fun h => by
  rcases h with ⟨_, _, sd, _, h⟩ | ⟨_, h⟩
  · unfold rngO at h; cases sd <;> cases h
  · cases h

theorem not_rng_ins {C dx : Addr} {fs : List (Str × V)} : ¬ IsRng (.ins C dx fs) := fun h => by
  rcases h with ⟨_, _, sd, _, h⟩ | ⟨_, h⟩
  · unfold rngO at h; cases sd <;> cases h
  · cases h
/-! ### exceptions as values -/
def fieldOf (c : Str) : Str := if c = "BadPaper" then "part" else if c = "BadText" ∨ c = "BadFacts" then "place" else if c = "TooGreat" then "most" else "value"
/-- an exception object of the class at C, its own dict at dx -/
def ExcO (a C dx : Addr) : HO := .ext fun h => ∃ oe vs, h.get? a = some oe ∧ oe.cls = .ref C ∧ oe.dict = some dx ∧ oe.data = .fields vs

/-! ### what a value represents -/
section
variable (K : PySem.W.Frag) (mg : Str → Option Value) (n : Nat) (F : Hp)
mutual
inductive Rep : V → D → Prop
  | non : Rep .non .non
  | bl (b : Bool) : Rep (.bl b) (.bl b)
  | int (i : Int) : Rep (.int i) (.int i)
  | str (x : Str) : Rep (.str x) (.str x)
  | lst {a : Addr} {xs : List V} {ds : List D} : F a = some (.lst xs) → Reps xs ds → Rep (.ref a) (.lst ds)
  | tup {a : Addr} {xs : List V} {ds : List D} : F a = some (.tup xs) → Reps xs ds → Rep (.ref a) (.tup ds)
  | dct {a : Addr} {kvs : List (Key × V)} {ds : List (Key × D)} : F a = some (.dK kvs) → ¬ IsRng (.dK kvs) → RepK kvs ds → Rep (.ref a) (.dct ds)
  | scr {a : Addr} {ns : List Int} : SqL K F a (ns.map V.int) → Rep (.ref a) (.scr ns.length)
  | rng {a l : Addr} {L k : Int} {sd : Option Int} {cs : List Int} : F a = some (rngO l L sd k) → RngGood n k → F l = some (.lst (cs.map V.int)) → cs ≠ [] → Rep (.ref a) (.rng sd.isSome cs.length)
  | exc {a C dx : Addr} {c : Str} {v : V} {p : D} : mg c = some (.ref C) → F a = some (ExcO a C dx) → F dx = some (.xd [(fieldOf c, v)]) → Rep v p → Rep (.ref a) (.exc c p)
  | fn {x : Str} {f : Addr} : mg x = some (.ref f) → Rep (.ref f) (.fn x)
  | ty (t : String) : Rep (.ty t) (.ty t)
  | thk {a c : Addr} {q : Str} {vs : List V} {ds : List D} : F c = some (LamX.CodeO c q) → Reps vs ds → Rep (.ref a) (.thk a c q (vs.map some) ds)
  | obj {a C dx : Addr} {c : Str} {ks : List Str} {vs : List V} {ds : List D} : mg c = some (.ref C) → F a = some (.ins C dx (ks.zip vs)) → ks.length = ds.length → Reps vs ds → Rep (.ref a) (.obj c ks ds)
inductive Reps : List V → List D → Prop
  | nil : Reps [] []
  | cons {v : V} {vs : List V} {d : D} {ds : List D} : Rep v d → Reps vs ds → Reps (v :: vs) (d :: ds)
inductive RepK : List (Key × V) → List (Key × D) → Prop
  | nil : RepK [] []
  | cons {k : Key} {v : V} {vs : List (Key × V)} {d : D} {ds : List (Key × D)} : Rep v d → RepK vs ds → RepK ((k, v) :: vs) ((k, d) :: ds)
end
end
section
variable {K : PySem.W.Frag} {mg : Str → Option Value} {n n' : Nat} {F F' : Hp}
theorem SqL.grow {a : Addr} {xs : List V} (g : Grow n F n' F') (h : SqL K F a xs) : SqL K F' a xs := by
  rcases h with (h | ⟨o, h⟩) | h
  · exact .inl (.inl (g.obj _ _ h not_rng_lst))
  · exact .inl (.inr ⟨o, g.obj _ _ h not_rng_frz⟩)
  · exact .inr h
mutual
theorem Rep.grow (g : Grow n F n' F') : ∀ {v : V} {d : D}, Rep K mg n F v d → Rep K mg n' F' v d
  | _, _, .non => .non
  | _, _, .bl b => .bl b
  | _, _, .int i => .int i
  | _, _, .str x => .str x
  | _, _, .lst h r => .lst (g.obj _ _ h not_rng_lst) (Reps.grow g r)
  | _, _, .tup h r => .tup (g.obj _ _ h not_rng_tup) (Reps.grow g r)
  | _, _, .dct h z r => .dct (g.obj _ _ h z) z (RepK.grow g r)
  | _, _, .scr h => .scr (SqL.grow g h)
  | _, _, .rng h k hl hc => by
    obtain ⟨L', k', h', gd⟩ := g.rng _ _ _ _ _ h
    exact .rng h' (gd k) (g.obj _ _ hl not_rng_lst) hc
  | _, _, .exc hc h hd r => .exc hc (g.obj _ _ h not_rng_ext) (g.obj _ _ hd not_rng_xd) (Rep.grow g r)
  | _, _, .fn h => .fn h
  | _, _, .ty t => .ty t
  | _, _, .thk hc r => .thk (g.obj _ _ hc (by unfold LamX.CodeO; exact not_rng_ext)) (Reps.grow g r)
  | _, _, .obj hc h l r => .obj hc (g.obj _ _ h not_rng_ins) l (Reps.grow g r)
theorem Reps.grow (g : Grow n F n' F') : ∀ {vs : List V} {ds : List D}, Reps K mg n F vs ds → Reps K mg n' F' vs ds
  | _, _, .nil => .nil
  | _, _, .cons h r => .cons (Rep.grow g h) (Reps.grow g r)
theorem RepK.grow (g : Grow n F n' F') : ∀ {vs : List (Key × V)} {ds : List (Key × D)}, RepK K mg n F vs ds → RepK K mg n' F' vs ds
  | _, _, .nil => .nil
  | _, _, .cons h r => .cons (Rep.grow g h) (RepK.grow g r)
end
theorem Reps.length : ∀ {vs : List V} {ds : List D}, Reps K mg n F vs ds → vs.length = ds.length
  | _, _, .nil => rfl
  | _, _, .cons _ r => by simp [Reps.length r]
theorem Reps.append : ∀ {vs ws : List V} {ds es : List D}, Reps K mg n F vs ds → Reps K mg n F ws es → Reps K mg n F (vs ++ ws) (ds ++ es)
  | _, _, _, _, .nil, s => s
  | _, _, _, _, .cons h r, s => .cons h (Reps.append r s)
theorem Reps.one {v : V} {d : D} (h : Rep K mg n F v d) : Reps K mg n F [v] [d] := .cons h .nil
theorem Reps.get : ∀ {vs : List V} {ds : List D} {i : Nat} {d : D}, Reps K mg n F vs ds → ds[i]? = some d → ∃ v, vs[i]? = some v ∧ Rep K mg n F v d
  | _, _, _, _, .nil, e => by simp at e
  | _, _, 0, _, .cons h _, e => by simp at e; subst e; exact ⟨_, rfl, h⟩
  | _, _, i + 1, _, .cons _ r, e => by
    obtain ⟨v, a, b⟩ := Reps.get (i := i) r (by simpa using e)
    exact ⟨v, by simpa using a, b⟩
theorem Reps.getV : ∀ {vs : List V} {ds : List D} {i : Nat} {v : V}, Reps K mg n F vs ds → vs[i]? = some v → ∃ d, ds[i]? = some d ∧ Rep K mg n F v d
  | _, _, _, _, .nil, e => by simp at e
  | _, _, 0, _, .cons h _, e => by simp at e; subst e; exact ⟨_, rfl, h⟩
  | _, _, i + 1, _, .cons _ r, e => by
    obtain ⟨v, a, b⟩ := Reps.getV (i := i) r (by simpa using e)
    exact ⟨v, by simpa using a, b⟩
theorem Reps.set : ∀ {vs : List V} {ds : List D} {v : V} {d : D} (i : Nat), Reps K mg n F vs ds → Rep K mg n F v d → Reps K mg n F (vs.set i v) (ds.set i d)
  | _, _, _, _, _, .nil, _ => .nil
  | _, _, _, _, 0, .cons _ r, h => .cons h r
  | _, _, _, _, i + 1, .cons q r, h => .cons q (Reps.set i r h)
theorem Reps.take : ∀ {vs : List V} {ds : List D} (i : Nat), Reps K mg n F vs ds → Reps K mg n F (vs.take i) (ds.take i)
  | _, _, 0, _ => .nil
  | _, _, _ + 1, .nil => .nil
  | _, _, i + 1, .cons h r => .cons h (Reps.take i r)
theorem Reps.drop : ∀ {vs : List V} {ds : List D} (i : Nat), Reps K mg n F vs ds → Reps K mg n F (vs.drop i) (ds.drop i)
  | _, _, 0, r => r
  | _, _, _ + 1, .nil => .nil
  | _, _, i + 1, .cons _ r => Reps.drop i r
theorem Reps.reverse : ∀ {vs : List V} {ds : List D}, Reps K mg n F vs ds → Reps K mg n F vs.reverse ds.reverse
  | _, _, .nil => .nil
  | _, _, .cons h r => by rw [List.reverse_cons, List.reverse_cons]; exact (Reps.reverse r).append (.one h)
theorem Reps.ints : ∀ {ns : List Int}, Reps K mg n F (ns.map V.int) (ns.map D.int)
  | [] => .nil
  | _ :: _ => .cons (.int _) Reps.ints
theorem Reps.strs : ∀ {ns : List Str}, Reps K mg n F (ns.map V.str) (ns.map D.str)
  | [] => .nil
  | _ :: _ => .cons (.str _) Reps.strs
theorem Reps.ofInts : ∀ {vs : List V} {ns : List Int}, Reps K mg n F vs (ns.map D.int) → vs = ns.map V.int
  | _, [], .nil => rfl
  | _, i :: ns, .cons (.int _) r => by rw [Reps.ofInts r]; rfl
theorem Reps.ofStrs : ∀ {vs : List V} {ns : List Str}, Reps K mg n F vs (ns.map D.str) → vs = ns.map V.str
  | _, [], .nil => rfl
  | _, i :: ns, .cons (.str _) r => by rw [Reps.ofStrs r]; rfl
theorem Reps.ofBls : ∀ {vs : List V} {ns : List Bool}, Reps K mg n F vs (ns.map D.bl) → vs = ns.map V.bl
  | _, [], .nil => rfl
  | _, i :: ns, .cons (.bl _) r => by rw [Reps.ofBls r]; rfl
end

/-! ### a transition: n the draws' counter, F what is frozen, H all that is tracked -/
structure Step (n : Nat) (F H : Hp) (n' : Nat) (F' H' : Hp) : Prop where
  gr : Grow n F n' F'
  sub : ∀ b o, F' b = some o → H' b = some o
  keep : ∀ b o, H b = some o → F b = none → H' b = some o ∧ F' b = none
theorem Step.refl {n : Nat} {F H : Hp} (s : ∀ b o, F b = some o → H b = some o) : Step n F H n F H := ⟨Grow.refl _ _, s, fun _ _ h z => ⟨h, z⟩⟩
theorem Step.trans {n n1 n2 : Nat} {F H F1 H1 F2 H2 : Hp} (a : Step n F H n1 F1 H1) (b : Step n1 F1 H1 n2 F2 H2) : Step n F H n2 F2 H2 :=
  ⟨a.gr.trans b.gr, b.sub, fun c o h z => let ⟨h1, z1⟩ := a.keep c o h z; b.keep c o h1 z1⟩
/-- a new object, frozen at once -/
theorem Step.new {n : Nat} {F H : Hp} {p : Addr} {o : HO} (s : ∀ b o, F b = some o → H b = some o) (h : H p = none) : Step n F H n (upd F p o) (upd H p o) := by
  have hF : F p = none := by
    cases e : F p with
    | none => rfl
    | some u => rw [s p u e] at h; cases h
  refine ⟨Grow.new hF, fun b u e => ?_, fun b u e z => ?_⟩
  · by_cases hb : b = p
    · subst hb; rw [upd_same] at e ⊢; exact e
    · rw [upd_ne hb] at e ⊢; exact s b u e
  · have hb : b ≠ p := ne_of_none e h
    rw [upd_ne hb, upd_ne hb]; exact ⟨e, z⟩
theorem sub_free {F H : Hp} (s : ∀ b o, F b = some o → H b = some o) {p : Addr} (h : H p = none) : F p = none := by
  cases e : F p with
  | none => rfl
  | some u => rw [s p u e] at h; cases h

/-! ### slots -/
inductive Slot where
  | emp | val (d : D) | own (l : List D)
abbrev En := List Slot
/-- the entry of the body -/
structure Bs where
  n : Nat
  F : Hp
  H : Hp
section
variable (K : PySem.W.Frag) (mg : Str → Option Value) (B : Bs) (n : Nat) (F H : Hp)
def SlotOk (v : Option (Option V)) : Slot → Prop
  | .emp => True
  | .val d => ∃ u, v = some (some u) ∧ Rep K mg n F u d
  | .own ds => ∃ a xs, v = some (some (.ref a)) ∧ F a = none ∧ B.H a = none ∧ H a = some (.lst xs) ∧ Reps K mg n F xs ds
def IsOwn (s : Slot) : Prop := match s with | .own _ => True | _ => False
structure SL (σ : L2.St) (env : En) : Prop where
  st : Step B.n B.F B.H n F H
  len : σ.length = env.length
  slot : ∀ (i : Nat) (s : Slot), env[i]? = some s → SlotOk K mg B n F H (σ[i]?) s
  ne : ∀ (i j : Nat) (s t : Slot), env[i]? = some s → env[j]? = some t → IsOwn s → IsOwn t → i ≠ j → σ[i]? ≠ σ[j]?
  tb : TabsK B.F
end
section
variable {K : PySem.W.Frag} {mg : Str → Option Value} {B : Bs} {n n' : Nat} {F H F' H' : Hp} {σ : L2.St} {env : En}
theorem SL.tabs (s : SL K mg B n F H σ env) : TabsK F := s.tb.grow s.st.gr
theorem SL.sub (s : SL K mg B n F H σ env) : ∀ b o, F b = some o → H b = some o := s.st.sub
/-- behind a transition that leaves the slots as they are -/
theorem SL.step (s : SL K mg B n F H σ env) (t : Step n F H n' F' H') : SL K mg B n' F' H' σ env := by
  refine ⟨s.st.trans t, s.len, fun i x h => ?_, s.ne, s.tb⟩
  have q := s.slot i x h
  cases x with
  | emp => trivial
  | val d =>
    obtain ⟨u, e, r⟩ := q
    exact ⟨u, e, r.grow t.gr⟩
  | own ds =>
    obtain ⟨a, xs, e, f, b, h1, r⟩ := q
    obtain ⟨h2, f2⟩ := t.keep a _ h1 f
    exact ⟨a, xs, e, f2, b, h2, r.grow t.gr⟩
/-- a slot is set to a frozen value -/
theorem SL.set (s : SL K mg B n F H σ env) (i : Nat) {v : V} {d : D} (r : Rep K mg n F v d) : SL K mg B n F H (σ.set i (some v)) (env.set i (.val d)) := by
  refine ⟨s.st, by rw [List.length_set, List.length_set]; exact s.len, fun j x h => ?_, fun j k x y hx hy ox oy hjk => ?_, s.tb⟩
  · by_cases hj : i = j
    · subst hj
      have hl : i < env.length := by
        have := (List.getElem?_eq_some_iff.mp h).1
        simpa using this
      rw [List.getElem?_set_self hl] at h
      cases h
      exact ⟨v, by rw [List.getElem?_set_self (by rw [s.len]; exact hl)], r⟩
    · rw [List.getElem?_set_ne hj] at h ⊢
      exact s.slot j x h
  · have nj : i ≠ j := fun e => by
      subst e
      have hl : i < env.length := by
        have := (List.getElem?_eq_some_iff.mp hx).1
        simpa using this
      rw [List.getElem?_set_self hl] at hx
      cases hx
      exact ox
    have nk : i ≠ k := fun e => by
      subst e
      have hl : i < env.length := by
        have := (List.getElem?_eq_some_iff.mp hy).1
        simpa using this
      rw [List.getElem?_set_self hl] at hy
      cases hy
      exact oy
    rw [List.getElem?_set_ne nj] at hx ⊢
    rw [List.getElem?_set_ne nk] at hy ⊢
    exact s.ne j k x y hx hy ox oy hjk
end

/-! ### denotations: what is wanted behind, of a value and the counter, and of an exception -/
structure M (α : Type) where
  run : Nat → (α → Nat → Prop) → (D → Nat → Prop) → Prop
  mono : ∀ {n : Nat} {P P' : α → Nat → Prop} {E E' : D → Nat → Prop}, (∀ a m, P a m → P' a m) → (∀ x m, E x m → E' x m) → run n P E → run n P' E'
def ret {α : Type} (a : α) : M α := ⟨fun n P _ => P a n, fun h _ q => h _ _ q⟩
def bnd {α β : Type} (m : M α) (f : α → M β) : M β := ⟨fun n P E => m.run n (fun a n' => (f a).run n' P E) E, fun h k q => m.mono (fun a _ z => (f a).mono h k z) k q⟩
def rais {α : Type} (x : D) : M α := ⟨fun n _ E => E x n, fun _ k q => k _ _ q⟩
def stuck {α : Type} : M α := ⟨fun _ _ _ => False, fun _ _ q => q⟩
def need {α : Type} (p : Prop) (m : M α) : M α := ⟨fun n P E => p ∧ m.run n P E, fun h k q => ⟨q.1, m.mono h k q.2⟩⟩
/-- any of these: whatever it is -/
def any {α : Type} (S : α → Prop) : M α := ⟨fun n P _ => ∀ a, S a → P a n, fun h _ q a s => h _ _ (q a s)⟩
def tick : M Unit := ⟨fun n P _ => P () (n + 1), fun h _ q => h _ _ q⟩
@[simp] theorem bnd_ret {α β : Type} (a : α) (f : α → M β) : bnd (ret a) f = f a := rfl
@[simp] theorem bnd_rais {α β : Type} (x : D) (f : α → M β) : bnd (rais x) f = rais x := rfl
@[simp] theorem bnd_stuck {α β : Type} (f : α → M β) : bnd stuck f = stuck := rfl
@[simp] theorem bnd_need {α β : Type} (p : Prop) (m : M α) (f : α → M β) : bnd (need p m) f = need p (bnd m f) := rfl
@[simp] theorem bnd_bnd {α β γ : Type} (m : M α) (f : α → M β) (g : β → M γ) : bnd (bnd m f) g = bnd m fun a => bnd (f a) g := rfl
theorem M.ext {α : Type} {a b : M α} (h : ∀ n P E, a.run n P E ↔ b.run n P E) : a = b := by
  cases a; cases b
  congr
  funext n P E
  exact propext (h n P E)
theorem need_of {α : Type} {p : Prop} (h : p) (m : M α) : need p m = m := M.ext fun _ _ _ => ⟨fun q => q.2, fun q => ⟨h, q⟩⟩
theorem bnd_ite {α β : Type} (c : Prop) [Decidable c] (a b : M α) (f : α → M β) : bnd (if c then a else b) f = if c then bnd a f else bnd b f := by
  by_cases h : c
  · rw [if_pos h, if_pos h]
  · rw [if_neg h, if_neg h]
abbrev DExp := En → M D
abbrev DTst := En → M Bool
abbrev DArg := En → M (List D)
/-- a statement's end -/
inductive Fl where
  | nx (env : En) | rt (d : D)
abbrev DStm := En → M Fl

/-! ### judgements -/
/-- an exception in flight: its class, its dict -/
def RepX (K : PySem.W.Frag) (mg : Str → Option Value) (n : Nat) (F : Hp) (cls : Value) (d : Option Addr) (x : D) : Prop :=
  ∃ (c : Str) (p : D) (C dx : Addr) (v : V), x = .exc c p ∧ mg c = some (.ref C) ∧ cls = .ref C ∧ d = some dx ∧ F dx = some (.xd [(fieldOf c, v)]) ∧ Rep K mg n F v p
theorem RepX.grow {K : PySem.W.Frag} {mg : Str → Option Value} {n n' : Nat} {F F' : Hp} {cls : Value} {d : Option Addr} {x : D} (g : Grow n F n' F') (h : RepX K mg n F cls d x) : RepX K mg n' F' cls d x := by
  obtain ⟨c, p, C, dx, v, h1, h2, h3, h4, h5, h6⟩ := h
  exact ⟨c, p, C, dx, v, h1, h2, h3, h4, g.obj _ _ h5 not_rng_xd, h6.grow g⟩
section
variable (X : Cx) (W : WX)
def okE (n : Nat) (F H : Hp) (Q : VK) : D → Nat → Prop := fun d n' => ∀ v F' H', Step n F H n' F' H' → Rep X.K X.mg n' F' v d → Q v H'
def okT (n : Nat) (F H : Hp) (Q : Bool → Hp → Prop) : Bool → Nat → Prop := fun b n' => ∀ F' H', Step n F H n' F' H' → Q b H'
def okA (n : Nat) (F H : Hp) (Q : List V → Hp → Prop) : List D → Nat → Prop := fun ds n' => ∀ vs F' H', Step n F H n' F' H' → Reps X.K X.mg n' F' vs ds → Q vs H'
def exE (n : Nat) (F H : Hp) (σ : L2.St) : D → Nat → Prop := fun x n' => ∀ cls dx F' H', Step n F H n' F' H' → RepX X.K X.mg n' F' cls dx x → W cls dx σ H'
def okS (B : Bs) (n : Nat) (F : Hp) (Ds : Ends) : Fl → Nat → Prop := fun f n' => match f with
  | .nx env' => ∀ σ' F' H', Grow n F n' F' → SL X.K X.mg B n' F' H' σ' env' → Ds.nx σ' H'
  | .rt d => ∀ v F' H', Step B.n B.F B.H n' F' H' → Rep X.K X.mg n' F' v d → Ds.rt v H'
def exS (B : Bs) : D → Nat → Prop := fun x n' => ∀ cls dx σ' F' H', Step B.n B.F B.H n' F' H' → RepX X.K X.mg n' F' cls dx x → W cls dx σ' H'
def tD (f : DExp) : TE := fun σ H Q => ∃ (B : Bs) (n : Nat) (F : Hp) (env : En), SL X.K X.mg B n F H σ env ∧ (f env).run n (okE X n F H Q) (exE X W n F H σ)
def tT (f : DTst) : TT := fun σ H Q => ∃ (B : Bs) (n : Nat) (F : Hp) (env : En), SL X.K X.mg B n F H σ env ∧ (f env).run n (okT n F H Q) (exE X W n F H σ)
def tA (f : DArg) : TA := fun σ H Q => ∃ (B : Bs) (n : Nat) (F : Hp) (env : En), SL X.K X.mg B n F H σ env ∧ (f env).run n (okA X n F H Q) (exE X W n F H σ)
def tS (s : DStm) : TS := fun Ds σ H => ∃ (B : Bs) (n : Nat) (F : Hp) (env : En), SL X.K X.mg B n F H σ env ∧ (s env).run n (okS X B n F Ds) (exS X W B)
structure DE (e : Expr) (f : DExp) : Prop where
  pe : PE X e (tD X W f)
structure DT (e : Expr) (f : DTst) : Prop where
  pt : PT X e (tT X W f)
/-- a chain of and, or -/
structure DW (e : Expr) (f : DTst) : Prop where
  pw : PW X e (tT X W f)
structure DA (es : List Expr) (f : DArg) : Prop where
  pa : PA X es (tA X W f)
structure DS (st : Stmt) (s : DStm) : Prop where
  ps : PS X st (tS X W s)
structure DSs (st : List Stmt) (s : DStm) : Prop where
  pss : PSs X st (tS X W s)
end
theorem PE.imp {X : Cx} {e : Expr} {t t' : TE} (h : PE X e t) (hi : ∀ σ H Q, t' σ H Q → t σ H Q) : PE X e t' := ⟨fun pins s σ H Q I q => h.run pins s σ H Q I (hi σ H Q q)⟩
theorem PT.imp {X : Cx} {e : Expr} {t t' : TT} (h : PT X e t) (hi : ∀ σ H Q, t' σ H Q → t σ H Q) : PT X e t' := ⟨fun pins s σ H Q I q => h.run pins s σ H Q I (hi σ H Q q)⟩
theorem PW.imp {X : Cx} {e : Expr} {t t' : TT} (h : PW X e t) (hi : ∀ σ H Q, t' σ H Q → t σ H Q) : PW X e t' := ⟨fun wh pins s σ H Q I q => h.run wh pins s σ H Q I (hi σ H Q q)⟩
theorem PA.imp {X : Cx} {es : List Expr} {t t' : TA} (h : PA X es t) (hi : ∀ σ H Q, t' σ H Q → t σ H Q) : PA X es t' := ⟨fun pos pins s σ H Q I q => h.run pos pins s σ H Q I (hi σ H Q q)⟩
theorem PS.imp {X : Cx} {st : Stmt} {t t' : TS} (h : PS X st t) (hi : ∀ D σ H, t' D σ H → t D σ H) : PS X st t' := ⟨fun pins s σ H D I q => h.run pins s σ H D I (hi D σ H q)⟩
theorem PSs.imp {X : Cx} {st : List Stmt} {t t' : TS} (h : PSs X st t) (hi : ∀ D σ H, t' D σ H → t D σ H) : PSs X st t' := ⟨fun pins s σ H D I q => h.run pins s σ H D I (hi D σ H q)⟩

/-! ### a def's promise -/
abbrev Fn := List D → M D
def spD (K : PySem.W.Frag) (mg : Str → Option Value) (m : Nat) (φ : Fn) : Sp := fun vs H Q E => vs.length = m ∧ ∃ (n : Nat) (F : Hp) (ds : List D), (∀ b o, F b = some o → H b = some o) ∧ TabsK F ∧ Reps K mg n F vs ds ∧
  (φ ds).run n (fun d n' => ∀ v F' H', Step n F H n' F' H' → Rep K mg n' F' v d → Q v H') (fun x n' => ∀ cls dx F' H', Step n F H n' F' H' → RepX K mg n' F' cls dx x → E cls dx H')
theorem SL.start {K : PySem.W.Frag} {mg : Str → Option Value} {n : Nat} {F H : Hp} {vs : List V} {ds : List D} {N : List Str} (s : ∀ b o, F b = some o → H b = some o) (r : Reps K mg n F vs ds) (tb : TabsK F) :
    SL K mg ⟨n, F, H⟩ n F H (L2.start N vs) (ds.map Slot.val ++ List.replicate (N.length - ds.length) Slot.emp) := by
  have hl := r.length
  refine ⟨Step.refl s, by simp [L2.start, hl], fun i x h => ?_, fun i j x y hx hy ox oy _ => ?_, tb⟩
  · cases x with
    | emp => trivial
    | own l =>
      exfalso
      by_cases hi : i < ds.length
      · rw [List.getElem?_append_left (by simpa using hi), List.getElem?_map] at h
        cases e : ds[i]? with
        | none => rw [e] at h; cases h
        | some a => rw [e] at h; cases h
      · rw [List.getElem?_append_right (by simpa using hi), List.getElem?_replicate] at h
        split at h <;> cases h
    | val d =>
      by_cases hi : i < ds.length
      · rw [List.getElem?_append_left (by simpa using hi), List.getElem?_map] at h
        cases e : ds[i]? with
        | none => rw [e] at h; cases h
        | some a =>
          rw [e] at h; cases h
          obtain ⟨v, hv, rv⟩ := r.get e
          refine ⟨v, ?_, rv⟩
          unfold L2.start
          rw [List.getElem?_append_left (by rw [List.length_map, hl]; exact hi), List.getElem?_map, hv]; rfl
      · rw [List.getElem?_append_right (by simpa using hi), List.getElem?_replicate] at h
        split at h <;> cases h
  · exfalso
    by_cases hi : i < ds.length
    · rw [List.getElem?_append_left (by simpa using hi), List.getElem?_map] at hx
      cases e : ds[i]? with
      | none => rw [e] at hx; cases hx
      | some a => rw [e] at hx; cases hx; exact ox
    · rw [List.getElem?_append_right (by simpa using hi), List.getElem?_replicate] at hx
      split at hx
      · cases hx; exact ox
      · cases hx
/-- what a body hands back -/
def body (s : DStm) (env : En) : M D := bnd (s env) fun f => match f with
  | .nx _ => ret .non
  | .rt d => ret d

/-! ### defs called where no repr is under way (A.guards = some []): a promise that is used there alone -/
structure FnG (P : Program) (w : World) (K : PySem.W.Frag) (mg : Str → Option Value) (ground : Heap) (k : Nat) (f : Addr) (fd : FuncData) (ps : List Str) (sp : Sp) : Prop where
  len : ∀ vs H Q E, sp vs H Q E → vs.length = ps.length
  run : ∀ (R : Around) (callers : List PySem.Env) (t : Shared) (H : Hp) (g : Args) (us : List Value) (vs : List V) (Q : VK) (E : XK),
    Room k R → R.guards = some [] → Env0 P w K mg ground R callers t H → BindsTo t fd g (ps.zip us) → Vals vs us → sp vs H Q E →
    codeAny (model P w) R (.call (.ref f) g) (CR (L2.CX P w) callers P w H t Q E) t
section
variable {P : Program} {w : World} {K : PySem.W.Frag} {mg : Str → Option Value} {ground : Heap} {f : Addr} {fd : FuncData} {ps : List Str}
theorem FnG.mono {j k : Nat} {sp : Sp} (G : FnG P w K mg ground j f fd ps sp) (h : j ≤ k) : FnG P w K mg ground k f fd ps sp :=
  ⟨G.len, fun R callers t H g us vs Q E r => G.run R callers t H g us vs Q E (r.mono h)⟩
theorem FnG.imp {k : Nat} {sp sp' : Sp} (G : FnG P w K mg ground k f fd ps sp) (h : ∀ vs H Q E, sp' vs H Q E → sp vs H Q E) : FnG P w K mg ground k f fd ps sp' :=
  ⟨fun vs H Q E q => G.len vs H Q E (h _ _ _ _ q), fun R callers t H g us vs Q E r gd e b v q => G.run R callers t H g us vs Q E r gd e b v (h _ _ _ _ q)⟩
/-- a promise that holds everywhere -/
theorem FnG.of {k : Nat} {sp : Sp} (G : FnOk P w K mg ground (L2.CX P w) k f fd ps sp) : FnG P w K mg ground k f fd ps sp :=
  ⟨G.len, fun R callers t H g us vs Q E r _ e b v q => G.run R callers t H g us vs Q E r e b v q⟩
/-- by its body -/
theorem FnG.body {x qual : Str} {st : Stmt} {N : List Str} {k : Nat} {sp : Sp} (F : Fun K x qual st f fd) (S : FnScope N ps (defScope st)) (len : ∀ vs H Q E, sp vs H Q E → vs.length = ps.length)
    (hb : ∀ (cd : Value) (R : Around) (callers : List PySem.Env) (t : Shared) (H : Hp) (vs : List V) (Q : VK) (E : XK), Room k (R.deeper (envOfC qual (defScope st) t.heap.objs.size f cd)) → R.guards = some [] → sp vs H Q E →
      ∃ r, PSs (cxOf (L2.CX P w) P w K mg ground N qual (defScope st) f cd R callers t H E) (defBody st) r ∧ r { nx := fun _ H' => Q .non H', rt := Q } (L2.start N vs) H) :
    FnG P w K mg ground (k + 1) f fd ps sp := by
  obtain ⟨_, _, _, _, _, _, cd, _, _, rfl, hl, hc⟩ := F.ex
  constructor
  · exact len
  intro R callers t H g us vs Q E rm gd e0 bd rv q
  have kin : K.In t.heap := e0.mod.kin.keeps fun b o e => (e0.bs b o e).1
  have nol : t.heap.NoLimit := e0.mod.nolimit.keeps fun b o e => (e0.bs b o e).1
  have kinds : ∀ y ∈ ps.zip us, (defScope st).names.lookup y.1 = some .local ∨
      ((defScope st).names.lookup y.1 = some .cell ∧ ((cellsFrom (t.heap.objs.size + 1) (defScope st).names []).lookup y.1).isSome = true) := by
    rintro ⟨a, v⟩ hy
    cases S.par a (List.of_mem_zip hy).1 with
    | inl z => exact .inl z
    | inr z => exact .inr ⟨z, PySem.W.cellsFrom_some _ _ _ (.inl z)⟩
  refine codeAny_call_function rm.depth (kin _ _ hl) rfl S.co S.gen rfl (PySem.W.codeRec_of kin hc) (bd _ _ _ _ (wpAny_newFunctionEnv_cells S.kind kinds fun en he s1 ic => ?_))
  subst he
  refine ⟨nol.keeps ic.toInCall.keep, codeAny_func ?_⟩
  obtain ⟨r, hr, hq⟩ := hb cd R callers t H vs Q E (rm.deeper _) gd q
  have I0 := inv_start (CX := L2.CX P w) (E := E) (N := N) S rm.hd e0 (len _ _ _ _ q) rv ic
  refine wpAny_mono (hr.run [] s1 (L2.start N vs) H _ I0 hq) (fun fl s2 z => ?_) fun _ _ z => z
  cases fl with
  | next =>
    obtain ⟨σ2, H2, J, q2⟩ := z
    exact ⟨.non, H2, J.os, J.bare, J.base, J.hok, rfl, q2⟩
  | ret u =>
    obtain ⟨v, σ2, H2, J, ru, q2⟩ := z
    exact ⟨v, H2, J.os, J.bare, J.base, J.hok, ru, q2⟩
  | brk => obtain ⟨_, _, _, q2⟩ := z; exact False.elim q2
  | cont => obtain ⟨_, _, _, q2⟩ := z; exact False.elim q2
/-- THE RULE for a def of the text -/
theorem FnG.okD {x qual : Str} {st : Stmt} {N : List Str} {k : Nat} {s : DStm} (F : Fun K x qual st f fd) (S : FnScope N ps (defScope st))
    (hb : ∀ (cd : Value) (R : Around) (callers : List PySem.Env) (t : Shared) (H : Hp) (E : XK), Room k (R.deeper (envOfC qual (defScope st) t.heap.objs.size f cd)) → R.guards = some [] →
      DSs (cxOf (L2.CX P w) P w K mg ground N qual (defScope st) f cd R callers t H E) (fun cls d _ H => E cls d H) (defBody st) s) :
    FnG P w K mg ground (k + 1) f fd ps (spD K mg ps.length fun ds => DL.body s (ds.map Slot.val ++ List.replicate (N.length - ds.length) Slot.emp)) := by
  refine FnG.body F S (fun vs H Q E h => h.1) fun cd R callers t H vs Q E rm gd h => ⟨_, (hb cd R callers t H E rm gd).pss, ?_⟩
  obtain ⟨_, n, F', ds, sb, tb, r, q⟩ := h
  refine ⟨⟨n, F', H⟩, n, F', _, SL.start sb r tb, (s _).mono (fun fl m hf => ?_) (fun x m hx => ?_) q⟩
  · cases fl with
    | nx env' => exact fun σ' F2 H2 _ z => hf .non F2 H2 z.st .non
    | rt d => exact fun v F2 H2 z rv => hf v F2 H2 z rv
  · exact fun cls dx σ' F2 H2 z rx => hx cls dx F2 H2 z rx
end
/-- what a body's context gives: where it runs -/
structure Rm (k : Nat) (A : Around) : Prop where
  room : Room k A
  gd : A.guards = some []
/-- what is known of the context in a body -/
structure Kx (X : Cx) (W : WX) (k : Nat) : Prop where
  tk : Takes X W
  hp : PassesOwn (model X.prog X.w) X.A X.env X.xe
  rm : Rm k X.A
  calm : X.calm = true
  nd : X.N.Nodup
theorem Kx.of {P : Program} {w : World} {K : PySem.W.Frag} {mg : Str → Option Value} {ground : Heap} {N : List Str} {qual : Str} {sc : Scope} {f : Addr} {cd : Value} {R : Around} {callers : List PySem.Env} {t : Shared} {H : Hp} {E : XK} {k : Nat}
    (rm : Room k (R.deeper (envOfC qual sc t.heap.objs.size f cd))) (gd : R.guards = some []) (nd : N.Nodup) : Kx (cxOf (L2.CX P w) P w K mg ground N qual sc f cd R callers t H E) (fun cls d _ H => E cls d H) k :=
  ⟨takes_of rfl rfl rfl rfl, passes_of rfl, ⟨rm, gd⟩, rfl, nd⟩
/-- a global name is bound to a def that keeps a promise -/
structure Glo (P : Program) (w : World) (K : PySem.W.Frag) (mg : Str → Option Value) (ground : Heap) (k : Nat) (x : Str) (m : Nat) (φ : Fn) : Prop where
  ex : ∃ (f : Addr) (fd : FuncData) (ps : List Str), ps.length = m ∧ mg x = some (.ref f) ∧ PySem.W.keepIn K (.ref f) = true ∧ Binds K fd ps [] ∧ FnG P w K mg ground k f fd ps (spD K mg m φ)
theorem Glo.mono {P : Program} {w : World} {K : PySem.W.Frag} {mg : Str → Option Value} {ground : Heap} {j k m : Nat} {x : Str} {φ : Fn} (G : Glo P w K mg ground j x m φ) (h : j ≤ k) : Glo P w K mg ground k x m φ :=
  let ⟨f, fd, ps, h1, h2, h3, h4, h5⟩ := G.ex
  ⟨f, fd, ps, h1, h2, h3, h4, h5.mono h⟩
/-- another meaning, by which the promise's meaning can be had -/
theorem Glo.imp {P : Program} {w : World} {K : PySem.W.Frag} {mg : Str → Option Value} {ground : Heap} {k m : Nat} {x : Str} {φ ψ : Fn} (G : Glo P w K mg ground k x m φ) (h : ∀ ds n P E, (ψ ds).run n P E → (φ ds).run n P E) : Glo P w K mg ground k x m ψ :=
  let ⟨f, fd, ps, h1, h2, h3, h4, h5⟩ := G.ex
  ⟨f, fd, ps, h1, h2, h3, h4, h5.imp fun vs H Q E ⟨l, n, F, ds, s, tb, r, q⟩ => ⟨l, n, F, ds, s, tb, r, h _ _ _ _ q⟩⟩
end DL

end
section
set_option Elab.async false
set_option linter.all false
set_option maxRecDepth 100000
set_option maxHeartbeats 4000000
/-! DExpr: expressions. -/
namespace DL
open PySem PySem.Spec PyProof.Rows L2
variable [Tb]
section
variable {X : Cx} {W : WX} {n n' n1 : Nat} {F H F' H' F1 H1 : Hp} {σ : L2.St} {Q : VK}
theorem okE.step {d : D} (t : Step n F H n1 F1 H1) (h : okE X n F H Q d n') : okE X n1 F1 H1 Q d n' := fun v F' H' t' r => h v F' H' (t.trans t') r
theorem okT.step {b : Bool} {Q : Bool → Hp → Prop} (t : Step n F H n1 F1 H1) (h : okT n F H Q b n') : okT n1 F1 H1 Q b n' := fun F' H' t' => h F' H' (t.trans t')
theorem okA.step {ds : List D} {Q : List V → Hp → Prop} (t : Step n F H n1 F1 H1) (h : okA X n F H Q ds n') : okA X n1 F1 H1 Q ds n' := fun v F' H' t' r => h v F' H' (t.trans t') r
theorem exE.step {x : D} (t : Step n F H n1 F1 H1) (h : exE X W n F H σ x n') : exE X W n1 F1 H1 σ x n' := fun c d F' H' t' r => h c d F' H' (t.trans t') r
/-- evaluate, then go on -/
theorem tD.go {f : DExp} {B : Bs} {env : En} {P : D → Nat → Prop} {R : V → Hp → Prop} (S : SL X.K X.mg B n F H σ env) (h : (f env).run n P (exE X W n F H σ))
    (hk : ∀ d n1 v F1 H1, P d n1 → Step n F H n1 F1 H1 → Rep X.K X.mg n1 F1 v d → SL X.K X.mg B n1 F1 H1 σ env → R v H1) : tD X W f σ H R :=
  ⟨B, n, F, env, S, (f env).mono (fun d n1 p v F1 H1 t r => hk d n1 v F1 H1 p t r (S.step t)) (fun _ _ z => z) h⟩
theorem tT.go {f : DTst} {B : Bs} {env : En} {P : Bool → Nat → Prop} {R : Bool → Hp → Prop} (S : SL X.K X.mg B n F H σ env) (h : (f env).run n P (exE X W n F H σ))
    (hk : ∀ d n1 F1 H1, P d n1 → Step n F H n1 F1 H1 → SL X.K X.mg B n1 F1 H1 σ env → R d H1) : tT X W f σ H R :=
  ⟨B, n, F, env, S, (f env).mono (fun d n1 p F1 H1 t => hk d n1 F1 H1 p t (S.step t)) (fun _ _ z => z) h⟩
theorem tA.go {f : DArg} {B : Bs} {env : En} {P : List D → Nat → Prop} {R : List V → Hp → Prop} (S : SL X.K X.mg B n F H σ env) (h : (f env).run n P (exE X W n F H σ))
    (hk : ∀ d n1 v F1 H1, P d n1 → Step n F H n1 F1 H1 → Reps X.K X.mg n1 F1 v d → SL X.K X.mg B n1 F1 H1 σ env → R v H1) : tA X W f σ H R :=
  ⟨B, n, F, env, S, (f env).mono (fun d n1 p v F1 H1 t r => hk d n1 v F1 H1 p t r (S.step t)) (fun _ _ z => z) h⟩
end

/-! ### names and constants -/
def dVar (i : Nat) : DExp := fun env => match env[i]? with
  | some (.val d) => ret d
  | _ => stuck
def dK (d : D) : DExp := fun _ => ret d
section
variable {X : Cx} {W : WX}
theorem de_var (i : Nat) {x : Str} {pos : Pos} (hN : X.N[i]? = some x := by rfl) (hv : Vis X.env.scope x := by first | exact Or.inl rfl | exact Or.inr (Or.inl rfl) | exact Or.inr (Or.inr rfl)) (hd : (x == ("__debug__" : Str)) = false := by decide)
    (hcd : (x == ("__classdict__" : Str)) = false := by decide) : DE X W (.Name x pos) (dVar i) := by
  refine ⟨PE.imp (pe_var hN hv hd hcd) fun σ H Q ⟨B, n, F, env, S, h⟩ => ?_⟩
  unfold dVar at h
  split at h
  · rename_i d e
    obtain ⟨u, hu, r⟩ := S.slot i _ e
    exact ⟨u, hu, h u F H (Step.refl S.sub) r⟩
  · exact h.elim
theorem de_k {e : Expr} {v : V} {d : D} (he : PE X e (tC v)) (hr : ∀ n F, Rep X.K X.mg n F v d) : DE X W e (dK d) :=
  ⟨PE.imp he fun σ H Q ⟨B, n, F, env, S, h⟩ => h v F H (Step.refl S.sub) (hr n F)⟩
theorem de_int {i : Int} {j pos} : DE X W (.Constant (.int i) j pos) (dK (.int i)) := de_k pe_int fun _ _ => .int i
theorem de_bl {b : Bool} {j pos} : DE X W (.Constant (.bool b) j pos) (dK (.bl b)) := de_k pe_bl fun _ _ => .bl b
theorem de_non {j pos} : DE X W (.Constant .none j pos) (dK .non) := de_k pe_non fun _ _ => .non
theorem de_str {x : Str} {j pos} : DE X W (.Constant (.str x) j pos) (dK (.str x)) := de_k pe_str fun _ _ => .str x
theorem de_gint {x : Str} {i : Int} {t : Tok} {pos : Pos} (hm : X.mg x = some (.int i t)) (hg : Gl X x := by rfl) (hd : (x == ("__debug__" : Str)) = false := by decide) : DE X W (.Name x pos) (dK (.int i)) := de_k (v := .int i) (pe_glob hg hm ⟨t, rfl⟩ hd) fun _ _ => .int i
theorem de_gstr {x : Str} {i : Str} {t : Tok} {pos : Pos} (hm : X.mg x = some (.str i t)) (hg : Gl X x := by rfl) (hd : (x == ("__debug__" : Str)) = false := by decide) : DE X W (.Name x pos) (dK (.str i)) := de_k (v := .str i) (pe_glob hg hm ⟨t, rfl⟩ hd) fun _ _ => .str i
theorem de_gfn {x : Str} {f : Addr} {pos : Pos} (hm : X.mg x = some (.ref f)) (hg : Gl X x := by rfl) (hd : (x == ("__debug__" : Str)) = false := by decide) : DE X W (.Name x pos) (dK (.fn x)) := de_k (v := .ref f) (pe_glob hg hm rfl hd) fun _ _ => .fn hm
end

/-! ### operators -/
/-- a rule of two values, told by data -/
def OpD (X : Cx) (r : R2) (g : D → D → M D) : Prop := ∀ (n : Nat) (F H : Hp) (x y : V) (d e : D) (Q : VK) (E : D → Nat → Prop), (∀ b o, F b = some o → H b = some o) → Rep X.K X.mg n F x d → Rep X.K X.mg n F y e →
  (g d e).run n (okE X n F H Q) E → r x y H Q
def UnD (X : Cx) (r : V → Hp → VK → Prop) (g : D → M D) : Prop := ∀ (n : Nat) (F H : Hp) (x : V) (d : D) (Q : VK) (E : D → Nat → Prop), (∀ b o, F b = some o → H b = some o) → Rep X.K X.mg n F x d →
  (g d).run n (okE X n F H Q) E → r x H Q
def dBin (g : D → D → M D) (fa fb : DExp) : DExp := fun env => bnd (fa env) fun x => bnd (fb env) fun y => g x y
def dUn (g : D → M D) (fa : DExp) : DExp := fun env => bnd (fa env) g
section
variable {X : Cx} {W : WX} {a b c : Expr} {fa fb fc : DExp} {pos : Pos} {r r' : R2} {g g' : D → D → M D}
theorem OpR.or {f : Value → Value → Sem Value} (h : OpR X f r) (h' : OpR X f r') : OpR X f (fun x y H Q => r x y H Q ∨ r' x y H Q) := fun pins s σ H x y v u Q I rx ry q => q.elim (h pins s σ H x y v u Q I rx ry) (h' pins s σ H x y v u Q I rx ry)
theorem tOp_of (hg : OpD X r g) : ∀ σ H Q, tD X W (dBin g fa fb) σ H Q → tOp r (tD X W fa) (tD X W fb) σ H Q := fun σ H Q ⟨B, n, F, env, S, h⟩ => by
  refine tD.go S h fun d n1 v F1 H1 p t r1 S1 => ?_
  refine tD.go S1 ((fb env).mono (fun _ _ z => z) (fun x m z => exE.step t z) p) fun e n2 u F2 H2 p2 t2 r2 S2 => ?_
  exact hg n2 F2 H2 v u d e Q _ S2.sub (r1.grow t2.gr) r2 ((g d e).mono (fun _ _ z => okE.step (t.trans t2) z) (fun _ _ z => z) p2)
theorem de_bin {op : Operator} (ho : OpR X (binaryOp op) r) (hg : OpD X r g) (ha : DE X W a fa) (hb : DE X W b fb) : DE X W (.BinOp a op b pos) (dBin g fa fb) := ⟨PE.imp (pe_op ho ha.pe hb.pe) (tOp_of hg)⟩
theorem de_cmp {op : CmpOp} (ho : OpR X (compareOp op) r) (hg : OpD X r g) (ha : DE X W a fa) (hb : DE X W b fb) (hm : behindInMarks op b = false := by first | exact nomark _ | rfl) : DE X W (.Compare a [op] [b] pos) (dBin g fa fb) := ⟨PE.imp (pe_cmpR ho ha.pe hb.pe hm) (tOp_of hg)⟩
theorem de_un {op : UnaryOp} {r : V → Hp → VK → Prop} {g : D → M D} (ho : UnR X (unaryOp op) r) (hg : UnD X r g) (ha : DE X W a fa) : DE X W (.UnaryOp op a pos) (dUn g fa) := by
  refine ⟨PE.imp (pe_un ho ha.pe) fun σ H Q ⟨B, n, F, env, S, h⟩ => ?_⟩
  refine tD.go S h fun d n1 v F1 H1 p t r1 S1 => ?_
  exact hg n1 F1 H1 v d Q _ S1.sub r1 ((g d).mono (fun _ _ z => okE.step t z) (fun _ _ z => z) p)
/-- an expression's truth value, told to be a bool -/
def dTst (f : DExp) : DTst := fun env => bnd (f env) fun d => match d with
  | .bl b => ret b
  | _ => stuck
theorem tTest_of {f : DExp} : ∀ σ H Q, tT X W (dTst f) σ H Q → tD X W f σ H (fun x H1 => ∃ k, x = .bl k ∧ Q k H1) := fun σ H Q ⟨B, n, F, env, S, h⟩ => by
  refine tD.go S h fun d n1 v F1 H1 p t r1 S1 => ?_
  cases d with
  | bl b => cases r1; exact ⟨b, rfl, p F1 H1 t⟩
  | _ => exact p.elim
theorem dt_cmp {op : CmpOp} (ho : OpR X (compareOp op) r) (hg : OpD X r g) (ha : DE X W a fa) (hb : DE X W b fb) (hm : behindInMarks op b = false := by first | exact nomark _ | rfl) : DT X W (.Compare a [op] [b] pos) (dTst (dBin g fa fb)) :=
  ⟨PT.imp (pt_cmpR ho ha.pe hb.pe hm) fun σ H Q h => tOp_of hg σ H _ (tTest_of σ H Q h)⟩
theorem dt_val {e : Expr} {f : DExp} (he : DE X W e f) (hp : ∀ whole, isTrue e X.env whole = (do let v ← whole; standAt e.pos; holding [v] (truthy v)) := by intro _; rfl) : DT X W e (dTst f) :=
  ⟨PT.imp (pt_val he.pe hp) tTest_of⟩
/-- a < b < c -/
def dChain (g g' : D → D → M D) (fa fb fc : DExp) : DExp := fun env => bnd (fa env) fun x => bnd (fb env) fun y => bnd (g x y) fun z => match z with
  | .bl true => bnd (fc env) fun w => g' y w
  | .bl false => ret (.bl false)
  | _ => stuck
theorem tChain_of (hg : OpD X r g) (hg' : OpD X r' g') : ∀ σ H Q, tD X W (dChain g g' fa fb fc) σ H Q → tChain r r' (tD X W fa) (tD X W fb) (tD X W fc) σ H Q := fun σ H Q ⟨B, n, F, env, S, h⟩ => by
  refine tD.go S h fun d n1 v F1 H1 p t r1 S1 => ?_
  refine tD.go S1 ((fb env).mono (fun _ _ z => z) (fun x m z => exE.step t z) p) fun e n2 u F2 H2 p2 t2 r2 S2 => ?_
  refine hg n2 F2 H2 v u d e _ _ S2.sub (r1.grow t2.gr) r2 ((g d e).mono (fun z n3 hz w F3 H3 t3 r3 => ?_) (fun _ _ z => z) p2)
  cases z with
  | bl b =>
    cases r3
    refine ⟨b, rfl, ?_⟩
    cases b with
    | true =>
      rw [if_pos rfl]
      have S3 := S2.step t3
      refine tD.go S3 ((fc env).mono (fun _ _ z => z) (fun x m z => exE.step ((t.trans t2).trans t3) z) hz) fun e4 n4 u4 F4 H4 p4 t4 r4 S4 => ?_
      exact hg' n4 F4 H4 u u4 e e4 Q _ S4.sub ((r2.grow t3.gr).grow t4.gr) r4 ((g' e e4).mono (fun _ _ z => okE.step (((t.trans t2).trans t3).trans t4) z) (fun _ _ z => z) p4)
    | false =>
      rw [if_neg Bool.false_ne_true]
      exact hz _ F3 H3 ((t.trans t2).trans t3) (.bl false)
  | _ => exact hz.elim
theorem de_chain {op op' : CmpOp} (ho : OpR X (compareOp op) r) (hg : OpD X r g) (ho' : OpR X (compareOp op') r') (hg' : OpD X r' g') (ha : DE X W a fa) (hb : DE X W b fb) (hc : DE X W c fc)
    (hm : lastMarks [op, op'] [b, c] = false := by with_unfolding_all rfl) : DE X W (.Compare a [op, op'] [b, c] pos) (dChain g g' fa fb fc) := ⟨PE.imp (pe_chain ho ho' ha.pe hb.pe hc.pe hm) (tChain_of hg hg')⟩
theorem dt_chain {op op' : CmpOp} (ho : OpR X (compareOp op) r) (hg : OpD X r g) (ho' : OpR X (compareOp op') r') (hg' : OpD X r' g') (ha : DE X W a fa) (hb : DE X W b fb) (hc : DE X W c fc)
    (hm : lastMarks [op, op'] [b, c] = false := by with_unfolding_all rfl) : DT X W (.Compare a [op, op'] [b, c] pos) (dTst (dChain g g' fa fb fc)) :=
  ⟨PT.imp (pt_chain ho ho' ha.pe hb.pe hc.pe hm) fun σ H Q h => tChain_of hg hg' σ H _ (tTest_of σ H Q h)⟩
end

/-! ### and, or, not, if -/
def dNot (f : DTst) : DTst := fun env => bnd (f env) fun b => ret (!b)
def dAnd (f g : DTst) : DTst := fun env => bnd (f env) fun b => if b = true then g env else ret false
def dOr (f g : DTst) : DTst := fun env => bnd (f env) fun b => if b = true then ret true else g env
def dOfT (f : DTst) : DExp := fun env => bnd (f env) fun b => ret (.bl b)
def dAndV (f g : DExp) : DExp := fun env => bnd (dTst f env) fun b => if b = true then g env else ret (.bl false)
def dOrV (f g : DExp) : DExp := fun env => bnd (dTst f env) fun b => if b = true then ret (.bl true) else g env
def dNotV (f : DExp) : DExp := fun env => bnd (dTst f env) fun b => ret (.bl (!b))
def dIf (c : DTst) (f g : DExp) : DExp := fun env => bnd (c env) fun b => if b = true then f env else g env
section
variable {X : Cx} {W : WX} {a b c : Expr} {rest : List Expr} {fa fb : DExp} {ta tb : DTst} {pos : Pos}
theorem dt_not (ha : DT X W a ta) : DT X W (.UnaryOp .Not a pos) (dNot ta) :=
  ⟨PT.imp (pt_not ha.pt) fun σ H Q ⟨B, n, F, env, S, h⟩ => tT.go S h fun d n1 F1 H1 p t S1 => p F1 H1 t⟩
theorem dw_and1 (ha : DT X W a ta) : DW X W (.BoolOp .And [a] pos) ta := ⟨pw_and1 ha.pt⟩
theorem dw_or1 (ha : DT X W a ta) : DW X W (.BoolOp .Or [a] pos) ta := ⟨pw_or1 ha.pt⟩
theorem dw_and (ha : DT X W a ta) (hb : DW X W (.BoolOp .And (b :: rest) pos) tb) : DW X W (.BoolOp .And (a :: b :: rest) pos) (dAnd ta tb) := by
  refine ⟨PW.imp (pw_and ha.pt hb.pw) fun σ H Q ⟨B, n, F, env, S, h⟩ => tT.go S h fun d n1 F1 H1 p t S1 => ?_⟩
  cases d with
  | true =>
    show tT X W tb σ H1 Q
    have p : (tb env).run n1 (okT n F H Q) (exE X W n F H σ) := p
    exact tT.go S1 ((tb env).mono (fun _ _ z => z) (fun x m z => exE.step t z) p) fun e n2 F2 H2 p2 t2 S2 => p2 F2 H2 (t.trans t2)
  | false =>
    show Q false H1
    exact p F1 H1 t
theorem dw_or (ha : DT X W a ta) (hb : DW X W (.BoolOp .Or (b :: rest) pos) tb) : DW X W (.BoolOp .Or (a :: b :: rest) pos) (dOr ta tb) := by
  refine ⟨PW.imp (pw_or ha.pt hb.pw) fun σ H Q ⟨B, n, F, env, S, h⟩ => tT.go S h fun d n1 F1 H1 p t S1 => ?_⟩
  cases d with
  | true =>
    show Q true H1
    exact p F1 H1 t
  | false =>
    show tT X W tb σ H1 Q
    have p : (tb env).run n1 (okT n F H Q) (exE X W n F H σ) := p
    exact tT.go S1 ((tb env).mono (fun _ _ z => z) (fun x m z => exE.step t z) p) fun e n2 F2 H2 p2 t2 S2 => p2 F2 H2 (t.trans t2)
theorem dt_w {e : Expr} {t : DTst} (h : DW X W e t) : DT X W e t := ⟨h.pw.pt⟩
theorem de_one {op} (h : DE X W a fa) : DE X W (.BoolOp op [a] pos) fa := ⟨pe_one h.pe⟩
theorem de_and (ha : DE X W a fa) (hb : DE X W (.BoolOp .And (b :: rest) pos) fb) : DE X W (.BoolOp .And (a :: b :: rest) pos) (dAndV fa fb) := by
  refine ⟨PE.imp (pe_and ha.pe hb.pe) fun σ H Q ⟨B, n, F, env, S, h⟩ => ?_⟩
  have h' : (fa env).run n (fun d n1 => (bnd (match d with | .bl b => ret b | _ => stuck) fun b => if b = true then fb env else ret (.bl false)).run n1 (okE X n F H Q) (exE X W n F H σ)) (exE X W n F H σ) := h
  refine tD.go S h' fun d n1 v F1 H1 p t r1 S1 => ?_
  cases d with
  | bl b =>
    cases r1
    refine ⟨b, rfl, ?_⟩
    cases b with
    | true =>
      rw [if_pos rfl]
      exact ⟨B, n1, F1, env, S1, (fb env).mono (fun _ _ z => okE.step t z) (fun _ _ z => exE.step t z) p⟩
    | false =>
      rw [if_neg Bool.false_ne_true]
      exact (show okE X n F H Q (.bl false) n1 from p) _ F1 H1 t (.bl false)
  | _ => exact p.elim
theorem de_or (ha : DE X W a fa) (hb : DE X W (.BoolOp .Or (b :: rest) pos) fb) : DE X W (.BoolOp .Or (a :: b :: rest) pos) (dOrV fa fb) := by
  refine ⟨PE.imp (pe_or ha.pe hb.pe) fun σ H Q ⟨B, n, F, env, S, h⟩ => ?_⟩
  have h' : (fa env).run n (fun d n1 => (bnd (match d with | .bl b => ret b | _ => stuck) fun b => if b = true then ret (.bl true) else fb env).run n1 (okE X n F H Q) (exE X W n F H σ)) (exE X W n F H σ) := h
  refine tD.go S h' fun d n1 v F1 H1 p t r1 S1 => ?_
  cases d with
  | bl b =>
    cases r1
    refine ⟨b, rfl, ?_⟩
    cases b with
    | true =>
      rw [if_pos rfl]
      exact (show okE X n F H Q (.bl true) n1 from p) _ F1 H1 t (.bl true)
    | false =>
      rw [if_neg Bool.false_ne_true]
      exact ⟨B, n1, F1, env, S1, (fb env).mono (fun _ _ z => okE.step t z) (fun _ _ z => exE.step t z) p⟩
  | _ => exact p.elim
theorem de_not (ha : DE X W a fa) : DE X W (.UnaryOp .Not a pos) (dNotV fa) := by
  refine ⟨PE.imp (pe_not ha.pe) fun σ H Q ⟨B, n, F, env, S, h⟩ => ?_⟩
  have h' : (fa env).run n (fun d n1 => (bnd (match d with | .bl b => ret b | _ => stuck) fun b => (ret (.bl (!b)) : M D)).run n1 (okE X n F H Q) (exE X W n F H σ)) (exE X W n F H σ) := h
  refine tD.go S h' fun d n1 v F1 H1 p t r1 S1 => ?_
  cases d with
  | bl b => cases r1; exact ⟨b, rfl, (show okE X n F H Q (.bl (!b)) n1 from p) _ F1 H1 t (.bl _)⟩
  | _ => exact p.elim
theorem de_if (hc : DT X W c ta) (ha : DE X W a fa) (hb : DE X W b fb) : DE X W (.IfExp c a b pos) (dIf ta fa fb) := by
  refine ⟨PE.imp (pe_ifExp hc.pt ha.pe hb.pe) fun σ H Q ⟨B, n, F, env, S, h⟩ => tT.go S h fun d n1 F1 H1 p t S1 => ?_⟩
  cases d with
  | true =>
    show tD X W fa σ H1 Q
    have p : (fa env).run n1 (okE X n F H Q) (exE X W n F H σ) := p
    exact ⟨B, n1, F1, env, S1, (fa env).mono (fun _ _ z => okE.step t z) (fun _ _ z => exE.step t z) p⟩
  | false =>
    show tD X W fb σ H1 Q
    have p : (fb env).run n1 (okE X n F H Q) (exE X W n F H σ) := p
    exact ⟨B, n1, F1, env, S1, (fb env).mono (fun _ _ z => okE.step t z) (fun _ _ z => exE.step t z) p⟩
end

/-! ### argument lists, displays -/
def aNil : DArg := fun _ => ret []
def aCons (f : DExp) (r : DArg) : DArg := fun env => bnd (f env) fun x => bnd (r env) fun xs => ret (x :: xs)
def dTup (r : DArg) : DExp := fun env => bnd (r env) fun xs => need (xs.length ≤ sizeLine) (ret (.tup xs))
def dLst (r : DArg) : DExp := fun env => bnd (r env) fun xs => need (xs.length ≤ sizeLine) (ret (.lst xs))
section
variable {X : Cx} {W : WX} {e : Expr} {es : List Expr} {f : DExp} {r : DArg} {pos : Pos}
theorem da_nil : DA X W [] aNil := ⟨PA.imp pa_nil fun σ H Q ⟨B, n, F, env, S, h⟩ => h [] F H (Step.refl S.sub) .nil⟩
theorem da_cons (he : DE X W e f) (hr : DA X W es r) (hs : starEach (e :: es) X.env = (false, eval e X.env) :: starEach es X.env := by rfl) : DA X W (e :: es) (aCons f r) := by
  refine ⟨PA.imp (pa_cons he.pe hr.pa hs) fun σ H Q ⟨B, n, F, env, S, h⟩ => tD.go S h fun d n1 v F1 H1 p t r1 S1 => ?_⟩
  refine tA.go S1 ((r env).mono (fun _ _ z => z) (fun x m z => exE.step t z) p) fun ds n2 vs F2 H2 p2 t2 r2 S2 => ?_
  exact p2 _ F2 H2 (t.trans t2) (.cons (r1.grow t2.gr) r2)
theorem Step.newTup {n : Nat} {F H : Hp} {p : Addr} {vs : List V} {ds : List D} (s : ∀ b o, F b = some o → H b = some o) (h : H p = none) (r : Reps X.K X.mg n F vs ds) : Rep X.K X.mg n (upd F p (.tup vs)) (.ref p) (.tup ds) :=
  .tup upd_same (r.grow (Grow.new (sub_free s h)))
theorem Step.newLst {n : Nat} {F H : Hp} {p : Addr} {vs : List V} {ds : List D} (s : ∀ b o, F b = some o → H b = some o) (h : H p = none) (r : Reps X.K X.mg n F vs ds) : Rep X.K X.mg n (upd F p (.lst vs)) (.ref p) (.lst ds) :=
  .lst upd_same (r.grow (Grow.new (sub_free s h)))
theorem de_tup {x1} (h : DA X W es r) : DE X W (.Tuple es x1 pos) (dTup r) := by
  refine ⟨PE.imp (pe_tup h.pa) fun σ H Q ⟨B, n, F, env, S, h⟩ => tA.go S h fun ds n1 vs F1 H1 p t r1 S1 => ?_⟩
  obtain ⟨hz, p⟩ := p
  refine ⟨by rw [r1.length]; exact hz, fun q hq => ?_⟩
  exact p _ _ _ (t.trans (Step.new S1.sub hq)) (Step.newTup S1.sub hq r1)
theorem de_lst (h : DA X W es r) : DE X W (.List es pos) (dLst r) := by
  refine ⟨PE.imp (pe_lst h.pa) fun σ H Q ⟨B, n, F, env, S, h⟩ => tA.go S h fun ds n1 vs F1 H1 p t r1 S1 => ?_⟩
  obtain ⟨hz, p⟩ := p
  refine ⟨by rw [r1.length]; exact hz, fun q hq => ?_⟩
  exact p _ _ _ (t.trans (Step.new S1.sub hq)) (Step.newLst S1.sub hq r1)
end

/-! ### the operators' meanings -/
def gAdd : D → D → M D
  | .int i, .int j => ret (.int (i + j))
  | .str a, .str b => need (a.length + b.length ≤ sizeLine) (ret (.str (a ++ b)))
  | .lst a, .lst b => need (a.length + b.length ≤ sizeLine) (ret (.lst (a ++ b)))
  | .tup a, .tup b => need (a.length + b.length ≤ sizeLine) (ret (.tup (a ++ b)))
  | _, _ => stuck
def gSub : D → D → M D
  | .int i, .int j => ret (.int (i - j))
  | _, _ => stuck
def gMul : D → D → M D
  | .int i, .int j => need (CMulW i j) (ret (.int (i * j)))
  | .lst a, .int k => need (a.length * k.toNat ≤ sizeLine ∧ -(2 ^ 63) ≤ k ∧ k < 2 ^ 63) (ret (.lst (List.replicate k.toNat a).flatten))
  | .tup a, .int k => need (a ≠ [] ∧ 2 ≤ k ∧ k ≤ 1000 ∧ a.length ≤ 1000) (ret (.tup (List.replicate k.toNat a).flatten))
  | .str a, .int k => need (0 < a.length ∧ 2 ≤ k ∧ k ≤ 1000 ∧ a.length ≤ 1000) (ret (.str ⟨(List.replicate k.toNat a.cps).foldl (· ++ ·) #[]⟩))
  | _, _ => stuck
def gMod : D → D → M D
  | .int i, .int j => need (0 < j) (ret (.int (i % j)))
  | _, _ => stuck
def gFdiv : D → D → M D
  | .int i, .int j => need (CDivW i j) (ret (.int (i / j)))
  | _, _ => stuck
def gPow : D → D → M D
  | .int i, .int j => need (CPow i j) (ret (.int (i ^ j.toNat)))
  | _, _ => stuck
def gI (f : Int → Int → Bool) : D → D → M D
  | .int i, .int j => ret (.bl (f i j))
  | _, _ => stuck
def gLt := gI fun i j => decide (i < j)
def gLe := gI fun i j => decide (i ≤ j)
def gGt := gI fun i j => decide (j < i)
def gGe := gI fun i j => decide (j ≤ i)
def gNeg : D → M D
  | .int i => ret (.int (-i))
  | _ => stuck
section
variable {X : Cx}
theorem od_int {C : Int → Int → Prop} {g : Int → Int → V} {f : Int → Int → D} {h : D → D → M D} (hr : ∀ i j n F, Rep X.K X.mg n F (g i j) (f i j)) (h1 : ∀ i j, h (.int i) (.int j) = need (C i j) (ret (f i j)))
    (h2 : ∀ d e, (∀ i j, d = .int i → e = .int j → False) → h d e = stuck) : OpD X (rI C g) h := fun n F H x y d e Q E s rx ry q => by
  by_cases z : ∃ i j, d = .int i ∧ e = .int j
  · obtain ⟨i, j, rfl, rfl⟩ := z
    cases rx; cases ry
    rw [h1] at q
    exact ⟨i, j, rfl, rfl, q.1, q.2 _ F H (Step.refl s) (hr i j n F)⟩
  · rw [h2 d e fun i j h1 h2 => z ⟨i, j, h1, h2⟩] at q
    exact q.elim
theorem od_int0 {g : Int → Int → V} {f : Int → Int → D} {h : D → D → M D} (hr : ∀ i j n F, Rep X.K X.mg n F (g i j) (f i j)) (h1 : ∀ i j, h (.int i) (.int j) = ret (f i j))
    (h2 : ∀ d e, (∀ i j, d = .int i → e = .int j → False) → h d e = stuck) : OpD X (rI0 g) h := fun n F H x y d e Q E s rx ry q => by
  by_cases z : ∃ i j, d = .int i ∧ e = .int j
  · obtain ⟨i, j, rfl, rfl⟩ := z
    cases rx; cases ry
    rw [h1] at q
    exact ⟨i, j, rfl, rfl, q _ F H (Step.refl s) (hr i j n F)⟩
  · rw [h2 d e fun i j h1 h2 => z ⟨i, j, h1, h2⟩] at q
    exact q.elim
theorem gI_no (f : Int → Int → Bool) (d e : D) (h : ∀ i j, d = .int i → e = .int j → False) : gI f d e = stuck := by
  unfold gI
  split
  · rename_i i j; exact (h i j rfl rfl).elim
  · rfl
theorem od_sub : OpD X (rI0 fun i j => .int (i - j)) gSub := od_int0 (fun i j _ _ => .int (i - j)) (fun _ _ => rfl) fun d e h => by
  unfold gSub
  split
  · rename_i i j; exact (h i j rfl rfl).elim
  · rfl
theorem od_mod : OpD X (rI (fun _ j => 0 < j) fun i j => .int (i % j)) gMod := od_int (fun i j _ _ => .int _) (fun _ _ => rfl) fun d e h => by
  unfold gMod
  split
  · rename_i i j; exact (h i j rfl rfl).elim
  · rfl
theorem od_fdiv : OpD X (rI CDivW fun i j => .int (i / j)) gFdiv := od_int (fun i j _ _ => .int _) (fun _ _ => rfl) fun d e h => by
  unfold gFdiv
  split
  · rename_i i j; exact (h i j rfl rfl).elim
  · rfl
theorem od_pow : OpD X (rI CPow fun i j => .int (i ^ j.toNat)) gPow := od_int (fun i j _ _ => .int _) (fun _ _ => rfl) fun d e h => by
  unfold gPow
  split
  · rename_i i j; exact (h i j rfl rfl).elim
  · rfl
theorem od_lt : OpD X (rI0 fun i j => .bl (decide (i < j))) gLt := od_int0 (fun i j _ _ => .bl _) (fun _ _ => rfl) (gI_no _)
theorem od_le : OpD X (rI0 fun i j => .bl (decide (i ≤ j))) gLe := od_int0 (fun i j _ _ => .bl _) (fun _ _ => rfl) (gI_no _)
theorem od_gt : OpD X (rI0 fun i j => .bl (decide (j < i))) gGt := od_int0 (fun i j _ _ => .bl _) (fun _ _ => rfl) (gI_no _)
theorem od_ge : OpD X (rI0 fun i j => .bl (decide (j ≤ i))) gGe := od_int0 (fun i j _ _ => .bl _) (fun _ _ => rfl) (gI_no _)
theorem ud_neg : UnD X (rU fun i => .int (-i)) gNeg := fun n F H x d Q E s rx q => by
  cases d with
  | int i => cases rx; exact ⟨i, rfl, q _ F H (Step.refl s) (.int _)⟩
  | _ => exact q.elim
def rAddA (K : PySem.W.Frag) : R2 := fun x y H Q => (rI0 fun i j => .int (i + j)) x y H Q ∨ (∃ i j, x = .str i ∧ y = .str j ∧ i.length + j.length ≤ sizeLine ∧ Q (.str (i ++ j)) H) ∨ rCat x y H Q ∨ rCatA K x y H Q
theorem op_addA : OpR X (binaryOp .Add) (rAddA X.K) := OpR.or op_add (OpR.or op_add_str (OpR.or op_cat op_catA))
theorem od_add : OpD X (rAddA X.K) gAdd := fun n F H x y d e Q E s rx ry q => by
  unfold gAdd at q
  split at q
  · cases rx; cases ry; exact .inl ⟨_, _, rfl, rfl, q _ F H (Step.refl s) (.int _)⟩
  · cases rx; cases ry; exact .inr (.inl ⟨_, _, rfl, rfl, q.1, q.2 _ F H (Step.refl s) (.str _)⟩)
  · obtain ⟨hz, q⟩ := q
    cases rx with
    | lst h1 r1 => cases ry with
      | lst h2 r2 =>
        refine .inr (.inr (.inl ⟨_, _, _, _, rfl, rfl, s _ _ h1, s _ _ h2, by rw [r1.length, r2.length]; exact hz, fun p hp => ?_⟩))
        exact q _ _ _ (Step.new s hp) (Step.newLst s hp (r1.append r2))
  · obtain ⟨hz, q⟩ := q
    cases rx with
    | tup h1 r1 => cases ry with
      | tup h2 r2 =>
        refine .inr (.inr (.inr ⟨_, _, _, _, rfl, rfl, SqT.of (s _ _ h1), SqT.of (s _ _ h2), by rw [r1.length, r2.length]; exact hz, fun e => ?_, fun _ e => ?_, fun _ _ p hp => ?_⟩))
        · subst e; cases r1
          exact q _ F H (Step.refl s) (.tup h2 r2)
        · subst e; cases r2
          exact q _ F H (Step.refl s) (by rw [List.append_nil]; exact .tup h1 r1)
        · exact q _ _ _ (Step.new s hp) (Step.newTup s hp (r1.append r2))
  · exact q.elim
theorem fold_rep {α : Type} (l : Array α) : ∀ (n : Nat) (acc : Array α), (List.replicate n l).foldl (· ++ ·) acc = acc ++ (List.replicate n l.toList).flatten.toArray
  | 0, acc => by simp
  | n + 1, acc => by
    rw [List.replicate_succ, List.foldl_cons, fold_rep l n, List.replicate_succ, List.flatten_cons, ← List.append_toArray]
    simp [Array.append_assoc]
def rRepS : R2 := fun x y H Q => ∃ a k, x = .str a ∧ y = .int k ∧ 0 < a.length ∧ 2 ≤ k ∧ k ≤ 1000 ∧ a.length ≤ 1000 ∧ Q (.str ⟨(List.replicate k.toNat a.cps).foldl (· ++ ·) #[]⟩) H
theorem op_repS : OpR X (binaryOp .Mult) rRepS := by
  intro pins s σ H x y v u Q I rx ry h
  obtain ⟨a, k, rfl, rfl, h0, h1, h2, h3, q⟩ := h
  obtain ⟨t, rfl⟩ := rx
  obtain ⟨t', rfl⟩ := ry
  have n1 : ¬ k < 1 := by omega
  have n2 : (k == 1 || a.length == 0) = false := by
    rw [Bool.or_eq_false_iff]
    exact ⟨beq_eq_false_iff_ne.mpr (by omega), beq_eq_false_iff_ne.mpr (by omega)⟩
  have n3 : a.length * k.toNat ≤ 1000 * 1000 := Nat.mul_le_mul h3 (by omega)
  have n4 : Builtin.Str.tooLong (a.length * k.toNat) = false := by
    unfold Builtin.Str.tooLong
    simp only [sizeLine_eq]
    exact decide_eq_false (by omega)
  have n5 : (⟨(List.replicate k.toNat a.cps).foldl (· ++ ·) #[]⟩ : Str).length ≤ sizeLine := by
    rw [fold_rep]
    show (#[] ++ (List.replicate k.toNat a.cps.toList).flatten.toArray).size ≤ sizeLine
    have e : a.cps.toList.length = a.length := rfl
    rw [Array.size_append, List.size_toArray, List.size_toArray, List.length_flatten, List.map_replicate, List.sum_replicate_nat, sizeLine_eq, e]
    have : k.toNat * a.length ≤ 1000 * 1000 := Nat.mul_le_mul (by omega) h3
    show 0 + k.toNat * a.length ≤ 16777216
    omega
  refine PySem.P.mul_str (by rw [decide_eq_false (by omega), decide_eq_false (by omega)]; rfl) (fun _ _ hz => ?_) (fun _ _ => n4) ?_
  · have m : (a.length : Int) * k ≤ 1000 * 1000 := Int.mul_le_mul (by omega) h2 (by omega) (by decide)
    have : (a.length : Int) ≤ (2 ^ 63 - 1) / k := Int.le_ediv_of_mul_le (by omega) (by omega)
    omega
  · rw [if_neg n1, if_neg (by rw [n2]; exact Bool.false_ne_true)]
    exact ⟨n5, .str _, _, I.tok _, ⟨_, rfl⟩, q⟩
def rMulA (K : PySem.W.Frag) : R2 := fun x y H Q => (rI CMulW fun i j => .int (i * j)) x y H Q ∨ rRep x y H Q ∨ rRepT K x y H Q ∨ rRepS x y H Q
theorem op_mulA : OpR X (binaryOp .Mult) (rMulA X.K) := OpR.or op_mulW (OpR.or op_rep (OpR.or op_repT op_repS))
theorem Reps.rep {K : PySem.W.Frag} {mg : Str → Option Value} {n : Nat} {F : Hp} {vs : List V} {ds : List D} (r : Reps K mg n F vs ds) : ∀ k : Nat, Reps K mg n F (List.replicate k vs).flatten (List.replicate k ds).flatten
  | 0 => .nil
  | k + 1 => by rw [List.replicate_succ, List.replicate_succ, List.flatten_cons, List.flatten_cons]; exact r.append (Reps.rep r k)
theorem od_mul : OpD X (rMulA X.K) gMul := fun n F H x y d e Q E s rx ry q => by
  unfold gMul at q
  split at q
  · cases rx; cases ry; exact .inl ⟨_, _, rfl, rfl, q.1, q.2 _ F H (Step.refl s) (.int _)⟩
  · obtain ⟨⟨hz, h1, h2⟩, q⟩ := q
    cases ry
    cases rx with
    | lst hx r1 =>
      refine .inr (.inl ⟨_, _, _, rfl, rfl, s _ _ hx, h1, h2, by rw [r1.length]; exact hz, fun p hp => ?_⟩)
      exact q _ _ _ (Step.new s hp) (Step.newLst s hp (r1.rep _))
  · obtain ⟨⟨hz, h1, h2, h3⟩, q⟩ := q
    cases ry
    cases rx with
    | tup hx r1 =>
      refine .inr (.inr (.inl ⟨_, _, _, rfl, rfl, SqT.of (s _ _ hx), fun e => hz ?_, h1, h2, by rw [r1.length]; exact h3, fun p hp => ?_⟩))
      · have := r1.length
        rw [e] at this
        exact List.eq_nil_of_length_eq_zero this.symm
      · exact q _ _ _ (Step.new s hp) (Step.newTup s hp (r1.rep _))
  · obtain ⟨⟨h0, h1, h2, h3⟩, q⟩ := q
    cases rx; cases ry
    exact .inr (.inr (.inr ⟨_, _, rfl, rfl, h0, h1, h2, h3, q _ F H (Step.refl s) (.str _)⟩))
  · exact q.elim
end
end DL

end
section
set_option Elab.async false
set_option linter.all false
set_option maxRecDepth 100000
set_option maxHeartbeats 4000000
/-! DExpr2: calls, comparisons of data, subscripts, slices. -/
namespace DL
open PySem PySem.Spec PyProof.Rows L2
variable [Tb]

/-! ### a call of a def of the text -/
def dCall (m : Nat) (φ : Fn) (fa : DArg) : DExp := fun env => bnd (fa env) fun ds => need (ds.length = m) (φ ds)
section
variable {X : Cx} {W : WX} {k m : Nat} {x : Str} {φ : Fn} {e : Expr} {es : List Expr} {fa : DArg} {p pos : Pos}
/-- the call itself, the arguments being there -/
theorem run_glo {f : Addr} {fd : FuncData} {ps : List Str} {pins : List (Addr × Obj)} {s : Shared} {σ : L2.St} {H : Hp} {Q : VK} {us : List Value} {vs : List V} (hl : ps.length = m) (hb : Binds X.K fd ps [])
    (F : FnG X.prog X.w X.K X.mg X.base k f fd ps (spD X.K X.mg m φ)) (r : Rm k X.A) (tk : Takes X W) (I : Inv X pins σ H s) (rv : Vals vs us) (q : spD X.K X.mg m φ vs H Q (fun cls d H' => W cls d σ H')) :
    wpAny (model X.prog X.w) X.A (PySem.call (.ref f) us) (EP X pins σ Q) X.xe s := by
  have bd := hb s us I.kIn (by rw [List.append_nil, ← rv.length, q.1, hl])
  rw [List.append_nil] at bd
  refine wpAny_call (codeAny_mono (F.run X.A X.stack s H ⟨us, []⟩ us vs Q _ r.room r.gd I.env0 bd rv q) fun res s2 hq => ?_)
  match res with
  | .error u => exact tk u s2 (XE.of_call I (fun _ _ _ z => z) hq)
  | .ok (.ret u) => exact I.after hq
  | .ok .next => exact False.elim hq
  | .ok .brk => exact False.elim hq
  | .ok .cont => exact False.elim hq
theorem de_call {j : Nat} (c : Kx X W k) (G0 : Glo X.prog X.w X.K X.mg X.base j x m φ) (ha : DA X W (e :: es) fa) (hg : Gl X x := by rfl) (hdb : (x == ("__debug__" : Str)) = false := by decide)
    (he : starEach (e :: es) X.env = (false, eval e X.env) :: starEach es X.env := by rfl) (hpl : (backTo pos (starEach es X.env)).any (·.1) = false := by rfl) (hj : j ≤ k := by decide) : DE X W (.Call (.Name x p) (e :: es) [] pos) (dCall m φ fa) := by
  have tk := c.tk
  have r := c.rm
  obtain ⟨f, fd, ps, hl, hm, hk, hb, F⟩ := (G0.mono hj).ex
  refine ⟨⟨fun pins s σ H Q I h => ?_⟩⟩
  obtain ⟨B, n, Fz, env, S, h⟩ := h
  have hA : tA X W fa σ H (fun vs H1 => spD X.K X.mg m φ vs H1 Q (fun cls d H' => W cls d σ H')) := tA.go S h fun ds n1 vs F1 H1 p t r1 S1 =>
    ⟨by rw [r1.length]; exact p.1, n1, F1, ds, S1.sub, S1.tabs, r1, (φ ds).mono (fun _ _ z => okE.step t z) (fun _ _ z => exE.step t z) p.2⟩
  refine wpAny_Call_Name_kw (ld_glob I hg hm ?_ hdb)
  refine PySem.W.callWith_K (h₀ := X.base) I.ok.mod.kin hk (thn (ha.pa.run pos pins s σ H _ I hA) fun us s1 ⟨vs, H1, I1, rv, q⟩ => ⟨I1.kIn, ?_⟩) he hpl
  exact run_glo hl hb F r tk I1 rv q
theorem de_call0 {j : Nat} (c : Kx X W k) (G0 : Glo X.prog X.w X.K X.mg X.base j x 0 φ) (hg : Gl X x := by rfl) (hdb : (x == ("__debug__" : Str)) = false := by decide) (hj : j ≤ k := by decide) : DE X W (.Call (.Name x p) [] [] pos) (dCall 0 φ aNil) := by
  have tk := c.tk
  have r := c.rm
  obtain ⟨f, fd, ps, hl, hm, hk, hb, F⟩ := (G0.mono hj).ex
  refine ⟨⟨fun pins s σ H Q I h => ?_⟩⟩
  obtain ⟨B, n, Fz, env, S, h⟩ := h
  refine wpAny_Call_Name_kw (ld_glob I hg hm ?_ hdb)
  exact PySem.W.callWith_K0 I.kIn hk (run_glo (us := []) hl hb F r tk I .nil ⟨rfl, n, Fz, [], S.sub, S.tabs, .nil, h.2⟩)
end

/-! ### a call of a built-in -/
def CallD (X : Cx) (r : List V → Hp → VK → Prop) (g : List D → M D) : Prop := ∀ (n : Nat) (F H : Hp) (xs : List V) (ds : List D) (Q : VK) (E : D → Nat → Prop), (∀ b o, F b = some o → H b = some o) → Reps X.K X.mg n F xs ds →
  (g ds).run n (okE X n F H Q) E → r xs H Q
def dCb (g : List D → M D) (fa : DArg) : DExp := fun env => bnd (fa env) g
section
variable {X : Cx} {W : WX} {x : Str} {e : Expr} {es : List Expr} {fa : DArg} {p pos : Pos} {id T : String} {r r' : List V → Hp → VK → Prop} {g : List D → M D}
theorem CallR.or {f : Value} (h : CallR X f r) (h' : CallR X f r') : CallR X f (fun xs H Q => r xs H Q ∨ r' xs H Q) := fun pins s σ H xs us Q I rx q => q.elim (h pins s σ H xs us Q I rx) (h' pins s σ H xs us Q I rx)
theorem tCB_of (hg : CallD X r g) : ∀ σ H Q, tD X W (dCb g fa) σ H Q → tCB r (tA X W fa) σ H Q := fun σ H Q ⟨B, n, F, env, S, h⟩ =>
  tA.go S h fun ds n1 vs F1 H1 p t r1 S1 => hg n1 F1 H1 vs ds Q _ S1.sub r1 ((g ds).mono (fun _ _ z => okE.step t z) (fun _ _ z => z) p)
theorem de_cb (hc : CallR X (.builtin id) r) (hg : CallD X r g) (hm : X.mg x = none) (ha : DA X W (e :: es) fa) (hv : bootBuiltins x = some (.builtin id) := by decide +kernel) (hgl : Gl X x := by rfl) (hn : x ≠ "__name__" := by decide) (hdb : (x == ("__debug__" : Str)) = false := by decide)
    (he : starEach (e :: es) X.env = (false, eval e X.env) :: starEach es X.env := by rfl) (hpl : (backTo pos (starEach es X.env)).any (·.1) = false := by rfl) : DE X W (.Call (.Name x p) (e :: es) [] pos) (dCb g fa) :=
  ⟨PE.imp (pe_callB hc hgl hm hv ha.pa hn hdb he hpl) (tCB_of hg)⟩
theorem de_ct (hc : CallR X (.type T) r) (hg : CallD X r g) (hm : X.mg x = none) (ha : DA X W (e :: es) fa) (hv : bootBuiltins x = some (.type T) := by decide +kernel) (hgl : Gl X x := by rfl) (hn : x ≠ "__name__" := by decide) (hdb : (x == ("__debug__" : Str)) = false := by decide)
    (he : starEach (e :: es) X.env = (false, eval e X.env) :: starEach es X.env := by rfl) (hpl : (backTo pos (starEach es X.env)).any (·.1) = false := by rfl) : DE X W (.Call (.Name x p) (e :: es) [] pos) (dCb g fa) :=
  ⟨PE.imp (pe_callTy hc hgl hm hv ha.pa hn hdb he hpl) (tCB_of hg)⟩
/-- a built-in type as a value -/
theorem de_ty (hm : X.mg x = none) (hv : bootBuiltins x = some (.type T) := by decide +kernel) (hgl : Gl X x := by rfl) (hn : x ≠ "__name__" := by decide) (hdb : (x == ("__debug__" : Str)) = false := by decide) : DE X W (.Name x p) (dK (.ty T)) :=
  de_k (v := .ty T) (pe_bltn hgl hm hv rfl hn hdb) fun _ _ => .ty T
end
def gLen : List D → M D
  | [.lst l] => ret (.int l.length)
  | [.tup l] => ret (.int l.length)
  | [.str s] => need (s.length ≤ sizeLine) (ret (.int s.length))
  | [.scr k] => ret (.int k)
  | _ => stuck
def gInt : List D → M D
  | [.int i] => ret (.int i)
  | [.bl b] => ret (.int (if b then 1 else 0))
  | _ => stuck
def gTuple : List D → M D
  | [.lst l] => ret (.tup l)
  | [.tup l] => ret (.tup l)
  | _ => stuck
def gList : List D → M D
  | [.lst l] => ret (.lst l)
  | [.tup l] => ret (.lst l)
  | _ => stuck
/-- the intsD of a list -/
def intsD : List D → Option (List Int)
  | [] => some []
  | .int i :: r => (intsD r).map (i :: ·)
  | _ => none
def bls : List D → Option (List Bool)
  | [] => some []
  | .bl i :: r => (bls r).map (i :: ·)
  | _ => none
theorem intsD_of : ∀ {l : List D} {ns : List Int}, intsD l = some ns → l = ns.map D.int
  | [], ns, h => by cases h; rfl
  | .int i :: r, ns, h => by
    unfold intsD at h
    cases e : intsD r with
    | none => rw [e] at h; cases h
    | some ms => rw [e] at h; cases h; rw [intsD_of e]; rfl
  | .non :: r, ns, h => by cases h
  | .bl _ :: r, ns, h => by cases h
  | .str _ :: r, ns, h => by cases h
  | .tup _ :: r, ns, h => by cases h
  | .lst _ :: r, ns, h => by cases h
  | .dct _ :: r, ns, h => by cases h
  | .scr _ :: r, ns, h => by cases h
  | .rng _ _ :: r, ns, h => by cases h
  | .exc _ _ :: r, ns, h => by cases h
  | .fn _ :: r, ns, h => by cases h
  | .ty _ :: r, ns, h => by cases h
theorem bls_of : ∀ {l : List D} {ns : List Bool}, bls l = some ns → l = ns.map D.bl
  | [], ns, h => by cases h; rfl
  | .bl i :: r, ns, h => by
    unfold bls at h
    cases e : bls r with
    | none => rw [e] at h; cases h
    | some ms => rw [e] at h; cases h; rw [bls_of e]; rfl
  | .non :: r, ns, h => by cases h
  | .int _ :: r, ns, h => by cases h
  | .str _ :: r, ns, h => by cases h
  | .tup _ :: r, ns, h => by cases h
  | .lst _ :: r, ns, h => by cases h
  | .dct _ :: r, ns, h => by cases h
  | .scr _ :: r, ns, h => by cases h
  | .rng _ _ :: r, ns, h => by cases h
  | .exc _ _ :: r, ns, h => by cases h
  | .fn _ :: r, ns, h => by cases h
  | .ty _ :: r, ns, h => by cases h
@[simp] theorem intsD_map : ∀ ns : List Int, intsD (ns.map D.int) = some ns
  | [] => rfl
  | i :: r => by rw [List.map_cons, intsD, intsD_map r]; rfl
@[simp] theorem bls_map : ∀ ns : List Bool, bls (ns.map D.bl) = some ns
  | [] => rfl
  | i :: r => by rw [List.map_cons, bls, bls_map r]; rfl
/-- the items of a sequence -/
def seqOf : D → Option (List D)
  | .lst l => some l
  | .tup l => some l
  | _ => none
def gSeqI (f : List Int → M D) : List D → M D
  | [d] => match (seqOf d).bind intsD with
    | some ns => f ns
    | none => stuck
  | _ => stuck
def gSum := gSeqI fun ns => ret (.int ns.sum)
def gMinL := gSeqI fun ns => need (0 < ns.length) (any fun d => ∃ m, d = .int m ∧ m ∈ ns ∧ ∀ y, y ∈ ns → m ≤ y)
def gMaxL := gSeqI fun ns => need (0 < ns.length) (any fun d => ∃ m, d = .int m ∧ m ∈ ns ∧ ∀ y, y ∈ ns → y ≤ m)
def gBools (f : List Bool → Bool) : List D → M D
  | [.lst l] => match bls l with
    | some bs => ret (.bl (f bs))
    | none => stuck
  | _ => stuck
def gAll := gBools fun bs => bs.all id
def gAny := gBools fun bs => bs.any id
def gMin2 : List D → M D
  | [.int i, .int j] => ret (.int (if j < i then j else i))
  | _ => stuck
def gMax2 : List D → M D
  | [.int i, .int j] => ret (.int (if j > i then j else i))
  | _ => stuck
def gAbs : List D → M D
  | [.int i] => ret (.int (if i < 0 then -i else i))
  | _ => stuck
def gStrI : List D → M D
  | [.int i] => need (i.natAbs.log2 < 1920) (ret (.str (toString i)))
  | _ => stuck
section
variable {X : Cx}
theorem sub_seq {n : Nat} {F H : Hp} {a : Addr} {xs : List V} (s : ∀ b o, F b = some o → H b = some o) (h : SqL X.K F a xs) : SqL X.K H a xs := SqL.grow (Grow.same (Nat.le_refl n) s) h
def rLenA (K : PySem.W.Frag) : List V → Hp → VK → Prop := fun xs H Q => (∃ p ys, xs = [.ref p] ∧ (SqL K H p ys ∨ SqT K H p ys) ∧ Q (.int ys.length) H) ∨ (∃ z, xs = [.str z] ∧ z.length ≤ sizeLine ∧ Q (.int z.length) H)
theorem cb_len : CallR X (.builtin "len") (rLenA X.K) := CallR.or call_len_seq call_len_str
theorem cd_len : CallD X (rLenA X.K) gLen := fun n F H xs ds Q E s r q => by
  unfold gLen at q
  split at q
  · cases r with
    | cons r1 r2 => cases r2; cases r1 with
      | lst h1 r1 => exact .inl ⟨_, _, rfl, .inl (SqL.of (s _ _ h1)), by rw [r1.length]; exact q _ F H (Step.refl s) (.int _)⟩
  · cases r with
    | cons r1 r2 => cases r2; cases r1 with
      | tup h1 r1 => exact .inl ⟨_, _, rfl, .inr (SqT.of (s _ _ h1)), by rw [r1.length]; exact q _ F H (Step.refl s) (.int _)⟩
  · cases r with
    | cons r1 r2 => cases r2; cases r1; exact .inr ⟨_, rfl, q.1, q.2 _ F H (Step.refl s) (.int _)⟩
  · cases r with
    | cons r1 r2 => cases r2; cases r1 with
      | scr h1 => exact .inl ⟨_, _, rfl, .inl (sub_seq (n := n) s h1), by rw [List.length_map]; exact q _ F H (Step.refl s) (.int _)⟩
  · exact q.elim
theorem cd_int : CallD X (fun xs H Q => (∃ i, xs = [.int i] ∧ Q (.int i) H) ∨ ∃ k, xs = [.bl k] ∧ Q (.int (if k then 1 else 0)) H) gInt := fun n F H xs ds Q E s r q => by
  unfold gInt at q
  split at q
  · cases r with
    | cons r1 r2 => cases r2; cases r1; exact .inl ⟨_, rfl, q _ F H (Step.refl s) (.int _)⟩
  · cases r with
    | cons r1 r2 => cases r2; cases r1; exact .inr ⟨_, rfl, q _ F H (Step.refl s) (.int _)⟩
  · exact q.elim
theorem cd_tuple : CallD X (fun xs H Q => ∃ p ys, xs = [.ref p] ∧ ((SqL X.K H p ys ∧ ∀ l, H l = none → Q (.ref l) (upd H l (.tup ys))) ∨ (SqT X.K H p ys ∧ Q (.ref p) H))) gTuple := fun n F H xs ds Q E s r q => by
  unfold gTuple at q
  split at q
  · cases r with
    | cons r1 r2 => cases r2; cases r1 with
      | lst h1 r1 => exact ⟨_, _, rfl, .inl ⟨SqL.of (s _ _ h1), fun p hp => q _ _ _ (Step.new s hp) (Step.newTup s hp r1)⟩⟩
  · cases r with
    | cons r1 r2 => cases r2; cases r1 with
      | tup h1 r1 => exact ⟨_, _, rfl, .inr ⟨SqT.of (s _ _ h1), q _ F H (Step.refl s) (.tup h1 r1)⟩⟩
  · exact q.elim
theorem cd_list : CallD X (fun xs H Q => ∃ p ys, xs = [.ref p] ∧ (SqL X.K H p ys ∨ SqT X.K H p ys) ∧ ∀ l, H l = none → Q (.ref l) (upd H l (.lst ys))) gList := fun n F H xs ds Q E s r q => by
  unfold gList at q
  split at q
  · cases r with
    | cons r1 r2 => cases r2; cases r1 with
      | lst h1 r1 => exact ⟨_, _, rfl, .inl (SqL.of (s _ _ h1)), fun p hp => q _ _ _ (Step.new s hp) (Step.newLst s hp r1)⟩
  · cases r with
    | cons r1 r2 => cases r2; cases r1 with
      | tup h1 r1 => exact ⟨_, _, rfl, .inr (SqT.of (s _ _ h1)), fun p hp => q _ _ _ (Step.new s hp) (Step.newLst s hp r1)⟩
  · exact q.elim
/-- a list of intsD; a tuple of them (the library's sum, min, max walk lists alone: a tuple's rule stands in the next file) -/
theorem gSeqI_inv {f : List Int → M D} {ds : List D} {n : Nat} {P : D → Nat → Prop} {E : D → Nat → Prop} (q : (gSeqI f ds).run n P E) : ∃ d ns, ds = [d] ∧ (d = .lst (ns.map D.int) ∨ d = .tup (ns.map D.int)) ∧ (f ns).run n P E := by
  unfold gSeqI at q
  split at q
  · rename_i d
    cases d with
    | lst l =>
      cases e : intsD l with
      | none => simp only [seqOf, Option.bind_some, e] at q; exact q.elim
      | some ns => simp only [seqOf, Option.bind_some, e] at q; exact ⟨_, ns, rfl, .inl (by rw [intsD_of e]), q⟩
    | tup l =>
      cases e : intsD l with
      | none => simp only [seqOf, Option.bind_some, e] at q; exact q.elim
      | some ns => simp only [seqOf, Option.bind_some, e] at q; exact ⟨_, ns, rfl, .inr (by rw [intsD_of e]), q⟩
    | _ => exact q.elim
  · exact q.elim
theorem gBools_inv {f : List Bool → Bool} {ds : List D} {n : Nat} {P : D → Nat → Prop} {E : D → Nat → Prop} (q : (gBools f ds).run n P E) : ∃ bs, ds = [.lst (bs.map D.bl)] ∧ P (.bl (f bs)) n := by
  unfold gBools at q
  split at q
  · rename_i l
    cases e : bls l with
    | none => simp only [e] at q; exact q.elim
    | some ns => simp only [e] at q; exact ⟨ns, by rw [bls_of e], q⟩
  · exact q.elim
theorem cd_all : CallD X (rAll X.K) gAll := fun n F H xs ds Q E s r q => by
  obtain ⟨bs, rfl, p⟩ := gBools_inv q
  cases r with
  | cons r1 r2 => cases r2; cases r1 with
    | lst h1 r1 => rw [Reps.ofBls r1] at h1; exact ⟨_, bs, rfl, SqL.of (s _ _ h1), p _ F H (Step.refl s) (.bl _)⟩
theorem cd_any : CallD X (rAny X.K) gAny := fun n F H xs ds Q E s r q => by
  obtain ⟨bs, rfl, p⟩ := gBools_inv q
  cases r with
  | cons r1 r2 => cases r2; cases r1 with
    | lst h1 r1 => rw [Reps.ofBls r1] at h1; exact ⟨_, bs, rfl, SqL.of (s _ _ h1), p _ F H (Step.refl s) (.bl _)⟩
theorem cd_min2 : CallD X (fun xs H Q => ∃ i j, xs = [.int i, .int j] ∧ Q (.int (if j < i then j else i)) H) gMin2 := fun n F H xs ds Q E s r q => by
  unfold gMin2 at q
  split at q
  · cases r with
    | cons r1 r2 => cases r2 with
      | cons r3 r4 => cases r4; cases r1; cases r3; exact ⟨_, _, rfl, q _ F H (Step.refl s) (.int _)⟩
  · exact q.elim
theorem cd_max2 : CallD X (fun xs H Q => ∃ i j, xs = [.int i, .int j] ∧ Q (.int (if j > i then j else i)) H) gMax2 := fun n F H xs ds Q E s r q => by
  unfold gMax2 at q
  split at q
  · cases r with
    | cons r1 r2 => cases r2 with
      | cons r3 r4 => cases r4; cases r1; cases r3; exact ⟨_, _, rfl, q _ F H (Step.refl s) (.int _)⟩
  · exact q.elim
theorem cd_abs : CallD X (fun xs H Q => ∃ i, xs = [.int i] ∧ Q (.int (if i < 0 then -i else i)) H) gAbs := fun n F H xs ds Q E s r q => by
  unfold gAbs at q
  split at q
  · cases r with
    | cons r1 r2 => cases r2; cases r1; exact ⟨_, rfl, q _ F H (Step.refl s) (.int _)⟩
  · exact q.elim
theorem cd_strI : CallD X (fun xs H Q => ∃ i, xs = [.int i] ∧ i.natAbs.log2 < 1920 ∧ Q (.str (toString i)) H) gStrI := fun n F H xs ds Q E s r q => by
  unfold gStrI at q
  split at q
  · cases r with
    | cons r1 r2 => cases r2; cases r1; exact ⟨_, rfl, q.1, q.2 _ F H (Step.refl s) (.str _)⟩
  · exact q.elim
end

/-! ### isinstance(x, T), T a built-in type -/
def tyD : D → Option String
  | .non => some "NoneType" | .bl _ => some "bool" | .int _ => some "int" | .str _ => some "str" | .tup _ => some "tuple" | .lst _ => some "list" | .dct _ => some "dict" | .scr _ => some "list" | .rng _ _ => some "dict"
  | _ => none
def isiD (t T : String) : Option Bool := if T ∈ ["int", "str", "bool", "tuple", "list", "dict"] then some (t == T || (t == "bool" && T == "int")) else none
def gIsi : List D → M D
  | [d, .ty T] => match (tyD d).bind fun t => isiD t T with
    | some b => ret (.bl b)
    | none => stuck
  | _ => stuck
section
variable {X : Cx}
theorem kit_ty (K : PySem.W.Frag) : ∀ t ∈ ["NoneType", "bool", "int", "str", "tuple", "list", "dict"], ∀ T ∈ ["int", "str", "bool", "tuple", "list", "dict"], PySem.W.kitOne K (.type t) (.type T) = some (t == T || (t == "bool" && T == "int")) := by
  intro t ht T hT
  simp only [List.mem_cons, List.not_mem_nil, or_false] at ht hT
  rcases ht with rfl | rfl | rfl | rfl | rfl | rfl | rfl <;> rcases hT with rfl | rfl | rfl | rfl | rfl | rfl <;> first | rfl | kernel_rfl
theorem tyX_of {n : Nat} {F H : Hp} {v : V} {d : D} {t : String} (s : ∀ b o, F b = some o → H b = some o) (r : Rep X.K X.mg n F v d) (h : tyD d = some t) : TyX X.K H v (.type t) := by
  cases r with
  | non => cases h; exact .base .non
  | bl b => cases h; exact .base (.bl b)
  | int b => cases h; exact .base (.int b)
  | str b => cases h; exact .base (.str b)
  | lst e _ => cases h; exact .base (.lst (s _ _ e))
  | tup e _ => cases h; exact .base (.tup (s _ _ e))
  | dct e _ _ => cases h; exact .base (.dK (s _ _ e))
  | scr e =>
    cases h
    rcases e with (e | ⟨o, e⟩) | ⟨o, its, k, e, c, _⟩
    · exact .base (.lst (s _ _ e))
    · exact .base (.frz (s _ _ e))
    · exact .kList e c
  | rng e _ _ _ =>
    cases h
    obtain ⟨kvs, q⟩ : ∃ kvs, rngO _ _ _ _ = HO.dK kvs := rngO_dk _ _ _ _
    rw [q] at e
    exact .base (.dK (s _ _ e))
  | exc _ _ _ _ => cases h
  | fn _ => cases h
  | ty _ => cases h
  | thk _ _ => cases h
  | obj _ _ _ _ => cases h
theorem tyD_mem {d : D} {t : String} (h : tyD d = some t) : t ∈ ["NoneType", "bool", "int", "str", "tuple", "list", "dict"] := by
  cases d <;> simp [tyD] at h <;> subst h <;> decide
theorem cd_isi : CallD X (rIsi X.K) gIsi := fun n F H xs ds Q E s r q => by
  unfold gIsi at q
  split at q
  · rename_i d T
    cases e : tyD d with
    | none => simp only [e, Option.bind_none] at q; exact q.elim
    | some t =>
      simp only [e, Option.bind_some] at q
      unfold isiD at q
      by_cases hT : T ∈ ["int", "str", "bool", "tuple", "list", "dict"]
      · rw [if_pos hT] at q
        cases r with
        | cons r1 r2 => cases r2 with
          | cons r3 r4 =>
            cases r4; cases r3
            exact ⟨_, _, .type t, .type T, _, rfl, .ty T, tyX_of s r1 e, kit_ty X.K t (tyD_mem e) T hT, q _ F H (Step.refl s) (.bl _)⟩
      · rw [if_neg hT] at q; exact q.elim
  · exact q.elim
end

/-! ### ==, != of data; in; is None -/
mutual
def toPy : D → Option PyData
  | .non => some .none
  | .bl b => some (.bool b)
  | .int i => some (.int i)
  | .str s => some (.str s)
  | .tup l => (toPys l).map PyData.tuple
  | .lst l => (toPys l).map PyData.list
  | _ => none
def toPys : List D → Option (List PyData)
  | [] => some []
  | d :: r => match toPy d, toPys r with
    | some p, some ps => some (p :: ps)
    | _, _ => none
end
section
variable {K : PySem.W.Frag} {mg : Str → Option Value} {n : Nat} {F H : Hp}
mutual
theorem dp_of (s : ∀ b o, F b = some o → H b = some o) : ∀ {d : D} {v : V} {p : PyData}, Rep K mg n F v d → toPy d = some p → Dp K H v p
  | .non, _, p, r, h => by cases r; simp only [toPy, Option.some.injEq] at h; subst h; exact .non
  | .bl b, _, p, r, h => by cases r; simp only [toPy, Option.some.injEq] at h; subst h; exact .bl b
  | .int i, _, p, r, h => by cases r; simp only [toPy, Option.some.injEq] at h; subst h; exact .int i
  | .str x, _, p, r, h => by cases r; simp only [toPy, Option.some.injEq] at h; subst h; exact .str x
  | .tup l, _, p, r, h => by
    cases r with
    | tup e r =>
      cases q : toPys l with
      | none => simp only [toPy, q, Option.map_none] at h; cases h
      | some ps => simp only [toPy, q, Option.map_some, Option.some.injEq] at h; subst h; exact .tup (SqT.of (s _ _ e)) (dps_of s r q)
  | .lst l, _, p, r, h => by
    cases r with
    | lst e r =>
      cases q : toPys l with
      | none => simp only [toPy, q, Option.map_none] at h; cases h
      | some ps => simp only [toPy, q, Option.map_some, Option.some.injEq] at h; subst h; exact .lst (SqL.of (s _ _ e)) (dps_of s r q)
  | .dct _, _, p, r, h => by simp only [toPy] at h; cases h
  | .scr _, _, p, r, h => by simp only [toPy] at h; cases h
  | .rng _ _, _, p, r, h => by simp only [toPy] at h; cases h
  | .exc _ _, _, p, r, h => by simp only [toPy] at h; cases h
  | .fn _, _, p, r, h => by simp only [toPy] at h; cases h
  | .ty _, _, p, r, h => by simp only [toPy] at h; cases h
theorem dps_of (s : ∀ b o, F b = some o → H b = some o) : ∀ {ds : List D} {vs : List V} {ps : List PyData}, Reps K mg n F vs ds → toPys ds = some ps → DpAll K H vs ps
  | [], _, ps, r, h => by cases r; simp only [toPys, Option.some.injEq] at h; subst h; exact .nil
  | d :: ds, _, ps, r, h => by
    cases r with
    | cons r1 r2 =>
      cases q : toPy d with
      | none => simp only [toPys, q] at h; cases h
      | some p =>
        cases q2 : toPys ds with
        | none => simp only [toPys, q, q2] at h; cases h
        | some ps' => simp only [toPys, q, q2, Option.some.injEq] at h; subst h; exact .cons (dp_of s r1 q) (dps_of s r2 q2)
end
end
def gEqD (neg : Bool) : D → D → M D := fun d e => match toPy d, toPy e with
  | some p, some q => need (SeqAt.shaped p = true ∧ SeqAt.shaped q = true) (ret (.bl (if neg then !PyData.eqv p q else PyData.eqv p q)))
  | _, _ => stuck
def gEq (neg : Bool) : D → D → M D
  | .str a, .str b => ret (.bl (if neg then !decide (a = b) else decide (a = b)))
  | d, e => gEqD neg d e
/-- in: one sign in a text; a thing in a list, in a tuple of flat things -/
def flatD : D → Bool
  | .non => true | .bl _ => true | .int _ => true | .str _ => true
  | _ => false
def vOf : D → V
  | .bl b => .bl b | .int i => .int i | .str s => .str s
  | _ => .non
def gIn (neg : Bool) : D → D → M D
  | .str a, .str b => match a.cps.toList with
    | [c] => ret (.bl (if neg then !decide (c ∈ b.cps.toList) else decide (c ∈ b.cps.toList)))
    | _ => stuck
  | d, .tup l => need (flatD d = true ∧ l.all flatD = true) (ret (.bl (if neg then !inV (vOf d) (l.map vOf) else inV (vOf d) (l.map vOf))))
  | d, .lst l => match toPy d, toPys l with
    | some p, some ps => need (SeqAt.shaped p = true ∧ SeqAt.shaped (.list ps) = true) (ret (.bl (if neg then !(ps.any fun z => PyData.eqv z p) else ps.any fun z => PyData.eqv z p)))
    | _, _ => stuck
  | _, _ => stuck
def gIsN (neg : Bool) : D → D → M D
  | .non, .non => ret (.bl (!neg))
  | .bl _, .non => ret (.bl neg) | .int _, .non => ret (.bl neg) | .str _, .non => ret (.bl neg) | .tup _, .non => ret (.bl neg) | .lst _, .non => ret (.bl neg) | .dct _, .non => ret (.bl neg)
  | .exc _ _, .non => ret (.bl neg)
  | _, _ => stuck
section
variable {X : Cx}
def rEqA (K : PySem.W.Frag) : R2 := fun x y H Q => rEq x y H Q ∨ rEqD K x y H Q
def rNeA (K : PySem.W.Frag) : R2 := fun x y H Q => rNe x y H Q ∨ rNeD K x y H Q
theorem op_eqA (hu : X.A.units + 64 < cLine) : OpR X (compareOp .Eq) (rEqA X.K) := OpR.or op_eq (op_eqD hu)
theorem op_neA (hu : X.A.units + 64 < cLine) : OpR X (compareOp .NotEq) (rNeA X.K) := OpR.or op_ne (op_neD hu)
theorem dec_str (a b : Str) : decide (V.str a = V.str b) = decide (a = b) := by
  by_cases h : a = b
  · subst h; simp
  · rw [decide_eq_false h, decide_eq_false fun q => h (V.str.inj q)]
theorem od_eq : OpD X (rEqA X.K) (gEq false) := fun n F H x y d e Q E s rx ry q => by
  unfold gEq at q
  split at q
  · cases rx; cases ry
    exact .inl ⟨rfl, by rw [dec_str]; exact q _ F H (Step.refl s) (.bl _)⟩
  · unfold gEqD at q
    split at q
    · rename_i p p' h1 h2
      exact .inr ⟨p, p', dp_of s rx h1, dp_of s ry h2, q.1.1, q.1.2, q.2 _ F H (Step.refl s) (.bl _)⟩
    · exact q.elim
theorem od_ne : OpD X (rNeA X.K) (gEq true) := fun n F H x y d e Q E s rx ry q => by
  unfold gEq at q
  split at q
  · cases rx; cases ry
    exact .inl ⟨rfl, by rw [dec_str]; exact q _ F H (Step.refl s) (.bl _)⟩
  · unfold gEqD at q
    split at q
    · rename_i p p' h1 h2
      exact .inr ⟨p, p', dp_of s rx h1, dp_of s ry h2, q.1.1, q.1.2, q.2 _ F H (Step.refl s) (.bl _)⟩
    · exact q.elim
theorem flat_v {n : Nat} {F : Hp} {v : V} {d : D} (h : flatD d = true) (r : Rep X.K X.mg n F v d) : v = vOf d ∧ flatV v = true := by
  cases r <;> first | exact ⟨rfl, rfl⟩ | cases h
theorem flat_vs {n : Nat} {F : Hp} : ∀ {vs : List V} {ds : List D}, ds.all flatD = true → Reps X.K X.mg n F vs ds → vs = ds.map vOf ∧ vs.all flatV = true
  | _, _, _, .nil => ⟨rfl, rfl⟩
  | _, _, h, .cons r rs => by
    rw [List.all_cons, Bool.and_eq_true] at h
    obtain ⟨h1, h2⟩ := flat_v h.1 r
    obtain ⟨h3, h4⟩ := flat_vs h.2 rs
    exact ⟨by rw [List.map_cons, ← h1, ← h3], by rw [List.all_cons, h2, h4]; rfl⟩
def rInA (K : PySem.W.Frag) : R2 := fun x y H Q => (∃ (c : Nat) (z : Str), x = .str ⟨#[c]⟩ ∧ y = .str z ∧ Q (.bl (decide (c ∈ z.cps.toList))) H) ∨ rIn K false x y H Q ∨ rInD K x y H Q
def rNotInA (K : PySem.W.Frag) : R2 := fun x y H Q => (∃ (c : Nat) (z : Str), x = .str ⟨#[c]⟩ ∧ y = .str z ∧ Q (.bl (!decide (c ∈ z.cps.toList))) H) ∨ rIn K true x y H Q ∨ rNotInD K x y H Q
theorem op_inA (hu : X.A.units + 65 < cLine) : OpR X (compareOp .In) (rInA X.K) := OpR.or op_in_sign (OpR.or op_in_seq (op_inD hu))
theorem op_notInA (hu : X.A.units + 65 < cLine) : OpR X (compareOp .NotIn) (rNotInA X.K) := OpR.or op_notIn_sign (OpR.or op_notIn_seq (op_notInD hu))
theorem sign_of {a : Str} {c : Nat} (h : a.cps.toList = [c]) : a = ⟨#[c]⟩ := by
  cases a with
  | mk cps =>
    have : cps = #[c] := by
      apply Array.ext'
      simpa using h
    rw [this]
theorem od_in : OpD X (rInA X.K) (gIn false) := fun n F H x y d e Q E s rx ry q => by
  unfold gIn at q
  split at q
  · split at q
    · rename_i h
      cases rx; cases ry
      exact .inl ⟨_, _, by rw [sign_of h], rfl, q _ F H (Step.refl s) (.bl _)⟩
    · exact q.elim
  · obtain ⟨⟨h1, h2⟩, q⟩ := q
    cases ry with
    | tup e r =>
      obtain ⟨e1, f1⟩ := flat_v h1 rx
      obtain ⟨e2, f2⟩ := flat_vs h2 r
      exact .inr (.inl ⟨_, _, rfl, .inr (SqT.of (s _ _ e)), f1, f2, by rw [e1, e2]; exact q _ F H (Step.refl s) (.bl _)⟩)
  · split at q
    · rename_i p ps h1 h2
      obtain ⟨⟨h3, h4⟩, q⟩ := q
      refine .inr (.inr ⟨p, ps, dp_of s rx h1, dp_of s ry (p := .list ps) (by simp only [toPy, h2, Option.map_some]), h3, h4, q _ F H (Step.refl s) (.bl _)⟩)
    · exact q.elim
  · exact q.elim
theorem od_notIn : OpD X (rNotInA X.K) (gIn true) := fun n F H x y d e Q E s rx ry q => by
  unfold gIn at q
  split at q
  · split at q
    · rename_i h
      cases rx; cases ry
      exact .inl ⟨_, _, by rw [sign_of h], rfl, q _ F H (Step.refl s) (.bl _)⟩
    · exact q.elim
  · obtain ⟨⟨h1, h2⟩, q⟩ := q
    cases ry with
    | tup e r =>
      obtain ⟨e1, f1⟩ := flat_v h1 rx
      obtain ⟨e2, f2⟩ := flat_vs h2 r
      exact .inr (.inl ⟨_, _, rfl, .inr (SqT.of (s _ _ e)), f1, f2, by rw [e1, e2]; exact q _ F H (Step.refl s) (.bl _)⟩)
  · split at q
    · rename_i p ps h1 h2
      obtain ⟨⟨h3, h4⟩, q⟩ := q
      refine .inr (.inr ⟨p, ps, dp_of s rx h1, dp_of s ry (p := .list ps) (by simp only [toPy, h2, Option.map_some]), h3, h4, q _ F H (Step.refl s) (.bl _)⟩)
    · exact q.elim
  · exact q.elim
theorem od_isN : OpD X (fun x y H Q => y = .non ∧ Q (.bl (decide (x = .non))) H) (gIsN false) := fun n F H x y d e Q E s rx ry q => by
  unfold gIsN at q
  split at q <;> first | exact q.elim | (cases ry; cases rx <;> exact ⟨rfl, q _ F H (Step.refl s) (.bl _)⟩)
theorem od_notN : OpD X (fun x y H Q => y = .non ∧ Q (.bl (!decide (x = .non))) H) (gIsN true) := fun n F H x y d e Q E s rx ry q => by
  unfold gIsN at q
  split at q <;> first | exact q.elim | (cases ry; cases rx <;> exact ⟨rfl, q _ F H (Step.refl s) (.bl _)⟩)
end

/-! ### subscripts -/
def gIx : D → D → M D
  | .lst l, .int i => match atI l i with
    | some d => ret d
    | none => stuck
  | .tup l, .int i => match atI l i with
    | some d => ret d
    | none => stuck
  | .str s, .int i => need (s.length ≤ sizeLine) (match atI s.cps.toList i with
    | some c => ret (.str ⟨#[c]⟩)
    | none => stuck)
  | _, _ => stuck
section
variable {X : Cx} {W : WX} {a b : Expr} {fa fb : DExp} {pos : Pos}
theorem Reps.atI {n : Nat} {F : Hp} {vs : List V} {ds : List D} {i : Int} {d : D} (r : Reps X.K X.mg n F vs ds) (h : L2.atI ds i = some d) : ∃ v, L2.atI vs i = some v ∧ Rep X.K X.mg n F v d := by
  unfold L2.atI at h ⊢
  rw [r.length]
  cases e : ixN ds.length i with
  | none => rw [e] at h; cases h
  | some j => rw [e] at h; exact r.get h
theorem od_ix : OpD X (rIx X.K) gIx := fun n F H x y d e Q E s rx ry q => by
  unfold gIx at q
  split at q
  · split at q
    · rename_i h
      cases ry
      cases rx with
      | lst e r =>
        obtain ⟨v, hv, rv⟩ := Reps.atI r h
        exact .inl ⟨_, _, _, v, rfl, rfl, SqL.of (s _ _ e), hv, q _ F H (Step.refl s) rv⟩
    · exact q.elim
  · split at q
    · rename_i h
      cases ry
      cases rx with
      | tup e r =>
        obtain ⟨v, hv, rv⟩ := Reps.atI r h
        exact .inr (.inl ⟨_, _, _, v, rfl, rfl, SqT.of (s _ _ e), hv, q _ F H (Step.refl s) rv⟩)
    · exact q.elim
  · obtain ⟨hz, q⟩ := q
    split at q
    · rename_i h
      cases ry; cases rx
      exact .inr (.inr ⟨_, _, _, rfl, rfl, hz, h, q _ F H (Step.refl s) (.str _)⟩)
    · exact q.elim
  · exact q.elim
theorem de_ix (ha : DE X W a fa) (hb : DE X W b fb) (hs : PlainIx b := by exact fun _ _ => rfl) : DE X W (.Subscript a b pos) (dBin gIx fa fb) := ⟨PE.imp (pe_ix ix_seq ha.pe hb.pe hs) (tOp_of od_ix)⟩
end

/-! ### slices without a step -/
abbrev DOpt := En → M (Option Int)
def oNone : DOpt := fun _ => ret none
def oSome (f : DExp) : DOpt := fun env => bnd (f env) fun d => match d with
  | .int i => ret (some i)
  | _ => stuck
def cutD (xs : List D) (lo hi : Option Int) : List D := (xs.drop (HT.sIx xs.length 0 lo)).take (HT.sIx xs.length xs.length hi - HT.sIx xs.length 0 lo)
def gSl : D → Option Int → Option Int → M D
  | .lst l, lo, hi => ret (.lst (cutD l lo hi))
  | .tup l, lo, hi => ret (.tup (cutD l lo hi))
  | .str z, lo, hi => need (z.length ≤ sizeLine) (ret (.str (cutS z lo hi)))
  | _, _, _ => stuck
def dSl (fe : DExp) (fl fh : DOpt) : DExp := fun env => bnd (fe env) fun d => bnd (fl env) fun l => bnd (fh env) fun h => gSl d l h
def tOpt (X : Cx) (W : WX) (f : DOpt) : TO := fun σ H Q => ∃ (B : Bs) (n : Nat) (F : Hp) (env : En), SL X.K X.mg B n F H σ env ∧ (f env).run n (fun o n' => ∀ F' H', Step n F H n' F' H' → Q o H') (exE X W n F H σ)
structure DO (X : Cx) (W : WX) (e : Option Expr) (f : DOpt) : Prop where
  po : PO X e (tOpt X W f)
section
variable {X : Cx} {W : WX} {e : Expr} {lo hi : Option Expr} {fe : DExp} {fl fh : DOpt} {p2 pos : Pos}
theorem PO.imp {e : Option Expr} {t t' : TO} (h : PO X e t) (hi : ∀ σ H Q, t' σ H Q → t σ H Q) : PO X e t' := ⟨fun pins s σ H Q I q => h.run pins s σ H Q I (hi σ H Q q)⟩
theorem do_none : DO X W none oNone := ⟨PO.imp po_none fun σ H Q ⟨B, n, F, env, S, h⟩ => h F H (Step.refl S.sub)⟩
theorem do_some {f : DExp} (he : DE X W e f) : DO X W (some e) (oSome f) := by
  refine ⟨PO.imp (po_some he.pe) fun σ H Q ⟨B, n, F, env, S, h⟩ => tD.go S h fun d n1 v F1 H1 p t r1 S1 => ?_⟩
  cases d with
  | int i => cases r1; exact ⟨i, rfl, p F1 H1 t⟩
  | _ => exact p.elim
theorem tOpt.go {f : DOpt} {B : Bs} {n : Nat} {F H : Hp} {σ : L2.St} {env : En} {P : Option Int → Nat → Prop} {R : Option Int → Hp → Prop} (S : SL X.K X.mg B n F H σ env) (h : (f env).run n P (exE X W n F H σ))
    (hk : ∀ d n1 F1 H1, P d n1 → Step n F H n1 F1 H1 → SL X.K X.mg B n1 F1 H1 σ env → R d H1) : tOpt X W f σ H R :=
  ⟨B, n, F, env, S, (f env).mono (fun d n1 p F1 H1 t => hk d n1 F1 H1 p t (S.step t)) (fun _ _ z => z) h⟩
theorem Reps.cut {n : Nat} {F : Hp} {vs : List V} {ds : List D} (r : Reps X.K X.mg n F vs ds) (lo hi : Option Int) : Reps X.K X.mg n F (cutV vs lo hi) (cutD ds lo hi) := by
  unfold cutV cutD
  rw [r.length]
  exact (r.drop _).take _
theorem cut_whole {ds : List D} {lo hi : Option Int} (h : HT.sIx ds.length 0 lo = 0 ∧ HT.sIx ds.length ds.length hi = ds.length) : cutD ds lo hi = ds := by
  unfold cutD
  rw [h.1, h.2, List.drop_zero, Nat.sub_zero, List.take_length]
theorem sl_any : SlR X (fun x lo hi H Q => rSlL X.K x lo hi H Q ∨ rSlA X.K x lo hi H Q ∨ rSlS x lo hi H Q) := SlR.or sl_list (SlR.or sl_tupA sl_str)
theorem de_sl (he : DE X W e fe) (hl : DO X W lo fl) (hh : DO X W hi fh) : DE X W (.Subscript e (.Slice lo hi none p2) pos) (dSl fe fl fh) := by
  refine ⟨PE.imp (pe_slice sl_any he.pe hl.po hh.po) fun σ H Q ⟨B, n, F, env, S, h⟩ => tD.go S h fun d n1 v F1 H1 p1 t1 r1 S1 => ?_⟩
  refine tOpt.go S1 ((fl env).mono (fun _ _ z => z) (fun _ _ z => exE.step t1 z) p1) fun l n2 F2 H2 p2 t2 S2 => ?_
  refine tOpt.go S2 ((fh env).mono (fun _ _ z => z) (fun _ _ z => exE.step (t1.trans t2) z) p2) fun u n3 F3 H3 p3 t3 S3 => ?_
  have t := (t1.trans t2).trans t3
  have r := (r1.grow t2.gr).grow t3.gr
  have sb := S3.sub
  have p3 : (gSl d l u).run n3 (okE X n F H Q) (exE X W n F H σ) := p3
  unfold gSl at p3
  split at p3
  · cases r with
    | lst e r => exact .inl ⟨_, _, rfl, SqL.of (sb _ _ e), fun p hp => p3 _ _ _ (t.trans (Step.new sb hp)) (Step.newLst sb hp (r.cut _ _))⟩
  · cases r with
    | tup e r =>
      refine .inr (.inl ⟨_, _, rfl, SqT.of (sb _ _ e), fun hw => ?_, fun _ p hp => p3 _ _ _ (t.trans (Step.new sb hp)) (Step.newTup sb hp (r.cut _ _))⟩)
      rw [r.length] at hw
      exact p3 _ F3 H3 t (by rw [cut_whole hw]; exact .tup e r)
  · cases r
    exact .inr (.inr ⟨_, rfl, p3.1, p3.2 _ F3 H3 t (.str _)⟩)
  · exact p3.elim
end
end DL

end
section
set_option Elab.async false
set_option linter.all false
set_option maxRecDepth 100000
set_option maxHeartbeats 4000000
/-! DStm: statements, loops, comprehensions. -/
namespace DL
open PySem PySem.Spec PyProof.Rows L2
variable [Tb]

/-! ### blocks -/
def sSkip : DStm := fun env => ret (.nx env)
def sSeq (s t : DStm) : DStm := fun env => bnd (s env) fun f => match f with
  | .nx e => t e
  | .rt d => ret (.rt d)
def sRet (f : DExp) : DStm := fun env => bnd (f env) fun d => ret (.rt d)
def sIf (c : DTst) (s t : DStm) : DStm := fun env => bnd (c env) fun b => if b = true then s env else t env
def sAsg (i : Nat) (f : DExp) : DStm := fun env => bnd (f env) fun d => ret (.nx (env.set i (.val d)))
def sDrop (f : DExp) : DStm := fun env => bnd (f env) fun _ => ret (.nx env)
section
variable {X : Cx} {W : WX} {k : Nat} {st : Stmt} {rest a b : List Stmt} {s t : DStm} {e c : Expr} {f : DExp} {tc : DTst} {pos : Pos} {n n1 m : Nat} {F H F1 H1 : Hp} {σ : L2.St} {B : Bs} {Ds : Ends}
theorem okS.step {fl : Fl} (t : Grow n F n1 F1) (h : okS X B n F Ds fl m) : okS X B n1 F1 Ds fl m := by
  cases fl with
  | nx env' => exact fun σ' F' H' g S => h σ' F' H' (t.trans g) S
  | rt d => exact h
theorem exS_of {env : En} {x : D} (S : SL X.K X.mg B n F H σ env) (h : exS X W B x m) : exE X W n F H σ x m := fun cls dx F' H' t r => h cls dx σ F' H' (S.st.trans t) r
theorem dss_nil : DSs X W [] sSkip := ⟨PSs.imp pss_nil fun D σ H ⟨B, n, F, env, S, h⟩ => h σ F H (Grow.refl _ _) S⟩
theorem dss_cons (h1 : DS X W st s) (h2 : DSs X W rest t) : DSs X W (st :: rest) (sSeq s t) := by
  refine ⟨PSs.imp (pss_cons h1.ps h2.pss) fun D σ H ⟨B, n, F, env, S, h⟩ => ⟨B, n, F, env, S, (s env).mono (fun fl m p => ?_) (fun _ _ z => z) h⟩⟩
  cases fl with
  | nx e => exact fun σ' F' H' g S' => ⟨B, m, F', e, S', (t e).mono (fun fl2 m2 p2 => okS.step g p2) (fun _ _ z => z) p⟩
  | rt d => exact p
theorem dss_one (h1 : DS X W st s) : DSs X W [st] s := ⟨PSs.imp (pss_one h1.ps) fun D σ H h => h⟩
theorem ds_pass : DS X W (.Pass pos) sSkip := ⟨PS.imp ps_pass fun D σ H ⟨B, n, F, env, S, h⟩ => h σ F H (Grow.refl _ _) S⟩
theorem ds_ret (he : DE X W e f) : DS X W (.Return (some e) pos) (sRet f) := by
  refine ⟨PS.imp (ps_ret he.pe) fun D σ H ⟨B, n, F, env, S, h⟩ => ?_⟩
  exact ⟨B, n, F, env, S, (f env).mono (fun d m p v F' H' t r => p v F' H' (S.st.trans t) r) (fun x m z => exS_of S z) h⟩
theorem ds_retN : DS X W (.Return none pos) (sRet (dK .non)) := by
  refine ⟨PS.imp ps_retN fun D σ H ⟨B, n, F, env, S, h⟩ => ?_⟩
  exact h .non F H S.st .non
theorem ds_drop (he : DE X W e f) (hs : swapsWith e none pos.line X.env = pure false := by rfl) : DS X W (.Expr e pos) (sDrop f) := by
  refine ⟨PS.imp (ps_expr he.pe hs) fun D σ H ⟨B, n, F, env, S, h⟩ => ?_⟩
  exact ⟨B, n, F, env, S, (f env).mono (fun d m p v F' H' t r => p σ F' H' t.gr (S.step t)) (fun x m z => exS_of S z) h⟩
theorem ds_if (hc : DT X W c tc) (ha : DSs X W a s) (hb : DSs X W b t) : DS X W (.If c a b pos) (sIf tc s t) := by
  refine ⟨PS.imp (ps_if hc.pt ha.pss hb.pss) fun D σ H ⟨B, n, F, env, S, h⟩ => ?_⟩
  refine tT.go S ((tc env).mono (fun _ _ z => z) (fun x m z => exS_of S z) h) fun d n1 F1 H1 p t1 S1 => ?_
  cases d with
  | true =>
    show tS X W s D σ H1
    exact ⟨B, n1, F1, env, S1, (s env).mono (fun fl m z => okS.step t1.gr z) (fun _ _ z => z) p⟩
  | false =>
    show tS X W t D σ H1
    exact ⟨B, n1, F1, env, S1, (t env).mono (fun fl m z => okS.step t1.gr z) (fun _ _ z => z) p⟩
theorem tAsg_of {i : Nat} : ∀ D σ H, tS X W (sAsg i f) D σ H → tAsg (tD X W f) (gName i) D σ H := fun D σ H ⟨B, n, F, env, S, h⟩ =>
  tD.go S ((f env).mono (fun _ _ z => z) (fun x m z => exS_of S z) h) fun d n1 v F1 H1 p t r S1 => p _ F1 H1 t.gr (S1.set i r)
theorem ds_asg (i : Nat) {x : Str} {px : Pos} (kx : Kx X W k) (he : DE X W e f) (hi : X.N[i]? = some x := by rfl) (hx : Loc X.env.scope x := by first | exact .inl rfl | exact .inr rfl) (hs : swapsWith e (some (.Name x px)) pos.line X.env = pure false := by rfl)
    (hf : X.fn x = true ∨ X.env.scope.names.lookup x = some .local := by first | exact .inl rfl | exact .inr rfl) : DS X W (.Assign [.Name x px] e pos) (sAsg i f) :=
  ⟨PS.imp (ps_set kx.nd hi hx he.pe hs hf) tAsg_of⟩
end

/-! ### targets -/
/-- what a target does with data; the slots that it may store at -/
def TgOk (X : Cx) (is : List Nat) (g : TG) (tg : D → En → Option En) : Prop := ∀ (B : Bs) (n : Nat) (F H : Hp) (σ : L2.St) (env env' : En) (v : V) (d : D) (Q : L2.St → Hp → Prop),
  SL X.K X.mg B n F H σ env → Rep X.K X.mg n F v d → tg d env = some env' → (∀ σ', SL X.K X.mg B n F H σ' env' → σ'.length = σ.length → (∀ i, i ∉ is → σ'[i]? = σ[i]?) → Q σ' H) → g v σ H Q
def TgsOk (X : Cx) (is : List Nat) (g : TGs) (tg : List D → En → Option En) : Prop := ∀ (B : Bs) (n : Nat) (F H : Hp) (σ : L2.St) (env env' : En) (vs : List V) (ds : List D) (Q : L2.St → Hp → Prop),
  SL X.K X.mg B n F H σ env → Reps X.K X.mg n F vs ds → tg ds env = some env' → (∀ σ', SL X.K X.mg B n F H σ' env' → σ'.length = σ.length → (∀ i, i ∉ is → σ'[i]? = σ[i]?) → Q σ' H) → g vs σ H Q
structure DG (X : Cx) (is : List Nat) (e : Expr) (tg : D → En → Option En) (g : TG) : Prop where
  pg : PG X e g
  ok : TgOk X is g tg
structure DGs (X : Cx) (is : List Nat) (es : List Expr) (tg : List D → En → Option En) (g : TGs) : Prop where
  pgs : PGs X es g
  ok : TgsOk X is g tg
def tgN (i : Nat) : D → En → Option En := fun d env => some (env.set i (.val d))
def tgsNil : List D → En → Option En := fun ds env => match ds with
  | [] => some env
  | _ => none
def tgsCons (t : D → En → Option En) (u : List D → En → Option En) : List D → En → Option En := fun ds env => match ds with
  | d :: r => (t d env).bind fun e => u r e
  | [] => none
def tgT (n : Nat) (u : List D → En → Option En) : D → En → Option En := fun d env => match d with
  | .tup l => if l.length = n then u l env else none
  | _ => none
section
variable {X : Cx} {e : Expr} {es : List Expr} {is js : List Nat} {g : TG} {gs : TGs}
theorem dg_name (i : Nat) {x : Str} {pos : Pos} (hN : X.N.Nodup) (hi : X.N[i]? = some x := by rfl) (hx : Loc X.env.scope x := by first | exact .inl rfl | exact .inr rfl) (hf : X.fn x = true ∨ X.env.scope.names.lookup x = some .local := by first | exact .inl rfl | exact .inr rfl) : DG X [i] (.Name x pos) (tgN i) (gName i) :=
  ⟨pg_name hN hi hx hf, fun B n F H σ env env' v d Q S r h q => by
    cases h
    exact q _ (S.set i r) (by simp) fun j hj => List.getElem?_set_ne fun e => hj (by simp [e])⟩
theorem dgs_nil : DGs X [] [] tgsNil gNil := ⟨pgs_nil, fun B n F H σ env env' vs ds Q S r h q => by
  unfold tgsNil at h
  split at h
  · cases h; cases r; exact ⟨rfl, q σ S rfl fun _ _ => rfl⟩
  · cases h⟩
theorem dgs_cons {t : D → En → Option En} {u : List D → En → Option En} (h1 : DG X is e t g) (h2 : DGs X js es u gs) (hs : (assignEach (e :: es) X.env).map (·.2) = assign e X.env :: (assignEach es X.env).map (·.2) := by rfl) : DGs X (is ++ js) (e :: es) (tgsCons t u) (gCons g gs) := by
  refine ⟨pgs_cons h1.pg h2.pgs hs, fun B n F H σ env env' vs ds Q S r h q => ?_⟩
  unfold tgsCons at h
  split at h
  · rename_i d r'
    cases r with
    | cons r1 r2 =>
      cases e1 : t d env with
      | none => rw [e1] at h; cases h
      | some env1 =>
        rw [e1] at h
        exact ⟨_, _, rfl, h1.ok B n F H σ env env1 _ d _ S r1 e1 fun σ1 S1 l1 a1 => h2.ok B n F H σ1 env1 env' _ r' Q S1 r2 h fun σ2 S2 l2 a2 => q σ2 S2 (l2.trans l1) fun i hi =>
          (a2 i fun z => hi (List.mem_append_right _ z)).trans (a1 i fun z => hi (List.mem_append_left _ z))⟩
  · cases h
theorem dg_tup {n : Nat} {j : Nat} {u : List D → En → Option En} {pos : Pos} (hc : X.calm = true) (h1 : DGs X is es u gs) (hn : (assignEach es X.env).length = n := by rfl) (hst : (assignEach es X.env).findIdx? (·.1) = none := by rfl) : DG X is (.Tuple es j pos) (tgT n u) (gTup X.K n gs) := by
  refine ⟨pg_tup hc h1.pgs hn hst, fun B m F H σ env env' v d Q S r h q => ?_⟩
  unfold tgT at h
  split at h
  · rename_i l
    by_cases hl : l.length = n
    · rw [if_pos hl] at h
      cases r with
      | tup e r => exact ⟨_, _, rfl, SqT.of (S.sub _ _ e), by rw [r.length]; exact hl, h1.ok B m F H σ env env' _ l Q S r h q⟩
    · rw [if_neg hl] at h; cases h
  · cases h
end
/-- a, b = e -/
def sUnp (tg : D → En → Option En) (f : DExp) : DStm := fun env => bnd (f env) fun d => match tg d env with
  | some env' => ret (.nx env')
  | none => stuck
/-- a, b = x, y: the values, then the stores -/
def sPar (is : List Nat) (fa : DArg) : DStm := fun env => bnd (fa env) fun ds => match tgsN is ds env with
  | some env' => ret (.nx env')
  | none => stuck
where tgsN : List Nat → List D → En → Option En
  | [], [], env => some env
  | i :: is, d :: ds, env => tgsN is ds (env.set i (.val d))
  | _, _, _ => none
section
variable {X : Cx} {W : WX} {k : Nat} {e tg : Expr} {f : DExp} {t : D → En → Option En} {pos : Pos}
theorem ds_unp {is : List Nat} {g : TG} (he : DE X W e f) (hg : DG X is tg t g) (hs : swapsWithSole [tg] e pos.line X.env = pure false := by rfl) (hw : swappedStores [tg] e X.env = pure none := by rfl)
    (h1 : (assignEach [tg] X.env).map (·.2) = [assign tg X.env] := by rfl) : DS X W (.Assign [tg] e pos) (sUnp t f) := by
  refine ⟨PS.imp (ps_asg he.pe hg.pg hs hw h1) fun D σ H ⟨B, n, F, env, S, h⟩ => ?_⟩
  refine tD.go S ((f env).mono (fun _ _ z => z) (fun x m z => exS_of S z) h) fun d n1 v F1 H1 p t1 r S1 => ?_
  dsimp only at p
  cases e1 : t d env with
  | none => rw [e1] at p; exact p.elim
  | some env' =>
    rw [e1] at p
    exact hg.ok B n1 F1 H1 σ env env' v d _ S1 r e1 fun σ' S' _ _ => p σ' F1 H1 t1.gr S'
theorem ds_par2 (i j : Nat) {x y : Str} {a b : Expr} {fa : DArg} {px py pt : Pos} {kt k2 pt2} (kx : Kx X W k) (ha : DA X W [a, b] fa) (hi : X.N[i]? = some x := by rfl) (hj : X.N[j]? = some y := by rfl) (hij : i ≠ j := by decide)
    (hx : X.env.scope.names.lookup x = some .local := by rfl) (hy : X.env.scope.names.lookup y = some .local := by rfl) (hw : swappedStores [.Tuple [.Name x px, .Name y py] kt pt] (.Tuple [a, b] k2 pt2) X.env = pure (some [x, y]) := by rfl)
    (hs : swapsWithSole [.Tuple [.Name x px, .Name y py] kt pt] (.Tuple [a, b] k2 pt2) pos.line X.env = pure false := by rfl) : DS X W (.Assign [.Tuple [.Name x px, .Name y py] kt pt] (.Tuple [a, b] k2 pt2) pos) (sPar [i, j] fa) := by
  refine ⟨PS.imp (ps_par kx.calm kx.nd hi hj hij hx hy ha.pa hw hs) fun D σ H ⟨B, n, F, env, S, h⟩ => ?_⟩
  refine tA.go S ((fa env).mono (fun _ _ z => z) (fun x m z => exS_of S z) h) fun ds n1 vs F1 H1 p t1 r S1 => ?_
  match ds, r with
  | [d, d'], .cons r1 (.cons r2 .nil) => exact ⟨_, _, rfl, p _ F1 H1 t1.gr ((S1.set i r1).set j r2)⟩
  | [], _ => exact p.elim
  | [_], _ => exact p.elim
  | _ :: _ :: _ :: _, _ => exact p.elim
end

/-! ### what a loop walks -/
def WalkD (X : Cx) (J : It) (n : Nat) (F : Hp) (ds : List D) : Prop := ∀ (i n2 : Nat) (F2 H2 : Hp), Grow n F n2 F2 → (∀ b o, F2 b = some o → H2 b = some o) →
  (∀ d, ds[i]? = some d → J.go i H2 ∧ ∀ x H3, J.yld i H2 x H3 → ∃ F3, Step n2 F2 H2 n2 F3 H3 ∧ Rep X.K X.mg n2 F3 x d) ∧ (i = ds.length → J.stop i H2)
abbrev DIt := En → M (List D)
def tI (X : Cx) (W : WX) (f : DIt) : TI := fun σ H R => ∃ (B : Bs) (n : Nat) (F : Hp) (env : En), SL X.K X.mg B n F H σ env ∧ (f env).run n (fun ds n' => ∀ J F' H', Step n F H n' F' H' → WalkD X J n' F' ds → R J H') (exE X W n F H σ)
structure DI (X : Cx) (W : WX) (tg iter : Expr) (f : DIt) : Prop where
  pi : PI X tg iter (tI X W f)
theorem PI.imp {X : Cx} {tg e : Expr} {t t' : TI} (h : PI X tg e t) (hi : ∀ σ H R, t' σ H R → t σ H R) : PI X tg e t' := ⟨fun pins s σ H R I q => h.run pins s σ H R I (hi σ H R q)⟩
def itemsOf : D → M (List D)
  | .lst l => ret l
  | .tup l => ret l
  | .str x => ret (x.cps.toList.map fun c => .str ⟨#[c]⟩)
  | _ => stuck
def iVal (f : DExp) : DIt := fun env => bnd (f env) itemsOf
def rangeD (lo : Int) (n : Nat) : List D := (List.range n).map fun (i : Nat) => D.int (lo + (i : Int))
def iRange1 (fa : DArg) : DIt := fun env => bnd (fa env) fun ds => match ds with
  | [.int j] => need (-(2 ^ 62) ≤ j ∧ j < 2 ^ 62) (ret (rangeD 0 j.toNat))
  | _ => stuck
def iRange2 (fa : DArg) : DIt := fun env => bnd (fa env) fun ds => match ds with
  | [.int i, .int j] => need (-(2 ^ 62) ≤ i ∧ i < 2 ^ 62 ∧ -(2 ^ 62) ≤ j ∧ j < 2 ^ 62) (ret (rangeD i (j - i).toNat))
  | _ => stuck
section
variable {X : Cx} {W : WX} {tg e : Expr} {es : List Expr} {f : DExp} {fa : DArg} {p pos : Pos}
theorem walk_list {n : Nat} {F : Hp} {a : Addr} {xs : List V} {ds : List D} (h : F a = some (.lst xs)) (r : Reps X.K X.mg n F xs ds) : WalkD X (Itl X.K a) n F ds := fun i n2 F2 H2 g s => by
  have h2 : H2 a = some (.lst xs) := s _ _ (g.obj _ _ h not_rng_lst)
  refine ⟨fun d hd => ?_, fun e => ⟨xs, SqL.of h2, by rw [r.length, e]; exact Nat.le_refl _⟩⟩
  obtain ⟨v, hv, rv⟩ := r.get hd
  refine ⟨⟨xs, v, SqL.of h2, hv⟩, fun x H3 y => ?_⟩
  obtain ⟨rfl, y⟩ := y
  have e := y xs (SqL.of h2)
  rw [hv] at e
  cases e
  exact ⟨F2, Step.refl s, rv.grow g⟩
theorem walk_tup {n : Nat} {F : Hp} {a : Addr} {xs : List V} {ds : List D} (h : F a = some (.tup xs)) (r : Reps X.K X.mg n F xs ds) : WalkD X (Itt X.K a) n F ds := fun i n2 F2 H2 g s => by
  have h2 : H2 a = some (.tup xs) := s _ _ (g.obj _ _ h not_rng_tup)
  refine ⟨fun d hd => ?_, fun e => ⟨xs, SqT.of h2, by rw [r.length, e]; exact Nat.le_refl _⟩⟩
  obtain ⟨v, hv, rv⟩ := r.get hd
  refine ⟨⟨xs, v, SqT.of h2, hv⟩, fun x H3 y => ?_⟩
  obtain ⟨rfl, y⟩ := y
  have e := y xs (SqT.of h2)
  rw [hv] at e
  cases e
  exact ⟨F2, Step.refl s, rv.grow g⟩
theorem walk_str {n : Nat} {F : Hp} (x : Str) : WalkD X (Its x) n F (x.cps.toList.map fun c => .str ⟨#[c]⟩) := fun i n2 F2 H2 g s => by
  refine ⟨fun d hd => ?_, fun e => ?_⟩
  · rw [List.getElem?_map] at hd
    cases e : x.cps.toList[i]? with
    | none => rw [e] at hd; cases hd
    | some c =>
      rw [e] at hd; cases hd
      have hi : i < x.cps.size := by simpa using (List.getElem?_eq_some_iff.mp e).1
      refine ⟨hi, fun v H3 y => ?_⟩
      obtain ⟨rfl, c', hc, rfl⟩ := y
      have : c' = c := by
        rw [Array.getElem?_toList] at e
        rw [hc] at e
        exact Option.some.inj e
      subst this
      exact ⟨F2, Step.refl s, .str _⟩
  · rw [List.length_map, Array.length_toList] at e
    exact Nat.le_of_eq e.symm
theorem rangeD_length (lo : Int) (n : Nat) : (rangeD lo n).length = n := by simp [rangeD]
theorem walk_range {n : Nat} {F : Hp} (lo : Int) (m : Nat) : WalkD X (Itr lo m) n F (rangeD lo m) := fun i n2 F2 H2 g s => by
  refine ⟨fun d hd => ?_, fun e => by rw [rangeD_length] at e; exact Nat.le_of_eq e.symm⟩
  have hi : i < m := by
    have := (List.getElem?_eq_some_iff.mp hd).1
    rwa [rangeD_length] at this
  unfold rangeD at hd
  rw [List.getElem?_map, List.getElem?_range hi] at hd
  cases hd
  refine ⟨hi, fun v H3 y => ?_⟩
  obtain ⟨rfl, rfl⟩ := y
  exact ⟨F2, Step.refl s, .int _⟩
/-- over a list, a tuple, a text -/
theorem di_val (he : DE X W e f) : DI X W tg e (iVal f) := by
  refine ⟨⟨fun pins s σ H R I h => ?_⟩⟩
  obtain ⟨B, n, F, env, S, h⟩ := h
  have hA : tD X W f σ H (fun v H1 => (∃ a xs, v = .ref a ∧ SqL X.K H1 a xs ∧ R (Itl X.K a) H1) ∨ (∃ a xs, v = .ref a ∧ SqT X.K H1 a xs ∧ R (Itt X.K a) H1) ∨ ∃ x, v = .str x ∧ R (Its x) H1) := tD.go S h fun d n1 v F1 H1 p t r S1 => by
    have p : (itemsOf d).run n1 (fun ds n' => ∀ J F' H', Step n F H n' F' H' → WalkD X J n' F' ds → R J H') (exE X W n F H σ) := p
    unfold itemsOf at p
    split at p
    · cases r with
      | lst e r => exact .inl ⟨_, _, rfl, SqL.of (S1.sub _ _ e), p _ F1 H1 t (walk_list e r)⟩
    · cases r with
      | tup e r => exact .inr (.inl ⟨_, _, rfl, SqT.of (S1.sub _ _ e), p _ F1 H1 t (walk_tup e r)⟩)
    · cases r
      exact .inr (.inr ⟨_, rfl, p _ F1 H1 t (walk_str _)⟩)
    · exact p.elim
  refine thn (he.pe.run pins s σ H _ I hA) fun u s1 ⟨v, H1, I1, r1, q1⟩ => ?_
  have fresh : ∀ b ∈ [s1.heap.objs.size], FpOk X pins H1 b := fun b hb => by
    rw [List.mem_singleton] at hb
    subst hb
    exact I1.fpOk (Nat.le_refl _) (I1.hok.fresh (Nat.le_refl _))
  rcases q1 with ⟨a, xs, rfl, hq, q⟩ | ⟨a, xs, rfl, hq, q⟩ | ⟨x, rfl, q⟩
  · cases r1
    obtain ⟨its, _, pl, _⟩ := I1.list hq
    exact wpAny_pyIter_list pl.isList ⟨_, [s1.heap.objs.size], _, _, H1, rfl, I1.kept (t' := s1.toks) fun b o z => Heap.get?_push_of_some _ z, turn_list a _, ⟨_, Heap.get?_push_size _ rfl, rfl, rfl⟩, fresh, q⟩
  · cases r1
    obtain ⟨its, _, pl, _⟩ := I1.tuple hq
    exact wpAny_pyIter_tuple (show s1.heap.IsTuple a its.toArray from pl) ⟨_, [s1.heap.objs.size], _, _, H1, rfl, I1.kept (t' := s1.toks) fun b o z => Heap.get?_push_of_some _ z, turn_tuple a _, ⟨_, Heap.get?_push_size _ rfl, rfl, rfl⟩, fresh, q⟩
  · obtain ⟨t, rfl⟩ := r1
    refine wpAny_pyIter_strU ?_
    refine ⟨_, [s1.heap.objs.size], _, _, H1, rfl, I1.kept (t' := s1.toks) fun b o z => Heap.get?_push_of_some _ z, turn_str _ x t (strIterType x) ?_, ⟨_, Heap.get?_push_size _ rfl, rfl, rfl⟩, fresh, q⟩
    unfold strIterType
    split
    · exact .inl rfl
    · exact .inr rfl
theorem di_range1 (hm : X.mg "range" = none) (ha : DA X W [e] fa) (hg : Gl X "range" := by rfl) (hs : starEach [e] X.env = [(false, eval e X.env)] := by rfl) : DI X W tg (.Call (.Name "range" p) [e] [] pos) (iRange1 fa) := by
  refine ⟨PI.imp (pi_range1 hg hm ha.pa hs) fun σ H R ⟨B, n, F, env, S, h⟩ => tA.go S h fun ds n1 vs F1 H1 p t r S1 => ?_⟩
  match ds, r, p with
  | [.int j], .cons (.int _) .nil, p => exact ⟨j, rfl, p.1.1, p.1.2, p.2 _ F1 H1 t (walk_range 0 _)⟩
theorem di_range2 {e2 : Expr} (hm : X.mg "range" = none) (ha : DA X W [e, e2] fa) (hg : Gl X "range" := by rfl) (hs : starEach [e, e2] X.env = [(false, eval e X.env), (false, eval e2 X.env)] := by rfl) (hs2 : starEach [e2] X.env = [(false, eval e2 X.env)] := by rfl) : DI X W tg (.Call (.Name "range" p) [e, e2] [] pos) (iRange2 fa) := by
  refine ⟨PI.imp (pi_range2 hg hm ha.pa hs hs2) fun σ H R ⟨B, n, F, env, S, h⟩ => tA.go S h fun ds n1 vs F1 H1 p t r S1 => ?_⟩
  match ds, r, p with
  | [.int i, .int j], .cons (.int _) (.cons (.int _) .nil), p => exact ⟨i, j, rfl, p.1, p.2 _ F1 H1 t (walk_range i _)⟩
end

/-! ### for -/
def loopD (tg : D → En → Option En) (b : DStm) : List D → En → M Fl
  | [], env => ret (.nx env)
  | d :: ds, env => match tg d env with
    | none => stuck
    | some e1 => bnd (b e1) fun f => match f with
      | .nx e2 => loopD tg b ds e2
      | .rt r => ret (.rt r)
def sFor (fi : DIt) (tg : D → En → Option En) (b : DStm) : DStm := fun env => bnd (fi env) fun ds => loopD tg b ds env
section
variable {X : Cx} {W : WX} {k : Nat} {tg iter : Expr} {bod : List Stmt} {fi : DIt} {t : D → En → Option En} {b : DStm} {pos : Pos}
theorem drop_cons {α : Type} {l : List α} {i : Nat} (h : i < l.length) : ∃ d, l[i]? = some d ∧ l.drop i = d :: l.drop (i + 1) := ⟨l[i], by simp [h], List.drop_eq_getElem_cons h⟩
theorem ds_for {is : List Nat} {g : TG} (kx : Kx X W k) (hi : DI X W tg iter fi) (hg : DG X is tg t g) (hb : DSs X W bod b) (hs : ∀ x, foldedSetIterable iter X.env x = pure x := by intro _; rfl) : DS X W (.For tg iter bod [] pos) (sFor fi t b) := by
  refine ⟨PS.imp (ps_for kx.hp kx.calm hi.pi hg.pg hb.pss hs) fun D σ H ⟨B, n, F, env, S, h⟩ => ?_⟩
  refine ⟨B, n, F, env, S, (fi env).mono (fun ds n1 p J F1 H1 t1 wk => ?_) (fun x m z => exS_of S z) h⟩
  refine ⟨fun i m σ' H' => m = ds.length - i ∧ i ≤ ds.length ∧ ∃ (n2 : Nat) (F2 : Hp) (env2 : En), SL X.K X.mg B n2 F2 H' σ' env2 ∧ Grow n1 F1 n2 F2 ∧ (loopD t b (ds.drop i) env2).run n2 (okS X B n F D) (exS X W B),
    ⟨ds.length, by simp, Nat.zero_le _, n1, F1, env, S.step t1, Grow.refl _ _, by rw [List.drop_zero]; exact p⟩, ?_⟩
  rintro i m σ2 H2 ⟨rfl, hle, n2, F2, env2, S2, g2, q2⟩
  by_cases hlt : i < ds.length
  · obtain ⟨d, hd, ed⟩ := drop_cons hlt
    rw [ed] at q2
    obtain ⟨hgo, hy⟩ := (wk i n2 F2 H2 g2 S2.sub).1 d hd
    refine .inr ⟨hgo, fun σ' H' => ∃ m', m' < ds.length - i ∧ m' = ds.length - (i + 1) ∧ i + 1 ≤ ds.length ∧ ∃ (n3 : Nat) (F3 : Hp) (env3 : En), SL X.K X.mg B n3 F3 H' σ' env3 ∧ Grow n1 F1 n3 F3 ∧ (loopD t b (ds.drop (i + 1)) env3).run n3 (okS X B n F D) (exS X W B),
      fun σ' H' ⟨m', l, e, le, z⟩ => ⟨m', l, e, le, z⟩, fun x H3 y => ?_⟩
    obtain ⟨F3, t3, r3⟩ := hy x H3 y
    have S3 := S2.step t3
    unfold loopD at q2
    cases e1 : t d env2 with
    | none => rw [e1] at q2; exact q2.elim
    | some env3 =>
      rw [e1] at q2
      refine hg.ok B n2 F3 H3 σ2 env2 env3 x d _ S3 r3 e1 fun σ3 S3' _ _ => ?_
      refine ⟨B, n2, F3, env3, S3', (b env3).mono (fun fl n4 p4 => ?_) (fun _ _ z => z) q2⟩
      cases fl with
      | nx env4 => exact fun σ4 F4 H4 g4 S4 => ⟨ds.length - (i + 1), by omega, rfl, hlt, n4, F4, env4, S4, (g2.trans t3.gr).trans g4, p4⟩
      | rt r => exact p4
  · have e : i = ds.length := by omega
    subst e
    rw [List.drop_length] at q2
    exact .inl ⟨(wk ds.length n2 F2 H2 g2 S2.sub).2 rfl, q2 σ2 F2 H2 (t1.gr.trans g2) S2⟩
end

/-! ### while -/
def whileN (c : DTst) (b : DStm) : Nat → En → M Fl
  | 0, _ => stuck
  | j + 1, env => bnd (c env) fun v => if v = true then bnd (b env) fun f => match f with
      | .nx e2 => whileN c b j e2
      | .rt r => ret (.rt r)
    else ret (.nx env)
/-- some number of turns does -/
def sWhile (c : DTst) (b : DStm) : DStm := fun env => ⟨fun n P E => ∃ j, (whileN c b j env).run n P E, fun h k ⟨j, q⟩ => ⟨j, (whileN c b j env).mono h k q⟩⟩
section
variable {X : Cx} {W : WX} {k : Nat} {c : Expr} {bod : List Stmt} {tc : DTst} {b : DStm} {pos : Pos}
theorem ds_while (kx : Kx X W k) (hc : DT X W c tc) (hb : DSs X W bod b) : DS X W (.While c bod [] pos) (sWhile tc b) := by
  refine ⟨PS.imp (ps_while kx.hp hc.pt hb.pss) fun D σ H ⟨B, n, F, env, S, j, h⟩ => ?_⟩
  refine ⟨fun m σ' H' => ∃ (n2 : Nat) (F2 : Hp) (env2 : En), SL X.K X.mg B n2 F2 H' σ' env2 ∧ Grow n F n2 F2 ∧ (whileN tc b m env2).run n2 (okS X B n F D) (exS X W B), ⟨j, n, F, env, S, Grow.refl _ _, h⟩, ?_⟩
  rintro m σ2 H2 ⟨n2, F2, env2, S2, g2, q2⟩
  cases m with
  | zero => exact q2.elim
  | succ m =>
    refine tT.go S2 ((tc env2).mono (fun _ _ z => z) (fun x m z => exS_of S2 z) q2) fun v n3 F3 H3 p t3 S3 => ?_
    cases v with
    | true =>
      rw [if_pos rfl]
      refine ⟨fun σ' H' => ∃ (n4 : Nat) (F4 : Hp) (env4 : En), SL X.K X.mg B n4 F4 H' σ' env4 ∧ Grow n F n4 F4 ∧ (whileN tc b m env4).run n4 (okS X B n F D) (exS X W B), fun σ' H' z => ⟨m, Nat.lt_succ_self m, z⟩, ?_⟩
      refine ⟨B, n3, F3, env2, S3, (b env2).mono (fun fl n4 p4 => ?_) (fun _ _ z => z) p⟩
      cases fl with
      | nx env4 => exact fun σ4 F4 H4 g4 S4 => ⟨n4, F4, env4, S4, (g2.trans t3.gr).trans g4, p4⟩
      | rt r => exact p4
    | false =>
      rw [if_neg Bool.false_ne_true]
      exact (show okS X B n F D (.nx env2) n3 from p) σ2 F3 H3 (g2.trans t3.gr) S3
end

/-! ### comprehensions -/
def noex {α : Type} (m : M α) : M α := ⟨fun n P _ => m.run n P fun _ _ => False, fun h _ q => m.mono h (fun _ _ z => z.elim) q⟩
def wipeE (env : En) : List Nat → En
  | [] => env
  | v :: vs => (wipeE env vs).set v .emp
def lcD (vs : List Nat) (tg : D → En → Option En) (c : DTst) (f : DExp) (env : En) : List D → M (List D)
  | [] => ret []
  | d :: ds => match tg d (wipeE env vs) with
    | none => stuck
    | some e1 => bnd (noex (c e1)) fun v => if v = true then bnd (noex (f e1)) fun x => bnd (lcD vs tg c f env ds) fun xs => ret (x :: xs) else lcD vs tg c f env ds
def dLc (fi : DIt) (vs : List Nat) (tg : D → En → Option En) (c : DTst) (f : DExp) : DExp := fun env => bnd (fi env) fun ds => need (ds.length ≤ sizeLine) (bnd (lcD vs tg c f env ds) fun xs => ret (.lst xs))
def cYes : DTst := fun _ => ret true
structure DTs (X : Cx) (W : WX) (es : List Expr) (f : DTst) : Prop where
  pts : PTs X es (tT X W f)
abbrev W0 : WX := fun _ _ _ _ => False
section
variable {K : PySem.W.Frag} {mg : Str → Option Value} {B : Bs} {n n' : Nat} {F H F' H' : Hp} {σ : L2.St} {env : En}
/-- an object beside what is frozen and owned is written -/
theorem SL.beside (S : SL K mg B n F H σ env) {p : Addr} {o : HO} (hF : F p = none) (hB : B.H p = none) (ho : ∀ (i : Nat) (l : List D), env[i]? = some (Slot.own l) → σ[i]? ≠ some (some (V.ref p))) : SL K mg B n F (upd H p o) σ env := by
  refine ⟨⟨S.st.gr, fun b u e => ?_, fun b u e z => ?_⟩, S.len, fun i s h => ?_, S.ne, S.tb⟩
  · rw [upd_ne (ne_of_none e hF)]; exact S.sub b u e
  · obtain ⟨h1, h2⟩ := S.st.keep b u e z
    rw [upd_ne (ne_of_none e hB)]
    exact ⟨h1, h2⟩
  · have q := S.slot i s h
    cases s with
    | emp => trivial
    | val d => exact q
    | own l =>
      obtain ⟨a, xs, e, f, b, h1, r⟩ := q
      refine ⟨a, xs, e, f, b, ?_, r⟩
      rw [upd_ne fun z => ho i l h (by rw [e, z])]
      exact h1
theorem wipe_get (σ : L2.St) : ∀ (vs : List Nat) (i : Nat), (wipe σ vs)[i]? = if i ∈ vs then (σ[i]?).map (fun _ => none) else σ[i]?
  | [], i => by simp [wipe]
  | v :: vs, i => by
    unfold wipe
    by_cases h : v = i
    · subst h
      rw [if_pos (List.mem_cons_self), List.getElem?_set]
      simp only [wipe_length, if_true]
      by_cases hl : v < σ.length
      · simp [hl]
      · simp [hl]
    · rw [List.getElem?_set_ne h, wipe_get σ vs i]
      have : (i ∈ v :: vs) ↔ i ∈ vs := by simp [Ne.symm h]
      simp only [this]
theorem wipeE_get (env : En) : ∀ (vs : List Nat) (i : Nat), (wipeE env vs)[i]? = if i ∈ vs then (env[i]?).map (fun _ => Slot.emp) else env[i]?
  | [], i => by simp [wipeE]
  | v :: vs, i => by
    have hl : ∀ (vs : List Nat), (wipeE env vs).length = env.length := fun vs => by
      induction vs with
      | nil => rfl
      | cons v vs ih => unfold wipeE; rw [List.length_set, ih]
    unfold wipeE
    by_cases h : v = i
    · subst h
      rw [if_pos (List.mem_cons_self), List.getElem?_set]
      simp only [hl, if_true]
      by_cases hz : v < env.length
      · simp [hz]
      · simp [hz]
    · rw [List.getElem?_set_ne h, wipeE_get env vs i]
      have : (i ∈ v :: vs) ↔ i ∈ vs := by simp [Ne.symm h]
      simp only [this]
theorem wipeE_length (env : En) : ∀ vs : List Nat, (wipeE env vs).length = env.length
  | [] => rfl
  | v :: vs => by unfold wipeE; rw [List.length_set, wipeE_length env vs]
theorem SL.wipe (S : SL K mg B n F H σ env) (vs : List Nat) : SL K mg B n F H (L2.wipe σ vs) (wipeE env vs) := by
  have sl : ∀ i s, (wipeE env vs)[i]? = some s → IsOwn s → env[i]? = some s ∧ (L2.wipe σ vs)[i]? = σ[i]? := fun i s h o => by
    rw [wipeE_get] at h
    by_cases hi : i ∈ vs
    · rw [if_pos hi] at h
      cases e : env[i]? with
      | none => rw [e] at h; cases h
      | some t => rw [e] at h; cases h; exact o.elim
    · rw [if_neg hi] at h
      exact ⟨h, by rw [wipe_get, if_neg hi]⟩
  refine ⟨S.st, by rw [wipe_length, wipeE_length]; exact S.len, fun i s h => ?_, fun i j s t hs ht os ot hij => ?_, S.tb⟩
  · rw [wipeE_get] at h
    by_cases hi : i ∈ vs
    · rw [if_pos hi] at h
      cases e : env[i]? with
      | none => rw [e] at h; cases h
      | some t => rw [e] at h; cases h; trivial
    · rw [if_neg hi] at h
      rw [wipe_get, if_neg hi]
      exact S.slot i s h
  · obtain ⟨h1, h2⟩ := sl i s hs os
    obtain ⟨h3, h4⟩ := sl j t ht ot
    rw [h2, h4]
    exact S.ne i j s t h1 h3 os ot hij
end
section
variable {X : Cx} {W : WX} {k : Nat}
theorem Kx.blk (kx : Kx X W k) {s : Shared} {H : Hp} {scope : Scope} {ce : PySem.Env} {fp : List Addr} : Kx (X.blk s H scope ce fp) W0 k := ⟨takes0, PassesOwn.never, kx.rm, kx.calm, kx.nd⟩
variable {elt tg iter : Expr} {ifs : List Expr} {scope : Scope} {own : List (Str × Nat)} {pos : Pos} {fi : DIt} {t : D → En → Option En} {c : DTst} {f : DExp}
theorem dts_nil : DTs X W [] cYes := ⟨⟨fun pins s σ H Q I ⟨B, n, F, env, S, h⟩ => pts_nil.run pins s σ H Q I (h F H (Step.refl S.sub))⟩⟩
theorem dts_one {e : Expr} (h : DT X W e c) : DTs X W [e] c := ⟨⟨fun pins s σ H Q I q => (pts_one h.pt).run pins s σ H Q I q⟩⟩
/-- a slot list's own names forgotten again -/
theorem wipe_again {σ σ' : L2.St} {vs is : List Nat} (hl : σ'.length = (L2.wipe σ vs).length) (ha : ∀ i, i ∉ is → σ'[i]? = (L2.wipe σ vs)[i]?) (hs : ∀ i ∈ is, i ∈ vs) : L2.wipe σ' vs = L2.wipe σ vs := by
  apply List.ext_getElem?
  intro i
  rw [wipe_get, wipe_get]
  rw [wipe_length] at hl
  by_cases hi : i ∈ vs
  · rw [if_pos hi, if_pos hi]
    by_cases hz : i < σ.length
    · rw [List.getElem?_eq_getElem (by rw [hl]; exact hz), List.getElem?_eq_getElem hz]; rfl
    · rw [List.getElem?_eq_none (by rw [hl]; omega), List.getElem?_eq_none (by omega)]
  · rw [if_neg hi, if_neg hi, ha i fun z => hi (hs i z), wipe_get, if_neg hi]
theorem Step.free {n n' : Nat} {F H F' H' : Hp} (t : Step n F H n' F' H') {p : Addr} (h : H' p = none) : H p = none := by
  cases e : H p with
  | none => rfl
  | some o =>
    cases e2 : F p with
    | none => rw [(t.keep p o e e2).1] at h; cases h
    | some o2 =>
      have := t.gr.free (sub_free t.sub h)
      rw [e2] at this; cases this
theorem Step.beside {n n' : Nat} {F H F' H' : Hp} (t : Step n F H n' F' H') {p : Addr} {o : HO} (h : H p = none) (hf : F' p = none) : Step n F H n' F' (upd H' p o) :=
  ⟨t.gr, fun b u e => by rw [upd_ne (ne_of_none e hf)]; exact t.sub b u e, fun b u e z => by rw [upd_ne (ne_of_none e h)]; exact t.keep b u e z⟩
theorem Step.freeze {n n' : Nat} {F H F' H' : Hp} (t : Step n F H n' F' H') {p : Addr} {o : HO} (h : H p = none) (hf : F' p = none) (ho : H' p = some o) : Step n F H n' (upd F' p o) H' :=
  ⟨t.gr.trans (Grow.new hf), fun b u e => by
    by_cases hb : b = p
    · subst hb; rw [upd_same] at e; rw [← e]; exact ho
    · rw [upd_ne hb] at e; exact t.sub b u e, fun b u e z => by rw [upd_ne (ne_of_none e h)]; exact t.keep b u e z⟩
/-- the reading of a comprehension -/
theorem tLc_of {g : TG} {is vs : List Nat} (hg : TgOk X is g t) (his : ∀ i ∈ is, i ∈ vs) : ∀ σ H Q, tD X W (dLc fi vs t c f) σ H Q → tLc (tI X W fi) g (tT X W0 c) (tD X W0 f) vs σ H Q := by
  rintro σ H Q ⟨B, n, F, env, S, h⟩
  refine ⟨B, n, F, env, S, (fi env).mono (fun ds n1 p J F1 H1 t1 wk Dl hD => ?_) (fun _ _ z => z) h⟩
  obtain ⟨hz, p⟩ := p
  have hH : H Dl = none := t1.free hD
  have hF1 : F1 Dl = none := sub_free t1.sub hD
  refine ⟨fun i m H' => m = ds.length - i ∧ i ≤ ds.length ∧ ∃ (n2 : Nat) (F2 : Hp) (acc : List V) (ac : List D), Step n F H n2 F2 H' ∧ Grow n1 F1 n2 F2 ∧ H' Dl = some (.lst acc) ∧ F2 Dl = none ∧ Reps X.K X.mg n2 F2 acc ac ∧ acc.length ≤ i ∧
    (lcD vs t c f env (ds.drop i)).run n2 (fun xs n3 => okE X n F H Q (.lst (ac ++ xs)) n3) (exE X W n F H σ), ⟨ds.length, by simp, Nat.zero_le _, n1, F1, [], [], t1.beside hH hF1, Grow.refl _ _, upd_same, hF1, .nil, Nat.le_refl _, ?_⟩, ?_⟩
  · rw [List.drop_zero]
    exact p
  rintro i m H2 ⟨rfl, hle, n2, F2, acc, ac, st2, g2, hD2, hF2, ra, hal, q2⟩
  by_cases hlt : i < ds.length
  · obtain ⟨d, hd, ed⟩ := drop_cons hlt
    rw [ed] at q2
    obtain ⟨hgo, hy⟩ := (wk i n2 F2 H2 g2 st2.sub).1 d hd
    refine .inr ⟨hgo, fun H' => ∃ m', m' < ds.length - i ∧ m' = ds.length - (i + 1) ∧ i + 1 ≤ ds.length ∧ ∃ (n2 : Nat) (F2 : Hp) (acc : List V) (ac : List D), Step n F H n2 F2 H' ∧ Grow n1 F1 n2 F2 ∧ H' Dl = some (.lst acc) ∧ F2 Dl = none ∧ Reps X.K X.mg n2 F2 acc ac ∧ acc.length ≤ i + 1 ∧
      (lcD vs t c f env (ds.drop (i + 1))).run n2 (fun xs n3 => okE X n F H Q (.lst (ac ++ xs)) n3) (exE X W n F H σ), fun H' ⟨m', l, e, le, z⟩ => ⟨m', l, e, le, z⟩, fun x H3 y => ?_⟩
    obtain ⟨F3, t3, r3⟩ := hy x H3 y
    have S3 := (S.step (st2.trans t3)).wipe vs
    unfold lcD at q2
    cases e1 : t d (wipeE env vs) with
    | none => rw [e1] at q2; exact q2.elim
    | some env3 =>
      rw [e1] at q2
      refine hg B n2 F3 H3 _ _ env3 x d _ S3 r3 e1 fun σ3 S3' hl3 ha3 => ⟨wipe_again hl3 ha3 his, ?_⟩
      refine tT.go S3' ((c env3).mono (fun _ _ z => z) (fun _ _ z => z.elim) q2) fun v n4 F4 H4 p4 t4 S4 => ?_
      have t24 := t3.trans t4
      cases v with
      | true =>
        show tD X W0 f σ3 H4 _
        refine tD.go S4 ((f env3).mono (fun _ _ z => z) (fun _ _ z => z.elim) p4) fun d5 n5 y5 F5 H5 p5 t5 r5 S5 => ?_
        have t25 := t24.trans t5
        obtain ⟨hD5, hF5⟩ := t25.keep Dl _ hD2 hF2
        refine ⟨acc, hD5, by omega, ds.length - (i + 1), by omega, rfl, hlt, n5, F5, acc ++ [y5], ac ++ [d5], (st2.trans t25).beside hH hF5, g2.trans t25.gr, upd_same, hF5, (ra.grow t25.gr).append (.one r5), by simp; omega, ?_⟩
        refine (lcD vs t c f env _).mono (fun xs n6 z => ?_) (fun _ _ z => z) p5
        rw [List.append_assoc]
        exact z
      | false =>
        obtain ⟨hD4, hF4⟩ := t24.keep Dl _ hD2 hF2
        exact ⟨ds.length - (i + 1), by omega, rfl, hlt, n4, F4, acc, ac, st2.trans t24, g2.trans t24.gr, hD4, hF4, ra.grow t24.gr, by omega, p4⟩
  · have e : i = ds.length := by omega
    subst e
    rw [List.drop_length] at q2
    refine .inl ⟨(wk ds.length n2 F2 H2 g2 st2.sub).2 rfl, ?_⟩
    have q3 : okE X n F H Q (.lst (ac ++ [])) n2 := q2
    rw [List.append_nil] at q3
    exact q3 _ _ H2 (st2.freeze hH hF2 hD2) (.lst upd_same (ra.grow (Grow.new hF2)))
/-- [elt for .. in .. if ..] as a value -/
theorem de_lc (kx : Kx X W k) {own : List (Str × Nat)} {is : List Nat} {g : TG} (hi : DI X W tg iter fi) (ok : BlkOk X.N X.env.scope scope own)
    (hg : ∀ (s : Shared) (H : Hp) (C : Addr) (cl : List (Str × Addr)) (fp : List Addr), DG (X.blk s H scope (compEnvC scope cl C X.env) fp) is tg t g)
    (ht : ∀ (s : Shared) (H : Hp) (C : Addr) (cl : List (Str × Addr)) (fp : List Addr), DTs (X.blk s H scope (compEnvC scope cl C X.env) fp) W0 ifs c)
    (he : ∀ (s : Shared) (H : Hp) (C : Addr) (cl : List (Str × Addr)) (fp : List Addr), DE (X.blk s H scope (compEnvC scope cl C X.env) fp) W0 elt f)
    (his : ∀ i ∈ is, i ∈ own.map (·.2) := by decide) (hs : ∀ x, foldedSetIterable iter X.env x = pure x := by intro _; rfl) : DE X W (.ListComp elt [⟨tg, iter, ifs, 0⟩] scope pos) (dLc fi (own.map (·.2)) t c f) :=
  ⟨⟨fun pins s σ H Q I q => (pe_lc kx.calm kx.nd hi.pi ok (fun s H C cl fp => (hg s H C cl fp).pg) (fun s H C cl fp => (ht s H C cl fp).pts) (fun s H C cl fp => (he s H C cl fp).pe) hs).run pins s σ H Q I
    (tLc_of (hg s H 0 [] []).ok his σ H Q q)⟩⟩
/-- name = [..] -/
theorem ds_setLc (kx : Kx X W k) (i : Nat) {y : Str} {py spos : Pos} {own : List (Str × Nat)} {is : List Nat} {g : TG} (hi : DI X W tg iter fi) (ok : BlkOk X.N X.env.scope scope own)
    (hg : ∀ (s : Shared) (H : Hp) (C : Addr) (cl : List (Str × Addr)) (fp : List Addr), DG (X.blk s H scope (compEnvC scope cl C X.env) fp) is tg t g)
    (ht : ∀ (s : Shared) (H : Hp) (C : Addr) (cl : List (Str × Addr)) (fp : List Addr), DTs (X.blk s H scope (compEnvC scope cl C X.env) fp) W0 ifs c)
    (he : ∀ (s : Shared) (H : Hp) (C : Addr) (cl : List (Str × Addr)) (fp : List Addr), DE (X.blk s H scope (compEnvC scope cl C X.env) fp) W0 elt f)
    (his : ∀ i ∈ is, i ∈ own.map (·.2) := by decide) (hy : X.N[i]? = some y := by rfl) (hyl : X.env.scope.names.lookup y = some .local := by rfl)
    (hsw : swapsWith (.ListComp elt [⟨tg, iter, ifs, 0⟩] scope pos) (some (.Name y py)) spos.line X.env = pure true := by exact sw_true rfl rfl rfl (by decide +kernel))
    (hs : ∀ x, foldedSetIterable iter X.env x = pure x := by intro _; rfl) : DS X W (.Assign [.Name y py] (.ListComp elt [⟨tg, iter, ifs, 0⟩] scope pos) spos) (sAsg i (dLc fi (own.map (·.2)) t c f)) := by
  refine ⟨⟨fun pins s σ H D I q => (ps_setLc (te := tD X W0 f) (tt := tT X W0 c) kx.calm kx.nd hy hyl hsw hi.pi ok (fun s H C cl fp => (hg s H C cl fp).pg) (fun s H C cl fp => (ht s H C cl fp).pts) (fun s H C cl fp => (he s H C cl fp).pe) hs).run pins s σ H D I ?_⟩⟩
  exact tLc_of (hg s H 0 [] []).ok his σ H _ (tAsg_of D σ H q)
end
end DL

end
section
set_option Elab.async false
set_option linter.all false
set_option maxRecDepth 100000
set_option maxHeartbeats 4000000
/-! DIter: enumerate and zip over lists, tuples, texts. -/
namespace DL
open PySem PySem.Spec PyProof.Rows L2
variable [Tb]

/-- what is drawn from: a list, a tuple, a text -/
inductive So where
  | l (a : Addr) | t (a : Addr) | s (x : Str) (tk : Tok)
def So.val : So → Value
  | .l a => .ref a
  | .t a => .ref a
  | .s x tk => .str x tk
def So.has (H : Hp) : So → List V → Prop
  | .l a, xs => H a = some (.lst xs)
  | .t a, xs => H a = some (.tup xs)
  | .s x _, xs => xs = x.cps.toList.map fun c => V.str ⟨#[c]⟩
/-- its iterator's object at the start -/
def So.obj : So → Obj
  | .l a => { cls := .type "list_iterator", data := .fields #[.ref a, .int 0 0] }
  | .t a => { cls := .type "tuple_iterator", data := .fields #[.ref a, .int 0 0] }
  | .s x tk => { cls := .type (strIterType x), data := .fields #[.str x tk, .int 0 0] }
/-- its iterator at it, behind i items -/
def So.at_ (it : Addr) : So → Nat → Heap → Prop
  | .l a, i, h => h.IsListIter it a i
  | .t a, i, h => h.IsTupleIter it a i
  | .s x tk, i, h => h.IsStrIter it (strIterType x) x tk i
/-- what a draw leans on -/
def So.fp (it : Addr) : So → List Addr
  | .l a => [it, a]
  | .t a => [it, a]
  | .s _ _ => [it]
def So.home : So → Option Addr
  | .l a => some a
  | .t a => some a
  | .s _ _ => none
theorem So.inj {H : Hp} {o : So} {xs ys : List V} (h1 : o.has H xs) (h2 : o.has H ys) : xs = ys := by
  cases o with
  | l a => have h1 : H a = _ := h1; have h2 : H a = _ := h2; rw [h1] at h2; cases h2; rfl
  | t a => have h1 : H a = _ := h1; have h2 : H a = _ := h2; rw [h1] at h2; cases h2; rfl
  | s x t => exact (show xs = _ from h1).trans (show ys = _ from h2).symm
theorem So.begin {it : Addr} {o : So} {h : Heap} (e : h.get? it = some o.obj) : o.at_ it 0 h := by
  cases o with
  | l a => exact ⟨_, e, rfl, rfl⟩
  | t a => exact ⟨_, e, rfl, rfl⟩
  | s x t => exact ⟨_, e, rfl, rfl⟩
theorem So.stay {it : Addr} {o : So} {i : Nat} {h h' : Heap} (st : o.at_ it i h) (k : ∀ ob, h.get? it = some ob → h'.get? it = some ob) : o.at_ it i h' := by
  cases o with
  | l a => exact Heap.IsListIter.at st k
  | t a => exact Heap.IsTupleIter.at st k
  | s x t => obtain ⟨ob, e, r⟩ := st; exact ⟨ob, k ob e, r⟩
theorem So.live {it : Addr} {o : So} {i : Nat} {h : Heap} (st : o.at_ it i h) : ∃ ob, h.get? it = some ob ∧ ∀ v, ob.data ≠ .cell v := by
  cases o with
  | l a => obtain ⟨ob, e, _, d⟩ := st; exact ⟨ob, e, fun v q => by rw [d] at q; cases q⟩
  | t a => obtain ⟨ob, e, _, d⟩ := st; exact ⟨ob, e, fun v q => by rw [d] at q; cases q⟩
  | s x t => obtain ⟨ob, e, _, d⟩ := st; exact ⟨ob, e, fun v q => by rw [d] at q; cases q⟩
/-- the item as a value, by the heap -/
def So.itm (h : Heap) (o : So) (xs : List V) (i : Nat) (v : Value) : Prop := ∃ x, xs[i]? = some x ∧ RelV x v
section
variable {X : Cx} {pins : List (Addr × Obj)} {σ : L2.St} {H : Hp} {s : Shared}
/-- the draws of a source that H tells of -/
theorem So.draws (I : Inv X pins σ H s) (A : Around) (hh : A.handled = none) (o : So) (it : Addr) (hit : H it = none) {xs : List V} (hx : o.has H xs) :
    ∃ (St : Nat → Heap → Prop), Draws X.prog X.w A it (o.fp it) xs.length (fun i v => ∃ x, xs[i]? = some x ∧ RelV x v) St ∧ (∀ i, o.at_ it i s.heap → St i s.heap) ∧ (∀ i h, St i h → o.at_ it i h) := by
  cases o with
  | l a =>
    obtain ⟨_, its, n, r, e⟩ := I.hok a _ hx
    have hl : s.heap.IsList a its.toArray := ⟨_, e, rfl, n, rfl⟩
    have ne : a ≠ it := fun z => by
      have hx' : H a = _ := hx
      rw [z, hit] at hx'; cases hx'
    have D := Draws.list (prog := X.prog) (w := X.w) (A := A) hh it a ne its.toArray
    have hz : its.toArray.size = xs.length := by rw [List.size_toArray, r.length]
    rw [hz] at D
    refine ⟨_, ⟨D.live, D.frame, fun i t Q E hi st hQ => D.item i t Q E hi st fun v h' tk hP => hQ v h' tk ?_, D.done⟩, fun i st => ⟨st, hl⟩, fun i h st => st.1⟩
    obtain ⟨x, hx1, rx⟩ : ∃ x, xs[i]? = some x ∧ RelV x v := by
      have hP : its.toArray[i]? = some v := hP
      have hi2 : i < xs.length := hi
      obtain ⟨u, hu, ru⟩ := r.get (i := i) (x := xs[i]) (by simp [hi2])
      refine ⟨xs[i], by simp [hi2], ?_⟩
      rw [List.getElem?_toArray] at hP
      rw [hu] at hP; cases hP; exact ru
    exact ⟨x, hx1, rx⟩
  | t a =>
    obtain ⟨_, its, r, p⟩ := I.hok a _ hx
    have hl : s.heap.IsTuple a its.toArray := p
    have ne : a ≠ it := fun z => by
      have hx' : H a = _ := hx
      rw [z, hit] at hx'; cases hx'
    have D := Draws.tuple (prog := X.prog) (w := X.w) (A := A) hh it a ne its.toArray
    have hz : its.toArray.size = xs.length := by rw [List.size_toArray, r.length]
    rw [hz] at D
    refine ⟨_, ⟨D.live, D.frame, fun i t Q E hi st hQ => D.item i t Q E hi st fun v h' tk hP => hQ v h' tk ?_, D.done⟩, fun i st => ⟨st, hl⟩, fun i h st => st.1⟩
    have hP : its.toArray[i]? = some v := hP
    have hi2 : i < xs.length := hi
    obtain ⟨u, hu, ru⟩ := r.get (i := i) (x := xs[i]) (by simp [hi2])
    refine ⟨xs[i], by simp [hi2], ?_⟩
    rw [List.getElem?_toArray] at hP
    rw [hu] at hP; cases hP; exact ru
  | s x tk =>
    have D := Draws.text (prog := X.prog) (w := X.w) (A := A) hh it x tk
    have hx : xs = _ := hx
    have hz : x.cps.size = xs.length := by rw [hx]; simp
    rw [hz] at D
    refine ⟨_, ⟨D.live, D.frame, fun i t Q E hi st hQ => D.item i t Q E hi st fun v h' tk hP => hQ v h' tk ?_, D.done⟩, fun i st => st, fun i h st => st⟩
    obtain ⟨c, u, hc, rfl⟩ := hP
    refine ⟨.str ⟨#[c]⟩, ?_, u, rfl⟩
    rw [hx, List.getElem?_map, Array.getElem?_toList, hc]; rfl
end

/-! ### enumerate -/
theorem meets_enum1 {v : Value} {o : Obj} {Hq : Heap → Prop} (B : Begins v o Hq) :
    Meets (Builtin.«enumerate.__new__» ⟨[.type "enumerate", v], []⟩) (fun _ R s => Hq s.heap ∧
      R (.ok (.ret (.ref (s.heap.push o).objs.size))) { s with heap := (s.heap.push o).push { cls := .type "enumerate", data := .fields #[.none, .bool false, .ref s.heap.objs.size, rawInt 0, .none, .none] } }) :=
  .of_wp fun prog w A R s h => by
    obtain ⟨h0, gs, dr, tk, os⟩ := s
    obtain ⟨hq, hr⟩ := h
    have hsub := sub_enumerate
    have it1 : ∀ {A' : Around} {E : Value → Shared → Prop} {Q : Value → Shared → Prop}, Q (.ref h0.objs.size) ⟨h0.push o, gs, dr, tk, os⟩ → wpAny (model prog w) A' (pyIter v) Q E ⟨h0, gs, dr, tk, os⟩ :=
      fun z => B.iter prog w _ _ ⟨h0, gs, dr, tk, os⟩ _ hq z
    wp_walk using it1
    refine wpAny_stack_any fun st => wpAny_pure ?_
    split
    · rename_i c _ _ _ _ _
      cases (c == Value.type "enumerate") <;> (wp_walk using it1; exact ⟨_, rfl, hr⟩)
    · wp_walk using it1
      exact ⟨_, rfl, hr⟩
section
variable {prog : Program} {w : World} {A : Around} {E : Value → Shared → Prop} {s : Shared}
theorem enum_begins1 {v : Value} {o : Obj} {Hq : Heap → Prop} {Q : Value → Shared → Prop} (B : Begins v o Hq) (h1 : Hq s.heap)
    (h : ∀ h', IsEnum h' (s.heap.objs.size + 1) s.heap.objs.size 0 .none → h'.get? s.heap.objs.size = some o → (∀ b u, s.heap.get? b = some u → h'.get? b = some u) → Q (.ref (s.heap.objs.size + 1)) { s with heap := h' }) :
    wpAny (model prog w) A (PySem.call (.type "enumerate") [v]) Q E s := by
  refine callType_new F.called_enumerate (by decide) (F.typeCall_enumerate_1 _) (F.newCall_enumerate_1 _) (fun obj => F.args_object_init_2 obj _) F.entry_enumerate_new (meets_enum1 B) ⟨h1, ?_⟩
  have sz : (s.heap.push o).objs.size = s.heap.objs.size + 1 := Heap.size_push ..
  show _ ∧ _
  rw [sz]
  have en : IsEnum ((s.heap.push o).push { cls := .type "enumerate", data := .fields #[.none, .bool false, .ref s.heap.objs.size, rawInt 0, .none, .none] }) (s.heap.objs.size + 1) s.heap.objs.size 0 .none := by
    have z := Heap.get?_push_size (s.heap.push o) (o := { cls := .type "enumerate", data := .fields #[.none, .bool false, .ref s.heap.objs.size, rawInt 0, .none, .none] }) rfl
    rw [sz] at z
    exact z
  exact ⟨⟨_, en, rfl⟩, h _ en (Heap.get?_push_of_some _ (Heap.get?_push_size _ B.free)) fun b u x => Heap.get?_push_of_some _ (Heap.get?_push_of_some _ x)⟩
end
def ItEn (o : So) : It :=
  ⟨fun i H => ∃ (xs : List V) (x : V), o.has H xs ∧ xs[i]? = some x, fun i H v H' => ∃ T x, v = .ref T ∧ H T = none ∧ H' = upd H T (.tup [.int (i : Nat), x]) ∧ ∀ xs, o.has H xs → xs[i]? = some x, fun i H => ∃ xs : List V, o.has H xs ∧ i = xs.length⟩
theorem turn_en {P : Program} {w : World} {K : PySem.W.Frag} {elts : List Expr} {kk : Nat} {tpos : Pos} (o : So) (e it : Addr) :
    Turn P w K (.Tuple elts kk tpos) (ItEn o) [e, it] e (fun i h => (∃ old, IsEnum h e it ((0 : Int) + (i : Int)) old) ∧ o.at_ it i h ∧ e ≠ it) where
  mem := by simp
  obj := fun i h st b hb => by
    obtain ⟨⟨old, he⟩, hi, _⟩ := st
    rcases List.mem_cons.mp hb with z | z
    · subst z; exact ⟨_, he, fun v q => nomatch q⟩
    · rw [List.mem_singleton.mp z]; exact So.live hi
  keep := fun i h h' st k => let ⟨⟨old, he⟩, hi, hne⟩ := st; ⟨⟨old, k e (by simp) _ he⟩, So.stay hi fun ob q => k it (by simp) ob q, hne⟩
  item := by
    rintro X rfl rfl rfl hc i pins s σ H E I hf ⟨⟨old, he⟩, hit, hne⟩ ⟨xs, x, hq, hx⟩
    obtain ⟨f0, _⟩ := hf it (by simp)
    obtain ⟨fe, _⟩ := hf e (by simp)
    obtain ⟨St, D, hS, hS'⟩ := So.draws I X.A.in1 (I.ok.hd hc) o it f0 hq
    have hefp : e ∉ o.fp it := fun z => by
      cases o with
      | l a => rcases List.mem_cons.mp z with z | z; exact hne z; rw [List.mem_singleton] at z; have hq' : H a = _ := hq; rw [← z, fe] at hq'; cases hq'
      | t a => rcases List.mem_cons.mp z with z | z; exact hne z; rw [List.mem_singleton] at z; have hq' : H a = _ := hq; rw [← z, fe] at hq'; cases hq'
      | s y t => exact hne (List.mem_singleton.mp z)
    have hifp : it ∈ o.fp it := by cases o <;> simp [So.fp]
    have hlt : i < xs.length := (List.getElem?_eq_some_iff.mp hx).1
    refine (GoesN.enumFrom 0 D e hne hefp hifp).goes i s _ E hlt ⟨⟨old, he⟩, hS i hit⟩ ?_
    rintro v h' tk ⟨T, t, u, rfl, hT, ⟨x', hx', ru⟩, hTu⟩ ⟨he', hst'⟩ hk _
    rw [hx] at hx'; cases hx'
    have new : ObjOk X.prog X.w (upd H T (.tup [.int (i : Nat), x])) h' T (.tup [.int (i : Nat), x]) :=
      ⟨by show 2 ≤ sizeLine; decide, [.int ((0 : Int) + (i : Int)) t, u], .cons ⟨t, by rw [Int.zero_add]⟩ (.cons ru .nil), hTu⟩
    have hTn : H T = none := I.hok.fresh hT
    have I1 : Inv X pins σ (upd H T (.tup [.int (i : Nat), x])) { s with heap := h', toks := tk } := I.turnedNew (ch := [e, it]) hk hf hT new
    refine ⟨.ref T, _, I1, rfl, ⟨T, x, rfl, hTn, rfl, fun ys hy => by rw [So.inj hy hq]; exact hx⟩, ⟨he', hS' _ _ hst', hne⟩, fun b hb => ?_⟩
    have hb' : b ≠ T := fun z => by
      subst z
      obtain ⟨ob, hob⟩ : ∃ ob, s.heap.get? b = some ob := by
        rcases List.mem_cons.mp hb with z | z
        · rw [z]; exact ⟨_, he⟩
        · rw [List.mem_singleton.mp z]; exact let ⟨ob, q, _⟩ := So.live hit; ⟨ob, q⟩
      exact absurd (Nat.lt_of_lt_of_le (Heap.lt_size hob) hT) (Nat.lt_irrefl _)
    rw [upd_ne hb']
    exact (hf b hb).1
  done := by
    rintro X rfl rfl rfl hc i pins s σ H E I hf ⟨⟨old, he⟩, hit, hne⟩ ⟨xs, hq, rfl⟩
    obtain ⟨f0, _⟩ := hf it (by simp)
    obtain ⟨fe, _⟩ := hf e (by simp)
    obtain ⟨St, D, hS, hS'⟩ := So.draws I X.A.in1 (I.ok.hd hc) o it f0 hq
    have hefp : e ∉ o.fp it := fun z => by
      cases o with
      | l a => rcases List.mem_cons.mp z with z | z; exact hne z; rw [List.mem_singleton] at z; have hq' : H a = _ := hq; rw [← z, fe] at hq'; cases hq'
      | t a => rcases List.mem_cons.mp z with z | z; exact hne z; rw [List.mem_singleton] at z; have hq' : H a = _ := hq; rw [← z, fe] at hq'; cases hq'
      | s y t => exact hne (List.mem_singleton.mp z)
    have hifp : it ∈ o.fp it := by cases o <;> simp [So.fp]
    exact (GoesN.enumFrom (elts := elts) (x1 := kk) (pos := tpos) 0 D e hne hefp hifp).stops s _ E ⟨⟨old, he⟩, hS _ hit⟩ fun h' tk hk _ => I.turnedL (ch := [e, it]) (t' := tk) hk hf
  self := fun A i s Q E st h => let ⟨⟨_, he⟩, _⟩ := st; wpAny_pyIter_enum he h
section
variable {X : Cx} {W : WX} {e e2 : Expr} {es : List Expr} {fa : DArg} {p pos tpos : Pos} {elts : List Expr} {kk : Nat}
theorem so_begins (o : So) {H : Hp} {xs : List V} {pins : List (Addr × Obj)} {σ : L2.St} {s : Shared} (I : Inv X pins σ H s) (hx : o.has H xs) : ∃ Hq, Begins o.val o.obj Hq ∧ Hq s.heap := by
  cases o with
  | l a =>
    obtain ⟨_, its, n, r, eo⟩ := I.hok a _ hx
    exact ⟨_, begins_list a its.toArray, ⟨_, eo, rfl, n, rfl⟩⟩
  | t a =>
    obtain ⟨_, its, r, pt⟩ := I.hok a _ hx
    exact ⟨_, begins_tuple a its.toArray, pt⟩
  | s x t => exact ⟨_, begins_text x t, trivial⟩
/-- data that can be drawn from, and the source -/
theorem so_of {n : Nat} {F H : Hp} {v : V} {u : Value} {d : D} (s : ∀ b o, F b = some o → H b = some o) (r : Rep X.K X.mg n F v d) (ru : RelV v u) {E : D → Nat → Prop} {P : List D → Nat → Prop} (h : (itemsOf d).run n P E) :
    ∃ (o : So) (xs : List V) (ds : List D), o.val = u ∧ o.has F xs ∧ o.has H xs ∧ Reps X.K X.mg n F xs ds ∧ P ds n := by
  unfold itemsOf at h
  split at h
  · cases r with
    | lst e r => cases ru; exact ⟨.l _, _, _, rfl, e, s _ _ e, r, h⟩
  · cases r with
    | tup e r => cases ru; exact ⟨.t _, _, _, rfl, e, s _ _ e, r, h⟩
  · rename_i x
    cases r
    obtain ⟨t, rfl⟩ := ru
    refine ⟨.s x t, _, _, rfl, rfl, rfl, ?_, h⟩
    generalize x.cps.toList = l
    induction l with
    | nil => exact .nil
    | cons c l ih => exact .cons (.str _) ih
  · exact h.elim
theorem so_grow {n n2 : Nat} {F F2 : Hp} (g : Grow n F n2 F2) {o : So} {xs : List V} (h : o.has F xs) : o.has F2 xs := by
  cases o with
  | l a => exact g.obj _ _ h not_rng_lst
  | t a => exact g.obj _ _ h not_rng_tup
  | s x t => exact h
theorem so_sub {F H : Hp} (s : ∀ b o, F b = some o → H b = some o) {o : So} {xs : List V} (h : o.has F xs) : o.has H xs := by
  cases o with
  | l a => exact s _ _ h
  | t a => exact s _ _ h
  | s x t => exact h
def pairsD (ds es : List D) : List D := (List.zip ds es).map fun p => .tup [p.1, p.2]
def enumD (ds : List D) : List D := ds.zipIdx.map fun p => .tup [.int (p.2 : Nat), p.1]
def iEn (fa : DArg) : DIt := fun env => bnd (fa env) fun ds => match ds with
  | [d] => bnd (itemsOf d) fun l => ret (enumD l)
  | _ => stuck
theorem walk_en {n : Nat} {F : Hp} {o : So} {xs : List V} {ds : List D} (h : o.has F xs) (r : Reps X.K X.mg n F xs ds) : WalkD X (ItEn o) n F (enumD ds) := fun i n2 F2 H2 g s => by
  have h2 : o.has H2 xs := so_sub s (so_grow g h)
  refine ⟨fun d hd => ?_, fun e => ⟨xs, h2, by rw [e, r.length]; simp [enumD]⟩⟩
  unfold enumD at hd
  rw [List.getElem?_map, List.getElem?_zipIdx] at hd
  cases e1 : ds[i]? with
  | none => rw [e1] at hd; cases hd
  | some d1 =>
    rw [e1] at hd
    simp only [Option.map_some, Option.some.injEq, Nat.zero_add] at hd
    subst hd
    obtain ⟨v, hv, rv⟩ := r.get e1
    refine ⟨⟨xs, v, h2, hv⟩, fun x H3 y => ?_⟩
    obtain ⟨T, x', rfl, hT, rfl, hx⟩ := y
    have e2 := hx xs h2
    rw [hv] at e2
    cases e2
    exact ⟨_, Step.new s hT, Step.newTup s hT (.cons (.int _) (.one (rv.grow g)))⟩
theorem di_en (hm : X.mg "enumerate" = none) (ha : DA X W [e] fa) (hg : Gl X "enumerate" := by rfl) (hs : starEach [e] X.env = [(false, eval e X.env)] := by rfl) : DI X W (.Tuple elts kk tpos) (.Call (.Name "enumerate" p) [e] [] pos) (iEn fa) := by
  refine ⟨⟨fun pins s σ H R I h => ?_⟩⟩
  obtain ⟨B, n, F, env, S, h⟩ := h
  have hA : tA X W fa σ H (fun vs H1 => ∃ v, vs = [v] ∧ ∀ u, RelV v u → ∃ (o : So) (xs : List V), o.val = u ∧ o.has H1 xs ∧ R (ItEn o) H1) := tA.go S h fun ds n1 vs F1 H1 q t r S1 => by
    match ds, r, q with
    | [d], .cons r1 .nil, q =>
      refine ⟨_, rfl, fun u ru => ?_⟩
      obtain ⟨o, xs, es, e1, h1, h2, rs, q2⟩ := so_of S1.sub r1 ru q
      exact ⟨o, xs, e1, h2, q2 _ F1 H1 t (walk_en h1 rs)⟩
  refine Call_ (ld_blt I hg hm boot_enumerate (PyProof.Rows.callWith_type1 (thn (ha.pa.run pos pins s σ H _ I hA) fun us s1 ⟨vs, H1, I1, r1, q1⟩ => ?_) hs rfl))
  obtain ⟨v, rfl, q1⟩ := q1
  cases r1 with
  | cons rv rn =>
    cases rn
    obtain ⟨o, xs, rfl, hx, q⟩ := q1 _ rv
    obtain ⟨Hq, Bg, hq⟩ := so_begins o I1 hx
    refine enum_begins1 Bg hq fun h' he hit hk => wpAny_pyIter_enum he ?_
    have I2 : Inv X pins σ H1 { s1 with heap := h' } := I1.kept (t' := s1.toks) hk
    refine ⟨s1.heap.objs.size + 1, [s1.heap.objs.size + 1, s1.heap.objs.size], _, _, H1, rfl, I2, turn_en o (s1.heap.objs.size + 1) s1.heap.objs.size, ⟨⟨.none, he⟩, So.begin hit, Nat.succ_ne_self _⟩, fun b hb => ?_, q⟩
    have le : s1.heap.objs.size ≤ b := by
      rcases List.mem_cons.mp hb with z | z
      · rw [z]; exact Nat.le_succ _
      · rw [List.mem_singleton.mp z]; exact Nat.le_refl _
    exact I1.fpOk le (I1.hok.fresh le)
end

/-! ### zip of two -/
def ItZ2 (o1 o2 : So) : It :=
  ⟨fun i H => ∃ (xs ys : List V) (x y : V), o1.has H xs ∧ o2.has H ys ∧ xs[i]? = some x ∧ ys[i]? = some y,
    fun i H v H' => ∃ T x y, v = .ref T ∧ H T = none ∧ H' = upd H T (.tup [x, y]) ∧ (∀ xs, o1.has H xs → xs[i]? = some x) ∧ ∀ ys, o2.has H ys → ys[i]? = some y,
    fun i H => ∃ xs ys : List V, o1.has H xs ∧ o2.has H ys ∧ i = min xs.length ys.length⟩
structure Apart (z TI TO i1 i2 : Addr) : Prop where
  a1 : TI ≠ z
  a2 : TO ≠ z
  a3 : TI ≠ TO
  a4 : TI ≠ i1
  a5 : TI ≠ i2
  a6 : z ≠ i1
  a7 : z ≠ i2
  a8 : TO ≠ i1
  a9 : TO ≠ i2
  a10 : i1 ≠ i2
theorem so_out {H : Hp} {o : So} {xs : List V} {it b : Addr} (h : o.has H xs) (hb : H b = none) (hne : b ≠ it) : b ∉ o.fp it := fun z => by
  cases o with
  | l a => rcases List.mem_cons.mp z with z | z; exact hne z; rw [List.mem_singleton] at z; have hq' : H a = _ := h; rw [← z, hb] at hq'; cases hq'
  | t a => rcases List.mem_cons.mp z with z | z; exact hne z; rw [List.mem_singleton] at z; have hq' : H a = _ := h; rw [← z, hb] at hq'; cases hq'
  | s y t => exact hne (List.mem_singleton.mp z)
theorem so_in (o : So) (it : Addr) : it ∈ o.fp it := by cases o <;> simp [So.fp]
theorem turn_z2 {P : Program} {w : World} {K : PySem.W.Frag} {elts : List Expr} {kk : Nat} {tpos : Pos} (o1 o2 : So) {z TI TO i1 i2 : Addr} (ap : Apart z TI TO i1 i2) :
    Turn P w K (.Tuple elts kk tpos) (ItZ2 o1 o2) [z, TI, TO, i1, i2] z (fun i h => IsZip h z TI TO .none ∧ IsTupOf2 h TI (.ref i1) (.ref i2) ∧ (∃ a1 a2, IsTupOf2 h TO a1 a2) ∧ o1.at_ i1 i h ∧ o2.at_ i2 i h) where
  mem := by simp
  obj := fun i h st b hb => by
    obtain ⟨hz, hTI, ⟨x, y, hTO⟩, h1, h2⟩ := st
    simp only [List.mem_cons, List.not_mem_nil, or_false] at hb
    rcases hb with q | q | q | q | q
    · subst q; exact ⟨_, hz, fun v q => nomatch q⟩
    · subst q; exact ⟨_, hTI, fun v q => nomatch q⟩
    · subst q; exact ⟨_, hTO, fun v q => nomatch q⟩
    · subst q; exact So.live h1
    · subst q; exact So.live h2
  keep := fun i h h' st k => by
    obtain ⟨hz, hTI, ⟨x, y, hTO⟩, h1, h2⟩ := st
    exact ⟨k z (by simp) _ hz, k TI (by simp) _ hTI, ⟨x, y, k TO (by simp) _ hTO⟩, So.stay h1 fun ob q => k i1 (by simp) ob q, So.stay h2 fun ob q => k i2 (by simp) ob q⟩
  item := by
    rintro X rfl rfl rfl hc i pins s σ H E I hf ⟨hz, hTI, hTO, h1, h2⟩ ⟨xs, ys, x, y, hqx, hqy, hx, hy⟩
    obtain ⟨f1, _⟩ := hf i1 (by simp)
    obtain ⟨f2, _⟩ := hf i2 (by simp)
    obtain ⟨fz, _⟩ := hf z (by simp)
    obtain ⟨fo, _⟩ := hf TO (by simp)
    obtain ⟨fi, _⟩ := hf TI (by simp)
    obtain ⟨St1, D1, hS1, hS1'⟩ := So.draws I X.A.in1 (I.ok.hd hc) o1 i1 f1 hqx
    obtain ⟨St2, D2, hS2, hS2'⟩ := So.draws I X.A.in1 (I.ok.hd hc) o2 i2 f2 hqy
    have sep : ZipSep2 z TI TO i1 i2 (o1.fp i1) (o2.fp i2) := ⟨ap.a1, ap.a2, ap.a3, ap.a4, so_in _ _, so_out hqx fz ap.a6, so_out hqx fo ap.a8, ap.a5, so_in _ _, so_out hqy fz ap.a7, so_out hqy fo ap.a9, so_out hqy f1 ap.a10, so_out hqx f2 (Ne.symm ap.a10)⟩
    have hlt : i < min xs.length ys.length := by
      have l1 := (List.getElem?_eq_some_iff.mp hx).1
      have l2 := (List.getElem?_eq_some_iff.mp hy).1
      omega
    refine (GoesN.zip2 sep D1 D2).goes i s _ E hlt ⟨hz, hTI, hTO, hS1 i h1, hS2 i h2⟩ ?_
    rintro v h' tk ⟨T, u1, u2, rfl, hT, ⟨x', hx', ru1⟩, ⟨y', hy', ru2⟩, hTu⟩ ⟨hz', hTI', hTO', st1', st2'⟩ hk _
    rw [hx] at hx'; cases hx'
    rw [hy] at hy'; cases hy'
    have new : ObjOk X.prog X.w (upd H T (.tup [x, y])) h' T (.tup [x, y]) := ⟨by show 2 ≤ sizeLine; decide, [u1, u2], .cons ru1 (.cons ru2 .nil), hTu⟩
    have I1 : Inv X pins σ (upd H T (.tup [x, y])) { s with heap := h', toks := tk } := I.turnedNew (ch := [z, TO, i1, i2]) hk (fun b hb => hf b (by
      simp only [List.mem_cons, List.not_mem_nil, or_false] at hb ⊢
      rcases hb with q | q | q | q <;> simp [q])) hT new
    refine ⟨.ref T, _, I1, rfl, ⟨T, x, y, rfl, I.hok.fresh hT, rfl, fun l hl => by rw [So.inj hl hqx]; exact hx, fun l hl => by rw [So.inj hl hqy]; exact hy⟩, ⟨hz', hTI', hTO', hS1' _ _ st1', hS2' _ _ st2'⟩, fun b hb => ?_⟩
    have hb' : b ≠ T := fun q => by
      obtain ⟨ob, hob⟩ : ∃ ob, s.heap.get? b = some ob := by
        simp only [List.mem_cons, List.not_mem_nil, or_false] at hb
        obtain ⟨a1, a2, hTO⟩ := hTO
        rcases hb with q | q | q | q | q
        · subst q; exact ⟨_, hz⟩
        · subst q; exact ⟨_, hTI⟩
        · subst q; exact ⟨_, hTO⟩
        · subst q; exact let ⟨ob, r, _⟩ := So.live h1; ⟨ob, r⟩
        · subst q; exact let ⟨ob, r, _⟩ := So.live h2; ⟨ob, r⟩
      rw [q] at hob
      exact absurd (Nat.lt_of_lt_of_le (Heap.lt_size hob) hT) (Nat.lt_irrefl _)
    rw [upd_ne hb']
    exact (hf b hb).1
  done := by
    rintro X rfl rfl rfl hc i pins s σ H E I hf ⟨hz, hTI, hTO, h1, h2⟩ ⟨xs, ys, hqx, hqy, rfl⟩
    obtain ⟨f1, _⟩ := hf i1 (by simp)
    obtain ⟨f2, _⟩ := hf i2 (by simp)
    obtain ⟨fz, _⟩ := hf z (by simp)
    obtain ⟨fo, _⟩ := hf TO (by simp)
    obtain ⟨St1, D1, hS1, hS1'⟩ := So.draws I X.A.in1 (I.ok.hd hc) o1 i1 f1 hqx
    obtain ⟨St2, D2, hS2, hS2'⟩ := So.draws I X.A.in1 (I.ok.hd hc) o2 i2 f2 hqy
    have sep : ZipSep2 z TI TO i1 i2 (o1.fp i1) (o2.fp i2) := ⟨ap.a1, ap.a2, ap.a3, ap.a4, so_in _ _, so_out hqx fz ap.a6, so_out hqx fo ap.a8, ap.a5, so_in _ _, so_out hqy fz ap.a7, so_out hqy fo ap.a9, so_out hqy f1 ap.a10, so_out hqx f2 (Ne.symm ap.a10)⟩
    exact (GoesN.zip2 (elts := elts) (x1 := kk) (pos := tpos) sep D1 D2).stops s _ E ⟨hz, hTI, hTO, hS1 _ h1, hS2 _ h2⟩ fun h' tk hk _ => I.turnedL (ch := [z, TO, i1, i2]) (t' := tk) hk fun b hb => hf b (by
      simp only [List.mem_cons, List.not_mem_nil, or_false] at hb ⊢
      rcases hb with q | q | q | q <;> simp [q])
  self := fun A i s Q E st h => wpAny_pyIter_zip st.1 h
section
variable {X : Cx} {W : WX} {e e2 : Expr} {fa : DArg} {p pos tpos : Pos} {elts : List Expr} {kk : Nat}
def iZ2 (fa : DArg) : DIt := fun env => bnd (fa env) fun ds => match ds with
  | [d, d'] => bnd (itemsOf d) fun l => bnd (itemsOf d') fun l' => ret (pairsD l l')
  | _ => stuck
theorem walk_z2 {n : Nat} {F : Hp} {o1 o2 : So} {xs ys : List V} {ds es : List D} (h1 : o1.has F xs) (r1 : Reps X.K X.mg n F xs ds) (h2 : o2.has F ys) (r2 : Reps X.K X.mg n F ys es) : WalkD X (ItZ2 o1 o2) n F (pairsD ds es) := fun i n2 F2 H2 g s => by
  have q1 : o1.has H2 xs := so_sub s (so_grow g h1)
  have q2 : o2.has H2 ys := so_sub s (so_grow g h2)
  refine ⟨fun d hd => ?_, fun e => ⟨xs, ys, q1, q2, by rw [e, r1.length, r2.length]; simp [pairsD]⟩⟩
  unfold pairsD at hd
  rw [List.getElem?_map] at hd
  cases e1 : (List.zip ds es)[i]? with
  | none => rw [e1] at hd; cases hd
  | some pr =>
    rw [e1] at hd
    simp only [Option.map_some, Option.some.injEq] at hd
    subst hd
    obtain ⟨d1, d2⟩ := pr
    have e2 := List.getElem?_zip_eq_some.mp e1
    obtain ⟨v1, hv1, rv1⟩ := r1.get e2.1
    obtain ⟨v2, hv2, rv2⟩ := r2.get e2.2
    refine ⟨⟨xs, ys, v1, v2, q1, q2, hv1, hv2⟩, fun x H3 y => ?_⟩
    obtain ⟨T, x', y', rfl, hT, rfl, hx, hy⟩ := y
    have e3 := hx xs q1
    have e4 := hy ys q2
    rw [hv1] at e3; rw [hv2] at e4
    cases e3; cases e4
    exact ⟨_, Step.new s hT, Step.newTup s hT (.cons (rv1.grow g) (.one (rv2.grow g)))⟩
theorem di_z2 (hm : X.mg "zip" = none) (ha : DA X W [e, e2] fa) (hg : Gl X "zip" := by rfl) (hs : starEach [e, e2] X.env = (false, eval e X.env) :: starEach [e2] X.env := by rfl) (hpl : (backTo pos (starEach [e2] X.env)).any (·.1) = false := by rfl) :
    DI X W (.Tuple elts kk tpos) (.Call (.Name "zip" p) [e, e2] [] pos) (iZ2 fa) := by
  refine ⟨⟨fun pins s σ H R I h => ?_⟩⟩
  obtain ⟨B, n, F, env, S, h⟩ := h
  have hA : tA X W fa σ H (fun vs H1 => ∃ v v', vs = [v, v'] ∧ ∀ u u', RelV v u → RelV v' u' → ∃ (o o' : So) (xs ys : List V), o.val = u ∧ o'.val = u' ∧ o.has H1 xs ∧ o'.has H1 ys ∧ R (ItZ2 o o') H1) := tA.go S h fun ds n1 vs F1 H1 q t r S1 => by
    match ds, r, q with
    | [d, d'], .cons r1 (.cons r2 .nil), q =>
      refine ⟨_, _, rfl, fun u u' ru ru' => ?_⟩
      obtain ⟨o, xs, es, e1, h1, h2, rs, q2⟩ := so_of S1.sub r1 ru q
      obtain ⟨o', ys, es', e1', h1', h2', rs', q2'⟩ := so_of S1.sub r2 ru' q2
      exact ⟨o, o', xs, ys, e1, e1', h2, h2', q2' _ F1 H1 t (walk_z2 h1 rs h1' rs')⟩
  refine Call_ (ld_blt I hg hm PyProof.Rows.boot_zip (PyProof.Rows.callWith_type1 (thn (ha.pa.run pos pins s σ H _ I hA) fun us s1 ⟨vs, H1, I1, r1, q1⟩ => ?_) hs hpl))
  obtain ⟨v, v', rfl, q1⟩ := q1
  cases r1 with
  | cons rv rn => cases rn with
    | cons rv' rn =>
      cases rn
      obtain ⟨o, o', xs, ys, rfl, rfl, hx, hy, q⟩ := q1 _ _ rv rv'
      obtain ⟨Hq, Bg, hq⟩ := so_begins o I1 hx
      obtain ⟨Hq', Bg', hq'⟩ := so_begins o' I1 hy
      refine zip_begins2 Bg Bg' hq hq' fun h' hz hTI hTO e1 e2 _ hk => wpAny_pyIter_zip hz ?_
      have I2 : Inv X pins σ H1 { s1 with heap := h' } := I1.kept (t' := s1.toks) hk
      have ap : Apart (s1.heap.objs.size + 4) (s1.heap.objs.size + 2) (s1.heap.objs.size + 3) s1.heap.objs.size (s1.heap.objs.size + 1) := by
        generalize s1.heap.objs.size = m
        have hm : ∀ i j : Nat, i ≠ j → (m : Nat) + i ≠ m + j := fun i j h z => h (by omega)
        exact ⟨hm 2 4 (by decide), hm 3 4 (by decide), hm 2 3 (by decide), hm 2 0 (by decide), hm 2 1 (by decide), hm 4 0 (by decide), hm 4 1 (by decide), hm 3 0 (by decide), hm 3 1 (by decide), hm 0 1 (by decide)⟩
      refine ⟨s1.heap.objs.size + 4, [s1.heap.objs.size + 4, s1.heap.objs.size + 2, s1.heap.objs.size + 3, s1.heap.objs.size, s1.heap.objs.size + 1], _, _, H1, rfl, I2, turn_z2 o o' ap, ⟨hz, hTI, ⟨_, _, hTO⟩, So.begin e1, So.begin e2⟩, fun b hb => ?_, q⟩
      have le : s1.heap.objs.size ≤ b := by
        simp only [List.mem_cons, List.not_mem_nil, or_false] at hb
        rcases hb with z | z | z | z | z
        · rw [z]; exact Nat.le_add_right _ _
        · rw [z]; exact Nat.le_add_right _ _
        · rw [z]; exact Nat.le_add_right _ _
        · rw [z]; exact Nat.le_refl _
        · rw [z]; exact Nat.le_add_right _ _
      exact I1.fpOk le (I1.hok.fresh le)
end
end DL

end
section
set_option Elab.async false
set_option linter.all false
set_option maxRecDepth 100000
set_option maxHeartbeats 4000000
/-! DMore: slices with a step; sum, min, max, sorted; join; repr. -/
namespace DL
open PySem PySem.Spec PyProof.Rows L2
variable [Tb]

/-! ### slices with a step -/
def stepV {α : Type} (xs : List α) (lo hi : Option Int) (c : Int) : List α :=
  (List.range (Builtin.Slice.slicePlaces (Builtin.Slice.sliceAdjust lo hi c xs.length).1 (Builtin.Slice.sliceAdjust lo hi c xs.length).2 c)).filterMap fun (m : Nat) => xs[((Builtin.Slice.sliceAdjust lo hi c xs.length).1 + (m : Int) * c).toNat]?
theorem bounds_adjust (lo hi : Option Int) (c : Int) (n : Nat) (h0 : c ≠ 0) : sliceBounds lo hi (some c) n = ((Builtin.Slice.sliceAdjust lo hi c n).1, (Builtin.Slice.sliceAdjust lo hi c n).2, c) := by
  unfold sliceBounds Builtin.Slice.sliceAdjust
  simp only [Option.getD_some]
  by_cases hc : c > 0
  · have hn : ¬ c < 0 := by omega
    simp only [hc, hn, if_true, if_false]
    cases lo <;> cases hi <;> simp only [Prod.mk.injEq, and_true, true_and] <;> (try constructor) <;> split <;> omega
  · have hn : c < 0 := by omega
    simp only [hc, hn, if_true, if_false]
    cases lo <;> cases hi <;> simp only [Prod.mk.injEq, and_true, true_and] <;> (try constructor) <;> split <;> omega
theorem range_places (a b c : Int) (h0 : c ≠ 0) : sliceRange a b c = (List.range (Builtin.Slice.slicePlaces a b c)).map fun (m : Nat) => (a + (m : Int) * c).toNat := by
  unfold sliceRange Builtin.Slice.slicePlaces
  have e : ∀ d k : Int, k ≠ 0 → (d + k - 1) / k = (d - 1) / k + 1 := fun d k hk => by
    rw [show d + k - 1 = (d - 1) + 1 * k by omega, Int.add_mul_ediv_right _ _ hk]
  have f : (fun (k : Nat) => (a + c * (k : Int)).toNat) = fun (m : Nat) => (a + (m : Int) * c).toNat := by
    funext m; rw [Int.mul_comm]
  rw [f]
  by_cases hc : c > 0
  · simp only [hc, if_true]
    by_cases h : a < b
    · simp only [h, if_true]; rw [e _ _ h0]
    · simp only [h, if_false]
  · simp only [hc, if_false]
    by_cases h : a > b
    · simp only [h, if_true]
      rw [show a - b - c - 1 = (a - b) + -c - 1 by omega, e _ _ (by omega)]
    · simp only [h, if_false]
theorem slicePick_step (its : List Value) (lo hi : Option Int) (c : Int) (h0 : c ≠ 0) : slicePick its.toArray lo hi (some c) = (stepV its lo hi c).toArray := by
  unfold slicePick stepV
  rw [List.size_toArray, bounds_adjust lo hi c _ h0]
  simp only
  rw [range_places _ _ _ h0, List.filterMap_map]
  congr 2
  funext m
  simp
theorem stepV_length {α : Type} (xs : List α) (lo hi : Option Int) (c : Int) (h0 : c ≠ 0) : (stepV xs lo hi c).length ≤ xs.length := by
  have h := slicePick_size_le (xs.map fun _ => Value.none).toArray lo hi (some c)
  rw [slicePick_step _ lo hi c h0] at h
  simp only [List.size_toArray, List.length_map] at h
  refine Nat.le_trans (Nat.le_of_eq ?_) h
  unfold stepV
  simp only [List.length_map]
  generalize Builtin.Slice.sliceAdjust lo hi c xs.length = p
  generalize Builtin.Slice.slicePlaces p.1 p.2 c = k
  induction List.range k with
  | nil => rfl
  | cons m ms ih =>
    rw [List.filterMap_cons, List.filterMap_cons]
    simp only [List.getElem?_map]
    cases xs[(p.1 + (m : Int) * c).toNat]? with
    | none => simpa using ih
    | some _ => simpa using ih
section
variable {K : PySem.W.Frag} {mg : Str → Option Value} {n : Nat} {F : Hp}
theorem Reps.getn {vs : List V} {ds : List D} {i : Nat} (r : Reps K mg n F vs ds) : (vs[i]? = none ∧ ds[i]? = none) ∨ ∃ v d, vs[i]? = some v ∧ ds[i]? = some d ∧ Rep K mg n F v d := by
  cases e : ds[i]? with
  | none =>
    refine .inl ⟨?_, rfl⟩
    rw [List.getElem?_eq_none_iff] at e ⊢
    rw [r.length]; exact e
  | some d =>
    obtain ⟨v, h1, h2⟩ := r.get e
    exact .inr ⟨v, d, h1, rfl, h2⟩
theorem Reps.picks {vs : List V} {ds : List D} (r : Reps K mg n F vs ds) (f : Nat → Nat) : ∀ ms : List Nat, Reps K mg n F (ms.filterMap fun m => vs[f m]?) (ms.filterMap fun m => ds[f m]?)
  | [] => .nil
  | m :: ms => by
    rw [List.filterMap_cons, List.filterMap_cons]
    rcases r.getn (i := f m) with ⟨h1, h2⟩ | ⟨v, d, h1, h2, h3⟩
    · rw [h1, h2]; exact Reps.picks r f ms
    · rw [h1, h2]; exact .cons h3 (Reps.picks r f ms)
theorem Reps.stepV {vs : List V} {ds : List D} (r : Reps K mg n F vs ds) (lo hi : Option Int) (c : Int) : Reps K mg n F (stepV vs lo hi c) (stepV ds lo hi c) := by
  unfold DL.stepV
  rw [r.length]
  exact r.picks _ _
end
theorem Vals.picks {vs : List V} {us : List Value} (r : Vals vs us) (f : Nat → Nat) : ∀ ms : List Nat, Vals (ms.filterMap fun m => vs[f m]?) (ms.filterMap fun m => us[f m]?)
  | [] => .nil
  | m :: ms => by
    rw [List.filterMap_cons, List.filterMap_cons]
    cases e : vs[f m]? with
    | none =>
      have e2 : us[f m]? = none := by
        rw [List.getElem?_eq_none_iff] at e ⊢
        rw [← r.length]; exact e
      rw [e2]; exact Vals.picks r f ms
    | some x =>
      obtain ⟨u, hu, ru⟩ := r.get e
      rw [hu]; exact .cons ru (Vals.picks r f ms)
theorem Vals.stepV {vs : List V} {us : List Value} (r : Vals vs us) (lo hi : Option Int) (c : Int) : Vals (stepV vs lo hi c) (stepV us lo hi c) := by
  unfold DL.stepV
  rw [r.length]
  exact Vals.picks r _ _
section
variable {prog : Program} {w : World} {A : Around} {E : Value → Shared → Prop} {s : Shared}
theorem sliceApplied_step {sl : Addr} {vl vu vc : Value} {lo hi : Option Int} {c : Int} {n : Nat} {Q : Int × Int × Nat → Shared → Prop} (hs : s.heap.IsSliceOf sl vl vu vc) (pl : IsPart vl lo) (pu : IsPart vu hi) (pc : IsPart vc (some c)) (h0 : c ≠ 0)
    (h : Q ((Builtin.Slice.sliceAdjust lo hi c n).1, c, Builtin.Slice.slicePlaces (Builtin.Slice.sliceAdjust lo hi c n).1 (Builtin.Slice.sliceAdjust lo hi c n).2 c) s) : wpAny (model prog w) A (Builtin.Slice.sliceApplied (.ref sl) (pure (n : Int))) Q E s := by
  obtain ⟨os, hos, hcs, hds⟩ := id hs
  unfold Builtin.Slice.sliceApplied Builtin.Slice.sliceFields
  refine wpAny_bind (wpAny_bind (wpAny_field hos hds (x := vl) rfl (wpAny_bind (wpAny_field hos hds (x := vu) rfl (wpAny_bind (wpAny_field hos hds (x := vc) rfl (wpAny_pure ?_)))))))
  refine wpAny_bind (HT.slicePart_ pc ?_)
  have hb : ¬ ((c == 0) = true) := by simpa using h0
  show wpAny _ _ (if (c == 0) = true then _ else _) _ _ s
  rw [if_neg hb]
  exact wpAny_bind (HT.slicePart_ pl (wpAny_bind (HT.slicePart_ pu (wpAny_bind (wpAny_pure (wpAny_pure h))))))
theorem tup_step {t sl : Addr} {items : Array Value} {vl vu vc : Value} {lo hi : Option Int} {c : Int} {Q : Value → Shared → Prop} (ht : IsTup s.heap t items) (hs : s.heap.IsSliceOf sl vl vu vc) (pl : IsPart vl lo) (pu : IsPart vu hi) (pc : IsPart vc (some c)) (h0 : c ≠ 0) (h1 : c ≠ 1)
    (h : Q (.ref s.heap.objs.size) { s with heap := s.heap.push { cls := .type "tuple", data := .seq (stepV items.toList lo hi c).toArray } })
    (hsz : items.size ≤ sizeLine) : wpAny (model prog w) A (getItem (.ref t) (.ref sl)) Q E s := by
  have hle := stepV_length items.toList lo hi c h0
  have htake : sizeOk (.seq (stepV items.toList lo hi c).toArray) := by
    show (stepV items.toList lo hi c).toArray.size ≤ sizeLine
    rw [List.size_toArray]
    rw [Array.length_toList] at hle
    exact Nat.le_trans hle hsz
  have e : ((List.range (Builtin.Slice.slicePlaces (Builtin.Slice.sliceAdjust lo hi c items.size).1 (Builtin.Slice.sliceAdjust lo hi c items.size).2 c)).filterMap fun (m : Nat) => items[((Builtin.Slice.sliceAdjust lo hi c items.size).1 + (m : Int) * c).toNat]?).toArray = (stepV items.toList lo hi c).toArray := by
    unfold stepV
    rw [Array.length_toList]
    congr 2
    funext m
    rw [Array.getElem?_toList]
  obtain ⟨os, hos, hcs, hds⟩ := id hs
  have hTs : s.TypeIs (.ref sl) "slice" := ⟨os, hos, hcs⟩
  unfold getItem
  try with_reducible refine wpAny_holding ?_
  first | refine wpAny_bind (wpAny_pure ?_) | skip
  refine wpAny_bind (wpAny_sequenceKey ht.typeIs (by decide) ?_)
  refine wpAny_bind (wpAny_callSpecial?_slot (name := Str.ofString "__getitem__") ht.typeIs PyProof.Rows.slot_tuple_getitem
    (wpAny_call_entry PyProof.Rows.slot_tuple_getitem ht.typeIs entry_tuple_getitem ?_ (args_tuple_getitem _ _)))
  show wpAny _ _ (Builtin.Tuple.tupleItemsOf (.ref t) >>= _) _ _ s
  refine wpAny_bind (tupleItemsOf_ ht ?_)
  refine wpAny_bind (wpAny_typeOf hTs ?_)
  rw [if_pos (by decide)]
  refine wpAny_bind (sliceApplied_step hs pl pu pc h0 ?_)
  have hno : ¬ (((Builtin.Slice.sliceAdjust lo hi c items.size).1 == 0 && c == 1 && Builtin.Slice.slicePlaces (Builtin.Slice.sliceAdjust lo hi c items.size).1 (Builtin.Slice.sliceAdjust lo hi c items.size).2 c == items.size) = true) := by
    intro q
    rw [Bool.and_eq_true, Bool.and_eq_true] at q
    exact h1 (eq_of_beq q.1.2)
  show wpAny _ _ (if ((Builtin.Slice.sliceAdjust lo hi c items.size).1 == 0 && c == 1 && Builtin.Slice.slicePlaces (Builtin.Slice.sliceAdjust lo hi c items.size).1 (Builtin.Slice.sliceAdjust lo hi c items.size).2 c == items.size) = true then _ else _) _ _ s
  rw [if_neg hno, e]
  first
    | exact wpAny_bind (m := Builtin.Tuple.tupleExact _) (wpAny_newObj_type (wpAny_pure ⟨_, rfl, wpAny_pure h⟩) htake)
    | exact wpAny_bind (m := Builtin.Tuple.tupleExact _) (wpAny_newObj_type (wpAny_bind (wpAny_pure (wpAny_pure ⟨_, rfl, wpAny_pure h⟩))) htake)
    | exact wpAny_bind (wpAny_bind (m := Builtin.Tuple.tupleExact _) (wpAny_newObj_type (wpAny_pure (wpAny_pure ⟨_, rfl, wpAny_pure h⟩)) htake))
    | exact wpAny_bind (wpAny_bind (m := Builtin.Tuple.tupleExact _) (wpAny_newObj_type (wpAny_pure ⟨_, rfl, wpAny_pure h⟩) htake))
end
/-- d[lo:hi:c], c neither 0 nor 1 -/
def gSt : D → Option Int → Option Int → Option Int → M D
  | .lst l, lo, hi, some c => need (c ≠ 0 ∧ c ≠ 1) (ret (.lst (stepV l lo hi c)))
  | .tup l, lo, hi, some c => need (c ≠ 0 ∧ c ≠ 1) (ret (.tup (stepV l lo hi c)))
  | .str x, lo, hi, some c => need (c ≠ 0 ∧ c ≠ 1 ∧ x.length ≤ sizeLine) (ret (.str ⟨(stepV x.cps.toList lo hi c).toArray⟩))
  | _, _, _, _ => stuck
def dSt (fe : DExp) (fl fh fc : DOpt) : DExp := fun env => bnd (fe env) fun d => bnd (fl env) fun l => bnd (fh env) fun h => bnd (fc env) fun c => gSt d l h c
section
variable {X : Cx} {W : WX} {e ec : Expr} {lo hi : Option Expr} {fe : DExp} {fl fh fc : DOpt} {p2 pos : Pos}
theorem str_step (x : Str) (lo hi : Option Int) (c : Int) (h0 : c ≠ 0) : ((Builtin.Str.strSliceIndices lo hi c x.length).filterMap (x.cps[·]?)) = stepV x.cps.toList lo hi c := by
  have e1 : Builtin.Str.strSliceIndices lo hi c x.length = sliceRange (sliceBounds lo hi (some c) x.length).1 (sliceBounds lo hi (some c) x.length).2.1 c := rfl
  rw [e1, bounds_adjust lo hi c _ h0]
  simp only
  rw [range_places _ _ _ h0, List.filterMap_map]
  unfold stepV
  rw [Array.length_toList]
  congr 1
  funext m
  rw [Array.getElem?_toList]; rfl
theorem de_st (he : DE X W e fe) (hl : DO X W lo fl) (hh : DO X W hi fh) (hc : DO X W (some ec) fc) : DE X W (.Subscript e (.Slice lo hi (some ec) p2) pos) (dSt fe fl fh fc) := by
  refine ⟨⟨fun pins s σ H Q I h => ?_⟩⟩
  obtain ⟨B, n, F, env, S, h⟩ := h
  have key : tD X W fe σ H fun x H1 => tOpt X W fl σ H1 fun l H2 => tOpt X W fh σ H2 fun u H3 => tOpt X W fc σ H3 fun c H4 => ∃ (n4 : Nat) (F4 : Hp) (d : D), (∀ b o, F4 b = some o → H4 b = some o) ∧ Rep X.K X.mg n4 F4 x d ∧ (gSt d l u c).run n4 (okE X n4 F4 H4 Q) (fun _ _ => True) := by
    refine tD.go S h fun d n1 v F1 H1 p1 t1 r1 S1 => ?_
    refine tOpt.go S1 ((fl env).mono (fun _ _ z => z) (fun _ _ z => exE.step t1 z) p1) fun l n2 F2 H2 p2 t2 S2 => ?_
    refine tOpt.go S2 ((fh env).mono (fun _ _ z => z) (fun _ _ z => exE.step (t1.trans t2) z) p2) fun u n3 F3 H3 p3 t3 S3 => ?_
    refine tOpt.go S3 ((fc env).mono (fun _ _ z => z) (fun _ _ z => exE.step ((t1.trans t2).trans t3) z) p3) fun c n4 F4 H4 p4 t4 S4 => ?_
    exact ⟨n4, F4, d, S4.sub, ((r1.grow t2.gr).grow t3.gr).grow t4.gr, (gSt d l u c).mono (fun _ _ z => okE.step (((t1.trans t2).trans t3).trans t4) z) (fun _ _ _ => trivial) p4⟩
  refine Subscript_ (thn (he.pe.run pins s σ H _ I key) fun v s1 ⟨x, H1, I1, r1, q1⟩ => ?_)
  refine wpAny_Slice (thn (hl.po.run pins s1 σ H1 _ I1 q1) fun vl s2 ⟨l, H2, I2, pl, q2⟩ => thn (hh.po.run pins s2 σ H2 _ I2 q2) fun vu s3 ⟨u, H3, I3, pu, q3⟩ => thn (hc.po.run pins s3 σ H3 _ I3 q3) fun vc s4 ⟨co, H4, I4, pc, q4⟩ => ?_)
  obtain ⟨n4, F4, d, sb, rd, q⟩ := q4
  have I5 : Inv X pins σ H4 { s4 with heap := s4.heap.push { cls := .type "slice", data := .fields #[vl, vu, vc] } } := I4.kept (t' := s4.toks) fun b ob q => Heap.get?_push_of_some _ q
  have hs : ({ s4 with heap := s4.heap.push { cls := .type "slice", data := .fields #[vl, vu, vc] } } : Shared).heap.IsSliceOf s4.heap.objs.size vl vu vc := Heap.IsSliceOf.new ..
  show wpAny (model X.prog X.w) X.A (subscriptTail e (.Slice lo hi (some ec) p2) v (.ref s4.heap.objs.size)) (EP X pins σ Q) X.xe { s4 with heap := s4.heap.push { cls := .type "slice", data := .fields #[vl, vu, vc] } }
  have fin : ∃ T id, typeLookup (.type T) "__getitem__" = pure (some (.builtin id)) ∧ ({ s4 with heap := s4.heap.push { cls := .type "slice", data := .fields #[vl, vu, vc] } } : Shared).TypeIs v T ∧ wpAny (model X.prog X.w) X.A (getItem v (.ref s4.heap.objs.size)) (EP X pins σ Q) X.xe { s4 with heap := s4.heap.push { cls := .type "slice", data := .fields #[vl, vu, vc] } } := by
    generalize ({ s4 with heap := s4.heap.push { cls := .type "slice", data := .fields #[vl, vu, vc] } } : Shared) = s5 at I5 hs ⊢
    unfold gSt at q
    split at q
    · rename_i c0
      obtain ⟨⟨h0, h1⟩, q⟩ := q
      cases rd with
      | lst e r =>
        cases r1
        obtain ⟨its, rv, ht, hz⟩ := I5.list (SqL.of (K := X.K) (sb _ _ e))
        refine ⟨"list", _, slot_list_getitem.lookup, ht.isList.typeIs, ?_⟩
        refine wpAny_getItem_list_slice ht.isList hs pl pu pc (by simpa using h0) ?_ (by rw [List.size_toArray, ← rv.length]; exact hz)
        rw [slicePick_step _ _ _ _ h0]
        refine ⟨.ref s5.heap.objs.size, _, I5.laid (t' := s5.toks) (o := .lst (stepV _ l u c0)) (fun b ob q => Heap.get?_push_of_some _ q) (Nat.le_refl _) ?_, rfl, q _ _ _ (Step.new sb (I5.hok.fresh (Nat.le_refl _))) (Step.newLst sb (I5.hok.fresh (Nat.le_refl _)) (r.stepV _ _ _))⟩
        exact ⟨Nat.le_trans (stepV_length _ l u c0 h0) hz, _, 0, Vals.stepV rv _ _ _, Heap.get?_push_size _ rfl⟩
    · rename_i c0
      obtain ⟨⟨h0, h1⟩, q⟩ := q
      cases rd with
      | tup e r =>
        cases r1
        obtain ⟨its, rv, ht, hz⟩ := I5.tuple (SqT.of (K := X.K) (sb _ _ e))
        refine ⟨"tuple", _, PyProof.Rows.slot_tuple_getitem.lookup, ht.typeIs, ?_⟩
        refine tup_step ht hs pl pu pc h0 h1 ?_ (by rw [List.size_toArray, ← rv.length]; exact hz)
        refine ⟨.ref s5.heap.objs.size, _, I5.laid (t' := s5.toks) (o := .tup (stepV _ l u c0)) (fun b ob q => Heap.get?_push_of_some _ q) (Nat.le_refl _) ?_, rfl, q _ _ _ (Step.new sb (I5.hok.fresh (Nat.le_refl _))) (Step.newTup sb (I5.hok.fresh (Nat.le_refl _)) (r.stepV _ _ _))⟩
        exact ⟨Nat.le_trans (stepV_length _ l u c0 h0) hz, _, Vals.stepV rv _ _ _, IsTup.new _ _⟩
    · rename_i x c0
      obtain ⟨⟨h0, h1, hz⟩, q⟩ := q
      cases rd
      obtain ⟨t, rfl⟩ := r1
      obtain ⟨os, hos, hcs, hds⟩ := hs
      obtain ⟨l1, rfl, rfl⟩ := IsPart.raw pl
      obtain ⟨u1, rfl, rfl⟩ := IsPart.raw pu
      obtain ⟨c1, rfl, hc1⟩ := IsPart.raw pc
      refine ⟨"str", _, PySem.F.slot_str_getitem.lookup, typeIs_str _ _ _, ?_⟩
      cases c1 with
      | none => cases hc1
      | some c1 =>
        simp only [Option.map_some, Option.some.injEq] at hc1
        obtain ⟨cc, ct⟩ := c1
        simp only at hc1
        subst hc1
        refine wpAny_getItem_str_slice (l := l1) (u := u1) (st := some (cc, ct)) ⟨os, hos, hcs, hds⟩ (by simpa using h0) ?_
        unfold sliceMade
        have hb : ¬ (((Option.map (·.1) (some (cc, ct))).getD 1 == 1 && (slicePicked x l1 u1 (some (cc, ct))).length == x.length) = true) := by
          intro z
          rw [Bool.and_eq_true] at z
          exact h1 (eq_of_beq z.1)
        rw [if_neg hb]
        have e2 : (slicePicked x l1 u1 (some (cc, ct))).filterMap (x.cps[·]?) = stepV x.cps.toList (l1.map (·.1)) (u1.map (·.1)) cc := str_step x _ _ cc h0
        rw [e2]
        have hlen : (stepV x.cps.toList (l1.map (·.1)) (u1.map (·.1)) cc).length ≤ sizeLine := Nat.le_trans (stepV_length _ _ _ _ h0) (by rw [Array.length_toList]; exact hz)
        exact ⟨hlen, .str _, H4, I5.tok _, ⟨_, rfl⟩, q _ F4 H4 (Step.refl sb) (.str _)⟩
    · exact q.elim
  obtain ⟨T, id, hT, ht, hg⟩ := fin
  exact tail_any (ops := [v, .ref s4.heap.objs.size]) ht hT hg (by with_unfolding_all rfl)
end
end DL

end
section
set_option Elab.async false
set_option linter.all false
set_option maxRecDepth 100000
set_option maxHeartbeats 4000000
/-! DMore2: sum, min, max, sorted, join, repr. -/
namespace DL
open PySem PySem.Spec PyProof.Rows L2
variable [Tb]

/-! ### sum, min, max of ints: a list, a tuple -/
def minI : List Int → Int
  | [] => 0
  | x :: xs => xs.foldl min x
def maxI : List Int → Int
  | [] => 0
  | x :: xs => xs.foldl max x
theorem foldl_min_mem : ∀ (xs : List Int) (x : Int), xs.foldl min x ∈ x :: xs ∧ xs.foldl min x ≤ x ∧ ∀ y ∈ xs, xs.foldl min x ≤ y
  | [], x => ⟨by simp, Int.le_refl _, by simp⟩
  | y :: ys, x => by
    obtain ⟨h1, h2, h3⟩ := foldl_min_mem ys (min x y)
    rw [List.foldl_cons]
    refine ⟨?_, by omega, fun z hz => ?_⟩
    · rcases List.mem_cons.mp h1 with h | h
      · rw [h]
        by_cases hc : x ≤ y
        · rw [Int.min_eq_left hc]; simp
        · rw [Int.min_eq_right (by omega)]; simp
      · simp [h]
    · rcases List.mem_cons.mp hz with rfl | hz
      · omega
      · exact h3 z hz
theorem foldl_max_mem : ∀ (xs : List Int) (x : Int), xs.foldl max x ∈ x :: xs ∧ x ≤ xs.foldl max x ∧ ∀ y ∈ xs, y ≤ xs.foldl max x
  | [], x => ⟨by simp, Int.le_refl _, by simp⟩
  | y :: ys, x => by
    obtain ⟨h1, h2, h3⟩ := foldl_max_mem ys (max x y)
    rw [List.foldl_cons]
    refine ⟨?_, by omega, fun z hz => ?_⟩
    · rcases List.mem_cons.mp h1 with h | h
      · rw [h]
        by_cases hc : x ≤ y
        · rw [Int.max_eq_right hc]; simp
        · rw [Int.max_eq_left (by omega)]; simp
      · simp [h]
    · rcases List.mem_cons.mp hz with rfl | hz
      · omega
      · exact h3 z hz
theorem minI_mem {ns : List Int} (h : 0 < ns.length) : minI ns ∈ ns ∧ ∀ y ∈ ns, minI ns ≤ y := by
  cases ns with
  | nil => simp at h
  | cons x xs =>
    obtain ⟨h1, h2, h3⟩ := foldl_min_mem xs x
    refine ⟨h1, fun y hy => ?_⟩
    rcases List.mem_cons.mp hy with rfl | hy
    · exact h2
    · exact h3 y hy
theorem maxI_mem {ns : List Int} (h : 0 < ns.length) : maxI ns ∈ ns ∧ ∀ y ∈ ns, y ≤ maxI ns := by
  cases ns with
  | nil => simp at h
  | cons x xs =>
    obtain ⟨h1, h2, h3⟩ := foldl_max_mem xs x
    refine ⟨h1, fun y hy => ?_⟩
    rcases List.mem_cons.mp hy with rfl | hy
    · exact h2
    · exact h3 y hy
def gMinS := gSeqI fun ns => need (0 < ns.length) (ret (.int (minI ns)))
def gMaxS := gSeqI fun ns => need (0 < ns.length) (ret (.int (maxI ns)))
theorem preSum_all (ns : List Int) (xs : Array (Int × Tok)) (h : numsOf (intItems xs).toList = ns) : preSum (numAt xs) xs.size = ns.sum := by
  rw [preSum_eq, List.take_of_length_le (by simp)]
  rw [nums_intItems] at h
  rw [h]
section
variable {X : Cx}
def rSumT (K : PySem.W.Frag) : List V → Hp → VK → Prop := fun vs H Q => ∃ (a : Addr) (ns : List Int), vs = [V.ref a] ∧ SqT K H a (ns.map V.int) ∧ Q (.int ns.sum) H
theorem cr_sumT (hc : X.calm = true) : CallR X (.builtin "sum") (rSumT X.K) := by
  intro pins s σ H vs us Q I r h
  obtain ⟨a, ns, rfl, hs, q⟩ := h
  obtain ⟨its, rv, hl, _⟩ := I.tuple hs
  rw [Vals.ref1 r]
  have hi := rv.ints
  obtain ⟨xs, hx⟩ := hi.allInts.items
  have hn : numsOf its = ns := hi.numsOf
  rw [hx] at hl
  have hn2 : numsOf (intItems xs).toList = ns := by rw [← hx]; exact hn
  refine PySem.W.ktm_sumG (I.ok.hd hc) hl fun h' tk t' hk => ⟨.int _, H, I.kept hk, ⟨t', ?_⟩, q⟩
  rw [preSum_all ns xs hn2]
theorem cd_sum (hc : X.calm = true) : CallR X (.builtin "sum") (fun xs H Q => rSum X.K xs H Q ∨ rSumT X.K xs H Q) := CallR.or (cr_sum hc) (cr_sumT hc)
theorem gd_sum : CallD X (fun xs H Q => rSum X.K xs H Q ∨ rSumT X.K xs H Q) gSum := fun n F H xs ds Q E s r q0 => by
  obtain ⟨d, ns, rfl, hd, q⟩ := gSeqI_inv (f := fun ns => ret (.int ns.sum)) q0
  clear q0
  cases r with
  | cons rd rn =>
    cases rn
    rcases hd with rfl | rfl
    · cases rd with
      | lst e r => exact .inl ⟨_, ns, rfl, by rw [← r.ofInts]; exact SqL.of (s _ _ e), q _ F H (Step.refl s) (.int _)⟩
    · cases rd with
      | tup e r => exact .inr ⟨_, ns, rfl, by rw [← r.ofInts]; exact SqT.of (s _ _ e), q _ F H (Step.refl s) (.int _)⟩
theorem reads_ints {h : Heap} : ∀ {us : List Value} {ns : List Int}, IntsAre us ns → ∃ as, ReadsAll h us (ns.map PyData.int) as
  | _, _, .nil => ⟨_, .nil⟩
  | _, _, .cons n t r => by
    obtain ⟨as, q⟩ := reads_ints (h := h) r
    exact ⟨_, .cons (.int n t) q⟩
theorem alike_ints_all (ns : List Int) : PySem.W.AlikeAll (ns.map PyData.int) := by
  refine ⟨?_, fun x hx => by obtain ⟨y, _, rfl⟩ := List.mem_map.mp hx; exact fun h => nomatch h⟩
  intro a ha b hb
  obtain ⟨x, _, rfl⟩ := List.mem_map.mp ha
  obtain ⟨y, _, rfl⟩ := List.mem_map.mp hb
  rfl
theorem int_of_reads {h : Heap} {v : Value} {i : Int} {as : List Addr} (r : Reads h v (.int i) as) : ∃ t, v = .int i t := by
  cases r; exact ⟨_, rfl⟩
def rMinT (K : PySem.W.Frag) : List V → Hp → VK → Prop := fun vs H Q => ∃ (a : Addr) (ns : List Int), vs = [V.ref a] ∧ SqT K H a (ns.map V.int) ∧ 0 < ns.length ∧ Q (.int (minI ns)) H
def rMaxT (K : PySem.W.Frag) : List V → Hp → VK → Prop := fun vs H Q => ∃ (a : Addr) (ns : List Int), vs = [V.ref a] ∧ SqT K H a (ns.map V.int) ∧ 0 < ns.length ∧ Q (.int (maxI ns)) H
theorem cr_minT (hc : X.calm = true) (hu : X.A.units + 65 < cLine) : CallR X (.builtin "min") (rMinT X.K) := by
  intro pins s σ H vs us Q I r h
  obtain ⟨a, ns, rfl, hs, hn, q⟩ := h
  obtain ⟨its, rv, hl, _⟩ := I.tuple hs
  rw [Vals.ref1 r]
  cases ns with
  | nil => simp at hn
  | cons x xs =>
    obtain ⟨as, hr⟩ := reads_ints (h := s.heap) rv.ints
    rw [List.map_cons] at hr
    refine PySem.W.min_tuple_data (I.ok.hd hc) hl (by simpa using hr) (alike_ints_all (x :: xs)) ?_ fun i v h' tk bs _ rd hk => ?_
    · have := PySem.W.depth_ints (x :: xs)
      rw [List.map_cons] at this
      rw [this]; omega
    · rw [PySem.W.minD_ints] at rd
      obtain ⟨t, rfl⟩ := int_of_reads rd
      exact ⟨.int _, H, I.kept hk, ⟨t, rfl⟩, q⟩
theorem cr_maxT (hc : X.calm = true) (hu : X.A.units + 65 < cLine) : CallR X (.builtin "max") (rMaxT X.K) := by
  intro pins s σ H vs us Q I r h
  obtain ⟨a, ns, rfl, hs, hn, q⟩ := h
  obtain ⟨its, rv, hl, _⟩ := I.tuple hs
  rw [Vals.ref1 r]
  cases ns with
  | nil => simp at hn
  | cons x xs =>
    obtain ⟨as, hr⟩ := reads_ints (h := s.heap) rv.ints
    rw [List.map_cons] at hr
    refine PySem.W.max_tuple_data (I.ok.hd hc) hl (by simpa using hr) (alike_ints_all (x :: xs)) ?_ fun i v h' tk bs _ rd hk => ?_
    · have := PySem.W.depth_ints (x :: xs)
      rw [List.map_cons] at this
      rw [this]; omega
    · rw [PySem.W.maxD_ints] at rd
      obtain ⟨t, rfl⟩ := int_of_reads rd
      exact ⟨.int _, H, I.kept hk, ⟨t, rfl⟩, q⟩
theorem cr_minS (hc : X.calm = true) (hu : X.A.units + 65 < cLine) : CallR X (.builtin "min") (fun xs H Q => rMin X.K xs H Q ∨ rMinT X.K xs H Q) := CallR.or (cr_min hc) (cr_minT hc hu)
theorem cr_maxS (hc : X.calm = true) (hu : X.A.units + 65 < cLine) : CallR X (.builtin "max") (fun xs H Q => rMax X.K xs H Q ∨ rMaxT X.K xs H Q) := CallR.or (cr_max hc) (cr_maxT hc hu)
theorem gd_minS : CallD X (fun xs H Q => rMin X.K xs H Q ∨ rMinT X.K xs H Q) gMinS := fun n F H xs ds Q E s r q0 => by
  obtain ⟨d, ns, rfl, hd, h0, q⟩ := gSeqI_inv (f := fun ns => need (0 < ns.length) (ret (.int (minI ns)))) q0
  clear q0
  obtain ⟨m1, m2⟩ := minI_mem h0
  cases r with
  | cons rd rn =>
    cases rn
    rcases hd with rfl | rfl
    · cases rd with
      | lst e r =>
        refine .inl ⟨_, ns, rfl, by rw [← r.ofInts]; exact SqL.of (s _ _ e), h0, fun m h1 h2 => ?_⟩
        have : m = minI ns := Int.le_antisymm (h2 _ m1) (m2 _ h1)
        rw [this]
        exact q _ F H (Step.refl s) (.int _)
    · cases rd with
      | tup e r => exact .inr ⟨_, ns, rfl, by rw [← r.ofInts]; exact SqT.of (s _ _ e), h0, q _ F H (Step.refl s) (.int _)⟩
theorem gd_maxS : CallD X (fun xs H Q => rMax X.K xs H Q ∨ rMaxT X.K xs H Q) gMaxS := fun n F H xs ds Q E s r q0 => by
  obtain ⟨d, ns, rfl, hd, h0, q⟩ := gSeqI_inv (f := fun ns => need (0 < ns.length) (ret (.int (maxI ns)))) q0
  clear q0
  obtain ⟨m1, m2⟩ := maxI_mem h0
  cases r with
  | cons rd rn =>
    cases rn
    rcases hd with rfl | rfl
    · cases rd with
      | lst e r =>
        refine .inl ⟨_, ns, rfl, by rw [← r.ofInts]; exact SqL.of (s _ _ e), h0, fun m h1 h2 => ?_⟩
        have : m = maxI ns := Int.le_antisymm (m2 _ h1) (h2 _ m1)
        rw [this]
        exact q _ F H (Step.refl s) (.int _)
    · cases rd with
      | tup e r => exact .inr ⟨_, ns, rfl, by rw [← r.ofInts]; exact SqT.of (s _ _ e), h0, q _ F H (Step.refl s) (.int _)⟩
end

/-! ### sorted ints -/
def insI (x : Int) : List Int → List Int
  | [] => [x]
  | y :: ys => if x ≤ y then x :: y :: ys else y :: insI x ys
def sortI : List Int → List Int
  | [] => []
  | x :: xs => insI x (sortI xs)
theorem insI_perm (x : Int) : ∀ l, (insI x l).Perm (x :: l)
  | [] => .refl _
  | y :: ys => by
    unfold insI
    split
    · exact .refl _
    · exact ((insI_perm x ys).cons y).trans (.swap x y ys)
theorem sortI_perm : ∀ l, (sortI l).Perm l
  | [] => .refl _
  | x :: xs => (insI_perm x _).trans ((sortI_perm xs).cons x)
theorem insI_le (x : Int) : ∀ l : List Int, l.Pairwise (· ≤ ·) → (insI x l).Pairwise (· ≤ ·)
  | [], _ => by simp [insI]
  | y :: ys, h => by
    unfold insI
    split
    · rename_i hxy
      refine List.pairwise_cons.mpr ⟨fun z hz => ?_, h⟩
      rcases List.mem_cons.mp hz with rfl | hz
      · exact hxy
      · have := (List.pairwise_cons.mp h).1 z hz
        omega
    · rename_i hxy
      obtain ⟨h1, h2⟩ := List.pairwise_cons.mp h
      refine List.pairwise_cons.mpr ⟨fun z hz => ?_, insI_le x ys h2⟩
      rcases List.mem_cons.mp ((insI_perm x ys).mem_iff.mp hz) with rfl | hz
      · omega
      · exact h1 z hz
theorem sortI_le : ∀ l : List Int, (sortI l).Pairwise (· ≤ ·)
  | [] => .nil
  | x :: xs => insI_le x _ (sortI_le xs)
theorem sorted_unique : ∀ {a b : List Int}, a.Perm b → a.Pairwise (· ≤ ·) → b.Pairwise (· ≤ ·) → a = b
  | [], b, p, _, _ => by simpa using p.symm.eq_nil.symm
  | x :: xs, [], p, _, _ => by simpa using p.eq_nil
  | x :: xs, y :: ys, p, ha, hb => by
    obtain ⟨h1, h2⟩ := List.pairwise_cons.mp ha
    obtain ⟨h3, h4⟩ := List.pairwise_cons.mp hb
    have e : x = y := by
      have m1 : x ∈ y :: ys := p.mem_iff.mp (by simp)
      have m2 : y ∈ x :: xs := p.mem_iff.mpr (by simp)
      rcases List.mem_cons.mp m1 with e | m1
      · exact e
      · rcases List.mem_cons.mp m2 with e | m2
        · exact e.symm
        · exact Int.le_antisymm (h1 _ m2) (h3 _ m1)
    subst e
    rw [sorted_unique p.cons_inv h2 h4]
def gSortI : List D → M D
  | [.lst l] => match intsD l with
    | some ns => ret (.lst ((sortI ns).map D.int))
    | none => stuck
  | _ => stuck
section
variable {X : Cx}
theorem gd_sortI : CallD X (rSortedI X.K) gSortI := fun n F H xs ds Q E s r q => by
  unfold gSortI at q
  split at q
  · split at q
    · rename_i h
      cases r with
      | cons rd rn =>
        cases rn
        cases rd with
        | lst e r =>
          rw [intsD_of h] at r
          refine ⟨_, _, rfl, by rw [← r.ofInts]; exact SqL.of (s _ _ e), fun ns' p hp hs hf => ?_⟩
          have e1 : ns' = sortI _ := sorted_unique (hp.trans (sortI_perm _).symm) hs (sortI_le _)
          rw [e1]
          exact q _ _ _ (Step.new s hf) (Step.newLst s hf Reps.ints)
    · exact q.elim
  · exact q.elim
end

/-! ### sep.join(..) -/
def strD : List D → Option (List Str)
  | [] => some []
  | .str i :: r => (strD r).map (i :: ·)
  | _ => none
theorem strD_of : ∀ {l : List D} {ns : List Str}, strD l = some ns → l = ns.map D.str
  | [], ns, h => by cases h; rfl
  | .str i :: r, ns, h => by
    unfold strD at h
    cases e : strD r with
    | none => rw [e] at h; cases h
    | some ms => rw [e] at h; cases h; rw [strD_of e]; rfl
  | .non :: r, ns, h => by cases h
  | .bl _ :: r, ns, h => by cases h
  | .int _ :: r, ns, h => by cases h
  | .tup _ :: r, ns, h => by cases h
  | .lst _ :: r, ns, h => by cases h
  | .dct _ :: r, ns, h => by cases h
  | .scr _ :: r, ns, h => by cases h
  | .rng _ _ :: r, ns, h => by cases h
  | .exc _ _ :: r, ns, h => by cases h
  | .fn _ :: r, ns, h => by cases h
  | .ty _ :: r, ns, h => by cases h
@[simp] theorem strD_map : ∀ ns : List Str, strD (ns.map D.str) = some ns
  | [] => rfl
  | i :: r => by rw [List.map_cons, strD, strD_map r]; rfl
def gJoin (a : Str) : D → M D := fun d => match (seqOf d).bind strD with
  | some ys => need ((ys.map (·.length)).sum + ys.length * a.length ≤ 16777216) (ret (.str (Txt.join a ys)))
  | none => stuck
/-- a text's method with one argument -/
def dM1 (g : Str → D → M D) (fo fe : DExp) : DExp := fun env => bnd (fo env) fun d => match d with
  | .str a => bnd (fe env) (g a)
  | _ => stuck
def dM0 (g : Str → M D) (fo : DExp) : DExp := fun env => bnd (fo env) fun d => match d with
  | .str a => g a
  | _ => stuck
section
variable {X : Cx} {W : WX} {o e : Expr} {fo fe : DExp} {apos pos : Pos}
theorem de_join (ho : DE X W o fo) (he : DE X W e fe) (hs : starEach [e] X.env = [(false, eval e X.env)] := by rfl) (hbase : attributeBase o "join" X.env (eval o X.env) = eval o X.env := by rfl) (hline : (apos.endLine == pos.line) = true := by rfl) :
    DE X W (.Call (.Attribute o "join" apos) [e] [] pos) (dM1 gJoin fo fe) := by
  refine ⟨PE.imp (pe_join ho.pe he.pe hs hbase hline) fun σ H Q ⟨B, n, F, env, S, h⟩ => tD.go S h fun d n1 v F1 H1 p1 t1 r1 S1 => ?_⟩
  cases d with
  | str a =>
    cases r1
    refine ⟨⟨a, rfl⟩, ?_⟩
    refine tD.go S1 ((fe env).mono (fun _ _ z => z) (fun _ _ z => exE.step t1 z) p1) fun d2 n2 v2 F2 H2 p2 t2 r2 S2 => ?_
    unfold gJoin at p2
    split at p2
    · rename_i ys hy
      obtain ⟨hz, q⟩ := p2
      cases d2 with
      | lst l =>
        have e1 := strD_of (show strD l = some ys from hy)
        cases r2 with
        | lst e r =>
          rw [e1] at r
          exact ⟨a, _, ys, rfl, rfl, .inl (by rw [← r.ofStrs]; exact SqL.of (S2.sub _ _ e)), hz, q _ F2 H2 (t1.trans t2) (.str _)⟩
      | tup l =>
        have e1 := strD_of (show strD l = some ys from hy)
        cases r2 with
        | tup e r =>
          rw [e1] at r
          exact ⟨a, _, ys, rfl, rfl, .inr (by rw [← r.ofStrs]; exact SqT.of (S2.sub _ _ e)), hz, q _ F2 H2 (t1.trans t2) (.str _)⟩
      | _ => cases hy
    · exact p2.elim
  | _ => exact p1.elim
end

/-! ### repr -/
def gRepr : List D → M D
  | [d] => match toPy d with
    | some p => need (p.showable = true ∧ p.hasDict = false ∧ p.depth ≤ 60 ∧ p.shown.length ≤ sizeLine) (ret (.str p.shown))
    | none => stuck
  | _ => stuck
def rRepr (K : PySem.W.Frag) : List V → Hp → VK → Prop := fun vs H Q => ∃ (v : V) (p : PyData), vs = [v] ∧ Dp K H v p ∧ p.showable = true ∧ p.hasDict = false ∧ p.depth ≤ 60 ∧ p.shown.length ≤ sizeLine ∧ Q (.str p.shown) H
section
variable {X : Cx}
theorem cr_repr (hg : X.A.guards = some []) (hu : X.A.units + 65 < cLine) : CallR X (.builtin "repr") (rRepr X.K) := by
  intro pins s σ H vs us Q I r h
  obtain ⟨v, p, rfl, dp, h1, h2, h3, h4, q⟩ := h
  cases r with
  | cons rv rn =>
    cases rn
    cases dp with
    | non => cases rv; exact PySem.P.repr_of_none ⟨.str _, H, I.tok _, ⟨s.toks, by simp only [PyData.shown]⟩, q⟩
    | bl b => cases rv; exact PySem.P.repr_of_bool ⟨.str _, H, I.tok _, ⟨s.toks, by simp only [PyData.shown]⟩, q⟩
    | int i =>
      obtain ⟨t, rfl⟩ := rv
      exact PySem.P.repr_of_int (by simpa [PyData.showable] using h1) ⟨.str _, H, I.tok _, ⟨s.toks, by simp only [PyData.shown]⟩, q⟩
    | str x =>
      obtain ⟨t, rfl⟩ := rv
      exact PySem.P.repr_of_str (by refine ⟨.str _, H, I.tok _, ⟨s.toks, ?_⟩, q⟩; simp only [PyData.shown]) (by simpa only [PyData.shown] using h4)
    | lst a b =>
      obtain ⟨as, rd⟩ := Dp.reads I _ _ _ (.lst a b) rv
      cases rv
      exact repr_of_reads' rd h1 (PyData.noDict_hsm h2) hg (by omega) (fun _ _ e => e) (fun h' u tk hk => ⟨.str _, H, I.kept hk, ⟨u, rfl⟩, q⟩) h4
    | tup a b =>
      obtain ⟨as, rd⟩ := Dp.reads I _ _ _ (.tup a b) rv
      cases rv
      exact repr_of_reads' rd h1 (PyData.noDict_hsm h2) hg (by omega) (fun _ _ e => e) (fun h' u tk hk => ⟨.str _, H, I.kept hk, ⟨u, rfl⟩, q⟩) h4
theorem gd_repr : CallD X (rRepr X.K) gRepr := fun n F H xs ds Q E s r q => by
  unfold gRepr at q
  split at q
  · split at q
    · rename_i h
      obtain ⟨⟨h1, h2, h3, h4⟩, q⟩ := q
      cases r with
      | cons rd rn =>
        cases rn
        exact ⟨_, _, rfl, dp_of s rd h, h1, h2, h3, h4, q _ F H (Step.refl s) (.str _)⟩
    · exact q.elim
  · exact q.elim
end
end DL

end
section
set_option Elab.async false
set_option linter.all false
set_option maxRecDepth 100000
set_option maxHeartbeats 4000000
/-! DLc2: comprehensions with two clauses. -/
namespace DL
open PySem PySem.Spec PyProof.Rows L2
variable [Tb]

/-- a target sets no owned slot -/
def TgKeep (t : D → En → Option En) (is : List Nat) : Prop := ∀ d e e', t d e = some e' → ∀ (i : Nat) l, e'[i]? = some (Slot.own l) → e[i]? = some (Slot.own l) ∧ i ∉ is
def TgsKeep (t : List D → En → Option En) (is : List Nat) : Prop := ∀ d e e', t d e = some e' → ∀ (i : Nat) l, e'[i]? = some (Slot.own l) → e[i]? = some (Slot.own l) ∧ i ∉ is
theorem tk_n (i : Nat) : TgKeep (tgN i) [i] := fun d e e' h j l hj => by
  unfold tgN at h
  cases h
  by_cases hij : i = j
  · subst hij
    have hl : i < e.length := by
      have := (List.getElem?_eq_some_iff.mp hj).1
      simpa using this
    rw [List.getElem?_set_self hl] at hj
    cases hj
  · rw [List.getElem?_set_ne hij] at hj
    exact ⟨hj, by simpa using Ne.symm hij⟩
theorem tk_nil : TgsKeep tgsNil [] := fun d e e' h j l hj => by
  unfold tgsNil at h
  split at h
  · cases h; exact ⟨hj, by simp⟩
  · cases h
theorem tk_cons {t : D → En → Option En} {u : List D → En → Option En} {is js : List Nat} (h1 : TgKeep t is) (h2 : TgsKeep u js) : TgsKeep (tgsCons t u) (is ++ js) := fun d e e' h j l hj => by
  unfold tgsCons at h
  split at h
  · rename_i d0 r
    cases e1 : t d0 e with
    | none => rw [e1] at h; cases h
    | some e2 =>
      rw [e1] at h
      obtain ⟨a, b⟩ := h2 _ _ _ h j l hj
      obtain ⟨c, d⟩ := h1 _ _ _ e1 j l a
      exact ⟨c, by simp [b, d]⟩
  · cases h
theorem tk_tup {n : Nat} {u : List D → En → Option En} {is : List Nat} (h : TgsKeep u is) : TgKeep (tgT n u) is := fun d e e' q j l hj => by
  unfold tgT at q
  split at q
  · split at q
    · exact h _ _ _ q j l hj
    · cases q
  · cases q
def lcD2 (vs : List Nat) (tg : D → En → Option En) (c : DTst) (fi1 : DIt) (vs1 : List Nat) (tg1 : D → En → Option En) (c1 : DTst) (f : DExp) (env : En) : Nat → List D → M (List D)
  | _, [] => ret []
  | k, d :: ds => match tg d (wipeE env vs) with
    | none => stuck
    | some e1 => bnd (noex (c e1)) fun v => if v = true then bnd (noex (fi1 e1)) fun l1 => need (k + l1.length ≤ sizeLine) (bnd (lcD vs1 tg1 c1 f e1 l1) fun xs => bnd (lcD2 vs tg c fi1 vs1 tg1 c1 f env (k + l1.length) ds) fun ys => ret (xs ++ ys)) else lcD2 vs tg c fi1 vs1 tg1 c1 f env k ds
def dLc2 (fi : DIt) (vs : List Nat) (tg : D → En → Option En) (c : DTst) (fi1 : DIt) (vs1 : List Nat) (tg1 : D → En → Option En) (c1 : DTst) (f : DExp) : DExp := fun env => bnd (fi env) fun ds => bnd (lcD2 vs tg c fi1 vs1 tg1 c1 f env 0 ds) fun xs => ret (.lst xs)
theorem own_wipe {env : En} {vs : List Nat} {i : Nat} {l : List D} (h : (wipeE env vs)[i]? = some (.own l)) : env[i]? = some (.own l) ∧ i ∉ vs := by
  rw [wipeE_get] at h
  by_cases hi : i ∈ vs
  · rw [if_pos hi] at h
    cases e : env[i]? with
    | none => rw [e] at h; cases h
    | some t => rw [e] at h; cases h
  · rw [if_neg hi] at h; exact ⟨h, hi⟩
section
variable {X : Cx} {W : WX} {k : Nat}
variable {elt tg iter tg1 iter1 : Expr} {ifs ifs1 : List Expr} {scope : Scope} {own : List (Str × Nat)} {pos : Pos} {fi fi1 : DIt} {t t1 : D → En → Option En} {c c1 : DTst} {f : DExp}
theorem tLc2_of {g g1 : TG} {is is1 vs vs1 : List Nat} (hg : TgOk X is g t) (hg1 : TgOk X is1 g1 t1) (hk : TgKeep t is) (his : ∀ i ∈ is, i ∈ vs) (his1 : ∀ i ∈ is1, i ∈ vs1) :
    ∀ σ H Q, tD X W (dLc2 fi vs t c fi1 vs1 t1 c1 f) σ H Q → tLc2 (tI X W fi) g (tT X W0 c) (tI X W0 fi1) g1 (tT X W0 c1) (tD X W0 f) vs vs1 σ H Q := by
  rintro σ H Q ⟨B, n, F, env, S, h⟩
  refine ⟨B, n, F, env, S, (fi env).mono (fun ds n1 p J F1 H1 ta wk Dl hD => ?_) (fun _ _ z => z) h⟩
  have hH : H Dl = none := ta.free hD
  have hF1 : F1 Dl = none := sub_free ta.sub hD
  have hBH : B.H Dl = none := S.st.free hH
  refine ⟨fun i m H' => m = ds.length - i ∧ i ≤ ds.length ∧ ∃ (n2 : Nat) (F2 : Hp) (acc : List V) (ac : List D) (k : Nat), Step n F H n2 F2 H' ∧ Grow n1 F1 n2 F2 ∧ H' Dl = some (.lst acc) ∧ F2 Dl = none ∧ Reps X.K X.mg n2 F2 acc ac ∧ acc.length ≤ k ∧
    (lcD2 vs t c fi1 vs1 t1 c1 f env k (ds.drop i)).run n2 (fun xs n3 => okE X n F H Q (.lst (ac ++ xs)) n3) (exE X W n F H σ), ⟨ds.length, by simp, Nat.zero_le _, n1, F1, [], [], 0, ta.beside hH hF1, Grow.refl _ _, upd_same, hF1, .nil, Nat.le_refl _, ?_⟩, ?_⟩
  · rw [List.drop_zero]
    exact p
  rintro i m H2 ⟨rfl, hle, n2, F2, acc, ac, k, st2, g2, hD2, hF2, ra, hal, q2⟩
  by_cases hlt : i < ds.length
  · obtain ⟨d, hd, ed⟩ := drop_cons hlt
    rw [ed] at q2
    obtain ⟨hgo, hy⟩ := (wk i n2 F2 H2 g2 st2.sub).1 d hd
    refine .inr ⟨hgo, fun H' => ∃ m', m' < ds.length - i ∧ m' = ds.length - (i + 1) ∧ i + 1 ≤ ds.length ∧ ∃ (n2 : Nat) (F2 : Hp) (acc : List V) (ac : List D) (k : Nat), Step n F H n2 F2 H' ∧ Grow n1 F1 n2 F2 ∧ H' Dl = some (.lst acc) ∧ F2 Dl = none ∧ Reps X.K X.mg n2 F2 acc ac ∧ acc.length ≤ k ∧
      (lcD2 vs t c fi1 vs1 t1 c1 f env k (ds.drop (i + 1))).run n2 (fun xs n3 => okE X n F H Q (.lst (ac ++ xs)) n3) (exE X W n F H σ), fun H' ⟨m', l, e, le, z⟩ => ⟨m', l, e, le, z⟩, fun x H3 y => ?_⟩
    obtain ⟨F3, t3, r3⟩ := hy x H3 y
    have S3 := (S.step (st2.trans t3)).wipe vs
    unfold lcD2 at q2
    cases e1 : t d (wipeE env vs) with
    | none => rw [e1] at q2; exact q2.elim
    | some env3 =>
      rw [e1] at q2
      refine hg B n2 F3 H3 _ _ env3 x d _ S3 r3 e1 fun σ3 S3' hl3 ha3 => ⟨wipe_again hl3 ha3 his, ?_⟩
      -- the owned slots stand apart from the list
      have apart : ∀ (j : Nat) (l : List D), env3[j]? = some (Slot.own l) → σ3[j]? ≠ some (some (V.ref Dl)) := fun j l hj z => by
        obtain ⟨h1, h2⟩ := hk _ _ _ e1 j l hj
        obtain ⟨h3, h4⟩ := own_wipe h1
        rw [ha3 j h2, wipe_get, if_neg h4] at z
        obtain ⟨a, xs, e5, _, _, e6, _⟩ := S.slot j _ h3
        rw [z] at e5
        cases e5
        rw [hH] at e6; cases e6
      refine tT.go S3' ((c env3).mono (fun _ _ z => z) (fun _ _ z => z.elim) q2) fun v n4 F4 H4 p4 t4 S4 => ?_
      have t24 := t3.trans t4
      cases v with
      | true =>
        show tI X W0 fi1 σ3 H4 _
        refine ⟨B, n4, F4, env3, S4, (fi1 env3).mono (fun l1 n5 p5 J1 F5 H5 t5 wk1 => ?_) (fun _ _ z => z.elim) p4⟩
        obtain ⟨hz, p5⟩ := p5
        have t25 := t24.trans t5
        obtain ⟨hD5, hF5⟩ := t25.keep Dl _ hD2 hF2
        have S5 := S4.step t5
        refine ⟨fun j m H' => m = l1.length - j ∧ j ≤ l1.length ∧ ∃ (n6 : Nat) (F6 : Hp) (acc : List V) (ac : List D), Step n F H n6 F6 H' ∧ Grow n1 F1 n6 F6 ∧ Grow n5 F5 n6 F6 ∧ SL X.K X.mg B n6 F6 H' σ3 env3 ∧ H' Dl = some (.lst acc) ∧ F6 Dl = none ∧ Reps X.K X.mg n6 F6 acc ac ∧ acc.length ≤ k + j ∧
          (lcD vs1 t1 c1 f env3 (l1.drop j)).run n6 (fun xs n7 => (lcD2 vs t c fi1 vs1 t1 c1 f env (k + l1.length) (ds.drop (i + 1))).run n7 (fun ys n8 => okE X n F H Q (.lst (ac ++ (xs ++ ys))) n8) (exE X W n F H σ)) (exE X W n F H σ),
          ⟨l1.length, by simp, Nat.zero_le _, n5, F5, acc, ac, st2.trans t25, g2.trans t25.gr, Grow.refl _ _, S5, hD5, hF5, ra.grow t25.gr, by omega, ?_⟩, ?_⟩
        · rw [List.drop_zero]
          exact p5
        rintro j m H6 ⟨rfl, hlej, n6, F6, acc6, ac6, st6, g16, g6, S6, hD6, hF6, ra6, hal6, q6⟩
        by_cases hltj : j < l1.length
        · obtain ⟨d1, hd1, ed1⟩ := drop_cons hltj
          rw [ed1] at q6
          obtain ⟨hgo1, hy1⟩ := (wk1 j n6 F6 H6 g6 st6.sub).1 d1 hd1
          refine .inr ⟨hgo1, fun H' => ∃ m', m' < l1.length - j ∧ m' = l1.length - (j + 1) ∧ j + 1 ≤ l1.length ∧ ∃ (n6 : Nat) (F6 : Hp) (acc : List V) (ac : List D), Step n F H n6 F6 H' ∧ Grow n1 F1 n6 F6 ∧ Grow n5 F5 n6 F6 ∧ SL X.K X.mg B n6 F6 H' σ3 env3 ∧ H' Dl = some (.lst acc) ∧ F6 Dl = none ∧ Reps X.K X.mg n6 F6 acc ac ∧ acc.length ≤ k + (j + 1) ∧
            (lcD vs1 t1 c1 f env3 (l1.drop (j + 1))).run n6 (fun xs n7 => (lcD2 vs t c fi1 vs1 t1 c1 f env (k + l1.length) (ds.drop (i + 1))).run n7 (fun ys n8 => okE X n F H Q (.lst (ac ++ (xs ++ ys))) n8) (exE X W n F H σ)) (exE X W n F H σ), fun H' ⟨m', l, e, le, z⟩ => ⟨m', l, e, le, z⟩, fun x1 H7 y1 => ?_⟩
          obtain ⟨F7, t7, r7⟩ := hy1 x1 H7 y1
          have S7 := (S6.step t7).wipe vs1
          unfold lcD at q6
          cases e2 : t1 d1 (wipeE env3 vs1) with
          | none => rw [e2] at q6; exact q6.elim
          | some env7 =>
            rw [e2] at q6
            refine hg1 B n6 F7 H7 _ _ env7 x1 d1 _ S7 r7 e2 fun σ7 S7' hl7 ha7 => ⟨wipe_again hl7 ha7 his1, ?_⟩
            refine tT.go S7' ((c1 env7).mono (fun _ _ z => z) (fun _ _ z => z.elim) q6) fun v1 n8 F8 H8 p8 t8 S8 => ?_
            have t68 := t7.trans t8
            cases v1 with
            | true =>
              show tD X W0 f σ7 H8 _
              refine tD.go S8 ((f env7).mono (fun _ _ z => z) (fun _ _ z => z.elim) p8) fun d9 n9 y9 F9 H9 p9 t9 r9 S9 => ?_
              have t69 := t68.trans t9
              obtain ⟨hD9, hF9⟩ := t69.keep Dl _ hD6 hF6
              refine ⟨acc6, hD9, by omega, l1.length - (j + 1), by omega, rfl, hltj, n9, F9, acc6 ++ [y9], ac6 ++ [d9], (st6.trans t69).beside hH hF9, g16.trans t69.gr, g6.trans t69.gr, (S6.step t69).beside hF9 hBH apart, upd_same, hF9, (ra6.grow t69.gr).append (.one r9), by simp; omega, ?_⟩
              refine (lcD vs1 t1 c1 f env3 _).mono (fun xs n10 z => (lcD2 vs t c fi1 vs1 t1 c1 f env _ _).mono (fun ys n11 z => ?_) (fun _ _ z => z) z) (fun _ _ z => z) p9
              rw [List.append_assoc]
              exact z
            | false =>
              obtain ⟨hD8, hF8⟩ := t68.keep Dl _ hD6 hF6
              exact ⟨l1.length - (j + 1), by omega, rfl, hltj, n8, F8, acc6, ac6, st6.trans t68, g16.trans t68.gr, g6.trans t68.gr, S6.step t68, hD8, hF8, ra6.grow t68.gr, by omega, p8⟩
        · have e : j = l1.length := by omega
          subst e
          rw [List.drop_length] at q6
          refine .inl ⟨(wk1 l1.length n6 F6 H6 g6 st6.sub).2 rfl, ?_⟩
          exact ⟨ds.length - (i + 1), by omega, rfl, hlt, n6, F6, acc6, ac6, k + l1.length, st6, g16, hD6, hF6, ra6, by omega, q6⟩
      | false =>
        obtain ⟨hD4, hF4⟩ := t24.keep Dl _ hD2 hF2
        exact ⟨ds.length - (i + 1), by omega, rfl, hlt, n4, F4, acc, ac, k, st2.trans t24, g2.trans t24.gr, hD4, hF4, ra.grow t24.gr, by omega, p4⟩
  · have e : i = ds.length := by omega
    subst e
    rw [List.drop_length] at q2
    refine .inl ⟨(wk ds.length n2 F2 H2 g2 st2.sub).2 rfl, ?_⟩
    have q3 : okE X n F H Q (.lst (ac ++ [])) n2 := q2
    rw [List.append_nil] at q3
    exact q3 _ _ H2 (st2.freeze hH hF2 hD2) (.lst upd_same (ra.grow (Grow.new hF2)))
theorem de_lc2 (kx : Kx X W k) {own : List (Str × Nat)} {is is1 vs1 : List Nat} {g g1 : TG} (hi : DI X W tg iter fi) (ok : BlkOk X.N X.env.scope scope own) (hk : TgKeep t is)
    (hg : ∀ (s : Shared) (H : Hp) (C : Addr) (cl : List (Str × Addr)) (fp : List Addr), DG (X.blk s H scope (compEnvC scope cl C X.env) fp) is tg t g)
    (ht : ∀ (s : Shared) (H : Hp) (C : Addr) (cl : List (Str × Addr)) (fp : List Addr), DTs (X.blk s H scope (compEnvC scope cl C X.env) fp) W0 ifs c)
    (hi1 : ∀ (s : Shared) (H : Hp) (C : Addr) (cl : List (Str × Addr)) (fp : List Addr), DI (X.blk s H scope (compEnvC scope cl C X.env) fp) W0 tg1 iter1 fi1)
    (hg1 : ∀ (s : Shared) (H : Hp) (C : Addr) (cl : List (Str × Addr)) (fp : List Addr), DG (X.blk s H scope (compEnvC scope cl C X.env) fp) is1 tg1 t1 g1)
    (ht1 : ∀ (s : Shared) (H : Hp) (C : Addr) (cl : List (Str × Addr)) (fp : List Addr), DTs (X.blk s H scope (compEnvC scope cl C X.env) fp) W0 ifs1 c1)
    (he : ∀ (s : Shared) (H : Hp) (C : Addr) (cl : List (Str × Addr)) (fp : List Addr), DE (X.blk s H scope (compEnvC scope cl C X.env) fp) W0 elt f)
    (hv : ∀ i ∈ vs1, i ∈ own.map (·.2) := by decide) (his : ∀ i ∈ is, i ∈ own.map (·.2) := by decide) (his1 : ∀ i ∈ is1, i ∈ vs1 := by decide) (hs : ∀ x, foldedSetIterable iter X.env x = pure x := by intro _; rfl) (hs1 : ∀ env x, foldedSetIterable iter1 env x = pure x := by intro _ _; rfl) :
    DE X W (.ListComp elt [⟨tg, iter, ifs, 0⟩, ⟨tg1, iter1, ifs1, 0⟩] scope pos) (dLc2 fi (own.map (·.2)) t c fi1 vs1 t1 c1 f) :=
  ⟨⟨fun pins s σ H Q I q => (pe_lc2 kx.calm kx.nd hi.pi ok hv (fun s H C cl fp => (hg s H C cl fp).pg) (fun s H C cl fp => (ht s H C cl fp).pts) (fun s H C cl fp => (hi1 s H C cl fp).pi) (fun s H C cl fp => (hg1 s H C cl fp).pg) (fun s H C cl fp => (ht1 s H C cl fp).pts) (fun s H C cl fp => (he s H C cl fp).pe) hs hs1).run pins s σ H Q I
    (tLc2_of (hg s H 0 [] []).ok (hg1 s H 0 [] []).ok hk his his1 σ H Q q)⟩⟩
theorem ds_setLc2 (kx : Kx X W k) (i : Nat) {y : Str} {py spos : Pos} {own : List (Str × Nat)} {is is1 vs1 : List Nat} {g g1 : TG} (hi : DI X W tg iter fi) (ok : BlkOk X.N X.env.scope scope own) (hk : TgKeep t is)
    (hg : ∀ (s : Shared) (H : Hp) (C : Addr) (cl : List (Str × Addr)) (fp : List Addr), DG (X.blk s H scope (compEnvC scope cl C X.env) fp) is tg t g)
    (ht : ∀ (s : Shared) (H : Hp) (C : Addr) (cl : List (Str × Addr)) (fp : List Addr), DTs (X.blk s H scope (compEnvC scope cl C X.env) fp) W0 ifs c)
    (hi1 : ∀ (s : Shared) (H : Hp) (C : Addr) (cl : List (Str × Addr)) (fp : List Addr), DI (X.blk s H scope (compEnvC scope cl C X.env) fp) W0 tg1 iter1 fi1)
    (hg1 : ∀ (s : Shared) (H : Hp) (C : Addr) (cl : List (Str × Addr)) (fp : List Addr), DG (X.blk s H scope (compEnvC scope cl C X.env) fp) is1 tg1 t1 g1)
    (ht1 : ∀ (s : Shared) (H : Hp) (C : Addr) (cl : List (Str × Addr)) (fp : List Addr), DTs (X.blk s H scope (compEnvC scope cl C X.env) fp) W0 ifs1 c1)
    (he : ∀ (s : Shared) (H : Hp) (C : Addr) (cl : List (Str × Addr)) (fp : List Addr), DE (X.blk s H scope (compEnvC scope cl C X.env) fp) W0 elt f)
    (hv : ∀ i ∈ vs1, i ∈ own.map (·.2) := by decide) (his : ∀ i ∈ is, i ∈ own.map (·.2) := by decide) (his1 : ∀ i ∈ is1, i ∈ vs1 := by decide) (hy : X.N[i]? = some y := by rfl) (hyl : X.env.scope.names.lookup y = some .local := by rfl)
    (hsw : swapsWith (.ListComp elt [⟨tg, iter, ifs, 0⟩, ⟨tg1, iter1, ifs1, 0⟩] scope pos) (some (.Name y py)) spos.line X.env = pure true := by exact sw_true rfl rfl rfl (by decide +kernel))
    (hs : ∀ x, foldedSetIterable iter X.env x = pure x := by intro _; rfl) (hs1 : ∀ env x, foldedSetIterable iter1 env x = pure x := by intro _ _; rfl) :
    DS X W (.Assign [.Name y py] (.ListComp elt [⟨tg, iter, ifs, 0⟩, ⟨tg1, iter1, ifs1, 0⟩] scope pos) spos) (sAsg i (dLc2 fi (own.map (·.2)) t c fi1 vs1 t1 c1 f)) := by
  refine ⟨⟨fun pins s σ H D I q => (ps_setLc2 (te := tD X W0 f) (tt := tT X W0 c) (tt1 := tT X W0 c1) (wi1 := tI X W0 fi1) kx.calm kx.nd hy hyl hsw hi.pi ok hv (fun s H C cl fp => (hg s H C cl fp).pg) (fun s H C cl fp => (ht s H C cl fp).pts) (fun s H C cl fp => (hi1 s H C cl fp).pi) (fun s H C cl fp => (hg1 s H C cl fp).pg) (fun s H C cl fp => (ht1 s H C cl fp).pts) (fun s H C cl fp => (he s H C cl fp).pe) hs hs1).run pins s σ H D I ?_⟩⟩
  exact tLc2_of (hg s H 0 [] []).ok (hg1 s H 0 [] []).ok hk his his1 σ H _ (tAsg_of D σ H q)
end
end DL

end
section
set_option Elab.async false
set_option linter.all false
set_option maxRecDepth 100000
set_option maxHeartbeats 4000000
/-! DOwn: lists of one's own: made fresh, appended to, written at a place, looked at, frozen. -/
namespace DL
open PySem PySem.Spec PyProof.Rows L2
variable [Tb]

section
variable (K : PySem.W.Frag) (mg : Str → Option Value) (n : Nat) (F H H0 : Hp)
def SlOk (v : V) : Slot → Prop
  | .emp => False
  | .val d => Rep K mg n F v d
  | .own ds => ∃ a xs, v = .ref a ∧ F a = none ∧ H0 a = none ∧ H a = some (.lst xs) ∧ Reps K mg n F xs ds
inductive SlsOk : List V → List Slot → Prop
  | nil : SlsOk [] []
  | cons {v : V} {vs : List V} {s : Slot} {ss : List Slot} : SlOk K mg n F H H0 v s → SlsOk vs ss → (∀ (i : Nat) t, IsOwn s → ss[i]? = some t → IsOwn t → vs[i]? ≠ some v) → SlsOk (v :: vs) (s :: ss)
end
section
variable {K : PySem.W.Frag} {mg : Str → Option Value} {B : Bs} {n n' : Nat} {F H H0 F' H' : Hp} {σ : L2.St} {env : En}
theorem SlOk.step {v : V} {s : Slot} (t : Step n F H n' F' H') (h : SlOk K mg n F H H0 v s) : SlOk K mg n' F' H' H0 v s := by
  cases s with
  | emp => exact h
  | val d => exact Rep.grow t.gr h
  | own ds =>
    obtain ⟨a, xs, e, f, z, h1, r⟩ := h
    obtain ⟨h2, f2⟩ := t.keep a _ h1 f
    exact ⟨a, xs, e, f2, z, h2, r.grow t.gr⟩
theorem SlsOk.len {vs : List V} {ss : List Slot} (h : SlsOk K mg n F H H0 vs ss) : vs.length = ss.length := by
  induction h with
  | nil => rfl
  | cons _ _ _ ih => simp [ih]
theorem SlsOk.get {vs : List V} {ss : List Slot} (h : SlsOk K mg n F H H0 vs ss) : ∀ (i : Nat) s, ss[i]? = some s → ∃ v, vs[i]? = some v ∧ SlOk K mg n F H H0 v s := by
  induction h with
  | nil => intro i s e; simp at e
  | cons h1 _ _ ih =>
    intro i s e
    cases i with
    | zero => simp at e; subst e; exact ⟨_, rfl, h1⟩
    | succ i => exact ih i s (by simpa using e)
theorem SlsOk.weak {H1 : Hp} {vs : List V} {ss : List Slot} (w : ∀ p, H1 p = none → H0 p = none) (h : SlsOk K mg n F H H1 vs ss) : SlsOk K mg n F H H0 vs ss := by
  induction h with
  | nil => exact .nil
  | cons h1 _ q ih =>
    rename_i v vs s ss _
    refine .cons ?_ ih q
    cases s with
    | emp => exact h1
    | val d => exact h1
    | own ds => obtain ⟨a, xs, e, f, z, h2, r⟩ := h1; exact ⟨a, xs, e, f, w a z, h2, r⟩
/-- a slot is set to a list of its own -/
theorem SL.setOwn (s : SL K mg B n F H σ env) (i : Nat) {a : Addr} {xs : List V} {ds : List D} (hF : F a = none) (hB : B.H a = none) (hH : H a = some (.lst xs)) (r : Reps K mg n F xs ds)
    (hne : ∀ (j : Nat) t, j ≠ i → env[j]? = some t → IsOwn t → σ[j]? ≠ some (some (.ref a))) : SL K mg B n F H (σ.set i (some (.ref a))) (env.set i (.own ds)) := by
  have inl : ∀ {j : Nat} {x : Slot}, (env.set i (.own ds))[j]? = some x → i = j → i < env.length ∧ x = .own ds := fun {j x} h e => by
    subst e
    have hl : i < env.length := by
      have := (List.getElem?_eq_some_iff.mp h).1
      simpa using this
    rw [List.getElem?_set_self hl] at h
    exact ⟨hl, by cases h; rfl⟩
  refine ⟨s.st, by rw [List.length_set, List.length_set]; exact s.len, fun j x h => ?_, fun j k x y hx hy ox oy hjk => ?_, s.tb⟩
  · by_cases hj : i = j
    · obtain ⟨hl, rfl⟩ := inl h hj
      subst hj
      exact ⟨a, xs, by rw [List.getElem?_set_self (by rw [s.len]; exact hl)], hF, hB, hH, r⟩
    · rw [List.getElem?_set_ne hj] at h ⊢
      exact s.slot j x h
  · by_cases hj : i = j
    · obtain ⟨hl, _⟩ := inl hx hj
      have hk : i ≠ k := fun e => hjk (hj.symm.trans e)
      subst hj
      rw [List.getElem?_set_self (by rw [s.len]; exact hl), List.getElem?_set_ne hk]
      rw [List.getElem?_set_ne hk] at hy
      exact fun e => hne k y (Ne.symm hk) hy oy e.symm
    · rw [List.getElem?_set_ne hj] at hx ⊢
      by_cases hk : i = k
      · obtain ⟨hl, _⟩ := inl hy hk
        subst hk
        rw [List.getElem?_set_self (by rw [s.len]; exact hl)]
        exact hne j x (Ne.symm hj) hx ox
      · rw [List.getElem?_set_ne hk] at hy ⊢
        exact s.ne j k x y hx hy ox oy hjk
/-- a slot's own list is written -/
theorem SL.upOwn (s : SL K mg B n F H σ env) {i : Nat} {ds es : List D} {a : Addr} {ys : List V} (he : env[i]? = some (.own ds)) (hσ : σ[i]? = some (some (.ref a))) (r : Reps K mg n F ys es) : SL K mg B n F (upd H a (.lst ys)) σ (env.set i (.own es)) := by
  obtain ⟨a', xs, e, hF, hB, hH, _⟩ := s.slot i _ he
  rw [hσ] at e
  cases e
  have hl : i < env.length := (List.getElem?_eq_some_iff.mp he).1
  refine ⟨⟨s.st.gr, fun b u e => ?_, fun b u e z => ?_⟩, by rw [List.length_set]; exact s.len, fun j x h => ?_, fun j k x y hx hy ox oy hjk => ?_, s.tb⟩
  · rw [upd_ne (ne_of_none e hF)]; exact s.sub b u e
  · obtain ⟨h1, h2⟩ := s.st.keep b u e z
    rw [upd_ne (ne_of_none e hB)]
    exact ⟨h1, h2⟩
  · by_cases hj : i = j
    · subst hj
      rw [List.getElem?_set_self hl] at h
      cases h
      exact ⟨a, ys, hσ, hF, hB, upd_same, r⟩
    · rw [List.getElem?_set_ne hj] at h
      have q := s.slot j x h
      cases x with
      | emp => trivial
      | val d => exact q
      | own l =>
        obtain ⟨b, zs, e, f, bb, h1, r1⟩ := q
        refine ⟨b, zs, e, f, bb, ?_, r1⟩
        rw [upd_ne fun z => s.ne i j _ _ he h trivial trivial hj (by rw [hσ, e, z])]
        exact h1
  · have own_at : ∀ {j : Nat} {x : Slot}, (env.set i (.own es))[j]? = some x → IsOwn x → ∃ y, env[j]? = some y ∧ IsOwn y := fun {j x} h o => by
      by_cases hj : i = j
      · subst hj; exact ⟨_, he, trivial⟩
      · rw [List.getElem?_set_ne hj] at h; exact ⟨x, h, o⟩
    obtain ⟨x', hx', ox'⟩ := own_at hx ox
    obtain ⟨y', hy', oy'⟩ := own_at hy oy
    exact s.ne j k x' y' hx' hy' ox' oy' hjk
def frz (i : Nat) (env : En) : En := match env[i]? with
  | some (.own ds) => env.set i (.val (.lst ds))
  | _ => env
theorem SL.frz (s : SL K mg B n F H σ env) (i : Nat) : ∃ F', SL K mg B n F' H σ (frz i env) ∧ Grow n F n F' ∧ (∀ b o, F b = some o → F' b = some o) ∧ ∀ b, F b = none → F' b ≠ none → ∃ xs, H b = some (.lst xs) ∧ F' b = some (.lst xs) := by
  unfold DL.frz
  split
  · rename_i ds he
    obtain ⟨a, xs, hσ, hF, hB, hH, r⟩ := s.slot i _ he
    have hl : i < env.length := (List.getElem?_eq_some_iff.mp he).1
    refine ⟨upd F a (.lst xs), ⟨s.st.freeze hB hF hH, by rw [List.length_set]; exact s.len, fun j x h => ?_, fun j k x y hx hy ox oy hjk => ?_, s.tb⟩, Grow.new hF, fun b o e => by rw [upd_ne (ne_of_none e hF)]; exact e, fun b h1 h2 => ?_⟩
    · by_cases hj : i = j
      · subst hj
        rw [List.getElem?_set_self hl] at h
        cases h
        exact ⟨_, hσ, .lst upd_same (r.grow (Grow.new hF))⟩
      · rw [List.getElem?_set_ne hj] at h
        have q := s.slot j x h
        cases x with
        | emp => trivial
        | val d => obtain ⟨u, e, ru⟩ := q; exact ⟨u, e, ru.grow (Grow.new hF)⟩
        | own l =>
          obtain ⟨b, zs, e, f, bb, h1, r1⟩ := q
          refine ⟨b, zs, e, ?_, bb, h1, r1.grow (Grow.new hF)⟩
          rw [upd_ne fun z => s.ne i j _ _ he h trivial trivial hj (by rw [hσ, e, z])]
          exact f
    · have own_at : ∀ {j : Nat} {x : Slot}, (env.set i (.val (.lst ds)))[j]? = some x → IsOwn x → env[j]? = some x := fun {j x} h o => by
        by_cases hj : i = j
        · subst hj
          rw [List.getElem?_set_self hl] at h
          cases h; exact o.elim
        · rw [List.getElem?_set_ne hj] at h; exact h
      exact s.ne j k x y (own_at hx ox) (own_at hy oy) ox oy hjk
    · by_cases hb : b = a
      · subst hb; exact ⟨xs, hH, upd_same⟩
      · rw [upd_ne hb] at h2; exact absurd h1 h2
  · exact ⟨F, s, Grow.refl _ _, fun _ _ e => e, fun b h1 h2 => absurd h1 h2⟩
end

/-! ### fresh lists -/
abbrev DFl := En → M (List D)
abbrev DSl := En → M (List Slot)
section
variable (X : Cx) (W : WX)
def okF (n : Nat) (F H : Hp) (Q : VK) : List D → Nat → Prop := fun ds n' => ∀ a xs F' H', Step n F H n' F' H' → H a = none → F' a = none → H' a = some (.lst xs) → Reps X.K X.mg n' F' xs ds → Q (.ref a) H'
def okM (n : Nat) (F H : Hp) (Q : List V → Hp → Prop) : List Slot → Nat → Prop := fun ss n' => ∀ vs F' H', Step n F H n' F' H' → SlsOk X.K X.mg n' F' H' H vs ss → Q vs H'
def tFr (f : DFl) : TE := fun σ H Q => ∃ (B : Bs) (n : Nat) (F : Hp) (env : En), SL X.K X.mg B n F H σ env ∧ (f env).run n (okF X n F H Q) (exE X W n F H σ)
def tMA (f : DSl) : TA := fun σ H Q => ∃ (B : Bs) (n : Nat) (F : Hp) (env : En), SL X.K X.mg B n F H σ env ∧ (f env).run n (okM X n F H Q) (exE X W n F H σ)
structure DFr (e : Expr) (f : DFl) : Prop where
  pe : PE X e (tFr X W f)
structure DMA (es : List Expr) (f : DSl) : Prop where
  pa : PA X es (tMA X W f)
end
def fLst (r : DArg) : DFl := fun env => bnd (r env) fun xs => need (xs.length ≤ sizeLine) (ret xs)
def mNil : DSl := fun _ => ret []
def mVal (f : DExp) (r : DSl) : DSl := fun env => bnd (f env) fun d => bnd (r env) fun ss => ret (.val d :: ss)
def mOwn (f : DFl) (r : DSl) : DSl := fun env => bnd (f env) fun ds => bnd (r env) fun ss => ret (.own ds :: ss)
def fLc (fi : DIt) (vs : List Nat) (tg : D → En → Option En) (c : DTst) (f : DExp) : DFl := fun env => bnd (fi env) fun ds => need (ds.length ≤ sizeLine) (lcD vs tg c f env ds)
section
variable {X : Cx} {W : WX} {k : Nat} {e : Expr} {es : List Expr} {f : DExp} {r : DArg} {fr : DFl} {m : DSl} {pos : Pos}
theorem tFr.go {B : Bs} {n : Nat} {F H : Hp} {σ : L2.St} {env : En} {P : List D → Nat → Prop} {R : VK} (S : SL X.K X.mg B n F H σ env) (h : (fr env).run n P (exE X W n F H σ))
    (hk : ∀ ds n1 a xs F1 H1, P ds n1 → Step n F H n1 F1 H1 → H a = none → F1 a = none → H1 a = some (.lst xs) → Reps X.K X.mg n1 F1 xs ds → SL X.K X.mg B n1 F1 H1 σ env → R (.ref a) H1) : tFr X W fr σ H R :=
  ⟨B, n, F, env, S, (fr env).mono (fun ds n1 p a xs F1 H1 t h0 hf hh r => hk ds n1 a xs F1 H1 p t h0 hf hh r (S.step t)) (fun _ _ z => z) h⟩
theorem tMA.go {B : Bs} {n : Nat} {F H : Hp} {σ : L2.St} {env : En} {P : List Slot → Nat → Prop} {R : List V → Hp → Prop} (S : SL X.K X.mg B n F H σ env) (h : (m env).run n P (exE X W n F H σ))
    (hk : ∀ ss n1 vs F1 H1, P ss n1 → Step n F H n1 F1 H1 → SlsOk X.K X.mg n1 F1 H1 H vs ss → SL X.K X.mg B n1 F1 H1 σ env → R vs H1) : tMA X W m σ H R :=
  ⟨B, n, F, env, S, (m env).mono (fun ss n1 p vs F1 H1 t h0 => hk ss n1 vs F1 H1 p t h0 (S.step t)) (fun _ _ z => z) h⟩
theorem dfr_lst (h : DA X W es r) : DFr X W (.List es pos) (fLst r) := by
  refine ⟨PE.imp (pe_lst h.pa) fun σ H Q ⟨B, n, F, env, S, h⟩ => tA.go S h fun ds n1 vs F1 H1 p t r1 S1 => ?_⟩
  obtain ⟨hz, p⟩ := p
  refine ⟨by rw [r1.length]; exact hz, fun q hq => ?_⟩
  have hf : F1 q = none := sub_free S1.sub hq
  exact p q vs F1 _ (t.beside (t.free hq) hf) (t.free hq) hf upd_same r1
theorem ma_nil : DMA X W [] mNil := ⟨PA.imp pa_nil fun σ H Q ⟨B, n, F, env, S, h⟩ => h [] F H (Step.refl S.sub) .nil⟩
theorem ma_val (he : DE X W e f) (hr : DMA X W es m) (hs : starEach (e :: es) X.env = (false, eval e X.env) :: starEach es X.env := by rfl) : DMA X W (e :: es) (mVal f m) := by
  refine ⟨PA.imp (pa_cons he.pe hr.pa hs) fun σ H Q ⟨B, n, F, env, S, h⟩ => tD.go S h fun d n1 v F1 H1 p t r1 S1 => ?_⟩
  refine tMA.go S1 ((m env).mono (fun _ _ z => z) (fun x m z => exE.step t z) p) fun ss n2 vs F2 H2 p2 t2 r2 S2 => ?_
  exact p2 _ F2 H2 (t.trans t2) (.cons (r1.grow t2.gr) (r2.weak fun p hp => t.free hp) fun i t z => z.elim)
theorem ma_own (he : DFr X W e fr) (hr : DMA X W es m) (hs : starEach (e :: es) X.env = (false, eval e X.env) :: starEach es X.env := by rfl) : DMA X W (e :: es) (mOwn fr m) := by
  refine ⟨PA.imp (pa_cons he.pe hr.pa hs) fun σ H Q ⟨B, n, F, env, S, h⟩ => tFr.go S h fun ds n1 a xs F1 H1 p t h0 hf hh r1 S1 => ?_⟩
  refine tMA.go S1 ((m env).mono (fun _ _ z => z) (fun x m z => exE.step t z) p) fun ss n2 vs F2 H2 p2 t2 r2 S2 => ?_
  obtain ⟨h2, f2⟩ := t2.keep a _ hh hf
  refine p2 _ F2 H2 (t.trans t2) (.cons ⟨a, xs, rfl, f2, h0, h2, r1.grow t2.gr⟩ (r2.weak fun p hp => t.free hp) fun i s _ hs hos z => ?_)
  obtain ⟨v, hv, sl⟩ := r2.get i s hs
  rw [hv] at z
  cases z
  cases s with
  | own l => obtain ⟨a', _, e, _, h1, _, _⟩ := sl; cases e; rw [hh] at h1; cases h1
  | _ => exact hos
variable {elt tg iter : Expr} {ifs : List Expr} {scope : Scope} {own : List (Str × Nat)} {fi : DIt} {t : D → En → Option En} {c : DTst}
theorem tLcF_of {g : TG} {is vs : List Nat} (hg : TgOk X is g t) (his : ∀ i ∈ is, i ∈ vs) : ∀ σ H Q, tFr X W (fLc fi vs t c f) σ H Q → tLc (tI X W fi) g (tT X W0 c) (tD X W0 f) vs σ H Q := by
  rintro σ H Q ⟨B, n, F, env, S, h⟩
  refine ⟨B, n, F, env, S, (fi env).mono (fun ds n1 p J F1 H1 t1 wk Dl hD => ?_) (fun _ _ z => z) h⟩
  obtain ⟨hz, p⟩ := p
  have hH : H Dl = none := t1.free hD
  have hF1 : F1 Dl = none := sub_free t1.sub hD
  refine ⟨fun i m H' => m = ds.length - i ∧ i ≤ ds.length ∧ ∃ (n2 : Nat) (F2 : Hp) (acc : List V) (ac : List D), Step n F H n2 F2 H' ∧ Grow n1 F1 n2 F2 ∧ H' Dl = some (.lst acc) ∧ F2 Dl = none ∧ Reps X.K X.mg n2 F2 acc ac ∧ acc.length ≤ i ∧
    (lcD vs t c f env (ds.drop i)).run n2 (fun xs n3 => okF X n F H Q (ac ++ xs) n3) (exE X W n F H σ), ⟨ds.length, by simp, Nat.zero_le _, n1, F1, [], [], t1.beside hH hF1, Grow.refl _ _, upd_same, hF1, .nil, Nat.le_refl _, ?_⟩, ?_⟩
  · rw [List.drop_zero]
    exact p
  rintro i m H2 ⟨rfl, hle, n2, F2, acc, ac, st2, g2, hD2, hF2, ra, hal, q2⟩
  by_cases hlt : i < ds.length
  · obtain ⟨d, hd, ed⟩ := drop_cons hlt
    rw [ed] at q2
    obtain ⟨hgo, hy⟩ := (wk i n2 F2 H2 g2 st2.sub).1 d hd
    refine .inr ⟨hgo, fun H' => ∃ m', m' < ds.length - i ∧ m' = ds.length - (i + 1) ∧ i + 1 ≤ ds.length ∧ ∃ (n2 : Nat) (F2 : Hp) (acc : List V) (ac : List D), Step n F H n2 F2 H' ∧ Grow n1 F1 n2 F2 ∧ H' Dl = some (.lst acc) ∧ F2 Dl = none ∧ Reps X.K X.mg n2 F2 acc ac ∧ acc.length ≤ i + 1 ∧
      (lcD vs t c f env (ds.drop (i + 1))).run n2 (fun xs n3 => okF X n F H Q (ac ++ xs) n3) (exE X W n F H σ), fun H' ⟨m', l, e, le, z⟩ => ⟨m', l, e, le, z⟩, fun x H3 y => ?_⟩
    obtain ⟨F3, t3, r3⟩ := hy x H3 y
    have S3 := (S.step (st2.trans t3)).wipe vs
    unfold lcD at q2
    cases e1 : t d (wipeE env vs) with
    | none => rw [e1] at q2; exact q2.elim
    | some env3 =>
      rw [e1] at q2
      refine hg B n2 F3 H3 _ _ env3 x d _ S3 r3 e1 fun σ3 S3' hl3 ha3 => ⟨wipe_again hl3 ha3 his, ?_⟩
      refine tT.go S3' ((c env3).mono (fun _ _ z => z) (fun _ _ z => z.elim) q2) fun v n4 F4 H4 p4 t4 S4 => ?_
      have t24 := t3.trans t4
      cases v with
      | true =>
        show tD X W0 f σ3 H4 _
        refine tD.go S4 ((f env3).mono (fun _ _ z => z) (fun _ _ z => z.elim) p4) fun d5 n5 y5 F5 H5 p5 t5 r5 S5 => ?_
        have t25 := t24.trans t5
        obtain ⟨hD5, hF5⟩ := t25.keep Dl _ hD2 hF2
        refine ⟨acc, hD5, by omega, ds.length - (i + 1), by omega, rfl, hlt, n5, F5, acc ++ [y5], ac ++ [d5], (st2.trans t25).beside hH hF5, g2.trans t25.gr, upd_same, hF5, (ra.grow t25.gr).append (.one r5), by simp; omega, ?_⟩
        refine (lcD vs t c f env _).mono (fun xs n6 z => ?_) (fun _ _ z => z) p5
        rw [List.append_assoc]
        exact z
      | false =>
        obtain ⟨hD4, hF4⟩ := t24.keep Dl _ hD2 hF2
        exact ⟨ds.length - (i + 1), by omega, rfl, hlt, n4, F4, acc, ac, st2.trans t24, g2.trans t24.gr, hD4, hF4, ra.grow t24.gr, by omega, p4⟩
  · have e : i = ds.length := by omega
    subst e
    rw [List.drop_length] at q2
    refine .inl ⟨(wk ds.length n2 F2 H2 g2 st2.sub).2 rfl, ?_⟩
    have q3 : okF X n F H Q (ac ++ []) n2 := q2
    rw [List.append_nil] at q3
    exact q3 Dl acc F2 H2 st2 hH hF2 hD2 ra
end

/-! ### statements -/
def sOwn (i : Nat) (f : DFl) : DStm := fun env => bnd (f env) fun ds => ret (.nx (env.set i (.own ds)))
def setsE : List Nat → List Slot → En → Option En
  | [], [], env => some env
  | i :: is, s :: ss, env => setsE is ss (env.set i s)
  | _, _, _ => none
def sPars (is : List Nat) (m : DSl) : DStm := fun env => bnd (m env) fun ss => match setsE is ss env with
  | some env' => ret (.nx env')
  | none => stuck
def sApp (i : Nat) (f : DExp) : DStm := fun env => match env[i]? with
  | some (.own ds) => bnd (f env) fun d => need (ds.length < sizeLine) (ret (.nx (env.set i (.own (ds ++ [d])))))
  | _ => stuck
def sSetIx (i : Nat) (fi fv : DExp) : DStm := fun env => match env[i]? with
  | some (.own ds) => bnd (fv env) fun d => bnd (fi env) fun j => match j with
    | .int j => match ixN ds.length j with
      | some m => ret (.nx (env.set i (.own (ds.set m d))))
      | none => stuck
    | _ => stuck
  | _ => stuck
def sFrz (i : Nat) (s : DStm) : DStm := fun env => s (frz i env)
def scalarD : D → Bool
  | .non => true | .bl _ => true | .int _ => true | .str _ => true | .ty _ => true
  | _ => false
def dPeek (i : Nat) (f : DExp) : DExp := fun env => bnd (noex (f (frz i env))) fun d => need (scalarD d = true) (ret d)
def tPeek (i : Nat) (f : DTst) : DTst := fun env => noex (f (frz i env))
section
variable {X : Cx} {W : WX} {k : Nat} {e e1 e2 : Expr} {es : List Expr} {f fi fv : DExp} {r : DArg} {fr : DFl} {m : DSl} {s : DStm} {c : DTst} {st : Stmt} {sts : List Stmt} {pos spos : Pos}
theorem own_ne {B : Bs} {n : Nat} {F H H1 : Hp} {σ : L2.St} {env : En} {a : Addr} (S : SL X.K X.mg B n F H σ env) (ha : H a = none) : ∀ (j : Nat) t, env[j]? = some t → IsOwn t → σ[j]? ≠ some (some (V.ref a)) := fun j t ht ot z => by
  cases t with
  | own l =>
    obtain ⟨b, ys, e, _, _, h1, _⟩ := S.slot j _ ht
    rw [z] at e; cases e
    rw [ha] at h1; cases h1
  | _ => exact ot
theorem tOwn_of {i : Nat} : ∀ Ds σ H, tS X W (sOwn i fr) Ds σ H → tAsg (tFr X W fr) (gName i) Ds σ H := fun Ds σ H ⟨B, n, F, env, S, h⟩ =>
  tFr.go S ((fr env).mono (fun _ _ z => z) (fun x m z => exS_of S z) h) fun ds n1 a xs F1 H1 p t h0 hf hh r S1 =>
    p _ F1 H1 t.gr (S1.setOwn i hf (S.st.free h0) hh r fun j u _ hu ou => own_ne (H1 := H1) S h0 j u hu ou)
theorem ds_own (i : Nat) {x : Str} {px : Pos} (kx : Kx X W k) (he : DFr X W e fr) (hi : X.N[i]? = some x := by rfl) (hx : Loc X.env.scope x := by first | exact .inl rfl | exact .inr rfl) (hs : swapsWith e (some (.Name x px)) pos.line X.env = pure false := by rfl)
    (hf : X.fn x = true ∨ X.env.scope.names.lookup x = some .local := by first | exact .inl rfl | exact .inr rfl) : DS X W (.Assign [.Name x px] e pos) (sOwn i fr) :=
  ⟨PS.imp (ps_set kx.nd hi hx he.pe hs hf) tOwn_of⟩
theorem setsE_ok {B : Bs} {n : Nat} {F H H0 : Hp} : ∀ {is : List Nat} {ss : List Slot} {vs : List V} {σ : L2.St} {env env' : En}, SL X.K X.mg B n F H σ env → (∀ p, H0 p = none → B.H p = none) → SlsOk X.K X.mg n F H H0 vs ss → setsE is ss env = some env' →
    (∀ (j i : Nat) t s v, env[j]? = some t → IsOwn t → ss[i]? = some s → IsOwn s → vs[i]? = some v → σ[j]? ≠ some (some v)) → SL X.K X.mg B n F H ((is.zip vs).foldl (fun σ p => σ.set p.1 (some p.2)) σ) env'
  | [], [], [], σ, env, env', S, _, _, h, _ => by cases h; exact S
  | [], _ :: _, _, σ, env, env', S, _, _, h, _ => by cases h
  | _ :: _, [], _, σ, env, env', S, _, _, h, _ => by cases h
  | i :: is, s :: ss, v :: vs, σ, env, env', S, hB, .cons h1 h2 h3, h, hne => by
    have h : setsE is ss (env.set i s) = some env' := h
    rw [List.zip_cons_cons, List.foldl_cons]
    cases s with
    | emp => exact h1.elim
    | val d =>
      refine setsE_ok (S.set i h1) hB h2 h fun j k t s v' ht ot hs os hv => ?_
      by_cases hj : i = j
      · subst hj
        have hl : i < env.length := by
          have := (List.getElem?_eq_some_iff.mp ht).1
          simpa using this
        rw [List.getElem?_set_self hl] at ht
        cases ht; exact ot.elim
      · rw [List.getElem?_set_ne hj] at ht ⊢
        exact hne j (k + 1) t s v' ht ot (by simpa using hs) os (by simpa using hv)
    | own ds =>
      obtain ⟨a, xs, rfl, hf, h0, hh, r⟩ := h1
      refine setsE_ok (S.setOwn i hf (hB a h0) hh r fun j t _ ht ot => hne j 0 t _ _ ht ot rfl trivial rfl) hB h2 h fun j k t s v' ht ot hs os hv => ?_
      by_cases hj : i = j
      · subst hj
        have hl : i < env.length := by
          have := (List.getElem?_eq_some_iff.mp ht).1
          simpa using this
        rw [List.getElem?_set_self (by rw [S.len]; exact hl)]
        intro z
        simp only [Option.some.injEq] at z
        exact h3 k s trivial hs os (by rw [hv, z])
      · rw [List.getElem?_set_ne hj] at ht ⊢
        exact hne j (k + 1) t s v' ht ot (by simpa using hs) os (by simpa using hv)
theorem setsE_len : ∀ {is : List Nat} {ss : List Slot} {env env' : En}, setsE is ss env = some env' → is.length = ss.length
  | [], [], _, _, _ => rfl
  | [], _ :: _, _, _, h => by cases h
  | _ :: _, [], _, _, h => by cases h
  | i :: is, s :: ss, env, env', h => by
    have h : setsE is ss (env.set i s) = some env' := h
    simp [setsE_len h]
theorem tPars_go {is : List Nat} {B : Bs} {n : Nat} {F H : Hp} {σ : L2.St} {env : En} {Ds : Ends} (S : SL X.K X.mg B n F H σ env) (h : (sPars is m env).run n (okS X B n F Ds) (exS X W B)) :
    tMA X W m σ H fun vs H1 => vs.length = is.length ∧ Ds.nx ((is.zip vs).foldl (fun σ p => σ.set p.1 (some p.2)) σ) H1 := by
  refine tMA.go S ((m env).mono (fun _ _ z => z) (fun x m z => exS_of S z) h) fun ss n1 vs F1 H1 p t r S1 => ?_
  dsimp only at p
  cases e1 : setsE is ss env with
  | none => rw [e1] at p; exact p.elim
  | some env' =>
    rw [e1] at p
    refine ⟨by rw [r.len, setsE_len e1], p _ F1 H1 t.gr (setsE_ok S1 (fun p hp => S.st.free hp) r e1 fun j i u s v hu ou hs os hv => ?_)⟩
    obtain ⟨v', hv', sl⟩ := r.get i s hs
    rw [hv] at hv'
    cases hv'
    cases s with
    | own l => obtain ⟨a, _, rfl, _, h0, _, _⟩ := sl; exact own_ne (H1 := H1) S h0 j u hu ou
    | _ => exact os.elim
theorem ds_pars2 (i j : Nat) {x y : Str} {a b : Expr} {px py pt : Pos} {kt k2 pt2} (kx : Kx X W k) (ha : DMA X W [a, b] m) (hi : X.N[i]? = some x := by rfl) (hj : X.N[j]? = some y := by rfl) (hij : i ≠ j := by decide)
    (hx : X.env.scope.names.lookup x = some .local := by rfl) (hy : X.env.scope.names.lookup y = some .local := by rfl) (hw : swappedStores [.Tuple [.Name x px, .Name y py] kt pt] (.Tuple [a, b] k2 pt2) X.env = pure (some [x, y]) := by rfl)
    (hs : swapsWithSole [.Tuple [.Name x px, .Name y py] kt pt] (.Tuple [a, b] k2 pt2) pos.line X.env = pure false := by rfl) : DS X W (.Assign [.Tuple [.Name x px, .Name y py] kt pt] (.Tuple [a, b] k2 pt2) pos) (sPars [i, j] m) := by
  refine ⟨PS.imp (ps_par kx.calm kx.nd hi hj hij hx hy ha.pa hw hs) fun D σ H ⟨B, n, F, env, S, h⟩ => ?_⟩
  obtain ⟨B', n', F', env', S', q⟩ := tPars_go S h
  refine ⟨B', n', F', env', S', (m env').mono (fun ss n1 p vs F1 H1 t r => ?_) (fun _ _ z => z) q⟩
  obtain ⟨hl, z⟩ := p vs F1 H1 t r
  match vs, hl, z with
  | [v, w], _, z => exact ⟨v, w, rfl, z⟩
theorem ds_pars3 (i j l : Nat) {x y z : Str} {a b c : Expr} {px py pz pt : Pos} {kt k2 pt2} (kx : Kx X W k) (ha : DMA X W [a, b, c] m) (hi : X.N[i]? = some x := by rfl) (hj : X.N[j]? = some y := by rfl) (hl : X.N[l]? = some z := by rfl) (hij : i ≠ j := by decide) (hil : i ≠ l := by decide) (hjl : j ≠ l := by decide)
    (hx : X.env.scope.names.lookup x = some .local := by rfl) (hy : X.env.scope.names.lookup y = some .local := by rfl) (hz : X.env.scope.names.lookup z = some .local := by rfl) (hw : swappedStores [.Tuple [.Name x px, .Name y py, .Name z pz] kt pt] (.Tuple [a, b, c] k2 pt2) X.env = pure (some [x, y, z]) := by rfl)
    (hs : swapsWithSole [.Tuple [.Name x px, .Name y py, .Name z pz] kt pt] (.Tuple [a, b, c] k2 pt2) pos.line X.env = pure false := by rfl) : DS X W (.Assign [.Tuple [.Name x px, .Name y py, .Name z pz] kt pt] (.Tuple [a, b, c] k2 pt2) pos) (sPars [i, j, l] m) := by
  refine ⟨PS.imp (ps_par3 kx.calm kx.nd hi hj hl hij hil hjl hx hy hz ha.pa hw hs) fun D σ H ⟨B, n, F, env, S, h⟩ => ?_⟩
  obtain ⟨B', n', F', env', S', q⟩ := tPars_go S h
  refine ⟨B', n', F', env', S', (m env').mono (fun ss n1 p vs F1 H1 t r => ?_) (fun _ _ z => z) q⟩
  obtain ⟨hl, z⟩ := p vs F1 H1 t r
  match vs, hl, z with
  | [u, v, w], _, z => exact ⟨u, v, w, rfl, z⟩
/-- x.append(e) -/
theorem ds_app (i : Nat) {x : Str} {px apos cpos : Pos} (kx : Kx X W k) (he : DE X W e f) (hN : X.N[i]? = some x := by rfl) (hv : Vis X.env.scope x := by first | exact .inl rfl | exact .inr (.inl rfl) | exact .inr (.inr rfl)) (hd : (x == ("__debug__" : Str)) = false := by decide) (hcd : (x == ("__classdict__" : Str)) = false := by decide)
    (hbase : attributeBase (.Name x px) "append" X.env (eval (.Name x px) X.env) = eval (.Name x px) X.env := by rfl)
    (hfew : ((backTo cpos (starEach [e] X.env)).all (fun x => !x.1) && (backToKw cpos (keywordEach [] X.env)).all (fun x => x.1.isSome) && decide ([e].length + ([] : List Keyword).length + (if ([] : List Keyword).isEmpty then 0 else 1) < 30)) = true := by rfl)
    (hline : (apos.endLine == cpos.line) = true := by rfl) (hs : starEach [e] X.env = (false, eval e X.env) :: starEach [] X.env := by rfl) (hplain : (backTo cpos (starEach [] X.env)).any (·.1) = false := by rfl) (hsw : swapsWith (.Call (.Attribute (.Name x px) "append" apos) [e] [] cpos) none pos.line X.env = pure false := by rfl) :
    DS X W (.Expr (.Call (.Attribute (.Name x px) "append" apos) [e] [] cpos) pos) (sApp i f) := by
  refine ⟨PS.imp (ps_expr (pe_bm PySem.F.plainAttrs_list PySem.F.slot_list_append PySem.F.type_list_append mt_append (pe_var hN hv hd hcd) (pa_cons he.pe pa_nil hs) hbase hfew hline hs hplain) hsw) fun D σ H ⟨B, n, F, env, S, h⟩ => ?_⟩
  unfold sApp at h
  split at h
  · rename_i ds e1
    obtain ⟨a, xs, hσ, hF, hB, hH, r⟩ := S.slot i _ e1
    refine ⟨.ref a, hσ, .inl ⟨rfl, xs, SqL.of hH⟩, ?_⟩
    have key : tD X W f σ H fun v H1 => rAppend (.ref a) [v] H1 fun _ H2 => D.nx σ H2 := by
      refine tD.go S ((f env).mono (fun _ _ z => z) (fun x m z => exS_of S z) h) fun d n1 v F1 H1 p t r1 S1 => ?_
      obtain ⟨hz, p⟩ := p
      obtain ⟨h1, f1⟩ := t.keep a _ hH hF
      refine ⟨a, xs, v, rfl, rfl, h1, by rw [r.length]; exact hz, ?_⟩
      exact p _ F1 _ t.gr (S1.upOwn e1 hσ ((r.grow t.gr).append (.one r1)))
    exact key
  · exact h.elim
/-- x[i] = e -/
theorem ds_setIx (i : Nat) {x : Str} {px tpos : Pos} (kx : Kx X W k) (he : DE X W e fv) (hi : DE X W e1 fi) (hN : X.N[i]? = some x := by rfl) (hv : Vis X.env.scope x := by first | exact .inl rfl | exact .inr (.inl rfl) | exact .inr (.inr rfl)) (hd : (x == ("__debug__" : Str)) = false := by decide) (hcd : (x == ("__classdict__" : Str)) = false := by decide)
    (ha : ∀ v, assign (.Subscript (.Name x px) e1 tpos) X.env v = (do
      let ov ← holding [v] (eval (.Name x px) X.env)
      let iv ← holding [v, ov] (eval e1 X.env)
      standAt tpos
      holding [v, ov, iv] (setItem ov iv v)
      release [v, ov, iv] []) := by intro _; rfl)
    (hs : swapsWithSole [.Subscript (.Name x px) e1 tpos] e pos.line X.env = pure false := by rfl) (hw : swappedStores [.Subscript (.Name x px) e1 tpos] e X.env = pure none := by rfl)
    (h1 : (assignEach [.Subscript (.Name x px) e1 tpos] X.env).map (·.2) = [assign (.Subscript (.Name x px) e1 tpos) X.env] := by rfl) : DS X W (.Assign [.Subscript (.Name x px) e1 tpos] e pos) (sSetIx i fi fv) := by
  refine ⟨PS.imp (ps_asg he.pe (pg_sub (pe_var hN hv hd hcd) hi.pe set_list ha) hs hw h1) fun D σ H ⟨B, n, F, env, S, h⟩ => ?_⟩
  unfold sSetIx at h
  split at h
  · rename_i ds e1
    obtain ⟨a, xs, hσ, hF, hB, hH, r⟩ := S.slot i _ e1
    refine tD.go S ((fv env).mono (fun _ _ z => z) (fun x m z => exS_of S z) h) fun d n1 v F1 H1 p t r1 S1 => ?_
    refine ⟨.ref a, hσ, ?_⟩
    refine tD.go S1 ((fi env).mono (fun _ _ z => z) (fun x m z => exS_of S1 z) p) fun j n2 w F2 H2 p2 t2 r2 S2 => ?_
    dsimp only at p2
    split at p2
    · split at p2
      · rename_i m hm
        cases r2
        obtain ⟨h2, f2⟩ := (t.trans t2).keep a _ hH hF
        refine ⟨a, xs, _, m, rfl, rfl, h2, by rw [r.length]; exact hm, ?_⟩
        exact p2 _ F2 _ (t.gr.trans t2.gr) (S2.upOwn e1 hσ ((r.grow (t.gr.trans t2.gr)).set m (r1.grow t2.gr)))
      · exact p2.elim
    · exact p2.elim
  · exact h.elim
/-- a list of one's own is a value from here on -/
theorem ds_frz (i : Nat) (h : DS X W st s) : DS X W st (sFrz i s) := by
  refine ⟨PS.imp h.ps fun D σ H ⟨B, n, F, env, S, h⟩ => ?_⟩
  obtain ⟨F', S', g, _, _⟩ := S.frz i
  exact ⟨B, n, F', _, S', (s _).mono (fun fl m p => okS.step g p) (fun _ _ z => z) h⟩
theorem dss_frz (i : Nat) (h : DSs X W sts s) : DSs X W sts (sFrz i s) := by
  refine ⟨PSs.imp h.pss fun D σ H ⟨B, n, F, env, S, h⟩ => ?_⟩
  obtain ⟨F', S', g, _, _⟩ := S.frz i
  exact ⟨B, n, F', _, S', (s _).mono (fun fl m p => okS.step g p) (fun _ _ z => z) h⟩
/-- back from a look -/
theorem step_back {n n1 : Nat} {F F' F1 H H1 : Hp} (hs : ∀ b o, F b = some o → F' b = some o) (hn : ∀ b, F b = none → F' b ≠ none → ∃ xs, H b = some (.lst xs) ∧ F' b = some (.lst xs)) (t : Step n F' H n1 F1 H1) :
    Step n F H n1 (fun b => if (F b).isSome ∨ (F' b).isNone then F1 b else none) H1 := by
  have hin : ∀ b o, F b = some o → (if (F b).isSome ∨ (F' b).isNone then F1 b else none) = F1 b := fun b o e => if_pos (.inl (by rw [e]; rfl))
  refine ⟨⟨t.gr.le, fun b o e z => ?_, fun b l L sd k e => ?_, fun b ps e => ?_, fun P q hm z => ?_⟩, fun b o e => ?_, fun b o e z => ?_⟩
  · exact (hin b o e).trans (t.gr.obj b o (hs b o e) z)
  · obtain ⟨L', k', h1, h2⟩ := t.gr.rng b l L sd k (hs b _ e)
    exact ⟨L', k', (hin b _ e).trans h1, h2⟩
  · obtain ⟨ps', h'⟩ := t.gr.tab.1 b ps (hs b _ e)
    exact ⟨ps', (hin b _ e).trans h'⟩
  · have z' := z
    obtain ⟨ps0, e0, _⟩ := z
    obtain ⟨ps, e1, e2, e3⟩ := t.gr.tab.2 P q hm (LamX.TabS.ext z' hs)
    refine ⟨ps, (hin P _ e0).trans e1, e2, fun pos cv hc => ?_⟩
    obtain ⟨c, e4, e5⟩ := e3 pos cv hc
    refine ⟨c, e4, ?_⟩
    by_cases hb : (F c).isSome ∨ (F' c).isNone
    · exact (if_pos hb).trans e5
    · exfalso
      have h1 : F c = none := by
        cases e : F c with
        | none => rfl
        | some u => exact absurd (.inl (by rw [e]; rfl)) hb
      have h2 : F' c ≠ none := fun e => hb (.inr (by rw [e]; rfl))
      obtain ⟨xs, _, h3⟩ := hn c h1 h2
      have h4 := t.gr.obj c _ h3 not_rng_lst
      rw [e5] at h4
      unfold LamX.CodeO at h4; cases h4
  · have e : (if (F b).isSome ∨ (F' b).isNone then F1 b else none) = some o := e
    by_cases hb : (F b).isSome ∨ (F' b).isNone
    · rw [if_pos hb] at e; exact t.sub b o e
    · rw [if_neg hb] at e; cases e
  · refine ⟨?_, ?_⟩
    · cases e1 : F' b with
      | none => exact (t.keep b o e e1).1
      | some u =>
        obtain ⟨xs, h1, h2⟩ := hn b z (by rw [e1]; exact nofun)
        rw [h1] at e; cases e
        exact t.sub b _ (t.gr.obj b _ h2 not_rng_lst)
    · show (if (F b).isSome ∨ (F' b).isNone then F1 b else none) = none
      by_cases hb : (F b).isSome ∨ (F' b).isNone
      · rw [if_pos hb]
        rcases hb with hb | hb
        · rw [z] at hb; cases hb
        · exact (t.keep b o e (by simpa using hb)).2
      · rw [if_neg hb]
theorem rep_scalar {K : PySem.W.Frag} {mg : Str → Option Value} {n : Nat} {F F' : Hp} {v : V} {d : D} (h : scalarD d = true) (r : Rep K mg n F v d) : Rep K mg n F' v d := by
  cases d with
  | non => cases r; exact .non
  | bl b => cases r; exact .bl b
  | int i => cases r; exact .int i
  | str x => cases r; exact .str x
  | ty t => cases r; exact .ty t
  | _ => cases h
theorem de_peek (i : Nat) (h : DE X W e f) : DE X W e (dPeek i f) := by
  refine ⟨PE.imp h.pe fun σ H Q ⟨B, n, F, env, S, h⟩ => ?_⟩
  obtain ⟨F', S', _, hs, hn⟩ := S.frz i
  refine ⟨B, n, F', _, S', (f _).mono (fun d m p v F1 H1 t r => ?_) (fun _ _ z => z.elim) h⟩
  obtain ⟨hd, p⟩ := p
  exact p v _ H1 (step_back hs hn t) (rep_scalar hd r)
theorem dt_peek (i : Nat) (h : DT X W e c) : DT X W e (tPeek i c) := by
  refine ⟨PT.imp h.pt fun σ H Q ⟨B, n, F, env, S, h⟩ => ?_⟩
  obtain ⟨F', S', _, hs, hn⟩ := S.frz i
  exact ⟨B, n, F', _, S', (c _).mono (fun d m p F1 H1 t => p _ H1 (step_back hs hn t)) (fun _ _ z => z.elim) h⟩
variable {elt tg iter : Expr} {ifs : List Expr} {scope : Scope} {t : D → En → Option En} {c : DTst}  {fit : DIt}
/-- name = [..], a list of one's own -/
theorem ds_ownLc (kx : Kx X W k) (i : Nat) {y : Str} {py spos : Pos} {own : List (Str × Nat)} {is : List Nat} {g : TG} (hi : DI X W tg iter fit) (ok : BlkOk X.N X.env.scope scope own)
    (hg : ∀ (s : Shared) (H : Hp) (C : Addr) (cl : List (Str × Addr)) (fp : List Addr), DG (X.blk s H scope (compEnvC scope cl C X.env) fp) is tg t g)
    (ht : ∀ (s : Shared) (H : Hp) (C : Addr) (cl : List (Str × Addr)) (fp : List Addr), DTs (X.blk s H scope (compEnvC scope cl C X.env) fp) W0 ifs c)
    (he : ∀ (s : Shared) (H : Hp) (C : Addr) (cl : List (Str × Addr)) (fp : List Addr), DE (X.blk s H scope (compEnvC scope cl C X.env) fp) W0 elt f)
    (his : ∀ i ∈ is, i ∈ own.map (·.2) := by decide) (hy : X.N[i]? = some y := by rfl) (hyl : X.env.scope.names.lookup y = some .local := by rfl)
    (hsw : swapsWith (.ListComp elt [⟨tg, iter, ifs, 0⟩] scope pos) (some (.Name y py)) spos.line X.env = pure true := by exact sw_true rfl rfl rfl (by decide +kernel))
    (hs : ∀ x, foldedSetIterable iter X.env x = pure x := by intro _; rfl) : DS X W (.Assign [.Name y py] (.ListComp elt [⟨tg, iter, ifs, 0⟩] scope pos) spos) (sOwn i (fLc fit (own.map (·.2)) t c f)) := by
  refine ⟨⟨fun pins s σ H D I q => (ps_setLc (te := tD X W0 f) (tt := tT X W0 c) kx.calm kx.nd hy hyl hsw hi.pi ok (fun s H C cl fp => (hg s H C cl fp).pg) (fun s H C cl fp => (ht s H C cl fp).pts) (fun s H C cl fp => (he s H C cl fp).pe) hs).run pins s σ H D I ?_⟩⟩
  exact tLcF_of (hg s H 0 [] []).ok his σ H _ (tOwn_of D σ H q)
end
end DL

end
section
set_option Elab.async false
set_option linter.all false
set_option maxRecDepth 100000
set_option maxHeartbeats 4000000
/-! DDraw: the script, the dict of the draws. -/
namespace DL
open PySem PySem.Spec PyProof.Rows L2
variable [Tb]

/-! ### the script -/
def anyInts (k : Nat) : M (List Int) := any fun ns => ns.length = k
def scrOf : D → M (List D)
  | .scr k => bnd (anyInts k) fun ns => ret (ns.map D.int)
  | _ => stuck
def iScr (f : DExp) : DIt := fun env => bnd (f env) scrOf
def gListS : List D → M D
  | [.scr k] => bnd (anyInts k) fun ns => ret (.lst (ns.map D.int))
  | _ => stuck
section
variable {X : Cx} {W : WX} {e tg : Expr} {f : DExp} {pos p2 : Pos} {lo hi : Option Expr} {fl fh : DOpt}
theorem walk_scr {n : Nat} {F : Hp} {a : Addr} {ns : List Int} (h : SqL X.K F a (ns.map V.int)) : WalkD X (Itl X.K a) n F (ns.map D.int) := fun i n2 F2 H2 g s => by
  have h2 : SqL X.K H2 a (ns.map V.int) := SqL.grow (Grow.same (Nat.le_refl n2) s) (SqL.grow g h)
  refine ⟨fun d hd => ?_, fun e => ⟨_, h2, by rw [e, List.length_map, List.length_map]; exact Nat.le_refl _⟩⟩
  rw [List.getElem?_map] at hd
  cases e1 : ns[i]? with
  | none => rw [e1] at hd; cases hd
  | some z =>
    rw [e1] at hd
    cases hd
    have e2 : (ns.map V.int)[i]? = some (.int z) := by rw [List.getElem?_map, e1]; rfl
    refine ⟨⟨_, _, h2, e2⟩, fun x H3 y => ?_⟩
    obtain ⟨rfl, y⟩ := y
    have e3 := y _ h2
    rw [e2] at e3
    cases e3
    exact ⟨F2, Step.refl s, .int z⟩
theorem di_scr (he : DE X W e f) : DI X W tg e (iScr f) := by
  refine ⟨⟨fun pins s σ H R I h => ?_⟩⟩
  obtain ⟨B, n, F, env, S, h⟩ := h
  have hA : tD X W f σ H (fun v H1 => ∃ a xs, v = .ref a ∧ SqL X.K H1 a xs ∧ R (Itl X.K a) H1) := tD.go S h fun d n1 v F1 H1 p t r S1 => by
    unfold scrOf at p
    split at p
    · cases r with
      | scr e => exact ⟨_, _, rfl, SqL.grow (Grow.same (Nat.le_refl n1) S1.sub) e, p _ rfl _ F1 H1 t (walk_scr e)⟩
    · exact p.elim
  refine thn (he.pe.run pins s σ H _ I hA) fun u s1 ⟨v, H1, I1, r1, q1⟩ => ?_
  obtain ⟨a, xs, rfl, hq, q⟩ := q1
  cases r1
  obtain ⟨its, _, pl, _⟩ := I1.list hq
  refine wpAny_pyIter_list pl.isList ⟨_, [s1.heap.objs.size], _, _, H1, rfl, I1.kept (t' := s1.toks) fun b o z => Heap.get?_push_of_some _ z, turn_list a _, ⟨_, Heap.get?_push_size _ rfl, rfl, rfl⟩, fun b hb => ?_, q⟩
  rw [List.mem_singleton] at hb
  subst hb
  exact I1.fpOk (Nat.le_refl _) (I1.hok.fresh (Nat.le_refl _))
theorem cd_listS : CallD X (fun xs H Q => ∃ p ys, xs = [.ref p] ∧ (SqL X.K H p ys ∨ SqT X.K H p ys) ∧ ∀ l, H l = none → Q (.ref l) (upd H l (.lst ys))) gListS := fun n F H xs ds Q E s r q => by
  unfold gListS at q
  split at q
  · cases r with
    | cons rd rn =>
      cases rn
      cases rd with
      | scr e => exact ⟨_, _, rfl, .inl (SqL.grow (Grow.same (Nat.le_refl n) s) e), fun l hl => q _ rfl _ _ _ (Step.new s hl) (Step.newLst s hl Reps.ints)⟩
  · exact q.elim
/-- the script's slices -/
def dSlS (fe : DExp) (fl fh : DOpt) : DExp := fun env => bnd (fe env) fun d => bnd (fl env) fun l => bnd (fh env) fun h => bnd (scrOf d) fun xs => ret (.lst (cutD xs l h))
theorem de_slS (he : DE X W e f) (hl : DO X W lo fl) (hh : DO X W hi fh) : DE X W (.Subscript e (.Slice lo hi none p2) pos) (dSlS f fl fh) := by
  refine ⟨PE.imp (pe_slice sl_list he.pe hl.po hh.po) fun σ H Q ⟨B, n, F, env, S, h⟩ => tD.go S h fun d n1 v F1 H1 p1 t1 r1 S1 => ?_⟩
  refine tOpt.go S1 ((fl env).mono (fun _ _ z => z) (fun _ _ z => exE.step t1 z) p1) fun l n2 F2 H2 p2 t2 S2 => ?_
  refine tOpt.go S2 ((fh env).mono (fun _ _ z => z) (fun _ _ z => exE.step (t1.trans t2) z) p2) fun u n3 F3 H3 p3 t3 S3 => ?_
  have t := (t1.trans t2).trans t3
  have r := (r1.grow t2.gr).grow t3.gr
  have sb := S3.sub
  unfold scrOf at p3
  split at p3
  · cases r with
    | scr e =>
      have p4 := p3 _ rfl
      exact ⟨_, _, rfl, SqL.grow (Grow.same (Nat.le_refl n3) sb) e, fun p hp => p4 _ _ _ (t.trans (Step.new sb hp)) (Step.newLst sb hp (Reps.ints.cut _ _))⟩
  · exact p3.elim
end

/-! ### the dict of the draws: reads -/
def rngL : D → M D
  | .rng _ _ => any fun d => ∃ i, d = .int i
  | _ => stuck
def rngK : D → M D
  | .rng _ _ => ⟨fun n P _ => ∀ k : Int, 0 ≤ k → k ≤ n → P (.int k) n, fun h _ q k a b => h _ _ (q k a b)⟩
  | _ => stuck
def rngC : D → M D
  | .rng _ c => any fun d => ∃ cs : List Int, cs.length = c ∧ cs ≠ [] ∧ d = .lst (cs.map D.int)
  | _ => stuck
def dRg (g : D → M D) (f : DExp) : DExp := fun env => bnd (f env) g
theorem str_ne {a b : String} (h : Str.ofString a ≠ Str.ofString b) : ¬ (Sum.inr (Str.ofString a) : Key) = Sum.inr (Str.ofString b) := fun e => h (Sum.inr.inj e)
theorem rng_left (l : Addr) (L : Int) (sd : Option Int) (k : Int) : ∃ kvs, rngO l L sd k = .dK kvs ∧ valV kvs (Sum.inr "left") = some (.int L) ∧ kvs.length < sizeLine ∧ ∀ i, HO.dK (putK kvs (Sum.inr "left") (.int i)) = rngO l i sd k := by
  cases sd with
  | none => exact ⟨_, rfl, by rfl, by show 3 < sizeLine; decide, fun i => by rfl⟩
  | some z => exact ⟨_, rfl, by rfl, by show 4 < sizeLine; decide, fun i => by rfl⟩
theorem rng_spot (l : Addr) (L : Int) (sd : Option Int) (k : Int) : ∃ kvs, rngO l L sd k = .dK kvs ∧ valV kvs (Sum.inr "spot") = some (.int k) ∧ kvs.length < sizeLine ∧ ∀ i, HO.dK (putK kvs (Sum.inr "spot") (.int i)) = rngO l L sd i := by
  cases sd with
  | none => exact ⟨_, rfl, by rfl, by show 3 < sizeLine; decide, fun i => by rfl⟩
  | some z => exact ⟨_, rfl, by rfl, by show 4 < sizeLine; decide, fun i => by rfl⟩
theorem rng_cells (l : Addr) (L : Int) (sd : Option Int) (k : Int) : ∃ kvs, rngO l L sd k = .dK kvs ∧ valV kvs (Sum.inr "cells") = some (.ref l) := by
  cases sd with
  | none => exact ⟨_, rfl, by rfl⟩
  | some z => exact ⟨_, rfl, by rfl⟩
section
variable {X : Cx} {W : WX} {k : Nat} {e value : Expr} {f fv : DExp} {pos p2 tpos : Pos} {j : Nat}
theorem nosl_k {c : Const} {j : Nat} {p : Pos} : NoSl (.Constant c j p) := fun _ _ => rfl
theorem units_ok (c : Kx X W k) : X.A.units + 65 < cLine := by have := c.rm.room.un; omega
theorem units_1 (c : Kx X W k) : X.A.units + 1 < cLine := by have := c.rm.room.un; omega
theorem de_rngL (c : Kx X W k) (he : DE X W e f) : DE X W (.Subscript e (.Constant (.str "left") j p2) pos) (dRg rngL f) := by
  refine ⟨PE.imp (pe_dget (units_1 c) he.pe pe_str nosl_k) fun σ H Q ⟨B, n, F, env, S, h⟩ => tD.go S h fun d n1 v F1 H1 p t r S1 => ?_⟩
  unfold rngL at p
  split at p
  · cases r with
    | @rng ra rl rL rk rsd rcs h1 h2 h3 h4 =>
      obtain ⟨kvs, e1, e2, _⟩ := rng_left rl rL rsd rk
      rw [e1] at h1
      refine ⟨ra, .int rL, rfl, ?_, p (.int rL) ⟨_, rfl⟩ _ F1 H1 t (.int rL)⟩
      rw [← e2]
      exact DGet.k (k := Sum.inr "left") (S1.sub _ _ h1)
  · exact p.elim
theorem de_rngK (c : Kx X W k) (he : DE X W e f) : DE X W (.Subscript e (.Constant (.str "spot") j p2) pos) (dRg rngK f) := by
  refine ⟨PE.imp (pe_dget (units_1 c) he.pe pe_str nosl_k) fun σ H Q ⟨B, n, F, env, S, h⟩ => tD.go S h fun d n1 v F1 H1 p t r S1 => ?_⟩
  unfold rngK at p
  split at p
  · cases r with
    | @rng ra rl rL rk rsd rcs h1 h2 h3 h4 =>
      obtain ⟨kvs, e1, e2, _⟩ := rng_spot rl rL rsd rk
      rw [e1] at h1
      refine ⟨ra, .int rk, rfl, ?_, p rk h2.1 h2.2 _ F1 H1 t (.int rk)⟩
      rw [← e2]
      exact DGet.k (k := Sum.inr "spot") (S1.sub _ _ h1)
  · exact p.elim
theorem de_rngC (c : Kx X W k) (he : DE X W e f) : DE X W (.Subscript e (.Constant (.str "cells") j p2) pos) (dRg rngC f) := by
  refine ⟨PE.imp (pe_dget (units_1 c) he.pe pe_str nosl_k) fun σ H Q ⟨B, n, F, env, S, h⟩ => tD.go S h fun d n1 v F1 H1 p t r S1 => ?_⟩
  unfold rngC at p
  split at p
  · cases r with
    | @rng ra rl rL rk rsd rcs h1 h2 h3 h4 =>
      obtain ⟨kvs, e1, e2⟩ := rng_cells rl rL rsd rk
      rw [e1] at h1
      refine ⟨ra, .ref rl, rfl, ?_, p _ ⟨rcs, rfl, h4, rfl⟩ _ F1 H1 t (.lst h3 Reps.ints)⟩
      rw [← e2]
      exact DGet.k (k := Sum.inr "cells") (S1.sub _ _ h1)
  · exact p.elim

/-! ### writes: each tells the counter of one draw more -/
def tickL (d : D) : M Unit := match d with
  | .int _ => tick
  | _ => stuck
def tickK (d : D) : M Unit := match d with
  | .int i => ⟨fun n P _ => (0 ≤ i ∧ i ≤ n + 1) ∧ P () (n + 1), fun h _ q => ⟨q.1, h _ _ q.2⟩⟩
  | _ => stuck
def isRng : D → M Unit
  | .rng _ _ => ret ()
  | _ => stuck
def sRg (g : D → M Unit) (f fv : DExp) : DStm := fun env => bnd (fv env) fun d => bnd (f env) fun m => bnd (isRng m) fun _ => bnd (g d) fun _ => ret (.nx env)
theorem step_rng {n n' : Nat} {F H : Hp} {a l : Addr} {L L' k k' : Int} {sd : Option Int} (hn : n ≤ n') (s : ∀ b o, F b = some o → H b = some o) (h : F a = some (rngO l L sd k)) (g : RngGood n k → RngGood n' k') : Step n F H n' (upd F a (rngO l L' sd k')) (upd H a (rngO l L' sd k')) := by
  have nx : ∀ (b : Addr) (o : HO), (∀ kvs, o ≠ .dK kvs) → F b = some o → upd F a (rngO l L' sd k') b = some o := fun b o no e => by
    have hb : b ≠ a := fun q => by
      subst q; rw [h] at e; cases e
      obtain ⟨kvs, z⟩ := rngO_dk l L sd k
      exact no kvs z
    rw [upd_ne hb]; exact e
  refine ⟨⟨hn, fun b o e z => ?_, fun b l2 L2 sd2 k2 e => ?_, .of (fun b ps e => nx b _ (fun _ z => by cases z) e) fun b φ e => nx b _ (fun _ z => by cases z) e⟩, fun b o e => ?_, fun b o e z => ?_⟩
  · have hb : b ≠ a := fun q => by subst q; rw [h] at e; cases e; exact z (.inl ⟨_, _, _, _, rfl⟩)
    rw [upd_ne hb]; exact e
  · by_cases hb : b = a
    · subst hb
      rw [h] at e
      have e := Option.some.inj e
      obtain ⟨rfl, rfl, rfl, rfl⟩ := rngO_inj e
      exact ⟨L', k', upd_same, g⟩
    · rw [upd_ne hb]
      exact ⟨L2, k2, e, fun q => ⟨q.1, by have := q.2; omega⟩⟩
  · by_cases hb : b = a
    · subst hb; rw [upd_same] at e ⊢; exact e
    · rw [upd_ne hb] at e ⊢; exact s b o e
  · have hb : b ≠ a := fun q => by subst q; rw [h] at z; cases z
    rw [upd_ne hb, upd_ne hb]; exact ⟨e, z⟩
theorem ds_rngL (c : Kx X W k) (he : DE X W e f) (hv : DE X W value fv) (hs : swapsWith value (some (.Subscript e (.Constant (.str "left") j p2) tpos)) pos.line X.env = pure false := by rfl) :
    DS X W (.Assign [.Subscript e (.Constant (.str "left") j p2) tpos] value pos) (sRg tickL f fv) := by
  refine ⟨PS.imp (ps_dput (units_1 c) he.pe pe_str hv.pe hs) fun D σ H ⟨B, n, F, env, S, h⟩ => ?_⟩
  refine tD.go S ((fv env).mono (fun _ _ z => z) (fun x m z => exS_of S z) h) fun d n1 v F1 H1 p t r S1 => ?_
  refine tD.go S1 ((f env).mono (fun _ _ z => z) (fun x m z => exS_of S1 z) p) fun m n2 u F2 H2 p2 t2 r2 S2 => ?_
  dsimp only at p2
  unfold isRng at p2
  split at p2
  · rw [bnd_ret] at p2
    unfold tickL at p2
    cases d with
    | int i =>
      cases r
      cases r2 with
      | @rng ra rl rL rk rsd rcs h1 h2 h3 h4 =>
        obtain ⟨kvs, e1, _, e2, e3⟩ := rng_left rl rL rsd rk
        have st := step_rng (n := n2) (n' := n2 + 1) (L' := i) (k' := rk) (by omega) S2.sub h1 (fun q => ⟨q.1, by have := q.2; omega⟩)
        rw [e1] at h1
        refine ⟨_, _, rfl, DPut.k (k := Sum.inr "left") (S2.sub _ _ h1) e2, ?_⟩
        have S3 := S2.step st
        rw [← e3 i] at S3
        exact p2 σ _ _ ((t.gr.trans t2.gr).trans st.gr) (by rw [e3 i] at S3 ⊢; exact S3)
    | _ => exact p2.elim
  · exact p2.elim
theorem ds_rngK (c : Kx X W k) (he : DE X W e f) (hv : DE X W value fv) (hs : swapsWith value (some (.Subscript e (.Constant (.str "spot") j p2) tpos)) pos.line X.env = pure false := by rfl) :
    DS X W (.Assign [.Subscript e (.Constant (.str "spot") j p2) tpos] value pos) (sRg tickK f fv) := by
  refine ⟨PS.imp (ps_dput (units_1 c) he.pe pe_str hv.pe hs) fun D σ H ⟨B, n, F, env, S, h⟩ => ?_⟩
  refine tD.go S ((fv env).mono (fun _ _ z => z) (fun x m z => exS_of S z) h) fun d n1 v F1 H1 p t r S1 => ?_
  refine tD.go S1 ((f env).mono (fun _ _ z => z) (fun x m z => exS_of S1 z) p) fun m n2 u F2 H2 p2 t2 r2 S2 => ?_
  dsimp only at p2
  unfold isRng at p2
  split at p2
  · rw [bnd_ret] at p2
    unfold tickK at p2
    cases d with
    | int i =>
      cases r
      cases r2 with
      | @rng ra rl rL rk rsd rcs h1 h2 h3 h4 =>
        obtain ⟨⟨g1, g2⟩, p2⟩ := p2
        obtain ⟨kvs, e1, _, e2, e3⟩ := rng_spot rl rL rsd rk
        have st := step_rng (n := n2) (n' := n2 + 1) (L' := rL) (k' := i) (by omega) S2.sub h1 (fun _ => ⟨g1, by omega⟩)
        rw [e1] at h1
        refine ⟨_, _, rfl, DPut.k (k := Sum.inr "spot") (S2.sub _ _ h1) e2, ?_⟩
        rw [e3 i]
        exact p2 σ _ _ ((t.gr.trans t2.gr).trans st.gr) (S2.step st)
    | _ => exact p2.elim
  · exact p2.elim
end

/-! ### the dict's display -/
def begC (z : Bool) (c l s : D) : M D := match c, l, s with
  | .lst cs, .int _, .int k => match intsD cs with
    | some ns => need (ns ≠ [] ∧ k = 0) (ret (.rng z ns.length))
    | none => stuck
  | _, _, _ => stuck
def dBeg (fc fl fs : DExp) : DExp := fun env => bnd (fc env) fun c => bnd (fl env) fun l => bnd (fs env) fun s => begC false c l s
def dBeg4 (fl fz fc fs : DExp) : DExp := fun env => bnd (fl env) fun l => bnd (fz env) fun z => bnd (fc env) fun c => bnd (fs env) fun s => match z with
  | .int _ => begC true c l s
  | _ => stuck
section
variable {X : Cx} {W : WX} {k : Nat} {ec el es ez : Expr} {fc fl fs fz : DExp} {pos p1 p2 p3 p4 : Pos} {j1 j2 j3 j4 : Nat}
theorem SL.besides {B : Bs} {n : Nat} {F H : Hp} {σ : L2.St} {env : En} {p : Addr} {o : HO} (S : SL X.K X.mg B n F H σ env) (h : H p = none) : SL X.K X.mg B n F (upd H p o) σ env :=
  S.beside (sub_free S.sub h) (S.st.free h) fun j l hj => own_ne (H1 := H) S h j _ hj trivial
theorem de_beg (hc : DE X W ec fc) (hl : DE X W el fl) (hs : DE X W es fs) : DE X W (.Dict [some (.Constant (.str "cells") j1 p1), some (.Constant (.str "left") j2 p2), some (.Constant (.str "spot") j3 p3)] [ec, el, es] pos) (dBeg fc fl fs) := by
  refine ⟨PE.imp (pe_disp (pps_cons pe_str hc.pe (pps_cons pe_str hl.pe (pps_cons pe_str hs.pe pps_nil))) rfl rfl (by simp) (by simp)) fun σ H Q ⟨B, n, F, env, S, h⟩ p hp => ?_⟩
  have S0 : SL X.K X.mg B n F (upd H p (.dK [])) σ env := S.besides hp
  have hF : F p = none := sub_free S.sub hp
  have conv : ∀ x m, exE X W n F H σ x m → exE X W n F (upd H p (.dK [])) σ x m := fun x m z cls dx F' H' t r => by
    refine z cls dx F' H' ⟨t.gr, t.sub, fun b o e q => ?_⟩ r
    exact t.keep b o (by rw [upd_ne (ne_of_none e hp)]; exact e) q
  refine tD.go S0 ((fc env).mono (fun _ _ z => z) conv h) fun c n1 vc F1 H1 q1 t1 r1 S1 => ?_
  refine tD.go S1 ((fl env).mono (fun _ _ z => z) (fun x m z => exE.step t1 (conv x m z)) q1) fun l n2 vl F2 H2 q2 t2 r2 S2 => ?_
  refine tD.go S2 ((fs env).mono (fun _ _ z => z) (fun x m z => exE.step (t1.trans t2) (conv x m z)) q2) fun s n3 vs F3 H3 q3 t3 r3 S3 => ?_
  have t := (t1.trans t2).trans t3
  obtain ⟨hp3, fp3⟩ := t.keep p _ upd_same hF
  refine ⟨hp3, ?_⟩
  dsimp only at q3
  unfold begC at q3
  split at q3
  · rename_i cs iL ik
    split at q3
    · rename_i ns hns
      obtain ⟨⟨h0, rfl⟩, q⟩ := q3
      have rc := (r1.grow t2.gr).grow t3.gr
      rw [intsD_of hns] at rc
      cases r2; cases r3
      cases rc with
      | @lst a xs _ e rr =>
        have ex := rr.ofInts
        subst ex
        refine ⟨[(Sum.inr "cells", .ref a), (Sum.inr "left", .int iL), (Sum.inr "spot", .int 0)], rfl, by show 3 ≤ 15; decide, ?_⟩
        have hb : H3 a ≠ none := by rw [S3.sub _ _ e]; simp
        have t' : Step n F H n3 F3 H3 := ⟨t.gr, t.sub, fun b o e q => t.keep b o (by rw [upd_ne (ne_of_none e hp)]; exact e) q⟩
        have hpa : a ≠ p := fun z => by rw [z, fp3] at e; cases e
        have t2' : Step n F H n3 (upd F3 p (rngO a iL none 0)) (upd H3 p (rngO a iL none 0)) := (t'.beside hp fp3).freeze hp fp3 upd_same
        refine q (.ref p) _ _ t2' (.rng (upd_same) ⟨Int.le_refl _, Int.natCast_nonneg _⟩ (by rw [upd_ne hpa]; exact e) h0)
    · exact q3.elim
  · exact q3.elim
theorem de_beg4 (hl : DE X W el fl) (hz : DE X W ez fz) (hc : DE X W ec fc) (hs : DE X W es fs) : DE X W (.Dict [some (.Constant (.str "left") j1 p1), some (.Constant (.str "seed") j2 p2), some (.Constant (.str "cells") j3 p3), some (.Constant (.str "spot") j4 p4)] [el, ez, ec, es] pos) (dBeg4 fl fz fc fs) := by
  refine ⟨PE.imp (pe_disp (pps_cons pe_str hl.pe (pps_cons pe_str hz.pe (pps_cons pe_str hc.pe (pps_cons pe_str hs.pe pps_nil)))) rfl rfl (by simp) (by simp)) fun σ H Q ⟨B, n, F, env, S, h⟩ p hp => ?_⟩
  have S0 : SL X.K X.mg B n F (upd H p (.dK [])) σ env := S.besides hp
  have hF : F p = none := sub_free S.sub hp
  have conv : ∀ x m, exE X W n F H σ x m → exE X W n F (upd H p (.dK [])) σ x m := fun x m z cls dx F' H' t r => by
    refine z cls dx F' H' ⟨t.gr, t.sub, fun b o e q => ?_⟩ r
    exact t.keep b o (by rw [upd_ne (ne_of_none e hp)]; exact e) q
  refine tD.go S0 ((fl env).mono (fun _ _ z => z) conv h) fun l n1 vl F1 H1 q1 t1 r1 S1 => ?_
  refine tD.go S1 ((fz env).mono (fun _ _ z => z) (fun x m z => exE.step t1 (conv x m z)) q1) fun z n2 vz F2 H2 q2 t2 r2 S2 => ?_
  refine tD.go S2 ((fc env).mono (fun _ _ z => z) (fun x m z => exE.step (t1.trans t2) (conv x m z)) q2) fun c n3 vc F3 H3 q3 t3 r3 S3 => ?_
  refine tD.go S3 ((fs env).mono (fun _ _ z => z) (fun x m z => exE.step ((t1.trans t2).trans t3) (conv x m z)) q3) fun s n4 vs F4 H4 q4 t4 r4 S4 => ?_
  have t := ((t1.trans t2).trans t3).trans t4
  obtain ⟨hp4, fp4⟩ := t.keep p _ upd_same hF
  refine ⟨hp4, ?_⟩
  dsimp only at q4
  cases z with
  | int zi =>
    dsimp only at q4
    cases r2
    unfold begC at q4
    split at q4
    · rename_i cs iL ik
      split at q4
      · rename_i ns hns
        obtain ⟨⟨h0, rfl⟩, q⟩ := q4
        have rc := r3.grow t4.gr
        rw [intsD_of hns] at rc
        cases r1; cases r4
        cases rc with
        | @lst a xs _ e rr =>
          have ex := rr.ofInts
          subst ex
          refine ⟨[(Sum.inr "left", .int iL), (Sum.inr "seed", .int zi), (Sum.inr "cells", .ref a), (Sum.inr "spot", .int 0)], rfl, by show 4 ≤ 15; decide, ?_⟩
          have t' : Step n F H n4 F4 H4 := ⟨t.gr, t.sub, fun b o e q => t.keep b o (by rw [upd_ne (ne_of_none e hp)]; exact e) q⟩
          have hpa : a ≠ p := fun z => by rw [z, fp4] at e; cases e
          have t2' : Step n F H n4 (upd F4 p (rngO a iL (some zi) 0)) (upd H4 p (rngO a iL (some zi) 0)) := (t'.beside hp fp4).freeze hp fp4 upd_same
          refine q (.ref p) _ _ t2' (.rng (upd_same) ⟨Int.le_refl _, Int.natCast_nonneg _⟩ (by rw [upd_ne hpa]; exact e) h0)
      · exact q4.elim
    · exact q4.elim
  | _ => exact q4.elim
/-- m['seed'] -/
def rngZ : D → M D
  | .rng true _ => any fun d => ∃ i, d = .int i
  | _ => stuck
theorem rng_seed (l : Addr) (L : Int) (z : Int) (k : Int) : ∃ kvs, rngO l L (some z) k = .dK kvs ∧ valV kvs (Sum.inr "seed") = some (.int z) := ⟨_, rfl, by rfl⟩
theorem de_rngZ {e : Expr} {f : DExp} {j : Nat} (c : Kx X W k) (he : DE X W e f) : DE X W (.Subscript e (.Constant (.str "seed") j p2) pos) (dRg rngZ f) := by
  refine ⟨PE.imp (pe_dget (units_1 c) he.pe pe_str nosl_k) fun σ H Q ⟨B, n, F, env, S, h⟩ => tD.go S h fun d n1 v F1 H1 p t r S1 => ?_⟩
  cases d with
  | rng zb c =>
    cases r with
    | @rng ra rl rL rk rsd rcs h1 h2 h3 h4 =>
      cases rsd with
      | none => exact p.elim
      | some z =>
        obtain ⟨kvs, e1, e2⟩ := rng_seed rl rL z rk
        rw [e1] at h1
        refine ⟨ra, .int z, rfl, ?_, p (.int z) ⟨_, rfl⟩ _ F1 H1 t (.int z)⟩
        rw [← e2]
        exact DGet.k (k := Sum.inr "seed") (S1.sub _ _ h1)
  | _ => exact p.elim
end
end DL

end
section
set_option Elab.async false
set_option linter.all false
set_option maxRecDepth 100000
set_option maxHeartbeats 4000000
/-! DEnd: from the law's own promise to the statement. -/
namespace DL
open PySem PySem.Spec PyProof.Rows L2
variable [Tb]

/-- the law, called where the claim calls it -/
theorem law_go {P : Program} {w : World} {K : PySem.W.Frag} {mg mb : Str → Option Value} {k : Nat} {fa a : Addr} {fd : FuncData} {x : Str} {sp : Sp} {s1 : Shared} {vs : List Value} {ns : List Int}
    (kin : K.In s1.heap) (gns : s1.heap.Ns mainGlobals mg) (bns : s1.heap.Ns builtinsNs mb) (bbo : ∀ x : Str, x ≠ "__name__" → mb x = bootBuiltins x)
    (nol : s1.heap.NoLimit) (gen0 : s1.gens = #[]) (at_ : s1.heap.get? a = some { cls := .type "list", data := .seq vs.toArray }) (ia : IntsAre vs ns) (small : ns.length ≤ sizeLine)
    (room : Room k callerA) (G : ∀ base : Heap, K.In base → base.Ns mainGlobals mg → FnG P w K mg base k fa fd [x] sp) (bind : ∀ (s : Shared) (u : Value), BindsTo s fd ⟨[u], []⟩ [(x, u)])
    (meets : ∀ H : Hp, SqL K H a (ns.map V.int) → sp [.ref a] H (fun v _ => v = .bl true) fun _ _ _ => False) :
    codeAny (model P w) callerA (.call (.ref fa) ⟨[.ref a], []⟩)
      (fun r s' => r = .ok (.ret (.bool true)) ∧ OldK s1.heap s'.heap ∧ s'.os = s1.os ∧ AllBare s'.gens) s1 := by
  have vals : Vals (ns.map V.int) vs := vals_ints ia
  have same : vs.length = ns.length := ia.length
  let O : Obj := { cls := .type "list", data := .seq vs.toArray }
  -- what is told of the heap: at most the script, frozen
  suffices go : ∀ H : Hp, (∀ b u, H b = some u → b = a ∧ u = .frz O (.lst (ns.map V.int)) ∧ K.lookup a = none) → SqL K H a (ns.map V.int) →
      codeAny (model P w) callerA (.call (.ref fa) ⟨[.ref a], []⟩) (fun r s' => r = .ok (.ret (.bool true)) ∧ OldK s1.heap s'.heap ∧ s'.os = s1.os ∧ AllBare s'.gens) s1 by
    cases e : K.lookup a with
    | some o =>
      have q := kin a o e
      rw [at_] at q
      have q := Option.some.inj q
      subst q
      exact go (fun _ => none) (fun b u z => nomatch z) (.inr ⟨O, vs.toArray, _, e, rfl, rfl, rfl, by rw [List.size_toArray, same]; exact small, vals⟩)
    | none =>
      refine go (fun b => if b = a then some (.frz O (.lst (ns.map V.int))) else none) (fun b u z => ?_) (.inl (.inr ⟨O, if_pos rfl⟩))
      by_cases hb : b = a
      · rw [if_pos hb] at z
        exact ⟨hb, (Option.some.inj z).symm, e⟩
      · rw [if_neg hb] at z; cases z
  intro H only seq
  have ok : HOk P w H s1.heap := fun b u z => by
    obtain ⟨rfl, rfl, _⟩ := only b u z
    exact ⟨at_, by rw [List.length_map]; exact small, vs, _, vals, at_⟩
  have other : ∀ {b : Addr} {o : Obj}, s1.heap.get? b = some o → (∀ u, H b = some u → False) → (hidT s1.heap H).get? b = some o := fun {b o} e z => hidT_get e (by
    cases q : H b with
    | none => rfl
    | some u => exact (z u q).elim)
  have nss : ∀ {b : Addr} {m : Str → Option Value}, s1.heap.Ns b m → (hidT s1.heap H).Ns b m := fun {b m} ⟨o, es, ep, e, d, r⟩ => by
    refine ⟨o, es, ep, other e fun u z => ?_, d, r⟩
    obtain ⟨rfl, _, _⟩ := only b u z
    rw [at_] at e
    cases e
    cases d
  have kin' : K.In (hidT s1.heap H) := fun b o e => other (kin b o e) fun u z => by
    obtain ⟨rfl, _, n⟩ := only b u z
    rw [n] at e; cases e
  have md : Mod K mg (hidT s1.heap H) := ⟨kin', nss gns, ⟨mb, nss bns, bbo⟩, by
    obtain ⟨mc, l1, l2⟩ := nol
    exact ⟨mc, nss l1, l2⟩⟩
  have env : Env0 P w K mg (hidT s1.heap H) callerA [] s1 H :=
    ⟨rfl, md, fun b o e => of_hidT e, Nat.le_of_eq (hidT_size _ _), trivial, fun b hb => (nomatch hb), ok, .of_eq gen0⟩
  have run := (G _ kin' (nss gns)).run callerA [] s1 H ⟨[.ref a], []⟩ [.ref a] [.ref a] _ _ room rfl env (bind s1 (.ref a)) (.cons rfl .nil) (meets H seq)
  refine codeAny_mono run fun r s' h => ?_
  match r, h with
  | .error e, h =>
    obtain ⟨_, _, _, _, _, _, _, _, _, _, _, _, z⟩ := h
    exact z.elim
  | .ok .next, h => exact h.elim
  | .ok .brk, h => exact h.elim
  | .ok .cont, h => exact h.elim
  | .ok (.ret u), h =>
    obtain ⟨v, H', os, bare, un, ok', r', q⟩ := h
    cases (show v = .bl true from q)
    have r' : u = Value.bool true := r'
    subst r'
    refine ⟨rfl, OldK.of_keep fun b o e => ?_, os, bare⟩
    cases z : H b with
    | none => exact un.keep b o e z (fun q => by cases q) (by simp)
    | some u =>
      obtain ⟨rfl, rfl, _⟩ := only b u z
      have z2 := un.frzs b O _ z
      obtain ⟨e1, _⟩ := ok b _ z
      obtain ⟨e2, _⟩ := ok' b _ z2
      rw [e] at e1
      cases e1
      exact e2
/-- the statement's walk, from the promise -/
theorem walk_go {l : PySem.W.OpenLaw} {n k : Nat} {q : Program} {loose : List Str} {XP : (Str → Option Value) → Heap → Prop} {YP : World → Heap → Prop} {d : DefRec} {K : Params → PySem.W.Frag} {sp : World → Sp} {x : Str}
    (most : l.most = some n) (small : n ≤ sizeLine) (noDf : d.params.defaults = []) (room : Room k callerA) (kin : ∀ (w : World) (h : Heap), YP w h → (K w.params).In h)
    (F : ∀ (w : World) (mg : Str → Option Value) (fa : Addr) (h : Heap), (K w.params).In h → h.Ns mainGlobals mg → mg d.name = some (.ref fa) →
      ∃ fd : FuncData, (∀ (s : Shared) (u : Value), BindsTo s fd ⟨[u], []⟩ [(x, u)]) ∧ ∀ base : Heap, (K w.params).In base → base.Ns mainGlobals mg → FnG l.prog w (K w.params) mg base k fa fd [x] (sp w))
    (meets : ∀ (w : World) (H : Hp) (a : Addr) (ns : List Int), ns.length ≤ n → SqL (K w.params) H a (ns.map V.int) → sp w [.ref a] H (fun v _ => v = .bl true) fun _ _ _ => False) :
    PySem.W.WalkO q loose XP YP l.row.toRowW d [] (fun f vs => PySem.call f vs) := by
  refine Att.attach_call most noDf fun w s0 s1 mg mb fa o pm cd doc a vs ns G Y ho hd hcd hmg hobj hints hlen hg => ?_
  have hK := kin w _ Y
  obtain ⟨fd, hb, hF⟩ := F w mg fa _ hK G.T.g hmg
  exact law_go hK G.T.g G.T.b G.T.builtins G.T.nolimit hg hobj hints (Nat.le_trans hlen small) room hF hb fun H hs => meets w H a ns hlen hs
end DL

end
section
set_option Elab.async false
set_option linter.all false
set_option maxRecDepth 100000
set_option maxHeartbeats 4000000
/-! DMisc: list(range(..)), what is never reached, defs and what the top has written. -/
namespace DL
open PySem PySem.Spec PyProof.Rows L2
variable [Tb]

def rgL (d : D) : M (List D) := match d with
  | .int j => need (0 ≤ j ∧ j ≤ 16777216) (ret (rangeD 0 j.toNat))
  | _ => stuck
def dListRg (f : DExp) : DExp := fun env => bnd (f env) fun d => bnd (rgL d) fun l => ret (.lst l)
def dTupRg (f : DExp) : DExp := fun env => bnd (f env) fun d => bnd (rgL d) fun l => ret (.tup l)
def fListRg (f : DExp) : DFl := fun env => bnd (f env) rgL
section
variable {X : Cx} {W : WX} {k : Nat} {e : Expr} {f : DExp} {p p2 pos pos2 : Pos}
theorem reps_rg {n : Nat} {F : Hp} (j : Int) : Reps X.K X.mg n F (rgV 0 j) (rangeD 0 j.toNat) := by
  unfold rgV rangeD
  rw [Int.sub_zero]
  induction List.range j.toNat with
  | nil => exact .nil
  | cons a l ih => exact .cons (.int _) ih
theorem de_listRg (kx : Kx X W k) (he : DE X W e f) (ml : X.mg "list" = none) (mr : X.mg "range" = none) (hg : Gl X "list" := by rfl) (hg2 : Gl X "range" := by rfl) (na : starEach [e] X.env = (false, eval e X.env) :: starEach [] X.env := by rfl)
    (nb : starEach [.Call (.Name "range" p2) [e] [] pos2] X.env = (false, eval (.Call (.Name "range" p2) [e] [] pos2) X.env) :: starEach [] X.env := by rfl) : DE X W (.Call (.Name "list" p) [.Call (.Name "range" p2) [e] [] pos2] [] pos) (dListRg f) := by
  refine ⟨PE.imp (pe_listRg kx.calm hg ml (prg_1 hg2 mr he.pe na) nb) fun σ H Q ⟨B, n, F, env, S, h⟩ => tD.go S h fun d n1 v F1 H1 p t r S1 => ?_⟩
  cases d with
  | int j =>
    cases r
    obtain ⟨⟨h0, h1⟩, p⟩ := p
    exact ⟨j, rfl, .of_le (Int.le_refl _) h1 (by decide) h0, fun q hq => p _ _ _ (t.trans (Step.new S1.sub hq)) (Step.newLst S1.sub hq (reps_rg j))⟩
  | _ => exact p.elim
theorem de_tupRg (kx : Kx X W k) (he : DE X W e f) (ml : X.mg "tuple" = none) (mr : X.mg "range" = none) (hg : Gl X "tuple" := by rfl) (hg2 : Gl X "range" := by rfl) (na : starEach [e] X.env = (false, eval e X.env) :: starEach [] X.env := by rfl)
    (nb : starEach [.Call (.Name "range" p2) [e] [] pos2] X.env = (false, eval (.Call (.Name "range" p2) [e] [] pos2) X.env) :: starEach [] X.env := by rfl) : DE X W (.Call (.Name "tuple" p) [.Call (.Name "range" p2) [e] [] pos2] [] pos) (dTupRg f) := by
  refine ⟨PE.imp (pe_tupRg kx.calm hg ml (prg_1 hg2 mr he.pe na) nb) fun σ H Q ⟨B, n, F, env, S, h⟩ => tD.go S h fun d n1 v F1 H1 p t r S1 => ?_⟩
  cases d with
  | int j =>
    cases r
    obtain ⟨⟨h0, h1⟩, p⟩ := p
    exact ⟨j, rfl, .of_le (Int.le_refl _) h1 (by decide) h0, fun q hq => p _ _ _ (t.trans (Step.new S1.sub hq)) (Step.newTup S1.sub hq (reps_rg j))⟩
  | _ => exact p.elim
theorem dfr_listRg (kx : Kx X W k) (he : DE X W e f) (ml : X.mg "list" = none) (mr : X.mg "range" = none) (hg : Gl X "list" := by rfl) (hg2 : Gl X "range" := by rfl) (na : starEach [e] X.env = (false, eval e X.env) :: starEach [] X.env := by rfl)
    (nb : starEach [.Call (.Name "range" p2) [e] [] pos2] X.env = (false, eval (.Call (.Name "range" p2) [e] [] pos2) X.env) :: starEach [] X.env := by rfl) : DFr X W (.Call (.Name "list" p) [.Call (.Name "range" p2) [e] [] pos2] [] pos) (fListRg f) := by
  refine ⟨PE.imp (pe_listRg kx.calm hg ml (prg_1 hg2 mr he.pe na) nb) fun σ H Q ⟨B, n, F, env, S, h⟩ => tD.go S h fun d n1 v F1 H1 p t r S1 => ?_⟩
  cases d with
  | int j =>
    cases r
    obtain ⟨⟨h0, h1⟩, p⟩ := p
    refine ⟨j, rfl, .of_le (Int.le_refl _) h1 (by decide) h0, fun q hq => ?_⟩
    have hf : F1 q = none := sub_free S1.sub hq
    exact p q _ F1 _ (t.beside (t.free hq) hf) (t.free hq) hf upd_same (reps_rg j)
  | _ => exact p.elim
/-- a statement that is never reached -/
def sDead : DStm := fun _ => stuck
theorem ds_dead {st : Stmt} : DS X W st sDead := ⟨PS.imp ps_never fun D σ H ⟨B, n, F, env, S, h⟩ => h.elim⟩
end
section
variable {X : Cx} {W : WX} {x : Str} {pos : Pos}
theorem de_gintE {i : Int} (h : ∃ t, X.mg x = some (.int i t)) (hg : Gl X x := by rfl) (hd : (x == ("__debug__" : Str)) = false := by decide) : DE X W (.Name x pos) (dK (.int i)) := let ⟨_, q⟩ := h; de_gint q hg hd
theorem de_gstrE {i : Str} (h : ∃ t, X.mg x = some (.str i t)) (hg : Gl X x := by rfl) (hd : (x == ("__debug__" : Str)) = false := by decide) : DE X W (.Name x pos) (dK (.str i)) := let ⟨_, q⟩ := h; de_gstr q hg hd
end
def fnOf (n : Nat) (s : DStm) : Fn := fun ds => body s (ds.map Slot.val ++ List.replicate (n - ds.length) Slot.emp)
/-- the top's def -/
structure Df (K : PySem.W.Frag) (mg : Str → Option Value) (x : Str) (ps : List Str) (st : Stmt) : Prop where
  ex : ∃ (f : Addr) (fd : FuncData), mg x = some (.ref f) ∧ Fun K x x st f fd ∧ Binds K fd ps []
theorem Df.glo {P : Program} {w : World} {K : PySem.W.Frag} {mg : Str → Option Value} {ground : Heap} {x : Str} {N ps : List Str} {st : Stmt} {k m : Nat} {s : DStm} (D : Df K mg x ps st) (S : FnScope N ps (defScope st)) (hm : ps.length = m)
    (hb : ∀ (f : Addr) (cd : Value) (R : Around) (callers : List PySem.Env) (t : Shared) (H : Hp) (E : XK), Kx (cxOf (L2.CX P w) P w K mg ground N x (defScope st) f cd R callers t H E) (fun cls d _ H => E cls d H) k →
      DSs (cxOf (L2.CX P w) P w K mg ground N x (defScope st) f cd R callers t H E) (fun cls d _ H => E cls d H) (defBody st) s) : Glo P w K mg ground (k + 1) x m (fnOf N.length s) := by
  obtain ⟨f, fd, h1, F, hB⟩ := D.ex
  subst hm
  exact ⟨f, fd, ps, rfl, h1, F.kp, hB, FnG.okD F S fun cd R callers t H E rm gd => hb f cd R callers t H E (Kx.of rm gd S.nd)⟩
theorem Df.of {K : PySem.W.Frag} {mg : Str → Option Value} {h : Heap} {x : Str} {ps : List Str} {st : Stmt} {f : Addr} {oc : Value} {od an : Option Addr} {osl : Array (Option Value)} {kV doc pm cdv ct : Value} (X : K.In h) (G : h.Ns mainGlobals mg)
    (a : PySem.W.nsIn K mainGlobals x = some (some (.ref f))) (l : K.lookup f = some ⟨oc, od, .func (PySem.W.fnOf x x (defArgs st) (defBody st) (defScope st) .none kV doc pm an cdv ct), osl⟩) (c : PySem.W.codeIn K cdv x = true) (k : PySem.W.keepIn K (.ref f) = true)
    (b : ∀ (kV doc pm : Value) (an : Option Addr) (cdv ct : Value) (us : List Value), us.length = ps.length → bindArgs (PySem.W.fnOf x x (defArgs st) (defBody st) (defScope st) .none kV doc pm an cdv ct) ⟨us, []⟩ = pure (ps.zip us)) : Df K mg x ps st :=
  ⟨_, _, PySem.W.mg_of X G a, fun_mk l c k, (fun_mk l c k).binds b⟩
end DL

end
section
set_option Elab.async false
set_option linter.all false
set_option maxRecDepth 100000
set_option maxHeartbeats 4000000
/-! DUnp: a, b, .. = x, y, .. by a tuple, own lists among them. -/
namespace DL
open PySem PySem.Spec PyProof.Rows L2
variable [Tb]
structure NG (X : Cx) (is : List Nat) (es : List Expr) (g : TGs) : Prop where
  pgs : PGs X es g
  red : ∀ (vs : List V) (σ : L2.St) (H : Hp) (Q : L2.St → Hp → Prop), vs.length = is.length → Q ((is.zip vs).foldl (fun σ p => σ.set p.1 (some p.2)) σ) H → g vs σ H Q
section
variable {X : Cx} {W : WX} {k : Nat} {is : List Nat} {es ts : List Expr} {g : TGs} {m : DSl}
theorem dg_tupK {Kf : PySem.W.Frag} {n j : Nat} {js : List Nat} {gs : TGs} {u : List D → En → Option En} {pos : Pos} (hK : X.K = Kf) (hc : X.calm = true) (h1 : DGs X js es u gs) (hn : (assignEach es X.env).length = n := by rfl) (hst : (assignEach es X.env).findIdx? (·.1) = none := by rfl) :
    DG X js (.Tuple es j pos) (tgT n u) (gTup Kf n gs) := by
  subst hK
  exact dg_tup hc h1 hn hst
theorem units_64 (c : Kx X W k) : X.A.units + 64 < cLine := by have := c.rm.room.un; omega
theorem ng_nil : NG X [] [] gNil := ⟨pgs_nil, fun vs σ H Q hl h => by
  cases vs with
  | nil => exact ⟨rfl, h⟩
  | cons _ _ => cases hl⟩
theorem ng_cons (i : Nat) {x : Str} {pos : Pos} (hr : NG X is es g) (hN : X.N.Nodup) (hi : X.N[i]? = some x := by rfl) (hx : Loc X.env.scope x := by first | exact .inl rfl | exact .inr rfl) (hf : X.fn x = true ∨ X.env.scope.names.lookup x = some .local := by first | exact .inl rfl | exact .inr rfl)
    (hs : (assignEach ((.Name x pos) :: es) X.env).map (·.2) = assign (.Name x pos) X.env :: (assignEach es X.env).map (·.2) := by rfl) : NG X (i :: is) (.Name x pos :: es) (gCons (gName i) g) :=
  ⟨pgs_cons (pg_name hN hi hx hf) hr.pgs hs, fun vs σ H Q hl h => by
    cases vs with
    | nil => cases hl
    | cons v vs => exact ⟨v, vs, rfl, hr.red vs _ H Q (by simpa using hl) h⟩⟩
theorem SlsOk.upd {K : PySem.W.Frag} {mg : Str → Option Value} {n : Nat} {F H H0 : Hp} {p : Addr} {o : HO} (hp : H p = none) {vs : List V} {ss : List Slot} (h : SlsOk K mg n F H H0 vs ss) : SlsOk K mg n F (L2.upd H p o) H0 vs ss := by
  induction h with
  | nil => exact .nil
  | cons h1 _ q ih =>
    rename_i v vs s ss _
    refine .cons ?_ ih q
    cases s with
    | emp => exact h1
    | val d => exact h1
    | own ds =>
      obtain ⟨a, xs, e, f, z, h2, r⟩ := h1
      exact ⟨a, xs, e, f, z, by rw [upd_ne (ne_of_none h2 hp)]; exact h2, r⟩
theorem ds_unpS {pos pt pt2 : Pos} {kt k2 : Nat} (kx : Kx X W k) (ha : DMA X W es m) (hg : NG X is ts g) (hn : (assignEach ts X.env).length = is.length := by rfl) (hst : (assignEach ts X.env).findIdx? (·.1) = none := by rfl)
    (hs : swapsWithSole [.Tuple ts kt pt] (.Tuple es k2 pt2) pos.line X.env = pure false := by rfl) (hw : swappedStores [.Tuple ts kt pt] (.Tuple es k2 pt2) X.env = pure none := by rfl)
    (h1 : (assignEach [.Tuple ts kt pt] X.env).map (·.2) = [assign (.Tuple ts kt pt) X.env] := by rfl) (small : is.length ≤ 100 := by decide) : DS X W (.Assign [.Tuple ts kt pt] (.Tuple es k2 pt2) pos) (sPars is m) := by
  refine ⟨PS.imp (ps_asg (pe_tup ha.pa) (pg_tup kx.calm hg.pgs hn hst) hs hw h1) fun D σ H ⟨B, n, F, env, S, h⟩ => ?_⟩
  refine tMA.go S ((m env).mono (fun _ _ z => z) (fun x m z => exS_of S z) h) fun ss n1 vs F1 H1 p t r S1 => ?_
  dsimp only at p
  cases e1 : setsE is ss env with
  | none => rw [e1] at p; exact p.elim
  | some env' =>
    rw [e1] at p
    have hl : vs.length = is.length := by rw [r.len, setsE_len e1]
    refine ⟨by rw [hl, sizeLine_eq]; omega, fun q hq => ⟨q, vs, rfl, SqT.of upd_same, hl, hg.red vs σ _ _ hl ?_⟩⟩
    have S2 : SL X.K X.mg B n1 F1 (upd H1 q (.tup vs)) σ env := S1.besides hq
    refine p _ F1 _ t.gr (setsE_ok S2 (fun p hp => S.st.free hp) (r.upd hq) e1 fun j i u s v hu ou hs os hv => ?_)
    obtain ⟨v', hv', sl⟩ := r.get i s hs
    rw [hv] at hv'
    cases hv'
    cases s with
    | own l => obtain ⟨a, _, rfl, _, h0, _, _⟩ := sl; exact own_ne (H1 := H1) S h0 j u hu ou
    | _ => exact os.elim
end
/-! ### more fresh lists -/
def fAdd (fa fb : DExp) : DFl := fun env => bnd (fa env) fun d => bnd (fb env) fun e => match d, e with
  | .lst a, .lst b => need (a.length + b.length ≤ sizeLine) (ret (a ++ b))
  | _, _ => stuck
def fMul (fa fb : DExp) : DFl := fun env => bnd (fa env) fun d => bnd (fb env) fun e => match d, e with
  | .lst a, .int k => need (a.length * k.toNat ≤ sizeLine ∧ -(2 ^ 63) ≤ k ∧ k < 2 ^ 63) (ret (List.replicate k.toNat a).flatten)
  | _, _ => stuck
def fList (fa : DArg) : DFl := fun env => bnd (fa env) fun ds => match ds with
  | [.lst a] => ret a
  | [.tup a] => ret a
  | _ => stuck
section
variable {X : Cx} {W : WX} {k : Nat} {a b e : Expr} {fa fb : DExp} {fr : DArg} {p pos : Pos}
theorem dfr_add (ha : DE X W a fa) (hb : DE X W b fb) : DFr X W (.BinOp a .Add b pos) (fAdd fa fb) := by
  refine ⟨PE.imp (pe_op op_cat ha.pe hb.pe) fun σ H Q ⟨B, n, F, env, S, h⟩ => tD.go S h fun d n1 v F1 H1 p t r1 S1 => ?_⟩
  refine tD.go S1 ((fb env).mono (fun _ _ z => z) (fun x m z => exE.step t z) p) fun e n2 u F2 H2 p2 t2 r2 S2 => ?_
  have r1 := r1.grow t2.gr
  dsimp only at p2
  split at p2
  · obtain ⟨hz, p2⟩ := p2
    cases r1 with
    | lst h1 r1 => cases r2 with
      | lst h2 r2 =>
        refine ⟨_, _, _, _, rfl, rfl, S2.sub _ _ h1, S2.sub _ _ h2, by rw [r1.length, r2.length]; exact hz, fun q hq => ?_⟩
        have hf : F2 q = none := sub_free S2.sub hq
        have tt := t.trans t2
        exact p2 q _ F2 _ (tt.beside (tt.free hq) hf) (tt.free hq) hf upd_same (r1.append r2)
  · exact p2.elim
theorem dfr_mul (ha : DE X W a fa) (hb : DE X W b fb) : DFr X W (.BinOp a .Mult b pos) (fMul fa fb) := by
  refine ⟨PE.imp (pe_op op_rep ha.pe hb.pe) fun σ H Q ⟨B, n, F, env, S, h⟩ => tD.go S h fun d n1 v F1 H1 p t r1 S1 => ?_⟩
  refine tD.go S1 ((fb env).mono (fun _ _ z => z) (fun x m z => exE.step t z) p) fun e n2 u F2 H2 p2 t2 r2 S2 => ?_
  have r1 := r1.grow t2.gr
  dsimp only at p2
  split at p2
  · obtain ⟨⟨hz, h1, h2⟩, p2⟩ := p2
    cases r2
    cases r1 with
    | lst hx r1 =>
      refine ⟨_, _, _, rfl, rfl, S2.sub _ _ hx, h1, h2, by rw [r1.length]; exact hz, fun q hq => ?_⟩
      have hf : F2 q = none := sub_free S2.sub hq
      have tt := t.trans t2
      exact p2 q _ F2 _ (tt.beside (tt.free hq) hf) (tt.free hq) hf upd_same (r1.rep _)
  · exact p2.elim
theorem dfr_list (hm : X.mg "list" = none) (ha : DA X W [e] fr) (hgl : Gl X "list" := by rfl) (he : starEach [e] X.env = (false, eval e X.env) :: starEach [] X.env := by rfl) (hpl : (backTo pos (starEach [] X.env)).any (·.1) = false := by rfl) : DFr X W (.Call (.Name "list" p) [e] [] pos) (fList fr) := by
  refine ⟨PE.imp (pe_callTy call_list_of hgl hm (by decide +kernel) ha.pa (by decide) (by decide) he hpl) fun σ H Q ⟨B, n, F, env, S, h⟩ => tA.go S h fun ds n1 vs F1 H1 p t r1 S1 => ?_⟩
  have hf : ∀ q, H1 q = none → F1 q = none := fun q hq => sub_free S1.sub hq
  dsimp only at p
  split at p
  · cases r1 with
    | cons rd rn =>
      cases rn
      cases rd with
      | lst hx r => exact ⟨_, _, rfl, .inl (SqL.of (S1.sub _ _ hx)), fun q hq => p q _ F1 _ (t.beside (t.free hq) (hf q hq)) (t.free hq) (hf q hq) upd_same r⟩
  · cases r1 with
    | cons rd rn =>
      cases rn
      cases rd with
      | tup hx r => exact ⟨_, _, rfl, .inr (SqT.of (S1.sub _ _ hx)), fun q hq => p q _ F1 _ (t.beside (t.free hq) (hf q hq)) (t.free hq) (hf q hq) upd_same r⟩
  · exact p.elim
end
end DL

end
section
set_option Elab.async false
set_option linter.all false
set_option maxRecDepth 100000
set_option maxHeartbeats 4000000
/-! DRuns: how meanings are told: no exception, so many draws at most. -/
namespace DL
open PySem PySem.Spec PyProof.Rows L2
variable [Tb]

/-- runs without an exception, with at most c draws; what it hands back meets S -/
def Runs {α : Type} (m : M α) (c : Nat) (S : α → Prop) : Prop := ∀ (n : Nat) (P : α → Nat → Prop) (E : D → Nat → Prop), n + c ≤ 2 ^ 60 → (∀ a n', n' ≤ n + c → S a → P a n') → m.run n P E
section
variable {α β : Type}
theorem Runs.ret {a : α} {c : Nat} {S : α → Prop} (h : S a) : Runs (ret a) c S := fun n P E _ k => k a n (by omega) h
theorem Runs.bnd {m : M α} {f : α → M β} {c c2 : Nat} {S : α → Prop} {T : β → Prop} (h : Runs m c S) (k : ∀ a, S a → Runs (f a) c2 T) : Runs (bnd m f) (c + c2) T := fun n P E hn hk =>
  h n _ E (by omega) fun a n' hn' ha => k a ha n' P E (by omega) fun b n2 hb h2 => hk b n2 (by omega) h2
theorem Runs.le {m : M α} {c c' : Nat} {S T : α → Prop} (h : Runs m c S) (hc : c ≤ c') (hS : ∀ a, S a → T a) : Runs m c' T := fun n P E hn hk => h n P E (by omega) fun a n' ha hs => hk a n' (by omega) (hS a hs)
theorem Runs.need {p : Prop} {m : M α} {c : Nat} {S : α → Prop} (hp : p) (h : Runs m c S) : Runs (need p m) c S := fun n P E hn hk => ⟨hp, h n P E hn hk⟩
theorem Runs.noex {m : M α} {c : Nat} {S : α → Prop} (h : Runs m c S) : Runs (noex m) c S := fun n P _ hn hk => h n P _ hn hk
theorem Runs.any {Q S : α → Prop} {c : Nat} (h : ∀ a, Q a → S a) : Runs (any Q) c S := fun n P E hn hk a ha => hk a n (by omega) (h a ha)
/-- the same, the draws' number given -/
theorem Runs.bndc {m : M α} {f : α → M β} {c c1 c2 : Nat} {S : α → Prop} {T : β → Prop} (h : Runs m c1 S) (hc : c1 + c2 ≤ c) (k : ∀ a, S a → Runs (f a) c2 T) : Runs (DL.bnd m f) c T := (h.bnd k).le hc fun _ z => z
theorem noex_ret (a : α) : noex (DL.ret a) = DL.ret a := M.ext fun n P E => Iff.rfl
end

/-! ### draws -/
def gDraw : Fn
  | [.rng _ _, .int lim] => ⟨fun n P _ => (0 < lim ∧ lim.natAbs.log2 < 9000 ∧ n < 2 ^ 60) ∧ ∀ r : Int, 0 ≤ r → r < lim → P (.int r) (n + 1), fun h _ q => ⟨q.1, fun r a b => h _ _ (q.2 r a b)⟩⟩
  | _ => stuck
theorem runs_draw {z : Bool} {c : Nat} {lim : Int} (h : 0 < lim) (h2 : lim.natAbs.log2 < 9000) : Runs (gDraw [.rng z c, .int lim]) 1 fun d => ∃ r : Int, d = .int r ∧ 0 ≤ r ∧ r < lim := fun n P E hn hk =>
  ⟨⟨h, h2, by omega⟩, fun r h0 h1 => hk _ _ (Nat.le_refl _) ⟨r, rfl, h0, h1⟩⟩
def gBegun : Fn
  | [.scr k] => need (k ≤ 100) (ret (.rng false (k + 1)))
  | _ => stuck

/-! ### comprehensions and loops by their members -/
theorem lcD_pure {vs : List Nat} {tg : D → En → Option En} {c : DTst} {f : DExp} {env : En} (e : D → En) (b : D → Bool) (g : D → D) : ∀ {ds : List D}, (∀ d ∈ ds, tg d (wipeE env vs) = some (e d) ∧ c (e d) = ret (b d) ∧ (b d = true → f (e d) = ret (g d))) → lcD vs tg c f env ds = ret ((ds.filter b).map g)
  | [], _ => rfl
  | d :: ds, h => by
    obtain ⟨h1, h2, h3⟩ := h d (by simp)
    have ih := lcD_pure (vs := vs) (tg := tg) (c := c) (f := f) (env := env) e b g (ds := ds) fun x hx => h x (by simp [hx])
    unfold lcD
    rw [h1]
    dsimp only
    rw [h2, noex_ret, bnd_ret]
    cases hb : b d with
    | true => rw [if_pos rfl, h3 hb, noex_ret, bnd_ret, ih, bnd_ret]; simp [List.filter_cons, hb]
    | false => rw [if_neg (by simp), ih]; simp [List.filter_cons, hb]
theorem lcD_runs {vs : List Nat} {tg : D → En → Option En} {f : DExp} {env : En} (e : D → En) (S : D → Prop) (c0 : Nat) : ∀ {ds : List D}, (∀ d ∈ ds, tg d (wipeE env vs) = some (e d) ∧ Runs (f (e d)) c0 S) → Runs (lcD vs tg cYes f env ds) (c0 * ds.length) fun xs => xs.length = ds.length ∧ ∀ x ∈ xs, S x
  | [], _ => Runs.ret ⟨rfl, by simp⟩
  | d :: ds, h => by
    obtain ⟨h1, h2⟩ := h d (by simp)
    have ih := lcD_runs (vs := vs) (tg := tg) (f := f) (env := env) e S c0 (ds := ds) fun x hx => h x (by simp [hx])
    unfold lcD
    rw [h1]
    dsimp only [cYes]
    rw [noex_ret, bnd_ret, if_pos rfl]
    refine Runs.bndc h2.noex (c2 := c0 * ds.length) (by rw [List.length_cons, Nat.mul_add, Nat.mul_one]; omega) fun x hx => ?_
    refine Runs.bndc ih (c2 := 0) (Nat.le_refl _) fun xs hxs => Runs.ret ⟨by simp [hxs.1], fun y hy => ?_⟩
    rcases List.mem_cons.mp hy with rfl | hy
    · exact hx
    · exact hxs.2 y hy
theorem loopD_runs {tg : D → En → Option En} {b : DStm} (I : En → Prop) (c0 : Nat) : ∀ {ds : List D} {env : En}, I env → (∀ d ∈ ds, ∀ env, I env → ∃ e1, tg d env = some e1 ∧ Runs (b e1) c0 fun f => ∃ e2, f = .nx e2 ∧ I e2) → Runs (loopD tg b ds env) (c0 * ds.length) fun f => ∃ e2, f = .nx e2 ∧ I e2
  | [], env, h, _ => Runs.ret ⟨env, rfl, h⟩
  | d :: ds, env, h, k => by
    obtain ⟨e1, h1, h2⟩ := k d (by simp) env h
    unfold loopD
    rw [h1]
    refine Runs.bndc h2 (c2 := c0 * ds.length) (by rw [List.length_cons, Nat.mul_add, Nat.mul_one]; omega) fun f hf => ?_
    obtain ⟨e2, rfl, hI⟩ := hf
    exact loopD_runs I c0 hI fun x hx => k x (by simp [hx])
/-- a loop that hands on what a fold makes -/
theorem loopD_fold {γ : Type} {tg : D → En → Option En} {b : DStm} (En1 : γ → En) (st : γ → D → γ) : ∀ {ds : List D} {a : γ}, (∀ d ∈ ds, ∀ a, ∃ e1, tg d (En1 a) = some e1 ∧ b e1 = ret (.nx (En1 (st a d)))) → loopD tg b ds (En1 a) = ret (.nx (En1 (ds.foldl st a)))
  | [], a, _ => rfl
  | d :: ds, a, k => by
    obtain ⟨e1, h1, h2⟩ := k d (by simp) a
    unfold loopD
    rw [h1]
    dsimp only
    rw [h2, bnd_ret]
    exact loopD_fold En1 st fun x hx => k x (by simp [hx])
end DL

end
section
set_option Elab.async false
set_option linter.all false
set_option maxRecDepth 100000
set_option maxHeartbeats 4000000
/-! DVal: comparing and showing data. -/
namespace DL
open PySem PySem.Spec PyProof.Rows L2
variable [Tb]

/-- nested data of the flat kinds, at most k deep -/
def plD : Nat → D → Bool
  | _, .non => true
  | _, .bl _ => true
  | _, .int _ => true
  | _, .str x => PyData.strOk x
  | k + 1, .tup l => l.all (plD k)
  | k + 1, .lst l => l.all (plD k)
  | _, _ => false
theorem toPys_map : ∀ {l : List D} {f : D → PyData}, (∀ d ∈ l, toPy d = some (f d)) → toPys l = some (l.map f)
  | [], _, _ => rfl
  | d :: l, f, h => by
    have h1 := h d (by simp)
    have h2 := toPys_map (l := l) (f := f) fun x hx => h x (by simp [hx])
    simp only [toPys, h1, h2, List.map_cons]
theorem pl_py : ∀ (k : Nat) (d : D), plD k d = true → ∃ p, toPy d = some p ∧ p.canLay0 = true ∧ p.depth ≤ k
  | k, .non, _ => ⟨.none, by cases k <;> rfl, by decide, Nat.zero_le _⟩
  | k, .bl b, _ => ⟨.bool b, by cases k <;> rfl, by cases b <;> decide, Nat.zero_le _⟩
  | k, .int i, _ => ⟨.int i, by cases k <;> rfl, by rfl, Nat.zero_le _⟩
  | k, .str x, h => ⟨.str x, by cases k <;> rfl, by cases k <;> exact h, Nat.zero_le _⟩
  | k + 1, .tup l, h0 => by
    have h : l.all (plD k) = true := h0
    clear h0
    rw [List.all_eq_true] at h
    have q : ∃ ps, toPys l = some ps ∧ PyData.canLayAll0 ps = true ∧ PyData.depthAll ps ≤ k := by
      induction l with
      | nil => exact ⟨[], rfl, rfl, Nat.zero_le _⟩
      | cons x xs ih =>
        obtain ⟨p, h1, h2, h3⟩ := pl_py k x (h x (by simp))
        obtain ⟨ps, g1, g2, g3⟩ := ih fun y hy => h y (by simp [hy])
        refine ⟨p :: ps, by simp only [toPys, h1, g1], by simp [PyData.canLayAll0, h2, g2], ?_⟩
        simp only [PyData.depthAll]; omega
    obtain ⟨ps, h1, h2, h3⟩ := q
    refine ⟨.tuple ps, by simp only [toPy, h1, Option.map_some], by simpa [PyData.canLay0] using h2, ?_⟩
    simp only [PyData.depth]; omega
  | k + 1, .lst l, h0 => by
    have h : l.all (plD k) = true := h0
    clear h0
    rw [List.all_eq_true] at h
    have q : ∃ ps, toPys l = some ps ∧ PyData.canLayAll0 ps = true ∧ PyData.depthAll ps ≤ k := by
      induction l with
      | nil => exact ⟨[], rfl, rfl, Nat.zero_le _⟩
      | cons x xs ih =>
        obtain ⟨p, h1, h2, h3⟩ := pl_py k x (h x (by simp))
        obtain ⟨ps, g1, g2, g3⟩ := ih fun y hy => h y (by simp [hy])
        refine ⟨p :: ps, by simp only [toPys, h1, g1], by simp [PyData.canLayAll0, h2, g2], ?_⟩
        simp only [PyData.depthAll]; omega
    obtain ⟨ps, h1, h2, h3⟩ := q
    refine ⟨.list ps, by simp only [toPy, h1, Option.map_some], by simpa [PyData.canLay0] using h2, ?_⟩
    simp only [PyData.depth]; omega
  | 0, .tup _, h => by cases h
  | 0, .lst _, h => by cases h
  | 0, .dct _, h => by cases h
  | _ + 1, .dct _, h => by cases h
  | 0, .scr _, h => by cases h
  | _ + 1, .scr _, h => by cases h
  | 0, .rng _ _, h => by cases h
  | _ + 1, .rng _ _, h => by cases h
  | 0, .exc _ _, h => by cases h
  | _ + 1, .exc _ _, h => by cases h
  | 0, .fn _, h => by cases h
  | _ + 1, .fn _, h => by cases h
  | 0, .ty _, h => by cases h
  | 0, .thk _ _ _ _ _, h => by cases h
  | _ + 1, .thk _ _ _ _ _, h => by cases h
  | 0, .obj _ _ _, h => by cases h
  | _ + 1, .obj _ _ _, h => by cases h
  | _ + 1, .ty _, h => by cases h
theorem pl_shaped {k : Nat} {d : D} (h : plD k d = true) (hk : k ≤ 64) : ∃ p, toPy d = some p ∧ SeqAt.shaped p = true := by
  obtain ⟨p, h1, h2, h3⟩ := pl_py k d h
  exact ⟨p, h1, by unfold SeqAt.shaped; rw [h2, Bool.true_and]; exact decide_eq_true (by omega)⟩
/-- whether data are equal, as == tells -/
def eqD (d e : D) : Bool := match toPy d, toPy e with
  | some p, some q => PyData.eqv p q
  | _, _ => false
theorem gEq_pl {neg : Bool} {d e : D} (h1 : plD 20 d = true) (h2 : plD 20 e = true) : gEq neg d e = ret (.bl (if neg then !eqD d e else eqD d e)) := by
  obtain ⟨p, e1, s1⟩ := pl_shaped h1 (by decide)
  obtain ⟨q, e2, s2⟩ := pl_shaped h2 (by decide)
  unfold gEq
  split
  · rename_i a b
    have e : eqD (.str a) (.str b) = decide (a = b) := by
      show (a == b) = _
      by_cases h : a = b
      · subst h; simp
      · rw [decide_eq_false h]; simpa using h
    rw [e]
  · unfold gEqD eqD
    rw [e1, e2]
    exact need_of ⟨s1, s2⟩ _
theorem eqD_refl {d : D} (h : plD 20 d = true) : eqD d d = true := by
  obtain ⟨p, h1, h2, h3⟩ := pl_py 20 d h
  unfold eqD
  rw [h1]
  exact SeqAt.eqv_refl p h2
theorem gEq_same {d : D} (h : plD 20 d = true) : gEq false d d = ret (.bl true) := by
  rw [gEq_pl h h, eqD_refl h]; rfl
theorem gNe_same {d : D} (h : plD 20 d = true) : gEq true d d = ret (.bl false) := by
  rw [gEq_pl h h, eqD_refl h]; rfl
theorem pl_ints {k : Nat} (ns : List Int) : plD (k + 1) (.lst (ns.map D.int)) = true := by
  show (ns.map D.int).all (plD k) = true
  rw [List.all_eq_true]
  intro d hd
  obtain ⟨i, _, rfl⟩ := List.mem_map.mp hd
  cases k <;> rfl
theorem pl_tints {k : Nat} (ns : List Int) : plD (k + 1) (.tup (ns.map D.int)) = true := pl_ints (k := k) ns
theorem eqD_nil (l : List D) (h : plD 20 (.lst l) = true) : eqD (.lst l) (.lst []) = l.isEmpty := by
  cases l with
  | nil => exact eqD_refl h
  | cons x xs =>
    obtain ⟨p, h1, _, _⟩ := pl_py 20 _ h
    unfold eqD
    rw [h1]
    simp only [toPy, toPys] at h1 ⊢
    cases e1 : toPy x with
    | none => rw [e1] at h1; simp at h1
    | some p1 =>
      cases e2 : toPys xs with
      | none => rw [e1, e2] at h1; simp at h1
      | some ps =>
        rw [e1, e2] at h1
        simp at h1
        subst h1
        rfl
end DL

end
section
set_option Elab.async false
set_option linter.all false
set_option maxRecDepth 100000
set_option maxHeartbeats 4000000
/-! DGame: the draws' own defs mean gDraw, gBegun. -/
namespace DL
open PySem PySem.Spec PyProof.Rows L2
variable [Tb]
def s_draw19 : DStm :=
  sSeq (sIf (dTst (dBin gGt (dRg rngL (dVar 0)) (dK (.int 0)))) (sSeq (sAsg 5 (dBin gMod (dCb gInt (aCons (dRg rngL (dVar 0)) (aNil))) (dVar 1))) (sSeq (sRg tickL (dVar 0) (dBin gFdiv (dRg rngL (dVar 0)) (dVar 1))) (sRet (dVar 5)))) (sSkip)) (sSeq (sAsg 2 (dBin gAdd (dRg rngK (dVar 0)) (dK (.int 1)))) (sSeq (sRg tickK (dVar 0) (dVar 2)) (sSeq (sAsg 3 (dBin gIx (dRg rngC (dVar 0)) (dBin gMod (dCb gInt (aCons (dVar 2) (aNil))) (dCb gLen (aCons (dRg rngC (dVar 0)) (aNil)))))) (sSeq (sAsg 4 (dBin gMul (dCb gInt (aCons (dBin gAdd (dBin gAdd (dBin gMod (dCb gInt (aCons (dVar 3) (aNil))) (dK (.int 2147483629))) (dBin gMul (dK (.int 6133)) (dVar 2))) (dBin gMul (dBin gMul (dK (.int 23)) (dVar 2)) (dVar 2))) (aNil))) (dK (.int 48271)))) (sSeq (sAsg 4 (dBin gMul (dCb gInt (aCons (dBin gAdd (dBin gMod (dCb gInt (aCons (dVar 4) (aNil))) (dK (.int 2147483647))) (dBin gMul (dK (.int 93241)) (dVar 2))) (aNil))) (dK (.int 69621)))) (sRet (dBin gMod (dCb gInt (aCons (dBin gFdiv (dBin gMod (dCb gInt (aCons (dVar 4) (aNil))) (dK (.int 2147483587))) (dK (.int 13))) (aNil))) (dVar 1))))))))
def s_begun19 : DStm :=
  sSeq (sAsg 1 (dLc (iScr (dVar 0)) [2] (tgN 2) (dTst (dBin gGe (dVar 2) (dBin gPow (dK (.int 10)) (dK (.int 18))))) (dVar 2))) (sRet (dBeg (dBin gAdd (dCb gListS (aCons (dVar 0) (aNil))) (dLst (aCons (dCb gLen (aCons (dVar 0) (aNil))) (aNil)))) (dIf (dTst (dBin (gEq true) (dVar 1) (dLst (aNil)))) (dBin gIx (dVar 1) (dK (.int 0))) (dK (.int 0))) (dK (.int 0))))
theorem log2_lt {x : Int} {k : Nat} (h0 : 0 ≤ x) (h : x < 2 ^ k) (hk : 0 < k) : x.natAbs.log2 < k := by
  have e : x.natAbs < 2 ^ k := by
    have e1 : ((x.natAbs : Nat) : Int) = x := Int.natAbs_of_nonneg h0
    have : ((x.natAbs : Nat) : Int) < ((2 ^ k : Nat) : Int) := by rw [e1]; exact_mod_cast h
    exact_mod_cast this
  by_cases hx : x.natAbs = 0
  · rw [hx]; simpa using hk
  · exact (Nat.log2_lt hx).mpr e
theorem mulW_of {i j : Int} {a b : Nat} (hi : 0 ≤ i) (hj : 0 ≤ j) (h1 : i < 2 ^ a) (h2 : j < 2 ^ b) (ha : 0 < a) (hb : 0 < b) (h : a + b ≤ 1000000) : CMulW i j := by
  have := log2_lt hi h1 ha
  have := log2_lt hj h2 hb
  show i.natAbs.log2 + j.natAbs.log2 < 1000000
  omega
theorem at_mod {l : List D} {i : Int} (h : l ≠ []) : ∃ d, L2.atI l (i % (l.length : Nat)) = some d ∧ d ∈ l := by
  have hl : 0 < l.length := List.length_pos_iff.mpr h
  have h0 : 0 ≤ i % (l.length : Nat) := Int.emod_nonneg _ (by omega)
  have h1 : i % (l.length : Nat) < (l.length : Nat) := Int.emod_lt_of_pos _ (by omega)
  obtain ⟨j, hj⟩ : ∃ j : Nat, i % (l.length : Nat) = (j : Int) := ⟨(i % (l.length : Nat)).toNat, by omega⟩
  rw [hj] at h1 ⊢
  have hj2 : j < l.length := by omega
  refine ⟨l[j], ?_, by simp⟩
  unfold L2.atI L2.ixN
  simp [hj2]
theorem draw19 : ∀ (ds : List D) (n : Nat) (P : D → Nat → Prop) (E : D → Nat → Prop), (gDraw ds).run n P E → (fnOf (["a", "b", "c", "d", "e", "f"] : List Str).length s_draw19 ds).run n P E := by
  intro ds n P E q
  unfold gDraw at q
  split at q
  · rename_i z c lim
    obtain ⟨⟨h1, h2, h3⟩, q⟩ := q
    have md : ∀ x : Int, 0 ≤ x % lim ∧ x % lim < lim := fun x => ⟨Int.emod_nonneg _ (by omega), Int.emod_lt_of_pos _ h1⟩
    show (bnd (s_draw19 [.val (.rng z c), .val (.int lim), .emp, .emp, .emp, .emp]) _).run n P E
    show ∀ d, (∃ i, d = D.int i) → _
    rintro _ ⟨i, rfl⟩
    by_cases hi : 0 < i
    · have e : decide (0 < i) = true := decide_eq_true hi
      show M.run (if decide (0 < i) = true then _ else _) n _ _
      rw [if_pos e]
      show ∀ d, (∃ i, d = D.int i) → _
      rintro _ ⟨j, rfl⟩
      refine ⟨h1, ?_⟩
      show ∀ d, (∃ i, d = D.int i) → _
      rintro _ ⟨k, rfl⟩
      refine ⟨⟨h1, h2⟩, ?_⟩
      exact q _ (md _).1 (md _).2
    · have e : ¬ decide (0 < i) = true := by simpa using hi
      show M.run (if decide (0 < i) = true then _ else _) n _ _
      rw [if_neg e]
      show ∀ k : Int, 0 ≤ k → k ≤ n → _
      intro k k0 k1
      refine ⟨⟨by omega, by omega⟩, ?_⟩
      show ∀ d, (∃ cs : List Int, cs.length = c ∧ cs ≠ [] ∧ d = D.lst (cs.map D.int)) → _
      rintro _ ⟨cs, hc, hne, rfl⟩
      show ∀ d, (∃ cs : List Int, cs.length = c ∧ cs ≠ [] ∧ d = D.lst (cs.map D.int)) → _
      rintro _ ⟨cs2, hc2, hne2, rfl⟩
      have hl : 0 < cs.length := List.length_pos_iff.mpr hne
      refine ⟨show (0 : Int) < ((cs2.map D.int).length : Nat) by rw [List.length_map]; omega, ?_⟩
      obtain ⟨x, hx, hm⟩ := at_mod (l := cs.map D.int) (i := k + 1) (by simpa using hne)
      obtain ⟨y, _, rfl⟩ := List.mem_map.mp hm
      have e2 : (cs2.map D.int).length = (cs.map D.int).length := by rw [List.length_map, List.length_map]; omega
      show M.run (match L2.atI (cs.map D.int) ((k + 1) % ((cs2.map D.int).length : Nat)) with | some d => _ | none => _) (n + 1) _ _
      rw [e2, hx]
      have kb : k + 1 < 2 ^ 61 := by omega
      refine ⟨by decide, ?_⟩
      refine ⟨mulW_of (a := 13) (b := 61) (by decide) (by omega) (by decide) kb (by decide) (by decide) (by decide), ?_⟩
      refine ⟨mulW_of (a := 5) (b := 61) (by decide) (by omega) (by decide) kb (by decide) (by decide) (by decide), ?_⟩
      have k23 : 23 * (k + 1) < 2 ^ 66 := by omega
      refine ⟨mulW_of (a := 66) (b := 61) (by omega) (by omega) k23 kb (by decide) (by decide) (by decide), ?_⟩
      have sq : 23 * (k + 1) * (k + 1) ≤ 2 ^ 66 * 2 ^ 61 := Int.mul_le_mul (Int.le_of_lt k23) (Int.le_of_lt kb) (by omega) (by decide)
      have sq0 : 0 ≤ 23 * (k + 1) * (k + 1) := Int.mul_nonneg (by omega) (by omega)
      have m0 := Int.emod_nonneg y (show (2147483629 : Int) ≠ 0 by decide)
      have m1 := Int.emod_lt_of_pos y (show (0 : Int) < 2147483629 by decide)
      generalize hq : 23 * (k + 1) * (k + 1) = sqv at sq sq0 ⊢
      refine ⟨mulW_of (a := 130) (b := 20) (by omega) (by decide) (by omega) (by decide) (by decide) (by decide) (by decide), ?_⟩
      refine ⟨by decide, ?_⟩
      refine ⟨mulW_of (a := 18) (b := 61) (by decide) (by omega) (by decide) kb (by decide) (by decide) (by decide), ?_⟩
      generalize (y % 2147483629 + 6133 * (k + 1) + sqv) * 48271 = w
      have w0 := Int.emod_nonneg w (show (2147483647 : Int) ≠ 0 by decide)
      have w1 := Int.emod_lt_of_pos w (show (0 : Int) < 2147483647 by decide)
      refine ⟨mulW_of (a := 80) (b := 20) (by omega) (by decide) (by omega) (by decide) (by decide) (by decide) (by decide), ?_⟩
      refine ⟨by decide, ?_⟩
      refine ⟨⟨by decide, by decide⟩, ?_⟩
      refine ⟨h1, ?_⟩
      exact q _ (md _).1 (md _).2
  · exact q.elim
theorem begun19 : ∀ (ds : List D) (n : Nat) (P : D → Nat → Prop) (E : D → Nat → Prop), (gBegun ds).run n P E → (fnOf (["a", "b", "c"] : List Str).length s_begun19 ds).run n P E := by
  intro ds n P E q
  unfold gBegun at q
  split at q
  · rename_i k
    obtain ⟨hk, q⟩ := q
    show ∀ ns : List Int, ns.length = k → _
    intro ns hn
    refine ⟨by show (ns.map D.int).length ≤ sizeLine; rw [List.length_map, sizeLine_eq]; omega, ?_⟩
    have key : lcD [2] (tgN 2) (dTst (dBin gGe (dVar 2) (dBin gPow (dK (.int 10)) (dK (.int 18))))) (dVar 2) [.val (.scr k), .emp, .emp] (ns.map D.int) = ret ((ns.map D.int).filter (fun d => match d with | .int i => decide (10 ^ 18 ≤ i) | _ => false)) := by
      rw [lcD_pure (fun d => [.val (.scr k), .emp, .val d]) (fun d => match d with | .int i => decide (10 ^ 18 ≤ i) | _ => false) (fun d => d)]
      · rw [List.map_id']
      · intro d hd
        obtain ⟨i, _, rfl⟩ := List.mem_map.mp hd
        refine ⟨rfl, ?_, fun _ => rfl⟩
        have cp : CPow 10 18 := ⟨by decide, by decide, by decide⟩
        show bnd (bnd (ret (D.int i)) fun x => bnd (need (CPow 10 18) (ret (D.int (10 ^ 18)))) fun y => gGe x y) _ = _
        rw [need_of cp]
        rfl
    show M.run (bnd (lcD [2] (tgN 2) _ _ [.val (.scr k), .emp, .emp] (ns.map D.int)) _) n _ _
    rw [key]
    rw [bnd_ret]
    generalize hg : (ns.map D.int).filter (fun d => match d with | .int i => decide (10 ^ 18 ≤ i) | _ => false) = gs
    have gi : ∃ ms : List Int, gs = ms.map D.int := by
      refine ⟨ns.filter fun i => decide (10 ^ 18 ≤ i), ?_⟩
      rw [← hg, List.filter_map]; rfl
    obtain ⟨ms, rfl⟩ := gi
    show ∀ cs : List Int, cs.length = k → _
    intro cs hc
    refine ⟨by show 1 ≤ sizeLine; decide, ?_⟩
    refine ⟨by show (cs.map D.int).length + 1 ≤ sizeLine; rw [List.length_map, sizeLine_eq]; omega, ?_⟩
    have ge : gEq true (.lst (ms.map D.int)) (.lst []) = ret (.bl (!ms.isEmpty)) := by
      rw [gEq_pl (pl_ints ms) rfl, eqD_nil _ (pl_ints ms)]; simp
    show M.run (bnd (bnd (need (0 ≤ sizeLine) (ret (D.lst []))) fun y => gEq true (.lst (ms.map D.int)) y) _) n _ _
    rw [need_of (Nat.zero_le _), bnd_ret, ge, bnd_ret]
    have fin : ∀ i : Int, (begC false (.lst (cs.map D.int ++ [.int k])) (.int i) (.int 0)).run n P E := fun i => by
      have e : cs.map D.int ++ [D.int k] = (cs ++ [(k : Int)]).map D.int := by simp
      rw [e]
      show M.run (match intsD ((cs ++ [(k : Int)]).map D.int) with | some ns => need (ns ≠ [] ∧ (0 : Int) = 0) (ret (.rng false ns.length)) | none => stuck) n P E
      rw [intsD_map]
      refine ⟨⟨by simp, rfl⟩, ?_⟩
      have e2 : (cs ++ [(k : Int)]).length = k + 1 := by simp [hc]
      rw [e2]
      exact q
    cases ms with
    | nil =>
      show (begC false (.lst (cs.map D.int ++ [.int k])) (.int 0) (.int 0)).run n _ _
      exact fin 0
    | cons m ms =>
      have e0 : L2.atI ((m :: ms).map D.int) 0 = some (.int m) := by
        unfold L2.atI L2.ixN
        simp
      show M.run (match L2.atI ((m :: ms).map D.int) 0 with | some d => ret d | none => stuck) n _ _
      rw [e0]
      exact fin m
  · exact q.elim
end DL

end
section
set_option Elab.async false
set_option linter.all false
set_option maxRecDepth 100000
set_option maxHeartbeats 4000000
/-! DShow: repr of data. -/
namespace DL
open PySem PySem.Spec PyProof.Rows L2
variable [Tb]
/-- a bound of the text's length -/
def wtD : Nat → D → Nat
  | _, .non => 4
  | _, .bl _ => 5
  | _, .int i => if i.natAbs < 10 ^ 60 then 61 else 100000000
  | _, .str x => if x.cps.all (· < 16 ^ 8) then 10 * x.length + 2 else 100000000
  | k + 1, .tup l => (l.map fun d => wtD k d + 2).sum + 3
  | k + 1, .lst l => (l.map fun d => wtD k d + 2).sum + 3
  | _, _ => 100000000
def rtxt (d : D) : Str := match toPy d with
  | some p => p.shown
  | none => ""
theorem int_show {i : Int} (h : i.natAbs < 10 ^ 60) : (PyData.shown (.int i)).length ≤ 61 ∧ (PyData.int i).showable = true := by
  constructor
  · have h1 := int_text_length_le10 (a := i) (k := 60) (by decide) h
    simp only [PyData.shown]
    rw [PySem.ofString_length]; exact h1
  · simp only [PyData.showable, decide_eq_true_eq]
    have : i.natAbs < 2 ^ 200 := Nat.lt_trans h (by decide)
    by_cases h0 : i.natAbs = 0
    · rw [h0]; decide
    · have := (Nat.log2_lt h0).mpr this
      omega
theorem show_seq (k : Nat) (ih : ∀ (d : D) (p : PyData), toPy d = some p → wtD k d < 100000000 → p.shown.length ≤ wtD k d ∧ p.showable = true ∧ p.hasDict = false ∧ p.depth ≤ k) :
    ∀ (l : List D) (ps : List PyData), toPys l = some ps → (l.map fun d => wtD k d + 2).sum < 100000000 →
      ((PyData.shownAll ps).map (·.length)).sum + 2 * ps.length ≤ (l.map fun d => wtD k d + 2).sum ∧ PyData.showableAll ps = true ∧ PyData.hasDictAll ps = false ∧ PyData.depthAll ps ≤ k ∧ (PyData.shownAll ps).length = ps.length
  | [], ps, h, _ => by
    simp only [toPys, Option.some.injEq] at h
    subst h
    simp [PyData.shownAll, PyData.showableAll, PyData.hasDictAll, PyData.depthAll]
  | d :: l, ps, h, hw => by
    cases e1 : toPy d with
    | none => simp only [toPys, e1] at h; cases h
    | some p =>
      cases e2 : toPys l with
      | none => simp only [toPys, e1, e2] at h; cases h
      | some qs =>
        simp only [toPys, e1, e2, Option.some.injEq] at h
        subst h
        rw [List.map_cons, List.sum_cons] at hw ⊢
        obtain ⟨a1, a2, a3, a4⟩ := ih d p e1 (by omega)
        obtain ⟨b1, b2, b3, b4, b5⟩ := show_seq k ih l qs e2 (by omega)
        simp only [PyData.shownAll, PyData.showableAll, PyData.hasDictAll, PyData.depthAll, List.map_cons, List.sum_cons, List.length_cons, a2, a3, b2, b3, b5, Bool.and_self, Bool.or_self, true_and]
        refine ⟨by omega, ?_⟩
        exact ⟨by omega, trivial⟩
theorem show_le : ∀ (k : Nat) (d : D) (p : PyData), toPy d = some p → wtD k d < 100000000 → p.shown.length ≤ wtD k d ∧ p.showable = true ∧ p.hasDict = false ∧ p.depth ≤ k
  | k, .non, p, h, _ => by
    simp only [toPy, Option.some.injEq] at h
    subst h
    have e : wtD k .non = 4 := by cases k <;> rfl
    rw [e]
    exact ⟨by decide, rfl, by simp only [PyData.hasDict], Nat.zero_le _⟩
  | k, .bl b, p, h, _ => by
    simp only [toPy, Option.some.injEq] at h
    subst h
    have e : wtD k (.bl b) = 5 := by cases k <;> rfl
    rw [e]
    exact ⟨by cases b <;> decide, rfl, by simp only [PyData.hasDict], Nat.zero_le _⟩
  | k, .int i, p, h, hw => by
    simp only [toPy, Option.some.injEq] at h
    subst h
    have e : wtD k (.int i) = if i.natAbs < 10 ^ 60 then 61 else 100000000 := by cases k <;> rfl
    rw [e] at hw ⊢
    by_cases hi : i.natAbs < 10 ^ 60
    · rw [if_pos hi]
      obtain ⟨h1, h2⟩ := int_show hi
      exact ⟨h1, h2, by simp only [PyData.hasDict], Nat.zero_le _⟩
    · rw [if_neg hi] at hw; omega
  | k, .str x, p, h, hw => by
    simp only [toPy, Option.some.injEq] at h
    subst h
    have e : wtD k (.str x) = if x.cps.all (· < 16 ^ 8) then 10 * x.length + 2 else 100000000 := by cases k <;> rfl
    rw [e] at hw ⊢
    by_cases hi : x.cps.all (· < 16 ^ 8) = true
    · rw [if_pos hi]
      refine ⟨?_, rfl, by simp only [PyData.hasDict], Nat.zero_le _⟩
      simp only [PyData.shown]
      refine StrLaws.reprText_len x fun c hc => ?_
      have := Array.all_eq_true_iff_forall_mem.mp hi c (by simpa using hc)
      simpa using this
    · rw [if_neg hi] at hw; omega
  | k + 1, .tup l, p, h, hw => by
    cases e2 : toPys l with
    | none => simp only [toPy, e2, Option.map_none] at h; cases h
    | some ps =>
      simp only [toPy, e2, Option.map_some, Option.some.injEq] at h
      subst h
      have e : wtD (k + 1) (.tup l) = (l.map fun d => wtD k d + 2).sum + 3 := rfl
      rw [e] at hw ⊢
      obtain ⟨b1, b2, b3, b4, b5⟩ := show_seq k (show_le k) l ps e2 (by omega)
      refine ⟨?_, by simpa only [PyData.showable] using b2, by simpa only [PyData.hasDict] using b3, by simp only [PyData.depth]; omega⟩
      have := tupleText_len_le (PyData.shownAll ps)
      simp only [PyData.shown]
      omega
  | k + 1, .lst l, p, h, hw => by
    cases e2 : toPys l with
    | none => simp only [toPy, e2, Option.map_none] at h; cases h
    | some ps =>
      simp only [toPy, e2, Option.map_some, Option.some.injEq] at h
      subst h
      have e : wtD (k + 1) (.lst l) = (l.map fun d => wtD k d + 2).sum + 3 := rfl
      rw [e] at hw ⊢
      obtain ⟨b1, b2, b3, b4, b5⟩ := show_seq k (show_le k) l ps e2 (by omega)
      refine ⟨?_, by simpa only [PyData.showable] using b2, by simpa only [PyData.hasDict] using b3, by simp only [PyData.depth]; omega⟩
      have := listText_len_le (PyData.shownAll ps)
      simp only [PyData.shown]
      omega
  | 0, .tup l, p, _, hw => absurd (show (100000000 : Nat) < 100000000 from hw) (by decide)
  | 0, .lst l, p, _, hw => absurd (show (100000000 : Nat) < 100000000 from hw) (by decide)
  | k, .dct _, p, h, hw => by simp only [toPy] at h; cases h
  | k, .scr _, p, h, hw => by simp only [toPy] at h; cases h
  | k, .rng _ _, p, h, hw => by simp only [toPy] at h; cases h
  | k, .exc _ _, p, h, hw => by simp only [toPy] at h; cases h
  | k, .fn _, p, h, hw => by simp only [toPy] at h; cases h
  | k, .ty _, p, h, hw => by simp only [toPy] at h; cases h
theorem gRepr_ok {d : D} (h : plD 20 d = true) (hw : wtD 20 d ≤ 16000000) : gRepr [d] = ret (.str (rtxt d)) := by
  obtain ⟨p, h1, _, _⟩ := pl_py 20 d h
  obtain ⟨a1, a2, a3, a4⟩ := show_le 20 d p h1 (by omega)
  have e : rtxt d = p.shown := by unfold rtxt; rw [h1]
  rw [e]
  show (match toPy d with | some p => need (p.showable = true ∧ p.hasDict = false ∧ p.depth ≤ 60 ∧ p.shown.length ≤ sizeLine) (ret (D.str p.shown)) | none => stuck) = _
  rw [h1]
  exact need_of ⟨a2, a3, by omega, by rw [sizeLine_eq]; omega⟩ _
end DL

end
section
set_option Elab.async false
set_option linter.all false
set_option maxRecDepth 100000
set_option maxHeartbeats 4000000
/-! DSimp: how meanings are worked out. -/
namespace DL
open PySem PySem.Spec PyProof.Rows L2
variable [Tb]
section
variable {α β : Type}
@[simp] theorem x_need {p : Prop} {m : M α} (h : p) : need p m = m := need_of h m
@[simp] theorem x_noex (a : α) : noex (ret a) = ret a := noex_ret a
@[simp] theorem x_seq (s t : DStm) (env : En) : sSeq s t env = bnd (s env) fun f => match f with | .nx e => t e | .rt d => ret (.rt d) := rfl
@[simp] theorem x_ret (f : DExp) (env : En) : sRet f env = bnd (f env) fun d => ret (.rt d) := rfl
@[simp] theorem x_if (c : DTst) (s t : DStm) (env : En) : sIf c s t env = bnd (c env) fun b => if b = true then s env else t env := rfl
@[simp] theorem x_asg (i : Nat) (f : DExp) (env : En) : sAsg i f env = bnd (f env) fun d => ret (.nx (env.set i (.val d))) := rfl
@[simp] theorem x_drop (f : DExp) (env : En) : sDrop f env = bnd (f env) fun _ => ret (.nx env) := rfl
@[simp] theorem x_skip (env : En) : sSkip env = ret (.nx env) := rfl
@[simp] theorem x_own (i : Nat) (f : DFl) (env : En) : sOwn i f env = bnd (f env) fun ds => ret (.nx (env.set i (.own ds))) := rfl
@[simp] theorem x_pars (is : List Nat) (m : DSl) (env : En) : sPars is m env = bnd (m env) fun ss => match setsE is ss env with | some env' => ret (.nx env') | none => stuck := rfl
@[simp] theorem x_unp (tg : D → En → Option En) (f : DExp) (env : En) : sUnp tg f env = bnd (f env) fun d => match tg d env with | some env' => ret (.nx env') | none => stuck := rfl
@[simp] theorem x_app (i : Nat) (f : DExp) (env : En) : sApp i f env = match env[i]? with | some (.own ds) => bnd (f env) fun d => need (ds.length < sizeLine) (ret (.nx (env.set i (.own (ds ++ [d]))))) | _ => stuck := rfl
@[simp] theorem x_setix (i : Nat) (fi fv : DExp) (env : En) : sSetIx i fi fv env = match env[i]? with
  | some (.own ds) => bnd (fv env) fun d => bnd (fi env) fun j => match j with
    | .int j => match ixN ds.length j with | some m => ret (.nx (env.set i (.own (ds.set m d)))) | none => stuck
    | _ => stuck
  | _ => stuck := rfl
@[simp] theorem x_for (fi : DIt) (tg : D → En → Option En) (b : DStm) (env : En) : sFor fi tg b env = bnd (fi env) fun ds => loopD tg b ds env := rfl
@[simp] theorem x_frz (i : Nat) (s : DStm) (env : En) : sFrz i s env = s (match env[i]? with | some (.own ds) => env.set i (.val (.lst ds)) | _ => env) := rfl
@[simp] theorem x_peek (i : Nat) (f : DExp) (env : En) : dPeek i f env = bnd (noex (f (match env[i]? with | some (.own ds) => env.set i (.val (.lst ds)) | _ => env))) fun d => need (scalarD d = true) (ret d) := rfl
@[simp] theorem x_tpeek (i : Nat) (f : DTst) (env : En) : tPeek i f env = noex (f (match env[i]? with | some (.own ds) => env.set i (.val (.lst ds)) | _ => env)) := rfl
@[simp] theorem x_var (i : Nat) (env : En) : dVar i env = match env[i]? with | some (.val d) => ret d | _ => stuck := rfl
@[simp] theorem x_k (d : D) (env : En) : dK d env = ret d := rfl
@[simp] theorem x_bin (g : D → D → M D) (a b : DExp) (env : En) : dBin g a b env = bnd (a env) fun x => bnd (b env) fun y => g x y := rfl
@[simp] theorem x_un (g : D → M D) (a : DExp) (env : En) : dUn g a env = bnd (a env) g := rfl
@[simp] theorem x_tst (f : DExp) (env : En) : dTst f env = bnd (f env) fun d => match d with | .bl b => ret b | _ => stuck := rfl
@[simp] theorem x_chain (g g' : D → D → M D) (fa fb fc : DExp) (env : En) : dChain g g' fa fb fc env = bnd (fa env) fun x => bnd (fb env) fun y => bnd (g x y) fun z => match z with
  | .bl true => bnd (fc env) fun w => g' y w
  | .bl false => ret (.bl false)
  | _ => stuck := rfl
@[simp] theorem x_not (f : DTst) (env : En) : dNot f env = bnd (f env) fun b => ret (!b) := rfl
@[simp] theorem x_and (f g : DTst) (env : En) : dAnd f g env = bnd (f env) fun b => if b = true then g env else ret false := rfl
@[simp] theorem x_or (f g : DTst) (env : En) : dOr f g env = bnd (f env) fun b => if b = true then ret true else g env := rfl
@[simp] theorem x_andv (f g : DExp) (env : En) : dAndV f g env = bnd (dTst f env) fun b => if b = true then g env else ret (.bl false) := rfl
@[simp] theorem x_orv (f g : DExp) (env : En) : dOrV f g env = bnd (dTst f env) fun b => if b = true then ret (.bl true) else g env := rfl
@[simp] theorem x_notv (f : DExp) (env : En) : dNotV f env = bnd (dTst f env) fun b => ret (.bl (!b)) := rfl
@[simp] theorem x_ife (c : DTst) (f g : DExp) (env : En) : dIf c f g env = bnd (c env) fun b => if b = true then f env else g env := rfl
@[simp] theorem x_anil (env : En) : aNil env = ret [] := rfl
@[simp] theorem x_acons (f : DExp) (r : DArg) (env : En) : aCons f r env = bnd (f env) fun x => bnd (r env) fun xs => ret (x :: xs) := rfl
theorem one_le : 1 ≤ sizeLine := by decide
@[simp] theorem x_tup (r : DArg) (env : En) : dTup r env = bnd (r env) fun xs => need (xs.length ≤ sizeLine) (ret (.tup xs)) := rfl
@[simp] theorem x_lst (r : DArg) (env : En) : dLst r env = bnd (r env) fun xs => need (xs.length ≤ sizeLine) (ret (.lst xs)) := rfl
@[simp] theorem x_flst (r : DArg) (env : En) : fLst r env = bnd (r env) fun xs => need (xs.length ≤ sizeLine) (ret xs) := rfl
@[simp] theorem x_mnil (env : En) : mNil env = ret [] := rfl
@[simp] theorem x_mval (f : DExp) (r : DSl) (env : En) : mVal f r env = bnd (f env) fun d => bnd (r env) fun ss => ret (.val d :: ss) := rfl
@[simp] theorem x_mown (f : DFl) (r : DSl) (env : En) : mOwn f r env = bnd (f env) fun ds => bnd (r env) fun ss => ret (.own ds :: ss) := rfl
@[simp] theorem x_sets0 (env : En) : setsE [] [] env = some env := rfl
@[simp] theorem x_sets1 (i : Nat) (is : List Nat) (s : Slot) (ss : List Slot) (env : En) : setsE (i :: is) (s :: ss) env = setsE is ss (env.set i s) := rfl
@[simp] theorem x_call (m : Nat) (φ : Fn) (fa : DArg) (env : En) : dCall m φ fa env = bnd (fa env) fun ds => need (ds.length = m) (φ ds) := rfl
@[simp] theorem x_cb (g : List D → M D) (fa : DArg) (env : En) : dCb g fa env = bnd (fa env) g := rfl
@[simp] theorem x_onone (env : En) : oNone env = ret none := rfl
@[simp] theorem x_osome (f : DExp) (env : En) : oSome f env = bnd (f env) fun d => match d with | .int i => ret (some i) | _ => stuck := rfl
@[simp] theorem x_sl (fe : DExp) (fl fh : DOpt) (env : En) : dSl fe fl fh env = bnd (fe env) fun d => bnd (fl env) fun l => bnd (fh env) fun h => gSl d l h := rfl
@[simp] theorem x_st (fe : DExp) (fl fh fc : DOpt) (env : En) : dSt fe fl fh fc env = bnd (fe env) fun d => bnd (fl env) fun l => bnd (fh env) fun h => bnd (fc env) fun c => gSt d l h c := rfl
@[simp] theorem x_m1 (g : Str → D → M D) (fo fe : DExp) (env : En) : dM1 g fo fe env = bnd (fo env) fun d => match d with | .str a => bnd (fe env) (g a) | _ => stuck := rfl
@[simp] theorem x_lc (fi : DIt) (vs : List Nat) (tg : D → En → Option En) (c : DTst) (f : DExp) (env : En) : dLc fi vs tg c f env = bnd (fi env) fun ds => need (ds.length ≤ sizeLine) (bnd (lcD vs tg c f env ds) fun xs => ret (.lst xs)) := rfl
@[simp] theorem x_flc (fi : DIt) (vs : List Nat) (tg : D → En → Option En) (c : DTst) (f : DExp) (env : En) : fLc fi vs tg c f env = bnd (fi env) fun ds => need (ds.length ≤ sizeLine) (lcD vs tg c f env ds) := rfl
@[simp] theorem x_lc2 (fi : DIt) (vs : List Nat) (tg : D → En → Option En) (c : DTst) (fi1 : DIt) (vs1 : List Nat) (tg1 : D → En → Option En) (c1 : DTst) (f : DExp) (env : En) : dLc2 fi vs tg c fi1 vs1 tg1 c1 f env = bnd (fi env) fun ds => bnd (lcD2 vs tg c fi1 vs1 tg1 c1 f env 0 ds) fun xs => ret (.lst xs) := rfl
@[simp] theorem x_ival (f : DExp) (env : En) : iVal f env = bnd (f env) itemsOf := rfl
@[simp] theorem x_items_l (l : List D) : itemsOf (.lst l) = ret l := rfl
@[simp] theorem x_items_t (l : List D) : itemsOf (.tup l) = ret l := rfl
@[simp] theorem x_ir1 (fa : DArg) (env : En) : iRange1 fa env = bnd (fa env) fun ds => match ds with | [.int j] => need (-(2 ^ 62) ≤ j ∧ j < 2 ^ 62) (ret (rangeD 0 j.toNat)) | _ => stuck := rfl
@[simp] theorem x_ir2 (fa : DArg) (env : En) : iRange2 fa env = bnd (fa env) fun ds => match ds with | [.int i, .int j] => need (-(2 ^ 62) ≤ i ∧ i < 2 ^ 62 ∧ -(2 ^ 62) ≤ j ∧ j < 2 ^ 62) (ret (rangeD i (j - i).toNat)) | _ => stuck := rfl
@[simp] theorem x_ien (fa : DArg) (env : En) : iEn fa env = bnd (fa env) fun ds => match ds with | [d] => bnd (itemsOf d) fun l => ret (enumD l) | _ => stuck := rfl
@[simp] theorem x_iz (fa : DArg) (env : En) : iZ2 fa env = bnd (fa env) fun ds => match ds with | [d, d'] => bnd (itemsOf d) fun l => bnd (itemsOf d') fun l' => ret (pairsD l l') | _ => stuck := rfl
@[simp] theorem x_lrg (f : DExp) (env : En) : dListRg f env = bnd (f env) fun d => bnd (rgL d) fun l => ret (.lst l) := rfl
@[simp] theorem x_rgL (j : Int) : rgL (.int j) = need (0 ≤ j ∧ j ≤ 16777216) (ret (rangeD 0 j.toNat)) := rfl
@[simp] theorem x_yes (env : En) : cYes env = ret true := rfl
@[simp] theorem x_tgn (i : Nat) (d : D) (env : En) : tgN i d env = some (env.set i (.val d)) := rfl
@[simp] theorem x_body (s : DStm) (env : En) : body s env = bnd (s env) fun f => match f with | .nx _ => ret .non | .rt d => ret d := rfl
theorem x_fn (n : Nat) (s : DStm) (ds : List D) : fnOf n s ds = bnd (s (ds.map Slot.val ++ List.replicate (n - ds.length) Slot.emp)) fun f => match f with | .nx _ => ret .non | .rt d => ret d := rfl
/-! the operators -/
@[simp] theorem g_add_i (i j : Int) : gAdd (.int i) (.int j) = ret (.int (i + j)) := rfl
@[simp] theorem g_add_l (a b : List D) : gAdd (.lst a) (.lst b) = need (a.length + b.length ≤ sizeLine) (ret (.lst (a ++ b))) := rfl
@[simp] theorem g_add_t (a b : List D) : gAdd (.tup a) (.tup b) = need (a.length + b.length ≤ sizeLine) (ret (.tup (a ++ b))) := rfl
@[simp] theorem g_add_s (a b : Str) : gAdd (.str a) (.str b) = need (a.length + b.length ≤ sizeLine) (ret (.str (a ++ b))) := rfl
@[simp] theorem g_sub_i (i j : Int) : gSub (.int i) (.int j) = ret (.int (i - j)) := rfl
@[simp] theorem g_mul_i (i j : Int) : gMul (.int i) (.int j) = need (CMulW i j) (ret (.int (i * j))) := rfl
@[simp] theorem g_mul_l (a : List D) (k : Int) : gMul (.lst a) (.int k) = need (a.length * k.toNat ≤ sizeLine ∧ -(2 ^ 63) ≤ k ∧ k < 2 ^ 63) (ret (.lst (List.replicate k.toNat a).flatten)) := rfl
@[simp] theorem g_mod_i (i j : Int) : gMod (.int i) (.int j) = need (0 < j) (ret (.int (i % j))) := rfl
@[simp] theorem g_fdiv_i (i j : Int) : gFdiv (.int i) (.int j) = need (CDivW i j) (ret (.int (i / j))) := rfl
@[simp] theorem g_pow_i (i j : Int) : gPow (.int i) (.int j) = need (CPow i j) (ret (.int (i ^ j.toNat))) := rfl
@[simp] theorem g_neg_i (i : Int) : gNeg (.int i) = ret (.int (-i)) := rfl
@[simp] theorem g_lt_i (i j : Int) : gLt (.int i) (.int j) = ret (.bl (decide (i < j))) := rfl
@[simp] theorem g_le_i (i j : Int) : gLe (.int i) (.int j) = ret (.bl (decide (i ≤ j))) := rfl
@[simp] theorem g_gt_i (i j : Int) : gGt (.int i) (.int j) = ret (.bl (decide (j < i))) := rfl
@[simp] theorem g_ge_i (i j : Int) : gGe (.int i) (.int j) = ret (.bl (decide (j ≤ i))) := rfl
@[simp] theorem g_len_l (l : List D) : gLen [.lst l] = ret (.int l.length) := rfl
@[simp] theorem g_len_t (l : List D) : gLen [.tup l] = ret (.int l.length) := rfl
@[simp] theorem g_len_s (s : Str) : gLen [.str s] = need (s.length ≤ sizeLine) (ret (.int s.length)) := rfl
@[simp] theorem g_len_c (k : Nat) : gLen [.scr k] = ret (.int k) := rfl
@[simp] theorem g_int_i (i : Int) : gInt [.int i] = ret (.int i) := rfl
@[simp] theorem g_tuple_l (l : List D) : gTuple [.lst l] = ret (.tup l) := rfl
@[simp] theorem g_tuple_t (l : List D) : gTuple [.tup l] = ret (.tup l) := rfl
@[simp] theorem g_list_l (l : List D) : gList [.lst l] = ret (.lst l) := rfl
@[simp] theorem g_list_t (l : List D) : gList [.tup l] = ret (.lst l) := rfl
@[simp] theorem g_min2 (i j : Int) : gMin2 [.int i, .int j] = ret (.int (if j < i then j else i)) := rfl
@[simp] theorem g_max2 (i j : Int) : gMax2 [.int i, .int j] = ret (.int (if j > i then j else i)) := rfl
@[simp] theorem g_st_l (l : List D) (lo hi : Option Int) (c : Int) : gSt (.lst l) lo hi (some c) = need (c ≠ 0 ∧ c ≠ 1) (ret (.lst (stepV l lo hi c))) := rfl
@[simp] theorem g_st_t (l : List D) (lo hi : Option Int) (c : Int) : gSt (.tup l) lo hi (some c) = need (c ≠ 0 ∧ c ≠ 1) (ret (.tup (stepV l lo hi c))) := rfl
theorem g_sum_l (ns : List Int) : gSum [.lst (ns.map D.int)] = ret (.int ns.sum) := by
  show (match (some (ns.map D.int)).bind intsD with | some ns => ret (D.int ns.sum) | none => stuck) = _
  rw [Option.bind_some, intsD_map]
theorem g_sum_t (ns : List Int) : gSum [.tup (ns.map D.int)] = ret (.int ns.sum) := g_sum_l ns
theorem g_all (bs : List Bool) : gAll [.lst (bs.map D.bl)] = ret (.bl (bs.all id)) := by
  show (match bls (bs.map D.bl) with | some bs => ret (D.bl (bs.all id)) | none => stuck) = _
  rw [bls_map]
theorem g_any (bs : List Bool) : gAny [.lst (bs.map D.bl)] = ret (.bl (bs.any id)) := by
  show (match bls (bs.map D.bl) with | some bs => ret (D.bl (bs.any id)) | none => stuck) = _
  rw [bls_map]
theorem g_sort (ns : List Int) : gSortI [.lst (ns.map D.int)] = ret (.lst ((sortI ns).map D.int)) := by
  show (match intsD (ns.map D.int) with | some ns => ret (D.lst ((sortI ns).map D.int)) | none => stuck) = _
  rw [intsD_map]
end
/-! == of flat things -/
@[simp] theorem g_eq_i (neg : Bool) (i j : Int) : gEq neg (.int i) (.int j) = ret (.bl (if neg then !decide (i = j) else decide (i = j))) := by
  rw [gEq_pl rfl rfl]; rfl
@[simp] theorem g_eq_b (neg : Bool) (i j : Bool) : gEq neg (.bl i) (.bl j) = ret (.bl (if neg then !(i == j) else i == j)) := by
  rw [gEq_pl rfl rfl]; rfl
@[simp] theorem g_eq_s (neg : Bool) (i j : Str) : gEq neg (.str i) (.str j) = ret (.bl (if neg then !decide (i = j) else decide (i = j))) := rfl
end DL

end
section
set_option Elab.async false
set_option linter.all false
set_option maxRecDepth 100000
set_option maxHeartbeats 4000000
/-! DLaw: the law's promise. -/
namespace DL
open PySem PySem.Spec PyProof.Rows L2
variable [Tb]
def spLaw (K : PySem.W.Frag) : Sp := fun vs H Q _ => ∃ (a : Addr) (ns : List Int), vs = [.ref a] ∧ SqL K H a (ns.map V.int) ∧ ns.length ≤ 63 ∧ TabsK H ∧ ∀ H', Q (.bl true) H'
theorem law_sp {K : PySem.W.Frag} {mg : Str → Option Value} {φ : Fn} {c : Nat} (hc : c ≤ 2 ^ 60) (h : ∀ k, k ≤ 63 → Runs (φ [.scr k]) c fun d => d = .bl true) {vs : List V} {H : Hp} {Q : VK} {E : XK} (q : spLaw K vs H Q E) : spD K mg 1 φ vs H Q E := by
  obtain ⟨a, ns, rfl, hs, hn, tb, q⟩ := q
  refine ⟨rfl, 0, H, [.scr ns.length], fun _ _ e => e, tb, .one (.scr hs), h _ hn 0 _ _ (by omega) fun d n' _ hd => ?_⟩
  subst hd
  intro v F' H' _ r
  cases r
  exact q H'
theorem w_of {P : Program} {w : World} {K : PySem.W.Frag} {mg : Str → Option Value} {base : Heap} {N ps : List Str} {st : Stmt} {k : Nat} {s : DStm} {x : Str} {f : Addr} {fd : FuncData} (F : Fun K x x st f fd) (S : FnScope N ps (defScope st))
    (hb : ∀ (f : Addr) (cd : Value) (R : Around) (callers : List PySem.Env) (t : Shared) (H : Hp) (E : XK), Kx (cxOf (L2.CX P w) P w K mg base N x (defScope st) f cd R callers t H E) (fun cls d _ H => E cls d H) k →
      DSs (cxOf (L2.CX P w) P w K mg base N x (defScope st) f cd R callers t H E) (fun cls d _ H => E cls d H) (defBody st) s) : FnG P w K mg base (k + 1) f fd ps (spD K mg ps.length (fnOf N.length s)) :=
  FnG.okD F S fun cd R callers t H E rm gd => hb f cd R callers t H E (Kx.of rm gd S.nd)
end DL

end
section
set_option Elab.async false
set_option linter.all false
set_option maxRecDepth 100000
set_option maxHeartbeats 4000000
/-! DMath: every other one; corners. -/
namespace DL
open PySem PySem.Spec PyProof.Rows L2
variable [Tb]
def evens {α : Type} : List α → List α
  | [] => []
  | [a] => [a]
  | a :: _ :: r => a :: evens r
def odds {α : Type} (l : List α) : List α := evens (l.drop 1)
theorem evens_map {α β : Type} (f : α → β) : ∀ l : List α, evens (l.map f) = (evens l).map f
  | [] => rfl
  | [a] => rfl
  | a :: b :: r => by simp only [List.map_cons, evens]; rw [evens_map f r]
theorem odds_map {α β : Type} (f : α → β) (l : List α) : odds (l.map f) = (odds l).map f := by
  unfold odds; rw [← List.map_drop, evens_map]
theorem evens_pick {α : Type} : ∀ l : List α, (List.range ((l.length + 1) / 2)).filterMap (fun m => l[2 * m]?) = evens l
  | [] => by simp [evens]
  | [a] => by simp [evens, List.range_succ]
  | a :: b :: r => by
    have e : ((a :: b :: r).length + 1) / 2 = (r.length + 1) / 2 + 1 := by simp only [List.length_cons]; omega
    rw [e, List.range_succ_eq_map, List.filterMap_cons, List.filterMap_map]
    simp only [Nat.mul_zero, List.getElem?_cons_zero]
    rw [evens]
    congr 1
    rw [← evens_pick r]
    congr 1
theorem step_evens {α : Type} (l : List α) : stepV l none none 2 = evens l := by
  rw [← evens_pick l]
  unfold stepV
  have e1 : Builtin.Slice.sliceAdjust none none 2 (l.length : Int) = (0, (l.length : Int)) := rfl
  rw [e1]
  have e2 : Builtin.Slice.slicePlaces 0 (l.length : Int) 2 = (l.length + 1) / 2 := by
    unfold Builtin.Slice.slicePlaces
    by_cases h : (0 : Int) < l.length
    · simp only [show (2 : Int) > 0 by decide, if_true, h]; omega
    · simp only [show (2 : Int) > 0 by decide, if_true, h, if_false]; omega
  rw [e2]
  congr 1
  funext m
  congr 1
  omega
theorem step_odds {α : Type} (l : List α) : stepV l (some 1) none 2 = odds l := by
  unfold odds
  rw [← evens_pick (l.drop 1)]
  unfold stepV
  cases l with
  | nil => simp
  | cons a l =>
    have e1 : Builtin.Slice.sliceAdjust (some 1) none 2 (((a :: l).length : Nat) : Int) = (1, (((a :: l).length : Nat) : Int)) := by
      unfold Builtin.Slice.sliceAdjust
      simp only [show ¬ (2 : Int) < 0 by decide, if_false, show ¬ (1 : Int) < 0 by decide, Prod.mk.injEq, and_true]
      simp only [List.length_cons]; omega
    rw [e1]
    have e2 : Builtin.Slice.slicePlaces 1 (((a :: l).length : Nat) : Int) 2 = (((a :: l).drop 1).length + 1) / 2 := by
      unfold Builtin.Slice.slicePlaces
      simp only [List.length_cons, List.drop_succ_cons, List.drop_zero]
      by_cases h : (1 : Int) < ((l.length + 1 : Nat) : Int)
      · simp only [show (2 : Int) > 0 by decide, if_true, h]; omega
      · simp only [show (2 : Int) > 0 by decide, if_true, h, if_false]; omega
    rw [e2]
    congr 1
    funext m
    have : ((1 : Int) + (m : Int) * 2).toNat = 2 * m + 1 := by omega
    rw [this]; rfl
/-- a corner -/
structure CornerOk (ns : List Int) : Prop where
  two : 2 ≤ ns.length
  most : ns.length ≤ 12
  pos : ∀ a ∈ ns, 1 ≤ a
  sum : ns.sum ≤ 10 ^ 30
theorem le_sum : ∀ {ns : List Int}, (∀ a ∈ ns, 1 ≤ a) → (∀ a ∈ ns, a ≤ ns.sum) ∧ 0 ≤ ns.sum
  | [], _ => ⟨by simp, by simp⟩
  | x :: xs, h => by
    obtain ⟨h1, h2⟩ := le_sum (ns := xs) fun a ha => h a (by simp [ha])
    have hx := h x (by simp)
    rw [List.sum_cons]
    refine ⟨fun a ha => ?_, by omega⟩
    rcases List.mem_cons.mp ha with rfl | ha
    · omega
    · have := h1 a ha; omega
theorem CornerOk.le {ns : List Int} (c : CornerOk ns) : ∀ a ∈ ns, 1 ≤ a ∧ a ≤ 10 ^ 30 := fun a ha => ⟨c.pos a ha, Int.le_trans ((le_sum c.pos).1 a ha) c.sum⟩
@[simp] theorem isi_int (i : Int) : gIsi [.int i, .ty "int"] = ret (.bl true) := rfl
@[simp] theorem isi_int_b (i : Int) : gIsi [.int i, .ty "bool"] = ret (.bl false) := rfl
@[simp] theorem isi_tup (l : List D) : gIsi [.tup l, .ty "tuple"] = ret (.bl true) := rfl
@[simp] theorem isi_str (x : Str) : gIsi [.str x, .ty "str"] = ret (.bl true) := rfl
def closedB (ns : List Int) : Bool := decide (ns.length % 2 = 0) && decide ((evens ns).sum = (odds ns).sum)
theorem loopD_inv {tg : D → En → Option En} {b : DStm} (I : Nat → En → Prop) : ∀ {ds : List D} {env : En} (k : Nat), I k env → (∀ (i : Nat) d, ds[i]? = some d → ∀ env, I (k + i) env → ∃ e1 e2, tg d env = some e1 ∧ b e1 = ret (.nx e2) ∧ I (k + i + 1) e2) → ∃ e', loopD tg b ds env = ret (.nx e') ∧ I (k + ds.length) e'
  | [], env, k, h, _ => ⟨env, rfl, h⟩
  | d :: ds, env, k, h, step => by
    obtain ⟨e1, e2, h1, h2, h3⟩ := step 0 d rfl env h
    obtain ⟨e', h4, h5⟩ := loopD_inv I (ds := ds) (env := e2) (k + 1) h3 fun i x hx env' hI => by
      have q := step (i + 1) x (by simpa using hx) env' (by rw [show k + (i + 1) = k + 1 + i by omega]; exact hI)
      rw [show k + (i + 1) + 1 = k + 1 + i + 1 by omega] at q
      exact q
    refine ⟨e', ?_, by rw [List.length_cons, show k + (ds.length + 1) = k + 1 + ds.length by omega]; exact h5⟩
    unfold loopD
    rw [h1]
    dsimp only
    rw [h2, bnd_ret]
    exact h4
theorem lcD_map {α : Type} {vs : List Nat} {tg : D → En → Option En} {c : DTst} {f : DExp} {env : En} (m : α → D) (e : α → En) (b : α → Bool) (g : α → D) : ∀ {l : List α}, (∀ a ∈ l, tg (m a) (wipeE env vs) = some (e a) ∧ c (e a) = ret (b a) ∧ (b a = true → f (e a) = ret (g a))) → lcD vs tg c f env (l.map m) = ret ((l.filter b).map g)
  | [], _ => rfl
  | d :: ds, h => by
    obtain ⟨h1, h2, h3⟩ := h d (by simp)
    have ih := lcD_map (vs := vs) (tg := tg) (c := c) (f := f) (env := env) m e b g (l := ds) fun x hx => h x (by simp [hx])
    rw [List.map_cons]
    unfold lcD
    rw [h1]
    dsimp only
    rw [h2, noex_ret, bnd_ret]
    cases hb : b d with
    | true => rw [if_pos rfl, h3 hb, noex_ret, bnd_ret, ih, bnd_ret]; simp [List.filter_cons, hb]
    | false => rw [if_neg (by simp), ih]; simp [List.filter_cons, hb]
theorem lcD_mapY {α : Type} {vs : List Nat} {tg : D → En → Option En} {f : DExp} {env : En} (m : α → D) (e : α → En) (g : α → D) {l : List α} (h : ∀ a ∈ l, tg (m a) (wipeE env vs) = some (e a) ∧ f (e a) = ret (g a)) : lcD vs tg cYes f env (l.map m) = ret (l.map g) := by
  have q := lcD_map (c := cYes) m e (fun _ => true) g (l := l) fun a ha => ⟨(h a ha).1, rfl, fun _ => (h a ha).2⟩
  rw [List.filter_eq_self.mpr fun _ _ => rfl] at q
  exact q
@[simp] theorem enum_map {α : Type} (m : α → D) (l : List α) : enumD (l.map m) = l.zipIdx.map fun p => .tup [.int (p.2 : Nat), m p.1] := by
  unfold enumD
  rw [List.zipIdx_map, List.map_map]
  rfl
@[simp] theorem tg_two {i j : Nat} {a b : D} {env : En} : tgT 2 (tgsCons (tgN i) (tgsCons (tgN j) tgsNil)) (.tup [a, b]) env = some ((env.set i (.val a)).set j (.val b)) := rfl
@[simp] theorem x_bnd_ite {α β : Type} (c : Prop) [Decidable c] (a b : M α) (f : α → M β) : bnd (if c then a else b) f = if c then bnd a f else bnd b f := bnd_ite c a b f
theorem ixN_nat {n i : Nat} (h : i < n) : ixN n (i : Int) = some i := by
  unfold L2.ixN
  rw [if_pos (by omega), if_pos (by omega), Int.toNat_natCast]
theorem ix_l {l : List D} {i : Nat} {d : D} (h : l[i]? = some d) : gIx (.lst l) (.int (i : Int)) = ret d := by
  have hi := (List.getElem?_eq_some_iff.mp h).1
  show (match L2.atI l (i : Int) with | some d => ret d | none => stuck) = _
  unfold L2.atI
  rw [ixN_nat hi, Option.bind_some, h]
theorem ix_t {l : List D} {i : Nat} {d : D} (h : l[i]? = some d) : gIx (.tup l) (.int (i : Int)) = ret d := ix_l h
/-- the alternating sum -/
def alt : List Int → Int
  | [] => 0
  | a :: r => a - alt r
theorem alt_snoc (a : Int) : ∀ l : List Int, alt (l ++ [a]) = if l.length % 2 = 0 then alt l + a else alt l - a
  | [] => by simp [alt]
  | x :: l => by
    have ih := alt_snoc a l
    show x - alt (l ++ [a]) = _
    rw [ih]
    show _ = if (l.length + 1) % 2 = 0 then x - alt l + a else x - alt l - a
    by_cases h : l.length % 2 = 0
    · rw [if_pos h, if_neg (by omega)]; omega
    · rw [if_neg h, if_pos (by omega)]; omega
/-- where the creases come to lie -/
def placesL (ns : List Int) : List Int := (List.range ns.length).map fun i => alt (ns.take i)
theorem places_len (ns : List Int) : (placesL ns).length = ns.length := by simp [placesL]
theorem alt_next {ns : List Int} {i : Nat} {a : Int} (h : ns[i]? = some a) : alt (ns.take (i + 1)) = if i % 2 = 0 then alt (ns.take i) + a else alt (ns.take i) - a := by
  have hi := (List.getElem?_eq_some_iff.mp h).1
  rw [List.take_add_one, h]
  show alt (ns.take i ++ [a]) = _
  rw [alt_snoc, List.length_take, Nat.min_eq_left (by omega)]
theorem places_take {ns : List Int} {i : Nat} (h : i < ns.length) : (placesL ns).take (i + 1) = (placesL ns).take i ++ [alt (ns.take i)] := by
  have e : (placesL ns)[i]? = some (alt (ns.take i)) := by unfold placesL; simp [h]
  rw [List.take_add_one, e]; rfl
/-! ### letters -/
def sgC (b : Bool) : Nat := if b then 86 else 77
def sg (bs : List Bool) : Str := ⟨(bs.map sgC).toArray⟩
theorem str_V : ("V" : Str) = sg [true] := by rfl
theorem str_M : ("M" : Str) = sg [false] := by rfl
theorem sg_len (bs : List Bool) : (sg bs).length = bs.length := by
  show ((bs.map sgC).toArray).size = _
  simp
theorem sg_ok (bs : List Bool) : PyData.strOk (sg bs) = true := by
  show ((bs.map sgC).toArray).all _ = true
  rw [Array.all_eq_true_iff_forall_mem]
  intro c hc
  have hc : c ∈ bs.map sgC := by simpa using hc
  obtain ⟨b, _, rfl⟩ := List.mem_map.mp hc
  cases b <;> rfl
theorem sg_inj : ∀ {a b : List Bool}, sg a = sg b → a = b := fun {a b} h => by
  have h1 : (a.map sgC).toArray = (b.map sgC).toArray := congrArg Str.cps h
  have h2 : a.map sgC = b.map sgC := by simpa using h1
  refine List.map_inj_right (f := sgC) ?_ |>.mp h2
  intro x y q
  cases x <;> cases y <;> first | rfl | (exact absurd q (by decide))
theorem sg_items (bs : List Bool) : itemsOf (.str (sg bs)) = ret (bs.map fun b => D.str (sg [b])) := by
  show ret ((sg bs).cps.toList.map fun c => D.str ⟨#[c]⟩) = _
  show ret (((bs.map sgC).toArray).toList.map fun c => D.str ⟨#[c]⟩) = _
  rw [List.toList_toArray, List.map_map]
  rfl
theorem joinL_nil : ∀ l : List Nat, TL.joinL [] (l.map fun c => [c]) = l
  | [] => rfl
  | [c] => rfl
  | c :: d :: r => by
    have ih := joinL_nil (d :: r)
    show [c] ++ ([] ++ TL.joinL [] ((d :: r).map fun c => [c])) = _
    rw [ih]; rfl
theorem sum_ones : ∀ bs : List Bool, ((bs.map fun b => sg [b]).map fun (y : Str) => y.length).sum = bs.length
  | [] => rfl
  | b :: r => by
    rw [List.map_cons, List.map_cons, List.sum_cons, sum_ones r, sg_len]; simp only [List.length_cons, List.length_nil]; omega
theorem sg_join (bs : List Bool) (h : bs.length ≤ 1000) : gJoin "" (.lst (bs.map fun b => D.str (sg [b]))) = ret (.str (sg bs)) := by
  have e : bs.map (fun b => D.str (sg [b])) = (bs.map fun b => sg [b]).map D.str := by rw [List.map_map]; rfl
  show (match (some (bs.map fun b => D.str (sg [b]))).bind strD with | some ys => need ((ys.map fun (y : Str) => y.length).sum + ys.length * ("" : Str).length ≤ 16777216) (ret (D.str (Txt.join "" ys))) | none => stuck) = _
  rw [Option.bind_some, e, strD_map]
  have e2 : Txt.join "" (bs.map fun b => sg [b]) = sg bs := by
    have q := SX.join_S [] ((bs.map sgC).map fun c => [c])
    rw [joinL_nil] at q
    have e3 : ((bs.map sgC).map fun c => [c]).map SX.S = bs.map fun b => sg [b] := by rw [List.map_map, List.map_map]; rfl
    rw [e3] at q
    exact q
  dsimp only
  rw [e2, sum_ones]
  refine need_of ?_ _
  have : ("" : Str).length = 0 := rfl
  rw [this]; omega
/-! ### ranges -/
def natD (i : Nat) : D := .int (i : Int)
theorem rangeD_nat (n : Nat) : rangeD 0 n = (List.range n).map natD := by
  unfold rangeD natD
  simp
theorem rangeD_from (i n : Nat) : rangeD ((i : Int) + 1) (((n : Int) - ((i : Int) + 1)).toNat) = ((List.range n).drop (i + 1)).map natD := by
  have e : ((n : Int) - ((i : Int) + 1)).toNat = n - (i + 1) := by omega
  rw [e, List.range_eq_range', List.drop_range']
  unfold rangeD natD
  rw [List.range'_eq_map_range, List.map_map]
  apply List.map_congr_left
  intro a _
  simp only [Function.comp, Nat.zero_add]
  congr 1
  omega
theorem cut_from {l : List D} (i : Nat) : cutD l (some ((i : Int) + 1)) none = l.drop (i + 1) := by
  unfold cutD
  have e1 : HT.sIx l.length 0 (some ((i : Int) + 1)) = min (i + 1) l.length := HT.sIx_nat l.length 0 (i + 1)
  rw [e1, HT.sIx_none]
  by_cases h : i + 1 ≤ l.length
  · rw [Nat.min_eq_left h, List.take_of_length_le (by rw [List.length_drop]; omega)]
  · rw [Nat.min_eq_right (by omega), List.drop_length, List.drop_of_length_le (by omega)]; simp
@[simp] theorem g_sl_l (l : List D) (lo hi : Option Int) : gSl (.lst l) lo hi = ret (.lst (cutD l lo hi)) := rfl
@[simp] theorem g_sl_t (l : List D) (lo hi : Option Int) : gSl (.tup l) lo hi = ret (.tup (cutD l lo hi)) := rfl
@[simp] theorem g_sl_s (z : Str) (lo hi : Option Int) : gSl (.str z) lo hi = need (z.length ≤ sizeLine) (ret (.str (L2.cutS z lo hi))) := rfl
theorem lcD2_map {α β : Type} {vs vs1 : List Nat} {tg tg1 : D → En → Option En} {c c1 : DTst} {fi1 : DIt} {f : DExp} {env : En} (m : α → D) (e : α → En) (l1 : α → List β) (m1 : β → D) (xs : α → List D) (B : Nat) :
    ∀ {l : List α} {k : Nat}, k + B * l.length ≤ sizeLine → (∀ a ∈ l, tg (m a) (wipeE env vs) = some (e a) ∧ c (e a) = ret true ∧ fi1 (e a) = ret ((l1 a).map m1) ∧ (l1 a).length ≤ B ∧ lcD vs1 tg1 c1 f (e a) ((l1 a).map m1) = ret (xs a)) →
      lcD2 vs tg c fi1 vs1 tg1 c1 f env k (l.map m) = ret (l.flatMap xs)
  | [], _, _, _ => rfl
  | d :: ds, k, hk, h => by
    obtain ⟨h1, h2, h3, h4, h5⟩ := h d (by simp)
    rw [List.length_cons, Nat.mul_add, Nat.mul_one] at hk
    have ih := lcD2_map (vs := vs) (vs1 := vs1) (tg := tg) (tg1 := tg1) (c := c) (c1 := c1) (fi1 := fi1) (f := f) (env := env) m e l1 m1 xs B (l := ds) (k := k + ((l1 d).map m1).length) (by rw [List.length_map]; omega) fun x hx => h x (by simp [hx])
    rw [List.map_cons]
    unfold lcD2
    rw [h1]
    dsimp only
    rw [h2, noex_ret, bnd_ret, if_pos rfl, h3, noex_ret, bnd_ret, need_of (by rw [List.length_map]; omega), h5, bnd_ret, ih, bnd_ret, List.flatMap_cons]
def pr (p : Int × Int) : D := .tup [.int p.1, .int p.2]
def prN (p : Nat × Nat) : D := .tup [natD p.1, natD p.2]
theorem g_min_l (ns : List Int) (h : 0 < ns.length) : gMinS [.lst (ns.map D.int)] = ret (.int (minI ns)) := by
  show (match (some (ns.map D.int)).bind intsD with | some ns => need (0 < ns.length) (ret (D.int (minI ns))) | none => stuck) = _
  rw [Option.bind_some, intsD_map]
  exact need_of h _
theorem g_max_l (ns : List Int) (h : 0 < ns.length) : gMaxS [.lst (ns.map D.int)] = ret (.int (maxI ns)) := by
  show (match (some (ns.map D.int)).bind intsD with | some ns => need (0 < ns.length) (ret (D.int (maxI ns))) | none => stuck) = _
  rw [Option.bind_some, intsD_map]
  exact need_of h _
theorem g_min_t (ns : List Int) (h : 0 < ns.length) : gMinS [.tup (ns.map D.int)] = ret (.int (minI ns)) := g_min_l ns h
theorem g_max_t (ns : List Int) (h : 0 < ns.length) : gMaxS [.tup (ns.map D.int)] = ret (.int (maxI ns)) := g_max_l ns h
theorem min_pair (a b : Int) : gMinS [.tup [.int a, .int b]] = ret (.int (min a b)) := g_min_t [a, b] (by simp)
theorem max_pair (a b : Int) : gMaxS [.tup [.int a, .int b]] = ret (.int (max a b)) := g_max_t [a, b] (by simp)
theorem min_if (a b : Int) : (if b < a then b else a) = min a b := by
  by_cases h : b < a
  · rw [if_pos h, Int.min_eq_right (by omega)]
  · rw [if_neg h, Int.min_eq_left (by omega)]
theorem max_if (a b : Int) : (if b > a then b else a) = max a b := by
  by_cases h : b > a
  · rw [if_pos h, Int.max_eq_right (by omega)]
  · rw [if_neg h, Int.max_eq_left (by omega)]
theorem sort_pair (a b : Int) : sortI [a, b] = [min a b, max a b] := by
  show insI a [b] = _
  unfold insI
  by_cases h : a ≤ b
  · rw [if_pos h, Int.min_eq_left h, Int.max_eq_right h]
  · rw [if_neg h, Int.min_eq_right (by omega), Int.max_eq_left (by omega)]; rfl
/-- the next place, around -/
def nxt (ps : List Int) (i : Nat) : Int := ps.getD ((i + 1) % ps.length) 0
theorem nxt_get {ps : List Int} (i : Nat) (h : 0 < ps.length) : (ps.map D.int)[(i + 1) % ps.length]? = some (.int (nxt ps i)) := by
  have hlt : (i + 1) % ps.length < ps.length := Nat.mod_lt _ h
  rw [List.getElem?_map, List.getElem?_eq_getElem hlt]
  simp [nxt, List.getD_eq_getElem?_getD, hlt]
/-- the ranges of the sectors, by the places -/
def rangesL (ps : List Int) : List (Int × Int) := ps.zipIdx.map fun p => (min p.1 (nxt ps p.2), max p.1 (nxt ps p.2))
theorem ranges_len (ps : List Int) : (rangesL ps).length = ps.length := by simp [rangesL]
def rgAt (rs : List (Int × Int)) (i : Nat) : Int × Int := rs.getD i (0, 0)
theorem rg_get {rs : List (Int × Int)} {i : Nat} (h : i < rs.length) : (rs.map pr)[i]? = some (pr (rgAt rs i)) := by
  rw [List.getElem?_map, List.getElem?_eq_getElem h]
  simp [rgAt, List.getD_eq_getElem?_getD, h]
def ovl (rs : List (Int × Int)) (i j : Nat) : Bool := decide (max (rgAt rs i).1 (rgAt rs j).1 < min (rgAt rs i).2 (rgAt rs j).2)
def overlapsL (ns : List Int) : List (Nat × Nat) := (List.range ns.length).flatMap fun i => (((List.range ns.length).drop (i + 1)).filter (ovl (rangesL (placesL ns)) i)).map fun j => (i, j)
def er (p : Int × Int) : D := .lst [.int p.1, .int p.2]
theorem rg_ranges {ps : List Int} {k : Nat} (h : k < ps.length) : rgAt (rangesL ps) k = (min ps[k] (nxt ps k), max ps[k] (nxt ps k)) := by
  unfold rgAt rangesL
  rw [List.getD_eq_getElem?_getD, List.getElem?_map, List.getElem?_zipIdx, List.getElem?_eq_getElem h]
  simp
theorem er_get {rs : List (Int × Int)} {i : Nat} (h : i < rs.length) : ((List.range rs.length).map fun k => er (rgAt rs k))[i]? = some (er (rgAt rs i)) := by
  simp [h]
theorem range_get {n i : Nat} {d : D} (h : ((List.range n).map natD)[i]? = some d) : i < n ∧ d = natD i := by
  rw [List.getElem?_map] at h
  by_cases hi : i < n
  · rw [List.getElem?_range hi] at h
    exact ⟨hi, by simpa using h.symm⟩
  · rw [List.getElem?_eq_none (by simpa using hi)] at h; cases h
theorem drop_get {n a i : Nat} {d : D} (h : (((List.range n).drop a).map natD)[i]? = some d) : a + i < n ∧ d = natD (a + i) := by
  rw [List.getElem?_map, List.getElem?_drop] at h
  by_cases hi : a + i < n
  · rw [List.getElem?_range hi] at h
    exact ⟨hi, by simpa using h.symm⟩
  · rw [List.getElem?_eq_none (by simpa using hi)] at h; cases h
/-- those that overlap, of the first i -/
def ovTo (n : Nat) (rs : List (Int × Int)) (i : Nat) : List (Nat × Nat) := (List.range i).flatMap fun i => (((List.range n).drop (i + 1)).filter (ovl rs i)).map fun j => (i, j)
def ovIn (n : Nat) (rs : List (Int × Int)) (i j : Nat) : List (Nat × Nat) := ((((List.range n).drop (i + 1)).take j).filter (ovl rs i)).map fun j => (i, j)
theorem ovTo_next (n : Nat) (rs : List (Int × Int)) (i : Nat) : ovTo n rs (i + 1) = ovTo n rs i ++ ovIn n rs i (n - (i + 1)) := by
  unfold ovTo ovIn
  rw [List.range_succ, List.flatMap_append, List.flatMap_cons, List.flatMap_nil, List.append_nil, List.take_of_length_le (by simp)]
theorem ovIn_next {n : Nat} (rs : List (Int × Int)) {i j : Nat} (h : i + 1 + j < n) : ovIn n rs i (j + 1) = ovIn n rs i j ++ (if ovl rs i (i + 1 + j) then [(i, i + 1 + j)] else []) := by
  unfold ovIn
  have e : ((List.range n).drop (i + 1))[j]? = some (i + 1 + j) := by rw [List.getElem?_drop, List.getElem?_range h]
  rw [List.take_add_one, e, List.filter_append, List.map_append]
  congr 1
  by_cases q : ovl rs i (i + 1 + j) = true
  · simp [q]
  · simp [q]
theorem ov_small (n : Nat) (rs : List (Int × Int)) (i : Nat) : (ovTo n rs i).length ≤ n * i := by
  unfold ovTo
  induction i with
  | zero => simp
  | succ i ih =>
    rw [List.range_succ, List.flatMap_append, List.length_append, Nat.mul_add, Nat.mul_one]
    have h1 : ((List.flatMap (fun i => (((List.range n).drop (i + 1)).filter (ovl rs i)).map fun j => (i, j)) [i])).length ≤ n := by
      simp only [List.flatMap_cons, List.flatMap_nil, List.append_nil, List.length_map]
      refine Nat.le_trans (List.length_filter_le _ _) ?_
      rw [List.length_drop, List.length_range]; omega
    omega
theorem ovIn_small (n : Nat) (rs : List (Int × Int)) (i j : Nat) : (ovIn n rs i j).length ≤ n := by
  unfold ovIn
  rw [List.length_map]
  refine Nat.le_trans (List.length_filter_le _ _) ?_
  rw [List.length_take, List.length_drop, List.length_range]; omega
/-! ### turned around -/
def rot {α : Type} (i : Nat) (l : List α) : List α := l.drop i ++ l.take i
theorem cut_drop {α : Type} (l : List α) (i : Nat) : (l.drop (HT.sIx l.length 0 (some (i : Int)))).take (HT.sIx l.length l.length none - HT.sIx l.length 0 (some (i : Int))) = l.drop i := by
  rw [HT.sIx_nat, HT.sIx_none]
  by_cases h : i ≤ l.length
  · rw [Nat.min_eq_left h, List.take_of_length_le (by rw [List.length_drop]; omega)]
  · rw [Nat.min_eq_right (by omega), List.drop_length, List.drop_of_length_le (by omega)]; simp
theorem cut_take {α : Type} (l : List α) (i : Nat) : (l.drop (HT.sIx l.length 0 none)).take (HT.sIx l.length l.length (some (i : Int)) - HT.sIx l.length 0 none) = l.take i := by
  rw [HT.sIx_nat, HT.sIx_none, List.drop_zero, Nat.sub_zero]
  by_cases h : i ≤ l.length
  · rw [Nat.min_eq_left h]
  · rw [Nat.min_eq_right (by omega), List.take_length, List.take_of_length_le (by omega)]
theorem cutD_drop (l : List D) (i : Nat) : cutD l (some (i : Int)) none = l.drop i := cut_drop l i
theorem cutD_take (l : List D) (i : Nat) : cutD l none (some (i : Int)) = l.take i := cut_take l i
theorem cutS_drop (bs : List Bool) (i : Nat) : L2.cutS (sg bs) (some (i : Int)) none = sg (bs.drop i) := by
  unfold L2.cutS
  have e : (sg bs).length = (bs.map sgC).length := by rw [sg_len, List.length_map]
  have e2 : (sg bs).cps.toList = bs.map sgC := List.toList_toArray
  rw [e, e2, cut_drop, ← List.map_drop]; rfl
theorem cutS_take (bs : List Bool) (i : Nat) : L2.cutS (sg bs) none (some (i : Int)) = sg (bs.take i) := by
  unfold L2.cutS
  have e : (sg bs).length = (bs.map sgC).length := by rw [sg_len, List.length_map]
  have e2 : (sg bs).cps.toList = bs.map sgC := List.toList_toArray
  rw [e, e2, cut_take, ← List.map_take]; rfl
theorem sg_append (a b : List Bool) : sg a ++ sg b = sg (a ++ b) := by
  unfold sg
  rw [List.map_append]
  apply congrArg Str.mk
  show (a.map sgC).toArray ++ (b.map sgC).toArray = _
  simp
theorem rot_len {α : Type} (i : Nat) (l : List α) : (rot i l).length = l.length := by
  unfold rot
  rw [List.length_append, List.length_drop, List.length_take]; omega
theorem rot_back {α : Type} {i : Nat} {l : List α} (h : i < l.length) : rot ((l.length - i) % l.length) (rot i l) = l := by
  by_cases h0 : i = 0
  · subst h0; simp [rot]
  · rw [Nat.mod_eq_of_lt (by omega)]
    unfold rot
    have e : (l.drop i).length = l.length - i := by simp
    rw [List.drop_left' e, List.take_left' e, List.take_append_drop]
theorem rot_perm {α : Type} (i : Nat) (l : List α) : (rot i l).Perm l := by
  unfold rot
  exact (List.perm_append_comm).trans (by rw [List.take_append_drop])
theorem sum_rot (i : Nat) (ns : List Int) : (rot i ns).sum = ns.sum := by
  have e : ns.sum = (ns.take i).sum + (ns.drop i).sum := by rw [← List.sum_append, List.take_append_drop]
  unfold rot
  rw [List.sum_append, e]; omega
theorem CornerOk.rot {ns : List Int} (c : CornerOk ns) (i : Nat) : CornerOk (DL.rot i ns) where
  two := by rw [rot_len]; exact c.two
  most := by rw [rot_len]; exact c.most
  pos := fun a ha => c.pos a ((rot_perm i ns).mem_iff.mp ha)
  sum := by rw [sum_rot]; exact c.sum
/-! ### one statement behind the other -/
theorem runs_asg {i : Nat} {f : DExp} {t : DStm} {env : En} {g : Fl → M D} {c c1 c2 : Nat} {A S : D → Prop} (h : Runs (f env) c1 A) (hc : c1 + c2 ≤ c) (k : ∀ d, A d → Runs (bnd (t (env.set i (.val d))) g) c2 S) : Runs (bnd (sSeq (sAsg i f) t env) g) c S := by
  rw [x_seq, x_asg, bnd_bnd, bnd_bnd]
  exact Runs.bndc h hc fun d hd => k d hd
theorem runs_step {s t : DStm} {env env' : En} {g : Fl → M D} {c : Nat} {S : D → Prop} (h : s env = ret (.nx env')) (k : Runs (bnd (t env') g) c S) : Runs (bnd (sSeq s t env) g) c S := by
  rw [x_seq, h, bnd_ret]
  exact k
theorem wt_ints {k : Nat} {ns : List Int} (h : ∀ a ∈ ns, a.natAbs < 10 ^ 60) : wtD (k + 1) (.tup (ns.map .int)) = 63 * ns.length + 3 := by
  show ((ns.map D.int).map fun d => wtD k d + 2).sum + 3 = _
  congr 1
  induction ns with
  | nil => rfl
  | cons a r ih =>
    rw [List.map_cons, List.map_cons, List.sum_cons, ih fun x hx => h x (by simp [hx])]
    have e : wtD k (.int a) = 61 := by
      have : wtD k (.int a) = if a.natAbs < 10 ^ 60 then 61 else 100000000 := by cases k <;> rfl
      rw [this, if_pos (h a (by simp))]
    rw [e, List.length_cons]; omega
theorem wt_sg {k : Nat} (bs : List Bool) : wtD k (.str (sg bs)) = 10 * bs.length + 2 := by
  have e : wtD k (.str (sg bs)) = if (sg bs).cps.all (· < 16 ^ 8) then 10 * (sg bs).length + 2 else 100000000 := by cases k <;> rfl
  have q : (sg bs).cps.all (· < 16 ^ 8) = true := by
    show ((bs.map sgC).toArray).all _ = true
    rw [Array.all_eq_true_iff_forall_mem]
    intro c hc
    have hc : c ∈ bs.map sgC := by simpa using hc
    obtain ⟨b, _, rfl⟩ := List.mem_map.mp hc
    cases b <;> rfl
  rw [e, if_pos q, sg_len]
theorem CornerOk.small {ns : List Int} (c : CornerOk ns) : ∀ a ∈ ns, a.natAbs < 10 ^ 60 := fun a ha => by
  obtain ⟨h1, h2⟩ := c.le a ha
  omega
theorem runs_own {i : Nat} {f : DFl} {t : DStm} {env : En} {g : Fl → M D} {c c1 c2 : Nat} {A : List D → Prop} {S : D → Prop} (h : Runs (f env) c1 A) (hc : c1 + c2 ≤ c) (k : ∀ d, A d → Runs (bnd (t (env.set i (.own d))) g) c2 S) : Runs (bnd (sSeq (sOwn i f) t env) g) c S := by
  rw [x_seq, x_own, bnd_bnd, bnd_bnd]
  exact Runs.bndc h hc fun d hd => k d hd
theorem evens_odds : ∀ ns : List Int, (evens ns).sum + (odds ns).sum = ns.sum
  | [] => rfl
  | [a] => by simp [evens, odds]
  | a :: b :: r => by
    have ih := evens_odds r
    have e : odds (a :: b :: r) = b :: odds r := by
      unfold odds
      simp only [List.drop_succ_cons, List.drop_zero]
      cases r with
      | nil => rfl
      | cons x r => rfl
    rw [e, evens, List.sum_cons, List.sum_cons, List.sum_cons, List.sum_cons, ← ih]; omega
theorem evens_mem {α : Type} : ∀ (l : List α) (x : α), x ∈ evens l → x ∈ l
  | [], x, h => h
  | [a], x, h => h
  | a :: b :: r, x, h => by
    rw [evens] at h
    rcases List.mem_cons.mp h with rfl | h
    · simp
    · simp [evens_mem r x h]
theorem odds_mem {α : Type} (l : List α) (x : α) (h : x ∈ odds l) : x ∈ l := List.mem_of_mem_drop (evens_mem _ x h)
theorem sum_set {ns : List Int} {j : Nat} {v : Int} (h : j < ns.length) : (ns.set j v).sum = ns.sum - ns[j] + v := by
  induction ns generalizing j with
  | nil => simp at h
  | cons a r ih =>
    cases j with
    | zero => simp; omega
    | succ j =>
      have h' : j < r.length := by simpa using h
      rw [List.set_cons_succ, List.sum_cons, ih h', List.sum_cons]
      simp; omega
theorem sum_le {ns : List Int} {b : Int} (h : ∀ a ∈ ns, a ≤ b) : ns.sum ≤ ns.length * b := by
  induction ns with
  | nil => simp
  | cons a r ih =>
    have q := ih fun x hx => h x (by simp [hx])
    have p := h a (by simp)
    rw [List.sum_cons, List.length_cons]
    have e : ((r.length + 1 : Nat) : Int) * b = r.length * b + b := by rw [Int.natCast_add, Int.add_mul]; simp
    rw [e]; omega
end DL

end
section
set_option Elab.async false
set_option linter.all false
set_option maxRecDepth 100000
set_option maxHeartbeats 4000000
/-! DPlus: starred items of displays and argument lists; products with a small factor; the draws of the second family. -/
namespace DL
open PySem PySem.Spec PyProof.Rows L2
variable [Tb]
def seqD : D → M (List D)
  | .lst l => ret l
  | .tup l => ret l
  | _ => stuck
def aStar (f : DExp) (r : DArg) : DArg := fun env => bnd (f env) fun d => bnd (seqD d) fun xs => bnd (r env) fun ys => ret (xs ++ ys)
@[simp] theorem x_astar (f : DExp) (r : DArg) (env : En) : aStar f r env = bnd (f env) fun d => bnd (seqD d) fun xs => bnd (r env) fun ys => ret (xs ++ ys) := rfl
@[simp] theorem x_seqD_l (l : List D) : seqD (.lst l) = ret l := rfl
@[simp] theorem x_seqD_t (l : List D) : seqD (.tup l) = ret l := rfl
section
variable {X : Cx} {W : WX} {e : Expr} {es : List Expr} {f : DExp} {r : DArg} {p : Pos}
theorem da_star (he : DE X W e f) (hr : DA X W es r) (hs : starEach (.Starred e p :: es) X.env = (true, eval e X.env) :: starEach es X.env := by rfl) : DA X W (.Starred e p :: es) (aStar f r) := by
  refine ⟨PA.imp (StX.pa_star he.pe hr.pa hs) fun σ H Q ⟨B, n, F, env, S, h⟩ => tD.go S h fun d n1 v F1 H1 p t r1 S1 => ?_⟩
  cases d with
  | lst l =>
    cases r1 with
    | lst ha hr' =>
      refine ⟨_, _, rfl, .inr (.inl (.inl (S1.sub _ _ ha))), ?_⟩
      refine tA.go S1 ((r env).mono (fun _ _ z => z) (fun x m z => exE.step t z) p) fun ds n2 vs F2 H2 p2 t2 r2 S2 => ?_
      exact p2 _ F2 H2 (t.trans t2) ((hr'.grow t2.gr).append r2)
  | tup l =>
    cases r1 with
    | tup ha hr' =>
      refine ⟨_, _, rfl, .inl (SqT.of (S1.sub _ _ ha)), ?_⟩
      refine tA.go S1 ((r env).mono (fun _ _ z => z) (fun x m z => exE.step t z) p) fun ds n2 vs F2 H2 p2 t2 r2 S2 => ?_
      exact p2 _ F2 H2 (t.trans t2) ((hr'.grow t2.gr).append r2)
  | _ => exact p.elim
end
theorem free_nil {Q : Str → Prop} : ∀ y ∈ ([] : List (Str × NameKind)), y.2 = .free → Q y.1 := fun _ h => nomatch h
theorem free_cons {Q : Str → Prop} {a : Str × NameKind} {l : List (Str × NameKind)} (h : a.2 = .free → Q a.1) (r : ∀ y ∈ l, y.2 = .free → Q y.1) : ∀ y ∈ a :: l, y.2 = .free → Q y.1 := fun y hy hf => by
  rcases List.mem_cons.mp hy with rfl | hy
  · exact h hf
  · exact r y hy hf
/-! ### products with a small factor -/
def gMulB : D → D → M D
  | .int i, .int j => need (CMul i j) (ret (.int (i * j)))
  | _, _ => stuck
@[simp] theorem g_mulB_i (i j : Int) : gMulB (.int i) (.int j) = need (CMul i j) (ret (.int (i * j))) := rfl
theorem od_mulB {X : Cx} : OpD X (rI CMul fun i j => .int (i * j)) gMulB := od_int (fun i j _ _ => .int _) (fun _ _ => rfl) fun d e h => by
  unfold gMulB
  split
  · exact (h _ _ rfl rfl).elim
  · rfl
/-! ### the draws of the second family -/
def gDraw2 : Fn
  | [.rng true c, .int lim] => gDraw [.rng true c, .int lim]
  | _ => stuck
theorem runs_draw2 {c : Nat} {lim : Int} (h : 0 < lim) (h2 : lim.natAbs.log2 < 9000) : Runs (gDraw2 [.rng true c, .int lim]) 1 fun d => ∃ r : Int, d = .int r ∧ 0 ≤ r ∧ r < lim := runs_draw (z := true) (c := c) h h2
def gBegun2 : Fn
  | [.scr k, .int i] => need (k ≤ 100 ∧ 0 ≤ i ∧ i ≤ 1000) (ret (.rng true (k + 1)))
  | _ => stuck
def s_draw49 : DStm :=
  sSeq (sIf (dTst (dBin gGt (dRg rngL (dVar 0)) (dK (.int 0)))) (sSeq (sAsg 5 (dBin gMod (dCb gInt (aCons (dRg rngL (dVar 0)) (aNil))) (dVar 1))) (sSeq (sRg tickL (dVar 0) (dBin gFdiv (dRg rngL (dVar 0)) (dVar 1))) (sRet (dVar 5)))) (sSkip)) (sSeq (sAsg 2 (dRg rngK (dVar 0))) (sSeq (sRg tickK (dVar 0) (dBin gAdd (dVar 2) (dK (.int 1)))) (sSeq (sPars [6, 7] (mVal (dRg rngC (dVar 0)) (mVal (dBin gAdd (dRg rngZ (dVar 0)) (dBin gMulB (dBin gMulB (dK (.int 40503)) (dVar 2)) (dVar 2))) (mNil)))) (sSeq (sAsg 3 (dBin gIx (dVar 6) (dBin gMod (dCb gInt (aCons (dVar 2) (aNil))) (dCb gLen (aCons (dVar 6) (aNil)))))) (sSeq (sAsg 4 (dBin gMod (dCb gInt (aCons (dBin gAdd (dBin gMulB (dVar 3) (dBin gAdd (dBin gMulB (dK (.int 2)) (dVar 2)) (dK (.int 3)))) (dVar 7)) (aNil))) (dK (.int 2147483647)))) (sSeq (sAsg 4 (dBin gMod (dCb gInt (aCons (dBin gAdd (dBin gAdd (dBin gMulB (dVar 4) (dVar 4)) (dBin gMulB (dK (.int 69621)) (dVar 2))) (dRg rngZ (dVar 0))) (aNil))) (dK (.int 2147483629)))) (sRet (dBin gMod (dBin gFdiv (dBin gMod (dCb gInt (aCons (dBin gAdd (dBin gMulB (dVar 4) (dK (.int 48271))) (dVar 2)) (aNil))) (dK (.int 2147483647))) (dK (.int 11))) (dVar 1)))))))))
def s_begun49 : DStm :=
  sSeq (sAsg 2 (dBin gAdd (dSlS (dVar 0) (oSome (dVar 1)) (oNone)) (dSlS (dVar 0) (oNone) (oSome (dVar 1))))) (sSeq (sAsg 3 (dLc (iVal (dVar 2)) [5] (tgN 5) (dTst (dBin gGe (dVar 5) (dBin gPow (dK (.int 10)) (dK (.int 18))))) (dVar 5))) (sSeq (sAsg 4 (dBin gAdd (dK (.int 139)) (dVar 1))) (sSeq (sFor (iVal (dVar 2)) (tgN 5) (sAsg 4 (dBin gMod (dCb gInt (aCons (dBin gAdd (dBin gMulB (dVar 4) (dK (.int 48271))) (dVar 5)) (aNil))) (dK (.int 2147483647))))) (sRet (dBeg4 (dIf (dTst (dBin (gEq true) (dVar 3) (dLst (aNil)))) (dBin gIx (dVar 3) (dK (.int 0))) (dK (.int 0))) (dVar 4) (dBin gAdd (dVar 2) (dLst (aCons (dBin gAdd (dBin gMulB (dK (.int 47)) (dVar 1)) (dK (.int 5))) (aNil)))) (dK (.int 0)))))))
theorem draw49 : ∀ (ds : List D) (n : Nat) (P : D → Nat → Prop) (E : D → Nat → Prop), (gDraw2 ds).run n P E → (fnOf (["a", "b", "c", "d", "e", "f", "g", "h"] : List Str).length s_draw49 ds).run n P E := by
  intro ds n P E q
  unfold gDraw2 at q
  split at q
  · rename_i c lim
    obtain ⟨⟨h1, h2, h3⟩, q⟩ := q
    have md : ∀ x : Int, 0 ≤ x % lim ∧ x % lim < lim := fun x => ⟨Int.emod_nonneg _ (by omega), Int.emod_lt_of_pos _ h1⟩
    show (bnd (s_draw49 [.val (.rng true c), .val (.int lim), .emp, .emp, .emp, .emp, .emp, .emp]) _).run n P E
    show ∀ d, (∃ i, d = D.int i) → _
    rintro _ ⟨i, rfl⟩
    by_cases hi : 0 < i
    · have e : decide (0 < i) = true := decide_eq_true hi
      show M.run (if decide (0 < i) = true then _ else _) n _ _
      rw [if_pos e]
      show ∀ d, (∃ i, d = D.int i) → _
      rintro _ ⟨j, rfl⟩
      refine ⟨h1, ?_⟩
      show ∀ d, (∃ i, d = D.int i) → _
      rintro _ ⟨k, rfl⟩
      refine ⟨⟨h1, h2⟩, ?_⟩
      exact q _ (md _).1 (md _).2
    · have e : ¬ decide (0 < i) = true := by simpa using hi
      show M.run (if decide (0 < i) = true then _ else _) n _ _
      rw [if_neg e]
      show ∀ k : Int, 0 ≤ k → k ≤ n → _
      intro k k0 k1
      refine ⟨⟨by omega, by omega⟩, ?_⟩
      show ∀ d, (∃ cs : List Int, cs.length = c ∧ cs ≠ [] ∧ d = D.lst (cs.map D.int)) → _
      rintro _ ⟨cs, hc, hne, rfl⟩
      show ∀ d, (∃ i, d = D.int i) → _
      rintro _ ⟨z, rfl⟩
      have kb : k < 2 ^ 60 := by omega
      refine ⟨.inl ⟨by decide, by decide⟩, ?_⟩
      refine ⟨.inr ⟨by omega, by omega⟩, ?_⟩
      have hl : 0 < cs.length := List.length_pos_iff.mpr hne
      refine ⟨show (0 : Int) < ((cs.map D.int).length : Nat) by rw [List.length_map]; omega, ?_⟩
      obtain ⟨x, hx, hm⟩ := at_mod (l := cs.map D.int) (i := k) (by simpa using hne)
      obtain ⟨y, _, rfl⟩ := List.mem_map.mp hm
      show M.run (match L2.atI (cs.map D.int) (k % ((cs.map D.int).length : Nat)) with | some d => _ | none => _) (n + 1) _ _
      rw [hx]
      refine ⟨.inl ⟨by decide, by decide⟩, ?_⟩
      refine ⟨.inr ⟨by omega, by omega⟩, ?_⟩
      refine ⟨by decide, ?_⟩
      generalize y * (2 * k + 3) + (z + 40503 * k * k) = w
      have w0 := Int.emod_nonneg w (show (2147483647 : Int) ≠ 0 by decide)
      have w1 := Int.emod_lt_of_pos w (show (0 : Int) < 2147483647 by decide)
      refine ⟨.inl ⟨by omega, by omega⟩, ?_⟩
      refine ⟨.inl ⟨by decide, by decide⟩, ?_⟩
      show ∀ d, (∃ i, d = D.int i) → _
      rintro _ ⟨z2, rfl⟩
      refine ⟨by decide, ?_⟩
      refine ⟨.inr ⟨by decide, by decide⟩, ?_⟩
      refine ⟨by decide, ?_⟩
      refine ⟨⟨by decide, by decide⟩, ?_⟩
      refine ⟨h1, ?_⟩
      exact q _ (md _).1 (md _).2
  · exact q.elim
theorem begun49 : ∀ (ds : List D) (n : Nat) (P : D → Nat → Prop) (E : D → Nat → Prop), (gBegun2 ds).run n P E → (fnOf (["a", "b", "c", "d", "e", "f"] : List Str).length s_begun49 ds).run n P E := by
  intro ds n P E q
  unfold gBegun2 at q
  split at q
  · rename_i k i
    obtain ⟨⟨hk, hi0, hi1⟩, q⟩ := q
    show ∀ ns : List Int, ns.length = k → _
    intro ns hn
    show ∀ ns : List Int, ns.length = k → _
    intro ms hm
    obtain ⟨j, rfl⟩ : ∃ j : Nat, i = (j : Int) := ⟨i.toNat, by omega⟩
    have c1 : cutD (ns.map D.int) (some (j : Int)) none = (ns.drop j).map D.int := by rw [cutD_drop, List.map_drop]
    have c2 : cutD (ms.map D.int) none (some (j : Int)) = (ms.take j).map D.int := by rw [cutD_take, List.map_take]
    have hl : (ns.drop j ++ ms.take j).length = k := by rw [List.length_append, List.length_drop, List.length_take]; omega
    show M.run (gAdd (.lst (cutD (ns.map D.int) (some (j : Int)) none)) (.lst (cutD (ms.map D.int) none (some (j : Int))))) n _ _
    rw [c1, c2, g_add_l, need_of (by rw [List.length_map, List.length_map, sizeLine_eq, ← List.length_append, hl]; omega), ← List.map_append]
    generalize ns.drop j ++ ms.take j = cs at hl
    clear c1 c2 hn hm ns ms
    have key : lcD [5] (tgN 5) (dTst (dBin gGe (dVar 5) (dBin gPow (dK (.int 10)) (dK (.int 18))))) (dVar 5) [.val (.scr k), .val (.int j), .val (.lst (cs.map .int)), .emp, .emp, .emp] (cs.map D.int) = ret ((cs.filter fun i => decide (10 ^ 18 ≤ i)).map D.int) :=
      lcD_map D.int (fun i => [.val (.scr k), .val (.int j), .val (.lst (cs.map .int)), .emp, .emp, .val (.int i)]) (fun i => decide (10 ^ 18 ≤ i)) D.int fun i _ => ⟨rfl, by
        have cp : CPow 10 18 := ⟨by decide, by decide, by decide⟩
        show bnd (bnd (ret (D.int i)) fun x => bnd (need (CPow 10 18) (ret (D.int (10 ^ 18)))) fun y => gGe x y) _ = _
        rw [need_of cp]
        rfl, fun _ => rfl⟩
    generalize cs.filter (fun i => decide (10 ^ 18 ≤ i)) = gs at key
    show M.run (need ((cs.map D.int).length ≤ sizeLine) (bnd (lcD [5] (tgN 5) _ _ [.val (.scr k), .val (.int j), .val (.lst (cs.map .int)), .emp, .emp, .emp] (cs.map D.int)) _)) n _ _
    rw [need_of (by rw [List.length_map, sizeLine_eq]; omega), key, bnd_ret]
    obtain ⟨e', h1, z, s5, rfl⟩ := loopD_inv (tg := tgN 5) (b := sAsg 4 (dBin gMod (dCb gInt (aCons (dBin gAdd (dBin gMulB (dVar 4) (dK (.int 48271))) (dVar 5)) (aNil))) (dK (.int 2147483647))))
      (fun _ env => ∃ z s5, env = [.val (.scr k), .val (.int j), .val (.lst (cs.map .int)), .val (.lst (gs.map .int)), .val (.int z), s5]) (ds := cs.map D.int) (env := [.val (.scr k), .val (.int j), .val (.lst (cs.map .int)), .val (.lst (gs.map .int)), .val (.int (139 + j)), .emp]) 0 ⟨_, _, rfl⟩
      fun i d hd env hI => by
        obtain ⟨z, s5, rfl⟩ := hI
        obtain ⟨c, _, rfl⟩ := List.mem_map.mp (List.mem_of_getElem? hd)
        have cm : CMul z 48271 := .inr ⟨by decide, by decide⟩
        exact ⟨_, _, rfl, by simp [cm]; rfl, _, _, rfl⟩
    show M.run (loopD (tgN 5) _ (cs.map D.int) [.val (.scr k), .val (.int j), .val (.lst (cs.map .int)), .val (.lst (gs.map .int)), .val (.int (139 + j)), .emp]) n _ _
    rw [h1]
    have ge : gEq true (.lst (gs.map D.int)) (.lst []) = ret (.bl (!gs.isEmpty)) := by
      rw [gEq_pl (pl_ints gs) rfl, eqD_nil _ (pl_ints gs)]; simp
    have fin : ∀ i : Int, (begC true (.lst (cs.map D.int ++ [.int (47 * j + 5)])) (.int i) (.int 0)).run n P E := fun i => by
      have e : cs.map D.int ++ [D.int (47 * j + 5)] = (cs ++ [(47 * j + 5 : Int)]).map D.int := by simp
      rw [e]
      show M.run (match intsD ((cs ++ [(47 * j + 5 : Int)]).map D.int) with | some ns => need (ns ≠ [] ∧ (0 : Int) = 0) (ret (.rng true ns.length)) | none => stuck) n P E
      rw [intsD_map]
      refine ⟨⟨by simp, rfl⟩, ?_⟩
      have e2 : (cs ++ [(47 * j + 5 : Int)]).length = k + 1 := by simp [hl]
      rw [e2]
      exact q
    have cm : CMul 47 (j : Int) := .inl ⟨by decide, by decide⟩
    have big : (dBin gAdd (dVar 2) (dLst (aCons (dBin gAdd (dBin gMulB (dK (.int 47)) (dVar 1)) (dK (.int 5))) (aNil)))) [.val (.scr k), .val (.int j), .val (.lst (cs.map .int)), .val (.lst (gs.map .int)), .val (.int z), s5] = ret (.lst (cs.map D.int ++ [.int (47 * j + 5)])) := by
      have s1 : 1 ≤ sizeLine := by decide
      have s2 : cs.length + 1 ≤ sizeLine := by rw [sizeLine_eq]; omega
      simp [cm, s1, s2]
    show M.run (need (0 ≤ sizeLine) (ret (D.lst []))) n _ _
    rw [need_of (Nat.zero_le _)]
    show M.run (gEq true (.lst (gs.map D.int)) (.lst [])) n _ _
    rw [ge]
    cases gs with
    | nil =>
      show M.run ((dBin gAdd (dVar 2) (dLst (aCons (dBin gAdd (dBin gMulB (dK (.int 47)) (dVar 1)) (dK (.int 5))) (aNil)))) [.val (.scr k), .val (.int j), .val (.lst (cs.map .int)), .val (.lst (([] : List Int).map .int)), .val (.int z), s5]) n _ _
      rw [big]
      exact fin 0
    | cons m ms =>
      have e0 : L2.atI ((m :: ms).map D.int) 0 = some (.int m) := by
        unfold L2.atI L2.ixN
        simp
      show M.run (match L2.atI ((m :: ms).map D.int) 0 with | some d => ret d | none => stuck) n _ _
      rw [e0]
      show M.run ((dBin gAdd (dVar 2) (dLst (aCons (dBin gAdd (dBin gMulB (dK (.int 47)) (dVar 1)) (dK (.int 5))) (aNil)))) [.val (.scr k), .val (.int j), .val (.lst (cs.map .int)), .val (.lst ((m :: ms).map .int)), .val (.int z), s5]) n _ _
      rw [big]
      exact fin m
  · exact q.elim
end DL

end
section
set_option Elab.async false
set_option linter.all false
set_option maxRecDepth 100000
set_option maxHeartbeats 4000000
/-! DTac: comprehensions and loops, for rw; sizes; alternating sums. -/
namespace DL
open PySem PySem.Spec PyProof.Rows L2
variable [Tb]
theorem szl {n : Nat} (h : n ≤ 1000) : n ≤ sizeLine := by rw [sizeLine_eq]; omega
theorem szl2 {n : Nat} (h : n < 1000) : n < sizeLine := by rw [sizeLine_eq]; omega
@[simp] theorem x_wipe0 (env : En) : wipeE env [] = env := rfl
@[simp] theorem x_wipe1 (env : En) (v : Nat) (vs : List Nat) : wipeE env (v :: vs) = (wipeE env vs).set v .emp := rfl
theorem lc_eq {α : Type} {vs : List Nat} {tg : D → En → Option En} {f : DExp} {env : En} {m : α → D} (g : α → D) {l : List α} (h : ∀ a ∈ l, ∃ e, tg (m a) (wipeE env vs) = some e ∧ f e = ret (g a)) : lcD vs tg cYes f env (l.map m) = ret (l.map g) := by
  induction l with
  | nil => rfl
  | cons a l ih =>
    obtain ⟨e, h1, h2⟩ := h a (by simp)
    rw [List.map_cons]
    unfold lcD
    rw [h1]
    dsimp only [cYes]
    rw [noex_ret, bnd_ret, if_pos rfl, h2, noex_ret, bnd_ret, ih fun x hx => h x (by simp [hx]), bnd_ret]
    simp
theorem lc_if {α : Type} {vs : List Nat} {tg : D → En → Option En} {c : DTst} {f : DExp} {env : En} {m : α → D} (b : α → Bool) (g : α → D) {l : List α} (h : ∀ a ∈ l, ∃ e, tg (m a) (wipeE env vs) = some e ∧ c e = ret (b a) ∧ (b a = true → f e = ret (g a))) : lcD vs tg c f env (l.map m) = ret ((l.filter b).map g) := by
  induction l with
  | nil => rfl
  | cons a l ih =>
    obtain ⟨e, h1, h2, h3⟩ := h a (by simp)
    have ih := ih fun x hx => h x (by simp [hx])
    rw [List.map_cons]
    unfold lcD
    rw [h1]
    dsimp only
    rw [h2, noex_ret, bnd_ret]
    cases hb : b a with
    | true => rw [if_pos rfl, h3 hb, noex_ret, bnd_ret, ih, bnd_ret]; simp [List.filter_cons, hb]
    | false => rw [if_neg (by simp), ih]; simp [List.filter_cons, hb]
/-- a loop by what holds behind each item taken -/
theorem loop_pre {α : Type} {tg : D → En → Option En} {b : DStm} {m : α → D} (I : List α → En → Prop) : ∀ {post pre : List α} {env : En}, I pre env →
    (∀ (pre : List α) (a : α) (post : List α) (env : En), I pre env → ∃ e1 e2, tg (m a) env = some e1 ∧ b e1 = ret (.nx e2) ∧ I (pre ++ [a]) e2) → ∃ e', loopD tg b (post.map m) env = ret (.nx e') ∧ I (pre ++ post) e'
  | [], pre, env, h, _ => ⟨env, rfl, by simpa using h⟩
  | a :: post, pre, env, h, k => by
    obtain ⟨e1, e2, h1, h2, h3⟩ := k pre a post env h
    obtain ⟨e', h4, h5⟩ := loop_pre (tg := tg) (b := b) (m := m) I (post := post) (pre := pre ++ [a]) h3 k
    refine ⟨e', ?_, by simpa using h5⟩
    rw [List.map_cons]
    unfold loopD
    rw [h1]
    dsimp only
    rw [h2, bnd_ret]
    exact h4
/-- the same, the item's place known -/
theorem loop_ix {α : Type} {tg : D → En → Option En} {b : DStm} {m : α → D} {l : List α} (I : Nat → En → Prop) {env : En} (h0 : I 0 env) (h : ∀ i (hi : i < l.length) env, I i env → ∃ e1 e2, tg (m l[i]) env = some e1 ∧ b e1 = ret (.nx e2) ∧ I (i + 1) e2) :
    ∃ e', loopD tg b (l.map m) env = ret (.nx e') ∧ I l.length e' := by
  have q := loopD_inv (tg := tg) (b := b) I (ds := l.map m) (env := env) 0 h0 fun i d hd env hI => by
    rw [Nat.zero_add] at hI
    have hi : i < l.length := by
      have := (List.getElem?_eq_some_iff.mp hd).1
      simpa using this
    rw [List.getElem?_map, List.getElem?_eq_getElem hi] at hd
    simp only [Option.map_some, Option.some.injEq] at hd
    subst hd
    rw [Nat.zero_add]
    exact h i hi env hI
  simpa using q
theorem loop_go {α β : Type} {tg : D → En → Option En} {b : DStm} {m : α → D} {l : List α} {env : En} {k : Fl → M β} {r : M β} (I : Nat → En → Prop) (h0 : I 0 env)
    (h : ∀ i (hi : i < l.length) env, I i env → ∃ e1 e2, tg (m l[i]) env = some e1 ∧ b e1 = ret (.nx e2) ∧ I (i + 1) e2) (hk : ∀ e', I l.length e' → k (.nx e') = r) : bnd (loopD tg b (l.map m) env) k = r := by
  obtain ⟨e', h1, h2⟩ := loop_ix (tg := tg) (b := b) (m := m) I h0 h
  rw [h1, bnd_ret]
  exact hk e' h2
theorem lc_runs {α : Type} {vs : List Nat} {tg : D → En → Option En} {f : DExp} {env : En} {m : α → D} {l : List α} (S : D → Prop) (c0 : Nat) (h : ∀ a ∈ l, ∃ e, tg (m a) (wipeE env vs) = some e ∧ Runs (f e) c0 S) : Runs (lcD vs tg cYes f env (l.map m)) (c0 * l.length) fun xs => xs.length = l.length ∧ ∀ x ∈ xs, S x := by
  induction l with
  | nil => exact Runs.ret ⟨rfl, by simp⟩
  | cons a l ih =>
    obtain ⟨e, h1, h2⟩ := h a (by simp)
    have ih := ih fun x hx => h x (by simp [hx])
    rw [List.map_cons]
    unfold lcD
    rw [h1]
    dsimp only [cYes]
    rw [noex_ret, bnd_ret, if_pos rfl]
    refine Runs.bndc h2.noex (c2 := c0 * l.length) (by rw [List.length_cons, Nat.mul_add, Nat.mul_one]; omega) fun x hx => ?_
    refine Runs.bndc ih (c2 := 0) (Nat.le_refl _) fun xs hxs => Runs.ret ⟨by simp [hxs.1], fun y hy => ?_⟩
    rcases List.mem_cons.mp hy with rfl | hy
    · exact hx
    · exact hxs.2 y hy
theorem runs_seq {s t : DStm} {env : En} {g : Fl → M D} {c c1 c2 : Nat} {A : Fl → Prop} {S : D → Prop} (h : Runs (s env) c1 A) (hc : c1 + c2 ≤ c) (k : ∀ f, A f → Runs (bnd (match f with | .nx e => t e | .rt d => ret (.rt d)) g) c2 S) : Runs (bnd (sSeq s t env) g) c S := by
  rw [x_seq, bnd_bnd]
  exact Runs.bndc h hc k
/-- a statement that leaves an env -/
theorem runs_nx {s t : DStm} {env : En} {g : Fl → M D} {c c1 c2 : Nat} {A : En → Prop} {S : D → Prop} (h : Runs (s env) c1 fun f => ∃ e, f = .nx e ∧ A e) (hc : c1 + c2 ≤ c) (k : ∀ e, A e → Runs (bnd (t e) g) c2 S) : Runs (bnd (sSeq s t env) g) c S :=
  runs_seq h hc fun f ⟨e, hf, he⟩ => by subst hf; exact k e he
theorem runs_loop {α : Type} {tg : D → En → Option En} {b : DStm} {m : α → D} {l : List α} {env : En} (I : En → Prop) (c0 : Nat) (h0 : I env) (h : ∀ a ∈ l, ∀ env, I env → ∃ e1, tg (m a) env = some e1 ∧ Runs (b e1) c0 fun f => ∃ e2, f = .nx e2 ∧ I e2) :
    Runs (loopD tg b (l.map m) env) (c0 * l.length) fun f => ∃ e2, f = .nx e2 ∧ I e2 := by
  have q := loopD_runs (tg := tg) (b := b) I c0 (ds := l.map m) h0 fun d hd env hI => by
    obtain ⟨a, ha, rfl⟩ := List.mem_map.mp hd
    exact h a ha env hI
  simpa using q
theorem ints_of {P : Int → Prop} : ∀ {xs : List D}, (∀ x ∈ xs, ∃ i, x = .int i ∧ P i) → ∃ ns : List Int, xs = ns.map D.int ∧ ∀ a ∈ ns, P a
  | [], _ => ⟨[], rfl, by simp⟩
  | x :: xs, h => by
    obtain ⟨i, rfl, hi⟩ := h x (by simp)
    obtain ⟨ns, rfl, hn⟩ := ints_of (xs := xs) fun y hy => h y (by simp [hy])
    refine ⟨i :: ns, rfl, fun a ha => ?_⟩
    rcases List.mem_cons.mp ha with rfl | ha
    · exact hi
    · exact hn a ha
theorem log_small {x : Int} (h0 : 0 ≤ x) (h : x < 2 ^ 200) : x.natAbs.log2 < 9000 := Nat.lt_of_lt_of_le (log2_lt h0 h (by decide)) (by decide)
theorem any_py {d : D} {p : PyData} (h : toPy d = some p) : ∀ {l : List D} {ps : List PyData}, toPys l = some ps → (ps.any fun z => PyData.eqv z p) = l.any fun y => eqD y d
  | [], ps, e => by simp only [toPys, Option.some.injEq] at e; subst e; rfl
  | x :: l, ps, e => by
    simp only [toPys] at e
    cases e1 : toPy x with
    | none => rw [e1] at e; simp at e
    | some q =>
      cases e2 : toPys l with
      | none => rw [e1, e2] at e; simp at e
      | some qs =>
        rw [e1, e2] at e
        simp at e
        subst e
        rw [List.any_cons, List.any_cons, any_py h e2]
        congr 1
        unfold eqD
        rw [e1, h]
theorem gIn_pl {neg : Bool} {d : D} {l : List D} (h1 : plD 20 d = true) (h2 : plD 20 (.lst l) = true) : gIn neg d (.lst l) = ret (.bl (if neg then !(l.any fun y => eqD y d) else l.any fun y => eqD y d)) := by
  obtain ⟨p, e1, q1⟩ := pl_shaped h1 (by decide)
  obtain ⟨q, e2, q2⟩ := pl_shaped h2 (by decide)
  simp only [toPy] at e2
  cases e3 : toPys l with
  | none => rw [e3] at e2; simp at e2
  | some ps =>
    rw [e3] at e2
    simp at e2
    subst e2
    have e : gIn neg d (.lst l) = need (SeqAt.shaped p = true ∧ SeqAt.shaped (.list ps) = true) (ret (.bl (if neg then !(ps.any fun z => PyData.eqv z p) else ps.any fun z => PyData.eqv z p))) := by
      cases d <;> (unfold gIn; dsimp only; rw [e1, e3])
    rw [e, need_of ⟨q1, q2⟩, any_py e1 e3]
theorem gIn_ints (neg : Bool) (x : Int) (l : List Int) : gIn neg (.int x) (.lst (l.map .int)) = ret (.bl (if neg then !decide (x ∈ l) else decide (x ∈ l))) := by
  rw [gIn_pl rfl (pl_ints l)]
  have e : ((l.map D.int).any fun y => eqD y (.int x)) = decide (x ∈ l) := by
    rw [List.any_map]
    induction l with
    | nil => rfl
    | cons a l ih =>
      rw [List.any_cons, ih]
      have q : ((fun y => eqD y (.int x)) ∘ D.int) a = decide (a = x) := rfl
      rw [q]
      by_cases h : a = x
      · subst h; simp
      · simp [h, Ne.symm h]
  rw [e]
@[simp] theorem g_mul_t (a : List D) (k : Int) : gMul (.tup a) (.int k) = need (a ≠ [] ∧ 2 ≤ k ∧ k ≤ 1000 ∧ a.length ≤ 1000) (ret (.tup (List.replicate k.toNat a).flatten)) := rfl
@[simp] theorem x_lcD0 (vs : List Nat) (tg : D → En → Option En) (c : DTst) (f : DExp) (env : En) : lcD vs tg c f env [] = ret [] := rfl
theorem x_lcD1 (vs : List Nat) (tg : D → En → Option En) (f : DExp) (env : En) (d : D) (ds : List D) : lcD vs tg cYes f env (d :: ds) = match tg d (wipeE env vs) with
    | none => stuck
    | some e1 => bnd (noex (f e1)) fun x => bnd (lcD vs tg cYes f env ds) fun xs => ret (x :: xs) := by
  show (match tg d (wipeE env vs) with | none => stuck | some e1 => _) = _
  cases tg d (wipeE env vs) with
  | none => rfl
  | some e1 =>
    dsimp only [cYes]
    rw [noex_ret, bnd_ret, if_pos rfl]
@[simp] theorem x_fadd (fa fb : DExp) (env : En) : fAdd fa fb env = bnd (fa env) fun d => bnd (fb env) fun e => match d, e with
  | .lst a, .lst b => need (a.length + b.length ≤ sizeLine) (ret (a ++ b))
  | _, _ => stuck := rfl
@[simp] theorem ix_l0 (a : D) (l : List D) : gIx (.lst (a :: l)) (.int 0) = ret a := ix_l (i := 0) rfl
@[simp] theorem ix_l1 (a b : D) (l : List D) : gIx (.lst (a :: b :: l)) (.int 1) = ret b := ix_l (i := 1) rfl
@[simp] theorem ix_l2 (a b c : D) (l : List D) : gIx (.lst (a :: b :: c :: l)) (.int 2) = ret c := ix_l (i := 2) rfl
@[simp] theorem ix_l3 (a b c d : D) (l : List D) : gIx (.lst (a :: b :: c :: d :: l)) (.int 3) = ret d := ix_l (i := 3) rfl
@[simp] theorem ix_t0 (a : D) (l : List D) : gIx (.tup (a :: l)) (.int 0) = ret a := ix_t (i := 0) rfl
@[simp] theorem ix_t1 (a b : D) (l : List D) : gIx (.tup (a :: b :: l)) (.int 1) = ret b := ix_t (i := 1) rfl
@[simp] theorem ix_t2 (a b c : D) (l : List D) : gIx (.tup (a :: b :: c :: l)) (.int 2) = ret c := ix_t (i := 2) rfl
@[simp] theorem ix_t3 (a b c d : D) (l : List D) : gIx (.tup (a :: b :: c :: d :: l)) (.int 3) = ret d := ix_t (i := 3) rfl
@[simp] theorem x_loop0 (tg : D → En → Option En) (b : DStm) (env : En) : loopD tg b [] env = ret (.nx env) := rfl
theorem x_loop1 (tg : D → En → Option En) (b : DStm) (d : D) (ds : List D) (env : En) : loopD tg b (d :: ds) env = match tg d env with
    | none => stuck
    | some e1 => bnd (b e1) fun f => match f with
      | .nx e2 => loopD tg b ds e2
      | .rt r => ret (.rt r) := rfl
theorem sum_scale (w : Int) : ∀ l : List Int, (l.map (w * ·)).sum = w * l.sum
  | [] => by simp
  | a :: l => by rw [List.map_cons, List.sum_cons, List.sum_cons, sum_scale w l, Int.mul_add]
theorem alt_append (b : List Int) : ∀ a : List Int, alt (a ++ b) = if a.length % 2 = 0 then alt a + alt b else alt a - alt b
  | [] => by simp [alt]
  | x :: a => by
    have ih := alt_append b a
    show x - alt (a ++ b) = _
    rw [ih]
    show _ = if (a.length + 1) % 2 = 0 then x - alt a + alt b else x - alt a - alt b
    by_cases h : a.length % 2 = 0
    · rw [if_pos h, if_neg (by omega)]; omega
    · rw [if_neg h, if_pos (by omega)]; omega
theorem alt_eo : ∀ l : List Int, (evens l).sum - (odds l).sum = alt l
  | [] => rfl
  | [a] => by simp [evens, odds, alt]
  | a :: b :: r => by
    have ih := alt_eo r
    have e : odds (a :: b :: r) = b :: odds r := by
      unfold odds
      simp only [List.drop_succ_cons, List.drop_zero]
      cases r with
      | nil => rfl
      | cons x r => rfl
    rw [e, evens, List.sum_cons, List.sum_cons]
    show _ = a - (b - alt r)
    rw [← ih]; omega
theorem alt_scale (w : Int) : ∀ l : List Int, alt (l.map (w * ·)) = w * alt l
  | [] => by simp [alt]
  | a :: l => by
    show w * a - alt (l.map (w * ·)) = w * (a - alt l)
    rw [alt_scale w l, Int.mul_sub]
theorem alt_signs : ∀ (l : List Int) (k : Nat), ((l.zipIdx k).map fun p => if p.2 % 2 = 0 then p.1 else -p.1).sum = if k % 2 = 0 then alt l else -alt l
  | [], k => by simp [alt]
  | a :: l, k => by
    rw [List.zipIdx_cons, List.map_cons, List.sum_cons, alt_signs l (k + 1)]
    show _ = if k % 2 = 0 then a - alt l else -(a - alt l)
    by_cases h : k % 2 = 0
    · rw [if_pos h, if_pos h, if_neg (by omega)]; omega
    · rw [if_neg h, if_neg h, if_pos (by omega)]; omega
theorem rot_map {α β : Type} (f : α → β) (i : Nat) (l : List α) : rot i (l.map f) = (rot i l).map f := by
  unfold rot
  rw [List.map_append, List.map_drop, List.map_take]
end DL

end
section
set_option Elab.async false
set_option linter.all false
set_option maxRecDepth 100000
set_option maxHeartbeats 4000000
/-! DText: f-strings of two parts, split, int of a text. -/
namespace DL
open PySem PySem.Spec PyProof.Rows L2
variable [Tb]
def gFmt : D → M D
  | .str y => need (y.length ≤ sizeLine) (ret (.str y))
  | .int i => need (i.natAbs.log2 < 1920) (ret (.str (toString i)))
  | _ => stuck
def dFmt (f : DExp) : DExp := fun env => bnd (f env) gFmt
def gS1 : D → M D
  | .str a => need ((Str.empty ++ a).length ≤ sizeLine) (ret (.str a))
  | _ => stuck
def gJs (d e : D) : M D := match d, e with
  | .str a, .str b => need ((Str.empty ++ a ++ b).length ≤ sizeLine) (ret (.str (Str.empty ++ a ++ b)))
  | _, _ => stuck
def dJs2 (fa fb : DExp) : DExp := fun env => bnd (fa env) fun x => bnd (gS1 x) fun x => bnd (fb env) fun y => gJs x y
def gSplit (a : Str) : D → M D
  | .str b => need ((b.length == 0) = false ∧ a.length + 2 ≤ sizeLine) (ret (.lst ((Txt.split a b).map .str)))
  | _ => stuck
def gIntS : List D → M D
  | [.str a] => match PySem.intText? a with
    | some n => need (a.length ≤ 640) (ret (.int n))
    | none => stuck
  | _ => stuck
section
variable {X : Cx} {W : WX} {e e2 o : Expr} {f fa fb fo fe : DExp} {pos apos : Pos}
theorem de_fmt (he : DE X W e f) : DE X W (.FormattedValue e (-1) none pos) (dFmt f) := by
  refine ⟨PE.imp (pe_fmt he.pe) fun σ H Q ⟨B, n, F, env, S, h⟩ => tD.go S h fun d n1 v F1 H1 p t r S1 => ?_⟩
  cases d with
  | str y => cases r; exact .inl ⟨y, rfl, p.1, p.2 _ F1 H1 t (.str _)⟩
  | int i => cases r; exact .inr ⟨i, rfl, p.1, p.2 _ F1 H1 t (.str _)⟩
  | _ => exact p.elim
theorem de_js2 (ha : DE X W e fa) (hb : DE X W e2 fb) : DE X W (.JoinedStr [e, e2] pos) (dJs2 fa fb) := by
  refine ⟨PE.imp (pe_joined (.cons ha.pe (.cons hb.pe .nil))) fun σ H Q ⟨B, n, F, env, S, h⟩ => tD.go S h fun d n1 v F1 H1 p t r S1 => ?_⟩
  cases d with
  | str a =>
    cases r
    obtain ⟨h1, p⟩ := p
    refine ⟨a, rfl, h1, ?_⟩
    refine tD.go S1 ((fb env).mono (fun _ _ z => z) (fun _ _ z => exE.step t z) p) fun d2 n2 v2 F2 H2 p2 t2 r2 S2 => ?_
    cases d2 with
    | str b =>
      cases r2
      exact ⟨b, rfl, p2.1, p2.2 _ F2 H2 (t.trans t2) (.str _)⟩
    | _ => exact p2.elim
  | _ => exact p.elim
theorem de_split (ho : DE X W o fo) (he : DE X W e fe) (hs : starEach [e] X.env = [(false, eval e X.env)] := by rfl) (hbase : attributeBase o "split" X.env (eval o X.env) = eval o X.env := by rfl) (hline : (apos.endLine == pos.line) = true := by rfl) :
    DE X W (.Call (.Attribute o "split" apos) [e] [] pos) (dM1 gSplit fo fe) := by
  refine ⟨PE.imp (pe_split ho.pe he.pe hs hbase hline) fun σ H Q ⟨B, n, F, env, S, h⟩ => tD.go S h fun d n1 v F1 H1 p1 t1 r1 S1 => ?_⟩
  cases d with
  | str a =>
    cases r1
    refine ⟨⟨a, rfl⟩, ?_⟩
    refine tD.go S1 ((fe env).mono (fun _ _ z => z) (fun _ _ z => exE.step t1 z) p1) fun d2 n2 v2 F2 H2 p2 t2 r2 S2 => ?_
    cases d2 with
    | str b =>
      cases r2
      obtain ⟨⟨h1, h2⟩, q⟩ := p2
      exact ⟨a, b, rfl, rfl, h1, h2, fun p hp => q _ _ _ ((t1.trans t2).trans (Step.new S2.sub hp)) (Step.newLst S2.sub hp Reps.strs)⟩
    | _ => exact p2.elim
  | _ => exact p1.elim
theorem cd_intS : CallD X (fun xs H Q => ∃ a n, xs = [.str a] ∧ PySem.intText? a = some n ∧ a.length ≤ 640 ∧ Q (.int n) H) gIntS := fun n F H xs ds Q E s r q => by
  unfold gIntS at q
  split at q
  · rename_i a
    split at q
    · rename_i m hm
      cases r with
      | cons r1 r2 => cases r2; cases r1; exact ⟨a, m, rfl, hm, q.1, q.2 _ F H (Step.refl s) (.int _)⟩
    · exact q.elim
  · exact q.elim
end
@[simp] theorem x_fmt (f : DExp) (env : En) : dFmt f env = bnd (f env) gFmt := rfl
@[simp] theorem x_js2 (fa fb : DExp) (env : En) : dJs2 fa fb env = bnd (fa env) fun x => bnd (gS1 x) fun x => bnd (fb env) fun y => gJs x y := rfl
@[simp] theorem g_s1 (a : Str) : gS1 (.str a) = need ((Str.empty ++ a).length ≤ sizeLine) (ret (.str a)) := rfl
@[simp] theorem g_js (a b : Str) : gJs (.str a) (.str b) = need ((Str.empty ++ a ++ b).length ≤ sizeLine) (ret (.str (Str.empty ++ a ++ b))) := rfl
@[simp] theorem g_fmt_s (y : Str) : gFmt (.str y) = need (y.length ≤ sizeLine) (ret (.str y)) := rfl
@[simp] theorem g_fmt_i (i : Int) : gFmt (.int i) = need (i.natAbs.log2 < 1920) (ret (.str (toString i))) := rfl
@[simp] theorem g_split (a b : Str) : gSplit a (.str b) = need ((b.length == 0) = false ∧ a.length + 2 ≤ sizeLine) (ret (.lst ((Txt.split a b).map .str))) := rfl
theorem g_join_l (a : Str) (ys : List Str) : gJoin a (.lst (ys.map D.str)) = need ((ys.map (·.length)).sum + ys.length * a.length ≤ 16777216) (ret (.str (Txt.join a ys))) := by
  unfold gJoin
  rw [show (seqOf (.lst (ys.map D.str))).bind strD = some ys from strD_map _]
end DL

end
section
set_option Elab.async false
set_option linter.all false
set_option maxRecDepth 100000
set_option maxHeartbeats 4000000
/-! DExc: making and raising the package's errors (an own __init__ that says super().__init__ and keeps one field). -/
namespace DL
open PySem PySem.Spec PyProof.Rows L2 NdefX
variable [Tb]

def spInit (C : Addr) (fld : Str) : Sp := fun vs H Q _ => ∃ a v, vs = [.ref a, v] ∧ H a = some (exo a C none) ∧ ∀ dx, H dx = none → dx ≠ a → Q .non (upd (upd H dx (exd dx [(fld, v)])) a (exo a C (some dx)))
section
variable {CX : CXT} {P : Program} {w : World} {K : PySem.W.Frag} {mg : Str → Option Value} {base : Heap} {C f1 cc cda : Addr} {q v fld txt : Str} {vs : Array Value} {file : Str} {tf : Tok} {oc ccl cl kV doc pm ct : Value} {od an cdd cld : Option Addr} {osl ccs csl : Array (Option Value)} {cd : ClassData} {st : Stmt}
  {p0 p1 p2 p3 p4 p5 p6 p7 p8 pc : Pos} {j : Nat}
theorem callWith_mw {M : Model} {A : Around} {E : Value → Shared → Prop} {s : Shared} {i : String} {u x : Addr} {pos : Pos} {env : PySem.Env} {e : Expr} {rest : List Expr} {Q : Value → Shared → Prop}
    (h : wpAny M A (spliced (backTo pos (starEach (e :: rest) env))) (fun vs s₁ => s₁.heap.get? u = some (PySem.W.kxs_mw i x) ∧ wpAny M A (call (.ref u) vs) Q E s₁) E s)
    (he : starEach (e :: rest) env = (false, eval e env) :: starEach rest env := by rfl) (hplain : (backTo pos (starEach rest env)).any (·.1) = false := by rfl) :
    wpAny M A (callWith pos (.ref u) [] (backTo pos (starEach (e :: rest) env)) []) Q E s := by
  rw [he] at h ⊢
  exact PySem.W.kxs_callWith (i := i) (x := x) (show (false || (backTo pos (starEach rest env)).any (·.1)) = false by rw [hplain]; rfl) (PySem.Calls.evalArgs_plain h)
theorem call_mw {X : Cx} {pins : List (Addr × Obj)} {σ : L2.St} {H : Hp} {s : Shared} {a C u : Addr} {us : List Value} {A : Around} {E : Value → Shared → Prop} {Q : Value → Shared → Prop} (T : OexC X.K C) (I : Inv X pins σ H s) (e : H a = some (exo a C none)) (hu : s.heap.get? u = some (PySem.W.kxs_mw "ValueError.__init__" a))
    (hl : us.length ≤ sizeLine) (h : ∀ s', Inv X pins σ H s' → Q .none s') : wpAny (model X.prog X.w) A (call (.ref u) us) Q E s := by
  obtain ⟨nm, q, N, bs, bm, sn, sub, ab, col, dd, k0, k1, k2, k3, k5, hC, hbm⟩ := T.cls
  obtain ⟨t1, ho⟩ := exo_at I.hok e
  have hC' := I.kIn _ _ hC
  obtain ⟨hp, g, d, t, os⟩ := s
  refine wpAny_call (codeAny_of_tree ?_)
  show wpAny _ A.in1 (callAny (.ref u) ⟨us, []⟩) _ _ _
  simp only [callAny]
  refine wpAny_bind (wpAny_load hu ?_)
  simp only [PySem.W.kxs_mw, show (Value.type "method-wrapper" == Value.type "method" || Value.type "method-wrapper" == Value.type "builtin_function_or_method" || Value.type "method-wrapper" == Value.type "method-wrapper") = true by decide, if_true]
  refine PySem.W.KFB.if_so (by decide) (wpAny_bind (PySem.W.check_bound_init F.excBase_ValueError.toExcCallFacts hC' ho rfl (wpAny_bind (wpAny_pure (wpAny_pure ⟨plainId_quiet F.excBase_ValueError.init.plain _, codeAny_builtin F.excBase_ValueError.initEntry ?_⟩)))))
  refine PySem.W.exc_init_tree (cls := .ref C) (t0 := t1) (dv := none) (c2 := .none) (c3 := .none) (b4 := .bool false) ho hl fun h' k hx _ => ?_
  have J := I.write (t' := t) (x := a) (e := a) (o := exo a C none) (by rw [e]; exact True.intro) (.inl rfl) k ⟨_, hx⟩ (exo_ok hx)
  have eu : upd H a (exo a C none) = H := by
    funext b
    by_cases hb : b = a
    · rw [hb, upd_same, e]
    · rw [upd_ne hb]
  rw [eu] at J
  exact h _ J
theorem init_ok (hev : ∀ env : PySem.Env, eval (.Call (.Attribute (.Call (.Name "super" p0) [] [] p1) "__init__" p2) [.Constant (.str txt) j pc] [] p3) env = (do
      let ov ← attributeBase (.Call (.Name "super" p0) [] [] p1) "__init__" env (eval (.Call (.Name "super" p0) [] [] p1) env)
      standAt p2.atName
      let (f, first) ← holding [ov] (getMethod ov "__init__" (do return (← importBound (.Call (.Name "super" p0) [] [] p1) env).getD true))
      callWith p3 f first (backTo p3 (starEach [.Constant (.str txt) j pc] env)) [])) (hb : C8.fnBody st = [.Expr (.Call (.Attribute (.Call (.Name "super" p0) [] [] p1) "__init__" p2) [.Constant (.str txt) j pc] [] p3) p4, .Assign [.Attribute (.Name "self" p5) fld p6] (.Name v p7) p8])
    (hvd : (v == ("__debug__" : Str)) = false) (hvc : (v == ("__classdict__" : Str)) = false) {ar : Arg} (har : ((C8.fnArgs st).posonlyargs ++ (C8.fnArgs st).args).head? = some ar) (harn : ar.arg = "self") (hks : (C8.fnScope st).names.lookup ("super" : Str) = some .globalImplicit) (S : NScope ["self", v, "__class__"] ["self", v] ["__class__"] (C8.fnScope st)) (T : OexC K C)
    (hl : K.lookup f1 = some ⟨oc, od, .func (PySem.W.fnX "__init__" q (C8.fnArgs st) (C8.fnBody st) (C8.fnScope st) [("__class__", cc)] .none kV doc pm an (.ref cda) ct), osl⟩) (hcd : PySem.W.codeIn K (.ref cda) q = true)
    (hk : K.lookup cda = some ⟨ccl, cdd, .fields vs, ccs⟩) (hvs : vs[2]? = some (.str file tf)) (hfile : ((P.main.file : Str) == file) = true) (hcell : K.lookup cc = some ⟨cl, cld, .cell (some (.ref C)), csl⟩) (hC : PySem.W.clsIn K C = some cd) (hmr : PySem.W.mroIn K C (.ref C) = some true)
    (hsu : PySem.W.nsIn K mainGlobals "super" = some none) (ht : PySem.W.nsIn K cStatics "thirdparty.any" = some none) (hsi : PySem.W.ks_superIn K C C "__init__" = some (some (.builtin "ValueError.__init__"))) (hB : PySem.W.subIn K (.ref C) (.type "ValueError") = some true)
    (htop : (P.main.scope.names.lookup ("super" : Str)).isSome = false) (hfl : PySem.W.findIn K (.ref C) fld = some none) :
    FnOk P w K mg base CX 1 f1 (PySem.W.fnX "__init__" q (C8.fnArgs st) (C8.fnBody st) (C8.fnScope st) [("__class__", cc)] .none kV doc pm an (.ref cda) ct) ["self", v] (spInit C fld) := by
  constructor
  · rintro _ H Q E ⟨a, v, rfl, _⟩; rfl
  intro R callers t H g us xs Q E rm e0 bd rv hq
  obtain ⟨a, y, rfl, ha, hq⟩ := hq
  have kin : K.In t.heap := e0.mod.kin.keeps fun b o e => (e0.bs b o e).1
  have nol : t.heap.NoLimit := e0.mod.nolimit.keeps fun b o e => (e0.bs b o e).1
  let F : NF := ⟨"__init__", q, C8.fnArgs st, C8.fnBody st, C8.fnScope st, [("__class__", cc)], cda⟩
  have hcc : t.heap.get? cc = some ⟨cl, cld, .cell (some (.ref C)), csl⟩ := kin _ _ hcell
  have ncc : H cc = none := (e0.bs _ _ (e0.mod.kin _ _ hcell)).2
  have CA : CellsAt F.cl ["__class__"] [some (.ref C)] t.heap H := by
    refine ⟨rfl, fun y c e => ?_, fun x y c ex ey => ?_, fun i y e => ?_⟩
    · have e : (if y == ("__class__" : Str) then some cc else none) = some c := by
        have e : [(("__class__" : Str), cc)].lookup y = some c := e
        simp only [List.lookup] at e
        split at e <;> simp_all
      split at e
      · cases e; exact ⟨ncc, _, _, hcc, rfl⟩
      · cases e
    · have f : ∀ z, [(("__class__" : Str), cc)].lookup z = some c → z = "__class__" := fun z e => by
        simp only [List.lookup] at e
        split at e
        · rename_i h; exact beq_iff_eq.mp h
        · cases e
      rw [f x ex, f y ey]
    · cases i with
      | zero =>
        simp at e
        subst e
        refine ⟨cc, by simp [F, List.lookup], fun v hv => ?_⟩
        simp at hv
        subst hv
        exact ⟨.ref C, rfl, _, hcc, rfl⟩
      | succ i => simp at e
  refine PySem.ks_codeAny_call_defAt (fd := PySem.W.fnX "__init__" q (C8.fnArgs st) (C8.fnBody st) (C8.fnScope st) [("__class__", cc)] .none kV doc pm an (.ref cda) ct) (body := C8.fnBody st) (binds := (["self", v] : List Str).zip us) rm.depth (kin _ _ hl) rfl nol (PySem.W.codeRec_of kin hcd) rfl bd (fun x hx => S.nocell x hx) (fun x hx => S.par x.1 (List.of_mem_zip hx).1) (fun h₁ hns kp => ?_) S.co S.gen S.kind
  have I : Inv (ncx CX P w K mg base ["self", v, "__class__"] F f1 R callers t H E) [] (startF ["self", v, "__class__"] [.ref a, y] [some (.ref C)]) H { t with heap := h₁, toks := t.toks + ((["self", v] : List Str).zip us).length } := inv_startN S rm.hd e0 rfl rv CA hns kp
  cases rv with
  | @cons _ u0 _ ur r0 rr =>
  cases rr with
  | @cons _ u1 _ ur2 r1 rr2 =>
  cases rr2
  obtain rfl : u0 = Value.ref a := r0
  have kin1 : K.In h₁ := fun b o e => kp _ _ (kin b o e)
  rw [hb]
  refine PySem.ks_wpAt_execs_cons (PySem.ks_wpAt_Expr_any (PySem.ks_wpAt_MethodCall ?_ (hev _)) (hi := by show ((C8.fnScope st).kind == .module && _) = false; rw [show (C8.fnScope st).kind = .function from S.kind]; rfl))
  have bk : ∀ b o, base.get? b = some o → h₁.get? b = some o := fun b o e => kp _ _ (e0.bs b o e).1
  obtain ⟨mb, bns, bbo⟩ := e0.mod.blt
  obtain ⟨oD, hD1, hD2⟩ : ∃ oD, h₁.get? C = some oD ∧ oD.data = .cls cd := by
    unfold PySem.W.clsIn at hC
    split at hC
    · rename_i c d cd' sl ho
      cases hC
      exact ⟨_, kin1 _ _ ho, rfl⟩
    · cases hC
  obtain ⟨tt, hoe⟩ := exo_at I.hok ha
  have IA : PySem.W.InstAt h₁ a ({ cls := .ref C, dict := none, data := .fields #[.ref tt, .none, .none, .none, .bool false, .none] } : Obj) C none := ⟨hoe, rfl, rfl, trivial⟩
  have sup : mg "super" = none := PySem.W.mg_none_of e0.mod.kin e0.mod.glob hsu
  refine PySem.ks_wpAt_super_base (f := f1) (cc := cda) (ar := ar) hks (S.frk _ (by simp)) (by decide +kernel) rfl (kin1 _ _ hl) rfl har rfl (kin1 _ _ hk) rfl hvs hfile htop ?_
  refine PySem.W.ks_loadName_global S.kind hks (PySem.Calls.loadGlobal_builtin (e0.mod.glob.keeps bk) sup (bns.keeps bk) ((bbo _ (by decide +kernel)).trans (by decide +kernel)) ⟨rfl, ?_⟩)
  refine wpAny_loadName_free S.kind (S.frk _ (by simp)) (by rfl) ⟨_, kp _ _ hcc, rfl⟩ ?_
  rw [harn]
  refine wpAny_loadName_local S.kind (S.par _ (by simp)) hns (v := .ref a) (zip_look (i := 0) (us := [.ref a, u1]) (S.nd.sublist (List.take_sublist 2 (["self", v, "__class__"] : List Str)) : (["self", v] : List Str).Nodup) rfl rfl) ?_
  refine PySem.ks_wpAny_isType_cls hD1 hD2 ⟨rfl, ?_⟩
  refine PySem.ks_wpAny_call_super hD1 hD2 hoe rfl (fun c e => by cases e) (PySem.W.looks_mroIn kin1 hmr) (fun h2 hso k2 => ?_)
  have kin2 : K.In h2 := fun b o e => k2 _ _ (kin1 b o e)
  have IA2 : PySem.W.InstAt h2 a ({ cls := .ref C, dict := none, data := .fields #[.ref tt, .none, .none, .none, .bool false, .none] } : Obj) C none := ⟨k2 _ _ hoe, rfl, rfl, trivial⟩
  have hal : PySem.W.alongIn K "__init__" ((cd.mro.dropWhile (· != .ref C)).drop 1) = some (some (.builtin "ValueError.__init__")) := by
    unfold PySem.W.ks_superIn at hsi
    rw [hC] at hsi
    exact hsi
  refine PySem.W.kxs_getMethod PySem.W.kxs_ValueError hso (PySem.W.looks_opaque kin2 ht) (l₀ := cd.mro) (fun A Q E s k q => wpAny_bind ((PySem.W.looks_clsIn kin2 hC) A _ E s k (wpAny_pure q))) rfl kin2 hal (IA2.type.andThen (PySem.W.looks_subIn kin2 hB)) (PySem.W.ks_ne kin2 IA2 hC) (by decide +kernel) ?_
  have k3 : ∀ b o, h₁.get? b = some o → (h2.push (PySem.W.kxs_mw "ValueError.__init__" a)).get? b = some o := fun b o e => Heap.get?_push_of_some _ (k2 _ _ e)
  have I3 : Inv (ncx CX P w K mg base ["self", v, "__class__"] F f1 R callers t H E) [] (startF ["self", v, "__class__"] [.ref a, y] [some (.ref C)]) H { t with heap := h2.push (PySem.W.kxs_mw "ValueError.__init__" a), toks := t.toks + ((["self", v] : List Str).zip [.ref a, u1]).length + 1 } := I.kept (t' := t.toks + ((["self", v] : List Str).zip [.ref a, u1]).length + 1) k3
  have hu : (h2.push (PySem.W.kxs_mw "ValueError.__init__" a)).get? h2.objs.size = some (PySem.W.kxs_mw "ValueError.__init__" a) := Heap.get?_push_size _ rfl
  have sz : h₁.objs.size ≤ h2.objs.size := Nat.le_of_lt (Heap.lt_size hso)
  have I4 := I3.pins_of (pins' := [(h2.objs.size, PySem.W.kxs_mw "ValueError.__init__" a)]) fun p hp => by
    rw [List.mem_singleton] at hp
    subst hp
    refine ⟨hu, I.hok.fresh sz, ?_, ?_, fun v z => by cases z⟩
    · obtain ⟨_, _, _, q0, _⟩ := hns
      exact fun z => absurd z (Nat.ne_of_gt (Nat.lt_of_lt_of_le (Heap.lt_size q0) sz))
    · exact I.nofs sz
  refine callWith_mw (i := "ValueError.__init__") (x := a) ?_
  refine thn ((pa_cons pe_str pa_nil).run _ _ _ _ _ (fun vs H' => H' = H ∧ vs.length = 1) I4 ?_) fun us' s1 ⟨vs', H', I5, r5, q5⟩ => ?_
  · exact ⟨rfl, rfl⟩
  obtain ⟨rfl, hl1⟩ := q5
  have pu := (I5.pin (h2.objs.size, PySem.W.kxs_mw "ValueError.__init__" a) (by simp)).1
  refine ⟨pu, call_mw T I5 ha pu (by rw [← r5.length, hl1]; decide) fun s' J => ?_⟩
  show _root_.PySem.wpAt _ _ _ (execs [.Assign [.Attribute (.Name "self" p5) fld p6] (.Name v p7) p8] _) _ _ s'
  refine wpAt_of_wpAny ?_
  have P2 := (pss_one (ps_ost (X := ncx CX P w K mg base ["self", v, "__class__"] F f1 R callers t H' E) (f := fld) (p' := p6) (pos := p8) (pv 0 (pos := p5) (hv := .inl (S.par _ (by simp)))) (pv 1 (pos := p7) (hv := .inl (S.par _ (by simp))) (hd := hvd) (hcd := hvc)))).run _ s' _ H' { nx := fun _ H' => Q .non H', rt := Q } J ?_
  · refine wpAny_mono P2 (fun fl s2 z => ?_) fun _ _ z => z
    cases fl with
    | next =>
      obtain ⟨σ', H2, J2, q2⟩ := z
      exact ⟨.non, H2, J2.os, J2.bare, J2.base, J2.hok, rfl, q2⟩
    | ret u =>
      obtain ⟨v2, σ', H2, J2, rv2, q2⟩ := z
      exact ⟨v2, H2, J2.os, J2.bare, J2.base, J2.hok, rv2, q2⟩
    | brk => obtain ⟨_, _, _, q2⟩ := z; exact False.elim q2
    | cont => obtain ⟨_, _, _, q2⟩ := z; exact False.elim q2
  · exact ⟨y, rfl, .ref a, rfl, a, C, rfl, T, hfl, .inl ⟨ha, fun dx n1 n2 => hq dx n1 n2⟩⟩
end
/-- an error's class of the package: made of one value, which it keeps in the field fld -/
structure Err (P : Program) (w : World) (K : PySem.W.Frag) (mg : Str → Option Value) (base : Heap) (x : Str) : Prop where
  ex : ∃ (C f1 : Addr) (fd : FuncData) (v : Str), mg x = some (.ref C) ∧ OexC K C ∧ PySem.W.findIn K (.ref C) "__init__" = some (some (.ref f1)) ∧ PySem.W.typeIn K (.ref f1) = some (.type "function") ∧ Binds K fd ["self", v] [] ∧
    FnOk P w K mg base L2.CX0 1 f1 fd ["self", v] (spInit C (fieldOf x))
def sRaise (c : Str) (f : DExp) : DStm := fun env => bnd (f env) fun d => rais (.exc c d)
@[simp] theorem x_raise (c : Str) (f : DExp) (env : En) : sRaise c f env = bnd (f env) fun d => rais (.exc c d) := rfl
theorem ds_raise {X : Cx} {W : WX} {k : Nat} {x : Str} {e : Expr} {f : DExp} {p p2 pos : Pos} (kx : Kx X W k) (hk : 2 ≤ k) (R : Err X.prog X.w X.K X.mg X.base x) (he : DE X W e f) (hg : Gl X x := by rfl) (hdb : (x == ("__debug__" : Str)) = false := by decide)
    (hs : starEach [e] X.env = (false, eval e X.env) :: starEach [] X.env := by rfl) (hpl : (backTo p2 (starEach [] X.env)).any (·.1) = false := by rfl) : DS X W (.Raise (some (.Call (.Name x p) [e] [] p2)) none pos) (sRaise x f) := by
  obtain ⟨C, f1, fd, v, hm, T, iC, tI, hb, F1⟩ := R.ex
  have ha : DA X W [e] (aCons f aNil) := da_cons he da_nil hs
  refine ⟨PS.imp (ps_raise (pos := pos) kx.calm kx.tk (pmk_oex (ds := []) (dvs := []) T iC tI F1 (kx.rm.room.mono hk) hb .nil L2.pass0 hg hm ha.pa hdb hs hpl)) fun Ds σ H ⟨B, n, F, env, S, h⟩ => ?_⟩
  show tA X W (aCons f aNil) σ H _
  refine ⟨B, n, F, env, S, ?_⟩
  refine (f env).mono (fun d m q => ?_) (fun x m z => exS_of S z) h
  intro vs F1' H1 t r
  cases r with
  | @cons u us _ _ r1 r2 =>
  cases r2
  refine ⟨(show 1 ≤ 1000 by decide), fun a na => ⟨a, u, rfl, upd_same, fun dx ndx nda => ⟨rfl, dx, [(fieldOf x, u)], upd_same, ?_, ?_, ?_⟩⟩⟩
  · rw [upd_ne nda, upd_same]
  · rw [upd_ne nda] at ndx; exact ndx
  · rw [upd_ne nda] at ndx
    have e : upd (del (upd (upd (upd H1 a (exo a C none)) dx (exd dx [(fieldOf x, u)])) a (exo a C (some dx))) a) dx (.xd [(fieldOf x, u)]) = upd H1 dx (.xd [(fieldOf x, u)]) := by
      funext b
      by_cases hb : b = dx
      · rw [hb, upd_same, upd_same]
      · rw [upd_ne hb, upd_ne hb]
        by_cases hba : b = a
        · rw [hba, del_same, na]
        · rw [del_ne hba, upd_ne hba, upd_ne hb, upd_ne hba]
    rw [e]
    have ss := S.st.trans t
    have st := Step.new (n := m) (o := .xd [(fieldOf x, u)]) ss.sub ndx
    exact q (.ref C) (some dx) σ _ _ (ss.trans st) ⟨x, d, C, dx, u, rfl, hm, rfl, rfl, upd_same, r1.grow st.gr⟩
end DL

end
section
set_option Elab.async false
set_option linter.all false
set_option maxRecDepth 100000
set_option maxHeartbeats 4000000
/-! DTry: try: .. except (A, B, C) as e: y = e. -/
namespace DL
open PySem PySem.Spec PyProof.Rows L2
variable [Tb]

theorem look_tup3 {X : Cx} {pins : List (Addr × Obj)} {σ : L2.St} {H : Hp} {s : Shared} {E : Value → Shared → Prop} {Q : Value → Shared → Prop} {x1 x2 x3 : Str} {c1 c2 c3 : Value} {q1 q2 q3 q4 : Pos} {kk : Nat} (I : Inv X pins σ H s)
    (g1 : Gl X x1) (g2 : Gl X x2) (g3 : Gl X x3) (m1 : X.mg x1 = some c1) (m2 : X.mg x2 = some c2) (m3 : X.mg x3 = some c3) (d1 : (x1 == ("__debug__" : Str)) = false) (d2 : (x2 == ("__debug__" : Str)) = false) (d3 : (x3 == ("__debug__" : Str)) = false)
    (h : Q (.ref s.heap.objs.size) { s with heap := s.heap.push { cls := .type "tuple", data := .seq [c1, c2, c3].toArray } }) : wpAny (model X.prog X.w) X.A (eval (.Tuple [.Name x1 q1, .Name x2 q2, .Name x3 q3] kk q4) X.env) Q E s := by
  refine wpAny_Tuple (wpAny_items_cons (ld_glob I g1 m1 ?_ d1))
  refine wpAny_items_cons (ld_glob I g2 m2 ?_ d2)
  refine wpAny_items_cons (ld_glob I g3 m3 ?_ d3)
  exact wpAny_items_nil ⟨by size_fits, h⟩
/-- an object that came up behind the entry is known from now on -/
theorem inv_track {X : Cx} {pins : List (Addr × Obj)} {σ : L2.St} {H : Hp} {s : Shared} {a : Addr} {o : HO} (I : Inv X pins σ H s) (n0 : X.s_0.heap.get? a = none) (na : H a = none) (nl : a ≠ X.env.locals) (nc : ∀ x c, X.env.cells.lookup x = some c → c ≠ a)
    (np : ∀ p ∈ X.pn ++ pins, p.1 ≠ a) (ok : ObjOk X.prog X.w (upd H a o) s.heap a o) : Inv X pins σ (upd H a o) s := by
  have up : ∀ {b : Addr}, b ≠ a → H b = none → upd H a o b = none := fun hb e => by rw [upd_ne hb]; exact e
  have ne0 : ∀ {b : Addr} {ob : Obj}, X.s_0.heap.get? b = some ob → b ≠ a := fun e z => by rw [z, n0] at e; cases e
  refine ⟨I.ok, I.os, I.bare, ⟨I.base.keep, I.base.slot, fun b ob e n hx => up (ne0 e) (I.base.free b ob e n hx), I.base.there, fun b xs q => ?_, fun b ob u q => ?_, fun b ps q => ?_⟩, I.loc, I.cell, up (Ne.symm nl) I.free, fun x c e => up (nc x c e) (I.freeC x c e),
    fun p hp => let ⟨p1, p2, p3⟩ := I.pin p hp; ⟨p1, up (np p hp) p2, p3⟩, fun b u e => ?_, I.len⟩
  · have := I.base.tups b xs q
    rw [upd_ne (ne_of_none this na)]; exact this
  · have := I.base.frzs b ob u q
    rw [upd_ne (ne_of_none this na)]; exact this
  · obtain ⟨more, this⟩ := I.base.tbls b ps q
    exact ⟨more, by rw [upd_ne (ne_of_none this na)]; exact this⟩
  · by_cases hb : b = a
    · subst hb
      rw [upd_same] at e
      cases e
      exact ok
    · rw [upd_ne hb] at e
      refine (I.hok b u e).stay (fun c v _ q => q) (fun d q => ?_) fun d xs q => ?_
      · rw [upd_ne (ne_of_none q na)]; exact q
      · rw [upd_ne (ne_of_none q na)]; exact q
/-- what is wished of the body's exception: it is one of cs; then y holds it, known as an object of its class -/
def wIn (K : PySem.W.Frag) (len : Nat) (cs : List Value) (iy : Nat) (D : Ends) : WX := fun cls d σ H => PySem.W.exmAny K cls cs = some true ∧ ∃ C dx : Addr, cls = .ref C ∧ d = some dx ∧
  (σ.length = len → ∀ a, H a = none → D.nx ((List.replicate len none).set iy (some (.ref a))) (upd H a (ExcO a C dx)))
section
variable {X : Cx} {x1 x2 x3 n y : Str} {c1 c2 c3 : Value} {i iy : Nat} {body : List Stmt} {q1 q2 q3 q4 q5 q6 q7 pos pos' : Pos} {kk : Nat} {tb : WX → TS}
theorem ps_try3 (hex : X.ex = []) (hs : X.stack = X.env :: X.outer) (hf : X.env.frame = some X.env.locals) (hN : X.N.Nodup) (hi : X.N[i]? = some n) (hln : X.env.kindOf n = some .local) (hiy : X.N[iy]? = some y) (hly : X.env.kindOf y = some .local) (hyn : iy ≠ i)
    (g1 : Gl X x1) (g2 : Gl X x2) (g3 : Gl X x3) (m1 : X.mg x1 = some c1) (m2 : X.mg x2 = some c2) (m3 : X.mg x3 = some c3) (d1 : (x1 == ("__debug__" : Str)) = false) (d2 : (x2 == ("__debug__" : Str)) = false) (d3 : (x3 == ("__debug__" : Str)) = false)
    (dn : (n == ("__debug__" : Str)) = false) (dc : (n == ("__classdict__" : Str)) = false)
    (hb : ∀ (W : WX) (pn : List (Addr × Obj)) (xe : Value → Shared → Prop), Takes (X.tr pn xe) W → PassesOwn (model X.prog X.w) X.A X.env xe → PSs (X.tr pn xe) body (tb W)) :
    PS X (.Try body [.ExceptHandler (some (.Tuple [.Name x1 q1, .Name x2 q2, .Name x3 q3] kk q4)) (some n) [.Assign [.Name y q5] (.Name n q6) q7] pos'] [] [] pos) (fun D σ H => tb (wIn X.K X.N.length [c1, c2, c3] iy D) D σ H) := by
  refine ⟨fun pins s σ H D I h => ?_⟩
  have ok := I.ok
  have frE : X.A.frames = some (X.env :: X.outer) := by rw [ok.frames, hs]
  let clause : ExceptHandler := .ExceptHandler (some (.Tuple [.Name x1 q1, .Name x2 q2, .Name x3 q3] kk q4)) (some n) [.Assign [.Name y q5] (.Name n q6) q7] pos'
  let xe' : Value → Shared → Prop := fun e s₁ => wpAny (model X.prog X.w) X.A (noteFrame e X.env) (fun _ s₂ => wpAny (model X.prog X.w) X.A (setFlight e none) (fun _ s₃ => wpAny (model X.prog X.w) X.A (handleBy e X.env [clause]) (SP X pins D) X.xe s₃) X.xe s₂) X.xe s₁
  refine wpAny_Try_except (wpAny_mono ((hb (wIn X.K X.N.length [c1, c2, c3] iy D) (X.pn ++ pins) xe' (fun u s' xx => ?_) PassesOwn.looking).run [] s σ H D (I.toTry _) h) (fun f s1 hsp => ?_) fun e s1 he => he)
  · obtain ⟨a, B, sI, pins', σ', H', cls, d, rfl, J', nb, up, sky, na, os, ag, hmatch, C, dx, rfl, rfl, hyes⟩ := xx
    have J : Inv X pins σ' H' sI := J'.ofTry ok
    have sky1 : Sky B (X.env :: X.outer) a (Zc (.ref C) (some dx)) X.env.locals s'.heap := by rw [← hs]; exact sky
    show wpAny (model X.prog X.w) X.A (noteFrame (.ref a) X.env) _ _ _
    refine Sky.land Zc.steady frE hf sky1 fun h3 fl3 up3 => ?_
    have J3 : Inv X pins σ' H' { s' with heap := h3 } := J.landed nb fl3.1 (up.trans up3) os ag
    obtain ⟨oe3, vs3, he3, hz3, hd3⟩ := fl3.there
    have out : ∀ {hh : Heap} {o : Obj} {vs : Array Value}, hh.FunFrames B (X.env :: X.outer) → hh.get? a = some o → o.data = .fields vs → a ∉ frs (X.env :: X.outer) := fun ff e dd hm => by
      obtain ⟨_, o', e', hnf⟩ := ff.mem hm
      rw [e] at e'; cases e'
      exact hnf _ dd
    have nfr := out fl3.2.2.1 he3 hd3
    have nL : a ≠ X.env.locals := fun z => nfr (List.mem_filterMap.mpr ⟨X.env, List.mem_cons_self, by rw [hf, z]⟩)
    have nF : a ∉ X.fs := fun hm => by
      obtain ⟨e, he, q⟩ := List.mem_filterMap.mp hm
      exact nfr (List.mem_filterMap.mpr ⟨e, List.mem_cons_of_mem _ he, q⟩)
    have nI : sI.heap.get? a = none := by
      cases e : sI.heap.get? a with
      | none => rfl
      | some o =>
        have q := nb a o e (by show a ∉ frs X.stack; rw [hs]; exact nfr)
        rw [fl3.2.1] at q; cases q
    have n0 : X.s_0.heap.get? a = none := by
      cases e : X.s_0.heap.get? a with
      | none => rfl
      | some o =>
        obtain ⟨o', q⟩ := J.base.there a o e (by rw [hex]; simp)
        rw [nI] at q; cases q
    have S3 := J3.suite he3 hd3 na nL nF
    refine wpAny_handleBy_cons (codeAny_handlers_test (look_tup3 (X := X.suite a ((a, oe3) :: (X.pn ++ pins))) S3 g1 g2 g3 m1 m2 m3 d1 d2 d3 ?_)) (by intro q; cases q)
    have kp : ∀ b o, h3.get? b = some o → (h3.push { cls := .type "tuple", data := .seq [c1, c2, c3].toArray }).get? b = some o := fun _ _ z => Heap.get?_push_of_some _ z
    have LT : PySem.W.Looks (model X.prog X.w) (h3.push { cls := .type "tuple", data := .seq [c1, c2, c3].toArray }) (typeOf (.ref a)) (.ref C) := fun A Q E s k q => wpAny_typeOf_ref (k _ _ (kp _ _ he3)) (by rw [hz3.1]; exact q)
    have LM := PySem.W.exm_tup3 (M := model X.prog X.w) (J3.kIn.keeps kp) LT (Heap.get?_push_size h3 rfl) hmatch
    refine LM.here ?_
    have fl3' : HandSPX.FlyingZ B (X.env :: X.outer) a (Zc (.ref C) (some dx)) (h3.push { cls := .type "tuple", data := .seq [c1, c2, c3].toArray }) := by
      obtain ⟨k1, k2, k3, oe, vs, T, oT, ts, e1, e2, e3, e4, e5, e6, e7, e8, e9⟩ := fl3
      exact ⟨fun b o e => kp _ _ (k1 b o e), k2, Heap.FunFrames.of_keeps (fun b o e _ => ⟨o, kp _ _ e, rfl⟩) k3, oe, vs, T, oT, ts, kp _ _ e1, e2, e3, e4, e5, e6, kp _ _ e7, e8, e9⟩
    refine codeAny_handlers_suite_as (HandSPX.lands_againZ fl3' fun h4 fl4 up4 => ?_)
    have J4 : Inv X pins σ' H' { s' with heap := h4 } := J.landed nb fl4.1 (((up.trans up3).trans (Heap.UpToSlots.of_keeps kp)).trans up4) os ag
    obtain ⟨oe4, vs4, he4, hz4, hd4⟩ := fl4.there
    have S4 := J4.suite he4 hd4 na nL nF
    refine store_ok (X := X.suite a ((a, oe4) :: (X.pn ++ pins))) (v := .ref a) S4 hN hi (.inl hln) rfl (fun s5 S5 => ?_) (.inr hln)
    have PSS := (pss_one (ps_set (X := X.suite a ((a, oe4) :: (X.pn ++ pins))) (pos' := q5) (pos := q7) hN hiy (.inl hly) (pv i (pos := q6) (hN := hi) (hv := .inl hln) (hd := dn) (hcd := dc)) (hf := .inr hly))).run [] s5 _ H' { nx := fun σ H => σ = (σ'.set i (some (.ref a))).set iy (some (.ref a)) ∧ H' = H, rt := fun _ _ => False } S5 ?_
    · refine wpAny_mono PSS (fun f s6 hsp => ?_) (fun _ _ z => False.elim z)
      cases f with
      | next =>
        obtain ⟨σ6, H6, S6, rfl, hH⟩ := hsp; subst hH
        have len1 : σ'.length = X.N.length := J4.len
        have lti : i < X.N.length := (List.getElem?_eq_some_iff.mp hi).1
        have ltiy : iy < X.N.length := (List.getElem?_eq_some_iff.mp hiy).1
        have U6 := S6.unsuite ok
        have Ja : L2.Inv X ((a, oe4) :: pins) ((σ'.set i (some (.ref a))).set iy (some (.ref a))) H' s6 := U6.pins_of fun p hp => by
          rcases List.mem_cons.mp hp with rfl | hp
          · exact S6.pin (a, oe4) (List.mem_append_left _ List.mem_cons_self)
          · exact U6.pin p (List.mem_append_right _ hp)
        refine gone_ok Ja hN hi hln fun s7 J7 => ?_
        have pa := J7.pin (a, oe4) (List.mem_append_right _ List.mem_cons_self)
        have Jp : Inv X pins (((σ'.set i (some (.ref a))).set iy (some (.ref a))).set i none) H' s7 := J7.pins_of fun p hp => J7.pin p (List.mem_append_right _ (List.mem_cons_of_mem _ hp))
        have Jw := Jp.weak (σ' := (List.replicate X.N.length none).set iy (some (.ref a))) (by simp [len1]) fun j v hj => by
          by_cases e : iy = j
          · subst e
            rw [List.getElem?_set_self (by simpa using ltiy)] at hj
            cases hj
            rw [List.getElem?_set_ne (Ne.symm hyn), List.getElem?_set_self (by rw [List.length_set, len1]; exact ltiy)]
          · rw [List.getElem?_set_ne e, List.getElem?_replicate] at hj
            split at hj <;> cases hj
        have ok2 : ObjOk X.prog X.w (upd H' a (ExcO a C dx)) s7.heap a (ExcO a C dx) :=
          ⟨⟨oe4, vs4, pa.1, hz4.1, hz4.2, hd4⟩, ⟨oe4, pa.1⟩, fun h1 h2 ⟨oe, vs, z1, z2⟩ k => ⟨oe, vs, k _ z1, z2⟩⟩
        have Jt := inv_track (o := ExcO a C dx) Jw n0 na nL (fun x c e z => by
          obtain ⟨v, o, q1, q2⟩ := J7.cell x c e
          rw [z, pa.1] at q1
          cases q1
          rw [hd4] at q2; cases q2) (fun p hp z => by
          have q := (J.pin p hp).1
          rw [z, nI] at q; cases q) ok2
        exact ⟨_, _, Jt, hyes len1 a na⟩
      | brk => obtain ⟨_, _, _, z⟩ := hsp; exact z.elim
      | cont => obtain ⟨_, _, _, z⟩ := hsp; exact z.elim
      | ret u => obtain ⟨_, _, _, _, _, z⟩ := hsp; exact z.elim
    · have len1 : σ'.length = X.N.length := J4.len
      have lti : i < X.N.length := (List.getElem?_eq_some_iff.mp hi).1
      exact ⟨.ref a, List.getElem?_set_self (by rw [len1]; exact lti), rfl, rfl⟩
  · cases f with
    | next => obtain ⟨σ', H', J', q⟩ := hsp; exact wpAny_execs_nil ⟨σ', H', J'.ofTry ok, q⟩
    | brk => obtain ⟨σ', H', J', q⟩ := hsp; exact ⟨σ', H', J'.ofTry ok, q⟩
    | cont => obtain ⟨σ', H', J', q⟩ := hsp; exact ⟨σ', H', J'.ofTry ok, q⟩
    | ret u => obtain ⟨v, σ', H', J', r, q⟩ := hsp; exact ⟨v, σ', H', J'.ofTry ok, r, q⟩
end
/-! ### the same of data -/
def catchM {α : Type} (m : M α) (h : D → M α) : M α := ⟨fun n P E => m.run n P (fun x k => (h x).run k P E), fun p e q => m.mono p (fun x _ z => (h x).mono p e z) q⟩
@[simp] theorem catch_ret {α : Type} (a : α) (h : D → M α) : catchM (ret a) h = ret a := rfl
@[simp] theorem catch_rais {α : Type} (x : D) (h : D → M α) : catchM (rais x) h = h x := rfl
@[simp] theorem catch_need {α : Type} (p : Prop) (m : M α) (h : D → M α) : catchM (need p m) h = need p (catchM m h) := rfl
@[simp] theorem catch_stuck {α : Type} (h : D → M α) : catchM stuck h = stuck := rfl
/-- what the handler makes of an exception of one of the classes ok -/
def hCatch (oks : List Str) (iy len : Nat) : D → M Fl
  | .exc c p => if c ∈ oks then ret (.nx ((List.replicate len .emp).set iy (.val (.exc c p)))) else stuck
  | _ => stuck
def sTry (oks : List Str) (iy len : Nat) (s : DStm) : DStm := fun env => need (∀ x ∈ env, ¬ IsOwn x) (catchM (s env) (hCatch oks iy len))
section
variable {X : Cx} {W : WX} {K : PySem.W.Frag} {mg : Str → Option Value} {B : Bs} {n n' m : Nat} {F H F' H' : Hp} {σ : L2.St} {env : En} {k : Nat}
theorem Step.gone {n n' : Nat} {F H F' H' : Hp} (t : Step n F H n' F' H') {p : Addr} (h : H' p = none) : H p = none := by
  cases e : H p with
  | none => rfl
  | some o =>
    exfalso
    cases e2 : F p with
    | none => rw [(t.keep p o e e2).1] at h; cases h
    | some u =>
      have := t.gr.free (p := p) (sub_free t.sub h)
      rw [e2] at this; cases this
theorem SL.rebase (S : SL K mg B n F H σ env) (hn : ∀ x ∈ env, ¬ IsOwn x) : SL K mg ⟨n, F, H⟩ n F H σ env :=
  ⟨Step.refl S.sub, S.len, fun i s h => by
    have q := S.slot i s h
    cases s with
    | emp => trivial
    | val d => exact q
    | own l => exact absurd trivial (hn _ (List.mem_of_getElem? h)), S.ne, S.tabs⟩
theorem SL.unbase (S0 : SL K mg B n F H σ env) {σ' : L2.St} {env' : En} (S : SL K mg ⟨n, F, H⟩ n' F' H' σ' env') : SL K mg B n' F' H' σ' env' :=
  ⟨S0.st.trans S.st, S.len, fun i s h => by
    have q := S.slot i s h
    cases s with
    | emp => trivial
    | val d => exact q
    | own l =>
      obtain ⟨a, xs, h1, h2, h3, h4⟩ := q
      exact ⟨a, xs, h1, h2, S0.st.gone h3, h4⟩, S.ne, S0.tb⟩
theorem SL.emps (st : Step B.n B.F B.H n F H) (tb : TabsK B.F) (len : Nat) : SL K mg B n F H (List.replicate len none) (List.replicate len .emp) := by
  refine ⟨st, by simp, fun i s h => ?_, fun i j s t h1 h2 o1 o2 _ => ?_, tb⟩
  · rw [List.getElem?_replicate] at h
    split at h
    · cases h; trivial
    · cases h
  · rw [List.getElem?_replicate] at h1
    split at h1
    · cases h1; exact o1.elim
    · cases h1
variable {x1 x2 x3 nm y : Str} {c1 c2 c3 : Value} {i : Nat} {body : List Stmt} {q1 q2 q3 q4 q5 q6 q7 pos pos' : Pos} {kk : Nat} {s : DStm}
theorem ds_try3 (iy len : Nat) (oks : List Str) (kx : Kx X W k) (hex : X.ex = []) (hs : X.stack = X.env :: X.outer) (hf : X.env.frame = some X.env.locals) (hi : X.N[i]? = some nm) (hln : X.env.kindOf nm = some .local) (hiy : X.N[iy]? = some y) (hly : X.env.kindOf y = some .local) (hyn : iy ≠ i) (hlen : X.N.length = len)
    (g1 : Gl X x1) (g2 : Gl X x2) (g3 : Gl X x3) (m1 : X.mg x1 = some c1) (m2 : X.mg x2 = some c2) (m3 : X.mg x3 = some c3) (d1 : (x1 == ("__debug__" : Str)) = false) (d2 : (x2 == ("__debug__" : Str)) = false) (d3 : (x3 == ("__debug__" : Str)) = false)
    (dn : (nm == ("__debug__" : Str)) = false) (dc : (nm == ("__classdict__" : Str)) = false)
    (hm : ∀ c ∈ oks, ∀ C : Addr, X.mg c = some (.ref C) → PySem.W.exmAny X.K (.ref C) [c1, c2, c3] = some true)
    (hb : ∀ (W' : WX) (pn : List (Addr × Obj)) (xe : Value → Shared → Prop), Kx (X.tr pn xe) W' k → DSs (X.tr pn xe) W' body s) :
    DS X W (.Try body [.ExceptHandler (some (.Tuple [.Name x1 q1, .Name x2 q2, .Name x3 q3] kk q4)) (some nm) [.Assign [.Name y q5] (.Name nm q6) q7] pos'] [] [] pos) (sTry oks iy len s) := by
  refine ⟨PS.imp (ps_try3 (tb := fun W' => tS X W' s) hex hs hf kx.nd hi hln hiy hly hyn g1 g2 g3 m1 m2 m3 d1 d2 d3 dn dc (fun W' pn xe tk hp => (hb W' pn xe ⟨tk, hp, kx.rm, kx.calm, kx.nd⟩).pss)) fun D σ H ⟨B, n, F, env, S, h⟩ => ?_⟩
  obtain ⟨hno, h⟩ := h
  refine ⟨⟨n, F, H⟩, n, F, env, S.rebase hno, (s env).mono (fun fl m p => ?_) (fun x m p => ?_) h⟩
  · cases fl with
    | nx env' => exact fun σ' F' H' g S' => p σ' F' H' g (S.unbase S')
    | rt d => exact fun v F' H' t r => p v F' H' (S.st.trans t) r
  · intro cls dx σ' F' H' t r
    obtain ⟨c, pv, C, da, v, rfl, hmc, rfl, rfl, hd, rv⟩ := r
    have p : (if c ∈ oks then ret (.nx ((List.replicate len .emp).set iy (.val (.exc c pv)))) else stuck : M Fl).run m (okS X B n F D) (exS X W B) := p
    by_cases hc : c ∈ oks
    · rw [if_pos hc] at p
      refine ⟨hm c hc C hmc, C, da, rfl, rfl, fun hl a na => ?_⟩
      have st := Step.new (n := m) (o := ExcO a C da) t.sub na
      have gr := t.gr.trans st.gr
      have SE : SL X.K X.mg B m (upd F' a (ExcO a C da)) (upd H' a (ExcO a C da)) (List.replicate X.N.length none) (List.replicate X.N.length .emp) := SL.emps ((S.st.trans t).trans st) S.tb _
      have fa : F' a = none := sub_free t.sub na
      have R : Rep X.K X.mg m (upd F' a (ExcO a C da)) (.ref a) (.exc c pv) := by
        refine .exc (dx := da) (v := v) hmc upd_same ?_ (rv.grow st.gr)
        rw [upd_ne (ne_of_none hd fa)]; exact hd
      have S2 := SE.set iy R
      rw [hlen] at S2
      exact p _ _ _ gr (by rw [hlen]; exact S2)
    · rw [if_neg hc] at p; exact p.elim
end
end DL

end
section
set_option Elab.async false
set_option linter.all false
set_option maxRecDepth 100000
set_option maxHeartbeats 4000000
/-! DZip: list(zip(x, y)). -/
namespace DL
open PySem PySem.Spec PyProof.Rows L2
section
variable {P : Program} {w : World} {A : Around} {E : Value → Shared → Prop} {s : Shared} {z TI TO i1 i2 : Addr} {fp1 fp2 : List Addr} {n1 n2 i : Nat} {P1 P2 : Nat → Value → Prop} {St1 St2 : Nat → Heap → Prop}
/-- the next pair of a zip whose last tuple T is still held -/
theorem zh_item {T : Addr} {oT : Obj} {f : Bool} {Q : Value → Shared → Prop} (S : ZipSep2 z TI TO i1 i2 fp1 fp2) (D1 : Draws P w A i1 fp1 n1 P1 St1) (D2 : Draws P w A i2 fp2 n2 P2 St2)
    (hz : IsZipHeld s.heap z TI TO T f) (hT : s.heap.get? T = some oT) (hTI : IsTupOf2 s.heap TI (.ref i1) (.ref i2)) (t1 : St1 i s.heap) (t2 : St2 i s.heap) (l1 : i < n1) (l2 : i < n2)
    (hQ : ∀ x1 x2 h' tk, P1 i x1 → P2 i x2 → IsZipHeld h' z TI TO T true → St1 (i + 1) h' → St2 (i + 1) h' → IsTupOf2 h' s.heap.objs.size x1 x2 → h'.objs.size = s.heap.objs.size + 1 →
      (∀ c o, c ≠ z → c ≠ i1 → c ≠ i2 → s.heap.get? c = some o → h'.get? c = some o) → Q (.ref s.heap.objs.size) { s with heap := h', toks := tk }) :
    wpAny (model P w) A (Builtin.«zip.__next__» ⟨[.ref z], []⟩) (fun fin s' => ∃ v, fin = .done (.ret v) ∧ Q v s') E s := by
  obtain ⟨hp, gs, dr, tk0, os⟩ := s
  show wpAny _ _ (field (Value.ref z) 2 >>= _) _ _ _
  refine wpAny_bind (wpAny_field hz rfl (x := .bool false) rfl ?_); show wpAny _ _ (field (Value.ref z) 3 >>= _) _ _ _
  refine wpAny_bind (wpAny_field hz rfl (x := .ref TI) rfl ?_); refine wpAny_bind (wpAny_seqItems hTI rfl ?_)
  show wpAny (model P w) A (Builtin.SmallTypes.ownedTupleIsFree (.ref z) >>= _) _ _ _
  refine wpAny_bind (wpAny_tupleHeld_zip hz hT fun g0 z0 k0 => ?_)
  replace k0 : Heap.SameBut z hp g0 := k0
  simp only [Bool.false_eq_true, if_false]; refine wpAny_bind ?_
  rw [← Array.forIn_toList]; simp only [List.forIn_cons, List.forIn_nil]
  refine wpAny_bind (wpAny_bind (wpAny_holding ?_)); show wpAny _ _ (Builtin.SmallTypes.nextOf (.ref i1) >>= _) _ _ (Shared.mk g0 gs dr tk0 os)
  refine wpAny_bind (D1.item i _ _ _ l1 (D1.over t1 k0 S.zf1) fun x1 p1 tk1 hx1 sn1 hp1 => wpAny_pure ?_)
  replace hp1 : Heap.SameBut i1 g0 p1 := hp1
  refine wpAny_pure ?_; refine wpAny_bind (wpAny_bind (wpAny_holding ?_))
  show wpAny _ _ (Builtin.SmallTypes.nextOf (.ref i2) >>= _) _ _ (Shared.mk p1 gs dr tk1 os)
  refine wpAny_bind (D2.item i _ _ _ l2 (D2.over (D2.over t2 k0 S.zf2) hp1 S.sep1_2) fun x2 p2 tk2 hx2 sn2 hp2 => wpAny_pure ?_)
  replace hp2 : Heap.SameBut i2 p1 p2 := hp2
  refine wpAny_pure (wpAny_pure ?_); show wpAny (model P w) A (newTuple [x1, x2] >>= _) _ _ _
  refine wpAny_bind (wpAny_newTuple ?_); refine wpAny_pure (Exists.intro _ (And.intro rfl ?_))
  have sz : p2.objs.size = hp.objs.size := by rw [hp2.1, hp1.1, k0.1]
  have z2 : IsZipHeld p2 z TI TO T true := hp2.extBut _ _ S.zi2 (hp1.extBut _ _ S.zi1 z0)
  have tt : IsTupOf2 (p2.push { cls := .type "tuple", data := .seq #[x1, x2] }) p2.objs.size x1 x2 := Heap.get?_push_size _ rfl
  have up : ∀ b o, p2.get? b = some o → (p2.push { cls := .type "tuple", data := .seq #[x1, x2] }).get? b = some o := fun b o e => Heap.get?_push_of_some _ e
  show Q (.ref p2.objs.size) _
  have s1 : (p2.push { cls := .type "tuple", data := .seq #[x1, x2] }).objs.size = p2.objs.size + 1 := Heap.size_push ..
  rw [sz] at tt s1 ⊢
  exact hQ x1 x2 _ tk2 hx1 hx2 (up _ _ z2) (D1.frame _ _ _ (D1.over sn1 hp2 S.sep2_1) fun b _ o e => up b o e) (D2.frame _ _ _ sn2 fun b _ o e => up b o e) tt s1
    fun c o c0 c1 c2 e => up c o (hp2.extBut _ _ c2 (hp1.extBut _ _ c1 (k0.extBut _ _ c0 e)))
theorem zh_end {T : Addr} {oT : Obj} {f : Bool} {Q : Fin → Shared → Prop} (S : ZipSep2 z TI TO i1 i2 fp1 fp2) (D1 : Draws P w A i1 fp1 n1 P1 St1) (D2 : Draws P w A i2 fp2 n2 P2 St2)
    (hz : IsZipHeld s.heap z TI TO T f) (hT : s.heap.get? T = some oT) (hTI : IsTupOf2 s.heap TI (.ref i1) (.ref i2)) (t1 : St1 i s.heap) (t2 : St2 i s.heap) (l1 : i ≤ n1) (l2 : i ≤ n2) (he : i = n1 ∨ i = n2)
    (hE : ∀ h' tk e, (∀ c o, c ≠ z → c ≠ i1 → c ≠ i2 → s.heap.get? c = some o → h'.get? c = some o) → (∃ o, h'.get? e = some o ∧ o.cls = .type "StopIteration") → E (.ref e) { s with heap := h', toks := tk }) :
    wpAny (model P w) A (Builtin.«zip.__next__» ⟨[.ref z], []⟩) Q E s := by
  obtain ⟨hp, gs, dr, tk0, os⟩ := s
  show wpAny _ _ (field (Value.ref z) 2 >>= _) _ _ _
  refine wpAny_bind (wpAny_field hz rfl (x := .bool false) rfl ?_); show wpAny _ _ (field (Value.ref z) 3 >>= _) _ _ _
  refine wpAny_bind (wpAny_field hz rfl (x := .ref TI) rfl ?_); refine wpAny_bind (wpAny_seqItems hTI rfl ?_)
  show wpAny (model P w) A (Builtin.SmallTypes.ownedTupleIsFree (.ref z) >>= _) _ _ _
  refine wpAny_bind (wpAny_tupleHeld_zip hz hT fun g0 z0 k0 => ?_)
  replace k0 : Heap.SameBut z hp g0 := k0
  simp only [Bool.false_eq_true, if_false]; refine wpAny_bind ?_
  rw [← Array.forIn_toList]; simp only [List.forIn_cons, List.forIn_nil]
  refine wpAny_bind (wpAny_bind (wpAny_holding ?_)); show wpAny _ _ (Builtin.SmallTypes.nextOf (.ref i1) >>= _) _ _ (Shared.mk g0 gs dr tk0 os)
  by_cases lt : i < n1
  · refine wpAny_bind (D1.item i _ _ _ lt (D1.over t1 k0 S.zf1) fun x1 p1 tk1 hx1 sn1 hp1 => wpAny_pure ?_)
    replace hp1 : Heap.SameBut i1 g0 p1 := hp1
    have e2 : i = n2 := by omega
    refine wpAny_pure ?_; refine wpAny_bind (wpAny_bind (wpAny_holding ?_))
    show wpAny _ _ (Builtin.SmallTypes.nextOf (.ref i2) >>= _) _ _ (Shared.mk p1 gs dr tk1 os)
    refine wpAny_bind (D2.done (Shared.mk p1 gs dr tk1 os) _ _ (by rw [← e2]; exact D2.over (D2.over t2 k0 S.zf2) hp1 S.sep1_2) fun q e hq hs => ?_)
    exact hE q tk1 e (fun c o c0 c1 c2 x => hq _ _ c2 (hp1.extBut _ _ c1 (k0.extBut _ _ c0 x))) hs
  · have e1 : i = n1 := by omega
    refine wpAny_bind (D1.done (Shared.mk g0 gs dr tk0 os) _ _ (by rw [← e1]; exact D1.over t1 k0 S.zf1) fun q e hq hs => ?_)
    exact hE q tk0 e (fun c o c0 c1 _ x => hq _ _ c1 (k0.extBut _ _ c0 x)) hs
/-- where a zip stands that list() drains into the list at L -/
structure ZSt (St1 St2 : Nat → Heap → Prop) (z TI TO i1 i2 L : Addr) (i : Nat) (h : Heap) : Prop where
  ti : IsTupOf2 h TI (.ref i1) (.ref i2)
  s1 : St1 i h
  s2 : St2 i h
  at_ : (IsZip h z TI TO .none ∧ ∃ a b, IsTupOf2 h TO a b) ∨ ∃ T f oT, IsZipHeld h z TI TO T f ∧ h.get? T = some oT ∧ T ≠ z ∧ T ≠ i1 ∧ T ≠ i2 ∧ T ≠ L
theorem zs_item {L : Addr} {Q : Option Value → Shared → Prop} (S : ZipSep2 z TI TO i1 i2 fp1 fp2) (D1 : Draws P w A.in1 i1 fp1 n1 P1 St1) (D2 : Draws P w A.in1 i2 fp2 n2 P2 St2) (Z : ZSt St1 St2 z TI TO i1 i2 L i s.heap) (hL : L < s.heap.objs.size) (l1 : i < n1) (l2 : i < n2)
    (hQ : ∀ x1 x2 h' tk, P1 i x1 → P2 i x2 → ZSt St1 St2 z TI TO i1 i2 L (i + 1) h' → IsTupOf2 h' s.heap.objs.size x1 x2 → h'.objs.size = s.heap.objs.size + 1 →
      (∀ c o, c ≠ z → c ≠ TO → c ≠ i1 → c ≠ i2 → s.heap.get? c = some o → h'.get? c = some o) → Q (some (.ref s.heap.objs.size)) { s with heap := h', toks := tk }) : wpAny (model P w) A (pyNext (.ref z)) Q E s := by
  have lt : ∀ {b : Addr} {o : Obj}, s.heap.get? b = some o → s.heap.objs.size ≠ b := fun e => Nat.ne_of_gt (Heap.lt_size e)
  obtain ⟨o1, e1⟩ := D1.live _ _ Z.s1
  obtain ⟨o2, e2⟩ := D2.live _ _ Z.s2
  rcases Z.at_ with ⟨hz, a, b, hTO⟩ | ⟨T, f, oT, hz, hT, n0, n1', n2', n3⟩
  · have hTy : s.TypeIs (.ref z) "zip" := ⟨_, hz, rfl⟩
    unfold pyNext
    refine wpAny_bind (wpAny_attempt (wpAny_callSpecial?_slot (name := Str.ofString "__next__") hTy F.slot_zip_next (wpAny_call_entry F.slot_zip_next hTy F.entry_zip_next
      (zipD2_next_item S D1 D2 hz Z.ti hTO Z.s1 Z.s2 l1 l2 fun x1 x2 h' tk q1 q2 b1 b2 b3 b4 b5 b6 b7 => wpAny_pure (hQ x1 x2 h' tk q1 q2 ⟨b7 _ _ S.TIz S.TITO S.TIi1 S.TIi2 Z.ti, b3, b4, .inr ⟨_, false, _, b1, b5, lt hz, lt e1, lt e2, Nat.ne_of_gt hL⟩⟩ b5 b6 b7)) (F.args_zip_next_1 _))))
  · have hTy : s.TypeIs (.ref z) "zip" := ⟨_, hz, rfl⟩
    unfold pyNext
    refine wpAny_bind (wpAny_attempt (wpAny_callSpecial?_slot (name := Str.ofString "__next__") hTy F.slot_zip_next (wpAny_call_entry F.slot_zip_next hTy F.entry_zip_next
      (zh_item S D1 D2 hz hT Z.ti Z.s1 Z.s2 l1 l2 fun x1 x2 h' tk q1 q2 b1 b3 b4 b5 b6 b7 => wpAny_pure (hQ x1 x2 h' tk q1 q2 ⟨b7 _ _ S.TIz S.TIi1 S.TIi2 Z.ti, b3, b4, .inr ⟨T, true, oT, b1, b7 _ _ n0 n1' n2' hT, n0, n1', n2', n3⟩⟩ b5 b6 fun c o c0 _ c1 c2 e => b7 c o c0 c1 c2 e)) (F.args_zip_next_1 _))))
theorem zs_end {L : Addr} {Q : Option Value → Shared → Prop} (S : ZipSep2 z TI TO i1 i2 fp1 fp2) (D1 : Draws P w A.in1 i1 fp1 n1 P1 St1) (D2 : Draws P w A.in1 i2 fp2 n2 P2 St2) (Z : ZSt St1 St2 z TI TO i1 i2 L i s.heap) (l1 : i ≤ n1) (l2 : i ≤ n2) (he : i = n1 ∨ i = n2)
    (hQ : ∀ h' tk, (∀ c o, c ≠ z → c ≠ TO → c ≠ i1 → c ≠ i2 → s.heap.get? c = some o → h'.get? c = some o) → Q none { s with heap := h', toks := tk }) : wpAny (model P w) A (pyNext (.ref z)) Q E s := by
  rcases Z.at_ with ⟨hz, a, b, hTO⟩ | ⟨T, f, oT, hz, hT, n0, n1', n2', n3⟩
  · have hTy : s.TypeIs (.ref z) "zip" := ⟨_, hz, rfl⟩
    unfold pyNext
    refine wpAny_bind (wpAny_attempt (wpAny_callSpecial?_slot (name := Str.ofString "__next__") hTy F.slot_zip_next (wpAny_call_entry F.slot_zip_next hTy F.entry_zip_next
      (zipD2_next_end S D1 D2 hz Z.ti hTO Z.s1 Z.s2 l1 l2 he fun h' tk e k ⟨o, ho, hc⟩ => wpAny_bind (wpAny_isInstance (T := "StopIteration") (b := true) ⟨o, ho, hc⟩ isSubtype_stop (wpAny_pure (hQ h' tk k)))) (F.args_zip_next_1 _))))
  · have hTy : s.TypeIs (.ref z) "zip" := ⟨_, hz, rfl⟩
    unfold pyNext
    refine wpAny_bind (wpAny_attempt (wpAny_callSpecial?_slot (name := Str.ofString "__next__") hTy F.slot_zip_next (wpAny_call_entry F.slot_zip_next hTy F.entry_zip_next
      (zh_end S D1 D2 hz hT Z.ti Z.s1 Z.s2 l1 l2 he fun h' tk e k ⟨o, ho, hc⟩ => wpAny_bind (wpAny_isInstance (T := "StopIteration") (b := true) ⟨o, ho, hc⟩ isSubtype_stop (wpAny_pure (hQ h' tk fun c o c0 _ c1 c2 e => k c o c0 c1 c2 e)))) (F.args_zip_next_1 _))))
/-- the pairs drawn so far -/
structure Got (P1 P2 : Nat → Value → Prop) (lo : Addr) (h : Heap) (as : List Addr) : Prop where
  nd : as.Nodup
  at_ : ∀ (j : Nat) (a : Addr), as[j]? = some a → lo ≤ a ∧ ∃ x1 x2, P1 j x1 ∧ P2 j x2 ∧ IsTupOf2 h a x1 x2
theorem z_loop {L : Addr} {n : Nat} {R : Result → Shared → Prop} {res : Value} {h₁ : Heap} (S : ZipSep2 z TI TO i1 i2 fp1 fp2) (D1 : Draws P w A.in1.in1 i1 fp1 n1 P1 St1) (D2 : Draws P w A.in1.in1 i2 fp2 n2 P2 St2) (hn : n = min n1 n2) (hsz : n ≤ sizeLine) {lo : Addr}
    (a1 : L ∉ fp1) (a2 : L ∉ fp2) (a3 : L ≠ z) (a4 : L ≠ TI) (a5 : L ≠ TO) (b1 : z < lo) (b2 : TO < lo) (b3 : i1 < lo) (b4 : i2 < lo) (b5 : L < lo)
    (hR : ∀ h' tk acc c as, (∀ b o, b ≠ L → b ≠ z → b ≠ TO → b ≠ i1 → b ≠ i2 → h₁.get? b = some o → h'.get? b = some o) → h'.get? L = some { cls := .type "list", dict := none, data := .seq acc c, slots := #[] } → as.length = n → Got P1 P2 lo h' as →
      acc.toList = as.map Value.ref → R (.ok (.ret res)) { s with heap := h', toks := tk }) :
    ∀ (k i : Nat) (h : Heap) (tk c : Nat) (acc : Array Value) (as : List Addr), n - i = k → i ≤ n → ZSt St1 St2 z TI TO i1 i2 L i h → (∀ b o, b ≠ L → b ≠ z → b ≠ TO → b ≠ i1 → b ≠ i2 → h₁.get? b = some o → h.get? b = some o) → lo ≤ h.objs.size →
      h.get? L = some { cls := .type "list", dict := none, data := .seq acc c, slots := #[] } → acc.toList = as.map Value.ref → as.length = i → Got P1 P2 lo h as →
      codeAny (model P w) A (.builtin "list.extend.loop" ⟨[.ref L, .ref z, res], []⟩) R { s with heap := h, toks := tk } := by
  have Li1 : L ≠ i1 := fun e => a1 (e ▸ S.mem1)
  have Li2 : L ≠ i2 := fun e => a2 (e ▸ S.mem2)
  have lows : ∀ {a : Addr}, lo ≤ a → a ≠ z ∧ a ≠ TO ∧ a ≠ i1 ∧ a ≠ i2 ∧ a ≠ L := fun {a} h => ⟨Nat.ne_of_gt (Nat.lt_of_lt_of_le b1 h), Nat.ne_of_gt (Nat.lt_of_lt_of_le b2 h), Nat.ne_of_gt (Nat.lt_of_lt_of_le b3 h), Nat.ne_of_gt (Nat.lt_of_lt_of_le b4 h), Nat.ne_of_gt (Nat.lt_of_lt_of_le b5 h)⟩
  intro k
  induction k with
  | zero =>
    intro i h tk c acc as hk hi Z keep hlo hL hacc hal G
    refine codeAny_builtin PySem.F.entry_extend_loop (by
      rw [Around.under_plainId PySem.F.plain_extend_loop _]
      show wpAny (model P w) A.in1 (pyNext (.ref z) >>= _) _ _ _
      refine wpAny_bind (zs_end (s := { s with heap := h, toks := tk }) (A := A.in1) S D1 D2 Z (by omega) (by omega) (by omega) fun h' tk' k' => ?_)
      exact wpAny_pure (hR h' tk' acc c as (fun b o c1 c2 c3 c4 c5 e => k' b o c2 c3 c4 c5 (keep b o c1 c2 c3 c4 c5 e)) (k' L _ a3 a5 Li1 Li2 hL) (by omega) (Got.mk G.nd fun j a hj => by
        obtain ⟨g1, x1, x2, g2, g3, g4⟩ := G.at_ j a hj
        have q := lows g1
        exact ⟨g1, x1, x2, g2, g3, k' _ _ q.1 q.2.1 q.2.2.1 q.2.2.2.1 g4⟩) hacc))
  | succ k ih =>
    intro i h tk c acc as hk hi Z keep hlo hL hacc hal G
    have as_ : acc.size = i := by rw [← Array.length_toList, hacc, List.length_map, hal]
    refine codeAny_builtin PySem.F.entry_extend_loop (by
      rw [Around.under_plainId PySem.F.plain_extend_loop _]
      show wpAny (model P w) A.in1 (pyNext (.ref z) >>= _) _ _ _
      refine wpAny_bind (zs_item (s := { s with heap := h, toks := tk }) (A := A.in1) S D1 D2 Z (Heap.lt_size hL) (by omega) (by omega) fun x1 x2 h' tk' q1 q2 Z' ht hz k' => ?_)
      dsimp only at ht hz k' ⊢
      have hL' := k' L _ a3 a5 Li1 Li2 hL
      have up : ∀ b o, b ≠ L → h'.get? b = some o → (h'.update L (Obj.mapSeq (·.push (Value.ref h.objs.size)))).get? b = some o := fun b o hb e => Eq.trans (Heap.get?_update_other _ _ (Ne.symm hb)) e
      have nL : h.objs.size ≠ L := Nat.ne_of_gt (Heap.lt_size hL)
      show wpAny (model P w) A.in1 (updateSeq L (·.push (Value.ref h.objs.size)) >>= _) _ _ _
      refine wpAny_bind (wpAny_updateSeq hL' rfl (wpAny_pure (And.intro (plainId_quiet PySem.F.plain_extend_loop _) (ih (i + 1) _ tk' _ (acc.push (Value.ref h.objs.size)) (as ++ [h.objs.size]) (by omega) (by omega) ?_ ?_ ?_ (Heap.get?_update_self _ hL' rfl) (by rw [Array.toList_push, hacc, List.map_append]; rfl) (by rw [List.length_append, hal]; rfl) ?_))) (by rw [as_]; omega) (by show (acc.push (Value.ref h.objs.size)).size ≤ sizeLine + 1; rw [Array.size_push, as_]; omega))
      · refine ⟨up _ _ (Ne.symm a4) Z'.ti, D1.frame _ _ _ Z'.s1 fun b hb o e => up b o (fun q => a1 (q ▸ hb)) e, D2.frame _ _ _ Z'.s2 fun b hb o e => up b o (fun q => a2 (q ▸ hb)) e, ?_⟩
        rcases Z'.at_ with ⟨g1, a, b, g2⟩ | ⟨T, f, oT, g1, g2, m1, m2, m3, m4⟩
        · exact .inl ⟨up _ _ (Ne.symm a3) g1, a, b, up _ _ (Ne.symm a5) g2⟩
        · exact .inr ⟨T, f, oT, up _ _ (Ne.symm a3) g1, up _ _ m4 g2, m1, m2, m3, m4⟩
      · exact fun b o c1 c2 c3 c4 c5 e => up b o c1 (k' b o c2 c3 c4 c5 (keep b o c1 c2 c3 c4 c5 e))
      · have hm : (h'.update L (Obj.mapSeq (·.push (Value.ref h.objs.size)))).objs.size = h'.objs.size := by simp [Heap.update]
        rw [hm, hz]; exact Nat.le_succ_of_le hlo
      · refine ⟨List.nodup_append.mpr ⟨G.nd, by simp, fun a ha b hb => ?_⟩, ?_⟩
        · rw [List.mem_singleton.mp hb]
          obtain ⟨j, hj⟩ := List.mem_iff_getElem?.mp ha
          obtain ⟨_, _, _, _, _, g4⟩ := G.at_ j a hj
          exact Nat.ne_of_lt (Heap.lt_size g4)
        intro j a hj
        by_cases hlt : j < as.length
        · rw [List.getElem?_append_left hlt] at hj
          obtain ⟨g1, x1, x2, g2, g3, g4⟩ := G.at_ j a hj
          have q := lows g1
          exact ⟨g1, x1, x2, g2, g3, up _ _ q.2.2.2.2 (k' _ _ q.1 q.2.1 q.2.2.1 q.2.2.2.1 g4)⟩
        · rw [List.getElem?_append_right (by omega)] at hj
          have h0 : j - as.length = 0 := by
            have := (List.getElem?_eq_some_iff.mp hj).1
            simpa using this
          rw [h0] at hj
          have hj : h.objs.size = a := by simpa using hj
          subst hj
          have : j = i := by omega
          subst this
          exact ⟨hlo, x1, x2, q1, q2, up _ _ nL ht⟩)
/-- the state of the two iterators in a heap in which b is written, b being none of theirs -/
theorem ZSt.upd_ {L : Addr} {h h' : Heap} (S : ZipSep2 z TI TO i1 i2 fp1 fp2) (D1 : Draws P w A i1 fp1 n1 P1 St1) (D2 : Draws P w A i2 fp2 n2 P2 St2) (Z : ZSt St1 St2 z TI TO i1 i2 L i h) (a1 : L ∉ fp1) (a2 : L ∉ fp2) (a3 : L ≠ z) (a4 : L ≠ TI) (a5 : L ≠ TO)
    (up : ∀ b o, b ≠ L → h.get? b = some o → h'.get? b = some o) : ZSt St1 St2 z TI TO i1 i2 L i h' := by
  refine ⟨up _ _ (Ne.symm a4) Z.ti, D1.frame _ _ _ Z.s1 fun b hb o e => up b o (fun q => a1 (q ▸ hb)) e, D2.frame _ _ _ Z.s2 fun b hb o e => up b o (fun q => a2 (q ▸ hb)) e, ?_⟩
  rcases Z.at_ with ⟨g1, a, b, g2⟩ | ⟨T, f, oT, g1, g2, m1, m2, m3, m4⟩
  · exact .inl ⟨up _ _ (Ne.symm a3) g1, a, b, up _ _ (Ne.symm a5) g2⟩
  · exact .inr ⟨T, f, oT, up _ _ (Ne.symm a3) g1, up _ _ m4 g2, m1, m2, m3, m4⟩
theorem zip_no_len : typeLookup (.type "zip") "__len__" = pure none := by rw [typeLookup_type, builtinLookup_eq_fast]; kernel_rfl
theorem zip_no_hint : typeLookup (.type "zip") "__length_hint__" = pure none := by rw [typeLookup_type, builtinLookup_eq_fast]; kernel_rfl
theorem z_extend {L : Addr} {n : Nat} {R : Result → Shared → Prop} {res : Value} {c₀ : Nat} (S : ZipSep2 z TI TO i1 i2 fp1 fp2) (D1 : Draws P w A.in1.in1 i1 fp1 n1 P1 St1) (D2 : Draws P w A.in1.in1 i2 fp2 n2 P2 St2) (hn : n = min n1 n2) (hsz : n ≤ sizeLine)
    (a1 : L ∉ fp1) (a2 : L ∉ fp2) (a3 : L ≠ z) (a4 : L ≠ TI) (a5 : L ≠ TO) (hL : s.heap.get? L = some { cls := .type "list", data := .seq #[] c₀ }) (hz : IsZip s.heap z TI TO .none) (Z : ZSt St1 St2 z TI TO i1 i2 L 0 s.heap) (hTO : TO < s.heap.objs.size)
    (hR : ∀ h' tk acc c as, (∀ b o, b ≠ L → b ≠ z → b ≠ TO → b ≠ i1 → b ≠ i2 → s.heap.get? b = some o → h'.get? b = some o) → h'.get? L = some { cls := .type "list", dict := none, data := .seq acc c, slots := #[] } → as.length = n → Got P1 P2 s.heap.objs.size h' as →
      acc.toList = as.map Value.ref → R (.ok (.ret res)) { s with heap := h', toks := tk }) :
    wpAny (model P w) A.in1 (Builtin.List.listExtendWith (.ref L) (.ref z) res) (fun fin s' => match fin with | .done f => R (.ok f) s' | .again c' => c'.quiet = true ∧ codeAny (model P w) A c' R s') (fun e s' => R (.error e) s') s := by
  have hT : s.TypeIs (.ref z) "zip" := ⟨_, hz, rfl⟩
  obtain ⟨o1, e1⟩ := D1.live _ _ Z.s1
  obtain ⟨o2, e2⟩ := D2.live _ _ Z.s2
  unfold Builtin.List.listExtendWith
  refine wpAny_bind (wpAny_typeOf hT ?_)
  have q1 : Builtin.List.listSameRef (.ref L) (.ref z) = false := by simp [Builtin.List.listSameRef, a3]
  simp only [q1, show (Value.type "zip" == Value.type "list") = false by decide, show (Value.type "zip" == Value.type "tuple") = false by decide, Bool.or_false, Bool.false_eq_true, if_false]
  refine wpAny_bind (wpAny_pyIter_zip hz (wpAny_bind (wpAny_holding ?_)))
  unfold Builtin.List.listLengthHint
  refine wpAny_bind (wpAny_specialOf hT zip_no_len ?_)
  show wpAny _ A.in1 (specialOf (Value.ref z) (Str.ofString "__length_hint__") >>= fun _ => _) _ _ _
  refine wpAny_bind (wpAny_specialOf hT zip_no_hint (wpAny_pure ?_))
  show wpAny _ A.in1 (rule "list.extend.makes-room" >>= fun _ => Builtin.List.listTouch (Value.ref L) >>= fun _ => again (.builtin "list.extend.loop" ⟨[Value.ref L, Value.ref z, res], []⟩)) _ _ _
  refine wpAny_bind (wpAny_rule (wpAny_bind ?_))
  show wpAny _ A.in1 (updateSeq L (·.push Value.none) >>= fun _ => updateSeq L (·.pop)) _ _ _
  refine wpAny_bind (wpAny_updateSeq hL rfl ?_)
  have k2 := Heap.get?_update_self (Obj.mapSeq (·.push Value.none)) hL rfl
  refine wpAny_updateSeq (hz := by seq_fits) k2 rfl ?_
  have k3 := Heap.get?_update_self (Obj.mapSeq (·.pop)) k2 rfl
  have up : ∀ b o, b ≠ L → s.heap.get? b = some o → ((s.heap.update L (Obj.mapSeq (·.push Value.none))).update L (Obj.mapSeq (·.pop))).get? b = some o := fun b o hb e =>
    Eq.trans (Heap.get?_update_other _ _ (Ne.symm hb)) (Eq.trans (Heap.get?_update_other _ _ (Ne.symm hb)) e)
  refine wpAny_pure (And.intro (plainId_quiet PySem.F.plain_extend_loop _) ?_)
  refine z_loop (s := s) (lo := s.heap.objs.size) (h₁ := s.heap) S D1 D2 hn hsz a1 a2 a3 a4 a5 (Heap.lt_size hz) hTO (Heap.lt_size e1) (Heap.lt_size e2) (Heap.lt_size hL) hR n 0 _ _ _ _ [] (Nat.sub_zero _) (Nat.zero_le _) (Z.upd_ S D1 D2 a1 a2 a3 a4 a5 up) (fun b o c1 _ _ _ _ e => up b o c1 e) ?_ k3 rfl rfl ⟨List.nodup_nil, fun j a hj => by simp at hj⟩
  rw [Heap.size_update, Heap.size_update]; exact Nat.le_refl _
theorem z_init {L : Addr} {n : Nat} {R : Result → Shared → Prop} (S : ZipSep2 z TI TO i1 i2 fp1 fp2) (D1 : Draws P w A.in1.in1 i1 fp1 n1 P1 St1) (D2 : Draws P w A.in1.in1 i2 fp2 n2 P2 St2) (hn : n = min n1 n2) (hsz : n ≤ sizeLine)
    (a1 : L ∉ fp1) (a2 : L ∉ fp2) (a3 : L ≠ z) (a4 : L ≠ TI) (a5 : L ≠ TO) (hL : s.heap.get? L = some { cls := .type "list", data := .seq #[] }) (hz : IsZip s.heap z TI TO .none) (Z : ZSt St1 St2 z TI TO i1 i2 L 0 s.heap) (hTO : TO < s.heap.objs.size)
    (hR : ∀ h' tk acc c as, (∀ b o, b ≠ L → b ≠ z → b ≠ TO → b ≠ i1 → b ≠ i2 → s.heap.get? b = some o → h'.get? b = some o) → h'.get? L = some { cls := .type "list", dict := none, data := .seq acc c, slots := #[] } → as.length = n → Got P1 P2 s.heap.objs.size h' as →
      acc.toList = as.map Value.ref → R (.ok (.ret .none)) { s with heap := h', toks := tk }) :
    wpAny (model P w) A.in1 (Builtin.«list.__init__» ⟨[.ref L, .ref z], []⟩) (fun fin s' => match fin with | .done f => R (.ok f) s' | .again c' => c'.quiet = true ∧ codeAny (model P w) A c' R s') (fun e s' => R (.error e) s') s := by
  show wpAny _ A.in1 (do let was ← Builtin.List.listItems (.ref L); Builtin.List.listUpdate (.ref L) (fun _ => #[]); letGo was.toList.reverse; Builtin.List.listExtendWith (.ref L) (.ref z) .none) _ _ s
  refine wpAny_bind ?_
  unfold Builtin.List.listItems; refine wpAny_bind (wpAny_seqItems hL rfl (wpAny_pure ?_))
  show wpAny (model P w) A.in1 (updateSeq L (fun _ => #[]) >>= fun _ => letGo (#[] : Array Value).toList.reverse >>= fun _ => Builtin.List.listExtendWith (Value.ref L) (Value.ref z) Value.none) _ _ s
  have k2 := Heap.get?_update_self (Obj.mapSeq (fun _ => (#[] : Array Value))) hL rfl
  have up : ∀ b o, b ≠ L → s.heap.get? b = some o → (s.heap.update L (Obj.mapSeq (fun _ => (#[] : Array Value)))).get? b = some o := fun b o hb e => Eq.trans (Heap.get?_update_other _ _ (Ne.symm hb)) e
  refine wpAny_bind (wpAny_updateSeq hL rfl (wpAny_bind (wpAny_letGo ?_)))
  have sz : (s.heap.update L (Obj.mapSeq (fun _ => (#[] : Array Value)))).objs.size = s.heap.objs.size := Heap.size_update ..
  refine z_extend (s := { s with heap := s.heap.update L (Obj.mapSeq (fun _ => (#[] : Array Value))) }) S D1 D2 hn hsz a1 a2 a3 a4 a5 k2 (up _ _ (Ne.symm a3) hz) (Z.upd_ S D1 D2 a1 a2 a3 a4 a5 up) (by rw [sz]; exact hTO) fun h' tk acc c as c1 c2 c3 c4 c5 => ?_
  have c4 : Got P1 P2 s.heap.objs.size h' as := by rw [← sz]; exact c4
  exact hR h' tk acc c as (fun b o d1 d2 d3 d4 d5 e => c1 b o d1 d2 d3 d4 d5 (up b o d1 e)) c2 c3 c4 c5
theorem call_zip_list {n : Nat} {Q : Value → Shared → Prop} (S : ZipSep2 z TI TO i1 i2 fp1 fp2) (D1 : Draws P w A.in1.in1.in1 i1 fp1 n1 P1 St1) (D2 : Draws P w A.in1.in1.in1 i2 fp2 n2 P2 St2) (hn : n = min n1 n2) (hsz : n ≤ sizeLine)
    (f1 : ∀ b ∈ fp1, b < s.heap.objs.size) (f2 : ∀ b ∈ fp2, b < s.heap.objs.size) (hz : IsZip s.heap z TI TO .none) (hTI : IsTupOf2 s.heap TI (.ref i1) (.ref i2)) {a b : Value} (hTO : IsTupOf2 s.heap TO a b) (t1 : St1 0 s.heap) (t2 : St2 0 s.heap)
    (hQ : ∀ h' tk acc c as, (∀ b o, b ≠ z → b ≠ TO → b ≠ i1 → b ≠ i2 → s.heap.get? b = some o → h'.get? b = some o) → h'.get? s.heap.objs.size = some { cls := .type "list", dict := none, data := .seq acc c, slots := #[] } → as.length = n → Got P1 P2 (s.heap.objs.size + 1) h' as →
      acc.toList = as.map Value.ref → Q (.ref s.heap.objs.size) { s with heap := h', toks := tk }) : wpAny (model P w) A (call (.type "list") [.ref z]) Q E s := by
  have up : ∀ b o, s.heap.get? b = some o → (s.heap.push { cls := .type "list", data := .seq #[] }).get? b = some o := fun b o e => Heap.get?_push_of_some _ e
  have ne : ∀ {b : Addr} {o : Obj}, s.heap.get? b = some o → s.heap.objs.size ≠ b := fun e => Nat.ne_of_gt (Heap.lt_size e)
  refine callType_codes (Q₁ := fun obj s₁ => obj = .ref s.heap.objs.size ∧ s₁ = { s with heap := s.heap.push { cls := .type "list", data := .seq #[] } }) F.called_list (F.typeCall_list_1 _) F.entry_list_init (code_list_new _ (And.intro rfl rfl)) fun obj s₁ h₁ => ?_
  obtain ⟨rfl, rfl⟩ := h₁
  have hL : (s.heap.push { cls := .type "list", data := .seq #[] }).get? s.heap.objs.size = some { cls := .type "list", data := .seq #[] } := Heap.get?_push_size _ rfl
  refine ⟨⟨_, hL, rfl⟩, F.args_list_init_2 _ _, ?_⟩
  have sz : (s.heap.push { cls := .type "list", data := .seq #[] }).objs.size = s.heap.objs.size + 1 := Heap.size_push ..
  refine z_init (A := A.in1) (s := { s with heap := s.heap.push { cls := .type "list", data := .seq #[] } }) S D1 D2 hn hsz (fun m => Nat.lt_irrefl _ (f1 _ m)) (fun m => Nat.lt_irrefl _ (f2 _ m)) (ne hz) (ne hTI) (ne hTO) hL (up _ _ hz)
    ⟨up _ _ hTI, D1.frame _ _ _ t1 fun b _ o e => up b o e, D2.frame _ _ _ t2 fun b _ o e => up b o e, .inl ⟨up _ _ hz, a, b, up _ _ hTO⟩⟩ (by rw [sz]; exact Nat.lt_succ_of_lt (Heap.lt_size hTO)) fun h' tk acc c as c1 c2 c3 c4 c5 => ?_
  have c4 : Got P1 P2 (s.heap.objs.size + 1) h' as := by rw [← sz]; exact c4
  exact ⟨rfl, hQ h' tk acc c as (fun b o d2 d3 d4 d5 e => c1 b o (Ne.symm (ne e)) d2 d3 d4 d5 (up b o e)) c2 c3 c4 c5⟩
end
variable [Tb]
/-! ### the same of data -/
section
variable {X : Cx} {W : WX} {e e2 : Expr} {fa : DArg} {p p2 pos pos2 : Pos} {k : Nat}
/-- the tuples of a list are known from now on -/
theorem tups_in {n : Nat} : ∀ (as : List Addr) (us vs : List V) (ds es : List D) {pins : List (Addr × Obj)} {σ : L2.St} {s : Shared} {F H : Hp}, Inv X pins σ H s → (∀ b o, F b = some o → H b = some o) → as.Nodup → (∀ a ∈ as, H a = none ∧ a ≠ X.env.locals ∧ X.s_0.heap.objs.size ≤ a ∧ (∀ x c, X.env.cells.lookup x = some c → c ≠ a) ∧ ∀ p ∈ X.pn ++ pins, p.1 ≠ a) → as.length = us.length → as.length = vs.length →
    (∀ (j : Nat) (a : Addr), as[j]? = some a → ∃ u1 u2 x1 x2, us[j]? = some u1 ∧ vs[j]? = some u2 ∧ RelV u1 x1 ∧ RelV u2 x2 ∧ IsTupOf2 s.heap a x1 x2) → Reps X.K X.mg n F us ds → Reps X.K X.mg n F vs es →
    ∃ F' H', Inv X pins σ H' s ∧ Step n F H n F' H' ∧ Reps X.K X.mg n F' (as.map V.ref) (pairsD ds es) ∧ ∀ b, b ∉ as → H b = none → H' b = none
  | [], us, vs, ds, es, pins, σ, s, F, H, I, sub, _, _, l1, l2, _, r1, r2 => by
    cases us with
    | cons _ _ => simp at l1
    | nil =>
      cases r1
      exact ⟨F, H, I, Step.refl sub, by simp [pairsD]; exact .nil, fun b _ h => h⟩
  | a :: as, us, vs, ds, es, pins, σ, s, F, H, I, sub, nd, fp, l1, l2, hg, r1, r2 => by
    cases us with
    | nil => simp at l1
    | cons u us =>
      cases vs with
      | nil => simp at l2
      | cons v vs =>
        cases r1 with
        | @cons _ _ d ds ru r1 =>
        cases r2 with
        | @cons _ _ e es rv r2 =>
        obtain ⟨u1, u2, x1, x2, h1, h2, ru1, ru2, ht⟩ := hg 0 a rfl
        simp at h1 h2; subst h1; subst h2
        obtain ⟨na, nl, n0, nc, np⟩ := fp a (by simp)
        have hex : X.s_0.heap.get? a = none := Heap.get?_none_of_le n0
        rw [List.nodup_cons] at nd
        have ok : ObjOk X.prog X.w (upd H a (.tup [u, v])) s.heap a (.tup [u, v]) := ⟨by show 2 ≤ sizeLine; decide, [x1, x2], .cons ru1 (.cons ru2 .nil), ⟨_, ht, rfl, 0, rfl⟩⟩
        have I1 := inv_track I hex na nl nc np ok
        have st := Step.new (n := n) (o := .tup [u, v]) sub na
        obtain ⟨F2, H2, I2, st2, r, k2⟩ := tups_in as us vs ds es I1 st.sub nd.2 (fun b hb => by
          obtain ⟨z0, z⟩ := fp b (by simp [hb])
          exact ⟨by rw [upd_ne (fun (q : b = a) => nd.1 (by rw [← q]; exact hb))]; exact z0, z⟩) (by simpa using l1) (by simpa using l2) (fun j b hb => by
          obtain ⟨w1, w2, y1, y2, q1, q2, q3⟩ := hg (j + 1) b (by simpa using hb)
          exact ⟨w1, w2, y1, y2, by simpa using q1, by simpa using q2, q3⟩) (r1.grow st.gr) (r2.grow st.gr)
        refine ⟨F2, H2, I2, st.trans st2, ?_, fun b hb h0 => k2 b (fun q => hb (by simp [q])) (by rw [upd_ne (fun q => hb (by simp [q]))]; exact h0)⟩
        have ra : Rep X.K X.mg n F2 (.ref a) (.tup [d, e]) := Rep.grow st2.gr (Step.newTup sub na (.cons ru (.one rv)))
        exact .cons ra r
theorem zip_min {α β : Type} : ∀ (a : List α) (b : List β), List.zip a b = List.zip (a.take (min a.length b.length)) (b.take (min a.length b.length))
  | [], b => by simp
  | a :: as, [] => by simp
  | a :: as, b :: bs => by
    rw [List.length_cons, List.length_cons, Nat.succ_min_succ, List.take_succ_cons, List.take_succ_cons, List.zip_cons_cons, List.zip_cons_cons, ← zip_min as bs]
theorem vals_refs : ∀ as : List Addr, Vals (as.map V.ref) (as.map Value.ref)
  | [] => .nil
  | a :: as => .cons rfl (vals_refs as)
def dListZ (fa : DArg) : DExp := fun env => bnd (fa env) fun ds => match ds with
  | [d, d'] => bnd (itemsOf d) fun l => bnd (itemsOf d') fun l' => need (min l.length l'.length ≤ sizeLine) (ret (.lst (pairsD l l')))
  | _ => stuck
theorem de_listZ (kx : Kx X W k) (hl : X.mg "list" = none) (hm : X.mg "zip" = none) (ha : DA X W [e, e2] fa) (hg : Gl X "list" := by rfl) (hg2 : Gl X "zip" := by rfl)
    (hs : starEach [e, e2] X.env = (false, eval e X.env) :: starEach [e2] X.env := by rfl) (hpl : (backTo pos2 (starEach [e2] X.env)).any (·.1) = false := by rfl)
    (nb : starEach [.Call (.Name "zip" p2) [e, e2] [] pos2] X.env = (false, eval (.Call (.Name "zip" p2) [e, e2] [] pos2) X.env) :: starEach [] X.env := by rfl) :
    DE X W (.Call (.Name "list" p) [.Call (.Name "zip" p2) [e, e2] [] pos2] [] pos) (dListZ fa) := by
  refine ⟨⟨fun pins s σ H Q I h => ?_⟩⟩
  obtain ⟨B, n, F, env, S, h⟩ := h
  have hA : tA X W fa σ H (fun vs H1 => ∃ v v', vs = [v, v'] ∧ ∀ u u', RelV v u → RelV v' u' → ∃ (o o' : So) (xs ys : List V) (n1 : Nat) (F1 : Hp) (l l' : List D), o.val = u ∧ o'.val = u' ∧ o.has H1 xs ∧ o'.has H1 ys ∧ Reps X.K X.mg n1 F1 xs l ∧ Reps X.K X.mg n1 F1 ys l' ∧ Step n F H n1 F1 H1 ∧ (∀ b o, F1 b = some o → H1 b = some o) ∧
      min l.length l'.length ≤ sizeLine ∧ okE X n F H Q (.lst (pairsD l l')) n1) := tA.go S h fun ds n1 vs F1 H1 q t r S1 => by
    match ds, r, q with
    | [d, d'], .cons r1 (.cons r2 .nil), q =>
      refine ⟨_, _, rfl, fun u u' ru ru' => ?_⟩
      obtain ⟨o, xs, es, e1, _, h2, rs, q2⟩ := so_of S1.sub r1 ru q
      obtain ⟨o', ys, es', e1', _, h2', rs', q2'⟩ := so_of S1.sub r2 ru' q2
      exact ⟨o, o', xs, ys, n1, F1, es, es', e1, e1', h2, h2', rs, rs', t, S1.sub, q2'.1, q2'.2⟩
  have hd : ∀ (B : Around), B.handled = X.A.handled → B.handled = none := fun B e => by rw [e]; exact I.ok.hd kx.calm
  refine Call_ (ld_blt I hg hl PyProof.Rows.boot_list (PyProof.Rows.callWith_type1 (args_cons (Call_ (ld_blt I hg2 hm PyProof.Rows.boot_zip (PyProof.Rows.callWith_type1 (thn (ha.pa.run pos2 pins s σ H _ I hA) fun us s1 ⟨vs, H1, I1, r1, q1⟩ => ?_) hs hpl))) nb) nb))
  obtain ⟨v, v', rfl, q1⟩ := q1
  cases r1 with
  | cons rv rn => cases rn with
    | cons rv' rn =>
      cases rn
      obtain ⟨o, o', xs, ys, n1, F1, l, l', rfl, rfl, hx, hy, rx, ry, st, sub1, hmin, hq0⟩ := q1 _ _ rv rv'
      obtain ⟨Hq, Bg, hq⟩ := so_begins o I1 hx
      obtain ⟨Hq', Bg', hq'⟩ := so_begins o' I1 hy
      refine zip_begins2 Bg Bg' hq hq' fun h' hz hTI hTO e1 e2 hsz hk => args_nil ?_
      have I2 : Inv X pins σ H1 { s1 with heap := h' } := I1.kept (t' := s1.toks) hk
      have ap : Apart (s1.heap.objs.size + 4) (s1.heap.objs.size + 2) (s1.heap.objs.size + 3) s1.heap.objs.size (s1.heap.objs.size + 1) := by
        generalize s1.heap.objs.size = m
        have hm : ∀ i j : Nat, i ≠ j → (m : Nat) + i ≠ m + j := fun i j h z => h (by omega)
        exact ⟨hm 2 4 (by decide), hm 3 4 (by decide), hm 2 3 (by decide), hm 2 0 (by decide), hm 2 1 (by decide), hm 4 0 (by decide), hm 4 1 (by decide), hm 3 0 (by decide), hm 3 1 (by decide), hm 0 1 (by decide)⟩
      have fr : ∀ b, s1.heap.objs.size ≤ b → H1 b = none := fun b hb => I1.hok.fresh hb
      have fz := fr _ (Nat.le_add_right s1.heap.objs.size 4)
      have fo := fr _ (Nat.le_add_right s1.heap.objs.size 3)
      have f1 := fr _ (Nat.le_refl s1.heap.objs.size)
      have f2 := fr _ (Nat.le_add_right s1.heap.objs.size 1)
      obtain ⟨St1, D1, hS1, _⟩ := So.draws I2 X.A.in1.in1.in1 (hd _ rfl) o s1.heap.objs.size f1 hx
      obtain ⟨St2, D2, hS2, _⟩ := So.draws I2 X.A.in1.in1.in1 (hd _ rfl) o' (s1.heap.objs.size + 1) f2 hy
      have sep : ZipSep2 (s1.heap.objs.size + 4) (s1.heap.objs.size + 2) (s1.heap.objs.size + 3) s1.heap.objs.size (s1.heap.objs.size + 1) (o.fp s1.heap.objs.size) (o'.fp (s1.heap.objs.size + 1)) :=
        ⟨ap.a1, ap.a2, ap.a3, ap.a4, so_in _ _, so_out hx fz ap.a6, so_out hx fo ap.a8, ap.a5, so_in _ _, so_out hy fz ap.a7, so_out hy fo ap.a9, so_out hy f1 ap.a10, so_out hx f2 (Ne.symm ap.a10)⟩
      have fpl : ∀ (oo : So) (it : Addr) (zs : List V), oo.has H1 zs → it < h'.objs.size → ∀ b ∈ oo.fp it, b < h'.objs.size := fun oo it zs hh hi b hb => by
        cases oo with
        | l a =>
          simp only [So.fp, List.mem_cons, List.not_mem_nil, or_false] at hb
          rcases hb with rfl | rfl
          · exact hi
          · obtain ⟨_, its, nn, r, e⟩ := I2.hok _ _ hh
            exact Heap.lt_size e
        | t a =>
          simp only [So.fp, List.mem_cons, List.not_mem_nil, or_false] at hb
          rcases hb with rfl | rfl
          · exact hi
          · obtain ⟨_, its, r, ob, e, _⟩ := I2.hok _ _ hh
            exact Heap.lt_size e
        | s x t => simp only [So.fp, List.mem_cons, List.not_mem_nil, or_false] at hb; subst hb; exact hi
      have lx := rx.length
      have ly := ry.length
      refine call_zip_list (A := X.A) (s := { s1 with heap := h' }) (n := min xs.length ys.length) sep D1 D2 rfl (by rw [lx, ly]; exact hmin) (fpl o _ _ hx (Heap.lt_size e1)) (fpl o' _ _ hy (Heap.lt_size e2)) hz hTI hTO (hS1 0 (So.begin e1)) (hS2 0 (So.begin e2)) fun h2 tk acc c as c1 c2 c3 c4 c5 => ?_
      have lz : s1.heap.objs.size ≤ h'.objs.size := Nat.le_of_lt (Nat.lt_of_le_of_lt (Nat.le_refl _) (Heap.lt_size e1))
      have I3 : Inv X pins σ H1 { s1 with heap := h2, toks := tk } := Inv.turnedL (s := { s1 with heap := h' }) (ch := [s1.heap.objs.size + 4, s1.heap.objs.size + 3, s1.heap.objs.size, s1.heap.objs.size + 1]) (t' := tk) I2 (fun b o hb e => by
        simp only [List.mem_cons, List.not_mem_nil, or_false, not_or] at hb
        exact c1 b o hb.1 hb.2.1 hb.2.2.1 hb.2.2.2 e) fun b hb => by
          have le : s1.heap.objs.size ≤ b := by
            simp only [List.mem_cons, List.not_mem_nil, or_false] at hb
            rcases hb with z | z | z | z
            · rw [z]; exact Nat.le_add_right _ _
            · rw [z]; exact Nat.le_add_right _ _
            · rw [z]; exact Nat.le_refl _
            · rw [z]; exact Nat.le_add_right _ _
          exact I1.fpOk le (fr b le)
      have fp3 : ∀ b, h'.objs.size ≤ b → FpOk X pins H1 b := fun b hb => I1.fpOk (Nat.le_trans lz hb) (fr b (Nat.le_trans lz hb))
      -- the parts as long as the shorter one
      have px : as.length = (xs.take as.length).length := by rw [List.length_take, c3]; omega
      have py : as.length = (ys.take as.length).length := by rw [List.length_take, c3]; omega
      have hin : ∀ a ∈ as, h'.objs.size + 1 ≤ a := fun a ha => by
        obtain ⟨j, hj⟩ := List.mem_iff_getElem?.mp ha
        exact (c4.at_ j a hj).1
      obtain ⟨F2, H2, I4, st2, rr, kk⟩ := tups_in (n := n1) as (xs.take as.length) (ys.take as.length) (l.take as.length) (l'.take as.length) I3 sub1 c4.nd (fun a ha => by
          obtain ⟨z1, z2, _, z3, z4, z5⟩ := fp3 a (Nat.le_of_succ_le (hin a ha))
          have z3 : X.s_0.heap.objs.size ≤ a := Nat.le_trans I1.sz (Nat.le_trans lz (Nat.le_of_succ_le (hin a ha)))
          exact ⟨z1, z2, z3, z4, z5⟩) px py (fun j a hj => by
          obtain ⟨_, x1, x2, ⟨w1, g1, g2⟩, ⟨w2, g3, g4⟩, g5⟩ := c4.at_ j a hj
          have hjl : j < as.length := (List.getElem?_eq_some_iff.mp hj).1
          exact ⟨w1, w2, x1, x2, by rw [List.getElem?_take]; simpa [hjl] using g1, by rw [List.getElem?_take]; simpa [hjl] using g3, g2, g4, g5⟩) (rx.take _) (ry.take _)
      -- the list
      have hLas : h'.objs.size ∉ as := fun q => Nat.lt_irrefl _ (hin _ q)
      have nL : H2 h'.objs.size = none := kk _ hLas (fp3 _ (Nat.le_refl _)).1
      obtain ⟨_, y2, _, _, y4, y5⟩ := fp3 _ (Nat.le_refl _)
      have n0 : X.s_0.heap.get? h'.objs.size = none := Heap.get?_none_of_le (Nat.le_trans I1.sz lz)
      have ok : ObjOk X.prog X.w (upd H2 h'.objs.size (.lst (as.map V.ref))) h2 h'.objs.size (.lst (as.map V.ref)) := ⟨by rw [List.length_map, c3]; rw [lx, ly]; exact hmin, acc.toList, c, by rw [c5]; exact vals_refs as, by rw [Array.toArray_toList]; exact c2⟩
      have I5 := inv_track I4 n0 nL y2 y4 y5 ok
      have st3 := Step.new (n := n1) (o := .lst (as.map V.ref)) st2.sub nL
      refine ⟨.ref h'.objs.size, _, I5, rfl, ?_⟩
      refine hq0 (.ref h'.objs.size) _ _ ((st.trans st2).trans st3) ?_
      have e : pairsD l l' = pairsD (l.take as.length) (l'.take as.length) := by
        unfold pairsD
        rw [c3, lx, ly, ← zip_min]
      rw [e]
      exact Step.newLst st2.sub nL rr
end
end DL

end
section
set_option Elab.async false
set_option linter.all false
set_option maxRecDepth 100000
set_option maxHeartbeats 4000000
/-! DExt: x.extend(e), min of data, text.count(text). -/
namespace DL
open PySem PySem.Spec PyProof.Rows L2
variable [Tb]
section
variable {X : Cx} {W : WX} {k : Nat} {e : Expr} {f : DExp} {pos : Pos}
/-- x.extend(e), x one's own -/
def sExt (i : Nat) (f : DExp) : DStm := fun env => match env[i]? with
  | some (.own ds) => bnd (f env) fun d => match d with
    | .lst l => need (ds.length + l.length ≤ sizeLine) (ret (.nx (env.set i (.own (ds ++ l)))))
    | _ => stuck
  | _ => stuck
@[simp] theorem x_ext (i : Nat) (f : DExp) (env : En) : sExt i f env = match env[i]? with
  | some (.own ds) => bnd (f env) fun d => match d with
    | .lst l => need (ds.length + l.length ≤ sizeLine) (ret (.nx (env.set i (.own (ds ++ l)))))
    | _ => stuck
  | _ => stuck := rfl
theorem ds_ext (i : Nat) {x : Str} {px apos cpos : Pos} (kx : Kx X W k) (he : DE X W e f) (hN : X.N[i]? = some x := by rfl) (hv : Vis X.env.scope x := by first | exact .inl rfl | exact .inr (.inl rfl) | exact .inr (.inr rfl)) (hd : (x == ("__debug__" : Str)) = false := by decide) (hcd : (x == ("__classdict__" : Str)) = false := by decide)
    (hbase : attributeBase (.Name x px) "extend" X.env (eval (.Name x px) X.env) = eval (.Name x px) X.env := by rfl)
    (hfew : ((backTo cpos (starEach [e] X.env)).all (fun x => !x.1) && (backToKw cpos (keywordEach [] X.env)).all (fun x => x.1.isSome) && decide ([e].length + ([] : List Keyword).length + (if ([] : List Keyword).isEmpty then 0 else 1) < 30)) = true := by rfl)
    (hline : (apos.endLine == cpos.line) = true := by rfl) (hs : starEach [e] X.env = (false, eval e X.env) :: starEach [] X.env := by rfl) (hplain : (backTo cpos (starEach [] X.env)).any (·.1) = false := by rfl) (hsw : swapsWith (.Call (.Attribute (.Name x px) "extend" apos) [e] [] cpos) none pos.line X.env = pure false := by rfl) :
    DS X W (.Expr (.Call (.Attribute (.Name x px) "extend" apos) [e] [] cpos) pos) (sExt i f) := by
  refine ⟨PS.imp (ps_expr (pe_bm PySem.F.plainAttrs_list PySem.F.slot_list_extend PySem.F.type_list_extend mt_extend (pe_var hN hv hd hcd) (pa_cons he.pe pa_nil hs) hbase hfew hline hs hplain) hsw) fun D σ H ⟨B, n, F, env, S, h⟩ => ?_⟩
  unfold sExt at h
  split at h
  · rename_i ds e1
    obtain ⟨a, xs, hσ, hF, hB, hH, r⟩ := S.slot i _ e1
    refine ⟨.ref a, hσ, .inl ⟨rfl, xs, SqL.of hH⟩, ?_⟩
    have key : tD X W f σ H fun v H1 => rExtend (.ref a) [v] H1 fun _ H2 => D.nx σ H2 := by
      refine tD.go S ((f env).mono (fun _ _ z => z) (fun x m z => exS_of S z) h) fun d n1 v F1 H1 p t r1 S1 => ?_
      cases d with
      | lst l =>
        obtain ⟨hz, p⟩ := p
        obtain ⟨h1, f1⟩ := t.keep a _ hH hF
        cases r1 with
        | @lst b zs _ eb rz =>
          refine ⟨a, b, xs, zs, rfl, rfl, h1, S1.sub _ _ eb, by rw [r.length, rz.length]; exact hz, ?_⟩
          exact p _ F1 _ t.gr (S1.upOwn e1 hσ ((r.grow t.gr).append rz))
      | _ => exact p.elim
    exact key
  · exact h.elim
/-! ### text.count(text) -/
def gCount (a : Str) : D → M D
  | .str b => ret (.int (Txt.count a b))
  | _ => stuck
theorem de_count {o : Expr} {fo fe : DExp} {apos : Pos} (ho : DE X W o fo) (he : DE X W e fe) (hs : starEach [e] X.env = [(false, eval e X.env)] := by rfl) (hbase : attributeBase o "count" X.env (eval o X.env) = eval o X.env := by rfl) (hline : (apos.endLine == pos.line) = true := by rfl) :
    DE X W (.Call (.Attribute o "count" apos) [e] [] pos) (dM1 gCount fo fe) := by
  refine ⟨PE.imp (pe_m1 PySem.F.slot_str_count PySem.F.type_str_count mt_count ho.pe he.pe hs hbase hline) fun σ H Q ⟨B, n, F, env, S, h⟩ => tD.go S h fun d n1 v F1 H1 p1 t1 r1 S1 => ?_⟩
  cases d with
  | str a =>
    cases r1
    refine ⟨⟨a, rfl⟩, ?_⟩
    refine tD.go S1 ((fe env).mono (fun _ _ z => z) (fun _ _ z => exE.step t1 z) p1) fun d2 n2 v2 F2 H2 p2 t2 r2 S2 => ?_
    cases d2 with
    | str b =>
      cases r2
      exact ⟨a, b, rfl, rfl, p2 _ F2 H2 (t1.trans t2) (.int _)⟩
    | _ => exact p2.elim
  | _ => exact p1.elim
/-! ### min of a list of data -/
def ltDt (d e : D) : Bool := match toPy d, toPy e with
  | some p, some q => PySem.W.dataLt p q
  | _, _ => false
def bestD (x : D) (l : List D) : D := l.foldl (fun a y => if ltDt y a then y else a) x
def gMinD : List D → M D
  | [.lst (x :: xs)] => match toPys (x :: xs) with
    | some ps => need (PySem.W.AlikeAll ps ∧ PyData.depthAll ps ≤ 60) (ret (bestD x xs))
    | none => stuck
  | _ => stuck
theorem toPy_inj : ∀ {d e : D} {p : PyData}, toPy d = some p → toPy e = some p → d = e := by
  have key : ∀ n : Nat, (∀ d e p, sizeOf d < n → toPy d = some p → toPy e = some p → d = e) := by
    intro n
    induction n with
    | zero => intro d e p h; omega
    | succ n ih =>
      have seq : ∀ (l r : List D) (ps : List PyData), sizeOf l < n + 1 → toPys l = some ps → toPys r = some ps → l = r := by
        intro l
        induction l with
        | nil =>
          intro r ps _ h1 h2
          simp only [toPys, Option.some.injEq] at h1; subst h1
          cases r with
          | nil => rfl
          | cons b r =>
            simp only [toPys] at h2
            cases e1 : toPy b <;> cases e2 : toPys r <;> simp [e1, e2] at h2
        | cons a l il =>
          intro r ps hs h1 h2
          simp only [toPys] at h1
          cases e1 : toPy a <;> cases e2 : toPys l <;> simp [e1, e2] at h1
          subst h1
          cases r with
          | nil => simp [toPys] at h2
          | cons b r =>
            simp only [toPys] at h2
            cases e3 : toPy b <;> cases e4 : toPys r <;> simp [e3, e4] at h2
            obtain ⟨rfl, rfl⟩ := h2
            simp at hs
            rw [ih a b _ (by omega) e1 e3, il r _ (by omega) e2 e4]
      intro d e p hs h1 h2
      cases d with
      | tup l =>
        simp only [toPy, Option.map_eq_some_iff] at h1
        obtain ⟨ps, h1, rfl⟩ := h1
        cases e <;> simp [toPy] at h2
        simp at hs
        rw [seq _ _ _ (by omega) h1 h2]
      | lst l =>
        simp only [toPy, Option.map_eq_some_iff] at h1
        obtain ⟨ps, h1, rfl⟩ := h1
        cases e <;> simp [toPy] at h2
        simp at hs
        rw [seq _ _ _ (by omega) h1 h2]
      | _ => simp [toPy] at h1 <;> subst h1 <;> cases e <;> simp_all [toPy]
  exact fun {d e p} h1 h2 => key (sizeOf d + 1) d e p (Nat.lt_succ_self _) h1 h2
theorem ltDt_py {d e : D} {p q : PyData} (h1 : toPy d = some p) (h2 : toPy e = some q) : ltDt d e = PySem.W.dataLt p q := by unfold ltDt; rw [h1, h2]
theorem best_py : ∀ {l : List D} {ps : List PyData} {x : D} {p : PyData}, toPys l = some ps → toPy x = some p → toPy (bestD x l) = some (PySem.W.minD p ps)
  | [], ps, x, p, h, hx => by
    simp only [toPys, Option.some.injEq] at h; subst h; exact hx
  | d :: l, ps, x, p, h, hx => by
    simp only [toPys] at h
    cases e1 : toPy d <;> cases e2 : toPys l <;> simp [e1, e2] at h
    subst h
    rename_i q qs
    show toPy (bestD (if ltDt d x then d else x) l) = some (PySem.W.minD (if PySem.W.dataLt q p then q else p) qs)
    refine best_py e2 ?_
    rw [ltDt_py e1 hx]
    cases PySem.W.dataLt q p
    · exact hx
    · exact e1
theorem best_mem : ∀ (l : List D) (x : D), bestD x l ∈ x :: l
  | [], x => by simp [bestD]
  | d :: l, x => by
    have h := best_mem l (if ltDt d x then d else x)
    show bestD (if ltDt d x then d else x) l ∈ x :: d :: l
    rcases List.mem_cons.mp h with h | h
    · rw [h]; cases ltDt d x <;> simp
    · simp [h]
theorem toPys_at : ∀ {l : List D} {ps : List PyData} {i : Nat} {d : D}, toPys l = some ps → l[i]? = some d → ∃ p, ps[i]? = some p ∧ toPy d = some p
  | [], ps, i, d, _, hd => by simp at hd
  | a :: l, ps, i, d, h, hd => by
    simp only [toPys] at h
    cases e1 : toPy a <;> cases e2 : toPys l <;> simp [e1, e2] at h
    subst h
    cases i with
    | zero => simp at hd; subst hd; exact ⟨_, rfl, e1⟩
    | succ i => obtain ⟨p, h1, h2⟩ := toPys_at (i := i) e2 (by simpa using hd); exact ⟨p, by simpa using h1, h2⟩
def rMinD (X : Cx) : List V → Hp → VK → Prop := fun vs H Q => ∃ (a : Addr) (xs : List V) (p : PyData) (ps : List PyData), vs = [V.ref a] ∧ H a = some (.lst xs) ∧ DpAll X.K H xs (p :: ps) ∧ PySem.W.AlikeAll (p :: ps) ∧ PyData.depthAll (p :: ps) ≤ 60 ∧
  ∀ (i : Nat) (x : V), xs[i]? = some x → (p :: ps)[i]? = some (PySem.W.minD p ps) → Q x H
theorem cr_minD (hc : X.calm = true) (hu : X.A.units + 65 < cLine) : CallR X (.builtin "min") (rMinD X) := by
  intro pins s σ H vs us Q I r h
  obtain ⟨a, xs, p, ps, rfl, hs, dp, al, dep, q⟩ := h
  obtain ⟨_, its, n, rv, hl⟩ := I.hok a _ hs
  rw [Vals.ref1 r]
  obtain ⟨as, hr⟩ := Dp.readsAll I _ _ _ dp rv
  refine PySem.W.min_list_data (vs := its.toArray) (I.ok.hd hc) ⟨_, hl, rfl, n, rfl⟩ (by simpa using hr) al (by omega) fun i v h' tk bs hv rd hk => ?_
  have hi : i < xs.length := by
    have := (Array.getElem?_eq_some_iff.mp hv).1
    rw [List.size_toArray, ← rv.length] at this; exact this
  obtain ⟨u, hu', ru⟩ := rv.get (i := i) (x := xs[i]) (by simp [hi])
  rw [List.getElem?_toArray] at hv
  rw [hu'] at hv; cases hv
  obtain ⟨bs2, r2, hlt, _, _⟩ := PySem.W.readsAll_at hr i _ hu'
  have e := (Reads.unique rd _ _ (Reads.keeps hk r2)).1
  refine ⟨xs[i], H, I.kept hk, ru, q i xs[i] (by simp [hi]) ?_⟩
  rw [e, List.getD_eq_getElem?_getD, List.getElem?_eq_getElem hlt]; rfl
theorem gd_minD : CallD X (rMinD X) gMinD := fun n F H xs ds Q E s r q => by
  unfold gMinD at q
  split at q
  · rename_i x l
    cases e : toPys (x :: l) with
    | none => rw [e] at q; exact q.elim
    | some ps =>
      rw [e] at q
      obtain ⟨⟨h1, h2⟩, q⟩ := q
      have e' := e
      simp only [toPys] at e
      cases e1 : toPy x <;> cases e2 : toPys l <;> simp [e1, e2] at e
      subst e
      cases r with
      | cons rd rn =>
        cases rn
        cases rd with
        | lst ea rr =>
          refine ⟨_, _, _, _, rfl, s _ _ ea, dps_of s rr e', h1, h2, fun i v hv hp => ?_⟩
          obtain ⟨d, hd, rd⟩ := rr.getV hv
          obtain ⟨p', hp', hd'⟩ := toPys_at e' hd
          rw [hp] at hp'; cases hp'
          have := toPy_inj (best_py e2 e1) hd'
          rw [this] at q
          exact q v F H (Step.refl s) rd
  · exact q.elim
end
end DL

end
section
set_option Elab.async false
set_option linter.all false
set_option maxRecDepth 100000
set_option maxHeartbeats 4000000
/-! DRec: a def that calls itself: its meaning by fuel. -/
namespace DL
open PySem PySem.Spec PyProof.Rows L2
variable [Tb]
/-- a def of which nothing is told -/
theorem Df.glo0 {P : Program} {w : World} {K : PySem.W.Frag} {mg : Str → Option Value} {ground : Heap} {x : Str} {ps : List Str} {st : Stmt} {k m : Nat} (D : Df K mg x ps st) (hm : ps.length = m) : Glo P w K mg ground k x m (fun _ => stuck) := by
  obtain ⟨f, fd, h1, F, hB⟩ := D.ex
  subst hm
  refine ⟨f, fd, ps, rfl, h1, F.kp, hB, ⟨fun vs H Q E h => h.1, fun R callers t H g us vs Q E _ _ _ _ _ q => ?_⟩⟩
  obtain ⟨_, n, F', ds, _, _, _, z⟩ := q
  exact z.elim
/-- by fuel -/
def recF (step : Fn → Fn) : Nat → Fn
  | 0 => fun _ => stuck
  | n + 1 => step (recF step n)
theorem Glo.recF {P : Program} {w : World} {K : PySem.W.Frag} {mg : Str → Option Value} {ground : Heap} {x : Str} {m l : Nat} {step : Fn → Fn} (h0 : ∀ k, Glo P w K mg ground k x m (fun _ => stuck)) (h : ∀ (k : Nat) (φ : Fn), l ≤ k → Glo P w K mg ground k x m φ → Glo P w K mg ground (k + 1) x m (step φ)) :
    ∀ n, Glo P w K mg ground (l + n) x m (DL.recF step n)
  | 0 => h0 _
  | n + 1 => h (l + n) _ (Nat.le_add_right _ _) (Glo.recF h0 h n)
end DL

end
section
set_option Elab.async false
set_option linter.all false
set_option maxRecDepth 100000
set_option maxHeartbeats 4000000
/-! DSortS: sorted of texts, any number of them. -/
namespace DL
open PySem PySem.Spec PyProof.Rows L2
variable [Tb]
def ltS (a b : Str) : Bool := ltCps a.cps.toList b.cps.toList
theorem ltS_iff {a b : Str} : ltS a b = true ↔ a.cps.toList < b.cps.toList := by unfold ltS; rw [ltCps_eq, decide_eq_true_eq]
def leS (a b : Str) : Prop := ltS b a = false
theorem leS_iff {a b : Str} : leS a b ↔ a.cps.toList ≤ b.cps.toList := by
  unfold leS
  rw [← Bool.not_eq_true, ltS_iff]
  exact List.not_lt
theorem leS_trans {a b c : Str} (h : leS a b) (k : leS b c) : leS a c := leS_iff.mpr (List.le_trans (leS_iff.mp h) (leS_iff.mp k))
theorem leS_anti {a b : Str} (h : leS a b) (k : leS b a) : a = b := by
  have e : a.cps.toList = b.cps.toList := List.le_antisymm (leS_iff.mp h) (leS_iff.mp k)
  cases a with | mk x => cases b with | mk y => exact congrArg _ (by simpa using congrArg List.toArray e)
theorem leS_total (a b : Str) : leS a b ∨ leS b a := by
  rcases List.le_total a.cps.toList b.cps.toList with h | h
  · exact .inl (leS_iff.mpr h)
  · exact .inr (leS_iff.mpr h)
theorem rising_pw : ∀ (l : List Str) (p : Str), risingS p l = true → (∀ x ∈ l, leS p x) ∧ l.Pairwise leS
  | [], p, _ => ⟨by simp, .nil⟩
  | x :: r, p, h => by
    unfold risingS at h
    rw [Bool.and_eq_true] at h
    obtain ⟨h1, h2⟩ := h
    have h1 : leS p x := by simpa [leS, ltS] using h1
    obtain ⟨h3, h4⟩ := rising_pw r x h2
    refine ⟨fun y hy => ?_, List.pairwise_cons.mpr ⟨h3, h4⟩⟩
    rcases List.mem_cons.mp hy with rfl | hy
    · exact h1
    · exact leS_trans h1 (h3 y hy)
theorem sortedS_pw {l : List Str} (h : sortedS l = true) : l.Pairwise leS := by
  cases l with
  | nil => exact .nil
  | cons x r => obtain ⟨h1, h2⟩ := rising_pw r x h; exact List.pairwise_cons.mpr ⟨h1, h2⟩
theorem pw_unique : ∀ {a b : List Str}, a.Perm b → a.Pairwise leS → b.Pairwise leS → a = b
  | [], b, p, _, _ => by simpa using p.symm.eq_nil.symm
  | x :: xs, [], p, _, _ => by simpa using p.eq_nil
  | x :: xs, y :: ys, p, ha, hb => by
    obtain ⟨h1, h2⟩ := List.pairwise_cons.mp ha
    obtain ⟨h3, h4⟩ := List.pairwise_cons.mp hb
    have e : x = y := by
      have m1 : x ∈ y :: ys := p.mem_iff.mp (by simp)
      have m2 : y ∈ x :: xs := p.mem_iff.mpr (by simp)
      rcases List.mem_cons.mp m1 with e | m1
      · exact e
      · rcases List.mem_cons.mp m2 with e | m2
        · exact e.symm
        · exact leS_anti (h1 _ m2) (h3 _ m1)
    subst e
    rw [pw_unique p.cons_inv h2 h4]
def insS (x : Str) : List Str → List Str
  | [] => [x]
  | y :: ys => if ltS y x then y :: insS x ys else x :: y :: ys
def sortS (l : List Str) : List Str := l.foldr insS []
theorem insS_perm (x : Str) : ∀ l, (insS x l).Perm (x :: l)
  | [] => .refl _
  | y :: ys => by
    unfold insS
    split
    · exact ((insS_perm x ys).cons y).trans (.swap x y ys)
    · exact .refl _
theorem sortS_perm : ∀ l, (sortS l).Perm l
  | [] => .refl _
  | x :: xs => (insS_perm x _).trans ((sortS_perm xs).cons x)
theorem insS_le (x : Str) : ∀ l : List Str, l.Pairwise leS → (insS x l).Pairwise leS
  | [], _ => by simp [insS]
  | y :: ys, h => by
    unfold insS
    obtain ⟨h1, h2⟩ := List.pairwise_cons.mp h
    split
    · rename_i hxy
      refine List.pairwise_cons.mpr ⟨fun z hz => ?_, insS_le x ys h2⟩
      rcases List.mem_cons.mp ((insS_perm x ys).mem_iff.mp hz) with rfl | hz
      · rcases leS_total y z with q | q
        · exact q
        · exact absurd (show ltS y z = false from q) (by rw [hxy]; simp)
      · exact h1 z hz
    · rename_i hxy
      have q : leS x y := by unfold leS; simpa using hxy
      refine List.pairwise_cons.mpr ⟨fun z hz => ?_, h⟩
      rcases List.mem_cons.mp hz with rfl | hz
      · exact q
      · exact leS_trans q (h1 z hz)
theorem sortS_le : ∀ l : List Str, (sortS l).Pairwise leS
  | [] => .nil
  | x :: xs => insS_le x _ (sortS_le xs)
theorem sortS_of {l ys : List Str} (p : ys.Perm l) (h : ys.Pairwise leS) : sortS l = ys := pw_unique ((sortS_perm l).trans p.symm) (sortS_le l) h
/-! the rule -/
def rSortedSA (K : PySem.W.Frag) : List V → Hp → VK → Prop := fun vs H Q => ∃ (a : Addr) (xs : List Str), vs = [V.ref a] ∧ SqL K H a (xs.map V.str) ∧
  ∀ (ys : List Str) (p : Addr), ys.Perm xs → sortedS ys = true → H p = none → Q (.ref p) (upd H p (.lst (ys.map V.str)))
section
variable {X : Cx}
theorem cr_sortedSA : CallR X (.builtin "sorted") (rSortedSA X.K) := by
  intro pins s σ H vs us Q I r h
  obtain ⟨a, xs, rfl, hs, q⟩ := h
  obtain ⟨its, rv, hl, hz⟩ := I.list hs
  rw [Vals.ref1 r]
  have hlen0 := rv.length
  rw [List.length_map] at hlen0 hz
  refine PyProof.Rows.sorted_strsAny hl.isList rv.strs (by rw [← hlen0]; exact hz) fun out ys h1 h2 h3 => ?_
  obtain ⟨ep, he'⟩ := PyProof.Rows.sortedAll_at s.heap its out
  have hlen : (ys.map V.str).length ≤ sizeLine := by rw [List.length_map, h2.length_eq]; exact hz
  exact ⟨.ref _, upd H (s.heap.objs.size + 1) (.lst (ys.map V.str)), I.laid (t' := s.toks) (fun _ _ => PyProof.Rows.sortedAll_old) (Nat.le_succ _) ⟨hlen, out.toList, ep, vals_of_strs h1, he'⟩, rfl, q ys _ h2 h3 (I.hok.fresh (Nat.le_succ _))⟩
def strsD : List D → Option (List Str)
  | [] => some []
  | .str x :: r => (strsD r).map (x :: ·)
  | _ => none
@[simp] theorem strsD_map : ∀ l : List Str, strsD (l.map D.str) = some l
  | [] => rfl
  | x :: l => by rw [List.map_cons]; unfold strsD; rw [strsD_map l]; rfl
theorem strsD_of : ∀ {l : List D} {ss : List Str}, strsD l = some ss → l = ss.map D.str
  | [], ss, h => by simp only [strsD, Option.some.injEq] at h; subst h; rfl
  | .str x :: l, ss, h => by
    unfold strsD at h
    cases e2 : strsD l with
    | none => rw [e2] at h; cases h
    | some ts => rw [e2] at h; cases h; rw [strsD_of e2]; rfl
  | .non :: _, _, h => by cases h
  | .bl _ :: _, _, h => by cases h
  | .int _ :: _, _, h => by cases h
  | .tup _ :: _, _, h => by cases h
  | .lst _ :: _, _, h => by cases h
  | .dct _ :: _, _, h => by cases h
  | .scr _ :: _, _, h => by cases h
  | .rng _ _ :: _, _, h => by cases h
  | .exc _ _ :: _, _, h => by cases h
  | .fn _ :: _, _, h => by cases h
  | .ty _ :: _, _, h => by cases h
  | .thk _ _ _ _ _ :: _, _, h => by cases h
  | .obj _ _ _ :: _, _, h => by cases h
def gSortS : List D → M D
  | [.lst l] => match strsD l with
    | some ss => ret (.lst ((sortS ss).map D.str))
    | none => stuck
  | _ => stuck
theorem g_sortS (ss : List Str) : gSortS [.lst (ss.map D.str)] = ret (.lst ((sortS ss).map D.str)) := by
  show (match strsD (ss.map D.str) with | some ss => ret (D.lst ((sortS ss).map D.str)) | none => stuck) = _
  rw [strsD_map]
theorem gd_sortS : CallD X (rSortedSA X.K) gSortS := fun n F H xs ds Q E s r q => by
  unfold gSortS at q
  split at q
  · split at q
    · rename_i h
      cases r with
      | cons rd rn =>
        cases rn
        cases rd with
        | lst e r =>
          rw [strsD_of h] at r
          refine ⟨_, _, rfl, by rw [← r.ofStrs]; exact SqL.of (s _ _ e), fun ys p hp hs hf => ?_⟩
          have e1 : ys = sortS _ := (sortS_of hp (sortedS_pw hs)).symm
          rw [e1]
          exact q _ _ _ (Step.new s hf) (Step.newLst s hf Reps.strs)
    · exact q.elim
  · exact q.elim
end
end DL

end
section
set_option Elab.async false
set_option linter.all false
set_option maxRecDepth 100000
set_option maxHeartbeats 4000000
/-! DPeek: a look into a list of one's own that hands back a list of scalars. -/
namespace DL
open PySem PySem.Spec PyProof.Rows L2
variable [Tb]
section
variable {K : PySem.W.Frag} {mg : Str → Option Value} {B : Bs} {n n' : Nat} {F F' H : Hp} {σ : L2.St} {env : En}
theorem SL.frz2 (s : SL K mg B n F H σ env) (i : Nat) : ∃ F', SL K mg B n F' H σ (DL.frz i env) ∧ Grow n F n F' ∧ (∀ b o, F b = some o → F' b = some o) ∧ ∀ b, F b = none → F' b ≠ none → ∃ ds xs, env[i]? = some (.own ds) ∧ H b = some (.lst xs) ∧ F' b = some (.lst xs) ∧ Reps K mg n F' xs ds := by
  obtain ⟨F1, S1, g1, hs1, hn1⟩ := s.frz i
  unfold DL.frz at *
  split
  · rename_i ds he
    obtain ⟨a, xs, hσ, hF, hB, hH, r⟩ := s.slot i _ he
    have hl : i < env.length := (List.getElem?_eq_some_iff.mp he).1
    refine ⟨upd F a (.lst xs), ⟨s.st.freeze hB hF hH, by rw [List.length_set]; exact s.len, fun j x h => ?_, fun j k x y hx hy ox oy hjk => ?_, s.tb⟩, Grow.new hF, fun b o e => by rw [upd_ne (ne_of_none e hF)]; exact e, fun b h1 h2 => ?_⟩
    · by_cases hj : i = j
      · subst hj
        rw [List.getElem?_set_self hl] at h
        cases h
        exact ⟨_, hσ, .lst upd_same (r.grow (Grow.new hF))⟩
      · rw [List.getElem?_set_ne hj] at h
        have q := s.slot j x h
        cases x with
        | emp => trivial
        | val d => obtain ⟨u, e, ru⟩ := q; exact ⟨u, e, ru.grow (Grow.new hF)⟩
        | own l =>
          obtain ⟨b, zs, e, f, bb, h1, r1⟩ := q
          refine ⟨b, zs, e, ?_, bb, h1, r1.grow (Grow.new hF)⟩
          rw [upd_ne fun z => s.ne i j _ _ he h trivial trivial hj (by rw [hσ, e, z])]
          exact f
    · have own_at : ∀ {j : Nat} {x : Slot}, (env.set i (.val (.lst ds)))[j]? = some x → IsOwn x → env[j]? = some x := fun {j x} h o => by
        by_cases hj : i = j
        · subst hj
          rw [List.getElem?_set_self hl] at h
          cases h; exact o.elim
        · rw [List.getElem?_set_ne hj] at h; exact h
      exact s.ne j k x y (own_at hx ox) (own_at hy oy) ox oy hjk
    · by_cases hb : b = a
      · subst hb; exact ⟨ds, xs, he, hH, upd_same, r.grow (Grow.new hF)⟩
      · rw [upd_ne hb] at h2; exact absurd h1 h2
  · exact ⟨F, s, Grow.refl _ _, fun _ _ e => e, fun b h1 h2 => absurd h1 h2⟩
theorem rep_sc {v : V} {d d' : D} (h : scalarD d = true) (r : Rep K mg n F v d) (r' : Rep K mg n' F' v d') : scalarD d' = true := by
  cases d with
  | non => cases r; cases r'; rfl
  | bl b => cases r; cases r'; rfl
  | int i => cases r; cases r'; rfl
  | str x => cases r; cases r'; rfl
  | ty t => cases r; cases r'; rfl
  | _ => cases h
theorem reps_sc : ∀ {vs : List V} {l l' : List D}, l.all scalarD = true → Reps K mg n F vs l → Reps K mg n' F' vs l' → l'.all scalarD = true
  | _, _, _, _, .nil, .nil => rfl
  | _, _, _, h, .cons a b, .cons a' b' => by
    rw [List.all_cons, Bool.and_eq_true] at *
    exact ⟨rep_sc h.1 a a', reps_sc h.2 b b'⟩
theorem reps_keep : ∀ {vs : List V} {l : List D}, l.all scalarD = true → Reps K mg n F vs l → Reps K mg n' F' vs l
  | _, _, _, .nil => .nil
  | _, _, h, .cons a b => by
    rw [List.all_cons, Bool.and_eq_true] at h
    exact .cons (rep_scalar' h.1 a) (reps_keep h.2 b)
where
  rep_scalar' {v : V} {d : D} (h : scalarD d = true) (r : Rep K mg n F v d) : Rep K mg n' F' v d := by
    cases d with
    | non => cases r; exact .non
    | bl b => cases r; exact .bl b
    | int i => cases r; exact .int i
    | str x => cases r; exact .str x
    | ty t => cases r; exact .ty t
    | _ => cases h
end
def peekOk (s : Option Slot) (d : D) : Bool := match s, d with
  | some (.own ds), .lst l => l.all scalarD && !(ds.all scalarD)
  | _, d => scalarD d
def dPeekL (i : Nat) (f : DExp) : DExp := fun env => bnd (noex (f (DL.frz i env))) fun d => need (peekOk env[i]? d = true) (ret d)
@[simp] theorem x_peekL (i : Nat) (f : DExp) (env : En) : dPeekL i f env = bnd (noex (f (match env[i]? with | some (.own ds) => env.set i (.val (.lst ds)) | _ => env))) fun d => need (peekOk env[i]? d = true) (ret d) := rfl
section
variable {X : Cx} {W : WX} {e : Expr} {f : DExp}
theorem de_peekL (i : Nat) (h : DE X W e f) : DE X W e (dPeekL i f) := by
  refine ⟨PE.imp h.pe fun σ H Q ⟨B, n, F, env, S, h⟩ => ?_⟩
  obtain ⟨F', S', _, hs, hn⟩ := S.frz2 i
  refine ⟨B, n, F', _, S', (f _).mono (fun d m p v F1 H1 t r => ?_) (fun _ _ z => z.elim) h⟩
  obtain ⟨hd, p⟩ := p
  refine p v _ H1 (step_back hs (fun b h1 h2 => let ⟨_, xs, _, a, b, _⟩ := hn b h1 h2; ⟨xs, a, b⟩) t) ?_
  by_cases q : scalarD d = true
  · exact rep_scalar q r
  · unfold peekOk at hd
    split at hd
    · rename_i ds l he
      rw [Bool.and_eq_true] at hd
      obtain ⟨h1, h2⟩ := hd
      cases r with
      | lst e1 rl =>
        rename_i p' ys
        refine .lst (xs := ys) ?_ (reps_keep h1 rl)
        by_cases hb : (F p').isSome ∨ (F' p').isNone
        · exact (if_pos hb).trans e1
        · exfalso
          have g1 : F p' = none := by
            cases e : F p' with
            | none => rfl
            | some u => exact absurd (.inl (by rw [e]; rfl)) hb
          have g2 : F' p' ≠ none := fun e => hb (.inr (by rw [e]; rfl))
          obtain ⟨ds', xs, g3, _, g4, g5⟩ := hn p' g1 g2
          rw [he] at g3
          cases g3
          have g6 := t.gr.obj p' _ g4 not_rng_lst
          rw [e1] at g6
          cases g6
          rw [reps_sc h1 rl g5] at h2
          cases h2
    · exact absurd hd q
end
end DL

end
section
set_option Elab.async false
set_option linter.all false
set_option maxRecDepth 100000
set_option maxHeartbeats 4000000
/-! DIdx: list.index. -/
namespace DL
open PySem PySem.Spec PyProof.Rows L2
variable [Tb]
def isL : D → Bool
  | .lst _ => true
  | _ => false
/-- a method of a list -/
def dBmL (g : D → List D → M D) (fo : DExp) (fa : DArg) : DExp := fun env => bnd (fo env) fun d => need (isL d = true) (bnd (fa env) fun es => g d es)
@[simp] theorem x_bmL (g : D → List D → M D) (fo : DExp) (fa : DArg) (env : En) : dBmL g fo fa env = bnd (fo env) fun d => need (isL d = true) (bnd (fa env) fun es => g d es) := rfl
def ixOf (l : List D) (y : D) : Option Nat := l.findIdx? fun z => eqV (vOf z) (vOf y)
def gIndexL : D → List D → M D
  | .lst l, [y] => match ixOf l y with
    | some j => need (flatD y = true ∧ l.all flatD = true) (ret (.int (j : Nat)))
    | none => stuck
  | _, _ => stuck
section
variable {X : Cx} {W : WX} {e o : Expr} {es : List Expr} {fo fe : DExp} {fa : DArg} {pos : Pos}
theorem de_indexL {apos : Pos} (ho : DE X W o fo) (ha : DA X W (e :: es) fa) (hbase : attributeBase o "index" X.env (eval o X.env) = eval o X.env := by rfl)
    (hfew : ((backTo pos (starEach (e :: es) X.env)).all (fun x => !x.1) && (backToKw pos (keywordEach [] X.env)).all (fun x => x.1.isSome)
      && decide ((e :: es).length + ([] : List Keyword).length + (if ([] : List Keyword).isEmpty then 0 else 1) < 30)) = true := by rfl)
    (hline : (apos.endLine == pos.line) = true := by rfl) (hs : starEach (e :: es) X.env = (false, eval e X.env) :: starEach es X.env := by rfl) (hplain : (backTo pos (starEach es X.env)).any (·.1) = false := by rfl) :
    DE X W (.Call (.Attribute o "index" apos) (e :: es) [] pos) (dBmL gIndexL fo fa) := by
  refine ⟨PE.imp (pe_bm F.plainAttrs_list PySem.F.slot_list_index PySem.F.type_list_index mt_index ho.pe ha.pa hbase hfew hline hs hplain) fun σ H Q ⟨B, n, F, env, S, h⟩ => tD.go S h fun d n1 v F1 H1 p1 t1 r1 S1 => ?_⟩
  obtain ⟨hd, p1⟩ := p1
  cases d with
  | lst l =>
    cases r1 with
    | lst e1 rl =>
      rename_i a xs
      refine ⟨.inl ⟨rfl, xs, SqL.of (S1.sub _ _ e1)⟩, tA.go S1 ((fa env).mono (fun _ _ z => z) (fun _ _ z => exE.step t1 z) p1) fun ds n2 vs F2 H2 p2 t2 r2 S2 => ?_⟩
      cases r2 with
      | nil => exact p2.elim
      | cons ry rn =>
        rename_i y ys
        cases rn with
        | cons _ _ => exact p2.elim
        | nil =>
          unfold gIndexL at p2
          dsimp only at p2
          split at p2
          · rename_i j hj
            obtain ⟨⟨fy, fl⟩, p2⟩ := p2
            have e2 := t2.gr.obj _ _ e1 not_rng_lst
            have rl2 := rl.grow t2.gr
            obtain ⟨v1, v2⟩ := flat_vs fl rl2
            obtain ⟨w1, w2⟩ := flat_v fy ry
            unfold ixOf at hj
            rw [List.findIdx?_eq_some_iff_getElem] at hj
            obtain ⟨hlt, h3, h4⟩ := hj
            refine ⟨a, xs, _, j, vOf l[j], rfl, rfl, SqL.of (S2.sub _ _ e2), w2, v2, ?_, ?_, fun m z' hm hz => ?_, p2 _ F2 H2 (t1.trans t2) (.int _)⟩
            · rw [v1, List.getElem?_map, List.getElem?_eq_getElem hlt]; rfl
            · rw [w1]; exact h3
            · rw [v1, List.getElem?_map, List.getElem?_eq_getElem (by omega)] at hz
              cases hz
              rw [w1]
              have := h4 m hm
              simpa using this
          · exact p2.elim
  | _ => cases hd
end
end DL

end
section
set_option Elab.async false
set_option linter.all false
set_option maxRecDepth 100000
set_option maxHeartbeats 4000000
/-! DObj: instances of the program's own classes whose fields never change: made, read, their methods called. -/
namespace DL
open PySem PySem.Spec PyProof.Rows L2
variable [Tb]
/-- a field's name is no attribute of the class -/
structure FldG (K : PySem.W.Frag) (mg : Str → Option Value) (c f : Str) : Prop where
  ex : ∃ C : Addr, mg c = some (.ref C) ∧ Cls K C ∧ NoAttr K C f
structure MthG (P : Program) (w : World) (K : PySem.W.Frag) (mg : Str → Option Value) (ground : Heap) (k : Nat) (c m : Str) (n : Nat) (φ : Fn) : Prop where
  ex : ∃ (C f : Addr) (fd : FuncData) (ps : List Str), ps.length = n ∧ mg c = some (.ref C) ∧ Cls K C ∧ Meth K C m f ∧ Binds K fd ps [] ∧ FnG P w K mg ground k f fd ps (spD K mg n φ)
theorem MthG.mono {P : Program} {w : World} {K : PySem.W.Frag} {mg : Str → Option Value} {ground : Heap} {j k n : Nat} {c m : Str} {φ : Fn} (G : MthG P w K mg ground j c m n φ) (h : j ≤ k) : MthG P w K mg ground k c m n φ :=
  let ⟨C, f, fd, ps, h1, h2, h3, h4, h5, h6⟩ := G.ex
  ⟨C, f, fd, ps, h1, h2, h3, h4, h5, h6.mono h⟩
/-- what __init__ without arguments leaves -/
def spIni (C : Addr) (ks : List Str) (us : List V) : Sp := fun vs H Q _ => ∃ (x dx : Addr), vs = [.ref x] ∧ H x = some (.ins C dx []) ∧ ∀ H' : Hp, (∀ b, b ≠ x → H' b = H b) → H' x = some (.ins C dx (ks.zip us)) → Q .non H'
structure MakG (P : Program) (w : World) (K : PySem.W.Frag) (mg : Str → Option Value) (ground : Heap) (c : Str) (ks : List Str) (ds : List D) : Prop where
  ex : ∃ (C f : Addr) (fd : FuncData) (us : List V), mg c = some (.ref C) ∧ L2.Mk K C f ∧ Binds K fd ["self"] [] ∧ FnOk P w K mg ground CX0 1 f fd ["self"] (spIni C ks us) ∧ ks.length = ds.length ∧ ∀ n F, Reps K mg n F us ds
def dAt (cs : List Str) (f : Str) (fo : DExp) : DExp := fun env => bnd (fo env) fun d => match d with
  | .obj c ks ds => match (ks.zip ds).lookup f with
    | some v => need (c ∈ cs) (ret v)
    | none => stuck
  | _ => stuck
def dMth (tab : List (Str × Fn)) (m : Str) (n : Nat) (fo : DExp) (fa : DArg) : DExp := fun env => bnd (fo env) fun d => match d with
  | .obj c ks ds => match tab.lookup c with
    | some φ => need (m ∉ ks) (bnd (fa env) fun es => need (es.length + 1 = n) (φ (.obj c ks ds :: es)))
    | none => stuck
  | _ => stuck
def dNew (c : Str) (ks : List Str) (ds : List D) : DExp := fun _ => ret (.obj c ks ds)
@[simp] theorem x_at (cs : List Str) (f : Str) (fo : DExp) (env : En) : dAt cs f fo env = bnd (fo env) fun d => match d with
  | .obj c ks ds => match (ks.zip ds).lookup f with
    | some v => need (c ∈ cs) (ret v)
    | none => stuck
  | _ => stuck := rfl
@[simp] theorem x_mth (tab : List (Str × Fn)) (m : Str) (n : Nat) (fo : DExp) (fa : DArg) (env : En) : dMth tab m n fo fa env = bnd (fo env) fun d => match d with
  | .obj c ks ds => match tab.lookup c with
    | some φ => need (m ∉ ks) (bnd (fa env) fun es => need (es.length + 1 = n) (φ (.obj c ks ds :: es)))
    | none => stuck
  | _ => stuck := rfl
@[simp] theorem x_new (c : Str) (ks : List Str) (ds : List D) (env : En) : dNew c ks ds env = ret (.obj c ks ds) := rfl
theorem zip_look {K : PySem.W.Frag} {mg : Str → Option Value} {n : Nat} {F : Hp} {f : Str} : ∀ {ks : List Str} {vs : List V} {ds : List D} {d : D}, Reps K mg n F vs ds → (ks.zip ds).lookup f = some d → ∃ v, (ks.zip vs).lookup f = some v ∧ Rep K mg n F v d
  | [], _, _, _, _, h => by cases h
  | k :: ks, _, _, _, .nil, h => by cases h
  | k :: ks, _, _, d, .cons (v := v) (vs := vs) r rs, h => by
    rw [List.zip_cons_cons, List.lookup_cons] at h ⊢
    cases e : f == k with
    | true => rw [e] at h; cases h; exact ⟨v, rfl, r⟩
    | false => rw [e] at h; exact zip_look rs h
theorem look_mem {α : Type} {c : Str} {b : α} : ∀ {l : List (Str × α)}, l.lookup c = some b → (c, b) ∈ l
  | [], h => by cases h
  | (k, v) :: l, h => by
    rw [List.lookup_cons] at h
    cases e : c == k with
    | true =>
      rw [e] at h
      cases h
      rw [beq_iff_eq.mp e]
      exact List.mem_cons_self
    | false => rw [e] at h; exact List.mem_cons_of_mem _ (look_mem h)
theorem zip_none {α : Type} {f : Str} : ∀ {ks : List Str} {vs : List α}, f ∉ ks → (ks.zip vs).lookup f = none
  | [], _, _ => rfl
  | k :: ks, [], _ => rfl
  | k :: ks, v :: vs, h => by
    rw [List.zip_cons_cons, List.lookup_cons]
    have : (f == k) = false := beq_eq_false_iff_ne.mpr fun e => h (by simp [e])
    rw [this]
    exact zip_none fun q => h (by simp [q])
section
variable {X : Cx} {W : WX} {e o : Expr} {es : List Expr} {fo fe : DExp} {fa : DArg} {pos p : Pos} {k : Nat}
theorem de_at {cs : List Str} {f : Str} (G : ∀ c ∈ cs, FldG X.K X.mg c f) (ho : DE X W o fo) (hb : attributeBase o f X.env (eval o X.env) = eval o X.env := by rfl) : DE X W (.Attribute o f pos) (dAt cs f fo) := by
  refine ⟨PE.imp (pe_fld ho.pe hb) fun σ H Q ⟨B, n, F, env, S, h⟩ => tD.go S h fun d n1 v F1 H1 p1 t1 r1 S1 => ?_⟩
  cases d with
  | obj c ks ds =>
    dsimp only at p1
    cases el : (ks.zip ds).lookup f with
    | none => rw [el] at p1; exact p1.elim
    | some d =>
      rw [el] at p1
      obtain ⟨hc, p1⟩ := p1
      cases r1 with
      | obj hC hF hl rs =>
        obtain ⟨C', g1, g2, g3⟩ := (G c hc).ex
        rw [hC] at g1
        cases g1
        obtain ⟨u, hu, ru⟩ := zip_look rs el
        exact ⟨_, _, _, _, u, rfl, S1.sub _ _ hF, g2, g3, hu, p1 u F1 H1 t1 ru⟩
  | _ => exact p1.elim
theorem de_mth {pl : Sem Bool} {apos : Pos} {tab : List (Str × Fn)} {m : Str} {n j : Nat} (kx : Kx X W k) (G : ∀ q ∈ tab, MthG X.prog X.w X.K X.mg X.base j q.1 m n q.2) (ho : DE X W o fo) (ha : DA X W (e :: es) fa) (hj : j ≤ k := by decide)
    (hst : starEach (e :: es) X.env = (false, eval e X.env) :: starEach es X.env := by rfl) (hpl : (backTo pos (starEach es X.env)).any (·.1) = false := by rfl)
    (ht : eval (.Call (.Attribute o m apos) (e :: es) [] pos) X.env = (do
      let ov ← eval o X.env
      standAt apos.atName
      let (f, first) ← holding [ov] (getMethod ov m pl)
      callWith pos f first (backTo pos (starEach (e :: es) X.env)) (backToKw pos (keywordEach [] X.env))) := by rfl) : DE X W (.Call (.Attribute o m apos) (e :: es) [] pos) (dMth tab m n fo fa) := by
  have tk := kx.tk
  have r := kx.rm
  refine ⟨⟨fun pins s σ H Q I h => ?_⟩⟩
  obtain ⟨B, n0, Fz, env, S, h⟩ := h
  have hO : tD X W fo σ H (fun x H1 => ∃ (a C dx f : Addr) (fd : FuncData) (ps : List Str) (fs : List (Str × V)) (φ : Fn), x = .ref a ∧ H1 a = some (.ins C dx fs) ∧ fs.lookup m = none ∧ Cls X.K C ∧ Meth X.K C m f ∧ ps.length = n ∧ Binds X.K fd ps [] ∧ FnG X.prog X.w X.K X.mg X.base k f fd ps (spD X.K X.mg n φ) ∧
      tA X W fa σ H1 (fun vs H2 => spD X.K X.mg n φ (.ref a :: vs) H2 Q (fun cls d H' => W cls d σ H'))) := tD.go S h fun d n1 v F1 H1 p1 t1 r1 S1 => by
    cases d with
    | obj c ks ds =>
      dsimp only at p1
      cases el : tab.lookup c with
      | none => rw [el] at p1; exact p1.elim
      | some φ =>
        rw [el] at p1
        obtain ⟨hm, p1⟩ := p1
        cases r1 with
        | obj hC hF hl rs =>
          rename_i a C dx vs
          have hin : (c, φ) ∈ tab := look_mem el
          obtain ⟨C', f, fd, ps, g1, g2, g3, g4, g5, g6⟩ := ((G _ hin).mono hj).ex
          rw [hC] at g2
          cases g2
          refine ⟨a, C, dx, f, fd, ps, _, φ, rfl, S1.sub _ _ hF, zip_none hm, g3, g4, g1, g5, g6, tA.go S1 ((fa env).mono (fun _ _ z => z) (fun _ _ z => exE.step t1 z) p1) fun ds2 n2 vs2 F2 H2 p2 t2 r2 S2 => ?_⟩
          obtain ⟨hn, p2⟩ := p2
          have hF2 := t2.gr.obj _ _ hF not_rng_ins
          refine ⟨by rw [List.length_cons, r2.length]; exact hn, n2, F2, _, S2.sub, S2.tabs, .cons (.obj hC hF2 hl (rs.grow t2.gr)) r2, (φ _).mono (fun _ _ z => okE.step (t1.trans t2) z) (fun _ _ z => exE.step (t1.trans t2) z) p2⟩
    | _ => exact p1.elim
  refine PySem.W.methodCall_KW (pl := pl) (thn (ho.pe.run pins s σ H _ I hO) fun u s1 ⟨x, H1, I1, rx, a, C, dx, f, fd, ps, fs, φ, ex, ea, l, cl, hm, hl, hb, F, q⟩ => ?_) ht
  subst ex
  obtain rfl : u = Value.ref a := rx
  refine getmeth_ok I1 ea cl hm l ?_
  refine PySem.W.callWith_K (first := [.ref a]) (h₀ := X.base) I.ok.mod.kin hm.kp (thn (ha.pa.run pos pins s1 σ H1 _ I1 q) fun us s2 ⟨vs, H2, I2, rv, q2⟩ => ⟨I2.kIn, ?_⟩) hst hpl
  exact run_glo (us := .ref a :: us) (vs := .ref a :: vs) hl hb F r tk I2 (.cons rfl rv) q2
theorem de_new {c : Str} {ks : List Str} {ds : List D} (kx : Kx X W k) (G : MakG X.prog X.w X.K X.mg X.base c ks ds) (hg : Gl X c := by rfl) (hk : 2 ≤ k := by decide) (hdb : (c == ("__debug__" : Str)) = false := by decide) : DE X W (.Call (.Name c p) [] [] pos) (dNew c ks ds) := by
  obtain ⟨C, f, fd, us, hC, M, hb, F, hl, rs⟩ := G.ex
  refine ⟨PE.imp (pe_make0 M F (kx.rm.room.mono hk) hg hC hb .nil pass0 hdb) fun σ H Q ⟨B, n, F, env, S, h⟩ => ?_⟩
  intro x dx hx hdx hne
  refine ⟨x, dx, rfl, upd_same, fun H' h1 h2 => ⟨rfl, ?_⟩⟩
  have hxF : F x = none := by
    cases e : F x with
    | none => rfl
    | some o => have := S.sub _ _ e; rw [hx] at this; cases this
  have hH : ∀ b, b ≠ x → b ≠ dx → H' b = H b := fun b hb hb2 => by rw [h1 b hb, upd_ne hb, upd_ne hb2]
  refine h (.ref x) (upd F x (.ins C dx (ks.zip us))) H' ⟨Grow.new hxF, fun b o e => ?_, fun b o e z => ?_⟩ (.obj hC upd_same hl (rs _ _))
  · by_cases hb : b = x
    · subst hb; rw [upd_same] at e; cases e; exact h2
    · rw [upd_ne hb] at e
      have e2 := S.sub _ _ e
      rw [hH b hb (fun q => by subst q; rw [hdx] at e2; cases e2)]
      exact e2
  · have hb : b ≠ x := fun q => by subst q; rw [hx] at e; cases e
    have hb2 : b ≠ dx := fun q => by subst q; rw [hdx] at e; cases e
    exact ⟨by rw [hH b hb hb2]; exact e, by rw [upd_ne hb]; exact z⟩
end
end DL
namespace DL
open PySem PySem.Spec PyProof.Rows L2
variable [Tb]
structure DfM (K : PySem.W.Frag) (mg : Str → Option Value) (c m qual : Str) (ps : List Str) (st : Stmt) : Prop where
  ex : ∃ (C f : Addr) (fd : FuncData), mg c = some (.ref C) ∧ Cls K C ∧ Meth K C m f ∧ Fun K m qual st f fd ∧ Binds K fd ps []
theorem DfM.mth {P : Program} {w : World} {K : PySem.W.Frag} {mg : Str → Option Value} {ground : Heap} {c m qual : Str} {N ps : List Str} {st : Stmt} {k n : Nat} {s : DStm} (D : DfM K mg c m qual ps st) (S : FnScope N ps (defScope st)) (hm : ps.length = n)
    (hb : ∀ (f : Addr) (cd : Value) (R : Around) (callers : List PySem.Env) (t : Shared) (H : Hp) (E : XK), Kx (cxOf (L2.CX P w) P w K mg ground N qual (defScope st) f cd R callers t H E) (fun cls d _ H => E cls d H) k →
      DSs (cxOf (L2.CX P w) P w K mg ground N qual (defScope st) f cd R callers t H E) (fun cls d _ H => E cls d H) (defBody st) s) : MthG P w K mg ground (k + 1) c m n (fnOf N.length s) := by
  obtain ⟨C, f, fd, h1, h2, h3, F, hB⟩ := D.ex
  subst hm
  exact ⟨C, f, fd, ps, rfl, h1, h2, h3, hB, FnG.okD F S fun cd R callers t H E rm gd => hb f cd R callers t H E (Kx.of rm gd S.nd)⟩
theorem DfM.of {K : PySem.W.Frag} {mg : Str → Option Value} {h : Heap} {c m qual : Str} {ps : List Str} {st : Stmt} {C f : Addr} {oc : Value} {od an : Option Addr} {osl : Array (Option Value)} {kV doc pm cdv ct : Value} (X : K.In h) (G : h.Ns mainGlobals mg)
    (a : PySem.W.nsIn K mainGlobals c = some (some (.ref C))) (cl : Cls K C) (am : PySem.W.findIn K (.ref C) m = some (some (.ref f))) (im : PySem.W.isFn K (.ref f) = true)
    (l : K.lookup f = some ⟨oc, od, .func (PySem.W.fnOf m qual (defArgs st) (defBody st) (defScope st) .none kV doc pm an cdv ct), osl⟩) (cc : PySem.W.codeIn K cdv qual = true) (k : PySem.W.keepIn K (.ref f) = true)
    (b : ∀ (kV doc pm : Value) (an : Option Addr) (cdv ct : Value) (us : List Value), us.length = ps.length → bindArgs (PySem.W.fnOf m qual (defArgs st) (defBody st) (defScope st) .none kV doc pm an cdv ct) ⟨us, []⟩ = pure (ps.zip us)) : DfM K mg c m qual ps st :=
  ⟨C, f, _, PySem.W.mg_of X G a, cl, ⟨am, im, k⟩, fun_mk l cc k, (fun_mk l cc k).binds b⟩
end DL

end
section
set_option Elab.async false
set_option linter.all false
set_option maxRecDepth 100000
set_option maxHeartbeats 4000000
open PySem PySem.Spec PyProof.Rows L2 DL
namespace PKG
def s__law_of : DStm :=
  sRet (dBin gIx (dVar 1) (dCall 2 gDraw (aCons (dVar 0) (aCons (dCb gLen (aCons (dVar 1) (aNil))) (aNil)))))
def f__law_of : Fn := fnOf (["_law_m", "_law_some"] : List Str).length s__law_of
def s_is_integer : DStm :=
  sRet (dAndV (dCb gIsi (aCons (dVar 0) (aCons (dK (.ty "int")) (aNil)))) (dNotV (dCb gIsi (aCons (dVar 0) (aCons (dK (.ty "bool")) (aNil))))))
def f_is_integer : Fn := fnOf (["value"] : List Str).length s_is_integer
def s_is_whole : DStm :=
  sRet (dAndV (dCall 1 f_is_integer (aCons (dVar 0) (aNil))) (dChain gLe gLe (dVar 1) (dVar 0) (dVar 2)))
def f_is_whole : Fn := fnOf (["value", "least", "most"] : List Str).length s_is_whole
def s_is_corner : DStm :=
  sSeq (sIf (dOr (dNot (dTst (dCb gIsi (aCons (dVar 0) (aCons (dK (.ty "tuple")) (aNil)))))) (dNot (dTst (dChain gLe gLe (dK (.int 2)) (dCb gLen (aCons (dVar 0) (aNil))) (dK (.int 12)))))) (sRet (dK (.bl false))) (sSkip)) (sRet (dAndV (dCb gAll (aCons (dLc (iVal (dVar 0)) [1] (tgN 1) (cYes) (dCall 3 f_is_whole (aCons (dVar 1) (aCons (dK (.int 1)) (aCons (dK (.int 1000000000000000000000000000000)) (aNil)))))) (aNil))) (dBin gLe (dCb gSum (aCons (dVar 0) (aNil))) (dK (.int 1000000000000000000000000000000)))))
def f_is_corner : Fn := fnOf (["value", "angle"] : List Str).length s_is_corner
def s_need_corner : DStm :=
  sSeq (sIf (dNot (dTst (dCall 1 f_is_corner (aCons (dVar 0) (aNil))))) (sDead) (sSkip)) (sRet (dVar 0))
def f_need_corner : Fn := fnOf (["value"] : List Str).length s_need_corner
def s_need_signs : DStm :=
  sSeq (sDrop (dCall 1 f_need_corner (aCons (dVar 0) (aNil)))) (sSeq (sIf (dOr (dNot (dTst (dCb gIsi (aCons (dVar 1) (aCons (dK (.ty "str")) (aNil)))))) (dTst (dBin (gEq true) (dCb gLen (aCons (dVar 1) (aNil))) (dCb gLen (aCons (dVar 0) (aNil)))))) (sDead) (sSkip)) (sSeq (sIf (dNot (dTst (dCb gAll (aCons (dLc (iVal (dVar 1)) [2] (tgN 2) (cYes) (dBin (gIn false) (dVar 2) (dTup (aCons (dK (.str "M")) (aCons (dK (.str "V")) (aNil)))))) (aNil))))) (sDead) (sSkip)) (sRet (dVar 1))))
def f_need_signs : Fn := fnOf (["corner", "value", "letter"] : List Str).length s_need_signs
def s__law_any : DStm :=
  sRet (dCb gTuple (aCons (dLc (iRange1 (aCons (dVar 1) (aNil))) [3] (tgN 3) (cYes) (dBin gAdd (dK (.int 1)) (dCall 2 gDraw (aCons (dVar 0) (aCons (dVar 2) (aNil)))))) (aNil)))
def f__law_any : Fn := fnOf (["_law_m", "_law_many", "_law_most", "_law_k"] : List Str).length s__law_any
def s__law_letters : DStm :=
  sRet (dM1 gJoin (dK (.str "")) (dLc (iRange1 (aCons (dVar 1) (aNil))) [2] (tgN 2) (cYes) (dCall 2 f__law_of (aCons (dVar 0) (aCons (dLst (aCons (dK (.str "M")) (aCons (dK (.str "V")) (aNil)))) (aNil))))))
def f__law_letters : Fn := fnOf (["_law_m", "_law_many", "_law_k"] : List Str).length s__law_letters
def s_is_closed_in : DStm :=
  sRet (dAndV (dBin (gEq false) (dBin gMod (dCb gLen (aCons (dVar 0) (aNil))) (dK (.int 2))) (dK (.int 0))) (dBin (gEq false) (dCb gSum (aCons (dSt (dVar 0) (oNone) (oNone) (oSome (dK (.int 2)))) (aNil))) (dCb gSum (aCons (dSt (dVar 0) (oSome (dK (.int 1))) (oNone) (oSome (dK (.int 2)))) (aNil)))))
def f_is_closed_in : Fn := fnOf (["corner"] : List Str).length s_is_closed_in
def s_is_closed : DStm :=
  sRet (dCall 1 f_is_closed_in (aCons (dCall 1 f_need_corner (aCons (dVar 0) (aNil))) (aNil)))
def f_is_closed : Fn := fnOf (["corner"] : List Str).length s_is_closed
def s_need_closed : DStm :=
  sSeq (sIf (dNot (dTst (dCall 1 f_is_closed (aCons (dVar 0) (aNil))))) (sDead) (sSkip)) (sRet (dVar 0))
def f_need_closed : Fn := fnOf (["corner"] : List Str).length s_need_closed
def s_places_of : DStm :=
  sSeq (sPars [1, 2] (mOwn (fLst (aNil)) (mVal (dK (.int 0)) (mNil)))) (sSeq (sFor (iEn (aCons (dVar 0) (aNil))) (tgT 2 (tgsCons (tgN 3) (tgsCons (tgN 4) (tgsNil)))) (sSeq (sApp 1 (dVar 2)) (sAsg 2 (dIf (dTst (dBin (gEq false) (dBin gMod (dVar 3) (dK (.int 2))) (dK (.int 0)))) (dBin gAdd (dVar 2) (dVar 4)) (dBin gSub (dVar 2) (dVar 4)))))) (sFrz 1 (sRet (dVar 1))))
def f_places_of : Fn := fnOf (["corner", "found", "here", "number", "angle"] : List Str).length s_places_of
def s_places : DStm :=
  sRet (dCb gTuple (aCons (dCall 1 f_places_of (aCons (dCall 1 f_need_corner (aCons (dVar 0) (aNil))) (aNil))) (aNil)))
def f_places : Fn := fnOf (["corner"] : List Str).length s_places
def s_ranges_of : DStm :=
  sSeq (sAsg 1 (dCall 1 f_places_of (aCons (dVar 0) (aNil)))) (sSeq (sAsg 2 (dLc (iEn (aCons (dVar 1) (aNil))) [4, 5] (tgT 2 (tgsCons (tgN 4) (tgsCons (tgN 5) (tgsNil)))) (cYes) (dTup (aCons (dVar 5) (aCons (dBin gIx (dVar 1) (dBin gMod (dBin gAdd (dVar 4) (dK (.int 1))) (dCb gLen (aCons (dVar 1) (aNil))))) (aNil)))))) (sRet (dLc (iVal (dVar 2)) [3] (tgN 3) (cYes) (dTup (aCons (dCb gMinS (aCons (dVar 3) (aNil))) (aCons (dCb gMaxS (aCons (dVar 3) (aNil))) (aNil)))))))
def f_ranges_of : Fn := fnOf (["corner", "some", "ends", "pair", "number", "one"] : List Str).length s_ranges_of
def s_do_overlap : DStm :=
  sRet (dBin gLt (dCb gMax2 (aCons (dBin gIx (dVar 0) (dK (.int 0))) (aCons (dBin gIx (dVar 1) (dK (.int 0))) (aNil)))) (dCb gMin2 (aCons (dBin gIx (dVar 0) (dK (.int 1))) (aCons (dBin gIx (dVar 1) (dK (.int 1))) (aNil)))))
def f_do_overlap : Fn := fnOf (["one", "other"] : List Str).length s_do_overlap
def s_overlaps_in : DStm :=
  sSeq (sAsg 1 (dCall 1 f_ranges_of (aCons (dVar 0) (aNil)))) (sSeq (sAsg 2 (dListRg (dCb gLen (aCons (dVar 0) (aNil))))) (sRet (dLc2 (iVal (dVar 2)) [3, 4] (tgN 3) (cYes) (iVal (dSl (dVar 2) (oSome (dBin gAdd (dVar 3) (dK (.int 1)))) (oNone))) [4] (tgN 4) (dTst (dCall 2 f_do_overlap (aCons (dBin gIx (dVar 1) (dVar 3)) (aCons (dBin gIx (dVar 1) (dVar 4)) (aNil))))) (dTup (aCons (dVar 3) (aCons (dVar 4) (aNil)))))))
def f_overlaps_in : Fn := fnOf (["corner", "ranges", "every", "one", "other"] : List Str).length s_overlaps_in
def s_overlaps : DStm :=
  sRet (dCb gTuple (aCons (dCall 1 f_overlaps_in (aCons (dCall 1 f_need_closed (aCons (dVar 0) (aNil))) (aNil))) (aNil)))
def f_overlaps : Fn := fnOf (["corner"] : List Str).length s_overlaps
def s_exchanged_in : DStm :=
  sRet (dM1 gJoin (dK (.str "")) (dLc (iVal (dVar 0)) [1] (tgN 1) (cYes) (dIf (dTst (dBin (gEq false) (dVar 1) (dK (.str "V")))) (dK (.str "M")) (dK (.str "V")))))
def f_exchanged_in : Fn := fnOf (["signs", "letter"] : List Str).length s_exchanged_in
def s_exchanged : DStm :=
  sRet (dCall 1 f_exchanged_in (aCons (dCall 2 f_need_signs (aCons (dVar 0) (aCons (dVar 1) (aNil)))) (aNil)))
def f_exchanged : Fn := fnOf (["corner", "signs"] : List Str).length s_exchanged
def s_need_sector : DStm :=
  sSeq (sIf (dNot (dTst (dCall 3 f_is_whole (aCons (dVar 1) (aCons (dK (.int 0)) (aCons (dBin gSub (dCb gLen (aCons (dVar 0) (aNil))) (dK (.int 1))) (aNil))))))) (sDead) (sSkip)) (sRet (dVar 1))
def f_need_sector : Fn := fnOf (["corner", "value"] : List Str).length s_need_sector
def s_renumbered_in : DStm :=
  sRet (dTup (aCons (dBin gAdd (dSl (dVar 0) (oSome (dVar 2)) (oNone)) (dSl (dVar 0) (oNone) (oSome (dVar 2)))) (aCons (dBin gAdd (dSl (dVar 1) (oSome (dVar 2)) (oNone)) (dSl (dVar 1) (oNone) (oSome (dVar 2)))) (aNil))))
def f_renumbered_in : Fn := fnOf (["corner", "signs", "begin"] : List Str).length s_renumbered_in
def s_renumbered : DStm :=
  sSeq (sDrop (dCall 2 f_need_signs (aCons (dVar 0) (aCons (dVar 1) (aNil))))) (sRet (dCall 3 f_renumbered_in (aCons (dVar 0) (aCons (dVar 1) (aCons (dCall 2 f_need_sector (aCons (dVar 0) (aCons (dVar 2) (aNil)))) (aNil))))))
def f_renumbered : Fn := fnOf (["corner", "signs", "begin"] : List Str).length s_renumbered
def s__law_shut : DStm :=
  sSeq (sOwn 3 (fLc (iRange1 (aCons (dVar 1) (aNil))) [6] (tgN 6) (cYes) (dBin gAdd (dK (.int 1)) (dCall 2 gDraw (aCons (dVar 0) (aCons (dVar 2) (aNil))))))) (sSeq (sAsg 4 (dPeek 3 (dBin gSub (dCb gSum (aCons (dSt (dVar 3) (oNone) (oNone) (oSome (dK (.int 2)))) (aNil))) (dCb gSum (aCons (dSt (dVar 3) (oSome (dK (.int 1))) (oNone) (oSome (dK (.int 2)))) (aNil)))))) (sSeq (sAsg 5 (dCall 2 gDraw (aCons (dVar 0) (aCons (dBin gFdiv (dVar 1) (dK (.int 2))) (aNil))))) (sSeq (sIf (dTst (dBin gGt (dVar 4) (dK (.int 0)))) (sSetIx 3 (dBin gAdd (dBin gMul (dK (.int 2)) (dVar 5)) (dK (.int 1))) (dPeek 3 (dBin gAdd (dBin gIx (dVar 3) (dBin gAdd (dBin gMul (dK (.int 2)) (dVar 5)) (dK (.int 1)))) (dVar 4)))) (sSetIx 3 (dBin gMul (dK (.int 2)) (dVar 5)) (dPeek 3 (dBin gSub (dBin gIx (dVar 3) (dBin gMul (dK (.int 2)) (dVar 5))) (dVar 4))))) (sFrz 3 (sRet (dCb gTuple (aCons (dVar 3) (aNil))))))))
def f__law_shut : Fn := fnOf (["_law_m", "_law_many", "_law_most", "_law_row", "_law_more", "_law_spot", "_law_k"] : List Str).length s__law_shut
def s__law_spots : DStm :=
  sSeq (sPars [1, 2] (mOwn (fLst (aNil)) (mVal (dK (.int 0)) (mNil)))) (sSeq (sFor (iEn (aCons (dVar 0) (aNil))) (tgT 2 (tgsCons (tgN 3) (tgsCons (tgN 4) (tgsNil)))) (sSeq (sApp 1 (dVar 2)) (sAsg 2 (dIf (dTst (dBin (gEq false) (dBin gMod (dCb gInt (aCons (dVar 3) (aNil))) (dK (.int 2))) (dK (.int 0)))) (dBin gAdd (dVar 2) (dVar 4)) (dBin gSub (dVar 2) (dVar 4)))))) (sFrz 1 (sRet (dVar 1))))
def f__law_spots : Fn := fnOf (["_law_row", "_law_found", "_law_here", "_law_k", "_law_angle"] : List Str).length s__law_spots
def s_is_between : DStm :=
  sSeq (sUnp (tgT 2 (tgsCons (tgN 4) (tgsCons (tgN 5) (tgsNil)))) (dCb gSortI (aCons (dLst (aCons (dBin gIx (dVar 0) (dVar 2)) (aCons (dBin gIx (dVar 0) (dVar 3)) (aNil)))) (aNil)))) (sRet (dChain gLt gLt (dVar 4) (dBin gIx (dVar 0) (dVar 1)) (dVar 5)))
def f_is_between : Fn := fnOf (["levels", "sector", "one", "other", "low", "high"] : List Str).length s_is_between
def s_sides_of : DStm :=
  sRet (dTup (aCons (dBin gMod (dBin gSub (dVar 1) (dK (.int 1))) (dCb gLen (aCons (dVar 0) (aNil)))) (aCons (dVar 1) (aNil))))
def f_sides_of : Fn := fnOf (["corner", "crease"] : List Str).length s_sides_of
def s_do_match : DStm :=
  sRet (dAndV (dBin (gEq true) (dVar 1) (dVar 2)) (dAndV (dBin (gEq false) (dBin gIx (dVar 0) (dVar 1)) (dBin gIx (dVar 0) (dVar 2))) (dBin (gEq false) (dBin gMod (dBin gSub (dVar 1) (dVar 2)) (dK (.int 2))) (dK (.int 0)))))
def f_do_match : Fn := fnOf (["some", "one", "other"] : List Str).length s_do_match
def s_shape_of : DStm :=
  sSeq (sUnp (tgT 2 (tgsCons (tgN 2) (tgsCons (tgN 3) (tgsNil)))) (dTup (aCons (dCall 1 f_places_of (aCons (dVar 0) (aNil))) (aCons (dListRg (dCb gLen (aCons (dVar 0) (aNil)))) (aNil))))) (sSeq (sAsg 1 (dLc2 (iVal (dVar 3)) [4, 5] (tgN 4) (cYes) (iVal (dVar 3)) [5] (tgN 5) (dTst (dCall 3 f_do_match (aCons (dVar 2) (aCons (dVar 4) (aCons (dVar 5) (aNil)))))) (dTup (aCons (dVar 4) (aCons (dVar 5) (aNil)))))) (sRet (dTup (aCons (dVar 2) (aCons (dCall 1 f_ranges_of (aCons (dVar 0) (aNil))) (aCons (dVar 1) (aNil)))))))
def f_shape_of : Fn := fnOf (["corner", "pairs", "some", "every", "one", "other"] : List Str).length s_shape_of
def s_is_free : DStm :=
  sSeq (sUnp (tgT 2 (tgsCons (tgN 6) (tgsCons (tgN 7) (tgsNil)))) (dCall 2 f_sides_of (aCons (dVar 0) (aCons (dVar 2) (aNil))))) (sSeq (sIf (dOr (dTst (dBin (gIn true) (dVar 6) (dVar 1))) (dTst (dBin (gIn true) (dVar 7) (dVar 1)))) (sRet (dK (.bl true))) (sSkip)) (sSeq (sAsg 4 (dBin gIx (dBin gIx (dVar 3) (dK (.int 0))) (dVar 2))) (sSeq (sFor (iVal (dVar 1)) (tgN 5) (sSeq (sUnp (tgT 2 (tgsCons (tgN 8) (tgsCons (tgN 9) (tgsNil)))) (dBin gIx (dBin gIx (dVar 3) (dK (.int 1))) (dVar 5))) (sIf (dAnd (dTst (dChain gLt gLt (dVar 8) (dVar 4) (dVar 9))) (dTst (dCall 4 f_is_between (aCons (dVar 1) (aCons (dVar 5) (aCons (dVar 6) (aCons (dVar 7) (aNil)))))))) (sRet (dK (.bl false))) (sSkip)))) (sRet (dK (.bl true))))))
def f_is_free : Fn := fnOf (["corner", "levels", "crease", "shape", "place", "sector", "one", "other", "low", "high"] : List Str).length s_is_free
def s_do_cross : DStm :=
  sSeq (sPars [4, 5] (mVal (dCall 2 f_sides_of (aCons (dVar 0) (aCons (dVar 2) (aNil)))) (mVal (dCall 2 f_sides_of (aCons (dVar 0) (aCons (dVar 3) (aNil)))) (mNil)))) (sSeq (sIf (dNot (dTst (dCb gAll (aCons (dLc (iVal (dTup (aStar (dVar 4) (aStar (dVar 5) (aNil))))) [6] (tgN 6) (cYes) (dBin (gIn false) (dVar 6) (dVar 1))) (aNil))))) (sRet (dK (.bl false))) (sSkip)) (sRet (dBin (gEq true) (dCall 4 f_is_between (aCons (dVar 1) (aCons (dBin gIx (dVar 5) (dK (.int 0))) (aCons (dBin gIx (dVar 4) (dK (.int 0))) (aCons (dBin gIx (dVar 4) (dK (.int 1))) (aNil)))))) (dCall 4 f_is_between (aCons (dVar 1) (aCons (dBin gIx (dVar 5) (dK (.int 1))) (aCons (dBin gIx (dVar 4) (dK (.int 0))) (aCons (dBin gIx (dVar 4) (dK (.int 1))) (aNil)))))))))
def f_do_cross : Fn := fnOf (["corner", "levels", "crease", "later", "near", "far", "sector"] : List Str).length s_do_cross
def s_holds : DStm :=
  sSeq (sIf (dNot (dTst (dCb gAll (aCons (dLc (iRange1 (aCons (dCb gLen (aCons (dVar 0) (aNil))) (aNil))) [3] (tgN 3) (cYes) (dCall 4 f_is_free (aCons (dVar 0) (aCons (dVar 1) (aCons (dVar 3) (aCons (dVar 2) (aNil))))))) (aNil))))) (sRet (dK (.bl false))) (sSkip)) (sRet (dNotV (dCb gAny (aCons (dLc (iVal (dBin gIx (dVar 2) (dK (.int 2)))) [4, 5] (tgT 2 (tgsCons (tgN 4) (tgsCons (tgN 5) (tgsNil)))) (cYes) (dCall 4 f_do_cross (aCons (dVar 0) (aCons (dVar 1) (aCons (dVar 4) (aCons (dVar 5) (aNil))))))) (aNil)))))
def f_holds : Fn := fnOf (["corner", "levels", "shape", "crease", "one", "other"] : List Str).length s_holds
def s_crimpable_in : DStm :=
  sSeq (sAsg 2 (dCb gLen (aCons (dVar 0) (aNil)))) (sSeq (sIf (dTst (dBin gLt (dVar 2) (dK (.int 4)))) (sRet (dLst (aNil))) (sSkip)) (sSeq (sAsg 3 (dCb gMinS (aCons (dVar 0) (aNil)))) (sSeq (sAsg 4 (dListRg (dVar 2))) (sRet (dLc (iVal (dVar 4)) [5] (tgN 5) (dAnd (dTst (dBin (gEq false) (dBin gIx (dVar 0) (dVar 5)) (dVar 3))) (dTst (dBin (gEq true) (dBin gIx (dVar 1) (dVar 5)) (dBin gIx (dVar 1) (dBin gMod (dBin gAdd (dVar 5) (dK (.int 1))) (dVar 2)))))) (dVar 5))))))
def f_crimpable_in : Fn := fnOf (["corner", "signs", "many", "least", "every", "one"] : List Str).length s_crimpable_in
def s_crimped_in : DStm :=
  sSeq (sAsg 3 (dCb gLen (aCons (dVar 0) (aNil)))) (sSeq (sAsg 4 (dBin gSub (dBin gAdd (dBin gIx (dVar 0) (dBin gSub (dVar 2) (dK (.int 1)))) (dBin gIx (dVar 0) (dBin gMod (dBin gAdd (dVar 2) (dK (.int 1))) (dVar 3)))) (dBin gIx (dVar 0) (dVar 2)))) (sSeq (sIf (dTst (dBin (gEq false) (dVar 2) (dK (.int 0)))) (sRet (dTup (aCons (dTup (aStar (dSl (dVar 0) (oSome (dK (.int 2))) (oSome (dBin gSub (dVar 3) (dK (.int 1))))) (aCons (dVar 4) (aNil)))) (aCons (dSl (dVar 1) (oSome (dK (.int 2))) (oNone)) (aNil))))) (sSkip)) (sSeq (sIf (dTst (dBin (gEq false) (dVar 2) (dBin gSub (dVar 3) (dK (.int 1))))) (sRet (dTup (aCons (dTup (aCons (dVar 4) (aStar (dSl (dVar 0) (oSome (dK (.int 1))) (oSome (dBin gSub (dVar 3) (dK (.int 2))))) (aNil)))) (aCons (dBin gAdd (dBin gIx (dVar 1) (dBin gSub (dVar 3) (dK (.int 2)))) (dSl (dVar 1) (oSome (dK (.int 1))) (oSome (dBin gSub (dVar 3) (dK (.int 2)))))) (aNil))))) (sSkip)) (sRet (dTup (aCons (dTup (aStar (dSl (dVar 0) (oNone) (oSome (dBin gSub (dVar 2) (dK (.int 1))))) (aCons (dVar 4) (aStar (dSl (dVar 0) (oSome (dBin gAdd (dVar 2) (dK (.int 2)))) (oNone)) (aNil))))) (aCons (dBin gAdd (dSl (dVar 1) (oNone) (oSome (dVar 2))) (dSl (dVar 1) (oSome (dBin gAdd (dVar 2) (dK (.int 2)))) (oNone))) (aNil))))))))
def f_crimped_in : Fn := fnOf (["corner", "signs", "sector", "many", "whole"] : List Str).length s_crimped_in
def s_is_flat_one : DStm :=
  sRet (dAndV (dBin (gEq false) (dCb gLen (aCons (dVar 0) (aNil))) (dK (.int 2))) (dAndV (dBin (gEq false) (dBin gIx (dVar 0) (dK (.int 0))) (dBin gIx (dVar 0) (dK (.int 1)))) (dBin (gEq false) (dBin gIx (dVar 1) (dK (.int 0))) (dBin gIx (dVar 1) (dK (.int 1))))))
def f_is_flat_one : Fn := fnOf (["corner", "signs"] : List Str).length s_is_flat_one
def s_old_numbers : DStm :=
  sSeq (sAsg 2 (dListRg (dVar 0))) (sSeq (sIf (dTst (dBin (gEq false) (dVar 1) (dK (.int 0)))) (sRet (dLst (aStar (dSl (dVar 2) (oSome (dK (.int 2))) (oSome (dBin gSub (dVar 0) (dK (.int 1))))) (aCons (dVar 1) (aNil))))) (sSkip)) (sSeq (sIf (dTst (dBin (gEq false) (dVar 1) (dBin gSub (dVar 0) (dK (.int 1))))) (sRet (dLst (aCons (dVar 1) (aStar (dSl (dVar 2) (oSome (dK (.int 1))) (oSome (dBin gSub (dVar 0) (dK (.int 2))))) (aNil))))) (sSkip)) (sRet (dLst (aStar (dSl (dVar 2) (oNone) (oSome (dBin gSub (dVar 1) (dK (.int 1))))) (aCons (dVar 1) (aStar (dSl (dVar 2) (oSome (dBin gAdd (dVar 1) (dK (.int 2)))) (oNone)) (aNil))))))))
def f_old_numbers : Fn := fnOf (["many", "sector", "every"] : List Str).length s_old_numbers
def s_opened : DStm :=
  sSeq (sPars [8, 9, 10] (mVal (dCall 2 f_old_numbers (aCons (dVar 0) (aCons (dVar 2) (aNil)))) (mVal (dBin gMod (dBin gSub (dVar 2) (dK (.int 1))) (dVar 0)) (mVal (dBin gMod (dBin gAdd (dVar 2) (dK (.int 1))) (dVar 0)) (mNil))))) (sSeq (sAsg 4 (dBin (gEq false) (dBin (gEq false) (dBin gIx (dVar 1) (dVar 2)) (dK (.str "V"))) (dBin (gEq false) (dBin gMod (dVar 2) (dK (.int 2))) (dK (.int 1))))) (sSeq (sAsg 5 (dIf (dTst (dVar 4)) (dLst (aCons (dVar 9) (aCons (dVar 2) (aCons (dVar 10) (aNil))))) (dLst (aCons (dVar 10) (aCons (dVar 2) (aCons (dVar 9) (aNil))))))) (sSeq (sOwn 6 (fLst (aNil))) (sSeq (sFor (iVal (dVar 3)) (tgN 7) (sExt 6 (dIf (dTst (dBin (gEq false) (dBin gIx (dVar 8) (dVar 7)) (dVar 2))) (dVar 5) (dLst (aCons (dBin gIx (dVar 8) (dVar 7)) (aNil)))))) (sFrz 6 (sRet (dCb gTuple (aCons (dVar 6) (aNil)))))))))
def f_opened : Fn := fnOf (["many", "signs", "sector", "stack", "rises", "three", "found", "number", "old", "before", "behind"] : List Str).length s_opened
def s_pressed : DStm :=
  sSeq (sPars [2, 3] (mOwn (fLst (aNil)) (mVal (dCall 2 f_crimpable_in (aCons (dVar 0) (aCons (dVar 1) (aNil)))) (mNil)))) (sSeq (sWhile (dTst (dBin (gEq true) (dVar 3) (dLst (aNil)))) (sSeq (sApp 2 (dTup (aCons (dVar 0) (aCons (dVar 1) (aCons (dBin gIx (dVar 3) (dK (.int 0))) (aNil)))))) (sSeq (sUnp (tgT 2 (tgsCons (tgN 0) (tgsCons (tgN 1) (tgsNil)))) (dCall 3 f_crimped_in (aCons (dVar 0) (aCons (dVar 1) (aCons (dBin gIx (dVar 3) (dK (.int 0))) (aNil)))))) (sAsg 3 (dCall 2 f_crimpable_in (aCons (dVar 0) (aCons (dVar 1) (aNil)))))))) (sFrz 2 (sRet (dTup (aCons (dVar 2) (aCons (dVar 0) (aCons (dVar 1) (aNil))))))))
def f_pressed : Fn := fnOf (["corner", "signs", "rows", "some"] : List Str).length s_pressed
def s_unfolded : DStm :=
  sSeq (sAsg 2 (dIf (dTst (dBin (gEq false) (dBin gIx (dVar 1) (dK (.int 0))) (dK (.str "V")))) (dTup (aCons (dK (.int 0)) (aCons (dK (.int 1)) (aNil)))) (dTup (aCons (dK (.int 1)) (aCons (dK (.int 0)) (aNil)))))) (sSeq (sFor (iVal (dSt (dVar 0) (oNone) (oNone) (oSome (dUn gNeg (dK (.int 1)))))) (tgT 3 (tgsCons (tgN 3) (tgsCons (tgN 4) (tgsCons (tgN 5) (tgsNil))))) (sAsg 2 (dCall 4 f_opened (aCons (dCb gLen (aCons (dVar 3) (aNil))) (aCons (dVar 4) (aCons (dVar 5) (aCons (dVar 2) (aNil)))))))) (sRet (dVar 2)))
def f_unfolded : Fn := fnOf (["rows", "signs", "stack", "elder", "letters", "sector"] : List Str).length s_unfolded
def s_some_stack : DStm :=
  sSeq (sDrop (dCall 2 f_need_signs (aCons (dVar 0) (aCons (dVar 1) (aNil))))) (sSeq (sUnp (tgT 3 (tgsCons (tgN 2) (tgsCons (tgN 3) (tgsCons (tgN 4) (tgsNil))))) (dCall 2 f_pressed (aCons (dVar 0) (aCons (dVar 1) (aNil))))) (sRet (dIf (dTst (dCall 2 f_is_flat_one (aCons (dVar 3) (aCons (dVar 4) (aNil))))) (dCall 2 f_unfolded (aCons (dVar 2) (aCons (dVar 4) (aNil)))) (dK .non))))
def f_some_stack : Fn := fnOf (["corner", "signs", "rows", "last", "letters"] : List Str).length s_some_stack
def s_crimpable : DStm :=
  sSeq (sDrop (dCall 2 f_need_signs (aCons (dVar 0) (aCons (dVar 1) (aNil))))) (sRet (dCb gTuple (aCons (dCall 2 f_crimpable_in (aCons (dVar 0) (aCons (dVar 1) (aNil)))) (aNil))))
def f_crimpable : Fn := fnOf (["corner", "signs"] : List Str).length s_crimpable
def s_is_flat : DStm :=
  sSeq (sDrop (dCall 2 f_need_signs (aCons (dVar 0) (aCons (dVar 1) (aNil))))) (sRet (dCall 2 f_is_flat_one (aCons (dVar 0) (aCons (dVar 1) (aNil)))))
def f_is_flat : Fn := fnOf (["corner", "signs"] : List Str).length s_is_flat
def s_folds_in : DStm :=
  sSeq (sUnp (tgT 3 (tgsCons (tgN 2) (tgsCons (tgN 3) (tgsCons (tgN 4) (tgsNil))))) (dCall 2 f_pressed (aCons (dVar 0) (aCons (dVar 1) (aNil))))) (sRet (dCall 2 f_is_flat_one (aCons (dVar 3) (aCons (dVar 4) (aNil)))))
def f_folds_in : Fn := fnOf (["corner", "signs", "rows", "last", "letters"] : List Str).length s_folds_in
def s_folds : DStm :=
  sSeq (sDrop (dCall 2 f_need_signs (aCons (dVar 0) (aCons (dVar 1) (aNil))))) (sRet (dCall 2 f_folds_in (aCons (dVar 0) (aCons (dVar 1) (aNil)))))
def f_folds : Fn := fnOf (["corner", "signs"] : List Str).length s_folds
def s_fold_paper : DStm :=
  sSeq (sDrop (dCall 2 f_need_signs (aCons (dVar 0) (aCons (dVar 1) (aNil))))) (sSeq (sUnp (tgT 3 (tgsCons (tgN 2) (tgsCons (tgN 3) (tgsCons (tgN 4) (tgsNil))))) (dCall 2 f_pressed (aCons (dVar 0) (aCons (dVar 1) (aNil))))) (sSeq (sIf (dTst (dCall 2 f_is_flat_one (aCons (dVar 3) (aCons (dVar 4) (aNil))))) (sRet (dTup (aCons (dK (.str "stack")) (aCons (dCall 2 f_unfolded (aCons (dVar 2) (aCons (dVar 4) (aNil)))) (aNil))))) (sSkip)) (sRet (dTup (aCons (dK (.str "stuck")) (aCons (dCb gTuple (aCons (dLc (iVal (dVar 2)) [5, 6, 7] (tgT 3 (tgsCons (tgN 5) (tgsCons (tgN 6) (tgsCons (tgN 7) (tgsNil))))) (cYes) (dVar 7)) (aNil))) (aNil)))))))
def f_fold_paper : Fn := fnOf (["corner", "signs", "rows", "last", "letters", "elder", "elder_letters", "sector"] : List Str).length s_fold_paper
def s_is_stuck : DStm :=
  sSeq (sIf (dNot (dTst (dCb gIsi (aCons (dVar 2) (aCons (dK (.ty "tuple")) (aNil)))))) (sRet (dK (.bl false))) (sSkip)) (sSeq (sFor (iVal (dVar 2)) (tgN 3) (sSeq (sIf (dOr (dNot (dTst (dCall 3 f_is_whole (aCons (dVar 3) (aCons (dK (.int 0)) (aCons (dBin gSub (dCb gLen (aCons (dVar 0) (aNil))) (dK (.int 1))) (aNil))))))) (dTst (dBin (gIn true) (dVar 3) (dCall 2 f_crimpable_in (aCons (dVar 0) (aCons (dVar 1) (aNil))))))) (sRet (dK (.bl false))) (sSkip)) (sUnp (tgT 2 (tgsCons (tgN 0) (tgsCons (tgN 1) (tgsNil)))) (dCall 3 f_crimped_in (aCons (dVar 0) (aCons (dVar 1) (aCons (dVar 3) (aNil)))))))) (sRet (dAndV (dBin (gEq false) (dCall 2 f_crimpable_in (aCons (dVar 0) (aCons (dVar 1) (aNil)))) (dLst (aNil))) (dNotV (dCall 2 f_is_flat_one (aCons (dVar 0) (aCons (dVar 1) (aNil))))))))
def f_is_stuck : Fn := fnOf (["corner", "signs", "value", "sector"] : List Str).length s_is_stuck
def s_choices_of : DStm :=
  sSeq (sIf (dTst (dBin gGt (dVar 1) (dVar 0))) (sRet (dK (.int 0))) (sSkip)) (sSeq (sAsg 2 (dK (.int 1))) (sSeq (sFor (iRange1 (aCons (dVar 1) (aNil))) (tgN 3) (sAsg 2 (dBin gFdiv (dBin gMul (dVar 2) (dBin gSub (dVar 0) (dVar 3))) (dBin gAdd (dVar 3) (dK (.int 1)))))) (sRet (dVar 2))))
def f_choices_of : Fn := fnOf (["count", "chosen", "found", "step"] : List Str).length s_choices_of
def s_choices : DStm :=
  sSeq (sFor (iVal (dTup (aCons (dVar 0) (aCons (dVar 1) (aNil))))) (tgN 2) (sIf (dNot (dTst (dCall 3 f_is_whole (aCons (dVar 2) (aCons (dK (.int 0)) (aCons (dK (.int 100)) (aNil))))))) (sDead) (sSkip))) (sRet (dCall 2 f_choices_of (aCons (dVar 0) (aCons (dVar 1) (aNil)))))
def f_choices : Fn := fnOf (["count", "chosen", "value"] : List Str).length s_choices
def s_run_first : DStm :=
  sSeq (sUnp (tgT 2 (tgsCons (tgN 2) (tgsCons (tgN 3) (tgsNil)))) (dTup (aCons (dCb gMinS (aCons (dVar 0) (aNil))) (aCons (dCb gLen (aCons (dVar 0) (aNil))) (aNil))))) (sSeq (sAsg 1 (dBin gIx (dLc (iRange1 (aCons (dVar 3) (aNil))) [6] (tgN 6) (dAnd (dTst (dBin (gEq false) (dBin gIx (dVar 0) (dVar 6)) (dVar 2))) (dTst (dBin (gEq true) (dBin gIx (dVar 0) (dBin gSub (dVar 6) (dK (.int 1)))) (dVar 2)))) (dVar 6)) (dK (.int 0)))) (sSeq (sPars [4, 5] (mVal (dBin gAdd (dSl (dVar 0) (oSome (dVar 1)) (oNone)) (dSl (dVar 0) (oNone) (oSome (dVar 1)))) (mVal (dK (.int 0)) (mNil)))) (sSeq (sWhile (dTst (dBin (gEq false) (dBin gIx (dVar 4) (dVar 5)) (dVar 2))) (sAsg 5 (dBin gAdd (dVar 5) (dK (.int 1))))) (sRet (dTup (aCons (dVar 4) (aCons (dVar 5) (aNil))))))))
def f_run_first : Fn := fnOf (["corner", "begin", "least", "many", "turned", "size", "number"] : List Str).length s_run_first
def s_counted (φ : Fn) : DStm :=
  sSeq (sAsg 1 (dCb gLen (aCons (dVar 0) (aNil)))) (sSeq (sIf (dTst (dBin (gEq false) (dCb gMinS (aCons (dVar 0) (aNil))) (dCb gMaxS (aCons (dVar 0) (aNil))))) (sRet (dBin gMul (dK (.int 2)) (dCall 2 f_choices_of (aCons (dVar 1) (aCons (dBin gSub (dBin gFdiv (dVar 1) (dK (.int 2))) (dK (.int 1))) (aNil)))))) (sSkip)) (sSeq (sUnp (tgT 2 (tgsCons (tgN 4) (tgsCons (tgN 5) (tgsNil)))) (dCall 1 f_run_first (aCons (dVar 0) (aNil)))) (sSeq (sAsg 2 (dSl (dVar 4) (oSome (dVar 5)) (oNone))) (sSeq (sIf (dTst (dBin (gEq false) (dBin gMod (dVar 5) (dK (.int 2))) (dK (.int 0)))) (sRet (dBin gMul (dCall 2 f_choices_of (aCons (dBin gAdd (dVar 5) (dK (.int 1))) (aCons (dBin gFdiv (dVar 5) (dK (.int 2))) (aNil)))) (dCall 1 φ (aCons (dVar 2) (aNil))))) (sSkip)) (sSeq (sAsg 3 (dBin gSub (dBin gAdd (dBin gIx (dVar 2) (dK (.int 0))) (dBin gIx (dVar 2) (dUn gNeg (dK (.int 1))))) (dBin gIx (dVar 4) (dK (.int 0))))) (sRet (dBin gMul (dCall 2 f_choices_of (aCons (dBin gAdd (dVar 5) (dK (.int 1))) (aCons (dBin gFdiv (dBin gAdd (dVar 5) (dK (.int 1))) (dK (.int 2))) (aNil)))) (dCall 1 φ (aCons (dTup (aCons (dVar 3) (aStar (dSl (dVar 2) (oSome (dK (.int 1))) (oSome (dUn gNeg (dK (.int 1))))) (aNil)))) (aNil))))))))))
def f_counted : Fn := recF (fun φ => fnOf (["corner", "many", "rest", "whole", "turned", "size"] : List Str).length (s_counted φ)) 8
def s_count_signs : DStm :=
  sRet (dIf (dTst (dCall 1 f_is_closed_in (aCons (dCall 1 f_need_corner (aCons (dVar 0) (aNil))) (aNil)))) (dCall 1 f_counted (aCons (dVar 0) (aNil))) (dK (.int 0)))
def f_count_signs : Fn := fnOf (["corner"] : List Str).length s_count_signs
def s_all_signs : DStm :=
  sSeq (sAsg 1 (dLst (aCons (dK (.str "")) (aNil)))) (sSeq (sFor (iVal (dVar 0)) (tgN 2) (sAsg 1 (dLc2 (iVal (dVar 1)) [4, 5] (tgN 4) (cYes) (iVal (dTup (aCons (dK (.str "M")) (aCons (dK (.str "V")) (aNil))))) [5] (tgN 5) (cYes) (dBin gAdd (dVar 4) (dVar 5))))) (sSeq (sAsg 3 (dLc (iVal (dVar 1)) [4] (tgN 4) (dTst (dBin (gEq false) (dCb gAbs (aCons (dBin gSub (dCb gLen (aCons (dVar 4) (aNil))) (dBin gMul (dK (.int 2)) (dM1 gCount (dVar 4) (dK (.str "V"))))) (aNil))) (dK (.int 2)))) (dVar 4))) (sRet (dLc (iVal (dVar 3)) [4] (tgN 4) (dTst (dCall 2 f_folds_in (aCons (dVar 0) (aCons (dVar 4) (aNil))))) (dVar 4)))))
def f_all_signs : Fn := fnOf (["corner", "rows", "_", "some", "row", "letter"] : List Str).length s_all_signs
def s_number_of : DStm :=
  sSeq (sDrop (dCall 2 f_need_signs (aCons (dVar 0) (aCons (dVar 1) (aNil))))) (sSeq (sAsg 2 (dCall 1 f_all_signs (aCons (dVar 0) (aNil)))) (sRet (dIf (dTst (dBin (gIn false) (dVar 1) (dVar 2))) (dBmL gIndexL (dVar 2) (aCons (dVar 1) (aNil))) (dK .non))))
def f_number_of : Fn := fnOf (["corner", "signs", "some"] : List Str).length s_number_of
def s_need_few : DStm :=
  sIf (dTst (dBin gGt (dCb gLen (aCons (dVar 0) (aNil))) (dVar 1))) (sDead) (sSkip)
def f_need_few : Fn := fnOf (["corner", "most"] : List Str).length s_need_few
def s__wall : DStm :=
  sWhile (dTst (dK (.bl true))) (sSkip)
def f__wall : Fn := fnOf (["k"] : List Str).length s__wall
def s_is_number_text : DStm :=
  sSeq (sIf (dOr (dNot (dTst (dChain gLe gLe (dK (.int 1)) (dCb gLen (aCons (dVar 0) (aNil))) (dK (.int 31))))) (dNot (dTst (dCb gAll (aCons (dLc (iVal (dVar 0)) [1] (tgN 1) (cYes) (dBin (gIn false) (dVar 1) (dK (.str "0123456789")))) (aNil)))))) (sRet (dK (.bl false))) (sSkip)) (sRet (dOrV (dBin (gEq false) (dVar 0) (dK (.str "0"))) (dBin (gEq true) (dBin gIx (dVar 0) (dK (.int 0))) (dK (.str "0")))))
def f_is_number_text : Fn := fnOf (["text", "sign"] : List Str).length s_is_number_text
def s_text_of : DStm :=
  sRet (dM1 gJoin (dK (.str " ")) (dLc (iZ2 (aCons (dVar 1) (aCons (dVar 0) (aNil)))) [2, 3] (tgT 2 (tgsCons (tgN 2) (tgsCons (tgN 3) (tgsNil)))) (cYes) (dJs2 (dFmt (dVar 2)) (dFmt (dVar 3)))))
def f_text_of : Fn := fnOf (["corner", "signs", "letter", "angle"] : List Str).length s_text_of
def s_corner_text : DStm :=
  sSeq (sDrop (dCall 2 f_need_signs (aCons (dVar 0) (aCons (dVar 1) (aNil))))) (sRet (dCall 2 f_text_of (aCons (dVar 0) (aCons (dVar 1) (aNil)))))
def f_corner_text : Fn := fnOf (["corner", "signs"] : List Str).length s_corner_text
def s_read_corner : DStm :=
  sSeq (sIf (dNot (dTst (dCb gIsi (aCons (dVar 0) (aCons (dK (.ty "str")) (aNil)))))) (sDead) (sSkip)) (sSeq (sAsg 1 (dM1 gSplit (dVar 0) (dK (.str " ")))) (sSeq (sFor (iEn (aCons (dVar 1) (aNil))) (tgT 2 (tgsCons (tgN 3) (tgsCons (tgN 4) (tgsNil)))) (sIf (dOr (dTst (dBin (gIn true) (dSl (dVar 4) (oNone) (oSome (dK (.int 1)))) (dTup (aCons (dK (.str "M")) (aCons (dK (.str "V")) (aNil)))))) (dNot (dTst (dCall 1 f_is_number_text (aCons (dSl (dVar 4) (oSome (dK (.int 1))) (oNone)) (aNil)))))) (sDead) (sSkip))) (sSeq (sAsg 2 (dCall 1 f_need_corner (aCons (dCb gTuple (aCons (dLc (iVal (dVar 1)) [4] (tgN 4) (cYes) (dCb gIntS (aCons (dSl (dVar 4) (oSome (dK (.int 1))) (oNone)) (aNil)))) (aNil))) (aNil)))) (sRet (dTup (aCons (dVar 2) (aCons (dM1 gJoin (dK (.str "")) (dLc (iVal (dVar 1)) [4] (tgN 4) (cYes) (dBin gIx (dVar 4) (dK (.int 0))))) (aNil))))))))
def f_read_corner : Fn := fnOf (["string", "words", "corner", "number", "word"] : List Str).length s_read_corner
def s_yes_or_not : DStm :=
  sRet (dIf (dTst (dVar 0)) (dK (.str "yes")) (dK (.str "not")))
def f_yes_or_not : Fn := fnOf (["held"] : List Str).length s_yes_or_not
def s_spaced : DStm :=
  sRet (dIf (dTst (dBin (gEq true) (dVar 0) (dTup (aNil)))) (dM1 gJoin (dK (.str " ")) (dLc (iVal (dVar 0)) [1] (tgN 1) (cYes) (dCb gStrI (aCons (dVar 1) (aNil))))) (dK (.str "none")))
def f_spaced : Fn := fnOf (["numbers", "number"] : List Str).length s_spaced
def s_crimped : DStm :=
  sSeq (sDrop (dCall 2 f_need_signs (aCons (dVar 0) (aCons (dVar 1) (aNil))))) (sSeq (sDrop (dCall 2 f_need_sector (aCons (dVar 0) (aCons (dVar 2) (aNil))))) (sSeq (sIf (dTst (dBin (gIn true) (dVar 2) (dCall 2 f_crimpable_in (aCons (dVar 0) (aCons (dVar 1) (aNil)))))) (sDead) (sSkip)) (sRet (dCall 3 f_crimped_in (aCons (dVar 0) (aCons (dVar 1) (aCons (dVar 2) (aNil))))))))
def f_crimped : Fn := fnOf (["corner", "signs", "sector"] : List Str).length s_crimped
def s_signs_at : DStm :=
  sSeq (sIf (dNot (dTst (dCall 3 f_is_whole (aCons (dVar 1) (aCons (dK (.int 0)) (aCons (dBin gSub (dCall 1 f_count_signs (aCons (dVar 0) (aNil))) (dK (.int 1))) (aNil))))))) (sDead) (sSkip)) (sRet (dBin gIx (dCall 1 f_all_signs (aCons (dVar 0) (aNil))) (dVar 1)))
def f_signs_at : Fn := fnOf (["corner", "number"] : List Str).length s_signs_at
def s_is_mask : DStm :=
  sRet (dAndV (dCb gIsi (aCons (dVar 1) (aCons (dK (.ty "str")) (aNil)))) (dAndV (dBin (gEq false) (dCb gLen (aCons (dVar 1) (aNil))) (dCb gLen (aCons (dVar 0) (aNil)))) (dCb gAll (aCons (dLc (iVal (dVar 1)) [2] (tgN 2) (cYes) (dBin (gIn false) (dVar 2) (dK (.str "MV?")))) (aNil)))))
def f_is_mask : Fn := fnOf (["corner", "value", "letter"] : List Str).length s_is_mask
def s_need_mask : DStm :=
  sSeq (sIf (dNot (dTst (dCall 2 f_is_mask (aCons (dCall 1 f_need_corner (aCons (dVar 0) (aNil))) (aCons (dVar 1) (aNil)))))) (sDead) (sSkip)) (sRet (dVar 1))
def f_need_mask : Fn := fnOf (["corner", "value"] : List Str).length s_need_mask
def s_run_in : DStm :=
  sSeq (sAsg 1 (dCb gMinS (aCons (dVar 0) (aNil)))) (sSeq (sAsg 2 (dBin gIx (dLc (iEn (aCons (dVar 0) (aNil))) [4, 5] (tgT 2 (tgsCons (tgN 4) (tgsCons (tgN 5) (tgsNil)))) (dAnd (dTst (dBin (gEq false) (dVar 5) (dVar 1))) (dTst (dBin (gEq true) (dBin gIx (dVar 0) (dBin gSub (dVar 4) (dK (.int 1)))) (dVar 1)))) (dVar 4)) (dK (.int 0)))) (sSeq (sAsg 3 (dBin gAdd (dSl (dVar 0) (oSome (dVar 2)) (oNone)) (dSl (dVar 0) (oNone) (oSome (dVar 2))))) (sRet (dTup (aCons (dVar 2) (aCons (dBin gIx (dLc (iEn (aCons (dVar 3) (aNil))) [4, 5] (tgT 2 (tgsCons (tgN 4) (tgsCons (tgN 5) (tgsNil)))) (dTst (dBin (gEq true) (dVar 5) (dVar 1))) (dVar 4)) (dK (.int 0))) (aNil)))))))
def f_run_in : Fn := fnOf (["angles", "least", "begin", "turned", "spot", "angle"] : List Str).length s_run_in
def s_Counting_plus : DStm :=
  sRet (dBin gAdd (dVar 1) (dVar 2))
def f_Counting_plus : Fn := fnOf (["self", "one", "other"] : List Str).length s_Counting_plus
def s_Counting_times : DStm :=
  sRet (dBin gMul (dVar 1) (dVar 2))
def f_Counting_times : Fn := fnOf (["self", "one", "other"] : List Str).length s_Counting_times
def s_by_number : DStm :=
  sSeq (sAsg 2 (dLst (aCons (dAt ["Counting"] "unit" (dVar 1)) (aNil)))) (sSeq (sFor (iVal (dVar 0)) (tgT 2 (tgsCons (tgN 3) (tgsCons (tgN 4) (tgsNil)))) (sSeq (sOwn 5 (fMul (dLst (aCons (dAt ["Counting"] "zero" (dVar 1)) (aNil))) (dBin gAdd (dCb gLen (aCons (dVar 2) (aNil))) (dK (.int 1))))) (sSeq (sFor (iEn (aCons (dVar 2) (aNil))) (tgT 2 (tgsCons (tgN 6) (tgsCons (tgN 7) (tgsNil)))) (sSeq (sSetIx 5 (dVar 6) (dPeek 5 (dMth ([("Counting", f_Counting_plus)] : List (Str × Fn)) "plus" 3 (dVar 1) (aCons (dBin gIx (dVar 5) (dVar 6)) (aCons (dMth ([("Counting", f_Counting_times)] : List (Str × Fn)) "times" 3 (dVar 1) (aCons (dVar 7) (aCons (dVar 4) (aNil)))) (aNil)))))) (sSetIx 5 (dBin gAdd (dVar 6) (dK (.int 1))) (dPeek 5 (dMth ([("Counting", f_Counting_plus)] : List (Str × Fn)) "plus" 3 (dVar 1) (aCons (dBin gIx (dVar 5) (dBin gAdd (dVar 6) (dK (.int 1)))) (aCons (dMth ([("Counting", f_Counting_times)] : List (Str × Fn)) "times" 3 (dVar 1) (aCons (dVar 7) (aCons (dVar 3) (aNil)))) (aNil)))))))) (sFrz 5 (sAsg 2 (dVar 5)))))) (sRet (dVar 2)))
def f_by_number : Fn := fnOf (["pairs", "ring", "table", "mountain", "valley", "longer", "many", "value"] : List Str).length s_by_number
def s_folded_sum : DStm :=
  sSeq (sPars [3, 1, 4] (mVal (dCb gList (aCons (dVar 0) (aNil))) (mVal (dCb gList (aCons (dVar 1) (aNil))) (mVal (dAt ["Counting"] "unit" (dVar 2)) (mNil))))) (sSeq (sWhile (dTst (dBin (gEq true) (dCb gMinS (aCons (dVar 3) (aNil))) (dCb gMaxS (aCons (dVar 3) (aNil))))) (sSeq (sUnp (tgT 2 (tgsCons (tgN 7) (tgsCons (tgN 8) (tgsNil)))) (dCall 1 f_run_in (aCons (dVar 3) (aNil)))) (sSeq (sPars [3, 1] (mVal (dBin gAdd (dSl (dVar 3) (oSome (dVar 7)) (oNone)) (dSl (dVar 3) (oNone) (oSome (dVar 7)))) (mVal (dBin gAdd (dSl (dVar 1) (oSome (dVar 7)) (oNone)) (dSl (dVar 1) (oNone) (oSome (dVar 7)))) (mNil)))) (sSeq (sPars [5, 6] (mVal (dCall 2 f_by_number (aCons (dSl (dVar 1) (oNone) (oSome (dBin gAdd (dVar 8) (dK (.int 1))))) (aCons (dVar 2) (aNil)))) (mVal (dBin gFdiv (dBin gAdd (dVar 8) (dK (.int 1))) (dK (.int 2))) (mNil)))) (sIf (dTst (dBin (gEq false) (dBin gMod (dVar 8) (dK (.int 2))) (dK (.int 1)))) (sSeq (sAsg 4 (dMth ([("Counting", f_Counting_times)] : List (Str × Fn)) "times" 3 (dVar 2) (aCons (dVar 4) (aCons (dBin gIx (dVar 5) (dVar 6)) (aNil))))) (sSeq (sAsg 3 (dBin gAdd (dLst (aCons (dBin gSub (dBin gAdd (dBin gIx (dVar 3) (dUn gNeg (dK (.int 1)))) (dBin gIx (dVar 3) (dVar 8))) (dBin gIx (dVar 3) (dK (.int 0)))) (aNil))) (dSl (dVar 3) (oSome (dBin gAdd (dVar 8) (dK (.int 1)))) (oSome (dUn gNeg (dK (.int 1))))))) (sAsg 1 (dBin gAdd (dLst (aCons (dBin gIx (dVar 1) (dUn gNeg (dK (.int 1)))) (aNil))) (dSl (dVar 1) (oSome (dBin gAdd (dVar 8) (dK (.int 1)))) (oSome (dUn gNeg (dK (.int 1))))))))) (sPars [3, 1] (mVal (dSl (dVar 3) (oSome (dVar 8)) (oNone)) (mVal (dBin gAdd (dLst (aCons (dTup (aCons (dBin gIx (dVar 5) (dBin gAdd (dVar 6) (dK (.int 1)))) (aCons (dBin gIx (dVar 5) (dVar 6)) (aNil)))) (aNil))) (dSl (dVar 1) (oSome (dBin gAdd (dVar 8) (dK (.int 1)))) (oNone))) (mNil))))))))) (sSeq (sPars [5, 6] (mVal (dCall 2 f_by_number (aCons (dVar 1) (aCons (dVar 2) (aNil)))) (mVal (dBin gFdiv (dCb gLen (aCons (dVar 1) (aNil))) (dK (.int 2))) (mNil)))) (sRet (dMth ([("Counting", f_Counting_times)] : List (Str × Fn)) "times" 3 (dVar 2) (aCons (dVar 4) (aCons (dMth ([("Counting", f_Counting_plus)] : List (Str × Fn)) "plus" 3 (dVar 2) (aCons (dBin gIx (dVar 5) (dBin gAdd (dVar 6) (dK (.int 1)))) (aCons (dBin gIx (dVar 5) (dBin gSub (dVar 6) (dK (.int 1)))) (aNil)))) (aNil)))))))
def f_folded_sum : Fn := fnOf (["corner", "pairs", "ring", "angles", "total", "table", "half", "begin", "size"] : List Str).length s_folded_sum
def s_pair_for : DStm :=
  sRet (dTup (aCons (dCb gInt (aCons (dBin (gEq true) (dVar 0) (dK (.str "V"))) (aNil))) (aCons (dCb gInt (aCons (dBin (gEq true) (dVar 0) (dK (.str "M"))) (aNil))) (aNil))))
def f_pair_for : Fn := fnOf (["letter"] : List Str).length s_pair_for
def s_count_in : DStm :=
  sSeq (sIf (dNot (dTst (dCall 1 f_is_closed_in (aCons (dVar 0) (aNil))))) (sRet (dK (.int 0))) (sSkip)) (sRet (dCall 3 f_folded_sum (aCons (dVar 0) (aCons (dLc (iVal (dVar 1)) [2] (tgN 2) (cYes) (dCall 1 f_pair_for (aCons (dVar 2) (aNil)))) (aCons (dNew "Counting" ["zero", "unit"] [.int 0, .int 1]) (aNil))))))
def f_count_in : Fn := fnOf (["corner", "mask", "letter"] : List Str).length s_count_in
def s_count_with : DStm :=
  sSeq (sDrop (dCall 2 f_need_mask (aCons (dVar 0) (aCons (dVar 1) (aNil))))) (sRet (dCall 2 f_count_in (aCons (dVar 0) (aCons (dVar 1) (aNil)))))
def f_count_with : Fn := fnOf (["corner", "mask"] : List Str).length s_count_with
def s_put_letter : DStm :=
  sRet (dBin gAdd (dBin gAdd (dSl (dVar 0) (oNone) (oSome (dVar 1))) (dVar 2)) (dSl (dVar 0) (oSome (dBin gAdd (dVar 1) (dK (.int 1)))) (oNone)))
def f_put_letter : Fn := fnOf (["mask", "spot", "letter"] : List Str).length s_put_letter
def s_signs_in_order : DStm :=
  sSeq (sPars [3, 4] (mVal (dVar 1) (mVal (dVar 2) (mNil)))) (sSeq (sFor (iEn (aCons (dVar 1) (aNil))) (tgT 2 (tgsCons (tgN 5) (tgsCons (tgN 6) (tgsNil)))) (sIf (dTst (dBin (gEq false) (dVar 6) (dK (.str "?")))) (sSeq (sAsg 7 (dCall 3 f_put_letter (aCons (dVar 3) (aCons (dVar 5) (aCons (dK (.str "M")) (aNil)))))) (sSeq (sAsg 8 (dCall 2 f_count_in (aCons (dVar 0) (aCons (dVar 7) (aNil))))) (sIf (dTst (dBin gLt (dVar 4) (dVar 8))) (sAsg 3 (dVar 7)) (sSeq (sAsg 4 (dBin gSub (dVar 4) (dVar 8))) (sAsg 3 (dCall 3 f_put_letter (aCons (dVar 3) (aCons (dVar 5) (aCons (dK (.str "V")) (aNil)))))))))) (sSkip))) (sRet (dVar 3)))
def f_signs_in_order : Fn := fnOf (["corner", "mask", "number", "found", "left", "spot", "letter", "mountain", "many"] : List Str).length s_signs_in_order
def s_signs_with : DStm :=
  sSeq (sDrop (dCall 2 f_need_mask (aCons (dVar 0) (aCons (dVar 1) (aNil))))) (sSeq (sIf (dNot (dTst (dCall 3 f_is_whole (aCons (dVar 2) (aCons (dK (.int 0)) (aCons (dBin gSub (dCall 2 f_count_in (aCons (dVar 0) (aCons (dVar 1) (aNil)))) (dK (.int 1))) (aNil))))))) (sDead) (sSkip)) (sRet (dCall 3 f_signs_in_order (aCons (dVar 0) (aCons (dVar 1) (aCons (dVar 2) (aNil)))))))
def f_signs_with : Fn := fnOf (["corner", "mask", "number"] : List Str).length s_signs_with
def s_sure_letter : DStm :=
  sSeq (sIf (dOr (dTst (dBin (gEq true) (dBin gIx (dVar 1) (dVar 2)) (dK (.str "?")))) (dTst (dBin (gEq false) (dCall 2 f_count_in (aCons (dVar 0) (aCons (dCall 3 f_put_letter (aCons (dVar 1) (aCons (dVar 2) (aCons (dK (.str "V")) (aNil))))) (aNil)))) (dK (.int 0))))) (sRet (dIf (dTst (dBin (gEq true) (dBin gIx (dVar 1) (dVar 2)) (dK (.str "?")))) (dBin gIx (dVar 1) (dVar 2)) (dK (.str "M")))) (sSkip)) (sRet (dIf (dTst (dBin (gEq false) (dCall 2 f_count_in (aCons (dVar 0) (aCons (dCall 3 f_put_letter (aCons (dVar 1) (aCons (dVar 2) (aCons (dK (.str "M")) (aNil))))) (aNil)))) (dK (.int 0)))) (dK (.str "V")) (dK (.str "?"))))
def f_sure_letter : Fn := fnOf (["corner", "mask", "spot"] : List Str).length s_sure_letter
def s_sure_letters : DStm :=
  sSeq (sDrop (dCall 2 f_need_mask (aCons (dVar 0) (aCons (dVar 1) (aNil))))) (sSeq (sIf (dTst (dBin (gEq false) (dCall 2 f_count_in (aCons (dVar 0) (aCons (dVar 1) (aNil)))) (dK (.int 0)))) (sDead) (sSkip)) (sRet (dM1 gJoin (dK (.str "")) (dLc (iRange1 (aCons (dCb gLen (aCons (dVar 1) (aNil))) (aNil))) [2] (tgN 2) (cYes) (dCall 3 f_sure_letter (aCons (dVar 0) (aCons (dVar 1) (aCons (dVar 2) (aNil)))))))))
def f_sure_letters : Fn := fnOf (["corner", "mask", "spot"] : List Str).length s_sure_letters
def s_are_creases : DStm :=
  sSeq (sIf (dOr (dNot (dTst (dCb gIsi (aCons (dVar 1) (aCons (dK (.ty "tuple")) (aNil)))))) (dNot (dTst (dCb gAll (aCons (dLc (iVal (dVar 1)) [4] (tgN 4) (cYes) (dCall 3 f_is_whole (aCons (dVar 4) (aCons (dK (.int 0)) (aCons (dBin gSub (dCb gLen (aCons (dVar 0) (aNil))) (dK (.int 1))) (aNil)))))) (aNil)))))) (sRet (dK (.bl false))) (sSkip)) (sRet (dCb gAll (aCons (dLc (iZ2 (aCons (dVar 1) (aCons (dSl (dVar 1) (oSome (dK (.int 1))) (oNone)) (aNil)))) [2, 3] (tgT 2 (tgsCons (tgN 2) (tgsCons (tgN 3) (tgsNil)))) (cYes) (dBin gLt (dVar 2) (dVar 3))) (aNil))))
def f_are_creases : Fn := fnOf (["corner", "value", "one", "other", "crease"] : List Str).length s_are_creases
def s_need_folding : DStm :=
  sIf (dTst (dBin (gEq false) (dCall 2 f_count_in (aCons (dVar 0) (aCons (dVar 1) (aNil)))) (dK (.int 0)))) (sDead) (sSkip)
def f_need_folding : Fn := fnOf (["corner", "signs"] : List Str).length s_need_folding
def s_mask_at : DStm :=
  sRet (dM1 gJoin (dK (.str "")) (dLc (iEn (aCons (dVar 0) (aNil))) [2, 3] (tgT 2 (tgsCons (tgN 2) (tgsCons (tgN 3) (tgsNil)))) (cYes) (dIf (dTst (dBin (gIn false) (dVar 2) (dVar 1))) (dVar 3) (dK (.str "?")))))
def f_mask_at : Fn := fnOf (["signs", "creases", "spot", "letter"] : List Str).length s_mask_at
def s_lots_of : DStm :=
  sSeq (sAsg 2 (dLst (aCons (dTup (aNil)) (aNil)))) (sSeq (sFor (iRange1 (aCons (dVar 1) (aNil))) (tgN 3) (sSeq (sOwn 4 (fLst (aNil))) (sSeq (sFor (iVal (dVar 2)) (tgN 5) (sExt 4 (dLc (iRange2 (aCons (dIf (dTst (dBin (gEq true) (dVar 5) (dTup (aNil)))) (dBin gAdd (dBin gIx (dVar 5) (dUn gNeg (dK (.int 1)))) (dK (.int 1))) (dK (.int 0))) (aCons (dVar 0) (aNil)))) [6] (tgN 6) (cYes) (dTup (aStar (dVar 5) (aCons (dVar 6) (aNil))))))) (sFrz 4 (sAsg 2 (dVar 4)))))) (sRet (dVar 2)))
def f_lots_of : Fn := fnOf (["many", "size", "found", "turn", "longer", "lot", "spot"] : List Str).length s_lots_of
def s_forcing_of : DStm :=
  sSeq (sAsg 3 (dCall 2 f_lots_of (aCons (dCb gLen (aCons (dVar 0) (aNil))) (aCons (dVar 2) (aNil))))) (sRet (dLc (iVal (dVar 3)) [4] (tgN 4) (dTst (dBin (gEq false) (dCall 2 f_count_in (aCons (dVar 0) (aCons (dCall 2 f_mask_at (aCons (dVar 1) (aCons (dVar 4) (aNil)))) (aNil)))) (dK (.int 1)))) (dVar 4)))
def f_forcing_of : Fn := fnOf (["corner", "signs", "size", "some", "creases"] : List Str).length s_forcing_of
def s_Costing_plus : DStm :=
  sSeq (sIf (dOr (dTst (dBin (gIsN false) (dVar 1) (dK .non))) (dTst (dBin (gIsN false) (dVar 2) (dK .non)))) (sRet (dIf (dTst (dBin (gIsN false) (dVar 1) (dK .non))) (dVar 2) (dVar 1))) (sSkip)) (sSeq (sIf (dTst (dBin (gEq false) (dBin gIx (dVar 1) (dK (.int 0))) (dBin gIx (dVar 2) (dK (.int 0))))) (sRet (dTup (aCons (dBin gIx (dVar 1) (dK (.int 0))) (aCons (dBin gAdd (dBin gIx (dVar 1) (dK (.int 1))) (dBin gIx (dVar 2) (dK (.int 1)))) (aNil))))) (sSkip)) (sRet (dCb gMin2 (aCons (dVar 1) (aCons (dVar 2) (aNil))))))
def f_Costing_plus : Fn := fnOf (["self", "one", "other"] : List Str).length s_Costing_plus
def s_Costing_times : DStm :=
  sRet (dIf (dOr (dTst (dBin (gIsN false) (dVar 1) (dK .non))) (dTst (dBin (gIsN false) (dVar 2) (dK .non)))) (dK .non) (dTup (aCons (dBin gAdd (dBin gIx (dVar 1) (dK (.int 0))) (dBin gIx (dVar 2) (dK (.int 0)))) (aCons (dBin gMul (dBin gIx (dVar 1) (dK (.int 1))) (dBin gIx (dVar 2) (dK (.int 1)))) (aNil)))))
def f_Costing_times : Fn := fnOf (["self", "one", "other"] : List Str).length s_Costing_times
def s_need_all : DStm :=
  sSeq (sDrop (dCall 1 f_need_closed (aCons (dVar 0) (aNil)))) (sSeq (sDrop (dCall 2 f_need_signs (aCons (dVar 0) (aCons (dVar 1) (aNil))))) (sSeq (sIf (dOr (dNot (dTst (dCb gIsi (aCons (dVar 2) (aCons (dK (.ty "tuple")) (aNil)))))) (dTst (dBin (gEq true) (dCb gLen (aCons (dVar 2) (aNil))) (dCb gLen (aCons (dVar 0) (aNil)))))) (sDead) (sSkip)) (sIf (dNot (dTst (dCb gAll (aCons (dLc (iVal (dVar 2)) [3] (tgN 3) (cYes) (dCall 3 f_is_whole (aCons (dVar 3) (aCons (dK (.int 0)) (aCons (dK (.int 1000)) (aNil)))))) (aNil))))) (sDead) (sSkip))))
def f_need_all : Fn := fnOf (["corner", "signs", "weights", "weight"] : List Str).length s_need_all
def s_pairs_for : DStm :=
  sSeq (sOwn 2 (fLst (aNil))) (sSeq (sFor (iZ2 (aCons (dVar 0) (aCons (dVar 1) (aNil)))) (tgT 2 (tgsCons (tgN 3) (tgsCons (tgN 4) (tgsNil)))) (sApp 2 (dIf (dTst (dBin (gEq false) (dVar 3) (dK (.str "M")))) (dTup (aCons (dTup (aCons (dK (.int 0)) (aCons (dK (.int 1)) (aNil)))) (aCons (dTup (aCons (dVar 4) (aCons (dK (.int 1)) (aNil)))) (aNil)))) (dTup (aCons (dTup (aCons (dVar 4) (aCons (dK (.int 1)) (aNil)))) (aCons (dTup (aCons (dK (.int 0)) (aCons (dK (.int 1)) (aNil)))) (aNil))))))) (sFrz 2 (sRet (dVar 2))))
def f_pairs_for : Fn := fnOf (["signs", "weights", "found", "letter", "weight"] : List Str).length s_pairs_for
def s_cheapest : DStm :=
  sRet (dCall 3 f_folded_sum (aCons (dVar 0) (aCons (dCall 2 f_pairs_for (aCons (dVar 1) (aCons (dVar 2) (aNil)))) (aCons (dNew "Costing" ["zero", "unit"] [.non, .tup [.int 0, .int 1]]) (aNil)))))
def f_cheapest : Fn := fnOf (["corner", "signs", "weights"] : List Str).length s_cheapest
def s_mend_cost : DStm :=
  sSeq (sDrop (dCall 3 f_need_all (aCons (dVar 0) (aCons (dVar 1) (aCons (dVar 2) (aNil)))))) (sRet (dBin gIx (dCall 3 f_cheapest (aCons (dVar 0) (aCons (dVar 1) (aCons (dVar 2) (aNil))))) (dK (.int 0))))
def f_mend_cost : Fn := fnOf (["corner", "signs", "weights"] : List Str).length s_mend_cost
def s_count_mended : DStm :=
  sSeq (sDrop (dCall 3 f_need_all (aCons (dVar 0) (aCons (dVar 1) (aCons (dVar 2) (aNil)))))) (sRet (dBin gIx (dCall 3 f_cheapest (aCons (dVar 0) (aCons (dVar 1) (aCons (dVar 2) (aNil))))) (dK (.int 1))))
def f_count_mended : Fn := fnOf (["corner", "signs", "weights"] : List Str).length s_count_mended
def s_mended : DStm :=
  sSeq (sDrop (dCall 3 f_need_all (aCons (dVar 0) (aCons (dVar 1) (aCons (dVar 2) (aNil)))))) (sSeq (sPars [3, 4, 5] (mVal (dCall 2 f_pairs_for (aCons (dVar 1) (aCons (dVar 2) (aNil)))) (mVal (dBin gIx (dCall 3 f_cheapest (aCons (dVar 0) (aCons (dVar 1) (aCons (dVar 2) (aNil))))) (dK (.int 0))) (mVal (dK (.str "")) (mNil))))) (sSeq (sFor (iEn (aCons (dCb gList (aCons (dVar 3) (aNil))) (aNil))) (tgT 2 (tgsCons (tgN 6) (tgsCons (tgT 2 (tgsCons (tgN 9) (tgsCons (tgN 10) (tgsNil)))) (tgsNil)))) (sSeq (sPars [11, 12] (mVal (dSl (dVar 3) (oNone) (oSome (dVar 6))) (mVal (dSl (dVar 3) (oSome (dBin gAdd (dVar 6) (dK (.int 1)))) (oNone)) (mNil)))) (sSeq (sAsg 7 (dCall 3 f_folded_sum (aCons (dVar 0) (aCons (dLst (aStar (dVar 11) (aCons (dTup (aCons (dVar 9) (aCons (dK .non) (aNil)))) (aStar (dVar 12) (aNil))))) (aCons (dNew "Costing" ["zero", "unit"] [.non, .tup [.int 0, .int 1]]) (aNil)))))) (sSeq (sAsg 8 (dAndV (dBin (gIsN true) (dVar 7) (dK .non)) (dBin (gEq false) (dBin gIx (dVar 7) (dK (.int 0))) (dVar 4)))) (sSeq (sAsg 5 (dBin gAdd (dVar 5) (dIf (dTst (dVar 8)) (dK (.str "M")) (dK (.str "V"))))) (sAsg 3 (dLst (aStar (dVar 11) (aCons (dIf (dTst (dVar 8)) (dTup (aCons (dVar 9) (aCons (dK .non) (aNil)))) (dTup (aCons (dK .non) (aCons (dVar 10) (aNil))))) (aStar (dVar 12) (aNil))))))))))) (sRet (dVar 5))))
def f_mended : Fn := fnOf (["corner", "signs", "weights", "pairs", "due", "found", "spot", "told", "is_mountain", "mountain", "valley", "ahead", "behind"] : List Str).length s_mended
def s_need_odd : DStm :=
  sSeq (sDrop (dCall 1 f_need_corner (aCons (dVar 0) (aNil)))) (sIf (dOr (dTst (dBin (gEq false) (dBin gMod (dCb gLen (aCons (dVar 0) (aNil))) (dK (.int 2))) (dK (.int 0)))) (dTst (dBin gGt (dCb gSum (aCons (dVar 0) (aNil))) (dK (.int 100000000000000000000000000000))))) (sDead) (sSkip))
def f_need_odd : Fn := fnOf (["corner"] : List Str).length s_need_odd
def s_split_at : DStm :=
  sSeq (sAsg 3 (dLc (iVal (dVar 0)) [4] (tgN 4) (cYes) (dBin gMul (dK (.int 2)) (dVar 4)))) (sRet (dTup (aStar (dSl (dVar 3) (oNone) (oSome (dVar 1))) (aCons (dVar 2) (aCons (dBin gSub (dBin gIx (dVar 3) (dVar 1)) (dVar 2)) (aStar (dSl (dVar 3) (oSome (dBin gAdd (dVar 1) (dK (.int 1)))) (oNone)) (aNil)))))))
def f_split_at : Fn := fnOf (["corner", "sector", "angle", "double", "one"] : List Str).length s_split_at
def s_turned_sum : DStm :=
  sRet (dCb gSum (aCons (dLc (iEn (aCons (dVar 0) (aNil))) [1, 2] (tgT 2 (tgsCons (tgN 1) (tgsCons (tgN 2) (tgsNil)))) (cYes) (dIf (dTst (dBin (gEq false) (dBin gMod (dVar 1) (dK (.int 2))) (dK (.int 0)))) (dVar 2) (dBin gSub (dK (.int 0)) (dVar 2)))) (aNil)))
def f_turned_sum : Fn := fnOf (["angles", "spot", "angle"] : List Str).length s_turned_sum
def s_closings_in : DStm :=
  sSeq (sOwn 1 (fLst (aNil))) (sSeq (sFor (iEn (aCons (dVar 0) (aNil))) (tgT 2 (tgsCons (tgN 2) (tgsCons (tgN 3) (tgsNil)))) (sSeq (sAsg 4 (dCall 1 f_turned_sum (aCons (dLst (aStar (dSl (dVar 0) (oNone) (oSome (dVar 2))) (aCons (dK (.int 0)) (aCons (dK (.int 0)) (aStar (dSl (dVar 0) (oSome (dBin gAdd (dVar 2) (dK (.int 1)))) (oNone)) (aNil)))))) (aNil)))) (sSeq (sAsg 5 (dIf (dTst (dBin (gEq false) (dBin gMod (dVar 2) (dK (.int 2))) (dK (.int 0)))) (dBin gSub (dVar 3) (dVar 4)) (dBin gAdd (dVar 3) (dVar 4)))) (sIf (dTst (dChain gLt gLt (dK (.int 0)) (dVar 5) (dBin gMul (dK (.int 2)) (dVar 3)))) (sApp 1 (dTup (aCons (dVar 2) (aCons (dVar 5) (aNil))))) (sSkip))))) (sFrz 1 (sRet (dVar 1))))
def f_closings_in : Fn := fnOf (["corner", "found", "sector", "own", "rest", "angle"] : List Str).length s_closings_in
def s_closings : DStm :=
  sSeq (sDrop (dCall 1 f_need_odd (aCons (dVar 0) (aNil)))) (sRet (dCb gTuple (aCons (dCall 1 f_closings_in (aCons (dVar 0) (aNil))) (aNil))))
def f_closings : Fn := fnOf (["corner"] : List Str).length s_closings
def s_is_place : DStm :=
  sSeq (sIf (dOr (dNot (dTst (dCb gIsi (aCons (dVar 1) (aCons (dK (.ty "tuple")) (aNil)))))) (dOr (dTst (dBin (gEq true) (dCb gLen (aCons (dVar 1) (aNil))) (dK (.int 2)))) (dNot (dTst (dCall 3 f_is_whole (aCons (dBin gIx (dVar 1) (dK (.int 0))) (aCons (dK (.int 0)) (aCons (dBin gSub (dCb gLen (aCons (dVar 0) (aNil))) (dK (.int 1))) (aNil))))))))) (sRet (dK (.bl false))) (sSkip)) (sRet (dCall 3 f_is_whole (aCons (dBin gIx (dVar 1) (dK (.int 1))) (aCons (dK (.int 1)) (aCons (dBin gSub (dBin gMul (dK (.int 2)) (dBin gIx (dVar 0) (dBin gIx (dVar 1) (dK (.int 0))))) (dK (.int 1))) (aNil))))))
def f_is_place : Fn := fnOf (["corner", "value"] : List Str).length s_is_place
def s_with_crease : DStm :=
  sSeq (sDrop (dCall 1 f_need_odd (aCons (dVar 0) (aNil)))) (sSeq (sIf (dNot (dTst (dCall 2 f_is_place (aCons (dVar 0) (aCons (dVar 1) (aNil)))))) (sDead) (sSkip)) (sRet (dCall 3 f_split_at (aCons (dVar 0) (aCons (dBin gIx (dVar 1) (dK (.int 0))) (aCons (dBin gIx (dVar 1) (dK (.int 1))) (aNil)))))))
def f_with_crease : Fn := fnOf (["corner", "place"] : List Str).length s_with_crease
def s_completions : DStm :=
  sSeq (sDrop (dCall 1 f_need_odd (aCons (dVar 0) (aNil)))) (sSeq (sDrop (dCall 2 f_need_signs (aCons (dVar 0) (aCons (dVar 1) (aNil))))) (sSeq (sOwn 2 (fLst (aNil))) (sSeq (sFor (iVal (dCall 1 f_closings_in (aCons (dVar 0) (aNil)))) (tgT 2 (tgsCons (tgN 3) (tgsCons (tgN 4) (tgsNil)))) (sSeq (sAsg 5 (dCall 3 f_split_at (aCons (dVar 0) (aCons (dVar 3) (aCons (dVar 4) (aNil)))))) (sFor (iVal (dTup (aCons (dK (.str "M")) (aCons (dK (.str "V")) (aNil))))) (tgN 6) (sIf (dTst (dBin (gEq false) (dCall 2 f_count_in (aCons (dVar 5) (aCons (dBin gAdd (dBin gAdd (dSl (dVar 1) (oNone) (oSome (dBin gAdd (dVar 3) (dK (.int 1))))) (dVar 6)) (dSl (dVar 1) (oSome (dBin gAdd (dVar 3) (dK (.int 1)))) (oNone))) (aNil)))) (dK (.int 1)))) (sApp 2 (dTup (aCons (dVar 3) (aCons (dVar 4) (aCons (dVar 6) (aNil)))))) (sSkip))))) (sFrz 2 (sRet (dCb gTuple (aCons (dVar 2) (aNil))))))))
def f_completions : Fn := fnOf (["corner", "signs", "found", "sector", "angle", "whole", "letter"] : List Str).length s_completions
def s_is_fact : DStm :=
  sSeq (sIf (dOr (dNot (dTst (dCb gIsi (aCons (dVar 1) (aCons (dK (.ty "tuple")) (aNil)))))) (dTst (dBin (gEq true) (dCb gLen (aCons (dVar 1) (aNil))) (dK (.int 2))))) (sRet (dK (.bl false))) (sSkip)) (sRet (dAndV (dCb gAll (aCons (dLc (iVal (dVar 1)) [2] (tgN 2) (cYes) (dCall 3 f_is_whole (aCons (dVar 2) (aCons (dK (.int 0)) (aCons (dBin gSub (dCb gLen (aCons (dVar 0) (aNil))) (dK (.int 1))) (aNil)))))) (aNil))) (dBin (gEq true) (dBin gIx (dVar 1) (dK (.int 0))) (dBin gIx (dVar 1) (dK (.int 1))))))
def f_is_fact : Fn := fnOf (["corner", "value", "sector"] : List Str).length s_is_fact
def s_all_rows : DStm :=
  sSeq (sAsg 1 (dLst (aCons (dTup (aNil)) (aNil)))) (sSeq (sFor (iRange1 (aCons (dVar 0) (aNil))) (tgN 2) (sSeq (sOwn 3 (fLst (aNil))) (sSeq (sFor (iVal (dVar 1)) (tgN 4) (sExt 3 (dLc (iRange1 (aCons (dVar 0) (aNil))) [5] (tgN 5) (dTst (dBin (gIn true) (dVar 5) (dVar 4))) (dTup (aStar (dVar 4) (aCons (dVar 5) (aNil))))))) (sFrz 3 (sAsg 1 (dVar 3)))))) (sRet (dVar 1)))
def f_all_rows : Fn := fnOf (["many", "found", "turn", "longer", "row", "number"] : List Str).length s_all_rows
def s_sides_in : DStm :=
  sRet (dLc (iRange1 (aCons (dCb gLen (aCons (dVar 0) (aNil))) (aNil))) [1] (tgN 1) (cYes) (dTup (aCons (dBin gMod (dBin gSub (dVar 1) (dK (.int 1))) (dCb gLen (aCons (dVar 0) (aNil)))) (aCons (dVar 1) (aNil)))))
def f_sides_in : Fn := fnOf (["corner", "crease"] : List Str).length s_sides_in
def s_barred_in : DStm :=
  sSeq (sOwn 1 (fLst (aNil))) (sSeq (sFor (iZ2 (aCons (dCall 1 f_places_of (aCons (dVar 0) (aNil))) (aCons (dCall 1 f_sides_in (aCons (dVar 0) (aNil))) (aNil)))) (tgT 2 (tgsCons (tgN 2) (tgsCons (tgN 3) (tgsNil)))) (sSeq (sAsg 4 (dLc (iEn (aCons (dCall 1 f_ranges_of (aCons (dVar 0) (aNil))) (aNil))) [5, 6, 7] (tgT 2 (tgsCons (tgN 5) (tgsCons (tgT 2 (tgsCons (tgN 6) (tgsCons (tgN 7) (tgsNil)))) (tgsNil)))) (dTst (dChain gLt gLt (dVar 6) (dVar 2) (dVar 7))) (dVar 5))) (sExt 1 (dLc (iVal (dVar 4)) [5] (tgN 5) (cYes) (dTup (aCons (dVar 5) (aStar (dVar 3) (aNil)))))))) (sFrz 1 (sRet (dVar 1))))
def f_barred_in : Fn := fnOf (["corner", "found", "place", "sides", "some", "sector", "low", "high"] : List Str).length s_barred_in
def s_joined_in : DStm :=
  sSeq (sPars [1, 2] (mVal (dListZ (aCons (dCall 1 f_places_of (aCons (dVar 0) (aNil))) (aCons (dCall 1 f_sides_in (aCons (dVar 0) (aNil))) (aNil)))) (mOwn (fLst (aNil)) (mNil)))) (sSeq (sFor (iEn (aCons (dVar 1) (aNil))) (tgT 2 (tgsCons (tgN 3) (tgsCons (tgT 2 (tgsCons (tgN 5) (tgsCons (tgN 6) (tgsNil)))) (tgsNil)))) (sSeq (sAsg 4 (dLc (iEn (aCons (dVar 1) (aNil))) [7, 9, 8] (tgT 2 (tgsCons (tgN 7) (tgsCons (tgT 2 (tgsCons (tgN 9) (tgsCons (tgN 8) (tgsNil)))) (tgsNil)))) (dAnd (dTst (dBin (gEq false) (dVar 9) (dVar 5))) (dTst (dBin (gEq false) (dBin gMod (dBin gSub (dVar 7) (dVar 3)) (dK (.int 2))) (dK (.int 0))))) (dVar 8))) (sExt 2 (dLc (iVal (dVar 4)) [8] (tgN 8) (dTst (dBin (gEq true) (dVar 8) (dVar 6))) (dTup (aStar (dVar 6) (aStar (dVar 8) (aNil)))))))) (sFrz 2 (sRet (dVar 2))))
def f_joined_in : Fn := fnOf (["corner", "some", "found", "crease", "others", "place", "sides", "later", "far", "spot"] : List Str).length s_joined_in
def s_mirrored_in : DStm :=
  sRet (dTup (aCons (dSt (dVar 0) (oNone) (oNone) (oSome (dUn gNeg (dK (.int 1))))) (aCons (dBin gAdd (dSl (dVar 1) (oNone) (oSome (dK (.int 1)))) (dSt (dVar 1) (oNone) (oSome (dK (.int 0))) (oSome (dUn gNeg (dK (.int 1)))))) (aNil))))
def f_mirrored_in : Fn := fnOf (["corner", "signs"] : List Str).length s_mirrored_in
def s_mirrored : DStm :=
  sSeq (sDrop (dCall 2 f_need_signs (aCons (dVar 0) (aCons (dVar 1) (aNil))))) (sRet (dCall 2 f_mirrored_in (aCons (dVar 0) (aCons (dVar 1) (aNil)))))
def f_mirrored : Fn := fnOf (["corner", "signs"] : List Str).length s_mirrored
def s_is_move : DStm :=
  sSeq (sIf (dOr (dNot (dTst (dCb gIsi (aCons (dVar 1) (aCons (dK (.ty "tuple")) (aNil)))))) (dOr (dTst (dBin (gEq true) (dCb gLen (aCons (dVar 1) (aNil))) (dK (.int 3)))) (dNot (dTst (dCall 3 f_is_whole (aCons (dBin gIx (dVar 1) (dK (.int 0))) (aCons (dK (.int 0)) (aCons (dBin gSub (dCb gLen (aCons (dVar 0) (aNil))) (dK (.int 1))) (aNil))))))))) (sRet (dK (.bl false))) (sSkip)) (sRet (dAndV (dCb gIsi (aCons (dBin gIx (dVar 1) (dK (.int 1))) (aCons (dK (.ty "bool")) (aNil)))) (dCb gIsi (aCons (dBin gIx (dVar 1) (dK (.int 2))) (aCons (dK (.ty "bool")) (aNil))))))
def f_is_move : Fn := fnOf (["corner", "value"] : List Str).length s_is_move
def s_moved_in : DStm :=
  sSeq (sUnp (tgT 3 (tgsCons (tgN 3) (tgsCons (tgN 4) (tgsCons (tgN 5) (tgsNil))))) (dVar 2)) (sSeq (sUnp (tgT 2 (tgsCons (tgN 6) (tgsCons (tgN 7) (tgsNil)))) (dIf (dTst (dVar 4)) (dCall 2 f_mirrored_in (aCons (dVar 0) (aCons (dVar 1) (aNil)))) (dTup (aCons (dVar 0) (aCons (dVar 1) (aNil)))))) (sSeq (sUnp (tgT 2 (tgsCons (tgN 6) (tgsCons (tgN 7) (tgsNil)))) (dCall 3 f_renumbered_in (aCons (dVar 6) (aCons (dVar 7) (aCons (dVar 3) (aNil)))))) (sRet (dTup (aCons (dVar 6) (aCons (dIf (dTst (dVar 5)) (dCall 1 f_exchanged_in (aCons (dVar 7) (aNil))) (dVar 7)) (aNil)))))))
def f_moved_in : Fn := fnOf (["corner", "signs", "move", "begin", "is_mirrored", "is_swapped", "angles", "letters"] : List Str).length s_moved_in
def s_moved : DStm :=
  sSeq (sDrop (dCall 2 f_need_signs (aCons (dVar 0) (aCons (dVar 1) (aNil))))) (sSeq (sIf (dNot (dTst (dCall 2 f_is_move (aCons (dVar 0) (aCons (dVar 2) (aNil)))))) (sDead) (sSkip)) (sRet (dCall 3 f_moved_in (aCons (dVar 0) (aCons (dVar 1) (aCons (dVar 2) (aNil)))))))
def f_moved : Fn := fnOf (["corner", "signs", "move"] : List Str).length s_moved
def s_all_moves : DStm :=
  sSeq (sOwn 1 (fLst (aNil))) (sSeq (sFor (iRange1 (aCons (dCb gLen (aCons (dVar 0) (aNil))) (aNil))) (tgN 2) (sExt 1 (dLst (aCons (dTup (aCons (dVar 2) (aCons (dK (.bl false)) (aCons (dK (.bl false)) (aNil))))) (aCons (dTup (aCons (dVar 2) (aCons (dK (.bl false)) (aCons (dK (.bl true)) (aNil))))) (aCons (dTup (aCons (dVar 2) (aCons (dK (.bl true)) (aCons (dK (.bl false)) (aNil))))) (aCons (dTup (aCons (dVar 2) (aCons (dK (.bl true)) (aCons (dK (.bl true)) (aNil))))) (aNil)))))))) (sFrz 1 (sRet (dVar 1))))
def f_all_moves : Fn := fnOf (["corner", "found", "begin"] : List Str).length s_all_moves
def s_moves_between : DStm :=
  sSeq (sDrop (dCall 2 f_need_signs (aCons (dVar 0) (aCons (dVar 1) (aNil))))) (sSeq (sDrop (dCall 2 f_need_signs (aCons (dVar 2) (aCons (dVar 3) (aNil))))) (sRet (dCb gTuple (aCons (dLc (iVal (dCall 1 f_all_moves (aCons (dVar 0) (aNil)))) [4] (tgN 4) (dTst (dBin (gEq false) (dCall 3 f_moved_in (aCons (dVar 0) (aCons (dVar 1) (aCons (dVar 4) (aNil))))) (dTup (aCons (dVar 2) (aCons (dVar 3) (aNil)))))) (dVar 4)) (aNil)))))
def f_moves_between : Fn := fnOf (["corner", "signs", "other", "letters", "move"] : List Str).length s_moves_between
def s_least_form : DStm :=
  sSeq (sDrop (dCall 2 f_need_signs (aCons (dVar 0) (aCons (dVar 1) (aNil))))) (sRet (dCb gMinD (aCons (dLc (iVal (dCall 1 f_all_moves (aCons (dVar 0) (aNil)))) [2] (tgN 2) (cYes) (dCall 3 f_moved_in (aCons (dVar 0) (aCons (dVar 1) (aCons (dVar 2) (aNil)))))) (aNil))))
def f_least_form : Fn := fnOf (["corner", "signs", "move"] : List Str).length s_least_form
end PKG
namespace PKH
open PKG
def s__law_of : DStm :=
  sRet (dBin gIx (dVar 1) (dCall 2 gDraw2 (aCons (dVar 0) (aCons (dCb gLen (aCons (dVar 1) (aNil))) (aNil)))))
def f__law_of : Fn := fnOf (["_law_m", "_law_some"] : List Str).length s__law_of
def s__law_corner : DStm :=
  sSeq (sAsg 2 (dLc (iRange1 (aCons (dBin gMul (dK (.int 2)) (dVar 1)) (aNil))) [6] (tgN 6) (cYes) (dCall 2 f__law_of (aCons (dVar 0) (aCons (dLst (aCons (dK (.int 1)) (aCons (dK (.int 1)) (aCons (dK (.int 1)) (aCons (dK (.int 2)) (aCons (dK (.int 2)) (aCons (dK (.int 3)) (aCons (dBin gAdd (dK (.int 1)) (dCall 2 gDraw2 (aCons (dVar 0) (aCons (dK (.int 9)) (aNil))))) (aNil))))))))) (aNil)))))) (sSeq (sAsg 3 (dBin gSub (dCb gSum (aCons (dSt (dVar 2) (oNone) (oNone) (oSome (dK (.int 2)))) (aNil))) (dCb gSum (aCons (dSt (dVar 2) (oSome (dK (.int 1))) (oNone) (oSome (dK (.int 2)))) (aNil))))) (sSeq (sAsg 4 (dBin gAdd (dBin gMul (dK (.int 2)) (dCall 2 gDraw2 (aCons (dVar 0) (aCons (dVar 1) (aNil))))) (dIf (dTst (dBin gGt (dVar 3) (dK (.int 0)))) (dK (.int 1)) (dK (.int 0))))) (sSeq (sAsg 5 (dCall 2 f__law_of (aCons (dVar 0) (aCons (dLst (aCons (dK (.int 1)) (aCons (dK (.int 1)) (aCons (dK (.int 1)) (aCons (dK (.int 5)) (aCons (dBin gPow (dK (.int 10)) (dK (.int 25))) (aNil))))))) (aNil))))) (sRet (dCb gTuple (aCons (dLc (iEn (aCons (dVar 2) (aNil))) [6, 7] (tgT 2 (tgsCons (tgN 6) (tgsCons (tgN 7) (tgsNil)))) (cYes) (dBin gMul (dVar 5) (dBin gAdd (dVar 7) (dIf (dTst (dBin (gEq false) (dVar 6) (dVar 4))) (dCb gAbs (aCons (dVar 3) (aNil))) (dK (.int 0)))))) (aNil)))))))
def f__law_corner : Fn := fnOf (["_law_m", "_law_half", "_law_some", "_law_more", "_law_spot", "_law_wide", "_law_k", "_law_angle"] : List Str).length s__law_corner
def s__law_does_fold : DStm :=
  sSeq (sAsg 2 (dListZ (aCons (dVar 0) (aCons (dVar 1) (aNil))))) (sSeq (sWhile (dTst (dBin gGt (dCb gLen (aCons (dVar 2) (aNil))) (dK (.int 2)))) (sSeq (sAsg 3 (dCb gMinS (aCons (dLc (iVal (dVar 2)) [6] (tgN 6) (cYes) (dBin gIx (dVar 6) (dK (.int 0)))) (aNil)))) (sSeq (sAsg 4 (dBin gAdd (dSl (dVar 2) (oSome (dK (.int 1))) (oNone)) (dSl (dVar 2) (oNone) (oSome (dK (.int 1)))))) (sSeq (sAsg 5 (dLc (iEn (aCons (dVar 2) (aNil))) [7, 6] (tgT 2 (tgsCons (tgN 7) (tgsCons (tgN 6) (tgsNil)))) (dAnd (dTst (dBin (gEq false) (dBin gIx (dVar 6) (dK (.int 0))) (dVar 3))) (dTst (dBin (gEq true) (dBin gIx (dVar 6) (dK (.int 1))) (dBin gIx (dBin gIx (dVar 4) (dVar 7)) (dK (.int 1)))))) (dVar 7))) (sSeq (sIf (dOr (dTst (dBin (gEq false) (dVar 5) (dLst (aNil)))) (dTst (dBin (gEq false) (dCb gLen (aCons (dVar 2) (aNil))) (dK (.int 3))))) (sRet (dK (.bl false))) (sSkip)) (sSeq (sAsg 2 (dBin gAdd (dSl (dVar 2) (oSome (dBin gIx (dVar 5) (dK (.int 0)))) (oNone)) (dSl (dVar 2) (oNone) (oSome (dBin gIx (dVar 5) (dK (.int 0))))))) (sAsg 2 (dBin gAdd (dLst (aCons (dTup (aCons (dBin gSub (dBin gAdd (dBin gIx (dBin gIx (dVar 2) (dUn gNeg (dK (.int 1)))) (dK (.int 0))) (dBin gIx (dBin gIx (dVar 2) (dK (.int 1))) (dK (.int 0)))) (dBin gIx (dBin gIx (dVar 2) (dK (.int 0))) (dK (.int 0)))) (aCons (dBin gIx (dBin gIx (dVar 2) (dUn gNeg (dK (.int 1)))) (dK (.int 1))) (aNil)))) (aNil))) (dSl (dVar 2) (oSome (dK (.int 2))) (oSome (dUn gNeg (dK (.int 1))))))))))))) (sRet (dBin (gEq false) (dBin gIx (dVar 2) (dK (.int 0))) (dBin gIx (dVar 2) (dK (.int 1))))))
def f__law_does_fold : Fn := fnOf (["_law_angles", "_law_word_so", "_law_rows", "_law_least", "_law_turned", "_law_spots", "_law_row", "_law_k"] : List Str).length s__law_does_fold
end PKH

end
section
set_option Elab.async false
set_option linter.all false
set_option maxRecDepth 100000
set_option maxHeartbeats 4000000
/-! DLam: lambdas handed to a def: with no parameter, or with one that has a default. -/
namespace DL
open PySem PySem.Spec PyProof.Rows L2
variable [Tb]
section
variable {X : Cx} {pins : List (Addr × Obj)} {σ : L2.St} {H F : Hp} {s : Shared} {n : Nat}
/-- a new code object is told by the table P -/
theorem step_code {P c : Addr} {q : Str} {ps : Array Value} {pos : Pos} (sub : ∀ b o, F b = some o → H b = some o) (hP : F P = some (.tbl ps)) (hT : TriplesOk ps.toList) (hA : ∀ pos cv, codeAmong pos ps.toList = some cv → ∃ c, cv = .ref c ∧ F c = some (LamX.CodeO c q)) (hm : (P, q) ∈ Tb.tabs) (nc : H c = none) :
    Step n F H n (upd (upd F P (.tbl (ps ++ #[rawInt pos.line, rawInt pos.col, .ref c]))) c (LamX.CodeO c q)) (upd (upd H P (.tbl (ps ++ #[rawInt pos.line, rawInt pos.col, .ref c]))) c (LamX.CodeO c q)) := by
  have hP2 := sub _ _ hP
  have nF : F c = none := sub_free sub nc
  have nPc : P ≠ c := ne_of_none hP nF
  have old : ∀ b o, F b = some o → (∀ ps, o ≠ .tbl ps) → upd (upd F P (.tbl (ps ++ #[rawInt pos.line, rawInt pos.col, .ref c]))) c (LamX.CodeO c q) b = some o := fun b o e no => by
    have h1 : b ≠ P := fun z => by subst z; rw [hP] at e; cases e; exact no _ rfl
    rw [upd_ne (ne_of_none e nF), upd_ne h1]; exact e
  have eL : (ps ++ #[rawInt pos.line, rawInt pos.col, .ref c]).toList = ps.toList ++ [rawInt pos.line, rawInt pos.col, .ref c] := by simp
  have ct : ∀ c q ps, LamX.CodeO c q ≠ .tbl ps := fun _ _ ps => LamX.codeO_ne ps
  refine ⟨⟨Nat.le_refl _, fun b o e z => old b o e fun ps h => z (.inr ⟨ps, h⟩), fun b l L sd k e => ⟨L, k, old b _ e (fun ps h => by unfold rngO at h; cases sd <;> cases h), fun g => g⟩, fun b ps' e => ?_, fun P' q' hm' t => ?_⟩, fun b o e => ?_, fun b o e z => ?_⟩
  · by_cases hb : b = P
    · subst hb; exact ⟨_, by rw [upd_ne nPc, upd_same]⟩
    · exact ⟨ps', by rw [upd_ne (ne_of_none e nF), upd_ne hb]; exact e⟩
  · by_cases hb : P' = P
    · subst hb
      have hq : q' = q := Tb.one (P', q') hm' (P', q) hm rfl
      subst hq
      refine ⟨_, by rw [upd_ne nPc, upd_same], by rw [eL]; exact PySem.TriplesOk_snoc _ _ _ _ hT, fun p' cv hcv => ?_⟩
      rw [eL] at hcv
      rcases LamX.among_app _ hT hcv with z | z
      · obtain ⟨c0, e1, e2⟩ := hA p' cv z
        exact ⟨c0, e1, old _ _ e2 (ct _ _)⟩
      · exact ⟨c, z, upd_same⟩
    · obtain ⟨ps', a1, a2, a3⟩ := t
      refine ⟨ps', by rw [upd_ne (ne_of_none a1 nF), upd_ne hb]; exact a1, a2, fun p' cv hcv => ?_⟩
      obtain ⟨c0, e1, e2⟩ := a3 p' cv hcv
      exact ⟨c0, e1, old _ _ e2 (ct _ _)⟩
  · by_cases hb : b = c
    · subst hb; rw [upd_same] at e ⊢; exact e
    · rw [upd_ne hb] at e ⊢
      by_cases hb2 : b = P
      · subst hb2; rw [upd_same] at e ⊢; exact e
      · rw [upd_ne hb2] at e ⊢; exact sub b o e
  · have h1 : b ≠ P := fun q => by subst q; rw [hP] at z; cases z
    have h2 : b ≠ c := ne_of_none e nc
    rw [upd_ne h2, upd_ne h1, upd_ne h2, upd_ne h1]; exact ⟨e, z⟩
/-- the lambda's object at f -/
def LamAt (X : Cx) (h : Heap) (f c' : Addr) (params : Arguments) (body : Expr) (scope : Scope) (dV : Value) : Prop :=
  ∃ doc pm ctv, h.get? f = some (PySem.W.kdv_obj "<lambda>" (X.env.qual ++ "<lambda>") params (.expr body) scope (cloFrom X.env.cells scope.names []) dV doc pm c' ctv)
theorem tail_made {c P : Addr} {params : Arguments} {body : Expr} {scope : Scope} {dV : Value} {pos : Pos} {fl : Nat} {E : Value → Shared → Prop} {Q : Value → Shared → Prop} (I : Inv X pins σ H s) (TB : LamX.TabB X.base X.mg c P) (hcode : X.env.code = .ref c) (sub : ∀ b o, F b = some o → H b = some o)
    (hm : (P, X.env.qual ++ "<lambda>") ∈ Tb.tabs) (hT : LamX.TabS F P (X.env.qual ++ "<lambda>")) (hfree : ∀ y ∈ scope.names, y.2 = .free → ∃ c, X.env.cells.lookup y.1 = some c)
    (h : ∀ (f c' : Addr) (F1 H1 : Hp) (s' : Shared), Inv X pins σ H1 s' → Step n F H n F1 H1 → F1 c' = some (LamX.CodeO c' (X.env.qual ++ "<lambda>")) → LamAt X s'.heap f c' params body scope dV → H1 f = none → s.heap.objs.size ≤ f → (∀ b o, s.heap.get? b = some o → H b = none → s'.heap.get? b = some o ∧ H1 b = none) → Q (.ref f) s') :
    wpAny (model X.prog X.w) X.A (makeTail "<lambda>" (X.env.qual ++ "<lambda>") params (.expr body) scope X.env dV .none none pos fl) Q E s := by
  obtain ⟨ps, hP, ht, ha⟩ := hT
  have bP : s.heap.BuiltinsAt X.mg P := TB.bm.keeps I.bk
  have hP' : s.heap.get? P = some { cls := .none, data := .fields ps } := I.hok P _ (sub _ _ hP)
  have nP : ∀ b, H b = none → b ≠ P := fun b e z => by rw [z, sub _ _ hP] at e; cases e
  cases hc : codeAmong pos ps.toList with
  | none =>
    refine PySem.W.kdv_makeTail (mg := X.mg) (c := c) (P := P) (ps := ps) (closure_ok hfree) I.ok.glob (I.mod.glob.keeps I.bk) hcode (TB.code.keeps I.bk) hP' ht hc TB.gP bP fun c' ctv doc h' tk hx hge hlt hrec htb => ?_
    obtain ⟨c2, oc, vs, t, e2, hoc, hd, hv⟩ := hrec
    cases e2
    have nC : H c' = none := I.hok.fresh hge
    have hsz : s.heap.objs.size ≤ h'.objs.size := Nat.le_trans hge (Nat.le_of_lt hlt)
    have I1 := LamX.inv_table (t' := tk) (more := #[rawInt pos.line, rawInt pos.col, .ref c']) (h' := h'.push (PySem.W.kdv_obj "<lambda>" (X.env.qual ++ "<lambda>") params (.expr body) scope (cloFrom X.env.cells scope.names []) dV doc ((X.mg "__name__").getD .none) c' ctv)) I (sub _ _ hP)
      (fun b o hb e => Heap.get?_push_of_some _ (hx b o hb e)) (Heap.get?_push_of_some _ htb) hge ⟨oc, vs, t, Heap.get?_push_of_some _ hoc, hd, hv⟩
    refine h h'.objs.size c' _ _ _ I1 (step_code sub hP ht ha hm nC) upd_same ⟨_, _, _, Heap.get?_push_size _ rfl⟩ ?_ hsz (fun b o e z => ⟨Heap.get?_push_of_some _ (hx b o (nP b z) e), by rw [upd_ne (Nat.ne_of_lt (Nat.lt_of_lt_of_le (Heap.lt_size e) hge)), upd_ne (nP b z)]; exact z⟩)
    have n1 : h'.objs.size ≠ c' := Nat.ne_of_gt hlt
    have n2 : h'.objs.size ≠ P := Nat.ne_of_gt (Nat.lt_of_lt_of_le (Heap.lt_size hP') hsz)
    rw [upd_ne n1, upd_ne n2]
    exact I.hok.fresh hsz
  | some cv =>
    obtain ⟨c', e, hco⟩ := ha pos cv hc
    subst e
    refine PySem.W.kdv_makeTailHit (mg := X.mg) (c := c) (P := P) (ps := ps) (closure_ok hfree) I.ok.glob (I.mod.glob.keeps I.bk) hcode (TB.code.keeps I.bk) hP' ht hc bP fun ctv doc h' tk hx hsz => ?_
    have I1 : Inv X pins σ H { s with heap := h'.push (PySem.W.kdv_obj "<lambda>" (X.env.qual ++ "<lambda>") params (.expr body) scope (cloFrom X.env.cells scope.names []) dV doc ((X.mg "__name__").getD .none) c' ctv), toks := tk } := I.kept fun b o e => Heap.get?_push_of_some _ (hx b o e)
    exact h h'.objs.size c' F H _ I1 (Step.refl sub) hco ⟨_, _, _, Heap.get?_push_size _ rfl⟩ (I.hok.fresh hsz) hsz (fun b o e z => ⟨Heap.get?_push_of_some _ (hx b o e), z⟩)
end
/-! ### the lambda called, in the def that got it -/
open NdefX in
/-- what the def Z that got the lambda at f knows of it at its entry: no argument is given, so its parameters get us -/
structure LamZ (Z : Cx) (F : NF) (f : Addr) (body : Expr) (ps fr : List Str) (us : List Value) (vs : List V) (ws : List (Option V)) : Prop where
  at_ : ∃ dV doc pm ctv, Z.s_0.heap.get? f = some (PySem.W.kdv_obj F.name F.qual F.params (.expr body) F.scope F.cl dV doc pm F.c ctv) ∧
    (∀ t, dV = .ref t → Z.H_0 t = none ∧ t ∉ Z.fs ∧ ∃ o, Z.s_0.heap.get? t = some o) ∧
    ∀ s : Shared, (∀ t o, dV = .ref t → Z.s_0.heap.get? t = some o → s.heap.get? t = some o) → BindsTo s (PySem.W.kdv_fn F.name F.qual F.params (.expr body) F.scope F.cl dV doc pm (.ref F.c) ctv) ⟨[], []⟩ (ps.zip us)
  hn : Z.H_0 f = none
  nf : f ∉ Z.fs
  cells : CellsAt F.cl fr ws Z.s_0.heap Z.H_0
  vals : Vals vs us
  len : vs.length = ps.length
def dAct (i : Nat) (d0 : D) (m : M D) : DExp := fun env => match env[i]? with
  | some (.val d) => need (d = d0) m
  | _ => stuck
/-- the names' slots at the entry -/
def stE (n : Nat) (ds : List D) : En := ds.map Slot.val ++ List.replicate (n - ds.length) Slot.emp
section
open NdefX
variable {Z : Cx} {W : WX} {F : NF} {f : Addr} {N ps fr : List Str} {us : List Value} {vs : List V} {ws : List (Option V)} {ds0 ds : List D} {k i : Nat} {a : Str} {fb : DExp} {body : Expr} {p1 p2 : Pos}
theorem cells_later (C : CellsAt F.cl fr ws Z.s_0.heap Z.H_0) (hex : Z.ex = []) {pins : List (Addr × Obj)} {σ : L2.St} {H : Hp} {s : Shared} (I : Inv Z pins σ H s) : CellsAt F.cl fr ws s.heap H := by
  have kp : ∀ y c, F.cl.lookup y = some c → ∀ v, Z.s_0.heap.IsCell c v → s.heap.IsCell c v := fun y c e v ⟨o, ho, hd⟩ => by
    obtain ⟨sl, q⟩ := I.base.any ho (C.all y c e).1 (by rw [hex]; simp)
    exact ⟨_, q, hd⟩
  refine ⟨C.len, fun y c e => ?_, C.inj, fun i y e => ?_⟩
  · obtain ⟨hn, v, z⟩ := C.all y c e
    refine ⟨?_, v, kp y c e v z⟩
    obtain ⟨o, ho, _⟩ := z
    exact I.base.free c o ho hn (by rw [hex]; simp)
  · obtain ⟨c, hc, hv⟩ := C.has i y e
    refine ⟨c, hc, fun v ev => ?_⟩
    obtain ⟨u, r, z⟩ := hv v ev
    exact ⟨u, r, kp y c hc _ z⟩
theorem start_two (N : List Str) (vs ws : List V) : startF N vs (ws.map some) = L2.start N (vs ++ ws) := by
  unfold startF L2.start
  simp [Nat.sub_sub]
theorem Kx.ofN {P : Program} {w : World} {K : PySem.W.Frag} {mg : Str → Option Value} {base : Heap} {A : Around} {outer : List PySem.Env} {s : Shared} {H : Hp} {E : XK}
    (rm : Room k (A.deeper (envF F f s.heap.objs.size))) (gd : A.guards = some []) (nd : N.Nodup) : Kx (ncx (L2.CX P w) P w K mg base N F f A outer s H E) (fun cls d _ H => E cls d H) k :=
  ⟨takes_of rfl rfl rfl rfl, passes_of rfl, ⟨rm, gd⟩, rfl, nd⟩
theorem de_act (hex : Z.ex = []) (L : LamZ Z F f body ps fr us vs ws) (S : NScope N ps fr F.scope) (kz : Kx Z W (k + 1)) (hvs : ∀ n F, Reps Z.K Z.mg n F vs ds0)
    (hbody : ∀ (A : Around) (outer : List PySem.Env) (s : Shared) (H : Hp) (E : XK), Room k (A.deeper (envF F f s.heap.objs.size)) → A.guards = some [] → DE (ncx (L2.CX Z.prog Z.w) Z.prog Z.w Z.K Z.mg Z.base N F f A outer s H E) (fun cls d _ H => E cls d H) body fb)
    (hN : Z.N[i]? = some a) (hv : Vis Z.env.scope a) (hd : (a == ("__debug__" : Str)) = false := by decide) (hcd : (a == ("__classdict__" : Str)) = false := by decide) :
    DE Z W (.Call (.Name a p1) [] [] p2) (dAct i (.thk f F.c F.qual ws ds) (fb (stE N.length (ds0 ++ ds)))) := by
  refine ⟨⟨fun pins s σ H Q I h => ?_⟩⟩
  obtain ⟨B, n, F0, env, SZ, h⟩ := h
  unfold dAct at h
  split at h
  case h_2 => exact h.elim
  rename_i d hi
  obtain ⟨rfl, h⟩ := h
  obtain ⟨u, hu, hr⟩ := SZ.slot i _ hi
  cases hr with
  | @thk _ _ _ vs1 _ hcode hrep =>
  refine wpAny_Call_Name_kw (thn ((pe_var (pos := p1) (i := i) hN hv hd hcd).run pins s σ H (fun v H1 => v = .ref f ∧ H1 = H) I ⟨.ref f, hu, rfl, rfl⟩) fun u s1 ⟨v, H1, I1, r1, q1⟩ => ?_)
  obtain ⟨ev, eH⟩ := q1
  subst ev
  rw [eH] at I1
  obtain rfl : u = Value.ref f := r1
  obtain ⟨dV, doc, pm, ctv, hf, ht, hb⟩ := L.at_
  have of1 := I1.base.keep f _ hf L.hn L.nf (by rw [hex]; simp)
  have bd := hb s1 fun t o e ho => I1.base.keep t o ho (ht t e).1 (ht t e).2.1 (by rw [hex]; simp)
  refine PySem.W.callWith_F0 ⟨_, _, _, _, of1⟩ ?_
  obtain ⟨⟨oc, vc, tq, hoc, hdc, hvc⟩, _, _⟩ := I1.hok F.c _ (SZ.sub _ _ hcode)
  have lim : s1.heap.NoLimit := I1.nolimit
  have rc : codeAny (model Z.prog Z.w) Z.A (.call (.ref f) ⟨[], []⟩) (CR (L2.CX Z.prog Z.w) Z.stack Z.prog Z.w H s1 Q (fun cls d H' => W cls d σ H')) s1 := by
    refine PySem.W.kla_callFunE kz.rm.room.depth of1 rfl S.co S.gen rfl ⟨F.c, oc, vc, tq, rfl, hoc, hdc, hvc⟩ (bd _ _ _ _ ?_)
    refine wpAny_newFunctionEnv S.nocell (fun ⟨n, _⟩ hy => S.par n (List.of_mem_zip hy).1) (fun h₁ hns hsb => ⟨lim.fresh _ hsb, ?_⟩) S.kind
    show codeAny _ _ (.expr body (envF F f s1.heap.objs.size)) _ _
    have kp : ∀ b o, s1.heap.get? b = some o → h₁.get? b = some o := fun b o e => hsb.extBut b o (Nat.ne_of_lt (Heap.lt_size e)) (Heap.get?_push_of_some _ e)
    have J : Inv (ncx (L2.CX Z.prog Z.w) Z.prog Z.w Z.K Z.mg Z.base N F f Z.A Z.stack s1 H (fun cls d H' => W cls d σ H')) [] (startF N vs (vs1.map some)) H { s1 with heap := h₁, toks := s1.toks + (ps.zip us).length } :=
      inv_startN S kz.rm.room.hd I1.env0 L.len L.vals (cells_later L.cells hex I1) hns kp
    rw [start_two] at J
    have SS : SL Z.K Z.mg ⟨n, F0, H⟩ n F0 H (L2.start N (vs ++ vs1)) (stE N.length (ds0 ++ ds)) := SL.start SZ.sub ((hvs n F0).append hrep) SZ.tabs
    refine PySem.W.kla_codeExpr (wpAny_mono ((hbody Z.A Z.stack s1 H (fun cls d H' => W cls d σ H') (kz.rm.room.deeper _) kz.rm.gd).pe.run [] _ _ H Q J ⟨_, n, F0, _, SS, (fb _).mono (fun _ _ z => z) (fun _ _ z => z) h⟩) (fun v s' hq => ?_) fun e s' hq => hq)
    obtain ⟨w', H', J', rv, q⟩ := hq
    exact ⟨w', H', J'.os, J'.bare, J'.base, J'.hok, rv, q⟩
  refine wpAny_call (codeAny_mono rc fun r s' hq => ?_)
  match r, hq with
  | .error u, hq => exact kz.tk u s' (XE.of_call I1 (fun _ _ _ z => z) hq)
  | .ok (.ret u), hq => exact I1.after hq
  | .ok .next, hq => exact False.elim hq
  | .ok .brk, hq => exact False.elim hq
  | .ok .cont, hq => exact False.elim hq
end
/-! ### the lambda made -/
/-- a place of which nobody knows -/
def Fresh (X : Cx) (H : Hp) (a : Addr) : Prop := H a = none ∧ a ≠ X.env.locals ∧ a ∉ X.fs ∧ a ∉ frs X.stack
theorem fresh_of {X : Cx} {pins : List (Addr × Obj)} {σ : L2.St} {H H1 : Hp} {s : Shared} (I : Inv X pins σ H s) {a : Addr} (h : s.heap.objs.size ≤ a) (hn : H1 a = none) : Fresh X H1 a := by
  have h1 : a ≠ X.env.locals := fun e => by
    have := I.lt
    rw [← e] at this
    exact Nat.lt_irrefl _ (Nat.lt_of_lt_of_le this h)
  have h2 := I.nofs h
  refine ⟨hn, h1, h2, fun z => ?_⟩
  rcases List.mem_cons.mp (I.stkSub _ z) with e | e
  · exact h1 e
  · exact h2 e
abbrev lamF (X : Cx) (params : Arguments) (scope : Scope) (c' : Addr) : NdefX.NF := ⟨"<lambda>", X.env.qual ++ "<lambda>", params, [], scope, cloFrom X.env.cells scope.names [], c'⟩
/-- the making of a lambda whose parameters get vs0 where no argument is given -/
structure LamMk (X : Cx) (params : Arguments) (body : Expr) (scope : Scope) (lpos : Pos) (ps : List Str) (vs0 : List V) : Prop where
  run : ∀ (pins : List (Addr × Obj)) (σ : L2.St) (H F : Hp) (s : Shared) (n : Nat) (E : Value → Shared → Prop) (Q : Value → Shared → Prop), Inv X pins σ H s → (∀ b o, F b = some o → H b = some o) → TabsK F →
    (∀ (f c' : Addr) (F1 H1 : Hp) (s' : Shared) (us : List Value) (dV doc pm ctv : Value), Inv X pins σ H1 s' → Step n F H n F1 H1 → F1 c' = some (LamX.CodeO c' (X.env.qual ++ "<lambda>")) →
      s'.heap.get? f = some (PySem.W.kdv_obj "<lambda>" (X.env.qual ++ "<lambda>") params (.expr body) scope (cloFrom X.env.cells scope.names []) dV doc pm c' ctv) → Fresh X H1 f → Vals vs0 us →
      (∀ t, dV = .ref t → Fresh X H1 t ∧ ∃ vt, s'.heap.get? t = some (PySem.W.kdv_tup vt)) →
      (∀ s2 : Shared, (∀ t o, dV = .ref t → s'.heap.get? t = some o → s2.heap.get? t = some o) → BindsTo s2 (PySem.W.kdv_fn "<lambda>" (X.env.qual ++ "<lambda>") params (.expr body) scope (cloFrom X.env.cells scope.names []) dV doc pm (.ref c') ctv) ⟨[], []⟩ (ps.zip us)) → Q (.ref f) s') →
    wpAny (model X.prog X.w) X.A (eval (.Lambda params body scope lpos) X.env) Q E s
/-- what is known of the maker's code object and its table -/
def TabK (X : Cx) : Prop := ∃ c P, X.env.code = .ref c ∧ LamX.TabB X.base X.mg c P ∧ (P, X.env.qual ++ "<lambda>") ∈ Tb.tabs
section
variable {X : Cx} {params : Arguments} {body : Expr} {scope : Scope} {lpos : Pos}
theorem lam_mk0 (TK : TabK X) (hfree : ∀ y ∈ scope.names, y.2 = .free → X.env.scope.names.lookup y.1 = some .cell ∨ X.env.scope.names.lookup y.1 = some .free) (hdef : defaultsOf params X.env = ([], []))
    (hbind : ∀ (q : Str) (cl : List (Str × Addr)) (doc pm cv ctv : Value), bindArgs (PySem.W.kdv_fn "<lambda>" q params (.expr body) scope cl .none doc pm cv ctv) ⟨[], []⟩ = pure []) : LamMk X params body scope lpos [] [] := by
  refine ⟨fun pins σ H F s n E Q I sub tb h => ?_⟩
  obtain ⟨c, P, hc, TB, hm⟩ := TK
  have hf : ∀ y ∈ scope.names, y.2 = .free → ∃ c, X.env.cells.lookup y.1 = some c := fun y hy e => (hfree y hy e).elim (fun z => I.ok.has _ (.inl z)) fun z => I.ok.has _ (.inr z)
  refine PySem.W.kla_eval hdef ?_
  rw [makeFunction_eq]
  simp only [List.zip_nil_right, List.filterMap_nil, List.isEmpty_nil, if_true, pure_bind]
  refine tail_made (n := n) I TB hc sub hm (tb.1 _ _ hm) hf fun f c' F1 H1 s' I1 st hco ⟨doc, pm, ctv, ho⟩ hn hsz _ => ?_
  exact h f c' F1 H1 s' [] .none doc pm ctv I1 st hco ho (fresh_of I hsz hn) .nil (fun t e => by cases e) fun s2 _ => BindsTo.of_eq (hbind _ _ _ _ _ _)
theorem lam_mk1 {y : Str} {i : Int} {ji : Nat} {pi : Pos} (TK : TabK X) (hfree : ∀ y ∈ scope.names, y.2 = .free → X.env.scope.names.lookup y.1 = some .cell ∨ X.env.scope.names.lookup y.1 = some .free) (hd : params.defaults = [.Constant (.int i) ji pi]) (hk0 : params.kw_defaults = [])
    (hbind : ∀ (q : Str) (cl : List (Str × Addr)) (dV doc pm cv ctv : Value), ∃ k, bindArgs (PySem.W.kdv_fn "<lambda>" q params (.expr body) scope cl dV doc pm cv ctv) ⟨[], []⟩ = (seqItems? dV >>= k) ∧ ∀ u, k (some #[u]) = pure [(y, u)]) : LamMk X params body scope lpos [y] [.int i] := by
  refine ⟨fun pins σ H F s n E Q I sub tb h => ?_⟩
  obtain ⟨c, P, hc, TB, hm⟩ := TK
  have hf : ∀ y ∈ scope.names, y.2 = .free → ∃ c, X.env.cells.lookup y.1 = some c := fun y hy e => (hfree y hy e).elim (fun z => I.ok.has _ (.inl z)) fun z => I.ok.has _ (.inr z)
  refine PySem.W.kdv_lam (by rw [hd]; rfl) hk0 ?_
  rw [hd]
  refine PySem.W.kdv_all1 (wpAny_Constant_int (PySem.W.kdv_all0 ?_))
  rw [makeFunction_eq]
  simp only [List.zip_nil_right, List.filterMap_nil, List.isEmpty_nil, if_true, pure_bind, List.isEmpty_cons, Bool.false_eq_true, if_false]
  refine wpAny_bind (wpAny_newTextTuple ?_)
  have I0 := I.tok (s.toks + 1)
  have I1 := I0.kept (t' := s.toks + 1) (fun b o e => Heap.get?_push_of_some (PySem.W.kdv_tup [Value.int i s.toks]) e)
  refine tail_made (n := n) I1 TB hc sub hm (tb.1 _ _ hm) hf fun f c' F1 H1 s' I2 st hco ⟨doc, pm, ctv, ho⟩ hn hsz hk => ?_
  obtain ⟨ht, hnt⟩ := hk _ _ (Heap.get?_push_size _ rfl) (I.hok.fresh (Nat.le_refl _))
  refine h f c' F1 H1 s' [Value.int i s.toks] _ doc pm ctv I2 st hco ho (fresh_of I1 hsz hn) (.cons ⟨_, rfl⟩ .nil) (fun t e => ?_) fun s2 hs2 => ?_
  · cases e
    exact ⟨fresh_of I (Nat.le_refl _) hnt, _, ht⟩
  · obtain ⟨k, h1, h2⟩ := hbind (X.env.qual ++ "<lambda>") (cloFrom X.env.cells scope.names []) (.ref s.heap.objs.size) doc pm (.ref c') ctv
    exact BindsTo.of_defaults rfl (hs2 _ _ rfl ht) rfl h1 (h2 _)
end
/-! ### x(lambda: .., ..) -/
def capD : List Nat → En → Option (List D)
  | [], _ => some []
  | j :: js, env => match env[j]? with
    | some (.val d) => match capD js env with
      | some ds => some (d :: ds)
      | none => none
    | _ => none
theorem cap_vals {K : PySem.W.Frag} {mg : Str → Option Value} {B : Bs} {n : Nat} {F H : Hp} {σ : L2.St} {env : En} (S : SL K mg B n F H σ env) : ∀ {js : List Nat} {ds : List D}, capD js env = some ds → ∃ vs : List V, js.map (NdefX.slotAt σ) = vs.map some ∧ Reps K mg n F vs ds
  | [], _, h => by cases h; exact ⟨[], rfl, .nil⟩
  | j :: js, _, h => by
    unfold capD at h
    split at h
    · rename_i d hd
      split at h
      · rename_i ds hds
        cases h
        obtain ⟨u, hu, r⟩ := S.slot j _ hd
        obtain ⟨vs, e, rs⟩ := cap_vals S hds
        exact ⟨u :: vs, by rw [List.map_cons, List.map_cons, NdefX.slotAt_of hu, e], .cons r rs⟩
      · cases h
    · cases h
/-- the call: the lambda's meaning by what its names hold when it is made -/
def dLam (js : List Nat) (N : Nat) (ds0 : List D) (fb : DExp) (m1 : Nat) (φ : M D → List D → M D) (fa : DArg) : DExp := fun env => match capD js env with
  | some ds => bnd (fa env) fun rest => need (rest.length = m1) (φ (fb (stE N (ds0 ++ ds))) rest)
  | none => stuck
section
open NdefX
variable {X : Cx} {W : WX} {params : Arguments} {bodyL : Expr} {scope : Scope} {lpos : Pos} {psL fr NL : List Str} {vs0 : List V} {ds0 : List D} {js : List Nat} {fb : DExp} {k j : Nat} {x a : Str} {psr Ng : List Str} {st : Stmt} {φ : M D → List D → M D} {sg : D → M D → DStm} {es : List Expr} {fa : DArg} {p pos : Pos}
/-- the def's body, its first parameter being a lambda d0 of the meaning m -/
def GBody (X : Cx) (k : Nat) (x a : Str) (Ng : List Str) (st : Stmt) (sg : D → M D → DStm) : Prop :=
  ∀ (d0 : D) (m : M D) (f : Addr) (cd : Value) (R : Around) (callers : List PySem.Env) (t : Shared) (H : Hp) (E : XK), Kx (cxOf (L2.CX X.prog X.w) X.prog X.w X.K X.mg X.base Ng x (defScope st) f cd R callers t H E) (fun cls d _ H => E cls d H) k →
    (∀ (W' : WX) (pn : List (Addr × Obj)) (xe : Value → Shared → Prop) (p1 p2 : Pos), Kx ((cxOf (L2.CX X.prog X.w) X.prog X.w X.K X.mg X.base Ng x (defScope st) f cd R callers t H E).tr pn xe) W' k →
      DE ((cxOf (L2.CX X.prog X.w) X.prog X.w X.K X.mg X.base Ng x (defScope st) f cd R callers t H E).tr pn xe) W' (.Call (.Name a p1) [] [] p2) (dAct 0 d0 m)) →
    DSs (cxOf (L2.CX X.prog X.w) X.prog X.w X.K X.mg X.base Ng x (defScope st) f cd R callers t H E) (fun cls d _ H => E cls d H) (defBody st) (sg d0 m)
theorem de_lam (kx : Kx X W j) (hkj : k + 2 ≤ j) (mk : LamMk X params bodyL scope lpos psL vs0) (SL0 : NScope NL psL fr scope) (hl0 : vs0.length = psL.length) (hvs : ∀ n F, Reps X.K X.mg n F vs0 ds0)
    (hfree : ∀ y ∈ scope.names, y.2 = .free → X.env.scope.names.lookup y.1 = some .cell ∨ X.env.scope.names.lookup y.1 = some .free) (hfr : ∀ y ∈ fr, (y, NameKind.free) ∈ scope.names) (hjs : js.map (fun j => X.N[j]?) = fr.map some)
    (hbody : ∀ (c' f : Addr) (A : Around) (outer : List PySem.Env) (s : Shared) (H : Hp) (E : XK), Kx (ncx (L2.CX X.prog X.w) X.prog X.w X.K X.mg X.base NL (lamF X params scope c') f A outer s H E) (fun cls d _ H => E cls d H) k →
      DE (ncx (L2.CX X.prog X.w) X.prog X.w X.K X.mg X.base NL (lamF X params scope c') f A outer s H E) (fun cls d _ H => E cls d H) bodyL fb)
    (Dg : Df X.K X.mg x (a :: psr) st) (Sg : FnScope Ng (a :: psr) (defScope st)) (hNg : Ng[0]? = some a) (hva : Vis (defScope st) a) (hG : GBody X (k + 1) x a Ng st sg)
    (hφ : ∀ (a1 c1 : Addr) (q1 : Str) (ws : List (Option V)) (ds : List D) (m : M D) (rest : List D), rest.length = psr.length → ∀ n P E, (φ m rest).run n P E → (DL.body (sg (.thk a1 c1 q1 ws ds) m) (stE Ng.length (.thk a1 c1 q1 ws ds :: rest))).run n P E)
    (ha : DA X W es fa) (hg : Gl X x := by rfl) (hdb : (x == ("__debug__" : Str)) = false := by decide) (hd : (a == ("__debug__" : Str)) = false := by decide) (hcd : (a == ("__classdict__" : Str)) = false := by decide)
    (he : starEach (.Lambda params bodyL scope lpos :: es) X.env = (false, eval (.Lambda params bodyL scope lpos) X.env) :: starEach es X.env := by rfl) (hpl : (backTo pos (starEach es X.env)).any (·.1) = false := by rfl) :
    DE X W (.Call (.Name x p) (.Lambda params bodyL scope lpos :: es) [] pos) (dLam js NL.length ds0 fb psr.length φ fa) := by
  refine ⟨⟨fun pins s σ H Q I h => ?_⟩⟩
  obtain ⟨B, n, F, env, S, h⟩ := h
  unfold dLam at h
  split at h
  case h_2 => exact h.elim
  rename_i ds hcap
  obtain ⟨g, fd, hm, Fg, hBg⟩ := Dg.ex
  have hk := Fg.kp
  obtain ⟨oc, od, kV, doc0, pm0, an, cdv, ct, osl, rfl, hl, hc⟩ := Fg.ex
  refine wpAny_Call_Name_kw (ld_glob I hg hm ?_ hdb)
  refine PySem.W.callWith_K (h₀ := X.base) I.ok.mod.kin hk ?_ he hpl
  show wpAny _ _ (spliced ((false, eval (.Lambda params bodyL scope lpos) X.env) :: backTo pos (starEach es X.env))) _ _ s
  refine Calls.spliced_cons (mk.run pins σ H F s n _ _ I S.sub S.tabs fun f c' F1 H1 s1 us0 dV doc pm ctv I1 st1 hco hf fr1 rv0 ht hb => ?_)
  -- what stays known while the other arguments are told
  have hpt : ∃ pt : List (Addr × Obj), (∀ q ∈ pt, s1.heap.get? q.1 = some q.2 ∧ Fresh X H1 q.1 ∧ ∀ v, q.2.data ≠ .cell v) ∧ ∀ t, dV = .ref t → ∃ o, (t, o) ∈ pt := by
    cases dV with
    | ref t =>
      obtain ⟨h1, vt, h2⟩ := ht t rfl
      exact ⟨[(t, PySem.W.kdv_tup vt)], fun q hq => by
        rw [List.mem_singleton] at hq
        subst hq
        exact ⟨h2, h1, fun v z => by cases z⟩, fun t' e => by cases e; exact ⟨_, List.mem_singleton.mpr rfl⟩⟩
    | _ => exact ⟨[], fun q hq => absurd hq (by simp), fun t e => by cases e⟩
  obtain ⟨pt, hpt, hdt⟩ := hpt
  let fo : Obj := PySem.W.kdv_obj "<lambda>" (X.env.qual ++ "<lambda>") params (.expr bodyL) scope (cloFrom X.env.cells scope.names []) dV doc pm c' ctv
  have I1p : Inv X ((f, fo) :: (pt ++ pins)) σ H1 s1 := I1.pins_of fun q hq => by
    rcases List.mem_cons.mp hq with rfl | hq
    · exact ⟨hf, fr1.1, fr1.2.1, fr1.2.2.1, fun v z => by cases z⟩
    · rcases List.mem_append.mp hq with hq | hq
      · obtain ⟨z1, z2, z3⟩ := hpt q hq
        exact ⟨z1, z2.1, z2.2.1, z2.2.2.1, z3⟩
      · exact I1.pin q (List.mem_append_right _ hq)
  have S1 := S.step st1
  obtain ⟨vc, hvc, rvc⟩ := cap_vals S1 hcap
  refine thn (ha.pa.run pos _ s1 σ H1 (fun vs H2 => ∃ (n2 : Nat) (F2 : Hp) (rest : List D), Step n F H n2 F2 H2 ∧ (∀ b o, F2 b = some o → H2 b = some o) ∧ TabsK F2 ∧ F2 c' = some (LamX.CodeO c' (X.env.qual ++ "<lambda>")) ∧ Reps X.K X.mg n2 F2 vc ds ∧ Reps X.K X.mg n2 F2 vs rest ∧ rest.length = psr.length ∧
      (φ (fb (stE NL.length (ds0 ++ ds))) rest).run n2 (okE X n F H Q) (exE X W n F H σ)) I1p
    (tA.go S1 ((fa env).mono (fun _ _ z => z) (fun _ _ z => exE.step st1 z) h) fun rest n2 vs F2 H2 p t r2 S2 => ⟨n2, F2, rest, st1.trans t, S2.sub, S2.tabs, t.gr.obj _ _ hco (by unfold LamX.CodeO; exact not_rng_ext), rvc.grow t.gr, r2, p.1, p.2⟩)) fun us s2 ⟨vs, H2, I2, rv, n2, F2, rest, st2, sub2, tb2, hco2, rvc2, rr, hlr, hφr⟩ => ?_
  have Id : Inv X pins σ H2 s2 := I2.pins_of fun q hq => I2.pin q (List.mem_append_right _ (List.mem_cons_of_mem _ (List.mem_append_right _ hq)))
  refine ⟨I2.kIn, ?_⟩
  have pf := I2.pin (f, fo) (List.mem_append_right _ List.mem_cons_self)
  have rm := kx.rm.room.mono hkj
  let d0 : D := .thk f c' (X.env.qual ++ "<lambda>") (vc.map some) ds
  have rd0 : Rep X.K X.mg n2 F2 (.ref f) d0 := .thk hco2 rvc2
  have hlv : (V.ref f :: vs).length = (a :: psr).length := by
    have := rr.length
    simp; omega
  have bd := hBg s2 (.ref f :: us) I2.kIn (by rw [List.append_nil, List.length_cons, ← rv.length]; simpa using hlv)
  rw [List.append_nil] at bd
  have cp := Caps.made (X := X) (fr := fr) (js := js) I2.ok hfree hfr hjs
  have C2 := cells_of I2 cp
  rw [hvc] at C2
  have rc : codeAny (model X.prog X.w) X.A (.call (.ref g) ⟨.ref f :: us, []⟩) (CR (L2.CX X.prog X.w) X.stack X.prog X.w H2 s2 Q (fun cls d H' => W cls d σ H')) s2 := by
    refine LamX.run_ofS (N := Ng) (ps := a :: psr) (us := .ref f :: us) (vs := .ref f :: vs) (k := k + 1) hl hc Sg rm I2.env0 bd (.cons rfl rv) hlv fun hr' => ?_
    let Z := cxOf (L2.CX X.prog X.w) X.prog X.w X.K X.mg X.base Ng x (defScope st) g cdv X.A X.stack s2 H2 (fun cls d H' => W cls d σ H')
    have kz : Kx Z (fun cls d _ H => W cls d σ H) (k + 1) := Kx.of hr' kx.rm.gd Sg.nd
    have LZ : ∀ pn xe, LamZ (Z.tr pn xe) (lamF X params scope c') f bodyL psL fr us0 vs0 (vc.map some) := fun pn xe =>
      ⟨⟨dV, doc, pm, ctv, pf.1, fun t e => by
          obtain ⟨o, ho⟩ := hdt t e
          have q := I2.pin (t, o) (List.mem_append_right _ (List.mem_cons_of_mem _ (List.mem_append_left _ ho)))
          exact ⟨q.2.1, (hpt _ ho).2.1.2.2.2, o, q.1⟩, fun s3 hs3 => hb s3 fun t o e ho => by
          obtain ⟨o2, ho2⟩ := hdt t e
          have q := I2.pin (t, o2) (List.mem_append_right _ (List.mem_cons_of_mem _ (List.mem_append_left _ ho2)))
          have q1 := (hpt _ ho2).1
          rw [ho] at q1; cases q1
          exact hs3 t _ e q.1⟩, pf.2.1, fr1.2.2.2, C2, rv0, hl0⟩
    have act : ∀ (W' : WX) (pn : List (Addr × Obj)) (xe : Value → Shared → Prop) (p1 p2 : Pos), Kx (Z.tr pn xe) W' (k + 1) → DE (Z.tr pn xe) W' (.Call (.Name a p1) [] [] p2) (dAct 0 d0 (fb (stE NL.length (ds0 ++ ds)))) := fun W' pn xe p1 p2 kz' =>
      de_act (Z := Z.tr pn xe) (F := lamF X params scope c') rfl (LZ pn xe) SL0 kz' hvs (fun A outer s H E rm2 gd2 => hbody c' f A outer s H E (Kx.ofN rm2 gd2 SL0.nd)) hNg hva hd hcd
    refine ⟨_, (hG d0 (fb (stE NL.length (ds0 ++ ds))) g cdv X.A X.stack s2 H2 _ kz act).pss, ?_⟩
    refine ⟨⟨n2, F2, H2⟩, n2, F2, stE Ng.length (d0 :: rest), SL.start sub2 (.cons rd0 rr) tb2, ?_⟩
    have run := hφ f c' (X.env.qual ++ "<lambda>") (vc.map some) ds _ rest hlr _ _ _ hφr
    refine (sg d0 _ _).mono (fun fl m hf => ?_) (fun x m hx => ?_) run
    · cases fl with
      | nx env' => exact fun σ' F3 H3 _ z => hf .non F3 H3 (st2.trans z.st) .non
      | rt d => exact fun v F3 H3 z rv => hf v F3 H3 (st2.trans z) rv
    · exact fun cls dx σ' F3 H3 z rx => hx cls dx F3 H3 (st2.trans z) rx
  refine wpAny_call (codeAny_mono rc fun r s' hq => ?_)
  match r, hq with
  | .error u, hq => exact kx.tk u s' (XE.of_call Id (fun _ _ _ z => z) hq)
  | .ok (.ret u), hq => exact Id.after hq
  | .ok .next, hq => exact False.elim hq
  | .ok .brk, hq => exact False.elim hq
  | .ok .cont, hq => exact False.elim hq
end
end DL

end
section
set_option Elab.async false
set_option linter.all false
set_option maxRecDepth 100000
set_option maxHeartbeats 4000000
/-! DIsE: isinstance(err, C), err.field: err a value, of an error's class. -/
namespace DL
open PySem PySem.Spec PySem.Calls PyProof.Rows L2
section
open PySem.W
variable {prog : Program} {w : World} {A : Around} {E : Value → Shared → Prop} {s : Shared} {K : PySem.W.Frag} {x C : Addr} {ox od : Obj}
/-- the class's name, asked of an error that has a dict of its own -/
theorem err_class {Q : Option Value → Shared → Prop} (T : ExcC K C) (X : K.In s.heap) (I : InstAt s.heap x ox C (some od)) (h : Q (some (.ref C)) { s with toks := s.toks + 1 }) : wpAny (model prog w) A (getAttr? (.ref x) "__class__") Q E s := by
  obtain ⟨g1, g2, g3, g4, g5, g6, g7, g8⟩ := T
  have fo : findObj K C (some od) "__class__" = some (.bind (.builtin "getset_descriptor.__get__") (.builtin "object.__class__")) := findObj_data (by obtain ⟨_, q, _⟩ := any_some g4; rw [q]; rfl) g5 g6 g7
  obtain ⟨hp, gg, dd, tt, oo⟩ := s
  have ty := I.type (M := model prog w)
  have l1 := looks_findIn (M := model prog w) X g1
  have l2 := looks_findIn (M := model prog w) X g2
  have l3 := looks_find (M := model prog w) X I fo
  have isB : Looks (model prog w) hp (isInstance (.ref x) (.type "BaseException")) true := ty.andThen (looks_subIn X g3)
  have n0 : (false && onTheHeap (Value.builtin "BaseException.__getattribute__")) = false := rfl
  have n2 : (Value.builtin "BaseException.__getattribute__" == Value.builtin "object.__getattribute__") = false := by decide +kernel
  have n1 : (onTheHeap (Value.ref C) && Value.builtin "BaseException.__getattribute__" == Value.builtin "object.__getattribute__") = false := by rw [n2] <;> rfl
  unfold getAttr? getAttrBy?
  unfold getAttrBy
  refine wpAny_bind (wpAny_mkText (wpAny_bind (wpAny_attempt (wpAny_holding (wpAny_bind (ty.at (wpAny_bind (l1.at ?_))))))))
  show wpAny _ _ (if (onTheHeap (Value.ref C) && Value.builtin "BaseException.__getattribute__" == Value.builtin "object.__getattribute__") = true then _ else _) _ _ _
  rw [n1, if_neg (fun z => by cases z)]
  unfold getAttrByItsOwn
  unfold hookBefore
  refine wpAny_bind ?_
  rw [if_pos (show onTheHeap (Value.ref C) = true from rfl)]
  refine l2.at (wpAny_bind (wpAny_attempt (wpAny_holding ?_)))
  unfold callGetattribute
  rw [n0, if_neg (fun z => by cases z)]
  unfold boundAndCalled
  rw [PySem.F.excAttr_ValueError.ga.bind (.ref x)]
  refine wpAny_bind (wpAny_pure ?_)
  show wpAny _ _ (call (.builtin "BaseException.__getattribute__") [.ref x, .str "__class__" tt]) _ _ _
  refine wpAny_call (codeAny_call_builtin PySem.F.excAttr_ValueError.ga.plain PySem.F.entry_bexc_ga ?_)
  refine @check_slot (model prog w) _ _ ⟨hp, gg, dd, tt + 1, oo⟩ "BaseException.__getattribute__" "BaseException" "__getattribute__" (.ref x) [.str "__class__" tt] [] _ (by decide +kernel) (by decide +kernel) isB (PySem.F.args_bexc_ga (.ref x) (.str "__class__" tt)) ?_
  unfold Builtin.«object.__getattribute__»
  refine wpAny_bind (wpAny_of_eq (a := ((Value.ref x : Value), [Value.str "__class__" tt])) (by first | rfl | (simp only [slotArgs]; rfl)) ?_)
  refine wpAny_bind (wpAny_pure (wpAny_bind (ty.at (wpAny_bind (l3.at ?_)))))
  show wpAny _ _ (holding [Value.builtin "object.__class__"] (call (.builtin "getset_descriptor.__get__") [.builtin "object.__class__", .ref x, .ref C]) >>= PySem.ret) _ _ _
  refine wpAny_bind (wpAny_holding (wpAny_call (class_get (s := ⟨hp, gg, dd, tt + 1, oo⟩) (ox := ox) (od := some od) X I g8 ?_)))
  refine wpAny_pure ?_
  show wpAny _ _ (handedOut (.ref C)) _ _ _
  rw [handedOut_of (v := .ref C) rfl]
  first
    | exact wpAny_pure (wpAny_pure h)
    | exact wpAny_pure h
    | exact wpAny_pure (wpAny_bind (wpAny_pure (wpAny_pure h)))
theorem err_kit (T : ExcC K C) : KitX K (.ref x) (.ref C) (fun h => InstAt h x ox C (some od)) where
  ty := fun _ _ _ I => I.type
  it := fun _ _ X _ => by
    obtain ⟨cdC, hcC, _⟩ := any_some T.hd
    unfold clsIn at hcC
    split at hcC
    · rename_i k1 k2 k3 k4 ho
      exact fun A' Q' E' s' k q => by
        unfold isType
        unfold loadHead
        exact wpAny_bind (wpAny_loadPart (k _ _ (X _ _ ho)) (wpAny_pure q))
    · cases hcC
  ne := fun h tp d2 its n sl X htp => by
    obtain ⟨cdC, hcC, _⟩ := any_some T.hd
    refine Bool.eq_false_iff.mpr fun q => ?_
    obtain rfl : C = tp := Value.ref.inj (beq_iff_eq.mp q)
    unfold clsIn at hcC
    split at hcC
    · rename_i k1 k2 k3 k4 ho
      cases ((X _ _ ho).symm.trans htp)
    · cases hcC
  ca := fun X I k => err_class T X I k
end
variable [Tb]
/-- an error's class: what its objects tell -/
structure ErrO (K : PySem.W.Frag) (mg : Str → Option Value) (c : Str) : Prop where
  ex : ∃ C : Addr, mg c = some (.ref C) ∧ ExcC K C ∧ XfC K C ∧ PySem.W.findIn K (.ref C) (fieldOf c) = some none
/-- an error of the class c, asked for the class d -/
def ErrT (K : PySem.W.Frag) (mg : Str → Option Value) (c d : Str) : Prop := ∃ C D : Addr, mg c = some (.ref C) ∧ mg d = some (.ref D) ∧ PySem.W.kitOne K (.ref C) (.ref D) = some (decide (c = d))
def rIsX (K : PySem.W.Frag) : List V → Hp → VK → Prop := fun xs H Q => ∃ (a C D dx : Addr) (f : Str) (v : V) (b : Bool), xs = [.ref a, .ref D] ∧ H a = some (ExcO a C dx) ∧ H dx = some (.xd [(f, v)]) ∧ ExcC K C ∧ PySem.W.kitOne K (.ref C) (.ref D) = some b ∧ Q (.bl b) H
section
variable {X : Cx} {W : WX}
theorem exc_inst {K : PySem.W.Frag} {P : Program} {w : World} {s : Shared} {H : Hp} {a C dx : Addr} {fs : List (Str × V)} (h : HOk P w H s.heap) (h1 : H a = some (ExcO a C dx)) (h2 : H dx = some (.xd fs)) :
    ∃ oe od, s.heap.get? a = some oe ∧ oe.cls = .ref C ∧ oe.dict = some dx ∧ (∃ vs, oe.data = .fields vs) ∧ PySem.W.InstAt s.heap a oe C (some od) ∧ s.heap.get? dx = some od ∧ ∀ n, (fs.lookup n).isSome → ∃ v u, fs.lookup n = some v ∧ RelV v u ∧ PySem.W.lookIn n od = some (some u) := by
  obtain ⟨⟨oe, vs, e1, e2, e3, e4⟩, _⟩ := h a _ h1
  obtain ⟨mA, hns, hr⟩ := (show ObjOk P w H s.heap dx (.xd fs) from h dx _ h2)
  obtain ⟨od, ho, hl⟩ := lookIn_ns hns
  refine ⟨oe, od, e1, e2, e3, ⟨vs, e4⟩, ⟨e1, e2, by unfold PySem.W.notCls; rw [e4] <;> rfl, by rw [e3]; exact ho⟩, ho, fun n hn => ?_⟩
  obtain ⟨v, hv⟩ := Option.isSome_iff_exists.mp hn
  obtain ⟨u, hu, ru⟩ := RelO.some_of (v := v) (o := mA n) (by rw [← hv]; exact hr n)
  exact ⟨v, u, hv, ru, by rw [hl, hu]⟩
theorem cr_isX : CallR X (.builtin "isinstance") (rIsX X.K) := by
  intro pins s σ H xs us Q I r h
  obtain ⟨a, C, D, dx, f, v, b, rfl, h1, h2, T, e, q⟩ := h
  cases r with
  | cons rx rr =>
    cases rr with
    | cons rt rr =>
      cases rr
      cases rx
      cases (show _ = Value.ref D from rt)
      obtain ⟨oe, od, _, _, _, _, J, _, _⟩ := exc_inst (K := X.K) I.hok h1 h2
      exact PySem.W.kia_one (err_kit T) I.kIn J e (fun z => nomatch z) fun tk => ⟨.bl b, H, I.kept (t' := tk) fun _ _ z => z, rfl, q⟩
def gIsE (oks cls : List Str) : List D → M D
  | [.exc c _, .fn d] => need (c ∈ oks ∧ d ∈ cls) (ret (.bl (decide (c = d))))
  | _ => stuck
theorem cd_isX {oks cls : List Str} (T : ∀ c ∈ oks, ErrO X.K X.mg c) (T2 : ∀ c ∈ oks, ∀ d ∈ cls, ErrT X.K X.mg c d) : CallD X (rIsX X.K) (gIsE oks cls) := fun n F H xs ds Q E s r q => by
  unfold gIsE at q
  split at q
  · rename_i c p d
    obtain ⟨⟨hc, hd⟩, q⟩ := q
    obtain ⟨C, m1, T1, _, _⟩ := (T c hc).ex
    obtain ⟨C', D, m2, m3, k⟩ := T2 c hc d hd
    rw [m1] at m2; cases m2
    cases r with
    | cons r1 r2 =>
      cases r2 with
      | cons r3 r4 =>
        cases r4
        cases r1 with
        | exc m4 e1 e2 _ =>
          rw [m1] at m4; cases m4
          cases r3 with
          | fn m5 =>
            rw [m3] at m5; cases m5
            exact ⟨_, _, _, _, _, _, _, rfl, s _ _ e1, s _ _ e2, T1, k, q _ F H (Step.refl s) (.bl _)⟩
  · exact q.elim
/-- the field of an error -/
def dFld (oks : List Str) (n : Str) (f : DExp) : DExp := fun env => bnd (f env) fun d => match d with
  | .exc c p => need (c ∈ oks ∧ fieldOf c = n) (ret p)
  | _ => stuck
theorem de_fld {oks : List Str} {n : Str} {e : Expr} {f : DExp} {pos : Pos} (T : ∀ c ∈ oks, ErrO X.K X.mg c) (he : DE X W e f) (hb : attributeBase e n X.env (eval e X.env) = eval e X.env := by rfl) : DE X W (.Attribute e n pos) (dFld oks n f) := by
  refine ⟨⟨fun pins s σ H Q I h => ?_⟩⟩
  have h2 : tD X W f σ H fun x H1 => ∃ (a C dx : Addr) (v : V), x = .ref a ∧ H1 a = some (ExcO a C dx) ∧ H1 dx = some (.xd [(n, v)]) ∧ XfC X.K C ∧ PySem.W.findIn X.K (.ref C) n = some none ∧ Q v H1 := by
    obtain ⟨B, m, F, env, S, h⟩ := h
    refine tD.go S h fun d n1 v F1 H1 p t r S1 => ?_
    cases d with
    | exc c y =>
      obtain ⟨⟨hc, hn⟩, p⟩ := p
      obtain ⟨C, m1, _, T1, nf⟩ := (T c hc).ex
      cases r with
      | exc m4 e1 e2 ry =>
        rw [m1] at m4; cases m4
        subst hn
        exact ⟨_, _, _, _, rfl, S1.sub _ _ e1, S1.sub _ _ e2, T1, nf, p _ F1 H1 t ry⟩
    | _ => exact p.elim
  refine attr_of hb (thn (he.pe.run pins s σ H _ I h2) fun u s1 hh => ?_)
  obtain ⟨x, H1, I1, rx, a, C, dx, v, rfl, h1, h3, T1, nf, q⟩ := hh
  obtain rfl : u = Value.ref a := rx
  obtain ⟨oe, od, _, _, _, _, J, _, lk⟩ := exc_inst (K := X.K) I1.hok h1 h3
  obtain ⟨v', u', e1, ru, e2⟩ := lk n (by simp)
  have : v' = v := by simpa using e1.symm
  subst this
  exact HandSPX.exc_get I1.kIn J T1.ga T1.gg T1.exC (PySem.W.findObj_own T1.hdC nf rfl e2) (handed_of ru) ⟨v', H1, I1.tok _, ru, q⟩
end
@[simp] theorem x_dfld (oks : List Str) (n : Str) (f : DExp) (env : En) : dFld oks n f env = bnd (f env) fun d => match d with
  | .exc c p => need (c ∈ oks ∧ fieldOf c = n) (ret p)
  | _ => stuck := rfl
end DL

end
section
set_option Elab.async false
set_option linter.all false
set_option maxRecDepth 100000
set_option maxHeartbeats 4000000
/-! DEndT: from the law's own promise to the statement, where defs make lambdas. -/
namespace DL
open PySem PySem.Spec PyProof.Rows L2
variable [Tb]
theorem law_goT {P : Program} {w : World} {K : PySem.W.Frag} {mg mb : Str → Option Value} {k : Nat} {fa a : Addr} {cs : List (Addr × Addr)} {fd : FuncData} {x : Str} {sp : Sp} {s1 : Shared} {vs : List Value} {ns : List Int}
    (kin : K.In s1.heap) (gns : s1.heap.Ns mainGlobals mg) (bns : s1.heap.Ns builtinsNs mb) (bbo : ∀ x : Str, x ≠ "__name__" → mb x = bootBuiltins x)
    (nol : s1.heap.NoLimit) (gen0 : s1.gens = #[])
    (tabs : ∀ p ∈ cs, PySem.W.CodeHd s1.heap p.1 p.2 ∧ s1.heap.get? p.2 = some { cls := .none, data := .fields #[] } ∧ K.lookup p.2 = none)
    (bmain : ∃ (bm : Addr) (ob : Obj), mg "__builtins__" = some (.ref bm) ∧ bm ≠ builtinsNs ∧ s1.heap.get? bm = some ob ∧ ob.cls = .type "module" ∧ ob.dict = some builtinsNs ∧ ob.data = .plain)
    (at_ : s1.heap.get? a = some { cls := .type "list", data := .seq vs.toArray }) (ia : IntsAre vs ns) (small : ns.length ≤ sizeLine)
    (room : Room k callerA) (G : ∀ base : Heap, K.In base → base.Ns mainGlobals mg → (∀ p ∈ cs, LamX.TabB base mg p.1 p.2) → FnG P w K mg base k fa fd [x] sp) (bind : ∀ (s : Shared) (u : Value), BindsTo s fd ⟨[u], []⟩ [(x, u)])
    (meets : ∀ H : Hp, (∀ p ∈ cs, H p.2 = some (.tbl #[])) → SqL K H a (ns.map V.int) → sp [.ref a] H (fun v _ => v = .bl true) fun _ _ _ => False) :
    codeAny (model P w) callerA (.call (.ref fa) ⟨[.ref a], []⟩)
      (fun r s' => r = .ok (.ret (.bool true)) ∧ OldK s1.heap s'.heap ∧ s'.os = s1.os ∧ AllBare s'.gens) s1 := by
  have vals : Vals (ns.map V.int) vs := vals_ints ia
  have same : vs.length = ns.length := ia.length
  let O : Obj := { cls := .type "list", data := .seq vs.toArray }
  let T : Obj := { cls := .none, data := .fields #[] }
  let Ts : List Addr := cs.map (·.2)
  have tabAt : ∀ b ∈ Ts, s1.heap.get? b = some T ∧ K.lookup b = none := fun b hb => by
    obtain ⟨p, hp, rfl⟩ := List.mem_map.mp hb
    exact ⟨(tabs p hp).2.1, (tabs p hp).2.2⟩
  have aT : a ∉ Ts := fun z => by
    have q := (tabAt a z).1
    rw [at_] at q
    have : O.cls = T.cls := congrArg Obj.cls (Option.some.inj q)
    cases this
  suffices go : ∀ H : Hp, (∀ b u, H b = some u → (b = a ∧ u = .frz O (.lst (ns.map V.int)) ∧ K.lookup a = none) ∨ (b ∈ Ts ∧ u = .tbl #[])) → (∀ b ∈ Ts, H b = some (.tbl #[])) → SqL K H a (ns.map V.int) →
      codeAny (model P w) callerA (.call (.ref fa) ⟨[.ref a], []⟩) (fun r s' => r = .ok (.ret (.bool true)) ∧ OldK s1.heap s'.heap ∧ s'.os = s1.os ∧ AllBare s'.gens) s1 by
    cases e : K.lookup a with
    | some o =>
      have q := kin a o e
      rw [at_] at q
      have q := Option.some.inj q
      subst q
      refine go (fun b => if b ∈ Ts then some (.tbl #[]) else none) (fun b u z => ?_) (fun b hb => if_pos hb) (.inr ⟨O, vs.toArray, _, e, rfl, rfl, rfl, by rw [List.size_toArray, same]; exact small, vals⟩)
      by_cases hb : b ∈ Ts
      · rw [if_pos hb] at z; exact .inr ⟨hb, (Option.some.inj z).symm⟩
      · rw [if_neg hb] at z; cases z
    | none =>
      refine go (fun b => if b = a then some (.frz O (.lst (ns.map V.int))) else if b ∈ Ts then some (.tbl #[]) else none) (fun b u z => ?_) (fun b hb => ?_) (.inl (.inr ⟨O, if_pos rfl⟩))
      · by_cases hb : b = a
        · rw [if_pos hb] at z
          exact .inl ⟨hb, (Option.some.inj z).symm, e⟩
        · rw [if_neg hb] at z
          by_cases h2 : b ∈ Ts
          · rw [if_pos h2] at z; exact .inr ⟨h2, (Option.some.inj z).symm⟩
          · rw [if_neg h2] at z; cases z
      · show (if b = a then _ else if b ∈ Ts then some (HO.tbl #[]) else none) = _
        rw [if_neg (fun z : b = a => aT (by rw [← z]; exact hb)), if_pos hb]
  intro H only hT seq
  have ok : HOk P w H s1.heap := fun b u z => by
    rcases only b u z with ⟨rfl, rfl, _⟩ | ⟨hb, rfl⟩
    · exact ⟨at_, by rw [List.length_map]; exact small, vs, _, vals, at_⟩
    · exact (tabAt b hb).1
  have other : ∀ {b : Addr} {o : Obj}, s1.heap.get? b = some o → (∀ u, H b = some u → False) → (hidT s1.heap H).get? b = some o := fun {b o} e z => hidT_get e (by
    cases q : H b with
    | none => rfl
    | some u => exact (z u q).elim)
  have apart : ∀ {b : Addr} {o : Obj}, s1.heap.get? b = some o → o ≠ O → o ≠ T → (hidT s1.heap H).get? b = some o := fun {b o} e n1 n2 => other e fun u z => by
    rcases only b u z with ⟨rfl, _, _⟩ | ⟨hb, _⟩
    · rw [at_] at e; exact n1 (Option.some.inj e).symm
    · rw [(tabAt b hb).1] at e; exact n2 (Option.some.inj e).symm
  have nss : ∀ {b : Addr} {m : Str → Option Value}, s1.heap.Ns b m → (hidT s1.heap H).Ns b m := fun {b m} ⟨o, es, ep, e, d, r⟩ =>
    ⟨o, es, ep, apart e (fun z => by subst z; cases d) (fun z => by subst z; cases d), d, r⟩
  have kin' : K.In (hidT s1.heap H) := fun b o e => other (kin b o e) fun u z => by
    rcases only b u z with ⟨rfl, _, n⟩ | ⟨hb, _⟩
    · rw [n] at e; cases e
    · rw [(tabAt b hb).2] at e; cases e
  have md : Mod K mg (hidT s1.heap H) := ⟨kin', nss gns, ⟨mb, nss bns, bbo⟩, by
    obtain ⟨mc, l1, l2⟩ := nol
    exact ⟨mc, nss l1, l2⟩⟩
  have TB : ∀ p ∈ cs, LamX.TabB (hidT s1.heap H) mg p.1 p.2 := fun p hp => by
    obtain ⟨hc, ht, _⟩ := tabs p hp
    refine ⟨?_, ?_, fun z => ?_⟩
    · obtain ⟨o, us, file, tf, flags, tg, inF, text, tt, e1, r1, r2⟩ := hc
      exact ⟨o, us, file, tf, flags, tg, inF, text, tt, apart e1 (fun z => by rw [z] at r1; simp [O, T] at r1) (fun z => by rw [z] at r1; simp [O, T] at r1), r1, r2⟩
    · obtain ⟨bm, ob, b1, b2, b3, b4, b5, b6⟩ := bmain
      refine ⟨bm, ob, b1, b2, fun q => ?_, fun q => ?_, apart b3 (fun z => by rw [z] at b4; simp [O, T] at b4) (fun z => by rw [z] at b4; simp [O, T] at b4), b4, b5, b6⟩
      · obtain ⟨o, es, ep, e, d, _⟩ := gns
        rw [q, e] at b3; cases b3
        rw [d] at b6; cases b6
      · rw [q, ht] at b3; cases b3
        cases b4
    · obtain ⟨o, es, ep, e, d, _⟩ := gns
      rw [z, ht] at e; cases e
      cases d
  have env : Env0 P w K mg (hidT s1.heap H) callerA [] s1 H :=
    ⟨rfl, md, fun b o e => of_hidT e, Nat.le_of_eq (hidT_size _ _), trivial, fun b hb => (nomatch hb), ok, .of_eq gen0⟩
  have run := (G _ kin' (nss gns) TB).run callerA [] s1 H ⟨[.ref a], []⟩ [.ref a] [.ref a] _ _ room rfl env (bind s1 (.ref a)) (.cons rfl .nil) (meets H (fun p hp => hT _ (List.mem_map.mpr ⟨p, hp, rfl⟩)) seq)
  refine codeAny_mono run fun r s' h => ?_
  match r, h with
  | .error e, h =>
    obtain ⟨_, _, _, _, _, _, _, _, _, _, _, _, z⟩ := h
    exact z.elim
  | .ok .next, h => exact h.elim
  | .ok .brk, h => exact h.elim
  | .ok .cont, h => exact h.elim
  | .ok (.ret u), h =>
    obtain ⟨v, H', os, bare, un, ok', r', q⟩ := h
    cases (show v = .bl true from q)
    have r' : u = Value.bool true := r'
    subst r'
    have kept : ∀ b o, b ∉ Ts → s1.heap.get? b = some o → s'.heap.get? b = some o := fun b o nb e => by
      cases z : H b with
      | none => exact un.keep b o e z (fun q => by cases q) (by simp)
      | some u =>
        rcases only b u z with ⟨rfl, rfl, _⟩ | ⟨hb, _⟩
        · have z2 := un.frzs b O _ z
          obtain ⟨e1, _⟩ := ok b _ z
          obtain ⟨e2, _⟩ := ok' b _ z2
          rw [e] at e1
          cases e1
          exact e2
        · exact absurd hb nb
    have grown : ∀ p ∈ cs, ∃ more : Array Value, s'.heap.get? p.2 = some { cls := .none, data := .fields more } := fun p hp => by
      obtain ⟨more, z⟩ := un.tbls p.2 #[] (hT _ (List.mem_map.mpr ⟨p, hp, rfl⟩))
      exact ⟨_, ok' p.2 _ z⟩
    refine ⟨rfl, ⟨fun b o e => ?_, fun b o e => ?_⟩, os, bare⟩
    · by_cases hb : b ∈ Ts
      · obtain ⟨p, hp, rfl⟩ := List.mem_map.mp hb
        obtain ⟨more, hm⟩ := grown p hp
        have ht := (tabs p hp).2.1
        rw [ht] at e
        cases e
        exact .inr (.inl ⟨((tabs p hp).1.tab ht).isCodeTable, rfl, #[], more, rfl, by rw [Array.empty_append]; exact hm⟩)
      · exact .inl (kept b o hb e)
    · by_cases hb : b ∈ Ts
      · obtain ⟨p, hp, rfl⟩ := List.mem_map.mp hb
        obtain ⟨more, hm⟩ := grown p hp
        exact ⟨_, hm⟩
      · exact ⟨o, kept b o hb e⟩
/-- where the maker x's code object and its table stand -/
def TabAt (q : Program) (K : PySem.W.Frag) (p : Addr × Addr) : Prop := ∃ (x : Str) (d : DefRec), (recsOf q).find? (fun e => e.name == x) = some d ∧ PySem.W.tabIn K x = some p ∧ K.lookup p.2 = none
theorem walk_goT {l : PySem.W.OpenLaw} {n k : Nat} {q : Program} {loose : List Str} {XP : (Str → Option Value) → Heap → Prop} {YP : World → Heap → Prop} {d : DefRec} {K : Params → PySem.W.Frag} {sp : World → Sp} {x : Str} (cs : List (Addr × Addr))
    (most : l.most = some n) (small : n ≤ sizeLine) (noDf : d.params.defaults = []) (room : Room k callerA) (kin : ∀ (w : World) (h : Heap), YP w h → (K w.params).In h)
    (tabs : ∀ w : World, ∀ p ∈ cs, TabAt q (K w.params) p)
    (F : ∀ (w : World) (mg : Str → Option Value) (fa : Addr) (h : Heap), (K w.params).In h → h.Ns mainGlobals mg → mg d.name = some (.ref fa) →
      ∃ fd : FuncData, (∀ (s : Shared) (u : Value), BindsTo s fd ⟨[u], []⟩ [(x, u)]) ∧ ∀ base : Heap, (K w.params).In base → base.Ns mainGlobals mg → (∀ p ∈ cs, LamX.TabB base mg p.1 p.2) → FnG l.prog w (K w.params) mg base k fa fd [x] (sp w))
    (meets : ∀ (w : World) (H : Hp) (a : Addr) (ns : List Int), ns.length ≤ n → (∀ p ∈ cs, H p.2 = some (.tbl #[])) → SqL (K w.params) H a (ns.map V.int) → sp w [.ref a] H (fun v _ => v = .bl true) fun _ _ _ => False) :
    PySem.W.WalkO q loose XP YP l.row.toRowW d [] (fun f vs => PySem.call f vs) := by
  refine Att.attach_call most noDf fun w s0 s1 mg mb fa o pm cd doc a vs ns G Y ho hd hcd hmg hobj hints hlen hg => ?_
  have hK := kin w _ Y
  obtain ⟨fd, hb, hF⟩ := F w mg fa _ hK G.T.g hmg
  refine law_goT (cs := cs) hK G.T.g G.T.b G.T.builtins G.T.nolimit hg (fun p hp => ?_) G.T.bmain hobj hints (Nat.le_trans hlen small) room hF hb fun H hT hs => meets w H a ns hlen hT hs
  obtain ⟨y, dr, h1, h2, h3⟩ := tabs w p hp
  obtain ⟨z1, z2⟩ := PySem.W.tab_of (c := p.1) (P := p.2) G.T hK h1 h2
  exact ⟨z1, z2, h3⟩
theorem tabs_nil {cs : List (Addr × Addr)} {H : Hp} (h : ∀ P q, (P, q) ∈ Tb.tabs → ∃ c, (c, P) ∈ cs) (hT : ∀ p ∈ cs, H p.2 = some (.tbl #[])) (hs : Tb.sys = true → ∃ u, H sysModules = some u ∧ SysO u) : TabsK H := ⟨fun P q m => by
  obtain ⟨c, hc⟩ := h P q m
  exact LamX.TabS.nil (hT _ hc), hs⟩
/-! ### a maker of lambdas: a def whose code object and table are known -/
structure DfC (K : PySem.W.Frag) (mg : Str → Option Value) (x : Str) (ps : List Str) (st : Stmt) (c : Addr) : Prop where
  ex : ∃ (f : Addr) (oc : Value) (od an : Option Addr) (kV doc pm ct : Value) (osl : Array (Option Value)), mg x = some (.ref f) ∧ K.lookup f = some ⟨oc, od, .func (PySem.W.fnOf x x (defArgs st) (defBody st) (defScope st) .none kV doc pm an (.ref c) ct), osl⟩ ∧ PySem.W.codeIn K (.ref c) x = true ∧ PySem.W.keepIn K (.ref f) = true ∧
    Binds K (PySem.W.fnOf x x (defArgs st) (defBody st) (defScope st) .none kV doc pm an (.ref c) ct) ps []
theorem FnG.bodyC {P : Program} {w : World} {K : PySem.W.Frag} {mg : Str → Option Value} {ground : Heap} {f : Addr} {ps : List Str} {x qual : Str} {st : Stmt} {N : List Str} {k : Nat} {sp : Sp} {oc cd kV doc pm ct : Value} {od an : Option Addr} {osl : Array (Option Value)}
    (hl : K.lookup f = some ⟨oc, od, .func (PySem.W.fnOf x qual (defArgs st) (defBody st) (defScope st) .none kV doc pm an cd ct), osl⟩) (hc : PySem.W.codeIn K cd qual = true) (S : FnScope N ps (defScope st)) (len : ∀ vs H Q E, sp vs H Q E → vs.length = ps.length)
    (hb : ∀ (R : Around) (callers : List PySem.Env) (t : Shared) (H : Hp) (vs : List V) (Q : VK) (E : XK), Room k (R.deeper (envOfC qual (defScope st) t.heap.objs.size f cd)) → R.guards = some [] → sp vs H Q E →
      ∃ r, PSs (cxOf (L2.CX P w) P w K mg ground N qual (defScope st) f cd R callers t H E) (defBody st) r ∧ r { nx := fun _ H' => Q .non H', rt := Q } (L2.start N vs) H) :
    FnG P w K mg ground (k + 1) f (PySem.W.fnOf x qual (defArgs st) (defBody st) (defScope st) .none kV doc pm an cd ct) ps sp := by
  refine ⟨len, fun R callers t H g us vs Q E rm gd e0 bd rv q => ?_⟩
  have kin : K.In t.heap := e0.mod.kin.keeps fun b o e => (e0.bs b o e).1
  have nol : t.heap.NoLimit := e0.mod.nolimit.keeps fun b o e => (e0.bs b o e).1
  have kinds : ∀ y ∈ ps.zip us, (defScope st).names.lookup y.1 = some .local ∨
      ((defScope st).names.lookup y.1 = some .cell ∧ ((cellsFrom (t.heap.objs.size + 1) (defScope st).names []).lookup y.1).isSome = true) := by
    rintro ⟨a, v⟩ hy
    cases S.par a (List.of_mem_zip hy).1 with
    | inl z => exact .inl z
    | inr z => exact .inr ⟨z, PySem.W.cellsFrom_some _ _ _ (.inl z)⟩
  refine codeAny_call_function rm.depth (kin _ _ hl) rfl S.co S.gen rfl (PySem.W.codeRec_of kin hc) (bd _ _ _ _ (wpAny_newFunctionEnv_cells S.kind kinds fun en he s1 ic => ?_))
  subst he
  refine ⟨nol.keeps ic.toInCall.keep, codeAny_func ?_⟩
  obtain ⟨r, hr, hq⟩ := hb R callers t H vs Q E (rm.deeper _) gd q
  have I0 := inv_start (CX := L2.CX P w) (E := E) (N := N) S rm.hd e0 (len _ _ _ _ q) rv ic
  refine wpAny_mono (hr.run [] s1 (L2.start N vs) H _ I0 hq) (fun fl s2 z => ?_) fun _ _ z => z
  cases fl with
  | next =>
    obtain ⟨σ2, H2, J, q2⟩ := z
    exact ⟨.non, H2, J.os, J.bare, J.base, J.hok, rfl, q2⟩
  | ret u =>
    obtain ⟨v, σ2, H2, J, ru, q2⟩ := z
    exact ⟨v, H2, J.os, J.bare, J.base, J.hok, ru, q2⟩
  | brk => obtain ⟨_, _, _, q2⟩ := z; exact False.elim q2
  | cont => obtain ⟨_, _, _, q2⟩ := z; exact False.elim q2
theorem DfC.glo {P : Program} {w : World} {K : PySem.W.Frag} {mg : Str → Option Value} {ground : Heap} {x : Str} {N ps : List Str} {st : Stmt} {k m : Nat} {s : DStm} {c : Addr} (D : DfC K mg x ps st c) (S : FnScope N ps (defScope st)) (hm : ps.length = m)
    (hb : ∀ (f : Addr) (R : Around) (callers : List PySem.Env) (t : Shared) (H : Hp) (E : XK), Kx (cxOf (L2.CX P w) P w K mg ground N x (defScope st) f (.ref c) R callers t H E) (fun cls d _ H => E cls d H) k →
      DSs (cxOf (L2.CX P w) P w K mg ground N x (defScope st) f (.ref c) R callers t H E) (fun cls d _ H => E cls d H) (defBody st) s) : Glo P w K mg ground (k + 1) x m (fnOf N.length s) := by
  obtain ⟨f, oc, od, an, kV, doc, pm, ct, osl, h1, hl, hc, kp, hB⟩ := D.ex
  subst hm
  refine ⟨f, _, ps, rfl, h1, kp, hB, FnG.bodyC hl hc S (fun vs H Q E h => h.1) fun R callers t H vs Q E rm gd h => ⟨_, (hb f R callers t H E (Kx.of rm gd S.nd)).pss, ?_⟩⟩
  obtain ⟨_, n, F', ds, sb, tb, r, q⟩ := h
  refine ⟨⟨n, F', H⟩, n, F', _, SL.start sb r tb, (s _).mono (fun fl m hf => ?_) (fun x m hx => ?_) q⟩
  · cases fl with
    | nx env' => exact fun σ' F2 H2 _ z => hf .non F2 H2 z.st .non
    | rt d => exact fun v F2 H2 z rv => hf v F2 H2 z rv
  · exact fun cls dx σ' F2 H2 z rx => hx cls dx F2 H2 z rx
theorem DfC.of {K : PySem.W.Frag} {mg : Str → Option Value} {h : Heap} {x : Str} {ps : List Str} {st : Stmt} {f c : Addr} {oc : Value} {od an : Option Addr} {osl : Array (Option Value)} {kV doc pm ct : Value} (X : K.In h) (G : h.Ns mainGlobals mg)
    (a : PySem.W.nsIn K mainGlobals x = some (some (.ref f))) (l : K.lookup f = some ⟨oc, od, .func (PySem.W.fnOf x x (defArgs st) (defBody st) (defScope st) .none kV doc pm an (.ref c) ct), osl⟩) (hc : PySem.W.codeIn K (.ref c) x = true) (k : PySem.W.keepIn K (.ref f) = true)
    (b : ∀ (kV doc pm : Value) (an : Option Addr) (cdv ct : Value) (us : List Value), us.length = ps.length → bindArgs (PySem.W.fnOf x x (defArgs st) (defBody st) (defScope st) .none kV doc pm an cdv ct) ⟨us, []⟩ = pure (ps.zip us)) : DfC K mg x ps st c :=
  ⟨_, _, _, _, _, _, _, _, _, PySem.W.mg_of X G a, l, hc, k, (fun_mk l hc k).binds b⟩
theorem DfC.df {K : PySem.W.Frag} {mg : Str → Option Value} {x : Str} {ps : List Str} {st : Stmt} {c : Addr} (D : DfC K mg x ps st c) : Df K mg x ps st := by
  obtain ⟨f, oc, od, an, kV, doc, pm, ct, osl, h1, hl, hc, kp, hB⟩ := D.ex
  exact ⟨f, _, h1, fun_mk hl hc kp, hB⟩
end DL

end
section
set_option Elab.async false
set_option linter.all false
set_option maxRecDepth 100000
set_option maxHeartbeats 4000000
/-! DEqd: == of data without truth values: it is equality. -/
namespace DL
open PySem PySem.Spec PyProof.Rows L2
variable [Tb]
/-- plain data without truth values -/
def nbD : Nat → D → Bool
  | _, .non => true
  | _, .int _ => true
  | _, .str x => PyData.strOk x
  | k + 1, .tup l => l.all (nbD k)
  | k + 1, .lst l => l.all (nbD k)
  | _, _ => false
theorem nb_pl : ∀ {k : Nat} {d : D}, nbD k d = true → plD k d = true
  | 0, d, h => by cases d <;> first | exact h | rfl | cases h
  | k + 1, d, h => by
    cases d with
    | tup l =>
      have h : l.all (nbD k) = true := h
      show l.all (plD k) = true
      rw [List.all_eq_true] at h ⊢
      exact fun x hx => nb_pl (h x hx)
    | lst l =>
      have h : l.all (nbD k) = true := h
      show l.all (plD k) = true
      rw [List.all_eq_true] at h ⊢
      exact fun x hx => nb_pl (h x hx)
    | non => rfl
    | int _ => rfl
    | str _ => exact h
    | _ => cases h
theorem eqv_nb : ∀ {k : Nat} {d e : D} {p q : PyData}, nbD k d = true → nbD k e = true → toPy d = some p → toPy e = some q → (PyData.eqv p q = true ↔ d = e) := by
  intro k
  induction k with
  | zero =>
    intro d e p q h1 h2 e1 e2
    cases d <;> (try cases h1) <;> cases e <;> (try cases h2) <;> simp only [toPy, Option.some.injEq] at e1 e2 <;> subst e1 <;> subst e2 <;> simp [PyData.eqv]
  | succ k ih =>
    have seq : ∀ (l r : List D) (ps qs : List PyData), l.all (nbD k) = true → r.all (nbD k) = true → toPys l = some ps → toPys r = some qs → (PyData.eqvAll ps qs = true ↔ l = r) := by
      intro l
      induction l with
      | nil =>
        intro r ps qs h1 h2 e1 e2
        simp only [toPys, Option.some.injEq] at e1; subst e1
        cases r with
        | nil => simp only [toPys, Option.some.injEq] at e2; subst e2; simp [PyData.eqvAll]
        | cons y r =>
          obtain ⟨q, qs', g1, g2, rfl⟩ : ∃ q qs', toPy y = some q ∧ toPys r = some qs' ∧ qs = q :: qs' := by
            simp only [toPys] at e2
            split at e2
            · rename_i a b c d'; simp at e2; exact ⟨_, _, c, d', e2.symm⟩
            · cases e2
          simp [PyData.eqvAll]
      | cons x l ih2 =>
        intro r ps qs h1 h2 e1 e2
        rw [List.all_cons, Bool.and_eq_true] at h1
        obtain ⟨p, ps', f1, f2, rfl⟩ : ∃ q qs', toPy x = some q ∧ toPys l = some qs' ∧ ps = q :: qs' := by
          simp only [toPys] at e1
          split at e1
          · rename_i a b c d'; simp at e1; exact ⟨_, _, c, d', e1.symm⟩
          · cases e1
        cases r with
        | nil => simp only [toPys, Option.some.injEq] at e2; subst e2; simp [PyData.eqvAll]
        | cons y r =>
          rw [List.all_cons, Bool.and_eq_true] at h2
          obtain ⟨q, qs', g1, g2, rfl⟩ : ∃ q qs', toPy y = some q ∧ toPys r = some qs' ∧ qs = q :: qs' := by
            simp only [toPys] at e2
            split at e2
            · rename_i a b c d'; simp at e2; exact ⟨_, _, c, d', e2.symm⟩
            · cases e2
          simp only [PyData.eqvAll, Bool.and_eq_true, List.cons.injEq]
          rw [ih h1.1 h2.1 f1 g1, ih2 r ps' qs' h1.2 h2.2 f2 g2]
    intro d e p q h1 h2 e1 e2
    cases d with
    | tup l =>
      obtain ⟨ps, f, rfl⟩ : ∃ ps, toPys l = some ps ∧ p = .tuple ps := by
        simp only [toPy, Option.map_eq_some_iff] at e1; obtain ⟨a, b, c⟩ := e1; exact ⟨a, b, c.symm⟩
      cases e with
      | tup r =>
        obtain ⟨qs, g, rfl⟩ : ∃ ps, toPys r = some ps ∧ q = .tuple ps := by
          simp only [toPy, Option.map_eq_some_iff] at e2; obtain ⟨a, b, c⟩ := e2; exact ⟨a, b, c.symm⟩
        simp only [PyData.eqv, D.tup.injEq]
        exact seq l r ps qs h1 h2 f g
      | lst r =>
        obtain ⟨qs, g, rfl⟩ : ∃ ps, toPys r = some ps ∧ q = .list ps := by
          simp only [toPy, Option.map_eq_some_iff] at e2; obtain ⟨a, b, c⟩ := e2; exact ⟨a, b, c.symm⟩
        simp [PyData.eqv]
      | _ => first | (simp only [toPy, Option.some.injEq] at e2; subst e2; simp [PyData.eqv]; done) | (cases h2; done)
    | lst l =>
      obtain ⟨ps, f, rfl⟩ : ∃ ps, toPys l = some ps ∧ p = .list ps := by
        simp only [toPy, Option.map_eq_some_iff] at e1; obtain ⟨a, b, c⟩ := e1; exact ⟨a, b, c.symm⟩
      cases e with
      | lst r =>
        obtain ⟨qs, g, rfl⟩ : ∃ ps, toPys r = some ps ∧ q = .list ps := by
          simp only [toPy, Option.map_eq_some_iff] at e2; obtain ⟨a, b, c⟩ := e2; exact ⟨a, b, c.symm⟩
        simp only [PyData.eqv, D.lst.injEq]
        exact seq l r ps qs h1 h2 f g
      | tup r =>
        obtain ⟨qs, g, rfl⟩ : ∃ ps, toPys r = some ps ∧ q = .tuple ps := by
          simp only [toPy, Option.map_eq_some_iff] at e2; obtain ⟨a, b, c⟩ := e2; exact ⟨a, b, c.symm⟩
        simp [PyData.eqv]
      | _ => first | (simp only [toPy, Option.some.injEq] at e2; subst e2; simp [PyData.eqv]; done) | (cases h2; done)
    | non =>
      simp only [toPy, Option.some.injEq] at e1; subst e1
      cases e with
      | tup r =>
        simp only [toPy, Option.map_eq_some_iff] at e2; obtain ⟨a, b, rfl⟩ := e2; simp [PyData.eqv]
      | lst r =>
        simp only [toPy, Option.map_eq_some_iff] at e2; obtain ⟨a, b, rfl⟩ := e2; simp [PyData.eqv]
      | _ => first | (simp only [toPy, Option.some.injEq] at e2; subst e2; simp [PyData.eqv]; done) | (cases h2; done)
    | int i =>
      simp only [toPy, Option.some.injEq] at e1; subst e1
      cases e with
      | tup r =>
        simp only [toPy, Option.map_eq_some_iff] at e2; obtain ⟨a, b, rfl⟩ := e2; simp [PyData.eqv]
      | lst r =>
        simp only [toPy, Option.map_eq_some_iff] at e2; obtain ⟨a, b, rfl⟩ := e2; simp [PyData.eqv]
      | _ => first | (simp only [toPy, Option.some.injEq] at e2; subst e2; simp [PyData.eqv]; done) | (cases h2; done)
    | str x =>
      simp only [toPy, Option.some.injEq] at e1; subst e1
      cases e with
      | tup r =>
        simp only [toPy, Option.map_eq_some_iff] at e2; obtain ⟨a, b, rfl⟩ := e2; simp [PyData.eqv]
      | lst r =>
        simp only [toPy, Option.map_eq_some_iff] at e2; obtain ⟨a, b, rfl⟩ := e2; simp [PyData.eqv]
      | _ => first | (simp only [toPy, Option.some.injEq] at e2; subst e2; simp [PyData.eqv]; done) | (cases h2; done)
    | _ => cases h1
theorem eqD_nb {d e : D} (h1 : nbD 20 d = true) (h2 : nbD 20 e = true) : eqD d e = true ↔ d = e := by
  obtain ⟨p, e1, _⟩ := pl_py 20 d (nb_pl h1)
  obtain ⟨q, e2, _⟩ := pl_py 20 e (nb_pl h2)
  unfold eqD
  rw [e1, e2]
  exact eqv_nb h1 h2 e1 e2
theorem gEq_nb {neg : Bool} {d e : D} (h1 : nbD 20 d = true) (h2 : nbD 20 e = true) (b : Bool) (hb : b = true ↔ d = e) : gEq neg d e = ret (.bl (if neg then !b else b)) := by
  rw [gEq_pl (nb_pl h1) (nb_pl h2)]
  have : eqD d e = b := by
    rw [Bool.eq_iff_iff, eqD_nb h1 h2, hb]
  rw [this]
theorem nb_ints {k : Nat} (ns : List Int) : nbD (k + 1) (.tup (ns.map .int)) = true := by
  show (ns.map D.int).all (nbD k) = true
  rw [List.all_eq_true]
  intro d hd
  obtain ⟨i, _, rfl⟩ := List.mem_map.mp hd
  cases k <;> rfl
end DL

end
section
set_option Elab.async false
set_option linter.all false
set_option maxRecDepth 100000
set_option maxHeartbeats 4000000
/-! DOut: what a law's own outcome tells of a lambda. -/
namespace DL
open PySem PySem.Spec PyProof.Rows L2
variable [Tb]
/-- the three classes of an except clause catch the errors oks -/
structure Exc3 (K : PySem.W.Frag) (mg : Str → Option Value) (oks : List Str) (x1 x2 x3 : Str) : Prop where
  ex : ∃ c1 c2 c3 : Value, mg x1 = some c1 ∧ mg x2 = some c2 ∧ mg x3 = some c3 ∧ ∀ c ∈ oks, ∀ C : Addr, mg c = some (.ref C) → PySem.W.exmAny K (.ref C) [c1, c2, c3] = some true
section
variable {X : Cx} {W : WX} {k i : Nat} {x1 x2 x3 nm y : Str} {body : List Stmt} {q1 q2 q3 q4 q5 q6 q7 pos pos' : Pos} {kk : Nat} {s : DStm}
theorem ds_try3e (iy len : Nat) (oks : List Str) (i : Nat) (kx : Kx X W k) (T : Exc3 X.K X.mg oks x1 x2 x3)
    (hb : ∀ (W' : WX) (pn : List (Addr × Obj)) (xe : Value → Shared → Prop), Kx (X.tr pn xe) W' k → DSs (X.tr pn xe) W' body s)
    (hex : X.ex = [] := by rfl) (hs : X.stack = X.env :: X.outer := by rfl) (hf : X.env.frame = some X.env.locals := by rfl) (hi : X.N[i]? = some nm := by rfl) (hln : X.env.kindOf nm = some .local := by rfl) (hiy : X.N[iy]? = some y := by rfl) (hly : X.env.kindOf y = some .local := by rfl) (hyn : iy ≠ i := by decide) (hlen : X.N.length = len := by rfl)
    (g1 : Gl X x1 := by rfl) (g2 : Gl X x2 := by rfl) (g3 : Gl X x3 := by rfl) (d1 : (x1 == ("__debug__" : Str)) = false := by decide) (d2 : (x2 == ("__debug__" : Str)) = false := by decide) (d3 : (x3 == ("__debug__" : Str)) = false := by decide)
    (dn : (nm == ("__debug__" : Str)) = false := by decide) (dc : (nm == ("__classdict__" : Str)) = false := by decide) :
    DS X W (.Try body [.ExceptHandler (some (.Tuple [.Name x1 q1, .Name x2 q2, .Name x3 q3] kk q4)) (some nm) [.Assign [.Name y q5] (.Name nm q6) q7] pos'] [] [] pos) (sTry oks iy len s) := by
  obtain ⟨c1, c2, c3, m1, m2, m3, hm⟩ := T.ex
  exact ds_try3 iy len oks kx hex hs hf hi hln hiy hly hyn hlen g1 g2 g3 m1 m2 m3 d1 d2 d3 dn dc hm hb
theorem de_gfnE {x : Str} {pos : Pos} (h : ∃ f : Addr, X.mg x = some (.ref f)) (hg : Gl X x := by rfl) (hd : (x == ("__debug__" : Str)) = false := by decide) : DE X W (.Name x pos) (dK (.fn x)) := let ⟨_, q⟩ := h; de_gfn q hg hd
end
/-- what comes of a call: [what it returns], or what is said of its error -/
def outM (oks : List Str) (wordF : D → M D) (m : M D) : M D :=
  bnd (catchM (bnd m fun d => ret (Sum.inl d)) fun x => match x with
    | .exc c p => if c ∈ oks then ret (Sum.inr (D.exc c p)) else stuck
    | _ => stuck) fun r => match r with
  | .inl d => ret (.lst [d])
  | .inr x => wordF x
theorem out_ret {oks : List Str} {w : D → M D} {d : D} : outM oks w (ret d) = ret (.lst [d]) := rfl
theorem out_rais {oks : List Str} {w : D → M D} {c : Str} {p : D} (h : c ∈ oks) : outM oks w (rais (.exc c p)) = w (.exc c p) := by
  unfold outM
  show bnd (catchM (rais (D.exc c p)) _) _ = _
  rw [catch_rais]
  simp only [if_pos h, bnd_ret]
/-- the law's own text of it: found, error = None, None; try: found = call() except ..: error = e; return .. -/
def sOut (oks : List Str) (φ : Fn) (d0 : D) (m : M D) : DStm :=
  sSeq (sUnp (tgT 2 (tgsCons (tgN 1) (tgsCons (tgN 2) (tgsNil)))) (dTup (aCons (dK .non) (aCons (dK .non) (aNil))))) (sSeq (sTry oks 2 4 (sAsg 1 (dAct 0 d0 m)))
    (sRet (dIf (dTst (dBin (gIsN false) (dVar 2) (dK .non))) (dLst (aCons (dVar 1) (aNil))) (dCall 1 φ (aCons (dVar 2) (aNil))))))
theorem out_ok (oks : List Str) (w : Fn) (d0 : D) (m : M D) : body (sOut oks w d0 m) (stE 4 [d0]) = outM oks (fun d => w [d]) m := by
  have z : ∀ d : D, [d].length ≤ sizeLine := fun d => by rw [sizeLine_eq]; simp
  have z2 : ([.non, .non] : List D).length ≤ sizeLine := by rw [sizeLine_eq]; simp
  let Kb : Fl → M D := fun f => bnd (match f with
    | .nx e => sRet (dIf (dTst (dBin (gIsN false) (dVar 2) (dK .non))) (dLst (aCons (dVar 1) (aNil))) (dCall 1 w (aCons (dVar 2) (aNil)))) e
    | .rt d => ret (.rt d)) fun f => match f with
    | .nx _ => ret .non
    | .rt d => ret d
  have h1 : ∀ d, Kb (.nx [.val d0, .val d, .val .non, .emp]) = ret (.lst [d]) := fun d => by
    show bnd (sRet _ _) _ = _
    simp only [x_ret, x_ife, x_tst, x_bin, x_var, x_k, List.getElem?_cons_succ, List.getElem?_cons_zero, bnd_ret, gIsN, Bool.not_false, if_true, x_lst, x_acons, x_anil, need_of (z d)]
  have h2 : ∀ x, (∃ c p, x = D.exc c p) → Kb (.nx [.emp, .emp, .val x, .emp]) = w [x] := fun x hx => by
    obtain ⟨c, p, rfl⟩ := hx
    show bnd (sRet _ _) _ = _
    simp only [x_ret, x_ife, x_tst, x_bin, x_var, x_k, List.getElem?_cons_succ, List.getElem?_cons_zero, bnd_ret, gIsN, Bool.false_eq_true, if_false, x_call, x_acons, x_anil, bnd_bnd]
    rw [need_of (show [D.exc c p].length = 1 from rfl)]
    exact M.ext fun _ _ _ => Iff.rfl
  have e0 : ∀ x ∈ ([.val d0, .val .non, .val .non, .emp] : En), ¬ IsOwn x := fun x hx => by
    simp only [List.mem_cons, List.not_mem_nil, or_false] at hx
    rcases hx with rfl | rfl | rfl | rfl <;> exact fun q => q
  have e1 : body (sOut oks w d0 m) (stE 4 [d0]) = bnd (catchM (bnd m fun d => ret (.nx [.val d0, .val d, .val .non, .emp])) (hCatch oks 2 4)) Kb := by
    have u1 : (sUnp (tgT 2 (tgsCons (tgN 1) (tgsCons (tgN 2) (tgsNil)))) (dTup (aCons (dK .non) (aCons (dK .non) (aNil))))) (stE 4 [d0]) = ret (.nx [.val d0, .val .non, .val .non, .emp]) := by
      simp only [x_unp, x_tup, x_acons, x_anil, x_k, bnd_ret, need_of z2]
      rfl
    have u2 : sTry oks 2 4 (sAsg 1 (dAct 0 d0 m)) [.val d0, .val .non, .val .non, .emp] = catchM (bnd m fun d => ret (.nx [.val d0, .val d, .val .non, .emp])) (hCatch oks 2 4) := by
      unfold sTry
      rw [need_of e0, x_asg]
      show catchM (bnd (need (d0 = d0) m) _) _ = _
      rw [need_of rfl]
      rfl
    unfold sOut
    rw [x_body, x_seq, u1, bnd_ret]
    show bnd (sSeq _ _ _) _ = _
    rw [x_seq, u2, bnd_bnd]
    all_goals congr 1
  rw [e1]
  unfold outM
  refine M.ext fun n P E => ?_
  show m.run n (fun d n1 => (Kb (.nx [.val d0, .val d, .val .non, .emp])).run n1 P E) (fun x k => (hCatch oks 2 4 x).run k (fun fl k1 => (Kb fl).run k1 P E) E) ↔
    m.run n (fun d n1 => (ret (.lst [d]) : M D).run n1 P E) _
  refine Iff.of_eq ?_
  congr 1
  · funext d n1; rw [h1]
  · funext x k
    refine propext ?_
    cases x with
    | exc c p =>
      show (if c ∈ oks then ret (.nx ((List.replicate 4 .emp).set 2 (.val (.exc c p)))) else stuck : M Fl).run k (fun fl k1 => (Kb fl).run k1 P E) E ↔ (if c ∈ oks then ret (Sum.inr (D.exc c p)) else stuck : M (D ⊕ D)).run k _ E
      by_cases hc : c ∈ oks
      · rw [if_pos hc, if_pos hc]
        show (Kb (.nx [.emp, .emp, .val (.exc c p), .emp])).run k P E ↔ _
        rw [h2 _ ⟨c, p, rfl⟩]
        exact Iff.rfl
      · rw [if_neg hc, if_neg hc]; exact Iff.rfl
    | _ => exact Iff.rfl
end DL

end
section
set_option Elab.async false
set_option linter.all false
set_option maxRecDepth 100000
set_option maxHeartbeats 4000000
/-! DFact: the errors' classes, by what the top has written. -/
namespace DL
open PySem PySem.Spec PyProof.Rows L2
variable [Tb]
/-- a class's first def -/
def initOf : Stmt → Stmt
  | .ClassDef _ _ _ b .. => b.headD (.Pass ⟨0, 0, 0, 0⟩)
  | s => s
section
variable {P : Program} {w : World} {K : PySem.W.Frag} {h : Heap} {mg : Str → Option Value} {base : Heap}
theorem err_of {C f1 cc cda : Addr} {x q v txt : Str} {vs : Array Value} {file : Str} {tf : Tok} {oc ccl cl kV doc pm ct : Value} {od an cdd cld : Option Addr} {osl ccs csl : Array (Option Value)} {cd : ClassData} {st : Stmt}
    {p0 p1 p2 p3 p4 p5 p6 p7 p8 pc : Pos} {j : Nat} {nm qq : Str} {N : Addr} {bs bm : List Value} {sn : List Str} {sub : List Value} {ab : Bool} {col : Option Bool} {dd : Option Addr} {m0 m1 m2 m3 m5 : Option Value} {ar : Arg}
    (X : K.In h) (G : h.Ns mainGlobals mg)
    (hev : ∀ env : PySem.Env, eval (.Call (.Attribute (.Call (.Name "super" p0) [] [] p1) "__init__" p2) [.Constant (.str txt) j pc] [] p3) env = (do
      let ov ← attributeBase (.Call (.Name "super" p0) [] [] p1) "__init__" env (eval (.Call (.Name "super" p0) [] [] p1) env)
      standAt p2.atName
      let (f, first) ← holding [ov] (getMethod ov "__init__" (do return (← importBound (.Call (.Name "super" p0) [] [] p1) env).getD true))
      callWith p3 f first (backTo p3 (starEach [.Constant (.str txt) j pc] env)) []))
    (hb : C8.fnBody st = [.Expr (.Call (.Attribute (.Call (.Name "super" p0) [] [] p1) "__init__" p2) [.Constant (.str txt) j pc] [] p3) p4, .Assign [.Attribute (.Name "self" p5) (fieldOf x) p6] (.Name v p7) p8])
    (hvd : (v == ("__debug__" : Str)) = false) (hvc : (v == ("__classdict__" : Str)) = false) (har : ((C8.fnArgs st).posonlyargs ++ (C8.fnArgs st).args).head? = some ar) (harn : ar.arg = "self") (hks : (C8.fnScope st).names.lookup ("super" : Str) = some .globalImplicit)
    (S : NdefX.NScope ["self", v, "__class__"] ["self", v] ["__class__"] (C8.fnScope st)) (hbind : ∀ (kV doc pm : Value) (an : Option Addr) (cdv ct : Value) (cl : List (Str × Addr)) (us : List Value), us.length = 2 → bindArgs (PySem.W.fnX "__init__" q (C8.fnArgs st) (C8.fnBody st) (C8.fnScope st) cl .none kV doc pm an cdv ct) ⟨us, []⟩ = pure ((["self", v] : List Str).zip us))
    (htop : (P.main.scope.names.lookup ("super" : Str)).isSome = false) (hbm : PySem.HandSPX.refsVE bm = true)
    (aC : PySem.W.nsIn K mainGlobals x = some (some (.ref C)))
    (xL : K.lookup C = some (excClassObj nm qq C N bs bm true sn sub ab col dd m0 m1 m2 m3 m5 "ValueError.__new__"))
    (sa : PySem.W.findIn K (.ref C) "__setattr__" = some (some (.builtin "object.__setattr__"))) (eC : PySem.W.subIn K (.ref C) (.type "BaseException") = some true) (tC : PySem.W.typeIn K (.ref C) = some (.type "type")) (kC : PySem.W.keepIn K (.ref C) = true)
    (iC : PySem.W.findIn K (.ref C) "__init__" = some (some (.ref f1))) (tI : PySem.W.typeIn K (.ref f1) = some (.type "function"))
    (hl : K.lookup f1 = some ⟨oc, od, .func (PySem.W.fnX "__init__" q (C8.fnArgs st) (C8.fnBody st) (C8.fnScope st) [("__class__", cc)] .none kV doc pm an (.ref cda) ct), osl⟩) (hcd : PySem.W.codeIn K (.ref cda) q = true)
    (hk : K.lookup cda = some ⟨ccl, cdd, .fields vs, ccs⟩) (hvs : vs[2]? = some (.str file tf)) (hfile : ((P.main.file : Str) == file) = true) (hcell : K.lookup cc = some ⟨cl, cld, .cell (some (.ref C)), csl⟩) (hC : PySem.W.clsIn K C = some cd) (hmr : PySem.W.mroIn K C (.ref C) = some true)
    (hsu : PySem.W.nsIn K mainGlobals "super" = some none) (ht : PySem.W.nsIn K cStatics "thirdparty.any" = some none) (hsi : PySem.W.ks_superIn K C C "__init__" = some (some (.builtin "ValueError.__init__"))) (hB : PySem.W.subIn K (.ref C) (.type "ValueError") = some true)
    (hfl : PySem.W.findIn K (.ref C) (fieldOf x) = some none) : Err P w K mg base x := by
  have T : OexC K C := ⟨⟨nm, qq, N, bs, bm, sn, sub, ab, col, dd, m0, m1, m2, m3, m5, xL, hbm⟩, sa, eC, tC, kC⟩
  exact ⟨C, f1, _, v, PySem.W.mg_of X G aC, T, iC, tI, Binds.all fun us hu => hbind _ _ _ _ _ _ _ us hu,
    init_ok hev hb hvd hvc har harn hks S T hl hcd hk hvs hfile hcell hC hmr hsu ht hsi hB htop hfl⟩
theorem erro_of {C : Addr} {x : Str} (X : K.In h) (G : h.Ns mainGlobals mg) (aC : PySem.W.nsIn K mainGlobals x = some (some (.ref C)))
    (g1 : PySem.W.findIn K (.ref C) "__getattribute__" = some (some (.builtin "BaseException.__getattribute__"))) (g2 : PySem.W.findIn K (.ref C) "__getattr__" = some none) (g3 : PySem.W.subIn K (.ref C) (.type "BaseException") = some true) (g4 : PySem.W.hasDictIn K C = true)
    (g5 : PySem.W.findIn K (.ref C) "__class__" = some (some (.builtin "object.__class__"))) (g6 : PySem.W.specialIn K (.builtin "object.__class__") "__get__" = some (some (.builtin "getset_descriptor.__get__"))) (g7 : PySem.W.takesIn K (.builtin "object.__class__") = some true) (g8 : PySem.W.mroIn K C (.type "object") = some true)
    (hfl : PySem.W.findIn K (.ref C) (fieldOf x) = some none) : ErrO K mg x :=
  ⟨C, PySem.W.mg_of X G aC, ⟨g1, g2, g3, g4, g5, g6, g7, g8⟩, ⟨g1, g2, g3, g4⟩, hfl⟩
theorem kit_ref {C D : Addr} {b : Bool} (hd : PySem.W.hasDictIn K D = true) (ht : PySem.W.typeIn K (.ref D) = some (.type "type")) (h4 : PySem.W.subIn K (.ref C) (.ref D) = some b) : PySem.W.kitCls K (.ref C) (.ref D) = some b := by
  obtain ⟨cd, hc, _⟩ := PySem.W.any_some hd
  have e2 : ((PySem.W.clsIn K D).isSome && PySem.W.typeIn K (.ref D) == some (.type "type")) = true := by rw [hc, ht] <;> rfl
  show (if ((PySem.W.clsIn K D).isSome && PySem.W.typeIn K (.ref D) == some (.type "type")) = true then PySem.W.subIn K (.ref C) (.ref D) else none) = some b
  rw [if_pos e2]; exact h4
theorem errt_ne {C D : Addr} {x y : Str} (X : K.In h) (G : h.Ns mainGlobals mg) (aC : PySem.W.nsIn K mainGlobals x = some (some (.ref C))) (aD : PySem.W.nsIn K mainGlobals y = some (some (.ref D))) (hxy : x ≠ y)
    (hd : PySem.W.hasDictIn K D = true) (ht : PySem.W.typeIn K (.ref D) = some (.type "type")) (h4 : PySem.W.subIn K (.ref C) (.ref D) = some false) (ne : (Value.ref C == Value.ref D) = false) : ErrT K mg x y := by
  refine ⟨C, D, PySem.W.mg_of X G aC, PySem.W.mg_of X G aD, ?_⟩
  unfold PySem.W.kitOne
  rw [if_neg (by rw [ne]; simp), decide_eq_false hxy]
  exact kit_ref hd ht h4
theorem errt_same {C : Addr} {x : Str} (X : K.In h) (G : h.Ns mainGlobals mg) (aC : PySem.W.nsIn K mainGlobals x = some (some (.ref C))) : ErrT K mg x x := by
  refine ⟨C, C, PySem.W.mg_of X G aC, PySem.W.mg_of X G aC, ?_⟩
  unfold PySem.W.kitOne
  rw [if_pos (by simp), decide_eq_true rfl]
theorem exc3_of {F N T : Addr} {x1 x2 x3 : Str} {oks : List Str} (X : K.In h) (G : h.Ns mainGlobals mg) (aF : PySem.W.nsIn K mainGlobals x1 = some (some (.ref F))) (aN : PySem.W.nsIn K mainGlobals x2 = some (some (.ref N))) (aT : PySem.W.nsIn K mainGlobals x3 = some (some (.ref T)))
    (bF : PySem.W.subIn K (.ref F) (.type "BaseException") = some true) (bN : PySem.W.subIn K (.ref N) (.type "BaseException") = some true) (bT : PySem.W.subIn K (.ref T) (.type "BaseException") = some true)
    (dF : PySem.W.hasDictIn K F = true) (dN : PySem.W.hasDictIn K N = true) (dT : PySem.W.hasDictIn K T = true)
    (tF : PySem.W.typeIn K (.ref F) = some (.type "type")) (tN : PySem.W.typeIn K (.ref N) = some (.type "type")) (tT : PySem.W.typeIn K (.ref T) = some (.type "type"))
    (hs : ∀ c ∈ oks, ∃ C : Addr, mg c = some (.ref C) ∧ PySem.W.subIn K (.ref C) (.ref F) = some true ∧ PySem.W.subIn K (.ref C) (.ref N) = some false ∧ PySem.W.subIn K (.ref C) (.ref T) = some false) : Exc3 K mg oks x1 x2 x3 := by
  refine ⟨_, _, _, PySem.W.mg_of X G aF, PySem.W.mg_of X G aN, PySem.W.mg_of X G aT, fun c hc C hC => ?_⟩
  obtain ⟨C', m1, s1, s2, s3⟩ := hs c hc
  rw [hC] at m1; cases m1
  have e1 := PySem.W.exm_ref bF dF tF s1
  have e2 := PySem.W.exm_ref bN dN tN s2
  have e3 := PySem.W.exm_ref bT dT tT s3
  simp only [PySem.W.exmAny, e1, e2, e3]
  rfl
theorem tabin_of {f c Q : Addr} {x : Str} {oc cc : Value} {od cd : Option Addr} {fd : FuncData} {osl cs : Array (Option Value)} {vs : Array Value} (a : PySem.W.nsIn K mainGlobals x = some (some (.ref f))) (l : K.lookup f = some ⟨oc, od, .func fd, osl⟩) (hc : fd.code = .ref c)
    (k : K.lookup c = some ⟨cc, cd, .fields vs, cs⟩) (v : vs[11]? = some (.ref Q)) : PySem.W.tabIn K x = some (c, Q) := by
  unfold PySem.W.tabIn
  simp only [a, l, hc, k, v]
end
end DL

end
section
set_option Elab.async false
set_option linter.all false
set_option maxRecDepth 100000
set_option maxHeartbeats 4000000
/-! DDct: {} as a value, its repr. -/
namespace DL
open PySem PySem.Spec PyProof.Rows L2
variable [Tb]
section
variable {X : Cx} {W : WX} {pos : Pos}
def dDct0 : DExp := fun _ => ret (.dct [])
@[simp] theorem x_dct0 (env : En) : dDct0 env = ret (.dct []) := rfl
theorem not_rng_dk0 : ¬ IsRng (.dK []) := fun h => by
  rcases h with ⟨_, _, sd, _, h⟩ | ⟨_, h⟩
  · unfold rngO at h; cases sd <;> cases h
  · cases h
theorem de_dct0 : DE X W (.Dict [] [] pos) dDct0 := by
  refine ⟨PE.imp pe_dnewK fun σ H Q ⟨B, n, F, env, S, h⟩ => ?_⟩
  intro q hq
  exact h (.ref q) _ _ (Step.new S.sub hq) (.dct upd_same not_rng_dk0 .nil)
def gReprE : List D → M D
  | [.dct []] => ret (.str "{}")
  | ds => gRepr ds
def rReprD : List V → Hp → VK → Prop := fun vs H Q => ∃ a, vs = [.ref a] ∧ H a = some (.dK []) ∧ Q (.str "{}") H
theorem cr_reprD (hg : X.A.guards = some []) (hu : X.A.units + 65 < cLine) : CallR X (.builtin "repr") rReprD := by
  intro pins s σ H vs us Q I r h
  obtain ⟨a, rfl, ha, q⟩ := h
  cases r with
  | cons rv rn =>
    cases rn
    cases rv
    obtain ⟨_, hs, vs, hk, hd⟩ := (show ObjOk X.prog X.w H s.heap a (.dK []) from I.hok a _ ha)
    cases hk
    obtain ⟨o, es, ep, ho, hx, hdt, _, hp, _⟩ := hd
    have he : es.toList = [] := by
      generalize es.toList = l at hp
      cases hp
      rfl
    have rd : Reads s.heap (.ref a) (.dict []) (a :: [] ++ []) := .dict ho hx.1 hdt (by rw [he]; exact .nil) (by rw [he]; exact .nil)
    have hsm : (PyData.dict []).hasDict = true → sysModules ∉ (a :: [] ++ [] : List Addr) := fun _ hm => by
      simp at hm
      rw [← hm] at hs
      simp at hs
    have hsz : (PyData.dict []).shown.length ≤ sizeLine := Nat.le_trans (show (PyData.dict []).shown.length ≤ 1000 by decide +kernel) (szl (Nat.le_refl 1000))
    have e2 : (PyData.dict []).shown = ("{}" : Str) := by decide +kernel
    exact repr_of_reads' rd (by decide +kernel) hsm hg (by have : (PyData.dict []).depth ≤ 60 := by decide +kernel
                                                           omega) (fun _ _ e => e) (fun h' u tk hk => ⟨.str _, H, I.kept hk, ⟨u, rfl⟩, by rw [e2]; exact q⟩) hsz
theorem cr_reprE (hg : X.A.guards = some []) (hu : X.A.units + 65 < cLine) : CallR X (.builtin "repr") (fun vs H Q => rReprD vs H Q ∨ rRepr X.K vs H Q) := (cr_reprD hg hu).or (cr_repr hg hu)
theorem gd_reprE : CallD X (fun vs H Q => rReprD vs H Q ∨ rRepr X.K vs H Q) gReprE := fun n F H xs ds Q E s r q => by
  unfold gReprE at q
  split at q
  · cases r with
    | cons rd rn =>
      cases rn
      cases rd with
      | dct ea _ rk =>
        cases rk
        exact .inl ⟨_, rfl, s _ _ ea, q _ F H (Step.refl s) (.str _)⟩
  · exact .inr (gd_repr n F H xs _ Q E s r q)
end
end DL

end
section
set_option Elab.async false
set_option linter.all false
set_option maxRecDepth 100000
set_option maxHeartbeats 4000000
/-! DHand: a lambda handed on by the def that got it. -/
namespace DL
open PySem PySem.Spec PyProof.Rows L2
variable [Tb]
open NdefX in
/-- all that is known of the lambda d0 of the meaning m, in the def Z that got it -/
def HandOk (Z : Cx) (k : Nat) (d0 : D) (m : M D) : Prop :=
  ∃ (F : NF) (f : Addr) (body : Expr) (psL fr NL : List Str) (us : List Value) (vs0 : List V) (ws : List (Option V)) (ds0 ds : List D) (fb : DExp),
    d0 = .thk f F.c F.qual ws ds ∧ m = fb (stE NL.length (ds0 ++ ds)) ∧ NScope NL psL fr F.scope ∧ (∀ n F, Reps Z.K Z.mg n F vs0 ds0) ∧
    (∀ (A : Around) (outer : List PySem.Env) (s : Shared) (H : Hp) (E : XK), Room k (A.deeper (envF F f s.heap.objs.size)) → A.guards = some [] → DE (ncx (L2.CX Z.prog Z.w) Z.prog Z.w Z.K Z.mg Z.base NL F f A outer s H E) (fun cls d _ H => E cls d H) body fb) ∧
    LamZ Z F f body psL fr us vs0 ws
section
open NdefX
variable {Z : Cx} {W : WX} {k i : Nat} {a : Str} {d0 : D} {m : M D}
theorem LamZ.tr {F : NF} {f : Addr} {body : Expr} {ps fr : List Str} {us : List Value} {vs : List V} {ws : List (Option V)} (L : LamZ Z F f body ps fr us vs ws) (pn : List (Addr × Obj)) (xe : Value → Shared → Prop) : LamZ (Z.tr pn xe) F f body ps fr us vs ws :=
  ⟨L.at_, L.hn, L.nf, L.cells, L.vals, L.len⟩

theorem HandOk.act (L : HandOk Z k d0 m) (hex : Z.ex = []) (kz : Kx Z W (k + 1)) {p1 p2 : Pos} (hN : Z.N[i]? = some a) (hv : Vis Z.env.scope a) (hd : (a == ("__debug__" : Str)) = false := by decide) (hcd : (a == ("__classdict__" : Str)) = false := by decide) :
    DE Z W (.Call (.Name a p1) [] [] p2) (dAct i d0 m) := by
  obtain ⟨F, f, body, psL, fr, NL, us, vs0, ws, ds0, ds, fb, rfl, rfl, S, hvs, hbody, LZ⟩ := L
  exact de_act hex LZ S kz hvs hbody hN hv hd hcd
theorem HandOk.tr (L : HandOk Z k d0 m) (pn : List (Addr × Obj)) (xe : Value → Shared → Prop) : HandOk (Z.tr pn xe) k d0 m := by
  obtain ⟨F, f, body, psL, fr, NL, us, vs0, ws, ds0, ds, fb, e1, e2, S, hvs, hbody, LZ⟩ := L
  exact ⟨F, f, body, psL, fr, NL, us, vs0, ws, ds0, ds, fb, e1, e2, S, hvs, hbody, LZ.tr pn xe⟩
/-- what the def called next knows of it -/
theorem LamZ.later {F : NF} {f : Addr} {body : Expr} {ps fr : List Str} {us : List Value} {vs : List V} {ws : List (Option V)} (L : LamZ Z F f body ps fr us vs ws) (hex : Z.ex = []) (hloc : Z.env.locals = Z.s_0.heap.objs.size) {pins : List (Addr × Obj)} {σ : L2.St} {H : Hp} {s : Shared} (I : Inv Z pins σ H s)
    {N : List Str} {x : Str} {sc : Scope} {g : Addr} {cd : Value} {E : XK} :
    LamZ (cxOf (L2.CX Z.prog Z.w) Z.prog Z.w Z.K Z.mg Z.base N x sc g cd Z.A Z.stack s H E) F f body ps fr us vs ws := by
  obtain ⟨dV, doc, pm, ctv, hf, ht, hb⟩ := L.at_
  have nstk : ∀ b o, Z.s_0.heap.get? b = some o → b ∉ Z.fs → b ∉ frs Z.stack := fun b o e hb z => by
    rcases List.mem_cons.mp (I.stkSub b z) with e2 | e2
    · have := Heap.lt_size e
      rw [e2, hloc] at this
      exact Nat.lt_irrefl _ this
    · exact hb e2
  refine ⟨⟨dV, doc, pm, ctv, I.base.keep f _ hf L.hn L.nf (by rw [hex]; simp), fun t e => ?_, fun s3 hs3 => hb s3 fun t o e ho => ?_⟩, ?_, nstk f _ hf L.nf, cells_later L.cells hex I, L.vals, L.len⟩
  · obtain ⟨h1, h2, o, h3⟩ := ht t e
    exact ⟨I.base.free t o h3 h1 (by rw [hex]; simp), nstk t o h3 h2, o, I.base.keep t o h3 h1 h2 (by rw [hex]; simp)⟩
  · obtain ⟨h1, h2, _⟩ := ht t e
    exact hs3 t o e (I.base.keep t o ho h1 h2 (by rw [hex]; simp))
  · exact I.base.free f _ hf L.hn (by rw [hex]; simp)
/-- the def's body, its first parameter being a lambda -/
def GBody2 (X : Cx) (k kl : Nat) (x a : Str) (Ng : List Str) (st : Stmt) (sg : D → M D → DStm) : Prop :=
  ∀ (d0 : D) (m : M D) (f : Addr) (cd : Value) (R : Around) (callers : List PySem.Env) (t : Shared) (H : Hp) (E : XK), Kx (cxOf (L2.CX X.prog X.w) X.prog X.w X.K X.mg X.base Ng x (defScope st) f cd R callers t H E) (fun cls d _ H => E cls d H) k →
    HandOk (cxOf (L2.CX X.prog X.w) X.prog X.w X.K X.mg X.base Ng x (defScope st) f cd R callers t H E) kl d0 m →
    DSs (cxOf (L2.CX X.prog X.w) X.prog X.w X.K X.mg X.base Ng x (defScope st) f cd R callers t H E) (fun cls d _ H => E cls d H) (defBody st) (sg d0 m)
theorem GBody.two {X : Cx} {x a : Str} {Ng : List Str} {st : Stmt} {sg : D → M D → DStm} (h : GBody X (k + 1) x a Ng st sg) (hNg : Ng[0]? = some a) (hva : Vis (defScope st) a) (hd : (a == ("__debug__" : Str)) = false := by decide) (hcd : (a == ("__classdict__" : Str)) = false := by decide) : GBody2 X (k + 1) k x a Ng st sg :=
  fun d0 m f cd R callers t H E kx L => h d0 m f cd R callers t H E kx fun W' pn xe p1 p2 kz' => (L.tr pn xe).act rfl kz' hNg hva hd hcd
/-- x(a, ..), a being the lambda that this def got -/
def dHand (i : Nat) (d0 : D) (m1 : Nat) (φ : List D → M D) (fa : DArg) : DExp := fun env => match env[i]? with
  | some (.val d) => need (d = d0) (bnd (fa env) fun rest => need (rest.length = m1) (φ rest))
  | _ => stuck
end
section
open NdefX
variable {X : Cx} {W : WX} {k kb j i : Nat} {x a b : Str} {psr Ng : List Str} {st : Stmt} {φ : M D → List D → M D} {sg : D → M D → DStm} {es : List Expr} {fa : DArg} {p pb pos : Pos} {d0 : D} {m : M D}
theorem de_hand (kx : Kx X W j) (hkj : kb + 1 ≤ j) (L : HandOk X k d0 m) (hex : X.ex = []) (hloc : X.env.locals = X.s_0.heap.objs.size)
    (hN : X.N[i]? = some b) (hv : Vis X.env.scope b)
    (Dg : Df X.K X.mg x (a :: psr) st) (Sg : FnScope Ng (a :: psr) (defScope st)) (hNg : Ng[0]? = some a) (hG : GBody2 X kb k x a Ng st sg)
    (hφ : ∀ (a1 c1 : Addr) (q1 : Str) (ws : List (Option V)) (ds : List D) (m : M D) (rest : List D), rest.length = psr.length → ∀ n P E, (φ m rest).run n P E → (DL.body (sg (.thk a1 c1 q1 ws ds) m) (stE Ng.length (.thk a1 c1 q1 ws ds :: rest))).run n P E)
    (ha : DA X W es fa) (hg : Gl X x := by rfl) (hdb : (x == ("__debug__" : Str)) = false := by decide) (hd : (b == ("__debug__" : Str)) = false := by decide) (hcd : (b == ("__classdict__" : Str)) = false := by decide)
    (he : starEach (.Name b pb :: es) X.env = (false, eval (.Name b pb) X.env) :: starEach es X.env := by rfl) (hpl : (backTo pos (starEach es X.env)).any (·.1) = false := by rfl) :
    DE X W (.Call (.Name x p) (.Name b pb :: es) [] pos) (dHand i d0 psr.length (φ m) fa) := by
  refine ⟨⟨fun pins s σ H Q I h => ?_⟩⟩
  obtain ⟨B, n, F, env, S, h⟩ := h
  unfold dHand at h
  split at h
  case h_2 => exact h.elim
  rename_i d hi
  obtain ⟨rfl, h⟩ := h
  obtain ⟨u, hu, hr⟩ := S.slot i _ hi
  obtain ⟨FL, f, body, psL, fr, NL, us0, vs0, ws, ds0, ds, fb, rfl, rfl, SL0, hvs, hbody, LZ⟩ := L
  cases hr with
  | @thk _ _ _ vs1 _ hcode hrep =>
  obtain ⟨g, fd, hm, Fg, hBg⟩ := Dg.ex
  have hk := Fg.kp
  obtain ⟨oc, od, kV, doc0, pm0, an, cdv, ct, osl, rfl, hl, hc⟩ := Fg.ex
  refine wpAny_Call_Name_kw (ld_glob I hg hm ?_ hdb)
  refine PySem.W.callWith_K (h₀ := X.base) I.ok.mod.kin hk ?_ he hpl
  show wpAny _ _ (spliced ((false, eval (.Name b pb) X.env) :: backTo pos (starEach es X.env))) _ _ s
  refine Calls.spliced_cons (thn ((pe_var (pos := pb) (i := i) hN hv hd hcd).run pins s σ H (fun v H1 => v = .ref f ∧ H1 = H) I ⟨.ref f, hu, rfl, rfl⟩) fun u1 s1 ⟨v, H1, I1, r1, q1⟩ => ?_)
  obtain ⟨ev, eH⟩ := q1
  subst ev
  rw [eH] at I1
  obtain rfl : u1 = Value.ref f := r1
  let m : M D := fb (stE NL.length (ds0 ++ ds))
  let d0 : D := .thk f FL.c FL.qual (vs1.map some) ds
  refine thn (ha.pa.run pos _ s1 σ H (fun vs H2 => ∃ (n2 : Nat) (F2 : Hp) (rest : List D), Step n F H n2 F2 H2 ∧ (∀ b o, F2 b = some o → H2 b = some o) ∧ TabsK F2 ∧ Rep X.K X.mg n2 F2 (.ref f) d0 ∧ Reps X.K X.mg n2 F2 vs rest ∧ rest.length = psr.length ∧
      (φ m rest).run n2 (okE X n F H Q) (exE X W n F H σ)) I1
    (tA.go S ((fa env).mono (fun _ _ z => z) (fun _ _ z => z) h) fun rest n2 vs F2 H2 p t r2 S2 => ⟨n2, F2, rest, t, S2.sub, S2.tabs, .thk (t.gr.obj _ _ hcode (by unfold LamX.CodeO; exact not_rng_ext)) (hrep.grow t.gr), r2, p.1, p.2⟩)) fun us s2 ⟨vs, H2, I2, rv, n2, F2, rest, st2, sub2, tb2, rd0, rr, hlr, hφr⟩ => ?_
  refine ⟨I2.kIn, ?_⟩
  have rm := kx.rm.room.mono hkj
  have hlv : (V.ref f :: vs).length = (a :: psr).length := by
    have := rr.length
    simp; omega
  have bd := hBg s2 (.ref f :: us) I2.kIn (by rw [List.append_nil, List.length_cons, ← rv.length]; simpa using hlv)
  rw [List.append_nil] at bd
  have rc : codeAny (model X.prog X.w) X.A (.call (.ref g) ⟨.ref f :: us, []⟩) (CR (L2.CX X.prog X.w) X.stack X.prog X.w H2 s2 Q (fun cls d H' => W cls d σ H')) s2 := by
    refine LamX.run_ofS (N := Ng) (ps := a :: psr) (us := .ref f :: us) (vs := .ref f :: vs) (k := kb) hl hc Sg rm I2.env0 bd (.cons rfl rv) hlv fun hr' => ?_
    have kz : Kx (cxOf (L2.CX X.prog X.w) X.prog X.w X.K X.mg X.base Ng x (defScope st) g cdv X.A X.stack s2 H2 (fun cls d H' => W cls d σ H')) (fun cls d _ H => W cls d σ H) kb := Kx.of hr' kx.rm.gd Sg.nd
    have LH : HandOk (cxOf (L2.CX X.prog X.w) X.prog X.w X.K X.mg X.base Ng x (defScope st) g cdv X.A X.stack s2 H2 (fun cls d H' => W cls d σ H')) k d0 m :=
      ⟨FL, f, body, psL, fr, NL, us0, vs0, _, ds0, ds, fb, rfl, rfl, SL0, hvs, hbody, LZ.later hex hloc I2⟩
    refine ⟨_, (hG d0 m g cdv X.A X.stack s2 H2 _ kz LH).pss, ?_⟩
    refine ⟨⟨n2, F2, H2⟩, n2, F2, stE Ng.length (d0 :: rest), SL.start sub2 (.cons rd0 rr) tb2, ?_⟩
    have run := hφ f FL.c FL.qual (vs1.map some) ds _ rest hlr _ _ _ hφr
    refine (sg d0 _ _).mono (fun fl m hf => ?_) (fun x m hx => ?_) run
    · cases fl with
      | nx env' => exact fun σ' F3 H3 _ z => hf .non F3 H3 (st2.trans z.st) .non
      | rt d => exact fun v F3 H3 z rv => hf v F3 H3 (st2.trans z) rv
    · exact fun cls dx σ' F3 H3 z rx => hx cls dx F3 H3 (st2.trans z) rx
  refine wpAny_call (codeAny_mono rc fun r s' hq => ?_)
  match r, hq with
  | .error u, hq => exact kx.tk u s' (XE.of_call I2 (fun _ _ _ z => z) hq)
  | .ok (.ret u), hq => exact I2.after hq
  | .ok .next, hq => exact False.elim hq
  | .ok .brk, hq => exact False.elim hq
  | .ok .cont, hq => exact False.elim hq
end
section
open NdefX
variable {X : Cx} {W : WX} {params : Arguments} {bodyL : Expr} {scope : Scope} {lpos : Pos} {psL fr NL : List Str} {vs0 : List V} {ds0 : List D} {js : List Nat} {fb : DExp} {k kb j : Nat} {x a : Str} {psr Ng : List Str} {st : Stmt} {φ : M D → List D → M D} {sg : D → M D → DStm} {es : List Expr} {fa : DArg} {p pos : Pos}
theorem de_lam2 (kx : Kx X W j) (hkj : kb + 1 ≤ j) (mk : LamMk X params bodyL scope lpos psL vs0) (SL0 : NScope NL psL fr scope) (hl0 : vs0.length = psL.length) (hvs : ∀ n F, Reps X.K X.mg n F vs0 ds0)
    (hfree : ∀ y ∈ scope.names, y.2 = .free → X.env.scope.names.lookup y.1 = some .cell ∨ X.env.scope.names.lookup y.1 = some .free) (hfr : ∀ y ∈ fr, (y, NameKind.free) ∈ scope.names) (hjs : js.map (fun j => X.N[j]?) = fr.map some)
    (hbody : ∀ (c' f : Addr) (A : Around) (outer : List PySem.Env) (s : Shared) (H : Hp) (E : XK), Kx (ncx (L2.CX X.prog X.w) X.prog X.w X.K X.mg X.base NL (lamF X params scope c') f A outer s H E) (fun cls d _ H => E cls d H) k →
      DE (ncx (L2.CX X.prog X.w) X.prog X.w X.K X.mg X.base NL (lamF X params scope c') f A outer s H E) (fun cls d _ H => E cls d H) bodyL fb)
    (Dg : Df X.K X.mg x (a :: psr) st) (Sg : FnScope Ng (a :: psr) (defScope st)) (hNg : Ng[0]? = some a) (hG : GBody2 X kb k x a Ng st sg)
    (hφ : ∀ (a1 c1 : Addr) (q1 : Str) (ws : List (Option V)) (ds : List D) (m : M D) (rest : List D), rest.length = psr.length → ∀ n P E, (φ m rest).run n P E → (DL.body (sg (.thk a1 c1 q1 ws ds) m) (stE Ng.length (.thk a1 c1 q1 ws ds :: rest))).run n P E)
    (ha : DA X W es fa) (hg : Gl X x := by rfl) (hdb : (x == ("__debug__" : Str)) = false := by decide)
    (he : starEach (.Lambda params bodyL scope lpos :: es) X.env = (false, eval (.Lambda params bodyL scope lpos) X.env) :: starEach es X.env := by rfl) (hpl : (backTo pos (starEach es X.env)).any (·.1) = false := by rfl) :
    DE X W (.Call (.Name x p) (.Lambda params bodyL scope lpos :: es) [] pos) (dLam js NL.length ds0 fb psr.length φ fa) := by
  refine ⟨⟨fun pins s σ H Q I h => ?_⟩⟩
  obtain ⟨B, n, F, env, S, h⟩ := h
  unfold dLam at h
  split at h
  case h_2 => exact h.elim
  rename_i ds hcap
  obtain ⟨g, fd, hm, Fg, hBg⟩ := Dg.ex
  have hk := Fg.kp
  obtain ⟨oc, od, kV, doc0, pm0, an, cdv, ct, osl, rfl, hl, hc⟩ := Fg.ex
  refine wpAny_Call_Name_kw (ld_glob I hg hm ?_ hdb)
  refine PySem.W.callWith_K (h₀ := X.base) I.ok.mod.kin hk ?_ he hpl
  show wpAny _ _ (spliced ((false, eval (.Lambda params bodyL scope lpos) X.env) :: backTo pos (starEach es X.env))) _ _ s
  refine Calls.spliced_cons (mk.run pins σ H F s n _ _ I S.sub S.tabs fun f c' F1 H1 s1 us0 dV doc pm ctv I1 st1 hco hf fr1 rv0 ht hb => ?_)
  -- what stays known while the other arguments are told
  have hpt : ∃ pt : List (Addr × Obj), (∀ q ∈ pt, s1.heap.get? q.1 = some q.2 ∧ Fresh X H1 q.1 ∧ ∀ v, q.2.data ≠ .cell v) ∧ ∀ t, dV = .ref t → ∃ o, (t, o) ∈ pt := by
    cases dV with
    | ref t =>
      obtain ⟨h1, vt, h2⟩ := ht t rfl
      exact ⟨[(t, PySem.W.kdv_tup vt)], fun q hq => by
        rw [List.mem_singleton] at hq
        subst hq
        exact ⟨h2, h1, fun v z => by cases z⟩, fun t' e => by cases e; exact ⟨_, List.mem_singleton.mpr rfl⟩⟩
    | _ => exact ⟨[], fun q hq => absurd hq (by simp), fun t e => by cases e⟩
  obtain ⟨pt, hpt, hdt⟩ := hpt
  let fo : Obj := PySem.W.kdv_obj "<lambda>" (X.env.qual ++ "<lambda>") params (.expr bodyL) scope (cloFrom X.env.cells scope.names []) dV doc pm c' ctv
  have I1p : Inv X ((f, fo) :: (pt ++ pins)) σ H1 s1 := I1.pins_of fun q hq => by
    rcases List.mem_cons.mp hq with rfl | hq
    · exact ⟨hf, fr1.1, fr1.2.1, fr1.2.2.1, fun v z => by cases z⟩
    · rcases List.mem_append.mp hq with hq | hq
      · obtain ⟨z1, z2, z3⟩ := hpt q hq
        exact ⟨z1, z2.1, z2.2.1, z2.2.2.1, z3⟩
      · exact I1.pin q (List.mem_append_right _ hq)
  have S1 := S.step st1
  obtain ⟨vc, hvc, rvc⟩ := cap_vals S1 hcap
  refine thn (ha.pa.run pos _ s1 σ H1 (fun vs H2 => ∃ (n2 : Nat) (F2 : Hp) (rest : List D), Step n F H n2 F2 H2 ∧ (∀ b o, F2 b = some o → H2 b = some o) ∧ TabsK F2 ∧ F2 c' = some (LamX.CodeO c' (X.env.qual ++ "<lambda>")) ∧ Reps X.K X.mg n2 F2 vc ds ∧ Reps X.K X.mg n2 F2 vs rest ∧ rest.length = psr.length ∧
      (φ (fb (stE NL.length (ds0 ++ ds))) rest).run n2 (okE X n F H Q) (exE X W n F H σ)) I1p
    (tA.go S1 ((fa env).mono (fun _ _ z => z) (fun _ _ z => exE.step st1 z) h) fun rest n2 vs F2 H2 p t r2 S2 => ⟨n2, F2, rest, st1.trans t, S2.sub, S2.tabs, t.gr.obj _ _ hco (by unfold LamX.CodeO; exact not_rng_ext), rvc.grow t.gr, r2, p.1, p.2⟩)) fun us s2 ⟨vs, H2, I2, rv, n2, F2, rest, st2, sub2, tb2, hco2, rvc2, rr, hlr, hφr⟩ => ?_
  have Id : Inv X pins σ H2 s2 := I2.pins_of fun q hq => I2.pin q (List.mem_append_right _ (List.mem_cons_of_mem _ (List.mem_append_right _ hq)))
  refine ⟨I2.kIn, ?_⟩
  have pf := I2.pin (f, fo) (List.mem_append_right _ List.mem_cons_self)
  have rm := kx.rm.room.mono hkj
  let d0 : D := .thk f c' (X.env.qual ++ "<lambda>") (vc.map some) ds
  have rd0 : Rep X.K X.mg n2 F2 (.ref f) d0 := .thk hco2 rvc2
  have hlv : (V.ref f :: vs).length = (a :: psr).length := by
    have := rr.length
    simp; omega
  have bd := hBg s2 (.ref f :: us) I2.kIn (by rw [List.append_nil, List.length_cons, ← rv.length]; simpa using hlv)
  rw [List.append_nil] at bd
  have cp := Caps.made (X := X) (fr := fr) (js := js) I2.ok hfree hfr hjs
  have C2 := cells_of I2 cp
  rw [hvc] at C2
  have rc : codeAny (model X.prog X.w) X.A (.call (.ref g) ⟨.ref f :: us, []⟩) (CR (L2.CX X.prog X.w) X.stack X.prog X.w H2 s2 Q (fun cls d H' => W cls d σ H')) s2 := by
    refine LamX.run_ofS (N := Ng) (ps := a :: psr) (us := .ref f :: us) (vs := .ref f :: vs) (k := kb) hl hc Sg rm I2.env0 bd (.cons rfl rv) hlv fun hr' => ?_
    let Z := cxOf (L2.CX X.prog X.w) X.prog X.w X.K X.mg X.base Ng x (defScope st) g cdv X.A X.stack s2 H2 (fun cls d H' => W cls d σ H')
    have kz : Kx Z (fun cls d _ H => W cls d σ H) kb := Kx.of hr' kx.rm.gd Sg.nd
    have LZ : LamZ Z (lamF X params scope c') f bodyL psL fr us0 vs0 (vc.map some) :=
      ⟨⟨dV, doc, pm, ctv, pf.1, fun t e => by
          obtain ⟨o, ho⟩ := hdt t e
          have q := I2.pin (t, o) (List.mem_append_right _ (List.mem_cons_of_mem _ (List.mem_append_left _ ho)))
          exact ⟨q.2.1, (hpt _ ho).2.1.2.2.2, o, q.1⟩, fun s3 hs3 => hb s3 fun t o e ho => by
          obtain ⟨o2, ho2⟩ := hdt t e
          have q := I2.pin (t, o2) (List.mem_append_right _ (List.mem_cons_of_mem _ (List.mem_append_left _ ho2)))
          have q1 := (hpt _ ho2).1
          rw [ho] at q1; cases q1
          exact hs3 t _ e q.1⟩, pf.2.1, fr1.2.2.2, C2, rv0, hl0⟩
    have LH : HandOk Z k d0 (fb (stE NL.length (ds0 ++ ds))) := ⟨lamF X params scope c', f, bodyL, psL, fr, NL, us0, vs0, vc.map some, ds0, ds, fb, rfl, rfl, SL0, hvs, fun A outer s H E rm2 gd2 => hbody c' f A outer s H E (Kx.ofN rm2 gd2 SL0.nd), LZ⟩
    refine ⟨_, (hG d0 (fb (stE NL.length (ds0 ++ ds))) g cdv X.A X.stack s2 H2 _ kz LH).pss, ?_⟩
    refine ⟨⟨n2, F2, H2⟩, n2, F2, stE Ng.length (d0 :: rest), SL.start sub2 (.cons rd0 rr) tb2, ?_⟩
    have run := hφ f c' (X.env.qual ++ "<lambda>") (vc.map some) ds _ rest hlr _ _ _ hφr
    refine (sg d0 _ _).mono (fun fl m hf => ?_) (fun x m hx => ?_) run
    · cases fl with
      | nx env' => exact fun σ' F3 H3 _ z => hf .non F3 H3 (st2.trans z.st) .non
      | rt d => exact fun v F3 H3 z rv => hf v F3 H3 (st2.trans z) rv
    · exact fun cls dx σ' F3 H3 z rx => hx cls dx F3 H3 (st2.trans z) rx
  refine wpAny_call (codeAny_mono rc fun r s' hq => ?_)
  match r, hq with
  | .error u, hq => exact kx.tk u s' (XE.of_call Id (fun _ _ _ z => z) hq)
  | .ok (.ret u), hq => exact Id.after hq
  | .ok .next, hq => exact False.elim hq
  | .ok .brk, hq => exact False.elim hq
  | .ok .cont, hq => exact False.elim hq
end
theorem x_hand (i : Nat) (d0 : D) (n : Nat) (φ : List D → M D) (fa : DArg) (env : En) : dHand i d0 n φ fa env = match env[i]? with | some (.val d) => need (d = d0) (bnd (fa env) fun rest => need (rest.length = n) (φ rest)) | _ => stuck := rfl
theorem need_rfl {α : Type} (d : D) (m : M α) : need (d = d) m = m := need_of rfl m
end DL

end
section
set_option Elab.async false
set_option linter.all false
set_option maxRecDepth 100000
set_option maxHeartbeats 4000000
/-! DTac2: loops over range(n). -/
namespace DL
open PySem PySem.Spec PyProof.Rows L2
variable [Tb]
theorem loop_rg {β : Type} {tg : D → En → Option En} {b : DStm} {n : Nat} {env : En} {k : Fl → M β} {r : M β} (I : Nat → En → Prop) (h0 : I 0 env)
    (h : ∀ i, i < n → ∀ env, I i env → ∃ e1 e2, tg (natD i) env = some e1 ∧ b e1 = ret (.nx e2) ∧ I (i + 1) e2) (hk : ∀ e', I n e' → k (.nx e') = r) : bnd (loopD tg b ((List.range n).map natD) env) k = r := by
  refine loop_go (m := natD) I h0 (fun i hi env hI => ?_) fun e' hI => hk e' (by simpa using hI)
  have hi : i < n := by simpa using hi
  obtain ⟨e1, e2, h1, h2, h3⟩ := h i hi env hI
  exact ⟨e1, e2, by rw [List.getElem_range]; exact h1, h2, h3⟩
/-- a loop over items, each known by its place -/
theorem loop_it {α β : Type} {tg : D → En → Option En} {b : DStm} {m : α → D} {l : List α} {env : En} {k : Fl → M β} {r : M β} (I : List α → En → Prop) (h0 : I [] env)
    (h : ∀ pre a post env, l = pre ++ a :: post → I pre env → ∃ e1 e2, tg (m a) env = some e1 ∧ b e1 = ret (.nx e2) ∧ I (pre ++ [a]) e2) (hk : ∀ e', I l e' → k (.nx e') = r) : bnd (loopD tg b (l.map m) env) k = r := by
  refine loop_go (m := m) (fun i env => I (l.take i) env) h0 (fun i hi env hI => ?_) fun e' hI => hk e' (by rwa [List.take_length] at hI)
  have e : l = l.take i ++ l[i] :: l.drop (i + 1) := by rw [← List.drop_eq_getElem_cons hi, List.take_append_drop]
  obtain ⟨e1, e2, h1, h2, h3⟩ := h _ _ _ env e hI
  exact ⟨e1, e2, h1, h2, by rw [List.take_add_one, List.getElem?_eq_getElem hi]; exact h3⟩
/-- a loop over data, what is kept -/
theorem loop_ds {β : Type} {tg : D → En → Option En} {b : DStm} {ds : List D} {env : En} {k : Fl → M β} {r : M β} (I : En → Prop) (h0 : I env)
    (h : ∀ d ∈ ds, ∀ env, I env → ∃ e1 e2, tg d env = some e1 ∧ b e1 = ret (.nx e2) ∧ I e2) (hk : ∀ e', I e' → k (.nx e') = r) : bnd (loopD tg b ds env) k = r := by
  have e : ds = ds.map (fun d => d) := by simp
  rw [e]
  exact loop_go (m := fun d => d) (fun _ env => I env) h0 (fun i hi env hI => h _ (List.getElem_mem hi) env hI) hk
theorem seq_nx {s t : DStm} {env e : En} (h : s env = ret (.nx e)) : sSeq s t env = t e := by rw [x_seq, h, bnd_ret]
theorem seq_rt {s t : DStm} {env : En} {d : D} (h : s env = ret (.rt d)) : sSeq s t env = ret (.rt d) := by rw [x_seq, h, bnd_ret]
theorem zz3 {m : Nat} (h : m ≤ 100000) : m ≤ sizeLine := by rw [sizeLine_eq]; omega
theorem zz4 {m : Nat} (h : m < 100000) : m < sizeLine := by rw [sizeLine_eq]; omega
theorem pairs_ints : ∀ (a b : List Int), pairsD (a.map .int) (b.map .int) = (List.zip a b).map fun p => .tup [.int p.1, .int p.2]
  | [], b => by cases b <;> rfl
  | x :: xs, [] => rfl
  | x :: xs, y :: ys => by
    have ih := pairs_ints xs ys
    unfold pairsD at *
    simp only [List.map_cons, List.zip_cons_cons]
    rw [ih]
theorem ix_last {l : List D} {d : D} : gIx (.lst (l ++ [d])) (.int (-1)) = ret d := by
  have : atI (l ++ [d]) (-1) = some d := by
    unfold atI ixN
    rw [if_neg (by omega), if_pos (by simp; omega)]
    show (l ++ [d])[((-1 : Int) + (((l ++ [d]).length : Nat) : Int)).toNat]? = _
    rw [show ((-1 : Int) + (((l ++ [d]).length : Nat) : Int)).toNat = l.length by simp; omega]
    simp
  show (match atI (l ++ [d]) (-1) with | some d => ret d | none => stuck) = _
  rw [this]
theorem ix_tlast {l : List D} {d : D} : gIx (.tup (l ++ [d])) (.int (-1)) = ret d := ix_last
end DL

end
section
set_option Elab.async false
set_option linter.all false
set_option maxRecDepth 100000
set_option maxHeartbeats 4000000
/-! DListStr: list(text), tuple(text). -/
namespace DL
open PySem PySem.Spec PyProof.Rows L2
variable [Tb]
theorem vals_chars : ∀ (l : List Nat) (us : List Value), us.length = l.length → (∀ (j : Nat) (v : Value), us[j]? = some v → ∃ c u, l[j]? = some c ∧ v = .str ⟨#[c]⟩ u) → Vals (l.map fun c => V.str ⟨#[c]⟩) us
  | [], [], _, _ => .nil
  | c :: l, u :: us, hl, h => by
    obtain ⟨c', t, e1, e2⟩ := h 0 u rfl
    simp only [List.getElem?_cons_zero, Option.some.injEq] at e1
    subst e1
    refine .cons ⟨t, e2⟩ (vals_chars l us (by simpa using hl) fun j v hj => ?_)
    exact h (j + 1) v (by simpa using hj)
  | [], _ :: _, hl, _ => by simp at hl
  | _ :: _, [], hl, _ => by simp at hl
section
variable {X : Cx}
theorem call_list_S (hc : X.calm = true) : CallR X (.type "list") (fun xs H Q => ∃ x : Str, xs = [.str x] ∧ x.length ≤ sizeLine ∧ ∀ l, H l = none → Q (.ref l) (upd H l (.lst (x.cps.toList.map fun c => V.str ⟨#[c]⟩)))) := by
  intro pins s σ H xs us Q I r h
  obtain ⟨x, rfl, hz, q⟩ := h
  obtain ⟨u, rfl, t, rfl⟩ := vals1 r
  refine call_list_str (I.ok.hd hc) x t (fun h' tk acc c' kp e hacc => ?_) hz
  have rv : Vals (x.cps.toList.map fun c => V.str ⟨#[c]⟩) acc.toList := vals_chars _ _ (by simp [hacc.1]) fun j v hj => by
    obtain ⟨c, u, hc, rfl⟩ := hacc.2 j v (by simpa using hj)
    exact ⟨c, u, by simpa using hc, rfl⟩
  have hl : (x.cps.toList.map fun c => V.str ⟨#[c]⟩).length ≤ sizeLine := by rw [List.length_map, Array.length_toList]; exact hz
  exact ⟨.ref s.heap.objs.size, _, I.laid (t' := tk) kp (Nat.le_refl _) (show ObjOk X.prog X.w _ h' _ (.lst _) from ⟨hl, acc.toList, c', rv, by simpa using e⟩), rfl, q _ (I.hok.fresh (Nat.le_refl _))⟩
theorem call_tuple_S (hc : X.calm = true) : CallR X (.type "tuple") (fun xs H Q => ∃ x : Str, xs = [.str x] ∧ x.length ≤ sizeLine ∧ ∀ l, H l = none → Q (.ref l) (upd H l (.tup (x.cps.toList.map fun c => V.str ⟨#[c]⟩)))) := by
  intro pins s σ H xs us Q I r h
  obtain ⟨x, rfl, hz, q⟩ := h
  obtain ⟨u, rfl, t, rfl⟩ := vals1 r
  refine call_tuple_str (I.ok.hd hc) x t (fun h' tk acc kp hacc => ?_) hz
  have rv : Vals (x.cps.toList.map fun c => V.str ⟨#[c]⟩) acc.toList := vals_chars _ _ (by simp [hacc.1]) fun j v hj => by
    obtain ⟨c, u, hc, rfl⟩ := hacc.2 j v (by simpa using hj)
    exact ⟨c, u, by simpa using hc, rfl⟩
  have hl : (x.cps.toList.map fun c => V.str ⟨#[c]⟩).length ≤ sizeLine := by rw [List.length_map, Array.length_toList]; exact hz
  have I1 : Inv X pins σ H { s with heap := h', toks := tk } := I.kept (t' := tk) kp
  have e : acc = acc.toList.toArray := by simp
  have I2 : Inv X pins σ (upd H h'.objs.size (.tup (x.cps.toList.map fun c => V.str ⟨#[c]⟩))) { s with heap := h'.push { cls := .type "tuple", data := .seq acc }, toks := tk } :=
    I1.laid (t' := tk) (fun b o e => Heap.get?_push_of_some _ e) (Nat.le_refl _) (show ObjOk X.prog X.w _ _ _ (.tup _) from ⟨hl, acc.toList, rv, by rw [← e]; exact IsTup.new _ _⟩)
  exact ⟨.ref h'.objs.size, _, I2, rfl, q _ (I1.hok.fresh (Nat.le_refl _))⟩
end
def gListX : List D → M D
  | [.str x] => need (x.length ≤ sizeLine) (ret (.lst (x.cps.toList.map fun c => .str ⟨#[c]⟩)))
  | ds => gList ds
def gTupleX : List D → M D
  | [.str x] => need (x.length ≤ sizeLine) (ret (.tup (x.cps.toList.map fun c => .str ⟨#[c]⟩)))
  | ds => gTuple ds
theorem Reps.chars {K : PySem.W.Frag} {mg : Str → Option Value} {n : Nat} {F : Hp} : ∀ l : List Nat, Reps K mg n F (l.map fun c => V.str ⟨#[c]⟩) (l.map fun c => D.str ⟨#[c]⟩)
  | [] => .nil
  | _ :: l => .cons (.str _) (Reps.chars l)
section
variable {X : Cx}
theorem call_list_X (hc : X.calm = true) : CallR X (.type "list") (fun xs H Q => (∃ x : Str, xs = [.str x] ∧ x.length ≤ sizeLine ∧ ∀ l, H l = none → Q (.ref l) (upd H l (.lst (x.cps.toList.map fun c => V.str ⟨#[c]⟩)))) ∨
    ∃ p ys, xs = [.ref p] ∧ (SqL X.K H p ys ∨ SqT X.K H p ys) ∧ ∀ l, H l = none → Q (.ref l) (upd H l (.lst ys))) := CallR.or (call_list_S hc) call_list_of
theorem cd_listX : CallD X (fun xs H Q => (∃ x : Str, xs = [.str x] ∧ x.length ≤ sizeLine ∧ ∀ l, H l = none → Q (.ref l) (upd H l (.lst (x.cps.toList.map fun c => V.str ⟨#[c]⟩)))) ∨
    ∃ p ys, xs = [.ref p] ∧ (SqL X.K H p ys ∨ SqT X.K H p ys) ∧ ∀ l, H l = none → Q (.ref l) (upd H l (.lst ys))) gListX := fun n F H xs ds Q E s r q => by
  unfold gListX at q
  split at q
  · cases r with
    | cons r1 r2 =>
      cases r2; cases r1
      exact .inl ⟨_, rfl, q.1, fun p hp => q.2 _ _ _ (Step.new s hp) (Step.newLst s hp (Reps.chars _))⟩
  · exact .inr (cd_list n F H xs _ Q E s r q)
theorem call_tuple_X (hc : X.calm = true) : CallR X (.type "tuple") (fun xs H Q => (∃ x : Str, xs = [.str x] ∧ x.length ≤ sizeLine ∧ ∀ l, H l = none → Q (.ref l) (upd H l (.tup (x.cps.toList.map fun c => V.str ⟨#[c]⟩)))) ∨
    ∃ p ys, xs = [.ref p] ∧ ((SqL X.K H p ys ∧ ∀ l, H l = none → Q (.ref l) (upd H l (.tup ys))) ∨ (SqT X.K H p ys ∧ Q (.ref p) H))) := CallR.or (call_tuple_S hc) call_tuple_of
theorem cd_tupleX : CallD X (fun xs H Q => (∃ x : Str, xs = [.str x] ∧ x.length ≤ sizeLine ∧ ∀ l, H l = none → Q (.ref l) (upd H l (.tup (x.cps.toList.map fun c => V.str ⟨#[c]⟩)))) ∨
    ∃ p ys, xs = [.ref p] ∧ ((SqL X.K H p ys ∧ ∀ l, H l = none → Q (.ref l) (upd H l (.tup ys))) ∨ (SqT X.K H p ys ∧ Q (.ref p) H))) gTupleX := fun n F H xs ds Q E s r q => by
  unfold gTupleX at q
  split at q
  · cases r with
    | cons r1 r2 =>
      cases r2; cases r1
      exact .inl ⟨_, rfl, q.1, fun p hp => q.2 _ _ _ (Step.new s hp) (Step.newTup s hp (Reps.chars _))⟩
  · exact .inr (cd_tuple n F H xs _ Q E s r q)
end
end DL

end
section
set_option Elab.async false
set_option linter.all false
set_option maxRecDepth 100000
set_option maxHeartbeats 4000000
/-! DNest: repr of data with dicts inside. -/
namespace DL
open PySem PySem.Spec PyProof.Rows L2
variable [Tb]
def encK : Key → PyData
  | .inl i => .int i
  | .inr x => .str x
mutual
def toPyE : D → Option PyData
  | .non => some .none
  | .bl b => some (.bool b)
  | .int i => some (.int i)
  | .str s => some (.str s)
  | .tup l => (toPysE l).map PyData.tuple
  | .lst l => (toPysE l).map PyData.list
  | .dct l => (toPyK l).map PyData.dict
  | _ => none
def toPysE : List D → Option (List PyData)
  | [] => some []
  | d :: r => match toPyE d, toPysE r with
    | some p, some ps => some (p :: ps)
    | _, _ => none
def toPyK : List (Key × D) → Option (List (PyData × PyData))
  | [] => some []
  | (k, d) :: r => match toPyE d, toPyK r with
    | some p, some ps => some ((encK k, p) :: ps)
    | _, _ => none
end
section
variable {X : Cx} {pins : List (Addr × Obj)} {σ : L2.St} {F H : Hp} {s : Shared} {n : Nat}
theorem sys_ne_lst {a : Addr} {xs : List V} (sy : ∃ u, F sysModules = some u ∧ SysO u) (h : F a = some (.lst xs)) : sysModules ≠ a := fun e => by
  subst e
  obtain ⟨u, h1, h2⟩ := sy
  rw [h] at h1
  cases h1
  rcases h2 with ⟨_, h2⟩ | ⟨_, _, h2⟩ <;> cases h2
mutual
theorem nest_reads (I : Inv X pins σ H s) (sb : ∀ b o, F b = some o → H b = some o) (sy : ∃ u, F sysModules = some u ∧ SysO u) : ∀ (d : D) (v : V) (u : Value) (p : PyData), Rep X.K X.mg n F v d → toPyE d = some p → RelV v u → ∃ as, Reads s.heap u p as ∧ sysModules ∉ as
  | .non, _, _, p, h, e, r => by
    cases h; cases r; simp only [toPyE, Option.some.injEq] at e; subst e; exact ⟨_, .none, by simp⟩
  | .bl b, _, _, p, h, e, r => by
    cases h; cases r; simp only [toPyE, Option.some.injEq] at e; subst e; exact ⟨_, .bool b, by simp⟩
  | .int i, _, _, p, h, e, r => by
    cases h; obtain ⟨t, rfl⟩ := r; simp only [toPyE, Option.some.injEq] at e; subst e; exact ⟨_, .int i t, by simp⟩
  | .str x, _, _, p, h, e, r => by
    cases h; obtain ⟨t, rfl⟩ := r; simp only [toPyE, Option.some.injEq] at e; subst e; exact ⟨_, .str x t, by simp⟩
  | .tup l, _, _, p, h, e, r => by
    cases h with
    | tup ha hr =>
      cases r
      cases q : toPysE l with
      | none => simp only [toPyE, q, Option.map_none] at e; cases e
      | some ps =>
        simp only [toPyE, q, Option.map_some, Option.some.injEq] at e
        subst e
        obtain ⟨its, rv, ⟨o, ho, hc, m, hd⟩, _⟩ := I.tuple (SqT.of (sb _ _ ha))
        obtain ⟨as, q1, q2⟩ := nest_readsAll I sb sy l _ its ps hr q rv
        exact ⟨_, .tuple ho hc hd q1, q2⟩
  | .lst l, _, _, p, h, e, r => by
    cases h with
    | lst ha hr =>
      cases r
      cases q : toPysE l with
      | none => simp only [toPyE, q, Option.map_none] at e; cases e
      | some ps =>
        simp only [toPyE, q, Option.map_some, Option.some.injEq] at e
        subst e
        obtain ⟨its, rv, ⟨o, m, ho, hc, _, hd⟩, _⟩ := I.list (SqL.of (sb _ _ ha))
        obtain ⟨as, q1, q2⟩ := nest_readsAll I sb sy l _ its ps hr q rv
        exact ⟨_, .list ho hc hd q1, by
          rw [List.mem_cons]
          exact fun z => z.elim (sys_ne_lst sy ha) q2⟩
  | .dct l, _, _, p, h, e, r => by
    cases h with
    | dct ha _ hr =>
      cases r
      cases q : toPyK l with
      | none => simp only [toPyE, q, Option.map_none] at e; cases e
      | some ps =>
        simp only [toPyE, q, Option.map_some, Option.some.injEq] at e
        subst e
        obtain ⟨_, hs, vs, hk, hd⟩ := (show ObjOk X.prog X.w H s.heap _ (.dK _) from I.hok _ _ (sb _ _ ha))
        obtain ⟨bs, q1, q2⟩ := nest_pairs I sb sy l _ vs ps hr q hk
        refine ⟨_, PyProof.V.reads_dictOf (fun k key hkey => ?_) hd q1, ?_⟩
        · rcases keyIs_shape hkey with ⟨i, t, rfl, rfl⟩ | ⟨x, t, rfl, rfl⟩
          · exact .int i t
          · exact .str x t
        · rw [List.mem_cons]
          exact fun z => z.elim (fun e => by rw [← e] at hs; simp at hs) q2
theorem nest_readsAll (I : Inv X pins σ H s) (sb : ∀ b o, F b = some o → H b = some o) (sy : ∃ u, F sysModules = some u ∧ SysO u) : ∀ (ds : List D) (vs : List V) (us : List Value) (ps : List PyData), Reps X.K X.mg n F vs ds → toPysE ds = some ps → Vals vs us → ∃ as, ReadsAll s.heap us ps as ∧ sysModules ∉ as
  | [], _, _, ps, h, e, r => by
    cases h; cases r; simp only [toPysE, Option.some.injEq] at e; subst e; exact ⟨_, .nil, by simp⟩
  | d :: ds, _, _, ps, h, e, r => by
    cases h with
    | cons h1 h2 => cases r with
      | cons r1 r2 =>
        cases q : toPyE d with
        | none => simp only [toPysE, q] at e; cases e
        | some p =>
          cases q2 : toPysE ds with
          | none => simp only [toPysE, q, q2] at e; cases e
          | some ps' =>
            simp only [toPysE, q, q2, Option.some.injEq] at e
            subst e
            obtain ⟨as, a1, a2⟩ := nest_reads I sb sy d _ _ p h1 q r1
            obtain ⟨bs, b1, b2⟩ := nest_readsAll I sb sy ds _ _ ps' h2 q2 r2
            exact ⟨_, .cons a1 b1, by rw [List.mem_append]; exact fun z => z.elim a2 b2⟩
theorem nest_pairs (I : Inv X pins σ H s) (sb : ∀ b o, F b = some o → H b = some o) (sy : ∃ u, F sysModules = some u ∧ SysO u) : ∀ (ds : List (Key × D)) (kvs : List (Key × V)) (us : List (Key × Value)) (ps : List (PyData × PyData)), RepK X.K X.mg n F kvs ds → toPyK ds = some ps → KV kvs us → ∃ as, PyProof.V.PairsRead s.heap encK us ps as ∧ sysModules ∉ as
  | [], _, _, ps, h, e, r => by
    cases h; cases r; simp only [toPyK, Option.some.injEq] at e; subst e; exact ⟨_, .nil, by simp⟩
  | (k, d) :: ds, _, _, ps, h, e, r => by
    cases h with
    | cons h1 h2 => cases r with
      | @cons _ y _ _ r1 r2 =>
        obtain ⟨k', v'⟩ := y
        obtain ⟨rfl, r1⟩ := r1
        cases q : toPyE d with
        | none => simp only [toPyK, q] at e; cases e
        | some p =>
          cases q2 : toPyK ds with
          | none => simp only [toPyK, q, q2] at e; cases e
          | some ps' =>
            simp only [toPyK, q, q2, Option.some.injEq] at e
            subst e
            obtain ⟨as, a1, a2⟩ := nest_reads I sb sy d _ _ p h1 q r1
            obtain ⟨bs, b1, b2⟩ := nest_pairs I sb sy ds _ _ ps' h2 q2 r2
            exact ⟨_, .cons a1 b1, by rw [List.mem_append]; exact fun z => z.elim a2 b2⟩
end
end
def gReprN : List D → M D
  | [d] => match toPyE d with
    | some p => need (p.showable = true ∧ p.depth ≤ 60 ∧ p.shown.length ≤ sizeLine) (ret (.str p.shown))
    | none => stuck
  | _ => stuck
def rReprN (K : PySem.W.Frag) (mg : Str → Option Value) : List V → Hp → VK → Prop := fun vs H Q => ∃ (v : V) (d : D) (p : PyData) (n : Nat) (F : Hp), vs = [v] ∧ (∀ b o, F b = some o → H b = some o) ∧ (∃ u, F sysModules = some u ∧ SysO u) ∧ Rep K mg n F v d ∧ toPyE d = some p ∧
  p.showable = true ∧ p.depth ≤ 60 ∧ p.shown.length ≤ sizeLine ∧ Q (.str p.shown) H
section
variable {X : Cx} {W : WX} {x : Str} {e : Expr} {es : List Expr} {fa : DArg} {p pos : Pos}
theorem cr_reprN (hg : X.A.guards = some []) (hu : X.A.units + 65 < cLine) : CallR X (.builtin "repr") (rReprN X.K X.mg) := by
  intro pins s σ H vs us Q I r h
  obtain ⟨v, d, p, n, F, rfl, sb, sy, rd, e, h1, h2, h3, q⟩ := h
  cases r with
  | cons rv rn =>
    cases rn
    cases d with
    | non =>
      cases rd; cases rv; simp only [toPyE, Option.some.injEq] at e; subst e
      exact PySem.P.repr_of_none ⟨.str _, H, I.tok _, ⟨s.toks, by simp only [PyData.shown]⟩, q⟩
    | bl b =>
      cases rd; cases rv; simp only [toPyE, Option.some.injEq] at e; subst e
      exact PySem.P.repr_of_bool ⟨.str _, H, I.tok _, ⟨s.toks, by simp only [PyData.shown]⟩, q⟩
    | int i =>
      cases rd; obtain ⟨t, rfl⟩ := rv; simp only [toPyE, Option.some.injEq] at e; subst e
      exact PySem.P.repr_of_int (by simpa [PyData.showable] using h1) ⟨.str _, H, I.tok _, ⟨s.toks, by simp only [PyData.shown]⟩, q⟩
    | str x =>
      cases rd; obtain ⟨t, rfl⟩ := rv; simp only [toPyE, Option.some.injEq] at e; subst e
      exact PySem.P.repr_of_str (by refine ⟨.str _, H, I.tok _, ⟨s.toks, ?_⟩, q⟩; simp only [PyData.shown]) (by simpa only [PyData.shown] using h3)
    | lst l =>
      obtain ⟨as, q1, q2⟩ := nest_reads I sb sy (.lst l) v _ p rd e rv
      cases rd; cases rv
      exact repr_of_reads' q1 h1 (fun _ => q2) hg (by omega) (fun _ _ e => e) (fun h' u tk hk => ⟨.str _, H, I.kept hk, ⟨u, rfl⟩, q⟩) h3
    | tup l =>
      obtain ⟨as, q1, q2⟩ := nest_reads I sb sy (.tup l) v _ p rd e rv
      cases rd; cases rv
      exact repr_of_reads' q1 h1 (fun _ => q2) hg (by omega) (fun _ _ e => e) (fun h' u tk hk => ⟨.str _, H, I.kept hk, ⟨u, rfl⟩, q⟩) h3
    | dct l =>
      obtain ⟨as, q1, q2⟩ := nest_reads I sb sy (.dct l) v _ p rd e rv
      cases rd; cases rv
      exact repr_of_reads' q1 h1 (fun _ => q2) hg (by omega) (fun _ _ e => e) (fun h' u tk hk => ⟨.str _, H, I.kept hk, ⟨u, rfl⟩, q⟩) h3
    | scr _ => simp only [toPyE] at e; cases e
    | rng _ _ => simp only [toPyE] at e; cases e
    | exc _ _ => simp only [toPyE] at e; cases e
    | fn _ => simp only [toPyE] at e; cases e
    | ty _ => simp only [toPyE] at e; cases e
    | thk _ _ _ _ _ => simp only [toPyE] at e; cases e
    | obj _ _ _ => simp only [toPyE] at e; cases e
theorem de_reprN (hs : Tb.sys = true) (hg : X.A.guards = some []) (hu : X.A.units + 65 < cLine) (hm : X.mg x = none) (ha : DA X W (e :: es) fa) (hv : bootBuiltins x = some (.builtin "repr") := by decide +kernel) (hgl : Gl X x := by rfl) (hn : x ≠ "__name__" := by decide) (hdb : (x == ("__debug__" : Str)) = false := by decide)
    (he : starEach (e :: es) X.env = (false, eval e X.env) :: starEach es X.env := by rfl) (hpl : (backTo pos (starEach es X.env)).any (·.1) = false := by rfl) : DE X W (.Call (.Name x p) (e :: es) [] pos) (dCb gReprN fa) :=
  ⟨PE.imp (pe_callB (cr_reprN hg hu) hgl hm hv ha.pa hn hdb he hpl) fun σ H Q ⟨B, n, F, env, S, h⟩ =>
    tA.go S h fun ds n1 vs F1 H1 pp t r1 S1 => by
      unfold gReprN at pp
      split at pp
      · rename_i d
        split at pp
        · rename_i p hp
          obtain ⟨⟨h1, h2, h3⟩, q⟩ := pp
          cases r1 with
          | cons rd rn =>
            cases rn
            exact ⟨_, d, p, n1, F1, rfl, S1.sub, S1.tabs.2 hs, rd, hp, h1, h2, h3, q _ F1 H1 t (.str _)⟩
        · exact pp.elim
      · exact pp.elim⟩
end
/-! ### sizes -/
def wtKey : Key → Nat
  | .inl i => if i.natAbs < 10 ^ 60 then 61 else 100000000
  | .inr x => if x.cps.all (· < 16 ^ 8) then 10 * x.length + 2 else 100000000
def wtE : Nat → D → Nat
  | _, .non => 4
  | _, .bl _ => 5
  | _, .int i => if i.natAbs < 10 ^ 60 then 61 else 100000000
  | _, .str x => if x.cps.all (· < 16 ^ 8) then 10 * x.length + 2 else 100000000
  | k + 1, .tup l => (l.map fun d => wtE k d + 2).sum + 3
  | k + 1, .lst l => (l.map fun d => wtE k d + 2).sum + 3
  | k + 1, .dct l => (l.map fun p => wtKey p.1 + wtE k p.2 + 4).sum + 3
  | _, _ => 100000000
def rtxE (d : D) : Str := match toPyE d with
  | some p => p.shown
  | none => ""
structure ShE (k w : Nat) (p : PyData) : Prop where
  len : p.shown.length ≤ w
  sh : p.showable = true
  dp : p.depth ≤ k
theorem str_show {x : Str} (h : x.cps.all (· < 16 ^ 8) = true) (k : Nat) : ShE k (10 * x.length + 2) (.str x) := ⟨by
  simp only [PyData.shown]
  refine StrLaws.reprText_len x fun c hc => ?_
  have := Array.all_eq_true_iff_forall_mem.mp h c (by simpa using hc)
  simpa using this, rfl, Nat.zero_le _⟩
theorem key_show (kk : Key) (k : Nat) (h : wtKey kk < 100000000) : ShE k (wtKey kk) (encK kk) := by
  cases kk with
  | inl i =>
    have e : wtKey (.inl i) = if i.natAbs < 10 ^ 60 then 61 else 100000000 := rfl
    rw [e] at h ⊢
    show ShE k _ (.int i)
    by_cases hi : i.natAbs < 10 ^ 60
    · rw [if_pos hi]
      obtain ⟨h1, h2⟩ := int_show hi
      exact ⟨h1, h2, Nat.zero_le _⟩
    · rw [if_neg hi] at h; omega
  | inr x =>
    have e : wtKey (.inr x) = if x.cps.all (· < 16 ^ 8) then 10 * x.length + 2 else 100000000 := rfl
    rw [e] at h ⊢
    show ShE k _ (.str x)
    by_cases hi : x.cps.all (· < 16 ^ 8) = true
    · rw [if_pos hi]; exact str_show hi k
    · rw [if_neg hi] at h; omega
theorem showE_seq (k : Nat) (ih : ∀ (d : D), wtE k d < 100000000 → ∃ p, toPyE d = some p ∧ ShE k (wtE k d) p) :
    ∀ (l : List D), (l.map fun d => wtE k d + 2).sum < 100000000 → ∃ ps, toPysE l = some ps ∧ 
      ((PyData.shownAll ps).map (·.length)).sum + 2 * ps.length ≤ (l.map fun d => wtE k d + 2).sum ∧ PyData.showableAll ps = true ∧ PyData.depthAll ps ≤ k ∧ (PyData.shownAll ps).length = ps.length
  | [], _ => ⟨[], by simp only [toPysE], by simp [PyData.shownAll, PyData.showableAll, PyData.depthAll]⟩
  | d :: l, hw => by
    rw [List.map_cons, List.sum_cons] at hw ⊢
    obtain ⟨p, e1, a1, a2, a3⟩ := ih d (by omega)
    obtain ⟨ps, e2, b1, b2, b3, b4⟩ := showE_seq k ih l (by omega)
    refine ⟨p :: ps, by simp only [toPysE, e1, e2], ?_⟩
    simp only [PyData.shownAll, PyData.showableAll, PyData.depthAll, List.map_cons, List.sum_cons, List.length_cons, a2, b2, b4, Bool.and_self, true_and]
    exact ⟨by omega, by omega, trivial⟩
theorem showE_kv (k : Nat) (ih : ∀ (d : D), wtE k d < 100000000 → ∃ p, toPyE d = some p ∧ ShE k (wtE k d) p) :
    ∀ (l : List (Key × D)), (l.map fun p => wtKey p.1 + wtE k p.2 + 4).sum < 100000000 → ∃ ps, toPyK l = some ps ∧ 
      ((PyData.shownKv ps).map (·.length)).sum + 2 * ps.length ≤ (l.map fun p => wtKey p.1 + wtE k p.2 + 4).sum ∧ PyData.showableKv ps = true ∧ PyData.depthKv ps ≤ k ∧ (PyData.shownKv ps).length = ps.length
  | [], _ => ⟨[], by simp only [toPyK], by simp [PyData.shownKv, PyData.showableKv, PyData.depthKv]⟩
  | (kk, d) :: l, hw => by
    rw [List.map_cons, List.sum_cons] at hw ⊢
    dsimp only at hw ⊢
    obtain ⟨p, e1, a1, a2, a3⟩ := ih d (by omega)
    obtain ⟨c1, c2, c3⟩ := key_show kk k (by omega)
    obtain ⟨ps, e2, b1, b2, b3, b4⟩ := showE_kv k ih l (by omega)
    refine ⟨(encK kk, p) :: ps, by simp only [toPyK, e1, e2], ?_⟩
    have hl : ((encK kk).shown ++ ": " ++ p.shown).length = (encK kk).shown.length + 2 + p.shown.length := by
      rw [strLen_append, strLen_append]; rfl
    simp only [PyData.shownKv, PyData.showableKv, PyData.depthKv, List.map_cons, List.sum_cons, List.length_cons, a2, b2, b4, c2, Bool.and_self, true_and, hl]
    exact ⟨by omega, by omega, trivial⟩
theorem showE_le : ∀ (k : Nat) (d : D), wtE k d < 100000000 → ∃ p, toPyE d = some p ∧ ShE k (wtE k d) p
  | k, .non, _ => by
    have e : wtE k .non = 4 := by cases k <;> rfl
    rw [e]
    exact ⟨.none, by simp only [toPyE], by decide, rfl, Nat.zero_le _⟩
  | k, .bl b, _ => by
    have e : wtE k (.bl b) = 5 := by cases k <;> rfl
    rw [e]
    exact ⟨.bool b, by simp only [toPyE], by cases b <;> decide, rfl, Nat.zero_le _⟩
  | k, .int i, hw => by
    have e : wtE k (.int i) = if i.natAbs < 10 ^ 60 then 61 else 100000000 := by cases k <;> rfl
    rw [e] at hw ⊢
    by_cases hi : i.natAbs < 10 ^ 60
    · rw [if_pos hi]
      obtain ⟨h1, h2⟩ := int_show hi
      exact ⟨.int i, by simp only [toPyE], h1, h2, Nat.zero_le _⟩
    · rw [if_neg hi] at hw; omega
  | k, .str x, hw => by
    have e : wtE k (.str x) = if x.cps.all (· < 16 ^ 8) then 10 * x.length + 2 else 100000000 := by cases k <;> rfl
    rw [e] at hw ⊢
    by_cases hi : x.cps.all (· < 16 ^ 8) = true
    · rw [if_pos hi]
      exact ⟨.str x, by simp only [toPyE], str_show hi k⟩
    · rw [if_neg hi] at hw; omega
  | k + 1, .tup l, hw => by
    have e : wtE (k + 1) (.tup l) = (l.map fun d => wtE k d + 2).sum + 3 := by simp only [wtE]
    rw [e] at hw ⊢
    obtain ⟨ps, e2, b1, b2, b3, b4⟩ := showE_seq k (showE_le k) l (by omega)
    refine ⟨.tuple ps, by simp only [toPyE, e2, Option.map_some], ?_, by simpa only [PyData.showable] using b2, by simp only [PyData.depth]; omega⟩
    have := tupleText_len_le (PyData.shownAll ps)
    simp only [PyData.shown]
    omega
  | k + 1, .lst l, hw => by
    have e : wtE (k + 1) (.lst l) = (l.map fun d => wtE k d + 2).sum + 3 := by simp only [wtE]
    rw [e] at hw ⊢
    obtain ⟨ps, e2, b1, b2, b3, b4⟩ := showE_seq k (showE_le k) l (by omega)
    refine ⟨.list ps, by simp only [toPyE, e2, Option.map_some], ?_, by simpa only [PyData.showable] using b2, by simp only [PyData.depth]; omega⟩
    have := listText_len_le (PyData.shownAll ps)
    simp only [PyData.shown]
    omega
  | k + 1, .dct l, hw => by
    have e : wtE (k + 1) (.dct l) = (l.map fun p => wtKey p.1 + wtE k p.2 + 4).sum + 3 := by simp only [wtE]
    rw [e] at hw ⊢
    obtain ⟨ps, e2, b1, b2, b3, b4⟩ := showE_kv k (showE_le k) l (by omega)
    refine ⟨.dict ps, by simp only [toPyE, e2, Option.map_some], ?_, by simpa only [PyData.showable] using b2, by simp only [PyData.depth]; omega⟩
    have := dictText_len_le (PyData.shownKv ps)
    simp only [PyData.shown]
    omega
  | 0, .tup l, hw => absurd (show (100000000 : Nat) < 100000000 from hw) (by decide)
  | 0, .lst l, hw => absurd (show (100000000 : Nat) < 100000000 from hw) (by decide)
  | 0, .dct l, hw => absurd (show (100000000 : Nat) < 100000000 from hw) (by decide)
  | 0, .scr _, hw => absurd (show (100000000 : Nat) < 100000000 from hw) (by decide)
  | 0, .rng _ _, hw => absurd (show (100000000 : Nat) < 100000000 from hw) (by decide)
  | 0, .exc _ _, hw => absurd (show (100000000 : Nat) < 100000000 from hw) (by decide)
  | 0, .fn _, hw => absurd (show (100000000 : Nat) < 100000000 from hw) (by decide)
  | 0, .ty _, hw => absurd (show (100000000 : Nat) < 100000000 from hw) (by decide)
  | 0, .thk _ _ _ _ _, hw => absurd (show (100000000 : Nat) < 100000000 from hw) (by decide)
  | 0, .obj _ _ _, hw => absurd (show (100000000 : Nat) < 100000000 from hw) (by decide)
  | k + 1, .scr _, hw => absurd (show (100000000 : Nat) < 100000000 from hw) (by decide)
  | k + 1, .rng _ _, hw => absurd (show (100000000 : Nat) < 100000000 from hw) (by decide)
  | k + 1, .exc _ _, hw => absurd (show (100000000 : Nat) < 100000000 from hw) (by decide)
  | k + 1, .fn _, hw => absurd (show (100000000 : Nat) < 100000000 from hw) (by decide)
  | k + 1, .ty _, hw => absurd (show (100000000 : Nat) < 100000000 from hw) (by decide)
  | k + 1, .thk _ _ _ _ _, hw => absurd (show (100000000 : Nat) < 100000000 from hw) (by decide)
  | k + 1, .obj _ _ _, hw => absurd (show (100000000 : Nat) < 100000000 from hw) (by decide)
theorem gReprN_ok {d : D} (hw : wtE 20 d ≤ 16000000) : gReprN [d] = ret (.str (rtxE d)) := by
  obtain ⟨p, h1, a1, a2, a3⟩ := showE_le 20 d (by omega)
  have e : rtxE d = p.shown := by unfold rtxE; rw [h1]
  rw [e]
  show (match toPyE d with | some p => need (p.showable = true ∧ p.depth ≤ 60 ∧ p.shown.length ≤ sizeLine) (ret (D.str p.shown)) | none => stuck) = _
  rw [h1]
  exact need_of ⟨a2, by omega, by rw [sizeLine_eq]; omega⟩ _
end DL

end
section
set_option Elab.async false
set_option linter.all false
set_option maxRecDepth 100000
set_option maxHeartbeats 4000000
open PySem PySem.Spec PyProof.Rows L2 DL
namespace Wk02
open PKG
variable [Tb]
def top (i : Nat) : Stmt := PySem.Challenge.pw_pointfolds_k02_things_judged.main.body.getD i (.Pass ⟨0, 0, 0, 0⟩)
def oks : List Str := ["BadCorner", "BadSigns"]
def cls : List Str := ["BadCorner", "BadNumber", "BadPaper", "BadSigns", "BadStack", "BadText", "Nothing", "TooGreat"]
structure Zs (mg : Str → Option Value) : Prop where
  n_all : mg "all" = none
  n_bool : mg "bool" = none
  n_int : mg "int" = none
  n_isinstance : mg "isinstance" = none
  n_len : mg "len" = none
  n_list : mg "list" = none
  n_min : mg "min" = none
  n_range : mg "range" = none
  n_repr : mg "repr" = none
  n_str : mg "str" = none
  n_sum : mg "sum" = none
  n_tuple : mg "tuple" = none
  c_LEAST_SECTORS : ∃ t, mg "LEAST_SECTORS" = some (.int 2 t)
  c_MOST_SECTORS : ∃ t, mg "MOST_SECTORS" = some (.int 12 t)
  c_MOST_SUM : ∃ t, mg "MOST_SUM" = some (.int 1000000000000000000000000000000 t)
  c_MOUNTAIN : ∃ t, mg "MOUNTAIN" = some (.str "M" t)
  c_VALLEY : ∃ t, mg "VALLEY" = some (.str "V" t)
  k_BadCorner : ∃ f : Addr, mg "BadCorner" = some (.ref f)
  k_BadNumber : ∃ f : Addr, mg "BadNumber" = some (.ref f)
  k_BadPaper : ∃ f : Addr, mg "BadPaper" = some (.ref f)
  k_BadSigns : ∃ f : Addr, mg "BadSigns" = some (.ref f)
  k_BadStack : ∃ f : Addr, mg "BadStack" = some (.ref f)
  k_BadText : ∃ f : Addr, mg "BadText" = some (.ref f)
  k_Nothing : ∃ f : Addr, mg "Nothing" = some (.ref f)
  k_TooGreat : ∃ f : Addr, mg "TooGreat" = some (.ref f)
  sys : Tb.sys = true
section
variable {P : Program} {w : World} {K : PySem.W.Frag} {mg : Str → Option Value} {base : Heap}
/-! def _law_begun -/
abbrev st__law_begun : Stmt := top 22
def s__law_begun : DStm :=
  sSeq (sAsg 1 (dLc (iScr (dVar 0)) [2] (tgN 2) (dTst (dBin gGe (dVar 2) (dBin gPow (dK (.int 10)) (dK (.int 18))))) (dVar 2))) (sRet (dBeg (dBin gAdd (dCb gListS (aCons (dVar 0) (aNil))) (dLst (aCons (dCb gLen (aCons (dVar 0) (aNil))) (aNil)))) (dIf (dTst (dBin (gEq true) (dVar 1) (dLst (aNil)))) (dBin gIx (dVar 1) (dK (.int 0))) (dK (.int 0))) (dK (.int 0))))
def f__law_begun : Fn := fnOf (["_law_script", "_law_great", "_law_cell"] : List Str).length s__law_begun
theorem sc__law_begun : FnScope ["_law_script", "_law_great", "_law_cell"] ["_law_script"] (defScope st__law_begun) := ⟨rfl, rfl, rfl, by decide +kernel, rfl, by decide +kernel, by decide +kernel⟩
theorem g__law_begun (Z : Zs mg) (D_ : Df K mg "_law_begun" ["_law_script"] st__law_begun) :
    Glo P w K mg base 1 "_law_begun" 1 f__law_begun := D_.glo (k := 0) (s := s__law_begun) sc__law_begun rfl fun f cd R callers t H E kx =>
  dss_cons (ds_setLc kx 1 (own := [("_law_cell", 2)]) (di_scr (de_var 0)) (show BlkOk ["_law_script", "_law_great", "_law_cell"] (defScope st__law_begun) _ [("_law_cell", 2)] from ⟨rfl, by decide +kernel, by decide +kernel, by decide +kernel, by decide +kernel⟩) (fun _ _ _ _ _ => dg_name 2 sc__law_begun.nd) (fun _ _ _ _ _ => dts_one (dt_cmp op_ge od_ge (de_var 2) (de_bin op_pow od_pow (de_int) (de_int)))) (fun _ _ _ _ _ => de_var 2)) (dss_one (ds_ret (de_beg (de_bin op_addA od_add (de_ct call_list_of cd_listS Z.n_list (da_cons (de_var 0) (da_nil))) (de_lst (da_cons (de_cb cb_len cd_len Z.n_len (da_cons (de_var 0) (da_nil))) (da_nil)))) (de_if (dt_cmp (op_neA (units_64 kx)) od_ne (de_var 1) (de_lst (da_nil))) (de_ix (de_var 1) (de_int)) (de_int)) (de_int))))
theorem h__law_begun (Z : Zs mg) (D_ : Df K mg "_law_begun" ["_law_script"] st__law_begun) : Glo P w K mg base 1 "_law_begun" 1 gBegun := (g__law_begun Z D_).imp begun19
/-! def _law_word -/
abbrev st__law_word : Stmt := top 28
def s__law_word : DStm :=
  sSeq (sOwn 1 (fLst (aNil))) (sSeq (sIf (dTst (dCb (gIsE oks cls) (aCons (dVar 0) (aCons (dK (.fn "BadCorner")) (aNil))))) (sApp 1 (dTup (aCons (dK (.str "corner")) (aCons (dFld oks "value" (dVar 0)) (aNil))))) (sSkip)) (sSeq (sIf (dTst (dCb (gIsE oks cls) (aCons (dVar 0) (aCons (dK (.fn "BadSigns")) (aNil))))) (sApp 1 (dTup (aCons (dK (.str "signs")) (aCons (dFld oks "value" (dVar 0)) (aNil))))) (sSkip)) (sSeq (sIf (dTst (dCb (gIsE oks cls) (aCons (dVar 0) (aCons (dK (.fn "BadStack")) (aNil))))) (sApp 1 (dTup (aCons (dK (.str "stack")) (aCons (dFld oks "value" (dVar 0)) (aNil))))) (sSkip)) (sSeq (sIf (dTst (dCb (gIsE oks cls) (aCons (dVar 0) (aCons (dK (.fn "BadNumber")) (aNil))))) (sApp 1 (dTup (aCons (dK (.str "number")) (aCons (dFld oks "value" (dVar 0)) (aNil))))) (sSkip)) (sSeq (sIf (dTst (dCb (gIsE oks cls) (aCons (dVar 0) (aCons (dK (.fn "BadPaper")) (aNil))))) (sApp 1 (dTup (aCons (dK (.str "paper")) (aCons (dFld oks "part" (dVar 0)) (aNil))))) (sSkip)) (sSeq (sIf (dTst (dCb (gIsE oks cls) (aCons (dVar 0) (aCons (dK (.fn "BadText")) (aNil))))) (sApp 1 (dTup (aCons (dK (.str "text")) (aCons (dFld oks "place" (dVar 0)) (aNil))))) (sSkip)) (sSeq (sIf (dTst (dCb (gIsE oks cls) (aCons (dVar 0) (aCons (dK (.fn "TooGreat")) (aNil))))) (sApp 1 (dTup (aCons (dK (.str "great")) (aCons (dFld oks "most" (dVar 0)) (aNil))))) (sSkip)) (sSeq (sIf (dTst (dCb (gIsE oks cls) (aCons (dVar 0) (aCons (dK (.fn "Nothing")) (aNil))))) (sApp 1 (dTup (aCons (dK (.str "nothing")) (aCons (dFld oks "value" (dVar 0)) (aNil))))) (sSkip)) (sFrz 1 (sRet (dIf (dTst (dBin (gEq false) (dCb gLen (aCons (dVar 1) (aNil))) (dK (.int 1)))) (dBin gIx (dVar 1) (dK (.int 0))) (dTup (aCons (dK (.str "other")) (aCons (dK .non) (aNil)))))))))))))))
def f__law_word : Fn := fnOf (["_law_error", "_law_found"] : List Str).length s__law_word
theorem sc__law_word : FnScope ["_law_error", "_law_found"] ["_law_error"] (defScope st__law_word) := ⟨rfl, rfl, rfl, by decide +kernel, rfl, by decide +kernel, by decide +kernel⟩
theorem g__law_word (Z : Zs mg) (D_ : Df K mg "_law_word" ["_law_error"] st__law_word) (EO : ∀ c ∈ oks, ErrO K mg c) (ET : ∀ c ∈ oks, ∀ d ∈ cls, ErrT K mg c d) :
    Glo P w K mg base 1 "_law_word" 1 f__law_word := D_.glo (k := 0) (s := s__law_word) sc__law_word rfl fun f cd R callers t H E kx =>
  dss_cons (ds_own 1 kx (dfr_lst (da_nil))) (dss_cons (ds_if (dt_val (de_cb cr_isX (cd_isX EO ET) Z.n_isinstance (da_cons (de_var 0) (da_cons (de_gfnE Z.k_BadCorner) (da_nil))))) (dss_one (ds_app 1 kx (de_tup (da_cons (de_str) (da_cons (de_fld EO (de_var 0)) (da_nil)))))) (dss_nil)) (dss_cons (ds_if (dt_val (de_cb cr_isX (cd_isX EO ET) Z.n_isinstance (da_cons (de_var 0) (da_cons (de_gfnE Z.k_BadSigns) (da_nil))))) (dss_one (ds_app 1 kx (de_tup (da_cons (de_str) (da_cons (de_fld EO (de_var 0)) (da_nil)))))) (dss_nil)) (dss_cons (ds_if (dt_val (de_cb cr_isX (cd_isX EO ET) Z.n_isinstance (da_cons (de_var 0) (da_cons (de_gfnE Z.k_BadStack) (da_nil))))) (dss_one (ds_app 1 kx (de_tup (da_cons (de_str) (da_cons (de_fld EO (de_var 0)) (da_nil)))))) (dss_nil)) (dss_cons (ds_if (dt_val (de_cb cr_isX (cd_isX EO ET) Z.n_isinstance (da_cons (de_var 0) (da_cons (de_gfnE Z.k_BadNumber) (da_nil))))) (dss_one (ds_app 1 kx (de_tup (da_cons (de_str) (da_cons (de_fld EO (de_var 0)) (da_nil)))))) (dss_nil)) (dss_cons (ds_if (dt_val (de_cb cr_isX (cd_isX EO ET) Z.n_isinstance (da_cons (de_var 0) (da_cons (de_gfnE Z.k_BadPaper) (da_nil))))) (dss_one (ds_app 1 kx (de_tup (da_cons (de_str) (da_cons (de_fld EO (de_var 0)) (da_nil)))))) (dss_nil)) (dss_cons (ds_if (dt_val (de_cb cr_isX (cd_isX EO ET) Z.n_isinstance (da_cons (de_var 0) (da_cons (de_gfnE Z.k_BadText) (da_nil))))) (dss_one (ds_app 1 kx (de_tup (da_cons (de_str) (da_cons (de_fld EO (de_var 0)) (da_nil)))))) (dss_nil)) (dss_cons (ds_if (dt_val (de_cb cr_isX (cd_isX EO ET) Z.n_isinstance (da_cons (de_var 0) (da_cons (de_gfnE Z.k_TooGreat) (da_nil))))) (dss_one (ds_app 1 kx (de_tup (da_cons (de_str) (da_cons (de_fld EO (de_var 0)) (da_nil)))))) (dss_nil)) (dss_cons (ds_if (dt_val (de_cb cr_isX (cd_isX EO ET) Z.n_isinstance (da_cons (de_var 0) (da_cons (de_gfnE Z.k_Nothing) (da_nil))))) (dss_one (ds_app 1 kx (de_tup (da_cons (de_str) (da_cons (de_fld EO (de_var 0)) (da_nil)))))) (dss_nil)) (dss_one (ds_frz 1 (ds_ret (de_if (dt_cmp (op_eqA (units_64 kx)) od_eq (de_cb cb_len cd_len Z.n_len (da_cons (de_var 1) (da_nil))) (de_int)) (de_ix (de_var 1) (de_int)) (de_tup (da_cons (de_str) (da_cons (de_non) (da_nil))))))))))))))))
/-! def _law_outcome -/
abbrev st__law_outcome : Stmt := top 29
theorem sc__law_outcome : FnScope ["_law_call", "_law_found", "_law_error", "e"] ["_law_call"] (defScope st__law_outcome) := ⟨rfl, rfl, rfl, by decide +kernel, rfl, by decide +kernel, by decide +kernel⟩
def sg__law_outcome (d0 : D) (m : M D) : DStm :=
  sSeq (sUnp (tgT 2 (tgsCons (tgN 1) (tgsCons (tgN 2) (tgsNil)))) (dTup (aCons (dK .non) (aCons (dK .non) (aNil))))) (sSeq (sTry oks 2 4 (sAsg 1 (dAct 0 d0 m))) (sRet (dIf (dTst (dBin (gIsN false) (dVar 2) (dK .non))) (dLst (aCons (dVar 1) (aNil))) (dCall 1 f__law_word (aCons (dVar 2) (aNil))))))
def ph__law_outcome (m : M D) (rest : List D) : M D := outM oks (fun d => f__law_word [d]) m
theorem hp__law_outcome (a1 c1 : Addr) (q1 : Str) (ws : List (Option V)) (ds : List D) (m : M D) (rest : List D) (hr : rest.length = 0) (n : Nat) (Q : D → Nat → Prop) (E : D → Nat → Prop) (h : (ph__law_outcome m rest).run n Q E) : (DL.body (sg__law_outcome (.thk a1 c1 q1 ws ds) m) (stE 4 (.thk a1 c1 q1 ws ds :: rest))).run n Q E := by
  obtain rfl := List.length_eq_zero_iff.mp hr
  have e := out_ok oks f__law_word (.thk a1 c1 q1 ws ds) m
  show (DL.body (sOut oks f__law_word (.thk a1 c1 q1 ws ds) m) (stE 4 [.thk a1 c1 q1 ws ds])).run n Q E
  rw [e]; exact h
theorem gb__law_outcome {X : Cx} (Z : Zs X.mg) (ETry : Exc3 X.K X.mg oks "FoldError" "Nothing" "TooGreat") (G__law_word : Glo X.prog X.w X.K X.mg X.base 1 "_law_word" 1 f__law_word) : GBody X 21 "_law_outcome" "_law_call" ["_law_call", "_law_found", "_law_error", "e"] st__law_outcome sg__law_outcome := fun d0 m f cd R callers t H E kx act =>
  dss_cons (ds_unp (de_tup (da_cons (de_non) (da_cons (de_non) (da_nil)))) (dg_tupK (Kf := X.K) rfl rfl (dgs_cons (dg_name 1 sc__law_outcome.nd) (dgs_cons (dg_name 2 sc__law_outcome.nd) (dgs_nil))))) (dss_cons (ds_try3e 2 4 oks 3 kx ETry (fun W1 pn1 xe1 kx => dss_one (ds_asg 1 kx (act _ _ _ _ _ kx)))) (dss_one (ds_ret (de_if (dt_cmp op_isN od_isN (de_var 2) (de_non)) (de_lst (da_cons (de_var 1) (da_nil))) (de_call kx G__law_word (da_cons (de_var 2) (da_nil)))))))
/-! def _law_is -/
abbrev st__law_is : Stmt := top 35
theorem sc__law_is : FnScope ["_law_call", "_law_word_here", "_law_item", "_law_holds", "_law_heard", "_law_kept", "_law_due"] ["_law_call", "_law_word_here", "_law_item", "_law_holds"] (defScope st__law_is) := ⟨rfl, rfl, rfl, by decide +kernel, rfl, by decide +kernel, by decide +kernel⟩
def sg__law_is (d0 : D) (m : M D) : DStm :=
  sSeq (sPars [5, 6] (mVal (dCb gReprN (aCons (dVar 2) (aNil))) (mVal (dIf (dTst (dVar 3)) (dLst (aCons (dVar 2) (aNil))) (dTup (aCons (dVar 1) (aCons (dVar 2) (aNil))))) (mNil)))) (sSeq (sAsg 4 (dLst (aCons (dHand 0 d0 0 (ph__law_outcome m) (aNil)) (aCons (dHand 0 d0 0 (ph__law_outcome m) (aNil)) (aNil))))) (sRet (dAndV (dBin (gEq false) (dCb gReprN (aCons (dVar 4) (aNil))) (dCb gReprN (aCons (dLst (aCons (dVar 6) (aCons (dVar 6) (aNil)))) (aNil)))) (dBin (gEq false) (dCb gReprN (aCons (dVar 2) (aNil))) (dVar 5)))))
def ph__law_is (m : M D) (rest : List D) : M D := DL.body (sg__law_is (.thk 0 0 "" [] []) m) (stE 7 (.thk 0 0 "" [] [] :: rest))
theorem HPEQ__law_is (a1 c1 : Addr) (q1 : Str) (ws : List (Option V)) (ds : List D) (m : M D) (rest : List D) (hr : rest.length = 3) : DL.body (sg__law_is (.thk a1 c1 q1 ws ds) m) (stE 7 (.thk a1 c1 q1 ws ds :: rest)) = ph__law_is m rest := by
  obtain ⟨r0, r1, r2, rfl⟩ : ∃ r0 r1 r2, rest = [r0, r1, r2] := by match rest, hr with | [r0, r1, r2], _ => exact ⟨r0, r1, r2, rfl⟩
  unfold ph__law_is sg__law_is DL.body stE
  simp (maxSteps := 1000000) (disch := (first | exact trivial | assumption | (refine zz3 ?_; first | assumption | decide | ((try simp only [List.length_append, List.length_map, List.length_cons, List.length_nil, List.length_zip, List.length_drop, List.length_take, List.length_range, List.length_zipIdx, sg_len, rot_len]); omega)) | (refine zz4 ?_; first | assumption | decide | ((try simp only [List.length_append, List.length_map, List.length_cons, List.length_nil, List.length_zip, List.length_drop, List.length_take, List.length_range, List.length_zipIdx, sg_len, rot_len]); omega)) | decide)) only [x_seq, x_asg, x_cb, x_acons, x_anil, x_if, x_tst, x_bin, x_un, x_var, x_k, x_lst, x_tup, x_ret, x_skip, x_sl, x_osome, x_onone, x_astar, x_seqD_t, x_seqD_l, bnd_ret, bnd_bnd, List.getElem?_cons_succ, List.getElem?_cons_zero, List.set_cons_succ, List.set_cons_zero, Bool.false_eq_true, if_true, if_false, x_own, x_flst, x_for, x_ir1, x_ir2, x_lc, x_ival, x_items_l, x_items_t, x_app, x_peek, x_peekL, x_tpeek, x_frz, x_call, x_pars, x_mval, x_mown, x_mnil, x_sets0, x_sets1, x_unp, tg_two, x_and, x_or, x_not, x_andv, x_orv, x_notv, x_ife, x_drop, x_yes, x_wipe0, x_wipe1, x_lrg, x_ien, x_iz, List.map_cons, List.map_nil, List.cons_append, List.nil_append, List.length_cons, List.length_nil, List.replicate, noex_ret, need_of, x_hand, need_rfl]
theorem hp__law_is (a1 c1 : Addr) (q1 : Str) (ws : List (Option V)) (ds : List D) (m : M D) (rest : List D) (hr : rest.length = 3) (n : Nat) (Q : D → Nat → Prop) (E : D → Nat → Prop) (h : (ph__law_is m rest).run n Q E) : (DL.body (sg__law_is (.thk a1 c1 q1 ws ds) m) (stE 7 (.thk a1 c1 q1 ws ds :: rest))).run n Q E := by
  have e : DL.body (sg__law_is (.thk a1 c1 q1 ws ds) m) (stE 7 (.thk a1 c1 q1 ws ds :: rest)) = ph__law_is m rest := HPEQ__law_is a1 c1 q1 ws ds m rest hr
  rw [e]; exact h
theorem gb__law_is {X : Cx} (Z : Zs X.mg) (ETry : Exc3 X.K X.mg oks "FoldError" "Nothing" "TooGreat") (G__law_word : Glo X.prog X.w X.K X.mg X.base 1 "_law_word" 1 f__law_word) (Dg__law_outcome : Df X.K X.mg "_law_outcome" ["_law_call"] st__law_outcome) : GBody2 X 22 20 "_law_is" "_law_call" ["_law_call", "_law_word_here", "_law_item", "_law_holds", "_law_heard", "_law_kept", "_law_due"] st__law_is sg__law_is := fun d0 m f cd R callers t H E kx L =>
  dss_cons (ds_pars2 5 6 kx (ma_val (de_reprN Z.sys kx.rm.gd (units_ok kx) Z.n_repr (da_cons (de_var 2) (da_nil))) (ma_val (de_if (dt_val (de_var 3)) (de_lst (da_cons (de_var 2) (da_nil))) (de_tup (da_cons (de_var 1) (da_cons (de_var 2) (da_nil))))) (ma_nil)))) (dss_cons (ds_asg 4 kx (de_lst (da_cons (de_hand (k := 20) (kb := 21) kx (by decide) L rfl rfl rfl (.inl rfl) Dg__law_outcome sc__law_outcome rfl (GBody.two (gb__law_outcome Z ETry G__law_word) rfl (.inl rfl)) (fun a1 c1 q1 ws ds m rest hr n P E h => hp__law_outcome a1 c1 q1 ws ds m rest hr n P E h) (da_nil)) (da_cons (de_hand (k := 20) (kb := 21) kx (by decide) L rfl rfl rfl (.inl rfl) Dg__law_outcome sc__law_outcome rfl (GBody.two (gb__law_outcome Z ETry G__law_word) rfl (.inl rfl)) (fun a1 c1 q1 ws ds m rest hr n P E h => hp__law_outcome a1 c1 q1 ws ds m rest hr n P E h) (da_nil)) (da_nil))))) (dss_one (ds_ret (de_and (de_cmp (op_eqA (units_64 kx)) od_eq (de_reprN Z.sys kx.rm.gd (units_ok kx) Z.n_repr (da_cons (de_var 4) (da_nil))) (de_reprN Z.sys kx.rm.gd (units_ok kx) Z.n_repr (da_cons (de_lst (da_cons (de_var 6) (da_cons (de_var 6) (da_nil)))) (da_nil)))) (de_one (de_cmp (op_eqA (units_64 kx)) od_eq (de_reprN Z.sys kx.rm.gd (units_ok kx) Z.n_repr (da_cons (de_var 2) (da_nil))) (de_var 5)))))))
/-! def is_integer -/
abbrev st_is_integer : Stmt := top 16
theorem sc_is_integer : FnScope ["value"] ["value"] (defScope st_is_integer) := ⟨rfl, rfl, rfl, by decide +kernel, rfl, by decide +kernel, by decide +kernel⟩
theorem g_is_integer (Z : Zs mg) (D_ : Df K mg "is_integer" ["value"] st_is_integer) :
    Glo P w K mg base 1 "is_integer" 1 f_is_integer := D_.glo (k := 0) (s := s_is_integer) sc_is_integer rfl fun f cd R callers t H E kx =>
  dss_one (ds_ret (de_and (de_cb call_isi cd_isi Z.n_isinstance (da_cons (de_var 0) (da_cons (de_ty Z.n_int) (da_nil)))) (de_one (de_not (de_cb call_isi cd_isi Z.n_isinstance (da_cons (de_var 0) (da_cons (de_ty Z.n_bool) (da_nil))))))))
/-! def is_whole -/
abbrev st_is_whole : Stmt := top 17
theorem sc_is_whole : FnScope ["value", "least", "most"] ["value", "least", "most"] (defScope st_is_whole) := ⟨rfl, rfl, rfl, by decide +kernel, rfl, by decide +kernel, by decide +kernel⟩
theorem g_is_whole (Z : Zs mg) (D_ : Df K mg "is_whole" ["value", "least", "most"] st_is_whole) (G_is_integer : Glo P w K mg base 1 "is_integer" 1 f_is_integer) :
    Glo P w K mg base 2 "is_whole" 3 f_is_whole := D_.glo (k := 1) (s := s_is_whole) sc_is_whole rfl fun f cd R callers t H E kx =>
  dss_one (ds_ret (de_and (de_call kx G_is_integer (da_cons (de_var 0) (da_nil))) (de_one (de_chain op_le od_le op_le od_le (de_var 1) (de_var 0) (de_var 2)))))
/-! def is_corner -/
abbrev st_is_corner : Stmt := top 18
theorem sc_is_corner : FnScope ["value", "angle"] ["value"] (defScope st_is_corner) := ⟨rfl, rfl, rfl, by decide +kernel, rfl, by decide +kernel, by decide +kernel⟩
theorem g_is_corner (Z : Zs mg) (D_ : Df K mg "is_corner" ["value"] st_is_corner) (G_is_whole : Glo P w K mg base 2 "is_whole" 3 f_is_whole) :
    Glo P w K mg base 3 "is_corner" 1 f_is_corner := D_.glo (k := 2) (s := s_is_corner) sc_is_corner rfl fun f cd R callers t H E kx =>
  dss_cons (ds_if (dt_w (dw_or (dt_not (dt_val (de_cb call_isi cd_isi Z.n_isinstance (da_cons (de_var 0) (da_cons (de_ty Z.n_tuple) (da_nil)))))) (dw_or1 (dt_not (dt_chain op_le od_le op_le od_le (de_gintE Z.c_LEAST_SECTORS) (de_cb cb_len cd_len Z.n_len (da_cons (de_var 0) (da_nil))) (de_gintE Z.c_MOST_SECTORS)))))) (dss_one (ds_ret (de_bl))) (dss_nil)) (dss_one (ds_ret (de_and (de_cb (cr_all rfl) cd_all Z.n_all (da_cons (de_lc kx (own := [("angle", 1)]) (di_val (de_var 0)) (show BlkOk ["value", "angle"] (defScope st_is_corner) _ [("angle", 1)] from ⟨rfl, by decide +kernel, by decide +kernel, by decide +kernel, by decide +kernel⟩) (fun _ _ _ _ _ => dg_name 1 sc_is_corner.nd) (fun _ _ _ _ _ => dts_nil) (fun _ _ _ _ _ => de_call kx.blk G_is_whole (da_cons (de_var 1) (da_cons (de_int) (da_cons (de_gintE Z.c_MOST_SUM) (da_nil)))))) (da_nil))) (de_one (de_cmp op_le od_le (de_cb (cd_sum rfl) gd_sum Z.n_sum (da_cons (de_var 0) (da_nil))) (de_gintE Z.c_MOST_SUM))))))
/-! def need_corner -/
abbrev st_need_corner : Stmt := top 19
def s_need_corner : DStm :=
  sSeq (sIf (dNot (dTst (dCall 1 f_is_corner (aCons (dVar 0) (aNil))))) (sRaise "BadCorner" (dVar 0)) (sSkip)) (sRet (dVar 0))
def f_need_corner : Fn := fnOf (["value"] : List Str).length s_need_corner
theorem sc_need_corner : FnScope ["value"] ["value"] (defScope st_need_corner) := ⟨rfl, rfl, rfl, by decide +kernel, rfl, by decide +kernel, by decide +kernel⟩
theorem g_need_corner (Z : Zs mg) (D_ : Df K mg "need_corner" ["value"] st_need_corner) (G_is_corner : Glo P w K mg base 3 "is_corner" 1 f_is_corner) (R_BadCorner : Err P w K mg base "BadCorner") :
    Glo P w K mg base 4 "need_corner" 1 f_need_corner := D_.glo (k := 3) (s := s_need_corner) sc_need_corner rfl fun f cd R callers t H E kx =>
  dss_cons (ds_if (dt_not (dt_val (de_call kx G_is_corner (da_cons (de_var 0) (da_nil))))) (dss_one (ds_raise kx (by decide) R_BadCorner (de_var 0))) (dss_nil)) (dss_one (ds_ret (de_var 0)))
/-! def need_signs -/
abbrev st_need_signs : Stmt := top 20
def s_need_signs : DStm :=
  sSeq (sDrop (dCall 1 f_need_corner (aCons (dVar 0) (aNil)))) (sSeq (sIf (dOr (dNot (dTst (dCb gIsi (aCons (dVar 1) (aCons (dK (.ty "str")) (aNil)))))) (dTst (dBin (gEq true) (dCb gLen (aCons (dVar 1) (aNil))) (dCb gLen (aCons (dVar 0) (aNil)))))) (sRaise "BadSigns" (dVar 1)) (sSkip)) (sSeq (sIf (dNot (dTst (dCb gAll (aCons (dLc (iVal (dVar 1)) [2] (tgN 2) (cYes) (dBin (gIn false) (dVar 2) (dTup (aCons (dK (.str "M")) (aCons (dK (.str "V")) (aNil)))))) (aNil))))) (sRaise "BadSigns" (dVar 1)) (sSkip)) (sRet (dVar 1))))
def f_need_signs : Fn := fnOf (["corner", "value", "letter"] : List Str).length s_need_signs
theorem sc_need_signs : FnScope ["corner", "value", "letter"] ["corner", "value"] (defScope st_need_signs) := ⟨rfl, rfl, rfl, by decide +kernel, rfl, by decide +kernel, by decide +kernel⟩
theorem g_need_signs (Z : Zs mg) (D_ : Df K mg "need_signs" ["corner", "value"] st_need_signs) (G_need_corner : Glo P w K mg base 4 "need_corner" 1 f_need_corner) (R_BadSigns : Err P w K mg base "BadSigns") :
    Glo P w K mg base 5 "need_signs" 2 f_need_signs := D_.glo (k := 4) (s := s_need_signs) sc_need_signs rfl fun f cd R callers t H E kx =>
  dss_cons (ds_drop (de_call kx G_need_corner (da_cons (de_var 0) (da_nil)))) (dss_cons (ds_if (dt_w (dw_or (dt_not (dt_val (de_cb call_isi cd_isi Z.n_isinstance (da_cons (de_var 1) (da_cons (de_ty Z.n_str) (da_nil)))))) (dw_or1 (dt_cmp (op_neA (units_64 kx)) od_ne (de_cb cb_len cd_len Z.n_len (da_cons (de_var 1) (da_nil))) (de_cb cb_len cd_len Z.n_len (da_cons (de_var 0) (da_nil))))))) (dss_one (ds_raise kx (by decide) R_BadSigns (de_var 1))) (dss_nil)) (dss_cons (ds_if (dt_not (dt_val (de_cb (cr_all rfl) cd_all Z.n_all (da_cons (de_lc kx (own := [("letter", 2)]) (di_val (de_var 1)) (show BlkOk ["corner", "value", "letter"] (defScope st_need_signs) _ [("letter", 2)] from ⟨rfl, by decide +kernel, by decide +kernel, by decide +kernel, by decide +kernel⟩) (fun _ _ _ _ _ => dg_name 2 sc_need_signs.nd) (fun _ _ _ _ _ => dts_nil) (fun _ _ _ _ _ => de_cmp (op_inA (units_ok kx.blk)) od_in (de_var 2) (de_tup (da_cons (de_gstrE Z.c_MOUNTAIN) (da_cons (de_gstrE Z.c_VALLEY) (da_nil)))))) (da_nil))))) (dss_one (ds_raise kx (by decide) R_BadSigns (de_var 1))) (dss_nil)) (dss_one (ds_ret (de_var 1)))))
/-! def _law_hand_right -/
abbrev st__law_hand_right : Stmt := top 37
def s__law_hand_right : DStm :=
  sSeq (sAsg 0 (dLst (aCons (dTup (aCons (dTup (aCons (dK (.int 1)) (aCons (dK (.int 1)) (aNil)))) (aCons (dK (.bl true)) (aNil)))) (aCons (dTup (aCons (dTup (aCons (dK (.int 1)) (aNil))) (aCons (dK (.bl false)) (aNil)))) (aCons (dTup (aCons (dBin gMul (dTup (aCons (dK (.int 1)) (aNil))) (dK (.int 12))) (aCons (dK (.bl true)) (aNil)))) (aCons (dTup (aCons (dBin gMul (dTup (aCons (dK (.int 1)) (aNil))) (dK (.int 13))) (aCons (dK (.bl false)) (aNil)))) (aCons (dTup (aCons (dTup (aCons (dBin gSub (dBin gPow (dK (.int 10)) (dK (.int 30))) (dK (.int 1))) (aCons (dK (.int 1)) (aNil)))) (aCons (dK (.bl true)) (aNil)))) (aNil)))))))) (sSeq (sAsg 0 (dBin gAdd (dVar 0) (dLst (aCons (dTup (aCons (dTup (aCons (dBin gPow (dK (.int 10)) (dK (.int 30))) (aCons (dK (.int 1)) (aNil)))) (aCons (dK (.bl false)) (aNil)))) (aCons (dTup (aCons (dTup (aCons (dBin gPow (dK (.int 10)) (dK (.int 30))) (aNil))) (aCons (dK (.bl false)) (aNil)))) (aCons (dTup (aCons (dTup (aCons (dK (.int 0)) (aCons (dK (.int 1)) (aNil)))) (aCons (dK (.bl false)) (aNil)))) (aCons (dTup (aCons (dTup (aCons (dK (.int 1)) (aCons (dK (.bl true)) (aNil)))) (aCons (dK (.bl false)) (aNil)))) (aCons (dTup (aCons (dTup (aCons (dK (.int 1)) (aCons (dK (.str "1")) (aNil)))) (aCons (dK (.bl false)) (aNil)))) (aNil))))))))) (sSeq (sFor (iVal (dVar 0)) (tgT 2 (tgsCons (tgN 2) (tgsCons (tgN 3) (tgsNil)))) (sIf (dNot (dTst (dLam [2] 1 [] (dCall 1 f_need_corner (aCons (dVar 0) (aNil))) 3 ph__law_is (aCons (dK (.str "corner")) (aCons (dVar 2) (aCons (dVar 3) (aNil))))))) (sRet (dK (.bl false))) (sSkip))) (sSeq (sFor (iVal (dTup (aCons (dTup (aCons (dK (.str "MV")) (aCons (dK (.bl true)) (aNil)))) (aCons (dTup (aCons (dK (.str "VV")) (aCons (dK (.bl true)) (aNil)))) (aCons (dTup (aCons (dK (.str "mv")) (aCons (dK (.bl false)) (aNil)))) (aCons (dTup (aCons (dK (.str "M")) (aCons (dK (.bl false)) (aNil)))) (aCons (dTup (aCons (dK (.str "MVM")) (aCons (dK (.bl false)) (aNil)))) (aCons (dTup (aCons (dTup (aCons (dK (.str "M")) (aCons (dK (.str "V")) (aNil)))) (aCons (dK (.bl false)) (aNil)))) (aNil))))))))) (tgT 2 (tgsCons (tgN 2) (tgsCons (tgN 3) (tgsNil)))) (sIf (dNot (dTst (dLam [2] 1 [] (dCall 2 f_need_signs (aCons (dTup (aCons (dK (.int 1)) (aCons (dK (.int 1)) (aNil)))) (aCons (dVar 0) (aNil)))) 3 ph__law_is (aCons (dK (.str "signs")) (aCons (dVar 2) (aCons (dVar 3) (aNil))))))) (sRet (dK (.bl false))) (sSkip))) (sSeq (sAsg 1 (dLst (aCons (dLam [] 0 [] (dCall 2 f_need_signs (aCons (dTup (aCons (dK (.int 1)) (aNil))) (aCons (dK (.str "M")) (aNil)))) 0 ph__law_outcome aNil) (aCons (dLam [] 1 [.int 0] (dCall 2 f_need_signs (aCons (dK .non) (aCons (dK .non) (aNil)))) 0 ph__law_outcome aNil) (aNil))))) (sRet (dBin (gEq false) (dVar 1) (dLst (aCons (dTup (aCons (dK (.str "corner")) (aCons (dTup (aCons (dK (.int 1)) (aNil))) (aNil)))) (aCons (dTup (aCons (dK (.str "corner")) (aCons (dK .non) (aNil)))) (aNil))))))))))
def f__law_hand_right : Fn := fnOf (["_law_rows", "_law_heard", "_law_item", "_law_holds"] : List Str).length s__law_hand_right
theorem sc__law_hand_right : FnScope ["_law_rows", "_law_heard", "_law_item", "_law_holds"] [] (defScope st__law_hand_right) := ⟨rfl, rfl, rfl, by decide +kernel, rfl, by decide +kernel, by decide +kernel⟩
theorem g__law_hand_right (Z : Zs mg) (G_need_corner : Glo P w K mg base 4 "need_corner" 1 f_need_corner) (G_need_signs : Glo P w K mg base 5 "need_signs" 2 f_need_signs) (G__law_word : Glo P w K mg base 1 "_law_word" 1 f__law_word) (Dg__law_is : Df K mg "_law_is" ["_law_call", "_law_word_here", "_law_item", "_law_holds"] st__law_is) (Dg__law_outcome : Df K mg "_law_outcome" ["_law_call"] st__law_outcome) (ETry : Exc3 K mg oks "FoldError" "Nothing" "TooGreat") {C_ P_ : Addr} (TB : LamX.TabB base mg C_ P_) (TM : (P_, (envOfC "_law_hand_right" (defScope st__law_hand_right) 0 0 Value.none).qual ++ "<lambda>") ∈ Tb.tabs) (D_ : DfC K mg "_law_hand_right" [] st__law_hand_right C_) :
    Glo P w K mg base 24 "_law_hand_right" 0 f__law_hand_right := D_.glo (k := 23) (s := s__law_hand_right) sc__law_hand_right rfl fun f R callers t H E kx =>
  dss_cons (ds_asg 0 kx (de_lst (da_cons (de_tup (da_cons (de_tup (da_cons (de_int) (da_cons (de_int) (da_nil)))) (da_cons (de_bl) (da_nil)))) (da_cons (de_tup (da_cons (de_tup (da_cons (de_int) (da_nil))) (da_cons (de_bl) (da_nil)))) (da_cons (de_tup (da_cons (de_bin op_mulA od_mul (de_tup (da_cons (de_int) (da_nil))) (de_int)) (da_cons (de_bl) (da_nil)))) (da_cons (de_tup (da_cons (de_bin op_mulA od_mul (de_tup (da_cons (de_int) (da_nil))) (de_int)) (da_cons (de_bl) (da_nil)))) (da_cons (de_tup (da_cons (de_tup (da_cons (de_bin op_sub od_sub (de_bin op_pow od_pow (de_int) (de_int)) (de_int)) (da_cons (de_int) (da_nil)))) (da_cons (de_bl) (da_nil)))) (da_nil)))))))) (dss_cons (ds_asg 0 kx (de_bin op_addA od_add (de_var 0) (de_lst (da_cons (de_tup (da_cons (de_tup (da_cons (de_bin op_pow od_pow (de_int) (de_int)) (da_cons (de_int) (da_nil)))) (da_cons (de_bl) (da_nil)))) (da_cons (de_tup (da_cons (de_tup (da_cons (de_bin op_pow od_pow (de_int) (de_int)) (da_nil))) (da_cons (de_bl) (da_nil)))) (da_cons (de_tup (da_cons (de_tup (da_cons (de_int) (da_cons (de_int) (da_nil)))) (da_cons (de_bl) (da_nil)))) (da_cons (de_tup (da_cons (de_tup (da_cons (de_int) (da_cons (de_bl) (da_nil)))) (da_cons (de_bl) (da_nil)))) (da_cons (de_tup (da_cons (de_tup (da_cons (de_int) (da_cons (de_str) (da_nil)))) (da_cons (de_bl) (da_nil)))) (da_nil))))))))) (dss_cons (ds_for kx (di_val (de_var 0)) (dg_tupK (Kf := K) rfl rfl (dgs_cons (dg_name 2 sc__law_hand_right.nd) (dgs_cons (dg_name 3 sc__law_hand_right.nd) (dgs_nil)))) (dss_one (ds_if (dt_not (dt_val (de_lam2 (k := 20) (kb := 22) (fr := (["_law_item"] : List Str)) (NL := (["_law_item"] : List Str)) (ds0 := []) (φ := ph__law_is) kx (by decide) (lam_mk0 ⟨_, _, rfl, TB, TM⟩ (by show ∀ y : Str × NameKind, y ∈ _ → y.2 = NameKind.free → (defScope st__law_hand_right).names.lookup y.1 = some .cell ∨ (defScope st__law_hand_right).names.lookup y.1 = some .free; decide +kernel) rfl (fun _ _ _ _ _ _ => rfl)) (NdefX.nscope_by (by decide +kernel)) rfl (fun _ _ => .nil) (by show ∀ y : Str × NameKind, y ∈ _ → y.2 = NameKind.free → (defScope st__law_hand_right).names.lookup y.1 = some .cell ∨ (defScope st__law_hand_right).names.lookup y.1 = some .free; decide +kernel) (by decide +kernel) rfl (fun c1 f1 A1 o1 s1 H1 E1 kx => de_call kx G_need_corner (da_cons (de_var 0) (da_nil))) Dg__law_is sc__law_is rfl (gb__law_is Z ETry G__law_word Dg__law_outcome) (fun a1 c1 q1 ws ds m rest hr n P E h => hp__law_is a1 c1 q1 ws ds m rest hr n P E h) (da_cons (de_str) (da_cons (de_var 2) (da_cons (de_var 3) (da_nil))))))) (dss_one (ds_ret (de_bl))) (dss_nil)))) (dss_cons (ds_for kx (di_val (de_tup (da_cons (de_tup (da_cons (de_str) (da_cons (de_bl) (da_nil)))) (da_cons (de_tup (da_cons (de_str) (da_cons (de_bl) (da_nil)))) (da_cons (de_tup (da_cons (de_str) (da_cons (de_bl) (da_nil)))) (da_cons (de_tup (da_cons (de_str) (da_cons (de_bl) (da_nil)))) (da_cons (de_tup (da_cons (de_str) (da_cons (de_bl) (da_nil)))) (da_cons (de_tup (da_cons (de_tup (da_cons (de_str) (da_cons (de_str) (da_nil)))) (da_cons (de_bl) (da_nil)))) (da_nil))))))))) (dg_tupK (Kf := K) rfl rfl (dgs_cons (dg_name 2 sc__law_hand_right.nd) (dgs_cons (dg_name 3 sc__law_hand_right.nd) (dgs_nil)))) (dss_one (ds_if (dt_not (dt_val (de_lam2 (k := 20) (kb := 22) (fr := (["_law_item"] : List Str)) (NL := (["_law_item"] : List Str)) (ds0 := []) (φ := ph__law_is) kx (by decide) (lam_mk0 ⟨_, _, rfl, TB, TM⟩ (by show ∀ y : Str × NameKind, y ∈ _ → y.2 = NameKind.free → (defScope st__law_hand_right).names.lookup y.1 = some .cell ∨ (defScope st__law_hand_right).names.lookup y.1 = some .free; decide +kernel) rfl (fun _ _ _ _ _ _ => rfl)) (NdefX.nscope_by (by decide +kernel)) rfl (fun _ _ => .nil) (by show ∀ y : Str × NameKind, y ∈ _ → y.2 = NameKind.free → (defScope st__law_hand_right).names.lookup y.1 = some .cell ∨ (defScope st__law_hand_right).names.lookup y.1 = some .free; decide +kernel) (by decide +kernel) rfl (fun c1 f1 A1 o1 s1 H1 E1 kx => de_call kx G_need_signs (da_cons (de_tup (da_cons (de_int) (da_cons (de_int) (da_nil)))) (da_cons (de_var 0) (da_nil)))) Dg__law_is sc__law_is rfl (gb__law_is Z ETry G__law_word Dg__law_outcome) (fun a1 c1 q1 ws ds m rest hr n P E h => hp__law_is a1 c1 q1 ws ds m rest hr n P E h) (da_cons (de_str) (da_cons (de_var 2) (da_cons (de_var 3) (da_nil))))))) (dss_one (ds_ret (de_bl))) (dss_nil)))) (dss_cons (ds_asg 1 kx (de_lst (da_cons (de_lam (k := 20) (fr := ([] : List Str)) (NL := ([] : List Str)) (ds0 := []) (φ := ph__law_outcome) kx (by decide) (lam_mk0 ⟨_, _, rfl, TB, TM⟩ (by show ∀ y : Str × NameKind, y ∈ _ → y.2 = NameKind.free → (defScope st__law_hand_right).names.lookup y.1 = some .cell ∨ (defScope st__law_hand_right).names.lookup y.1 = some .free; decide +kernel) rfl (fun _ _ _ _ _ _ => rfl)) (NdefX.nscope_by (by decide +kernel)) rfl (fun _ _ => .nil) (by show ∀ y : Str × NameKind, y ∈ _ → y.2 = NameKind.free → (defScope st__law_hand_right).names.lookup y.1 = some .cell ∨ (defScope st__law_hand_right).names.lookup y.1 = some .free; decide +kernel) (by decide +kernel) rfl (fun c1 f1 A1 o1 s1 H1 E1 kx => de_call kx G_need_signs (da_cons (de_tup (da_cons (de_int) (da_nil))) (da_cons (de_str) (da_nil)))) Dg__law_outcome sc__law_outcome rfl (.inl rfl) (gb__law_outcome Z ETry G__law_word) (fun a1 c1 q1 ws ds m rest hr n P E h => hp__law_outcome a1 c1 q1 ws ds m rest hr n P E h) da_nil) (da_cons (de_lam (k := 20) (fr := ([] : List Str)) (NL := (["_law_a"] : List Str)) (ds0 := [.int 0]) (φ := ph__law_outcome) kx (by decide) (lam_mk1 (y := "_law_a") (i := 0) ⟨_, _, rfl, TB, TM⟩ (by show ∀ y : Str × NameKind, y ∈ _ → y.2 = NameKind.free → (defScope st__law_hand_right).names.lookup y.1 = some .cell ∨ (defScope st__law_hand_right).names.lookup y.1 = some .free; decide +kernel) rfl rfl (fun _ _ _ _ _ _ _ => ⟨_, rfl, fun _ => rfl⟩)) (NdefX.nscope_by (by decide +kernel)) rfl (fun _ _ => .cons (.int _) .nil) (by show ∀ y : Str × NameKind, y ∈ _ → y.2 = NameKind.free → (defScope st__law_hand_right).names.lookup y.1 = some .cell ∨ (defScope st__law_hand_right).names.lookup y.1 = some .free; decide +kernel) (by decide +kernel) rfl (fun c1 f1 A1 o1 s1 H1 E1 kx => de_call kx G_need_signs (da_cons (de_non) (da_cons (de_non) (da_nil)))) Dg__law_outcome sc__law_outcome rfl (.inl rfl) (gb__law_outcome Z ETry G__law_word) (fun a1 c1 q1 ws ds m rest hr n P E h => hp__law_outcome a1 c1 q1 ws ds m rest hr n P E h) da_nil) (da_nil))))) (dss_one (ds_ret (de_cmp (op_eqA (units_64 kx)) od_eq (de_var 1) (de_lst (da_cons (de_tup (da_cons (de_str) (da_cons (de_tup (da_cons (de_int) (da_nil))) (da_nil)))) (da_cons (de_tup (da_cons (de_str) (da_cons (de_non) (da_nil)))) (da_nil)))))))))))
/-! def _law_draw -/
abbrev st__law_draw : Stmt := top 23
def s__law_draw : DStm :=
  sSeq (sIf (dTst (dBin gGt (dRg rngL (dVar 0)) (dK (.int 0)))) (sSeq (sAsg 5 (dBin gMod (dCb gInt (aCons (dRg rngL (dVar 0)) (aNil))) (dVar 1))) (sSeq (sRg tickL (dVar 0) (dBin gFdiv (dRg rngL (dVar 0)) (dVar 1))) (sRet (dVar 5)))) (sSkip)) (sSeq (sAsg 2 (dBin gAdd (dRg rngK (dVar 0)) (dK (.int 1)))) (sSeq (sRg tickK (dVar 0) (dVar 2)) (sSeq (sAsg 3 (dBin gIx (dRg rngC (dVar 0)) (dBin gMod (dCb gInt (aCons (dVar 2) (aNil))) (dCb gLen (aCons (dRg rngC (dVar 0)) (aNil)))))) (sSeq (sAsg 4 (dBin gMul (dCb gInt (aCons (dBin gAdd (dBin gAdd (dBin gMod (dCb gInt (aCons (dVar 3) (aNil))) (dK (.int 2147483629))) (dBin gMul (dK (.int 6133)) (dVar 2))) (dBin gMul (dBin gMul (dK (.int 23)) (dVar 2)) (dVar 2))) (aNil))) (dK (.int 48271)))) (sSeq (sAsg 4 (dBin gMul (dCb gInt (aCons (dBin gAdd (dBin gMod (dCb gInt (aCons (dVar 4) (aNil))) (dK (.int 2147483647))) (dBin gMul (dK (.int 93241)) (dVar 2))) (aNil))) (dK (.int 69621)))) (sRet (dBin gMod (dCb gInt (aCons (dBin gFdiv (dBin gMod (dCb gInt (aCons (dVar 4) (aNil))) (dK (.int 2147483587))) (dK (.int 13))) (aNil))) (dVar 1))))))))
def f__law_draw : Fn := fnOf (["_law_m", "_law_limit", "_law_spot", "_law_cell", "_law_mixed", "_law_found"] : List Str).length s__law_draw
theorem sc__law_draw : FnScope ["_law_m", "_law_limit", "_law_spot", "_law_cell", "_law_mixed", "_law_found"] ["_law_m", "_law_limit"] (defScope st__law_draw) := ⟨rfl, rfl, rfl, by decide +kernel, rfl, by decide +kernel, by decide +kernel⟩
theorem g__law_draw (Z : Zs mg) (D_ : Df K mg "_law_draw" ["_law_m", "_law_limit"] st__law_draw) :
    Glo P w K mg base 1 "_law_draw" 2 f__law_draw := D_.glo (k := 0) (s := s__law_draw) sc__law_draw rfl fun f cd R callers t H E kx =>
  dss_cons (ds_if (dt_cmp op_gt od_gt (de_rngL kx (de_var 0)) (de_int)) (dss_cons (ds_asg 5 kx (de_bin op_mod od_mod (de_ct call_int1 cd_int Z.n_int (da_cons (de_rngL kx (de_var 0)) (da_nil))) (de_var 1))) (dss_cons (ds_rngL kx (de_var 0) (de_bin op_fdivW od_fdiv (de_rngL kx (de_var 0)) (de_var 1))) (dss_one (ds_ret (de_var 5))))) (dss_nil)) (dss_cons (ds_asg 2 kx (de_bin op_addA od_add (de_rngK kx (de_var 0)) (de_int))) (dss_cons (ds_rngK kx (de_var 0) (de_var 2)) (dss_cons (ds_asg 3 kx (de_ix (de_rngC kx (de_var 0)) (de_bin op_mod od_mod (de_ct call_int1 cd_int Z.n_int (da_cons (de_var 2) (da_nil))) (de_cb cb_len cd_len Z.n_len (da_cons (de_rngC kx (de_var 0)) (da_nil)))))) (dss_cons (ds_asg 4 kx (de_bin op_mulA od_mul (de_ct call_int1 cd_int Z.n_int (da_cons (de_bin op_addA od_add (de_bin op_addA od_add (de_bin op_mod od_mod (de_ct call_int1 cd_int Z.n_int (da_cons (de_var 3) (da_nil))) (de_int)) (de_bin op_mulA od_mul (de_int) (de_var 2))) (de_bin op_mulA od_mul (de_bin op_mulA od_mul (de_int) (de_var 2)) (de_var 2))) (da_nil))) (de_int))) (dss_cons (ds_asg 4 kx (de_bin op_mulA od_mul (de_ct call_int1 cd_int Z.n_int (da_cons (de_bin op_addA od_add (de_bin op_mod od_mod (de_ct call_int1 cd_int Z.n_int (da_cons (de_var 4) (da_nil))) (de_int)) (de_bin op_mulA od_mul (de_int) (de_var 2))) (da_nil))) (de_int))) (dss_one (ds_ret (de_bin op_mod od_mod (de_ct call_int1 cd_int Z.n_int (da_cons (de_bin op_fdivW od_fdiv (de_bin op_mod od_mod (de_ct call_int1 cd_int Z.n_int (da_cons (de_var 4) (da_nil))) (de_int)) (de_int)) (da_nil))) (de_var 1)))))))))
theorem h__law_draw (Z : Zs mg) (D_ : Df K mg "_law_draw" ["_law_m", "_law_limit"] st__law_draw) : Glo P w K mg base 1 "_law_draw" 2 gDraw := (g__law_draw Z D_).imp draw19
/-! def _law_any -/
abbrev st__law_any : Stmt := top 26
theorem sc__law_any : FnScope ["_law_m", "_law_many", "_law_most", "_law_k"] ["_law_m", "_law_many", "_law_most"] (defScope st__law_any) := ⟨rfl, rfl, rfl, by decide +kernel, rfl, by decide +kernel, by decide +kernel⟩
theorem g__law_any (Z : Zs mg) (D_ : Df K mg "_law_any" ["_law_m", "_law_many", "_law_most"] st__law_any) (G__law_draw : Glo P w K mg base 1 "_law_draw" 2 gDraw) :
    Glo P w K mg base 2 "_law_any" 3 f__law_any := D_.glo (k := 1) (s := s__law_any) sc__law_any rfl fun f cd R callers t H E kx =>
  dss_one (ds_ret (de_ct call_tuple_of cd_tuple Z.n_tuple (da_cons (de_lc kx (own := [("_law_k", 3)]) (di_range1 Z.n_range (da_cons (de_var 1) (da_nil))) (show BlkOk ["_law_m", "_law_many", "_law_most", "_law_k"] (defScope st__law_any) _ [("_law_k", 3)] from ⟨rfl, by decide +kernel, by decide +kernel, by decide +kernel, by decide +kernel⟩) (fun _ _ _ _ _ => dg_name 3 sc__law_any.nd) (fun _ _ _ _ _ => dts_nil) (fun _ _ _ _ _ => de_bin op_addA od_add (de_int) (de_call kx.blk G__law_draw (da_cons (de_var 0) (da_cons (de_var 2) (da_nil)))))) (da_nil))))
/-! def _law_of -/
abbrev st__law_of : Stmt := top 24
theorem sc__law_of : FnScope ["_law_m", "_law_some"] ["_law_m", "_law_some"] (defScope st__law_of) := ⟨rfl, rfl, rfl, by decide +kernel, rfl, by decide +kernel, by decide +kernel⟩
theorem g__law_of (Z : Zs mg) (D_ : Df K mg "_law_of" ["_law_m", "_law_some"] st__law_of) (G__law_draw : Glo P w K mg base 1 "_law_draw" 2 gDraw) :
    Glo P w K mg base 2 "_law_of" 2 f__law_of := D_.glo (k := 1) (s := s__law_of) sc__law_of rfl fun f cd R callers t H E kx =>
  dss_one (ds_ret (de_ix (de_var 1) (de_call kx G__law_draw (da_cons (de_var 0) (da_cons (de_cb cb_len cd_len Z.n_len (da_cons (de_var 1) (da_nil))) (da_nil))))))
/-! def _law_odd -/
abbrev st__law_odd : Stmt := top 30
def s__law_odd : DStm :=
  sSeq (sAsg 1 (dLst (aCons (dK .non) (aCons (dK (.bl true)) (aCons (dK (.bl false)) (aCons (dK (.int 0)) (aCons (dK (.int 1)) (aCons (dK (.int 60)) (aCons (dUn gNeg (dK (.int 1))) (aCons (dBin gPow (dK (.int 10)) (dK (.int 30))) (aCons (dBin gPow (dK (.int 10)) (dK (.int 40))) (aCons (dK (.str "")) (aCons (dK (.str "M")) (aCons (dK (.str "MV")) (aCons (dTup (aNil)) (aCons (dTup (aCons (dK (.int 1)) (aNil))) (aCons (dLst (aNil)) (aCons (dLst (aCons (dK (.int 60)) (aCons (dK (.int 60)) (aNil)))) (aCons (dDct0) (aCons (dTup (aCons (dK (.int 60)) (aCons (dK (.int 60)) (aNil)))) (aCons (dK (.str "MM")) (aNil)))))))))))))))))))))) (sRet (dCall 2 f__law_of (aCons (dVar 0) (aCons (dVar 1) (aNil)))))
def f__law_odd : Fn := fnOf (["_law_m", "_law_some"] : List Str).length s__law_odd
theorem sc__law_odd : FnScope ["_law_m", "_law_some"] ["_law_m"] (defScope st__law_odd) := ⟨rfl, rfl, rfl, by decide +kernel, rfl, by decide +kernel, by decide +kernel⟩
theorem g__law_odd (Z : Zs mg) (D_ : Df K mg "_law_odd" ["_law_m"] st__law_odd) (G__law_of : Glo P w K mg base 2 "_law_of" 2 f__law_of) :
    Glo P w K mg base 3 "_law_odd" 1 f__law_odd := D_.glo (k := 2) (s := s__law_odd) sc__law_odd rfl fun f cd R callers t H E kx =>
  dss_cons (ds_asg 1 kx (de_lst (da_cons (de_non) (da_cons (de_bl) (da_cons (de_bl) (da_cons (de_int) (da_cons (de_int) (da_cons (de_int) (da_cons (de_un un_neg ud_neg (de_int)) (da_cons (de_bin op_pow od_pow (de_int) (de_int)) (da_cons (de_bin op_pow od_pow (de_int) (de_int)) (da_cons (de_str) (da_cons (de_str) (da_cons (de_str) (da_cons (de_tup (da_nil)) (da_cons (de_tup (da_cons (de_int) (da_nil))) (da_cons (de_lst (da_nil)) (da_cons (de_lst (da_cons (de_int) (da_cons (de_int) (da_nil)))) (da_cons (de_dct0) (da_cons (de_tup (da_cons (de_int) (da_cons (de_int) (da_nil)))) (da_cons (de_str) (da_nil)))))))))))))))))))))) (dss_one (ds_ret (de_call kx G__law_of (da_cons (de_var 0) (da_cons (de_var 1) (da_nil))))))
/-! def _law_near -/
abbrev st__law_near : Stmt := top 31
def s__law_near : DStm :=
  sSeq (sAsg 1 (dBin gAdd (dK (.int 2)) (dCall 2 gDraw (aCons (dVar 0) (aCons (dK (.int 11)) (aNil)))))) (sSeq (sAsg 2 (dCall 3 f__law_any (aCons (dVar 0) (aCons (dVar 1) (aCons (dK (.int 40)) (aNil)))))) (sSeq (sAsg 3 (dCall 2 gDraw (aCons (dVar 0) (aCons (dVar 1) (aNil))))) (sSeq (sAsg 4 (dBin gAdd (dBin gAdd (dSl (dVar 2) (oNone) (oSome (dVar 3))) (dTup (aCons (dCall 2 f__law_of (aCons (dVar 0) (aCons (dLst (aCons (dK (.int 0)) (aCons (dUn gNeg (dK (.int 1))) (aCons (dK (.bl true)) (aCons (dK .non) (aCons (dK (.str "6")) (aCons (dBin gPow (dK (.int 10)) (dK (.int 30))) (aCons (dTup (aCons (dK (.int 6)) (aNil))) (aCons (dK (.int 1)) (aNil)))))))))) (aNil)))) (aNil)))) (dSl (dVar 2) (oSome (dBin gAdd (dVar 3) (dK (.int 1)))) (oNone)))) (sRet (dCall 2 f__law_of (aCons (dVar 0) (aCons (dLst (aCons (dVar 2) (aCons (dVar 2) (aCons (dVar 4) (aCons (dVar 4) (aCons (dSl (dVar 2) (oNone) (oSome (dK (.int 1)))) (aCons (dBin gAdd (dVar 2) (dVar 2)) (aCons (dCb gList (aCons (dVar 2) (aNil))) (aCons (dBin gAdd (dTup (aCons (dBin gPow (dK (.int 10)) (dK (.int 30))) (aNil))) (dSl (dVar 2) (oSome (dK (.int 1))) (oNone))) (aNil)))))))))) (aNil))))))))
def f__law_near : Fn := fnOf (["_law_m", "_law_many", "_law_row", "_law_spot", "_law_bent"] : List Str).length s__law_near
theorem sc__law_near : FnScope ["_law_m", "_law_many", "_law_row", "_law_spot", "_law_bent"] ["_law_m"] (defScope st__law_near) := ⟨rfl, rfl, rfl, by decide +kernel, rfl, by decide +kernel, by decide +kernel⟩
theorem g__law_near (Z : Zs mg) (D_ : Df K mg "_law_near" ["_law_m"] st__law_near) (G__law_any : Glo P w K mg base 2 "_law_any" 3 f__law_any) (G__law_draw : Glo P w K mg base 1 "_law_draw" 2 gDraw) (G__law_of : Glo P w K mg base 2 "_law_of" 2 f__law_of) :
    Glo P w K mg base 3 "_law_near" 1 f__law_near := D_.glo (k := 2) (s := s__law_near) sc__law_near rfl fun f cd R callers t H E kx =>
  dss_cons (ds_asg 1 kx (de_bin op_addA od_add (de_int) (de_call kx G__law_draw (da_cons (de_var 0) (da_cons (de_int) (da_nil)))))) (dss_cons (ds_asg 2 kx (de_call kx G__law_any (da_cons (de_var 0) (da_cons (de_var 1) (da_cons (de_int) (da_nil)))))) (dss_cons (ds_asg 3 kx (de_call kx G__law_draw (da_cons (de_var 0) (da_cons (de_var 1) (da_nil))))) (dss_cons (ds_asg 4 kx (de_bin op_addA od_add (de_bin op_addA od_add (de_sl (de_var 2) (do_none) (do_some (de_var 3))) (de_tup (da_cons (de_call kx G__law_of (da_cons (de_var 0) (da_cons (de_lst (da_cons (de_int) (da_cons (de_un un_neg ud_neg (de_int)) (da_cons (de_bl) (da_cons (de_non) (da_cons (de_str) (da_cons (de_bin op_pow od_pow (de_int) (de_int)) (da_cons (de_tup (da_cons (de_int) (da_nil))) (da_cons (de_int) (da_nil)))))))))) (da_nil)))) (da_nil)))) (de_sl (de_var 2) (do_some (de_bin op_addA od_add (de_var 3) (de_int))) (do_none)))) (dss_one (ds_ret (de_call kx G__law_of (da_cons (de_var 0) (da_cons (de_lst (da_cons (de_var 2) (da_cons (de_var 2) (da_cons (de_var 4) (da_cons (de_var 4) (da_cons (de_sl (de_var 2) (do_none) (do_some (de_int))) (da_cons (de_bin op_addA od_add (de_var 2) (de_var 2)) (da_cons (de_ct call_list_of cd_list Z.n_list (da_cons (de_var 2) (da_nil))) (da_cons (de_bin op_addA od_add (de_tup (da_cons (de_bin op_pow od_pow (de_int) (de_int)) (da_nil))) (de_sl (de_var 2) (do_some (de_int)) (do_none))) (da_nil)))))))))) (da_nil)))))))))
/-! def _law_letters -/
abbrev st__law_letters : Stmt := top 27
theorem sc__law_letters : FnScope ["_law_m", "_law_many", "_law_k"] ["_law_m", "_law_many"] (defScope st__law_letters) := ⟨rfl, rfl, rfl, by decide +kernel, rfl, by decide +kernel, by decide +kernel⟩
theorem g__law_letters (Z : Zs mg) (D_ : Df K mg "_law_letters" ["_law_m", "_law_many"] st__law_letters) (G__law_of : Glo P w K mg base 2 "_law_of" 2 f__law_of) :
    Glo P w K mg base 3 "_law_letters" 2 f__law_letters := D_.glo (k := 2) (s := s__law_letters) sc__law_letters rfl fun f cd R callers t H E kx =>
  dss_one (ds_ret (de_join (de_str) (de_lc kx (own := [("_law_k", 2)]) (di_range1 Z.n_range (da_cons (de_var 1) (da_nil))) (show BlkOk ["_law_m", "_law_many", "_law_k"] (defScope st__law_letters) _ [("_law_k", 2)] from ⟨rfl, by decide +kernel, by decide +kernel, by decide +kernel, by decide +kernel⟩) (fun _ _ _ _ _ => dg_name 2 sc__law_letters.nd) (fun _ _ _ _ _ => dts_nil) (fun _ _ _ _ _ => de_call kx.blk G__law_of (da_cons (de_var 0) (da_cons (de_lst (da_cons (de_str) (da_cons (de_str) (da_nil)))) (da_nil)))))))
/-! def _law_text -/
abbrev st__law_text : Stmt := top 32
def s__law_text : DStm :=
  sSeq (sAsg 2 (dCall 2 f__law_letters (aCons (dVar 0) (aCons (dVar 1) (aNil))))) (sSeq (sAsg 3 (dCall 2 gDraw (aCons (dVar 0) (aCons (dVar 1) (aNil))))) (sSeq (sAsg 4 (dBin gAdd (dBin gAdd (dSl (dVar 2) (oNone) (oSome (dVar 3))) (dCall 2 f__law_of (aCons (dVar 0) (aCons (dLst (aCons (dK (.str "m")) (aCons (dK (.str "?")) (aCons (dK (.str " ")) (aCons (dK (.str "")) (aCons (dK (.str "VV")) (aCons (dK (.str "M\n")) (aNil)))))))) (aNil))))) (dSl (dVar 2) (oSome (dBin gAdd (dVar 3) (dK (.int 1)))) (oNone)))) (sRet (dCall 2 f__law_of (aCons (dVar 0) (aCons (dLst (aCons (dVar 2) (aCons (dVar 2) (aCons (dVar 4) (aCons (dVar 4) (aCons (dBin gAdd (dVar 2) (dK (.str "M"))) (aCons (dSl (dVar 2) (oSome (dK (.int 1))) (oNone)) (aCons (dCb gListX (aCons (dVar 2) (aNil))) (aCons (dCb gTupleX (aCons (dVar 2) (aNil))) (aNil)))))))))) (aNil)))))))
def f__law_text : Fn := fnOf (["_law_m", "_law_many", "_law_text_here", "_law_spot", "_law_bent"] : List Str).length s__law_text
theorem sc__law_text : FnScope ["_law_m", "_law_many", "_law_text_here", "_law_spot", "_law_bent"] ["_law_m", "_law_many"] (defScope st__law_text) := ⟨rfl, rfl, rfl, by decide +kernel, rfl, by decide +kernel, by decide +kernel⟩
theorem g__law_text (Z : Zs mg) (D_ : Df K mg "_law_text" ["_law_m", "_law_many"] st__law_text) (G__law_draw : Glo P w K mg base 1 "_law_draw" 2 gDraw) (G__law_letters : Glo P w K mg base 3 "_law_letters" 2 f__law_letters) (G__law_of : Glo P w K mg base 2 "_law_of" 2 f__law_of) :
    Glo P w K mg base 4 "_law_text" 2 f__law_text := D_.glo (k := 3) (s := s__law_text) sc__law_text rfl fun f cd R callers t H E kx =>
  dss_cons (ds_asg 2 kx (de_call kx G__law_letters (da_cons (de_var 0) (da_cons (de_var 1) (da_nil))))) (dss_cons (ds_asg 3 kx (de_call kx G__law_draw (da_cons (de_var 0) (da_cons (de_var 1) (da_nil))))) (dss_cons (ds_asg 4 kx (de_bin op_addA od_add (de_bin op_addA od_add (de_sl (de_var 2) (do_none) (do_some (de_var 3))) (de_call kx G__law_of (da_cons (de_var 0) (da_cons (de_lst (da_cons (de_str) (da_cons (de_str) (da_cons (de_str) (da_cons (de_str) (da_cons (de_str) (da_cons (de_str) (da_nil)))))))) (da_nil))))) (de_sl (de_var 2) (do_some (de_bin op_addA od_add (de_var 3) (de_int))) (do_none)))) (dss_one (ds_ret (de_call kx G__law_of (da_cons (de_var 0) (da_cons (de_lst (da_cons (de_var 2) (da_cons (de_var 2) (da_cons (de_var 4) (da_cons (de_var 4) (da_cons (de_bin op_addA od_add (de_var 2) (de_str)) (da_cons (de_sl (de_var 2) (do_some (de_int)) (do_none)) (da_cons (de_ct (call_list_X kx.calm) cd_listX Z.n_list (da_cons (de_var 2) (da_nil))) (da_cons (de_ct (call_tuple_X kx.calm) cd_tupleX Z.n_tuple (da_cons (de_var 2) (da_nil))) (da_nil)))))))))) (da_nil))))))))
/-! def _law_is_whole -/
abbrev st__law_is_whole : Stmt := top 25
def s__law_is_whole : DStm :=
  sRet (dAndV (dCb gIsi (aCons (dVar 0) (aCons (dK (.ty "int")) (aNil)))) (dAndV (dNotV (dCb gIsi (aCons (dVar 0) (aCons (dK (.ty "bool")) (aNil))))) (dChain gLe gLe (dVar 1) (dVar 0) (dVar 2))))
def f__law_is_whole : Fn := fnOf (["_law_item", "_law_low", "_law_high"] : List Str).length s__law_is_whole
theorem sc__law_is_whole : FnScope ["_law_item", "_law_low", "_law_high"] ["_law_item", "_law_low", "_law_high"] (defScope st__law_is_whole) := ⟨rfl, rfl, rfl, by decide +kernel, rfl, by decide +kernel, by decide +kernel⟩
theorem g__law_is_whole (Z : Zs mg) (D_ : Df K mg "_law_is_whole" ["_law_item", "_law_low", "_law_high"] st__law_is_whole) :
    Glo P w K mg base 1 "_law_is_whole" 3 f__law_is_whole := D_.glo (k := 0) (s := s__law_is_whole) sc__law_is_whole rfl fun f cd R callers t H E kx =>
  dss_one (ds_ret (de_and (de_cb call_isi cd_isi Z.n_isinstance (da_cons (de_var 0) (da_cons (de_ty Z.n_int) (da_nil)))) (de_and (de_not (de_cb call_isi cd_isi Z.n_isinstance (da_cons (de_var 0) (da_cons (de_ty Z.n_bool) (da_nil))))) (de_one (de_chain op_le od_le op_le od_le (de_var 1) (de_var 0) (de_var 2))))))
/-! def _law_is_corner -/
abbrev st__law_is_corner : Stmt := top 33
def s__law_is_corner : DStm :=
  sSeq (sIf (dOr (dNot (dTst (dCb gIsi (aCons (dVar 0) (aCons (dK (.ty "tuple")) (aNil)))))) (dNot (dTst (dChain gLe gLe (dK (.int 2)) (dCb gLen (aCons (dVar 0) (aNil))) (dK (.int 12)))))) (sRet (dK (.bl false))) (sSkip)) (sRet (dAndV (dBin (gEq false) (dLc (iVal (dVar 0)) [1] (tgN 1) (dNot (dTst (dCall 3 f__law_is_whole (aCons (dVar 1) (aCons (dK (.int 1)) (aCons (dBin gPow (dK (.int 10)) (dK (.int 30))) (aNil))))))) (dK (.int 1))) (dLst (aNil))) (dBin gLe (dCb gSum (aCons (dVar 0) (aNil))) (dBin gPow (dK (.int 10)) (dK (.int 30))))))
def f__law_is_corner : Fn := fnOf (["_law_item", "_law_one"] : List Str).length s__law_is_corner
theorem sc__law_is_corner : FnScope ["_law_item", "_law_one"] ["_law_item"] (defScope st__law_is_corner) := ⟨rfl, rfl, rfl, by decide +kernel, rfl, by decide +kernel, by decide +kernel⟩
theorem g__law_is_corner (Z : Zs mg) (D_ : Df K mg "_law_is_corner" ["_law_item"] st__law_is_corner) (G__law_is_whole : Glo P w K mg base 1 "_law_is_whole" 3 f__law_is_whole) :
    Glo P w K mg base 2 "_law_is_corner" 1 f__law_is_corner := D_.glo (k := 1) (s := s__law_is_corner) sc__law_is_corner rfl fun f cd R callers t H E kx =>
  dss_cons (ds_if (dt_w (dw_or (dt_not (dt_val (de_cb call_isi cd_isi Z.n_isinstance (da_cons (de_var 0) (da_cons (de_ty Z.n_tuple) (da_nil)))))) (dw_or1 (dt_not (dt_chain op_le od_le op_le od_le (de_int) (de_cb cb_len cd_len Z.n_len (da_cons (de_var 0) (da_nil))) (de_int)))))) (dss_one (ds_ret (de_bl))) (dss_nil)) (dss_one (ds_ret (de_and (de_cmp (op_eqA (units_64 kx)) od_eq (de_lc kx (own := [("_law_one", 1)]) (di_val (de_var 0)) (show BlkOk ["_law_item", "_law_one"] (defScope st__law_is_corner) _ [("_law_one", 1)] from ⟨rfl, by decide +kernel, by decide +kernel, by decide +kernel, by decide +kernel⟩) (fun _ _ _ _ _ => dg_name 1 sc__law_is_corner.nd) (fun _ _ _ _ _ => dts_one (dt_not (dt_val (de_call kx.blk G__law_is_whole (da_cons (de_var 1) (da_cons (de_int) (da_cons (de_bin op_pow od_pow (de_int) (de_int)) (da_nil)))))))) (fun _ _ _ _ _ => de_int)) (de_lst (da_nil))) (de_one (de_cmp op_le od_le (de_cb (cd_sum rfl) gd_sum Z.n_sum (da_cons (de_var 0) (da_nil))) (de_bin op_pow od_pow (de_int) (de_int)))))))
/-! def _law_are_signs -/
abbrev st__law_are_signs : Stmt := top 34
def s__law_are_signs : DStm :=
  sRet (dAndV (dCb gIsi (aCons (dVar 1) (aCons (dK (.ty "str")) (aNil)))) (dAndV (dBin (gEq false) (dCb gLen (aCons (dVar 1) (aNil))) (dCb gLen (aCons (dVar 0) (aNil)))) (dBin (gEq false) (dLc (iVal (dVar 1)) [2] (tgN 2) (dTst (dBin (gIn true) (dVar 2) (dTup (aCons (dK (.str "M")) (aCons (dK (.str "V")) (aNil)))))) (dK (.int 1))) (dLst (aNil)))))
def f__law_are_signs : Fn := fnOf (["_law_row", "_law_item", "_law_one"] : List Str).length s__law_are_signs
theorem sc__law_are_signs : FnScope ["_law_row", "_law_item", "_law_one"] ["_law_row", "_law_item"] (defScope st__law_are_signs) := ⟨rfl, rfl, rfl, by decide +kernel, rfl, by decide +kernel, by decide +kernel⟩
theorem g__law_are_signs (Z : Zs mg) (D_ : Df K mg "_law_are_signs" ["_law_row", "_law_item"] st__law_are_signs) :
    Glo P w K mg base 1 "_law_are_signs" 2 f__law_are_signs := D_.glo (k := 0) (s := s__law_are_signs) sc__law_are_signs rfl fun f cd R callers t H E kx =>
  dss_one (ds_ret (de_and (de_cb call_isi cd_isi Z.n_isinstance (da_cons (de_var 1) (da_cons (de_ty Z.n_str) (da_nil)))) (de_and (de_cmp (op_eqA (units_64 kx)) od_eq (de_cb cb_len cd_len Z.n_len (da_cons (de_var 1) (da_nil))) (de_cb cb_len cd_len Z.n_len (da_cons (de_var 0) (da_nil)))) (de_one (de_cmp (op_eqA (units_64 kx)) od_eq (de_lc kx (own := [("_law_one", 2)]) (di_val (de_var 1)) (show BlkOk ["_law_row", "_law_item", "_law_one"] (defScope st__law_are_signs) _ [("_law_one", 2)] from ⟨rfl, by decide +kernel, by decide +kernel, by decide +kernel, by decide +kernel⟩) (fun _ _ _ _ _ => dg_name 2 sc__law_are_signs.nd) (fun _ _ _ _ _ => dts_one (dt_cmp (op_notInA (units_ok kx.blk)) od_notIn (de_var 2) (de_tup (da_cons (de_str) (da_cons (de_str) (da_nil)))))) (fun _ _ _ _ _ => de_int)) (de_lst (da_nil)))))))
/-! def _law_right -/
abbrev st__law_right : Stmt := top 36
def s__law_right : DStm :=
  sSeq (sFor (iVal (dTup (aCons (dCall 1 f__law_odd (aCons (dVar 0) (aNil))) (aCons (dCall 1 f__law_near (aCons (dVar 0) (aNil))) (aNil))))) (tgN 1) (sIf (dNot (dTst (dLam [1] 1 [] (dCall 1 f_need_corner (aCons (dVar 0) (aNil))) 3 ph__law_is (aCons (dK (.str "corner")) (aCons (dVar 1) (aCons (dCall 1 f__law_is_corner (aCons (dVar 1) (aNil))) (aNil))))))) (sRet (dK (.bl false))) (sSkip))) (sSeq (sAsg 2 (dCall 3 f__law_any (aCons (dVar 0) (aCons (dBin gAdd (dK (.int 2)) (dCall 2 gDraw (aCons (dVar 0) (aCons (dK (.int 11)) (aNil))))) (aCons (dK (.int 40)) (aNil)))))) (sSeq (sFor (iVal (dTup (aCons (dCall 1 f__law_odd (aCons (dVar 0) (aNil))) (aCons (dCall 2 f__law_text (aCons (dVar 0) (aCons (dCb gLen (aCons (dVar 2) (aNil))) (aNil)))) (aNil))))) (tgN 1) (sIf (dNot (dTst (dLam [2, 1] 2 [] (dCall 2 f_need_signs (aCons (dVar 0) (aCons (dVar 1) (aNil)))) 3 ph__law_is (aCons (dK (.str "signs")) (aCons (dVar 1) (aCons (dCall 2 f__law_are_signs (aCons (dVar 2) (aCons (dVar 1) (aNil)))) (aNil))))))) (sRet (dK (.bl false))) (sSkip))) (sRet (dK (.bl true)))))
def f__law_right : Fn := fnOf (["_law_m", "_law_item", "_law_row"] : List Str).length s__law_right
theorem sc__law_right : FnScope ["_law_m", "_law_item", "_law_row"] ["_law_m"] (defScope st__law_right) := ⟨rfl, rfl, rfl, by decide +kernel, rfl, by decide +kernel, by decide +kernel⟩
theorem g__law_right (Z : Zs mg) (G__law_any : Glo P w K mg base 2 "_law_any" 3 f__law_any) (G__law_are_signs : Glo P w K mg base 1 "_law_are_signs" 2 f__law_are_signs) (G__law_draw : Glo P w K mg base 1 "_law_draw" 2 gDraw) (G__law_is_corner : Glo P w K mg base 2 "_law_is_corner" 1 f__law_is_corner) (G__law_near : Glo P w K mg base 3 "_law_near" 1 f__law_near) (G__law_odd : Glo P w K mg base 3 "_law_odd" 1 f__law_odd) (G__law_text : Glo P w K mg base 4 "_law_text" 2 f__law_text) (G_need_corner : Glo P w K mg base 4 "need_corner" 1 f_need_corner) (G_need_signs : Glo P w K mg base 5 "need_signs" 2 f_need_signs) (G__law_word : Glo P w K mg base 1 "_law_word" 1 f__law_word) (Dg__law_is : Df K mg "_law_is" ["_law_call", "_law_word_here", "_law_item", "_law_holds"] st__law_is) (Dg__law_outcome : Df K mg "_law_outcome" ["_law_call"] st__law_outcome) (ETry : Exc3 K mg oks "FoldError" "Nothing" "TooGreat") {C_ P_ : Addr} (TB : LamX.TabB base mg C_ P_) (TM : (P_, (envOfC "_law_right" (defScope st__law_right) 0 0 Value.none).qual ++ "<lambda>") ∈ Tb.tabs) (D_ : DfC K mg "_law_right" ["_law_m"] st__law_right C_) :
    Glo P w K mg base 24 "_law_right" 1 f__law_right := D_.glo (k := 23) (s := s__law_right) sc__law_right rfl fun f R callers t H E kx =>
  dss_cons (ds_for kx (di_val (de_tup (da_cons (de_call kx G__law_odd (da_cons (de_var 0) (da_nil))) (da_cons (de_call kx G__law_near (da_cons (de_var 0) (da_nil))) (da_nil))))) (dg_name 1 sc__law_right.nd) (dss_one (ds_if (dt_not (dt_val (de_lam2 (k := 20) (kb := 22) (fr := (["_law_item"] : List Str)) (NL := (["_law_item"] : List Str)) (ds0 := []) (φ := ph__law_is) kx (by decide) (lam_mk0 ⟨_, _, rfl, TB, TM⟩ (by show ∀ y : Str × NameKind, y ∈ _ → y.2 = NameKind.free → (defScope st__law_right).names.lookup y.1 = some .cell ∨ (defScope st__law_right).names.lookup y.1 = some .free; decide +kernel) rfl (fun _ _ _ _ _ _ => rfl)) (NdefX.nscope_by (by decide +kernel)) rfl (fun _ _ => .nil) (by show ∀ y : Str × NameKind, y ∈ _ → y.2 = NameKind.free → (defScope st__law_right).names.lookup y.1 = some .cell ∨ (defScope st__law_right).names.lookup y.1 = some .free; decide +kernel) (by decide +kernel) rfl (fun c1 f1 A1 o1 s1 H1 E1 kx => de_call kx G_need_corner (da_cons (de_var 0) (da_nil))) Dg__law_is sc__law_is rfl (gb__law_is Z ETry G__law_word Dg__law_outcome) (fun a1 c1 q1 ws ds m rest hr n P E h => hp__law_is a1 c1 q1 ws ds m rest hr n P E h) (da_cons (de_str) (da_cons (de_var 1) (da_cons (de_call kx G__law_is_corner (da_cons (de_var 1) (da_nil))) (da_nil))))))) (dss_one (ds_ret (de_bl))) (dss_nil)))) (dss_cons (ds_asg 2 kx (de_call kx G__law_any (da_cons (de_var 0) (da_cons (de_bin op_addA od_add (de_int) (de_call kx G__law_draw (da_cons (de_var 0) (da_cons (de_int) (da_nil))))) (da_cons (de_int) (da_nil)))))) (dss_cons (ds_for kx (di_val (de_tup (da_cons (de_call kx G__law_odd (da_cons (de_var 0) (da_nil))) (da_cons (de_call kx G__law_text (da_cons (de_var 0) (da_cons (de_cb cb_len cd_len Z.n_len (da_cons (de_var 2) (da_nil))) (da_nil)))) (da_nil))))) (dg_name 1 sc__law_right.nd) (dss_one (ds_if (dt_not (dt_val (de_lam2 (k := 20) (kb := 22) (fr := (["_law_row", "_law_item"] : List Str)) (NL := (["_law_row", "_law_item"] : List Str)) (ds0 := []) (φ := ph__law_is) kx (by decide) (lam_mk0 ⟨_, _, rfl, TB, TM⟩ (by show ∀ y : Str × NameKind, y ∈ _ → y.2 = NameKind.free → (defScope st__law_right).names.lookup y.1 = some .cell ∨ (defScope st__law_right).names.lookup y.1 = some .free; decide +kernel) rfl (fun _ _ _ _ _ _ => rfl)) (NdefX.nscope_by (by decide +kernel)) rfl (fun _ _ => .nil) (by show ∀ y : Str × NameKind, y ∈ _ → y.2 = NameKind.free → (defScope st__law_right).names.lookup y.1 = some .cell ∨ (defScope st__law_right).names.lookup y.1 = some .free; decide +kernel) (by decide +kernel) rfl (fun c1 f1 A1 o1 s1 H1 E1 kx => de_call kx G_need_signs (da_cons (de_var 0) (da_cons (de_var 1) (da_nil)))) Dg__law_is sc__law_is rfl (gb__law_is Z ETry G__law_word Dg__law_outcome) (fun a1 c1 q1 ws ds m rest hr n P E h => hp__law_is a1 c1 q1 ws ds m rest hr n P E h) (da_cons (de_str) (da_cons (de_var 1) (da_cons (de_call kx G__law_are_signs (da_cons (de_var 2) (da_cons (de_var 1) (da_nil)))) (da_nil))))))) (dss_one (ds_ret (de_bl))) (dss_nil)))) (dss_one (ds_ret (de_bl)))))
/-! def law -/
abbrev st_law : Stmt := top 38
def s_law : DStm :=
  sSeq (sAsg 1 (dCall 1 gBegun (aCons (dVar 0) (aNil)))) (sSeq (sFor (iRange1 (aCons (dBin gAdd (dK (.int 20)) (dCb gMin2 (aCons (dCb gLen (aCons (dVar 0) (aNil))) (aCons (dK (.int 20)) (aNil))))) (aNil))) (tgN 2) (sIf (dNot (dTst (dCall 1 f__law_right (aCons (dVar 1) (aNil))))) (sRet (dK (.bl false))) (sSkip))) (sRet (dCall 0 f__law_hand_right aNil)))
def f_law : Fn := fnOf (["_law_script", "_law_m", "_law_lap"] : List Str).length s_law
theorem sc_law : FnScope ["_law_script", "_law_m", "_law_lap"] ["_law_script"] (defScope st_law) := ⟨rfl, rfl, rfl, by decide +kernel, rfl, by decide +kernel, by decide +kernel⟩
theorem w_law {f : Addr} {fd : FuncData} (Z : Zs mg) (F_ : Fun K "law" "law" st_law f fd) (G__law_begun : Glo P w K mg base 1 "_law_begun" 1 gBegun) (G__law_hand_right : Glo P w K mg base 24 "_law_hand_right" 0 f__law_hand_right) (G__law_right : Glo P w K mg base 24 "_law_right" 1 f__law_right) :
    FnG P w K mg base 25 f fd ["_law_script"] (spD K mg 1 f_law) := w_of (N := ["_law_script", "_law_m", "_law_lap"]) (k := 24) (s := s_law) F_ sc_law fun f cd R callers t H E kx =>
  dss_cons (ds_asg 1 kx (de_call kx G__law_begun (da_cons (de_var 0) (da_nil)))) (dss_cons (ds_for kx (di_range1 Z.n_range (da_cons (de_bin op_addA od_add (de_int) (de_cb (call_min2 rfl) cd_min2 Z.n_min (da_cons (de_cb cb_len cd_len Z.n_len (da_cons (de_var 0) (da_nil))) (da_cons (de_int) (da_nil))))) (da_nil))) (dg_name 2 sc_law.nd) (dss_one (ds_if (dt_not (dt_val (de_call kx G__law_right (da_cons (de_var 1) (da_nil))))) (dss_one (ds_ret (de_bl))) (dss_nil)))) (dss_one (ds_ret (de_call0 kx G__law_hand_right))))
end
end Wk02

end
section
set_option Elab.async false
set_option linter.all false
set_option maxRecDepth 100000
set_option maxHeartbeats 4000000
/-! DRepr: data whose repr is had, piece by piece. -/
namespace DL
open PySem PySem.Spec PyProof.Rows L2
variable [Tb]
structure Sm (k : Nat) (d : D) (w : Nat) : Prop where
  pl : plD k d = true
  wt : wtD k d ≤ w
theorem Sm.le {k : Nat} {d : D} {w w' : Nat} (h : Sm k d w) (hw : w ≤ w') : Sm k d w' := ⟨h.pl, Nat.le_trans h.wt hw⟩
theorem Sm.int {k : Nat} {i : Int} (h : i.natAbs < 10 ^ 60) : Sm k (.int i) 61 := ⟨by cases k <;> rfl, by
  have e : wtD k (.int i) = if i.natAbs < 10 ^ 60 then 61 else 100000000 := by cases k <;> rfl
  rw [e, if_pos h]; exact Nat.le_refl _⟩
theorem Sm.nat {k : Nat} {i : Nat} (h : i < 10 ^ 60) : Sm k (.int (i : Nat)) 61 := Sm.int (by rw [Int.natAbs_natCast]; exact h)
theorem Sm.bl {k : Nat} {b : Bool} : Sm k (.bl b) 5 := ⟨by cases k <;> rfl, by cases k <;> exact Nat.le_refl _⟩
theorem Sm.non {k : Nat} : Sm k .non 4 := ⟨by cases k <;> rfl, by cases k <;> exact Nat.le_refl _⟩
theorem Sm.str {k : Nat} {x : Str} (h : PyData.strOk x = true) (h2 : x.cps.all (· < 16 ^ 8) = true) : Sm k (.str x) (10 * x.length + 2) := ⟨by cases k <;> exact h, by
  have e : wtD k (.str x) = if x.cps.all (· < 16 ^ 8) then 10 * x.length + 2 else 100000000 := by cases k <;> rfl
  rw [e, if_pos h2]; exact Nat.le_refl _⟩
theorem Sm.sg {k : Nat} (bs : List Bool) : Sm k (.str (sg bs)) (10 * bs.length + 2) := ⟨by cases k <;> exact sg_ok bs, by rw [wt_sg]; exact Nat.le_refl _⟩
theorem sum_le_mul {α : Type} (f : α → Nat) (w : Nat) : ∀ l : List α, (∀ d ∈ l, f d ≤ w) → (l.map f).sum ≤ w * l.length
  | [], _ => by simp
  | d :: l, h => by
    have h1 := h d (by simp)
    have h2 := sum_le_mul f w l fun x hx => h x (by simp [hx])
    rw [List.map_cons, List.sum_cons, List.length_cons, Nat.mul_add, Nat.mul_one]
    omega
theorem Sm.lst {k : Nat} {l : List D} {w : Nat} (h : ∀ d ∈ l, Sm k d w) : Sm (k + 1) (.lst l) ((w + 2) * l.length + 3) := ⟨by
  show l.all (plD k) = true
  rw [List.all_eq_true]
  exact fun d hd => (h d hd).pl, by
  show (l.map fun d => wtD k d + 2).sum + 3 ≤ _
  have := sum_le_mul (fun d => wtD k d + 2) (w + 2) l fun d hd => by have := (h d hd).wt; omega
  omega⟩
theorem Sm.tup {k : Nat} {l : List D} {w : Nat} (h : ∀ d ∈ l, Sm k d w) : Sm (k + 1) (.tup l) ((w + 2) * l.length + 3) := ⟨by
  show l.all (plD k) = true
  rw [List.all_eq_true]
  exact fun d hd => (h d hd).pl, by
  show (l.map fun d => wtD k d + 2).sum + 3 ≤ _
  have := sum_le_mul (fun d => wtD k d + 2) (w + 2) l fun d hd => by have := (h d hd).wt; omega
  omega⟩
theorem Sm.rp {d : D} {w : Nat} (h : Sm 20 d w) (hw : w ≤ 16000000) : gRepr [d] = ret (.str (rtxt d)) := gRepr_ok h.pl (Nat.le_trans h.wt hw)
theorem sq (neg : Bool) (x : Str) : gEq neg (.str x) (.str x) = ret (.bl (!neg)) := by rw [g_eq_s]; cases neg <;> simp
theorem picks {α β : Type} (f : α → β) {l : List α} : ∀ {ds : List β}, (∀ d ∈ ds, d ∈ l.map f) → ∃ ws : List α, ds = ws.map f ∧ ∀ w ∈ ws, w ∈ l
  | [], _ => ⟨[], rfl, by simp⟩
  | d :: ds, h => by
    obtain ⟨w, hw, rfl⟩ := List.mem_map.mp (h d (by simp))
    obtain ⟨ws, rfl, h2⟩ := picks f (ds := ds) fun x hx => h x (by simp [hx])
    exact ⟨w :: ws, rfl, fun v hv => by
      rcases List.mem_cons.mp hv with rfl | hv
      · exact hw
      · exact h2 v hv⟩
theorem step_mem {α : Type} {xs : List α} {lo hi : Option Int} {c : Int} {x : α} (h : x ∈ stepV xs lo hi c) : x ∈ xs := by
  unfold stepV at h
  rw [List.mem_filterMap] at h
  obtain ⟨m, _, e⟩ := h
  exact List.mem_of_getElem? e
theorem step_len {α : Type} {xs : List α} {lo hi : Option Int} {c : Int} : (stepV xs lo hi c).length ≤ Builtin.Slice.slicePlaces (Builtin.Slice.sliceAdjust lo hi c xs.length).1 (Builtin.Slice.sliceAdjust lo hi c xs.length).2 c := by
  unfold stepV
  exact Nat.le_trans (List.length_filterMap_le _ _) (by simp)
end DL

end
section
set_option Elab.async false
set_option linter.all false
set_option maxRecDepth 100000
set_option maxHeartbeats 4000000
open PySem PySem.Spec PyProof.Rows L2 DL
/-! PkgZ: what the package's defs hand back, of right arguments. -/
namespace PKG
variable [Tb]
theorem z_is_integer (i : Int) : f_is_integer [.int i] = ret (.bl true) := by
  simp [f_is_integer, s_is_integer, x_fn]
theorem z_is_whole (a lo hi : Int) : f_is_whole [.int a, .int lo, .int hi] = ret (.bl (decide (lo ≤ a) && decide (a ≤ hi))) := by
  simp [f_is_whole, s_is_whole, x_fn, z_is_integer]
  by_cases h : lo ≤ a <;> simp [h]
theorem z_is_closed_in (ns : List Int) : f_is_closed_in [.tup (ns.map .int)] = ret (.bl (closedB ns)) := by
  have e : ((ns.length : Int) % 2 = 0) ↔ ns.length % 2 = 0 := by omega
  simp [f_is_closed_in, s_is_closed_in, x_fn, step_evens, step_odds, evens_map, odds_map, g_sum_t, closedB, e]
  by_cases h : ns.length % 2 = 0 <;> simp [h]
theorem z_is_corner {ns : List Int} (c : CornerOk ns) : f_is_corner [.tup (ns.map .int)] = ret (.bl true) := by
  have h1 : (2 : Int) ≤ ns.length := by have := c.two; omega
  have h2 : (ns.length : Int) ≤ 12 := by have := c.most; omega
  have hz : ns.length ≤ sizeLine := by have := c.most; rw [sizeLine_eq]; omega
  have h3 : ns.sum ≤ 1000000000000000000000000000000 := c.sum
  have key := lcD_mapY (vs := [1]) (tg := tgN 1) (f := dCall 3 f_is_whole (aCons (dVar 1) (aCons (dK (D.int 1)) (aCons (dK (D.int 1000000000000000000000000000000)) aNil)))) (env := [Slot.val (D.tup (List.map D.int ns)), Slot.emp])
    D.int (fun a => [Slot.val (D.tup (List.map D.int ns)), .val (.int a)]) (fun _ => D.bl true) (l := ns) fun a ha => ⟨rfl, by
      obtain ⟨q1, q2⟩ := c.le a ha
      have q3 : a ≤ 1000000000000000000000000000000 := q2
      simp [z_is_whole, q1, q3]⟩
  have hg : gAll [.lst (ns.map fun _ => D.bl true)] = ret (.bl true) := by
    have e2 : ns.map (fun _ => D.bl true) = (ns.map fun _ => true).map D.bl := by rw [List.map_map]; rfl
    rw [e2, g_all, show (ns.map fun _ => true).all id = true by rw [List.all_eq_true]; simp]
  rw [List.map_const'] at key hg
  simp [f_is_corner, s_is_corner, x_fn, h1, h2, hz, key, hg, g_sum_t, h3]
theorem z_need_corner {ns : List Int} (c : CornerOk ns) : f_need_corner [.tup (ns.map .int)] = ret (.tup (ns.map .int)) := by
  simp [f_need_corner, s_need_corner, x_fn, z_is_corner c]
theorem z_is_closed {ns : List Int} (c : CornerOk ns) : f_is_closed [.tup (ns.map .int)] = ret (.bl (closedB ns)) := by
  simp [f_is_closed, s_is_closed, x_fn, z_need_corner c, z_is_closed_in]
theorem z_need_closed {ns : List Int} (c : CornerOk ns) (h : closedB ns = true) : f_need_closed [.tup (ns.map .int)] = ret (.tup (ns.map .int)) := by
  simp [f_need_closed, s_need_closed, x_fn, z_is_closed c, h]
theorem z_places_of {ns : List Int} (c : CornerOk ns) : f_places_of [.tup (ns.map .int)] = ret (.lst ((placesL ns).map .int)) := by
  have hz := c.most
  obtain ⟨e', h1, h2⟩ := loopD_inv (tg := tgT 2 (tgsCons (tgN 3) (tgsCons (tgN 4) tgsNil))) (b := sSeq (sApp 1 (dVar 2)) (sAsg 2 (dIf (dTst (dBin (gEq false) (dBin gMod (dVar 3) (dK (D.int 2))) (dK (D.int 0)))) (dBin gAdd (dVar 2) (dVar 4)) (dBin DL.gSub (dVar 2) (dVar 4)))))
    (fun i env => ∃ s3 s4 : Slot, env = [.val (.tup (ns.map .int)), .own (((placesL ns).take i).map .int), .val (.int (alt (ns.take i))), s3, s4]) (ds := enumD (ns.map .int)) (env := [.val (.tup (ns.map .int)), .own [], .val (.int 0), .emp, .emp]) 0 ⟨.emp, .emp, by simp [alt]⟩
    fun i d hd env hI => by
      obtain ⟨s3, s4, rfl⟩ := hI
      rw [enum_map, List.getElem?_map, List.getElem?_zipIdx] at hd
      cases e1 : ns[i]? with
      | none => rw [e1] at hd; cases hd
      | some a =>
        rw [e1] at hd
        simp only [Option.map_some, Option.some.injEq, Nat.zero_add] at hd
        subst hd
        have hi := (List.getElem?_eq_some_iff.mp e1).1
        refine ⟨_, [.val (.tup (ns.map .int)), .own (((placesL ns).take (i + 1)).map .int), .val (.int (alt (ns.take (i + 1)))), .val (.int (i : Nat)), .val (.int a)], rfl, ?_, _, _, by rw [Nat.zero_add]⟩
        have hs : ((placesL ns).take i).length < sizeLine := by rw [List.length_take, places_len, sizeLine_eq]; omega
        have hs' : min i (placesL ns).length < sizeLine := by rw [List.length_take] at hs; exact hs
        have e : ((i : Int) % 2 = 0) ↔ i % 2 = 0 := by omega
        rw [places_take hi, alt_next e1]
        by_cases h : i % 2 = 0 <;> simp [hs', e, h]
  have e2 : (enumD (ns.map .int)).length = ns.length := by simp
  rw [e2, Nat.zero_add] at h2
  obtain ⟨s3, s4, rfl⟩ := h2
  have e3 : (placesL ns).take ns.length = placesL ns := by rw [List.take_of_length_le (by rw [places_len]; exact Nat.le_refl _)]
  rw [e3] at h1
  simp only [enum_map] at h1
  simp [f_places_of, s_places_of, x_fn, h1]
theorem z_places {ns : List Int} (c : CornerOk ns) : f_places [.tup (ns.map .int)] = ret (.tup ((placesL ns).map .int)) := by
  simp [f_places, s_places, x_fn, z_need_corner c, z_places_of c]
theorem z_spots {ns : List Int} (c : CornerOk ns) : f__law_spots [.tup (ns.map .int)] = ret (.lst ((placesL ns).map .int)) := by
  have hz := c.most
  obtain ⟨e', h1, h2⟩ := loopD_inv (tg := tgT 2 (tgsCons (tgN 3) (tgsCons (tgN 4) tgsNil))) (b := sSeq (sApp 1 (dVar 2)) (sAsg 2 (dIf (dTst (dBin (gEq false) (dBin gMod (dCb gInt (aCons (dVar 3) aNil)) (dK (D.int 2))) (dK (D.int 0)))) (dBin gAdd (dVar 2) (dVar 4)) (dBin DL.gSub (dVar 2) (dVar 4)))))
    (fun i env => ∃ s3 s4 : Slot, env = [.val (.tup (ns.map .int)), .own (((placesL ns).take i).map .int), .val (.int (alt (ns.take i))), s3, s4]) (ds := enumD (ns.map .int)) (env := [.val (.tup (ns.map .int)), .own [], .val (.int 0), .emp, .emp]) 0 ⟨.emp, .emp, by simp [alt]⟩
    fun i d hd env hI => by
      obtain ⟨s3, s4, rfl⟩ := hI
      rw [enum_map, List.getElem?_map, List.getElem?_zipIdx] at hd
      cases e1 : ns[i]? with
      | none => rw [e1] at hd; cases hd
      | some a =>
        rw [e1] at hd
        simp only [Option.map_some, Option.some.injEq, Nat.zero_add] at hd
        subst hd
        have hi := (List.getElem?_eq_some_iff.mp e1).1
        refine ⟨_, [.val (.tup (ns.map .int)), .own (((placesL ns).take (i + 1)).map .int), .val (.int (alt (ns.take (i + 1)))), .val (.int (i : Nat)), .val (.int a)], rfl, ?_, _, _, by rw [Nat.zero_add]⟩
        have hs : ((placesL ns).take i).length < sizeLine := by rw [List.length_take, places_len, sizeLine_eq]; omega
        have hs' : min i (placesL ns).length < sizeLine := by rw [List.length_take] at hs; exact hs
        have e : ((i : Int) % 2 = 0) ↔ i % 2 = 0 := by omega
        rw [places_take hi, alt_next e1]
        by_cases h : i % 2 = 0 <;> simp [hs', e, h]
  have e2 : (enumD (ns.map .int)).length = ns.length := by simp
  rw [e2, Nat.zero_add] at h2
  obtain ⟨s3, s4, rfl⟩ := h2
  have e3 : (placesL ns).take ns.length = placesL ns := by rw [List.take_of_length_le (by rw [places_len]; exact Nat.le_refl _)]
  rw [e3] at h1
  simp only [enum_map] at h1
  simp [f__law_spots, s__law_spots, x_fn, h1]
theorem z_ranges_of {ns : List Int} (c : CornerOk ns) : f_ranges_of [.tup (ns.map .int)] = ret (.lst ((rangesL (placesL ns)).map pr)) := by
  have hz := c.most
  have h2 := c.two
  have hl := places_len ns
  have hs : (placesL ns).length ≤ sizeLine := by rw [hl, sizeLine_eq]; omega
  have zp := z_places_of c
  generalize placesL ns = ps at *
  have s2 : 2 ≤ sizeLine := by decide
  have k1 := lcD_mapY (vs := [4, 5]) (tg := tgT 2 (tgsCons (tgN 4) (tgsCons (tgN 5) tgsNil))) (f := dTup (aCons (dVar 5) (aCons (dBin gIx (dVar 1) (dBin gMod (dBin gAdd (dVar 4) (dK (D.int 1))) (dCb gLen (aCons (dVar 1) aNil)))) aNil)))
    (env := [.val (.tup (ns.map .int)), .val (.lst (ps.map .int)), .emp, .emp, .emp, .emp]) (fun p : Int × Nat => D.tup [.int (p.2 : Nat), .int p.1]) (fun p => [.val (.tup (ns.map .int)), .val (.lst (ps.map .int)), .emp, .emp, .val (.int (p.2 : Nat)), .val (.int p.1)])
    (fun p => pr (p.1, nxt ps p.2)) (l := ps.zipIdx) fun p hp => ⟨rfl, by
      have h0 : (0 : Int) < ps.length := by omega
      have e : ((p.2 : Int) + 1) % (ps.length : Int) = (((p.2 + 1) % ps.length : Nat) : Int) := by simp
      have e3 := ix_l (nxt_get (ps := ps) p.2 (by omega))
      simp only [x_tup, x_acons, x_anil, x_var, x_bin, x_k, x_cb, List.getElem?_cons_succ, List.getElem?_cons_zero, bnd_ret, g_add_i, g_len_l, g_mod_i, List.length_map, bnd_need]
      rw [need_of h0, e, e3]
      simp only [bnd_ret, List.length_cons, List.length_nil]
      rw [need_of s2]
      rfl⟩
  have k2 := lcD_mapY (vs := [3]) (tg := tgN 3) (f := dTup (aCons (dCb gMinS (aCons (dVar 3) aNil)) (aCons (dCb gMaxS (aCons (dVar 3) aNil)) aNil)))
    (env := [.val (.tup (ns.map .int)), .val (.lst (ps.map .int)), .val (.lst (ps.zipIdx.map fun p => pr (p.1, nxt ps p.2))), .emp, .emp, .emp]) (fun p : Int × Nat => pr (p.1, nxt ps p.2))
    (fun p => [.val (.tup (ns.map .int)), .val (.lst (ps.map .int)), .val (.lst (ps.zipIdx.map fun p => pr (p.1, nxt ps p.2))), .val (pr (p.1, nxt ps p.2)), .emp, .emp])
    (fun p => pr (min p.1 (nxt ps p.2), max p.1 (nxt ps p.2))) (l := ps.zipIdx) fun p hp => ⟨rfl, by simp [pr, min_pair, max_pair, s2]⟩
  have e0 : (enumD (ps.map D.int)).length ≤ sizeLine := by simpa using hs
  rw [← enum_map] at k1
  simp [f_ranges_of, s_ranges_of, x_fn, zp, -enum_map, e0, k1, k2, hs, rangesL]
  rfl
theorem z_do_overlap (a b : Int × Int) : f_do_overlap [pr a, pr b] = ret (.bl (decide (max a.1 b.1 < min a.2 b.2))) := by
  have i0 : ∀ p : Int × Int, gIx (pr p) (.int 0) = ret (.int p.1) := fun p => ix_t (i := 0) rfl
  have i1 : ∀ p : Int × Int, gIx (pr p) (.int 1) = ret (.int p.2) := fun p => ix_t (i := 1) rfl
  simp [f_do_overlap, s_do_overlap, x_fn, i0, i1, min_if, max_if]
theorem z_overlaps_in {ns : List Int} (c : CornerOk ns) : f_overlaps_in [.tup (ns.map .int)] = ret (.lst ((overlapsL ns).map prN)) := by
  have hz := c.most
  have zr := z_ranges_of c
  have hr : (rangesL (placesL ns)).length = ns.length := by rw [ranges_len, places_len]
  unfold overlapsL
  generalize rangesL (placesL ns) = rs at *
  have s2 : 2 ≤ sizeLine := by decide
  let E0 : En := [.val (.tup (ns.map .int)), .val (.lst (rs.map pr)), .val (.lst ((List.range ns.length).map natD)), .emp, .emp]
  have k1 := lcD2_map (vs := [3, 4]) (vs1 := [4]) (tg := tgN 3) (tg1 := tgN 4) (c := cYes) (c1 := dTst (dCall 2 f_do_overlap (aCons (dBin gIx (dVar 1) (dVar 3)) (aCons (dBin gIx (dVar 1) (dVar 4)) aNil)))) (fi1 := iVal (dSl (dVar 2) (oSome (dBin gAdd (dVar 3) (dK (D.int 1)))) oNone)) (f := dTup (aCons (dVar 3) (aCons (dVar 4) aNil)))
    (env := E0) natD (fun i => [.val (.tup (ns.map .int)), .val (.lst (rs.map pr)), .val (.lst ((List.range ns.length).map natD)), .val (natD i), .emp]) (fun i => (List.range ns.length).drop (i + 1)) natD
    (fun i => (((List.range ns.length).drop (i + 1)).filter (ovl rs i)).map fun j => prN (i, j)) 12 (l := List.range ns.length) (k := 0) (by rw [List.length_range, sizeLine_eq]; omega) fun i hi => by
      have hi : i < rs.length := by rw [hr]; simpa using hi
      refine ⟨rfl, rfl, ?_, by rw [List.length_drop, List.length_range]; omega, ?_⟩
      · simp [natD, cut_from]
      · refine lcD_map natD (fun j => [.val (.tup (ns.map .int)), .val (.lst (rs.map pr)), .val (.lst ((List.range ns.length).map natD)), .val (natD i), .val (natD j)]) (ovl rs i) (fun j => prN (i, j)) fun j hj => ?_
        have hj : j < rs.length := by rw [hr]; simpa using List.mem_of_mem_drop hj
        have a1 : gIx (.lst (rs.map pr)) (natD i) = ret (pr (rgAt rs i)) := ix_l (rg_get hi)
        have a2 : gIx (.lst (rs.map pr)) (natD j) = ret (pr (rgAt rs j)) := ix_l (rg_get hj)
        refine ⟨rfl, ?_, fun _ => ?_⟩
        · simp only [x_tst, x_call, x_acons, x_anil, x_bin, x_var, List.getElem?_cons_succ, List.getElem?_cons_zero, bnd_ret, a1, a2, List.length_cons, List.length_nil]
          rw [need_of trivial, z_do_overlap]
          rfl
        · simp [prN, s2]
  have e0 : (List.range ns.length).map natD = rangeD 0 ns.length := (rangeD_nat _).symm
  have e1 : (0 : Int) ≤ ns.length ∧ (ns.length : Int) ≤ 16777216 := by omega
  have e2 : ((List.range ns.length).flatMap fun i => (((List.range ns.length).drop (i + 1)).filter (ovl rs i)).map fun j => (i, j)).map prN = (List.range ns.length).flatMap fun i => (((List.range ns.length).drop (i + 1)).filter (ovl rs i)).map fun j => prN (i, j) := by
    rw [List.map_flatMap]
    congr 1
    funext i
    rw [List.map_map]; rfl
  rw [e2]
  simp only [E0] at k1
  simp [f_overlaps_in, s_overlaps_in, x_fn, zr, e1, rangeD_nat, k1]
theorem z_overlaps {ns : List Int} (c : CornerOk ns) (h : closedB ns = true) : f_overlaps [.tup (ns.map .int)] = ret (.tup ((overlapsL ns).map prN)) := by
  simp [f_overlaps, s_overlaps, x_fn, z_need_closed c h, z_overlaps_in c]
/-! letters -/
theorem z_exchanged_in (bs : List Bool) (h : bs.length ≤ 100) : f_exchanged_in [.str (sg bs)] = ret (.str (sg (bs.map (!·)))) := by
  have k1 := lcD_mapY (vs := [1]) (tg := tgN 1) (f := dIf (dTst (dBin (gEq false) (dVar 1) (dK (.str "V")))) (dK (.str "M")) (dK (.str "V"))) (env := [.val (.str (sg bs)), .emp]) (fun b => D.str (sg [b])) (fun b => [.val (.str (sg bs)), .val (.str (sg [b]))]) (fun b => D.str (sg [!b])) (l := bs) fun b _ => ⟨rfl, by
      rw [str_V, str_M]
      cases b
      · have e : ¬ sg [false] = sg [true] := by decide
        simp [e]
      · simp⟩
  have hz : bs.length ≤ sizeLine := by rw [sizeLine_eq]; omega
  have k2 : bs.map (fun b => D.str (sg [!b])) = (bs.map (!·)).map fun b => D.str (sg [b]) := by rw [List.map_map]; rfl
  have k3 := sg_join (bs.map (!·)) (by rw [List.length_map]; omega)
  rw [← k2] at k3
  rw [str_V, str_M] at k1
  have k4 := sg_items bs
  simp [f_exchanged_in, s_exchanged_in, x_fn, str_V, str_M, k4, hz, k1]
  exact k3
theorem z_need_signs {ns : List Int} {bs : List Bool} (c : CornerOk ns) (h : bs.length = ns.length) : f_need_signs [.tup (ns.map .int), .str (sg bs)] = ret (.str (sg bs)) := by
  have hz := c.most
  have hl := sg_len bs
  have hz2 : bs.length ≤ sizeLine := by rw [sizeLine_eq]; omega
  have hz3 : (sg bs).length ≤ sizeLine := by rw [hl]; exact hz2
  have k1 := lcD_mapY (vs := [2]) (tg := tgN 2) (f := dBin (gIn false) (dVar 2) (dTup (aCons (dK (.str "M")) (aCons (dK (.str "V")) (aNil))))) (env := [.val (.tup (ns.map .int)), .val (.str (sg bs)), .emp]) (fun b => D.str (sg [b])) (fun b => [.val (.tup (ns.map .int)), .val (.str (sg bs)), .val (.str (sg [b]))]) (fun b => D.bl true) (l := bs) fun b _ => ⟨rfl, by
      have s2 : 2 ≤ sizeLine := by decide
      have q : gIn false (.str (sg [b])) (.tup [.str (sg [false]), .str (sg [true])]) = ret (.bl true) := by
        show need (true = true ∧ true = true) (ret (D.bl (inV (V.str (sg [b])) [V.str (sg [false]), V.str (sg [true])]))) = _
        rw [need_of ⟨rfl, rfl⟩]
        cases b <;> rfl
      simp [str_V, str_M, s2, q]⟩
  have k2 : gAll [.lst (List.replicate bs.length (D.bl true))] = ret (.bl true) := by
    have e2 : List.replicate bs.length (D.bl true) = (List.replicate bs.length true).map D.bl := by simp
    rw [e2, g_all]
    simp
  rw [List.map_const'] at k1
  have k4 := sg_items bs
  rw [h] at k1 k2
  have hz4 : ns.length ≤ sizeLine := by rw [← h]; exact hz2
  simp [f_need_signs, s_need_signs, x_fn, z_need_corner c, hl, hz3, h, k4, hz2, hz4, k1, k2]
theorem z_exchanged {ns : List Int} {bs : List Bool} (c : CornerOk ns) (h : bs.length = ns.length) : f_exchanged [.tup (ns.map .int), .str (sg bs)] = ret (.str (sg (bs.map (!·)))) := by
  have hz := c.most
  simp [f_exchanged, s_exchanged, x_fn, z_need_signs c h, z_exchanged_in bs (by omega)]
theorem z_need_sector {ns : List Int} {i : Nat} (h : i < ns.length) : f_need_sector [.tup (ns.map .int), .int (i : Nat)] = ret (.int (i : Nat)) := by
  have e1 : (0 : Int) ≤ i := by omega
  have e2 : (i : Int) ≤ (ns.length : Int) - 1 := by omega
  simp [f_need_sector, s_need_sector, x_fn, z_is_whole, e1, e2]
theorem z_renumbered_in {ns : List Int} {bs : List Bool} {i : Nat} (hz : ns.length ≤ 100) (hb : bs.length ≤ 100) : f_renumbered_in [.tup (ns.map .int), .str (sg bs), .int (i : Nat)] = ret (.tup [.tup ((rot i ns).map .int), .str (sg (rot i bs))]) := by
  have s2 : 2 ≤ sizeLine := by decide
  have e1 : ∀ {α : Type} (l : List α), l.length ≤ 100 → l.length - i + min i l.length ≤ sizeLine := fun l hl => by rw [sizeLine_eq]; omega
  have e2 : (sg bs).length ≤ sizeLine := by rw [sg_len, sizeLine_eq]; omega
  have e3 : (sg (bs.drop i)).length + (sg (bs.take i)).length ≤ sizeLine := by rw [sg_len, sg_len, List.length_drop, List.length_take]; exact e1 bs hb
  simp [f_renumbered_in, s_renumbered_in, x_fn, cutD_drop, cutD_take, cutS_drop, cutS_take, e1 ns hz, e2, e3, s2, sg_append, rot]
theorem z_renumbered {ns : List Int} {bs : List Bool} {i : Nat} (c : CornerOk ns) (h : bs.length = ns.length) (hi : i < ns.length) : f_renumbered [.tup (ns.map .int), .str (sg bs), .int (i : Nat)] = ret (.tup [.tup ((rot i ns).map .int), .str (sg (rot i bs))]) := by
  have hz := c.most
  simp [f_renumbered, s_renumbered, x_fn, z_need_signs c h, z_need_sector hi, z_renumbered_in (ns := ns) (bs := bs) (i := i) (by omega) (by omega)]
/-! what is drawn -/
theorem r_of {z : Bool} {c : Nat} {l : List D} (h : l ≠ []) (hl : l.length ≤ 1000) : Runs (f__law_of [.rng z c, .lst l]) 1 fun d => d ∈ l := by
  have h0 : 0 < l.length := List.length_pos_iff.mpr h
  simp [f__law_of, s__law_of, x_fn]
  refine Runs.bndc (runs_draw (by omega) (log_small (by omega) (by omega))) (c2 := 0) (Nat.le_refl _) fun d hd => ?_
  obtain ⟨r, rfl, r0, r1⟩ := hd
  obtain ⟨j, rfl⟩ : ∃ j : Nat, r = (j : Int) := ⟨r.toNat, by omega⟩
  have hj : j < l.length := by omega
  have q : gIx (.lst l) (.int (j : Nat)) = ret l[j] := ix_l (by simp [hj])
  rw [q]
  exact Runs.ret (by simp)
theorem r_letters {z : Bool} {c n : Nat} (hn : n ≤ 12) : Runs (f__law_letters [.rng z c, .int (n : Nat)]) 12 fun d => ∃ bs : List Bool, bs.length = n ∧ d = .str (sg bs) := by
  have hb : -(2 ^ 62) ≤ (n : Int) ∧ (n : Int) < 2 ^ 62 := by omega
  have hb1 : (-4611686018427387904 : Int) ≤ n := by omega
  have hb2 : (n : Int) < 4611686018427387904 := by omega
  have hz : n ≤ sizeLine := by rw [sizeLine_eq]; omega
  simp [f__law_letters, s__law_letters, x_fn, hb1, hb2, rangeD_nat, hz]
  have k := lcD_runs (vs := [2]) (tg := tgN 2) (f := dCall 2 f__law_of (aCons (dVar 0) (aCons (dLst (aCons (dK (.str "M")) (aCons (dK (.str "V")) (aNil)))) (aNil)))) (env := [.val (.rng z c), .val (.int (n : Nat)), .emp]) (fun d => [.val (.rng z c), .val (.int (n : Nat)), .val d]) (fun d => ∃ b, d = .str (sg [b])) 1 (ds := (List.range n).map natD) fun d _ => ⟨rfl, by
      have s2 : 2 ≤ sizeLine := by decide
      simp [s2]
      refine (r_of (by simp) (by simp)).le (Nat.le_refl _) fun d hd => ?_
      rcases List.mem_cons.mp hd with rfl | hd
      · exact .inl rfl
      · rw [List.mem_singleton] at hd
        subst hd
        exact .inr rfl⟩
  refine Runs.bndc k (c2 := 0) (by simp; omega) fun xs hxs => ?_
  obtain ⟨h1, h2⟩ := hxs
  have e : ∃ bs : List Bool, xs = bs.map fun b => D.str (sg [b]) := by
    clear k h1
    induction xs with
    | nil => exact ⟨[], rfl⟩
    | cons x xs ih =>
      obtain ⟨b, rfl⟩ := h2 x (by simp)
      obtain ⟨bs, rfl⟩ := ih fun y hy => h2 y (by simp [hy])
      exact ⟨b :: bs, rfl⟩
  obtain ⟨bs, rfl⟩ := e
  have hl : bs.length = n := by simpa using h1
  rw [sg_join bs (by omega)]
  exact Runs.ret ⟨bs, hl, rfl⟩
theorem r_any {z : Bool} {c n : Nat} {most : Int} (hn : n ≤ 12) (h1 : 1 ≤ most) (h2 : most ≤ 10 ^ 28) : Runs (f__law_any [.rng z c, .int (n : Nat), .int most]) 12 fun d => ∃ ns : List Int, ns.length = n ∧ (∀ a ∈ ns, 1 ≤ a ∧ a ≤ most) ∧ d = .tup (ns.map .int) := by
  have hb1 : (-4611686018427387904 : Int) ≤ n := by omega
  have hb2 : (n : Int) < 4611686018427387904 := by omega
  have hz : n ≤ sizeLine := by rw [sizeLine_eq]; omega
  simp [f__law_any, s__law_any, x_fn, hb1, hb2, rangeD_nat, hz]
  have k := lcD_runs (vs := [3]) (tg := tgN 3) (f := dBin gAdd (dK (.int 1)) (dCall 2 gDraw (aCons (dVar 0) (aCons (dVar 2) (aNil))))) (env := [.val (.rng z c), .val (.int (n : Nat)), .val (.int most), .emp]) (fun d => [.val (.rng z c), .val (.int (n : Nat)), .val (.int most), .val d]) (fun d => ∃ i : Int, d = .int i ∧ 1 ≤ i ∧ i ≤ most) 1 (ds := (List.range n).map natD) fun d _ => ⟨rfl, by
      simp only [x_bin, x_k, x_call, x_acons, x_anil, x_var, List.getElem?_cons_succ, List.getElem?_cons_zero, bnd_ret, List.length_cons, List.length_nil]
      rw [need_of trivial]
      refine Runs.bndc (runs_draw (by omega) (log_small (by omega) (by omega))) (c2 := 0) (Nat.le_refl _) fun d hd => ?_
      obtain ⟨r, rfl, r0, r1⟩ := hd
      exact Runs.ret ⟨1 + r, rfl, by omega, by omega⟩⟩
  refine Runs.bndc k (c2 := 0) (by simp; omega) fun xs hxs => ?_
  obtain ⟨ns, rfl, hns⟩ := ints_of hxs.2
  exact Runs.ret ⟨ns, by simpa using hxs.1, hns, rfl⟩
theorem r_shut {z : Bool} {c k : Nat} {most : Int} (h1 : 1 ≤ k) (hk : k ≤ 6) (m1 : 1 ≤ most) (m2 : most ≤ 10 ^ 20) : Runs (f__law_shut [.rng z c, .int ((2 * k : Nat) : Int), .int most]) 13 fun d => ∃ ns : List Int, CornerOk ns ∧ d = .tup (ns.map .int) := by
  have hb1 : (-4611686018427387904 : Int) ≤ ((2 * k : Nat) : Int) := by omega
  have hb2 : ((2 * k : Nat) : Int) < 4611686018427387904 := by omega
  have hz : 2 * k ≤ sizeLine := by rw [sizeLine_eq]; omega
  unfold f__law_shut
  rw [x_fn]
  unfold s__law_shut
  refine runs_own (c1 := 12) (c2 := 1) (A := fun l => ∃ ns : List Int, ns.length = 2 * k ∧ (∀ a ∈ ns, 1 ≤ a ∧ a ≤ most) ∧ l = ns.map .int) ?_ (by omega) fun l hl => ?_
  · have k1 := lcD_runs (vs := [6]) (tg := tgN 6) (f := dBin gAdd (dK (.int 1)) (dCall 2 gDraw (aCons (dVar 0) (aCons (dVar 2) (aNil))))) (env := [.val (.rng z c), .val (.int ((2 * k : Nat) : Int)), .val (.int most), .emp, .emp, .emp, .emp]) (fun d => [.val (.rng z c), .val (.int ((2 * k : Nat) : Int)), .val (.int most), .emp, .emp, .emp, .val d]) (fun d => ∃ i : Int, d = .int i ∧ 1 ≤ i ∧ i ≤ most) 1 (ds := (List.range (2 * k)).map natD) fun d _ => ⟨rfl, by
      simp only [x_bin, x_k, x_call, x_acons, x_anil, x_var, List.getElem?_cons_succ, List.getElem?_cons_zero, bnd_ret, List.length_cons, List.length_nil]
      rw [need_of trivial]
      refine Runs.bndc (runs_draw (by omega) (log_small (by omega) (by omega))) (c2 := 0) (Nat.le_refl _) fun d hd => ?_
      obtain ⟨r, rfl, r0, r1⟩ := hd
      exact Runs.ret ⟨1 + r, rfl, by omega, by omega⟩⟩
    have go : Runs (bnd (need (-(2 ^ 62) ≤ ((2 * k : Nat) : Int) ∧ ((2 * k : Nat) : Int) < 2 ^ 62) (ret (rangeD 0 (((2 * k : Nat) : Int)).toNat))) fun ds => need (ds.length ≤ sizeLine) (lcD [6] (tgN 6) cYes (dBin gAdd (dK (.int 1)) (dCall 2 gDraw (aCons (dVar 0) (aCons (dVar 2) (aNil))))) [.val (.rng z c), .val (.int ((2 * k : Nat) : Int)), .val (.int most), .emp, .emp, .emp, .emp] ds)) 12 fun l => ∃ ns : List Int, ns.length = 2 * k ∧ (∀ a ∈ ns, 1 ≤ a ∧ a ≤ most) ∧ l = ns.map .int := by
      rw [need_of (by omega), bnd_ret, Int.toNat_natCast, rangeD_nat, need_of (by simpa using hz)]
      refine k1.le (by simp; omega) fun xs hxs => ?_
      obtain ⟨ns, rfl, hns⟩ := ints_of hxs.2
      exact ⟨ns, by simpa using hxs.1, hns, rfl⟩
    exact go
  obtain ⟨ns, hl, hns, rfl⟩ := hl
  have hp : ∀ a ∈ ns, 1 ≤ a := fun a ha => (hns a ha).1
  let EV (row : List Int) (s4 s5 : Slot) : En := [.val (.rng z c), .val (.int ((2 * k : Nat) : Int)), .val (.int most), .own (row.map .int), s4, s5, .emp]
  generalize hmore : (evens ns).sum - (odds ns).sum = more
  refine runs_step (env' := EV ns (.val (.int more)) .emp) (by
    simp [EV, step_evens, step_odds, evens_map, odds_map, g_sum_l, hmore, scalarD]) ?_
  refine runs_asg (c1 := 1) (c2 := 0) (A := fun d => ∃ i : Nat, i < k ∧ d = .int (i : Nat)) ?_ (by omega) fun d hd => ?_
  · have dv : CDivW (2 * (k : Int)) 2 := ⟨by decide, by decide⟩
    simp [EV, dv]
    refine (runs_draw (by omega) (log_small (by omega) (by omega))).le (Nat.le_refl _) fun d hd => ?_
    obtain ⟨r, rfl, r0, r1⟩ := hd
    exact ⟨r.toNat, by omega, by congr 1; omega⟩
  obtain ⟨i, hi, rfl⟩ := hd
  have bound : ∀ (j : Nat) (v : Int), j < 2 * k → 1 ≤ v → v ≤ 10 ^ 22 → CornerOk (ns.set j v) := fun j v hj v1 v2 => by
    have hj' : j < ns.length := by omega
    refine ⟨by rw [List.length_set]; omega, by rw [List.length_set]; omega, fun a ha => ?_, ?_⟩
    · rcases List.mem_or_eq_of_mem_set ha with h | rfl
      · exact hp a h
      · exact v1
    · rw [sum_set hj']
      have q := sum_le (b := 10 ^ 20) fun a ha => Int.le_trans (hns a ha).2 m2
      have q2 := hp ns[j] (by simp)
      have q3 : (ns.length : Int) * 10 ^ 20 ≤ 12 * 10 ^ 20 := Int.mul_le_mul_of_nonneg_right (by omega) (by decide)
      omega
  have hev := evens_odds ns
  have he0 := (le_sum (ns := evens ns) fun a ha => hp a (evens_mem ns a ha)).2
  have ho0 := (le_sum (ns := odds ns) fun a ha => hp a (odds_mem ns a ha)).2
  have hsum : ns.sum ≤ 12 * 10 ^ 20 := by
    have q := sum_le (b := 10 ^ 20) fun a ha => Int.le_trans (hns a ha).2 m2
    have q3 : (ns.length : Int) * 10 ^ 20 ≤ 12 * 10 ^ 20 := Int.mul_le_mul_of_nonneg_right (by omega) (by decide)
    omega
  have at_ : ∀ j : Nat, j < ns.length → gIx (.lst (ns.map D.int)) (.int (j : Int)) = ret (.int (ns.getD j 0)) := fun j hj => ix_l (by rw [List.getElem?_map, List.getElem?_eq_getElem hj]; simp [List.getD_eq_getElem?_getD, hj])
  have atv : ∀ j : Nat, j < ns.length → 1 ≤ ns.getD j 0 ∧ ns.getD j 0 ≤ 10 ^ 20 := fun j hj => by
    have e : ns.getD j 0 = ns[j] := by simp [List.getD_eq_getElem?_getD, hj]
    rw [e]
    exact ⟨hp _ (by simp), Int.le_trans (hns _ (by simp)).2 m2⟩
  have cm : CMulW 2 (i : Int) := mulW_of (a := 5) (b := 20) (by decide) (by omega) (by decide) (by omega) (by decide) (by decide) (by decide)
  by_cases hm : 0 < more
  · have j1 : 2 * i + 1 < ns.length := by omega
    have q1 := at_ (2 * i + 1) j1
    have q2 := atv (2 * i + 1) j1
    have ej : 2 * (i : Int) + 1 = ((2 * i + 1 : Nat) : Int) := by omega
    have ix := ixN_nat (n := ns.length) (i := 2 * i + 1) j1
    refine runs_step (env' := EV (ns.set (2 * i + 1) (ns.getD (2 * i + 1) 0 + more)) (.val (.int more)) (.val (.int (i : Nat)))) (by
      simp only [EV, x_if, x_tst, x_bin, x_var, x_k, List.set_cons_succ, List.set_cons_zero, List.getElem?_cons_succ, List.getElem?_cons_zero, bnd_ret, g_gt_i]
      rw [decide_eq_true hm, if_pos rfl]
      simp [cm, ej, q1, ix, scalarD, List.map_set, -Int.natCast_add, -Int.natCast_mul]) ?_
    show Runs (ret (D.tup ((ns.set (2 * i + 1) (ns.getD (2 * i + 1) 0 + more)).map .int))) 0 _
    exact Runs.ret ⟨_, bound (2 * i + 1) (ns.getD (2 * i + 1) 0 + more) (by omega) (by omega) (by omega), rfl⟩
  · have j1 : 2 * i < ns.length := by omega
    have q1 := at_ (2 * i) j1
    have q2 := atv (2 * i) j1
    have ej : 2 * (i : Int) = ((2 * i : Nat) : Int) := by omega
    have ix := ixN_nat (n := ns.length) (i := 2 * i) j1
    refine runs_step (env' := EV (ns.set (2 * i) (ns.getD (2 * i) 0 - more)) (.val (.int more)) (.val (.int (i : Nat)))) (by
      simp only [EV, x_if, x_tst, x_bin, x_var, x_k, List.set_cons_succ, List.set_cons_zero, List.getElem?_cons_succ, List.getElem?_cons_zero, bnd_ret, g_gt_i]
      rw [decide_eq_false hm, if_neg Bool.false_ne_true]
      simp [cm, ej, q1, ix, scalarD, List.map_set, -Int.natCast_add, -Int.natCast_mul]) ?_
    show Runs (ret (D.tup ((ns.set (2 * i) (ns.getD (2 * i) 0 - more)).map .int))) 0 _
    exact Runs.ret ⟨_, bound (2 * i) (ns.getD (2 * i) 0 - more) (by omega) (by omega) (by omega), rfl⟩
theorem corner_any {ns : List Int} {n : Nat} {most : Int} (hl : ns.length = n) (h2 : 2 ≤ n) (hn : n ≤ 12) (hm : most ≤ 10 ^ 28) (h : ∀ a ∈ ns, 1 ≤ a ∧ a ≤ most) : CornerOk ns := by
  refine ⟨by omega, by omega, fun a ha => (h a ha).1, ?_⟩
  have q := sum_le (b := 10 ^ 28) fun a ha => Int.le_trans (h a ha).2 hm
  have q3 : (ns.length : Int) * 10 ^ 28 ≤ 12 * 10 ^ 28 := Int.mul_le_mul_of_nonneg_right (by omega) (by decide)
  omega
theorem runs_if {cnd : DTst} {t u : DStm} {env : En} {c1 c : Nat} {A : Bool → Prop} {S : Fl → Prop} (h : Runs (cnd env) c1 A) (hc : c1 ≤ c) (k : ∀ b, A b → Runs (if b = true then t env else u env) (c - c1) S) : Runs (sIf cnd t u env) c S := by
  rw [x_if]
  exact Runs.bndc h (by omega) k
def cornerB (ns : List Int) : Bool := decide (2 ≤ ns.length) && decide (ns.length ≤ 12) && ns.all (fun a => decide (1 ≤ a)) && decide (ns.sum ≤ 10 ^ 30)
theorem corner_dec (ns : List Int) (h : cornerB ns = true) : CornerOk ns := by
  unfold cornerB at h
  simp only [Bool.and_eq_true, decide_eq_true_eq, List.all_eq_true] at h
  obtain ⟨⟨⟨h1, h2⟩, h3⟩, h4⟩ := h
  constructor <;> first | exact h1 | exact h2 | exact h3 | exact h4
theorem q_closed (ns : List Int) (h : cornerB ns = true) {b : Bool} (hb : closedB ns = b) {ds : List D} (hd : ns.map .int = ds) : f_is_closed [.tup ds] = ret (.bl b) := by rw [← hd, z_is_closed (corner_dec ns h), hb]
theorem q_places (ns : List Int) (h : cornerB ns = true) {ps : List Int} (hb : placesL ns = ps) {ds es : List D} (hd : ns.map .int = ds) (he : ps.map .int = es) : f_places [.tup ds] = ret (.tup es) := by rw [← hd, z_places (corner_dec ns h), hb, he]
theorem q_overlaps (ns : List Int) (h : cornerB ns = true) (hc : closedB ns = true) {ps : List (Nat × Nat)} (hb : overlapsL ns = ps) {ds es : List D} (hd : ns.map .int = ds) (he : ps.map prN = es) : f_overlaps [.tup ds] = ret (.tup es) := by rw [← hd, z_overlaps (corner_dec ns h) hc, hb, he]
end PKG

end
section
set_option Elab.async false
set_option linter.all false
set_option maxRecDepth 100000
set_option maxHeartbeats 4000000
/-! P02a: corners judged, whatever the value. -/
namespace DL
open PySem PySem.Spec PyProof.Rows L2
variable [Tb]
def whD (lo hi : Int) : D → Bool
  | .int i => decide (lo ≤ i) && decide (i ≤ hi)
  | _ => false
/-- an item: what isinstance tells of it is known -/
def itD : D → Bool
  | .non | .bl _ | .int _ | .str _ | .tup _ | .lst _ | .dct _ => true
  | _ => false
def iiD : D → Int
  | .int i => i
  | _ => 0
theorem whD_int {lo hi : Int} : ∀ {l : List D}, l.all (whD lo hi) = true → l = (l.map iiD).map .int
  | [], _ => rfl
  | d :: l, h => by
    rw [List.all_cons, Bool.and_eq_true] at h
    rw [List.map_cons, List.map_cons, ← whD_int h.2]
    cases d with
    | int i => rfl
    | _ => cases h.1
/-- the judgement -/
def okC : D → Bool
  | .tup l => decide (2 ≤ l.length) && decide (l.length ≤ 12) && l.all (whD 1 (10 ^ 30)) && decide ((l.map iiD).sum ≤ 10 ^ 30)
  | _ => false
/-- values that may be asked -/
def AskD (d : D) : Prop := itD d = true ∧ ∀ l, d = .tup l → l.length ≤ 1000 ∧ l.all itD = true
end DL
namespace PKG
open PySem PySem.Spec PyProof.Rows L2 DL
variable [Tb]
theorem z_whole_any (d : D) (h : itD d = true) (lo hi : Int) : f_is_whole [d, .int lo, .int hi] = ret (.bl (whD lo hi d)) := by
  cases d with
  | int i => rw [z_is_whole]; rfl
  | bl b => simp [f_is_whole, s_is_whole, f_is_integer, s_is_integer, x_fn, gIsi, tyD, isiD, whD]
  | non => simp [f_is_whole, s_is_whole, f_is_integer, s_is_integer, x_fn, gIsi, tyD, isiD, whD]
  | str x => simp [f_is_whole, s_is_whole, f_is_integer, s_is_integer, x_fn, gIsi, tyD, isiD, whD]
  | tup l => simp [f_is_whole, s_is_whole, f_is_integer, s_is_integer, x_fn, gIsi, tyD, isiD, whD]
  | lst l => simp [f_is_whole, s_is_whole, f_is_integer, s_is_integer, x_fn, gIsi, tyD, isiD, whD]
  | dct l => simp [f_is_whole, s_is_whole, f_is_integer, s_is_integer, x_fn, gIsi, tyD, isiD, whD]
  | _ => cases h
theorem z_corner_any (d : D) (h : AskD d) : f_is_corner [d] = ret (.bl (okC d)) := by
  obtain ⟨h1, h2⟩ := h
  cases d with
  | tup l =>
    obtain ⟨hz, hi⟩ := h2 l rfl
    have zl : l.length ≤ sizeLine := szl hz
    have ty : gIsi [.tup l, .ty "tuple"] = ret (.bl true) := rfl
    have key : lcD [1] (tgN 1) cYes (dCall 3 f_is_whole (aCons (dVar 1) (aCons (dK (D.int 1)) (aCons (dK (D.int 1000000000000000000000000000000)) aNil)))) [Slot.val (D.tup l), Slot.emp] l = ret (l.map fun d => .bl (whD 1 (10 ^ 30) d)) := by
      have := lc_eq (vs := [1]) (tg := tgN 1) (f := dCall 3 f_is_whole (aCons (dVar 1) (aCons (dK (D.int 1)) (aCons (dK (D.int 1000000000000000000000000000000)) aNil)))) (env := [Slot.val (D.tup l), Slot.emp]) (m := fun d => d) (fun d => D.bl (whD 1 (10 ^ 30) d)) (l := l) fun d hd => ⟨_, rfl, by
        simp only [x_seq, x_asg, x_cb, x_acons, x_anil, x_if, x_tst, x_bin, x_un, x_var, x_k, x_lst, x_tup, x_ret, x_skip, x_sl, x_osome, x_onone, x_astar, x_seqD_t, x_seqD_l, bnd_ret, bnd_bnd, List.getElem?_cons_succ, List.getElem?_cons_zero, List.set_cons_succ, List.set_cons_zero, Bool.false_eq_true, if_true, if_false, x_call, x_wipe1, x_wipe0]
        rw [need_of (show ([d, .int 1, .int 1000000000000000000000000000000] : List D).length = 3 from rfl)]
        exact z_whole_any d (List.all_eq_true.mp hi d hd) 1 _⟩
      rwa [List.map_id'] at this
    have ga : gAll [.lst (l.map fun d => .bl (whD 1 (10 ^ 30) d))] = ret (.bl (l.all (whD 1 (10 ^ 30)))) := by
      have e2 : l.map (fun d => D.bl (whD 1 (10 ^ 30) d)) = (l.map (whD 1 (10 ^ 30))).map D.bl := by rw [List.map_map]; rfl
      rw [e2, g_all, List.all_map]
      congr 2
    have kl : dLc (iVal (dVar 0)) [1] (tgN 1) cYes (dCall 3 f_is_whole (aCons (dVar 1) (aCons (dK (D.int 1)) (aCons (dK (D.int 1000000000000000000000000000000)) aNil)))) [Slot.val (D.tup l), Slot.emp] = ret (.lst (l.map fun d => .bl (whD 1 (10 ^ 30) d))) := by
      rw [x_lc, x_ival]
      simp only [x_var, List.getElem?_cons_zero, bnd_ret, x_items_t]
      rw [need_of zl, key, bnd_ret]
    show fnOf _ s_is_corner _ = _
    rw [x_fn]
    change bnd (s_is_corner [.val (.tup l), .emp]) _ = _
    unfold s_is_corner okC
    simp only [x_seq, x_asg, x_cb, x_acons, x_anil, x_if, x_tst, x_bin, x_un, x_var, x_k, x_lst, x_tup, x_ret, x_skip, x_sl, x_osome, x_onone, x_astar, x_seqD_t, x_seqD_l, bnd_ret, bnd_bnd, List.getElem?_cons_succ, List.getElem?_cons_zero, List.set_cons_succ, List.set_cons_zero, Bool.false_eq_true, if_true, if_false, x_or, x_not, x_chain, ty, g_len_t, g_le_i, Bool.not_true]
    by_cases q1 : 2 ≤ l.length
    · have e1 : decide ((2 : Int) ≤ (l.length : Nat)) = true := by simp; omega
      by_cases q2 : l.length ≤ 12
      · have e2 : decide ((l.length : Int) ≤ 12) = true := by simp; omega
        simp only [x_seq, x_asg, x_cb, x_acons, x_anil, x_if, x_tst, x_bin, x_un, x_var, x_k, x_lst, x_tup, x_ret, x_skip, x_sl, x_osome, x_onone, x_astar, x_seqD_t, x_seqD_l, bnd_ret, bnd_bnd, List.getElem?_cons_succ, List.getElem?_cons_zero, List.set_cons_succ, List.set_cons_zero, Bool.false_eq_true, if_true, if_false, e1, e2, Bool.not_true, kl, ga, x_andv]
        cases q3 : l.all (whD 1 (10 ^ 30)) with
        | false => simp only [x_seq, x_asg, x_cb, x_acons, x_anil, x_if, x_tst, x_bin, x_un, x_var, x_k, x_lst, x_tup, x_ret, x_skip, x_sl, x_osome, x_onone, x_astar, x_seqD_t, x_seqD_l, bnd_ret, bnd_bnd, List.getElem?_cons_succ, List.getElem?_cons_zero, List.set_cons_succ, List.set_cons_zero, Bool.false_eq_true, if_true, if_false]; simp
        | true =>
          have gs : gSum [.tup l] = ret (.int (l.map iiD).sum) := by
            have e := whD_int q3
            have := g_sum_t (l.map iiD)
            rw [← e] at this
            exact this
          simp only [x_seq, x_asg, x_cb, x_acons, x_anil, x_if, x_tst, x_bin, x_un, x_var, x_k, x_lst, x_tup, x_ret, x_skip, x_sl, x_osome, x_onone, x_astar, x_seqD_t, x_seqD_l, bnd_ret, bnd_bnd, List.getElem?_cons_succ, List.getElem?_cons_zero, List.set_cons_succ, List.set_cons_zero, Bool.false_eq_true, if_true, if_false, gs, g_le_i]
          simp [q1, q2]
      · have e2 : decide ((l.length : Int) ≤ 12) = false := by simp; omega
        simp only [x_seq, x_asg, x_cb, x_acons, x_anil, x_if, x_tst, x_bin, x_un, x_var, x_k, x_lst, x_tup, x_ret, x_skip, x_sl, x_osome, x_onone, x_astar, x_seqD_t, x_seqD_l, bnd_ret, bnd_bnd, List.getElem?_cons_succ, List.getElem?_cons_zero, List.set_cons_succ, List.set_cons_zero, Bool.false_eq_true, if_true, if_false, e1, e2, Bool.not_false]
        simp [q2]
    · have e1 : decide ((2 : Int) ≤ (l.length : Nat)) = false := by simp; omega
      simp only [x_seq, x_asg, x_cb, x_acons, x_anil, x_if, x_tst, x_bin, x_un, x_var, x_k, x_lst, x_tup, x_ret, x_skip, x_sl, x_osome, x_onone, x_astar, x_seqD_t, x_seqD_l, bnd_ret, bnd_bnd, List.getElem?_cons_succ, List.getElem?_cons_zero, List.set_cons_succ, List.set_cons_zero, Bool.false_eq_true, if_true, if_false, e1, Bool.not_false]
      simp [q1]
  | bl b => rfl
  | non => rfl
  | str x => rfl
  | int l => rfl
  | lst l => rfl
  | dct l => rfl
  | _ => cases h1
end PKG
namespace Wk02
open PySem PySem.Spec PyProof.Rows L2 DL PKG
variable [Tb]
theorem z_lwhole (d : D) (h : itD d = true) (lo hi : Int) : f__law_is_whole [d, .int lo, .int hi] = ret (.bl (whD lo hi d)) := by
  cases d with
  | int i =>
    show fnOf _ s__law_is_whole _ = _
    rw [x_fn]
    change bnd (s__law_is_whole [.val (.int i), .val (.int lo), .val (.int hi)]) _ = _
    unfold s__law_is_whole
    simp only [x_seq, x_asg, x_cb, x_acons, x_anil, x_if, x_tst, x_bin, x_un, x_var, x_k, x_lst, x_tup, x_ret, x_skip, x_sl, x_osome, x_onone, x_astar, x_seqD_t, x_seqD_l, bnd_ret, bnd_bnd, List.getElem?_cons_succ, List.getElem?_cons_zero, List.set_cons_succ, List.set_cons_zero, Bool.false_eq_true, if_true, if_false, x_andv, x_notv, x_chain, show gIsi [.int i, .ty "int"] = ret (.bl true) from rfl, show gIsi [.int i, .ty "bool"] = ret (.bl false) from rfl, Bool.not_false, g_le_i]
    unfold whD
    by_cases q : lo ≤ i <;> simp [q]
  | bl b => rfl
  | non => rfl
  | str x => rfl
  | tup l => rfl
  | lst l => rfl
  | dct l => rfl
  | _ => cases h
theorem p30 : gPow (.int 10) (.int 30) = ret (.int (10 ^ 30)) := by rw [g_pow_i, need_of ⟨by decide, by decide, by decide⟩]; rfl
theorem p40 : gPow (.int 10) (.int 40) = ret (.int (10 ^ 40)) := by rw [g_pow_i, need_of ⟨by decide, by decide, by decide⟩]; rfl
theorem pl_const (l : List D) : plD 20 (.lst (l.map fun _ => D.int 1)) = true := by
  have := pl_ints (k := 19) (l.map fun _ => (1 : Int))
  rwa [List.map_map] at this
theorem z_lcorner (d : D) (h : AskD d) : f__law_is_corner [d] = ret (.bl (okC d)) := by
  obtain ⟨h1, h2⟩ := h
  cases d with
  | tup l =>
    obtain ⟨hz, hi⟩ := h2 l rfl
    have zl : l.length ≤ sizeLine := szl hz
    have ty : gIsi [.tup l, .ty "tuple"] = ret (.bl true) := rfl
    have key : lcD [1] (tgN 1) (dNot (dTst (dCall 3 f__law_is_whole (aCons (dVar 1) (aCons (dK (.int 1)) (aCons (dBin gPow (dK (.int 10)) (dK (.int 30))) (aNil))))))) (dK (.int 1)) [Slot.val (D.tup l), Slot.emp] l = ret ((l.filter fun d => !whD 1 (10 ^ 30) d).map fun _ => .int 1) := by
      have := lc_if (vs := [1]) (tg := tgN 1) (c := dNot (dTst (dCall 3 f__law_is_whole (aCons (dVar 1) (aCons (dK (.int 1)) (aCons (dBin gPow (dK (.int 10)) (dK (.int 30))) (aNil))))))) (f := dK (.int 1)) (env := [Slot.val (D.tup l), Slot.emp]) (m := fun d => d) (fun d => !whD 1 (10 ^ 30) d) (fun _ => D.int 1) (l := l) fun d hd => ⟨_, rfl, by
        simp only [x_seq, x_asg, x_cb, x_acons, x_anil, x_if, x_tst, x_bin, x_un, x_var, x_k, x_lst, x_tup, x_ret, x_skip, x_sl, x_osome, x_onone, x_astar, x_seqD_t, x_seqD_l, bnd_ret, bnd_bnd, List.getElem?_cons_succ, List.getElem?_cons_zero, List.set_cons_succ, List.set_cons_zero, Bool.false_eq_true, if_true, if_false, x_call, x_wipe1, x_wipe0, x_not, p30]
        rw [need_of (show ([d, .int 1, .int (10 ^ 30)] : List D).length = 3 from rfl), z_lwhole d (List.all_eq_true.mp hi d hd), bnd_ret, bnd_ret], fun _ => rfl⟩
      rwa [List.map_id'] at this
    have kl : dLc (iVal (dVar 0)) [1] (tgN 1) (dNot (dTst (dCall 3 f__law_is_whole (aCons (dVar 1) (aCons (dK (.int 1)) (aCons (dBin gPow (dK (.int 10)) (dK (.int 30))) (aNil))))))) (dK (.int 1)) [Slot.val (D.tup l), Slot.emp] = ret (.lst ((l.filter fun d => !whD 1 (10 ^ 30) d).map fun _ => .int 1)) := by
      rw [x_lc, x_ival]
      simp only [x_var, List.getElem?_cons_zero, bnd_ret, x_items_t]
      rw [need_of zl, key, bnd_ret]
    have ge : gEq false (.lst ((l.filter fun d => !whD 1 (10 ^ 30) d).map fun _ => .int 1)) (.lst []) = ret (.bl (l.all (whD 1 (10 ^ 30)))) := by
      rw [gEq_pl (pl_const _) rfl, eqD_nil _ (pl_const _)]
      have e : ((l.filter fun d => !whD 1 (10 ^ 30) d).map fun _ => D.int 1).isEmpty = l.all (whD 1 (10 ^ 30)) := by
        rw [Bool.eq_iff_iff, List.isEmpty_iff, List.map_eq_nil_iff, List.filter_eq_nil_iff, List.all_eq_true]
        simp
      rw [e]; simp
    have z0 : ([] : List D).length ≤ sizeLine := Nat.zero_le _
    show fnOf _ s__law_is_corner _ = _
    rw [x_fn]
    change bnd (s__law_is_corner [.val (.tup l), .emp]) _ = _
    unfold s__law_is_corner okC
    simp only [x_seq, x_asg, x_cb, x_acons, x_anil, x_if, x_tst, x_bin, x_un, x_var, x_k, x_lst, x_tup, x_ret, x_skip, x_sl, x_osome, x_onone, x_astar, x_seqD_t, x_seqD_l, bnd_ret, bnd_bnd, List.getElem?_cons_succ, List.getElem?_cons_zero, List.set_cons_succ, List.set_cons_zero, Bool.false_eq_true, if_true, if_false, x_or, x_not, x_chain, ty, g_len_t, g_le_i, Bool.not_true]
    by_cases q1 : 2 ≤ l.length
    · have e1 : decide ((2 : Int) ≤ (l.length : Nat)) = true := by simp; omega
      by_cases q2 : l.length ≤ 12
      · have e2 : decide ((l.length : Int) ≤ 12) = true := by simp; omega
        simp only [x_seq, x_asg, x_cb, x_acons, x_anil, x_if, x_tst, x_bin, x_un, x_var, x_k, x_lst, x_tup, x_ret, x_skip, x_sl, x_osome, x_onone, x_astar, x_seqD_t, x_seqD_l, bnd_ret, bnd_bnd, List.getElem?_cons_succ, List.getElem?_cons_zero, List.set_cons_succ, List.set_cons_zero, Bool.false_eq_true, if_true, if_false, e1, e2, Bool.not_true, kl, x_andv, need_of z0, ge]
        cases q3 : l.all (whD 1 (10 ^ 30)) with
        | false => simp only [x_seq, x_asg, x_cb, x_acons, x_anil, x_if, x_tst, x_bin, x_un, x_var, x_k, x_lst, x_tup, x_ret, x_skip, x_sl, x_osome, x_onone, x_astar, x_seqD_t, x_seqD_l, bnd_ret, bnd_bnd, List.getElem?_cons_succ, List.getElem?_cons_zero, List.set_cons_succ, List.set_cons_zero, Bool.false_eq_true, if_true, if_false]; simp
        | true =>
          have gs : gSum [.tup l] = ret (.int (l.map iiD).sum) := by
            have e := whD_int q3
            have := g_sum_t (l.map iiD)
            rw [← e] at this
            exact this
          simp only [x_seq, x_asg, x_cb, x_acons, x_anil, x_if, x_tst, x_bin, x_un, x_var, x_k, x_lst, x_tup, x_ret, x_skip, x_sl, x_osome, x_onone, x_astar, x_seqD_t, x_seqD_l, bnd_ret, bnd_bnd, List.getElem?_cons_succ, List.getElem?_cons_zero, List.set_cons_succ, List.set_cons_zero, Bool.false_eq_true, if_true, if_false, gs, g_le_i, p30]
          simp [q1, q2]
      · have e2 : decide ((l.length : Int) ≤ 12) = false := by simp; omega
        simp only [x_seq, x_asg, x_cb, x_acons, x_anil, x_if, x_tst, x_bin, x_un, x_var, x_k, x_lst, x_tup, x_ret, x_skip, x_sl, x_osome, x_onone, x_astar, x_seqD_t, x_seqD_l, bnd_ret, bnd_bnd, List.getElem?_cons_succ, List.getElem?_cons_zero, List.set_cons_succ, List.set_cons_zero, Bool.false_eq_true, if_true, if_false, e1, e2, Bool.not_false]
        simp [q2]
    · have e1 : decide ((2 : Int) ≤ (l.length : Nat)) = false := by simp; omega
      simp only [x_seq, x_asg, x_cb, x_acons, x_anil, x_if, x_tst, x_bin, x_un, x_var, x_k, x_lst, x_tup, x_ret, x_skip, x_sl, x_osome, x_onone, x_astar, x_seqD_t, x_seqD_l, bnd_ret, bnd_bnd, List.getElem?_cons_succ, List.getElem?_cons_zero, List.set_cons_succ, List.set_cons_zero, Bool.false_eq_true, if_true, if_false, e1, Bool.not_false]
      simp [q1]
  | bl b => rfl
  | non => rfl
  | str x => rfl
  | int l => rfl
  | lst l => rfl
  | dct l => rfl
  | _ => cases h1
theorem z_needC (d : D) (h : AskD d) : f_need_corner [d] = if okC d = true then ret d else rais (.exc "BadCorner" d) := by
  show fnOf _ s_need_corner _ = _
  rw [x_fn]
  change bnd (s_need_corner [.val d]) _ = _
  unfold s_need_corner
  simp only [x_seq, x_asg, x_cb, x_acons, x_anil, x_if, x_tst, x_bin, x_un, x_var, x_k, x_lst, x_tup, x_ret, x_skip, x_sl, x_osome, x_onone, x_astar, x_seqD_t, x_seqD_l, bnd_ret, bnd_bnd, List.getElem?_cons_succ, List.getElem?_cons_zero, List.set_cons_succ, List.set_cons_zero, Bool.false_eq_true, if_true, if_false, x_not, x_call]
  rw [need_of (show ([d] : List D).length = 1 from rfl), z_corner_any d h]
  cases okC d with
  | true => simp only [x_seq, x_asg, x_cb, x_acons, x_anil, x_if, x_tst, x_bin, x_un, x_var, x_k, x_lst, x_tup, x_ret, x_skip, x_sl, x_osome, x_onone, x_astar, x_seqD_t, x_seqD_l, bnd_ret, bnd_bnd, List.getElem?_cons_succ, List.getElem?_cons_zero, List.set_cons_succ, List.set_cons_zero, Bool.false_eq_true, if_true, if_false, Bool.not_true]
  | false => simp only [x_seq, x_asg, x_cb, x_acons, x_anil, x_if, x_tst, x_bin, x_un, x_var, x_k, x_lst, x_tup, x_ret, x_skip, x_sl, x_osome, x_onone, x_astar, x_seqD_t, x_seqD_l, bnd_ret, bnd_bnd, List.getElem?_cons_succ, List.getElem?_cons_zero, List.set_cons_succ, List.set_cons_zero, Bool.false_eq_true, if_true, if_false, Bool.not_false, x_raise]; rfl
/-! signs -/
def mvC (c : Nat) : Bool := decide (c = 77) || decide (c = 86)
def okS (n : Nat) : D → Bool
  | .str x => decide (x.length = n) && x.cps.toList.all mvC
  | _ => false
end Wk02

end
section
set_option Elab.async false
set_option linter.all false
set_option maxRecDepth 100000
set_option maxHeartbeats 4000000
/-! NO3 P02b: signs judged; outcomes; what _law_is tells. -/
namespace Wk02
open PySem PySem.Spec PyProof.Rows L2 DL PKG
variable [Tb]
abbrev ch (c : Nat) : Str := ⟨#[c]⟩
theorem items_str (w : Str) : itemsOf (.str w) = ret (w.cps.toList.map fun c => D.str (ch c)) := rfl
theorem len_tl (w : Str) : w.cps.toList.length = w.length := Array.length_toList
theorem ch_inj {a b : Nat} : ch a = ch b ↔ a = b := by
  constructor
  · intro h
    have : (ch a).cps.toList = (ch b).cps.toList := by rw [h]
    simpa using this
  · rintro rfl; rfl
theorem in_mvN (neg : Bool) (c : Nat) : gIn neg (.str (ch c)) (.tup [.str "M", .str "V"]) = ret (.bl (if neg then !mvC c else mvC c)) := by
  have e1 : ("M" : Str) = ch 77 := by decide +kernel
  have e2 : ("V" : Str) = ch 86 := by decide +kernel
  rw [e1, e2]
  have e : inV (V.str (ch c)) [V.str (ch 77), V.str (ch 86)] = mvC c := by
    show (decide (ch 77 = ch c) || (decide (ch 86 = ch c) || false)) = _
    rw [Bool.or_false]
    unfold mvC
    congr 1 <;> rw [decide_eq_decide, ch_inj] <;> exact eq_comm
  show need (true = true ∧ true = true) (ret (D.bl (if neg then !inV (V.str (ch c)) [V.str (ch 77), V.str (ch 86)] else inV (V.str (ch c)) [V.str (ch 77), V.str (ch 86)]))) = _
  rw [need_of ⟨rfl, rfl⟩, e]
theorem z_needS (l : List D) (hl : AskD (.tup l)) (ho : okC (.tup l) = true) (d : D) (hd : itD d = true) (hx : ∀ x, d = .str x → x.length ≤ 1000) : f_need_signs [.tup l, d] = if okS l.length d = true then ret d else rais (.exc "BadSigns" d) := by
  have n1 : ∀ d : D, ([d] : List D).length = 1 := fun _ => rfl
  show fnOf _ s_need_signs _ = _
  rw [x_fn]
  change bnd (s_need_signs [.val (.tup l), .val d, .emp]) _ = _
  unfold s_need_signs
  simp only [x_seq, x_asg, x_cb, x_acons, x_anil, x_if, x_tst, x_bin, x_un, x_var, x_k, x_lst, x_tup, x_ret, x_skip, x_sl, x_osome, x_onone, x_astar, x_seqD_t, x_seqD_l, bnd_ret, bnd_bnd, List.getElem?_cons_succ, List.getElem?_cons_zero, List.set_cons_succ, List.set_cons_zero, Bool.false_eq_true, if_true, if_false, x_not, x_call, x_or, x_drop, need_of (n1 _), z_needC _ hl, ho]
  cases d with
  | str x =>
    have hz := hx x rfl
    have gl : gLen [.str x] = ret (.int (x.length : Nat)) := by rw [g_len_s, need_of (szl hz)]
    have ka : dLc (iVal (dVar 1)) [2] (tgN 2) cYes (dBin (gIn false) (dVar 2) (dTup (aCons (dK (.str "M")) (aCons (dK (.str "V")) aNil)))) [.val (.tup l), .val (.str x), .emp] = ret (.lst (x.cps.toList.map fun c => D.bl (mvC c))) := by
      rw [x_lc, x_ival]
      simp only [x_var, List.getElem?_cons_zero, List.getElem?_cons_succ, bnd_ret, items_str]
      rw [need_of (by rw [List.length_map, len_tl]; exact szl hz), lc_eq (g := fun c => D.bl (mvC c)) (h := fun c hc => ⟨_, rfl, by
        simp only [x_seq, x_asg, x_cb, x_acons, x_anil, x_if, x_tst, x_bin, x_un, x_var, x_k, x_lst, x_tup, x_ret, x_skip, x_sl, x_osome, x_onone, x_astar, x_seqD_t, x_seqD_l, bnd_ret, bnd_bnd, List.getElem?_cons_succ, List.getElem?_cons_zero, List.set_cons_succ, List.set_cons_zero, Bool.false_eq_true, if_true, if_false, x_wipe1, x_wipe0]
        rw [need_of (szl (show ([.str "M", .str "V"] : List D).length ≤ 1000 by simp)), bnd_ret, in_mvN]; rfl⟩), bnd_ret]
    have ga : gAll [.lst (x.cps.toList.map fun c => D.bl (mvC c))] = ret (.bl (x.cps.toList.all mvC)) := by
      have e2 : x.cps.toList.map (fun c => D.bl (mvC c)) = (x.cps.toList.map mvC).map D.bl := by rw [List.map_map]; rfl
      rw [e2, g_all, List.all_map]
      congr 2
    simp only [x_seq, x_asg, x_cb, x_acons, x_anil, x_if, x_tst, x_bin, x_un, x_var, x_k, x_lst, x_tup, x_ret, x_skip, x_sl, x_osome, x_onone, x_astar, x_seqD_t, x_seqD_l, bnd_ret, bnd_bnd, List.getElem?_cons_succ, List.getElem?_cons_zero, List.set_cons_succ, List.set_cons_zero, Bool.false_eq_true, if_true, if_false, show gIsi [.str x, .ty "str"] = ret (.bl true) from rfl, gl, g_len_t, g_eq_i, Bool.not_true]
    unfold okS
    by_cases h1 : x.length = l.length
    · have e1 : decide ((x.length : Int) = (l.length : Nat)) = true := by simp [h1]
      simp only [x_seq, x_asg, x_cb, x_acons, x_anil, x_if, x_tst, x_bin, x_un, x_var, x_k, x_lst, x_tup, x_ret, x_skip, x_sl, x_osome, x_onone, x_astar, x_seqD_t, x_seqD_l, bnd_ret, bnd_bnd, List.getElem?_cons_succ, List.getElem?_cons_zero, List.set_cons_succ, List.set_cons_zero, Bool.false_eq_true, if_true, if_false, e1, Bool.not_true, ka, ga]
      rcases Bool.eq_false_or_eq_true (x.cps.toList.all mvC) with h2 | h2
      · simp only [x_seq, x_asg, x_cb, x_acons, x_anil, x_if, x_tst, x_bin, x_un, x_var, x_k, x_lst, x_tup, x_ret, x_skip, x_sl, x_osome, x_onone, x_astar, x_seqD_t, x_seqD_l, bnd_ret, bnd_bnd, List.getElem?_cons_succ, List.getElem?_cons_zero, List.set_cons_succ, List.set_cons_zero, Bool.false_eq_true, if_true, if_false, h2, Bool.not_true]; simp [h1, h2]
      · simp only [x_seq, x_asg, x_cb, x_acons, x_anil, x_if, x_tst, x_bin, x_un, x_var, x_k, x_lst, x_tup, x_ret, x_skip, x_sl, x_osome, x_onone, x_astar, x_seqD_t, x_seqD_l, bnd_ret, bnd_bnd, List.getElem?_cons_succ, List.getElem?_cons_zero, List.set_cons_succ, List.set_cons_zero, Bool.false_eq_true, if_true, if_false, h2, Bool.not_false, x_raise]; simp [h2, bnd_rais]
    · have e1 : decide ((x.length : Int) = (l.length : Nat)) = false := by simp; omega
      simp only [x_seq, x_asg, x_cb, x_acons, x_anil, x_if, x_tst, x_bin, x_un, x_var, x_k, x_lst, x_tup, x_ret, x_skip, x_sl, x_osome, x_onone, x_astar, x_seqD_t, x_seqD_l, bnd_ret, bnd_bnd, List.getElem?_cons_succ, List.getElem?_cons_zero, List.set_cons_succ, List.set_cons_zero, Bool.false_eq_true, if_true, if_false, e1, Bool.not_false, x_raise]
      simp [h1, bnd_rais]
  | non => simp only [x_seq, x_asg, x_cb, x_acons, x_anil, x_if, x_tst, x_bin, x_un, x_var, x_k, x_lst, x_tup, x_ret, x_skip, x_sl, x_osome, x_onone, x_astar, x_seqD_t, x_seqD_l, bnd_ret, bnd_bnd, List.getElem?_cons_succ, List.getElem?_cons_zero, List.set_cons_succ, List.set_cons_zero, Bool.false_eq_true, if_true, if_false, show gIsi [.non, .ty "str"] = ret (.bl false) from rfl, Bool.not_false, x_raise]; rfl
  | bl b => simp only [x_seq, x_asg, x_cb, x_acons, x_anil, x_if, x_tst, x_bin, x_un, x_var, x_k, x_lst, x_tup, x_ret, x_skip, x_sl, x_osome, x_onone, x_astar, x_seqD_t, x_seqD_l, bnd_ret, bnd_bnd, List.getElem?_cons_succ, List.getElem?_cons_zero, List.set_cons_succ, List.set_cons_zero, Bool.false_eq_true, if_true, if_false, show gIsi [.bl b, .ty "str"] = ret (.bl false) from rfl, Bool.not_false, x_raise]; rfl
  | int b => simp only [x_seq, x_asg, x_cb, x_acons, x_anil, x_if, x_tst, x_bin, x_un, x_var, x_k, x_lst, x_tup, x_ret, x_skip, x_sl, x_osome, x_onone, x_astar, x_seqD_t, x_seqD_l, bnd_ret, bnd_bnd, List.getElem?_cons_succ, List.getElem?_cons_zero, List.set_cons_succ, List.set_cons_zero, Bool.false_eq_true, if_true, if_false, show gIsi [.int b, .ty "str"] = ret (.bl false) from rfl, Bool.not_false, x_raise]; rfl
  | tup b => simp only [x_seq, x_asg, x_cb, x_acons, x_anil, x_if, x_tst, x_bin, x_un, x_var, x_k, x_lst, x_tup, x_ret, x_skip, x_sl, x_osome, x_onone, x_astar, x_seqD_t, x_seqD_l, bnd_ret, bnd_bnd, List.getElem?_cons_succ, List.getElem?_cons_zero, List.set_cons_succ, List.set_cons_zero, Bool.false_eq_true, if_true, if_false, show gIsi [.tup b, .ty "str"] = ret (.bl false) from rfl, Bool.not_false, x_raise]; rfl
  | lst b => simp only [x_seq, x_asg, x_cb, x_acons, x_anil, x_if, x_tst, x_bin, x_un, x_var, x_k, x_lst, x_tup, x_ret, x_skip, x_sl, x_osome, x_onone, x_astar, x_seqD_t, x_seqD_l, bnd_ret, bnd_bnd, List.getElem?_cons_succ, List.getElem?_cons_zero, List.set_cons_succ, List.set_cons_zero, Bool.false_eq_true, if_true, if_false, show gIsi [.lst b, .ty "str"] = ret (.bl false) from rfl, Bool.not_false, x_raise]; rfl
  | dct b => simp only [x_seq, x_asg, x_cb, x_acons, x_anil, x_if, x_tst, x_bin, x_un, x_var, x_k, x_lst, x_tup, x_ret, x_skip, x_sl, x_osome, x_onone, x_astar, x_seqD_t, x_seqD_l, bnd_ret, bnd_bnd, List.getElem?_cons_succ, List.getElem?_cons_zero, List.set_cons_succ, List.set_cons_zero, Bool.false_eq_true, if_true, if_false, show gIsi [.dct b, .ty "str"] = ret (.bl false) from rfl, Bool.not_false, x_raise]; rfl
  | _ => cases hd
theorem z_needS_bad (r d : D) (hr : AskD r) (ho : okC r = false) : f_need_signs [r, d] = rais (.exc "BadCorner" r) := by
  have n1 : ∀ d : D, ([d] : List D).length = 1 := fun _ => rfl
  show fnOf _ s_need_signs _ = _
  rw [x_fn]
  change bnd (s_need_signs [.val r, .val d, .emp]) _ = _
  unfold s_need_signs
  simp only [x_seq, x_asg, x_cb, x_acons, x_anil, x_if, x_tst, x_bin, x_un, x_var, x_k, x_lst, x_tup, x_ret, x_skip, x_sl, x_osome, x_onone, x_astar, x_seqD_t, x_seqD_l, bnd_ret, bnd_bnd, List.getElem?_cons_succ, List.getElem?_cons_zero, List.set_cons_succ, List.set_cons_zero, Bool.false_eq_true, if_true, if_false, x_not, x_call, x_or, x_drop, need_of (n1 _), z_needC _ hr, ho]
  rfl
theorem z_lsigns (l : List D) (d : D) (hd : itD d = true) (hx : ∀ x, d = .str x → x.length ≤ 1000) : f__law_are_signs [.tup l, d] = ret (.bl (okS l.length d)) := by
  show fnOf _ s__law_are_signs _ = _
  rw [x_fn]
  change bnd (s__law_are_signs [.val (.tup l), .val d, .emp]) _ = _
  unfold s__law_are_signs
  cases d with
  | str x =>
    have hz := hx x rfl
    have gl : gLen [.str x] = ret (.int (x.length : Nat)) := by rw [g_len_s, need_of (szl hz)]
    have z0 : ([] : List D).length ≤ sizeLine := Nat.zero_le _
    have ka : dLc (iVal (dVar 1)) [2] (tgN 2) (dTst (dBin (gIn true) (dVar 2) (dTup (aCons (dK (.str "M")) (aCons (dK (.str "V")) aNil))))) (dK (.int 1)) [.val (.tup l), .val (.str x), .emp] = ret (.lst ((x.cps.toList.filter fun c => !mvC c).map fun _ => D.int 1)) := by
      rw [x_lc, x_ival]
      simp only [x_var, List.getElem?_cons_zero, List.getElem?_cons_succ, bnd_ret, items_str]
      rw [need_of (by rw [List.length_map, len_tl]; exact szl hz), lc_if (fun c => !mvC c) (fun _ => D.int 1) (h := fun c hc => ⟨_, rfl, by
        simp only [x_seq, x_asg, x_cb, x_acons, x_anil, x_if, x_tst, x_bin, x_un, x_var, x_k, x_lst, x_tup, x_ret, x_skip, x_sl, x_osome, x_onone, x_astar, x_seqD_t, x_seqD_l, bnd_ret, bnd_bnd, List.getElem?_cons_succ, List.getElem?_cons_zero, List.set_cons_succ, List.set_cons_zero, Bool.false_eq_true, if_true, if_false, x_wipe1, x_wipe0]
        rw [need_of (szl (show ([.str "M", .str "V"] : List D).length ≤ 1000 by simp)), bnd_ret, in_mvN, bnd_ret]; rfl, fun _ => rfl⟩), bnd_ret]
    have pl : plD 20 (.lst ((x.cps.toList.filter fun c => !mvC c).map fun _ => D.int 1)) = true := by
      have := pl_ints (k := 19) ((x.cps.toList.filter fun c => !mvC c).map fun _ => (1 : Int))
      rwa [List.map_map] at this
    have ge : gEq false (.lst ((x.cps.toList.filter fun c => !mvC c).map fun _ => D.int 1)) (.lst []) = ret (.bl (x.cps.toList.all mvC)) := by
      rw [gEq_pl pl rfl, eqD_nil _ pl]
      have e : ((x.cps.toList.filter fun c => !mvC c).map fun _ => D.int 1).isEmpty = x.cps.toList.all mvC := by
        rw [Bool.eq_iff_iff, List.isEmpty_iff, List.map_eq_nil_iff, List.filter_eq_nil_iff, List.all_eq_true]
        simp
      rw [e]; simp
    simp only [x_seq, x_asg, x_cb, x_acons, x_anil, x_if, x_tst, x_bin, x_un, x_var, x_k, x_lst, x_tup, x_ret, x_skip, x_sl, x_osome, x_onone, x_astar, x_seqD_t, x_seqD_l, bnd_ret, bnd_bnd, List.getElem?_cons_succ, List.getElem?_cons_zero, List.set_cons_succ, List.set_cons_zero, Bool.false_eq_true, if_true, if_false, x_andv, show gIsi [.str x, .ty "str"] = ret (.bl true) from rfl, gl, g_len_t, g_eq_i, ka, need_of z0, ge]
    unfold okS
    by_cases h1 : x.length = l.length
    · simp [h1]
    · have e1 : decide ((x.length : Int) = (l.length : Nat)) = false := by simp; omega
      simp [e1, h1]
  | non => simp only [x_seq, x_asg, x_cb, x_acons, x_anil, x_if, x_tst, x_bin, x_un, x_var, x_k, x_lst, x_tup, x_ret, x_skip, x_sl, x_osome, x_onone, x_astar, x_seqD_t, x_seqD_l, bnd_ret, bnd_bnd, List.getElem?_cons_succ, List.getElem?_cons_zero, List.set_cons_succ, List.set_cons_zero, Bool.false_eq_true, if_true, if_false, x_andv, show gIsi [.non, .ty "str"] = ret (.bl false) from rfl]; rfl
  | bl b => simp only [x_seq, x_asg, x_cb, x_acons, x_anil, x_if, x_tst, x_bin, x_un, x_var, x_k, x_lst, x_tup, x_ret, x_skip, x_sl, x_osome, x_onone, x_astar, x_seqD_t, x_seqD_l, bnd_ret, bnd_bnd, List.getElem?_cons_succ, List.getElem?_cons_zero, List.set_cons_succ, List.set_cons_zero, Bool.false_eq_true, if_true, if_false, x_andv, show gIsi [.bl b, .ty "str"] = ret (.bl false) from rfl]; rfl
  | int b => simp only [x_seq, x_asg, x_cb, x_acons, x_anil, x_if, x_tst, x_bin, x_un, x_var, x_k, x_lst, x_tup, x_ret, x_skip, x_sl, x_osome, x_onone, x_astar, x_seqD_t, x_seqD_l, bnd_ret, bnd_bnd, List.getElem?_cons_succ, List.getElem?_cons_zero, List.set_cons_succ, List.set_cons_zero, Bool.false_eq_true, if_true, if_false, x_andv, show gIsi [.int b, .ty "str"] = ret (.bl false) from rfl]; rfl
  | tup b => simp only [x_seq, x_asg, x_cb, x_acons, x_anil, x_if, x_tst, x_bin, x_un, x_var, x_k, x_lst, x_tup, x_ret, x_skip, x_sl, x_osome, x_onone, x_astar, x_seqD_t, x_seqD_l, bnd_ret, bnd_bnd, List.getElem?_cons_succ, List.getElem?_cons_zero, List.set_cons_succ, List.set_cons_zero, Bool.false_eq_true, if_true, if_false, x_andv, show gIsi [.tup b, .ty "str"] = ret (.bl false) from rfl]; rfl
  | lst b => simp only [x_seq, x_asg, x_cb, x_acons, x_anil, x_if, x_tst, x_bin, x_un, x_var, x_k, x_lst, x_tup, x_ret, x_skip, x_sl, x_osome, x_onone, x_astar, x_seqD_t, x_seqD_l, bnd_ret, bnd_bnd, List.getElem?_cons_succ, List.getElem?_cons_zero, List.set_cons_succ, List.set_cons_zero, Bool.false_eq_true, if_true, if_false, x_andv, show gIsi [.lst b, .ty "str"] = ret (.bl false) from rfl]; rfl
  | dct b => simp only [x_seq, x_asg, x_cb, x_acons, x_anil, x_if, x_tst, x_bin, x_un, x_var, x_k, x_lst, x_tup, x_ret, x_skip, x_sl, x_osome, x_onone, x_astar, x_seqD_t, x_seqD_l, bnd_ret, bnd_bnd, List.getElem?_cons_succ, List.getElem?_cons_zero, List.set_cons_succ, List.set_cons_zero, Bool.false_eq_true, if_true, if_false, x_andv, show gIsi [.dct b, .ty "str"] = ret (.bl false) from rfl]; rfl
  | _ => cases hd
theorem word_of (c w : Str) (p : D) (hc : c ∈ oks) (h : (c, w) ∈ [(("BadCorner" : Str), ("corner" : Str)), ("BadSigns", "signs")]) : f__law_word [.exc c p] = ret (.tup [.str w, p]) := by
  have g : ∀ d : Str, d ∈ cls → gIsE oks cls [.exc c p, .fn d] = ret (.bl (decide (c = d))) := fun d hd => by
    show need _ _ = _
    rw [need_of ⟨hc, hd⟩]
  have z : 0 ≤ sizeLine := Nat.zero_le _
  have z2 : 0 + 1 + 1 ≤ sizeLine := szl (by simp)
  have z3 : 0 < sizeLine := szl2 (by simp)
  have eqi : gEq false (.int ((0 + 1 : Nat) : Int)) (.int 1) = ret (.bl true) := by rw [g_eq_i]; rfl
  simp only [List.mem_cons, Prod.mk.injEq, List.not_mem_nil, or_false] at h
  show fnOf _ s__law_word _ = _
  rw [x_fn]
  change bnd (s__law_word [.val (.exc c p), .emp]) _ = _
  unfold s__law_word
  rcases h with ⟨rfl, rfl⟩ | ⟨rfl, rfl⟩
  · have gF : ∀ d : Str, d ∈ cls → ("BadCorner" : Str) ≠ d → gIsE oks cls [.exc "BadCorner" p, .fn d] = ret (.bl false) := fun d hd hn => by rw [g d hd, decide_eq_false hn]
    have gT : gIsE oks cls [.exc "BadCorner" p, .fn "BadCorner"] = ret (.bl true) := by rw [g _ (by decide), decide_eq_true rfl]
    have nd : ("BadCorner" : Str) ∈ oks ∧ fieldOf "BadCorner" = ("value" : Str) := ⟨hc, by decide⟩
    simp only [x_seq, x_asg, x_cb, x_acons, x_anil, x_if, x_tst, x_bin, x_un, x_var, x_k, x_lst, x_tup, x_ret, x_skip, x_sl, x_osome, x_onone, x_astar, x_seqD_t, x_seqD_l, bnd_ret, bnd_bnd, List.getElem?_cons_succ, List.getElem?_cons_zero, List.set_cons_succ, List.set_cons_zero, Bool.false_eq_true, if_true, if_false, x_own, x_flst, x_app, x_dfld, need_of z, need_of z3, need_of nd, need_of z2, List.nil_append, x_frz, x_ife, g_len_l, List.length_cons, List.length_nil, eqi, ix_l0, gF "BadNumber" (by decide) (by decide), gF "BadPaper" (by decide) (by decide), gF "BadSigns" (by decide) (by decide), gF "BadStack" (by decide) (by decide), gF "BadText" (by decide) (by decide), gF "Nothing" (by decide) (by decide), gF "TooGreat" (by decide) (by decide), gT]
  · have gF : ∀ d : Str, d ∈ cls → ("BadSigns" : Str) ≠ d → gIsE oks cls [.exc "BadSigns" p, .fn d] = ret (.bl false) := fun d hd hn => by rw [g d hd, decide_eq_false hn]
    have gT : gIsE oks cls [.exc "BadSigns" p, .fn "BadSigns"] = ret (.bl true) := by rw [g _ (by decide), decide_eq_true rfl]
    have nd : ("BadSigns" : Str) ∈ oks ∧ fieldOf "BadSigns" = ("value" : Str) := ⟨hc, by decide⟩
    simp only [x_seq, x_asg, x_cb, x_acons, x_anil, x_if, x_tst, x_bin, x_un, x_var, x_k, x_lst, x_tup, x_ret, x_skip, x_sl, x_osome, x_onone, x_astar, x_seqD_t, x_seqD_l, bnd_ret, bnd_bnd, List.getElem?_cons_succ, List.getElem?_cons_zero, List.set_cons_succ, List.set_cons_zero, Bool.false_eq_true, if_true, if_false, x_own, x_flst, x_app, x_dfld, need_of z, need_of z3, need_of nd, need_of z2, List.nil_append, x_frz, x_ife, g_len_l, List.length_cons, List.length_nil, eqi, ix_l0, gF "BadCorner" (by decide) (by decide), gF "BadNumber" (by decide) (by decide), gF "BadPaper" (by decide) (by decide), gF "BadStack" (by decide) (by decide), gF "BadText" (by decide) (by decide), gF "Nothing" (by decide) (by decide), gF "TooGreat" (by decide) (by decide), gT]
theorem okC_ : ("BadCorner" : Str) ∈ oks := by simp [oks]
theorem okS_ : ("BadSigns" : Str) ∈ oks := by simp [oks]
/-- a value whose repr is had, alone and inside what is compared -/
structure Tell (d : D) : Prop where
  a : wtE 18 d ≤ 100000
  b : wtE 20 d ≤ 100000
theorem tellL {d : D} (h : Tell d) : wtE 20 (.lst [.lst [d], .lst [d]]) ≤ 16000000 := by
  have := h.a
  simp only [wtE, List.map_cons, List.map_nil, List.sum_cons, List.sum_nil]
  omega
theorem tellT {d : D} {w : Str} (h : Tell d) (hw : wtE 18 (.str w) ≤ 1000) : wtE 20 (.lst [.tup [.str w, d], .tup [.str w, d]]) ≤ 16000000 := by
  have := h.a
  have e : ∀ d : D, wtE 20 (.lst [.tup [.str w, d], .tup [.str w, d]]) = ((wtE 18 (.str w) + 2 + (wtE 18 d + 2 + 0)) + 3 + 2 + (((wtE 18 (.str w) + 2 + (wtE 18 d + 2 + 0)) + 3 + 2) + 0)) + 3 := fun d => by
    simp only [wtE, List.map_cons, List.map_nil, List.sum_cons, List.sum_nil]
  rw [e]
  omega
theorem z_is (w c : Str) (d : D) (h : Bool) (m : M D) (hc : c ∈ oks) (hw : (c, w) ∈ [(("BadCorner" : Str), ("corner" : Str)), ("BadSigns", "signs")]) (hm : m = if h = true then ret d else rais (.exc c d)) (t : Tell d) (tw : wtE 18 (.str w) ≤ 1000) :
    ph__law_is m [.str w, d, .bl h] = ret (.bl true) := by
  have n0 : ∀ d : D, ([] : List D).length = 0 := fun _ => rfl
  have z1 : ∀ d : D, ([d] : List D).length ≤ sizeLine := fun _ => szl (by simp)
  have z2 : ∀ d e : D, ([d, e] : List D).length ≤ sizeLine := fun _ _ => szl (by simp)
  have rd := gReprN_ok (d := d) (by have := t.b; omega)
  have sq : ∀ x : Str, gEq false (.str x) (.str x) = ret (.bl true) := fun x => by rw [g_eq_s]; simp
  have out : ph__law_outcome m [] = ret (if h = true then .lst [d] else .tup [.str w, d]) := by
    unfold ph__law_outcome
    rw [hm]
    cases h with
    | true => exact out_ret
    | false => 
      rw [if_neg (by simp), if_neg (by simp), out_rais hc, word_of _ _ _ hc hw]
  unfold ph__law_is sg__law_is DL.body stE
  cases h with
  | true =>
    have rl := gReprN_ok (tellL t)
    simp (maxSteps := 1000000) (disch := (first | exact trivial | assumption | (refine zz3 ?_; first | assumption | decide | ((try simp only [List.length_append, List.length_map, List.length_cons, List.length_nil, List.length_zip, List.length_drop, List.length_take, List.length_range, List.length_zipIdx, sg_len, rot_len]); omega)) | (refine zz4 ?_; first | assumption | decide | ((try simp only [List.length_append, List.length_map, List.length_cons, List.length_nil, List.length_zip, List.length_drop, List.length_take, List.length_range, List.length_zipIdx, sg_len, rot_len]); omega)) | decide)) only [x_seq, x_asg, x_cb, x_acons, x_anil, x_if, x_tst, x_bin, x_un, x_var, x_k, x_lst, x_tup, x_ret, x_skip, x_sl, x_osome, x_onone, x_astar, x_seqD_t, x_seqD_l, bnd_ret, bnd_bnd, List.getElem?_cons_succ, List.getElem?_cons_zero, List.set_cons_succ, List.set_cons_zero, Bool.false_eq_true, if_true, if_false, x_own, x_flst, x_for, x_ir1, x_ir2, x_lc, x_ival, x_items_l, x_items_t, x_app, x_peek, x_peekL, x_tpeek, x_frz, x_call, x_pars, x_mval, x_mown, x_mnil, x_sets0, x_sets1, x_unp, tg_two, x_and, x_or, x_not, x_andv, x_orv, x_notv, x_ife, x_drop, x_yes, x_wipe0, x_wipe1, x_lrg, x_ien, x_iz, List.map_cons, List.map_nil, List.cons_append, List.nil_append, List.length_cons, List.length_nil, List.replicate, noex_ret, need_of, x_hand, need_rfl, rd, out, rl, sq, Nat.add_sub_cancel_left, Nat.reduceAdd, Nat.reduceSub]
  | false =>
    have rl := gReprN_ok (tellT t tw)
    simp (maxSteps := 1000000) (disch := (first | exact trivial | assumption | (refine zz3 ?_; first | assumption | decide | ((try simp only [List.length_append, List.length_map, List.length_cons, List.length_nil, List.length_zip, List.length_drop, List.length_take, List.length_range, List.length_zipIdx, sg_len, rot_len]); omega)) | (refine zz4 ?_; first | assumption | decide | ((try simp only [List.length_append, List.length_map, List.length_cons, List.length_nil, List.length_zip, List.length_drop, List.length_take, List.length_range, List.length_zipIdx, sg_len, rot_len]); omega)) | decide)) only [x_seq, x_asg, x_cb, x_acons, x_anil, x_if, x_tst, x_bin, x_un, x_var, x_k, x_lst, x_tup, x_ret, x_skip, x_sl, x_osome, x_onone, x_astar, x_seqD_t, x_seqD_l, bnd_ret, bnd_bnd, List.getElem?_cons_succ, List.getElem?_cons_zero, List.set_cons_succ, List.set_cons_zero, Bool.false_eq_true, if_true, if_false, x_own, x_flst, x_for, x_ir1, x_ir2, x_lc, x_ival, x_items_l, x_items_t, x_app, x_peek, x_peekL, x_tpeek, x_frz, x_call, x_pars, x_mval, x_mown, x_mnil, x_sets0, x_sets1, x_unp, tg_two, x_and, x_or, x_not, x_andv, x_orv, x_notv, x_ife, x_drop, x_yes, x_wipe0, x_wipe1, x_lrg, x_ien, x_iz, List.map_cons, List.map_nil, List.cons_append, List.nil_append, List.length_cons, List.length_nil, List.replicate, noex_ret, need_of, x_hand, need_rfl, rd, out, rl, sq, Nat.add_sub_cancel_left, Nat.reduceAdd, Nat.reduceSub]
end Wk02

end
section
set_option Elab.async false
set_option linter.all false
set_option maxRecDepth 100000
set_option maxHeartbeats 4000000
/-! NO3 P02c: what is drawn. -/
namespace Wk02
open PySem PySem.Spec PyProof.Rows L2 DL PKG
variable [Tb]
/-- a value that may be asked and told -/
structure Good (d : D) : Prop where
  ask : AskD d
  str : ∀ x, d = .str x → x.length ≤ 1000
  tell : Tell d
/-- an item of a row -/
structure Itm (d : D) : Prop where
  it : itD d = true
  a : wtE 17 d ≤ 66
  b : wtE 19 d ≤ 66
theorem itm_int {i : Int} (h : i.natAbs < 10 ^ 60) : Itm (.int i) := ⟨rfl, by
  have e : wtE 17 (.int i) = if i.natAbs < 10 ^ 60 then 61 else 100000000 := rfl
  rw [e, if_pos h]; decide, by
  have e : wtE 19 (.int i) = if i.natAbs < 10 ^ 60 then 61 else 100000000 := rfl
  rw [e, if_pos h]; decide⟩
theorem wt_seq (k : Nat) (l : List D) (h : ∀ d ∈ l, wtE k d ≤ 66) (hl : l.length ≤ 100) : (l.map fun d => wtE k d + 2).sum + 3 ≤ 10000 := by
  have := sum_le_mul (fun d => wtE k d + 2) 68 l fun d hd => by have := h d hd; omega
  omega
theorem good_tup {l : List D} (h : ∀ d ∈ l, Itm d) (hl : l.length ≤ 100) : Good (.tup l) := ⟨⟨rfl, fun m e => by cases e; exact ⟨by omega, List.all_eq_true.mpr fun d hd => (h d hd).it⟩⟩, fun x e => (nomatch e),
  ⟨Nat.le_trans (wt_seq 17 l (fun d hd => (h d hd).a) hl) (by decide), Nat.le_trans (wt_seq 19 l (fun d hd => (h d hd).b) hl) (by decide)⟩⟩
theorem good_lst {l : List D} (h : ∀ d ∈ l, Itm d) (hl : l.length ≤ 100) : Good (.lst l) := ⟨⟨rfl, fun m e => (nomatch e)⟩, fun x e => (nomatch e),
  ⟨Nat.le_trans (wt_seq 17 l (fun d hd => (h d hd).a) hl) (by decide), Nat.le_trans (wt_seq 19 l (fun d hd => (h d hd).b) hl) (by decide)⟩⟩
/-- a text -/
structure Sx (n : Nat) (x : Str) : Prop where
  len : x.length ≤ n
  all : ∀ c ∈ x.cps.toList, c < 16 ^ 8
theorem wt_str (k : Nat) {x : Str} {n : Nat} (h : Sx n x) : wtE k (.str x) ≤ 10 * n + 2 := by
  have e : wtE k (.str x) = if x.cps.all (· < 16 ^ 8) then 10 * x.length + 2 else 100000000 := by cases k <;> rfl
  have : x.cps.all (· < 16 ^ 8) = true := by
    rw [Array.all_eq_true_iff_forall_mem]
    intro c hc
    have := h.all c (by simpa using hc)
    simpa using this
  rw [e, if_pos this]
  have := h.len
  omega
theorem good_str {x : Str} (h : Sx 100 x) : Good (.str x) := ⟨⟨rfl, fun m e => (nomatch e)⟩, fun y e => by cases e; have := h.len; omega, ⟨by have := wt_str 18 h; omega, by have := wt_str 20 h; omega⟩⟩
theorem sx_sg (bs : List Bool) : Sx bs.length (sg bs) := ⟨by rw [sg_len]; exact Nat.le_refl _, fun c hc => by
  unfold sg at hc
  simp only [List.mem_map] at hc
  obtain ⟨b, _, rfl⟩ := hc
  cases b <;> decide⟩
theorem sx_add {x y : Str} {a b : Nat} (h : Sx a x) (k : Sx b y) : Sx (a + b) (x ++ y) := ⟨by
  have : (x ++ y).length = x.length + y.length := strLen_append _ _
  have := h.len; have := k.len; omega, fun c hc => by
  have e : (x ++ y).cps.toList = x.cps.toList ++ y.cps.toList := by
    show (x.cps ++ y.cps).toList = _
    simp
  rw [e, List.mem_append] at hc
  exact hc.elim (h.all c) (k.all c)⟩
theorem sx_cut {x : Str} {a : Nat} (h : Sx a x) (lo hi : Option Int) : Sx a (L2.cutS x lo hi) := ⟨by
  have e : (L2.cutS x lo hi).length = ((x.cps.toList.drop (HT.sIx x.length 0 lo)).take (HT.sIx x.length x.length hi - HT.sIx x.length 0 lo)).length := by
    show ((x.cps.toList.drop _).take _).toArray.size = _
    simp
  have l : x.cps.toList.length = x.length := Array.length_toList
  rw [e, List.length_take, List.length_drop, l]
  have := h.len
  omega, fun c hc => by
  have hc : c ∈ ((x.cps.toList.drop (HT.sIx x.length 0 lo)).take (HT.sIx x.length x.length hi - HT.sIx x.length 0 lo)) := by
    have : (L2.cutS x lo hi).cps.toList = ((x.cps.toList.drop (HT.sIx x.length 0 lo)).take (HT.sIx x.length x.length hi - HT.sIx x.length 0 lo)) := by
      unfold L2.cutS; simp
    rwa [this] at hc
  exact h.all c (List.mem_of_mem_drop (List.mem_of_mem_take hc))⟩
theorem itm_ch {x : Str} {a : Nat} (h : Sx a x) : ∀ d ∈ x.cps.toList.map fun c => D.str ⟨#[c]⟩, Itm d := fun d hd => by
  obtain ⟨c, hc, rfl⟩ := List.mem_map.mp hd
  have s : Sx 1 (⟨#[c]⟩ : Str) := ⟨Nat.le_refl 1, fun e he => by simp at he; subst he; exact h.all _ hc⟩
  exact ⟨rfl, Nat.le_trans (wt_str 17 s) (by decide), Nat.le_trans (wt_str 19 s) (by decide)⟩
/-! a value of any kind -/
def odds_ : List D := [.non, .bl true, .bl false, .int 0, .int 1, .int 60, .int (-1), .int (10 ^ 30), .int (10 ^ 40), .str "", .str "M", .str "MV", .tup [], .tup [.int 1], .lst [], .lst [.int 60, .int 60], .dct [], .tup [.int 60, .int 60], .str "MM"]
theorem sx_M : Sx 1 ("M" : Str) := ⟨by decide +kernel, by decide +kernel⟩
theorem odds_good : ∀ d ∈ odds_, Good d := fun d hd => by
  have i : ∀ i : Int, i.natAbs < 10 ^ 60 → Itm (.int i) := fun i h => itm_int h
  have n : ∀ i : Int, i.natAbs < 10 ^ 60 → Good (.int i) := fun i h => ⟨⟨rfl, fun m e => (nomatch e)⟩, fun y e => (nomatch e), ⟨by
    have e : wtE 18 (.int i) = if i.natAbs < 10 ^ 60 then 61 else 100000000 := rfl
    rw [e, if_pos h]; decide, by
    have e : wtE 20 (.int i) = if i.natAbs < 10 ^ 60 then 61 else 100000000 := rfl
    rw [e, if_pos h]; decide⟩⟩
  have b : ∀ b : Bool, Good (.bl b) := fun b => ⟨⟨rfl, fun m e => (nomatch e)⟩, fun y e => (nomatch e), ⟨by show 5 ≤ 100000; decide, by show 5 ≤ 100000; decide⟩⟩
  have s : ∀ x : Str, Sx 100 x → Good (.str x) := fun x h => good_str h
  simp only [odds_, List.mem_cons, List.not_mem_nil, or_false] at hd
  rcases hd with rfl | rfl | rfl | rfl | rfl | rfl | rfl | rfl | rfl | rfl | rfl | rfl | rfl | rfl | rfl | rfl | rfl | rfl | rfl
  · exact ⟨⟨rfl, fun m e => (nomatch e)⟩, fun y e => (nomatch e), ⟨by show 4 ≤ 100000; decide, by show 4 ≤ 100000; decide⟩⟩
  · exact b _
  · exact b _
  · exact n _ (by decide)
  · exact n _ (by decide)
  · exact n _ (by decide)
  · exact n _ (by decide)
  · exact n _ (by decide)
  · exact n _ (by decide)
  · exact s _ ⟨by decide +kernel, by decide +kernel⟩
  · exact s _ ⟨by decide +kernel, by decide +kernel⟩
  · exact s _ ⟨by decide +kernel, by decide +kernel⟩
  · exact good_tup (by simp) (by simp)
  · exact good_tup (by intro d hd; simp at hd; subst hd; exact i _ (by decide)) (by simp)
  · exact good_lst (by simp) (by simp)
  · exact good_lst (by intro d hd; simp at hd; subst hd; exact i _ (by decide)) (by simp)
  · exact ⟨⟨rfl, fun m e => (nomatch e)⟩, fun y e => (nomatch e), ⟨by show 3 ≤ 100000; decide, by show 3 ≤ 100000; decide⟩⟩
  · exact good_tup (by intro d hd; simp at hd; subst hd; exact i _ (by decide)) (by simp)
  · exact s _ ⟨by decide +kernel, by decide +kernel⟩
theorem r_odd {z : Bool} {c : Nat} : Runs (f__law_odd [.rng z c]) 1 Good := by
  have n2 : ∀ a b : D, ([a, b] : List D).length = 2 := fun _ _ => rfl
  unfold f__law_odd
  rw [x_fn]
  unfold s__law_odd
  simp (maxSteps := 1000000) (disch := (first | exact trivial | assumption | (refine zz3 ?_; first | assumption | decide | ((try simp only [List.length_append, List.length_map, List.length_cons, List.length_nil, List.length_zip, List.length_drop, List.length_take, List.length_range, List.length_zipIdx, sg_len, rot_len]); omega)) | (refine zz4 ?_; first | assumption | decide | ((try simp only [List.length_append, List.length_map, List.length_cons, List.length_nil, List.length_zip, List.length_drop, List.length_take, List.length_range, List.length_zipIdx, sg_len, rot_len]); omega)) | decide)) only [x_seq, x_asg, x_cb, x_acons, x_anil, x_if, x_tst, x_bin, x_un, x_var, x_k, x_lst, x_tup, x_ret, x_skip, x_sl, x_osome, x_onone, x_astar, x_seqD_t, x_seqD_l, bnd_ret, bnd_bnd, List.getElem?_cons_succ, List.getElem?_cons_zero, List.set_cons_succ, List.set_cons_zero, Bool.false_eq_true, if_true, if_false, x_own, x_flst, x_for, x_ir1, x_ir2, x_lc, x_ival, x_items_l, x_items_t, x_app, x_peek, x_peekL, x_tpeek, x_frz, x_call, x_pars, x_mval, x_mown, x_mnil, x_sets0, x_sets1, x_unp, tg_two, x_and, x_or, x_not, x_andv, x_orv, x_notv, x_ife, x_drop, x_yes, x_wipe0, x_wipe1, x_lrg, x_ien, x_iz, List.map_cons, List.map_nil, List.cons_append, List.nil_append, List.length_cons, List.length_nil, List.replicate, noex_ret, need_of, p30, p40, g_neg_i, x_dct0]
  refine Runs.bndc (c1 := 1) (c2 := 0) (S := Good) ?_ (by decide) fun d hd => Runs.ret hd
  refine (r_of (l := odds_) (by simp [odds_]) (by simp [odds_])).le (Nat.le_refl _) fun d hd => odds_good d hd
end Wk02

end
section
set_option Elab.async false
set_option linter.all false
set_option maxRecDepth 100000
set_option maxHeartbeats 4000000
/-! NO3 P02d: values near corners and signs. -/
namespace Wk02
open PySem PySem.Spec PyProof.Rows L2 DL PKG
variable [Tb]
def bents : List D := [.int 0, .int (-1), .bl true, .non, .str "6", .int (10 ^ 30), .tup [.int 6], .int 1]
theorem bents_itm : ∀ d ∈ bents, Itm d := fun d hd => by
  simp only [bents, List.mem_cons, List.not_mem_nil, or_false] at hd
  rcases hd with rfl | rfl | rfl | rfl | rfl | rfl | rfl | rfl
  · exact itm_int (by decide)
  · exact itm_int (by decide)
  · exact ⟨rfl, by show 5 ≤ 66; decide, by show 5 ≤ 66; decide⟩
  · exact ⟨rfl, by show 4 ≤ 66; decide, by show 4 ≤ 66; decide⟩
  · have s : Sx 1 ("6" : Str) := ⟨by decide +kernel, by decide +kernel⟩
    exact ⟨rfl, Nat.le_trans (wt_str 17 s) (by decide), Nat.le_trans (wt_str 19 s) (by decide)⟩
  · exact itm_int (by decide)
  · exact ⟨rfl, by show ([D.int 6].map fun d => wtE 16 d + 2).sum + 3 ≤ 66; decide, by show ([D.int 6].map fun d => wtE 18 d + 2).sum + 3 ≤ 66; decide⟩
  · exact itm_int (by decide)
theorem itm_row {ns : List Int} (h : ∀ a ∈ ns, 1 ≤ a ∧ a ≤ 40) : ∀ d ∈ ns.map D.int, Itm d := fun d hd => by
  obtain ⟨a, ha, rfl⟩ := List.mem_map.mp hd
  exact itm_int (by have := h a ha; omega)
theorem r_near {z : Bool} {c : Nat} : Runs (f__law_near [.rng z c]) 16 Good := by
  have n2 : ∀ a b : D, ([a, b] : List D).length = 2 := fun _ _ => rfl
  have n3 : ∀ a b c : D, ([a, b, c] : List D).length = 3 := fun _ _ _ => rfl
  unfold f__law_near
  rw [x_fn]
  unfold s__law_near
  simp (maxSteps := 1000000) (disch := (first | exact trivial | assumption | (refine zz3 ?_; first | assumption | decide | ((try simp only [List.length_append, List.length_map, List.length_cons, List.length_nil, List.length_zip, List.length_drop, List.length_take, List.length_range, List.length_zipIdx, sg_len, rot_len]); omega)) | (refine zz4 ?_; first | assumption | decide | ((try simp only [List.length_append, List.length_map, List.length_cons, List.length_nil, List.length_zip, List.length_drop, List.length_take, List.length_range, List.length_zipIdx, sg_len, rot_len]); omega)) | decide)) only [x_seq, x_asg, x_cb, x_acons, x_anil, x_if, x_tst, x_bin, x_un, x_var, x_k, x_lst, x_tup, x_ret, x_skip, x_sl, x_osome, x_onone, x_astar, x_seqD_t, x_seqD_l, bnd_ret, bnd_bnd, List.getElem?_cons_succ, List.getElem?_cons_zero, List.set_cons_succ, List.set_cons_zero, Bool.false_eq_true, if_true, if_false, x_own, x_flst, x_for, x_ir1, x_ir2, x_lc, x_ival, x_items_l, x_items_t, x_app, x_peek, x_peekL, x_tpeek, x_frz, x_call, x_pars, x_mval, x_mown, x_mnil, x_sets0, x_sets1, x_unp, tg_two, x_and, x_or, x_not, x_andv, x_orv, x_notv, x_ife, x_drop, x_yes, x_wipe0, x_wipe1, x_lrg, x_ien, x_iz, List.map_cons, List.map_nil, List.cons_append, List.nil_append, List.length_cons, List.length_nil, List.replicate, noex_ret, need_of, g_add_i]
  refine Runs.bndc (runs_draw (by decide) (by decide)) (c2 := 15) (by omega) fun d hd => ?_
  obtain ⟨r, rfl, r0, r1⟩ := hd
  obtain ⟨j, rfl⟩ : ∃ j : Nat, r = (j : Int) := ⟨r.toNat, by omega⟩
  have e : 2 + (j : Int) = ((2 + j : Nat) : Int) := by omega
  simp (maxSteps := 1000000) (disch := (first | exact trivial | assumption | (refine zz3 ?_; first | assumption | decide | ((try simp only [List.length_append, List.length_map, List.length_cons, List.length_nil, List.length_zip, List.length_drop, List.length_take, List.length_range, List.length_zipIdx, sg_len, rot_len]); omega)) | (refine zz4 ?_; first | assumption | decide | ((try simp only [List.length_append, List.length_map, List.length_cons, List.length_nil, List.length_zip, List.length_drop, List.length_take, List.length_range, List.length_zipIdx, sg_len, rot_len]); omega)) | decide)) only [x_seq, x_asg, x_cb, x_acons, x_anil, x_if, x_tst, x_bin, x_un, x_var, x_k, x_lst, x_tup, x_ret, x_skip, x_sl, x_osome, x_onone, x_astar, x_seqD_t, x_seqD_l, bnd_ret, bnd_bnd, List.getElem?_cons_succ, List.getElem?_cons_zero, List.set_cons_succ, List.set_cons_zero, Bool.false_eq_true, if_true, if_false, x_own, x_flst, x_for, x_ir1, x_ir2, x_lc, x_ival, x_items_l, x_items_t, x_app, x_peek, x_peekL, x_tpeek, x_frz, x_call, x_pars, x_mval, x_mown, x_mnil, x_sets0, x_sets1, x_unp, tg_two, x_and, x_or, x_not, x_andv, x_orv, x_notv, x_ife, x_drop, x_yes, x_wipe0, x_wipe1, x_lrg, x_ien, x_iz, List.map_cons, List.map_nil, List.cons_append, List.nil_append, List.length_cons, List.length_nil, List.replicate, noex_ret, need_of, g_add_i, e]
  refine Runs.bndc (r_any (by omega) (by decide) (by decide)) (c2 := 3) (by omega) fun d hd => ?_
  obtain ⟨ns, hl, hns, rfl⟩ := hd
  have hz : ns.length ≤ 12 := by omega
  have hrow := itm_row hns
  refine Runs.bndc (runs_draw (by omega) (log_small (by omega) (by omega))) (c2 := 2) (by omega) fun d hd => ?_
  obtain ⟨r, rfl, s0, s1⟩ := hd
  obtain ⟨i, rfl⟩ : ∃ i : Nat, r = (i : Int) := ⟨r.toNat, by omega⟩
  simp (maxSteps := 1000000) (disch := (first | exact trivial | assumption | (refine zz3 ?_; first | assumption | decide | ((try simp only [List.length_append, List.length_map, List.length_cons, List.length_nil, List.length_zip, List.length_drop, List.length_take, List.length_range, List.length_zipIdx, sg_len, rot_len]); omega)) | (refine zz4 ?_; first | assumption | decide | ((try simp only [List.length_append, List.length_map, List.length_cons, List.length_nil, List.length_zip, List.length_drop, List.length_take, List.length_range, List.length_zipIdx, sg_len, rot_len]); omega)) | decide)) only [x_seq, x_asg, x_cb, x_acons, x_anil, x_if, x_tst, x_bin, x_un, x_var, x_k, x_lst, x_tup, x_ret, x_skip, x_sl, x_osome, x_onone, x_astar, x_seqD_t, x_seqD_l, bnd_ret, bnd_bnd, List.getElem?_cons_succ, List.getElem?_cons_zero, List.set_cons_succ, List.set_cons_zero, Bool.false_eq_true, if_true, if_false, x_own, x_flst, x_for, x_ir1, x_ir2, x_lc, x_ival, x_items_l, x_items_t, x_app, x_peek, x_peekL, x_tpeek, x_frz, x_call, x_pars, x_mval, x_mown, x_mnil, x_sets0, x_sets1, x_unp, tg_two, x_and, x_or, x_not, x_andv, x_orv, x_notv, x_ife, x_drop, x_yes, x_wipe0, x_wipe1, x_lrg, x_ien, x_iz, List.map_cons, List.map_nil, List.cons_append, List.nil_append, List.length_cons, List.length_nil, List.replicate, noex_ret, need_of, p30, g_neg_i, g_sl_t, cutD_take]
  refine Runs.bndc (r_of (l := bents) (by simp [bents]) (by simp [bents])) (c2 := 1) (by omega) fun d hd => ?_
  have hd := bents_itm d hd
  have e1 : (i : Int) + 1 = ((i + 1 : Nat) : Int) := by omega
  have q1 : ((ns.map D.int).take i).length + [d].length ≤ sizeLine := szl (by simp; omega)
  have q2 : ((ns.map D.int).take i ++ [d]).length + ((ns.map D.int).drop (i + 1)).length ≤ sizeLine := szl (by simp; omega)
  have q3 : 0 + 1 + ((ns.map D.int).drop 1).length ≤ sizeLine := szl (by simp; omega)
  have c1 : cutD (ns.map D.int) (some 1) none = (ns.map D.int).drop 1 := cutD_drop _ 1
  have c2 : cutD (ns.map D.int) none (some 1) = (ns.map D.int).take 1 := cutD_take _ 1
  simp (maxSteps := 1000000) (disch := (first | exact trivial | assumption | (refine zz3 ?_; first | assumption | decide | ((try simp only [List.length_append, List.length_map, List.length_cons, List.length_nil, List.length_zip, List.length_drop, List.length_take, List.length_range, List.length_zipIdx, sg_len, rot_len]); omega)) | (refine zz4 ?_; first | assumption | decide | ((try simp only [List.length_append, List.length_map, List.length_cons, List.length_nil, List.length_zip, List.length_drop, List.length_take, List.length_range, List.length_zipIdx, sg_len, rot_len]); omega)) | decide)) only [x_seq, x_asg, x_cb, x_acons, x_anil, x_if, x_tst, x_bin, x_un, x_var, x_k, x_lst, x_tup, x_ret, x_skip, x_sl, x_osome, x_onone, x_astar, x_seqD_t, x_seqD_l, bnd_ret, bnd_bnd, List.getElem?_cons_succ, List.getElem?_cons_zero, List.set_cons_succ, List.set_cons_zero, Bool.false_eq_true, if_true, if_false, x_own, x_flst, x_for, x_ir1, x_ir2, x_lc, x_ival, x_items_l, x_items_t, x_app, x_peek, x_peekL, x_tpeek, x_frz, x_call, x_pars, x_mval, x_mown, x_mnil, x_sets0, x_sets1, x_unp, tg_two, x_and, x_or, x_not, x_andv, x_orv, x_notv, x_ife, x_drop, x_yes, x_wipe0, x_wipe1, x_lrg, x_ien, x_iz, List.map_cons, List.map_nil, List.cons_append, List.nil_append, List.length_cons, List.length_nil, List.replicate, noex_ret, need_of, g_add_i, e1, g_sl_t, cutD_drop, g_add_t, need_of q1, need_of q2, need_of q3, p30, c1, c2, g_list_t]
  have m1 : ∀ d ∈ (ns.map D.int).take 1, Itm d := fun d hd => hrow d (List.mem_of_mem_take hd)
  have m2 : ∀ d ∈ D.int (10 ^ 30) :: (ns.map D.int).drop 1, Itm d := fun d hd => by
    rcases List.mem_cons.mp hd with rfl | hd
    · exact itm_int (by decide)
    · exact hrow d (List.mem_of_mem_drop hd)
  have m3 : ∀ x ∈ (ns.map D.int).take i ++ [d] ++ (ns.map D.int).drop (i + 1), Itm x := fun x hx => by
    rw [List.mem_append, List.mem_append, List.mem_singleton] at hx
    rcases hx with (hx | rfl) | hx
    · exact hrow x (List.mem_of_mem_take hx)
    · exact hd
    · exact hrow x (List.mem_of_mem_drop hx)
  have m4 : ∀ x ∈ ns.map D.int ++ ns.map D.int, Itm x := fun x hx => (List.mem_append.mp hx).elim (hrow x) (hrow x)
  refine Runs.bndc (c1 := 1) (c2 := 0) (S := Good) ?_ (by decide) fun d hd => Runs.ret hd
  refine (r_of (by simp) (by simp)).le (Nat.le_refl _) fun x hx => ?_
  simp only [List.mem_cons, List.not_mem_nil, or_false] at hx
  rcases hx with rfl | rfl | rfl | rfl | rfl | rfl | rfl | rfl
  · exact good_tup hrow (by simp; omega)
  · exact good_tup hrow (by simp; omega)
  · exact good_tup m3 (by simp; omega)
  · exact good_tup m3 (by simp; omega)
  · exact good_tup m1 (by simp; omega)
  · exact good_tup m4 (by simp; omega)
  · exact good_lst hrow (by simp; omega)
  · exact good_tup m2 (by simp; omega)
theorem r_text {z : Bool} {c n : Nat} (h0 : 1 ≤ n) (hn : n ≤ 12) : Runs (f__law_text [.rng z c, .int (n : Nat)]) 16 Good := by
  have n2 : ∀ a b : D, ([a, b] : List D).length = 2 := fun _ _ => rfl
  have n3 : ∀ a b c : D, ([a, b, c] : List D).length = 3 := fun _ _ _ => rfl
  unfold f__law_text
  rw [x_fn]
  unfold s__law_text
  simp (maxSteps := 1000000) (disch := (first | exact trivial | assumption | (refine zz3 ?_; first | assumption | decide | ((try simp only [List.length_append, List.length_map, List.length_cons, List.length_nil, List.length_zip, List.length_drop, List.length_take, List.length_range, List.length_zipIdx, sg_len, rot_len]); omega)) | (refine zz4 ?_; first | assumption | decide | ((try simp only [List.length_append, List.length_map, List.length_cons, List.length_nil, List.length_zip, List.length_drop, List.length_take, List.length_range, List.length_zipIdx, sg_len, rot_len]); omega)) | decide)) only [x_seq, x_asg, x_cb, x_acons, x_anil, x_if, x_tst, x_bin, x_un, x_var, x_k, x_lst, x_tup, x_ret, x_skip, x_sl, x_osome, x_onone, x_astar, x_seqD_t, x_seqD_l, bnd_ret, bnd_bnd, List.getElem?_cons_succ, List.getElem?_cons_zero, List.set_cons_succ, List.set_cons_zero, Bool.false_eq_true, if_true, if_false, x_own, x_flst, x_for, x_ir1, x_ir2, x_lc, x_ival, x_items_l, x_items_t, x_app, x_peek, x_peekL, x_tpeek, x_frz, x_call, x_pars, x_mval, x_mown, x_mnil, x_sets0, x_sets1, x_unp, tg_two, x_and, x_or, x_not, x_andv, x_orv, x_notv, x_ife, x_drop, x_yes, x_wipe0, x_wipe1, x_lrg, x_ien, x_iz, List.map_cons, List.map_nil, List.cons_append, List.nil_append, List.length_cons, List.length_nil, List.replicate, noex_ret, need_of]
  refine Runs.bndc (r_letters hn) (c2 := 4) (by omega) fun d hd => ?_
  obtain ⟨bs, hb, rfl⟩ := hd
  have h1 : Sx 12 (sg bs) := ⟨by rw [sg_len]; omega, (sx_sg bs).all⟩
  have z1 : (sg bs).length ≤ sizeLine := szl (by rw [sg_len]; omega)
  refine Runs.bndc (runs_draw (by omega) (log_small (by omega) (by omega))) (c2 := 3) (by omega) fun d hd => ?_
  obtain ⟨r, rfl, s0, s1⟩ := hd
  obtain ⟨i, rfl⟩ : ∃ i : Nat, r = (i : Int) := ⟨r.toNat, by omega⟩
  simp (maxSteps := 1000000) (disch := (first | exact trivial | assumption | (refine zz3 ?_; first | assumption | decide | ((try simp only [List.length_append, List.length_map, List.length_cons, List.length_nil, List.length_zip, List.length_drop, List.length_take, List.length_range, List.length_zipIdx, sg_len, rot_len]); omega)) | (refine zz4 ?_; first | assumption | decide | ((try simp only [List.length_append, List.length_map, List.length_cons, List.length_nil, List.length_zip, List.length_drop, List.length_take, List.length_range, List.length_zipIdx, sg_len, rot_len]); omega)) | decide)) only [x_seq, x_asg, x_cb, x_acons, x_anil, x_if, x_tst, x_bin, x_un, x_var, x_k, x_lst, x_tup, x_ret, x_skip, x_sl, x_osome, x_onone, x_astar, x_seqD_t, x_seqD_l, bnd_ret, bnd_bnd, List.getElem?_cons_succ, List.getElem?_cons_zero, List.set_cons_succ, List.set_cons_zero, Bool.false_eq_true, if_true, if_false, x_own, x_flst, x_for, x_ir1, x_ir2, x_lc, x_ival, x_items_l, x_items_t, x_app, x_peek, x_peekL, x_tpeek, x_frz, x_call, x_pars, x_mval, x_mown, x_mnil, x_sets0, x_sets1, x_unp, tg_two, x_and, x_or, x_not, x_andv, x_orv, x_notv, x_ife, x_drop, x_yes, x_wipe0, x_wipe1, x_lrg, x_ien, x_iz, List.map_cons, List.map_nil, List.cons_append, List.nil_append, List.length_cons, List.length_nil, List.replicate, noex_ret, need_of, g_add_i, g_sl_s, need_of z1]
  refine Runs.bndc (r_of (l := [.str "m", .str "?", .str " ", .str "", .str "VV", .str "M\n"]) (by simp) (by simp)) (c2 := 2) (by omega) fun d hd => ?_
  obtain ⟨x, rfl, hx⟩ : ∃ x : Str, d = .str x ∧ Sx 2 x := by
    simp only [List.mem_cons, List.not_mem_nil, or_false] at hd
    rcases hd with rfl | rfl | rfl | rfl | rfl | rfl <;> exact ⟨_, rfl, by decide +kernel, by decide +kernel⟩
  have a1 := sx_add (sx_cut h1 none (some (i : Int))) hx
  have a2 := sx_add a1 (sx_cut h1 (some ((i : Int) + 1)) none)
  have a3 := sx_add h1 sx_M
  have a4 := sx_cut h1 (some 1) none
  have q1 : (L2.cutS (sg bs) none (some (i : Int))).length + x.length ≤ sizeLine := szl (by have := (sx_cut h1 none (some (i : Int))).len; have := hx.len; omega)
  have q2 : (L2.cutS (sg bs) none (some (i : Int)) ++ x).length + (L2.cutS (sg bs) (some ((i : Int) + 1)) none).length ≤ sizeLine := szl (by have := a1.len; have := (sx_cut h1 (some ((i : Int) + 1)) none).len; omega)
  have q3 : (sg bs).length + ("M" : Str).length ≤ sizeLine := szl (by have := h1.len; have := sx_M.len; omega)
  have gl : gListX [.str (sg bs)] = ret (.lst ((sg bs).cps.toList.map fun c => .str ⟨#[c]⟩)) := need_of z1 _
  have gt : gTupleX [.str (sg bs)] = ret (.tup ((sg bs).cps.toList.map fun c => .str ⟨#[c]⟩)) := need_of z1 _
  simp (maxSteps := 1000000) (disch := (first | exact trivial | assumption | (refine zz3 ?_; first | assumption | decide | ((try simp only [List.length_append, List.length_map, List.length_cons, List.length_nil, List.length_zip, List.length_drop, List.length_take, List.length_range, List.length_zipIdx, sg_len, rot_len]); omega)) | (refine zz4 ?_; first | assumption | decide | ((try simp only [List.length_append, List.length_map, List.length_cons, List.length_nil, List.length_zip, List.length_drop, List.length_take, List.length_range, List.length_zipIdx, sg_len, rot_len]); omega)) | decide)) only [x_seq, x_asg, x_cb, x_acons, x_anil, x_if, x_tst, x_bin, x_un, x_var, x_k, x_lst, x_tup, x_ret, x_skip, x_sl, x_osome, x_onone, x_astar, x_seqD_t, x_seqD_l, bnd_ret, bnd_bnd, List.getElem?_cons_succ, List.getElem?_cons_zero, List.set_cons_succ, List.set_cons_zero, Bool.false_eq_true, if_true, if_false, x_own, x_flst, x_for, x_ir1, x_ir2, x_lc, x_ival, x_items_l, x_items_t, x_app, x_peek, x_peekL, x_tpeek, x_frz, x_call, x_pars, x_mval, x_mown, x_mnil, x_sets0, x_sets1, x_unp, tg_two, x_and, x_or, x_not, x_andv, x_orv, x_notv, x_ife, x_drop, x_yes, x_wipe0, x_wipe1, x_lrg, x_ien, x_iz, List.map_cons, List.map_nil, List.cons_append, List.nil_append, List.length_cons, List.length_nil, List.replicate, noex_ret, need_of, g_add_i, g_add_s, g_sl_s, need_of z1, need_of q1, need_of q2, need_of q3, gl, gt]
  have l1 : ((sg bs).cps.toList.map fun c => D.str ⟨#[c]⟩).length ≤ 100 := by
    have := h1.len
    have e : (sg bs).cps.toList.length = (sg bs).length := Array.length_toList
    rw [List.length_map, e]; omega
  refine Runs.bndc (c1 := 1) (c2 := 0) (S := Good) ?_ (by decide) fun d hd => Runs.ret hd
  refine (r_of (by simp) (by simp)).le (Nat.le_refl _) fun y hy => ?_
  have up : ∀ {x : Str} {n : Nat}, Sx n x → n ≤ 100 → Sx 100 x := fun h hn => ⟨Nat.le_trans h.len hn, h.all⟩
  simp only [List.mem_cons, List.not_mem_nil, or_false] at hy
  rcases hy with rfl | rfl | rfl | rfl | rfl | rfl | rfl | rfl
  · exact good_str (up h1 (by decide))
  · exact good_str (up h1 (by decide))
  · exact good_str (up a2 (by decide))
  · exact good_str (up a2 (by decide))
  · exact good_str (up a3 (by decide))
  · exact good_str (up a4 (by decide))
  · exact good_lst (itm_ch h1) l1
  · exact good_tup (itm_ch h1) l1
end Wk02

end
section
set_option Elab.async false
set_option linter.all false
set_option maxRecDepth 100000
set_option maxHeartbeats 4000000
/-! NO3 P02e: the law runs and tells True. -/
namespace Wk02
open PySem PySem.Spec PyProof.Rows L2 DL PKG
variable [Tb]
theorem tw_c : wtE 18 (.str "corner") ≤ 1000 := by decide +kernel
theorem tw_s : wtE 18 (.str "signs") ≤ 1000 := by decide +kernel
theorem is_corner_ (d : D) (g : Good d) : ph__law_is (f_need_corner [d]) [.str "corner", d, .bl (okC d)] = ret (.bl true) :=
  z_is "corner" "BadCorner" d (okC d) _ okC_ (by simp) (z_needC d g.ask) g.tell tw_c
theorem is_signs_ (l : List D) (hl : AskD (.tup l)) (ho : okC (.tup l) = true) (d : D) (g : Good d) : ph__law_is (f_need_signs [.tup l, d]) [.str "signs", d, .bl (okS l.length d)] = ret (.bl true) :=
  z_is "signs" "BadSigns" d (okS l.length d) _ okS_ (by simp) (z_needS l hl ho d g.ask.1 g.str) g.tell tw_s
theorem n1_ (d : D) : ([d] : List D).length = 1 := rfl
theorem n2_ (a b : D) : ([a, b] : List D).length = 2 := rfl
theorem n3_ (a b c : D) : ([a, b, c] : List D).length = 3 := rfl
theorem x_lam (js : List Nat) (N : Nat) (ds0 : List D) (fb : DExp) (m1 : Nat) (φ : M D → List D → M D) (fa : DArg) (env : En) : dLam js N ds0 fb m1 φ fa env = match capD js env with
  | some ds => bnd (fa env) fun rest => need (rest.length = m1) (φ (fb (stE N (ds0 ++ ds))) rest)
  | none => stuck := rfl
theorem row_ok {ns : List Int} (h2 : 2 ≤ ns.length) (h12 : ns.length ≤ 12) (h : ∀ a ∈ ns, 1 ≤ a ∧ a ≤ 40) : okC (.tup (ns.map .int)) = true := by
  have e : (ns.map D.int).map iiD = ns := by rw [List.map_map]; exact List.map_id'' (fun _ => rfl) _
  have s : ns.sum ≤ 40 * ns.length := by
    clear h2 h12 e
    induction ns with
    | nil => simp
    | cons a l ih =>
      have := h a (by simp)
      have := ih fun x hx => h x (by simp [hx])
      rw [List.sum_cons, List.length_cons]
      omega
  simp only [okC, e, List.length_map, Bool.and_eq_true, decide_eq_true_eq, List.all_map, List.all_eq_true]
  refine ⟨⟨⟨h2, h12⟩, fun a ha => ?_⟩, by omega⟩
  have := h a ha
  show (decide (1 ≤ a) && decide (a ≤ 10 ^ 30)) = true
  simp only [Bool.and_eq_true, decide_eq_true_eq]
  omega
def bodyC : DStm := (sIf (dNot (dTst (dLam [1] 1 [] (dCall 1 f_need_corner (aCons (dVar 0) (aNil))) 3 ph__law_is (aCons (dK (.str "corner")) (aCons (dVar 1) (aCons (dCall 1 f__law_is_corner (aCons (dVar 1) (aNil))) (aNil))))))) (sRet (dK (.bl false))) (sSkip))
def bodyS : DStm := (sIf (dNot (dTst (dLam [2, 1] 2 [] (dCall 2 f_need_signs (aCons (dVar 0) (aCons (dVar 1) (aNil)))) 3 ph__law_is (aCons (dK (.str "signs")) (aCons (dVar 1) (aCons (dCall 2 f__law_are_signs (aCons (dVar 2) (aCons (dVar 1) (aNil)))) (aNil))))))) (sRet (dK (.bl false))) (sSkip))
theorem bodyC_ok (x y : Slot) (d : D) (g : Good d) : bodyC [x, .val d, y] = ret (.nx [x, .val d, y]) := by
  have e : capD [1] [x, .val d, y] = some [d] := rfl
  unfold bodyC
  simp only [x_seq, x_asg, x_cb, x_acons, x_anil, x_if, x_tst, x_bin, x_un, x_var, x_k, x_lst, x_tup, x_ret, x_skip, x_sl, x_osome, x_onone, x_astar, x_seqD_t, x_seqD_l, bnd_ret, bnd_bnd, List.getElem?_cons_succ, List.getElem?_cons_zero, List.set_cons_succ, List.set_cons_zero, Bool.false_eq_true, if_true, if_false, x_not, x_lam, e, x_call, need_of (n1_ d), z_lcorner d g.ask, need_of (n3_ _ _ _), stE, List.nil_append, List.map_cons, List.map_nil, List.cons_append, is_corner_ d g, Bool.not_true]
theorem bodyS_ok (x : Slot) (l : List D) (hl : AskD (.tup l)) (ho : okC (.tup l) = true) (d : D) (g : Good d) : bodyS [x, .val d, .val (.tup l)] = ret (.nx [x, .val d, .val (.tup l)]) := by
  have e : capD [2, 1] [x, .val d, .val (.tup l)] = some [.tup l, d] := rfl
  unfold bodyS
  simp only [x_seq, x_asg, x_cb, x_acons, x_anil, x_if, x_tst, x_bin, x_un, x_var, x_k, x_lst, x_tup, x_ret, x_skip, x_sl, x_osome, x_onone, x_astar, x_seqD_t, x_seqD_l, bnd_ret, bnd_bnd, List.getElem?_cons_succ, List.getElem?_cons_zero, List.set_cons_succ, List.set_cons_zero, Bool.false_eq_true, if_true, if_false, x_not, x_lam, e, x_call, need_of (n2_ _ d), z_lsigns l d g.ask.1 g.str, need_of (n3_ _ _ _), stE, List.nil_append, List.map_cons, List.map_nil, List.cons_append, is_signs_ l hl ho d g, Bool.not_true]
theorem loopC (x s y : Slot) (d e : D) (gd : Good d) (ge : Good e) : loopD (tgN 1) bodyC [d, e] [x, s, y] = ret (.nx [x, .val e, y]) := by
  simp only [x_loop1, x_loop0, x_tgn, List.set_cons_succ, List.set_cons_zero, bodyC_ok x y d gd, bodyC_ok x y e ge, bnd_ret]
theorem loopS (x s : Slot) (l : List D) (hl : AskD (.tup l)) (ho : okC (.tup l) = true) (d e : D) (gd : Good d) (ge : Good e) : loopD (tgN 1) bodyS [d, e] [x, s, .val (.tup l)] = ret (.nx [x, .val e, .val (.tup l)]) := by
  simp only [x_loop1, x_loop0, x_tgn, List.set_cons_succ, List.set_cons_zero, bodyS_ok x l hl ho d gd, bodyS_ok x l hl ho e ge, bnd_ret]
theorem r_right {z : Bool} {c : Nat} : Runs (f__law_right [.rng z c]) 60 fun d => d = .bl true := by
  unfold f__law_right
  rw [x_fn]
  unfold s__law_right
  rw [show (sIf (dNot (dTst (dLam [1] 1 [] (dCall 1 f_need_corner (aCons (dVar 0) (aNil))) 3 ph__law_is (aCons (dK (.str "corner")) (aCons (dVar 1) (aCons (dCall 1 f__law_is_corner (aCons (dVar 1) (aNil))) (aNil))))))) (sRet (dK (.bl false))) (sSkip)) = bodyC from rfl,
    show (sIf (dNot (dTst (dLam [2, 1] 2 [] (dCall 2 f_need_signs (aCons (dVar 0) (aCons (dVar 1) (aNil)))) 3 ph__law_is (aCons (dK (.str "signs")) (aCons (dVar 1) (aCons (dCall 2 f__law_are_signs (aCons (dVar 2) (aCons (dVar 1) (aNil)))) (aNil))))))) (sRet (dK (.bl false))) (sSkip)) = bodyS from rfl]
  try simp (maxSteps := 1000000) (disch := (first | exact trivial | assumption | (refine zz3 ?_; first | assumption | decide | ((try simp only [List.length_append, List.length_map, List.length_cons, List.length_nil, List.length_zip, List.length_drop, List.length_take, List.length_range, List.length_zipIdx, sg_len, rot_len]); omega)) | (refine zz4 ?_; first | assumption | decide | ((try simp only [List.length_append, List.length_map, List.length_cons, List.length_nil, List.length_zip, List.length_drop, List.length_take, List.length_range, List.length_zipIdx, sg_len, rot_len]); omega)) | decide)) only [x_seq, x_asg, x_cb, x_acons, x_anil, x_if, x_tst, x_bin, x_un, x_var, x_k, x_lst, x_tup, x_ret, x_skip, x_sl, x_osome, x_onone, x_astar, x_seqD_t, x_seqD_l, bnd_ret, bnd_bnd, List.getElem?_cons_succ, List.getElem?_cons_zero, List.set_cons_succ, List.set_cons_zero, Bool.false_eq_true, if_true, if_false, x_own, x_flst, x_for, x_ir1, x_ir2, x_lc, x_ival, x_items_l, x_items_t, x_app, x_peek, x_peekL, x_tpeek, x_frz, x_call, x_pars, x_mval, x_mown, x_mnil, x_sets0, x_sets1, x_unp, tg_two, x_and, x_or, x_not, x_andv, x_orv, x_notv, x_ife, x_drop, x_yes, x_wipe0, x_wipe1, x_lrg, x_ien, x_iz, List.map_cons, List.map_nil, List.cons_append, List.nil_append, List.length_cons, List.length_nil, List.replicate, noex_ret, need_of]
  refine Runs.bndc r_odd (c2 := 59) (by omega) fun d1 g1 => ?_
  try simp (maxSteps := 1000000) (disch := (first | exact trivial | assumption | (refine zz3 ?_; first | assumption | decide | ((try simp only [List.length_append, List.length_map, List.length_cons, List.length_nil, List.length_zip, List.length_drop, List.length_take, List.length_range, List.length_zipIdx, sg_len, rot_len]); omega)) | (refine zz4 ?_; first | assumption | decide | ((try simp only [List.length_append, List.length_map, List.length_cons, List.length_nil, List.length_zip, List.length_drop, List.length_take, List.length_range, List.length_zipIdx, sg_len, rot_len]); omega)) | decide)) only [x_seq, x_asg, x_cb, x_acons, x_anil, x_if, x_tst, x_bin, x_un, x_var, x_k, x_lst, x_tup, x_ret, x_skip, x_sl, x_osome, x_onone, x_astar, x_seqD_t, x_seqD_l, bnd_ret, bnd_bnd, List.getElem?_cons_succ, List.getElem?_cons_zero, List.set_cons_succ, List.set_cons_zero, Bool.false_eq_true, if_true, if_false, x_own, x_flst, x_for, x_ir1, x_ir2, x_lc, x_ival, x_items_l, x_items_t, x_app, x_peek, x_peekL, x_tpeek, x_frz, x_call, x_pars, x_mval, x_mown, x_mnil, x_sets0, x_sets1, x_unp, tg_two, x_and, x_or, x_not, x_andv, x_orv, x_notv, x_ife, x_drop, x_yes, x_wipe0, x_wipe1, x_lrg, x_ien, x_iz, List.map_cons, List.map_nil, List.cons_append, List.nil_append, List.length_cons, List.length_nil, List.replicate, noex_ret, need_of]
  refine Runs.bndc r_near (c2 := 43) (by omega) fun d2 g2 => ?_
  simp (maxSteps := 1000000) (disch := (first | exact trivial | assumption | (refine zz3 ?_; first | assumption | decide | ((try simp only [List.length_append, List.length_map, List.length_cons, List.length_nil, List.length_zip, List.length_drop, List.length_take, List.length_range, List.length_zipIdx, sg_len, rot_len]); omega)) | (refine zz4 ?_; first | assumption | decide | ((try simp only [List.length_append, List.length_map, List.length_cons, List.length_nil, List.length_zip, List.length_drop, List.length_take, List.length_range, List.length_zipIdx, sg_len, rot_len]); omega)) | decide)) only [x_seq, x_asg, x_cb, x_acons, x_anil, x_if, x_tst, x_bin, x_un, x_var, x_k, x_lst, x_tup, x_ret, x_skip, x_sl, x_osome, x_onone, x_astar, x_seqD_t, x_seqD_l, bnd_ret, bnd_bnd, List.getElem?_cons_succ, List.getElem?_cons_zero, List.set_cons_succ, List.set_cons_zero, Bool.false_eq_true, if_true, if_false, x_own, x_flst, x_for, x_ir1, x_ir2, x_lc, x_ival, x_items_l, x_items_t, x_app, x_peek, x_peekL, x_tpeek, x_frz, x_call, x_pars, x_mval, x_mown, x_mnil, x_sets0, x_sets1, x_unp, tg_two, x_and, x_or, x_not, x_andv, x_orv, x_notv, x_ife, x_drop, x_yes, x_wipe0, x_wipe1, x_lrg, x_ien, x_iz, List.map_cons, List.map_nil, List.cons_append, List.nil_append, List.length_cons, List.length_nil, List.replicate, noex_ret, need_of, loopC _ _ _ _ _ g1 g2]
  refine Runs.bndc (runs_draw (by decide) (by decide)) (c2 := 42) (by omega) fun d hd => ?_
  obtain ⟨r, rfl, r0, r1⟩ := hd
  obtain ⟨j, rfl⟩ : ∃ j : Nat, r = (j : Int) := ⟨r.toNat, by omega⟩
  have e : 2 + (j : Int) = ((2 + j : Nat) : Int) := by omega
  simp (maxSteps := 1000000) (disch := (first | exact trivial | assumption | (refine zz3 ?_; first | assumption | decide | ((try simp only [List.length_append, List.length_map, List.length_cons, List.length_nil, List.length_zip, List.length_drop, List.length_take, List.length_range, List.length_zipIdx, sg_len, rot_len]); omega)) | (refine zz4 ?_; first | assumption | decide | ((try simp only [List.length_append, List.length_map, List.length_cons, List.length_nil, List.length_zip, List.length_drop, List.length_take, List.length_range, List.length_zipIdx, sg_len, rot_len]); omega)) | decide)) only [x_seq, x_asg, x_cb, x_acons, x_anil, x_if, x_tst, x_bin, x_un, x_var, x_k, x_lst, x_tup, x_ret, x_skip, x_sl, x_osome, x_onone, x_astar, x_seqD_t, x_seqD_l, bnd_ret, bnd_bnd, List.getElem?_cons_succ, List.getElem?_cons_zero, List.set_cons_succ, List.set_cons_zero, Bool.false_eq_true, if_true, if_false, x_own, x_flst, x_for, x_ir1, x_ir2, x_lc, x_ival, x_items_l, x_items_t, x_app, x_peek, x_peekL, x_tpeek, x_frz, x_call, x_pars, x_mval, x_mown, x_mnil, x_sets0, x_sets1, x_unp, tg_two, x_and, x_or, x_not, x_andv, x_orv, x_notv, x_ife, x_drop, x_yes, x_wipe0, x_wipe1, x_lrg, x_ien, x_iz, List.map_cons, List.map_nil, List.cons_append, List.nil_append, List.length_cons, List.length_nil, List.replicate, noex_ret, need_of, g_add_i, e]
  refine Runs.bndc (r_any (by omega) (by decide) (by decide)) (c2 := 30) (by omega) fun d hd => ?_
  obtain ⟨ns, hl, hns, rfl⟩ := hd
  have ho := row_ok (ns := ns) (by omega) (by omega) hns
  have ha := (good_tup (itm_row hns) (by simp; omega)).ask
  try simp (maxSteps := 1000000) (disch := (first | exact trivial | assumption | (refine zz3 ?_; first | assumption | decide | ((try simp only [List.length_append, List.length_map, List.length_cons, List.length_nil, List.length_zip, List.length_drop, List.length_take, List.length_range, List.length_zipIdx, sg_len, rot_len]); omega)) | (refine zz4 ?_; first | assumption | decide | ((try simp only [List.length_append, List.length_map, List.length_cons, List.length_nil, List.length_zip, List.length_drop, List.length_take, List.length_range, List.length_zipIdx, sg_len, rot_len]); omega)) | decide)) only [x_seq, x_asg, x_cb, x_acons, x_anil, x_if, x_tst, x_bin, x_un, x_var, x_k, x_lst, x_tup, x_ret, x_skip, x_sl, x_osome, x_onone, x_astar, x_seqD_t, x_seqD_l, bnd_ret, bnd_bnd, List.getElem?_cons_succ, List.getElem?_cons_zero, List.set_cons_succ, List.set_cons_zero, Bool.false_eq_true, if_true, if_false, x_own, x_flst, x_for, x_ir1, x_ir2, x_lc, x_ival, x_items_l, x_items_t, x_app, x_peek, x_peekL, x_tpeek, x_frz, x_call, x_pars, x_mval, x_mown, x_mnil, x_sets0, x_sets1, x_unp, tg_two, x_and, x_or, x_not, x_andv, x_orv, x_notv, x_ife, x_drop, x_yes, x_wipe0, x_wipe1, x_lrg, x_ien, x_iz, List.map_cons, List.map_nil, List.cons_append, List.nil_append, List.length_cons, List.length_nil, List.replicate, noex_ret, need_of]
  refine Runs.bndc r_odd (c2 := 29) (by omega) fun d3 g3 => ?_
  simp (maxSteps := 1000000) (disch := (first | exact trivial | assumption | (refine zz3 ?_; first | assumption | decide | ((try simp only [List.length_append, List.length_map, List.length_cons, List.length_nil, List.length_zip, List.length_drop, List.length_take, List.length_range, List.length_zipIdx, sg_len, rot_len]); omega)) | (refine zz4 ?_; first | assumption | decide | ((try simp only [List.length_append, List.length_map, List.length_cons, List.length_nil, List.length_zip, List.length_drop, List.length_take, List.length_range, List.length_zipIdx, sg_len, rot_len]); omega)) | decide)) only [x_seq, x_asg, x_cb, x_acons, x_anil, x_if, x_tst, x_bin, x_un, x_var, x_k, x_lst, x_tup, x_ret, x_skip, x_sl, x_osome, x_onone, x_astar, x_seqD_t, x_seqD_l, bnd_ret, bnd_bnd, List.getElem?_cons_succ, List.getElem?_cons_zero, List.set_cons_succ, List.set_cons_zero, Bool.false_eq_true, if_true, if_false, x_own, x_flst, x_for, x_ir1, x_ir2, x_lc, x_ival, x_items_l, x_items_t, x_app, x_peek, x_peekL, x_tpeek, x_frz, x_call, x_pars, x_mval, x_mown, x_mnil, x_sets0, x_sets1, x_unp, tg_two, x_and, x_or, x_not, x_andv, x_orv, x_notv, x_ife, x_drop, x_yes, x_wipe0, x_wipe1, x_lrg, x_ien, x_iz, List.map_cons, List.map_nil, List.cons_append, List.nil_append, List.length_cons, List.length_nil, List.replicate, noex_ret, need_of, g_len_t, List.length_map]
  refine Runs.bndc (r_text (n := ns.length) (by omega) (by omega)) (c2 := 0) (by omega) fun d4 g4 => ?_
  simp (maxSteps := 1000000) (disch := (first | exact trivial | assumption | (refine zz3 ?_; first | assumption | decide | ((try simp only [List.length_append, List.length_map, List.length_cons, List.length_nil, List.length_zip, List.length_drop, List.length_take, List.length_range, List.length_zipIdx, sg_len, rot_len]); omega)) | (refine zz4 ?_; first | assumption | decide | ((try simp only [List.length_append, List.length_map, List.length_cons, List.length_nil, List.length_zip, List.length_drop, List.length_take, List.length_range, List.length_zipIdx, sg_len, rot_len]); omega)) | decide)) only [x_seq, x_asg, x_cb, x_acons, x_anil, x_if, x_tst, x_bin, x_un, x_var, x_k, x_lst, x_tup, x_ret, x_skip, x_sl, x_osome, x_onone, x_astar, x_seqD_t, x_seqD_l, bnd_ret, bnd_bnd, List.getElem?_cons_succ, List.getElem?_cons_zero, List.set_cons_succ, List.set_cons_zero, Bool.false_eq_true, if_true, if_false, x_own, x_flst, x_for, x_ir1, x_ir2, x_lc, x_ival, x_items_l, x_items_t, x_app, x_peek, x_peekL, x_tpeek, x_frz, x_call, x_pars, x_mval, x_mown, x_mnil, x_sets0, x_sets1, x_unp, tg_two, x_and, x_or, x_not, x_andv, x_orv, x_notv, x_ife, x_drop, x_yes, x_wipe0, x_wipe1, x_lrg, x_ien, x_iz, List.map_cons, List.map_nil, List.cons_append, List.nil_append, List.length_cons, List.length_nil, List.replicate, noex_ret, need_of, loopS _ _ _ ha ho _ _ g3 g4]
  exact Runs.ret rfl
end Wk02

end
section
set_option Elab.async false
set_option linter.all false
set_option maxRecDepth 100000
set_option maxHeartbeats 4000000
/-! NO3 P02f: by hand; the law. -/
namespace Wk02
open PySem PySem.Spec PyProof.Rows L2 DL PKG
variable [Tb]
def pr2 (p : D × Bool) : D := .tup [p.1, .bl p.2]
def rowsA : List (D × Bool) := [(.tup [.int 1, .int 1], true), (.tup [.int 1], false), (.tup (List.replicate 12 (.int 1)), true), (.tup (List.replicate 13 (.int 1)), false), (.tup [.int (10 ^ 30 - 1), .int 1], true)]
def rowsB : List (D × Bool) := [(.tup [.int (10 ^ 30), .int 1], false), (.tup [.int (10 ^ 30)], false), (.tup [.int 0, .int 1], false), (.tup [.int 1, .bl true], false), (.tup [.int 1, .str "1"], false)]
def rowsS : List (D × Bool) := [(.str "MV", true), (.str "VV", true), (.str "mv", false), (.str "M", false), (.str "MVM", false), (.tup [.str "M", .str "V"], false)]
def itB (d : D) : Bool := itD d && decide (wtE 17 d ≤ 66) && decide (wtE 19 d ≤ 66)
theorem itm_of {d : D} (h : itB d = true) : Itm d := by
  unfold itB at h
  simp only [Bool.and_eq_true, decide_eq_true_eq] at h
  exact ⟨h.1.1, h.1.2, h.2⟩
def tupB : D → Bool
  | .tup l => l.all itB && decide (l.length ≤ 100)
  | .str x => decide (x.length ≤ 100) && x.cps.toList.all fun c => decide (c < 16 ^ 8)
  | _ => false
theorem good_of {d : D} (h : tupB d = true) : Good d := by
  cases d with
  | tup l =>
    have h : (l.all itB && decide (l.length ≤ 100)) = true := h
    simp only [Bool.and_eq_true, decide_eq_true_eq, List.all_eq_true] at h
    exact good_tup (fun d hd => itm_of (h.1 d hd)) h.2
  | str x =>
    have h : (decide (x.length ≤ 100) && x.cps.toList.all fun c => decide (c < 16 ^ 8)) = true := h
    simp only [Bool.and_eq_true, decide_eq_true_eq, List.all_eq_true] at h
    exact good_str ⟨h.1, h.2⟩
  | _ => cases h
theorem rows_ok : ∀ p ∈ rowsA ++ rowsB, tupB p.1 = true ∧ okC p.1 = p.2 := by decide +kernel
theorem rowsS_ok : ∀ p ∈ rowsS, tupB p.1 = true ∧ okS 2 p.1 = p.2 := by decide +kernel
def bodyH : DStm := (sIf (dNot (dTst (dLam [2] 1 [] (dCall 1 f_need_corner (aCons (dVar 0) (aNil))) 3 ph__law_is (aCons (dK (.str "corner")) (aCons (dVar 2) (aCons (dVar 3) (aNil))))))) (sRet (dK (.bl false))) (sSkip))
def bodyT : DStm := (sIf (dNot (dTst (dLam [2] 1 [] (dCall 2 f_need_signs (aCons (dTup (aCons (dK (.int 1)) (aCons (dK (.int 1)) (aNil)))) (aCons (dVar 0) (aNil)))) 3 ph__law_is (aCons (dK (.str "signs")) (aCons (dVar 2) (aCons (dVar 3) (aNil))))))) (sRet (dK (.bl false))) (sSkip))
theorem bodyH_ok (x y : Slot) (d : D) (g : Good d) : bodyH [x, y, .val d, .val (.bl (okC d))] = ret (.nx [x, y, .val d, .val (.bl (okC d))]) := by
  have e : capD [2] [x, y, .val d, .val (.bl (okC d))] = some [d] := rfl
  unfold bodyH
  simp only [x_seq, x_asg, x_cb, x_acons, x_anil, x_if, x_tst, x_bin, x_un, x_var, x_k, x_lst, x_tup, x_ret, x_skip, x_sl, x_osome, x_onone, x_astar, x_seqD_t, x_seqD_l, bnd_ret, bnd_bnd, List.getElem?_cons_succ, List.getElem?_cons_zero, List.set_cons_succ, List.set_cons_zero, Bool.false_eq_true, if_true, if_false, x_not, x_lam, e, x_call, need_of (n1_ d), need_of (n3_ _ _ _), stE, List.nil_append, List.map_cons, List.map_nil, List.cons_append, is_corner_ d g, Bool.not_true]
theorem ask11 : AskD (.tup [.int 1, .int 1]) := (good_of (d := .tup [.int 1, .int 1]) (by decide +kernel)).ask
theorem bodyT_ok (x y : Slot) (d : D) (g : Good d) : bodyT [x, y, .val d, .val (.bl (okS 2 d))] = ret (.nx [x, y, .val d, .val (.bl (okS 2 d))]) := by
  have e : capD [2] [x, y, .val d, .val (.bl (okS 2 d))] = some [d] := rfl
  have i := is_signs_ [.int 1, .int 1] ask11 (by decide +kernel) d g
  have z2 : ([.int 1, .int 1] : List D).length ≤ sizeLine := szl (by simp)
  have i : ph__law_is (f_need_signs [.tup [.int 1, .int 1], d]) [.str "signs", d, .bl (okS 2 d)] = ret (.bl true) := i
  unfold bodyT
  simp only [x_seq, x_asg, x_cb, x_acons, x_anil, x_if, x_tst, x_bin, x_un, x_var, x_k, x_lst, x_tup, x_ret, x_skip, x_sl, x_osome, x_onone, x_astar, x_seqD_t, x_seqD_l, bnd_ret, bnd_bnd, List.getElem?_cons_succ, List.getElem?_cons_zero, List.set_cons_succ, List.set_cons_zero, Bool.false_eq_true, if_true, if_false, x_not, x_lam, e, x_call, need_of z2, need_of (n2_ _ d), need_of (n3_ _ _ _), stE, List.nil_append, List.map_cons, List.map_nil, List.cons_append, i, Bool.not_true]
theorem lam_nil (N : Nat) (ds0 : List D) (fb : DExp) (e : En) : dLam [] N ds0 fb 0 ph__law_outcome aNil e = outM oks (fun d => f__law_word [d]) (fb (stE N (ds0 ++ []))) := by
  show bnd (aNil e) (fun rest => need (rest.length = 0) (outM oks (fun d => f__law_word [d]) (fb (stE N (ds0 ++ []))))) = _
  rw [x_anil, bnd_ret, need_of (show ([] : List D).length = 0 from rfl)]
theorem o1 (e : En) : dLam [] 0 [] (dCall 2 f_need_signs (aCons (dTup (aCons (dK (.int 1)) (aNil))) (aCons (dK (.str "M")) (aNil)))) 0 ph__law_outcome aNil e = ret (.tup [.str "corner", .tup [.int 1]]) := by
  have a : AskD (.tup [.int 1]) := (good_of (d := .tup [.int 1]) (by decide +kernel)).ask
  have z1 : ([.int 1] : List D).length ≤ sizeLine := szl (by simp)
  rw [lam_nil]
  simp only [x_seq, x_asg, x_cb, x_acons, x_anil, x_if, x_tst, x_bin, x_un, x_var, x_k, x_lst, x_tup, x_ret, x_skip, x_sl, x_osome, x_onone, x_astar, x_seqD_t, x_seqD_l, bnd_ret, bnd_bnd, List.getElem?_cons_succ, List.getElem?_cons_zero, List.set_cons_succ, List.set_cons_zero, Bool.false_eq_true, if_true, if_false, x_call, need_of z1, need_of (n2_ _ _), z_needS_bad _ _ a (by decide +kernel)]
  rw [out_rais okC_, word_of _ "corner" _ okC_ (by simp)]
theorem o2 (e : En) : dLam [] 1 [.int 0] (dCall 2 f_need_signs (aCons (dK .non) (aCons (dK .non) (aNil)))) 0 ph__law_outcome aNil e = ret (.tup [.str "corner", .non]) := by
  have a : AskD .non := ⟨rfl, fun m e => (nomatch e)⟩
  rw [lam_nil]
  simp only [x_seq, x_asg, x_cb, x_acons, x_anil, x_if, x_tst, x_bin, x_un, x_var, x_k, x_lst, x_tup, x_ret, x_skip, x_sl, x_osome, x_onone, x_astar, x_seqD_t, x_seqD_l, bnd_ret, bnd_bnd, List.getElem?_cons_succ, List.getElem?_cons_zero, List.set_cons_succ, List.set_cons_zero, Bool.false_eq_true, if_true, if_false, x_call, need_of (n2_ _ _), z_needS_bad _ _ a (by decide +kernel)]
  rw [out_rais okC_, word_of _ "corner" _ okC_ (by simp)]
theorem z_hand : f__law_hand_right [] = ret (.bl true) := by
  have g12 : gMul (.tup [.int 1]) (.int 12) = ret (.tup (List.replicate 12 (.int 1))) := by
    rw [g_mul_t, need_of ⟨by simp, by decide, by decide, by simp⟩]; rfl
  have g13 : gMul (.tup [.int 1]) (.int 13) = ret (.tup (List.replicate 13 (.int 1))) := by
    rw [g_mul_t, need_of ⟨by simp, by decide, by decide, by simp⟩]; rfl
  unfold f__law_hand_right
  rw [x_fn]
  unfold s__law_hand_right
  rw [show (sIf (dNot (dTst (dLam [2] 1 [] (dCall 1 f_need_corner (aCons (dVar 0) (aNil))) 3 ph__law_is (aCons (dK (.str "corner")) (aCons (dVar 2) (aCons (dVar 3) (aNil))))))) (sRet (dK (.bl false))) (sSkip)) = bodyH from rfl,
    show (sIf (dNot (dTst (dLam [2] 1 [] (dCall 2 f_need_signs (aCons (dTup (aCons (dK (.int 1)) (aCons (dK (.int 1)) (aNil)))) (aCons (dVar 0) (aNil)))) 3 ph__law_is (aCons (dK (.str "signs")) (aCons (dVar 2) (aCons (dVar 3) (aNil))))))) (sRet (dK (.bl false))) (sSkip)) = bodyT from rfl]
  simp (maxSteps := 1000000) (disch := (first | exact trivial | assumption | (refine zz3 ?_; first | assumption | decide | ((try simp only [List.length_append, List.length_map, List.length_cons, List.length_nil, List.length_zip, List.length_drop, List.length_take, List.length_range, List.length_zipIdx, sg_len, rot_len]); omega)) | (refine zz4 ?_; first | assumption | decide | ((try simp only [List.length_append, List.length_map, List.length_cons, List.length_nil, List.length_zip, List.length_drop, List.length_take, List.length_range, List.length_zipIdx, sg_len, rot_len]); omega)) | decide)) only [x_seq, x_asg, x_cb, x_acons, x_anil, x_if, x_tst, x_bin, x_un, x_var, x_k, x_lst, x_tup, x_ret, x_skip, x_sl, x_osome, x_onone, x_astar, x_seqD_t, x_seqD_l, bnd_ret, bnd_bnd, List.getElem?_cons_succ, List.getElem?_cons_zero, List.set_cons_succ, List.set_cons_zero, Bool.false_eq_true, if_true, if_false, x_own, x_flst, x_for, x_ir1, x_ir2, x_lc, x_ival, x_items_l, x_items_t, x_app, x_peek, x_peekL, x_tpeek, x_frz, x_call, x_pars, x_mval, x_mown, x_mnil, x_sets0, x_sets1, x_unp, tg_two, x_and, x_or, x_not, x_andv, x_orv, x_notv, x_ife, x_drop, x_yes, x_wipe0, x_wipe1, x_lrg, x_ien, x_iz, List.map_cons, List.map_nil, List.cons_append, List.nil_append, List.length_cons, List.length_nil, List.replicate, noex_ret, need_of, g12, g13, p30, g_sub_i, g_add_l]
  refine loop_go (l := rowsA ++ rowsB) (m := pr2) (fun i env => ∃ x0 s1 s2 s3 : Slot, env = [x0, s1, s2, s3]) ⟨_, _, _, _, rfl⟩ (fun i hi env hI => ?_) fun env hI => ?_
  · obtain ⟨x0, s1, s2, s3, rfl⟩ := hI
    obtain ⟨b1, b2⟩ := rows_ok _ (List.getElem_mem hi)
    generalize (rowsA ++ rowsB)[i] = p at b1 b2
    have := bodyH_ok x0 s1 p.1 (good_of b1)
    rw [b2] at this
    exact ⟨_, _, rfl, this, _, _, _, _, rfl⟩
  obtain ⟨x0, s1, s2, s3, rfl⟩ := hI
  simp (maxSteps := 1000000) (disch := (first | exact trivial | assumption | (refine zz3 ?_; first | assumption | decide | ((try simp only [List.length_append, List.length_map, List.length_cons, List.length_nil, List.length_zip, List.length_drop, List.length_take, List.length_range, List.length_zipIdx, sg_len, rot_len]); omega)) | (refine zz4 ?_; first | assumption | decide | ((try simp only [List.length_append, List.length_map, List.length_cons, List.length_nil, List.length_zip, List.length_drop, List.length_take, List.length_range, List.length_zipIdx, sg_len, rot_len]); omega)) | decide)) only [x_seq, x_asg, x_cb, x_acons, x_anil, x_if, x_tst, x_bin, x_un, x_var, x_k, x_lst, x_tup, x_ret, x_skip, x_sl, x_osome, x_onone, x_astar, x_seqD_t, x_seqD_l, bnd_ret, bnd_bnd, List.getElem?_cons_succ, List.getElem?_cons_zero, List.set_cons_succ, List.set_cons_zero, Bool.false_eq_true, if_true, if_false, x_own, x_flst, x_for, x_ir1, x_ir2, x_lc, x_ival, x_items_l, x_items_t, x_app, x_peek, x_peekL, x_tpeek, x_frz, x_call, x_pars, x_mval, x_mown, x_mnil, x_sets0, x_sets1, x_unp, tg_two, x_and, x_or, x_not, x_andv, x_orv, x_notv, x_ife, x_drop, x_yes, x_wipe0, x_wipe1, x_lrg, x_ien, x_iz, List.map_cons, List.map_nil, List.cons_append, List.nil_append, List.length_cons, List.length_nil, List.replicate, noex_ret, need_of]
  refine loop_go (l := rowsS) (m := pr2) (fun i env => ∃ x0 s1 s2 s3 : Slot, env = [x0, s1, s2, s3]) ⟨_, _, _, _, rfl⟩ (fun i hi env hI => ?_) fun env hI => ?_
  · obtain ⟨x0, s1, s2, s3, rfl⟩ := hI
    obtain ⟨b1, b2⟩ := rowsS_ok _ (List.getElem_mem hi)
    generalize rowsS[i] = p at b1 b2
    have := bodyT_ok x0 s1 p.1 (good_of b1)
    rw [b2] at this
    exact ⟨_, _, rfl, this, _, _, _, _, rfl⟩
  obtain ⟨x0, s1, s2, s3, rfl⟩ := hI
  have pe : plD 20 (.lst [.tup [.str "corner", .tup [.int 1]], .tup [.str "corner", .non]]) = true := by decide +kernel
  simp (maxSteps := 1000000) (disch := (first | exact trivial | assumption | (refine zz3 ?_; first | assumption | decide | ((try simp only [List.length_append, List.length_map, List.length_cons, List.length_nil, List.length_zip, List.length_drop, List.length_take, List.length_range, List.length_zipIdx, sg_len, rot_len]); omega)) | (refine zz4 ?_; first | assumption | decide | ((try simp only [List.length_append, List.length_map, List.length_cons, List.length_nil, List.length_zip, List.length_drop, List.length_take, List.length_range, List.length_zipIdx, sg_len, rot_len]); omega)) | decide)) only [x_seq, x_asg, x_cb, x_acons, x_anil, x_if, x_tst, x_bin, x_un, x_var, x_k, x_lst, x_tup, x_ret, x_skip, x_sl, x_osome, x_onone, x_astar, x_seqD_t, x_seqD_l, bnd_ret, bnd_bnd, List.getElem?_cons_succ, List.getElem?_cons_zero, List.set_cons_succ, List.set_cons_zero, Bool.false_eq_true, if_true, if_false, x_own, x_flst, x_for, x_ir1, x_ir2, x_lc, x_ival, x_items_l, x_items_t, x_app, x_peek, x_peekL, x_tpeek, x_frz, x_call, x_pars, x_mval, x_mown, x_mnil, x_sets0, x_sets1, x_unp, tg_two, x_and, x_or, x_not, x_andv, x_orv, x_notv, x_ife, x_drop, x_yes, x_wipe0, x_wipe1, x_lrg, x_ien, x_iz, List.map_cons, List.map_nil, List.cons_append, List.nil_append, List.length_cons, List.length_nil, List.replicate, noex_ret, need_of, o1, o2, gEq_same pe]
theorem runs_c : (100000 : Nat) ≤ 2 ^ 60 := by decide
theorem runs_law : ∀ k, k ≤ 63 → Runs (f_law [.scr k]) 100000 fun d => d = .bl true := by
  intro k hk
  unfold f_law
  rw [x_fn]
  unfold s_law
  have hk' : k ≤ 100 := by omega
  obtain ⟨m, hm, hm2⟩ : ∃ m : Nat, (20 + if (20 : Int) < k then 20 else (k : Int)) = (m : Int) ∧ m ≤ 40 := ⟨20 + min k 20, by split <;> omega, by omega⟩
  have hb : -(2 ^ 62) ≤ (m : Int) ∧ (m : Int) < 2 ^ 62 := by omega
  simp (maxSteps := 1000000) (disch := (first | exact trivial | assumption | (refine zz3 ?_; first | assumption | decide | ((try simp only [List.length_append, List.length_map, List.length_cons, List.length_nil, List.length_zip, List.length_drop, List.length_take, List.length_range, List.length_zipIdx, sg_len, rot_len]); omega)) | (refine zz4 ?_; first | assumption | decide | ((try simp only [List.length_append, List.length_map, List.length_cons, List.length_nil, List.length_zip, List.length_drop, List.length_take, List.length_range, List.length_zipIdx, sg_len, rot_len]); omega)) | decide)) only [x_seq, x_asg, x_cb, x_acons, x_anil, x_if, x_tst, x_bin, x_un, x_var, x_k, x_lst, x_tup, x_ret, x_skip, x_sl, x_osome, x_onone, x_astar, x_seqD_t, x_seqD_l, bnd_ret, bnd_bnd, List.getElem?_cons_succ, List.getElem?_cons_zero, List.set_cons_succ, List.set_cons_zero, Bool.false_eq_true, if_true, if_false, x_own, x_flst, x_for, x_ir1, x_ir2, x_lc, x_ival, x_items_l, x_items_t, x_app, x_peek, x_peekL, x_tpeek, x_frz, x_call, x_pars, x_mval, x_mown, x_mnil, x_sets0, x_sets1, x_unp, tg_two, x_and, x_or, x_not, x_andv, x_orv, x_notv, x_ife, x_drop, x_yes, x_wipe0, x_wipe1, x_lrg, x_ien, x_iz, List.map_cons, List.map_nil, List.cons_append, List.nil_append, List.length_cons, List.length_nil, List.replicate, noex_ret, need_of, gBegun, need_of hk', g_len_c, g_min2, g_add_i, hm, need_of hb, rangeD_nat, Int.toNat_natCast]
  refine Runs.bndc (c1 := 60 * 40) (c2 := 0) (S := fun f => ∃ e, f = .nx e ∧ ∃ s2, e = [.val (.scr k), .val (.rng false (k + 1)), s2]) ?_ (by decide) ?_
  · refine (runs_loop (fun e => ∃ s2, e = [.val (.scr k), .val (.rng false (k + 1)), s2]) 60 ⟨_, rfl⟩ fun a ha env hI => ?_).le (by simp; omega) fun f hf => hf
    obtain ⟨s2, rfl⟩ := hI
    refine ⟨_, rfl, ?_⟩
    simp (maxSteps := 1000000) (disch := (first | exact trivial | assumption | (refine zz3 ?_; first | assumption | decide | ((try simp only [List.length_append, List.length_map, List.length_cons, List.length_nil, List.length_zip, List.length_drop, List.length_take, List.length_range, List.length_zipIdx, sg_len, rot_len]); omega)) | (refine zz4 ?_; first | assumption | decide | ((try simp only [List.length_append, List.length_map, List.length_cons, List.length_nil, List.length_zip, List.length_drop, List.length_take, List.length_range, List.length_zipIdx, sg_len, rot_len]); omega)) | decide)) only [x_seq, x_asg, x_cb, x_acons, x_anil, x_if, x_tst, x_bin, x_un, x_var, x_k, x_lst, x_tup, x_ret, x_skip, x_sl, x_osome, x_onone, x_astar, x_seqD_t, x_seqD_l, bnd_ret, bnd_bnd, List.getElem?_cons_succ, List.getElem?_cons_zero, List.set_cons_succ, List.set_cons_zero, Bool.false_eq_true, if_true, if_false, x_own, x_flst, x_for, x_ir1, x_ir2, x_lc, x_ival, x_items_l, x_items_t, x_app, x_peek, x_peekL, x_tpeek, x_frz, x_call, x_pars, x_mval, x_mown, x_mnil, x_sets0, x_sets1, x_unp, tg_two, x_and, x_or, x_not, x_andv, x_orv, x_notv, x_ife, x_drop, x_yes, x_wipe0, x_wipe1, x_lrg, x_ien, x_iz, List.map_cons, List.map_nil, List.cons_append, List.nil_append, List.length_cons, List.length_nil, List.replicate, noex_ret, need_of, x_not]
    refine Runs.bndc r_right (c2 := 0) (by omega) fun d hd => ?_
    subst hd
    exact Runs.ret ⟨_, rfl, _, rfl⟩
  · rintro _ ⟨e, rfl, s2, rfl⟩
    simp (maxSteps := 1000000) (disch := (first | exact trivial | assumption | (refine zz3 ?_; first | assumption | decide | ((try simp only [List.length_append, List.length_map, List.length_cons, List.length_nil, List.length_zip, List.length_drop, List.length_take, List.length_range, List.length_zipIdx, sg_len, rot_len]); omega)) | (refine zz4 ?_; first | assumption | decide | ((try simp only [List.length_append, List.length_map, List.length_cons, List.length_nil, List.length_zip, List.length_drop, List.length_take, List.length_range, List.length_zipIdx, sg_len, rot_len]); omega)) | decide)) only [x_seq, x_asg, x_cb, x_acons, x_anil, x_if, x_tst, x_bin, x_un, x_var, x_k, x_lst, x_tup, x_ret, x_skip, x_sl, x_osome, x_onone, x_astar, x_seqD_t, x_seqD_l, bnd_ret, bnd_bnd, List.getElem?_cons_succ, List.getElem?_cons_zero, List.set_cons_succ, List.set_cons_zero, Bool.false_eq_true, if_true, if_false, x_own, x_flst, x_for, x_ir1, x_ir2, x_lc, x_ival, x_items_l, x_items_t, x_app, x_peek, x_peekL, x_tpeek, x_frz, x_call, x_pars, x_mval, x_mown, x_mnil, x_sets0, x_sets1, x_unp, tg_two, x_and, x_or, x_not, x_andv, x_orv, x_notv, x_ife, x_drop, x_yes, x_wipe0, x_wipe1, x_lrg, x_ien, x_iz, List.map_cons, List.map_nil, List.cons_append, List.nil_append, List.length_cons, List.length_nil, List.replicate, noex_ret, need_of, z_hand]
    exact Runs.ret rfl
end Wk02

end
section
set_option Elab.async false
set_option linter.all false
set_option maxRecDepth 100000
set_option maxHeartbeats 4000000
/-! DEndS: the same, what stands at sys.modules being watched. -/
namespace DL
open PySem PySem.Spec PyProof.Rows L2
variable [Tb]
theorem law_goS {P : Program} {w : World} {K : PySem.W.Frag} {mg mb : Str → Option Value} {k : Nat} {fa a : Addr} {cs : List (Addr × Addr)} {fd : FuncData} {x : Str} {sp : Sp} {s1 : Shared} {vs : List Value} {ns : List Int}
    (kin : K.In s1.heap) (gns : s1.heap.Ns mainGlobals mg) (bns : s1.heap.Ns builtinsNs mb) (bbo : ∀ x : Str, x ≠ "__name__" → mb x = bootBuiltins x)
    (nol : s1.heap.NoLimit) (gen0 : s1.gens = #[])
    (tabs : ∀ p ∈ cs, PySem.W.CodeHd s1.heap p.1 p.2 ∧ s1.heap.get? p.2 = some { cls := .none, data := .fields #[] } ∧ K.lookup p.2 = none)
    (bmain : ∃ (bm : Addr) (ob : Obj), mg "__builtins__" = some (.ref bm) ∧ bm ≠ builtinsNs ∧ s1.heap.get? bm = some ob ∧ ob.cls = .type "module" ∧ ob.dict = some builtinsNs ∧ ob.data = .plain)
    (sysd : ∃ mm, s1.heap.Ns sysModules mm) (sysK : K.lookup sysModules = none)
    (at_ : s1.heap.get? a = some { cls := .type "list", data := .seq vs.toArray }) (ia : IntsAre vs ns) (small : ns.length ≤ sizeLine)
    (room : Room k callerA) (G : ∀ base : Heap, K.In base → base.Ns mainGlobals mg → (∀ p ∈ cs, LamX.TabB base mg p.1 p.2) → FnG P w K mg base k fa fd [x] sp) (bind : ∀ (s : Shared) (u : Value), BindsTo s fd ⟨[u], []⟩ [(x, u)])
    (meets : ∀ H : Hp, (∀ p ∈ cs, H p.2 = some (.tbl #[])) → (∃ u, H sysModules = some u ∧ SysO u) → SqL K H a (ns.map V.int) → sp [.ref a] H (fun v _ => v = .bl true) fun _ _ _ => False) :
    codeAny (model P w) callerA (.call (.ref fa) ⟨[.ref a], []⟩)
      (fun r s' => r = .ok (.ret (.bool true)) ∧ OldK s1.heap s'.heap ∧ s'.os = s1.os ∧ AllBare s'.gens) s1 := by
  have vals : Vals (ns.map V.int) vs := vals_ints ia
  have same : vs.length = ns.length := ia.length
  let O : Obj := { cls := .type "list", data := .seq vs.toArray }
  let T : Obj := { cls := .none, data := .fields #[] }
  let Ts : List Addr := cs.map (·.2)
  have tabAt : ∀ b ∈ Ts, s1.heap.get? b = some T ∧ K.lookup b = none := fun b hb => by
    obtain ⟨p, hp, rfl⟩ := List.mem_map.mp hb
    exact ⟨(tabs p hp).2.1, (tabs p hp).2.2⟩
  have aT : a ∉ Ts := fun z => by
    have q := (tabAt a z).1
    rw [at_] at q
    have : O.cls = T.cls := congrArg Obj.cls (Option.some.inj q)
    cases this
  obtain ⟨mm, o0, es0, ep0, sy1, sy2, _⟩ := sysd
  let U : HO := .frz o0 (.ext fun _ => True)
  have aS : a ≠ sysModules := fun z => by rw [z, sy1] at at_; have q := Option.some.inj at_; rw [q] at sy2; cases sy2
  have tS : ∀ b ∈ Ts, b ≠ sysModules := fun b hb z => by
    have q := (tabAt b hb).1
    rw [z, sy1] at q
    have q := Option.some.inj q
    rw [q] at sy2; cases sy2
  suffices go : ∀ H : Hp, (∀ b u, H b = some u → (b = a ∧ u = .frz O (.lst (ns.map V.int)) ∧ K.lookup a = none) ∨ (b ∈ Ts ∧ u = .tbl #[]) ∨ (b = sysModules ∧ u = U)) → (∀ b ∈ Ts, H b = some (.tbl #[])) → H sysModules = some U → SqL K H a (ns.map V.int) →
      codeAny (model P w) callerA (.call (.ref fa) ⟨[.ref a], []⟩) (fun r s' => r = .ok (.ret (.bool true)) ∧ OldK s1.heap s'.heap ∧ s'.os = s1.os ∧ AllBare s'.gens) s1 by
    cases e : K.lookup a with
    | some o =>
      have q := kin a o e
      rw [at_] at q
      have q := Option.some.inj q
      subst q
      refine go (fun b => if b ∈ Ts then some (.tbl #[]) else if b = sysModules then some U else none) (fun b u z => ?_) (fun b hb => if_pos hb) (by rw [if_neg (fun hb => tS _ hb rfl), if_pos rfl]) (.inr ⟨O, vs.toArray, _, e, rfl, rfl, rfl, by rw [List.size_toArray, same]; exact small, vals⟩)
      by_cases hb : b ∈ Ts
      · rw [if_pos hb] at z; exact .inr (.inl ⟨hb, (Option.some.inj z).symm⟩)
      · rw [if_neg hb] at z
        by_cases h3 : b = sysModules
        · rw [if_pos h3] at z; exact .inr (.inr ⟨h3, (Option.some.inj z).symm⟩)
        · rw [if_neg h3] at z; cases z
    | none =>
      refine go (fun b => if b = a then some (.frz O (.lst (ns.map V.int))) else if b ∈ Ts then some (.tbl #[]) else if b = sysModules then some U else none) (fun b u z => ?_) (fun b hb => ?_) (by rw [if_neg (Ne.symm aS), if_neg (fun hb => tS _ hb rfl), if_pos rfl]) (.inl (.inr ⟨O, if_pos rfl⟩))
      · by_cases hb : b = a
        · rw [if_pos hb] at z
          exact .inl ⟨hb, (Option.some.inj z).symm, e⟩
        · rw [if_neg hb] at z
          by_cases h2 : b ∈ Ts
          · rw [if_pos h2] at z; exact .inr (.inl ⟨h2, (Option.some.inj z).symm⟩)
          · rw [if_neg h2] at z
            by_cases h3 : b = sysModules
            · rw [if_pos h3] at z; exact .inr (.inr ⟨h3, (Option.some.inj z).symm⟩)
            · rw [if_neg h3] at z; cases z
      · show (if b = a then _ else if b ∈ Ts then some (HO.tbl #[]) else _) = _
        rw [if_neg (fun z : b = a => aT (by rw [← z]; exact hb)), if_pos hb]
  intro H only hT hU seq
  have ok : HOk P w H s1.heap := fun b u z => by
    rcases only b u z with ⟨rfl, rfl, _⟩ | ⟨hb, rfl⟩ | ⟨rfl, rfl⟩
    · exact ⟨at_, by rw [List.length_map]; exact small, vs, _, vals, at_⟩
    · exact (tabAt b hb).1
    · exact ⟨sy1, trivial, ⟨_, sy1⟩, fun _ _ _ _ => trivial⟩
  have other : ∀ {b : Addr} {o : Obj}, s1.heap.get? b = some o → (∀ u, H b = some u → False) → (hidT s1.heap H).get? b = some o := fun {b o} e z => hidT_get e (by
    cases q : H b with
    | none => rfl
    | some u => exact (z u q).elim)
  have apart : ∀ {b : Addr} {o : Obj}, s1.heap.get? b = some o → o ≠ O → o ≠ T → b ≠ sysModules → (hidT s1.heap H).get? b = some o := fun {b o} e n1 n2 n3 => other e fun u z => by
    rcases only b u z with ⟨rfl, _, _⟩ | ⟨hb, _⟩ | ⟨hb, _⟩
    · rw [at_] at e; exact n1 (Option.some.inj e).symm
    · rw [(tabAt b hb).1] at e; exact n2 (Option.some.inj e).symm
    · exact n3 hb
  have nss : ∀ {b : Addr} {m : Str → Option Value}, b ≠ sysModules → s1.heap.Ns b m → (hidT s1.heap H).Ns b m := fun {b m} nb ⟨o, es, ep, e, d, r⟩ =>
    ⟨o, es, ep, apart e (fun z => by subst z; cases d) (fun z => by subst z; cases d) nb, d, r⟩
  have kin' : K.In (hidT s1.heap H) := fun b o e => other (kin b o e) fun u z => by
    rcases only b u z with ⟨rfl, _, n⟩ | ⟨hb, _⟩ | ⟨rfl, _⟩
    · rw [n] at e; cases e
    · rw [(tabAt b hb).2] at e; cases e
    · rw [sysK] at e; cases e
  have md : Mod K mg (hidT s1.heap H) := ⟨kin', nss (by decide) gns, ⟨mb, nss (by decide) bns, bbo⟩, by
    obtain ⟨mc, l1, l2⟩ := nol
    exact ⟨mc, nss (by decide) l1, l2⟩⟩
  have TB : ∀ p ∈ cs, LamX.TabB (hidT s1.heap H) mg p.1 p.2 := fun p hp => by
    obtain ⟨hc, ht, _⟩ := tabs p hp
    refine ⟨?_, ?_, fun z => ?_⟩
    · obtain ⟨o, us, file, tf, flags, tg, inF, text, tt, e1, r1, r2⟩ := hc
      exact ⟨o, us, file, tf, flags, tg, inF, text, tt, apart e1 (fun z => by rw [z] at r1; simp [O, T] at r1) (fun z => by rw [z] at r1; simp [O, T] at r1) (fun z => by rw [z, sy1] at e1; have q := Option.some.inj e1; have r3 := r2.1; rw [← q, sy2] at r3; cases r3), r1, r2⟩
    · obtain ⟨bm, ob, b1, b2, b3, b4, b5, b6⟩ := bmain
      refine ⟨bm, ob, b1, b2, fun q => ?_, fun q => ?_, apart b3 (fun z => by rw [z] at b4; simp [O, T] at b4) (fun z => by rw [z] at b4; simp [O, T] at b4) (fun z => by rw [z, sy1] at b3; have q := Option.some.inj b3; rw [← q, sy2] at b6; cases b6), b4, b5, b6⟩
      · obtain ⟨o, es, ep, e, d, _⟩ := gns
        rw [q, e] at b3; cases b3
        rw [d] at b6; cases b6
      · rw [q, ht] at b3; cases b3
        cases b4
    · obtain ⟨o, es, ep, e, d, _⟩ := gns
      rw [z, ht] at e; cases e
      cases d
  have env : Env0 P w K mg (hidT s1.heap H) callerA [] s1 H :=
    ⟨rfl, md, fun b o e => of_hidT e, Nat.le_of_eq (hidT_size _ _), trivial, fun b hb => (nomatch hb), ok, .of_eq gen0⟩
  have run := (G _ kin' (nss (by decide) gns) TB).run callerA [] s1 H ⟨[.ref a], []⟩ [.ref a] [.ref a] _ _ room rfl env (bind s1 (.ref a)) (.cons rfl .nil) (meets H (fun p hp => hT _ (List.mem_map.mpr ⟨p, hp, rfl⟩)) ⟨U, hU, .inr ⟨_, _, rfl⟩⟩ seq)
  refine codeAny_mono run fun r s' h => ?_
  match r, h with
  | .error e, h =>
    obtain ⟨_, _, _, _, _, _, _, _, _, _, _, _, z⟩ := h
    exact z.elim
  | .ok .next, h => exact h.elim
  | .ok .brk, h => exact h.elim
  | .ok .cont, h => exact h.elim
  | .ok (.ret u), h =>
    obtain ⟨v, H', os, bare, un, ok', r', q⟩ := h
    cases (show v = .bl true from q)
    have r' : u = Value.bool true := r'
    subst r'
    have kept : ∀ b o, b ∉ Ts → s1.heap.get? b = some o → s'.heap.get? b = some o := fun b o nb e => by
      cases z : H b with
      | none => exact un.keep b o e z (fun q => by cases q) (by simp)
      | some u =>
        rcases only b u z with ⟨rfl, rfl, _⟩ | ⟨hb, _⟩ | ⟨rfl, rfl⟩
        · have z2 := un.frzs b O _ z
          obtain ⟨e1, _⟩ := ok b _ z
          obtain ⟨e2, _⟩ := ok' b _ z2
          rw [e] at e1
          cases e1
          exact e2
        · exact absurd hb nb
        · have z2 := un.frzs _ _ _ z
          obtain ⟨e1, _⟩ := ok _ _ z
          obtain ⟨e2, _⟩ := ok' _ _ z2
          rw [e] at e1
          cases e1
          exact e2
    have grown : ∀ p ∈ cs, ∃ more : Array Value, s'.heap.get? p.2 = some { cls := .none, data := .fields more } := fun p hp => by
      obtain ⟨more, z⟩ := un.tbls p.2 #[] (hT _ (List.mem_map.mpr ⟨p, hp, rfl⟩))
      exact ⟨_, ok' p.2 _ z⟩
    refine ⟨rfl, ⟨fun b o e => ?_, fun b o e => ?_⟩, os, bare⟩
    · by_cases hb : b ∈ Ts
      · obtain ⟨p, hp, rfl⟩ := List.mem_map.mp hb
        obtain ⟨more, hm⟩ := grown p hp
        have ht := (tabs p hp).2.1
        rw [ht] at e
        cases e
        exact .inr (.inl ⟨((tabs p hp).1.tab ht).isCodeTable, rfl, #[], more, rfl, by rw [Array.empty_append]; exact hm⟩)
      · exact .inl (kept b o hb e)
    · by_cases hb : b ∈ Ts
      · obtain ⟨p, hp, rfl⟩ := List.mem_map.mp hb
        obtain ⟨more, hm⟩ := grown p hp
        exact ⟨_, hm⟩
      · exact ⟨o, kept b o hb e⟩
theorem walk_goS {l : PySem.W.OpenLaw} {n k : Nat} {q : Program} {loose : List Str} {XP : (Str → Option Value) → Heap → Prop} {YP : World → Heap → Prop} {d : DefRec} {K : Params → PySem.W.Frag} {sp : World → Sp} {x : Str} (cs : List (Addr × Addr))
    (most : l.most = some n) (small : n ≤ sizeLine) (noDf : d.params.defaults = []) (room : Room k callerA) (kin : ∀ (w : World) (h : Heap), YP w h → (K w.params).In h)
    (imp : importsNone q = true) (sysK : ∀ w : World, (K w.params).lookup sysModules = none) (tabs : ∀ w : World, ∀ p ∈ cs, TabAt q (K w.params) p)
    (F : ∀ (w : World) (mg : Str → Option Value) (fa : Addr) (h : Heap), (K w.params).In h → h.Ns mainGlobals mg → mg d.name = some (.ref fa) →
      ∃ fd : FuncData, (∀ (s : Shared) (u : Value), BindsTo s fd ⟨[u], []⟩ [(x, u)]) ∧ ∀ base : Heap, (K w.params).In base → base.Ns mainGlobals mg → (∀ p ∈ cs, LamX.TabB base mg p.1 p.2) → FnG l.prog w (K w.params) mg base k fa fd [x] (sp w))
    (meets : ∀ (w : World) (H : Hp) (a : Addr) (ns : List Int), ns.length ≤ n → (∀ p ∈ cs, H p.2 = some (.tbl #[])) → (∃ u, H sysModules = some u ∧ SysO u) → SqL (K w.params) H a (ns.map V.int) → sp w [.ref a] H (fun v _ => v = .bl true) fun _ _ _ => False) :
    PySem.W.WalkO q loose XP YP l.row.toRowW d [] (fun f vs => PySem.call f vs) := by
  refine Att.attach_call most noDf fun w s0 s1 mg mb fa o pm cd doc a vs ns G Y ho hd hcd hmg hobj hints hlen hg => ?_
  have hK := kin w _ Y
  obtain ⟨fd, hb, hF⟩ := F w mg fa _ hK G.T.g hmg
  refine law_goS (cs := cs) hK G.T.g G.T.b G.T.builtins G.T.nolimit hg (fun p hp => ?_) G.T.bmain (let ⟨mm, h, _⟩ := (G.T.seer imp).mods; ⟨mm, h⟩) (sysK w) hobj hints (Nat.le_trans hlen small) room hF hb fun H hT hU hs => meets w H a ns hlen hT hU hs
  obtain ⟨y, dr, h1, h2, h3⟩ := tabs w p hp
  obtain ⟨z1, z2⟩ := PySem.W.tab_of (c := p.1) (P := p.2) G.T hK h1 h2
  exact ⟨z1, z2, h3⟩
end DL

end
section
set_option Elab.async false
set_option linter.all false
set_option maxRecDepth 100000
set_option maxHeartbeats 4000000
open PySem PySem.Spec PyProof.Rows L2 DL
namespace Wk02
open PKG
def tbl : List (Addr × Str) := [(325, (envOfC "_law_hand_right" (defScope st__law_hand_right) 0 0 Value.none).qual ++ "<lambda>"), (318, (envOfC "_law_right" (defScope st__law_right) 0 0 Value.none).qual ++ "<lambda>")]
instance tb0 : DL.Tb := ⟨tbl, by
  intro p hp p2 hp2 e
  simp only [tbl, List.mem_cons, List.not_mem_nil, or_false] at hp hp2
  rcases hp with rfl | rfl <;> rcases hp2 with rfl | rfl <;> first | (exact absurd e (by decide)) | rfl, true⟩
theorem tm__law_hand_right : (325, (envOfC "_law_hand_right" (defScope st__law_hand_right) 0 0 Value.none).qual ++ "<lambda>") ∈ Tb.tabs := .head _
theorem tm__law_right : (318, (envOfC "_law_right" (defScope st__law_right) 0 0 Value.none).qual ++ "<lambda>") ∈ Tb.tabs := .tail _ (.head _)
def csL : List (Addr × Addr) := [(329, 325), (322, 318)]
theorem csL_tabs : ∀ P q, (P, q) ∈ Tb.tabs → ∃ c, (c, P) ∈ csL := fun P q h => by
  have h : (P, q) ∈ tbl := h
  simp only [tbl, List.mem_cons, List.not_mem_nil, or_false, Prod.mk.injEq] at h
  rcases h with ⟨rfl, _⟩ | ⟨rfl, _⟩
  · exact ⟨329, by decide⟩
  · exact ⟨322, by decide⟩
theorem all_mk {P : Program} {w : World} {K : PySem.W.Frag} {h : Heap} {mg : Str → Option Value} {fa : Addr} {c : Nat} (hc : c ≤ 2 ^ 60) (hr : ∀ k, k ≤ 63 → Runs (f_law [.scr k]) c fun d => d = .bl true) (X : K.In h) (G : h.Ns mainGlobals mg) (hfa : mg "law" = some (.ref fa))
    {f__law_begun_ : Addr} {od__law_begun an__law_begun : Option Addr} {sl__law_begun : Array (Option Value)} {oc__law_begun kV__law_begun dc__law_begun pm__law_begun cd__law_begun ct__law_begun : Value}
    {f__law_word_ : Addr} {od__law_word an__law_word : Option Addr} {sl__law_word : Array (Option Value)} {oc__law_word kV__law_word dc__law_word pm__law_word cd__law_word ct__law_word : Value}
    {f__law_outcome_ : Addr} {od__law_outcome an__law_outcome : Option Addr} {sl__law_outcome : Array (Option Value)} {oc__law_outcome kV__law_outcome dc__law_outcome pm__law_outcome cd__law_outcome ct__law_outcome : Value}
    {f__law_is_ : Addr} {od__law_is an__law_is : Option Addr} {sl__law_is : Array (Option Value)} {oc__law_is kV__law_is dc__law_is pm__law_is cd__law_is ct__law_is : Value}
    {f_is_integer_ : Addr} {od_is_integer an_is_integer : Option Addr} {sl_is_integer : Array (Option Value)} {oc_is_integer kV_is_integer dc_is_integer pm_is_integer cd_is_integer ct_is_integer : Value}
    {f_is_whole_ : Addr} {od_is_whole an_is_whole : Option Addr} {sl_is_whole : Array (Option Value)} {oc_is_whole kV_is_whole dc_is_whole pm_is_whole cd_is_whole ct_is_whole : Value}
    {f_is_corner_ : Addr} {od_is_corner an_is_corner : Option Addr} {sl_is_corner : Array (Option Value)} {oc_is_corner kV_is_corner dc_is_corner pm_is_corner cd_is_corner ct_is_corner : Value}
    {f_need_corner_ : Addr} {od_need_corner an_need_corner : Option Addr} {sl_need_corner : Array (Option Value)} {oc_need_corner kV_need_corner dc_need_corner pm_need_corner cd_need_corner ct_need_corner : Value}
    {f_need_signs_ : Addr} {od_need_signs an_need_signs : Option Addr} {sl_need_signs : Array (Option Value)} {oc_need_signs kV_need_signs dc_need_signs pm_need_signs cd_need_signs ct_need_signs : Value}
    {f__law_hand_right_ : Addr} {od__law_hand_right an__law_hand_right : Option Addr} {sl__law_hand_right : Array (Option Value)} {oc__law_hand_right kV__law_hand_right dc__law_hand_right pm__law_hand_right ct__law_hand_right : Value}
    {f__law_draw_ : Addr} {od__law_draw an__law_draw : Option Addr} {sl__law_draw : Array (Option Value)} {oc__law_draw kV__law_draw dc__law_draw pm__law_draw cd__law_draw ct__law_draw : Value}
    {f__law_any_ : Addr} {od__law_any an__law_any : Option Addr} {sl__law_any : Array (Option Value)} {oc__law_any kV__law_any dc__law_any pm__law_any cd__law_any ct__law_any : Value}
    {f__law_of_ : Addr} {od__law_of an__law_of : Option Addr} {sl__law_of : Array (Option Value)} {oc__law_of kV__law_of dc__law_of pm__law_of cd__law_of ct__law_of : Value}
    {f__law_odd_ : Addr} {od__law_odd an__law_odd : Option Addr} {sl__law_odd : Array (Option Value)} {oc__law_odd kV__law_odd dc__law_odd pm__law_odd cd__law_odd ct__law_odd : Value}
    {f__law_near_ : Addr} {od__law_near an__law_near : Option Addr} {sl__law_near : Array (Option Value)} {oc__law_near kV__law_near dc__law_near pm__law_near cd__law_near ct__law_near : Value}
    {f__law_letters_ : Addr} {od__law_letters an__law_letters : Option Addr} {sl__law_letters : Array (Option Value)} {oc__law_letters kV__law_letters dc__law_letters pm__law_letters cd__law_letters ct__law_letters : Value}
    {f__law_text_ : Addr} {od__law_text an__law_text : Option Addr} {sl__law_text : Array (Option Value)} {oc__law_text kV__law_text dc__law_text pm__law_text cd__law_text ct__law_text : Value}
    {f__law_is_whole_ : Addr} {od__law_is_whole an__law_is_whole : Option Addr} {sl__law_is_whole : Array (Option Value)} {oc__law_is_whole kV__law_is_whole dc__law_is_whole pm__law_is_whole cd__law_is_whole ct__law_is_whole : Value}
    {f__law_is_corner_ : Addr} {od__law_is_corner an__law_is_corner : Option Addr} {sl__law_is_corner : Array (Option Value)} {oc__law_is_corner kV__law_is_corner dc__law_is_corner pm__law_is_corner cd__law_is_corner ct__law_is_corner : Value}
    {f__law_are_signs_ : Addr} {od__law_are_signs an__law_are_signs : Option Addr} {sl__law_are_signs : Array (Option Value)} {oc__law_are_signs kV__law_are_signs dc__law_are_signs pm__law_are_signs cd__law_are_signs ct__law_are_signs : Value}
    {f__law_right_ : Addr} {od__law_right an__law_right : Option Addr} {sl__law_right : Array (Option Value)} {oc__law_right kV__law_right dc__law_right pm__law_right ct__law_right : Value}
    {f_law_ : Addr} {od_law an_law : Option Addr} {sl_law : Array (Option Value)} {oc_law kV_law dc_law pm_law cd_law ct_law : Value}
    {t_LEAST_SECTORS : Tok}
    {t_MOST_SECTORS : Tok}
    {t_MOST_SUM : Tok}
    {t_MOUNTAIN : Tok}
    {t_VALLEY : Tok}
    {C_BadCorner : Addr}
    {C_BadNumber : Addr}
    {C_BadPaper : Addr}
    {C_BadSigns : Addr}
    {C_BadStack : Addr}
    {C_BadText : Addr}
    {C_FoldError : Addr}
    {C_Nothing : Addr}
    {C_TooGreat : Addr}
    {f1_BadCorner cc_BadCorner cda_BadCorner N_BadCorner : Addr} {nm_BadCorner qq_BadCorner file_BadCorner : Str} {bs_BadCorner sub_BadCorner : List Value} {sn_BadCorner : List Str} {ab_BadCorner : Bool} {col_BadCorner : Option Bool} {dd_BadCorner iod_BadCorner ian_BadCorner icdd_BadCorner icld_BadCorner : Option Addr} {m0_BadCorner m1_BadCorner m2_BadCorner m3_BadCorner m5_BadCorner : Option Value}
    {vs_BadCorner : Array Value} {tf_BadCorner : Tok} {ioc_BadCorner iccl_BadCorner icl_BadCorner ikV_BadCorner idc_BadCorner ipm_BadCorner ict_BadCorner : Value} {iosl_BadCorner iccs_BadCorner icsl_BadCorner : Array (Option Value)} {icd_BadCorner : ClassData}
    {f1_BadSigns cc_BadSigns cda_BadSigns N_BadSigns : Addr} {nm_BadSigns qq_BadSigns file_BadSigns : Str} {bs_BadSigns sub_BadSigns : List Value} {sn_BadSigns : List Str} {ab_BadSigns : Bool} {col_BadSigns : Option Bool} {dd_BadSigns iod_BadSigns ian_BadSigns icdd_BadSigns icld_BadSigns : Option Addr} {m0_BadSigns m1_BadSigns m2_BadSigns m3_BadSigns m5_BadSigns : Option Value}
    {vs_BadSigns : Array Value} {tf_BadSigns : Tok} {ioc_BadSigns iccl_BadSigns icl_BadSigns ikV_BadSigns idc_BadSigns ipm_BadSigns ict_BadSigns : Value} {iosl_BadSigns iccs_BadSigns icsl_BadSigns : Array (Option Value)} {icd_BadSigns : ClassData}
    (a__law_begun : PySem.W.nsIn K mainGlobals "_law_begun" = some (some (.ref f__law_begun_)))
    (l__law_begun : K.lookup f__law_begun_ = some ⟨oc__law_begun, od__law_begun, .func (PySem.W.fnOf "_law_begun" "_law_begun" (defArgs st__law_begun) (defBody st__law_begun) (defScope st__law_begun) .none kV__law_begun dc__law_begun pm__law_begun an__law_begun cd__law_begun ct__law_begun), sl__law_begun⟩)
    (c__law_begun : PySem.W.codeIn K cd__law_begun "_law_begun" = true) (k__law_begun : PySem.W.keepIn K (.ref f__law_begun_) = true)
    (a__law_word : PySem.W.nsIn K mainGlobals "_law_word" = some (some (.ref f__law_word_)))
    (l__law_word : K.lookup f__law_word_ = some ⟨oc__law_word, od__law_word, .func (PySem.W.fnOf "_law_word" "_law_word" (defArgs st__law_word) (defBody st__law_word) (defScope st__law_word) .none kV__law_word dc__law_word pm__law_word an__law_word cd__law_word ct__law_word), sl__law_word⟩)
    (c__law_word : PySem.W.codeIn K cd__law_word "_law_word" = true) (k__law_word : PySem.W.keepIn K (.ref f__law_word_) = true)
    (a__law_outcome : PySem.W.nsIn K mainGlobals "_law_outcome" = some (some (.ref f__law_outcome_)))
    (l__law_outcome : K.lookup f__law_outcome_ = some ⟨oc__law_outcome, od__law_outcome, .func (PySem.W.fnOf "_law_outcome" "_law_outcome" (defArgs st__law_outcome) (defBody st__law_outcome) (defScope st__law_outcome) .none kV__law_outcome dc__law_outcome pm__law_outcome an__law_outcome cd__law_outcome ct__law_outcome), sl__law_outcome⟩)
    (c__law_outcome : PySem.W.codeIn K cd__law_outcome "_law_outcome" = true) (k__law_outcome : PySem.W.keepIn K (.ref f__law_outcome_) = true)
    (a__law_is : PySem.W.nsIn K mainGlobals "_law_is" = some (some (.ref f__law_is_)))
    (l__law_is : K.lookup f__law_is_ = some ⟨oc__law_is, od__law_is, .func (PySem.W.fnOf "_law_is" "_law_is" (defArgs st__law_is) (defBody st__law_is) (defScope st__law_is) .none kV__law_is dc__law_is pm__law_is an__law_is cd__law_is ct__law_is), sl__law_is⟩)
    (c__law_is : PySem.W.codeIn K cd__law_is "_law_is" = true) (k__law_is : PySem.W.keepIn K (.ref f__law_is_) = true)
    (a_is_integer : PySem.W.nsIn K mainGlobals "is_integer" = some (some (.ref f_is_integer_)))
    (l_is_integer : K.lookup f_is_integer_ = some ⟨oc_is_integer, od_is_integer, .func (PySem.W.fnOf "is_integer" "is_integer" (defArgs st_is_integer) (defBody st_is_integer) (defScope st_is_integer) .none kV_is_integer dc_is_integer pm_is_integer an_is_integer cd_is_integer ct_is_integer), sl_is_integer⟩)
    (c_is_integer : PySem.W.codeIn K cd_is_integer "is_integer" = true) (k_is_integer : PySem.W.keepIn K (.ref f_is_integer_) = true)
    (a_is_whole : PySem.W.nsIn K mainGlobals "is_whole" = some (some (.ref f_is_whole_)))
    (l_is_whole : K.lookup f_is_whole_ = some ⟨oc_is_whole, od_is_whole, .func (PySem.W.fnOf "is_whole" "is_whole" (defArgs st_is_whole) (defBody st_is_whole) (defScope st_is_whole) .none kV_is_whole dc_is_whole pm_is_whole an_is_whole cd_is_whole ct_is_whole), sl_is_whole⟩)
    (c_is_whole : PySem.W.codeIn K cd_is_whole "is_whole" = true) (k_is_whole : PySem.W.keepIn K (.ref f_is_whole_) = true)
    (a_is_corner : PySem.W.nsIn K mainGlobals "is_corner" = some (some (.ref f_is_corner_)))
    (l_is_corner : K.lookup f_is_corner_ = some ⟨oc_is_corner, od_is_corner, .func (PySem.W.fnOf "is_corner" "is_corner" (defArgs st_is_corner) (defBody st_is_corner) (defScope st_is_corner) .none kV_is_corner dc_is_corner pm_is_corner an_is_corner cd_is_corner ct_is_corner), sl_is_corner⟩)
    (c_is_corner : PySem.W.codeIn K cd_is_corner "is_corner" = true) (k_is_corner : PySem.W.keepIn K (.ref f_is_corner_) = true)
    (a_need_corner : PySem.W.nsIn K mainGlobals "need_corner" = some (some (.ref f_need_corner_)))
    (l_need_corner : K.lookup f_need_corner_ = some ⟨oc_need_corner, od_need_corner, .func (PySem.W.fnOf "need_corner" "need_corner" (defArgs st_need_corner) (defBody st_need_corner) (defScope st_need_corner) .none kV_need_corner dc_need_corner pm_need_corner an_need_corner cd_need_corner ct_need_corner), sl_need_corner⟩)
    (c_need_corner : PySem.W.codeIn K cd_need_corner "need_corner" = true) (k_need_corner : PySem.W.keepIn K (.ref f_need_corner_) = true)
    (a_need_signs : PySem.W.nsIn K mainGlobals "need_signs" = some (some (.ref f_need_signs_)))
    (l_need_signs : K.lookup f_need_signs_ = some ⟨oc_need_signs, od_need_signs, .func (PySem.W.fnOf "need_signs" "need_signs" (defArgs st_need_signs) (defBody st_need_signs) (defScope st_need_signs) .none kV_need_signs dc_need_signs pm_need_signs an_need_signs cd_need_signs ct_need_signs), sl_need_signs⟩)
    (c_need_signs : PySem.W.codeIn K cd_need_signs "need_signs" = true) (k_need_signs : PySem.W.keepIn K (.ref f_need_signs_) = true)
    (a__law_hand_right : PySem.W.nsIn K mainGlobals "_law_hand_right" = some (some (.ref f__law_hand_right_)))
    (l__law_hand_right : K.lookup f__law_hand_right_ = some ⟨oc__law_hand_right, od__law_hand_right, .func (PySem.W.fnOf "_law_hand_right" "_law_hand_right" (defArgs st__law_hand_right) (defBody st__law_hand_right) (defScope st__law_hand_right) .none kV__law_hand_right dc__law_hand_right pm__law_hand_right an__law_hand_right (.ref 329) ct__law_hand_right), sl__law_hand_right⟩)
    (c__law_hand_right : PySem.W.codeIn K (.ref 329) "_law_hand_right" = true) (k__law_hand_right : PySem.W.keepIn K (.ref f__law_hand_right_) = true)
    (a__law_draw : PySem.W.nsIn K mainGlobals "_law_draw" = some (some (.ref f__law_draw_)))
    (l__law_draw : K.lookup f__law_draw_ = some ⟨oc__law_draw, od__law_draw, .func (PySem.W.fnOf "_law_draw" "_law_draw" (defArgs st__law_draw) (defBody st__law_draw) (defScope st__law_draw) .none kV__law_draw dc__law_draw pm__law_draw an__law_draw cd__law_draw ct__law_draw), sl__law_draw⟩)
    (c__law_draw : PySem.W.codeIn K cd__law_draw "_law_draw" = true) (k__law_draw : PySem.W.keepIn K (.ref f__law_draw_) = true)
    (a__law_any : PySem.W.nsIn K mainGlobals "_law_any" = some (some (.ref f__law_any_)))
    (l__law_any : K.lookup f__law_any_ = some ⟨oc__law_any, od__law_any, .func (PySem.W.fnOf "_law_any" "_law_any" (defArgs st__law_any) (defBody st__law_any) (defScope st__law_any) .none kV__law_any dc__law_any pm__law_any an__law_any cd__law_any ct__law_any), sl__law_any⟩)
    (c__law_any : PySem.W.codeIn K cd__law_any "_law_any" = true) (k__law_any : PySem.W.keepIn K (.ref f__law_any_) = true)
    (a__law_of : PySem.W.nsIn K mainGlobals "_law_of" = some (some (.ref f__law_of_)))
    (l__law_of : K.lookup f__law_of_ = some ⟨oc__law_of, od__law_of, .func (PySem.W.fnOf "_law_of" "_law_of" (defArgs st__law_of) (defBody st__law_of) (defScope st__law_of) .none kV__law_of dc__law_of pm__law_of an__law_of cd__law_of ct__law_of), sl__law_of⟩)
    (c__law_of : PySem.W.codeIn K cd__law_of "_law_of" = true) (k__law_of : PySem.W.keepIn K (.ref f__law_of_) = true)
    (a__law_odd : PySem.W.nsIn K mainGlobals "_law_odd" = some (some (.ref f__law_odd_)))
    (l__law_odd : K.lookup f__law_odd_ = some ⟨oc__law_odd, od__law_odd, .func (PySem.W.fnOf "_law_odd" "_law_odd" (defArgs st__law_odd) (defBody st__law_odd) (defScope st__law_odd) .none kV__law_odd dc__law_odd pm__law_odd an__law_odd cd__law_odd ct__law_odd), sl__law_odd⟩)
    (c__law_odd : PySem.W.codeIn K cd__law_odd "_law_odd" = true) (k__law_odd : PySem.W.keepIn K (.ref f__law_odd_) = true)
    (a__law_near : PySem.W.nsIn K mainGlobals "_law_near" = some (some (.ref f__law_near_)))
    (l__law_near : K.lookup f__law_near_ = some ⟨oc__law_near, od__law_near, .func (PySem.W.fnOf "_law_near" "_law_near" (defArgs st__law_near) (defBody st__law_near) (defScope st__law_near) .none kV__law_near dc__law_near pm__law_near an__law_near cd__law_near ct__law_near), sl__law_near⟩)
    (c__law_near : PySem.W.codeIn K cd__law_near "_law_near" = true) (k__law_near : PySem.W.keepIn K (.ref f__law_near_) = true)
    (a__law_letters : PySem.W.nsIn K mainGlobals "_law_letters" = some (some (.ref f__law_letters_)))
    (l__law_letters : K.lookup f__law_letters_ = some ⟨oc__law_letters, od__law_letters, .func (PySem.W.fnOf "_law_letters" "_law_letters" (defArgs st__law_letters) (defBody st__law_letters) (defScope st__law_letters) .none kV__law_letters dc__law_letters pm__law_letters an__law_letters cd__law_letters ct__law_letters), sl__law_letters⟩)
    (c__law_letters : PySem.W.codeIn K cd__law_letters "_law_letters" = true) (k__law_letters : PySem.W.keepIn K (.ref f__law_letters_) = true)
    (a__law_text : PySem.W.nsIn K mainGlobals "_law_text" = some (some (.ref f__law_text_)))
    (l__law_text : K.lookup f__law_text_ = some ⟨oc__law_text, od__law_text, .func (PySem.W.fnOf "_law_text" "_law_text" (defArgs st__law_text) (defBody st__law_text) (defScope st__law_text) .none kV__law_text dc__law_text pm__law_text an__law_text cd__law_text ct__law_text), sl__law_text⟩)
    (c__law_text : PySem.W.codeIn K cd__law_text "_law_text" = true) (k__law_text : PySem.W.keepIn K (.ref f__law_text_) = true)
    (a__law_is_whole : PySem.W.nsIn K mainGlobals "_law_is_whole" = some (some (.ref f__law_is_whole_)))
    (l__law_is_whole : K.lookup f__law_is_whole_ = some ⟨oc__law_is_whole, od__law_is_whole, .func (PySem.W.fnOf "_law_is_whole" "_law_is_whole" (defArgs st__law_is_whole) (defBody st__law_is_whole) (defScope st__law_is_whole) .none kV__law_is_whole dc__law_is_whole pm__law_is_whole an__law_is_whole cd__law_is_whole ct__law_is_whole), sl__law_is_whole⟩)
    (c__law_is_whole : PySem.W.codeIn K cd__law_is_whole "_law_is_whole" = true) (k__law_is_whole : PySem.W.keepIn K (.ref f__law_is_whole_) = true)
    (a__law_is_corner : PySem.W.nsIn K mainGlobals "_law_is_corner" = some (some (.ref f__law_is_corner_)))
    (l__law_is_corner : K.lookup f__law_is_corner_ = some ⟨oc__law_is_corner, od__law_is_corner, .func (PySem.W.fnOf "_law_is_corner" "_law_is_corner" (defArgs st__law_is_corner) (defBody st__law_is_corner) (defScope st__law_is_corner) .none kV__law_is_corner dc__law_is_corner pm__law_is_corner an__law_is_corner cd__law_is_corner ct__law_is_corner), sl__law_is_corner⟩)
    (c__law_is_corner : PySem.W.codeIn K cd__law_is_corner "_law_is_corner" = true) (k__law_is_corner : PySem.W.keepIn K (.ref f__law_is_corner_) = true)
    (a__law_are_signs : PySem.W.nsIn K mainGlobals "_law_are_signs" = some (some (.ref f__law_are_signs_)))
    (l__law_are_signs : K.lookup f__law_are_signs_ = some ⟨oc__law_are_signs, od__law_are_signs, .func (PySem.W.fnOf "_law_are_signs" "_law_are_signs" (defArgs st__law_are_signs) (defBody st__law_are_signs) (defScope st__law_are_signs) .none kV__law_are_signs dc__law_are_signs pm__law_are_signs an__law_are_signs cd__law_are_signs ct__law_are_signs), sl__law_are_signs⟩)
    (c__law_are_signs : PySem.W.codeIn K cd__law_are_signs "_law_are_signs" = true) (k__law_are_signs : PySem.W.keepIn K (.ref f__law_are_signs_) = true)
    (a__law_right : PySem.W.nsIn K mainGlobals "_law_right" = some (some (.ref f__law_right_)))
    (l__law_right : K.lookup f__law_right_ = some ⟨oc__law_right, od__law_right, .func (PySem.W.fnOf "_law_right" "_law_right" (defArgs st__law_right) (defBody st__law_right) (defScope st__law_right) .none kV__law_right dc__law_right pm__law_right an__law_right (.ref 322) ct__law_right), sl__law_right⟩)
    (c__law_right : PySem.W.codeIn K (.ref 322) "_law_right" = true) (k__law_right : PySem.W.keepIn K (.ref f__law_right_) = true)
    (a_law : PySem.W.nsIn K mainGlobals "law" = some (some (.ref f_law_)))
    (l_law : K.lookup f_law_ = some ⟨oc_law, od_law, .func (PySem.W.fnOf "law" "law" (defArgs st_law) (defBody st_law) (defScope st_law) .none kV_law dc_law pm_law an_law cd_law ct_law), sl_law⟩)
    (c_law : PySem.W.codeIn K cd_law "law" = true) (k_law : PySem.W.keepIn K (.ref f_law_) = true)
    (n_all : PySem.W.nsIn K mainGlobals "all" = some none)
    (n_bool : PySem.W.nsIn K mainGlobals "bool" = some none)
    (n_int : PySem.W.nsIn K mainGlobals "int" = some none)
    (n_isinstance : PySem.W.nsIn K mainGlobals "isinstance" = some none)
    (n_len : PySem.W.nsIn K mainGlobals "len" = some none)
    (n_list : PySem.W.nsIn K mainGlobals "list" = some none)
    (n_min : PySem.W.nsIn K mainGlobals "min" = some none)
    (n_range : PySem.W.nsIn K mainGlobals "range" = some none)
    (n_repr : PySem.W.nsIn K mainGlobals "repr" = some none)
    (n_str : PySem.W.nsIn K mainGlobals "str" = some none)
    (n_sum : PySem.W.nsIn K mainGlobals "sum" = some none)
    (n_tuple : PySem.W.nsIn K mainGlobals "tuple" = some none)
    (v_LEAST_SECTORS : PySem.W.nsIn K mainGlobals "LEAST_SECTORS" = some (some (.int 2 t_LEAST_SECTORS)))
    (v_MOST_SECTORS : PySem.W.nsIn K mainGlobals "MOST_SECTORS" = some (some (.int 12 t_MOST_SECTORS)))
    (v_MOST_SUM : PySem.W.nsIn K mainGlobals "MOST_SUM" = some (some (.int 1000000000000000000000000000000 t_MOST_SUM)))
    (v_MOUNTAIN : PySem.W.nsIn K mainGlobals "MOUNTAIN" = some (some (.str "M" t_MOUNTAIN)))
    (v_VALLEY : PySem.W.nsIn K mainGlobals "VALLEY" = some (some (.str "V" t_VALLEY)))
    (a_BadCorner : PySem.W.nsIn K mainGlobals "BadCorner" = some (some (.ref C_BadCorner)))
    (b_BadCorner : PySem.W.subIn K (.ref C_BadCorner) (.type "BaseException") = some true)
    (d_BadCorner : PySem.W.hasDictIn K C_BadCorner = true)
    (t_BadCorner : PySem.W.typeIn K (.ref C_BadCorner) = some (.type "type"))
    (a_BadNumber : PySem.W.nsIn K mainGlobals "BadNumber" = some (some (.ref C_BadNumber)))
    (b_BadNumber : PySem.W.subIn K (.ref C_BadNumber) (.type "BaseException") = some true)
    (d_BadNumber : PySem.W.hasDictIn K C_BadNumber = true)
    (t_BadNumber : PySem.W.typeIn K (.ref C_BadNumber) = some (.type "type"))
    (a_BadPaper : PySem.W.nsIn K mainGlobals "BadPaper" = some (some (.ref C_BadPaper)))
    (b_BadPaper : PySem.W.subIn K (.ref C_BadPaper) (.type "BaseException") = some true)
    (d_BadPaper : PySem.W.hasDictIn K C_BadPaper = true)
    (t_BadPaper : PySem.W.typeIn K (.ref C_BadPaper) = some (.type "type"))
    (a_BadSigns : PySem.W.nsIn K mainGlobals "BadSigns" = some (some (.ref C_BadSigns)))
    (b_BadSigns : PySem.W.subIn K (.ref C_BadSigns) (.type "BaseException") = some true)
    (d_BadSigns : PySem.W.hasDictIn K C_BadSigns = true)
    (t_BadSigns : PySem.W.typeIn K (.ref C_BadSigns) = some (.type "type"))
    (a_BadStack : PySem.W.nsIn K mainGlobals "BadStack" = some (some (.ref C_BadStack)))
    (b_BadStack : PySem.W.subIn K (.ref C_BadStack) (.type "BaseException") = some true)
    (d_BadStack : PySem.W.hasDictIn K C_BadStack = true)
    (t_BadStack : PySem.W.typeIn K (.ref C_BadStack) = some (.type "type"))
    (a_BadText : PySem.W.nsIn K mainGlobals "BadText" = some (some (.ref C_BadText)))
    (b_BadText : PySem.W.subIn K (.ref C_BadText) (.type "BaseException") = some true)
    (d_BadText : PySem.W.hasDictIn K C_BadText = true)
    (t_BadText : PySem.W.typeIn K (.ref C_BadText) = some (.type "type"))
    (a_FoldError : PySem.W.nsIn K mainGlobals "FoldError" = some (some (.ref C_FoldError)))
    (b_FoldError : PySem.W.subIn K (.ref C_FoldError) (.type "BaseException") = some true)
    (d_FoldError : PySem.W.hasDictIn K C_FoldError = true)
    (t_FoldError : PySem.W.typeIn K (.ref C_FoldError) = some (.type "type"))
    (a_Nothing : PySem.W.nsIn K mainGlobals "Nothing" = some (some (.ref C_Nothing)))
    (b_Nothing : PySem.W.subIn K (.ref C_Nothing) (.type "BaseException") = some true)
    (d_Nothing : PySem.W.hasDictIn K C_Nothing = true)
    (t_Nothing : PySem.W.typeIn K (.ref C_Nothing) = some (.type "type"))
    (a_TooGreat : PySem.W.nsIn K mainGlobals "TooGreat" = some (some (.ref C_TooGreat)))
    (b_TooGreat : PySem.W.subIn K (.ref C_TooGreat) (.type "BaseException") = some true)
    (d_TooGreat : PySem.W.hasDictIn K C_TooGreat = true)
    (t_TooGreat : PySem.W.typeIn K (.ref C_TooGreat) = some (.type "type"))
    (gs_ : PySem.W.specialIn K (.builtin "object.__class__") "__get__" = some (some (.builtin "getset_descriptor.__get__")))
    (gt_ : PySem.W.takesIn K (.builtin "object.__class__") = some true)
    (gf_BadCorner : PySem.W.findIn K (.ref C_BadCorner) (fieldOf "BadCorner") = some none)
    (gf_BadSigns : PySem.W.findIn K (.ref C_BadSigns) (fieldOf "BadSigns") = some none)
    (ga_BadCorner : PySem.W.findIn K (.ref C_BadCorner) "__getattribute__" = some (some (.builtin "BaseException.__getattribute__")))
    (gg_BadCorner : PySem.W.findIn K (.ref C_BadCorner) "__getattr__" = some none)
    (gc_BadCorner : PySem.W.findIn K (.ref C_BadCorner) "__class__" = some (some (.builtin "object.__class__")))
    (gm_BadCorner : PySem.W.mroIn K C_BadCorner (.type "object") = some true)
    (sF_BadCorner : PySem.W.subIn K (.ref C_BadCorner) (.ref C_FoldError) = some true)
    (s_BadCorner_BadNumber : PySem.W.subIn K (.ref C_BadCorner) (.ref C_BadNumber) = some false)
    (s_BadCorner_BadPaper : PySem.W.subIn K (.ref C_BadCorner) (.ref C_BadPaper) = some false)
    (s_BadCorner_BadSigns : PySem.W.subIn K (.ref C_BadCorner) (.ref C_BadSigns) = some false)
    (s_BadCorner_BadStack : PySem.W.subIn K (.ref C_BadCorner) (.ref C_BadStack) = some false)
    (s_BadCorner_BadText : PySem.W.subIn K (.ref C_BadCorner) (.ref C_BadText) = some false)
    (s_BadCorner_Nothing : PySem.W.subIn K (.ref C_BadCorner) (.ref C_Nothing) = some false)
    (s_BadCorner_TooGreat : PySem.W.subIn K (.ref C_BadCorner) (.ref C_TooGreat) = some false)
    (ne_BadCorner_BadNumber : (Value.ref C_BadCorner == Value.ref C_BadNumber) = false)
    (ne_BadCorner_BadPaper : (Value.ref C_BadCorner == Value.ref C_BadPaper) = false)
    (ne_BadCorner_BadSigns : (Value.ref C_BadCorner == Value.ref C_BadSigns) = false)
    (ne_BadCorner_BadStack : (Value.ref C_BadCorner == Value.ref C_BadStack) = false)
    (ne_BadCorner_BadText : (Value.ref C_BadCorner == Value.ref C_BadText) = false)
    (ne_BadCorner_Nothing : (Value.ref C_BadCorner == Value.ref C_Nothing) = false)
    (ne_BadCorner_TooGreat : (Value.ref C_BadCorner == Value.ref C_TooGreat) = false)
    (ga_BadSigns : PySem.W.findIn K (.ref C_BadSigns) "__getattribute__" = some (some (.builtin "BaseException.__getattribute__")))
    (gg_BadSigns : PySem.W.findIn K (.ref C_BadSigns) "__getattr__" = some none)
    (gc_BadSigns : PySem.W.findIn K (.ref C_BadSigns) "__class__" = some (some (.builtin "object.__class__")))
    (gm_BadSigns : PySem.W.mroIn K C_BadSigns (.type "object") = some true)
    (sF_BadSigns : PySem.W.subIn K (.ref C_BadSigns) (.ref C_FoldError) = some true)
    (s_BadSigns_BadCorner : PySem.W.subIn K (.ref C_BadSigns) (.ref C_BadCorner) = some false)
    (s_BadSigns_BadNumber : PySem.W.subIn K (.ref C_BadSigns) (.ref C_BadNumber) = some false)
    (s_BadSigns_BadPaper : PySem.W.subIn K (.ref C_BadSigns) (.ref C_BadPaper) = some false)
    (s_BadSigns_BadStack : PySem.W.subIn K (.ref C_BadSigns) (.ref C_BadStack) = some false)
    (s_BadSigns_BadText : PySem.W.subIn K (.ref C_BadSigns) (.ref C_BadText) = some false)
    (s_BadSigns_Nothing : PySem.W.subIn K (.ref C_BadSigns) (.ref C_Nothing) = some false)
    (s_BadSigns_TooGreat : PySem.W.subIn K (.ref C_BadSigns) (.ref C_TooGreat) = some false)
    (ne_BadSigns_BadCorner : (Value.ref C_BadSigns == Value.ref C_BadCorner) = false)
    (ne_BadSigns_BadNumber : (Value.ref C_BadSigns == Value.ref C_BadNumber) = false)
    (ne_BadSigns_BadPaper : (Value.ref C_BadSigns == Value.ref C_BadPaper) = false)
    (ne_BadSigns_BadStack : (Value.ref C_BadSigns == Value.ref C_BadStack) = false)
    (ne_BadSigns_BadText : (Value.ref C_BadSigns == Value.ref C_BadText) = false)
    (ne_BadSigns_Nothing : (Value.ref C_BadSigns == Value.ref C_Nothing) = false)
    (ne_BadSigns_TooGreat : (Value.ref C_BadSigns == Value.ref C_TooGreat) = false)
    (hsu : PySem.W.nsIn K mainGlobals "super" = some none)
    (hth : PySem.W.nsIn K cStatics "thirdparty.any" = some none)
    (htop : (P.main.scope.names.lookup ("super" : Str)).isSome = false)
    (xL_BadCorner : K.lookup C_BadCorner = some (excClassObj nm_BadCorner qq_BadCorner C_BadCorner N_BadCorner bs_BadCorner [.ref C_FoldError, .type "ValueError", .type "Exception", .type "BaseException", .type "object"] true sn_BadCorner sub_BadCorner ab_BadCorner col_BadCorner dd_BadCorner m0_BadCorner m1_BadCorner m2_BadCorner m3_BadCorner m5_BadCorner "ValueError.__new__"))
    (sa_BadCorner : PySem.W.findIn K (.ref C_BadCorner) "__setattr__" = some (some (.builtin "object.__setattr__")))
    (kC_BadCorner : PySem.W.keepIn K (.ref C_BadCorner) = true)
    (iC_BadCorner : PySem.W.findIn K (.ref C_BadCorner) "__init__" = some (some (.ref f1_BadCorner)))
    (tI_BadCorner : PySem.W.typeIn K (.ref f1_BadCorner) = some (.type "function"))
    (hl_BadCorner : K.lookup f1_BadCorner = some ⟨ioc_BadCorner, iod_BadCorner, .func (PySem.W.fnX "__init__" "BadCorner.__init__" (C8.fnArgs (initOf (top 2))) (C8.fnBody (initOf (top 2))) (C8.fnScope (initOf (top 2))) [("__class__", cc_BadCorner)] .none ikV_BadCorner idc_BadCorner ipm_BadCorner ian_BadCorner (.ref cda_BadCorner) ict_BadCorner), iosl_BadCorner⟩)
    (hcd_BadCorner : PySem.W.codeIn K (.ref cda_BadCorner) "BadCorner.__init__" = true)
    (hk_BadCorner : K.lookup cda_BadCorner = some ⟨iccl_BadCorner, icdd_BadCorner, .fields vs_BadCorner, iccs_BadCorner⟩)
    (hv_BadCorner : vs_BadCorner[2]? = some (.str file_BadCorner tf_BadCorner)) (hf_BadCorner : ((P.main.file : Str) == file_BadCorner) = true)
    (hce_BadCorner : K.lookup cc_BadCorner = some ⟨icl_BadCorner, icld_BadCorner, .cell (some (.ref C_BadCorner)), icsl_BadCorner⟩)
    (hC_BadCorner : PySem.W.clsIn K C_BadCorner = some icd_BadCorner)
    (hmr_BadCorner : PySem.W.mroIn K C_BadCorner (.ref C_BadCorner) = some true)
    (hsi_BadCorner : PySem.W.ks_superIn K C_BadCorner C_BadCorner "__init__" = some (some (.builtin "ValueError.__init__")))
    (hB_BadCorner : PySem.W.subIn K (.ref C_BadCorner) (.type "ValueError") = some true)
    (xL_BadSigns : K.lookup C_BadSigns = some (excClassObj nm_BadSigns qq_BadSigns C_BadSigns N_BadSigns bs_BadSigns [.ref C_FoldError, .type "ValueError", .type "Exception", .type "BaseException", .type "object"] true sn_BadSigns sub_BadSigns ab_BadSigns col_BadSigns dd_BadSigns m0_BadSigns m1_BadSigns m2_BadSigns m3_BadSigns m5_BadSigns "ValueError.__new__"))
    (sa_BadSigns : PySem.W.findIn K (.ref C_BadSigns) "__setattr__" = some (some (.builtin "object.__setattr__")))
    (kC_BadSigns : PySem.W.keepIn K (.ref C_BadSigns) = true)
    (iC_BadSigns : PySem.W.findIn K (.ref C_BadSigns) "__init__" = some (some (.ref f1_BadSigns)))
    (tI_BadSigns : PySem.W.typeIn K (.ref f1_BadSigns) = some (.type "function"))
    (hl_BadSigns : K.lookup f1_BadSigns = some ⟨ioc_BadSigns, iod_BadSigns, .func (PySem.W.fnX "__init__" "BadSigns.__init__" (C8.fnArgs (initOf (top 3))) (C8.fnBody (initOf (top 3))) (C8.fnScope (initOf (top 3))) [("__class__", cc_BadSigns)] .none ikV_BadSigns idc_BadSigns ipm_BadSigns ian_BadSigns (.ref cda_BadSigns) ict_BadSigns), iosl_BadSigns⟩)
    (hcd_BadSigns : PySem.W.codeIn K (.ref cda_BadSigns) "BadSigns.__init__" = true)
    (hk_BadSigns : K.lookup cda_BadSigns = some ⟨iccl_BadSigns, icdd_BadSigns, .fields vs_BadSigns, iccs_BadSigns⟩)
    (hv_BadSigns : vs_BadSigns[2]? = some (.str file_BadSigns tf_BadSigns)) (hf_BadSigns : ((P.main.file : Str) == file_BadSigns) = true)
    (hce_BadSigns : K.lookup cc_BadSigns = some ⟨icl_BadSigns, icld_BadSigns, .cell (some (.ref C_BadSigns)), icsl_BadSigns⟩)
    (hC_BadSigns : PySem.W.clsIn K C_BadSigns = some icd_BadSigns)
    (hmr_BadSigns : PySem.W.mroIn K C_BadSigns (.ref C_BadSigns) = some true)
    (hsi_BadSigns : PySem.W.ks_superIn K C_BadSigns C_BadSigns "__init__" = some (some (.builtin "ValueError.__init__")))
    (hB_BadSigns : PySem.W.subIn K (.ref C_BadSigns) (.type "ValueError") = some true)
    : ∃ fd : FuncData, (∀ (s : Shared) (v : Value), BindsTo s fd ⟨[v], []⟩ [("_law_script", v)]) ∧ ∀ base : Heap, K.In base → base.Ns mainGlobals mg → (∀ p ∈ csL, LamX.TabB base mg p.1 p.2) → FnG P w K mg base 25 fa fd ["_law_script"] (spLaw K) := by
  have e := hfa.symm.trans (PySem.W.mg_of X G a_law)
  cases e
  have Z : Zs mg := { n_all := PySem.W.mg_none_of X G n_all, n_bool := PySem.W.mg_none_of X G n_bool, n_int := PySem.W.mg_none_of X G n_int, n_isinstance := PySem.W.mg_none_of X G n_isinstance, n_len := PySem.W.mg_none_of X G n_len, n_list := PySem.W.mg_none_of X G n_list, n_min := PySem.W.mg_none_of X G n_min, n_range := PySem.W.mg_none_of X G n_range, n_repr := PySem.W.mg_none_of X G n_repr, n_str := PySem.W.mg_none_of X G n_str, n_sum := PySem.W.mg_none_of X G n_sum, n_tuple := PySem.W.mg_none_of X G n_tuple, c_LEAST_SECTORS := ⟨_, PySem.W.mg_of X G v_LEAST_SECTORS⟩, c_MOST_SECTORS := ⟨_, PySem.W.mg_of X G v_MOST_SECTORS⟩, c_MOST_SUM := ⟨_, PySem.W.mg_of X G v_MOST_SUM⟩, c_MOUNTAIN := ⟨_, PySem.W.mg_of X G v_MOUNTAIN⟩, c_VALLEY := ⟨_, PySem.W.mg_of X G v_VALLEY⟩, k_BadCorner := ⟨_, PySem.W.mg_of X G a_BadCorner⟩, k_BadNumber := ⟨_, PySem.W.mg_of X G a_BadNumber⟩, k_BadPaper := ⟨_, PySem.W.mg_of X G a_BadPaper⟩, k_BadSigns := ⟨_, PySem.W.mg_of X G a_BadSigns⟩, k_BadStack := ⟨_, PySem.W.mg_of X G a_BadStack⟩, k_BadText := ⟨_, PySem.W.mg_of X G a_BadText⟩, k_Nothing := ⟨_, PySem.W.mg_of X G a_Nothing⟩, k_TooGreat := ⟨_, PySem.W.mg_of X G a_TooGreat⟩, sys := rfl }
  have D__law_begun : Df K mg "_law_begun" ["_law_script"] st__law_begun := Df.of X G a__law_begun l__law_begun c__law_begun k__law_begun fun _ _ _ _ _ _ us hl => match us, hl with | [_], _ => rfl
  have D__law_word : Df K mg "_law_word" ["_law_error"] st__law_word := Df.of X G a__law_word l__law_word c__law_word k__law_word fun _ _ _ _ _ _ us hl => match us, hl with | [_], _ => rfl
  have D__law_outcome : Df K mg "_law_outcome" ["_law_call"] st__law_outcome := Df.of X G a__law_outcome l__law_outcome c__law_outcome k__law_outcome fun _ _ _ _ _ _ us hl => match us, hl with | [_], _ => rfl
  have D__law_is : Df K mg "_law_is" ["_law_call", "_law_word_here", "_law_item", "_law_holds"] st__law_is := Df.of X G a__law_is l__law_is c__law_is k__law_is fun _ _ _ _ _ _ us hl => match us, hl with | [_, _, _, _], _ => rfl
  have D_is_integer : Df K mg "is_integer" ["value"] st_is_integer := Df.of X G a_is_integer l_is_integer c_is_integer k_is_integer fun _ _ _ _ _ _ us hl => match us, hl with | [_], _ => rfl
  have D_is_whole : Df K mg "is_whole" ["value", "least", "most"] st_is_whole := Df.of X G a_is_whole l_is_whole c_is_whole k_is_whole fun _ _ _ _ _ _ us hl => match us, hl with | [_, _, _], _ => rfl
  have D_is_corner : Df K mg "is_corner" ["value"] st_is_corner := Df.of X G a_is_corner l_is_corner c_is_corner k_is_corner fun _ _ _ _ _ _ us hl => match us, hl with | [_], _ => rfl
  have D_need_corner : Df K mg "need_corner" ["value"] st_need_corner := Df.of X G a_need_corner l_need_corner c_need_corner k_need_corner fun _ _ _ _ _ _ us hl => match us, hl with | [_], _ => rfl
  have D_need_signs : Df K mg "need_signs" ["corner", "value"] st_need_signs := Df.of X G a_need_signs l_need_signs c_need_signs k_need_signs fun _ _ _ _ _ _ us hl => match us, hl with | [_, _], _ => rfl
  have D__law_hand_right : DfC K mg "_law_hand_right" [] st__law_hand_right 329 := DfC.of X G a__law_hand_right l__law_hand_right c__law_hand_right k__law_hand_right fun _ _ _ _ _ _ us hl => match us, hl with | [], _ => rfl
  have D__law_draw : Df K mg "_law_draw" ["_law_m", "_law_limit"] st__law_draw := Df.of X G a__law_draw l__law_draw c__law_draw k__law_draw fun _ _ _ _ _ _ us hl => match us, hl with | [_, _], _ => rfl
  have D__law_any : Df K mg "_law_any" ["_law_m", "_law_many", "_law_most"] st__law_any := Df.of X G a__law_any l__law_any c__law_any k__law_any fun _ _ _ _ _ _ us hl => match us, hl with | [_, _, _], _ => rfl
  have D__law_of : Df K mg "_law_of" ["_law_m", "_law_some"] st__law_of := Df.of X G a__law_of l__law_of c__law_of k__law_of fun _ _ _ _ _ _ us hl => match us, hl with | [_, _], _ => rfl
  have D__law_odd : Df K mg "_law_odd" ["_law_m"] st__law_odd := Df.of X G a__law_odd l__law_odd c__law_odd k__law_odd fun _ _ _ _ _ _ us hl => match us, hl with | [_], _ => rfl
  have D__law_near : Df K mg "_law_near" ["_law_m"] st__law_near := Df.of X G a__law_near l__law_near c__law_near k__law_near fun _ _ _ _ _ _ us hl => match us, hl with | [_], _ => rfl
  have D__law_letters : Df K mg "_law_letters" ["_law_m", "_law_many"] st__law_letters := Df.of X G a__law_letters l__law_letters c__law_letters k__law_letters fun _ _ _ _ _ _ us hl => match us, hl with | [_, _], _ => rfl
  have D__law_text : Df K mg "_law_text" ["_law_m", "_law_many"] st__law_text := Df.of X G a__law_text l__law_text c__law_text k__law_text fun _ _ _ _ _ _ us hl => match us, hl with | [_, _], _ => rfl
  have D__law_is_whole : Df K mg "_law_is_whole" ["_law_item", "_law_low", "_law_high"] st__law_is_whole := Df.of X G a__law_is_whole l__law_is_whole c__law_is_whole k__law_is_whole fun _ _ _ _ _ _ us hl => match us, hl with | [_, _, _], _ => rfl
  have D__law_is_corner : Df K mg "_law_is_corner" ["_law_item"] st__law_is_corner := Df.of X G a__law_is_corner l__law_is_corner c__law_is_corner k__law_is_corner fun _ _ _ _ _ _ us hl => match us, hl with | [_], _ => rfl
  have D__law_are_signs : Df K mg "_law_are_signs" ["_law_row", "_law_item"] st__law_are_signs := Df.of X G a__law_are_signs l__law_are_signs c__law_are_signs k__law_are_signs fun _ _ _ _ _ _ us hl => match us, hl with | [_, _], _ => rfl
  have D__law_right : DfC K mg "_law_right" ["_law_m"] st__law_right 322 := DfC.of X G a__law_right l__law_right c__law_right k__law_right fun _ _ _ _ _ _ us hl => match us, hl with | [_], _ => rfl
  have R_BadCorner : ∀ base : Heap, Err P w K mg base "BadCorner" := fun base => err_of (st := (initOf (top 2))) X G (fun _ => rfl) rfl rfl rfl rfl rfl rfl (NdefX.nscope_by (by decide +kernel)) (fun _ _ _ _ _ _ _ us hu => match us, hu with | [_, _], _ => rfl) htop rfl a_BadCorner xL_BadCorner sa_BadCorner b_BadCorner t_BadCorner kC_BadCorner iC_BadCorner tI_BadCorner hl_BadCorner hcd_BadCorner hk_BadCorner hv_BadCorner hf_BadCorner hce_BadCorner hC_BadCorner hmr_BadCorner hsu hth hsi_BadCorner hB_BadCorner gf_BadCorner
  have R_BadSigns : ∀ base : Heap, Err P w K mg base "BadSigns" := fun base => err_of (st := (initOf (top 3))) X G (fun _ => rfl) rfl rfl rfl rfl rfl rfl (NdefX.nscope_by (by decide +kernel)) (fun _ _ _ _ _ _ _ us hu => match us, hu with | [_, _], _ => rfl) htop rfl a_BadSigns xL_BadSigns sa_BadSigns b_BadSigns t_BadSigns kC_BadSigns iC_BadSigns tI_BadSigns hl_BadSigns hcd_BadSigns hk_BadSigns hv_BadSigns hf_BadSigns hce_BadSigns hC_BadSigns hmr_BadSigns hsu hth hsi_BadSigns hB_BadSigns gf_BadSigns
  have EO : ∀ c ∈ oks, ErrO K mg c := fun c hc => by
    simp only [oks, List.mem_cons, List.not_mem_nil, or_false] at hc
    rcases hc with rfl | rfl
    · exact erro_of X G a_BadCorner ga_BadCorner gg_BadCorner b_BadCorner d_BadCorner gc_BadCorner gs_ gt_ gm_BadCorner gf_BadCorner
    · exact erro_of X G a_BadSigns ga_BadSigns gg_BadSigns b_BadSigns d_BadSigns gc_BadSigns gs_ gt_ gm_BadSigns gf_BadSigns
  have ET : ∀ c ∈ oks, ∀ d ∈ cls, ErrT K mg c d := fun c hc d hd => by
    simp only [oks, cls, List.mem_cons, List.not_mem_nil, or_false] at hc hd
    rcases hc with rfl | rfl
    · rcases hd with rfl | rfl | rfl | rfl | rfl | rfl | rfl | rfl
      · exact errt_same X G a_BadCorner
      · exact errt_ne X G a_BadCorner a_BadNumber (by decide) d_BadNumber t_BadNumber s_BadCorner_BadNumber ne_BadCorner_BadNumber
      · exact errt_ne X G a_BadCorner a_BadPaper (by decide) d_BadPaper t_BadPaper s_BadCorner_BadPaper ne_BadCorner_BadPaper
      · exact errt_ne X G a_BadCorner a_BadSigns (by decide) d_BadSigns t_BadSigns s_BadCorner_BadSigns ne_BadCorner_BadSigns
      · exact errt_ne X G a_BadCorner a_BadStack (by decide) d_BadStack t_BadStack s_BadCorner_BadStack ne_BadCorner_BadStack
      · exact errt_ne X G a_BadCorner a_BadText (by decide) d_BadText t_BadText s_BadCorner_BadText ne_BadCorner_BadText
      · exact errt_ne X G a_BadCorner a_Nothing (by decide) d_Nothing t_Nothing s_BadCorner_Nothing ne_BadCorner_Nothing
      · exact errt_ne X G a_BadCorner a_TooGreat (by decide) d_TooGreat t_TooGreat s_BadCorner_TooGreat ne_BadCorner_TooGreat
    · rcases hd with rfl | rfl | rfl | rfl | rfl | rfl | rfl | rfl
      · exact errt_ne X G a_BadSigns a_BadCorner (by decide) d_BadCorner t_BadCorner s_BadSigns_BadCorner ne_BadSigns_BadCorner
      · exact errt_ne X G a_BadSigns a_BadNumber (by decide) d_BadNumber t_BadNumber s_BadSigns_BadNumber ne_BadSigns_BadNumber
      · exact errt_ne X G a_BadSigns a_BadPaper (by decide) d_BadPaper t_BadPaper s_BadSigns_BadPaper ne_BadSigns_BadPaper
      · exact errt_same X G a_BadSigns
      · exact errt_ne X G a_BadSigns a_BadStack (by decide) d_BadStack t_BadStack s_BadSigns_BadStack ne_BadSigns_BadStack
      · exact errt_ne X G a_BadSigns a_BadText (by decide) d_BadText t_BadText s_BadSigns_BadText ne_BadSigns_BadText
      · exact errt_ne X G a_BadSigns a_Nothing (by decide) d_Nothing t_Nothing s_BadSigns_Nothing ne_BadSigns_Nothing
      · exact errt_ne X G a_BadSigns a_TooGreat (by decide) d_TooGreat t_TooGreat s_BadSigns_TooGreat ne_BadSigns_TooGreat
  have ETry : Exc3 K mg oks "FoldError" "Nothing" "TooGreat" := exc3_of X G a_FoldError a_Nothing a_TooGreat b_FoldError b_Nothing b_TooGreat d_FoldError d_Nothing d_TooGreat t_FoldError t_Nothing t_TooGreat fun c hc => by
    simp only [oks, List.mem_cons, List.not_mem_nil, or_false] at hc
    rcases hc with rfl | rfl
    · exact ⟨_, PySem.W.mg_of X G a_BadCorner, sF_BadCorner, s_BadCorner_Nothing, s_BadCorner_TooGreat⟩
    · exact ⟨_, PySem.W.mg_of X G a_BadSigns, sF_BadSigns, s_BadSigns_Nothing, s_BadSigns_TooGreat⟩
  have F_ := fun_mk (st := st_law) l_law c_law k_law
  refine ⟨PySem.W.fnOf "law" "law" (defArgs st_law) (defBody st_law) (defScope st_law) .none kV_law dc_law pm_law an_law cd_law ct_law, fun s v => .of_eq rfl, fun base _ _ hT => ?_⟩
  have G__law_begun := h__law_begun (P := P) (w := w) (base := base) Z D__law_begun
  have G__law_word := g__law_word (P := P) (w := w) (base := base) Z D__law_word EO ET
  have G_is_integer := g_is_integer (P := P) (w := w) (base := base) Z D_is_integer
  have G_is_whole := g_is_whole (P := P) (w := w) (base := base) Z D_is_whole G_is_integer
  have G_is_corner := g_is_corner (P := P) (w := w) (base := base) Z D_is_corner G_is_whole
  have G_need_corner := g_need_corner (P := P) (w := w) (base := base) Z D_need_corner G_is_corner (R_BadCorner base)
  have G_need_signs := g_need_signs (P := P) (w := w) (base := base) Z D_need_signs G_need_corner (R_BadSigns base)
  have G__law_hand_right := g__law_hand_right (P := P) (w := w) (base := base) Z G_need_corner G_need_signs G__law_word D__law_is D__law_outcome ETry (hT (329, 325) (by decide)) tm__law_hand_right D__law_hand_right
  have G__law_draw := h__law_draw (P := P) (w := w) (base := base) Z D__law_draw
  have G__law_any := g__law_any (P := P) (w := w) (base := base) Z D__law_any G__law_draw
  have G__law_of := g__law_of (P := P) (w := w) (base := base) Z D__law_of G__law_draw
  have G__law_odd := g__law_odd (P := P) (w := w) (base := base) Z D__law_odd G__law_of
  have G__law_near := g__law_near (P := P) (w := w) (base := base) Z D__law_near G__law_any G__law_draw G__law_of
  have G__law_letters := g__law_letters (P := P) (w := w) (base := base) Z D__law_letters G__law_of
  have G__law_text := g__law_text (P := P) (w := w) (base := base) Z D__law_text G__law_draw G__law_letters G__law_of
  have G__law_is_whole := g__law_is_whole (P := P) (w := w) (base := base) Z D__law_is_whole
  have G__law_is_corner := g__law_is_corner (P := P) (w := w) (base := base) Z D__law_is_corner G__law_is_whole
  have G__law_are_signs := g__law_are_signs (P := P) (w := w) (base := base) Z D__law_are_signs
  have G__law_right := g__law_right (P := P) (w := w) (base := base) Z G__law_any G__law_are_signs G__law_draw G__law_is_corner G__law_near G__law_odd G__law_text G_need_corner G_need_signs G__law_word D__law_is D__law_outcome ETry (hT (322, 318) (by decide)) tm__law_right D__law_right
  exact (w_law (P := P) (w := w) (base := base) Z F_ G__law_begun G__law_hand_right G__law_right).imp fun vs H Q E q => law_sp hc hr q
end Wk02
open PySem PySem.W PyProof.Rows
set_option maxRecDepth 100000 in
set_option maxHeartbeats 0 in
theorem PySem.Challenge.cw_pointfolds_k02_things_judged_holds : PySem.Challenge.rw_pointfolds_k02_things_judged.Holds := by
  w_on; o_law; k_head; (case hw => w_witness2)
  k_fill
  refine DL.walk_goS (l := PySem.Challenge.rw_pointfolds_k02_things_judged) (n := 63) (k := 25) (x := "_law_script") (sp := fun w => DL.spLaw _) (cs := Wk02.csL) rfl (by decide) rfl ⟨rfl, by decide, by decide⟩ (fun w h Y => PySem.W.km_in_of Y) (by decide +kernel) ?SK ?TT ?F (fun _ H a ns hl hT hU hs => ⟨a, ns, rfl, hs, hl, DL.tabs_nil Wk02.csL_tabs hT (fun _ => hU), fun _ => rfl⟩)
  case SK =>
    intro w
    first | rfl | k_is
  case TT =>
    intro w p hp
    simp only [Wk02.csL, List.mem_cons, List.not_mem_nil, or_false] at hp
    rcases hp with rfl | rfl
    · refine ⟨"_law_hand_right", _, rfl, ?ti, ?tl⟩
      (case ti => refine' DL.tabin_of ?za ?zl ?zc ?zk ?zv; (case za => k_is); (case zl => k_is); (case zc => rfl); (case zk => k_is); (case zv => rfl))
      (case tl => first | k_is | rfl)
    · refine ⟨"_law_right", _, rfl, ?ti, ?tl⟩
      (case ti => refine' DL.tabin_of ?za ?zl ?zc ?zk ?zv; (case za => k_is); (case zl => k_is); (case zc => rfl); (case zk => k_is); (case zv => rfl))
      (case tl => first | k_is | rfl)
  case F =>
    intro w mg fa h KX G hmg
    refine' Wk02.all_mk Wk02.runs_c Wk02.runs_law KX G hmg ?a__law_begun ?l__law_begun ?c__law_begun ?k__law_begun ?a__law_word ?l__law_word ?c__law_word ?k__law_word ?a__law_outcome ?l__law_outcome ?c__law_outcome ?k__law_outcome ?a__law_is ?l__law_is ?c__law_is ?k__law_is ?a_is_integer ?l_is_integer ?c_is_integer ?k_is_integer ?a_is_whole ?l_is_whole ?c_is_whole ?k_is_whole ?a_is_corner ?l_is_corner ?c_is_corner ?k_is_corner ?a_need_corner ?l_need_corner ?c_need_corner ?k_need_corner ?a_need_signs ?l_need_signs ?c_need_signs ?k_need_signs ?a__law_hand_right ?l__law_hand_right ?c__law_hand_right ?k__law_hand_right ?a__law_draw ?l__law_draw ?c__law_draw ?k__law_draw ?a__law_any ?l__law_any ?c__law_any ?k__law_any ?a__law_of ?l__law_of ?c__law_of ?k__law_of ?a__law_odd ?l__law_odd ?c__law_odd ?k__law_odd ?a__law_near ?l__law_near ?c__law_near ?k__law_near ?a__law_letters ?l__law_letters ?c__law_letters ?k__law_letters ?a__law_text ?l__law_text ?c__law_text ?k__law_text ?a__law_is_whole ?l__law_is_whole ?c__law_is_whole ?k__law_is_whole ?a__law_is_corner ?l__law_is_corner ?c__law_is_corner ?k__law_is_corner ?a__law_are_signs ?l__law_are_signs ?c__law_are_signs ?k__law_are_signs ?a__law_right ?l__law_right ?c__law_right ?k__law_right ?a_law ?l_law ?c_law ?k_law ?n_all ?n_bool ?n_int ?n_isinstance ?n_len ?n_list ?n_min ?n_range ?n_repr ?n_str ?n_sum ?n_tuple ?v_LEAST_SECTORS ?v_MOST_SECTORS ?v_MOST_SUM ?v_MOUNTAIN ?v_VALLEY ?a_BadCorner ?b_BadCorner ?d_BadCorner ?t_BadCorner ?a_BadNumber ?b_BadNumber ?d_BadNumber ?t_BadNumber ?a_BadPaper ?b_BadPaper ?d_BadPaper ?t_BadPaper ?a_BadSigns ?b_BadSigns ?d_BadSigns ?t_BadSigns ?a_BadStack ?b_BadStack ?d_BadStack ?t_BadStack ?a_BadText ?b_BadText ?d_BadText ?t_BadText ?a_FoldError ?b_FoldError ?d_FoldError ?t_FoldError ?a_Nothing ?b_Nothing ?d_Nothing ?t_Nothing ?a_TooGreat ?b_TooGreat ?d_TooGreat ?t_TooGreat ?gs_ ?gt_ ?gf_BadCorner ?gf_BadSigns ?ga_BadCorner ?gg_BadCorner ?gc_BadCorner ?gm_BadCorner ?sF_BadCorner ?s_BadCorner_BadNumber ?s_BadCorner_BadPaper ?s_BadCorner_BadSigns ?s_BadCorner_BadStack ?s_BadCorner_BadText ?s_BadCorner_Nothing ?s_BadCorner_TooGreat ?ne_BadCorner_BadNumber ?ne_BadCorner_BadPaper ?ne_BadCorner_BadSigns ?ne_BadCorner_BadStack ?ne_BadCorner_BadText ?ne_BadCorner_Nothing ?ne_BadCorner_TooGreat ?ga_BadSigns ?gg_BadSigns ?gc_BadSigns ?gm_BadSigns ?sF_BadSigns ?s_BadSigns_BadCorner ?s_BadSigns_BadNumber ?s_BadSigns_BadPaper ?s_BadSigns_BadStack ?s_BadSigns_BadText ?s_BadSigns_Nothing ?s_BadSigns_TooGreat ?ne_BadSigns_BadCorner ?ne_BadSigns_BadNumber ?ne_BadSigns_BadPaper ?ne_BadSigns_BadStack ?ne_BadSigns_BadText ?ne_BadSigns_Nothing ?ne_BadSigns_TooGreat ?hsu ?hth ?htop ?xL_BadCorner ?sa_BadCorner ?kC_BadCorner ?iC_BadCorner ?tI_BadCorner ?hl_BadCorner ?hcd_BadCorner ?hk_BadCorner ?hv_BadCorner ?hf_BadCorner ?hce_BadCorner ?hC_BadCorner ?hmr_BadCorner ?hsi_BadCorner ?hB_BadCorner ?xL_BadSigns ?sa_BadSigns ?kC_BadSigns ?iC_BadSigns ?tI_BadSigns ?hl_BadSigns ?hcd_BadSigns ?hk_BadSigns ?hv_BadSigns ?hf_BadSigns ?hce_BadSigns ?hC_BadSigns ?hmr_BadSigns ?hsi_BadSigns ?hB_BadSigns
    (case a__law_begun => k_is)
    (case l__law_begun => k_is)
    (case c__law_begun => k_is)
    (case k__law_begun => k_is)
    (case a__law_word => k_is)
    (case l__law_word => k_is)
    (case c__law_word => k_is)
    (case k__law_word => k_is)
    (case a__law_outcome => k_is)
    (case l__law_outcome => k_is)
    (case c__law_outcome => k_is)
    (case k__law_outcome => k_is)
    (case a__law_is => k_is)
    (case l__law_is => k_is)
    (case c__law_is => k_is)
    (case k__law_is => k_is)
    (case a_is_integer => k_is)
    (case l_is_integer => k_is)
    (case c_is_integer => k_is)
    (case k_is_integer => k_is)
    (case a_is_whole => k_is)
    (case l_is_whole => k_is)
    (case c_is_whole => k_is)
    (case k_is_whole => k_is)
    (case a_is_corner => k_is)
    (case l_is_corner => k_is)
    (case c_is_corner => k_is)
    (case k_is_corner => k_is)
    (case a_need_corner => k_is)
    (case l_need_corner => k_is)
    (case c_need_corner => k_is)
    (case k_need_corner => k_is)
    (case a_need_signs => k_is)
    (case l_need_signs => k_is)
    (case c_need_signs => k_is)
    (case k_need_signs => k_is)
    (case a__law_hand_right => k_is)
    (case l__law_hand_right => k_is)
    (case c__law_hand_right => k_is)
    (case k__law_hand_right => k_is)
    (case a__law_draw => k_is)
    (case l__law_draw => k_is)
    (case c__law_draw => k_is)
    (case k__law_draw => k_is)
    (case a__law_any => k_is)
    (case l__law_any => k_is)
    (case c__law_any => k_is)
    (case k__law_any => k_is)
    (case a__law_of => k_is)
    (case l__law_of => k_is)
    (case c__law_of => k_is)
    (case k__law_of => k_is)
    (case a__law_odd => k_is)
    (case l__law_odd => k_is)
    (case c__law_odd => k_is)
    (case k__law_odd => k_is)
    (case a__law_near => k_is)
    (case l__law_near => k_is)
    (case c__law_near => k_is)
    (case k__law_near => k_is)
    (case a__law_letters => k_is)
    (case l__law_letters => k_is)
    (case c__law_letters => k_is)
    (case k__law_letters => k_is)
    (case a__law_text => k_is)
    (case l__law_text => k_is)
    (case c__law_text => k_is)
    (case k__law_text => k_is)
    (case a__law_is_whole => k_is)
    (case l__law_is_whole => k_is)
    (case c__law_is_whole => k_is)
    (case k__law_is_whole => k_is)
    (case a__law_is_corner => k_is)
    (case l__law_is_corner => k_is)
    (case c__law_is_corner => k_is)
    (case k__law_is_corner => k_is)
    (case a__law_are_signs => k_is)
    (case l__law_are_signs => k_is)
    (case c__law_are_signs => k_is)
    (case k__law_are_signs => k_is)
    (case a__law_right => k_is)
    (case l__law_right => k_is)
    (case c__law_right => k_is)
    (case k__law_right => k_is)
    (case a_law => k_is)
    (case l_law => k_is)
    (case c_law => k_is)
    (case k_law => k_is)
    (case n_all => k_is)
    (case n_bool => k_is)
    (case n_int => k_is)
    (case n_isinstance => k_is)
    (case n_len => k_is)
    (case n_list => k_is)
    (case n_min => k_is)
    (case n_range => k_is)
    (case n_repr => k_is)
    (case n_str => k_is)
    (case n_sum => k_is)
    (case n_tuple => k_is)
    (case v_LEAST_SECTORS => k_is)
    (case v_MOST_SECTORS => k_is)
    (case v_MOST_SUM => k_is)
    (case v_MOUNTAIN => k_is)
    (case v_VALLEY => k_is)
    (case a_BadCorner => k_is)
    (case b_BadCorner => k_is)
    (case d_BadCorner => k_is)
    (case t_BadCorner => k_is)
    (case a_BadNumber => k_is)
    (case b_BadNumber => k_is)
    (case d_BadNumber => k_is)
    (case t_BadNumber => k_is)
    (case a_BadPaper => k_is)
    (case b_BadPaper => k_is)
    (case d_BadPaper => k_is)
    (case t_BadPaper => k_is)
    (case a_BadSigns => k_is)
    (case b_BadSigns => k_is)
    (case d_BadSigns => k_is)
    (case t_BadSigns => k_is)
    (case a_BadStack => k_is)
    (case b_BadStack => k_is)
    (case d_BadStack => k_is)
    (case t_BadStack => k_is)
    (case a_BadText => k_is)
    (case b_BadText => k_is)
    (case d_BadText => k_is)
    (case t_BadText => k_is)
    (case a_FoldError => k_is)
    (case b_FoldError => k_is)
    (case d_FoldError => k_is)
    (case t_FoldError => k_is)
    (case a_Nothing => k_is)
    (case b_Nothing => k_is)
    (case d_Nothing => k_is)
    (case t_Nothing => k_is)
    (case a_TooGreat => k_is)
    (case b_TooGreat => k_is)
    (case d_TooGreat => k_is)
    (case t_TooGreat => k_is)
    (case gs_ => k_is)
    (case gt_ => k_is)
    (case gf_BadCorner => k_is)
    (case gf_BadSigns => k_is)
    (case ga_BadCorner => k_is)
    (case gg_BadCorner => k_is)
    (case gc_BadCorner => k_is)
    (case gm_BadCorner => k_is)
    (case sF_BadCorner => k_is)
    (case s_BadCorner_BadNumber => k_is)
    (case s_BadCorner_BadPaper => k_is)
    (case s_BadCorner_BadSigns => k_is)
    (case s_BadCorner_BadStack => k_is)
    (case s_BadCorner_BadText => k_is)
    (case s_BadCorner_Nothing => k_is)
    (case s_BadCorner_TooGreat => k_is)
    (case ga_BadSigns => k_is)
    (case gg_BadSigns => k_is)
    (case gc_BadSigns => k_is)
    (case gm_BadSigns => k_is)
    (case sF_BadSigns => k_is)
    (case s_BadSigns_BadCorner => k_is)
    (case s_BadSigns_BadNumber => k_is)
    (case s_BadSigns_BadPaper => k_is)
    (case s_BadSigns_BadStack => k_is)
    (case s_BadSigns_BadText => k_is)
    (case s_BadSigns_Nothing => k_is)
    (case s_BadSigns_TooGreat => k_is)
    (case hsu => k_is)
    (case hth => k_is)
    (case xL_BadCorner => k_is)
    (case sa_BadCorner => k_is)
    (case kC_BadCorner => k_is)
    (case iC_BadCorner => k_is)
    (case tI_BadCorner => k_is)
    (case hl_BadCorner => k_is)
    (case hcd_BadCorner => k_is)
    (case hk_BadCorner => k_is)
    (case hce_BadCorner => k_is)
    (case hC_BadCorner => k_is)
    (case hmr_BadCorner => k_is)
    (case hsi_BadCorner => ks_is)
    (case hB_BadCorner => k_is)
    (case xL_BadSigns => k_is)
    (case sa_BadSigns => k_is)
    (case kC_BadSigns => k_is)
    (case iC_BadSigns => k_is)
    (case tI_BadSigns => k_is)
    (case hl_BadSigns => k_is)
    (case hcd_BadSigns => k_is)
    (case hk_BadSigns => k_is)
    (case hce_BadSigns => k_is)
    (case hC_BadSigns => k_is)
    (case hmr_BadSigns => k_is)
    (case hsi_BadSigns => ks_is)
    (case hB_BadSigns => k_is)
    (case ne_BadCorner_BadNumber => first | rfl | decide)
    (case ne_BadCorner_BadPaper => first | rfl | decide)
    (case ne_BadCorner_BadSigns => first | rfl | decide)
    (case ne_BadCorner_BadStack => first | rfl | decide)
    (case ne_BadCorner_BadText => first | rfl | decide)
    (case ne_BadCorner_Nothing => first | rfl | decide)
    (case ne_BadCorner_TooGreat => first | rfl | decide)
    (case ne_BadSigns_BadCorner => first | rfl | decide)
    (case ne_BadSigns_BadNumber => first | rfl | decide)
    (case ne_BadSigns_BadPaper => first | rfl | decide)
    (case ne_BadSigns_BadStack => first | rfl | decide)
    (case ne_BadSigns_BadText => first | rfl | decide)
    (case ne_BadSigns_Nothing => first | rfl | decide)
    (case ne_BadSigns_TooGreat => first | rfl | decide)
    (case htop => first | rfl | decide)
    (case hv_BadCorner => first | rfl | decide)
    (case hf_BadCorner => first | rfl | decide)
    (case hv_BadSigns => first | rfl | decide)
    (case hf_BadSigns => first | rfl | decide)

end