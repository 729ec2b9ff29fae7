import PyProof.Rows.All
import Wide.All
import OpenK.AllK
import Wide.FinOn
import HandS.ForMost
import HandS.ForExc
import HandS.Wide
import HandS.IsInst
import HandS.Lambda
import HandS.TupMul
import PyProof.StrOps2
import HandS.TupAny
import HandS.Conv
import HandS.SortInts
import HandS.Deep
import HandS.Walk
import KE.GoesNew
import PyProof.EnumMake
import KE.KTupSum
import KE.SortData
import KE.DataMinMax
import PyProof.ReprRoads
import PyProof.SliceStr2
import HandS.Style
import HandS.Dict
import HandS.Ends
import HandS.Words
import PyProof.ReprLen
import PyProof.P3Eq
import HandS.Codes
import HandS.Star
import HandS.FStr
import HandS.Text
import HandS.ExcInit
import HandS.Nested
import KE.KExcSuper
import KE.KExcInit
import HandS.ExcIs
import KE.KDictZip
import PyProof.Rows.SortShellAny
import KE.KDflt
import HandS.ExcField
import HandS.EndTab
import KE.KNest
import KE.RegKSuper
import HandS.DictComp
import HandS.Iter
import KE.SortKeyHeap
import KE.KSortKey
import KE.KLam
import HandS.SortOrd
import HandS.SortKw
import HandS.TryOnly
import HandS.IterVal
import PyProof.RowDictHeap
import HandS.Property
import HandS.Defaults
import HandS.ExcValue
import KE.KExcStr
import PySem.Challenge.RW_pointfolds_k01_errors
section
set_option Elab.async false
set_option linter.all false
set_option maxRecDepth 100000
set_option maxHeartbeats 4000000
/-! DBase: data, what a value represents, how heaps go on, denotations, judgements over HandS. -/
namespace DL
open PySem PySem.Spec PyProof.Rows L2

/-- the tables of the defs that make lambdas, and the lambdas' names -/
class Tb where
  tabs : List (Addr × Str)
  one : ∀ p ∈ tabs, ∀ p' ∈ tabs, p.1 = p'.1 → p.2 = p'.2
  /-- whether what stands at sys.modules is watched -/
  sys : Bool
variable [Tb]

inductive D where
  | non | bl (b : Bool) | int (i : Int) | str (s : Str)
  | tup (l : List D) | lst (l : List D) | dct (l : List (Key × D))
  | scr (k : Nat) | rng (z : Bool) (c : Nat)
  | exc (c : Str) (p : D)
  | fn (x : Str)
  | ty (t : String)
  | thk (a c : Addr) (q : Str) (ws : List (Option V)) (ds : List D)
  | obj (c : Str) (ks : List Str) (ds : List D)
  | ptr (i : Nat)
/-- what a cell of the store holds -/
inductive Cell where
  | lst (l : List D)
  | ins (c : Str) (fs : List (Str × D))
/-- the draws' counter, and the store: what may be changed by all who know of it -/
structure Ent where
  a : Addr
  /-- how often it was written -/
  v : Nat
  c : Cell
structure Cn where
  k : Nat
  st : List Ent
  K : PySem.W.Frag
  mg : Str → Option Value
def Cn.tick (n : Cn) : Cn := { n with k := n.k + 1 }
def Cn.has (n : Cn) (a : Addr) : Prop := ∃ (i : Nat) (e : Ent), n.st[i]? = some e ∧ e.a = a
/-- an entry and a later one -/
def Ent.le (e e' : Ent) : Prop := e'.a = e.a ∧ e.v ≤ e'.v ∧ (e'.v = e.v → e' = e)
theorem Ent.le_refl (e : Ent) : e.le e := ⟨rfl, Nat.le_refl _, fun _ => rfl⟩
theorem Ent.le_trans {e f g : Ent} (h : e.le f) (k : f.le g) : e.le g := ⟨k.1.trans h.1, Nat.le_trans h.2.1 k.2.1, fun z => by
  have h1 := h.2.1
  have h2 := k.2.1
  have e1 := k.2.2 (by omega)
  subst e1
  exact h.2.2 z⟩
/-- neither frozen nor of the store -/
def Out (n : Cn) (F : Hp) (a : Addr) : Prop := F a = none ∧ ¬ n.has a

/-! ### the draws' state -/
def rngO (l : Addr) (L : Int) (sd : Option Int) (k : Int) : HO := match sd with
  | none => .dK [(Sum.inr "cells", .ref l), (Sum.inr "left", .int L), (Sum.inr "spot", .int k)]
  | some z => .dK [(Sum.inr "left", .int L), (Sum.inr "seed", .int z), (Sum.inr "cells", .ref l), (Sum.inr "spot", .int k)]
def RngGood (n : Cn) (k : Int) : Prop := 0 ≤ k ∧ k ≤ n.k
/-- what may change: the draws' state, the tables of code objects -/
def IsRng (o : HO) : Prop := (∃ l L sd k, o = rngO l L sd k) ∨ ∃ ps, o = .tbl ps
/-- tables stay tables, and what they tell stays known -/
def TabG (F F' : Hp) : Prop := (∀ b ps, F b = some (.tbl ps) → ∃ ps', F' b = some (.tbl ps')) ∧ ∀ P q, (P, q) ∈ Tb.tabs → LamX.TabS F P q → LamX.TabS F' P q
theorem TabG.of {F F' : Hp} (h1 : ∀ b ps, F b = some (.tbl ps) → F' b = some (.tbl ps)) (h2 : ∀ b φ, F b = some (.ext φ) → F' b = some (.ext φ)) : TabG F F' :=
  ⟨fun b ps e => ⟨ps, h1 b ps e⟩, fun P q _ ⟨ps, e1, e2, e3⟩ => ⟨ps, h1 _ _ e1, e2, fun pos cv hc => let ⟨c, e4, e5⟩ := e3 pos cv hc; ⟨c, e4, h2 _ _ e5⟩⟩⟩
theorem TabG.same {F F' : Hp} (h : ∀ b o, F b = some o → F' b = some o) : TabG F F' := .of (fun b _ e => h b _ e) fun b _ e => h b _ e
/-- what is known of the makers' tables -/
def SysO (u : HO) : Prop := (∃ φ, u = .ext φ) ∨ ∃ o v, u = .frz o v
theorem SysO.not_rng {u : HO} (h : SysO u) : ¬ IsRng u := fun z => by
  rcases h with ⟨φ, rfl⟩ | ⟨o, v, rfl⟩ <;> rcases z with ⟨_, _, sd, _, h⟩ | ⟨_, h⟩
  · unfold rngO at h; cases sd <;> cases h
  · cases h
  · unfold rngO at h; cases sd <;> cases h
  · cases h
def TabsK (F : Hp) : Prop := (∀ P q, (P, q) ∈ Tb.tabs → LamX.TabS F P q) ∧ (Tb.sys = true → ∃ u, F sysModules = some u ∧ SysO u)
structure Grow (n : Cn) (F : Hp) (n' : Cn) (F' : Hp) : Prop where
  le : n.k ≤ n'.k
  st : ∀ (i : Nat) (e : Ent), n.st[i]? = some e → ∃ e' : Ent, n'.st[i]? = some e' ∧ e.le e'
  km : n'.K = n.K ∧ n'.mg = n.mg
  obj : ∀ b o, F b = some o → ¬ IsRng o → F' b = some o
  rng : ∀ b l L sd k, F b = some (rngO l L sd k) → ∃ L' k', F' b = some (rngO l L' sd k') ∧ (RngGood n k → RngGood n' k')
  tab : TabG F F'
theorem TabsK.grow {n n' : Cn} {F F' : Hp} (g : Grow n F n' F') (h : TabsK F) : TabsK F' := ⟨fun P q m => g.tab.2 P q m (h.1 P q m), fun e => let ⟨u, h1, h2⟩ := h.2 e; ⟨u, g.obj _ _ h1 h2.not_rng, h2⟩⟩
theorem rngO_inj {l l' : Addr} {L L' k k' : Int} {sd sd' : Option Int} (h : rngO l L sd k = rngO l' L' sd' k') : l = l' ∧ L = L' ∧ sd = sd' ∧ k = k' := by
  unfold rngO at h
  cases sd with
  | none =>
    cases sd' with
    | none => simp at h; exact ⟨h.1, h.2.1, rfl, h.2.2⟩
    | some z => simp at h
  | some z =>
    cases sd' with
    | none => simp at h
    | some z' => simp at h; exact ⟨h.2.2.1, h.1, congrArg some h.2.1, h.2.2.2⟩
theorem rngO_dk (l : Addr) (L : Int) (sd : Option Int) (k : Int) : ∃ kvs, rngO l L sd k = .dK kvs := by cases sd <;> exact ⟨_, rfl⟩
theorem Grow.refl (n : Cn) (F : Hp) : Grow n F n F := ⟨Nat.le_refl _, fun _ e h => ⟨e, h, e.le_refl⟩, ⟨rfl, rfl⟩, fun _ _ h _ => h, fun b l L sd k h => ⟨L, k, h, fun g => g⟩, .same fun _ _ e => e⟩
theorem Grow.trans {n n1 n2 : Cn} {F F1 F2 : Hp} (a : Grow n F n1 F1) (b : Grow n1 F1 n2 F2) : Grow n F n2 F2 :=
  ⟨Nat.le_trans a.le b.le, fun i e h => let ⟨e1, h1, l1⟩ := a.st i e h; let ⟨e2, h2, l2⟩ := b.st i e1 h1; ⟨e2, h2, Ent.le_trans l1 l2⟩, ⟨b.km.1.trans a.km.1, b.km.2.trans a.km.2⟩, fun c o h z => b.obj c o (a.obj c o h z) z, fun c l L sd k h => by
    obtain ⟨L1, k1, h1, g1⟩ := a.rng c l L sd k h
    obtain ⟨L2, k2, h2, g2⟩ := b.rng c l L1 sd k1 h1
    exact ⟨L2, k2, h2, fun g => g2 (g1 g)⟩, fun c ps e => let ⟨_, e1⟩ := a.tab.1 c ps e; b.tab.1 c _ e1, fun P q m z => b.tab.2 P q m (a.tab.2 P q m z)⟩
theorem Grow.same {n n' : Cn} {F F' : Hp} (hn : n.k ≤ n'.k) (hs : ∀ (i : Nat) (e : Ent), n.st[i]? = some e → ∃ e' : Ent, n'.st[i]? = some e' ∧ e.le e') (hk : n'.K = n.K ∧ n'.mg = n.mg) (h : ∀ b o, F b = some o → F' b = some o) : Grow n F n' F' :=
  ⟨hn, hs, hk, fun b o e _ => h b o e, fun b l L sd k e => ⟨L, k, h b _ e, fun g => ⟨g.1, by have := g.2; omega⟩⟩, .same h⟩
theorem Grow.sub {n : Cn} {F F' : Hp} (h : ∀ b o, F b = some o → F' b = some o) : Grow n F n F' := Grow.same (Nat.le_refl _) (fun _ e h => ⟨e, h, e.le_refl⟩) ⟨rfl, rfl⟩ h
theorem Grow.new {n : Cn} {F : Hp} {p : Addr} {o : HO} (h : F p = none) : Grow n F n (upd F p o) :=
  Grow.same (Nat.le_refl _) (fun _ e h => ⟨e, h, e.le_refl⟩) ⟨rfl, rfl⟩ fun b u e => by rw [upd_ne (ne_of_none e h)]; exact e
theorem Grow.free {n n' : Cn} {F F' : Hp} (g : Grow n F n' F') {p : Addr} (h : F' p = none) : F p = none := by
  cases e : F p with
  | none => rfl
  | some o =>
    by_cases z : IsRng o
    · rcases z with ⟨l, L, sd, k, rfl⟩ | ⟨ps, rfl⟩
      · obtain ⟨L', k', h', _⟩ := g.rng p l L sd k e
        rw [h] at h'; cases h'
      · obtain ⟨ps', h'⟩ := g.tab.1 p ps e
        rw [h] at h'; cases h'
    · rw [g.obj p o e z] at h; cases h
theorem not_rng_lst {xs : List V} : ¬ IsRng (.lst xs) := fun h => by
  rcases h with ⟨_, _, sd, _, h⟩ | ⟨_, h⟩
  · unfold rngO at h; cases sd <;> cases h
  · cases h
theorem not_rng_tup {xs : List V} : ¬ IsRng (.tup xs) := fun h => by
  rcases h with ⟨_, _, sd, _, h⟩ | ⟨_, h⟩
  · unfold rngO at h; cases sd <;> cases h
  · cases h
theorem not_rng_xd {xs : List (Str × V)} : ¬ IsRng (.xd xs) := fun h => by
  rcases h with ⟨_, _, sd, _, h⟩ | ⟨_, h⟩
  · unfold rngO at h; cases sd <;> cases h
  · cases h
theorem not_rng_ext {φ : Heap → Prop} : ¬ IsRng (.ext φ) := fun h => by
  rcases h with ⟨_, _, sd, _, h⟩ | ⟨_, h⟩
  · unfold rngO at h; cases sd <;> cases h
  · cases h
theorem not_rng_frz {o : Obj} {u : HO} : ¬ IsRng (.frz o u) := fun h => by
  rcases h with ⟨_, _, sd, _, h⟩ | ⟨_, h⟩
  · unfold rngO at h; cases sd <;> cases h
  · cases h

theorem not_rng_ins {C dx : Addr} {fs : List (Str × V)} : ¬ IsRng (.ins C dx fs) := fun h => by
  rcases h with ⟨_, _, sd, _, h⟩ | ⟨_, h⟩
  · unfold rngO at h; cases sd <;> cases h
  · cases h
/-! ### exceptions as values -/
def fieldOf (c : Str) : Str := if c = "BadPaper" then "part" else if c = "BadText" ∨ c = "BadFacts" then "place" else if c = "TooGreat" then "most" else "value"
/-- an exception object of the class at C, its own dict at dx -/
def ExcO (a C dx : Addr) : HO := .ext fun h => ∃ oe vs, h.get? a = some oe ∧ oe.cls = .ref C ∧ oe.dict = some dx ∧ oe.data = .fields vs

/-- an error that has no dict of its own, made with the tuple at t -/
def ExbO (a C t : Addr) : HO := .ext fun h => h.get? a = some ({ cls := .ref C, data := .fields #[.ref t, .none, .none, .none, .bool false, .none] } : Obj)

/-! ### what a value represents -/
section
variable (K : PySem.W.Frag) (mg : Str → Option Value) (n : Cn) (F : Hp)
mutual
inductive Rep : V → D → Prop
  | non : Rep .non .non
  | bl (b : Bool) : Rep (.bl b) (.bl b)
  | int (i : Int) : Rep (.int i) (.int i)
  | str (x : Str) : Rep (.str x) (.str x)
  | lst {a : Addr} {xs : List V} {ds : List D} : F a = some (.lst xs) → Reps xs ds → Rep (.ref a) (.lst ds)
  | tup {a : Addr} {xs : List V} {ds : List D} : F a = some (.tup xs) → Reps xs ds → Rep (.ref a) (.tup ds)
  | dct {a : Addr} {o : Obj} {kvs : List (Key × V)} {ds : List (Key × D)} : F a = some (.frz o (.dK kvs)) → RepK kvs ds → Rep (.ref a) (.dct ds)
  | scr {a : Addr} {ns : List Int} : SqL K F a (ns.map V.int) → Rep (.ref a) (.scr ns.length)
  | rng {a l : Addr} {L k : Int} {sd : Option Int} {cs : List Int} : F a = some (rngO l L sd k) → RngGood n k → F l = some (.lst (cs.map V.int)) → cs ≠ [] → Rep (.ref a) (.rng sd.isSome cs.length)
  | exc {a C dx : Addr} {c : Str} {v : V} {p : D} : mg c = some (.ref C) → F a = some (ExcO a C dx) → F dx = some (.xd [(fieldOf c, v)]) → Rep v p → Rep (.ref a) (.exc c p)
  | exb {a C t : Addr} {v : V} {p : D} : mg "~FoldError" = none → mg "FoldError" = some (.ref C) → F a = some (ExbO a C t) → F t = some (.tup [v]) → Rep v p → Rep (.ref a) (.exc "~FoldError" p)
  | fn {x : Str} {f : Addr} : mg x = some (.ref f) → Rep (.ref f) (.fn x)
  | ty (t : String) : Rep (.ty t) (.ty t)
  | thk {a c : Addr} {q : Str} {vs : List V} {ds : List D} : F c = some (LamX.CodeO c q) → Reps vs ds → Rep (.ref a) (.thk a c q (vs.map some) ds)
  | ptr {i : Nat} {e : Ent} : n.st[i]? = some e → Rep (.ref e.a) (.ptr i)
  | obj {a C dx : Addr} {c : Str} {ks : List Str} {vs : List V} {ds : List D} : mg c = some (.ref C) → F a = some (.ins C dx (ks.zip vs)) → ks.length = ds.length → Reps vs ds → Rep (.ref a) (.obj c ks ds)
inductive Reps : List V → List D → Prop
  | nil : Reps [] []
  | cons {v : V} {vs : List V} {d : D} {ds : List D} : Rep v d → Reps vs ds → Reps (v :: vs) (d :: ds)
inductive RepK : List (Key × V) → List (Key × D) → Prop
  | nil : RepK [] []
  | cons {k : Key} {v : V} {vs : List (Key × V)} {d : D} {ds : List (Key × D)} : Rep v d → RepK vs ds → RepK ((k, v) :: vs) ((k, d) :: ds)
end
end
section
variable {K : PySem.W.Frag} {mg : Str → Option Value} {n n' : Cn} {F F' : Hp}
theorem SqL.grow {a : Addr} {xs : List V} (g : Grow n F n' F') (h : SqL K F a xs) : SqL K F' a xs := by
  rcases h with (h | ⟨o, h⟩) | h
  · exact .inl (.inl (g.obj _ _ h not_rng_lst))
  · exact .inl (.inr ⟨o, g.obj _ _ h not_rng_frz⟩)
  · exact .inr h
mutual
theorem Rep.grow (g : Grow n F n' F') : ∀ {v : V} {d : D}, Rep K mg n F v d → Rep K mg n' F' v d
  | _, _, .non => .non
  | _, _, .bl b => .bl b
  | _, _, .int i => .int i
  | _, _, .str x => .str x
  | _, _, .lst h r => .lst (g.obj _ _ h not_rng_lst) (Reps.grow g r)
  | _, _, .tup h r => .tup (g.obj _ _ h not_rng_tup) (Reps.grow g r)
  | _, _, .dct h r => .dct (g.obj _ _ h not_rng_frz) (RepK.grow g r)
  | _, _, .scr h => .scr (SqL.grow g h)
  | _, _, .rng h k hl hc => by
    obtain ⟨L', k', h', gd⟩ := g.rng _ _ _ _ _ h
    exact .rng h' (gd k) (g.obj _ _ hl not_rng_lst) hc
  | _, _, .exc hc h hd r => .exc hc (g.obj _ _ h not_rng_ext) (g.obj _ _ hd not_rng_xd) (Rep.grow g r)
  | _, _, .exb hn hc h ht r => .exb hn hc (g.obj _ _ h not_rng_ext) (g.obj _ _ ht not_rng_tup) (Rep.grow g r)
  | _, _, .fn h => .fn h
  | _, _, .ty t => .ty t
  | _, _, .thk hc r => .thk (g.obj _ _ hc (by unfold LamX.CodeO; exact not_rng_ext)) (Reps.grow g r)
  | _, _, .obj hc h l r => .obj hc (g.obj _ _ h not_rng_ins) l (Reps.grow g r)
  | _, _, .ptr h => by
    obtain ⟨e', h', l⟩ := g.st _ _ h
    rw [← l.1]
    exact .ptr h'
theorem Reps.grow (g : Grow n F n' F') : ∀ {vs : List V} {ds : List D}, Reps K mg n F vs ds → Reps K mg n' F' vs ds
  | _, _, .nil => .nil
  | _, _, .cons h r => .cons (Rep.grow g h) (Reps.grow g r)
theorem RepK.grow (g : Grow n F n' F') : ∀ {vs : List (Key × V)} {ds : List (Key × D)}, RepK K mg n F vs ds → RepK K mg n' F' vs ds
  | _, _, .nil => .nil
  | _, _, .cons h r => .cons (Rep.grow g h) (RepK.grow g r)
end
theorem Reps.length : ∀ {vs : List V} {ds : List D}, Reps K mg n F vs ds → vs.length = ds.length
  | _, _, .nil => rfl
  | _, _, .cons _ r => by simp [Reps.length r]
theorem Reps.append : ∀ {vs ws : List V} {ds es : List D}, Reps K mg n F vs ds → Reps K mg n F ws es → Reps K mg n F (vs ++ ws) (ds ++ es)
  | _, _, _, _, .nil, s => s
  | _, _, _, _, .cons h r, s => .cons h (Reps.append r s)
theorem Reps.one {v : V} {d : D} (h : Rep K mg n F v d) : Reps K mg n F [v] [d] := .cons h .nil
theorem Reps.get : ∀ {vs : List V} {ds : List D} {i : Nat} {d : D}, Reps K mg n F vs ds → ds[i]? = some d → ∃ v, vs[i]? = some v ∧ Rep K mg n F v d
  | _, _, _, _, .nil, e => by simp at e
  | _, _, 0, _, .cons h _, e => by simp at e; subst e; exact ⟨_, rfl, h⟩
  | _, _, i + 1, _, .cons _ r, e => by
    obtain ⟨v, a, b⟩ := Reps.get (i := i) r (by simpa using e)
    exact ⟨v, by simpa using a, b⟩
theorem Reps.set : ∀ {vs : List V} {ds : List D} {v : V} {d : D} (i : Nat), Reps K mg n F vs ds → Rep K mg n F v d → Reps K mg n F (vs.set i v) (ds.set i d)
  | _, _, _, _, _, .nil, _ => .nil
  | _, _, _, _, 0, .cons _ r, h => .cons h r
  | _, _, _, _, i + 1, .cons q r, h => .cons q (Reps.set i r h)
theorem Reps.take : ∀ {vs : List V} {ds : List D} (i : Nat), Reps K mg n F vs ds → Reps K mg n F (vs.take i) (ds.take i)
  | _, _, 0, _ => .nil
  | _, _, _ + 1, .nil => .nil
  | _, _, i + 1, .cons h r => .cons h (Reps.take i r)
theorem Reps.drop : ∀ {vs : List V} {ds : List D} (i : Nat), Reps K mg n F vs ds → Reps K mg n F (vs.drop i) (ds.drop i)
  | _, _, 0, r => r
  | _, _, _ + 1, .nil => .nil
  | _, _, i + 1, .cons _ r => Reps.drop i r
theorem Reps.ints : ∀ {ns : List Int}, Reps K mg n F (ns.map V.int) (ns.map D.int)
  | [] => .nil
  | _ :: _ => .cons (.int _) Reps.ints
theorem Reps.ofInts : ∀ {vs : List V} {ns : List Int}, Reps K mg n F vs (ns.map D.int) → vs = ns.map V.int
  | _, [], .nil => rfl
  | _, i :: ns, .cons (.int _) r => by rw [Reps.ofInts r]; rfl
end

/-! ### the store -/
section
variable (K : PySem.W.Frag) (mg : Str → Option Value) (n : Cn) (F H : Hp)
inductive RepF : List (Str × V) → List (Str × D) → Prop
  | nil : RepF [] []
  | cons {f : Str} {v : V} {d : D} {gs : List (Str × V)} {fs : List (Str × D)} : Rep K mg n F v d → RepF gs fs → RepF ((f, v) :: gs) ((f, d) :: fs)
def CellOk (a : Addr) : Cell → Prop
  | .lst l => ∃ xs, H a = some (.lst xs) ∧ Reps K mg n F xs l
  | .ins c fs => ∃ C dx gs, mg c = some (.ref C) ∧ H a = some (.ins C dx gs) ∧ RepF K mg n F gs fs
structure Sto : Prop where
  cell : ∀ (i : Nat) (e : Ent), n.st[i]? = some e → F e.a = none ∧ CellOk K mg n F H e.a e.c
  inj : ∀ (i j : Nat) (e f : Ent), n.st[i]? = some e → n.st[j]? = some f → e.a = f.a → i = j
  kK : n.K = K
  km : n.mg = mg
end
theorem RepF.grow {K : PySem.W.Frag} {mg : Str → Option Value} {n n' : Cn} {F F' : Hp} (g : Grow n F n' F') : ∀ {gs : List (Str × V)} {fs : List (Str × D)}, RepF K mg n F gs fs → RepF K mg n' F' gs fs
  | _, _, .nil => .nil
  | _, _, .cons h r => .cons (h.grow g) (RepF.grow g r)
theorem CellOk.some {K : PySem.W.Frag} {mg : Str → Option Value} {n : Cn} {F H : Hp} {a : Addr} {c : Cell} (h : CellOk K mg n F H a c) : ∃ o, H a = some o := by
  cases c with
  | lst l => obtain ⟨xs, h, _⟩ := h; exact ⟨_, h⟩
  | ins c fs => obtain ⟨C, dx, vs, _, h, _⟩ := h; exact ⟨_, h⟩
theorem CellOk.go {K : PySem.W.Frag} {mg : Str → Option Value} {n n' : Cn} {F H F' H' : Hp} {a : Addr} {c : Cell} (g : Grow n F n' F') (e : H' a = H a) (h : CellOk K mg n F H a c) : CellOk K mg n' F' H' a c := by
  cases c with
  | lst l => obtain ⟨xs, h, r⟩ := h; exact ⟨xs, e.trans h, r.grow g⟩
  | ins c fs => obtain ⟨C, dx, gs, h0, h, r⟩ := h; exact ⟨C, dx, gs, h0, e.trans h, r.grow g⟩
theorem Sto.free {K : PySem.W.Frag} {mg : Str → Option Value} {n : Cn} {F H : Hp} (s : Sto K mg n F H) {p : Addr} (h : H p = none) : ¬ n.has p := fun ⟨i, e, h1, h2⟩ => by
  obtain ⟨o, ho⟩ := (s.cell i e h1).2.some
  rw [h2, h] at ho; cases ho
theorem Cn.has_at {n : Cn} {i : Nat} {e : Ent} (h : n.st[i]? = some e) : n.has e.a := ⟨i, e, h, rfl⟩
/-- the store stands, what is known grows -/
theorem Sto.go {K : PySem.W.Frag} {mg : Str → Option Value} {n n' : Cn} {F H F' H' : Hp} (s : Sto K mg n F H) (g : Grow n F n' F') (e : n'.st = n.st) (hh : ∀ a, n.has a → F a = none → F' a = none ∧ H' a = H a) : Sto K mg n' F' H' := by
  refine ⟨fun i c h => ?_, fun i j c d h1 h2 => ?_, g.km.1.trans s.kK, g.km.2.trans s.km⟩
  · rw [e] at h
    obtain ⟨h1, h2⟩ := hh c.a (Cn.has_at h) (s.cell i c h).1
    exact ⟨h1, (s.cell i c h).2.go g h2⟩
  · rw [e] at h1 h2
    exact s.inj i j c d h1 h2
theorem ne_has {n : Cn} {a p : Addr} (h : n.has a) (hp : ¬ n.has p) : a ≠ p := fun e => hp (e ▸ h)
/-! ### a transition: n the draws' counter and the store, F what is frozen, H all that is tracked -/
structure Step (n : Cn) (F H : Hp) (n' : Cn) (F' H' : Hp) : Prop where
  gr : Grow n F n' F'
  sub : ∀ b o, F' b = some o → H' b = some o
  keep : ∀ b o, H b = some o → Out n F b → H' b = some o ∧ Out n' F' b
  sto : ∀ K mg, Sto K mg n F H → Sto K mg n' F' H'
  live : ∀ b, H' b = none → H b = none
  stay : ∀ K mg, Sto K mg n F H → ∀ (i : Nat) (e : Ent), n.st[i]? = some e → n'.st[i]? = some e → H' e.a = H e.a
theorem Step.refl {n : Cn} {F H : Hp} (s : ∀ b o, F b = some o → H b = some o) : Step n F H n F H := ⟨Grow.refl _ _, s, fun _ _ h z => ⟨h, z⟩, fun _ _ h => h, fun _ h => h, fun _ _ _ _ _ _ _ => rfl⟩
theorem Step.trans {n n1 n2 : Cn} {F H F1 H1 F2 H2 : Hp} (a : Step n F H n1 F1 H1) (b : Step n1 F1 H1 n2 F2 H2) : Step n F H n2 F2 H2 :=
  ⟨a.gr.trans b.gr, b.sub, fun c o h z => let ⟨h1, z1⟩ := a.keep c o h z; b.keep c o h1 z1, fun K mg h => b.sto K mg (a.sto K mg h), fun x h => a.live x (b.live x h), fun K mg w i e h1 h2 => by
    obtain ⟨e1, k1, l1⟩ := a.gr.st i e h1
    obtain ⟨e2, k2, l2⟩ := b.gr.st i e1 k1
    rw [h2] at k2; cases k2
    have : e1 = e := l1.2.2 (by have := l1.2.1; have := l2.2.1; omega)
    subst this
    exact (b.stay K mg (a.sto K mg w) i _ k1 h2).trans (a.stay K mg w i _ h1 k1)⟩
/-- a new object, frozen at once -/
theorem Step.new {n : Cn} {F H : Hp} {p : Addr} {o : HO} (s : ∀ b o, F b = some o → H b = some o) (h : H p = none) : Step n F H n (upd F p o) (upd H p o) := by
  have hF : F p = none := by
    cases e : F p with
    | none => rfl
    | some u => rw [s p u e] at h; cases h
  refine ⟨Grow.new hF, fun b u e => ?_, fun b u e z => ?_, fun K mg w => w.go (Grow.new hF) rfl fun a ha hf => ?_, fun b e => ?_, fun K mg w i e h1 _ => ?_⟩
  · by_cases hb : b = p
    · subst hb; rw [upd_same] at e ⊢; exact e
    · rw [upd_ne hb] at e ⊢; exact s b u e
  · have hb : b ≠ p := ne_of_none e h
    rw [upd_ne hb]; exact ⟨e, by rw [upd_ne hb]; exact z.1, z.2⟩
  · have hb := ne_has ha (w.free h)
    exact ⟨by rw [upd_ne hb]; exact hf, upd_ne hb⟩
  · by_cases hb : b = p
    · subst hb; exact h
    · rw [upd_ne hb] at e; exact e
  · exact upd_ne (ne_has (Cn.has_at h1) (w.free h))
theorem sub_free {F H : Hp} (s : ∀ b o, F b = some o → H b = some o) {p : Addr} (h : H p = none) : F p = none := by
  cases e : F p with
  | none => rfl
  | some u => rw [s p u e] at h; cases h

/-! ### slots -/
inductive Slot where
  | emp | val (d : D) | own (l : List D) | ownK (l : List (Key × D))
abbrev En := List Slot
/-- the entry of the body -/
structure Bs where
  n : Cn
  F : Hp
  H : Hp
section
variable (K : PySem.W.Frag) (mg : Str → Option Value) (B : Bs) (n : Cn) (F H : Hp)
def SlotOk (v : Option (Option V)) : Slot → Prop
  | .emp => True
  | .val d => ∃ u, v = some (some u) ∧ Rep K mg n F u d
  | .own ds => ∃ a xs, v = some (some (.ref a)) ∧ Out n F a ∧ B.H a = none ∧ H a = some (.lst xs) ∧ Reps K mg n F xs ds
  | .ownK ds => ∃ a xs, v = some (some (.ref a)) ∧ Out n F a ∧ B.H a = none ∧ H a = some (.dK xs) ∧ RepK K mg n F xs ds
def IsOwn (s : Slot) : Prop := match s with | .own _ => True | .ownK _ => True | _ => False
structure SL (σ : L2.St) (env : En) : Prop where
  st : Step B.n B.F B.H n F H
  len : σ.length = env.length
  slot : ∀ (i : Nat) (s : Slot), env[i]? = some s → SlotOk K mg B n F H (σ[i]?) s
  ne : ∀ (i j : Nat) (s t : Slot), env[i]? = some s → env[j]? = some t → IsOwn s → IsOwn t → i ≠ j → σ[i]? ≠ σ[j]?
  tb : TabsK B.F
  so : Sto K mg n F H
end
section
variable {K : PySem.W.Frag} {mg : Str → Option Value} {B : Bs} {n n' : Cn} {F H F' H' : Hp} {σ : L2.St} {env : En}
theorem SL.tabs (s : SL K mg B n F H σ env) : TabsK F := s.tb.grow s.st.gr
theorem SL.sub (s : SL K mg B n F H σ env) : ∀ b o, F b = some o → H b = some o := s.st.sub
/-- what is not tracked is free -/
theorem SL.out (s : SL K mg B n F H σ env) {p : Addr} (h : H p = none) : Out n F p := ⟨sub_free s.sub h, s.so.free h⟩
theorem SL.ts (s : SL K mg B n F H σ env) : TabsK F ∧ Sto K mg n F H := ⟨s.tabs, s.so⟩
/-- behind a transition that leaves the slots as they are -/
theorem SL.step (s : SL K mg B n F H σ env) (t : Step n F H n' F' H') : SL K mg B n' F' H' σ env := by
  refine ⟨s.st.trans t, s.len, fun i x h => ?_, s.ne, s.tb, t.sto _ _ s.so⟩
  have q := s.slot i x h
  cases x with
  | emp => trivial
  | val d =>
    obtain ⟨u, e, r⟩ := q
    exact ⟨u, e, r.grow t.gr⟩
  | own ds =>
    obtain ⟨a, xs, e, f, b, h1, r⟩ := q
    obtain ⟨h2, f2⟩ := t.keep a _ h1 f
    exact ⟨a, xs, e, f2, b, h2, r.grow t.gr⟩
  | ownK ds =>
    obtain ⟨a, xs, e, f, b, h1, r⟩ := q
    obtain ⟨h2, f2⟩ := t.keep a _ h1 f
    exact ⟨a, xs, e, f2, b, h2, RepK.grow t.gr r⟩
/-- a slot is set to a frozen value -/
theorem SL.set (s : SL K mg B n F H σ env) (i : Nat) {v : V} {d : D} (r : Rep K mg n F v d) : SL K mg B n F H (σ.set i (some v)) (env.set i (.val d)) := by
  refine ⟨s.st, by rw [List.length_set, List.length_set]; exact s.len, fun j x h => ?_, fun j k x y hx hy ox oy hjk => ?_, s.tb, s.so⟩
  · by_cases hj : i = j
    · subst hj
      have hl : i < env.length := by
        have := (List.getElem?_eq_some_iff.mp h).1
        simpa using this
      rw [List.getElem?_set_self hl] at h
      cases h
      exact ⟨v, by rw [List.getElem?_set_self (by rw [s.len]; exact hl)], r⟩
    · rw [List.getElem?_set_ne hj] at h ⊢
      exact s.slot j x h
  · have nj : i ≠ j := fun e => by
      subst e
      have hl : i < env.length := by
        have := (List.getElem?_eq_some_iff.mp hx).1
        simpa using this
      rw [List.getElem?_set_self hl] at hx
      cases hx
      exact ox
    have nk : i ≠ k := fun e => by
      subst e
      have hl : i < env.length := by
        have := (List.getElem?_eq_some_iff.mp hy).1
        simpa using this
      rw [List.getElem?_set_self hl] at hy
      cases hy
      exact oy
    rw [List.getElem?_set_ne nj] at hx ⊢
    rw [List.getElem?_set_ne nk] at hy ⊢
    exact s.ne j k x y hx hy ox oy hjk
end

/-! ### denotations: what is wanted behind, of a value and the counter, and of an exception -/
structure M (α : Type) where
  run : Cn → (α → Cn → Prop) → (D → Cn → Prop) → Prop
  mono : ∀ {n : Cn} {P P' : α → Cn → Prop} {E E' : D → Cn → Prop}, (∀ a m, P a m → P' a m) → (∀ x m, E x m → E' x m) → run n P E → run n P' E'
def ret {α : Type} (a : α) : M α := ⟨fun n P _ => P a n, fun h _ q => h _ _ q⟩
def bnd {α β : Type} (m : M α) (f : α → M β) : M β := ⟨fun n P E => m.run n (fun a n' => (f a).run n' P E) E, fun h k q => m.mono (fun a _ z => (f a).mono h k z) k q⟩
def stuck {α : Type} : M α := ⟨fun _ _ _ => False, fun _ _ q => q⟩
def need {α : Type} (p : Prop) (m : M α) : M α := ⟨fun n P E => p ∧ m.run n P E, fun h k q => ⟨q.1, m.mono h k q.2⟩⟩
/-- any of these: whatever it is -/
def any {α : Type} (S : α → Prop) : M α := ⟨fun n P _ => ∀ a, S a → P a n, fun h _ q a s => h _ _ (q a s)⟩
def tick : M Unit := ⟨fun n P _ => P () n.tick, fun h _ q => h _ _ q⟩
@[simp] theorem bnd_ret {α β : Type} (a : α) (f : α → M β) : bnd (ret a) f = f a := rfl
@[simp] theorem bnd_stuck {α β : Type} (f : α → M β) : bnd stuck f = stuck := rfl
@[simp] theorem bnd_need {α β : Type} (p : Prop) (m : M α) (f : α → M β) : bnd (need p m) f = need p (bnd m f) := rfl
@[simp] theorem bnd_bnd {α β γ : Type} (m : M α) (f : α → M β) (g : β → M γ) : bnd (bnd m f) g = bnd m fun a => bnd (f a) g := rfl
theorem M.ext {α : Type} {a b : M α} (h : ∀ n P E, a.run n P E ↔ b.run n P E) : a = b := by
  cases a; cases b
  congr
  funext n P E
  exact propext (h n P E)
theorem need_of {α : Type} {p : Prop} (h : p) (m : M α) : need p m = m := M.ext fun _ _ _ => ⟨fun q => q.2, fun q => ⟨h, q⟩⟩
theorem bnd_ite {α β : Type} (c : Prop) [Decidable c] (a b : M α) (f : α → M β) : bnd (if c then a else b) f = if c then bnd a f else bnd b f := by
  by_cases h : c
  · rw [if_pos h, if_pos h]
  · rw [if_neg h, if_neg h]
abbrev DExp := En → M D
abbrev DTst := En → M Bool
abbrev DArg := En → M (List D)
/-- a statement's end -/
inductive Fl where
  | nx (env : En) | rt (d : D)
abbrev DStm := En → M Fl

/-! ### judgements -/
/-- an exception in flight: its class, its dict -/
def RepX (K : PySem.W.Frag) (mg : Str → Option Value) (n : Cn) (F : Hp) (cls : Value) (d : Option Addr) (x : D) : Prop :=
  ∃ (c : Str) (p : D) (C dx : Addr) (v : V), x = .exc c p ∧ mg c = some (.ref C) ∧ cls = .ref C ∧ d = some dx ∧ F dx = some (.xd [(fieldOf c, v)]) ∧ Rep K mg n F v p
theorem RepX.grow {K : PySem.W.Frag} {mg : Str → Option Value} {n n' : Cn} {F F' : Hp} {cls : Value} {d : Option Addr} {x : D} (g : Grow n F n' F') (h : RepX K mg n F cls d x) : RepX K mg n' F' cls d x := by
  obtain ⟨c, p, C, dx, v, h1, h2, h3, h4, h5, h6⟩ := h
  exact ⟨c, p, C, dx, v, h1, h2, h3, h4, g.obj _ _ h5 not_rng_xd, h6.grow g⟩
section
variable (X : Cx) (W : WX)
def okE (n : Cn) (F H : Hp) (Q : VK) : D → Cn → Prop := fun d n' => ∀ v F' H', Step n F H n' F' H' → Rep X.K X.mg n' F' v d → Q v H'
def okT (n : Cn) (F H : Hp) (Q : Bool → Hp → Prop) : Bool → Cn → Prop := fun b n' => ∀ F' H', Step n F H n' F' H' → Q b H'
def okA (n : Cn) (F H : Hp) (Q : List V → Hp → Prop) : List D → Cn → Prop := fun ds n' => ∀ vs F' H', Step n F H n' F' H' → Reps X.K X.mg n' F' vs ds → Q vs H'
def exE (n : Cn) (F H : Hp) (σ : L2.St) : D → Cn → Prop := fun x n' => ∀ cls dx F' H', Step n F H n' F' H' → RepX X.K X.mg n' F' cls dx x → W cls dx σ H'
def okS (B : Bs) (n : Cn) (F : Hp) (Ds : Ends) : Fl → Cn → Prop := fun f n' => match f with
  | .nx env' => ∀ σ' F' H', Grow n F n' F' → SL X.K X.mg B n' F' H' σ' env' → Ds.nx σ' H'
  | .rt d => ∀ v F' H', Step B.n B.F B.H n' F' H' → Rep X.K X.mg n' F' v d → Ds.rt v H'
def exS (B : Bs) : D → Cn → Prop := fun x n' => ∀ cls dx σ' F' H', Step B.n B.F B.H n' F' H' → RepX X.K X.mg n' F' cls dx x → W cls dx σ' H'
def tD (f : DExp) : TE := fun σ H Q => ∃ (B : Bs) (n : Cn) (F : Hp) (env : En), SL X.K X.mg B n F H σ env ∧ (f env).run n (okE X n F H Q) (exE X W n F H σ)
def tT (f : DTst) : TT := fun σ H Q => ∃ (B : Bs) (n : Cn) (F : Hp) (env : En), SL X.K X.mg B n F H σ env ∧ (f env).run n (okT n F H Q) (exE X W n F H σ)
def tA (f : DArg) : TA := fun σ H Q => ∃ (B : Bs) (n : Cn) (F : Hp) (env : En), SL X.K X.mg B n F H σ env ∧ (f env).run n (okA X n F H Q) (exE X W n F H σ)
def tS (s : DStm) : TS := fun Ds σ H => ∃ (B : Bs) (n : Cn) (F : Hp) (env : En), SL X.K X.mg B n F H σ env ∧ (s env).run n (okS X B n F Ds) (exS X W B)
structure DE (e : Expr) (f : DExp) : Prop where
  pe : PE X e (tD X W f)
structure DT (e : Expr) (f : DTst) : Prop where
  pt : PT X e (tT X W f)
/-- a chain of and, or -/
structure DW (e : Expr) (f : DTst) : Prop where
  pw : PW X e (tT X W f)
structure DA (es : List Expr) (f : DArg) : Prop where
  pa : PA X es (tA X W f)
structure DS (st : Stmt) (s : DStm) : Prop where
  ps : PS X st (tS X W s)
structure DSs (st : List Stmt) (s : DStm) : Prop where
  pss : PSs X st (tS X W s)
end
theorem PE.imp {X : Cx} {e : Expr} {t t' : TE} (h : PE X e t) (hi : ∀ σ H Q, t' σ H Q → t σ H Q) : PE X e t' := ⟨fun pins s σ H Q I q => h.run pins s σ H Q I (hi σ H Q q)⟩
theorem PT.imp {X : Cx} {e : Expr} {t t' : TT} (h : PT X e t) (hi : ∀ σ H Q, t' σ H Q → t σ H Q) : PT X e t' := ⟨fun pins s σ H Q I q => h.run pins s σ H Q I (hi σ H Q q)⟩
theorem PW.imp {X : Cx} {e : Expr} {t t' : TT} (h : PW X e t) (hi : ∀ σ H Q, t' σ H Q → t σ H Q) : PW X e t' := ⟨fun wh pins s σ H Q I q => h.run wh pins s σ H Q I (hi σ H Q q)⟩
theorem PA.imp {X : Cx} {es : List Expr} {t t' : TA} (h : PA X es t) (hi : ∀ σ H Q, t' σ H Q → t σ H Q) : PA X es t' := ⟨fun pos pins s σ H Q I q => h.run pos pins s σ H Q I (hi σ H Q q)⟩
theorem PS.imp {X : Cx} {st : Stmt} {t t' : TS} (h : PS X st t) (hi : ∀ D σ H, t' D σ H → t D σ H) : PS X st t' := ⟨fun pins s σ H D I q => h.run pins s σ H D I (hi D σ H q)⟩
theorem PSs.imp {X : Cx} {st : List Stmt} {t t' : TS} (h : PSs X st t) (hi : ∀ D σ H, t' D σ H → t D σ H) : PSs X st t' := ⟨fun pins s σ H D I q => h.run pins s σ H D I (hi D σ H q)⟩

/-! ### a def's promise -/
abbrev Fn := List D → M D
def spD (K : PySem.W.Frag) (mg : Str → Option Value) (m : Nat) (φ : Fn) : Sp := fun vs H Q E => vs.length = m ∧ ∃ (n : Cn) (F : Hp) (ds : List D), (∀ b o, F b = some o → H b = some o) ∧ (TabsK F ∧ Sto K mg n F H) ∧ Reps K mg n F vs ds ∧
  (φ ds).run n (fun d n' => ∀ v F' H', Step n F H n' F' H' → Rep K mg n' F' v d → Q v H') (fun x n' => ∀ cls dx F' H', Step n F H n' F' H' → RepX K mg n' F' cls dx x → E cls dx H')
theorem SL.start {K : PySem.W.Frag} {mg : Str → Option Value} {n : Cn} {F H : Hp} {vs : List V} {ds : List D} {N : List Str} (s : ∀ b o, F b = some o → H b = some o) (r : Reps K mg n F vs ds) (tb : TabsK F ∧ Sto K mg n F H) :
    SL K mg ⟨n, F, H⟩ n F H (L2.start N vs) (ds.map Slot.val ++ List.replicate (N.length - ds.length) Slot.emp) := by
  have hl := r.length
  refine ⟨Step.refl s, by simp [L2.start, hl], fun i x h => ?_, fun i j x y hx hy ox oy _ => ?_, tb.1, tb.2⟩
  · cases x with
    | emp => trivial
    | own l =>
      exfalso
      by_cases hi : i < ds.length
      · rw [List.getElem?_append_left (by simpa using hi), List.getElem?_map] at h
        cases e : ds[i]? with
        | none => rw [e] at h; cases h
        | some a => rw [e] at h; cases h
      · rw [List.getElem?_append_right (by simpa using hi), List.getElem?_replicate] at h
        split at h <;> cases h
    | ownK l =>
      exfalso
      by_cases hi : i < ds.length
      · rw [List.getElem?_append_left (by simpa using hi), List.getElem?_map] at h
        cases e : ds[i]? with
        | none => rw [e] at h; cases h
        | some a => rw [e] at h; cases h
      · rw [List.getElem?_append_right (by simpa using hi), List.getElem?_replicate] at h
        split at h <;> cases h
    | val d =>
      by_cases hi : i < ds.length
      · rw [List.getElem?_append_left (by simpa using hi), List.getElem?_map] at h
        cases e : ds[i]? with
        | none => rw [e] at h; cases h
        | some a =>
          rw [e] at h; cases h
          obtain ⟨v, hv, rv⟩ := r.get e
          refine ⟨v, ?_, rv⟩
          unfold L2.start
          rw [List.getElem?_append_left (by rw [List.length_map, hl]; exact hi), List.getElem?_map, hv]; rfl
      · rw [List.getElem?_append_right (by simpa using hi), List.getElem?_replicate] at h
        split at h <;> cases h
  · exfalso
    by_cases hi : i < ds.length
    · rw [List.getElem?_append_left (by simpa using hi), List.getElem?_map] at hx
      cases e : ds[i]? with
      | none => rw [e] at hx; cases hx
      | some a => rw [e] at hx; cases hx; exact ox
    · rw [List.getElem?_append_right (by simpa using hi), List.getElem?_replicate] at hx
      split at hx
      · cases hx; exact ox
      · cases hx
/-- what a body hands back -/
def body (s : DStm) (env : En) : M D := bnd (s env) fun f => match f with
  | .nx _ => ret .non
  | .rt d => ret d

/-! ### defs called where no repr is under way (A.guards = some []): a promise that is used there alone -/
structure FnG (P : Program) (w : World) (K : PySem.W.Frag) (mg : Str → Option Value) (ground : Heap) (k : Nat) (f : Addr) (fd : FuncData) (ps : List Str) (sp : Sp) : Prop where
  len : ∀ vs H Q E, sp vs H Q E → vs.length = ps.length
  run : ∀ (R : Around) (callers : List PySem.Env) (t : Shared) (H : Hp) (g : Args) (us : List Value) (vs : List V) (Q : VK) (E : XK),
    Room k R → R.guards = some [] → Env0 P w K mg ground R callers t H → BindsTo t fd g (ps.zip us) → Vals vs us → sp vs H Q E →
    codeAny (model P w) R (.call (.ref f) g) (CR (L2.CX P w) callers P w H t Q E) t
section
variable {P : Program} {w : World} {K : PySem.W.Frag} {mg : Str → Option Value} {ground : Heap} {f : Addr} {fd : FuncData} {ps : List Str}
theorem FnG.mono {j k : Nat} {sp : Sp} (G : FnG P w K mg ground j f fd ps sp) (h : j ≤ k) : FnG P w K mg ground k f fd ps sp :=
  ⟨G.len, fun R callers t H g us vs Q E r => G.run R callers t H g us vs Q E (r.mono h)⟩
theorem FnG.imp {k : Nat} {sp sp' : Sp} (G : FnG P w K mg ground k f fd ps sp) (h : ∀ vs H Q E, sp' vs H Q E → sp vs H Q E) : FnG P w K mg ground k f fd ps sp' :=
  ⟨fun vs H Q E q => G.len vs H Q E (h _ _ _ _ q), fun R callers t H g us vs Q E r gd e b v q => G.run R callers t H g us vs Q E r gd e b v (h _ _ _ _ q)⟩
/-- a promise that holds everywhere -/
theorem FnG.of {k : Nat} {sp : Sp} (G : FnOk P w K mg ground (L2.CX P w) k f fd ps sp) : FnG P w K mg ground k f fd ps sp :=
  ⟨G.len, fun R callers t H g us vs Q E r _ e b v q => G.run R callers t H g us vs Q E r e b v q⟩
/-- by its body -/
theorem FnG.body {x qual : Str} {st : Stmt} {N : List Str} {k : Nat} {sp : Sp} (F : Fun K x qual st f fd) (S : FnScope N ps (defScope st)) (len : ∀ vs H Q E, sp vs H Q E → vs.length = ps.length)
    (hb : ∀ (cd : Value) (R : Around) (callers : List PySem.Env) (t : Shared) (H : Hp) (vs : List V) (Q : VK) (E : XK), Room k (R.deeper (envOfC qual (defScope st) t.heap.objs.size f cd)) → R.guards = some [] → sp vs H Q E →
      ∃ r, PSs (cxOf (L2.CX P w) P w K mg ground N qual (defScope st) f cd R callers t H E) (defBody st) r ∧ r { nx := fun _ H' => Q .non H', rt := Q } (L2.start N vs) H) :
    FnG P w K mg ground (k + 1) f fd ps sp := by
  obtain ⟨_, _, _, _, _, _, cd, _, _, rfl, hl, hc⟩ := F.ex
  constructor
  · exact len
  intro R callers t H g us vs Q E rm gd e0 bd rv q
  have kin : K.In t.heap := e0.mod.kin.keeps fun b o e => (e0.bs b o e).1
  have nol : t.heap.NoLimit := e0.mod.nolimit.keeps fun b o e => (e0.bs b o e).1
  have kinds : ∀ y ∈ ps.zip us, (defScope st).names.lookup y.1 = some .local ∨
      ((defScope st).names.lookup y.1 = some .cell ∧ ((cellsFrom (t.heap.objs.size + 1) (defScope st).names []).lookup y.1).isSome = true) := by
    rintro ⟨a, v⟩ hy
    cases S.par a (List.of_mem_zip hy).1 with
    | inl z => exact .inl z
    | inr z => exact .inr ⟨z, PySem.W.cellsFrom_some _ _ _ (.inl z)⟩
  refine codeAny_call_function rm.depth (kin _ _ hl) rfl S.co S.gen rfl (PySem.W.codeRec_of kin hc) (bd _ _ _ _ (wpAny_newFunctionEnv_cells S.kind kinds fun en he s1 ic => ?_))
  subst he
  refine ⟨nol.keeps ic.toInCall.keep, codeAny_func ?_⟩
  obtain ⟨r, hr, hq⟩ := hb cd R callers t H vs Q E (rm.deeper _) gd q
  have I0 := inv_start (CX := L2.CX P w) (E := E) (N := N) S rm.hd e0 (len _ _ _ _ q) rv ic
  refine wpAny_mono (hr.run [] s1 (L2.start N vs) H _ I0 hq) (fun fl s2 z => ?_) fun _ _ z => z
  cases fl with
  | next =>
    obtain ⟨σ2, H2, J, q2⟩ := z
    exact ⟨.non, H2, J.os, J.bare, J.base, J.hok, rfl, q2⟩
  | ret u =>
    obtain ⟨v, σ2, H2, J, ru, q2⟩ := z
    exact ⟨v, H2, J.os, J.bare, J.base, J.hok, ru, q2⟩
  | brk => obtain ⟨_, _, _, q2⟩ := z; exact False.elim q2
  | cont => obtain ⟨_, _, _, q2⟩ := z; exact False.elim q2
/-- THE RULE for a def of the text -/
theorem FnG.okD {x qual : Str} {st : Stmt} {N : List Str} {k : Nat} {s : DStm} (F : Fun K x qual st f fd) (S : FnScope N ps (defScope st))
    (hb : ∀ (cd : Value) (R : Around) (callers : List PySem.Env) (t : Shared) (H : Hp) (E : XK), Room k (R.deeper (envOfC qual (defScope st) t.heap.objs.size f cd)) → R.guards = some [] →
      DSs (cxOf (L2.CX P w) P w K mg ground N qual (defScope st) f cd R callers t H E) (fun cls d _ H => E cls d H) (defBody st) s) :
    FnG P w K mg ground (k + 1) f fd ps (spD K mg ps.length fun ds => DL.body s (ds.map Slot.val ++ List.replicate (N.length - ds.length) Slot.emp)) := by
  refine FnG.body F S (fun vs H Q E h => h.1) fun cd R callers t H vs Q E rm gd h => ⟨_, (hb cd R callers t H E rm gd).pss, ?_⟩
  obtain ⟨_, n, F', ds, sb, tb, r, q⟩ := h
  refine ⟨⟨n, F', H⟩, n, F', _, SL.start sb r tb, (s _).mono (fun fl m hf => ?_) (fun x m hx => ?_) q⟩
  · cases fl with
    | nx env' => exact fun σ' F2 H2 _ z => hf .non F2 H2 z.st .non
    | rt d => exact fun v F2 H2 z rv => hf v F2 H2 z rv
  · exact fun cls dx σ' F2 H2 z rx => hx cls dx F2 H2 z rx
end
/-- what a body's context gives: where it runs -/
structure Rm (k : Nat) (A : Around) : Prop where
  room : Room k A
  gd : A.guards = some []
/-- what is known of the context in a body -/
structure Kx (X : Cx) (W : WX) (k : Nat) : Prop where
  tk : Takes X W
  hp : PassesOwn (model X.prog X.w) X.A X.env X.xe
  rm : Rm k X.A
  calm : X.calm = true
  nd : X.N.Nodup
theorem Kx.of {P : Program} {w : World} {K : PySem.W.Frag} {mg : Str → Option Value} {ground : Heap} {N : List Str} {qual : Str} {sc : Scope} {f : Addr} {cd : Value} {R : Around} {callers : List PySem.Env} {t : Shared} {H : Hp} {E : XK} {k : Nat}
    (rm : Room k (R.deeper (envOfC qual sc t.heap.objs.size f cd))) (gd : R.guards = some []) (nd : N.Nodup) : Kx (cxOf (L2.CX P w) P w K mg ground N qual sc f cd R callers t H E) (fun cls d _ H => E cls d H) k :=
  ⟨takes_of rfl rfl rfl rfl, passes_of rfl, ⟨rm, gd⟩, rfl, nd⟩
/-- a global name is bound to a def that keeps a promise -/
structure Glo (P : Program) (w : World) (K : PySem.W.Frag) (mg : Str → Option Value) (ground : Heap) (k : Nat) (x : Str) (m : Nat) (φ : Fn) : Prop where
  ex : ∃ (f : Addr) (fd : FuncData) (ps : List Str), ps.length = m ∧ mg x = some (.ref f) ∧ PySem.W.keepIn K (.ref f) = true ∧ Binds K fd ps [] ∧ FnG P w K mg ground k f fd ps (spD K mg m φ)
theorem Glo.mono {P : Program} {w : World} {K : PySem.W.Frag} {mg : Str → Option Value} {ground : Heap} {j k m : Nat} {x : Str} {φ : Fn} (G : Glo P w K mg ground j x m φ) (h : j ≤ k) : Glo P w K mg ground k x m φ :=
  let ⟨f, fd, ps, h1, h2, h3, h4, h5⟩ := G.ex
  ⟨f, fd, ps, h1, h2, h3, h4, h5.mono h⟩
/-- another meaning, by which the promise's meaning can be had -/
theorem Glo.imp {P : Program} {w : World} {K : PySem.W.Frag} {mg : Str → Option Value} {ground : Heap} {k m : Nat} {x : Str} {φ ψ : Fn} (G : Glo P w K mg ground k x m φ) (h : ∀ ds n P E, (ψ ds).run n P E → (φ ds).run n P E) : Glo P w K mg ground k x m ψ :=
  let ⟨f, fd, ps, h1, h2, h3, h4, h5⟩ := G.ex
  ⟨f, fd, ps, h1, h2, h3, h4, h5.imp fun vs H Q E ⟨l, n, F, ds, s, tb, r, q⟩ => ⟨l, n, F, ds, s, tb, r, h _ _ _ _ q⟩⟩
end DL

end
section
set_option Elab.async false
set_option linter.all false
set_option maxRecDepth 100000
set_option maxHeartbeats 4000000
/-! DExpr: expressions. -/
namespace DL
open PySem PySem.Spec PyProof.Rows L2
variable [Tb]
section
variable {X : Cx} {W : WX} {n n' n1 : Cn} {F H F' H' F1 H1 : Hp} {σ : L2.St} {Q : VK}
theorem okE.step {d : D} (t : Step n F H n1 F1 H1) (h : okE X n F H Q d n') : okE X n1 F1 H1 Q d n' := fun v F' H' t' r => h v F' H' (t.trans t') r
theorem okT.step {b : Bool} {Q : Bool → Hp → Prop} (t : Step n F H n1 F1 H1) (h : okT n F H Q b n') : okT n1 F1 H1 Q b n' := fun F' H' t' => h F' H' (t.trans t')
theorem okA.step {ds : List D} {Q : List V → Hp → Prop} (t : Step n F H n1 F1 H1) (h : okA X n F H Q ds n') : okA X n1 F1 H1 Q ds n' := fun v F' H' t' r => h v F' H' (t.trans t') r
theorem exE.step {x : D} (t : Step n F H n1 F1 H1) (h : exE X W n F H σ x n') : exE X W n1 F1 H1 σ x n' := fun c d F' H' t' r => h c d F' H' (t.trans t') r
/-- evaluate, then go on -/
theorem tD.go {f : DExp} {B : Bs} {env : En} {P : D → Cn → Prop} {R : V → Hp → Prop} (S : SL X.K X.mg B n F H σ env) (h : (f env).run n P (exE X W n F H σ))
    (hk : ∀ d n1 v F1 H1, P d n1 → Step n F H n1 F1 H1 → Rep X.K X.mg n1 F1 v d → SL X.K X.mg B n1 F1 H1 σ env → R v H1) : tD X W f σ H R :=
  ⟨B, n, F, env, S, (f env).mono (fun d n1 p v F1 H1 t r => hk d n1 v F1 H1 p t r (S.step t)) (fun _ _ z => z) h⟩
theorem tT.go {f : DTst} {B : Bs} {env : En} {P : Bool → Cn → Prop} {R : Bool → Hp → Prop} (S : SL X.K X.mg B n F H σ env) (h : (f env).run n P (exE X W n F H σ))
    (hk : ∀ d n1 F1 H1, P d n1 → Step n F H n1 F1 H1 → SL X.K X.mg B n1 F1 H1 σ env → R d H1) : tT X W f σ H R :=
  ⟨B, n, F, env, S, (f env).mono (fun d n1 p F1 H1 t => hk d n1 F1 H1 p t (S.step t)) (fun _ _ z => z) h⟩
theorem tA.go {f : DArg} {B : Bs} {env : En} {P : List D → Cn → Prop} {R : List V → Hp → Prop} (S : SL X.K X.mg B n F H σ env) (h : (f env).run n P (exE X W n F H σ))
    (hk : ∀ d n1 v F1 H1, P d n1 → Step n F H n1 F1 H1 → Reps X.K X.mg n1 F1 v d → SL X.K X.mg B n1 F1 H1 σ env → R v H1) : tA X W f σ H R :=
  ⟨B, n, F, env, S, (f env).mono (fun d n1 p v F1 H1 t r => hk d n1 v F1 H1 p t r (S.step t)) (fun _ _ z => z) h⟩
end

/-! ### names and constants -/
def dVar (i : Nat) : DExp := fun env => match env[i]? with
  | some (.val d) => ret d
  | _ => stuck
def dK (d : D) : DExp := fun _ => ret d
section
variable {X : Cx} {W : WX}
theorem de_var (i : Nat) {x : Str} {pos : Pos} (hN : X.N[i]? = some x := by rfl) (hv : Vis X.env.scope x := by first | exact Or.inl rfl | exact Or.inr (Or.inl rfl) | exact Or.inr (Or.inr rfl)) (hd : (x == ("__debug__" : Str)) = false := by decide)
    (hcd : (x == ("__classdict__" : Str)) = false := by decide) : DE X W (.Name x pos) (dVar i) := by
  refine ⟨PE.imp (pe_var hN hv hd hcd) fun σ H Q ⟨B, n, F, env, S, h⟩ => ?_⟩
  unfold dVar at h
  split at h
  · rename_i d e
    obtain ⟨u, hu, r⟩ := S.slot i _ e
    exact ⟨u, hu, h u F H (Step.refl S.sub) r⟩
  · exact h.elim
theorem de_k {e : Expr} {v : V} {d : D} (he : PE X e (tC v)) (hr : ∀ n F, Rep X.K X.mg n F v d) : DE X W e (dK d) :=
  ⟨PE.imp he fun σ H Q ⟨B, n, F, env, S, h⟩ => h v F H (Step.refl S.sub) (hr n F)⟩
theorem de_int {i : Int} {j pos} : DE X W (.Constant (.int i) j pos) (dK (.int i)) := de_k pe_int fun _ _ => .int i
theorem de_bl {b : Bool} {j pos} : DE X W (.Constant (.bool b) j pos) (dK (.bl b)) := de_k pe_bl fun _ _ => .bl b
theorem de_non {j pos} : DE X W (.Constant .none j pos) (dK .non) := de_k pe_non fun _ _ => .non
theorem de_str {x : Str} {j pos} : DE X W (.Constant (.str x) j pos) (dK (.str x)) := de_k pe_str fun _ _ => .str x
theorem de_gfn {x : Str} {f : Addr} {pos : Pos} (hm : X.mg x = some (.ref f)) (hg : Gl X x := by rfl) (hd : (x == ("__debug__" : Str)) = false := by decide) : DE X W (.Name x pos) (dK (.fn x)) := de_k (v := .ref f) (pe_glob hg hm rfl hd) fun _ _ => .fn hm
end

/-! ### operators -/
/-- a rule of two values, told by data -/
def OpD (X : Cx) (r : R2) (g : D → D → M D) : Prop := ∀ (n : Cn) (F H : Hp) (x y : V) (d e : D) (Q : VK) (E : D → Cn → Prop), (∀ b o, F b = some o → H b = some o) → Rep X.K X.mg n F x d → Rep X.K X.mg n F y e →
  (g d e).run n (okE X n F H Q) E → r x y H Q
def UnD (X : Cx) (r : V → Hp → VK → Prop) (g : D → M D) : Prop := ∀ (n : Cn) (F H : Hp) (x : V) (d : D) (Q : VK) (E : D → Cn → Prop), (∀ b o, F b = some o → H b = some o) → Rep X.K X.mg n F x d →
  (g d).run n (okE X n F H Q) E → r x H Q
def dBin (g : D → D → M D) (fa fb : DExp) : DExp := fun env => bnd (fa env) fun x => bnd (fb env) fun y => g x y
def dUn (g : D → M D) (fa : DExp) : DExp := fun env => bnd (fa env) g
section
variable {X : Cx} {W : WX} {a b c : Expr} {fa fb fc : DExp} {pos : Pos} {r r' : R2} {g g' : D → D → M D}
theorem OpR.or {f : Value → Value → Sem Value} (h : OpR X f r) (h' : OpR X f r') : OpR X f (fun x y H Q => r x y H Q ∨ r' x y H Q) := fun pins s σ H x y v u Q I rx ry q => q.elim (h pins s σ H x y v u Q I rx ry) (h' pins s σ H x y v u Q I rx ry)
theorem tOp_of (hg : OpD X r g) : ∀ σ H Q, tD X W (dBin g fa fb) σ H Q → tOp r (tD X W fa) (tD X W fb) σ H Q := fun σ H Q ⟨B, n, F, env, S, h⟩ => by
  refine tD.go S h fun d n1 v F1 H1 p t r1 S1 => ?_
  refine tD.go S1 ((fb env).mono (fun _ _ z => z) (fun x m z => exE.step t z) p) fun e n2 u F2 H2 p2 t2 r2 S2 => ?_
  exact hg n2 F2 H2 v u d e Q _ S2.sub (r1.grow t2.gr) r2 ((g d e).mono (fun _ _ z => okE.step (t.trans t2) z) (fun _ _ z => z) p2)
theorem de_bin {op : Operator} (ho : OpR X (binaryOp op) r) (hg : OpD X r g) (ha : DE X W a fa) (hb : DE X W b fb) : DE X W (.BinOp a op b pos) (dBin g fa fb) := ⟨PE.imp (pe_op ho ha.pe hb.pe) (tOp_of hg)⟩
theorem de_cmp {op : CmpOp} (ho : OpR X (compareOp op) r) (hg : OpD X r g) (ha : DE X W a fa) (hb : DE X W b fb) (hm : behindInMarks op b = false := by first | exact nomark _ | rfl) : DE X W (.Compare a [op] [b] pos) (dBin g fa fb) := ⟨PE.imp (pe_cmpR ho ha.pe hb.pe hm) (tOp_of hg)⟩
theorem de_un {op : UnaryOp} {r : V → Hp → VK → Prop} {g : D → M D} (ho : UnR X (unaryOp op) r) (hg : UnD X r g) (ha : DE X W a fa) : DE X W (.UnaryOp op a pos) (dUn g fa) := by
  refine ⟨PE.imp (pe_un ho ha.pe) fun σ H Q ⟨B, n, F, env, S, h⟩ => ?_⟩
  refine tD.go S h fun d n1 v F1 H1 p t r1 S1 => ?_
  exact hg n1 F1 H1 v d Q _ S1.sub r1 ((g d).mono (fun _ _ z => okE.step t z) (fun _ _ z => z) p)
/-- an expression's truth value, told to be a bool -/
def dTst (f : DExp) : DTst := fun env => bnd (f env) fun d => match d with
  | .bl b => ret b
  | _ => stuck
theorem tTest_of {f : DExp} : ∀ σ H Q, tT X W (dTst f) σ H Q → tD X W f σ H (fun x H1 => ∃ k, x = .bl k ∧ Q k H1) := fun σ H Q ⟨B, n, F, env, S, h⟩ => by
  refine tD.go S h fun d n1 v F1 H1 p t r1 S1 => ?_
  cases d with
  | bl b => cases r1; exact ⟨b, rfl, p F1 H1 t⟩
  | _ => exact p.elim
theorem dt_cmp {op : CmpOp} (ho : OpR X (compareOp op) r) (hg : OpD X r g) (ha : DE X W a fa) (hb : DE X W b fb) (hm : behindInMarks op b = false := by first | exact nomark _ | rfl) : DT X W (.Compare a [op] [b] pos) (dTst (dBin g fa fb)) :=
  ⟨PT.imp (pt_cmpR ho ha.pe hb.pe hm) fun σ H Q h => tOp_of hg σ H _ (tTest_of σ H Q h)⟩
theorem dt_val {e : Expr} {f : DExp} (he : DE X W e f) (hp : ∀ whole, isTrue e X.env whole = (do let v ← whole; standAt e.pos; holding [v] (truthy v)) := by intro _; rfl) : DT X W e (dTst f) :=
  ⟨PT.imp (pt_val he.pe hp) tTest_of⟩
/-- a < b < c -/
def dChain (g g' : D → D → M D) (fa fb fc : DExp) : DExp := fun env => bnd (fa env) fun x => bnd (fb env) fun y => bnd (g x y) fun z => match z with
  | .bl true => bnd (fc env) fun w => g' y w
  | .bl false => ret (.bl false)
  | _ => stuck
end

/-! ### and, or, not, if -/
def dNot (f : DTst) : DTst := fun env => bnd (f env) fun b => ret (!b)
def dAnd (f g : DTst) : DTst := fun env => bnd (f env) fun b => if b = true then g env else ret false
def dOr (f g : DTst) : DTst := fun env => bnd (f env) fun b => if b = true then ret true else g env
def dAndV (f g : DExp) : DExp := fun env => bnd (dTst f env) fun b => if b = true then g env else ret (.bl false)
def dOrV (f g : DExp) : DExp := fun env => bnd (dTst f env) fun b => if b = true then ret (.bl true) else g env
def dNotV (f : DExp) : DExp := fun env => bnd (dTst f env) fun b => ret (.bl (!b))
def dIf (c : DTst) (f g : DExp) : DExp := fun env => bnd (c env) fun b => if b = true then f env else g env
section
variable {X : Cx} {W : WX} {a b c : Expr} {rest : List Expr} {fa fb : DExp} {ta tb : DTst} {pos : Pos}
theorem dt_not (ha : DT X W a ta) : DT X W (.UnaryOp .Not a pos) (dNot ta) :=
  ⟨PT.imp (pt_not ha.pt) fun σ H Q ⟨B, n, F, env, S, h⟩ => tT.go S h fun d n1 F1 H1 p t S1 => p F1 H1 t⟩
theorem dw_or1 (ha : DT X W a ta) : DW X W (.BoolOp .Or [a] pos) ta := ⟨pw_or1 ha.pt⟩
theorem dw_or (ha : DT X W a ta) (hb : DW X W (.BoolOp .Or (b :: rest) pos) tb) : DW X W (.BoolOp .Or (a :: b :: rest) pos) (dOr ta tb) := by
  refine ⟨PW.imp (pw_or ha.pt hb.pw) fun σ H Q ⟨B, n, F, env, S, h⟩ => tT.go S h fun d n1 F1 H1 p t S1 => ?_⟩
  cases d with
  | true =>
    show Q true H1
    exact p F1 H1 t
  | false =>
    show tT X W tb σ H1 Q
    have p : (tb env).run n1 (okT n F H Q) (exE X W n F H σ) := p
    exact tT.go S1 ((tb env).mono (fun _ _ z => z) (fun x m z => exE.step t z) p) fun e n2 F2 H2 p2 t2 S2 => p2 F2 H2 (t.trans t2)
theorem dt_w {e : Expr} {t : DTst} (h : DW X W e t) : DT X W e t := ⟨h.pw.pt⟩
theorem de_one {op} (h : DE X W a fa) : DE X W (.BoolOp op [a] pos) fa := ⟨pe_one h.pe⟩
theorem de_and (ha : DE X W a fa) (hb : DE X W (.BoolOp .And (b :: rest) pos) fb) : DE X W (.BoolOp .And (a :: b :: rest) pos) (dAndV fa fb) := by
  refine ⟨PE.imp (pe_and ha.pe hb.pe) fun σ H Q ⟨B, n, F, env, S, h⟩ => ?_⟩
  have h' : (fa env).run n (fun d n1 => (bnd (match d with | .bl b => ret b | _ => stuck) fun b => if b = true then fb env else ret (.bl false)).run n1 (okE X n F H Q) (exE X W n F H σ)) (exE X W n F H σ) := h
  refine tD.go S h' fun d n1 v F1 H1 p t r1 S1 => ?_
  cases d with
  | bl b =>
    cases r1
    refine ⟨b, rfl, ?_⟩
    cases b with
    | true =>
      rw [if_pos rfl]
      exact ⟨B, n1, F1, env, S1, (fb env).mono (fun _ _ z => okE.step t z) (fun _ _ z => exE.step t z) p⟩
    | false =>
      rw [if_neg Bool.false_ne_true]
      exact (show okE X n F H Q (.bl false) n1 from p) _ F1 H1 t (.bl false)
  | _ => exact p.elim
theorem de_if (hc : DT X W c ta) (ha : DE X W a fa) (hb : DE X W b fb) : DE X W (.IfExp c a b pos) (dIf ta fa fb) := by
  refine ⟨PE.imp (pe_ifExp hc.pt ha.pe hb.pe) fun σ H Q ⟨B, n, F, env, S, h⟩ => tT.go S h fun d n1 F1 H1 p t S1 => ?_⟩
  cases d with
  | true =>
    show tD X W fa σ H1 Q
    have p : (fa env).run n1 (okE X n F H Q) (exE X W n F H σ) := p
    exact ⟨B, n1, F1, env, S1, (fa env).mono (fun _ _ z => okE.step t z) (fun _ _ z => exE.step t z) p⟩
  | false =>
    show tD X W fb σ H1 Q
    have p : (fb env).run n1 (okE X n F H Q) (exE X W n F H σ) := p
    exact ⟨B, n1, F1, env, S1, (fb env).mono (fun _ _ z => okE.step t z) (fun _ _ z => exE.step t z) p⟩
end

/-! ### argument lists, displays -/
def aNil : DArg := fun _ => ret []
def aCons (f : DExp) (r : DArg) : DArg := fun env => bnd (f env) fun x => bnd (r env) fun xs => ret (x :: xs)
def dTup (r : DArg) : DExp := fun env => bnd (r env) fun xs => need (xs.length ≤ sizeLine) (ret (.tup xs))
def dLst (r : DArg) : DExp := fun env => bnd (r env) fun xs => need (xs.length ≤ sizeLine) (ret (.lst xs))
section
variable {X : Cx} {W : WX} {e : Expr} {es : List Expr} {f : DExp} {r : DArg} {pos : Pos}
theorem da_nil : DA X W [] aNil := ⟨PA.imp pa_nil fun σ H Q ⟨B, n, F, env, S, h⟩ => h [] F H (Step.refl S.sub) .nil⟩
theorem da_cons (he : DE X W e f) (hr : DA X W es r) (hs : starEach (e :: es) X.env = (false, eval e X.env) :: starEach es X.env := by rfl) : DA X W (e :: es) (aCons f r) := by
  refine ⟨PA.imp (pa_cons he.pe hr.pa hs) fun σ H Q ⟨B, n, F, env, S, h⟩ => tD.go S h fun d n1 v F1 H1 p t r1 S1 => ?_⟩
  refine tA.go S1 ((r env).mono (fun _ _ z => z) (fun x m z => exE.step t z) p) fun ds n2 vs F2 H2 p2 t2 r2 S2 => ?_
  exact p2 _ F2 H2 (t.trans t2) (.cons (r1.grow t2.gr) r2)
theorem Step.newTup {n : Cn} {F H : Hp} {p : Addr} {vs : List V} {ds : List D} (s : ∀ b o, F b = some o → H b = some o) (h : H p = none) (r : Reps X.K X.mg n F vs ds) : Rep X.K X.mg n (upd F p (.tup vs)) (.ref p) (.tup ds) :=
  .tup upd_same (r.grow (Grow.new (sub_free s h)))
theorem Step.newLst {n : Cn} {F H : Hp} {p : Addr} {vs : List V} {ds : List D} (s : ∀ b o, F b = some o → H b = some o) (h : H p = none) (r : Reps X.K X.mg n F vs ds) : Rep X.K X.mg n (upd F p (.lst vs)) (.ref p) (.lst ds) :=
  .lst upd_same (r.grow (Grow.new (sub_free s h)))
theorem de_tup {x1} (h : DA X W es r) : DE X W (.Tuple es x1 pos) (dTup r) := by
  refine ⟨PE.imp (pe_tup h.pa) fun σ H Q ⟨B, n, F, env, S, h⟩ => tA.go S h fun ds n1 vs F1 H1 p t r1 S1 => ?_⟩
  obtain ⟨hz, p⟩ := p
  refine ⟨by rw [r1.length]; exact hz, fun q hq => ?_⟩
  exact p _ _ _ (t.trans (Step.new S1.sub hq)) (Step.newTup S1.sub hq r1)
theorem de_lst (h : DA X W es r) : DE X W (.List es pos) (dLst r) := by
  refine ⟨PE.imp (pe_lst h.pa) fun σ H Q ⟨B, n, F, env, S, h⟩ => tA.go S h fun ds n1 vs F1 H1 p t r1 S1 => ?_⟩
  obtain ⟨hz, p⟩ := p
  refine ⟨by rw [r1.length]; exact hz, fun q hq => ?_⟩
  exact p _ _ _ (t.trans (Step.new S1.sub hq)) (Step.newLst S1.sub hq r1)
end

/-! ### the operators' meanings -/
def gAdd : D → D → M D
  | .int i, .int j => ret (.int (i + j))
  | .str a, .str b => need (a.length + b.length ≤ sizeLine) (ret (.str (a ++ b)))
  | .lst a, .lst b => need (a.length + b.length ≤ sizeLine) (ret (.lst (a ++ b)))
  | .tup a, .tup b => need (a.length + b.length ≤ sizeLine) (ret (.tup (a ++ b)))
  | _, _ => stuck
def gSub : D → D → M D
  | .int i, .int j => ret (.int (i - j))
  | _, _ => stuck
def gMul : D → D → M D
  | .int i, .int j => need (CMulW i j) (ret (.int (i * j)))
  | .lst a, .int k => need (a.length * k.toNat ≤ sizeLine ∧ -(2 ^ 63) ≤ k ∧ k < 2 ^ 63) (ret (.lst (List.replicate k.toNat a).flatten))
  | .tup a, .int k => need (a ≠ [] ∧ 2 ≤ k ∧ k ≤ 1000 ∧ a.length ≤ 1000) (ret (.tup (List.replicate k.toNat a).flatten))
  | .str a, .int k => need (0 < a.length ∧ 2 ≤ k ∧ k ≤ 1000 ∧ a.length ≤ 1000) (ret (.str ⟨(List.replicate k.toNat a.cps).foldl (· ++ ·) #[]⟩))
  | _, _ => stuck
def gMod : D → D → M D
  | .int i, .int j => need (0 < j) (ret (.int (i % j)))
  | _, _ => stuck
def gFdiv : D → D → M D
  | .int i, .int j => need (CDivW i j) (ret (.int (i / j)))
  | _, _ => stuck
def gPow : D → D → M D
  | .int i, .int j => need (CPow i j) (ret (.int (i ^ j.toNat)))
  | _, _ => stuck
def gI (f : Int → Int → Bool) : D → D → M D
  | .int i, .int j => ret (.bl (f i j))
  | _, _ => stuck
def gLt := gI fun i j => decide (i < j)
def gGt := gI fun i j => decide (j < i)
def gGe := gI fun i j => decide (j ≤ i)
def gNeg : D → M D
  | .int i => ret (.int (-i))
  | _ => stuck
section
variable {X : Cx}
theorem od_int {C : Int → Int → Prop} {g : Int → Int → V} {f : Int → Int → D} {h : D → D → M D} (hr : ∀ i j n F, Rep X.K X.mg n F (g i j) (f i j)) (h1 : ∀ i j, h (.int i) (.int j) = need (C i j) (ret (f i j)))
    (h2 : ∀ d e, (∀ i j, d = .int i → e = .int j → False) → h d e = stuck) : OpD X (rI C g) h := fun n F H x y d e Q E s rx ry q => by
  by_cases z : ∃ i j, d = .int i ∧ e = .int j
  · obtain ⟨i, j, rfl, rfl⟩ := z
    cases rx; cases ry
    rw [h1] at q
    exact ⟨i, j, rfl, rfl, q.1, q.2 _ F H (Step.refl s) (hr i j n F)⟩
  · rw [h2 d e fun i j h1 h2 => z ⟨i, j, h1, h2⟩] at q
    exact q.elim
theorem od_int0 {g : Int → Int → V} {f : Int → Int → D} {h : D → D → M D} (hr : ∀ i j n F, Rep X.K X.mg n F (g i j) (f i j)) (h1 : ∀ i j, h (.int i) (.int j) = ret (f i j))
    (h2 : ∀ d e, (∀ i j, d = .int i → e = .int j → False) → h d e = stuck) : OpD X (rI0 g) h := fun n F H x y d e Q E s rx ry q => by
  by_cases z : ∃ i j, d = .int i ∧ e = .int j
  · obtain ⟨i, j, rfl, rfl⟩ := z
    cases rx; cases ry
    rw [h1] at q
    exact ⟨i, j, rfl, rfl, q _ F H (Step.refl s) (hr i j n F)⟩
  · rw [h2 d e fun i j h1 h2 => z ⟨i, j, h1, h2⟩] at q
    exact q.elim
theorem gI_no (f : Int → Int → Bool) (d e : D) (h : ∀ i j, d = .int i → e = .int j → False) : gI f d e = stuck := by
  unfold gI
  split
  · rename_i i j; exact (h i j rfl rfl).elim
  · rfl
theorem od_mod : OpD X (rI (fun _ j => 0 < j) fun i j => .int (i % j)) gMod := od_int (fun i j _ _ => .int _) (fun _ _ => rfl) fun d e h => by
  unfold gMod
  split
  · rename_i i j; exact (h i j rfl rfl).elim
  · rfl
theorem od_fdiv : OpD X (rI CDivW fun i j => .int (i / j)) gFdiv := od_int (fun i j _ _ => .int _) (fun _ _ => rfl) fun d e h => by
  unfold gFdiv
  split
  · rename_i i j; exact (h i j rfl rfl).elim
  · rfl
theorem od_pow : OpD X (rI CPow fun i j => .int (i ^ j.toNat)) gPow := od_int (fun i j _ _ => .int _) (fun _ _ => rfl) fun d e h => by
  unfold gPow
  split
  · rename_i i j; exact (h i j rfl rfl).elim
  · rfl
theorem od_lt : OpD X (rI0 fun i j => .bl (decide (i < j))) gLt := od_int0 (fun i j _ _ => .bl _) (fun _ _ => rfl) (gI_no _)
theorem od_gt : OpD X (rI0 fun i j => .bl (decide (j < i))) gGt := od_int0 (fun i j _ _ => .bl _) (fun _ _ => rfl) (gI_no _)
theorem od_ge : OpD X (rI0 fun i j => .bl (decide (j ≤ i))) gGe := od_int0 (fun i j _ _ => .bl _) (fun _ _ => rfl) (gI_no _)
theorem ud_neg : UnD X (rU fun i => .int (-i)) gNeg := fun n F H x d Q E s rx q => by
  cases d with
  | int i => cases rx; exact ⟨i, rfl, q _ F H (Step.refl s) (.int _)⟩
  | _ => exact q.elim
def rAddA (K : PySem.W.Frag) : R2 := fun x y H Q => (rI0 fun i j => .int (i + j)) x y H Q ∨ (∃ i j, x = .str i ∧ y = .str j ∧ i.length + j.length ≤ sizeLine ∧ Q (.str (i ++ j)) H) ∨ rCat x y H Q ∨ rCatA K x y H Q
theorem op_addA : OpR X (binaryOp .Add) (rAddA X.K) := OpR.or op_add (OpR.or op_add_str (OpR.or op_cat op_catA))
theorem od_add : OpD X (rAddA X.K) gAdd := fun n F H x y d e Q E s rx ry q => by
  unfold gAdd at q
  split at q
  · cases rx; cases ry; exact .inl ⟨_, _, rfl, rfl, q _ F H (Step.refl s) (.int _)⟩
  · cases rx; cases ry; exact .inr (.inl ⟨_, _, rfl, rfl, q.1, q.2 _ F H (Step.refl s) (.str _)⟩)
  · obtain ⟨hz, q⟩ := q
    cases rx with
    | lst h1 r1 => cases ry with
      | lst h2 r2 =>
        refine .inr (.inr (.inl ⟨_, _, _, _, rfl, rfl, s _ _ h1, s _ _ h2, by rw [r1.length, r2.length]; exact hz, fun p hp => ?_⟩))
        exact q _ _ _ (Step.new s hp) (Step.newLst s hp (r1.append r2))
  · obtain ⟨hz, q⟩ := q
    cases rx with
    | tup h1 r1 => cases ry with
      | tup h2 r2 =>
        refine .inr (.inr (.inr ⟨_, _, _, _, rfl, rfl, SqT.of (s _ _ h1), SqT.of (s _ _ h2), by rw [r1.length, r2.length]; exact hz, fun e => ?_, fun _ e => ?_, fun _ _ p hp => ?_⟩))
        · subst e; cases r1
          exact q _ F H (Step.refl s) (.tup h2 r2)
        · subst e; cases r2
          exact q _ F H (Step.refl s) (by rw [List.append_nil]; exact .tup h1 r1)
        · exact q _ _ _ (Step.new s hp) (Step.newTup s hp (r1.append r2))
  · exact q.elim
theorem fold_rep {α : Type} (l : Array α) : ∀ (n : Nat) (acc : Array α), (List.replicate n l).foldl (· ++ ·) acc = acc ++ (List.replicate n l.toList).flatten.toArray
  | 0, acc => by simp
  | n + 1, acc => by
    rw [List.replicate_succ, List.foldl_cons, fold_rep l n, List.replicate_succ, List.flatten_cons, ← List.append_toArray]
    simp [Array.append_assoc]
def rRepS : R2 := fun x y H Q => ∃ a k, x = .str a ∧ y = .int k ∧ 0 < a.length ∧ 2 ≤ k ∧ k ≤ 1000 ∧ a.length ≤ 1000 ∧ Q (.str ⟨(List.replicate k.toNat a.cps).foldl (· ++ ·) #[]⟩) H
theorem op_repS : OpR X (binaryOp .Mult) rRepS := by
  intro pins s σ H x y v u Q I rx ry h
  obtain ⟨a, k, rfl, rfl, h0, h1, h2, h3, q⟩ := h
  obtain ⟨t, rfl⟩ := rx
  obtain ⟨t', rfl⟩ := ry
  have n1 : ¬ k < 1 := by omega
  have n2 : (k == 1 || a.length == 0) = false := by
    rw [Bool.or_eq_false_iff]
    exact ⟨beq_eq_false_iff_ne.mpr (by omega), beq_eq_false_iff_ne.mpr (by omega)⟩
  have n3 : a.length * k.toNat ≤ 1000 * 1000 := Nat.mul_le_mul h3 (by omega)
  have n4 : Builtin.Str.tooLong (a.length * k.toNat) = false := by
    unfold Builtin.Str.tooLong
    simp only [sizeLine_eq]
    exact decide_eq_false (by omega)
  have n5 : (⟨(List.replicate k.toNat a.cps).foldl (· ++ ·) #[]⟩ : Str).length ≤ sizeLine := by
    rw [fold_rep]
    show (#[] ++ (List.replicate k.toNat a.cps.toList).flatten.toArray).size ≤ sizeLine
    have e : a.cps.toList.length = a.length := rfl
    rw [Array.size_append, List.size_toArray, List.size_toArray, List.length_flatten, List.map_replicate, List.sum_replicate_nat, sizeLine_eq, e]
    have : k.toNat * a.length ≤ 1000 * 1000 := Nat.mul_le_mul (by omega) h3
    show 0 + k.toNat * a.length ≤ 16777216
    omega
  refine PySem.P.mul_str (by rw [decide_eq_false (by omega), decide_eq_false (by omega)]; rfl) (fun _ _ hz => ?_) (fun _ _ => n4) ?_
  · have m : (a.length : Int) * k ≤ 1000 * 1000 := Int.mul_le_mul (by omega) h2 (by omega) (by decide)
    have : (a.length : Int) ≤ (2 ^ 63 - 1) / k := Int.le_ediv_of_mul_le (by omega) (by omega)
    omega
  · rw [if_neg n1, if_neg (by rw [n2]; exact Bool.false_ne_true)]
    exact ⟨n5, .str _, _, I.tok _, ⟨_, rfl⟩, q⟩
def rMulA (K : PySem.W.Frag) : R2 := fun x y H Q => (rI CMulW fun i j => .int (i * j)) x y H Q ∨ rRep x y H Q ∨ rRepT K x y H Q ∨ rRepS x y H Q
theorem op_mulA : OpR X (binaryOp .Mult) (rMulA X.K) := OpR.or op_mulW (OpR.or op_rep (OpR.or op_repT op_repS))
theorem Reps.rep {K : PySem.W.Frag} {mg : Str → Option Value} {n : Cn} {F : Hp} {vs : List V} {ds : List D} (r : Reps K mg n F vs ds) : ∀ k : Nat, Reps K mg n F (List.replicate k vs).flatten (List.replicate k ds).flatten
  | 0 => .nil
  | k + 1 => by rw [List.replicate_succ, List.replicate_succ, List.flatten_cons, List.flatten_cons]; exact r.append (Reps.rep r k)
theorem od_mul : OpD X (rMulA X.K) gMul := fun n F H x y d e Q E s rx ry q => by
  unfold gMul at q
  split at q
  · cases rx; cases ry; exact .inl ⟨_, _, rfl, rfl, q.1, q.2 _ F H (Step.refl s) (.int _)⟩
  · obtain ⟨⟨hz, h1, h2⟩, q⟩ := q
    cases ry
    cases rx with
    | lst hx r1 =>
      refine .inr (.inl ⟨_, _, _, rfl, rfl, s _ _ hx, h1, h2, by rw [r1.length]; exact hz, fun p hp => ?_⟩)
      exact q _ _ _ (Step.new s hp) (Step.newLst s hp (r1.rep _))
  · obtain ⟨⟨hz, h1, h2, h3⟩, q⟩ := q
    cases ry
    cases rx with
    | tup hx r1 =>
      refine .inr (.inr (.inl ⟨_, _, _, rfl, rfl, SqT.of (s _ _ hx), fun e => hz ?_, h1, h2, by rw [r1.length]; exact h3, fun p hp => ?_⟩))
      · have := r1.length
        rw [e] at this
        exact List.eq_nil_of_length_eq_zero this.symm
      · exact q _ _ _ (Step.new s hp) (Step.newTup s hp (r1.rep _))
  · obtain ⟨⟨h0, h1, h2, h3⟩, q⟩ := q
    cases rx; cases ry
    exact .inr (.inr (.inr ⟨_, _, rfl, rfl, h0, h1, h2, h3, q _ F H (Step.refl s) (.str _)⟩))
  · exact q.elim
end
end DL

end
section
set_option Elab.async false
set_option linter.all false
set_option maxRecDepth 100000
set_option maxHeartbeats 4000000
/-! DExpr2: calls, comparisons of data, subscripts, slices. -/
namespace DL
open PySem PySem.Spec PyProof.Rows L2
variable [Tb]

/-! ### a call of a def of the text -/
def dCall (m : Nat) (φ : Fn) (fa : DArg) : DExp := fun env => bnd (fa env) fun ds => need (ds.length = m) (φ ds)
section
variable {X : Cx} {W : WX} {k m : Nat} {x : Str} {φ : Fn} {e : Expr} {es : List Expr} {fa : DArg} {p pos : Pos}
/-- the call itself, the arguments being there -/
theorem run_glo {f : Addr} {fd : FuncData} {ps : List Str} {pins : List (Addr × Obj)} {s : Shared} {σ : L2.St} {H : Hp} {Q : VK} {us : List Value} {vs : List V} (hl : ps.length = m) (hb : Binds X.K fd ps [])
    (F : FnG X.prog X.w X.K X.mg X.base k f fd ps (spD X.K X.mg m φ)) (r : Rm k X.A) (tk : Takes X W) (I : Inv X pins σ H s) (rv : Vals vs us) (q : spD X.K X.mg m φ vs H Q (fun cls d H' => W cls d σ H')) :
    wpAny (model X.prog X.w) X.A (PySem.call (.ref f) us) (EP X pins σ Q) X.xe s := by
  have bd := hb s us I.kIn (by rw [List.append_nil, ← rv.length, q.1, hl])
  rw [List.append_nil] at bd
  refine wpAny_call (codeAny_mono (F.run X.A X.stack s H ⟨us, []⟩ us vs Q _ r.room r.gd I.env0 bd rv q) fun res s2 hq => ?_)
  match res with
  | .error u => exact tk u s2 (XE.of_call I (fun _ _ _ z => z) hq)
  | .ok (.ret u) => exact I.after hq
  | .ok .next => exact False.elim hq
  | .ok .brk => exact False.elim hq
  | .ok .cont => exact False.elim hq
theorem de_call {j : Nat} (c : Kx X W k) (G0 : Glo X.prog X.w X.K X.mg X.base j x m φ) (ha : DA X W (e :: es) fa) (hg : Gl X x := by rfl) (hdb : (x == ("__debug__" : Str)) = false := by decide)
    (he : starEach (e :: es) X.env = (false, eval e X.env) :: starEach es X.env := by rfl) (hpl : (backTo pos (starEach es X.env)).any (·.1) = false := by rfl) (hj : j ≤ k := by decide) : DE X W (.Call (.Name x p) (e :: es) [] pos) (dCall m φ fa) := by
  have tk := c.tk
  have r := c.rm
  obtain ⟨f, fd, ps, hl, hm, hk, hb, F⟩ := (G0.mono hj).ex
  refine ⟨⟨fun pins s σ H Q I h => ?_⟩⟩
  obtain ⟨B, n, Fz, env, S, h⟩ := h
  have hA : tA X W fa σ H (fun vs H1 => spD X.K X.mg m φ vs H1 Q (fun cls d H' => W cls d σ H')) := tA.go S h fun ds n1 vs F1 H1 p t r1 S1 =>
    ⟨by rw [r1.length]; exact p.1, n1, F1, ds, S1.sub, S1.ts, r1, (φ ds).mono (fun _ _ z => okE.step t z) (fun _ _ z => exE.step t z) p.2⟩
  refine wpAny_Call_Name_kw (ld_glob I hg hm ?_ hdb)
  refine PySem.W.callWith_K (h₀ := X.base) I.ok.mod.kin hk (thn (ha.pa.run pos pins s σ H _ I hA) fun us s1 ⟨vs, H1, I1, rv, q⟩ => ⟨I1.kIn, ?_⟩) he hpl
  exact run_glo hl hb F r tk I1 rv q
end

/-! ### a call of a built-in -/
def CallD (X : Cx) (r : List V → Hp → VK → Prop) (g : List D → M D) : Prop := ∀ (n : Cn) (F H : Hp) (xs : List V) (ds : List D) (Q : VK) (E : D → Cn → Prop), (∀ b o, F b = some o → H b = some o) → Reps X.K X.mg n F xs ds →
  (g ds).run n (okE X n F H Q) E → r xs H Q
def dCb (g : List D → M D) (fa : DArg) : DExp := fun env => bnd (fa env) g
section
variable {X : Cx} {W : WX} {x : Str} {e : Expr} {es : List Expr} {fa : DArg} {p pos : Pos} {id T : String} {r r' : List V → Hp → VK → Prop} {g : List D → M D}
theorem CallR.or {f : Value} (h : CallR X f r) (h' : CallR X f r') : CallR X f (fun xs H Q => r xs H Q ∨ r' xs H Q) := fun pins s σ H xs us Q I rx q => q.elim (h pins s σ H xs us Q I rx) (h' pins s σ H xs us Q I rx)
theorem tCB_of (hg : CallD X r g) : ∀ σ H Q, tD X W (dCb g fa) σ H Q → tCB r (tA X W fa) σ H Q := fun σ H Q ⟨B, n, F, env, S, h⟩ =>
  tA.go S h fun ds n1 vs F1 H1 p t r1 S1 => hg n1 F1 H1 vs ds Q _ S1.sub r1 ((g ds).mono (fun _ _ z => okE.step t z) (fun _ _ z => z) p)
theorem de_cb (hc : CallR X (.builtin id) r) (hg : CallD X r g) (hm : X.mg x = none) (ha : DA X W (e :: es) fa) (hv : bootBuiltins x = some (.builtin id) := by decide +kernel) (hgl : Gl X x := by rfl) (hn : x ≠ "__name__" := by decide) (hdb : (x == ("__debug__" : Str)) = false := by decide)
    (he : starEach (e :: es) X.env = (false, eval e X.env) :: starEach es X.env := by rfl) (hpl : (backTo pos (starEach es X.env)).any (·.1) = false := by rfl) : DE X W (.Call (.Name x p) (e :: es) [] pos) (dCb g fa) :=
  ⟨PE.imp (pe_callB hc hgl hm hv ha.pa hn hdb he hpl) (tCB_of hg)⟩
theorem de_ct (hc : CallR X (.type T) r) (hg : CallD X r g) (hm : X.mg x = none) (ha : DA X W (e :: es) fa) (hv : bootBuiltins x = some (.type T) := by decide +kernel) (hgl : Gl X x := by rfl) (hn : x ≠ "__name__" := by decide) (hdb : (x == ("__debug__" : Str)) = false := by decide)
    (he : starEach (e :: es) X.env = (false, eval e X.env) :: starEach es X.env := by rfl) (hpl : (backTo pos (starEach es X.env)).any (·.1) = false := by rfl) : DE X W (.Call (.Name x p) (e :: es) [] pos) (dCb g fa) :=
  ⟨PE.imp (pe_callTy hc hgl hm hv ha.pa hn hdb he hpl) (tCB_of hg)⟩
/-- a built-in type as a value -/
theorem de_ty (hm : X.mg x = none) (hv : bootBuiltins x = some (.type T) := by decide +kernel) (hgl : Gl X x := by rfl) (hn : x ≠ "__name__" := by decide) (hdb : (x == ("__debug__" : Str)) = false := by decide) : DE X W (.Name x p) (dK (.ty T)) :=
  de_k (v := .ty T) (pe_bltn hgl hm hv rfl hn hdb) fun _ _ => .ty T
end
def gLen : List D → M D
  | [.lst l] => ret (.int l.length)
  | [.tup l] => ret (.int l.length)
  | [.str s] => need (s.length ≤ sizeLine) (ret (.int s.length))
  | [.scr k] => ret (.int k)
  | _ => stuck
def gInt : List D → M D
  | [.int i] => ret (.int i)
  | [.bl b] => ret (.int (if b then 1 else 0))
  | _ => stuck
/-- the intsD of a list -/
def intsD : List D → Option (List Int)
  | [] => some []
  | .int i :: r => (intsD r).map (i :: ·)
  | _ => none
def bls : List D → Option (List Bool)
  | [] => some []
  | .bl i :: r => (bls r).map (i :: ·)
  | _ => none
theorem intsD_of : ∀ {l : List D} {ns : List Int}, intsD l = some ns → l = ns.map D.int
  | [], ns, h => by cases h; rfl
  | .int i :: r, ns, h => by
    unfold intsD at h
    cases e : intsD r with
    | none => rw [e] at h; cases h
    | some ms => rw [e] at h; cases h; rw [intsD_of e]; rfl
  | .non :: r, ns, h => by cases h
  | .bl _ :: r, ns, h => by cases h
  | .str _ :: r, ns, h => by cases h
  | .tup _ :: r, ns, h => by cases h
  | .lst _ :: r, ns, h => by cases h
  | .dct _ :: r, ns, h => by cases h
  | .scr _ :: r, ns, h => by cases h
  | .rng _ _ :: r, ns, h => by cases h
  | .exc _ _ :: r, ns, h => by cases h
  | .fn _ :: r, ns, h => by cases h
  | .ty _ :: r, ns, h => by cases h
@[simp] theorem intsD_map : ∀ ns : List Int, intsD (ns.map D.int) = some ns
  | [] => rfl
  | i :: r => by rw [List.map_cons, intsD, intsD_map r]; rfl
@[simp] theorem bls_map : ∀ ns : List Bool, bls (ns.map D.bl) = some ns
  | [] => rfl
  | i :: r => by rw [List.map_cons, bls, bls_map r]; rfl
def gBools (f : List Bool → Bool) : List D → M D
  | [.lst l] => match bls l with
    | some bs => ret (.bl (f bs))
    | none => stuck
  | _ => stuck
def gAll := gBools fun bs => bs.all id
def gAny := gBools fun bs => bs.any id
def gMin2 : List D → M D
  | [.int i, .int j] => ret (.int (if j < i then j else i))
  | _ => stuck
section
variable {X : Cx}
theorem sub_seq {n : Cn} {F H : Hp} {a : Addr} {xs : List V} (s : ∀ b o, F b = some o → H b = some o) (h : SqL X.K F a xs) : SqL X.K H a xs := SqL.grow (Grow.sub (n := n) s) h
def rLenA (K : PySem.W.Frag) : List V → Hp → VK → Prop := fun xs H Q => (∃ p ys, xs = [.ref p] ∧ (SqL K H p ys ∨ SqT K H p ys) ∧ Q (.int ys.length) H) ∨ (∃ z, xs = [.str z] ∧ z.length ≤ sizeLine ∧ Q (.int z.length) H)
theorem cb_len : CallR X (.builtin "len") (rLenA X.K) := CallR.or call_len_seq call_len_str
theorem cd_len : CallD X (rLenA X.K) gLen := fun n F H xs ds Q E s r q => by
  unfold gLen at q
  split at q
  · cases r with
    | cons r1 r2 => cases r2; cases r1 with
      | lst h1 r1 => exact .inl ⟨_, _, rfl, .inl (SqL.of (s _ _ h1)), by rw [r1.length]; exact q _ F H (Step.refl s) (.int _)⟩
  · cases r with
    | cons r1 r2 => cases r2; cases r1 with
      | tup h1 r1 => exact .inl ⟨_, _, rfl, .inr (SqT.of (s _ _ h1)), by rw [r1.length]; exact q _ F H (Step.refl s) (.int _)⟩
  · cases r with
    | cons r1 r2 => cases r2; cases r1; exact .inr ⟨_, rfl, q.1, q.2 _ F H (Step.refl s) (.int _)⟩
  · cases r with
    | cons r1 r2 => cases r2; cases r1 with
      | scr h1 => exact .inl ⟨_, _, rfl, .inl (sub_seq (n := n) s h1), by rw [List.length_map]; exact q _ F H (Step.refl s) (.int _)⟩
  · exact q.elim
theorem cd_int : CallD X (fun xs H Q => (∃ i, xs = [.int i] ∧ Q (.int i) H) ∨ ∃ k, xs = [.bl k] ∧ Q (.int (if k then 1 else 0)) H) gInt := fun n F H xs ds Q E s r q => by
  unfold gInt at q
  split at q
  · cases r with
    | cons r1 r2 => cases r2; cases r1; exact .inl ⟨_, rfl, q _ F H (Step.refl s) (.int _)⟩
  · cases r with
    | cons r1 r2 => cases r2; cases r1; exact .inr ⟨_, rfl, q _ F H (Step.refl s) (.int _)⟩
  · exact q.elim
theorem cd_min2 : CallD X (fun xs H Q => ∃ i j, xs = [.int i, .int j] ∧ Q (.int (if j < i then j else i)) H) gMin2 := fun n F H xs ds Q E s r q => by
  unfold gMin2 at q
  split at q
  · cases r with
    | cons r1 r2 => cases r2 with
      | cons r3 r4 => cases r4; cases r1; cases r3; exact ⟨_, _, rfl, q _ F H (Step.refl s) (.int _)⟩
  · exact q.elim
end

/-! ### isinstance(x, T), T a built-in type -/
section
variable {X : Cx}
end

/-! ### ==, != of data; in; is None -/
mutual
def toPy : D → Option PyData
  | .non => some .none
  | .bl b => some (.bool b)
  | .int i => some (.int i)
  | .str s => some (.str s)
  | .tup l => (toPys l).map PyData.tuple
  | .lst l => (toPys l).map PyData.list
  | _ => none
def toPys : List D → Option (List PyData)
  | [] => some []
  | d :: r => match toPy d, toPys r with
    | some p, some ps => some (p :: ps)
    | _, _ => none
end
section
variable {K : PySem.W.Frag} {mg : Str → Option Value} {n : Cn} {F H : Hp}
mutual
theorem dp_of (s : ∀ b o, F b = some o → H b = some o) : ∀ {d : D} {v : V} {p : PyData}, Rep K mg n F v d → toPy d = some p → Dp K H v p
  | .non, _, p, r, h => by cases r; simp only [toPy, Option.some.injEq] at h; subst h; exact .non
  | .bl b, _, p, r, h => by cases r; simp only [toPy, Option.some.injEq] at h; subst h; exact .bl b
  | .int i, _, p, r, h => by cases r; simp only [toPy, Option.some.injEq] at h; subst h; exact .int i
  | .str x, _, p, r, h => by cases r; simp only [toPy, Option.some.injEq] at h; subst h; exact .str x
  | .tup l, _, p, r, h => by
    cases r with
    | tup e r =>
      cases q : toPys l with
      | none => simp only [toPy, q, Option.map_none] at h; cases h
      | some ps => simp only [toPy, q, Option.map_some, Option.some.injEq] at h; subst h; exact .tup (SqT.of (s _ _ e)) (dps_of s r q)
  | .lst l, _, p, r, h => by
    cases r with
    | lst e r =>
      cases q : toPys l with
      | none => simp only [toPy, q, Option.map_none] at h; cases h
      | some ps => simp only [toPy, q, Option.map_some, Option.some.injEq] at h; subst h; exact .lst (SqL.of (s _ _ e)) (dps_of s r q)
  | .dct _, _, p, r, h => by simp only [toPy] at h; cases h
  | .scr _, _, p, r, h => by simp only [toPy] at h; cases h
  | .rng _ _, _, p, r, h => by simp only [toPy] at h; cases h
  | .exc _ _, _, p, r, h => by simp only [toPy] at h; cases h
  | .fn _, _, p, r, h => by simp only [toPy] at h; cases h
  | .ty _, _, p, r, h => by simp only [toPy] at h; cases h
theorem dps_of (s : ∀ b o, F b = some o → H b = some o) : ∀ {ds : List D} {vs : List V} {ps : List PyData}, Reps K mg n F vs ds → toPys ds = some ps → DpAll K H vs ps
  | [], _, ps, r, h => by cases r; simp only [toPys, Option.some.injEq] at h; subst h; exact .nil
  | d :: ds, _, ps, r, h => by
    cases r with
    | cons r1 r2 =>
      cases q : toPy d with
      | none => simp only [toPys, q] at h; cases h
      | some p =>
        cases q2 : toPys ds with
        | none => simp only [toPys, q, q2] at h; cases h
        | some ps' => simp only [toPys, q, q2, Option.some.injEq] at h; subst h; exact .cons (dp_of s r1 q) (dps_of s r2 q2)
end
end
def gEqD (neg : Bool) : D → D → M D := fun d e => match toPy d, toPy e with
  | some p, some q => need (SeqAt.shaped p = true ∧ SeqAt.shaped q = true) (ret (.bl (if neg then !PyData.eqv p q else PyData.eqv p q)))
  | _, _ => stuck
def gEq (neg : Bool) : D → D → M D
  | .str a, .str b => ret (.bl (if neg then !decide (a = b) else decide (a = b)))
  | d, e => gEqD neg d e
section
variable {X : Cx}
def rEqA (K : PySem.W.Frag) : R2 := fun x y H Q => rEq x y H Q ∨ rEqD K x y H Q
def rNeA (K : PySem.W.Frag) : R2 := fun x y H Q => rNe x y H Q ∨ rNeD K x y H Q
theorem op_eqA (hu : X.A.units + 64 < cLine) : OpR X (compareOp .Eq) (rEqA X.K) := OpR.or op_eq (op_eqD hu)
theorem op_neA (hu : X.A.units + 64 < cLine) : OpR X (compareOp .NotEq) (rNeA X.K) := OpR.or op_ne (op_neD hu)
theorem dec_str (a b : Str) : decide (V.str a = V.str b) = decide (a = b) := by
  by_cases h : a = b
  · subst h; simp
  · rw [decide_eq_false h, decide_eq_false fun q => h (V.str.inj q)]
theorem od_eq : OpD X (rEqA X.K) (gEq false) := fun n F H x y d e Q E s rx ry q => by
  unfold gEq at q
  split at q
  · cases rx; cases ry
    exact .inl ⟨rfl, by rw [dec_str]; exact q _ F H (Step.refl s) (.bl _)⟩
  · unfold gEqD at q
    split at q
    · rename_i p p' h1 h2
      exact .inr ⟨p, p', dp_of s rx h1, dp_of s ry h2, q.1.1, q.1.2, q.2 _ F H (Step.refl s) (.bl _)⟩
    · exact q.elim
theorem od_ne : OpD X (rNeA X.K) (gEq true) := fun n F H x y d e Q E s rx ry q => by
  unfold gEq at q
  split at q
  · cases rx; cases ry
    exact .inl ⟨rfl, by rw [dec_str]; exact q _ F H (Step.refl s) (.bl _)⟩
  · unfold gEqD at q
    split at q
    · rename_i p p' h1 h2
      exact .inr ⟨p, p', dp_of s rx h1, dp_of s ry h2, q.1.1, q.1.2, q.2 _ F H (Step.refl s) (.bl _)⟩
    · exact q.elim
end

/-! ### subscripts -/
def gIx : D → D → M D
  | .lst l, .int i => match atI l i with
    | some d => ret d
    | none => stuck
  | .tup l, .int i => match atI l i with
    | some d => ret d
    | none => stuck
  | .str s, .int i => need (s.length ≤ sizeLine) (match atI s.cps.toList i with
    | some c => ret (.str ⟨#[c]⟩)
    | none => stuck)
  | _, _ => stuck
section
variable {X : Cx} {W : WX} {a b : Expr} {fa fb : DExp} {pos : Pos}
theorem Reps.atI {n : Cn} {F : Hp} {vs : List V} {ds : List D} {i : Int} {d : D} (r : Reps X.K X.mg n F vs ds) (h : L2.atI ds i = some d) : ∃ v, L2.atI vs i = some v ∧ Rep X.K X.mg n F v d := by
  unfold L2.atI at h ⊢
  rw [r.length]
  cases e : ixN ds.length i with
  | none => rw [e] at h; cases h
  | some j => rw [e] at h; exact r.get h
theorem od_ix : OpD X (rIx X.K) gIx := fun n F H x y d e Q E s rx ry q => by
  unfold gIx at q
  split at q
  · split at q
    · rename_i h
      cases ry
      cases rx with
      | lst e r =>
        obtain ⟨v, hv, rv⟩ := Reps.atI r h
        exact .inl ⟨_, _, _, v, rfl, rfl, SqL.of (s _ _ e), hv, q _ F H (Step.refl s) rv⟩
    · exact q.elim
  · split at q
    · rename_i h
      cases ry
      cases rx with
      | tup e r =>
        obtain ⟨v, hv, rv⟩ := Reps.atI r h
        exact .inr (.inl ⟨_, _, _, v, rfl, rfl, SqT.of (s _ _ e), hv, q _ F H (Step.refl s) rv⟩)
    · exact q.elim
  · obtain ⟨hz, q⟩ := q
    split at q
    · rename_i h
      cases ry; cases rx
      exact .inr (.inr ⟨_, _, _, rfl, rfl, hz, h, q _ F H (Step.refl s) (.str _)⟩)
    · exact q.elim
  · exact q.elim
theorem de_ix (ha : DE X W a fa) (hb : DE X W b fb) (hs : PlainIx b := by exact fun _ _ => rfl) : DE X W (.Subscript a b pos) (dBin gIx fa fb) := ⟨PE.imp (pe_ix ix_seq ha.pe hb.pe hs) (tOp_of od_ix)⟩
end

/-! ### slices without a step -/
abbrev DOpt := En → M (Option Int)
def oNone : DOpt := fun _ => ret none
def oSome (f : DExp) : DOpt := fun env => bnd (f env) fun d => match d with
  | .int i => ret (some i)
  | _ => stuck
def cutD (xs : List D) (lo hi : Option Int) : List D := (xs.drop (HT.sIx xs.length 0 lo)).take (HT.sIx xs.length xs.length hi - HT.sIx xs.length 0 lo)
def gSl : D → Option Int → Option Int → M D
  | .lst l, lo, hi => ret (.lst (cutD l lo hi))
  | .tup l, lo, hi => ret (.tup (cutD l lo hi))
  | .str z, lo, hi => need (z.length ≤ sizeLine) (ret (.str (cutS z lo hi)))
  | _, _, _ => stuck
def dSl (fe : DExp) (fl fh : DOpt) : DExp := fun env => bnd (fe env) fun d => bnd (fl env) fun l => bnd (fh env) fun h => gSl d l h
def tOpt (X : Cx) (W : WX) (f : DOpt) : TO := fun σ H Q => ∃ (B : Bs) (n : Cn) (F : Hp) (env : En), SL X.K X.mg B n F H σ env ∧ (f env).run n (fun o n' => ∀ F' H', Step n F H n' F' H' → Q o H') (exE X W n F H σ)
structure DO (X : Cx) (W : WX) (e : Option Expr) (f : DOpt) : Prop where
  po : PO X e (tOpt X W f)
section
variable {X : Cx} {W : WX} {e : Expr} {lo hi : Option Expr} {fe : DExp} {fl fh : DOpt} {p2 pos : Pos}
theorem PO.imp {e : Option Expr} {t t' : TO} (h : PO X e t) (hi : ∀ σ H Q, t' σ H Q → t σ H Q) : PO X e t' := ⟨fun pins s σ H Q I q => h.run pins s σ H Q I (hi σ H Q q)⟩
theorem do_none : DO X W none oNone := ⟨PO.imp po_none fun σ H Q ⟨B, n, F, env, S, h⟩ => h F H (Step.refl S.sub)⟩
theorem do_some {f : DExp} (he : DE X W e f) : DO X W (some e) (oSome f) := by
  refine ⟨PO.imp (po_some he.pe) fun σ H Q ⟨B, n, F, env, S, h⟩ => tD.go S h fun d n1 v F1 H1 p t r1 S1 => ?_⟩
  cases d with
  | int i => cases r1; exact ⟨i, rfl, p F1 H1 t⟩
  | _ => exact p.elim
theorem tOpt.go {f : DOpt} {B : Bs} {n : Cn} {F H : Hp} {σ : L2.St} {env : En} {P : Option Int → Cn → Prop} {R : Option Int → Hp → Prop} (S : SL X.K X.mg B n F H σ env) (h : (f env).run n P (exE X W n F H σ))
    (hk : ∀ d n1 F1 H1, P d n1 → Step n F H n1 F1 H1 → SL X.K X.mg B n1 F1 H1 σ env → R d H1) : tOpt X W f σ H R :=
  ⟨B, n, F, env, S, (f env).mono (fun d n1 p F1 H1 t => hk d n1 F1 H1 p t (S.step t)) (fun _ _ z => z) h⟩
theorem Reps.cut {n : Cn} {F : Hp} {vs : List V} {ds : List D} (r : Reps X.K X.mg n F vs ds) (lo hi : Option Int) : Reps X.K X.mg n F (cutV vs lo hi) (cutD ds lo hi) := by
  unfold cutV cutD
  rw [r.length]
  exact (r.drop _).take _
theorem cut_whole {ds : List D} {lo hi : Option Int} (h : HT.sIx ds.length 0 lo = 0 ∧ HT.sIx ds.length ds.length hi = ds.length) : cutD ds lo hi = ds := by
  unfold cutD
  rw [h.1, h.2, List.drop_zero, Nat.sub_zero, List.take_length]
theorem sl_any : SlR X (fun x lo hi H Q => rSlL X.K x lo hi H Q ∨ rSlA X.K x lo hi H Q ∨ rSlS x lo hi H Q) := SlR.or sl_list (SlR.or sl_tupA sl_str)
theorem de_sl (he : DE X W e fe) (hl : DO X W lo fl) (hh : DO X W hi fh) : DE X W (.Subscript e (.Slice lo hi none p2) pos) (dSl fe fl fh) := by
  refine ⟨PE.imp (pe_slice sl_any he.pe hl.po hh.po) fun σ H Q ⟨B, n, F, env, S, h⟩ => tD.go S h fun d n1 v F1 H1 p1 t1 r1 S1 => ?_⟩
  refine tOpt.go S1 ((fl env).mono (fun _ _ z => z) (fun _ _ z => exE.step t1 z) p1) fun l n2 F2 H2 p2 t2 S2 => ?_
  refine tOpt.go S2 ((fh env).mono (fun _ _ z => z) (fun _ _ z => exE.step (t1.trans t2) z) p2) fun u n3 F3 H3 p3 t3 S3 => ?_
  have t := (t1.trans t2).trans t3
  have r := (r1.grow t2.gr).grow t3.gr
  have sb := S3.sub
  have p3 : (gSl d l u).run n3 (okE X n F H Q) (exE X W n F H σ) := p3
  unfold gSl at p3
  split at p3
  · cases r with
    | lst e r => exact .inl ⟨_, _, rfl, SqL.of (sb _ _ e), fun p hp => p3 _ _ _ (t.trans (Step.new sb hp)) (Step.newLst sb hp (r.cut _ _))⟩
  · cases r with
    | tup e r =>
      refine .inr (.inl ⟨_, _, rfl, SqT.of (sb _ _ e), fun hw => ?_, fun _ p hp => p3 _ _ _ (t.trans (Step.new sb hp)) (Step.newTup sb hp (r.cut _ _))⟩)
      rw [r.length] at hw
      exact p3 _ F3 H3 t (by rw [cut_whole hw]; exact .tup e r)
  · cases r
    exact .inr (.inr ⟨_, rfl, p3.1, p3.2 _ F3 H3 t (.str _)⟩)
  · exact p3.elim
end
end DL

end
section
set_option Elab.async false
set_option linter.all false
set_option maxRecDepth 100000
set_option maxHeartbeats 4000000
/-! DStm: statements, loops, comprehensions. -/
namespace DL
open PySem PySem.Spec PyProof.Rows L2
variable [Tb]

/-! ### blocks -/
def sSkip : DStm := fun env => ret (.nx env)
def sSeq (s t : DStm) : DStm := fun env => bnd (s env) fun f => match f with
  | .nx e => t e
  | .rt d => ret (.rt d)
def sRet (f : DExp) : DStm := fun env => bnd (f env) fun d => ret (.rt d)
def sIf (c : DTst) (s t : DStm) : DStm := fun env => bnd (c env) fun b => if b = true then s env else t env
def sAsg (i : Nat) (f : DExp) : DStm := fun env => bnd (f env) fun d => ret (.nx (env.set i (.val d)))
def sDrop (f : DExp) : DStm := fun env => bnd (f env) fun _ => ret (.nx env)
section
variable {X : Cx} {W : WX} {k : Nat} {st : Stmt} {rest a b : List Stmt} {s t : DStm} {e c : Expr} {f : DExp} {tc : DTst} {pos : Pos} {n n1 m : Cn} {F H F1 H1 : Hp} {σ : L2.St} {B : Bs} {Ds : Ends}
theorem okS.step {fl : Fl} (t : Grow n F n1 F1) (h : okS X B n F Ds fl m) : okS X B n1 F1 Ds fl m := by
  cases fl with
  | nx env' => exact fun σ' F' H' g S => h σ' F' H' (t.trans g) S
  | rt d => exact h
theorem exS_of {env : En} {x : D} (S : SL X.K X.mg B n F H σ env) (h : exS X W B x m) : exE X W n F H σ x m := fun cls dx F' H' t r => h cls dx σ F' H' (S.st.trans t) r
theorem dss_nil : DSs X W [] sSkip := ⟨PSs.imp pss_nil fun D σ H ⟨B, n, F, env, S, h⟩ => h σ F H (Grow.refl _ _) S⟩
theorem dss_cons (h1 : DS X W st s) (h2 : DSs X W rest t) : DSs X W (st :: rest) (sSeq s t) := by
  refine ⟨PSs.imp (pss_cons h1.ps h2.pss) fun D σ H ⟨B, n, F, env, S, h⟩ => ⟨B, n, F, env, S, (s env).mono (fun fl m p => ?_) (fun _ _ z => z) h⟩⟩
  cases fl with
  | nx e => exact fun σ' F' H' g S' => ⟨B, m, F', e, S', (t e).mono (fun fl2 m2 p2 => okS.step g p2) (fun _ _ z => z) p⟩
  | rt d => exact p
theorem dss_one (h1 : DS X W st s) : DSs X W [st] s := ⟨PSs.imp (pss_one h1.ps) fun D σ H h => h⟩
theorem ds_ret (he : DE X W e f) : DS X W (.Return (some e) pos) (sRet f) := by
  refine ⟨PS.imp (ps_ret he.pe) fun D σ H ⟨B, n, F, env, S, h⟩ => ?_⟩
  exact ⟨B, n, F, env, S, (f env).mono (fun d m p v F' H' t r => p v F' H' (S.st.trans t) r) (fun x m z => exS_of S z) h⟩
theorem ds_if (hc : DT X W c tc) (ha : DSs X W a s) (hb : DSs X W b t) : DS X W (.If c a b pos) (sIf tc s t) := by
  refine ⟨PS.imp (ps_if hc.pt ha.pss hb.pss) fun D σ H ⟨B, n, F, env, S, h⟩ => ?_⟩
  refine tT.go S ((tc env).mono (fun _ _ z => z) (fun x m z => exS_of S z) h) fun d n1 F1 H1 p t1 S1 => ?_
  cases d with
  | true =>
    show tS X W s D σ H1
    exact ⟨B, n1, F1, env, S1, (s env).mono (fun fl m z => okS.step t1.gr z) (fun _ _ z => z) p⟩
  | false =>
    show tS X W t D σ H1
    exact ⟨B, n1, F1, env, S1, (t env).mono (fun fl m z => okS.step t1.gr z) (fun _ _ z => z) p⟩
theorem tAsg_of {i : Nat} : ∀ D σ H, tS X W (sAsg i f) D σ H → tAsg (tD X W f) (gName i) D σ H := fun D σ H ⟨B, n, F, env, S, h⟩ =>
  tD.go S ((f env).mono (fun _ _ z => z) (fun x m z => exS_of S z) h) fun d n1 v F1 H1 p t r S1 => p _ F1 H1 t.gr (S1.set i r)
theorem ds_asg (i : Nat) {x : Str} {px : Pos} (kx : Kx X W k) (he : DE X W e f) (hi : X.N[i]? = some x := by rfl) (hx : Loc X.env.scope x := by first | exact .inl rfl | exact .inr rfl) (hs : swapsWith e (some (.Name x px)) pos.line X.env = pure false := by rfl)
    (hf : X.fn x = true ∨ X.env.scope.names.lookup x = some .local := by first | exact .inl rfl | exact .inr rfl) : DS X W (.Assign [.Name x px] e pos) (sAsg i f) :=
  ⟨PS.imp (ps_set kx.nd hi hx he.pe hs hf) tAsg_of⟩
end

/-! ### targets -/
/-- what a target does with data; the slots that it may store at -/
def TgOk (X : Cx) (is : List Nat) (g : TG) (tg : D → En → Option En) : Prop := ∀ (B : Bs) (n : Cn) (F H : Hp) (σ : L2.St) (env env' : En) (v : V) (d : D) (Q : L2.St → Hp → Prop),
  SL X.K X.mg B n F H σ env → Rep X.K X.mg n F v d → tg d env = some env' → (∀ σ', SL X.K X.mg B n F H σ' env' → σ'.length = σ.length → (∀ i, i ∉ is → σ'[i]? = σ[i]?) → Q σ' H) → g v σ H Q
def TgsOk (X : Cx) (is : List Nat) (g : TGs) (tg : List D → En → Option En) : Prop := ∀ (B : Bs) (n : Cn) (F H : Hp) (σ : L2.St) (env env' : En) (vs : List V) (ds : List D) (Q : L2.St → Hp → Prop),
  SL X.K X.mg B n F H σ env → Reps X.K X.mg n F vs ds → tg ds env = some env' → (∀ σ', SL X.K X.mg B n F H σ' env' → σ'.length = σ.length → (∀ i, i ∉ is → σ'[i]? = σ[i]?) → Q σ' H) → g vs σ H Q
structure DG (X : Cx) (is : List Nat) (e : Expr) (tg : D → En → Option En) (g : TG) : Prop where
  pg : PG X e g
  ok : TgOk X is g tg
structure DGs (X : Cx) (is : List Nat) (es : List Expr) (tg : List D → En → Option En) (g : TGs) : Prop where
  pgs : PGs X es g
  ok : TgsOk X is g tg
def tgN (i : Nat) : D → En → Option En := fun d env => some (env.set i (.val d))
def tgsNil : List D → En → Option En := fun ds env => match ds with
  | [] => some env
  | _ => none
def tgsCons (t : D → En → Option En) (u : List D → En → Option En) : List D → En → Option En := fun ds env => match ds with
  | d :: r => (t d env).bind fun e => u r e
  | [] => none
def tgT (n : Nat) (u : List D → En → Option En) : D → En → Option En := fun d env => match d with
  | .tup l => if l.length = n then u l env else none
  | _ => none
section
variable {X : Cx} {e : Expr} {es : List Expr} {is js : List Nat} {g : TG} {gs : TGs}
theorem dg_name (i : Nat) {x : Str} {pos : Pos} (hN : X.N.Nodup) (hi : X.N[i]? = some x := by rfl) (hx : Loc X.env.scope x := by first | exact .inl rfl | exact .inr rfl) (hf : X.fn x = true ∨ X.env.scope.names.lookup x = some .local := by first | exact .inl rfl | exact .inr rfl) : DG X [i] (.Name x pos) (tgN i) (gName i) :=
  ⟨pg_name hN hi hx hf, fun B n F H σ env env' v d Q S r h q => by
    cases h
    exact q _ (S.set i r) (by simp) fun j hj => List.getElem?_set_ne fun e => hj (by simp [e])⟩
theorem dgs_nil : DGs X [] [] tgsNil gNil := ⟨pgs_nil, fun B n F H σ env env' vs ds Q S r h q => by
  unfold tgsNil at h
  split at h
  · cases h; cases r; exact ⟨rfl, q σ S rfl fun _ _ => rfl⟩
  · cases h⟩
theorem dgs_cons {t : D → En → Option En} {u : List D → En → Option En} (h1 : DG X is e t g) (h2 : DGs X js es u gs) (hs : (assignEach (e :: es) X.env).map (·.2) = assign e X.env :: (assignEach es X.env).map (·.2) := by rfl) : DGs X (is ++ js) (e :: es) (tgsCons t u) (gCons g gs) := by
  refine ⟨pgs_cons h1.pg h2.pgs hs, fun B n F H σ env env' vs ds Q S r h q => ?_⟩
  unfold tgsCons at h
  split at h
  · rename_i d r'
    cases r with
    | cons r1 r2 =>
      cases e1 : t d env with
      | none => rw [e1] at h; cases h
      | some env1 =>
        rw [e1] at h
        exact ⟨_, _, rfl, h1.ok B n F H σ env env1 _ d _ S r1 e1 fun σ1 S1 l1 a1 => h2.ok B n F H σ1 env1 env' _ r' Q S1 r2 h fun σ2 S2 l2 a2 => q σ2 S2 (l2.trans l1) fun i hi =>
          (a2 i fun z => hi (List.mem_append_right _ z)).trans (a1 i fun z => hi (List.mem_append_left _ z))⟩
  · cases h
theorem dg_tup {n : Nat} {j : Nat} {u : List D → En → Option En} {pos : Pos} (hc : X.calm = true) (h1 : DGs X is es u gs) (hn : (assignEach es X.env).length = n := by rfl) (hst : (assignEach es X.env).findIdx? (·.1) = none := by rfl) : DG X is (.Tuple es j pos) (tgT n u) (gTup X.K n gs) := by
  refine ⟨pg_tup hc h1.pgs hn hst, fun B m F H σ env env' v d Q S r h q => ?_⟩
  unfold tgT at h
  split at h
  · rename_i l
    by_cases hl : l.length = n
    · rw [if_pos hl] at h
      cases r with
      | tup e r => exact ⟨_, _, rfl, SqT.of (S.sub _ _ e), by rw [r.length]; exact hl, h1.ok B m F H σ env env' _ l Q S r h q⟩
    · rw [if_neg hl] at h; cases h
  · cases h
end
/-- a, b = e -/
def sUnp (tg : D → En → Option En) (f : DExp) : DStm := fun env => bnd (f env) fun d => match tg d env with
  | some env' => ret (.nx env')
  | none => stuck
section
variable {X : Cx} {W : WX} {k : Nat} {e tg : Expr} {f : DExp} {t : D → En → Option En} {pos : Pos}
end

/-! ### what a loop walks -/
def WalkD (X : Cx) (J : It) (n : Cn) (F : Hp) (ds : List D) : Prop := ∀ (i : Nat) (n2 : Cn) (F2 H2 : Hp), Grow n F n2 F2 → (∀ b o, F2 b = some o → H2 b = some o) →
  (∀ d, ds[i]? = some d → J.go i H2 ∧ ∀ x H3, J.yld i H2 x H3 → ∃ F3, Step n2 F2 H2 n2 F3 H3 ∧ Rep X.K X.mg n2 F3 x d) ∧ (i = ds.length → J.stop i H2)
abbrev DIt := En → M (List D)
def tI (X : Cx) (W : WX) (f : DIt) : TI := fun σ H R => ∃ (B : Bs) (n : Cn) (F : Hp) (env : En), SL X.K X.mg B n F H σ env ∧ (f env).run n (fun ds n' => ∀ J F' H', Step n F H n' F' H' → WalkD X J n' F' ds → R J H') (exE X W n F H σ)
structure DI (X : Cx) (W : WX) (tg iter : Expr) (f : DIt) : Prop where
  pi : PI X tg iter (tI X W f)
theorem PI.imp {X : Cx} {tg e : Expr} {t t' : TI} (h : PI X tg e t) (hi : ∀ σ H R, t' σ H R → t σ H R) : PI X tg e t' := ⟨fun pins s σ H R I q => h.run pins s σ H R I (hi σ H R q)⟩
def itemsOf : D → M (List D)
  | .lst l => ret l
  | .tup l => ret l
  | .str x => ret (x.cps.toList.map fun c => .str ⟨#[c]⟩)
  | _ => stuck
def iVal (f : DExp) : DIt := fun env => bnd (f env) itemsOf
def rangeD (lo : Int) (n : Nat) : List D := (List.range n).map fun (i : Nat) => D.int (lo + (i : Int))
def iRange1 (fa : DArg) : DIt := fun env => bnd (fa env) fun ds => match ds with
  | [.int j] => need (-(2 ^ 62) ≤ j ∧ j < 2 ^ 62) (ret (rangeD 0 j.toNat))
  | _ => stuck
def iRange2 (fa : DArg) : DIt := fun env => bnd (fa env) fun ds => match ds with
  | [.int i, .int j] => need (-(2 ^ 62) ≤ i ∧ i < 2 ^ 62 ∧ -(2 ^ 62) ≤ j ∧ j < 2 ^ 62) (ret (rangeD i (j - i).toNat))
  | _ => stuck
section
variable {X : Cx} {W : WX} {tg e : Expr} {es : List Expr} {f : DExp} {fa : DArg} {p pos : Pos}
theorem walk_list {n : Cn} {F : Hp} {a : Addr} {xs : List V} {ds : List D} (h : F a = some (.lst xs)) (r : Reps X.K X.mg n F xs ds) : WalkD X (Itl X.K a) n F ds := fun i n2 F2 H2 g s => by
  have h2 : H2 a = some (.lst xs) := s _ _ (g.obj _ _ h not_rng_lst)
  refine ⟨fun d hd => ?_, fun e => ⟨xs, SqL.of h2, by rw [r.length, e]; exact Nat.le_refl _⟩⟩
  obtain ⟨v, hv, rv⟩ := r.get hd
  refine ⟨⟨xs, v, SqL.of h2, hv⟩, fun x H3 y => ?_⟩
  obtain ⟨rfl, y⟩ := y
  have e := y xs (SqL.of h2)
  rw [hv] at e
  cases e
  exact ⟨F2, Step.refl s, rv.grow g⟩
theorem walk_tup {n : Cn} {F : Hp} {a : Addr} {xs : List V} {ds : List D} (h : F a = some (.tup xs)) (r : Reps X.K X.mg n F xs ds) : WalkD X (Itt X.K a) n F ds := fun i n2 F2 H2 g s => by
  have h2 : H2 a = some (.tup xs) := s _ _ (g.obj _ _ h not_rng_tup)
  refine ⟨fun d hd => ?_, fun e => ⟨xs, SqT.of h2, by rw [r.length, e]; exact Nat.le_refl _⟩⟩
  obtain ⟨v, hv, rv⟩ := r.get hd
  refine ⟨⟨xs, v, SqT.of h2, hv⟩, fun x H3 y => ?_⟩
  obtain ⟨rfl, y⟩ := y
  have e := y xs (SqT.of h2)
  rw [hv] at e
  cases e
  exact ⟨F2, Step.refl s, rv.grow g⟩
theorem walk_str {n : Cn} {F : Hp} (x : Str) : WalkD X (Its x) n F (x.cps.toList.map fun c => .str ⟨#[c]⟩) := fun i n2 F2 H2 g s => by
  refine ⟨fun d hd => ?_, fun e => ?_⟩
  · rw [List.getElem?_map] at hd
    cases e : x.cps.toList[i]? with
    | none => rw [e] at hd; cases hd
    | some c =>
      rw [e] at hd; cases hd
      have hi : i < x.cps.size := by simpa using (List.getElem?_eq_some_iff.mp e).1
      refine ⟨hi, fun v H3 y => ?_⟩
      obtain ⟨rfl, c', hc, rfl⟩ := y
      have : c' = c := by
        rw [Array.getElem?_toList] at e
        rw [hc] at e
        exact Option.some.inj e
      subst this
      exact ⟨F2, Step.refl s, .str _⟩
  · rw [List.length_map, Array.length_toList] at e
    exact Nat.le_of_eq e.symm
theorem rangeD_length (lo : Int) (n : Nat) : (rangeD lo n).length = n := by simp [rangeD]
theorem walk_range {n : Cn} {F : Hp} (lo : Int) (m : Nat) : WalkD X (Itr lo m) n F (rangeD lo m) := fun i n2 F2 H2 g s => by
  refine ⟨fun d hd => ?_, fun e => by rw [rangeD_length] at e; exact Nat.le_of_eq e.symm⟩
  have hi : i < m := by
    have := (List.getElem?_eq_some_iff.mp hd).1
    rwa [rangeD_length] at this
  unfold rangeD at hd
  rw [List.getElem?_map, List.getElem?_range hi] at hd
  cases hd
  refine ⟨hi, fun v H3 y => ?_⟩
  obtain ⟨rfl, rfl⟩ := y
  exact ⟨F2, Step.refl s, .int _⟩
/-- over a list, a tuple, a text -/
theorem di_val (he : DE X W e f) : DI X W tg e (iVal f) := by
  refine ⟨⟨fun pins s σ H R I h => ?_⟩⟩
  obtain ⟨B, n, F, env, S, h⟩ := h
  have hA : tD X W f σ H (fun v H1 => (∃ a xs, v = .ref a ∧ SqL X.K H1 a xs ∧ R (Itl X.K a) H1) ∨ (∃ a xs, v = .ref a ∧ SqT X.K H1 a xs ∧ R (Itt X.K a) H1) ∨ ∃ x, v = .str x ∧ R (Its x) H1) := tD.go S h fun d n1 v F1 H1 p t r S1 => by
    have p : (itemsOf d).run n1 (fun ds n' => ∀ J F' H', Step n F H n' F' H' → WalkD X J n' F' ds → R J H') (exE X W n F H σ) := p
    unfold itemsOf at p
    split at p
    · cases r with
      | lst e r => exact .inl ⟨_, _, rfl, SqL.of (S1.sub _ _ e), p _ F1 H1 t (walk_list e r)⟩
    · cases r with
      | tup e r => exact .inr (.inl ⟨_, _, rfl, SqT.of (S1.sub _ _ e), p _ F1 H1 t (walk_tup e r)⟩)
    · cases r
      exact .inr (.inr ⟨_, rfl, p _ F1 H1 t (walk_str _)⟩)
    · exact p.elim
  refine thn (he.pe.run pins s σ H _ I hA) fun u s1 ⟨v, H1, I1, r1, q1⟩ => ?_
  have fresh : ∀ b ∈ [s1.heap.objs.size], FpOk X pins H1 b := fun b hb => by
    rw [List.mem_singleton] at hb
    subst hb
    exact I1.fpOk (Nat.le_refl _) (I1.hok.fresh (Nat.le_refl _))
  rcases q1 with ⟨a, xs, rfl, hq, q⟩ | ⟨a, xs, rfl, hq, q⟩ | ⟨x, rfl, q⟩
  · cases r1
    obtain ⟨its, _, pl, _⟩ := I1.list hq
    exact wpAny_pyIter_list pl.isList ⟨_, [s1.heap.objs.size], _, _, H1, rfl, I1.kept (t' := s1.toks) fun b o z => Heap.get?_push_of_some _ z, turn_list a _, ⟨_, Heap.get?_push_size _ rfl, rfl, rfl⟩, fresh, q⟩
  · cases r1
    obtain ⟨its, _, pl, _⟩ := I1.tuple hq
    exact wpAny_pyIter_tuple (show s1.heap.IsTuple a its.toArray from pl) ⟨_, [s1.heap.objs.size], _, _, H1, rfl, I1.kept (t' := s1.toks) fun b o z => Heap.get?_push_of_some _ z, turn_tuple a _, ⟨_, Heap.get?_push_size _ rfl, rfl, rfl⟩, fresh, q⟩
  · obtain ⟨t, rfl⟩ := r1
    refine wpAny_pyIter_strU ?_
    refine ⟨_, [s1.heap.objs.size], _, _, H1, rfl, I1.kept (t' := s1.toks) fun b o z => Heap.get?_push_of_some _ z, turn_str _ x t (strIterType x) ?_, ⟨_, Heap.get?_push_size _ rfl, rfl, rfl⟩, fresh, q⟩
    unfold strIterType
    split
    · exact .inl rfl
    · exact .inr rfl
theorem di_range1 (hm : X.mg "range" = none) (ha : DA X W [e] fa) (hg : Gl X "range" := by rfl) (hs : starEach [e] X.env = [(false, eval e X.env)] := by rfl) : DI X W tg (.Call (.Name "range" p) [e] [] pos) (iRange1 fa) := by
  refine ⟨PI.imp (pi_range1 hg hm ha.pa hs) fun σ H R ⟨B, n, F, env, S, h⟩ => tA.go S h fun ds n1 vs F1 H1 p t r S1 => ?_⟩
  match ds, r, p with
  | [.int j], .cons (.int _) .nil, p => exact ⟨j, rfl, p.1.1, p.1.2, p.2 _ F1 H1 t (walk_range 0 _)⟩
end

/-! ### for -/
def loopD (tg : D → En → Option En) (b : DStm) : List D → En → M Fl
  | [], env => ret (.nx env)
  | d :: ds, env => match tg d env with
    | none => stuck
    | some e1 => bnd (b e1) fun f => match f with
      | .nx e2 => loopD tg b ds e2
      | .rt r => ret (.rt r)
def sFor (fi : DIt) (tg : D → En → Option En) (b : DStm) : DStm := fun env => bnd (fi env) fun ds => loopD tg b ds env
section
variable {X : Cx} {W : WX} {k : Nat} {tg iter : Expr} {bod : List Stmt} {fi : DIt} {t : D → En → Option En} {b : DStm} {pos : Pos}
theorem drop_cons {α : Type} {l : List α} {i : Nat} (h : i < l.length) : ∃ d, l[i]? = some d ∧ l.drop i = d :: l.drop (i + 1) := ⟨l[i], by simp [h], List.drop_eq_getElem_cons h⟩
theorem ds_for {is : List Nat} {g : TG} (kx : Kx X W k) (hi : DI X W tg iter fi) (hg : DG X is tg t g) (hb : DSs X W bod b) (hs : ∀ x, foldedSetIterable iter X.env x = pure x := by intro _; rfl) : DS X W (.For tg iter bod [] pos) (sFor fi t b) := by
  refine ⟨PS.imp (ps_for kx.hp kx.calm hi.pi hg.pg hb.pss hs) fun D σ H ⟨B, n, F, env, S, h⟩ => ?_⟩
  refine ⟨B, n, F, env, S, (fi env).mono (fun ds n1 p J F1 H1 t1 wk => ?_) (fun x m z => exS_of S z) h⟩
  refine ⟨fun i m σ' H' => m = ds.length - i ∧ i ≤ ds.length ∧ ∃ (n2 : Cn) (F2 : Hp) (env2 : En), SL X.K X.mg B n2 F2 H' σ' env2 ∧ Grow n1 F1 n2 F2 ∧ (loopD t b (ds.drop i) env2).run n2 (okS X B n F D) (exS X W B),
    ⟨ds.length, by simp, Nat.zero_le _, n1, F1, env, S.step t1, Grow.refl _ _, by rw [List.drop_zero]; exact p⟩, ?_⟩
  rintro i m σ2 H2 ⟨rfl, hle, n2, F2, env2, S2, g2, q2⟩
  by_cases hlt : i < ds.length
  · obtain ⟨d, hd, ed⟩ := drop_cons hlt
    rw [ed] at q2
    obtain ⟨hgo, hy⟩ := (wk i n2 F2 H2 g2 S2.sub).1 d hd
    refine .inr ⟨hgo, fun σ' H' => ∃ m', m' < ds.length - i ∧ m' = ds.length - (i + 1) ∧ i + 1 ≤ ds.length ∧ ∃ (n3 : Cn) (F3 : Hp) (env3 : En), SL X.K X.mg B n3 F3 H' σ' env3 ∧ Grow n1 F1 n3 F3 ∧ (loopD t b (ds.drop (i + 1)) env3).run n3 (okS X B n F D) (exS X W B),
      fun σ' H' ⟨m', l, e, le, z⟩ => ⟨m', l, e, le, z⟩, fun x H3 y => ?_⟩
    obtain ⟨F3, t3, r3⟩ := hy x H3 y
    have S3 := S2.step t3
    unfold loopD at q2
    cases e1 : t d env2 with
    | none => rw [e1] at q2; exact q2.elim
    | some env3 =>
      rw [e1] at q2
      refine hg.ok B n2 F3 H3 σ2 env2 env3 x d _ S3 r3 e1 fun σ3 S3' _ _ => ?_
      refine ⟨B, n2, F3, env3, S3', (b env3).mono (fun fl n4 p4 => ?_) (fun _ _ z => z) q2⟩
      cases fl with
      | nx env4 => exact fun σ4 F4 H4 g4 S4 => ⟨ds.length - (i + 1), by omega, rfl, hlt, n4, F4, env4, S4, (g2.trans t3.gr).trans g4, p4⟩
      | rt r => exact p4
  · have e : i = ds.length := by omega
    subst e
    rw [List.drop_length] at q2
    exact .inl ⟨(wk ds.length n2 F2 H2 g2 S2.sub).2 rfl, q2 σ2 F2 H2 (t1.gr.trans g2) S2⟩
end

/-! ### while -/
section
variable {X : Cx} {W : WX} {k : Nat} {c : Expr} {bod : List Stmt} {tc : DTst} {b : DStm} {pos : Pos}
end

/-! ### comprehensions -/
def noex {α : Type} (m : M α) : M α := ⟨fun n P _ => m.run n P fun _ _ => False, fun h _ q => m.mono h (fun _ _ z => z.elim) q⟩
/-- without exception, the store left as it is -/
def noexS {α : Type} (m : M α) : M α := ⟨fun n P _ => m.run n (fun a n' => n'.st = n.st ∧ P a n') fun _ _ => False, fun h _ q => m.mono (fun a _ z => ⟨z.1, h _ _ z.2⟩) (fun _ _ z => z.elim) q⟩
@[simp] theorem noexS_ret {α : Type} (a : α) : noexS (ret a) = ret a := M.ext fun n P E => ⟨fun q => q.2, fun q => ⟨rfl, q⟩⟩
def wipeE (env : En) : List Nat → En
  | [] => env
  | v :: vs => (wipeE env vs).set v .emp
def lcD (vs : List Nat) (tg : D → En → Option En) (c : DTst) (f : DExp) (env : En) : List D → M (List D)
  | [] => ret []
  | d :: ds => match tg d (wipeE env vs) with
    | none => stuck
    | some e1 => bnd (noex (c e1)) fun v => if v = true then bnd (noex (f e1)) fun x => bnd (lcD vs tg c f env ds) fun xs => ret (x :: xs) else lcD vs tg c f env ds
def dLc (fi : DIt) (vs : List Nat) (tg : D → En → Option En) (c : DTst) (f : DExp) : DExp := fun env => bnd (fi env) fun ds => need (ds.length ≤ sizeLine) (bnd (lcD vs tg c f env ds) fun xs => ret (.lst xs))
def cYes : DTst := fun _ => ret true
structure DTs (X : Cx) (W : WX) (es : List Expr) (f : DTst) : Prop where
  pts : PTs X es (tT X W f)
abbrev W0 : WX := fun _ _ _ _ => False
section
variable {K : PySem.W.Frag} {mg : Str → Option Value} {B : Bs} {n n' : Cn} {F H F' H' : Hp} {σ : L2.St} {env : En}
theorem Step.free {n n' : Cn} {F H F' H' : Hp} (t : Step n F H n' F' H') {p : Addr} (h : H' p = none) : H p = none := t.live p h
theorem Sto.up {K : PySem.W.Frag} {mg : Str → Option Value} {n : Cn} {F H : Hp} {p : Addr} {o : HO} (s : Sto K mg n F H) (h : ¬ n.has p) : Sto K mg n F (upd H p o) :=
  s.go (Grow.refl _ _) rfl fun a ha hf => ⟨hf, upd_ne (ne_has ha h)⟩
theorem Sto.frz {K : PySem.W.Frag} {mg : Str → Option Value} {n : Cn} {F H : Hp} {p : Addr} {o : HO} (s : Sto K mg n F H) (h : Out n F p) : Sto K mg n (upd F p o) H :=
  s.go (Grow.new h.1) rfl fun a ha hf => ⟨by rw [upd_ne (ne_has ha h.2)]; exact hf, rfl⟩
theorem Out.upd {n : Cn} {F : Hp} {p b : Addr} {o : HO} (h : Out n F b) (hb : b ≠ p) : Out n (upd F p o) b := ⟨by rw [upd_ne hb]; exact h.1, h.2⟩
theorem Step.beside {n n' : Cn} {F H F' H' : Hp} (t : Step n F H n' F' H') {p : Addr} {o : HO} (h : H p = none) (hf : Out n' F' p) : Step n F H n' F' (upd H' p o) :=
  ⟨t.gr, fun b u e => by rw [upd_ne (ne_of_none e hf.1)]; exact t.sub b u e, fun b u e z => by rw [upd_ne (ne_of_none e h)]; exact t.keep b u e z, fun K mg w => (t.sto K mg w).up hf.2, fun b e => by
    by_cases hb : b = p
    · subst hb; exact h
    · rw [upd_ne hb] at e; exact t.live b e, fun K mg w i e h1 h2 => by
    rw [upd_ne (ne_has (Cn.has_at h1) (w.free h))]; exact t.stay K mg w i e h1 h2⟩
theorem Step.freeze {n n' : Cn} {F H F' H' : Hp} (t : Step n F H n' F' H') {p : Addr} {o : HO} (h : H p = none) (hf : Out n' F' p) (ho : H' p = some o) : Step n F H n' (upd F' p o) H' :=
  ⟨t.gr.trans (Grow.new hf.1), fun b u e => by
    by_cases hb : b = p
    · subst hb; rw [upd_same] at e; rw [← e]; exact ho
    · rw [upd_ne hb] at e; exact t.sub b u e, fun b u e z => let ⟨h1, h2⟩ := t.keep b u e z; ⟨h1, h2.upd (ne_of_none e h)⟩, fun K mg w => (t.sto K mg w).frz hf, t.live, t.stay⟩
/-- an object ahead of it does not matter -/
theorem Step.unup {n n' : Cn} {F H F' H' : Hp} {p : Addr} {o : HO} (h : H p = none) (t : Step n F (L2.upd H p o) n' F' H') : Step n F H n' F' H' :=
  ⟨t.gr, t.sub, fun b u e z => t.keep b u (by rw [upd_ne (ne_of_none e h)]; exact e) z, fun K mg w => t.sto K mg (w.up (w.free h)), fun b e => by
    have q := t.live b e
    by_cases hb : b = p
    · subst hb; exact h
    · rw [upd_ne hb] at q; exact q, fun K mg w i e h1 h2 => (t.stay K mg (w.up (w.free h)) i e h1 h2).trans (upd_ne (ne_has (Cn.has_at h1) (w.free h)))⟩
/-- an object beside what is frozen and owned is written -/
theorem SL.beside (S : SL K mg B n F H σ env) {p : Addr} {o : HO} (hF : Out n F p) (hB : B.H p = none) (ho : ∀ (i : Nat) (l : Slot), env[i]? = some l → IsOwn l → σ[i]? ≠ some (some (V.ref p))) : SL K mg B n F (upd H p o) σ env := by
  refine ⟨S.st.beside hB hF, S.len, fun i s h => ?_, S.ne, S.tb, S.so.up hF.2⟩
  · have q := S.slot i s h
    cases s with
    | emp => trivial
    | val d => exact q
    | own l =>
      obtain ⟨a, xs, e, f, b, h1, r⟩ := q
      refine ⟨a, xs, e, f, b, ?_, r⟩
      rw [upd_ne fun z => ho i _ h trivial (by rw [e, z])]
      exact h1
    | ownK l =>
      obtain ⟨a, xs, e, f, b, h1, r⟩ := q
      refine ⟨a, xs, e, f, b, ?_, r⟩
      rw [upd_ne fun z => ho i _ h trivial (by rw [e, z])]
      exact h1
theorem wipe_get (σ : L2.St) : ∀ (vs : List Nat) (i : Nat), (wipe σ vs)[i]? = if i ∈ vs then (σ[i]?).map (fun _ => none) else σ[i]?
  | [], i => by simp [wipe]
  | v :: vs, i => by
    unfold wipe
    by_cases h : v = i
    · subst h
      rw [if_pos (List.mem_cons_self), List.getElem?_set]
      simp only [wipe_length, if_true]
      by_cases hl : v < σ.length
      · simp [hl]
      · simp [hl]
    · rw [List.getElem?_set_ne h, wipe_get σ vs i]
      have : (i ∈ v :: vs) ↔ i ∈ vs := by simp [Ne.symm h]
      simp only [this]
theorem wipeE_get (env : En) : ∀ (vs : List Nat) (i : Nat), (wipeE env vs)[i]? = if i ∈ vs then (env[i]?).map (fun _ => Slot.emp) else env[i]?
  | [], i => by simp [wipeE]
  | v :: vs, i => by
    have hl : ∀ (vs : List Nat), (wipeE env vs).length = env.length := fun vs => by
      induction vs with
      | nil => rfl
      | cons v vs ih => unfold wipeE; rw [List.length_set, ih]
    unfold wipeE
    by_cases h : v = i
    · subst h
      rw [if_pos (List.mem_cons_self), List.getElem?_set]
      simp only [hl, if_true]
      by_cases hz : v < env.length
      · simp [hz]
      · simp [hz]
    · rw [List.getElem?_set_ne h, wipeE_get env vs i]
      have : (i ∈ v :: vs) ↔ i ∈ vs := by simp [Ne.symm h]
      simp only [this]
theorem wipeE_length (env : En) : ∀ vs : List Nat, (wipeE env vs).length = env.length
  | [] => rfl
  | v :: vs => by unfold wipeE; rw [List.length_set, wipeE_length env vs]
theorem SL.wipe (S : SL K mg B n F H σ env) (vs : List Nat) : SL K mg B n F H (L2.wipe σ vs) (wipeE env vs) := by
  have sl : ∀ i s, (wipeE env vs)[i]? = some s → IsOwn s → env[i]? = some s ∧ (L2.wipe σ vs)[i]? = σ[i]? := fun i s h o => by
    rw [wipeE_get] at h
    by_cases hi : i ∈ vs
    · rw [if_pos hi] at h
      cases e : env[i]? with
      | none => rw [e] at h; cases h
      | some t => rw [e] at h; cases h; exact o.elim
    · rw [if_neg hi] at h
      exact ⟨h, by rw [wipe_get, if_neg hi]⟩
  refine ⟨S.st, by rw [wipe_length, wipeE_length]; exact S.len, fun i s h => ?_, fun i j s t hs ht os ot hij => ?_, S.tb, S.so⟩
  · rw [wipeE_get] at h
    by_cases hi : i ∈ vs
    · rw [if_pos hi] at h
      cases e : env[i]? with
      | none => rw [e] at h; cases h
      | some t => rw [e] at h; cases h; trivial
    · rw [if_neg hi] at h
      rw [wipe_get, if_neg hi]
      exact S.slot i s h
  · obtain ⟨h1, h2⟩ := sl i s hs os
    obtain ⟨h3, h4⟩ := sl j t ht ot
    rw [h2, h4]
    exact S.ne i j s t h1 h3 os ot hij
end
section
variable {X : Cx} {W : WX} {k : Nat}
theorem Kx.blk (kx : Kx X W k) {s : Shared} {H : Hp} {scope : Scope} {ce : PySem.Env} {fp : List Addr} : Kx (X.blk s H scope ce fp) W0 k := ⟨takes0, PassesOwn.never, kx.rm, kx.calm, kx.nd⟩
variable {elt tg iter : Expr} {ifs : List Expr} {scope : Scope} {own : List (Str × Nat)} {pos : Pos} {fi : DIt} {t : D → En → Option En} {c : DTst} {f : DExp}
theorem dts_nil : DTs X W [] cYes := ⟨⟨fun pins s σ H Q I ⟨B, n, F, env, S, h⟩ => pts_nil.run pins s σ H Q I (h F H (Step.refl S.sub))⟩⟩
theorem dts_one {e : Expr} (h : DT X W e c) : DTs X W [e] c := ⟨⟨fun pins s σ H Q I q => (pts_one h.pt).run pins s σ H Q I q⟩⟩
/-- a slot list's own names forgotten again -/
theorem wipe_again {σ σ' : L2.St} {vs is : List Nat} (hl : σ'.length = (L2.wipe σ vs).length) (ha : ∀ i, i ∉ is → σ'[i]? = (L2.wipe σ vs)[i]?) (hs : ∀ i ∈ is, i ∈ vs) : L2.wipe σ' vs = L2.wipe σ vs := by
  apply List.ext_getElem?
  intro i
  rw [wipe_get, wipe_get]
  rw [wipe_length] at hl
  by_cases hi : i ∈ vs
  · rw [if_pos hi, if_pos hi]
    by_cases hz : i < σ.length
    · rw [List.getElem?_eq_getElem (by rw [hl]; exact hz), List.getElem?_eq_getElem hz]; rfl
    · rw [List.getElem?_eq_none (by rw [hl]; omega), List.getElem?_eq_none (by omega)]
  · rw [if_neg hi, if_neg hi, ha i fun z => hi (hs i z), wipe_get, if_neg hi]
/-- the reading of a comprehension -/
theorem tLc_of {g : TG} {is vs : List Nat} (hg : TgOk X is g t) (his : ∀ i ∈ is, i ∈ vs) : ∀ σ H Q, tD X W (dLc fi vs t c f) σ H Q → tLc (tI X W fi) g (tT X W0 c) (tD X W0 f) vs σ H Q := by
  rintro σ H Q ⟨B, n, F, env, S, h⟩
  refine ⟨B, n, F, env, S, (fi env).mono (fun ds n1 p J F1 H1 t1 wk Dl hD => ?_) (fun _ _ z => z) h⟩
  obtain ⟨hz, p⟩ := p
  have hH : H Dl = none := t1.free hD
  have hF1 : Out n1 F1 Dl := (S.step t1).out hD
  refine ⟨fun i m H' => m = ds.length - i ∧ i ≤ ds.length ∧ ∃ (n2 : Cn) (F2 : Hp) (acc : List V) (ac : List D), Step n F H n2 F2 H' ∧ Grow n1 F1 n2 F2 ∧ H' Dl = some (.lst acc) ∧ Out n2 F2 Dl ∧ Reps X.K X.mg n2 F2 acc ac ∧ acc.length ≤ i ∧
    (lcD vs t c f env (ds.drop i)).run n2 (fun xs n3 => okE X n F H Q (.lst (ac ++ xs)) n3) (exE X W n F H σ), ⟨ds.length, by simp, Nat.zero_le _, n1, F1, [], [], t1.beside hH hF1, Grow.refl _ _, upd_same, hF1, .nil, Nat.le_refl _, ?_⟩, ?_⟩
  · rw [List.drop_zero]
    exact p
  rintro i m H2 ⟨rfl, hle, n2, F2, acc, ac, st2, g2, hD2, hF2, ra, hal, q2⟩
  by_cases hlt : i < ds.length
  · obtain ⟨d, hd, ed⟩ := drop_cons hlt
    rw [ed] at q2
    obtain ⟨hgo, hy⟩ := (wk i n2 F2 H2 g2 st2.sub).1 d hd
    refine .inr ⟨hgo, fun H' => ∃ m', m' < ds.length - i ∧ m' = ds.length - (i + 1) ∧ i + 1 ≤ ds.length ∧ ∃ (n2 : Cn) (F2 : Hp) (acc : List V) (ac : List D), Step n F H n2 F2 H' ∧ Grow n1 F1 n2 F2 ∧ H' Dl = some (.lst acc) ∧ Out n2 F2 Dl ∧ Reps X.K X.mg n2 F2 acc ac ∧ acc.length ≤ i + 1 ∧
      (lcD vs t c f env (ds.drop (i + 1))).run n2 (fun xs n3 => okE X n F H Q (.lst (ac ++ xs)) n3) (exE X W n F H σ), fun H' ⟨m', l, e, le, z⟩ => ⟨m', l, e, le, z⟩, fun x H3 y => ?_⟩
    obtain ⟨F3, t3, r3⟩ := hy x H3 y
    have S3 := (S.step (st2.trans t3)).wipe vs
    unfold lcD at q2
    cases e1 : t d (wipeE env vs) with
    | none => rw [e1] at q2; exact q2.elim
    | some env3 =>
      rw [e1] at q2
      refine hg B n2 F3 H3 _ _ env3 x d _ S3 r3 e1 fun σ3 S3' hl3 ha3 => ⟨wipe_again hl3 ha3 his, ?_⟩
      refine tT.go S3' ((c env3).mono (fun _ _ z => z) (fun _ _ z => z.elim) q2) fun v n4 F4 H4 p4 t4 S4 => ?_
      have t24 := t3.trans t4
      cases v with
      | true =>
        show tD X W0 f σ3 H4 _
        refine tD.go S4 ((f env3).mono (fun _ _ z => z) (fun _ _ z => z.elim) p4) fun d5 n5 y5 F5 H5 p5 t5 r5 S5 => ?_
        have t25 := t24.trans t5
        obtain ⟨hD5, hF5⟩ := t25.keep Dl _ hD2 hF2
        refine ⟨acc, hD5, by omega, ds.length - (i + 1), by omega, rfl, hlt, n5, F5, acc ++ [y5], ac ++ [d5], (st2.trans t25).beside hH hF5, g2.trans t25.gr, upd_same, hF5, (ra.grow t25.gr).append (.one r5), by simp; omega, ?_⟩
        refine (lcD vs t c f env _).mono (fun xs n6 z => ?_) (fun _ _ z => z) p5
        rw [List.append_assoc]
        exact z
      | false =>
        obtain ⟨hD4, hF4⟩ := t24.keep Dl _ hD2 hF2
        exact ⟨ds.length - (i + 1), by omega, rfl, hlt, n4, F4, acc, ac, st2.trans t24, g2.trans t24.gr, hD4, hF4, ra.grow t24.gr, by omega, p4⟩
  · have e : i = ds.length := by omega
    subst e
    rw [List.drop_length] at q2
    refine .inl ⟨(wk ds.length n2 F2 H2 g2 st2.sub).2 rfl, ?_⟩
    have q3 : okE X n F H Q (.lst (ac ++ [])) n2 := q2
    rw [List.append_nil] at q3
    exact q3 _ _ H2 (st2.freeze hH hF2 hD2) (.lst upd_same (ra.grow (Grow.new hF2.1)))
/-- [elt for .. in .. if ..] as a value -/
theorem de_lc (kx : Kx X W k) {own : List (Str × Nat)} {is : List Nat} {g : TG} (hi : DI X W tg iter fi) (ok : BlkOk X.N X.env.scope scope own)
    (hg : ∀ (s : Shared) (H : Hp) (C : Addr) (cl : List (Str × Addr)) (fp : List Addr), DG (X.blk s H scope (compEnvC scope cl C X.env) fp) is tg t g)
    (ht : ∀ (s : Shared) (H : Hp) (C : Addr) (cl : List (Str × Addr)) (fp : List Addr), DTs (X.blk s H scope (compEnvC scope cl C X.env) fp) W0 ifs c)
    (he : ∀ (s : Shared) (H : Hp) (C : Addr) (cl : List (Str × Addr)) (fp : List Addr), DE (X.blk s H scope (compEnvC scope cl C X.env) fp) W0 elt f)
    (his : ∀ i ∈ is, i ∈ own.map (·.2) := by decide) (hs : ∀ x, foldedSetIterable iter X.env x = pure x := by intro _; rfl) : DE X W (.ListComp elt [⟨tg, iter, ifs, 0⟩] scope pos) (dLc fi (own.map (·.2)) t c f) :=
  ⟨⟨fun pins s σ H Q I q => (pe_lc kx.calm kx.nd hi.pi ok (fun s H C cl fp => (hg s H C cl fp).pg) (fun s H C cl fp => (ht s H C cl fp).pts) (fun s H C cl fp => (he s H C cl fp).pe) hs).run pins s σ H Q I
    (tLc_of (hg s H 0 [] []).ok his σ H Q q)⟩⟩
/-- name = [..] -/
theorem ds_setLc (kx : Kx X W k) (i : Nat) {y : Str} {py spos : Pos} {own : List (Str × Nat)} {is : List Nat} {g : TG} (hi : DI X W tg iter fi) (ok : BlkOk X.N X.env.scope scope own)
    (hg : ∀ (s : Shared) (H : Hp) (C : Addr) (cl : List (Str × Addr)) (fp : List Addr), DG (X.blk s H scope (compEnvC scope cl C X.env) fp) is tg t g)
    (ht : ∀ (s : Shared) (H : Hp) (C : Addr) (cl : List (Str × Addr)) (fp : List Addr), DTs (X.blk s H scope (compEnvC scope cl C X.env) fp) W0 ifs c)
    (he : ∀ (s : Shared) (H : Hp) (C : Addr) (cl : List (Str × Addr)) (fp : List Addr), DE (X.blk s H scope (compEnvC scope cl C X.env) fp) W0 elt f)
    (his : ∀ i ∈ is, i ∈ own.map (·.2) := by decide) (hy : X.N[i]? = some y := by rfl) (hyl : X.env.scope.names.lookup y = some .local := by rfl)
    (hsw : swapsWith (.ListComp elt [⟨tg, iter, ifs, 0⟩] scope pos) (some (.Name y py)) spos.line X.env = pure true := by exact sw_true rfl rfl rfl (by decide +kernel))
    (hs : ∀ x, foldedSetIterable iter X.env x = pure x := by intro _; rfl) : DS X W (.Assign [.Name y py] (.ListComp elt [⟨tg, iter, ifs, 0⟩] scope pos) spos) (sAsg i (dLc fi (own.map (·.2)) t c f)) := by
  refine ⟨⟨fun pins s σ H D I q => (ps_setLc (te := tD X W0 f) (tt := tT X W0 c) kx.calm kx.nd hy hyl hsw hi.pi ok (fun s H C cl fp => (hg s H C cl fp).pg) (fun s H C cl fp => (ht s H C cl fp).pts) (fun s H C cl fp => (he s H C cl fp).pe) hs).run pins s σ H D I ?_⟩⟩
  exact tLc_of (hg s H 0 [] []).ok his σ H _ (tAsg_of D σ H q)
end
end DL

end
section
set_option Elab.async false
set_option linter.all false
set_option maxRecDepth 100000
set_option maxHeartbeats 4000000
/-! DIter: enumerate and zip over lists, tuples, texts. -/
namespace DL
open PySem PySem.Spec PyProof.Rows L2
variable [Tb]

/-- what is drawn from: a list, a tuple, a text -/
inductive So where
  | l (a : Addr) | t (a : Addr) | s (x : Str) (tk : Tok)
def So.val : So → Value
  | .l a => .ref a
  | .t a => .ref a
  | .s x tk => .str x tk
def So.has (H : Hp) : So → List V → Prop
  | .l a, xs => H a = some (.lst xs)
  | .t a, xs => H a = some (.tup xs)
  | .s x _, xs => xs = x.cps.toList.map fun c => V.str ⟨#[c]⟩
/-- its iterator's object at the start -/
def So.obj : So → Obj
  | .l a => { cls := .type "list_iterator", data := .fields #[.ref a, .int 0 0] }
  | .t a => { cls := .type "tuple_iterator", data := .fields #[.ref a, .int 0 0] }
  | .s x tk => { cls := .type (strIterType x), data := .fields #[.str x tk, .int 0 0] }
/-- its iterator at it, behind i items -/
def So.at_ (it : Addr) : So → Nat → Heap → Prop
  | .l a, i, h => h.IsListIter it a i
  | .t a, i, h => h.IsTupleIter it a i
  | .s x tk, i, h => h.IsStrIter it (strIterType x) x tk i
/-- what a draw leans on -/
def So.fp (it : Addr) : So → List Addr
  | .l a => [it, a]
  | .t a => [it, a]
  | .s _ _ => [it]
theorem So.inj {H : Hp} {o : So} {xs ys : List V} (h1 : o.has H xs) (h2 : o.has H ys) : xs = ys := by
  cases o with
  | l a => have h1 : H a = _ := h1; have h2 : H a = _ := h2; rw [h1] at h2; cases h2; rfl
  | t a => have h1 : H a = _ := h1; have h2 : H a = _ := h2; rw [h1] at h2; cases h2; rfl
  | s x t => exact (show xs = _ from h1).trans (show ys = _ from h2).symm
theorem So.begin {it : Addr} {o : So} {h : Heap} (e : h.get? it = some o.obj) : o.at_ it 0 h := by
  cases o with
  | l a => exact ⟨_, e, rfl, rfl⟩
  | t a => exact ⟨_, e, rfl, rfl⟩
  | s x t => exact ⟨_, e, rfl, rfl⟩
theorem So.stay {it : Addr} {o : So} {i : Nat} {h h' : Heap} (st : o.at_ it i h) (k : ∀ ob, h.get? it = some ob → h'.get? it = some ob) : o.at_ it i h' := by
  cases o with
  | l a => exact Heap.IsListIter.at st k
  | t a => exact Heap.IsTupleIter.at st k
  | s x t => obtain ⟨ob, e, r⟩ := st; exact ⟨ob, k ob e, r⟩
theorem So.live {it : Addr} {o : So} {i : Nat} {h : Heap} (st : o.at_ it i h) : ∃ ob, h.get? it = some ob ∧ ∀ v, ob.data ≠ .cell v := by
  cases o with
  | l a => obtain ⟨ob, e, _, d⟩ := st; exact ⟨ob, e, fun v q => by rw [d] at q; cases q⟩
  | t a => obtain ⟨ob, e, _, d⟩ := st; exact ⟨ob, e, fun v q => by rw [d] at q; cases q⟩
  | s x t => obtain ⟨ob, e, _, d⟩ := st; exact ⟨ob, e, fun v q => by rw [d] at q; cases q⟩
section
variable {X : Cx} {pins : List (Addr × Obj)} {σ : L2.St} {H : Hp} {s : Shared}
/-- the draws of a source that H tells of -/
theorem So.draws (I : Inv X pins σ H s) (A : Around) (hh : A.handled = none) (o : So) (it : Addr) (hit : H it = none) {xs : List V} (hx : o.has H xs) :
    ∃ (St : Nat → Heap → Prop), Draws X.prog X.w A it (o.fp it) xs.length (fun i v => ∃ x, xs[i]? = some x ∧ RelV x v) St ∧ (∀ i, o.at_ it i s.heap → St i s.heap) ∧ (∀ i h, St i h → o.at_ it i h) := by
  cases o with
  | l a =>
    obtain ⟨_, its, n, r, e⟩ := I.hok a _ hx
    have hl : s.heap.IsList a its.toArray := ⟨_, e, rfl, n, rfl⟩
    have ne : a ≠ it := fun z => by
      have hx' : H a = _ := hx
      rw [z, hit] at hx'; cases hx'
    have D := Draws.list (prog := X.prog) (w := X.w) (A := A) hh it a ne its.toArray
    have hz : its.toArray.size = xs.length := by rw [List.size_toArray, r.length]
    rw [hz] at D
    refine ⟨_, ⟨D.live, D.frame, fun i t Q E hi st hQ => D.item i t Q E hi st fun v h' tk hP => hQ v h' tk ?_, D.done⟩, fun i st => ⟨st, hl⟩, fun i h st => st.1⟩
    obtain ⟨x, hx1, rx⟩ : ∃ x, xs[i]? = some x ∧ RelV x v := by
      have hP : its.toArray[i]? = some v := hP
      have hi2 : i < xs.length := hi
      obtain ⟨u, hu, ru⟩ := r.get (i := i) (x := xs[i]) (by simp [hi2])
      refine ⟨xs[i], by simp [hi2], ?_⟩
      rw [List.getElem?_toArray] at hP
      rw [hu] at hP; cases hP; exact ru
    exact ⟨x, hx1, rx⟩
  | t a =>
    obtain ⟨_, its, r, p⟩ := I.hok a _ hx
    have hl : s.heap.IsTuple a its.toArray := p
    have ne : a ≠ it := fun z => by
      have hx' : H a = _ := hx
      rw [z, hit] at hx'; cases hx'
    have D := Draws.tuple (prog := X.prog) (w := X.w) (A := A) hh it a ne its.toArray
    have hz : its.toArray.size = xs.length := by rw [List.size_toArray, r.length]
    rw [hz] at D
    refine ⟨_, ⟨D.live, D.frame, fun i t Q E hi st hQ => D.item i t Q E hi st fun v h' tk hP => hQ v h' tk ?_, D.done⟩, fun i st => ⟨st, hl⟩, fun i h st => st.1⟩
    have hP : its.toArray[i]? = some v := hP
    have hi2 : i < xs.length := hi
    obtain ⟨u, hu, ru⟩ := r.get (i := i) (x := xs[i]) (by simp [hi2])
    refine ⟨xs[i], by simp [hi2], ?_⟩
    rw [List.getElem?_toArray] at hP
    rw [hu] at hP; cases hP; exact ru
  | s x tk =>
    have D := Draws.text (prog := X.prog) (w := X.w) (A := A) hh it x tk
    have hx : xs = _ := hx
    have hz : x.cps.size = xs.length := by rw [hx]; simp
    rw [hz] at D
    refine ⟨_, ⟨D.live, D.frame, fun i t Q E hi st hQ => D.item i t Q E hi st fun v h' tk hP => hQ v h' tk ?_, D.done⟩, fun i st => st, fun i h st => st⟩
    obtain ⟨c, u, hc, rfl⟩ := hP
    refine ⟨.str ⟨#[c]⟩, ?_, u, rfl⟩
    rw [hx, List.getElem?_map, Array.getElem?_toList, hc]; rfl
end

/-! ### enumerate -/
theorem meets_enum1 {v : Value} {o : Obj} {Hq : Heap → Prop} (B : Begins v o Hq) :
    Meets (Builtin.«enumerate.__new__» ⟨[.type "enumerate", v], []⟩) (fun _ R s => Hq s.heap ∧
      R (.ok (.ret (.ref (s.heap.push o).objs.size))) { s with heap := (s.heap.push o).push { cls := .type "enumerate", data := .fields #[.none, .bool false, .ref s.heap.objs.size, rawInt 0, .none, .none] } }) :=
  .of_wp fun prog w A R s h => by
    obtain ⟨h0, gs, dr, tk, os⟩ := s
    obtain ⟨hq, hr⟩ := h
    have hsub := sub_enumerate
    have it1 : ∀ {A' : Around} {E : Value → Shared → Prop} {Q : Value → Shared → Prop}, Q (.ref h0.objs.size) ⟨h0.push o, gs, dr, tk, os⟩ → wpAny (model prog w) A' (pyIter v) Q E ⟨h0, gs, dr, tk, os⟩ :=
      fun z => B.iter prog w _ _ ⟨h0, gs, dr, tk, os⟩ _ hq z
    wp_walk using it1
    refine wpAny_stack_any fun st => wpAny_pure ?_
    split
    · rename_i c _ _ _ _ _
      cases (c == Value.type "enumerate") <;> (wp_walk using it1; exact ⟨_, rfl, hr⟩)
    · wp_walk using it1
      exact ⟨_, rfl, hr⟩
section
variable {prog : Program} {w : World} {A : Around} {E : Value → Shared → Prop} {s : Shared}
theorem enum_begins1 {v : Value} {o : Obj} {Hq : Heap → Prop} {Q : Value → Shared → Prop} (B : Begins v o Hq) (h1 : Hq s.heap)
    (h : ∀ h', IsEnum h' (s.heap.objs.size + 1) s.heap.objs.size 0 .none → h'.get? s.heap.objs.size = some o → (∀ b u, s.heap.get? b = some u → h'.get? b = some u) → Q (.ref (s.heap.objs.size + 1)) { s with heap := h' }) :
    wpAny (model prog w) A (PySem.call (.type "enumerate") [v]) Q E s := by
  refine callType_new F.called_enumerate (by decide) (F.typeCall_enumerate_1 _) (F.newCall_enumerate_1 _) (fun obj => F.args_object_init_2 obj _) F.entry_enumerate_new (meets_enum1 B) ⟨h1, ?_⟩
  have sz : (s.heap.push o).objs.size = s.heap.objs.size + 1 := Heap.size_push ..
  show _ ∧ _
  rw [sz]
  have en : IsEnum ((s.heap.push o).push { cls := .type "enumerate", data := .fields #[.none, .bool false, .ref s.heap.objs.size, rawInt 0, .none, .none] }) (s.heap.objs.size + 1) s.heap.objs.size 0 .none := by
    have z := Heap.get?_push_size (s.heap.push o) (o := { cls := .type "enumerate", data := .fields #[.none, .bool false, .ref s.heap.objs.size, rawInt 0, .none, .none] }) rfl
    rw [sz] at z
    exact z
  exact ⟨⟨_, en, rfl⟩, h _ en (Heap.get?_push_of_some _ (Heap.get?_push_size _ B.free)) fun b u x => Heap.get?_push_of_some _ (Heap.get?_push_of_some _ x)⟩
end
def ItEn (o : So) : It :=
  ⟨fun i H => ∃ (xs : List V) (x : V), o.has H xs ∧ xs[i]? = some x, fun i H v H' => ∃ T x, v = .ref T ∧ H T = none ∧ H' = upd H T (.tup [.int (i : Nat), x]) ∧ ∀ xs, o.has H xs → xs[i]? = some x, fun i H => ∃ xs : List V, o.has H xs ∧ i = xs.length⟩
theorem turn_en {P : Program} {w : World} {K : PySem.W.Frag} {elts : List Expr} {kk : Nat} {tpos : Pos} (o : So) (e it : Addr) :
    Turn P w K (.Tuple elts kk tpos) (ItEn o) [e, it] e (fun i h => (∃ old, IsEnum h e it ((0 : Int) + (i : Int)) old) ∧ o.at_ it i h ∧ e ≠ it) where
  mem := by simp
  obj := fun i h st b hb => by
    obtain ⟨⟨old, he⟩, hi, _⟩ := st
    rcases List.mem_cons.mp hb with z | z
    · subst z; exact ⟨_, he, fun v q => nomatch q⟩
    · rw [List.mem_singleton.mp z]; exact So.live hi
  keep := fun i h h' st k => let ⟨⟨old, he⟩, hi, hne⟩ := st; ⟨⟨old, k e (by simp) _ he⟩, So.stay hi fun ob q => k it (by simp) ob q, hne⟩
  item := by
    rintro X rfl rfl rfl hc i pins s σ H E I hf ⟨⟨old, he⟩, hit, hne⟩ ⟨xs, x, hq, hx⟩
    obtain ⟨f0, _⟩ := hf it (by simp)
    obtain ⟨fe, _⟩ := hf e (by simp)
    obtain ⟨St, D, hS, hS'⟩ := So.draws I X.A.in1 (I.ok.hd hc) o it f0 hq
    have hefp : e ∉ o.fp it := fun z => by
      cases o with
      | l a => rcases List.mem_cons.mp z with z | z; exact hne z; rw [List.mem_singleton] at z; have hq' : H a = _ := hq; rw [← z, fe] at hq'; cases hq'
      | t a => rcases List.mem_cons.mp z with z | z; exact hne z; rw [List.mem_singleton] at z; have hq' : H a = _ := hq; rw [← z, fe] at hq'; cases hq'
      | s y t => exact hne (List.mem_singleton.mp z)
    have hifp : it ∈ o.fp it := by cases o <;> simp [So.fp]
    have hlt : i < xs.length := (List.getElem?_eq_some_iff.mp hx).1
    refine (GoesN.enumFrom 0 D e hne hefp hifp).goes i s _ E hlt ⟨⟨old, he⟩, hS i hit⟩ ?_
    rintro v h' tk ⟨T, t, u, rfl, hT, ⟨x', hx', ru⟩, hTu⟩ ⟨he', hst'⟩ hk _
    rw [hx] at hx'; cases hx'
    have new : ObjOk X.prog X.w (upd H T (.tup [.int (i : Nat), x])) h' T (.tup [.int (i : Nat), x]) :=
      ⟨by show 2 ≤ sizeLine; decide, [.int ((0 : Int) + (i : Int)) t, u], .cons ⟨t, by rw [Int.zero_add]⟩ (.cons ru .nil), hTu⟩
    have hTn : H T = none := I.hok.fresh hT
    have I1 : Inv X pins σ (upd H T (.tup [.int (i : Nat), x])) { s with heap := h', toks := tk } := I.turnedNew (ch := [e, it]) hk hf hT new
    refine ⟨.ref T, _, I1, rfl, ⟨T, x, rfl, hTn, rfl, fun ys hy => by rw [So.inj hy hq]; exact hx⟩, ⟨he', hS' _ _ hst', hne⟩, fun b hb => ?_⟩
    have hb' : b ≠ T := fun z => by
      subst z
      obtain ⟨ob, hob⟩ : ∃ ob, s.heap.get? b = some ob := by
        rcases List.mem_cons.mp hb with z | z
        · rw [z]; exact ⟨_, he⟩
        · rw [List.mem_singleton.mp z]; exact let ⟨ob, q, _⟩ := So.live hit; ⟨ob, q⟩
      exact absurd (Nat.lt_of_lt_of_le (Heap.lt_size hob) hT) (Nat.lt_irrefl _)
    rw [upd_ne hb']
    exact (hf b hb).1
  done := by
    rintro X rfl rfl rfl hc i pins s σ H E I hf ⟨⟨old, he⟩, hit, hne⟩ ⟨xs, hq, rfl⟩
    obtain ⟨f0, _⟩ := hf it (by simp)
    obtain ⟨fe, _⟩ := hf e (by simp)
    obtain ⟨St, D, hS, hS'⟩ := So.draws I X.A.in1 (I.ok.hd hc) o it f0 hq
    have hefp : e ∉ o.fp it := fun z => by
      cases o with
      | l a => rcases List.mem_cons.mp z with z | z; exact hne z; rw [List.mem_singleton] at z; have hq' : H a = _ := hq; rw [← z, fe] at hq'; cases hq'
      | t a => rcases List.mem_cons.mp z with z | z; exact hne z; rw [List.mem_singleton] at z; have hq' : H a = _ := hq; rw [← z, fe] at hq'; cases hq'
      | s y t => exact hne (List.mem_singleton.mp z)
    have hifp : it ∈ o.fp it := by cases o <;> simp [So.fp]
    exact (GoesN.enumFrom (elts := elts) (x1 := kk) (pos := tpos) 0 D e hne hefp hifp).stops s _ E ⟨⟨old, he⟩, hS _ hit⟩ fun h' tk hk _ => I.turnedL (ch := [e, it]) (t' := tk) hk hf
  self := fun A i s Q E st h => let ⟨⟨_, he⟩, _⟩ := st; wpAny_pyIter_enum he h
section
variable {X : Cx} {W : WX} {e e2 : Expr} {es : List Expr} {fa : DArg} {p pos tpos : Pos} {elts : List Expr} {kk : Nat}
theorem so_begins (o : So) {H : Hp} {xs : List V} {pins : List (Addr × Obj)} {σ : L2.St} {s : Shared} (I : Inv X pins σ H s) (hx : o.has H xs) : ∃ Hq, Begins o.val o.obj Hq ∧ Hq s.heap := by
  cases o with
  | l a =>
    obtain ⟨_, its, n, r, eo⟩ := I.hok a _ hx
    exact ⟨_, begins_list a its.toArray, ⟨_, eo, rfl, n, rfl⟩⟩
  | t a =>
    obtain ⟨_, its, r, pt⟩ := I.hok a _ hx
    exact ⟨_, begins_tuple a its.toArray, pt⟩
  | s x t => exact ⟨_, begins_text x t, trivial⟩
/-- data that can be drawn from, and the source -/
theorem so_of {n : Cn} {F H : Hp} {v : V} {u : Value} {d : D} (s : ∀ b o, F b = some o → H b = some o) (r : Rep X.K X.mg n F v d) (ru : RelV v u) {E : D → Cn → Prop} {P : List D → Cn → Prop} (h : (itemsOf d).run n P E) :
    ∃ (o : So) (xs : List V) (ds : List D), o.val = u ∧ o.has F xs ∧ o.has H xs ∧ Reps X.K X.mg n F xs ds ∧ P ds n := by
  unfold itemsOf at h
  split at h
  · cases r with
    | lst e r => cases ru; exact ⟨.l _, _, _, rfl, e, s _ _ e, r, h⟩
  · cases r with
    | tup e r => cases ru; exact ⟨.t _, _, _, rfl, e, s _ _ e, r, h⟩
  · rename_i x
    cases r
    obtain ⟨t, rfl⟩ := ru
    refine ⟨.s x t, _, _, rfl, rfl, rfl, ?_, h⟩
    generalize x.cps.toList = l
    induction l with
    | nil => exact .nil
    | cons c l ih => exact .cons (.str _) ih
  · exact h.elim
theorem so_grow {n n2 : Cn} {F F2 : Hp} (g : Grow n F n2 F2) {o : So} {xs : List V} (h : o.has F xs) : o.has F2 xs := by
  cases o with
  | l a => exact g.obj _ _ h not_rng_lst
  | t a => exact g.obj _ _ h not_rng_tup
  | s x t => exact h
theorem so_sub {F H : Hp} (s : ∀ b o, F b = some o → H b = some o) {o : So} {xs : List V} (h : o.has F xs) : o.has H xs := by
  cases o with
  | l a => exact s _ _ h
  | t a => exact s _ _ h
  | s x t => exact h
def pairsD (ds es : List D) : List D := (List.zip ds es).map fun p => .tup [p.1, p.2]
def enumD (ds : List D) : List D := ds.zipIdx.map fun p => .tup [.int (p.2 : Nat), p.1]
def iEn (fa : DArg) : DIt := fun env => bnd (fa env) fun ds => match ds with
  | [d] => bnd (itemsOf d) fun l => ret (enumD l)
  | _ => stuck
theorem walk_en {n : Cn} {F : Hp} {o : So} {xs : List V} {ds : List D} (h : o.has F xs) (r : Reps X.K X.mg n F xs ds) : WalkD X (ItEn o) n F (enumD ds) := fun i n2 F2 H2 g s => by
  have h2 : o.has H2 xs := so_sub s (so_grow g h)
  refine ⟨fun d hd => ?_, fun e => ⟨xs, h2, by rw [e, r.length]; simp [enumD]⟩⟩
  unfold enumD at hd
  rw [List.getElem?_map, List.getElem?_zipIdx] at hd
  cases e1 : ds[i]? with
  | none => rw [e1] at hd; cases hd
  | some d1 =>
    rw [e1] at hd
    simp only [Option.map_some, Option.some.injEq, Nat.zero_add] at hd
    subst hd
    obtain ⟨v, hv, rv⟩ := r.get e1
    refine ⟨⟨xs, v, h2, hv⟩, fun x H3 y => ?_⟩
    obtain ⟨T, x', rfl, hT, rfl, hx⟩ := y
    have e2 := hx xs h2
    rw [hv] at e2
    cases e2
    exact ⟨_, Step.new s hT, Step.newTup s hT (.cons (.int _) (.one (rv.grow g)))⟩
theorem di_en (hm : X.mg "enumerate" = none) (ha : DA X W [e] fa) (hg : Gl X "enumerate" := by rfl) (hs : starEach [e] X.env = [(false, eval e X.env)] := by rfl) : DI X W (.Tuple elts kk tpos) (.Call (.Name "enumerate" p) [e] [] pos) (iEn fa) := by
  refine ⟨⟨fun pins s σ H R I h => ?_⟩⟩
  obtain ⟨B, n, F, env, S, h⟩ := h
  have hA : tA X W fa σ H (fun vs H1 => ∃ v, vs = [v] ∧ ∀ u, RelV v u → ∃ (o : So) (xs : List V), o.val = u ∧ o.has H1 xs ∧ R (ItEn o) H1) := tA.go S h fun ds n1 vs F1 H1 q t r S1 => by
    match ds, r, q with
    | [d], .cons r1 .nil, q =>
      refine ⟨_, rfl, fun u ru => ?_⟩
      obtain ⟨o, xs, es, e1, h1, h2, rs, q2⟩ := so_of S1.sub r1 ru q
      exact ⟨o, xs, e1, h2, q2 _ F1 H1 t (walk_en h1 rs)⟩
  refine Call_ (ld_blt I hg hm boot_enumerate (PyProof.Rows.callWith_type1 (thn (ha.pa.run pos pins s σ H _ I hA) fun us s1 ⟨vs, H1, I1, r1, q1⟩ => ?_) hs rfl))
  obtain ⟨v, rfl, q1⟩ := q1
  cases r1 with
  | cons rv rn =>
    cases rn
    obtain ⟨o, xs, rfl, hx, q⟩ := q1 _ rv
    obtain ⟨Hq, Bg, hq⟩ := so_begins o I1 hx
    refine enum_begins1 Bg hq fun h' he hit hk => wpAny_pyIter_enum he ?_
    have I2 : Inv X pins σ H1 { s1 with heap := h' } := I1.kept (t' := s1.toks) hk
    refine ⟨s1.heap.objs.size + 1, [s1.heap.objs.size + 1, s1.heap.objs.size], _, _, H1, rfl, I2, turn_en o (s1.heap.objs.size + 1) s1.heap.objs.size, ⟨⟨.none, he⟩, So.begin hit, Nat.succ_ne_self _⟩, fun b hb => ?_, q⟩
    have le : s1.heap.objs.size ≤ b := by
      rcases List.mem_cons.mp hb with z | z
      · rw [z]; exact Nat.le_succ _
      · rw [List.mem_singleton.mp z]; exact Nat.le_refl _
    exact I1.fpOk le (I1.hok.fresh le)
end

/-! ### zip of two -/
structure Apart (z TI TO i1 i2 : Addr) : Prop where
  a1 : TI ≠ z
  a2 : TO ≠ z
  a3 : TI ≠ TO
  a4 : TI ≠ i1
  a5 : TI ≠ i2
  a6 : z ≠ i1
  a7 : z ≠ i2
  a8 : TO ≠ i1
  a9 : TO ≠ i2
  a10 : i1 ≠ i2
section
variable {X : Cx} {W : WX} {e e2 : Expr} {fa : DArg} {p pos tpos : Pos} {elts : List Expr} {kk : Nat}
def iZ2 (fa : DArg) : DIt := fun env => bnd (fa env) fun ds => match ds with
  | [d, d'] => bnd (itemsOf d) fun l => bnd (itemsOf d') fun l' => ret (pairsD l l')
  | _ => stuck
end
end DL

end
section
set_option Elab.async false
set_option linter.all false
set_option maxRecDepth 100000
set_option maxHeartbeats 4000000
/-! DMore: slices with a step; sum, min, max, sorted; join; repr. -/
namespace DL
open PySem PySem.Spec PyProof.Rows L2
variable [Tb]

/-! ### slices with a step -/
section
variable {K : PySem.W.Frag} {mg : Str → Option Value} {n : Cn} {F : Hp}
end
section
variable {prog : Program} {w : World} {A : Around} {E : Value → Shared → Prop} {s : Shared}
end
section
variable {X : Cx} {W : WX} {e ec : Expr} {lo hi : Option Expr} {fe : DExp} {fl fh fc : DOpt} {p2 pos : Pos}
end
end DL

end
section
set_option Elab.async false
set_option linter.all false
set_option maxRecDepth 100000
set_option maxHeartbeats 4000000
/-! DMore2: sum, min, max, sorted, join, repr. -/
namespace DL
open PySem PySem.Spec PyProof.Rows L2
variable [Tb]

/-! ### sum, min, max of ints: a list, a tuple -/
section
variable {X : Cx}
end

/-! ### sorted ints -/
def insI (x : Int) : List Int → List Int
  | [] => [x]
  | y :: ys => if x ≤ y then x :: y :: ys else y :: insI x ys
def sortI : List Int → List Int
  | [] => []
  | x :: xs => insI x (sortI xs)
def gSortI : List D → M D
  | [.lst l] => match intsD l with
    | some ns => ret (.lst ((sortI ns).map D.int))
    | none => stuck
  | _ => stuck
section
variable {X : Cx}
end

/-! ### sep.join(..) -/
section
variable {X : Cx} {W : WX} {o e : Expr} {fo fe : DExp} {apos pos : Pos}
end

/-! ### repr -/
def gRepr : List D → M D
  | [d] => match toPy d with
    | some p => need (p.showable = true ∧ p.hasDict = false ∧ p.depth ≤ 60 ∧ p.shown.length ≤ sizeLine) (ret (.str p.shown))
    | none => stuck
  | _ => stuck
section
variable {X : Cx}
end
end DL

end
section
set_option Elab.async false
set_option linter.all false
set_option maxRecDepth 100000
set_option maxHeartbeats 4000000
/-! DLc2: comprehensions with two clauses. -/
namespace DL
open PySem PySem.Spec PyProof.Rows L2
variable [Tb]

section
variable {X : Cx} {W : WX} {k : Nat}
variable {elt tg iter tg1 iter1 : Expr} {ifs ifs1 : List Expr} {scope : Scope} {own : List (Str × Nat)} {pos : Pos} {fi fi1 : DIt} {t t1 : D → En → Option En} {c c1 : DTst} {f : DExp}
end
end DL

end
section
set_option Elab.async false
set_option linter.all false
set_option maxRecDepth 100000
set_option maxHeartbeats 4000000
/-! DOwn: lists of one's own: made fresh, appended to, written at a place, looked at, frozen. -/
namespace DL
open PySem PySem.Spec PyProof.Rows L2
variable [Tb]

section
variable (K : PySem.W.Frag) (mg : Str → Option Value) (n : Cn) (F H H0 : Hp)
def SlOk (v : V) : Slot → Prop
  | .emp => False
  | .val d => Rep K mg n F v d
  | .own ds => ∃ a xs, v = .ref a ∧ Out n F a ∧ H0 a = none ∧ H a = some (.lst xs) ∧ Reps K mg n F xs ds
  | .ownK _ => False
inductive SlsOk : List V → List Slot → Prop
  | nil : SlsOk [] []
  | cons {v : V} {vs : List V} {s : Slot} {ss : List Slot} : SlOk K mg n F H H0 v s → SlsOk vs ss → (∀ (i : Nat) t, IsOwn s → ss[i]? = some t → IsOwn t → vs[i]? ≠ some v) → SlsOk (v :: vs) (s :: ss)
end
section
variable {K : PySem.W.Frag} {mg : Str → Option Value} {B : Bs} {n n' : Cn} {F H H0 F' H' : Hp} {σ : L2.St} {env : En}
theorem SlOk.step {v : V} {s : Slot} (t : Step n F H n' F' H') (h : SlOk K mg n F H H0 v s) : SlOk K mg n' F' H' H0 v s := by
  cases s with
  | emp => exact h
  | val d => exact Rep.grow t.gr h
  | own ds =>
    obtain ⟨a, xs, e, f, z, h1, r⟩ := h
    obtain ⟨h2, f2⟩ := t.keep a _ h1 f
    exact ⟨a, xs, e, f2, z, h2, r.grow t.gr⟩
  | ownK ds => exact h
theorem SlsOk.len {vs : List V} {ss : List Slot} (h : SlsOk K mg n F H H0 vs ss) : vs.length = ss.length := by
  induction h with
  | nil => rfl
  | cons _ _ _ ih => simp [ih]
theorem SlsOk.get {vs : List V} {ss : List Slot} (h : SlsOk K mg n F H H0 vs ss) : ∀ (i : Nat) s, ss[i]? = some s → ∃ v, vs[i]? = some v ∧ SlOk K mg n F H H0 v s := by
  induction h with
  | nil => intro i s e; simp at e
  | cons h1 _ _ ih =>
    intro i s e
    cases i with
    | zero => simp at e; subst e; exact ⟨_, rfl, h1⟩
    | succ i => exact ih i s (by simpa using e)
def frz (i : Nat) (env : En) : En := match env[i]? with
  | some (.own ds) => env.set i (.val (.lst ds))
  | _ => env
theorem SL.frz (s : SL K mg B n F H σ env) (i : Nat) : ∃ F', SL K mg B n F' H σ (frz i env) ∧ Grow n F n F' ∧ (∀ b o, F b = some o → F' b = some o) ∧ ∀ b, F b = none → F' b ≠ none → ∃ xs, H b = some (.lst xs) ∧ F' b = some (.lst xs) ∧ ¬ n.has b := by
  unfold DL.frz
  split
  · rename_i ds he
    obtain ⟨a, xs, hσ, hF, hB, hH, r⟩ := s.slot i _ he
    have hl : i < env.length := (List.getElem?_eq_some_iff.mp he).1
    refine ⟨upd F a (.lst xs), ⟨s.st.freeze hB hF hH, by rw [List.length_set]; exact s.len, fun j x h => ?_, fun j k x y hx hy ox oy hjk => ?_, s.tb, s.so.frz hF⟩, Grow.new hF.1, fun b o e => by rw [upd_ne (ne_of_none e hF.1)]; exact e, fun b h1 h2 => ?_⟩
    · by_cases hj : i = j
      · subst hj
        rw [List.getElem?_set_self hl] at h
        cases h
        exact ⟨_, hσ, .lst upd_same (r.grow (Grow.new hF.1))⟩
      · rw [List.getElem?_set_ne hj] at h
        have q := s.slot j x h
        cases x with
        | emp => trivial
        | val d => obtain ⟨u, e, ru⟩ := q; exact ⟨u, e, ru.grow (Grow.new hF.1)⟩
        | own l =>
          obtain ⟨b, zs, e, f, bb, h1, r1⟩ := q
          exact ⟨b, zs, e, f.upd fun z => s.ne i j _ _ he h trivial trivial hj (by rw [hσ, e, z]), bb, h1, r1.grow (Grow.new hF.1)⟩
        | ownK l =>
          obtain ⟨b, zs, e, f, bb, h1, r1⟩ := q
          exact ⟨b, zs, e, f.upd fun z => s.ne i j _ _ he h trivial trivial hj (by rw [hσ, e, z]), bb, h1, RepK.grow (Grow.new hF.1) r1⟩
    · have own_at : ∀ {j : Nat} {x : Slot}, (env.set i (.val (.lst ds)))[j]? = some x → IsOwn x → env[j]? = some x := fun {j x} h o => by
        by_cases hj : i = j
        · subst hj
          rw [List.getElem?_set_self hl] at h
          cases h; exact o.elim
        · rw [List.getElem?_set_ne hj] at h; exact h
      exact s.ne j k x y (own_at hx ox) (own_at hy oy) ox oy hjk
    · by_cases hb : b = a
      · subst hb; exact ⟨xs, hH, upd_same, hF.2⟩
      · rw [upd_ne hb] at h2; exact absurd h1 h2
  · exact ⟨F, s, Grow.refl _ _, fun _ _ e => e, fun b h1 h2 => absurd h1 h2⟩
end

/-! ### fresh lists -/
abbrev DFl := En → M (List D)
abbrev DSl := En → M (List Slot)
section
variable (X : Cx) (W : WX)
def okF (n : Cn) (F H : Hp) (Q : VK) : List D → Cn → Prop := fun ds n' => ∀ a xs F' H', Step n F H n' F' H' → H a = none → Out n' F' a → H' a = some (.lst xs) → Reps X.K X.mg n' F' xs ds → Q (.ref a) H'
def okM (n : Cn) (F H : Hp) (Q : List V → Hp → Prop) : List Slot → Cn → Prop := fun ss n' => ∀ vs F' H', Step n F H n' F' H' → SlsOk X.K X.mg n' F' H' H vs ss → Q vs H'
def tFr (f : DFl) : TE := fun σ H Q => ∃ (B : Bs) (n : Cn) (F : Hp) (env : En), SL X.K X.mg B n F H σ env ∧ (f env).run n (okF X n F H Q) (exE X W n F H σ)
def tMA (f : DSl) : TA := fun σ H Q => ∃ (B : Bs) (n : Cn) (F : Hp) (env : En), SL X.K X.mg B n F H σ env ∧ (f env).run n (okM X n F H Q) (exE X W n F H σ)
structure DFr (e : Expr) (f : DFl) : Prop where
  pe : PE X e (tFr X W f)
structure DMA (es : List Expr) (f : DSl) : Prop where
  pa : PA X es (tMA X W f)
end
def fLst (r : DArg) : DFl := fun env => bnd (r env) fun xs => need (xs.length ≤ sizeLine) (ret xs)
def mNil : DSl := fun _ => ret []
def mVal (f : DExp) (r : DSl) : DSl := fun env => bnd (f env) fun d => bnd (r env) fun ss => ret (.val d :: ss)
def mOwn (f : DFl) (r : DSl) : DSl := fun env => bnd (f env) fun ds => bnd (r env) fun ss => ret (.own ds :: ss)
section
variable {X : Cx} {W : WX} {k : Nat} {e : Expr} {es : List Expr} {f : DExp} {r : DArg} {fr : DFl} {m : DSl} {pos : Pos}
theorem tFr.go {B : Bs} {n : Cn} {F H : Hp} {σ : L2.St} {env : En} {P : List D → Cn → Prop} {R : VK} (S : SL X.K X.mg B n F H σ env) (h : (fr env).run n P (exE X W n F H σ))
    (hk : ∀ ds n1 a xs F1 H1, P ds n1 → Step n F H n1 F1 H1 → H a = none → Out n1 F1 a → H1 a = some (.lst xs) → Reps X.K X.mg n1 F1 xs ds → SL X.K X.mg B n1 F1 H1 σ env → R (.ref a) H1) : tFr X W fr σ H R :=
  ⟨B, n, F, env, S, (fr env).mono (fun ds n1 p a xs F1 H1 t h0 hf hh r => hk ds n1 a xs F1 H1 p t h0 hf hh r (S.step t)) (fun _ _ z => z) h⟩
theorem tMA.go {B : Bs} {n : Cn} {F H : Hp} {σ : L2.St} {env : En} {P : List Slot → Cn → Prop} {R : List V → Hp → Prop} (S : SL X.K X.mg B n F H σ env) (h : (m env).run n P (exE X W n F H σ))
    (hk : ∀ ss n1 vs F1 H1, P ss n1 → Step n F H n1 F1 H1 → SlsOk X.K X.mg n1 F1 H1 H vs ss → SL X.K X.mg B n1 F1 H1 σ env → R vs H1) : tMA X W m σ H R :=
  ⟨B, n, F, env, S, (m env).mono (fun ss n1 p vs F1 H1 t h0 => hk ss n1 vs F1 H1 p t h0 (S.step t)) (fun _ _ z => z) h⟩
variable {elt tg iter : Expr} {ifs : List Expr} {scope : Scope} {own : List (Str × Nat)} {fi : DIt} {t : D → En → Option En} {c : DTst}
end

/-! ### statements -/
def sOwn (i : Nat) (f : DFl) : DStm := fun env => bnd (f env) fun ds => ret (.nx (env.set i (.own ds)))
def setsE : List Nat → List Slot → En → Option En
  | [], [], env => some env
  | i :: is, s :: ss, env => setsE is ss (env.set i s)
  | _, _, _ => none
def sPars (is : List Nat) (m : DSl) : DStm := fun env => bnd (m env) fun ss => match setsE is ss env with
  | some env' => ret (.nx env')
  | none => stuck
def sApp (i : Nat) (f : DExp) : DStm := fun env => match env[i]? with
  | some (.own ds) => bnd (f env) fun d => need (ds.length < sizeLine) (ret (.nx (env.set i (.own (ds ++ [d])))))
  | _ => stuck
def sFrz (i : Nat) (s : DStm) : DStm := fun env => s (frz i env)
def scalarD : D → Bool
  | .non => true | .bl _ => true | .int _ => true | .str _ => true | .ty _ => true
  | _ => false
def dPeek (i : Nat) (f : DExp) : DExp := fun env => bnd (noexS (f (frz i env))) fun d => need (scalarD d = true) (ret d)
def tPeek (i : Nat) (f : DTst) : DTst := fun env => noexS (f (frz i env))
section
variable {X : Cx} {W : WX} {k : Nat} {e e1 e2 : Expr} {es : List Expr} {f fi fv : DExp} {r : DArg} {fr : DFl} {m : DSl} {s : DStm} {c : DTst} {st : Stmt} {sts : List Stmt} {pos spos : Pos}
theorem own_ne {B : Bs} {n : Cn} {F H H1 : Hp} {σ : L2.St} {env : En} {a : Addr} (S : SL X.K X.mg B n F H σ env) (ha : H a = none) : ∀ (j : Nat) t, env[j]? = some t → IsOwn t → σ[j]? ≠ some (some (V.ref a)) := fun j t ht ot z => by
  cases t with
  | own l =>
    obtain ⟨b, ys, e, _, _, h1, _⟩ := S.slot j _ ht
    rw [z] at e; cases e
    rw [ha] at h1; cases h1
  | ownK l =>
    obtain ⟨b, ys, e, _, _, h1, _⟩ := S.slot j _ ht
    rw [z] at e; cases e
    rw [ha] at h1; cases h1
  | _ => exact ot
variable {elt tg iter : Expr} {ifs : List Expr} {scope : Scope} {t : D → En → Option En} {c : DTst}  {fit : DIt}
end
end DL

end
section
set_option Elab.async false
set_option linter.all false
set_option maxRecDepth 100000
set_option maxHeartbeats 4000000
/-! DDraw: the script, the dict of the draws. -/
namespace DL
open PySem PySem.Spec PyProof.Rows L2
variable [Tb]

/-! ### the script -/
def anyInts (k : Nat) : M (List Int) := any fun ns => ns.length = k
def scrOf : D → M (List D)
  | .scr k => bnd (anyInts k) fun ns => ret (ns.map D.int)
  | _ => stuck
def iScr (f : DExp) : DIt := fun env => bnd (f env) scrOf
def gListS : List D → M D
  | [.scr k] => bnd (anyInts k) fun ns => ret (.lst (ns.map D.int))
  | _ => stuck
section
variable {X : Cx} {W : WX} {e tg : Expr} {f : DExp} {pos p2 : Pos} {lo hi : Option Expr} {fl fh : DOpt}
theorem walk_scr {n : Cn} {F : Hp} {a : Addr} {ns : List Int} (h : SqL X.K F a (ns.map V.int)) : WalkD X (Itl X.K a) n F (ns.map D.int) := fun i n2 F2 H2 g s => by
  have h2 : SqL X.K H2 a (ns.map V.int) := SqL.grow (Grow.sub (n := n2) s) (SqL.grow g h)
  refine ⟨fun d hd => ?_, fun e => ⟨_, h2, by rw [e, List.length_map, List.length_map]; exact Nat.le_refl _⟩⟩
  rw [List.getElem?_map] at hd
  cases e1 : ns[i]? with
  | none => rw [e1] at hd; cases hd
  | some z =>
    rw [e1] at hd
    cases hd
    have e2 : (ns.map V.int)[i]? = some (.int z) := by rw [List.getElem?_map, e1]; rfl
    refine ⟨⟨_, _, h2, e2⟩, fun x H3 y => ?_⟩
    obtain ⟨rfl, y⟩ := y
    have e3 := y _ h2
    rw [e2] at e3
    cases e3
    exact ⟨F2, Step.refl s, .int z⟩
theorem di_scr (he : DE X W e f) : DI X W tg e (iScr f) := by
  refine ⟨⟨fun pins s σ H R I h => ?_⟩⟩
  obtain ⟨B, n, F, env, S, h⟩ := h
  have hA : tD X W f σ H (fun v H1 => ∃ a xs, v = .ref a ∧ SqL X.K H1 a xs ∧ R (Itl X.K a) H1) := tD.go S h fun d n1 v F1 H1 p t r S1 => by
    unfold scrOf at p
    split at p
    · cases r with
      | scr e => exact ⟨_, _, rfl, SqL.grow (Grow.sub (n := n1) S1.sub) e, p _ rfl _ F1 H1 t (walk_scr e)⟩
    · exact p.elim
  refine thn (he.pe.run pins s σ H _ I hA) fun u s1 ⟨v, H1, I1, r1, q1⟩ => ?_
  obtain ⟨a, xs, rfl, hq, q⟩ := q1
  cases r1
  obtain ⟨its, _, pl, _⟩ := I1.list hq
  refine wpAny_pyIter_list pl.isList ⟨_, [s1.heap.objs.size], _, _, H1, rfl, I1.kept (t' := s1.toks) fun b o z => Heap.get?_push_of_some _ z, turn_list a _, ⟨_, Heap.get?_push_size _ rfl, rfl, rfl⟩, fun b hb => ?_, q⟩
  rw [List.mem_singleton] at hb
  subst hb
  exact I1.fpOk (Nat.le_refl _) (I1.hok.fresh (Nat.le_refl _))
theorem cd_listS : CallD X (fun xs H Q => ∃ p ys, xs = [.ref p] ∧ (SqL X.K H p ys ∨ SqT X.K H p ys) ∧ ∀ l, H l = none → Q (.ref l) (upd H l (.lst ys))) gListS := fun n F H xs ds Q E s r q => by
  unfold gListS at q
  split at q
  · cases r with
    | cons rd rn =>
      cases rn
      cases rd with
      | scr e => exact ⟨_, _, rfl, .inl (SqL.grow (Grow.sub (n := n) s) e), fun l hl => q _ rfl _ _ _ (Step.new s hl) (Step.newLst s hl Reps.ints)⟩
  · exact q.elim
end

/-! ### the dict of the draws: reads -/
def rngL : D → M D
  | .rng _ _ => any fun d => ∃ i, d = .int i
  | _ => stuck
def rngK : D → M D
  | .rng _ _ => ⟨fun n P _ => ∀ k : Int, 0 ≤ k → k ≤ n.k → P (.int k) n, fun h _ q k a b => h _ _ (q k a b)⟩
  | _ => stuck
def rngC : D → M D
  | .rng _ c => any fun d => ∃ cs : List Int, cs.length = c ∧ cs ≠ [] ∧ d = .lst (cs.map D.int)
  | _ => stuck
def dRg (g : D → M D) (f : DExp) : DExp := fun env => bnd (f env) g
theorem rng_left (l : Addr) (L : Int) (sd : Option Int) (k : Int) : ∃ kvs, rngO l L sd k = .dK kvs ∧ valV kvs (Sum.inr "left") = some (.int L) ∧ kvs.length < sizeLine ∧ ∀ i, HO.dK (putK kvs (Sum.inr "left") (.int i)) = rngO l i sd k := by
  cases sd with
  | none => exact ⟨_, rfl, by rfl, by show 3 < sizeLine; decide, fun i => by rfl⟩
  | some z => exact ⟨_, rfl, by rfl, by show 4 < sizeLine; decide, fun i => by rfl⟩
theorem rng_spot (l : Addr) (L : Int) (sd : Option Int) (k : Int) : ∃ kvs, rngO l L sd k = .dK kvs ∧ valV kvs (Sum.inr "spot") = some (.int k) ∧ kvs.length < sizeLine ∧ ∀ i, HO.dK (putK kvs (Sum.inr "spot") (.int i)) = rngO l L sd i := by
  cases sd with
  | none => exact ⟨_, rfl, by rfl, by show 3 < sizeLine; decide, fun i => by rfl⟩
  | some z => exact ⟨_, rfl, by rfl, by show 4 < sizeLine; decide, fun i => by rfl⟩
theorem rng_cells (l : Addr) (L : Int) (sd : Option Int) (k : Int) : ∃ kvs, rngO l L sd k = .dK kvs ∧ valV kvs (Sum.inr "cells") = some (.ref l) := by
  cases sd with
  | none => exact ⟨_, rfl, by rfl⟩
  | some z => exact ⟨_, rfl, by rfl⟩
section
variable {X : Cx} {W : WX} {k : Nat} {e value : Expr} {f fv : DExp} {pos p2 tpos : Pos} {j : Nat}
theorem nosl_k {c : Const} {j : Nat} {p : Pos} : NoSl (.Constant c j p) := fun _ _ => rfl
theorem units_ok (c : Kx X W k) : X.A.units + 65 < cLine := by have := c.rm.room.un; omega
theorem units_1 (c : Kx X W k) : X.A.units + 1 < cLine := by have := c.rm.room.un; omega
theorem de_rngL (c : Kx X W k) (he : DE X W e f) : DE X W (.Subscript e (.Constant (.str "left") j p2) pos) (dRg rngL f) := by
  refine ⟨PE.imp (pe_dget (units_1 c) he.pe pe_str nosl_k) fun σ H Q ⟨B, n, F, env, S, h⟩ => tD.go S h fun d n1 v F1 H1 p t r S1 => ?_⟩
  unfold rngL at p
  split at p
  · cases r with
    | @rng ra rl rL rk rsd rcs h1 h2 h3 h4 =>
      obtain ⟨kvs, e1, e2, _⟩ := rng_left rl rL rsd rk
      rw [e1] at h1
      refine ⟨ra, .int rL, rfl, ?_, p (.int rL) ⟨_, rfl⟩ _ F1 H1 t (.int rL)⟩
      rw [← e2]
      exact DGet.k (k := Sum.inr "left") (S1.sub _ _ h1)
  · exact p.elim
theorem de_rngK (c : Kx X W k) (he : DE X W e f) : DE X W (.Subscript e (.Constant (.str "spot") j p2) pos) (dRg rngK f) := by
  refine ⟨PE.imp (pe_dget (units_1 c) he.pe pe_str nosl_k) fun σ H Q ⟨B, n, F, env, S, h⟩ => tD.go S h fun d n1 v F1 H1 p t r S1 => ?_⟩
  unfold rngK at p
  split at p
  · cases r with
    | @rng ra rl rL rk rsd rcs h1 h2 h3 h4 =>
      obtain ⟨kvs, e1, e2, _⟩ := rng_spot rl rL rsd rk
      rw [e1] at h1
      refine ⟨ra, .int rk, rfl, ?_, p rk h2.1 h2.2 _ F1 H1 t (.int rk)⟩
      rw [← e2]
      exact DGet.k (k := Sum.inr "spot") (S1.sub _ _ h1)
  · exact p.elim
theorem de_rngC (c : Kx X W k) (he : DE X W e f) : DE X W (.Subscript e (.Constant (.str "cells") j p2) pos) (dRg rngC f) := by
  refine ⟨PE.imp (pe_dget (units_1 c) he.pe pe_str nosl_k) fun σ H Q ⟨B, n, F, env, S, h⟩ => tD.go S h fun d n1 v F1 H1 p t r S1 => ?_⟩
  unfold rngC at p
  split at p
  · cases r with
    | @rng ra rl rL rk rsd rcs h1 h2 h3 h4 =>
      obtain ⟨kvs, e1, e2⟩ := rng_cells rl rL rsd rk
      rw [e1] at h1
      refine ⟨ra, .ref rl, rfl, ?_, p _ ⟨rcs, rfl, h4, rfl⟩ _ F1 H1 t (.lst h3 Reps.ints)⟩
      rw [← e2]
      exact DGet.k (k := Sum.inr "cells") (S1.sub _ _ h1)
  · exact p.elim

/-! ### writes: each tells the counter of one draw more -/
def tickL (d : D) : M Unit := match d with
  | .int _ => tick
  | _ => stuck
def tickK (d : D) : M Unit := match d with
  | .int i => ⟨fun n P _ => (0 ≤ i ∧ i ≤ n.k + 1) ∧ P () n.tick, fun h _ q => ⟨q.1, h _ _ q.2⟩⟩
  | _ => stuck
def isRng : D → M Unit
  | .rng _ _ => ret ()
  | _ => stuck
def sRg (g : D → M Unit) (f fv : DExp) : DStm := fun env => bnd (fv env) fun d => bnd (f env) fun m => bnd (isRng m) fun _ => bnd (g d) fun _ => ret (.nx env)
theorem step_rng {n n' : Cn} {F H : Hp} {a l : Addr} {L L' k k' : Int} {sd : Option Int} (hn : n.k ≤ n'.k) (hst : n'.st = n.st) (hkm : n'.K = n.K ∧ n'.mg = n.mg) (s : ∀ b o, F b = some o → H b = some o) (h : F a = some (rngO l L sd k)) (g : RngGood n k → RngGood n' k') : Step n F H n' (upd F a (rngO l L' sd k')) (upd H a (rngO l L' sd k')) := by
  have nx : ∀ (b : Addr) (o : HO), (∀ kvs, o ≠ .dK kvs) → F b = some o → upd F a (rngO l L' sd k') b = some o := fun b o no e => by
    have hb : b ≠ a := fun q => by
      subst q; rw [h] at e; cases e
      obtain ⟨kvs, z⟩ := rngO_dk l L sd k
      exact no kvs z
    rw [upd_ne hb]; exact e
  have gr : Grow n F n' (upd F a (rngO l L' sd k')) := by
   refine ⟨hn, fun i e h => ⟨e, hst ▸ h, e.le_refl⟩, hkm, fun b o e z => ?_, fun b l2 L2 sd2 k2 e => ?_, .of (fun b ps e => nx b _ (fun _ z => by cases z) e) fun b φ e => nx b _ (fun _ z => by cases z) e⟩
   · have hb : b ≠ a := fun q => by subst q; rw [h] at e; cases e; exact z (.inl ⟨_, _, _, _, rfl⟩)
     rw [upd_ne hb]; exact e
   · by_cases hb : b = a
     · subst hb
       rw [h] at e
       have e := Option.some.inj e
       obtain ⟨rfl, rfl, rfl, rfl⟩ := rngO_inj e
       exact ⟨L', k', upd_same, g⟩
     · rw [upd_ne hb]
       exact ⟨L2, k2, e, fun q => ⟨q.1, by have := q.2; omega⟩⟩
  have na : ∀ (K : PySem.W.Frag) (mg : Str → Option Value), Sto K mg n F H → ¬ n.has a := fun K mg w ⟨i, e, h1, h2⟩ => by
    have := (w.cell i e h1).1
    rw [h2, h] at this; cases this
  refine ⟨gr, fun b o e => ?_, fun b o e z => ?_, fun K mg w => w.go gr hst fun b hb hf => ?_, fun b e => ?_, fun K mg w i e h1 _ => ?_⟩
  · by_cases hb : b = a
    · subst hb; rw [upd_same] at e ⊢; exact e
    · rw [upd_ne hb] at e ⊢; exact s b o e
  · have hb : b ≠ a := fun q => by subst q; rw [z.1] at h; cases h
    rw [upd_ne hb]; exact ⟨e, ⟨by rw [upd_ne hb]; exact z.1, fun ⟨i, c, h1, h2⟩ => z.2 ⟨i, c, hst ▸ h1, h2⟩⟩⟩
  · have hne := ne_has hb (na K mg w)
    exact ⟨by rw [upd_ne hne]; exact hf, upd_ne hne⟩
  · by_cases hb : b = a
    · subst hb; rw [upd_same] at e; cases e
    · rw [upd_ne hb] at e; exact e
  · exact upd_ne (ne_has (Cn.has_at h1) (na K mg w))
theorem ds_rngL (c : Kx X W k) (he : DE X W e f) (hv : DE X W value fv) (hs : swapsWith value (some (.Subscript e (.Constant (.str "left") j p2) tpos)) pos.line X.env = pure false := by rfl) :
    DS X W (.Assign [.Subscript e (.Constant (.str "left") j p2) tpos] value pos) (sRg tickL f fv) := by
  refine ⟨PS.imp (ps_dput (units_1 c) he.pe pe_str hv.pe hs) fun D σ H ⟨B, n, F, env, S, h⟩ => ?_⟩
  refine tD.go S ((fv env).mono (fun _ _ z => z) (fun x m z => exS_of S z) h) fun d n1 v F1 H1 p t r S1 => ?_
  refine tD.go S1 ((f env).mono (fun _ _ z => z) (fun x m z => exS_of S1 z) p) fun m n2 u F2 H2 p2 t2 r2 S2 => ?_
  dsimp only at p2
  unfold isRng at p2
  split at p2
  · rw [bnd_ret] at p2
    unfold tickL at p2
    cases d with
    | int i =>
      cases r
      cases r2 with
      | @rng ra rl rL rk rsd rcs h1 h2 h3 h4 =>
        obtain ⟨kvs, e1, _, e2, e3⟩ := rng_left rl rL rsd rk
        have st := step_rng (n := n2) (n' := n2.tick) (L' := i) (k' := rk) (Nat.le_succ _) rfl ⟨rfl, rfl⟩ S2.sub h1 (fun q => ⟨q.1, by have := q.2; show rk ≤ ((n2.k + 1 : Nat) : Int); omega⟩)
        rw [e1] at h1
        refine ⟨_, _, rfl, DPut.k (k := Sum.inr "left") (S2.sub _ _ h1) e2, ?_⟩
        have S3 := S2.step st
        rw [← e3 i] at S3
        exact p2 σ _ _ ((t.gr.trans t2.gr).trans st.gr) (by rw [e3 i] at S3 ⊢; exact S3)
    | _ => exact p2.elim
  · exact p2.elim
theorem ds_rngK (c : Kx X W k) (he : DE X W e f) (hv : DE X W value fv) (hs : swapsWith value (some (.Subscript e (.Constant (.str "spot") j p2) tpos)) pos.line X.env = pure false := by rfl) :
    DS X W (.Assign [.Subscript e (.Constant (.str "spot") j p2) tpos] value pos) (sRg tickK f fv) := by
  refine ⟨PS.imp (ps_dput (units_1 c) he.pe pe_str hv.pe hs) fun D σ H ⟨B, n, F, env, S, h⟩ => ?_⟩
  refine tD.go S ((fv env).mono (fun _ _ z => z) (fun x m z => exS_of S z) h) fun d n1 v F1 H1 p t r S1 => ?_
  refine tD.go S1 ((f env).mono (fun _ _ z => z) (fun x m z => exS_of S1 z) p) fun m n2 u F2 H2 p2 t2 r2 S2 => ?_
  dsimp only at p2
  unfold isRng at p2
  split at p2
  · rw [bnd_ret] at p2
    unfold tickK at p2
    cases d with
    | int i =>
      cases r
      cases r2 with
      | @rng ra rl rL rk rsd rcs h1 h2 h3 h4 =>
        obtain ⟨⟨g1, g2⟩, p2⟩ := p2
        obtain ⟨kvs, e1, _, e2, e3⟩ := rng_spot rl rL rsd rk
        have st := step_rng (n := n2) (n' := n2.tick) (L' := rL) (k' := i) (Nat.le_succ _) rfl ⟨rfl, rfl⟩ S2.sub h1 (fun _ => ⟨g1, by show i ≤ ((n2.k + 1 : Nat) : Int); omega⟩)
        rw [e1] at h1
        refine ⟨_, _, rfl, DPut.k (k := Sum.inr "spot") (S2.sub _ _ h1) e2, ?_⟩
        rw [e3 i]
        exact p2 σ _ _ ((t.gr.trans t2.gr).trans st.gr) (S2.step st)
    | _ => exact p2.elim
  · exact p2.elim
end

/-! ### the dict's display -/
def begC (z : Bool) (c l s : D) : M D := match c, l, s with
  | .lst cs, .int _, .int k => match intsD cs with
    | some ns => need (ns ≠ [] ∧ k = 0) (ret (.rng z ns.length))
    | none => stuck
  | _, _, _ => stuck
def dBeg (fc fl fs : DExp) : DExp := fun env => bnd (fc env) fun c => bnd (fl env) fun l => bnd (fs env) fun s => begC false c l s
section
variable {X : Cx} {W : WX} {k : Nat} {ec el es ez : Expr} {fc fl fs fz : DExp} {pos p1 p2 p3 p4 : Pos} {j1 j2 j3 j4 : Nat}
theorem SL.besides {B : Bs} {n : Cn} {F H : Hp} {σ : L2.St} {env : En} {p : Addr} {o : HO} (S : SL X.K X.mg B n F H σ env) (h : H p = none) : SL X.K X.mg B n F (upd H p o) σ env :=
  S.beside (S.out h) (S.st.free h) fun j l hj ho => own_ne (H1 := H) S h j _ hj ho
theorem de_beg (hc : DE X W ec fc) (hl : DE X W el fl) (hs : DE X W es fs) : DE X W (.Dict [some (.Constant (.str "cells") j1 p1), some (.Constant (.str "left") j2 p2), some (.Constant (.str "spot") j3 p3)] [ec, el, es] pos) (dBeg fc fl fs) := by
  refine ⟨PE.imp (pe_disp (pps_cons pe_str hc.pe (pps_cons pe_str hl.pe (pps_cons pe_str hs.pe pps_nil))) rfl rfl (by simp) (by simp)) fun σ H Q ⟨B, n, F, env, S, h⟩ p hp => ?_⟩
  have S0 : SL X.K X.mg B n F (upd H p (.dK [])) σ env := S.besides hp
  have hF : Out n F p := S.out hp
  have conv : ∀ x m, exE X W n F H σ x m → exE X W n F (upd H p (.dK [])) σ x m := fun x m z cls dx F' H' t r => by
    exact z cls dx F' H' (t.unup hp) r
  refine tD.go S0 ((fc env).mono (fun _ _ z => z) conv h) fun c n1 vc F1 H1 q1 t1 r1 S1 => ?_
  refine tD.go S1 ((fl env).mono (fun _ _ z => z) (fun x m z => exE.step t1 (conv x m z)) q1) fun l n2 vl F2 H2 q2 t2 r2 S2 => ?_
  refine tD.go S2 ((fs env).mono (fun _ _ z => z) (fun x m z => exE.step (t1.trans t2) (conv x m z)) q2) fun s n3 vs F3 H3 q3 t3 r3 S3 => ?_
  have t := (t1.trans t2).trans t3
  obtain ⟨hp3, fp3⟩ := t.keep p _ upd_same hF
  refine ⟨hp3, ?_⟩
  dsimp only at q3
  unfold begC at q3
  split at q3
  · rename_i cs iL ik
    split at q3
    · rename_i ns hns
      obtain ⟨⟨h0, rfl⟩, q⟩ := q3
      have rc := (r1.grow t2.gr).grow t3.gr
      rw [intsD_of hns] at rc
      cases r2; cases r3
      cases rc with
      | @lst a xs _ e rr =>
        have ex := rr.ofInts
        subst ex
        refine ⟨[(Sum.inr "cells", .ref a), (Sum.inr "left", .int iL), (Sum.inr "spot", .int 0)], rfl, by show 3 ≤ 15; decide, ?_⟩
        have hb : H3 a ≠ none := by rw [S3.sub _ _ e]; simp
        have t' : Step n F H n3 F3 H3 := t.unup hp
        have hpa : a ≠ p := fun z => by rw [z, fp3.1] at e; cases e
        have t2' : Step n F H n3 (upd F3 p (rngO a iL none 0)) (upd H3 p (rngO a iL none 0)) := (t'.beside hp fp3).freeze hp fp3 upd_same
        refine q (.ref p) _ _ t2' (.rng (upd_same) ⟨Int.le_refl _, Int.natCast_nonneg _⟩ (by rw [upd_ne hpa]; exact e) h0)
    · exact q3.elim
  · exact q3.elim
end
end DL

end
section
set_option Elab.async false
set_option linter.all false
set_option maxRecDepth 100000
set_option maxHeartbeats 4000000
/-! DEnd: from the law's own promise to the statement. -/
namespace DL
open PySem PySem.Spec PyProof.Rows L2
variable [Tb]

end DL

end
section
set_option Elab.async false
set_option linter.all false
set_option maxRecDepth 100000
set_option maxHeartbeats 4000000
/-! DMisc: list(range(..)), what is never reached, defs and what the top has written. -/
namespace DL
open PySem PySem.Spec PyProof.Rows L2
variable [Tb]

def rgL (d : D) : M (List D) := match d with
  | .int j => need (0 ≤ j ∧ j ≤ 16777216) (ret (rangeD 0 j.toNat))
  | _ => stuck
def dListRg (f : DExp) : DExp := fun env => bnd (f env) fun d => bnd (rgL d) fun l => ret (.lst l)
section
variable {X : Cx} {W : WX} {k : Nat} {e : Expr} {f : DExp} {p p2 pos pos2 : Pos}
end
section
variable {X : Cx} {W : WX} {x : Str} {pos : Pos}
end
def fnOf (n : Nat) (s : DStm) : Fn := fun ds => body s (ds.map Slot.val ++ List.replicate (n - ds.length) Slot.emp)
/-- the top's def -/
structure Df (K : PySem.W.Frag) (mg : Str → Option Value) (x : Str) (ps : List Str) (st : Stmt) : Prop where
  ex : ∃ (f : Addr) (fd : FuncData), mg x = some (.ref f) ∧ Fun K x x st f fd ∧ Binds K fd ps []
theorem Df.glo {P : Program} {w : World} {K : PySem.W.Frag} {mg : Str → Option Value} {ground : Heap} {x : Str} {N ps : List Str} {st : Stmt} {k m : Nat} {s : DStm} (D : Df K mg x ps st) (S : FnScope N ps (defScope st)) (hm : ps.length = m)
    (hb : ∀ (f : Addr) (cd : Value) (R : Around) (callers : List PySem.Env) (t : Shared) (H : Hp) (E : XK), Kx (cxOf (L2.CX P w) P w K mg ground N x (defScope st) f cd R callers t H E) (fun cls d _ H => E cls d H) k →
      DSs (cxOf (L2.CX P w) P w K mg ground N x (defScope st) f cd R callers t H E) (fun cls d _ H => E cls d H) (defBody st) s) : Glo P w K mg ground (k + 1) x m (fnOf N.length s) := by
  obtain ⟨f, fd, h1, F, hB⟩ := D.ex
  subst hm
  exact ⟨f, fd, ps, rfl, h1, F.kp, hB, FnG.okD F S fun cd R callers t H E rm gd => hb f cd R callers t H E (Kx.of rm gd S.nd)⟩
theorem Df.of {K : PySem.W.Frag} {mg : Str → Option Value} {h : Heap} {x : Str} {ps : List Str} {st : Stmt} {f : Addr} {oc : Value} {od an : Option Addr} {osl : Array (Option Value)} {kV doc pm cdv ct : Value} (X : K.In h) (G : h.Ns mainGlobals mg)
    (a : PySem.W.nsIn K mainGlobals x = some (some (.ref f))) (l : K.lookup f = some ⟨oc, od, .func (PySem.W.fnOf x x (defArgs st) (defBody st) (defScope st) .none kV doc pm an cdv ct), osl⟩) (c : PySem.W.codeIn K cdv x = true) (k : PySem.W.keepIn K (.ref f) = true)
    (b : ∀ (kV doc pm : Value) (an : Option Addr) (cdv ct : Value) (us : List Value), us.length = ps.length → bindArgs (PySem.W.fnOf x x (defArgs st) (defBody st) (defScope st) .none kV doc pm an cdv ct) ⟨us, []⟩ = pure (ps.zip us)) : Df K mg x ps st :=
  ⟨_, _, PySem.W.mg_of X G a, fun_mk l c k, (fun_mk l c k).binds b⟩
end DL

end
section
set_option Elab.async false
set_option linter.all false
set_option maxRecDepth 100000
set_option maxHeartbeats 4000000
/-! DUnp: a, b, .. = x, y, .. by a tuple, own lists among them. -/
namespace DL
open PySem PySem.Spec PyProof.Rows L2
variable [Tb]
structure NG (X : Cx) (is : List Nat) (es : List Expr) (g : TGs) : Prop where
  pgs : PGs X es g
  red : ∀ (vs : List V) (σ : L2.St) (H : Hp) (Q : L2.St → Hp → Prop), vs.length = is.length → Q ((is.zip vs).foldl (fun σ p => σ.set p.1 (some p.2)) σ) H → g vs σ H Q
section
variable {X : Cx} {W : WX} {k : Nat} {is : List Nat} {es ts : List Expr} {g : TGs} {m : DSl}
theorem dg_tupK {Kf : PySem.W.Frag} {n j : Nat} {js : List Nat} {gs : TGs} {u : List D → En → Option En} {pos : Pos} (hK : X.K = Kf) (hc : X.calm = true) (h1 : DGs X js es u gs) (hn : (assignEach es X.env).length = n := by rfl) (hst : (assignEach es X.env).findIdx? (·.1) = none := by rfl) :
    DG X js (.Tuple es j pos) (tgT n u) (gTup Kf n gs) := by
  subst hK
  exact dg_tup hc h1 hn hst
theorem units_64 (c : Kx X W k) : X.A.units + 64 < cLine := by have := c.rm.room.un; omega
theorem SlsOk.upd {K : PySem.W.Frag} {mg : Str → Option Value} {n : Cn} {F H H0 : Hp} {p : Addr} {o : HO} (hp : H p = none) {vs : List V} {ss : List Slot} (h : SlsOk K mg n F H H0 vs ss) : SlsOk K mg n F (L2.upd H p o) H0 vs ss := by
  induction h with
  | nil => exact .nil
  | cons h1 _ q ih =>
    rename_i v vs s ss _
    refine .cons ?_ ih q
    cases s with
    | emp => exact h1
    | val d => exact h1
    | own ds =>
      obtain ⟨a, xs, e, f, z, h2, r⟩ := h1
      exact ⟨a, xs, e, f, z, by rw [upd_ne (ne_of_none h2 hp)]; exact h2, r⟩
    | ownK ds => exact h1
end
/-! ### more fresh lists -/
section
variable {X : Cx} {W : WX} {k : Nat} {a b e : Expr} {fa fb : DExp} {fr : DArg} {p pos : Pos}
end
end DL

end
section
set_option Elab.async false
set_option linter.all false
set_option maxRecDepth 100000
set_option maxHeartbeats 4000000
/-! DRuns: how meanings are told: no exception, so many draws at most. -/
namespace DL
open PySem PySem.Spec PyProof.Rows L2
variable [Tb]

/-- runs without an exception, with at most c draws, the store left as it is; what it hands back meets S -/
def Runs {α : Type} (m : M α) (c : Nat) (S : α → Prop) : Prop := ∀ (n : Cn) (P : α → Cn → Prop) (E : D → Cn → Prop), n.k + c ≤ 2 ^ 60 → (∀ a n', n'.k ≤ n.k + c → n'.st = n.st → S a → P a n') → m.run n P E
section
variable {α β : Type}
theorem Runs.ret {a : α} {c : Nat} {S : α → Prop} (h : S a) : Runs (ret a) c S := fun n P E _ k => k a n (by omega) rfl h
theorem Runs.bnd {m : M α} {f : α → M β} {c c2 : Nat} {S : α → Prop} {T : β → Prop} (h : Runs m c S) (k : ∀ a, S a → Runs (f a) c2 T) : Runs (bnd m f) (c + c2) T := fun n P E hn hk =>
  h n _ E (by omega) fun a n' hn' hs ha => k a ha n' P E (by omega) fun b n2 hb hs2 h2 => hk b n2 (by omega) (hs2.trans hs) h2
theorem Runs.le {m : M α} {c c' : Nat} {S T : α → Prop} (h : Runs m c S) (hc : c ≤ c') (hS : ∀ a, S a → T a) : Runs m c' T := fun n P E hn hk => h n P E (by omega) fun a n' ha hst hs => hk a n' (by omega) hst (hS a hs)
theorem Runs.need {p : Prop} {m : M α} {c : Nat} {S : α → Prop} (hp : p) (h : Runs m c S) : Runs (need p m) c S := fun n P E hn hk => ⟨hp, h n P E hn hk⟩
theorem Runs.noex {m : M α} {c : Nat} {S : α → Prop} (h : Runs m c S) : Runs (noex m) c S := fun n P _ hn hk => h n P _ hn hk
theorem Runs.noexS {m : M α} {c : Nat} {S : α → Prop} (h : Runs m c S) : Runs (noexS m) c S := fun n P _ hn hk => h n _ _ hn fun a n' h1 h2 h3 => ⟨h2, hk a n' h1 h2 h3⟩
theorem Runs.any {Q S : α → Prop} {c : Nat} (h : ∀ a, Q a → S a) : Runs (any Q) c S := fun n P E hn hk a ha => hk a n (by omega) rfl (h a ha)
/-- the same, the draws' number given -/
theorem Runs.bndc {m : M α} {f : α → M β} {c c1 c2 : Nat} {S : α → Prop} {T : β → Prop} (h : Runs m c1 S) (hc : c1 + c2 ≤ c) (k : ∀ a, S a → Runs (f a) c2 T) : Runs (DL.bnd m f) c T := (h.bnd k).le hc fun _ z => z
theorem noex_ret (a : α) : noex (DL.ret a) = DL.ret a := M.ext fun n P E => Iff.rfl
end

/-! ### draws -/
def gDraw : Fn
  | [.rng _ _, .int lim] => ⟨fun n P _ => (0 < lim ∧ lim.natAbs.log2 < 9000 ∧ n.k < 2 ^ 60) ∧ ∀ r : Int, 0 ≤ r → r < lim → P (.int r) n.tick, fun h _ q => ⟨q.1, fun r a b => h _ _ (q.2 r a b)⟩⟩
  | _ => stuck
theorem runs_draw {z : Bool} {c : Nat} {lim : Int} (h : 0 < lim) (h2 : lim.natAbs.log2 < 9000) : Runs (gDraw [.rng z c, .int lim]) 1 fun d => ∃ r : Int, d = .int r ∧ 0 ≤ r ∧ r < lim := fun n P E hn hk =>
  ⟨⟨h, h2, by omega⟩, fun r h0 h1 => hk _ _ (Nat.le_refl _) rfl ⟨r, rfl, h0, h1⟩⟩
def gBegun : Fn
  | [.scr k] => need (k ≤ 100) (ret (.rng false (k + 1)))
  | _ => stuck

/-! ### comprehensions and loops by their members -/
theorem lcD_pure {vs : List Nat} {tg : D → En → Option En} {c : DTst} {f : DExp} {env : En} (e : D → En) (b : D → Bool) (g : D → D) : ∀ {ds : List D}, (∀ d ∈ ds, tg d (wipeE env vs) = some (e d) ∧ c (e d) = ret (b d) ∧ (b d = true → f (e d) = ret (g d))) → lcD vs tg c f env ds = ret ((ds.filter b).map g)
  | [], _ => rfl
  | d :: ds, h => by
    obtain ⟨h1, h2, h3⟩ := h d (by simp)
    have ih := lcD_pure (vs := vs) (tg := tg) (c := c) (f := f) (env := env) e b g (ds := ds) fun x hx => h x (by simp [hx])
    unfold lcD
    rw [h1]
    dsimp only
    rw [h2, noex_ret, bnd_ret]
    cases hb : b d with
    | true => rw [if_pos rfl, h3 hb, noex_ret, bnd_ret, ih, bnd_ret]; simp [List.filter_cons, hb]
    | false => rw [if_neg (by simp), ih]; simp [List.filter_cons, hb]
theorem loopD_runs {tg : D → En → Option En} {b : DStm} (I : En → Prop) (c0 : Nat) : ∀ {ds : List D} {env : En}, I env → (∀ d ∈ ds, ∀ env, I env → ∃ e1, tg d env = some e1 ∧ Runs (b e1) c0 fun f => ∃ e2, f = .nx e2 ∧ I e2) → Runs (loopD tg b ds env) (c0 * ds.length) fun f => ∃ e2, f = .nx e2 ∧ I e2
  | [], env, h, _ => Runs.ret ⟨env, rfl, h⟩
  | d :: ds, env, h, k => by
    obtain ⟨e1, h1, h2⟩ := k d (by simp) env h
    unfold loopD
    rw [h1]
    refine Runs.bndc h2 (c2 := c0 * ds.length) (by rw [List.length_cons, Nat.mul_add, Nat.mul_one]; omega) fun f hf => ?_
    obtain ⟨e2, rfl, hI⟩ := hf
    exact loopD_runs I c0 hI fun x hx => k x (by simp [hx])
end DL

end
section
set_option Elab.async false
set_option linter.all false
set_option maxRecDepth 100000
set_option maxHeartbeats 4000000
/-! DVal: comparing and showing data. -/
namespace DL
open PySem PySem.Spec PyProof.Rows L2
variable [Tb]

/-- nested data of the flat kinds, at most k deep -/
def plD : Nat → D → Bool
  | _, .non => true
  | _, .bl _ => true
  | _, .int _ => true
  | _, .str x => PyData.strOk x
  | k + 1, .tup l => l.all (plD k)
  | k + 1, .lst l => l.all (plD k)
  | _, _ => false
theorem pl_py : ∀ (k : Nat) (d : D), plD k d = true → ∃ p, toPy d = some p ∧ p.canLay0 = true ∧ p.depth ≤ k
  | k, .non, _ => ⟨.none, by cases k <;> rfl, by decide, Nat.zero_le _⟩
  | k, .bl b, _ => ⟨.bool b, by cases k <;> rfl, by cases b <;> decide, Nat.zero_le _⟩
  | k, .int i, _ => ⟨.int i, by cases k <;> rfl, by rfl, Nat.zero_le _⟩
  | k, .str x, h => ⟨.str x, by cases k <;> rfl, by cases k <;> exact h, Nat.zero_le _⟩
  | k + 1, .tup l, h0 => by
    have h : l.all (plD k) = true := h0
    clear h0
    rw [List.all_eq_true] at h
    have q : ∃ ps, toPys l = some ps ∧ PyData.canLayAll0 ps = true ∧ PyData.depthAll ps ≤ k := by
      induction l with
      | nil => exact ⟨[], rfl, rfl, Nat.zero_le _⟩
      | cons x xs ih =>
        obtain ⟨p, h1, h2, h3⟩ := pl_py k x (h x (by simp))
        obtain ⟨ps, g1, g2, g3⟩ := ih fun y hy => h y (by simp [hy])
        refine ⟨p :: ps, by simp only [toPys, h1, g1], by simp [PyData.canLayAll0, h2, g2], ?_⟩
        simp only [PyData.depthAll]; omega
    obtain ⟨ps, h1, h2, h3⟩ := q
    refine ⟨.tuple ps, by simp only [toPy, h1, Option.map_some], by simpa [PyData.canLay0] using h2, ?_⟩
    simp only [PyData.depth]; omega
  | k + 1, .lst l, h0 => by
    have h : l.all (plD k) = true := h0
    clear h0
    rw [List.all_eq_true] at h
    have q : ∃ ps, toPys l = some ps ∧ PyData.canLayAll0 ps = true ∧ PyData.depthAll ps ≤ k := by
      induction l with
      | nil => exact ⟨[], rfl, rfl, Nat.zero_le _⟩
      | cons x xs ih =>
        obtain ⟨p, h1, h2, h3⟩ := pl_py k x (h x (by simp))
        obtain ⟨ps, g1, g2, g3⟩ := ih fun y hy => h y (by simp [hy])
        refine ⟨p :: ps, by simp only [toPys, h1, g1], by simp [PyData.canLayAll0, h2, g2], ?_⟩
        simp only [PyData.depthAll]; omega
    obtain ⟨ps, h1, h2, h3⟩ := q
    refine ⟨.list ps, by simp only [toPy, h1, Option.map_some], by simpa [PyData.canLay0] using h2, ?_⟩
    simp only [PyData.depth]; omega
  | 0, .tup _, h => by cases h
  | 0, .lst _, h => by cases h
  | 0, .dct _, h => by cases h
  | _ + 1, .dct _, h => by cases h
  | 0, .scr _, h => by cases h
  | _ + 1, .scr _, h => by cases h
  | 0, .rng _ _, h => by cases h
  | _ + 1, .rng _ _, h => by cases h
  | 0, .exc _ _, h => by cases h
  | _ + 1, .exc _ _, h => by cases h
  | 0, .fn _, h => by cases h
  | _ + 1, .fn _, h => by cases h
  | 0, .ty _, h => by cases h
  | 0, .thk _ _ _ _ _, h => by cases h
  | _ + 1, .thk _ _ _ _ _, h => by cases h
  | 0, .obj _ _ _, h => by cases h
  | 0, .ptr _, h => by cases h
  | _ + 1, .obj _ _ _, h => by cases h
  | _ + 1, .ptr _, h => by cases h
  | _ + 1, .ty _, h => by cases h
theorem pl_shaped {k : Nat} {d : D} (h : plD k d = true) (hk : k ≤ 64) : ∃ p, toPy d = some p ∧ SeqAt.shaped p = true := by
  obtain ⟨p, h1, h2, h3⟩ := pl_py k d h
  exact ⟨p, h1, by unfold SeqAt.shaped; rw [h2, Bool.true_and]; exact decide_eq_true (by omega)⟩
/-- whether data are equal, as == tells -/
def eqD (d e : D) : Bool := match toPy d, toPy e with
  | some p, some q => PyData.eqv p q
  | _, _ => false
theorem gEq_pl {neg : Bool} {d e : D} (h1 : plD 20 d = true) (h2 : plD 20 e = true) : gEq neg d e = ret (.bl (if neg then !eqD d e else eqD d e)) := by
  obtain ⟨p, e1, s1⟩ := pl_shaped h1 (by decide)
  obtain ⟨q, e2, s2⟩ := pl_shaped h2 (by decide)
  unfold gEq
  split
  · rename_i a b
    have e : eqD (.str a) (.str b) = decide (a = b) := by
      show (a == b) = _
      by_cases h : a = b
      · subst h; simp
      · rw [decide_eq_false h]; simpa using h
    rw [e]
  · unfold gEqD eqD
    rw [e1, e2]
    exact need_of ⟨s1, s2⟩ _
theorem eqD_refl {d : D} (h : plD 20 d = true) : eqD d d = true := by
  obtain ⟨p, h1, h2, h3⟩ := pl_py 20 d h
  unfold eqD
  rw [h1]
  exact SeqAt.eqv_refl p h2
theorem gNe_same {d : D} (h : plD 20 d = true) : gEq true d d = ret (.bl false) := by
  rw [gEq_pl h h, eqD_refl h]; rfl
theorem pl_ints {k : Nat} (ns : List Int) : plD (k + 1) (.lst (ns.map D.int)) = true := by
  show (ns.map D.int).all (plD k) = true
  rw [List.all_eq_true]
  intro d hd
  obtain ⟨i, _, rfl⟩ := List.mem_map.mp hd
  cases k <;> rfl
theorem eqD_nil (l : List D) (h : plD 20 (.lst l) = true) : eqD (.lst l) (.lst []) = l.isEmpty := by
  cases l with
  | nil => exact eqD_refl h
  | cons x xs =>
    obtain ⟨p, h1, _, _⟩ := pl_py 20 _ h
    unfold eqD
    rw [h1]
    simp only [toPy, toPys] at h1 ⊢
    cases e1 : toPy x with
    | none => rw [e1] at h1; simp at h1
    | some p1 =>
      cases e2 : toPys xs with
      | none => rw [e1, e2] at h1; simp at h1
      | some ps =>
        rw [e1, e2] at h1
        simp at h1
        subst h1
        rfl
end DL

end
section
set_option Elab.async false
set_option linter.all false
set_option maxRecDepth 100000
set_option maxHeartbeats 4000000
/-! DGame: the draws' own defs mean gDraw, gBegun. -/
namespace DL
open PySem PySem.Spec PyProof.Rows L2
variable [Tb]
def s_draw19 : DStm :=
  sSeq (sIf (dTst (dBin gGt (dRg rngL (dVar 0)) (dK (.int 0)))) (sSeq (sAsg 5 (dBin gMod (dCb gInt (aCons (dRg rngL (dVar 0)) (aNil))) (dVar 1))) (sSeq (sRg tickL (dVar 0) (dBin gFdiv (dRg rngL (dVar 0)) (dVar 1))) (sRet (dVar 5)))) (sSkip)) (sSeq (sAsg 2 (dBin gAdd (dRg rngK (dVar 0)) (dK (.int 1)))) (sSeq (sRg tickK (dVar 0) (dVar 2)) (sSeq (sAsg 3 (dBin gIx (dRg rngC (dVar 0)) (dBin gMod (dCb gInt (aCons (dVar 2) (aNil))) (dCb gLen (aCons (dRg rngC (dVar 0)) (aNil)))))) (sSeq (sAsg 4 (dBin gMul (dCb gInt (aCons (dBin gAdd (dBin gAdd (dBin gMod (dCb gInt (aCons (dVar 3) (aNil))) (dK (.int 2147483629))) (dBin gMul (dK (.int 6133)) (dVar 2))) (dBin gMul (dBin gMul (dK (.int 23)) (dVar 2)) (dVar 2))) (aNil))) (dK (.int 48271)))) (sSeq (sAsg 4 (dBin gMul (dCb gInt (aCons (dBin gAdd (dBin gMod (dCb gInt (aCons (dVar 4) (aNil))) (dK (.int 2147483647))) (dBin gMul (dK (.int 93241)) (dVar 2))) (aNil))) (dK (.int 69621)))) (sRet (dBin gMod (dCb gInt (aCons (dBin gFdiv (dBin gMod (dCb gInt (aCons (dVar 4) (aNil))) (dK (.int 2147483587))) (dK (.int 13))) (aNil))) (dVar 1))))))))
def s_begun19 : DStm :=
  sSeq (sAsg 1 (dLc (iScr (dVar 0)) [2] (tgN 2) (dTst (dBin gGe (dVar 2) (dBin gPow (dK (.int 10)) (dK (.int 18))))) (dVar 2))) (sRet (dBeg (dBin gAdd (dCb gListS (aCons (dVar 0) (aNil))) (dLst (aCons (dCb gLen (aCons (dVar 0) (aNil))) (aNil)))) (dIf (dTst (dBin (gEq true) (dVar 1) (dLst (aNil)))) (dBin gIx (dVar 1) (dK (.int 0))) (dK (.int 0))) (dK (.int 0))))
theorem log2_lt {x : Int} {k : Nat} (h0 : 0 ≤ x) (h : x < 2 ^ k) (hk : 0 < k) : x.natAbs.log2 < k := by
  have e : x.natAbs < 2 ^ k := by
    have e1 : ((x.natAbs : Nat) : Int) = x := Int.natAbs_of_nonneg h0
    have : ((x.natAbs : Nat) : Int) < ((2 ^ k : Nat) : Int) := by rw [e1]; exact_mod_cast h
    exact_mod_cast this
  by_cases hx : x.natAbs = 0
  · rw [hx]; simpa using hk
  · exact (Nat.log2_lt hx).mpr e
theorem mulW_of {i j : Int} {a b : Nat} (hi : 0 ≤ i) (hj : 0 ≤ j) (h1 : i < 2 ^ a) (h2 : j < 2 ^ b) (ha : 0 < a) (hb : 0 < b) (h : a + b ≤ 1000000) : CMulW i j := by
  have := log2_lt hi h1 ha
  have := log2_lt hj h2 hb
  show i.natAbs.log2 + j.natAbs.log2 < 1000000
  omega
theorem at_mod {l : List D} {i : Int} (h : l ≠ []) : ∃ d, L2.atI l (i % (l.length : Nat)) = some d ∧ d ∈ l := by
  have hl : 0 < l.length := List.length_pos_iff.mpr h
  have h0 : 0 ≤ i % (l.length : Nat) := Int.emod_nonneg _ (by omega)
  have h1 : i % (l.length : Nat) < (l.length : Nat) := Int.emod_lt_of_pos _ (by omega)
  obtain ⟨j, hj⟩ : ∃ j : Nat, i % (l.length : Nat) = (j : Int) := ⟨(i % (l.length : Nat)).toNat, by omega⟩
  rw [hj] at h1 ⊢
  have hj2 : j < l.length := by omega
  refine ⟨l[j], ?_, by simp⟩
  unfold L2.atI L2.ixN
  simp [hj2]
theorem draw19 : ∀ (ds : List D) (n : Cn) (P : D → Cn → Prop) (E : D → Cn → Prop), (gDraw ds).run n P E → (fnOf (["a", "b", "c", "d", "e", "f"] : List Str).length s_draw19 ds).run n P E := by
  intro ds n P E q
  unfold gDraw at q
  split at q
  · rename_i z c lim
    obtain ⟨⟨h1, h2, h3⟩, q⟩ := q
    have md : ∀ x : Int, 0 ≤ x % lim ∧ x % lim < lim := fun x => ⟨Int.emod_nonneg _ (by omega), Int.emod_lt_of_pos _ h1⟩
    show (bnd (s_draw19 [.val (.rng z c), .val (.int lim), .emp, .emp, .emp, .emp]) _).run n P E
    show ∀ d, (∃ i, d = D.int i) → _
    rintro _ ⟨i, rfl⟩
    by_cases hi : 0 < i
    · have e : decide (0 < i) = true := decide_eq_true hi
      show M.run (if decide (0 < i) = true then _ else _) n _ _
      rw [if_pos e]
      show ∀ d, (∃ i, d = D.int i) → _
      rintro _ ⟨j, rfl⟩
      refine ⟨h1, ?_⟩
      show ∀ d, (∃ i, d = D.int i) → _
      rintro _ ⟨k, rfl⟩
      refine ⟨⟨h1, h2⟩, ?_⟩
      exact q _ (md _).1 (md _).2
    · have e : ¬ decide (0 < i) = true := by simpa using hi
      show M.run (if decide (0 < i) = true then _ else _) n _ _
      rw [if_neg e]
      show ∀ k : Int, 0 ≤ k → k ≤ n.k → _
      intro k k0 k1
      refine ⟨⟨by omega, by omega⟩, ?_⟩
      show ∀ d, (∃ cs : List Int, cs.length = c ∧ cs ≠ [] ∧ d = D.lst (cs.map D.int)) → _
      rintro _ ⟨cs, hc, hne, rfl⟩
      show ∀ d, (∃ cs : List Int, cs.length = c ∧ cs ≠ [] ∧ d = D.lst (cs.map D.int)) → _
      rintro _ ⟨cs2, hc2, hne2, rfl⟩
      have hl : 0 < cs.length := List.length_pos_iff.mpr hne
      refine ⟨show (0 : Int) < ((cs2.map D.int).length : Nat) by rw [List.length_map]; omega, ?_⟩
      obtain ⟨x, hx, hm⟩ := at_mod (l := cs.map D.int) (i := k + 1) (by simpa using hne)
      obtain ⟨y, _, rfl⟩ := List.mem_map.mp hm
      have e2 : (cs2.map D.int).length = (cs.map D.int).length := by rw [List.length_map, List.length_map]; omega
      show M.run (match L2.atI (cs.map D.int) ((k + 1) % ((cs2.map D.int).length : Nat)) with | some d => _ | none => _) n.tick _ _
      rw [e2, hx]
      have kb : k + 1 < 2 ^ 61 := by omega
      refine ⟨by decide, ?_⟩
      refine ⟨mulW_of (a := 13) (b := 61) (by decide) (by omega) (by decide) kb (by decide) (by decide) (by decide), ?_⟩
      refine ⟨mulW_of (a := 5) (b := 61) (by decide) (by omega) (by decide) kb (by decide) (by decide) (by decide), ?_⟩
      have k23 : 23 * (k + 1) < 2 ^ 66 := by omega
      refine ⟨mulW_of (a := 66) (b := 61) (by omega) (by omega) k23 kb (by decide) (by decide) (by decide), ?_⟩
      have sq : 23 * (k + 1) * (k + 1) ≤ 2 ^ 66 * 2 ^ 61 := Int.mul_le_mul (Int.le_of_lt k23) (Int.le_of_lt kb) (by omega) (by decide)
      have sq0 : 0 ≤ 23 * (k + 1) * (k + 1) := Int.mul_nonneg (by omega) (by omega)
      have m0 := Int.emod_nonneg y (show (2147483629 : Int) ≠ 0 by decide)
      have m1 := Int.emod_lt_of_pos y (show (0 : Int) < 2147483629 by decide)
      generalize hq : 23 * (k + 1) * (k + 1) = sqv at sq sq0 ⊢
      refine ⟨mulW_of (a := 130) (b := 20) (by omega) (by decide) (by omega) (by decide) (by decide) (by decide) (by decide), ?_⟩
      refine ⟨by decide, ?_⟩
      refine ⟨mulW_of (a := 18) (b := 61) (by decide) (by omega) (by decide) kb (by decide) (by decide) (by decide), ?_⟩
      generalize (y % 2147483629 + 6133 * (k + 1) + sqv) * 48271 = w
      have w0 := Int.emod_nonneg w (show (2147483647 : Int) ≠ 0 by decide)
      have w1 := Int.emod_lt_of_pos w (show (0 : Int) < 2147483647 by decide)
      refine ⟨mulW_of (a := 80) (b := 20) (by omega) (by decide) (by omega) (by decide) (by decide) (by decide) (by decide), ?_⟩
      refine ⟨by decide, ?_⟩
      refine ⟨⟨by decide, by decide⟩, ?_⟩
      refine ⟨h1, ?_⟩
      exact q _ (md _).1 (md _).2
  · exact q.elim
theorem begun19 : ∀ (ds : List D) (n : Cn) (P : D → Cn → Prop) (E : D → Cn → Prop), (gBegun ds).run n P E → (fnOf (["a", "b", "c"] : List Str).length s_begun19 ds).run n P E := by
  intro ds n P E q
  unfold gBegun at q
  split at q
  · rename_i k
    obtain ⟨hk, q⟩ := q
    show ∀ ns : List Int, ns.length = k → _
    intro ns hn
    refine ⟨by show (ns.map D.int).length ≤ sizeLine; rw [List.length_map, sizeLine_eq]; omega, ?_⟩
    have key : lcD [2] (tgN 2) (dTst (dBin gGe (dVar 2) (dBin gPow (dK (.int 10)) (dK (.int 18))))) (dVar 2) [.val (.scr k), .emp, .emp] (ns.map D.int) = ret ((ns.map D.int).filter (fun d => match d with | .int i => decide (10 ^ 18 ≤ i) | _ => false)) := by
      rw [lcD_pure (fun d => [.val (.scr k), .emp, .val d]) (fun d => match d with | .int i => decide (10 ^ 18 ≤ i) | _ => false) (fun d => d)]
      · rw [List.map_id']
      · intro d hd
        obtain ⟨i, _, rfl⟩ := List.mem_map.mp hd
        refine ⟨rfl, ?_, fun _ => rfl⟩
        have cp : CPow 10 18 := ⟨by decide, by decide, by decide⟩
        show bnd (bnd (ret (D.int i)) fun x => bnd (need (CPow 10 18) (ret (D.int (10 ^ 18)))) fun y => gGe x y) _ = _
        rw [need_of cp]
        rfl
    show M.run (bnd (lcD [2] (tgN 2) _ _ [.val (.scr k), .emp, .emp] (ns.map D.int)) _) n _ _
    rw [key]
    rw [bnd_ret]
    generalize hg : (ns.map D.int).filter (fun d => match d with | .int i => decide (10 ^ 18 ≤ i) | _ => false) = gs
    have gi : ∃ ms : List Int, gs = ms.map D.int := by
      refine ⟨ns.filter fun i => decide (10 ^ 18 ≤ i), ?_⟩
      rw [← hg, List.filter_map]; rfl
    obtain ⟨ms, rfl⟩ := gi
    show ∀ cs : List Int, cs.length = k → _
    intro cs hc
    refine ⟨by show 1 ≤ sizeLine; decide, ?_⟩
    refine ⟨by show (cs.map D.int).length + 1 ≤ sizeLine; rw [List.length_map, sizeLine_eq]; omega, ?_⟩
    have ge : gEq true (.lst (ms.map D.int)) (.lst []) = ret (.bl (!ms.isEmpty)) := by
      rw [gEq_pl (pl_ints ms) rfl, eqD_nil _ (pl_ints ms)]; simp
    show M.run (bnd (bnd (need (0 ≤ sizeLine) (ret (D.lst []))) fun y => gEq true (.lst (ms.map D.int)) y) _) n _ _
    rw [need_of (Nat.zero_le _), bnd_ret, ge, bnd_ret]
    have fin : ∀ i : Int, (begC false (.lst (cs.map D.int ++ [.int k])) (.int i) (.int 0)).run n P E := fun i => by
      have e : cs.map D.int ++ [D.int k] = (cs ++ [(k : Int)]).map D.int := by simp
      rw [e]
      show M.run (match intsD ((cs ++ [(k : Int)]).map D.int) with | some ns => need (ns ≠ [] ∧ (0 : Int) = 0) (ret (.rng false ns.length)) | none => stuck) n P E
      rw [intsD_map]
      refine ⟨⟨by simp, rfl⟩, ?_⟩
      have e2 : (cs ++ [(k : Int)]).length = k + 1 := by simp [hc]
      rw [e2]
      exact q
    cases ms with
    | nil =>
      show (begC false (.lst (cs.map D.int ++ [.int k])) (.int 0) (.int 0)).run n _ _
      exact fin 0
    | cons m ms =>
      have e0 : L2.atI ((m :: ms).map D.int) 0 = some (.int m) := by
        unfold L2.atI L2.ixN
        simp
      show M.run (match L2.atI ((m :: ms).map D.int) 0 with | some d => ret d | none => stuck) n _ _
      rw [e0]
      exact fin m
  · exact q.elim
end DL

end
section
set_option Elab.async false
set_option linter.all false
set_option maxRecDepth 100000
set_option maxHeartbeats 4000000
/-! DShow: repr of data. -/
namespace DL
open PySem PySem.Spec PyProof.Rows L2
variable [Tb]
/-- a bound of the text's length -/
def wtD : Nat → D → Nat
  | _, .non => 4
  | _, .bl _ => 5
  | _, .int i => if i.natAbs < 10 ^ 60 then 61 else 100000000
  | _, .str x => if x.cps.all (· < 16 ^ 8) then 10 * x.length + 2 else 100000000
  | k + 1, .tup l => (l.map fun d => wtD k d + 2).sum + 3
  | k + 1, .lst l => (l.map fun d => wtD k d + 2).sum + 3
  | _, _ => 100000000
def rtxt (d : D) : Str := match toPy d with
  | some p => p.shown
  | none => ""
theorem int_show {i : Int} (h : i.natAbs < 10 ^ 60) : (PyData.shown (.int i)).length ≤ 61 ∧ (PyData.int i).showable = true := by
  constructor
  · have h1 := int_text_length_le10 (a := i) (k := 60) (by decide) h
    simp only [PyData.shown]
    rw [PySem.ofString_length]; exact h1
  · simp only [PyData.showable, decide_eq_true_eq]
    have : i.natAbs < 2 ^ 200 := Nat.lt_trans h (by decide)
    by_cases h0 : i.natAbs = 0
    · rw [h0]; decide
    · have := (Nat.log2_lt h0).mpr this
      omega
theorem show_seq (k : Nat) (ih : ∀ (d : D) (p : PyData), toPy d = some p → wtD k d < 100000000 → p.shown.length ≤ wtD k d ∧ p.showable = true ∧ p.hasDict = false ∧ p.depth ≤ k) :
    ∀ (l : List D) (ps : List PyData), toPys l = some ps → (l.map fun d => wtD k d + 2).sum < 100000000 →
      ((PyData.shownAll ps).map (·.length)).sum + 2 * ps.length ≤ (l.map fun d => wtD k d + 2).sum ∧ PyData.showableAll ps = true ∧ PyData.hasDictAll ps = false ∧ PyData.depthAll ps ≤ k ∧ (PyData.shownAll ps).length = ps.length
  | [], ps, h, _ => by
    simp only [toPys, Option.some.injEq] at h
    subst h
    simp [PyData.shownAll, PyData.showableAll, PyData.hasDictAll, PyData.depthAll]
  | d :: l, ps, h, hw => by
    cases e1 : toPy d with
    | none => simp only [toPys, e1] at h; cases h
    | some p =>
      cases e2 : toPys l with
      | none => simp only [toPys, e1, e2] at h; cases h
      | some qs =>
        simp only [toPys, e1, e2, Option.some.injEq] at h
        subst h
        rw [List.map_cons, List.sum_cons] at hw ⊢
        obtain ⟨a1, a2, a3, a4⟩ := ih d p e1 (by omega)
        obtain ⟨b1, b2, b3, b4, b5⟩ := show_seq k ih l qs e2 (by omega)
        simp only [PyData.shownAll, PyData.showableAll, PyData.hasDictAll, PyData.depthAll, List.map_cons, List.sum_cons, List.length_cons, a2, a3, b2, b3, b5, Bool.and_self, Bool.or_self, true_and]
        refine ⟨by omega, ?_⟩
        exact ⟨by omega, trivial⟩
theorem show_le : ∀ (k : Nat) (d : D) (p : PyData), toPy d = some p → wtD k d < 100000000 → p.shown.length ≤ wtD k d ∧ p.showable = true ∧ p.hasDict = false ∧ p.depth ≤ k
  | k, .non, p, h, _ => by
    simp only [toPy, Option.some.injEq] at h
    subst h
    have e : wtD k .non = 4 := by cases k <;> rfl
    rw [e]
    exact ⟨by decide, rfl, by simp only [PyData.hasDict], Nat.zero_le _⟩
  | k, .bl b, p, h, _ => by
    simp only [toPy, Option.some.injEq] at h
    subst h
    have e : wtD k (.bl b) = 5 := by cases k <;> rfl
    rw [e]
    exact ⟨by cases b <;> decide, rfl, by simp only [PyData.hasDict], Nat.zero_le _⟩
  | k, .int i, p, h, hw => by
    simp only [toPy, Option.some.injEq] at h
    subst h
    have e : wtD k (.int i) = if i.natAbs < 10 ^ 60 then 61 else 100000000 := by cases k <;> rfl
    rw [e] at hw ⊢
    by_cases hi : i.natAbs < 10 ^ 60
    · rw [if_pos hi]
      obtain ⟨h1, h2⟩ := int_show hi
      exact ⟨h1, h2, by simp only [PyData.hasDict], Nat.zero_le _⟩
    · rw [if_neg hi] at hw; omega
  | k, .str x, p, h, hw => by
    simp only [toPy, Option.some.injEq] at h
    subst h
    have e : wtD k (.str x) = if x.cps.all (· < 16 ^ 8) then 10 * x.length + 2 else 100000000 := by cases k <;> rfl
    rw [e] at hw ⊢
    by_cases hi : x.cps.all (· < 16 ^ 8) = true
    · rw [if_pos hi]
      refine ⟨?_, rfl, by simp only [PyData.hasDict], Nat.zero_le _⟩
      simp only [PyData.shown]
      refine StrLaws.reprText_len x fun c hc => ?_
      have := Array.all_eq_true_iff_forall_mem.mp hi c (by simpa using hc)
      simpa using this
    · rw [if_neg hi] at hw; omega
  | k + 1, .tup l, p, h, hw => by
    cases e2 : toPys l with
    | none => simp only [toPy, e2, Option.map_none] at h; cases h
    | some ps =>
      simp only [toPy, e2, Option.map_some, Option.some.injEq] at h
      subst h
      have e : wtD (k + 1) (.tup l) = (l.map fun d => wtD k d + 2).sum + 3 := rfl
      rw [e] at hw ⊢
      obtain ⟨b1, b2, b3, b4, b5⟩ := show_seq k (show_le k) l ps e2 (by omega)
      refine ⟨?_, by simpa only [PyData.showable] using b2, by simpa only [PyData.hasDict] using b3, by simp only [PyData.depth]; omega⟩
      have := tupleText_len_le (PyData.shownAll ps)
      simp only [PyData.shown]
      omega
  | k + 1, .lst l, p, h, hw => by
    cases e2 : toPys l with
    | none => simp only [toPy, e2, Option.map_none] at h; cases h
    | some ps =>
      simp only [toPy, e2, Option.map_some, Option.some.injEq] at h
      subst h
      have e : wtD (k + 1) (.lst l) = (l.map fun d => wtD k d + 2).sum + 3 := rfl
      rw [e] at hw ⊢
      obtain ⟨b1, b2, b3, b4, b5⟩ := show_seq k (show_le k) l ps e2 (by omega)
      refine ⟨?_, by simpa only [PyData.showable] using b2, by simpa only [PyData.hasDict] using b3, by simp only [PyData.depth]; omega⟩
      have := listText_len_le (PyData.shownAll ps)
      simp only [PyData.shown]
      omega
  | 0, .tup l, p, _, hw => absurd (show (100000000 : Nat) < 100000000 from hw) (by decide)
  | 0, .lst l, p, _, hw => absurd (show (100000000 : Nat) < 100000000 from hw) (by decide)
  | k, .dct _, p, h, hw => by simp only [toPy] at h; cases h
  | k, .scr _, p, h, hw => by simp only [toPy] at h; cases h
  | k, .rng _ _, p, h, hw => by simp only [toPy] at h; cases h
  | k, .exc _ _, p, h, hw => by simp only [toPy] at h; cases h
  | k, .fn _, p, h, hw => by simp only [toPy] at h; cases h
  | k, .ty _, p, h, hw => by simp only [toPy] at h; cases h
theorem gRepr_ok {d : D} (h : plD 20 d = true) (hw : wtD 20 d ≤ 16000000) : gRepr [d] = ret (.str (rtxt d)) := by
  obtain ⟨p, h1, _, _⟩ := pl_py 20 d h
  obtain ⟨a1, a2, a3, a4⟩ := show_le 20 d p h1 (by omega)
  have e : rtxt d = p.shown := by unfold rtxt; rw [h1]
  rw [e]
  show (match toPy d with | some p => need (p.showable = true ∧ p.hasDict = false ∧ p.depth ≤ 60 ∧ p.shown.length ≤ sizeLine) (ret (D.str p.shown)) | none => stuck) = _
  rw [h1]
  exact need_of ⟨a2, a3, by omega, by rw [sizeLine_eq]; omega⟩ _
end DL

end
section
set_option Elab.async false
set_option linter.all false
set_option maxRecDepth 100000
set_option maxHeartbeats 4000000
/-! DSimp: how meanings are worked out. -/
namespace DL
open PySem PySem.Spec PyProof.Rows L2
variable [Tb]
section
variable {α β : Type}
@[simp] theorem x_need {p : Prop} {m : M α} (h : p) : need p m = m := need_of h m
@[simp] theorem x_noex (a : α) : noex (ret a) = ret a := noex_ret a
@[simp] theorem x_seq (s t : DStm) (env : En) : sSeq s t env = bnd (s env) fun f => match f with | .nx e => t e | .rt d => ret (.rt d) := rfl
@[simp] theorem x_ret (f : DExp) (env : En) : sRet f env = bnd (f env) fun d => ret (.rt d) := rfl
@[simp] theorem x_if (c : DTst) (s t : DStm) (env : En) : sIf c s t env = bnd (c env) fun b => if b = true then s env else t env := rfl
@[simp] theorem x_asg (i : Nat) (f : DExp) (env : En) : sAsg i f env = bnd (f env) fun d => ret (.nx (env.set i (.val d))) := rfl
@[simp] theorem x_drop (f : DExp) (env : En) : sDrop f env = bnd (f env) fun _ => ret (.nx env) := rfl
@[simp] theorem x_skip (env : En) : sSkip env = ret (.nx env) := rfl
@[simp] theorem x_own (i : Nat) (f : DFl) (env : En) : sOwn i f env = bnd (f env) fun ds => ret (.nx (env.set i (.own ds))) := rfl
@[simp] theorem x_pars (is : List Nat) (m : DSl) (env : En) : sPars is m env = bnd (m env) fun ss => match setsE is ss env with | some env' => ret (.nx env') | none => stuck := rfl
@[simp] theorem x_unp (tg : D → En → Option En) (f : DExp) (env : En) : sUnp tg f env = bnd (f env) fun d => match tg d env with | some env' => ret (.nx env') | none => stuck := rfl
@[simp] theorem x_app (i : Nat) (f : DExp) (env : En) : sApp i f env = match env[i]? with | some (.own ds) => bnd (f env) fun d => need (ds.length < sizeLine) (ret (.nx (env.set i (.own (ds ++ [d]))))) | _ => stuck := rfl
@[simp] theorem x_for (fi : DIt) (tg : D → En → Option En) (b : DStm) (env : En) : sFor fi tg b env = bnd (fi env) fun ds => loopD tg b ds env := rfl
@[simp] theorem x_frz (i : Nat) (s : DStm) (env : En) : sFrz i s env = s (match env[i]? with | some (.own ds) => env.set i (.val (.lst ds)) | _ => env) := rfl
@[simp] theorem x_peek (i : Nat) (f : DExp) (env : En) : dPeek i f env = bnd (noexS (f (match env[i]? with | some (.own ds) => env.set i (.val (.lst ds)) | _ => env))) fun d => need (scalarD d = true) (ret d) := rfl
@[simp] theorem x_tpeek (i : Nat) (f : DTst) (env : En) : tPeek i f env = noexS (f (match env[i]? with | some (.own ds) => env.set i (.val (.lst ds)) | _ => env)) := rfl
@[simp] theorem x_var (i : Nat) (env : En) : dVar i env = match env[i]? with | some (.val d) => ret d | _ => stuck := rfl
@[simp] theorem x_k (d : D) (env : En) : dK d env = ret d := rfl
@[simp] theorem x_bin (g : D → D → M D) (a b : DExp) (env : En) : dBin g a b env = bnd (a env) fun x => bnd (b env) fun y => g x y := rfl
@[simp] theorem x_un (g : D → M D) (a : DExp) (env : En) : dUn g a env = bnd (a env) g := rfl
@[simp] theorem x_tst (f : DExp) (env : En) : dTst f env = bnd (f env) fun d => match d with | .bl b => ret b | _ => stuck := rfl
@[simp] theorem x_chain (g g' : D → D → M D) (fa fb fc : DExp) (env : En) : dChain g g' fa fb fc env = bnd (fa env) fun x => bnd (fb env) fun y => bnd (g x y) fun z => match z with
  | .bl true => bnd (fc env) fun w => g' y w
  | .bl false => ret (.bl false)
  | _ => stuck := rfl
@[simp] theorem x_not (f : DTst) (env : En) : dNot f env = bnd (f env) fun b => ret (!b) := rfl
@[simp] theorem x_and (f g : DTst) (env : En) : dAnd f g env = bnd (f env) fun b => if b = true then g env else ret false := rfl
@[simp] theorem x_or (f g : DTst) (env : En) : dOr f g env = bnd (f env) fun b => if b = true then ret true else g env := rfl
@[simp] theorem x_andv (f g : DExp) (env : En) : dAndV f g env = bnd (dTst f env) fun b => if b = true then g env else ret (.bl false) := rfl
@[simp] theorem x_orv (f g : DExp) (env : En) : dOrV f g env = bnd (dTst f env) fun b => if b = true then ret (.bl true) else g env := rfl
@[simp] theorem x_notv (f : DExp) (env : En) : dNotV f env = bnd (dTst f env) fun b => ret (.bl (!b)) := rfl
@[simp] theorem x_ife (c : DTst) (f g : DExp) (env : En) : dIf c f g env = bnd (c env) fun b => if b = true then f env else g env := rfl
@[simp] theorem x_anil (env : En) : aNil env = ret [] := rfl
@[simp] theorem x_acons (f : DExp) (r : DArg) (env : En) : aCons f r env = bnd (f env) fun x => bnd (r env) fun xs => ret (x :: xs) := rfl
@[simp] theorem x_tup (r : DArg) (env : En) : dTup r env = bnd (r env) fun xs => need (xs.length ≤ sizeLine) (ret (.tup xs)) := rfl
@[simp] theorem x_lst (r : DArg) (env : En) : dLst r env = bnd (r env) fun xs => need (xs.length ≤ sizeLine) (ret (.lst xs)) := rfl
@[simp] theorem x_flst (r : DArg) (env : En) : fLst r env = bnd (r env) fun xs => need (xs.length ≤ sizeLine) (ret xs) := rfl
@[simp] theorem x_mnil (env : En) : mNil env = ret [] := rfl
@[simp] theorem x_mval (f : DExp) (r : DSl) (env : En) : mVal f r env = bnd (f env) fun d => bnd (r env) fun ss => ret (.val d :: ss) := rfl
@[simp] theorem x_mown (f : DFl) (r : DSl) (env : En) : mOwn f r env = bnd (f env) fun ds => bnd (r env) fun ss => ret (.own ds :: ss) := rfl
@[simp] theorem x_sets0 (env : En) : setsE [] [] env = some env := rfl
@[simp] theorem x_sets1 (i : Nat) (is : List Nat) (s : Slot) (ss : List Slot) (env : En) : setsE (i :: is) (s :: ss) env = setsE is ss (env.set i s) := rfl
@[simp] theorem x_call (m : Nat) (φ : Fn) (fa : DArg) (env : En) : dCall m φ fa env = bnd (fa env) fun ds => need (ds.length = m) (φ ds) := rfl
@[simp] theorem x_cb (g : List D → M D) (fa : DArg) (env : En) : dCb g fa env = bnd (fa env) g := rfl
@[simp] theorem x_onone (env : En) : oNone env = ret none := rfl
@[simp] theorem x_osome (f : DExp) (env : En) : oSome f env = bnd (f env) fun d => match d with | .int i => ret (some i) | _ => stuck := rfl
@[simp] theorem x_sl (fe : DExp) (fl fh : DOpt) (env : En) : dSl fe fl fh env = bnd (fe env) fun d => bnd (fl env) fun l => bnd (fh env) fun h => gSl d l h := rfl
@[simp] theorem x_lc (fi : DIt) (vs : List Nat) (tg : D → En → Option En) (c : DTst) (f : DExp) (env : En) : dLc fi vs tg c f env = bnd (fi env) fun ds => need (ds.length ≤ sizeLine) (bnd (lcD vs tg c f env ds) fun xs => ret (.lst xs)) := rfl
@[simp] theorem x_ival (f : DExp) (env : En) : iVal f env = bnd (f env) itemsOf := rfl
@[simp] theorem x_items_l (l : List D) : itemsOf (.lst l) = ret l := rfl
@[simp] theorem x_items_t (l : List D) : itemsOf (.tup l) = ret l := rfl
@[simp] theorem x_ir1 (fa : DArg) (env : En) : iRange1 fa env = bnd (fa env) fun ds => match ds with | [.int j] => need (-(2 ^ 62) ≤ j ∧ j < 2 ^ 62) (ret (rangeD 0 j.toNat)) | _ => stuck := rfl
@[simp] theorem x_ir2 (fa : DArg) (env : En) : iRange2 fa env = bnd (fa env) fun ds => match ds with | [.int i, .int j] => need (-(2 ^ 62) ≤ i ∧ i < 2 ^ 62 ∧ -(2 ^ 62) ≤ j ∧ j < 2 ^ 62) (ret (rangeD i (j - i).toNat)) | _ => stuck := rfl
@[simp] theorem x_ien (fa : DArg) (env : En) : iEn fa env = bnd (fa env) fun ds => match ds with | [d] => bnd (itemsOf d) fun l => ret (enumD l) | _ => stuck := rfl
@[simp] theorem x_iz (fa : DArg) (env : En) : iZ2 fa env = bnd (fa env) fun ds => match ds with | [d, d'] => bnd (itemsOf d) fun l => bnd (itemsOf d') fun l' => ret (pairsD l l') | _ => stuck := rfl
@[simp] theorem x_lrg (f : DExp) (env : En) : dListRg f env = bnd (f env) fun d => bnd (rgL d) fun l => ret (.lst l) := rfl
@[simp] theorem x_rgL (j : Int) : rgL (.int j) = need (0 ≤ j ∧ j ≤ 16777216) (ret (rangeD 0 j.toNat)) := rfl
@[simp] theorem x_yes (env : En) : cYes env = ret true := rfl
@[simp] theorem x_tgn (i : Nat) (d : D) (env : En) : tgN i d env = some (env.set i (.val d)) := rfl
@[simp] theorem x_body (s : DStm) (env : En) : body s env = bnd (s env) fun f => match f with | .nx _ => ret .non | .rt d => ret d := rfl
theorem x_fn (n : Nat) (s : DStm) (ds : List D) : fnOf n s ds = bnd (s (ds.map Slot.val ++ List.replicate (n - ds.length) Slot.emp)) fun f => match f with | .nx _ => ret .non | .rt d => ret d := rfl
/-! the operators -/
@[simp] theorem g_add_i (i j : Int) : gAdd (.int i) (.int j) = ret (.int (i + j)) := rfl
@[simp] theorem g_add_l (a b : List D) : gAdd (.lst a) (.lst b) = need (a.length + b.length ≤ sizeLine) (ret (.lst (a ++ b))) := rfl
@[simp] theorem g_add_t (a b : List D) : gAdd (.tup a) (.tup b) = need (a.length + b.length ≤ sizeLine) (ret (.tup (a ++ b))) := rfl
@[simp] theorem g_add_s (a b : Str) : gAdd (.str a) (.str b) = need (a.length + b.length ≤ sizeLine) (ret (.str (a ++ b))) := rfl
@[simp] theorem g_sub_i (i j : Int) : gSub (.int i) (.int j) = ret (.int (i - j)) := rfl
@[simp] theorem g_mul_i (i j : Int) : gMul (.int i) (.int j) = need (CMulW i j) (ret (.int (i * j))) := rfl
@[simp] theorem g_mul_l (a : List D) (k : Int) : gMul (.lst a) (.int k) = need (a.length * k.toNat ≤ sizeLine ∧ -(2 ^ 63) ≤ k ∧ k < 2 ^ 63) (ret (.lst (List.replicate k.toNat a).flatten)) := rfl
@[simp] theorem g_mod_i (i j : Int) : gMod (.int i) (.int j) = need (0 < j) (ret (.int (i % j))) := rfl
@[simp] theorem g_fdiv_i (i j : Int) : gFdiv (.int i) (.int j) = need (CDivW i j) (ret (.int (i / j))) := rfl
@[simp] theorem g_pow_i (i j : Int) : gPow (.int i) (.int j) = need (CPow i j) (ret (.int (i ^ j.toNat))) := rfl
@[simp] theorem g_neg_i (i : Int) : gNeg (.int i) = ret (.int (-i)) := rfl
@[simp] theorem g_lt_i (i j : Int) : gLt (.int i) (.int j) = ret (.bl (decide (i < j))) := rfl
@[simp] theorem g_gt_i (i j : Int) : gGt (.int i) (.int j) = ret (.bl (decide (j < i))) := rfl
@[simp] theorem g_ge_i (i j : Int) : gGe (.int i) (.int j) = ret (.bl (decide (j ≤ i))) := rfl
@[simp] theorem g_len_l (l : List D) : gLen [.lst l] = ret (.int l.length) := rfl
@[simp] theorem g_len_t (l : List D) : gLen [.tup l] = ret (.int l.length) := rfl
@[simp] theorem g_len_s (s : Str) : gLen [.str s] = need (s.length ≤ sizeLine) (ret (.int s.length)) := rfl
@[simp] theorem g_len_c (k : Nat) : gLen [.scr k] = ret (.int k) := rfl
@[simp] theorem g_int_i (i : Int) : gInt [.int i] = ret (.int i) := rfl
@[simp] theorem g_min2 (i j : Int) : gMin2 [.int i, .int j] = ret (.int (if j < i then j else i)) := rfl
end
/-! == of flat things -/
@[simp] theorem g_eq_i (neg : Bool) (i j : Int) : gEq neg (.int i) (.int j) = ret (.bl (if neg then !decide (i = j) else decide (i = j))) := by
  rw [gEq_pl rfl rfl]; rfl
@[simp] theorem g_eq_b (neg : Bool) (i j : Bool) : gEq neg (.bl i) (.bl j) = ret (.bl (if neg then !(i == j) else i == j)) := by
  rw [gEq_pl rfl rfl]; rfl
@[simp] theorem g_eq_s (neg : Bool) (i j : Str) : gEq neg (.str i) (.str j) = ret (.bl (if neg then !decide (i = j) else decide (i = j))) := rfl
end DL

end
section
set_option Elab.async false
set_option linter.all false
set_option maxRecDepth 100000
set_option maxHeartbeats 4000000
/-! DLaw: the law's promise. -/
namespace DL
open PySem PySem.Spec PyProof.Rows L2
variable [Tb]
def spLaw (K : PySem.W.Frag) : Sp := fun vs H Q _ => ∃ (a : Addr) (ns : List Int), vs = [.ref a] ∧ SqL K H a (ns.map V.int) ∧ ns.length ≤ 63 ∧ TabsK H ∧ ∀ H', Q (.bl true) H'
theorem sto0 {K : PySem.W.Frag} {mg : Str → Option Value} {F H : Hp} : Sto K mg ⟨0, [], K, mg⟩ F H := ⟨fun i e h => by simp at h, fun i j e f h => by simp at h, rfl, rfl⟩
/-- from what the law's mirror does at the start -/
theorem law_spS {K : PySem.W.Frag} {mg : Str → Option Value} {φ : Fn} (h : ∀ k, k ≤ 63 → ∀ (n : Cn) (P : D → Cn → Prop) (E : D → Cn → Prop), n.k = 0 → n.st = [] → (∀ n', P (.bl true) n') → (φ [.scr k]).run n P E) {vs : List V} {H : Hp} {Q : VK} {E : XK} (q : spLaw K vs H Q E) : spD K mg 1 φ vs H Q E := by
  obtain ⟨a, ns, rfl, hs, hn, tb, q⟩ := q
  refine ⟨rfl, ⟨0, [], K, mg⟩, H, [.scr ns.length], fun _ _ e => e, ⟨tb, sto0⟩, .one (.scr hs), h _ hn _ _ _ rfl rfl fun n' => ?_⟩
  intro v F' H' _ r
  cases r
  exact q H'
theorem law_sp {K : PySem.W.Frag} {mg : Str → Option Value} {φ : Fn} {c : Nat} (hc : c ≤ 2 ^ 60) (h : ∀ k, k ≤ 63 → Runs (φ [.scr k]) c fun d => d = .bl true) {vs : List V} {H : Hp} {Q : VK} {E : XK} (q : spLaw K vs H Q E) : spD K mg 1 φ vs H Q E :=
  law_spS (fun k hk n P E h0 _ hp => h k hk n P E (by omega) fun a n' _ _ ha => by rw [ha]; exact hp n') q
theorem w_of {P : Program} {w : World} {K : PySem.W.Frag} {mg : Str → Option Value} {base : Heap} {N ps : List Str} {st : Stmt} {k : Nat} {s : DStm} {x : Str} {f : Addr} {fd : FuncData} (F : Fun K x x st f fd) (S : FnScope N ps (defScope st))
    (hb : ∀ (f : Addr) (cd : Value) (R : Around) (callers : List PySem.Env) (t : Shared) (H : Hp) (E : XK), Kx (cxOf (L2.CX P w) P w K mg base N x (defScope st) f cd R callers t H E) (fun cls d _ H => E cls d H) k →
      DSs (cxOf (L2.CX P w) P w K mg base N x (defScope st) f cd R callers t H E) (fun cls d _ H => E cls d H) (defBody st) s) : FnG P w K mg base (k + 1) f fd ps (spD K mg ps.length (fnOf N.length s)) :=
  FnG.okD F S fun cd R callers t H E rm gd => hb f cd R callers t H E (Kx.of rm gd S.nd)
end DL

end
section
set_option Elab.async false
set_option linter.all false
set_option maxRecDepth 100000
set_option maxHeartbeats 4000000
/-! DMath: every other one; corners. -/
namespace DL
open PySem PySem.Spec PyProof.Rows L2
variable [Tb]
/-- a corner -/
structure CornerOk (ns : List Int) : Prop where
  two : 2 ≤ ns.length
  most : ns.length ≤ 12
  pos : ∀ a ∈ ns, 1 ≤ a
  sum : ns.sum ≤ 10 ^ 30
theorem le_sum : ∀ {ns : List Int}, (∀ a ∈ ns, 1 ≤ a) → (∀ a ∈ ns, a ≤ ns.sum) ∧ 0 ≤ ns.sum
  | [], _ => ⟨by simp, by simp⟩
  | x :: xs, h => by
    obtain ⟨h1, h2⟩ := le_sum (ns := xs) fun a ha => h a (by simp [ha])
    have hx := h x (by simp)
    rw [List.sum_cons]
    refine ⟨fun a ha => ?_, by omega⟩
    rcases List.mem_cons.mp ha with rfl | ha
    · omega
    · have := h1 a ha; omega
theorem CornerOk.le {ns : List Int} (c : CornerOk ns) : ∀ a ∈ ns, 1 ≤ a ∧ a ≤ 10 ^ 30 := fun a ha => ⟨c.pos a ha, Int.le_trans ((le_sum c.pos).1 a ha) c.sum⟩
theorem lcD_map {α : Type} {vs : List Nat} {tg : D → En → Option En} {c : DTst} {f : DExp} {env : En} (m : α → D) (e : α → En) (b : α → Bool) (g : α → D) : ∀ {l : List α}, (∀ a ∈ l, tg (m a) (wipeE env vs) = some (e a) ∧ c (e a) = ret (b a) ∧ (b a = true → f (e a) = ret (g a))) → lcD vs tg c f env (l.map m) = ret ((l.filter b).map g)
  | [], _ => rfl
  | d :: ds, h => by
    obtain ⟨h1, h2, h3⟩ := h d (by simp)
    have ih := lcD_map (vs := vs) (tg := tg) (c := c) (f := f) (env := env) m e b g (l := ds) fun x hx => h x (by simp [hx])
    rw [List.map_cons]
    unfold lcD
    rw [h1]
    dsimp only
    rw [h2, noex_ret, bnd_ret]
    cases hb : b d with
    | true => rw [if_pos rfl, h3 hb, noex_ret, bnd_ret, ih, bnd_ret]; simp [List.filter_cons, hb]
    | false => rw [if_neg (by simp), ih]; simp [List.filter_cons, hb]
theorem lcD_mapY {α : Type} {vs : List Nat} {tg : D → En → Option En} {f : DExp} {env : En} (m : α → D) (e : α → En) (g : α → D) {l : List α} (h : ∀ a ∈ l, tg (m a) (wipeE env vs) = some (e a) ∧ f (e a) = ret (g a)) : lcD vs tg cYes f env (l.map m) = ret (l.map g) := by
  have q := lcD_map (c := cYes) m e (fun _ => true) g (l := l) fun a ha => ⟨(h a ha).1, rfl, fun _ => (h a ha).2⟩
  rw [List.filter_eq_self.mpr fun _ _ => rfl] at q
  exact q
@[simp] theorem enum_map {α : Type} (m : α → D) (l : List α) : enumD (l.map m) = l.zipIdx.map fun p => .tup [.int (p.2 : Nat), m p.1] := by
  unfold enumD
  rw [List.zipIdx_map, List.map_map]
  rfl
@[simp] theorem tg_two {i j : Nat} {a b : D} {env : En} : tgT 2 (tgsCons (tgN i) (tgsCons (tgN j) tgsNil)) (.tup [a, b]) env = some ((env.set i (.val a)).set j (.val b)) := rfl
@[simp] theorem x_bnd_ite {α β : Type} (c : Prop) [Decidable c] (a b : M α) (f : α → M β) : bnd (if c then a else b) f = if c then bnd a f else bnd b f := bnd_ite c a b f
theorem ixN_nat {n i : Nat} (h : i < n) : ixN n (i : Int) = some i := by
  unfold L2.ixN
  rw [if_pos (by omega), if_pos (by omega), Int.toNat_natCast]
theorem ix_l {l : List D} {i : Nat} {d : D} (h : l[i]? = some d) : gIx (.lst l) (.int (i : Int)) = ret d := by
  have hi := (List.getElem?_eq_some_iff.mp h).1
  show (match L2.atI l (i : Int) with | some d => ret d | none => stuck) = _
  unfold L2.atI
  rw [ixN_nat hi, Option.bind_some, h]
theorem ix_t {l : List D} {i : Nat} {d : D} (h : l[i]? = some d) : gIx (.tup l) (.int (i : Int)) = ret d := ix_l h
/-! ### letters -/
def sgC (b : Bool) : Nat := if b then 86 else 77
def sg (bs : List Bool) : Str := ⟨(bs.map sgC).toArray⟩
theorem sg_len (bs : List Bool) : (sg bs).length = bs.length := by
  show ((bs.map sgC).toArray).size = _
  simp
theorem sg_ok (bs : List Bool) : PyData.strOk (sg bs) = true := by
  show ((bs.map sgC).toArray).all _ = true
  rw [Array.all_eq_true_iff_forall_mem]
  intro c hc
  have hc : c ∈ bs.map sgC := by simpa using hc
  obtain ⟨b, _, rfl⟩ := List.mem_map.mp hc
  cases b <;> rfl
/-! ### ranges -/
def natD (i : Nat) : D := .int (i : Int)
theorem rangeD_nat (n : Nat) : rangeD 0 n = (List.range n).map natD := by
  unfold rangeD natD
  simp
@[simp] theorem g_sl_l (l : List D) (lo hi : Option Int) : gSl (.lst l) lo hi = ret (.lst (cutD l lo hi)) := rfl
@[simp] theorem g_sl_t (l : List D) (lo hi : Option Int) : gSl (.tup l) lo hi = ret (.tup (cutD l lo hi)) := rfl
@[simp] theorem g_sl_s (z : Str) (lo hi : Option Int) : gSl (.str z) lo hi = need (z.length ≤ sizeLine) (ret (.str (L2.cutS z lo hi))) := rfl
def er (p : Int × Int) : D := .lst [.int p.1, .int p.2]
/-! ### turned around -/
def rot {α : Type} (i : Nat) (l : List α) : List α := l.drop i ++ l.take i
theorem cut_take {α : Type} (l : List α) (i : Nat) : (l.drop (HT.sIx l.length 0 none)).take (HT.sIx l.length l.length (some (i : Int)) - HT.sIx l.length 0 none) = l.take i := by
  rw [HT.sIx_nat, HT.sIx_none, List.drop_zero, Nat.sub_zero]
  by_cases h : i ≤ l.length
  · rw [Nat.min_eq_left h]
  · rw [Nat.min_eq_right (by omega), List.take_length, List.take_of_length_le (by omega)]
theorem cutD_take (l : List D) (i : Nat) : cutD l none (some (i : Int)) = l.take i := cut_take l i
theorem rot_len {α : Type} (i : Nat) (l : List α) : (rot i l).length = l.length := by
  unfold rot
  rw [List.length_append, List.length_drop, List.length_take]; omega
theorem rot_perm {α : Type} (i : Nat) (l : List α) : (rot i l).Perm l := by
  unfold rot
  exact (List.perm_append_comm).trans (by rw [List.take_append_drop])
theorem sum_rot (i : Nat) (ns : List Int) : (rot i ns).sum = ns.sum := by
  have e : ns.sum = (ns.take i).sum + (ns.drop i).sum := by rw [← List.sum_append, List.take_append_drop]
  unfold rot
  rw [List.sum_append, e]; omega
theorem CornerOk.rot {ns : List Int} (c : CornerOk ns) (i : Nat) : CornerOk (DL.rot i ns) where
  two := by rw [rot_len]; exact c.two
  most := by rw [rot_len]; exact c.most
  pos := fun a ha => c.pos a ((rot_perm i ns).mem_iff.mp ha)
  sum := by rw [sum_rot]; exact c.sum
/-! ### one statement behind the other -/
theorem runs_step {s t : DStm} {env env' : En} {g : Fl → M D} {c : Nat} {S : D → Prop} (h : s env = ret (.nx env')) (k : Runs (bnd (t env') g) c S) : Runs (bnd (sSeq s t env) g) c S := by
  rw [x_seq, h, bnd_ret]
  exact k
theorem wt_sg {k : Nat} (bs : List Bool) : wtD k (.str (sg bs)) = 10 * bs.length + 2 := by
  have e : wtD k (.str (sg bs)) = if (sg bs).cps.all (· < 16 ^ 8) then 10 * (sg bs).length + 2 else 100000000 := by cases k <;> rfl
  have q : (sg bs).cps.all (· < 16 ^ 8) = true := by
    show ((bs.map sgC).toArray).all _ = true
    rw [Array.all_eq_true_iff_forall_mem]
    intro c hc
    have hc : c ∈ bs.map sgC := by simpa using hc
    obtain ⟨b, _, rfl⟩ := List.mem_map.mp hc
    cases b <;> rfl
  rw [e, if_pos q, sg_len]
theorem CornerOk.small {ns : List Int} (c : CornerOk ns) : ∀ a ∈ ns, a.natAbs < 10 ^ 60 := fun a ha => by
  obtain ⟨h1, h2⟩ := c.le a ha
  omega
end DL

end
section
set_option Elab.async false
set_option linter.all false
set_option maxRecDepth 100000
set_option maxHeartbeats 4000000
/-! DPlus: starred items of displays and argument lists; products with a small factor; the draws of the second family. -/
namespace DL
open PySem PySem.Spec PyProof.Rows L2
variable [Tb]
def seqD : D → M (List D)
  | .lst l => ret l
  | .tup l => ret l
  | _ => stuck
def aStar (f : DExp) (r : DArg) : DArg := fun env => bnd (f env) fun d => bnd (seqD d) fun xs => bnd (r env) fun ys => ret (xs ++ ys)
@[simp] theorem x_astar (f : DExp) (r : DArg) (env : En) : aStar f r env = bnd (f env) fun d => bnd (seqD d) fun xs => bnd (r env) fun ys => ret (xs ++ ys) := rfl
@[simp] theorem x_seqD_l (l : List D) : seqD (.lst l) = ret l := rfl
@[simp] theorem x_seqD_t (l : List D) : seqD (.tup l) = ret l := rfl
section
variable {X : Cx} {W : WX} {e : Expr} {es : List Expr} {f : DExp} {r : DArg} {p : Pos}
end
/-! ### products with a small factor -/
/-! ### the draws of the second family -/
def gDraw2 : Fn
  | [.rng true c, .int lim] => gDraw [.rng true c, .int lim]
  | _ => stuck
end DL

end
section
set_option Elab.async false
set_option linter.all false
set_option maxRecDepth 100000
set_option maxHeartbeats 4000000
/-! DTac: comprehensions and loops, for rw; sizes; alternating sums. -/
namespace DL
open PySem PySem.Spec PyProof.Rows L2
variable [Tb]
theorem szl {n : Nat} (h : n ≤ 1000) : n ≤ sizeLine := by rw [sizeLine_eq]; omega
@[simp] theorem x_wipe0 (env : En) : wipeE env [] = env := rfl
@[simp] theorem x_wipe1 (env : En) (v : Nat) (vs : List Nat) : wipeE env (v :: vs) = (wipeE env vs).set v .emp := rfl
theorem runs_seq {s t : DStm} {env : En} {g : Fl → M D} {c c1 c2 : Nat} {A : Fl → Prop} {S : D → Prop} (h : Runs (s env) c1 A) (hc : c1 + c2 ≤ c) (k : ∀ f, A f → Runs (bnd (match f with | .nx e => t e | .rt d => ret (.rt d)) g) c2 S) : Runs (bnd (sSeq s t env) g) c S := by
  rw [x_seq, bnd_bnd]
  exact Runs.bndc h hc k
/-- a statement that leaves an env -/
theorem runs_nx {s t : DStm} {env : En} {g : Fl → M D} {c c1 c2 : Nat} {A : En → Prop} {S : D → Prop} (h : Runs (s env) c1 fun f => ∃ e, f = .nx e ∧ A e) (hc : c1 + c2 ≤ c) (k : ∀ e, A e → Runs (bnd (t e) g) c2 S) : Runs (bnd (sSeq s t env) g) c S :=
  runs_seq h hc fun f ⟨e, hf, he⟩ => by subst hf; exact k e he
theorem runs_loop {α : Type} {tg : D → En → Option En} {b : DStm} {m : α → D} {l : List α} {env : En} (I : En → Prop) (c0 : Nat) (h0 : I env) (h : ∀ a ∈ l, ∀ env, I env → ∃ e1, tg (m a) env = some e1 ∧ Runs (b e1) c0 fun f => ∃ e2, f = .nx e2 ∧ I e2) :
    Runs (loopD tg b (l.map m) env) (c0 * l.length) fun f => ∃ e2, f = .nx e2 ∧ I e2 := by
  have q := loopD_runs (tg := tg) (b := b) I c0 (ds := l.map m) h0 fun d hd env hI => by
    obtain ⟨a, ha, rfl⟩ := List.mem_map.mp hd
    exact h a ha env hI
  simpa using q
theorem log_small {x : Int} (h0 : 0 ≤ x) (h : x < 2 ^ 200) : x.natAbs.log2 < 9000 := Nat.lt_of_lt_of_le (log2_lt h0 h (by decide)) (by decide)
@[simp] theorem g_mul_t (a : List D) (k : Int) : gMul (.tup a) (.int k) = need (a ≠ [] ∧ 2 ≤ k ∧ k ≤ 1000 ∧ a.length ≤ 1000) (ret (.tup (List.replicate k.toNat a).flatten)) := rfl
@[simp] theorem x_lcD0 (vs : List Nat) (tg : D → En → Option En) (c : DTst) (f : DExp) (env : En) : lcD vs tg c f env [] = ret [] := rfl
@[simp] theorem ix_l0 (a : D) (l : List D) : gIx (.lst (a :: l)) (.int 0) = ret a := ix_l (i := 0) rfl
@[simp] theorem ix_l1 (a b : D) (l : List D) : gIx (.lst (a :: b :: l)) (.int 1) = ret b := ix_l (i := 1) rfl
@[simp] theorem ix_l2 (a b c : D) (l : List D) : gIx (.lst (a :: b :: c :: l)) (.int 2) = ret c := ix_l (i := 2) rfl
@[simp] theorem ix_l3 (a b c d : D) (l : List D) : gIx (.lst (a :: b :: c :: d :: l)) (.int 3) = ret d := ix_l (i := 3) rfl
@[simp] theorem ix_t0 (a : D) (l : List D) : gIx (.tup (a :: l)) (.int 0) = ret a := ix_t (i := 0) rfl
@[simp] theorem ix_t1 (a b : D) (l : List D) : gIx (.tup (a :: b :: l)) (.int 1) = ret b := ix_t (i := 1) rfl
@[simp] theorem ix_t2 (a b c : D) (l : List D) : gIx (.tup (a :: b :: c :: l)) (.int 2) = ret c := ix_t (i := 2) rfl
@[simp] theorem ix_t3 (a b c d : D) (l : List D) : gIx (.tup (a :: b :: c :: d :: l)) (.int 3) = ret d := ix_t (i := 3) rfl
@[simp] theorem x_loop0 (tg : D → En → Option En) (b : DStm) (env : En) : loopD tg b [] env = ret (.nx env) := rfl
end DL

end
section
set_option Elab.async false
set_option linter.all false
set_option maxRecDepth 100000
set_option maxHeartbeats 4000000
/-! DText: f-strings of two parts, split, int of a text. -/
namespace DL
open PySem PySem.Spec PyProof.Rows L2
variable [Tb]
section
variable {X : Cx} {W : WX} {e e2 o : Expr} {f fa fb fo fe : DExp} {pos apos : Pos}
end
end DL

end
section
set_option Elab.async false
set_option linter.all false
set_option maxRecDepth 100000
set_option maxHeartbeats 4000000
/-! DExc: making and raising the package's errors (an own __init__ that says super().__init__ and keeps one field), over ValueError, LookupError. -/
namespace DL
open PySem PySem.Spec PyProof.Rows L2 NdefX
variable [Tb]
/-- such a class, over the built-in one whose mro is tl -/
structure OexB (K : PySem.W.Frag) (C : Addr) (nw : String) (tl : List Value) : Prop where
  cls : ∃ nm q N bs sn sub ab col dd k0 k1 k2 k3 k5, K.lookup C = some (excClassObj nm q C N bs tl true sn sub ab col dd k0 k1 k2 k3 k5 nw)
  sa : PySem.W.findIn K (.ref C) "__setattr__" = some (some (.builtin "object.__setattr__"))
  exC : PySem.W.subIn K (.ref C) (.type "BaseException") = some true
  tyC : PySem.W.typeIn K (.ref C) = some (.type "type")
  kC : PySem.W.keepIn K (.ref C) = true
/-- what is known of the built-in one -/
structure BaseE (B nw ini : String) (tl : List Value) : Prop where
  ex : ∃ bmB, ExcBaseFacts B nw ini bmB ∧ ∀ Y : String, tl.contains (.type Y) = bmB.contains (.type Y)
  KX : PySem.W.KxsFacts B ini
  pass : ∀ self, refuseLoop self "__setattr__" tl = pure ()
  ob : tl.contains (.type "object") = true
theorem base_Lookup : BaseE "LookupError" "LookupError.__new__" "LookupError.__init__" [.type "LookupError", .type "Exception", .type "BaseException", .type "object"] := ⟨⟨_, F.excBase_LookupError, fun _ => rfl⟩, PySem.W.kxs_LookupError, F.store_LookupError.passes, by decide +kernel⟩
theorem base_Value (CF : Addr) : BaseE "ValueError" "ValueError.__new__" "ValueError.__init__" [.ref CF, .type "ValueError", .type "Exception", .type "BaseException", .type "object"] := ⟨⟨_, F.excBase_ValueError, fun Y => PySem.HandSPX.refsVE_contains Y (.ref CF :: PySem.HandSPX.veTail) rfl⟩, PySem.W.kxs_ValueError, fun self => PySem.HandSPX.refsVE_pass self (.ref CF :: PySem.HandSPX.veTail) rfl, rfl⟩
section
variable {B nw ini : String} {tl : List Value}
section
open Builtin Builtin.ObjectAttr PySem.HandSPX
variable {prog : Program} {w : World} {A : Around} {R : Result → Shared → Prop} {hp : Heap} {g : Array GenState} {d : Drawn} {t : Nat} {os : OsState}
theorem osa_first {K : PySem.W.Frag} {name : Str} {tk : Tok} {v : Value} {x C : Addr} {fv : Array Value} {cd : ClassData} (BE : BaseE B nw ini tl) (X : K.In hp) (hx : hp.get? x = some { cls := .ref C, data := .fields fv }) (hcd : PySem.W.clsIn K C = some cd) (hm : cd.mro = .ref C :: tl) (hh : cd.hasDict = true)
    (ha : PySem.W.findIn K (.ref C) name = some none)
    (hq : ∀ h' tk' dx, (∀ b o, b ≠ x → hp.get? b = some o → h'.get? b = some o) → hp.objs.size ≤ dx → dx ≠ x → h'.get? x = some { cls := .ref C, dict := some dx, data := .fields fv } → h'.Ns1 dx (fun y => if y = name then some v else none) → R (.ok (.ret .none)) ⟨h', g, d, tk', os⟩) :
    codeAny (model prog w) A (.call (.builtin "object.__setattr__") ⟨[.ref x, .str name tk, v], []⟩) R ⟨hp, g, d, t, os⟩ := by
  have IA : PySem.W.InstAt hp x { cls := .ref C, data := .fields fv } C none := ⟨hx, rfl, rfl, trivial⟩
  have SO := F.store_object
  have ne : cd.mro.isEmpty = false := by rw [hm]; rfl
  have hob : cd.mro.contains (.type "object") = true := by rw [hm, List.contains_cons, BE.ob, Bool.or_true]
  have hxs : x ≠ hp.objs.size := Nat.ne_of_lt (Heap.lt_size hx)
  have sub : PySem.W.Looks (model prog w) hp (isInstance (.ref x) (.type "object")) true := IA.type.andThen (PySem.W.looks_mroIn X (by unfold PySem.W.mroIn; rw [hcd, Option.bind_some, if_neg (by rw [ne]; decide), hob]))
  refine codeAny_call_builtin SO.slot.plain SO.entry (@PySem.W.check_slot (model prog w) _ _ ⟨hp, g, d, t, os⟩ "object.__setattr__" "object" "__setattr__" (.ref x) [.str name tk, v] [] _ SO.kind SO.split sub (SO.args (.ref x) (.str name tk) v) ?_)
  have lm : PySem.W.Looks (model prog w) hp (mroOf (.ref C)) cd.mro := (PySem.W.looks_clsIn X hcd).andThen .now
  have ls : PySem.W.Looks (model prog w) hp (storeTaker? none) none := .now
  have lcl : PySem.W.Looks (model prog w) hp (classData C) cd := PySem.W.looks_clsIn X hcd
  rw [PySem.W.osa_eq, refuse_eq]
  refine wpAny_bind (wpAny_bind (IA.type.at (wpAny_bind (lm.at ?_))))
  rw [hm, refuseLoop_ref, BE.pass]
  refine wpAny_pure (wpAny_bind (IA.type.at (wpAny_bind ((PySem.W.looks_findIn X ha).at (wpAny_bind (ls.at ?_))))))
  show wpAny _ _ (storeInOwnDict (.ref x) (.ref C) (.str name tk) name v false) _ _ _
  obtain ⟨nm, bs, mro, ns, qn, hd, sn, sb, ab, col, del⟩ := cd
  dsimp only at hh
  subst hh
  unfold storeInOwnDict ownDictForStores
  repeat (first | with_reducible refine store_in_new ?_ ?_ | with_reducible refine wpAny_loadPart_at hx ?_ | with_reducible refine lcl.at ?_ | wp_step)
  · exact ⟨_, #[], _, (Heap.get?_update_ne _ _ _ _ hxs.symm).trans (Heap.get?_push_at rfl rfl), rfl, fun e he => absurd he (by simp), fun _ => rfl⟩
  · intro h' tk' hn' hs
    have hx₁ : (hp.push { cls := .type "dict", data := .dict #[] }).get? x = some { cls := .ref C, data := .fields fv } := Heap.get?_push_of_some _ hx
    refine hq h' tk' hp.objs.size (fun b o hb ho => ?_) (Nat.le_refl _) hxs.symm ((hs.2 x hxs).trans (Heap.get?_update_self _ hx₁ rfl)) hn'
    exact (hs.2 b (Nat.ne_of_lt (Heap.lt_size ho))).trans ((Heap.get?_update_ne _ _ _ _ hb).trans (Heap.get?_push_of_some _ ho))
end
section
variable {X : Cx} {pins : List (Addr × Obj)} {σ : L2.St} {H : Hp} {s : Shared} {a C dx : Addr} {f : Str} {y : V} {u : Value} {fs : List (Str × V)} {E : Value → Shared → Prop} {A : Around}
/-- self.f = y, the first one -/
theorem ost_first {Q : Unit → Shared → Prop} (BE : BaseE B nw ini tl) (T : OexB X.K C nw tl) (I : Inv X pins σ H s) (e : H a = some (exo a C none)) (hno : PySem.W.findIn X.K (.ref C) f = some none) (ry : RelV y u)
    (h : ∀ dx s', H dx = none → dx ≠ a → Inv X pins σ (upd (upd H dx (exd dx [(f, y)])) a (exo a C (some dx))) s' → Q () s') : wpAny (model X.prog X.w) A (setAttr (.ref a) f u) Q E s := by
  obtain ⟨nm, q, N, bs, sn, sub, ab, col, dd, k0, k1, k2, k3, k5, hC⟩ := T.cls
  have hcl : PySem.W.clsIn X.K C = some { name := nm, bases := bs, mro := .ref C :: tl, ns := N, qualname := q, hasDict := true, slotNames := sn, subclasses := sub, abstract := ab, collection := col, hasDel := false } := by unfold PySem.W.clsIn; rw [hC] <;> rfl
  obtain ⟨t1, ho⟩ := exo_at I.hok e
  obtain ⟨hp, g, d, t, os⟩ := s
  refine PySem.W.set_plain I.kIn (ox := { cls := .ref C, dict := none, data := .fields #[.ref t1, .none, .none, .none, .bool false, .none] }) (od := none) ⟨ho, rfl, rfl, trivial⟩ T.sa ?_
  refine osa_first BE I.kIn ho hcl rfl rfl hno (fun h' tk' dx k dn dne hx hn => ?_)
  have hnd : H dx = none := I.hok.fresh dn
  have nd : ∀ {b : Addr} {o : Obj}, hp.get? b = some o → b ≠ dx := fun q => Nat.ne_of_lt (Nat.lt_of_lt_of_le (Heap.lt_size q) dn)
  have na : ∀ {b : Addr}, H b = none → b ≠ a := fun n z => by rw [z, e] at n; cases n
  have U : Un X.fs [] H (upd (upd H dx (exd dx [(f, y)])) a (exo a C (some dx))) hp h' :=
    ⟨fun b o q n _ _ => k b o (na n) q, fun b o q n _ _ => ⟨o.slots, k b o (na n) q⟩, fun b o q n _ => by rw [upd_ne (na n), upd_ne (nd q)]; exact n,
      fun b o q _ => by
        by_cases hb : b = a
        · exact hb ▸ ⟨_, hx⟩
        · exact ⟨o, k b o hb q⟩, fun b xs q => by rw [upd_ne (at_ne e q exo_tup), upd_ne (ne_of_none q hnd)]; exact q,
      fun b o v q => by rw [upd_ne (at_ne e q exo_frz), upd_ne (ne_of_none q hnd)]; exact q, fun b ps q => ⟨#[], by rw [upd_ne (at_ne e q exo_tbl), upd_ne (ne_of_none q hnd), q]; simp⟩⟩
  refine h dx _ hnd dne (I.un (t' := tk') U fun b o q => ?_)
  by_cases hb : b = a
  · subst hb; rw [upd_same] at q; cases q; exact exo_ok hx
  · rw [upd_ne hb] at q
    by_cases hd : b = dx
    · subst hd; rw [upd_same] at q; cases q
      exact exd_ok hn (relO_put (fs := []) ry fun g => True.intro)
    · rw [upd_ne hd] at q
      refine (I.hok b o q).stay (fun c v hc z => k c v ?_ z) (fun c hc => by rw [upd_ne (at_ne e hc exo_own), upd_ne (ne_of_none hc hnd)]; exact hc) (fun c xs hc => by rw [upd_ne (at_ne e hc exo_tup), upd_ne (ne_of_none hc hnd)]; exact hc)
      rcases hc with hc | hc
      · rw [hc]; exact hb
      · exact at_ne e hc exo_own
/-- super().__init__(..) of such an error: nothing of it is told -/
theorem call_mwB {us : List Value} {Q : Value → Shared → Prop} {x : Addr} (BE : BaseE B nw ini tl) (T : OexB X.K C nw tl) (I : Inv X pins σ H s) (e : H a = some (exo a C none)) (hu : s.heap.get? x = some (PySem.W.kxs_mw ini a))
    (hl : us.length ≤ sizeLine) (h : ∀ s', Inv X pins σ H s' → Q .none s') : wpAny (model X.prog X.w) A (call (.ref x) us) Q E s := by
  obtain ⟨nm, q, N, bs, sn, sub, ab, col, dd, k0, k1, k2, k3, k5, hC⟩ := T.cls
  obtain ⟨t1, ho⟩ := exo_at I.hok e
  have hC' := I.kIn _ _ hC
  obtain ⟨hp, g, d, t, os⟩ := s
  refine wpAny_call (codeAny_of_tree ?_)
  show wpAny _ A.in1 (callAny (.ref x) ⟨us, []⟩) _ _ _
  simp only [callAny]
  refine wpAny_bind (wpAny_load hu ?_)
  simp only [PySem.W.kxs_mw, show (Value.type "method-wrapper" == Value.type "method" || Value.type "method-wrapper" == Value.type "builtin_function_or_method" || Value.type "method-wrapper" == Value.type "method-wrapper") = true by decide, if_true]
  obtain ⟨bmB, FB, hT⟩ := BE.ex
  refine PySem.W.KFB.if_so (by decide) (wpAny_bind (PySem.W.check_bound_init FB.toExcCallFacts hC' ho rfl (wpAny_bind (wpAny_pure (wpAny_pure ⟨plainId_quiet FB.init.plain _, codeAny_builtin FB.initEntry ?_⟩)))))
  refine PySem.W.exc_init_tree (cls := .ref C) (t0 := t1) (dv := none) (c2 := .none) (c3 := .none) (b4 := .bool false) ho hl fun h' k hx _ => ?_
  have J := I.write (t' := t) (x := a) (e := a) (o := exo a C none) (by rw [e]; exact True.intro) (.inl rfl) k ⟨_, hx⟩ (exo_ok hx)
  have eu : upd H a (exo a C none) = H := by
    funext b
    by_cases hb : b = a
    · rw [hb, upd_same, e]
    · rw [upd_ne hb]
  rw [eu] at J
  exact h _ J
end
end
/-- self.f = e, the first one -/
def tOstB (K : PySem.W.Frag) (nw : String) (tl : List Value) (f : Str) (to te : TE) : TS := fun D σ H => te σ H fun y H1 => to σ H1 fun x H2 => ∃ a C : Addr, x = .ref a ∧ OexB K C nw tl ∧ PySem.W.findIn K (.ref C) f = some none ∧
  H2 a = some (exo a C none) ∧ ∀ dx, H2 dx = none → dx ≠ a → D.nx σ (upd (upd H2 dx (exd dx [(f, y)])) a (exo a C (some dx)))
section
variable {X : Cx} {o e : Expr} {es : List Expr} {to te : TE} {ta : TA} {f : Str} {p p' p1 p2 pos : Pos} {B nw ini : String} {tl : List Value}
theorem ps_ostB (BE : BaseE B nw ini tl) (ho : PE X o to) (he : PE X e te) (hs : swapsWith e (some (.Attribute o f p')) pos.line X.env = pure false := by rfl) : PS X (.Assign [.Attribute o f p'] e pos) (tOstB X.K nw tl f to te) := by
  refine ⟨fun pins s σ H D I h => plainObj_wpAny_Assign_Attribute (thn (he.run pins s σ H _ I h) fun v s1 ⟨y, H1, I1, r1, q1⟩ => thn (ho.run pins s1 σ H1 _ I1 q1) fun u s2 ⟨x, H2, I2, r2, a, C, ex, T, hno, ea, q⟩ => ?_) hs⟩
  subst ex
  obtain rfl : u = Value.ref a := r2
  exact ost_first BE T I2 ea hno r1 fun dx s' n ne J => ⟨σ, _, J, q dx n ne⟩
end
def spInit (C : Addr) (fld : Str) : Sp := fun vs H Q _ => ∃ a v, vs = [.ref a, v] ∧ H a = some (exo a C none) ∧ ∀ dx, H dx = none → dx ≠ a → Q .non (upd (upd H dx (exd dx [(fld, v)])) a (exo a C (some dx)))
section
variable {CX : CXT} {P : Program} {w : World} {K : PySem.W.Frag} {mg : Str → Option Value} {base : Heap} {C f1 cc cda : Addr} {q v fld txt : Str} {vs : Array Value} {file : Str} {B nw ini : String} {tl : List Value} {tf : Tok} {oc ccl cl kV doc pm ct : Value} {od an cdd cld : Option Addr} {osl ccs csl : Array (Option Value)} {cd : ClassData} {st : Stmt}
  {p0 p1 p2 p3 p4 p5 p6 p7 p8 pc : Pos} {j : Nat}
theorem callWith_mw {M : Model} {A : Around} {E : Value → Shared → Prop} {s : Shared} {i : String} {u x : Addr} {pos : Pos} {env : PySem.Env} {e : Expr} {rest : List Expr} {Q : Value → Shared → Prop}
    (h : wpAny M A (spliced (backTo pos (starEach (e :: rest) env))) (fun vs s₁ => s₁.heap.get? u = some (PySem.W.kxs_mw i x) ∧ wpAny M A (call (.ref u) vs) Q E s₁) E s)
    (he : starEach (e :: rest) env = (false, eval e env) :: starEach rest env := by rfl) (hplain : (backTo pos (starEach rest env)).any (·.1) = false := by rfl) :
    wpAny M A (callWith pos (.ref u) [] (backTo pos (starEach (e :: rest) env)) []) Q E s := by
  rw [he] at h ⊢
  exact PySem.W.kxs_callWith (i := i) (x := x) (show (false || (backTo pos (starEach rest env)).any (·.1)) = false by rw [hplain]; rfl) (PySem.Calls.evalArgs_plain h)
theorem init_ok (hev : ∀ env : PySem.Env, eval (.Call (.Attribute (.Call (.Name "super" p0) [] [] p1) "__init__" p2) [.Constant (.str txt) j pc] [] p3) env = (do
      let ov ← attributeBase (.Call (.Name "super" p0) [] [] p1) "__init__" env (eval (.Call (.Name "super" p0) [] [] p1) env)
      standAt p2.atName
      let (f, first) ← holding [ov] (getMethod ov "__init__" (do return (← importBound (.Call (.Name "super" p0) [] [] p1) env).getD true))
      callWith p3 f first (backTo p3 (starEach [.Constant (.str txt) j pc] env)) [])) (hb : C8.fnBody st = [.Expr (.Call (.Attribute (.Call (.Name "super" p0) [] [] p1) "__init__" p2) [.Constant (.str txt) j pc] [] p3) p4, .Assign [.Attribute (.Name "self" p5) fld p6] (.Name v p7) p8])
    (hvd : (v == ("__debug__" : Str)) = false) (hvc : (v == ("__classdict__" : Str)) = false) {ar : Arg} (har : ((C8.fnArgs st).posonlyargs ++ (C8.fnArgs st).args).head? = some ar) (harn : ar.arg = "self") (hks : (C8.fnScope st).names.lookup ("super" : Str) = some .globalImplicit) (S : NScope ["self", v, "__class__"] ["self", v] ["__class__"] (C8.fnScope st)) (BE : BaseE B nw ini tl) (T : OexB K C nw tl)
    (hl : K.lookup f1 = some ⟨oc, od, .func (PySem.W.fnX "__init__" q (C8.fnArgs st) (C8.fnBody st) (C8.fnScope st) [("__class__", cc)] .none kV doc pm an (.ref cda) ct), osl⟩) (hcd : PySem.W.codeIn K (.ref cda) q = true)
    (hk : K.lookup cda = some ⟨ccl, cdd, .fields vs, ccs⟩) (hvs : vs[2]? = some (.str file tf)) (hfile : ((P.main.file : Str) == file) = true) (hcell : K.lookup cc = some ⟨cl, cld, .cell (some (.ref C)), csl⟩) (hC : PySem.W.clsIn K C = some cd) (hmr : PySem.W.mroIn K C (.ref C) = some true)
    (hsu : PySem.W.nsIn K mainGlobals "super" = some none) (ht : PySem.W.nsIn K cStatics "thirdparty.any" = some none) (hsi : PySem.W.ks_superIn K C C "__init__" = some (some (.builtin ini))) (hB : PySem.W.subIn K (.ref C) (.type B) = some true)
    (htop : (P.main.scope.names.lookup ("super" : Str)).isSome = false) (hfl : PySem.W.findIn K (.ref C) fld = some none) :
    FnOk P w K mg base CX 1 f1 (PySem.W.fnX "__init__" q (C8.fnArgs st) (C8.fnBody st) (C8.fnScope st) [("__class__", cc)] .none kV doc pm an (.ref cda) ct) ["self", v] (spInit C fld) := by
  constructor
  · rintro _ H Q E ⟨a, v, rfl, _⟩; rfl
  intro R callers t H g us xs Q E rm e0 bd rv hq
  obtain ⟨a, y, rfl, ha, hq⟩ := hq
  have kin : K.In t.heap := e0.mod.kin.keeps fun b o e => (e0.bs b o e).1
  have nol : t.heap.NoLimit := e0.mod.nolimit.keeps fun b o e => (e0.bs b o e).1
  let F : NF := ⟨"__init__", q, C8.fnArgs st, C8.fnBody st, C8.fnScope st, [("__class__", cc)], cda⟩
  have hcc : t.heap.get? cc = some ⟨cl, cld, .cell (some (.ref C)), csl⟩ := kin _ _ hcell
  have ncc : H cc = none := (e0.bs _ _ (e0.mod.kin _ _ hcell)).2
  have CA : CellsAt F.cl ["__class__"] [some (.ref C)] t.heap H := by
    refine ⟨rfl, fun y c e => ?_, fun x y c ex ey => ?_, fun i y e => ?_⟩
    · have e : (if y == ("__class__" : Str) then some cc else none) = some c := by
        have e : [(("__class__" : Str), cc)].lookup y = some c := e
        simp only [List.lookup] at e
        split at e <;> simp_all
      split at e
      · cases e; exact ⟨ncc, _, _, hcc, rfl⟩
      · cases e
    · have f : ∀ z, [(("__class__" : Str), cc)].lookup z = some c → z = "__class__" := fun z e => by
        simp only [List.lookup] at e
        split at e
        · rename_i h; exact beq_iff_eq.mp h
        · cases e
      rw [f x ex, f y ey]
    · cases i with
      | zero =>
        simp at e
        subst e
        refine ⟨cc, by simp [F, List.lookup], fun v hv => ?_⟩
        simp at hv
        subst hv
        exact ⟨.ref C, rfl, _, hcc, rfl⟩
      | succ i => simp at e
  refine PySem.ks_codeAny_call_defAt (fd := PySem.W.fnX "__init__" q (C8.fnArgs st) (C8.fnBody st) (C8.fnScope st) [("__class__", cc)] .none kV doc pm an (.ref cda) ct) (body := C8.fnBody st) (binds := (["self", v] : List Str).zip us) rm.depth (kin _ _ hl) rfl nol (PySem.W.codeRec_of kin hcd) rfl bd (fun x hx => S.nocell x hx) (fun x hx => S.par x.1 (List.of_mem_zip hx).1) (fun h₁ hns kp => ?_) S.co S.gen S.kind
  have I : Inv (ncx CX P w K mg base ["self", v, "__class__"] F f1 R callers t H E) [] (startF ["self", v, "__class__"] [.ref a, y] [some (.ref C)]) H { t with heap := h₁, toks := t.toks + ((["self", v] : List Str).zip us).length } := inv_startN S rm.hd e0 rfl rv CA hns kp
  cases rv with
  | @cons _ u0 _ ur r0 rr =>
  cases rr with
  | @cons _ u1 _ ur2 r1 rr2 =>
  cases rr2
  obtain rfl : u0 = Value.ref a := r0
  have kin1 : K.In h₁ := fun b o e => kp _ _ (kin b o e)
  rw [hb]
  refine PySem.ks_wpAt_execs_cons (PySem.ks_wpAt_Expr_any (PySem.ks_wpAt_MethodCall ?_ (hev _)) (hi := by show ((C8.fnScope st).kind == .module && _) = false; rw [show (C8.fnScope st).kind = .function from S.kind]; rfl))
  have bk : ∀ b o, base.get? b = some o → h₁.get? b = some o := fun b o e => kp _ _ (e0.bs b o e).1
  obtain ⟨mb, bns, bbo⟩ := e0.mod.blt
  obtain ⟨oD, hD1, hD2⟩ : ∃ oD, h₁.get? C = some oD ∧ oD.data = .cls cd := by
    unfold PySem.W.clsIn at hC
    split at hC
    · rename_i c d cd' sl ho
      cases hC
      exact ⟨_, kin1 _ _ ho, rfl⟩
    · cases hC
  obtain ⟨tt, hoe⟩ := exo_at I.hok ha
  have IA : PySem.W.InstAt h₁ a ({ cls := .ref C, dict := none, data := .fields #[.ref tt, .none, .none, .none, .bool false, .none] } : Obj) C none := ⟨hoe, rfl, rfl, trivial⟩
  have sup : mg "super" = none := PySem.W.mg_none_of e0.mod.kin e0.mod.glob hsu
  refine PySem.ks_wpAt_super_base (f := f1) (cc := cda) (ar := ar) hks (S.frk _ (by simp)) (by decide +kernel) rfl (kin1 _ _ hl) rfl har rfl (kin1 _ _ hk) rfl hvs hfile htop ?_
  refine PySem.W.ks_loadName_global S.kind hks (PySem.Calls.loadGlobal_builtin (e0.mod.glob.keeps bk) sup (bns.keeps bk) ((bbo _ (by decide +kernel)).trans (by decide +kernel)) ⟨rfl, ?_⟩)
  refine wpAny_loadName_free S.kind (S.frk _ (by simp)) (by rfl) ⟨_, kp _ _ hcc, rfl⟩ ?_
  rw [harn]
  refine wpAny_loadName_local S.kind (S.par _ (by simp)) hns (v := .ref a) (zip_look (i := 0) (us := [.ref a, u1]) (S.nd.sublist (List.take_sublist 2 (["self", v, "__class__"] : List Str)) : (["self", v] : List Str).Nodup) rfl rfl) ?_
  refine PySem.ks_wpAny_isType_cls hD1 hD2 ⟨rfl, ?_⟩
  refine PySem.ks_wpAny_call_super hD1 hD2 hoe rfl (fun c e => by cases e) (PySem.W.looks_mroIn kin1 hmr) (fun h2 hso k2 => ?_)
  have kin2 : K.In h2 := fun b o e => k2 _ _ (kin1 b o e)
  have IA2 : PySem.W.InstAt h2 a ({ cls := .ref C, dict := none, data := .fields #[.ref tt, .none, .none, .none, .bool false, .none] } : Obj) C none := ⟨k2 _ _ hoe, rfl, rfl, trivial⟩
  have hal : PySem.W.alongIn K "__init__" ((cd.mro.dropWhile (· != .ref C)).drop 1) = some (some (.builtin ini)) := by
    unfold PySem.W.ks_superIn at hsi
    rw [hC] at hsi
    exact hsi
  refine PySem.W.kxs_getMethod BE.KX hso (PySem.W.looks_opaque kin2 ht) (l₀ := cd.mro) (fun A Q E s k q => wpAny_bind ((PySem.W.looks_clsIn kin2 hC) A _ E s k (wpAny_pure q))) rfl kin2 hal (IA2.type.andThen (PySem.W.looks_subIn kin2 hB)) (PySem.W.ks_ne kin2 IA2 hC) (by decide +kernel) ?_
  have k3 : ∀ b o, h₁.get? b = some o → (h2.push (PySem.W.kxs_mw ini a)).get? b = some o := fun b o e => Heap.get?_push_of_some _ (k2 _ _ e)
  have I3 : Inv (ncx CX P w K mg base ["self", v, "__class__"] F f1 R callers t H E) [] (startF ["self", v, "__class__"] [.ref a, y] [some (.ref C)]) H { t with heap := h2.push (PySem.W.kxs_mw ini a), toks := t.toks + ((["self", v] : List Str).zip [.ref a, u1]).length + 1 } := I.kept (t' := t.toks + ((["self", v] : List Str).zip [.ref a, u1]).length + 1) k3
  have hu : (h2.push (PySem.W.kxs_mw ini a)).get? h2.objs.size = some (PySem.W.kxs_mw ini a) := Heap.get?_push_size _ rfl
  have sz : h₁.objs.size ≤ h2.objs.size := Nat.le_of_lt (Heap.lt_size hso)
  have I4 := I3.pins_of (pins' := [(h2.objs.size, PySem.W.kxs_mw ini a)]) fun p hp => by
    rw [List.mem_singleton] at hp
    subst hp
    refine ⟨hu, I.hok.fresh sz, ?_, ?_, fun v z => by cases z⟩
    · obtain ⟨_, _, _, q0, _⟩ := hns
      exact fun z => absurd z (Nat.ne_of_gt (Nat.lt_of_lt_of_le (Heap.lt_size q0) sz))
    · exact I.nofs sz
  refine callWith_mw (i := ini) (x := a) ?_
  refine thn ((pa_cons pe_str pa_nil).run _ _ _ _ _ (fun vs H' => H' = H ∧ vs.length = 1) I4 ?_) fun us' s1 ⟨vs', H', I5, r5, q5⟩ => ?_
  · exact ⟨rfl, rfl⟩
  obtain ⟨rfl, hl1⟩ := q5
  have pu := (I5.pin (h2.objs.size, PySem.W.kxs_mw ini a) (by simp)).1
  refine ⟨pu, call_mwB BE T I5 ha pu (by rw [← r5.length, hl1]; decide) fun s' J => ?_⟩
  show _root_.PySem.wpAt _ _ _ (execs [.Assign [.Attribute (.Name "self" p5) fld p6] (.Name v p7) p8] _) _ _ s'
  refine wpAt_of_wpAny ?_
  have P2 := (pss_one (ps_ostB BE (X := ncx CX P w K mg base ["self", v, "__class__"] F f1 R callers t H' E) (f := fld) (p' := p6) (pos := p8) (pv 0 (pos := p5) (hv := .inl (S.par _ (by simp)))) (pv 1 (pos := p7) (hv := .inl (S.par _ (by simp))) (hd := hvd) (hcd := hvc)))).run _ s' _ H' { nx := fun _ H' => Q .non H', rt := Q } J ?_
  · refine wpAny_mono P2 (fun fl s2 z => ?_) fun _ _ z => z
    cases fl with
    | next =>
      obtain ⟨σ', H2, J2, q2⟩ := z
      exact ⟨.non, H2, J2.os, J2.bare, J2.base, J2.hok, rfl, q2⟩
    | ret u =>
      obtain ⟨v2, σ', H2, J2, rv2, q2⟩ := z
      exact ⟨v2, H2, J2.os, J2.bare, J2.base, J2.hok, rv2, q2⟩
    | brk => obtain ⟨_, _, _, q2⟩ := z; exact False.elim q2
    | cont => obtain ⟨_, _, _, q2⟩ := z; exact False.elim q2
  · exact ⟨y, rfl, .ref a, rfl, a, C, rfl, T, hfl, ha, fun dx n1 n2 => hq dx n1 n2⟩
end
/-- an error's class of the package: made of one value, which it keeps in the field fld -/
structure Err (P : Program) (w : World) (K : PySem.W.Frag) (mg : Str → Option Value) (base : Heap) (x : Str) : Prop where
  ex : ∃ (C f1 : Addr) (fd : FuncData) (v : Str) (B nw ini : String) (tl : List Value), mg x = some (.ref C) ∧ BaseE B nw ini tl ∧ OexB K C nw tl ∧ PySem.W.findIn K (.ref C) "__init__" = some (some (.ref f1)) ∧ PySem.W.typeIn K (.ref f1) = some (.type "function") ∧ Binds K fd ["self", v] [] ∧
    FnOk P w K mg base L2.CX0 1 f1 fd ["self", v] (spInit C (fieldOf x))
end DL

end
section
set_option Elab.async false
set_option linter.all false
set_option maxRecDepth 100000
set_option maxHeartbeats 4000000
/-! DTry: try: .. except (A, B, C) as e: y = e. -/
namespace DL
open PySem PySem.Spec PyProof.Rows L2
variable [Tb]

section
variable {X : Cx} {x1 x2 x3 n y : Str} {c1 c2 c3 : Value} {i iy : Nat} {body : List Stmt} {q1 q2 q3 q4 q5 q6 q7 pos pos' : Pos} {kk : Nat} {tb : WX → TS}
end
/-! ### the same of data -/
section
variable {X : Cx} {W : WX} {K : PySem.W.Frag} {mg : Str → Option Value} {B : Bs} {n n' m : Cn} {F H F' H' : Hp} {σ : L2.St} {env : En} {k : Nat}
theorem Step.gone {n n' : Cn} {F H F' H' : Hp} (t : Step n F H n' F' H') {p : Addr} (h : H' p = none) : H p = none := t.live p h
variable {x1 x2 x3 nm y : Str} {c1 c2 c3 : Value} {i : Nat} {body : List Stmt} {q1 q2 q3 q4 q5 q6 q7 pos pos' : Pos} {kk : Nat} {s : DStm}
end
end DL

end
section
set_option Elab.async false
set_option linter.all false
set_option maxRecDepth 100000
set_option maxHeartbeats 4000000
/-! DZip: list(zip(x, y)). -/
namespace DL
open PySem PySem.Spec PyProof.Rows L2
section
variable {P : Program} {w : World} {A : Around} {E : Value → Shared → Prop} {s : Shared} {z TI TO i1 i2 : Addr} {fp1 fp2 : List Addr} {n1 n2 i : Nat} {P1 P2 : Nat → Value → Prop} {St1 St2 : Nat → Heap → Prop}
/-- where a zip stands that list() drains into the list at L -/
structure ZSt (St1 St2 : Nat → Heap → Prop) (z TI TO i1 i2 L : Addr) (i : Nat) (h : Heap) : Prop where
  ti : IsTupOf2 h TI (.ref i1) (.ref i2)
  s1 : St1 i h
  s2 : St2 i h
  at_ : (IsZip h z TI TO .none ∧ ∃ a b, IsTupOf2 h TO a b) ∨ ∃ T f oT, IsZipHeld h z TI TO T f ∧ h.get? T = some oT ∧ T ≠ z ∧ T ≠ i1 ∧ T ≠ i2 ∧ T ≠ L
/-- the pairs drawn so far -/
structure Got (P1 P2 : Nat → Value → Prop) (lo : Addr) (h : Heap) (as : List Addr) : Prop where
  nd : as.Nodup
  at_ : ∀ (j : Nat) (a : Addr), as[j]? = some a → lo ≤ a ∧ ∃ x1 x2, P1 j x1 ∧ P2 j x2 ∧ IsTupOf2 h a x1 x2
end
variable [Tb]
/-! ### the same of data -/
section
variable {X : Cx} {W : WX} {e e2 : Expr} {fa : DArg} {p p2 pos pos2 : Pos} {k : Nat}
end
end DL

end
section
set_option Elab.async false
set_option linter.all false
set_option maxRecDepth 100000
set_option maxHeartbeats 4000000
/-! DExt: x.extend(e), min of data, text.count(text). -/
namespace DL
open PySem PySem.Spec PyProof.Rows L2
variable [Tb]
section
variable {X : Cx} {W : WX} {k : Nat} {e : Expr} {f : DExp} {pos : Pos}
/-! ### text.count(text) -/
/-! ### min of a list of data -/
end
end DL

end
section
set_option Elab.async false
set_option linter.all false
set_option maxRecDepth 100000
set_option maxHeartbeats 4000000
/-! DRec: a def that calls itself: its meaning by fuel. -/
namespace DL
open PySem PySem.Spec PyProof.Rows L2
variable [Tb]
end DL

end
section
set_option Elab.async false
set_option linter.all false
set_option maxRecDepth 100000
set_option maxHeartbeats 4000000
/-! DSortS: sorted of texts, any number of them. -/
namespace DL
open PySem PySem.Spec PyProof.Rows L2
variable [Tb]
/-! the rule -/
section
variable {X : Cx}
end
end DL

end
section
set_option Elab.async false
set_option linter.all false
set_option maxRecDepth 100000
set_option maxHeartbeats 4000000
/-! DPeek: a look into a list of one's own that hands back a list of scalars. -/
namespace DL
open PySem PySem.Spec PyProof.Rows L2
variable [Tb]
section
variable {K : PySem.W.Frag} {mg : Str → Option Value} {B : Bs} {n n' : Cn} {F F' H : Hp} {σ : L2.St} {env : En}
end
def peekOk (s : Option Slot) (d : D) : Bool := match s, d with
  | some (.own ds), .lst l => l.all scalarD && !(ds.all scalarD)
  | _, d => scalarD d
def dPeekL (i : Nat) (f : DExp) : DExp := fun env => bnd (noexS (f (DL.frz i env))) fun d => need (peekOk env[i]? d = true) (ret d)
@[simp] theorem x_peekL (i : Nat) (f : DExp) (env : En) : dPeekL i f env = bnd (noexS (f (match env[i]? with | some (.own ds) => env.set i (.val (.lst ds)) | _ => env))) fun d => need (peekOk env[i]? d = true) (ret d) := rfl
section
variable {X : Cx} {W : WX} {e : Expr} {f : DExp}
end
end DL

end
section
set_option Elab.async false
set_option linter.all false
set_option maxRecDepth 100000
set_option maxHeartbeats 4000000
/-! DIdx: list.index. -/
namespace DL
open PySem PySem.Spec PyProof.Rows L2
variable [Tb]
section
variable {X : Cx} {W : WX} {e o : Expr} {es : List Expr} {fo fe : DExp} {fa : DArg} {pos : Pos}
end
end DL

end
section
set_option Elab.async false
set_option linter.all false
set_option maxRecDepth 100000
set_option maxHeartbeats 4000000
/-! DObj: instances of the program's own classes whose fields never change: made, read, their methods called. -/
namespace DL
open PySem PySem.Spec PyProof.Rows L2
variable [Tb]
/-- a field's name is no attribute of the class -/
structure FldG (K : PySem.W.Frag) (mg : Str → Option Value) (c f : Str) : Prop where
  ex : ∃ C : Addr, mg c = some (.ref C) ∧ Cls K C ∧ NoAttr K C f
structure MthG (P : Program) (w : World) (K : PySem.W.Frag) (mg : Str → Option Value) (ground : Heap) (k : Nat) (c m : Str) (n : Nat) (φ : Fn) : Prop where
  ex : ∃ (C f : Addr) (fd : FuncData) (ps : List Str), ps.length = n ∧ mg c = some (.ref C) ∧ Cls K C ∧ Meth K C m f ∧ Binds K fd ps [] ∧ FnG P w K mg ground k f fd ps (spD K mg n φ)
theorem MthG.mono {P : Program} {w : World} {K : PySem.W.Frag} {mg : Str → Option Value} {ground : Heap} {j k n : Nat} {c m : Str} {φ : Fn} (G : MthG P w K mg ground j c m n φ) (h : j ≤ k) : MthG P w K mg ground k c m n φ :=
  let ⟨C, f, fd, ps, h1, h2, h3, h4, h5, h6⟩ := G.ex
  ⟨C, f, fd, ps, h1, h2, h3, h4, h5, h6.mono h⟩
/-- what __init__ without arguments leaves -/
def spIni (C : Addr) (ks : List Str) (us : List V) : Sp := fun vs H Q _ => ∃ (x dx : Addr), vs = [.ref x] ∧ H x = some (.ins C dx []) ∧ ∀ H' : Hp, (∀ b, b ≠ x → H' b = H b) → H' x = some (.ins C dx (ks.zip us)) → Q .non H'
structure MakG (P : Program) (w : World) (K : PySem.W.Frag) (mg : Str → Option Value) (ground : Heap) (c : Str) (ks : List Str) (ds : List D) : Prop where
  ex : ∃ (C f : Addr) (fd : FuncData) (us : List V), mg c = some (.ref C) ∧ L2.Mk K C f ∧ Binds K fd ["self"] [] ∧ FnOk P w K mg ground CX0 1 f fd ["self"] (spIni C ks us) ∧ ks.length = ds.length ∧ ∀ n F, Reps K mg n F us ds
theorem zip_look {K : PySem.W.Frag} {mg : Str → Option Value} {n : Cn} {F : Hp} {f : Str} : ∀ {ks : List Str} {vs : List V} {ds : List D} {d : D}, Reps K mg n F vs ds → (ks.zip ds).lookup f = some d → ∃ v, (ks.zip vs).lookup f = some v ∧ Rep K mg n F v d
  | [], _, _, _, _, h => by cases h
  | k :: ks, _, _, _, .nil, h => by cases h
  | k :: ks, _, _, d, .cons (v := v) (vs := vs) r rs, h => by
    rw [List.zip_cons_cons, List.lookup_cons] at h ⊢
    cases e : f == k with
    | true => rw [e] at h; cases h; exact ⟨v, rfl, r⟩
    | false => rw [e] at h; exact zip_look rs h
section
variable {X : Cx} {W : WX} {e o : Expr} {es : List Expr} {fo fe : DExp} {fa : DArg} {pos p : Pos} {k : Nat}
end
end DL
namespace DL
open PySem PySem.Spec PyProof.Rows L2
variable [Tb]
structure DfM (K : PySem.W.Frag) (mg : Str → Option Value) (c m qual : Str) (ps : List Str) (st : Stmt) : Prop where
  ex : ∃ (C f : Addr) (fd : FuncData), mg c = some (.ref C) ∧ Cls K C ∧ Meth K C m f ∧ Fun K m qual st f fd ∧ Binds K fd ps []
theorem DfM.of {K : PySem.W.Frag} {mg : Str → Option Value} {h : Heap} {c m qual : Str} {ps : List Str} {st : Stmt} {C f : Addr} {oc : Value} {od an : Option Addr} {osl : Array (Option Value)} {kV doc pm cdv ct : Value} (X : K.In h) (G : h.Ns mainGlobals mg)
    (a : PySem.W.nsIn K mainGlobals c = some (some (.ref C))) (cl : Cls K C) (am : PySem.W.findIn K (.ref C) m = some (some (.ref f))) (im : PySem.W.isFn K (.ref f) = true)
    (l : K.lookup f = some ⟨oc, od, .func (PySem.W.fnOf m qual (defArgs st) (defBody st) (defScope st) .none kV doc pm an cdv ct), osl⟩) (cc : PySem.W.codeIn K cdv qual = true) (k : PySem.W.keepIn K (.ref f) = true)
    (b : ∀ (kV doc pm : Value) (an : Option Addr) (cdv ct : Value) (us : List Value), us.length = ps.length → bindArgs (PySem.W.fnOf m qual (defArgs st) (defBody st) (defScope st) .none kV doc pm an cdv ct) ⟨us, []⟩ = pure (ps.zip us)) : DfM K mg c m qual ps st :=
  ⟨C, f, _, PySem.W.mg_of X G a, cl, ⟨am, im, k⟩, fun_mk l cc k, (fun_mk l cc k).binds b⟩
end DL

end
section
set_option Elab.async false
set_option linter.all false
set_option maxRecDepth 100000
set_option maxHeartbeats 4000000
/-! DLam: lambdas handed to a def: with no parameter, or with one that has a default. -/
namespace DL
open PySem PySem.Spec PyProof.Rows L2
variable [Tb]
section
variable {X : Cx} {pins : List (Addr × Obj)} {σ : L2.St} {H F : Hp} {s : Shared} {n : Cn}
end
/-! ### the lambda called, in the def that got it -/
open NdefX in
/-- what the def Z that got the lambda at f knows of it at its entry: no argument is given, so its parameters get us -/
structure LamZ (Z : Cx) (F : NF) (f : Addr) (body : Expr) (ps fr : List Str) (us : List Value) (vs : List V) (ws : List (Option V)) : Prop where
  at_ : ∃ dV doc pm ctv, Z.s_0.heap.get? f = some (PySem.W.kdv_obj F.name F.qual F.params (.expr body) F.scope F.cl dV doc pm F.c ctv) ∧
    (∀ t, dV = .ref t → Z.H_0 t = none ∧ t ∉ Z.fs ∧ ∃ o, Z.s_0.heap.get? t = some o) ∧
    ∀ s : Shared, (∀ t o, dV = .ref t → Z.s_0.heap.get? t = some o → s.heap.get? t = some o) → BindsTo s (PySem.W.kdv_fn F.name F.qual F.params (.expr body) F.scope F.cl dV doc pm (.ref F.c) ctv) ⟨[], []⟩ (ps.zip us)
  hn : Z.H_0 f = none
  nf : f ∉ Z.fs
  cells : CellsAt F.cl fr ws Z.s_0.heap Z.H_0
  vals : Vals vs us
  len : vs.length = ps.length
section
open NdefX
variable {Z : Cx} {W : WX} {F : NF} {f : Addr} {N ps fr : List Str} {us : List Value} {vs : List V} {ws : List (Option V)} {ds0 ds : List D} {k i : Nat} {a : Str} {fb : DExp} {body : Expr} {p1 p2 : Pos}
end
/-! ### the lambda made -/
/-- a place of which nobody knows -/
def Fresh (X : Cx) (H : Hp) (a : Addr) : Prop := H a = none ∧ a ≠ X.env.locals ∧ a ∉ X.fs ∧ a ∉ frs X.stack
/-- the making of a lambda whose parameters get vs0 where no argument is given -/
structure LamMk (X : Cx) (params : Arguments) (body : Expr) (scope : Scope) (lpos : Pos) (ps : List Str) (vs0 : List V) : Prop where
  run : ∀ (pins : List (Addr × Obj)) (σ : L2.St) (H F : Hp) (s : Shared) (n : Cn) (E : Value → Shared → Prop) (Q : Value → Shared → Prop), Inv X pins σ H s → (∀ b o, F b = some o → H b = some o) → TabsK F →
    (∀ (f c' : Addr) (F1 H1 : Hp) (s' : Shared) (us : List Value) (dV doc pm ctv : Value), Inv X pins σ H1 s' → Step n F H n F1 H1 → F1 c' = some (LamX.CodeO c' (X.env.qual ++ "<lambda>")) →
      s'.heap.get? f = some (PySem.W.kdv_obj "<lambda>" (X.env.qual ++ "<lambda>") params (.expr body) scope (cloFrom X.env.cells scope.names []) dV doc pm c' ctv) → Fresh X H1 f → Vals vs0 us →
      (∀ t, dV = .ref t → Fresh X H1 t ∧ ∃ vt, s'.heap.get? t = some (PySem.W.kdv_tup vt)) →
      (∀ s2 : Shared, (∀ t o, dV = .ref t → s'.heap.get? t = some o → s2.heap.get? t = some o) → BindsTo s2 (PySem.W.kdv_fn "<lambda>" (X.env.qual ++ "<lambda>") params (.expr body) scope (cloFrom X.env.cells scope.names []) dV doc pm (.ref c') ctv) ⟨[], []⟩ (ps.zip us)) → Q (.ref f) s') →
    wpAny (model X.prog X.w) X.A (eval (.Lambda params body scope lpos) X.env) Q E s
section
variable {X : Cx} {params : Arguments} {body : Expr} {scope : Scope} {lpos : Pos}
end
/-! ### x(lambda: .., ..) -/
section
open NdefX
variable {X : Cx} {W : WX} {params : Arguments} {bodyL : Expr} {scope : Scope} {lpos : Pos} {psL fr NL : List Str} {vs0 : List V} {ds0 : List D} {js : List Nat} {fb : DExp} {k j : Nat} {x a : Str} {psr Ng : List Str} {st : Stmt} {φ : M D → List D → M D} {sg : D → M D → DStm} {es : List Expr} {fa : DArg} {p pos : Pos}
end
end DL

end
section
set_option Elab.async false
set_option linter.all false
set_option maxRecDepth 100000
set_option maxHeartbeats 4000000
/-! DIsE: isinstance(err, C), err.field: err a value, of an error's class. -/
namespace DL
open PySem PySem.Spec PySem.Calls PyProof.Rows L2
section
open PySem.W
variable {prog : Program} {w : World} {A : Around} {E : Value → Shared → Prop} {s : Shared} {K : PySem.W.Frag} {x C : Addr} {ox od : Obj}
/-- the class's name, asked of an error that has a dict of its own -/
theorem err_class {Q : Option Value → Shared → Prop} (T : ExcC K C) (X : K.In s.heap) (I : InstAt s.heap x ox C (some od)) (h : Q (some (.ref C)) { s with toks := s.toks + 1 }) : wpAny (model prog w) A (getAttr? (.ref x) "__class__") Q E s := by
  obtain ⟨g1, g2, g3, g4, g5, g6, g7, g8⟩ := T
  have fo : findObj K C (some od) "__class__" = some (.bind (.builtin "getset_descriptor.__get__") (.builtin "object.__class__")) := findObj_data (by obtain ⟨_, q, _⟩ := any_some g4; rw [q]; rfl) g5 g6 g7
  obtain ⟨hp, gg, dd, tt, oo⟩ := s
  have ty := I.type (M := model prog w)
  have l1 := looks_findIn (M := model prog w) X g1
  have l2 := looks_findIn (M := model prog w) X g2
  have l3 := looks_find (M := model prog w) X I fo
  have isB : Looks (model prog w) hp (isInstance (.ref x) (.type "BaseException")) true := ty.andThen (looks_subIn X g3)
  have n0 : (false && onTheHeap (Value.builtin "BaseException.__getattribute__")) = false := rfl
  have n2 : (Value.builtin "BaseException.__getattribute__" == Value.builtin "object.__getattribute__") = false := by decide +kernel
  have n1 : (onTheHeap (Value.ref C) && Value.builtin "BaseException.__getattribute__" == Value.builtin "object.__getattribute__") = false := by rw [n2] <;> rfl
  unfold getAttr? getAttrBy?
  unfold getAttrBy
  refine wpAny_bind (wpAny_mkText (wpAny_bind (wpAny_attempt (wpAny_holding (wpAny_bind (ty.at (wpAny_bind (l1.at ?_))))))))
  show wpAny _ _ (if (onTheHeap (Value.ref C) && Value.builtin "BaseException.__getattribute__" == Value.builtin "object.__getattribute__") = true then _ else _) _ _ _
  rw [n1, if_neg (fun z => by cases z)]
  unfold getAttrByItsOwn
  unfold hookBefore
  refine wpAny_bind ?_
  rw [if_pos (show onTheHeap (Value.ref C) = true from rfl)]
  refine l2.at (wpAny_bind (wpAny_attempt (wpAny_holding ?_)))
  unfold callGetattribute
  rw [n0, if_neg (fun z => by cases z)]
  unfold boundAndCalled
  rw [PySem.F.excAttr_ValueError.ga.bind (.ref x)]
  refine wpAny_bind (wpAny_pure ?_)
  show wpAny _ _ (call (.builtin "BaseException.__getattribute__") [.ref x, .str "__class__" tt]) _ _ _
  refine wpAny_call (codeAny_call_builtin PySem.F.excAttr_ValueError.ga.plain PySem.F.entry_bexc_ga ?_)
  refine @check_slot (model prog w) _ _ ⟨hp, gg, dd, tt + 1, oo⟩ "BaseException.__getattribute__" "BaseException" "__getattribute__" (.ref x) [.str "__class__" tt] [] _ (by decide +kernel) (by decide +kernel) isB (PySem.F.args_bexc_ga (.ref x) (.str "__class__" tt)) ?_
  unfold Builtin.«object.__getattribute__»
  refine wpAny_bind (wpAny_of_eq (a := ((Value.ref x : Value), [Value.str "__class__" tt])) (by first | rfl | (simp only [slotArgs]; rfl)) ?_)
  refine wpAny_bind (wpAny_pure (wpAny_bind (ty.at (wpAny_bind (l3.at ?_)))))
  show wpAny _ _ (holding [Value.builtin "object.__class__"] (call (.builtin "getset_descriptor.__get__") [.builtin "object.__class__", .ref x, .ref C]) >>= PySem.ret) _ _ _
  refine wpAny_bind (wpAny_holding (wpAny_call (class_get (s := ⟨hp, gg, dd, tt + 1, oo⟩) (ox := ox) (od := some od) X I g8 ?_)))
  refine wpAny_pure ?_
  show wpAny _ _ (handedOut (.ref C)) _ _ _
  rw [handedOut_of (v := .ref C) rfl]
  first
    | exact wpAny_pure (wpAny_pure h)
    | exact wpAny_pure h
    | exact wpAny_pure (wpAny_bind (wpAny_pure (wpAny_pure h)))
theorem err_kit (T : ExcC K C) : KitX K (.ref x) (.ref C) (fun h => InstAt h x ox C (some od)) where
  ty := fun _ _ _ I => I.type
  it := fun _ _ X _ => by
    obtain ⟨cdC, hcC, _⟩ := any_some T.hd
    unfold clsIn at hcC
    split at hcC
    · rename_i k1 k2 k3 k4 ho
      exact fun A' Q' E' s' k q => by
        unfold isType
        unfold loadHead
        exact wpAny_bind (wpAny_loadPart (k _ _ (X _ _ ho)) (wpAny_pure q))
    · cases hcC
  ne := fun h tp d2 its n sl X htp => by
    obtain ⟨cdC, hcC, _⟩ := any_some T.hd
    refine Bool.eq_false_iff.mpr fun q => ?_
    obtain rfl : C = tp := Value.ref.inj (beq_iff_eq.mp q)
    unfold clsIn at hcC
    split at hcC
    · rename_i k1 k2 k3 k4 ho
      cases ((X _ _ ho).symm.trans htp)
    · cases hcC
  ca := fun X I k => err_class T X I k
end
variable [Tb]
/-- an error's class: what its objects tell -/
structure ErrO (K : PySem.W.Frag) (mg : Str → Option Value) (c : Str) : Prop where
  ex : ∃ C : Addr, mg c = some (.ref C) ∧ ExcC K C ∧ XfC K C ∧ PySem.W.findIn K (.ref C) (fieldOf c) = some none
section
variable {X : Cx} {W : WX}
theorem exc_inst {K : PySem.W.Frag} {P : Program} {w : World} {s : Shared} {H : Hp} {a C dx : Addr} {fs : List (Str × V)} (h : HOk P w H s.heap) (h1 : H a = some (ExcO a C dx)) (h2 : H dx = some (.xd fs)) :
    ∃ oe od, s.heap.get? a = some oe ∧ oe.cls = .ref C ∧ oe.dict = some dx ∧ (∃ vs, oe.data = .fields vs) ∧ PySem.W.InstAt s.heap a oe C (some od) ∧ s.heap.get? dx = some od ∧ ∀ n, (fs.lookup n).isSome → ∃ v u, fs.lookup n = some v ∧ RelV v u ∧ PySem.W.lookIn n od = some (some u) := by
  obtain ⟨⟨oe, vs, e1, e2, e3, e4⟩, _⟩ := h a _ h1
  obtain ⟨mA, hns, hr⟩ := (show ObjOk P w H s.heap dx (.xd fs) from h dx _ h2)
  obtain ⟨od, ho, hl⟩ := lookIn_ns hns
  refine ⟨oe, od, e1, e2, e3, ⟨vs, e4⟩, ⟨e1, e2, by unfold PySem.W.notCls; rw [e4] <;> rfl, by rw [e3]; exact ho⟩, ho, fun n hn => ?_⟩
  obtain ⟨v, hv⟩ := Option.isSome_iff_exists.mp hn
  obtain ⟨u, hu, ru⟩ := RelO.some_of (v := v) (o := mA n) (by rw [← hv]; exact hr n)
  exact ⟨v, u, hv, ru, by rw [hl, hu]⟩
/-- the field of an error -/
def dFld (oks : List Str) (n : Str) (f : DExp) : DExp := fun env => bnd (f env) fun d => match d with
  | .exc c p => need (c ∈ oks ∧ fieldOf c = n) (ret p)
  | _ => stuck
theorem de_fld {oks : List Str} {n : Str} {e : Expr} {f : DExp} {pos : Pos} (T : ∀ c ∈ oks, ErrO X.K X.mg c) (he : DE X W e f) (hb : attributeBase e n X.env (eval e X.env) = eval e X.env := by rfl) : DE X W (.Attribute e n pos) (dFld oks n f) := by
  refine ⟨⟨fun pins s σ H Q I h => ?_⟩⟩
  have h2 : tD X W f σ H fun x H1 => ∃ (a C dx : Addr) (v : V), x = .ref a ∧ H1 a = some (ExcO a C dx) ∧ H1 dx = some (.xd [(n, v)]) ∧ XfC X.K C ∧ PySem.W.findIn X.K (.ref C) n = some none ∧ Q v H1 := by
    obtain ⟨B, m, F, env, S, h⟩ := h
    refine tD.go S h fun d n1 v F1 H1 p t r S1 => ?_
    cases d with
    | exc c y =>
      obtain ⟨⟨hc, hn⟩, p⟩ := p
      obtain ⟨C, m1, _, T1, nf⟩ := (T c hc).ex
      cases r with
      | exb m4 _ _ _ _ => rw [m4] at m1; cases m1
      | exc m4 e1 e2 ry =>
        rw [m1] at m4; cases m4
        subst hn
        exact ⟨_, _, _, _, rfl, S1.sub _ _ e1, S1.sub _ _ e2, T1, nf, p _ F1 H1 t ry⟩
    | _ => exact p.elim
  refine attr_of hb (thn (he.pe.run pins s σ H _ I h2) fun u s1 hh => ?_)
  obtain ⟨x, H1, I1, rx, a, C, dx, v, rfl, h1, h3, T1, nf, q⟩ := hh
  obtain rfl : u = Value.ref a := rx
  obtain ⟨oe, od, _, _, _, _, J, _, lk⟩ := exc_inst (K := X.K) I1.hok h1 h3
  obtain ⟨v', u', e1, ru, e2⟩ := lk n (by simp)
  have : v' = v := by simpa using e1.symm
  subst this
  exact HandSPX.exc_get I1.kIn J T1.ga T1.gg T1.exC (PySem.W.findObj_own T1.hdC nf rfl e2) (handed_of ru) ⟨v', H1, I1.tok _, ru, q⟩
end
@[simp] theorem x_dfld (oks : List Str) (n : Str) (f : DExp) (env : En) : dFld oks n f env = bnd (f env) fun d => match d with
  | .exc c p => need (c ∈ oks ∧ fieldOf c = n) (ret p)
  | _ => stuck := rfl
end DL

end
section
set_option Elab.async false
set_option linter.all false
set_option maxRecDepth 100000
set_option maxHeartbeats 4000000
/-! DEndT: from the law's own promise to the statement, where defs make lambdas. -/
namespace DL
open PySem PySem.Spec PyProof.Rows L2
variable [Tb]
/-- where the maker x's code object and its table stand -/
def TabAt (q : Program) (K : PySem.W.Frag) (p : Addr × Addr) : Prop := ∃ (x : Str) (d : DefRec), (recsOf q).find? (fun e => e.name == x) = some d ∧ PySem.W.tabIn K x = some p ∧ K.lookup p.2 = none
theorem tabs_nil {cs : List (Addr × Addr)} {H : Hp} (h : ∀ P q, (P, q) ∈ Tb.tabs → ∃ c, (c, P) ∈ cs) (hT : ∀ p ∈ cs, H p.2 = some (.tbl #[])) (hs : Tb.sys = true → ∃ u, H sysModules = some u ∧ SysO u) : TabsK H := ⟨fun P q m => by
  obtain ⟨c, hc⟩ := h P q m
  exact LamX.TabS.nil (hT _ hc), hs⟩
/-! ### a maker of lambdas: a def whose code object and table are known -/
structure DfC (K : PySem.W.Frag) (mg : Str → Option Value) (x : Str) (ps : List Str) (st : Stmt) (c : Addr) : Prop where
  ex : ∃ (f : Addr) (oc : Value) (od an : Option Addr) (kV doc pm ct : Value) (osl : Array (Option Value)), mg x = some (.ref f) ∧ K.lookup f = some ⟨oc, od, .func (PySem.W.fnOf x x (defArgs st) (defBody st) (defScope st) .none kV doc pm an (.ref c) ct), osl⟩ ∧ PySem.W.codeIn K (.ref c) x = true ∧ PySem.W.keepIn K (.ref f) = true ∧
    Binds K (PySem.W.fnOf x x (defArgs st) (defBody st) (defScope st) .none kV doc pm an (.ref c) ct) ps []
theorem FnG.bodyC {P : Program} {w : World} {K : PySem.W.Frag} {mg : Str → Option Value} {ground : Heap} {f : Addr} {ps : List Str} {x qual : Str} {st : Stmt} {N : List Str} {k : Nat} {sp : Sp} {oc cd kV doc pm ct : Value} {od an : Option Addr} {osl : Array (Option Value)}
    (hl : K.lookup f = some ⟨oc, od, .func (PySem.W.fnOf x qual (defArgs st) (defBody st) (defScope st) .none kV doc pm an cd ct), osl⟩) (hc : PySem.W.codeIn K cd qual = true) (S : FnScope N ps (defScope st)) (len : ∀ vs H Q E, sp vs H Q E → vs.length = ps.length)
    (hb : ∀ (R : Around) (callers : List PySem.Env) (t : Shared) (H : Hp) (vs : List V) (Q : VK) (E : XK), Room k (R.deeper (envOfC qual (defScope st) t.heap.objs.size f cd)) → R.guards = some [] → sp vs H Q E →
      ∃ r, PSs (cxOf (L2.CX P w) P w K mg ground N qual (defScope st) f cd R callers t H E) (defBody st) r ∧ r { nx := fun _ H' => Q .non H', rt := Q } (L2.start N vs) H) :
    FnG P w K mg ground (k + 1) f (PySem.W.fnOf x qual (defArgs st) (defBody st) (defScope st) .none kV doc pm an cd ct) ps sp := by
  refine ⟨len, fun R callers t H g us vs Q E rm gd e0 bd rv q => ?_⟩
  have kin : K.In t.heap := e0.mod.kin.keeps fun b o e => (e0.bs b o e).1
  have nol : t.heap.NoLimit := e0.mod.nolimit.keeps fun b o e => (e0.bs b o e).1
  have kinds : ∀ y ∈ ps.zip us, (defScope st).names.lookup y.1 = some .local ∨
      ((defScope st).names.lookup y.1 = some .cell ∧ ((cellsFrom (t.heap.objs.size + 1) (defScope st).names []).lookup y.1).isSome = true) := by
    rintro ⟨a, v⟩ hy
    cases S.par a (List.of_mem_zip hy).1 with
    | inl z => exact .inl z
    | inr z => exact .inr ⟨z, PySem.W.cellsFrom_some _ _ _ (.inl z)⟩
  refine codeAny_call_function rm.depth (kin _ _ hl) rfl S.co S.gen rfl (PySem.W.codeRec_of kin hc) (bd _ _ _ _ (wpAny_newFunctionEnv_cells S.kind kinds fun en he s1 ic => ?_))
  subst he
  refine ⟨nol.keeps ic.toInCall.keep, codeAny_func ?_⟩
  obtain ⟨r, hr, hq⟩ := hb R callers t H vs Q E (rm.deeper _) gd q
  have I0 := inv_start (CX := L2.CX P w) (E := E) (N := N) S rm.hd e0 (len _ _ _ _ q) rv ic
  refine wpAny_mono (hr.run [] s1 (L2.start N vs) H _ I0 hq) (fun fl s2 z => ?_) fun _ _ z => z
  cases fl with
  | next =>
    obtain ⟨σ2, H2, J, q2⟩ := z
    exact ⟨.non, H2, J.os, J.bare, J.base, J.hok, rfl, q2⟩
  | ret u =>
    obtain ⟨v, σ2, H2, J, ru, q2⟩ := z
    exact ⟨v, H2, J.os, J.bare, J.base, J.hok, ru, q2⟩
  | brk => obtain ⟨_, _, _, q2⟩ := z; exact False.elim q2
  | cont => obtain ⟨_, _, _, q2⟩ := z; exact False.elim q2
theorem DfC.glo {P : Program} {w : World} {K : PySem.W.Frag} {mg : Str → Option Value} {ground : Heap} {x : Str} {N ps : List Str} {st : Stmt} {k m : Nat} {s : DStm} {c : Addr} (D : DfC K mg x ps st c) (S : FnScope N ps (defScope st)) (hm : ps.length = m)
    (hb : ∀ (f : Addr) (R : Around) (callers : List PySem.Env) (t : Shared) (H : Hp) (E : XK), Kx (cxOf (L2.CX P w) P w K mg ground N x (defScope st) f (.ref c) R callers t H E) (fun cls d _ H => E cls d H) k →
      DSs (cxOf (L2.CX P w) P w K mg ground N x (defScope st) f (.ref c) R callers t H E) (fun cls d _ H => E cls d H) (defBody st) s) : Glo P w K mg ground (k + 1) x m (fnOf N.length s) := by
  obtain ⟨f, oc, od, an, kV, doc, pm, ct, osl, h1, hl, hc, kp, hB⟩ := D.ex
  subst hm
  refine ⟨f, _, ps, rfl, h1, kp, hB, FnG.bodyC hl hc S (fun vs H Q E h => h.1) fun R callers t H vs Q E rm gd h => ⟨_, (hb f R callers t H E (Kx.of rm gd S.nd)).pss, ?_⟩⟩
  obtain ⟨_, n, F', ds, sb, tb, r, q⟩ := h
  refine ⟨⟨n, F', H⟩, n, F', _, SL.start sb r tb, (s _).mono (fun fl m hf => ?_) (fun x m hx => ?_) q⟩
  · cases fl with
    | nx env' => exact fun σ' F2 H2 _ z => hf .non F2 H2 z.st .non
    | rt d => exact fun v F2 H2 z rv => hf v F2 H2 z rv
  · exact fun cls dx σ' F2 H2 z rx => hx cls dx F2 H2 z rx
theorem DfC.of {K : PySem.W.Frag} {mg : Str → Option Value} {h : Heap} {x : Str} {ps : List Str} {st : Stmt} {f c : Addr} {oc : Value} {od an : Option Addr} {osl : Array (Option Value)} {kV doc pm ct : Value} (X : K.In h) (G : h.Ns mainGlobals mg)
    (a : PySem.W.nsIn K mainGlobals x = some (some (.ref f))) (l : K.lookup f = some ⟨oc, od, .func (PySem.W.fnOf x x (defArgs st) (defBody st) (defScope st) .none kV doc pm an (.ref c) ct), osl⟩) (hc : PySem.W.codeIn K (.ref c) x = true) (k : PySem.W.keepIn K (.ref f) = true)
    (b : ∀ (kV doc pm : Value) (an : Option Addr) (cdv ct : Value) (us : List Value), us.length = ps.length → bindArgs (PySem.W.fnOf x x (defArgs st) (defBody st) (defScope st) .none kV doc pm an cdv ct) ⟨us, []⟩ = pure (ps.zip us)) : DfC K mg x ps st c :=
  ⟨_, _, _, _, _, _, _, _, _, PySem.W.mg_of X G a, l, hc, k, (fun_mk l hc k).binds b⟩
end DL

end
section
set_option Elab.async false
set_option linter.all false
set_option maxRecDepth 100000
set_option maxHeartbeats 4000000
/-! DEqd: == of data without truth values: it is equality. -/
namespace DL
open PySem PySem.Spec PyProof.Rows L2
variable [Tb]
end DL

end
section
set_option Elab.async false
set_option linter.all false
set_option maxRecDepth 100000
set_option maxHeartbeats 4000000
/-! DOut: what a law's own outcome tells of a lambda. -/
namespace DL
open PySem PySem.Spec PyProof.Rows L2
variable [Tb]
/-- the three classes of an except clause catch the errors oks -/
structure Exc3 (K : PySem.W.Frag) (mg : Str → Option Value) (oks : List Str) (x1 x2 x3 : Str) : Prop where
  ex : ∃ c1 c2 c3 : Value, mg x1 = some c1 ∧ mg x2 = some c2 ∧ mg x3 = some c3 ∧ ∀ c ∈ oks, ∀ C : Addr, mg c = some (.ref C) → PySem.W.exmAny K (.ref C) [c1, c2, c3] = some true
section
variable {X : Cx} {W : WX} {k i : Nat} {x1 x2 x3 nm y : Str} {body : List Stmt} {q1 q2 q3 q4 q5 q6 q7 pos pos' : Pos} {kk : Nat} {s : DStm}
theorem de_gfnE {x : Str} {pos : Pos} (h : ∃ f : Addr, X.mg x = some (.ref f)) (hg : Gl X x := by rfl) (hd : (x == ("__debug__" : Str)) = false := by decide) : DE X W (.Name x pos) (dK (.fn x)) := let ⟨_, q⟩ := h; de_gfn q hg hd
end
end DL

end
section
set_option Elab.async false
set_option linter.all false
set_option maxRecDepth 100000
set_option maxHeartbeats 4000000
/-! DFact: the errors' classes, by what the top has written. -/
namespace DL
open PySem PySem.Spec PyProof.Rows L2
variable [Tb]
/-- a class's first def -/
def initOf : Stmt → Stmt
  | .ClassDef _ _ _ b .. => b.headD (.Pass ⟨0, 0, 0, 0⟩)
  | s => s
section
variable {P : Program} {w : World} {K : PySem.W.Frag} {h : Heap} {mg : Str → Option Value} {base : Heap}
theorem erro_of {C : Addr} {x : Str} (X : K.In h) (G : h.Ns mainGlobals mg) (aC : PySem.W.nsIn K mainGlobals x = some (some (.ref C)))
    (g1 : PySem.W.findIn K (.ref C) "__getattribute__" = some (some (.builtin "BaseException.__getattribute__"))) (g2 : PySem.W.findIn K (.ref C) "__getattr__" = some none) (g3 : PySem.W.subIn K (.ref C) (.type "BaseException") = some true) (g4 : PySem.W.hasDictIn K C = true)
    (g5 : PySem.W.findIn K (.ref C) "__class__" = some (some (.builtin "object.__class__"))) (g6 : PySem.W.specialIn K (.builtin "object.__class__") "__get__" = some (some (.builtin "getset_descriptor.__get__"))) (g7 : PySem.W.takesIn K (.builtin "object.__class__") = some true) (g8 : PySem.W.mroIn K C (.type "object") = some true)
    (hfl : PySem.W.findIn K (.ref C) (fieldOf x) = some none) : ErrO K mg x :=
  ⟨C, PySem.W.mg_of X G aC, ⟨g1, g2, g3, g4, g5, g6, g7, g8⟩, ⟨g1, g2, g3, g4⟩, hfl⟩
theorem kit_ref {C D : Addr} {b : Bool} (hd : PySem.W.hasDictIn K D = true) (ht : PySem.W.typeIn K (.ref D) = some (.type "type")) (h4 : PySem.W.subIn K (.ref C) (.ref D) = some b) : PySem.W.kitCls K (.ref C) (.ref D) = some b := by
  obtain ⟨cd, hc, _⟩ := PySem.W.any_some hd
  have e2 : ((PySem.W.clsIn K D).isSome && PySem.W.typeIn K (.ref D) == some (.type "type")) = true := by rw [hc, ht] <;> rfl
  show (if ((PySem.W.clsIn K D).isSome && PySem.W.typeIn K (.ref D) == some (.type "type")) = true then PySem.W.subIn K (.ref C) (.ref D) else none) = some b
  rw [if_pos e2]; exact h4
end
end DL

end
section
set_option Elab.async false
set_option linter.all false
set_option maxRecDepth 100000
set_option maxHeartbeats 4000000
/-! DDct: {} as a value, its repr. -/
namespace DL
open PySem PySem.Spec PyProof.Rows L2
variable [Tb]
section
variable {X : Cx} {W : WX} {pos : Pos}
def dDct0 : DExp := fun _ => ret (.dct [])
@[simp] theorem x_dct0 (env : En) : dDct0 env = ret (.dct []) := rfl
/-- a new object, frozen at once -/
theorem pe_frzNew {e : Expr} {t : TE} (h : PE X e t) : PE X e (fun σ H Q => t σ H fun x H1 => ∃ d u, x = .ref d ∧ H1 d = some u ∧ Mut (some u) ∧ ∀ od, Q x (upd H1 d (.frz od u))) := by
  refine ⟨fun pins s σ H Q I hw => ?_⟩
  refine thn (h.run pins s σ H _ I hw) fun v s1 ⟨x, H1, I1, r, d, u, hx, hd, mu, q⟩ => ?_
  obtain ⟨od, I2⟩ := I1.lock hd mu
  exact ⟨x, _, I2, r, q od⟩
theorem de_dct0 : DE X W (.Dict [] [] pos) dDct0 := by
  refine ⟨PE.imp (pe_frzNew pe_dnewK) fun σ H Q ⟨B, n, F, env, S, h⟩ => ?_⟩
  intro q hq
  refine ⟨q, _, rfl, upd_same, True.intro, fun od => ?_⟩
  have e : upd (upd H q (.dK [])) q (.frz od (.dK [])) = upd H q (.frz od (.dK [])) := by
    funext b
    by_cases hb : b = q
    · subst hb; rw [upd_same, upd_same]
    · rw [upd_ne hb, upd_ne hb, upd_ne hb]
  rw [e]
  exact h (.ref q) _ _ (Step.new S.sub hq) (.dct upd_same .nil)
end
end DL

end
section
set_option Elab.async false
set_option linter.all false
set_option maxRecDepth 100000
set_option maxHeartbeats 4000000
/-! DTac2: loops over range(n). -/
namespace DL
open PySem PySem.Spec PyProof.Rows L2
variable [Tb]
theorem zz3 {m : Nat} (h : m ≤ 100000) : m ≤ sizeLine := by rw [sizeLine_eq]; omega
theorem zz4 {m : Nat} (h : m < 100000) : m < sizeLine := by rw [sizeLine_eq]; omega
end DL

end
section
set_option Elab.async false
set_option linter.all false
set_option maxRecDepth 100000
set_option maxHeartbeats 4000000
/-! DDictC: dict comprehensions, d[k], k in d, for k in d, dict(pairs). -/
namespace DL
open PySem PySem.Spec PyProof.Rows L2
variable [Tb]
def keyD : D → Option Key
  | .int i => some (.inl i)
  | .str x => some (.inr x)
  | _ => none
def putD (kvs : List (Key × D)) (k : Key) (v : D) : List (Key × D) :=
  if (kvs.any fun kv => decide (kv.1 = k)) = true then kvs.map (fun kv => if kv.1 = k then (kv.1, v) else kv) else kvs ++ [(k, v)]
def getD (kvs : List (Key × D)) (k : Key) : Option D := (kvs.find? fun kv => decide (kv.1 = k)).map (·.2)
section
variable {K : PySem.W.Frag} {mg : Str → Option Value} {n : Cn} {F : Hp}
theorem RepK.any {k : Key} : ∀ {vs : List (Key × V)} {ds : List (Key × D)}, RepK K mg n F vs ds → (vs.any fun kv => decide (kv.1 = k)) = ds.any fun kv => decide (kv.1 = k)
  | _, _, .nil => rfl
  | _, _, .cons _ r => by rw [List.any_cons, List.any_cons, RepK.any r]
theorem RepK.setAt {k : Key} {v : V} {d : D} (h : Rep K mg n F v d) : ∀ {vs : List (Key × V)} {ds : List (Key × D)}, RepK K mg n F vs ds → RepK K mg n F (vs.map fun kv => if kv.1 = k then (kv.1, v) else kv) (ds.map fun kv => if kv.1 = k then (kv.1, d) else kv)
  | _, _, .nil => .nil
  | _, _, .cons (k := k') q r => by
    rw [List.map_cons, List.map_cons]
    by_cases e : k' = k
    · simp only [e, if_true]
      exact .cons h (RepK.setAt h r)
    · simp only [e, if_false]
      exact .cons q (RepK.setAt h r)
theorem RepK.append {vs ws : List (Key × V)} {ds es : List (Key × D)} : RepK K mg n F vs ds → RepK K mg n F ws es → RepK K mg n F (vs ++ ws) (ds ++ es)
  | .nil, s => s
  | .cons h r, s => .cons h (RepK.append r s)
theorem RepK.put {vs : List (Key × V)} {ds : List (Key × D)} {k : Key} {v : V} {d : D} (r : RepK K mg n F vs ds) (h : Rep K mg n F v d) : RepK K mg n F (putK vs k v) (putD ds k d) := by
  unfold putK putD
  rw [r.any]
  split
  · exact r.setAt h
  · exact r.append (.cons h .nil)
theorem RepK.len {vs : List (Key × V)} {ds : List (Key × D)} : RepK K mg n F vs ds → vs.length = ds.length
  | .nil => rfl
  | .cons _ r => by simp [RepK.len r]
theorem RepK.get {k : Key} : ∀ {vs : List (Key × V)} {ds : List (Key × D)}, RepK K mg n F vs ds → (valV vs k = none ∧ getD ds k = none) ∨ ∃ v d, valV vs k = some v ∧ getD ds k = some d ∧ Rep K mg n F v d
  | _, _, .nil => .inl ⟨rfl, rfl⟩
  | _, _, .cons (k := k') (v := v) (d := d) (vs := vs) (ds := ds) q r => by
    by_cases e : k' = k
    · exact .inr ⟨v, d, by simp [valV, List.find?_cons, e], by simp [getD, List.find?_cons, e], q⟩
    · have e1 : valV ((k', v) :: vs) k = valV vs k := by simp [valV, List.find?_cons, e]
      have e2 : getD ((k', d) :: ds) k = getD ds k := by simp [getD, List.find?_cons, e]
      rw [e1, e2]
      exact RepK.get r
theorem rep_key {v : V} {d : D} {k : Key} (r : Rep K mg n F v d) (h : keyD d = some k) : v = kV k := by
  unfold keyD at h
  split at h
  · cases h; cases r; rfl
  · cases h; cases r; rfl
  · cases h
def kD : Key → D
  | .inl i => .int i
  | .inr x => .str x
theorem RepK.at : ∀ {vs : List (Key × V)} {ds : List (Key × D)} {i : Nat} {k : Key} {d : D}, RepK K mg n F vs ds → ds[i]? = some (k, d) → ∃ v, vs[i]? = some (k, v)
  | _, _, _, _, _, .nil, e => by simp at e
  | _, _, 0, _, _, .cons (v := v) _ _, e => by simp at e; exact ⟨v, by simp [e.1]⟩
  | _, _, i + 1, _, _, .cons _ r, e => by
    obtain ⟨v, a⟩ := RepK.at (i := i) r (by simpa using e)
    exact ⟨v, by simpa using a⟩
end
/-! ### comprehensions -/
theorem Step.freezeZ {n n' : Cn} {F H F' H' : Hp} (t : Step n F H n' F' H') {p : Addr} {o : HO} (h : H p = none) (hf : Out n' F' p) : Step n F H n' (upd F' p o) (upd H' p o) :=
  (t.beside h hf).freeze h hf upd_same
section
variable {X : Cx} {W : WX} {k : Nat} {kx_ vx tg iter : Expr} {ifs : List Expr} {scope : Scope} {pos : Pos} {fi : DIt} {t : D → En → Option En} {c : DTst} {fk fv : DExp}
/-! ### d[k], k in d -/
def gIxD : D → D → M D
  | .dct l, e => match keyD e with
    | some k => match getD l k with
      | some d => ret d
      | none => stuck
    | none => stuck
  | _, _ => stuck
def gInK (neg : Bool) : D → D → M D
  | e, .dct l => match keyD e with
    | some k => ret (.bl (if neg then !(getD l k).isSome else (getD l k).isSome))
    | none => stuck
  | _, _ => stuck
variable {a b : Expr} {fa fb : DExp}
/-! ### for k in d -/
def iKeysD (f : DExp) : DIt := fun env => bnd (f env) fun d => match d with
  | .dct l => ret (l.map fun p => kD p.1)
  | _ => stuck
@[simp] theorem x_ikeys (f : DExp) (env : En) : iKeysD f env = bnd (f env) fun d => match d with
  | .dct l => ret (l.map fun p => kD p.1)
  | _ => stuck := rfl
end
/-! ### dict(pairs) -/
def mergeD : List (Key × D) → List (Key × D) → List (Key × D)
  | acc, [] => acc
  | acc, (k, v) :: r => mergeD (putD acc k v) r
end DL

end
section
set_option Elab.async false
set_option linter.all false
set_option maxRecDepth 100000
set_option maxHeartbeats 4000000
/-! DSortK: sorted(tuple), sorted(pair, key=lambda x: x % 2 == 0). -/
namespace DL
open PySem PySem.Spec PySem.W PyProof.Rows
section
variable {prog : Program} {w : World} {A : Around} {s : Shared} {f : Addr} {y : Str} {o : Obj} {fd : FuncData} {p1 p2 p3 p4 p5 : Pos} {j1 j2 : Nat} {E : Value → Shared → Prop}
end
end DL

end
section
set_option Elab.async false
set_option linter.all false
set_option maxRecDepth 100000
set_option maxHeartbeats 4000000
/-! DSortT: sorted(tuple of ints), sorted(pair, key=lambda x: x % 2 == 0), over data. -/
namespace DL
open PySem PySem.Spec PyProof.Rows L2
variable [Tb]
section
variable {prog : Program} {w : World} {A : Around} {s : Shared} {E : Value → Shared → Prop}
end
section
variable {X : Cx}
end
section
variable {X : Cx} {W : WX}
/-! ### sorted(pair, key=lambda y: y % 2 == 0) -/
end
end DL

end
section
set_option Elab.async false
set_option linter.all false
set_option maxRecDepth 100000
set_option maxHeartbeats 4000000
/-! DTgL: a, b, .. = a list; x is True. -/
namespace DL
open PySem PySem.Spec PyProof.Rows L2
variable [Tb]
def tgL (n : Nat) (u : List D → En → Option En) : D → En → Option En := fun d env => match d with
  | .lst l => if l.length = n then u l env else none
  | _ => none
section
variable {X : Cx} {es : List Expr} {js : List Nat} {gs : TGs}
end
end DL

end
section
set_option Elab.async false
set_option linter.all false
set_option maxRecDepth 100000
set_option maxHeartbeats 4000000
open PySem PySem.Spec PyProof.Rows L2 DL
namespace PKG
def s__law_of : DStm :=
  sRet (dBin gIx (dVar 1) (dCall 2 gDraw (aCons (dVar 0) (aCons (dCb gLen (aCons (dVar 1) (aNil))) (aNil)))))
def f__law_of : Fn := fnOf (["_law_m", "_law_some"] : List Str).length s__law_of
def s_is_between : DStm :=
  sSeq (sUnp (tgL 2 (tgsCons (tgN 4) (tgsCons (tgN 5) (tgsNil)))) (dCb gSortI (aCons (dLst (aCons (dBin gIxD (dVar 0) (dVar 2)) (aCons (dBin gIxD (dVar 0) (dVar 3)) (aNil)))) (aNil)))) (sRet (dChain gLt gLt (dVar 4) (dBin gIxD (dVar 0) (dVar 1)) (dVar 5)))
def f_is_between : Fn := fnOf (["levels", "sector", "one", "other", "low", "high"] : List Str).length s_is_between
def s_sides_of : DStm :=
  sRet (dTup (aCons (dBin gMod (dBin gSub (dVar 1) (dK (.int 1))) (dCb gLen (aCons (dVar 0) (aNil)))) (aCons (dVar 1) (aNil))))
def f_sides_of : Fn := fnOf (["corner", "crease"] : List Str).length s_sides_of
def s_is_free : DStm :=
  sSeq (sUnp (tgT 2 (tgsCons (tgN 6) (tgsCons (tgN 7) (tgsNil)))) (dCall 2 f_sides_of (aCons (dVar 0) (aCons (dVar 2) (aNil))))) (sSeq (sIf (dOr (dTst (dBin (gInK true) (dVar 6) (dVar 1))) (dTst (dBin (gInK true) (dVar 7) (dVar 1)))) (sRet (dK (.bl true))) (sSkip)) (sSeq (sAsg 4 (dBin gIx (dBin gIx (dVar 3) (dK (.int 0))) (dVar 2))) (sSeq (sFor (iKeysD (dVar 1)) (tgN 5) (sSeq (sUnp (tgT 2 (tgsCons (tgN 8) (tgsCons (tgN 9) (tgsNil)))) (dBin gIx (dBin gIx (dVar 3) (dK (.int 1))) (dVar 5))) (sIf (dAnd (dTst (dChain gLt gLt (dVar 8) (dVar 4) (dVar 9))) (dTst (dCall 4 f_is_between (aCons (dVar 1) (aCons (dVar 5) (aCons (dVar 6) (aCons (dVar 7) (aNil)))))))) (sRet (dK (.bl false))) (sSkip)))) (sRet (dK (.bl true))))))
def f_is_free : Fn := fnOf (["corner", "levels", "crease", "shape", "place", "sector", "one", "other", "low", "high"] : List Str).length s_is_free
def s_do_cross : DStm :=
  sSeq (sPars [4, 5] (mVal (dCall 2 f_sides_of (aCons (dVar 0) (aCons (dVar 2) (aNil)))) (mVal (dCall 2 f_sides_of (aCons (dVar 0) (aCons (dVar 3) (aNil)))) (mNil)))) (sSeq (sIf (dNot (dTst (dCb gAll (aCons (dLc (iVal (dTup (aStar (dVar 4) (aStar (dVar 5) (aNil))))) [6] (tgN 6) (cYes) (dBin (gInK false) (dVar 6) (dVar 1))) (aNil))))) (sRet (dK (.bl false))) (sSkip)) (sRet (dBin (gEq true) (dCall 4 f_is_between (aCons (dVar 1) (aCons (dBin gIx (dVar 5) (dK (.int 0))) (aCons (dBin gIx (dVar 4) (dK (.int 0))) (aCons (dBin gIx (dVar 4) (dK (.int 1))) (aNil)))))) (dCall 4 f_is_between (aCons (dVar 1) (aCons (dBin gIx (dVar 5) (dK (.int 1))) (aCons (dBin gIx (dVar 4) (dK (.int 0))) (aCons (dBin gIx (dVar 4) (dK (.int 1))) (aNil)))))))))
def f_do_cross : Fn := fnOf (["corner", "levels", "crease", "later", "near", "far", "sector"] : List Str).length s_do_cross
def s_holds : DStm :=
  sSeq (sIf (dNot (dTst (dCb gAll (aCons (dLc (iRange1 (aCons (dCb gLen (aCons (dVar 0) (aNil))) (aNil))) [3] (tgN 3) (cYes) (dCall 4 f_is_free (aCons (dVar 0) (aCons (dVar 1) (aCons (dVar 3) (aCons (dVar 2) (aNil))))))) (aNil))))) (sRet (dK (.bl false))) (sSkip)) (sRet (dNotV (dCb gAny (aCons (dLc (iVal (dBin gIx (dVar 2) (dK (.int 2)))) [4, 5] (tgT 2 (tgsCons (tgN 4) (tgsCons (tgN 5) (tgsNil)))) (cYes) (dCall 4 f_do_cross (aCons (dVar 0) (aCons (dVar 1) (aCons (dVar 4) (aCons (dVar 5) (aNil))))))) (aNil)))))
def f_holds : Fn := fnOf (["corner", "levels", "shape", "crease", "one", "other"] : List Str).length s_holds
end PKG
namespace PKH
open PKG
def s__law_of : DStm :=
  sRet (dBin gIx (dVar 1) (dCall 2 gDraw2 (aCons (dVar 0) (aCons (dCb gLen (aCons (dVar 1) (aNil))) (aNil)))))
def f__law_of : Fn := fnOf (["_law_m", "_law_some"] : List Str).length s__law_of
end PKH

end
section
set_option Elab.async false
set_option linter.all false
set_option maxRecDepth 100000
set_option maxHeartbeats 4000000
/-! DDictP: dict(pairs) as a value. -/
namespace DL
open PySem PySem.Spec PyProof.Rows L2
variable [Tb]
section
variable {X : Cx} {W : WX} {f : Value} {r : List V → Hp → VK → Prop}
theorem mergeK_rep {K : PySem.W.Frag} {mg : Str → Option Value} {n : Cn} {F : Hp} : ∀ (more : List (Key × V)) (md : List (Key × D)) (kvs : List (Key × V)) (ds : List (Key × D)), RepK K mg n F more md → RepK K mg n F kvs ds → RepK K mg n F (mergeK kvs more) (mergeD ds md)
  | [], _, _, _, .nil, r => r
  | (k, v) :: more, _, kvs, ds, .cons (d := d) h t, r => mergeK_rep more _ (putK kvs k v) (putD ds k d) t (r.put h)
end
end DL

end
section
set_option Elab.async false
set_option linter.all false
set_option maxRecDepth 100000
set_option maxHeartbeats 4000000
/-! DDictF: {k: v, ..} with keys ints and texts; a def's name as a value, called. -/
namespace DL
open PySem PySem.Spec PyProof.Rows L2
variable [Tb]
def prD : List (DExp × DExp) → En → M (List (Key × D))
  | [], _ => ret []
  | p :: r, env => bnd (p.1 env) fun kd => bnd (p.2 env) fun v => match keyD kd with
    | none => stuck
    | some k => bnd (prD r env) fun l => ret ((k, v) :: l)
def dDctS (ps : List (DExp × DExp)) : DExp := fun env => bnd (prD ps env) fun l => need (l.length ≤ 15) (ret (.dct (mergeD [] l)))
@[simp] theorem x_dctS (ps : List (DExp × DExp)) (env : En) : dDctS ps env = bnd (prD ps env) fun l => need (l.length ≤ 15) (ret (.dct (mergeD [] l))) := rfl
@[simp] theorem x_prN (env : En) : prD [] env = ret [] := rfl
@[simp] theorem x_prC (p : DExp × DExp) (r : List (DExp × DExp)) (env : En) : prD (p :: r) env = bnd (p.1 env) fun kd => bnd (p.2 env) fun v => match keyD kd with
    | none => stuck
    | some k => bnd (prD r env) fun l => ret ((k, v) :: l) := rfl
section
variable {X : Cx} {W : WX} {pos : Pos}
theorem RepK.len2 {K : PySem.W.Frag} {mg : Str → Option Value} {n : Cn} {F : Hp} : ∀ {vs : List (Key × V)} {ds : List (Key × D)}, RepK K mg n F vs ds → vs.length = ds.length
  | _, _, .nil => rfl
  | _, _, .cons _ t => congrArg Nat.succ (RepK.len2 t)
theorem tPairs_go : ∀ (ps : List (DExp × DExp)) {B : Bs} {σ : L2.St} {n : Cn} {F H : Hp} {env : En} (_ : SL X.K X.mg B n F H σ env) (Q : List (V × V) → Hp → Prop),
    (prD ps env).run n (fun l n1 => ∀ (F1 H1 : Hp) (vs : List (Key × V)), Step n F H n1 F1 H1 → RepK X.K X.mg n1 F1 vs l → Q (vs.map fun kv => (kV kv.1, kv.2)) H1) (exE X W n F H σ) → tPairs (ps.map fun p => (tD X W p.1, tD X W p.2)) σ H Q
  | [], B, σ, n, F, H, env, S, Q, h => h F H [] (Step.refl S.sub) .nil
  | p :: r, B, σ, n, F, H, env, S, Q, h => by
    show tD X W p.1 σ H fun x H1 => tD X W p.2 σ H1 fun y H2 => tPairs (r.map fun p => (tD X W p.1, tD X W p.2)) σ H2 fun qs H3 => Q ((x, y) :: qs) H3
    refine tD.go S h fun kd n1 x F1 H1 q1 t1 r1 S1 => ?_
    refine tD.go S1 ((p.2 env).mono (fun _ _ z => z) (fun _ _ z => exE.step t1 z) q1) fun v n2 y F2 H2 q2 t2 r2 S2 => ?_
    cases e : keyD kd with
    | none => rw [e] at q2; exact q2.elim
    | some ky =>
      rw [e] at q2
      have ex := rep_key r1 e
      subst ex
      refine tPairs_go r S2 _ ((prD r env).mono (fun l n3 q F3 H3 vs t3 rk => ?_) (fun _ _ z => exE.step (t1.trans t2) z) q2)
      exact q F3 H3 ((ky, y) :: vs) ((t1.trans t2).trans t3) (.cons (r2.grow t3.gr) rk)
theorem de_dctS {keys : List (Option Expr)} {values : List Expr} {ps : List (DExp × DExp)} (h : PPs X pos keys values (ps.map fun p => (tD X W p.1, tD X W p.2))) (hall : keys.all (·.isSome) = true := by rfl) (hl : keys.length = values.length := by rfl) (h0 : keys ≠ [] := by decide) (h15 : keys.length ≤ 15 := by decide) :
    DE X W (.Dict keys values pos) (dDctS ps) := by
  refine ⟨PE.imp (pe_frzNew (pe_disp h hall hl h0 h15)) fun σ H Q ⟨B, n, F, env, S, h⟩ => ?_⟩
  intro p hp
  have hF : Out n F p := S.out hp
  have st0 : Step n F H n F (upd H p (.dK [])) := (Step.refl S.sub).beside hp hF
  have S0 := S.step st0
  refine tPairs_go ps S0 _ ((prD ps env).mono (fun l n1 q F1 H1 vs t1 r1 => ?_) (fun x m z => exE.step st0 z) h)
  obtain ⟨hz, q⟩ := q
  obtain ⟨hD, hO⟩ := t1.keep p _ upd_same hF
  refine ⟨hD, vs, rfl, by rw [r1.len2]; exact hz, p, _, rfl, upd_same, True.intro, fun od => ?_⟩
  have st := (st0.trans t1).beside (o := .dK (mergeK [] vs)) hp hO
  exact q _ _ _ (st.freezeZ hp hO) (.dct upd_same (RepK.grow (Grow.new hO.1) (mergeK_rep vs l [] [] r1 .nil)))
theorem dp_nil : PPs X pos [] [] (([] : List (DExp × DExp)).map fun p => (tD X W p.1, tD X W p.2)) := pps_nil
theorem dp_cons {k v : Expr} {ks : List (Option Expr)} {vs : List Expr} {fk fv : DExp} {ps : List (DExp × DExp)} (hk : DE X W k fk) (hv : DE X W v fv) (hr : PPs X pos ks vs (ps.map fun p => (tD X W p.1, tD X W p.2))) :
    PPs X pos (some k :: ks) (v :: vs) (((fk, fv) :: ps).map fun p => (tD X W p.1, tD X W p.2)) := pps_cons hk.pe hv.pe hr
end
end DL

end
section
set_option Elab.async false
set_option linter.all false
set_option maxRecDepth 100000
set_option maxHeartbeats 4000000
/-! DNest: repr of data with dicts inside. -/
namespace DL
open PySem PySem.Spec PyProof.Rows L2
variable [Tb]
def encK : Key → PyData
  | .inl i => .int i
  | .inr x => .str x
mutual
def toPyE : D → Option PyData
  | .non => some .none
  | .bl b => some (.bool b)
  | .int i => some (.int i)
  | .str s => some (.str s)
  | .tup l => (toPysE l).map PyData.tuple
  | .lst l => (toPysE l).map PyData.list
  | .dct l => (toPyK l).map PyData.dict
  | _ => none
def toPysE : List D → Option (List PyData)
  | [] => some []
  | d :: r => match toPyE d, toPysE r with
    | some p, some ps => some (p :: ps)
    | _, _ => none
def toPyK : List (Key × D) → Option (List (PyData × PyData))
  | [] => some []
  | (k, d) :: r => match toPyE d, toPyK r with
    | some p, some ps => some ((encK k, p) :: ps)
    | _, _ => none
end
section
variable {X : Cx} {pins : List (Addr × Obj)} {σ : L2.St} {F H : Hp} {s : Shared} {n : Cn}
theorem sys_ne_lst {a : Addr} {xs : List V} (sy : ∃ u, F sysModules = some u ∧ SysO u) (h : F a = some (.lst xs)) : sysModules ≠ a := fun e => by
  subst e
  obtain ⟨u, h1, h2⟩ := sy
  rw [h] at h1
  cases h1
  rcases h2 with ⟨_, h2⟩ | ⟨_, _, h2⟩ <;> cases h2
mutual
theorem nest_reads (I : Inv X pins σ H s) (sb : ∀ b o, F b = some o → H b = some o) (sy : ∃ u, F sysModules = some u ∧ SysO u) : ∀ (d : D) (v : V) (u : Value) (p : PyData), Rep X.K X.mg n F v d → toPyE d = some p → RelV v u → ∃ as, Reads s.heap u p as ∧ sysModules ∉ as
  | .non, _, _, p, h, e, r => by
    cases h; cases r; simp only [toPyE, Option.some.injEq] at e; subst e; exact ⟨_, .none, by simp⟩
  | .bl b, _, _, p, h, e, r => by
    cases h; cases r; simp only [toPyE, Option.some.injEq] at e; subst e; exact ⟨_, .bool b, by simp⟩
  | .int i, _, _, p, h, e, r => by
    cases h; obtain ⟨t, rfl⟩ := r; simp only [toPyE, Option.some.injEq] at e; subst e; exact ⟨_, .int i t, by simp⟩
  | .str x, _, _, p, h, e, r => by
    cases h; obtain ⟨t, rfl⟩ := r; simp only [toPyE, Option.some.injEq] at e; subst e; exact ⟨_, .str x t, by simp⟩
  | .tup l, _, _, p, h, e, r => by
    cases h with
    | tup ha hr =>
      cases r
      cases q : toPysE l with
      | none => simp only [toPyE, q, Option.map_none] at e; cases e
      | some ps =>
        simp only [toPyE, q, Option.map_some, Option.some.injEq] at e
        subst e
        obtain ⟨its, rv, ⟨o, ho, hc, m, hd⟩, _⟩ := I.tuple (SqT.of (sb _ _ ha))
        obtain ⟨as, q1, q2⟩ := nest_readsAll I sb sy l _ its ps hr q rv
        exact ⟨_, .tuple ho hc hd q1, q2⟩
  | .lst l, _, _, p, h, e, r => by
    cases h with
    | lst ha hr =>
      cases r
      cases q : toPysE l with
      | none => simp only [toPyE, q, Option.map_none] at e; cases e
      | some ps =>
        simp only [toPyE, q, Option.map_some, Option.some.injEq] at e
        subst e
        obtain ⟨its, rv, ⟨o, m, ho, hc, _, hd⟩, _⟩ := I.list (SqL.of (sb _ _ ha))
        obtain ⟨as, q1, q2⟩ := nest_readsAll I sb sy l _ its ps hr q rv
        exact ⟨_, .list ho hc hd q1, by
          rw [List.mem_cons]
          exact fun z => z.elim (sys_ne_lst sy ha) q2⟩
  | .dct l, _, _, p, h, e, r => by
    cases h with
    | @dct _ o0 kvs0 _ ha hr =>
      cases r
      cases q : toPyK l with
      | none => simp only [toPyE, q, Option.map_none] at e; cases e
      | some ps =>
        simp only [toPyE, q, Option.map_some, Option.some.injEq] at e
        subst e
        obtain ⟨_, hs, vs, hk, hd⟩ := (show ObjOk X.prog X.w H s.heap _ (.dK kvs0) from (show ObjOk X.prog X.w H s.heap _ (.frz o0 (.dK kvs0)) from I.hok _ _ (sb _ _ ha)).2)
        obtain ⟨bs, q1, q2⟩ := nest_pairs I sb sy l _ vs ps hr q hk
        refine ⟨_, PyProof.V.reads_dictOf (fun k key hkey => ?_) hd q1, ?_⟩
        · rcases keyIs_shape hkey with ⟨i, t, rfl, rfl⟩ | ⟨x, t, rfl, rfl⟩
          · exact .int i t
          · exact .str x t
        · rw [List.mem_cons]
          exact fun z => z.elim (fun e => by rw [← e] at hs; simp at hs) q2
theorem nest_readsAll (I : Inv X pins σ H s) (sb : ∀ b o, F b = some o → H b = some o) (sy : ∃ u, F sysModules = some u ∧ SysO u) : ∀ (ds : List D) (vs : List V) (us : List Value) (ps : List PyData), Reps X.K X.mg n F vs ds → toPysE ds = some ps → Vals vs us → ∃ as, ReadsAll s.heap us ps as ∧ sysModules ∉ as
  | [], _, _, ps, h, e, r => by
    cases h; cases r; simp only [toPysE, Option.some.injEq] at e; subst e; exact ⟨_, .nil, by simp⟩
  | d :: ds, _, _, ps, h, e, r => by
    cases h with
    | cons h1 h2 => cases r with
      | cons r1 r2 =>
        cases q : toPyE d with
        | none => simp only [toPysE, q] at e; cases e
        | some p =>
          cases q2 : toPysE ds with
          | none => simp only [toPysE, q, q2] at e; cases e
          | some ps' =>
            simp only [toPysE, q, q2, Option.some.injEq] at e
            subst e
            obtain ⟨as, a1, a2⟩ := nest_reads I sb sy d _ _ p h1 q r1
            obtain ⟨bs, b1, b2⟩ := nest_readsAll I sb sy ds _ _ ps' h2 q2 r2
            exact ⟨_, .cons a1 b1, by rw [List.mem_append]; exact fun z => z.elim a2 b2⟩
theorem nest_pairs (I : Inv X pins σ H s) (sb : ∀ b o, F b = some o → H b = some o) (sy : ∃ u, F sysModules = some u ∧ SysO u) : ∀ (ds : List (Key × D)) (kvs : List (Key × V)) (us : List (Key × Value)) (ps : List (PyData × PyData)), RepK X.K X.mg n F kvs ds → toPyK ds = some ps → KV kvs us → ∃ as, PyProof.V.PairsRead s.heap encK us ps as ∧ sysModules ∉ as
  | [], _, _, ps, h, e, r => by
    cases h; cases r; simp only [toPyK, Option.some.injEq] at e; subst e; exact ⟨_, .nil, by simp⟩
  | (k, d) :: ds, _, _, ps, h, e, r => by
    cases h with
    | cons h1 h2 => cases r with
      | @cons _ y _ _ r1 r2 =>
        obtain ⟨k', v'⟩ := y
        obtain ⟨rfl, r1⟩ := r1
        cases q : toPyE d with
        | none => simp only [toPyK, q] at e; cases e
        | some p =>
          cases q2 : toPyK ds with
          | none => simp only [toPyK, q, q2] at e; cases e
          | some ps' =>
            simp only [toPyK, q, q2, Option.some.injEq] at e
            subst e
            obtain ⟨as, a1, a2⟩ := nest_reads I sb sy d _ _ p h1 q r1
            obtain ⟨bs, b1, b2⟩ := nest_pairs I sb sy ds _ _ ps' h2 q2 r2
            exact ⟨_, .cons a1 b1, by rw [List.mem_append]; exact fun z => z.elim a2 b2⟩
end
end
def gReprN : List D → M D
  | [d] => match toPyE d with
    | some p => need (p.showable = true ∧ p.depth ≤ 60 ∧ p.shown.length ≤ sizeLine) (ret (.str p.shown))
    | none => stuck
  | _ => stuck
def rReprN (K : PySem.W.Frag) (mg : Str → Option Value) : List V → Hp → VK → Prop := fun vs H Q => ∃ (v : V) (d : D) (p : PyData) (n : Cn) (F : Hp), vs = [v] ∧ (∀ b o, F b = some o → H b = some o) ∧ (∃ u, F sysModules = some u ∧ SysO u) ∧ Rep K mg n F v d ∧ toPyE d = some p ∧
  p.showable = true ∧ p.depth ≤ 60 ∧ p.shown.length ≤ sizeLine ∧ Q (.str p.shown) H
section
variable {X : Cx} {W : WX} {x : Str} {e : Expr} {es : List Expr} {fa : DArg} {p pos : Pos}
theorem cr_reprN (hg : X.A.guards = some []) (hu : X.A.units + 65 < cLine) : CallR X (.builtin "repr") (rReprN X.K X.mg) := by
  intro pins s σ H vs us Q I r h
  obtain ⟨v, d, p, n, F, rfl, sb, sy, rd, e, h1, h2, h3, q⟩ := h
  cases r with
  | cons rv rn =>
    cases rn
    cases d with
    | non =>
      cases rd; cases rv; simp only [toPyE, Option.some.injEq] at e; subst e
      exact PySem.P.repr_of_none ⟨.str _, H, I.tok _, ⟨s.toks, by simp only [PyData.shown]⟩, q⟩
    | bl b =>
      cases rd; cases rv; simp only [toPyE, Option.some.injEq] at e; subst e
      exact PySem.P.repr_of_bool ⟨.str _, H, I.tok _, ⟨s.toks, by simp only [PyData.shown]⟩, q⟩
    | int i =>
      cases rd; obtain ⟨t, rfl⟩ := rv; simp only [toPyE, Option.some.injEq] at e; subst e
      exact PySem.P.repr_of_int (by simpa [PyData.showable] using h1) ⟨.str _, H, I.tok _, ⟨s.toks, by simp only [PyData.shown]⟩, q⟩
    | str x =>
      cases rd; obtain ⟨t, rfl⟩ := rv; simp only [toPyE, Option.some.injEq] at e; subst e
      exact PySem.P.repr_of_str (by refine ⟨.str _, H, I.tok _, ⟨s.toks, ?_⟩, q⟩; simp only [PyData.shown]) (by simpa only [PyData.shown] using h3)
    | lst l =>
      obtain ⟨as, q1, q2⟩ := nest_reads I sb sy (.lst l) v _ p rd e rv
      cases rd; cases rv
      exact repr_of_reads' q1 h1 (fun _ => q2) hg (by omega) (fun _ _ e => e) (fun h' u tk hk => ⟨.str _, H, I.kept hk, ⟨u, rfl⟩, q⟩) h3
    | tup l =>
      obtain ⟨as, q1, q2⟩ := nest_reads I sb sy (.tup l) v _ p rd e rv
      cases rd; cases rv
      exact repr_of_reads' q1 h1 (fun _ => q2) hg (by omega) (fun _ _ e => e) (fun h' u tk hk => ⟨.str _, H, I.kept hk, ⟨u, rfl⟩, q⟩) h3
    | dct l =>
      obtain ⟨as, q1, q2⟩ := nest_reads I sb sy (.dct l) v _ p rd e rv
      cases rd; cases rv
      exact repr_of_reads' q1 h1 (fun _ => q2) hg (by omega) (fun _ _ e => e) (fun h' u tk hk => ⟨.str _, H, I.kept hk, ⟨u, rfl⟩, q⟩) h3
    | scr _ => simp only [toPyE] at e; cases e
    | rng _ _ => simp only [toPyE] at e; cases e
    | exc _ _ => simp only [toPyE] at e; cases e
    | fn _ => simp only [toPyE] at e; cases e
    | ty _ => simp only [toPyE] at e; cases e
    | thk _ _ _ _ _ => simp only [toPyE] at e; cases e
    | obj _ _ _ => simp only [toPyE] at e; cases e
    | ptr _ => simp only [toPyE] at e; cases e
theorem de_reprN (hs : Tb.sys = true) (hg : X.A.guards = some []) (hu : X.A.units + 65 < cLine) (hm : X.mg x = none) (ha : DA X W (e :: es) fa) (hv : bootBuiltins x = some (.builtin "repr") := by decide +kernel) (hgl : Gl X x := by rfl) (hn : x ≠ "__name__" := by decide) (hdb : (x == ("__debug__" : Str)) = false := by decide)
    (he : starEach (e :: es) X.env = (false, eval e X.env) :: starEach es X.env := by rfl) (hpl : (backTo pos (starEach es X.env)).any (·.1) = false := by rfl) : DE X W (.Call (.Name x p) (e :: es) [] pos) (dCb gReprN fa) :=
  ⟨PE.imp (pe_callB (cr_reprN hg hu) hgl hm hv ha.pa hn hdb he hpl) fun σ H Q ⟨B, n, F, env, S, h⟩ =>
    tA.go S h fun ds n1 vs F1 H1 pp t r1 S1 => by
      unfold gReprN at pp
      split at pp
      · rename_i d
        split at pp
        · rename_i p hp
          obtain ⟨⟨h1, h2, h3⟩, q⟩ := pp
          cases r1 with
          | cons rd rn =>
            cases rn
            exact ⟨_, d, p, n1, F1, rfl, S1.sub, S1.tabs.2 hs, rd, hp, h1, h2, h3, q _ F1 H1 t (.str _)⟩
        · exact pp.elim
      · exact pp.elim⟩
end
/-! ### sizes -/
def wtKey : Key → Nat
  | .inl i => if i.natAbs < 10 ^ 60 then 61 else 100000000
  | .inr x => if x.cps.all (· < 16 ^ 8) then 10 * x.length + 2 else 100000000
def wtE : Nat → D → Nat
  | _, .non => 4
  | _, .bl _ => 5
  | _, .int i => if i.natAbs < 10 ^ 60 then 61 else 100000000
  | _, .str x => if x.cps.all (· < 16 ^ 8) then 10 * x.length + 2 else 100000000
  | k + 1, .tup l => (l.map fun d => wtE k d + 2).sum + 3
  | k + 1, .lst l => (l.map fun d => wtE k d + 2).sum + 3
  | k + 1, .dct l => (l.map fun p => wtKey p.1 + wtE k p.2 + 4).sum + 3
  | _, _ => 100000000
def rtxE (d : D) : Str := match toPyE d with
  | some p => p.shown
  | none => ""
structure ShE (k w : Nat) (p : PyData) : Prop where
  len : p.shown.length ≤ w
  sh : p.showable = true
  dp : p.depth ≤ k
theorem str_show {x : Str} (h : x.cps.all (· < 16 ^ 8) = true) (k : Nat) : ShE k (10 * x.length + 2) (.str x) := ⟨by
  simp only [PyData.shown]
  refine StrLaws.reprText_len x fun c hc => ?_
  have := Array.all_eq_true_iff_forall_mem.mp h c (by simpa using hc)
  simpa using this, rfl, Nat.zero_le _⟩
theorem key_show (kk : Key) (k : Nat) (h : wtKey kk < 100000000) : ShE k (wtKey kk) (encK kk) := by
  cases kk with
  | inl i =>
    have e : wtKey (.inl i) = if i.natAbs < 10 ^ 60 then 61 else 100000000 := rfl
    rw [e] at h ⊢
    show ShE k _ (.int i)
    by_cases hi : i.natAbs < 10 ^ 60
    · rw [if_pos hi]
      obtain ⟨h1, h2⟩ := int_show hi
      exact ⟨h1, h2, Nat.zero_le _⟩
    · rw [if_neg hi] at h; omega
  | inr x =>
    have e : wtKey (.inr x) = if x.cps.all (· < 16 ^ 8) then 10 * x.length + 2 else 100000000 := rfl
    rw [e] at h ⊢
    show ShE k _ (.str x)
    by_cases hi : x.cps.all (· < 16 ^ 8) = true
    · rw [if_pos hi]; exact str_show hi k
    · rw [if_neg hi] at h; omega
theorem showE_seq (k : Nat) (ih : ∀ (d : D), wtE k d < 100000000 → ∃ p, toPyE d = some p ∧ ShE k (wtE k d) p) :
    ∀ (l : List D), (l.map fun d => wtE k d + 2).sum < 100000000 → ∃ ps, toPysE l = some ps ∧ 
      ((PyData.shownAll ps).map (·.length)).sum + 2 * ps.length ≤ (l.map fun d => wtE k d + 2).sum ∧ PyData.showableAll ps = true ∧ PyData.depthAll ps ≤ k ∧ (PyData.shownAll ps).length = ps.length
  | [], _ => ⟨[], by simp only [toPysE], by simp [PyData.shownAll, PyData.showableAll, PyData.depthAll]⟩
  | d :: l, hw => by
    rw [List.map_cons, List.sum_cons] at hw ⊢
    obtain ⟨p, e1, a1, a2, a3⟩ := ih d (by omega)
    obtain ⟨ps, e2, b1, b2, b3, b4⟩ := showE_seq k ih l (by omega)
    refine ⟨p :: ps, by simp only [toPysE, e1, e2], ?_⟩
    simp only [PyData.shownAll, PyData.showableAll, PyData.depthAll, List.map_cons, List.sum_cons, List.length_cons, a2, b2, b4, Bool.and_self, true_and]
    exact ⟨by omega, by omega, trivial⟩
theorem showE_kv (k : Nat) (ih : ∀ (d : D), wtE k d < 100000000 → ∃ p, toPyE d = some p ∧ ShE k (wtE k d) p) :
    ∀ (l : List (Key × D)), (l.map fun p => wtKey p.1 + wtE k p.2 + 4).sum < 100000000 → ∃ ps, toPyK l = some ps ∧ 
      ((PyData.shownKv ps).map (·.length)).sum + 2 * ps.length ≤ (l.map fun p => wtKey p.1 + wtE k p.2 + 4).sum ∧ PyData.showableKv ps = true ∧ PyData.depthKv ps ≤ k ∧ (PyData.shownKv ps).length = ps.length
  | [], _ => ⟨[], by simp only [toPyK], by simp [PyData.shownKv, PyData.showableKv, PyData.depthKv]⟩
  | (kk, d) :: l, hw => by
    rw [List.map_cons, List.sum_cons] at hw ⊢
    dsimp only at hw ⊢
    obtain ⟨p, e1, a1, a2, a3⟩ := ih d (by omega)
    obtain ⟨c1, c2, c3⟩ := key_show kk k (by omega)
    obtain ⟨ps, e2, b1, b2, b3, b4⟩ := showE_kv k ih l (by omega)
    refine ⟨(encK kk, p) :: ps, by simp only [toPyK, e1, e2], ?_⟩
    have hl : ((encK kk).shown ++ ": " ++ p.shown).length = (encK kk).shown.length + 2 + p.shown.length := by
      rw [strLen_append, strLen_append]; rfl
    simp only [PyData.shownKv, PyData.showableKv, PyData.depthKv, List.map_cons, List.sum_cons, List.length_cons, a2, b2, b4, c2, Bool.and_self, true_and, hl]
    exact ⟨by omega, by omega, trivial⟩
theorem showE_le : ∀ (k : Nat) (d : D), wtE k d < 100000000 → ∃ p, toPyE d = some p ∧ ShE k (wtE k d) p
  | k, .non, _ => by
    have e : wtE k .non = 4 := by cases k <;> rfl
    rw [e]
    exact ⟨.none, by simp only [toPyE], by decide, rfl, Nat.zero_le _⟩
  | k, .bl b, _ => by
    have e : wtE k (.bl b) = 5 := by cases k <;> rfl
    rw [e]
    exact ⟨.bool b, by simp only [toPyE], by cases b <;> decide, rfl, Nat.zero_le _⟩
  | k, .int i, hw => by
    have e : wtE k (.int i) = if i.natAbs < 10 ^ 60 then 61 else 100000000 := by cases k <;> rfl
    rw [e] at hw ⊢
    by_cases hi : i.natAbs < 10 ^ 60
    · rw [if_pos hi]
      obtain ⟨h1, h2⟩ := int_show hi
      exact ⟨.int i, by simp only [toPyE], h1, h2, Nat.zero_le _⟩
    · rw [if_neg hi] at hw; omega
  | k, .str x, hw => by
    have e : wtE k (.str x) = if x.cps.all (· < 16 ^ 8) then 10 * x.length + 2 else 100000000 := by cases k <;> rfl
    rw [e] at hw ⊢
    by_cases hi : x.cps.all (· < 16 ^ 8) = true
    · rw [if_pos hi]
      exact ⟨.str x, by simp only [toPyE], str_show hi k⟩
    · rw [if_neg hi] at hw; omega
  | k + 1, .tup l, hw => by
    have e : wtE (k + 1) (.tup l) = (l.map fun d => wtE k d + 2).sum + 3 := by simp only [wtE]
    rw [e] at hw ⊢
    obtain ⟨ps, e2, b1, b2, b3, b4⟩ := showE_seq k (showE_le k) l (by omega)
    refine ⟨.tuple ps, by simp only [toPyE, e2, Option.map_some], ?_, by simpa only [PyData.showable] using b2, by simp only [PyData.depth]; omega⟩
    have := tupleText_len_le (PyData.shownAll ps)
    simp only [PyData.shown]
    omega
  | k + 1, .lst l, hw => by
    have e : wtE (k + 1) (.lst l) = (l.map fun d => wtE k d + 2).sum + 3 := by simp only [wtE]
    rw [e] at hw ⊢
    obtain ⟨ps, e2, b1, b2, b3, b4⟩ := showE_seq k (showE_le k) l (by omega)
    refine ⟨.list ps, by simp only [toPyE, e2, Option.map_some], ?_, by simpa only [PyData.showable] using b2, by simp only [PyData.depth]; omega⟩
    have := listText_len_le (PyData.shownAll ps)
    simp only [PyData.shown]
    omega
  | k + 1, .dct l, hw => by
    have e : wtE (k + 1) (.dct l) = (l.map fun p => wtKey p.1 + wtE k p.2 + 4).sum + 3 := by simp only [wtE]
    rw [e] at hw ⊢
    obtain ⟨ps, e2, b1, b2, b3, b4⟩ := showE_kv k (showE_le k) l (by omega)
    refine ⟨.dict ps, by simp only [toPyE, e2, Option.map_some], ?_, by simpa only [PyData.showable] using b2, by simp only [PyData.depth]; omega⟩
    have := dictText_len_le (PyData.shownKv ps)
    simp only [PyData.shown]
    omega
  | 0, .tup l, hw => absurd (show (100000000 : Nat) < 100000000 from hw) (by decide)
  | 0, .lst l, hw => absurd (show (100000000 : Nat) < 100000000 from hw) (by decide)
  | 0, .dct l, hw => absurd (show (100000000 : Nat) < 100000000 from hw) (by decide)
  | 0, .scr _, hw => absurd (show (100000000 : Nat) < 100000000 from hw) (by decide)
  | 0, .rng _ _, hw => absurd (show (100000000 : Nat) < 100000000 from hw) (by decide)
  | 0, .exc _ _, hw => absurd (show (100000000 : Nat) < 100000000 from hw) (by decide)
  | 0, .fn _, hw => absurd (show (100000000 : Nat) < 100000000 from hw) (by decide)
  | 0, .ty _, hw => absurd (show (100000000 : Nat) < 100000000 from hw) (by decide)
  | 0, .thk _ _ _ _ _, hw => absurd (show (100000000 : Nat) < 100000000 from hw) (by decide)
  | 0, .obj _ _ _, hw => absurd (show (100000000 : Nat) < 100000000 from hw) (by decide)
  | 0, .ptr _, hw => absurd (show (100000000 : Nat) < 100000000 from hw) (by decide)
  | k + 1, .scr _, hw => absurd (show (100000000 : Nat) < 100000000 from hw) (by decide)
  | k + 1, .rng _ _, hw => absurd (show (100000000 : Nat) < 100000000 from hw) (by decide)
  | k + 1, .exc _ _, hw => absurd (show (100000000 : Nat) < 100000000 from hw) (by decide)
  | k + 1, .fn _, hw => absurd (show (100000000 : Nat) < 100000000 from hw) (by decide)
  | k + 1, .ty _, hw => absurd (show (100000000 : Nat) < 100000000 from hw) (by decide)
  | k + 1, .thk _ _ _ _ _, hw => absurd (show (100000000 : Nat) < 100000000 from hw) (by decide)
  | k + 1, .obj _ _ _, hw => absurd (show (100000000 : Nat) < 100000000 from hw) (by decide)
  | k + 1, .ptr _, hw => absurd (show (100000000 : Nat) < 100000000 from hw) (by decide)
theorem gReprN_ok {d : D} (hw : wtE 20 d ≤ 16000000) : gReprN [d] = ret (.str (rtxE d)) := by
  obtain ⟨p, h1, a1, a2, a3⟩ := showE_le 20 d (by omega)
  have e : rtxE d = p.shown := by unfold rtxE; rw [h1]
  rw [e]
  show (match toPyE d with | some p => need (p.showable = true ∧ p.depth ≤ 60 ∧ p.shown.length ≤ sizeLine) (ret (D.str p.shown)) | none => stuck) = _
  rw [h1]
  exact need_of ⟨a2, by omega, by rw [sizeLine_eq]; omega⟩ _
end DL

end
section
set_option Elab.async false
set_option linter.all false
set_option maxRecDepth 100000
set_option maxHeartbeats 4000000
/-! DStore: what may be changed by all who know of it: instances and lists in the store. -/
namespace DL
open PySem PySem.Spec PyProof.Rows L2
variable [Tb]
/-! ### the store's words -/
def Cn.put (n : Cn) (i : Nat) (e : Ent) (c : Cell) : Cn := { n with st := n.st.set i ⟨e.a, e.v + 1, c⟩ }
section
variable {K : PySem.W.Frag} {mg : Str → Option Value} {n : Cn} {F H : Hp}
theorem RepF.non : ∀ {gs : List (Str × V)} {fs : List (Str × D)} {f : Str}, RepF K mg n F gs fs → fs.lookup f = none → gs.lookup f = none
  | _, _, _, .nil, _ => rfl
  | _, _, f, .cons (f := g) r rs, h => by
    rw [List.lookup_cons] at h ⊢
    cases e : f == g with
    | true => rw [e] at h; cases h
    | false => rw [e] at h; exact RepF.non rs h
theorem RepF.len : ∀ {gs : List (Str × V)} {fs : List (Str × D)}, RepF K mg n F gs fs → gs.length = fs.length
  | _, _, .nil => rfl
  | _, _, .cons _ rs => by rw [List.length_cons, List.length_cons, RepF.len rs]
def putG (f : Str) (d : D) : List (Str × D) → List (Str × D)
  | [] => [(f, d)]
  | (g, x) :: r => if g = f then (g, d) :: r else (g, x) :: putG f d r
theorem RepF.put {f : Str} {v : V} {d : D} (h : Rep K mg n F v d) : ∀ {gs : List (Str × V)} {fs : List (Str × D)}, RepF K mg n F gs fs → RepF K mg n F (putF f v gs) (putG f d fs)
  | _, _, .nil => .cons h .nil
  | _, _, .cons (f := g) r rs => by
    unfold putF putG
    by_cases e : g = f
    · rw [if_pos e, if_pos e]; exact .cons h rs
    · rw [if_neg e, if_neg e]; exact .cons r (RepF.put h rs)
end
end DL

end
section
set_option Elab.async false
set_option linter.all false
set_option maxRecDepth 100000
set_option maxHeartbeats 4000000
/-! DStore2: instances of the store: fields read and written, methods called, made. -/
namespace DL
open PySem PySem.Spec PyProof.Rows L2
variable [Tb]
/-- raises nothing -/
def calm {α : Type} (m : M α) : M α := ⟨fun n P _ => m.run n P (fun _ _ => False), fun h _ q => m.mono h (fun _ _ z => z) q⟩
section
variable {K : PySem.W.Frag} {mg : Str → Option Value} {B : Bs} {n : Cn} {F H : Hp} {σ : L2.St} {env : En}
/-- the instance as it stands -/
theorem SL.ins (S : SL K mg B n F H σ env) {i : Nat} {a : Addr} {v : Nat} {c : Str} {fs : List (Str × D)} (h : n.st[i]? = some ⟨a, v, .ins c fs⟩) : ∃ C dx gs, mg c = some (.ref C) ∧ H a = some (.ins C dx gs) ∧ RepF K mg n F gs fs := (S.so.cell i _ h).2
end
section
variable {X : Cx} {W : WX} {e o : Expr} {es : List Expr} {fo fe : DExp} {fa : DArg} {pos p pos' : Pos} {k : Nat}
/-- a property of a class: its getter -/
structure PrpG (P : Program) (w : World) (K : PySem.W.Frag) (mg : Str → Option Value) (ground : Heap) (k : Nat) (c f : Str) (φ : Fn) : Prop where
  ex : ∃ (C p g : Addr) (fd : FuncData) (ps : List Str), ps.length = 1 ∧ mg c = some (.ref C) ∧ Cls K C ∧ PropOf K C f p g ∧ Binds K fd ps [] ∧ FnG P w K mg ground k g fd ps (spD K mg 1 φ)
theorem PrpG.mono {P : Program} {w : World} {K : PySem.W.Frag} {mg : Str → Option Value} {ground : Heap} {j k : Nat} {c m : Str} {φ : Fn} (G : PrpG P w K mg ground j c m φ) (h : j ≤ k) : PrpG P w K mg ground k c m φ :=
  let ⟨C, p, f, fd, ps, h1, h2, h3, h4, h5, h6⟩ := G.ex
  ⟨C, p, f, fd, ps, h1, h2, h3, h4, h5, h6.mono h⟩
end
end DL

end
section
set_option Elab.async false
set_option linter.all false
set_option maxRecDepth 100000
set_option maxHeartbeats 4000000
/-! DStore3: instances made, called; len(o), x in o, o == p by the class's own defs. -/
namespace DL
open PySem PySem.Spec PyProof.Rows L2
variable [Tb]
section
variable {X : Cx} {W : WX} {e o : Expr} {es : List Expr} {fo fe fx : DExp} {fa : DArg} {pos p pos' : Pos} {k : Nat}
/-- an instance is made, then its __init__ -/
structure MkG (P : Program) (w : World) (K : PySem.W.Frag) (mg : Str → Option Value) (ground : Heap) (k : Nat) (c : Str) (n : Nat) (φ : Fn) : Prop where
  ex : ∃ (C f : Addr) (fd : FuncData) (ps : List Str), ps.length = n ∧ mg c = some (.ref C) ∧ L2.Mk K C f ∧ Binds K fd ps [] ∧ FnG P w K mg ground k f fd ps (spD K mg n φ)
theorem MkG.mono {P : Program} {w : World} {K : PySem.W.Frag} {mg : Str → Option Value} {ground : Heap} {j k n : Nat} {c : Str} {φ : Fn} (G : MkG P w K mg ground j c n φ) (h : j ≤ k) : MkG P w K mg ground k c n φ :=
  let ⟨C, f, fd, ps, h1, h2, h3, h4, h5⟩ := G.ex
  ⟨C, f, fd, ps, h1, h2, h3, h4, h5.mono h⟩
/-- a method with defaults, called without arguments -/
structure MthD (P : Program) (w : World) (K : PySem.W.Frag) (mg : Str → Option Value) (ground : Heap) (k : Nat) (c m : Str) (dd : List D) (φ : Fn) : Prop where
  ex : ∃ (C f : Addr) (fd : FuncData) (ps : List Str) (dsd : List Value) (dvs : List V), ps.length = 1 + dd.length ∧ mg c = some (.ref C) ∧ Cls K C ∧ Meth K C m f ∧ Binds K fd ps dsd ∧ Vals dvs dsd ∧ (∀ n F, Reps K mg n F dvs dd) ∧ FnG P w K mg ground k f fd ps (spD K mg (1 + dd.length) φ)
theorem MthD.mono {P : Program} {w : World} {K : PySem.W.Frag} {mg : Str → Option Value} {ground : Heap} {j k : Nat} {c m : Str} {dd : List D} {φ : Fn} (G : MthD P w K mg ground j c m dd φ) (h : j ≤ k) : MthD P w K mg ground k c m dd φ :=
  let ⟨C, f, fd, ps, d1, d2, h1, h2, h3, h4, h5, h6, h7, h8⟩ := G.ex
  ⟨C, f, fd, ps, d1, d2, h1, h2, h3, h4, h5, h6, h7, h8.mono h⟩
end
end DL

end
section
set_option Elab.async false
set_option linter.all false
set_option maxRecDepth 100000
set_option maxHeartbeats 4000000
/-! DStore4: len(o), x in o, o == p, o(x) as expressions. -/
namespace DL
open PySem PySem.Spec PyProof.Rows L2
variable [Tb]
section
variable {X : Cx} {W : WX} {e o e1 e2 : Expr} {es : List Expr} {fo fe fx f1 f2 : DExp} {fa : DArg} {pos p pos' : Pos} {k : Nat}
structure CalG (P : Program) (w : World) (K : PySem.W.Frag) (mg : Str → Option Value) (ground : Heap) (k : Nat) (c : Str) (n : Nat) (φ : Fn) : Prop where
  ex : ∃ (C f : Addr) (fd : FuncData) (ps : List Str), ps.length = n ∧ mg c = some (.ref C) ∧ StX.CallO K C f ∧ Binds K fd ps [] ∧ FnG P w K mg ground k f fd ps (spD K mg n φ)
theorem CalG.mono {P : Program} {w : World} {K : PySem.W.Frag} {mg : Str → Option Value} {ground : Heap} {j k n : Nat} {c : Str} {φ : Fn} (G : CalG P w K mg ground j c n φ) (h : j ≤ k) : CalG P w K mg ground k c n φ :=
  let ⟨C, f, fd, ps, h1, h2, h3, h4, h5⟩ := G.ex
  ⟨C, f, fd, ps, h1, h2, h3, h4, h5.mono h⟩
end
end DL

end
section
set_option Elab.async false
set_option linter.all false
set_option maxRecDepth 100000
set_option maxHeartbeats 4000000
/-! DStore5: lists of the store: made, read, lengthened. -/
namespace DL
open PySem PySem.Spec PyProof.Rows L2
variable [Tb]
section
variable {X : Cx} {W : WX} {e o e1 e2 : Expr} {es : List Expr} {fo fe fx f1 f2 : DExp} {fa : DArg} {pos p pos' : Pos} {k : Nat}
end
end DL

end
section
set_option Elab.async false
set_option linter.all false
set_option maxRecDepth 100000
set_option maxHeartbeats 4000000
/-! DStore6: from a class's defs to what their calls promise. -/
namespace DL
open PySem PySem.Spec PyProof.Rows L2
variable [Tb]
section
variable {P : Program} {w : World} {K : PySem.W.Frag} {mg : Str → Option Value} {ground : Heap} {j k n : Nat} {c m f : Str} {φ : Fn} {dd : List D}
/-- a property's getter -/
structure DfP (K : PySem.W.Frag) (mg : Str → Option Value) (c m qual : Str) (ps : List Str) (st : Stmt) : Prop where
  ex : ∃ (C p f : Addr) (fd : FuncData), mg c = some (.ref C) ∧ Cls K C ∧ PropOf K C m p f ∧ Fun K m qual st f fd ∧ Binds K fd ps []
/-- __init__ -/
structure DfI (K : PySem.W.Frag) (mg : Str → Option Value) (c qual : Str) (ps : List Str) (st : Stmt) : Prop where
  ex : ∃ (C f : Addr) (fd : FuncData), mg c = some (.ref C) ∧ L2.Mk K C f ∧ Fun K "__init__" qual st f fd ∧ Binds K fd ps []
/-- __call__ -/
structure DfO (K : PySem.W.Frag) (mg : Str → Option Value) (c qual : Str) (ps : List Str) (st : Stmt) : Prop where
  ex : ∃ (C f : Addr) (fd : FuncData), mg c = some (.ref C) ∧ StX.CallO K C f ∧ Fun K "__call__" qual st f fd ∧ Binds K fd ps []
/-- a method with defaults -/
structure DfD (K : PySem.W.Frag) (mg : Str → Option Value) (c m qual : Str) (ps : List Str) (dd : List D) (st : Stmt) : Prop where
  ex : ∃ (C f : Addr) (fd : FuncData) (dsd : List Value) (dvs : List V), mg c = some (.ref C) ∧ Cls K C ∧ Meth K C m f ∧ Fun K m qual st f fd ∧ Binds K fd ps dsd ∧ Vals dvs dsd ∧ ∀ n F, Reps K mg n F dvs dd
section
variable {qual : Str} {N ps : List Str} {st : Stmt} {s : DStm}
end
section
variable {qual : Str} {ps : List Str} {st : Stmt} {C p fa : Addr} {h : Heap} {oc : Value} {od an : Option Addr} {osl : Array (Option Value)} {kV doc pm cdv ct : Value}
theorem DfP.of {rest : List Value} (X : K.In h) (G : h.Ns mainGlobals mg) (a : PySem.W.nsIn K mainGlobals c = some (some (.ref C))) (cl : Cls K C) (am : PySem.W.findIn K (.ref C) m = some (some (.ref p)))
    (ag : PySem.W.specialIn K (.ref p) "__get__" = some (some (.builtin "property.__get__"))) (at' : PySem.W.takesIn K (.ref p) = some true) (ar : PySem.W.recIn K p "property" = some (.ref fa :: rest))
    (l : K.lookup fa = some ⟨oc, od, .func (PySem.W.fnOf m qual (defArgs st) (defBody st) (defScope st) .none kV doc pm an cdv ct), osl⟩) (cc : PySem.W.codeIn K cdv qual = true) (k : PySem.W.keepIn K (.ref fa) = true)
    (b : ∀ (kV doc pm : Value) (an : Option Addr) (cdv ct : Value) (us : List Value), us.length = ps.length → bindArgs (PySem.W.fnOf m qual (defArgs st) (defBody st) (defScope st) .none kV doc pm an cdv ct) ⟨us, []⟩ = pure (ps.zip us)) : DfP K mg c m qual ps st :=
  ⟨C, p, fa, _, PySem.W.mg_of X G a, cl, ⟨am, ag, at', rest, ar⟩, fun_mk l cc k, (fun_mk l cc k).binds b⟩
theorem DfI.of (X : K.In h) (G : h.Ns mainGlobals mg) (a : PySem.W.nsIn K mainGlobals c = some (some (.ref C))) (mk : PySem.W.makesIn K C = true) (am : PySem.W.findIn K (.ref C) "__init__" = some (some (.ref fa))) (im : PySem.W.isFn K (.ref fa) = true) (kc : PySem.W.keepIn K (.ref C) = true)
    (l : K.lookup fa = some ⟨oc, od, .func (PySem.W.fnOf "__init__" qual (defArgs st) (defBody st) (defScope st) .none kV doc pm an cdv ct), osl⟩) (cc : PySem.W.codeIn K cdv qual = true) (k : PySem.W.keepIn K (.ref fa) = true)
    (b : ∀ (kV doc pm : Value) (an : Option Addr) (cdv ct : Value) (us : List Value), us.length = ps.length → bindArgs (PySem.W.fnOf "__init__" qual (defArgs st) (defBody st) (defScope st) .none kV doc pm an cdv ct) ⟨us, []⟩ = pure (ps.zip us)) : DfI K mg c qual ps st :=
  ⟨C, fa, _, PySem.W.mg_of X G a, ⟨mk, am, im, kc⟩, fun_mk l cc k, (fun_mk l cc k).binds b⟩
theorem DfO.of (X : K.In h) (G : h.Ns mainGlobals mg) (a : PySem.W.nsIn K mainGlobals c = some (some (.ref C))) (am : PySem.W.findIn K (.ref C) "__call__" = some (some (.ref fa))) (im : PySem.W.isFn K (.ref fa) = true)
    (l : K.lookup fa = some ⟨oc, od, .func (PySem.W.fnOf "__call__" qual (defArgs st) (defBody st) (defScope st) .none kV doc pm an cdv ct), osl⟩) (cc : PySem.W.codeIn K cdv qual = true) (k : PySem.W.keepIn K (.ref fa) = true)
    (b : ∀ (kV doc pm : Value) (an : Option Addr) (cdv ct : Value) (us : List Value), us.length = ps.length → bindArgs (PySem.W.fnOf "__call__" qual (defArgs st) (defBody st) (defScope st) .none kV doc pm an cdv ct) ⟨us, []⟩ = pure (ps.zip us)) : DfO K mg c qual ps st :=
  ⟨C, fa, _, PySem.W.mg_of X G a, ⟨am, im, by unfold PySem.W.fnIn; rw [l]⟩, fun_mk l cc k, (fun_mk l cc k).binds b⟩
/-- one keyword-only parameter, its default a whole number -/
theorem DfD.of {Dk : Addr} {i : Int} {t : Tok} {y : Str} (X : K.In h) (G : h.Ns mainGlobals mg) (a : PySem.W.nsIn K mainGlobals c = some (some (.ref C))) (cl : Cls K C) (am : PySem.W.findIn K (.ref C) m = some (some (.ref fa))) (im : PySem.W.isFn K (.ref fa) = true)
    (l : K.lookup fa = some ⟨oc, od, .func (PySem.W.fnOf m qual (defArgs st) (defBody st) (defScope st) .none (.ref Dk) doc pm an cdv ct), osl⟩) (cc : PySem.W.codeIn K cdv qual = true) (k : PySem.W.keepIn K (.ref fa) = true) (hn : PySem.W.nsIn K Dk y = some (some (.int i t)))
    (b : ∀ (D : Addr) (doc pm : Value) (an : Option Addr) (cdv ct : Value) (u v : Value), KwChain D [(y, v)] (bindArgs (PySem.W.fnOf m qual (defArgs st) (defBody st) (defScope st) .none (.ref D) doc pm an cdv ct) ⟨[u], []⟩) [("self", u), (y, v)]) : DfD K mg c m qual ["self", y] [.int i] st := by
  refine ⟨C, fa, _, [.int i t], [.int i], PySem.W.mg_of X G a, cl, ⟨am, im, k⟩, fun_mk l cc k, fun s us X' hl => ?_, .cons ⟨t, rfl⟩ .nil, fun n F => .cons (.int i) .nil⟩
  obtain ⟨u, rfl⟩ : ∃ u, us = [u] := List.length_eq_one_iff.mp (by rw [List.length_append] at hl; simpa using hl)
  refine BindsTo.of_looks fun M => KwChain.looks (l := [(y, .int i t)]) X' (fun q hq => ?_) (b Dk doc pm an cdv ct u (.int i t))
  simp only [List.mem_singleton] at hq
  subst hq; exact hn
end
end
end DL

end
section
set_option Elab.async false
set_option linter.all false
set_option maxRecDepth 100000
set_option maxHeartbeats 4000000
/-! DStore7: range(i, j, -1). -/
namespace DL
open PySem PySem.Spec PyProof.Rows L2
variable [Tb]
section
variable {X : Cx} {W : WX} {tg e e2 e3 : Expr} {fa : DArg} {p pos : Pos}
end
end DL

end
section
set_option Elab.async false
set_option linter.all false
set_option maxRecDepth 100000
set_option maxHeartbeats 4000000
/-! DStore8: pop of a list of the store; f( *x). -/
namespace DL
open PySem PySem.Spec PyProof.Rows L2
variable [Tb]
section
variable {X : Cx} {W : WX} {e o e1 e2 : Expr} {es : List Expr} {fo fe fx f1 f2 : DExp} {fa : DArg} {pos p pos' sp_ : Pos} {k : Nat} {x : Str} {m : Nat} {φ : Fn}
end
end DL

end
section
set_option Elab.async false
set_option linter.all false
set_option maxRecDepth 100000
set_option maxHeartbeats 4000000
/-! DStore9: lists of the store: walked, compared. -/
namespace DL
open PySem PySem.Spec PyProof.Rows L2
variable [Tb]
section
variable {X : Cx} {W : WX} {e o e1 e2 tg : Expr} {bod : List Stmt} {fo fe : DExp} {pos p : Pos} {k : Nat} {t : D → En → Option En} {b : DStm} {te : TE}
end
end DL

end
section
set_option Elab.async false
set_option linter.all false
set_option maxRecDepth 100000
set_option maxHeartbeats 4000000
/-! DStore10: isinstance(o, C), o an instance of the store. -/
namespace DL
open PySem PySem.Spec PyProof.Rows L2
variable [Tb]
/-- the name of a class of the store's instances -/
structure IsG (K : PySem.W.Frag) (mg : Str → Option Value) (c : Str) : Prop where
  ex : ∃ C : Addr, mg c = some (.ref C) ∧ C8.InsC K C
section
variable {X : Cx} {W : WX} {o : Expr} {fo : DExp} {pos p p2 : Pos} {x : Str}
end
end DL

end
section
set_option Elab.async false
set_option linter.all false
set_option maxRecDepth 100000
set_option maxHeartbeats 4000000
/-! DKw: a method called with its arguments by name. -/
namespace DL
open PySem PySem.Spec PyProof.Rows L2
variable [Tb]
structure DKs (X : Cx) (W : WX) (kws : List Keyword) (f : DArg) : Prop where
  pk : PK X kws (tA X W f)
/-- a method whose parameters behind self are told by name -/
structure MthK (P : Program) (w : World) (K : PySem.W.Frag) (mg : Str → Option Value) (ground : Heap) (k : Nat) (c m : Str) (ks : List Str) (φ : Fn) : Prop where
  ex : ∃ (C f : Addr) (fd : FuncData) (ps : List Str), ps.length = ks.length + 1 ∧ mg c = some (.ref C) ∧ Cls K C ∧ Meth K C m f ∧
    (∀ (s : Shared) (u : Value) (ws : List Value), K.In s.heap → ws.length = ks.length → BindsTo s fd ⟨[u], ks.zip ws⟩ (ps.zip (u :: ws))) ∧ FnG P w K mg ground k f fd ps (spD K mg (ks.length + 1) φ)
theorem MthK.mono {P : Program} {w : World} {K : PySem.W.Frag} {mg : Str → Option Value} {ground : Heap} {j k : Nat} {c m : Str} {ks : List Str} {φ : Fn} (G : MthK P w K mg ground j c m ks φ) (h : j ≤ k) : MthK P w K mg ground k c m ks φ :=
  let ⟨C, f, fd, ps, h1, h2, h3, h4, h5, h6⟩ := G.ex
  ⟨C, f, fd, ps, h1, h2, h3, h4, h5, h6.mono h⟩
/-- such a def -/
structure DfK (K : PySem.W.Frag) (mg : Str → Option Value) (c m qual : Str) (ps ks : List Str) (st : Stmt) : Prop where
  ex : ∃ (C f : Addr) (fd : FuncData), mg c = some (.ref C) ∧ Cls K C ∧ Meth K C m f ∧ Fun K m qual st f fd ∧ (∀ (s : Shared) (u : Value) (ws : List Value), K.In s.heap → ws.length = ks.length → BindsTo s fd ⟨[u], ks.zip ws⟩ (ps.zip (u :: ws)))
section
variable {P : Program} {w : World} {K : PySem.W.Frag} {mg : Str → Option Value} {ground : Heap} {j k : Nat} {c m : Str} {φ : Fn} {ks : List Str}
/-- one keyword-only parameter -/
theorem DfK.of {qual y : Str} {st : Stmt} {C fa Dk : Addr} {h : Heap} {oc : Value} {od an : Option Addr} {osl : Array (Option Value)} {doc pm cdv ct : Value} (X : K.In h) (G : h.Ns mainGlobals mg) (a : PySem.W.nsIn K mainGlobals c = some (some (.ref C))) (cl : Cls K C) (am : PySem.W.findIn K (.ref C) m = some (some (.ref fa))) (im : PySem.W.isFn K (.ref fa) = true)
    (l : K.lookup fa = some ⟨oc, od, .func (PySem.W.fnOf m qual (defArgs st) (defBody st) (defScope st) .none (.ref Dk) doc pm an cdv ct), osl⟩) (cc : PySem.W.codeIn K cdv qual = true) (k : PySem.W.keepIn K (.ref fa) = true)
    (b : ∀ (D : Addr) (doc pm : Value) (an : Option Addr) (cdv ct : Value) (u v : Value), bindArgs (PySem.W.fnOf m qual (defArgs st) (defBody st) (defScope st) .none (.ref D) doc pm an cdv ct) ⟨[u], [(y, v)]⟩ = pure ([("self", u), (y, v)] : List (Str × Value))) : DfK K mg c m qual ["self", y] [y] st := by
  refine ⟨C, fa, _, PySem.W.mg_of X G a, cl, ⟨am, im, k⟩, fun_mk l cc k, fun s u ws X' hl => ?_⟩
  obtain ⟨v, rfl⟩ : ∃ v, ws = [v] := List.length_eq_one_iff.mp (by simpa using hl)
  exact BindsTo.of_eq (b Dk doc pm an cdv ct u v)
end
section
variable {X : Cx} {W : WX} {k : Nat} {e o : Expr} {f fo : DExp} {r fa : DArg} {kws : List Keyword} {nm : Option Str} {pos kpos : Pos} {m : Str}
theorem dk_nil : DKs X W [] aNil := by
  refine ⟨⟨fun pos pins s σ H Q I h => pk_nil.run pos pins s σ H Q I ?_⟩⟩
  obtain ⟨B, n, F, env, S, h⟩ := h
  exact h [] F H (Step.refl S.sub) .nil
theorem dk_cons (he : DE X W e f) (hr : DKs X W kws r) : DKs X W (⟨nm, e, kpos⟩ :: kws) (aCons f r) := by
  refine ⟨⟨fun pos pins s σ H Q I h => (pk_cons he.pe hr.pk).run pos pins s σ H Q I ?_⟩⟩
  obtain ⟨B, n, F, env, S, h⟩ := h
  refine tD.go S h fun d n1 v F1 H1 p t r1 S1 => ?_
  refine tA.go S1 ((r env).mono (fun _ _ z => z) (fun x m z => exE.step t z) p) fun ds n2 vs F2 H2 p2 t2 r2 S2 => ?_
  exact p2 _ F2 H2 (t.trans t2) (.cons (r1.grow t2.gr) r2)
end
end DL

end
section
set_option Elab.async false
set_option linter.all false
set_option maxRecDepth 100000
set_option maxHeartbeats 4000000
/-! DExcV: errors made as values, by position and by name. -/
namespace PySem
namespace HandSPX
open Builtin Builtin.ObjectAttr
section
variable {M : Model} {A : Around} {E : Value → Shared → Prop} {h : Heap} {g : Array GenState} {d : Drawn} {t : Nat} {os : OsState}
variable {nm q : Str} {C N : Addr} {bs bm bmB : List Value} {hdct : Bool} {sn : List Str} {sub : List Value} {ab : Bool} {col : Option Bool} {dd : Option Addr} {k0 k1 k2 k3 k5 : Option Value} {B newId initId : String}
theorem check_newK (F : ExcBaseFacts B newId initId bmB) (hT : ∀ X : String, bm.contains (.type X) = bmB.contains (.type X)) {rest : List Value} {y : Str} {v : Value} {Q : Unit → Shared → Prop}
    (hC : h.get? C = some (excClassObj nm q C N bs bm hdct sn sub ab col dd k0 k1 k2 k3 k5 newId)) (hq : Q () ⟨h, g, d, t, os⟩) : wpAny M A (checkBuiltinCall newId ⟨.ref C :: rest, [(y, v)]⟩) Q E ⟨h, g, d, t, os⟩ := by
  have hcont : (Value.ref C :: bm).contains (.type B) = true := by rw [List.contains_cons, hT, F.hasB, Bool.or_true]
  have hstar := F.noStar
  simp only [checkBuiltinCall, F.newKind, F.newSplit, F.newRow]
  repeat (first | refine wpAny_loadPart_at hC ?_ | (refine wpAny_isSubtype_exc hC ?_; rw [hcont]) | refine wpAny_staticBase_exc hC ?_ | refine wpAny_madeBy_exc hC ?_ | simp only [bne_self_eq_false, Bool.false_eq_true, if_false] | wp_step)
  exact hq
end
section
variable {prog : Program} {w : World} {A : Around} {E : Value → Shared → Prop} {R : Result → Shared → Prop} {h : Heap} {g : Array GenState} {d : Drawn} {t : Nat} {os : OsState}
variable {nm q : Str} {C N : Addr} {bs bm bmB : List Value} {hdct : Bool} {sn : List Str} {sub : List Value} {ab : Bool} {col : Option Bool} {dd : Option Addr} {k0 k1 k2 k3 k5 : Option Value} {B newId initId : String}
theorem new_ownK (F : ExcBaseFacts B newId initId bmB) (hT : ∀ X : String, bm.contains (.type X) = bmB.contains (.type X)) {rest : List Value} {kw : List (Str × Value)}
    (hC : h.get? C = some (excClassObj nm q C N bs bm hdct sn sub ab col dd k0 k1 k2 k3 k5 newId))
    (hq : R (.ok (.ret (.ref (h.objs.size + 1)))) ⟨(h.push { cls := .type "tuple", data := .seq rest.toArray }).push
      { cls := .ref C, data := .fields #[.ref h.objs.size, .none, .none, .none, .bool false, .none] }, g, d, t, os⟩) (hrest : rest.length ≤ sizeLine) :
    codeAny (model prog w) A (.builtin newId ⟨.ref C :: rest, kw⟩) R ⟨h, g, d, t, os⟩ := by
  have hends := F.ends
  have hcB : (Value.ref C :: bm).contains (.type B) = true := by rw [List.contains_cons, hT, F.hasB, Bool.or_true]
  have hcA : (Value.ref C :: bm).contains (.type "AttributeError") = false := by rw [List.contains_cons, hT, F.noAttr]; rfl
  have hcN : (Value.ref C :: bm).contains (.type "NameError") = false := by rw [List.contains_cons, hT, F.noName]; rfl
  refine codeAny_builtinAt F.entry ?_
  unfold Builtin.«BaseException.__new__»
  refine wpAt_bind ?_
  show wpAt _ _ _ (stack >>= _) _ _ _
  refine wpAt_bind (wpAt_stack fun p below => wpAt_of_wpAny ?_)
  wp_walk
  refine wpAt_of_wpAny ?_
  rw [F.owner]
  repeat (first | with_reducible refine wpAny_madeHere_exc F.canon hC ?_ | with_reducible refine wpAny_loadPart_at hC ?_ | (with_reducible refine wpAny_isSubtype_exc hC ?_; first | rw [hcB] | rw [hcA] | rw [hcN]) | wp_step)
  show R _ _
  rw [Heap.size_push]
  exact hq
theorem type_callK (F : ExcBaseFacts B newId initId bmB) (hT : ∀ X : String, bm.contains (.type X) = bmB.contains (.type X)) {rest : List Value} {y : Str} {v : Value} {fI : Addr} {Q : Fin → Shared → Prop}
    (hC : h.get? C = some (excClassObj nm q C N bs bm hdct sn sub ab col dd k0 k1 k2 k3 k5 newId))
    (hi : W.Looks (model prog w) h (typeLookup (.ref C) "__init__") (some (.ref fI))) (hb : ∀ self, W.Looks (model prog w) h (bindSpecial (.ref fI) self) (.ref fI, [self])) (hrest : rest.length ≤ sizeLine)
    (hq : codeAny (model prog w) A (.call (.ref fI) ⟨.ref (h.objs.size + 1) :: rest, [(y, v)]⟩)
      (fun r s' => match r with | .ok (.ret v) => v = .none ∧ Q (.done (.ret (.ref (h.objs.size + 1)))) s' | .ok _ => False | .error e => E e s')
      ⟨(h.push (W.kdv_tup rest)).push (excO C h.objs.size), g, d, t, os⟩) :
    wpAny (model prog w) A (Builtin.«type.__call__» ⟨.ref C :: rest, [(y, v)]⟩) Q E ⟨h, g, d, t, os⟩ := by
  repeat (first | with_reducible refine wpAny_loadPart_at hC ?_ | with_reducible refine wpAny_madeBy_exc hC ?_ | wp_step)
  refine codeAny_call_builtin_code (Code.quiet_builtin _ F.quiet) (check_newK F hT hC ?_)
  refine new_ownK F hT hC ?_ hrest
  show wpAny _ _ _ _ _ _
  have k : ∀ b o, h.get? b = some o → ((h.push (W.kdv_tup rest)).push (excO C h.objs.size)).get? b = some o := fun b o e => Heap.get?_push_of_some _ (Heap.get?_push_of_some _ e)
  have hC₁ := k _ _ hC
  have hget : ((h.push (W.kdv_tup rest)).push (excO C h.objs.size)).get? (h.objs.size + 1) = some (excO C h.objs.size) := by heap_get
  have hcC : (Value.ref C :: bm).contains (.ref C) = true := by simp
  have i1 := hi.keeps k
  have b1 := (hb (.ref (h.objs.size + 1))).keeps k
  unfold isInstance
  repeat (first | with_reducible refine wpAny_loadPart_at hget ?_ | (with_reducible refine wpAny_isSubtype_exc hC₁ ?_; rw [hcC]) | wp_step)
  show wpAny _ _ (typeLookup (.ref C) _) _ _ _
  refine i1.at ?_
  refine wpAny_holding (wpAny_bind (b1.at ?_))
  refine wpAny_bind (wpAny_call (codeAny_mono hq fun r s' z => ?_))
  rcases r with e | (v | _ | _ | _) <;> first | exact z | exact z.elim | skip
  obtain ⟨rfl, z⟩ := z
  first
    | exact wpAny_pure (wpAny_pure z)
    | (wp_walk; exact z)
theorem call_ownK (F : ExcBaseFacts B newId initId bmB) (hT : ∀ X : String, bm.contains (.type X) = bmB.contains (.type X)) {rest : List Value} {y : Str} {v : Value} {fI : Addr}
    (hC : h.get? C = some (excClassObj nm q C N bs bm hdct sn sub ab col dd k0 k1 k2 k3 k5 newId))
    (hi : W.Looks (model prog w) h (typeLookup (.ref C) "__init__") (some (.ref fI))) (hb : ∀ self, W.Looks (model prog w) h (bindSpecial (.ref fI) self) (.ref fI, [self])) (hrest : rest.length ≤ sizeLine)
    (hq : codeAny (model prog w) (A.under (.builtin "type.__call__" ⟨.ref C :: rest, [(y, v)]⟩)) (.call (.ref fI) ⟨.ref (h.objs.size + 1) :: rest, [(y, v)]⟩) (W.InitBack (h.objs.size + 1) R)
      ⟨(h.push (W.kdv_tup rest)).push (excO C h.objs.size), g, d, t, os⟩) :
    codeAny (model prog w) A (.call (.ref C) ⟨rest, [(y, v)]⟩) R ⟨h, g, d, t, os⟩ := by
  have f1 := tc_lookup
  have f2 := tc_bind (.ref C)
  have hTy : (⟨h, g, d, t, os⟩ : Shared).TypeIs (.ref C) "type" := ⟨_, hC, rfl⟩
  refine codeAny_of_tree ?_
  show wpAny _ _ (callAny (.ref C) _) _ _ _
  repeat (any_goals (first | assumption | with_reducible refine wpAny_loadPart_at hC ?_ | wp_step))
  refine ⟨rfl, ?_⟩
  refine codeAny_call_builtin_at (Code.quiet_builtin _ (by decide +kernel)) entry_typeCall (wpAny_check_type_call_sub hC (type_callK F hT hC hi hb hrest ?_))
  refine codeAny_mono hq fun r s' z => ?_
  rcases r with e | (v | _ | _ | _) <;> exact z
end
end HandSPX
end PySem
namespace DL
open PySem PySem.Spec PyProof.Rows L2 NdefX PySem.HandSPX
variable [Tb]
/-! ### an object told anew -/
theorem inv_again {X : Cx} {pins : List (Addr × Obj)} {σ : L2.St} {H : Hp} {s : Shared} {a : Addr} {φ : Heap → Prop} {o : HO} (I : Inv X pins σ H s) (ha : H a = some (.ext φ)) (new : ObjOk X.prog X.w (upd H a o) s.heap a o) : Inv X pins σ (upd H a o) s := by
  have U : Un X.fs [] H (upd H a o) s.heap s.heap := ⟨fun b u q n _ _ => q, fun b u q n _ _ => ⟨u.slots, q⟩, fun b u q n _ => by rw [upd_ne (fun z => by rw [z, ha] at n; cases n)]; exact n, fun b u q _ => ⟨u, q⟩,
    fun b xs q => by rw [upd_ne (fun z => by rw [z, ha] at q; cases q)]; exact q, fun b u v q => by rw [upd_ne (fun z => by rw [z, ha] at q; cases q)]; exact q,
    fun b ps q => ⟨#[], by rw [upd_ne (fun z => by rw [z, ha] at q; cases q), q]; simp⟩⟩
  refine I.un (t' := s.toks) U fun b u q => ?_
  by_cases hb : b = a
  · subst hb; rw [upd_same] at q; cases q; exact new
  · rw [upd_ne hb] at q
    exact (I.hok b u q).stay (fun c v _ z => z) (fun c hc => by rw [upd_ne (fun z => by rw [z, ha] at hc; cases hc)]; exact hc) (fun c xs hc => by rw [upd_ne (fun z => by rw [z, ha] at hc; cases hc)]; exact hc)
def tMkV (C : Addr) (sp : Sp) (ta : TA) : TE := fun σ H Q => ta σ H fun vs H1 => vs.length ≤ 1000 ∧ ∀ a, H1 a = none → sp (.ref a :: vs) (upd H1 a (exo a C none))
  (fun v H2 => v = .non ∧ ∃ (d : Addr) (fs : List (Str × V)), d ≠ a ∧ H2 a = some (exo a C (some d)) ∧ H2 d = some (exd d fs) ∧ Q (.ref a) (upd (upd H2 d (.xd fs)) a (ExcO a C d))) (fun _ _ _ => False)
section
variable {X : Cx} {pins : List (Addr × Obj)} {σ : L2.St} {H2 : Hp} {s : Shared} {Q : VK} {a C d : Addr} {fs : List (Str × V)}
theorem mk_val (I : Inv X pins σ H2 s) (hd : d ≠ a) (ea : H2 a = some (exo a C (some d))) (ed : H2 d = some (exd d fs)) (q : Q (.ref a) (upd (upd H2 d (.xd fs)) a (ExcO a C d))) : EP X pins σ Q (.ref a) s := by
  have e1 := exo_at I.hok ea
  have e2 := exd_at I.hok ed
  have I1 := inv_again (o := .xd fs) I ed e2
  have ea1 : (upd H2 d (.xd fs)) a = some (exo a C (some d)) := by rw [upd_ne hd.symm]; exact ea
  obtain ⟨t1, ho⟩ := e1
  have I2 := inv_again (o := ExcO a C d) I1 ea1 ⟨⟨_, _, ho, rfl, rfl, rfl⟩, ⟨_, ho⟩, fun h1 h2 ⟨oe, vs, z1, z2, z3, z4⟩ k => ⟨oe, vs, k _ z1, z2, z3, z4⟩⟩
  exact ⟨.ref a, _, I2, rfl, q⟩
end
section
variable {X : Cx} {e : Expr} {es : List Expr} {ta : TA} {p pos : Pos} {B nw ini : String} {tl : List Value}
/-- C(e, ..), an own error with an own __init__, as a value -/
theorem pe_mkV {CX : CXT} {x : Str} {C fI : Addr} {k : Nat} {fd : FuncData} {ps : List Str} {sp : Sp} (BE : BaseE B nw ini tl) (T : OexB X.K C nw tl) (iC : PySem.W.findIn X.K (.ref C) "__init__" = some (some (.ref fI))) (tI : PySem.W.typeIn X.K (.ref fI) = some (.type "function"))
    (F1 : FnOk X.prog X.w X.K X.mg X.base CX k fI fd ps sp) (hr : Room (k + 1) X.A) (hb : Binds X.K fd ps []) (hx : Passes CX X (fun _ _ _ => False)) (hg : Gl X x) (hm : X.mg x = some (.ref C)) (ha : PA X (e :: es) ta)
    (hdb : (x == ("__debug__" : Str)) = false := by decide) (he : starEach (e :: es) X.env = (false, eval e X.env) :: starEach es X.env := by rfl) (hpl : (backTo pos (starEach es X.env)).any (·.1) = false := by rfl) : PE X (.Call (.Name x p) (e :: es) [] pos) (tMkV C sp ta) := by
  refine ⟨fun pins s σ H Q I h => ?_⟩
  obtain ⟨bmB, FB, hT⟩ := BE.ex
  obtain ⟨nm, q, N, bs, sn, sub, ab, col, dd, k0, k1, k2, k3, k5, hC⟩ := T.cls
  refine wpAny_Call_Name_kw (ld_glob I hg hm (PySem.W.callWith_K (h₀ := X.base) I.ok.mod.kin T.kC (thn (ha.run pos pins s σ H _ I h) fun us s1 ⟨vs, H1, I1, r1, hz, q1⟩ => ⟨I1.kIn, ?_⟩) he hpl) hdb)
  show wpAny _ _ (call (.ref C) us) _ _ _
  obtain ⟨hp, g, dr, tk, os⟩ := s1
  have hsz : hp.objs.size ≤ hp.objs.size + 1 := Nat.le_succ _
  have hn : H1 (hp.objs.size + 1) = none := I1.hok.fresh hsz
  have hq := q1 (hp.objs.size + 1) hn
  have kk : ∀ b o, hp.get? b = some o → ((hp.push (PySem.W.kdv_tup us)).push (PySem.HandSPX.excO C hp.objs.size)).get? b = some o := fun b o e => Heap.get?_push_of_some _ (Heap.get?_push_of_some _ e)
  have hget : ((hp.push (PySem.W.kdv_tup us)).push (PySem.HandSPX.excO C hp.objs.size)).get? (hp.objs.size + 1) = some (PySem.HandSPX.excO C hp.objs.size) := by heap_get
  have I2 : Inv X pins σ (upd H1 (hp.objs.size + 1) (exo (hp.objs.size + 1) C none)) ⟨(hp.push (PySem.W.kdv_tup us)).push (PySem.HandSPX.excO C hp.objs.size), g, dr, tk, os⟩ := I1.laid (t' := tk) (a := hp.objs.size + 1) (o := exo (hp.objs.size + 1) C none) (h' := (hp.push (PySem.W.kdv_tup us)).push (PySem.HandSPX.excO C hp.objs.size)) kk hsz (exo_ok hget)
  have r2 : Vals (V.ref (hp.objs.size + 1) :: vs) (Value.ref (hp.objs.size + 1) :: us) := .cons rfl r1
  have hl : (Value.ref (hp.objs.size + 1) :: us).length = ps.length := by
    have e := r2.length
    rw [F1.len _ _ _ _ hq] at e
    exact e.symm
  have hus : us.length ≤ sizeLine := by rw [← Paired.length r1, sizeLine_eq]; omega
  refine wpAny_call (PySem.HandSPX.call_own FB hT (I1.kIn _ _ hC) (PySem.W.looks_findIn I1.kIn iC) (fun self => PySem.W.bind_fn I1.kIn self tI) hus
    (codeAny_mono (F1.run _ X.stack _ _ ⟨Value.ref (hp.objs.size + 1) :: us, []⟩ (Value.ref (hp.objs.size + 1) :: us) _ _ (fun _ _ _ => False) (hr.make C us []) (I2.env0.make C us []) (by
      have z := hb _ (Value.ref (hp.objs.size + 1) :: us) I2.kIn (by rw [List.append_nil]; exact hl)
      rwa [List.append_nil] at z) r2 hq) fun r s' hq' => ?_))
  cases r with
  | error er => exact hx pins σ _ _ er s' I2 hq'
  | ok fl =>
    cases fl with
    | ret u =>
      obtain ⟨v, H3, I3, rv, ev, d, fs, hd, ea, ed, q3⟩ := I2.after hq'
      subst ev
      exact ⟨rv, mk_val I3 hd ea ed q3⟩
    | next => exact False.elim hq'
    | brk => exact False.elim hq'
    | cont => exact False.elim hq'
end
end DL

end
section
set_option Elab.async false
set_option linter.all false
set_option maxRecDepth 100000
set_option maxHeartbeats 4000000
/-! DExcW: errors made as values: by name; the rules. -/
namespace DL
open PySem PySem.Spec PyProof.Rows L2 NdefX PySem.HandSPX
variable [Tb]
section
variable {X : Cx} {e : Expr} {ta : TA} {p pos kpos : Pos} {B nw ini : String} {tl : List Value}
/-- C(y = e) -/
theorem pe_mkK {CX : CXT} {x y : Str} {C fI : Addr} {k : Nat} {fd : FuncData} {ps : List Str} {sp : Sp} (BE : BaseE B nw ini tl) (T : OexB X.K C nw tl) (iC : PySem.W.findIn X.K (.ref C) "__init__" = some (some (.ref fI))) (tI : PySem.W.typeIn X.K (.ref fI) = some (.type "function"))
    (F1 : FnOk X.prog X.w X.K X.mg X.base CX k fI fd ps sp) (hr : Room (k + 1) X.A) (hb : ∀ (s : Shared) (u v : Value), X.K.In s.heap → BindsTo s fd ⟨[u], [(y, v)]⟩ (ps.zip [u, v])) (hx : Passes CX X (fun _ _ _ => False)) (hg : Gl X x) (hm : X.mg x = some (.ref C)) (ha : PK X [⟨some y, e, kpos⟩] ta)
    (hdb : (x == ("__debug__" : Str)) = false := by decide)
    (hall : (backToKw pos (keywordEach [⟨some y, e, kpos⟩] X.env)).all (·.1.isSome) = true := by rfl) (hks : (backToKw pos (keywordEach [⟨some y, e, kpos⟩] X.env)).filterMap (·.1) = [y] := by rfl)
    (hpl : ((backTo pos (starEach [] X.env)).any (·.1) || (backToKw pos (keywordEach [⟨some y, e, kpos⟩] X.env)).any (·.1.isNone)) = false := by rfl) :
    PE X (.Call (.Name x p) [] [⟨some y, e, kpos⟩] pos) (tMkV C sp (fun σ H Q => ta σ H fun vs H1 => vs.length = 1 ∧ Q vs H1)) := by
  refine ⟨fun pins s σ H Q I h => ?_⟩
  obtain ⟨bmB, FB, hT⟩ := BE.ex
  obtain ⟨nm, q, N, bs, sn, sub, ab, col, dd, k0, k1, k2, k3, k5, hC⟩ := T.cls
  refine wpAny_Call_Name_kw (ld_glob I hg hm ?_ hdb)
  refine PySem.W.callWith_KW0 (h₀ := X.base) I.ok.mod.kin T.kC hall (thn (ha.run pos pins s σ H _ I h) fun us s1 ⟨vs, H1, I1, r1, l1, hz, q1⟩ => ⟨I1.kIn, ?_⟩) hpl
  rw [hks]
  obtain ⟨v0, rfl⟩ : ∃ v0, vs = [v0] := List.length_eq_one_iff.mp l1
  obtain ⟨u0, rfl⟩ : ∃ u0, us = [u0] := by
    cases r1 with
    | cons _ rr => cases rr; exact ⟨_, rfl⟩
  show wpAny _ _ (PySem.call (.ref C) [] [(y, u0)]) _ _ _
  obtain ⟨hp, g, dr, tk, os⟩ := s1
  have hsz : hp.objs.size ≤ hp.objs.size + 1 := Nat.le_succ _
  have hn : H1 (hp.objs.size + 1) = none := I1.hok.fresh hsz
  have hq := q1 (hp.objs.size + 1) hn
  have kk : ∀ b o, hp.get? b = some o → ((hp.push (PySem.W.kdv_tup [])).push (PySem.HandSPX.excO C hp.objs.size)).get? b = some o := fun b o e => Heap.get?_push_of_some _ (Heap.get?_push_of_some _ e)
  have hget : ((hp.push (PySem.W.kdv_tup [])).push (PySem.HandSPX.excO C hp.objs.size)).get? (hp.objs.size + 1) = some (PySem.HandSPX.excO C hp.objs.size) := by heap_get
  have I2 : Inv X pins σ (upd H1 (hp.objs.size + 1) (exo (hp.objs.size + 1) C none)) ⟨(hp.push (PySem.W.kdv_tup [])).push (PySem.HandSPX.excO C hp.objs.size), g, dr, tk, os⟩ := I1.laid (t' := tk) (a := hp.objs.size + 1) (o := exo (hp.objs.size + 1) C none) (h' := (hp.push (PySem.W.kdv_tup [])).push (PySem.HandSPX.excO C hp.objs.size)) kk hsz (exo_ok hget)
  have r2 : Vals (V.ref (hp.objs.size + 1) :: [v0]) (Value.ref (hp.objs.size + 1) :: [u0]) := .cons rfl r1
  refine wpAny_call (PySem.HandSPX.call_ownK FB hT (I1.kIn _ _ hC) (PySem.W.looks_findIn I1.kIn iC) (fun self => PySem.W.bind_fn I1.kIn self tI) (Nat.zero_le _)
    (codeAny_mono (F1.run _ X.stack _ _ ⟨[Value.ref (hp.objs.size + 1)], [(y, u0)]⟩ [Value.ref (hp.objs.size + 1), u0] _ _ (fun _ _ _ => False) (hr.make C [] [(y, u0)]) (I2.env0.make C [] [(y, u0)]) (hb _ _ _ I2.kIn) r2 hq) fun r s' hq' => ?_))
  cases r with
  | error er => exact hx pins σ _ _ er s' I2 hq'
  | ok fl =>
    cases fl with
    | ret u =>
      obtain ⟨v, H3, I3, rv, ev, d, fs, hd, ea, ed, q3⟩ := I2.after hq'
      subst ev
      exact ⟨rv, mk_val I3 hd ea ed q3⟩
    | next => exact False.elim hq'
    | brk => exact False.elim hq'
    | cont => exact False.elim hq'
end
/-- an error's class that may be made by the name of its field, too -/
structure ErrV (P : Program) (w : World) (K : PySem.W.Frag) (mg : Str → Option Value) (base : Heap) (x : Str) : Prop where
  ex : ∃ (C f1 : Addr) (fd : FuncData) (v : Str) (B nw ini : String) (tl : List Value), mg x = some (.ref C) ∧ BaseE B nw ini tl ∧ OexB K C nw tl ∧ PySem.W.findIn K (.ref C) "__init__" = some (some (.ref f1)) ∧ PySem.W.typeIn K (.ref f1) = some (.type "function") ∧ Binds K fd ["self", v] [] ∧
    (∀ (s : Shared) (u z : Value), K.In s.heap → BindsTo s fd ⟨[u], [(fieldOf x, z)]⟩ ((["self", v] : List Str).zip [u, z])) ∧ FnOk P w K mg base L2.CX0 1 f1 fd ["self", v] (spInit C (fieldOf x))
def dMkE (c : Str) (f : DExp) : DExp := fun env => bnd (f env) fun d => ret (.exc c d)
@[simp] theorem x_mkE (c : Str) (f : DExp) (env : En) : dMkE c f env = bnd (f env) fun d => ret (.exc c d) := rfl
section
variable {X : Cx} {W : WX} {k : Nat} {x y : Str} {e : Expr} {f : DExp} {p p2 kpos : Pos} {C : Addr}
theorem mk_spec (hm : X.mg x = some (.ref C)) {σ : L2.St} {H : Hp} {Q : VK} (h : tD X W (dMkE x f) σ H Q) : tMkV C (spInit C (fieldOf x)) (fun σ H Q => tA X W (aCons f aNil) σ H fun vs H1 => vs.length = 1 ∧ Q vs H1) σ H Q := by
  obtain ⟨B, n, F, env, S, h⟩ := h
  refine ⟨B, n, F, env, S, (f env).mono (fun d m q => ?_) (fun x m z => z) h⟩
  intro vs F1' H1 t r
  cases r with
  | @cons u us _ _ r1 r2 =>
  cases r2
  refine ⟨rfl, (show 1 ≤ 1000 by decide), fun a na => ⟨a, u, rfl, upd_same, fun dx ndx nda => ⟨rfl, dx, [(fieldOf x, u)], nda, upd_same, ?_, ?_⟩⟩⟩
  · rw [upd_ne nda, upd_same]
  · rw [upd_ne nda] at ndx
    have e : upd (upd (upd (upd (upd H1 a (exo a C none)) dx (exd dx [(fieldOf x, u)])) a (exo a C (some dx))) dx (.xd [(fieldOf x, u)])) a (ExcO a C dx) = upd (upd H1 dx (.xd [(fieldOf x, u)])) a (ExcO a C dx) := by
      funext b
      by_cases hba : b = a
      · rw [hba, upd_same, upd_same]
      · rw [upd_ne hba, upd_ne hba]
        by_cases hb : b = dx
        · rw [hb, upd_same, upd_same]
        · rw [upd_ne hb, upd_ne hb, upd_ne hba, upd_ne hb, upd_ne hba]
    rw [e]
    have ss := S.st.trans t
    have s1 := Step.new (n := m) (o := .xd [(fieldOf x, u)]) ss.sub ndx
    have na' : (upd H1 dx (.xd [(fieldOf x, u)])) a = none := by rw [upd_ne nda.symm]; exact na
    have s2 := Step.new (n := m) (o := ExcO a C dx) (ss.trans s1).sub na'
    refine q (.ref a) _ _ (t.trans (s1.trans s2)) (.exc hm upd_same ?_ (r1.grow (s1.gr.trans s2.gr)))
    rw [upd_ne nda, upd_same]
theorem de_mkE (kx : Kx X W k) (hk : 2 ≤ k) (R : ErrV X.prog X.w X.K X.mg X.base x) (he : DE X W e f) (hg : Gl X x := by rfl) (hdb : (x == ("__debug__" : Str)) = false := by decide)
    (hs : starEach [e] X.env = (false, eval e X.env) :: starEach [] X.env := by rfl) (hpl : (backTo p2 (starEach [] X.env)).any (·.1) = false := by rfl) : DE X W (.Call (.Name x p) [e] [] p2) (dMkE x f) := by
  obtain ⟨C, f1, fd, v, B0, nw, ini, tl, hm, BE, T, iC, tI, hb, _, F1⟩ := R.ex
  have ha : DA X W [e] (aCons f aNil) := da_cons he da_nil hs
  exact ⟨PE.imp (pe_mkV BE T iC tI F1 (kx.rm.room.mono hk) hb L2.pass0 hg hm ha.pa hdb hs hpl) fun σ H Q h => by
    obtain ⟨B, n, F, env, S, q⟩ := mk_spec hm h
    exact ⟨B, n, F, env, S, (aCons f aNil env).mono (fun ds m z vs F1 H1 t r => (z vs F1 H1 t r).2) (fun _ _ z => z) q⟩⟩
theorem de_mkK (kx : Kx X W k) (hk : 2 ≤ k) (R : ErrV X.prog X.w X.K X.mg X.base x) (he : DE X W e f) (hy : fieldOf x = y := by decide) (hg : Gl X x := by rfl) (hdb : (x == ("__debug__" : Str)) = false := by decide)
    (hall : (backToKw p2 (keywordEach [⟨some y, e, kpos⟩] X.env)).all (·.1.isSome) = true := by rfl) (hks : (backToKw p2 (keywordEach [⟨some y, e, kpos⟩] X.env)).filterMap (·.1) = [y] := by rfl)
    (hpl : ((backTo p2 (starEach [] X.env)).any (·.1) || (backToKw p2 (keywordEach [⟨some y, e, kpos⟩] X.env)).any (·.1.isNone)) = false := by rfl) : DE X W (.Call (.Name x p) [] [⟨some y, e, kpos⟩] p2) (dMkE x f) := by
  obtain ⟨C, f1, fd, v, B0, nw, ini, tl, hm, BE, T, iC, tI, _, hb, F1⟩ := R.ex
  rw [hy] at hb
  have ha : DKs X W [⟨some y, e, kpos⟩] (aCons f aNil) := dk_cons he dk_nil
  exact ⟨PE.imp (pe_mkK BE T iC tI F1 (kx.rm.room.mono hk) hb L2.pass0 hg hm ha.pk hdb hall hks hpl) fun σ H Q h => mk_spec hm h⟩
end
end DL

end
section
set_option Elab.async false
set_option linter.all false
set_option maxRecDepth 100000
set_option maxHeartbeats 4000000
/-! DExcI: isinstance of an error: own classes, built-in ones, a tuple of them. -/
namespace DL
open PySem PySem.Spec PyProof.Rows L2 NdefX
variable [Tb]
/-- the class behind the name -/
def realC (c : Str) : Str := if c = "~FoldError" then "FoldError" else c
def IsB (K : PySem.W.Frag) (mg : Str → Option Value) (c : Str) (cv : Value) (b : Bool) : Prop := ∃ C : Addr, mg (realC c) = some (.ref C) ∧ ExcC K C ∧ PySem.W.kitOne K (.ref C) cv = some b
structure IsTab (K : PySem.W.Frag) (mg : Str → Option Value) (oks cls : List Str) (tys : List String) (fT : Str → Str → Bool) (yT : Str → String → Bool) : Prop where
  own : ∀ c ∈ oks, ∀ d ∈ cls, ∃ D' : Addr, mg d = some (.ref D') ∧ IsB K mg c (.ref D') (fT c d)
  bui : ∀ c ∈ oks, ∀ t ∈ tys, IsB K mg c (.type t) (yT c t)
  nb : mg "~FoldError" = none
def tysOf : List D → Option (List String)
  | [] => some []
  | .ty t :: r => match tysOf r with
    | some l => some (t :: l)
    | none => none
  | _ => none
def rIsW (K : PySem.W.Frag) : List V → Hp → VK → Prop := fun xs H Q => ∃ (a C : Addr) (u : V) (b : Bool), xs = [.ref a, u] ∧ ((∃ (dx : Addr) (f : Str) (v : V), H a = some (ExcO a C dx) ∧ H dx = some (.xd [(f, v)])) ∨ ∃ t, H a = some (ExbO a C t)) ∧ ExcC K C ∧
  ((∃ cv : Value, (∀ w, RelV u w → w = cv) ∧ PySem.W.kitOne K (.ref C) cv = some b) ∨ ∃ (tp : Addr) (ts : List String), u = .ref tp ∧ H tp = some (.tup (ts.map V.ty)) ∧ PySem.W.kitAny K (.ref C) (ts.map Value.type) = some b) ∧ Q (.bl b) H
theorem vals_ty : ∀ {ts : List String} {its : List Value}, Vals (ts.map V.ty) its → its = ts.map Value.type
  | [], _, .nil => rfl
  | t :: ts, _, .cons h r => by
    rw [vals_ty r]
    rw [show _ = Value.type t from h]
    rfl
section
variable {X : Cx}
theorem cr_isW : CallR X (.builtin "isinstance") (rIsW X.K) := by
  intro pins s σ H xs us Q I r h
  obtain ⟨a, C, u, b, rfl, ha, T, hu, q⟩ := h
  cases r with
  | cons rx rr =>
    cases rr with
    | @cons _ y _ _ rt rr =>
      cases rr
      cases rx
      have fin : ∀ tk, EP X pins σ Q (.bool b) { s with toks := tk } := fun tk => ⟨.bl b, H, I.kept (t' := tk) fun _ _ z => z, rfl, q⟩
      have key : ∀ {Z : Heap → Prop}, PySem.W.KitX X.K (.ref a) (.ref C) Z → Z s.heap → wpAny (model X.prog X.w) X.A (PySem.call (.builtin "isinstance") [.ref a, y]) (EP X pins σ Q) X.xe s := fun {Z} kit J => by
        rcases hu with ⟨cv, hc, e⟩ | ⟨tp, ts, rfl, ht, e⟩
        · rw [hc _ rt]
          exact PySem.W.kia_one kit I.kIn J e (fun z => nomatch z) fin
        · obtain rfl : y = Value.ref tp := rt
          obtain ⟨_, its, rv, o, ho, h1, n, h2⟩ := I.hok tp _ ht
          rw [← vals_ty rv] at e
          obtain ⟨oc, od, oda, osl⟩ := o
          dsimp only at h1 h2
          subst h1 h2
          exact PySem.W.kia_tup kit I.kIn J ho e (fun z => nomatch z) fin
      rcases ha with ⟨dx, f, v, h1, h2⟩ | ⟨t, h1⟩
      · obtain ⟨oe, od, _, _, _, _, J, _, _⟩ := exc_inst (K := X.K) I.hok h1 h2
        exact key (err_kit T) J
      · obtain ⟨hg, _⟩ := I.hok a _ h1
        exact key (PySem.W.handS_kitx_exc T.hg T.hk T.hs T.hd T.ha T.hn T.ht T.hm) ⟨hg, rfl, rfl, trivial⟩
def gIsX (oks cls : List Str) (tys : List String) (fT : Str → Str → Bool) (yT : Str → String → Bool) : List D → M D
  | [.exc c _, .fn d] => need (c ∈ oks ∧ d ∈ cls) (ret (.bl (fT c d)))
  | [.exc c _, .ty t] => need (c ∈ oks ∧ t ∈ tys) (ret (.bl (yT c t)))
  | [.exc c _, .tup ks] => match tysOf ks with
    | some (t :: ts) => need (c ∈ oks ∧ ∀ x ∈ t :: ts, x ∈ tys) (ret (.bl ((t :: ts).any (yT c))))
    | _ => stuck
  | _ => stuck
variable {oks cls : List Str} {tys : List String} {fT : Str → Str → Bool} {yT : Str → String → Bool}
theorem reps_ty {n : Cn} {F : Hp} : ∀ {ks : List D} {ts : List String} {xs : List V}, tysOf ks = some ts → Reps X.K X.mg n F xs ks → xs = ts.map V.ty
  | [], _, _, h, .nil => by cases h; rfl
  | k :: ks, ts, _, h, .cons r rs => by
    cases k with
    | ty t =>
      unfold tysOf at h
      split at h
      · rename_i l hl
        cases h
        cases r
        rw [reps_ty hl rs]
        rfl
      · cases h
    | _ => cases h
theorem rep_err {n : Cn} {F H : Hp} {c : Str} {p : D} {v : V} {C : Addr} (nb : X.mg "~FoldError" = none) (m : X.mg (realC c) = some (.ref C)) (s : ∀ b o, F b = some o → H b = some o) (r : Rep X.K X.mg n F v (.exc c p)) :
    ∃ a, v = .ref a ∧ ((∃ (dx : Addr) (f : Str) (v : V), H a = some (ExcO a C dx) ∧ H dx = some (.xd [(f, v)])) ∨ ∃ t, H a = some (ExbO a C t)) := by
  cases r with
  | exc m4 e1 e2 _ =>
    have hc : c ≠ "~FoldError" := fun z => by rw [z, nb] at m4; cases m4
    unfold realC at m
    rw [if_neg hc, m4] at m
    cases m
    exact ⟨_, rfl, .inl ⟨_, _, _, s _ _ e1, s _ _ e2⟩⟩
  | exb m4 m5 e1 _ _ =>
    unfold realC at m
    rw [if_pos rfl, m5] at m
    cases m
    exact ⟨_, rfl, .inr ⟨_, s _ _ e1⟩⟩
theorem kit_any {K : PySem.W.Frag} {t : Value} {f : String → Bool} : ∀ {ts : List String}, (∀ x ∈ ts, PySem.W.kitOne K t (.type x) = some (f x)) → PySem.W.kitAny K t (ts.map Value.type) = some (ts.any f)
  | [], _ => rfl
  | x :: ts, h => by
    have h1 := h x (List.mem_cons_self ..)
    have h2 := kit_any fun y hy => h y (List.mem_cons_of_mem _ hy)
    show (match PySem.W.kitOne K t (.type x) with
      | some true => some true
      | some false => PySem.W.kitAny K t (ts.map Value.type)
      | none => none) = _
    rw [h1, List.any_cons]
    cases f x with
    | true => rfl
    | false => rw [Bool.false_or]; exact h2
theorem cd_isW (T : IsTab X.K X.mg oks cls tys fT yT) : CallD X (rIsW X.K) (gIsX oks cls tys fT yT) := fun n F H xs ds Q E s r q => by
  unfold gIsX at q
  split at q
  · rename_i c p d
    obtain ⟨⟨hc, hd⟩, q⟩ := q
    obtain ⟨D', m3, C, m1, T1, k⟩ := T.own c hc d hd
    cases r with
    | cons r1 r2 =>
      cases r2 with
      | cons r3 r4 =>
        cases r4
        obtain ⟨a, rfl, ha⟩ := rep_err T.nb m1 s r1
        cases r3 with
        | fn m5 =>
          rw [m3] at m5; cases m5
          exact ⟨a, C, _, _, rfl, ha, T1, .inl ⟨_, fun w z => z, k⟩, q _ F H (Step.refl s) (.bl _)⟩
  · rename_i c p t
    obtain ⟨⟨hc, hd⟩, q⟩ := q
    obtain ⟨C, m1, T1, k⟩ := T.bui c hc t hd
    cases r with
    | cons r1 r2 =>
      cases r2 with
      | cons r3 r4 =>
        cases r4
        obtain ⟨a, rfl, ha⟩ := rep_err T.nb m1 s r1
        cases r3
        exact ⟨a, C, _, _, rfl, ha, T1, .inl ⟨_, fun w z => z, k⟩, q _ F H (Step.refl s) (.bl _)⟩
  · rename_i c p ks
    split at q
    · rename_i t ts hts
      obtain ⟨⟨hc, hd⟩, q⟩ := q
      cases r with
      | cons r1 r2 =>
        cases r2 with
        | cons r3 r4 =>
          cases r4
          cases r3 with
          | tup e2 rs =>
            have ex := reps_ty (X := X) hts rs
            subst ex
            · obtain ⟨C, m1, T1, _⟩ := T.bui c hc t (hd t (List.mem_cons_self ..))
              obtain ⟨a, rfl, ha⟩ := rep_err T.nb m1 s r1
              have kk : ∀ x ∈ t :: ts, PySem.W.kitOne X.K (.ref C) (.type x) = some (yT c x) := fun x hx => by
                obtain ⟨C', m1', _, k⟩ := T.bui c hc x (hd x hx)
                rw [m1] at m1'; cases m1'
                exact k
              exact ⟨a, C, _, _, rfl, ha, T1, .inr ⟨_, t :: ts, rfl, s _ _ e2, kit_any kk⟩, q _ F H (Step.refl s) (.bl _)⟩
    · exact q.elim
  · exact q.elim
end
end DL

end
section
set_option Elab.async false
set_option linter.all false
set_option maxRecDepth 100000
set_option maxHeartbeats 4000000
/-! DExcB: an error of the class that has no __init__ of its own, as a value; str of it. -/
namespace DL
open PySem PySem.Spec PyProof.Rows L2 NdefX
variable [Tb]
theorem exb_ok {P : Program} {w : World} {H : Hp} {h : Heap} {a C t : Addr} (e : h.get? a = some ({ cls := .ref C, data := .fields #[.ref t, .none, .none, .none, .bool false, .none] } : Obj)) : ObjOk P w H h a (ExbO a C t) := ⟨e, ⟨_, e⟩, fun h1 h2 z k => k _ z⟩
section
variable {X : Cx} {x : Str} {e : Expr} {ta : TE} {p pos : Pos} {C : Addr} {bmB : List Value} {B newId initId : String}
theorem pe_bare (F : ExcBaseFacts B newId initId bmB) (q : PySem.W.excIn X.K C bmB newId = true) (gC : X.mg x = some (.ref C)) (kC : PySem.W.keepIn X.K (.ref C) = true) (hg : Gl X x)
    (he : PE X e ta) (hs : starEach [e] X.env = (false, eval e X.env) :: starEach [] X.env := by rfl) (hdb : (x == ("__debug__" : Str)) = false := by decide) :
    PE X (.Call (.Name x p) [e] [] pos) (fun σ H Q => ta σ H fun v H1 => ∀ a t, H1 a = none → H1 t = none → t ≠ a → Q (.ref a) (upd (upd H1 t (.tup [v])) a (ExbO a C t))) := by
  refine ⟨fun pins s σ H Q I h => ?_⟩
  refine wpAny_Call_Name_kw (ld_glob I hg gC ?_ hdb)
  refine PySem.W.callWith_K (h₀ := X.base) I.ok.mod.kin kC ?_ hs (by rfl)
  rw [hs]
  show wpAny _ _ (spliced ((false, eval e X.env) :: backTo pos (starEach [] X.env))) _ _ s
  refine Calls.spliced_cons (thn (he.run pins s σ H _ I h) fun u s1 ⟨v, H1, I1, r1, q1⟩ => ?_)
  refine Calls.spliced_nil ⟨I1.kIn, ?_⟩
  show wpAny _ _ (PySem.call (.ref C) [u]) _ _ _
  obtain ⟨bm, N, nm, qn, bs, hdct, sn, sub, ab, col, dd, k0, k1, k2, k3, k5, mN, hC, hN, hni, T⟩ := exc_obj I1.kIn q
  refine wpAny_call_exc_subT F T hC hN hni (fun h' a hm => ?_) (by show 1 ≤ sizeLine; rw [sizeLine_eq]; omega)
  have hn : H1 a = none := I1.hok.gone hm.new
  obtain ⟨t, ht, hnt, htt⟩ := hm.there
  have hnt' : H1 t = none := I1.hok.gone hnt
  have hta : t ≠ a := fun z => by rw [z, ht] at htt; cases htt
  have na : ∀ {b : Addr} {o : Obj}, s1.heap.get? b = some o → b ≠ a := fun z e => by rw [e, hm.new] at z; cases z
  have nt : ∀ {b : Addr} {o : Obj}, s1.heap.get? b = some o → b ≠ t := fun z e => by rw [e, hnt] at z; cases z
  have U : Un X.fs [] H1 (upd (upd H1 t (.tup [v])) a (ExbO a C t)) s1.heap h' := {
    keep := fun b o z _ _ _ => hm.keeps b o z
    slot := fun b o z _ _ _ => ⟨o.slots, hm.keeps b o z⟩
    free := fun b o z n _ => by rw [upd_ne (na z), upd_ne (nt z)]; exact n
    there := fun b o z _ => ⟨o, hm.keeps b o z⟩
    tups := fun b xs z => by rw [upd_ne (ne_of_none z hn), upd_ne (ne_of_none z hnt')]; exact z
    frzs := fun b o v z => by rw [upd_ne (ne_of_none z hn), upd_ne (ne_of_none z hnt')]; exact z
    tbls := fun b ps z => ⟨#[], by rw [upd_ne (ne_of_none z hn), upd_ne (ne_of_none z hnt'), z]; simp⟩ }
  have J := I1.un (t' := s1.toks) U fun b o z => by
    by_cases hb : b = a
    · subst hb
      rw [upd_same] at z; cases z
      exact exb_ok ht
    · rw [upd_ne hb] at z
      by_cases hbt : b = t
      · subst hbt
        rw [upd_same] at z; cases z
        exact ⟨szl (by simp), [u], .cons r1 .nil, _, htt, rfl, _, rfl⟩
      · rw [upd_ne hbt] at z
        exact (I1.hok b o z).stay (fun c v _ z => hm.keeps c v z) (fun c hc => by rw [upd_ne (ne_of_none hc hn), upd_ne (ne_of_none hc hnt')]; exact hc) (fun c xs hc => by rw [upd_ne (ne_of_none hc hn), upd_ne (ne_of_none hc hnt')]; exact hc)
  exact ⟨.ref a, _, J, rfl, q1 a t hn hnt' hta⟩
end
/-- what is known of the class without __init__ -/
structure BareE (K : PySem.W.Frag) (mg : Str → Option Value) : Prop where
  ex : ∃ (C : Addr) (bmB : List Value) (B nw ini : String), mg "FoldError" = some (.ref C) ∧ ExcBaseFacts B nw ini bmB ∧ PySem.W.excIn K C bmB nw = true ∧ PySem.W.keepIn K (.ref C) = true ∧
    PySem.W.findIn K (.ref C) "__str__" = some (some (.builtin "BaseException.__str__")) ∧ PySem.W.subIn K (.ref C) (.type "BaseException") = some true
  nb : mg "~FoldError" = none
def dMkB (f : DExp) : DExp := fun env => bnd (f env) fun d => ret (.exc "~FoldError" d)
@[simp] theorem x_mkB (f : DExp) (env : En) : dMkB f env = bnd (f env) fun d => ret (.exc "~FoldError" d) := rfl
section
variable {X : Cx} {W : WX} {k : Nat} {e : Expr} {f : DExp} {p p2 : Pos}
theorem de_mkB (R : BareE X.K X.mg) (he : DE X W e f) (hg : Gl X "FoldError" := by rfl) (hs : starEach [e] X.env = (false, eval e X.env) :: starEach [] X.env := by rfl) : DE X W (.Call (.Name "FoldError" p) [e] [] p2) (dMkB f) := by
  obtain ⟨C, bmB, B0, nw, ini, hm, FB, q, kC, _, _⟩ := R.ex
  refine ⟨PE.imp (pe_bare FB q hm kC hg he.pe hs) fun σ H Q ⟨B, n, F, env, S, h⟩ => ?_⟩
  refine ⟨B, n, F, env, S, (f env).mono (fun d m z => ?_) (fun x m z => z) h⟩
  intro v F1 H1 st r a t na nt hta
  have ss := S.st.trans st
  have s1 := Step.new (n := m) (o := .tup [v]) ss.sub nt
  have na' : (upd H1 t (.tup [v])) a = none := by rw [upd_ne hta.symm]; exact na
  have s2 := Step.new (n := m) (o := ExbO a C t) (ss.trans s1).sub na'
  refine z (.ref a) _ _ (st.trans (s1.trans s2)) (.exb R.nb hm upd_same ?_ (r.grow (s1.gr.trans s2.gr)))
  rw [upd_ne hta, upd_same]
end
/-! ### str of it -/
def rStrB (K : PySem.W.Frag) : List V → Hp → VK → Prop := fun xs H Q => ∃ (a C t : Addr) (m : Str), xs = [.ref a] ∧ H a = some (ExbO a C t) ∧ H t = some (.tup [.str m]) ∧ PySem.W.findIn K (.ref C) "__str__" = some (some (.builtin "BaseException.__str__")) ∧ PySem.W.subIn K (.ref C) (.type "BaseException") = some true ∧ Q (.str m) H
section
variable {X : Cx}
theorem cr_strB (hu : X.A.units + 2 < cLine) : CallR X (.type "str") (rStrB X.K) := by
  intro pins s σ H xs us Q I r h
  obtain ⟨a, C, t, m, rfl, h1, h2, fs, sb, q⟩ := h
  obtain ⟨u, rfl, r1⟩ := vals1 r
  obtain rfl : u = Value.ref a := r1
  obtain ⟨hg, _⟩ := I.hok a _ h1
  obtain ⟨_, its, rv, o, ho, hc, n, hd⟩ := I.hok t _ h2
  cases rv with
  | @cons _ u0 _ _ r0 rr =>
  cases rr
  obtain ⟨tk, rfl⟩ := (show ∃ tk, u0 = Value.str m tk from r0)
  exact PySem.P.str_of_C_one hu ⟨I.kIn, _, _, hg, rfl, rfl, rfl⟩ ⟨o, n, ho, hc, hd⟩ fs sb ⟨.str m, H, I, ⟨tk, rfl⟩, q⟩
def gStrB : List D → M D
  | [.exc c (.str m)] => need (c = "~FoldError") (ret (.str m))
  | _ => stuck
theorem cd_strB (R : BareE X.K X.mg) : CallD X (rStrB X.K) gStrB := fun n F H xs ds Q E s r q => by
  unfold gStrB at q
  split at q
  · rename_i c m
    obtain ⟨hc, q⟩ := q
    obtain ⟨C, bmB, B0, nw, ini, hm, FB, _, kC, fs, sb⟩ := R.ex
    cases r with
    | cons r1 r2 =>
      cases r2
      cases r1 with
      | exc m4 _ _ _ => rw [hc, R.nb] at m4; cases m4
      | exb _ m5 e1 e2 rp =>
        rw [hm] at m5; cases m5
        cases rp
        exact ⟨_, C, _, m, rfl, s _ _ e1, s _ _ e2, fs, sb, q _ F H (Step.refl s) (.str _)⟩
  · exact q.elim
end
end DL

end
section
set_option Elab.async false
set_option linter.all false
set_option maxRecDepth 100000
set_option maxHeartbeats 4000000
open PySem PySem.Spec PyProof.Rows L2 DL
namespace Wk01
open PKG
variable [Tb]
def top (i : Nat) : Stmt := PySem.Challenge.pw_pointfolds_k01_errors.main.body.getD i (.Pass ⟨0, 0, 0, 0⟩)
def oks : List Str := ["BadCorner", "BadSigns", "BadStack", "BadNumber", "BadMask", "BadCreases", "BadWeights", "BadMove", "BadPaper", "BadText", "BadFacts", "TooGreat", "Nothing"]
def oksX : List Str := "~FoldError" :: oks
def cls : List Str := ["BadCorner", "BadCreases", "BadFacts", "BadMask", "BadMove", "BadNumber", "BadPaper", "BadSigns", "BadStack", "BadText", "BadWeights", "FoldError", "Nothing", "TooGreat"]
def tysX : List String := ["ValueError", "OverflowError", "LookupError", "KeyError", "IndexError", "TypeError", "RuntimeError"]
def fT (c d : Str) : Bool := decide (realC c = d) || (decide (d = "FoldError") && !(decide (c = "TooGreat") || decide (c = "Nothing")))
def yT (c : Str) (t : String) : Bool := if t = "ValueError" then !(decide (c = "TooGreat") || decide (c = "Nothing")) else if t = "OverflowError" then decide (c = "TooGreat") else if t = "LookupError" then decide (c = "Nothing") else false
structure Zs (mg : Str → Option Value) : Prop where
  n_IndexError : mg "IndexError" = none
  n_KeyError : mg "KeyError" = none
  n_LookupError : mg "LookupError" = none
  n_OverflowError : mg "OverflowError" = none
  n_RuntimeError : mg "RuntimeError" = none
  n_TypeError : mg "TypeError" = none
  n_ValueError : mg "ValueError" = none
  n_enumerate : mg "enumerate" = none
  n_int : mg "int" = none
  n_isinstance : mg "isinstance" = none
  n_len : mg "len" = none
  n_list : mg "list" = none
  n_min : mg "min" = none
  n_range : mg "range" = none
  n_repr : mg "repr" = none
  n_str : mg "str" = none
  k_BadCorner : ∃ f : Addr, mg "BadCorner" = some (.ref f)
  k_BadCreases : ∃ f : Addr, mg "BadCreases" = some (.ref f)
  k_BadFacts : ∃ f : Addr, mg "BadFacts" = some (.ref f)
  k_BadMask : ∃ f : Addr, mg "BadMask" = some (.ref f)
  k_BadMove : ∃ f : Addr, mg "BadMove" = some (.ref f)
  k_BadNumber : ∃ f : Addr, mg "BadNumber" = some (.ref f)
  k_BadPaper : ∃ f : Addr, mg "BadPaper" = some (.ref f)
  k_BadSigns : ∃ f : Addr, mg "BadSigns" = some (.ref f)
  k_BadStack : ∃ f : Addr, mg "BadStack" = some (.ref f)
  k_BadText : ∃ f : Addr, mg "BadText" = some (.ref f)
  k_BadWeights : ∃ f : Addr, mg "BadWeights" = some (.ref f)
  k_FoldError : ∃ f : Addr, mg "FoldError" = some (.ref f)
  k_Nothing : ∃ f : Addr, mg "Nothing" = some (.ref f)
  k_TooGreat : ∃ f : Addr, mg "TooGreat" = some (.ref f)
  sys : Tb.sys = true
section
variable {P : Program} {w : World} {K : PySem.W.Frag} {mg : Str → Option Value} {base : Heap}
/-! def _law_begun -/
abbrev st__law_begun : Stmt := top 16
def s__law_begun : DStm :=
  sSeq (sAsg 1 (dLc (iScr (dVar 0)) [2] (tgN 2) (dTst (dBin gGe (dVar 2) (dBin gPow (dK (.int 10)) (dK (.int 18))))) (dVar 2))) (sRet (dBeg (dBin gAdd (dCb gListS (aCons (dVar 0) (aNil))) (dLst (aCons (dCb gLen (aCons (dVar 0) (aNil))) (aNil)))) (dIf (dTst (dBin (gEq true) (dVar 1) (dLst (aNil)))) (dBin gIx (dVar 1) (dK (.int 0))) (dK (.int 0))) (dK (.int 0))))
def f__law_begun : Fn := fnOf (["_law_script", "_law_great", "_law_cell"] : List Str).length s__law_begun
theorem sc__law_begun : FnScope ["_law_script", "_law_great", "_law_cell"] ["_law_script"] (defScope st__law_begun) := ⟨rfl, rfl, rfl, by decide +kernel, rfl, by decide +kernel, by decide +kernel⟩
theorem g__law_begun (Z : Zs mg) (D_ : Df K mg "_law_begun" ["_law_script"] st__law_begun) :
    Glo P w K mg base 1 "_law_begun" 1 f__law_begun := D_.glo (k := 0) (s := s__law_begun) sc__law_begun rfl fun f cd R callers t H E kx =>
  dss_cons (ds_setLc kx 1 (own := [("_law_cell", 2)]) (di_scr (de_var 0)) (show BlkOk ["_law_script", "_law_great", "_law_cell"] (defScope st__law_begun) _ [("_law_cell", 2)] from ⟨rfl, by decide +kernel, by decide +kernel, by decide +kernel, by decide +kernel⟩) (fun _ _ _ _ _ => dg_name 2 sc__law_begun.nd) (fun _ _ _ _ _ => dts_one (dt_cmp op_ge od_ge (de_var 2) (de_bin op_pow od_pow (de_int) (de_int)))) (fun _ _ _ _ _ => de_var 2)) (dss_one (ds_ret (de_beg (de_bin op_addA od_add (de_ct call_list_of cd_listS Z.n_list (da_cons (de_var 0) (da_nil))) (de_lst (da_cons (de_cb cb_len cd_len Z.n_len (da_cons (de_var 0) (da_nil))) (da_nil)))) (de_if (dt_cmp (op_neA (units_64 kx)) od_ne (de_var 1) (de_lst (da_nil))) (de_ix (de_var 1) (de_int)) (de_int)) (de_int))))
theorem h__law_begun (Z : Zs mg) (D_ : Df K mg "_law_begun" ["_law_script"] st__law_begun) : Glo P w K mg base 1 "_law_begun" 1 gBegun := (g__law_begun Z D_).imp begun19
/-! def _law_draw -/
abbrev st__law_draw : Stmt := top 17
def s__law_draw : DStm :=
  sSeq (sIf (dTst (dBin gGt (dRg rngL (dVar 0)) (dK (.int 0)))) (sSeq (sAsg 5 (dBin gMod (dCb gInt (aCons (dRg rngL (dVar 0)) (aNil))) (dVar 1))) (sSeq (sRg tickL (dVar 0) (dBin gFdiv (dRg rngL (dVar 0)) (dVar 1))) (sRet (dVar 5)))) (sSkip)) (sSeq (sAsg 2 (dBin gAdd (dRg rngK (dVar 0)) (dK (.int 1)))) (sSeq (sRg tickK (dVar 0) (dVar 2)) (sSeq (sAsg 3 (dBin gIx (dRg rngC (dVar 0)) (dBin gMod (dCb gInt (aCons (dVar 2) (aNil))) (dCb gLen (aCons (dRg rngC (dVar 0)) (aNil)))))) (sSeq (sAsg 4 (dBin gMul (dCb gInt (aCons (dBin gAdd (dBin gAdd (dBin gMod (dCb gInt (aCons (dVar 3) (aNil))) (dK (.int 2147483629))) (dBin gMul (dK (.int 6133)) (dVar 2))) (dBin gMul (dBin gMul (dK (.int 23)) (dVar 2)) (dVar 2))) (aNil))) (dK (.int 48271)))) (sSeq (sAsg 4 (dBin gMul (dCb gInt (aCons (dBin gAdd (dBin gMod (dCb gInt (aCons (dVar 4) (aNil))) (dK (.int 2147483647))) (dBin gMul (dK (.int 93241)) (dVar 2))) (aNil))) (dK (.int 69621)))) (sRet (dBin gMod (dCb gInt (aCons (dBin gFdiv (dBin gMod (dCb gInt (aCons (dVar 4) (aNil))) (dK (.int 2147483587))) (dK (.int 13))) (aNil))) (dVar 1))))))))
def f__law_draw : Fn := fnOf (["_law_m", "_law_limit", "_law_spot", "_law_cell", "_law_mixed", "_law_found"] : List Str).length s__law_draw
theorem sc__law_draw : FnScope ["_law_m", "_law_limit", "_law_spot", "_law_cell", "_law_mixed", "_law_found"] ["_law_m", "_law_limit"] (defScope st__law_draw) := ⟨rfl, rfl, rfl, by decide +kernel, rfl, by decide +kernel, by decide +kernel⟩
theorem g__law_draw (Z : Zs mg) (D_ : Df K mg "_law_draw" ["_law_m", "_law_limit"] st__law_draw) :
    Glo P w K mg base 1 "_law_draw" 2 f__law_draw := D_.glo (k := 0) (s := s__law_draw) sc__law_draw rfl fun f cd R callers t H E kx =>
  dss_cons (ds_if (dt_cmp op_gt od_gt (de_rngL kx (de_var 0)) (de_int)) (dss_cons (ds_asg 5 kx (de_bin op_mod od_mod (de_ct call_int1 cd_int Z.n_int (da_cons (de_rngL kx (de_var 0)) (da_nil))) (de_var 1))) (dss_cons (ds_rngL kx (de_var 0) (de_bin op_fdivW od_fdiv (de_rngL kx (de_var 0)) (de_var 1))) (dss_one (ds_ret (de_var 5))))) (dss_nil)) (dss_cons (ds_asg 2 kx (de_bin op_addA od_add (de_rngK kx (de_var 0)) (de_int))) (dss_cons (ds_rngK kx (de_var 0) (de_var 2)) (dss_cons (ds_asg 3 kx (de_ix (de_rngC kx (de_var 0)) (de_bin op_mod od_mod (de_ct call_int1 cd_int Z.n_int (da_cons (de_var 2) (da_nil))) (de_cb cb_len cd_len Z.n_len (da_cons (de_rngC kx (de_var 0)) (da_nil)))))) (dss_cons (ds_asg 4 kx (de_bin op_mulA od_mul (de_ct call_int1 cd_int Z.n_int (da_cons (de_bin op_addA od_add (de_bin op_addA od_add (de_bin op_mod od_mod (de_ct call_int1 cd_int Z.n_int (da_cons (de_var 3) (da_nil))) (de_int)) (de_bin op_mulA od_mul (de_int) (de_var 2))) (de_bin op_mulA od_mul (de_bin op_mulA od_mul (de_int) (de_var 2)) (de_var 2))) (da_nil))) (de_int))) (dss_cons (ds_asg 4 kx (de_bin op_mulA od_mul (de_ct call_int1 cd_int Z.n_int (da_cons (de_bin op_addA od_add (de_bin op_mod od_mod (de_ct call_int1 cd_int Z.n_int (da_cons (de_var 4) (da_nil))) (de_int)) (de_bin op_mulA od_mul (de_int) (de_var 2))) (da_nil))) (de_int))) (dss_one (ds_ret (de_bin op_mod od_mod (de_ct call_int1 cd_int Z.n_int (da_cons (de_bin op_fdivW od_fdiv (de_bin op_mod od_mod (de_ct call_int1 cd_int Z.n_int (da_cons (de_var 4) (da_nil))) (de_int)) (de_int)) (da_nil))) (de_var 1)))))))))
theorem h__law_draw (Z : Zs mg) (D_ : Df K mg "_law_draw" ["_law_m", "_law_limit"] st__law_draw) : Glo P w K mg base 1 "_law_draw" 2 gDraw := (g__law_draw Z D_).imp draw19
/-! def _law_of -/
abbrev st__law_of : Stmt := top 18
theorem sc__law_of : FnScope ["_law_m", "_law_some"] ["_law_m", "_law_some"] (defScope st__law_of) := ⟨rfl, rfl, rfl, by decide +kernel, rfl, by decide +kernel, by decide +kernel⟩
theorem g__law_of (Z : Zs mg) (D_ : Df K mg "_law_of" ["_law_m", "_law_some"] st__law_of) (G__law_draw : Glo P w K mg base 1 "_law_draw" 2 gDraw) :
    Glo P w K mg base 2 "_law_of" 2 f__law_of := D_.glo (k := 1) (s := s__law_of) sc__law_of rfl fun f cd R callers t H E kx =>
  dss_one (ds_ret (de_ix (de_var 1) (de_call kx G__law_draw (da_cons (de_var 0) (da_cons (de_cb cb_len cd_len Z.n_len (da_cons (de_var 1) (da_nil))) (da_nil))))))
/-! def _law_odd -/
abbrev st__law_odd : Stmt := top 19
def s__law_odd : DStm :=
  sSeq (sAsg 1 (dLst (aCons (dK .non) (aCons (dK (.bl true)) (aCons (dK (.bl false)) (aCons (dK (.int 0)) (aCons (dK (.int 7)) (aCons (dUn gNeg (dK (.int 3))) (aCons (dBin gPow (dK (.int 10)) (dK (.int 40))) (aCons (dK (.str "")) (aCons (dK (.str "MV")) (aCons (dTup (aNil)) (aCons (dTup (aCons (dK (.int 60)) (aCons (dK (.int 60)) (aNil)))) (aCons (dLst (aNil)) (aCons (dLst (aCons (dK (.int 2)) (aNil))) (aCons (dDct0) (aCons (dDctS [(dK (.str "a"), dK (.int 1))]) (aNil)))))))))))))))))) (sRet (dCall 2 f__law_of (aCons (dVar 0) (aCons (dVar 1) (aNil)))))
def f__law_odd : Fn := fnOf (["_law_m", "_law_some"] : List Str).length s__law_odd
theorem sc__law_odd : FnScope ["_law_m", "_law_some"] ["_law_m"] (defScope st__law_odd) := ⟨rfl, rfl, rfl, by decide +kernel, rfl, by decide +kernel, by decide +kernel⟩
theorem g__law_odd (Z : Zs mg) (D_ : Df K mg "_law_odd" ["_law_m"] st__law_odd) (G__law_of : Glo P w K mg base 2 "_law_of" 2 f__law_of) :
    Glo P w K mg base 3 "_law_odd" 1 f__law_odd := D_.glo (k := 2) (s := s__law_odd) sc__law_odd rfl fun f cd R callers t H E kx =>
  dss_cons (ds_asg 1 kx (de_lst (da_cons (de_non) (da_cons (de_bl) (da_cons (de_bl) (da_cons (de_int) (da_cons (de_int) (da_cons (de_un un_neg ud_neg (de_int)) (da_cons (de_bin op_pow od_pow (de_int) (de_int)) (da_cons (de_str) (da_cons (de_str) (da_cons (de_tup (da_nil)) (da_cons (de_tup (da_cons (de_int) (da_cons (de_int) (da_nil)))) (da_cons (de_lst (da_nil)) (da_cons (de_lst (da_cons (de_int) (da_nil))) (da_cons (de_dct0) (da_cons (de_dctS (dp_cons (de_str) (de_int) (dp_nil))) (da_nil)))))))))))))))))) (dss_one (ds_ret (de_call kx G__law_of (da_cons (de_var 0) (da_cons (de_var 1) (da_nil))))))
/-! def _law_fields -/
abbrev st__law_fields : Stmt := top 22
def s__law_fields : DStm :=
  sSeq (sAsg 1 (dBin gAdd (dLc (iVal (dSl (dVar 0) (oNone) (oSome (dK (.int 8))))) [2] (tgN 2) (cYes) (dFld oks "value" (dVar 2))) (dLst (aCons (dFld oks "part" (dBin gIx (dVar 0) (dK (.int 8)))) (aCons (dFld oks "place" (dBin gIx (dVar 0) (dK (.int 9)))) (aNil)))))) (sRet (dBin gAdd (dVar 1) (dLst (aCons (dFld oks "place" (dBin gIx (dVar 0) (dK (.int 10)))) (aCons (dFld oks "most" (dBin gIx (dVar 0) (dK (.int 11)))) (aCons (dFld oks "value" (dBin gIx (dVar 0) (dK (.int 12)))) (aNil)))))))
def f__law_fields : Fn := fnOf (["_law_errors_so", "_law_found", "_law_error"] : List Str).length s__law_fields
theorem sc__law_fields : FnScope ["_law_errors_so", "_law_found", "_law_error"] ["_law_errors_so"] (defScope st__law_fields) := ⟨rfl, rfl, rfl, by decide +kernel, rfl, by decide +kernel, by decide +kernel⟩
theorem g__law_fields (Z : Zs mg) (D_ : Df K mg "_law_fields" ["_law_errors_so"] st__law_fields) (EO : ∀ c ∈ oks, ErrO K mg c) :
    Glo P w K mg base 1 "_law_fields" 1 f__law_fields := D_.glo (k := 0) (s := s__law_fields) sc__law_fields rfl fun f cd R callers t H E kx =>
  dss_cons (ds_asg 1 kx (de_bin op_addA od_add (de_lc kx (own := [("_law_error", 2)]) (di_val (de_sl (de_var 0) (do_none) (do_some (de_int)))) (show BlkOk ["_law_errors_so", "_law_found", "_law_error"] (defScope st__law_fields) _ [("_law_error", 2)] from ⟨rfl, by decide +kernel, by decide +kernel, by decide +kernel, by decide +kernel⟩) (fun _ _ _ _ _ => dg_name 2 sc__law_fields.nd) (fun _ _ _ _ _ => dts_nil) (fun _ _ _ _ _ => de_fld EO (de_var 2))) (de_lst (da_cons (de_fld EO (de_ix (de_var 0) (de_int))) (da_cons (de_fld EO (de_ix (de_var 0) (de_int))) (da_nil)))))) (dss_one (ds_ret (de_bin op_addA od_add (de_var 1) (de_lst (da_cons (de_fld EO (de_ix (de_var 0) (de_int))) (da_cons (de_fld EO (de_ix (de_var 0) (de_int))) (da_cons (de_fld EO (de_ix (de_var 0) (de_int))) (da_nil))))))))
/-! def _law_kinds -/
abbrev st__law_kinds : Stmt := top 23
def s__law_kinds : DStm :=
  sSeq (sAsg 1 (dLst (aCons (dCb (gIsX oksX cls tysX fT yT) (aCons (dVar 0) (aCons (dK (.fn "BadCorner")) (aNil)))) (aCons (dCb (gIsX oksX cls tysX fT yT) (aCons (dVar 0) (aCons (dK (.fn "BadSigns")) (aNil)))) (aCons (dCb (gIsX oksX cls tysX fT yT) (aCons (dVar 0) (aCons (dK (.fn "BadStack")) (aNil)))) (aNil)))))) (sSeq (sAsg 1 (dBin gAdd (dVar 1) (dLst (aCons (dCb (gIsX oksX cls tysX fT yT) (aCons (dVar 0) (aCons (dK (.fn "BadNumber")) (aNil)))) (aCons (dCb (gIsX oksX cls tysX fT yT) (aCons (dVar 0) (aCons (dK (.fn "BadMask")) (aNil)))) (aCons (dCb (gIsX oksX cls tysX fT yT) (aCons (dVar 0) (aCons (dK (.fn "BadCreases")) (aNil)))) (aNil))))))) (sSeq (sAsg 1 (dBin gAdd (dVar 1) (dLst (aCons (dCb (gIsX oksX cls tysX fT yT) (aCons (dVar 0) (aCons (dK (.fn "BadWeights")) (aNil)))) (aCons (dCb (gIsX oksX cls tysX fT yT) (aCons (dVar 0) (aCons (dK (.fn "BadMove")) (aNil)))) (aCons (dCb (gIsX oksX cls tysX fT yT) (aCons (dVar 0) (aCons (dK (.fn "BadPaper")) (aNil)))) (aNil))))))) (sSeq (sAsg 1 (dBin gAdd (dVar 1) (dLst (aCons (dCb (gIsX oksX cls tysX fT yT) (aCons (dVar 0) (aCons (dK (.fn "BadText")) (aNil)))) (aCons (dCb (gIsX oksX cls tysX fT yT) (aCons (dVar 0) (aCons (dK (.fn "BadFacts")) (aNil)))) (aCons (dCb (gIsX oksX cls tysX fT yT) (aCons (dVar 0) (aCons (dK (.fn "TooGreat")) (aNil)))) (aNil))))))) (sRet (dBin gAdd (dVar 1) (dLst (aCons (dCb (gIsX oksX cls tysX fT yT) (aCons (dVar 0) (aCons (dK (.fn "Nothing")) (aNil)))) (aNil))))))))
def f__law_kinds : Fn := fnOf (["_law_error", "_law_found"] : List Str).length s__law_kinds
theorem sc__law_kinds : FnScope ["_law_error", "_law_found"] ["_law_error"] (defScope st__law_kinds) := ⟨rfl, rfl, rfl, by decide +kernel, rfl, by decide +kernel, by decide +kernel⟩
theorem g__law_kinds (Z : Zs mg) (D_ : Df K mg "_law_kinds" ["_law_error"] st__law_kinds) (IT : IsTab K mg oksX cls tysX fT yT) :
    Glo P w K mg base 1 "_law_kinds" 1 f__law_kinds := D_.glo (k := 0) (s := s__law_kinds) sc__law_kinds rfl fun f cd R callers t H E kx =>
  dss_cons (ds_asg 1 kx (de_lst (da_cons (de_cb cr_isW (cd_isW IT) Z.n_isinstance (da_cons (de_var 0) (da_cons (de_gfnE Z.k_BadCorner) (da_nil)))) (da_cons (de_cb cr_isW (cd_isW IT) Z.n_isinstance (da_cons (de_var 0) (da_cons (de_gfnE Z.k_BadSigns) (da_nil)))) (da_cons (de_cb cr_isW (cd_isW IT) Z.n_isinstance (da_cons (de_var 0) (da_cons (de_gfnE Z.k_BadStack) (da_nil)))) (da_nil)))))) (dss_cons (ds_asg 1 kx (de_bin op_addA od_add (de_var 1) (de_lst (da_cons (de_cb cr_isW (cd_isW IT) Z.n_isinstance (da_cons (de_var 0) (da_cons (de_gfnE Z.k_BadNumber) (da_nil)))) (da_cons (de_cb cr_isW (cd_isW IT) Z.n_isinstance (da_cons (de_var 0) (da_cons (de_gfnE Z.k_BadMask) (da_nil)))) (da_cons (de_cb cr_isW (cd_isW IT) Z.n_isinstance (da_cons (de_var 0) (da_cons (de_gfnE Z.k_BadCreases) (da_nil)))) (da_nil))))))) (dss_cons (ds_asg 1 kx (de_bin op_addA od_add (de_var 1) (de_lst (da_cons (de_cb cr_isW (cd_isW IT) Z.n_isinstance (da_cons (de_var 0) (da_cons (de_gfnE Z.k_BadWeights) (da_nil)))) (da_cons (de_cb cr_isW (cd_isW IT) Z.n_isinstance (da_cons (de_var 0) (da_cons (de_gfnE Z.k_BadMove) (da_nil)))) (da_cons (de_cb cr_isW (cd_isW IT) Z.n_isinstance (da_cons (de_var 0) (da_cons (de_gfnE Z.k_BadPaper) (da_nil)))) (da_nil))))))) (dss_cons (ds_asg 1 kx (de_bin op_addA od_add (de_var 1) (de_lst (da_cons (de_cb cr_isW (cd_isW IT) Z.n_isinstance (da_cons (de_var 0) (da_cons (de_gfnE Z.k_BadText) (da_nil)))) (da_cons (de_cb cr_isW (cd_isW IT) Z.n_isinstance (da_cons (de_var 0) (da_cons (de_gfnE Z.k_BadFacts) (da_nil)))) (da_cons (de_cb cr_isW (cd_isW IT) Z.n_isinstance (da_cons (de_var 0) (da_cons (de_gfnE Z.k_TooGreat) (da_nil)))) (da_nil))))))) (dss_one (ds_ret (de_bin op_addA od_add (de_var 1) (de_lst (da_cons (de_cb cr_isW (cd_isW IT) Z.n_isinstance (da_cons (de_var 0) (da_cons (de_gfnE Z.k_Nothing) (da_nil)))) (da_nil)))))))))
/-! def _law_elders -/
abbrev st__law_elders : Stmt := top 24
def s__law_elders : DStm :=
  sSeq (sAsg 1 (dLst (aCons (dCb (gIsX oksX cls tysX fT yT) (aCons (dVar 0) (aCons (dK (.fn "FoldError")) (aNil)))) (aCons (dCb (gIsX oksX cls tysX fT yT) (aCons (dVar 0) (aCons (dK (.ty "ValueError")) (aNil)))) (aCons (dCb (gIsX oksX cls tysX fT yT) (aCons (dVar 0) (aCons (dK (.ty "OverflowError")) (aNil)))) (aNil)))))) (sSeq (sAsg 1 (dBin gAdd (dVar 1) (dLst (aCons (dCb (gIsX oksX cls tysX fT yT) (aCons (dVar 0) (aCons (dK (.ty "LookupError")) (aNil)))) (aCons (dCb (gIsX oksX cls tysX fT yT) (aCons (dVar 0) (aCons (dTup (aCons (dK (.ty "KeyError")) (aCons (dK (.ty "IndexError")) (aCons (dK (.ty "TypeError")) (aCons (dK (.ty "RuntimeError")) (aNil)))))) (aNil)))) (aNil)))))) (sRet (dVar 1)))
def f__law_elders : Fn := fnOf (["_law_error", "_law_found"] : List Str).length s__law_elders
theorem sc__law_elders : FnScope ["_law_error", "_law_found"] ["_law_error"] (defScope st__law_elders) := ⟨rfl, rfl, rfl, by decide +kernel, rfl, by decide +kernel, by decide +kernel⟩
theorem g__law_elders (Z : Zs mg) (D_ : Df K mg "_law_elders" ["_law_error"] st__law_elders) (IT : IsTab K mg oksX cls tysX fT yT) :
    Glo P w K mg base 1 "_law_elders" 1 f__law_elders := D_.glo (k := 0) (s := s__law_elders) sc__law_elders rfl fun f cd R callers t H E kx =>
  dss_cons (ds_asg 1 kx (de_lst (da_cons (de_cb cr_isW (cd_isW IT) Z.n_isinstance (da_cons (de_var 0) (da_cons (de_gfnE Z.k_FoldError) (da_nil)))) (da_cons (de_cb cr_isW (cd_isW IT) Z.n_isinstance (da_cons (de_var 0) (da_cons (de_ty Z.n_ValueError) (da_nil)))) (da_cons (de_cb cr_isW (cd_isW IT) Z.n_isinstance (da_cons (de_var 0) (da_cons (de_ty Z.n_OverflowError) (da_nil)))) (da_nil)))))) (dss_cons (ds_asg 1 kx (de_bin op_addA od_add (de_var 1) (de_lst (da_cons (de_cb cr_isW (cd_isW IT) Z.n_isinstance (da_cons (de_var 0) (da_cons (de_ty Z.n_LookupError) (da_nil)))) (da_cons (de_cb cr_isW (cd_isW IT) Z.n_isinstance (da_cons (de_var 0) (da_cons (de_tup (da_cons (de_ty Z.n_KeyError) (da_cons (de_ty Z.n_IndexError) (da_cons (de_ty Z.n_TypeError) (da_cons (de_ty Z.n_RuntimeError) (da_nil)))))) (da_nil)))) (da_nil)))))) (dss_one (ds_ret (de_var 1))))
/-! def _law_right -/
abbrev st__law_right : Stmt := top 25
def s__law_right : DStm :=
  sSeq (sIf (dTst (dBin (gEq true) (dCb gReprN (aCons (dCall 1 f__law_fields (aCons (dVar 0) (aNil))) (aNil))) (dCb gReprN (aCons (dBin gMul (dLst (aCons (dVar 1) (aNil))) (dK (.int 13))) (aNil))))) (sRet (dK (.bl false))) (sSkip)) (sSeq (sFor (iEn (aCons (dVar 0) (aNil))) (tgT 2 (tgsCons (tgN 2) (tgsCons (tgN 3) (tgsNil)))) (sSeq (sIf (dTst (dBin (gEq true) (dCall 1 f__law_kinds (aCons (dVar 3) (aNil))) (dLc (iRange1 (aCons (dK (.int 13)) (aNil))) [4] (tgN 4) (cYes) (dBin (gEq false) (dVar 4) (dVar 2))))) (sRet (dK (.bl false))) (sSkip)) (sIf (dTst (dBin (gEq true) (dCall 1 f__law_elders (aCons (dVar 3) (aNil))) (dLst (aCons (dBin gLt (dVar 2) (dK (.int 11))) (aCons (dBin gLt (dVar 2) (dK (.int 11))) (aCons (dBin (gEq false) (dVar 2) (dK (.int 11))) (aCons (dBin (gEq false) (dVar 2) (dK (.int 12))) (aCons (dK (.bl false)) (aNil))))))))) (sRet (dK (.bl false))) (sSkip)))) (sRet (dK (.bl true))))
def f__law_right : Fn := fnOf (["_law_errors_so", "_law_one", "_law_at", "_law_error", "_law_k"] : List Str).length s__law_right
theorem sc__law_right : FnScope ["_law_errors_so", "_law_one", "_law_at", "_law_error", "_law_k"] ["_law_errors_so", "_law_one"] (defScope st__law_right) := ⟨rfl, rfl, rfl, by decide +kernel, rfl, by decide +kernel, by decide +kernel⟩
theorem g__law_right (Z : Zs mg) (D_ : Df K mg "_law_right" ["_law_errors_so", "_law_one"] st__law_right) (G__law_elders : Glo P w K mg base 1 "_law_elders" 1 f__law_elders) (G__law_fields : Glo P w K mg base 1 "_law_fields" 1 f__law_fields) (G__law_kinds : Glo P w K mg base 1 "_law_kinds" 1 f__law_kinds) :
    Glo P w K mg base 2 "_law_right" 2 f__law_right := D_.glo (k := 1) (s := s__law_right) sc__law_right rfl fun f cd R callers t H E kx =>
  dss_cons (ds_if (dt_cmp (op_neA (units_64 kx)) od_ne (de_reprN Z.sys kx.rm.gd (units_ok kx) Z.n_repr (da_cons (de_call kx G__law_fields (da_cons (de_var 0) (da_nil))) (da_nil))) (de_reprN Z.sys kx.rm.gd (units_ok kx) Z.n_repr (da_cons (de_bin op_mulA od_mul (de_lst (da_cons (de_var 1) (da_nil))) (de_int)) (da_nil)))) (dss_one (ds_ret (de_bl))) (dss_nil)) (dss_cons (ds_for kx (di_en Z.n_enumerate (da_cons (de_var 0) (da_nil))) (dg_tupK (Kf := K) rfl rfl (dgs_cons (dg_name 2 sc__law_right.nd) (dgs_cons (dg_name 3 sc__law_right.nd) (dgs_nil)))) (dss_cons (ds_if (dt_cmp (op_neA (units_64 kx)) od_ne (de_call kx G__law_kinds (da_cons (de_var 3) (da_nil))) (de_lc kx (own := [("_law_k", 4)]) (di_range1 Z.n_range (da_cons (de_int) (da_nil))) (show BlkOk ["_law_errors_so", "_law_one", "_law_at", "_law_error", "_law_k"] (defScope st__law_right) _ [("_law_k", 4)] from ⟨rfl, by decide +kernel, by decide +kernel, by decide +kernel, by decide +kernel⟩) (fun _ _ _ _ _ => dg_name 4 sc__law_right.nd) (fun _ _ _ _ _ => dts_nil) (fun _ _ _ _ _ => de_cmp (op_eqA (units_64 kx.blk)) od_eq (de_var 4) (de_var 2)))) (dss_one (ds_ret (de_bl))) (dss_nil)) (dss_one (ds_if (dt_cmp (op_neA (units_64 kx)) od_ne (de_call kx G__law_elders (da_cons (de_var 3) (da_nil))) (de_lst (da_cons (de_cmp op_lt od_lt (de_var 2) (de_int)) (da_cons (de_cmp op_lt od_lt (de_var 2) (de_int)) (da_cons (de_cmp (op_eqA (units_64 kx)) od_eq (de_var 2) (de_int)) (da_cons (de_cmp (op_eqA (units_64 kx)) od_eq (de_var 2) (de_int)) (da_cons (de_bl) (da_nil)))))))) (dss_one (ds_ret (de_bl))) (dss_nil))))) (dss_one (ds_ret (de_bl))))
/-! def _law_made -/
abbrev st__law_made : Stmt := top 20
def s__law_made : DStm :=
  sSeq (sAsg 1 (dLst (aCons (dMkE "BadCorner" (dVar 0)) (aCons (dMkE "BadSigns" (dVar 0)) (aCons (dMkE "BadStack" (dVar 0)) (aCons (dMkE "BadNumber" (dVar 0)) (aCons (dMkE "BadMask" (dVar 0)) (aCons (dMkE "BadCreases" (dVar 0)) (aNil))))))))) (sSeq (sAsg 1 (dBin gAdd (dVar 1) (dLst (aCons (dMkE "BadWeights" (dVar 0)) (aCons (dMkE "BadMove" (dVar 0)) (aCons (dMkE "BadPaper" (dVar 0)) (aCons (dMkE "BadText" (dVar 0)) (aCons (dMkE "BadFacts" (dVar 0)) (aNil))))))))) (sRet (dBin gAdd (dVar 1) (dLst (aCons (dMkE "TooGreat" (dVar 0)) (aCons (dMkE "Nothing" (dVar 0)) (aNil)))))))
def f__law_made : Fn := fnOf (["_law_one", "_law_found"] : List Str).length s__law_made
theorem sc__law_made : FnScope ["_law_one", "_law_found"] ["_law_one"] (defScope st__law_made) := ⟨rfl, rfl, rfl, by decide +kernel, rfl, by decide +kernel, by decide +kernel⟩
theorem g__law_made (Z : Zs mg) (D_ : Df K mg "_law_made" ["_law_one"] st__law_made) (V_BadCorner : ErrV P w K mg base "BadCorner") (V_BadCreases : ErrV P w K mg base "BadCreases") (V_BadFacts : ErrV P w K mg base "BadFacts") (V_BadMask : ErrV P w K mg base "BadMask") (V_BadMove : ErrV P w K mg base "BadMove") (V_BadNumber : ErrV P w K mg base "BadNumber") (V_BadPaper : ErrV P w K mg base "BadPaper") (V_BadSigns : ErrV P w K mg base "BadSigns") (V_BadStack : ErrV P w K mg base "BadStack") (V_BadText : ErrV P w K mg base "BadText") (V_BadWeights : ErrV P w K mg base "BadWeights") (V_Nothing : ErrV P w K mg base "Nothing") (V_TooGreat : ErrV P w K mg base "TooGreat") :
    Glo P w K mg base 3 "_law_made" 1 f__law_made := D_.glo (k := 2) (s := s__law_made) sc__law_made rfl fun f cd R callers t H E kx =>
  dss_cons (ds_asg 1 kx (de_lst (da_cons (de_mkE kx (by decide) V_BadCorner (de_var 0)) (da_cons (de_mkE kx (by decide) V_BadSigns (de_var 0)) (da_cons (de_mkE kx (by decide) V_BadStack (de_var 0)) (da_cons (de_mkE kx (by decide) V_BadNumber (de_var 0)) (da_cons (de_mkE kx (by decide) V_BadMask (de_var 0)) (da_cons (de_mkE kx (by decide) V_BadCreases (de_var 0)) (da_nil))))))))) (dss_cons (ds_asg 1 kx (de_bin op_addA od_add (de_var 1) (de_lst (da_cons (de_mkE kx (by decide) V_BadWeights (de_var 0)) (da_cons (de_mkE kx (by decide) V_BadMove (de_var 0)) (da_cons (de_mkE kx (by decide) V_BadPaper (de_var 0)) (da_cons (de_mkE kx (by decide) V_BadText (de_var 0)) (da_cons (de_mkE kx (by decide) V_BadFacts (de_var 0)) (da_nil))))))))) (dss_one (ds_ret (de_bin op_addA od_add (de_var 1) (de_lst (da_cons (de_mkE kx (by decide) V_TooGreat (de_var 0)) (da_cons (de_mkE kx (by decide) V_Nothing (de_var 0)) (da_nil))))))))
/-! def _law_named -/
abbrev st__law_named : Stmt := top 21
def s__law_named : DStm :=
  sSeq (sAsg 1 (dLst (aCons (dMkE "BadCorner" (dVar 0)) (aCons (dMkE "BadSigns" (dVar 0)) (aCons (dMkE "BadStack" (dVar 0)) (aCons (dMkE "BadNumber" (dVar 0)) (aCons (dMkE "BadMask" (dVar 0)) (aNil)))))))) (sSeq (sAsg 1 (dBin gAdd (dVar 1) (dLst (aCons (dMkE "BadCreases" (dVar 0)) (aCons (dMkE "BadWeights" (dVar 0)) (aCons (dMkE "BadMove" (dVar 0)) (aCons (dMkE "BadPaper" (dVar 0)) (aNil)))))))) (sRet (dBin gAdd (dVar 1) (dLst (aCons (dMkE "BadText" (dVar 0)) (aCons (dMkE "BadFacts" (dVar 0)) (aCons (dMkE "TooGreat" (dVar 0)) (aCons (dMkE "Nothing" (dVar 0)) (aNil)))))))))
def f__law_named : Fn := fnOf (["_law_one", "_law_found"] : List Str).length s__law_named
theorem sc__law_named : FnScope ["_law_one", "_law_found"] ["_law_one"] (defScope st__law_named) := ⟨rfl, rfl, rfl, by decide +kernel, rfl, by decide +kernel, by decide +kernel⟩
theorem g__law_named (Z : Zs mg) (D_ : Df K mg "_law_named" ["_law_one"] st__law_named) (V_BadCorner : ErrV P w K mg base "BadCorner") (V_BadCreases : ErrV P w K mg base "BadCreases") (V_BadFacts : ErrV P w K mg base "BadFacts") (V_BadMask : ErrV P w K mg base "BadMask") (V_BadMove : ErrV P w K mg base "BadMove") (V_BadNumber : ErrV P w K mg base "BadNumber") (V_BadPaper : ErrV P w K mg base "BadPaper") (V_BadSigns : ErrV P w K mg base "BadSigns") (V_BadStack : ErrV P w K mg base "BadStack") (V_BadText : ErrV P w K mg base "BadText") (V_BadWeights : ErrV P w K mg base "BadWeights") (V_Nothing : ErrV P w K mg base "Nothing") (V_TooGreat : ErrV P w K mg base "TooGreat") :
    Glo P w K mg base 3 "_law_named" 1 f__law_named := D_.glo (k := 2) (s := s__law_named) sc__law_named rfl fun f cd R callers t H E kx =>
  dss_cons (ds_asg 1 kx (de_lst (da_cons (de_mkK kx (by decide) V_BadCorner (de_var 0)) (da_cons (de_mkK kx (by decide) V_BadSigns (de_var 0)) (da_cons (de_mkK kx (by decide) V_BadStack (de_var 0)) (da_cons (de_mkK kx (by decide) V_BadNumber (de_var 0)) (da_cons (de_mkK kx (by decide) V_BadMask (de_var 0)) (da_nil)))))))) (dss_cons (ds_asg 1 kx (de_bin op_addA od_add (de_var 1) (de_lst (da_cons (de_mkK kx (by decide) V_BadCreases (de_var 0)) (da_cons (de_mkK kx (by decide) V_BadWeights (de_var 0)) (da_cons (de_mkK kx (by decide) V_BadMove (de_var 0)) (da_cons (de_mkK kx (by decide) V_BadPaper (de_var 0)) (da_nil)))))))) (dss_one (ds_ret (de_bin op_addA od_add (de_var 1) (de_lst (da_cons (de_mkK kx (by decide) V_BadText (de_var 0)) (da_cons (de_mkK kx (by decide) V_BadFacts (de_var 0)) (da_cons (de_mkK kx (by decide) V_TooGreat (de_var 0)) (da_cons (de_mkK kx (by decide) V_Nothing (de_var 0)) (da_nil))))))))))
/-! def law -/
abbrev st_law : Stmt := top 26
def s_law : DStm :=
  sSeq (sAsg 1 (dCall 1 gBegun (aCons (dVar 0) (aNil)))) (sSeq (sFor (iRange1 (aCons (dBin gAdd (dK (.int 3)) (dCb gMin2 (aCons (dCb gLen (aCons (dVar 0) (aNil))) (aCons (dK (.int 6)) (aNil))))) (aNil))) (tgN 2) (sSeq (sAsg 4 (dCall 1 f__law_odd (aCons (dVar 1) (aNil)))) (sSeq (sAsg 5 (dCb gReprN (aCons (dVar 4) (aNil)))) (sIf (dOr (dNot (dTst (dCall 2 f__law_right (aCons (dCall 1 f__law_made (aCons (dVar 4) (aNil))) (aCons (dVar 4) (aNil)))))) (dOr (dNot (dTst (dCall 2 f__law_right (aCons (dCall 1 f__law_named (aCons (dVar 4) (aNil))) (aCons (dVar 4) (aNil)))))) (dTst (dBin (gEq true) (dCb gReprN (aCons (dVar 4) (aNil))) (dVar 5))))) (sRet (dK (.bl false))) (sSkip))))) (sSeq (sAsg 3 (dMkB (dK (.str "no corner")))) (sSeq (sIf (dOr (dTst (dBin (gEq true) (dCall 1 f__law_kinds (aCons (dVar 3) (aNil))) (dBin gMul (dLst (aCons (dK (.bl false)) (aNil))) (dK (.int 13))))) (dTst (dBin (gEq true) (dCall 1 f__law_elders (aCons (dVar 3) (aNil))) (dLst (aCons (dK (.bl true)) (aCons (dK (.bl true)) (aCons (dK (.bl false)) (aCons (dK (.bl false)) (aCons (dK (.bl false)) (aNil)))))))))) (sRet (dK (.bl false))) (sSkip)) (sRet (dAndV (dBin (gEq false) (dCb gStrB (aCons (dVar 3) (aNil))) (dK (.str "no corner"))) (dCall 2 f__law_right (aCons (dCall 1 f__law_made (aCons (dTup (aCons (dK (.int 1)) (aCons (dLst (aCons (dK (.int 2)) (aNil))) (aNil)))) (aNil))) (aCons (dTup (aCons (dK (.int 1)) (aCons (dLst (aCons (dK (.int 2)) (aNil))) (aNil)))) (aNil)))))))))
def f_law : Fn := fnOf (["_law_script", "_law_m", "_law_lap", "_law_bare", "_law_one", "_law_kept"] : List Str).length s_law
theorem sc_law : FnScope ["_law_script", "_law_m", "_law_lap", "_law_bare", "_law_one", "_law_kept"] ["_law_script"] (defScope st_law) := ⟨rfl, rfl, rfl, by decide +kernel, rfl, by decide +kernel, by decide +kernel⟩
theorem w_law {f : Addr} {fd : FuncData} (Z : Zs mg) (F_ : Fun K "law" "law" st_law f fd) (G__law_begun : Glo P w K mg base 1 "_law_begun" 1 gBegun) (G__law_elders : Glo P w K mg base 1 "_law_elders" 1 f__law_elders) (G__law_kinds : Glo P w K mg base 1 "_law_kinds" 1 f__law_kinds) (G__law_made : Glo P w K mg base 3 "_law_made" 1 f__law_made) (G__law_named : Glo P w K mg base 3 "_law_named" 1 f__law_named) (G__law_odd : Glo P w K mg base 3 "_law_odd" 1 f__law_odd) (G__law_right : Glo P w K mg base 2 "_law_right" 2 f__law_right) (RB : BareE K mg) :
    FnG P w K mg base 4 f fd ["_law_script"] (spD K mg 1 f_law) := w_of (N := ["_law_script", "_law_m", "_law_lap", "_law_bare", "_law_one", "_law_kept"]) (k := 3) (s := s_law) F_ sc_law fun f cd R callers t H E kx =>
  dss_cons (ds_asg 1 kx (de_call kx G__law_begun (da_cons (de_var 0) (da_nil)))) (dss_cons (ds_for kx (di_range1 Z.n_range (da_cons (de_bin op_addA od_add (de_int) (de_cb (call_min2 rfl) cd_min2 Z.n_min (da_cons (de_cb cb_len cd_len Z.n_len (da_cons (de_var 0) (da_nil))) (da_cons (de_int) (da_nil))))) (da_nil))) (dg_name 2 sc_law.nd) (dss_cons (ds_asg 4 kx (de_call kx G__law_odd (da_cons (de_var 1) (da_nil)))) (dss_cons (ds_asg 5 kx (de_reprN Z.sys kx.rm.gd (units_ok kx) Z.n_repr (da_cons (de_var 4) (da_nil)))) (dss_one (ds_if (dt_w (dw_or (dt_not (dt_val (de_call kx G__law_right (da_cons (de_call kx G__law_made (da_cons (de_var 4) (da_nil))) (da_cons (de_var 4) (da_nil)))))) (dw_or (dt_not (dt_val (de_call kx G__law_right (da_cons (de_call kx G__law_named (da_cons (de_var 4) (da_nil))) (da_cons (de_var 4) (da_nil)))))) (dw_or1 (dt_cmp (op_neA (units_64 kx)) od_ne (de_reprN Z.sys kx.rm.gd (units_ok kx) Z.n_repr (da_cons (de_var 4) (da_nil))) (de_var 5)))))) (dss_one (ds_ret (de_bl))) (dss_nil)))))) (dss_cons (ds_asg 3 kx (de_mkB RB (de_str))) (dss_cons (ds_if (dt_w (dw_or (dt_cmp (op_neA (units_64 kx)) od_ne (de_call kx G__law_kinds (da_cons (de_var 3) (da_nil))) (de_bin op_mulA od_mul (de_lst (da_cons (de_bl) (da_nil))) (de_int))) (dw_or1 (dt_cmp (op_neA (units_64 kx)) od_ne (de_call kx G__law_elders (da_cons (de_var 3) (da_nil))) (de_lst (da_cons (de_bl) (da_cons (de_bl) (da_cons (de_bl) (da_cons (de_bl) (da_cons (de_bl) (da_nil))))))))))) (dss_one (ds_ret (de_bl))) (dss_nil)) (dss_one (ds_ret (de_and (de_cmp (op_eqA (units_64 kx)) od_eq (de_ct (cr_strB (Nat.lt_of_le_of_lt (Nat.add_le_add_left (by decide) _) (units_64 kx))) (cd_strB RB) Z.n_str (da_cons (de_var 3) (da_nil))) (de_str)) (de_one (de_call kx G__law_right (da_cons (de_call kx G__law_made (da_cons (de_tup (da_cons (de_int) (da_cons (de_lst (da_cons (de_int) (da_nil))) (da_nil)))) (da_nil))) (da_cons (de_tup (da_cons (de_int) (da_cons (de_lst (da_cons (de_int) (da_nil))) (da_nil)))) (da_nil)))))))))))
end
end Wk01

end
section
-- NO3
set_option Elab.async false
set_option linter.all false
set_option maxRecDepth 100000
set_option maxHeartbeats 800000
/-! P01a: errors made; their fields, kinds, elders. -/
namespace Wk01
open PySem PySem.Spec PyProof.Rows L2 DL PKG
variable [Tb]
def errs (o : D) : List D := oks.map fun c => .exc c o
theorem z_made (o : D) : f__law_made [o] = ret (.lst (errs o)) := by
  show fnOf _ s__law_made _ = _
  rw [x_fn]
  change bnd (s__law_made [.val o, .emp]) _ = _
  unfold s__law_made
  simp (maxSteps := 1000000) (disch := (first | exact trivial | assumption | (refine zz3 ?_; first | assumption | decide | ((try simp only [List.length_append, List.length_map, List.length_cons, List.length_nil, List.length_zip, List.length_drop, List.length_take, List.length_range, List.length_zipIdx, sg_len, rot_len]); omega)) | (refine zz4 ?_; first | assumption | decide | ((try simp only [List.length_append, List.length_map, List.length_cons, List.length_nil, List.length_zip, List.length_drop, List.length_take, List.length_range, List.length_zipIdx, sg_len, rot_len]); omega)) | decide)) only [x_seq, x_asg, x_cb, x_acons, x_anil, x_if, x_tst, x_bin, x_un, x_var, x_k, x_lst, x_tup, x_ret, x_skip, x_sl, x_osome, x_onone, x_astar, x_seqD_t, x_seqD_l, bnd_ret, bnd_bnd, List.getElem?_cons_succ, List.getElem?_cons_zero, List.set_cons_succ, List.set_cons_zero, Bool.false_eq_true, if_true, if_false, x_own, x_flst, x_for, x_ir1, x_ir2, x_lc, x_ival, x_items_l, x_items_t, x_app, x_peek, x_peekL, x_tpeek, x_frz, x_call, x_pars, x_mval, x_mown, x_mnil, x_sets0, x_sets1, x_unp, tg_two, x_and, x_or, x_not, x_andv, x_orv, x_notv, x_ife, x_drop, x_yes, x_wipe0, x_wipe1, x_lrg, x_ien, x_iz, List.map_cons, List.map_nil, List.cons_append, List.nil_append, List.length_cons, List.length_nil, List.replicate, noex_ret, noexS_ret, need_of, x_mkE, g_add_l]
  rfl
theorem z_named (o : D) : f__law_named [o] = ret (.lst (errs o)) := by
  show fnOf _ s__law_named _ = _
  rw [x_fn]
  change bnd (s__law_named [.val o, .emp]) _ = _
  unfold s__law_named
  simp (maxSteps := 1000000) (disch := (first | exact trivial | assumption | (refine zz3 ?_; first | assumption | decide | ((try simp only [List.length_append, List.length_map, List.length_cons, List.length_nil, List.length_zip, List.length_drop, List.length_take, List.length_range, List.length_zipIdx, sg_len, rot_len]); omega)) | (refine zz4 ?_; first | assumption | decide | ((try simp only [List.length_append, List.length_map, List.length_cons, List.length_nil, List.length_zip, List.length_drop, List.length_take, List.length_range, List.length_zipIdx, sg_len, rot_len]); omega)) | decide)) only [x_seq, x_asg, x_cb, x_acons, x_anil, x_if, x_tst, x_bin, x_un, x_var, x_k, x_lst, x_tup, x_ret, x_skip, x_sl, x_osome, x_onone, x_astar, x_seqD_t, x_seqD_l, bnd_ret, bnd_bnd, List.getElem?_cons_succ, List.getElem?_cons_zero, List.set_cons_succ, List.set_cons_zero, Bool.false_eq_true, if_true, if_false, x_own, x_flst, x_for, x_ir1, x_ir2, x_lc, x_ival, x_items_l, x_items_t, x_app, x_peek, x_peekL, x_tpeek, x_frz, x_call, x_pars, x_mval, x_mown, x_mnil, x_sets0, x_sets1, x_unp, tg_two, x_and, x_or, x_not, x_andv, x_orv, x_notv, x_ife, x_drop, x_yes, x_wipe0, x_wipe1, x_lrg, x_ien, x_iz, List.map_cons, List.map_nil, List.cons_append, List.nil_append, List.length_cons, List.length_nil, List.replicate, noex_ret, noexS_ret, need_of, x_mkE, g_add_l]
  rfl
theorem fld8 : ∀ c ∈ oks.take 8, c ∈ oks ∧ fieldOf c = "value" := by decide +kernel
theorem fldP : ("BadPaper" : Str) ∈ oks ∧ fieldOf "BadPaper" = ("part" : Str) := by decide +kernel
theorem fldT : ("BadText" : Str) ∈ oks ∧ fieldOf "BadText" = ("place" : Str) := by decide +kernel
theorem fldF : ("BadFacts" : Str) ∈ oks ∧ fieldOf "BadFacts" = ("place" : Str) := by decide +kernel
theorem fldG : ("TooGreat" : Str) ∈ oks ∧ fieldOf "TooGreat" = ("most" : Str) := by decide +kernel
theorem fldN : ("Nothing" : Str) ∈ oks ∧ fieldOf "Nothing" = ("value" : Str) := by decide +kernel
theorem z_fields (o : D) : f__law_fields [.lst (errs o)] = ret (.lst (List.replicate 13 o)) := by
  have c8 : DL.cutD (errs o) none (some 8) = (oks.take 8).map fun c => .exc c o := by
    rw [show (some (8 : Int)) = some ((8 : Nat) : Int) from rfl, cutD_take]
    unfold errs
    rw [List.map_take]
  have i8 : gIx (.lst (errs o)) (.int 8) = ret (.exc "BadPaper" o) := rfl
  have i9 : gIx (.lst (errs o)) (.int 9) = ret (.exc "BadText" o) := rfl
  have i10 : gIx (.lst (errs o)) (.int 10) = ret (.exc "BadFacts" o) := rfl
  have i11 : gIx (.lst (errs o)) (.int 11) = ret (.exc "TooGreat" o) := rfl
  have i12 : gIx (.lst (errs o)) (.int 12) = ret (.exc "Nothing" o) := rfl
  have sl : gSl (.lst (errs o)) none (some 8) = ret (.lst ((oks.take 8).map fun c => .exc c o)) := by
    show ret (D.lst (DL.cutD (errs o) none (some 8))) = _
    rw [c8]
  have k1 : ∀ a : D, lcD [2] (tgN 2) cYes (dFld oks "value" (dVar 2)) [.val a, .emp, .emp] ((oks.take 8).map fun c => .exc c o) = ret ((oks.take 8).map fun _ => o) := fun a =>
    lcD_mapY (fun c => .exc c o) (fun c => [.val a, .emp, .val (.exc c o)]) (fun _ => o) fun c hc => ⟨rfl, by
      rw [x_dfld]
      simp only [x_var, List.getElem?_cons_succ, List.getElem?_cons_zero, bnd_ret]
      rw [need_of (fld8 c hc)]⟩
  have z8 : ((oks.take 8).map fun c => D.exc c o).length ≤ sizeLine := szl (by rw [List.length_map]; decide)
  show fnOf _ s__law_fields _ = _
  rw [x_fn]
  change bnd (s__law_fields [.val (.lst (errs o)), .emp, .emp]) _ = _
  unfold s__law_fields
  simp (maxSteps := 1000000) (disch := (first | exact trivial | assumption | (refine zz3 ?_; first | assumption | decide | ((try simp only [List.length_append, List.length_map, List.length_cons, List.length_nil, List.length_zip, List.length_drop, List.length_take, List.length_range, List.length_zipIdx, sg_len, rot_len]); omega)) | (refine zz4 ?_; first | assumption | decide | ((try simp only [List.length_append, List.length_map, List.length_cons, List.length_nil, List.length_zip, List.length_drop, List.length_take, List.length_range, List.length_zipIdx, sg_len, rot_len]); omega)) | decide)) only [x_seq, x_asg, x_cb, x_acons, x_anil, x_if, x_tst, x_bin, x_un, x_var, x_k, x_lst, x_tup, x_ret, x_skip, x_sl, x_osome, x_onone, x_astar, x_seqD_t, x_seqD_l, bnd_ret, bnd_bnd, List.getElem?_cons_succ, List.getElem?_cons_zero, List.set_cons_succ, List.set_cons_zero, Bool.false_eq_true, if_true, if_false, x_own, x_flst, x_for, x_ir1, x_ir2, x_lc, x_ival, x_items_l, x_items_t, x_app, x_peek, x_peekL, x_tpeek, x_frz, x_call, x_pars, x_mval, x_mown, x_mnil, x_sets0, x_sets1, x_unp, tg_two, x_and, x_or, x_not, x_andv, x_orv, x_notv, x_ife, x_drop, x_yes, x_wipe0, x_wipe1, x_lrg, x_ien, x_iz, List.map_cons, List.map_nil, List.cons_append, List.nil_append, List.length_cons, List.length_nil, List.replicate, noex_ret, noexS_ret, need_of, sl, x_ival, x_items_l, need_of z8, k1, i8, i9, i10, i11, i12, x_dfld, need_of fldP, need_of fldT, need_of fldF, need_of fldG, need_of fldN, g_add_l]
  rfl
theorem isF {c d : Str} {o : D} (hc : c ∈ oksX) (hd : d ∈ cls) : gIsX oksX cls tysX fT yT [.exc c o, .fn d] = ret (.bl (fT c d)) := need_of ⟨hc, hd⟩ _
theorem isY {c : Str} {t : String} {o : D} (hc : c ∈ oksX) (hd : t ∈ tysX) : gIsX oksX cls tysX fT yT [.exc c o, .ty t] = ret (.bl (yT c t)) := need_of ⟨hc, hd⟩ _
theorem isT {c : Str} {o : D} (hc : c ∈ oksX) : gIsX oksX cls tysX fT yT [.exc c o, .tup [.ty "KeyError", .ty "IndexError", .ty "TypeError", .ty "RuntimeError"]] = ret (.bl ((["KeyError", "IndexError", "TypeError", "RuntimeError"] : List String).any (yT c))) := need_of ⟨hc, by decide⟩ _
theorem z_kinds {c : Str} {o : D} (hc : c ∈ oksX) : f__law_kinds [.exc c o] = ret (.lst (oks.map fun d => .bl (fT c d))) := by
  have q : ∀ d ∈ cls, gIsX oksX cls tysX fT yT [.exc c o, .fn d] = ret (.bl (fT c d)) := fun d hd => isF hc hd
  show fnOf _ s__law_kinds _ = _
  rw [x_fn]
  change bnd (s__law_kinds [.val (.exc c o), .emp]) _ = _
  unfold s__law_kinds
  simp (maxSteps := 1000000) (disch := (first | exact trivial | assumption | (refine zz3 ?_; first | assumption | decide | ((try simp only [List.length_append, List.length_map, List.length_cons, List.length_nil, List.length_zip, List.length_drop, List.length_take, List.length_range, List.length_zipIdx, sg_len, rot_len]); omega)) | (refine zz4 ?_; first | assumption | decide | ((try simp only [List.length_append, List.length_map, List.length_cons, List.length_nil, List.length_zip, List.length_drop, List.length_take, List.length_range, List.length_zipIdx, sg_len, rot_len]); omega)) | decide)) only [x_seq, x_asg, x_cb, x_acons, x_anil, x_if, x_tst, x_bin, x_un, x_var, x_k, x_lst, x_tup, x_ret, x_skip, x_sl, x_osome, x_onone, x_astar, x_seqD_t, x_seqD_l, bnd_ret, bnd_bnd, List.getElem?_cons_succ, List.getElem?_cons_zero, List.set_cons_succ, List.set_cons_zero, Bool.false_eq_true, if_true, if_false, x_own, x_flst, x_for, x_ir1, x_ir2, x_lc, x_ival, x_items_l, x_items_t, x_app, x_peek, x_peekL, x_tpeek, x_frz, x_call, x_pars, x_mval, x_mown, x_mnil, x_sets0, x_sets1, x_unp, tg_two, x_and, x_or, x_not, x_andv, x_orv, x_notv, x_ife, x_drop, x_yes, x_wipe0, x_wipe1, x_lrg, x_ien, x_iz, List.map_cons, List.map_nil, List.cons_append, List.nil_append, List.length_cons, List.length_nil, List.replicate, noex_ret, noexS_ret, need_of, q "BadCorner" (by decide), q "BadSigns" (by decide), q "BadStack" (by decide), q "BadNumber" (by decide), q "BadMask" (by decide), q "BadCreases" (by decide), q "BadWeights" (by decide), q "BadMove" (by decide), q "BadPaper" (by decide), q "BadText" (by decide), q "BadFacts" (by decide), q "TooGreat" (by decide), q "Nothing" (by decide), g_add_l]
  rfl
def elB (c : Str) : List Bool := [fT c "FoldError", yT c "ValueError", yT c "OverflowError", yT c "LookupError", (["KeyError", "IndexError", "TypeError", "RuntimeError"] : List String).any (yT c)]
theorem z_elders {c : Str} {o : D} (hc : c ∈ oksX) : f__law_elders [.exc c o] = ret (.lst ((elB c).map .bl)) := by
  have q1 := isF (o := o) hc (show ("FoldError" : Str) ∈ cls by decide)
  have q2 := isY (o := o) hc (show "ValueError" ∈ tysX by decide)
  have q3 := isY (o := o) hc (show "OverflowError" ∈ tysX by decide)
  have q4 := isY (o := o) hc (show "LookupError" ∈ tysX by decide)
  have q5 := isT (o := o) hc
  show fnOf _ s__law_elders _ = _
  rw [x_fn]
  change bnd (s__law_elders [.val (.exc c o), .emp]) _ = _
  unfold s__law_elders
  simp (maxSteps := 1000000) (disch := (first | exact trivial | assumption | (refine zz3 ?_; first | assumption | decide | ((try simp only [List.length_append, List.length_map, List.length_cons, List.length_nil, List.length_zip, List.length_drop, List.length_take, List.length_range, List.length_zipIdx, sg_len, rot_len]); omega)) | (refine zz4 ?_; first | assumption | decide | ((try simp only [List.length_append, List.length_map, List.length_cons, List.length_nil, List.length_zip, List.length_drop, List.length_take, List.length_range, List.length_zipIdx, sg_len, rot_len]); omega)) | decide)) only [x_seq, x_asg, x_cb, x_acons, x_anil, x_if, x_tst, x_bin, x_un, x_var, x_k, x_lst, x_tup, x_ret, x_skip, x_sl, x_osome, x_onone, x_astar, x_seqD_t, x_seqD_l, bnd_ret, bnd_bnd, List.getElem?_cons_succ, List.getElem?_cons_zero, List.set_cons_succ, List.set_cons_zero, Bool.false_eq_true, if_true, if_false, x_own, x_flst, x_for, x_ir1, x_ir2, x_lc, x_ival, x_items_l, x_items_t, x_app, x_peek, x_peekL, x_tpeek, x_frz, x_call, x_pars, x_mval, x_mown, x_mnil, x_sets0, x_sets1, x_unp, tg_two, x_and, x_or, x_not, x_andv, x_orv, x_notv, x_ife, x_drop, x_yes, x_wipe0, x_wipe1, x_lrg, x_ien, x_iz, List.map_cons, List.map_nil, List.cons_append, List.nil_append, List.length_cons, List.length_nil, List.replicate, noex_ret, noexS_ret, need_of, q1, q2, q3, q4, q5, g_add_l]
  rfl
end Wk01

end
section
-- NO3
set_option Elab.async false
set_option linter.all false
set_option maxRecDepth 100000
set_option maxHeartbeats 800000
/-! P01b: all of _law_right. -/
namespace Wk01
open PySem PySem.Spec PyProof.Rows L2 DL PKG
variable [Tb]
def bdR : DStm := sSeq (sIf (dTst (dBin (gEq true) (dCall 1 f__law_kinds (aCons (dVar 3) (aNil))) (dLc (iRange1 (aCons (dK (.int 13)) (aNil))) [4] (tgN 4) (cYes) (dBin (gEq false) (dVar 4) (dVar 2))))) (sRet (dK (.bl false))) (sSkip)) (sIf (dTst (dBin (gEq true) (dCall 1 f__law_elders (aCons (dVar 3) (aNil))) (dLst (aCons (dBin gLt (dVar 2) (dK (.int 11))) (aCons (dBin gLt (dVar 2) (dK (.int 11))) (aCons (dBin (gEq false) (dVar 2) (dK (.int 11))) (aCons (dBin (gEq false) (dVar 2) (dK (.int 12))) (aCons (dK (.bl false)) (aNil))))))))) (sRet (dK (.bl false))) (sSkip))
theorem kinds_at : ∀ p ∈ oks.zipIdx, p.1 ∈ oksX ∧ oks.map (fT p.1) = (List.range 13).map (fun k => decide (k = p.2)) ∧ elB p.1 = [decide (p.2 < 11), decide (p.2 < 11), decide (p.2 = 11), decide (p.2 = 12), false] := by decide +kernel
theorem pl_bls : ∀ bs : List Bool, plD 20 (.lst (bs.map D.bl)) = true := fun bs => by
  show (bs.map D.bl).all (plD 19) = true
  rw [List.all_eq_true]
  intro d hd
  obtain ⟨b, _, rfl⟩ := List.mem_map.mp hd
  rfl
theorem body_R {o : D} {p : Str × Nat} (hp : p ∈ oks.zipIdx) (a b s4 : Slot) : bdR [a, b, .val (.int (p.2 : Nat)), .val (.exc p.1 o), s4] = ret (.nx [a, b, .val (.int (p.2 : Nat)), .val (.exc p.1 o), s4]) := by
  obtain ⟨h1, h2, h3⟩ := kinds_at p hp
  have n1 : ∀ a : D, ([a] : List D).length = 1 := fun _ => rfl
  have zk := z_kinds (o := o) h1
  have ze := z_elders (o := o) h1
  have e1 : (oks.map fun d => D.bl (fT p.1 d)) = ((List.range 13).map (fun k => decide (k = p.2))).map D.bl := by
    rw [← h2, List.map_map]; rfl
  rw [e1] at zk
  rw [h3] at ze
  have kl : lcD [4] (tgN 4) cYes (dBin (gEq false) (dVar 4) (dVar 2)) [a, b, .val (.int (p.2 : Nat)), .val (.exc p.1 o), s4] ((List.range 13).map natD) = ret (((List.range 13).map (fun k => decide (k = p.2))).map D.bl) := by
    rw [List.map_map]
    refine lcD_mapY natD (fun k => [a, b, .val (.int (p.2 : Nat)), .val (.exc p.1 o), .val (natD k)]) (fun k => D.bl (decide (k = p.2))) fun k hk => ⟨rfl, ?_⟩
    rw [x_bin]
    simp only [x_var, List.getElem?_cons_succ, List.getElem?_cons_zero, bnd_ret]
    show gEq false (.int (k : Nat)) (.int (p.2 : Nat)) = _
    rw [g_eq_i, if_neg (by decide), show decide ((k : Int) = (p.2 : Int)) = decide (k = p.2) from decide_eq_decide.mpr Int.ofNat_inj]
  have i13 : ∀ e : En, (iRange1 (aCons (dK (.int 13)) (aNil))) e = ret ((List.range 13).map natD) := fun e => by
    rw [x_ir1, x_acons, x_anil]
    simp only [bnd_ret, x_k]
    rw [need_of (by omega)]
    rfl
  have z13 : ((List.range 13).map natD).length ≤ sizeLine := szl (by simp)
  have ge1 := gNe_same (pl_bls ((List.range 13).map (fun k => decide (k = p.2))))
  have ge2 := gNe_same (pl_bls [decide (p.2 < 11), decide (p.2 < 11), decide (p.2 = 11), decide (p.2 = 12), false])
  have l1 : gLt (.int (p.2 : Nat)) (.int 11) = ret (.bl (decide (p.2 < 11))) := by
    rw [g_lt_i, show decide ((p.2 : Int) < 11) = decide (p.2 < 11) from decide_eq_decide.mpr (by omega)]
  have l2 : gEq false (.int (p.2 : Nat)) (.int 11) = ret (.bl (decide (p.2 = 11))) := by
    rw [g_eq_i, if_neg (by decide), show decide ((p.2 : Int) = 11) = decide (p.2 = 11) from decide_eq_decide.mpr (by omega)]
  have l3 : gEq false (.int (p.2 : Nat)) (.int 12) = ret (.bl (decide (p.2 = 12))) := by
    rw [g_eq_i, if_neg (by decide), show decide ((p.2 : Int) = 12) = decide (p.2 = 12) from decide_eq_decide.mpr (by omega)]
  have k1 : (dLc (iRange1 (aCons (dK (.int 13)) (aNil))) [4] (tgN 4) (cYes) (dBin (gEq false) (dVar 4) (dVar 2))) [a, b, .val (.int (p.2 : Nat)), .val (.exc p.1 o), s4] = ret (.lst (((List.range 13).map (fun k => decide (k = p.2))).map D.bl)) := by
    rw [x_lc, i13, bnd_ret, need_of z13, kl, bnd_ret]
  have k2 : (dLst (aCons (dBin gLt (dVar 2) (dK (.int 11))) (aCons (dBin gLt (dVar 2) (dK (.int 11))) (aCons (dBin (gEq false) (dVar 2) (dK (.int 11))) (aCons (dBin (gEq false) (dVar 2) (dK (.int 12))) (aCons (dK (.bl false)) (aNil))))))) [a, b, .val (.int (p.2 : Nat)), .val (.exc p.1 o), s4] = ret (.lst (([decide (p.2 < 11), decide (p.2 < 11), decide (p.2 = 11), decide (p.2 = 12), false] : List Bool).map D.bl)) := by
    simp (maxSteps := 1000000) (disch := (first | exact trivial | assumption | (refine zz3 ?_; first | assumption | decide | ((try simp only [List.length_append, List.length_map, List.length_cons, List.length_nil, List.length_zip, List.length_drop, List.length_take, List.length_range, List.length_zipIdx, sg_len, rot_len]); omega)) | (refine zz4 ?_; first | assumption | decide | ((try simp only [List.length_append, List.length_map, List.length_cons, List.length_nil, List.length_zip, List.length_drop, List.length_take, List.length_range, List.length_zipIdx, sg_len, rot_len]); omega)) | decide)) only [x_seq, x_asg, x_cb, x_acons, x_anil, x_if, x_tst, x_bin, x_un, x_var, x_k, x_lst, x_tup, x_ret, x_skip, x_sl, x_osome, x_onone, x_astar, x_seqD_t, x_seqD_l, bnd_ret, bnd_bnd, List.getElem?_cons_succ, List.getElem?_cons_zero, List.set_cons_succ, List.set_cons_zero, Bool.false_eq_true, if_true, if_false, x_own, x_flst, x_for, x_ir1, x_ir2, x_lc, x_ival, x_items_l, x_items_t, x_app, x_peek, x_peekL, x_tpeek, x_frz, x_call, x_pars, x_mval, x_mown, x_mnil, x_sets0, x_sets1, x_unp, tg_two, x_and, x_or, x_not, x_andv, x_orv, x_notv, x_ife, x_drop, x_yes, x_wipe0, x_wipe1, x_lrg, x_ien, x_iz, List.map_cons, List.map_nil, List.cons_append, List.nil_append, List.length_cons, List.length_nil, List.replicate, noex_ret, noexS_ret, need_of, l1, l2, l3]
  simp only [List.map_cons, List.map_nil] at ge2
  unfold bdR
  generalize hE1 : (dLc (iRange1 (aCons (dK (.int 13)) (aNil))) [4] (tgN 4) (cYes) (dBin (gEq false) (dVar 4) (dVar 2))) = E1 at k1
  generalize hE2 : (dLst (aCons (dBin gLt (dVar 2) (dK (.int 11))) (aCons (dBin gLt (dVar 2) (dK (.int 11))) (aCons (dBin (gEq false) (dVar 2) (dK (.int 11))) (aCons (dBin (gEq false) (dVar 2) (dK (.int 12))) (aCons (dK (.bl false)) (aNil))))))) = E2 at k2
  simp (maxSteps := 1000000) (disch := (first | exact trivial | assumption | (refine zz3 ?_; first | assumption | decide | ((try simp only [List.length_append, List.length_map, List.length_cons, List.length_nil, List.length_zip, List.length_drop, List.length_take, List.length_range, List.length_zipIdx, sg_len, rot_len]); omega)) | (refine zz4 ?_; first | assumption | decide | ((try simp only [List.length_append, List.length_map, List.length_cons, List.length_nil, List.length_zip, List.length_drop, List.length_take, List.length_range, List.length_zipIdx, sg_len, rot_len]); omega)) | decide)) only [x_seq, x_asg, x_cb, x_acons, x_anil, x_if, x_tst, x_bin, x_un, x_var, x_k, x_lst, x_tup, x_ret, x_skip, x_sl, x_osome, x_onone, x_astar, x_seqD_t, x_seqD_l, bnd_ret, bnd_bnd, List.getElem?_cons_succ, List.getElem?_cons_zero, List.set_cons_succ, List.set_cons_zero, Bool.false_eq_true, if_true, if_false, x_own, x_flst, x_for, x_ir1, x_ir2, x_lc, x_ival, x_items_l, x_items_t, x_app, x_peek, x_peekL, x_tpeek, x_frz, x_call, x_pars, x_mval, x_mown, x_mnil, x_sets0, x_sets1, x_unp, tg_two, x_and, x_or, x_not, x_andv, x_orv, x_notv, x_ife, x_drop, x_yes, x_wipe0, x_wipe1, x_lrg, x_ien, x_iz, List.map_cons, List.map_nil, List.cons_append, List.nil_append, List.length_cons, List.length_nil, List.replicate, noex_ret, noexS_ret, need_of, zk, ze, k1, k2, ge1, ge2]
theorem z_right {o : D} (t : wtE 20 (.lst (List.replicate 13 o)) ≤ 16000000) : f__law_right [.lst (errs o), o] = ret (.bl true) := by
  have n1 : ∀ a : D, ([a] : List D).length = 1 := fun _ => rfl
  have zf := z_fields o
  have rr := gReprN_ok t
  simp only [List.replicate] at rr
  have sq : ∀ x : Str, gEq true (.str x) (.str x) = ret (.bl false) := fun x => by rw [g_eq_s]; simp
  have gm : gMul (.lst [o]) (.int 13) = ret (.lst (List.replicate 13 o)) := by
    rw [g_mul_l, need_of ⟨szl (by simp), by decide, by decide⟩]; rfl
  have en : enumD (errs o) = oks.zipIdx.map fun p => .tup [.int (p.2 : Nat), .exc p.1 o] := enum_map (fun c => .exc c o) oks
  have lp : ∀ (l : List (Str × Nat)), (∀ p ∈ l, p ∈ oks.zipIdx) → ∀ (a b s2 s3 s4 : Slot), ∃ t2 t3, loopD (tgT 2 (tgsCons (tgN 2) (tgsCons (tgN 3) (tgsNil)))) bdR (l.map fun p => .tup [.int (p.2 : Nat), .exc p.1 o]) [a, b, s2, s3, s4] = ret (.nx [a, b, t2, t3, s4]) := by
    intro l
    induction l with
    | nil => intro _ a b s2 s3 s4; exact ⟨s2, s3, rfl⟩
    | cons p l ih =>
      intro h a b s2 s3 s4
      obtain ⟨t2, t3, e⟩ := ih (fun x hx => h x (List.mem_cons_of_mem _ hx)) a b (.val (.int (p.2 : Nat))) (.val (.exc p.1 o)) s4
      refine ⟨t2, t3, ?_⟩
      have k : loopD (tgT 2 (tgsCons (tgN 2) (tgsCons (tgN 3) (tgsNil)))) bdR ((p :: l).map fun p => .tup [.int (p.2 : Nat), .exc p.1 o]) [a, b, s2, s3, s4] = bnd (bdR [a, b, .val (.int (p.2 : Nat)), .val (.exc p.1 o), s4]) fun f => (match f with | .nx e2 => loopD (tgT 2 (tgsCons (tgN 2) (tgsCons (tgN 3) (tgsNil)))) bdR (l.map fun p => .tup [.int (p.2 : Nat), .exc p.1 o]) e2 | .rt d => DL.ret (.rt d)) := rfl
      rw [k, body_R (h p (List.mem_cons_self ..)), bnd_ret]
      exact e
  obtain ⟨t2, t3, lq⟩ := lp oks.zipIdx (fun _ h => h) (.val (.lst (errs o))) (.val o) .emp .emp .emp
  rw [← en] at lq
  show fnOf _ s__law_right _ = _
  rw [x_fn]
  change bnd (s__law_right [.val (.lst (errs o)), .val o, .emp, .emp, .emp]) _ = _
  have es : s__law_right = sSeq (sIf (dTst (dBin (gEq true) (dCb gReprN (aCons (dCall 1 f__law_fields (aCons (dVar 0) (aNil))) (aNil))) (dCb gReprN (aCons (dBin gMul (dLst (aCons (dVar 1) (aNil))) (dK (.int 13))) (aNil))))) (sRet (dK (.bl false))) (sSkip)) (sSeq (sFor (iEn (aCons (dVar 0) (aNil))) (tgT 2 (tgsCons (tgN 2) (tgsCons (tgN 3) (tgsNil)))) bdR) (sRet (dK (.bl true)))) := rfl
  rw [es]
  have s1 : (sIf (dTst (dBin (gEq true) (dCb gReprN (aCons (dCall 1 f__law_fields (aCons (dVar 0) (aNil))) (aNil))) (dCb gReprN (aCons (dBin gMul (dLst (aCons (dVar 1) (aNil))) (dK (.int 13))) (aNil))))) (sRet (dK (.bl false))) (sSkip)) [.val (.lst (errs o)), .val o, .emp, .emp, .emp] = ret (.nx [.val (.lst (errs o)), .val o, .emp, .emp, .emp]) := by
    simp (maxSteps := 1000000) (disch := (first | exact trivial | assumption | (refine zz3 ?_; first | assumption | decide | ((try simp only [List.length_append, List.length_map, List.length_cons, List.length_nil, List.length_zip, List.length_drop, List.length_take, List.length_range, List.length_zipIdx, sg_len, rot_len]); omega)) | (refine zz4 ?_; first | assumption | decide | ((try simp only [List.length_append, List.length_map, List.length_cons, List.length_nil, List.length_zip, List.length_drop, List.length_take, List.length_range, List.length_zipIdx, sg_len, rot_len]); omega)) | decide)) only [x_seq, x_asg, x_cb, x_acons, x_anil, x_if, x_tst, x_bin, x_un, x_var, x_k, x_lst, x_tup, x_ret, x_skip, x_sl, x_osome, x_onone, x_astar, x_seqD_t, x_seqD_l, bnd_ret, bnd_bnd, List.getElem?_cons_succ, List.getElem?_cons_zero, List.set_cons_succ, List.set_cons_zero, Bool.false_eq_true, if_true, if_false, x_own, x_flst, x_for, x_ir1, x_ir2, x_lc, x_ival, x_items_l, x_items_t, x_app, x_peek, x_peekL, x_tpeek, x_frz, x_call, x_pars, x_mval, x_mown, x_mnil, x_sets0, x_sets1, x_unp, tg_two, x_and, x_or, x_not, x_andv, x_orv, x_notv, x_ife, x_drop, x_yes, x_wipe0, x_wipe1, x_lrg, x_ien, x_iz, List.map_cons, List.map_nil, List.cons_append, List.nil_append, List.length_cons, List.length_nil, List.replicate, noex_ret, noexS_ret, need_of, zf, rr, gm, sq]
  have s2 : (iEn (aCons (dVar 0) (aNil))) [.val (.lst (errs o)), .val o, .emp, .emp, .emp] = ret (enumD (errs o)) := by
    simp (maxSteps := 1000000) (disch := (first | exact trivial | assumption | (refine zz3 ?_; first | assumption | decide | ((try simp only [List.length_append, List.length_map, List.length_cons, List.length_nil, List.length_zip, List.length_drop, List.length_take, List.length_range, List.length_zipIdx, sg_len, rot_len]); omega)) | (refine zz4 ?_; first | assumption | decide | ((try simp only [List.length_append, List.length_map, List.length_cons, List.length_nil, List.length_zip, List.length_drop, List.length_take, List.length_range, List.length_zipIdx, sg_len, rot_len]); omega)) | decide)) only [x_seq, x_asg, x_cb, x_acons, x_anil, x_if, x_tst, x_bin, x_un, x_var, x_k, x_lst, x_tup, x_ret, x_skip, x_sl, x_osome, x_onone, x_astar, x_seqD_t, x_seqD_l, bnd_ret, bnd_bnd, List.getElem?_cons_succ, List.getElem?_cons_zero, List.set_cons_succ, List.set_cons_zero, Bool.false_eq_true, if_true, if_false, x_own, x_flst, x_for, x_ir1, x_ir2, x_lc, x_ival, x_items_l, x_items_t, x_app, x_peek, x_peekL, x_tpeek, x_frz, x_call, x_pars, x_mval, x_mown, x_mnil, x_sets0, x_sets1, x_unp, tg_two, x_and, x_or, x_not, x_andv, x_orv, x_notv, x_ife, x_drop, x_yes, x_wipe0, x_wipe1, x_lrg, x_ien, x_iz, List.map_cons, List.map_nil, List.cons_append, List.nil_append, List.length_cons, List.length_nil, List.replicate, noex_ret, noexS_ret, need_of]
  rw [x_seq, s1, bnd_ret]
  dsimp only
  rw [x_seq, x_for, s2, bnd_ret, lq, bnd_ret]
  rfl
end Wk01

end
section
set_option Elab.async false
set_option linter.all false
set_option maxRecDepth 100000
set_option maxHeartbeats 4000000
/-! DRepr: data whose repr is had, piece by piece. -/
namespace DL
open PySem PySem.Spec PyProof.Rows L2
variable [Tb]
structure Sm (k : Nat) (d : D) (w : Nat) : Prop where
  pl : plD k d = true
  wt : wtD k d ≤ w
theorem Sm.le {k : Nat} {d : D} {w w' : Nat} (h : Sm k d w) (hw : w ≤ w') : Sm k d w' := ⟨h.pl, Nat.le_trans h.wt hw⟩
theorem Sm.int {k : Nat} {i : Int} (h : i.natAbs < 10 ^ 60) : Sm k (.int i) 61 := ⟨by cases k <;> rfl, by
  have e : wtD k (.int i) = if i.natAbs < 10 ^ 60 then 61 else 100000000 := by cases k <;> rfl
  rw [e, if_pos h]; exact Nat.le_refl _⟩
theorem Sm.bl {k : Nat} {b : Bool} : Sm k (.bl b) 5 := ⟨by cases k <;> rfl, by cases k <;> exact Nat.le_refl _⟩
theorem Sm.non {k : Nat} : Sm k .non 4 := ⟨by cases k <;> rfl, by cases k <;> exact Nat.le_refl _⟩
theorem Sm.str {k : Nat} {x : Str} (h : PyData.strOk x = true) (h2 : x.cps.all (· < 16 ^ 8) = true) : Sm k (.str x) (10 * x.length + 2) := ⟨by cases k <;> exact h, by
  have e : wtD k (.str x) = if x.cps.all (· < 16 ^ 8) then 10 * x.length + 2 else 100000000 := by cases k <;> rfl
  rw [e, if_pos h2]; exact Nat.le_refl _⟩
theorem Sm.sg {k : Nat} (bs : List Bool) : Sm k (.str (sg bs)) (10 * bs.length + 2) := ⟨by cases k <;> exact sg_ok bs, by rw [wt_sg]; exact Nat.le_refl _⟩
theorem sum_le_mul {α : Type} (f : α → Nat) (w : Nat) : ∀ l : List α, (∀ d ∈ l, f d ≤ w) → (l.map f).sum ≤ w * l.length
  | [], _ => by simp
  | d :: l, h => by
    have h1 := h d (by simp)
    have h2 := sum_le_mul f w l fun x hx => h x (by simp [hx])
    rw [List.map_cons, List.sum_cons, List.length_cons, Nat.mul_add, Nat.mul_one]
    omega
theorem Sm.lst {k : Nat} {l : List D} {w : Nat} (h : ∀ d ∈ l, Sm k d w) : Sm (k + 1) (.lst l) ((w + 2) * l.length + 3) := ⟨by
  show l.all (plD k) = true
  rw [List.all_eq_true]
  exact fun d hd => (h d hd).pl, by
  show (l.map fun d => wtD k d + 2).sum + 3 ≤ _
  have := sum_le_mul (fun d => wtD k d + 2) (w + 2) l fun d hd => by have := (h d hd).wt; omega
  omega⟩
theorem Sm.tup {k : Nat} {l : List D} {w : Nat} (h : ∀ d ∈ l, Sm k d w) : Sm (k + 1) (.tup l) ((w + 2) * l.length + 3) := ⟨by
  show l.all (plD k) = true
  rw [List.all_eq_true]
  exact fun d hd => (h d hd).pl, by
  show (l.map fun d => wtD k d + 2).sum + 3 ≤ _
  have := sum_le_mul (fun d => wtD k d + 2) (w + 2) l fun d hd => by have := (h d hd).wt; omega
  omega⟩
theorem Sm.rp {d : D} {w : Nat} (h : Sm 20 d w) (hw : w ≤ 16000000) : gRepr [d] = ret (.str (rtxt d)) := gRepr_ok h.pl (Nat.le_trans h.wt hw)
theorem sq (neg : Bool) (x : Str) : gEq neg (.str x) (.str x) = ret (.bl (!neg)) := by rw [g_eq_s]; cases neg <;> simp
end DL

end
section
set_option Elab.async false
set_option linter.all false
set_option maxRecDepth 100000
set_option maxHeartbeats 4000000
open PySem PySem.Spec PyProof.Rows L2 DL
/-! PkgZ: what the package's defs hand back, of right arguments. -/
namespace PKG
variable [Tb]
/-! letters -/
/-! what is drawn -/
theorem r_of {z : Bool} {c : Nat} {l : List D} (h : l ≠ []) (hl : l.length ≤ 1000) : Runs (f__law_of [.rng z c, .lst l]) 1 fun d => d ∈ l := by
  have h0 : 0 < l.length := List.length_pos_iff.mpr h
  simp [f__law_of, s__law_of, x_fn]
  refine Runs.bndc (runs_draw (by omega) (log_small (by omega) (by omega))) (c2 := 0) (Nat.le_refl _) fun d hd => ?_
  obtain ⟨r, rfl, r0, r1⟩ := hd
  obtain ⟨j, rfl⟩ : ∃ j : Nat, r = (j : Int) := ⟨r.toNat, by omega⟩
  have hj : j < l.length := by omega
  have q : gIx (.lst l) (.int (j : Nat)) = ret l[j] := ix_l (by simp [hj])
  rw [q]
  exact Runs.ret (by simp)
end PKG

end
section
-- NO3
set_option Elab.async false
set_option linter.all false
set_option maxRecDepth 100000
set_option maxHeartbeats 800000
/-! P01c: what is drawn; the law. -/
namespace Wk01
open PySem PySem.Spec PyProof.Rows L2 DL PKG
variable [Tb]
def Wt (j n : Nat) (d : D) : Prop := ∀ k, j ≤ k → wtE k d ≤ n
theorem Wt.le {j n j' n' : Nat} {d : D} (h : Wt j n d) (hj : j ≤ j') (hn : n ≤ n') : Wt j' n' d := fun k hk => Nat.le_trans (h k (by omega)) hn
theorem wt_seq {j n m : Nat} {l : List D} (h : ∀ d ∈ l, Wt j n d) (hl : l.length ≤ m) : ∀ k, j ≤ k → (l.map fun d => wtE k d + 2).sum + 3 ≤ (n + 2) * m + 3 := fun k hk => by
  have := sum_le_mul (fun d => wtE k d + 2) (n + 2) l fun d hd => by have := h d hd k hk; omega
  have h3 : (n + 2) * l.length ≤ (n + 2) * m := Nat.mul_le_mul_left _ hl
  omega
theorem wt_tup {j n m : Nat} {l : List D} (h : ∀ d ∈ l, Wt j n d) (hl : l.length ≤ m) : Wt (j + 1) ((n + 2) * m + 3) (.tup l) := fun k hk => by
  obtain ⟨k, rfl⟩ : ∃ q, k = q + 1 := ⟨k - 1, by omega⟩
  exact wt_seq h hl k (by omega)
theorem wt_lst {j n m : Nat} {l : List D} (h : ∀ d ∈ l, Wt j n d) (hl : l.length ≤ m) : Wt (j + 1) ((n + 2) * m + 3) (.lst l) := fun k hk => by
  obtain ⟨k, rfl⟩ : ∃ q, k = q + 1 := ⟨k - 1, by omega⟩
  exact wt_seq h hl k (by omega)
theorem wt_int {i : Int} (h : i.natAbs < 10 ^ 60) : Wt 0 61 (.int i) := fun k _ => by
  have e : wtE k (.int i) = if i.natAbs < 10 ^ 60 then 61 else 100000000 := by cases k <;> rfl
  rw [e, if_pos h]; exact Nat.le_refl _
theorem wt_str {x : Str} {n : Nat} (h : x.cps.all (· < 16 ^ 8) = true) (hn : 10 * x.length + 2 ≤ n) : Wt 0 n (.str x) := fun k _ => by
  have e : wtE k (.str x) = if x.cps.all (· < 16 ^ 8) then 10 * x.length + 2 else 100000000 := by cases k <;> rfl
  rw [e, if_pos h]; exact hn
theorem wt_non : Wt 0 61 .non := fun k _ => by
  have e : wtE k .non = 4 := by cases k <;> rfl
  rw [e]; decide
theorem wt_bl (b : Bool) : Wt 0 61 (.bl b) := fun k _ => by
  have e : wtE k (.bl b) = 5 := by cases k <;> rfl
  rw [e]; decide
theorem wt_dct0 : Wt 1 61 (.dct []) := fun k hk => by
  obtain ⟨k, rfl⟩ : ∃ q, k = q + 1 := ⟨k - 1, by omega⟩
  show 0 + 3 ≤ 61
  decide
def dctA : D := .dct [(.inr "a", .int 1)]
theorem wt_dctA : Wt 1 200 dctA := fun k hk => by
  obtain ⟨k, rfl⟩ : ∃ q, k = q + 1 := ⟨k - 1, by omega⟩
  have e : wtE k (.int 1) = 61 := by cases k <;> rfl
  have e2 : wtKey (.inr "a") ≤ 100 := by decide +kernel
  show ([((.inr "a", .int 1) : Key × D)].map fun p => wtKey p.1 + wtE k p.2 + 4).sum + 3 ≤ 200
  simp only [List.map_cons, List.map_nil, List.sum_cons, List.sum_nil, e]
  omega
def odds_ : List D := [.non, .bl true, .bl false, .int 0, .int 7, .int (-3), .int (10 ^ 40), .str "", .str "MV", .tup [], .tup [.int 60, .int 60], .lst [], .lst [.int 2], .dct [], dctA]
theorem odds_wt : ∀ d ∈ odds_, Wt 1 200 d := fun d hd => by
  have w : ∀ i : Int, i.natAbs < 10 ^ 60 → Wt 1 200 (.int i) := fun i h => (wt_int h).le (by decide) (by decide)
  have w0 : ∀ i : Int, i.natAbs < 10 ^ 60 → Wt 0 61 (.int i) := fun i h => wt_int h
  simp only [odds_, List.mem_cons, List.not_mem_nil, or_false] at hd
  rcases hd with rfl | rfl | rfl | rfl | rfl | rfl | rfl | rfl | rfl | rfl | rfl | rfl | rfl | rfl | rfl
  · exact wt_non.le (by decide) (by decide)
  · exact (wt_bl _).le (by decide) (by decide)
  · exact (wt_bl _).le (by decide) (by decide)
  · exact w _ (by decide)
  · exact w _ (by decide)
  · exact w _ (by decide)
  · exact w _ (by decide)
  · exact (wt_str (n := 200) (by decide +kernel) (by decide +kernel)).le (by decide) (by decide)
  · exact (wt_str (n := 200) (by decide +kernel) (by decide +kernel)).le (by decide) (by decide)
  · exact (wt_tup (j := 0) (n := 61) (m := 2) (by simp) (by simp)).le (by decide) (by decide)
  · exact (wt_tup (j := 0) (n := 61) (m := 2) (fun d hd => by simp at hd; subst hd; exact w0 60 (by decide)) (by simp)).le (by decide) (by decide)
  · exact (wt_lst (j := 0) (n := 61) (m := 2) (by simp) (by simp)).le (by decide) (by decide)
  · exact (wt_lst (j := 0) (n := 61) (m := 2) (fun d hd => by simp at hd; subst hd; exact w0 2 (by decide)) (by simp)).le (by decide) (by decide)
  · exact wt_dct0.le (by decide) (by decide)
  · exact wt_dctA
theorem p40 : gPow (.int 10) (.int 40) = ret (.int (10 ^ 40)) := by rw [g_pow_i, need_of ⟨by decide, by decide, by decide⟩]; rfl
theorem dd : ∀ e : En, dDctS [(dK (.str "a"), dK (.int 1))] e = ret dctA := fun e => by
  have q : prD [(dK (.str "a"), dK (.int 1))] e = ret [(.inr "a", .int 1)] := rfl
  unfold dDctS
  rw [q, bnd_ret, need_of (by decide)]
  rfl
theorem r_odd {z : Bool} {c : Nat} : Runs (f__law_odd [.rng z c]) 1 (Wt 1 200) := by
  have n2 : ∀ a b : D, ([a, b] : List D).length = 2 := fun _ _ => rfl
  have nn : gNeg (.int 3) = ret (.int (-3)) := rfl
  unfold f__law_odd
  rw [x_fn]
  unfold s__law_odd
  simp (maxSteps := 1000000) (disch := (first | exact trivial | assumption | (refine zz3 ?_; first | assumption | decide | ((try simp only [List.length_append, List.length_map, List.length_cons, List.length_nil, List.length_zip, List.length_drop, List.length_take, List.length_range, List.length_zipIdx, sg_len, rot_len]); omega)) | (refine zz4 ?_; first | assumption | decide | ((try simp only [List.length_append, List.length_map, List.length_cons, List.length_nil, List.length_zip, List.length_drop, List.length_take, List.length_range, List.length_zipIdx, sg_len, rot_len]); omega)) | decide)) only [x_seq, x_asg, x_cb, x_acons, x_anil, x_if, x_tst, x_bin, x_un, x_var, x_k, x_lst, x_tup, x_ret, x_skip, x_sl, x_osome, x_onone, x_astar, x_seqD_t, x_seqD_l, bnd_ret, bnd_bnd, List.getElem?_cons_succ, List.getElem?_cons_zero, List.set_cons_succ, List.set_cons_zero, Bool.false_eq_true, if_true, if_false, x_own, x_flst, x_for, x_ir1, x_ir2, x_lc, x_ival, x_items_l, x_items_t, x_app, x_peek, x_peekL, x_tpeek, x_frz, x_call, x_pars, x_mval, x_mown, x_mnil, x_sets0, x_sets1, x_unp, tg_two, x_and, x_or, x_not, x_andv, x_orv, x_notv, x_ife, x_drop, x_yes, x_wipe0, x_wipe1, x_lrg, x_ien, x_iz, List.map_cons, List.map_nil, List.cons_append, List.nil_append, List.length_cons, List.length_nil, List.replicate, noex_ret, noexS_ret, need_of, p40, nn, x_dct0, dd]
  refine Runs.bndc (c1 := 1) (c2 := 0) (S := Wt 1 200) ?_ (by decide) fun d hd => Runs.ret hd
  refine (r_of (l := odds_) (by simp [odds_]) (by simp [odds_])).le (Nat.le_refl _) fun d hd => odds_wt d hd
theorem tell13 {o : D} {n : Nat} (h : Wt 2 n o) (hn : n ≤ 1000) : wtE 20 (.lst (List.replicate 13 o)) ≤ 16000000 := by
  have := wt_lst (j := 2) (n := n) (m := 13) (l := List.replicate 13 o) (fun d hd => by rw [List.mem_replicate] at hd; rw [hd.2]; exact h) (by simp) 20 (by decide)
  omega
theorem runs_c : (100000 : Nat) ≤ 2 ^ 60 := by decide
theorem bareX : ("~FoldError" : Str) ∈ oksX := List.mem_cons_self ..
theorem bare_k : oks.map (fun d => D.bl (fT "~FoldError" d)) = (List.replicate 13 false).map D.bl := by
  have e : oks.map (fT "~FoldError") = List.replicate 13 false := by decide +kernel
  rw [← e, List.map_map]; rfl
theorem bare_e : (elB "~FoldError").map D.bl = ([true, true, false, false, false] : List Bool).map D.bl := by
  have e : elB "~FoldError" = [true, true, false, false, false] := by decide +kernel
  rw [e]
theorem runs_law : ∀ k, k ≤ 63 → Runs (f_law [.scr k]) 100000 fun d => d = .bl true := by
  intro k hk
  unfold f_law
  rw [x_fn]
  have n1 : ∀ a : D, ([a] : List D).length = 1 := fun _ => rfl
  have n2 : ∀ a b : D, ([a, b] : List D).length = 2 := fun _ _ => rfl
  have hk' : k ≤ 100 := by omega
  have sq : ∀ x : Str, gEq true (.str x) (.str x) = ret (.bl false) := fun x => by rw [g_eq_s]; simp
  have sq2 : ∀ x : Str, gEq false (.str x) (.str x) = ret (.bl true) := fun x => by rw [g_eq_s]; simp
  unfold s_law
  refine runs_step (env' := [.val (.scr k), .val (.rng false (k + 1)), .emp, .emp, .emp, .emp]) (by
    simp (maxSteps := 1000000) (disch := (first | exact trivial | assumption | (refine zz3 ?_; first | assumption | decide | ((try simp only [List.length_append, List.length_map, List.length_cons, List.length_nil, List.length_zip, List.length_drop, List.length_take, List.length_range, List.length_zipIdx, sg_len, rot_len]); omega)) | (refine zz4 ?_; first | assumption | decide | ((try simp only [List.length_append, List.length_map, List.length_cons, List.length_nil, List.length_zip, List.length_drop, List.length_take, List.length_range, List.length_zipIdx, sg_len, rot_len]); omega)) | decide)) only [x_seq, x_asg, x_cb, x_acons, x_anil, x_if, x_tst, x_bin, x_un, x_var, x_k, x_lst, x_tup, x_ret, x_skip, x_sl, x_osome, x_onone, x_astar, x_seqD_t, x_seqD_l, bnd_ret, bnd_bnd, List.getElem?_cons_succ, List.getElem?_cons_zero, List.set_cons_succ, List.set_cons_zero, Bool.false_eq_true, if_true, if_false, x_own, x_flst, x_for, x_ir1, x_ir2, x_lc, x_ival, x_items_l, x_items_t, x_app, x_peek, x_peekL, x_tpeek, x_frz, x_call, x_pars, x_mval, x_mown, x_mnil, x_sets0, x_sets1, x_unp, tg_two, x_and, x_or, x_not, x_andv, x_orv, x_notv, x_ife, x_drop, x_yes, x_wipe0, x_wipe1, x_lrg, x_ien, x_iz, List.map_cons, List.map_nil, List.cons_append, List.nil_append, List.length_cons, List.length_nil, List.replicate, noex_ret, noexS_ret, need_of, gBegun]
    try rfl) ?_
  refine runs_nx (c1 := 10) (c2 := 0) (A := fun e => ∃ s2 s4 s5, e = [.val (.scr k), .val (.rng false (k + 1)), s2, .emp, s4, s5]) ?_ (by decide) ?_
  · rw [x_for, x_ir1]
    simp (maxSteps := 1000000) (disch := (first | exact trivial | assumption | (refine zz3 ?_; first | assumption | decide | ((try simp only [List.length_append, List.length_map, List.length_cons, List.length_nil, List.length_zip, List.length_drop, List.length_take, List.length_range, List.length_zipIdx, sg_len, rot_len]); omega)) | (refine zz4 ?_; first | assumption | decide | ((try simp only [List.length_append, List.length_map, List.length_cons, List.length_nil, List.length_zip, List.length_drop, List.length_take, List.length_range, List.length_zipIdx, sg_len, rot_len]); omega)) | decide)) only [x_seq, x_asg, x_cb, x_acons, x_anil, x_if, x_tst, x_bin, x_un, x_var, x_k, x_lst, x_tup, x_ret, x_skip, x_sl, x_osome, x_onone, x_astar, x_seqD_t, x_seqD_l, bnd_ret, bnd_bnd, List.getElem?_cons_succ, List.getElem?_cons_zero, List.set_cons_succ, List.set_cons_zero, Bool.false_eq_true, if_true, if_false, x_own, x_flst, x_for, x_ir1, x_ir2, x_lc, x_ival, x_items_l, x_items_t, x_app, x_peek, x_peekL, x_tpeek, x_frz, x_call, x_pars, x_mval, x_mown, x_mnil, x_sets0, x_sets1, x_unp, tg_two, x_and, x_or, x_not, x_andv, x_orv, x_notv, x_ife, x_drop, x_yes, x_wipe0, x_wipe1, x_lrg, x_ien, x_iz, List.map_cons, List.map_nil, List.cons_append, List.nil_append, List.length_cons, List.length_nil, List.replicate, noex_ret, noexS_ret, need_of, g_len_c, g_min2, g_add_i]
    obtain ⟨m, hm, hm2⟩ : ∃ m : Nat, (3 + if (6 : Int) < k then 6 else (k : Int)) = (m : Int) ∧ m ≤ 9 := ⟨3 + min k 6, by split <;> omega, by omega⟩
    rw [hm, need_of (by omega), bnd_ret, rangeD_nat, Int.toNat_natCast]
    refine (runs_loop (fun e => ∃ s2 s4 s5, e = [.val (.scr k), .val (.rng false (k + 1)), s2, .emp, s4, s5]) 1 ⟨_, _, _, rfl⟩ fun a ha env hI => ?_).le (by simp; omega) fun f hf => hf
    obtain ⟨s2, s4, s5, rfl⟩ := hI
    refine ⟨_, rfl, ?_⟩
    simp (maxSteps := 1000000) (disch := (first | exact trivial | assumption | (refine zz3 ?_; first | assumption | decide | ((try simp only [List.length_append, List.length_map, List.length_cons, List.length_nil, List.length_zip, List.length_drop, List.length_take, List.length_range, List.length_zipIdx, sg_len, rot_len]); omega)) | (refine zz4 ?_; first | assumption | decide | ((try simp only [List.length_append, List.length_map, List.length_cons, List.length_nil, List.length_zip, List.length_drop, List.length_take, List.length_range, List.length_zipIdx, sg_len, rot_len]); omega)) | decide)) only [x_seq, x_asg, x_cb, x_acons, x_anil, x_if, x_tst, x_bin, x_un, x_var, x_k, x_lst, x_tup, x_ret, x_skip, x_sl, x_osome, x_onone, x_astar, x_seqD_t, x_seqD_l, bnd_ret, bnd_bnd, List.getElem?_cons_succ, List.getElem?_cons_zero, List.set_cons_succ, List.set_cons_zero, Bool.false_eq_true, if_true, if_false, x_own, x_flst, x_for, x_ir1, x_ir2, x_lc, x_ival, x_items_l, x_items_t, x_app, x_peek, x_peekL, x_tpeek, x_frz, x_call, x_pars, x_mval, x_mown, x_mnil, x_sets0, x_sets1, x_unp, tg_two, x_and, x_or, x_not, x_andv, x_orv, x_notv, x_ife, x_drop, x_yes, x_wipe0, x_wipe1, x_lrg, x_ien, x_iz, List.map_cons, List.map_nil, List.cons_append, List.nil_append, List.length_cons, List.length_nil, List.replicate, noex_ret, noexS_ret, need_of]
    refine Runs.bndc (r_odd (z := false) (c := k + 1)) (c2 := 0) (by decide) fun o ho => ?_
    have ho2 : Wt 2 200 o := ho.le (by decide) (by decide)
    have t13 := tell13 ho2 (by decide)
    have rr := gReprN_ok (show wtE 20 o ≤ 16000000 from Nat.le_trans (ho 20 (by decide)) (by decide))
    simp (maxSteps := 1000000) (disch := (first | exact trivial | assumption | (refine zz3 ?_; first | assumption | decide | ((try simp only [List.length_append, List.length_map, List.length_cons, List.length_nil, List.length_zip, List.length_drop, List.length_take, List.length_range, List.length_zipIdx, sg_len, rot_len]); omega)) | (refine zz4 ?_; first | assumption | decide | ((try simp only [List.length_append, List.length_map, List.length_cons, List.length_nil, List.length_zip, List.length_drop, List.length_take, List.length_range, List.length_zipIdx, sg_len, rot_len]); omega)) | decide)) only [x_seq, x_asg, x_cb, x_acons, x_anil, x_if, x_tst, x_bin, x_un, x_var, x_k, x_lst, x_tup, x_ret, x_skip, x_sl, x_osome, x_onone, x_astar, x_seqD_t, x_seqD_l, bnd_ret, bnd_bnd, List.getElem?_cons_succ, List.getElem?_cons_zero, List.set_cons_succ, List.set_cons_zero, Bool.false_eq_true, if_true, if_false, x_own, x_flst, x_for, x_ir1, x_ir2, x_lc, x_ival, x_items_l, x_items_t, x_app, x_peek, x_peekL, x_tpeek, x_frz, x_call, x_pars, x_mval, x_mown, x_mnil, x_sets0, x_sets1, x_unp, tg_two, x_and, x_or, x_not, x_andv, x_orv, x_notv, x_ife, x_drop, x_yes, x_wipe0, x_wipe1, x_lrg, x_ien, x_iz, List.map_cons, List.map_nil, List.cons_append, List.nil_append, List.length_cons, List.length_nil, List.replicate, noex_ret, noexS_ret, need_of, rr, z_made, z_named, z_right t13, Bool.not_true, sq]
    exact Runs.ret ⟨_, rfl, _, _, _, rfl⟩
  · rintro _ ⟨s2, s4, s5, rfl⟩
    have zk := z_kinds (o := .str "no corner") bareX
    have ze := z_elders (o := .str "no corner") bareX
    rw [bare_k] at zk
    rw [bare_e] at ze
    have gm : gMul (.lst [.bl false]) (.int 13) = ret (.lst ((List.replicate 13 false).map D.bl)) := by
      rw [g_mul_l, need_of ⟨szl (by simp), by decide, by decide⟩]; rfl
    have ge1 := gNe_same (pl_bls (List.replicate 13 false))
    have ge2 := gNe_same (pl_bls [true, true, false, false, false])
    have gb : gStrB [.exc "~FoldError" (.str "no corner")] = ret (.str "no corner") := need_of rfl _
    have wo : Wt 2 1000 (.tup [.int 1, .lst [.int 2]]) := (wt_tup (j := 1) (n := 200) (m := 2) (fun d hd => by
      simp at hd
      rcases hd with rfl | rfl
      · exact (wt_int (i := 1) (by decide)).le (by decide) (by decide)
      · exact (wt_lst (j := 0) (n := 61) (m := 2) (fun d hd => by simp at hd; subst hd; exact wt_int (i := 2) (by decide)) (by simp)).le (by decide) (by decide)) (by simp)).le (by decide) (by decide)
    have zr := z_right (tell13 wo (by decide))
    simp only [List.replicate, List.map_cons, List.map_nil] at zk ze gm ge1 ge2
    simp (maxSteps := 1000000) (disch := (first | exact trivial | assumption | (refine zz3 ?_; first | assumption | decide | ((try simp only [List.length_append, List.length_map, List.length_cons, List.length_nil, List.length_zip, List.length_drop, List.length_take, List.length_range, List.length_zipIdx, sg_len, rot_len]); omega)) | (refine zz4 ?_; first | assumption | decide | ((try simp only [List.length_append, List.length_map, List.length_cons, List.length_nil, List.length_zip, List.length_drop, List.length_take, List.length_range, List.length_zipIdx, sg_len, rot_len]); omega)) | decide)) only [x_seq, x_asg, x_cb, x_acons, x_anil, x_if, x_tst, x_bin, x_un, x_var, x_k, x_lst, x_tup, x_ret, x_skip, x_sl, x_osome, x_onone, x_astar, x_seqD_t, x_seqD_l, bnd_ret, bnd_bnd, List.getElem?_cons_succ, List.getElem?_cons_zero, List.set_cons_succ, List.set_cons_zero, Bool.false_eq_true, if_true, if_false, x_own, x_flst, x_for, x_ir1, x_ir2, x_lc, x_ival, x_items_l, x_items_t, x_app, x_peek, x_peekL, x_tpeek, x_frz, x_call, x_pars, x_mval, x_mown, x_mnil, x_sets0, x_sets1, x_unp, tg_two, x_and, x_or, x_not, x_andv, x_orv, x_notv, x_ife, x_drop, x_yes, x_wipe0, x_wipe1, x_lrg, x_ien, x_iz, List.map_cons, List.map_nil, List.cons_append, List.nil_append, List.length_cons, List.length_nil, List.replicate, noex_ret, noexS_ret, need_of, x_mkB, zk, ze, gm, ge1, ge2, x_andv, gb, sq2, z_made, zr]
    exact Runs.ret rfl
end Wk01

end
section
set_option Elab.async false
set_option linter.all false
set_option maxRecDepth 100000
set_option maxHeartbeats 4000000
/-! DFactV: what the written part says of errors that are made as values. -/
namespace DL
open PySem PySem.Spec PyProof.Rows L2 NdefX
variable [Tb]
section
variable {P : Program} {w : World} {K : PySem.W.Frag} {h : Heap} {mg : Str → Option Value} {base : Heap}
/-- the same with the keyword's binding -/
theorem errv_mk {C f1 cc cda : Addr} {x q v txt : Str} {vs : Array Value} {file : Str} {tf : Tok} {oc ccl cl kV doc pm ct : Value} {od an cdd cld : Option Addr} {osl ccs csl : Array (Option Value)} {cd : ClassData} {st : Stmt}
    {p0 p1 p2 p3 p4 p5 p6 p7 p8 pc : Pos} {j : Nat} {nm qq : Str} {N : Addr} {bs tl : List Value} {B nw ini : String} {sn : List Str} {sub : List Value} {ab : Bool} {col : Option Bool} {dd : Option Addr} {m0 m1 m2 m3 m5 : Option Value} {ar : Arg}
    (X : K.In h) (G : h.Ns mainGlobals mg)
    (hev : ∀ env : PySem.Env, eval (.Call (.Attribute (.Call (.Name "super" p0) [] [] p1) "__init__" p2) [.Constant (.str txt) j pc] [] p3) env = (do
      let ov ← attributeBase (.Call (.Name "super" p0) [] [] p1) "__init__" env (eval (.Call (.Name "super" p0) [] [] p1) env)
      standAt p2.atName
      let (f, first) ← holding [ov] (getMethod ov "__init__" (do return (← importBound (.Call (.Name "super" p0) [] [] p1) env).getD true))
      callWith p3 f first (backTo p3 (starEach [.Constant (.str txt) j pc] env)) []))
    (hb : C8.fnBody st = [.Expr (.Call (.Attribute (.Call (.Name "super" p0) [] [] p1) "__init__" p2) [.Constant (.str txt) j pc] [] p3) p4, .Assign [.Attribute (.Name "self" p5) (fieldOf x) p6] (.Name v p7) p8])
    (hvd : (v == ("__debug__" : Str)) = false) (hvc : (v == ("__classdict__" : Str)) = false) (har : ((C8.fnArgs st).posonlyargs ++ (C8.fnArgs st).args).head? = some ar) (harn : ar.arg = "self") (hks : (C8.fnScope st).names.lookup ("super" : Str) = some .globalImplicit)
    (S : NdefX.NScope ["self", v, "__class__"] ["self", v] ["__class__"] (C8.fnScope st)) (hbind : ∀ (kV doc pm : Value) (an : Option Addr) (cdv ct : Value) (cl : List (Str × Addr)) (us : List Value), us.length = 2 → bindArgs (PySem.W.fnX "__init__" q (C8.fnArgs st) (C8.fnBody st) (C8.fnScope st) cl .none kV doc pm an cdv ct) ⟨us, []⟩ = pure ((["self", v] : List Str).zip us))
    (hbk : ∀ (kV doc pm : Value) (an : Option Addr) (cdv ct : Value) (cl : List (Str × Addr)) (u z : Value), bindArgs (PySem.W.fnX "__init__" q (C8.fnArgs st) (C8.fnBody st) (C8.fnScope st) cl .none kV doc pm an cdv ct) ⟨[u], [(v, z)]⟩ = pure ([("self", u), (v, z)] : List (Str × Value)))
    (hfv : fieldOf x = v)
    (htop : (P.main.scope.names.lookup ("super" : Str)).isSome = false) (BE : BaseE B nw ini tl)
    (aC : PySem.W.nsIn K mainGlobals x = some (some (.ref C)))
    (xL : K.lookup C = some (excClassObj nm qq C N bs tl true sn sub ab col dd m0 m1 m2 m3 m5 nw))
    (sa : PySem.W.findIn K (.ref C) "__setattr__" = some (some (.builtin "object.__setattr__"))) (eC : PySem.W.subIn K (.ref C) (.type "BaseException") = some true) (tC : PySem.W.typeIn K (.ref C) = some (.type "type")) (kC : PySem.W.keepIn K (.ref C) = true)
    (iC : PySem.W.findIn K (.ref C) "__init__" = some (some (.ref f1))) (tI : PySem.W.typeIn K (.ref f1) = some (.type "function"))
    (hl : K.lookup f1 = some ⟨oc, od, .func (PySem.W.fnX "__init__" q (C8.fnArgs st) (C8.fnBody st) (C8.fnScope st) [("__class__", cc)] .none kV doc pm an (.ref cda) ct), osl⟩) (hcd : PySem.W.codeIn K (.ref cda) q = true)
    (hk : K.lookup cda = some ⟨ccl, cdd, .fields vs, ccs⟩) (hvs : vs[2]? = some (.str file tf)) (hfile : ((P.main.file : Str) == file) = true) (hcell : K.lookup cc = some ⟨cl, cld, .cell (some (.ref C)), csl⟩) (hC : PySem.W.clsIn K C = some cd) (hmr : PySem.W.mroIn K C (.ref C) = some true)
    (hsu : PySem.W.nsIn K mainGlobals "super" = some none) (ht : PySem.W.nsIn K cStatics "thirdparty.any" = some none) (hsi : PySem.W.ks_superIn K C C "__init__" = some (some (.builtin ini))) (hB : PySem.W.subIn K (.ref C) (.type B) = some true)
    (hfl : PySem.W.findIn K (.ref C) (fieldOf x) = some none) : ErrV P w K mg base x := by
  have T : OexB K C nw tl := ⟨⟨nm, qq, N, bs, sn, sub, ab, col, dd, m0, m1, m2, m3, m5, xL⟩, sa, eC, tC, kC⟩
  exact ⟨C, f1, _, v, B, nw, ini, tl, PySem.W.mg_of X G aC, BE, T, iC, tI, Binds.all fun us hu => hbind _ _ _ _ _ _ _ us hu, fun s u z _ => by rw [hfv]; exact BindsTo.of_eq (hbk _ _ _ _ _ _ _ u z),
    init_ok hev hb hvd hvc har harn hks S BE T hl hcd hk hvs hfile hcell hC hmr hsu ht hsi hB htop hfl⟩
theorem base_Overflow : BaseE "OverflowError" "OverflowError.__new__" "OverflowError.__init__" [.type "OverflowError", .type "ArithmeticError", .type "Exception", .type "BaseException", .type "object"] := ⟨⟨_, F.excBase_OverflowError, fun _ => rfl⟩, PySem.W.kxs_OverflowError, F.store_OverflowError.passes, by decide +kernel⟩
theorem isb_ref {C D : Addr} {c : Str} {b b' : Bool} (X : K.In h) (G : h.Ns mainGlobals mg) (aC : PySem.W.nsIn K mainGlobals (realC c) = some (some (.ref C))) (T : ExcC K C)
    (hd : PySem.W.hasDictIn K D = true) (ht : PySem.W.typeIn K (.ref D) = some (.type "type")) (h4 : PySem.W.subIn K (.ref C) (.ref D) = some b) (h5 : PySem.W.subIn K (.ref C) (.ref C) = some true) (e : b' = b) : IsB K mg c (.ref D) b' := by
  subst e
  refine ⟨C, PySem.W.mg_of X G aC, T, ?_⟩
  have q := kit_ref hd ht h4
  unfold PySem.W.kitOne
  by_cases z : (Value.ref C == Value.ref D) = true
  · have e2 : C = D := Value.ref.inj (beq_iff_eq.mp z)
    subst e2
    rw [h4] at h5
    cases h5
    rw [if_pos z]
  · rw [if_neg z]; exact q
theorem isb_ty {C : Addr} {c : Str} {t : String} {b b' : Bool} (X : K.In h) (G : h.Ns mainGlobals mg) (aC : PySem.W.nsIn K mainGlobals (realC c) = some (some (.ref C))) (T : ExcC K C)
    (h4 : PySem.W.subIn K (.ref C) (.type t) = some b) (e : b' = b) (hm : PySem.W.kitMeta t = true := by decide +kernel) : IsB K mg c (.type t) b' := by
  subst e
  refine ⟨C, PySem.W.mg_of X G aC, T, ?_⟩
  have z : ¬ ((Value.ref C == Value.type t) = true) := by intro q; cases beq_iff_eq.mp q
  unfold PySem.W.kitOne
  rw [if_neg z]
  show (if PySem.W.kitMeta t = true then PySem.W.subIn K (.ref C) (.type t) else none) = _
  rw [if_pos hm]; exact h4
theorem bare_of {C : Addr} {bmB : List Value} {B nw ini : String} (X : K.In h) (G : h.Ns mainGlobals mg) (aC : PySem.W.nsIn K mainGlobals "FoldError" = some (some (.ref C))) (FB : ExcBaseFacts B nw ini bmB) (q : PySem.W.excIn K C bmB nw = true) (kC : PySem.W.keepIn K (.ref C) = true)
    (fs : PySem.W.findIn K (.ref C) "__str__" = some (some (.builtin "BaseException.__str__"))) (sb : PySem.W.subIn K (.ref C) (.type "BaseException") = some true) (nb : PySem.W.nsIn K mainGlobals "~FoldError" = some none) : BareE K mg :=
  ⟨⟨C, bmB, B, nw, ini, PySem.W.mg_of X G aC, FB, q, kC, fs, sb⟩, PySem.W.mg_none_of X G nb⟩
end
end DL

end
section
set_option Elab.async false
set_option linter.all false
set_option maxRecDepth 100000
set_option maxHeartbeats 4000000
/-! DEndS: the same, what stands at sys.modules being watched. -/
namespace DL
open PySem PySem.Spec PyProof.Rows L2
variable [Tb]
theorem law_goS {P : Program} {w : World} {K : PySem.W.Frag} {mg mb : Str → Option Value} {k : Nat} {fa a : Addr} {cs : List (Addr × Addr)} {fd : FuncData} {x : Str} {sp : Sp} {s1 : Shared} {vs : List Value} {ns : List Int}
    (kin : K.In s1.heap) (gns : s1.heap.Ns mainGlobals mg) (bns : s1.heap.Ns builtinsNs mb) (bbo : ∀ x : Str, x ≠ "__name__" → mb x = bootBuiltins x)
    (nol : s1.heap.NoLimit) (gen0 : s1.gens = #[])
    (tabs : ∀ p ∈ cs, PySem.W.CodeHd s1.heap p.1 p.2 ∧ s1.heap.get? p.2 = some { cls := .none, data := .fields #[] } ∧ K.lookup p.2 = none)
    (bmain : ∃ (bm : Addr) (ob : Obj), mg "__builtins__" = some (.ref bm) ∧ bm ≠ builtinsNs ∧ s1.heap.get? bm = some ob ∧ ob.cls = .type "module" ∧ ob.dict = some builtinsNs ∧ ob.data = .plain)
    (sysd : ∃ mm, s1.heap.Ns sysModules mm) (sysK : K.lookup sysModules = none)
    (at_ : s1.heap.get? a = some { cls := .type "list", data := .seq vs.toArray }) (ia : IntsAre vs ns) (small : ns.length ≤ sizeLine)
    (room : Room k callerA) (G : ∀ base : Heap, K.In base → base.Ns mainGlobals mg → (∀ p ∈ cs, LamX.TabB base mg p.1 p.2) → FnG P w K mg base k fa fd [x] sp) (bind : ∀ (s : Shared) (u : Value), BindsTo s fd ⟨[u], []⟩ [(x, u)])
    (meets : ∀ H : Hp, (∀ p ∈ cs, H p.2 = some (.tbl #[])) → (∃ u, H sysModules = some u ∧ SysO u) → SqL K H a (ns.map V.int) → sp [.ref a] H (fun v _ => v = .bl true) fun _ _ _ => False) :
    codeAny (model P w) callerA (.call (.ref fa) ⟨[.ref a], []⟩)
      (fun r s' => r = .ok (.ret (.bool true)) ∧ OldK s1.heap s'.heap ∧ s'.os = s1.os ∧ AllBare s'.gens) s1 := by
  have vals : Vals (ns.map V.int) vs := vals_ints ia
  have same : vs.length = ns.length := ia.length
  let O : Obj := { cls := .type "list", data := .seq vs.toArray }
  let T : Obj := { cls := .none, data := .fields #[] }
  let Ts : List Addr := cs.map (·.2)
  have tabAt : ∀ b ∈ Ts, s1.heap.get? b = some T ∧ K.lookup b = none := fun b hb => by
    obtain ⟨p, hp, rfl⟩ := List.mem_map.mp hb
    exact ⟨(tabs p hp).2.1, (tabs p hp).2.2⟩
  have aT : a ∉ Ts := fun z => by
    have q := (tabAt a z).1
    rw [at_] at q
    have : O.cls = T.cls := congrArg Obj.cls (Option.some.inj q)
    cases this
  obtain ⟨mm, o0, es0, ep0, sy1, sy2, _⟩ := sysd
  let U : HO := .frz o0 (.ext fun _ => True)
  have aS : a ≠ sysModules := fun z => by rw [z, sy1] at at_; have q := Option.some.inj at_; rw [q] at sy2; cases sy2
  have tS : ∀ b ∈ Ts, b ≠ sysModules := fun b hb z => by
    have q := (tabAt b hb).1
    rw [z, sy1] at q
    have q := Option.some.inj q
    rw [q] at sy2; cases sy2
  suffices go : ∀ H : Hp, (∀ b u, H b = some u → (b = a ∧ u = .frz O (.lst (ns.map V.int)) ∧ K.lookup a = none) ∨ (b ∈ Ts ∧ u = .tbl #[]) ∨ (b = sysModules ∧ u = U)) → (∀ b ∈ Ts, H b = some (.tbl #[])) → H sysModules = some U → SqL K H a (ns.map V.int) →
      codeAny (model P w) callerA (.call (.ref fa) ⟨[.ref a], []⟩) (fun r s' => r = .ok (.ret (.bool true)) ∧ OldK s1.heap s'.heap ∧ s'.os = s1.os ∧ AllBare s'.gens) s1 by
    cases e : K.lookup a with
    | some o =>
      have q := kin a o e
      rw [at_] at q
      have q := Option.some.inj q
      subst q
      refine go (fun b => if b ∈ Ts then some (.tbl #[]) else if b = sysModules then some U else none) (fun b u z => ?_) (fun b hb => if_pos hb) (by rw [if_neg (fun hb => tS _ hb rfl), if_pos rfl]) (.inr ⟨O, vs.toArray, _, e, rfl, rfl, rfl, by rw [List.size_toArray, same]; exact small, vals⟩)
      by_cases hb : b ∈ Ts
      · rw [if_pos hb] at z; exact .inr (.inl ⟨hb, (Option.some.inj z).symm⟩)
      · rw [if_neg hb] at z
        by_cases h3 : b = sysModules
        · rw [if_pos h3] at z; exact .inr (.inr ⟨h3, (Option.some.inj z).symm⟩)
        · rw [if_neg h3] at z; cases z
    | none =>
      refine go (fun b => if b = a then some (.frz O (.lst (ns.map V.int))) else if b ∈ Ts then some (.tbl #[]) else if b = sysModules then some U else none) (fun b u z => ?_) (fun b hb => ?_) (by rw [if_neg (Ne.symm aS), if_neg (fun hb => tS _ hb rfl), if_pos rfl]) (.inl (.inr ⟨O, if_pos rfl⟩))
      · by_cases hb : b = a
        · rw [if_pos hb] at z
          exact .inl ⟨hb, (Option.some.inj z).symm, e⟩
        · rw [if_neg hb] at z
          by_cases h2 : b ∈ Ts
          · rw [if_pos h2] at z; exact .inr (.inl ⟨h2, (Option.some.inj z).symm⟩)
          · rw [if_neg h2] at z
            by_cases h3 : b = sysModules
            · rw [if_pos h3] at z; exact .inr (.inr ⟨h3, (Option.some.inj z).symm⟩)
            · rw [if_neg h3] at z; cases z
      · show (if b = a then _ else if b ∈ Ts then some (HO.tbl #[]) else _) = _
        rw [if_neg (fun z : b = a => aT (by rw [← z]; exact hb)), if_pos hb]
  intro H only hT hU seq
  have ok : HOk P w H s1.heap := fun b u z => by
    rcases only b u z with ⟨rfl, rfl, _⟩ | ⟨hb, rfl⟩ | ⟨rfl, rfl⟩
    · exact ⟨at_, by rw [List.length_map]; exact small, vs, _, vals, at_⟩
    · exact (tabAt b hb).1
    · exact ⟨sy1, trivial, ⟨_, sy1⟩, fun _ _ _ _ => trivial⟩
  have other : ∀ {b : Addr} {o : Obj}, s1.heap.get? b = some o → (∀ u, H b = some u → False) → (hidT s1.heap H).get? b = some o := fun {b o} e z => hidT_get e (by
    cases q : H b with
    | none => rfl
    | some u => exact (z u q).elim)
  have apart : ∀ {b : Addr} {o : Obj}, s1.heap.get? b = some o → o ≠ O → o ≠ T → b ≠ sysModules → (hidT s1.heap H).get? b = some o := fun {b o} e n1 n2 n3 => other e fun u z => by
    rcases only b u z with ⟨rfl, _, _⟩ | ⟨hb, _⟩ | ⟨hb, _⟩
    · rw [at_] at e; exact n1 (Option.some.inj e).symm
    · rw [(tabAt b hb).1] at e; exact n2 (Option.some.inj e).symm
    · exact n3 hb
  have nss : ∀ {b : Addr} {m : Str → Option Value}, b ≠ sysModules → s1.heap.Ns b m → (hidT s1.heap H).Ns b m := fun {b m} nb ⟨o, es, ep, e, d, r⟩ =>
    ⟨o, es, ep, apart e (fun z => by subst z; cases d) (fun z => by subst z; cases d) nb, d, r⟩
  have kin' : K.In (hidT s1.heap H) := fun b o e => other (kin b o e) fun u z => by
    rcases only b u z with ⟨rfl, _, n⟩ | ⟨hb, _⟩ | ⟨rfl, _⟩
    · rw [n] at e; cases e
    · rw [(tabAt b hb).2] at e; cases e
    · rw [sysK] at e; cases e
  have md : Mod K mg (hidT s1.heap H) := ⟨kin', nss (by decide) gns, ⟨mb, nss (by decide) bns, bbo⟩, by
    obtain ⟨mc, l1, l2⟩ := nol
    exact ⟨mc, nss (by decide) l1, l2⟩⟩
  have TB : ∀ p ∈ cs, LamX.TabB (hidT s1.heap H) mg p.1 p.2 := fun p hp => by
    obtain ⟨hc, ht, _⟩ := tabs p hp
    refine ⟨?_, ?_, fun z => ?_⟩
    · obtain ⟨o, us, file, tf, flags, tg, inF, text, tt, e1, r1, r2⟩ := hc
      exact ⟨o, us, file, tf, flags, tg, inF, text, tt, apart e1 (fun z => by rw [z] at r1; simp [O, T] at r1) (fun z => by rw [z] at r1; simp [O, T] at r1) (fun z => by rw [z, sy1] at e1; have q := Option.some.inj e1; have r3 := r2.1; rw [← q, sy2] at r3; cases r3), r1, r2⟩
    · obtain ⟨bm, ob, b1, b2, b3, b4, b5, b6⟩ := bmain
      refine ⟨bm, ob, b1, b2, fun q => ?_, fun q => ?_, apart b3 (fun z => by rw [z] at b4; simp [O, T] at b4) (fun z => by rw [z] at b4; simp [O, T] at b4) (fun z => by rw [z, sy1] at b3; have q := Option.some.inj b3; rw [← q, sy2] at b6; cases b6), b4, b5, b6⟩
      · obtain ⟨o, es, ep, e, d, _⟩ := gns
        rw [q, e] at b3; cases b3
        rw [d] at b6; cases b6
      · rw [q, ht] at b3; cases b3
        cases b4
    · obtain ⟨o, es, ep, e, d, _⟩ := gns
      rw [z, ht] at e; cases e
      cases d
  have env : Env0 P w K mg (hidT s1.heap H) callerA [] s1 H :=
    ⟨rfl, md, fun b o e => of_hidT e, Nat.le_of_eq (hidT_size _ _), trivial, fun b hb => (nomatch hb), ok, .of_eq gen0⟩
  have run := (G _ kin' (nss (by decide) gns) TB).run callerA [] s1 H ⟨[.ref a], []⟩ [.ref a] [.ref a] _ _ room rfl env (bind s1 (.ref a)) (.cons rfl .nil) (meets H (fun p hp => hT _ (List.mem_map.mpr ⟨p, hp, rfl⟩)) ⟨U, hU, .inr ⟨_, _, rfl⟩⟩ seq)
  refine codeAny_mono run fun r s' h => ?_
  match r, h with
  | .error e, h =>
    obtain ⟨_, _, _, _, _, _, _, _, _, _, _, _, z⟩ := h
    exact z.elim
  | .ok .next, h => exact h.elim
  | .ok .brk, h => exact h.elim
  | .ok .cont, h => exact h.elim
  | .ok (.ret u), h =>
    obtain ⟨v, H', os, bare, un, ok', r', q⟩ := h
    cases (show v = .bl true from q)
    have r' : u = Value.bool true := r'
    subst r'
    have kept : ∀ b o, b ∉ Ts → s1.heap.get? b = some o → s'.heap.get? b = some o := fun b o nb e => by
      cases z : H b with
      | none => exact un.keep b o e z (fun q => by cases q) (by simp)
      | some u =>
        rcases only b u z with ⟨rfl, rfl, _⟩ | ⟨hb, _⟩ | ⟨rfl, rfl⟩
        · have z2 := un.frzs b O _ z
          obtain ⟨e1, _⟩ := ok b _ z
          obtain ⟨e2, _⟩ := ok' b _ z2
          rw [e] at e1
          cases e1
          exact e2
        · exact absurd hb nb
        · have z2 := un.frzs _ _ _ z
          obtain ⟨e1, _⟩ := ok _ _ z
          obtain ⟨e2, _⟩ := ok' _ _ z2
          rw [e] at e1
          cases e1
          exact e2
    have grown : ∀ p ∈ cs, ∃ more : Array Value, s'.heap.get? p.2 = some { cls := .none, data := .fields more } := fun p hp => by
      obtain ⟨more, z⟩ := un.tbls p.2 #[] (hT _ (List.mem_map.mpr ⟨p, hp, rfl⟩))
      exact ⟨_, ok' p.2 _ z⟩
    refine ⟨rfl, ⟨fun b o e => ?_, fun b o e => ?_⟩, os, bare⟩
    · by_cases hb : b ∈ Ts
      · obtain ⟨p, hp, rfl⟩ := List.mem_map.mp hb
        obtain ⟨more, hm⟩ := grown p hp
        have ht := (tabs p hp).2.1
        rw [ht] at e
        cases e
        exact .inr (.inl ⟨((tabs p hp).1.tab ht).isCodeTable, rfl, #[], more, rfl, by rw [Array.empty_append]; exact hm⟩)
      · exact .inl (kept b o hb e)
    · by_cases hb : b ∈ Ts
      · obtain ⟨p, hp, rfl⟩ := List.mem_map.mp hb
        obtain ⟨more, hm⟩ := grown p hp
        exact ⟨_, hm⟩
      · exact ⟨o, kept b o hb e⟩
theorem walk_goS {l : PySem.W.OpenLaw} {n k : Nat} {q : Program} {loose : List Str} {XP : (Str → Option Value) → Heap → Prop} {YP : World → Heap → Prop} {d : DefRec} {K : Params → PySem.W.Frag} {sp : World → Sp} {x : Str} (cs : List (Addr × Addr))
    (most : l.most = some n) (small : n ≤ sizeLine) (noDf : d.params.defaults = []) (room : Room k callerA) (kin : ∀ (w : World) (h : Heap), YP w h → (K w.params).In h)
    (imp : importsNone q = true) (sysK : ∀ w : World, (K w.params).lookup sysModules = none) (tabs : ∀ w : World, ∀ p ∈ cs, TabAt q (K w.params) p)
    (F : ∀ (w : World) (mg : Str → Option Value) (fa : Addr) (h : Heap), (K w.params).In h → h.Ns mainGlobals mg → mg d.name = some (.ref fa) →
      ∃ fd : FuncData, (∀ (s : Shared) (u : Value), BindsTo s fd ⟨[u], []⟩ [(x, u)]) ∧ ∀ base : Heap, (K w.params).In base → base.Ns mainGlobals mg → (∀ p ∈ cs, LamX.TabB base mg p.1 p.2) → FnG l.prog w (K w.params) mg base k fa fd [x] (sp w))
    (meets : ∀ (w : World) (H : Hp) (a : Addr) (ns : List Int), ns.length ≤ n → (∀ p ∈ cs, H p.2 = some (.tbl #[])) → (∃ u, H sysModules = some u ∧ SysO u) → SqL (K w.params) H a (ns.map V.int) → sp w [.ref a] H (fun v _ => v = .bl true) fun _ _ _ => False) :
    PySem.W.WalkO q loose XP YP l.row.toRowW d [] (fun f vs => PySem.call f vs) := by
  refine Att.attach_call most noDf fun w s0 s1 mg mb fa o pm cd doc a vs ns G Y ho hd hcd hmg hobj hints hlen hg => ?_
  have hK := kin w _ Y
  obtain ⟨fd, hb, hF⟩ := F w mg fa _ hK G.T.g hmg
  refine law_goS (cs := cs) hK G.T.g G.T.b G.T.builtins G.T.nolimit hg (fun p hp => ?_) G.T.bmain (let ⟨mm, h, _⟩ := (G.T.seer imp).mods; ⟨mm, h⟩) (sysK w) hobj hints (Nat.le_trans hlen small) room hF hb fun H hT hU hs => meets w H a ns hlen hT hU hs
  obtain ⟨y, dr, h1, h2, h3⟩ := tabs w p hp
  obtain ⟨z1, z2⟩ := PySem.W.tab_of (c := p.1) (P := p.2) G.T hK h1 h2
  exact ⟨z1, z2, h3⟩
end DL

end
section
set_option Elab.async false
set_option linter.all false
set_option maxRecDepth 100000
set_option maxHeartbeats 4000000
open PySem PySem.Spec PyProof.Rows L2 DL
namespace Wk01
open PKG
instance tb0 : DL.Tb := ⟨[], fun _ h => absurd h List.not_mem_nil, true⟩
def csL : List (Addr × Addr) := []
theorem csL_tabs : ∀ P q, (P, q) ∈ Tb.tabs → ∃ c, (c, P) ∈ csL := fun P q h => absurd h List.not_mem_nil
theorem all_mk {P : Program} {w : World} {K : PySem.W.Frag} {h : Heap} {mg : Str → Option Value} {fa : Addr} {c : Nat} (hc : c ≤ 2 ^ 60) (hr : ∀ k, k ≤ 63 → Runs (f_law [.scr k]) c fun d => d = .bl true) (X : K.In h) (G : h.Ns mainGlobals mg) (hfa : mg "law" = some (.ref fa))
    {f__law_begun_ : Addr} {od__law_begun an__law_begun : Option Addr} {sl__law_begun : Array (Option Value)} {oc__law_begun kV__law_begun dc__law_begun pm__law_begun cd__law_begun ct__law_begun : Value}
    {f__law_draw_ : Addr} {od__law_draw an__law_draw : Option Addr} {sl__law_draw : Array (Option Value)} {oc__law_draw kV__law_draw dc__law_draw pm__law_draw cd__law_draw ct__law_draw : Value}
    {f__law_of_ : Addr} {od__law_of an__law_of : Option Addr} {sl__law_of : Array (Option Value)} {oc__law_of kV__law_of dc__law_of pm__law_of cd__law_of ct__law_of : Value}
    {f__law_odd_ : Addr} {od__law_odd an__law_odd : Option Addr} {sl__law_odd : Array (Option Value)} {oc__law_odd kV__law_odd dc__law_odd pm__law_odd cd__law_odd ct__law_odd : Value}
    {f__law_fields_ : Addr} {od__law_fields an__law_fields : Option Addr} {sl__law_fields : Array (Option Value)} {oc__law_fields kV__law_fields dc__law_fields pm__law_fields cd__law_fields ct__law_fields : Value}
    {f__law_kinds_ : Addr} {od__law_kinds an__law_kinds : Option Addr} {sl__law_kinds : Array (Option Value)} {oc__law_kinds kV__law_kinds dc__law_kinds pm__law_kinds cd__law_kinds ct__law_kinds : Value}
    {f__law_elders_ : Addr} {od__law_elders an__law_elders : Option Addr} {sl__law_elders : Array (Option Value)} {oc__law_elders kV__law_elders dc__law_elders pm__law_elders cd__law_elders ct__law_elders : Value}
    {f__law_right_ : Addr} {od__law_right an__law_right : Option Addr} {sl__law_right : Array (Option Value)} {oc__law_right kV__law_right dc__law_right pm__law_right cd__law_right ct__law_right : Value}
    {f__law_made_ : Addr} {od__law_made an__law_made : Option Addr} {sl__law_made : Array (Option Value)} {oc__law_made kV__law_made dc__law_made pm__law_made cd__law_made ct__law_made : Value}
    {f__law_named_ : Addr} {od__law_named an__law_named : Option Addr} {sl__law_named : Array (Option Value)} {oc__law_named kV__law_named dc__law_named pm__law_named cd__law_named ct__law_named : Value}
    {f_law_ : Addr} {od_law an_law : Option Addr} {sl_law : Array (Option Value)} {oc_law kV_law dc_law pm_law cd_law ct_law : Value}
    {C_BadCorner : Addr}
    {C_BadCreases : Addr}
    {C_BadFacts : Addr}
    {C_BadMask : Addr}
    {C_BadMove : Addr}
    {C_BadNumber : Addr}
    {C_BadPaper : Addr}
    {C_BadSigns : Addr}
    {C_BadStack : Addr}
    {C_BadText : Addr}
    {C_BadWeights : Addr}
    {C_FoldError : Addr}
    {C_Nothing : Addr}
    {C_TooGreat : Addr}
    {bm_ : List Value} {B_ nw_ ini_ : String}
    {f1_BadCorner cc_BadCorner cda_BadCorner N_BadCorner : Addr} {nm_BadCorner qq_BadCorner file_BadCorner : Str} {bs_BadCorner sub_BadCorner : List Value} {sn_BadCorner : List Str} {ab_BadCorner : Bool} {col_BadCorner : Option Bool} {dd_BadCorner iod_BadCorner ian_BadCorner icdd_BadCorner icld_BadCorner : Option Addr} {m0_BadCorner m1_BadCorner m2_BadCorner m3_BadCorner m5_BadCorner : Option Value}
    {vs_BadCorner : Array Value} {tf_BadCorner : Tok} {ioc_BadCorner iccl_BadCorner icl_BadCorner ikV_BadCorner idc_BadCorner ipm_BadCorner ict_BadCorner : Value} {iosl_BadCorner iccs_BadCorner icsl_BadCorner : Array (Option Value)} {icd_BadCorner : ClassData}
    {f1_BadSigns cc_BadSigns cda_BadSigns N_BadSigns : Addr} {nm_BadSigns qq_BadSigns file_BadSigns : Str} {bs_BadSigns sub_BadSigns : List Value} {sn_BadSigns : List Str} {ab_BadSigns : Bool} {col_BadSigns : Option Bool} {dd_BadSigns iod_BadSigns ian_BadSigns icdd_BadSigns icld_BadSigns : Option Addr} {m0_BadSigns m1_BadSigns m2_BadSigns m3_BadSigns m5_BadSigns : Option Value}
    {vs_BadSigns : Array Value} {tf_BadSigns : Tok} {ioc_BadSigns iccl_BadSigns icl_BadSigns ikV_BadSigns idc_BadSigns ipm_BadSigns ict_BadSigns : Value} {iosl_BadSigns iccs_BadSigns icsl_BadSigns : Array (Option Value)} {icd_BadSigns : ClassData}
    {f1_BadStack cc_BadStack cda_BadStack N_BadStack : Addr} {nm_BadStack qq_BadStack file_BadStack : Str} {bs_BadStack sub_BadStack : List Value} {sn_BadStack : List Str} {ab_BadStack : Bool} {col_BadStack : Option Bool} {dd_BadStack iod_BadStack ian_BadStack icdd_BadStack icld_BadStack : Option Addr} {m0_BadStack m1_BadStack m2_BadStack m3_BadStack m5_BadStack : Option Value}
    {vs_BadStack : Array Value} {tf_BadStack : Tok} {ioc_BadStack iccl_BadStack icl_BadStack ikV_BadStack idc_BadStack ipm_BadStack ict_BadStack : Value} {iosl_BadStack iccs_BadStack icsl_BadStack : Array (Option Value)} {icd_BadStack : ClassData}
    {f1_BadNumber cc_BadNumber cda_BadNumber N_BadNumber : Addr} {nm_BadNumber qq_BadNumber file_BadNumber : Str} {bs_BadNumber sub_BadNumber : List Value} {sn_BadNumber : List Str} {ab_BadNumber : Bool} {col_BadNumber : Option Bool} {dd_BadNumber iod_BadNumber ian_BadNumber icdd_BadNumber icld_BadNumber : Option Addr} {m0_BadNumber m1_BadNumber m2_BadNumber m3_BadNumber m5_BadNumber : Option Value}
    {vs_BadNumber : Array Value} {tf_BadNumber : Tok} {ioc_BadNumber iccl_BadNumber icl_BadNumber ikV_BadNumber idc_BadNumber ipm_BadNumber ict_BadNumber : Value} {iosl_BadNumber iccs_BadNumber icsl_BadNumber : Array (Option Value)} {icd_BadNumber : ClassData}
    {f1_BadMask cc_BadMask cda_BadMask N_BadMask : Addr} {nm_BadMask qq_BadMask file_BadMask : Str} {bs_BadMask sub_BadMask : List Value} {sn_BadMask : List Str} {ab_BadMask : Bool} {col_BadMask : Option Bool} {dd_BadMask iod_BadMask ian_BadMask icdd_BadMask icld_BadMask : Option Addr} {m0_BadMask m1_BadMask m2_BadMask m3_BadMask m5_BadMask : Option Value}
    {vs_BadMask : Array Value} {tf_BadMask : Tok} {ioc_BadMask iccl_BadMask icl_BadMask ikV_BadMask idc_BadMask ipm_BadMask ict_BadMask : Value} {iosl_BadMask iccs_BadMask icsl_BadMask : Array (Option Value)} {icd_BadMask : ClassData}
    {f1_BadCreases cc_BadCreases cda_BadCreases N_BadCreases : Addr} {nm_BadCreases qq_BadCreases file_BadCreases : Str} {bs_BadCreases sub_BadCreases : List Value} {sn_BadCreases : List Str} {ab_BadCreases : Bool} {col_BadCreases : Option Bool} {dd_BadCreases iod_BadCreases ian_BadCreases icdd_BadCreases icld_BadCreases : Option Addr} {m0_BadCreases m1_BadCreases m2_BadCreases m3_BadCreases m5_BadCreases : Option Value}
    {vs_BadCreases : Array Value} {tf_BadCreases : Tok} {ioc_BadCreases iccl_BadCreases icl_BadCreases ikV_BadCreases idc_BadCreases ipm_BadCreases ict_BadCreases : Value} {iosl_BadCreases iccs_BadCreases icsl_BadCreases : Array (Option Value)} {icd_BadCreases : ClassData}
    {f1_BadWeights cc_BadWeights cda_BadWeights N_BadWeights : Addr} {nm_BadWeights qq_BadWeights file_BadWeights : Str} {bs_BadWeights sub_BadWeights : List Value} {sn_BadWeights : List Str} {ab_BadWeights : Bool} {col_BadWeights : Option Bool} {dd_BadWeights iod_BadWeights ian_BadWeights icdd_BadWeights icld_BadWeights : Option Addr} {m0_BadWeights m1_BadWeights m2_BadWeights m3_BadWeights m5_BadWeights : Option Value}
    {vs_BadWeights : Array Value} {tf_BadWeights : Tok} {ioc_BadWeights iccl_BadWeights icl_BadWeights ikV_BadWeights idc_BadWeights ipm_BadWeights ict_BadWeights : Value} {iosl_BadWeights iccs_BadWeights icsl_BadWeights : Array (Option Value)} {icd_BadWeights : ClassData}
    {f1_BadMove cc_BadMove cda_BadMove N_BadMove : Addr} {nm_BadMove qq_BadMove file_BadMove : Str} {bs_BadMove sub_BadMove : List Value} {sn_BadMove : List Str} {ab_BadMove : Bool} {col_BadMove : Option Bool} {dd_BadMove iod_BadMove ian_BadMove icdd_BadMove icld_BadMove : Option Addr} {m0_BadMove m1_BadMove m2_BadMove m3_BadMove m5_BadMove : Option Value}
    {vs_BadMove : Array Value} {tf_BadMove : Tok} {ioc_BadMove iccl_BadMove icl_BadMove ikV_BadMove idc_BadMove ipm_BadMove ict_BadMove : Value} {iosl_BadMove iccs_BadMove icsl_BadMove : Array (Option Value)} {icd_BadMove : ClassData}
    {f1_BadPaper cc_BadPaper cda_BadPaper N_BadPaper : Addr} {nm_BadPaper qq_BadPaper file_BadPaper : Str} {bs_BadPaper sub_BadPaper : List Value} {sn_BadPaper : List Str} {ab_BadPaper : Bool} {col_BadPaper : Option Bool} {dd_BadPaper iod_BadPaper ian_BadPaper icdd_BadPaper icld_BadPaper : Option Addr} {m0_BadPaper m1_BadPaper m2_BadPaper m3_BadPaper m5_BadPaper : Option Value}
    {vs_BadPaper : Array Value} {tf_BadPaper : Tok} {ioc_BadPaper iccl_BadPaper icl_BadPaper ikV_BadPaper idc_BadPaper ipm_BadPaper ict_BadPaper : Value} {iosl_BadPaper iccs_BadPaper icsl_BadPaper : Array (Option Value)} {icd_BadPaper : ClassData}
    {f1_BadText cc_BadText cda_BadText N_BadText : Addr} {nm_BadText qq_BadText file_BadText : Str} {bs_BadText sub_BadText : List Value} {sn_BadText : List Str} {ab_BadText : Bool} {col_BadText : Option Bool} {dd_BadText iod_BadText ian_BadText icdd_BadText icld_BadText : Option Addr} {m0_BadText m1_BadText m2_BadText m3_BadText m5_BadText : Option Value}
    {vs_BadText : Array Value} {tf_BadText : Tok} {ioc_BadText iccl_BadText icl_BadText ikV_BadText idc_BadText ipm_BadText ict_BadText : Value} {iosl_BadText iccs_BadText icsl_BadText : Array (Option Value)} {icd_BadText : ClassData}
    {f1_BadFacts cc_BadFacts cda_BadFacts N_BadFacts : Addr} {nm_BadFacts qq_BadFacts file_BadFacts : Str} {bs_BadFacts sub_BadFacts : List Value} {sn_BadFacts : List Str} {ab_BadFacts : Bool} {col_BadFacts : Option Bool} {dd_BadFacts iod_BadFacts ian_BadFacts icdd_BadFacts icld_BadFacts : Option Addr} {m0_BadFacts m1_BadFacts m2_BadFacts m3_BadFacts m5_BadFacts : Option Value}
    {vs_BadFacts : Array Value} {tf_BadFacts : Tok} {ioc_BadFacts iccl_BadFacts icl_BadFacts ikV_BadFacts idc_BadFacts ipm_BadFacts ict_BadFacts : Value} {iosl_BadFacts iccs_BadFacts icsl_BadFacts : Array (Option Value)} {icd_BadFacts : ClassData}
    {f1_TooGreat cc_TooGreat cda_TooGreat N_TooGreat : Addr} {nm_TooGreat qq_TooGreat file_TooGreat : Str} {bs_TooGreat sub_TooGreat : List Value} {sn_TooGreat : List Str} {ab_TooGreat : Bool} {col_TooGreat : Option Bool} {dd_TooGreat iod_TooGreat ian_TooGreat icdd_TooGreat icld_TooGreat : Option Addr} {m0_TooGreat m1_TooGreat m2_TooGreat m3_TooGreat m5_TooGreat : Option Value}
    {vs_TooGreat : Array Value} {tf_TooGreat : Tok} {ioc_TooGreat iccl_TooGreat icl_TooGreat ikV_TooGreat idc_TooGreat ipm_TooGreat ict_TooGreat : Value} {iosl_TooGreat iccs_TooGreat icsl_TooGreat : Array (Option Value)} {icd_TooGreat : ClassData}
    {f1_Nothing cc_Nothing cda_Nothing N_Nothing : Addr} {nm_Nothing qq_Nothing file_Nothing : Str} {bs_Nothing sub_Nothing : List Value} {sn_Nothing : List Str} {ab_Nothing : Bool} {col_Nothing : Option Bool} {dd_Nothing iod_Nothing ian_Nothing icdd_Nothing icld_Nothing : Option Addr} {m0_Nothing m1_Nothing m2_Nothing m3_Nothing m5_Nothing : Option Value}
    {vs_Nothing : Array Value} {tf_Nothing : Tok} {ioc_Nothing iccl_Nothing icl_Nothing ikV_Nothing idc_Nothing ipm_Nothing ict_Nothing : Value} {iosl_Nothing iccs_Nothing icsl_Nothing : Array (Option Value)} {icd_Nothing : ClassData}
    (a__law_begun : PySem.W.nsIn K mainGlobals "_law_begun" = some (some (.ref f__law_begun_)))
    (l__law_begun : K.lookup f__law_begun_ = some ⟨oc__law_begun, od__law_begun, .func (PySem.W.fnOf "_law_begun" "_law_begun" (defArgs st__law_begun) (defBody st__law_begun) (defScope st__law_begun) .none kV__law_begun dc__law_begun pm__law_begun an__law_begun cd__law_begun ct__law_begun), sl__law_begun⟩)
    (c__law_begun : PySem.W.codeIn K cd__law_begun "_law_begun" = true) (k__law_begun : PySem.W.keepIn K (.ref f__law_begun_) = true)
    (a__law_draw : PySem.W.nsIn K mainGlobals "_law_draw" = some (some (.ref f__law_draw_)))
    (l__law_draw : K.lookup f__law_draw_ = some ⟨oc__law_draw, od__law_draw, .func (PySem.W.fnOf "_law_draw" "_law_draw" (defArgs st__law_draw) (defBody st__law_draw) (defScope st__law_draw) .none kV__law_draw dc__law_draw pm__law_draw an__law_draw cd__law_draw ct__law_draw), sl__law_draw⟩)
    (c__law_draw : PySem.W.codeIn K cd__law_draw "_law_draw" = true) (k__law_draw : PySem.W.keepIn K (.ref f__law_draw_) = true)
    (a__law_of : PySem.W.nsIn K mainGlobals "_law_of" = some (some (.ref f__law_of_)))
    (l__law_of : K.lookup f__law_of_ = some ⟨oc__law_of, od__law_of, .func (PySem.W.fnOf "_law_of" "_law_of" (defArgs st__law_of) (defBody st__law_of) (defScope st__law_of) .none kV__law_of dc__law_of pm__law_of an__law_of cd__law_of ct__law_of), sl__law_of⟩)
    (c__law_of : PySem.W.codeIn K cd__law_of "_law_of" = true) (k__law_of : PySem.W.keepIn K (.ref f__law_of_) = true)
    (a__law_odd : PySem.W.nsIn K mainGlobals "_law_odd" = some (some (.ref f__law_odd_)))
    (l__law_odd : K.lookup f__law_odd_ = some ⟨oc__law_odd, od__law_odd, .func (PySem.W.fnOf "_law_odd" "_law_odd" (defArgs st__law_odd) (defBody st__law_odd) (defScope st__law_odd) .none kV__law_odd dc__law_odd pm__law_odd an__law_odd cd__law_odd ct__law_odd), sl__law_odd⟩)
    (c__law_odd : PySem.W.codeIn K cd__law_odd "_law_odd" = true) (k__law_odd : PySem.W.keepIn K (.ref f__law_odd_) = true)
    (a__law_fields : PySem.W.nsIn K mainGlobals "_law_fields" = some (some (.ref f__law_fields_)))
    (l__law_fields : K.lookup f__law_fields_ = some ⟨oc__law_fields, od__law_fields, .func (PySem.W.fnOf "_law_fields" "_law_fields" (defArgs st__law_fields) (defBody st__law_fields) (defScope st__law_fields) .none kV__law_fields dc__law_fields pm__law_fields an__law_fields cd__law_fields ct__law_fields), sl__law_fields⟩)
    (c__law_fields : PySem.W.codeIn K cd__law_fields "_law_fields" = true) (k__law_fields : PySem.W.keepIn K (.ref f__law_fields_) = true)
    (a__law_kinds : PySem.W.nsIn K mainGlobals "_law_kinds" = some (some (.ref f__law_kinds_)))
    (l__law_kinds : K.lookup f__law_kinds_ = some ⟨oc__law_kinds, od__law_kinds, .func (PySem.W.fnOf "_law_kinds" "_law_kinds" (defArgs st__law_kinds) (defBody st__law_kinds) (defScope st__law_kinds) .none kV__law_kinds dc__law_kinds pm__law_kinds an__law_kinds cd__law_kinds ct__law_kinds), sl__law_kinds⟩)
    (c__law_kinds : PySem.W.codeIn K cd__law_kinds "_law_kinds" = true) (k__law_kinds : PySem.W.keepIn K (.ref f__law_kinds_) = true)
    (a__law_elders : PySem.W.nsIn K mainGlobals "_law_elders" = some (some (.ref f__law_elders_)))
    (l__law_elders : K.lookup f__law_elders_ = some ⟨oc__law_elders, od__law_elders, .func (PySem.W.fnOf "_law_elders" "_law_elders" (defArgs st__law_elders) (defBody st__law_elders) (defScope st__law_elders) .none kV__law_elders dc__law_elders pm__law_elders an__law_elders cd__law_elders ct__law_elders), sl__law_elders⟩)
    (c__law_elders : PySem.W.codeIn K cd__law_elders "_law_elders" = true) (k__law_elders : PySem.W.keepIn K (.ref f__law_elders_) = true)
    (a__law_right : PySem.W.nsIn K mainGlobals "_law_right" = some (some (.ref f__law_right_)))
    (l__law_right : K.lookup f__law_right_ = some ⟨oc__law_right, od__law_right, .func (PySem.W.fnOf "_law_right" "_law_right" (defArgs st__law_right) (defBody st__law_right) (defScope st__law_right) .none kV__law_right dc__law_right pm__law_right an__law_right cd__law_right ct__law_right), sl__law_right⟩)
    (c__law_right : PySem.W.codeIn K cd__law_right "_law_right" = true) (k__law_right : PySem.W.keepIn K (.ref f__law_right_) = true)
    (a__law_made : PySem.W.nsIn K mainGlobals "_law_made" = some (some (.ref f__law_made_)))
    (l__law_made : K.lookup f__law_made_ = some ⟨oc__law_made, od__law_made, .func (PySem.W.fnOf "_law_made" "_law_made" (defArgs st__law_made) (defBody st__law_made) (defScope st__law_made) .none kV__law_made dc__law_made pm__law_made an__law_made cd__law_made ct__law_made), sl__law_made⟩)
    (c__law_made : PySem.W.codeIn K cd__law_made "_law_made" = true) (k__law_made : PySem.W.keepIn K (.ref f__law_made_) = true)
    (a__law_named : PySem.W.nsIn K mainGlobals "_law_named" = some (some (.ref f__law_named_)))
    (l__law_named : K.lookup f__law_named_ = some ⟨oc__law_named, od__law_named, .func (PySem.W.fnOf "_law_named" "_law_named" (defArgs st__law_named) (defBody st__law_named) (defScope st__law_named) .none kV__law_named dc__law_named pm__law_named an__law_named cd__law_named ct__law_named), sl__law_named⟩)
    (c__law_named : PySem.W.codeIn K cd__law_named "_law_named" = true) (k__law_named : PySem.W.keepIn K (.ref f__law_named_) = true)
    (a_law : PySem.W.nsIn K mainGlobals "law" = some (some (.ref f_law_)))
    (l_law : K.lookup f_law_ = some ⟨oc_law, od_law, .func (PySem.W.fnOf "law" "law" (defArgs st_law) (defBody st_law) (defScope st_law) .none kV_law dc_law pm_law an_law cd_law ct_law), sl_law⟩)
    (c_law : PySem.W.codeIn K cd_law "law" = true) (k_law : PySem.W.keepIn K (.ref f_law_) = true)
    (n_IndexError : PySem.W.nsIn K mainGlobals "IndexError" = some none)
    (n_KeyError : PySem.W.nsIn K mainGlobals "KeyError" = some none)
    (n_LookupError : PySem.W.nsIn K mainGlobals "LookupError" = some none)
    (n_OverflowError : PySem.W.nsIn K mainGlobals "OverflowError" = some none)
    (n_RuntimeError : PySem.W.nsIn K mainGlobals "RuntimeError" = some none)
    (n_TypeError : PySem.W.nsIn K mainGlobals "TypeError" = some none)
    (n_ValueError : PySem.W.nsIn K mainGlobals "ValueError" = some none)
    (n_enumerate : PySem.W.nsIn K mainGlobals "enumerate" = some none)
    (n_int : PySem.W.nsIn K mainGlobals "int" = some none)
    (n_isinstance : PySem.W.nsIn K mainGlobals "isinstance" = some none)
    (n_len : PySem.W.nsIn K mainGlobals "len" = some none)
    (n_list : PySem.W.nsIn K mainGlobals "list" = some none)
    (n_min : PySem.W.nsIn K mainGlobals "min" = some none)
    (n_range : PySem.W.nsIn K mainGlobals "range" = some none)
    (n_repr : PySem.W.nsIn K mainGlobals "repr" = some none)
    (n_str : PySem.W.nsIn K mainGlobals "str" = some none)
    (a_BadCorner : PySem.W.nsIn K mainGlobals "BadCorner" = some (some (.ref C_BadCorner)))
    (b_BadCorner : PySem.W.subIn K (.ref C_BadCorner) (.type "BaseException") = some true)
    (d_BadCorner : PySem.W.hasDictIn K C_BadCorner = true)
    (t_BadCorner : PySem.W.typeIn K (.ref C_BadCorner) = some (.type "type"))
    (ga_BadCorner : PySem.W.findIn K (.ref C_BadCorner) "__getattribute__" = some (some (.builtin "BaseException.__getattribute__")))
    (gg_BadCorner : PySem.W.findIn K (.ref C_BadCorner) "__getattr__" = some none)
    (gc_BadCorner : PySem.W.findIn K (.ref C_BadCorner) "__class__" = some (some (.builtin "object.__class__")))
    (gm_BadCorner : PySem.W.mroIn K C_BadCorner (.type "object") = some true)
    (a_BadCreases : PySem.W.nsIn K mainGlobals "BadCreases" = some (some (.ref C_BadCreases)))
    (b_BadCreases : PySem.W.subIn K (.ref C_BadCreases) (.type "BaseException") = some true)
    (d_BadCreases : PySem.W.hasDictIn K C_BadCreases = true)
    (t_BadCreases : PySem.W.typeIn K (.ref C_BadCreases) = some (.type "type"))
    (ga_BadCreases : PySem.W.findIn K (.ref C_BadCreases) "__getattribute__" = some (some (.builtin "BaseException.__getattribute__")))
    (gg_BadCreases : PySem.W.findIn K (.ref C_BadCreases) "__getattr__" = some none)
    (gc_BadCreases : PySem.W.findIn K (.ref C_BadCreases) "__class__" = some (some (.builtin "object.__class__")))
    (gm_BadCreases : PySem.W.mroIn K C_BadCreases (.type "object") = some true)
    (a_BadFacts : PySem.W.nsIn K mainGlobals "BadFacts" = some (some (.ref C_BadFacts)))
    (b_BadFacts : PySem.W.subIn K (.ref C_BadFacts) (.type "BaseException") = some true)
    (d_BadFacts : PySem.W.hasDictIn K C_BadFacts = true)
    (t_BadFacts : PySem.W.typeIn K (.ref C_BadFacts) = some (.type "type"))
    (ga_BadFacts : PySem.W.findIn K (.ref C_BadFacts) "__getattribute__" = some (some (.builtin "BaseException.__getattribute__")))
    (gg_BadFacts : PySem.W.findIn K (.ref C_BadFacts) "__getattr__" = some none)
    (gc_BadFacts : PySem.W.findIn K (.ref C_BadFacts) "__class__" = some (some (.builtin "object.__class__")))
    (gm_BadFacts : PySem.W.mroIn K C_BadFacts (.type "object") = some true)
    (a_BadMask : PySem.W.nsIn K mainGlobals "BadMask" = some (some (.ref C_BadMask)))
    (b_BadMask : PySem.W.subIn K (.ref C_BadMask) (.type "BaseException") = some true)
    (d_BadMask : PySem.W.hasDictIn K C_BadMask = true)
    (t_BadMask : PySem.W.typeIn K (.ref C_BadMask) = some (.type "type"))
    (ga_BadMask : PySem.W.findIn K (.ref C_BadMask) "__getattribute__" = some (some (.builtin "BaseException.__getattribute__")))
    (gg_BadMask : PySem.W.findIn K (.ref C_BadMask) "__getattr__" = some none)
    (gc_BadMask : PySem.W.findIn K (.ref C_BadMask) "__class__" = some (some (.builtin "object.__class__")))
    (gm_BadMask : PySem.W.mroIn K C_BadMask (.type "object") = some true)
    (a_BadMove : PySem.W.nsIn K mainGlobals "BadMove" = some (some (.ref C_BadMove)))
    (b_BadMove : PySem.W.subIn K (.ref C_BadMove) (.type "BaseException") = some true)
    (d_BadMove : PySem.W.hasDictIn K C_BadMove = true)
    (t_BadMove : PySem.W.typeIn K (.ref C_BadMove) = some (.type "type"))
    (ga_BadMove : PySem.W.findIn K (.ref C_BadMove) "__getattribute__" = some (some (.builtin "BaseException.__getattribute__")))
    (gg_BadMove : PySem.W.findIn K (.ref C_BadMove) "__getattr__" = some none)
    (gc_BadMove : PySem.W.findIn K (.ref C_BadMove) "__class__" = some (some (.builtin "object.__class__")))
    (gm_BadMove : PySem.W.mroIn K C_BadMove (.type "object") = some true)
    (a_BadNumber : PySem.W.nsIn K mainGlobals "BadNumber" = some (some (.ref C_BadNumber)))
    (b_BadNumber : PySem.W.subIn K (.ref C_BadNumber) (.type "BaseException") = some true)
    (d_BadNumber : PySem.W.hasDictIn K C_BadNumber = true)
    (t_BadNumber : PySem.W.typeIn K (.ref C_BadNumber) = some (.type "type"))
    (ga_BadNumber : PySem.W.findIn K (.ref C_BadNumber) "__getattribute__" = some (some (.builtin "BaseException.__getattribute__")))
    (gg_BadNumber : PySem.W.findIn K (.ref C_BadNumber) "__getattr__" = some none)
    (gc_BadNumber : PySem.W.findIn K (.ref C_BadNumber) "__class__" = some (some (.builtin "object.__class__")))
    (gm_BadNumber : PySem.W.mroIn K C_BadNumber (.type "object") = some true)
    (a_BadPaper : PySem.W.nsIn K mainGlobals "BadPaper" = some (some (.ref C_BadPaper)))
    (b_BadPaper : PySem.W.subIn K (.ref C_BadPaper) (.type "BaseException") = some true)
    (d_BadPaper : PySem.W.hasDictIn K C_BadPaper = true)
    (t_BadPaper : PySem.W.typeIn K (.ref C_BadPaper) = some (.type "type"))
    (ga_BadPaper : PySem.W.findIn K (.ref C_BadPaper) "__getattribute__" = some (some (.builtin "BaseException.__getattribute__")))
    (gg_BadPaper : PySem.W.findIn K (.ref C_BadPaper) "__getattr__" = some none)
    (gc_BadPaper : PySem.W.findIn K (.ref C_BadPaper) "__class__" = some (some (.builtin "object.__class__")))
    (gm_BadPaper : PySem.W.mroIn K C_BadPaper (.type "object") = some true)
    (a_BadSigns : PySem.W.nsIn K mainGlobals "BadSigns" = some (some (.ref C_BadSigns)))
    (b_BadSigns : PySem.W.subIn K (.ref C_BadSigns) (.type "BaseException") = some true)
    (d_BadSigns : PySem.W.hasDictIn K C_BadSigns = true)
    (t_BadSigns : PySem.W.typeIn K (.ref C_BadSigns) = some (.type "type"))
    (ga_BadSigns : PySem.W.findIn K (.ref C_BadSigns) "__getattribute__" = some (some (.builtin "BaseException.__getattribute__")))
    (gg_BadSigns : PySem.W.findIn K (.ref C_BadSigns) "__getattr__" = some none)
    (gc_BadSigns : PySem.W.findIn K (.ref C_BadSigns) "__class__" = some (some (.builtin "object.__class__")))
    (gm_BadSigns : PySem.W.mroIn K C_BadSigns (.type "object") = some true)
    (a_BadStack : PySem.W.nsIn K mainGlobals "BadStack" = some (some (.ref C_BadStack)))
    (b_BadStack : PySem.W.subIn K (.ref C_BadStack) (.type "BaseException") = some true)
    (d_BadStack : PySem.W.hasDictIn K C_BadStack = true)
    (t_BadStack : PySem.W.typeIn K (.ref C_BadStack) = some (.type "type"))
    (ga_BadStack : PySem.W.findIn K (.ref C_BadStack) "__getattribute__" = some (some (.builtin "BaseException.__getattribute__")))
    (gg_BadStack : PySem.W.findIn K (.ref C_BadStack) "__getattr__" = some none)
    (gc_BadStack : PySem.W.findIn K (.ref C_BadStack) "__class__" = some (some (.builtin "object.__class__")))
    (gm_BadStack : PySem.W.mroIn K C_BadStack (.type "object") = some true)
    (a_BadText : PySem.W.nsIn K mainGlobals "BadText" = some (some (.ref C_BadText)))
    (b_BadText : PySem.W.subIn K (.ref C_BadText) (.type "BaseException") = some true)
    (d_BadText : PySem.W.hasDictIn K C_BadText = true)
    (t_BadText : PySem.W.typeIn K (.ref C_BadText) = some (.type "type"))
    (ga_BadText : PySem.W.findIn K (.ref C_BadText) "__getattribute__" = some (some (.builtin "BaseException.__getattribute__")))
    (gg_BadText : PySem.W.findIn K (.ref C_BadText) "__getattr__" = some none)
    (gc_BadText : PySem.W.findIn K (.ref C_BadText) "__class__" = some (some (.builtin "object.__class__")))
    (gm_BadText : PySem.W.mroIn K C_BadText (.type "object") = some true)
    (a_BadWeights : PySem.W.nsIn K mainGlobals "BadWeights" = some (some (.ref C_BadWeights)))
    (b_BadWeights : PySem.W.subIn K (.ref C_BadWeights) (.type "BaseException") = some true)
    (d_BadWeights : PySem.W.hasDictIn K C_BadWeights = true)
    (t_BadWeights : PySem.W.typeIn K (.ref C_BadWeights) = some (.type "type"))
    (ga_BadWeights : PySem.W.findIn K (.ref C_BadWeights) "__getattribute__" = some (some (.builtin "BaseException.__getattribute__")))
    (gg_BadWeights : PySem.W.findIn K (.ref C_BadWeights) "__getattr__" = some none)
    (gc_BadWeights : PySem.W.findIn K (.ref C_BadWeights) "__class__" = some (some (.builtin "object.__class__")))
    (gm_BadWeights : PySem.W.mroIn K C_BadWeights (.type "object") = some true)
    (a_FoldError : PySem.W.nsIn K mainGlobals "FoldError" = some (some (.ref C_FoldError)))
    (b_FoldError : PySem.W.subIn K (.ref C_FoldError) (.type "BaseException") = some true)
    (d_FoldError : PySem.W.hasDictIn K C_FoldError = true)
    (t_FoldError : PySem.W.typeIn K (.ref C_FoldError) = some (.type "type"))
    (ga_FoldError : PySem.W.findIn K (.ref C_FoldError) "__getattribute__" = some (some (.builtin "BaseException.__getattribute__")))
    (gg_FoldError : PySem.W.findIn K (.ref C_FoldError) "__getattr__" = some none)
    (gc_FoldError : PySem.W.findIn K (.ref C_FoldError) "__class__" = some (some (.builtin "object.__class__")))
    (gm_FoldError : PySem.W.mroIn K C_FoldError (.type "object") = some true)
    (a_Nothing : PySem.W.nsIn K mainGlobals "Nothing" = some (some (.ref C_Nothing)))
    (b_Nothing : PySem.W.subIn K (.ref C_Nothing) (.type "BaseException") = some true)
    (d_Nothing : PySem.W.hasDictIn K C_Nothing = true)
    (t_Nothing : PySem.W.typeIn K (.ref C_Nothing) = some (.type "type"))
    (ga_Nothing : PySem.W.findIn K (.ref C_Nothing) "__getattribute__" = some (some (.builtin "BaseException.__getattribute__")))
    (gg_Nothing : PySem.W.findIn K (.ref C_Nothing) "__getattr__" = some none)
    (gc_Nothing : PySem.W.findIn K (.ref C_Nothing) "__class__" = some (some (.builtin "object.__class__")))
    (gm_Nothing : PySem.W.mroIn K C_Nothing (.type "object") = some true)
    (a_TooGreat : PySem.W.nsIn K mainGlobals "TooGreat" = some (some (.ref C_TooGreat)))
    (b_TooGreat : PySem.W.subIn K (.ref C_TooGreat) (.type "BaseException") = some true)
    (d_TooGreat : PySem.W.hasDictIn K C_TooGreat = true)
    (t_TooGreat : PySem.W.typeIn K (.ref C_TooGreat) = some (.type "type"))
    (ga_TooGreat : PySem.W.findIn K (.ref C_TooGreat) "__getattribute__" = some (some (.builtin "BaseException.__getattribute__")))
    (gg_TooGreat : PySem.W.findIn K (.ref C_TooGreat) "__getattr__" = some none)
    (gc_TooGreat : PySem.W.findIn K (.ref C_TooGreat) "__class__" = some (some (.builtin "object.__class__")))
    (gm_TooGreat : PySem.W.mroIn K C_TooGreat (.type "object") = some true)
    (gs_ : PySem.W.specialIn K (.builtin "object.__class__") "__get__" = some (some (.builtin "getset_descriptor.__get__")))
    (gt_ : PySem.W.takesIn K (.builtin "object.__class__") = some true)
    (nb_ : PySem.W.nsIn K mainGlobals "~FoldError" = some none)
    (gf_BadCorner : PySem.W.findIn K (.ref C_BadCorner) (fieldOf "BadCorner") = some none)
    (gf_BadSigns : PySem.W.findIn K (.ref C_BadSigns) (fieldOf "BadSigns") = some none)
    (gf_BadStack : PySem.W.findIn K (.ref C_BadStack) (fieldOf "BadStack") = some none)
    (gf_BadNumber : PySem.W.findIn K (.ref C_BadNumber) (fieldOf "BadNumber") = some none)
    (gf_BadMask : PySem.W.findIn K (.ref C_BadMask) (fieldOf "BadMask") = some none)
    (gf_BadCreases : PySem.W.findIn K (.ref C_BadCreases) (fieldOf "BadCreases") = some none)
    (gf_BadWeights : PySem.W.findIn K (.ref C_BadWeights) (fieldOf "BadWeights") = some none)
    (gf_BadMove : PySem.W.findIn K (.ref C_BadMove) (fieldOf "BadMove") = some none)
    (gf_BadPaper : PySem.W.findIn K (.ref C_BadPaper) (fieldOf "BadPaper") = some none)
    (gf_BadText : PySem.W.findIn K (.ref C_BadText) (fieldOf "BadText") = some none)
    (gf_BadFacts : PySem.W.findIn K (.ref C_BadFacts) (fieldOf "BadFacts") = some none)
    (gf_TooGreat : PySem.W.findIn K (.ref C_TooGreat) (fieldOf "TooGreat") = some none)
    (gf_Nothing : PySem.W.findIn K (.ref C_Nothing) (fieldOf "Nothing") = some none)
    (s_BadCorner_BadCorner : PySem.W.subIn K (.ref C_BadCorner) (.ref C_BadCorner) = some true)
    (s_BadCorner_BadCreases : PySem.W.subIn K (.ref C_BadCorner) (.ref C_BadCreases) = some false)
    (s_BadCorner_BadFacts : PySem.W.subIn K (.ref C_BadCorner) (.ref C_BadFacts) = some false)
    (s_BadCorner_BadMask : PySem.W.subIn K (.ref C_BadCorner) (.ref C_BadMask) = some false)
    (s_BadCorner_BadMove : PySem.W.subIn K (.ref C_BadCorner) (.ref C_BadMove) = some false)
    (s_BadCorner_BadNumber : PySem.W.subIn K (.ref C_BadCorner) (.ref C_BadNumber) = some false)
    (s_BadCorner_BadPaper : PySem.W.subIn K (.ref C_BadCorner) (.ref C_BadPaper) = some false)
    (s_BadCorner_BadSigns : PySem.W.subIn K (.ref C_BadCorner) (.ref C_BadSigns) = some false)
    (s_BadCorner_BadStack : PySem.W.subIn K (.ref C_BadCorner) (.ref C_BadStack) = some false)
    (s_BadCorner_BadText : PySem.W.subIn K (.ref C_BadCorner) (.ref C_BadText) = some false)
    (s_BadCorner_BadWeights : PySem.W.subIn K (.ref C_BadCorner) (.ref C_BadWeights) = some false)
    (s_BadCorner_FoldError : PySem.W.subIn K (.ref C_BadCorner) (.ref C_FoldError) = some true)
    (s_BadCorner_Nothing : PySem.W.subIn K (.ref C_BadCorner) (.ref C_Nothing) = some false)
    (s_BadCorner_TooGreat : PySem.W.subIn K (.ref C_BadCorner) (.ref C_TooGreat) = some false)
    (y_BadCorner_ValueError : PySem.W.subIn K (.ref C_BadCorner) (.type "ValueError") = some true)
    (y_BadCorner_OverflowError : PySem.W.subIn K (.ref C_BadCorner) (.type "OverflowError") = some false)
    (y_BadCorner_LookupError : PySem.W.subIn K (.ref C_BadCorner) (.type "LookupError") = some false)
    (y_BadCorner_KeyError : PySem.W.subIn K (.ref C_BadCorner) (.type "KeyError") = some false)
    (y_BadCorner_IndexError : PySem.W.subIn K (.ref C_BadCorner) (.type "IndexError") = some false)
    (y_BadCorner_TypeError : PySem.W.subIn K (.ref C_BadCorner) (.type "TypeError") = some false)
    (y_BadCorner_RuntimeError : PySem.W.subIn K (.ref C_BadCorner) (.type "RuntimeError") = some false)
    (s_BadCreases_BadCorner : PySem.W.subIn K (.ref C_BadCreases) (.ref C_BadCorner) = some false)
    (s_BadCreases_BadCreases : PySem.W.subIn K (.ref C_BadCreases) (.ref C_BadCreases) = some true)
    (s_BadCreases_BadFacts : PySem.W.subIn K (.ref C_BadCreases) (.ref C_BadFacts) = some false)
    (s_BadCreases_BadMask : PySem.W.subIn K (.ref C_BadCreases) (.ref C_BadMask) = some false)
    (s_BadCreases_BadMove : PySem.W.subIn K (.ref C_BadCreases) (.ref C_BadMove) = some false)
    (s_BadCreases_BadNumber : PySem.W.subIn K (.ref C_BadCreases) (.ref C_BadNumber) = some false)
    (s_BadCreases_BadPaper : PySem.W.subIn K (.ref C_BadCreases) (.ref C_BadPaper) = some false)
    (s_BadCreases_BadSigns : PySem.W.subIn K (.ref C_BadCreases) (.ref C_BadSigns) = some false)
    (s_BadCreases_BadStack : PySem.W.subIn K (.ref C_BadCreases) (.ref C_BadStack) = some false)
    (s_BadCreases_BadText : PySem.W.subIn K (.ref C_BadCreases) (.ref C_BadText) = some false)
    (s_BadCreases_BadWeights : PySem.W.subIn K (.ref C_BadCreases) (.ref C_BadWeights) = some false)
    (s_BadCreases_FoldError : PySem.W.subIn K (.ref C_BadCreases) (.ref C_FoldError) = some true)
    (s_BadCreases_Nothing : PySem.W.subIn K (.ref C_BadCreases) (.ref C_Nothing) = some false)
    (s_BadCreases_TooGreat : PySem.W.subIn K (.ref C_BadCreases) (.ref C_TooGreat) = some false)
    (y_BadCreases_ValueError : PySem.W.subIn K (.ref C_BadCreases) (.type "ValueError") = some true)
    (y_BadCreases_OverflowError : PySem.W.subIn K (.ref C_BadCreases) (.type "OverflowError") = some false)
    (y_BadCreases_LookupError : PySem.W.subIn K (.ref C_BadCreases) (.type "LookupError") = some false)
    (y_BadCreases_KeyError : PySem.W.subIn K (.ref C_BadCreases) (.type "KeyError") = some false)
    (y_BadCreases_IndexError : PySem.W.subIn K (.ref C_BadCreases) (.type "IndexError") = some false)
    (y_BadCreases_TypeError : PySem.W.subIn K (.ref C_BadCreases) (.type "TypeError") = some false)
    (y_BadCreases_RuntimeError : PySem.W.subIn K (.ref C_BadCreases) (.type "RuntimeError") = some false)
    (s_BadFacts_BadCorner : PySem.W.subIn K (.ref C_BadFacts) (.ref C_BadCorner) = some false)
    (s_BadFacts_BadCreases : PySem.W.subIn K (.ref C_BadFacts) (.ref C_BadCreases) = some false)
    (s_BadFacts_BadFacts : PySem.W.subIn K (.ref C_BadFacts) (.ref C_BadFacts) = some true)
    (s_BadFacts_BadMask : PySem.W.subIn K (.ref C_BadFacts) (.ref C_BadMask) = some false)
    (s_BadFacts_BadMove : PySem.W.subIn K (.ref C_BadFacts) (.ref C_BadMove) = some false)
    (s_BadFacts_BadNumber : PySem.W.subIn K (.ref C_BadFacts) (.ref C_BadNumber) = some false)
    (s_BadFacts_BadPaper : PySem.W.subIn K (.ref C_BadFacts) (.ref C_BadPaper) = some false)
    (s_BadFacts_BadSigns : PySem.W.subIn K (.ref C_BadFacts) (.ref C_BadSigns) = some false)
    (s_BadFacts_BadStack : PySem.W.subIn K (.ref C_BadFacts) (.ref C_BadStack) = some false)
    (s_BadFacts_BadText : PySem.W.subIn K (.ref C_BadFacts) (.ref C_BadText) = some false)
    (s_BadFacts_BadWeights : PySem.W.subIn K (.ref C_BadFacts) (.ref C_BadWeights) = some false)
    (s_BadFacts_FoldError : PySem.W.subIn K (.ref C_BadFacts) (.ref C_FoldError) = some true)
    (s_BadFacts_Nothing : PySem.W.subIn K (.ref C_BadFacts) (.ref C_Nothing) = some false)
    (s_BadFacts_TooGreat : PySem.W.subIn K (.ref C_BadFacts) (.ref C_TooGreat) = some false)
    (y_BadFacts_ValueError : PySem.W.subIn K (.ref C_BadFacts) (.type "ValueError") = some true)
    (y_BadFacts_OverflowError : PySem.W.subIn K (.ref C_BadFacts) (.type "OverflowError") = some false)
    (y_BadFacts_LookupError : PySem.W.subIn K (.ref C_BadFacts) (.type "LookupError") = some false)
    (y_BadFacts_KeyError : PySem.W.subIn K (.ref C_BadFacts) (.type "KeyError") = some false)
    (y_BadFacts_IndexError : PySem.W.subIn K (.ref C_BadFacts) (.type "IndexError") = some false)
    (y_BadFacts_TypeError : PySem.W.subIn K (.ref C_BadFacts) (.type "TypeError") = some false)
    (y_BadFacts_RuntimeError : PySem.W.subIn K (.ref C_BadFacts) (.type "RuntimeError") = some false)
    (s_BadMask_BadCorner : PySem.W.subIn K (.ref C_BadMask) (.ref C_BadCorner) = some false)
    (s_BadMask_BadCreases : PySem.W.subIn K (.ref C_BadMask) (.ref C_BadCreases) = some false)
    (s_BadMask_BadFacts : PySem.W.subIn K (.ref C_BadMask) (.ref C_BadFacts) = some false)
    (s_BadMask_BadMask : PySem.W.subIn K (.ref C_BadMask) (.ref C_BadMask) = some true)
    (s_BadMask_BadMove : PySem.W.subIn K (.ref C_BadMask) (.ref C_BadMove) = some false)
    (s_BadMask_BadNumber : PySem.W.subIn K (.ref C_BadMask) (.ref C_BadNumber) = some false)
    (s_BadMask_BadPaper : PySem.W.subIn K (.ref C_BadMask) (.ref C_BadPaper) = some false)
    (s_BadMask_BadSigns : PySem.W.subIn K (.ref C_BadMask) (.ref C_BadSigns) = some false)
    (s_BadMask_BadStack : PySem.W.subIn K (.ref C_BadMask) (.ref C_BadStack) = some false)
    (s_BadMask_BadText : PySem.W.subIn K (.ref C_BadMask) (.ref C_BadText) = some false)
    (s_BadMask_BadWeights : PySem.W.subIn K (.ref C_BadMask) (.ref C_BadWeights) = some false)
    (s_BadMask_FoldError : PySem.W.subIn K (.ref C_BadMask) (.ref C_FoldError) = some true)
    (s_BadMask_Nothing : PySem.W.subIn K (.ref C_BadMask) (.ref C_Nothing) = some false)
    (s_BadMask_TooGreat : PySem.W.subIn K (.ref C_BadMask) (.ref C_TooGreat) = some false)
    (y_BadMask_ValueError : PySem.W.subIn K (.ref C_BadMask) (.type "ValueError") = some true)
    (y_BadMask_OverflowError : PySem.W.subIn K (.ref C_BadMask) (.type "OverflowError") = some false)
    (y_BadMask_LookupError : PySem.W.subIn K (.ref C_BadMask) (.type "LookupError") = some false)
    (y_BadMask_KeyError : PySem.W.subIn K (.ref C_BadMask) (.type "KeyError") = some false)
    (y_BadMask_IndexError : PySem.W.subIn K (.ref C_BadMask) (.type "IndexError") = some false)
    (y_BadMask_TypeError : PySem.W.subIn K (.ref C_BadMask) (.type "TypeError") = some false)
    (y_BadMask_RuntimeError : PySem.W.subIn K (.ref C_BadMask) (.type "RuntimeError") = some false)
    (s_BadMove_BadCorner : PySem.W.subIn K (.ref C_BadMove) (.ref C_BadCorner) = some false)
    (s_BadMove_BadCreases : PySem.W.subIn K (.ref C_BadMove) (.ref C_BadCreases) = some false)
    (s_BadMove_BadFacts : PySem.W.subIn K (.ref C_BadMove) (.ref C_BadFacts) = some false)
    (s_BadMove_BadMask : PySem.W.subIn K (.ref C_BadMove) (.ref C_BadMask) = some false)
    (s_BadMove_BadMove : PySem.W.subIn K (.ref C_BadMove) (.ref C_BadMove) = some true)
    (s_BadMove_BadNumber : PySem.W.subIn K (.ref C_BadMove) (.ref C_BadNumber) = some false)
    (s_BadMove_BadPaper : PySem.W.subIn K (.ref C_BadMove) (.ref C_BadPaper) = some false)
    (s_BadMove_BadSigns : PySem.W.subIn K (.ref C_BadMove) (.ref C_BadSigns) = some false)
    (s_BadMove_BadStack : PySem.W.subIn K (.ref C_BadMove) (.ref C_BadStack) = some false)
    (s_BadMove_BadText : PySem.W.subIn K (.ref C_BadMove) (.ref C_BadText) = some false)
    (s_BadMove_BadWeights : PySem.W.subIn K (.ref C_BadMove) (.ref C_BadWeights) = some false)
    (s_BadMove_FoldError : PySem.W.subIn K (.ref C_BadMove) (.ref C_FoldError) = some true)
    (s_BadMove_Nothing : PySem.W.subIn K (.ref C_BadMove) (.ref C_Nothing) = some false)
    (s_BadMove_TooGreat : PySem.W.subIn K (.ref C_BadMove) (.ref C_TooGreat) = some false)
    (y_BadMove_ValueError : PySem.W.subIn K (.ref C_BadMove) (.type "ValueError") = some true)
    (y_BadMove_OverflowError : PySem.W.subIn K (.ref C_BadMove) (.type "OverflowError") = some false)
    (y_BadMove_LookupError : PySem.W.subIn K (.ref C_BadMove) (.type "LookupError") = some false)
    (y_BadMove_KeyError : PySem.W.subIn K (.ref C_BadMove) (.type "KeyError") = some false)
    (y_BadMove_IndexError : PySem.W.subIn K (.ref C_BadMove) (.type "IndexError") = some false)
    (y_BadMove_TypeError : PySem.W.subIn K (.ref C_BadMove) (.type "TypeError") = some false)
    (y_BadMove_RuntimeError : PySem.W.subIn K (.ref C_BadMove) (.type "RuntimeError") = some false)
    (s_BadNumber_BadCorner : PySem.W.subIn K (.ref C_BadNumber) (.ref C_BadCorner) = some false)
    (s_BadNumber_BadCreases : PySem.W.subIn K (.ref C_BadNumber) (.ref C_BadCreases) = some false)
    (s_BadNumber_BadFacts : PySem.W.subIn K (.ref C_BadNumber) (.ref C_BadFacts) = some false)
    (s_BadNumber_BadMask : PySem.W.subIn K (.ref C_BadNumber) (.ref C_BadMask) = some false)
    (s_BadNumber_BadMove : PySem.W.subIn K (.ref C_BadNumber) (.ref C_BadMove) = some false)
    (s_BadNumber_BadNumber : PySem.W.subIn K (.ref C_BadNumber) (.ref C_BadNumber) = some true)
    (s_BadNumber_BadPaper : PySem.W.subIn K (.ref C_BadNumber) (.ref C_BadPaper) = some false)
    (s_BadNumber_BadSigns : PySem.W.subIn K (.ref C_BadNumber) (.ref C_BadSigns) = some false)
    (s_BadNumber_BadStack : PySem.W.subIn K (.ref C_BadNumber) (.ref C_BadStack) = some false)
    (s_BadNumber_BadText : PySem.W.subIn K (.ref C_BadNumber) (.ref C_BadText) = some false)
    (s_BadNumber_BadWeights : PySem.W.subIn K (.ref C_BadNumber) (.ref C_BadWeights) = some false)
    (s_BadNumber_FoldError : PySem.W.subIn K (.ref C_BadNumber) (.ref C_FoldError) = some true)
    (s_BadNumber_Nothing : PySem.W.subIn K (.ref C_BadNumber) (.ref C_Nothing) = some false)
    (s_BadNumber_TooGreat : PySem.W.subIn K (.ref C_BadNumber) (.ref C_TooGreat) = some false)
    (y_BadNumber_ValueError : PySem.W.subIn K (.ref C_BadNumber) (.type "ValueError") = some true)
    (y_BadNumber_OverflowError : PySem.W.subIn K (.ref C_BadNumber) (.type "OverflowError") = some false)
    (y_BadNumber_LookupError : PySem.W.subIn K (.ref C_BadNumber) (.type "LookupError") = some false)
    (y_BadNumber_KeyError : PySem.W.subIn K (.ref C_BadNumber) (.type "KeyError") = some false)
    (y_BadNumber_IndexError : PySem.W.subIn K (.ref C_BadNumber) (.type "IndexError") = some false)
    (y_BadNumber_TypeError : PySem.W.subIn K (.ref C_BadNumber) (.type "TypeError") = some false)
    (y_BadNumber_RuntimeError : PySem.W.subIn K (.ref C_BadNumber) (.type "RuntimeError") = some false)
    (s_BadPaper_BadCorner : PySem.W.subIn K (.ref C_BadPaper) (.ref C_BadCorner) = some false)
    (s_BadPaper_BadCreases : PySem.W.subIn K (.ref C_BadPaper) (.ref C_BadCreases) = some false)
    (s_BadPaper_BadFacts : PySem.W.subIn K (.ref C_BadPaper) (.ref C_BadFacts) = some false)
    (s_BadPaper_BadMask : PySem.W.subIn K (.ref C_BadPaper) (.ref C_BadMask) = some false)
    (s_BadPaper_BadMove : PySem.W.subIn K (.ref C_BadPaper) (.ref C_BadMove) = some false)
    (s_BadPaper_BadNumber : PySem.W.subIn K (.ref C_BadPaper) (.ref C_BadNumber) = some false)
    (s_BadPaper_BadPaper : PySem.W.subIn K (.ref C_BadPaper) (.ref C_BadPaper) = some true)
    (s_BadPaper_BadSigns : PySem.W.subIn K (.ref C_BadPaper) (.ref C_BadSigns) = some false)
    (s_BadPaper_BadStack : PySem.W.subIn K (.ref C_BadPaper) (.ref C_BadStack) = some false)
    (s_BadPaper_BadText : PySem.W.subIn K (.ref C_BadPaper) (.ref C_BadText) = some false)
    (s_BadPaper_BadWeights : PySem.W.subIn K (.ref C_BadPaper) (.ref C_BadWeights) = some false)
    (s_BadPaper_FoldError : PySem.W.subIn K (.ref C_BadPaper) (.ref C_FoldError) = some true)
    (s_BadPaper_Nothing : PySem.W.subIn K (.ref C_BadPaper) (.ref C_Nothing) = some false)
    (s_BadPaper_TooGreat : PySem.W.subIn K (.ref C_BadPaper) (.ref C_TooGreat) = some false)
    (y_BadPaper_ValueError : PySem.W.subIn K (.ref C_BadPaper) (.type "ValueError") = some true)
    (y_BadPaper_OverflowError : PySem.W.subIn K (.ref C_BadPaper) (.type "OverflowError") = some false)
    (y_BadPaper_LookupError : PySem.W.subIn K (.ref C_BadPaper) (.type "LookupError") = some false)
    (y_BadPaper_KeyError : PySem.W.subIn K (.ref C_BadPaper) (.type "KeyError") = some false)
    (y_BadPaper_IndexError : PySem.W.subIn K (.ref C_BadPaper) (.type "IndexError") = some false)
    (y_BadPaper_TypeError : PySem.W.subIn K (.ref C_BadPaper) (.type "TypeError") = some false)
    (y_BadPaper_RuntimeError : PySem.W.subIn K (.ref C_BadPaper) (.type "RuntimeError") = some false)
    (s_BadSigns_BadCorner : PySem.W.subIn K (.ref C_BadSigns) (.ref C_BadCorner) = some false)
    (s_BadSigns_BadCreases : PySem.W.subIn K (.ref C_BadSigns) (.ref C_BadCreases) = some false)
    (s_BadSigns_BadFacts : PySem.W.subIn K (.ref C_BadSigns) (.ref C_BadFacts) = some false)
    (s_BadSigns_BadMask : PySem.W.subIn K (.ref C_BadSigns) (.ref C_BadMask) = some false)
    (s_BadSigns_BadMove : PySem.W.subIn K (.ref C_BadSigns) (.ref C_BadMove) = some false)
    (s_BadSigns_BadNumber : PySem.W.subIn K (.ref C_BadSigns) (.ref C_BadNumber) = some false)
    (s_BadSigns_BadPaper : PySem.W.subIn K (.ref C_BadSigns) (.ref C_BadPaper) = some false)
    (s_BadSigns_BadSigns : PySem.W.subIn K (.ref C_BadSigns) (.ref C_BadSigns) = some true)
    (s_BadSigns_BadStack : PySem.W.subIn K (.ref C_BadSigns) (.ref C_BadStack) = some false)
    (s_BadSigns_BadText : PySem.W.subIn K (.ref C_BadSigns) (.ref C_BadText) = some false)
    (s_BadSigns_BadWeights : PySem.W.subIn K (.ref C_BadSigns) (.ref C_BadWeights) = some false)
    (s_BadSigns_FoldError : PySem.W.subIn K (.ref C_BadSigns) (.ref C_FoldError) = some true)
    (s_BadSigns_Nothing : PySem.W.subIn K (.ref C_BadSigns) (.ref C_Nothing) = some false)
    (s_BadSigns_TooGreat : PySem.W.subIn K (.ref C_BadSigns) (.ref C_TooGreat) = some false)
    (y_BadSigns_ValueError : PySem.W.subIn K (.ref C_BadSigns) (.type "ValueError") = some true)
    (y_BadSigns_OverflowError : PySem.W.subIn K (.ref C_BadSigns) (.type "OverflowError") = some false)
    (y_BadSigns_LookupError : PySem.W.subIn K (.ref C_BadSigns) (.type "LookupError") = some false)
    (y_BadSigns_KeyError : PySem.W.subIn K (.ref C_BadSigns) (.type "KeyError") = some false)
    (y_BadSigns_IndexError : PySem.W.subIn K (.ref C_BadSigns) (.type "IndexError") = some false)
    (y_BadSigns_TypeError : PySem.W.subIn K (.ref C_BadSigns) (.type "TypeError") = some false)
    (y_BadSigns_RuntimeError : PySem.W.subIn K (.ref C_BadSigns) (.type "RuntimeError") = some false)
    (s_BadStack_BadCorner : PySem.W.subIn K (.ref C_BadStack) (.ref C_BadCorner) = some false)
    (s_BadStack_BadCreases : PySem.W.subIn K (.ref C_BadStack) (.ref C_BadCreases) = some false)
    (s_BadStack_BadFacts : PySem.W.subIn K (.ref C_BadStack) (.ref C_BadFacts) = some false)
    (s_BadStack_BadMask : PySem.W.subIn K (.ref C_BadStack) (.ref C_BadMask) = some false)
    (s_BadStack_BadMove : PySem.W.subIn K (.ref C_BadStack) (.ref C_BadMove) = some false)
    (s_BadStack_BadNumber : PySem.W.subIn K (.ref C_BadStack) (.ref C_BadNumber) = some false)
    (s_BadStack_BadPaper : PySem.W.subIn K (.ref C_BadStack) (.ref C_BadPaper) = some false)
    (s_BadStack_BadSigns : PySem.W.subIn K (.ref C_BadStack) (.ref C_BadSigns) = some false)
    (s_BadStack_BadStack : PySem.W.subIn K (.ref C_BadStack) (.ref C_BadStack) = some true)
    (s_BadStack_BadText : PySem.W.subIn K (.ref C_BadStack) (.ref C_BadText) = some false)
    (s_BadStack_BadWeights : PySem.W.subIn K (.ref C_BadStack) (.ref C_BadWeights) = some false)
    (s_BadStack_FoldError : PySem.W.subIn K (.ref C_BadStack) (.ref C_FoldError) = some true)
    (s_BadStack_Nothing : PySem.W.subIn K (.ref C_BadStack) (.ref C_Nothing) = some false)
    (s_BadStack_TooGreat : PySem.W.subIn K (.ref C_BadStack) (.ref C_TooGreat) = some false)
    (y_BadStack_ValueError : PySem.W.subIn K (.ref C_BadStack) (.type "ValueError") = some true)
    (y_BadStack_OverflowError : PySem.W.subIn K (.ref C_BadStack) (.type "OverflowError") = some false)
    (y_BadStack_LookupError : PySem.W.subIn K (.ref C_BadStack) (.type "LookupError") = some false)
    (y_BadStack_KeyError : PySem.W.subIn K (.ref C_BadStack) (.type "KeyError") = some false)
    (y_BadStack_IndexError : PySem.W.subIn K (.ref C_BadStack) (.type "IndexError") = some false)
    (y_BadStack_TypeError : PySem.W.subIn K (.ref C_BadStack) (.type "TypeError") = some false)
    (y_BadStack_RuntimeError : PySem.W.subIn K (.ref C_BadStack) (.type "RuntimeError") = some false)
    (s_BadText_BadCorner : PySem.W.subIn K (.ref C_BadText) (.ref C_BadCorner) = some false)
    (s_BadText_BadCreases : PySem.W.subIn K (.ref C_BadText) (.ref C_BadCreases) = some false)
    (s_BadText_BadFacts : PySem.W.subIn K (.ref C_BadText) (.ref C_BadFacts) = some false)
    (s_BadText_BadMask : PySem.W.subIn K (.ref C_BadText) (.ref C_BadMask) = some false)
    (s_BadText_BadMove : PySem.W.subIn K (.ref C_BadText) (.ref C_BadMove) = some false)
    (s_BadText_BadNumber : PySem.W.subIn K (.ref C_BadText) (.ref C_BadNumber) = some false)
    (s_BadText_BadPaper : PySem.W.subIn K (.ref C_BadText) (.ref C_BadPaper) = some false)
    (s_BadText_BadSigns : PySem.W.subIn K (.ref C_BadText) (.ref C_BadSigns) = some false)
    (s_BadText_BadStack : PySem.W.subIn K (.ref C_BadText) (.ref C_BadStack) = some false)
    (s_BadText_BadText : PySem.W.subIn K (.ref C_BadText) (.ref C_BadText) = some true)
    (s_BadText_BadWeights : PySem.W.subIn K (.ref C_BadText) (.ref C_BadWeights) = some false)
    (s_BadText_FoldError : PySem.W.subIn K (.ref C_BadText) (.ref C_FoldError) = some true)
    (s_BadText_Nothing : PySem.W.subIn K (.ref C_BadText) (.ref C_Nothing) = some false)
    (s_BadText_TooGreat : PySem.W.subIn K (.ref C_BadText) (.ref C_TooGreat) = some false)
    (y_BadText_ValueError : PySem.W.subIn K (.ref C_BadText) (.type "ValueError") = some true)
    (y_BadText_OverflowError : PySem.W.subIn K (.ref C_BadText) (.type "OverflowError") = some false)
    (y_BadText_LookupError : PySem.W.subIn K (.ref C_BadText) (.type "LookupError") = some false)
    (y_BadText_KeyError : PySem.W.subIn K (.ref C_BadText) (.type "KeyError") = some false)
    (y_BadText_IndexError : PySem.W.subIn K (.ref C_BadText) (.type "IndexError") = some false)
    (y_BadText_TypeError : PySem.W.subIn K (.ref C_BadText) (.type "TypeError") = some false)
    (y_BadText_RuntimeError : PySem.W.subIn K (.ref C_BadText) (.type "RuntimeError") = some false)
    (s_BadWeights_BadCorner : PySem.W.subIn K (.ref C_BadWeights) (.ref C_BadCorner) = some false)
    (s_BadWeights_BadCreases : PySem.W.subIn K (.ref C_BadWeights) (.ref C_BadCreases) = some false)
    (s_BadWeights_BadFacts : PySem.W.subIn K (.ref C_BadWeights) (.ref C_BadFacts) = some false)
    (s_BadWeights_BadMask : PySem.W.subIn K (.ref C_BadWeights) (.ref C_BadMask) = some false)
    (s_BadWeights_BadMove : PySem.W.subIn K (.ref C_BadWeights) (.ref C_BadMove) = some false)
    (s_BadWeights_BadNumber : PySem.W.subIn K (.ref C_BadWeights) (.ref C_BadNumber) = some false)
    (s_BadWeights_BadPaper : PySem.W.subIn K (.ref C_BadWeights) (.ref C_BadPaper) = some false)
    (s_BadWeights_BadSigns : PySem.W.subIn K (.ref C_BadWeights) (.ref C_BadSigns) = some false)
    (s_BadWeights_BadStack : PySem.W.subIn K (.ref C_BadWeights) (.ref C_BadStack) = some false)
    (s_BadWeights_BadText : PySem.W.subIn K (.ref C_BadWeights) (.ref C_BadText) = some false)
    (s_BadWeights_BadWeights : PySem.W.subIn K (.ref C_BadWeights) (.ref C_BadWeights) = some true)
    (s_BadWeights_FoldError : PySem.W.subIn K (.ref C_BadWeights) (.ref C_FoldError) = some true)
    (s_BadWeights_Nothing : PySem.W.subIn K (.ref C_BadWeights) (.ref C_Nothing) = some false)
    (s_BadWeights_TooGreat : PySem.W.subIn K (.ref C_BadWeights) (.ref C_TooGreat) = some false)
    (y_BadWeights_ValueError : PySem.W.subIn K (.ref C_BadWeights) (.type "ValueError") = some true)
    (y_BadWeights_OverflowError : PySem.W.subIn K (.ref C_BadWeights) (.type "OverflowError") = some false)
    (y_BadWeights_LookupError : PySem.W.subIn K (.ref C_BadWeights) (.type "LookupError") = some false)
    (y_BadWeights_KeyError : PySem.W.subIn K (.ref C_BadWeights) (.type "KeyError") = some false)
    (y_BadWeights_IndexError : PySem.W.subIn K (.ref C_BadWeights) (.type "IndexError") = some false)
    (y_BadWeights_TypeError : PySem.W.subIn K (.ref C_BadWeights) (.type "TypeError") = some false)
    (y_BadWeights_RuntimeError : PySem.W.subIn K (.ref C_BadWeights) (.type "RuntimeError") = some false)
    (s_FoldError_BadCorner : PySem.W.subIn K (.ref C_FoldError) (.ref C_BadCorner) = some false)
    (s_FoldError_BadCreases : PySem.W.subIn K (.ref C_FoldError) (.ref C_BadCreases) = some false)
    (s_FoldError_BadFacts : PySem.W.subIn K (.ref C_FoldError) (.ref C_BadFacts) = some false)
    (s_FoldError_BadMask : PySem.W.subIn K (.ref C_FoldError) (.ref C_BadMask) = some false)
    (s_FoldError_BadMove : PySem.W.subIn K (.ref C_FoldError) (.ref C_BadMove) = some false)
    (s_FoldError_BadNumber : PySem.W.subIn K (.ref C_FoldError) (.ref C_BadNumber) = some false)
    (s_FoldError_BadPaper : PySem.W.subIn K (.ref C_FoldError) (.ref C_BadPaper) = some false)
    (s_FoldError_BadSigns : PySem.W.subIn K (.ref C_FoldError) (.ref C_BadSigns) = some false)
    (s_FoldError_BadStack : PySem.W.subIn K (.ref C_FoldError) (.ref C_BadStack) = some false)
    (s_FoldError_BadText : PySem.W.subIn K (.ref C_FoldError) (.ref C_BadText) = some false)
    (s_FoldError_BadWeights : PySem.W.subIn K (.ref C_FoldError) (.ref C_BadWeights) = some false)
    (s_FoldError_FoldError : PySem.W.subIn K (.ref C_FoldError) (.ref C_FoldError) = some true)
    (s_FoldError_Nothing : PySem.W.subIn K (.ref C_FoldError) (.ref C_Nothing) = some false)
    (s_FoldError_TooGreat : PySem.W.subIn K (.ref C_FoldError) (.ref C_TooGreat) = some false)
    (y_FoldError_ValueError : PySem.W.subIn K (.ref C_FoldError) (.type "ValueError") = some true)
    (y_FoldError_OverflowError : PySem.W.subIn K (.ref C_FoldError) (.type "OverflowError") = some false)
    (y_FoldError_LookupError : PySem.W.subIn K (.ref C_FoldError) (.type "LookupError") = some false)
    (y_FoldError_KeyError : PySem.W.subIn K (.ref C_FoldError) (.type "KeyError") = some false)
    (y_FoldError_IndexError : PySem.W.subIn K (.ref C_FoldError) (.type "IndexError") = some false)
    (y_FoldError_TypeError : PySem.W.subIn K (.ref C_FoldError) (.type "TypeError") = some false)
    (y_FoldError_RuntimeError : PySem.W.subIn K (.ref C_FoldError) (.type "RuntimeError") = some false)
    (s_Nothing_BadCorner : PySem.W.subIn K (.ref C_Nothing) (.ref C_BadCorner) = some false)
    (s_Nothing_BadCreases : PySem.W.subIn K (.ref C_Nothing) (.ref C_BadCreases) = some false)
    (s_Nothing_BadFacts : PySem.W.subIn K (.ref C_Nothing) (.ref C_BadFacts) = some false)
    (s_Nothing_BadMask : PySem.W.subIn K (.ref C_Nothing) (.ref C_BadMask) = some false)
    (s_Nothing_BadMove : PySem.W.subIn K (.ref C_Nothing) (.ref C_BadMove) = some false)
    (s_Nothing_BadNumber : PySem.W.subIn K (.ref C_Nothing) (.ref C_BadNumber) = some false)
    (s_Nothing_BadPaper : PySem.W.subIn K (.ref C_Nothing) (.ref C_BadPaper) = some false)
    (s_Nothing_BadSigns : PySem.W.subIn K (.ref C_Nothing) (.ref C_BadSigns) = some false)
    (s_Nothing_BadStack : PySem.W.subIn K (.ref C_Nothing) (.ref C_BadStack) = some false)
    (s_Nothing_BadText : PySem.W.subIn K (.ref C_Nothing) (.ref C_BadText) = some false)
    (s_Nothing_BadWeights : PySem.W.subIn K (.ref C_Nothing) (.ref C_BadWeights) = some false)
    (s_Nothing_FoldError : PySem.W.subIn K (.ref C_Nothing) (.ref C_FoldError) = some false)
    (s_Nothing_Nothing : PySem.W.subIn K (.ref C_Nothing) (.ref C_Nothing) = some true)
    (s_Nothing_TooGreat : PySem.W.subIn K (.ref C_Nothing) (.ref C_TooGreat) = some false)
    (y_Nothing_ValueError : PySem.W.subIn K (.ref C_Nothing) (.type "ValueError") = some false)
    (y_Nothing_OverflowError : PySem.W.subIn K (.ref C_Nothing) (.type "OverflowError") = some false)
    (y_Nothing_LookupError : PySem.W.subIn K (.ref C_Nothing) (.type "LookupError") = some true)
    (y_Nothing_KeyError : PySem.W.subIn K (.ref C_Nothing) (.type "KeyError") = some false)
    (y_Nothing_IndexError : PySem.W.subIn K (.ref C_Nothing) (.type "IndexError") = some false)
    (y_Nothing_TypeError : PySem.W.subIn K (.ref C_Nothing) (.type "TypeError") = some false)
    (y_Nothing_RuntimeError : PySem.W.subIn K (.ref C_Nothing) (.type "RuntimeError") = some false)
    (s_TooGreat_BadCorner : PySem.W.subIn K (.ref C_TooGreat) (.ref C_BadCorner) = some false)
    (s_TooGreat_BadCreases : PySem.W.subIn K (.ref C_TooGreat) (.ref C_BadCreases) = some false)
    (s_TooGreat_BadFacts : PySem.W.subIn K (.ref C_TooGreat) (.ref C_BadFacts) = some false)
    (s_TooGreat_BadMask : PySem.W.subIn K (.ref C_TooGreat) (.ref C_BadMask) = some false)
    (s_TooGreat_BadMove : PySem.W.subIn K (.ref C_TooGreat) (.ref C_BadMove) = some false)
    (s_TooGreat_BadNumber : PySem.W.subIn K (.ref C_TooGreat) (.ref C_BadNumber) = some false)
    (s_TooGreat_BadPaper : PySem.W.subIn K (.ref C_TooGreat) (.ref C_BadPaper) = some false)
    (s_TooGreat_BadSigns : PySem.W.subIn K (.ref C_TooGreat) (.ref C_BadSigns) = some false)
    (s_TooGreat_BadStack : PySem.W.subIn K (.ref C_TooGreat) (.ref C_BadStack) = some false)
    (s_TooGreat_BadText : PySem.W.subIn K (.ref C_TooGreat) (.ref C_BadText) = some false)
    (s_TooGreat_BadWeights : PySem.W.subIn K (.ref C_TooGreat) (.ref C_BadWeights) = some false)
    (s_TooGreat_FoldError : PySem.W.subIn K (.ref C_TooGreat) (.ref C_FoldError) = some false)
    (s_TooGreat_Nothing : PySem.W.subIn K (.ref C_TooGreat) (.ref C_Nothing) = some false)
    (s_TooGreat_TooGreat : PySem.W.subIn K (.ref C_TooGreat) (.ref C_TooGreat) = some true)
    (y_TooGreat_ValueError : PySem.W.subIn K (.ref C_TooGreat) (.type "ValueError") = some false)
    (y_TooGreat_OverflowError : PySem.W.subIn K (.ref C_TooGreat) (.type "OverflowError") = some true)
    (y_TooGreat_LookupError : PySem.W.subIn K (.ref C_TooGreat) (.type "LookupError") = some false)
    (y_TooGreat_KeyError : PySem.W.subIn K (.ref C_TooGreat) (.type "KeyError") = some false)
    (y_TooGreat_IndexError : PySem.W.subIn K (.ref C_TooGreat) (.type "IndexError") = some false)
    (y_TooGreat_TypeError : PySem.W.subIn K (.ref C_TooGreat) (.type "TypeError") = some false)
    (y_TooGreat_RuntimeError : PySem.W.subIn K (.ref C_TooGreat) (.type "RuntimeError") = some false)
    (kC_FoldError : PySem.W.keepIn K (.ref C_FoldError) = true)
    (fs_ : PySem.W.findIn K (.ref C_FoldError) "__str__" = some (some (.builtin "BaseException.__str__")))
    (fb_ : ExcBaseFacts B_ nw_ ini_ bm_)
    (q_ : PySem.W.excIn K C_FoldError bm_ nw_ = true)
    (hsu : PySem.W.nsIn K mainGlobals "super" = some none)
    (hth : PySem.W.nsIn K cStatics "thirdparty.any" = some none)
    (htop : (P.main.scope.names.lookup ("super" : Str)).isSome = false)
    (xL_BadCorner : K.lookup C_BadCorner = some (excClassObj nm_BadCorner qq_BadCorner C_BadCorner N_BadCorner bs_BadCorner [.ref C_FoldError, .type "ValueError", .type "Exception", .type "BaseException", .type "object"] true sn_BadCorner sub_BadCorner ab_BadCorner col_BadCorner dd_BadCorner m0_BadCorner m1_BadCorner m2_BadCorner m3_BadCorner m5_BadCorner "ValueError.__new__"))
    (sa_BadCorner : PySem.W.findIn K (.ref C_BadCorner) "__setattr__" = some (some (.builtin "object.__setattr__")))
    (kC_BadCorner : PySem.W.keepIn K (.ref C_BadCorner) = true)
    (iC_BadCorner : PySem.W.findIn K (.ref C_BadCorner) "__init__" = some (some (.ref f1_BadCorner)))
    (tI_BadCorner : PySem.W.typeIn K (.ref f1_BadCorner) = some (.type "function"))
    (hl_BadCorner : K.lookup f1_BadCorner = some ⟨ioc_BadCorner, iod_BadCorner, .func (PySem.W.fnX "__init__" "BadCorner.__init__" (C8.fnArgs (initOf (top 2))) (C8.fnBody (initOf (top 2))) (C8.fnScope (initOf (top 2))) [("__class__", cc_BadCorner)] .none ikV_BadCorner idc_BadCorner ipm_BadCorner ian_BadCorner (.ref cda_BadCorner) ict_BadCorner), iosl_BadCorner⟩)
    (hcd_BadCorner : PySem.W.codeIn K (.ref cda_BadCorner) "BadCorner.__init__" = true)
    (hk_BadCorner : K.lookup cda_BadCorner = some ⟨iccl_BadCorner, icdd_BadCorner, .fields vs_BadCorner, iccs_BadCorner⟩)
    (hv_BadCorner : vs_BadCorner[2]? = some (.str file_BadCorner tf_BadCorner)) (hf_BadCorner : ((P.main.file : Str) == file_BadCorner) = true)
    (hce_BadCorner : K.lookup cc_BadCorner = some ⟨icl_BadCorner, icld_BadCorner, .cell (some (.ref C_BadCorner)), icsl_BadCorner⟩)
    (hC_BadCorner : PySem.W.clsIn K C_BadCorner = some icd_BadCorner)
    (hmr_BadCorner : PySem.W.mroIn K C_BadCorner (.ref C_BadCorner) = some true)
    (hsi_BadCorner : PySem.W.ks_superIn K C_BadCorner C_BadCorner "__init__" = some (some (.builtin "ValueError.__init__")))
    (xL_BadSigns : K.lookup C_BadSigns = some (excClassObj nm_BadSigns qq_BadSigns C_BadSigns N_BadSigns bs_BadSigns [.ref C_FoldError, .type "ValueError", .type "Exception", .type "BaseException", .type "object"] true sn_BadSigns sub_BadSigns ab_BadSigns col_BadSigns dd_BadSigns m0_BadSigns m1_BadSigns m2_BadSigns m3_BadSigns m5_BadSigns "ValueError.__new__"))
    (sa_BadSigns : PySem.W.findIn K (.ref C_BadSigns) "__setattr__" = some (some (.builtin "object.__setattr__")))
    (kC_BadSigns : PySem.W.keepIn K (.ref C_BadSigns) = true)
    (iC_BadSigns : PySem.W.findIn K (.ref C_BadSigns) "__init__" = some (some (.ref f1_BadSigns)))
    (tI_BadSigns : PySem.W.typeIn K (.ref f1_BadSigns) = some (.type "function"))
    (hl_BadSigns : K.lookup f1_BadSigns = some ⟨ioc_BadSigns, iod_BadSigns, .func (PySem.W.fnX "__init__" "BadSigns.__init__" (C8.fnArgs (initOf (top 3))) (C8.fnBody (initOf (top 3))) (C8.fnScope (initOf (top 3))) [("__class__", cc_BadSigns)] .none ikV_BadSigns idc_BadSigns ipm_BadSigns ian_BadSigns (.ref cda_BadSigns) ict_BadSigns), iosl_BadSigns⟩)
    (hcd_BadSigns : PySem.W.codeIn K (.ref cda_BadSigns) "BadSigns.__init__" = true)
    (hk_BadSigns : K.lookup cda_BadSigns = some ⟨iccl_BadSigns, icdd_BadSigns, .fields vs_BadSigns, iccs_BadSigns⟩)
    (hv_BadSigns : vs_BadSigns[2]? = some (.str file_BadSigns tf_BadSigns)) (hf_BadSigns : ((P.main.file : Str) == file_BadSigns) = true)
    (hce_BadSigns : K.lookup cc_BadSigns = some ⟨icl_BadSigns, icld_BadSigns, .cell (some (.ref C_BadSigns)), icsl_BadSigns⟩)
    (hC_BadSigns : PySem.W.clsIn K C_BadSigns = some icd_BadSigns)
    (hmr_BadSigns : PySem.W.mroIn K C_BadSigns (.ref C_BadSigns) = some true)
    (hsi_BadSigns : PySem.W.ks_superIn K C_BadSigns C_BadSigns "__init__" = some (some (.builtin "ValueError.__init__")))
    (xL_BadStack : K.lookup C_BadStack = some (excClassObj nm_BadStack qq_BadStack C_BadStack N_BadStack bs_BadStack [.ref C_FoldError, .type "ValueError", .type "Exception", .type "BaseException", .type "object"] true sn_BadStack sub_BadStack ab_BadStack col_BadStack dd_BadStack m0_BadStack m1_BadStack m2_BadStack m3_BadStack m5_BadStack "ValueError.__new__"))
    (sa_BadStack : PySem.W.findIn K (.ref C_BadStack) "__setattr__" = some (some (.builtin "object.__setattr__")))
    (kC_BadStack : PySem.W.keepIn K (.ref C_BadStack) = true)
    (iC_BadStack : PySem.W.findIn K (.ref C_BadStack) "__init__" = some (some (.ref f1_BadStack)))
    (tI_BadStack : PySem.W.typeIn K (.ref f1_BadStack) = some (.type "function"))
    (hl_BadStack : K.lookup f1_BadStack = some ⟨ioc_BadStack, iod_BadStack, .func (PySem.W.fnX "__init__" "BadStack.__init__" (C8.fnArgs (initOf (top 4))) (C8.fnBody (initOf (top 4))) (C8.fnScope (initOf (top 4))) [("__class__", cc_BadStack)] .none ikV_BadStack idc_BadStack ipm_BadStack ian_BadStack (.ref cda_BadStack) ict_BadStack), iosl_BadStack⟩)
    (hcd_BadStack : PySem.W.codeIn K (.ref cda_BadStack) "BadStack.__init__" = true)
    (hk_BadStack : K.lookup cda_BadStack = some ⟨iccl_BadStack, icdd_BadStack, .fields vs_BadStack, iccs_BadStack⟩)
    (hv_BadStack : vs_BadStack[2]? = some (.str file_BadStack tf_BadStack)) (hf_BadStack : ((P.main.file : Str) == file_BadStack) = true)
    (hce_BadStack : K.lookup cc_BadStack = some ⟨icl_BadStack, icld_BadStack, .cell (some (.ref C_BadStack)), icsl_BadStack⟩)
    (hC_BadStack : PySem.W.clsIn K C_BadStack = some icd_BadStack)
    (hmr_BadStack : PySem.W.mroIn K C_BadStack (.ref C_BadStack) = some true)
    (hsi_BadStack : PySem.W.ks_superIn K C_BadStack C_BadStack "__init__" = some (some (.builtin "ValueError.__init__")))
    (xL_BadNumber : K.lookup C_BadNumber = some (excClassObj nm_BadNumber qq_BadNumber C_BadNumber N_BadNumber bs_BadNumber [.ref C_FoldError, .type "ValueError", .type "Exception", .type "BaseException", .type "object"] true sn_BadNumber sub_BadNumber ab_BadNumber col_BadNumber dd_BadNumber m0_BadNumber m1_BadNumber m2_BadNumber m3_BadNumber m5_BadNumber "ValueError.__new__"))
    (sa_BadNumber : PySem.W.findIn K (.ref C_BadNumber) "__setattr__" = some (some (.builtin "object.__setattr__")))
    (kC_BadNumber : PySem.W.keepIn K (.ref C_BadNumber) = true)
    (iC_BadNumber : PySem.W.findIn K (.ref C_BadNumber) "__init__" = some (some (.ref f1_BadNumber)))
    (tI_BadNumber : PySem.W.typeIn K (.ref f1_BadNumber) = some (.type "function"))
    (hl_BadNumber : K.lookup f1_BadNumber = some ⟨ioc_BadNumber, iod_BadNumber, .func (PySem.W.fnX "__init__" "BadNumber.__init__" (C8.fnArgs (initOf (top 5))) (C8.fnBody (initOf (top 5))) (C8.fnScope (initOf (top 5))) [("__class__", cc_BadNumber)] .none ikV_BadNumber idc_BadNumber ipm_BadNumber ian_BadNumber (.ref cda_BadNumber) ict_BadNumber), iosl_BadNumber⟩)
    (hcd_BadNumber : PySem.W.codeIn K (.ref cda_BadNumber) "BadNumber.__init__" = true)
    (hk_BadNumber : K.lookup cda_BadNumber = some ⟨iccl_BadNumber, icdd_BadNumber, .fields vs_BadNumber, iccs_BadNumber⟩)
    (hv_BadNumber : vs_BadNumber[2]? = some (.str file_BadNumber tf_BadNumber)) (hf_BadNumber : ((P.main.file : Str) == file_BadNumber) = true)
    (hce_BadNumber : K.lookup cc_BadNumber = some ⟨icl_BadNumber, icld_BadNumber, .cell (some (.ref C_BadNumber)), icsl_BadNumber⟩)
    (hC_BadNumber : PySem.W.clsIn K C_BadNumber = some icd_BadNumber)
    (hmr_BadNumber : PySem.W.mroIn K C_BadNumber (.ref C_BadNumber) = some true)
    (hsi_BadNumber : PySem.W.ks_superIn K C_BadNumber C_BadNumber "__init__" = some (some (.builtin "ValueError.__init__")))
    (xL_BadMask : K.lookup C_BadMask = some (excClassObj nm_BadMask qq_BadMask C_BadMask N_BadMask bs_BadMask [.ref C_FoldError, .type "ValueError", .type "Exception", .type "BaseException", .type "object"] true sn_BadMask sub_BadMask ab_BadMask col_BadMask dd_BadMask m0_BadMask m1_BadMask m2_BadMask m3_BadMask m5_BadMask "ValueError.__new__"))
    (sa_BadMask : PySem.W.findIn K (.ref C_BadMask) "__setattr__" = some (some (.builtin "object.__setattr__")))
    (kC_BadMask : PySem.W.keepIn K (.ref C_BadMask) = true)
    (iC_BadMask : PySem.W.findIn K (.ref C_BadMask) "__init__" = some (some (.ref f1_BadMask)))
    (tI_BadMask : PySem.W.typeIn K (.ref f1_BadMask) = some (.type "function"))
    (hl_BadMask : K.lookup f1_BadMask = some ⟨ioc_BadMask, iod_BadMask, .func (PySem.W.fnX "__init__" "BadMask.__init__" (C8.fnArgs (initOf (top 8))) (C8.fnBody (initOf (top 8))) (C8.fnScope (initOf (top 8))) [("__class__", cc_BadMask)] .none ikV_BadMask idc_BadMask ipm_BadMask ian_BadMask (.ref cda_BadMask) ict_BadMask), iosl_BadMask⟩)
    (hcd_BadMask : PySem.W.codeIn K (.ref cda_BadMask) "BadMask.__init__" = true)
    (hk_BadMask : K.lookup cda_BadMask = some ⟨iccl_BadMask, icdd_BadMask, .fields vs_BadMask, iccs_BadMask⟩)
    (hv_BadMask : vs_BadMask[2]? = some (.str file_BadMask tf_BadMask)) (hf_BadMask : ((P.main.file : Str) == file_BadMask) = true)
    (hce_BadMask : K.lookup cc_BadMask = some ⟨icl_BadMask, icld_BadMask, .cell (some (.ref C_BadMask)), icsl_BadMask⟩)
    (hC_BadMask : PySem.W.clsIn K C_BadMask = some icd_BadMask)
    (hmr_BadMask : PySem.W.mroIn K C_BadMask (.ref C_BadMask) = some true)
    (hsi_BadMask : PySem.W.ks_superIn K C_BadMask C_BadMask "__init__" = some (some (.builtin "ValueError.__init__")))
    (xL_BadCreases : K.lookup C_BadCreases = some (excClassObj nm_BadCreases qq_BadCreases C_BadCreases N_BadCreases bs_BadCreases [.ref C_FoldError, .type "ValueError", .type "Exception", .type "BaseException", .type "object"] true sn_BadCreases sub_BadCreases ab_BadCreases col_BadCreases dd_BadCreases m0_BadCreases m1_BadCreases m2_BadCreases m3_BadCreases m5_BadCreases "ValueError.__new__"))
    (sa_BadCreases : PySem.W.findIn K (.ref C_BadCreases) "__setattr__" = some (some (.builtin "object.__setattr__")))
    (kC_BadCreases : PySem.W.keepIn K (.ref C_BadCreases) = true)
    (iC_BadCreases : PySem.W.findIn K (.ref C_BadCreases) "__init__" = some (some (.ref f1_BadCreases)))
    (tI_BadCreases : PySem.W.typeIn K (.ref f1_BadCreases) = some (.type "function"))
    (hl_BadCreases : K.lookup f1_BadCreases = some ⟨ioc_BadCreases, iod_BadCreases, .func (PySem.W.fnX "__init__" "BadCreases.__init__" (C8.fnArgs (initOf (top 9))) (C8.fnBody (initOf (top 9))) (C8.fnScope (initOf (top 9))) [("__class__", cc_BadCreases)] .none ikV_BadCreases idc_BadCreases ipm_BadCreases ian_BadCreases (.ref cda_BadCreases) ict_BadCreases), iosl_BadCreases⟩)
    (hcd_BadCreases : PySem.W.codeIn K (.ref cda_BadCreases) "BadCreases.__init__" = true)
    (hk_BadCreases : K.lookup cda_BadCreases = some ⟨iccl_BadCreases, icdd_BadCreases, .fields vs_BadCreases, iccs_BadCreases⟩)
    (hv_BadCreases : vs_BadCreases[2]? = some (.str file_BadCreases tf_BadCreases)) (hf_BadCreases : ((P.main.file : Str) == file_BadCreases) = true)
    (hce_BadCreases : K.lookup cc_BadCreases = some ⟨icl_BadCreases, icld_BadCreases, .cell (some (.ref C_BadCreases)), icsl_BadCreases⟩)
    (hC_BadCreases : PySem.W.clsIn K C_BadCreases = some icd_BadCreases)
    (hmr_BadCreases : PySem.W.mroIn K C_BadCreases (.ref C_BadCreases) = some true)
    (hsi_BadCreases : PySem.W.ks_superIn K C_BadCreases C_BadCreases "__init__" = some (some (.builtin "ValueError.__init__")))
    (xL_BadWeights : K.lookup C_BadWeights = some (excClassObj nm_BadWeights qq_BadWeights C_BadWeights N_BadWeights bs_BadWeights [.ref C_FoldError, .type "ValueError", .type "Exception", .type "BaseException", .type "object"] true sn_BadWeights sub_BadWeights ab_BadWeights col_BadWeights dd_BadWeights m0_BadWeights m1_BadWeights m2_BadWeights m3_BadWeights m5_BadWeights "ValueError.__new__"))
    (sa_BadWeights : PySem.W.findIn K (.ref C_BadWeights) "__setattr__" = some (some (.builtin "object.__setattr__")))
    (kC_BadWeights : PySem.W.keepIn K (.ref C_BadWeights) = true)
    (iC_BadWeights : PySem.W.findIn K (.ref C_BadWeights) "__init__" = some (some (.ref f1_BadWeights)))
    (tI_BadWeights : PySem.W.typeIn K (.ref f1_BadWeights) = some (.type "function"))
    (hl_BadWeights : K.lookup f1_BadWeights = some ⟨ioc_BadWeights, iod_BadWeights, .func (PySem.W.fnX "__init__" "BadWeights.__init__" (C8.fnArgs (initOf (top 10))) (C8.fnBody (initOf (top 10))) (C8.fnScope (initOf (top 10))) [("__class__", cc_BadWeights)] .none ikV_BadWeights idc_BadWeights ipm_BadWeights ian_BadWeights (.ref cda_BadWeights) ict_BadWeights), iosl_BadWeights⟩)
    (hcd_BadWeights : PySem.W.codeIn K (.ref cda_BadWeights) "BadWeights.__init__" = true)
    (hk_BadWeights : K.lookup cda_BadWeights = some ⟨iccl_BadWeights, icdd_BadWeights, .fields vs_BadWeights, iccs_BadWeights⟩)
    (hv_BadWeights : vs_BadWeights[2]? = some (.str file_BadWeights tf_BadWeights)) (hf_BadWeights : ((P.main.file : Str) == file_BadWeights) = true)
    (hce_BadWeights : K.lookup cc_BadWeights = some ⟨icl_BadWeights, icld_BadWeights, .cell (some (.ref C_BadWeights)), icsl_BadWeights⟩)
    (hC_BadWeights : PySem.W.clsIn K C_BadWeights = some icd_BadWeights)
    (hmr_BadWeights : PySem.W.mroIn K C_BadWeights (.ref C_BadWeights) = some true)
    (hsi_BadWeights : PySem.W.ks_superIn K C_BadWeights C_BadWeights "__init__" = some (some (.builtin "ValueError.__init__")))
    (xL_BadMove : K.lookup C_BadMove = some (excClassObj nm_BadMove qq_BadMove C_BadMove N_BadMove bs_BadMove [.ref C_FoldError, .type "ValueError", .type "Exception", .type "BaseException", .type "object"] true sn_BadMove sub_BadMove ab_BadMove col_BadMove dd_BadMove m0_BadMove m1_BadMove m2_BadMove m3_BadMove m5_BadMove "ValueError.__new__"))
    (sa_BadMove : PySem.W.findIn K (.ref C_BadMove) "__setattr__" = some (some (.builtin "object.__setattr__")))
    (kC_BadMove : PySem.W.keepIn K (.ref C_BadMove) = true)
    (iC_BadMove : PySem.W.findIn K (.ref C_BadMove) "__init__" = some (some (.ref f1_BadMove)))
    (tI_BadMove : PySem.W.typeIn K (.ref f1_BadMove) = some (.type "function"))
    (hl_BadMove : K.lookup f1_BadMove = some ⟨ioc_BadMove, iod_BadMove, .func (PySem.W.fnX "__init__" "BadMove.__init__" (C8.fnArgs (initOf (top 12))) (C8.fnBody (initOf (top 12))) (C8.fnScope (initOf (top 12))) [("__class__", cc_BadMove)] .none ikV_BadMove idc_BadMove ipm_BadMove ian_BadMove (.ref cda_BadMove) ict_BadMove), iosl_BadMove⟩)
    (hcd_BadMove : PySem.W.codeIn K (.ref cda_BadMove) "BadMove.__init__" = true)
    (hk_BadMove : K.lookup cda_BadMove = some ⟨iccl_BadMove, icdd_BadMove, .fields vs_BadMove, iccs_BadMove⟩)
    (hv_BadMove : vs_BadMove[2]? = some (.str file_BadMove tf_BadMove)) (hf_BadMove : ((P.main.file : Str) == file_BadMove) = true)
    (hce_BadMove : K.lookup cc_BadMove = some ⟨icl_BadMove, icld_BadMove, .cell (some (.ref C_BadMove)), icsl_BadMove⟩)
    (hC_BadMove : PySem.W.clsIn K C_BadMove = some icd_BadMove)
    (hmr_BadMove : PySem.W.mroIn K C_BadMove (.ref C_BadMove) = some true)
    (hsi_BadMove : PySem.W.ks_superIn K C_BadMove C_BadMove "__init__" = some (some (.builtin "ValueError.__init__")))
    (xL_BadPaper : K.lookup C_BadPaper = some (excClassObj nm_BadPaper qq_BadPaper C_BadPaper N_BadPaper bs_BadPaper [.ref C_FoldError, .type "ValueError", .type "Exception", .type "BaseException", .type "object"] true sn_BadPaper sub_BadPaper ab_BadPaper col_BadPaper dd_BadPaper m0_BadPaper m1_BadPaper m2_BadPaper m3_BadPaper m5_BadPaper "ValueError.__new__"))
    (sa_BadPaper : PySem.W.findIn K (.ref C_BadPaper) "__setattr__" = some (some (.builtin "object.__setattr__")))
    (kC_BadPaper : PySem.W.keepIn K (.ref C_BadPaper) = true)
    (iC_BadPaper : PySem.W.findIn K (.ref C_BadPaper) "__init__" = some (some (.ref f1_BadPaper)))
    (tI_BadPaper : PySem.W.typeIn K (.ref f1_BadPaper) = some (.type "function"))
    (hl_BadPaper : K.lookup f1_BadPaper = some ⟨ioc_BadPaper, iod_BadPaper, .func (PySem.W.fnX "__init__" "BadPaper.__init__" (C8.fnArgs (initOf (top 6))) (C8.fnBody (initOf (top 6))) (C8.fnScope (initOf (top 6))) [("__class__", cc_BadPaper)] .none ikV_BadPaper idc_BadPaper ipm_BadPaper ian_BadPaper (.ref cda_BadPaper) ict_BadPaper), iosl_BadPaper⟩)
    (hcd_BadPaper : PySem.W.codeIn K (.ref cda_BadPaper) "BadPaper.__init__" = true)
    (hk_BadPaper : K.lookup cda_BadPaper = some ⟨iccl_BadPaper, icdd_BadPaper, .fields vs_BadPaper, iccs_BadPaper⟩)
    (hv_BadPaper : vs_BadPaper[2]? = some (.str file_BadPaper tf_BadPaper)) (hf_BadPaper : ((P.main.file : Str) == file_BadPaper) = true)
    (hce_BadPaper : K.lookup cc_BadPaper = some ⟨icl_BadPaper, icld_BadPaper, .cell (some (.ref C_BadPaper)), icsl_BadPaper⟩)
    (hC_BadPaper : PySem.W.clsIn K C_BadPaper = some icd_BadPaper)
    (hmr_BadPaper : PySem.W.mroIn K C_BadPaper (.ref C_BadPaper) = some true)
    (hsi_BadPaper : PySem.W.ks_superIn K C_BadPaper C_BadPaper "__init__" = some (some (.builtin "ValueError.__init__")))
    (xL_BadText : K.lookup C_BadText = some (excClassObj nm_BadText qq_BadText C_BadText N_BadText bs_BadText [.ref C_FoldError, .type "ValueError", .type "Exception", .type "BaseException", .type "object"] true sn_BadText sub_BadText ab_BadText col_BadText dd_BadText m0_BadText m1_BadText m2_BadText m3_BadText m5_BadText "ValueError.__new__"))
    (sa_BadText : PySem.W.findIn K (.ref C_BadText) "__setattr__" = some (some (.builtin "object.__setattr__")))
    (kC_BadText : PySem.W.keepIn K (.ref C_BadText) = true)
    (iC_BadText : PySem.W.findIn K (.ref C_BadText) "__init__" = some (some (.ref f1_BadText)))
    (tI_BadText : PySem.W.typeIn K (.ref f1_BadText) = some (.type "function"))
    (hl_BadText : K.lookup f1_BadText = some ⟨ioc_BadText, iod_BadText, .func (PySem.W.fnX "__init__" "BadText.__init__" (C8.fnArgs (initOf (top 7))) (C8.fnBody (initOf (top 7))) (C8.fnScope (initOf (top 7))) [("__class__", cc_BadText)] .none ikV_BadText idc_BadText ipm_BadText ian_BadText (.ref cda_BadText) ict_BadText), iosl_BadText⟩)
    (hcd_BadText : PySem.W.codeIn K (.ref cda_BadText) "BadText.__init__" = true)
    (hk_BadText : K.lookup cda_BadText = some ⟨iccl_BadText, icdd_BadText, .fields vs_BadText, iccs_BadText⟩)
    (hv_BadText : vs_BadText[2]? = some (.str file_BadText tf_BadText)) (hf_BadText : ((P.main.file : Str) == file_BadText) = true)
    (hce_BadText : K.lookup cc_BadText = some ⟨icl_BadText, icld_BadText, .cell (some (.ref C_BadText)), icsl_BadText⟩)
    (hC_BadText : PySem.W.clsIn K C_BadText = some icd_BadText)
    (hmr_BadText : PySem.W.mroIn K C_BadText (.ref C_BadText) = some true)
    (hsi_BadText : PySem.W.ks_superIn K C_BadText C_BadText "__init__" = some (some (.builtin "ValueError.__init__")))
    (xL_BadFacts : K.lookup C_BadFacts = some (excClassObj nm_BadFacts qq_BadFacts C_BadFacts N_BadFacts bs_BadFacts [.ref C_FoldError, .type "ValueError", .type "Exception", .type "BaseException", .type "object"] true sn_BadFacts sub_BadFacts ab_BadFacts col_BadFacts dd_BadFacts m0_BadFacts m1_BadFacts m2_BadFacts m3_BadFacts m5_BadFacts "ValueError.__new__"))
    (sa_BadFacts : PySem.W.findIn K (.ref C_BadFacts) "__setattr__" = some (some (.builtin "object.__setattr__")))
    (kC_BadFacts : PySem.W.keepIn K (.ref C_BadFacts) = true)
    (iC_BadFacts : PySem.W.findIn K (.ref C_BadFacts) "__init__" = some (some (.ref f1_BadFacts)))
    (tI_BadFacts : PySem.W.typeIn K (.ref f1_BadFacts) = some (.type "function"))
    (hl_BadFacts : K.lookup f1_BadFacts = some ⟨ioc_BadFacts, iod_BadFacts, .func (PySem.W.fnX "__init__" "BadFacts.__init__" (C8.fnArgs (initOf (top 11))) (C8.fnBody (initOf (top 11))) (C8.fnScope (initOf (top 11))) [("__class__", cc_BadFacts)] .none ikV_BadFacts idc_BadFacts ipm_BadFacts ian_BadFacts (.ref cda_BadFacts) ict_BadFacts), iosl_BadFacts⟩)
    (hcd_BadFacts : PySem.W.codeIn K (.ref cda_BadFacts) "BadFacts.__init__" = true)
    (hk_BadFacts : K.lookup cda_BadFacts = some ⟨iccl_BadFacts, icdd_BadFacts, .fields vs_BadFacts, iccs_BadFacts⟩)
    (hv_BadFacts : vs_BadFacts[2]? = some (.str file_BadFacts tf_BadFacts)) (hf_BadFacts : ((P.main.file : Str) == file_BadFacts) = true)
    (hce_BadFacts : K.lookup cc_BadFacts = some ⟨icl_BadFacts, icld_BadFacts, .cell (some (.ref C_BadFacts)), icsl_BadFacts⟩)
    (hC_BadFacts : PySem.W.clsIn K C_BadFacts = some icd_BadFacts)
    (hmr_BadFacts : PySem.W.mroIn K C_BadFacts (.ref C_BadFacts) = some true)
    (hsi_BadFacts : PySem.W.ks_superIn K C_BadFacts C_BadFacts "__init__" = some (some (.builtin "ValueError.__init__")))
    (xL_TooGreat : K.lookup C_TooGreat = some (excClassObj nm_TooGreat qq_TooGreat C_TooGreat N_TooGreat bs_TooGreat [.type "OverflowError", .type "ArithmeticError", .type "Exception", .type "BaseException", .type "object"] true sn_TooGreat sub_TooGreat ab_TooGreat col_TooGreat dd_TooGreat m0_TooGreat m1_TooGreat m2_TooGreat m3_TooGreat m5_TooGreat "OverflowError.__new__"))
    (sa_TooGreat : PySem.W.findIn K (.ref C_TooGreat) "__setattr__" = some (some (.builtin "object.__setattr__")))
    (kC_TooGreat : PySem.W.keepIn K (.ref C_TooGreat) = true)
    (iC_TooGreat : PySem.W.findIn K (.ref C_TooGreat) "__init__" = some (some (.ref f1_TooGreat)))
    (tI_TooGreat : PySem.W.typeIn K (.ref f1_TooGreat) = some (.type "function"))
    (hl_TooGreat : K.lookup f1_TooGreat = some ⟨ioc_TooGreat, iod_TooGreat, .func (PySem.W.fnX "__init__" "TooGreat.__init__" (C8.fnArgs (initOf (top 13))) (C8.fnBody (initOf (top 13))) (C8.fnScope (initOf (top 13))) [("__class__", cc_TooGreat)] .none ikV_TooGreat idc_TooGreat ipm_TooGreat ian_TooGreat (.ref cda_TooGreat) ict_TooGreat), iosl_TooGreat⟩)
    (hcd_TooGreat : PySem.W.codeIn K (.ref cda_TooGreat) "TooGreat.__init__" = true)
    (hk_TooGreat : K.lookup cda_TooGreat = some ⟨iccl_TooGreat, icdd_TooGreat, .fields vs_TooGreat, iccs_TooGreat⟩)
    (hv_TooGreat : vs_TooGreat[2]? = some (.str file_TooGreat tf_TooGreat)) (hf_TooGreat : ((P.main.file : Str) == file_TooGreat) = true)
    (hce_TooGreat : K.lookup cc_TooGreat = some ⟨icl_TooGreat, icld_TooGreat, .cell (some (.ref C_TooGreat)), icsl_TooGreat⟩)
    (hC_TooGreat : PySem.W.clsIn K C_TooGreat = some icd_TooGreat)
    (hmr_TooGreat : PySem.W.mroIn K C_TooGreat (.ref C_TooGreat) = some true)
    (hsi_TooGreat : PySem.W.ks_superIn K C_TooGreat C_TooGreat "__init__" = some (some (.builtin "OverflowError.__init__")))
    (xL_Nothing : K.lookup C_Nothing = some (excClassObj nm_Nothing qq_Nothing C_Nothing N_Nothing bs_Nothing [.type "LookupError", .type "Exception", .type "BaseException", .type "object"] true sn_Nothing sub_Nothing ab_Nothing col_Nothing dd_Nothing m0_Nothing m1_Nothing m2_Nothing m3_Nothing m5_Nothing "LookupError.__new__"))
    (sa_Nothing : PySem.W.findIn K (.ref C_Nothing) "__setattr__" = some (some (.builtin "object.__setattr__")))
    (kC_Nothing : PySem.W.keepIn K (.ref C_Nothing) = true)
    (iC_Nothing : PySem.W.findIn K (.ref C_Nothing) "__init__" = some (some (.ref f1_Nothing)))
    (tI_Nothing : PySem.W.typeIn K (.ref f1_Nothing) = some (.type "function"))
    (hl_Nothing : K.lookup f1_Nothing = some ⟨ioc_Nothing, iod_Nothing, .func (PySem.W.fnX "__init__" "Nothing.__init__" (C8.fnArgs (initOf (top 14))) (C8.fnBody (initOf (top 14))) (C8.fnScope (initOf (top 14))) [("__class__", cc_Nothing)] .none ikV_Nothing idc_Nothing ipm_Nothing ian_Nothing (.ref cda_Nothing) ict_Nothing), iosl_Nothing⟩)
    (hcd_Nothing : PySem.W.codeIn K (.ref cda_Nothing) "Nothing.__init__" = true)
    (hk_Nothing : K.lookup cda_Nothing = some ⟨iccl_Nothing, icdd_Nothing, .fields vs_Nothing, iccs_Nothing⟩)
    (hv_Nothing : vs_Nothing[2]? = some (.str file_Nothing tf_Nothing)) (hf_Nothing : ((P.main.file : Str) == file_Nothing) = true)
    (hce_Nothing : K.lookup cc_Nothing = some ⟨icl_Nothing, icld_Nothing, .cell (some (.ref C_Nothing)), icsl_Nothing⟩)
    (hC_Nothing : PySem.W.clsIn K C_Nothing = some icd_Nothing)
    (hmr_Nothing : PySem.W.mroIn K C_Nothing (.ref C_Nothing) = some true)
    (hsi_Nothing : PySem.W.ks_superIn K C_Nothing C_Nothing "__init__" = some (some (.builtin "LookupError.__init__")))
    : ∃ fd : FuncData, (∀ (s : Shared) (v : Value), BindsTo s fd ⟨[v], []⟩ [("_law_script", v)]) ∧ ∀ base : Heap, K.In base → base.Ns mainGlobals mg → (∀ p ∈ csL, LamX.TabB base mg p.1 p.2) → FnG P w K mg base 4 fa fd ["_law_script"] (spLaw K) := by
  have e := hfa.symm.trans (PySem.W.mg_of X G a_law)
  cases e
  have Z : Zs mg := { n_IndexError := PySem.W.mg_none_of X G n_IndexError, n_KeyError := PySem.W.mg_none_of X G n_KeyError, n_LookupError := PySem.W.mg_none_of X G n_LookupError, n_OverflowError := PySem.W.mg_none_of X G n_OverflowError, n_RuntimeError := PySem.W.mg_none_of X G n_RuntimeError, n_TypeError := PySem.W.mg_none_of X G n_TypeError, n_ValueError := PySem.W.mg_none_of X G n_ValueError, n_enumerate := PySem.W.mg_none_of X G n_enumerate, n_int := PySem.W.mg_none_of X G n_int, n_isinstance := PySem.W.mg_none_of X G n_isinstance, n_len := PySem.W.mg_none_of X G n_len, n_list := PySem.W.mg_none_of X G n_list, n_min := PySem.W.mg_none_of X G n_min, n_range := PySem.W.mg_none_of X G n_range, n_repr := PySem.W.mg_none_of X G n_repr, n_str := PySem.W.mg_none_of X G n_str, k_BadCorner := ⟨_, PySem.W.mg_of X G a_BadCorner⟩, k_BadCreases := ⟨_, PySem.W.mg_of X G a_BadCreases⟩, k_BadFacts := ⟨_, PySem.W.mg_of X G a_BadFacts⟩, k_BadMask := ⟨_, PySem.W.mg_of X G a_BadMask⟩, k_BadMove := ⟨_, PySem.W.mg_of X G a_BadMove⟩, k_BadNumber := ⟨_, PySem.W.mg_of X G a_BadNumber⟩, k_BadPaper := ⟨_, PySem.W.mg_of X G a_BadPaper⟩, k_BadSigns := ⟨_, PySem.W.mg_of X G a_BadSigns⟩, k_BadStack := ⟨_, PySem.W.mg_of X G a_BadStack⟩, k_BadText := ⟨_, PySem.W.mg_of X G a_BadText⟩, k_BadWeights := ⟨_, PySem.W.mg_of X G a_BadWeights⟩, k_FoldError := ⟨_, PySem.W.mg_of X G a_FoldError⟩, k_Nothing := ⟨_, PySem.W.mg_of X G a_Nothing⟩, k_TooGreat := ⟨_, PySem.W.mg_of X G a_TooGreat⟩, sys := rfl }
  have D__law_begun : Df K mg "_law_begun" ["_law_script"] st__law_begun := Df.of X G a__law_begun l__law_begun c__law_begun k__law_begun fun _ _ _ _ _ _ us hl => match us, hl with | [_], _ => rfl
  have D__law_draw : Df K mg "_law_draw" ["_law_m", "_law_limit"] st__law_draw := Df.of X G a__law_draw l__law_draw c__law_draw k__law_draw fun _ _ _ _ _ _ us hl => match us, hl with | [_, _], _ => rfl
  have D__law_of : Df K mg "_law_of" ["_law_m", "_law_some"] st__law_of := Df.of X G a__law_of l__law_of c__law_of k__law_of fun _ _ _ _ _ _ us hl => match us, hl with | [_, _], _ => rfl
  have D__law_odd : Df K mg "_law_odd" ["_law_m"] st__law_odd := Df.of X G a__law_odd l__law_odd c__law_odd k__law_odd fun _ _ _ _ _ _ us hl => match us, hl with | [_], _ => rfl
  have D__law_fields : Df K mg "_law_fields" ["_law_errors_so"] st__law_fields := Df.of X G a__law_fields l__law_fields c__law_fields k__law_fields fun _ _ _ _ _ _ us hl => match us, hl with | [_], _ => rfl
  have D__law_kinds : Df K mg "_law_kinds" ["_law_error"] st__law_kinds := Df.of X G a__law_kinds l__law_kinds c__law_kinds k__law_kinds fun _ _ _ _ _ _ us hl => match us, hl with | [_], _ => rfl
  have D__law_elders : Df K mg "_law_elders" ["_law_error"] st__law_elders := Df.of X G a__law_elders l__law_elders c__law_elders k__law_elders fun _ _ _ _ _ _ us hl => match us, hl with | [_], _ => rfl
  have D__law_right : Df K mg "_law_right" ["_law_errors_so", "_law_one"] st__law_right := Df.of X G a__law_right l__law_right c__law_right k__law_right fun _ _ _ _ _ _ us hl => match us, hl with | [_, _], _ => rfl
  have D__law_made : Df K mg "_law_made" ["_law_one"] st__law_made := Df.of X G a__law_made l__law_made c__law_made k__law_made fun _ _ _ _ _ _ us hl => match us, hl with | [_], _ => rfl
  have D__law_named : Df K mg "_law_named" ["_law_one"] st__law_named := Df.of X G a__law_named l__law_named c__law_named k__law_named fun _ _ _ _ _ _ us hl => match us, hl with | [_], _ => rfl
  have V_BadCorner : ∀ base : Heap, ErrV P w K mg base "BadCorner" := fun base => errv_mk (st := (initOf (top 2))) X G (fun _ => rfl) rfl rfl rfl rfl rfl rfl (NdefX.nscope_by (by decide +kernel)) (fun _ _ _ _ _ _ _ us hu => match us, hu with | [_, _], _ => rfl) (fun _ _ _ _ _ _ _ _ _ => rfl) (by decide) htop (base_Value C_FoldError) a_BadCorner xL_BadCorner sa_BadCorner b_BadCorner t_BadCorner kC_BadCorner iC_BadCorner tI_BadCorner hl_BadCorner hcd_BadCorner hk_BadCorner hv_BadCorner hf_BadCorner hce_BadCorner hC_BadCorner hmr_BadCorner hsu hth hsi_BadCorner y_BadCorner_ValueError gf_BadCorner
  have V_BadSigns : ∀ base : Heap, ErrV P w K mg base "BadSigns" := fun base => errv_mk (st := (initOf (top 3))) X G (fun _ => rfl) rfl rfl rfl rfl rfl rfl (NdefX.nscope_by (by decide +kernel)) (fun _ _ _ _ _ _ _ us hu => match us, hu with | [_, _], _ => rfl) (fun _ _ _ _ _ _ _ _ _ => rfl) (by decide) htop (base_Value C_FoldError) a_BadSigns xL_BadSigns sa_BadSigns b_BadSigns t_BadSigns kC_BadSigns iC_BadSigns tI_BadSigns hl_BadSigns hcd_BadSigns hk_BadSigns hv_BadSigns hf_BadSigns hce_BadSigns hC_BadSigns hmr_BadSigns hsu hth hsi_BadSigns y_BadSigns_ValueError gf_BadSigns
  have V_BadStack : ∀ base : Heap, ErrV P w K mg base "BadStack" := fun base => errv_mk (st := (initOf (top 4))) X G (fun _ => rfl) rfl rfl rfl rfl rfl rfl (NdefX.nscope_by (by decide +kernel)) (fun _ _ _ _ _ _ _ us hu => match us, hu with | [_, _], _ => rfl) (fun _ _ _ _ _ _ _ _ _ => rfl) (by decide) htop (base_Value C_FoldError) a_BadStack xL_BadStack sa_BadStack b_BadStack t_BadStack kC_BadStack iC_BadStack tI_BadStack hl_BadStack hcd_BadStack hk_BadStack hv_BadStack hf_BadStack hce_BadStack hC_BadStack hmr_BadStack hsu hth hsi_BadStack y_BadStack_ValueError gf_BadStack
  have V_BadNumber : ∀ base : Heap, ErrV P w K mg base "BadNumber" := fun base => errv_mk (st := (initOf (top 5))) X G (fun _ => rfl) rfl rfl rfl rfl rfl rfl (NdefX.nscope_by (by decide +kernel)) (fun _ _ _ _ _ _ _ us hu => match us, hu with | [_, _], _ => rfl) (fun _ _ _ _ _ _ _ _ _ => rfl) (by decide) htop (base_Value C_FoldError) a_BadNumber xL_BadNumber sa_BadNumber b_BadNumber t_BadNumber kC_BadNumber iC_BadNumber tI_BadNumber hl_BadNumber hcd_BadNumber hk_BadNumber hv_BadNumber hf_BadNumber hce_BadNumber hC_BadNumber hmr_BadNumber hsu hth hsi_BadNumber y_BadNumber_ValueError gf_BadNumber
  have V_BadMask : ∀ base : Heap, ErrV P w K mg base "BadMask" := fun base => errv_mk (st := (initOf (top 8))) X G (fun _ => rfl) rfl rfl rfl rfl rfl rfl (NdefX.nscope_by (by decide +kernel)) (fun _ _ _ _ _ _ _ us hu => match us, hu with | [_, _], _ => rfl) (fun _ _ _ _ _ _ _ _ _ => rfl) (by decide) htop (base_Value C_FoldError) a_BadMask xL_BadMask sa_BadMask b_BadMask t_BadMask kC_BadMask iC_BadMask tI_BadMask hl_BadMask hcd_BadMask hk_BadMask hv_BadMask hf_BadMask hce_BadMask hC_BadMask hmr_BadMask hsu hth hsi_BadMask y_BadMask_ValueError gf_BadMask
  have V_BadCreases : ∀ base : Heap, ErrV P w K mg base "BadCreases" := fun base => errv_mk (st := (initOf (top 9))) X G (fun _ => rfl) rfl rfl rfl rfl rfl rfl (NdefX.nscope_by (by decide +kernel)) (fun _ _ _ _ _ _ _ us hu => match us, hu with | [_, _], _ => rfl) (fun _ _ _ _ _ _ _ _ _ => rfl) (by decide) htop (base_Value C_FoldError) a_BadCreases xL_BadCreases sa_BadCreases b_BadCreases t_BadCreases kC_BadCreases iC_BadCreases tI_BadCreases hl_BadCreases hcd_BadCreases hk_BadCreases hv_BadCreases hf_BadCreases hce_BadCreases hC_BadCreases hmr_BadCreases hsu hth hsi_BadCreases y_BadCreases_ValueError gf_BadCreases
  have V_BadWeights : ∀ base : Heap, ErrV P w K mg base "BadWeights" := fun base => errv_mk (st := (initOf (top 10))) X G (fun _ => rfl) rfl rfl rfl rfl rfl rfl (NdefX.nscope_by (by decide +kernel)) (fun _ _ _ _ _ _ _ us hu => match us, hu with | [_, _], _ => rfl) (fun _ _ _ _ _ _ _ _ _ => rfl) (by decide) htop (base_Value C_FoldError) a_BadWeights xL_BadWeights sa_BadWeights b_BadWeights t_BadWeights kC_BadWeights iC_BadWeights tI_BadWeights hl_BadWeights hcd_BadWeights hk_BadWeights hv_BadWeights hf_BadWeights hce_BadWeights hC_BadWeights hmr_BadWeights hsu hth hsi_BadWeights y_BadWeights_ValueError gf_BadWeights
  have V_BadMove : ∀ base : Heap, ErrV P w K mg base "BadMove" := fun base => errv_mk (st := (initOf (top 12))) X G (fun _ => rfl) rfl rfl rfl rfl rfl rfl (NdefX.nscope_by (by decide +kernel)) (fun _ _ _ _ _ _ _ us hu => match us, hu with | [_, _], _ => rfl) (fun _ _ _ _ _ _ _ _ _ => rfl) (by decide) htop (base_Value C_FoldError) a_BadMove xL_BadMove sa_BadMove b_BadMove t_BadMove kC_BadMove iC_BadMove tI_BadMove hl_BadMove hcd_BadMove hk_BadMove hv_BadMove hf_BadMove hce_BadMove hC_BadMove hmr_BadMove hsu hth hsi_BadMove y_BadMove_ValueError gf_BadMove
  have V_BadPaper : ∀ base : Heap, ErrV P w K mg base "BadPaper" := fun base => errv_mk (st := (initOf (top 6))) X G (fun _ => rfl) rfl rfl rfl rfl rfl rfl (NdefX.nscope_by (by decide +kernel)) (fun _ _ _ _ _ _ _ us hu => match us, hu with | [_, _], _ => rfl) (fun _ _ _ _ _ _ _ _ _ => rfl) (by decide) htop (base_Value C_FoldError) a_BadPaper xL_BadPaper sa_BadPaper b_BadPaper t_BadPaper kC_BadPaper iC_BadPaper tI_BadPaper hl_BadPaper hcd_BadPaper hk_BadPaper hv_BadPaper hf_BadPaper hce_BadPaper hC_BadPaper hmr_BadPaper hsu hth hsi_BadPaper y_BadPaper_ValueError gf_BadPaper
  have V_BadText : ∀ base : Heap, ErrV P w K mg base "BadText" := fun base => errv_mk (st := (initOf (top 7))) X G (fun _ => rfl) rfl rfl rfl rfl rfl rfl (NdefX.nscope_by (by decide +kernel)) (fun _ _ _ _ _ _ _ us hu => match us, hu with | [_, _], _ => rfl) (fun _ _ _ _ _ _ _ _ _ => rfl) (by decide) htop (base_Value C_FoldError) a_BadText xL_BadText sa_BadText b_BadText t_BadText kC_BadText iC_BadText tI_BadText hl_BadText hcd_BadText hk_BadText hv_BadText hf_BadText hce_BadText hC_BadText hmr_BadText hsu hth hsi_BadText y_BadText_ValueError gf_BadText
  have V_BadFacts : ∀ base : Heap, ErrV P w K mg base "BadFacts" := fun base => errv_mk (st := (initOf (top 11))) X G (fun _ => rfl) rfl rfl rfl rfl rfl rfl (NdefX.nscope_by (by decide +kernel)) (fun _ _ _ _ _ _ _ us hu => match us, hu with | [_, _], _ => rfl) (fun _ _ _ _ _ _ _ _ _ => rfl) (by decide) htop (base_Value C_FoldError) a_BadFacts xL_BadFacts sa_BadFacts b_BadFacts t_BadFacts kC_BadFacts iC_BadFacts tI_BadFacts hl_BadFacts hcd_BadFacts hk_BadFacts hv_BadFacts hf_BadFacts hce_BadFacts hC_BadFacts hmr_BadFacts hsu hth hsi_BadFacts y_BadFacts_ValueError gf_BadFacts
  have V_TooGreat : ∀ base : Heap, ErrV P w K mg base "TooGreat" := fun base => errv_mk (st := (initOf (top 13))) X G (fun _ => rfl) rfl rfl rfl rfl rfl rfl (NdefX.nscope_by (by decide +kernel)) (fun _ _ _ _ _ _ _ us hu => match us, hu with | [_, _], _ => rfl) (fun _ _ _ _ _ _ _ _ _ => rfl) (by decide) htop (base_Overflow) a_TooGreat xL_TooGreat sa_TooGreat b_TooGreat t_TooGreat kC_TooGreat iC_TooGreat tI_TooGreat hl_TooGreat hcd_TooGreat hk_TooGreat hv_TooGreat hf_TooGreat hce_TooGreat hC_TooGreat hmr_TooGreat hsu hth hsi_TooGreat y_TooGreat_OverflowError gf_TooGreat
  have V_Nothing : ∀ base : Heap, ErrV P w K mg base "Nothing" := fun base => errv_mk (st := (initOf (top 14))) X G (fun _ => rfl) rfl rfl rfl rfl rfl rfl (NdefX.nscope_by (by decide +kernel)) (fun _ _ _ _ _ _ _ us hu => match us, hu with | [_, _], _ => rfl) (fun _ _ _ _ _ _ _ _ _ => rfl) (by decide) htop (base_Lookup) a_Nothing xL_Nothing sa_Nothing b_Nothing t_Nothing kC_Nothing iC_Nothing tI_Nothing hl_Nothing hcd_Nothing hk_Nothing hv_Nothing hf_Nothing hce_Nothing hC_Nothing hmr_Nothing hsu hth hsi_Nothing y_Nothing_LookupError gf_Nothing
  have EO : ∀ c ∈ oks, ErrO K mg c := fun c hc => by
    simp only [oks, List.mem_cons, List.not_mem_nil, or_false] at hc
    rcases hc with rfl | rfl | rfl | rfl | rfl | rfl | rfl | rfl | rfl | rfl | rfl | rfl | rfl
    · exact erro_of X G a_BadCorner ga_BadCorner gg_BadCorner b_BadCorner d_BadCorner gc_BadCorner gs_ gt_ gm_BadCorner gf_BadCorner
    · exact erro_of X G a_BadSigns ga_BadSigns gg_BadSigns b_BadSigns d_BadSigns gc_BadSigns gs_ gt_ gm_BadSigns gf_BadSigns
    · exact erro_of X G a_BadStack ga_BadStack gg_BadStack b_BadStack d_BadStack gc_BadStack gs_ gt_ gm_BadStack gf_BadStack
    · exact erro_of X G a_BadNumber ga_BadNumber gg_BadNumber b_BadNumber d_BadNumber gc_BadNumber gs_ gt_ gm_BadNumber gf_BadNumber
    · exact erro_of X G a_BadMask ga_BadMask gg_BadMask b_BadMask d_BadMask gc_BadMask gs_ gt_ gm_BadMask gf_BadMask
    · exact erro_of X G a_BadCreases ga_BadCreases gg_BadCreases b_BadCreases d_BadCreases gc_BadCreases gs_ gt_ gm_BadCreases gf_BadCreases
    · exact erro_of X G a_BadWeights ga_BadWeights gg_BadWeights b_BadWeights d_BadWeights gc_BadWeights gs_ gt_ gm_BadWeights gf_BadWeights
    · exact erro_of X G a_BadMove ga_BadMove gg_BadMove b_BadMove d_BadMove gc_BadMove gs_ gt_ gm_BadMove gf_BadMove
    · exact erro_of X G a_BadPaper ga_BadPaper gg_BadPaper b_BadPaper d_BadPaper gc_BadPaper gs_ gt_ gm_BadPaper gf_BadPaper
    · exact erro_of X G a_BadText ga_BadText gg_BadText b_BadText d_BadText gc_BadText gs_ gt_ gm_BadText gf_BadText
    · exact erro_of X G a_BadFacts ga_BadFacts gg_BadFacts b_BadFacts d_BadFacts gc_BadFacts gs_ gt_ gm_BadFacts gf_BadFacts
    · exact erro_of X G a_TooGreat ga_TooGreat gg_TooGreat b_TooGreat d_TooGreat gc_TooGreat gs_ gt_ gm_TooGreat gf_TooGreat
    · exact erro_of X G a_Nothing ga_Nothing gg_Nothing b_Nothing d_Nothing gc_Nothing gs_ gt_ gm_Nothing gf_Nothing
  have T_BadCorner : ExcC K C_BadCorner := ⟨ga_BadCorner, gg_BadCorner, b_BadCorner, d_BadCorner, gc_BadCorner, gs_, gt_, gm_BadCorner⟩
  have T_BadCreases : ExcC K C_BadCreases := ⟨ga_BadCreases, gg_BadCreases, b_BadCreases, d_BadCreases, gc_BadCreases, gs_, gt_, gm_BadCreases⟩
  have T_BadFacts : ExcC K C_BadFacts := ⟨ga_BadFacts, gg_BadFacts, b_BadFacts, d_BadFacts, gc_BadFacts, gs_, gt_, gm_BadFacts⟩
  have T_BadMask : ExcC K C_BadMask := ⟨ga_BadMask, gg_BadMask, b_BadMask, d_BadMask, gc_BadMask, gs_, gt_, gm_BadMask⟩
  have T_BadMove : ExcC K C_BadMove := ⟨ga_BadMove, gg_BadMove, b_BadMove, d_BadMove, gc_BadMove, gs_, gt_, gm_BadMove⟩
  have T_BadNumber : ExcC K C_BadNumber := ⟨ga_BadNumber, gg_BadNumber, b_BadNumber, d_BadNumber, gc_BadNumber, gs_, gt_, gm_BadNumber⟩
  have T_BadPaper : ExcC K C_BadPaper := ⟨ga_BadPaper, gg_BadPaper, b_BadPaper, d_BadPaper, gc_BadPaper, gs_, gt_, gm_BadPaper⟩
  have T_BadSigns : ExcC K C_BadSigns := ⟨ga_BadSigns, gg_BadSigns, b_BadSigns, d_BadSigns, gc_BadSigns, gs_, gt_, gm_BadSigns⟩
  have T_BadStack : ExcC K C_BadStack := ⟨ga_BadStack, gg_BadStack, b_BadStack, d_BadStack, gc_BadStack, gs_, gt_, gm_BadStack⟩
  have T_BadText : ExcC K C_BadText := ⟨ga_BadText, gg_BadText, b_BadText, d_BadText, gc_BadText, gs_, gt_, gm_BadText⟩
  have T_BadWeights : ExcC K C_BadWeights := ⟨ga_BadWeights, gg_BadWeights, b_BadWeights, d_BadWeights, gc_BadWeights, gs_, gt_, gm_BadWeights⟩
  have T_FoldError : ExcC K C_FoldError := ⟨ga_FoldError, gg_FoldError, b_FoldError, d_FoldError, gc_FoldError, gs_, gt_, gm_FoldError⟩
  have T_Nothing : ExcC K C_Nothing := ⟨ga_Nothing, gg_Nothing, b_Nothing, d_Nothing, gc_Nothing, gs_, gt_, gm_Nothing⟩
  have T_TooGreat : ExcC K C_TooGreat := ⟨ga_TooGreat, gg_TooGreat, b_TooGreat, d_TooGreat, gc_TooGreat, gs_, gt_, gm_TooGreat⟩
  have IO : ∀ c ∈ oksX, ∀ d ∈ cls, ∃ D' : Addr, mg d = some (.ref D') ∧ IsB K mg c (.ref D') (fT c d) := fun c hc d hd => by
    simp only [oksX, oks, cls, List.mem_cons, List.not_mem_nil, or_false] at hc hd
    rcases hc with rfl | rfl | rfl | rfl | rfl | rfl | rfl | rfl | rfl | rfl | rfl | rfl | rfl | rfl
    · rcases hd with rfl | rfl | rfl | rfl | rfl | rfl | rfl | rfl | rfl | rfl | rfl | rfl | rfl | rfl
      · exact ⟨C_BadCorner, PySem.W.mg_of X G a_BadCorner, isb_ref X G (C := C_FoldError) a_FoldError T_FoldError d_BadCorner t_BadCorner s_FoldError_BadCorner s_FoldError_FoldError (by decide)⟩
      · exact ⟨C_BadCreases, PySem.W.mg_of X G a_BadCreases, isb_ref X G (C := C_FoldError) a_FoldError T_FoldError d_BadCreases t_BadCreases s_FoldError_BadCreases s_FoldError_FoldError (by decide)⟩
      · exact ⟨C_BadFacts, PySem.W.mg_of X G a_BadFacts, isb_ref X G (C := C_FoldError) a_FoldError T_FoldError d_BadFacts t_BadFacts s_FoldError_BadFacts s_FoldError_FoldError (by decide)⟩
      · exact ⟨C_BadMask, PySem.W.mg_of X G a_BadMask, isb_ref X G (C := C_FoldError) a_FoldError T_FoldError d_BadMask t_BadMask s_FoldError_BadMask s_FoldError_FoldError (by decide)⟩
      · exact ⟨C_BadMove, PySem.W.mg_of X G a_BadMove, isb_ref X G (C := C_FoldError) a_FoldError T_FoldError d_BadMove t_BadMove s_FoldError_BadMove s_FoldError_FoldError (by decide)⟩
      · exact ⟨C_BadNumber, PySem.W.mg_of X G a_BadNumber, isb_ref X G (C := C_FoldError) a_FoldError T_FoldError d_BadNumber t_BadNumber s_FoldError_BadNumber s_FoldError_FoldError (by decide)⟩
      · exact ⟨C_BadPaper, PySem.W.mg_of X G a_BadPaper, isb_ref X G (C := C_FoldError) a_FoldError T_FoldError d_BadPaper t_BadPaper s_FoldError_BadPaper s_FoldError_FoldError (by decide)⟩
      · exact ⟨C_BadSigns, PySem.W.mg_of X G a_BadSigns, isb_ref X G (C := C_FoldError) a_FoldError T_FoldError d_BadSigns t_BadSigns s_FoldError_BadSigns s_FoldError_FoldError (by decide)⟩
      · exact ⟨C_BadStack, PySem.W.mg_of X G a_BadStack, isb_ref X G (C := C_FoldError) a_FoldError T_FoldError d_BadStack t_BadStack s_FoldError_BadStack s_FoldError_FoldError (by decide)⟩
      · exact ⟨C_BadText, PySem.W.mg_of X G a_BadText, isb_ref X G (C := C_FoldError) a_FoldError T_FoldError d_BadText t_BadText s_FoldError_BadText s_FoldError_FoldError (by decide)⟩
      · exact ⟨C_BadWeights, PySem.W.mg_of X G a_BadWeights, isb_ref X G (C := C_FoldError) a_FoldError T_FoldError d_BadWeights t_BadWeights s_FoldError_BadWeights s_FoldError_FoldError (by decide)⟩
      · exact ⟨C_FoldError, PySem.W.mg_of X G a_FoldError, isb_ref X G (C := C_FoldError) a_FoldError T_FoldError d_FoldError t_FoldError s_FoldError_FoldError s_FoldError_FoldError (by decide)⟩
      · exact ⟨C_Nothing, PySem.W.mg_of X G a_Nothing, isb_ref X G (C := C_FoldError) a_FoldError T_FoldError d_Nothing t_Nothing s_FoldError_Nothing s_FoldError_FoldError (by decide)⟩
      · exact ⟨C_TooGreat, PySem.W.mg_of X G a_TooGreat, isb_ref X G (C := C_FoldError) a_FoldError T_FoldError d_TooGreat t_TooGreat s_FoldError_TooGreat s_FoldError_FoldError (by decide)⟩
    · rcases hd with rfl | rfl | rfl | rfl | rfl | rfl | rfl | rfl | rfl | rfl | rfl | rfl | rfl | rfl
      · exact ⟨C_BadCorner, PySem.W.mg_of X G a_BadCorner, isb_ref X G (C := C_BadCorner) a_BadCorner T_BadCorner d_BadCorner t_BadCorner s_BadCorner_BadCorner s_BadCorner_BadCorner (by decide)⟩
      · exact ⟨C_BadCreases, PySem.W.mg_of X G a_BadCreases, isb_ref X G (C := C_BadCorner) a_BadCorner T_BadCorner d_BadCreases t_BadCreases s_BadCorner_BadCreases s_BadCorner_BadCorner (by decide)⟩
      · exact ⟨C_BadFacts, PySem.W.mg_of X G a_BadFacts, isb_ref X G (C := C_BadCorner) a_BadCorner T_BadCorner d_BadFacts t_BadFacts s_BadCorner_BadFacts s_BadCorner_BadCorner (by decide)⟩
      · exact ⟨C_BadMask, PySem.W.mg_of X G a_BadMask, isb_ref X G (C := C_BadCorner) a_BadCorner T_BadCorner d_BadMask t_BadMask s_BadCorner_BadMask s_BadCorner_BadCorner (by decide)⟩
      · exact ⟨C_BadMove, PySem.W.mg_of X G a_BadMove, isb_ref X G (C := C_BadCorner) a_BadCorner T_BadCorner d_BadMove t_BadMove s_BadCorner_BadMove s_BadCorner_BadCorner (by decide)⟩
      · exact ⟨C_BadNumber, PySem.W.mg_of X G a_BadNumber, isb_ref X G (C := C_BadCorner) a_BadCorner T_BadCorner d_BadNumber t_BadNumber s_BadCorner_BadNumber s_BadCorner_BadCorner (by decide)⟩
      · exact ⟨C_BadPaper, PySem.W.mg_of X G a_BadPaper, isb_ref X G (C := C_BadCorner) a_BadCorner T_BadCorner d_BadPaper t_BadPaper s_BadCorner_BadPaper s_BadCorner_BadCorner (by decide)⟩
      · exact ⟨C_BadSigns, PySem.W.mg_of X G a_BadSigns, isb_ref X G (C := C_BadCorner) a_BadCorner T_BadCorner d_BadSigns t_BadSigns s_BadCorner_BadSigns s_BadCorner_BadCorner (by decide)⟩
      · exact ⟨C_BadStack, PySem.W.mg_of X G a_BadStack, isb_ref X G (C := C_BadCorner) a_BadCorner T_BadCorner d_BadStack t_BadStack s_BadCorner_BadStack s_BadCorner_BadCorner (by decide)⟩
      · exact ⟨C_BadText, PySem.W.mg_of X G a_BadText, isb_ref X G (C := C_BadCorner) a_BadCorner T_BadCorner d_BadText t_BadText s_BadCorner_BadText s_BadCorner_BadCorner (by decide)⟩
      · exact ⟨C_BadWeights, PySem.W.mg_of X G a_BadWeights, isb_ref X G (C := C_BadCorner) a_BadCorner T_BadCorner d_BadWeights t_BadWeights s_BadCorner_BadWeights s_BadCorner_BadCorner (by decide)⟩
      · exact ⟨C_FoldError, PySem.W.mg_of X G a_FoldError, isb_ref X G (C := C_BadCorner) a_BadCorner T_BadCorner d_FoldError t_FoldError s_BadCorner_FoldError s_BadCorner_BadCorner (by decide)⟩
      · exact ⟨C_Nothing, PySem.W.mg_of X G a_Nothing, isb_ref X G (C := C_BadCorner) a_BadCorner T_BadCorner d_Nothing t_Nothing s_BadCorner_Nothing s_BadCorner_BadCorner (by decide)⟩
      · exact ⟨C_TooGreat, PySem.W.mg_of X G a_TooGreat, isb_ref X G (C := C_BadCorner) a_BadCorner T_BadCorner d_TooGreat t_TooGreat s_BadCorner_TooGreat s_BadCorner_BadCorner (by decide)⟩
    · rcases hd with rfl | rfl | rfl | rfl | rfl | rfl | rfl | rfl | rfl | rfl | rfl | rfl | rfl | rfl
      · exact ⟨C_BadCorner, PySem.W.mg_of X G a_BadCorner, isb_ref X G (C := C_BadSigns) a_BadSigns T_BadSigns d_BadCorner t_BadCorner s_BadSigns_BadCorner s_BadSigns_BadSigns (by decide)⟩
      · exact ⟨C_BadCreases, PySem.W.mg_of X G a_BadCreases, isb_ref X G (C := C_BadSigns) a_BadSigns T_BadSigns d_BadCreases t_BadCreases s_BadSigns_BadCreases s_BadSigns_BadSigns (by decide)⟩
      · exact ⟨C_BadFacts, PySem.W.mg_of X G a_BadFacts, isb_ref X G (C := C_BadSigns) a_BadSigns T_BadSigns d_BadFacts t_BadFacts s_BadSigns_BadFacts s_BadSigns_BadSigns (by decide)⟩
      · exact ⟨C_BadMask, PySem.W.mg_of X G a_BadMask, isb_ref X G (C := C_BadSigns) a_BadSigns T_BadSigns d_BadMask t_BadMask s_BadSigns_BadMask s_BadSigns_BadSigns (by decide)⟩
      · exact ⟨C_BadMove, PySem.W.mg_of X G a_BadMove, isb_ref X G (C := C_BadSigns) a_BadSigns T_BadSigns d_BadMove t_BadMove s_BadSigns_BadMove s_BadSigns_BadSigns (by decide)⟩
      · exact ⟨C_BadNumber, PySem.W.mg_of X G a_BadNumber, isb_ref X G (C := C_BadSigns) a_BadSigns T_BadSigns d_BadNumber t_BadNumber s_BadSigns_BadNumber s_BadSigns_BadSigns (by decide)⟩
      · exact ⟨C_BadPaper, PySem.W.mg_of X G a_BadPaper, isb_ref X G (C := C_BadSigns) a_BadSigns T_BadSigns d_BadPaper t_BadPaper s_BadSigns_BadPaper s_BadSigns_BadSigns (by decide)⟩
      · exact ⟨C_BadSigns, PySem.W.mg_of X G a_BadSigns, isb_ref X G (C := C_BadSigns) a_BadSigns T_BadSigns d_BadSigns t_BadSigns s_BadSigns_BadSigns s_BadSigns_BadSigns (by decide)⟩
      · exact ⟨C_BadStack, PySem.W.mg_of X G a_BadStack, isb_ref X G (C := C_BadSigns) a_BadSigns T_BadSigns d_BadStack t_BadStack s_BadSigns_BadStack s_BadSigns_BadSigns (by decide)⟩
      · exact ⟨C_BadText, PySem.W.mg_of X G a_BadText, isb_ref X G (C := C_BadSigns) a_BadSigns T_BadSigns d_BadText t_BadText s_BadSigns_BadText s_BadSigns_BadSigns (by decide)⟩
      · exact ⟨C_BadWeights, PySem.W.mg_of X G a_BadWeights, isb_ref X G (C := C_BadSigns) a_BadSigns T_BadSigns d_BadWeights t_BadWeights s_BadSigns_BadWeights s_BadSigns_BadSigns (by decide)⟩
      · exact ⟨C_FoldError, PySem.W.mg_of X G a_FoldError, isb_ref X G (C := C_BadSigns) a_BadSigns T_BadSigns d_FoldError t_FoldError s_BadSigns_FoldError s_BadSigns_BadSigns (by decide)⟩
      · exact ⟨C_Nothing, PySem.W.mg_of X G a_Nothing, isb_ref X G (C := C_BadSigns) a_BadSigns T_BadSigns d_Nothing t_Nothing s_BadSigns_Nothing s_BadSigns_BadSigns (by decide)⟩
      · exact ⟨C_TooGreat, PySem.W.mg_of X G a_TooGreat, isb_ref X G (C := C_BadSigns) a_BadSigns T_BadSigns d_TooGreat t_TooGreat s_BadSigns_TooGreat s_BadSigns_BadSigns (by decide)⟩
    · rcases hd with rfl | rfl | rfl | rfl | rfl | rfl | rfl | rfl | rfl | rfl | rfl | rfl | rfl | rfl
      · exact ⟨C_BadCorner, PySem.W.mg_of X G a_BadCorner, isb_ref X G (C := C_BadStack) a_BadStack T_BadStack d_BadCorner t_BadCorner s_BadStack_BadCorner s_BadStack_BadStack (by decide)⟩
      · exact ⟨C_BadCreases, PySem.W.mg_of X G a_BadCreases, isb_ref X G (C := C_BadStack) a_BadStack T_BadStack d_BadCreases t_BadCreases s_BadStack_BadCreases s_BadStack_BadStack (by decide)⟩
      · exact ⟨C_BadFacts, PySem.W.mg_of X G a_BadFacts, isb_ref X G (C := C_BadStack) a_BadStack T_BadStack d_BadFacts t_BadFacts s_BadStack_BadFacts s_BadStack_BadStack (by decide)⟩
      · exact ⟨C_BadMask, PySem.W.mg_of X G a_BadMask, isb_ref X G (C := C_BadStack) a_BadStack T_BadStack d_BadMask t_BadMask s_BadStack_BadMask s_BadStack_BadStack (by decide)⟩
      · exact ⟨C_BadMove, PySem.W.mg_of X G a_BadMove, isb_ref X G (C := C_BadStack) a_BadStack T_BadStack d_BadMove t_BadMove s_BadStack_BadMove s_BadStack_BadStack (by decide)⟩
      · exact ⟨C_BadNumber, PySem.W.mg_of X G a_BadNumber, isb_ref X G (C := C_BadStack) a_BadStack T_BadStack d_BadNumber t_BadNumber s_BadStack_BadNumber s_BadStack_BadStack (by decide)⟩
      · exact ⟨C_BadPaper, PySem.W.mg_of X G a_BadPaper, isb_ref X G (C := C_BadStack) a_BadStack T_BadStack d_BadPaper t_BadPaper s_BadStack_BadPaper s_BadStack_BadStack (by decide)⟩
      · exact ⟨C_BadSigns, PySem.W.mg_of X G a_BadSigns, isb_ref X G (C := C_BadStack) a_BadStack T_BadStack d_BadSigns t_BadSigns s_BadStack_BadSigns s_BadStack_BadStack (by decide)⟩
      · exact ⟨C_BadStack, PySem.W.mg_of X G a_BadStack, isb_ref X G (C := C_BadStack) a_BadStack T_BadStack d_BadStack t_BadStack s_BadStack_BadStack s_BadStack_BadStack (by decide)⟩
      · exact ⟨C_BadText, PySem.W.mg_of X G a_BadText, isb_ref X G (C := C_BadStack) a_BadStack T_BadStack d_BadText t_BadText s_BadStack_BadText s_BadStack_BadStack (by decide)⟩
      · exact ⟨C_BadWeights, PySem.W.mg_of X G a_BadWeights, isb_ref X G (C := C_BadStack) a_BadStack T_BadStack d_BadWeights t_BadWeights s_BadStack_BadWeights s_BadStack_BadStack (by decide)⟩
      · exact ⟨C_FoldError, PySem.W.mg_of X G a_FoldError, isb_ref X G (C := C_BadStack) a_BadStack T_BadStack d_FoldError t_FoldError s_BadStack_FoldError s_BadStack_BadStack (by decide)⟩
      · exact ⟨C_Nothing, PySem.W.mg_of X G a_Nothing, isb_ref X G (C := C_BadStack) a_BadStack T_BadStack d_Nothing t_Nothing s_BadStack_Nothing s_BadStack_BadStack (by decide)⟩
      · exact ⟨C_TooGreat, PySem.W.mg_of X G a_TooGreat, isb_ref X G (C := C_BadStack) a_BadStack T_BadStack d_TooGreat t_TooGreat s_BadStack_TooGreat s_BadStack_BadStack (by decide)⟩
    · rcases hd with rfl | rfl | rfl | rfl | rfl | rfl | rfl | rfl | rfl | rfl | rfl | rfl | rfl | rfl
      · exact ⟨C_BadCorner, PySem.W.mg_of X G a_BadCorner, isb_ref X G (C := C_BadNumber) a_BadNumber T_BadNumber d_BadCorner t_BadCorner s_BadNumber_BadCorner s_BadNumber_BadNumber (by decide)⟩
      · exact ⟨C_BadCreases, PySem.W.mg_of X G a_BadCreases, isb_ref X G (C := C_BadNumber) a_BadNumber T_BadNumber d_BadCreases t_BadCreases s_BadNumber_BadCreases s_BadNumber_BadNumber (by decide)⟩
      · exact ⟨C_BadFacts, PySem.W.mg_of X G a_BadFacts, isb_ref X G (C := C_BadNumber) a_BadNumber T_BadNumber d_BadFacts t_BadFacts s_BadNumber_BadFacts s_BadNumber_BadNumber (by decide)⟩
      · exact ⟨C_BadMask, PySem.W.mg_of X G a_BadMask, isb_ref X G (C := C_BadNumber) a_BadNumber T_BadNumber d_BadMask t_BadMask s_BadNumber_BadMask s_BadNumber_BadNumber (by decide)⟩
      · exact ⟨C_BadMove, PySem.W.mg_of X G a_BadMove, isb_ref X G (C := C_BadNumber) a_BadNumber T_BadNumber d_BadMove t_BadMove s_BadNumber_BadMove s_BadNumber_BadNumber (by decide)⟩
      · exact ⟨C_BadNumber, PySem.W.mg_of X G a_BadNumber, isb_ref X G (C := C_BadNumber) a_BadNumber T_BadNumber d_BadNumber t_BadNumber s_BadNumber_BadNumber s_BadNumber_BadNumber (by decide)⟩
      · exact ⟨C_BadPaper, PySem.W.mg_of X G a_BadPaper, isb_ref X G (C := C_BadNumber) a_BadNumber T_BadNumber d_BadPaper t_BadPaper s_BadNumber_BadPaper s_BadNumber_BadNumber (by decide)⟩
      · exact ⟨C_BadSigns, PySem.W.mg_of X G a_BadSigns, isb_ref X G (C := C_BadNumber) a_BadNumber T_BadNumber d_BadSigns t_BadSigns s_BadNumber_BadSigns s_BadNumber_BadNumber (by decide)⟩
      · exact ⟨C_BadStack, PySem.W.mg_of X G a_BadStack, isb_ref X G (C := C_BadNumber) a_BadNumber T_BadNumber d_BadStack t_BadStack s_BadNumber_BadStack s_BadNumber_BadNumber (by decide)⟩
      · exact ⟨C_BadText, PySem.W.mg_of X G a_BadText, isb_ref X G (C := C_BadNumber) a_BadNumber T_BadNumber d_BadText t_BadText s_BadNumber_BadText s_BadNumber_BadNumber (by decide)⟩
      · exact ⟨C_BadWeights, PySem.W.mg_of X G a_BadWeights, isb_ref X G (C := C_BadNumber) a_BadNumber T_BadNumber d_BadWeights t_BadWeights s_BadNumber_BadWeights s_BadNumber_BadNumber (by decide)⟩
      · exact ⟨C_FoldError, PySem.W.mg_of X G a_FoldError, isb_ref X G (C := C_BadNumber) a_BadNumber T_BadNumber d_FoldError t_FoldError s_BadNumber_FoldError s_BadNumber_BadNumber (by decide)⟩
      · exact ⟨C_Nothing, PySem.W.mg_of X G a_Nothing, isb_ref X G (C := C_BadNumber) a_BadNumber T_BadNumber d_Nothing t_Nothing s_BadNumber_Nothing s_BadNumber_BadNumber (by decide)⟩
      · exact ⟨C_TooGreat, PySem.W.mg_of X G a_TooGreat, isb_ref X G (C := C_BadNumber) a_BadNumber T_BadNumber d_TooGreat t_TooGreat s_BadNumber_TooGreat s_BadNumber_BadNumber (by decide)⟩
    · rcases hd with rfl | rfl | rfl | rfl | rfl | rfl | rfl | rfl | rfl | rfl | rfl | rfl | rfl | rfl
      · exact ⟨C_BadCorner, PySem.W.mg_of X G a_BadCorner, isb_ref X G (C := C_BadMask) a_BadMask T_BadMask d_BadCorner t_BadCorner s_BadMask_BadCorner s_BadMask_BadMask (by decide)⟩
      · exact ⟨C_BadCreases, PySem.W.mg_of X G a_BadCreases, isb_ref X G (C := C_BadMask) a_BadMask T_BadMask d_BadCreases t_BadCreases s_BadMask_BadCreases s_BadMask_BadMask (by decide)⟩
      · exact ⟨C_BadFacts, PySem.W.mg_of X G a_BadFacts, isb_ref X G (C := C_BadMask) a_BadMask T_BadMask d_BadFacts t_BadFacts s_BadMask_BadFacts s_BadMask_BadMask (by decide)⟩
      · exact ⟨C_BadMask, PySem.W.mg_of X G a_BadMask, isb_ref X G (C := C_BadMask) a_BadMask T_BadMask d_BadMask t_BadMask s_BadMask_BadMask s_BadMask_BadMask (by decide)⟩
      · exact ⟨C_BadMove, PySem.W.mg_of X G a_BadMove, isb_ref X G (C := C_BadMask) a_BadMask T_BadMask d_BadMove t_BadMove s_BadMask_BadMove s_BadMask_BadMask (by decide)⟩
      · exact ⟨C_BadNumber, PySem.W.mg_of X G a_BadNumber, isb_ref X G (C := C_BadMask) a_BadMask T_BadMask d_BadNumber t_BadNumber s_BadMask_BadNumber s_BadMask_BadMask (by decide)⟩
      · exact ⟨C_BadPaper, PySem.W.mg_of X G a_BadPaper, isb_ref X G (C := C_BadMask) a_BadMask T_BadMask d_BadPaper t_BadPaper s_BadMask_BadPaper s_BadMask_BadMask (by decide)⟩
      · exact ⟨C_BadSigns, PySem.W.mg_of X G a_BadSigns, isb_ref X G (C := C_BadMask) a_BadMask T_BadMask d_BadSigns t_BadSigns s_BadMask_BadSigns s_BadMask_BadMask (by decide)⟩
      · exact ⟨C_BadStack, PySem.W.mg_of X G a_BadStack, isb_ref X G (C := C_BadMask) a_BadMask T_BadMask d_BadStack t_BadStack s_BadMask_BadStack s_BadMask_BadMask (by decide)⟩
      · exact ⟨C_BadText, PySem.W.mg_of X G a_BadText, isb_ref X G (C := C_BadMask) a_BadMask T_BadMask d_BadText t_BadText s_BadMask_BadText s_BadMask_BadMask (by decide)⟩
      · exact ⟨C_BadWeights, PySem.W.mg_of X G a_BadWeights, isb_ref X G (C := C_BadMask) a_BadMask T_BadMask d_BadWeights t_BadWeights s_BadMask_BadWeights s_BadMask_BadMask (by decide)⟩
      · exact ⟨C_FoldError, PySem.W.mg_of X G a_FoldError, isb_ref X G (C := C_BadMask) a_BadMask T_BadMask d_FoldError t_FoldError s_BadMask_FoldError s_BadMask_BadMask (by decide)⟩
      · exact ⟨C_Nothing, PySem.W.mg_of X G a_Nothing, isb_ref X G (C := C_BadMask) a_BadMask T_BadMask d_Nothing t_Nothing s_BadMask_Nothing s_BadMask_BadMask (by decide)⟩
      · exact ⟨C_TooGreat, PySem.W.mg_of X G a_TooGreat, isb_ref X G (C := C_BadMask) a_BadMask T_BadMask d_TooGreat t_TooGreat s_BadMask_TooGreat s_BadMask_BadMask (by decide)⟩
    · rcases hd with rfl | rfl | rfl | rfl | rfl | rfl | rfl | rfl | rfl | rfl | rfl | rfl | rfl | rfl
      · exact ⟨C_BadCorner, PySem.W.mg_of X G a_BadCorner, isb_ref X G (C := C_BadCreases) a_BadCreases T_BadCreases d_BadCorner t_BadCorner s_BadCreases_BadCorner s_BadCreases_BadCreases (by decide)⟩
      · exact ⟨C_BadCreases, PySem.W.mg_of X G a_BadCreases, isb_ref X G (C := C_BadCreases) a_BadCreases T_BadCreases d_BadCreases t_BadCreases s_BadCreases_BadCreases s_BadCreases_BadCreases (by decide)⟩
      · exact ⟨C_BadFacts, PySem.W.mg_of X G a_BadFacts, isb_ref X G (C := C_BadCreases) a_BadCreases T_BadCreases d_BadFacts t_BadFacts s_BadCreases_BadFacts s_BadCreases_BadCreases (by decide)⟩
      · exact ⟨C_BadMask, PySem.W.mg_of X G a_BadMask, isb_ref X G (C := C_BadCreases) a_BadCreases T_BadCreases d_BadMask t_BadMask s_BadCreases_BadMask s_BadCreases_BadCreases (by decide)⟩
      · exact ⟨C_BadMove, PySem.W.mg_of X G a_BadMove, isb_ref X G (C := C_BadCreases) a_BadCreases T_BadCreases d_BadMove t_BadMove s_BadCreases_BadMove s_BadCreases_BadCreases (by decide)⟩
      · exact ⟨C_BadNumber, PySem.W.mg_of X G a_BadNumber, isb_ref X G (C := C_BadCreases) a_BadCreases T_BadCreases d_BadNumber t_BadNumber s_BadCreases_BadNumber s_BadCreases_BadCreases (by decide)⟩
      · exact ⟨C_BadPaper, PySem.W.mg_of X G a_BadPaper, isb_ref X G (C := C_BadCreases) a_BadCreases T_BadCreases d_BadPaper t_BadPaper s_BadCreases_BadPaper s_BadCreases_BadCreases (by decide)⟩
      · exact ⟨C_BadSigns, PySem.W.mg_of X G a_BadSigns, isb_ref X G (C := C_BadCreases) a_BadCreases T_BadCreases d_BadSigns t_BadSigns s_BadCreases_BadSigns s_BadCreases_BadCreases (by decide)⟩
      · exact ⟨C_BadStack, PySem.W.mg_of X G a_BadStack, isb_ref X G (C := C_BadCreases) a_BadCreases T_BadCreases d_BadStack t_BadStack s_BadCreases_BadStack s_BadCreases_BadCreases (by decide)⟩
      · exact ⟨C_BadText, PySem.W.mg_of X G a_BadText, isb_ref X G (C := C_BadCreases) a_BadCreases T_BadCreases d_BadText t_BadText s_BadCreases_BadText s_BadCreases_BadCreases (by decide)⟩
      · exact ⟨C_BadWeights, PySem.W.mg_of X G a_BadWeights, isb_ref X G (C := C_BadCreases) a_BadCreases T_BadCreases d_BadWeights t_BadWeights s_BadCreases_BadWeights s_BadCreases_BadCreases (by decide)⟩
      · exact ⟨C_FoldError, PySem.W.mg_of X G a_FoldError, isb_ref X G (C := C_BadCreases) a_BadCreases T_BadCreases d_FoldError t_FoldError s_BadCreases_FoldError s_BadCreases_BadCreases (by decide)⟩
      · exact ⟨C_Nothing, PySem.W.mg_of X G a_Nothing, isb_ref X G (C := C_BadCreases) a_BadCreases T_BadCreases d_Nothing t_Nothing s_BadCreases_Nothing s_BadCreases_BadCreases (by decide)⟩
      · exact ⟨C_TooGreat, PySem.W.mg_of X G a_TooGreat, isb_ref X G (C := C_BadCreases) a_BadCreases T_BadCreases d_TooGreat t_TooGreat s_BadCreases_TooGreat s_BadCreases_BadCreases (by decide)⟩
    · rcases hd with rfl | rfl | rfl | rfl | rfl | rfl | rfl | rfl | rfl | rfl | rfl | rfl | rfl | rfl
      · exact ⟨C_BadCorner, PySem.W.mg_of X G a_BadCorner, isb_ref X G (C := C_BadWeights) a_BadWeights T_BadWeights d_BadCorner t_BadCorner s_BadWeights_BadCorner s_BadWeights_BadWeights (by decide)⟩
      · exact ⟨C_BadCreases, PySem.W.mg_of X G a_BadCreases, isb_ref X G (C := C_BadWeights) a_BadWeights T_BadWeights d_BadCreases t_BadCreases s_BadWeights_BadCreases s_BadWeights_BadWeights (by decide)⟩
      · exact ⟨C_BadFacts, PySem.W.mg_of X G a_BadFacts, isb_ref X G (C := C_BadWeights) a_BadWeights T_BadWeights d_BadFacts t_BadFacts s_BadWeights_BadFacts s_BadWeights_BadWeights (by decide)⟩
      · exact ⟨C_BadMask, PySem.W.mg_of X G a_BadMask, isb_ref X G (C := C_BadWeights) a_BadWeights T_BadWeights d_BadMask t_BadMask s_BadWeights_BadMask s_BadWeights_BadWeights (by decide)⟩
      · exact ⟨C_BadMove, PySem.W.mg_of X G a_BadMove, isb_ref X G (C := C_BadWeights) a_BadWeights T_BadWeights d_BadMove t_BadMove s_BadWeights_BadMove s_BadWeights_BadWeights (by decide)⟩
      · exact ⟨C_BadNumber, PySem.W.mg_of X G a_BadNumber, isb_ref X G (C := C_BadWeights) a_BadWeights T_BadWeights d_BadNumber t_BadNumber s_BadWeights_BadNumber s_BadWeights_BadWeights (by decide)⟩
      · exact ⟨C_BadPaper, PySem.W.mg_of X G a_BadPaper, isb_ref X G (C := C_BadWeights) a_BadWeights T_BadWeights d_BadPaper t_BadPaper s_BadWeights_BadPaper s_BadWeights_BadWeights (by decide)⟩
      · exact ⟨C_BadSigns, PySem.W.mg_of X G a_BadSigns, isb_ref X G (C := C_BadWeights) a_BadWeights T_BadWeights d_BadSigns t_BadSigns s_BadWeights_BadSigns s_BadWeights_BadWeights (by decide)⟩
      · exact ⟨C_BadStack, PySem.W.mg_of X G a_BadStack, isb_ref X G (C := C_BadWeights) a_BadWeights T_BadWeights d_BadStack t_BadStack s_BadWeights_BadStack s_BadWeights_BadWeights (by decide)⟩
      · exact ⟨C_BadText, PySem.W.mg_of X G a_BadText, isb_ref X G (C := C_BadWeights) a_BadWeights T_BadWeights d_BadText t_BadText s_BadWeights_BadText s_BadWeights_BadWeights (by decide)⟩
      · exact ⟨C_BadWeights, PySem.W.mg_of X G a_BadWeights, isb_ref X G (C := C_BadWeights) a_BadWeights T_BadWeights d_BadWeights t_BadWeights s_BadWeights_BadWeights s_BadWeights_BadWeights (by decide)⟩
      · exact ⟨C_FoldError, PySem.W.mg_of X G a_FoldError, isb_ref X G (C := C_BadWeights) a_BadWeights T_BadWeights d_FoldError t_FoldError s_BadWeights_FoldError s_BadWeights_BadWeights (by decide)⟩
      · exact ⟨C_Nothing, PySem.W.mg_of X G a_Nothing, isb_ref X G (C := C_BadWeights) a_BadWeights T_BadWeights d_Nothing t_Nothing s_BadWeights_Nothing s_BadWeights_BadWeights (by decide)⟩
      · exact ⟨C_TooGreat, PySem.W.mg_of X G a_TooGreat, isb_ref X G (C := C_BadWeights) a_BadWeights T_BadWeights d_TooGreat t_TooGreat s_BadWeights_TooGreat s_BadWeights_BadWeights (by decide)⟩
    · rcases hd with rfl | rfl | rfl | rfl | rfl | rfl | rfl | rfl | rfl | rfl | rfl | rfl | rfl | rfl
      · exact ⟨C_BadCorner, PySem.W.mg_of X G a_BadCorner, isb_ref X G (C := C_BadMove) a_BadMove T_BadMove d_BadCorner t_BadCorner s_BadMove_BadCorner s_BadMove_BadMove (by decide)⟩
      · exact ⟨C_BadCreases, PySem.W.mg_of X G a_BadCreases, isb_ref X G (C := C_BadMove) a_BadMove T_BadMove d_BadCreases t_BadCreases s_BadMove_BadCreases s_BadMove_BadMove (by decide)⟩
      · exact ⟨C_BadFacts, PySem.W.mg_of X G a_BadFacts, isb_ref X G (C := C_BadMove) a_BadMove T_BadMove d_BadFacts t_BadFacts s_BadMove_BadFacts s_BadMove_BadMove (by decide)⟩
      · exact ⟨C_BadMask, PySem.W.mg_of X G a_BadMask, isb_ref X G (C := C_BadMove) a_BadMove T_BadMove d_BadMask t_BadMask s_BadMove_BadMask s_BadMove_BadMove (by decide)⟩
      · exact ⟨C_BadMove, PySem.W.mg_of X G a_BadMove, isb_ref X G (C := C_BadMove) a_BadMove T_BadMove d_BadMove t_BadMove s_BadMove_BadMove s_BadMove_BadMove (by decide)⟩
      · exact ⟨C_BadNumber, PySem.W.mg_of X G a_BadNumber, isb_ref X G (C := C_BadMove) a_BadMove T_BadMove d_BadNumber t_BadNumber s_BadMove_BadNumber s_BadMove_BadMove (by decide)⟩
      · exact ⟨C_BadPaper, PySem.W.mg_of X G a_BadPaper, isb_ref X G (C := C_BadMove) a_BadMove T_BadMove d_BadPaper t_BadPaper s_BadMove_BadPaper s_BadMove_BadMove (by decide)⟩
      · exact ⟨C_BadSigns, PySem.W.mg_of X G a_BadSigns, isb_ref X G (C := C_BadMove) a_BadMove T_BadMove d_BadSigns t_BadSigns s_BadMove_BadSigns s_BadMove_BadMove (by decide)⟩
      · exact ⟨C_BadStack, PySem.W.mg_of X G a_BadStack, isb_ref X G (C := C_BadMove) a_BadMove T_BadMove d_BadStack t_BadStack s_BadMove_BadStack s_BadMove_BadMove (by decide)⟩
      · exact ⟨C_BadText, PySem.W.mg_of X G a_BadText, isb_ref X G (C := C_BadMove) a_BadMove T_BadMove d_BadText t_BadText s_BadMove_BadText s_BadMove_BadMove (by decide)⟩
      · exact ⟨C_BadWeights, PySem.W.mg_of X G a_BadWeights, isb_ref X G (C := C_BadMove) a_BadMove T_BadMove d_BadWeights t_BadWeights s_BadMove_BadWeights s_BadMove_BadMove (by decide)⟩
      · exact ⟨C_FoldError, PySem.W.mg_of X G a_FoldError, isb_ref X G (C := C_BadMove) a_BadMove T_BadMove d_FoldError t_FoldError s_BadMove_FoldError s_BadMove_BadMove (by decide)⟩
      · exact ⟨C_Nothing, PySem.W.mg_of X G a_Nothing, isb_ref X G (C := C_BadMove) a_BadMove T_BadMove d_Nothing t_Nothing s_BadMove_Nothing s_BadMove_BadMove (by decide)⟩
      · exact ⟨C_TooGreat, PySem.W.mg_of X G a_TooGreat, isb_ref X G (C := C_BadMove) a_BadMove T_BadMove d_TooGreat t_TooGreat s_BadMove_TooGreat s_BadMove_BadMove (by decide)⟩
    · rcases hd with rfl | rfl | rfl | rfl | rfl | rfl | rfl | rfl | rfl | rfl | rfl | rfl | rfl | rfl
      · exact ⟨C_BadCorner, PySem.W.mg_of X G a_BadCorner, isb_ref X G (C := C_BadPaper) a_BadPaper T_BadPaper d_BadCorner t_BadCorner s_BadPaper_BadCorner s_BadPaper_BadPaper (by decide)⟩
      · exact ⟨C_BadCreases, PySem.W.mg_of X G a_BadCreases, isb_ref X G (C := C_BadPaper) a_BadPaper T_BadPaper d_BadCreases t_BadCreases s_BadPaper_BadCreases s_BadPaper_BadPaper (by decide)⟩
      · exact ⟨C_BadFacts, PySem.W.mg_of X G a_BadFacts, isb_ref X G (C := C_BadPaper) a_BadPaper T_BadPaper d_BadFacts t_BadFacts s_BadPaper_BadFacts s_BadPaper_BadPaper (by decide)⟩
      · exact ⟨C_BadMask, PySem.W.mg_of X G a_BadMask, isb_ref X G (C := C_BadPaper) a_BadPaper T_BadPaper d_BadMask t_BadMask s_BadPaper_BadMask s_BadPaper_BadPaper (by decide)⟩
      · exact ⟨C_BadMove, PySem.W.mg_of X G a_BadMove, isb_ref X G (C := C_BadPaper) a_BadPaper T_BadPaper d_BadMove t_BadMove s_BadPaper_BadMove s_BadPaper_BadPaper (by decide)⟩
      · exact ⟨C_BadNumber, PySem.W.mg_of X G a_BadNumber, isb_ref X G (C := C_BadPaper) a_BadPaper T_BadPaper d_BadNumber t_BadNumber s_BadPaper_BadNumber s_BadPaper_BadPaper (by decide)⟩
      · exact ⟨C_BadPaper, PySem.W.mg_of X G a_BadPaper, isb_ref X G (C := C_BadPaper) a_BadPaper T_BadPaper d_BadPaper t_BadPaper s_BadPaper_BadPaper s_BadPaper_BadPaper (by decide)⟩
      · exact ⟨C_BadSigns, PySem.W.mg_of X G a_BadSigns, isb_ref X G (C := C_BadPaper) a_BadPaper T_BadPaper d_BadSigns t_BadSigns s_BadPaper_BadSigns s_BadPaper_BadPaper (by decide)⟩
      · exact ⟨C_BadStack, PySem.W.mg_of X G a_BadStack, isb_ref X G (C := C_BadPaper) a_BadPaper T_BadPaper d_BadStack t_BadStack s_BadPaper_BadStack s_BadPaper_BadPaper (by decide)⟩
      · exact ⟨C_BadText, PySem.W.mg_of X G a_BadText, isb_ref X G (C := C_BadPaper) a_BadPaper T_BadPaper d_BadText t_BadText s_BadPaper_BadText s_BadPaper_BadPaper (by decide)⟩
      · exact ⟨C_BadWeights, PySem.W.mg_of X G a_BadWeights, isb_ref X G (C := C_BadPaper) a_BadPaper T_BadPaper d_BadWeights t_BadWeights s_BadPaper_BadWeights s_BadPaper_BadPaper (by decide)⟩
      · exact ⟨C_FoldError, PySem.W.mg_of X G a_FoldError, isb_ref X G (C := C_BadPaper) a_BadPaper T_BadPaper d_FoldError t_FoldError s_BadPaper_FoldError s_BadPaper_BadPaper (by decide)⟩
      · exact ⟨C_Nothing, PySem.W.mg_of X G a_Nothing, isb_ref X G (C := C_BadPaper) a_BadPaper T_BadPaper d_Nothing t_Nothing s_BadPaper_Nothing s_BadPaper_BadPaper (by decide)⟩
      · exact ⟨C_TooGreat, PySem.W.mg_of X G a_TooGreat, isb_ref X G (C := C_BadPaper) a_BadPaper T_BadPaper d_TooGreat t_TooGreat s_BadPaper_TooGreat s_BadPaper_BadPaper (by decide)⟩
    · rcases hd with rfl | rfl | rfl | rfl | rfl | rfl | rfl | rfl | rfl | rfl | rfl | rfl | rfl | rfl
      · exact ⟨C_BadCorner, PySem.W.mg_of X G a_BadCorner, isb_ref X G (C := C_BadText) a_BadText T_BadText d_BadCorner t_BadCorner s_BadText_BadCorner s_BadText_BadText (by decide)⟩
      · exact ⟨C_BadCreases, PySem.W.mg_of X G a_BadCreases, isb_ref X G (C := C_BadText) a_BadText T_BadText d_BadCreases t_BadCreases s_BadText_BadCreases s_BadText_BadText (by decide)⟩
      · exact ⟨C_BadFacts, PySem.W.mg_of X G a_BadFacts, isb_ref X G (C := C_BadText) a_BadText T_BadText d_BadFacts t_BadFacts s_BadText_BadFacts s_BadText_BadText (by decide)⟩
      · exact ⟨C_BadMask, PySem.W.mg_of X G a_BadMask, isb_ref X G (C := C_BadText) a_BadText T_BadText d_BadMask t_BadMask s_BadText_BadMask s_BadText_BadText (by decide)⟩
      · exact ⟨C_BadMove, PySem.W.mg_of X G a_BadMove, isb_ref X G (C := C_BadText) a_BadText T_BadText d_BadMove t_BadMove s_BadText_BadMove s_BadText_BadText (by decide)⟩
      · exact ⟨C_BadNumber, PySem.W.mg_of X G a_BadNumber, isb_ref X G (C := C_BadText) a_BadText T_BadText d_BadNumber t_BadNumber s_BadText_BadNumber s_BadText_BadText (by decide)⟩
      · exact ⟨C_BadPaper, PySem.W.mg_of X G a_BadPaper, isb_ref X G (C := C_BadText) a_BadText T_BadText d_BadPaper t_BadPaper s_BadText_BadPaper s_BadText_BadText (by decide)⟩
      · exact ⟨C_BadSigns, PySem.W.mg_of X G a_BadSigns, isb_ref X G (C := C_BadText) a_BadText T_BadText d_BadSigns t_BadSigns s_BadText_BadSigns s_BadText_BadText (by decide)⟩
      · exact ⟨C_BadStack, PySem.W.mg_of X G a_BadStack, isb_ref X G (C := C_BadText) a_BadText T_BadText d_BadStack t_BadStack s_BadText_BadStack s_BadText_BadText (by decide)⟩
      · exact ⟨C_BadText, PySem.W.mg_of X G a_BadText, isb_ref X G (C := C_BadText) a_BadText T_BadText d_BadText t_BadText s_BadText_BadText s_BadText_BadText (by decide)⟩
      · exact ⟨C_BadWeights, PySem.W.mg_of X G a_BadWeights, isb_ref X G (C := C_BadText) a_BadText T_BadText d_BadWeights t_BadWeights s_BadText_BadWeights s_BadText_BadText (by decide)⟩
      · exact ⟨C_FoldError, PySem.W.mg_of X G a_FoldError, isb_ref X G (C := C_BadText) a_BadText T_BadText d_FoldError t_FoldError s_BadText_FoldError s_BadText_BadText (by decide)⟩
      · exact ⟨C_Nothing, PySem.W.mg_of X G a_Nothing, isb_ref X G (C := C_BadText) a_BadText T_BadText d_Nothing t_Nothing s_BadText_Nothing s_BadText_BadText (by decide)⟩
      · exact ⟨C_TooGreat, PySem.W.mg_of X G a_TooGreat, isb_ref X G (C := C_BadText) a_BadText T_BadText d_TooGreat t_TooGreat s_BadText_TooGreat s_BadText_BadText (by decide)⟩
    · rcases hd with rfl | rfl | rfl | rfl | rfl | rfl | rfl | rfl | rfl | rfl | rfl | rfl | rfl | rfl
      · exact ⟨C_BadCorner, PySem.W.mg_of X G a_BadCorner, isb_ref X G (C := C_BadFacts) a_BadFacts T_BadFacts d_BadCorner t_BadCorner s_BadFacts_BadCorner s_BadFacts_BadFacts (by decide)⟩
      · exact ⟨C_BadCreases, PySem.W.mg_of X G a_BadCreases, isb_ref X G (C := C_BadFacts) a_BadFacts T_BadFacts d_BadCreases t_BadCreases s_BadFacts_BadCreases s_BadFacts_BadFacts (by decide)⟩
      · exact ⟨C_BadFacts, PySem.W.mg_of X G a_BadFacts, isb_ref X G (C := C_BadFacts) a_BadFacts T_BadFacts d_BadFacts t_BadFacts s_BadFacts_BadFacts s_BadFacts_BadFacts (by decide)⟩
      · exact ⟨C_BadMask, PySem.W.mg_of X G a_BadMask, isb_ref X G (C := C_BadFacts) a_BadFacts T_BadFacts d_BadMask t_BadMask s_BadFacts_BadMask s_BadFacts_BadFacts (by decide)⟩
      · exact ⟨C_BadMove, PySem.W.mg_of X G a_BadMove, isb_ref X G (C := C_BadFacts) a_BadFacts T_BadFacts d_BadMove t_BadMove s_BadFacts_BadMove s_BadFacts_BadFacts (by decide)⟩
      · exact ⟨C_BadNumber, PySem.W.mg_of X G a_BadNumber, isb_ref X G (C := C_BadFacts) a_BadFacts T_BadFacts d_BadNumber t_BadNumber s_BadFacts_BadNumber s_BadFacts_BadFacts (by decide)⟩
      · exact ⟨C_BadPaper, PySem.W.mg_of X G a_BadPaper, isb_ref X G (C := C_BadFacts) a_BadFacts T_BadFacts d_BadPaper t_BadPaper s_BadFacts_BadPaper s_BadFacts_BadFacts (by decide)⟩
      · exact ⟨C_BadSigns, PySem.W.mg_of X G a_BadSigns, isb_ref X G (C := C_BadFacts) a_BadFacts T_BadFacts d_BadSigns t_BadSigns s_BadFacts_BadSigns s_BadFacts_BadFacts (by decide)⟩
      · exact ⟨C_BadStack, PySem.W.mg_of X G a_BadStack, isb_ref X G (C := C_BadFacts) a_BadFacts T_BadFacts d_BadStack t_BadStack s_BadFacts_BadStack s_BadFacts_BadFacts (by decide)⟩
      · exact ⟨C_BadText, PySem.W.mg_of X G a_BadText, isb_ref X G (C := C_BadFacts) a_BadFacts T_BadFacts d_BadText t_BadText s_BadFacts_BadText s_BadFacts_BadFacts (by decide)⟩
      · exact ⟨C_BadWeights, PySem.W.mg_of X G a_BadWeights, isb_ref X G (C := C_BadFacts) a_BadFacts T_BadFacts d_BadWeights t_BadWeights s_BadFacts_BadWeights s_BadFacts_BadFacts (by decide)⟩
      · exact ⟨C_FoldError, PySem.W.mg_of X G a_FoldError, isb_ref X G (C := C_BadFacts) a_BadFacts T_BadFacts d_FoldError t_FoldError s_BadFacts_FoldError s_BadFacts_BadFacts (by decide)⟩
      · exact ⟨C_Nothing, PySem.W.mg_of X G a_Nothing, isb_ref X G (C := C_BadFacts) a_BadFacts T_BadFacts d_Nothing t_Nothing s_BadFacts_Nothing s_BadFacts_BadFacts (by decide)⟩
      · exact ⟨C_TooGreat, PySem.W.mg_of X G a_TooGreat, isb_ref X G (C := C_BadFacts) a_BadFacts T_BadFacts d_TooGreat t_TooGreat s_BadFacts_TooGreat s_BadFacts_BadFacts (by decide)⟩
    · rcases hd with rfl | rfl | rfl | rfl | rfl | rfl | rfl | rfl | rfl | rfl | rfl | rfl | rfl | rfl
      · exact ⟨C_BadCorner, PySem.W.mg_of X G a_BadCorner, isb_ref X G (C := C_TooGreat) a_TooGreat T_TooGreat d_BadCorner t_BadCorner s_TooGreat_BadCorner s_TooGreat_TooGreat (by decide)⟩
      · exact ⟨C_BadCreases, PySem.W.mg_of X G a_BadCreases, isb_ref X G (C := C_TooGreat) a_TooGreat T_TooGreat d_BadCreases t_BadCreases s_TooGreat_BadCreases s_TooGreat_TooGreat (by decide)⟩
      · exact ⟨C_BadFacts, PySem.W.mg_of X G a_BadFacts, isb_ref X G (C := C_TooGreat) a_TooGreat T_TooGreat d_BadFacts t_BadFacts s_TooGreat_BadFacts s_TooGreat_TooGreat (by decide)⟩
      · exact ⟨C_BadMask, PySem.W.mg_of X G a_BadMask, isb_ref X G (C := C_TooGreat) a_TooGreat T_TooGreat d_BadMask t_BadMask s_TooGreat_BadMask s_TooGreat_TooGreat (by decide)⟩
      · exact ⟨C_BadMove, PySem.W.mg_of X G a_BadMove, isb_ref X G (C := C_TooGreat) a_TooGreat T_TooGreat d_BadMove t_BadMove s_TooGreat_BadMove s_TooGreat_TooGreat (by decide)⟩
      · exact ⟨C_BadNumber, PySem.W.mg_of X G a_BadNumber, isb_ref X G (C := C_TooGreat) a_TooGreat T_TooGreat d_BadNumber t_BadNumber s_TooGreat_BadNumber s_TooGreat_TooGreat (by decide)⟩
      · exact ⟨C_BadPaper, PySem.W.mg_of X G a_BadPaper, isb_ref X G (C := C_TooGreat) a_TooGreat T_TooGreat d_BadPaper t_BadPaper s_TooGreat_BadPaper s_TooGreat_TooGreat (by decide)⟩
      · exact ⟨C_BadSigns, PySem.W.mg_of X G a_BadSigns, isb_ref X G (C := C_TooGreat) a_TooGreat T_TooGreat d_BadSigns t_BadSigns s_TooGreat_BadSigns s_TooGreat_TooGreat (by decide)⟩
      · exact ⟨C_BadStack, PySem.W.mg_of X G a_BadStack, isb_ref X G (C := C_TooGreat) a_TooGreat T_TooGreat d_BadStack t_BadStack s_TooGreat_BadStack s_TooGreat_TooGreat (by decide)⟩
      · exact ⟨C_BadText, PySem.W.mg_of X G a_BadText, isb_ref X G (C := C_TooGreat) a_TooGreat T_TooGreat d_BadText t_BadText s_TooGreat_BadText s_TooGreat_TooGreat (by decide)⟩
      · exact ⟨C_BadWeights, PySem.W.mg_of X G a_BadWeights, isb_ref X G (C := C_TooGreat) a_TooGreat T_TooGreat d_BadWeights t_BadWeights s_TooGreat_BadWeights s_TooGreat_TooGreat (by decide)⟩
      · exact ⟨C_FoldError, PySem.W.mg_of X G a_FoldError, isb_ref X G (C := C_TooGreat) a_TooGreat T_TooGreat d_FoldError t_FoldError s_TooGreat_FoldError s_TooGreat_TooGreat (by decide)⟩
      · exact ⟨C_Nothing, PySem.W.mg_of X G a_Nothing, isb_ref X G (C := C_TooGreat) a_TooGreat T_TooGreat d_Nothing t_Nothing s_TooGreat_Nothing s_TooGreat_TooGreat (by decide)⟩
      · exact ⟨C_TooGreat, PySem.W.mg_of X G a_TooGreat, isb_ref X G (C := C_TooGreat) a_TooGreat T_TooGreat d_TooGreat t_TooGreat s_TooGreat_TooGreat s_TooGreat_TooGreat (by decide)⟩
    · rcases hd with rfl | rfl | rfl | rfl | rfl | rfl | rfl | rfl | rfl | rfl | rfl | rfl | rfl | rfl
      · exact ⟨C_BadCorner, PySem.W.mg_of X G a_BadCorner, isb_ref X G (C := C_Nothing) a_Nothing T_Nothing d_BadCorner t_BadCorner s_Nothing_BadCorner s_Nothing_Nothing (by decide)⟩
      · exact ⟨C_BadCreases, PySem.W.mg_of X G a_BadCreases, isb_ref X G (C := C_Nothing) a_Nothing T_Nothing d_BadCreases t_BadCreases s_Nothing_BadCreases s_Nothing_Nothing (by decide)⟩
      · exact ⟨C_BadFacts, PySem.W.mg_of X G a_BadFacts, isb_ref X G (C := C_Nothing) a_Nothing T_Nothing d_BadFacts t_BadFacts s_Nothing_BadFacts s_Nothing_Nothing (by decide)⟩
      · exact ⟨C_BadMask, PySem.W.mg_of X G a_BadMask, isb_ref X G (C := C_Nothing) a_Nothing T_Nothing d_BadMask t_BadMask s_Nothing_BadMask s_Nothing_Nothing (by decide)⟩
      · exact ⟨C_BadMove, PySem.W.mg_of X G a_BadMove, isb_ref X G (C := C_Nothing) a_Nothing T_Nothing d_BadMove t_BadMove s_Nothing_BadMove s_Nothing_Nothing (by decide)⟩
      · exact ⟨C_BadNumber, PySem.W.mg_of X G a_BadNumber, isb_ref X G (C := C_Nothing) a_Nothing T_Nothing d_BadNumber t_BadNumber s_Nothing_BadNumber s_Nothing_Nothing (by decide)⟩
      · exact ⟨C_BadPaper, PySem.W.mg_of X G a_BadPaper, isb_ref X G (C := C_Nothing) a_Nothing T_Nothing d_BadPaper t_BadPaper s_Nothing_BadPaper s_Nothing_Nothing (by decide)⟩
      · exact ⟨C_BadSigns, PySem.W.mg_of X G a_BadSigns, isb_ref X G (C := C_Nothing) a_Nothing T_Nothing d_BadSigns t_BadSigns s_Nothing_BadSigns s_Nothing_Nothing (by decide)⟩
      · exact ⟨C_BadStack, PySem.W.mg_of X G a_BadStack, isb_ref X G (C := C_Nothing) a_Nothing T_Nothing d_BadStack t_BadStack s_Nothing_BadStack s_Nothing_Nothing (by decide)⟩
      · exact ⟨C_BadText, PySem.W.mg_of X G a_BadText, isb_ref X G (C := C_Nothing) a_Nothing T_Nothing d_BadText t_BadText s_Nothing_BadText s_Nothing_Nothing (by decide)⟩
      · exact ⟨C_BadWeights, PySem.W.mg_of X G a_BadWeights, isb_ref X G (C := C_Nothing) a_Nothing T_Nothing d_BadWeights t_BadWeights s_Nothing_BadWeights s_Nothing_Nothing (by decide)⟩
      · exact ⟨C_FoldError, PySem.W.mg_of X G a_FoldError, isb_ref X G (C := C_Nothing) a_Nothing T_Nothing d_FoldError t_FoldError s_Nothing_FoldError s_Nothing_Nothing (by decide)⟩
      · exact ⟨C_Nothing, PySem.W.mg_of X G a_Nothing, isb_ref X G (C := C_Nothing) a_Nothing T_Nothing d_Nothing t_Nothing s_Nothing_Nothing s_Nothing_Nothing (by decide)⟩
      · exact ⟨C_TooGreat, PySem.W.mg_of X G a_TooGreat, isb_ref X G (C := C_Nothing) a_Nothing T_Nothing d_TooGreat t_TooGreat s_Nothing_TooGreat s_Nothing_Nothing (by decide)⟩
  have IB : ∀ c ∈ oksX, ∀ t ∈ tysX, IsB K mg c (.type t) (yT c t) := fun c hc t ht => by
    simp only [oksX, oks, tysX, List.mem_cons, List.not_mem_nil, or_false] at hc ht
    rcases hc with rfl | rfl | rfl | rfl | rfl | rfl | rfl | rfl | rfl | rfl | rfl | rfl | rfl | rfl
    · rcases ht with rfl | rfl | rfl | rfl | rfl | rfl | rfl
      · exact isb_ty X G (C := C_FoldError) a_FoldError T_FoldError y_FoldError_ValueError (by decide)
      · exact isb_ty X G (C := C_FoldError) a_FoldError T_FoldError y_FoldError_OverflowError (by decide)
      · exact isb_ty X G (C := C_FoldError) a_FoldError T_FoldError y_FoldError_LookupError (by decide)
      · exact isb_ty X G (C := C_FoldError) a_FoldError T_FoldError y_FoldError_KeyError (by decide)
      · exact isb_ty X G (C := C_FoldError) a_FoldError T_FoldError y_FoldError_IndexError (by decide)
      · exact isb_ty X G (C := C_FoldError) a_FoldError T_FoldError y_FoldError_TypeError (by decide)
      · exact isb_ty X G (C := C_FoldError) a_FoldError T_FoldError y_FoldError_RuntimeError (by decide)
    · rcases ht with rfl | rfl | rfl | rfl | rfl | rfl | rfl
      · exact isb_ty X G (C := C_BadCorner) a_BadCorner T_BadCorner y_BadCorner_ValueError (by decide)
      · exact isb_ty X G (C := C_BadCorner) a_BadCorner T_BadCorner y_BadCorner_OverflowError (by decide)
      · exact isb_ty X G (C := C_BadCorner) a_BadCorner T_BadCorner y_BadCorner_LookupError (by decide)
      · exact isb_ty X G (C := C_BadCorner) a_BadCorner T_BadCorner y_BadCorner_KeyError (by decide)
      · exact isb_ty X G (C := C_BadCorner) a_BadCorner T_BadCorner y_BadCorner_IndexError (by decide)
      · exact isb_ty X G (C := C_BadCorner) a_BadCorner T_BadCorner y_BadCorner_TypeError (by decide)
      · exact isb_ty X G (C := C_BadCorner) a_BadCorner T_BadCorner y_BadCorner_RuntimeError (by decide)
    · rcases ht with rfl | rfl | rfl | rfl | rfl | rfl | rfl
      · exact isb_ty X G (C := C_BadSigns) a_BadSigns T_BadSigns y_BadSigns_ValueError (by decide)
      · exact isb_ty X G (C := C_BadSigns) a_BadSigns T_BadSigns y_BadSigns_OverflowError (by decide)
      · exact isb_ty X G (C := C_BadSigns) a_BadSigns T_BadSigns y_BadSigns_LookupError (by decide)
      · exact isb_ty X G (C := C_BadSigns) a_BadSigns T_BadSigns y_BadSigns_KeyError (by decide)
      · exact isb_ty X G (C := C_BadSigns) a_BadSigns T_BadSigns y_BadSigns_IndexError (by decide)
      · exact isb_ty X G (C := C_BadSigns) a_BadSigns T_BadSigns y_BadSigns_TypeError (by decide)
      · exact isb_ty X G (C := C_BadSigns) a_BadSigns T_BadSigns y_BadSigns_RuntimeError (by decide)
    · rcases ht with rfl | rfl | rfl | rfl | rfl | rfl | rfl
      · exact isb_ty X G (C := C_BadStack) a_BadStack T_BadStack y_BadStack_ValueError (by decide)
      · exact isb_ty X G (C := C_BadStack) a_BadStack T_BadStack y_BadStack_OverflowError (by decide)
      · exact isb_ty X G (C := C_BadStack) a_BadStack T_BadStack y_BadStack_LookupError (by decide)
      · exact isb_ty X G (C := C_BadStack) a_BadStack T_BadStack y_BadStack_KeyError (by decide)
      · exact isb_ty X G (C := C_BadStack) a_BadStack T_BadStack y_BadStack_IndexError (by decide)
      · exact isb_ty X G (C := C_BadStack) a_BadStack T_BadStack y_BadStack_TypeError (by decide)
      · exact isb_ty X G (C := C_BadStack) a_BadStack T_BadStack y_BadStack_RuntimeError (by decide)
    · rcases ht with rfl | rfl | rfl | rfl | rfl | rfl | rfl
      · exact isb_ty X G (C := C_BadNumber) a_BadNumber T_BadNumber y_BadNumber_ValueError (by decide)
      · exact isb_ty X G (C := C_BadNumber) a_BadNumber T_BadNumber y_BadNumber_OverflowError (by decide)
      · exact isb_ty X G (C := C_BadNumber) a_BadNumber T_BadNumber y_BadNumber_LookupError (by decide)
      · exact isb_ty X G (C := C_BadNumber) a_BadNumber T_BadNumber y_BadNumber_KeyError (by decide)
      · exact isb_ty X G (C := C_BadNumber) a_BadNumber T_BadNumber y_BadNumber_IndexError (by decide)
      · exact isb_ty X G (C := C_BadNumber) a_BadNumber T_BadNumber y_BadNumber_TypeError (by decide)
      · exact isb_ty X G (C := C_BadNumber) a_BadNumber T_BadNumber y_BadNumber_RuntimeError (by decide)
    · rcases ht with rfl | rfl | rfl | rfl | rfl | rfl | rfl
      · exact isb_ty X G (C := C_BadMask) a_BadMask T_BadMask y_BadMask_ValueError (by decide)
      · exact isb_ty X G (C := C_BadMask) a_BadMask T_BadMask y_BadMask_OverflowError (by decide)
      · exact isb_ty X G (C := C_BadMask) a_BadMask T_BadMask y_BadMask_LookupError (by decide)
      · exact isb_ty X G (C := C_BadMask) a_BadMask T_BadMask y_BadMask_KeyError (by decide)
      · exact isb_ty X G (C := C_BadMask) a_BadMask T_BadMask y_BadMask_IndexError (by decide)
      · exact isb_ty X G (C := C_BadMask) a_BadMask T_BadMask y_BadMask_TypeError (by decide)
      · exact isb_ty X G (C := C_BadMask) a_BadMask T_BadMask y_BadMask_RuntimeError (by decide)
    · rcases ht with rfl | rfl | rfl | rfl | rfl | rfl | rfl
      · exact isb_ty X G (C := C_BadCreases) a_BadCreases T_BadCreases y_BadCreases_ValueError (by decide)
      · exact isb_ty X G (C := C_BadCreases) a_BadCreases T_BadCreases y_BadCreases_OverflowError (by decide)
      · exact isb_ty X G (C := C_BadCreases) a_BadCreases T_BadCreases y_BadCreases_LookupError (by decide)
      · exact isb_ty X G (C := C_BadCreases) a_BadCreases T_BadCreases y_BadCreases_KeyError (by decide)
      · exact isb_ty X G (C := C_BadCreases) a_BadCreases T_BadCreases y_BadCreases_IndexError (by decide)
      · exact isb_ty X G (C := C_BadCreases) a_BadCreases T_BadCreases y_BadCreases_TypeError (by decide)
      · exact isb_ty X G (C := C_BadCreases) a_BadCreases T_BadCreases y_BadCreases_RuntimeError (by decide)
    · rcases ht with rfl | rfl | rfl | rfl | rfl | rfl | rfl
      · exact isb_ty X G (C := C_BadWeights) a_BadWeights T_BadWeights y_BadWeights_ValueError (by decide)
      · exact isb_ty X G (C := C_BadWeights) a_BadWeights T_BadWeights y_BadWeights_OverflowError (by decide)
      · exact isb_ty X G (C := C_BadWeights) a_BadWeights T_BadWeights y_BadWeights_LookupError (by decide)
      · exact isb_ty X G (C := C_BadWeights) a_BadWeights T_BadWeights y_BadWeights_KeyError (by decide)
      · exact isb_ty X G (C := C_BadWeights) a_BadWeights T_BadWeights y_BadWeights_IndexError (by decide)
      · exact isb_ty X G (C := C_BadWeights) a_BadWeights T_BadWeights y_BadWeights_TypeError (by decide)
      · exact isb_ty X G (C := C_BadWeights) a_BadWeights T_BadWeights y_BadWeights_RuntimeError (by decide)
    · rcases ht with rfl | rfl | rfl | rfl | rfl | rfl | rfl
      · exact isb_ty X G (C := C_BadMove) a_BadMove T_BadMove y_BadMove_ValueError (by decide)
      · exact isb_ty X G (C := C_BadMove) a_BadMove T_BadMove y_BadMove_OverflowError (by decide)
      · exact isb_ty X G (C := C_BadMove) a_BadMove T_BadMove y_BadMove_LookupError (by decide)
      · exact isb_ty X G (C := C_BadMove) a_BadMove T_BadMove y_BadMove_KeyError (by decide)
      · exact isb_ty X G (C := C_BadMove) a_BadMove T_BadMove y_BadMove_IndexError (by decide)
      · exact isb_ty X G (C := C_BadMove) a_BadMove T_BadMove y_BadMove_TypeError (by decide)
      · exact isb_ty X G (C := C_BadMove) a_BadMove T_BadMove y_BadMove_RuntimeError (by decide)
    · rcases ht with rfl | rfl | rfl | rfl | rfl | rfl | rfl
      · exact isb_ty X G (C := C_BadPaper) a_BadPaper T_BadPaper y_BadPaper_ValueError (by decide)
      · exact isb_ty X G (C := C_BadPaper) a_BadPaper T_BadPaper y_BadPaper_OverflowError (by decide)
      · exact isb_ty X G (C := C_BadPaper) a_BadPaper T_BadPaper y_BadPaper_LookupError (by decide)
      · exact isb_ty X G (C := C_BadPaper) a_BadPaper T_BadPaper y_BadPaper_KeyError (by decide)
      · exact isb_ty X G (C := C_BadPaper) a_BadPaper T_BadPaper y_BadPaper_IndexError (by decide)
      · exact isb_ty X G (C := C_BadPaper) a_BadPaper T_BadPaper y_BadPaper_TypeError (by decide)
      · exact isb_ty X G (C := C_BadPaper) a_BadPaper T_BadPaper y_BadPaper_RuntimeError (by decide)
    · rcases ht with rfl | rfl | rfl | rfl | rfl | rfl | rfl
      · exact isb_ty X G (C := C_BadText) a_BadText T_BadText y_BadText_ValueError (by decide)
      · exact isb_ty X G (C := C_BadText) a_BadText T_BadText y_BadText_OverflowError (by decide)
      · exact isb_ty X G (C := C_BadText) a_BadText T_BadText y_BadText_LookupError (by decide)
      · exact isb_ty X G (C := C_BadText) a_BadText T_BadText y_BadText_KeyError (by decide)
      · exact isb_ty X G (C := C_BadText) a_BadText T_BadText y_BadText_IndexError (by decide)
      · exact isb_ty X G (C := C_BadText) a_BadText T_BadText y_BadText_TypeError (by decide)
      · exact isb_ty X G (C := C_BadText) a_BadText T_BadText y_BadText_RuntimeError (by decide)
    · rcases ht with rfl | rfl | rfl | rfl | rfl | rfl | rfl
      · exact isb_ty X G (C := C_BadFacts) a_BadFacts T_BadFacts y_BadFacts_ValueError (by decide)
      · exact isb_ty X G (C := C_BadFacts) a_BadFacts T_BadFacts y_BadFacts_OverflowError (by decide)
      · exact isb_ty X G (C := C_BadFacts) a_BadFacts T_BadFacts y_BadFacts_LookupError (by decide)
      · exact isb_ty X G (C := C_BadFacts) a_BadFacts T_BadFacts y_BadFacts_KeyError (by decide)
      · exact isb_ty X G (C := C_BadFacts) a_BadFacts T_BadFacts y_BadFacts_IndexError (by decide)
      · exact isb_ty X G (C := C_BadFacts) a_BadFacts T_BadFacts y_BadFacts_TypeError (by decide)
      · exact isb_ty X G (C := C_BadFacts) a_BadFacts T_BadFacts y_BadFacts_RuntimeError (by decide)
    · rcases ht with rfl | rfl | rfl | rfl | rfl | rfl | rfl
      · exact isb_ty X G (C := C_TooGreat) a_TooGreat T_TooGreat y_TooGreat_ValueError (by decide)
      · exact isb_ty X G (C := C_TooGreat) a_TooGreat T_TooGreat y_TooGreat_OverflowError (by decide)
      · exact isb_ty X G (C := C_TooGreat) a_TooGreat T_TooGreat y_TooGreat_LookupError (by decide)
      · exact isb_ty X G (C := C_TooGreat) a_TooGreat T_TooGreat y_TooGreat_KeyError (by decide)
      · exact isb_ty X G (C := C_TooGreat) a_TooGreat T_TooGreat y_TooGreat_IndexError (by decide)
      · exact isb_ty X G (C := C_TooGreat) a_TooGreat T_TooGreat y_TooGreat_TypeError (by decide)
      · exact isb_ty X G (C := C_TooGreat) a_TooGreat T_TooGreat y_TooGreat_RuntimeError (by decide)
    · rcases ht with rfl | rfl | rfl | rfl | rfl | rfl | rfl
      · exact isb_ty X G (C := C_Nothing) a_Nothing T_Nothing y_Nothing_ValueError (by decide)
      · exact isb_ty X G (C := C_Nothing) a_Nothing T_Nothing y_Nothing_OverflowError (by decide)
      · exact isb_ty X G (C := C_Nothing) a_Nothing T_Nothing y_Nothing_LookupError (by decide)
      · exact isb_ty X G (C := C_Nothing) a_Nothing T_Nothing y_Nothing_KeyError (by decide)
      · exact isb_ty X G (C := C_Nothing) a_Nothing T_Nothing y_Nothing_IndexError (by decide)
      · exact isb_ty X G (C := C_Nothing) a_Nothing T_Nothing y_Nothing_TypeError (by decide)
      · exact isb_ty X G (C := C_Nothing) a_Nothing T_Nothing y_Nothing_RuntimeError (by decide)
  have IT : IsTab K mg oksX cls tysX fT yT := ⟨IO, IB, PySem.W.mg_none_of X G nb_⟩
  have RB : BareE K mg := bare_of X G a_FoldError fb_ q_ kC_FoldError fs_ b_FoldError nb_
  have F_ := fun_mk (st := st_law) l_law c_law k_law
  refine ⟨PySem.W.fnOf "law" "law" (defArgs st_law) (defBody st_law) (defScope st_law) .none kV_law dc_law pm_law an_law cd_law ct_law, fun s v => .of_eq rfl, fun base _ _ hT => ?_⟩
  have G__law_begun := h__law_begun (P := P) (w := w) (base := base) Z D__law_begun
  have G__law_draw := h__law_draw (P := P) (w := w) (base := base) Z D__law_draw
  have G__law_of := g__law_of (P := P) (w := w) (base := base) Z D__law_of G__law_draw
  have G__law_odd := g__law_odd (P := P) (w := w) (base := base) Z D__law_odd G__law_of
  have G__law_fields := g__law_fields (P := P) (w := w) (base := base) Z D__law_fields EO
  have G__law_kinds := g__law_kinds (P := P) (w := w) (base := base) Z D__law_kinds IT
  have G__law_elders := g__law_elders (P := P) (w := w) (base := base) Z D__law_elders IT
  have G__law_right := g__law_right (P := P) (w := w) (base := base) Z D__law_right G__law_elders G__law_fields G__law_kinds
  have G__law_made := g__law_made (P := P) (w := w) (base := base) Z D__law_made (V_BadCorner base) (V_BadCreases base) (V_BadFacts base) (V_BadMask base) (V_BadMove base) (V_BadNumber base) (V_BadPaper base) (V_BadSigns base) (V_BadStack base) (V_BadText base) (V_BadWeights base) (V_Nothing base) (V_TooGreat base)
  have G__law_named := g__law_named (P := P) (w := w) (base := base) Z D__law_named (V_BadCorner base) (V_BadCreases base) (V_BadFacts base) (V_BadMask base) (V_BadMove base) (V_BadNumber base) (V_BadPaper base) (V_BadSigns base) (V_BadStack base) (V_BadText base) (V_BadWeights base) (V_Nothing base) (V_TooGreat base)
  exact (w_law (P := P) (w := w) (base := base) Z F_ G__law_begun G__law_elders G__law_kinds G__law_made G__law_named G__law_odd G__law_right RB).imp fun vs H Q E q => law_sp hc hr q
end Wk01
open PySem PySem.W PyProof.Rows
set_option maxRecDepth 100000 in
set_option maxHeartbeats 0 in
theorem PySem.Challenge.cw_pointfolds_k01_errors_holds : PySem.Challenge.rw_pointfolds_k01_errors.Holds := by
  w_on; o_law; k_head; (case hw => w_witness2)
  k_fill
  refine DL.walk_goS (l := PySem.Challenge.rw_pointfolds_k01_errors) (n := 63) (k := 4) (x := "_law_script") (sp := fun w => DL.spLaw _) (cs := Wk01.csL) rfl (by decide) rfl ⟨rfl, by decide, by decide⟩ (fun w h Y => PySem.W.kIn_of Y) (by decide +kernel) ?SK ?TT ?F (fun _ H a ns hl hT hU hs => ⟨a, ns, rfl, hs, hl, DL.tabs_nil Wk01.csL_tabs hT (fun _ => hU), fun _ => rfl⟩)
  case SK =>
    intro w
    first | rfl | k_is
  case TT =>
    intro w p hp
    exact absurd hp List.not_mem_nil
  case F =>
    intro w mg fa h KX G hmg
    refine' Wk01.all_mk Wk01.runs_c Wk01.runs_law KX G hmg ?a__law_begun ?l__law_begun ?c__law_begun ?k__law_begun ?a__law_draw ?l__law_draw ?c__law_draw ?k__law_draw ?a__law_of ?l__law_of ?c__law_of ?k__law_of ?a__law_odd ?l__law_odd ?c__law_odd ?k__law_odd ?a__law_fields ?l__law_fields ?c__law_fields ?k__law_fields ?a__law_kinds ?l__law_kinds ?c__law_kinds ?k__law_kinds ?a__law_elders ?l__law_elders ?c__law_elders ?k__law_elders ?a__law_right ?l__law_right ?c__law_right ?k__law_right ?a__law_made ?l__law_made ?c__law_made ?k__law_made ?a__law_named ?l__law_named ?c__law_named ?k__law_named ?a_law ?l_law ?c_law ?k_law ?n_IndexError ?n_KeyError ?n_LookupError ?n_OverflowError ?n_RuntimeError ?n_TypeError ?n_ValueError ?n_enumerate ?n_int ?n_isinstance ?n_len ?n_list ?n_min ?n_range ?n_repr ?n_str ?a_BadCorner ?b_BadCorner ?d_BadCorner ?t_BadCorner ?ga_BadCorner ?gg_BadCorner ?gc_BadCorner ?gm_BadCorner ?a_BadCreases ?b_BadCreases ?d_BadCreases ?t_BadCreases ?ga_BadCreases ?gg_BadCreases ?gc_BadCreases ?gm_BadCreases ?a_BadFacts ?b_BadFacts ?d_BadFacts ?t_BadFacts ?ga_BadFacts ?gg_BadFacts ?gc_BadFacts ?gm_BadFacts ?a_BadMask ?b_BadMask ?d_BadMask ?t_BadMask ?ga_BadMask ?gg_BadMask ?gc_BadMask ?gm_BadMask ?a_BadMove ?b_BadMove ?d_BadMove ?t_BadMove ?ga_BadMove ?gg_BadMove ?gc_BadMove ?gm_BadMove ?a_BadNumber ?b_BadNumber ?d_BadNumber ?t_BadNumber ?ga_BadNumber ?gg_BadNumber ?gc_BadNumber ?gm_BadNumber ?a_BadPaper ?b_BadPaper ?d_BadPaper ?t_BadPaper ?ga_BadPaper ?gg_BadPaper ?gc_BadPaper ?gm_BadPaper ?a_BadSigns ?b_BadSigns ?d_BadSigns ?t_BadSigns ?ga_BadSigns ?gg_BadSigns ?gc_BadSigns ?gm_BadSigns ?a_BadStack ?b_BadStack ?d_BadStack ?t_BadStack ?ga_BadStack ?gg_BadStack ?gc_BadStack ?gm_BadStack ?a_BadText ?b_BadText ?d_BadText ?t_BadText ?ga_BadText ?gg_BadText ?gc_BadText ?gm_BadText ?a_BadWeights ?b_BadWeights ?d_BadWeights ?t_BadWeights ?ga_BadWeights ?gg_BadWeights ?gc_BadWeights ?gm_BadWeights ?a_FoldError ?b_FoldError ?d_FoldError ?t_FoldError ?ga_FoldError ?gg_FoldError ?gc_FoldError ?gm_FoldError ?a_Nothing ?b_Nothing ?d_Nothing ?t_Nothing ?ga_Nothing ?gg_Nothing ?gc_Nothing ?gm_Nothing ?a_TooGreat ?b_TooGreat ?d_TooGreat ?t_TooGreat ?ga_TooGreat ?gg_TooGreat ?gc_TooGreat ?gm_TooGreat ?gs_ ?gt_ ?nb_ ?gf_BadCorner ?gf_BadSigns ?gf_BadStack ?gf_BadNumber ?gf_BadMask ?gf_BadCreases ?gf_BadWeights ?gf_BadMove ?gf_BadPaper ?gf_BadText ?gf_BadFacts ?gf_TooGreat ?gf_Nothing ?s_BadCorner_BadCorner ?s_BadCorner_BadCreases ?s_BadCorner_BadFacts ?s_BadCorner_BadMask ?s_BadCorner_BadMove ?s_BadCorner_BadNumber ?s_BadCorner_BadPaper ?s_BadCorner_BadSigns ?s_BadCorner_BadStack ?s_BadCorner_BadText ?s_BadCorner_BadWeights ?s_BadCorner_FoldError ?s_BadCorner_Nothing ?s_BadCorner_TooGreat ?y_BadCorner_ValueError ?y_BadCorner_OverflowError ?y_BadCorner_LookupError ?y_BadCorner_KeyError ?y_BadCorner_IndexError ?y_BadCorner_TypeError ?y_BadCorner_RuntimeError ?s_BadCreases_BadCorner ?s_BadCreases_BadCreases ?s_BadCreases_BadFacts ?s_BadCreases_BadMask ?s_BadCreases_BadMove ?s_BadCreases_BadNumber ?s_BadCreases_BadPaper ?s_BadCreases_BadSigns ?s_BadCreases_BadStack ?s_BadCreases_BadText ?s_BadCreases_BadWeights ?s_BadCreases_FoldError ?s_BadCreases_Nothing ?s_BadCreases_TooGreat ?y_BadCreases_ValueError ?y_BadCreases_OverflowError ?y_BadCreases_LookupError ?y_BadCreases_KeyError ?y_BadCreases_IndexError ?y_BadCreases_TypeError ?y_BadCreases_RuntimeError ?s_BadFacts_BadCorner ?s_BadFacts_BadCreases ?s_BadFacts_BadFacts ?s_BadFacts_BadMask ?s_BadFacts_BadMove ?s_BadFacts_BadNumber ?s_BadFacts_BadPaper ?s_BadFacts_BadSigns ?s_BadFacts_BadStack ?s_BadFacts_BadText ?s_BadFacts_BadWeights ?s_BadFacts_FoldError ?s_BadFacts_Nothing ?s_BadFacts_TooGreat ?y_BadFacts_ValueError ?y_BadFacts_OverflowError ?y_BadFacts_LookupError ?y_BadFacts_KeyError ?y_BadFacts_IndexError ?y_BadFacts_TypeError ?y_BadFacts_RuntimeError ?s_BadMask_BadCorner ?s_BadMask_BadCreases ?s_BadMask_BadFacts ?s_BadMask_BadMask ?s_BadMask_BadMove ?s_BadMask_BadNumber ?s_BadMask_BadPaper ?s_BadMask_BadSigns ?s_BadMask_BadStack ?s_BadMask_BadText ?s_BadMask_BadWeights ?s_BadMask_FoldError ?s_BadMask_Nothing ?s_BadMask_TooGreat ?y_BadMask_ValueError ?y_BadMask_OverflowError ?y_BadMask_LookupError ?y_BadMask_KeyError ?y_BadMask_IndexError ?y_BadMask_TypeError ?y_BadMask_RuntimeError ?s_BadMove_BadCorner ?s_BadMove_BadCreases ?s_BadMove_BadFacts ?s_BadMove_BadMask ?s_BadMove_BadMove ?s_BadMove_BadNumber ?s_BadMove_BadPaper ?s_BadMove_BadSigns ?s_BadMove_BadStack ?s_BadMove_BadText ?s_BadMove_BadWeights ?s_BadMove_FoldError ?s_BadMove_Nothing ?s_BadMove_TooGreat ?y_BadMove_ValueError ?y_BadMove_OverflowError ?y_BadMove_LookupError ?y_BadMove_KeyError ?y_BadMove_IndexError ?y_BadMove_TypeError ?y_BadMove_RuntimeError ?s_BadNumber_BadCorner ?s_BadNumber_BadCreases ?s_BadNumber_BadFacts ?s_BadNumber_BadMask ?s_BadNumber_BadMove ?s_BadNumber_BadNumber ?s_BadNumber_BadPaper ?s_BadNumber_BadSigns ?s_BadNumber_BadStack ?s_BadNumber_BadText ?s_BadNumber_BadWeights ?s_BadNumber_FoldError ?s_BadNumber_Nothing ?s_BadNumber_TooGreat ?y_BadNumber_ValueError ?y_BadNumber_OverflowError ?y_BadNumber_LookupError ?y_BadNumber_KeyError ?y_BadNumber_IndexError ?y_BadNumber_TypeError ?y_BadNumber_RuntimeError ?s_BadPaper_BadCorner ?s_BadPaper_BadCreases ?s_BadPaper_BadFacts ?s_BadPaper_BadMask ?s_BadPaper_BadMove ?s_BadPaper_BadNumber ?s_BadPaper_BadPaper ?s_BadPaper_BadSigns ?s_BadPaper_BadStack ?s_BadPaper_BadText ?s_BadPaper_BadWeights ?s_BadPaper_FoldError ?s_BadPaper_Nothing ?s_BadPaper_TooGreat ?y_BadPaper_ValueError ?y_BadPaper_OverflowError ?y_BadPaper_LookupError ?y_BadPaper_KeyError ?y_BadPaper_IndexError ?y_BadPaper_TypeError ?y_BadPaper_RuntimeError ?s_BadSigns_BadCorner ?s_BadSigns_BadCreases ?s_BadSigns_BadFacts ?s_BadSigns_BadMask ?s_BadSigns_BadMove ?s_BadSigns_BadNumber ?s_BadSigns_BadPaper ?s_BadSigns_BadSigns ?s_BadSigns_BadStack ?s_BadSigns_BadText ?s_BadSigns_BadWeights ?s_BadSigns_FoldError ?s_BadSigns_Nothing ?s_BadSigns_TooGreat ?y_BadSigns_ValueError ?y_BadSigns_OverflowError ?y_BadSigns_LookupError ?y_BadSigns_KeyError ?y_BadSigns_IndexError ?y_BadSigns_TypeError ?y_BadSigns_RuntimeError ?s_BadStack_BadCorner ?s_BadStack_BadCreases ?s_BadStack_BadFacts ?s_BadStack_BadMask ?s_BadStack_BadMove ?s_BadStack_BadNumber ?s_BadStack_BadPaper ?s_BadStack_BadSigns ?s_BadStack_BadStack ?s_BadStack_BadText ?s_BadStack_BadWeights ?s_BadStack_FoldError ?s_BadStack_Nothing ?s_BadStack_TooGreat ?y_BadStack_ValueError ?y_BadStack_OverflowError ?y_BadStack_LookupError ?y_BadStack_KeyError ?y_BadStack_IndexError ?y_BadStack_TypeError ?y_BadStack_RuntimeError ?s_BadText_BadCorner ?s_BadText_BadCreases ?s_BadText_BadFacts ?s_BadText_BadMask ?s_BadText_BadMove ?s_BadText_BadNumber ?s_BadText_BadPaper ?s_BadText_BadSigns ?s_BadText_BadStack ?s_BadText_BadText ?s_BadText_BadWeights ?s_BadText_FoldError ?s_BadText_Nothing ?s_BadText_TooGreat ?y_BadText_ValueError ?y_BadText_OverflowError ?y_BadText_LookupError ?y_BadText_KeyError ?y_BadText_IndexError ?y_BadText_TypeError ?y_BadText_RuntimeError ?s_BadWeights_BadCorner ?s_BadWeights_BadCreases ?s_BadWeights_BadFacts ?s_BadWeights_BadMask ?s_BadWeights_BadMove ?s_BadWeights_BadNumber ?s_BadWeights_BadPaper ?s_BadWeights_BadSigns ?s_BadWeights_BadStack ?s_BadWeights_BadText ?s_BadWeights_BadWeights ?s_BadWeights_FoldError ?s_BadWeights_Nothing ?s_BadWeights_TooGreat ?y_BadWeights_ValueError ?y_BadWeights_OverflowError ?y_BadWeights_LookupError ?y_BadWeights_KeyError ?y_BadWeights_IndexError ?y_BadWeights_TypeError ?y_BadWeights_RuntimeError ?s_FoldError_BadCorner ?s_FoldError_BadCreases ?s_FoldError_BadFacts ?s_FoldError_BadMask ?s_FoldError_BadMove ?s_FoldError_BadNumber ?s_FoldError_BadPaper ?s_FoldError_BadSigns ?s_FoldError_BadStack ?s_FoldError_BadText ?s_FoldError_BadWeights ?s_FoldError_FoldError ?s_FoldError_Nothing ?s_FoldError_TooGreat ?y_FoldError_ValueError ?y_FoldError_OverflowError ?y_FoldError_LookupError ?y_FoldError_KeyError ?y_FoldError_IndexError ?y_FoldError_TypeError ?y_FoldError_RuntimeError ?s_Nothing_BadCorner ?s_Nothing_BadCreases ?s_Nothing_BadFacts ?s_Nothing_BadMask ?s_Nothing_BadMove ?s_Nothing_BadNumber ?s_Nothing_BadPaper ?s_Nothing_BadSigns ?s_Nothing_BadStack ?s_Nothing_BadText ?s_Nothing_BadWeights ?s_Nothing_FoldError ?s_Nothing_Nothing ?s_Nothing_TooGreat ?y_Nothing_ValueError ?y_Nothing_OverflowError ?y_Nothing_LookupError ?y_Nothing_KeyError ?y_Nothing_IndexError ?y_Nothing_TypeError ?y_Nothing_RuntimeError ?s_TooGreat_BadCorner ?s_TooGreat_BadCreases ?s_TooGreat_BadFacts ?s_TooGreat_BadMask ?s_TooGreat_BadMove ?s_TooGreat_BadNumber ?s_TooGreat_BadPaper ?s_TooGreat_BadSigns ?s_TooGreat_BadStack ?s_TooGreat_BadText ?s_TooGreat_BadWeights ?s_TooGreat_FoldError ?s_TooGreat_Nothing ?s_TooGreat_TooGreat ?y_TooGreat_ValueError ?y_TooGreat_OverflowError ?y_TooGreat_LookupError ?y_TooGreat_KeyError ?y_TooGreat_IndexError ?y_TooGreat_TypeError ?y_TooGreat_RuntimeError ?kC_FoldError ?fs_ ?fb_ ?q_ ?hsu ?hth ?htop ?xL_BadCorner ?sa_BadCorner ?kC_BadCorner ?iC_BadCorner ?tI_BadCorner ?hl_BadCorner ?hcd_BadCorner ?hk_BadCorner ?hv_BadCorner ?hf_BadCorner ?hce_BadCorner ?hC_BadCorner ?hmr_BadCorner ?hsi_BadCorner ?xL_BadSigns ?sa_BadSigns ?kC_BadSigns ?iC_BadSigns ?tI_BadSigns ?hl_BadSigns ?hcd_BadSigns ?hk_BadSigns ?hv_BadSigns ?hf_BadSigns ?hce_BadSigns ?hC_BadSigns ?hmr_BadSigns ?hsi_BadSigns ?xL_BadStack ?sa_BadStack ?kC_BadStack ?iC_BadStack ?tI_BadStack ?hl_BadStack ?hcd_BadStack ?hk_BadStack ?hv_BadStack ?hf_BadStack ?hce_BadStack ?hC_BadStack ?hmr_BadStack ?hsi_BadStack ?xL_BadNumber ?sa_BadNumber ?kC_BadNumber ?iC_BadNumber ?tI_BadNumber ?hl_BadNumber ?hcd_BadNumber ?hk_BadNumber ?hv_BadNumber ?hf_BadNumber ?hce_BadNumber ?hC_BadNumber ?hmr_BadNumber ?hsi_BadNumber ?xL_BadMask ?sa_BadMask ?kC_BadMask ?iC_BadMask ?tI_BadMask ?hl_BadMask ?hcd_BadMask ?hk_BadMask ?hv_BadMask ?hf_BadMask ?hce_BadMask ?hC_BadMask ?hmr_BadMask ?hsi_BadMask ?xL_BadCreases ?sa_BadCreases ?kC_BadCreases ?iC_BadCreases ?tI_BadCreases ?hl_BadCreases ?hcd_BadCreases ?hk_BadCreases ?hv_BadCreases ?hf_BadCreases ?hce_BadCreases ?hC_BadCreases ?hmr_BadCreases ?hsi_BadCreases ?xL_BadWeights ?sa_BadWeights ?kC_BadWeights ?iC_BadWeights ?tI_BadWeights ?hl_BadWeights ?hcd_BadWeights ?hk_BadWeights ?hv_BadWeights ?hf_BadWeights ?hce_BadWeights ?hC_BadWeights ?hmr_BadWeights ?hsi_BadWeights ?xL_BadMove ?sa_BadMove ?kC_BadMove ?iC_BadMove ?tI_BadMove ?hl_BadMove ?hcd_BadMove ?hk_BadMove ?hv_BadMove ?hf_BadMove ?hce_BadMove ?hC_BadMove ?hmr_BadMove ?hsi_BadMove ?xL_BadPaper ?sa_BadPaper ?kC_BadPaper ?iC_BadPaper ?tI_BadPaper ?hl_BadPaper ?hcd_BadPaper ?hk_BadPaper ?hv_BadPaper ?hf_BadPaper ?hce_BadPaper ?hC_BadPaper ?hmr_BadPaper ?hsi_BadPaper ?xL_BadText ?sa_BadText ?kC_BadText ?iC_BadText ?tI_BadText ?hl_BadText ?hcd_BadText ?hk_BadText ?hv_BadText ?hf_BadText ?hce_BadText ?hC_BadText ?hmr_BadText ?hsi_BadText ?xL_BadFacts ?sa_BadFacts ?kC_BadFacts ?iC_BadFacts ?tI_BadFacts ?hl_BadFacts ?hcd_BadFacts ?hk_BadFacts ?hv_BadFacts ?hf_BadFacts ?hce_BadFacts ?hC_BadFacts ?hmr_BadFacts ?hsi_BadFacts ?xL_TooGreat ?sa_TooGreat ?kC_TooGreat ?iC_TooGreat ?tI_TooGreat ?hl_TooGreat ?hcd_TooGreat ?hk_TooGreat ?hv_TooGreat ?hf_TooGreat ?hce_TooGreat ?hC_TooGreat ?hmr_TooGreat ?hsi_TooGreat ?xL_Nothing ?sa_Nothing ?kC_Nothing ?iC_Nothing ?tI_Nothing ?hl_Nothing ?hcd_Nothing ?hk_Nothing ?hv_Nothing ?hf_Nothing ?hce_Nothing ?hC_Nothing ?hmr_Nothing ?hsi_Nothing
    (case fb_ => exact PySem.F.excBase_ValueError)
    (case a__law_begun => k_is)
    (case l__law_begun => k_is)
    (case c__law_begun => k_is)
    (case k__law_begun => k_is)
    (case a__law_draw => k_is)
    (case l__law_draw => k_is)
    (case c__law_draw => k_is)
    (case k__law_draw => k_is)
    (case a__law_of => k_is)
    (case l__law_of => k_is)
    (case c__law_of => k_is)
    (case k__law_of => k_is)
    (case a__law_odd => k_is)
    (case l__law_odd => k_is)
    (case c__law_odd => k_is)
    (case k__law_odd => k_is)
    (case a__law_fields => k_is)
    (case l__law_fields => k_is)
    (case c__law_fields => k_is)
    (case k__law_fields => k_is)
    (case a__law_kinds => k_is)
    (case l__law_kinds => k_is)
    (case c__law_kinds => k_is)
    (case k__law_kinds => k_is)
    (case a__law_elders => k_is)
    (case l__law_elders => k_is)
    (case c__law_elders => k_is)
    (case k__law_elders => k_is)
    (case a__law_right => k_is)
    (case l__law_right => k_is)
    (case c__law_right => k_is)
    (case k__law_right => k_is)
    (case a__law_made => k_is)
    (case l__law_made => k_is)
    (case c__law_made => k_is)
    (case k__law_made => k_is)
    (case a__law_named => k_is)
    (case l__law_named => k_is)
    (case c__law_named => k_is)
    (case k__law_named => k_is)
    (case a_law => k_is)
    (case l_law => k_is)
    (case c_law => k_is)
    (case k_law => k_is)
    (case n_IndexError => k_is)
    (case n_KeyError => k_is)
    (case n_LookupError => k_is)
    (case n_OverflowError => k_is)
    (case n_RuntimeError => k_is)
    (case n_TypeError => k_is)
    (case n_ValueError => k_is)
    (case n_enumerate => k_is)
    (case n_int => k_is)
    (case n_isinstance => k_is)
    (case n_len => k_is)
    (case n_list => k_is)
    (case n_min => k_is)
    (case n_range => k_is)
    (case n_repr => k_is)
    (case n_str => k_is)
    (case a_BadCorner => k_is)
    (case b_BadCorner => k_is)
    (case d_BadCorner => k_is)
    (case t_BadCorner => k_is)
    (case ga_BadCorner => k_is)
    (case gg_BadCorner => k_is)
    (case gc_BadCorner => k_is)
    (case gm_BadCorner => k_is)
    (case a_BadCreases => k_is)
    (case b_BadCreases => k_is)
    (case d_BadCreases => k_is)
    (case t_BadCreases => k_is)
    (case ga_BadCreases => k_is)
    (case gg_BadCreases => k_is)
    (case gc_BadCreases => k_is)
    (case gm_BadCreases => k_is)
    (case a_BadFacts => k_is)
    (case b_BadFacts => k_is)
    (case d_BadFacts => k_is)
    (case t_BadFacts => k_is)
    (case ga_BadFacts => k_is)
    (case gg_BadFacts => k_is)
    (case gc_BadFacts => k_is)
    (case gm_BadFacts => k_is)
    (case a_BadMask => k_is)
    (case b_BadMask => k_is)
    (case d_BadMask => k_is)
    (case t_BadMask => k_is)
    (case ga_BadMask => k_is)
    (case gg_BadMask => k_is)
    (case gc_BadMask => k_is)
    (case gm_BadMask => k_is)
    (case a_BadMove => k_is)
    (case b_BadMove => k_is)
    (case d_BadMove => k_is)
    (case t_BadMove => k_is)
    (case ga_BadMove => k_is)
    (case gg_BadMove => k_is)
    (case gc_BadMove => k_is)
    (case gm_BadMove => k_is)
    (case a_BadNumber => k_is)
    (case b_BadNumber => k_is)
    (case d_BadNumber => k_is)
    (case t_BadNumber => k_is)
    (case ga_BadNumber => k_is)
    (case gg_BadNumber => k_is)
    (case gc_BadNumber => k_is)
    (case gm_BadNumber => k_is)
    (case a_BadPaper => k_is)
    (case b_BadPaper => k_is)
    (case d_BadPaper => k_is)
    (case t_BadPaper => k_is)
    (case ga_BadPaper => k_is)
    (case gg_BadPaper => k_is)
    (case gc_BadPaper => k_is)
    (case gm_BadPaper => k_is)
    (case a_BadSigns => k_is)
    (case b_BadSigns => k_is)
    (case d_BadSigns => k_is)
    (case t_BadSigns => k_is)
    (case ga_BadSigns => k_is)
    (case gg_BadSigns => k_is)
    (case gc_BadSigns => k_is)
    (case gm_BadSigns => k_is)
    (case a_BadStack => k_is)
    (case b_BadStack => k_is)
    (case d_BadStack => k_is)
    (case t_BadStack => k_is)
    (case ga_BadStack => k_is)
    (case gg_BadStack => k_is)
    (case gc_BadStack => k_is)
    (case gm_BadStack => k_is)
    (case a_BadText => k_is)
    (case b_BadText => k_is)
    (case d_BadText => k_is)
    (case t_BadText => k_is)
    (case ga_BadText => k_is)
    (case gg_BadText => k_is)
    (case gc_BadText => k_is)
    (case gm_BadText => k_is)
    (case a_BadWeights => k_is)
    (case b_BadWeights => k_is)
    (case d_BadWeights => k_is)
    (case t_BadWeights => k_is)
    (case ga_BadWeights => k_is)
    (case gg_BadWeights => k_is)
    (case gc_BadWeights => k_is)
    (case gm_BadWeights => k_is)
    (case a_FoldError => k_is)
    (case b_FoldError => k_is)
    (case d_FoldError => k_is)
    (case t_FoldError => k_is)
    (case ga_FoldError => k_is)
    (case gg_FoldError => k_is)
    (case gc_FoldError => k_is)
    (case gm_FoldError => k_is)
    (case a_Nothing => k_is)
    (case b_Nothing => k_is)
    (case d_Nothing => k_is)
    (case t_Nothing => k_is)
    (case ga_Nothing => k_is)
    (case gg_Nothing => k_is)
    (case gc_Nothing => k_is)
    (case gm_Nothing => k_is)
    (case a_TooGreat => k_is)
    (case b_TooGreat => k_is)
    (case d_TooGreat => k_is)
    (case t_TooGreat => k_is)
    (case ga_TooGreat => k_is)
    (case gg_TooGreat => k_is)
    (case gc_TooGreat => k_is)
    (case gm_TooGreat => k_is)
    (case gs_ => k_is)
    (case gt_ => k_is)
    (case nb_ => k_is)
    (case gf_BadCorner => k_is)
    (case gf_BadSigns => k_is)
    (case gf_BadStack => k_is)
    (case gf_BadNumber => k_is)
    (case gf_BadMask => k_is)
    (case gf_BadCreases => k_is)
    (case gf_BadWeights => k_is)
    (case gf_BadMove => k_is)
    (case gf_BadPaper => k_is)
    (case gf_BadText => k_is)
    (case gf_BadFacts => k_is)
    (case gf_TooGreat => k_is)
    (case gf_Nothing => k_is)
    (case s_BadCorner_BadCorner => k_is)
    (case s_BadCorner_BadCreases => k_is)
    (case s_BadCorner_BadFacts => k_is)
    (case s_BadCorner_BadMask => k_is)
    (case s_BadCorner_BadMove => k_is)
    (case s_BadCorner_BadNumber => k_is)
    (case s_BadCorner_BadPaper => k_is)
    (case s_BadCorner_BadSigns => k_is)
    (case s_BadCorner_BadStack => k_is)
    (case s_BadCorner_BadText => k_is)
    (case s_BadCorner_BadWeights => k_is)
    (case s_BadCorner_FoldError => k_is)
    (case s_BadCorner_Nothing => k_is)
    (case s_BadCorner_TooGreat => k_is)
    (case y_BadCorner_ValueError => k_is)
    (case y_BadCorner_OverflowError => k_is)
    (case y_BadCorner_LookupError => k_is)
    (case y_BadCorner_KeyError => k_is)
    (case y_BadCorner_IndexError => k_is)
    (case y_BadCorner_TypeError => k_is)
    (case y_BadCorner_RuntimeError => k_is)
    (case s_BadCreases_BadCorner => k_is)
    (case s_BadCreases_BadCreases => k_is)
    (case s_BadCreases_BadFacts => k_is)
    (case s_BadCreases_BadMask => k_is)
    (case s_BadCreases_BadMove => k_is)
    (case s_BadCreases_BadNumber => k_is)
    (case s_BadCreases_BadPaper => k_is)
    (case s_BadCreases_BadSigns => k_is)
    (case s_BadCreases_BadStack => k_is)
    (case s_BadCreases_BadText => k_is)
    (case s_BadCreases_BadWeights => k_is)
    (case s_BadCreases_FoldError => k_is)
    (case s_BadCreases_Nothing => k_is)
    (case s_BadCreases_TooGreat => k_is)
    (case y_BadCreases_ValueError => k_is)
    (case y_BadCreases_OverflowError => k_is)
    (case y_BadCreases_LookupError => k_is)
    (case y_BadCreases_KeyError => k_is)
    (case y_BadCreases_IndexError => k_is)
    (case y_BadCreases_TypeError => k_is)
    (case y_BadCreases_RuntimeError => k_is)
    (case s_BadFacts_BadCorner => k_is)
    (case s_BadFacts_BadCreases => k_is)
    (case s_BadFacts_BadFacts => k_is)
    (case s_BadFacts_BadMask => k_is)
    (case s_BadFacts_BadMove => k_is)
    (case s_BadFacts_BadNumber => k_is)
    (case s_BadFacts_BadPaper => k_is)
    (case s_BadFacts_BadSigns => k_is)
    (case s_BadFacts_BadStack => k_is)
    (case s_BadFacts_BadText => k_is)
    (case s_BadFacts_BadWeights => k_is)
    (case s_BadFacts_FoldError => k_is)
    (case s_BadFacts_Nothing => k_is)
    (case s_BadFacts_TooGreat => k_is)
    (case y_BadFacts_ValueError => k_is)
    (case y_BadFacts_OverflowError => k_is)
    (case y_BadFacts_LookupError => k_is)
    (case y_BadFacts_KeyError => k_is)
    (case y_BadFacts_IndexError => k_is)
    (case y_BadFacts_TypeError => k_is)
    (case y_BadFacts_RuntimeError => k_is)
    (case s_BadMask_BadCorner => k_is)
    (case s_BadMask_BadCreases => k_is)
    (case s_BadMask_BadFacts => k_is)
    (case s_BadMask_BadMask => k_is)
    (case s_BadMask_BadMove => k_is)
    (case s_BadMask_BadNumber => k_is)
    (case s_BadMask_BadPaper => k_is)
    (case s_BadMask_BadSigns => k_is)
    (case s_BadMask_BadStack => k_is)
    (case s_BadMask_BadText => k_is)
    (case s_BadMask_BadWeights => k_is)
    (case s_BadMask_FoldError => k_is)
    (case s_BadMask_Nothing => k_is)
    (case s_BadMask_TooGreat => k_is)
    (case y_BadMask_ValueError => k_is)
    (case y_BadMask_OverflowError => k_is)
    (case y_BadMask_LookupError => k_is)
    (case y_BadMask_KeyError => k_is)
    (case y_BadMask_IndexError => k_is)
    (case y_BadMask_TypeError => k_is)
    (case y_BadMask_RuntimeError => k_is)
    (case s_BadMove_BadCorner => k_is)
    (case s_BadMove_BadCreases => k_is)
    (case s_BadMove_BadFacts => k_is)
    (case s_BadMove_BadMask => k_is)
    (case s_BadMove_BadMove => k_is)
    (case s_BadMove_BadNumber => k_is)
    (case s_BadMove_BadPaper => k_is)
    (case s_BadMove_BadSigns => k_is)
    (case s_BadMove_BadStack => k_is)
    (case s_BadMove_BadText => k_is)
    (case s_BadMove_BadWeights => k_is)
    (case s_BadMove_FoldError => k_is)
    (case s_BadMove_Nothing => k_is)
    (case s_BadMove_TooGreat => k_is)
    (case y_BadMove_ValueError => k_is)
    (case y_BadMove_OverflowError => k_is)
    (case y_BadMove_LookupError => k_is)
    (case y_BadMove_KeyError => k_is)
    (case y_BadMove_IndexError => k_is)
    (case y_BadMove_TypeError => k_is)
    (case y_BadMove_RuntimeError => k_is)
    (case s_BadNumber_BadCorner => k_is)
    (case s_BadNumber_BadCreases => k_is)
    (case s_BadNumber_BadFacts => k_is)
    (case s_BadNumber_BadMask => k_is)
    (case s_BadNumber_BadMove => k_is)
    (case s_BadNumber_BadNumber => k_is)
    (case s_BadNumber_BadPaper => k_is)
    (case s_BadNumber_BadSigns => k_is)
    (case s_BadNumber_BadStack => k_is)
    (case s_BadNumber_BadText => k_is)
    (case s_BadNumber_BadWeights => k_is)
    (case s_BadNumber_FoldError => k_is)
    (case s_BadNumber_Nothing => k_is)
    (case s_BadNumber_TooGreat => k_is)
    (case y_BadNumber_ValueError => k_is)
    (case y_BadNumber_OverflowError => k_is)
    (case y_BadNumber_LookupError => k_is)
    (case y_BadNumber_KeyError => k_is)
    (case y_BadNumber_IndexError => k_is)
    (case y_BadNumber_TypeError => k_is)
    (case y_BadNumber_RuntimeError => k_is)
    (case s_BadPaper_BadCorner => k_is)
    (case s_BadPaper_BadCreases => k_is)
    (case s_BadPaper_BadFacts => k_is)
    (case s_BadPaper_BadMask => k_is)
    (case s_BadPaper_BadMove => k_is)
    (case s_BadPaper_BadNumber => k_is)
    (case s_BadPaper_BadPaper => k_is)
    (case s_BadPaper_BadSigns => k_is)
    (case s_BadPaper_BadStack => k_is)
    (case s_BadPaper_BadText => k_is)
    (case s_BadPaper_BadWeights => k_is)
    (case s_BadPaper_FoldError => k_is)
    (case s_BadPaper_Nothing => k_is)
    (case s_BadPaper_TooGreat => k_is)
    (case y_BadPaper_ValueError => k_is)
    (case y_BadPaper_OverflowError => k_is)
    (case y_BadPaper_LookupError => k_is)
    (case y_BadPaper_KeyError => k_is)
    (case y_BadPaper_IndexError => k_is)
    (case y_BadPaper_TypeError => k_is)
    (case y_BadPaper_RuntimeError => k_is)
    (case s_BadSigns_BadCorner => k_is)
    (case s_BadSigns_BadCreases => k_is)
    (case s_BadSigns_BadFacts => k_is)
    (case s_BadSigns_BadMask => k_is)
    (case s_BadSigns_BadMove => k_is)
    (case s_BadSigns_BadNumber => k_is)
    (case s_BadSigns_BadPaper => k_is)
    (case s_BadSigns_BadSigns => k_is)
    (case s_BadSigns_BadStack => k_is)
    (case s_BadSigns_BadText => k_is)
    (case s_BadSigns_BadWeights => k_is)
    (case s_BadSigns_FoldError => k_is)
    (case s_BadSigns_Nothing => k_is)
    (case s_BadSigns_TooGreat => k_is)
    (case y_BadSigns_ValueError => k_is)
    (case y_BadSigns_OverflowError => k_is)
    (case y_BadSigns_LookupError => k_is)
    (case y_BadSigns_KeyError => k_is)
    (case y_BadSigns_IndexError => k_is)
    (case y_BadSigns_TypeError => k_is)
    (case y_BadSigns_RuntimeError => k_is)
    (case s_BadStack_BadCorner => k_is)
    (case s_BadStack_BadCreases => k_is)
    (case s_BadStack_BadFacts => k_is)
    (case s_BadStack_BadMask => k_is)
    (case s_BadStack_BadMove => k_is)
    (case s_BadStack_BadNumber => k_is)
    (case s_BadStack_BadPaper => k_is)
    (case s_BadStack_BadSigns => k_is)
    (case s_BadStack_BadStack => k_is)
    (case s_BadStack_BadText => k_is)
    (case s_BadStack_BadWeights => k_is)
    (case s_BadStack_FoldError => k_is)
    (case s_BadStack_Nothing => k_is)
    (case s_BadStack_TooGreat => k_is)
    (case y_BadStack_ValueError => k_is)
    (case y_BadStack_OverflowError => k_is)
    (case y_BadStack_LookupError => k_is)
    (case y_BadStack_KeyError => k_is)
    (case y_BadStack_IndexError => k_is)
    (case y_BadStack_TypeError => k_is)
    (case y_BadStack_RuntimeError => k_is)
    (case s_BadText_BadCorner => k_is)
    (case s_BadText_BadCreases => k_is)
    (case s_BadText_BadFacts => k_is)
    (case s_BadText_BadMask => k_is)
    (case s_BadText_BadMove => k_is)
    (case s_BadText_BadNumber => k_is)
    (case s_BadText_BadPaper => k_is)
    (case s_BadText_BadSigns => k_is)
    (case s_BadText_BadStack => k_is)
    (case s_BadText_BadText => k_is)
    (case s_BadText_BadWeights => k_is)
    (case s_BadText_FoldError => k_is)
    (case s_BadText_Nothing => k_is)
    (case s_BadText_TooGreat => k_is)
    (case y_BadText_ValueError => k_is)
    (case y_BadText_OverflowError => k_is)
    (case y_BadText_LookupError => k_is)
    (case y_BadText_KeyError => k_is)
    (case y_BadText_IndexError => k_is)
    (case y_BadText_TypeError => k_is)
    (case y_BadText_RuntimeError => k_is)
    (case s_BadWeights_BadCorner => k_is)
    (case s_BadWeights_BadCreases => k_is)
    (case s_BadWeights_BadFacts => k_is)
    (case s_BadWeights_BadMask => k_is)
    (case s_BadWeights_BadMove => k_is)
    (case s_BadWeights_BadNumber => k_is)
    (case s_BadWeights_BadPaper => k_is)
    (case s_BadWeights_BadSigns => k_is)
    (case s_BadWeights_BadStack => k_is)
    (case s_BadWeights_BadText => k_is)
    (case s_BadWeights_BadWeights => k_is)
    (case s_BadWeights_FoldError => k_is)
    (case s_BadWeights_Nothing => k_is)
    (case s_BadWeights_TooGreat => k_is)
    (case y_BadWeights_ValueError => k_is)
    (case y_BadWeights_OverflowError => k_is)
    (case y_BadWeights_LookupError => k_is)
    (case y_BadWeights_KeyError => k_is)
    (case y_BadWeights_IndexError => k_is)
    (case y_BadWeights_TypeError => k_is)
    (case y_BadWeights_RuntimeError => k_is)
    (case s_FoldError_BadCorner => k_is)
    (case s_FoldError_BadCreases => k_is)
    (case s_FoldError_BadFacts => k_is)
    (case s_FoldError_BadMask => k_is)
    (case s_FoldError_BadMove => k_is)
    (case s_FoldError_BadNumber => k_is)
    (case s_FoldError_BadPaper => k_is)
    (case s_FoldError_BadSigns => k_is)
    (case s_FoldError_BadStack => k_is)
    (case s_FoldError_BadText => k_is)
    (case s_FoldError_BadWeights => k_is)
    (case s_FoldError_FoldError => k_is)
    (case s_FoldError_Nothing => k_is)
    (case s_FoldError_TooGreat => k_is)
    (case y_FoldError_ValueError => k_is)
    (case y_FoldError_OverflowError => k_is)
    (case y_FoldError_LookupError => k_is)
    (case y_FoldError_KeyError => k_is)
    (case y_FoldError_IndexError => k_is)
    (case y_FoldError_TypeError => k_is)
    (case y_FoldError_RuntimeError => k_is)
    (case s_Nothing_BadCorner => k_is)
    (case s_Nothing_BadCreases => k_is)
    (case s_Nothing_BadFacts => k_is)
    (case s_Nothing_BadMask => k_is)
    (case s_Nothing_BadMove => k_is)
    (case s_Nothing_BadNumber => k_is)
    (case s_Nothing_BadPaper => k_is)
    (case s_Nothing_BadSigns => k_is)
    (case s_Nothing_BadStack => k_is)
    (case s_Nothing_BadText => k_is)
    (case s_Nothing_BadWeights => k_is)
    (case s_Nothing_FoldError => k_is)
    (case s_Nothing_Nothing => k_is)
    (case s_Nothing_TooGreat => k_is)
    (case y_Nothing_ValueError => k_is)
    (case y_Nothing_OverflowError => k_is)
    (case y_Nothing_LookupError => k_is)
    (case y_Nothing_KeyError => k_is)
    (case y_Nothing_IndexError => k_is)
    (case y_Nothing_TypeError => k_is)
    (case y_Nothing_RuntimeError => k_is)
    (case s_TooGreat_BadCorner => k_is)
    (case s_TooGreat_BadCreases => k_is)
    (case s_TooGreat_BadFacts => k_is)
    (case s_TooGreat_BadMask => k_is)
    (case s_TooGreat_BadMove => k_is)
    (case s_TooGreat_BadNumber => k_is)
    (case s_TooGreat_BadPaper => k_is)
    (case s_TooGreat_BadSigns => k_is)
    (case s_TooGreat_BadStack => k_is)
    (case s_TooGreat_BadText => k_is)
    (case s_TooGreat_BadWeights => k_is)
    (case s_TooGreat_FoldError => k_is)
    (case s_TooGreat_Nothing => k_is)
    (case s_TooGreat_TooGreat => k_is)
    (case y_TooGreat_ValueError => k_is)
    (case y_TooGreat_OverflowError => k_is)
    (case y_TooGreat_LookupError => k_is)
    (case y_TooGreat_KeyError => k_is)
    (case y_TooGreat_IndexError => k_is)
    (case y_TooGreat_TypeError => k_is)
    (case y_TooGreat_RuntimeError => k_is)
    (case kC_FoldError => k_is)
    (case fs_ => k_is)
    (case q_ => k_exc)
    (case hsu => k_is)
    (case hth => k_is)
    (case xL_BadCorner => k_is)
    (case sa_BadCorner => k_is)
    (case kC_BadCorner => k_is)
    (case iC_BadCorner => k_is)
    (case tI_BadCorner => k_is)
    (case hl_BadCorner => k_is)
    (case hcd_BadCorner => k_is)
    (case hk_BadCorner => k_is)
    (case hce_BadCorner => k_is)
    (case hC_BadCorner => k_is)
    (case hmr_BadCorner => k_is)
    (case hsi_BadCorner => ks_is)
    (case xL_BadSigns => k_is)
    (case sa_BadSigns => k_is)
    (case kC_BadSigns => k_is)
    (case iC_BadSigns => k_is)
    (case tI_BadSigns => k_is)
    (case hl_BadSigns => k_is)
    (case hcd_BadSigns => k_is)
    (case hk_BadSigns => k_is)
    (case hce_BadSigns => k_is)
    (case hC_BadSigns => k_is)
    (case hmr_BadSigns => k_is)
    (case hsi_BadSigns => ks_is)
    (case xL_BadStack => k_is)
    (case sa_BadStack => k_is)
    (case kC_BadStack => k_is)
    (case iC_BadStack => k_is)
    (case tI_BadStack => k_is)
    (case hl_BadStack => k_is)
    (case hcd_BadStack => k_is)
    (case hk_BadStack => k_is)
    (case hce_BadStack => k_is)
    (case hC_BadStack => k_is)
    (case hmr_BadStack => k_is)
    (case hsi_BadStack => ks_is)
    (case xL_BadNumber => k_is)
    (case sa_BadNumber => k_is)
    (case kC_BadNumber => k_is)
    (case iC_BadNumber => k_is)
    (case tI_BadNumber => k_is)
    (case hl_BadNumber => k_is)
    (case hcd_BadNumber => k_is)
    (case hk_BadNumber => k_is)
    (case hce_BadNumber => k_is)
    (case hC_BadNumber => k_is)
    (case hmr_BadNumber => k_is)
    (case hsi_BadNumber => ks_is)
    (case xL_BadMask => k_is)
    (case sa_BadMask => k_is)
    (case kC_BadMask => k_is)
    (case iC_BadMask => k_is)
    (case tI_BadMask => k_is)
    (case hl_BadMask => k_is)
    (case hcd_BadMask => k_is)
    (case hk_BadMask => k_is)
    (case hce_BadMask => k_is)
    (case hC_BadMask => k_is)
    (case hmr_BadMask => k_is)
    (case hsi_BadMask => ks_is)
    (case xL_BadCreases => k_is)
    (case sa_BadCreases => k_is)
    (case kC_BadCreases => k_is)
    (case iC_BadCreases => k_is)
    (case tI_BadCreases => k_is)
    (case hl_BadCreases => k_is)
    (case hcd_BadCreases => k_is)
    (case hk_BadCreases => k_is)
    (case hce_BadCreases => k_is)
    (case hC_BadCreases => k_is)
    (case hmr_BadCreases => k_is)
    (case hsi_BadCreases => ks_is)
    (case xL_BadWeights => k_is)
    (case sa_BadWeights => k_is)
    (case kC_BadWeights => k_is)
    (case iC_BadWeights => k_is)
    (case tI_BadWeights => k_is)
    (case hl_BadWeights => k_is)
    (case hcd_BadWeights => k_is)
    (case hk_BadWeights => k_is)
    (case hce_BadWeights => k_is)
    (case hC_BadWeights => k_is)
    (case hmr_BadWeights => k_is)
    (case hsi_BadWeights => ks_is)
    (case xL_BadMove => k_is)
    (case sa_BadMove => k_is)
    (case kC_BadMove => k_is)
    (case iC_BadMove => k_is)
    (case tI_BadMove => k_is)
    (case hl_BadMove => k_is)
    (case hcd_BadMove => k_is)
    (case hk_BadMove => k_is)
    (case hce_BadMove => k_is)
    (case hC_BadMove => k_is)
    (case hmr_BadMove => k_is)
    (case hsi_BadMove => ks_is)
    (case xL_BadPaper => k_is)
    (case sa_BadPaper => k_is)
    (case kC_BadPaper => k_is)
    (case iC_BadPaper => k_is)
    (case tI_BadPaper => k_is)
    (case hl_BadPaper => k_is)
    (case hcd_BadPaper => k_is)
    (case hk_BadPaper => k_is)
    (case hce_BadPaper => k_is)
    (case hC_BadPaper => k_is)
    (case hmr_BadPaper => k_is)
    (case hsi_BadPaper => ks_is)
    (case xL_BadText => k_is)
    (case sa_BadText => k_is)
    (case kC_BadText => k_is)
    (case iC_BadText => k_is)
    (case tI_BadText => k_is)
    (case hl_BadText => k_is)
    (case hcd_BadText => k_is)
    (case hk_BadText => k_is)
    (case hce_BadText => k_is)
    (case hC_BadText => k_is)
    (case hmr_BadText => k_is)
    (case hsi_BadText => ks_is)
    (case xL_BadFacts => k_is)
    (case sa_BadFacts => k_is)
    (case kC_BadFacts => k_is)
    (case iC_BadFacts => k_is)
    (case tI_BadFacts => k_is)
    (case hl_BadFacts => k_is)
    (case hcd_BadFacts => k_is)
    (case hk_BadFacts => k_is)
    (case hce_BadFacts => k_is)
    (case hC_BadFacts => k_is)
    (case hmr_BadFacts => k_is)
    (case hsi_BadFacts => ks_is)
    (case xL_TooGreat => k_is)
    (case sa_TooGreat => k_is)
    (case kC_TooGreat => k_is)
    (case iC_TooGreat => k_is)
    (case tI_TooGreat => k_is)
    (case hl_TooGreat => k_is)
    (case hcd_TooGreat => k_is)
    (case hk_TooGreat => k_is)
    (case hce_TooGreat => k_is)
    (case hC_TooGreat => k_is)
    (case hmr_TooGreat => k_is)
    (case hsi_TooGreat => ks_is)
    (case xL_Nothing => k_is)
    (case sa_Nothing => k_is)
    (case kC_Nothing => k_is)
    (case iC_Nothing => k_is)
    (case tI_Nothing => k_is)
    (case hl_Nothing => k_is)
    (case hcd_Nothing => k_is)
    (case hk_Nothing => k_is)
    (case hce_Nothing => k_is)
    (case hC_Nothing => k_is)
    (case hmr_Nothing => k_is)
    (case hsi_Nothing => ks_is)
    (case htop => first | rfl | decide)
    (case hv_BadCorner => first | rfl | decide)
    (case hf_BadCorner => first | rfl | decide)
    (case hv_BadSigns => first | rfl | decide)
    (case hf_BadSigns => first | rfl | decide)
    (case hv_BadStack => first | rfl | decide)
    (case hf_BadStack => first | rfl | decide)
    (case hv_BadNumber => first | rfl | decide)
    (case hf_BadNumber => first | rfl | decide)
    (case hv_BadMask => first | rfl | decide)
    (case hf_BadMask => first | rfl | decide)
    (case hv_BadCreases => first | rfl | decide)
    (case hf_BadCreases => first | rfl | decide)
    (case hv_BadWeights => first | rfl | decide)
    (case hf_BadWeights => first | rfl | decide)
    (case hv_BadMove => first | rfl | decide)
    (case hf_BadMove => first | rfl | decide)
    (case hv_BadPaper => first | rfl | decide)
    (case hf_BadPaper => first | rfl | decide)
    (case hv_BadText => first | rfl | decide)
    (case hf_BadText => first | rfl | decide)
    (case hv_BadFacts => first | rfl | decide)
    (case hf_BadFacts => first | rfl | decide)
    (case hv_TooGreat => first | rfl | decide)
    (case hf_TooGreat => first | rfl | decide)
    (case hv_Nothing => first | rfl | decide)
    (case hf_Nothing => first | rfl | decide)

end