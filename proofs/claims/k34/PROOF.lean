import PyProof.Rows.All
import Wide.All
import OpenK.AllK
import Wide.FinOn
import HandS.ForMost
import HandS.Exc
import HandS.Deep
import HandS.WordsExc
import HandS.Lambda
import HandS.WideBits
import HandS.TupAny
import HandS.TupLe
import HandS.Wide
import HandS.Text
import KE.LtData
import HandS.Style
import KE.SortData
import KE.DataMinMax
import HandS.IsInst
import HandS.Conv
import HandS.More
import HandS.TupLen
import HandS.WordsDict
import HandS.Flow
import HandS.DictComp
import HandS.Small
import HandS.Codes
import HandS.OwnEq
import PyProof.InstNe
import HandS.Defaults
import HandS.SetFor
import HandS.Strs
import HandS.TupSets
import HandS.Rev
import HandS.RevTup
import KE.SortKeyHeap
import HandS.SortKw
import KE.DataMinKey
import KE.KExcSuper
import HandS.ExcInit
import HandS.ExcSuper
import HandS.ExcField
import HandS.Ends
import HandS.Head0
import HandS.Head1
import HandS.Head2
import HandS.HeadEnd
import HandS.HeadWalk
import HandS.HeadHook1
import HandS.HeadHook2
import HandS.HeadHook3
import HandS.HeadHook4
import KE.BitLaws
import PySem.Challenge.RW_keepwebs_k34_whole_odd_keeping
set_option Elab.async false
set_option linter.all false
set_option maxRecDepth 100000
namespace Kw
open PySem PySem.Spec PyProof.Rows L2

/-! ### trees of values -/
abbrev D := PyData
/-- the law's tape, a dict, an instance: told by a dict's first pair -/
abbrev tapeD : D := .dict []
/-- the script -/
abbrev scrD (ns : List Int) : D := .dict [(.bool true, .list (ns.map PyData.int))]
abbrev dicD (kvs : List (D × D)) : D := .dict ((.none, .none) :: kvs)
abbrev objD (c : Str) (fs : List (D × D)) : D := .dict ((.str c, .none) :: fs)
def kD : Key → D
  | .inl i => .int i
  | .inr s => .str s
def tD (ks : List Key) : D := .tuple (ks.map kD)

/-- what is fixed: the module's facts, the classes by name -/
structure Rc where
  K : PySem.W.Frag
  cl : Str → Option Addr
  /-- the tables of the code objects that make lambdas -/
  tb : List (Addr × Str)
  /-- the own errors by name -/
  er : Str → Option Addr
/-- ghosts: the tape's place, what is frozen -/
structure Gh where
  tp : Option Addr
  F : Hp

mutual
inductive Rp (R : Rc) (g : Gh) : V → D → Prop
  | non : Rp R g .non .none
  | bl (b : Bool) : Rp R g (.bl b) (.bool b)
  | int (i : Int) : Rp R g (.int i) (.int i)
  | str (x : Str) : Rp R g (.str x) (.str x)
  | lst {a : Addr} {xs : List V} {ds : List D} : g.F a = some (.lst xs) → RpAll R g xs ds → Rp R g (.ref a) (.list ds)
  | tup {a : Addr} {xs : List V} {ds : List D} : g.F a = some (.tup xs) → RpAll R g xs ds → Rp R g (.ref a) (.tuple ds)
  | scr {a : Addr} {ns : List Int} : SqL R.K g.F a (ns.map V.int) → Rp R g (.ref a) (scrD ns)
  | dK {a : Addr} {kvs : List (Key × V)} {ds : List D} : g.F a = some (.dK kvs) → RpAll R g (kvs.map (·.2)) ds → Rp R g (.ref a) (dicD ((kvs.map fun p => kD p.1).zip ds))
  | dT {a : Addr} {kvs : List (List Key × V)} {ds : List D} : g.F a = some (.dT kvs) → RpAll R g (kvs.map (·.2)) ds → Rp R g (.ref a) (dicD ((kvs.map fun p => tD p.1).zip ds))
  | ins {a C dx : Addr} {c : Str} {fs : List (Str × V)} {ds : List D} : g.F a = some (.ins C dx fs) → R.cl c = some C → RpAll R g (fs.map (·.2)) ds → Rp R g (.ref a) (objD c ((fs.map fun p => PyData.str p.1).zip ds))
  | tape {a : Addr} : g.tp = some a → Rp R g (.ref a) tapeD
inductive RpAll (R : Rc) (g : Gh) : List V → List D → Prop
  | nil : RpAll R g [] []
  | cons {v : V} {vs : List V} {d : D} {ds : List D} : Rp R g v d → RpAll R g vs ds → RpAll R g (v :: vs) (d :: ds)
end

/-- the frozen part of g stays in g' -/
structure Gle (g g' : Gh) : Prop where
  sub : Same g.F g'.F
  tp : ∀ p, g.tp = some p → g'.tp = some p
theorem Gle.refl (g : Gh) : Gle g g := ⟨Same.refl _, fun _ h => h⟩
theorem Gle.trans {g1 g2 g3 : Gh} (a : Gle g1 g2) (b : Gle g2 g3) : Gle g1 g3 := ⟨a.sub.trans b.sub, fun p h => b.tp p (a.tp p h)⟩
theorem seqT {K : PySem.W.Frag} {H H' : Hp} {a : Addr} {xs : List V} (e : Same H H') (h : SqT K H a xs) : SqT K H' a xs := by
  rcases h with (h | ⟨o, h⟩) | h
  · exact .inl (.inl (e _ _ h))
  · exact .inl (.inr ⟨o, e _ _ h⟩)
  · exact .inr h
mutual
theorem Rp.mono {R : Rc} {g g' : Gh} (e : Gle g g') : ∀ {v : V} {d : D}, Rp R g v d → Rp R g' v d
  | _, _, .non => .non
  | _, _, .bl b => .bl b
  | _, _, .int i => .int i
  | _, _, .str x => .str x
  | _, _, .lst h r => .lst (e.sub _ _ h) (RpAll.mono e r)
  | _, _, .tup h r => .tup (e.sub _ _ h) (RpAll.mono e r)
  | _, _, .scr h => .scr (e.sub.seq h)
  | _, _, .dK h r => .dK (e.sub _ _ h) (RpAll.mono e r)
  | _, _, .dT h r => .dT (e.sub _ _ h) (RpAll.mono e r)
  | _, _, .ins h c r => .ins (e.sub _ _ h) c (RpAll.mono e r)
  | _, _, .tape h => .tape (e.tp _ h)
theorem RpAll.mono {R : Rc} {g g' : Gh} (e : Gle g g') : ∀ {vs : List V} {ds : List D}, RpAll R g vs ds → RpAll R g' vs ds
  | _, _, .nil => .nil
  | _, _, .cons h r => .cons (Rp.mono e h) (RpAll.mono e r)
end
theorem RpAll.length {R : Rc} {g : Gh} : ∀ {vs : List V} {ds : List D}, RpAll R g vs ds → vs.length = ds.length
  | _, _, .nil => rfl
  | _, _, .cons _ r => by simp [RpAll.length r]
theorem RpAll.get {R : Rc} {g : Gh} : ∀ {vs : List V} {ds : List D} {i : Nat} {d : D}, RpAll R g vs ds → ds[i]? = some d → ∃ v, vs[i]? = some v ∧ Rp R g v d
  | _, _, _, _, .nil, e => by simp at e
  | _, _, 0, _, .cons h _, e => by simp at e; subst e; exact ⟨_, rfl, h⟩
  | _, _, i + 1, _, .cons _ r, e => by
    obtain ⟨v, h1, h2⟩ := RpAll.get (i := i) r (by simpa using e)
    exact ⟨v, by simpa using h1, h2⟩
theorem RpAll.getV {R : Rc} {g : Gh} : ∀ {vs : List V} {ds : List D} {i : Nat} {v : V}, RpAll R g vs ds → vs[i]? = some v → ∃ d, ds[i]? = some d ∧ Rp R g v d
  | _, _, _, _, .nil, e => by simp at e
  | _, _, 0, _, .cons h _, e => by simp at e; subst e; exact ⟨_, rfl, h⟩
  | _, _, i + 1, _, .cons _ r, e => by
    obtain ⟨v, h1, h2⟩ := RpAll.getV (i := i) r (by simpa using e)
    exact ⟨v, by simpa using h1, h2⟩
theorem RpAll.append {R : Rc} {g : Gh} : ∀ {vs ws : List V} {ds es : List D}, RpAll R g vs ds → RpAll R g ws es → RpAll R g (vs ++ ws) (ds ++ es)
  | _, _, _, _, .nil, s => s
  | _, _, _, _, .cons h r, s => .cons h (RpAll.append r s)
theorem RpAll.take {R : Rc} {g : Gh} : ∀ {vs : List V} {ds : List D} (n : Nat), RpAll R g vs ds → RpAll R g (vs.take n) (ds.take n)
  | _, _, 0, _ => .nil
  | _, _, _ + 1, .nil => .nil
  | _, _, n + 1, .cons h r => .cons h (RpAll.take n r)
theorem RpAll.drop {R : Rc} {g : Gh} : ∀ {vs : List V} {ds : List D} (n : Nat), RpAll R g vs ds → RpAll R g (vs.drop n) (ds.drop n)
  | _, _, 0, r => r
  | _, _, _ + 1, .nil => .nil
  | _, _, n + 1, .cons _ r => RpAll.drop n r
theorem RpAll.reverse {R : Rc} {g : Gh} : ∀ {vs : List V} {ds : List D}, RpAll R g vs ds → RpAll R g vs.reverse ds.reverse
  | _, _, .nil => .nil
  | _, _, .cons h r => by
    rw [List.reverse_cons, List.reverse_cons]
    exact (RpAll.reverse r).append (.cons h .nil)
theorem RpAll.set {R : Rc} {g : Gh} {v : V} {d : D} (h : Rp R g v d) : ∀ {vs : List V} {ds : List D} (i : Nat), RpAll R g vs ds → RpAll R g (vs.set i v) (ds.set i d)
  | _, _, _, .nil => .nil
  | _, _, 0, .cons _ r => .cons h r
  | _, _, i + 1, .cons q r => .cons q (RpAll.set h i r)

/-! ### data without dicts is HandS's deep data -/
mutual
theorem Rp.dp {R : Rc} {g : Gh} {H : Hp} (e : Same g.F H) : ∀ {v : V} {d : D}, Rp R g v d → d.canLay0 = true → Dp R.K H v d
  | _, _, .non, _ => .non
  | _, _, .bl b, _ => .bl b
  | _, _, .int i, _ => .int i
  | _, _, .str x, _ => .str x
  | _, _, .lst h r, l => .lst (.of (e _ _ h)) (RpAll.dp e r (by simpa [PyData.canLay0] using l))
  | _, _, .scr h, l => by simp [PyData.canLay0] at l
  | _, _, .tup h r, l => .tup (.of (e _ _ h)) (RpAll.dp e r (by simpa [PyData.canLay0] using l))
  | _, _, .dK h r, l => by simp [PyData.canLay0] at l
  | _, _, .dT h r, l => by simp [PyData.canLay0] at l
  | _, _, .ins h c r, l => by simp [PyData.canLay0] at l
  | _, _, .tape h, l => by simp [PyData.canLay0] at l
theorem RpAll.dp {R : Rc} {g : Gh} {H : Hp} (e : Same g.F H) : ∀ {vs : List V} {ds : List D}, RpAll R g vs ds → PyData.canLayAll0 ds = true → DpAll R.K H vs ds
  | _, _, .nil, _ => .nil
  | _, d :: ds, .cons h r, l => by
    have l' : d.canLay0 = true ∧ PyData.canLayAll0 ds = true := by simpa [PyData.canLayAll0] using l
    exact .cons (Rp.dp e h l'.1) (RpAll.dp e r l'.2)
end
end Kw
namespace Kw
open PySem PySem.Spec PyProof.Rows L2

/-! ### results: a value, an exception (class name, place), or no claim; the tape goes along -/
abbrev Tp := Option (List D)
inductive Out (α : Type) where
  | ok (a : α) (t : Tp)
  | exc (c : Str) (d : D) (t : Tp)
  | bad
abbrev M (α : Type) := Tp → Out α
def ret {α : Type} (a : α) : M α := fun t => .ok a t
def bad {α : Type} : M α := fun _ => .bad
def bnd {α β : Type} (m : M α) (f : α → M β) : M β := fun t => match m t with
  | .ok a t' => f a t'
  | .exc c d t' => .exc c d t'
  | .bad => .bad
def ofO {α : Type} : Option α → M α
  | some a => ret a
  | none => bad
/-- no exception may leave -/
def nox {α : Type} (m : M α) : M α := fun t => match m t with
  | .ok a t' => .ok a t'
  | _ => .bad

/-- a slot: nothing known, a frozen value, a list or dict that this frame alone holds, a list of such lists -/
inductive Slot where
  | un
  | val (d : D)
  | own (d : D)
  | nest (dss : List (List D))
abbrev Env := List Slot

/-! ### the state -/
/-- no table of codes, no code object -/
def Usr : HO → Prop
  | .tbl _ => False
  | .ext _ => False
  | _ => True
theorem Usr.nt {o : HO} (h : Usr o) : ∀ ps, o ≠ .tbl ps := fun ps e => by subst e; exact h
/-- nothing is there that is kept -/
def Fr (H : Hp) (a : Addr) : Prop := ∀ o, H a = some o → ∃ ps, o = .tbl ps
theorem Fr.of {H : Hp} {a : Addr} (h : H a = none) : Fr H a := fun o e => by rw [h] at e; cases e
theorem Fr.usr {H : Hp} {a : Addr} {o : HO} (h : Fr H a) (e : H a = some o) (u : Usr o) : False := by
  obtain ⟨ps, rfl⟩ := h o e
  exact u
theorem tabs_upd {T : List (Addr × Str)} {H : Hp} {p : Addr} {o : HO} (h : ∀ u, H p = some u → Usr u) (t : LamX.Tabs T H) : LamX.Tabs T (upd H p o) := fun q hq => by
  obtain ⟨ps, h1, h2, h3⟩ := t q hq
  refine ⟨ps, by rw [upd_ne (fun e => by rw [e] at h1; exact h _ h1)]; exact h1, h2, fun pos cv hc => ?_⟩
  obtain ⟨c, e1, e2⟩ := h3 pos cv hc
  have ne : c ≠ p := fun e => by
    have hh := h (LamX.CodeO c q.2) (by rw [← e]; exact e2)
    unfold LamX.CodeO at hh
    exact hh
  exact ⟨c, e1, by rw [upd_ne ne]; exact e2⟩
structure GOk (R : Rc) (g : Gh) (t : Tp) (H : Hp) : Prop where
  sub : Same g.F H
  tape : ∀ p, g.tp = some p → ∃ ds vs, t = some ds ∧ g.F p = none ∧ H p = some (.lst vs) ∧ RpAll R g vs ds
  notape : g.tp = none → t = none
  tb : LamX.Tabs R.tb H
  ft : ∀ b o, g.F b = some o → Usr o
/-- what an own object holds -/
inductive BodyOk (R : Rc) (g : Gh) : HO → D → Prop
  | lst {xs : List V} {ds : List D} : RpAll R g xs ds → BodyOk R g (.lst xs) (.list ds)
  | dK {kvs : List (Key × V)} {ds : List D} : RpAll R g (kvs.map (·.2)) ds → BodyOk R g (.dK kvs) (dicD ((kvs.map fun p => kD p.1).zip ds))
  | dT {kvs : List (List Key × V)} {ds : List D} : RpAll R g (kvs.map (·.2)) ds → BodyOk R g (.dT kvs) (dicD ((kvs.map fun p => tD p.1).zip ds))
  | ins {C dx : Addr} {c : Str} {fs : List (Str × V)} {ds : List D} : R.cl c = some C → RpAll R g (fs.map (·.2)) ds → BodyOk R g (.ins C dx fs) (objD c ((fs.map fun p => PyData.str p.1).zip ds))
theorem BodyOk.mono {R : Rc} {g g' : Gh} {o : HO} {d : D} (e : Gle g g') (h : BodyOk R g o d) : BodyOk R g' o d := by
  cases h with
  | lst r => exact .lst (r.mono e)
  | dK r => exact .dK (r.mono e)
  | dT r => exact .dT (r.mono e)
  | ins c r => exact .ins c (r.mono e)
theorem BodyOk.rp {R : Rc} {g : Gh} {o : HO} {d : D} {a : Addr} (h : BodyOk R g o d) (ha : g.F a = some o) : Rp R g (.ref a) d := by
  cases h with
  | lst r => exact .lst ha r
  | dK r => exact .dK ha r
  | dT r => exact .dT ha r
  | ins c r => exact .ins ha c r
/-- an own object's place: not frozen, not the tape -/
structure OwnAt (R : Rc) (g : Gh) (H : Hp) (p : Addr) (d : D) : Prop where
  nf : g.F p = none
  nt : g.tp ≠ some p
  body : ∃ o, H p = some o ∧ BodyOk R g o d
def NestAt (R : Rc) (g : Gh) (H : Hp) (p : Addr) (qs : List Addr) (dss : List (List D)) : Prop :=
  g.F p = none ∧ g.tp ≠ some p ∧ H p = some (.lst (qs.map V.ref)) ∧ qs.length = dss.length ∧ qs.Nodup ∧ p ∉ qs ∧ ∀ (i : Nat) q ds, qs[i]? = some q → dss[i]? = some ds → OwnAt R g H q (.list ds)
/-- a slot's value; the addresses that it owns -/
inductive SlotOk (R : Rc) (g : Gh) (H : Hp) : Slot → Option V → List Addr → Prop
  | un (v : Option V) : SlotOk R g H .un v []
  | val {d : D} {v : V} : Rp R g v d → SlotOk R g H (.val d) (some v) []
  | own {d : D} {p : Addr} : OwnAt R g H p d → SlotOk R g H (.own d) (some (.ref p)) [p]
  | nest {dss : List (List D)} {p : Addr} {qs : List Addr} : NestAt R g H p qs dss → SlotOk R g H (.nest dss) (some (.ref p)) (p :: qs)
inductive SlotsOk (R : Rc) (g : Gh) (H : Hp) : Env → L2.St → List Addr → Prop
  | nil : SlotsOk R g H [] [] []
  | cons {s : Slot} {ρ : Env} {v : Option V} {σ : L2.St} {as bs : List Addr} : SlotOk R g H s v as → SlotsOk R g H ρ σ bs → (∀ a ∈ as, a ∉ bs) → SlotsOk R g H (s :: ρ) (v :: σ) (as ++ bs)
structure SRel (R : Rc) (g : Gh) (t : Tp) (ρ : Env) (σ : L2.St) (H : Hp) : Prop where
  ok : GOk R g t H
  sl : ∃ as, SlotsOk R g H ρ σ as

/-! ### growth: what an expression or a call does -/
structure Grow (R : Rc) (g : Gh) (H : Hp) (g' : Gh) (H' : Hp) (t' : Tp) : Prop where
  le : Gle g g'
  tp : ∀ p, g'.tp = some p → g.tp = some p ∨ Fr H p
  kp : ∀ b o, H b = some o → g.tp ≠ some b → (∀ ps, o ≠ .tbl ps) → H' b = some o
  new : ∀ b o, g'.F b = some o → g.F b = some o ∨ Fr H b ∨ ∃ xs, o = .tup xs ∧ H b = some o
  ok : GOk R g' t' H'
theorem Grow.keep {R : Rc} {g g' : Gh} {H H' : Hp} {t' : Tp} (w : Grow R g H g' H' t') (b : Addr) (o : HO) (h : H b = some o) (n : g.tp ≠ some b) (u : Usr o) : H' b = some o := w.kp b o h n u.nt
theorem BodyOk.usr {R : Rc} {g : Gh} {o : HO} {d : D} (h : BodyOk R g o d) : Usr o := by cases h <;> trivial
section
variable {R : Rc} {g g' g1 g2 : Gh} {H H' H1 H2 : Hp} {t t' t1 t2 : Tp}
theorem Grow.refl (ok : GOk R g t H) : Grow R g H g H t := ⟨Gle.refl g, fun _ h => .inl h, fun _ _ h _ _ => h, fun _ _ h => .inl h, ok⟩
theorem GOk.tpH (ok : GOk R g t H) {p : Addr} (h : g.tp = some p) : g.F p = none ∧ ∃ vs, H p = some (.lst vs) :=
  let ⟨_, vs, _, q, e, _⟩ := ok.tape p h
  ⟨q, vs, e⟩
theorem Grow.trans (ok : GOk R g t H) (a : Grow R g H g1 H1 t1) (b : Grow R g1 H1 g2 H2 t2) : Grow R g H g2 H2 t2 := by
  have back : ∀ c, g.tp ≠ some c → ∀ u, H c = some u → (∀ ps, u ≠ .tbl ps) → g1.tp ≠ some c := fun c n u h nt e => by
    rcases a.tp c e with q | q
    · exact n q
    · obtain ⟨ps, e⟩ := q u h
      exact nt ps e
  -- what is free behind a is free ahead of it
  have fr : ∀ c, g.tp ≠ some c → Fr H1 c → Fr H c := fun c n f u e => by
    by_cases ht : ∃ ps, u = .tbl ps
    · exact ht
    · exact f u (a.kp c u e n fun ps e => ht ⟨ps, e⟩)
  have tpu : ∀ c, g.tp = some c → ∃ vs, H1 c = some (.lst vs) := fun c hp => let ⟨_, vs, e1⟩ := a.ok.tpH (a.le.tp c hp); ⟨vs, e1⟩
  refine ⟨a.le.trans b.le, fun p h => ?_, fun c o h n nt => ?_, fun c o h => ?_, b.ok⟩
  · rcases b.tp p h with h1 | h1
    · exact a.tp p h1
    · by_cases hp : g.tp = some p
      · exact .inl hp
      · exact .inr (fr p hp h1)
  · exact b.kp c o (a.kp c o h n nt) (back c n o h nt) nt
  · rcases b.new c o h with q | q | ⟨xs, q0, q⟩
    · exact a.new c o q
    · by_cases hp : g.tp = some c
      · obtain ⟨vs, e1⟩ := tpu c hp
        exact (q.usr e1 trivial).elim
      · exact .inr (.inl (fr c hp q))
    · subst q0
      by_cases hp : g.tp = some c
      · obtain ⟨vs, e1⟩ := tpu c hp
        rw [e1] at q; cases q
      · by_cases hf : ∃ u, H c = some u ∧ ∀ ps, u ≠ .tbl ps
        · obtain ⟨u, e, nt⟩ := hf
          have := a.kp c u e hp nt
          rw [q] at this; cases this
          exact .inr (.inr ⟨xs, rfl, e⟩)
        · refine .inr (.inl fun u e => ?_)
          by_cases ht : ∃ ps, u = .tbl ps
          · exact ht
          · exact (hf ⟨u, e, fun ps z => ht ⟨ps, z⟩⟩).elim
theorem OwnAt.grow {p : Addr} {d : D} (a : Grow R g H g' H' t') (h : OwnAt R g H p d) : OwnAt R g' H' p d := by
  obtain ⟨nf, nt, o, ho, b⟩ := h
  refine ⟨?_, fun e => ?_, o, a.keep p o ho nt b.usr, b.mono a.le⟩
  · cases e : g'.F p with
    | none => rfl
    | some u =>
      rcases a.new p u e with q | q | ⟨xs, q0, q⟩
      · rw [nf] at q; cases q
      · exact (q.usr ho b.usr).elim
      · rw [ho] at q; cases q; subst q0; cases b
  · rcases a.tp p e with q | q
    · exact nt q
    · exact q.usr ho b.usr
theorem NestAt.grow {p : Addr} {qs : List Addr} {dss : List (List D)} (a : Grow R g H g' H' t') (h : NestAt R g H p qs dss) : NestAt R g' H' p qs dss := by
  obtain ⟨nf, nt, hp, hl, nd, np, hq⟩ := h
  refine ⟨?_, fun e => ?_, a.keep p _ hp nt trivial, hl, nd, np, fun i q ds e1 e2 => (hq i q ds e1 e2).grow a⟩
  · cases e : g'.F p with
    | none => rfl
    | some u =>
      rcases a.new p u e with q | q | ⟨xs, q0, q⟩
      · rw [nf] at q; cases q
      · exact (q.usr hp trivial).elim
      · rw [hp] at q; cases q; cases q0
  · rcases a.tp p e with q | q
    · exact nt q
    · exact q.usr hp trivial
theorem SlotOk.grow {s : Slot} {v : Option V} {as : List Addr} (a : Grow R g H g' H' t') (h : SlotOk R g H s v as) : SlotOk R g' H' s v as := by
  cases h with
  | un v => exact .un v
  | val r => exact .val (r.mono a.le)
  | own h => exact .own (h.grow a)
  | nest h => exact .nest (h.grow a)
theorem SlotsOk.grow (a : Grow R g H g' H' t') : ∀ {ρ : Env} {σ : L2.St} {as : List Addr}, SlotsOk R g H ρ σ as → SlotsOk R g' H' ρ σ as
  | _, _, _, .nil => .nil
  | _, _, _, .cons h r d => .cons (h.grow a) (SlotsOk.grow a r) d
theorem SRel.grow {ρ : Env} {σ : L2.St} (h : SRel R g t ρ σ H) (a : Grow R g H g' H' t') : SRel R g' t' ρ σ H' :=
  ⟨a.ok, let ⟨as, q⟩ := h.sl; ⟨as, q.grow a⟩⟩
/-- a new object is made and frozen -/
def frz (g : Gh) (p : Addr) (o : HO) : Gh := { g with F := upd g.F p o }
theorem frz_le {p : Addr} {o : HO} (h : g.F p = none) : Gle g (frz g p o) := ⟨fun b u e => by
  show upd g.F p o b = some u
  rw [upd_ne (fun z => by rw [z, h] at e; cases e)]
  exact e, fun _ h => h⟩
theorem GOk.freeF (ok : GOk R g t H) {p : Addr} (h : H p = none) : g.F p = none := by
  cases e : g.F p with
  | none => rfl
  | some o => rw [ok.sub p o e] at h; cases h
theorem Grow.made {p : Addr} {o : HO} (ok : GOk R g t H) (hp : H p = none) (hu : Usr o := by trivial) : Grow R g H (frz g p o) (upd H p o) t := by
  have le := frz_le (o := o) (ok.freeF hp)
  refine ⟨le, fun _ h => .inl h, fun b u h _ _ => (by rw [upd_ne (ne_of_none h hp)]; exact h), fun b u h => ?_, ⟨fun b u h => ?_, fun a ha => ?_, ok.notape, tabs_upd (fun u e => by rw [hp] at e; cases e) ok.tb, fun b u h => ?_⟩⟩
  · by_cases hb : b = p
    · subst hb; exact .inr (.inl (.of hp))
    · have h' : upd g.F p o b = some u := h
      rw [upd_ne hb] at h'; exact .inl h'
  · have h' : upd g.F p o b = some u := h
    by_cases hb : b = p
    · subst hb; rw [upd_same] at h' ⊢; exact h'
    · rw [upd_ne hb] at h' ⊢; exact ok.sub b u h'
  · obtain ⟨ds, vs, e, q1, q2, q3⟩ := ok.tape a ha
    have na : a ≠ p := ne_of_none q2 hp
    refine ⟨ds, vs, e, ?_, by rw [upd_ne na]; exact q2, q3.mono le⟩
    show upd g.F p o a = none
    rw [upd_ne na]; exact q1
  · have h' : upd g.F p o b = some u := h
    by_cases hb : b = p
    · subst hb; rw [upd_same] at h'; cases h'; exact hu
    · rw [upd_ne hb] at h'; exact ok.ft b u h'
/-- a tuple that stands is frozen -/
theorem Grow.tupF {p : Addr} {xs : List V} {ds : List D} (ok : GOk R g t H) (hp : H p = some (.tup xs)) (r : RpAll R g xs ds) : ∃ g', Grow R g H g' H t ∧ g'.tp = g.tp ∧ Rp R g' (.ref p) (.tuple ds) := by
  cases e : g.F p with
  | some o =>
    have q := ok.sub p o e
    rw [hp] at q; cases q
    exact ⟨g, Grow.refl ok, rfl, .tup e r⟩
  | none =>
    have le := frz_le (o := .tup xs) e
    refine ⟨frz g p (.tup xs), ⟨le, fun _ h => .inl h, fun b u h _ _ => h, fun b u h => ?_, ⟨fun b u h => ?_, fun a ha => ?_, ok.notape, ok.tb, fun b u h => ?_⟩⟩, rfl, .tup upd_same (r.mono le)⟩
    · have h' : upd g.F p (.tup xs) b = some u := h
      by_cases hb : b = p
      · subst hb; rw [upd_same] at h'; cases h'; exact .inr (.inr ⟨xs, rfl, hp⟩)
      · rw [upd_ne hb] at h'; exact .inl h'
    · have h' : upd g.F p (.tup xs) b = some u := h
      by_cases hb : b = p
      · subst hb; rw [upd_same] at h'; cases h'; exact hp
      · rw [upd_ne hb] at h'; exact ok.sub b u h'
    · obtain ⟨ds, vs, e1, q1, q2, q3⟩ := ok.tape a ha
      have na : a ≠ p := ne_of q2 hp (by intro z; cases z)
      refine ⟨ds, vs, e1, ?_, q2, q3.mono le⟩
      show upd g.F p (.tup xs) a = none
      rw [upd_ne na]; exact q1
    · have h' : upd g.F p (.tup xs) b = some u := h
      by_cases hb : b = p
      · subst hb; rw [upd_same] at h'; cases h'; trivial
      · rw [upd_ne hb] at h'; exact ok.ft b u h'
/-- a new object is tracked, not frozen -/
theorem Grow.laid {p : Addr} {o : HO} (ok : GOk R g t H) (hp : H p = none) : Grow R g H g (upd H p o) t := by
  refine ⟨Gle.refl g, fun _ h => .inl h, fun b u h _ _ => (by rw [upd_ne (ne_of_none h hp)]; exact h), fun b u h => .inl h, ⟨fun b u h => ?_, fun a ha => ?_, ok.notape, tabs_upd (fun u e => by rw [hp] at e; cases e) ok.tb, ok.ft⟩⟩
  · rw [upd_ne (ne_of_none (ok.sub b u h) hp)]; exact ok.sub b u h
  · obtain ⟨ds, vs, e, q1, q2, q3⟩ := ok.tape a ha
    exact ⟨ds, vs, e, q1, by rw [upd_ne (ne_of_none q2 hp)]; exact q2, q3⟩
end

/-! ### what is wanted of a result -/
section
variable {α β : Type} {R : Rc} {g : Gh} {H : Hp} {E : XK} {t : Tp}
/-- an exception as it leaves -/
def XOk (R : Rc) (g : Gh) (t : Tp) (H : Hp) (c : Str) (d : D) (E : XK) : Prop :=
  ∀ (g' : Gh) (H' : Hp) (C dd : Addr) (fs : List (Str × V)) (v : V), Grow R g H g' H' t → R.er c = some C → H' dd = some (.xd fs) → fs.lookup ("place" : Str) = some v → Rp R g' v d → E (.ref C) (some dd) H'
def W1 (R : Rc) (g : Gh) (H : Hp) (o : Out α) (k : Gh → Hp → Tp → α → Prop) (E : XK) : Prop :=
  match o with
  | .ok a t' => ∀ g' H', Grow R g H g' H' t' → k g' H' t' a
  | .exc c d t' => XOk R g t' H c d E
  | .bad => False
theorem W1.mono {o : Out α} {k k' : Gh → Hp → Tp → α → Prop} (h : W1 R g H o k E) (f : ∀ g' H' t' a, Grow R g H g' H' t' → k g' H' t' a → k' g' H' t' a) : W1 R g H o k' E := by
  cases o with
  | ok a t' => exact fun g' H' w => f g' H' t' a w (h g' H' w)
  | exc c d t' => exact h
  | bad => exact h
theorem W1.at {a : α} {k : Gh → Hp → Tp → α → Prop} (ok : GOk R g t H) (h : W1 R g H (ret a t) k E) : k g H t a := h g H (Grow.refl ok)
theorem W1.up {o : Out α} {k : Gh → Hp → Tp → α → Prop} {g1 : Gh} {H1 : Hp} {t1 : Tp} (ok : GOk R g t H) (w : Grow R g H g1 H1 t1) (h : W1 R g H o k E) : W1 R g1 H1 o k E := by
  cases o with
  | ok a t' => exact fun g' H' q => h g' H' (w.trans ok q)
  | exc c d t' => exact fun g' H' C dd fs v q => h g' H' C dd fs v (w.trans ok q)
  | bad => exact h
theorem W1.bnd {m : M α} {f : α → M β} {k : Gh → Hp → Tp → β → Prop} (ok : GOk R g t H) (h : W1 R g H (bnd m f t) k E) : W1 R g H (m t) (fun g' H' t' a => W1 R g' H' (f a t') k E) E := by
  unfold Kw.bnd at h
  revert h
  generalize m t = o
  intro h
  cases o with
  | ok a t' => exact fun g' H' w => h.up ok w
  | exc c d t' => exact h
  | bad => exact h
theorem W1.bad {k : Gh → Hp → Tp → α → Prop} (h : W1 R g H (Kw.bad t) k E) : False := h
theorem W1.nox {m : M α} {k : Gh → Hp → Tp → α → Prop} {E' : XK} (h : W1 R g H (nox m t) k E) : W1 R g H (m t) k E' := by
  unfold Kw.nox at h
  revert h
  generalize m t = o
  intro h
  cases o with
  | ok a t' => exact h
  | exc c d t' => exact h.elim
  | bad => exact h
end

/-! ### readings -/
abbrev DE := Env → M D
/-- the reading of an expression told by f -/
def wE (R : Rc) (E : XK) (f : DE) : TE := fun σ H Q => ∃ (g : Gh) (t : Tp) (ρ : Env), SRel R g t ρ σ H ∧ W1 R g H (f ρ t) (fun g' H' _ d => ∀ x, Rp R g' x d → Q x H') E
def wT (R : Rc) (E : XK) (f : Env → M Bool) : TT := fun σ H Q => ∃ (g : Gh) (t : Tp) (ρ : Env), SRel R g t ρ σ H ∧ W1 R g H (f ρ t) (fun _ H' _ b => Q b H') E
def wA (R : Rc) (E : XK) (f : Env → M (List D)) : TA := fun σ H Q => ∃ (g : Gh) (t : Tp) (ρ : Env), SRel R g t ρ σ H ∧ W1 R g H (f ρ t) (fun g' H' _ ds => ∀ xs, RpAll R g' xs ds → Q xs H') E
theorem PE_imp {X : Cx} {e : Expr} {t t' : TE} (h : PE X e t) (i : ∀ σ H Q, t' σ H Q → t σ H Q) : PE X e t' := ⟨fun pins s σ H Q I w => h.run pins s σ H Q I (i σ H Q w)⟩
theorem PT_imp {X : Cx} {e : Expr} {t t' : TT} (h : PT X e t) (i : ∀ σ H Q, t' σ H Q → t σ H Q) : PT X e t' := ⟨fun pins s σ H Q I w => h.run pins s σ H Q I (i σ H Q w)⟩
theorem PA_imp {X : Cx} {e : List Expr} {t t' : TA} (h : PA X e t) (i : ∀ σ H Q, t' σ H Q → t σ H Q) : PA X e t' := ⟨fun pos pins s σ H Q I w => h.run pos pins s σ H Q I (i σ H Q w)⟩
theorem PS_imp {X : Cx} {e : Stmt} {t t' : TS} (h : PS X e t) (i : ∀ D σ H, t' D σ H → t D σ H) : PS X e t' := ⟨fun pins s σ H D I w => h.run pins s σ H D I (i D σ H w)⟩
theorem PSs_imp {X : Cx} {e : List Stmt} {t t' : TS} (h : PSs X e t) (i : ∀ D σ H, t' D σ H → t D σ H) : PSs X e t' := ⟨fun pins s σ H D I w => h.run pins s σ H D I (i D σ H w)⟩
end Kw
namespace Kw
open PySem PySem.Spec PyProof.Rows L2

/-- a value that is read on the spot: frozen, or the frame's own -/
def Rv (R : Rc) (g : Gh) (H : Hp) (x : V) (d : D) : Prop := Rp R g x d ∨ ∃ p, x = .ref p ∧ OwnAt R g H p d
section
variable {R : Rc} {g g' : Gh} {H H' : Hp} {t t' : Tp} {x : V} {d : D}
theorem Rv.grow (w : Grow R g H g' H' t') (h : Rv R g H x d) : Rv R g' H' x d := by
  rcases h with h | ⟨p, e, h⟩
  · exact .inl (h.mono w.le)
  · exact .inr ⟨p, e, h.grow w⟩
theorem Rv.int {i : Int} (h : Rv R g H x (.int i)) : x = .int i := by
  rcases h with h | ⟨p, e, _, _, o, _, b⟩
  · cases h; rfl
  · cases b
theorem Rv.bl {b : Bool} (h : Rv R g H x (.bool b)) : x = .bl b := by
  rcases h with h | ⟨p, e, _, _, o, _, b⟩
  · cases h; rfl
  · cases b
theorem Rv.non (h : Rv R g H x .none) : x = .non := by
  rcases h with h | ⟨p, e, _, _, o, _, b⟩
  · cases h; rfl
  · cases b
theorem Rv.str {z : Str} (h : Rv R g H x (.str z)) : x = .str z := by
  rcases h with h | ⟨p, e, _, _, o, _, b⟩
  · cases h; rfl
  · cases b
theorem Rv.lst {ds : List D} (ok : GOk R g t H) (h : Rv R g H x (.list ds)) : ∃ a xs, x = .ref a ∧ H a = some (.lst xs) ∧ RpAll R g xs ds := by
  rcases h with h | ⟨p, e, _, _, o, ho, b⟩
  · cases h with
    | lst h r => exact ⟨_, _, rfl, ok.sub _ _ h, r⟩
  · cases b with
    | lst r => exact ⟨p, _, e, ho, r⟩
theorem Rv.tup {ds : List D} (ok : GOk R g t H) (h : Rv R g H x (.tuple ds)) : ∃ a xs, x = .ref a ∧ g.F a = some (.tup xs) ∧ H a = some (.tup xs) ∧ RpAll R g xs ds := by
  rcases h with h | ⟨p, e, _, _, o, ho, b⟩
  · cases h with
    | tup h r => exact ⟨_, _, rfl, h, ok.sub _ _ h, r⟩
  · cases b
theorem map_inj : ∀ {ns ms : List Int}, ns.map PyData.int = ms.map PyData.int → ns = ms
  | [], [], _ => rfl
  | [], _ :: _, h => by simp at h
  | _ :: _, [], h => by simp at h
  | a :: ns, b :: ms, h => by
    simp only [List.map_cons, List.cons.injEq, PyData.int.injEq] at h
    rw [h.1, map_inj h.2]
theorem Rv.scr {ns : List Int} (ok : GOk R g t H) (h : Rv R g H x (scrD ns)) : ∃ a, x = .ref a ∧ SqL R.K H a (ns.map V.int) := by
  rcases h with h | ⟨p, e, _, _, o, ho, b⟩
  · generalize hd : scrD ns = d at h
    cases h <;> try (first | (cases hd; done) | skip)
    case scr a ms h =>
      have e : ms = ns := by
        have : (ns.map PyData.int) = ms.map PyData.int := by simpa [scrD] using hd
        exact (map_inj this).symm
      subst e
      exact ⟨_, rfl, ok.sub.seq h⟩
  · generalize hd : scrD ns = d at b
    cases b <;> cases hd
theorem RpAll.dpA {H : Hp} {xs : List V} {ds : List D} (e : Same g.F H) (r : RpAll R g xs ds) (l : PyData.canLayAll0 ds = true) : DpAll R.K H xs ds := r.dp e l
theorem Rv.dp (ok : GOk R g t H) (h : Rv R g H x d) (l : d.canLay0 = true) : Dp R.K H x d := by
  rcases h with h | ⟨p, rfl, _, _, o, ho, b⟩
  · exact h.dp ok.sub l
  · cases b with
    | lst r => exact .lst (.of ho) (r.dp ok.sub (by simpa [PyData.canLay0] using l))
    | dK r => simp [PyData.canLay0] at l
    | dT r => simp [PyData.canLay0] at l
    | ins c r => simp [PyData.canLay0] at l
end

/-- what a two-place operation told by m asks -/
def rD (R : Rc) (E : XK) (m : D → D → M D) : R2 := fun x y H Q => ∃ (g : Gh) (t : Tp) (a b : D), GOk R g t H ∧ Rv R g H x a ∧ Rv R g H y b ∧ W1 R g H (m a b t) (fun g' H' _ d => ∀ z, Rp R g' z d → Q z H') E
def rU1 (R : Rc) (E : XK) (m : D → M D) : V → Hp → VK → Prop := fun x H Q => ∃ (g : Gh) (t : Tp) (a : D), GOk R g t H ∧ Rv R g H x a ∧ W1 R g H (m a t) (fun g' H' _ d => ∀ z, Rp R g' z d → Q z H') E
section
variable {R : Rc} {g : Gh} {H : Hp} {t : Tp} {Q : VK} {E : XK}
theorem done {d : D} {z : V} (ok : GOk R g t H) (h : W1 R g H (ret d t) (fun g' H' _ d => ∀ z, Rp R g' z d → Q z H') E) (r : Rp R g z d) : Q z H := W1.at ok h z r
theorem doneI {i : Int} (ok : GOk R g t H) (h : W1 R g H (ret (.int i) t) (fun g' H' _ d => ∀ z, Rp R g' z d → Q z H') E) : Q (.int i) H := done ok h (.int i)
theorem doneB {i : Bool} (ok : GOk R g t H) (h : W1 R g H (ret (.bool i) t) (fun g' H' _ d => ∀ z, Rp R g' z d → Q z H') E) : Q (.bl i) H := done ok h (.bl i)
/-- a new list, a new tuple -/
theorem doneL {ds : List D} {xs : List V} {p : Addr} (ok : GOk R g t H) (h : W1 R g H (ret (.list ds) t) (fun g' H' _ d => ∀ z, Rp R g' z d → Q z H') E) (r : RpAll R g xs ds) (hp : H p = none) : Q (.ref p) (upd H p (.lst xs)) :=
  h _ _ (Grow.made ok hp) _ (.lst upd_same (r.mono (frz_le (ok.freeF hp))))
theorem doneT {ds : List D} {xs : List V} {p : Addr} (ok : GOk R g t H) (h : W1 R g H (ret (.tuple ds) t) (fun g' H' _ d => ∀ z, Rp R g' z d → Q z H') E) (r : RpAll R g xs ds) (hp : H p = none) : Q (.ref p) (upd H p (.tup xs)) :=
  h _ _ (Grow.made ok hp) _ (.tup upd_same (r.mono (frz_le (ok.freeF hp))))
end

theorem W1_ite {α : Type} {R : Rc} {g : Gh} {H : Hp} {t : Tp} {E : XK} {c : Prop} [Decidable c] {m : M α} {k : Gh → Hp → Tp → α → Prop} (h : W1 R g H ((if c then m else bad) t) k E) : c ∧ W1 R g H (m t) k E := by
  by_cases hc : c
  · rw [if_pos hc] at h; exact ⟨hc, h⟩
  · rw [if_neg hc] at h; exact h.elim
/-! ### the operations on trees -/
def okLen (n : Nat) : Bool := decide (n ≤ 16777216)
theorem okLen_le {n : Nat} (h : okLen n = true) : n ≤ sizeLine := by
  rw [sizeLine_eq]; exact of_decide_eq_true h
def addM : D → D → M D
  | .int i, .int j => ret (.int (i + j))
  | .list xs, .list ys => if okLen (xs.length + ys.length) = true then ret (.list (xs ++ ys)) else bad
  | .tuple xs, .tuple ys => if okLen (xs.length + ys.length) = true then ret (.tuple (xs ++ ys)) else bad
  | .str x, .str y => if okLen (x.length + y.length) = true then ret (.str (x ++ y)) else bad
  | _, _ => bad
def subM : D → D → M D
  | .int i, .int j => ret (.int (i - j))
  | _, _ => bad
def mulM : D → D → M D
  | .int i, .int j => if i.natAbs.log2 + j.natAbs.log2 < 100000000 then ret (.int (i * j)) else bad
  | .list xs, .int k => if -1000000 ≤ k ∧ k ≤ 1000000 ∧ okLen (xs.length * k.toNat) = true then ret (.list (List.replicate k.toNat xs).flatten) else bad
  | _, _ => bad
def fdivM : D → D → M D
  | .int i, .int j => if 0 < j ∧ j.natAbs.log2 < 9000 then ret (.int (i / j)) else bad
  | _, _ => bad
def modM : D → D → M D
  | .int i, .int j => if 0 < j then ret (.int (i % j)) else bad
  | _, _ => bad
def powM : D → D → M D
  | .int i, .int j => if 0 ≤ j ∧ j ≤ 1000000 ∧ i.natAbs < 2 ^ 64 then ret (.int (i ^ j.toNat)) else bad
  | _, _ => bad
def shlM : D → D → M D
  | .int i, .int j => if 0 ≤ j ∧ j ≤ 1000000 ∧ i.natAbs < 2 ^ 64 then ret (.int (i * 2 ^ j.toNat)) else bad
  | _, _ => bad
def shrM : D → D → M D
  | .int i, .int j => if 0 ≤ j then ret (.int (i / 2 ^ j.toNat)) else bad
  | _, _ => bad
def bandM : D → D → M D
  | .int i, .int j => ret (.int (Builtin.bitAnd i j))
  | _, _ => bad
def borM : D → D → M D
  | .int i, .int j => ret (.int (Builtin.bitOr i j))
  | _, _ => bad
def bxorM : D → D → M D
  | .int i, .int j => ret (.int (Builtin.bitXor i j))
  | _, _ => bad
def negM : D → M D
  | .int i => ret (.int (-i))
  | _ => bad
def binM : Operator → D → D → M D
  | .Add => addM
  | .Sub => subM
  | .Mult => mulM
  | .FloorDiv => fdivM
  | .Mod => modM
  | .Pow => powM
  | .LShift => shlM
  | .RShift => shrM
  | .BitAnd => bandM
  | .BitOr => borM
  | .BitXor => bxorM
  | _ => fun _ _ => bad
section
variable {X : Cx} {R : Rc} {E : XK}
theorem op_addD (hK : X.K = R.K) : OpR X (binaryOp .Add) (rD R E addM) := by
  intro pins s σ H x y v u Q I rx ry ⟨g, t, a, b, ok, ha, hb, h⟩
  cases a <;> cases b <;> try exact (h : False).elim
  case int.int i j =>
    have e1 := ha.int; have e2 := hb.int; subst e1; subst e2
    exact op_add pins s σ H _ _ v u Q I rx ry ⟨i, j, rfl, rfl, doneI ok h⟩
  case str.str i j =>
    have e1 := ha.str; have e2 := hb.str; subst e1; subst e2
    obtain ⟨hz, h⟩ := W1_ite h
    exact op_add_str pins s σ H _ _ v u Q I rx ry ⟨i, j, rfl, rfl, okLen_le hz, done ok h (.str _)⟩
  case list.list xs ys =>
    obtain ⟨p, vs, rfl, hp, r1⟩ := ha.lst ok
    obtain ⟨q, ws, rfl, hq, r2⟩ := hb.lst ok
    obtain ⟨hz, h⟩ := W1_ite h
    exact op_cat pins s σ H _ _ v u Q I rx ry ⟨p, q, vs, ws, rfl, rfl, hp, hq, by rw [r1.length, r2.length]; exact okLen_le hz, fun a hn => doneL ok h (r1.append r2) hn⟩
  case tuple.tuple xs ys =>
    obtain ⟨p, vs, rfl, fp, hp, r1⟩ := ha.tup ok
    obtain ⟨q, ws, rfl, fq, hq, r2⟩ := hb.tup ok
    obtain ⟨hz, h⟩ := W1_ite h
    refine op_catA pins s σ H _ _ v u Q I rx ry ⟨p, q, vs, ws, rfl, rfl, .of hp, .of hq, by rw [r1.length, r2.length]; exact okLen_le hz, fun e => ?_, fun _ e => ?_, fun _ _ a hn => doneT ok h (r1.append r2) hn⟩
    · subst e; cases r1
      exact done ok h (.tup fq r2)
    · subst e; cases r2
      rw [List.append_nil] at h
      exact done ok h (.tup fp r1)
theorem op_subD : OpR X (binaryOp .Sub) (rD R E subM) := by
  intro pins s σ H x y v u Q I rx ry ⟨g, t, a, b, ok, ha, hb, h⟩
  cases a <;> cases b <;> try exact (h : False).elim
  case int.int i j =>
    have e1 := ha.int; have e2 := hb.int; subst e1; subst e2
    exact op_sub pins s σ H _ _ v u Q I rx ry ⟨i, j, rfl, rfl, doneI ok h⟩
theorem op_mulD : OpR X (binaryOp .Mult) (rD R E mulM) := by
  intro pins s σ H x y v u Q I rx ry ⟨g, t, a, b, ok, ha, hb, h⟩
  cases a <;> cases b <;> try exact (h : False).elim
  case int.int i j =>
    have e1 := ha.int; have e2 := hb.int; subst e1; subst e2
    obtain ⟨hz, h⟩ := W1_ite h
    have bb : ∀ x : Int, Builtin.Int.intBits x ≤ x.natAbs.log2 + 1 := fun x => by
      unfold Builtin.Int.intBits
      split <;> omega
    have h1 := bb i
    have h2 := bb j
    exact op_mulX pins s σ H _ _ v u Q I rx ry ⟨i, j, rfl, rfl, (by unfold CMulX; omega), doneI ok h⟩
  case list.int xs k =>
    obtain ⟨p, vs, rfl, hp, r1⟩ := ha.lst ok
    have e2 := hb.int; subst e2
    obtain ⟨hz, h⟩ := W1_ite h
    refine op_rep pins s σ H _ _ v u Q I rx ry ⟨p, k, vs, rfl, rfl, hp, by omega, by omega, by rw [r1.length]; exact okLen_le hz.2.2, fun a hn => doneL ok h ?_ hn⟩
    have rep : ∀ n : Nat, RpAll R g (List.replicate n vs).flatten (List.replicate n xs).flatten := fun n => by
      induction n with
      | zero => exact .nil
      | succ n ih => rw [List.replicate_succ, List.replicate_succ, List.flatten_cons, List.flatten_cons]; exact r1.append ih
    exact rep _
/-- the form of int operations with a condition -/
theorem opD_int {f : Value → Value → Sem Value} {m : D → D → M D} {C : Int → Int → Prop} {F : Int → Int → Int} (o : OpR X f (rI C fun i j => .int (F i j)))
    (hm : ∀ a b t, (∃ i j, a = .int i ∧ b = .int j ∧ C i j ∧ m a b t = ret (.int (F i j)) t) ∨ m a b t = .bad) : OpR X f (rD R E m) := by
  intro pins s σ H x y v u Q I rx ry ⟨g, t, a, b, ok, ha, hb, h⟩
  rcases hm a b t with ⟨i, j, rfl, rfl, c, e⟩ | e
  · have e1 := ha.int; have e2 := hb.int; subst e1; subst e2
    rw [e] at h
    exact o pins s σ H _ _ v u Q I rx ry ⟨i, j, rfl, rfl, c, doneI ok h⟩
  · rw [e] at h; exact (h : False).elim
theorem opD_int0 {f : Value → Value → Sem Value} {m : D → D → M D} {F : Int → Int → Int} (o : OpR X f (rI0 fun i j => .int (F i j)))
    (hm : ∀ a b t, (∃ i j, a = .int i ∧ b = .int j ∧ m a b t = ret (.int (F i j)) t) ∨ m a b t = .bad) : OpR X f (rD R E m) := by
  intro pins s σ H x y v u Q I rx ry ⟨g, t, a, b, ok, ha, hb, h⟩
  rcases hm a b t with ⟨i, j, rfl, rfl, e⟩ | e
  · have e1 := ha.int; have e2 := hb.int; subst e1; subst e2
    rw [e] at h
    exact o pins s σ H _ _ v u Q I rx ry ⟨i, j, rfl, rfl, doneI ok h⟩
  · rw [e] at h; exact (h : False).elim
theorem opD_ite {f : Value → Value → Sem Value} {m : D → D → M D} {C C' : Int → Int → Prop} {F : Int → Int → Int} [∀ i j, Decidable (C' i j)] (o : OpR X f (rI C fun i j => .int (F i j)))
    (hc : ∀ i j, C' i j → C i j) (hm : ∀ i j, m (.int i) (.int j) = if C' i j then ret (.int (F i j)) else bad) (hb : ∀ a b, (∀ i j, a = .int i → b = .int j → False) → m a b = bad) : OpR X f (rD R E m) := by
  intro pins s σ H x y v u Q I rx ry ⟨g, t, a, b, ok, ha, hb', h⟩
  by_cases q : ∃ i j, a = .int i ∧ b = .int j
  · obtain ⟨i, j, rfl, rfl⟩ := q
    have e1 := ha.int; have e2 := hb'.int; subst e1; subst e2
    rw [hm] at h
    obtain ⟨c, h⟩ := W1_ite h
    exact o pins s σ H _ _ v u Q I rx ry ⟨i, j, rfl, rfl, hc i j c, doneI ok h⟩
  · rw [hb a b fun i j e1 e2 => q ⟨i, j, e1, e2⟩] at h; exact (h : False).elim
theorem op_fdivD : OpR X (binaryOp .FloorDiv) (rD R E fdivM) := opD_ite (C' := fun _ j => 0 < j ∧ j.natAbs.log2 < 9000) op_fdivW (fun _ _ h => h) (fun _ _ => rfl) fun a b h => by
  cases a <;> cases b <;> first | rfl | exact (h _ _ rfl rfl).elim
theorem op_modD : OpR X (binaryOp .Mod) (rD R E modM) := opD_ite (C' := fun _ j => 0 < j) op_mod (fun _ _ h => h) (fun _ _ => rfl) fun a b h => by
  cases a <;> cases b <;> first | rfl | exact (h _ _ rfl rfl).elim
theorem op_powD : OpR X (binaryOp .Pow) (rD R E powM) := opD_ite (C' := fun i j => 0 ≤ j ∧ j ≤ 1000000 ∧ i.natAbs < 2 ^ 64) op_pow (fun _ _ h => h) (fun _ _ => rfl) fun a b h => by
  cases a <;> cases b <;> first | rfl | exact (h _ _ rfl rfl).elim
theorem op_shlD : OpR X (binaryOp .LShift) (rD R E shlM) := opD_ite (C' := fun i j => 0 ≤ j ∧ j ≤ 1000000 ∧ i.natAbs < 2 ^ 64) op_shl (fun _ _ h => h) (fun _ _ => rfl) fun a b h => by
  cases a <;> cases b <;> first | rfl | exact (h _ _ rfl rfl).elim
theorem op_shrD : OpR X (binaryOp .RShift) (rD R E shrM) := opD_ite (C' := fun _ j => 0 ≤ j) op_shr (fun _ _ h => h) (fun _ _ => rfl) fun a b h => by
  cases a <;> cases b <;> first | rfl | exact (h _ _ rfl rfl).elim
theorem op_bandD : OpR X (binaryOp .BitAnd) (rD R E bandM) := opD_int0 op_and fun a b t => by
  cases a <;> cases b <;> first | exact .inr rfl | exact .inl ⟨_, _, rfl, rfl, rfl⟩
theorem op_borD : OpR X (binaryOp .BitOr) (rD R E borM) := opD_int0 op_or fun a b t => by
  cases a <;> cases b <;> first | exact .inr rfl | exact .inl ⟨_, _, rfl, rfl, rfl⟩
theorem op_bxorD : OpR X (binaryOp .BitXor) (rD R E bxorM) := opD_int0 op_xor fun a b t => by
  cases a <;> cases b <;> first | exact .inr rfl | exact .inl ⟨_, _, rfl, rfl, rfl⟩
theorem op_badD {f : Value → Value → Sem Value} : OpR X f (rD R E fun _ _ => bad) := by
  intro pins s σ H x y v u Q I rx ry ⟨g, t, a, b, ok, ha, hb, h⟩
  exact (h : False).elim
theorem op_binD (hK : X.K = R.K) (op : Operator) : OpR X (binaryOp op) (rD R E (binM op)) :=
  match op with
  | .Add => op_addD hK
  | .Sub => op_subD
  | .Mult => op_mulD
  | .FloorDiv => op_fdivD
  | .Mod => op_modD
  | .Pow => op_powD
  | .LShift => op_shlD
  | .RShift => op_shrD
  | .BitAnd => op_bandD
  | .BitOr => op_borD
  | .BitXor => op_bxorD
  | .Div => op_badD
  | .MatMult => op_badD
theorem un_negD : UnR X (unaryOp .USub) (rU1 R E negM) := by
  intro pins s σ H x v Q I rx ⟨g, t, a, ok, ha, h⟩
  cases a <;> try exact (h : False).elim
  have e1 := ha.int; subst e1
  exact un_neg pins s σ H _ v Q I rx ⟨_, rfl, doneI ok h⟩
end
end Kw
namespace Kw
open PySem PySem.Spec PyProof.Rows L2

/-! ### keys -/
def keyK : D → Option Key
  | .int i => some (.inl i)
  | .str s => some (.inr s)
  | _ => none
def keysK : List D → Option (List Key)
  | [] => some []
  | d :: ds => match keyK d, keysK ds with
    | some k, some ks => some (k :: ks)
    | _, _ => none
def keyT : D → Option (List Key)
  | .tuple ds => keysK ds
  | _ => none
theorem keyK_eq {d : D} {k : Key} (h : keyK d = some k) : d = kD k := by
  cases d <;> simp [keyK] at h <;> subst h <;> rfl
theorem keyK_kD (k : Key) : keyK (kD k) = some k := by cases k <;> rfl
theorem keysK_eq : ∀ {ds : List D} {ks : List Key}, keysK ds = some ks → ds = ks.map kD
  | [], ks, h => by simp [keysK] at h; subst h; rfl
  | d :: ds, ks, h => by
    unfold keysK at h
    cases e : keyK d with
    | none => rw [e] at h; simp at h
    | some k =>
      cases e2 : keysK ds with
      | none => rw [e, e2] at h; simp at h
      | some r =>
        rw [e, e2] at h
        simp only [Option.some.injEq] at h
        subst h
        rw [List.map_cons, ← keyK_eq e, ← keysK_eq e2]
theorem keyT_eq {d : D} {ks : List Key} (h : keyT d = some ks) : d = tD ks := by
  cases d <;> simp [keyT] at h
  rw [keysK_eq h]; rfl
theorem keyK_tD (ks : List Key) : keyK (tD ks) = none := rfl
theorem keyT_kD (k : Key) : keyT (kD k) = none := by cases k <;> rfl
theorem eqv_kD (a b : Key) : PyData.eqv (kD a) (kD b) = decide (a = b) := by
  cases a <;> cases b <;> simp [kD, PyData.eqv]
  · rename_i x y
    by_cases h : x = y
    · subst h; simp
    · simp [h]
  · rename_i x y
    by_cases h : x = y
    · subst h; simp
    · simp [h]
theorem eqvAll_kD : ∀ (a b : List Key), PyData.eqvAll (a.map kD) (b.map kD) = decide (a = b)
  | [], [] => by simp [PyData.eqvAll]
  | [], _ :: _ => by simp [PyData.eqvAll]
  | _ :: _, [] => by simp [PyData.eqvAll]
  | x :: a, y :: b => by
    simp only [List.map_cons, PyData.eqvAll, eqv_kD, eqvAll_kD a b]
    by_cases h : x = y <;> by_cases h2 : a = b <;> simp [h, h2]
theorem eqv_tD (a b : List Key) : PyData.eqv (tD a) (tD b) = decide (a = b) := by
  unfold tD; rw [PyData.eqv]; exact eqvAll_kD a b
/-- what a dict holds -/
def lookD (kvs : List (D × D)) (k : D) : Option D := (kvs.find? fun p => PyData.eqv p.1 k).map (·.2)
/-- all keys are ints or texts; all are tuples of these -/
def allK (kvs : List (D × D)) : Bool := kvs.all fun p => (keyK p.1).isSome
def allT (kvs : List (D × D)) : Bool := kvs.all fun p => (keyT p.1).isSome
/-- the same by V's -/
def RelV2 (R : Rc) (g : Gh) (o : Option V) (u : Option D) : Prop := (o = none ∧ u = none) ∨ ∃ v d, o = some v ∧ u = some d ∧ Rp R g v d
theorem look_gen {κ : Type} [DecidableEq κ] {R : Rc} {g : Gh} {enc : κ → D} (he : ∀ a b, PyData.eqv (enc a) (enc b) = decide (a = b)) (k : κ) : ∀ {kvs : List (κ × V)} {ds : List D}, RpAll R g (kvs.map (·.2)) ds → RelV2 R g (valV kvs k) (lookD ((kvs.map fun p => enc p.1).zip ds) (enc k))
  | [], ds, r => .inl ⟨rfl, by simp [lookD]⟩
  | (a, v) :: kvs, _, r => by
    cases r with
    | cons r1 r2 =>
      rename_i d ds
      by_cases e : a = k
      · refine .inr ⟨v, d, by rw [valV_pos e], ?_, r1⟩
        simp [lookD, List.find?_cons, he, e]
      · rw [valV_neg (p := (a, v)) e]
        have q := look_gen he k r2
        have z : lookD (((((a, v) :: kvs).map fun p => enc p.1)).zip (d :: ds)) (enc k) = lookD ((kvs.map fun p => enc p.1).zip ds) (enc k) := by
          simp [lookD, List.find?_cons, he, e]
        rw [z]; exact q
theorem RelV2.isSome {R : Rc} {g : Gh} {o : Option V} {u : Option D} (h : RelV2 R g o u) : o.isSome = u.isSome := by
  rcases h with ⟨rfl, rfl⟩ | ⟨v, d, rfl, rfl, _⟩ <;> rfl

/-! ### an empty dict is of both kinds -/
theorem upd_self {H : Hp} {a : Addr} {o : HO} (e : H a = some o) : upd H a o = H := by
  funext b; unfold upd; split
  · rename_i h; rw [h]; exact e.symm
  · rfl
theorem inv_kt {X : Cx} {pins : List (Addr × Obj)} {σ : L2.St} {H : Hp} {s : Shared} {a : Addr} (I : Inv X pins σ H s) (e : H a = some (.dK [])) : Inv X pins σ (upd H a (.dT [])) s := by
  obtain ⟨z, hd, vs, rel, o, es, ep, eo, ex, dt, _, en, nd⟩ := dk_of I.hok e
  cases rel
  have en : es.toList = [] := by cases hq : es.toList with
    | nil => rfl
    | cons _ _ => rw [hq] at en; cases en
  have := I.write (x := a) (e := a) (o := .dT []) (h' := s.heap) (t' := s.toks) (by rw [e]; trivial) (.inl rfl) (fun b u _ q => q) ⟨o, eo⟩ ⟨z, hd, [], .nil, o, es, ep, eo, ex, dt, by rw [en]; rfl, by simp⟩
  exact this
theorem inv_tk {X : Cx} {pins : List (Addr × Obj)} {σ : L2.St} {H : Hp} {s : Shared} {a : Addr} (I : Inv X pins σ H s) (e : H a = some (.dT [])) : Inv X pins σ (upd H a (.dK [])) s := by
  obtain ⟨z, hd, xs, rel, o, es, ep, eo, ex, dt, en, nd⟩ := I.hok a _ e
  cases rel
  have en : es.toList = [] := by simpa using en
  have em : es = #[] := by apply Array.toList_inj.mp; rw [en]
  have := I.write (x := a) (e := a) (o := .dK []) (h' := s.heap) (t' := s.toks) (by rw [e]; trivial) (.inl rfl) (fun b u _ q => q) ⟨o, eo⟩ ⟨z, hd, [], .nil, o, es, ep, eo, ex, dt, (by subst em; intro e he; simp at he), (by rw [en]; exact .nil), by simp⟩
  exact this
/-- a dict with int or text keys; a dict with tuple keys (an empty one is both) -/
def IsK (H : Hp) (a : Addr) (kvs : List (Key × V)) : Prop := H a = some (.dK kvs) ∨ (H a = some (.dT []) ∧ kvs = [])
def IsT (H : Hp) (a : Addr) (kvs : List (List Key × V)) : Prop := H a = some (.dT kvs) ∨ (H a = some (.dK []) ∧ kvs = [])
section
variable {R : Rc} {g : Gh} {H : Hp} {t : Tp} {x : V} {kvs : List (D × D)}
theorem allK_tD {l : List (List Key × V)} {ds : List D} (hl : l.length = ds.length) (h : allK ((l.map fun p => tD p.1).zip ds) = true) : l = [] := by
  cases l with
  | nil => rfl
  | cons p l =>
    cases ds with
    | nil => simp at hl
    | cons d ds => simp [allK, keyK_tD] at h
theorem allT_kD {l : List (Key × V)} {ds : List D} (hl : l.length = ds.length) (h : allT ((l.map fun p => kD p.1).zip ds) = true) : l = [] := by
  cases l with
  | nil => rfl
  | cons p l =>
    cases ds with
    | nil => simp at hl
    | cons d ds => simp [allT, keyT_kD] at h
theorem len_of_map {κ : Type} {l : List (κ × V)} {ds : List D} (r : RpAll R g (l.map (·.2)) ds) : l.length = ds.length := by
  have := r.length; simpa using this
theorem Rv.dic (ok : GOk R g t H) (h : Rv R g H x (dicD kvs)) : ∃ a, x = .ref a ∧ ((∃ l ds, H a = some (.dK l) ∧ RpAll R g (l.map (·.2)) ds ∧ kvs = (l.map fun p => kD p.1).zip ds) ∨ (∃ l ds, H a = some (.dT l) ∧ RpAll R g (l.map (·.2)) ds ∧ kvs = (l.map fun p => tD p.1).zip ds)) := by
  rcases h with h | ⟨p, e, _, _, o, ho, b⟩
  · generalize hd : dicD kvs = d at h
    cases h <;> first | (simp [dicD] at hd; done) | skip
    case dK a l ds h r =>
      simp only [dicD, PyData.dict.injEq, List.cons.injEq, true_and] at hd
      exact ⟨a, rfl, .inl ⟨l, ds, ok.sub _ _ h, r, hd⟩⟩
    case dT a l ds h r =>
      simp only [dicD, PyData.dict.injEq, List.cons.injEq, true_and] at hd
      exact ⟨a, rfl, .inr ⟨l, ds, ok.sub _ _ h, r, hd⟩⟩
  · generalize hd : dicD kvs = d at b
    cases b <;> first | (simp [dicD] at hd; done) | skip
    case dK l ds r =>
      simp only [dicD, PyData.dict.injEq, List.cons.injEq, true_and] at hd
      exact ⟨p, e, .inl ⟨l, ds, ho, r, hd⟩⟩
    case dT l ds r =>
      simp only [dicD, PyData.dict.injEq, List.cons.injEq, true_and] at hd
      exact ⟨p, e, .inr ⟨l, ds, ho, r, hd⟩⟩
theorem Rv.dicK (ok : GOk R g t H) (h : Rv R g H x (dicD kvs)) (a : allK kvs = true) : ∃ a l ds, x = .ref a ∧ IsK H a l ∧ RpAll R g (l.map (·.2)) ds ∧ kvs = (l.map fun p => kD p.1).zip ds := by
  obtain ⟨p, e, ⟨l, ds, h1, r, e2⟩ | ⟨l, ds, h1, r, e2⟩⟩ := h.dic ok
  · exact ⟨p, l, ds, e, .inl h1, r, e2⟩
  · subst e2
    have hl := allK_tD (len_of_map r) a
    subst hl
    cases r
    exact ⟨p, [], [], e, .inr ⟨h1, rfl⟩, .nil, rfl⟩
theorem Rv.dicT (ok : GOk R g t H) (h : Rv R g H x (dicD kvs)) (a : allT kvs = true) : ∃ a l ds, x = .ref a ∧ IsT H a l ∧ RpAll R g (l.map (·.2)) ds ∧ kvs = (l.map fun p => tD p.1).zip ds := by
  obtain ⟨p, e, ⟨l, ds, h1, r, e2⟩ | ⟨l, ds, h1, r, e2⟩⟩ := h.dic ok
  · subst e2
    have hl := allT_kD (len_of_map r) a
    subst hl
    cases r
    exact ⟨p, [], [], e, .inr ⟨h1, rfl⟩, .nil, rfl⟩
  · exact ⟨p, l, ds, e, .inl h1, r, e2⟩
theorem Rv.keyK {k : Key} (h : Rv R g H x (kD k)) : x = kV k := by
  cases k with
  | inl i => exact h.int
  | inr s => exact h.str
theorem RpAll.keys : ∀ {xs : List V} {ks : List Key}, RpAll R g xs (ks.map kD) → xs = ks.map kV
  | [], [], _ => rfl
  | [], _ :: _, h => by cases h
  | _ :: _, [], h => by cases h
  | x :: xs, k :: ks, h => by
    cases h with
    | cons h1 h2 =>
      have e : x = kV k := Rv.keyK (H := g.F) (.inl h1)
      rw [e, RpAll.keys h2]
      rfl
theorem Rv.keyT {ks : List Key} (ok : GOk R g t H) (h : Rv R g H x (tD ks)) : ∃ b, x = .ref b ∧ H b = some (.tup (ks.map kV)) := by
  obtain ⟨a, xs, e, _, h1, r⟩ := h.tup ok
  rw [RpAll.keys r] at h1
  exact ⟨a, e, h1⟩
end
section
variable {X : Cx} {pins : List (Addr × Obj)} {σ : L2.St} {H : Hp} {s : Shared} {a : Addr} {E : Value → Shared → Prop} {A : Around}
/-- what holds of Inv at a changed ghost heap comes back -/
theorem viaK {l : List (Key × V)} (I : Inv X pins σ H s) (k : IsK H a l) : ∃ H1, Inv X pins σ H1 s ∧ H1 a = some (.dK l) ∧ (∀ b, b ≠ a → H1 b = H b) ∧ ∀ s', Inv X pins σ H1 s' → Inv X pins σ H s' := by
  rcases k with k | ⟨k, rfl⟩
  · exact ⟨H, I, k, fun _ _ => rfl, fun _ h => h⟩
  · refine ⟨upd H a (.dK []), inv_tk I k, upd_same, fun b hb => upd_ne hb, fun s' h => ?_⟩
    have := inv_kt h upd_same
    rw [upd_upd, upd_self k] at this
    exact this
theorem viaT {l : List (List Key × V)} (I : Inv X pins σ H s) (k : IsT H a l) : ∃ H1, Inv X pins σ H1 s ∧ H1 a = some (.dT l) ∧ (∀ b, b ≠ a → H1 b = H b) ∧ ∀ s', Inv X pins σ H1 s' → Inv X pins σ H s' := by
  rcases k with k | ⟨k, rfl⟩
  · exact ⟨H, I, k, fun _ _ => rfl, fun _ h => h⟩
  · refine ⟨upd H a (.dT []), inv_kt I k, upd_same, fun b hb => upd_ne hb, fun s' h => ?_⟩
    have := inv_tk h upd_same
    rw [upd_upd, upd_self k] at this
    exact this
end

/-! ### what a tree that is a dict stands for -/
inductive Tag where
  | tape
  | dic (kvs : List (D × D))
  | scr (ns : List D)
  | obj (c : Str) (fs : List (D × D))
  | other
def tagD : List (D × D) → Tag
  | [] => .tape
  | (.none, .none) :: kvs => .dic kvs
  | [(.bool true, .list ns)] => .scr ns
  | (.str c, .none) :: fs => .obj c fs
  | _ => .other
theorem tag_tape {l : List (D × D)} (h : tagD l = .tape) : l = [] := by
  unfold tagD at h; split at h <;> first | rfl | cases h
theorem tag_dic {l kvs : List (D × D)} (h : tagD l = .dic kvs) : l = (.none, .none) :: kvs := by
  unfold tagD at h; split at h <;> first | (cases h; done) | (cases h; rfl)
theorem tag_scr {l : List (D × D)} {ns : List D} (h : tagD l = .scr ns) : l = [(.bool true, .list ns)] := by
  unfold tagD at h; split at h <;> first | (cases h; done) | (cases h; rfl)
theorem tag_obj {l fs : List (D × D)} {c : Str} (h : tagD l = .obj c fs) : l = (.str c, .none) :: fs := by
  unfold tagD at h; split at h <;> first | (cases h; done) | (cases h; rfl)

/-! ### comparisons -/
def eqM (a b : D) : M D := if SeqAt.shaped a = true ∧ SeqAt.shaped b = true then ret (.bool (PyData.eqv a b)) else bad
def neM (a b : D) : M D := if SeqAt.shaped a = true ∧ SeqAt.shaped b = true then ret (.bool (!PyData.eqv a b)) else bad
def isNon : D → Bool
  | .none => true
  | _ => false
def ltM (a b : D) : M D := if SeqAt.shaped a = true ∧ SeqAt.shaped b = true ∧ PySem.W.alike a b = true ∧ isNon a = false then ret (.bool (PySem.W.dataLt a b)) else bad
/-- tuples of ints -/
def intsD : List D → Option (List Int)
  | [] => some []
  | .int i :: ds => (intsD ds).map (i :: ·)
  | _ :: _ => none
def geI : List Int → List Int → Bool
  | _, [] => true
  | [], _ :: _ => false
  | x :: xs, y :: ys => if x = y then geI xs ys else decide (y ≤ x)
def gtM : D → D → M D
  | .int i, .int j => ret (.bool (decide (j < i)))
  | _, _ => bad
def leM : D → D → M D
  | .int i, .int j => ret (.bool (decide (i ≤ j)))
  | _, _ => bad
def geM : D → D → M D
  | .int i, .int j => ret (.bool (decide (j ≤ i)))
  | .tuple xs, .tuple ys => match intsD xs, intsD ys with
    | some ns, some ms => ret (.bool (geI ns ms))
    | _, _ => bad
  | _, _ => bad
def hasD (neg : Bool) (d : D) (xs : List D) : M D := if d.canLay0 = true ∧ PyData.canLayAll0 xs = true ∧ d.depth ≤ 60 then ret (.bool (neg != xs.any fun z => PyData.eqv z d)) else bad
def inM (neg : Bool) : D → D → M D
  | d, .list xs => hasD neg d xs
  | d, .tuple xs => hasD neg d xs
  | d, .dict l => match tagD l with
    | .dic kvs => if ((keyK d).isSome = true ∧ allK kvs = true) ∨ ((keyT d).isSome = true ∧ allT kvs = true) then ret (.bool (neg != (lookD kvs d).isSome)) else bad
    | _ => bad
  | _, _ => bad
def isM (neg : Bool) : D → D → M D
  | a, .none => ret (.bool (neg != isNon a))
  | .bool a, .bool b => ret (.bool (neg != decide (a = b)))
  | _, _ => bad
def cmpM : CmpOp → D → D → M D
  | .Eq => eqM
  | .NotEq => neM
  | .Lt => ltM
  | .LtE => leM
  | .Gt => gtM
  | .GtE => geM
  | .Is => isM false
  | .IsNot => isM true
  | .In => inM false
  | .NotIn => inM true
section
variable {X : Cx} {R : Rc} {E : XK}
theorem shaped_lay {d : D} (h : SeqAt.shaped d = true) : d.canLay0 = true := SeqAt.canLay_of_shaped h
theorem shaped_dep {d : D} (h : SeqAt.shaped d = true) : d.depth ≤ 64 := by
  unfold SeqAt.shaped at h
  rw [Bool.and_eq_true] at h
  exact of_decide_eq_true h.2
theorem cmp_eqD (hK : X.K = R.K) (hu : X.A.units + 100 < cLine) : OpR X (compareOp .Eq) (rD R E eqM) := by
  intro pins s σ H x y v u Q I rx ry ⟨g, t, a, b, ok, ha, hb, h⟩
  obtain ⟨⟨h1, h2⟩, h⟩ := W1_ite h
  exact op_eqD (by omega) pins s σ H x y v u Q I rx ry ⟨a, b, by rw [hK]; exact ha.dp ok (shaped_lay h1), by rw [hK]; exact hb.dp ok (shaped_lay h2), h1, h2, doneB ok h⟩
theorem cmp_neD (hK : X.K = R.K) (hu : X.A.units + 100 < cLine) : OpR X (compareOp .NotEq) (rD R E neM) := by
  intro pins s σ H x y v u Q I rx ry ⟨g, t, a, b, ok, ha, hb, h⟩
  obtain ⟨⟨h1, h2⟩, h⟩ := W1_ite h
  exact op_neD (by omega) pins s σ H x y v u Q I rx ry ⟨a, b, by rw [hK]; exact ha.dp ok (shaped_lay h1), by rw [hK]; exact hb.dp ok (shaped_lay h2), h1, h2, doneB ok h⟩
theorem cmp_ltD (hK : X.K = R.K) (hu : X.A.units + 100 < cLine) : OpR X (compareOp .Lt) (rD R E ltM) := by
  intro pins s σ H x y v u Q I rx ry ⟨g, t, a, b, ok, ha, hb, h⟩
  obtain ⟨⟨h1, h2, h3, h4⟩, h⟩ := W1_ite h
  obtain ⟨as, r1⟩ := Dp.reads I a x v (by rw [hK]; exact ha.dp ok (shaped_lay h1)) rx
  obtain ⟨bs, r2⟩ := Dp.reads I b y u (by rw [hK]; exact hb.dp ok (shaped_lay h2)) ry
  have q := PySem.W.rcLt_alike a b X.A s v u as bs r1 r2 h3 (fun e => by subst e; simp [isNon] at h4) (by have := shaped_dep h1; omega)
  exact q X.prog X.w X.xe _ ⟨.bl _, H, I, rfl, doneB ok h⟩
theorem cmp_gtD : OpR X (compareOp .Gt) (rD R E gtM) := by
  intro pins s σ H x y v u Q I rx ry ⟨g, t, a, b, ok, ha, hb, h⟩
  cases a <;> cases b <;> try exact (h : False).elim
  have e1 := ha.int; have e2 := hb.int; subst e1; subst e2
  exact op_gt pins s σ H _ _ v u Q I rx ry ⟨_, _, rfl, rfl, doneB ok h⟩
theorem cmp_leD : OpR X (compareOp .LtE) (rD R E leM) := by
  intro pins s σ H x y v u Q I rx ry ⟨g, t, a, b, ok, ha, hb, h⟩
  cases a <;> cases b <;> try exact (h : False).elim
  have e1 := ha.int; have e2 := hb.int; subst e1; subst e2
  exact op_le pins s σ H _ _ v u Q I rx ry ⟨_, _, rfl, rfl, doneB ok h⟩
theorem RpAll.ints {g : Gh} : ∀ {ds : List D} {xs : List V} {ns : List Int}, RpAll R g xs ds → intsD ds = some ns → xs = ns.map V.int
  | [], _, ns, r, h => by cases r; simp [intsD] at h; subst h; rfl
  | d :: ds, _, ns, r, h => by
    cases r with
    | cons r1 r2 =>
      cases d <;> simp [intsD] at h
      obtain ⟨ms, h1, rfl⟩ := h
      cases r1
      rw [RpAll.ints r2 h1]
      rfl
theorem lexAt_ge : ∀ (ns ms : List Int) (i : Nat) (f h : Nat → Bool), (∀ j, f (i + j) = decide (ns.getD j 0 = ms.getD j 0)) → (∀ j, h (i + j) = decide (ms.getD j 0 ≤ ns.getD j 0)) → Ob.lexAt f h (decide (ns.length ≥ ms.length)) i (min ns.length ms.length) = geI ns ms
  | ns, [], i, f, h, _, _ => by cases ns <;> simp [Ob.lexAt, geI]
  | [], y :: ys, i, f, h, _, _ => by simp [Ob.lexAt, geI]
  | x :: xs, y :: ys, i, f, h, hf, hh => by
    have e : min (x :: xs).length (y :: ys).length = min xs.length ys.length + 1 := by simp only [List.length_cons]; omega
    have ih := lexAt_ge xs ys (i + 1) f h (fun j => by have := hf (j + 1); rw [show i + 1 + j = i + (j + 1) by omega, this]; rfl) (fun j => by have := hh (j + 1); rw [show i + 1 + j = i + (j + 1) by omega, this]; rfl)
    have e2 : decide ((x :: xs).length ≥ (y :: ys).length) = decide (xs.length ≥ ys.length) := by simp
    rw [e, Ob.lexAt_succ, e2, ih]
    have f0 := hf 0
    have h0 := hh 0
    simp only [Nat.add_zero, List.getD_cons_zero] at f0 h0
    rw [f0, h0]
    show _ = if x = y then geI xs ys else decide (y ≤ x)
    by_cases q : x = y <;> simp [q]
theorem cmp_geD (hu : X.A.units + 100 < cLine) : OpR X (compareOp .GtE) (rD R E geM) := by
  intro pins s σ H x y v u Q I rx ry ⟨g, t, a, b, ok, ha, hb, h⟩
  cases a <;> cases b <;> try exact (h : False).elim
  case int.int =>
    have e1 := ha.int; have e2 := hb.int; subst e1; subst e2
    exact op_ge pins s σ H _ _ v u Q I rx ry ⟨_, _, rfl, rfl, doneB ok h⟩
  case tuple.tuple xs ys =>
    cases e1 : intsD xs with
    | none => simp only [geM, e1] at h; exact (h : False).elim
    | some ns =>
      cases e2 : intsD ys with
      | none => simp only [geM, e1, e2] at h; exact (h : False).elim
      | some ms =>
        simp only [geM, e1, e2] at h
        obtain ⟨p, vs, rfl, _, hp, r1⟩ := ha.tup ok
        obtain ⟨q, ws, rfl, _, hq, r2⟩ := hb.tup ok
        rw [r1.ints e1] at hp
        rw [r2.ints e2] at hq
        cases rx
        cases ry
        obtain ⟨its, i1, p1, _⟩ := I.tuple (.of hp)
        obtain ⟨its2, i2, p2, _⟩ := I.tuple (.of hq)
        have i1 : IntsAre its ns := Vals.ints i1
        have i2 : IntsAre its2 ms := Vals.ints i2
        have l1 : its.toArray.size = ns.length := by rw [List.size_toArray]; exact i1.length
        have l2 : its2.toArray.size = ms.length := by rw [List.size_toArray]; exact i2.length
        have at1 : ∀ j (h1 : j < its.toArray.size), ∃ t, its.toArray[j] = .int (ns.getD j 0) t := fun j h1 => PyProof.Rows.IntsAre.int_at i1 _ _ (by simp at h1; simp [h1])
        have at2 : ∀ j (h1 : j < its2.toArray.size), ∃ t, its2.toArray[j] = .int (ms.getD j 0) t := fun j h1 => PyProof.Rows.IntsAre.int_at i2 _ _ (by simp at h1; simp [h1])
        have R1 := Ob.RcOp.tuples_ge (A := X.A) (s := s) (e := fun j => decide (ns.getD j 0 = ms.getD j 0)) (r := fun j => decide (ms.getD j 0 ≤ ns.getD j 0)) p1 p2 (by omega) (fun j h1 h2 => by
          obtain ⟨t, et⟩ := at1 j h1
          obtain ⟨t', et'⟩ := at2 j h2
          rw [et, et']
          have z : (ns.getD j 0 == ms.getD j 0) = decide (ns.getD j 0 = ms.getD j 0) := by
            by_cases q : ns.getD j 0 = ms.getD j 0
            · rw [decide_eq_true q]; exact beq_iff_eq.mpr q
            · rw [decide_eq_false q]; exact beq_eq_false_iff_ne.mpr q
          rw [← z]
          exact SeqAt.EqAt.int_int _ _ _ _) (fun j h1 h2 _ => by
          obtain ⟨t, et⟩ := at1 j h1
          obtain ⟨t', et'⟩ := at2 j h2
          rw [et, et']
          exact Ob.RcOp.ge_int _ _ _ _)
        rw [l1, l2, lexAt_ge ns ms 0 _ _ (fun j => by rw [Nat.zero_add]) (fun j => by rw [Nat.zero_add])] at R1
        exact R1 X.prog X.w X.xe (EP X pins σ Q) ⟨.bl _, H, I, rfl, doneB ok h⟩
theorem cmp_isD : OpR X (compareOp .Is) (rD R E (isM false)) := by
  intro pins s σ H x y v u Q I rx ry ⟨g, t, a, b, ok, ha, hb, h⟩
  cases b with
  | none =>
    have e2 := hb.non; subst e2
    have hx : decide (x = V.non) = isNon a := by
      rcases ha with ha | ⟨p, rfl, _, _, o, _, b⟩
      · cases ha <;> rfl
      · cases b <;> rfl
    have h' : W1 R g H (ret (PyData.bool (isNon a)) t) (fun g' H' _ d => ∀ z, Rp R g' z d → Q z H') E := by
      have e : isM false a .none = ret (PyData.bool (isNon a)) := by cases a <;> rfl
      rw [e] at h; exact h
    exact op_isN pins s σ H _ _ v u Q I rx ry ⟨rfl, by rw [hx]; exact doneB ok h'⟩
  | bool k =>
    cases a <;> try exact (h : False).elim
    have e1 := ha.bl; have e2 := hb.bl; subst e1; subst e2
    refine op_is_bl pins s σ H _ _ v u Q I rx ry ⟨_, _, rfl, rfl, ?_⟩
    have := doneB ok h
    simpa using this
  | _ => cases a <;> exact (h : False).elim
theorem cmp_isnotD : OpR X (compareOp .IsNot) (rD R E (isM true)) := by
  intro pins s σ H x y v u Q I rx ry ⟨g, t, a, b, ok, ha, hb, h⟩
  cases b with
  | none =>
    have e2 := hb.non; subst e2
    have hx : decide (x = V.non) = isNon a := by
      rcases ha with ha | ⟨p, rfl, _, _, o, _, b⟩
      · cases ha <;> rfl
      · cases b <;> rfl
    have h' : W1 R g H (ret (PyData.bool (!isNon a)) t) (fun g' H' _ d => ∀ z, Rp R g' z d → Q z H') E := by
      have e : isM true a .none = ret (PyData.bool (!isNon a)) := by cases a <;> rfl
      rw [e] at h; exact h
    exact op_notN pins s σ H _ _ v u Q I rx ry ⟨rfl, by rw [hx]; exact doneB ok h'⟩
  | bool k =>
    cases a <;> try exact (h : False).elim
    have e1 := ha.bl; have e2 := hb.bl; subst e1; subst e2
    refine op_isnot_bl pins s σ H _ _ v u Q I rx ry ⟨_, _, rfl, rfl, ?_⟩
    have := doneB ok h
    simpa using this
  | _ => cases a <;> exact (h : False).elim
end
end Kw
namespace Kw
open PySem PySem.Spec PyProof.Rows L2

section
variable {X : Cx} {R : Rc} {E : XK}
theorem depth_room {d : D} {xs : List D} (hu : X.A.units + 100 < cLine) (h : d.depth ≤ 60) : X.A.units + 1 + min (PyData.depthAll xs) d.depth < cLine := by omega
theorem cmp_inD (hK : X.K = R.K) (hu : X.A.units + 100 < cLine) : OpR X (compareOp .In) (rD R E (inM false)) := by
  intro pins s σ H x y v u Q I rx ry ⟨g, t, a, b, ok, ha, hb, h⟩
  cases b with
  | list xs =>
    obtain ⟨⟨h1, h2, h3⟩, h⟩ := W1_ite h
    obtain ⟨as, r1⟩ := Dp.reads I a x v (by rw [hK]; exact ha.dp ok h1) rx
    obtain ⟨bs, r2⟩ := Dp.reads I (.list xs) y u (by rw [hK]; exact hb.dp ok (by simpa [PyData.canLay0] using h2)) ry
    exact SeqAt.in_list_reads r2 r1 h2 h1 (depth_room hu h3) ⟨.bl _, H, I, rfl, by simpa using doneB ok h⟩
  | tuple xs =>
    obtain ⟨⟨h1, h2, h3⟩, h⟩ := W1_ite h
    obtain ⟨as, r1⟩ := Dp.reads I a x v (by rw [hK]; exact ha.dp ok h1) rx
    obtain ⟨bs, r2⟩ := Dp.reads I (.tuple xs) y u (by rw [hK]; exact hb.dp ok (by simpa [PyData.canLay0] using h2)) ry
    exact SeqAt.in_tuple_reads r2 r1 h2 h1 (depth_room hu h3) ⟨.bl _, H, I, rfl, by simpa using doneB ok h⟩
  | dict kvs =>
    cases e : tagD kvs <;> (simp only [inM, e] at h) <;> try exact (h : False).elim
    rename_i kvs'
    obtain rfl := tag_dic e
    obtain ⟨hc, h⟩ := W1_ite h
    have h := doneB ok h
    rcases hc with ⟨hk, hall⟩ | ⟨hk, hall⟩
    · obtain ⟨k, ek⟩ := Option.isSome_iff_exists.mp hk
      obtain rfl := keyK_eq ek
      have ex := ha.keyK
      obtain ⟨p, l, ds, rfl, hp, r, rfl⟩ := hb.dicK ok hall
      cases (show u = Value.ref p from ry)
      obtain ⟨H1, I1, e1, _, back⟩ := viaK I hp
      have q := (look_gen eqv_kD k r).isSome
      refine d_in (by omega) I1 (by rw [ex]; exact DGet.k e1) rx fun s' I' => ⟨.bl _, H, back s' I', rfl, ?_⟩
      rw [q]; simpa using h
    · obtain ⟨k, ek⟩ := Option.isSome_iff_exists.mp hk
      obtain rfl := keyT_eq ek
      obtain ⟨b, rfl, eb⟩ := ha.keyT ok
      obtain ⟨p, l, ds, rfl, hp, r, rfl⟩ := hb.dicT ok hall
      cases (show u = Value.ref p from ry)
      obtain ⟨H1, I1, e1, e2, back⟩ := viaT I hp
      have q := (look_gen eqv_tD k r).isSome
      have nb : b ≠ p := by
        rcases hp with hp | ⟨hp, _⟩ <;> exact ne_of eb hp (by intro z; cases z)
      refine d_in (by omega) I1 (DGet.t e1 (by rw [e2 b nb]; exact eb)) rx fun s' I' => ⟨.bl _, H, back s' I', rfl, ?_⟩
      rw [q]; simpa using h
  | _ => cases a <;> exact (h : False).elim
theorem cmp_notinD (hK : X.K = R.K) (hu : X.A.units + 100 < cLine) : OpR X (compareOp .NotIn) (rD R E (inM true)) := by
  intro pins s σ H x y v u Q I rx ry ⟨g, t, a, b, ok, ha, hb, h⟩
  cases b with
  | list xs =>
    obtain ⟨⟨h1, h2, h3⟩, h⟩ := W1_ite h
    obtain ⟨as, r1⟩ := Dp.reads I a x v (by rw [hK]; exact ha.dp ok h1) rx
    obtain ⟨bs, r2⟩ := Dp.reads I (.list xs) y u (by rw [hK]; exact hb.dp ok (by simpa [PyData.canLay0] using h2)) ry
    exact SeqAt.notIn_list_reads r2 r1 h2 h1 (depth_room hu h3) ⟨.bl _, H, I, rfl, by simpa using doneB ok h⟩
  | tuple xs =>
    obtain ⟨⟨h1, h2, h3⟩, h⟩ := W1_ite h
    obtain ⟨as, r1⟩ := Dp.reads I a x v (by rw [hK]; exact ha.dp ok h1) rx
    obtain ⟨bs, r2⟩ := Dp.reads I (.tuple xs) y u (by rw [hK]; exact hb.dp ok (by simpa [PyData.canLay0] using h2)) ry
    exact SeqAt.notIn_tuple_reads r2 r1 h2 h1 (depth_room hu h3) ⟨.bl _, H, I, rfl, by simpa using doneB ok h⟩
  | dict kvs =>
    cases e : tagD kvs <;> (simp only [inM, e] at h) <;> try exact (h : False).elim
    rename_i kvs'
    obtain rfl := tag_dic e
    obtain ⟨hc, h⟩ := W1_ite h
    have h := doneB ok h
    rcases hc with ⟨hk, hall⟩ | ⟨hk, hall⟩
    · obtain ⟨k, ek⟩ := Option.isSome_iff_exists.mp hk
      obtain rfl := keyK_eq ek
      have ex := ha.keyK
      obtain ⟨p, l, ds, rfl, hp, r, rfl⟩ := hb.dicK ok hall
      cases (show u = Value.ref p from ry)
      obtain ⟨H1, I1, e1, _, back⟩ := viaK I hp
      have q := (look_gen eqv_kD k r).isSome
      refine d_notIn (by omega) I1 (by rw [ex]; exact DGet.k e1) rx fun s' I' => ⟨.bl _, H, back s' I', rfl, ?_⟩
      rw [q]; simpa using h
    · obtain ⟨k, ek⟩ := Option.isSome_iff_exists.mp hk
      obtain rfl := keyT_eq ek
      obtain ⟨b, rfl, eb⟩ := ha.keyT ok
      obtain ⟨p, l, ds, rfl, hp, r, rfl⟩ := hb.dicT ok hall
      cases (show u = Value.ref p from ry)
      obtain ⟨H1, I1, e1, e2, back⟩ := viaT I hp
      have q := (look_gen eqv_tD k r).isSome
      have nb : b ≠ p := by
        rcases hp with hp | ⟨hp, _⟩ <;> exact ne_of eb hp (by intro z; cases z)
      refine d_notIn (by omega) I1 (DGet.t e1 (by rw [e2 b nb]; exact eb)) rx fun s' I' => ⟨.bl _, H, back s' I', rfl, ?_⟩
      rw [q]; simpa using h
  | _ => cases a <;> exact (h : False).elim
theorem cmp_D (hK : X.K = R.K) (hu : X.A.units + 100 < cLine) (op : CmpOp) : OpR X (compareOp op) (rD R E (cmpM op)) :=
  match op with
  | .Eq => cmp_eqD hK hu
  | .NotEq => cmp_neD hK hu
  | .Lt => cmp_ltD hK hu
  | .LtE => cmp_leD
  | .Gt => cmp_gtD
  | .GtE => cmp_geD hu
  | .Is => cmp_isD
  | .IsNot => cmp_isnotD
  | .In => cmp_inD hK hu
  | .NotIn => cmp_notinD hK hu
end

/-! ### subscripts -/
def atM (xs : List D) (i : Int) : M D := ofO (atI xs i)
/-- an item of the tape -/
def tapeAt (i : Int) : M D := fun t => match t with
  | some ds => atM ds i (some ds)
  | none => .bad
def ixM : D → D → M D
  | .list xs, .int i => atM xs i
  | .tuple xs, .int i => atM xs i
  | .dict l, k => match tagD l with
    | .dic kvs => if ((keyK k).isSome = true ∧ allK kvs = true) ∨ ((keyT k).isSome = true ∧ allT kvs = true) then ofO (lookD kvs k) else bad
    | .tape => match k with
      | .int i => tapeAt i
      | _ => bad
    | .scr ns => match k with
      | .int i => atM ns i
      | _ => bad
    | _ => bad
  | _, _ => bad
theorem W1_ofO {α : Type} {R : Rc} {g : Gh} {H : Hp} {t : Tp} {E : XK} {o : Option α} {k : Gh → Hp → Tp → α → Prop} (h : W1 R g H (ofO o t) k E) : ∃ a, o = some a ∧ W1 R g H (ret a t) k E := by
  cases o with
  | none => exact h.elim
  | some a => exact ⟨a, rfl, h⟩
theorem RpAll.atI {R : Rc} {g : Gh} {vs : List V} {ds : List D} {i : Int} {d : D} (r : RpAll R g vs ds) (h : L2.atI ds i = some d) : ∃ v, L2.atI vs i = some v ∧ Rp R g v d := by
  unfold L2.atI at h ⊢
  rw [r.length]
  cases e : ixN ds.length i with
  | none => rw [e] at h; cases h
  | some j => rw [e] at h; exact r.get h
theorem atI_map {f : Int → D} : ∀ {ns : List Int} {i : Int} {d : D}, atI (ns.map f) i = some d → ∃ n, atI ns i = some n ∧ d = f n := fun {ns i d} h => by
  unfold atI at h ⊢
  rw [List.length_map] at h
  cases e : ixN ns.length i with
  | none => rw [e] at h; cases h
  | some j =>
    rw [e] at h
    have h : (ns.map f)[j]? = some d := h
    rw [List.getElem?_map] at h
    obtain ⟨n, h1, h2⟩ := Option.map_eq_some_iff.mp h
    exact ⟨n, h1, h2.symm⟩
theorem atI_mapV {ns : List Int} {i : Int} {n : Int} (h : atI ns i = some n) : atI (ns.map V.int) i = some (.int n) := by
  unfold atI at h ⊢
  rw [List.length_map]
  cases e : ixN ns.length i with
  | none => rw [e] at h; cases h
  | some j =>
    rw [e] at h
    have h : ns[j]? = some n := h
    show (ns.map V.int)[j]? = _
    rw [List.getElem?_map, h]; rfl
section
variable {X : Cx} {R : Rc} {E : XK}
theorem ix_dict {value slice : Expr} {pins : List (Addr × Obj)} {s : Shared} {σ : L2.St} {H : Hp} {a : Addr} {y : V} {u : Value} {o : V} {Q : Value → Shared → Prop} (hu : X.A.units + 100 < cLine) (I : Inv X pins σ H s) (g : DGet H a y (some o)) (ry : RelV y u)
    (hs : subscripted slice false (.ref a) u = operate [.ref a, u] (getItem (.ref a) u)) (h : ∀ w' s', Inv X pins σ H s' → RelV o w' → Q w' s') : wpAny (model X.prog X.w) X.A (subscriptTail value slice (.ref a) u) Q X.xe s := by
  have hT := dict_typeIs I g
  unfold subscriptTail
  refine wpAny_bind ?_
  rw [getitemInPython_of_ne hT.not_modules]
  refine wpAny_bind (wpAny_specialOf hT PySem.F.slot_dict_getitem.lookup ?_)
  have fin : wpAny (model X.prog X.w) X.A (subscripted slice false (.ref a) u) (fun r s₃ => wpAny (model X.prog X.w) X.A (letTemporaryGo value (.ref a) r >>= fun _ => pure r) Q X.xe s₃) X.xe s := by
    rw [hs]
    exact wpAny_operating (d_getItem (by omega) I g ry fun w' s' I' rw' => wpAny_bind (wpAny_letTemporaryGo (wpAny_pure (h w' s' I' rw'))))
  first
    | exact wpAny_pure (wpAny_bind fin)
    | exact wpAny_bind (wpAny_pure (wpAny_bind fin))
    | exact wpAny_bind fin
theorem ix_D (hK : X.K = R.K) (hu : X.A.units + 100 < cLine) : IxR X (rD R E ixM) := by
  intro value slice pins s σ H x y v u Q I rx ry ⟨g, t, a, b, ok, ha, hb, h⟩ hs
  cases a with
  | list xs =>
    cases b <;> try exact (h : False).elim
    have e2 := hb.int; subst e2
    obtain ⟨p, vs, rfl, hp, r⟩ := ha.lst ok
    obtain ⟨d, e, h⟩ := W1_ofO h
    obtain ⟨z, ez, rz⟩ := r.atI e
    exact ix_list value slice pins s σ H _ _ v u Q I rx ry ⟨p, vs, _, z, rfl, rfl, .of hp, ez, done ok h rz⟩ hs
  | tuple xs =>
    cases b <;> try exact (h : False).elim
    have e2 := hb.int; subst e2
    obtain ⟨p, vs, rfl, _, hp, r⟩ := ha.tup ok
    obtain ⟨d, e, h⟩ := W1_ofO h
    obtain ⟨z, ez, rz⟩ := r.atI e
    exact ix_tup value slice pins s σ H _ _ v u Q I rx ry ⟨p, vs, _, z, rfl, rfl, .of hp, ez, done ok h rz⟩ hs
  | dict kvs =>
    cases e : tagD kvs <;> (simp only [ixM, e] at h) <;> try exact (h : False).elim
    case dic kvs' =>
      obtain rfl := tag_dic e
      obtain ⟨hc, h⟩ := W1_ite h
      obtain ⟨d, ed, h2⟩ := W1_ofO h
      clear h
      rcases hc with ⟨hk, hall⟩ | ⟨hk, hall⟩
      · obtain ⟨k, ek⟩ := Option.isSome_iff_exists.mp hk
        obtain rfl := keyK_eq ek
        have ey := hb.keyK
        obtain ⟨p, l, ds, rfl, hp, r, rfl⟩ := ha.dicK ok hall
        cases (show v = Value.ref p from rx)
        obtain ⟨H1, I1, e1, _, back⟩ := viaK I hp
        rcases look_gen eqv_kD k r with ⟨_, q⟩ | ⟨o, d', q1, q2, q3⟩
        · rw [q] at ed; cases ed
        · rw [q2] at ed; cases ed
          exact ix_dict hu I1 (by rw [ey, ← q1]; exact DGet.k e1) ry hs fun w' s' I' rw' => ⟨o, H, back s' I', rw', done ok h2 q3⟩
      · obtain ⟨k, ek⟩ := Option.isSome_iff_exists.mp hk
        obtain rfl := keyT_eq ek
        obtain ⟨b, rfl, eb⟩ := hb.keyT ok
        obtain ⟨p, l, ds, rfl, hp, r, rfl⟩ := ha.dicT ok hall
        cases (show v = Value.ref p from rx)
        obtain ⟨H1, I1, e1, e2, back⟩ := viaT I hp
        have nb : b ≠ p := by
          rcases hp with hp | ⟨hp, _⟩ <;> exact ne_of eb hp (by intro z; cases z)
        rcases look_gen eqv_tD k r with ⟨_, q⟩ | ⟨o, d', q1, q2, q3⟩
        · rw [q] at ed; cases ed
        · rw [q2] at ed; cases ed
          exact ix_dict hu I1 (by rw [← q1]; exact DGet.t e1 (by rw [e2 b nb]; exact eb)) ry hs fun w' s' I' rw' => ⟨o, H, back s' I', rw', done ok h2 q3⟩
    case tape =>
      obtain rfl := tag_tape e
      cases b <;> try exact (h : False).elim
      rename_i i
      have e2 := hb.int; subst e2
      cases t with
      | none => exact (h : False).elim
      | some ds =>
        obtain ⟨d, ed, h⟩ := W1_ofO h
        have htp : ∃ p, x = .ref p ∧ g.tp = some p := by
          rcases ha with ha | ⟨p, _, _, _, o, _, b⟩
          · generalize hd : (PyData.dict [] : D) = d at ha
            cases ha <;> first | (simp [dicD, objD, scrD] at hd; done) | skip
            case tape p hp => exact ⟨p, rfl, hp⟩
          · generalize hd : (PyData.dict [] : D) = d at b
            cases b <;> simp [dicD, objD] at hd
        obtain ⟨p, rfl, hp⟩ := htp
        obtain ⟨ds', vs, et, _, hH, r⟩ := ok.tape p hp
        cases et
        obtain ⟨z, ez, rz⟩ := r.atI ed
        exact ix_list value slice pins s σ H _ _ v u Q I rx ry ⟨p, vs, _, z, rfl, rfl, .of hH, ez, done ok h rz⟩ hs
    case scr ns =>
      obtain rfl := tag_scr e
      cases b <;> try exact (h : False).elim
      rename_i i
      have e2 := hb.int; subst e2
      obtain ⟨d, ed, h⟩ := W1_ofO h
      have hsc : ∃ (a : Addr) (ms : List Int), x = .ref a ∧ ns = ms.map PyData.int ∧ SqL R.K H a (ms.map V.int) := by
        rcases ha with ha | ⟨p, _, _, _, o, _, b⟩
        · generalize hd : (PyData.dict [(.bool true, .list ns)] : D) = d at ha
          cases ha <;> first | (simp [dicD, objD] at hd; done) | skip
          case scr a ms hq =>
            have e : ns = ms.map PyData.int := by simpa [scrD] using hd
            exact ⟨a, ms, rfl, e, ok.sub.seq hq⟩
        · generalize hd : (PyData.dict [(.bool true, .list ns)] : D) = d at b
          cases b <;> simp [dicD, objD] at hd
      obtain ⟨p, ms, rfl, rfl, hq⟩ := hsc
      obtain ⟨n, en, rfl⟩ := atI_map ed
      exact ix_list value slice pins s σ H _ _ v u Q I rx ry ⟨p, ms.map V.int, _, .int n, rfl, rfl, by rw [hK]; exact hq, atI_mapV en, doneI ok h⟩ hs
  | _ => cases b <;> exact (h : False).elim

/-! ### slices -/
def cutD (xs : List D) (lo hi : Option Int) : List D := (xs.drop (HT.sIx xs.length 0 lo)).take (HT.sIx xs.length xs.length hi - HT.sIx xs.length 0 lo)
def sliceM (d : D) (lo hi : Option Int) : M D := match d with
  | .list xs => ret (.list (cutD xs lo hi))
  | .tuple xs => ret (.tuple (cutD xs lo hi))
  | _ => bad
def rSlD (R : Rc) (E : XK) : V → Option Int → Option Int → Hp → VK → Prop := fun x lo hi H Q => ∃ (g : Gh) (t : Tp) (a : D), GOk R g t H ∧ Rv R g H x a ∧ W1 R g H (sliceM a lo hi t) (fun g' H' _ d => ∀ z, Rp R g' z d → Q z H') E
theorem RpAll.cut {g : Gh} {vs : List V} {ds : List D} {lo hi : Option Int} (r : RpAll R g vs ds) : RpAll R g (cutV vs lo hi) (cutD ds lo hi) := by
  unfold cutV cutD
  rw [r.length]
  exact (r.drop _).take _
theorem sl_D (hK : X.K = R.K) : SlR X (rSlD R E) := by
  intro pins s σ H x v vl vu lo hi sl Q I rx hs pl pu ⟨g, t, a, ok, ha, h⟩
  cases a <;> try exact (h : False).elim
  case list xs =>
    obtain ⟨p, vs, rfl, hp, r⟩ := ha.lst ok
    exact sl_list pins s σ H _ v vl vu lo hi sl Q I rx hs pl pu ⟨p, vs, rfl, .of hp, fun q hq => doneL ok h r.cut hq⟩
  case tuple xs =>
    obtain ⟨p, vs, rfl, fp, hp, r⟩ := ha.tup ok
    refine sl_tupA pins s σ H _ v vl vu lo hi sl Q I rx hs pl pu ⟨p, vs, rfl, .of hp, fun ⟨e1, e2⟩ => ?_, fun _ q hq => doneT ok h r.cut hq⟩
    have e : cutD xs lo hi = xs := by
      unfold cutD
      rw [← r.length, e1, e2, r.length]
      simp
    have h' : W1 R g H (ret (PyData.tuple xs) t) (fun g' H' _ d => ∀ z, Rp R g' z d → Q z H') E := by
      have h2 : W1 R g H (ret (PyData.tuple (cutD xs lo hi)) t) (fun g' H' _ d => ∀ z, Rp R g' z d → Q z H') E := h
      rw [e] at h2; exact h2
    exact done ok h' (.tup fp r)
end

/-! ### truth -/
def truO : D → Option Bool
  | .none => some false
  | .bool b => some b
  | .int i => some (i != 0)
  | .list xs => some (!xs.isEmpty)
  | .tuple xs => some (!xs.isEmpty)
  | _ => none
def truM (d : D) : M Bool := ofO (truO d)
theorem RpAll.empty {R : Rc} {g : Gh} {vs : List V} {ds : List D} (r : RpAll R g vs ds) : vs.isEmpty = ds.isEmpty := by cases r <;> rfl
theorem truV_of {R : Rc} {g : Gh} {H : Hp} {t : Tp} {x : V} {a : D} {k : Bool} (ok : GOk R g t H) (ha : Rv R g H x a) (h : truO a = some k) : TruV R.K x H k := by
  cases a with
  | none => have h' : some false = some k := h; cases h'; have e := ha.non; subst e; exact (rfl : (false : Bool) = false)
  | bool b => have h' : some b = some k := h; cases h'; have e := ha.bl; subst e; exact (rfl : k = k)
  | int i => have h' : some (i != 0) = some k := h; cases h'; have e := ha.int; subst e; exact (rfl : (i != 0) = (i != 0))
  | list xs =>
    have h' : some (!xs.isEmpty) = some k := h
    cases h'
    obtain ⟨p, vs, rfl, hp, r⟩ := ha.lst ok
    exact .inl ⟨vs, .of hp, by rw [r.empty]⟩
  | tuple xs =>
    have h' : some (!xs.isEmpty) = some k := h
    cases h'
    obtain ⟨p, vs, rfl, _, hp, r⟩ := ha.tup ok
    exact .inr (.inl ⟨vs, .of hp, by rw [r.empty]⟩)
  | str z => have h' : none = some k := h; cases h'
  | dict l => have h' : none = some k := h; cases h'
end Kw
namespace Kx
open PySem PySem.W PySem.Calls PySem.SeqAt PyProof.Rows
/-! ### a list of tuples, of which some are empty, can be sorted -/
section
variable {prog : Program} {w : World} {A : Around} {E : Value → Shared → Prop} {s : Shared}
theorem below_tup {xs ys : List PyData} {a b : Value} {as bs : List Addr} {Q : Bool → Shared → Prop} (ra : Reads s.heap a (.tuple xs) as) (rb : Reads s.heap b (.tuple ys) bs) (h : alikeAll xs ys = true)
    (hu : A.units + min (PyData.tuple xs).depth (PyData.tuple ys).depth < cLine) (hq : Q (dataLt (.tuple xs) (.tuple ys)) s) : wpAny (model prog w) A (oneLt' true a b) Q E s := by
  cases ra with
  | @tuple l o vs n _ as₁ p1 p2 p3 p4 =>
    cases rb with
    | @tuple l' o' vs' n' _ bs₁ q1 q2 q3 q4 =>
      have m1 : vs.size = xs.length := by simpa using SeqAt.ReadsAll.length _ _ _ p4
      have m2 : vs'.size = ys.length := by simpa using SeqAt.ReadsAll.length _ _ _ q4
      have hin : A.in1.units + min (PyData.depthAll xs) (PyData.depthAll ys) < cLine := SeqAt.room_in hu
      rw [dataLt_tuple, ← firstLt_toks xs ys h, ← m1, ← m2] at hq
      obtain ⟨cls, dd, data, sl⟩ := o
      obtain ⟨cls2, dd2, data2, sl2⟩ := o'
      simp only at p2 p3 q2 q3
      subst p2 p3 q2 q3
      rw [oneLt'_eq]
      simp only [if_true]
      refine wpAny_bind (wpAny_cRoomFor (SeqAt.room_here hu) (wpAny_bind ?_))
      refine wpAny_callSpecialIfBound?_slot (T := "tuple") ⟨_, p1, rfl⟩ F.slot_tuple_lt ?_
      refine call_meets F.slot_tuple_lt ⟨_, p1, rfl⟩ F.entry_tuple_lt (F.args_tuple_lt_2 _ _) (SeqAt.tuple_ltAt l l' vs vs' n n' dd dd2 sl sl2 (pairEq xs ys) fun j => dataLt (xs.getD j .none) (ys.getD j .none)) ⟨p1, q1, fun j j1 j2 => ?_, fun j j1 j2 hj => ?_, ?_⟩
      · have z := eqAt_alikeAll xs ys A.in1 s vs.toList vs'.toList _ _ p4 q4 h hin j (by simpa using j1) (by simpa using j2)
        simpa using z
      · have z := rcLt_alikeAll xs ys A.in1 s vs.toList vs'.toList _ _ p4 q4 h hin j (by simpa using j1) (by simpa using j2) hj
        simpa using z
      · exact wpAny_truthy_bool hq
/-- what a value is, seen as a tuple -/
def TupIs (h : Heap) (v : Value) (f : Option Value) : Prop := ∃ a o xs n, v = .ref a ∧ h.get? a = some o ∧ o.cls = .type "tuple" ∧ o.data = .seq xs n ∧ xs[0]? = f
theorem firsts_of : ∀ {vs : List Value} {fs : List (Option Value)} {Q : List (Option Value) → Shared → Prop}, EachIs (TupIs s.heap) vs fs → Q fs s → wpAny (model prog w) A (vs.mapM firstOfTuple') Q E s
  | _, _, _, .nil, h => by rw [List.mapM_nil]; exact wpAny_pure h
  | _, _, Q, .cons (b := f) (bs := fs) ⟨a, o, xs, n, e, ho, hc, hd, hf⟩ r, h => by
    subst e
    rw [List.mapM_cons, kas_first_eq]
    refine wpAny_bind (wpAny_bind (Looks.here (show Looks _ s.heap (typeOf (.ref a)) o.cls from (Looks.ld ho).andThen .now) ?_))
    rw [hc, if_neg (by first | decide | simp)]
    refine wpAny_bind (listItems_at ho hd (wpAny_pure ?_))
    rw [hf]
    exact wpAny_bind (firsts_of (Q := fun bs s' => wpAny _ A (pure (f :: bs)) Q E s') r (wpAny_pure h))
theorem kind_mixed {vs : List Value} {fs : List (Option Value)} {Q : SortKind → Shared → Prop} (r : EachIs (TupIs s.heap) vs fs) (hn : fs.all (·.isSome) = false) (h1 : ∀ b, fs[0]? = some (some b) → Q general' s) (h2 : fs[0]? = some none → Q oneType' s) :
    wpAny (model prog w) A (keyKind' vs.toArray) Q E s := by
  obtain ⟨f, fr, rfl⟩ : ∃ f fr, fs = f :: fr := by
    cases fs with
    | nil => cases hn
    | cons f fr => exact ⟨f, fr, rfl⟩
  rw [keyKind'_eq, List.mapM_toArray, map_eq_pure_bind]
  refine wpAny_bind (wpAny_bind (firsts_of r (wpAny_pure ?_)))
  have ea : ((f :: fr).toArray.all fun x => x.isSome) = false := by rw [List.all_toArray]; exact hn
  have e0 : (f :: fr).toArray[0]? = some f := by simp
  rw [ea, e0]
  simp only [Bool.false_eq_true, if_false, Option.bind_some, id]
  cases f with
  | some b =>
    simp only [Option.isSome_some, if_true]
    exact wpAny_pure (h1 b rfl)
  | none =>
    simp only [Option.isSome_none, Bool.false_eq_true, if_false]
    rw [oneTypeOnly'_eq, List.mapM_toArray, map_eq_pure_bind]
    refine wpAny_bind (wpAny_bind (wpAny_bind (kas_mapM (r := Value.type "tuple") _ (fun v hv Q' hq => ?_) (wpAny_pure ?_))))
    · obtain ⟨f, -, a, o, xs, n, rfl, ho, hc, -, -⟩ := r.left v hv
      refine Looks.here (show Looks _ s.heap (typeOf (.ref a)) (.type "tuple") from ?_) hq
      exact hc ▸ (Looks.ld ho).andThen .now
    · cases r with
      | @cons v _ vs' _ _ _ =>
        have eb : ((List.map (fun _ => Value.type "tuple") (v :: vs')).toArray.all fun x => x == Value.type "tuple") = true := by
          simp only [List.all_toArray, List.all_map, List.all_eq_true]
          intro _ _
          exact beq_self_eq_true _
        have ec : (List.map (fun _ => Value.type "tuple") (v :: vs')).toArray[0]? = some (Value.type "tuple") := by simp
        rw [ec]
        simp only [eb, if_true]
        exact wpAny_pure (wpAny_pure (h2 rfl))
theorem tups_of {h : Heap} : ∀ {vs : List Value} {ds : List PyData}, EachIs (fun v d => ∃ as, Reads h v d as) vs ds → (∀ d ∈ ds, ∃ xs, d = .tuple xs) → ∃ fs, EachIs (TupIs h) vs fs ∧ (fs.all (·.isSome) = true → ∀ d ∈ ds, ∃ x r, d = .tuple (x :: r))
  | _, _, .nil, _ => ⟨[], .nil, fun _ d hd => absurd hd (by simp)⟩
  | _, _, .cons (b := d) (bs := ds) ⟨as, r⟩ t, ht => by
    obtain ⟨fs, h1, h2⟩ := tups_of t fun d hd => ht d (List.mem_cons_of_mem _ hd)
    obtain ⟨ys, rfl⟩ := ht d (List.mem_cons_self ..)
    cases r with
    | @tuple a o xs n _ _ ho hc hd hr =>
      refine ⟨xs[0]? :: fs, .cons ⟨a, o, xs, n, rfl, ho, hc, hd, rfl⟩ h1, fun e => ?_⟩
      rw [List.all_cons, Bool.and_eq_true] at e
      intro d hd
      rcases List.mem_cons.mp hd with rfl | hd
      · cases ys with
        | cons y ys => exact ⟨y, ys, rfl⟩
        | nil =>
          have q : xs.size = 0 := by simpa using SeqAt.ReadsAll.length _ _ _ hr
          have : xs[0]? = none := Array.getElem?_eq_none (by omega)
          rw [this] at e
          exact absurd e.1 (by simp)
      · exact h2 e.2 d hd
/-- tuples, alike, can be sorted -/
theorem sorts_tups {vs : List Value} {ds : List PyData} (e : EachIs (fun v d => ∃ as, Reads s.heap v d as) vs ds) (hal : AllAlike ds) (ht : ∀ d ∈ ds, ∃ xs, d = .tuple xs) (hu : ∀ d, d ∈ ds → A.units + d.depth < cLine) : SortsAt prog w A s (dataKind s.heap ds) vs := by
  obtain ⟨fs, r, hall⟩ := tups_of e ht
  cases ha : fs.all (·.isSome) with
  | true => exact .data e hal (.inl (hall ha)) hu
  | false =>
    have key : ∀ v, v ∈ vs → ∃ a, (dataKind s.heap ds).keyOf v = some a := fun v hv => by
      obtain ⟨d, hd, as, q⟩ := e.left v hv
      exact ⟨_, dataKind_some hal hd q⟩
    have room : ∀ {d d' : PyData}, d ∈ ds → A.units + min d.depth d'.depth < cLine := fun hd => by
      have := hu _ hd
      omega
    obtain ⟨f, fr, rfl⟩ : ∃ f fr, fs = f :: fr := by
      cases fs with
      | nil => cases ha
      | cons f fr => exact ⟨f, fr, rfl⟩
    cases f with
    | some b =>
      refine ⟨key, general', fun E' x y a c Q h1 h2 hq => ?_, fun _ E' Q hq => kind_mixed r ha (fun _ _ => hq) fun q => absurd q (by simp)⟩
      obtain ⟨d, as, hd, ra, rfl⟩ := dataKind_inv h1
      obtain ⟨d', as', hd', rb, rfl⟩ := dataKind_inv h2
      obtain ⟨xs, rfl⟩ := ht d hd
      exact oneLt_alike (f := false) (fun z => nomatch z) ra rb (hal _ hd _ hd') (fun z => nomatch z) (room hd) hq
    | none =>
      refine ⟨key, oneType', fun E' x y a c Q h1 h2 hq => ?_, fun _ E' Q hq => kind_mixed r ha (fun _ q => absurd q (by simp)) fun _ => hq⟩
      obtain ⟨d, as, hd, ra, rfl⟩ := dataKind_inv h1
      obtain ⟨d', as', hd', rb, rfl⟩ := dataKind_inv h2
      obtain ⟨xs, rfl⟩ := ht d hd
      obtain ⟨ys, rfl⟩ := ht d' hd'
      rw [keyLt'_oneType]
      exact below_tup ra rb (by simpa [alike] using hal _ hd _ hd') (room hd) hq
end
end Kx
namespace Kw
open PySem PySem.Spec PyProof.Rows L2

inductive RvAll (R : Rc) (g : Gh) (H : Hp) : List V → List D → Prop
  | nil : RvAll R g H [] []
  | cons {v : V} {vs : List V} {d : D} {ds : List D} : Rv R g H v d → RvAll R g H vs ds → RvAll R g H (v :: vs) (d :: ds)
theorem RvAll.grow {R : Rc} {g g' : Gh} {H H' : Hp} {t' : Tp} (w : Grow R g H g' H' t') : ∀ {vs : List V} {ds : List D}, RvAll R g H vs ds → RvAll R g' H' vs ds
  | _, _, .nil => .nil
  | _, _, .cons h r => .cons (h.grow w) (RvAll.grow w r)
theorem RpAll.rv {R : Rc} {g : Gh} {H : Hp} : ∀ {vs : List V} {ds : List D}, RpAll R g vs ds → RvAll R g H vs ds
  | _, _, .nil => .nil
  | _, _, .cons h r => .cons (.inl h) (RpAll.rv r)
/-- a call of a value that is known: the answer is a tree; a new list -/
def rC (R : Rc) (E : XK) (m : List D → M D) : List V → Hp → VK → Prop := fun xs H Q => ∃ (g : Gh) (t : Tp) (ds : List D), GOk R g t H ∧ RvAll R g H xs ds ∧ W1 R g H (m ds t) (fun g' H' _ d => ∀ z, Rp R g' z d → Q z H') E
def rCL (R : Rc) (E : XK) (m : List D → M (List D)) : List V → Hp → VK → Prop := fun xs H Q => ∃ (g : Gh) (t : Tp) (ds : List D), GOk R g t H ∧ RvAll R g H xs ds ∧ W1 R g H (m ds t) (fun g' H' _ es => ∀ p vs, H' p = none → RpAll R g' vs es → Q (.ref p) (upd H' p (.lst vs))) E

/-! ### the functions -/
def nameD : D → Option String
  | .none => some "NoneType"
  | .bool _ => some "bool"
  | .int _ => some "int"
  | .str _ => some "str"
  | .list _ => some "list"
  | .tuple _ => some "tuple"
  | .dict l => match tagD l with
    | .dic _ => some "dict"
    | _ => none
def isiM (T : String) (d : D) : M D := match nameD d with
  | some n => match kitB n T with
    | some b => ret (.bool b)
    | none => bad
  | none => bad
def lenM : List D → M D
  | [.list xs] => ret (.int xs.length)
  | [.tuple xs] => ret (.int xs.length)
  | [.str z] => if okLen z.length = true then ret (.int z.length) else bad
  | [.dict l] => match tagD l with
    | .dic kvs => ret (.int kvs.length)
    | .scr ns => ret (.int ns.length)
    | _ => bad
  | _ => bad
def intM : List D → M D
  | [.int i] => ret (.int i)
  | [.bool b] => ret (.int (if b then 1 else 0))
  | _ => bad
def absM : List D → M D
  | [.int i] => ret (.int (if i < 0 then -i else i))
  | _ => bad
def blsD : List D → Option (List Bool)
  | [] => some []
  | .bool b :: ds => (blsD ds).map (b :: ·)
  | .int i :: ds => (blsD ds).map ((i != 0) :: ·)
  | _ :: _ => none
def allM : List D → M D
  | [.list xs] => match blsD xs with
    | some bs => ret (.bool (bs.all id))
    | none => bad
  | _ => bad
def anyM : List D → M D
  | [.list xs] => match blsD xs with
    | some bs => ret (.bool (bs.any id))
    | none => bad
  | _ => bad
def sumM : List D → M D
  | [.list xs] => match intsD xs with
    | some ns => ret (.int ns.sum)
    | none => bad
  | _ => bad
def tupleM : List D → M D
  | [.list xs] => ret (.tuple xs)
  | [.tuple xs] => ret (.tuple xs)
  | _ => bad
def keysD (kvs : List (D × D)) : List D := kvs.map (·.1)
def listM : List D → M (List D)
  | [.list xs] => ret xs
  | [.tuple xs] => ret xs
  | [.dict l] => match tagD l with
    | .scr ns => ret ns
    | .dic kvs => ret (keysD kvs)
    | _ => bad
  | _ => bad
/-- any two can be compared; sort takes them -/
def alikeB (ds : List D) : Bool := ds.all fun d => d.canLay0 && decide (d.depth ≤ 60) && ds.all fun e => PySem.W.alike d e
def tupConsB : D → Bool
  | .tuple (_ :: _) => true
  | _ => false
def noTupB : D → Bool
  | .none => false
  | .tuple _ => false
  | _ => true
def sortB (ds : List D) : Bool := alikeB ds && (ds.all tupConsB || ds.all noTupB)
def tupB : D → Bool
  | .tuple _ => true
  | _ => false
def sortE (ds : List D) : Bool := alikeB ds && (ds.all tupB || ds.all noTupB)
def leD (a b : D) : Bool := PySem.W.dataLe false id a b
def sortL (ds : List D) : List D := ds.mergeSort leD
/-- what an iterable gives -/
def itemsD : D → Option (List D)
  | .list xs => some xs
  | .tuple xs => some xs
  | .dict l => match tagD l with
    | .dic kvs => some (keysD kvs)
    | _ => none
  | _ => none
def sortedM : List D → M (List D)
  | [d] => match itemsD d with
    | some xs => if sortE xs = true then ret (sortL xs) else bad
    | none => bad
  | _ => bad
def maxM : List D → M D
  | [.list (x :: xs)] => if alikeB (x :: xs) = true ∧ isNon x = false then ret (PySem.W.maxD x xs) else bad
  | [.tuple (x :: xs)] => if alikeB (x :: xs) = true ∧ isNon x = false then ret (PySem.W.maxD x xs) else bad
  | [.int i, .int j] => ret (.int (if j > i then j else i))
  | _ => bad
def minM : List D → M D
  | [.list (x :: xs)] => if alikeB (x :: xs) = true ∧ isNon x = false then ret (PySem.W.minD x xs) else bad
  | [.tuple (x :: xs)] => if alikeB (x :: xs) = true ∧ isNon x = false then ret (PySem.W.minD x xs) else bad
  | [.int i, .int j] => ret (.int (if j < i then j else i))
  | _ => bad

section
variable {X : Cx} {R : Rc} {E : XK} {g : Gh} {H : Hp} {t : Tp}
theorem rv1 {xs : List V} {d : D} (h : RvAll R g H xs [d]) : ∃ x, xs = [x] ∧ Rv R g H x d := by
  cases h with
  | cons h r => cases r; exact ⟨_, rfl, h⟩
theorem rv2 {xs : List V} {d e : D} (h : RvAll R g H xs [d, e]) : ∃ x y, xs = [x, y] ∧ Rv R g H x d ∧ Rv R g H y e := by
  cases h with
  | cons h r => cases r with
    | cons h' r => cases r; exact ⟨_, _, rfl, h, h'⟩
theorem scr_of {x : V} {ns : List D} (ok : GOk R g t H) (ha : Rv R g H x (.dict [(.bool true, .list ns)])) : ∃ (a : Addr) (ms : List Int), x = .ref a ∧ ns = ms.map PyData.int ∧ SqL R.K H a (ms.map V.int) := by
  rcases ha with ha | ⟨p, _, _, _, o, _, b⟩
  · generalize hd : (PyData.dict [(.bool true, .list ns)] : D) = d at ha
    cases ha <;> first | (simp [dicD, objD] at hd; done) | skip
    case scr a ms hq =>
      have e : ns = ms.map PyData.int := by simpa [scrD] using hd
      exact ⟨a, ms, rfl, e, ok.sub.seq hq⟩
  · generalize hd : (PyData.dict [(.bool true, .list ns)] : D) = d at b
    cases b <;> simp [dicD, objD] at hd
/-- a rule for a function of one argument -/
theorem cr1 {f : Value} {m : List D → M D} (hm : ∀ ds, (∀ d, ds ≠ [d]) → m ds = bad)
    (h : ∀ (pins : List (Addr × Obj)) (s : Shared) (σ : L2.St) (H : Hp) (x : V) (u : Value) (Q : VK) (g : Gh) (t : Tp) (d : D), Inv X pins σ H s → RelV x u → GOk R g t H → Rv R g H x d → W1 R g H (m [d] t) (fun g' H' _ d => ∀ z, Rp R g' z d → Q z H') E → wpAny (model X.prog X.w) X.A (call f [u]) (EP X pins σ Q) X.xe s) : CallR X f (rC R E m) := by
  intro pins s σ H xs us Q I r ⟨g, t, ds, ok, hv, w⟩
  by_cases hd : ∃ d, ds = [d]
  · obtain ⟨d, rfl⟩ := hd
    obtain ⟨x, rfl, hx⟩ := rv1 hv
    obtain ⟨u, rfl, rx⟩ := vals1 r
    exact h pins s σ H x u Q g t d I rx ok hx w
  · rw [hm ds fun d e => hd ⟨d, e⟩] at w; exact w.elim
theorem one_of {x : V} {u : Value} (r : RelV x u) : Vals [x] [u] := .cons r .nil
theorem cr_len (hK : X.K = R.K) : CallR X (.builtin "len") (rC R E lenM) := by
  refine cr1 (fun ds hd => ?_) fun pins s σ H x u Q g t d I rx ok hx h => ?_
  · match ds, hd with
    | [], _ => rfl
    | [d], hd => exact absurd rfl (hd d)
    | _ :: _ :: _, _ => unfold lenM; split <;> simp_all
  cases d <;> try exact h.elim
  case list ys =>
    obtain ⟨p, vs, rfl, hp, rr⟩ := hx.lst ok
    exact call_len_seq pins s σ H _ _ Q I (one_of rx) ⟨p, vs, rfl, .inl (.of hp), by rw [rr.length]; exact doneI ok h⟩
  case tuple ys =>
    obtain ⟨p, vs, rfl, _, hp, rr⟩ := hx.tup ok
    exact call_len_seq pins s σ H _ _ Q I (one_of rx) ⟨p, vs, rfl, .inr (.of hp), by rw [rr.length]; exact doneI ok h⟩
  case str z =>
    have e := hx.str; subst e
    obtain ⟨hz, h⟩ := W1_ite h
    exact call_len_str pins s σ H _ _ Q I (one_of rx) ⟨z, rfl, okLen_le hz, doneI ok h⟩
  case dict l =>
    cases e : tagD l <;> (simp only [lenM, e] at h) <;> try exact (h : False).elim
    case dic kvs =>
      obtain rfl := tag_dic e
      obtain ⟨a, rfl, ⟨l, ds, h1, rr, rfl⟩ | ⟨l, ds, h1, rr, rfl⟩⟩ := hx.dic ok
      · have el : ((l.map fun p => kD p.1).zip ds).length = l.length := by simp [List.length_zip, len_of_map rr]
        rw [el] at h
        exact call_lenD pins s σ H _ _ Q I (one_of rx) ⟨a, l, rfl, h1, doneI ok h⟩
      · have el : ((l.map fun p => tD p.1).zip ds).length = l.length := by simp [List.length_zip, len_of_map rr]
        rw [el] at h
        exact call_len_dT pins s σ H _ _ Q I (one_of rx) ⟨a, l, rfl, h1, doneI ok h⟩
    case scr ns =>
      obtain rfl := tag_scr e
      obtain ⟨a, ms, rfl, rfl, hq⟩ := scr_of ok hx
      exact call_len_seq pins s σ H _ _ Q I (one_of rx) ⟨a, _, rfl, .inl (by rw [hK]; exact hq), by rw [List.length_map]; rw [List.length_map] at h; exact doneI ok h⟩
theorem cr_int : CallR X (.type "int") (rC R E intM) := by
  refine cr1 (fun ds hd => ?_) fun pins s σ H x u Q g t d I rx ok hx h => ?_
  · match ds, hd with
    | [], _ => rfl
    | [d], hd => exact absurd rfl (hd d)
    | _ :: _ :: _, _ => unfold intM; split <;> simp_all
  cases d <;> try exact h.elim
  case int i =>
    have e := hx.int; subst e
    exact call_int1 pins s σ H _ _ Q I (one_of rx) (.inl ⟨i, rfl, doneI ok h⟩)
  case bool b =>
    have e := hx.bl; subst e
    exact call_int1 pins s σ H _ _ Q I (one_of rx) (.inr ⟨b, rfl, doneI ok h⟩)
theorem cr_abs : CallR X (.builtin "abs") (rC R E absM) := by
  refine cr1 (fun ds hd => ?_) fun pins s σ H x u Q g t d I rx ok hx h => ?_
  · match ds, hd with
    | [], _ => rfl
    | [d], hd => exact absurd rfl (hd d)
    | _ :: _ :: _, _ => unfold absM; split <;> simp_all
  cases d <;> try exact h.elim
  case int i =>
    have e := hx.int; subst e
    exact call_abs pins s σ H _ _ Q I (one_of rx) ⟨i, rfl, doneI ok h⟩
theorem RpAll.intsR {g : Gh} {ds : List D} {xs : List V} {ns : List Int} (r : RpAll R g xs ds) (h : intsD ds = some ns) : xs = ns.map V.int := RpAll.ints r h
theorem cr_sum (hc : X.calm = true) : CallR X (.builtin "sum") (rC R E sumM) := by
  refine cr1 (fun ds hd => ?_) fun pins s σ H x u Q g t d I rx ok hx h => ?_
  · match ds, hd with
    | [], _ => rfl
    | [d], hd => exact absurd rfl (hd d)
    | _ :: _ :: _, _ => unfold sumM; split <;> simp_all
  cases d <;> try exact h.elim
  case list ys =>
    obtain ⟨p, vs, rfl, hp, rr⟩ := hx.lst ok
    cases e : intsD ys with
    | none => simp only [sumM, e] at h; exact (h : False).elim
    | some ns =>
      simp only [sumM, e] at h
      rw [rr.ints e] at hp
      exact L2.cr_sum hc pins s σ H _ _ Q I (one_of rx) ⟨p, ns, rfl, .of hp, doneI ok h⟩
theorem cr_tuple : CallR X (.type "tuple") (rC R E tupleM) := by
  refine cr1 (fun ds hd => ?_) fun pins s σ H x u Q g t d I rx ok hx h => ?_
  · match ds, hd with
    | [], _ => rfl
    | [d], hd => exact absurd rfl (hd d)
    | _ :: _ :: _, _ => unfold tupleM; split <;> simp_all
  cases d <;> try exact h.elim
  case list ys =>
    obtain ⟨p, vs, rfl, hp, rr⟩ := hx.lst ok
    exact call_tuple_of pins s σ H _ _ Q I (one_of rx) ⟨p, vs, rfl, .inl ⟨.of hp, fun q hq => doneT ok h rr hq⟩⟩
  case tuple ys =>
    obtain ⟨p, vs, rfl, fp, hp, rr⟩ := hx.tup ok
    exact call_tuple_of pins s σ H _ _ Q I (one_of rx) ⟨p, vs, rfl, .inr ⟨.of hp, done ok h (.tup fp rr)⟩⟩
/-! all, any -/
theorem truth_items {prog : Program} {w : World} {A : Around} {bs : List Bool} {its : List Value} (e : ∀ i v, its[i]? = some v → (∃ b, v = Value.bool b ∧ bs.getD i false = b) ∨ ∃ n t, v = Value.int n t ∧ bs.getD i false = (n != 0)) :
    TruthOf prog w A (fun i v => its.toArray[i]? = some v) (fun i => bs.getD i false) := fun i v s Q E hv hq => by
  have hv' : its[i]? = some v := by simpa using hv
  have hq' : Q (bs.getD i false) s := hq
  rcases e i v hv' with ⟨b, rfl, eb⟩ | ⟨n, t, rfl, eb⟩
  · rw [eb] at hq'; exact wpAny_truthy_bool hq'
  · rw [eb] at hq'; exact truthy_int hq'
theorem bls_get {g : Gh} : ∀ {ds : List D} {xs : List V} {us : List Value} {bs : List Bool}, RpAll R g xs ds → Vals xs us → blsD ds = some bs → ∀ i v, us[i]? = some v → (∃ b, v = Value.bool b ∧ bs.getD i false = b) ∨ ∃ n t, v = Value.int n t ∧ bs.getD i false = (n != 0)
  | [], _, _, _, r, rv, _, i, v, e => by cases r; cases rv; simp at e
  | d :: ds, _, _, bs, r, rv, h, i, v, e => by
    cases r with
    | cons r1 r2 =>
      cases rv with
      | cons v1 v2 =>
        cases d <;> simp [blsD] at h
        case bool b =>
          obtain ⟨bs', h1, rfl⟩ := h
          cases r1
          cases i with
          | zero => simp at e; subst e; exact .inl ⟨b, v1, rfl⟩
          | succ i => simpa using bls_get r2 v2 h1 i v (by simpa using e)
        case int n =>
          obtain ⟨bs', h1, rfl⟩ := h
          cases r1
          obtain ⟨tk, v1⟩ := v1
          cases i with
          | zero => simp at e; subst e; exact .inr ⟨n, tk, v1, rfl⟩
          | succ i => simpa using bls_get r2 v2 h1 i v (by simpa using e)
theorem bls_len : ∀ {ds : List D} {bs : List Bool}, blsD ds = some bs → bs.length = ds.length
  | [], bs, h => by simp [blsD] at h; subst h; rfl
  | d :: ds, bs, h => by
    cases d <;> simp [blsD] at h <;> (obtain ⟨bs', h1, rfl⟩ := h; simp [bls_len h1])
theorem cr_any (hc : X.calm = true) : CallR X (.builtin "any") (rC R E anyM) := by
  refine cr1 (fun ds hd => ?_) fun pins s σ H x u Q g t d I rx ok hx h => ?_
  · match ds, hd with
    | [], _ => rfl
    | [d], hd => exact absurd rfl (hd d)
    | _ :: _ :: _, _ => unfold anyM; split <;> simp_all
  cases d <;> try exact h.elim
  case list ys =>
    obtain ⟨p, vs, rfl, hp, rr⟩ := hx.lst ok
    cases e : blsD ys with
    | none => simp only [anyM, e] at h; exact (h : False).elim
    | some bs =>
      simp only [anyM, e] at h
      cases rx
      obtain ⟨its, rv, hl, _⟩ := I.list (.of hp)
      refine call_any_walk (iter_any hl.isList fun s₂ e2 st hne => ?_)
      subst e2
      refine ⟨_, _, _, _, _, _, _, rfl, Walks.list (A := X.A.in1) (I.ok.hd hc) _ p hne its.toArray, st, truth_items (bls_get rr rv e), fun h' tk hk => ?_⟩
      refine ⟨.bl (bs.any id), H, I.kept fun b o eo => hk b o (fun hmem => ?_) (Heap.get?_push_of_some _ eo), ?_, doneB ok h⟩
      · rcases List.mem_cons.mp hmem with e1 | hmem
        · exact absurd (e1 ▸ Heap.lt_size eo) (Nat.lt_irrefl _)
        · cases hmem
      · show Value.bool _ = Value.bool _
        have hlen := rv.length
        have := bls_len e
        have := rr.length
        rw [← L2.any_range, List.size_toArray, show its.length = bs.length by omega]
theorem cr_all (hc : X.calm = true) : CallR X (.builtin "all") (rC R E allM) := by
  refine cr1 (fun ds hd => ?_) fun pins s σ H x u Q g t d I rx ok hx h => ?_
  · match ds, hd with
    | [], _ => rfl
    | [d], hd => exact absurd rfl (hd d)
    | _ :: _ :: _, _ => unfold allM; split <;> simp_all
  cases d <;> try exact h.elim
  case list ys =>
    obtain ⟨p, vs, rfl, hp, rr⟩ := hx.lst ok
    cases e : blsD ys with
    | none => simp only [allM, e] at h; exact (h : False).elim
    | some bs =>
      simp only [allM, e] at h
      cases rx
      obtain ⟨its, rv, hl, _⟩ := I.list (.of hp)
      refine call_all_walk (iter_any hl.isList fun s₂ e2 st hne => ?_)
      subst e2
      refine ⟨_, _, _, _, _, _, _, rfl, Walks.list (A := X.A.in1) (I.ok.hd hc) _ p hne its.toArray, st, truth_items (bls_get rr rv e), fun h' tk hk => ?_⟩
      refine ⟨.bl (bs.all id), H, I.kept fun b o eo => hk b o (fun hmem => ?_) (Heap.get?_push_of_some _ eo), ?_, doneB ok h⟩
      · rcases List.mem_cons.mp hmem with e1 | hmem
        · exact absurd (e1 ▸ Heap.lt_size eo) (Nat.lt_irrefl _)
        · cases hmem
      · show Value.bool _ = Value.bool _
        have hlen := rv.length
        have := bls_len e
        have := rr.length
        rw [← L2.all_range, List.size_toArray, show its.length = bs.length by omega]
/-! isinstance -/
theorem tyX_of {x : V} {d : D} {n : String} (hK : X.K = R.K) (ok : GOk R g t H) (h : Rv R g H x d) (e : nameD d = some n) : TyX X.K H x (.type n) := by
  cases d <;> simp [nameD] at e
  case none => subst e; have := h.non; subst this; exact .base .non
  case bool b => subst e; have := h.bl; subst this; exact .base (.bl b)
  case int i => subst e; have := h.int; subst this; exact .base (.int i)
  case str z => subst e; have := h.str; subst this; exact .base (.str z)
  case list xs => subst e; obtain ⟨p, vs, rfl, hp, _⟩ := h.lst ok; exact .base (.lst hp)
  case tuple xs => subst e; obtain ⟨p, vs, rfl, _, hp, _⟩ := h.tup ok; exact .base (.tup hp)
  case dict l =>
    cases q : tagD l <;> simp [q] at e
    subst e
    obtain rfl := tag_dic q
    obtain ⟨a, rfl, ⟨l, ds, h1, _⟩ | ⟨l, ds, h1, _⟩⟩ := h.dic ok
    · exact .base (.dK h1)
    · exact .base (.dT h1)
/-- isinstance(x, T), T a built-in class -/
def rIsiD (R : Rc) (E : XK) (T : String) : List V → Hp → VK → Prop := fun xs H Q => ∃ (g : Gh) (t : Tp) (x : V) (d : D), GOk R g t H ∧ xs = [x, .ty T] ∧ Rv R g H x d ∧ W1 R g H (isiM T d t) (fun g' H' _ d => ∀ z, Rp R g' z d → Q z H') E
theorem cr_isi (hK : X.K = R.K) (T : String) : CallR X (.builtin "isinstance") (rIsiD R E T) := by
  intro pins s σ H xs us Q I r ⟨g, t, x, d, ok, exs, hx, h⟩
  subst exs
  cases e : nameD d with
  | none => simp only [isiM, e] at h; exact (h : False).elim
  | some n =>
    cases e2 : kitB n T with
    | none => simp only [isiM, e, e2] at h; exact (h : False).elim
    | some b =>
      simp only [isiM, e, e2] at h
      exact call_isi pins s σ H _ us Q I r ⟨x, .ty T, .type n, .type T, b, rfl, .ty T, tyX_of hK ok hx e, kit_ty e2, doneB ok h⟩
end
end Kw
namespace Kw
open PySem PySem.Spec PyProof.Rows L2

section
variable {X : Cx} {R : Rc} {E : XK} {g : Gh} {H : Hp} {t : Tp}
theorem crl1 {f : Value} {m : List D → M (List D)} (hm : ∀ ds, (∀ d, ds ≠ [d]) → m ds = bad)
    (h : ∀ (pins : List (Addr × Obj)) (s : Shared) (σ : L2.St) (H : Hp) (x : V) (u : Value) (Q : VK) (g : Gh) (t : Tp) (d : D), Inv X pins σ H s → RelV x u → GOk R g t H → Rv R g H x d →
      W1 R g H (m [d] t) (fun g' H' _ es => ∀ p vs, H' p = none → RpAll R g' vs es → Q (.ref p) (upd H' p (.lst vs))) E → wpAny (model X.prog X.w) X.A (call f [u]) (EP X pins σ Q) X.xe s) : CallR X f (rCL R E m) := by
  intro pins s σ H xs us Q I r ⟨g, t, ds, ok, hv, w⟩
  by_cases hd : ∃ d, ds = [d]
  · obtain ⟨d, rfl⟩ := hd
    obtain ⟨x, rfl, hx⟩ := rv1 hv
    obtain ⟨u, rfl, rx⟩ := vals1 r
    exact h pins s σ H x u Q g t d I rx ok hx w
  · rw [hm ds fun d e => hd ⟨d, e⟩] at w; exact w.elim
theorem rp_ints {g : Gh} : ∀ ms : List Int, RpAll R g (ms.map V.int) (ms.map PyData.int)
  | [] => .nil
  | m :: ms => .cons (.int m) (rp_ints ms)
theorem rp_keys {g : Gh} : ∀ ks : List Key, RpAll R g (ks.map kV) (ks.map kD)
  | [] => .nil
  | .inl i :: ks => .cons (.int i) (rp_keys ks)
  | .inr s :: ks => .cons (.str s) (rp_keys ks)
theorem keys_frozen {H : Hp} {t : Tp} : ∀ {l : List (List Key × V)} {bs : List Addr} {g : Gh}, IsKeys H l bs → GOk R g t H → ∃ g1, Grow R g H g1 H t ∧ g1.tp = g.tp ∧ RpAll R g1 (bs.map V.ref) (l.map fun p => tD p.1)
  | _, _, g, .nil, ok => ⟨g, Grow.refl ok, rfl, .nil⟩
  | _, _, g, .cons h r, ok => by
    obtain ⟨g1, w1, e1, r1⟩ := Grow.tupF ok h (rp_keys _)
    obtain ⟨g2, w2, e2, r2⟩ := keys_frozen r w1.ok
    exact ⟨g2, w1.trans ok w2, e2.trans e1, .cons (r1.mono w2.le) r2⟩
theorem cr_list (hc : X.calm = true) (hK : X.K = R.K) : CallR X (.type "list") (rCL R E listM) := by
  refine crl1 (fun ds hd => ?_) fun pins s σ H x u Q g t d I rx ok hx h => ?_
  · match ds, hd with
    | [], _ => rfl
    | [d], hd => exact absurd rfl (hd d)
    | _ :: _ :: _, _ => unfold listM; split <;> simp_all
  cases d <;> try exact h.elim
  case list ys =>
    obtain ⟨p, vs, rfl, hp, rr⟩ := hx.lst ok
    exact call_list_of pins s σ H _ _ Q I (one_of rx) ⟨p, vs, rfl, .inl (.of hp), fun q hq => W1.at ok h q vs hq rr⟩
  case tuple ys =>
    obtain ⟨p, vs, rfl, _, hp, rr⟩ := hx.tup ok
    exact call_list_of pins s σ H _ _ Q I (one_of rx) ⟨p, vs, rfl, .inr (.of hp), fun q hq => W1.at ok h q vs hq rr⟩
  case dict l =>
    cases e : tagD l <;> (simp only [listM, e] at h) <;> try exact (h : False).elim
    case dic kvs =>
      obtain rfl := tag_dic e
      obtain ⟨a, rfl, ⟨l, ds, h1, rr, rfl⟩ | ⟨l, ds, h1, rr, rfl⟩⟩ := hx.dic ok
      · have el : keysD ((l.map fun p => kD p.1).zip ds) = (l.map (·.1)).map kD := by
          unfold keysD
          rw [List.map_fst_zip (by simp [len_of_map rr]), List.map_map]; rfl
        rw [el] at h
        refine call_listD hc pins s σ H _ _ Q I (one_of rx) ⟨a, l, rfl, .inl h1, fun q hq => ?_⟩
        have := W1.at ok h q ((l.map (·.1)).map kV) hq (rp_keys _)
        rw [List.map_map] at this
        exact this
      · have el : keysD ((l.map fun p => tD p.1).zip ds) = l.map fun p => tD p.1 := by
          unfold keysD
          rw [List.map_fst_zip (by simp [len_of_map rr])]
        rw [el] at h
        refine call_list_dT hc pins s σ H _ _ Q I (one_of rx) ⟨a, l, rfl, .inl h1, fun q bs hq hb => ?_⟩
        obtain ⟨g1, w, _, r1⟩ := keys_frozen hb ok
        exact h g1 H w q _ hq r1
    case scr ns =>
      obtain rfl := tag_scr e
      obtain ⟨a, ms, rfl, rfl, hq⟩ := scr_of ok hx
      exact call_list_of pins s σ H _ _ Q I (one_of rx) ⟨a, _, rfl, .inl (by rw [hK]; exact hq), fun q hq => W1.at ok h q _ hq (rp_ints ms)⟩

/-! ### sorted, max, min of data -/
theorem alikeB_iff {ds : List D} (h : alikeB ds = true) : (∀ d ∈ ds, d.canLay0 = true ∧ d.depth ≤ 60) ∧ ∀ d ∈ ds, ∀ e ∈ ds, PySem.W.alike d e = true := by
  unfold alikeB at h
  rw [List.all_eq_true] at h
  refine ⟨fun d hd => ?_, fun d hd e he => ?_⟩
  · have q := h d hd
    rw [Bool.and_eq_true, Bool.and_eq_true] at q
    exact ⟨q.1.1, of_decide_eq_true q.1.2⟩
  · have q := h d hd
    rw [Bool.and_eq_true, List.all_eq_true] at q
    exact q.2 e he
theorem sort_ok {ds : List D} (h : (ds.all tupConsB || ds.all noTupB) = true) : PySem.W.Sortable ds := by
  rw [Bool.or_eq_true, List.all_eq_true, List.all_eq_true] at h
  rcases h with h | h
  · refine .inl fun d hd => ?_
    have q := h d hd
    unfold tupConsB at q
    split at q
    · exact ⟨_, _, rfl⟩
    · cases q
  · refine .inr fun d hd => ⟨fun e => ?_, fun xs e => ?_⟩
    · have q := h d hd; subst e; simp [noTupB] at q
    · have q := h d hd; subst e; simp [noTupB] at q
/-- values with their trees, paired -/
def PrOk (g : Gh) (R : Rc) (s : Heap) (u : Value) (p : V × D) : Prop := RelV p.1 u ∧ Rp R g p.1 p.2
theorem each_of {g : Gh} {s : Heap} : ∀ {vs : List V} {ds : List D} {us : List Value}, RpAll R g vs ds → Vals vs us → PySem.W.EachIs (PrOk g R s) us (vs.zip ds)
  | _, _, _, .nil, .nil => .nil
  | _, _, _, .cons h r, .cons h' r' => .cons ⟨h', h⟩ (each_of r r')
theorem of_each {g : Gh} {s : Heap} : ∀ {us : List Value} {ps : List (V × D)}, PySem.W.EachIs (PrOk g R s) us ps → Vals (ps.map (·.1)) us ∧ RpAll R g (ps.map (·.1)) (ps.map (·.2))
  | _, _, .nil => ⟨.nil, .nil⟩
  | _, _, .cons h r => ⟨.cons h.1 (of_each r).1, .cons h.2 (of_each r).2⟩
theorem each_reads {g : Gh} {pins : List (Addr × Obj)} {σ : L2.St} {H : Hp} {s : Shared} (I : Inv X pins σ H s) (hK : X.K = R.K) (ok : GOk R g t H) : ∀ {vs : List V} {ds : List D} {us : List Value}, RpAll R g vs ds → Vals vs us → (∀ d ∈ ds, d.canLay0 = true) →
    PySem.W.EachIs (fun v (b : V × D) => ∃ as, Reads s.heap v b.2 as) us (vs.zip ds)
  | _, _, _, .nil, .nil, _ => .nil
  | _, _, _, .cons h r, .cons h' r', l => .cons (Dp.reads I _ _ _ (by rw [hK]; exact h.dp ok.sub (l _ List.mem_cons_self)) h') (each_reads I hK ok r r' fun d hd => l d (List.mem_cons_of_mem _ hd))
theorem zip_snd {g : Gh} {vs : List V} {ds : List D} (r : RpAll R g vs ds) : (vs.zip ds).map (·.2) = ds := List.map_snd_zip (Nat.le_of_eq r.length.symm)
theorem leD_map (p q : V × D) : PySem.W.dataLe false (fun b : V × D => b.2) p q = leD p.2 q.2 := rfl
theorem sort_snd {g : Gh} {vs : List V} {ds : List D} (r : RpAll R g vs ds) : ((vs.zip ds).mergeSort (PySem.W.dataLe false fun b : V × D => b.2)).map (·.2) = sortL ds := by
  unfold sortL
  rw [List.map_mergeSort (s := leD) (f := fun b : V × D => b.2) (fun a _ b _ => leD_map a b), zip_snd r]
/-- the items of an iterable, collected -/
theorem col_D {pins : List (Addr × Obj)} {σ : L2.St} {H : Hp} {s : Shared} {x : V} {u : Value} {d : D} {ds : List D} {A : Around} {Rr : List Value → Shared → Prop} {E' : Value → Shared → Prop} (hh : A.handled = none) (I : Inv X pins σ H s) (rx : RelV x u) (ok : GOk R g t H) (hx : Rv R g H x d) (hi : itemsD d = some ds)
    (h : ∀ h' tk us vs g1, (∀ b o, s.heap.get? b = some o → h'.get? b = some o) → Vals vs us → vs.length ≤ sizeLine → Grow R g H g1 H t → RpAll R g1 vs ds → Rr us { s with heap := h', toks := tk }) : wpAny (model X.prog X.w) A (collect u) Rr E' s := by
  cases d <;> simp [itemsD] at hi
  case list ys =>
    subst hi
    obtain ⟨p, vs, rfl, hp, rr⟩ := hx.lst ok
    cases rx
    obtain ⟨its, rv, ⟨o, n, ho, hc, hd, hdt⟩, hz⟩ := I.list (.of hp)
    refine wpAny_collect_seq p (.inl rfl) ho hc hdt (fun h' kp => ?_) (by rw [List.size_toArray, ← rv.length]; exact hz)
    exact h h' s.toks its vs g kp rv hz (Grow.refl ok) rr
  case tuple ys =>
    subst hi
    obtain ⟨p, vs, rfl, _, hp, rr⟩ := hx.tup ok
    cases rx
    obtain ⟨its, rv, ⟨o, ho, hc, n, hdt⟩, hz⟩ := I.tuple (.of hp)
    refine wpAny_collect_seq p (.inr rfl) ho hc hdt (fun h' kp => ?_) (by rw [List.size_toArray, ← rv.length]; exact hz)
    exact h h' s.toks its vs g kp rv hz (Grow.refl ok) rr
  case dict l =>
    cases e : tagD l <;> simp [e] at hi
    case dic kvs =>
      obtain rfl := tag_dic e
      obtain ⟨a, rfl, ⟨l, ds', h1, rr, rfl⟩ | ⟨l, ds', h1, rr, rfl⟩⟩ := hx.dic ok
      · have el : keysD ((l.map fun p => kD p.1).zip ds') = (l.map (·.1)).map kD := by
          unfold keysD
          rw [List.map_fst_zip (by simp [len_of_map rr]), List.map_map]; rfl
        rw [el] at hi
        subst hi
        cases rx
        obtain ⟨z, lo, vs, rel, dd⟩ := dk_rd I.hok (.inl h1)
        obtain ⟨ep, hat⟩ := dd.dictAt
        refine PySem.W.kdu_collect (PySem.W.kdl_dict (knd := mixKind X.prog X.w) (kvs := vs) (ep := ep) lo) hh hat (by rw [← rel.length]; exact z) fun h' tk acc hk hacc => ?_
        have hv : Vals (vs.map fun p => kV p.1) acc.toList := keys_at (by rw [Array.length_toList]; exact hacc.1) fun j v e => hacc.2 j v (by rw [← Array.getElem?_toList]; exact e)
        have ek : (vs.map fun p => kV p.1) = (l.map (·.1)).map kV := by
          rw [rel.keys, List.map_map]; rfl
        rw [ek] at hv
        exact h h' tk _ _ g hk hv (by rw [List.length_map, List.length_map]; exact z) (Grow.refl ok) (rp_keys _)
      · have el : keysD ((l.map fun p => tD p.1).zip ds') = l.map fun p => tD p.1 := by
          unfold keysD
          rw [List.map_fst_zip (by simp [len_of_map rr])]
        rw [el] at hi
        subst hi
        cases rx
        obtain ⟨z, hs, ks, pr, o, es, ep, ho, hx2, hdt, he, hn⟩ := (show ObjOk X.prog X.w H s.heap a (.dT l) from I.hok a _ h1)
        have l1 : es.size = ks.length := size_of_entries he
        have l2 : l.length = ks.length := Paired.length pr
        refine PySem.W.kdu_collect (kdl_raw hs hx2 hdt) hh ho (by omega) fun h' tk acc' kp it => ?_
        have ea : acc'.toList = ks.map fun x => Value.ref x.2.1 := by
          have hl : acc'.toList.length = ks.length := by rw [Array.length_toList, it.1]; exact l1
          apply List.ext_getElem?
          intro j
          rw [List.getElem?_map]
          cases hj : acc'.toList[j]? with
          | none =>
            have h1 := List.getElem?_eq_none_iff.mp hj
            rw [List.getElem?_eq_none (by omega)]
            all_goals rfl
          | some v =>
            obtain ⟨en, hen, hv⟩ := it.2 j v (by rw [← Array.getElem?_toList]; exact hj)
            have qe := entry_at he j
            rw [hen] at qe
            cases hb : ks[j]? with
            | none =>
              rw [hb] at qe
              exact nomatch (show some en = none from qe)
            | some b =>
              rw [hb] at qe
              have e2 : en = entryOfKey (tupleKind (mixKind X.prog X.w)) b := Option.some.inj qe
              rw [hv, e2]
              all_goals rfl
        have eb : acc'.toList = (ks.map fun x => x.2.1).map Value.ref := by rw [ea, List.map_map]; all_goals rfl
        have rv : Vals ((ks.map fun x => x.2.1).map V.ref) acc'.toList := by rw [eb]; exact vals_refs _
        obtain ⟨g1, w, _, r1⟩ := keys_frozen (isKeys_of pr) ok
        exact h h' tk _ _ g1 kp rv (by rw [List.length_map, List.length_map]; omega) w r1
theorem sorts_E {prog : Program} {w : World} {A : Around} {s : Shared} {vs : List Value} {ds : List D} (e : PySem.W.EachIs (fun v d => ∃ as, Reads s.heap v d as) vs ds) (hal : PySem.W.AllAlike ds) (h : (ds.all tupB || ds.all noTupB) = true) (hu : ∀ d, d ∈ ds → A.units + d.depth < cLine) : PySem.W.SortsAt prog w A s (PySem.W.dataKind s.heap ds) vs := by
  rw [Bool.or_eq_true] at h
  rcases h with h | h
  · refine Kx.sorts_tups e hal (fun d hd => ?_) hu
    have q := List.all_eq_true.mp h d hd
    cases d with
    | tuple xs => exact ⟨xs, rfl⟩
    | _ => cases q
  · exact .data e hal (sort_ok (by rw [h, Bool.or_true])) hu
theorem cr_sorted (hc : X.calm = true) (hK : X.K = R.K) (hu : X.A.units + 100 < cLine) : CallR X (.builtin "sorted") (rCL R E sortedM) := by
  refine crl1 (fun ds hd => ?_) fun pins s σ H x u Q g t d I rx ok hx h => ?_
  · match ds, hd with
    | [], _ => rfl
    | [d], hd => exact absurd rfl (hd d)
    | _ :: _ :: _, _ => rfl
  cases e : itemsD d with
  | none => simp only [sortedM, e] at h; exact (h : False).elim
  | some ys =>
    simp only [sortedM, e] at h
    obtain ⟨hs, h⟩ := W1_ite h
    refine Calls.call_function_entry PyProof.Rows.kind_sorted PyProof.Rows.plain_sorted PyProof.Rows.entry_sorted (PyProof.Rows.args_sorted1 _) ?_
    unfold Builtin.«sorted»
    refine wpAny_bind (m := checkCount "sorted" 1 1 _) (wpAny_pure ?_)
    refine wpAny_bind (col_D (A := X.A.in1) (I.ok.hd hc) I rx ok hx e fun h' tk us vs g1 hk rv hz w rr => ?_)
    have I1 : Inv X pins σ H { s with heap := h', toks := tk } := I.kept hk
    unfold sortE at hs
    rw [Bool.and_eq_true] at hs
    obtain ⟨h1, h2⟩ := alikeB_iff hs.1
    have hlen : us.length = (vs.zip ys).length := by rw [List.length_zip, ← rv.length, ← rr.length, Nat.min_self]
    have hul : us.length ≤ sizeLine := by rw [← rv.length]; exact hz
    refine wpAny_bind (wpAny_newList ?_ hul)
    have hoL : (h'.push (seqObj "list" us.toArray 0)).get? h'.objs.size = some (seqObj "list" us.toArray 0) := Heap.get?_push_size _ rfl
    show wpAny _ _ _ _ _ { s with heap := h'.push (seqObj "list" us.toArray 0), toks := tk }
    have kp2 : ∀ b o, h'.get? b = some o → (PySem.W.sortingHeap (h'.push (seqObj "list" us.toArray 0)) h'.objs.size us).get? b = some o := fun b o q =>
      PySem.W.sortingHeap_old (Nat.ne_of_lt (Heap.lt_size q)) (Heap.get?_push_of_some _ q)
    have er : PySem.W.EachIs (fun v (b : V × D) => ∃ as, Reads (PySem.W.sortingHeap (h'.push (seqObj "list" us.toArray 0)) h'.objs.size us) v b.2 as) us (vs.zip ys) :=
      (each_reads I1 hK w.ok rr rv fun d hd => (h1 d hd).1).mono fun _ _ ⟨as, r⟩ => ⟨as, PyProof.Rows.Reads.keeps kp2 r⟩
    have hal : PySem.W.AllAlike ((vs.zip ys).map fun b : V × D => b.2) := by rw [zip_snd rr]; exact fun d hd e he => h2 d hd e he
    refine wpAny_bind (wpAny_holding (wpAny_call_entry PyProof.Rows.slot_list_sort ⟨_, hoL, rfl⟩ PyProof.Rows.entry_list_sort
      (PySem.W.list_sort_vals (s := { s with heap := h'.push (seqObj "list" us.toArray 0), toks := tk }) (κ := PySem.W.dataKind (PySem.W.sortingHeap (h'.push (seqObj "list" us.toArray 0)) h'.objs.size us) ((vs.zip ys).map fun b : V × D => b.2)) hoL
        (sorts_E (s := { s with heap := PySem.W.sortingHeap (h'.push (seqObj "list" us.toArray 0)) h'.objs.size us, toks := tk }) (PySem.W.each_map (R := fun v d => ∃ as, Reads (PySem.W.sortingHeap (h'.push (seqObj "list" us.toArray 0)) h'.objs.size us) v d as) (fun b : V × D => b.2) er) hal (by rw [zip_snd rr]; exact hs.2)
          (PySem.W.bound_map (A := X.A.in1.in1) fun b hb => by have := (h1 b.2 (List.of_mem_zip hb).2).2; show X.A.units + 1 + 1 + _ < _; omega)) hul ⟨_, rfl, ?_⟩) (PyProof.Rows.args_list_sort _)))
    have eo := PySem.W.sortVals_data (enc := fun b : V × D => b.2) false (each_of (s := h') rr rv) er hal
    obtain ⟨q1, q2⟩ := of_each eo
    rw [sort_snd rr] at q2
    obtain ⟨e', he'⟩ := PyProof.Rows.sortedHeap_at (vs := us) (out := (PySem.W.sortVals (PySem.W.dataKind (PySem.W.sortingHeap (h'.push (seqObj "list" us.toArray 0)) h'.objs.size us) ((vs.zip ys).map fun b : V × D => b.2)) false us us).toArray) hoL
    refine wpAny_pure ⟨_, rfl, .ref h'.objs.size, upd H h'.objs.size (.lst _), I1.laid (t' := tk) (fun b u e => ?_) (Nat.le_refl _) ⟨?_, _, e', q1, he'⟩, rfl, h g1 H w _ _ (I1.hok.fresh (Nat.le_refl _)) q2⟩
    · have hb : b < h'.objs.size := Heap.lt_size e
      rw [PyProof.Rows.sortedHeap_old (Nat.ne_of_lt hb) (by rw [size_push']; exact Nat.lt_succ_of_lt hb)]
      exact Heap.get?_push_of_some _ e
    · rw [q1.length, PySem.W.sortVals_length false rfl]; exact hul

/-! ### max, min -/
theorem reads_all {pins : List (Addr × Obj)} {σ : L2.St} {H : Hp} {s : Shared} (I : Inv X pins σ H s) (hK : X.K = R.K) (ok : GOk R g t H) {vs : List V} {ds : List D} {us : List Value} (r : RpAll R g vs ds) (rv : Vals vs us) (l : PyData.canLayAll0 ds = true) : ∃ as, ReadsAll s.heap us ds as :=
  Dp.readsAll I ds vs us (by rw [hK]; exact r.dp ok.sub l) rv
theorem canAll : ∀ {ds : List D}, (∀ d ∈ ds, d.canLay0 = true) → PyData.canLayAll0 ds = true
  | [], _ => by simp [PyData.canLayAll0]
  | d :: ds, h => by simp only [PyData.canLayAll0, h d List.mem_cons_self, canAll fun e he => h e (List.mem_cons_of_mem _ he), Bool.and_self]
theorem depAll : ∀ {ds : List D}, (∀ d ∈ ds, d.depth ≤ 60) → PyData.depthAll ds ≤ 60
  | [], _ => by simp [PyData.depthAll]
  | d :: ds, h => by
    simp only [PyData.depthAll]
    have := h d List.mem_cons_self
    have := depAll fun e he => h e (List.mem_cons_of_mem _ he)
    omega
theorem alike_non {x y : D} (h : PySem.W.alike x y = true) (hx : isNon x = false) : y ≠ .none := by
  intro e; subst e
  cases x <;> simp [PySem.W.alike, isNon] at h hx
theorem alikeAll_of {x : D} {xs : List D} (h : alikeB (x :: xs) = true) (hx : isNon x = false) : PySem.W.AlikeAll (x :: xs) := by
  obtain ⟨h1, h2⟩ := alikeB_iff h
  exact ⟨fun a ha b hb => h2 a ha b hb, fun y hy => alike_non (h2 x List.mem_cons_self y hy) hx⟩
theorem minD_mem : ∀ (xs : List D) (x : D), PySem.W.minD x xs ∈ x :: xs := fun xs => by
  induction xs with
  | nil => intro x; simp [PySem.W.minD]
  | cons y ys ih =>
    intro x
    have e : PySem.W.minD x (y :: ys) = PySem.W.minD (if PySem.W.dataLt y x then y else x) ys := rfl
    rw [e]
    rcases List.mem_cons.mp (ih (if PySem.W.dataLt y x then y else x)) with h | h
    · rw [h]; split <;> simp
    · exact List.mem_cons_of_mem _ (List.mem_cons_of_mem _ h)
theorem maxD_mem : ∀ (xs : List D) (x : D), PySem.W.maxD x xs ∈ x :: xs := fun xs => by
  induction xs with
  | nil => intro x; simp [PySem.W.maxD]
  | cons y ys ih =>
    intro x
    have e : PySem.W.maxD x (y :: ys) = PySem.W.maxD (if PySem.W.dataLt x y then y else x) ys := rfl
    rw [e]
    rcases List.mem_cons.mp (ih (if PySem.W.dataLt x y then y else x)) with h | h
    · rw [h]; split <;> simp
    · exact List.mem_cons_of_mem _ (List.mem_cons_of_mem _ h)

theorem mm_done {pins : List (Addr × Obj)} {σ : L2.St} {H : Hp} {s : Shared} (I : Inv X pins σ H s) (hK : X.K = R.K) (ok : GOk R g t H) {vs : List V} {ds : List D} {us : List Value} (r : RpAll R g vs ds) (rv : Vals vs us) (hal : ∀ d ∈ ds, ∀ e ∈ ds, PySem.W.alike d e = true) (hl : ∀ d ∈ ds, d.canLay0 = true)
    {i : Nat} {v : Value} {m : D} {h' : Heap} {bs : List Addr} (hv : us[i]? = some v) (hm : m ∈ ds) (hr : Reads h' v m bs) (kp : ∀ b o, s.heap.get? b = some o → h'.get? b = some o) : ∃ z, RelV z v ∧ Rp R g z m := by
  cases e : vs[i]? with
  | none => rw [rv.none_of e] at hv; cases hv
  | some z =>
    obtain ⟨u, hu, ru⟩ := rv.get e
    rw [hv] at hu; cases hu
    obtain ⟨d, hd, rd⟩ := r.getV e
    have md : d ∈ ds := List.mem_of_getElem? hd
    obtain ⟨as, q⟩ := Dp.reads I d z v (by rw [hK]; exact rd.dp ok.sub (hl d md)) ru
    have q' := PyProof.Rows.Reads.keeps kp q
    have := PySem.W.alike_unique d m v _ _ (hal d md m hm) q' hr
    subst this
    exact ⟨z, ru, rd⟩
theorem cr_max (hc : X.calm = true) (hK : X.K = R.K) (hu : X.A.units + 100 < cLine) : CallR X (.builtin "max") (rC R E maxM) := by
  intro pins s σ H xs us Q I r ⟨g, t, ds, ok, hv, h⟩
  unfold maxM at h
  split at h
  · rename_i x xs'
    obtain ⟨⟨h1, h2⟩, h⟩ := W1_ite h
    obtain ⟨z, rfl, hz⟩ := rv1 hv
    obtain ⟨u, rfl, rz⟩ := vals1 r
    obtain ⟨p, vs, rfl, hp, rr⟩ := hz.lst ok
    cases rz
    obtain ⟨its, rv, hl, _⟩ := I.list (.of hp)
    obtain ⟨a1, a2⟩ := alikeB_iff h1
    obtain ⟨as, ra⟩ := reads_all I hK ok rr rv (canAll fun d hd => (a1 d hd).1)
    refine PySem.W.max_list_data (I.ok.hd hc) hl.isList (by simpa using ra) (alikeAll_of h1 h2) (by have := depAll fun d hd => (a1 d hd).2; omega) fun i v h' tk bs hi hr kp => ?_
    obtain ⟨z, q1, q2⟩ := mm_done I hK ok rr rv a2 (fun d hd => (a1 d hd).1) (by simpa using hi) (maxD_mem _ _) hr kp
    exact ⟨z, H, I.kept kp, q1, done ok h q2⟩
  · rename_i x xs'
    obtain ⟨⟨h1, h2⟩, h⟩ := W1_ite h
    obtain ⟨z, rfl, hz⟩ := rv1 hv
    obtain ⟨u, rfl, rz⟩ := vals1 r
    obtain ⟨p, vs, rfl, _, hp, rr⟩ := hz.tup ok
    cases rz
    obtain ⟨its, rv, hl, _⟩ := I.tuple (.of hp)
    obtain ⟨a1, a2⟩ := alikeB_iff h1
    obtain ⟨as, ra⟩ := reads_all I hK ok rr rv (canAll fun d hd => (a1 d hd).1)
    refine PySem.W.max_tuple_data (I.ok.hd hc) hl (by simpa using ra) (alikeAll_of h1 h2) (by have := depAll fun d hd => (a1 d hd).2; omega) fun i v h' tk bs hi hr kp => ?_
    obtain ⟨z, q1, q2⟩ := mm_done I hK ok rr rv a2 (fun d hd => (a1 d hd).1) (by simpa using hi) (maxD_mem _ _) hr kp
    exact ⟨z, H, I.kept kp, q1, done ok h q2⟩
  · rename_i i j
    obtain ⟨x, y, rfl, hx, hy⟩ := rv2 hv
    have e1 := hx.int; have e2 := hy.int; subst e1; subst e2
    exact call_max2 hc pins s σ H _ us Q I r ⟨i, j, rfl, doneI ok h⟩
  · exact h.elim
theorem cr_min (hc : X.calm = true) (hK : X.K = R.K) (hu : X.A.units + 100 < cLine) : CallR X (.builtin "min") (rC R E minM) := by
  intro pins s σ H xs us Q I r ⟨g, t, ds, ok, hv, h⟩
  unfold minM at h
  split at h
  · rename_i x xs'
    obtain ⟨⟨h1, h2⟩, h⟩ := W1_ite h
    obtain ⟨z, rfl, hz⟩ := rv1 hv
    obtain ⟨u, rfl, rz⟩ := vals1 r
    obtain ⟨p, vs, rfl, hp, rr⟩ := hz.lst ok
    cases rz
    obtain ⟨its, rv, hl, _⟩ := I.list (.of hp)
    obtain ⟨a1, a2⟩ := alikeB_iff h1
    obtain ⟨as, ra⟩ := reads_all I hK ok rr rv (canAll fun d hd => (a1 d hd).1)
    refine PySem.W.min_list_data (I.ok.hd hc) hl.isList (by simpa using ra) (alikeAll_of h1 h2) (by have := depAll fun d hd => (a1 d hd).2; omega) fun i v h' tk bs hi hr kp => ?_
    obtain ⟨z, q1, q2⟩ := mm_done I hK ok rr rv a2 (fun d hd => (a1 d hd).1) (by simpa using hi) (minD_mem _ _) hr kp
    exact ⟨z, H, I.kept kp, q1, done ok h q2⟩
  · rename_i x xs'
    obtain ⟨⟨h1, h2⟩, h⟩ := W1_ite h
    obtain ⟨z, rfl, hz⟩ := rv1 hv
    obtain ⟨u, rfl, rz⟩ := vals1 r
    obtain ⟨p, vs, rfl, _, hp, rr⟩ := hz.tup ok
    cases rz
    obtain ⟨its, rv, hl, _⟩ := I.tuple (.of hp)
    obtain ⟨a1, a2⟩ := alikeB_iff h1
    obtain ⟨as, ra⟩ := reads_all I hK ok rr rv (canAll fun d hd => (a1 d hd).1)
    refine PySem.W.min_tuple_data (I.ok.hd hc) hl (by simpa using ra) (alikeAll_of h1 h2) (by have := depAll fun d hd => (a1 d hd).2; omega) fun i v h' tk bs hi hr kp => ?_
    obtain ⟨z, q1, q2⟩ := mm_done I hK ok rr rv a2 (fun d hd => (a1 d hd).1) (by simpa using hi) (minD_mem _ _) hr kp
    exact ⟨z, H, I.kept kp, q1, done ok h q2⟩
  · rename_i i j
    obtain ⟨x, y, rfl, hx, hy⟩ := rv2 hv
    have e1 := hx.int; have e2 := hy.int; subst e1; subst e2
    exact call_min2 hc pins s σ H _ us Q I r ⟨i, j, rfl, doneI ok h⟩
  · exact h.elim
end
end Kw
namespace Kw
open PySem PySem.Spec PyProof.Rows L2

/-! ### denotations -/
def getV (ρ : Env) (i : Nat) : M D := match ρ[i]? with
  | some (.val d) => ret d
  | _ => bad
def getB (ρ : Env) (i : Nat) : M D := match ρ[i]? with
  | some (.val d) => ret d
  | some (.own d) => ret d
  | _ => bad
abbrev DA := Env → M (List D)
abbrev DT := Env → M Bool
def eVar (i : Nat) : DE := fun ρ => getV ρ i
def eBor (i : Nat) : DE := fun ρ => getB ρ i
def eC (d : D) : DE := fun _ => ret d
def eBin (m : D → D → M D) (a b : DE) : DE := fun ρ => bnd (a ρ) fun x => bnd (b ρ) fun y => m x y
def eUn (m : D → M D) (a : DE) : DE := fun ρ => bnd (a ρ) m
def eChain (m m' : D → D → M D) (a b c : DE) : DE := fun ρ => bnd (a ρ) fun x => bnd (b ρ) fun y => bnd (m x y) fun z => bnd (truB z) fun k => if k = true then bnd (c ρ) fun w => m' y w else ret (.bool false)
where truB : D → M Bool
  | .bool b => ret b
  | _ => bad
def eAnd (a b : DE) : DE := fun ρ => bnd (a ρ) fun x => bnd (truM x) fun k => if k = true then b ρ else ret x
def eOr (a b : DE) : DE := fun ρ => bnd (a ρ) fun x => bnd (truM x) fun k => if k = true then ret x else b ρ
def eNot (a : DE) : DE := fun ρ => bnd (a ρ) fun x => bnd (truM x) fun k => ret (.bool (!k))
def eIf (c : DT) (a b : DE) : DE := fun ρ => bnd (c ρ) fun k => if k = true then a ρ else b ρ
def tTru (a : DE) : DT := fun ρ => bnd (a ρ) truM
def tBool (a : DE) : DT := fun ρ => bnd (a ρ) eChain.truB
def tAndM (a b : DT) : DT := fun ρ => bnd (a ρ) fun k => if k = true then b ρ else ret false
def tOrM (a b : DT) : DT := fun ρ => bnd (a ρ) fun k => if k = true then ret true else b ρ
def tNotM (a : DT) : DT := fun ρ => bnd (a ρ) fun k => ret (!k)
def aNil : DA := fun _ => ret []
def aCons (a : DE) (r : DA) : DA := fun ρ => bnd (a ρ) fun x => bnd (r ρ) fun xs => ret (x :: xs)
def eTup (a : DA) : DE := fun ρ => bnd (a ρ) fun xs => ret (.tuple xs)
/-- a new list as a value -/
def eFl (a : DA) : DE := fun ρ => bnd (a ρ) fun xs => ret (.list xs)
def eCall (m : List D → M D) (a : DA) : DE := fun ρ => bnd (a ρ) m
def aCall (m : List D → M (List D)) (a : DA) : DA := fun ρ => bnd (a ρ) m
def eSlice (a : DE) (lo hi : Env → M (Option Int)) : DE := fun ρ => bnd (a ρ) fun x => bnd (lo ρ) fun l => bnd (hi ρ) fun u => sliceM x l u
def oNone : Env → M (Option Int) := fun _ => ret none
def oSome (a : DE) : Env → M (Option Int) := fun ρ => bnd (a ρ) fun x => match x with
  | .int i => ret (some i)
  | _ => bad
def fldM (f : Str) : D → M D
  | .dict l => match tagD l with
    | .obj _ fs => ofO (lookD fs (.str f))
    | _ => bad
  | _ => bad
def eRange1 (a : DE) : DA := fun ρ => bnd (a ρ) fun x => match x with
  | .int n => if -1000000000 ≤ n ∧ n ≤ 16777216 then ret ((List.range n.toNat).map fun i => .int (i : Nat)) else bad
  | _ => bad
def eRange2 (a b : DE) : DA := fun ρ => bnd (a ρ) fun x => bnd (b ρ) fun y => match x, y with
  | .int i, .int j => if -1000000000 ≤ i ∧ j ≤ 1000000000 ∧ i ≤ 1000000000 ∧ -1000000000 ≤ j ∧ j - i ≤ 16777216 then ret ((List.range (j - i).toNat).map fun k => .int (i + (k : Nat))) else bad
  | _, _ => bad

/-! ### readings -/
def wB (R : Rc) (E : XK) (f : DE) : TE := fun σ H Q => ∃ (g : Gh) (t : Tp) (ρ : Env), SRel R g t ρ σ H ∧ W1 R g H (f ρ t) (fun g' H' _ d => ∀ x, Rv R g' H' x d → Q x H') E
/-- arguments, read on the spot -/
def wAB (R : Rc) (E : XK) (f : DA) : TA := fun σ H Q => ∃ (g : Gh) (t : Tp) (ρ : Env), SRel R g t ρ σ H ∧ W1 R g H (f ρ t) (fun g' H' _ ds => ∀ xs, RvAll R g' H' xs ds → Q xs H') E
/-- a new list -/
def wL (R : Rc) (E : XK) (f : DA) : TE := fun σ H Q => ∃ (g : Gh) (t : Tp) (ρ : Env), SRel R g t ρ σ H ∧ W1 R g H (f ρ t) (fun g' H' _ ds => ∀ p vs, H' p = none → RpAll R g' vs ds → Q (.ref p) (upd H' p (.lst vs))) E
section
variable {X : Cx} {R : Rc} {E : XK} {a b c e : Expr} {es : List Expr} {fa fb fc : DE} {pos : Pos}
theorem wB_wE (h : PE X a (wE R E fa)) : PE X a (wB R E fa) := PE_imp h fun σ H Q ⟨g, t, ρ, S, w⟩ => ⟨g, t, ρ, S, w.mono fun g' H' _ d _ k x r => k x (.inl r)⟩
theorem wE_wL {f : DA} (h : PE X a (wL R E f)) : PE X a (wE R E (eFl f)) := PE_imp h fun σ H Q ⟨g, t, ρ, S, w⟩ => ⟨g, t, ρ, S, (W1.bnd S.ok w).mono fun g' H' _ d w' k p vs hp r => doneL w'.ok k r hp⟩
theorem wAB_wA {f : DA} (h : PA X es (wA R E f)) : PA X es (wAB R E f) := PA_imp h fun σ H Q ⟨g, t, ρ, S, w⟩ => ⟨g, t, ρ, S, w.mono fun g' H' _ d _ k x r => k x r.rv⟩

/-! names and constants -/
theorem SlotsOk.get {g : Gh} {H : Hp} : ∀ {ρ : Env} {σ : L2.St} {as : List Addr} {i : Nat} {sl : Slot}, SlotsOk R g H ρ σ as → ρ[i]? = some sl → ∃ v bs, σ[i]? = some v ∧ SlotOk R g H sl v bs ∧ ∀ a ∈ bs, a ∈ as
  | _, _, _, _, _, .nil, h => by simp at h
  | _, _, _, 0, _, .cons h r d, e => by simp at e; subst e; exact ⟨_, _, rfl, h, fun a ha => List.mem_append_left _ ha⟩
  | _, _, _, i + 1, _, .cons h r d, e => by
    obtain ⟨v, bs, h1, h2, h3⟩ := SlotsOk.get (i := i) r (by simpa using e)
    exact ⟨v, bs, by simpa using h1, h2, fun a ha => List.mem_append_right _ (h3 a ha)⟩
theorem pe_getV {i : Nat} {x : Str} (hN : X.N[i]? = some x) (hv : Vis X.env.scope x) (hd : (x == ("__debug__" : Str)) = false) (hcd : (x == ("__classdict__" : Str)) = false) : PE X (.Name x pos) (wE R E (eVar i)) :=
  PE_imp (pe_var hN hv hd hcd) fun σ H Q ⟨g, t, ρ, S, w⟩ => by
    cases e : ρ[i]? with
    | none => simp only [eVar, getV, e] at w; exact (w : False).elim
    | some sl =>
      cases sl <;> (simp only [eVar, getV, e] at w) <;> try exact (w : False).elim
      obtain ⟨as, sl⟩ := S.sl
      obtain ⟨v, bs, e1, h, _⟩ := sl.get e
      cases h with
      | val r => exact ⟨_, e1, W1.at S.ok w _ r⟩
theorem pe_getB {i : Nat} {x : Str} (hN : X.N[i]? = some x) (hv : Vis X.env.scope x) (hd : (x == ("__debug__" : Str)) = false) (hcd : (x == ("__classdict__" : Str)) = false) : PE X (.Name x pos) (wB R E (eBor i)) :=
  PE_imp (pe_var hN hv hd hcd) fun σ H Q ⟨g, t, ρ, S, w⟩ => by
    cases e : ρ[i]? with
    | none => simp only [eBor, getB, e] at w; exact (w : False).elim
    | some sl =>
      obtain ⟨as, sq⟩ := S.sl
      obtain ⟨v, bs, e1, h, hx⟩ := sq.get e
      clear hx
      cases h <;> (simp only [eBor, getB, e] at w) <;> try exact (w : False).elim
      case val r => exact ⟨_, e1, W1.at S.ok w _ (.inl r)⟩
      case own r => exact ⟨_, e1, W1.at S.ok w _ (.inr ⟨_, rfl, r⟩)⟩
theorem pe_cI {i : Int} {j : Nat} : PE X (.Constant (.int i) j pos) (wE R E (eC (.int i))) := PE_imp pe_int fun σ H Q ⟨g, t, ρ, S, w⟩ => W1.at S.ok w _ (.int i)
theorem pe_cB {i : Bool} {j : Nat} : PE X (.Constant (.bool i) j pos) (wE R E (eC (.bool i))) := PE_imp pe_bl fun σ H Q ⟨g, t, ρ, S, w⟩ => W1.at S.ok w _ (.bl i)
theorem pe_cN {j : Nat} : PE X (.Constant .none j pos) (wE R E (eC .none)) := PE_imp pe_non fun σ H Q ⟨g, t, ρ, S, w⟩ => W1.at S.ok w _ .non
theorem pe_cS {z : Str} {j : Nat} : PE X (.Constant (.str z) j pos) (wE R E (eC (.str z))) := PE_imp pe_str fun σ H Q ⟨g, t, ρ, S, w⟩ => W1.at S.ok w _ (.str z)

/-! operators -/
theorem two_imp {f : Value → Value → Sem Value} {m : D → D → M D} {σ : L2.St} {H : Hp} {Q : VK} (h : wE R E (eBin m fa fb) σ H Q) : tOp (rD R E m) (wB R E fa) (wB R E fb) σ H Q := by
  obtain ⟨g, t, ρ, S, w⟩ := h
  exact ⟨g, t, ρ, S, (W1.bnd S.ok w).mono fun g1 H1 t1 x w1 k v rv => ⟨g1, t1, ρ, S.grow w1, (W1.bnd w1.ok k).mono fun g2 H2 t2 y w2 k2 u ru => ⟨g2, t2, x, y, w2.ok, rv.grow w2, ru, k2⟩⟩⟩
theorem pe_binD (hK : X.K = R.K) {op : Operator} (ha : PE X a (wB R E fa)) (hb : PE X b (wB R E fb)) : PE X (.BinOp a op b pos) (wE R E (eBin (binM op) fa fb)) :=
  PE_imp (pe_op (op_binD hK op) ha hb) fun σ H Q h => two_imp (f := binaryOp op) h
theorem pe_cmpD (hK : X.K = R.K) (hu : X.A.units + 100 < cLine) {op : CmpOp} (ha : PE X a (wB R E fa)) (hb : PE X b (wB R E fb)) (hm : behindInMarks op b = false) : PE X (.Compare a [op] [b] pos) (wE R E (eBin (cmpM op) fa fb)) :=
  PE_imp (pe_cmpR (cmp_D hK hu op) ha hb hm) fun σ H Q h => two_imp (f := compareOp op) h
theorem truB_at {g : Gh} {H : Hp} {t : Tp} {z : D} {k : Gh → Hp → Tp → Bool → Prop} (ok : GOk R g t H) (w : W1 R g H (eChain.truB z t) k E) : ∃ b, z = .bool b ∧ k g H t b := by
  cases z <;> first | exact w.elim | exact ⟨_, rfl, W1.at ok w⟩
theorem pt_cmpD (hK : X.K = R.K) (hu : X.A.units + 100 < cLine) {op : CmpOp} (ha : PE X a (wB R E fa)) (hb : PE X b (wB R E fb)) (hm : behindInMarks op b = false) : PT X (.Compare a [op] [b] pos) (wT R E (tBool (eBin (cmpM op) fa fb))) :=
  PT_imp (pt_cmpR (cmp_D hK hu op) ha hb hm) fun σ H Q ⟨g, t, ρ, S, w⟩ => two_imp (f := compareOp op) ⟨g, t, ρ, S, (W1.bnd S.ok w).mono fun g' H' t' d w' k x r => by
    obtain ⟨b, rfl, q⟩ := truB_at w'.ok k
    cases r
    exact ⟨b, rfl, q⟩⟩
theorem pe_chainD (hK : X.K = R.K) (hu : X.A.units + 100 < cLine) {op op' : CmpOp} (ha : PE X a (wB R E fa)) (hb : PE X b (wB R E fb)) (hc : PE X c (wB R E fc)) (hm : behindInMarks op' c = false) : PE X (.Compare a [op, op'] [b, c] pos) (wE R E (eChain (cmpM op) (cmpM op') fa fb fc)) :=
  PE_imp (pe_chain (cmp_D hK hu op) (cmp_D hK hu op') ha hb hc (by show behindInMarks op' c = false; exact hm)) fun σ H Q ⟨g, t, ρ, S, w⟩ =>
    ⟨g, t, ρ, S, (W1.bnd S.ok w).mono fun g1 H1 t1 x w1 k v rv => ⟨g1, t1, ρ, S.grow w1, (W1.bnd w1.ok k).mono fun g2 H2 t2 y w2 k2 u ru => ⟨g2, t2, x, y, w2.ok, rv.grow w2, ru, (W1.bnd w2.ok k2).mono fun g3 H3 t3 z w3 k3 z' rz => by
      obtain ⟨b, rfl, q⟩ := truB_at w3.ok (W1.bnd w3.ok k3)
      cases rz
      refine ⟨b, rfl, ?_⟩
      cases b with
      | false => simp only [Bool.false_eq_true, if_false] at q ⊢; exact doneB w3.ok q
      | true =>
        simp only [if_true] at q ⊢
        exact ⟨g3, t3, ρ, ((S.grow w1).grow w2).grow w3, (W1.bnd w3.ok q).mono fun g4 H4 t4 c' w4 k4 x' rx' => ⟨g4, t4, y, c', w4.ok, (ru.grow w3).grow w4, rx', k4⟩⟩⟩⟩⟩
theorem pe_negD (ha : PE X a (wB R E fa)) : PE X (.UnaryOp .USub a pos) (wE R E (eUn negM fa)) :=
  PE_imp (pe_un (r := rU1 R E negM) un_negD ha) fun σ H Q ⟨g, t, ρ, S, w⟩ => ⟨g, t, ρ, S, (W1.bnd S.ok w).mono fun g' H' t' d w' k x r => ⟨g', t', d, w'.ok, r, k⟩⟩
theorem truM_at {g : Gh} {H : Hp} {t : Tp} {z : D} {k : Gh → Hp → Tp → Bool → Prop} (ok : GOk R g t H) (w : W1 R g H (truM z t) k E) : ∃ b, truO z = some b ∧ k g H t b := by
  obtain ⟨b, e, w⟩ := W1_ofO w
  exact ⟨b, e, W1.at ok w⟩
theorem pe_notD (hK : X.K = R.K) (ha : PE X a (wB R E fa)) : PE X (.UnaryOp .Not a pos) (wE R E (eNot fa)) :=
  PE_imp (pe_notT ha) fun σ H Q ⟨g, t, ρ, S, w⟩ => ⟨g, t, ρ, S, (W1.bnd S.ok w).mono fun g' H' t' d w' k x r => by
    obtain ⟨b, e, q⟩ := truM_at w'.ok (W1.bnd w'.ok k)
    exact ⟨b, by rw [hK]; exact truV_of w'.ok r e, doneB w'.ok q⟩⟩
theorem pe_andD (hK : X.K = R.K) (ha : PE X a (wE R E fa)) {rest : List Expr} (hb : PE X (.BoolOp .And (b :: rest) pos) (wE R E fb)) : PE X (.BoolOp .And (a :: b :: rest) pos) (wE R E (eAnd fa fb)) :=
  PE_imp (pe_andT ha hb) fun σ H Q ⟨g, t, ρ, S, w⟩ => ⟨g, t, ρ, S, (W1.bnd S.ok w).mono fun g' H' t' d w' k x r => by
    obtain ⟨b, e, q⟩ := truM_at w'.ok (W1.bnd w'.ok k)
    refine ⟨b, by rw [hK]; exact truV_of w'.ok (.inl r) e, ?_⟩
    cases b with
    | true => simp only [if_true] at q ⊢; exact ⟨g', t', ρ, S.grow w', q⟩
    | false => simp only [Bool.false_eq_true, if_false] at q ⊢; exact done w'.ok q r⟩
theorem pe_orD (hK : X.K = R.K) (ha : PE X a (wE R E fa)) {rest : List Expr} (hb : PE X (.BoolOp .Or (b :: rest) pos) (wE R E fb)) : PE X (.BoolOp .Or (a :: b :: rest) pos) (wE R E (eOr fa fb)) :=
  PE_imp (pe_orT ha hb) fun σ H Q ⟨g, t, ρ, S, w⟩ => ⟨g, t, ρ, S, (W1.bnd S.ok w).mono fun g' H' t' d w' k x r => by
    obtain ⟨b, e, q⟩ := truM_at w'.ok (W1.bnd w'.ok k)
    refine ⟨b, by rw [hK]; exact truV_of w'.ok (.inl r) e, ?_⟩
    cases b with
    | false => simp only [Bool.false_eq_true, if_false] at q ⊢; exact ⟨g', t', ρ, S.grow w', q⟩
    | true => simp only [if_true] at q ⊢; exact done w'.ok q r⟩
theorem pe_oneD {op : BoolOp} (ha : PE X a (wE R E fa)) : PE X (.BoolOp op [a] pos) (wE R E fa) := pe_one ha
/-! tests -/
variable {ta tb : DT}
theorem pt_truD (hK : X.K = R.K) (ha : PE X a (wB R E fa)) (he : ∀ whole, isTrue a X.env whole = (do let v ← whole; standAt a.pos; holding [v] (truthy v))) : PT X a (wT R E (tTru fa)) :=
  PT_imp (pt_truth ha he) fun σ H Q ⟨g, t, ρ, S, w⟩ => ⟨g, t, ρ, S, (W1.bnd S.ok w).mono fun g' H' t' d w' k x r => by
    obtain ⟨b, e, q⟩ := truM_at w'.ok k
    exact ⟨b, by rw [hK]; exact truV_of w'.ok r e, q⟩⟩
theorem pt_notD (ha : PT X a (wT R E ta)) : PT X (.UnaryOp .Not a pos) (wT R E (tNotM ta)) :=
  PT_imp (pt_not ha) fun σ H Q ⟨g, t, ρ, S, w⟩ => ⟨g, t, ρ, S, (W1.bnd S.ok w).mono fun g' H' t' d w' k => W1.at w'.ok k⟩
theorem PW_imp {t t' : TT} (h : PW X a t) (i : ∀ σ H Q, t' σ H Q → t σ H Q) : PW X a t' := ⟨fun wh pins s σ H Q I w => h.run wh pins s σ H Q I (i σ H Q w)⟩
theorem pw_andD (ha : PT X a (wT R E ta)) {rest : List Expr} (hb : PW X (.BoolOp .And (b :: rest) pos) (wT R E tb)) : PW X (.BoolOp .And (a :: b :: rest) pos) (wT R E (tAndM ta tb)) :=
  PW_imp (pw_and ha hb) fun σ H Q ⟨g, t, ρ, S, w⟩ => ⟨g, t, ρ, S, (W1.bnd S.ok w).mono fun g' H' t' k w' q => by
    cases k with
    | true => simp only [if_true] at q ⊢; exact ⟨g', t', ρ, S.grow w', q⟩
    | false => simp only [Bool.false_eq_true, if_false] at q ⊢; exact W1.at w'.ok q⟩
theorem pw_orD (ha : PT X a (wT R E ta)) {rest : List Expr} (hb : PW X (.BoolOp .Or (b :: rest) pos) (wT R E tb)) : PW X (.BoolOp .Or (a :: b :: rest) pos) (wT R E (tOrM ta tb)) :=
  PW_imp (pw_or ha hb) fun σ H Q ⟨g, t, ρ, S, w⟩ => ⟨g, t, ρ, S, (W1.bnd S.ok w).mono fun g' H' t' k w' q => by
    cases k with
    | false => simp only [Bool.false_eq_true, if_false] at q ⊢; exact ⟨g', t', ρ, S.grow w', q⟩
    | true => simp only [if_true] at q ⊢; exact W1.at w'.ok q⟩
theorem pe_ifD (hc : PT X c (wT R E ta)) (ha : PE X a (wE R E fa)) (hb : PE X b (wE R E fb)) : PE X (.IfExp c a b pos) (wE R E (eIf ta fa fb)) :=
  PE_imp (pe_ifExp hc ha hb) fun σ H Q ⟨g, t, ρ, S, w⟩ => ⟨g, t, ρ, S, (W1.bnd S.ok w).mono fun g' H' t' k w' q => by
    cases k with
    | true => simp only [if_true] at q ⊢; exact ⟨g', t', ρ, S.grow w', q⟩
    | false => simp only [Bool.false_eq_true, if_false] at q ⊢; exact ⟨g', t', ρ, S.grow w', q⟩⟩

/-! argument lists, displays -/
variable {ga : DA}
theorem pa_nilD : PA X [] (wA R E aNil) := PA_imp pa_nil fun σ H Q ⟨g, t, ρ, S, w⟩ => W1.at S.ok w _ .nil
theorem pa_consD (ha : PE X e (wE R E fa)) (hr : PA X es (wA R E ga)) (hs : starEach (e :: es) X.env = (false, eval e X.env) :: starEach es X.env) : PA X (e :: es) (wA R E (aCons fa ga)) :=
  PA_imp (pa_cons ha hr hs) fun σ H Q ⟨g, t, ρ, S, w⟩ => ⟨g, t, ρ, S, (W1.bnd S.ok w).mono fun g1 H1 t1 x w1 k v rv => ⟨g1, t1, ρ, S.grow w1, (W1.bnd w1.ok k).mono fun g2 H2 t2 xs w2 k2 vs rvs => W1.at w2.ok k2 _ (.cons (rv.mono w2.le) rvs)⟩⟩
theorem pa_nilB : PA X [] (wAB R E aNil) := PA_imp pa_nil fun σ H Q ⟨g, t, ρ, S, w⟩ => W1.at S.ok w _ .nil
theorem pa_consB (ha : PE X e (wB R E fa)) (hr : PA X es (wAB R E ga)) (hs : starEach (e :: es) X.env = (false, eval e X.env) :: starEach es X.env) : PA X (e :: es) (wAB R E (aCons fa ga)) :=
  PA_imp (pa_cons ha hr hs) fun σ H Q ⟨g, t, ρ, S, w⟩ => ⟨g, t, ρ, S, (W1.bnd S.ok w).mono fun g1 H1 t1 x w1 k v rv => ⟨g1, t1, ρ, S.grow w1, (W1.bnd w1.ok k).mono fun g2 H2 t2 xs w2 k2 vs rvs => W1.at w2.ok k2 _ (.cons (rv.grow w2) rvs)⟩⟩
theorem pe_tupD {x1 : Nat} (h : PA X es (wA R E ga)) (hl : ∀ ρ t xs t', ga ρ t = .ok xs t' → xs.length ≤ sizeLine) : PE X (.Tuple es x1 pos) (wE R E (eTup ga)) :=
  PE_imp (pe_tup h) fun σ H Q ⟨g, t, ρ, S, w⟩ => ⟨g, t, ρ, S, by
    have w' := W1.bnd S.ok w
    revert w'
    cases e : ga ρ t with
    | ok xs t' => exact fun w' g' H' q xs' r => ⟨by rw [r.length]; exact hl _ _ _ _ e, fun p hp => doneT q.ok (w' g' H' q) r hp⟩
    | exc c d t' => exact fun w' => w'
    | bad => exact fun w' => w'⟩
theorem pe_lstD (h : PA X es (wA R E ga)) (hl : ∀ ρ t xs t', ga ρ t = .ok xs t' → xs.length ≤ sizeLine) : PE X (.List es pos) (wL R E ga) :=
  PE_imp (pe_lst h) fun σ H Q ⟨g, t, ρ, S, w⟩ => ⟨g, t, ρ, S, by
    revert w
    cases e : ga ρ t with
    | ok xs t' => exact fun w g' H' q xs' r => ⟨by rw [r.length]; exact hl _ _ _ _ e, fun p hp => w g' H' q p xs' hp r⟩
    | exc c d t' => exact fun w => w
    | bad => exact fun w => w⟩

/-! calls of built-ins -/
theorem pe_bltD {x : Str} {id : String} {p : Pos} {m : List D → M D} (hc : CallR X (.builtin id) (rC R E m)) (hg : Gl X x) (hm : X.mg x = none) (hv : bootBuiltins x = some (.builtin id)) (ha : PA X (e :: es) (wAB R E ga)) (hn : x ≠ "__name__") (hdb : (x == ("__debug__" : Str)) = false)
    (he : starEach (e :: es) X.env = (false, eval e X.env) :: starEach es X.env) (hpl : (backTo pos (starEach es X.env)).any (·.1) = false) : PE X (.Call (.Name x p) (e :: es) [] pos) (wE R E (eCall m ga)) :=
  PE_imp (pe_callB hc hg hm hv ha hn hdb he hpl) fun σ H Q ⟨g, t, ρ, S, w⟩ => ⟨g, t, ρ, S, (W1.bnd S.ok w).mono fun g' H' t' ds w' k vs r => ⟨g', t', ds, w'.ok, r, k⟩⟩
theorem pe_bltL {x : Str} {id : String} {p : Pos} {m : List D → M (List D)} (hc : CallR X (.builtin id) (rCL R E m)) (hg : Gl X x) (hm : X.mg x = none) (hv : bootBuiltins x = some (.builtin id)) (ha : PA X (e :: es) (wAB R E ga)) (hn : x ≠ "__name__") (hdb : (x == ("__debug__" : Str)) = false)
    (he : starEach (e :: es) X.env = (false, eval e X.env) :: starEach es X.env) (hpl : (backTo pos (starEach es X.env)).any (·.1) = false) : PE X (.Call (.Name x p) (e :: es) [] pos) (wL R E (aCall m ga)) :=
  PE_imp (pe_callB hc hg hm hv ha hn hdb he hpl) fun σ H Q ⟨g, t, ρ, S, w⟩ => ⟨g, t, ρ, S, (W1.bnd S.ok w).mono fun g' H' t' ds w' k vs r => ⟨g', t', ds, w'.ok, r, k⟩⟩
theorem pe_typD {x : Str} {T : String} {p : Pos} {m : List D → M D} (hc : CallR X (.type T) (rC R E m)) (hg : Gl X x) (hm : X.mg x = none) (hv : bootBuiltins x = some (.type T)) (ha : PA X (e :: es) (wAB R E ga)) (hn : x ≠ "__name__") (hdb : (x == ("__debug__" : Str)) = false)
    (he : starEach (e :: es) X.env = (false, eval e X.env) :: starEach es X.env) (hpl : (backTo pos (starEach es X.env)).any (·.1) = false) : PE X (.Call (.Name x p) (e :: es) [] pos) (wE R E (eCall m ga)) :=
  PE_imp (pe_callTy hc hg hm hv ha hn hdb he hpl) fun σ H Q ⟨g, t, ρ, S, w⟩ => ⟨g, t, ρ, S, (W1.bnd S.ok w).mono fun g' H' t' ds w' k vs r => ⟨g', t', ds, w'.ok, r, k⟩⟩
theorem pe_typL {x : Str} {T : String} {p : Pos} {m : List D → M (List D)} (hc : CallR X (.type T) (rCL R E m)) (hg : Gl X x) (hm : X.mg x = none) (hv : bootBuiltins x = some (.type T)) (ha : PA X (e :: es) (wAB R E ga)) (hn : x ≠ "__name__") (hdb : (x == ("__debug__" : Str)) = false)
    (he : starEach (e :: es) X.env = (false, eval e X.env) :: starEach es X.env) (hpl : (backTo pos (starEach es X.env)).any (·.1) = false) : PE X (.Call (.Name x p) (e :: es) [] pos) (wL R E (aCall m ga)) :=
  PE_imp (pe_callTy hc hg hm hv ha hn hdb he hpl) fun σ H Q ⟨g, t, ρ, S, w⟩ => ⟨g, t, ρ, S, (W1.bnd S.ok w).mono fun g' H' t' ds w' k vs r => ⟨g', t', ds, w'.ok, r, k⟩⟩
/-! subscripts, slices, fields -/
theorem pe_ixD (hK : X.K = R.K) (hu : X.A.units + 100 < cLine) (ha : PE X a (wB R E fa)) (hb : PE X b (wB R E fb)) (hs : PlainIx b) : PE X (.Subscript a b pos) (wE R E (eBin ixM fa fb)) :=
  PE_imp (pe_ix (ix_D hK hu) ha hb hs) fun σ H Q h => two_imp (f := getItem) h
def wO (R : Rc) (E : XK) (f : Env → M (Option Int)) : TO := fun σ H Q => ∃ (g : Gh) (t : Tp) (ρ : Env), SRel R g t ρ σ H ∧ W1 R g H (f ρ t) (fun _ H' _ o => Q o H') E
theorem PO_imp {o : Option Expr} {t t' : TO} (h : PO X o t) (i : ∀ σ H Q, t' σ H Q → t σ H Q) : PO X o t' := ⟨fun pins s σ H Q I w => h.run pins s σ H Q I (i σ H Q w)⟩
theorem po_noneD : PO X none (wO R E oNone) := PO_imp po_none fun σ H Q ⟨g, t, ρ, S, w⟩ => W1.at S.ok w
theorem po_someD (ha : PE X a (wB R E fa)) : PO X (some a) (wO R E (oSome fa)) := PO_imp (po_some ha) fun σ H Q ⟨g, t, ρ, S, w⟩ => ⟨g, t, ρ, S, (W1.bnd S.ok w).mono fun g' H' t' d w' k x r => by
  cases d <;> try exact (k : False).elim
  exact ⟨_, r.int, W1.at w'.ok k⟩⟩
theorem pe_sliceD (hK : X.K = R.K) {lo hi : Option Expr} {fl fh : Env → M (Option Int)} {p2 : Pos} (ha : PE X a (wB R E fa)) (hl : PO X lo (wO R E fl)) (hh : PO X hi (wO R E fh)) : PE X (.Subscript a (.Slice lo hi none p2) pos) (wE R E (eSlice fa fl fh)) :=
  PE_imp (pe_slice (sl_D hK) ha hl hh) fun σ H Q ⟨g, t, ρ, S, w⟩ => ⟨g, t, ρ, S, (W1.bnd S.ok w).mono fun g1 H1 t1 x w1 k v rv => ⟨g1, t1, ρ, S.grow w1, (W1.bnd w1.ok k).mono fun g2 H2 t2 l w2 k2 => ⟨g2, t2, ρ, (S.grow w1).grow w2, (W1.bnd w2.ok k2).mono fun g3 H3 t3 u w3 k3 => ⟨g3, t3, x, w3.ok, (rv.grow w2).grow w3, k3⟩⟩⟩⟩
/-- a class's facts for a field -/
def FldOk (R : Rc) (f : Str) : Prop := ∀ c C, R.cl c = some C → Cls R.K C ∧ NoAttr R.K C f
theorem Rv.obj {g : Gh} {H : Hp} {t : Tp} {x : V} {cn : Str} {fs : List (D × D)} (ok : GOk R g t H) (h : Rv R g H x (.dict ((.str cn, .none) :: fs))) : ∃ p C dx l ds, x = .ref p ∧ H p = some (.ins C dx l) ∧ R.cl cn = some C ∧ RpAll R g (l.map (·.2)) ds ∧ fs = (l.map fun q => PyData.str q.1).zip ds := by
  rcases h with h | ⟨p, e, _, _, o, ho, b⟩
  · generalize hd : (PyData.dict ((.str cn, .none) :: fs) : D) = d at h
    cases h <;> first | (simp [dicD, scrD] at hd; done) | skip
    case ins a C dx c' l ds hq hc r =>
      simp only [objD, PyData.dict.injEq, List.cons.injEq, Prod.mk.injEq, PyData.str.injEq, and_true] at hd
      obtain ⟨rfl, rfl⟩ := hd
      exact ⟨a, C, dx, l, ds, rfl, ok.sub _ _ hq, hc, r, rfl⟩
  · generalize hd : (PyData.dict ((.str cn, .none) :: fs) : D) = d at b
    cases b <;> first | (simp [dicD] at hd; done) | skip
    case ins C dx c' l ds hc r =>
      simp only [objD, PyData.dict.injEq, List.cons.injEq, Prod.mk.injEq, PyData.str.injEq, and_true] at hd
      obtain ⟨rfl, rfl⟩ := hd
      exact ⟨p, C, dx, l, ds, e, ho, hc, r, rfl⟩
theorem fld_look {g : Gh} (f : Str) : ∀ {l : List (Str × V)} {ds : List D} {d : D}, RpAll R g (l.map (·.2)) ds → lookD ((l.map fun q => PyData.str q.1).zip ds) (.str f) = some d → ∃ v, l.lookup f = some v ∧ Rp R g v d
  | [], _, _, r, h => by simp [lookD] at h
  | (n, v) :: l, _, d, r, h => by
    cases r with
    | cons r1 r2 =>
      rename_i d0 ds
      by_cases e : n = f
      · subst e
        have q : some d0 = some d := by
          rw [← h]
          simp [lookD, List.find?_cons, PyData.eqv]
        cases q
        exact ⟨v, by simp [List.lookup], r1⟩
      · have q : lookD ((l.map fun q => PyData.str q.1).zip ds) (.str f) = some d := by
          rw [← h]
          have : (n == f) = false := beq_eq_false_iff_ne.mpr e
          simp [lookD, List.find?_cons, PyData.eqv, this]
        obtain ⟨v', h1, h2⟩ := fld_look f r2 q
        refine ⟨v', ?_, h2⟩
        have : (f == n) = false := beq_eq_false_iff_ne.mpr fun z => e z.symm
        simp only [List.lookup, this]
        exact h1
theorem pe_fldD (hK : X.K = R.K) {f : Str} (ha : PE X a (wB R E fa)) (hf : FldOk R f) (hb : attributeBase a f X.env (eval a X.env) = eval a X.env) : PE X (.Attribute a f pos) (wE R E (eUn (fldM f) fa)) :=
  PE_imp (pe_fld ha hb) fun σ H Q ⟨g, t, ρ, S, w⟩ => ⟨g, t, ρ, S, (W1.bnd S.ok w).mono fun g' H' t' d w' k x r => by
    cases d <;> try exact (k : False).elim
    rename_i l
    cases e : tagD l <;> (simp only [fldM, e] at k) <;> try exact (k : False).elim
    rename_i cn fs
    obtain rfl := tag_obj e
    obtain ⟨p, C, dx, l, ds, rfl, hp, hc, rr, rfl⟩ := r.obj w'.ok
    obtain ⟨d, ed, k⟩ := W1_ofO k
    obtain ⟨v, ev, rv⟩ := fld_look f rr ed
    obtain ⟨c1, c2⟩ := hf cn C hc
    exact ⟨p, C, dx, l, v, rfl, hp, by rw [hK]; exact c1, by rw [hK]; exact c2, ev, done w'.ok k rv⟩⟩
end
end Kw
namespace Kw
open PySem PySem.Spec PyProof.Rows L2

/-! ### what is walked -/
/-- the walk J gives the items ds, while S stands -/
structure IsIt (R : Rc) (S : Gh → Tp → Hp → Prop) (J : It) (ds : List D) : Prop where
  go : ∀ g1 t1 H1, S g1 t1 H1 → ∀ i d, ds[i]? = some d → J.go i H1
  yld : ∀ g1 t1 H1, S g1 t1 H1 → ∀ i d x H2, ds[i]? = some d → J.yld i H1 x H2 → ∃ g2, Grow R g1 H1 g2 H2 t1 ∧ Rp R g2 x d
  stop : ∀ g1 t1 H1, S g1 t1 H1 → J.stop ds.length H1
  len : ds.length ≤ sizeLine
/-- while what is frozen stays frozen -/
def Frz (R : Rc) (g : Gh) : Gh → Tp → Hp → Prop := fun g1 t1 H1 => Gle g g1 ∧ GOk R g1 t1 H1
/-- while the heap grows alone -/
def Grw (R : Rc) (g : Gh) (H : Hp) : Gh → Tp → Hp → Prop := fun g1 t1 H1 => Grow R g H g1 H1 t1
theorem IsIt.weak {R : Rc} {S S' : Gh → Tp → Hp → Prop} {J : It} {ds : List D} (h : IsIt R S J ds) (i : ∀ g t H, S' g t H → S g t H) : IsIt R S' J ds :=
  ⟨fun g1 t1 H1 s => h.go g1 t1 H1 (i _ _ _ s), fun g1 t1 H1 s => h.yld g1 t1 H1 (i _ _ _ s), fun g1 t1 H1 s => h.stop g1 t1 H1 (i _ _ _ s), h.len⟩
def wI (R : Rc) (E : XK) (f : DA) : TI := fun σ H Rj => ∃ (g : Gh) (t : Tp) (ρ : Env), SRel R g t ρ σ H ∧ W1 R g H (f ρ t) (fun g' H' _ ds => ∀ J, IsIt R (Frz R g') J ds → Rj J H') E
def wIB (R : Rc) (E : XK) (f : DA) : TI := fun σ H Rj => ∃ (g : Gh) (t : Tp) (ρ : Env), SRel R g t ρ σ H ∧ W1 R g H (f ρ t) (fun g' H' _ ds => ∀ J, IsIt R (Grw R g' H') J ds → Rj J H') E
theorem PI_imp {X : Cx} {tg e : Expr} {t t' : TI} (h : PI X tg e t) (i : ∀ σ H Q, t' σ H Q → t σ H Q) : PI X tg e t' := ⟨fun pins s σ H Rj I w => h.run pins s σ H Rj I (i σ H Rj w)⟩
theorem wIB_wI {X : Cx} {R : Rc} {E : XK} {tg e : Expr} {f : DA} (h : PI X tg e (wI R E f)) : PI X tg e (wIB R E f) :=
  PI_imp h fun σ H Rj ⟨g, t, ρ, S, w⟩ => ⟨g, t, ρ, S, w.mono fun g' H' t' ds w' k J j => k J (j.weak fun g1 t1 H1 q => ⟨q.le, q.ok⟩)⟩
def seqM : D → M (List D)
  | .list xs => ret xs
  | .tuple xs => ret xs
  | _ => bad
def iSeq (a : DE) : DA := fun ρ => bnd (a ρ) seqM
section
variable {X : Cx} {R : Rc} {E : XK} {tg e a b : Expr} {fa fb : DE}
theorem isIt_list {g : Gh} {H : Hp} {K : PySem.W.Frag} {p : Addr} {vs : List V} {ds : List D} {S : Gh → Tp → Hp → Prop} (hs : ∀ g1 t1 H1, S g1 t1 H1 → GOk R g1 t1 H1 ∧ H1 p = some (.lst vs) ∧ RpAll R g1 vs ds) (hl : vs.length ≤ sizeLine) (hd : vs.length = ds.length) : IsIt R S (Itl K p) ds := by
  refine ⟨fun g1 t1 H1 s i d hi => ?_, fun g1 t1 H1 s i d x H2 hi hy => ?_, fun g1 t1 H1 s => ?_, by omega⟩
  · obtain ⟨ok, hp, r⟩ := hs _ _ _ s
    obtain ⟨v, hv, _⟩ := r.get hi
    exact ⟨vs, v, .of hp, hv⟩
  · obtain ⟨ok, hp, r⟩ := hs _ _ _ s
    obtain ⟨v, hv, rv⟩ := r.get hi
    obtain ⟨rfl, f⟩ := hy
    have := f vs (.of hp)
    rw [hv] at this; cases this
    exact ⟨g1, Grow.refl ok, rv⟩
  · obtain ⟨ok, hp, r⟩ := hs _ _ _ s
    exact ⟨vs, .of hp, by omega⟩
theorem isIt_tup {K : PySem.W.Frag} {p : Addr} {vs : List V} {ds : List D} {S : Gh → Tp → Hp → Prop} (hs : ∀ g1 t1 H1, S g1 t1 H1 → GOk R g1 t1 H1 ∧ H1 p = some (.tup vs) ∧ RpAll R g1 vs ds) (hl : vs.length ≤ sizeLine) (hd : vs.length = ds.length) : IsIt R S (Itt K p) ds := by
  refine ⟨fun g1 t1 H1 s i d hi => ?_, fun g1 t1 H1 s i d x H2 hi hy => ?_, fun g1 t1 H1 s => ?_, by omega⟩
  · obtain ⟨ok, hp, r⟩ := hs _ _ _ s
    obtain ⟨v, hv, _⟩ := r.get hi
    exact ⟨vs, v, .of hp, hv⟩
  · obtain ⟨ok, hp, r⟩ := hs _ _ _ s
    obtain ⟨v, hv, rv⟩ := r.get hi
    obtain ⟨rfl, f⟩ := hy
    have := f vs (.of hp)
    rw [hv] at this; cases this
    exact ⟨g1, Grow.refl ok, rv⟩
  · obtain ⟨ok, hp, r⟩ := hs _ _ _ s
    exact ⟨vs, .of hp, by omega⟩
/-- a list or a tuple is walked; Z: how it is held -/
theorem pi_any {tl : TE} {wi : TI} (hl : PE X e tl)
    (h : ∀ σ H Rj, wi σ H Rj → tl σ H fun x H1 => (∃ p vs, x = .ref p ∧ H1 p = some (.lst vs) ∧ (vs.length ≤ sizeLine → Rj (Itl X.K p) H1)) ∨ ∃ p vs, x = .ref p ∧ H1 p = some (.tup vs) ∧ (vs.length ≤ sizeLine → Rj (Itt X.K p) H1)) : PI X tg e wi := by
  refine ⟨fun pins s σ H Rj I w => ?_⟩
  refine thn (hl.run pins s σ H _ I (h σ H Rj w)) fun v s1 ⟨x, H1, I1, r1, q1⟩ => ?_
  rcases q1 with ⟨p, vs, rfl, hp, q⟩ | ⟨p, vs, rfl, hp, q⟩
  · cases r1
    obtain ⟨its, rv, pl, hz⟩ := I1.list (.of hp)
    refine wpAny_pyIter_list pl.isList ?_
    refine ⟨s1.heap.objs.size, [s1.heap.objs.size], _, _, H1, rfl, I1.kept (t' := s1.toks) fun b o e => Heap.get?_push_of_some _ e, turn_list p _, ⟨_, Heap.get?_push_size _ rfl, rfl, rfl⟩, fun b hb => ?_, q hz⟩
    have e : b = s1.heap.objs.size := by simpa using hb
    subst e
    exact I1.fpOk (Nat.le_refl _) (I1.hok.fresh (Nat.le_refl _))
  · cases r1
    obtain ⟨its, rv, pl, hz⟩ := I1.tuple (.of hp)
    refine wpAny_pyIter_tuple (show s1.heap.IsTuple p its.toArray from pl) ?_
    refine ⟨s1.heap.objs.size, [s1.heap.objs.size], _, _, H1, rfl, I1.kept (t' := s1.toks) fun b o e => Heap.get?_push_of_some _ e, turn_tuple p _, ⟨_, Heap.get?_push_size _ rfl, rfl, rfl⟩, fun b hb => ?_, q hz⟩
    have e : b = s1.heap.objs.size := by simpa using hb
    subst e
    exact I1.fpOk (Nat.le_refl _) (I1.hok.fresh (Nat.le_refl _))
theorem pi_seqD (he : PE X e (wE R E fa)) : PI X tg e (wI R E (iSeq fa)) :=
  pi_any he fun σ H Rj ⟨g, t, ρ, S, w⟩ => ⟨g, t, ρ, S, (W1.bnd S.ok w).mono fun g' H' t' d w' k x r => by
    cases d <;> try exact (k : False).elim
    case list ds =>
      cases r with
      | lst hp rr =>
        refine .inl ⟨_, _, rfl, w'.ok.sub _ _ hp, fun hl => W1.at w'.ok k _ (isIt_list (g := g') (H := H') (fun g1 t1 H1 s => ⟨s.2, s.2.sub _ _ (s.1.sub _ _ hp), rr.mono s.1⟩) hl rr.length)⟩
    case tuple ds =>
      cases r with
      | tup hp rr =>
        refine .inr ⟨_, _, rfl, w'.ok.sub _ _ hp, fun hl => W1.at w'.ok k _ (isIt_tup (fun g1 t1 H1 s => ⟨s.2, s.2.sub _ _ (s.1.sub _ _ hp), rr.mono s.1⟩) hl rr.length)⟩⟩
theorem pi_seqB (he : PE X e (wB R E fa)) : PI X tg e (wIB R E (iSeq fa)) :=
  pi_any he fun σ H Rj ⟨g, t, ρ, S, w⟩ => ⟨g, t, ρ, S, (W1.bnd S.ok w).mono fun g' H' t' d w' k x r => by
    cases d <;> try exact (k : False).elim
    case list ds =>
      rcases r with r | ⟨p, rfl, ha⟩
      · cases r with
        | lst hp rr =>
          refine .inl ⟨_, _, rfl, w'.ok.sub _ _ hp, fun hl => W1.at w'.ok k _ (isIt_list (g := g') (H := H') (fun g1 t1 H1 s => ⟨s.ok, s.ok.sub _ _ (s.le.sub _ _ hp), rr.mono s.le⟩) hl rr.length)⟩
      · obtain ⟨nf, nt, o, ho, hb⟩ := ha
        cases hb with
        | lst rr => exact .inl ⟨_, _, rfl, ho, fun hl => W1.at w'.ok k _ (isIt_list (g := g') (H := H') (fun g1 t1 H1 s => ⟨s.ok, s.keep _ _ ho nt trivial, rr.mono s.le⟩) hl rr.length)⟩
    case tuple ds =>
      rcases r with r | ⟨p, rfl, ha⟩
      · cases r with
        | tup hp rr =>
          refine .inr ⟨_, _, rfl, w'.ok.sub _ _ hp, fun hl => W1.at w'.ok k _ (isIt_tup (fun g1 t1 H1 s => ⟨s.ok, s.ok.sub _ _ (s.le.sub _ _ hp), rr.mono s.le⟩) hl rr.length)⟩
      · obtain ⟨nf, nt, o, ho, hb⟩ := ha
        cases hb⟩
theorem isIt_rng {lo : Int} {n : Nat} {g : Gh} (hn : n ≤ sizeLine) : IsIt R (Frz R g) (Itr lo n) ((List.range n).map fun k => PyData.int (lo + (k : Nat))) := by
  refine ⟨fun g1 t1 H1 s i d hi => ?_, fun g1 t1 H1 s i d x H2 hi hy => ?_, fun g1 t1 H1 s => ?_, by simpa using hn⟩
  · have := (List.getElem?_eq_some_iff.mp hi).1
    show i < n
    simpa using this
  · obtain ⟨rfl, rfl⟩ := hy
    refine ⟨g1, Grow.refl s.2, ?_⟩
    have hi' := (List.getElem?_eq_some_iff.mp hi).1
    rw [List.getElem?_map, List.getElem?_range (by simpa using hi')] at hi
    cases hi
    exact .int _
  · show n ≤ _; simp
theorem pi_rng1D {p pos : Pos} (hg : Gl X "range") (hm : X.mg "range" = none) (ha : PE X a (wB R E fa)) (hst : starEach [a] X.env = [(false, eval a X.env)]) : PI X tg (.Call (.Name "range" p) [a] [] pos) (wI R E (eRange1 fa)) :=
  PI_imp (pi_range1 hg hm (pa_cons ha pa_nil hst) hst) fun σ H Rj ⟨g, t, ρ, S, w⟩ => ⟨g, t, ρ, S, (W1.bnd S.ok w).mono fun g' H' t' d w' k x r => by
    cases d <;> try exact (k : False).elim
    obtain rfl := r.int
    obtain ⟨hn, k⟩ := W1_ite k
    have z := sizeLine_eq
    refine ⟨_, rfl, by omega, by omega, ?_⟩
    have := W1.at w'.ok k (Itr 0 _) (by simpa using isIt_rng (lo := 0) (R := R) (g := g') (n := Int.toNat _) (by omega))
    exact this⟩
theorem pi_rng2D {p pos : Pos} (hg : Gl X "range") (hm : X.mg "range" = none) (ha : PE X a (wB R E fa)) (hb : PE X b (wB R E fb)) (hs : starEach [a, b] X.env = [(false, eval a X.env), (false, eval b X.env)]) (hs2 : starEach [b] X.env = [(false, eval b X.env)]) :
    PI X tg (.Call (.Name "range" p) [a, b] [] pos) (wI R E (eRange2 fa fb)) :=
  PI_imp (pi_range2 hg hm (pa_cons ha (pa_cons hb pa_nil hs2) (by rw [hs, hs2])) hs hs2) fun σ H Rj ⟨g, t, ρ, S, w⟩ => ⟨g, t, ρ, S, (W1.bnd S.ok w).mono fun g1 H1 t1 d w1 k x r => ⟨g1, t1, ρ, S.grow w1, (W1.bnd w1.ok k).mono fun g2 H2 t2 d2 w2 k2 y r2 => by
    cases d <;> cases d2 <;> try exact (k2 : False).elim
    have e1 := r.int; have e2 := r2.int; subst e1; subst e2
    obtain ⟨hn, k2⟩ := W1_ite k2
    have z := sizeLine_eq
    refine ⟨_, _, rfl, ⟨by omega, by omega, by omega, by omega⟩, ?_⟩
    exact W1.at w2.ok k2 (Itr _ _) (isIt_rng (by omega))⟩⟩
end

/-! ### targets -/
inductive Tg where
  | nm (i : Nat)
  | tup (is : List Nat)
def Tg.idx : Tg → List Nat
  | .nm i => [i]
  | .tup is => is
def setAllE : List Nat → List D → Env → Option Env
  | [], [], ρ => some ρ
  | i :: is, d :: ds, ρ => setAllE is ds (ρ.set i (.val d))
  | _, _, _ => none
def bindE : Tg → D → Env → Option Env
  | .nm i, d, ρ => some (ρ.set i (.val d))
  | .tup is, .tuple ds, ρ => setAllE is ds ρ
  | _, _, _ => none
def wipeE (ρ : Env) : List Nat → Env
  | [] => ρ
  | v :: vs => (wipeE ρ vs).set v .un
section
variable {R : Rc} {g : Gh} {H : Hp} {t : Tp}
theorem SlotsOk.setV {v : V} {d : D} (h : Rp R g v d) : ∀ {ρ : Env} {σ : L2.St} {as : List Addr} (i : Nat), SlotsOk R g H ρ σ as → ∃ bs, SlotsOk R g H (ρ.set i (.val d)) (σ.set i (some v)) bs ∧ ∀ a ∈ bs, a ∈ as
  | _, _, _, _, .nil => ⟨[], .nil, fun _ z => z⟩
  | _, _, _, 0, .cons h0 r d0 => ⟨_, .cons (.val h) r (fun a z => by cases z), fun a z => List.mem_append_right _ (by simpa using z)⟩
  | _, _, _, i + 1, .cons h0 r d0 => by
    obtain ⟨bs, q, sub⟩ := SlotsOk.setV h i r
    exact ⟨_, .cons h0 q (fun a z z' => d0 a z (sub a z')), fun a z => by
      rcases List.mem_append.mp z with z | z
      · exact List.mem_append_left _ z
      · exact List.mem_append_right _ (sub a z)⟩
theorem SlotsOk.setU : ∀ {ρ : Env} {σ : L2.St} {as : List Addr} (i : Nat) (v : Option V), SlotsOk R g H ρ σ as → ∃ bs, SlotsOk R g H (ρ.set i .un) (σ.set i v) bs ∧ ∀ a ∈ bs, a ∈ as
  | _, _, _, _, _, .nil => ⟨[], .nil, fun _ z => z⟩
  | _, _, _, 0, v, .cons h0 r d0 => ⟨_, .cons (.un v) r (fun a z => by cases z), fun a z => List.mem_append_right _ (by simpa using z)⟩
  | _, _, _, i + 1, v, .cons h0 r d0 => by
    obtain ⟨bs, q, sub⟩ := SlotsOk.setU i v r
    exact ⟨_, .cons h0 q (fun a z z' => d0 a z (sub a z')), fun a z => by
      rcases List.mem_append.mp z with z | z
      · exact List.mem_append_left _ z
      · exact List.mem_append_right _ (sub a z)⟩
theorem SRel.setV {ρ : Env} {σ : L2.St} {v : V} {d : D} (i : Nat) (S : SRel R g t ρ σ H) (h : Rp R g v d) : SRel R g t (ρ.set i (.val d)) (σ.set i (some v)) H :=
  ⟨S.ok, let ⟨as, q⟩ := S.sl; let ⟨bs, q', _⟩ := q.setV h i; ⟨bs, q'⟩⟩
theorem SRel.wipe {ρ : Env} {σ : L2.St} (S : SRel R g t ρ σ H) : ∀ vs : List Nat, SRel R g t (wipeE ρ vs) (L2.wipe σ vs) H
  | [] => S
  | v :: vs => ⟨S.ok, let ⟨as, q⟩ := (SRel.wipe S vs).sl; let ⟨bs, q', _⟩ := q.setU v none; ⟨bs, q'⟩⟩
theorem wipe_set {σ : L2.St} {i : Nat} {x : Option V} : ∀ {vs : List Nat}, i ∈ vs → L2.wipe (σ.set i x) vs = L2.wipe σ vs
  | v :: vs, h => by
    unfold L2.wipe
    by_cases hm : i ∈ vs
    · rw [wipe_set hm]
    · have e : i = v := by
        rcases List.mem_cons.mp h with e | e
        · exact e
        · exact absurd e hm
      subst e
      have : L2.wipe (σ.set i x) vs = (L2.wipe σ vs).set i x := by
        clear h
        induction vs with
        | nil => rfl
        | cons w ws ih =>
          unfold L2.wipe
          have hw : i ∉ ws := fun z => hm (List.mem_cons_of_mem _ z)
          have hne : w ≠ i := fun z => hm (by simp [z])
          rw [ih hw, List.set_comm _ _ hne.symm]
      rw [this, List.set_set]
end
/-- Hs: the heap of which the slots speak -/
def wG (R : Rc) (tgt : Tg) : TG := fun v σ H Q => ∃ (g : Gh) (t : Tp) (ρ ρ' : Env) (d : D) (Hs : Hp), SRel R g t ρ σ Hs ∧ Same g.F H ∧ Rp R g v d ∧ bindE tgt d ρ = some ρ' ∧ ∀ σ', SRel R g t ρ' σ' Hs → (∀ vs, (∀ i ∈ tgt.idx, i ∈ vs) → L2.wipe σ' vs = L2.wipe σ vs) → Q σ' H
theorem PG_imp {X : Cx} {e : Expr} {t t' : TG} (h : PG X e t) (i : ∀ v σ H Q, t' v σ H Q → t v σ H Q) : PG X e t' := ⟨fun pins s σ H v u Q I r w => h.run pins s σ H v u Q I r (i v σ H Q w)⟩
section
variable {X : Cx} {R : Rc}
theorem pg_nm {i : Nat} {x : Str} {pos : Pos} (hN : X.N.Nodup) (hi : X.N[i]? = some x) (hx : Loc X.env.scope x) (hf : X.fn x = true ∨ X.env.scope.names.lookup x = some .local) : PG X (.Name x pos) (wG R (.nm i)) :=
  PG_imp (pg_name hN hi hx hf) fun v σ H Q ⟨g, t, ρ, ρ', d, Hs, S, su, r, e, k⟩ => by
    have e' : ρ.set i (.val d) = ρ' := Option.some.inj e
    subst e'
    exact k _ (S.setV i r) fun vs h => wipe_set (h i (by simp [Tg.idx]))
/-- the names of a tuple target -/
def wGs (R : Rc) (is : List Nat) : TGs := fun vs σ H Q => ∃ (g : Gh) (t : Tp) (ρ ρ' : Env) (ds : List D) (Hs : Hp), SRel R g t ρ σ Hs ∧ Same g.F H ∧ RpAll R g vs ds ∧ setAllE is ds ρ = some ρ' ∧ ∀ σ', SRel R g t ρ' σ' Hs → (∀ ws, (∀ i ∈ is, i ∈ ws) → L2.wipe σ' ws = L2.wipe σ ws) → Q σ' H
theorem PGs_imp {e : List Expr} {t t' : TGs} (h : PGs X e t) (i : ∀ v σ H Q, t' v σ H Q → t v σ H Q) : PGs X e t' := ⟨fun pins s σ H v u Q I r w => h.run pins s σ H v u Q I r (i v σ H Q w)⟩
theorem pgs_nilD : PGs X [] (wGs R []) := PGs_imp pgs_nil fun vs σ H Q ⟨g, t, ρ, ρ', ds, Hs, S, su, r, e, k⟩ => by
  cases ds with
  | nil =>
    cases r
    have e' : ρ = ρ' := Option.some.inj e
    subst e'
    exact ⟨rfl, k _ S fun _ _ => rfl⟩
  | cons d ds => cases e
theorem pgs_consD {e : Expr} {es : List Expr} {i : Nat} {is : List Nat} (h : PG X e (wG R (.nm i))) (hs : PGs X es (wGs R is)) (ha : (assignEach (e :: es) X.env).map (·.2) = assign e X.env :: (assignEach es X.env).map (·.2)) : PGs X (e :: es) (wGs R (i :: is)) :=
  PGs_imp (pgs_cons h hs ha) fun vs σ H Q ⟨g, t, ρ, ρ', ds, Hs, S, su, r, e, k⟩ => by
    cases ds with
    | nil => cases e
    | cons d ds =>
      cases r with
      | cons r1 r2 =>
        refine ⟨_, _, rfl, g, t, ρ, _, d, Hs, S, su, r1, rfl, fun σ' S' hw => ⟨g, t, _, ρ', ds, Hs, S', su, r2, e, fun σ2 S2 hw2 => k σ2 S2 fun ws hws => ?_⟩⟩
        rw [hw2 ws fun j hj => hws j (List.mem_cons_of_mem _ hj), hw ws fun j hj => hws j (by simp [Tg.idx] at hj; simp [hj])]
theorem setAllE_len : ∀ {is : List Nat} {ds : List D} {ρ ρ' : Env}, setAllE is ds ρ = some ρ' → ds.length = is.length
  | [], [], _, _, _ => rfl
  | [], _ :: _, _, _, h => by cases h
  | _ :: _, [], _, _, h => by cases h
  | _ :: is, _ :: ds, _, _, h => by
    have := setAllE_len (is := is) (ds := ds) h
    simp [this]
theorem pg_tp {es : List Expr} {k : Nat} {pos : Pos} {is : List Nat} (hK : X.K = R.K) (hc : X.calm = true) (h : PGs X es (wGs R is)) (hn : (assignEach es X.env).length = is.length) (hst : (assignEach es X.env).findIdx? (·.1) = none) : PG X (.Tuple es k pos) (wG R (.tup is)) :=
  PG_imp (pg_tup hc h hn hst) fun v σ H Q ⟨g, t, ρ, ρ', d, Hs, S, su, r, e, q⟩ => by
    cases d with
    | tuple ds =>
      cases r with
      | tup hp rr =>
        refine ⟨_, _, rfl, .of (su _ _ hp), ?_, g, t, ρ, ρ', ds, Hs, S, su, rr, e, q⟩
        rw [rr.length]; exact setAllE_len e
    | _ => exact absurd e (by simp [bindE])
end
end Kw
namespace Kw
open PySem PySem.Spec PyProof.Rows L2

/-! ### a new object that stands beside what is spoken of -/
def hide (H : Hp) (a : Addr) : Hp := fun b => if b = a then none else H b
theorem hide_ne {H : Hp} {a b : Addr} (h : b ≠ a) : hide H a b = H b := if_neg h
theorem hide_same {H : Hp} {a : Addr} : hide H a a = none := if_pos rfl
theorem hide_upd {H : Hp} {a : Addr} {o : HO} : hide (upd H a o) a = hide H a := by
  funext b; unfold hide upd; split <;> rfl
theorem hide_none {H : Hp} {a : Addr} (h : H a = none) : hide H a = H := by
  funext b; unfold hide; split
  · rename_i e; rw [e, h]
  · rfl
theorem upd_hide {H : Hp} {a : Addr} {o : HO} (h : H a = some o) : upd (hide H a) a o = H := by
  funext b; unfold upd hide; split
  · rename_i e; rw [e, h]
  · rfl
theorem of_hide {H : Hp} {a b : Addr} {o : HO} (h : hide H a b = some o) : b ≠ a ∧ H b = some o := by
  unfold hide at h; split at h
  · cases h
  · exact ⟨by assumption, h⟩
/-- an object that nobody speaks of yet: no tuple -/
def NoTup : HO → Prop
  | .tup _ => False
  | .tbl _ => False
  | .ext _ => False
  | _ => True
theorem NoTup.usr {o : HO} (h : NoTup o) : Usr o := by cases o <;> first | trivial | exact h.elim
section
variable {R : Rc} {g g' : Gh} {H H' : Hp} {t t' : Tp} {a : Addr} {o : HO}
theorem GOk.unhide (ok : GOk R g t (hide H a)) : GOk R g t H :=
  ⟨fun b u e => (of_hide (ok.sub b u e)).2, fun p hp => let ⟨ds, vs, e, f, h, r⟩ := ok.tape p hp; ⟨ds, vs, e, f, (of_hide h).2, r⟩, ok.notape, fun q hq => (ok.tb q hq).ext fun b o e => (of_hide e).2, ok.ft⟩
theorem OwnAt.unhide {p : Addr} {d : D} (h : OwnAt R g (hide H a) p d) : OwnAt R g H p d := ⟨h.nf, h.nt, let ⟨o, e, b⟩ := h.body; ⟨o, (of_hide e).2, b⟩⟩
theorem SlotOk.unhide {s : Slot} {v : Option V} {as : List Addr} (h : SlotOk R g (hide H a) s v as) : SlotOk R g H s v as := by
  cases h with
  | un v => exact .un v
  | val r => exact .val r
  | own h => exact .own h.unhide
  | nest h =>
    obtain ⟨nf, nt, hp, hl, nd, np, hq⟩ := h
    exact .nest ⟨nf, nt, (of_hide hp).2, hl, nd, np, fun i q ds e1 e2 => (hq i q ds e1 e2).unhide⟩
theorem SlotsOk.unhide : ∀ {ρ : Env} {σ : L2.St} {as : List Addr}, SlotsOk R g (hide H a) ρ σ as → SlotsOk R g H ρ σ as
  | _, _, _, .nil => .nil
  | _, _, _, .cons h r d => .cons h.unhide (SlotsOk.unhide r) d
theorem SRel.unhide {ρ : Env} {σ : L2.St} (S : SRel R g t ρ σ (hide H a)) : SRel R g t ρ σ H := ⟨S.ok.unhide, let ⟨as, q⟩ := S.sl; ⟨as, q.unhide⟩⟩
theorem Grow.unhide {H0 : Hp} (w : Grow R g H0 g' (hide H a) t') : Grow R g H0 g' H t' :=
  ⟨w.le, w.tp, fun b u e n nt => (of_hide (w.kp b u e n nt)).2, w.new, w.ok.unhide⟩
/-- growth beside it -/
theorem Grow.hide (ok : GOk R g t (hide H a)) (ha : H a = some o) (nt : NoTup o) (w : Grow R g H g' H' t') : Grow R g (hide H a) g' (hide H' a) t' ∧ H' a = some o := by
  have nF : g.F a = none := by
    cases e : g.F a with
    | none => rfl
    | some u => have := ok.sub a u e; rw [hide_same] at this; cases this
  have nT : g.tp ≠ some a := fun e => by
    obtain ⟨_, _, _, _, h, _⟩ := ok.tape a e
    rw [hide_same] at h; cases h
  have ha' : H' a = some o := w.keep a o ha nT nt.usr
  have nF' : g'.F a = none := by
    cases e : g'.F a with
    | none => rfl
    | some u =>
      rcases w.new a u e with q | q | ⟨xs, q, q2⟩
      · rw [nF] at q; cases q
      · exact (q.usr ha nt.usr).elim
      · rw [ha] at q2; cases q2; subst q; exact nt.elim
  have nT' : g'.tp ≠ some a := fun e => by
    rcases w.tp a e with q | q
    · exact nT q
    · exact (q.usr ha nt.usr).elim
  refine ⟨⟨w.le, fun p hp => ?_, fun b u e n nb => ?_, fun b u e => ?_, ⟨fun b u e => ?_, fun p hp => ?_, w.ok.notape, fun q hq => ?_, w.ok.ft⟩⟩, ha'⟩
  · rcases w.tp p hp with q | q
    · exact .inl q
    · exact .inr fun o e => q o (of_hide e).2
  · obtain ⟨hb, e⟩ := of_hide e
    have q1 := w.kp b u e n nb
    rw [hide_ne hb]; exact q1
  · have hb : b ≠ a := fun z => by rw [z, nF'] at e; cases e
    rcases w.new b u e with q | q | q
    · exact .inl q
    · exact .inr (.inl fun o e => q o (of_hide e).2)
    · exact .inr (.inr (by rw [hide_ne hb]; exact q))
  · have hb : b ≠ a := fun z => by rw [z, nF'] at e; cases e
    rw [hide_ne hb]; exact w.ok.sub b u e
  · obtain ⟨ds, vs, e, f, h, r⟩ := w.ok.tape p hp
    have hb : p ≠ a := fun z => by rw [z] at hp; exact nT' hp
    exact ⟨ds, vs, e, f, by rw [hide_ne hb]; exact h, r⟩
  · obtain ⟨ps, h1, h2, h3⟩ := w.ok.tb q hq
    have un := nt.usr
    refine ⟨ps, by rw [hide_ne (fun z => by rw [z, ha'] at h1; cases h1; exact un)]; exact h1, h2, fun pos cv hc => ?_⟩
    obtain ⟨c, e1, e2⟩ := h3 pos cv hc
    have ne : c ≠ a := fun z => by
      rw [z, ha'] at e2
      have e3 := Option.some.inj e2
      rw [e3] at un
      unfold LamX.CodeO at un
      exact un
    exact ⟨c, e1, by rw [hide_ne ne]; exact e2⟩
end

/-! ### results that are there -/
section
variable {α β : Type}
theorem bnd_ok {m : M α} {f : α → M β} {t t2 : Tp} {b : β} (h : bnd m f t = .ok b t2) : ∃ a t1, m t = .ok a t1 ∧ f a t1 = .ok b t2 := by
  unfold bnd at h
  cases e : m t with
  | ok a t1 => rw [e] at h; exact ⟨a, t1, rfl, h⟩
  | exc c d t1 => rw [e] at h; cases h
  | bad => rw [e] at h; cases h
theorem W1_nox_ok {R : Rc} {g : Gh} {H : Hp} {E : XK} {m : M α} {t : Tp} {k : Gh → Hp → Tp → α → Prop} (h : W1 R g H (nox m t) k E) : ∃ a t', m t = .ok a t' ∧ ∀ g' H', Grow R g H g' H' t' → k g' H' t' a := by
  unfold Kw.nox at h
  cases e : m t with
  | ok a t1 => rw [e] at h; exact ⟨a, t1, rfl, h⟩
  | exc c d t1 => rw [e] at h; exact h.elim
  | bad => rw [e] at h; exact h.elim
theorem W1_of {R : Rc} {g : Gh} {H : Hp} {E : XK} {o : Out α} {a : α} {t' : Tp} {k : Gh → Hp → Tp → α → Prop} (e : o = .ok a t') (h : ∀ g' H', Grow R g H g' H' t' → k g' H' t' a) : W1 R g H o k E := by
  subst e; exact h
end

/-! ### list comprehensions -/
def bodyC (tgt : Tg) (tests : DT) (elt : DE) (ρ : Env) (x : D) : M (List D) := match bindE tgt x ρ with
  | some ρ2 => bnd (tests ρ2) fun b => if b = true then bnd (elt ρ2) fun y => ret [y] else ret []
  | none => bad
def compL (f : D → M (List D)) : List D → M (List D)
  | [] => ret []
  | x :: xs => bnd (f x) fun ys => bnd (compL f xs) fun zs => ret (ys ++ zs)
def eComp (vs : List Nat) (tgt : Tg) (tests : DT) (elt : DE) (items : DA) : DA := fun ρ => bnd (items ρ) fun xs => nox (compL (bodyC tgt tests elt (wipeE ρ vs)) xs)
def bodyC2 (tgt : Tg) (tests : DT) (items1 : DA) (vs1 : List Nat) (tgt1 : Tg) (tests1 : DT) (elt : DE) (ρ : Env) (x : D) : M (List D) := match bindE tgt x ρ with
  | some ρ2 => bnd (tests ρ2) fun b => if b = true then bnd (items1 ρ2) fun xs => compL (bodyC tgt1 tests1 elt (wipeE ρ2 vs1)) xs else ret []
  | none => bad
def eComp2 (vs : List Nat) (tgt : Tg) (tests : DT) (items : DA) (vs1 : List Nat) (tgt1 : Tg) (tests1 : DT) (items1 : DA) (elt : DE) : DA := fun ρ => bnd (items ρ) fun xs =>
  nox (bnd (compL (bodyC2 tgt tests items1 vs1 tgt1 tests1 elt (wipeE ρ vs)) xs) fun zs => if okLen zs.length = true then ret zs else bad)
def tYesM : DT := fun _ => ret true
section
variable {X : Cx} {R : Rc} {E : XK}
theorem compL_cons {f : D → M (List D)} {x : D} {xs : List D} {t tN : Tp} {zs : List D} (h : compL f (x :: xs) t = .ok zs tN) : ∃ ys t1 ws, f x t = .ok ys t1 ∧ compL f xs t1 = .ok ws tN ∧ zs = ys ++ ws := by
  obtain ⟨ys, t1, e1, h⟩ := bnd_ok h
  obtain ⟨ws, t2, e2, h⟩ := bnd_ok h
  cases h
  exact ⟨ys, t1, ws, e1, e2, rfl⟩
theorem bodyC_ok {tgt : Tg} {tests : DT} {elt : DE} {ρ : Env} {x : D} {t t2 : Tp} {ys : List D} (h : bodyC tgt tests elt ρ x t = .ok ys t2) :
    ∃ ρ2 b t1, bindE tgt x ρ = some ρ2 ∧ tests ρ2 t = .ok b t1 ∧ ((b = true ∧ ∃ y, elt ρ2 t1 = .ok y t2 ∧ ys = [y]) ∨ (b = false ∧ t1 = t2 ∧ ys = [])) := by
  unfold bodyC at h
  cases e : bindE tgt x ρ with
  | none => rw [e] at h; cases h
  | some ρ2 =>
    rw [e] at h
    obtain ⟨b, t1, e1, h⟩ := bnd_ok h
    cases b with
    | true =>
      obtain ⟨y, t3, e2, h⟩ := bnd_ok h
      cases h
      exact ⟨ρ2, true, t1, rfl, e1, .inl ⟨rfl, y, e2, rfl⟩⟩
    | false => cases h; exact ⟨ρ2, false, _, rfl, e1, .inr ⟨rfl, rfl, rfl⟩⟩
theorem wipe_wipe {σ : L2.St} : ∀ vs : List Nat, L2.wipe (L2.wipe σ vs) vs = L2.wipe σ vs
  | [] => rfl
  | v :: vs => by
    show L2.wipe ((L2.wipe σ vs).set v none) (v :: vs) = (L2.wipe σ vs).set v none
    rw [wipe_set List.mem_cons_self]
    show (L2.wipe (L2.wipe σ vs) vs).set v none = _
    rw [wipe_wipe vs]
theorem drop_next {ds : List D} {i : Nat} {d : D} (h : ds[i]? = some d) : ds.drop i = d :: ds.drop (i + 1) := by
  obtain ⟨hi, e⟩ := List.getElem?_eq_some_iff.mp h
  rw [List.drop_eq_getElem_cons hi, e]
theorem pts_nilD : PTs X [] (wT R E tYesM) := ⟨fun pins s σ H Q I ⟨g, t, ρ, S, w⟩ => pts_nil.run pins s σ H Q I (W1.at S.ok w)⟩
theorem bodyC_len {tgt : Tg} {tests : DT} {elt : DE} {ρ : Env} : ∀ {ds zs : List D} {t tN : Tp}, compL (bodyC tgt tests elt ρ) ds t = .ok zs tN → zs.length ≤ ds.length
  | [], _, _, _, h => by cases h; exact Nat.le_refl _
  | x :: xs, _, _, _, h => by
    obtain ⟨ys, t3, ws, e1, e2, rfl⟩ := compL_cons h
    have := bodyC_len e2
    obtain ⟨ρ2, b, t4, eb, et, hy⟩ := bodyC_ok e1
    rcases hy with ⟨_, y, _, rfl⟩ | ⟨_, _, rfl⟩ <;> simp <;> omega
/-- the turns of a comprehension: acc0 stands at D0 already, Fin is wanted behind -/
theorem lc_turns {vs : List Nat} {tgt : Tg} {tests : DT} {elt : DE} {ρ : Env} {σ : L2.St} {ds zs accD0 : List D} {acc0 : List V} {g1 : Gh} {H1 : Hp} {t1 tN : Tp} {J : It} {Fin : Hp → Prop} {D0 : Addr} {Sx : Gh → Tp → Hp → Prop} (S : SRel R g1 t1 ρ σ (hide H1 D0)) (hJ : IsIt R Sx J ds)
    (hS : ∀ g2 t2 H, Grow R g1 (hide H1 D0) g2 (hide H D0) t2 → Sx g2 t2 H) (hix : ∀ i ∈ tgt.idx, i ∈ vs) (ez : compL (bodyC tgt tests elt (wipeE ρ vs)) ds t1 = .ok zs tN) (hD : H1 D0 = some (.lst acc0)) (r0 : RpAll R g1 acc0 accD0) (hz : accD0.length + zs.length ≤ sizeLine)
    (kq : ∀ g' H' acc, Grow R g1 (hide H1 D0) g' (hide H' D0) tN → H' D0 = some (.lst acc) → RpAll R g' acc (accD0 ++ zs) → Fin H') :
    ∃ W : Nat → Nat → Hp → Prop, (∃ m, W 0 m H1) ∧ ∀ i m H, W i m H → (J.stop i H ∧ Fin H) ∨ (J.go i H ∧ ∃ Nx : Hp → Prop, (∀ H', Nx H' → ∃ m', m' < m ∧ W (i + 1) m' H') ∧ ∀ x H', J.yld i H x H' → wG R tgt x (L2.wipe σ vs) H' fun σ2 H2 => L2.wipe σ2 vs = L2.wipe σ vs ∧ wT R E0 tests σ2 H2 fun b H3 => if b = true then wE R E0 elt σ2 H3 fun y H4 => ∃ acc, H4 D0 = some (.lst acc) ∧ acc.length < sizeLine ∧ Nx (upd H4 D0 (.lst (acc ++ [y]))) else Nx H3) := by
  refine ⟨fun i m H => m + i = ds.length ∧ ∃ g2 t2 acc accD rest, Grow R g1 (hide H1 D0) g2 (hide H D0) t2 ∧ H D0 = some (.lst acc) ∧ RpAll R g2 acc accD ∧ compL (bodyC tgt tests elt (wipeE ρ vs)) (ds.drop i) t2 = .ok rest tN ∧ accD ++ rest = accD0 ++ zs,
    ⟨ds.length, rfl, g1, t1, acc0, accD0, zs, Grow.refl S.ok, hD, r0, ez, rfl⟩, fun i m H ⟨hm, g2, t2, acc, accD, rest, w, hacc, rr, er, ea⟩ => ?_⟩
  cases e : ds[i]? with
  | none =>
    have hi : i = ds.length := by have := List.getElem?_eq_none_iff.mp e; omega
    have hd : ds.drop i = [] := List.drop_eq_nil_of_le (by omega)
    rw [hd] at er
    cases er
    rw [List.append_nil] at ea
    subst ea
    exact .inl ⟨by rw [hi]; exact hJ.stop g2 _ H (hS _ _ _ w), kq g2 H acc w hacc rr⟩
  | some d =>
    rw [drop_next e] at er
    obtain ⟨ys, t3, ws, e1, e2, rfl⟩ := compL_cons er
    obtain ⟨ρ2, b, t4, eb, et, hy⟩ := bodyC_ok e1
    have hlen : i < ds.length := (List.getElem?_eq_some_iff.mp e).1
    refine .inr ⟨hJ.go g2 t2 H (hS _ _ _ w) i d e, fun H' => ∃ g2 t2 acc accD rest, Grow R g1 (hide H1 D0) g2 (hide H' D0) t2 ∧ H' D0 = some (.lst acc) ∧ RpAll R g2 acc accD ∧ compL (bodyC tgt tests elt (wipeE ρ vs)) (ds.drop (i + 1)) t2 = .ok rest tN ∧ accD ++ rest = accD0 ++ zs,
      fun H' q => ⟨m - 1, by omega, by omega, q⟩, fun x H' hyld => ?_⟩
    obtain ⟨g3, w3, rx⟩ := hJ.yld g2 t2 H (hS _ _ _ w) i d x H' e hyld
    obtain ⟨w3h, hacc3⟩ := w3.hide w.ok hacc trivial
    refine ⟨g3, _, wipeE ρ vs, ρ2, d, hide H' D0, ((S.grow w).grow w3h).wipe vs, w3.ok.sub, rx, eb, fun σ' S' hw => ⟨(hw vs hix).trans (wipe_wipe vs), g3, _, ρ2, S'.unhide, W1_of et fun g4 H4 w4 => ?_⟩⟩
    obtain ⟨w4h, hacc4⟩ := w4.hide w3h.ok hacc3 trivial
    have wAll := (w.trans S.ok w3h).trans S.ok w4h
    have rr4 := (rr.mono w3.le).mono w4.le
    rcases hy with ⟨rfl, y, ey, rfl⟩ | ⟨rfl, rfl, rfl⟩
    · rw [if_pos rfl]
      refine ⟨g4, t4, ρ2, S'.unhide.grow w4, W1_of ey fun g5 H5 w5 y' ry => ?_⟩
      obtain ⟨w5h, hacc5⟩ := w5.hide w4h.ok hacc4 trivial
      refine ⟨acc, hacc5, ?_, g5, t3, acc ++ [y'], accD ++ [y], ws, by rw [hide_upd]; exact wAll.trans S.ok w5h, upd_same, (rr4.mono w5.le).append (.cons ry .nil), e2, by rw [List.append_assoc]; exact ea⟩
      have := congrArg List.length ea
      simp only [List.length_append, List.length_cons, List.length_nil] at this
      rw [rr.length]; omega
    · rw [if_neg Bool.false_ne_true]
      exact ⟨g4, t4, acc, accD, ws, wAll, hacc4, rr4, e2, ea⟩
theorem lc_imp {vs : List Nat} {tgt : Tg} {items : DA} {tests : DT} {fe : DE} {σ : L2.St} {H : Hp} {Q : VK} (hix : ∀ i ∈ tgt.idx, i ∈ vs) (h : wL R E (eComp vs tgt tests fe items) σ H Q) : tLc (wIB R E items) (wG R tgt) (wT R E0 tests) (wE R E0 fe) vs σ H Q := by
  obtain ⟨g, t, ρ, S, w⟩ := h
  refine ⟨g, t, ρ, S, (W1.bnd S.ok w).mono fun g1 H1 t1 ds w1 k J hJ D0 hD => ?_⟩
  obtain ⟨zs, tN, ez, kq⟩ := W1_nox_ok k
  have eh : hide (upd H1 D0 (.lst [])) D0 = H1 := by rw [hide_upd, hide_none hD]
  refine lc_turns (acc0 := []) (accD0 := []) (Sx := Grw R g1 H1) (by rw [eh]; exact S.grow w1) hJ (fun g2 t2 H w => by rw [eh] at w; exact w.unhide) hix ez upd_same .nil ?_ fun g' H' acc w ha r => ?_
  · have := bodyC_len ez; have := hJ.len; simp; omega
  · rw [eh] at w
    have := kq g' (hide H' D0) w D0 acc hide_same (by simpa using r)
    rw [upd_hide ha] at this
    exact this
theorem pe_lcD {elt tg iter : Expr} {ifs : List Expr} {scope : Scope} {own : List (Str × Nat)} {pos : Pos} {tgt : Tg} {items : DA} {tests : DT} {fe : DE} (hc : X.calm = true) (hN : X.N.Nodup) (hi : PI X tg iter (wIB R E items)) (ok : BlkOk X.N X.env.scope scope own)
    (hix : ∀ i ∈ tgt.idx, i ∈ own.map (·.2))
    (hg : ∀ (s : Shared) (H : Hp) (C : Addr) (cl : List (Str × Addr)) (fp : List Addr), PG (X.blk s H scope (compEnvC scope cl C X.env) fp) tg (wG R tgt)) (ht : ∀ (s : Shared) (H : Hp) (C : Addr) (cl : List (Str × Addr)) (fp : List Addr), PTs (X.blk s H scope (compEnvC scope cl C X.env) fp) ifs (wT R E0 tests))
    (he : ∀ (s : Shared) (H : Hp) (C : Addr) (cl : List (Str × Addr)) (fp : List Addr), PE (X.blk s H scope (compEnvC scope cl C X.env) fp) elt (wE R E0 fe)) (hs : ∀ x, foldedSetIterable iter X.env x = pure x) :
    PE X (.ListComp elt [⟨tg, iter, ifs, 0⟩] scope pos) (wL R E (eComp (own.map (·.2)) tgt tests fe items)) :=
  PE_imp (pe_lc hc hN hi ok hg ht he hs) fun σ H Q h => lc_imp hix h
/-! two clauses -/
theorem bodyC2_ok {tgt : Tg} {tests : DT} {items1 : DA} {vs1 : List Nat} {tgt1 : Tg} {tests1 : DT} {elt : DE} {ρ : Env} {x : D} {t t2 : Tp} {ys : List D} (h : bodyC2 tgt tests items1 vs1 tgt1 tests1 elt ρ x t = .ok ys t2) :
    ∃ ρ2 b t1, bindE tgt x ρ = some ρ2 ∧ tests ρ2 t = .ok b t1 ∧ ((b = true ∧ ∃ xs t3, items1 ρ2 t1 = .ok xs t3 ∧ compL (bodyC tgt1 tests1 elt (wipeE ρ2 vs1)) xs t3 = .ok ys t2) ∨ (b = false ∧ t1 = t2 ∧ ys = [])) := by
  unfold bodyC2 at h
  cases e : bindE tgt x ρ with
  | none => rw [e] at h; cases h
  | some ρ2 =>
    rw [e] at h
    obtain ⟨b, t1, e1, h⟩ := bnd_ok h
    cases b with
    | true =>
      obtain ⟨y, t3, e2, h⟩ := bnd_ok h
      exact ⟨ρ2, true, t1, rfl, e1, .inl ⟨rfl, y, t3, e2, h⟩⟩
    | false => cases h; exact ⟨ρ2, false, _, rfl, e1, .inr ⟨rfl, rfl, rfl⟩⟩
theorem lc_imp2 {vs vs1 : List Nat} {tgt tgt1 : Tg} {items items1 : DA} {tests tests1 : DT} {fe : DE} {σ : L2.St} {H : Hp} {Q : VK} (hix : ∀ i ∈ tgt.idx, i ∈ vs) (hix1 : ∀ i ∈ tgt1.idx, i ∈ vs1) (h : wL R E (eComp2 vs tgt tests items vs1 tgt1 tests1 items1 fe) σ H Q) :
    tLc2 (wIB R E items) (wG R tgt) (wT R E0 tests) (wI R E0 items1) (wG R tgt1) (wT R E0 tests1) (wE R E0 fe) vs vs1 σ H Q := by
  obtain ⟨g, t, ρ, S, w⟩ := h
  refine ⟨g, t, ρ, S, (W1.bnd S.ok w).mono fun g1 H1 t1 ds w1 k J hJ D0 hD => ?_⟩
  obtain ⟨zs, tN, ez, kq⟩ := W1_nox_ok k
  obtain ⟨zs', tN', ez2, e3⟩ := bnd_ok ez
  clear ez
  have hz : okLen zs'.length = true ∧ zs' = zs ∧ tN' = tN := by
    by_cases hz : okLen zs'.length = true
    · rw [if_pos hz] at e3; cases e3; exact ⟨hz, rfl, rfl⟩
    · rw [if_neg hz] at e3; cases e3
  obtain ⟨hz, rfl, rfl⟩ := hz
  have hz := okLen_le hz
  have S1 := S.grow w1
  refine ⟨fun i m H => m + i = ds.length ∧ ∃ g2 t2 acc accD rest, Grow R g1 H1 g2 (hide H D0) t2 ∧ H D0 = some (.lst acc) ∧ RpAll R g2 acc accD ∧ compL (bodyC2 tgt tests items1 vs1 tgt1 tests1 fe (wipeE ρ vs)) (ds.drop i) t2 = .ok rest tN' ∧ accD ++ rest = zs',
    ⟨ds.length, rfl, g1, t1, [], [], zs', by rw [hide_upd, hide_none hD]; exact Grow.refl S1.ok, upd_same, .nil, ez2, rfl⟩, fun i m H ⟨hm, g2, t2, acc, accD, rest, w, hacc, rr, er, ea⟩ => ?_⟩
  cases e : ds[i]? with
  | none =>
    have hi : i = ds.length := by have := List.getElem?_eq_none_iff.mp e; omega
    have hd : ds.drop i = [] := List.drop_eq_nil_of_le (by omega)
    rw [hd] at er
    cases er
    rw [List.append_nil] at ea
    subst ea
    refine .inl ⟨by rw [hi]; exact hJ.stop g2 _ H w.unhide, ?_⟩
    have := kq g2 (hide H D0) w D0 acc hide_same rr
    rw [upd_hide hacc] at this
    exact this
  | some d =>
    rw [drop_next e] at er
    obtain ⟨ys, t3, ws, e1, e2, rfl⟩ := compL_cons er
    obtain ⟨ρ2, b, t4, eb, et, hy⟩ := bodyC2_ok e1
    have hlen : i < ds.length := (List.getElem?_eq_some_iff.mp e).1
    refine .inr ⟨hJ.go g2 t2 H w.unhide i d e, fun H' => ∃ g2 t2 acc accD rest, Grow R g1 H1 g2 (hide H' D0) t2 ∧ H' D0 = some (.lst acc) ∧ RpAll R g2 acc accD ∧ compL (bodyC2 tgt tests items1 vs1 tgt1 tests1 fe (wipeE ρ vs)) (ds.drop (i + 1)) t2 = .ok rest tN' ∧ accD ++ rest = zs',
      fun H' q => ⟨m - 1, by omega, by omega, q⟩, fun x H' hyld => ?_⟩
    obtain ⟨g3, w3, rx⟩ := hJ.yld g2 t2 H w.unhide i d x H' e hyld
    obtain ⟨w3h, hacc3⟩ := w3.hide w.ok hacc trivial
    refine ⟨g3, _, wipeE ρ vs, ρ2, d, hide H' D0, ((S1.grow w).grow w3h).wipe vs, w3.ok.sub, rx, eb, fun σ' S' hw => ⟨(hw vs hix).trans (wipe_wipe vs), g3, _, ρ2, S'.unhide, W1_of et fun g4 H4 w4 => ?_⟩⟩
    obtain ⟨w4h, hacc4⟩ := w4.hide w3h.ok hacc3 trivial
    have wAll := (w.trans S1.ok w3h).trans S1.ok w4h
    have rr4 := (rr.mono w3.le).mono w4.le
    rcases hy with ⟨rfl, xs, t5, ex, ec⟩ | ⟨rfl, rfl, rfl⟩
    · rw [if_pos rfl]
      refine ⟨g4, t4, ρ2, S'.unhide.grow w4, W1_of ex fun g5 H5 w5 J1 hJ1 => ?_⟩
      obtain ⟨w5h, hacc5⟩ := w5.hide w4h.ok hacc4 trivial
      have rr5 := rr4.mono w5.le
      have S5 := (S'.grow w4h).grow w5h
      have hl := congrArg List.length ea
      simp only [List.length_append] at hl
      refine lc_turns (acc0 := acc) (accD0 := accD) (Sx := Frz R g5) S5 hJ1 (fun g2 t2 H w => ⟨w.le, w.ok.unhide⟩) hix1 ec hacc5 rr5 (by omega) fun g' H' acc' w' ha r => ?_
      exact ⟨g', _, acc', accD ++ ys, ws, (wAll.trans S1.ok w5h).trans S1.ok w', ha, r, e2, by rw [List.append_assoc]; exact ea⟩
    · rw [if_neg Bool.false_ne_true]
      exact ⟨g4, t4, acc, accD, ws, wAll, hacc4, rr4, e2, ea⟩
theorem pe_lcD2 {elt tg iter tg1 iter1 : Expr} {ifs ifs1 : List Expr} {scope : Scope} {own : List (Str × Nat)} {pos : Pos} {tgt tgt1 : Tg} {items items1 : DA} {tests tests1 : DT} {fe : DE} {vs1 : List Nat} (hc : X.calm = true) (hN : X.N.Nodup) (hi : PI X tg iter (wIB R E items)) (ok : BlkOk X.N X.env.scope scope own) (hv : ∀ i ∈ vs1, i ∈ own.map (·.2))
    (hix : ∀ i ∈ tgt.idx, i ∈ own.map (·.2)) (hix1 : ∀ i ∈ tgt1.idx, i ∈ vs1)
    (hg : ∀ (s : Shared) (H : Hp) (C : Addr) (cl : List (Str × Addr)) (fp : List Addr), PG (X.blk s H scope (compEnvC scope cl C X.env) fp) tg (wG R tgt)) (ht : ∀ (s : Shared) (H : Hp) (C : Addr) (cl : List (Str × Addr)) (fp : List Addr), PTs (X.blk s H scope (compEnvC scope cl C X.env) fp) ifs (wT R E0 tests))
    (hi1 : ∀ (s : Shared) (H : Hp) (C : Addr) (cl : List (Str × Addr)) (fp : List Addr), PI (X.blk s H scope (compEnvC scope cl C X.env) fp) tg1 iter1 (wI R E0 items1))
    (hg1 : ∀ (s : Shared) (H : Hp) (C : Addr) (cl : List (Str × Addr)) (fp : List Addr), PG (X.blk s H scope (compEnvC scope cl C X.env) fp) tg1 (wG R tgt1)) (ht1 : ∀ (s : Shared) (H : Hp) (C : Addr) (cl : List (Str × Addr)) (fp : List Addr), PTs (X.blk s H scope (compEnvC scope cl C X.env) fp) ifs1 (wT R E0 tests1))
    (he : ∀ (s : Shared) (H : Hp) (C : Addr) (cl : List (Str × Addr)) (fp : List Addr), PE (X.blk s H scope (compEnvC scope cl C X.env) fp) elt (wE R E0 fe)) (hs : ∀ x, foldedSetIterable iter X.env x = pure x) (hs1 : ∀ env x, foldedSetIterable iter1 env x = pure x) :
    PE X (.ListComp elt [⟨tg, iter, ifs, 0⟩, ⟨tg1, iter1, ifs1, 0⟩] scope pos) (wL R E (eComp2 (own.map (·.2)) tgt tests items vs1 tgt1 tests1 items1 fe)) :=
  PE_imp (pe_lc2 hc hN hi ok hv hg ht hi1 hg1 ht1 he hs hs1) fun σ H Q h => lc_imp2 hix hix1 h
end
end Kw
namespace Kw
open PySem PySem.Spec PyProof.Rows L2

/-! ### statements: what they do -/
inductive Fl where
  | nx (ρ : Env)
  | rt (d : D)
  | bk (ρ : Env)
  | ct (ρ : Env)
abbrev DS := Env → M Fl
abbrev DSl := Env → M Slot
/-- what stands since the def's start; what the loop around holds -/
structure Bs (R : Rc) (L : List Nat) where
  g0 : Gh
  H0 : Hp
  t0 : Tp
  ok : GOk R g0 t0 H0
  gB : Gh
  /-- slots that stay as they are -/
  fx : List (Nat × V)
  hfx : ∀ p ∈ fx, p.1 ∈ L
structure SS (R : Rc) {L : List Nat} (b : Bs R L) (g : Gh) (t : Tp) (ρ : Env) (σ : L2.St) (H : Hp) : Prop where
  gr : Grow R b.g0 b.H0 g H t
  le : Gle b.gB g
  sl : ∃ as, SlotsOk R g H ρ σ as ∧ ∀ a ∈ as, Fr b.H0 a
  fx : ∀ p ∈ b.fx, σ[p.1]? = some (some p.2)
/-- the ends -/
def EO (R : Rc) {L : List Nat} (b : Bs R L) (Dn : Ends) (E : XK) : Out Fl → Prop
  | .ok (.nx ρ) t => ∀ g σ H, SS R b g t ρ σ H → Dn.nx σ H
  | .ok (.bk ρ) t => ∀ g σ H, SS R b g t ρ σ H → Dn.bk σ H
  | .ok (.ct ρ) t => ∀ g σ H, SS R b g t ρ σ H → Dn.ct σ H
  | .ok (.rt d) t => ∀ g H x, Grow R b.g0 b.H0 g H t → Rp R g x d → Dn.rt x H
  | .exc c d t => XOk R b.g0 t b.H0 c d E
  | .bad => False
def wS (R : Rc) (L : List Nat) (E : XK) (f : DS) : TS := fun Dn σ H => ∃ (b : Bs R L) (g : Gh) (t : Tp) (ρ : Env), SS R b g t ρ σ H ∧ EO R b Dn E (f ρ t)
/-- an expression whose object may be the frame's own -/
def wSl (R : Rc) (E : XK) (f : DSl) : TE := fun σ H Q => ∃ (g : Gh) (t : Tp) (ρ : Env), SRel R g t ρ σ H ∧ W1 R g H (f ρ t) (fun g' H' _ s => ∀ x as, SlotOk R g' H' s (some x) as → (∀ a ∈ as, Fr H a) → Q x H') E
def wAS (R : Rc) (E : XK) (f : Env → M (List Slot)) : TA := fun σ H Q => ∃ (g : Gh) (t : Tp) (ρ : Env), SRel R g t ρ σ H ∧ W1 R g H (f ρ t) (fun g' H' _ ss => ∀ xs as, SlotsOk R g' H' ss (xs.map some) as → (∀ a ∈ as, Fr H a) → Q xs H') E
section
variable {R : Rc} {L : List Nat} {b : Bs R L} {g g' : Gh} {H H' : Hp} {t t' : Tp} {ρ ρ' : Env} {σ : L2.St} {E : XK} {Dn : Ends}
theorem SS.rel (S : SS R b g t ρ σ H) : SRel R g t ρ σ H := ⟨S.gr.ok, let ⟨as, q, _⟩ := S.sl; ⟨as, q⟩⟩
theorem SS.ok (S : SS R b g t ρ σ H) : GOk R g t H := S.gr.ok
theorem SS.grow (S : SS R b g t ρ σ H) (w : Grow R g H g' H' t') : SS R b g' t' ρ σ H' :=
  ⟨S.gr.trans b.ok w, S.le.trans w.le, (let ⟨as, q, n⟩ := S.sl; ⟨as, q.grow w, n⟩), S.fx⟩
theorem EO.bnd {α : Type} {m : M α} {f : α → M Fl} (S : SS R b g t ρ σ H) (h : EO R b Dn E (bnd m f t)) : W1 R g H (m t) (fun g' H' t' a => EO R b Dn E (f a t')) E := by
  unfold Kw.bnd at h
  revert h
  generalize m t = o
  intro h
  cases o with
  | ok a t' => exact fun g' H' w => h
  | exc c d t' => exact fun g' H' C dd fs v q => h g' H' C dd fs v (S.gr.trans b.ok q)
  | bad => exact h
theorem Grow.fr0 {a : Addr} (ok : GOk R g t H) (w : Grow R g H g' H' t') (h : Fr H' a) : Fr H a := fun o e => by
  by_cases ht : g.tp = some a
  · obtain ⟨_, vs, e1⟩ := w.ok.tpH (w.le.tp a ht)
    exact (h.usr e1 trivial).elim
  · by_cases hb : ∃ ps, o = .tbl ps
    · exact hb
    · exact h o (w.kp a o e ht fun ps z => hb ⟨ps, z⟩)
theorem SlotOk.at {s : Slot} {v : Option V} {as : List Addr} (h : SlotOk R g H s v as) : ∀ a ∈ as, ∃ o, H a = some o ∧ Usr o := by
  cases h with
  | un v => exact fun a z => by cases z
  | val r => exact fun a z => by cases z
  | own h =>
    intro a z
    obtain ⟨_, _, o, ho, hb⟩ := h
    rw [List.mem_singleton] at z
    subst z
    exact ⟨o, ho, hb.usr⟩
  | nest h =>
    obtain ⟨nf, nt, hp, hl, nd, np, hq⟩ := h
    intro a z
    rcases List.mem_cons.mp z with z | z
    · subst z; exact ⟨_, hp, trivial⟩
    · obtain ⟨i, hi⟩ := List.mem_iff_getElem?.mp z
      have hi2 := (List.getElem?_eq_some_iff.mp hi).1
      obtain ⟨ds, hd⟩ : ∃ ds, (_ : List (List D))[i]? = some ds := ⟨_, List.getElem?_eq_getElem (by rw [← hl]; exact hi2)⟩
      obtain ⟨_, _, o, ho, hb⟩ := hq i a ds hi hd
      exact ⟨o, ho, hb.usr⟩
theorem SlotsOk.at : ∀ {ρ : Env} {σ : L2.St} {as : List Addr}, SlotsOk R g H ρ σ as → ∀ a ∈ as, ∃ o, H a = some o ∧ Usr o
  | _, _, _, .nil, a, z => by cases z
  | _, _, _, .cons h r d, a, z => by
    rcases List.mem_append.mp z with z | z
    · exact h.at a z
    · exact SlotsOk.at r a z
theorem SlotsOk.setS {s : Slot} {v : V} {cs : List Addr} (h : SlotOk R g H s (some v) cs) : ∀ {ρ : Env} {σ : L2.St} {as : List Addr} (i : Nat), SlotsOk R g H ρ σ as → (∀ a ∈ cs, a ∉ as) → ∃ bs, SlotsOk R g H (ρ.set i s) (σ.set i (some v)) bs ∧ ∀ a ∈ bs, a ∈ as ∨ a ∈ cs
  | _, _, _, _, .nil, _ => ⟨[], .nil, fun _ z => by cases z⟩
  | _, _, _, 0, .cons h0 r d0, hd => ⟨_, .cons h r (fun a z z' => hd a z (List.mem_append_right _ z')), fun a z => by
      rcases List.mem_append.mp z with z | z
      · exact .inr z
      · exact .inl (List.mem_append_right _ z)⟩
  | _, _, _, i + 1, .cons h0 r d0, hd => by
    obtain ⟨bs, q, sub⟩ := SlotsOk.setS h i r (fun a z z' => hd a z (List.mem_append_right _ z'))
    exact ⟨_, .cons h0 q (fun a z z' => by
      rcases sub a z' with k | k
      · exact d0 a z k
      · exact hd a k (List.mem_append_left _ z)), fun a z => by
      rcases List.mem_append.mp z with z | z
      · exact .inl (List.mem_append_left _ z)
      · rcases sub a z with k | k
        · exact .inl (List.mem_append_right _ k)
        · exact .inr k⟩
theorem fx_set {i : Nat} {x : Option V} (hi : i ∉ L) (h : ∀ p ∈ b.fx, σ[p.1]? = some (some p.2)) : ∀ p ∈ b.fx, (σ.set i x)[p.1]? = some (some p.2) := fun p hp => by
  rw [List.getElem?_set_ne (fun e => hi (by rw [e]; exact b.hfx p hp))]
  exact h p hp
theorem SS.set {s : Slot} {v : V} {cs : List Addr} {Hs : Hp} {i : Nat} (hi : i ∉ L) (S : SS R b g t ρ σ H) (w : Grow R g H g' H' t') (h : SlotOk R g' H' s (some v) cs) (hn : ∀ a ∈ cs, Fr H a) : SS R b g' t' (ρ.set i s) (σ.set i (some v)) H' := by
  obtain ⟨as, q, n⟩ := S.sl
  obtain ⟨bs, q', sub⟩ := (q.grow w).setS h i (fun a z z' => let ⟨_, e, u⟩ := q.at a z'; (hn a z).usr e u)
  refine ⟨S.gr.trans b.ok w, S.le.trans w.le, ⟨bs, q', fun a z => ?_⟩, fx_set hi S.fx⟩
  rcases sub a z with k | k
  · exact n a k
  · exact S.gr.fr0 b.ok (hn a k)
theorem SS.setV {d : D} {v : V} {i : Nat} (hi : i ∉ L) (S : SS R b g t ρ σ H) (h : Rp R g v d) : SS R b g t (ρ.set i (.val d)) (σ.set i (some v)) H :=
  S.set (Hs := H) hi (Grow.refl S.ok) (.val h) fun a z => by cases z
end

/-! ### simple statements -/
def sSkip : DS := fun ρ => ret (.nx ρ)
def sBrk : DS := fun ρ => ret (.bk ρ)
def sCnt : DS := fun ρ => ret (.ct ρ)
def sThen (g : DS) : Fl → M Fl
  | .nx ρ => g ρ
  | .rt d => ret (.rt d)
  | .bk ρ => ret (.bk ρ)
  | .ct ρ => ret (.ct ρ)
def sSeq (f g : DS) : DS := fun ρ => bnd (f ρ) (sThen g)
def sExpr (e : DE) : DS := fun ρ => bnd (e ρ) fun _ => ret (.nx ρ)
def sRet (e : DE) : DS := fun ρ => bnd (e ρ) fun d => ret (.rt d)
def sRetN : DS := fun _ => ret (.rt .none)
def sSet (i : Nat) (s : DSl) : DS := fun ρ => bnd (s ρ) fun sl => ret (.nx (ρ.set i sl))
def sIf (c : DT) (a b : DS) : DS := fun ρ => bnd (c ρ) fun k => if k = true then a ρ else b ρ
def sUnp (tg : Tg) (e : DE) : DS := fun ρ => bnd (e ρ) fun d => match bindE tg d ρ with
  | some ρ' => ret (.nx ρ')
  | none => bad
def setsE : List Nat → List Slot → Env → Option Env
  | [], [], ρ => some ρ
  | i :: is, s :: ss, ρ => setsE is ss (ρ.set i s)
  | _, _, _ => none
def sPar (is : List Nat) (a : Env → M (List Slot)) : DS := fun ρ => bnd (a ρ) fun ss => match setsE is ss ρ with
  | some ρ' => ret (.nx ρ')
  | none => bad
def slV (e : DE) : DSl := fun ρ => bnd (e ρ) fun d => ret (.val d)
def slL (a : DA) : DSl := fun ρ => bnd (a ρ) fun ds => ret (.own (.list ds))
def aSnil : Env → M (List Slot) := fun _ => ret []
def aScons (s : DSl) (r : Env → M (List Slot)) : Env → M (List Slot) := fun ρ => bnd (s ρ) fun x => bnd (r ρ) fun xs => ret (x :: xs)
section
variable {X : Cx} {R : Rc} {L : List Nat} {E : XK} {e : Expr} {fe : DE} {pos : Pos}
theorem ps_skip : PS X (.Pass pos) (wS R L E sSkip) := PS_imp ps_pass fun Dn σ H ⟨b, g, t, ρ, S, k⟩ => k g σ H S
theorem ps_brkD : PS X (.Break pos) (wS R L E sBrk) := PS_imp ps_break fun Dn σ H ⟨b, g, t, ρ, S, k⟩ => k g σ H S
theorem ps_cntD : PS X (.Continue pos) (wS R L E sCnt) := PS_imp ps_continue fun Dn σ H ⟨b, g, t, ρ, S, k⟩ => k g σ H S
theorem ps_docD {x : Str} {j : Nat} {p : Pos} : PS X (.Expr (.Constant (.str x) j p) pos) (wS R L E sSkip) := PS_imp ps_doc fun Dn σ H ⟨b, g, t, ρ, S, k⟩ => k g σ H S
theorem pss_nilD : PSs X [] (wS R L E sSkip) := PSs_imp pss_nil fun Dn σ H ⟨b, g, t, ρ, S, k⟩ => k g σ H S
theorem pss_consD {st : Stmt} {rest : List Stmt} {f h : DS} (h1 : PS X st (wS R L E f)) (h2 : PSs X rest (wS R L E h)) : PSs X (st :: rest) (wS R L E (sSeq f h)) :=
  PSs_imp (pss_cons h1 h2) fun Dn σ H ⟨b, g, t, ρ, S, k⟩ => ⟨b, g, t, ρ, S, by
    unfold sSeq bnd at k
    revert k
    cases f ρ t with
    | ok a t' =>
      intro k
      cases a with
      | nx ρ' => exact fun g' σ' H' S' => ⟨b, g', t', ρ', S', k⟩
      | rt d => exact k
      | bk ρ' => exact k
      | ct ρ' => exact k
    | exc c d t' => exact fun k => k
    | bad => exact fun k => k⟩
theorem ps_exprD (he : PE X e (wE R E fe)) (hs : swapsWith e none pos.line X.env = pure false) : PS X (.Expr e pos) (wS R L E (sExpr fe)) :=
  PS_imp (ps_expr he hs) fun Dn σ H ⟨b, g, t, ρ, S, k⟩ => ⟨g, t, ρ, S.rel, (EO.bnd S k).mono fun g' H' t' a w k' x r => k' _ _ _ (S.grow w)⟩
theorem ps_retD (he : PE X e (wE R E fe)) : PS X (.Return (some e) pos) (wS R L E (sRet fe)) :=
  PS_imp (ps_ret he) fun Dn σ H ⟨b, g, t, ρ, S, k⟩ => ⟨g, t, ρ, S.rel, (EO.bnd S k).mono fun g' H' t' a w k' x r => k' _ _ _ (S.grow w).gr r⟩
theorem ps_retND : PS X (.Return none pos) (wS R L E sRetN) := PS_imp ps_retN fun Dn σ H ⟨b, g, t, ρ, S, k⟩ => k _ _ _ S.gr .non
theorem ps_ifD {c : Expr} {a d : List Stmt} {fc : DT} {fa fd : DS} (hc : PT X c (wT R E fc)) (ha : PSs X a (wS R L E fa)) (hd : PSs X d (wS R L E fd)) : PS X (.If c a d pos) (wS R L E (sIf fc fa fd)) :=
  PS_imp (ps_if hc ha hd) fun Dn σ H ⟨b, g, t, ρ, S, k⟩ => ⟨g, t, ρ, S.rel, (EO.bnd S k).mono fun g' H' t' a w k' => by
    cases a with
    | true => simp only [if_true] at k' ⊢; exact ⟨b, g', t', ρ, S.grow w, k'⟩
    | false => simp only [Bool.false_eq_true, if_false] at k' ⊢; exact ⟨b, g', t', ρ, S.grow w, k'⟩⟩
/-! slots made -/
theorem slV_of (he : PE X e (wE R E fe)) : PE X e (wSl R E (slV fe)) := PE_imp he fun σ H Q ⟨g, t, ρ, S, w⟩ => ⟨g, t, ρ, S, (W1.bnd S.ok w).mono fun g' H' t' d w' k x r => W1.at w'.ok k x [] (.val r) fun a z => by cases z⟩
theorem own_new {g : Gh} {H : Hp} {t : Tp} {p : Addr} {o : HO} {d : D} (ok : GOk R g t H) (hp : H p = none) (h : BodyOk R g o d) : OwnAt R g (upd H p o) p d :=
  ⟨ok.freeF hp, fun e => (by obtain ⟨_, vs, e1⟩ := ok.tpH e; rw [hp] at e1; cases e1), o, upd_same, h⟩
theorem slL_of {fa : DA} (he : PE X e (wL R E fa)) : PE X e (wSl R E (slL fa)) := PE_imp he fun σ H Q ⟨g, t, ρ, S, w⟩ => ⟨g, t, ρ, S, (W1.bnd S.ok w).mono fun g' H' t' d w' k p vs hp r =>
  k g' _ (Grow.laid w'.ok hp) (.ref p) [p] (.own (own_new w'.ok hp (.lst r))) fun a z => by
    have : a = p := by simpa using z
    subst this
    exact w'.fr0 S.ok (.of hp)⟩
theorem ps_setD {i : Nat} {x : Str} {p : Pos} {fs : DSl} (hL : i ∉ L) (hN : X.N.Nodup) (hi : X.N[i]? = some x) (hx : Loc X.env.scope x) (he : PE X e (wSl R E fs)) (hs : swapsWith e (some (.Name x p)) pos.line X.env = pure false) (hf : X.fn x = true ∨ X.env.scope.names.lookup x = some .local) :
    PS X (.Assign [.Name x p] e pos) (wS R L E (sSet i fs)) :=
  PS_imp (ps_set hN hi hx he hs hf) fun Dn σ H ⟨b, g, t, ρ, S, k⟩ => ⟨g, t, ρ, S.rel, by
    have w := EO.bnd S k
    revert w
    cases fs ρ t with
    | ok s t' => exact fun w g' H' q x as r hn => w g' H' q _ _ _ (S.set (Hs := H) hL q r hn)
    | exc c d t' => exact fun w => w
    | bad => exact fun w => w⟩
end
end Kw
namespace Kw
open PySem PySem.Spec PyProof.Rows L2

/-! ### an own object is written; an own object is frozen -/
section
variable {R : Rc} {L : List Nat} {b : Bs R L} {g g' : Gh} {H H' : Hp} {t t' : Tp} {ρ ρ' : Env} {σ : L2.St} {E : XK} {Dn : Ends}
theorem OwnAt.updH {p q : Addr} {d : D} {o : HO} (h : OwnAt R g H q d) (n : q ≠ p) : OwnAt R g (upd H p o) q d :=
  ⟨h.nf, h.nt, let ⟨u, e, c⟩ := h.body; ⟨u, by rw [upd_ne n]; exact e, c⟩⟩
theorem SlotOk.updH {s : Slot} {v : Option V} {as : List Addr} {p : Addr} {o : HO} (h : SlotOk R g H s v as) (n : p ∉ as) : SlotOk R g (upd H p o) s v as := by
  cases h with
  | un v => exact .un v
  | val r => exact .val r
  | own h => exact .own (h.updH fun e => n (by simp [e]))
  | nest h =>
    obtain ⟨nf, nt, hp, hl, nd, np, hq⟩ := h
    refine .nest ⟨nf, nt, by rw [upd_ne (fun e => n (by simp [e]))]; exact hp, hl, nd, np, fun i q ds e1 e2 => (hq i q ds e1 e2).updH fun e => n ?_⟩
    rw [← e]
    exact List.mem_cons_of_mem _ (List.mem_of_getElem? e1)
theorem SlotsOk.updH {p : Addr} {o : HO} : ∀ {ρ : Env} {σ : L2.St} {as : List Addr}, SlotsOk R g H ρ σ as → p ∉ as → SlotsOk R g (upd H p o) ρ σ as
  | _, _, _, .nil, _ => .nil
  | _, _, _, .cons h r d, n =>   .cons (h.updH fun z => n (List.mem_append_left _ z)) (SlotsOk.updH r fun z => n (List.mem_append_right _ z)) d
theorem SlotOk.nt {s : Slot} {v : Option V} {as : List Addr} (h : SlotOk R g H s v as) : ∀ a ∈ as, g.tp ≠ some a ∧ g.F a = none := by
  cases h with
  | un v => exact fun a z => by cases z
  | val r => exact fun a z => by cases z
  | own h =>
    intro a z
    rw [List.mem_singleton] at z
    subst z
    exact ⟨h.nt, h.nf⟩
  | nest h =>
    obtain ⟨nf, nt, hp, hl, nd, np, hq⟩ := h
    intro a z
    rcases List.mem_cons.mp z with z | z
    · subst z; exact ⟨nt, nf⟩
    · obtain ⟨i, hi⟩ := List.mem_iff_getElem?.mp z
      have hi2 := (List.getElem?_eq_some_iff.mp hi).1
      have q := hq i a _ hi (List.getElem?_eq_getElem (by rw [← hl]; exact hi2))
      exact ⟨q.nt, q.nf⟩
theorem SlotOk.usr {s : Slot} {v : Option V} {as : List Addr} (h : SlotOk R g H s v as) : ∀ a ∈ as, ∀ u, H a = some u → Usr u := by
  cases h with
  | un v => exact fun a z => by cases z
  | val r => exact fun a z => by cases z
  | own h =>
    intro a z u e
    rw [List.mem_singleton] at z
    subst z
    obtain ⟨o, ho, hb⟩ := h.body
    rw [ho] at e; cases e
    exact hb.usr
  | nest h =>
    obtain ⟨nf, nt, hp, hl, nd, np, hq⟩ := h
    intro a z u e
    rcases List.mem_cons.mp z with z | z
    · subst z; rw [hp] at e; cases e; trivial
    · obtain ⟨i, hi⟩ := List.mem_iff_getElem?.mp z
      have hi2 := (List.getElem?_eq_some_iff.mp hi).1
      obtain ⟨o, ho, hb⟩ := (hq i a _ hi (List.getElem?_eq_getElem (by rw [← hl]; exact hi2))).body
      rw [ho] at e; cases e
      exact hb.usr
theorem SlotsOk.nt : ∀ {ρ : Env} {σ : L2.St} {as : List Addr}, SlotsOk R g H ρ σ as → ∀ a ∈ as, g.tp ≠ some a ∧ g.F a = none
  | _, _, _, .nil, a, z => by cases z
  | _, _, _, .cons h r d, a, z => by
    rcases List.mem_append.mp z with z | z
    · exact h.nt a z
    · exact SlotsOk.nt r a z
theorem SlotsOk.putO {i : Nat} {d d' : D} {o : HO} (hb : BodyOk R g o d') : ∀ {i : Nat} {ρ : Env} {σ : L2.St} {as : List Addr}, SlotsOk R g H ρ σ as → ρ[i]? = some (.own d) →
    ∃ p, σ[i]? = some (some (.ref p)) ∧ p ∈ as ∧ OwnAt R g H p d ∧ SlotsOk R g (upd H p o) (ρ.set i (.own d')) σ as
  | _, _, _, _, .nil, h => by simp at h
  | 0, _, _, _, .cons h r ds, e => by
    simp at e
    subst e
    cases h with
    | own h =>
      refine ⟨_, rfl, List.mem_append_left _ (List.mem_singleton.mpr rfl), h, .cons (.own ⟨h.nf, h.nt, o, upd_same, hb⟩) (r.updH (ds _ (List.mem_singleton.mpr rfl))) ds⟩
  | i + 1, _, _, _, .cons h r ds, e => by
    obtain ⟨p, e1, e2, e3, e4⟩ := SlotsOk.putO (i := i) hb r (by simpa using e)
    refine ⟨p, by simpa using e1, List.mem_append_right _ e2, e3, .cons (h.updH fun z => ds _ z e2) e4 ds⟩
theorem SS.putO {i : Nat} {d d' : D} {o : HO} (S : SS R b g t ρ σ H) (hb : BodyOk R g o d') (hi : ρ[i]? = some (.own d)) : ∃ p, σ[i]? = some (some (.ref p)) ∧ OwnAt R g H p d ∧ SS R b g t (ρ.set i (.own d')) σ (upd H p o) := by
  obtain ⟨as, sl, hn⟩ := S.sl
  obtain ⟨p, e1, e2, e3, e4⟩ := sl.putO (i := i) hb hi
  refine ⟨p, e1, e3, ⟨?_, S.le, ⟨as, e4, hn⟩, S.fx⟩⟩
  have h0 := hn p e2
  have ok := S.ok
  have w := S.gr
  refine ⟨w.le, w.tp, fun c u e n nb => (by rw [upd_ne (fun z => by rw [z] at e; obtain ⟨ps, q⟩ := h0 u e; exact nb ps q)]; exact w.kp c u e n nb), w.new, ⟨fun c u e => ?_, fun a ha => ?_, ok.notape, tabs_upd (fun u e => ?_) ok.tb, ok.ft⟩⟩
  · have : c ≠ p := fun z => by rw [z, e3.nf] at e; cases e
    rw [upd_ne this]; exact ok.sub c u e
  · obtain ⟨ds, vs, q1, q2, q3, q4⟩ := ok.tape a ha
    have : a ≠ p := fun z => by rw [z] at ha; exact e3.nt ha
    exact ⟨ds, vs, q1, q2, by rw [upd_ne this]; exact q3, q4⟩
  · obtain ⟨o2, ho2, hb2⟩ := e3.body
    rw [ho2] at e; cases e
    exact hb2.usr
/-- what is frozen at as -/
def frzA (g : Gh) (H : Hp) (as : List Addr) : Gh := { g with F := fun c => if c ∈ as then H c else g.F c }
theorem frzA_le {as : List Addr} (h : ∀ a ∈ as, g.F a = none) : Gle g (frzA g H as) := ⟨fun c u e => by
  show (if c ∈ as then H c else g.F c) = some u
  rw [if_neg (fun z => by rw [h c z] at e; cases e)]
  exact e, fun _ h => h⟩
theorem frzA_in {as : List Addr} {a : Addr} (h : a ∈ as) : (frzA g H as).F a = H a := if_pos h
theorem frzA_off {as : List Addr} {a : Addr} (h : a ∉ as) : (frzA g H as).F a = g.F a := if_neg h
def frzS : Slot → Slot
  | .own d => .val d
  | .nest dss => .val (.list (dss.map PyData.list))
  | s => s
theorem SlotOk.off {s : Slot} {v : Option V} {cs as : List Addr} (hF : ∀ a ∈ as, g.F a = none) (h : SlotOk R g H s v cs) (n : ∀ a ∈ cs, a ∉ as) : SlotOk R (frzA g H as) H s v cs := by
  have le := frzA_le (H := H) hF
  have own : ∀ {p : Addr} {d : D}, OwnAt R g H p d → p ∉ as → OwnAt R (frzA g H as) H p d := fun h m => ⟨by rw [frzA_off m]; exact h.nf, h.nt, let ⟨o, e, c⟩ := h.body; ⟨o, e, c.mono le⟩⟩
  cases h with
  | un v => exact .un v
  | val r => exact .val (r.mono le)
  | own h => exact .own (own h (n _ (by simp)))
  | nest h =>
    obtain ⟨nf, nt, hp, hl, nd, np, hq⟩ := h
    exact .nest ⟨by rw [frzA_off (n _ (by simp))]; exact nf, nt, hp, hl, nd, np, fun i q ds e1 e2 => own (hq i q ds e1 e2) (n _ (List.mem_cons_of_mem _ (List.mem_of_getElem? e1)))⟩
theorem SlotsOk.off {as : List Addr} (hF : ∀ a ∈ as, g.F a = none) : ∀ {ρ : Env} {σ : L2.St} {cs : List Addr}, SlotsOk R g H ρ σ cs → (∀ a ∈ cs, a ∉ as) → SlotsOk R (frzA g H as) H ρ σ cs
  | _, _, _, .nil, _ => .nil
  | _, _, _, .cons h r d, n => .cons (h.off hF fun a z => n a (List.mem_append_left _ z)) (SlotsOk.off hF r fun a z => n a (List.mem_append_right _ z)) d
theorem rows_in {dss : List (List D)} {qs : List Addr} {g2 : Gh} (hl : qs.length = dss.length) (hq : ∀ (i : Nat) q ds, qs[i]? = some q → dss[i]? = some ds → Rp R g2 (.ref q) (.list ds)) : RpAll R g2 (qs.map V.ref) (dss.map PyData.list) := by
  induction qs generalizing dss with
  | nil => cases dss with
    | nil => exact .nil
    | cons _ _ => cases hl
  | cons q qs ih => cases dss with
    | nil => cases hl
    | cons ds dss =>
      exact .cons (hq 0 q ds rfl rfl) (ih (by simpa using hl) fun i q' ds' e1 e2 => hq (i + 1) q' ds' (by simpa using e1) (by simpa using e2))
theorem SlotOk.frz {s : Slot} {v : Option V} {as : List Addr} (h : SlotOk R g H s v as) : SlotOk R (frzA g H as) H (frzS s) v [] := by
  have le := frzA_le (H := H) fun a z => (h.nt a z).2
  cases h with
  | un v => exact .un v
  | val r => exact .val (r.mono le)
  | own h =>
    obtain ⟨nf, nt, o, ho, hb⟩ := h
    exact .val ((hb.mono le).rp (by rw [frzA_in (by simp)]; exact ho))
  | nest h =>
    obtain ⟨nf, nt, hp, hl, nd, np, hq⟩ := h
    refine .val (.lst (by rw [frzA_in (by simp)]; exact hp) (rows_in hl fun i q ds e1 e2 => ?_))
    obtain ⟨_, _, o, ho, hb⟩ := hq i q ds e1 e2
    exact (hb.mono le).rp (by rw [frzA_in (List.mem_cons_of_mem _ (List.mem_of_getElem? e1))]; exact ho)
theorem SlotsOk.frz : ∀ {i : Nat} {ρ : Env} {σ : L2.St} {as : List Addr} {s : Slot}, SlotsOk R g H ρ σ as → ρ[i]? = some s → ∃ cs bs, (∀ a ∈ cs, a ∈ as) ∧ (∀ a ∈ bs, a ∈ as) ∧ (∀ a ∈ cs, (∃ o, H a = some o ∧ Usr o) ∧ g.tp ≠ some a ∧ g.F a = none ∧ ∀ u, H a = some u → Usr u) ∧ SlotsOk R (frzA g H cs) H (ρ.set i (frzS s)) σ bs
  | _, _, _, _, _, .nil, h => by simp at h
  | 0, _, _, _, _, .cons h r d, e => by
    simp at e
    subst e
    refine ⟨_, _, fun a z => List.mem_append_left _ z, fun a z => List.mem_append_right _ z, fun a z => ⟨h.at a z, (h.nt a z).1, (h.nt a z).2, h.usr a z⟩, ?_⟩
    exact SlotsOk.cons (as := []) h.frz (r.off (fun a z => (h.nt a z).2) fun a z z' => d a z' z) (fun a z => by cases z)
  | i + 1, _, _, _, _, .cons h r d, e => by
    obtain ⟨cs, bs, h1, h2, h3, h4⟩ := SlotsOk.frz (i := i) r (by simpa using e)
    refine ⟨cs, _, fun a z => List.mem_append_right _ (h1 a z), fun a z => ?_, h3, .cons (h.off (fun a z => (h3 a z).2.2.1) fun a z z' => d a z (h1 a z')) h4 fun a z z' => d a z (h2 a z')⟩
    rcases List.mem_append.mp z with z | z
    · exact List.mem_append_left _ z
    · exact List.mem_append_right _ (h2 a z)
def fz (i : Nat) (ρ : Env) : Env := match ρ[i]? with
  | some s => ρ.set i (frzS s)
  | none => ρ
def fzs : List Nat → Env → Env
  | [], ρ => ρ
  | i :: is, ρ => fzs is (fz i ρ)
def sFz (is : List Nat) (f : DS) : DS := fun ρ => f (fzs is ρ)
theorem SS.fz (S : SS R b g t ρ σ H) (i : Nat) : ∃ g', SS R b g' t (fz i ρ) σ H := by
  unfold Kw.fz
  cases e : ρ[i]? with
  | none => exact ⟨g, S⟩
  | some s =>
    obtain ⟨as, sl, hn⟩ := S.sl
    obtain ⟨cs, bs, h1, h2, h3, h4⟩ := sl.frz e
    have w := S.gr
    have ok := S.ok
    have le := frzA_le (H := H) fun a z => (h3 a z).2.2.1
    refine ⟨frzA g H cs, ⟨w.le.trans le, w.tp, w.kp, fun c u e => ?_, ⟨fun c u e => ?_, fun a ha => ?_, ok.notape, ok.tb, fun c u e => ?_⟩⟩, S.le.trans le, ⟨bs, h4, fun a z => hn a (h2 a z)⟩, S.fx⟩
    · by_cases hc : c ∈ cs
      · exact .inr (.inl (hn c (h1 c hc)))
      · rw [frzA_off hc] at e; exact w.new c u e
    · by_cases hc : c ∈ cs
      · rw [frzA_in hc] at e; exact e
      · rw [frzA_off hc] at e; exact ok.sub c u e
    · obtain ⟨ds, vs, q1, q2, q3, q4⟩ := ok.tape a ha
      have : a ∉ cs := fun z => (h3 a z).2.1 ha
      exact ⟨ds, vs, q1, by rw [frzA_off this]; exact q2, q3, q4.mono le⟩
    · by_cases hc : c ∈ cs
      · rw [frzA_in hc] at e; exact (h3 c hc).2.2.2 u e
      · rw [frzA_off hc] at e; exact ok.ft c u e
theorem SS.fzs : ∀ (is : List Nat) {g : Gh} {ρ : Env}, SS R b g t ρ σ H → ∃ g', SS R b g' t (fzs is ρ) σ H
  | [], g, _, S => ⟨g, S⟩
  | i :: is, _, _, S => by
    obtain ⟨g1, S1⟩ := S.fz i
    exact SS.fzs is S1
end
section
variable {X : Cx} {R : Rc} {L : List Nat} {E : XK}
theorem ps_fz {st : Stmt} {f : DS} (is : List Nat) (h : PS X st (wS R L E f)) : PS X st (wS R L E (sFz is f)) :=
  PS_imp h fun Dn σ H ⟨b, g, t, ρ, S, k⟩ => let ⟨g', S'⟩ := S.fzs is; ⟨b, g', t, _, S', k⟩
end

/-! ### stores into own lists and dicts, and into the tape -/
def putD (kvs : List (D × D)) (k v : D) : List (D × D) :=
  if (kvs.any fun p => PyData.eqv p.1 k) = true then kvs.map (fun p => if PyData.eqv p.1 k = true then (p.1, v) else p) else kvs ++ [(k, v)]
theorem putD_of {κ : Type} [DecidableEq κ] {R : Rc} {g : Gh} {enc : κ → D} (he : ∀ a b, PyData.eqv (enc a) (enc b) = decide (a = b)) {k : κ} {v : V} {d : D} (rv : Rp R g v d) {kvs : List (κ × V)} {ds : List D} (r : RpAll R g (kvs.map (·.2)) ds) :
    ∃ ds', RpAll R g ((putK kvs k v).map (·.2)) ds' ∧ putD ((kvs.map fun p => enc p.1).zip ds) (enc k) d = ((putK kvs k v).map fun p => enc p.1).zip ds' := by
  have ha : ∀ {kvs : List (κ × V)} {ds : List D}, RpAll R g (kvs.map (·.2)) ds → (((kvs.map fun p => enc p.1).zip ds).any fun p => PyData.eqv p.1 (enc k)) = kvs.any fun kv => decide (kv.1 = k) := by
    intro kvs
    induction kvs with
    | nil => intro ds r; cases r; rfl
    | cons p kvs ih =>
      intro ds r
      cases r with
      | cons r1 r2 => simp only [List.map_cons, List.zip_cons_cons, List.any_cons, he, ih r2]
  unfold putD putK
  rw [ha r]
  split
  · have q : ∀ {kvs : List (κ × V)} {ds : List D}, RpAll R g (kvs.map (·.2)) ds → ∃ ds', RpAll R g ((kvs.map fun kv => if kv.1 = k then (kv.1, v) else kv).map (·.2)) ds' ∧
              ((kvs.map fun p => enc p.1).zip ds).map (fun p => if PyData.eqv p.1 (enc k) = true then (p.1, d) else p) = ((kvs.map fun kv => if kv.1 = k then (kv.1, v) else kv).map fun p => enc p.1).zip ds' := by
      intro kvs
      induction kvs with
      | nil => intro ds r; cases r; exact ⟨[], .nil, rfl⟩
      | cons p kvs ih =>
        intro ds r
        cases r with
        | cons r1 r2 =>
          rename_i d0 ds0
          obtain ⟨ds', q1, q2⟩ := ih r2
          by_cases hp : p.1 = k
          · refine ⟨d :: ds', ?_, ?_⟩
            · simp only [List.map_cons, hp, if_true]; exact .cons rv q1
            · simp only [List.map_cons, List.zip_cons_cons, q2, he, hp, decide_true, if_true]
          · refine ⟨d0 :: ds', ?_, ?_⟩
            · simp only [List.map_cons, hp, if_false]; exact .cons r1 q1
            · simp only [List.map_cons, List.zip_cons_cons, q2, he, hp, decide_false, Bool.false_eq_true, if_false]
    exact q r
  · refine ⟨ds ++ [d], ?_, ?_⟩
    · rw [List.map_append]; exact r.append (.cons rv .nil)
    · rw [List.map_append, List.zip_append (by have := r.length; simpa using this)]; rfl
def rPut : TSet := fun o i v H Q => rSetL o i v H Q ∨ (∃ a kvs k, o = .ref a ∧ i = kV k ∧ IsK H a kvs ∧ kvs.length < sizeLine ∧ Q (upd H a (.dK (putK kvs k v)))) ∨
  ∃ a kvs k c, o = .ref a ∧ i = .ref c ∧ a ≠ c ∧ IsT H a kvs ∧ H c = some (.tup (List.map kV k)) ∧ kvs.length < sizeLine ∧ Q (upd H a (.dT (putK kvs k v)))
theorem upd_off {H H1 : Hp} {a : Addr} {o : HO} (h : ∀ b, b ≠ a → H1 b = H b) : upd H1 a o = upd H a o := by
  funext b; unfold upd; split
  · rfl
  · exact h b (by assumption)
theorem set_put {X : Cx} (hu : X.A.units + 1 < cLine) : PSet X rPut := by
  intro pins s σ H o i v ov iv u Q I ro ri rv h
  rcases h with h | ⟨a, kvs, k, rfl, rfl, hk, hl, q⟩ | ⟨a, kvs, k, c, rfl, rfl, hac, hk, hc, hl, q⟩
  · exact set_list pins s σ H o i v ov iv u Q I ro ri rv h
  · obtain ⟨H1, I1, e1, ne, _⟩ := viaK I hk
    refine set_dict hu pins s σ H1 _ _ v ov iv u Q I1 ro ri rv ⟨a, _, rfl, DPut.k e1 hl, ?_⟩
    rw [upd_off ne]; exact q
  · obtain ⟨H1, I1, e1, ne, _⟩ := viaT I hk
    refine set_dict hu pins s σ H1 _ _ v ov iv u Q I1 ro ri rv ⟨a, _, rfl, DPut.t e1 (by rw [ne c (Ne.symm hac)]; exact hc) hl, ?_⟩
    rw [upd_off ne]; exact q
def putM (ρ : Env) (i : Nat) (k v : D) : M Fl := match ρ[i]? with
  | some (.own (.list ds)) => match k with
    | .int z => match ixN ds.length z with
      | some j => ret (.nx (ρ.set i (.own (.list (ds.set j v)))))
      | none => bad
    | _ => bad
  | some (.own (.dict l)) => match tagD l with
    | .dic kvs => if ((keyK k).isSome = true ∧ allK kvs = true) ∨ ((keyT k).isSome = true ∧ allT kvs = true) then (if kvs.length < 16777216 then ret (.nx (ρ.set i (.own (dicD (putD kvs k v))))) else bad) else bad
    | _ => bad
  | some (.val (.dict [])) => match k with
    | .int z => fun t => match t with
      | some ds => match ixN ds.length z with
        | some j => .ok (.nx ρ) (some (ds.set j v))
        | none => .bad
      | none => .bad
    | _ => bad
  | _ => bad
def hereM (ρ : Env) (i : Nat) : M Unit := match ρ[i]? with
  | some (.own _) => ret ()
  | some (.val _) => ret ()
  | _ => bad
def sPut (i : Nat) (ev ei : DE) : DS := fun ρ => bnd (ev ρ) fun v => bnd (hereM ρ i) fun _ => bnd (ei ρ) fun k => putM ρ i k v
section
variable {X : Cx} {R : Rc} {E : XK} {L : List Nat} {b : Bs R L} {g : Gh} {H : Hp} {t : Tp} {ρ : Env} {σ : L2.St} {Dn : Ends}
theorem EO_ite {p : Prop} [Decidable p] {m : M Fl} (h : EO R b Dn E ((if p then m else bad) t)) : p ∧ EO R b Dn E (m t) := by
  by_cases hp : p
  · rw [if_pos hp] at h; exact ⟨hp, h⟩
  · rw [if_neg hp] at h; exact h.elim
theorem SS.tapeSet {ds : List D} {p : Addr} {vs : List V} {j : Nat} {v : V} {d : D} (S : SS R b g (some ds) ρ σ H) (hp : g.tp = some p) (hH : H p = some (.lst vs)) (r : RpAll R g vs ds) (rv : Rp R g v d) : SS R b g (some (ds.set j d)) ρ σ (upd H p (.lst (vs.set j v))) := by
  obtain ⟨as, sl, hn⟩ := S.sl
  have w := S.gr
  have ok := S.ok
  have npF : g.F p = none := (ok.tpH hp).1
  refine ⟨⟨w.le, w.tp, fun c u e n nb => ?_, w.new, ⟨fun c u e => ?_, fun a ha => ?_, fun z => (by rw [hp] at z; cases z), tabs_upd (fun u e => by rw [hH] at e; cases e; trivial) ok.tb, ok.ft⟩⟩, S.le, ⟨as, sl.updH (fun z => (sl.nt p z).1 hp), hn⟩, S.fx⟩
  · have : c ≠ p := fun z => by
      subst z
      rcases w.tp c hp with q | q
      · exact n q
      · obtain ⟨ps, q⟩ := q u e; exact nb ps q
    rw [upd_ne this]; exact w.kp c u e n nb
  · have : c ≠ p := fun z => by rw [z, npF] at e; cases e
    rw [upd_ne this]; exact ok.sub c u e
  · rw [hp] at ha; cases ha
    exact ⟨_, _, rfl, npF, upd_same, r.set rv j⟩
theorem putM_ok {i : Nat} {o kv v : V} {k d : D} (S : SS R b g t ρ σ H) (ho : σ[i]? = some (some o)) (rk : Rv R g H kv k) (rv : Rp R g v d) (h : EO R b Dn E (putM ρ i k d t)) : rPut o kv v H (fun H' => Dn.nx σ H') := by
  obtain ⟨as, sl, hn⟩ := S.sl
  cases e : ρ[i]? with
  | none => simp only [putM, e] at h; exact (h : False).elim
  | some s =>
    cases s with
    | un => simp only [putM, e] at h; exact (h : False).elim
    | nest _ => simp only [putM, e] at h; exact (h : False).elim
    | val d0 =>
      cases d0 <;> (simp only [putM, e] at h) <;> try exact (h : False).elim
      rename_i l
      cases l with
      | cons _ _ => exact (h : False).elim
      | nil =>
        cases k <;> try exact (h : False).elim
        rename_i z
        cases t with
        | none => exact (h : False).elim
        | some ds =>
          cases ej : ixN ds.length z <;> (simp only [ej] at h) <;> try exact (h : False).elim
          rename_i j
          obtain ⟨v1, bs, e1, hs, _⟩ := sl.get e
          rw [ho] at e1; cases e1
          cases hs with
          | val r =>
            cases r with
            | tape hp =>
              obtain ⟨ds', vs, q1, q2, q3, q4⟩ := S.ok.tape _ hp
              cases q1
              exact .inl ⟨_, vs, z, j, rfl, rk.int, q3, by rw [q4.length]; exact ej, h _ _ _ (S.tapeSet hp q3 q4 rv)⟩
    | own d0 =>
      cases d0 <;> (simp only [putM, e] at h) <;> try exact (h : False).elim
      case list ds =>
        cases k <;> try exact (h : False).elim
        rename_i z
        cases ej : ixN ds.length z <;> (simp only [ej] at h) <;> try exact (h : False).elim
        rename_i j
        obtain ⟨v1, bs, e1, hs, _⟩ := sl.get e
        rw [ho] at e1; cases e1
        cases hs with
        | own h1 =>
          obtain ⟨nf, nt, u, hu, hb⟩ := h1
          cases hb with
          | lst r =>
            obtain ⟨p', e1', _, S'⟩ := S.putO (BodyOk.lst (r.set rv j)) e
            rw [ho] at e1'; cases e1'
            exact .inl ⟨_, _, z, j, rfl, rk.int, hu, by rw [r.length]; exact ej, h _ _ _ S'⟩
      case dict l =>
        cases et : tagD l <;> (simp only [et] at h) <;> try exact (h : False).elim
        rename_i kvs
        obtain rfl := tag_dic et
        obtain ⟨c1, h⟩ := EO_ite h
        obtain ⟨c2, h⟩ := EO_ite h
        obtain ⟨v1, bs, e1, hs, _⟩ := sl.get e
        rw [ho] at e1; cases e1
        cases hs with
        | own h1 =>
          have zl := sizeLine_eq
          rcases c1 with ⟨ck, ca⟩ | ⟨ck, ca⟩
          · obtain ⟨k', ek⟩ := Option.isSome_iff_exists.mp ck
            obtain rfl := keyK_eq ek
            obtain ⟨a, l, ds, ea, hk, r, rfl⟩ := Rv.dicK S.ok (.inr ⟨_, rfl, h1⟩) ca
            cases ea
            obtain ⟨ds', q1, q2⟩ := putD_of eqv_kD (k := k') rv r
            rw [q2] at h
            obtain ⟨p', e1', _, S'⟩ := S.putO (BodyOk.dK q1) e
            rw [ho] at e1'; cases e1'
            have hl : l.length < 16777216 := by
              have := len_of_map r
              simp only [List.length_zip, List.length_map] at c2; omega
            exact .inr (.inl ⟨_, l, k', rfl, rk.keyK, hk, by omega, h _ _ _ S'⟩)
          · obtain ⟨k', ek⟩ := Option.isSome_iff_exists.mp ck
            obtain rfl := keyT_eq ek
            obtain ⟨a, l, ds, ea, hk, r, rfl⟩ := Rv.dicT S.ok (.inr ⟨_, rfl, h1⟩) ca
            cases ea
            obtain ⟨ds', q1, q2⟩ := putD_of eqv_tD (k := k') rv r
            rw [q2] at h
            obtain ⟨p', e1', _, S'⟩ := S.putO (BodyOk.dT q1) e
            rw [ho] at e1'; cases e1'
            have hl : l.length < 16777216 := by
              have := len_of_map r
              simp only [List.length_zip, List.length_map] at c2; omega
            obtain ⟨c, ec, hc⟩ := rk.keyT S.ok
            have hac : ∀ {p : Addr}, IsT H p l → p ≠ c := fun hk z => by
              subst z
              rcases hk with hk | ⟨hk, _⟩ <;> (rw [hc] at hk; cases hk)
            exact .inr (.inr ⟨_, l, k', c, rfl, ec, hac hk, hk, hc, by omega, h _ _ _ S'⟩)
theorem here_ok {i : Nat} {k : Gh → Hp → Tp → Unit → Prop} (S : SS R b g t ρ σ H) (h : W1 R g H (hereM ρ i t) k E) : ∃ o, σ[i]? = some (some o) ∧ k g H t () := by
  obtain ⟨as, sl, _⟩ := S.sl
  cases e : ρ[i]? with
  | none => simp only [hereM, e] at h; exact (h : False).elim
  | some s =>
    obtain ⟨v, bs, e1, hs, _⟩ := sl.get e
    cases s <;> (simp only [hereM, e] at h) <;> try exact (h : False).elim
    · cases hs with
      | val r => exact ⟨_, e1, W1.at S.ok h⟩
    · cases hs with
      | own r => exact ⟨_, e1, W1.at S.ok h⟩
theorem ps_putD {i : Nat} {x : Str} {ei ev : Expr} {fi fv : DE} {p1 p2 pos : Pos} (hu : X.A.units + 1 < cLine) (hi : X.N[i]? = some x) (hx : Vis X.env.scope x) (hd : (x == ("__debug__" : Str)) = false) (hcd : (x == ("__classdict__" : Str)) = false)
    (hv : PE X ev (wE R E fv)) (hk : PE X ei (wB R E fi)) (hs : swapsWithSole [.Subscript (.Name x p1) ei p2] ev pos.line X.env = pure false) (hw : swappedStores [.Subscript (.Name x p1) ei p2] ev X.env = pure none)
    (h1 : (assignEach [.Subscript (.Name x p1) ei p2] X.env).map (·.2) = [assign (.Subscript (.Name x p1) ei p2) X.env])
    (ha : ∀ v, assign (.Subscript (.Name x p1) ei p2) X.env v = (do
      let ov ← holding [v] (eval (.Name x p1) X.env)
      let iv ← holding [v, ov] (eval ei X.env)
      standAt p2
      holding [v, ov, iv] (setItem ov iv v)
      release [v, ov, iv] [])) : PS X (.Assign [.Subscript (.Name x p1) ei p2] ev pos) (wS R L E (sPut i fv fi)) :=
  PS_imp (ps_asg hv (pg_sub (pe_var hi hx hd hcd) hk (set_put hu) ha) hs hw h1) fun Dn σ H ⟨b, g, t, ρ, S, k⟩ => ⟨g, t, ρ, S.rel, (EO.bnd S k).mono fun g1 H1 t1 d w1 k1 v rv => by
    have S1 := S.grow w1
    obtain ⟨o, ho, k1⟩ := here_ok S1 (EO.bnd S1 k1)
    exact ⟨o, ho, g1, t1, ρ, S1.rel, (EO.bnd S1 k1).mono fun g2 H2 t2 kk w2 k2 kv rk => putM_ok (S1.grow w2) ho rk (rv.mono w2.le) k2⟩⟩
end
end Kw
namespace Kw
open PySem PySem.Spec PyProof.Rows L2

/-! ### dict comprehensions -/
abbrev DK := Env → M (List (D × D))
def bodyD (tgt : Tg) (tests : DT) (ek ev : DE) (ρ : Env) (x : D) (acc : List (D × D)) : M (List (D × D)) := match bindE tgt x ρ with
  | some ρ2 => bnd (tests ρ2) fun b => if b = true then bnd (ek ρ2) fun k => bnd (ev ρ2) fun v => (if (keyK k).isSome = true then ret (putD acc k v) else bad) else ret acc
  | none => bad
def compD (f : D → List (D × D) → M (List (D × D))) : List D → List (D × D) → M (List (D × D))
  | [], acc => ret acc
  | x :: xs, acc => bnd (f x acc) fun acc' => compD f xs acc'
def eDc (vs : List Nat) (tgt : Tg) (tests : DT) (ek ev : DE) (items : DA) : DK := fun ρ => bnd (items ρ) fun xs => nox (compD (bodyD tgt tests ek ev (wipeE ρ vs)) xs [])
/-- a new dict -/
def wD (R : Rc) (E : XK) (f : DK) : TE := fun σ H Q => ∃ (g : Gh) (t : Tp) (ρ : Env), SRel R g t ρ σ H ∧ W1 R g H (f ρ t) (fun g' H' _ kvs => ∀ p l ds, H' p = none → RpAll R g' (l.map (·.2)) ds → kvs = (l.map fun p => kD p.1).zip ds → Q (.ref p) (upd H' p (.dK l))) E
section
variable {X : Cx} {R : Rc} {E : XK}
theorem bodyD_ok {tgt : Tg} {tests : DT} {ek ev : DE} {ρ : Env} {x : D} {acc : List (D × D)} {t t2 : Tp} {ys : List (D × D)} (h : bodyD tgt tests ek ev ρ x acc t = .ok ys t2) :
    ∃ ρ2 b t1, bindE tgt x ρ = some ρ2 ∧ tests ρ2 t = .ok b t1 ∧ ((b = true ∧ ∃ k t3 v, ek ρ2 t1 = .ok (kD k) t3 ∧ ev ρ2 t3 = .ok v t2 ∧ ys = putD acc (kD k) v) ∨ (b = false ∧ t1 = t2 ∧ ys = acc)) := by
  unfold bodyD at h
  cases e : bindE tgt x ρ with
  | none => rw [e] at h; cases h
  | some ρ2 =>
    rw [e] at h
    obtain ⟨b, t1, e1, h⟩ := bnd_ok h
    cases b with
    | true =>
      obtain ⟨k, t3, e2, h⟩ := bnd_ok h
      obtain ⟨v, t4, e3, h⟩ := bnd_ok h
      cases ek' : keyK k with
      | none => rw [ek'] at h; cases h
      | some kk =>
        rw [ek'] at h
        cases h
        obtain rfl := keyK_eq ek'
        exact ⟨ρ2, true, t1, rfl, e1, .inl ⟨rfl, kk, t3, v, e2, e3, rfl⟩⟩
    | false => cases h; exact ⟨ρ2, false, _, rfl, e1, .inr ⟨rfl, rfl, rfl⟩⟩
theorem dc_imp {vs : List Nat} {tgt : Tg} {items : DA} {tests : DT} {fk fe : DE} {σ : L2.St} {H : Hp} {Q : VK} (hix : ∀ i ∈ tgt.idx, i ∈ vs) (h : wD R E (eDc vs tgt tests fk fe items) σ H Q) : tDc (wIB R E items) (wG R tgt) (wT R E0 tests) (wE R E0 fk) (wE R E0 fe) vs σ H Q := by
  obtain ⟨g, t, ρ, S, w⟩ := h
  refine ⟨g, t, ρ, S, (W1.bnd S.ok w).mono fun g1 H1 t1 ds w1 k J hJ D0 hD => ?_⟩
  obtain ⟨zs, tN, ez, kq⟩ := W1_nox_ok k
  have S1 := S.grow w1
  refine ⟨fun i m H => m + i = ds.length ∧ ∃ g2 t2 acc accD, Grow R g1 H1 g2 (hide H D0) t2 ∧ H D0 = some (.dK acc) ∧ RpAll R g2 (acc.map (·.2)) accD ∧ acc.length ≤ i ∧ compD (bodyD tgt tests fk fe (wipeE ρ vs)) (ds.drop i) ((acc.map fun p => kD p.1).zip accD) t2 = .ok zs tN,
    ⟨ds.length, rfl, g1, t1, [], [], by rw [hide_upd, hide_none hD]; exact Grow.refl S1.ok, upd_same, .nil, Nat.le_refl _, ez⟩, fun i m H ⟨hm, g2, t2, acc, accD, w, hacc, rr, hl, er⟩ => ?_⟩
  cases e : ds[i]? with
  | none =>
    have hi : i = ds.length := by have := List.getElem?_eq_none_iff.mp e; omega
    have hd : ds.drop i = [] := List.drop_eq_nil_of_le (by omega)
    rw [hd] at er
    cases er
    refine .inl ⟨by rw [hi]; exact hJ.stop g2 _ H w.unhide, ?_⟩
    have := kq g2 (hide H D0) w D0 acc accD hide_same rr rfl
    rw [upd_hide hacc] at this
    exact this
  | some d =>
    rw [drop_next e] at er
    obtain ⟨ys, t3, e1, e2⟩ := bnd_ok er
    obtain ⟨ρ2, b, t4, eb, et, hy⟩ := bodyD_ok e1
    have hlen : i < ds.length := (List.getElem?_eq_some_iff.mp e).1
    have hJl := hJ.len
    refine .inr ⟨hJ.go g2 t2 H w.unhide i d e, fun H' => ∃ g2 t2 acc accD, Grow R g1 H1 g2 (hide H' D0) t2 ∧ H' D0 = some (.dK acc) ∧ RpAll R g2 (acc.map (·.2)) accD ∧ acc.length ≤ i + 1 ∧ compD (bodyD tgt tests fk fe (wipeE ρ vs)) (ds.drop (i + 1)) ((acc.map fun p => kD p.1).zip accD) t2 = .ok zs tN,
      fun H' q => ⟨m - 1, by omega, by omega, q⟩, fun x H' hyld => ?_⟩
    obtain ⟨g3, w3, rx⟩ := hJ.yld g2 t2 H w.unhide i d x H' e hyld
    obtain ⟨w3h, hacc3⟩ := w3.hide w.ok hacc trivial
    refine ⟨g3, _, wipeE ρ vs, ρ2, d, hide H' D0, ((S1.grow w).grow w3h).wipe vs, w3.ok.sub, rx, eb, fun σ' S' hw => ⟨(hw vs hix).trans (wipe_wipe vs), g3, _, ρ2, S'.unhide, W1_of et fun g4 H4 w4 => ?_⟩⟩
    obtain ⟨w4h, hacc4⟩ := w4.hide w3h.ok hacc3 trivial
    have wAll := (w.trans S1.ok w3h).trans S1.ok w4h
    have rr4 := (rr.mono w3.le).mono w4.le
    rcases hy with ⟨rfl, kk, t5, v, ek, ev, rfl⟩ | ⟨rfl, rfl, rfl⟩
    · rw [if_pos rfl]
      refine ⟨g4, t4, ρ2, S'.unhide.grow w4, W1_of ek fun g5 H5 w5 y ry => ?_⟩
      obtain ⟨w5h, hacc5⟩ := w5.hide w4h.ok hacc4 trivial
      refine ⟨g5, t5, ρ2, (S'.unhide.grow w4).grow w5, W1_of ev fun g6 H6 w6 z rz => ?_⟩
      obtain ⟨w6h, hacc6⟩ := w6.hide w5h.ok hacc5 trivial
      obtain ⟨ds', q1, q2⟩ := putD_of eqv_kD (k := kk) rz ((rr4.mono w5.le).mono w6.le)
      rw [q2] at e2
      have hp := length_putK acc kk z
      refine ⟨acc, kk, Rv.keyK (H := H5) (.inl ry), hacc6, by omega, g6, t3, _, ds', by rw [hide_upd]; exact (wAll.trans S1.ok w5h).trans S1.ok w6h, upd_same, q1, by omega, e2⟩
    · rw [if_neg Bool.false_ne_true]
      exact ⟨g4, t4, acc, accD, wAll, hacc4, rr4, by omega, e2⟩
theorem pe_dcD {kx vx tg iter : Expr} {ifs : List Expr} {scope : Scope} {own : List (Str × Nat)} {pos : Pos} {tgt : Tg} {items : DA} {tests : DT} {fk fe : DE} (hc : X.calm = true) (hN : X.N.Nodup) (hi : PI X tg iter (wIB R E items)) (ok : BlkOk X.N X.env.scope scope own)
    (hix : ∀ i ∈ tgt.idx, i ∈ own.map (·.2))
    (hg : ∀ (s : Shared) (H : Hp) (C : Addr) (cl : List (Str × Addr)) (fp : List Addr), PG (X.blk s H scope (compEnvC scope cl C X.env) fp) tg (wG R tgt)) (ht : ∀ (s : Shared) (H : Hp) (C : Addr) (cl : List (Str × Addr)) (fp : List Addr), PTs (X.blk s H scope (compEnvC scope cl C X.env) fp) ifs (wT R E0 tests))
    (hk : ∀ (s : Shared) (H : Hp) (C : Addr) (cl : List (Str × Addr)) (fp : List Addr), PE (X.blk s H scope (compEnvC scope cl C X.env) fp) kx (wE R E0 fk))
    (he : ∀ (s : Shared) (H : Hp) (C : Addr) (cl : List (Str × Addr)) (fp : List Addr), PE (X.blk s H scope (compEnvC scope cl C X.env) fp) vx (wE R E0 fe)) (hs : ∀ x, foldedSetIterable iter X.env x = pure x) :
    PE X (.DictComp kx vx [⟨tg, iter, ifs, 0⟩] scope pos) (wD R E (eDc (own.map (·.2)) tgt tests fk fe items)) :=
  PE_imp (pe_dc hc hN hi ok hg ht hk he hs) fun σ H Q h => dc_imp hix h
/-- {} -/
def dNil : DK := fun _ => ret []
theorem pe_dict0 {pos : Pos} : PE X (.Dict [] [] pos) (wD R E dNil) := PE_imp pe_dnewK fun σ H Q ⟨g, t, ρ, S, w⟩ p hp => W1.at S.ok w p [] [] hp .nil rfl
def slD (f : DK) : DSl := fun ρ => bnd (f ρ) fun kvs => ret (.own (dicD kvs))
/-- a new dict as a value -/
def eFd (f : DK) : DE := fun ρ => bnd (f ρ) fun kvs => ret (dicD kvs)
theorem slD_of {e : Expr} {f : DK} (he : PE X e (wD R E f)) : PE X e (wSl R E (slD f)) := PE_imp he fun σ H Q ⟨g, t, ρ, S, w⟩ => ⟨g, t, ρ, S, (W1.bnd S.ok w).mono fun g' H' t' d w' k p l ds hp r ed => by
  subst ed
  exact k g' _ (Grow.laid w'.ok hp) (.ref p) [p] (.own (own_new w'.ok hp (.dK r))) fun a z => by
    have : a = p := by simpa using z
    subst this
    exact w'.fr0 S.ok (.of hp)⟩
theorem wD_wE {e : Expr} {f : DK} (he : PE X e (wD R E f)) : PE X e (wE R E (eFd f)) := PE_imp he fun σ H Q ⟨g, t, ρ, S, w⟩ => ⟨g, t, ρ, S, (W1.bnd S.ok w).mono fun g' H' t' d w' k p l ds hp r ed => by
  subst ed
  have w2 := Grow.made (o := .dK l) w'.ok hp
  exact k _ _ w2 _ (.dK upd_same (r.mono w2.le))⟩
end

/-! ### methods that write an own object -/
def mergeK (l m : List (Key × V)) : List (Key × V) := m.foldl (fun acc p => putK acc p.1 p.2) l
def rUpdK : V → List V → Hp → VK → Prop := fun x xs H Q => ∃ a b l m, x = .ref a ∧ xs = [.ref b] ∧ a ≠ b ∧ H a = some (.dK l) ∧ H b = some (.dK m) ∧ l.length + m.length ≤ sizeLine ∧ Q .non (upd H a (.dK (mergeK l m)))
theorem kv_merge {m : List (Key × V)} {ms : List (Key × Value)} (r : KV m ms) : ∀ {l : List (Key × V)} {vs : List (Key × Value)}, KV l vs → KV (mergeK l m) (merged vs ms) := by
  unfold KV at r
  induction r with
  | nil => exact fun h => h
  | @cons p q ps qs h t ih =>
    intro l vs hl
    have e : q = (p.1, q.2) := by rw [h.1]
    have := ih (hl.put p.1 h.2)
    rw [e]
    exact this
theorem length_mergeK (m : List (Key × V)) : ∀ l : List (Key × V), (mergeK l m).length ≤ l.length + m.length := by
  induction m with
  | nil => exact fun l => Nat.le_refl _
  | cons p m ih =>
    intro l
    have h1 := ih (putK l p.1 p.2)
    have h2 := length_putK l p.1 p.2
    show (mergeK (putK l p.1 p.2) m).length ≤ _
    simp only [List.length_cons]
    omega
theorem mt_update {X : Cx} : MtR X "dict.update" rUpdK := by
  intro pins s σ H x xs v us Q I rx rv h
  obtain ⟨a, b, l, m, rfl, rfl, hab, ha, hb, hz, q⟩ := h
  cases rx
  obtain ⟨u, rfl, ru⟩ := rv.one
  cases ru
  obtain ⟨z, hd, vs, rel, dd⟩ := dk_of I.hok ha
  obtain ⟨z2, hd2, ms, rel2, dd2⟩ := dk_of I.hok hb
  refine call_meetsIn PySem.F.slot_dict_update dd.typeIs PySem.F.entry_dict_update (PySem.F.args_dict_update_2 _ _) (meets_dict_update (mixKind X.prog X.w) a b hab hd2)
    ⟨vs, ms, dd, dd2, by rw [← rel.length, ← rel2.length]; exact hz, fun h' dd' _ hs => ⟨.non, _, ?_, rfl, q⟩⟩
  have he : ∃ q, h'.get? a = some q := let ⟨q, _, _, hq, _⟩ := dd'; ⟨q, hq⟩
  have hl := length_mergeK m l
  exact d_write (t' := s.toks) I (by rw [ha]; exact True.intro) hs he (dk_new (by omega) hd (kv_merge rel2 rel) dd')
def putsD (kvs : List (D × D)) : List (D × D) → List (D × D)
  | [] => kvs
  | p :: m => putsD (putD kvs p.1 p.2) m
theorem putsD_of {R : Rc} {g : Gh} : ∀ {m : List (Key × V)} {es : List D} {l : List (Key × V)} {ds : List D}, RpAll R g (m.map (·.2)) es → RpAll R g (l.map (·.2)) ds →
    ∃ ds', RpAll R g ((mergeK l m).map (·.2)) ds' ∧ putsD ((l.map fun p => kD p.1).zip ds) ((m.map fun p => kD p.1).zip es) = ((mergeK l m).map fun p => kD p.1).zip ds'
  | [], _, l, ds, r, rl => by cases r; exact ⟨ds, rl, rfl⟩
  | p :: m, _, l, ds, r, rl => by
    cases r with
    | cons r1 r2 =>
      obtain ⟨ds1, q1, q2⟩ := putD_of eqv_kD (k := p.1) r1 rl
      obtain ⟨ds2, q3, q4⟩ := putsD_of r2 q1
      refine ⟨ds2, q3, ?_⟩
      simp only [List.map_cons, List.zip_cons_cons, putsD]
      rw [q2]
      exact q4
def sApp (i : Nat) (e : DE) : DS := fun ρ => match ρ[i]? with
  | some (.own (.list ds)) => bnd (e ρ) fun v => if ds.length < 16777216 then ret (.nx (ρ.set i (.own (.list (ds ++ [v]))))) else bad
  | _ => bad
def sExt (i : Nat) (e : DA) : DS := fun ρ => match ρ[i]? with
  | some (.own (.list ds)) => bnd (e ρ) fun vs => if ds.length + vs.length ≤ 16777216 then ret (.nx (ρ.set i (.own (.list (ds ++ vs))))) else bad
  | _ => bad
def sUpd (i : Nat) (e : DK) : DS := fun ρ => match ρ[i]? with
  | some (.own (.dict l)) => match tagD l with
    | .dic kvs => if allK kvs = true then bnd (e ρ) fun m => (if kvs.length + m.length ≤ 16777216 then ret (.nx (ρ.set i (.own (dicD (putsD kvs m))))) else bad) else bad
    | _ => bad
  | _ => bad
/-- j = i.pop() -/
def sPop (j i : Nat) : DS := fun ρ => match ρ[i]? with
  | some (.own (.list ds)) => match ds[ds.length - 1]? with
    | some d => ret (.nx ((ρ.set i (.own (.list ds.dropLast))).set j (.val d)))
    | none => bad
  | _ => bad
section
variable {X : Cx} {R : Rc} {E : XK} {L : List Nat} {b : Bs R L} {g : Gh} {H : Hp} {t : Tp} {ρ : Env} {σ : L2.St} {Dn : Ends}
theorem SS.here {i : Nat} {s : Slot} (S : SS R b g t ρ σ H) (e : ρ[i]? = some s) (hs : s ≠ .un) : ∃ o, σ[i]? = some (some o) := by
  obtain ⟨as, sl, hn⟩ := S.sl
  obtain ⟨v1, bs, e1, h, _⟩ := sl.get e
  cases h with
  | un => exact (hs rfl).elim
  | val r => exact ⟨_, e1⟩
  | own r => exact ⟨_, e1⟩
  | nest r => exact ⟨_, e1⟩
theorem W1.bnd1 {f : DE} {k : Gh → Hp → Tp → List D → Prop} {k0 : Gh → Hp → Tp → D → Prop} (h : W1 R g H (f ρ t) k0 E) (hk : ∀ g' H' t' d, Grow R g H g' H' t' → k0 g' H' t' d → k g' H' t' [d]) : W1 R g H (aCons f aNil ρ t) k E := by
  unfold aCons aNil Kw.bnd
  revert h
  cases f ρ t with
  | ok d t' => exact fun h g' H' w => hk g' H' t' d w (h g' H' w)
  | exc c d t' => exact fun h => h
  | bad => exact fun h => h
/-- what is at slot i, a list -/
theorem SS.ownL {i : Nat} {ds : List D} {o : V} (S : SS R b g t ρ σ H) (e : ρ[i]? = some (.own (.list ds))) (ho : σ[i]? = some (some o)) : ∃ p xs, o = .ref p ∧ H p = some (.lst xs) ∧ RpAll R g xs ds ∧ g.tp ≠ some p ∧ g.F p = none ∧ ∀ ys es, RpAll R g ys es → SS R b g t (ρ.set i (.own (.list es))) σ (upd H p (.lst ys)) := by
  obtain ⟨as, sl, hn⟩ := S.sl
  obtain ⟨v1, bs, e1, hs, _⟩ := sl.get e
  rw [ho] at e1; cases e1
  cases hs with
  | own h1 =>
    obtain ⟨nf, nt, u, hu, hb⟩ := h1
    cases hb with
    | lst r =>
      refine ⟨_, _, rfl, hu, r, nt, nf, fun ys es r' => ?_⟩
      obtain ⟨p', e1', _, S'⟩ := S.putO (BodyOk.lst r') e
      rw [ho] at e1'; cases e1'
      exact S'
theorem ps_appD {i : Nat} {x : Str} {e : Expr} {fe : DE} {p1 ap cp pos : Pos} (hK : X.K = R.K) (hi : X.N[i]? = some x) (hx : Vis X.env.scope x) (hd : (x == ("__debug__" : Str)) = false) (hcd : (x == ("__classdict__" : Str)) = false) (he : PE X e (wE R E fe))
    (hbase : attributeBase (.Name x p1) "append" X.env (eval (.Name x p1) X.env) = eval (.Name x p1) X.env)
    (hfew : ((backTo cp (starEach [e] X.env)).all (fun x => !x.1) && (backToKw cp (keywordEach [] X.env)).all (fun x => x.1.isSome) && decide ([e].length + ([] : List Keyword).length + (if ([] : List Keyword).isEmpty then 0 else 1) < 30)) = true)
    (hline : (ap.endLine == cp.line) = true) (hs : starEach [e] X.env = (false, eval e X.env) :: starEach [] X.env) (hpl : (backTo cp (starEach [] X.env)).any (·.1) = false)
    (hsw : swapsWith (.Call (.Attribute (.Name x p1) "append" ap) [e] [] cp) none pos.line X.env = pure false) :
    PS X (.Expr (.Call (.Attribute (.Name x p1) "append" ap) [e] [] cp) pos) (wS R L E (sApp i fe)) :=
  PS_imp (ps_expr (pe_bm PySem.F.plainAttrs_list PySem.F.slot_list_append PySem.F.type_list_append mt_append (pe_var hi hx hd hcd) (pa_consD he pa_nilD hs) hbase hfew hline hs hpl) hsw) fun Dn σ H ⟨b, g, t, ρ, S, k⟩ => by
    cases e : ρ[i]? with
    | none => simp only [sApp, e] at k; exact (k : False).elim
    | some s =>
      cases s <;> (simp only [sApp, e] at k) <;> try exact (k : False).elim
      rename_i d0
      cases d0 <;> try exact (k : False).elim
      rename_i ds
      obtain ⟨o, ho⟩ := S.here e (by intro z; cases z)
      obtain ⟨p, xs, rfl, hp, r, nt, _, _⟩ := S.ownL e ho
      refine ⟨_, ho, .inl ⟨rfl, xs, .of hp⟩, g, t, ρ, S.rel, W1.bnd1 (EO.bnd S k) fun g1 H1 t1 v w1 k1 ys ry => ?_⟩
      have S1 := S.grow w1
      obtain ⟨c, k1⟩ := EO_ite k1
      obtain ⟨p', xs', e2, hp', r', _, _, put⟩ := S1.ownL e ho
      cases e2
      cases ry with
      | cons ry ry' =>
        cases ry'
        have z := sizeLine_eq
        have hl := r'.length
        exact ⟨_, xs', _, rfl, rfl, hp', by omega, k1 _ _ _ (put _ _ (r'.append (.cons ry .nil)))⟩
/-- what is at slot i, a dict of int and text keys -/
theorem SS.ownK {i : Nat} {l : List (D × D)} {kvs : List (D × D)} {o : V} (S : SS R b g t ρ σ H) (e : ρ[i]? = some (.own (.dict l))) (et : tagD l = .dic kvs) (ca : allK kvs = true) (ho : σ[i]? = some (some o)) :
    ∃ p m ds, o = .ref p ∧ IsK H p m ∧ RpAll R g (m.map (·.2)) ds ∧ kvs = (m.map fun p => kD p.1).zip ds ∧ ∀ m' ds', RpAll R g (m'.map (·.2)) ds' → SS R b g t (ρ.set i (.own (dicD ((m'.map fun p => kD p.1).zip ds')))) σ (upd H p (.dK m')) := by
  obtain ⟨as, sl, hn⟩ := S.sl
  obtain rfl := tag_dic et
  obtain ⟨v1, bs, e1, hs, _⟩ := sl.get e
  rw [ho] at e1; cases e1
  cases hs with
  | own h1 =>
    obtain ⟨a, m, ds, ea, hk, r, rfl⟩ := Rv.dicK S.ok (.inr ⟨_, rfl, h1⟩) ca
    cases ea
    refine ⟨_, m, ds, rfl, hk, r, rfl, fun m' ds' r' => ?_⟩
    obtain ⟨p', e1', _, S'⟩ := S.putO (BodyOk.dK r') e
    rw [ho] at e1'; cases e1'
    exact S'
def rUpdA : V → List V → Hp → VK → Prop := fun x xs H Q => ∃ a b l m, x = .ref a ∧ xs = [.ref b] ∧ a ≠ b ∧ IsK H a l ∧ H b = some (.dK m) ∧ l.length + m.length ≤ sizeLine ∧ Q .non (upd H a (.dK (mergeK l m)))
theorem mt_updA : MtR X "dict.update" rUpdA := by
  intro pins s σ H x xs v us Q I rx rv h
  obtain ⟨a, b, l, m, rfl, rfl, hab, ha, hb, hz, q⟩ := h
  obtain ⟨H1, I1, e1, ne, _⟩ := viaK I ha
  refine mt_update pins s σ H1 _ _ v us Q I1 rx rv ⟨a, b, l, m, rfl, rfl, hab, e1, by rw [ne b (Ne.symm hab)]; exact hb, hz, ?_⟩
  rw [upd_off ne]; exact q
theorem ps_updD {i : Nat} {x : Str} {e : Expr} {fe : DK} {p1 ap cp pos : Pos} (hK : X.K = R.K) (hi : X.N[i]? = some x) (hx : Vis X.env.scope x) (hd : (x == ("__debug__" : Str)) = false) (hcd : (x == ("__classdict__" : Str)) = false) (he : PE X e (wD R E fe))
    (hbase : attributeBase (.Name x p1) "update" X.env (eval (.Name x p1) X.env) = eval (.Name x p1) X.env)
    (hfew : ((backTo cp (starEach [e] X.env)).all (fun x => !x.1) && (backToKw cp (keywordEach [] X.env)).all (fun x => x.1.isSome) && decide ([e].length + ([] : List Keyword).length + (if ([] : List Keyword).isEmpty then 0 else 1) < 30)) = true)
    (hline : (ap.endLine == cp.line) = true) (hs : starEach [e] X.env = (false, eval e X.env) :: starEach [] X.env) (hpl : (backTo cp (starEach [] X.env)).any (·.1) = false)
    (hsw : swapsWith (.Call (.Attribute (.Name x p1) "update" ap) [e] [] cp) none pos.line X.env = pure false) :
    PS X (.Expr (.Call (.Attribute (.Name x p1) "update" ap) [e] [] cp) pos) (wS R L E (sUpd i fe)) :=
  PS_imp (ps_expr (pe_bm PySem.F.plainAttrs_dict PySem.F.slot_dict_update PySem.F.type_dict_update mt_updA (pe_var hi hx hd hcd) (pa_cons he pa_nil hs) hbase hfew hline hs hpl) hsw) fun Dn σ H ⟨b, g, t, ρ, S, k⟩ => by
    cases e : ρ[i]? with
    | none => simp only [sUpd, e] at k; exact (k : False).elim
    | some s =>
      cases s <;> (simp only [sUpd, e] at k) <;> try exact (k : False).elim
      rename_i d0
      cases d0 <;> try exact (k : False).elim
      rename_i l
      cases et : tagD l <;> (simp only [et] at k) <;> try exact (k : False).elim
      rename_i kvs
      obtain ⟨ca, k⟩ := EO_ite k
      obtain ⟨o, ho⟩ := S.here e (by intro z; cases z)
      obtain ⟨p, m, ds, rfl, hp, r, _, _⟩ := S.ownK e et ca ho
      refine ⟨_, ho, .inr (.inr (.inl ⟨rfl, ?_⟩)), g, t, ρ, S.rel, (EO.bnd S k).mono fun g1 H1 t1 nkv w1 k1 q l2 ds2 hq r2 e2 => ?_⟩
      · rcases hp with hp | ⟨hp, _⟩
        · exact .inl ⟨_, hp⟩
        · exact .inr ⟨_, hp⟩
      subst e2
      have S1 := S.grow (w1.trans S.ok (Grow.laid (o := .dK l2) w1.ok hq))
      obtain ⟨c, k1⟩ := EO_ite k1
      obtain ⟨p', m', ds', e3, hp', r', e4, put⟩ := S1.ownK e et ca ho
      cases e3
      have z := sizeLine_eq
      have hl := len_of_map r'
      have hl2 := len_of_map r2
      obtain ⟨ds3, q1, q2⟩ := putsD_of r2 r'
      rw [e4, q2] at k1
      refine ⟨p, q, m', l2, rfl, rfl, fun z => ?_, hp', upd_same, ?_, k1 _ _ _ (put _ _ q1)⟩
      · subst z
        have : H1 p ≠ none := by
          obtain ⟨_, _, _, e5, hp5, _⟩ := (S.grow w1).ownK e et ca ho
          cases e5
          rcases hp5 with h | ⟨h, _⟩ <;> (rw [h]; intro z; cases z)
        exact this hq
      · rw [e4] at c
        simp only [List.length_zip, List.length_map] at c
        omega
theorem ps_extD {i : Nat} {x : Str} {e : Expr} {fe : DA} {p1 ap cp pos : Pos} (hK : X.K = R.K) (hi : X.N[i]? = some x) (hx : Vis X.env.scope x) (hd : (x == ("__debug__" : Str)) = false) (hcd : (x == ("__classdict__" : Str)) = false) (he : PE X e (wL R E fe))
    (hbase : attributeBase (.Name x p1) "extend" X.env (eval (.Name x p1) X.env) = eval (.Name x p1) X.env)
    (hfew : ((backTo cp (starEach [e] X.env)).all (fun x => !x.1) && (backToKw cp (keywordEach [] X.env)).all (fun x => x.1.isSome) && decide ([e].length + ([] : List Keyword).length + (if ([] : List Keyword).isEmpty then 0 else 1) < 30)) = true)
    (hline : (ap.endLine == cp.line) = true) (hs : starEach [e] X.env = (false, eval e X.env) :: starEach [] X.env) (hpl : (backTo cp (starEach [] X.env)).any (·.1) = false)
    (hsw : swapsWith (.Call (.Attribute (.Name x p1) "extend" ap) [e] [] cp) none pos.line X.env = pure false) :
    PS X (.Expr (.Call (.Attribute (.Name x p1) "extend" ap) [e] [] cp) pos) (wS R L E (sExt i fe)) :=
  PS_imp (ps_expr (pe_bm PySem.F.plainAttrs_list PySem.F.slot_list_extend PySem.F.type_list_extend mt_extend (pe_var hi hx hd hcd) (pa_cons he pa_nil hs) hbase hfew hline hs hpl) hsw) fun Dn σ H ⟨b, g, t, ρ, S, k⟩ => by
    cases e : ρ[i]? with
    | none => simp only [sExt, e] at k; exact (k : False).elim
    | some s =>
      cases s <;> (simp only [sExt, e] at k) <;> try exact (k : False).elim
      rename_i d0
      cases d0 <;> try exact (k : False).elim
      rename_i ds
      obtain ⟨o, ho⟩ := S.here e (by intro z; cases z)
      obtain ⟨p, xs, rfl, hp, r, nt, _, _⟩ := S.ownL e ho
      refine ⟨_, ho, .inl ⟨rfl, xs, .of hp⟩, g, t, ρ, S.rel, (EO.bnd S k).mono fun g1 H1 t1 nvs w1 k1 q vs hq r2 => ?_⟩
      have S1 := S.grow (w1.trans S.ok (Grow.laid (o := .lst vs) w1.ok hq))
      obtain ⟨c, k1⟩ := EO_ite k1
      obtain ⟨p', xs', e2, hp', r', _, _, put⟩ := S1.ownL e ho
      cases e2
      have z := sizeLine_eq
      have hl := r'.length
      have hl2 := r2.length
      exact ⟨_, q, xs', vs, rfl, rfl, hp', upd_same, by omega, k1 _ _ _ (put _ _ (r'.append r2))⟩
theorem ps_popD {i j : Nat} {x y : Str} {p1 ap cp py pos : Pos} (hL : j ∉ L) (hK : X.K = R.K) (hN : X.N.Nodup) (hj : X.N[j]? = some y) (hy : Loc X.env.scope y) (hf : X.fn y = true ∨ X.env.scope.names.lookup y = some .local) (hi : X.N[i]? = some x) (hx : Vis X.env.scope x) (hd : (x == ("__debug__" : Str)) = false) (hcd : (x == ("__classdict__" : Str)) = false)
    (hbase : attributeBase (.Name x p1) "pop" X.env (eval (.Name x p1) X.env) = eval (.Name x p1) X.env) (hline : (ap.endLine == cp.line) = true)
    (hsw : swapsWith (.Call (.Attribute (.Name x p1) "pop" ap) [] [] cp) (some (.Name y py)) pos.line X.env = pure false) :
    PS X (.Assign [.Name y py] (.Call (.Attribute (.Name x p1) "pop" ap) [] [] cp) pos) (wS R L E (sPop j i)) :=
  PS_imp (ps_set hN hj hy (pe_bm0 PySem.F.plainAttrs_list PySem.F.slot_list_pop PySem.F.type_list_pop mt_pop (pe_var hi hx hd hcd) hbase hline) hsw hf) fun Dn σ H ⟨b, g, t, ρ, S, k⟩ => by
    cases e : ρ[i]? with
    | none => simp only [sPop, e] at k; exact (k : False).elim
    | some s =>
      cases s <;> (simp only [sPop, e] at k) <;> try exact (k : False).elim
      rename_i d0
      cases d0 <;> try exact (k : False).elim
      rename_i ds
      cases el : ds[ds.length - 1]? <;> (simp only [el] at k) <;> try exact (k : False).elim
      rename_i d
      obtain ⟨o, ho⟩ := S.here e (by intro z; cases z)
      obtain ⟨p, xs, rfl, hp, r, nt, _, put⟩ := S.ownL e ho
      obtain ⟨v, hv, rv⟩ := r.get el
      refine ⟨_, ho, .inl ⟨rfl, xs, .of hp⟩, _, xs, v, rfl, rfl, hp, by rw [r.length]; exact hv, k _ _ _ ((put _ _ ?_).setV hL rv)⟩
      rw [List.dropLast_eq_take, List.dropLast_eq_take, r.length]
      exact r.take _
end
end Kw
namespace Kw
open PySem PySem.Spec PyProof.Rows L2

/-! ### several slots at once -/
def setsSt : List Nat → List V → L2.St → L2.St
  | i :: is, v :: vs, σ => setsSt is vs (σ.set i (some v))
  | _, _, σ => σ
section
variable {X : Cx} {R : Rc} {E : XK} {L : List Nat} {b : Bs R L} {g g' : Gh} {H H' : Hp} {t t' : Tp} {ρ ρ' : Env} {σ : L2.St} {Dn : Ends}
theorem SlotsOk.sets : ∀ {is : List Nat} {ss : List Slot} {xs : List V} {cs as : List Addr} {ρ ρ' : Env} {σ : L2.St}, SlotsOk R g H ss (xs.map some) cs → SlotsOk R g H ρ σ as → (∀ a ∈ cs, a ∉ as) → setsE is ss ρ = some ρ' →
    ∃ bs, SlotsOk R g H ρ' (setsSt is xs σ) bs ∧ ∀ a ∈ bs, a ∈ as ∨ a ∈ cs
  | [], [], xs, cs, as, ρ, ρ', σ, h, q, n, e => by
    cases xs with
    | nil => cases e; exact ⟨as, q, fun a z => .inl z⟩
    | cons _ _ => cases h
  | i :: is, s :: ss, xs, cs, as, ρ, ρ', σ, h, q, n, e => by
    cases xs with
    | nil => cases h
    | cons x xs =>
      cases h with
      | cons h1 h2 d =>
        obtain ⟨bs, q', sub⟩ := q.setS h1 i (fun a z => n a (List.mem_append_left _ z))
        obtain ⟨bs2, q2, sub2⟩ := SlotsOk.sets (is := is) h2 q' (fun a z z' => by
          rcases sub a z' with k | k
          · exact n a (List.mem_append_right _ z) k
          · exact d a k z) e
        refine ⟨bs2, q2, fun a z => ?_⟩
        rcases sub2 a z with k | k
        · rcases sub a k with k | k
          · exact .inl k
          · exact .inr (List.mem_append_left _ k)
        · exact .inr (List.mem_append_right _ k)
  | [], _ :: _, _, _, _, _, _, _, _, _, _, e => by cases e
  | _ :: _, [], _, _, _, _, _, _, _, _, _, e => by cases e
theorem fx_sets : ∀ {is : List Nat} {xs : List V} {σ : L2.St}, (∀ i ∈ is, i ∉ L) → (∀ p ∈ b.fx, σ[p.1]? = some (some p.2)) → ∀ p ∈ b.fx, (setsSt is xs σ)[p.1]? = some (some p.2)
  | [], _, _, _, h => h
  | _ :: _, [], _, _, h => h
  | i :: is, x :: xs, _, hi, h => fx_sets (is := is) (fun j hj => hi j (List.mem_cons_of_mem _ hj)) (fx_set (hi i (List.mem_cons_self ..)) h)
theorem SS.sets {is : List Nat} {ss : List Slot} {xs : List V} {cs : List Addr} (hL : ∀ i ∈ is, i ∉ L) (S : SS R b g t ρ σ H) (w : Grow R g H g' H' t') (h : SlotsOk R g' H' ss (xs.map some) cs) (hn : ∀ a ∈ cs, Fr H a) (e : setsE is ss ρ = some ρ') : SS R b g' t' ρ' (setsSt is xs σ) H' := by
  obtain ⟨as, q, n⟩ := S.sl
  obtain ⟨bs, q', sub⟩ := SlotsOk.sets h (q.grow w) (fun a z z' => let ⟨_, e, u⟩ := q.at a z'; (hn a z).usr e u) e
  refine ⟨S.gr.trans b.ok w, S.le.trans w.le, ⟨bs, q', fun a z => ?_⟩, fx_sets hL S.fx⟩
  rcases sub a z with k | k
  · exact n a k
  · exact S.gr.fr0 b.ok (hn a k)
theorem pa_nilS : PA X [] (wAS R E aSnil) := PA_imp pa_nil fun σ H Q ⟨g, t, ρ, S, w⟩ => W1.at S.ok w [] [] .nil fun a z => by cases z
theorem pa_consS {e : Expr} {es : List Expr} {fs : DSl} {ga : Env → M (List Slot)} (he : PE X e (wSl R E fs)) (hr : PA X es (wAS R E ga)) (hs : starEach (e :: es) X.env = (false, eval e X.env) :: starEach es X.env) : PA X (e :: es) (wAS R E (aScons fs ga)) :=
  PA_imp (pa_cons he hr hs) fun σ H Q ⟨g, t, ρ, S, w⟩ => ⟨g, t, ρ, S, (W1.bnd S.ok w).mono fun g1 H1 t1 s w1 k x as r hn => ⟨g1, t1, ρ, S.grow w1, (W1.bnd w1.ok k).mono fun g2 H2 t2 ss w2 k2 xs bs rs hn2 =>
    W1.at w2.ok k2 (x :: xs) (as ++ bs) (.cons (r.grow w2) rs fun a z z' => let ⟨_, e, u⟩ := r.at a z; (hn2 a z').usr e u) fun a z => by
      rcases List.mem_append.mp z with z | z
      · exact hn a z
      · exact w1.fr0 S.ok (hn2 a z)⟩⟩
theorem par_go {is : List Nat} {ga : Env → M (List Slot)} {k : L2.St → Hp → Prop} (hL : ∀ i ∈ is, i ∉ L) (S : SS R b g t ρ σ H) (hk : EO R b Dn E (sPar is ga ρ t)) :
    W1 R g H (ga ρ t) (fun g' H' t' ss => ∀ xs as, SlotsOk R g' H' ss (xs.map some) as → (∀ a ∈ as, Fr H a) → ss.length = is.length ∧ ∀ H2, Grow R g' H' g' H2 t' → (∀ a, H' a ≠ none → H2 a = H' a) → Dn.nx (setsSt is xs σ) H2) E :=
  (EO.bnd S hk).mono fun g' H' t' ss w k xs as r hn => by
    cases e : setsE is ss ρ with
    | none => simp only [e] at k; exact (k : False).elim
    | some ρ' =>
      simp only [e] at k
      refine ⟨?_, fun H2 w2 _ => k _ _ _ (S.sets hL (w.trans S.ok w2) (r.grow w2) hn e)⟩
      clear k r hn
      induction is generalizing ss ρ with
      | nil => cases ss with
        | nil => rfl
        | cons _ _ => cases e
      | cons i is ih => cases ss with
        | nil => cases e
        | cons s ss =>
          simp only [List.length_cons, Nat.add_right_cancel_iff]
          exact ih2 (i := i) e
where
  ih2 {i : Nat} {is : List Nat} {s : Slot} {ss : List Slot} {ρ ρ' : Env} (e : setsE (i :: is) (s :: ss) ρ = some ρ') : ss.length = is.length := by
    have : ∀ {is : List Nat} {ss : List Slot} {ρ ρ' : Env}, setsE is ss ρ = some ρ' → ss.length = is.length := by
      intro is
      induction is with
      | nil => intro ss ρ ρ' e; cases ss with
        | nil => rfl
        | cons _ _ => cases e
      | cons i is ih => intro ss ρ ρ' e; cases ss with
        | nil => cases e
        | cons s ss => simp only [List.length_cons, Nat.add_right_cancel_iff]; exact ih (ρ := ρ.set i s) e
    exact this (ρ := ρ.set i s) e
theorem SlotsOk.lenV : ∀ {ss : List Slot} {σ : L2.St} {as : List Addr}, SlotsOk R g H ss σ as → ss.length = σ.length
  | _, _, _, .nil => rfl
  | _, _, _, .cons _ r _ => by simp [SlotsOk.lenV r]
theorem ps_par2D {i j : Nat} {x y : Str} {e1 e2 : Expr} {ga : Env → M (List Slot)} {px py pt pos : Pos} {kt k2 pt2} (hL : ∀ m ∈ [i, j], m ∉ L) (hc : X.calm = true) (hN : X.N.Nodup) (hi : X.N[i]? = some x) (hj : X.N[j]? = some y) (hij : i ≠ j)
    (hx : X.env.scope.names.lookup x = some .local) (hy : X.env.scope.names.lookup y = some .local) (ha : PA X [e1, e2] (wAS R E ga))
    (hw : swappedStores [.Tuple [.Name x px, .Name y py] kt pt] (.Tuple [e1, e2] k2 pt2) X.env = pure (some [x, y]))
    (hs : swapsWithSole [.Tuple [.Name x px, .Name y py] kt pt] (.Tuple [e1, e2] k2 pt2) pos.line X.env = pure false) :
    PS X (.Assign [.Tuple [.Name x px, .Name y py] kt pt] (.Tuple [e1, e2] k2 pt2) pos) (wS R L E (sPar [i, j] ga)) :=
  PS_imp (ps_par hc hN hi hj hij hx hy ha hw hs) fun Dn σ H ⟨b, g, t, ρ, S, k⟩ => ⟨g, t, ρ, S.rel, (par_go (k := fun _ _ => True) hL S k).mono fun g' H' t' ss w k xs as r hn => by
    obtain ⟨hl, k⟩ := k xs as r hn
    have hl2 := r.lenV
    rw [hl, List.length_map] at hl2
    match xs, hl2 with
    | [v, u], _ => exact ⟨v, u, rfl, k H' (Grow.refl w.ok) fun _ _ => rfl⟩⟩
theorem ps_par3D {i j l : Nat} {x y z : Str} {e1 e2 e3 : Expr} {ga : Env → M (List Slot)} {px py pz pt pos : Pos} {kt k2 pt2} (hL : ∀ m ∈ [i, j, l], m ∉ L) (hc : X.calm = true) (hN : X.N.Nodup) (hi : X.N[i]? = some x) (hj : X.N[j]? = some y) (hl : X.N[l]? = some z) (hij : i ≠ j) (hil : i ≠ l) (hjl : j ≠ l)
    (hx : X.env.scope.names.lookup x = some .local) (hy : X.env.scope.names.lookup y = some .local) (hz : X.env.scope.names.lookup z = some .local) (ha : PA X [e1, e2, e3] (wAS R E ga))
    (hw : swappedStores [.Tuple [.Name x px, .Name y py, .Name z pz] kt pt] (.Tuple [e1, e2, e3] k2 pt2) X.env = pure (some [x, y, z]))
    (hs : swapsWithSole [.Tuple [.Name x px, .Name y py, .Name z pz] kt pt] (.Tuple [e1, e2, e3] k2 pt2) pos.line X.env = pure false) :
    PS X (.Assign [.Tuple [.Name x px, .Name y py, .Name z pz] kt pt] (.Tuple [e1, e2, e3] k2 pt2) pos) (wS R L E (sPar [i, j, l] ga)) :=
  PS_imp (ps_par3 hc hN hi hj hl hij hil hjl hx hy hz ha hw hs) fun Dn σ H ⟨b, g, t, ρ, S, k⟩ => ⟨g, t, ρ, S.rel, (par_go (k := fun _ _ => True) hL S k).mono fun g' H' t' ss w k xs as r hn => by
    obtain ⟨hl, k⟩ := k xs as r hn
    have hl2 := r.lenV
    rw [hl, List.length_map] at hl2
    match xs, hl2 with
    | [v, u, w'], _ => exact ⟨v, u, w', rfl, k H' (Grow.refl w.ok) fun _ _ => rfl⟩⟩
/-! the pair is made and taken apart -/
def gNs (is : List Nat) : TGs := fun vs σ H Q => vs.length = is.length ∧ Q (setsSt is vs σ) H
theorem pgs_nilN : PGs X [] (gNs []) := PGs_imp pgs_nil fun vs σ H Q ⟨h, q⟩ => by
  cases vs with
  | nil => exact ⟨rfl, q⟩
  | cons _ _ => cases h
theorem pgs_consN {i : Nat} {is : List Nat} {e : Expr} {es : List Expr} (h : PG X e (gName i)) (hs : PGs X es (gNs is)) (ha : (assignEach (e :: es) X.env).map (·.2) = assign e X.env :: (assignEach es X.env).map (·.2)) : PGs X (e :: es) (gNs (i :: is)) :=
  PGs_imp (pgs_cons h hs ha) fun vs σ H Q ⟨h, q⟩ => by
    cases vs with
    | nil => cases h
    | cons v vs => exact ⟨v, vs, rfl, by simpa using h, q⟩
theorem ps_parD {es ts : List Expr} {is : List Nat} {ga : Env → M (List Slot)} {pt pos : Pos} {kt k2 : Nat} {pt2 : Pos} (hL : ∀ i ∈ is, i ∉ L) (hc : X.calm = true) (hg : PGs X ts (gNs is)) (hn : (assignEach ts X.env).length = is.length) (hst : (assignEach ts X.env).findIdx? (·.1) = none)
    (ha : PA X es (wAS R E ga)) (hl : is.length ≤ 16777216) (hs : swapsWithSole [.Tuple ts kt pt] (.Tuple es k2 pt2) pos.line X.env = pure false) (hw : swappedStores [.Tuple ts kt pt] (.Tuple es k2 pt2) X.env = pure none)
    (h1 : (assignEach [.Tuple ts kt pt] X.env).map (·.2) = [assign (.Tuple ts kt pt) X.env]) :
    PS X (.Assign [.Tuple ts kt pt] (.Tuple es k2 pt2) pos) (wS R L E (sPar is ga)) :=
  PS_imp (ps_asg (pe_tup ha) (pg_tup hc hg hn hst) hs hw h1) fun Dn σ H ⟨b, g, t, ρ, S, k⟩ => ⟨g, t, ρ, S.rel, (par_go (k := fun _ _ => True) hL S k).mono fun g' H' t' ss w k xs as r hn => by
    obtain ⟨hl2, k⟩ := k xs as r hn
    have hl3 := r.lenV
    rw [hl2, List.length_map] at hl3
    have z := sizeLine_eq
    refine ⟨by omega, fun p hp => ⟨p, xs, rfl, .of upd_same, hl3.symm, hl3.symm, k _ (Grow.laid w.ok hp) fun a h => upd_ne fun e => h (by rw [e]; exact hp)⟩⟩⟩

/-! ### targets in statements -/
def wGS (R : Rc) (L : List Nat) (tgt : Tg) : TG := fun v σ H Q => ∃ (b : Bs R L) (g : Gh) (t : Tp) (ρ ρ' : Env) (d : D), SS R b g t ρ σ H ∧ Rp R g v d ∧ bindE tgt d ρ = some ρ' ∧ ∀ σ', SS R b g t ρ' σ' H → Q σ' H
def wGsS (R : Rc) (L : List Nat) (is : List Nat) : TGs := fun vs σ H Q => ∃ (b : Bs R L) (g : Gh) (t : Tp) (ρ ρ' : Env) (ds : List D), SS R b g t ρ σ H ∧ RpAll R g vs ds ∧ setAllE is ds ρ = some ρ' ∧ ∀ σ', SS R b g t ρ' σ' H → Q σ' H
theorem pg_nmS {i : Nat} {x : Str} {pos : Pos} (hL : i ∉ L) (hN : X.N.Nodup) (hi : X.N[i]? = some x) (hx : Loc X.env.scope x) (hf : X.fn x = true ∨ X.env.scope.names.lookup x = some .local) : PG X (.Name x pos) (wGS R L (.nm i)) :=
  PG_imp (pg_name hN hi hx hf) fun v σ H Q ⟨b, g, t, ρ, ρ', d, S, r, e, k⟩ => by
    have e' : ρ.set i (.val d) = ρ' := Option.some.inj e
    subst e'
    exact k _ (S.setV hL r)
theorem pgs_nilS : PGs X [] (wGsS R L []) := PGs_imp pgs_nil fun vs σ H Q ⟨b, g, t, ρ, ρ', ds, S, r, e, k⟩ => by
  cases ds with
  | nil =>
    cases r
    have e' : ρ = ρ' := Option.some.inj e
    subst e'
    exact ⟨rfl, k _ S⟩
  | cons d ds => cases e
theorem pgs_consS {e : Expr} {es : List Expr} {i : Nat} {is : List Nat} (h : PG X e (wGS R L (.nm i))) (hs : PGs X es (wGsS R L is)) (ha : (assignEach (e :: es) X.env).map (·.2) = assign e X.env :: (assignEach es X.env).map (·.2)) : PGs X (e :: es) (wGsS R L (i :: is)) :=
  PGs_imp (pgs_cons h hs ha) fun vs σ H Q ⟨b, g, t, ρ, ρ', ds, S, r, e, k⟩ => by
    cases ds with
    | nil => cases e
    | cons d ds =>
      cases r with
      | cons r1 r2 => exact ⟨_, _, rfl, b, g, t, ρ, _, d, S, r1, rfl, fun σ' S' => ⟨b, g, t, _, ρ', ds, S', r2, e, k⟩⟩
theorem pg_tpS {es : List Expr} {k : Nat} {pos : Pos} {is : List Nat} (hK : X.K = R.K) (hc : X.calm = true) (h : PGs X es (wGsS R L is)) (hn : (assignEach es X.env).length = is.length) (hst : (assignEach es X.env).findIdx? (·.1) = none) : PG X (.Tuple es k pos) (wGS R L (.tup is)) :=
  PG_imp (pg_tup hc h hn hst) fun v σ H Q ⟨b, g, t, ρ, ρ', d, S, r, e, q⟩ => by
    cases d with
    | tuple ds =>
      cases r with
      | tup hp rr =>
        refine ⟨_, _, rfl, .of (S.ok.sub _ _ hp), ?_, b, g, t, ρ, ρ', ds, S, rr, e, q⟩
        rw [rr.length]; exact setAllE_len e
    | _ => exact absurd e (by simp [bindE])
theorem ps_unpD {tg e : Expr} {tgt : Tg} {fe : DE} {pos : Pos} (he : PE X e (wE R E fe)) (hg : PG X tg (wGS R L tgt)) (hs : swapsWithSole [tg] e pos.line X.env = pure false) (hw : swappedStores [tg] e X.env = pure none)
    (h1 : (assignEach [tg] X.env).map (·.2) = [assign tg X.env]) : PS X (.Assign [tg] e pos) (wS R L E (sUnp tgt fe)) :=
  PS_imp (ps_asg he hg hs hw h1) fun Dn σ H ⟨b, g, t, ρ, S, k⟩ => ⟨g, t, ρ, S.rel, (EO.bnd S k).mono fun g' H' t' d w k x r => by
    cases e : bindE tgt d ρ with
    | none => simp only [e] at k; exact (k : False).elim
    | some ρ' =>
      simp only [e] at k
      exact ⟨b, g', t', ρ, ρ', d, S.grow w, r, e, fun σ' S' => k _ _ _ S'⟩⟩

/-! ### loops -/
def sLoop (next : Env → M Fl) : Fl → M Fl
  | .nx ρ => next ρ
  | .ct ρ => next ρ
  | .bk ρ => ret (.nx ρ)
  | .rt d => ret (.rt d)
def sForL (tg : Tg) (body : DS) : List D → DS
  | [], ρ => ret (.nx ρ)
  | x :: xs, ρ => match bindE tg x ρ with
    | some ρ1 => bnd (body ρ1) (sLoop (sForL tg body xs))
    | none => bad
def sFor (tg : Tg) (it : DA) (body : DS) : DS := fun ρ => bnd (it ρ) fun xs => sForL tg body xs ρ
def sWhile (is : List Nat) (c : DT) (body : DS) : Nat → DS
  | 0, _ => bad
  | n + 1, ρ0 => bnd (c (fzs is ρ0)) fun k => if k = true then bnd (body (fzs is ρ0)) (sLoop (sWhile is c body n)) else ret (.nx (fzs is ρ0))
theorem EO.weak {b' : Bs R L} {o : Out Fl} (h : EO R b Dn E o) (h0 : b'.g0 = b.g0) (hH : b'.H0 = b.H0) (i : ∀ g t ρ σ H, SS R b' g t ρ σ H → SS R b g t ρ σ H) : EO R b' Dn E o := by
  cases o with
  | ok a t =>
    cases a with
    | nx ρ => exact fun g σ H S => h g σ H (i _ _ _ _ _ S)
    | bk ρ => exact fun g σ H S => h g σ H (i _ _ _ _ _ S)
    | ct ρ => exact fun g σ H S => h g σ H (i _ _ _ _ _ S)
    | rt d => intro g H x w r; rw [h0, hH] at w; exact h g H x w r
  | exc c d t => intro g' H' C dd fs v w; rw [h0, hH] at w; exact h g' H' C dd fs v w
  | bad => exact h
/-- a body inside a loop -/
theorem EO_loop {body next : DS} {N : L2.St → Hp → Prop} (h : EO R b Dn E (bnd (body ρ) (sLoop next) t)) (hN : ∀ ρ' t', EO R b Dn E (next ρ' t') → ∀ g σ H, SS R b g t' ρ' σ H → N σ H) : EO R b { Dn with nx := N, ct := N, bk := Dn.nx } E (body ρ t) := by
  unfold Kw.bnd at h
  revert h
  cases body ρ t with
  | ok a t' =>
    intro h
    cases a with
    | nx ρ' => exact hN ρ' t' h
    | ct ρ' => exact hN ρ' t' h
    | bk ρ' => exact h
    | rt d => exact h
  | exc c d t' => exact fun h => h
  | bad => exact fun h => h
theorem ps_whileD {c : Expr} {body : List Stmt} {fc : DT} {fb : DS} {pos : Pos} (is : List Nat) (n : Nat) (hp : PassesOwn (model X.prog X.w) X.A X.env X.xe) (hc : PT X c (wT R E fc)) (hb : PSs X body (wS R L E fb)) : PS X (.While c body [] pos) (wS R L E (sWhile is fc fb n)) :=
  PS_imp (ps_while hp hc hb) fun Dn σ H ⟨b, g, t, ρ, S, k⟩ => by
    refine ⟨fun m σ H => ∃ g t ρ, SS R b g t ρ σ H ∧ EO R b Dn E (sWhile is fc fb m ρ t), ⟨n, g, t, ρ, S, k⟩, fun m σ H ⟨g, t, ρ, S, k⟩ => ?_⟩
    cases m with
    | zero => exact (k : False).elim
    | succ m =>
      obtain ⟨g', S'⟩ := S.fzs is
      refine ⟨g', t, _, S'.rel, (EO.bnd S' k).mono fun g1 H1 t1 b1 w1 k1 => ?_⟩
      cases b1 with
      | false => simp only [Bool.false_eq_true, if_false] at k1 ⊢; exact k1 _ _ _ (S'.grow w1)
      | true =>
        simp only [if_true] at k1 ⊢
        refine ⟨fun σ' H' => ∃ g t ρ, SS R b g t ρ σ' H' ∧ EO R b Dn E (sWhile is fc fb m ρ t), fun σ' H' q => ⟨m, Nat.lt_succ_self m, q⟩, b, g1, t1, _, S'.grow w1, EO_loop k1 fun ρ' t' kk g σ H S2 => ⟨g, t', ρ', S2, kk⟩⟩
theorem ps_forD {tg iter : Expr} {body : List Stmt} {tgt : Tg} {fi : DA} {fb : DS} {pos : Pos} (hp : PassesOwn (model X.prog X.w) X.A X.env X.xe) (hc : X.calm = true) (hi : PI X tg iter (wI R E fi)) (hg : PG X tg (wGS R L tgt)) (hb : PSs X body (wS R L E fb))
    (hs : ∀ x, foldedSetIterable iter X.env x = pure x) : PS X (.For tg iter body [] pos) (wS R L E (sFor tgt fi fb)) :=
  PS_imp (ps_for hp hc hi hg hb hs) fun Dn σ H ⟨b, g, t, ρ, S, k⟩ => ⟨g, t, ρ, S.rel, (EO.bnd S k).mono fun g1 H1 t1 ds w1 k1 J hJ => by
    let b' : Bs R L := { b with gB := g1 }
    have S1 := S.grow w1
    have S1' : SS R b' g1 t1 ρ σ H1 := ⟨S1.gr, Gle.refl _, S1.sl, S1.fx⟩
    have hb' : ∀ g t ρ σ H, SS R b' g t ρ σ H → SS R b g t ρ σ H := fun g t ρ σ H S => ⟨S.gr, S1.le.trans S.le, S.sl, S.fx⟩
    have hF : ∀ g t ρ σ H, SS R b' g t ρ σ H → Frz R g1 g t H := fun g t ρ σ H S => ⟨S.le, S.ok⟩
    refine ⟨fun i m σ H => m + i = ds.length ∧ ∃ g2 t2 ρ2, SS R b' g2 t2 ρ2 σ H ∧ EO R b' Dn E (sForL tgt fb (ds.drop i) ρ2 t2), ⟨ds.length, rfl, g1, t1, ρ, S1', k1.weak rfl rfl hb'⟩, fun i m σ H ⟨hm, g2, t2, ρ2, S2, k2⟩ => ?_⟩
    cases e : ds[i]? with
    | none =>
      have hi : i = ds.length := by have := List.getElem?_eq_none_iff.mp e; omega
      have hd : ds.drop i = [] := List.drop_eq_nil_of_le (by omega)
      rw [hd] at k2
      exact .inl ⟨by rw [hi]; exact hJ.stop g2 t2 H (hF _ _ _ _ _ S2), k2 _ _ _ S2⟩
    | some d =>
      rw [drop_next e] at k2
      have hlen : i < ds.length := (List.getElem?_eq_some_iff.mp e).1
      refine .inr ⟨hJ.go g2 t2 H (hF _ _ _ _ _ S2) i d e, fun σ' H' => ∃ g2 t2 ρ2, SS R b' g2 t2 ρ2 σ' H' ∧ EO R b' Dn E (sForL tgt fb (ds.drop (i + 1)) ρ2 t2), fun σ' H' q => ⟨m - 1, by omega, by omega, q⟩, fun x H' hy => ?_⟩
      obtain ⟨g3, w3, rx⟩ := hJ.yld g2 t2 H (hF _ _ _ _ _ S2) i d x H' e hy
      have S3 := S2.grow w3
      cases eb : bindE tgt d ρ2 with
      | none => simp only [sForL, eb] at k2; exact (k2 : False).elim
      | some ρ3 =>
        simp only [sForL, eb] at k2
        exact ⟨b', g3, t2, ρ2, ρ3, d, S3, rx, eb, fun σ' S' => ⟨b', g3, t2, ρ3, S', EO_loop k2 fun ρ' t' kk g σ H S2 => ⟨g, t', ρ', S2, kk⟩⟩⟩⟩

/-! ### name op= int; the tape -/
def augM : Operator → D → D → M D
  | .Add, .int i, .int j => ret (.int (i + j))
  | .Sub, .int i, .int j => ret (.int (i - j))
  | .Mult, .int i, .int j => if -1000000000 ≤ i ∧ i ≤ 1000000000 then ret (.int (i * j)) else bad
  | .BitXor, .int i, .int j => ret (.int (Builtin.bitXor i j))
  | _, _, _ => bad
def sAug (i : Nat) (op : Operator) (e : DE) : DS := fun ρ => bnd (getV ρ i) fun x => bnd (e ρ) fun y => bnd (augM op x y) fun z => ret (.nx (ρ.set i (.val z)))
def ipA (op : Operator) : TIp := fun x y H Q => ∃ i j, x = .int i ∧ y = .int j ∧ ((op = .Add ∧ Q (.int (i + j)) H) ∨ (op = .Sub ∧ Q (.int (i - j)) H) ∨ (op = .Mult ∧ CMul i j ∧ Q (.int (i * j)) H) ∨ (op = .BitXor ∧ Q (.int (Builtin.bitXor i j)) H))
theorem ip_any (op : Operator) : PIp X op (ipA op) := fun pins s σ H x y v u Q I r1 r2 ⟨i, j, e1, e2, q⟩ => by
  rcases q with ⟨rfl, q⟩ | ⟨rfl, q⟩ | ⟨rfl, c, q⟩ | ⟨rfl, q⟩
  · exact ip_add pins s σ H x y v u Q I r1 r2 ⟨i, j, e1, e2, q⟩
  · exact ip_sub pins s σ H x y v u Q I r1 r2 ⟨i, j, e1, e2, q⟩
  · exact iop_mul pins s σ H x y v u Q I r1 r2 ⟨i, j, e1, e2, c, q⟩
  · exact iop_xor pins s σ H x y v u Q I r1 r2 ⟨i, j, e1, e2, q⟩
theorem ps_augD {i : Nat} {x : Str} {e : Expr} {fe : DE} {op : Operator} {p pos : Pos} (hL : i ∉ L) (hN : X.N.Nodup) (hi : X.N[i]? = some x) (hx : Loc X.env.scope x) (he : PE X e (wE R E fe)) (hf : X.fn x = true ∨ X.env.scope.names.lookup x = some .local) : PS X (.AugAssign (.Name x p) op e pos) (wS R L E (sAug i op fe)) :=
  PS_imp (ps_aug hN hi hx he (ip_any op) hf) fun Dn σ H ⟨b, g, t, ρ, S, k⟩ => by
    cases e : ρ[i]? with
    | none => simp only [sAug, getV, e] at k; exact (k : False).elim
    | some s =>
      cases s <;> (simp only [sAug, getV, e] at k) <;> try exact (k : False).elim
      rename_i d
      obtain ⟨as, sl, hn⟩ := id S.sl
      obtain ⟨v1, bs, e1, hs, _⟩ := sl.get e
      cases hs with
      | val r =>
        have k' := W1.at S.ok (EO.bnd S k)
        refine ⟨_, e1, g, t, ρ, S.rel, (EO.bnd S k').mono fun g1 H1 t1 y w1 k1 yv ry => ?_⟩
        have S1 := S.grow w1
        have r1 := r.mono w1.le
        have k2 := EO.bnd S1 k1
        cases d <;> try (cases op <;> exact (k2 : False).elim)
        cases y <;> try (cases op <;> exact (k2 : False).elim)
        rename_i a c
        refine ⟨a, c, Rv.int (H := H1) (.inl r1), Rv.int (H := H1) (.inl ry), ?_⟩
        cases op <;> try exact (k2 : False).elim
        · exact .inl ⟨rfl, W1.at S1.ok k2 _ _ _ (S1.setV hL (.int _))⟩
        · exact .inr (.inl ⟨rfl, W1.at S1.ok k2 _ _ _ (S1.setV hL (.int _))⟩)
        · obtain ⟨hc, k2⟩ := W1_ite k2
          exact .inr (.inr (.inl ⟨rfl, .inl (by omega), W1.at S1.ok k2 _ _ _ (S1.setV hL (.int _))⟩))
        · exact .inr (.inr (.inr ⟨rfl, W1.at S1.ok k2 _ _ _ (S1.setV hL (.int _))⟩))
/-- a new list becomes the tape -/
def eTape (f : DA) : DE := fun ρ => bnd (f ρ) fun ds t => match t with
  | none => .ok tapeD (some ds)
  | some _ => .bad
theorem pe_tapeD {e : Expr} {f : DA} (h : PE X e (wL R E f)) : PE X e (wE R E (eTape f)) := PE_imp h fun σ H Q ⟨g, t, ρ, S, w⟩ => ⟨g, t, ρ, S, (W1.bnd S.ok w).mono fun g' H' t' ds w' k p vs hp r => by
  cases t' with
  | some _ => exact (k : False).elim
  | none =>
    have ok := w'.ok
    have nt : g'.tp = none := by
      cases e : g'.tp with
      | none => rfl
      | some q => obtain ⟨_, _, z, _⟩ := ok.tape q e; cases z
    have le : Gle g' { g' with tp := some p } := ⟨fun b u e => e, fun q e => by rw [nt] at e; cases e⟩
    refine k { g' with tp := some p } _ ⟨le, fun q e => .inr (by cases e; exact .of hp), fun c u e n _ => (by rw [upd_ne (ne_of_none e hp)]; exact e), fun c u e => .inl e, ⟨fun c u e => ?_, fun q e => ?_, fun z => (by cases z), tabs_upd (fun u e => by rw [hp] at e; cases e) ok.tb, ok.ft⟩⟩ _ (.tape rfl)
    · rw [upd_ne (ne_of_none (ok.sub c u e) hp)]; exact ok.sub c u e
    · cases e
      exact ⟨ds, vs, rfl, ok.freeF hp, upd_same, r.mono le⟩⟩
end
end Kw
namespace Kw
open PySem PySem.Spec PyProof.Rows L2
/-! ### != of own instances; isinstance of an own class -/
structure EqC (K : PySem.W.Frag) (C f : Addr) : Prop where
  ex : ∃ (nm q : Str) (N : Addr) (bs : List Value) (hdct : Bool) (sn : List Str) (sub : List Value) (ab : Bool) (col : Option Bool) (dd : Option Addr) (k0 k1 k2 k3 k5 : Option Value) (newId : String) (of : Obj),
    K.lookup C = some (excClassObj nm q C N bs [.type "object"] hdct sn sub ab col dd k0 k1 k2 k3 k5 newId) ∧ PySem.W.nsOkIn K N = true ∧ PySem.W.nsIn K N "__eq__" = some (some (.ref f)) ∧ PySem.W.nsIn K N "__ne__" = some none ∧ K.lookup f = some of ∧ of.cls = .type "function"
theorem ns_of {K : PySem.W.Frag} {h : Heap} {N : Addr} {mg : Str → Option Value} {n : Str} {v : Value} (X : K.In h) (G : h.Ns N mg) (e : PySem.W.nsIn K N n = some (some v)) : mg n = some v := by
  obtain ⟨o, es, ep, ho, hd, _, hf⟩ := G
  unfold PySem.W.nsIn at e
  split at e
  · rename_i c d es' n' sl q
    have := X _ _ q
    rw [ho] at this
    cases this
    cases hd
    split at e
    · rename_i he
      rw [← hf]
      unfold nsFind findBy
      rw [← Array.find?_toList, he]
      simp only [Option.some.injEq] at e
      rw [← e]
      rfl
    · split at e <;> cases e
  · cases e
theorem EqC.no {K : PySem.W.Frag} {h : Heap} {C f x : Addr} {o : Obj} (e : EqC K C f) (X : K.In h) (hx : h.get? x = some o) (hc : o.cls = .ref C) : h.OwnEqNoNe x C f "object" [.type "object"] := by
  obtain ⟨nm, q, N, bs, hdct, sn, sub, ab, col, dd, k0, k1, k2, k3, k5, newId, of, h1, h2, h3, h4, h5, h6⟩ := e.ex
  have G : h.Ns N (h.nsMap N) := .of_isNs (PySem.W.isNs_of_in X h2)
  exact ⟨o, of, nm, q, N, bs, hdct, sn, sub, ab, col, dd, k0, k1, k2, k3, k5, newId, h.nsMap N, _, hx, hc, X _ _ h1, G, ns_of X G h3, X _ _ h5, h6, F.cmp_object.mro, F.cmp_object.eq.lookup, PySem.W.ns_none_of X G h4⟩
section
variable {X : Cx} {R : Rc} {E : XK}
def rNeW (C : Addr) (sp : Sp) (E : XK) : R2 := fun x y H Q => ∃ a b dx dy fs gs, x = V.ref a ∧ y = V.ref b ∧ H a = some (.ins C dx fs) ∧ H b = some (.ins C dy gs) ∧ sp [.ref a, .ref b] H (fun v H' => ∃ k, v = .bl k ∧ Q (.bl (!k)) H') E
theorem op_neW {CX : CXT} {n : Nat} {C f : Addr} {fd : FuncData} {ps : List Str} {sp : Sp} (F0 : FnOk X.prog X.w X.K X.mg X.base CX n f fd ps sp) (e : EqC X.K C f) (hb : Binds X.K fd ps []) (hx : Passes CX X E) (hr : Room (n + 1) X.A) : OpR X (compareOp .NotEq) (rNeW C sp E) := by
  intro pins s σ H x y v u Q I rx ry ⟨a, b, dx, dy, fs, gs, ex, ey, ha, hb', hsp⟩
  subst ex ey
  cases rx
  cases ry
  obtain ⟨mA, J, _⟩ := ins_get I.hok ha
  obtain ⟨mB, J', _⟩ := ins_get I.hok hb'
  have ga := J.obj
  have gb := J'.obj
  have kin : X.K.In s.heap := I.kIn
  obtain ⟨hh, gg, d, t, os⟩ := s
  refine compareOp_ne_ownEq F.cmp_object (e.no kin ga rfl) gb rfl (by have := hr.un; omega) ?_
  have r2 : Vals [V.ref a, V.ref b] [Value.ref a, Value.ref b] := .cons rfl (.cons rfl .nil)
  have e0 : Env0 X.prog X.w X.K X.mg X.base X.A.in1 X.stack ⟨hh, gg, d, t, os⟩ H := by
    have e := I.env0
    exact ⟨e.frames, e.mod, e.bs, e.bsz, e.funs, e.frf, e.hok, e.bare⟩
  have hl := F0.len _ _ _ _ hsp
  refine wpAny_call (codeAny_mono (F0.run X.A.in1 X.stack ⟨hh, gg, d, t, os⟩ H ⟨[.ref a, .ref b], []⟩ [.ref a, .ref b] [.ref a, .ref b] _ E hr.in1 e0 (by
    have := hb ⟨hh, gg, d, t, os⟩ [.ref a, .ref b] I.kIn (by simpa using hl)
    simpa using this) r2 hsp) fun r s' hq => ?_)
  cases r with
  | error e => exact hx pins σ H _ e s' I hq
  | ok fl =>
    cases fl with
    | ret w =>
      obtain ⟨z, H', I', rz, ⟨k, ek, q⟩⟩ := I.after hq
      subst ek
      cases rz
      exact ⟨k, rfl, .bl (!k), H', I', rfl, q⟩
    | next => exact False.elim hq
    | brk => exact False.elim hq
    | cont => exact False.elim hq
end
/-- the class c has an own ==, no own != -/
structure EqOk (K : PySem.W.Frag) (mg : Str → Option Value) (R : Rc) (c : Str) : Prop where
  ex : ∃ C, R.cl c = some C ∧ mg c = some (.ref C) ∧ C8.InsC K C ∧ ∀ f, PySem.W.findIn K (.ref C) "__eq__" = some (some (.ref f)) → EqC K C f
end Kw
namespace Kw
open PySem PySem.Spec PyProof.Rows L2

/-! ### defs -/
/-- a def's denotation: the number of its parameters, what it does -/
structure Fe' (F : Type) where
  n : Nat
  m : F
abbrev Fe := Fe' (List D → M D)
def spM (R : Rc) (n : Nat) (f : List D → M D) : Sp := fun vs H Q E => vs.length = n ∧ ∃ (g : Gh) (t : Tp) (ds : List D), GOk R g t H ∧ RpAll R g vs ds ∧ W1 R g H (f ds t) (fun g' H' _ d => ∀ x, Rp R g' x d → Q x H') E
/-- __init__: the instance is new and empty -/
def spI (R : Rc) (C : Addr) (n : Nat) (f : List D → M D) : Sp := fun vs H Q E => vs.length = n + 1 ∧ ∃ (x dx : Addr) (vs' : List V) (H1 : Hp) (g : Gh) (t : Tp) (ds : List D), vs = .ref x :: vs' ∧ H1 x = none ∧ H1 dx = none ∧ dx ≠ x ∧ H = upd (upd H1 dx (.own x)) x (.ins C dx []) ∧ GOk R g t H1 ∧ RpAll R g vs' ds ∧
  W1 R g H1 (f ds t) (fun g' H' _ d => Rp R g' (.ref x) d → Q .non H') E
structure FnT (P : Program) (w : World) (K : PySem.W.Frag) (mg : Str → Option Value) (base : Heap) (R : Rc) (j : Nat) (x : Str) (F : Fe) : Prop where
  ex : ∃ (f : Addr) (fd : FuncData) (ps : List Str), mg x = some (.ref f) ∧ PySem.W.keepIn K (.ref f) = true ∧ Binds K fd ps [] ∧ FnOk P w K mg base (L2.CX P w) j f fd ps (spM R F.n F.m)
/-- a method m of the class c -/
structure MtT (P : Program) (w : World) (K : PySem.W.Frag) (mg : Str → Option Value) (base : Heap) (R : Rc) (j : Nat) (m c : Str) (F : Fe) : Prop where
  ex : ∃ (C f : Addr) (fd : FuncData) (ps : List Str), R.cl c = some C ∧ Cls K C ∧ Meth K C m f ∧ Binds K fd ps [] ∧ FnOk P w K mg base (L2.CX P w) j f fd ps (spM R F.n F.m)
/-- making an instance -/
structure MkT (P : Program) (w : World) (K : PySem.W.Frag) (mg : Str → Option Value) (base : Heap) (R : Rc) (j : Nat) (x : Str) (F : Fe) : Prop where
  ex : ∃ (C f : Addr) (fd : FuncData) (ps : List Str), mg x = some (.ref C) ∧ Mk K C f ∧ Binds K fd ps [] ∧ FnOk P w K mg base (L2.CX P w) j f fd ps (spI R C F.n F.m)
section
variable {P : Program} {w : World} {K : PySem.W.Frag} {mg : Str → Option Value} {base : Heap} {R : Rc} {j k : Nat} {x m c : Str} {F : Fe}
theorem FnT.mono (h : FnT P w K mg base R j x F) (hk : j ≤ k) : FnT P w K mg base R k x F := ⟨let ⟨f, fd, ps, a, b, c, d⟩ := h.ex; ⟨f, fd, ps, a, b, c, d.mono hk⟩⟩
theorem MtT.mono (h : MtT P w K mg base R j m c F) (hk : j ≤ k) : MtT P w K mg base R k m c F := ⟨let ⟨C, f, fd, ps, a, b, c, d, e⟩ := h.ex; ⟨C, f, fd, ps, a, b, c, d, e.mono hk⟩⟩
theorem MkT.mono (h : MkT P w K mg base R j x F) (hk : j ≤ k) : MkT P w K mg base R k x F := ⟨let ⟨C, f, fd, ps, a, b, c, d⟩ := h.ex; ⟨C, f, fd, ps, a, b, c, d.mono hk⟩⟩
end
/-- the tables of what a def's text calls -/
structure Tb' (F : Type) where
  fns : List (Str × Fe' F)
  mts : List (Str × Str × Fe' F)
  mks : List (Str × Fe' F)
  fld : List Str
  /-- the def makes lambdas -/
  lam : Bool := false
  /-- the own errors that the def may name -/
  ers : List Str := []
  /-- the classes with an own == that the def may compare -/
  eqs : List Str := []
abbrev Tb := Tb' (List D → M D)
def btNames : List Str := ["len", "int", "abs", "sum", "tuple", "any", "all", "max", "min", "list", "sorted", "range", "isinstance", "dict", "set", "reversed", "enumerate", "zip", "str", "bool", "super", "ValueError"]
/-- the def's own code object and its table are known -/
def LmD (R : Rc) (base : Heap) (mg : Str → Option Value) (code : Value) (q : Str) : Prop := ∃ c P, LamX.TabB base mg c P ∧ code = .ref c ∧ (P, q ++ "<lambda>") ∈ R.tb ∧ ∀ p ∈ R.tb, p.1 = P → p.2 = q ++ "<lambda>"
abbrev LmOk (R : Rc) (X : Cx) : Prop := LmD R X.base X.mg X.env.code X.env.qual
/-- what stands around a def's text -/
structure XCx (R : Rc) (T : Tb) (X : Cx) (E : XK) : Prop where
  K : X.K = R.K
  calm : X.calm = true
  nd : X.N.Nodup
  hu : X.A.units + 100 < cLine
  kind : X.env.scope.kind = .function
  bt : ∀ x ∈ btNames, X.mg x = none
  fl : ∀ f ∈ T.fld, FldOk R f
  pass : Passes (L2.CX X.prog X.w) X E
  tab : ∃ j, Room (j + 1) X.A ∧ (∀ p ∈ T.fns, FnT X.prog X.w X.K X.mg X.base R j p.1 p.2) ∧ (∀ p ∈ T.mts, MtT X.prog X.w X.K X.mg X.base R j p.1 p.2.1 p.2.2) ∧ (∀ p ∈ T.mks, MkT X.prog X.w X.K X.mg X.base R j p.1 p.2)
  lm : T.lam = true → LmOk R X
  eq : ∀ c ∈ T.eqs, EqOk X.K X.mg R c
theorem relS_kind (scope sc : Scope) : (relS scope sc).kind = scope.kind := rfl
theorem XCx.blk {R : Rc} {T : Tb} {X : Cx} {E : XK} (h : XCx R T X E) {scope : Scope} (hk : scope.kind = .function) (s : Shared) (H : Hp) (C : Addr) (cl : List (Str × Addr)) (fp : List Addr) : XCx R T (X.blk s H scope (compEnvC scope cl C X.env) fp) E0 :=
  ⟨h.K, h.calm, h.nd, h.hu, hk, h.bt, h.fl, passL, h.tab, h.lm, h.eq⟩
section
variable {X : Cx} {R : Rc} {T : Tb} {E : XK} {F : Fe} {x m : Str} {e o : Expr} {es : List Expr} {ga : DA} {fo : DE} {p pos apos : Pos}
theorem RpAll.len {g : Gh} {vs : List V} {ds : List D} (h : RpAll R g vs ds) : vs.length = ds.length := h.length
theorem pe_fnD (h : XCx R T X E) (hF : (x, F) ∈ T.fns) (hg : Gl X x) (ha : PA X (e :: es) (wA R E ga)) (hl : ∀ t ρ ds t', ga ρ t = .ok ds t' → ds.length = F.n) (hdb : (x == ("__debug__" : Str)) = false)
    (he : starEach (e :: es) X.env = (false, eval e X.env) :: starEach es X.env) (hpl : (backTo pos (starEach es X.env)).any (·.1) = false) : PE X (.Call (.Name x p) (e :: es) [] pos) (wE R E (eCall F.m ga)) := by
  obtain ⟨j, hr, hf, _, _⟩ := h.tab
  obtain ⟨f, fd, ps, e1, e2, e3, e4⟩ := (hf _ hF).ex
  refine PE_imp (pe_call e4 (hr.mono (Nat.le_succ j)) hg e1 e2 e3 .nil h.pass ha hdb he hpl) fun σ H Q ⟨g, t, ρ, S, w⟩ => ⟨g, t, ρ, S, ?_⟩
  have w' := W1.bnd S.ok w
  revert w'
  cases eo : ga ρ t with
  | ok ds t' =>
    intro w' g' H' q xs r
    refine ⟨?_, g', t', ds, q.ok, by simpa using r, w' g' H' q⟩
    rw [List.append_nil, r.length]
    exact hl t ρ ds t' eo
  | exc c d t' => exact fun w' => w'
  | bad => exact fun w' => w'
theorem pe_fn0D (h : XCx R T X E) (hF : (x, F) ∈ T.fns) (hg : Gl X x) (hl : F.n = 0) (hdb : (x == ("__debug__" : Str)) = false) : PE X (.Call (.Name x p) [] [] pos) (wE R E (eCall F.m aNil)) := by
  obtain ⟨j, hr, hf, _, _⟩ := h.tab
  obtain ⟨f, fd, ps, e1, e2, e3, e4⟩ := (hf _ hF).ex
  refine PE_imp (pe_call0 e4 (hr.mono (Nat.le_succ j)) hg e1 e2 e3 .nil h.pass hdb) fun σ H Q ⟨g, t, ρ, S, w⟩ => ?_
  have w' := W1.at S.ok (W1.bnd S.ok w)
  exact ⟨hl.symm, g, t, [], S.ok, .nil, w'⟩
/-- o.m(..): the receiver's class is c -/
def eMeth (m c : Str) (F : List D → M D) (o : DE) (a : DA) : DE := fun ρ => bnd (o ρ) fun x => match x with
  | .dict l => match tagD l with
    | .obj c' fs => if c' = c ∧ lookD fs (.str m) = none then bnd (a ρ) fun ds => F (x :: ds) else bad
    | _ => bad
  | _ => bad
theorem fld_none {g : Gh} (f : Str) : ∀ {l : List (Str × V)} {ds : List D}, RpAll R g (l.map (·.2)) ds → lookD ((l.map fun q => PyData.str q.1).zip ds) (.str f) = none → l.lookup f = none
  | [], _, _, _ => rfl
  | (n, v) :: l, _, r, h => by
    cases r with
    | cons r1 r2 =>
      by_cases e : n = f
      · subst e
        simp [lookD, List.find?_cons, PyData.eqv] at h
      · have hb : (n == f) = false := beq_eq_false_iff_ne.mpr e
        rename_i d0 ds0
        have q : lookD ((l.map fun q => PyData.str q.1).zip ds0) (.str f) = none := by
          rw [← h]
          simp [lookD, List.find?_cons, PyData.eqv, hb]
        have : (f == n) = false := beq_eq_false_iff_ne.mpr fun z => e z.symm
        simp only [List.lookup, this]
        exact fld_none f r2 q
theorem meth_go {g : Gh} {H : Hp} {t : Tp} {ρ : Env} {σ : L2.St} {c : Str} {C : Addr} {ga : DA} {Q : VK} {ta : TA} {d : D} {v : V} (hC : R.cl c = some C) (hl : ∀ t ρ ds t', ga ρ t = .ok ds t' → ds.length + 1 = F.n) (S : SRel R g t ρ σ H) (r : Rp R g v d)
    (k : W1 R g H ((match d with
      | .dict l => match tagD l with
        | .obj c' fs => if c' = c ∧ lookD fs (.str m) = none then bnd (ga ρ) fun ds => F.m (d :: ds) else bad
        | _ => bad
      | _ => bad) t) (fun g' H' _ d => ∀ x, Rp R g' x d → Q x H') E)
    (hta : W1 R g H (ga ρ t) (fun g' H' t' ds => ∀ xs, RpAll R g' xs ds → spM R F.n F.m (v :: (xs ++ [])) H' Q E) E → ta σ H fun xs H2 => spM R F.n F.m (v :: (xs ++ [])) H2 Q E) :
    ∃ a dx fs, v = .ref a ∧ H a = some (.ins C dx fs) ∧ fs.lookup m = none ∧ ta σ H fun xs H2 => spM R F.n F.m (v :: (xs ++ [])) H2 Q E := by
  cases d <;> try exact (k : False).elim
  rename_i l
  cases et : tagD l <;> (simp only [et] at k) <;> try exact (k : False).elim
  rename_i cn fs
  obtain ⟨⟨rfl, hn⟩, k'⟩ := W1_ite k
  clear k
  obtain rfl := tag_obj et
  obtain ⟨p', C', dx, l', ds', rfl, hp, hc, rr, rfl⟩ := Rv.obj S.ok (.inl r)
  rw [hC] at hc; cases hc
  refine ⟨p', dx, l', rfl, hp, fld_none m rr hn, hta ?_⟩
  have k2 := W1.bnd S.ok k'
  clear k'
  have k' := k2
  clear k2
  revert k'
  cases eo : ga ρ t with
  | ok ds t' =>
    intro k' g' H' q xs rx
    refine ⟨?_, g', t', _, q.ok, .cons (r.mono q.le) (by simpa using rx), k' g' H' q⟩
    rw [List.append_nil, List.length_cons, rx.length]
    exact hl t ρ ds t' eo
  | exc c d t' => exact fun w' => w'
  | bad => exact fun w' => w'
theorem pe_mtD {c : Str} {pl : Sem Bool} (h : XCx R T X E) (hF : (m, c, F) ∈ T.mts) (ho : PE X o (wE R E fo)) (ha : PA X (e :: es) (wA R E ga)) (hl : ∀ t ρ ds t', ga ρ t = .ok ds t' → ds.length + 1 = F.n)
    (hst : starEach (e :: es) X.env = (false, eval e X.env) :: starEach es X.env) (hpl : (backTo pos (starEach es X.env)).any (·.1) = false)
    (ht : eval (.Call (.Attribute o m apos) (e :: es) [] pos) X.env = (do
      let ov ← eval o X.env
      standAt apos.atName
      let (f, first) ← holding [ov] (getMethod ov m pl)
      callWith pos f first (backTo pos (starEach (e :: es) X.env)) (backToKw pos (keywordEach [] X.env)))) : PE X (.Call (.Attribute o m apos) (e :: es) [] pos) (wE R E (eMeth m c F.m fo ga)) := by
  obtain ⟨j, hr, _, hm, _⟩ := h.tab
  obtain ⟨C, f, fd, ps, e1, e2, e3, e4, e5⟩ := (hm _ hF).ex
  refine PE_imp (pe_meth ho e2 e3 e5 (hr.mono (Nat.le_succ j)) e4 .nil h.pass ha hst hpl ht) fun σ H Q ⟨g, t, ρ, S, w⟩ => ⟨g, t, ρ, S, (W1.bnd S.ok w).mono fun g1 H1 t1 d w1 k v r => ?_⟩
  exact meth_go e1 hl (S.grow w1) r k fun k' => ⟨g1, t1, ρ, S.grow w1, k'⟩
theorem pe_mt0D {c : Str} {pl : Sem Bool} (h : XCx R T X E) (hF : (m, c, F) ∈ T.mts) (ho : PE X o (wE R E fo)) (hl : F.n = 1)
    (ht : eval (.Call (.Attribute o m apos) [] [] pos) X.env = (do
      let ov ← eval o X.env
      standAt apos.atName
      let (f, first) ← holding [ov] (getMethod ov m pl)
      callWith pos f first (backTo pos (starEach [] X.env)) (backToKw pos (keywordEach [] X.env)))) : PE X (.Call (.Attribute o m apos) [] [] pos) (wE R E (eMeth m c F.m fo aNil)) := by
  obtain ⟨j, hr, _, hm, _⟩ := h.tab
  obtain ⟨C, f, fd, ps, e1, e2, e3, e4, e5⟩ := (hm _ hF).ex
  refine PE_imp (pe_meth0 ho e2 e3 e5 (hr.mono (Nat.le_succ j)) e4 .nil h.pass ht) fun σ H Q ⟨g, t, ρ, S, w⟩ => ⟨g, t, ρ, S, (W1.bnd S.ok w).mono fun g1 H1 t1 d w1 k v r => ?_⟩
  exact meth_go (ta := tNil) e1 (fun t ρ ds t' e => by cases e; exact hl.symm) (S.grow w1) r k fun k' => W1.at w1.ok k' [] .nil
theorem pe_mkD (h : XCx R T X E) (hF : (x, F) ∈ T.mks) (hg : Gl X x) (ha : PA X (e :: es) (wA R E ga)) (hl : ∀ t ρ ds t', ga ρ t = .ok ds t' → ds.length = F.n) (hdb : (x == ("__debug__" : Str)) = false)
    (he : starEach (e :: es) X.env = (false, eval e X.env) :: starEach es X.env) (hpl : (backTo pos (starEach es X.env)).any (·.1) = false) : PE X (.Call (.Name x p) (e :: es) [] pos) (wE R E (eCall F.m ga)) := by
  obtain ⟨j, hr, _, _, hk⟩ := h.tab
  obtain ⟨C, f, fd, ps, e1, e2, e3, e4⟩ := (hk _ hF).ex
  refine PE_imp (pe_make e2 e4 hr hg e1 e3 .nil h.pass ha hdb he hpl) fun σ H Q ⟨g, t, ρ, S, w⟩ => ⟨g, t, ρ, S, ?_⟩
  have w' := W1.bnd S.ok w
  revert w'
  cases eo : ga ρ t with
  | ok ds t' =>
    intro w' g' H' q xs r x dx hx hdx hne
    refine ⟨?_, x, dx, xs ++ [], H', g', t', ds, rfl, hx, hdx, hne, rfl, q.ok, by simpa using r, (w' g' H' q).mono fun g2 H2 t2 d w2 k r2 => ⟨rfl, k _ r2⟩⟩
    rw [List.append_nil, List.length_cons, r.length, hl t ρ ds t' eo]
  | exc c d t' => exact fun w' => w'
  | bad => exact fun w' => w'
end

/-! ### a def's body -/
def finM : Fl → M D
  | .nx _ => ret .none
  | .rt d => ret d
  | _ => bad
def defM (f : DS) (n k : Nat) : List D → M D := fun ds => if ds.length = n then bnd (f (ds.map Slot.val ++ List.replicate (k - n) Slot.un)) finM else bad
/-- __init__: the instance's fields -/
def finI : Fl → M D
  | .nx ρ => match (ρ : List Slot)[0]? with
    | some (Slot.own d) => ret d
    | _ => bad
  | .rt .none => bad
  | _ => bad
def defI (c : Str) (f : DS) (n k : Nat) : List D → M D := fun ds => if ds.length = n then bnd (f (Slot.own (objD c []) :: (ds.map Slot.val ++ List.replicate (k - (n + 1)) Slot.un))) finI else bad
theorem slots_un {R : Rc} {g : Gh} {H : Hp} : ∀ k, SlotsOk R g H (List.replicate k Slot.un) (List.replicate k none) []
  | 0 => .nil
  | k + 1 => .cons (.un none) (slots_un k) fun a z => by cases z
theorem slots_start {R : Rc} {g : Gh} {H : Hp} {k : Nat} : ∀ {vs : List V} {ds : List D}, RpAll R g vs ds → SlotsOk R g H (ds.map Slot.val ++ List.replicate k Slot.un) (vs.map some ++ List.replicate k none) []
  | _, _, .nil => slots_un k
  | _, _, .cons r rr => .cons (.val r) (slots_start rr) fun a z => by cases z
section
variable {P : Program} {w : World} {K : PySem.W.Frag} {mg : Str → Option Value} {base : Heap} {R : Rc} {qual name : Str} {params : Arguments} {body : List Stmt} {scope : Scope} {f : Addr} {fd : FuncData} {N ps : List Str} {k : Nat}
/-- the rule for a def, at its own code -/
theorem okC {CX : CXT} {sp : Sp} (F : FunD K name qual params body scope [] [] f fd) (S : FnScope N ps scope) (len : ∀ vs H Q E, sp vs H Q E → vs.length = ps.length)
    (hbody : ∀ (A : Around) (outer : List PySem.Env) (s : Shared) (H : Hp) (vs : List V) (Q : VK) (E : XK), Room k (A.deeper (envOfC qual scope s.heap.objs.size f fd.code)) → sp vs H Q E →
      ∃ t, PSs (cxOf CX P w K mg base N qual scope f fd.code A outer s H E) body t ∧ t { nx := fun _ H' => Q .non H', rt := Q } (start N vs) H) : FnOk P w K mg base CX (k + 1) f fd ps sp := by
  obtain ⟨_, _, _, _, _, _, _, _, _, _, rfl, lk, hcd, _, _⟩ := F.ex
  exact fn_of lk hcd S len fun A outer s H vs Q E hr hsp => hbody A outer s H vs Q E hr hsp
/-- THE RULE for a def -/
theorem fn_D {fs : DS} (F : FunD K name qual params body scope [] [] f fd) (S : FnScope N ps scope)
    (hbody : ∀ (A : Around) (outer : List PySem.Env) (s : Shared) (H : Hp) (E : XK), Room k (A.deeper (envOfC qual scope s.heap.objs.size f fd.code)) →
      PSs (cxOf (L2.CX P w) P w K mg base N qual scope f fd.code A outer s H E) body (wS R [] E fs)) : FnOk P w K mg base (L2.CX P w) (k + 1) f fd ps (spM R ps.length (defM fs ps.length N.length)) := by
  refine okC F S (fun vs H Q E h => h.1) fun A outer s H vs Q E hr ⟨hl, g, t, ds, ok, r, hw⟩ => ⟨_, hbody A outer s H E hr, ?_⟩
  have hds : ds.length = ps.length := by rw [← r.length]; exact hl
  unfold defM at hw
  rw [if_pos hds] at hw
  refine ⟨⟨g, H, t, ok, g, [], fun p z => by cases z⟩, g, t, ds.map Slot.val ++ List.replicate (N.length - ps.length) Slot.un, ⟨Grow.refl ok, Gle.refl g, ⟨[], ?_, fun a z => by cases z⟩, fun p z => by cases z⟩, ?_⟩
  · unfold L2.start
    rw [hl]
    exact slots_start r
  · revert hw
    unfold Kw.bnd
    cases fs (ds.map Slot.val ++ List.replicate (N.length - ps.length) Slot.un) t with
    | ok a t' =>
      cases a with
      | nx ρ => exact fun hw g' σ H' S' => hw g' H' S'.gr _ .non
      | rt d => exact fun hw g' H' x w r => hw g' H' w x r
      | bk ρ => exact fun hw => (hw : False).elim
      | ct ρ => exact fun hw => (hw : False).elim
    | exc c d t' => exact fun hw => hw
    | bad => exact fun hw => (hw : False).elim
theorem init_D {C : Addr} {c : Str} {fs : DS} (hC : R.cl c = some C) (F : FunD K name qual params body scope [] [] f fd) {p0 : Str} (S : FnScope N (p0 :: ps) scope)
    (hbody : ∀ (A : Around) (outer : List PySem.Env) (s : Shared) (H : Hp) (E : XK), Room k (A.deeper (envOfC qual scope s.heap.objs.size f fd.code)) →
      PSs (cxOf (L2.CX P w) P w K mg base N qual scope f fd.code A outer s H E) body (wS R [0] E fs)) : FnOk P w K mg base (L2.CX P w) (k + 1) f fd (p0 :: ps) (spI R C ps.length (defI c fs ps.length N.length)) := by
  refine okC F S (fun vs H Q E h => h.1) fun A outer s H vs Q E hr ⟨hl, x, dx, vs', H1, g, t, ds, ev, hx, hdx, hne, eH, ok, r, hw⟩ => ⟨_, hbody A outer s H E hr, ?_⟩
  subst ev
  have hl' : vs'.length = ps.length := by simpa using hl
  have hds : ds.length = ps.length := by rw [← r.length]; exact hl'
  unfold defI at hw
  rw [if_pos hds] at hw
  have w1 : Grow R g H1 g (upd H1 dx (.own x)) t := Grow.laid ok hdx
  have hx1 : upd H1 dx (.own x) x = none := by rw [upd_ne (Ne.symm hne)]; exact hx
  have w2 : Grow R g (upd H1 dx (.own x)) g H t := by rw [eH]; exact Grow.laid w1.ok hx1
  have ow : OwnAt R g H x (objD c []) := by rw [eH]; exact own_new (o := .ins C dx []) (d := objD c []) w1.ok hx1 (.ins (fs := []) (ds := []) hC .nil)
  refine ⟨⟨g, H1, t, ok, g, [(0, .ref x)], fun p z => by simp at z; simp [z]⟩, g, t, Slot.own (objD c []) :: (ds.map Slot.val ++ List.replicate (N.length - (ps.length + 1)) Slot.un), ⟨w1.trans ok w2, Gle.refl g, ⟨[x] ++ [], ?_, fun a z => ?_⟩, fun p z => ?_⟩, ?_⟩
  · have e : L2.start N (V.ref x :: vs') = some (V.ref x) :: (vs'.map some ++ List.replicate (N.length - (ps.length + 1)) none) := by
      unfold L2.start
      rw [List.length_cons, hl']
      rfl
    rw [e]
    exact .cons (.own ow) (slots_start r) fun a _ z => by cases z
  · have : a = x := by simpa using z
    rw [this]; exact .of hx
  · have : p = (0, V.ref x) := by simpa using z
    subst this
    rfl
  · revert hw
    unfold Kw.bnd
    cases fs (Slot.own (objD c []) :: (ds.map Slot.val ++ List.replicate (N.length - (ps.length + 1)) Slot.un)) t with
    | ok a t' =>
      cases a with
      | nx ρ =>
        intro hw g' σ H' S'
        cases e0 : ρ[0]? with
        | none => simp only [finI, e0] at hw; exact (hw : False).elim
        | some s0 =>
          cases s0 <;> (simp only [finI, e0] at hw) <;> try exact (hw : False).elim
          rename_i d
          obtain ⟨g2, S2⟩ := S'.fz 0
          have e2 : (Kw.fz 0 ρ)[0]? = some (.val d) := by
            cases ρ with
            | nil => cases e0
            | cons a l => simp at e0; subst e0; rfl
          obtain ⟨as, sl, _⟩ := S2.sl
          obtain ⟨v, bs, e3, h3, _⟩ := sl.get e2
          have e4 := S2.fx (0, V.ref x) (by simp)
          rw [e3] at e4
          cases e4
          cases h3 with
          | val r =>
            have q := hw g2 H' S2.gr
            exact q r
      | rt d => exact fun hw => (by cases d <;> exact (hw : False).elim)
      | bk ρ => exact fun hw => (hw : False).elim
      | ct ρ => exact fun hw => (hw : False).elim
    | exc c d t' => exact fun hw => hw
    | bad => exact fun hw => (hw : False).elim
end
end Kw
namespace Kx
open PySem PyProof.Rows L2
/-! ### sets of tuples, up to 64 of them: how many -/
def ddL {α : Type} [DecidableEq α] : List α → List α
  | [] => []
  | x :: xs => if x ∈ xs then ddL xs else x :: ddL xs
theorem ddL_mem {α : Type} [DecidableEq α] {k : α} : ∀ {xs : List α}, k ∈ ddL xs ↔ k ∈ xs
  | [] => by simp [ddL]
  | x :: xs => by
    unfold ddL
    split
    · rename_i h
      rw [ddL_mem, List.mem_cons]
      exact ⟨.inr, fun z => z.elim (fun e => e ▸ h) id⟩
    · rw [List.mem_cons, List.mem_cons, ddL_mem]
theorem ddL_nodup {α : Type} [DecidableEq α] : ∀ xs : List α, (ddL xs).Nodup
  | [] => List.nodup_nil
  | x :: xs => by
    unfold ddL
    split
    · exact ddL_nodup xs
    · rename_i h
      exact List.nodup_cons.mpr ⟨fun z => h (ddL_mem.mp z), ddL_nodup xs⟩
theorem sub_len {α : Type} [DecidableEq α] : ∀ {as bs : List α}, as.Nodup → (∀ k ∈ as, k ∈ bs) → as.length ≤ bs.length
  | [], _, _, _ => Nat.zero_le _
  | a :: as, bs, h, hs => by
    obtain ⟨h1, h2⟩ := List.nodup_cons.mp h
    have hm := hs a (by simp)
    have := sub_len (bs := bs.erase a) h2 fun k hk => (List.mem_erase_of_ne (fun e => h1 (by rw [← e]; exact hk))).mpr (hs k (List.mem_cons_of_mem _ hk))
    rw [List.length_erase_of_mem hm] at this
    have := List.length_pos_of_mem hm
    simp only [List.length_cons]
    omega
/-- a set of N things at a -/
def SetN (h : Heap) (a : Addr) (N : Nat) : Prop := ∃ o es ep t, h.get? a = some o ∧ o.ExactSet ∧ o.data = .set es ep t ∧ t.fits es.size = true ∧ es.size = N
section
variable {P : Program} {w : World} {A : Around} {E : Value → Shared → Prop} {s : Shared} {a : Addr} {L : List (Addr × List Int)} {es : Array (Int × Value)} {ep : Nat} {t : SetTable}
theorem SetN.of (R : SetTR P w s.heap a L es ep t) : SetN s.heap a L.length := by
  obtain ⟨o, ho, hex, hd⟩ := R.ob
  exact ⟨o, es, ep, t, ho, hex, hd, R.fits, R.size⟩
/-- the 64th -/
theorem add_last (R : SetTR P w s.heap a L es ep t) (h63 : L.length = 63) {x : Addr} {k : List Int} (hx : IsT P w s.heap k x) (hu : A.units < cLine) {Q : Bool → Shared → Prop}
    (hQ : ∀ b h2 N, Heap.SameBut a s.heap h2 → SetN h2 a N → (k ∈ L.map (·.2) → N = 63) → (k ∉ L.map (·.2) → N = 64) → Q b { s with heap := h2 }) : wpAny (model P w) A (setAddHashed a (.ref x) (thash P w k)) Q E s := by
  obtain ⟨o, ho, hex, hd⟩ := R.ob
  have sz := R.size
  have rm := R.room
  have hm127 : t.mask = 127 := by
    rcases R.tab.mok with e | e | e
    · rw [e] at rm; omega
    · rw [e] at rm; omega
    · exact e
  unfold setAddHashed
  refine wpAny_holding ?_
  rw [show (100000 : Nat) = 99999 + 1 from rfl, setAddHashedIn_succ]
  refine wpAny_bind (wpAny_setState_of ho hd R.fits ?_)
  dsimp only
  refine wp_if_neg (by simp [byScan, Value.scannable]) ?_
  try refine wpAny_bind (wpAny_pure ?_)
  refine wpAny_bind (search_at R hx hu (fun mem => ?_) fun K nm way1 way2 => ?_)
  · dsimp only
    exact wpAny_pure (hQ false s.heap 63 (Heap.SameBut.refl a s.heap) (by rw [← h63]; exact SetN.of R) (fun _ => rfl) fun z => absurd mem z)
  · dsimp only
    refine wpAny_bind (wpAny_setState_of ho hd R.fits ?_)
    dsimp only
    obtain ⟨u1, u2, u3, u4, u5, u6, u7, u8, u9⟩ := R.tab.put way1 way2
    have pl1 : (t.put (way t.mask (thash P w k) K)).1.plain = true := u6.trans R.plain
    generalize ept : t.put (way t.mask (thash P w k) K) = pt at u1 u3 u4 u5 u6 u7 u8 u9 pl1 ⊢
    obtain ⟨t1, p⟩ := pt
    dsimp only at u1 u3 u4 u5 u6 u7 u8 u9 pl1 ⊢
    subst u1
    first
      | (refine wpAny_bind ?_; refine wp_if_pos pl1 ?_; refine hashBy_tup hx ?_)
      | refine wp_if_pos pl1 (wpAny_bind (hashBy_tup hx ?_))
    simp only [if_true]
    generalize SetTable.below t.place (way t.mask (thash P w k) K) = p at u2 u3 ⊢
    have rows1 : (SetTable.insertAt es p (thash P w k, Value.ref x)).toList = rowsOf P w (L.take p ++ (x, k) :: L.drop p) := by
      rw [SetTable.toList_insertAt, rows_put, R.rows]
    have len1 : (L.take p ++ (x, k) :: L.drop p).length = 64 := by
      rw [(put_perm L p (x, k)).length_eq, List.length_cons, h63]
    have sz1 : (SetTable.insertAt es p (thash P w k, Value.ref x)).size = 64 := by
      have q := congrArg List.length rows1
      unfold rowsOf at q
      rwa [Array.length_toList, List.length_map, len1] at q
    generalize SetTable.insertAt es p (thash P w k, Value.ref x) = es1 at rows1 sz1 ⊢
    refine wpAny_bind (wpAny_storeSet_of ho hd ?_ (by rw [sz1, sizeLine_eq]; omega))
    have tsz : t1.place.size = 64 := by
      have q := u3.sz
      rw [List.length_append, List.length_cons, List.length_take, List.length_drop, List.length_map] at q
      rw [List.length_map] at u2
      omega
    have fit1 : t1.fits es1.size = true := by
      unfold SetTable.fits SetTable.fill
      rw [u3.dm, Bool.and_eq_true, beq_iff_eq, decide_eq_true_eq]
      show t1.place.size = es1.size ∧ t1.place.size + 0 ≤ t1.mask
      omega
    have nf : ¬ t1.tooFull = true := by
      unfold SetTable.tooFull
      rw [decide_eq_true_eq, u9, List.length_map, u4]
      omega
    first
      | refine wp_if_neg (by simp [nf]) ?_
      | (refine wpAny_bind ?_; refine wp_if_neg (by simp [nf]) ?_; refine wpAny_pure ?_)
    have sb : Heap.SameBut a s.heap (s.heap.update a (Obj.putSet es1 t1)) := Heap.SameBut.update ..
    exact wpAny_pure (hQ true _ 64 sb ⟨_, es1, ep + 1, t1, store_at ho hd, ⟨hex.1, hex.2.1, hex.2.2⟩, rfl, fit1, sz1⟩ (fun z => absurd z nm) fun _ => rfl)
/-- how many the first i items make -/
def dcn (ks : List (Addr × List Int)) (i : Nat) : Nat := (ddL ((ks.take i).map (·.2))).length
theorem got_len {ks : List (Addr × List Int)} {i : Nat} (g : Got ks i L) (nd : (L.map (·.2)).Nodup) : L.length = dcn ks i := by
  unfold dcn
  have e : (L.map (·.2)).length = L.length := List.length_map _
  rw [← e]
  refine Nat.le_antisymm (sub_len nd fun z hz => ?_) (sub_len (ddL_nodup _) fun z hz => ?_)
  · obtain ⟨q, hq, rfl⟩ := List.mem_map.mp hz
    exact ddL_mem.mpr (List.mem_map.mpr ⟨q, g.sub q hq, rfl⟩)
  · obtain ⟨q, hq, rfl⟩ := List.mem_map.mp (ddL_mem.mp hz)
    exact g.all q hq
theorem dcn_in {ks : List (Addr × List Int)} {i : Nat} {p : Addr × List Int} (hp : ks[i]? = some p) (h : p.2 ∈ (ks.take i).map (·.2)) : dcn ks (i + 1) = dcn ks i := by
  unfold dcn
  rw [take_next hp, List.map_append]
  refine Nat.le_antisymm (sub_len (ddL_nodup _) fun z hz => ?_) (sub_len (ddL_nodup _) fun z hz => ?_)
  · have := ddL_mem.mp hz
    rcases List.mem_append.mp this with q | q
    · exact ddL_mem.mpr q
    · simp at q; subst q; exact ddL_mem.mpr h
  · exact ddL_mem.mpr (List.mem_append_left _ (ddL_mem.mp hz))
theorem dcn_new {ks : List (Addr × List Int)} {i : Nat} {p : Addr × List Int} (hp : ks[i]? = some p) (h : p.2 ∉ (ks.take i).map (·.2)) : dcn ks (i + 1) = dcn ks i + 1 := by
  unfold dcn
  rw [take_next hp, List.map_append]
  have nd : (p.2 :: ddL ((ks.take i).map (·.2))).Nodup := List.nodup_cons.mpr ⟨fun q => h (ddL_mem.mp q), ddL_nodup _⟩
  have e : (p.2 :: ddL ((ks.take i).map (·.2))).length = (ddL ((ks.take i).map (·.2))).length + 1 := rfl
  rw [← e]
  refine Nat.le_antisymm (sub_len (ddL_nodup _) fun z hz => ?_) (sub_len nd fun z hz => ?_)
  · rcases List.mem_append.mp (ddL_mem.mp hz) with q | q
    · exact List.mem_cons_of_mem _ (ddL_mem.mpr q)
    · simp at q; subst q; exact List.mem_cons_self
  · rcases List.mem_cons.mp hz with q | q
    · subst q; exact ddL_mem.mpr (List.mem_append_right _ (by simp))
    · exact ddL_mem.mpr (List.mem_append_left _ (ddL_mem.mp q))
/-- few enough -/
def FewD (ks : List (Addr × List Int)) : Prop := ∀ i, i < ks.length → dcn ks i + 1 < 64 ∨ (i + 1 = ks.length ∧ dcn ks i = 63)
/-- the loop of set.update -/
theorem upd_tups {I : Addr} {fp wr : List Addr} {G : Array GenState → Array GenState → Prop} {n : Nat} {Pv : Nat → Value → Prop} {St : Nat → Shared → Prop} {R : Result → Shared → Prop}
    (W : WalksS P w A.in1 I fp wr G n Pv St) (S : Addr) (nS : S ∉ fp) (ks : List (Addr × List Int)) (hn : n = ks.length) (few : FewD ks) (val : ∀ i v, Pv i v → ∃ p, ks[i]? = some p ∧ v = .ref p.1)
    (h0 : Heap) (tup : ∀ p ∈ ks, IsT P w h0 p.2 p.1) (S0 : h0.get? S = none) (w0 : ∀ b ∈ wr, h0.get? b = none) (hu : A.in1.units < cLine) :
    ∀ (d i : Nat) (s : Shared), n - i = d → i ≤ n → St i s → (∀ b o, h0.get? b = some o → s.heap.get? b = some o) → ((∃ L es ep t, SetTR P w s.heap S L es ep t ∧ Got ks i L) ∨ (i = n ∧ SetN s.heap S (dcn ks n))) →
      (∀ u, Moved (S :: wr) G s u → SetN u.heap S (dcn ks n) → (∀ b o, h0.get? b = some o → u.heap.get? b = some o) → R (.ok (.ret .none)) u) →
      codeAny (model P w) A (.builtin "set.update.loop" ⟨[.ref S, .ref I], []⟩) R s := by
  have Sw : S ∉ wr := fun q => nS (W.sub _ q)
  have sub1 : ∀ b ∈ wr, b ∈ S :: wr := fun b q => List.mem_cons_of_mem _ q
  have keep1 : ∀ {s u : Shared}, Moved wr G s u → (∀ b o, h0.get? b = some o → s.heap.get? b = some o) → ∀ b o, h0.get? b = some o → u.heap.get? b = some o := fun mv kp b o e =>
    mv.heap b o (fun q => by rw [w0 b q] at e; cases e) (kp b o e)
  intro d
  induction d with
  | zero =>
    intro i s ed hi st kp inv fin
    obtain rfl : i = n := by omega
    refine codeAny_builtin F.entry_set_update_loop ?_
    rw [Around.under_plainId F.plain_set_update_loop _]
    show wpAny _ A.in1 (pyNext (.ref I) >>= _) _ _ s
    refine wpAny_bind (W.done s _ _ st fun u mv => ?_)
    show wpAny _ A.in1 (PySem.ret Value.none) _ _ u
    refine wpAny_pure (fin u (mv.mono sub1) ?_ (keep1 mv kp))
    rcases inv with ⟨L, es, ep, t, hS, g⟩ | ⟨_, o, es, ep, t, ho, r⟩
    · obtain ⟨o, ho, hex, hd⟩ := hS.ob
      exact ⟨o, es, ep, t, mv.heap S o Sw ho, hex, hd, hS.fits, by rw [hS.size, got_len g hS.nd]⟩
    · exact ⟨o, es, ep, t, mv.heap S o Sw ho, r⟩
  | succ d ih =>
    intro i s ed hi st kp inv fin
    have lt : i < n := by omega
    rcases inv with ⟨L, es, ep, t, hS, g⟩ | ⟨q, _⟩
    case inr => exact absurd q (by omega)
    refine codeAny_builtin F.entry_set_update_loop ?_
    rw [Around.under_plainId F.plain_set_update_loop _]
    show wpAny _ A.in1 (pyNext (.ref I) >>= _) _ _ s
    refine wpAny_bind (W.item i s _ _ lt st fun v u pv st2 mv => ?_)
    obtain ⟨p, hp, rfl⟩ := val i v pv
    have kp2 := keep1 mv kp
    have sub2 : ∀ q ∈ L, q ∈ ks := fun q hq => List.mem_of_mem_take (g.sub q hq)
    have hS2 : SetTR P w u.heap S L es ep t := hS.keep (fun o e => mv.heap S o Sw e) fun q hq => isT_keep (tup q (sub2 q hq)) kp2
    have px : IsT P w u.heap p.2 p.1 := isT_keep (tup p (List.mem_of_getElem? hp)) kp2
    have gl := got_len g hS.nd
    have inL : p.2 ∈ L.map (·.2) ↔ p.2 ∈ (ks.take i).map (·.2) := ⟨fun q => by
      obtain ⟨z, hz, e⟩ := List.mem_map.mp q
      exact List.mem_map.mpr ⟨z, g.sub z hz, e⟩, fun q => by
      obtain ⟨z, hz, e⟩ := List.mem_map.mp q
      rw [← e]
      exact g.all z hz⟩
    show wpAny _ A.in1 (holding [Value.ref p.1] (setAdd S (.ref p.1)) >>= _) _ _ u
    refine wpAny_bind (wpAny_holding ?_)
    unfold setAdd
    refine wpAny_holding ?_
    refine wpAny_bind (wpAny_pyHash_tuple hu px ?_)
    have go : ∀ (h2 : Heap), Heap.SameBut S u.heap h2 → ((∃ L es ep t, SetTR P w h2 S L es ep t ∧ Got ks (i + 1) L) ∨ (i + 1 = n ∧ SetN h2 S (dcn ks n))) →
        codeAny (model P w) A (.builtin "set.update.loop" ⟨[.ref S, .ref I], []⟩) R { u with heap := h2, toks := u.toks + (p.2.length + 1) } := fun h2 sb inv2 => by
      have kp3 : ∀ b o, h0.get? b = some o → h2.get? b = some o := fun b o e => (sb.2 b (fun z => by rw [z, S0] at e; cases e)).trans (kp2 b o e)
      refine ih (i + 1) _ (by omega) lt (W.frame _ u _ _ st2 (Nat.le_add_right _ _) fun b hb o e => ?_) kp3 inv2 fun u2 mv2 N2 kp4 => ?_
      · rw [sb.2 b (fun q : b = S => nS (by rw [← q]; exact hb))]; exact e
      · refine fin u2 (Moved.trans W.gtrans ((mv.mono sub1).then_heap (Nat.le_add_right _ _) fun b o hb e => ?_) mv2) N2 kp4
        rw [sb.2 b (fun q : b = S => hb (by rw [q]; exact List.mem_cons_self))]; exact e
    rcases few i (by omega) with f1 | ⟨f1, f2⟩
    · refine add_at (s := { u with toks := u.toks + (p.2.length + 1) }) hS2 px hu (by omega) fun b h2 L2 es2 ep2 t2 sb R2 c1 c2 => ?_
      have g2 : Got ks (i + 1) L2 := by
        by_cases c : p.2 ∈ L.map (·.2)
        · rw [c1 c]; exact g.same hp c
        · exact g.more hp (c2 c)
      exact wpAny_pure ⟨plainId_quiet F.plain_set_update_loop _, go h2 sb (.inl ⟨L2, es2, ep2, t2, R2, g2⟩)⟩
    · refine add_last (s := { u with toks := u.toks + (p.2.length + 1) }) hS2 (by omega) px hu fun b h2 N sb R2 c1 c2 => ?_
      have eN : N = dcn ks n := by
        rw [hn, ← f1]
        by_cases c : p.2 ∈ L.map (·.2)
        · rw [c1 c, dcn_in hp (inL.mp c), f2]
        · rw [c2 c, dcn_new hp (fun q => c (inL.mpr q)), f2]
      exact wpAny_pure ⟨plainId_quiet F.plain_set_update_loop _, go h2 sb (.inr ⟨by omega, by rw [← eN]; exact R2⟩)⟩
end
end Kx
namespace Kw
open PySem PySem.Spec PyProof.Rows L2
/-! ### set(x) of a list of ints, with its rows -/
abbrev fsO (w : World) : Obj := { cls := .type "set", dict := none, data := .set #[] 0 (.fresh 0 0 (!w.params.followText "set-order")) }
section
variable {P : Program} {w : World} {A : Around} {E : Value → Shared → Prop} {s : Shared}
set_option maxHeartbeats 3200000 in
theorem call_set_lstI {x : Addr} {vs : Array Value} (ns : List Int) {Q : Value → Shared → Prop} (hA : A.handled = none) (hx : s.heap.IsList x vs) (hv : IntsAre vs.toList ns) (hn : ns.length + 1 < scanBound)
    (K : ∀ (h2 : Heap) (tk c : Nat), SetR w h2 s.heap.objs.size (fun j => decide (j ∈ ns)) c → c ≤ ns.length → (∀ b o, s.heap.get? b = some o → h2.get? b = some o) → Q (.ref s.heap.objs.size) { s with heap := h2, toks := tk }) :
    wpAny (model P w) A (call (.type "set") [.ref x]) Q E s := by
  have sz : vs.size = ns.length := by have q := IntsAre.length hv; rwa [Array.length_toList] at q
  obtain ⟨c, tl, mro⟩ := F.called_set.mro
  have made := F.called_set.made
  have sub := F.called_set.sub
  refine wpAny_call (codeAny_of_tree ?_)
  show wpAny _ _ (callAny (.type "set") _) _ _ _
  refine wpAny_pure ⟨Code.quiet_builtin _ (by decide +kernel), codeAny_builtin F.entry_type_call ?_⟩
  rw [Around.under_plain (weight_type_call_type "set" [.ref x] []) rfl]
  have z1 := F.called_set.notType
  have z2 := F.called_set.canCreate
  have z3 := F.typeCall_set_1 (.ref x)
  repeat (any_goals (first | assumption | wp_step))
  refine codeAny_mono (code_set_led1 (.ref x) (E := E) (Q₁ := fun v t => v = .ref s.heap.objs.size ∧ t = { s with heap := s.heap.push (fsO w) }) ⟨rfl, rfl⟩) fun r t ht => ?_
  cases r with
  | error e => exact ht
  | ok fl =>
    cases fl with
    | ret v =>
      obtain ⟨rfl, rfl⟩ := ht
      have gS : (s.heap.push (fsO w)).get? s.heap.objs.size = some (fsO w) := Heap.get?_push_size _ rfl
      have tS : Shared.TypeIs { s with heap := s.heap.push (fsO w) } (.ref s.heap.objs.size) "set" := ⟨_, gS, rfl⟩
      have z4 := F.called_set.init.lookup
      have z5 := F.called_set.init.bind (.ref s.heap.objs.size)
      repeat (any_goals (first | assumption | wp_step))
      refine codeAny_mono (codeAny_call_builtin (R := wants (fun r u => r = .none ∧ ∃ h2 tk c, u = { s with heap := h2, toks := tk } ∧ SetR w h2 s.heap.objs.size (fun j => decide (j ∈ ns)) c ∧ c ≤ ns.length ∧
        ∀ b o, s.heap.get? b = some o → h2.get? b = some o) E) F.called_set.init.plain F.entry_set_init (check_set_init_1 tS ?_)) fun r2 u hu => ?_
      · obtain ⟨⟨xc, xd, xa, xs⟩, gx, cx, nx, dx⟩ := hx
        simp only at cx dx
        subst cx; subst dx
        have gx2 : (s.heap.push (fsO w)).get? x = some { cls := .type "list", dict := xd, data := .seq vs nx, slots := xs } := Heap.get?_push_of_some _ gx
        have z6 := F.sub_list_set
        have z7 := F.sub_list_frozenset
        have z8 : (Value.type "list" == Value.type "dict") = false := by decide
        have lx : (s.heap.push (fsO w)).IsList x vs := ⟨_, gx2, rfl, nx, rfl⟩
        unfold Builtin.«set.__init__» noKeywords Builtin.Frozenset.updateFrom
        generalize ePI : pyIter = PI
        wp_walk
        subst ePI
        refine wpAny_pyIter_list lx ?_
        refine wpAny_bind (wpAny_runValue ?_)
        have xl : x < s.heap.objs.size := Heap.lt_size gx
        have ps : (s.heap.push (fsO w)).objs.size = s.heap.objs.size + 1 := Heap.size_push ..
        have ne1 : x ≠ (s.heap.push (fsO w)).objs.size := fun q => by rw [ps] at q; exact absurd xl (by rw [q]; exact Nat.not_lt.mpr (Nat.le_succ _))
        have ne2 : s.heap.objs.size ∉ [(s.heap.push (fsO w)).objs.size, x] := fun q => by
          rcases List.mem_cons.mp q with q | q
          · rw [ps] at q; exact absurd q.symm (Nat.succ_ne_self _)
          · exact absurd xl (by rw [← List.mem_singleton.mp q]; exact Nat.lt_irrefl _)
        have at_ : ∀ (i : Nat) (v : Value), vs[i]? = some v → ∃ k t, ns[i]? = some k ∧ v = .int k t := fun i v e => by
          have hi : i < ns.length := sz ▸ (Array.getElem?_eq_some_iff.mp e).1
          obtain ⟨t, q⟩ := PyProof.Rows.IntsAre.int_at hv i v (by rw [Array.getElem?_toList, e])
          exact ⟨ns[i], t, List.getElem?_eq_getElem hi, by rw [q, List.getD_eq_getElem?_getD, List.getElem?_eq_getElem hi]; rfl⟩
        refine set_update_ints ((Walks.list (show A.in1.in1.in1.handled = none by simp [hA]) _ x ne1 vs).toS) s.heap.objs.size ne2 ns sz hn at_ (vs.size - 0) 0 _ (by omega) (Nat.zero_le _) ⟨⟨_, Heap.get?_push_size _ rfl, rfl, rfl⟩, (lx.push _)⟩ ⟨0, Nat.le_refl 0, setR_new_at (Heap.get?_push_of_some _ gS)⟩ ?_
        intro u c2 mv hc2 R2
        obtain ⟨h2, g2, d2, tk2, os2⟩ := u
        obtain rfl : g2 = s.gens := mv.gens
        obtain rfl : d2 = s.drawn := mv.drawn
        obtain rfl : os2 = s.os := mv.os
        show wpAny _ _ _ _ _ _
        refine wpAny_pure ?_
        show wpAny _ _ (PySem.ret Value.none) _ _ _
        refine wpAny_pure ⟨rfl, h2, tk2, c2, rfl, R2, sz ▸ hc2, fun b o e => mv.heap b o ?_ (Heap.get?_push_of_some _ (Heap.get?_push_of_some _ e))⟩
        have bl : b < s.heap.objs.size := Heap.lt_size e
        intro q
        rcases List.mem_cons.mp q with q | q
        · exact absurd bl (by rw [q]; exact Nat.lt_irrefl _)
        · have q := List.mem_singleton.mp q
          rw [ps] at q
          exact absurd bl (by rw [q]; exact Nat.not_lt.mpr (Nat.le_succ _))
      · cases r2 with
        | error e => exact hu
        | ok fl2 =>
          cases fl2 with
          | ret y =>
            obtain ⟨rfl, h2, tk2, c2, rfl, R2, hc2, kp⟩ := hu
            repeat (any_goals (first | assumption | wp_step))
            exact K _ _ _ R2 hc2 kp
          | _ => exact hu.elim
    | _ => exact ht.elim
set_option maxHeartbeats 3200000 in
theorem call_set_tupsN {x : Addr} {vs : Array Value} (ks : List (Addr × List Int)) {Q : Value → Shared → Prop} (hA : A.handled = none) (hx : s.heap.IsList x vs) (hv : vs.toList = ks.map fun p => Value.ref p.1) (tup : ∀ p ∈ ks, L2.IsT P w s.heap p.2 p.1) (few : Kx.FewD ks) (hu : A.units + 3 < cLine)
    (K : ∀ (h2 : Heap) (tk : Nat), Kx.SetN h2 s.heap.objs.size (Kx.dcn ks ks.length) → (∀ b o, s.heap.get? b = some o → h2.get? b = some o) → Q (.ref s.heap.objs.size) { s with heap := h2, toks := tk }) :
    wpAny (model P w) A (call (.type "set") [.ref x]) Q E s := by
  have sz : vs.size = ks.length := by have q := congrArg List.length hv; rwa [Array.length_toList, List.length_map] at q
  obtain ⟨c, tl, mro⟩ := F.called_set.mro
  have made := F.called_set.made
  have sub := F.called_set.sub
  refine wpAny_call (codeAny_of_tree ?_)
  show wpAny _ _ (callAny (.type "set") _) _ _ _
  refine wpAny_pure ⟨Code.quiet_builtin _ (by decide +kernel), codeAny_builtin F.entry_type_call ?_⟩
  rw [Around.under_plain (weight_type_call_type "set" [.ref x] []) rfl]
  have z1 := F.called_set.notType
  have z2 := F.called_set.canCreate
  have z3 := F.typeCall_set_1 (.ref x)
  repeat (any_goals (first | assumption | wp_step))
  refine codeAny_mono (code_set_led1 (.ref x) (E := E) (Q₁ := fun v t => v = .ref s.heap.objs.size ∧ t = { s with heap := s.heap.push (fsO w) }) ⟨rfl, rfl⟩) fun r t ht => ?_
  cases r with
  | error e => exact ht
  | ok fl =>
    cases fl with
    | ret v =>
      obtain ⟨rfl, rfl⟩ := ht
      have gS : (s.heap.push (fsO w)).get? s.heap.objs.size = some (fsO w) := Heap.get?_push_size _ rfl
      have tS : Shared.TypeIs { s with heap := s.heap.push (fsO w) } (.ref s.heap.objs.size) "set" := ⟨_, gS, rfl⟩
      have z4 := F.called_set.init.lookup
      have z5 := F.called_set.init.bind (.ref s.heap.objs.size)
      repeat (any_goals (first | assumption | wp_step))
      refine codeAny_mono (codeAny_call_builtin (R := wants (fun r u => r = .none ∧ ∃ h2 tk, u = { s with heap := h2, toks := tk } ∧ Kx.SetN h2 s.heap.objs.size (Kx.dcn ks ks.length) ∧
        ∀ b o, s.heap.get? b = some o → h2.get? b = some o) E) F.called_set.init.plain F.entry_set_init (check_set_init_1 tS ?_)) fun r2 u hu2 => ?_
      · obtain ⟨⟨xc, xd, xa, xs⟩, gx, cx, nx, dx⟩ := hx
        simp only at cx dx
        subst cx; subst dx
        have gx2 : (s.heap.push (fsO w)).get? x = some { cls := .type "list", dict := xd, data := .seq vs nx, slots := xs } := Heap.get?_push_of_some _ gx
        have z6 := F.sub_list_set
        have z7 := F.sub_list_frozenset
        have z8 : (Value.type "list" == Value.type "dict") = false := by decide
        have lx : (s.heap.push (fsO w)).IsList x vs := ⟨_, gx2, rfl, nx, rfl⟩
        unfold Builtin.«set.__init__» noKeywords Builtin.Frozenset.updateFrom
        generalize ePI : pyIter = PI
        wp_walk
        subst ePI
        refine wpAny_pyIter_list lx ?_
        refine wpAny_bind (wpAny_runValue ?_)
        have xl : x < s.heap.objs.size := Heap.lt_size gx
        have ps : (s.heap.push (fsO w)).objs.size = s.heap.objs.size + 1 := Heap.size_push ..
        have ne1 : x ≠ (s.heap.push (fsO w)).objs.size := fun q => by rw [ps] at q; exact absurd xl (by rw [q]; exact Nat.not_lt.mpr (Nat.le_succ _))
        have ne2 : s.heap.objs.size ∉ [(s.heap.push (fsO w)).objs.size, x] := fun q => by
          rcases List.mem_cons.mp q with q | q
          · rw [ps] at q; exact absurd q.symm (Nat.succ_ne_self _)
          · exact absurd xl (by rw [← List.mem_singleton.mp q]; exact Nat.lt_irrefl _)
        have at_ : ∀ (i : Nat) (v : Value), vs[i]? = some v → ∃ p, ks[i]? = some p ∧ v = .ref p.1 := fun i v e => by
          have q : vs.toList[i]? = some v := by rw [Array.getElem?_toList]; exact e
          rw [hv, List.getElem?_map] at q
          cases z : ks[i]? with
          | none => rw [z] at q; cases q
          | some p => rw [z] at q; exact ⟨p, rfl, (Option.some.inj q).symm⟩
        have non : ∀ b, s.heap.objs.size ≤ b → s.heap.get? b = none := fun b hb => by
          cases q : s.heap.get? b with
          | none => rfl
          | some o => exact absurd (Nat.lt_of_lt_of_le (Heap.lt_size q) hb) (Nat.lt_irrefl _)
        refine Kx.upd_tups ((Walks.list (show A.in1.in1.in1.handled = none by simp [hA]) _ x ne1 vs).toS) s.heap.objs.size ne2 ks sz few at_ s.heap tup (non _ (Nat.le_refl _)) (fun b hb => non b (by rw [List.mem_singleton.mp hb, ps]; exact Nat.le_succ _)) hu (vs.size - 0) 0 _ (by omega) (Nat.zero_le _) ⟨⟨_, Heap.get?_push_size _ rfl, rfl, rfl⟩, (lx.push _)⟩ (fun b o e => Heap.get?_push_of_some _ (Heap.get?_push_of_some _ e)) (.inl ⟨[], #[], 0, _, setTR_fresh (Heap.get?_push_of_some _ gS), Got.zero ks⟩) ?_
        intro u mv R2 kp2
        obtain ⟨h2, g2, d2, tk2, os2⟩ := u
        obtain rfl : g2 = s.gens := mv.gens
        obtain rfl : d2 = s.drawn := mv.drawn
        obtain rfl : os2 = s.os := mv.os
        show wpAny _ _ _ _ _ _
        refine wpAny_pure ?_
        show wpAny _ _ (PySem.ret Value.none) _ _ _
        exact wpAny_pure ⟨rfl, h2, tk2, rfl, by rw [← sz]; exact R2, kp2⟩
      · cases r2 with
        | error e => exact hu2
        | ok fl2 =>
          cases fl2 with
          | ret y =>
            obtain ⟨rfl, h2, tk2, rfl, R2, kp⟩ := hu2
            repeat (any_goals (first | assumption | wp_step))
            exact K _ _ R2 kp
          | _ => exact hu2.elim
    | _ => exact ht.elim
end
end Kw
namespace Kw
open PySem PySem.Spec PyProof.Rows L2
section
variable {X : Cx} {R : Rc} {E : XK} {a b : Expr} {fa fb : DE} {p p2 q pos : Pos}
theorem rp_rgV {g : Gh} (lo : Int) : ∀ n : Nat, RpAll R g ((List.range n).map fun i => V.int (lo + (i : Nat))) ((List.range n).map fun i => PyData.int (lo + (i : Nat))) := by
  intro n
  induction (List.range n) with
  | nil => exact .nil
  | cons k ks ih => exact .cons (.int _) ih
/-- tuple(range(a)) -/
theorem pe_tupRg1D (hc : X.calm = true) (hg : Gl X "tuple") (hm : X.mg "tuple" = none) (hg2 : Gl X "range") (hm2 : X.mg "range" = none) (ha : PE X a (wB R E fa)) (hn : starEach [a] X.env = (false, eval a X.env) :: starEach [] X.env) :
    PE X (.Call (.Name "tuple" p) [.Call (.Name "range" p2) [a] [] q] [] pos) (wE R E (eTup (eRange1 fa))) :=
  PE_imp (pe_tupRg hc hg hm (prg_1 hg2 hm2 ha hn)) fun σ H Q ⟨g, t, ρ, S, w⟩ => ⟨g, t, ρ, S, (W1.bnd S.ok (W1.bnd S.ok w)).mono fun g' H' t' d w' k x r => by
    cases d <;> try exact (k : False).elim
    rename_i n
    obtain ⟨hn, k⟩ := W1_ite k
    have z := sizeLine_eq
    refine ⟨n, r.int, ⟨by omega, by omega, by omega, by omega, by omega⟩, fun q hq => ?_⟩
    have k' := W1.at w'.ok k
    have rr := rp_rgV (R := R) (g := g') 0 n.toNat
    have e : ((List.range n.toNat).map fun i => PyData.int (i : Nat)) = (List.range n.toNat).map fun i => PyData.int (0 + (i : Nat)) := by simp
    rw [e] at k'
    exact doneT w'.ok k' (by simpa [rgV] using rr) hq⟩
theorem pe_lstRg1D (hc : X.calm = true) (hg : Gl X "list") (hm : X.mg "list" = none) (hg2 : Gl X "range") (hm2 : X.mg "range" = none) (ha : PE X a (wB R E fa)) (hn : starEach [a] X.env = (false, eval a X.env) :: starEach [] X.env) :
    PE X (.Call (.Name "list" p) [.Call (.Name "range" p2) [a] [] q] [] pos) (wL R E (eRange1 fa)) :=
  PE_imp (pe_listRg hc hg hm (prg_1 hg2 hm2 ha hn)) fun σ H Q ⟨g, t, ρ, S, w⟩ => ⟨g, t, ρ, S, (W1.bnd S.ok w).mono fun g' H' t' d w' k x r => by
    cases d <;> try exact (k : False).elim
    rename_i n
    obtain ⟨hn, k⟩ := W1_ite k
    have z := sizeLine_eq
    refine ⟨n, r.int, ⟨by omega, by omega, by omega, by omega, by omega⟩, fun q hq => ?_⟩
    have k' := W1.at w'.ok k
    have rr := rp_rgV (R := R) (g := g') 0 n.toNat
    have e : ((List.range n.toNat).map fun i => PyData.int (i : Nat)) = (List.range n.toNat).map fun i => PyData.int (0 + (i : Nat)) := by simp
    rw [e] at k'
    exact k' q _ hq (by simpa [rgV] using rr)⟩
/-! sorted(set(x)): ints -/
def dd {α : Type} [DecidableEq α] : List α → List α
  | [] => []
  | x :: xs => if x ∈ xs then dd xs else x :: dd xs
theorem mem_dd {α : Type} [DecidableEq α] {k : α} : ∀ {xs : List α}, k ∈ dd xs ↔ k ∈ xs
  | [] => by simp [dd]
  | x :: xs => by
    unfold dd
    split
    · rename_i h
      rw [mem_dd, List.mem_cons]
      constructor
      · exact fun z => .inr z
      · rintro (rfl | z)
        · exact h
        · exact z
    · rw [List.mem_cons, List.mem_cons, mem_dd]
theorem nodup_dd {α : Type} [DecidableEq α] : ∀ xs : List α, (dd xs).Nodup
  | [] => List.nodup_nil
  | x :: xs => by
    unfold dd
    split
    · exact nodup_dd xs
    · rename_i h
      exact List.nodup_cons.mpr ⟨fun z => h (mem_dd.mp z), nodup_dd xs⟩
theorem len_le_of {α : Type} [DecidableEq α] : ∀ {as bs : List α}, as.Nodup → (∀ k ∈ as, k ∈ bs) → as.length ≤ bs.length
  | [], _, _, _ => Nat.zero_le _
  | a :: as, bs, h, hs => by
    obtain ⟨h1, h2⟩ := List.nodup_cons.mp h
    have hm := hs a (by simp)
    have := len_le_of (bs := bs.erase a) h2 fun k hk => (List.mem_erase_of_ne (fun e => h1 (by rw [← e]; exact hk))).mpr (hs k (List.mem_cons_of_mem _ hk))
    rw [List.length_erase_of_mem hm] at this
    have := List.length_pos_of_mem hm
    simp only [List.length_cons]
    omega
theorem len_eq_of {α : Type} [DecidableEq α] {as bs : List α} (ha : as.Nodup) (hb : bs.Nodup) (h : ∀ k, k ∈ as ↔ k ∈ bs) : as.length = bs.length :=
  Nat.le_antisymm (len_le_of ha fun k => (h k).mp) (len_le_of hb fun k => (h k).mpr)
def usort (ns : List Int) : List Int := (dd ns).mergeSort fun a b => decide (a ≤ b)
theorem sorted_uniq : ∀ {as bs : List Int}, as.Pairwise (· < ·) → bs.Pairwise (· < ·) → (∀ k, k ∈ as ↔ k ∈ bs) → as = bs
  | [], [], _, _, _ => rfl
  | [], b :: bs, _, _, h => by have := (h b).mpr (by simp); simp at this
  | a :: as, [], _, _, h => by have := (h a).mp (by simp); simp at this
  | a :: as, b :: bs, ha, hb, h => by
    rw [List.pairwise_cons] at ha hb
    have e : a = b := by
      have h1 := (h a).mp (by simp)
      have h2 := (h b).mpr (by simp)
      rcases List.mem_cons.mp h1 with h1 | h1
      · exact h1
      · rcases List.mem_cons.mp h2 with h2 | h2
        · exact h2.symm
        · have := hb.1 a h1
          have := ha.1 b h2
          omega
    subst e
    rw [sorted_uniq ha.2 hb.2 fun k => ?_]
    constructor
    · intro hk
      have h1 := (h k).mp (List.mem_cons_of_mem _ hk)
      rcases List.mem_cons.mp h1 with h1 | h1
      · have := ha.1 k hk; omega
      · exact h1
    · intro hk
      have h1 := (h k).mpr (List.mem_cons_of_mem _ hk)
      rcases List.mem_cons.mp h1 with h1 | h1
      · have := hb.1 k hk; omega
      · exact h1
theorem usort_sorted (ns : List Int) : (usort ns).Pairwise (· < ·) := by
  unfold usort
  have h1 : ((dd ns).mergeSort fun a b => decide (a ≤ b)).Pairwise fun a b => decide (a ≤ b) = true := List.pairwise_mergeSort (fun a b c h1 h2 => by simp at *; omega) (fun a b => by simp; omega) _
  have h2 : ((dd ns).mergeSort fun a b => decide (a ≤ b)).Nodup := (List.mergeSort_perm _ _).nodup_iff.mpr (nodup_dd ns)
  exact (h1.and h2).imp fun h => by
    have h3 := of_decide_eq_true h.1
    have h4 := h.2
    omega
theorem mem_usort {ns : List Int} {k : Int} : k ∈ usort ns ↔ k ∈ ns := by
  unfold usort
  rw [List.mem_mergeSort, mem_dd]
/-- sorted(set(x)), x a tuple or a list of ints -/
def sortSetM : D → M (List D)
  | .tuple ds => match intsD ds with
    | some ns => if ns.length < 60 then ret ((usort ns).map PyData.int) else bad
    | none => bad
  | .list ds => match intsD ds with
    | some ns => if ns.length < 60 then ret ((usort ns).map PyData.int) else bad
    | none => bad
  | _ => bad
def tupsD : List D → Option (List (List Int))
  | [] => some []
  | .tuple ds :: r => match intsD ds, tupsD r with
    | some ns, some nss => some (ns :: nss)
    | _, _ => none
  | _ :: _ => none
/-- len(set(x)), x a list of tuples of ints, or of ints -/
def lenSetM : D → M D
  | .list ds => match tupsD ds with
    | some nss => if nss.length ≤ 64 ∨ ((dd nss).length ≤ 62 ∧ nss.length ≤ 4000) then ret (.int (dd nss).length) else bad
    | none => match intsD ds with
      | some ns => if ns.length < 4000 then ret (.int (dd ns).length) else bad
      | none => bad
  | _ => bad
theorem intsD_map : ∀ {ds : List D} {ns : List Int}, intsD ds = some ns → ds = ns.map PyData.int
  | [], ns, h => by cases h; rfl
  | d :: ds, ns, h => by
    cases d <;> first | cases h | skip
    rename_i i
    simp only [intsD, Option.map_eq_some_iff] at h
    obtain ⟨r, h1, rfl⟩ := h
    rw [intsD_map h1]; rfl
theorem RpAll.intsV {g : Gh} : ∀ {vs : List V} {ns : List Int}, RpAll R g vs (ns.map PyData.int) → vs = ns.map V.int
  | [], [], _ => rfl
  | [], _ :: _, h => by cases h
  | _ :: _, [], h => by cases h
  | v :: vs, n :: ns, h => by
    cases h with
    | cons h1 h2 =>
      rw [RpAll.intsV h2]
      have : v = .int n := Rv.int (H := g.F) (.inl h1)
      rw [this]; rfl
def aOf (m : D → M (List D)) (a : DE) : DA := fun ρ => bnd (a ρ) m
theorem pe_sortSetD (hc : X.calm = true) (hg : Gl X "sorted") (hm : X.mg "sorted" = none) (hg2 : Gl X "set") (hm2 : X.mg "set" = none) (ha : PE X a (wB R E fa)) (hn : starEach [a] X.env = (false, eval a X.env) :: starEach [] X.env) :
    PE X (.Call (.Name "sorted" p) [.Call (.Name "set" p2) [a] [] q] [] pos) (wL R E (aOf sortSetM fa)) := by
  refine ⟨fun pins s σ H Q I ⟨g, t, ρ, S, w⟩ => ?_⟩
  refine Call_ (ld_blt I hg hm (by decide +kernel : bootBuiltins "sorted" = some (.builtin "sorted")) ?_)
  refine PyProof.Rows.callWith_builtin1 (PyProof.Rows.args_cons ?_ rfl) rfl rfl
  refine Call_ (ld_blt I hg2 hm2 PyProof.Rows.boot_set ?_)
  refine PyProof.Rows.callWith_type1 (PyProof.Rows.args_cons (thn (ha.run pins s σ H _ I ⟨g, t, ρ, S, (W1.bnd S.ok w).mono fun g' H' t' d w' k x r => (⟨g', t', d, w'.ok, r, k⟩ : ∃ (g' : Gh) (t' : Tp) (d : D), GOk R g' t' H' ∧ Rv R g' H' x d ∧ W1 R g' H' (sortSetM d t') (fun g' H' _ ds => ∀ p vs, H' p = none → RpAll R g' vs ds → Q (.ref p) (upd H' p (.lst vs))) E)⟩) fun v s1 ⟨x, H1, I1, r1, g', t', d, ok, r, k⟩ => PyProof.Rows.args_nil ?_) hn) hn rfl
  cases d <;> try exact (k : False).elim
  case tuple ds =>
    cases ei : intsD ds <;> (simp only [sortSetM, ei] at k) <;> try exact (k : False).elim
    rename_i ns
    obtain ⟨hl, k⟩ := W1_ite k
    obtain ⟨p0, xs, rfl, _, hp, rr⟩ := r.tup ok
    cases r1
    have eq := intsD_map ei
    rw [eq] at rr
    obtain rfl := rr.intsV
    obtain ⟨its, rv, pt, hz⟩ := I1.tuple (.of hp)
    refine call_set_tupI ns (I1.ok.hd hc) (show s1.heap.IsTuple p0 its.toArray from pt) (by simpa using rv.ints) (by unfold scanBound; omega) fun h' tk c R1 hcn kk => ?_
    refine PyProof.Rows.args_nil ?_
    have hn1 : H1 s1.heap.objs.size = none := I1.hok.fresh (Nat.le_refl _)
    have I2 : Inv X pins σ (upd H1 s1.heap.objs.size (SetO X.w s1.heap.objs.size (fun j => decide (j ∈ ns)) c)) { s1 with heap := h', toks := tk } := I1.laid (t' := tk) kk (Nat.le_refl _) (setO_new R1)
    refine cr_sortedSet hc pins _ σ _ [.ref s1.heap.objs.size] [.ref s1.heap.objs.size] Q I2 (.cons rfl .nil) ⟨_, _, c, rfl, upd_same, by omega, fun ns' p hsrt hmem hlen hp => ?_⟩
    have e : ns' = usort ns := sorted_uniq hsrt (usort_sorted ns) fun j => by rw [hmem, decide_eq_true_eq, mem_usort]
    subst e
    exact k g' _ (Grow.laid ok hn1) p _ hp (rp_ints _)
  case list ds =>
    cases ei : intsD ds <;> (simp only [sortSetM, ei] at k) <;> try exact (k : False).elim
    rename_i ns
    obtain ⟨hl, k⟩ := W1_ite k
    obtain ⟨p0, xs, rfl, hp, rr⟩ := r.lst ok
    cases r1
    have eq := intsD_map ei
    rw [eq] at rr
    obtain rfl := rr.intsV
    obtain ⟨its, rv, pt, hz⟩ := I1.list (.of hp)
    refine call_set_lstI ns (I1.ok.hd hc) pt.isList (by simpa using rv.ints) (by unfold scanBound; omega) fun h' tk c R1 hcn kk => ?_
    refine PyProof.Rows.args_nil ?_
    have hn1 : H1 s1.heap.objs.size = none := I1.hok.fresh (Nat.le_refl _)
    have I2 : Inv X pins σ (upd H1 s1.heap.objs.size (SetO X.w s1.heap.objs.size (fun j => decide (j ∈ ns)) c)) { s1 with heap := h', toks := tk } := I1.laid (t' := tk) kk (Nat.le_refl _) (setO_new R1)
    refine cr_sortedSet hc pins _ σ _ [.ref s1.heap.objs.size] [.ref s1.heap.objs.size] Q I2 (.cons rfl .nil) ⟨_, _, c, rfl, upd_same, by omega, fun ns' p hsrt hmem hlen hp => ?_⟩
    have e : ns' = usort ns := sorted_uniq hsrt (usort_sorted ns) fun j => by rw [hmem, decide_eq_true_eq, mem_usort]
    subst e
    exact k g' _ (Grow.laid ok hn1) p _ hp (rp_ints _)
/-! len(set(x)), x a list of tuples of ints -/
theorem tups_of {g : Gh} {H : Hp} {t : Tp} (ok : GOk R g t H) : ∀ {vs : List V} {ds : List D} {nss : List (List Int)}, RpAll R g vs ds → tupsD ds = some nss → ∃ ks : List (Addr × List Int), vs = ks.map (fun p => V.ref p.1) ∧ (∀ p ∈ ks, SqT R.K H p.1 (p.2.map V.int)) ∧ ks.map (·.2) = nss
  | [], [], nss, _, h => by cases h; exact ⟨[], rfl, fun p hp => (by cases hp), rfl⟩
  | v :: vs, d :: ds, nss, .cons h1 h2, h => by
    cases d <;> first | cases h | skip
    rename_i es
    simp only [tupsD] at h
    cases e1 : intsD es with
    | none => rw [e1] at h; cases h
    | some ns =>
      cases e2 : tupsD ds with
      | none => rw [e1, e2] at h; cases h
      | some r =>
        rw [e1, e2] at h
        cases h
        obtain ⟨ks, q1, q2, q3⟩ := tups_of ok h2 e2
        cases h1 with
        | tup hp rr =>
          rw [intsD_map e1] at rr
          obtain rfl := rr.intsV
          refine ⟨(_, ns) :: ks, by rw [q1]; rfl, fun p hp' => ?_, by simp [q3]⟩
          rcases List.mem_cons.mp hp' with rfl | hp'
          · exact .of (ok.sub _ _ hp)
          · exact q2 p hp'
theorem met_mem {val : Nat → Int} {k : Int} : ∀ i, k ∈ PyProof.Rows.firstMet val i ↔ k ∈ (List.range i).map val := fun i => by
  have h := PyProof.Rows.firstMet_any val i k
  rw [Bool.eq_iff_iff, List.any_eq_true, List.any_eq_true] at h
  constructor
  · intro hk
    obtain ⟨y, hy, e⟩ := h.mp ⟨k, hk, by simp⟩
    rw [← beq_iff_eq.mp e]; exact hy
  · intro hk
    obtain ⟨y, hy, e⟩ := h.mpr ⟨k, hk, by simp⟩
    rw [← beq_iff_eq.mp e]; exact hy
theorem met_nd {val : Nat → Int} : ∀ i, (PyProof.Rows.firstMet val i).Nodup
  | 0 => by rw [PyProof.Rows.firstMet_zero]; exact List.nodup_nil
  | i + 1 => by
    rw [PyProof.Rows.firstMet_succ]
    unfold PyProof.Rows.step_dedup
    have ih := met_nd (val := val) i
    split
    · exact ih
    · rename_i h
      refine List.nodup_append.mpr ⟨ih, by simp, fun a ha b hb e => h ?_⟩
      simp at hb
      subst hb
      subst e
      rw [List.any_eq_true]
      exact ⟨_, ha, by simp⟩
theorem met_len {ns : List Int} : (PyProof.Rows.firstMet (fun i => ns.getD i 0) ns.length).length = (dd ns).length := len_eq_of (met_nd _) (nodup_dd ns) fun k => by
  rw [met_mem, mem_dd, List.mem_map]
  constructor
  · rintro ⟨i, hi, rfl⟩
    have hi := List.mem_range.mp hi
    rw [List.getD_eq_getElem?_getD, List.getElem?_eq_getElem hi]
    exact List.getElem_mem hi
  · intro hk
    obtain ⟨i, hi, rfl⟩ := List.mem_iff_getElem.mp hk
    exact ⟨i, List.mem_range.mpr hi, by rw [List.getD_eq_getElem?_getD, List.getElem?_eq_getElem hi]; rfl⟩
theorem pe_lenSetD (hK : X.K = R.K) (hu : X.A.units + 100 < cLine) (hc : X.calm = true) (hg : Gl X "len") (hm : X.mg "len" = none) (hg2 : Gl X "set") (hm2 : X.mg "set" = none) (ha : PE X a (wB R E fa)) (hn : starEach [a] X.env = (false, eval a X.env) :: starEach [] X.env) :
    PE X (.Call (.Name "len" p) [.Call (.Name "set" p2) [a] [] q] [] pos) (wE R E (eUn lenSetM fa)) := by
  refine ⟨fun pins s σ H Q I ⟨g, t, ρ, S, w⟩ => ?_⟩
  refine Call_ (ld_blt I hg hm PySem.boot_len ?_)
  refine PyProof.Rows.callWith_builtin1 (PyProof.Rows.args_cons ?_ rfl) rfl rfl
  refine Call_ (ld_blt I hg2 hm2 PyProof.Rows.boot_set ?_)
  refine PyProof.Rows.callWith_type1 (PyProof.Rows.args_cons (thn (ha.run pins s σ H _ I ⟨g, t, ρ, S, (W1.bnd S.ok w).mono fun g' H' t' d w' k x r => (⟨g', t', d, w'.ok, r, k⟩ : ∃ (g' : Gh) (t' : Tp) (d : D), GOk R g' t' H' ∧ Rv R g' H' x d ∧ W1 R g' H' (lenSetM d t') (fun g' H' _ ds => ∀ x, Rp R g' x ds → Q x H') E)⟩) fun v s1 ⟨x, H1, I1, r1, g', t', d, ok, r, k⟩ => PyProof.Rows.args_nil ?_) hn) hn rfl
  cases d <;> try exact (k : False).elim
  rename_i ds
  cases ei : tupsD ds with
  | none =>
    simp only [lenSetM, ei] at k
    cases ej : intsD ds with
    | none => simp only [ej] at k; exact (k : False).elim
    | some ns =>
      simp only [ej] at k
      obtain ⟨hl, k0⟩ := W1_ite k
      clear k
      obtain ⟨p0, xs, rfl, hp, rr⟩ := r.lst ok
      cases r1
      rw [intsD_map ej] at rr
      obtain rfl := rr.intsV
      obtain ⟨its, rv, pl, hz⟩ := I1.list (.of hp)
      have hsz : its.toArray.size = ns.length := by rw [List.size_toArray, ← rv.length, List.length_map]
      refine call_set_list (I1.ok.hd hc) pl.isList (ns := ns) (by simpa using rv.ints) (by unfold scanBound; omega) fun h' tk hS hk => ?_
      rw [hsz, met_len] at hS
      refine PyProof.Rows.args_nil ?_
      obtain ⟨o, es, ep, t1, ho, hex, hd, _, _, _, hf, hn⟩ := hS
      have I2 : Inv X pins σ H1 { s1 with heap := h', toks := tk } := I1.kept fun b o e => hk b o (Heap.lt_size e) e
      have dl : (dd ns).length ≤ ns.length := len_le_of (nodup_dd ns) fun j hj => mem_dd.mp hj
      refine call_len_set ho hex hd hf (by rw [hn]; omega) ⟨.int (dd ns).length, H1, I2.tok _, ⟨_, by rw [hn]⟩, doneI ok k0⟩
  | some nss =>
  simp only [lenSetM, ei] at k
  obtain ⟨hl, k⟩ := W1_ite k
  obtain ⟨p0, xs, rfl, hp, rr⟩ := r.lst ok
  cases r1
  obtain ⟨ks, e1, e2, e3⟩ := tups_of ok rr ei
  subst e1
  have hkl : ks.length = nss.length := by rw [← e3, List.length_map]
  have dcl : ∀ i, i ≤ ks.length → Kx.dcn ks i ≤ i ∧ Kx.dcn ks i ≤ (dd nss).length := fun i hi => by
    unfold Kx.dcn
    refine ⟨?_, ?_⟩
    · refine Nat.le_trans (len_le_of (bs := (ks.take i).map (·.2)) (Kx.ddL_nodup _) fun z hz => Kx.ddL_mem.mp hz) ?_
      rw [List.length_map, List.length_take]
      exact Nat.min_le_left _ _
    · refine len_le_of (Kx.ddL_nodup _) fun z hz => mem_dd.mpr ?_
      obtain ⟨q, hq, rfl⟩ := List.mem_map.mp (Kx.ddL_mem.mp hz)
      rw [← e3]
      exact List.mem_map.mpr ⟨q, List.mem_of_mem_take hq, rfl⟩
  have few : Kx.FewD ks := fun i hi => by
    obtain ⟨d1, d2⟩ := dcl i (by omega)
    rcases hl with hl | hl <;> omega
  have eN : Kx.dcn ks ks.length = (dd nss).length := by
    unfold Kx.dcn
    refine len_eq_of (Kx.ddL_nodup _) (nodup_dd nss) fun z => ?_
    rw [Kx.ddL_mem, mem_dd, List.take_length, e3]
  obtain ⟨its, rv, pl, hz⟩ := I1.list (.of hp)
  refine call_set_tupsN (P := X.prog) (w := X.w) ks (I1.ok.hd hc) pl.isList (by simpa using refs_of_vals rv) (fun p hp => I1.isT (by rw [hK]; exact e2 p hp)) few (by omega) fun h' tk SN kk => ?_
  refine PyProof.Rows.args_nil ?_
  obtain ⟨o, es, ep, t1, ho, hex, hd, hf, hn⟩ := SN
  have I2 : Inv X pins σ H1 { s1 with heap := h', toks := tk } := I1.kept kk
  have d3 := dcl ks.length (Nat.le_refl _)
  refine call_len_set ho hex hd hf (by rw [hn]; omega) ⟨.int (dd nss).length, H1, I2.tok _, ⟨_, by rw [hn, eN]⟩, doneI ok k⟩
/-! dict(x), x a list of pairs -/
def pairsD : List D → Option (List (D × D))
  | [] => some []
  | .tuple [k, v] :: r => if (keyK k).isSome = true then (pairsD r).map ((k, v) :: ·) else none
  | _ :: _ => none
def dictM : D → M (List (D × D))
  | .list ds => match pairsD ds with
    | some kvs => ret (putsD [] kvs)
    | none => bad
  | _ => bad
def kOf (m : D → M (List (D × D))) (a : DE) : DK := fun ρ => bnd (a ρ) m
theorem pairs_rp {g : Gh} {H : Hp} {t : Tp} (ok : GOk R g t H) : ∀ {vs : List V} {ds : List D} {kvs : List (D × D)}, RpAll R g vs ds → pairsD ds = some kvs → ∃ (ps : List Addr) (m : List (Key × V)) (es : List D), vs = ps.map V.ref ∧ Paired (fun p kv => SqT R.K H p [kV kv.1, kv.2]) ps m ∧ RpAll R g (m.map (·.2)) es ∧ kvs = (m.map fun p => kD p.1).zip es
  | [], [], kvs, _, h => by cases h; exact ⟨[], [], [], rfl, .nil, .nil, rfl⟩
  | v :: vs, d :: ds, kvs, .cons h1 h2, h => by
    cases d <;> first | cases h | skip
    rename_i es0
    match es0, h, h1 with
    | [k, v0], h, h1 =>
      simp only [pairsD] at h
      cases ek : keyK k with
      | none => rw [ek] at h; cases h
      | some kk =>
        rw [ek] at h
        simp only [Option.isSome_some, if_true, Option.map_eq_some_iff] at h
        obtain ⟨r, e2, rfl⟩ := h
        obtain ⟨ps, m, es, q1, q2, q3, q4⟩ := pairs_rp ok h2 e2
        obtain rfl := keyK_eq ek
        cases h1 with
        | tup hp rr =>
          cases rr with
          | cons ra rb =>
            cases rb with
            | cons rb rc =>
              cases rc
              rename_i a0 x0 x1
              have ex : x0 = kV kk := Rv.keyK (H := H) (.inl ra)
              subst ex
              exact ⟨a0 :: ps, (kk, x1) :: m, v0 :: es, by rw [q1]; rfl, .cons (.of (ok.sub _ _ hp)) q2, .cons rb q3, by rw [q4]; rfl⟩
theorem pe_dictD (hK : X.K = R.K) (hc : X.calm = true) (hg : Gl X "dict") (hm : X.mg "dict" = none) (ha : PE X a (wB R E fa)) (hn : starEach [a] X.env = (false, eval a X.env) :: starEach [] X.env) (hpl : (backTo pos (starEach [] X.env)).any (·.1) = false) :
    PE X (.Call (.Name "dict" p) [a] [] pos) (wD R E (kOf dictM fa)) :=
  PE_imp (pe_callTy (call_dictP hc) hg hm (by decide +kernel) (pa_cons ha pa_nil hn) (by decide) (by decide) hn hpl) fun σ H Q ⟨g, t, ρ, S, w⟩ => ⟨g, t, ρ, S, (W1.bnd S.ok w).mono fun g' H' t' d w' k x r => by
    cases d <;> try exact (k : False).elim
    rename_i ds
    cases ei : pairsD ds <;> (simp only [dictM, ei] at k) <;> try exact (k : False).elim
    rename_i kvs
    obtain ⟨p0, xs, rfl, hp, rr⟩ := r.lst w'.ok
    obtain ⟨ps, m, es, e1, e2, e3, e4⟩ := pairs_rp w'.ok rr ei
    subst e1
    refine ⟨p0, ps, m, rfl, .of hp, by rw [hK]; exact e2, fun p hp => ?_⟩
    obtain ⟨ds', q1, q2⟩ := putsD_of (l := []) (ds := []) e3 .nil
    rw [e4] at k
    exact W1.at w'.ok k p _ ds' hp q1 q2⟩
end
end Kw
namespace Kw
open PySem PySem.Spec PyProof.Rows L2
/-! ### x[::-1] -/
section
variable {prog : Program} {w : World} {A : Around} {E : Value → Shared → Prop} {s : Shared}
theorem rev_places (n : Nat) : Builtin.Slice.slicePlaces ((n : Int) - 1) (-1) (-1) = n := by
  unfold Builtin.Slice.slicePlaces
  split <;> (try split) <;> first | omega | (simp at *; try omega)
theorem rev_pick (xs : Array Value) : ((List.range xs.size).filterMap fun (m : Nat) => xs[(((xs.size : Int) - 1) + (m : Int) * (-1)).toNat]?).toArray = xs.toList.reverse.toArray := by
  congr 1
  apply List.ext_getElem?
  intro i
  have e : ((List.range xs.size).filterMap fun (m : Nat) => xs[(((xs.size : Int) - 1) + (m : Int) * (-1)).toNat]?) = (List.range xs.size).map fun m => xs.toList.reverse.getD m .none := by
    have : ∀ l : List Nat, (∀ m ∈ l, m < xs.size) → (l.filterMap fun (m : Nat) => xs[(((xs.size : Int) - 1) + (m : Int) * (-1)).toNat]?) = l.map fun m => xs.toList.reverse.getD m .none := by
      intro l
      induction l with
      | nil => intro _; rfl
      | cons m l ih =>
        intro hl
        have hm := hl m (by simp)
        have e1 : (((xs.size : Int) - 1) + (m : Int) * (-1)).toNat = xs.size - 1 - m := by omega
        have h2 : xs.size - 1 - m < xs.size := by omega
        have e2 : xs[(((xs.size : Int) - 1) + (m : Int) * (-1)).toNat]? = some (xs.toList.reverse.getD m .none) := by
          rw [e1, List.getD_eq_getElem?_getD, List.getElem?_reverse (by simpa using hm)]
          simp [h2]
        rw [List.filterMap_cons, e2, List.map_cons, ih fun k hk => hl k (List.mem_cons_of_mem _ hk)]
    exact this _ fun m hm => by simpa using hm
  rw [e]
  by_cases hi : i < xs.size
  · rw [List.getElem?_map, List.getElem?_range hi]
    simp [List.getD, hi]
  · rw [List.getElem?_eq_none (by simp; omega), List.getElem?_eq_none (by simp; omega)]
theorem getItem_tuple_rev {t sl : Addr} {items : Array Value} {vs : Value} {Q : Value → Shared → Prop} (ht : IsTup s.heap t items) (hs : s.heap.IsSliceOf sl .none .none vs) (ps : IsPart vs (some (-1)))
    (h : Q (.ref s.heap.objs.size) { s with heap := s.heap.push { cls := .type "tuple", data := .seq items.toList.reverse.toArray } }) (hsz : items.size ≤ sizeLine) : wpAny (model prog w) A (getItem (.ref t) (.ref sl)) Q E s := by
  have hok : sizeOk (.seq items.toList.reverse.toArray) := by
    show items.toList.reverse.toArray.size ≤ sizeLine
    simpa using hsz
  obtain ⟨os, hos, hcs, hds⟩ := id hs
  have hTs : s.TypeIs (.ref sl) "slice" := ⟨os, hos, hcs⟩
  unfold getItem; (try with_reducible refine wpAny_holding ?_); (first | refine wpAny_bind (wpAny_pure ?_) | skip)
  refine wpAny_bind (wpAny_sequenceKey ht.typeIs (by decide) (wpAny_bind (wpAny_callSpecial?_slot (name := Str.ofString "__getitem__") ht.typeIs PyProof.Rows.slot_tuple_getitem (wpAny_call_entry PyProof.Rows.slot_tuple_getitem ht.typeIs entry_tuple_getitem ?_ (args_tuple_getitem _ _)))))
  show wpAny _ _ (Builtin.Tuple.tupleItemsOf (.ref t) >>= fun xs => _) _ _ s
  refine wpAny_bind (tupleItemsOf_ ht (wpAny_bind (wpAny_typeOf hTs ?_)))
  rw [if_pos (by decide)]
  have hap : ∀ {Q : Int × Int × Nat → Shared → Prop} {E : Value → Shared → Prop}, Q ((items.size : Int) - 1, -1, items.size) s → wpAny (model prog w) A.in1 (Builtin.Slice.sliceApplied (.ref sl) (pure (items.size : Int))) Q E s := by
    intro Q E hQ
    unfold Builtin.Slice.sliceApplied Builtin.Slice.sliceFields
    refine wpAny_bind (wpAny_bind (wpAny_field hos hds (x := .none) rfl (wpAny_bind (wpAny_field hos hds (x := .none) rfl (wpAny_bind (wpAny_field hos hds (x := vs) rfl (wpAny_pure ?_)))))))
    refine wpAny_bind (HT.slicePart_ ps ?_)
    show wpAny _ _ (if ((-1 : Int) == 0) = true then _ else _) _ _ s
    rw [if_neg (by decide)]
    refine wpAny_bind (HT.slicePart_ .none (wpAny_bind (HT.slicePart_ .none (wpAny_bind (wpAny_pure ?_)))))
    show wpAny _ _ (pure ((items.size : Int) - 1, (-1 : Int), Builtin.Slice.slicePlaces ((items.size : Int) - 1) (-1) (-1))) _ _ s
    rw [rev_places]
    exact wpAny_pure hQ
  refine wpAny_bind (hap ?_)
  show wpAny _ _ (if (((items.size : Int) - 1) == 0 && (-1 : Int) == 1 && items.size == items.size) = true then _ else _) _ _ s
  rw [if_neg (by simp), rev_pick]
  first
    | exact wpAny_bind (m := Builtin.Tuple.tupleExact _) (wpAny_newObj_type (wpAny_pure ⟨_, rfl, wpAny_pure h⟩) hok)
    | exact wpAny_bind (m := Builtin.Tuple.tupleExact _) (wpAny_newObj_type (wpAny_bind (wpAny_pure (wpAny_pure ⟨_, rfl, wpAny_pure h⟩))) hok)
    | exact wpAny_bind (wpAny_bind (m := Builtin.Tuple.tupleExact _) (wpAny_newObj_type (wpAny_pure (wpAny_pure ⟨_, rfl, wpAny_pure h⟩)) hok))
    | exact wpAny_bind (wpAny_bind (m := Builtin.Tuple.tupleExact _) (wpAny_newObj_type (wpAny_pure ⟨_, rfl, wpAny_pure h⟩) hok))
end
/-- x[::-1]: a list or a tuple -/
def revM : D → M D
  | .list xs => ret (.list xs.reverse)
  | .tuple xs => ret (.tuple xs.reverse)
  | _ => bad
section
variable {X : Cx} {R : Rc} {E : XK} {e : Expr} {fe : DE}
theorem pe_revD (hK : X.K = R.K) {kj : Nat} {p1 p2 p3 pos : Pos} (he : PE X e (wB R E fe)) : PE X (.Subscript e (.Slice none none (some (.UnaryOp .USub (.Constant (.int 1) kj p1) p2)) p3) pos) (wE R E (eUn revM fe)) := by
  refine ⟨fun pins s σ H Q I ⟨g, t, ρ, S, w⟩ => ?_⟩
  refine Subscript_ (thn (he.run pins s σ H _ I ⟨g, t, ρ, S, (W1.bnd S.ok w).mono fun g' H' t' d w' k x r => (⟨g', t', d, w'.ok, r, k⟩ : ∃ (g' : Gh) (t' : Tp) (d : D), GOk R g' t' H' ∧ Rv R g' H' x d ∧ W1 R g' H' (revM d t') (fun g' H' _ ds => ∀ x, Rp R g' x ds → Q x H') E)⟩) fun v s1 ⟨x, H1, I1, r1, g', t', d, ok, r, k⟩ => ?_)
  have hst : PO X (some (.UnaryOp .USub (.Constant (.int 1) kj p1) p2)) (tPart (tUn (rU fun i => .int (-i)) (tC (.int 1)))) := po_some (pe_un un_neg pe_int)
  refine wpAny_Slice (thn (po_none.run pins s1 σ H1 (fun o H2 => o = none ∧ H2 = H1) I1 ⟨rfl, rfl⟩) fun vl s2 ⟨l, H2, I2, pl, el, e2⟩ => ?_)
  subst el e2
  refine thn (po_none.run pins s2 σ H2 (fun o H3 => o = none ∧ H3 = H2) I2 ⟨rfl, rfl⟩) fun vu s3 ⟨u, H3, I3, pu, eu, e3⟩ => ?_
  subst eu e3
  refine thn (hst.run pins s3 σ H3 (fun o H4 => o = some (-1) ∧ H4 = H3) I3 ⟨1, rfl, -1, rfl, rfl, rfl⟩) fun vs s4 ⟨o, H4, I4, ps, eo, e4⟩ => ?_
  subst eo e4
  have I5 : Inv X pins σ H4 { s4 with heap := s4.heap.push { cls := .type "slice", data := .fields #[vl, vu, vs] } } := I4.kept (t' := s4.toks) fun b ob q => Heap.get?_push_of_some _ q
  cases d <;> try exact (k : False).elim
  case list xs =>
    obtain ⟨a, ys, rfl, hp, rr⟩ := r.lst ok
    cases r1
    obtain ⟨its, rv, ht, hz⟩ := I5.list (.of hp)
    have hlen := rv.length
    refine tail_any (s := { s4 with heap := s4.heap.push { cls := .type "slice", data := .fields #[vl, vu, vs] } }) (ops := [.ref a, .ref s4.heap.objs.size]) ht.isList.typeIs (PySem.slot_list_getitem.lookup) ?_ (by with_unfolding_all rfl)
    refine wpAny_getItem_list_slice ht.isList (Heap.IsSliceOf.new _ vl vu vs) pl pu ps (by decide) ?_ (by rw [List.size_toArray]; omega)
    rw [PySem.W.krv_pick]
    have hn := I5.hok.fresh (Nat.le_refl _)
    exact ⟨.ref _, _, I5.laid (t' := s4.toks) (o := .lst ys.reverse) (fun b ob q => Heap.get?_push_of_some _ q) (Nat.le_refl _) ⟨by rw [List.length_reverse]; exact hz, _, 0, rv.reverse, Heap.get?_push_size _ rfl⟩, rfl, doneL ok k rr.reverse hn⟩
  case tuple xs =>
    obtain ⟨a, ys, rfl, _, hp, rr⟩ := r.tup ok
    cases r1
    obtain ⟨its, rv, ht, hz⟩ := I5.tuple (.of hp)
    have hlen := rv.length
    cases pl
    cases pu
    refine tail_any (s := { s4 with heap := s4.heap.push { cls := .type "slice", data := .fields #[.none, .none, vs] } }) (ops := [.ref a, .ref s4.heap.objs.size]) ht.typeIs (PyProof.Rows.slot_tuple_getitem.lookup) ?_ (by with_unfolding_all rfl)
    refine getItem_tuple_rev ht (Heap.IsSliceOf.new _ .none .none vs) ps ?_ (by rw [List.size_toArray]; omega)
    have hn := I5.hok.fresh (Nat.le_refl _)
    exact ⟨.ref _, _, I5.laid (t' := s4.toks) (o := .tup ys.reverse) (fun b ob q => Heap.get?_push_of_some _ q) (Nat.le_refl _) ⟨by rw [List.length_reverse]; exact hz, _, rv.reverse, IsTup.new _ _⟩, rfl, doneT ok k rr.reverse hn⟩
end
end Kw
namespace Kw
open PySem PySem.Spec PyProof.Rows L2
/-! ### a lambda of one parameter, called: raw -/
def SeqO (h : Heap) (a : Addr) (its : List Value) : Prop := h.IsList a its.toArray ∨ IsTup h a its.toArray
theorem IsTup.keeps' {h h' : Heap} {a : Addr} {its : Array Value} (k : ∀ b o, h.get? b = some o → h'.get? b = some o) (x : IsTup h a its) : IsTup h' a its := by
  obtain ⟨o, ho, r⟩ := x
  exact ⟨o, k _ _ ho, r⟩
theorem IsList.keeps' {h h' : Heap} {a : Addr} {its : Array Value} (k : ∀ b o, h.get? b = some o → h'.get? b = some o) (x : h.IsList a its) : h'.IsList a its := by
  obtain ⟨o, ho, r⟩ := x
  exact ⟨o, k _ _ ho, r⟩
theorem SeqO.keeps {h h' : Heap} {a : Addr} {its : List Value} (k : ∀ b o, h.get? b = some o → h'.get? b = some o) (x : SeqO h a its) : SeqO h' a its :=
  x.imp (IsList.keeps' k) (IsTup.keeps' k)
section
variable {prog : Program} {w : World} {A : Around} {E : Value → Shared → Prop} {s : Shared}
theorem seqO_len {a : Addr} {its : List Value} {Q : Value → Shared → Prop} (x : SeqO s.heap a its) (hz : its.length ≤ sizeLine) (h : ∀ t tk, Q (.int its.length t) { s with toks := tk }) : wpAny (model prog w) A (call (.builtin "len") [.ref a]) Q E s := by
  have z := sizeLine_eq
  rcases x with x | x
  · exact Calls.call_len_list x (by simp; omega) (by simpa using h _ _)
  · exact len_tuple x (by simp; omega) (by simpa using h _ _)
theorem seqO_item {value slice : Expr} {a : Addr} {its : List Value} {i : Int} {t : Tok} {x : Value} {Q : Value → Shared → Prop} (hs : SeqO s.heap a its) (hz : its.length ≤ sizeLine) (h0 : 0 ≤ i) (hx : its[i.toNat]? = some x) (h : Q x s)
    (hp : subscripted slice false (.ref a) (.int i t) = operate [.ref a, .int i t] (getItem (.ref a) (.int i t))) : wpAny (model prog w) A (subscriptTail value slice (.ref a) (.int i t)) Q E s := by
  have z := sizeLine_eq
  have hi := (List.getElem?_eq_some_iff.mp hx).1
  rcases hs with hs | hs
  · exact item_listR hs h0 (by omega) (by simpa using hx) h hp
  · refine subscriptTail_builtinR (x := x) hs.typeIs slot_tuple_getitem.lookup (getItem_tuple (j := i.toNat) (Q := fun r s' => r = x ∧ Q r s') hs (by omega) (by omega) ?_ (by simpa using hx) ⟨rfl, h⟩) hp
    rw [List.size_toArray]
    exact seqIndex_of h0 (by omega)
/-- what a lambda's body finds around -/
structure LamAt (h : Heap) (e : PySem.Env) (mg mb : Str → Option Value) : Prop where
  kind : e.scope.kind = .function
  glob : h.Ns e.globals mg
  blt : h.Ns e.builtins mb
  len : mg "len" = none
  blen : mb "len" = some (.builtin "len")
theorem lam_len {e : PySem.Env} {mg mb : Str → Option Value} {p : Pos} {Q : Value → Shared → Prop} (L : LamAt s.heap e mg mb) (hk : e.kindOf "len" = some .globalImplicit) (h : Q (.builtin "len") s) : wpAny (model prog w) A (eval (.Name "len" p) e) Q E s :=
  Calls.Name_function_global L.kind hk (Calls.loadGlobal_builtin L.glob L.len L.blt L.blen h) (by decide)
/-- (len(fam[k]), k) -/
theorem lam_body1 {e : PySem.Env} {mg mb m : Str → Option Value} {fam k : Str} {p1 p2 p3 p4 p5 p6 p7 : Pos} {kk : Nat} {cc fa wa : Addr} {its wits : List Value} {i : Int} {t : Tok} {Q : Value → Shared → Prop} (L : LamAt s.heap e mg mb) (hk : e.kindOf "len" = some .globalImplicit)
    (kf : e.kindOf fam = some .free) (kl : e.kindOf k = some .local) (hc : e.cells.lookup fam = some cc) (hcell : s.heap.IsCell cc (some (.ref fa))) (hn : s.heap.Ns e.locals m) (hm : m k = some (.int i t))
    (d1 : (fam == ("__debug__" : Str)) = false) (d2 : (fam == ("__classdict__" : Str)) = false) (d3 : (k == ("__debug__" : Str)) = false)
    (hs : SeqO s.heap fa its) (hz : its.length ≤ sizeLine) (h0 : 0 ≤ i) (hx : its[i.toNat]? = some (.ref wa)) (hw : SeqO s.heap wa wits) (hwz : wits.length ≤ sizeLine)
    (h : ∀ t' tk, Q (.ref s.heap.objs.size) { s with heap := s.heap.push { cls := .type "tuple", data := .seq #[.int wits.length t', .int i t] }, toks := tk }) :
    wpAny (model prog w) A (eval (.Tuple [.Call (.Name "len" p1) [.Subscript (.Name fam p2) (.Name k p3) p4] [] p5, .Name k p6] kk p7) e) Q E s := by
  refine wpAny_Tuple_spliced (args_cons ?_ rfl)
  refine Call_ (lam_len L hk (PyProof.Rows.callWith_builtin1 (args_cons ?_ rfl) rfl rfl))
  refine Subscript_ (wpAny_Name (wpAny_loadName_free L.kind kf hc hcell (wpAny_Name (wpAny_loadName_local L.kind kl hn hm ?_) d3) d2) d1)
  refine seqO_item hs hz h0 hx (args_nil (seqO_len hw hwz fun t' tk => ?_)) rfl
  refine args_cons (wpAny_Name (wpAny_loadName_local (s := { s with toks := tk }) L.kind kl hn hm (args_nil ⟨?_, h t' tk⟩)) d3) rfl
  show 2 ≤ sizeLine
  rw [sizeLine_eq]; omega
/-- (len(row), row) -/
theorem lam_body2 {e : PySem.Env} {mg mb m : Str → Option Value} {k : Str} {p1 p2 p5 p6 p7 : Pos} {kk : Nat} {wa : Addr} {wits : List Value} {Q : Value → Shared → Prop} (L : LamAt s.heap e mg mb) (hk : e.kindOf "len" = some .globalImplicit)
    (kl : e.kindOf k = some .local) (hn : s.heap.Ns e.locals m) (hm : m k = some (.ref wa)) (d3 : (k == ("__debug__" : Str)) = false) (hw : SeqO s.heap wa wits) (hwz : wits.length ≤ sizeLine)
    (h : ∀ t' tk, Q (.ref s.heap.objs.size) { s with heap := s.heap.push { cls := .type "tuple", data := .seq #[.int wits.length t', .ref wa] }, toks := tk }) :
    wpAny (model prog w) A (eval (.Tuple [.Call (.Name "len" p1) [.Name k p2] [] p5, .Name k p6] kk p7) e) Q E s := by
  refine wpAny_Tuple_spliced (args_cons ?_ rfl)
  refine Call_ (lam_len L hk (PyProof.Rows.callWith_builtin1 (args_cons ?_ rfl) rfl rfl))
  refine wpAny_Name (wpAny_loadName_local L.kind kl hn hm ?_) d3
  refine args_nil (seqO_len hw hwz fun t' tk => ?_)
  refine args_cons (wpAny_Name (wpAny_loadName_local (s := { s with toks := tk }) L.kind kl hn hm (args_nil ⟨?_, h t' tk⟩)) d3) rfl
  show 2 ≤ sizeLine
  rw [sizeLine_eq]; omega
/-- the call: the frame, then the body -/
theorem lam_run {f c' : Addr} {name qual k : Str} {params : Arguments} {body : Expr} {scope : Scope} {cl : List (Str × Addr)} {pm ctv v : Value} {Q : Value → Shared → Prop} (hroom : A.depth < recursionLimit) (ho : s.heap.get? f = some (PySem.W.kla_obj name qual params body scope cl pm c' ctv))
    (hcd : s.heap.CodeRec (.ref c') qual) (hnl : s.heap.NoLimit) (hb : bindArgs (PySem.W.kla_fn name qual params body scope cl pm (.ref c') ctv) ⟨[v], []⟩ = pure [(k, v)]) (hl : scope.names.lookup k = some .local) (hco : scope.isCoroutine = false) (hgen : scope.isGenerator = false) (hk : scope.kind = .function) (hcell : ∀ x ∈ scope.names, x.2 ≠ .cell)
    (h : ∀ (h₁ : Heap) (E' : Value → Shared → Prop), h₁.Ns s.heap.objs.size (fun y => [(k, v)].reverse.lookup y) → (∀ b o, s.heap.get? b = some o → h₁.get? b = some o) → wpAny (model prog w) (A.deeper (PySem.W.envX qual scope s.heap.objs.size f (.ref c') cl)) (eval body (PySem.W.envX qual scope s.heap.objs.size f (.ref c') cl)) Q E' { s with heap := h₁, toks := s.toks + 1 }) :
    wpAny (model prog w) A (call (.ref f) [v]) Q E s := by
  refine wpAny_call (PySem.W.kla_callFunE hroom ho rfl hco hgen rfl hcd ?_)
  rw [hb]
  refine wpAny_pure (wpAny_newFunctionEnv hcell (fun x hx => ?_) (fun h₁ hns hsb => ⟨hnl.fresh _ hsb, ?_⟩) hk)
  · have : x = (k, v) := by simpa using hx
    subst this; exact hl
  have hk₁ : ∀ b o, s.heap.get? b = some o → h₁.get? b = some o := fun b o e => hsb.extBut b o (Nat.ne_of_lt (Heap.lt_size e)) (Heap.get?_push_of_some _ e)
  show codeAny (model prog w) A (.expr body (PySem.W.envX qual scope s.heap.objs.size f (.ref c') cl)) _ _
  exact PySem.W.kla_codeExpr (h h₁ _ hns hk₁)
end
end Kw
namespace Kw
open PySem PySem.Spec PyProof.Rows L2
section
variable {X : Cx} {R : Rc} {E : XK} {g : Gh} {H : Hp} {t : Tp}
/-- sorted by a key -/
def sortKey (kf : D → D) (ys : List D) : List D := ys.mergeSort (PySem.W.dataLe false kf)
theorem keyLe_map (kf : D → D) (p q : V × D) : PySem.W.dataLe false (fun b : V × D => kf b.2) p q = PySem.W.dataLe false kf p.2 q.2 := rfl
theorem sort_key_snd {g : Gh} {kf : D → D} {vs : List V} {ds : List D} (r : RpAll R g vs ds) : ((vs.zip ds).mergeSort (PySem.W.dataLe false fun b : V × D => kf b.2)).map (·.2) = sortKey kf ds := by
  unfold sortKey
  rw [List.map_mergeSort (s := PySem.W.dataLe false kf) (f := fun b : V × D => b.2) (fun a _ b _ => keyLe_map kf a b), zip_snd r]
/-- what a key function must do: the items ys, at the state s -/
def KeyRuns (X : Cx) (R : Rc) (g : Gh) (H : Hp) (t : Tp) (kf : D → D) (f : Addr) (ys : List D) (s : Shared) : Prop :=
  ∀ (g1 : Gh) (v : Value) (z : V) (y : D), Grow R g H g1 H t → RelV z v → Rp R g1 z y → y ∈ ys → ∀ (h : Heap) (tk : Nat), (∀ b o, s.heap.get? b = some o → h.get? b = some o) →
    ∀ A : Around, A.depth ≤ X.A.depth → wpAny (model X.prog X.w) A (call (.ref f) [v]) (PySem.W.KeyPure (kf y) { s with heap := h, toks := tk }) (fun _ _ => False) { s with heap := h, toks := tk }
theorem sortK_D (hc : X.calm = true) (hK : X.K = R.K) (hu : X.A.units + 100 < cLine) {pins : List (Addr × Obj)} {σ : L2.St} {s : Shared} {x : V} {u : Value} {d : D} {ys : List D} {Q : VK} {kf : D → D} {f : Addr} (I : Inv X pins σ H s) (rx : RelV x u) (ok : GOk R g t H) (hx : Rv R g H x d) (e : itemsD d = some ys) (hs : sortB (ys.map kf) = true)
    (turn : ∀ s', (∀ b o, s.heap.get? b = some o → s'.heap.get? b = some o) → s'.gens = s.gens → s'.os = s.os → s'.drawn = s.drawn → KeyRuns X R g H t kf f ys s')
    (h : ∀ g1, Grow R g H g1 H t → ∀ p vs, H p = none → RpAll R g1 vs (sortKey kf ys) → Q (.ref p) (upd H p (.lst vs))) :
    wpAny (model X.prog X.w) X.A (call (.builtin "sorted") [u] [(Str.ofString "key", .ref f)]) (EP X pins σ Q) X.xe s := by
  refine PyProof.Rows.call_function_entry_kw PyProof.Rows.kind_sorted PyProof.Rows.plain_sorted PyProof.Rows.entry_sorted (PyProof.Rows.ksk_s1 _ _) ?_
  unfold Builtin.«sorted»
  refine wpAny_bind (m := checkCount "sorted" 1 1 _) (wpAny_pure ?_)
  refine wpAny_bind (col_D (A := X.A.in1) (I.ok.hd hc) I rx ok hx e fun h' tk us vs g1 hk rv hz w rr => ?_)
  have I1 : Inv X pins σ H { s with heap := h', toks := tk } := I.kept hk
  unfold sortB at hs
  rw [Bool.and_eq_true] at hs
  obtain ⟨h1, h2⟩ := alikeB_iff hs.1
  have hul : us.length ≤ sizeLine := by rw [← rv.length]; exact hz
  have hbl : (vs.zip ys).length ≤ sizeLine := by rw [List.length_zip, ← rr.length, Nat.min_self]; exact hz
  refine wpAny_bind (wpAny_newList ?_ hul)
  have hoL : (h'.push (seqObj "list" us.toArray 0)).get? h'.objs.size = some (seqObj "list" us.toArray 0) := Heap.get?_push_size _ rfl
  show wpAny _ _ _ _ _ { s with heap := h'.push (seqObj "list" us.toArray 0), toks := tk }
  have zk : (vs.zip ys).map (fun b : V × D => kf b.2) = ys.map kf := by
    have := congrArg (List.map kf) (zip_snd rr)
    rw [List.map_map] at this
    exact this
  have hal : PySem.W.AllAlike ((vs.zip ys).map fun b : V × D => kf b.2) := by rw [zk]; exact fun d hd e he => h2 d hd e he
  have hso : PySem.W.Sortable ((vs.zip ys).map fun b : V × D => kf b.2) := by rw [zk]; exact sort_ok hs.2
  have fresh : ∀ b o, h'.get? b = some o → b ≠ h'.objs.size := fun b o q => Nat.ne_of_lt (Heap.lt_size q)
  refine wpAny_bind (wpAny_holding (PySem.W.list_sort_key_data (s := { s with heap := h'.push (seqObj "list" us.toArray 0), toks := tk }) (b := false) (R := PrOk g1 R h') (fun b : V × D => kf b.2) hoL (each_of rr rv) hal hso hbl
    (fun b hb => by have := (h1 (kf b.2) (List.mem_map.mpr ⟨_, (List.of_mem_zip hb).2, rfl⟩)).2; show X.A.units + 1 + 1 + _ < _; omega) (PyProof.Rows.ksk_l1 _ _) (PyProof.Rows.ksk_t1 _ _)
    (fun v b hb hm h2 tk2 kp => ?_) fun out c h2 tk2 kp hD hol eo => ?_))
  · exact turn { s with heap := h', toks := tk } hk rfl rfl rfl g1 v b.1 b.2 w hb.1 hb.2 (List.of_mem_zip hm).2 h2 tk2 (fun a o q => kp a o (fresh a o q) (Heap.get?_push_of_some _ q)) _ (by show X.A.depth ≤ _; omega)
  obtain ⟨q1, q2⟩ := of_each eo
  rw [sort_key_snd rr] at q2
  refine wpAny_pure ⟨_, rfl, .ref h'.objs.size, upd H h'.objs.size (.lst _), I1.laid (t' := tk2) (fun b u e => kp b u (fresh b u e) (Heap.get?_push_of_some _ e)) (Nat.le_refl _) ⟨?_, _, c, q1, hD⟩, rfl, h g1 w _ _ (I1.hok.fresh (Nat.le_refl _)) q2⟩
  rw [q1.length, hol]; exact hbl
end
end Kw
namespace Kw
open PySem PySem.Spec PyProof.Rows L2
/-! ### a lambda as key: made, then called -/
/-- the heap after a lambda is made -/
theorem Grow.extN {R : Rc} {g : Gh} {H H2 : Hp} {t : Tp} (ok : GOk R g t H) (x : LamX.ExtN H H2) (tb : LamX.Tabs R.tb H2) : Grow R g H g H2 t :=
  ⟨Gle.refl g, fun _ h => .inl h, fun b o h _ nt => x b o h nt, fun _ _ h => .inl h, ⟨fun b o h => x b o (ok.sub b o h) (ok.ft b o h).nt, fun p hp => let ⟨ds, vs, e, q1, q2, q3⟩ := ok.tape p hp; ⟨ds, vs, e, q1, x p _ q2 (fun _ z => by cases z), q3⟩, ok.notape, tb, ok.ft⟩⟩
def seqD : D → Option (List D)
  | .list xs => some xs
  | .tuple xs => some xs
  | _ => none
/-- (len(fam[k]), k) -/
def lenKey (j : Nat) (ρ : Env) : D → Option D
  | .int i => match ρ[j]? with
    | some (.val d) => match seqD d with
      | some xs => if 0 ≤ i then (match xs[i.toNat]? with
        | some y => (seqD y).map fun zs => .tuple [.int zs.length, .int i]
        | none => none) else none
      | none => none
    | _ => none
  | _ => none
def keyAt (kf : Env → D → Option D) (ρ : Env) (y : D) : D := (kf ρ y).getD .none
def sortKM (kf : Env → D → Option D) (ρ : Env) (d : D) : M (List D) := match itemsD d with
  | some ys => if (ys.all fun y => (kf ρ y).isSome) = true ∧ sortB (ys.map (keyAt kf ρ)) = true then ret (sortKey (keyAt kf ρ) ys) else bad
  | none => bad
def eSortK (kf : Env → D → Option D) (e : DE) : DA := fun ρ => bnd (e ρ) (sortKM kf ρ)
section
variable {X : Cx} {R : Rc} {E : XK} {g : Gh} {H : Hp} {t : Tp} {pins : List (Addr × Obj)} {σ : L2.St} {s : Shared}
theorem seqO_of {x : V} {u : Value} {d : D} {ys : List D} (I : Inv X pins σ H s) (ok : GOk R g t H) (hx : Rv R g H x d) (rx : RelV x u) (e : seqD d = some ys) : ∃ a vs its, u = .ref a ∧ Vals vs its ∧ RpAll R g vs ys ∧ its.length ≤ sizeLine ∧ SeqO s.heap a its := by
  cases d <;> simp [seqD] at e
  case list zs =>
    subst e
    obtain ⟨p, vs, rfl, hp, rr⟩ := hx.lst ok
    cases rx
    obtain ⟨its, rv, ⟨o, n, ho, hc, hd, hdt⟩, hz⟩ := I.list (.of hp)
    exact ⟨p, vs, its, rfl, rv, rr, by rw [← rv.length]; exact hz, .inl ⟨o, ho, hc, n, hdt⟩⟩
  case tuple zs =>
    subst e
    obtain ⟨p, vs, rfl, _, hp, rr⟩ := hx.tup ok
    cases rx
    obtain ⟨its, rv, h, hz⟩ := I.tuple (.of hp)
    exact ⟨p, vs, its, rfl, rv, rr, by rw [← rv.length]; exact hz, .inr h⟩
/-- the key is new, down to what has no place -/
def KeyNew (k : D) (s₁ : Shared) (v : Value) (s₂ : Shared) : Prop := ∃ h' tk, s₂ = { s₁ with heap := h', toks := tk } ∧ (∀ b o, s₁.heap.get? b = some o → h'.get? b = some o) ∧ ∀ h2 : Heap, (∀ b o, s₁.heap.objs.size ≤ b → h'.get? b = some o → h2.get? b = some o) → Reads h2 v k []
theorem KeyNew.pure {k : D} {s₁ s₂ : Shared} {v : Value} (h : KeyNew k s₁ v s₂) : PySem.W.KeyPure k s₁ v s₂ := by
  obtain ⟨h', tk, e, kp, r⟩ := h
  exact ⟨h', tk, e, kp, r h' fun _ _ _ q => q⟩
/-- what the lambda must do, once made -/
def LamKeyP (PK : D → Shared → Value → Shared → Prop) (X : Cx) (R : Rc) (params : Arguments) (body : Expr) (scope : Scope) (kf : Env → D → Option D) : Prop :=
  ∀ (pins : List (Addr × Obj)) (σ : L2.St) (g : Gh) (t : Tp) (ρ : Env) (H : Hp) (s : Shared) (f c' : Addr) (pm ctv : Value), Inv X pins σ H s → SRel R g t ρ σ H →
    s.heap.get? f = some (PySem.W.kla_obj "<lambda>" (X.env.qual ++ "<lambda>") params body scope (cloFrom X.env.cells scope.names []) pm c' ctv) → s.heap.CodeRec (.ref c') (X.env.qual ++ "<lambda>") →
    ∀ (v : Value) (z : V) (y d : D), RelV z v → Rp R g z y → kf ρ y = some d → ∀ A : Around, A.depth ≤ X.A.depth → wpAny (model X.prog X.w) A (call (.ref f) [v]) (PK d s) (fun _ _ => False) s
abbrev LamKey (X : Cx) (R : Rc) (params : Arguments) (body : Expr) (scope : Scope) (kf : Env → D → Option D) : Prop := LamKeyP PySem.W.KeyPure X R params body scope kf
theorem LamKeyP.key {params : Arguments} {body : Expr} {scope : Scope} {kf : Env → D → Option D} (h : LamKeyP KeyNew X R params body scope kf) : LamKey X R params body scope kf :=
  fun pins σ g t ρ H s f c' pm ctv I S hf hc v z y d r1 r2 e A hA => wpAny_mono (h pins σ g t ρ H s f c' pm ctv I S hf hc v z y d r1 r2 e A hA) (fun _ _ q => q.pure) fun _ _ q => q
theorem clo_look {scope : Scope} {y : Str} {c1 : Addr} (hl : scope.names.lookup y = some .free) (hc : X.env.cells.lookup y = some c1) : (cloFrom X.env.cells scope.names []).lookup y = some c1 := by
  obtain ⟨c, e⟩ := mem_lookup (cloFrom_has (cells := X.env.cells) (acc := []) (PySem.mem_of_lookup hl))
  rcases cloFrom_mem (PySem.mem_of_lookup e) with hm | ⟨h1, h2⟩
  · cases hm
  · rw [hc] at h2
    rw [e, h2]; rfl
/-- the scope of such a lambda -/
structure KeySc (scope : Scope) (k fam : Str) : Prop where
  kind : scope.kind = .function
  co : scope.isCoroutine = false
  gen : scope.isGenerator = false
  nocell : ∀ x ∈ scope.names, x.2 ≠ .cell
  loc : scope.names.lookup k = some .local
  len : scope.names.lookup ("len" : Str) = some .globalImplicit
  free : scope.names.lookup fam = some .free
  d1 : (fam == ("__debug__" : Str)) = false
  d2 : (fam == ("__classdict__" : Str)) = false
  d3 : (k == ("__debug__" : Str)) = false
theorem lamKey_len {params : Arguments} {scope : Scope} {k fam : Str} {j kk : Nat} {p1 p2 p3 p4 p5 p6 p7 : Pos} (hroom : X.A.depth < recursionLimit) (hm : X.mg "len" = none) (S : KeySc scope k fam) (hj : X.N[j]? = some fam) (hfam : X.env.scope.names.lookup fam = some .cell)
    (hb : ∀ (v pm ctv : Value) (c' : Addr), bindArgs (PySem.W.kla_fn "<lambda>" (X.env.qual ++ "<lambda>") params (.Tuple [.Call (.Name "len" p1) [.Subscript (.Name fam p2) (.Name k p3) p4] [] p5, .Name k p6] kk p7) scope (cloFrom X.env.cells scope.names []) pm (.ref c') ctv) ⟨[v], []⟩ = pure [(k, v)]) :
    LamKeyP KeyNew X R params (.Tuple [.Call (.Name "len" p1) [.Subscript (.Name fam p2) (.Name k p3) p4] [] p5, .Name k p6] kk p7) scope (lenKey j) := by
  intro pins σ g t ρ H s f c' pm ctv I SR hf hcd v z y d rz ry e A hA
  cases y <;> (simp only [lenKey] at e) <;> try (cases e; done)
  case int i =>
  cases hs : ρ[j]? with
  | none => simp only [hs] at e; cases e
  | some sl =>
    cases sl <;> (simp only [hs] at e) <;> try (cases e; done)
    case val df =>
    cases hq : seqD df with
    | none => simp only [hq] at e; cases e
    | some xs =>
      simp only [hq] at e
      by_cases h0 : 0 ≤ i
      case neg => rw [if_neg h0] at e; cases e
      rw [if_pos h0] at e
      cases hy : xs[i.toNat]? with
      | none => simp only [hy] at e; cases e
      | some yy =>
        simp only [hy] at e
        cases hw : seqD yy with
        | none => simp only [hw] at e; cases e
        | some zs =>
          simp only [hw, Option.map_some, Option.some.injEq] at e
          obtain ⟨as, sl⟩ := SR.sl
          obtain ⟨vf, bs, e1, hsl, _⟩ := sl.get hs
          cases hsl with
          | val rf =>
          obtain rfl := Rv.int (R := R) (g := g) (H := H) (.inl ry)
          obtain ⟨m, hn, hl⟩ := I.loc
          obtain ⟨u, ru, q⟩ := hl j fam _ hj e1 (.inr (.inl hfam))
          have hcell : ∃ c, X.env.cells.lookup fam = some c ∧ s.heap.IsCell c (some u) := by
            rcases q with ⟨k', _⟩ | ⟨_, c, e2, z⟩
            · have k' : X.env.scope.names.lookup fam = some .local := k'
              rw [hfam] at k'; cases k'
            · exact ⟨c, e2, z⟩
          obtain ⟨cc, e2, hic⟩ := hcell
          obtain ⟨fa, vs, its, rfl, rvs, rrs, hz, sq⟩ := seqO_of I SR.ok (.inl rf) ru hq
          obtain ⟨zv, e3, rzv⟩ := rrs.get hy
          obtain ⟨w', e4, rw'⟩ := rvs.get e3
          obtain ⟨wa, ws, wits, rfl, rws, rrw, hwz, sw⟩ := seqO_of I SR.ok (.inl rzv) rw' hw
          obtain ⟨tk0, rfl⟩ : ∃ tk0, v = .int i tk0 := rz
          refine lam_run (k := k) (by omega) hf hcd I.nolimit (hb _ _ _ _) S.loc S.co S.gen S.kind S.nocell fun h₁ E' hns hk => ?_
          have I1 : Inv X pins σ H { s with heap := h₁, toks := s.toks + 1 } := I.kept hk
          obtain ⟨mb, b1, b2⟩ := I1.mod.blt
          refine lam_body1 (mg := X.mg) (mb := mb) (m := fun y => [(k, (Value.int i tk0))].reverse.lookup y) (cc := cc) (fa := fa) (its := its) (wa := wa) (wits := wits) (i := i) (t := tk0) ⟨S.kind, I1.mod.glob.keeps I1.bk, b1.keeps I1.bk, hm, (b2 "len" (by decide)).trans rfl⟩ S.len S.free S.loc (clo_look S.free e2) (hic.keeps hk) hns (by simp) S.d1 S.d2 S.d3
            (sq.keeps hk) hz h0 e4 (sw.keeps hk) hwz fun t' tk => ?_
          refine ⟨_, tk, rfl, fun b o q => Heap.get?_push_of_some _ (hk b o q), fun h2 hq2 => ?_⟩
          have el : zs.length = wits.length := by rw [← rrw.length, rws.length]
          rw [← e, el]
          refine .tuple (n := 0) (hq2 _ _ ?_ (Heap.get?_push_size _ rfl)) rfl rfl (.cons (.int _ _) (.cons (.int _ _) .nil))
          exact Nat.le_of_lt hns.lt
/-- sorted(e, key=lambda ...) -/
theorem pe_sortLam {params : Arguments} {body e : Expr} {scope : Scope} {kf : Env → D → Option D} {fe : DE} {c P : Addr} {p pos lpos kpos : Pos} (LK : LamKey X R params body scope kf) (hc : X.calm = true) (hK : X.K = R.K) (hu : X.A.units + 100 < cLine)
    (TB : LamX.TabB X.base X.mg c P) (hcode : X.env.code = .ref c) (hmT : (P, X.env.qual ++ "<lambda>") ∈ R.tb) (huT : ∀ p ∈ R.tb, p.1 = P → p.2 = X.env.qual ++ "<lambda>") (hdef : defaultsOf params X.env = ([], []))
    (hfree : ∀ y ∈ scope.names, y.2 = .free → X.env.scope.names.lookup y.1 = some .cell ∨ X.env.scope.names.lookup y.1 = some .free) (hg : Gl X "sorted") (hm : X.mg "sorted" = none) (he : PE X e (wE R E fe)) (hs : starEach [e] X.env = (false, eval e X.env) :: starEach [] X.env)
    (hpl : (backTo pos (starEach [e] X.env)).any (·.1) = false) (hst : backTo pos (starEach [e] X.env) = (false, eval e X.env) :: backTo pos (starEach [] X.env)) :
    PE X (.Call (.Name "sorted" p) [e] [⟨some "key", .Lambda params body scope lpos, kpos⟩] pos) (wL R E (eSortK kf fe)) := by
  refine ⟨fun pins s σ H Q I h => ?_⟩
  obtain ⟨g, t, ρ, S, w⟩ := h
  refine wpAny_Call_Name_kw (ld_blt I hg hm (u := .builtin "sorted") rfl ?_)
  refine PyProof.Rows.callWith_kw (thn ((pa_cons he pa_nil hs).run pos pins s σ H (fun xs H1 => ∃ g1 t1 x d, xs = [x] ∧ SRel R g1 t1 ρ σ H1 ∧ Rp R g1 x d ∧ W1 R g1 H1 (sortKM kf ρ d t1) (fun g' H' _ ds => ∀ p vs, H' p = none → RpAll R g' vs ds → Q (.ref p) (upd H' p (.lst vs))) E) I
    ⟨g, t, ρ, S, (W1.bnd S.ok w).mono fun g1 H1 t1 d w1 k x rx => ⟨g1, t1, x, d, rfl, S.grow w1, rx, k⟩⟩) fun us s1 ⟨vs, H1, I1, r1, g1, t1, x, d, ex, S1, rx, k⟩ => ?_) hst hpl rfl rfl
  subst ex
  refine PyProof.Rows.kws_cons (LamX.lam_make2 I1 TB hcode hmT huT S1.ok.tb hdef (fun y hy e => I1.ok.has _ (hfree y hy e)) fun f c' pm ctv H2 s2 I2 eN T2 hf hfn hfr hco => PyProof.Rows.kws_nil ?_)
  have w2 := Grow.extN S1.ok eN T2
  have S2 := S1.grow w2
  cases r1 with
  | cons ru rn =>
  cases rn
  rename_i u _ 
  show wpAny _ _ (call (.builtin "sorted") [_] [(Str.ofString "key", .ref f)]) _ _ s2
  unfold sortKM at k
  cases e1 : itemsD d with
  | none => simp only [e1] at k; exact (k : False).elim
  | some ys =>
    simp only [e1] at k
    obtain ⟨⟨hall, hso⟩, k⟩ := W1_ite k
    obtain ⟨⟨oc, cvs, ct, hoc, hdc, hvc⟩, _, _⟩ := I2.hok c' _ hco
    refine sortK_D (kf := keyAt kf ρ) hc hK hu I2 ru S2.ok (.inl (rx.mono w2.le)) e1 hso (fun s' hk hg' ho' hd' => ?_) fun g3 w3 p vs hp rr => ?_
    · intro g3 v z y w3 rz ry hy hh tk hkk A hA
      have S3 := S2.grow w3
      have kk : ∀ b o, s2.heap.get? b = some o → hh.get? b = some o := fun b o q => hkk b o (hk b o q)
      have I3 : Inv X pins σ H2 { s2 with heap := hh, toks := tk } := I2.kept kk
      have hs3 : ({ s' with heap := hh, toks := tk } : Shared) = { s2 with heap := hh, toks := tk } := by
        cases s'; cases s2
        simp only at hg' ho' hd'
        subst hg' ho' hd'
        rfl
      rw [hs3]
      have hy2 := List.all_eq_true.mp hall y hy
      cases ek : kf ρ y with
      | none => rw [ek] at hy2; cases hy2
      | some dk =>
        have : keyAt kf ρ y = dk := by unfold keyAt; rw [ek]; rfl
        rw [this]
        exact LK pins σ g3 _ ρ H2 _ f c' pm ctv I3 S3 (kk _ _ hf) ⟨c', oc, cvs, ct, rfl, kk _ _ hoc, hdc, hvc⟩ v z y dk rz ry ek A hA
    · have kq := k.up S1.ok (w2.trans S1.ok w3)
      exact W1.at w3.ok kq p vs hp rr

/-! min by a key -/
def minKey (kf : D → D) (y : D) (ys : List D) : D := ys.foldl (fun a z => if PySem.W.dataLt (kf z) (kf a) then z else a) y
def minKM (kf : Env → D → Option D) (ρ : Env) : D → M D
  | .tuple (y :: ys) => if ((y :: ys).all fun y => (kf ρ y).isSome) = true ∧ alikeB ((y :: ys).map (keyAt kf ρ)) = true ∧ isNon (keyAt kf ρ y) = false then ret (minKey (keyAt kf ρ) y ys) else bad
  | _ => bad
def eMinK (kf : Env → D → Option D) (e : DE) : DE := fun ρ => bnd (e ρ) (minKM kf ρ)
/-- from s on all stands -/
def Since (s s' : Shared) : Prop := s'.gens = s.gens ∧ s'.drawn = s.drawn ∧ s'.os = s.os ∧ ∀ b o, s.heap.get? b = some o → s'.heap.get? b = some o
theorem Since.eq {s s' : Shared} (h : Since s s') : s' = { s with heap := s'.heap, toks := s'.toks } := by
  obtain ⟨h1, h2, h3, _⟩ := h
  cases s'; cases s
  simp only at h1 h2 h3
  subst h1 h2 h3
  rfl
theorem min_tupK {prog : Program} {w : World} {A : Around} {E : Value → Shared → Prop} {s : Shared} {l q : Addr} {vs : Array Value} {kd : Nat → D} {y : D} {ks : List D} {Q : Value → Shared → Prop} (hh : A.handled = none) (hl : s.heap.IsTuple l vs) (hn : vs.size = ks.length + 1) (hkd : ∀ i, kd i = (y :: ks).getD i .none)
    (ha : PySem.W.AlikeAll (y :: ks)) (hu : A.units + 1 + PyData.depthAll (y :: ks) < cLine)
    (turn : ∀ i v (s' : Shared), vs[i]? = some v → Since s s' → wpAny (model prog w) A.in1 (call (.ref q) [v]) (KeyNew (kd i) s') (fun _ _ => False) s')
    (h : ∀ (v : Value) (s' : Shared), vs[argBest (fun i j => PySem.W.dataLt (kd i) (kd j)) ks.length]? = some v → Since s s' → Q v s') :
    wpAny (model prog w) A (call (.builtin "min") [.ref l] [(Str.ofString "key", .ref q)]) Q E s := by
  refine PySem.call_min_walkK (PySem.W.iter_tupleW (A := A.in1) hh hl fun s₂ e W st hfp hw hk => ?_)
  have kin : ∀ {i}, i < vs.size → (y :: ks).getD i .none ∈ (y :: ks) := fun {i} hi => by
    have hi' : i < (y :: ks).length := by rw [List.length_cons, ← hn]; exact hi
    rw [List.getD_eq_getElem?_getD, List.getElem?_eq_getElem hi']
    exact List.getElem_mem hi'
  have s2s : s₂.heap.objs.size = s.heap.objs.size + 1 := by rw [e]; exact Heap.size_push _ _
  refine ⟨_, _, _, _, _, _, _, Since s, fun i k s' => i < vs.size ∧ ∀ h2 : Heap, (∀ b o, b ≠ s₂.heap.objs.size → b ≠ s.heap.objs.size → s'.heap.get? b = some o → h2.get? b = some o) → Reads h2 k (kd i) [], fun i j => PySem.W.dataLt (kd i) (kd j), rfl, W, st, hfp, by omega, ⟨?_, ?_, ?_, ?_⟩, ⟨by rw [e], by rw [e], by rw [e], hk⟩, fun v s' hP J => h v s' (by rw [hn, Nat.add_sub_cancel] at hP; exact hP) J⟩
  · intro a b J m
    refine ⟨m.gens.trans J.1, m.drawn.trans J.2.1, m.os.trans J.2.2.1, fun c o q => m.heap c o (fun hb => ?_) (J.2.2.2 c o q)⟩
    have hc := Heap.lt_size q
    rcases List.mem_cons.mp hb with z | z
    · exact absurd hc (by rw [z, s2s]; exact Nat.not_lt.mpr (Nat.le_succ _))
    · rw [List.mem_singleton.mp z] at hc; exact Nat.lt_irrefl _ hc
  · intro i k a b v m
    refine ⟨v.1, fun h2 hq => v.2 h2 fun c o n1 n2 q => hq c o n1 n2 (m.heap c o (fun hb => ?_) q)⟩
    rcases List.mem_cons.mp hb with z | z
    · exact n1 z
    · exact n2 (List.mem_singleton.mp z)
  · intro i v s' o Q' E' hi hP J hst hS hQ
    refine wpAny_mono (turn i v s' hP J) (fun k s'' kn => ?_) fun _ _ z => z.elim
    obtain ⟨h', tk, rfl, kp, rd⟩ := kn
    have lS := Heap.lt_size hS
    have lI : s.heap.objs.size < s'.heap.objs.size := by
      obtain ⟨o1, e1, _⟩ := hst.1
      exact Heap.lt_size e1
    refine hQ k _ ⟨J.1, J.2.1, J.2.2.1, fun b o q => kp b o (J.2.2.2 b o q)⟩ ⟨?_, ?_⟩ (kp _ _ hS) ⟨hi, fun h2 hq => rd h2 fun b o hb q => hq b o (Nat.ne_of_gt (Nat.lt_of_lt_of_le lS hb)) (Nat.ne_of_gt (Nat.lt_of_lt_of_le lI hb)) q⟩ fun j k' v2 => ⟨v2.1, fun h2 hq => v2.2 h2 fun b o n1 n2 q => hq b o n1 n2 (kp b o q)⟩
    · obtain ⟨o1, e1, r⟩ := hst.1
      exact ⟨o1, kp _ _ e1, r⟩
    · obtain ⟨o1, e1, r⟩ := hst.2
      exact ⟨o1, kp _ _ e1, r⟩
  · intro i j ki kj s' Q' E' J vi vj hq
    have r1 := vi.2 s'.heap fun _ _ _ _ q => q
    have r2 := vj.2 s'.heap fun _ _ _ _ q => q
    have m1 := kin vi.1
    have m2 := kin vj.1
    rw [← hkd] at m1 m2
    refine PySem.W.rcLt_alike _ _ A.in1 s' ki kj _ _ r1 r2 (ha.1 _ m1 _ m2) (ha.2 _ m1) ?_ prog w E' Q' hq
    have := Nat.min_le_left (kd i).depth (kd j).depth
    have := PyData.depth_le_depthAll _ _ m1
    show A.units + 1 + _ < _
    omega
theorem minKey_get {kf : D → D} {y : D} {ys : List D} : (y :: ys)[argBest (fun i j => PySem.W.dataLt (kf ((y :: ys).getD i .none)) (kf ((y :: ys).getD j .none))) ys.length]? = some (minKey kf y ys) := by
  obtain ⟨h1, h2⟩ := PySem.W.argBest_fold (fun a b => PySem.W.dataLt (kf a) (kf b)) PyData.none y ys ys.length (Nat.le_refl _)
  rw [List.take_length] at h2
  have hl : argBest (fun i j => PySem.W.dataLt (kf ((y :: ys).getD i .none)) (kf ((y :: ys).getD j .none))) ys.length < (y :: ys).length := Nat.lt_succ_of_le h1
  rw [List.getD_eq_getElem?_getD, List.getElem?_eq_getElem hl] at h2
  rw [List.getElem?_eq_getElem hl]
  exact congrArg some h2
theorem best_le (bt : Nat → Nat → Bool) : ∀ k, argBest bt k ≤ k
  | 0 => Nat.le_refl _
  | k + 1 => by
    simp only [argBest]
    split
    · exact Nat.le_refl _
    · exact Nat.le_succ_of_le (best_le bt k)
theorem best_congr {bt bt' : Nat → Nat → Bool} : ∀ k, (∀ i j, i ≤ k → j ≤ k → bt i j = bt' i j) → argBest bt k = argBest bt' k
  | 0, _ => rfl
  | k + 1, h => by
    simp only [argBest]
    rw [best_congr k fun i j h1 h2 => h i j (Nat.le_succ_of_le h1) (Nat.le_succ_of_le h2), h _ _ (Nat.le_refl _) (Nat.le_succ_of_le (best_le bt' k))]
theorem key_getD {kf : D → D} {xs : List D} {i : Nat} (hi : i < xs.length) : (xs.map kf).getD i .none = kf (xs.getD i .none) := by
  rw [List.getD_eq_getElem?_getD, List.getD_eq_getElem?_getD, List.getElem?_map, List.getElem?_eq_getElem hi]; rfl
/-- min(e, key=lambda ...) of a tuple -/
theorem pe_minLam {params : Arguments} {body e : Expr} {scope : Scope} {kf : Env → D → Option D} {fe : DE} {c P : Addr} {p pos lpos kpos : Pos} (LK : LamKeyP KeyNew X R params body scope kf) (hc : X.calm = true) (hK : X.K = R.K) (hu : X.A.units + 100 < cLine)
    (TB : LamX.TabB X.base X.mg c P) (hcode : X.env.code = .ref c) (hmT : (P, X.env.qual ++ "<lambda>") ∈ R.tb) (huT : ∀ p ∈ R.tb, p.1 = P → p.2 = X.env.qual ++ "<lambda>") (hdef : defaultsOf params X.env = ([], []))
    (hfree : ∀ y ∈ scope.names, y.2 = .free → X.env.scope.names.lookup y.1 = some .cell ∨ X.env.scope.names.lookup y.1 = some .free) (hg : Gl X "min") (hm : X.mg "min" = none) (he : PE X e (wE R E fe)) (hs : starEach [e] X.env = (false, eval e X.env) :: starEach [] X.env)
    (hpl : (backTo pos (starEach [e] X.env)).any (·.1) = false) (hst : backTo pos (starEach [e] X.env) = (false, eval e X.env) :: backTo pos (starEach [] X.env)) :
    PE X (.Call (.Name "min" p) [e] [⟨some "key", .Lambda params body scope lpos, kpos⟩] pos) (wE R E (eMinK kf fe)) := by
  refine ⟨fun pins s σ H Q I h => ?_⟩
  obtain ⟨g, t, ρ, S, w⟩ := h
  refine wpAny_Call_Name_kw (ld_blt I hg hm (u := .builtin "min") rfl ?_)
  refine PyProof.Rows.callWith_kw (thn ((pa_cons he pa_nil hs).run pos pins s σ H (fun xs H1 => ∃ g1 t1 x d, xs = [x] ∧ SRel R g1 t1 ρ σ H1 ∧ Rp R g1 x d ∧ W1 R g1 H1 (minKM kf ρ d t1) (fun g' H' _ d => ∀ x, Rp R g' x d → Q x H') E) I
    ⟨g, t, ρ, S, (W1.bnd S.ok w).mono fun g1 H1 t1 d w1 k x rx => ⟨g1, t1, x, d, rfl, S.grow w1, rx, k⟩⟩) fun us s1 ⟨vs, H1, I1, r1, g1, t1, x, d, ex, S1, rx, k⟩ => ?_) hst hpl rfl rfl
  subst ex
  refine PyProof.Rows.kws_cons (LamX.lam_make2 I1 TB hcode hmT huT S1.ok.tb hdef (fun y hy e => I1.ok.has _ (hfree y hy e)) fun f c' pm ctv H2 s2 I2 eN T2 hf hfn hfr hco => PyProof.Rows.kws_nil ?_)
  have w2 := Grow.extN S1.ok eN T2
  have S2 := S1.grow w2
  cases r1 with
  | cons ru rn =>
  cases rn
  rename_i u _
  show wpAny _ _ (call (.builtin "min") [_] [(Str.ofString "key", .ref f)]) _ _ s2
  unfold minKM at k
  split at k
  · rename_i y ys
    obtain ⟨⟨hall, hal, hno⟩, k⟩ := W1_ite k
    obtain ⟨⟨oc, cvs, ct, hoc, hdc, hvc⟩, _, _⟩ := I2.hok c' _ hco
    obtain ⟨p0, zs, rfl, _, hp, rr⟩ := Rv.tup S2.ok (.inl (rx.mono w2.le))
    cases ru
    obtain ⟨its, rv, hl, _⟩ := I2.tuple (.of hp)
    obtain ⟨a1, a2⟩ := alikeB_iff hal
    have hd0 := depAll fun d hd => (a1 d hd).2
    have hlen : its.toArray.size = (ys.map (keyAt kf ρ)).length + 1 := by
      rw [List.size_toArray, ← rv.length, rr.length]; simp
    refine min_tupK (kd := fun i => (keyAt kf ρ y :: ys.map (keyAt kf ρ)).getD i .none) (y := keyAt kf ρ y) (ks := ys.map (keyAt kf ρ)) (I2.ok.hd hc) hl hlen (fun i => rfl) (alikeAll_of hal hno) (by have : PyData.depthAll (keyAt kf ρ y :: ys.map (keyAt kf ρ)) ≤ 60 := hd0; omega) (fun i v s' hv Js => ?_) fun v s' hv Js => ?_
    · rw [Js.eq]
      have I3 : Inv X pins σ H2 { s2 with heap := s'.heap, toks := s'.toks } := I2.kept Js.2.2.2
      have hv' : its[i]? = some v := by rw [← List.getElem?_toArray]; exact hv
      have hi : i < (y :: ys).length := by
        have := (List.getElem?_eq_some_iff.mp hv').1
        rw [← rv.length, rr.length] at this; exact this
      obtain ⟨z, e3, rz⟩ := rr.get (List.getElem?_eq_getElem hi)
      obtain ⟨v2, e4, rv2⟩ := rv.get e3
      rw [hv'] at e4; cases e4
      have hy2 := List.all_eq_true.mp hall _ (List.getElem_mem hi)
      cases ek : kf ρ (y :: ys)[i] with
      | none => rw [ek] at hy2; cases hy2
      | some dk =>
        have : (keyAt kf ρ y :: ys.map (keyAt kf ρ)).getD i .none = dk := by
          rw [← List.map_cons, List.getD_eq_getElem?_getD, List.getElem?_map, List.getElem?_eq_getElem hi]
          show keyAt kf ρ (y :: ys)[i] = dk
          unfold keyAt; rw [ek]; rfl
        show wpAny _ _ _ (KeyNew ((keyAt kf ρ y :: ys.map (keyAt kf ρ)).getD i .none) _) _ _
        rw [this]
        exact LK pins σ g1 _ ρ H2 _ f c' pm ctv I3 S2 (Js.2.2.2 _ _ hf) ⟨c', oc, cvs, ct, rfl, Js.2.2.2 _ _ hoc, hdc, hvc⟩ v z _ dk rv2 rz ek _ (by show X.A.depth ≤ _; omega)
    · rw [Js.eq]
      have I3 : Inv X pins σ H2 { s2 with heap := s'.heap, toks := s'.toks } := I2.kept Js.2.2.2
      have hv' : its[argBest (fun i j => PySem.W.dataLt ((keyAt kf ρ y :: ys.map (keyAt kf ρ)).getD i .none) ((keyAt kf ρ y :: ys.map (keyAt kf ρ)).getD j .none)) (ys.map (keyAt kf ρ)).length]? = some v := by rw [← List.getElem?_toArray]; exact hv
      have hm2 : (y :: ys)[argBest (fun i j => PySem.W.dataLt ((keyAt kf ρ y :: ys.map (keyAt kf ρ)).getD i .none) ((keyAt kf ρ y :: ys.map (keyAt kf ρ)).getD j .none)) (ys.map (keyAt kf ρ)).length]? = some (minKey (keyAt kf ρ) y ys) := by
        rw [List.length_map, best_congr (bt' := fun i j => PySem.W.dataLt (keyAt kf ρ ((y :: ys).getD i .none)) (keyAt kf ρ ((y :: ys).getD j .none))) _ fun i j h1 h2 => ?_]
        · exact minKey_get
        · show PySem.W.dataLt (((y :: ys).map (keyAt kf ρ)).getD i .none) (((y :: ys).map (keyAt kf ρ)).getD j .none) = _
          rw [key_getD (Nat.lt_succ_of_le h1), key_getD (Nat.lt_succ_of_le h2)]
      obtain ⟨z, e3, rz⟩ := rr.get hm2
      obtain ⟨v2, e4, rv2⟩ := rv.get e3
      rw [hv'] at e4; cases e4
      exact ⟨z, H2, I3, rv2, W1.at S2.ok (k.up S1.ok w2) z rz⟩
  · exact (k : False).elim
theorem bind1 {name qual : Str} {ap : Pos} {body : Expr} {scope : Scope} {cl : List (Str × Addr)} {pm ctv v : Value} {c' : Addr} :
    bindArgs (PySem.W.kla_fn name qual ⟨[], [⟨"k", none, ap⟩], none, [], [], none, []⟩ body scope cl pm (.ref c') ctv) ⟨[v], []⟩ = pure [(("k" : Str), v)] := rfl
theorem defs1 {k : Str} {ap : Pos} {env : PySem.Env} : defaultsOf ⟨[], [⟨k, none, ap⟩], none, [], [], none, []⟩ env = ([], []) := rfl
end
end Kw
namespace Kw
open PySem PySem.Spec PyProof.Rows L2
/-! ### key=lambda row: (len(row), row); x.index(y) -/
def isI : D → Bool
  | .int _ => true
  | _ => false
def rowKey (_ : Env) : D → Option D
  | .tuple xs => if xs.all isI = true then some (.tuple [.int xs.length, .tuple xs]) else none
  | _ => none
theorem isI_lay : ∀ {xs : List D}, xs.all isI = true → PyData.canLayAll0 xs = true
  | [], _ => by simp [PyData.canLayAll0]
  | .int i :: xs, h => by
    have h2 : xs.all isI = true := by simpa [isI] using h
    simp only [PyData.canLayAll0, PyData.canLay0, isI_lay h2, Bool.and_self]
theorem reads_ints {h : Heap} : ∀ {xs : List D} {us : List Value} {as : List Addr}, xs.all isI = true → ReadsAll h us xs as → as = []
  | [], _, _, _, .nil => rfl
  | .int i :: xs, _, _, e, .cons r rs => by
    have h2 : xs.all isI = true := by simpa [isI] using e
    cases r
    rw [reads_ints h2 rs]; rfl
/-- the scope of such a lambda -/
structure KeySc1 (scope : Scope) (k : Str) : Prop where
  kind : scope.kind = .function
  co : scope.isCoroutine = false
  gen : scope.isGenerator = false
  nocell : ∀ x ∈ scope.names, x.2 ≠ .cell
  loc : scope.names.lookup k = some .local
  len : scope.names.lookup ("len" : Str) = some .globalImplicit
  d3 : (k == ("__debug__" : Str)) = false
section
variable {X : Cx} {R : Rc} {E : XK}
theorem lamKey_row {params : Arguments} {scope : Scope} {k : Str} {kk : Nat} {p1 p2 p5 p6 p7 : Pos} (hK : X.K = R.K) (hroom : X.A.depth < recursionLimit) (hm : X.mg "len" = none) (S : KeySc1 scope k)
    (hb : ∀ (v pm ctv : Value) (c' : Addr), bindArgs (PySem.W.kla_fn "<lambda>" (X.env.qual ++ "<lambda>") params (.Tuple [.Call (.Name "len" p1) [.Name k p2] [] p5, .Name k p6] kk p7) scope (cloFrom X.env.cells scope.names []) pm (.ref c') ctv) ⟨[v], []⟩ = pure [(k, v)]) :
    LamKey X R params (.Tuple [.Call (.Name "len" p1) [.Name k p2] [] p5, .Name k p6] kk p7) scope rowKey := by
  intro pins σ g t ρ H s f c' pm ctv I SR hf hcd v z y d rz ry e A hA
  cases y <;> (simp only [rowKey] at e) <;> try (cases e; done)
  case tuple xs =>
  by_cases hall : xs.all isI = true
  case neg => rw [if_neg hall] at e; cases e
  rw [if_pos hall] at e
  cases e
  have lay : (PyData.tuple xs).canLay0 = true := by simpa [PyData.canLay0] using isI_lay hall
  obtain ⟨as, rd⟩ := Dp.reads I (.tuple xs) z v (by rw [hK]; exact ry.dp SR.ok.sub lay) rz
  obtain ⟨wa, ws, wits, rfl, rws, rrw, hwz, sw⟩ := seqO_of I SR.ok (.inl ry) rz rfl
  have has : as = [] := by
    cases rd with
    | tuple _ _ _ ra => exact reads_ints hall ra
  subst has
  refine lam_run (k := k) (by omega) hf hcd I.nolimit (hb _ _ _ _) S.loc S.co S.gen S.kind S.nocell fun h₁ E' hns hk => ?_
  have I1 : Inv X pins σ H { s with heap := h₁, toks := s.toks + 1 } := I.kept hk
  obtain ⟨mb, b1, b2⟩ := I1.mod.blt
  refine lam_body2 (mg := X.mg) (mb := mb) (m := fun y => [(k, (Value.ref wa))].reverse.lookup y) (wa := wa) (wits := wits) ⟨S.kind, I1.mod.glob.keeps I1.bk, b1.keeps I1.bk, hm, (b2 "len" (by decide)).trans rfl⟩ S.len S.loc hns (by simp) S.d3 (sw.keeps hk) hwz fun t' tk => ?_
  refine ⟨_, tk, rfl, fun b o q => Heap.get?_push_of_some _ (hk b o q), ?_⟩
  have el : xs.length = wits.length := by rw [← rrw.length, rws.length]
  rw [el]
  have kp2 : ∀ b o, s.heap.get? b = some o → (h₁.push { cls := .type "tuple", data := .seq #[.int wits.length t', .ref wa] 0 }).get? b = some o := fun b o q => Heap.get?_push_of_some _ (hk b o q)
  exact .tuple (n := 0) (as := [] ++ ([] ++ [])) (Heap.get?_push_size _ rfl) rfl rfl (.cons (.int _ _) (.cons (PyProof.Rows.Reads.keeps kp2 rd) .nil))
theorem bindRow {name qual : Str} {ap : Pos} {body : Expr} {scope : Scope} {cl : List (Str × Addr)} {pm ctv v : Value} {c' : Addr} :
    bindArgs (PySem.W.kla_fn name qual ⟨[], [⟨"row", none, ap⟩], none, [], [], none, []⟩ body scope cl pm (.ref c') ctv) ⟨[v], []⟩ = pure [(("row" : Str), v)] := rfl
/-! #### index -/
def idxL (ds : List D) (d : D) : M D := match ds.findIdx? (fun z => PyData.eqv z d) with
  | some j => if SeqAt.shaped (.list ds) = true ∧ SeqAt.shaped d = true then ret (.int j) else bad
  | none => bad
def eIdx (fo fe : DE) : DE := fun ρ => bnd (fo ρ) fun x => match x with
  | .list ds => bnd (fe ρ) fun d => idxL ds d
  | _ => bad
theorem pe_idxD {o e : Expr} {fo fe : DE} {apos cpos : Pos} (hK : X.K = R.K) (hu : X.A.units + 100 < cLine) (ho : PE X o (wB R E fo)) (he : PE X e (wB R E fe))
    (hbase : attributeBase o "index" X.env (eval o X.env) = eval o X.env)
    (hfew : ((backTo cpos (starEach [e] X.env)).all (fun x => !x.1) && (backToKw cpos (keywordEach [] X.env)).all (fun x => x.1.isSome)
      && decide ([e].length + ([] : List Keyword).length + (if ([] : List Keyword).isEmpty then 0 else 1) < 30)) = true)
    (hline : (apos.endLine == cpos.line) = true) (hs : starEach [e] X.env = (false, eval e X.env) :: starEach [] X.env) : PE X (.Call (.Attribute o "index" apos) [e] [] cpos) (wE R E (eIdx fo fe)) := by
  refine PE_imp (pe_bm PySem.F.plainAttrs_list PySem.F.slot_list_index PySem.F.type_list_index (mt_indexD (X := X) (by omega)) ho (pa_cons he pa_nil hs) hbase hfew hline hs rfl) fun σ H Q ⟨g, t, ρ, S, w⟩ =>
    ⟨g, t, ρ, S, (W1.bnd S.ok w).mono fun g1 H1 t1 d w1 k v rv => ?_⟩
  cases d <;> try exact (k : False).elim
  rename_i ds
  obtain ⟨p, vs, rfl, hp, rr⟩ := rv.lst w1.ok
  refine ⟨.inl ⟨rfl, vs, .of hp⟩, g1, t1, ρ, S.grow w1, (W1.bnd w1.ok k).mono fun g2 H2 t2 y w2 k2 u ru => ?_⟩
  have k2 : W1 R g2 H2 (idxL ds y t2) _ E := k2
  unfold idxL at k2
  cases ef : ds.findIdx? (fun z => PyData.eqv z y) with
  | none => simp only [ef] at k2; exact (k2 : False).elim
  | some j =>
    simp only [ef] at k2
    obtain ⟨⟨h1, h2⟩, k2⟩ := W1_ite k2
    obtain ⟨hj, hje, hno⟩ := List.findIdx?_eq_some_iff_getElem.mp ef
    exact ⟨p, u, y, ds, j, ds[j], rfl, rfl, by rw [hK]; exact (rv.grow w2).dp w2.ok (SeqAt.canLay_of_shaped h1), by rw [hK]; exact ru.dp w2.ok (SeqAt.canLay_of_shaped h2), h1, h2, List.getElem?_eq_getElem hj, hje,
      fun m z' hm hz => by
        obtain ⟨hml, rfl⟩ := List.getElem?_eq_some_iff.mp hz
        have := hno m hm
        simpa using this, W1.at w2.ok k2 _ (.int _)⟩
end
end Kw
namespace Kw
open PySem PySem.Spec PyProof.Rows L2
/-! ### != of own instances, as readings -/
def objC : D → Option Str
  | .dict l => match tagD l with
    | .obj c _ => some c
    | _ => none
  | _ => none
def neW (cn : Str) (F : List D → M D) (x y : D) : M D := match objC x, objC y with
  | some c, some c' => if c = cn ∧ c' = cn then bnd (F [x, y]) (fun k => match k with
    | .bool b => ret (.bool (!b))
    | _ => bad) else bad
  | _, _ => neM x y
def isWM (cn : Str) (x : D) : M D := match objC x with
  | some c => if c = cn then ret (.bool true) else bad
  | none => bad
theorem objC_some {d : D} {c : Str} (h : objC d = some c) : ∃ fs, d = objD c fs := by
  unfold objC at h
  cases d <;> try (cases h; done)
  rename_i l
  cases et : tagD l <;> (simp only [et] at h) <;> try (cases h; done)
  rename_i c' fs
  cases h
  exact ⟨fs, by rw [tag_obj et]⟩
section
variable {X : Cx} {R : Rc} {T : Tb} {E : XK} {a b : Expr} {fa fb : DE} {F : Fe} {p p2 pos : Pos}
def rDp (R : Rc) (E : XK) (m : D → D → M D) : R2 := fun x y H Q => ∃ (g : Gh) (t : Tp) (a b : D), GOk R g t H ∧ Rp R g x a ∧ Rp R g y b ∧ W1 R g H (m a b t) (fun g' H' _ d => ∀ x, Rp R g' x d → Q x H') E
theorem cmp_neW {c : Str} (h : XCx R T X E) (hF : (("__eq__" : Str), c, F) ∈ T.mts) (hc : c ∈ T.eqs) (hn : F.n = 2) : OpR X (compareOp .NotEq) (rDp R E (neW c F.m)) := by
  intro pins s σ H x y v u Q I rx ry ⟨g, t, a, b, ok, ra, rb, k⟩
  unfold neW at k
  cases ea : objC a with
  | none => simp only [ea] at k; exact cmp_neD h.K h.hu pins s σ H x y v u Q I rx ry ⟨g, t, a, b, ok, .inl ra, .inl rb, k⟩
  | some c1 =>
    cases eb : objC b with
    | none => simp only [ea, eb] at k; exact cmp_neD h.K h.hu pins s σ H x y v u Q I rx ry ⟨g, t, a, b, ok, .inl ra, .inl rb, k⟩
    | some c2 =>
      simp only [ea, eb] at k
      obtain ⟨⟨e1, e2⟩, k0⟩ := W1_ite k
      clear k
      subst e1
      subst e2
      obtain ⟨f1, rfl⟩ := objC_some ea
      obtain ⟨f2, rfl⟩ := objC_some eb
      obtain ⟨j, hr, _, hm, _⟩ := h.tab
      obtain ⟨C, f, fd, ps, q1, q2, q3, q4, q5⟩ := (hm _ hF).ex
      obtain ⟨C', w1, w2, w3, w4⟩ := (h.eq _ hc).ex
      have q1 : R.cl c2 = some C := q1
      rw [q1] at w1
      cases w1
      obtain ⟨pa, Ca, da, la, dsa, rfl, hpa, hca, _, _⟩ := Rv.obj ok (.inl ra)
      obtain ⟨pb, Cb, db, lb, dsb, rfl, hpb, hcb, _, _⟩ := Rv.obj ok (.inl rb)
      rw [q1] at hca hcb
      cases hca
      cases hcb
      refine op_neW q5 (w4 f q3.at_) q4 h.pass hr pins s σ H _ _ v u Q I rx ry ⟨pa, pb, da, db, la, lb, rfl, rfl, hpa, hpb, ?_⟩
      refine ⟨hn.symm, g, t, _, ok, .cons ra (.cons rb .nil), (W1.bnd ok k0).mono fun g' H' t' d w' k2 z rz => ?_⟩
      cases d <;> try exact (k2 : False).elim
      rename_i bb
      cases rz
      exact ⟨bb, rfl, W1.at w'.ok k2 _ (.bl _)⟩
theorem two_impP {m : D → D → M D} {σ : L2.St} {H : Hp} {Q : VK} (h : wE R E (eBin m fa fb) σ H Q) : tOp (rDp R E m) (wE R E fa) (wE R E fb) σ H Q := by
  obtain ⟨g, t, ρ, S, w⟩ := h
  exact ⟨g, t, ρ, S, (W1.bnd S.ok w).mono fun g1 H1 t1 x w1 k v rv => ⟨g1, t1, ρ, S.grow w1, (W1.bnd w1.ok k).mono fun g2 H2 t2 y w2 k2 u ru => ⟨g2, t2, x, y, w2.ok, rv.mono w2.le, ru, k2⟩⟩⟩
theorem pe_neWD {c : Str} (h : XCx R T X E) (hF : (("__eq__" : Str), c, F) ∈ T.mts) (hc : c ∈ T.eqs) (hn : F.n = 2) (ha : PE X a (wE R E fa)) (hb : PE X b (wE R E fb)) (hm : behindInMarks .NotEq b = false) : PE X (.Compare a [.NotEq] [b] pos) (wE R E (eBin (neW c F.m) fa fb)) :=
  PE_imp (pe_cmpR (cmp_neW h hF hc hn) ha hb hm) fun σ H Q w => two_impP w
theorem pt_neWD {c : Str} (h : XCx R T X E) (hF : (("__eq__" : Str), c, F) ∈ T.mts) (hc : c ∈ T.eqs) (hn : F.n = 2) (ha : PE X a (wE R E fa)) (hb : PE X b (wE R E fb)) (hm : behindInMarks .NotEq b = false) : PT X (.Compare a [.NotEq] [b] pos) (wT R E (tBool (eBin (neW c F.m) fa fb))) :=
  PT_imp (pt_cmpR (cmp_neW h hF hc hn) ha hb hm) fun σ H Q ⟨g, t, ρ, S, w⟩ => two_impP ⟨g, t, ρ, S, (W1.bnd S.ok w).mono fun g' H' t' d w' k x r => by
    obtain ⟨b, rfl, q⟩ := truB_at w'.ok k
    cases r
    exact ⟨b, rfl, q⟩⟩
def rIsW (R : Rc) (E : XK) (C : Addr) (c : Str) : List V → Hp → VK → Prop := fun xs H Q => ∃ (g : Gh) (t : Tp) (x : V) (d : D), GOk R g t H ∧ xs = [x, .ref C] ∧ Rv R g H x d ∧ W1 R g H (isWM c d t) (fun g' H' _ d => ∀ z, Rp R g' z d → Q z H') E
theorem cr_isW {C : Addr} {c : Str} (ic : C8.InsC X.K C) (hc : R.cl c = some C) : CallR X (.builtin "isinstance") (rIsW R E C c) := by
  intro pins s σ H xs us Q I r ⟨g, t, x, d, ok, exs, hx, k⟩
  subst exs
  unfold isWM at k
  cases ea : objC d with
  | none => simp only [ea] at k; exact (k : False).elim
  | some c1 =>
    simp only [ea] at k
    obtain ⟨e1, k2⟩ := W1_ite k
    clear k
    subst e1
    obtain ⟨f1, rfl⟩ := objC_some ea
    obtain ⟨pa, Ca, da, la, dsa, rfl, hpa, hca, _, _⟩ := Rv.obj ok hx
    rw [hc] at hca
    cases hca
    exact C8.call_isC ic pins s σ H _ us Q I r ⟨pa, da, la, rfl, hpa, W1.at ok k2 _ (.bl true)⟩
end
/-! ### reversed(x) walked -/
def revSeqM : D → M (List D)
  | .list xs => if okLen xs.length = true then ret xs.reverse else bad
  | .tuple xs => if okLen xs.length = true then ret xs.reverse else bad
  | _ => bad
def iRevS (a : DE) : DA := fun ρ => bnd (a ρ) revSeqM
section
variable {X : Cx} {R : Rc} {E : XK} {tg e : Expr} {fa : DE} {p pos : Pos}
theorem RpAll.rget {g : Gh} {vs : List V} {ds : List D} {i : Nat} {d : D} (r : RpAll R g vs ds) (h : ds.reverse[i]? = some d) : i < vs.length ∧ ∃ v, vs[vs.length - 1 - i]? = some v ∧ Rp R g v d := by
  obtain ⟨v, hv, rv⟩ := r.reverse.get h
  have hi : i < vs.length := by
    have := (List.getElem?_eq_some_iff.mp hv).1
    simpa using this
  rw [List.getElem?_reverse hi] at hv
  exact ⟨hi, v, hv, rv⟩
theorem isIt_rl {K : PySem.W.Frag} {q : Addr} {vs : List V} {ds : List D} {S : Gh → Tp → Hp → Prop} (hs : ∀ g1 t1 H1, S g1 t1 H1 → GOk R g1 t1 H1 ∧ H1 q = some (.lst vs) ∧ RpAll R g1 vs ds) (hl : ds.length ≤ sizeLine) (hd : vs.length = ds.length) : IsIt R S (Itv K q vs.length) ds.reverse := by
  refine ⟨fun g1 t1 H1 s i d hi => ?_, fun g1 t1 H1 s i d x H2 hi hy => ?_, fun g1 t1 H1 s => ?_, by simpa using hl⟩
  · obtain ⟨ok, hp, r⟩ := hs _ _ _ s
    obtain ⟨h1, v, hv, _⟩ := r.rget hi
    exact ⟨h1, vs, v, .of hp, hv⟩
  · obtain ⟨ok, hp, r⟩ := hs _ _ _ s
    obtain ⟨h1, v, hv, rv⟩ := r.rget hi
    obtain ⟨rfl, f⟩ := hy
    have := f vs (.of hp)
    rw [hv] at this; cases this
    exact ⟨g1, Grow.refl ok, rv⟩
  · show vs.length ≤ _
    simp [hd]
theorem isIt_rt {K : PySem.W.Frag} {q : Addr} {vs : List V} {ds : List D} {S : Gh → Tp → Hp → Prop} (hs : ∀ g1 t1 H1, S g1 t1 H1 → GOk R g1 t1 H1 ∧ H1 q = some (.tup vs) ∧ RpAll R g1 vs ds) (hl : ds.length ≤ sizeLine) (hd : vs.length = ds.length) : IsIt R S (RT.ItvT K q vs.length) ds.reverse := by
  refine ⟨fun g1 t1 H1 s i d hi => ?_, fun g1 t1 H1 s i d x H2 hi hy => ?_, fun g1 t1 H1 s => ?_, by simpa using hl⟩
  · obtain ⟨ok, hp, r⟩ := hs _ _ _ s
    obtain ⟨h1, v, hv, _⟩ := r.rget hi
    exact ⟨h1, vs, v, .of hp, hv⟩
  · obtain ⟨ok, hp, r⟩ := hs _ _ _ s
    obtain ⟨h1, v, hv, rv⟩ := r.rget hi
    obtain ⟨rfl, f⟩ := hy
    have := f vs (.of hp)
    rw [hv] at this; cases this
    exact ⟨g1, Grow.refl ok, rv⟩
  · show vs.length ≤ _
    simp [hd]
theorem pi_revD (hg : Gl X "reversed") (hm : X.mg "reversed" = none) (he : PE X e (wE R E fa)) (hs : starEach [e] X.env = (false, eval e X.env) :: starEach [] X.env) : PI X tg (.Call (.Name "reversed" p) [e] [] pos) (wI R E (iRevS fa)) :=
  PI_imp (RT.pi_revA hg hm he hs) fun σ H Rj ⟨g, t, ρ, S, w⟩ => ⟨g, t, ρ, S, (W1.bnd S.ok w).mono fun g' H' t' d w' k x r => by
    cases d <;> try exact (k : False).elim
    case list ds =>
      obtain ⟨hz, k0⟩ := W1_ite k
      cases r with
      | lst hp rr =>
        exact ⟨_, _, rfl, .inl ⟨.of (w'.ok.sub _ _ hp), W1.at w'.ok k0 _ (isIt_rl (fun g1 t1 H1 s => ⟨s.2, s.2.sub _ _ (s.1.sub _ _ hp), rr.mono s.1⟩) (okLen_le hz) rr.length)⟩⟩
    case tuple ds =>
      obtain ⟨hz, k0⟩ := W1_ite k
      cases r with
      | tup hp rr =>
        exact ⟨_, _, rfl, .inr ⟨.of (w'.ok.sub _ _ hp), W1.at w'.ok k0 _ (isIt_rt (fun g1 t1 H1 s => ⟨s.2, s.2.sub _ _ (s.1.sub _ _ hp), rr.mono s.1⟩) (okLen_le hz) rr.length)⟩⟩⟩
end
/-! ### [x] * n, a new list -/
def repLM : D → D → M (List D)
  | .list xs, .int k => if -1000000 ≤ k ∧ k ≤ 1000000 ∧ okLen (xs.length * k.toNat) = true then ret (List.replicate k.toNat xs).flatten else bad
  | _, _ => bad
def aRep (a b : DE) : DA := fun ρ => bnd (a ρ) fun x => bnd (b ρ) fun y => repLM x y
def rL (R : Rc) (E : XK) (m : D → D → M (List D)) : R2 := fun x y H Q => ∃ (g : Gh) (t : Tp) (a b : D), GOk R g t H ∧ Rv R g H x a ∧ Rv R g H y b ∧ W1 R g H (m a b t) (fun g' H' _ ds => ∀ p vs, H' p = none → RpAll R g' vs ds → Q (.ref p) (upd H' p (.lst vs))) E
section
variable {X : Cx} {R : Rc} {E : XK} {a b : Expr} {fa fb : DE} {pos : Pos}
theorem op_repL : OpR X (binaryOp .Mult) (rL R E repLM) := by
  intro pins s σ H x y v u Q I rx ry ⟨g, t, a, b, ok, ha, hb, h⟩
  cases a <;> try exact (h : False).elim
  case list xs =>
  cases b <;> try exact (h : False).elim
  case int k =>
  obtain ⟨p, vs, rfl, hp, r1⟩ := ha.lst ok
  have e2 := hb.int
  subst e2
  obtain ⟨hz, h⟩ := W1_ite h
  have rep : ∀ n : Nat, RpAll R g (List.replicate n vs).flatten (List.replicate n xs).flatten := fun n => by
    induction n with
    | zero => exact .nil
    | succ n ih =>
      simp only [List.replicate_succ, List.flatten_cons]
      exact r1.append ih
  exact op_rep pins s σ H _ _ v u Q I rx ry ⟨p, k, vs, rfl, rfl, hp, by omega, by omega, by rw [r1.length]; exact okLen_le hz.2.2, fun a hn => W1.at ok h a _ hn (rep _)⟩
theorem pe_repD (ha : PE X a (wB R E fa)) (hb : PE X b (wB R E fb)) : PE X (.BinOp a .Mult b pos) (wL R E (aRep fa fb)) :=
  PE_imp (pe_op op_repL ha hb) fun σ H Q ⟨g, t, ρ, S, w⟩ => ⟨g, t, ρ, S, (W1.bnd S.ok w).mono fun g1 H1 t1 x w1 k v rv => ⟨g1, t1, ρ, S.grow w1, (W1.bnd w1.ok k).mono fun g2 H2 t2 y w2 k2 u ru => ⟨g2, t2, x, y, w2.ok, rv.grow w2, ru, k2⟩⟩⟩
end
end Kw
namespace Kw
open PySem PySem.Spec PyProof.Rows L2

/-! ### what the translator gives: as readings, or as text -/
structure Alg where
  E : Type
  T : Type
  A : Type
  K : Type
  O : Type
  Sl : Type
  SA : Type
  S : Type
  F : Type
  var : Nat → E
  bor : Nat → E
  cst : D → E
  bin : Operator → E → E → E
  cmp : CmpOp → E → E → E
  chain : CmpOp → CmpOp → E → E → E → E
  neg : E → E
  enot : E → E
  eand : E → E → E
  eor : E → E → E
  ite : T → E → E → E
  tup : A → E
  fl : A → E
  fd : K → E
  call : F → A → E
  meth : Str → Str → F → E → A → E
  btv : String → A → E
  btl : String → A → A
  fld : Str → E → E
  ix : E → E → E
  sl : E → O → O → E
  onone : O
  osome : E → O
  isi : String → E → E
  rev : E → E
  sortset : E → A
  rep : E → E → A
  lenset : E → E
  dict : E → K
  sortlen : Nat → E → A
  minlen : Nat → E → E
  sortrow : E → A
  idx : E → E → E
  new : Str → F → E → E → E
  isw : Str → E → E
  comp : List Nat → Tg → T → E → A → A
  comp2 : List Nat → Tg → T → A → List Nat → Tg → T → A → E → A
  dc : List Nat → Tg → T → E → E → A → K
  rng1 : E → A
  rng2 : E → E → A
  seq : E → A
  rvs : E → A
  anil : A
  acons : E → A → A
  dnil : K
  ttru : E → T
  tboo : E → T
  tand : T → T → T
  tor : T → T → T
  tnot : T → T
  tyes : T
  slv : E → Sl
  sll : A → Sl
  sld : K → Sl
  sln : A → Sl
  sanil : SA
  sacons : Sl → SA → SA
  tape : A → E
  skip : S
  brk : S
  cnt : S
  retn : S
  ret : E → S
  expr : E → S
  set : Nat → Sl → S
  par : List Nat → SA → S
  unp : Tg → E → S
  put : Nat → E → E → S
  fldp : Nat → Str → E → S
  app : Nat → E → S
  nap : Nat → E → E → S
  ext : Nat → A → S
  upd : Nat → K → S
  pop : Nat → Nat → S
  aug : Nat → Operator → E → S
  sif : T → S → S → S
  swh : List Nat → T → S → S
  sfor : Tg → A → S → S
  seqs : S → S → S
  fz : List Nat → S → S
  sbad : S
  raise : Str → E → S
  tryp : Str → S → S

/-! #### statements that the readings still lack -/
def sBad : DS := fun _ => bad
/-- raise x(e) -/
def sRaise (x : Str) (e : DE) : DS := fun ρ => bnd (e ρ) fun d t => .exc x d t
/-- try: .. except x as n: return n.place -/
def sTry (x : Str) (f : DS) : DS := fun ρ t => match f ρ t with
  | .exc c d t' => if c = x then .ok (.rt d) t' else .bad
  | r => r
def whFuel : Nat := 1000000
def putFD (f : Str) (d : D) : List (D × D) → List (D × D)
  | [] => [(.str f, d)]
  | (k, x) :: r => if PyData.eqv k (.str f) = true then (k, d) :: r else (k, x) :: putFD f d r
/-- self.f = e -/
def sFldP (i : Nat) (f : Str) (e : DE) : DS := fun ρ => match ρ[i]? with
  | some (.own (.dict l)) => match tagD l with
    | .obj c fs => if fs.length < 1000 then bnd (e ρ) fun v => ret (.nx (ρ.set i (.own (objD c (putFD f v fs))))) else bad
    | _ => bad
  | _ => bad
/-- rows[e].append(v) -/
def sNap (i : Nat) (ei ev : DE) : DS := fun ρ => match ρ[i]? with
  | some (.nest dss) => bnd (ei ρ) fun k => match k with
    | .int z => match ixN dss.length z with
      | some j => match dss[j]? with
        | some ds => bnd (ev ρ) fun v => if ds.length < 16777216 then ret (.nx (ρ.set i (.nest (dss.set j (ds ++ [v]))))) else bad
        | none => bad
      | none => bad
    | _ => bad
  | _ => bad
/-- i = [[] for .. in items] -/
def slN (a : DA) : DSl := fun ρ => bnd (a ρ) fun xs => ret (.nest (List.replicate xs.length []))
def btV : List (String × (List D → M D)) := [("len", lenM), ("int", intM), ("abs", absM), ("sum", sumM), ("tuple", tupleM), ("any", anyM), ("all", allM), ("max", maxM), ("min", minM)]
def btL : List (String × (List D → M (List D))) := [("list", listM), ("sorted", sortedM)]
def semAlg : Alg where
  E := DE
  T := DT
  A := DA
  K := DK
  O := Kw.Env → M (Option Int)
  Sl := DSl
  SA := Kw.Env → M (List Slot)
  S := DS
  F := List D → M D
  var := eVar
  bor := eBor
  cst := eC
  bin := fun op => eBin (binM op)
  cmp := fun op => eBin (cmpM op)
  chain := fun op op' => eChain (cmpM op) (cmpM op')
  neg := eUn negM
  enot := eNot
  eand := eAnd
  eor := eOr
  ite := eIf
  tup := eTup
  fl := eFl
  fd := eFd
  call := fun f => eCall f
  meth := fun m c f => eMeth m c f
  btv := fun x => eCall ((btV.lookup x).getD fun _ => bad)
  btl := fun x => aCall ((btL.lookup x).getD fun _ => bad)
  fld := fun f => eUn (fldM f)
  ix := eBin ixM
  sl := eSlice
  onone := oNone
  osome := oSome
  isi := fun x => eUn (isiM x)
  rev := eUn revM
  sortset := aOf sortSetM
  rep := aRep
  lenset := eUn lenSetM
  dict := kOf dictM
  sortlen := fun j => eSortK (lenKey j)
  minlen := fun j => eMinK (lenKey j)
  sortrow := eSortK rowKey
  idx := eIdx
  new := fun c f => eBin (neW c f)
  isw := fun c => eUn (isWM c)
  comp := eComp
  comp2 := eComp2
  dc := eDc
  rng1 := eRange1
  rng2 := eRange2
  seq := iSeq
  rvs := iRevS
  anil := aNil
  acons := aCons
  dnil := dNil
  ttru := tTru
  tboo := tBool
  tand := tAndM
  tor := tOrM
  tnot := tNotM
  tyes := tYesM
  slv := slV
  sll := slL
  sld := slD
  sln := slN
  sanil := aSnil
  sacons := aScons
  tape := eTape
  skip := sSkip
  brk := sBrk
  cnt := sCnt
  retn := sRetN
  ret := sRet
  expr := sExpr
  set := sSet
  par := sPar
  unp := sUnp
  put := sPut
  fldp := sFldP
  app := sApp
  nap := sNap
  ext := sExt
  upd := sUpd
  pop := sPop
  aug := sAug
  sif := sIf
  swh := fun is c b => sWhile is c b whFuel
  sfor := sFor
  seqs := sSeq
  fz := sFz
  sbad := sBad
  raise := sRaise
  tryp := sTry

/-! ### the translator -/
structure Tc where
  N : List Str
  sc : Scope
  fn : Str → Bool
  /-- the slots that may be a frame's own -/
  mu : List Nat
  /-- the slots that hold lists of lists -/
  ne : List Nat
  /-- the slots whose list becomes the tape -/
  tp : List Nat
  /-- a list that is returned becomes the tape -/
  rt : Bool
  /-- the slots that no statement sets -/
  lock : List Nat
inductive Rs (G : Alg) where
  | val (f : G.E)
  | lst (f : G.A)
  | dct (f : G.K)
def Rs.e {G : Alg} : Rs G → G.E
  | .val f => f
  | .lst f => G.fl f
  | .dct f => G.fd f
def o2 {α β γ : Type} (f : α → β → γ) : Option α → Option β → Option γ
  | some a, some b => some (f a b)
  | _, _ => none
def gd {α : Type} (b : Bool) (x : Option α) : Option α := match b with
  | true => x
  | false => none
def ixOf (N : List Str) (x : Str) : Option Nat := N.findIdx? fun y => decide (y = x)
def nst : Expr → Bool
  | .Starred _ _ => false
  | _ => true
def visB (sc : Scope) (x : Str) : Bool := match sc.names.lookup x with
  | some .local => true
  | some .cell => true
  | some .free => true
  | _ => false
def locB (c : Tc) (x : Str) : Bool := match c.sc.names.lookup x with
  | some .local => true
  | some .cell => c.fn x
  | _ => false
def glB (sc : Scope) (x : Str) : Bool := match sc.names.lookup x with
  | some .globalImplicit => true
  | _ => false
def nmB (x : Str) : Bool := !(x == ("__debug__" : Str)) && !(x == ("__classdict__" : Str)) && !(x == ("__name__" : Str))
def trN (c : Tc) (x : Str) : Option Nat := gd (visB c.sc x && nmB x) (ixOf c.N x)
def mapO {G : Alg} (f : Expr → Option G.E) : List Expr → Option G.A
  | [] => some G.anil
  | e :: es => gd (nst e) (o2 G.acons (f e) (mapO f es))
def ownOf (N : List Str) (scope : Scope) : List (Str × Nat) := scope.names.filterMap fun p => match p.2 with
  | .local => (ixOf N p.1).map fun i => (p.1, i)
  | .cell => (ixOf N p.1).map fun i => (p.1, i)
  | _ => none
def tgNames (c : Tc) : List Expr → Option (List Nat)
  | [] => some []
  | .Name x _ :: es => gd (locB c x) (o2 List.cons (ixOf c.N x) (tgNames c es))
  | _ => none
def trTg (c : Tc) : Expr → Option Tg
  | .Name x _ => gd (locB c x) ((ixOf c.N x).map Tg.nm)
  | .Tuple es _ _ => (tgNames c es).map Tg.tup
  | _ => none
def notSet : Expr → Bool
  | .Set _ _ _ => false
  | _ => true
def notComp : Expr → Bool
  | .ListComp _ _ _ _ => false
  | .SetComp _ _ _ _ => false
  | .DictComp _ _ _ _ _ => false
  | _ => true
def baseB : Expr → Bool
  | .Call _ [] _ _ => false
  | _ => true
def plainB : Expr → Bool
  | .UnaryOp .Not _ _ => false
  | .BoolOp _ _ _ => false
  | .IfExp _ _ _ _ => false
  | .Compare _ _ _ _ => false
  | _ => true
def notSlice : Expr → Bool
  | .Slice _ _ _ _ => false
  | _ => true
def inIx (is vs : List Nat) : Bool := is.all fun i => vs.contains i
section
variable {G : Alg} (T : Tb' G.F) (rec : Tc → Expr → Option (Rs G))
def rE (c : Tc) (e : Expr) : Option G.E := (rec c e).map Rs.e
def rB (c : Tc) (e : Expr) : Option G.E := match e with
  | .Name x _ => (trN c x).map G.bor
  | e => rE rec c e
def rTs (op : BoolOp) (t : Expr → Option G.T) : List Expr → Option G.T
  | [] => none
  | [a] => t a
  | a :: b :: r => o2 (match op with | .And => G.tand | .Or => G.tor) (t a) (rTs op t (b :: r))
def rVs (op : BoolOp) (t : Expr → Option G.E) : List Expr → Option G.E
  | [] => none
  | [a] => t a
  | a :: b :: r => o2 (match op with | .And => G.eand | .Or => G.eor) (t a) (rVs op t (b :: r))
/-- may be an instance of a class with an own == -/
def webS (x : Str) : Bool := decide (x.cps.toList.reverse.take 3 = [98, 101, 119]) || decide (x.cps.toList.reverse.take 3 = [98, 101, 87])
def webE : Expr → Bool
  | .Name x _ => webS x
  | .Call (.Name x _) _ _ _ => webS x
  | _ => false
def trNeW (c : Tc) (a b : Expr) : Option G.E := match T.mts.lookup ("__eq__" : Str) with
  | some (cn, F) => gd (T.eqs.contains cn && (F.n == 2) && (webE a || webE b) && !behindInMarks .NotEq b) (o2 (G.new cn F.m) (rE rec c a) (rE rec c b))
  | none => none
def rCmp0 (c : Tc) (e : Expr) : Option G.E := match e with
  | .Compare a [op] [b] _ => gd (!behindInMarks op b) (o2 (G.cmp op) (rB rec c a) (rB rec c b))
  | .Compare a [op, op'] [b, d] _ => gd (!behindInMarks op' d) (o2 (fun (x : G.E) (yz : G.E × G.E) => G.chain op op' x yz.1 yz.2) (rB rec c a) (o2 Prod.mk (rB rec c b) (rB rec c d)))
  | _ => none
def rCmp (c : Tc) (e : Expr) : Option G.E := match e with
  | .Compare a [.NotEq] [b] p => (match trNeW T rec c a b with
    | some r => some r
    | none => rCmp0 rec c (.Compare a [.NotEq] [b] p))
  | e => rCmp0 rec c e
def rT (c : Tc) : Nat → Expr → Option G.T
  | 0, _ => none
  | n + 1, e => match e with
    | .UnaryOp .Not a _ => (rT c n a).map G.tnot
    | .BoolOp op vs _ => rTs op (rT c n) vs
    | .Compare a ops bs p => (rCmp T rec c (.Compare a ops bs p)).map G.tboo
    | .IfExp _ _ _ _ => none
    | e => (rB rec c e).map G.ttru
def rOpt (c : Tc) : Option Expr → Option G.O
  | none => some G.onone
  | some e => (rB rec c e).map G.osome
/-- what is walked; b: it may be a frame's own -/
def rI (c : Tc) (b : Bool) (e : Expr) : Option G.A := match e with
  | .Call (.Name x p) [a] [] pos => if x = "range" then gd (glB c.sc x && nst a) ((rB rec c a).map G.rng1) else if x = "reversed" then gd (glB c.sc x && nst a) ((rE rec c a).map G.rvs) else (rE rec c e).map G.seq
  | .Call (.Name x p) [a, d] [] pos => if x = "range" then gd (glB c.sc x && nst a && nst d) (o2 G.rng2 (rB rec c a) (rB rec c d)) else (rE rec c e).map G.seq
  | e => match b with
    | true => (rB rec c e).map G.seq
    | false => (rE rec c e).map G.seq
def blkTc (c : Tc) (scope : Scope) : Tc := ⟨c.N, relS scope c.sc, fun x => match scope.names.lookup x with | some .cell => true | _ => false, [], [], [], false, []⟩
def rIfs (c : Tc) (n : Nat) : List Expr → Option G.T
  | [] => some G.tyes
  | [t] => rT T rec c n t
  | _ => none
def rComp (n : Nat) (c : Tc) (elt : Expr) (gs : List Comprehension) (scope : Scope) : Option G.A :=
  let own := ownOf c.N scope
  let vs := own.map (·.2)
  let c' := blkTc c scope
  match gs with
  | [⟨tg, it, ifs, 0⟩] => gd (blkC c.N c.sc scope own && notSet it) (match trTg c' tg, rIfs T rec c' n ifs, rI rec c true it, rE rec c' elt with
    | some g, some t, some i, some e => gd (inIx g.idx vs) (some (G.comp vs g t e i))
    | _, _, _, _ => none)
  | [⟨tg, it, ifs, 0⟩, ⟨tg1, it1, ifs1, 0⟩] => gd (blkC c.N c.sc scope own && notSet it && notSet it1) (match trTg c' tg, rIfs T rec c' n ifs, rI rec c true it, trTg c' tg1, rIfs T rec c' n ifs1, rI rec c' false it1, rE rec c' elt with
    | some g, some t, some i, some g1, some t1, some i1, some e => gd (inIx g.idx vs && inIx g1.idx vs) (some (G.comp2 vs g t i g1.idx g1 t1 i1 e))
    | _, _, _, _, _, _, _ => none)
  | _ => none
def rDc (n : Nat) (c : Tc) (kx vx : Expr) (gs : List Comprehension) (scope : Scope) : Option G.K :=
  let own := ownOf c.N scope
  let vs := own.map (·.2)
  let c' := blkTc c scope
  match gs with
  | [⟨tg, it, ifs, 0⟩] => gd (blkC c.N c.sc scope own && notSet it) (match trTg c' tg, rIfs T rec c' n ifs, rI rec c true it, rE rec c' kx, rE rec c' vx with
    | some g, some t, some i, some k, some e => gd (inIx g.idx vs) (some (G.dc vs g t k e i))
    | _, _, _, _, _ => none)
  | _ => none
def rCst : Const → Option D
  | .int i => some (.int i)
  | .bool b => some (.bool b)
  | .none => some .none
  | .str s => some (.str s)
  | _ => none
def tyNames : List String := ["int", "bool", "str", "tuple", "list", "dict"]
def findS (l : List String) (x : Str) : Option String := l.find? fun y => decide ((y : Str) = x)
def btVn : List String := ["len", "int", "abs", "sum", "tuple", "any", "all", "max", "min"]
def btLn : List String := ["list", "sorted"]
def rCall (c : Tc) (x : Str) (as : List Expr) : Option (Rs G) := gd (glB c.sc x && nmB x) (match T.fns.lookup x with
  | some F => gd (as.length == F.n) ((mapO (rE rec c) as).map fun a => .val (G.call F.m a))
  | none => match T.mks.lookup x with
    | some F => gd (as.length == F.n && !as.isEmpty) ((mapO (rE rec c) as).map fun a => .val (G.call F.m a))
    | none => gd (!as.isEmpty) (match findS btVn x with
      | some y => (mapO (rB rec c) as).map fun a => .val (G.btv y a)
      | none => match findS btLn x with
        | some y => (mapO (rB rec c) as).map fun a => .lst (G.btl y a)
        | none => if x = "isinstance" then (match as with
          | [a, .Name ty _] => gd (nst a && glB c.sc ty) (match T.eqs.contains ty with
            | true => gd (nmB ty) ((rB rec c a).map fun f => .val (G.isw ty f))
            | false => o2 (fun y f => .val (G.isi y f)) (findS tyNames ty) (rB rec c a))
          | _ => none) else none))
def rCall2 (c : Tc) (x : Str) (as : List Expr) : Option (Rs G) := match as with
  | [.Call (.Name y _) [a] [] _] => gd (glB c.sc x && glB c.sc y && nst a) (
    if x = "tuple" then (if y = "range" then (rB rec c a).map fun f => .val (G.tup (G.rng1 f)) else none)
    else if x = "list" then (if y = "range" then (rB rec c a).map fun f => .lst (G.rng1 f) else none)
    else if x = "sorted" then (if y = "set" then (rB rec c a).map fun f => .lst (G.sortset f) else none)
    else if x = "len" then (if y = "set" then (rB rec c a).map fun f => .val (G.lenset f) else none)
    else none)
  | [a] => gd (glB c.sc x && nst a) (if x = "dict" then (rB rec c a).map fun f => .dct (G.dict f) else none)
  | _ => none
/-- the scope of lambda k: (len(fam[k]), k) -/
def keyScB (sc scope : Scope) (k fam : Str) : Bool :=
  decide (scope.kind = .function) && !scope.isCoroutine && !scope.isGenerator && scope.names.all (fun x => !decide (x.2 = .cell) && (!decide (x.2 = .free) || decide (sc.names.lookup x.1 = some .cell) || decide (sc.names.lookup x.1 = some .free))) && decide (scope.names.lookup k = some .local) && decide (scope.names.lookup ("len" : Str) = some .globalImplicit) && decide (scope.names.lookup fam = some .free) && decide (sc.names.lookup fam = some .cell) && nmB fam && nmB k
/-- sorted or min of a, key=lambda k: (len(fam[k]), k) -/
def rLenKey (c : Tc) (x : Str) (a : Expr) (kws : List Keyword) : Option (Rs G) := match kws with
  | [⟨some kn, .Lambda ⟨[], [⟨k0, none, _⟩], none, [], [], none, []⟩ (.Tuple [.Call (.Name ln _) [.Subscript (.Name fam _) (.Name k _) _] [] _, .Name k2 _] _ _) scope _, _⟩] =>
    gd (T.lam && glB c.sc x && nst a && decide (kn = "key") && decide (ln = "len") && decide (k0 = "k") && decide (k = "k") && decide (k2 = "k") && keyScB c.sc scope "k" fam) (match ixOf c.N fam, rE rec c a with
      | some j, some f => if x = "sorted" then some (.lst (G.sortlen j f)) else if x = "min" then some (.val (G.minlen j f)) else none
      | _, _ => none)
  | _ => none
/-- the scope of lambda row: (len(row), row) -/
def rowScB (scope : Scope) (k : Str) : Bool :=
  decide (scope.kind = .function) && !scope.isCoroutine && !scope.isGenerator && scope.names.all (fun x => !decide (x.2 = .cell) && !decide (x.2 = .free)) && decide (scope.names.lookup k = some .local) && decide (scope.names.lookup ("len" : Str) = some .globalImplicit) && nmB k
/-- sorted of a, key=lambda row: (len(row), row) -/
def rRowKey (c : Tc) (x : Str) (a : Expr) (kws : List Keyword) : Option (Rs G) := match kws with
  | [⟨some kn, .Lambda ⟨[], [⟨k0, none, _⟩], none, [], [], none, []⟩ (.Tuple [.Call (.Name ln _) [.Name k _] [] _, .Name k2 _] _ _) scope _, _⟩] =>
    gd (T.lam && glB c.sc x && nst a && decide (kn = "key") && decide (ln = "len") && decide (k0 = "row") && decide (k = "row") && decide (k2 = "row") && rowScB scope "row" && decide (x = "sorted")) ((rE rec c a).map fun f => .lst (G.sortrow f))
  | _ => none
def orE {α : Type} (a b : Option α) : Option α := match a with
  | some x => some x
  | none => b
def rMeth (c : Tc) (o : Expr) (m : Str) (as : List Expr) : Option (Rs G) := match T.mts.lookup m with
  | some (cn, F) => gd (as.length + 1 == F.n) (o2 (fun x a => .val (G.meth m cn F.m x a)) (rE rec c o) (mapO (rE rec c) as))
  | none => match as with
    | [a] => gd (decide (m = "index") && nst a) (o2 (fun x y => .val (G.idx x y)) (rB rec c o) (rB rec c a))
    | _ => none
/-- [x] * n -/
def repB (a : Expr) (op : Operator) : Bool := match a, op with
  | .List [_] _, .Mult => true
  | _, _ => false
/-- one step -/
def rStep (n : Nat) (c : Tc) (e : Expr) : Option (Rs G) := match e with
  | .Name x _ => (trN c x).map fun i => .val (G.var i)
  | .Constant k _ _ => (rCst k).map fun d => .val (G.cst d)
  | .BinOp a op b _ => match repB a op with
    | true => (o2 G.rep (rB rec c a) (rB rec c b)).map .lst
    | false => (o2 (G.bin op) (rB rec c a) (rB rec c b)).map .val
  | .UnaryOp .USub a _ => (rB rec c a).map fun x => .val (G.neg x)
  | .UnaryOp .Not a _ => (rB rec c a).map fun x => .val (G.enot x)
  | .BoolOp op vs _ => (rVs op (rE rec c) vs).map .val
  | .Compare a ops bs p => (rCmp T rec c (.Compare a ops bs p)).map .val
  | .IfExp t a b _ => match rT T rec c n t, rE rec c a, rE rec c b with
    | some t, some a, some b => some (.val (G.ite t a b))
    | _, _, _ => none
  | .Tuple es _ _ => gd (decide (es.length ≤ 1000)) ((mapO (rE rec c) es).map fun a => .val (G.tup a))
  | .List es _ => gd (decide (es.length ≤ 1000)) ((mapO (rE rec c) es).map .lst)
  | .Dict [] [] _ => some (.dct G.dnil)
  | .ListComp elt gs scope _ => (rComp T rec n c elt gs scope).map .lst
  | .DictComp kx vx gs scope _ => (rDc T rec n c kx vx gs scope).map .dct
  | .Subscript a (.Slice none none (some (.UnaryOp .USub (.Constant (.int 1) _ _) _)) _) _ => (rB rec c a).map fun x => .val (G.rev x)
  | .Subscript a (.Slice lo hi none _) _ => match rB rec c a, rOpt rec c lo, rOpt rec c hi with
    | some a, some l, some h => some (.val (G.sl a l h))
    | _, _, _ => none
  | .Subscript a b _ => gd (notSlice b) ((o2 G.ix (rB rec c a) (rB rec c b)).map .val)
  | .Attribute a f _ => gd (baseB a && T.fld.contains f) ((rB rec c a).map fun x => .val (G.fld f x))
  | .Call (.Name x _) as [] _ => orE (rCall2 rec c x as) (rCall T rec c x as)
  | .Call (.Name x _) [a] kws _ => orE (rLenKey T rec c x a kws) (rRowKey T rec c x a kws)
  | .Call (.Attribute o m ap) as [] pos => gd (baseB o && (ap.endLine == pos.line) && decide (as.length < 29)) (rMeth T rec c o m as)
  | _ => none
end
def trR {G : Alg} (T : Tb' G.F) : Nat → Tc → Expr → Option (Rs G)
  | 0 => fun _ _ => none
  | n + 1 => rStep T (trR T n) n

/-! ### which own slots leave an expression -/
def escB (f : Expr → List Str) : Expr → List Str
  | .Name _ _ => []
  | e => f e
def escE : Nat → Expr → List Str
  | 0, _ => []
  | n + 1, e => match e with
    | .Name x _ => [x]
    | .BinOp a _ b _ => escB (escE n) a ++ escB (escE n) b
    | .UnaryOp _ a _ => escB (escE n) a
    | .BoolOp _ vs _ => vs.flatMap (escE n)
    | .Compare a _ bs _ => escB (escE n) a ++ bs.flatMap (escB (escE n))
    | .IfExp t a b _ => escB (escE n) t ++ escE n a ++ escE n b
    | .Tuple es _ _ => es.flatMap (escE n)
    | .List es _ => es.flatMap (escE n)
    | .ListComp elt gs _ _ => escE n elt ++ gs.flatMap fun g => escB (escE n) g.iter ++ g.ifs.flatMap (escB (escE n))
    | .DictComp k v gs _ _ => escE n k ++ escE n v ++ gs.flatMap fun g => escB (escE n) g.iter ++ g.ifs.flatMap (escB (escE n))
    | .Subscript a b _ => escB (escE n) a ++ escB (escE n) b
    | .Slice a b _ _ => (match a with | some a => escB (escE n) a | none => []) ++ (match b with | some b => escB (escE n) b | none => [])
    | .Attribute a _ _ => escB (escE n) a
    | .Call (.Name x _) as ks _ => (if (btNames.contains x) then as.flatMap (escB (escE n)) else as.flatMap (escE n)) ++ ks.flatMap fun k => escE n k.value
    | .Call (.Attribute o _ _) as ks _ => escB (escE n) o ++ as.flatMap (escE n)
    | .Lambda _ b _ _ => escE n b
    | _ => []
/-- lists of lists that are walked -/
def neE : Nat → Expr → List Str
  | 0, _ => []
  | n + 1, e => match e with
    | .ListComp elt gs _ _ => neE n elt ++ gs.flatMap fun g => (match g.iter with | .Name x _ => [x] | e => neE n e)
    | .Call _ as _ _ => as.flatMap (neE n)
    | .Tuple es _ _ => es.flatMap (neE n)
    | .List es _ => es.flatMap (neE n)
    | .Subscript a _ _ => neE n a
    | .BinOp a _ b _ => neE n a ++ neE n b
    | _ => []
def escs (c : Tc) (e : Expr) : List Nat := (((escE 20 e).filterMap (ixOf c.N)).filter (fun i => c.mu.contains i || c.ne.contains i) ++ ((neE 20 e).filterMap (ixOf c.N)).filter fun i => c.ne.contains i).eraseDups
def fzG {G : Alg} (is : List Nat) (s : G.S) : G.S := match is with
  | [] => s
  | is => G.fz is s

/-! ### statements -/
def nmf (sc : Scope) (L : Nat) : Expr → Option Str
  | .Name id pos => if (sc.names.lookup id == some .local && pos.line == L) = true then some id else none
  | _ => none
def swNames (sc : Scope) (ts : List Expr) : List Str := ts.filterMap (nmf sc ((ts.head?.map (·.pos.line)).getD 0))
def isStr : Expr → Bool
  | .Starred _ _ => true
  | _ => false
def swD (sc : Scope) (ts vs : List Expr) : Option (Option (List Str)) :=
  if (!(ts.length == 2 || ts.length == 3) || vs.length != ts.length) = true then some none
  else if vs.any isStr = true then some none
  else if ((swNames sc ts).length != ts.length || (swNames sc ts).eraseDups.length != (swNames sc ts).length) = true then some none
  else if vs.all (foldedForSure 8) = true then some none
  else if vs.all (constantsAlone 8) = true then none else some (some (swNames sc ts))
/-- the store is drawn into the comprehension -/
def swL (sc : Scope) (scope : Scope) (x : Str) (py vp : Pos) : Bool := sc.names.lookup x == some .local && py.line == vp.line && !(scope.names.any fun (n, k) => n == x && (k == .local || k == .cell))
section
variable {G : Alg} (T : Tb' G.F) (n : Nat)
def trSl (c : Tc) (b : Bool) (r : Rs G) : G.Sl := match b, r with
  | true, .lst f => G.sll f
  | true, .dct f => G.sld f
  | _, r => G.slv r.e
def trSls (c : Tc) : List Nat → List Expr → Option G.SA
  | [], [] => some G.sanil
  | i :: is, e :: es => gd (nst e) (o2 G.sacons ((trR T n c e).map (trSl c (c.mu.contains i))) (trSls c is es))
  | _, _ => none
def isEmptyList : Expr → Bool
  | .List [] _ => true
  | _ => false
def lockB (c : Tc) (i : Nat) : Bool := !(c.lock.contains i)
/-- x = e -/
def trSetR (c : Tc) (x : Str) (py : Pos) (e : Expr) (i : Nat) : Option G.S :=
  match c.ne.contains i, e with
  | true, .ListComp (.List [] _) [⟨.Name y p, it, [], 0⟩] scope _ => gd (blkC c.N c.sc scope (ownOf c.N scope) && notSet it) (match trTg (blkTc c scope) (.Name y p), rI (trR T n) c true it with
    | some (.nm j), some a => gd (inIx [j] ((ownOf c.N scope).map (·.2))) (some (G.set i (G.sln a)))
    | _, _ => none)
  | _, e => if c.tp.contains i then (match trR T n c e with
      | some (.lst f) => gd (notComp e) (some (G.set i (G.slv (G.tape f))))
      | _ => none)
    else (match e with
      | .DictComp _ _ _ scope vp => gd (!(swL c.sc scope x py vp)) ((trR T n c e).map fun r => G.set i (trSl c (c.mu.contains i) r))
      | _ => (trR T n c e).map fun r => G.set i (trSl c (c.mu.contains i) r))
def trAsg (c : Tc) (tg e : Expr) : Option G.S := match tg with
  | .Name x py => gd (locB c x) (match ixOf c.N x with
    | some i => gd (lockB c i) (match e with
      | .Call (.Attribute (.Name y _) m ap) [] [] cp => if m = "pop" then gd (ap.endLine == cp.line) ((trN c y).map fun j => G.pop i j) else trSetR T n c x py e i
      | _ => trSetR T n c x py e i)
    | none => none)
  | .Tuple ts _ _ => (match tgNames c ts with
    | some is => gd (is.all (lockB c)) (match e with
      | .Tuple es _ _ => gd (decide is.Nodup && decide (is.length ≤ 1000) && (swD c.sc ts es).isSome) ((trSls T n c is es).map (G.par is))
      | _ => gd (notComp e) ((rE (trR T n) c e).map (G.unp (.tup is))))
    | none => none)
  | .Subscript (.Name x _) i _ => gd (notSlice i) (match trN c x with
    | some j => o2 (G.put j) (rE (trR T n) c e) (rB (trR T n) c i)
    | none => none)
  | .Attribute (.Name x _) f _ => match trN c x with
    | some j => gd (T.fld.contains f && notComp e) ((rE (trR T n) c e).map (G.fldp j f))
    | none => none
  | _ => none
def trEx (c : Tc) (e : Expr) : Option G.S := match e with
  | .Constant (.str _) _ _ => some G.skip
  | .Call (.Attribute (.Name x _) m ap) [a] [] cp =>
    if m = "append" then gd (ap.endLine == cp.line && nst a) (o2 G.app (trN c x) (rE (trR T n) c a))
    else if m = "update" then gd (ap.endLine == cp.line && nst a) (match trN c x, trR T n c a with
      | some i, some (.dct f) => some (G.upd i f)
      | _, _ => none)
    else if m = "extend" then gd (ap.endLine == cp.line && nst a) (match trN c x, trR T n c a with
      | some i, some (.lst f) => some (G.ext i f)
      | _, _ => none)
    else (rE (trR T n) c e).map G.expr
  | .Call (.Attribute (.Subscript (.Name x _) i _) m ap) [a] [] cp => if m = "append" then gd (ap.endLine == cp.line && nst a && notSlice i) (match trN c x with
      | some j => o2 (G.nap j) (rB (trR T n) c i) (rE (trR T n) c a)
      | none => none) else none
  | e => gd (notComp e) ((rE (trR T n) c e).map G.expr)
def rSs (f : Stmt → Option G.S) : List Stmt → Option G.S
  | [] => some G.skip
  | [st] => f st
  | st :: st2 :: rest => o2 G.seqs (f st) (rSs f (st2 :: rest))
def trStep (c : Tc) (f : Stmt → Option G.S) (st : Stmt) : Option G.S := match st with
  | .Pass _ => some G.skip
  | .Break _ => some G.brk
  | .Continue _ => some G.cnt
  | .Return none _ => some G.retn
  | .Return (some e) _ => (match c.rt, trR T n c e with
      | true, some (.lst f) => some (G.ret (G.tape f))
      | _, some r => some (fzG (escs c e) (G.ret r.e))
      | _, none => none)
  | .Expr e _ => (trEx T n c e).map (fzG (escs c e))
  | .Assign [tg] e _ => (trAsg T n c tg e).map (fzG (escs c e))
  | .AugAssign (.Name x _) op e _ => gd (locB c x) (match ixOf c.N x with
      | some i => gd (lockB c i) ((rE (trR T n) c e).map (G.aug i op))
      | none => none)
  | .If t a b _ => (match rT T (trR T n) c n t, rSs f a, rSs f b with
      | some t', some a, some b => some (fzG (escs c t) (G.sif t' a b))
      | _, _, _ => none)
  | .While t a [] _ => (match rT T (trR T n) c n t, rSs f a with
      | some t', some a => some (G.swh (escs c t) t' a)
      | _, _ => none)
  | .For tg it a [] _ => gd (notSet it) (match trTg c tg, rI (trR T n) c false it, rSs f a with
      | some g, some i, some a => gd (g.idx.all (lockB c)) (some (fzG (match it with | .Call _ _ _ _ => escs c it | .Name _ _ => escs c it | _ => escs c it) (G.sfor g i a)))
      | _, _, _ => none)
  | .Raise (some (.Call (.Name x _) [a] [] _)) none _ => (match T.ers.contains x with
      | true => gd (glB c.sc x && nmB x && nst a) ((rE (trR T n) c a).map (G.raise x))
      | false => some G.sbad)
  | .Raise _ _ _ => some G.sbad
  | .Try body [.ExceptHandler (some (.Name x _)) (some nm) [.Return (some (.Attribute (.Name y _) fl _)) _] _] [] [] _ => gd (T.ers.contains x && glB c.sc x && nmB x && decide (y = nm) && decide (fl = "place") && decide (c.sc.names.lookup nm = some .local)) (match trN c nm, rSs f body with
      | some _, some b => some (G.tryp x b)
      | _, _ => none)
  | _ => none
def trS (c : Tc) : Nat → Stmt → Option G.S
  | 0 => fun _ => none
  | k + 1 => trStep T n c (trS c k)
def trSs (c : Tc) (k : Nat) (sts : List Stmt) : Option G.S := rSs (trS T n c k) sts
end
end Kw
namespace Kw
open PySem PySem.Spec PyProof.Rows L2

/-! ### the translator is sound -/
def Snd (R : Rc) (X : Cx) (E : XK) : Rs semAlg → Expr → Prop
  | .val f, e => PE X e (wE R E f)
  | .lst f, e => PE X e (wL R E f)
  | .dct f, e => PE X e (wD R E f)
structure TcX (c : Tc) (X : Cx) : Prop where
  N : X.N = c.N
  sc : X.env.scope = c.sc
  fn : ∀ x, c.fn x = true → X.fn x = true
def RecOk (R : Rc) (T : Tb) (rec : Tc → Expr → Option (Rs semAlg)) : Prop := ∀ (c : Tc) (X : Cx) (E : XK), XCx R T X E → TcX c X → ∀ (e : Expr) (r : Rs semAlg), rec c e = some r → Snd R X E r e
theorem o2_some {α β γ : Type} {f : α → β → γ} {a : Option α} {b : Option β} {r : γ} (h : o2 f a b = some r) : ∃ x y, a = some x ∧ b = some y ∧ r = f x y := by
  cases a with
  | none => cases h
  | some x => cases b with
    | none => cases h
    | some y => cases h; exact ⟨x, y, rfl, rfl, rfl⟩
theorem gd_some {α : Type} {b : Bool} {x : Option α} {r : α} (h : gd b x = some r) : b = true ∧ x = some r := by
  cases b with
  | true => exact ⟨rfl, h⟩
  | false => cases h
theorem map_some {α β : Type} {f : α → β} {a : Option α} {r : β} (h : a.map f = some r) : ∃ x, a = some x ∧ r = f x := by
  cases a with
  | none => cases h
  | some x => cases h; exact ⟨x, rfl, rfl⟩
theorem ixOf_some {N : List Str} {x : Str} {i : Nat} (h : ixOf N x = some i) : N[i]? = some x := by
  unfold ixOf at h
  rw [List.findIdx?_eq_some_iff_getElem] at h
  obtain ⟨hi, h1, _⟩ := h
  have := of_decide_eq_true h1
  rw [List.getElem?_eq_getElem hi, this]
theorem visB_ok {sc : Scope} {x : Str} (h : visB sc x = true) : Vis sc x := by
  unfold visB at h
  unfold Vis
  cases e : sc.names.lookup x with
  | none => rw [e] at h; cases h
  | some k => cases k <;> simp [e] at h ⊢
theorem glB_ok {sc : Scope} {x : Str} (h : glB sc x = true) : sc.names.lookup x = some .globalImplicit := by
  unfold glB at h
  cases e : sc.names.lookup x with
  | none => rw [e] at h; cases h
  | some k => cases k <;> simp [e] at h ⊢
theorem nmB_ok {x : Str} (h : nmB x = true) : (x == ("__debug__" : Str)) = false ∧ (x == ("__classdict__" : Str)) = false ∧ x ≠ ("__name__" : Str) := by
  unfold nmB at h
  simp only [Bool.and_eq_true, Bool.not_eq_true'] at h
  exact ⟨h.1.1, h.1.2, beq_eq_false_iff_ne.mp h.2⟩
theorem star_cons {e : Expr} {es : List Expr} {env : PySem.Env} (h : nst e = true) : starEach (e :: es) env = (false, eval e env) :: starEach es env := by
  cases e <;> first | rfl | cases h
theorem star_any {pos : Pos} {env : PySem.Env} : ∀ {es : List Expr}, es.all nst = true → (backTo pos (starEach es env)).any (·.1) = false
  | [], _ => rfl
  | e :: es, h => by
    simp only [List.all_cons, Bool.and_eq_true] at h
    rw [star_cons h.1]
    show (false || (backTo pos (starEach es env)).any (·.1)) = false
    rw [star_any h.2]; rfl
theorem attr_base {o : Expr} {f : Str} {env : PySem.Env} (h : baseB o = true) : attributeBase o f env (eval o env) = eval o env := by
  cases o <;> first | rfl | skip
  rename_i fn as ks p
  cases as with
  | nil => cases h
  | cons a as => cases fn <;> rfl
theorem tru_plain {a : Expr} {env : PySem.Env} (h : plainB a = true) : ∀ whole, isTrue a env whole = (do let v ← whole; standAt a.pos; holding [v] (truthy v)) := by
  intro whole
  cases a <;> first | rfl | cases h | skip
  rename_i op x p
  cases op <;> first | rfl | cases h
theorem plain_ix {b : Expr} (h : notSlice b = true) : PlainIx b := by
  intro o i
  cases b <;> first | rfl | cases h
theorem folded {e : Expr} {env : PySem.Env} (h : notSet e = true) : ∀ x, foldedSetIterable e env x = pure x := by
  intro x
  cases e <;> first | rfl | cases h
section
variable {R : Rc} {T : Tb} {rec : Tc → Expr → Option (Rs semAlg)} {c : Tc} {X : Cx} {E : XK} {e : Expr}
theorem Snd_e {r : Rs semAlg} (h : Snd R X E r e) : PE X e (wE R E r.e) := by
  cases r with
  | val f => exact h
  | lst f => exact wE_wL h
  | dct f => exact wD_wE h
theorem rE_ok (hr : RecOk R T rec) (hX : XCx R T X E) (hc : TcX c X) {f : DE} (h : rE rec c e = some f) : PE X e (wE R E f) := by
  obtain ⟨r, h1, rfl⟩ := map_some h
  exact Snd_e (hr c X E hX hc e r h1)
theorem trN_ok {x : Str} {i : Nat} (hc : TcX c X) (h : trN c x = some i) : X.N[i]? = some x ∧ Vis X.env.scope x ∧ (x == ("__debug__" : Str)) = false ∧ (x == ("__classdict__" : Str)) = false := by
  obtain ⟨h1, h2⟩ := gd_some h
  simp only [Bool.and_eq_true] at h1
  obtain ⟨n1, n2, _⟩ := nmB_ok h1.2
  exact ⟨by rw [hc.N]; exact ixOf_some h2, by rw [hc.sc]; exact visB_ok h1.1, n1, n2⟩
theorem rB_ok (hr : RecOk R T rec) (hX : XCx R T X E) (hc : TcX c X) {f : DE} (h : rB rec c e = some f) : PE X e (wB R E f) := by
  cases e <;> first | exact wB_wE (rE_ok hr hX hc h) | skip
  rename_i x p
  obtain ⟨i, h1, rfl⟩ := map_some h
  obtain ⟨a1, a2, a3, a4⟩ := trN_ok hc h1
  exact pe_getB a1 a2 a3 a4
theorem mapO_A {f : Expr → Option DE} (hf : ∀ e d, f e = some d → PE X e (wE R E d)) : ∀ {es : List Expr} {g : DA}, mapO (G := semAlg) f es = some g → PA X es (wA R E g) ∧ es.all nst = true ∧ ∀ t ρ ds t', g ρ t = .ok ds t' → ds.length = es.length
  | [], g, h => by
    cases h
    exact ⟨pa_nilD, rfl, fun t ρ ds t' e => by cases e; rfl⟩
  | e :: es, g, h => by
    obtain ⟨h1, h2⟩ := gd_some h
    obtain ⟨a, r, ha, hr, rfl⟩ := o2_some h2
    obtain ⟨q1, q2, q3⟩ := mapO_A hf hr
    refine ⟨pa_consD (hf e a ha) q1 (star_cons h1), by simp only [List.all_cons, h1, q2, Bool.and_self], fun t ρ ds t' eo => ?_⟩
    obtain ⟨x, t1, _, eo⟩ := bnd_ok eo
    obtain ⟨xs, t2, e2, eo⟩ := bnd_ok eo
    cases eo
    simp [q3 _ _ _ _ e2]
theorem mapO_B {f : Expr → Option DE} (hf : ∀ e d, f e = some d → PE X e (wB R E d)) : ∀ {es : List Expr} {g : DA}, mapO (G := semAlg) f es = some g → PA X es (wAB R E g) ∧ es.all nst = true
  | [], g, h => by
    cases h
    exact ⟨pa_nilB, rfl⟩
  | e :: es, g, h => by
    obtain ⟨h1, h2⟩ := gd_some h
    obtain ⟨a, r, ha, hr, rfl⟩ := o2_some h2
    obtain ⟨q1, q2⟩ := mapO_B hf hr
    exact ⟨pa_consB (hf e a ha) q1 (star_cons h1), by simp only [List.all_cons, h1, q2, Bool.and_self]⟩
theorem pt_chainD {a b d : Expr} {fa fb fc : DE} {pos : Pos} (hK : X.K = R.K) (hu : X.A.units + 100 < cLine) {op op' : CmpOp} (ha : PE X a (wB R E fa)) (hb : PE X b (wB R E fb)) (hc : PE X d (wB R E fc)) (hm : behindInMarks op' d = false) : PT X (.Compare a [op, op'] [b, d] pos) (wT R E (tBool (eChain (cmpM op) (cmpM op') fa fb fc))) :=
  PT_imp (pt_chain (cmp_D hK hu op) (cmp_D hK hu op') ha hb hc (by show behindInMarks op' d = false; exact hm)) fun σ H Q ⟨g, t, ρ, S, w⟩ =>
    ⟨g, t, ρ, S, (W1.bnd S.ok (W1.bnd S.ok w)).mono fun g1 H1 t1 x w1 k v rv => ⟨g1, t1, ρ, S.grow w1, (W1.bnd w1.ok k).mono fun g2 H2 t2 y w2 k2 u ru => ⟨g2, t2, x, y, w2.ok, rv.grow w2, ru, (W1.bnd w2.ok k2).mono fun g3 H3 t3 z w3 k3 z' rz => by
      obtain ⟨b, rfl, q⟩ := truB_at w3.ok (W1.bnd w3.ok k3)
      cases rz
      refine ⟨b, rfl, ?_⟩
      cases b with
      | false =>
        simp only [Bool.false_eq_true, if_false] at q ⊢
        have q := W1.at w3.ok q
        obtain ⟨b', e', q⟩ := truB_at w3.ok q
        exact ⟨b', by cases e'; rfl, q⟩
      | true =>
        simp only [if_true] at q ⊢
        exact ⟨g3, t3, ρ, ((S.grow w1).grow w2).grow w3, (W1.bnd w3.ok q).mono fun g4 H4 t4 c' w4 k4 x' rx' => ⟨g4, t4, y, c', w4.ok, (ru.grow w3).grow w4, rx', k4.mono fun g5 H5 t5 d5 w5 k5 z5 r5 => by
          obtain ⟨b', rfl, q⟩ := truB_at w5.ok k5
          cases r5
          exact ⟨b', rfl, q⟩⟩⟩⟩⟩⟩
end
end Kw
namespace Kw
open PySem PySem.Spec PyProof.Rows L2
section
variable {R : Rc} {T : Tb} {rec : Tc → Expr → Option (Rs semAlg)} {c : Tc} {X : Cx} {E : XK}
theorem rCmp0_ok (hr : RecOk R T rec) (hX : XCx R T X E) (hc : TcX c X) {e : Expr} {f : DE} (h : rCmp0 rec c e = some f) : PE X e (wE R E f) := by
  unfold rCmp0 at h
  split at h
  · obtain ⟨h1, h2⟩ := gd_some h
    obtain ⟨x, y, hx, hy, rfl⟩ := o2_some h2
    exact pe_cmpD hX.K hX.hu (rB_ok hr hX hc hx) (rB_ok hr hX hc hy) (by simpa using h1)
  · obtain ⟨h1, h2⟩ := gd_some h
    obtain ⟨x, yz, hx, hyz, rfl⟩ := o2_some h2
    obtain ⟨y, z, hy, hz, rfl⟩ := o2_some hyz
    exact pe_chainD hX.K hX.hu (rB_ok hr hX hc hx) (rB_ok hr hX hc hy) (rB_ok hr hX hc hz) (by simpa using h1)
  · cases h
theorem rCmpT0_ok (hr : RecOk R T rec) (hX : XCx R T X E) (hc : TcX c X) {e : Expr} {f : DE} (h : rCmp0 rec c e = some f) : PT X e (wT R E (tBool f)) := by
  unfold rCmp0 at h
  split at h
  · obtain ⟨h1, h2⟩ := gd_some h
    obtain ⟨x, y, hx, hy, rfl⟩ := o2_some h2
    exact pt_cmpD hX.K hX.hu (rB_ok hr hX hc hx) (rB_ok hr hX hc hy) (by simpa using h1)
  · obtain ⟨h1, h2⟩ := gd_some h
    obtain ⟨x, yz, hx, hyz, rfl⟩ := o2_some h2
    obtain ⟨y, z, hy, hz, rfl⟩ := o2_some hyz
    exact pt_chainD hX.K hX.hu (rB_ok hr hX hc hx) (rB_ok hr hX hc hy) (rB_ok hr hX hc hz) (by simpa using h1)
  · cases h
theorem look_mem {α : Type} {x : Str} {v : α} : ∀ {l : List (Str × α)}, l.lookup x = some v → (x, v) ∈ l
  | (a, b) :: l, h => by
    rw [List.lookup_cons] at h
    cases e : x == a with
    | true =>
      rw [e] at h
      cases h
      obtain rfl := eq_of_beq e
      exact List.mem_cons_self ..
    | false => rw [e] at h; exact List.mem_cons_of_mem _ (look_mem h)
theorem trNeW_ok (hr : RecOk R T rec) (hX : XCx R T X E) (hc : TcX c X) {a b : Expr} {f : DE} {pos : Pos} (h : trNeW T rec c a b = some f) : PE X (.Compare a [.NotEq] [b] pos) (wE R E f) ∧ PT X (.Compare a [.NotEq] [b] pos) (wT R E (tBool f)) := by
  unfold trNeW at h
  split at h
  · rename_i cn F hF
    obtain ⟨h1, h2⟩ := gd_some h
    obtain ⟨x, y, hx, hy, rfl⟩ := o2_some h2
    simp only [Bool.and_eq_true] at h1
    obtain ⟨⟨⟨q1, q2⟩, _⟩, q4⟩ := h1
    have q2 : F.n = 2 := by simpa using q2
    have q4 : behindInMarks .NotEq b = false := by simpa using q4
    have q1 : cn ∈ T.eqs := by simpa using q1
    exact ⟨pe_neWD hX (look_mem hF) q1 q2 (rE_ok hr hX hc hx) (rE_ok hr hX hc hy) q4, pt_neWD hX (look_mem hF) q1 q2 (rE_ok hr hX hc hx) (rE_ok hr hX hc hy) q4⟩
  · cases h
theorem rCmp_ok (hr : RecOk R T rec) (hX : XCx R T X E) (hc : TcX c X) {e : Expr} {f : DE} (h : rCmp T rec c e = some f) : PE X e (wE R E f) := by
  unfold rCmp at h
  split at h
  · split at h
    · rename_i r hr'
      cases h
      exact (trNeW_ok hr hX hc hr').1
    · exact rCmp0_ok hr hX hc h
  · exact rCmp0_ok hr hX hc h
theorem rCmpT_ok (hr : RecOk R T rec) (hX : XCx R T X E) (hc : TcX c X) {e : Expr} {f : DE} (h : rCmp T rec c e = some f) : PT X e (wT R E (tBool f)) := by
  unfold rCmp at h
  split at h
  · split at h
    · rename_i r hr'
      cases h
      exact (trNeW_ok hr hX hc hr').2
    · exact rCmpT0_ok hr hX hc h
  · exact rCmpT0_ok hr hX hc h
theorem rVs_ok {op : BoolOp} {t : Expr → Option DE} (ht : ∀ e d, t e = some d → PE X e (wE R E d)) (hK : X.K = R.K) {pos : Pos} : ∀ {vs : List Expr} {f : DE}, rVs (G := semAlg) op t vs = some f → PE X (.BoolOp op vs pos) (wE R E f)
  | [], f, h => by cases h
  | [a], f, h => pe_oneD (ht a f h)
  | a :: b :: r, f, h => by
    obtain ⟨x, y, hx, hy, rfl⟩ := o2_some h
    have ih := rVs_ok ht hK (pos := pos) (vs := b :: r) hy
    cases op with
    | And => exact pe_andD hK (ht a x hx) ih
    | Or => exact pe_orD hK (ht a x hx) ih
theorem rTs_ok {op : BoolOp} {t : Expr → Option DT} (ht : ∀ e d, t e = some d → PT X e (wT R E d)) {pos : Pos} : ∀ {vs : List Expr} {f : DT}, rTs (G := semAlg) op t vs = some f → PW X (.BoolOp op vs pos) (wT R E f)
  | [], f, h => by cases h
  | [a], f, h => by
    cases op with
    | And => exact pw_and1 (ht a f h)
    | Or => exact pw_or1 (ht a f h)
  | a :: b :: r, f, h => by
    obtain ⟨x, y, hx, hy, rfl⟩ := o2_some h
    have ih := rTs_ok ht (pos := pos) (vs := b :: r) hy
    cases op with
    | And => exact pw_andD (ht a x hx) ih
    | Or => exact pw_orD (ht a x hx) ih
theorem rT_ok (hr : RecOk R T rec) (hX : XCx R T X E) (hc : TcX c X) : ∀ (n : Nat) {e : Expr} {f : DT}, rT T rec c n e = some f → PT X e (wT R E f)
  | 0, e, f, h => by cases h
  | n + 1, e, f, h => by
    have plain : plainB e = true → (rB rec c e).map semAlg.ttru = some f → PT X e (wT R E f) := fun hp h => by
      obtain ⟨x, hx, rfl⟩ := map_some h
      exact pt_truD hX.K (rB_ok hr hX hc hx) (tru_plain hp)
    cases e <;> first | exact plain rfl h | skip
    case UnaryOp op a p =>
      cases op <;> first | exact plain rfl h | skip
      obtain ⟨x, hx, rfl⟩ := map_some h
      exact pt_notD (rT_ok hr hX hc n hx)
    case BoolOp op vs p => exact (rTs_ok (fun e d hd => rT_ok hr hX hc n hd) h).pt
    case Compare a ops bs p =>
      obtain ⟨x, hx, rfl⟩ := map_some h
      exact rCmpT_ok hr hX hc hx
    case IfExp => cases h
theorem rOpt_ok (hr : RecOk R T rec) (hX : XCx R T X E) (hc : TcX c X) {o : Option Expr} {f : Kw.Env → M (Option Int)} (h : rOpt rec c o = some f) : PO X o (wO R E f) := by
  cases o with
  | none => cases h; exact po_noneD
  | some e =>
    obtain ⟨x, hx, rfl⟩ := map_some h
    exact po_someD (rB_ok hr hX hc hx)
theorem bt_in {x : Str} (hX : XCx R T X E) (h : x ∈ btNames) : X.mg x = none := hX.bt x h
theorem gl_ok (hc : TcX c X) {x : Str} (h : glB c.sc x = true) : Gl X x := by
  show X.env.scope.names.lookup x = _
  rw [hc.sc]; exact glB_ok h
theorem rIseq_ok (hr : RecOk R T rec) (hX : XCx R T X E) (hc : TcX c X) {tg e : Expr} {f : DA} (h : (rE rec c e).map semAlg.seq = some f) : PI X tg e (wI R E f) := by
  obtain ⟨x, hx, rfl⟩ := map_some h
  exact pi_seqD (rE_ok hr hX hc hx)
/-- what is walked -/
theorem rI_ok (hr : RecOk R T rec) (hX : XCx R T X E) (hc : TcX c X) {tg e : Expr} {f : DA} {b : Bool} (h : rI rec c b e = some f) : PI X tg e (wIB R E f) ∧ (b = false → PI X tg e (wI R E f)) := by
  unfold rI at h
  split at h
  · rename_i x p a pos
    by_cases hx : x = ("range" : Str)
    · rw [if_pos hx] at h
      subst hx
      obtain ⟨h1, h2⟩ := gd_some h
      obtain ⟨y, hy, rfl⟩ := map_some h2
      simp only [Bool.and_eq_true] at h1
      have q : PI X tg (.Call (.Name "range" p) [a] [] pos) (wI R E (eRange1 y)) := pi_rng1D (gl_ok hc h1.1) (bt_in hX (by decide)) (rB_ok hr hX hc hy) (by rw [star_cons h1.2]; rfl)
      exact ⟨wIB_wI q, fun _ => q⟩
    · rw [if_neg hx] at h
      by_cases hx2 : x = ("reversed" : Str)
      · rw [if_pos hx2] at h
        subst hx2
        obtain ⟨h1, h2⟩ := gd_some h
        obtain ⟨y, hy, rfl⟩ := map_some h2
        simp only [Bool.and_eq_true] at h1
        have q : PI X tg (.Call (.Name "reversed" p) [a] [] pos) (wI R E (iRevS y)) := pi_revD (gl_ok hc h1.1) (bt_in hX (by decide)) (rE_ok hr hX hc hy) (star_cons h1.2)
        exact ⟨wIB_wI q, fun _ => q⟩
      · rw [if_neg hx2] at h
        have q := rIseq_ok hr hX hc (tg := tg) h
        exact ⟨wIB_wI q, fun _ => q⟩
  · rename_i x p a d pos
    by_cases hx : x = ("range" : Str)
    · rw [if_pos hx] at h
      subst hx
      obtain ⟨h1, h2⟩ := gd_some h
      obtain ⟨y, z, hy, hz, rfl⟩ := o2_some h2
      simp only [Bool.and_eq_true] at h1
      have q : PI X tg (.Call (.Name "range" p) [a, d] [] pos) (wI R E (eRange2 y z)) := pi_rng2D (gl_ok hc h1.1.1) (bt_in hX (by decide)) (rB_ok hr hX hc hy) (rB_ok hr hX hc hz) (by rw [star_cons h1.1.2, star_cons h1.2]; rfl) (by rw [star_cons h1.2]; rfl)
      exact ⟨wIB_wI q, fun _ => q⟩
    · rw [if_neg hx] at h
      have q := rIseq_ok hr hX hc (tg := tg) h
      exact ⟨wIB_wI q, fun _ => q⟩
  · cases b with
    | true =>
      obtain ⟨y, hy, rfl⟩ := map_some h
      exact ⟨pi_seqB (rB_ok hr hX hc hy), fun z => by cases z⟩
    | false =>
      have q := rIseq_ok hr hX hc (tg := tg) h
      exact ⟨wIB_wI q, fun _ => q⟩
/-! targets -/
theorem locB_ok (hc : TcX c X) {x : Str} (h : locB c x = true) : L2.Loc X.env.scope x ∧ (X.fn x = true ∨ X.env.scope.names.lookup x = some .local) := by
  unfold locB at h
  rw [hc.sc]
  unfold L2.Loc
  cases e : c.sc.names.lookup x with
  | none => rw [e] at h; cases h
  | some k =>
    cases k <;> simp [e] at h ⊢
    exact hc.fn x h
theorem assign_cons {e : Expr} {es : List Expr} {env : PySem.Env} (h : nst e = true) : assignEach (e :: es) env = (false, assign e env) :: assignEach es env := by
  cases e <;> first | rfl | cases h
theorem tgNames_ok (hX : XCx R T X E) (hc : TcX c X) : ∀ {es : List Expr} {is : List Nat}, tgNames c es = some is → PGs X es (wGs R is) ∧ (assignEach es X.env).length = is.length ∧ (assignEach es X.env).findIdx? (·.1) = none
  | [], is, h => by cases h; exact ⟨pgs_nilD, rfl, rfl⟩
  | e :: es, is, h => by
    cases e <;> first | cases h | skip
    rename_i x p
    obtain ⟨h1, h2⟩ := gd_some h
    obtain ⟨i, is', hi, his, rfl⟩ := o2_some h2
    obtain ⟨q1, q2, q3⟩ := tgNames_ok hX hc his
    obtain ⟨l1, l2⟩ := locB_ok hc h1
    refine ⟨pgs_consD (pg_nm hX.nd (by rw [hc.N]; exact ixOf_some hi) l1 l2) q1 (by rw [assign_cons rfl]; rfl), by rw [assign_cons rfl]; simp [q2], ?_⟩
    rw [assign_cons rfl, List.findIdx?_cons]
    simp [q3]
theorem trTg_ok (hX : XCx R T X E) (hc : TcX c X) {e : Expr} {g : Tg} (h : trTg c e = some g) : PG X e (wG R g) := by
  unfold trTg at h
  split at h
  · obtain ⟨h1, h2⟩ := gd_some h
    obtain ⟨i, hi, rfl⟩ := map_some h2
    obtain ⟨l1, l2⟩ := locB_ok hc h1
    exact pg_nm hX.nd (by rw [hc.N]; exact ixOf_some hi) l1 l2
  · obtain ⟨is, his, rfl⟩ := map_some h
    obtain ⟨q1, q2, q3⟩ := tgNames_ok hX hc his
    exact pg_tp hX.K hX.calm q1 q2 q3
  · cases h
/-! comprehensions -/
theorem blkTc_ok (hc : TcX c X) {scope : Scope} (s : Shared) (H : Hp) (C : Addr) (cl : List (Str × Addr)) (fp : List Addr) : TcX (blkTc c scope) (X.blk s H scope (compEnvC scope cl C X.env) fp) := by
  refine ⟨hc.N, ?_, fun x h => ?_⟩
  · show relS scope X.env.scope = relS scope c.sc
    rw [hc.sc]
  · show (scope.names.lookup x == some NameKind.cell) = true
    have h : (match scope.names.lookup x with | some .cell => true | _ => false) = true := h
    cases e : scope.names.lookup x with
    | none => rw [e] at h; cases h
    | some k => cases k <;> simp [e] at h ⊢
theorem rIfs_ok (hr : RecOk R T rec) (hX : XCx R T X E) (hc : TcX c X) {n : Nat} {ifs : List Expr} {f : DT} (h : rIfs T rec c n ifs = some f) : PTs X ifs (wT R E f) := by
  unfold rIfs at h
  split at h
  · cases h; exact pts_nilD
  · exact pts_one (rT_ok hr hX hc n h)
  · cases h
theorem inIx_ok {is vs : List Nat} (h : inIx is vs = true) : ∀ i ∈ is, i ∈ vs := fun i hi => by
  have := List.all_eq_true.mp h i hi
  simpa using this
/-- a list comprehension, its pieces -/
inductive LcP (R : Rc) (X : Cx) (E : XK) (elt : Expr) (scope : Scope) : List Comprehension → DA → Prop
  | one {tg iter : Expr} {ifs : List Expr} {own : List (Str × Nat)} {tgt : Tg} {items : DA} {tests : DT} {fe : DE} (hi : PI X tg iter (wIB R E items)) (ok : BlkOk X.N X.env.scope scope own) (hix : ∀ i ∈ tgt.idx, i ∈ own.map (·.2))
      (hg : ∀ (s : Shared) (H : Hp) (C : Addr) (cl : List (Str × Addr)) (fp : List Addr), PG (X.blk s H scope (compEnvC scope cl C X.env) fp) tg (wG R tgt)) (ht : ∀ (s : Shared) (H : Hp) (C : Addr) (cl : List (Str × Addr)) (fp : List Addr), PTs (X.blk s H scope (compEnvC scope cl C X.env) fp) ifs (wT R E0 tests))
      (he : ∀ (s : Shared) (H : Hp) (C : Addr) (cl : List (Str × Addr)) (fp : List Addr), PE (X.blk s H scope (compEnvC scope cl C X.env) fp) elt (wE R E0 fe)) (hs : ∀ x, foldedSetIterable iter X.env x = pure x) :
      LcP R X E elt scope [⟨tg, iter, ifs, 0⟩] (eComp (own.map (·.2)) tgt tests fe items)
  | two {tg iter tg1 iter1 : Expr} {ifs ifs1 : List Expr} {own : List (Str × Nat)} {tgt tgt1 : Tg} {items items1 : DA} {tests tests1 : DT} {fe : DE} {vs1 : List Nat} (hi : PI X tg iter (wIB R E items)) (ok : BlkOk X.N X.env.scope scope own) (hv : ∀ i ∈ vs1, i ∈ own.map (·.2))
      (hix : ∀ i ∈ tgt.idx, i ∈ own.map (·.2)) (hix1 : ∀ i ∈ tgt1.idx, i ∈ vs1)
      (hg : ∀ (s : Shared) (H : Hp) (C : Addr) (cl : List (Str × Addr)) (fp : List Addr), PG (X.blk s H scope (compEnvC scope cl C X.env) fp) tg (wG R tgt)) (ht : ∀ (s : Shared) (H : Hp) (C : Addr) (cl : List (Str × Addr)) (fp : List Addr), PTs (X.blk s H scope (compEnvC scope cl C X.env) fp) ifs (wT R E0 tests))
      (hi1 : ∀ (s : Shared) (H : Hp) (C : Addr) (cl : List (Str × Addr)) (fp : List Addr), PI (X.blk s H scope (compEnvC scope cl C X.env) fp) tg1 iter1 (wI R E0 items1))
      (hg1 : ∀ (s : Shared) (H : Hp) (C : Addr) (cl : List (Str × Addr)) (fp : List Addr), PG (X.blk s H scope (compEnvC scope cl C X.env) fp) tg1 (wG R tgt1)) (ht1 : ∀ (s : Shared) (H : Hp) (C : Addr) (cl : List (Str × Addr)) (fp : List Addr), PTs (X.blk s H scope (compEnvC scope cl C X.env) fp) ifs1 (wT R E0 tests1))
      (he : ∀ (s : Shared) (H : Hp) (C : Addr) (cl : List (Str × Addr)) (fp : List Addr), PE (X.blk s H scope (compEnvC scope cl C X.env) fp) elt (wE R E0 fe)) (hs : ∀ x, foldedSetIterable iter X.env x = pure x) (hs1 : ∀ env x, foldedSetIterable iter1 env x = pure x) :
      LcP R X E elt scope [⟨tg, iter, ifs, 0⟩, ⟨tg1, iter1, ifs1, 0⟩] (eComp2 (own.map (·.2)) tgt tests items vs1 tgt1 tests1 items1 fe)
theorem LcP.pe (hX : XCx R T X E) {elt : Expr} {scope : Scope} {gs : List Comprehension} {f : DA} {pos : Pos} (h : LcP R X E elt scope gs f) : PE X (.ListComp elt gs scope pos) (wL R E f) := by
  cases h with
  | one hi ok hix hg ht he hs => exact pe_lcD hX.calm hX.nd hi ok hix hg ht he hs
  | two hi ok hv hix hix1 hg ht hi1 hg1 ht1 he hs hs1 => exact pe_lcD2 hX.calm hX.nd hi ok hv hix hix1 hg ht hi1 hg1 ht1 he hs hs1
/-- drawn into the store -/
theorem LcP.ps (hX : XCx R T X E) {elt : Expr} {scope : Scope} {gs : List Comprehension} {f : DA} {pos py spos : Pos} {y : Str} {i : Nat} (h : LcP R X E elt scope gs f) (hy : X.N[i]? = some y) (hyl : X.env.scope.names.lookup y = some .local)
    (hsw : swapsWith (.ListComp elt gs scope pos) (some (.Name y py)) spos.line X.env = pure true) : PS X (.Assign [.Name y py] (.ListComp elt gs scope pos) spos) (tAsg (wL R E f) (gName i)) := by
  cases h with
  | one hi ok hix hg ht he hs => exact PS_imp (ps_setLc hX.calm hX.nd hy hyl hsw hi ok hg ht he hs) fun Dn σ H h => lc_imp hix h
  | two hi ok hv hix hix1 hg ht hi1 hg1 ht1 he hs hs1 => exact PS_imp (ps_setLc2 hX.calm hX.nd hy hyl hsw hi ok hv hg ht hi1 hg1 ht1 he hs hs1) fun Dn σ H h => lc_imp2 hix hix1 h
theorem blkC_kind {N : List Str} {sc scope : Scope} {own : List (Str × Nat)} (h : blkC N sc scope own = true) : scope.kind = .function := (blkOk_by h).kind
theorem rComp_ok (hr : RecOk R T rec) (hX : XCx R T X E) (hc : TcX c X) {n : Nat} {elt : Expr} {gs : List Comprehension} {scope : Scope} {f : DA} (h : rComp T rec n c elt gs scope = some f) : LcP R X E elt scope gs f := by
  unfold rComp at h
  split at h
  · obtain ⟨h1, h2⟩ := gd_some h
    simp only [Bool.and_eq_true] at h1
    obtain ⟨hb, hs⟩ := h1
    split at h2
    · rename_i g t i e hg ht hi he
      obtain ⟨h3, h4⟩ := gd_some h2
      cases h4
      have hk := blkC_kind hb
      have ok : BlkOk X.N X.env.scope scope (ownOf c.N scope) := by rw [hc.N, hc.sc]; exact blkOk_by hb
      exact .one (rI_ok hr hX hc hi).1 ok (inIx_ok h3) (fun s H C cl fp => trTg_ok (hX.blk hk s H C cl fp) (blkTc_ok hc s H C cl fp) hg) (fun s H C cl fp => rIfs_ok hr (hX.blk hk s H C cl fp) (blkTc_ok hc s H C cl fp) ht)
        (fun s H C cl fp => rE_ok hr (hX.blk hk s H C cl fp) (blkTc_ok hc s H C cl fp) he) (folded hs)
    · cases h2
  · obtain ⟨h1, h2⟩ := gd_some h
    simp only [Bool.and_eq_true] at h1
    obtain ⟨⟨hb, hs⟩, hs1⟩ := h1
    split at h2
    · rename_i g t i g1 t1 i1 e hg ht hi hg1 ht1 hi1 he
      obtain ⟨h3, h4⟩ := gd_some h2
      cases h4
      simp only [Bool.and_eq_true] at h3
      have hk := blkC_kind hb
      have ok : BlkOk X.N X.env.scope scope (ownOf c.N scope) := by rw [hc.N, hc.sc]; exact blkOk_by hb
      exact .two (rI_ok hr hX hc hi).1 ok (inIx_ok h3.2) (inIx_ok h3.1) (fun i hi => hi) (fun s H C cl fp => trTg_ok (hX.blk hk s H C cl fp) (blkTc_ok hc s H C cl fp) hg) (fun s H C cl fp => rIfs_ok hr (hX.blk hk s H C cl fp) (blkTc_ok hc s H C cl fp) ht)
        (fun s H C cl fp => (rI_ok hr (hX.blk hk s H C cl fp) (blkTc_ok hc s H C cl fp) hi1).2 rfl) (fun s H C cl fp => trTg_ok (hX.blk hk s H C cl fp) (blkTc_ok hc s H C cl fp) hg1) (fun s H C cl fp => rIfs_ok hr (hX.blk hk s H C cl fp) (blkTc_ok hc s H C cl fp) ht1)
        (fun s H C cl fp => rE_ok hr (hX.blk hk s H C cl fp) (blkTc_ok hc s H C cl fp) he) (folded hs) (fun env => folded hs1)
    · cases h2
  · cases h
theorem rDc_ok (hr : RecOk R T rec) (hX : XCx R T X E) (hc : TcX c X) {n : Nat} {kx vx : Expr} {gs : List Comprehension} {scope : Scope} {f : DK} {pos : Pos} (h : rDc T rec n c kx vx gs scope = some f) : PE X (.DictComp kx vx gs scope pos) (wD R E f) := by
  unfold rDc at h
  split at h
  · obtain ⟨h1, h2⟩ := gd_some h
    simp only [Bool.and_eq_true] at h1
    obtain ⟨hb, hs⟩ := h1
    split at h2
    · rename_i g t i k e hg ht hi hk' he
      obtain ⟨h3, h4⟩ := gd_some h2
      cases h4
      have hk := blkC_kind hb
      have ok : BlkOk X.N X.env.scope scope (ownOf c.N scope) := by rw [hc.N, hc.sc]; exact blkOk_by hb
      exact pe_dcD hX.calm hX.nd (rI_ok hr hX hc hi).1 ok (inIx_ok h3) (fun s H C cl fp => trTg_ok (hX.blk hk s H C cl fp) (blkTc_ok hc s H C cl fp) hg) (fun s H C cl fp => rIfs_ok hr (hX.blk hk s H C cl fp) (blkTc_ok hc s H C cl fp) ht)
        (fun s H C cl fp => rE_ok hr (hX.blk hk s H C cl fp) (blkTc_ok hc s H C cl fp) hk') (fun s H C cl fp => rE_ok hr (hX.blk hk s H C cl fp) (blkTc_ok hc s H C cl fp) he) (folded hs)
    · cases h2
  · cases h
end
end Kw
namespace Kw
open PySem PySem.Spec PyProof.Rows L2
theorem findS_ok {l : List String} {x : Str} {y : String} (h : findS l x = some y) : y ∈ l ∧ (y : Str) = x :=
  by
  unfold findS at h
  exact ⟨List.mem_of_find?_eq_some h, by have := List.find?_some h; exact of_decide_eq_true this⟩
theorem bo_len : bootBuiltins "len" = some (.builtin "len") := by decide +kernel
theorem bo_int : bootBuiltins "int" = some (.type "int") := by decide +kernel
theorem bo_abs : bootBuiltins "abs" = some (.builtin "abs") := by decide +kernel
theorem bo_sum : bootBuiltins "sum" = some (.builtin "sum") := by decide +kernel
theorem bo_tuple : bootBuiltins "tuple" = some (.type "tuple") := by decide +kernel
theorem bo_any : bootBuiltins "any" = some (.builtin "any") := by decide +kernel
theorem bo_all : bootBuiltins "all" = some (.builtin "all") := by decide +kernel
theorem bo_max : bootBuiltins "max" = some (.builtin "max") := by decide +kernel
theorem bo_min : bootBuiltins "min" = some (.builtin "min") := by decide +kernel
theorem bo_list : bootBuiltins "list" = some (.type "list") := by decide +kernel
theorem bo_sorted : bootBuiltins "sorted" = some (.builtin "sorted") := by decide +kernel
theorem bo_isi : bootBuiltins "isinstance" = some (.builtin "isinstance") := by decide +kernel
theorem bo_bool : bootBuiltins "bool" = some (.type "bool") := by decide +kernel
theorem bo_str : bootBuiltins "str" = some (.type "str") := by decide +kernel
theorem bo_dict : bootBuiltins "dict" = some (.type "dict") := by decide +kernel
theorem star_allB {pos : Pos} {env : PySem.Env} : ∀ {es : List Expr}, es.all nst = true → (backTo pos (starEach es env)).all (fun x => !x.1) = true
  | [], _ => rfl
  | e :: es, h => by
    simp only [List.all_cons, Bool.and_eq_true] at h
    rw [star_cons h.1]
    show (true && (backTo pos (starEach es env)).all (fun x => !x.1)) = true
    rw [star_allB h.2]; rfl
theorem mt_form {o : Expr} {m : Str} {ap pos : Pos} {as : List Expr} {env : PySem.Env} (hb : baseB o = true) (hn : as.all nst = true) (hl : as.length < 29) (hp : (ap.endLine == pos.line) = true) : eval (.Call (.Attribute o m ap) as [] pos) env = (do
      let ov ← eval o env
      standAt ap.atName
      let (f, first) ← holding [ov] (getMethod ov m (do return (← importBound o env).getD true))
      callWith pos f first (backTo pos (starEach as env)) (backToKw pos (keywordEach [] env))) := by
  rw [arm_eval_Call, attr_base hb]
  have hf : methodCallForm (as.length + ([] : List Keyword).length) (backTo pos (starEach as env)) (backToKw pos (keywordEach [] env)) = true := by
    unfold methodCallForm
    rw [star_allB hn]
    show (true && true && decide (as.length + 0 + 0 < 30)) = true
    simp; omega
  unfold methodCall
  rw [hf]
  unfold calleeOf methodCallPos
  simp [hp]
section
variable {R : Rc} {T : Tb} {rec : Tc → Expr → Option (Rs semAlg)} {c : Tc} {X : Cx} {E : XK}
theorem bt_nm {x : Str} (h : x ∈ btNames) : x ≠ "__name__" ∧ (x == ("__debug__" : Str)) = false := by
  revert x
  decide +kernel
theorem pe_btV (hX : XCx R T X E) (hc : TcX c X) {y : String} (hy : y ∈ btVn) (hg : glB c.sc y = true) {a : Expr} {as : List Expr} {ga : DA} {p pos : Pos} (ha : PA X (a :: as) (wAB R E ga)) (hn : (a :: as).all nst = true) : PE X (.Call (.Name y p) (a :: as) [] pos) (wE R E (semAlg.btv y ga)) := by
  simp only [List.all_cons, Bool.and_eq_true] at hn
  have h1 := star_cons (env := X.env) (es := as) hn.1
  have h2 := star_any (pos := pos) (env := X.env) hn.2
  have hg' := gl_ok hc hg
  simp only [btVn, List.mem_cons, List.not_mem_nil, or_false] at hy
  rcases hy with rfl | rfl | rfl | rfl | rfl | rfl | rfl | rfl | rfl
  · exact pe_bltD (cr_len hX.K) hg' (hX.bt _ (by decide +kernel)) bo_len ha (by decide) (by decide) h1 h2
  · exact pe_typD cr_int hg' (hX.bt _ (by decide +kernel)) bo_int ha (by decide) (by decide) h1 h2
  · exact pe_bltD cr_abs hg' (hX.bt _ (by decide +kernel)) bo_abs ha (by decide) (by decide) h1 h2
  · exact pe_bltD (cr_sum hX.calm) hg' (hX.bt _ (by decide +kernel)) bo_sum ha (by decide) (by decide) h1 h2
  · exact pe_typD cr_tuple hg' (hX.bt _ (by decide +kernel)) bo_tuple ha (by decide) (by decide) h1 h2
  · exact pe_bltD (cr_any hX.calm) hg' (hX.bt _ (by decide +kernel)) bo_any ha (by decide) (by decide) h1 h2
  · exact pe_bltD (cr_all hX.calm) hg' (hX.bt _ (by decide +kernel)) bo_all ha (by decide) (by decide) h1 h2
  · exact pe_bltD (cr_max hX.calm hX.K hX.hu) hg' (hX.bt _ (by decide +kernel)) bo_max ha (by decide) (by decide) h1 h2
  · exact pe_bltD (cr_min hX.calm hX.K hX.hu) hg' (hX.bt _ (by decide +kernel)) bo_min ha (by decide) (by decide) h1 h2
theorem pe_btL (hX : XCx R T X E) (hc : TcX c X) {y : String} (hy : y ∈ btLn) (hg : glB c.sc y = true) {a : Expr} {as : List Expr} {ga : DA} {p pos : Pos} (ha : PA X (a :: as) (wAB R E ga)) (hn : (a :: as).all nst = true) : PE X (.Call (.Name y p) (a :: as) [] pos) (wL R E (semAlg.btl y ga)) := by
  simp only [List.all_cons, Bool.and_eq_true] at hn
  have h1 := star_cons (env := X.env) (es := as) hn.1
  have h2 := star_any (pos := pos) (env := X.env) hn.2
  have hg' := gl_ok hc hg
  simp only [btLn, List.mem_cons, List.not_mem_nil, or_false] at hy
  rcases hy with rfl | rfl
  · exact pe_typL (cr_list hX.calm hX.K) hg' (hX.bt _ (by decide +kernel)) bo_list ha (by decide) (by decide) h1 h2
  · exact pe_bltL (cr_sorted hX.calm hX.K hX.hu) hg' (hX.bt _ (by decide +kernel)) bo_sorted ha (by decide) (by decide) h1 h2
theorem ty_ok (hX : XCx R T X E) (hc : TcX c X) {y : String} (hy : y ∈ tyNames) (hg : glB c.sc y = true) {p : Pos} : PE X (.Name y p) (tC (.ty y)) := by
  have hg' := gl_ok hc hg
  simp only [tyNames, List.mem_cons, List.not_mem_nil, or_false] at hy
  rcases hy with rfl | rfl | rfl | rfl | rfl | rfl
  · exact pe_bltn hg' (hX.bt _ (by decide +kernel)) bo_int rfl
  · exact pe_bltn hg' (hX.bt _ (by decide +kernel)) bo_bool rfl
  · exact pe_bltn hg' (hX.bt _ (by decide +kernel)) bo_str rfl
  · exact pe_bltn hg' (hX.bt _ (by decide +kernel)) bo_tuple rfl
  · exact pe_bltn hg' (hX.bt _ (by decide +kernel)) bo_list rfl
  · exact pe_bltn hg' (hX.bt _ (by decide +kernel)) bo_dict rfl
theorem pe_isiD (hX : XCx R T X E) (hc : TcX c X) {a : Expr} {y : String} {fa : DE} {p p2 pos : Pos} (ha : PE X a (wB R E fa)) (hn : nst a = true) (hg : glB c.sc "isinstance" = true) (hy : y ∈ tyNames) (hg2 : glB c.sc y = true) : PE X (.Call (.Name "isinstance" p) [a, .Name y p2] [] pos) (wE R E (eUn (isiM y) fa)) := by
  have h1 := star_cons (env := X.env) (es := [.Name y p2]) hn
  have h2 := star_cons (env := X.env) (e := .Name y p2) (es := []) rfl
  refine PE_imp (pe_callB (cr_isi hX.K y (E := E) (R := R)) (gl_ok hc hg) (hX.bt _ (by decide +kernel)) bo_isi (pa_cons ha (pa_cons (ty_ok hX hc hy hg2) pa_nil h2) h1) (by decide) (by decide) h1 (star_any rfl)) fun σ H Q ⟨g, t, ρ, S, w⟩ => ⟨g, t, ρ, S, (W1.bnd S.ok w).mono fun g' H' t' d w' k x r => ?_⟩
  exact ⟨g', t', x, d, w'.ok, rfl, r, k⟩
theorem pe_isWD (hX : XCx R T X E) (hc : TcX c X) {a : Expr} {ty : Str} {fa : DE} {p p2 pos : Pos} (ha : PE X a (wB R E fa)) (hn : nst a = true) (hg : glB c.sc "isinstance" = true) (hm : ty ∈ T.eqs) (hg2 : glB c.sc ty = true) (hd : (ty == ("__debug__" : Str)) = false) : PE X (.Call (.Name "isinstance" p) [a, .Name ty p2] [] pos) (wE R E (eUn (isWM ty) fa)) := by
  have h1 := star_cons (env := X.env) (es := [.Name ty p2]) hn
  have h2 := star_cons (env := X.env) (e := .Name ty p2) (es := []) rfl
  obtain ⟨C, w1, w2, w3, _⟩ := (hX.eq ty hm).ex
  refine PE_imp (pe_callB (cr_isW w3 w1 (E := E) (R := R)) (gl_ok hc hg) (hX.bt _ (by decide +kernel)) bo_isi (pa_cons ha (pa_cons (C8.pe_gc (v := .ref C) (gl_ok hc hg2) ⟨.ref C, w2, rfl⟩ hd) pa_nil h2) h1) (by decide) (by decide) h1 (star_any rfl)) fun σ H Q ⟨g, t, ρ, S, w⟩ => ⟨g, t, ρ, S, (W1.bnd S.ok w).mono fun g' H' t' d w' k x r => ?_⟩
  exact ⟨g', t', x, d, w'.ok, rfl, r, k⟩
theorem mem_look {α : Type} {x : Str} {v : α} : ∀ {l : List (Str × α)}, l.lookup x = some v → (x, v) ∈ l
  | (a, b) :: l, h => by
    rw [List.lookup_cons] at h
    cases e : x == a with
    | true =>
      rw [e] at h
      cases h
      obtain rfl := eq_of_beq e
      exact List.mem_cons_self ..
    | false => rw [e] at h; exact List.mem_cons_of_mem _ (mem_look h)
theorem rCall_ok (hr : RecOk R T rec) (hX : XCx R T X E) (hc : TcX c X) {x : Str} {as : List Expr} {r : Rs semAlg} {p pos : Pos} (h : rCall T rec c x as = some r) : Snd R X E r (.Call (.Name x p) as [] pos) := by
  obtain ⟨h1, h⟩ := gd_some h
  simp only [Bool.and_eq_true] at h1
  obtain ⟨hg, hnm⟩ := h1
  have hgl := gl_ok hc hg
  obtain ⟨nd, _, nn⟩ := nmB_ok hnm
  split at h
  · rename_i F hF
    obtain ⟨hl, h⟩ := gd_some h
    obtain ⟨a, ha, rfl⟩ := map_some h
    have hl : as.length = F.n := by simpa using hl
    cases as with
    | nil =>
      cases ha
      exact pe_fn0D hX (mem_look hF) hgl hl.symm nd
    | cons e es =>
      obtain ⟨q1, q2, q3⟩ := mapO_A (fun e d hd => rE_ok hr hX hc hd) ha
      simp only [List.all_cons, Bool.and_eq_true] at q2
      exact pe_fnD hX (mem_look hF) hgl q1 (fun t ρ ds t' eo => (q3 t ρ ds t' eo).trans hl) nd (star_cons q2.1) (star_any q2.2)
  · split at h
    · rename_i F hF
      obtain ⟨hl, h⟩ := gd_some h
      obtain ⟨a, ha, rfl⟩ := map_some h
      simp only [Bool.and_eq_true] at hl
      obtain ⟨hl, hne⟩ := hl
      have hl : as.length = F.n := by simpa using hl
      cases as with
      | nil => cases hne
      | cons e es =>
        obtain ⟨q1, q2, q3⟩ := mapO_A (fun e d hd => rE_ok hr hX hc hd) ha
        simp only [List.all_cons, Bool.and_eq_true] at q2
        exact pe_mkD hX (mem_look hF) hgl q1 (fun t ρ ds t' eo => (q3 t ρ ds t' eo).trans hl) nd (star_cons q2.1) (star_any q2.2)
    · obtain ⟨hne, h2⟩ := gd_some h
      clear h
      cases as with
      | nil => cases hne
      | cons e es =>
        split at h2
        · rename_i y hy
          obtain ⟨hy1, rfl⟩ := findS_ok hy
          obtain ⟨a, ha, rfl⟩ := map_some h2
          obtain ⟨q1, q2⟩ := mapO_B (fun e d hd => rB_ok hr hX hc hd) ha
          exact pe_btV hX hc hy1 hg q1 q2
        · split at h2
          · rename_i y hy
            obtain ⟨hy1, rfl⟩ := findS_ok hy
            obtain ⟨a, ha, rfl⟩ := map_some h2
            obtain ⟨q1, q2⟩ := mapO_B (fun e d hd => rB_ok hr hX hc hd) ha
            exact pe_btL hX hc hy1 hg q1 q2
          · split at h2
            · rename_i hx
              subst hx
              split at h2
              · rename_i a ty p2 heq
                obtain ⟨h1, h3⟩ := gd_some h2
                simp only [Bool.and_eq_true] at h1
                rw [heq]
                split at h3
                · rename_i hq
                  obtain ⟨h4, h5⟩ := gd_some h3
                  obtain ⟨f, hf, rfl⟩ := map_some h5
                  exact pe_isWD hX hc (rB_ok hr hX hc hf) h1.1 hg (by simpa using hq) h1.2 (nmB_ok h4).1
                · obtain ⟨y, f, hy, hf, rfl⟩ := o2_some h3
                  obtain ⟨hy1, rfl⟩ := findS_ok hy
                  exact pe_isiD hX hc (rB_ok hr hX hc hf) h1.1 hg hy1 h1.2
              · cases h2
            · cases h2
theorem rCall2_ok (hr : RecOk R T rec) (hX : XCx R T X E) (hc : TcX c X) {x : Str} {as : List Expr} {r : Rs semAlg} {p pos : Pos} (h : rCall2 rec c x as = some r) : Snd R X E r (.Call (.Name x p) as [] pos) := by
  unfold rCall2 at h
  split at h
  · rename_i y p2 a q
    obtain ⟨h1, h2⟩ := gd_some h
    clear h
    simp only [Bool.and_eq_true] at h1
    obtain ⟨⟨hx, hy⟩, hn⟩ := h1
    have gx := gl_ok hc hx
    have gy := gl_ok hc hy
    have st := star_cons (env := X.env) (es := []) hn
    split at h2
    · rename_i e; subst e
      split at h2
      · rename_i e; subst e
        obtain ⟨f, hf, rfl⟩ := map_some h2
        exact pe_tupRg1D hX.calm gx (hX.bt _ (by decide +kernel)) gy (hX.bt _ (by decide +kernel)) (rB_ok hr hX hc hf) st
      · cases h2
    · split at h2
      · rename_i e; subst e
        split at h2
        · rename_i e; subst e
          obtain ⟨f, hf, rfl⟩ := map_some h2
          exact pe_lstRg1D hX.calm gx (hX.bt _ (by decide +kernel)) gy (hX.bt _ (by decide +kernel)) (rB_ok hr hX hc hf) st
        · cases h2
      · split at h2
        · rename_i e; subst e
          split at h2
          · rename_i e; subst e
            obtain ⟨f, hf, rfl⟩ := map_some h2
            exact pe_sortSetD hX.calm gx (hX.bt _ (by decide +kernel)) gy (hX.bt _ (by decide +kernel)) (rB_ok hr hX hc hf) st
          · cases h2
        · split at h2
          · rename_i e; subst e
            split at h2
            · rename_i e; subst e
              obtain ⟨f, hf, rfl⟩ := map_some h2
              exact pe_lenSetD hX.K hX.hu hX.calm gx (hX.bt _ (by decide +kernel)) gy (hX.bt _ (by decide +kernel)) (rB_ok hr hX hc hf) st
            · cases h2
          · cases h2
  · obtain ⟨h1, h2⟩ := gd_some h
    clear h
    simp only [Bool.and_eq_true] at h1
    split at h2
    · rename_i e; subst e
      obtain ⟨f, hf, rfl⟩ := map_some h2
      exact pe_dictD hX.K hX.calm (gl_ok hc h1.1) (hX.bt _ (by decide +kernel)) (rB_ok hr hX hc hf) (star_cons h1.2) (star_any rfl)
    · cases h2
  · cases h
theorem rLenKey_ok (hr : RecOk R T rec) (hX : XCx R T X E) (hc : TcX c X) {x : Str} {a : Expr} {kws : List Keyword} {r : Rs semAlg} {p pos : Pos} (h : rLenKey T rec c x a kws = some r) : Snd R X E r (.Call (.Name x p) [a] kws pos) := by
  unfold rLenKey at h
  split at h
  · obtain ⟨h1, h2⟩ := gd_some h
    clear h
    simp only [Bool.and_eq_true, decide_eq_true_eq] at h1
    obtain ⟨⟨⟨⟨⟨⟨⟨⟨hl, hg⟩, hn⟩, rfl⟩, rfl⟩, rfl⟩, rfl⟩, rfl⟩, hk⟩ := h1
    unfold keyScB at hk
    simp only [Bool.and_eq_true, Bool.or_eq_true, decide_eq_true_eq, Bool.not_eq_true', decide_eq_false_iff_not, List.all_eq_true] at hk
    obtain ⟨⟨⟨⟨⟨⟨⟨⟨⟨k1, k2⟩, k3⟩, k4⟩, k5⟩, k6⟩, k7⟩, k8⟩, k9⟩, k10⟩ := hk
    obtain ⟨c0, P0, TB, hcode, hmT, huT⟩ := hX.lm hl
    obtain ⟨j0, hroom, _⟩ := hX.tab
    obtain ⟨d1, d2, _⟩ := nmB_ok k9
    obtain ⟨d3, _, _⟩ := nmB_ok k10
    have hd : X.A.depth < recursionLimit := by have := hroom.dp; omega
    split at h2
    · rename_i j f hj hf
      have he := rE_ok hr hX hc hf
      have hN := ixOf_some hj
      rw [← hc.N] at hN
      have st := star_cons (env := X.env) (es := []) hn
      have hfree := fun y hy (e : y.2 = NameKind.free) => ((k4 y hy).2.elim (fun z => z.elim (fun z => absurd e z) Or.inl) Or.inr)
      split at h2
      · rename_i e; subst e
        cases h2
        exact pe_sortLam (LamKeyP.key (lamKey_len (X := X) (R := R) (j := j) hd (hX.bt _ (by decide +kernel)) ⟨k1, k2, k3, fun y hy => (k4 y hy).1, k5, k6, k7, d1, d2, d3⟩ hN (by rw [hc.sc]; exact k8) fun v pm ctv c' => bind1)) hX.calm hX.K hX.hu TB hcode hmT huT defs1 (by rw [hc.sc]; exact hfree) (gl_ok hc hg) (hX.bt _ (by decide +kernel)) he st (star_any (by simp only [List.all_cons, hn]; rfl)) (by rw [st]; rfl)
      · split at h2
        · rename_i e; subst e
          cases h2
          exact pe_minLam (lamKey_len (X := X) (R := R) (j := j) hd (hX.bt _ (by decide +kernel)) ⟨k1, k2, k3, fun y hy => (k4 y hy).1, k5, k6, k7, d1, d2, d3⟩ hN (by rw [hc.sc]; exact k8) fun v pm ctv c' => bind1) hX.calm hX.K hX.hu TB hcode hmT huT defs1 (by rw [hc.sc]; exact hfree) (gl_ok hc hg) (hX.bt _ (by decide +kernel)) he st (star_any (by simp only [List.all_cons, hn]; rfl)) (by rw [st]; rfl)
        · cases h2
    · cases h2
  · cases h
theorem rRowKey_ok (hr : RecOk R T rec) (hX : XCx R T X E) (hc : TcX c X) {x : Str} {a : Expr} {kws : List Keyword} {r : Rs semAlg} {p pos : Pos} (h : rRowKey T rec c x a kws = some r) : Snd R X E r (.Call (.Name x p) [a] kws pos) := by
  unfold rRowKey at h
  split at h
  · obtain ⟨h1, h2⟩ := gd_some h
    clear h
    simp only [Bool.and_eq_true, decide_eq_true_eq] at h1
    obtain ⟨⟨⟨⟨⟨⟨⟨⟨⟨hl, hg⟩, hn⟩, rfl⟩, rfl⟩, rfl⟩, rfl⟩, rfl⟩, hk⟩, rfl⟩ := h1
    unfold rowScB at hk
    simp only [Bool.and_eq_true, decide_eq_true_eq, Bool.not_eq_true', decide_eq_false_iff_not, List.all_eq_true] at hk
    obtain ⟨⟨⟨⟨⟨⟨k1, k2⟩, k3⟩, k4⟩, k5⟩, k6⟩, k7⟩ := hk
    obtain ⟨c0, P0, TB, hcode, hmT, huT⟩ := hX.lm hl
    obtain ⟨j0, hroom, _⟩ := hX.tab
    obtain ⟨d3, _, _⟩ := nmB_ok k7
    have hd : X.A.depth < recursionLimit := by have := hroom.dp; omega
    obtain ⟨f, hf, rfl⟩ := map_some h2
    have he := rE_ok hr hX hc hf
    have st := star_cons (env := X.env) (es := []) hn
    exact pe_sortLam (lamKey_row (X := X) (R := R) hX.K hd (hX.bt _ (by decide +kernel)) ⟨k1, k2, k3, fun y hy => (k4 y hy).1, k5, k6, d3⟩ fun v pm ctv c' => bindRow) hX.calm hX.K hX.hu TB hcode hmT huT defs1 (fun y hy e => absurd e (k4 y hy).2) (gl_ok hc hg) (hX.bt _ (by decide +kernel)) he st (star_any (by simp only [List.all_cons, hn]; rfl)) (by rw [st]; rfl)
  · cases h
theorem rMeth_ok (hr : RecOk R T rec) (hX : XCx R T X E) (hc : TcX c X) {o : Expr} {m : Str} {as : List Expr} {r : Rs semAlg} {ap pos : Pos} (hb : baseB o = true) (hp : (ap.endLine == pos.line) = true) (hl29 : as.length < 29) (h : rMeth T rec c o m as = some r) : Snd R X E r (.Call (.Attribute o m ap) as [] pos) := by
  unfold rMeth at h
  split at h
  · rename_i cn F hF
    obtain ⟨hl, h⟩ := gd_some h
    obtain ⟨x, a, hx, ha, rfl⟩ := o2_some h
    have hl : as.length + 1 = F.n := by simpa using hl
    obtain ⟨q1, q2, q3⟩ := mapO_A (fun e d hd => rE_ok hr hX hc hd) ha
    cases as with
    | nil =>
      cases ha
      exact pe_mt0D hX (mem_look hF) (rE_ok hr hX hc hx) (by simpa using hl.symm) (mt_form hb rfl hl29 hp)
    | cons e es =>
      simp only [List.all_cons, Bool.and_eq_true] at q2
      exact pe_mtD hX (mem_look hF) (rE_ok hr hX hc hx) q1 (fun t ρ ds t' eo => by rw [q3 t ρ ds t' eo]; exact hl) (star_cons q2.1) (star_any q2.2) (mt_form hb (by simp only [List.all_cons, q2.1, q2.2, Bool.and_self]) hl29 hp)
  · split at h
    · rename_i a
      obtain ⟨h1, h2⟩ := gd_some h
      clear h
      simp only [Bool.and_eq_true, decide_eq_true_eq] at h1
      obtain ⟨rfl, hn⟩ := h1
      obtain ⟨x, y, hx, hy, rfl⟩ := o2_some h2
      have st := star_cons (env := X.env) (es := []) hn
      exact pe_idxD hX.K hX.hu (rB_ok hr hX hc hx) (rB_ok hr hX hc hy) (attr_base hb) (by rw [st]; rfl) hp st
    · cases h
theorem rStep_ok (hr : RecOk R T rec) (n : Nat) : RecOk R T (rStep T rec n) := by
  intro c X E hX hc e r h
  unfold rStep at h
  split at h
  · obtain ⟨i, h1, rfl⟩ := map_some h
    obtain ⟨a1, a2, a3, a4⟩ := trN_ok hc h1
    exact pe_getV a1 a2 a3 a4
  · obtain ⟨d, h1, rfl⟩ := map_some h
    rename_i k j p
    cases k <;> simp [rCst] at h1 <;> subst h1
    · exact pe_cN
    · exact pe_cB
    · exact pe_cI
    · exact pe_cS
  · rename_i a op b p
    cases q : repB a op with
    | true =>
      rw [q] at h
      obtain ⟨f, h1, rfl⟩ := map_some h
      obtain ⟨x, y, hx, hy, rfl⟩ := o2_some h1
      have eo : op = .Mult := by
        unfold repB at q
        split at q
        · rfl
        · cases q
      subst eo
      exact pe_repD (rB_ok hr hX hc hx) (rB_ok hr hX hc hy)
    | false =>
      rw [q] at h
      obtain ⟨f, h1, rfl⟩ := map_some h
      obtain ⟨x, y, hx, hy, rfl⟩ := o2_some h1
      exact pe_binD hX.K (rB_ok hr hX hc hx) (rB_ok hr hX hc hy)
  · obtain ⟨x, hx, rfl⟩ := map_some h
    exact pe_negD (rB_ok hr hX hc hx)
  · obtain ⟨x, hx, rfl⟩ := map_some h
    exact pe_notD hX.K (rB_ok hr hX hc hx)
  · obtain ⟨x, hx, rfl⟩ := map_some h
    exact rVs_ok (fun e d hd => rE_ok hr hX hc hd) hX.K hx
  · obtain ⟨x, hx, rfl⟩ := map_some h
    exact rCmp_ok hr hX hc hx
  · split at h
    · rename_i t a b ht ha hb
      cases h
      exact pe_ifD (rT_ok hr hX hc n ht) (rE_ok hr hX hc ha) (rE_ok hr hX hc hb)
    · cases h
  · obtain ⟨h1, h⟩ := gd_some h
    obtain ⟨x, hx, rfl⟩ := map_some h
    obtain ⟨q1, q2, q3⟩ := mapO_A (fun e d hd => rE_ok hr hX hc hd) hx
    have h1 := of_decide_eq_true h1
    exact pe_tupD q1 fun ρ t xs t' e => by rw [q3 t ρ xs t' e]; have z := sizeLine_eq; omega
  · obtain ⟨h1, h⟩ := gd_some h
    obtain ⟨x, hx, rfl⟩ := map_some h
    obtain ⟨q1, q2, q3⟩ := mapO_A (fun e d hd => rE_ok hr hX hc hd) hx
    have h1 := of_decide_eq_true h1
    exact pe_lstD q1 fun ρ t xs t' e => by rw [q3 t ρ xs t' e]; have z := sizeLine_eq; omega
  · cases h
    exact pe_dict0
  · obtain ⟨x, hx, rfl⟩ := map_some h
    exact (rComp_ok hr hX hc hx).pe hX
  · obtain ⟨x, hx, rfl⟩ := map_some h
    exact rDc_ok hr hX hc hx
  · obtain ⟨x, hx, rfl⟩ := map_some h
    exact pe_revD hX.K (rB_ok hr hX hc hx)
  · split at h
    · rename_i a l u ha hl hu
      cases h
      exact pe_sliceD hX.K (rB_ok hr hX hc ha) (rOpt_ok hr hX hc hl) (rOpt_ok hr hX hc hu)
    · cases h
  · obtain ⟨h1, h⟩ := gd_some h
    obtain ⟨f, h2, rfl⟩ := map_some h
    obtain ⟨x, y, hx, hy, rfl⟩ := o2_some h2
    exact pe_ixD hX.K hX.hu (rB_ok hr hX hc hx) (rB_ok hr hX hc hy) (plain_ix h1)
  · obtain ⟨h1, h⟩ := gd_some h
    obtain ⟨x, hx, rfl⟩ := map_some h
    simp only [Bool.and_eq_true] at h1
    exact pe_fldD hX.K (rB_ok hr hX hc hx) (hX.fl _ (by simpa using h1.2)) (attr_base h1.1)
  · unfold orE at h
    split at h
    · rename_i r' h2
      cases h
      exact rCall2_ok hr hX hc h2
    · exact rCall_ok hr hX hc h
  · unfold orE at h
    split at h
    · rename_i r' h2
      cases h
      exact rLenKey_ok hr hX hc h2
    · exact rRowKey_ok hr hX hc h
  · obtain ⟨h1, h⟩ := gd_some h
    simp only [Bool.and_eq_true, decide_eq_true_eq] at h1
    exact rMeth_ok hr hX hc h1.1.1 h1.1.2 h1.2 h
  · cases h
theorem trR_ok : ∀ n, RecOk R T (trR T n)
  | 0 => fun c X E hX hc e r h => by cases h
  | n + 1 => rStep_ok (trR_ok n) n
end
end Kw
namespace Kw
open PySem PySem.Spec PyProof.Rows L2
section
variable {X : Cx} {R : Rc} {L : List Nat} {E : XK} {b : Bs R L} {g : Gh} {H : Hp} {t : Tp} {ρ : Env} {σ : L2.St} {Dn : Ends}
/-! self.f = e -/
theorem putFD_of {f : Str} {v : V} {d : D} (rv : Rp R g v d) : ∀ {fs : List (Str × V)} {ds : List D}, RpAll R g (fs.map (·.2)) ds → ∃ ds', RpAll R g ((L2.putF f v fs).map (·.2)) ds' ∧ putFD f d ((fs.map fun p => PyData.str p.1).zip ds) = ((L2.putF f v fs).map fun p => PyData.str p.1).zip ds'
  | [], ds, r => by cases r; exact ⟨[d], .cons rv .nil, rfl⟩
  | (k, x) :: fs, _, r => by
    cases r with
    | cons r1 r2 =>
      rename_i d0 ds0
      by_cases e : k = f
      · subst e
        refine ⟨d :: ds0, ?_, ?_⟩
        · simp only [L2.putF, if_true, List.map_cons]; exact .cons rv r2
        · simp [L2.putF, putFD, PyData.eqv]
      · obtain ⟨ds', q1, q2⟩ := putFD_of rv r2
        have hb : (k == f) = false := beq_eq_false_iff_ne.mpr e
        refine ⟨d0 :: ds', ?_, ?_⟩
        · simp only [L2.putF, if_neg e, List.map_cons]; exact .cons r1 q1
        · simp [L2.putF, putFD, PyData.eqv, e, hb, q2]
theorem ps_fldD {i : Nat} {x f : Str} {e : Expr} {fe : DE} {p1 p2 pos : Pos} (hK : X.K = R.K) (hi : X.N[i]? = some x) (hx : Vis X.env.scope x) (hd : (x == ("__debug__" : Str)) = false) (hcd : (x == ("__classdict__" : Str)) = false) (he : PE X e (wE R E fe)) (hf : FldOk R f)
    (hs : swapsWith e (some (.Attribute (.Name x p1) f p2)) pos.line X.env = pure false) : PS X (.Assign [.Attribute (.Name x p1) f p2] e pos) (wS R L E (sFldP i f fe)) :=
  PS_imp (ps_fld (pe_var hi hx hd hcd) he hs) fun Dn σ H ⟨b, g, t, ρ, S, k⟩ => by
    cases e : ρ[i]? with
    | none => simp only [sFldP, e] at k; exact (k : False).elim
    | some s =>
      cases s <;> (simp only [sFldP, e] at k) <;> try exact (k : False).elim
      rename_i d0
      cases d0 <;> try exact (k : False).elim
      rename_i l
      cases et : tagD l <;> (simp only [et] at k) <;> try exact (k : False).elim
      rename_i cn fs
      obtain ⟨hl, k⟩ := EO_ite k
      obtain ⟨o, ho⟩ := S.here e (by intro z; cases z)
      refine ⟨g, t, ρ, S.rel, (EO.bnd S k).mono fun g1 H1 t1 v w1 k1 y ry => ⟨o, ho, ?_⟩⟩
      have S1 := S.grow w1
      obtain rfl := tag_obj et
      obtain ⟨as, sl, hn⟩ := S1.sl
      obtain ⟨v1, bs, e1, hs, _⟩ := sl.get e
      rw [ho] at e1; cases e1
      cases hs with
      | own h1 =>
        obtain ⟨p', C', dx, l', ds', ea, hp, hc, rr, rfl⟩ := Rv.obj S1.ok (.inr ⟨_, rfl, h1⟩)
        cases ea
        obtain ⟨ds2, q1, q2⟩ := putFD_of (f := f) ry rr
        obtain ⟨c1, c2⟩ := hf cn C' hc
        rw [q2] at k1
        obtain ⟨p2, e1', _, S'⟩ := S1.putO (o := .ins C' dx (L2.putF f y l')) (BodyOk.ins hc q1) e
        rw [ho] at e1'; cases e1'
        have hlen := len_of_map rr
        exact ⟨_, C', dx, l', rfl, hp, by rw [hK]; exact c1, by rw [hK]; exact c2, by simp only [List.length_zip, List.length_map] at hl; omega, k1 _ _ _ S'⟩
/-! rows[i].append(v) -/
theorem NestAt.put {p : Addr} {qs : List Addr} {dss : List (List D)} {j : Nat} {ds es : List D} {q : Addr} {ys : List V} (h : NestAt R g H p qs dss) (hq : qs[j]? = some q) (r : RpAll R g ys es) : NestAt R g (upd H q (.lst ys)) p qs (dss.set j es) := by
  obtain ⟨nf, nt, hp, hl, nd, np, ha⟩ := h
  have hqm : q ∈ qs := List.mem_of_getElem? hq
  have hjl : j < dss.length := by rw [← hl]; exact (List.getElem?_eq_some_iff.mp hq).1
  refine ⟨nf, nt, by rw [upd_ne (fun e => np (by rw [e]; exact hqm))]; exact hp, by rw [List.length_set]; exact hl, nd, np, fun i q' ds' e1 e2 => ?_⟩
  by_cases hij : j = i
  · subst hij
    rw [hq] at e1; cases e1
    rw [List.getElem?_set_self hjl] at e2; cases e2
    have o := ha j q _ hq (List.getElem?_eq_getElem hjl)
    exact ⟨o.nf, o.nt, _, upd_same, .lst r⟩
  · rw [List.getElem?_set_ne hij] at e2
    refine (ha i q' ds' e1 e2).updH fun e => ?_
    subst e
    have hi2 := (List.getElem?_eq_some_iff.mp e1)
    have hj2 := (List.getElem?_eq_some_iff.mp hq)
    have pw := List.pairwise_iff_getElem.mp nd
    rcases Nat.lt_or_gt_of_ne hij with z | z
    · exact pw j i hj2.1 hi2.1 z (hj2.2.trans hi2.2.symm)
    · exact pw i j hi2.1 hj2.1 z (hi2.2.trans hj2.2.symm)
theorem SlotsOk.nestAt : ∀ {i : Nat} {ρ : Env} {σ : L2.St} {as : List Addr} {dss : List (List D)}, SlotsOk R g H ρ σ as → ρ[i]? = some (.nest dss) →
    ∃ p qs, σ[i]? = some (some (.ref p)) ∧ NestAt R g H p qs dss ∧ (∀ q ∈ qs, q ∈ as) ∧ ∀ j q ys es, qs[j]? = some q → RpAll R g ys es → SlotsOk R g (upd H q (.lst ys)) (ρ.set i (.nest (dss.set j es))) σ as
  | _, _, _, _, _, .nil, h => by simp at h
  | 0, _, _, _, _, .cons h r ds, e => by
    simp at e
    subst e
    cases h with
    | nest h =>
      refine ⟨_, _, rfl, h, fun q hq => List.mem_append_left _ (List.mem_cons_of_mem _ hq), fun j q ys es hq rr => .cons (.nest (h.put (ds := es) hq rr)) (r.updH (ds q (List.mem_cons_of_mem _ (List.mem_of_getElem? hq)))) ds⟩
  | i + 1, _, _, _, _, .cons h r ds, e => by
    obtain ⟨p, qs, e1, e2, e3, e4⟩ := SlotsOk.nestAt (i := i) r (by simpa using e)
    refine ⟨p, qs, by simpa using e1, e2, fun q hq => List.mem_append_right _ (e3 q hq), fun j q ys es hq rr => .cons (h.updH fun z => ds _ z (e3 q (List.mem_of_getElem? hq))) (e4 j q ys es hq rr) ds⟩
theorem SS.nestAt {i : Nat} {dss : List (List D)} (S : SS R b g t ρ σ H) (e : ρ[i]? = some (.nest dss)) : ∃ p qs, σ[i]? = some (some (.ref p)) ∧ NestAt R g H p qs dss ∧ ∀ j q ys es, qs[j]? = some q → RpAll R g ys es → SS R b g t (ρ.set i (.nest (dss.set j es))) σ (upd H q (.lst ys)) := by
  obtain ⟨as, sl, hn⟩ := S.sl
  obtain ⟨p, qs, e1, e2, e3, e4⟩ := sl.nestAt e
  refine ⟨p, qs, e1, e2, fun j q ys es hq rr => ⟨?_, S.le, ⟨as, e4 j q ys es hq rr, hn⟩, S.fx⟩⟩
  have hqa := e3 q (List.mem_of_getElem? hq)
  have h0 := hn q hqa
  obtain ⟨n1, n2⟩ := sl.nt q hqa
  have ok := S.ok
  have w := S.gr
  refine ⟨w.le, w.tp, fun c u e n nb => (by rw [upd_ne (fun z => by rw [z] at e; obtain ⟨ps, q⟩ := h0 u e; exact nb ps q)]; exact w.kp c u e n nb), w.new, ⟨fun c u e => ?_, fun a ha => ?_, ok.notape, tabs_upd (fun u e => ?_) ok.tb, ok.ft⟩⟩
  · have : c ≠ q := fun z => by rw [z, n2] at e; cases e
    rw [upd_ne this]; exact ok.sub c u e
  · obtain ⟨ds, vs, q1, q2, q3, q4⟩ := ok.tape a ha
    have : a ≠ q := fun z => by rw [z] at ha; exact n1 ha
    exact ⟨ds, vs, q1, q2, by rw [upd_ne this]; exact q3, q4⟩
  · obtain ⟨i, hi⟩ := List.mem_iff_getElem?.mp (List.mem_of_getElem? hq)
    have hi2 := (List.getElem?_eq_some_iff.mp hi).1
    obtain ⟨nf, nt, hp, hl, nd, np, hqq⟩ := e2
    obtain ⟨o, ho, hb⟩ := (hqq i q _ hi (List.getElem?_eq_getElem (by rw [← hl]; exact hi2))).body
    rw [ho] at e; cases e
    exact hb.usr
theorem refs_inj : ∀ {as bs : List Addr}, as.map V.ref = bs.map V.ref → as = bs
  | [], [], _ => rfl
  | [], _ :: _, h => by simp at h
  | _ :: _, [], h => by simp at h
  | a :: as, b :: bs, h => by
    simp only [List.map_cons, List.cons.injEq, V.ref.injEq] at h
    rw [h.1, refs_inj h.2]
theorem ps_napD {i : Nat} {x : Str} {ei e : Expr} {fi fe : DE} {p1 p2 ap cp pos : Pos} (hK : X.K = R.K) (hi : X.N[i]? = some x) (hx : Vis X.env.scope x) (hd : (x == ("__debug__" : Str)) = false) (hcd : (x == ("__classdict__" : Str)) = false) (hei : PE X ei (wB R E fi)) (hpi : PlainIx ei) (he : PE X e (wE R E fe))
    (hbase : attributeBase (.Subscript (.Name x p1) ei p2) "append" X.env (eval (.Subscript (.Name x p1) ei p2) X.env) = eval (.Subscript (.Name x p1) ei p2) X.env)
    (hfew : ((backTo cp (starEach [e] X.env)).all (fun x => !x.1) && (backToKw cp (keywordEach [] X.env)).all (fun x => x.1.isSome) && decide ([e].length + ([] : List Keyword).length + (if ([] : List Keyword).isEmpty then 0 else 1) < 30)) = true)
    (hline : (ap.endLine == cp.line) = true) (hs : starEach [e] X.env = (false, eval e X.env) :: starEach [] X.env) (hpl : (backTo cp (starEach [] X.env)).any (·.1) = false)
    (hsw : swapsWith (.Call (.Attribute (.Subscript (.Name x p1) ei p2) "append" ap) [e] [] cp) none pos.line X.env = pure false) :
    PS X (.Expr (.Call (.Attribute (.Subscript (.Name x p1) ei p2) "append" ap) [e] [] cp) pos) (wS R L E (sNap i fi fe)) :=
  PS_imp (ps_expr (pe_bm PySem.F.plainAttrs_list PySem.F.slot_list_append PySem.F.type_list_append mt_append (pe_ix ix_list (pe_var hi hx hd hcd) hei hpi) (pa_consD he pa_nilD hs) hbase hfew hline hs hpl) hsw) fun Dn σ H ⟨b, g, t, ρ, S, k⟩ => by
    cases e : ρ[i]? with
    | none => simp only [sNap, e] at k; exact (k : False).elim
    | some s =>
      cases s <;> (simp only [sNap, e] at k) <;> try exact (k : False).elim
      rename_i dss
      obtain ⟨p, qs, e1, _⟩ := S.nestAt e
      refine ⟨_, e1, g, t, ρ, S.rel, (EO.bnd S k).mono fun g1 H1 t1 kk w1 k1 y ry => ?_⟩
      have S1 := S.grow w1
      cases kk <;> try exact (k1 : False).elim
      rename_i z
      cases ej : ixN dss.length z <;> (simp only [ej] at k1) <;> try exact (k1 : False).elim
      rename_i j
      cases ed : dss[j]? <;> (simp only [ed] at k1) <;> try exact (k1 : False).elim
      rename_i ds
      obtain ⟨p', qs', e2, na, _⟩ := S1.nestAt e
      rw [e1] at e2; cases e2
      obtain ⟨nf, nt, hp, hl, nd, np, ha⟩ := na
      have hj := (List.getElem?_eq_some_iff.mp ed).1
      obtain ⟨q0, hqj⟩ : ∃ q, qs'[j]? = some q := ⟨_, List.getElem?_eq_getElem (by rw [hl]; exact hj)⟩
      obtain ⟨_, _, o, ho, hb⟩ := ha j _ ds hqj ed
      refine ⟨p, qs'.map V.ref, z, .ref q0, rfl, ry.int, .of hp, ?_, .inl ⟨rfl, ?_⟩, ?_⟩
      · unfold L2.atI
        rw [List.length_map, hl, ej]
        show (qs'.map V.ref)[j]? = _
        rw [List.getElem?_map, hqj]; rfl
      · cases hb with
        | lst r => exact ⟨_, .of ho⟩
      refine ⟨g1, t1, ρ, S1.rel, W1.bnd1 (EO.bnd S1 k1) fun g2 H2 t2 v w2 k2 ys rys => ?_⟩
      have S2 := S1.grow w2
      obtain ⟨hlen, k2⟩ := EO_ite k2
      obtain ⟨p2, qs2, e3, na2, put⟩ := S2.nestAt e
      rw [e1] at e3; cases e3
      have hp2 := w2.keep _ _ hp nt trivial
      obtain ⟨nf2, nt2, hp3, hl2, nd2, np2, ha2⟩ := na2
      have eq : qs' = qs2 := by
        rw [hp2] at hp3
        have : qs'.map V.ref = qs2.map V.ref := by injection hp3 with h; injection h
        exact refs_inj this
      subst eq
      obtain ⟨_, _, o2, ho2, hb2⟩ := ha2 j _ ds hqj ed
      cases hb2 with
      | lst r2 =>
        cases rys with
        | cons ry2 rn =>
          cases rn
          have zl := sizeLine_eq
          have hl3 := r2.length
          exact ⟨_, _, _, rfl, rfl, ho2, by omega, k2 _ _ _ (put j _ _ _ hqj (r2.append (.cons ry2 .nil)))⟩
/-! i = [[] for .. in items] -/
theorem nn_imp {vs : List Nat} {j : Nat} {items : DA} {Q : VK} (hix : j ∈ vs) (h : wSl R E (slN items) σ H Q) : tLc (wIB R E items) (wG R (.nm j)) tYes (tLst tNil) vs σ H Q := by
  obtain ⟨g, t, ρ, S, w⟩ := h
  refine ⟨g, t, ρ, S, (W1.bnd S.ok w).mono fun g1 H1 t1 ds w1 k J hJ D0 hD => ?_⟩
  have S1 := S.grow w1
  have zl := hJ.len
  refine ⟨fun i m H => m + i = ds.length ∧ ∃ g2 qs, Grow R g1 H1 g2 H t1 ∧ NestAt R g2 H D0 qs (List.replicate i []) ∧ ∀ q ∈ qs, Fr H1 q, ⟨ds.length, rfl, g1, [], Grow.laid w1.ok hD, ⟨w1.ok.freeF hD, fun e => (by obtain ⟨_, vs, e1⟩ := w1.ok.tpH e; rw [hD] at e1; cases e1), upd_same, rfl, List.nodup_nil, by simp, fun i q ds e1 => by simp at e1⟩, by simp⟩, fun i m H ⟨hm, g2, qs, w2, na, hq⟩ => ?_⟩
  cases e : ds[i]? with
  | none =>
    have hi : i = ds.length := by have := List.getElem?_eq_none_iff.mp e; omega
    subst hi
    refine .inl ⟨hJ.stop g2 t1 H w2, k g2 H w2 (.ref D0) (D0 :: qs) (.nest na) fun a ha => ?_⟩
    rcases List.mem_cons.mp ha with rfl | ha
    · exact w1.fr0 S.ok (.of hD)
    · exact w1.fr0 S.ok (hq a ha)
  | some d =>
    have hlen : i < ds.length := (List.getElem?_eq_some_iff.mp e).1
    refine .inr ⟨hJ.go g2 t1 H w2 i d e, fun H' => ∃ g2 qs, Grow R g1 H1 g2 H' t1 ∧ NestAt R g2 H' D0 qs (List.replicate (i + 1) []) ∧ ∀ q ∈ qs, Fr H1 q, fun H' q => ⟨m - 1, by omega, by omega, q⟩, fun x H' hy => ?_⟩
    obtain ⟨g3, w3, rx⟩ := hJ.yld g2 t1 H w2 i d x H' e hy
    have w23 := w2.trans S1.ok w3
    have na3 := na.grow w3
    refine ⟨g3, t1, wipeE ρ vs, (wipeE ρ vs).set j (.val d), d, H', (S1.grow w23).wipe vs, w3.ok.sub, rx, rfl, fun σ' S' hw => ⟨(hw vs (by simp [Tg.idx, hix])).trans (wipe_wipe vs), ?_⟩⟩
    unfold tYes
    simp only [if_true]
    show _ ∧ _
    refine ⟨by simp [sizeLine_eq], fun q hqn => ?_⟩
    obtain ⟨nf, nt, hp, hl, nd, np, ha⟩ := na3
    have hne : D0 ≠ q := fun z => by rw [z, hqn] at hp; cases hp
    have hql : qs.length = i := by rw [hl]; simp
    refine ⟨qs.map V.ref, by rw [upd_ne hne]; exact hp, by rw [List.length_map, hql]; omega, g3, qs ++ [q], ?_, ?_, fun a ha2 => ?_⟩
    · have wl := w23.trans S1.ok (Grow.laid (o := .lst []) w3.ok hqn)
      refine ⟨wl.le, wl.tp, fun c u e n nb => (by rw [upd_ne (ne_of_none e hD)]; exact wl.kp c u e n nb), wl.new, ⟨fun c u e => ?_, fun a ha => ?_, wl.ok.notape, tabs_upd (fun u e => by rw [upd_ne hne, hp] at e; cases e; trivial) wl.ok.tb, wl.ok.ft⟩⟩
      · have : c ≠ D0 := fun z => by rw [z, nf] at e; cases e
        rw [upd_ne this]; exact wl.ok.sub c u e
      · obtain ⟨ds, vs, q1, q2, q3, q4⟩ := wl.ok.tape a ha
        have : a ≠ D0 := fun z => by rw [z] at ha; exact nt ha
        exact ⟨ds, vs, q1, q2, by rw [upd_ne this]; exact q3, q4⟩
    · have hqq : q ∉ qs := fun hm => by
        obtain ⟨i', hi'⟩ := List.mem_iff_getElem?.mp hm
        have hb := (List.getElem?_eq_some_iff.mp hi').1
        obtain ⟨_, _, o, ho, _⟩ := ha i' q _ hi' (List.getElem?_eq_getElem (by rw [← hl]; exact hb))
        rw [hqn] at ho; cases ho
      refine ⟨nf, nt, by rw [upd_same, List.map_append]; rfl, by simp [hql], List.nodup_append.mpr ⟨nd, by simp, fun a h1 b h2 => by simp at h2; subst h2; exact fun e => hqq (e ▸ h1)⟩, fun z => ?_, fun i' q' ds' e1 e2 => ?_⟩
      · rcases List.mem_append.mp z with z | z
        · exact np z
        · exact hne (by simpa using z)
      · have hq0 : OwnAt R g3 (upd (upd H' q (.lst [])) D0 (.lst (qs.map V.ref ++ [.ref q]))) q (.list []) := by
          refine ⟨w3.ok.freeF hqn, fun e => ?_, _, by rw [upd_ne (Ne.symm hne), upd_same], .lst .nil⟩
          obtain ⟨_, vs, e1⟩ := w3.ok.tpH e; rw [hqn] at e1; cases e1
        have hds : ds' = [] := by
          rw [List.getElem?_replicate] at e2
          split at e2
          · cases e2; rfl
          · cases e2
        subst hds
        by_cases hi' : i' < qs.length
        · rw [List.getElem?_append_left hi'] at e1
          have o := ha i' q' [] e1 (by rw [List.getElem?_replicate, if_pos (by omega)])
          have hm := List.mem_of_getElem? e1
          have n1 : q' ≠ q := fun e => hqq (by rw [← e]; exact hm)
          have n2 : q' ≠ D0 := fun e => np (by rw [← e]; exact hm)
          exact (o.updH n1).updH n2
        · rw [List.getElem?_append_right (by omega)] at e1
          have : q' = q := by
            cases hk : i' - qs.length with
            | zero => rw [hk] at e1; simpa using e1.symm
            | succ _ => rw [hk] at e1; simp at e1
          subst this
          exact hq0
    · rcases List.mem_append.mp ha2 with ha2 | ha2
      · exact hq a ha2
      · have : a = q := by simpa using ha2
        subst this
        exact w23.fr0 S1.ok (.of hqn)
end
end Kw
set_option maxHeartbeats 2000000
namespace Kx
open PySem PySem.W PySem.Calls PyProof.Rows PySem.HandSPX

/-! ### the texts of the errors' __init__ -/
def iA (p1 p2 : Pos) : Arguments := { posonlyargs := [], args := [{ arg := "self", annotation := none, pos := p1 }, { arg := "place", annotation := none, pos := p2 }], vararg := none, kwonlyargs := [], kw_defaults := [], kwarg := none, defaults := [] }
def iS : Scope := { kind := .function, names := [(PySem.Str.ofString "self", .local), (PySem.Str.ofString "place", .local), (PySem.Str.ofString "__class__", .free), (PySem.Str.ofString "super", .globalImplicit)], isGenerator := false, isCoroutine := false, more := [] }
def stS (p0 p1 p2 p3 p4 p5 : Pos) : Stmt := .Expr (.Call (.Attribute (.Call (.Name "super" p0) [] [] p1) "__init__" p2) [.Name "place" p3] [] p4) p5
def stP (p0 p1 p2 p3 : Pos) : Stmt := .Assign [.Attribute (.Name "self" p0) "place" p1] (.Name "place" p2) p3
def stN (nm : Str) (p0 p1 p2 p3 : Pos) : Stmt := .Assign [.Attribute (.Name "self" p0) "name" p1] (.Constant (.str nm) 0 p2) p3
abbrev fnD (qual : Str) (params : Arguments) (body : List Stmt) (kV doc pm : Value) (an : Option Addr) (cda : Addr) (ct : Value) (cc : Addr) : FuncData := ksFn "__init__" qual params body iS .none kV doc pm an (.ref cda) ct cc
/-- an own __init__ at f, closing over its class D -/
structure IFn (prog : Program) (K : Frag) (f D : Addr) (qual : Str) (body : List Stmt) : Prop where
  ex : ∃ (p1 p2 : Pos) (cc cda : Addr) (oc kV doc pm ct ccl cl : Value) (od an cdd cld : Option Addr) (osl ccs csl : Array (Option Value)) (vs : Array Value) (file : Str) (tf : Tok) (cdD : ClassData),
    K.lookup f = some ⟨oc, od, .func (fnD qual (iA p1 p2) body kV doc pm an cda ct cc), osl⟩ ∧ codeIn K (.ref cda) qual = true ∧ K.lookup cda = some ⟨ccl, cdd, .fields vs, ccs⟩ ∧ vs[2]? = some (.str file tf) ∧ ((prog.main.file : Str) == file) = true ∧
      K.lookup cc = some ⟨cl, cld, .cell (some (.ref D)), csl⟩ ∧ clsIn K D = some cdD
section
variable {prog : Program} {w : World} {A : Around} {E : Value → Shared → Prop} {R : Result → Shared → Prop} {s : Shared} {K : Frag} {mg : Str → Option Value} {h0 : Heap} {x C D : Addr} {ox : Obj}
/-- super() in an own __init__ -/
theorem sup_node {body : List Stmt} {qual : Str} {p0 p1 : Pos} {whole : Sem Value} {f cc cda L : Addr} {m : Str → Option Value} {Q : Value → Shared → Prop} {pa pb : Pos} {kV doc pm ct oc ccl cl : Value} {od an cdd cld : Option Addr} {osl ccs csl : Array (Option Value)} {vs : Array Value} {file : Str} {tf : Tok} {cdD : ClassData}
    (G : L2.Mod K mg h0) (k0 : ∀ b o, h0.get? b = some o → s.heap.get? b = some o) (hf : K.lookup f = some ⟨oc, od, .func (fnD qual (iA pa pb) body kV doc pm an cda ct cc), osl⟩)
    (hcode : K.lookup cda = some ⟨ccl, cdd, .fields vs, ccs⟩) (hvs : vs[2]? = some (.str file tf)) (hfile : ((prog.main.file : Str) == file) = true) (hcell : K.lookup cc = some ⟨cl, cld, .cell (some (.ref D)), csl⟩) (hD : clsIn K D = some cdD)
    (hn : s.heap.Ns L m) (hv : m "self" = some (.ref x)) (hx : s.heap.get? x = some ox) (hxc : ox.cls = .ref C) (hnc : ∀ c, ox.data ≠ .cls c) (hsub : mroIn K C (.ref D) = some true) (hmg : mg "super" = none) (htop : (prog.main.scope.names.lookup ("super" : Str)).isSome = false)
    (h : ∀ so h', h'.get? so = some (ks_superObj D x C) → (∀ b o, s.heap.get? b = some o → h'.get? b = some o) → Q (.ref so) { s with heap := h' }) :
    _root_.PySem.wpAt (model prog w) A (.func body (ksEnv qual iS L f (.ref cda) cc)) (attributeBase (.Call (.Name "super" p0) [] [] p1) "__init__" (ksEnv qual iS L f (.ref cda) cc) whole) Q E s := by
  have X : K.In s.heap := G.kin.keeps k0
  obtain ⟨hh, g, d, t, os⟩ := s
  obtain ⟨mb, hb1, hb2⟩ := G.blt
  obtain ⟨oD, hD1, hD2⟩ : ∃ oD, hh.get? D = some oD ∧ oD.data = .cls cdD := by
    unfold clsIn at hD
    split at hD
    · rename_i ho
      cases hD
      exact ⟨_, X _ _ ho, rfl⟩
    · cases hD
  refine ks_wpAt_super_base (env := ksEnv qual iS L f (.ref cda) cc) rfl rfl (by decide) rfl (X _ _ hf) rfl rfl rfl (X _ _ hcode) rfl hvs hfile htop ?_
  refine ks_loadName_global rfl rfl (loadGlobal_builtin (env := ksEnv qual iS L f (.ref cda) cc) (G.glob.keeps k0) hmg (hb1.keeps k0) ((hb2 _ (by decide)).trans (show bootBuiltins "super" = some (.type "super") by kernel_rfl)) ⟨rfl, ?_⟩)
  refine wpAny_loadName_free rfl rfl rfl ⟨_, X _ _ hcell, rfl⟩ ?_
  refine wpAny_loadName_local rfl rfl hn hv ?_
  refine ks_wpAny_isType_cls hD1 hD2 ⟨rfl, ?_⟩
  exact ks_wpAny_call_super hD1 hD2 hx hxc hnc (looks_mroIn X hsub) fun h' e k => h _ _ e k
end
end Kx
set_option maxHeartbeats 2000000
namespace Kx
open PySem PySem.W PySem.Calls PyProof.Rows PySem.HandSPX

section
variable {prog : Program} {w : World} {A : Around} {E : Value → Shared → Prop} {h : Heap} {g : Array GenState} {d : Drawn} {t : Nat} {os : OsState}
variable {nm q : Str} {C N : Addr} {bs bm : List Value} {hdct : Bool} {sn : List Str} {sub : List Value} {ab : Bool} {col : Option Bool} {dd : Option Addr} {k0 k1 k2 k3 k5 : Option Value}
/-- the bound ValueError.__init__, called -/
theorem call_mw {u e t0 : Addr} {rest : List Value} {Q : Value → Shared → Prop}
    (hC : h.get? C = some (excClassObj nm q C N bs bm hdct sn sub ab col dd k0 k1 k2 k3 k5 "ValueError.__new__")) (he : h.get? e = some (excO C t0)) (hu : h.get? u = some (kxs_mw "ValueError.__init__" e)) (hrest : rest.length ≤ sizeLine)
    (hq : ∀ h' t1, (∀ b o, b ≠ e → h.get? b = some o → h'.get? b = some o) → h'.get? e = some (excO C t1) → Q .none ⟨h', g, d, t, os⟩) :
    wpAny (model prog w) A (call (.ref u) rest) Q E ⟨h, g, d, t, os⟩ := by
  refine wpAny_call (codeAny_of_tree ?_)
  show wpAny _ A.in1 (callAny (.ref u) ⟨rest, []⟩) _ _ _
  simp only [callAny]
  refine wpAny_bind (wpAny_load hu ?_)
  simp only [kxs_mw, show (Value.type "method-wrapper" == Value.type "method" || Value.type "method-wrapper" == Value.type "builtin_function_or_method" || Value.type "method-wrapper" == Value.type "method-wrapper") = true by decide, if_true]
  refine W.KFB.if_so (by decide) ?_
  refine wpAny_bind (ESX.check_bound F.excBase_ValueError hC he rfl ?_)
  refine wpAny_bind (wpAny_pure (wpAny_pure ?_))
  refine ⟨Code.quiet_builtin _ (by decide +kernel), codeAny_builtin F.excBase_ValueError.initEntry ?_⟩
  rw [Around.under_plainId F.excBase_ValueError.init.plain _]
  wp_walk
  refine hq _ h.objs.size (fun b o hb ho => ?_) ?_
  · rw [Heap.get?_update_other _ _ (Ne.symm hb)]
    exact Heap.get?_push_of_some _ ho
  · rw [Heap.get?_update_self _ (Heap.get?_push_of_some _ he) rfl]
    rfl
end
/-- the bound __init__ called with one value -/
theorem callWith_mw {M : Model} {A : Around} {E : Value → Shared → Prop} {s : Shared} {pos : Pos} {env : Env} {e : Expr} {u x : Addr} {Q : Value → Shared → Prop} (hu : s.heap.get? u = some (kxs_mw "ValueError.__init__" x))
    (h : wpAny M A (eval e env) (fun v s₁ => s₁.heap.get? u = some (kxs_mw "ValueError.__init__" x) ∧ wpAny M A (call (.ref u) [v]) Q E s₁) E s) (he : starEach [e] env = (false, eval e env) :: starEach [] env := by rfl) :
    wpAny M A (callWith pos (.ref u) [] (backTo pos (starEach [e] env)) []) Q E s := by
  rw [he]
  refine kxs_callWith (i := "ValueError.__init__") (x := x) rfl ?_
  refine evalArgs_plain (spliced_cons (wpAny_mono h (fun v s₁ hv => ?_) fun _ _ z => z))
  exact spliced_nil hv
theorem mt_sup {o : Expr} {m : Str} {ap pos : Pos} {a : Expr} {env : Env} (hn : Kw.nst a = true) (hp : (ap.endLine == pos.line) = true) : eval (.Call (.Attribute o m ap) [a] [] pos) env = (do
      let ov ← attributeBase o m env (eval o env)
      standAt ap.atName
      let (f, first) ← holding [ov] (getMethod ov m (do return (← importBound o env).getD true))
      callWith pos f first (backTo pos (starEach [a] env)) []) := by
  rw [arm_eval_Call]
  have hf : methodCallForm ([a].length + ([] : List Keyword).length) (backTo pos (starEach [a] env)) (backToKw pos (keywordEach [] env)) = true := by
    unfold methodCallForm
    rw [Kw.star_allB (by simp [hn])]
    rfl
  unfold methodCall
  rw [hf]
  unfold calleeOf methodCallPos
  simp [hp]
  rfl
/-- what the written part says of an error class C over the base B -/
structure ErrC (K : Frag) (C B fB : Addr) : Prop where
  cls : ∃ nm q N bs bm sn sub ab col dd k0 k1 k2 k3 k5, K.lookup C = some (excClassObj nm q C N bs bm true sn sub ab col dd k0 k1 k2 k3 k5 "ValueError.__new__") ∧ refsVE bm = true
  sa : findIn K (.ref C) "__setattr__" = some (some (.builtin "object.__setattr__"))
  noP : findIn K (.ref C) "place" = some none
  noN : findIn K (.ref C) "name" = some none
  opq : nsIn K cStatics "thirdparty.any" = some none
  subB : mroIn K C (.ref B) = some true
  subC : mroIn K C (.ref C) = some true
  subV : subIn K (.ref C) (.type "ValueError") = some true
  sup : ks_superIn K C B "__init__" = some (some (.builtin "ValueError.__init__"))
/-- a module's facts, without those of a class -/
structure ModO (prog : Program) (mg : Str → Option Value) : Prop where
  sup : mg "super" = none
  top : (prog.main.scope.names.lookup ("super" : Str)).isSome = false
/-- what __init__ leaves of a fresh exception at x -/
structure InitEnd (h h' : Heap) (x C dx t1 : Addr) (m : Str → Option Value) : Prop where
  keep : ∀ b o, b ≠ x → h.get? b = some o → h'.get? b = some o
  obj : h'.get? x = some { cls := .ref C, dict := some dx, data := .fields #[.ref t1, .none, .none, .none, .bool false, .none] }
  dbig : h.objs.size ≤ dx
  dne : dx ≠ x
  ns : h'.Ns1 dx m
def nsE (nm : Str) (tk : Tok) (v : Value) : Str → Option Value := fun y => if y = "name" then some (.str nm tk) else if y = "place" then some v else none
section
variable {prog : Program} {w : World} {A : Around} {E : Value → Shared → Prop} {R : Result → Shared → Prop} {s : Shared} {K : Frag} {mg : Str → Option Value} {h0 : Heap} {x C B fB t0 : Addr} {v : Value}
theorem base_init {q0 q1 q2 q3 q4 q5 r0 r1 r2 r3 n0 n1 n2 n3 : Pos} (T : ErrC K C B fB) (F0 : IFn prog K fB B "KeepwebsError.__init__" [stS q0 q1 q2 q3 q4 q5, stP r0 r1 r2 r3, stN "KeepwebsError" n0 n1 n2 n3]) (G : L2.Mod K mg h0) (Mo : ModO prog mg)
    (kk : ∀ b o, h0.get? b = some o → s.heap.get? b = some o) (hx0 : h0.get? x = none) (hx : s.heap.get? x = some (excO C t0)) (hroom : A.depth < recursionLimit) (hl1 : (q2.endLine == q4.line) = true)
    (hq : ∀ h' tk dx t1 t2, InitEnd s.heap h' x C dx t1 (nsE "KeepwebsError" t2 v) → R (.ok (.ret .none)) { s with heap := h', toks := tk }) :
    codeAny (model prog w) A (.call (.ref fB) ⟨[.ref x, v], []⟩) R s := by
  obtain ⟨p1, p2, cc, cda, oc, kV, doc, pm, ct, ccl, cl, od, an, cdd, cld, osl, ccs, csl, vs, file, tf, cdD, ho, hcd, hcode, hvs, hfile, hcell, hD⟩ := F0.ex
  obtain ⟨nm, qn, N, bs, bm, sn, sub, ab, col, dd, k0, k1, k2, k3, k5, hC, hbm⟩ := T.cls
  have hcl : clsIn K C = some { name := nm, bases := bs, mro := .ref C :: bm, ns := N, qualname := qn, hasDict := true, slotNames := sn, subclasses := sub, abstract := ab, collection := col, hasDel := false } := by unfold clsIn; rw [hC] <;> rfl
  have X : K.In s.heap := G.kin.keeps kk
  have hnx : K.lookup x = none := by
    cases e : K.lookup x with
    | none => rfl
    | some o =>
      have z := G.kin x o e
      rw [hx0] at z
      cases z
  refine ks_codeAny_call_defAt (fd := fnD "KeepwebsError.__init__" (iA p1 p2) _ kV doc pm an cda ct cc) (body := [stS q0 q1 q2 q3 q4 q5, stP r0 r1 r2 r3, stN "KeepwebsError" n0 n1 n2 n3]) (binds := [("self", .ref x), ("place", v)]) hroom (X _ _ ho) rfl (G.nolimit.keeps kk) (codeRec_of X hcd) rfl (BindsTo.of_eq (by first | rfl | with_unfolding_all rfl)) (show ∀ y ∈ iS.names, y.2 ≠ .cell by decide) (fun y hy => by
    rcases List.mem_cons.mp hy with rfl | hy
    · rfl
    · rcases List.mem_cons.mp hy with rfl | hy
      · rfl
      · cases hy) (fun h₁ hn kh => ?_) rfl rfl rfl
  have kb : ∀ b o, h0.get? b = some o → h₁.get? b = some o := fun b o e => kh _ _ (kk b o e)
  have hx₁ := kh _ _ hx
  have hz : s.heap.objs.size < h₁.objs.size := hn.lt
  have hv1 : (fun y => ([(("self" : Str), Value.ref x), (("place" : Str), v)] : List (Str × Value)).reverse.lookup y) "self" = some (.ref x) := by first | rfl | with_unfolding_all rfl
  have hv2 : (fun y => ([(("self" : Str), Value.ref x), (("place" : Str), v)] : List (Str × Value)).reverse.lookup y) "place" = some v := by first | rfl | with_unfolding_all rfl
  -- super().__init__(place)
  have hmr : ∀ h' : Heap, K.In h' → Looks (model prog w) h' (mroOf (.ref C)) (.ref C :: bm) := fun h' X' => fun A Q E s k q => wpAny_bind ((looks_clsIn X' hcl) A _ E s k (wpAny_pure q))
  have hxC : ∀ h' : Heap, K.In h' → (∃ o, h'.get? x = some o) → x ≠ C := fun h' X' ho e => by
    rw [e] at hnx
    rw [hC] at hnx
    cases hnx
  have hsup : alongIn K "__init__" (((Value.ref C :: bm).dropWhile (· != .ref B)).drop 1) = some (some (.builtin "ValueError.__init__")) := by
    have := T.sup
    unfold ks_superIn at this
    rw [hcl] at this
    exact this
  refine ks_wpAt_execs_cons (ks_wpAt_Expr_any (ks_wpAt_MethodCall ?_ (mt_sup rfl hl1)))
  refine sup_node G kb ho hcode hvs hfile hcell hD hn hv1 hx₁ rfl (fun c e => by cases e) T.subB Mo.sup Mo.top (fun so h2 hso k2 => ?_)
  have kb2 : ∀ b o, h0.get? b = some o → h2.get? b = some o := fun b o e => k2 _ _ (kb b o e)
  have X2 : K.In h2 := G.kin.keeps kb2
  have hx2 := k2 _ _ hx₁
  have I2 : InstAt h2 x (excO C t0) C none := ⟨hx2, rfl, rfl, trivial⟩
  refine kxs_getMethod kxs_ValueError hso (looks_opaque X2 T.opq) (hmr h2 X2) rfl X2 hsup (I2.type.andThen (looks_subIn X2 T.subV)) (hxC h2 X2 ⟨_, hx2⟩) (by decide) ?_
  have hu : (h2.push (kxs_mw "ValueError.__init__" x)).get? h2.objs.size = some (kxs_mw "ValueError.__init__" x) := Heap.get?_push_at rfl rfl
  have k3 : ∀ b o, h2.get? b = some o → (h2.push (kxs_mw "ValueError.__init__" x)).get? b = some o := fun b o e => Heap.get?_push_of_some _ e
  have kL : ∀ b o, h₁.get? b = some o → (h2.push (kxs_mw "ValueError.__init__" x)).get? b = some o := fun b o e => k3 _ _ (k2 _ _ e)
  have hn3 : (h2.push (kxs_mw "ValueError.__init__" x)).Ns s.heap.objs.size (fun y => ([(("self" : Str), Value.ref x), (("place" : Str), v)] : List (Str × Value)).reverse.lookup y) := hn.keeps kL
  refine callWith_mw hu (wpAny_Name (wpAny_loadName_local rfl rfl hn3 hv2 ⟨hu, ?_⟩) (by decide))
  refine call_mw (k3 _ _ (X2 _ _ hC)) (k3 _ _ hx2) hu (by rw [sizeLine_eq]; exact (by decide : 1 ≤ 16777216)) (fun h4 t1 k4 hx4 => ?_)
  -- self.place = place
  have k04 : ∀ b o, h0.get? b = some o → h4.get? b = some o := fun b o e => k4 b o (fun z => by rw [z, hx0] at e; cases e) (k3 _ _ (kb2 _ _ e))
  have X4 : K.In h4 := G.kin.keeps k04
  have xL : s.heap.objs.size ≠ x := Nat.ne_of_gt (Heap.lt_size hx)
  have hn4 : h4.Ns s.heap.objs.size (fun y => ([(("self" : Str), Value.ref x), (("place" : Str), v)] : List (Str × Value)).reverse.lookup y) := by
    obtain ⟨oL, es, ep, e1, e2, e3⟩ := hn3
    exact ⟨oL, es, ep, k4 _ _ xL e1, e2, e3⟩
  refine ks_wpAt_execs_cons (ks_wpAt_Assign_Attr (_root_.PySem.wpAt_of_wpAny ?_))
  refine wpAny_Name (wpAny_loadName_local rfl rfl hn4 hv2 (wpAny_Name (wpAny_loadName_local rfl rfl hn4 hv1 ?_) (by decide))) (by decide)
  refine set_plain X4 (ox := excO C t1) (od := none) ⟨hx4, rfl, rfl, trivial⟩ T.sa ?_
  refine exc_osa X4 hx4 hcl (show refsVE (.ref C :: bm) = true from hbm) rfl T.noP (fun h5 tk5 dx k5 dn dne hx5 hn5 => ?_)
  -- self.name = ..
  have k05 : ∀ b o, h0.get? b = some o → h5.get? b = some o := fun b o e => k5 b o (fun z => by rw [z, hx0] at e; cases e) (k04 _ _ e)
  have X5 : K.In h5 := G.kin.keeps k05
  have hn6 : h5.Ns s.heap.objs.size (fun y => ([(("self" : Str), Value.ref x), (("place" : Str), v)] : List (Str × Value)).reverse.lookup y) := by
    obtain ⟨oL, es, ep, e1, e2, e3⟩ := hn4
    exact ⟨oL, es, ep, k5 _ _ xL e1, e2, e3⟩
  refine ks_wpAt_execs_cons (ks_wpAt_Assign_Attr (_root_.PySem.wpAt_of_wpAny ?_))
  refine wpAny_Constant_str (wpAny_Name (wpAny_loadName_local rfl rfl hn6 hv1 ?_) (by decide))
  obtain ⟨oD, esD, epD, hoD, _, _⟩ := hn5.count (Within.cons "place" v (Within.of_none fun _ => rfl))
  refine set_plain X5 (ox := { cls := .ref C, dict := some dx, data := .fields #[.ref t1, .none, .none, .none, .bool false, .none] }) (od := some oD) ⟨hx5, rfl, rfl, hoD⟩ T.sa ?_
  refine OEX.osa_old X5 hx5 hn5 (Within.cons "place" v (Within.of_none fun _ => rfl)) (by simp) hcl (show refsVE (.ref C :: bm) = true from hbm) rfl T.noN (fun h6 tk6 k6 hn7 => ?_)
  show _root_.PySem.wpAt _ _ _ (execs _ _) _ _ _
  have dn' : h4.objs.size ≤ dx := dn
  have l4 : s.heap.objs.size < h4.objs.size := hn4.lt
  have big4 : s.heap.objs.size ≤ dx := by omega
  refine _root_.PySem.wpAt_of_wpAny (wpAny_execs_nil (hq h6 tk6 dx t1 _ ⟨fun b o hb e => ?_, ?_, big4, dne, hn7⟩))
  · have lb : b < s.heap.objs.size := Heap.lt_size e
    exact k6 b o (Nat.ne_of_lt (Nat.lt_of_lt_of_le lb big4)) (k5 b o hb (k4 b o hb (kL _ _ (kh _ _ e))))
  · exact k6 x _ (Ne.symm dne) hx5
end
end Kx
set_option maxHeartbeats 2000000
namespace Kx
open PySem PySem.W PySem.Calls PyProof.Rows PySem.HandSPX

/-- a bound method called with one value -/
theorem callWith_bm {M : Model} {A : Around} {E : Value → Shared → Prop} {s : Shared} {K : Frag} {pos : Pos} {env : Env} {e : Expr} {q g : Addr} {self : Value} {Q : Value → Shared → Prop} (hf : fnIn K g = true)
    (h : wpAny M A (eval e env) (fun v s₁ => MethP K q g self s₁.heap ∧ wpAny M A (call (.ref q) [v]) Q E s₁) E s) (he : starEach [e] env = (false, eval e env) :: starEach [] env := by rfl) :
    wpAny M A (callWith pos (.ref q) [] (backTo pos (starEach [e] env)) []) Q E s := by
  rw [he]
  refine callWith_of (P := MethP K q g self) rfl (keeps_M hf) (evalArgs_plain (spliced_cons (wpAny_mono h (fun v s₁ hv => ?_) fun _ _ z => z)))
  exact spliced_nil hv
/-- an error class C over the base B, its own __init__ at fI -/
structure ErrI (K : Frag) (C B fB fI : Addr) : Prop extends ErrC K C B fB where
  supC : ks_superIn K C C "__init__" = some (some (.ref fB))
  fnB : fnIn K fB = true
  tyB : typeIn K (.ref fB) = some (.type "function")
section
variable {prog : Program} {w : World} {A : Around} {E : Value → Shared → Prop} {R : Result → Shared → Prop} {s : Shared} {K : Frag} {mg : Str → Option Value} {h0 : Heap} {x C B fB fI t0 : Addr} {v : Value}
theorem nsE_put {nm nm2 : Str} {tk t2 : Tok} : (fun y => if y = ("name" : Str) then some (.str nm tk) else nsE nm2 t2 v y) = nsE nm tk v := by
  funext y
  unfold nsE
  by_cases h : y = "name"
  · rw [if_pos h, if_pos h]
  · rw [if_neg h, if_neg h, if_neg h]
theorem within_nsE {nm : Str} {tk : Tok} : Within (nsE nm tk v) ["name", "place"] := fun y hy => by
  unfold nsE at hy
  by_cases h : y = "name"
  · rw [h]; simp
  · rw [if_neg h] at hy
    by_cases h2 : y = "place"
    · rw [h2]; simp
    · rw [if_neg h2] at hy
      exact (hy rfl).elim
theorem own_init {q0 q1 q2 q3 q4 q5 r0 r1 r2 r3 n0 n1 n2 n3 c0 c1 c2 c3 c4 c5 m0 m1 m2 m3 : Pos} {qual nm : Str} (T : ErrI K C B fB fI) (F0 : IFn prog K fB B "KeepwebsError.__init__" [stS q0 q1 q2 q3 q4 q5, stP r0 r1 r2 r3, stN "KeepwebsError" n0 n1 n2 n3])
    (F1 : IFn prog K fI C qual [stS c0 c1 c2 c3 c4 c5, stN nm m0 m1 m2 m3]) (G : L2.Mod K mg h0) (Mo : ModO prog mg)
    (kk : ∀ b o, h0.get? b = some o → s.heap.get? b = some o) (hx0 : h0.get? x = none) (hx : s.heap.get? x = some (excO C t0)) (hroom : A.depth + 1 < recursionLimit) (hl1 : (q2.endLine == q4.line) = true) (hl2 : (c2.endLine == c4.line) = true)
    (hq : ∀ h' tk dx t1 t2, InitEnd s.heap h' x C dx t1 (nsE nm t2 v) → R (.ok (.ret .none)) { s with heap := h', toks := tk }) :
    codeAny (model prog w) A (.call (.ref fI) ⟨[.ref x, v], []⟩) R s := by
  obtain ⟨p1, p2, cc, cda, oc, kV, doc, pm, ct, ccl, cl, od, an, cdd, cld, osl, ccs, csl, vs, file, tf, cdD, ho, hcd, hcode, hvs, hfile, hcell, hD⟩ := F1.ex
  obtain ⟨nmC, qn, N, bs, bm, sn, sub, ab, col, dd, k0, k1, k2, k3, k5, hC, hbm⟩ := T.cls
  have hcl : clsIn K C = some { name := nmC, bases := bs, mro := .ref C :: bm, ns := N, qualname := qn, hasDict := true, slotNames := sn, subclasses := sub, abstract := ab, collection := col, hasDel := false } := by unfold clsIn; rw [hC] <;> rfl
  have X : K.In s.heap := G.kin.keeps kk
  have hnx : K.lookup x = none := by
    cases e : K.lookup x with
    | none => rfl
    | some o =>
      have z := G.kin x o e
      rw [hx0] at z
      cases z
  refine ks_codeAny_call_defAt (fd := fnD qual (iA p1 p2) _ kV doc pm an cda ct cc) (body := [stS c0 c1 c2 c3 c4 c5, stN nm m0 m1 m2 m3]) (binds := [("self", .ref x), ("place", v)]) (by omega) (X _ _ ho) rfl (G.nolimit.keeps kk) (codeRec_of X hcd) rfl (BindsTo.of_eq (by first | rfl | with_unfolding_all rfl)) (show ∀ y ∈ iS.names, y.2 ≠ .cell by decide) (fun y hy => by
    rcases List.mem_cons.mp hy with rfl | hy
    · rfl
    · rcases List.mem_cons.mp hy with rfl | hy
      · rfl
      · cases hy) (fun h₁ hn kh => ?_) rfl rfl rfl
  have kb : ∀ b o, h0.get? b = some o → h₁.get? b = some o := fun b o e => kh _ _ (kk b o e)
  have hx₁ := kh _ _ hx
  have hv1 : (fun y => ([(("self" : Str), Value.ref x), (("place" : Str), v)] : List (Str × Value)).reverse.lookup y) "self" = some (.ref x) := by first | rfl | with_unfolding_all rfl
  have hv2 : (fun y => ([(("self" : Str), Value.ref x), (("place" : Str), v)] : List (Str × Value)).reverse.lookup y) "place" = some v := by first | rfl | with_unfolding_all rfl
  have hxC : x ≠ C := fun e => by
    rw [e] at hnx
    rw [hC] at hnx
    cases hnx
  have hsup : alongIn K "__init__" (((Value.ref C :: bm).dropWhile (· != .ref C)).drop 1) = some (some (.ref fB)) := by
    have := T.supC
    unfold ks_superIn at this
    rw [hcl] at this
    exact this
  refine ks_wpAt_execs_cons (ks_wpAt_Expr_any (ks_wpAt_MethodCall ?_ (mt_sup rfl hl2)))
  refine sup_node G kb ho hcode hvs hfile hcell hD hn hv1 hx₁ rfl (fun c e => by cases e) T.subC Mo.sup Mo.top (fun so h2 hso k2 => ?_)
  have kb2 : ∀ b o, h0.get? b = some o → h2.get? b = some o := fun b o e => k2 _ _ (kb b o e)
  have X2 : K.In h2 := G.kin.keeps kb2
  have hx2 := k2 _ _ hx₁
  obtain ⟨of, hof, hofc⟩ : ∃ of, h2.get? fB = some of ∧ of.cls = .type "function" := by
    have ht' : (K.lookup fB).map (·.cls) = some (.type "function") := T.tyB
    cases z : K.lookup fB with
    | none => rw [z] at ht'; cases ht'
    | some of => rw [z] at ht'; exact ⟨of, X2 _ _ z, Option.some.inj ht'⟩
  refine ks_wpAny_getMethod_super hso (looks_opaque X2 T.opq) (l₀ := .ref C :: bm) (fun A Q E s k q => wpAny_bind ((looks_clsIn X2 hcl) A _ E s k (wpAny_pure q))) rfl X2 hsup hof hofc hxC (by decide) ?_
  have hu : (h2.push (methodObj (.ref fB) (.ref x))).get? h2.objs.size = some (methodObj (.ref fB) (.ref x)) := Heap.get?_push_at rfl rfl
  have k3 : ∀ b o, h2.get? b = some o → (h2.push (methodObj (.ref fB) (.ref x))).get? b = some o := fun b o e => Heap.get?_push_of_some _ e
  have kL : ∀ b o, h₁.get? b = some o → (h2.push (methodObj (.ref fB) (.ref x))).get? b = some o := fun b o e => k3 _ _ (k2 _ _ e)
  have hn3 : (h2.push (methodObj (.ref fB) (.ref x))).Ns s.heap.objs.size (fun y => ([(("self" : Str), Value.ref x), (("place" : Str), v)] : List (Str × Value)).reverse.lookup y) := hn.keeps kL
  have k03 : ∀ b o, h0.get? b = some o → (h2.push (methodObj (.ref fB) (.ref x))).get? b = some o := fun b o e => k3 _ _ (kb2 _ _ e)
  refine callWith_bm (K := K) (g := fB) (self := .ref x) T.fnB (wpAny_Name (wpAny_loadName_local rfl rfl hn3 hv2 ⟨⟨hu, G.kin.keeps k03⟩, ?_⟩) (by decide))
  refine wpAny_call (ks_codeAny_call_bound hu ?_)
  refine base_init T.toErrC F0 G Mo k03 hx0 (k3 _ _ hx2) (by show A.depth + 1 < recursionLimit; exact hroom) hl1 (fun h4 tk4 dx t1 t2 e4 => ?_)
  have k04 : ∀ b o, h0.get? b = some o → h4.get? b = some o := fun b o e => e4.keep b o (fun z => by rw [z, hx0] at e; cases e) (k03 _ _ e)
  have X4 : K.In h4 := G.kin.keeps k04
  have xL : s.heap.objs.size ≠ x := Nat.ne_of_gt (Heap.lt_size hx)
  have hn4 : h4.Ns s.heap.objs.size (fun y => ([(("self" : Str), Value.ref x), (("place" : Str), v)] : List (Str × Value)).reverse.lookup y) := by
    obtain ⟨oL, es, ep, e1, e2, e3⟩ := hn3
    exact ⟨oL, es, ep, e4.keep _ _ xL e1, e2, e3⟩
  refine ks_wpAt_execs_cons (ks_wpAt_Assign_Attr (_root_.PySem.wpAt_of_wpAny ?_))
  refine wpAny_Constant_str (wpAny_Name (wpAny_loadName_local rfl rfl hn4 hv1 ?_) (by decide))
  obtain ⟨oD, esD, epD, hoD, _, _⟩ := e4.ns.count within_nsE
  refine set_plain X4 (ox := { cls := .ref C, dict := some dx, data := .fields #[.ref t1, .none, .none, .none, .bool false, .none] }) (od := some oD) ⟨e4.obj, rfl, rfl, hoD⟩ T.sa ?_
  refine OEX.osa_old X4 e4.obj e4.ns within_nsE (by simp) hcl (show refsVE (.ref C :: bm) = true from hbm) rfl T.noN (fun h6 tk6 k6 hn7 => ?_)
  show _root_.PySem.wpAt _ _ _ (execs _ _) _ _ _
  have l3 : s.heap.objs.size < (h2.push (methodObj (.ref fB) (.ref x))).objs.size := hn3.lt
  have big3 : (h2.push (methodObj (.ref fB) (.ref x))).objs.size ≤ dx := e4.dbig
  have big : s.heap.objs.size ≤ dx := by omega
  rw [nsE_put] at hn7
  refine _root_.PySem.wpAt_of_wpAny (wpAny_execs_nil (hq h6 _ dx t1 _ ⟨fun b o hb e => ?_, ?_, big, e4.dne, hn7⟩))
  · have lb : b < s.heap.objs.size := Heap.lt_size e
    exact k6 b o (Nat.ne_of_lt (Nat.lt_of_lt_of_le lb big)) (e4.keep b o hb (kL _ _ (kh _ _ e)))
  · exact k6 x _ (Ne.symm e4.dne) e4.obj
end
end Kx
set_option maxHeartbeats 2000000
namespace Kx
open PySem PySem.W PySem.Calls PyProof.Rows PySem.HandSPX

/-- all that is known of an error class -/
structure Err (prog : Program) (K : Frag) (nm : Str) (C B fB fI : Addr) : Prop extends ErrI K C B fB fI where
  iC : findIn K (.ref C) "__init__" = some (some (.ref fI))
  tC : typeIn K (.ref fI) = some (.type "function")
  kC : keepIn K (.ref C) = true
  exC : subIn K (.ref C) (.type "BaseException") = some true
  tyC : typeIn K (.ref C) = some (.type "type")
  te : exmOne K (.ref C) (.ref C) = some true
  ini : ∃ (q0 q1 q2 q3 q4 q5 r0 r1 r2 r3 n0 n1 n2 n3 c0 c1 c2 c3 c4 c5 m0 m1 m2 m3 : Pos) (qual : Str), IFn prog K fB B "KeepwebsError.__init__" [stS q0 q1 q2 q3 q4 q5, stP r0 r1 r2 r3, stN "KeepwebsError" n0 n1 n2 n3] ∧
    IFn prog K fI C qual [stS c0 c1 c2 c3 c4 c5, stN nm m0 m1 m2 m3] ∧ (q2.endLine == q4.line) = true ∧ (c2.endLine == c4.line) = true
structure OwnMade (h h' : Heap) (e C d : Addr) (m : Str → Option Value) : Prop where
  keep : ∀ b o, h.get? b = some o → h'.get? b = some o
  new : h.objs.size ≤ e
  obj : ∃ oe vs, h'.get? e = some oe ∧ oe.cls = .ref C ∧ oe.dict = some d ∧ oe.data = .fields vs ∧ vs[1]? = some .none
  dbig : h.objs.size ≤ d
  dne : d ≠ e
  ns : h'.Ns1 d m
section
variable {prog : Program} {w : World} {A : Around} {E : Value → Shared → Prop} {R : Result → Shared → Prop} {s : Shared} {K : Frag} {mg : Str → Option Value} {h0 : Heap} {C B fB fI : Addr} {v : Value} {nm : Str}
theorem own_made (T : Err prog K nm C B fB fI) (G : L2.Mod K mg h0) (Mo : ModO prog mg) (kk : ∀ b o, h0.get? b = some o → s.heap.get? b = some o) (hroom : A.depth + 3 < recursionLimit)
    (hq : ∀ h' tk e d t2, OwnMade s.heap h' e C d (nsE nm t2 v) → R (.ok (.ret (.ref e))) { s with heap := h', toks := tk }) :
    codeAny (model prog w) A (.call (.ref C) ⟨[v], []⟩) R s := by
  obtain ⟨nmC, q, N, bs, bm, sn, sub, ab, col, dd, k0, k1, k2, k3, k5, hC, hbm⟩ := T.cls
  obtain ⟨q0, q1, q2, q3, q4, q5, r0, r1, r2, r3, n0, n1, n2, n3, c0, c1, c2, c3, c4, c5, m0, m1, m2, m3, qual, F0, F1, hl1, hl2⟩ := T.ini
  have X : K.In s.heap := G.kin.keeps kk
  obtain ⟨hp, g, dr, tk, os⟩ := s
  have k : ∀ b o, hp.get? b = some o → ((hp.push (kdv_tup [v])).push (excO C hp.objs.size)).get? b = some o := fun b o e => Heap.get?_push_of_some _ (Heap.get?_push_of_some _ e)
  have hget : ((hp.push (kdv_tup [v])).push (excO C hp.objs.size)).get? (hp.objs.size + 1) = some (excO C hp.objs.size) := by heap_get
  have hx0 : h0.get? (hp.objs.size + 1) = none := by
    cases e : h0.get? (hp.objs.size + 1) with
    | none => rfl
    | some o =>
      have z : hp.get? (hp.objs.size + 1) = some o := kk _ _ e
      exact absurd (Nat.lt_of_succ_lt (Heap.lt_size z)) (Nat.lt_irrefl _)
  refine call_own F.excBase_ValueError (fun X => refsVE_contains X bm hbm) (X _ _ hC) (looks_findIn X T.iC) (fun self => bind_fn X self T.tC) (by rw [sizeLine_eq]; exact (by decide : 1 ≤ 16777216)) ?_
  refine own_init (s := ⟨(hp.push (kdv_tup [v])).push (excO C hp.objs.size), g, dr, tk, os⟩) T.toErrI F0 F1 G Mo (fun b o e => k b o (kk b o e)) hx0 hget ?_ hl1 hl2 fun h' tk' dx t1 t2 ⟨k', hx, dn, dne, hns⟩ => ?_
  · show A.depth + 1 + 1 < recursionLimit
    omega
  · have old : ∀ b o, hp.get? b = some o → h'.get? b = some o := fun b o e => k' b o (Nat.ne_of_lt (Nat.lt_succ_of_lt (Heap.lt_size e))) (k b o e)
    have z : hp.objs.size + 1 + 1 ≤ dx := by
      first
        | (simpa only [Heap.size_push] using dn)
        | exact dn
        | (have q := dn; rw [Heap.size_push, Heap.size_push] at q; exact q)
    exact ⟨rfl, hq h' tk' (hp.objs.size + 1) dx t2 ⟨old, Nat.le_succ _, ⟨_, _, hx, rfl, rfl, rfl, rfl⟩, Nat.le_trans (Nat.le_trans (Nat.le_succ _) (Nat.le_succ _)) z, dne, hns⟩⟩
end
end Kx
namespace Kw
open PySem PySem.Spec PyProof.Rows L2
abbrev xfs (nm : Str) (v : V) : List (Str × V) := [("name", .str nm), ("place", v)]
theorem relO_err {v : V} {v' : Value} {nm : Str} {tk : Tok} (r : RelV v v') (f : Str) : RelO (List.lookup f (xfs nm v)) (Kx.nsE nm tk v' f) := by
  unfold Kx.nsE
  by_cases h1 : f = "name"
  · subst h1
    rw [if_pos rfl]
    have q : List.lookup ("name" : Str) (xfs nm v) = some (.str nm) := by simp [List.lookup]
    rw [q]
    exact ⟨tk, rfl⟩
  · rw [if_neg h1]
    have q1 : (f == ("name" : Str)) = false := by simpa using h1
    by_cases h2 : f = "place"
    · subst h2
      rw [if_pos rfl]
      have q : List.lookup ("place" : Str) (xfs nm v) = some v := by simp [List.lookup, q1]
      rw [q]
      exact r
    · rw [if_neg h2]
      have q2 : (f == ("place" : Str)) = false := by simpa using h2
      have q : List.lookup f (xfs nm v) = none := by simp [List.lookup, q1, q2]
      rw [q]
      trivial
section
variable {X : Cx} {C B fB fI : Addr} {nm : Str}
/-- C(e), an own error -/
def tMkE (C : Addr) (nm : Str) (ta : TA) : L2.St → Hp → XK → Prop := fun σ H Q => ta σ H fun vs H1 => ∃ v, vs = [v] ∧ ∀ d, H1 d = none → Q (.ref C) (some d) (upd H1 d (.xd (xfs nm v)))
theorem pmk_err {x : Str} {a : Expr} {ta : TA} {p pos : Pos} {k : Nat} (T : Kx.Err X.prog X.K nm C B fB fI) (Mo : Kx.ModO X.prog X.mg) (hm : X.mg x = some (.ref C)) (hr : Room (k + 1) X.A) (ha : PA X [a] ta) (hg : Gl X x) (hdb : (x == ("__debug__" : Str)) = false)
    (he : starEach (a :: []) X.env = (false, eval a X.env) :: starEach [] X.env := by rfl) (hpl : (backTo pos (starEach [] X.env)).any (·.1) = false := by rfl) :
    PMk X (.Call (.Name x p) [a] [] pos) (tMkE C nm ta) := by
  intro pins s σ H Q I h
  refine wpAny_Call_Name_kw (ld_glob I hg hm ?_ hdb)
  refine PySem.W.callWith_K (h₀ := X.base) I.ok.mod.kin T.kC (thn (ha.run pos pins s σ H _ I h) fun us s1 hh => ?_) he hpl
  obtain ⟨vs, H1, I1, r1, v, ev, q1⟩ := hh
  subst ev
  refine ⟨I1.kIn, ?_⟩
  cases r1 with
  | cons rv rn =>
    rename_i v' us'
    cases rn
    show wpAny _ _ (call (.ref C) [v']) _ _ _
    have hbk := I1.bk
    obtain ⟨hp, g, dr, tk, os⟩ := s1
    refine wpAny_call (Kx.own_made T I.ok.mod Mo hbk (by have := hr.dp; omega) fun h' tk' e d t2 M => ?_)
    show MkP X pins σ Q (.ref e) ⟨h', g, dr, tk', os⟩
    obtain ⟨oe, fv, hoe, hc, hd, hdat, h1⟩ := M.obj
    have hns := M.ns
    obtain ⟨G', g1, g2⟩ := restrict h' fun b => decide (b ≠ e)
    have gk : ∀ b, b ≠ e → G'.get? b = h'.get? b := fun b hb => g1 b (decide_eq_true hb)
    have ge : G'.get? e = none := g2 e (by simp)
    have old : ∀ b o, hp.get? b = some o → G'.get? b = some o := fun b o q => (gk b (Nat.ne_of_lt (Nat.lt_of_lt_of_le (Heap.lt_size q) M.new))).trans (M.keep b o q)
    have ob : ObjOk X.prog X.w (upd H1 d (.xd (xfs nm v))) G' d (.xd (xfs nm v)) :=
      ⟨_, hns.at (fun o q => (gk d M.dne).trans q), fun f => relO_err rv f⟩
    have J : Inv X pins σ (upd H1 d (.xd (xfs nm v))) ⟨G', g, dr, tk', os⟩ := I1.laid (t' := tk') old M.dbig ob
    refine ⟨e, oe, fv, ⟨G', g, dr, tk', os⟩, _, .ref C, some d, rfl, J, fun b o q => ?_, ge, hoe, ⟨hc, hd⟩, hdat, h1, ?_, rfl, I1.bare, raises_own T.exC T.tyC, q1 d (I1.hok.fresh M.dbig)⟩
    · by_cases hb : b = e
      · have q' : G'.get? b = some o := q
        rw [hb, ge] at q'; cases q'
      · exact (gk b hb).symm.trans q
    · rw [upd_ne (Ne.symm M.dne)]
      exact I1.hok.fresh M.new
end
end Kw
set_option maxHeartbeats 1000000
namespace Kw
open PySem PySem.Spec PyProof.Rows L2

/-! ### raise, try -/
/-- an own error x is known -/
structure ErOk (P : Program) (K : PySem.W.Frag) (mg : Str → Option Value) (R : Rc) (x : Str) : Prop where
  ex : ∃ (C B fB fI : Addr), R.er x = some C ∧ mg x = some (.ref C) ∧ Kx.Err P K x C B fB fI ∧ XfC K C
/-- what stands around a def's statements -/
structure XSx (R : Rc) (T : Tb) (X : Cx) (E : XK) : Prop where
  hp : PassesOwn (model X.prog X.w) X.A X.env X.xe
  tk : Takes X fun cls d _ H => E cls d H
  hs : X.stack = X.env :: X.outer
  hf : X.env.frame = some X.env.locals
  er : ∀ x ∈ T.ers, ErOk X.prog X.K X.mg R x
  mo : T.ers ≠ [] → Kx.ModO X.prog X.mg
section
variable {X : Cx} {R : Rc} {T : Tb} {E : XK} {L : List Nat} {x nm : Str} {a : Expr} {fa : DE} {fb : DS} {p p2 pos pos2 : Pos}
theorem ps_raiseD (hX : XCx R T X E) (hs : XSx R T X E) (hx : x ∈ T.ers) (hg : Gl X x) (hdb : (x == ("__debug__" : Str)) = false) (ha : PE X a (wE R E fa)) (he : starEach (a :: []) X.env = (false, eval a X.env) :: starEach [] X.env) :
    PS X (.Raise (some (.Call (.Name x p) [a] [] pos)) none pos2) (wS R L E (sRaise x fa)) := by
  obtain ⟨C, B, fB, fI, e1, e2, e3, e4⟩ := (hs.er x hx).ex
  obtain ⟨j, hr, _⟩ := hX.tab
  refine PS_imp (ps_raise hX.calm hs.tk (pmk_err e3 (hs.mo fun z => by rw [z] at hx; cases hx) e2 hr (pa_cons ha pa_nil he) hg hdb he)) fun Dn σ H ⟨b, g, t, ρ, S, k⟩ => ⟨g, t, ρ, S.rel, (EO.bnd S k).mono fun g' H' t' d w k' xv r => ?_⟩
  refine ⟨xv, rfl, fun dd hdd => ?_⟩
  have k2 : XOk R b.g0 t' b.H0 x d E := k'
  have w2 : Grow R g' H' g' (upd H' dd (.xd (xfs x xv))) t' := Grow.laid w.ok hdd
  exact k2 g' _ C dd (xfs x xv) xv ((S.gr.trans b.ok w).trans b.ok w2) e1 upd_same (by simp [List.lookup]; rfl) r
theorem takes_len {W : WX} (t : Takes X W) : Takes X fun c d σ H => σ.length = X.N.length → W c d σ H := fun u s' ⟨a, B, sI, pins, σ, H, cls, d, e, I, nb, up, sky, na, os, ag, w⟩ =>
  t u s' ⟨a, B, sI, pins, σ, H, cls, d, e, I, nb, up, sky, na, os, ag, w I.len⟩
theorem ps_tryD {i : Nat} {yp ap rp np hpos : Pos} {body : List Stmt} (hX : XCx R T X E) (hs : XSx R T X E) (hx : x ∈ T.ers) (hg : Gl X x) (hdb : (x == ("__debug__" : Str)) = false) (hi : X.N[i]? = some nm) (hv : Vis X.env.scope nm) (hd1 : (nm == ("__debug__" : Str)) = false) (hd2 : (nm == ("__classdict__" : Str)) = false) (hln : X.env.kindOf nm = some .local)
    (hb : ∀ (E' : XK) (pn : List (Addr × Obj)) (xe : Value → Shared → Prop), Takes (X.tr pn xe) (fun cls d _ H => E' cls d H) → PassesOwn (model X.prog X.w) X.A X.env xe → PSs (X.tr pn xe) body (wS R L E' fb)) :
    PS X (.Try body [.ExceptHandler (some (.Name x np)) (some nm) [.Return (some (.Attribute (.Name nm yp) "place" ap)) rp] hpos] [] [] pos) (wS R L E (sTry x fb)) := by
  obtain ⟨C, B, fB, fI, e1, e2, e3, e4⟩ := (hs.er x hx).ex
  have hN : i < X.N.length := (List.getElem?_eq_some_iff.mp hi).1
  refine PS_imp (ps_try_as (tb := fun W => wS R L (fun cls d H => ∀ σ : L2.St, σ.length = X.N.length → W cls d σ H) fb) (ts := fun a cls d => tRet (tXf a cls d C "place" (tVar i))) (Wout := fun cls d _ H => E cls d H) (c := .ref C) (i := i)
    hs.hs hs.hf hX.nd hi hln ⟨hg, hdb, .inl e2⟩ hs.tk (fun W pn xe tk po => hb _ pn xe ((takes_len (X := X.tr pn xe) tk).imp fun c d σ H z q => z σ q) po) (fun a oe cls d pn hz hf => ?_)) fun Dn σ H ⟨b, g, t, ρ, S, k⟩ => ⟨b, g, t, ρ, S, ?_⟩
  · exact pss_one (ps_ret (pe_xf e4 e3.noP hz hf (pe_var hi hv hd1 hd2)))
  · unfold sTry at k
    cases e : fb ρ t with
    | ok fl t' => rw [e] at k; cases fl <;> exact k
    | bad => rw [e] at k; exact k
    | exc c0 d0 t' =>
      rw [e] at k
      by_cases h : c0 = x
      · subst h
        have k2 : EO R b Dn E (.ok (.rt d0) t') := by
          have := k
          simp only [if_true] at this
          exact this
        intro g' H' C' dd fs v w hcl hdd hlk r σ' hlen
        rw [e1] at hcl
        cases hcl
        refine ⟨true, e3.te, fun _ a ha => ?_, fun z => by cases z⟩
        have hlt : i < σ'.length := by rw [hlen]; exact hN
        exact ⟨.ref a, by rw [List.getElem?_set_self hlt], rfl, rfl, dd, fs, v, rfl, hdd, hlk, k2 g' H' v w r⟩
      · have : EO R b Dn E (.bad : Out Fl) := by
          have := k
          simp only [if_neg h] at this
          exact this
        exact (this : False).elim
end
end Kw
namespace Kw
open PySem PySem.Spec PyProof.Rows L2
section
variable {R : Rc} {T : Tb} {c : Tc} {X : Cx} {E : XK} {σ : L2.St} {H : Hp} {Q : VK} {L : List Nat} {Dn : Ends}
theorem slL_imp {f : DA} (h : wSl R E (slL f) σ H Q) : wL R E f σ H Q := by
  obtain ⟨g, t, ρ, S, w⟩ := h
  exact ⟨g, t, ρ, S, (W1.bnd S.ok w).mono fun g' H' t' d w' k p vs hp r => k g' _ (Grow.laid w'.ok hp) (.ref p) [p] (.own (own_new w'.ok hp (.lst r))) fun a z => by
    have : a = p := by simpa using z
    subst this
    exact w'.fr0 S.ok (.of hp)⟩
theorem slV_imp {f : DE} (h : wSl R E (slV f) σ H Q) : wE R E f σ H Q := by
  obtain ⟨g, t, ρ, S, w⟩ := h
  exact ⟨g, t, ρ, S, (W1.bnd S.ok w).mono fun g' H' t' d w' k x r => W1.at w'.ok k x [] (.val r) fun a z => by cases z⟩
theorem eFl_imp {f : DA} (h : wE R E (eFl f) σ H Q) : wL R E f σ H Q := by
  obtain ⟨g, t, ρ, S, w⟩ := h
  exact ⟨g, t, ρ, S, (W1.bnd S.ok w).mono fun g' H' _ d w' k p vs hp r => doneL w'.ok k r hp⟩
theorem trSl_imp {b : Bool} {f : DA} (h : wSl R E (trSl c b (.lst f : Rs semAlg)) σ H Q) : wL R E f σ H Q := by
  cases b with
  | true => exact slL_imp h
  | false => exact eFl_imp (slV_imp h)
theorem trSl_ok {b : Bool} {r : Rs semAlg} {e : Expr} (h : Snd R X E r e) : PE X e (wSl R E (trSl c b r)) := by
  cases b <;> cases r <;> first | exact slV_of (Snd_e h) | exact slL_of h | exact slD_of h
theorem asg_imp {i : Nat} {fs : DSl} (hL : i ∉ L) (h : wS R L E (sSet i fs) Dn σ H) : tAsg (wSl R E fs) (gName i) Dn σ H := by
  obtain ⟨b, g, t, ρ, S, k⟩ := h
  refine ⟨g, t, ρ, S.rel, ?_⟩
  have w := EO.bnd S k
  revert w
  cases fs ρ t with
  | ok s t' => exact fun w g' H' q x as r hn => w g' H' q _ _ _ (S.set (Hs := H) hL q r hn)
  | exc c d t' => exact fun w => w
  | bad => exact fun w => w
theorem swaps_not {e : Expr} {o : Option Expr} {l : Nat} {env : PySem.Env} (h : notComp e = true) : swapsWith e o l env = pure false := by
  cases e <;> first | rfl | cases h
theorem blockK {env : PySem.Env} (h : env.scope.kind = .function) : env.blockKind = .function := by
  unfold Env.blockKind; rw [h]; rfl
theorem swaps_lc {env : PySem.Env} (hk : env.scope.kind = .function) {elt : Expr} {gs : List Comprehension} {scope : Scope} {vp py : Pos} {x : Str} {l : Nat} : swapsWith (.ListComp elt gs scope vp) (some (.Name x py)) l env = pure (swL env.scope scope x py vp) := by
  unfold swapsWith swL
  simp only [blockK hk, Expr.pos]
  rfl
theorem swaps_dc {env : PySem.Env} (hk : env.scope.kind = .function) {kx vx : Expr} {gs : List Comprehension} {scope : Scope} {vp py : Pos} {x : Str} {l : Nat} : swapsWith (.DictComp kx vx gs scope vp) (some (.Name x py)) l env = pure (swL env.scope scope x py vp) := by
  unfold swapsWith swL
  simp only [blockK hk, Expr.pos]
  rfl
theorem swL_local {sc scope : Scope} {x : Str} {py vp : Pos} (h : swL sc scope x py vp = true) : sc.names.lookup x = some .local := by
  unfold swL at h
  simp only [Bool.and_eq_true] at h
  exact eq_of_beq h.1.1
theorem lock_ok {i : Nat} (h : lockB c i = true) : i ∉ c.lock := by
  unfold lockB at h
  intro hm
  rw [List.contains_iff_mem.mpr hm] at h
  cases h
/-! lists of targets -/
theorem tgNames_N (hX : XCx R T X E) (hc : TcX c X) : ∀ {es : List Expr} {is : List Nat}, tgNames c es = some is → PGs X es (gNs is)
  | [], is, h => by cases h; exact pgs_nilN
  | e :: es, is, h => by
    cases e <;> first | cases h | skip
    rename_i x p
    obtain ⟨h1, h2⟩ := gd_some h
    obtain ⟨i, is', hi, his, rfl⟩ := o2_some h2
    obtain ⟨l1, l2⟩ := locB_ok hc h1
    exact pgs_consN (pg_name hX.nd (by rw [hc.N]; exact ixOf_some hi) l1 l2) (tgNames_N hX hc his) (by rw [assign_cons rfl]; rfl)
theorem tgNames_S (hX : XCx R T X E) (hc : TcX c X) : ∀ {es : List Expr} {is : List Nat}, tgNames c es = some is → (∀ i ∈ is, i ∉ L) → PGs X es (wGsS R L is)
  | [], is, h, _ => by cases h; exact pgs_nilS
  | e :: es, is, h, hL => by
    cases e <;> first | cases h | skip
    rename_i x p
    obtain ⟨h1, h2⟩ := gd_some h
    obtain ⟨i, is', hi, his, rfl⟩ := o2_some h2
    obtain ⟨l1, l2⟩ := locB_ok hc h1
    exact pgs_consS (pg_nmS (hL i (List.mem_cons_self ..)) hX.nd (by rw [hc.N]; exact ixOf_some hi) l1 l2) (tgNames_S hX hc his fun j hj => hL j (List.mem_cons_of_mem _ hj)) (by rw [assign_cons rfl]; rfl)
theorem trTg_S (hX : XCx R T X E) (hc : TcX c X) {e : Expr} {g : Tg} (h : trTg c e = some g) (hL : ∀ i ∈ g.idx, i ∉ L) : PG X e (wGS R L g) := by
  unfold trTg at h
  split at h
  · obtain ⟨h1, h2⟩ := gd_some h
    obtain ⟨i, hi, rfl⟩ := map_some h2
    obtain ⟨l1, l2⟩ := locB_ok hc h1
    exact pg_nmS (hL i (by simp [Tg.idx])) hX.nd (by rw [hc.N]; exact ixOf_some hi) l1 l2
  · obtain ⟨is, his, rfl⟩ := map_some h
    obtain ⟨_, q2, q3⟩ := tgNames_ok hX hc his
    exact pg_tpS hX.K hX.calm (tgNames_S hX hc his hL) q2 q3
  · cases h
theorem lock_all {is : List Nat} (h : is.all (lockB c) = true) : ∀ i ∈ is, i ∉ c.lock := fun i hi => lock_ok (List.all_eq_true.mp h i hi)
theorem trSls_ok (hX : XCx R T X E) (hc : TcX c X) {n : Nat} : ∀ {is : List Nat} {es : List Expr} {g : Kw.Env → M (List Slot)}, trSls (G := semAlg) T n c is es = some g → PA X es (wAS R E g) ∧ is.length = es.length
  | [], [], g, h => by cases h; exact ⟨pa_nilS, rfl⟩
  | [], _ :: _, g, h => by cases h
  | _ :: _, [], g, h => by cases h
  | i :: is, e :: es, g, h => by
    obtain ⟨h1, h2⟩ := gd_some h
    obtain ⟨s, r, hs, hr, rfl⟩ := o2_some h2
    obtain ⟨r', hr', rfl⟩ := map_some hs
    obtain ⟨q1, q2⟩ := trSls_ok hX hc hr
    exact ⟨pa_consS (trSl_ok (trR_ok n c X E hX hc e r' hr')) q1 (star_cons h1), by simp [q2]⟩
/-! the order of the stores -/
theorem swD_ok {env : PySem.Env} (hk : env.scope.kind = .function) {ts vs : List Expr} {r : Option (List Str)} {kt k2 : Nat} {pt pt2 : Pos} (h : swD env.scope ts vs = some r) : swappedStores [.Tuple ts kt pt] (.Tuple vs k2 pt2) env = pure r := by
  unfold swD at h
  unfold swappedStores
  simp only [blockK hk]
  have e1 : (ScopeKind.function != ScopeKind.function) = false := rfl
  simp only [e1, Bool.or_false]
  show (if (!(ts.length == 2 || ts.length == 3) || vs.length != ts.length) = true then pure none
    else if vs.any isStr = true then pure none
    else if ((swNames env.scope ts).length != ts.length || (swNames env.scope ts).eraseDups.length != (swNames env.scope ts).length) = true then pure none
    else if vs.all (foldedForSure 8) = true then pure none
    else if vs.all (constantsAlone 8) = true then (do
      unsupported "assign.tuple-of-constant-expressions:order-of-the-stores"
      pure (some (swNames env.scope ts)))
    else pure (some (swNames env.scope ts))) = (pure r : Sem (Option (List Str)))
  generalize hn : swNames env.scope ts = ns at h ⊢
  by_cases hc1 : (!(ts.length == 2 || ts.length == 3) || vs.length != ts.length) = true
  · rw [if_pos hc1] at h ⊢
    cases h; rfl
  · rw [if_neg hc1] at h ⊢
    by_cases hc2 : vs.any isStr = true
    · rw [if_pos hc2] at h ⊢
      cases h; rfl
    · rw [if_neg hc2] at h ⊢
      by_cases hc3 : (ns.length != ts.length || ns.eraseDups.length != ns.length) = true
      · rw [if_pos hc3] at h ⊢
        cases h; rfl
      · rw [if_neg hc3] at h ⊢
        by_cases hc4 : vs.all (foldedForSure 8) = true
        · rw [if_pos hc4] at h ⊢
          cases h; rfl
        · rw [if_neg hc4] at h ⊢
          by_cases hc5 : vs.all (constantsAlone 8) = true
          · rw [if_pos hc5] at h
            cases h
          · rw [if_neg hc5] at h ⊢
            cases h; rfl
end
end Kw
namespace Kw
open PySem PySem.Spec PyProof.Rows L2
section
variable {R : Rc} {T : Tb} {c : Tc} {X : Cx} {E : XK} {n : Nat}
theorem swSub {o i e : Expr} {p : Pos} {l : Nat} {env : PySem.Env} : swapsWithSole [.Subscript o i p] e l env = pure false := by
  show swapsWith e (some (.Subscript o i p)) l env = pure false
  cases e <;> rfl
theorem swAttr {o e : Expr} {f : Str} {p : Pos} {l : Nat} {env : PySem.Env} : swapsWith e (some (.Attribute o f p)) l env = pure false := by
  cases e <;> rfl
theorem few1 {e : Expr} {cp : Pos} {env : PySem.Env} (h : nst e = true) : ((backTo cp (starEach [e] env)).all (fun x => !x.1) && (backToKw cp (keywordEach [] env)).all (fun x => x.1.isSome) && decide ([e].length + ([] : List Keyword).length + (if ([] : List Keyword).isEmpty then 0 else 1) < 30)) = true := by
  rw [star_cons h]; rfl
theorem is_lc {e : Expr} : notComp e = true ∨ (∃ a b c d, e = .ListComp a b c d) ∨ (∃ a b c d, e = .SetComp a b c d) ∨ ∃ a b c d f, e = .DictComp a b c d f := by
  cases e <;> first | exact .inl rfl | exact .inr (.inl ⟨_, _, _, _, rfl⟩) | exact .inr (.inr (.inl ⟨_, _, _, _, rfl⟩)) | exact .inr (.inr (.inr ⟨_, _, _, _, _, rfl⟩))
/-- x = e, a value as it comes -/
theorem set_gen (hX : XCx R T X E) (hc : TcX c X) {x : Str} {py pos : Pos} {e : Expr} {i : Nat} (hl : locB c x = true) (hi : ixOf c.N x = some i) (hL : lockB c i = true) {r : Rs semAlg} {b : Bool} (hr : trR T n c e = some r) (hd : ∀ a b' cc scope vp, e = .DictComp a b' cc scope vp → swL c.sc scope x py vp = false) :
    PS X (.Assign [.Name x py] e pos) (wS R c.lock E (sSet i (trSl c b r))) := by
  obtain ⟨l1, l2⟩ := locB_ok hc hl
  have hN : X.N[i]? = some x := by rw [hc.N]; exact ixOf_some hi
  have hsnd := trR_ok n c X E hX hc e r hr
  rcases is_lc (e := e) with hnc | ⟨a, gs, scope, vp, rfl⟩ | ⟨a, gs, scope, vp, rfl⟩ | ⟨a, b', gs, scope, vp, rfl⟩
  · exact ps_setD (lock_ok hL) hX.nd hN l1 (trSl_ok hsnd) (swaps_not hnc) l2
  · cases hs : swL X.env.scope scope x py vp with
    | false => exact ps_setD (lock_ok hL) hX.nd hN l1 (trSl_ok hsnd) (by rw [swaps_lc hX.kind, hs]) l2
    | true =>
      cases n with
      | zero => cases hr
      | succ n =>
        have hr : rStep T (trR T n) n c (.ListComp a gs scope vp) = some r := hr
        obtain ⟨f, hf, rfl⟩ := map_some (show (rComp T (trR T n) n c a gs scope).map Rs.lst = some r from hr)
        have lp := rComp_ok (trR_ok n) hX hc hf
        exact PS_imp (lp.ps hX hN (swL_local hs) (by rw [swaps_lc hX.kind, hs])) fun Dn σ H h => trSl_imp (asg_imp (lock_ok hL) h)
  · cases n with
    | zero => cases hr
    | succ n => cases (show rStep T (trR T n) n c (.SetComp a gs scope vp) = some r from hr)
  · have := hd a b' gs scope vp rfl
    rw [← hc.sc] at this
    exact ps_setD (lock_ok hL) hX.nd hN l1 (trSl_ok hsnd) (by rw [swaps_dc hX.kind, this]) l2
theorem trSetR_ok (hX : XCx R T X E) (hc : TcX c X) {x : Str} {py pos : Pos} {e : Expr} {i : Nat} (hl : locB c x = true) (hi : ixOf c.N x = some i) (hL : lockB c i = true) {f : DS} (h : trSetR (G := semAlg) T n c x py e i = some f) : PS X (.Assign [.Name x py] e pos) (wS R c.lock E f) := by
  unfold trSetR at h
  split at h
  · rename_i pl y p it scope vp _
    obtain ⟨h1, h2⟩ := gd_some h
    simp only [Bool.and_eq_true] at h1
    obtain ⟨hb, hs⟩ := h1
    split at h2
    · rename_i j a hg ha
      obtain ⟨h3, h4⟩ := gd_some h2
      cases h4
      have hix : j ∈ (ownOf c.N scope).map (·.2) := inIx_ok h3 j (by simp)
      have hk := blkC_kind hb
      have ok : BlkOk X.N X.env.scope scope (ownOf c.N scope) := by rw [hc.N, hc.sc]; exact blkOk_by hb
      obtain ⟨l1, l2⟩ := locB_ok hc hl
      have hN : X.N[i]? = some x := by rw [hc.N]; exact ixOf_some hi
      have tg := fun (s : Shared) (H : Hp) (C : Addr) (cl : List (Str × Addr)) (fp : List Addr) => trTg_ok (hX.blk hk s H C cl fp) (blkTc_ok hc s H C cl fp) hg
      have hi' := (rI_ok (trR_ok n) hX hc (tg := .Name y p) ha).1
      have el := fun (s : Shared) (H : Hp) (C : Addr) (cl : List (Str × Addr)) (fp : List Addr) => pe_lst (X := X.blk s H scope (compEnvC scope cl C X.env) fp) (pos := pl) pa_nil
      have ts := fun (s : Shared) (H : Hp) (C : Addr) (cl : List (Str × Addr)) (fp : List Addr) => pts_nil (X := X.blk s H scope (compEnvC scope cl C X.env) fp)
      cases hsw : swL X.env.scope scope x py vp with
      | true => exact PS_imp (ps_setLc hX.calm hX.nd hN (swL_local hsw) (by rw [swaps_lc hX.kind, hsw]) hi' ok tg ts el (folded hs)) fun Dn σ H h => nn_imp hix (asg_imp (lock_ok hL) h)
      | false => exact ps_setD (lock_ok hL) hX.nd hN l1 (PE_imp (pe_lc hX.calm hX.nd hi' ok tg ts el (folded hs)) fun σ H Q h => nn_imp hix h) (by rw [swaps_lc hX.kind, hsw]) l2
    · cases h2
  · split at h
    · split at h
      · rename_i f hr
        obtain ⟨h1, h2⟩ := gd_some h
        cases h2
        obtain ⟨l1, l2⟩ := locB_ok hc hl
        have hN : X.N[i]? = some x := by rw [hc.N]; exact ixOf_some hi
        exact ps_setD (lock_ok hL) hX.nd hN l1 (slV_of (pe_tapeD (trR_ok n c X E hX hc _ _ hr))) (swaps_not h1) l2
      · cases h
    · split at h
      · obtain ⟨h1, h2⟩ := gd_some h
        obtain ⟨r, hr, rfl⟩ := map_some h2
        exact set_gen hX hc hl hi hL hr fun a b' cc scope vp e => by
          cases e
          simpa using h1
      · rename_i hnd
        obtain ⟨r, hr, rfl⟩ := map_some h
        exact set_gen hX hc hl hi hL hr fun a b' cc scope vp e' => absurd e' (hnd _ _ _ _ _)
theorem mem_two {sc : Scope} {ts vs : List Expr} {names : List Str} (h : swD sc ts vs = some (some names)) : (ts.length = 2 ∨ ts.length = 3) ∧ vs.length = ts.length ∧ names = swNames sc ts ∧ (swNames sc ts).length = ts.length := by
  unfold swD at h
  by_cases hc1 : (!(ts.length == 2 || ts.length == 3) || vs.length != ts.length) = true
  · rw [if_pos hc1] at h; cases h
  · rw [if_neg hc1] at h
    by_cases hc2 : vs.any isStr = true
    · rw [if_pos hc2] at h; cases h
    · rw [if_neg hc2] at h
      by_cases hc3 : ((swNames sc ts).length != ts.length || (swNames sc ts).eraseDups.length != (swNames sc ts).length) = true
      · rw [if_pos hc3] at h; cases h
      · rw [if_neg hc3] at h
        by_cases hc4 : vs.all (foldedForSure 8) = true
        · rw [if_pos hc4] at h; cases h
        · rw [if_neg hc4] at h
          by_cases hc5 : vs.all (constantsAlone 8) = true
          · rw [if_pos hc5] at h; cases h
          · rw [if_neg hc5] at h
            cases h
            simp at hc1 hc3
            refine ⟨?_, hc1.2, rfl, hc3.1⟩
            have := hc1.1
            omega
theorem nmf_name {sc : Scope} {L : Nat} {x : Str} {p : Pos} {y : Str} (h : nmf sc L (.Name x p) = some y) : y = x ∧ sc.names.lookup x = some .local := by
  have h : (if (sc.names.lookup x == some .local && p.line == L) = true then some x else none) = some y := h
  by_cases hc : (sc.names.lookup x == some .local && p.line == L) = true
  · rw [if_pos hc] at h
    cases h
    simp only [Bool.and_eq_true] at hc
    exact ⟨rfl, eq_of_beq hc.1⟩
  · rw [if_neg hc] at h; cases h
theorem names_eq {sc : Scope} {L : Nat} : ∀ {xs : List (Str × Pos)}, ((xs.map fun q => Expr.Name q.1 q.2).filterMap (nmf sc L)).length = xs.length → ((xs.map fun q => Expr.Name q.1 q.2).filterMap (nmf sc L)) = xs.map (·.1) ∧ ∀ q ∈ xs, sc.names.lookup q.1 = some .local
  | [], _ => ⟨rfl, fun q hq => by cases hq⟩
  | q :: xs, h => by
    have le := List.length_filterMap_le (nmf sc L) (xs.map fun q => Expr.Name q.1 q.2)
    rw [List.length_map] at le
    rw [List.map_cons, List.filterMap_cons] at h ⊢
    cases e : nmf sc L (.Name q.1 q.2) with
    | none =>
      rw [e] at h
      simp only [List.length_cons] at h
      omega
    | some y =>
      rw [e] at h
      obtain ⟨rfl, hl⟩ := nmf_name e
      obtain ⟨h1, h2⟩ := names_eq (xs := xs) (by simpa using h)
      refine ⟨by simp only [h1, List.map_cons], fun q' hq' => ?_⟩
      rcases List.mem_cons.mp hq' with rfl | hq'
      · exact hl
      · exact h2 q' hq'
theorem tg_names : ∀ {ts : List Expr} {is : List Nat}, tgNames c ts = some is → ∃ xs : List (Str × Pos), ts = xs.map fun q => Expr.Name q.1 q.2
  | [], _, _ => ⟨[], rfl⟩
  | e :: es, is, h => by
    cases e <;> first | cases h | skip
    rename_i x p
    obtain ⟨_, h2⟩ := gd_some h
    obtain ⟨i, is', hi, his, rfl⟩ := o2_some h2
    obtain ⟨xs, rfl⟩ := tg_names his
    exact ⟨(x, p) :: xs, rfl⟩
end
end Kw
namespace Kw
open PySem PySem.Spec PyProof.Rows L2
section
variable {R : Rc} {T : Tb} {c : Tc} {X : Cx} {E : XK} {n : Nat}
theorem ixOfs {ts : List (Str × Pos)} : ∀ {is : List Nat}, tgNames c (ts.map fun q => Expr.Name q.1 q.2) = some is → is.length = ts.length ∧ ∀ (k i : Nat) (q : Str × Pos), is[k]? = some i → ts[k]? = some q → c.N[i]? = some q.1 := by
  induction ts with
  | nil => intro is h; cases h; exact ⟨rfl, fun k i q h => by simp at h⟩
  | cons p ts ih =>
    intro is h
    obtain ⟨_, h2⟩ := gd_some h
    obtain ⟨i, is', hi, his, rfl⟩ := o2_some h2
    obtain ⟨q1, q2⟩ := ih his
    refine ⟨by simp [q1], fun k j q e1 e2 => ?_⟩
    cases k with
    | zero => simp at e1 e2; subst e1; subst e2; exact ixOf_some hi
    | succ k => exact q2 k j q (by simpa using e1) (by simpa using e2)
theorem par_ok (hX : XCx R T X E) (hc : TcX c X) {ts es : List Expr} {is : List Nat} {kt k2 : Nat} {pt pt2 pos : Pos} (hts : tgNames c ts = some is) (hL : ∀ i ∈ is, i ∉ c.lock) (hnd : is.Nodup) (hlen : is.length ≤ 1000) {o : Option (List Str)} (hsw : swD c.sc ts es = some o) {ga : Kw.Env → M (List Slot)}
    (hga : trSls (G := semAlg) T n c is es = some ga) : PS X (.Assign [.Tuple ts kt pt] (.Tuple es k2 pt2) pos) (wS R c.lock E (sPar is ga)) := by
  obtain ⟨pa, hl⟩ := trSls_ok hX hc hga
  have hsw' := hsw
  rw [← hc.sc] at hsw'
  have hss := swD_ok (kt := kt) (k2 := k2) (pt := pt) (pt2 := pt2) hX.kind hsw'
  have hsole : swapsWithSole [.Tuple ts kt pt] (.Tuple es k2 pt2) pos.line X.env = pure false := rfl
  obtain ⟨q1, q2, q3⟩ := tgNames_ok hX hc hts
  cases o with
  | none => exact ps_parD hL hX.calm (tgNames_N hX hc hts) q2 q3 pa (by omega) hsole hss rfl
  | some names =>
    obtain ⟨h23, hvl, rfl, hnl⟩ := mem_two hsw'
    obtain ⟨xs, rfl⟩ := tg_names hts
    obtain ⟨hil, hix⟩ := ixOfs hts
    have hnl' := hnl
    unfold swNames at hnl'
    rw [List.length_map] at hnl'
    obtain ⟨ne, nl⟩ := names_eq hnl'
    have nn : swNames X.env.scope (xs.map fun q => Expr.Name q.1 q.2) = xs.map (·.1) := ne
    rw [nn] at hss
    rw [List.length_map] at h23
    rw [List.length_map] at hvl
    rcases h23 with h2 | h3
    · match xs, is, es, h2, hil, hvl, hss, nl, hix, hL, hnd, pa with
      | [a, b], [i, j], [e1, e2], _, _, _, hss, nl, hix, hL, hnd, pa =>
        exact ps_par2D hL hX.calm hX.nd (by rw [hc.N]; exact hix 0 i a rfl rfl) (by rw [hc.N]; exact hix 1 j b rfl rfl) (by simp at hnd; exact hnd) (nl a (by simp)) (nl b (by simp)) pa hss hsole
    · match xs, is, es, h3, hil, hvl, hss, nl, hix, hL, hnd, pa with
      | [a, b, d], [i, j, l], [e1, e2, e3], _, _, _, hss, nl, hix, hL, hnd, pa =>
        simp at hnd
        exact ps_par3D hL hX.calm hX.nd (by rw [hc.N]; exact hix 0 i a rfl rfl) (by rw [hc.N]; exact hix 1 j b rfl rfl) (by rw [hc.N]; exact hix 2 l d rfl rfl) hnd.1.1 hnd.1.2 hnd.2 (nl a (by simp)) (nl b (by simp)) (nl d (by simp)) pa hss hsole
theorem trAsg_ok (hX : XCx R T X E) (hc : TcX c X) {tg e : Expr} {pos : Pos} {f : DS} (h : trAsg (G := semAlg) T n c tg e = some f) : PS X (.Assign [tg] e pos) (wS R c.lock E f) := by
  unfold trAsg at h
  split at h
  · rename_i x py
    obtain ⟨hl, h⟩ := gd_some h
    split at h
    · rename_i i hi
      obtain ⟨hL, h⟩ := gd_some h
      have gen : trSetR (G := semAlg) T n c x py e i = some f → PS X (.Assign [.Name x py] e pos) (wS R c.lock E f) := fun h => trSetR_ok hX hc hl hi hL h
      split at h
      · rename_i y p2 m ap cp
        split at h
        · rename_i hm
          subst hm
          obtain ⟨h1, h2⟩ := gd_some h
          obtain ⟨j, hj, rfl⟩ := map_some h2
          obtain ⟨l1, l2⟩ := locB_ok hc hl
          obtain ⟨a1, a2, a3, a4⟩ := trN_ok hc hj
          exact ps_popD (lock_ok hL) hX.K hX.nd (by rw [hc.N]; exact ixOf_some hi) l1 l2 a1 a2 a3 a4 (attr_base rfl) h1 (swaps_not rfl)
        · exact gen h
      · exact gen h
    · cases h
  · rename_i ts kt pt
    split at h
    · rename_i is his
      obtain ⟨hL, h⟩ := gd_some h
      have hL' := lock_all hL
      split at h
      · rename_i es k2 pt2
        obtain ⟨h1, h2⟩ := gd_some h
        obtain ⟨ga, hga, rfl⟩ := map_some h2
        simp only [Bool.and_eq_true, decide_eq_true_eq] at h1
        obtain ⟨o, ho⟩ := Option.isSome_iff_exists.mp h1.2
        exact par_ok hX hc his hL' h1.1.1 h1.1.2 ho hga
      · rename_i hnt
        obtain ⟨h1, h2⟩ := gd_some h
        obtain ⟨fe, hfe, rfl⟩ := map_some h2
        obtain ⟨_, q2, q3⟩ := tgNames_ok hX hc his
        refine ps_unpD (rE_ok (trR_ok n) hX hc hfe) (pg_tpS hX.K hX.calm (tgNames_S hX hc his hL') q2 q3) (by show swapsWith e (some (.Tuple ts kt pt)) pos.line X.env = pure false; exact swaps_not h1) ?_ rfl
        cases e <;> first | rfl | exact absurd rfl (hnt _ _ _)
    · cases h
  · rename_i x p1 ei p2
    obtain ⟨h1, h⟩ := gd_some h
    split at h
    · rename_i j hj
      obtain ⟨fv, fi, hv, hi, rfl⟩ := o2_some h
      obtain ⟨a1, a2, a3, a4⟩ := trN_ok hc hj
      have hu := hX.hu
      exact ps_putD (by omega) a1 a2 a3 a4 (rE_ok (trR_ok n) hX hc hv) (rB_ok (trR_ok n) hX hc hi) swSub (by cases e <;> rfl) rfl (fun _ => by cases ei <;> first | rfl | cases h1)
    · cases h
  · rename_i x p1 fn p2
    split at h
    · rename_i j hj
      obtain ⟨h1, h2⟩ := gd_some h
      obtain ⟨fe, hfe, rfl⟩ := map_some h2
      simp only [Bool.and_eq_true] at h1
      obtain ⟨a1, a2, a3, a4⟩ := trN_ok hc hj
      exact ps_fldD hX.K a1 a2 a3 a4 (rE_ok (trR_ok n) hX hc hfe) (hX.fl _ (by simpa using h1.1)) swAttr
    · cases h
  · cases h
theorem trEx_ok (hX : XCx R T X E) (hc : TcX c X) {e : Expr} {pos : Pos} {f : DS} (h : trEx (G := semAlg) T n c e = some f) : PS X (.Expr e pos) (wS R c.lock E f) := by
  have gen : ∀ {f : DS}, notComp e = true → (rE (trR T n) c e).map semAlg.expr = some f → PS X (.Expr e pos) (wS R c.lock E f) := fun hn h => by
    obtain ⟨fe, hfe, rfl⟩ := map_some h
    exact ps_exprD (rE_ok (trR_ok n) hX hc hfe) (swaps_not hn)
  unfold trEx at h
  split at h
  · cases h; exact ps_docD
  · rename_i x p1 m ap a cp
    split at h
    · rename_i hm
      subst hm
      obtain ⟨h1, h2⟩ := gd_some h
      obtain ⟨i, fe, hi, hfe, rfl⟩ := o2_some h2
      simp only [Bool.and_eq_true] at h1
      obtain ⟨a1, a2, a3, a4⟩ := trN_ok hc hi
      exact ps_appD hX.K a1 a2 a3 a4 (rE_ok (trR_ok n) hX hc hfe) (attr_base rfl) (few1 h1.2) h1.1 (star_cons h1.2) (star_any rfl) (swaps_not rfl)
    · split at h
      · rename_i hm
        subst hm
        obtain ⟨h1, h2⟩ := gd_some h
        simp only [Bool.and_eq_true] at h1
        split at h2
        · rename_i i fe hi hfe
          cases h2
          obtain ⟨a1, a2, a3, a4⟩ := trN_ok hc hi
          exact ps_updD hX.K a1 a2 a3 a4 (trR_ok n c X E hX hc _ _ hfe) (attr_base rfl) (few1 h1.2) h1.1 (star_cons h1.2) (star_any rfl) (swaps_not rfl)
        · cases h2
      · split at h
        · rename_i hm
          subst hm
          obtain ⟨h1, h2⟩ := gd_some h
          simp only [Bool.and_eq_true] at h1
          split at h2
          · rename_i i fe hi hfe
            cases h2
            obtain ⟨a1, a2, a3, a4⟩ := trN_ok hc hi
            exact ps_extD hX.K a1 a2 a3 a4 (trR_ok n c X E hX hc _ _ hfe) (attr_base rfl) (few1 h1.2) h1.1 (star_cons h1.2) (star_any rfl) (swaps_not rfl)
          · cases h2
        · exact gen rfl h
  · rename_i x p1 ei p2 m ap a cp
    split at h
    · rename_i hm
      subst hm
      obtain ⟨h1, h2⟩ := gd_some h
      simp only [Bool.and_eq_true] at h1
      split at h2
      · rename_i j hj
        obtain ⟨fi, fe, hi, hfe, rfl⟩ := o2_some h2
        obtain ⟨a1, a2, a3, a4⟩ := trN_ok hc hj
        exact ps_napD hX.K a1 a2 a3 a4 (rB_ok (trR_ok n) hX hc hi) (plain_ix h1.2) (rE_ok (trR_ok n) hX hc hfe) (attr_base rfl) (few1 h1.1.2) h1.1.1 (star_cons h1.1.2) (star_any rfl) (swaps_not rfl)
      · cases h2
    · cases h
  · obtain ⟨h1, h2⟩ := gd_some h
    exact gen h1 h2
theorem fzG_ok {st : Stmt} {is : List Nat} {f : DS} (h : PS X st (wS R c.lock E f)) : PS X st (wS R c.lock E (fzG (G := semAlg) is f)) := by
  cases is with
  | nil => exact h
  | cons i is => exact ps_fz _ h
theorem rSs_ok {g : Stmt → Option DS} (hg : ∀ st f, g st = some f → PS X st (wS R c.lock E f)) : ∀ {sts : List Stmt} {f : DS}, rSs (G := semAlg) g sts = some f → PSs X sts (wS R c.lock E f)
  | [], f, h => by cases h; exact pss_nilD
  | [st], f, h => PSs_imp (pss_one (hg _ _ h)) fun _ _ _ h => h
  | st :: st2 :: rest, f, h => by
    obtain ⟨a, b, ha, hb, rfl⟩ := o2_some h
    exact pss_consD (hg _ _ ha) (rSs_ok hg hb)
theorem XCx.tr (h : XCx R T X E) {E' : XK} {pn : List (Addr × Obj)} {xe : Value → Shared → Prop} (tk : Takes (X.tr pn xe) fun cls d _ H => E' cls d H) : XCx R T (X.tr pn xe) E' :=
  ⟨h.K, h.calm, h.nd, h.hu, h.kind, h.bt, h.fl, passes_call tk fun _ _ _ _ h => h, h.tab, h.lm, h.eq⟩
theorem trS_ok : ∀ (k : Nat) (X : Cx) (E : XK) (hX : XCx R T X E) (hc : TcX c X) (hs : XSx R T X E), ∀ st f, trS (G := semAlg) T n c k st = some f → PS X st (wS R c.lock E f)
  | 0, X, E, hX, hc, hs, st, f, h => by cases h
  | k + 1, X, E, hX, hc, hs, st, f, h => by
    have ih := trS_ok k X E hX hc hs
    have h : trStep T n c (trS (G := semAlg) T n c k) st = some f := h
    unfold trStep at h
    split at h
    · cases h; exact ps_skip
    · cases h; exact ps_brkD
    · cases h; exact ps_cntD
    · cases h; exact ps_retND
    · split at h
      · rename_i fl _ hr
        cases h
        exact ps_retD (pe_tapeD (trR_ok n c X E hX hc _ _ hr))
      · rename_i r hr _
        cases h
        exact fzG_ok (ps_retD (Snd_e (trR_ok n c X E hX hc _ _ hr)))
      · cases h
    · obtain ⟨s, hs, rfl⟩ := map_some h
      exact fzG_ok (trEx_ok hX hc hs)
    · obtain ⟨s, hs, rfl⟩ := map_some h
      exact fzG_ok (trAsg_ok hX hc hs)
    · rename_i x p op e pos
      obtain ⟨hl, h⟩ := gd_some h
      split at h
      · rename_i i hi
        obtain ⟨hL, h⟩ := gd_some h
        obtain ⟨fe, hfe, rfl⟩ := map_some h
        obtain ⟨l1, l2⟩ := locB_ok hc hl
        exact ps_augD (lock_ok hL) hX.nd (by rw [hc.N]; exact ixOf_some hi) l1 (rE_ok (trR_ok n) hX hc hfe) l2
      · cases h
    · split at h
      · rename_i t' a b ht ha hb
        cases h
        exact fzG_ok (ps_ifD (rT_ok (trR_ok n) hX hc n ht) (rSs_ok ih ha) (rSs_ok ih hb))
      · cases h
    · split at h
      · rename_i t' a ht ha
        cases h
        exact ps_whileD _ whFuel hs.hp (rT_ok (trR_ok n) hX hc n ht) (rSs_ok ih ha)
      · cases h
    · obtain ⟨h1, h⟩ := gd_some h
      split at h
      · rename_i g i a hg hi ha
        obtain ⟨hL, h⟩ := gd_some h
        cases h
        exact fzG_ok (ps_forD hs.hp hX.calm ((rI_ok (trR_ok n) hX hc hi).2 rfl) (trTg_S hX hc hg (lock_all hL)) (rSs_ok ih ha) (folded h1))
      · cases h
    · split at h
      · rename_i x _ a _ _ hT
        obtain ⟨hg, h⟩ := gd_some h
        simp only [Bool.and_eq_true] at hg
        obtain ⟨fe, hfe, rfl⟩ := map_some h
        exact ps_raiseD hX hs (List.contains_iff_mem.mp hT) (gl_ok hc hg.1.1) (nmB_ok hg.1.2).1 (rE_ok (trR_ok n) hX hc hfe) (star_cons hg.2)
      · cases h
        exact PS_imp ps_never fun Dn σ H ⟨b, g, t, ρ, S, k⟩ => k
    · cases h
      exact PS_imp ps_never fun Dn σ H ⟨b, g, t, ρ, S, k⟩ => k
    · rename_i body x np nm y yp fl ap rp hpos tpos _
      have hh := gd_some h
      clear h
      obtain ⟨hg, h2⟩ := hh
      simp only [Bool.and_eq_true, decide_eq_true_eq] at hg
      obtain ⟨⟨⟨⟨⟨g1, g2⟩, g3⟩, g4⟩, g5⟩, g6⟩ := hg
      cases hi : trN c nm with
      | none => rw [hi] at h2; cases h2
      | some i =>
        cases hb : rSs (G := semAlg) (trS (G := semAlg) T n c k) body with
        | none => rw [hi, hb] at h2; cases h2
        | some b =>
          rw [hi, hb] at h2
          cases h2
          subst g4
          subst g5
          obtain ⟨v1, v2, v3, v4⟩ := trN_ok hc hi
          refine ps_tryD hX hs (List.contains_iff_mem.mp g1) (gl_ok hc g2) (nmB_ok g3).1 v1 v2 v3 v4 (by show X.env.scope.names.lookup _ = _; rw [hc.sc]; exact g6) fun E' pn xe tk po => ?_
          exact rSs_ok (trS_ok k (X.tr pn xe) E' (hX.tr tk) ⟨hc.N, hc.sc, hc.fn⟩ ⟨po, tk, hs.hs, hs.hf, hs.er, hs.mo⟩) hb
    · cases h
theorem trSs_ok (hX : XCx R T X E) (hc : TcX c X) (hs : XSx R T X E) {k : Nat} {sts : List Stmt} {f : DS} (h : trSs (G := semAlg) T n c k sts = some f) : PSs X sts (wS R c.lock E f) :=
  rSs_ok (trS_ok k X E hX hc hs) h
end
end Kw
namespace Kw
open PySem PySem.Spec PyProof.Rows L2

/-! ### a def of the law's text, by its translation -/
structure Lw (K : PySem.W.Frag) (mg : Str → Option Value) (R : Rc) : Prop where
  K : K = R.K
  bt : ∀ x ∈ btNames, mg x = none
structure TbOk (P : Program) (w : World) (K : PySem.W.Frag) (mg : Str → Option Value) (base : Heap) (R : Rc) (j : Nat) (T : Tb) : Prop where
  fns : ∀ p ∈ T.fns, FnT P w K mg base R j p.1 p.2
  mts : ∀ p ∈ T.mts, MtT P w K mg base R j p.1 p.2.1 p.2.2
  mks : ∀ p ∈ T.mks, MkT P w K mg base R j p.1 p.2
  fld : ∀ f ∈ T.fld, FldOk R f
  er : ∀ x ∈ T.ers, ErOk P K mg R x
  eq : ∀ c ∈ T.eqs, EqOk K mg R c
  mo : T.ers ≠ [] → Kx.ModO P mg
section
variable {P : Program} {w : World} {K : PySem.W.Frag} {mg : Str → Option Value} {base : Heap} {R : Rc} {j n kf : Nat} {x qual : Str} {params : Arguments} {body : List Stmt} {scope : Scope} {f C : Addr} {fd : FuncData} {ps : List Str} {T : Tb} {c : Tc} {fs : DS}
theorem body_D (hL : Lw K mg R) (hT : TbOk P w K mg base R j T) {p0 : List Str} (S : FnScope c.N p0 scope) (hc : c.sc = scope) (htr : trSs (G := semAlg) T n c kf body = some fs)
    (cdv : Value) (hlm : T.lam = true → LmD R base mg cdv (qual ++ ".<locals>.")) (A : Around) (outer : List PySem.Env) (s : Shared) (H : Hp) (E : XK) (hr : Room (j + 1) (A.deeper (envOfC qual scope s.heap.objs.size f cdv))) :
    PSs (cxOf (L2.CX P w) P w K mg base c.N qual scope f cdv A outer s H E) body (wS R c.lock E fs) := by
  have tk := takes_of (X := cxOf (L2.CX P w) P w K mg base c.N qual scope f cdv A outer s H E) rfl rfl rfl rfl
  have hX : XCx R T (cxOf (L2.CX P w) P w K mg base c.N qual scope f cdv A outer s H E) E := by
    refine ⟨hL.K, rfl, S.nd, ?_, S.kind, hL.bt, hT.fld, ?_, ⟨j, hr, hT.fns, hT.mts, hT.mks⟩, hlm, hT.eq⟩
    · have := hr.un
      show (A.deeper _).units + 100 < cLine
      omega
    · exact passes_call tk fun _ _ _ _ h => h
  exact trSs_ok hX ⟨rfl, hc.symm, fun _ _ => rfl⟩ ⟨passes_of rfl, tk.imp fun _ _ _ _ z => z, rfl, rfl, hT.er, hT.mo⟩ htr
theorem mk_fn (hL : Lw K mg R) (hT : TbOk P w K mg base R j T) (hlm : T.lam = true → LmD R base mg fd.code (x ++ ".<locals>.")) (F : FunD K x x params body scope [] [] f fd) (hg : mg x = some (.ref f)) (S : FnScope c.N ps scope) (hc : c.sc = scope) (hk : c.lock = [])
    (hb : ∀ (kV doc pm : Value) (an : Option Addr) (cdv ct : Value) (us : List Value), us.length = ps.length → bindArgs (PySem.W.fnOf x x params body scope .none kV doc pm an cdv ct) ⟨us, []⟩ = pure (ps.zip us))
    (htr : trSs (G := semAlg) T n c kf body = some fs) : FnT P w K mg base R (j + 2) x ⟨ps.length, defM fs ps.length c.N.length⟩ :=
  ⟨f, fd, ps, hg, F.kp, F.bindsN hb, fn_D F S fun A outer s H E hr => by have := body_D hL hT S hc htr fd.code hlm A outer s H E hr; rw [hk] at this; exact this⟩
theorem mk_mt {m cn : Str} (hL : Lw K mg R) (hT : TbOk P w K mg base R j T) (hlm : T.lam = true → LmD R base mg fd.code (qual ++ ".<locals>.")) (F : FunD K m qual params body scope [] [] f fd) (hC : R.cl cn = some C) (hcl : Cls K C) (hm : Meth K C m f) (S : FnScope c.N ps scope) (hc : c.sc = scope) (hk : c.lock = [])
    (hb : ∀ (kV doc pm : Value) (an : Option Addr) (cdv ct : Value) (us : List Value), us.length = ps.length → bindArgs (PySem.W.fnOf m qual params body scope .none kV doc pm an cdv ct) ⟨us, []⟩ = pure (ps.zip us))
    (htr : trSs (G := semAlg) T n c kf body = some fs) : MtT P w K mg base R (j + 2) m cn ⟨ps.length, defM fs ps.length c.N.length⟩ :=
  ⟨C, f, fd, ps, hC, hcl, hm, F.bindsN hb, fn_D F S fun A outer s H E hr => by have := body_D hL hT S hc htr fd.code hlm A outer s H E hr; rw [hk] at this; exact this⟩
theorem mk_mk {cn p0 : Str} (hL : Lw K mg R) (hT : TbOk P w K mg base R j T) (hlm : T.lam = true → LmD R base mg fd.code (qual ++ ".<locals>.")) (F : FunD K "__init__" qual params body scope [] [] f fd) (hC : R.cl cn = some C) (hgC : mg cn = some (.ref C)) (hm : Mk K C f) (S : FnScope c.N (p0 :: ps) scope) (hc : c.sc = scope) (hk : c.lock = [0])
    (hb : ∀ (kV doc pm : Value) (an : Option Addr) (cdv ct : Value) (us : List Value), us.length = (p0 :: ps).length → bindArgs (PySem.W.fnOf "__init__" qual params body scope .none kV doc pm an cdv ct) ⟨us, []⟩ = pure ((p0 :: ps).zip us))
    (htr : trSs (G := semAlg) T n c kf body = some fs) : MkT P w K mg base R (j + 2) cn ⟨ps.length, defI cn fs ps.length c.N.length⟩ :=
  ⟨C, f, fd, p0 :: ps, hgC, hm, F.bindsN hb, init_D hC F S fun A outer s H E hr => by have := body_D hL hT S hc htr fd.code hlm A outer s H E hr; rw [hk] at this; exact this⟩
end
/-! ### the law's own promise -/
def scrF (H : Hp) : Hp := fun b => match H b with
  | some (.lst xs) => some (.lst xs)
  | some (.frz o u) => some (.frz o u)
  | _ => none
theorem scrF_some {H : Hp} {b : Addr} {o : HO} (h : scrF H b = some o) : H b = some o ∧ Usr o := by
  unfold scrF at h
  cases e : H b with
  | none => rw [e] at h; cases h
  | some u => cases u <;> rw [e] at h <;> first | (cases h; exact ⟨rfl, trivial⟩) | cases h
theorem law_sp {R : Rc} {H : Hp} {a : Addr} {ns : List Int} {m : List D → M D} (hT : LamX.Tabs R.tb H) (hS : SqL R.K H a (ns.map V.int)) {t : Tp} (h : m [scrD ns] none = .ok (.bool true) t) : spM R 1 m [.ref a] H (fun v _ => v = .bl true) fun _ _ _ => False := by
  have hS' : SqL R.K (scrF H) a (ns.map V.int) := by
    rcases hS with (hS | ⟨o, hS⟩) | hS
    · exact .inl (.inl (by unfold scrF; rw [hS]))
    · exact .inl (.inr ⟨o, by unfold scrF; rw [hS]⟩)
    · exact .inr hS
  refine ⟨rfl, ⟨none, scrF H⟩, none, [scrD ns], ⟨fun b o e => (scrF_some e).1, fun p h => (by cases h), fun _ => rfl, hT, fun b o e => (scrF_some e).2⟩, .cons (.scr hS') .nil, ?_⟩
  rw [h]
  intro g' H' _ x hx
  cases hx
  rfl
end Kw
namespace Kw
open PySem PySem.Spec PyProof.Rows L2

/-! ### the head: facts by names, tables of lambdas -/
abbrev LTab := List (He.Defn × Str)
def tbOf (K : PySem.W.Frag) (tf : LTab) : List (Addr × Str) := tf.map fun p => ((He.cT K p.1).2, (p.2 ++ ".<locals>.") ++ "<lambda>")
def csOf (K : PySem.W.Frag) (tf : LTab) : List (Addr × Addr) := tf.map fun p => He.cT K p.1
def exOf (tf : LTab) (K : PySem.W.Frag) : Bool := decide ((tf.map fun p => (He.cT K p.1).2).Nodup)
def rcOf (cls : List Str) (tf : LTab) (K : PySem.W.Frag) : Rc := ⟨K, fun x => match cls.contains x with | true => some (He.ga K x) | false => none, tbOf K tf, fun x => some (He.ga K x)⟩
theorem code_of {K : PySem.W.Frag} {x qual : Str} {params : Arguments} {body : List Stmt} {scope : Scope} {dvs : List V} {kws : List (Str × V)} {p : He.Defn} {fd : FuncData} (F : FunD K x qual params body scope dvs kws (He.fAd K p) fd) : fd.code = .ref (He.codeOf K p) := by
  obtain ⟨oc, od, dV, kV, doc, pm, an, cdv, ct, osl, rfl, lk, hcd, _, _⟩ := F.ex
  obtain ⟨c, e⟩ := He.codeIn_ref hcd
  show cdv = _
  rw [He.codeOf_eq (c := c) lk e, e]
theorem nd_eq {α β : Type} {f : α → β} : ∀ {l : List α}, (l.map f).Nodup → ∀ {a b : α}, a ∈ l → b ∈ l → f a = f b → a = b
  | [], _, _, _, h, _, _ => by cases h
  | c :: l, nd, a, b, ha, hb, e => by
    simp only [List.map_cons, List.nodup_cons, List.mem_map, not_exists, not_and] at nd
    rcases List.mem_cons.mp ha with ea | ha'
    · rcases List.mem_cons.mp hb with eb | hb'
      · rw [ea, eb]
      · exact (nd.1 b hb' (by rw [← e, ea])).elim
    · rcases List.mem_cons.mp hb with eb | hb'
      · exact (nd.1 a ha' (by rw [e, eb])).elim
      · exact nd_eq nd.2 ha' hb' e
theorem lm_of {K : PySem.W.Frag} {base : Heap} {mg : Str → Option Value} {cls : List Str} {tf : LTab} {x qual : Str} {params : Arguments} {body : List Stmt} {scope : Scope} {dvs : List V} {kws : List (Str × V)} {p : He.Defn} {fd : FuncData} (F : FunD K x qual params body scope dvs kws (He.fAd K p) fd)
    (hx : exOf tf K = true) (hp : (p, qual) ∈ tf) (hT : ∀ q ∈ csOf K tf, LamX.TabB base mg q.1 q.2) : LmD (rcOf cls tf K) base mg fd.code (qual ++ ".<locals>.") := by
  have nd := of_decide_eq_true hx
  refine ⟨(He.cT K p).1, (He.cT K p).2, hT _ (List.mem_map.mpr ⟨_, hp, rfl⟩), code_of F, List.mem_map.mpr ⟨_, hp, rfl⟩, fun r hr e => ?_⟩
  obtain ⟨s, hs, rfl⟩ := List.mem_map.mp hr
  have := nd_eq nd hs hp e
  subst this
  rfl
theorem tabs_start {K : PySem.W.Frag} {tf : LTab} {H : Hp} (h : ∀ p ∈ csOf K tf, H p.2 = some (.tbl #[])) : LamX.Tabs (tbOf K tf) H := fun r hr => by
  obtain ⟨s, hs, rfl⟩ := List.mem_map.mp hr
  refine ⟨#[], h _ (List.mem_map.mpr ⟨s, hs, rfl⟩), ?_, fun pos cv e => ?_⟩
  · first | trivial | exact .nil | exact fun _ z => by cases z
  · cases e
/-- a def of no claim -/
theorem mk_bad {P : Program} {w : World} {K : PySem.W.Frag} {mg : Str → Option Value} {base : Heap} {R : Rc} {j : Nat} {N : List Str} {x : Str} {params : Arguments} {body : List Stmt} {scope : Scope} {f : Addr} {fd : FuncData} {ps : List Str} (F : FunD K x x params body scope [] [] f fd) (hg : mg x = some (.ref f)) (S : FnScope N ps scope)
    (hb : ∀ (kV doc pm : Value) (an : Option Addr) (cdv ct : Value) (us : List Value), us.length = ps.length → bindArgs (PySem.W.fnOf x x params body scope .none kV doc pm an cdv ct) ⟨us, []⟩ = pure (ps.zip us)) : FnT P w K mg base R (j + 1) x ⟨ps.length, fun _ => bad⟩ :=
  ⟨f, fd, ps, hg, F.kp, F.bindsN hb, okC F S (fun vs H Q E h => h.1) fun A outer s H vs Q E hr ⟨hl, g, t, ds, ok, r, hw⟩ => (hw : False).elim⟩
theorem mk_fok {P : Program} {w : World} {K : PySem.W.Frag} {mg : Str → Option Value} {base : Heap} {R : Rc} {j n kf : Nat} {x : Str} {params : Arguments} {body : List Stmt} {scope : Scope} {f : Addr} {fd : FuncData} {ps : List Str} {T : Tb} {c : Tc} {fs : DS}
    (hL : Lw K mg R) (hT : TbOk P w K mg base R j T) (hlm : T.lam = true → LmD R base mg fd.code (x ++ ".<locals>.")) (F : FunD K x x params body scope [] [] f fd) (S : FnScope c.N ps scope) (hc : c.sc = scope) (hk : c.lock = [])
    (htr : trSs (G := semAlg) T n c kf body = some fs) : FnOk P w K mg base (L2.CX P w) (j + 2) f fd ps (spM R ps.length (defM fs ps.length c.N.length)) :=
  fn_D F S fun A outer s H E hr => by have := body_D hL hT S hc htr fd.code hlm A outer s H E hr; rw [hk] at this; exact this
theorem allN {α : Type} {Q : α → Prop} : ∀ p ∈ ([] : List α), Q p := fun _ h => by cases h
theorem allC {α : Type} {Q : α → Prop} {a : α} {l : List α} (h : Q a) (r : ∀ p ∈ l, Q p) : ∀ p ∈ a :: l, Q p := fun p hp => by
  rcases List.mem_cons.mp hp with e | hp
  · rw [e]; exact h
  · exact r p hp
theorem fld_of {K : PySem.W.Frag} {cls : List Str} {tf : LTab} {f : Str} (h : ∀ c ∈ cls, Cls K (He.ga K c) ∧ NoAttr K (He.ga K c) f) : FldOk (rcOf cls tf K) f := fun c C e => by
  have e' : (match cls.contains c with | true => some (He.ga K c) | false => none) = some C := e
  cases q : cls.contains c with
  | true =>
    rw [q] at e'
    cases e'
    exact h c (List.contains_iff_mem.mp q)
  | false => rw [q] at e'; cases e'
/-- what is known -/
structure Cx0 (fa : List He.Fa) (fn : List He.DefD) (tf : LTab) (K : PySem.W.Frag) (mg : Str → Option Value) (base : Heap) : Prop where
  h : ∃ h : Heap, K.In h ∧ h.Ns mainGlobals mg
  c : He.SaysD fa fn K
  ex : exOf tf K = true
  tb : ∀ p ∈ csOf K tf, LamX.TabB base mg p.1 p.2
  bt : ∀ x ∈ btNames, .free x ∈ fa
section
variable {fa : List He.Fa} {fn : List He.DefD} {tf : LTab} {K : PySem.W.Frag} {mg : Str → Option Value} {base : Heap} {cls : List Str}
theorem Cx0.lw (C : Cx0 fa fn tf K mg base) : Lw K mg (rcOf cls tf K) := ⟨rfl, fun x hx => by
  obtain ⟨h, X, G⟩ := C.h
  exact He.free_ok X G (C.c.facts (C.bt x hx))⟩
theorem Cx0.glo (C : Cx0 fa fn tf K mg base) {x : Str} (i : Nat) (h : fa[i]? = some (.glo x) := by rfl) : mg x = some (.ref (He.ga K x)) := by
  obtain ⟨h', X, G⟩ := C.h
  exact He.glo_ok X G (C.c.fact i h)
end
/-- the law's end -/
theorem law_end {l : PySem.W.OpenLaw} {q : Program} {loose : List Str} {XP : (Str → Option Value) → Heap → Prop} {d : DefRec} {fa : List He.Fa} {fn : List He.DefD} {tf : LTab} {n k na : Nat} {cls : List Str} {m : List D → M D}
    (hn : l.most = some n) (hn2 : n ≤ sizeLine) (hdf : d.params.defaults = []) (hr : Room k callerA)
    (hlaw : ∀ ns : List Int, ns.length ≤ n → (∀ z ∈ ns, Builtin.Int.intBits z ≤ 1048576) → ∃ t, m [scrD ns] none = .ok (.bool true) t)
    (facts : ∀ (w : World) (K : PySem.W.Frag) (mg : Str → Option Value) (f : Addr) (h : Heap), K.In h → h.Ns mainGlobals mg → mg d.name = some (.ref f) → He.SaysD fa fn K → exOf tf K = true →
      ∃ fd : FuncData, (∀ (s : Shared) (v : Value), BindsTo s fd ⟨[v], []⟩ [("script", v)]) ∧ ∀ base : Heap, K.In base → base.Ns mainGlobals mg → (∀ p ∈ csOf K tf, LamX.TabB base mg p.1 p.2) →
        FnOk l.prog w K mg base (L2.CX l.prog w) k f fd ["script"] (spM (rcOf cls tf K) 1 m)) :
    PySem.W.WalkO q loose XP (He.hookX na fa fn [] (tf.map (·.1)) (exOf tf)).says l.row.toRowW d [] (fun f vs => PySem.call f vs) := by
  refine LamX.walk_ofTsE (l := l) (n := n) (k := k) (x := "script") (CX := fun w => L2.CX l.prog w) hn hn2 hdf hr (fun w mg f h Y G hmg => ?_) (fun w H s e s' z => ?_)
  · obtain ⟨K, KX, c⟩ := Y
    obtain ⟨fd, hb, hF⟩ := facts w K mg f h KX G hmg c.t.d c.more
    have mem : ∀ p ∈ csOf K tf, ∃ z ∈ tf.map (·.1), p = He.cT K z := fun p hp => by
      obtain ⟨y, hy, rfl⟩ := List.mem_map.mp hp
      exact ⟨y.1, List.mem_map.mpr ⟨y, hy, rfl⟩, rfl⟩
    refine ⟨K, KX, fd, csOf K tf, spM (rcOf cls tf K) 1 m, fun p hp => ?_, fun p hp => ?_, fun p hp => ?_, fun s u => hb s u, fun H a ns hl hbits hH hS => ?_, hF⟩
    · obtain ⟨z, hz, rfl⟩ := mem p hp
      exact c.empty z hz
    · obtain ⟨z, hz, rfl⟩ := mem p hp
      exact c.out z hz
    · obtain ⟨z, hz, rfl⟩ := mem p hp
      exact PySem.W.codeHd_of_K KX (c.hd z hz)
    · obtain ⟨t, e⟩ := hlaw ns hl hbits
      exact law_sp (R := rcOf cls tf K) (tabs_start hH) hS e
  · obtain ⟨a, B, H', cls, dd, _, _, _, _, _, _, _, z⟩ := z
    exact z
end Kw
namespace Kw
open PySem PySem.Spec PyProof.Rows L2

/-! ### the head: the errors' facts -/
abbrev InV : Type := Option (Str × Str × Arguments × FuncBody × Scope × Addr × Value × Addr)
def initW (K : PySem.W.Frag) (f : Addr) : InV := match K.lookup f with
  | some ⟨_, _, .func fd, _⟩ => some (fd.name, fd.qualname, fd.params, fd.body, fd.scope, fd.globals, fd.defaults, fd.builtins)
  | _ => none
def valI (d : He.DefD) : InV := some (d.name, d.qual, d.params, .stmts d.body, d.scope, mainGlobals, .none, builtinsNs)
def cloB (K : PySem.W.Frag) (D : Addr) : List (Str × Addr) → Bool
  | [(x, cc)] => decide (x = "__class__") && (match K.lookup cc with
    | some ⟨_, _, .cell (some (.ref D')), _⟩ => decide (D' = D)
    | _ => false)
  | _ => false
def filB (pf : Str) (K : PySem.W.Frag) : Value → Bool
  | .ref cda => (match K.lookup cda with
    | some ⟨_, _, .fields vs, _⟩ => (match (vs[2]? : Option Value) with
      | some (.str file _) => pf == file
      | _ => false)
    | _ => false)
  | _ => false
def iB (pf : Str) (K : PySem.W.Frag) (f D : Addr) (q : Str) : Bool := match K.lookup f with
  | some ⟨_, _, .func fd, _⟩ => PySem.W.codeIn K fd.code q && (cloB K D fd.closure && (filB pf K fd.code && (PySem.W.clsIn K D).isSome))
  | _ => false
def ecB (K : PySem.W.Frag) (C : Addr) : Bool := match K.lookup C with
  | some ⟨.type t, _, .cls cd, sl⟩ => decide (t = "type") && (match cd.mro, sl.toList with
      | .ref C' :: bm, [_, _, _, _, some (.builtin n), _] => decide (C' = C) && (decide (n = "ValueError.__new__") && (!cd.hasDel && (PySem.HandSPX.refsVE bm && cd.hasDict)))
      | _, _ => false)
  | _ => false
theorem ecB_ok {K : PySem.W.Frag} {C : Addr} (h : ecB K C = true) : ∃ nm q N bs bm sn sub ab col dd k0 k1 k2 k3 k5, K.lookup C = some (excClassObj nm q C N bs bm true sn sub ab col dd k0 k1 k2 k3 k5 "ValueError.__new__") ∧ PySem.HandSPX.refsVE bm = true := by
  unfold ecB at h
  split at h
  · rename_i t dd cd sl ho
    obtain ⟨h1, h⟩ := Bool.and_eq_true_iff.mp h
    have h1 := of_decide_eq_true h1
    split at h
    · rename_i C' bm k0 k1 k2 k3 n k5 hm hs
      obtain ⟨a1, h⟩ := Bool.and_eq_true_iff.mp h
      obtain ⟨a2, h⟩ := Bool.and_eq_true_iff.mp h
      obtain ⟨a3, h⟩ := Bool.and_eq_true_iff.mp h
      obtain ⟨a4, a5⟩ := Bool.and_eq_true_iff.mp h
      have a1 := of_decide_eq_true a1
      have a2 := of_decide_eq_true a2
      subst a1 a2 h1
      obtain ⟨nm, bs, mro, N, qn, hd, sn, sub, ab, col, del⟩ := cd
      simp only at hm a3 a5
      subst hm a5
      have a3' : del = false := by cases del <;> simp_all
      subst a3'
      refine ⟨nm, qn, N, bs, bm, sn, sub, ab, col, dd, k0, k1, k2, k3, k5, ?_, a4⟩
      rw [ho]
      have : sl = #[k0, k1, k2, k3, some (.builtin "ValueError.__new__"), k5] := Array.toList_inj.mp hs
      rw [this]
    · cases h
  · cases h
theorem cloB_ok {K : PySem.W.Frag} {D : Addr} : ∀ {l : List (Str × Addr)}, cloB K D l = true → ∃ cc c1 c2 c4, l = [(("__class__" : Str), cc)] ∧ K.lookup cc = some ⟨c1, c2, .cell (some (.ref D)), c4⟩
  | [(x, cc)], h4 => by
    unfold cloB at h4
    obtain ⟨g1, g2⟩ := Bool.and_eq_true_iff.mp h4
    have g1 := of_decide_eq_true g1
    subst g1
    split at g2
    · rename_i c1 c2 D' c4 ec
      have g2 := of_decide_eq_true g2
      subst g2
      exact ⟨cc, c1, c2, c4, rfl, ec⟩
    · cases g2
theorem filB_ok {pf : Str} {K : PySem.W.Frag} : ∀ {v : Value}, filB pf K v = true → ∃ cda k1 k2 k4 vs file tf, v = .ref cda ∧ K.lookup cda = some ⟨k1, k2, .fields vs, k4⟩ ∧ (vs[2]? : Option Value) = some (.str file tf) ∧ (pf == file) = true
  | .ref cda, h5 => by
    cases ek : K.lookup cda with
    | none => simp only [filB, ek] at h5; cases h5
    | some o =>
      obtain ⟨k1, k2, dt, k4⟩ := o
      cases dt with
      | fields vs =>
        simp only [filB, ek] at h5
        cases ev : (vs[2]? : Option Value) with
        | none => rw [ev] at h5; cases h5
        | some z =>
          rw [ev] at h5
          cases z with
          | str file tf => exact ⟨cda, k1, k2, k4, vs, file, tf, rfl, ek, ev, h5⟩
          | _ => cases h5
      | _ => simp only [filB, ek] at h5; cases h5
theorem iB_ok {P : Program} {K : PySem.W.Frag} {f D : Addr} {d : He.DefD} {p1 p2 : Pos} (hv : initW K f = valI d) (h : iB P.main.file K f D d.qual = true) (hn : d.name = "__init__") (hp : d.params = Kx.iA p1 p2) (hs : d.scope = Kx.iS) : Kx.IFn P K f D d.qual d.body := by
  unfold initW valI at hv
  unfold iB at h
  cases e : K.lookup f with
  | none => rw [e] at h; cases h
  | some o =>
    obtain ⟨oc, od, dt, osl⟩ := o
    rw [e] at hv h
    cases dt with
    | func fd =>
      obtain ⟨n1, n2, n3, n4, n5, n6, n7, n8, n9, n10, n11, n12, n13, n14, n15⟩ := fd
      have hv2 : (some (n1, n2, n3, n4, n5, n6, n8, n15) : InV) = some (d.name, d.qual, d.params, .stmts d.body, d.scope, mainGlobals, .none, builtinsNs) := hv
      simp only [Option.some.injEq, Prod.mk.injEq] at hv2
      obtain ⟨v1, v2, v3, v4, v5, v6, v7, v8⟩ := hv2
      rw [hn] at v1
      rw [hp] at v3
      rw [hs] at v5
      subst v1 v2 v3 v4 v5 v6 v7 v8
      have h2 : (PySem.W.codeIn K n13 d.qual && (cloB K D n7 && (filB P.main.file K n13 && (PySem.W.clsIn K D).isSome))) = true := h
      obtain ⟨h3, h2⟩ := Bool.and_eq_true_iff.mp h2
      obtain ⟨h4, h2⟩ := Bool.and_eq_true_iff.mp h2
      obtain ⟨h5, h6⟩ := Bool.and_eq_true_iff.mp h2
      obtain ⟨cc, c1, c2, c4, en, ec⟩ := cloB_ok h4
      obtain ⟨cda, k1, k2, k4, vs, file, tf, ek0, ek, ev, h7⟩ := filB_ok h5
      subst en ek0
      cases ed : PySem.W.clsIn K D with
      | none => rw [ed] at h6; cases h6
      | some cdD => exact ⟨p1, p2, cc, cda, oc, n9, n10, n11, n14, k1, c1, od, n12, k2, c2, osl, k4, c4, vs, file, tf, cdD, e, h3, ek, ev, h7, ec, ed⟩
    | _ => cases h

/-- the class x over KeepwebsError -/
def errB (pf : Str) (K : PySem.W.Frag) (x q : Str) : Bool :=
  let C := He.ga K x
  let B := He.ga K "KeepwebsError"
  let fB := He.ma K B "__init__"
  let fI := He.ma K C "__init__"
  ecB K C && (He.eqO (PySem.W.findIn K (.ref C) "__setattr__") (some (some (.builtin "object.__setattr__"))) && (He.eqO (PySem.W.findIn K (.ref C) "place") (some none) && (He.eqO (PySem.W.findIn K (.ref C) "name") (some none) &&
  (He.eqO (PySem.W.nsIn K PySem.cStatics "thirdparty.any") (some none) && (decide (PySem.W.mroIn K C (.ref B) = some true) && (decide (PySem.W.mroIn K C (.ref C) = some true) && (decide (PySem.W.subIn K (.ref C) (.type "ValueError") = some true) &&
  (He.eqO (PySem.W.ks_superIn K C B "__init__") (some (some (.builtin "ValueError.__init__"))) && (He.eqO (PySem.W.ks_superIn K C C "__init__") (some (some (.ref fB))) && (PySem.W.fnIn K fB && (decide (PySem.W.typeIn K (.ref fB) = some (.type "function")) &&
  (He.eqO (PySem.W.findIn K (.ref C) "__init__") (some (some (.ref fI))) && (decide (PySem.W.typeIn K (.ref fI) = some (.type "function")) && (PySem.W.keepIn K (.ref C) && (decide (PySem.W.subIn K (.ref C) (.type "BaseException") = some true) && (decide (PySem.W.typeIn K (.ref C) = some (.type "type")) &&
  (decide (PySem.W.exmOne K (.ref C) (.ref C) = some true) && (xfB K C && (iB pf K fB B "KeepwebsError.__init__" && (iB pf K fI C q && (He.Fa.glo x).ok K))))))))))))))))))))

end Kw
namespace Kw
open PySem PySem.Spec PyProof.Rows L2

/-! ### the head with errors -/
def BaseSh (d : He.DefD) : Prop := d.name = "__init__" ∧ d.qual = "KeepwebsError.__init__" ∧ d.scope = Kx.iS ∧ ∃ p1 p2 q0 q1 q2 q3 q4 q5 r0 r1 r2 r3 n0 n1 n2 n3 : Pos,
  d.params = Kx.iA p1 p2 ∧ d.body = [Kx.stS q0 q1 q2 q3 q4 q5, Kx.stP r0 r1 r2 r3, Kx.stN "KeepwebsError" n0 n1 n2 n3] ∧ (q2.endLine == q4.line) = true
def OwnSh (x : Str) (d : He.DefD) : Prop := d.name = "__init__" ∧ d.scope = Kx.iS ∧ ∃ p1 p2 q0 q1 q2 q3 q4 q5 n0 n1 n2 n3 : Pos,
  d.params = Kx.iA p1 p2 ∧ d.body = [Kx.stS q0 q1 q2 q3 q4 q5, Kx.stN x n0 n1 n2 n3] ∧ (q2.endLine == q4.line) = true
theorem er_ok {P : Program} {K : PySem.W.Frag} {mg : Str → Option Value} {h0 : Heap} {cls : List Str} {tf : LTab} {x : Str} {bd d : He.DefD} (h : errB P.main.file K x d.qual = true)
    (hb : initW K (He.ma K (He.ga K "KeepwebsError") "__init__") = valI bd) (hi : initW K (He.ma K (He.ga K x) "__init__") = valI d) (sb : BaseSh bd) (sd : OwnSh x d) (X : K.In h0) (G : h0.Ns mainGlobals mg) : ErOk P K mg (rcOf cls tf K) x := by
  unfold errB at h
  simp only [Bool.and_eq_true, decide_eq_true_eq] at h
  obtain ⟨e1, e2, e3, e4, e5, e6, e7, e8, e9, e10, e11, e12, e13, e14, e15, e16, e17, e18, e19, e20, e21, e22⟩ := h
  obtain ⟨b1, b2, b3, p1, p2, q0, q1, q2, q3, q4, q5, r0, r1, r2, r3, n0, n1, n2, n3, b4, b5, b6⟩ := sb
  obtain ⟨d1, d3, u1, u2, c0, c1, c2, c3, c4, c5, m0, m1, m2, m3, d4, d5, d6⟩ := sd
  have IB := iB_ok hb (by rw [b2]; exact e20) b1 b4 b3
  have II := iB_ok hi e21 d1 d4 d3
  rw [b2, b5] at IB
  rw [d5] at II
  obtain ⟨nm, q, N, bs, bm, sn, sub, ab, col, dd, k0, k1, k2, k3, k5, a1, a2⟩ := ecB_ok e1
  refine ⟨He.ga K x, He.ga K "KeepwebsError", He.ma K (He.ga K "KeepwebsError") "__init__", He.ma K (He.ga K x) "__init__", rfl, He.glo_ok X G e22, ?_, xfB_ok e19⟩
  exact ⟨⟨⟨⟨nm, q, N, bs, bm, sn, sub, ab, col, dd, k0, k1, k2, k3, k5, a1, a2⟩, He.eqO_ok e2, He.eqO_ok e3, He.eqO_ok e4, He.eqO_ok e5, e6, e7, e8, He.eqO_ok e9⟩, He.eqO_ok e10, e11, e12⟩, He.eqO_ok e13, e14, e15, e16, e17, e18,
    ⟨q0, q1, q2, q3, q4, q5, r0, r1, r2, r3, n0, n1, n2, n3, c0, c1, c2, c3, c4, c5, m0, m1, m2, m3, d.qual, IB, II, b6, d6⟩⟩
abbrev ErL := List (Str × He.DefD)
def erW (K : PySem.W.Frag) (ers : ErL) : List InV := initW K (He.ma K (He.ga K "KeepwebsError") "__init__") :: ers.map fun e => initW K (He.ma K (He.ga K e.1) "__init__")
def erV (bd : He.DefD) (ers : ErL) : List InV := valI bd :: ers.map fun e => valI e.2
def erB (pf : Str) (K : PySem.W.Frag) (ers : ErL) : Bool := ers.all fun e => errB pf K e.1 e.2.qual
structure SaysE (pf : Str) (bd : He.DefD) (ers : ErL) (K : PySem.W.Frag) : Prop where
  w : erW K ers = erV bd ers
  b : erB pf K ers = true
theorem map_in {α β : Type} {f g : α → β} : ∀ {l : List α}, l.map f = l.map g → ∀ {a : α}, a ∈ l → f a = g a
  | b :: r, h, a, ha => by
    simp only [List.map_cons, List.cons.injEq] at h
    rcases List.mem_cons.mp ha with e | ha
    · rw [e]; exact h.1
    · exact map_in h.2 ha
theorem SaysE.ok {P : Program} {K : PySem.W.Frag} {mg : Str → Option Value} {h0 : Heap} {cls : List Str} {tf : LTab} {bd : He.DefD} {ers : ErL} (c : SaysE P.main.file bd ers K) (sb : BaseSh bd) (se : ∀ e ∈ ers, OwnSh e.1 e.2) (X : K.In h0) (G : h0.Ns mainGlobals mg) :
    ∀ x ∈ ers.map (·.1), ErOk P K mg (rcOf cls tf K) x := fun x hx => by
  obtain ⟨e, he, rfl⟩ := List.mem_map.mp hx
  have w := c.w
  simp only [erW, erV, List.cons.injEq] at w
  exact er_ok (List.all_eq_true.mp c.b e he) w.1 (map_in w.2 he) sb (se e he) X G
abbrev AlZ : Type := He.AlX × (List InV × Bool)
def obsZ (n : Nat) (fa : List He.Fa) (fn : List He.DefD) (tf : List He.Defn) (ex : PySem.W.Frag → Bool) (pf : Str) (ers : ErL) (g : Addr → Option Obj) : AlZ :=
  let K := He.frT g (PySem.cStatics :: He.asD g n)
  ((He.obsT fa fn [] K, ex K && He.tabsB g tf K), (erW K ers, erB pf K ers))
def valZ (fn : List He.DefD) (w : World) (bd : He.DefD) (ers : ErL) : AlZ := (He.valX fn [] w, (erV bd ers, true))
structure SaysZ (fa : List He.Fa) (fn : List He.DefD) (tf : List He.Defn) (ex : PySem.W.Frag → Bool) (pf : Str) (bd : He.DefD) (ers : ErL) (w : World) (h : Heap) (K : PySem.W.Frag) : Prop where
  x : He.SaysX fa fn [] tf ex w h K
  e : SaysE pf bd ers K
theorem tabs_of {tf : List He.Defn} {h : Heap} {as : List Addr} {p : He.Defn} (hp : p ∈ tf) (e : He.tabsB h.get? tf (He.frT h.get? as) = true) :
    PySem.W.codeHdIn (He.frT h.get? as) (He.cT (He.frT h.get? as) p).1 (He.cT (He.frT h.get? as) p).2 = true ∧ (He.frT h.get? as).lookup (He.cT (He.frT h.get? as) p).2 = none ∧ h.get? (He.cT (He.frT h.get? as) p).2 = some { cls := .none, data := .fields #[] } := by
  have q := List.all_eq_true.mp e p hp
  obtain ⟨q1, q2⟩ := Bool.and_eq_true_iff.mp q
  refine ⟨q1, ?_⟩
  cases r : h.get? (He.cT (He.frT h.get? as) p).2 with
  | none => rw [r] at q2; cases q2
  | some o =>
    rw [r] at q2
    have q3 : He.emptyTab o = true := q2
    exact ⟨He.frT_none r q3, by rw [He.emptyTab_eq q3]⟩
theorem saysZ_of {n : Nat} {fa : List He.Fa} {fn : List He.DefD} {tf : List He.Defn} {ex : PySem.W.Frag → Bool} {pf : Str} {bd : He.DefD} {ers : ErL} {w : World} {h : Heap} (e : obsZ n fa fn tf ex pf ers h.get? = valZ fn w bd ers) :
    SaysZ fa fn tf ex pf bd ers w h (He.frT h.get? (PySem.cStatics :: He.asD h.get? n)) := by
  have e1 := congrArg (fun z : AlZ => z.1.1) e
  have e2 := congrArg (fun z : AlZ => z.1.2) e
  have e3 := congrArg (fun z : AlZ => z.2.1) e
  have e4 := congrArg (fun z : AlZ => z.2.2) e
  obtain ⟨f1, f2⟩ := Bool.and_eq_true_iff.mp e2
  exact ⟨⟨e1, f1, fun p hp => (tabs_of hp f2).1, fun p hp => (tabs_of hp f2).2.1, fun p hp => (tabs_of hp f2).2.2⟩, e3, e4⟩
def hookZ (n : Nat) (fa : List He.Fa) (fn : List He.DefD) (tf : List He.Defn) (ex : PySem.W.Frag → Bool) (pf : Str) (bd : He.DefD) (ers : ErL) : PySem.W.Hook where
  α := AlZ
  obs := fun s => obsZ n fa fn tf ex pf ers s.heap.get?
  val := fun w => valZ fn w bd ers
  says := fun w h => ∃ K : PySem.W.Frag, K.In h ∧ SaysZ fa fn tf ex pf bd ers w h K
  of := fun _ _ e => ⟨_, He.frT_in, saysZ_of e⟩
  keeps := fun _ _ _ ⟨K, hK, c⟩ k => ⟨K, PySem.W.Frag.In.keeps hK k, ⟨⟨c.x.t, c.x.more, c.x.hd, c.x.out, fun p hp => k _ _ (c.x.empty p hp)⟩, c.e⟩⟩
theorem obsZ_eq {n : Nat} {fa : List He.Fa} {fn : List He.DefD} {tf : List He.Defn} {ex : PySem.W.Frag → Bool} {pf : Str} {bd : He.DefD} {ers : ErL} {g : Addr → Option Obj} {s : Shared} (h : ∀ a, g a = s.heap.get? a) : obsZ n fa fn tf ex pf ers g = (hookZ n fa fn tf ex pf bd ers).obs s := by
  rw [show g = s.heap.get? from funext h] <;> rfl
/-- what is known, with errors -/
structure Cx1 (P : Program) (fa : List He.Fa) (fn : List He.DefD) (tf : LTab) (cls ers eqs : List Str) (K : PySem.W.Frag) (mg : Str → Option Value) (base : Heap) : Prop extends Cx0 fa fn tf K mg base where
  er : ∀ x ∈ ers, ErOk P K mg (rcOf cls tf K) x
  mo : ers ≠ [] → Kx.ModO P mg
  eq : ∀ c ∈ eqs, EqOk K mg (rcOf cls tf K) c
/-! #### classes with an own == -/
def eqcB (K : PySem.W.Frag) (C f : Addr) : Bool := match K.lookup C with
  | some ⟨.type t, _, .cls cd, sl⟩ => decide (t = "type") && (match cd.mro, sl.toList with
      | .ref C' :: bm, [_, _, _, _, some (.builtin _), _] => decide (C' = C) && (decide (bm = [.type "object"]) && (!cd.hasDel && (PySem.W.nsOkIn K cd.ns && (He.eqO (PySem.W.nsIn K cd.ns "__eq__") (some (some (.ref f))) && (He.eqO (PySem.W.nsIn K cd.ns "__ne__") (some none) && (match K.lookup f with
        | some of => decide (of.cls = .type "function")
        | none => false))))))
      | _, _ => false)
  | _ => false
theorem eqcB_ok {K : PySem.W.Frag} {C f : Addr} (h : eqcB K C f = true) : EqC K C f := by
  unfold eqcB at h
  split at h
  · rename_i t dd cd sl ho
    obtain ⟨h1, h⟩ := Bool.and_eq_true_iff.mp h
    have h1 := of_decide_eq_true h1
    split at h
    · rename_i C' bm k0 k1 k2 k3 n k5 hm hs
      obtain ⟨a1, h⟩ := Bool.and_eq_true_iff.mp h
      obtain ⟨a2, h⟩ := Bool.and_eq_true_iff.mp h
      obtain ⟨a3, h⟩ := Bool.and_eq_true_iff.mp h
      obtain ⟨a4, h⟩ := Bool.and_eq_true_iff.mp h
      obtain ⟨a5, h⟩ := Bool.and_eq_true_iff.mp h
      obtain ⟨a6, h9⟩ := Bool.and_eq_true_iff.mp h
      clear h
      have a1 := of_decide_eq_true a1
      have a2 := of_decide_eq_true a2
      subst a1 a2 h1
      obtain ⟨nm, bs, mro, N, qn, hd, sn, sub, ab, col, del⟩ := cd
      simp only at hm a3 a4 a5 a6
      subst hm
      have a3' : del = false := by cases del <;> simp_all
      subst a3'
      cases ef : K.lookup f with
      | none => rw [ef] at h9; cases h9
      | some of =>
        rw [ef] at h9
        have h := of_decide_eq_true h9
        refine ⟨nm, qn, N, bs, hd, sn, sub, ab, col, dd, k0, k1, k2, k3, k5, n, of, ?_, a4, He.eqO_ok a5, He.eqO_ok a6, ef, h⟩
        rw [ho]
        have : sl = #[k0, k1, k2, k3, some (.builtin n), k5] := Array.toList_inj.mp hs
        rw [this]
    · cases h
  · cases h
def eqB (K : PySem.W.Frag) (x : Str) : Bool :=
  let C := He.ga K x
  eqcB K C (He.ma K C "__eq__") && (He.eqO (PySem.W.findIn K (.ref C) "__eq__") (some (some (.ref (He.ma K C "__eq__")))) && ((He.Fa.cls x).ok K && (He.eqO (PySem.W.findIn K (.ref C) "__class__") (some (some (.builtin "object.__class__"))) && (He.eqO (PySem.W.specialIn K (.builtin "object.__class__") "__get__") (some (some (.builtin "getset_descriptor.__get__"))) &&
  (decide (PySem.W.takesIn K (.builtin "object.__class__") = some true) && (decide (PySem.W.mroIn K C (.type "object") = some true) && (decide (PySem.W.kitOne K (.ref C) (.ref C) = some true) && (He.Fa.glo x).ok K)))))))
theorem eqo_ok {K : PySem.W.Frag} {mg : Str → Option Value} {h0 : Heap} {cls : List Str} {tf : LTab} {x : Str} (h : eqB K x = true) (hx : x ∈ cls) (X : K.In h0) (G : h0.Ns mainGlobals mg) : EqOk K mg (rcOf cls tf K) x := by
  unfold eqB at h
  simp only [Bool.and_eq_true, decide_eq_true_eq] at h
  obtain ⟨e1, e2, e3, e4, e5, e6, e7, e8, e9⟩ := h
  refine ⟨He.ga K x, ?_, He.glo_ok X G e9, ⟨He.cls_ok e3, He.eqO_ok e4, He.eqO_ok e5, e6, e7, e8⟩, fun f hf => ?_⟩
  · show (match cls.contains x with | true => some (He.ga K x) | false => none) = _
    rw [List.contains_iff_mem.mpr hx]
  · rw [He.eqO_ok e2] at hf
    cases hf
    exact eqcB_ok e1
def exQ (tf : LTab) (eqs : List Str) (K : PySem.W.Frag) : Bool := exOf tf K && eqs.all (eqB K)
theorem exQ_ok {tf : LTab} {eqs : List Str} {K : PySem.W.Frag} (h : exQ tf eqs K = true) : exOf tf K = true ∧ ∀ c ∈ eqs, eqB K c = true := by
  obtain ⟨a, b⟩ := Bool.and_eq_true_iff.mp h
  exact ⟨a, fun c hc => List.all_eq_true.mp b c hc⟩
/-- the law's end -/
theorem law_endZ {l : PySem.W.OpenLaw} {q : Program} {loose : List Str} {XP : (Str → Option Value) → Heap → Prop} {d : DefRec} {fa : List He.Fa} {fn : List He.DefD} {tf : LTab} {n k na : Nat} {cls eqs : List Str} {bd : He.DefD} {ers : ErL} {m : List D → M D}
    (hn : l.most = some n) (hn2 : n ≤ sizeLine) (hdf : d.params.defaults = []) (hr : Room k callerA) (hcl : ∀ c ∈ eqs, c ∈ cls) (sb : BaseSh bd) (se : ∀ e ∈ ers, OwnSh e.1 e.2)
    (hlaw : ∀ ns : List Int, ns.length ≤ n → (∀ z ∈ ns, Builtin.Int.intBits z ≤ 1048576) → ∃ t, m [scrD ns] none = .ok (.bool true) t)
    (facts : ∀ (w : World) (K : PySem.W.Frag) (mg : Str → Option Value) (f : Addr) (h : Heap), K.In h → h.Ns mainGlobals mg → mg d.name = some (.ref f) → He.SaysD fa fn K → exOf tf K = true → (∀ c ∈ eqs, EqOk K mg (rcOf cls tf K) c) → (∀ x ∈ ers.map (·.1), ErOk l.prog K mg (rcOf cls tf K) x) →
      ∃ fd : FuncData, (∀ (s : Shared) (v : Value), BindsTo s fd ⟨[v], []⟩ [("script", v)]) ∧ ∀ base : Heap, K.In base → base.Ns mainGlobals mg → (∀ p ∈ csOf K tf, LamX.TabB base mg p.1 p.2) →
        FnOk l.prog w K mg base (L2.CX l.prog w) k f fd ["script"] (spM (rcOf cls tf K) 1 m)) :
    PySem.W.WalkO q loose XP (hookZ na fa fn (tf.map (·.1)) (exQ tf eqs) l.prog.main.file bd ers).says l.row.toRowW d [] (fun f vs => PySem.call f vs) := by
  refine LamX.walk_ofTsE (l := l) (n := n) (k := k) (x := "script") (CX := fun w => L2.CX l.prog w) hn hn2 hdf hr (fun w mg f h Y G hmg => ?_) (fun w H s e s' z => ?_)
  · obtain ⟨K, KX, c, ce⟩ := Y
    obtain ⟨fd, hb, hF⟩ := facts w K mg f h KX G hmg c.t.d (exQ_ok c.more).1 (fun x hx => eqo_ok ((exQ_ok c.more).2 x hx) (hcl x hx) KX G) (ce.ok sb se KX G)
    have mem : ∀ p ∈ csOf K tf, ∃ z ∈ tf.map (·.1), p = He.cT K z := fun p hp => by
      obtain ⟨y, hy, rfl⟩ := List.mem_map.mp hp
      exact ⟨y.1, List.mem_map.mpr ⟨y, hy, rfl⟩, rfl⟩
    refine ⟨K, KX, fd, csOf K tf, spM (rcOf cls tf K) 1 m, fun p hp => ?_, fun p hp => ?_, fun p hp => ?_, fun s u => hb s u, fun H a ns hl hbits hH hS => ?_, hF⟩
    · obtain ⟨z, hz, rfl⟩ := mem p hp
      exact c.empty z hz
    · obtain ⟨z, hz, rfl⟩ := mem p hp
      exact c.out z hz
    · obtain ⟨z, hz, rfl⟩ := mem p hp
      exact PySem.W.codeHd_of_K KX (c.hd z hz)
    · obtain ⟨t, e⟩ := hlaw ns hl hbits
      exact law_sp (R := rcOf cls tf K) (tabs_start hH) hS e
  · obtain ⟨a, B, H', cls, dd, _, _, _, _, _, _, _, z⟩ := z
    exact z
/-- the law's end -/
theorem law_endY {l : PySem.W.OpenLaw} {q : Program} {loose : List Str} {XP : (Str → Option Value) → Heap → Prop} {d : DefRec} {fa : List He.Fa} {fn : List He.DefD} {tf : LTab} {n k na : Nat} {cls eqs : List Str} {m : List D → M D}
    (hn : l.most = some n) (hn2 : n ≤ sizeLine) (hdf : d.params.defaults = []) (hr : Room k callerA) (hcl : ∀ c ∈ eqs, c ∈ cls)
    (hlaw : ∀ ns : List Int, ns.length ≤ n → (∀ z ∈ ns, Builtin.Int.intBits z ≤ 1048576) → ∃ t, m [scrD ns] none = .ok (.bool true) t)
    (facts : ∀ (w : World) (K : PySem.W.Frag) (mg : Str → Option Value) (f : Addr) (h : Heap), K.In h → h.Ns mainGlobals mg → mg d.name = some (.ref f) → He.SaysD fa fn K → exOf tf K = true → (∀ c ∈ eqs, EqOk K mg (rcOf cls tf K) c) →
      ∃ fd : FuncData, (∀ (s : Shared) (v : Value), BindsTo s fd ⟨[v], []⟩ [("script", v)]) ∧ ∀ base : Heap, K.In base → base.Ns mainGlobals mg → (∀ p ∈ csOf K tf, LamX.TabB base mg p.1 p.2) →
        FnOk l.prog w K mg base (L2.CX l.prog w) k f fd ["script"] (spM (rcOf cls tf K) 1 m)) :
    PySem.W.WalkO q loose XP (He.hookX na fa fn [] (tf.map (·.1)) (exQ tf eqs)).says l.row.toRowW d [] (fun f vs => PySem.call f vs) := by
  refine LamX.walk_ofTsE (l := l) (n := n) (k := k) (x := "script") (CX := fun w => L2.CX l.prog w) hn hn2 hdf hr (fun w mg f h Y G hmg => ?_) (fun w H s e s' z => ?_)
  · obtain ⟨K, KX, c⟩ := Y
    obtain ⟨fd, hb, hF⟩ := facts w K mg f h KX G hmg c.t.d (exQ_ok c.more).1 (fun x hx => eqo_ok ((exQ_ok c.more).2 x hx) (hcl x hx) KX G)
    have mem : ∀ p ∈ csOf K tf, ∃ z ∈ tf.map (·.1), p = He.cT K z := fun p hp => by
      obtain ⟨y, hy, rfl⟩ := List.mem_map.mp hp
      exact ⟨y.1, List.mem_map.mpr ⟨y, hy, rfl⟩, rfl⟩
    refine ⟨K, KX, fd, csOf K tf, spM (rcOf cls tf K) 1 m, fun p hp => ?_, fun p hp => ?_, fun p hp => ?_, fun s u => hb s u, fun H a ns hl hbits hH hS => ?_, hF⟩
    · obtain ⟨z, hz, rfl⟩ := mem p hp
      exact c.empty z hz
    · obtain ⟨z, hz, rfl⟩ := mem p hp
      exact c.out z hz
    · obtain ⟨z, hz, rfl⟩ := mem p hp
      exact PySem.W.codeHd_of_K KX (c.hd z hz)
    · obtain ⟨t, e⟩ := hlaw ns hl hbits
      exact law_sp (R := rcOf cls tf K) (tabs_start hH) hS e
  · obtain ⟨a, B, H', cls, dd, _, _, _, _, _, _, _, z⟩ := z
    exact z
end Kw
set_option maxHeartbeats 0
namespace Kw
open PySem PySem.Spec PyProof.Rows L2

def topS (i : Nat) : Stmt := PySem.Challenge.pw_keepwebs_k34_whole_odd_keeping.main.body.getD i (.Pass ⟨0, 0, 0, 0⟩)
def N_is_count : List Str := ["value"]
def c_is_count : Tc := ⟨N_is_count, defScope (topS 6), fun _ => true, [], [], [], false, []⟩
def s_is_count : DS :=
(sRet (eAnd (eUn (isiM "int") (eBor 0)) (eAnd (eNot (eUn (isiM "bool") (eBor 0))) (eBin (cmpM .GtE) (eBor 0) (eC (.int 0))))))
def T_is_count : Tb := ⟨[], [], [], [], false, [], []⟩
theorem t_is_count : trSs (G := semAlg) T_is_count 40 c_is_count 60 (defBody (topS 6)) = some s_is_count := by kernel_rfl
def m_is_count : List D → M D := defM s_is_count 1 1
def N_Web___init__ : List Str := ["self", "many", "pairs", "k", "one", "rows", "state", "a", "b", "row"]
def c_Web___init__ : Tc := ⟨N_Web___init__, defScope (inClass (topS 7) 0), fun _ => true, [], [5], [], false, [0]⟩
def s_Web___init__ : DS :=
(sSeq (sSet 2 (slV (eCall tupleM (aCons (eBor 2) aNil))))
  (sSeq (sIf (tNotM (tTru (eCall m_is_count (aCons (eVar 1) aNil)))) sBad sSkip)
  (sSeq (sFor (.nm 3) (eRange1 (eCall lenM (aCons (eBor 2) aNil))) (sSeq (sSet 4 (slV (eBin ixM (eBor 2) (eBor 3))))
  (sSeq (sIf (tOrM (tNotM (tTru (eUn (isiM "tuple") (eBor 4)))) (tOrM (tBool (eBin (cmpM .NotEq) (eCall lenM (aCons (eBor 4) aNil)) (eC (.int 2)))) (tOrM (tNotM (tTru (eCall m_is_count (aCons (eBin ixM (eBor 4) (eC (.int 0))) aNil)))) (tNotM (tTru (eCall m_is_count (aCons (eBin ixM (eBor 4) (eC (.int 1))) aNil))))))) sBad sSkip)
  (sIf (tOrM (tNotM (tBool (eChain (cmpM .Lt) (cmpM .Lt) (eBin ixM (eBor 4) (eC (.int 0))) (eBin ixM (eBor 4) (eC (.int 1))) (eBor 1)))) (tAndM (tBool (eBin (cmpM .Gt) (eBor 3) (eC (.int 0)))) (tBool (eBin (cmpM .GtE) (eBin ixM (eBor 2) (eBin (binM .Sub) (eBor 3) (eC (.int 1)))) (eBor 4))))) sBad sSkip))))
  (sSeq (sFldP 0 "many" (eVar 1))
  (sSeq (sFldP 0 "pairs" (eVar 2))
  (sSeq (sSet 5 (slN (eRange1 (eBor 1))))
  (sSeq (sFor (.tup [7, 8]) (iSeq (eVar 2)) (sSeq (sNap 5 (eBor 7) (eVar 8))
  (sNap 5 (eBor 8) (eVar 7))))
  (sFz [5] (sFldP 0 "rows" (eCall tupleM (aCons (eFl (eComp [9] (.nm 9) tYesM (eCall tupleM (aCons (eFl (aCall sortedM (aCons (eBor 9) aNil))) aNil)) (iSeq (eBor 5)))) aNil)))))))))))
def T_Web___init__ : Tb := ⟨[("is_count", ⟨1, m_is_count⟩)], [], [], ["many", "pairs", "rows"], false, [], []⟩
theorem t_Web___init__ : trSs (G := semAlg) T_Web___init__ 40 c_Web___init__ 60 (defBody (inClass (topS 7) 0)) = some s_Web___init__ := by kernel_rfl
def m_Web___init__ : List D → M D := defI "Web" s_Web___init__ 2 10
def N_Web_ball : List Str := ["self", "state"]
def c_Web_ball : Tc := ⟨N_Web_ball, defScope (inClass (topS 7) 3), fun _ => true, [], [], [], false, []⟩
def s_Web_ball : DS :=
(sRet (eCall tupleM (aCons (eFl (aCall sortedM (aCons (eBin (binM .Add) (eBin ixM (eUn (fldM "rows") (eBor 0)) (eBor 1)) (eTup (aCons (eVar 1) aNil))) aNil))) aNil)))
def T_Web_ball : Tb := ⟨[], [], [], ["rows"], false, [], []⟩
theorem t_Web_ball : trSs (G := semAlg) T_Web_ball 40 c_Web_ball 60 (defBody (inClass (topS 7) 3)) = some s_Web_ball := by kernel_rfl
def m_Web_ball : List D → M D := defM s_Web_ball 2 2
def N_is_state_set : List Str := ["value", "many", "one", "k"]
def c_is_state_set : Tc := ⟨N_is_state_set, defScope (topS 8), fun _ => true, [], [], [], false, []⟩
def s_is_state_set : DS :=
(sSeq (sIf (tOrM (tNotM (tTru (eUn (isiM "tuple") (eBor 0)))) (tNotM (tTru (eCall allM (aCons (eFl (eComp [2] (.nm 2) tYesM (eAnd (eCall m_is_count (aCons (eVar 2) aNil)) (eBin (cmpM .Lt) (eBor 2) (eBor 1))) (iSeq (eBor 0)))) aNil))))) (sRet (eC (.bool false))) sSkip)
  (sRet (eCall allM (aCons (eFl (eComp [3] (.nm 3) tYesM (eBin (cmpM .Lt) (eBin ixM (eBor 0) (eBor 3)) (eBin ixM (eBor 0) (eBin (binM .Add) (eBor 3) (eC (.int 1))))) (eRange1 (eBin (binM .Sub) (eCall lenM (aCons (eBor 0) aNil)) (eC (.int 1)))))) aNil))))
def T_is_state_set : Tb := ⟨[("is_count", ⟨1, m_is_count⟩)], [], [], [], false, [], []⟩
theorem t_is_state_set : trSs (G := semAlg) T_is_state_set 40 c_is_state_set 60 (defBody (topS 8)) = some s_is_state_set := by kernel_rfl
def m_is_state_set : List D → M D := defM s_is_state_set 2 4
def N_check_set : List Str := ["value", "many"]
def c_check_set : Tc := ⟨N_check_set, defScope (topS 9), fun _ => true, [], [], [], false, []⟩
def s_check_set : DS :=
(sIf (tNotM (tTru (eCall m_is_state_set (aCons (eVar 0) (aCons (eVar 1) aNil))))) (sRaise "InvalidSet" (eC .none)) sSkip)
def T_check_set : Tb := ⟨[("is_state_set", ⟨2, m_is_state_set⟩)], [], [], [], false, ["InvalidSet"], []⟩
theorem t_check_set : trSs (G := semAlg) T_check_set 40 c_check_set 60 (defBody (topS 9)) = some s_check_set := by kernel_rfl
def m_check_set : List D → M D := defM s_check_set 2 2
def N_as_set : List Str := ["states", "state"]
def c_as_set : Tc := ⟨N_as_set, defScope (topS 10), fun _ => true, [], [], [], false, []⟩
def s_as_set : DS :=
(sRet (eCall tupleM (aCons (eFl (aCall sortedM (aCons (eFd (kOf dictM (eFl (eComp [1] (.nm 1) tYesM (eTup (aCons (eVar 1) (aCons (eC (.bool true)) aNil))) (iSeq (eBor 0)))))) aNil))) aNil)))
def T_as_set : Tb := ⟨[], [], [], [], false, [], []⟩
theorem t_as_set : trSs (G := semAlg) T_as_set 40 c_as_set 60 (defBody (topS 10)) = some s_as_set := by kernel_rfl
def m_as_set : List D → M D := defM s_as_set 1 2
def N_common_set : List Str := ["first", "second", "state"]
def c_common_set : Tc := ⟨N_common_set, defScope (topS 11), fun _ => true, [], [], [], false, []⟩
def s_common_set : DS :=
(sRet (eCall tupleM (aCons (eFl (eComp [2] (.nm 2) (tBool (eBin (cmpM .In) (eBor 2) (eBor 1))) (eVar 2) (iSeq (eBor 0)))) aNil)))
def T_common_set : Tb := ⟨[], [], [], [], false, [], []⟩
theorem t_common_set : trSs (G := semAlg) T_common_set 40 c_common_set 60 (defBody (topS 11)) = some s_common_set := by kernel_rfl
def m_common_set : List D → M D := defM s_common_set 2 3
def N_all_sets : List Str := ["states", "found", "state", "row"]
def c_all_sets : Tc := ⟨N_all_sets, defScope (topS 12), fun _ => true, [], [], [], false, []⟩
def s_all_sets : DS :=
(sSeq (sSet 1 (slV (eFl (aCons (eTup aNil) aNil))))
  (sSeq (sFor (.nm 2) (iSeq (eVar 0)) (sSet 1 (slV (eBin (binM .Add) (eBor 1) (eFl (eComp [3] (.nm 3) tYesM (eBin (binM .Add) (eBor 3) (eTup (aCons (eVar 2) aNil))) (iSeq (eBor 1))))))))
  (sRet (eFl (eSortK rowKey (eFl (eComp [3] (.nm 3) tYesM (eCall m_as_set (aCons (eVar 3) aNil)) (iSeq (eBor 1)))))))))
def T_all_sets : Tb := ⟨[("as_set", ⟨1, m_as_set⟩)], [], [], [], true, [], []⟩
theorem t_all_sets : trSs (G := semAlg) T_all_sets 40 c_all_sets 60 (defBody (topS 12)) = some s_all_sets := by kernel_rfl
def m_all_sets : List D → M D := defM s_all_sets 1 4
def N_kept_times : List Str := ["web", "states", "one", "state"]
def c_kept_times : Tc := ⟨N_kept_times, defScope (topS 14), fun _ => true, [], [], [], false, []⟩
def s_kept_times : DS :=
(sRet (eFl (eComp [3] (.nm 3) tYesM (eCall lenM (aCons (eFl (eComp [2] (.nm 2) (tBool (eBin (cmpM .In) (eBor 2) (eBor 1))) (eVar 2) (iSeq (eMeth "ball" "Web" m_Web_ball (eVar 0) (aCons (eVar 3) aNil))))) aNil)) (eRange1 (eUn (fldM "many") (eBor 0))))))
def T_kept_times : Tb := ⟨[], [("ball", "Web", ⟨2, m_Web_ball⟩)], [], ["many"], false, [], []⟩
theorem t_kept_times : trSs (G := semAlg) T_kept_times 40 c_kept_times 60 (defBody (topS 14)) = some s_kept_times := by kernel_rfl
def m_kept_times : List D → M D := defM s_kept_times 2 4
def N_turned_lights : List Str := ["web", "states", "state"]
def c_turned_lights : Tc := ⟨N_turned_lights, defScope (topS 16), fun _ => true, [], [], [], false, []⟩
def s_turned_lights : DS :=
(sSeq (sExpr (eCall m_check_set (aCons (eVar 1) (aCons (eUn (fldM "many") (eBor 0)) aNil))))
  (sRet (eCall tupleM (aCons (eFl (eComp [2] (.nm 2) (tTru (eBin (binM .BitAnd) (eBin ixM (eCall m_kept_times (aCons (eVar 0) (aCons (eVar 1) aNil))) (eBor 2)) (eC (.int 1)))) (eVar 2) (eRange1 (eUn (fldM "many") (eBor 0))))) aNil))))
def T_turned_lights : Tb := ⟨[("check_set", ⟨2, m_check_set⟩), ("kept_times", ⟨2, m_kept_times⟩)], [], [], ["many"], false, [], []⟩
theorem t_turned_lights : trSs (G := semAlg) T_turned_lights 40 c_turned_lights 60 (defBody (topS 16)) = some s_turned_lights := by kernel_rfl
def m_turned_lights : List D → M D := defM s_turned_lights 2 3
def N_odd_sum : List Str := ["first", "second", "one"]
def c_odd_sum : Tc := ⟨N_odd_sum, defScope (topS 17), fun _ => true, [], [], [], false, []⟩
def s_odd_sum : DS :=
(sRet (eCall m_as_set (aCons (eBin (binM .Add) (eFl (eComp [2] (.nm 2) (tBool (eBin (cmpM .NotIn) (eBor 2) (eBor 1))) (eVar 2) (iSeq (eBor 0)))) (eFl (eComp [2] (.nm 2) (tBool (eBin (cmpM .NotIn) (eBor 2) (eBor 0))) (eVar 2) (iSeq (eBor 1))))) aNil)))
def T_odd_sum : Tb := ⟨[("as_set", ⟨1, m_as_set⟩)], [], [], [], false, [], []⟩
theorem t_odd_sum : trSs (G := semAlg) T_odd_sum 40 c_odd_sum 60 (defBody (topS 17)) = some s_odd_sum := by kernel_rfl
def m_odd_sum : List D → M D := defM s_odd_sum 2 3
def N_press_rows : List Str := ["web", "rows", "quiet", "state", "lights", "presses", "told", "other", "lead"]
def c_press_rows : Tc := ⟨N_press_rows, defScope (topS 18), fun _ => true, [1, 2], [], [], false, []⟩
def s_press_rows : DS :=
(sSeq (sPar [1, 2] (aScons (slD dNil) (aScons (slL aNil) aSnil)))
  (sSeq (sFor (.nm 3) (eRange1 (eUn (fldM "many") (eBor 0))) (sSeq (sPar [4, 5] (aScons (slV (eMeth "ball" "Web" m_Web_ball (eVar 0) (aCons (eVar 3) aNil))) (aScons (slV (eTup (aCons (eVar 3) aNil))) aSnil)))
  (sSeq (sWhile [] (tAndM (tBool (eBin (cmpM .NotEq) (eBor 4) (eTup aNil))) (tBool (eBin (cmpM .In) (eBin ixM (eBor 4) (eC (.int 0))) (eBor 1)))) (sSeq (sUnp (.tup [6, 7]) (eBin ixM (eBor 1) (eBin ixM (eBor 4) (eC (.int 0)))))
  (sPar [4, 5] (aScons (slV (eCall m_odd_sum (aCons (eVar 4) (aCons (eVar 6) aNil)))) (aScons (slV (eCall m_odd_sum (aCons (eVar 5) (aCons (eVar 7) aNil)))) aSnil)))) whFuel)
  (sIf (tBool (eBin (cmpM .Eq) (eBor 4) (eTup aNil))) (sApp 2 (eVar 5)) (sPut 1 (eTup (aCons (eVar 4) (aCons (eVar 5) aNil))) (eBin ixM (eBor 4) (eC (.int 0))))))))
  (sFz [2] (sRet (eTup (aCons (eFl (eComp [8] (.nm 8) tYesM (eBin ixM (eBor 1) (eBor 8)) (iSeq (eFl (aCall sortedM (aCons (eFl (aCall listM (aCons (eBor 1) aNil))) aNil)))))) (aCons (eVar 2) aNil)))))))
def T_press_rows : Tb := ⟨[("odd_sum", ⟨2, m_odd_sum⟩)], [("ball", "Web", ⟨2, m_Web_ball⟩)], [], ["many"], false, [], []⟩
theorem t_press_rows : trSs (G := semAlg) T_press_rows 40 c_press_rows 60 (defBody (topS 18)) = some s_press_rows := by kernel_rfl
def m_press_rows : List D → M D := defM s_press_rows 1 9
def N_presses_for : List Str := ["web", "lights", "rows", "quiet", "left", "found", "told", "presses", "against", "states"]
def c_presses_for : Tc := ⟨N_presses_for, defScope (topS 19), fun _ => true, [], [], [], false, []⟩
def s_presses_for : DS :=
(sSeq (sExpr (eCall m_check_set (aCons (eVar 1) (aCons (eUn (fldM "many") (eBor 0)) aNil))))
  (sSeq (sUnp (.tup [2, 3]) (eCall m_press_rows (aCons (eVar 0) aNil)))
  (sSeq (sPar [4, 5] (aScons (slV (eVar 1)) (aScons (slV (eTup aNil)) aSnil)))
  (sSeq (sFor (.tup [6, 7]) (iSeq (eVar 2)) (sIf (tBool (eBin (cmpM .In) (eBin ixM (eBor 6) (eC (.int 0))) (eBor 4))) (sPar [4, 5] (aScons (slV (eCall m_odd_sum (aCons (eVar 4) (aCons (eVar 6) aNil)))) (aScons (slV (eCall m_odd_sum (aCons (eVar 5) (aCons (eVar 7) aNil)))) aSnil))) sSkip))
  (sSeq (sIf (tBool (eBin (cmpM .Eq) (eBor 4) (eTup aNil))) (sRet (eTup (aCons (eC (.str "yes")) (aCons (eVar 5) aNil)))) sSkip)
  (sSeq (sSet 8 (slV (eFl (eComp [9] (.nm 9) (tTru (eBin (binM .BitAnd) (eCall lenM (aCons (eCall m_common_set (aCons (eVar 9) (aCons (eVar 1) aNil))) aNil)) (eC (.int 1)))) (eVar 9) (iSeq (eBor 3))))))
  (sRet (eTup (aCons (eC (.str "no")) (aCons (eBin ixM (eBor 8) (eC (.int 0))) aNil))))))))))
def T_presses_for : Tb := ⟨[("check_set", ⟨2, m_check_set⟩), ("press_rows", ⟨1, m_press_rows⟩), ("odd_sum", ⟨2, m_odd_sum⟩), ("common_set", ⟨2, m_common_set⟩)], [], [], ["many"], false, [], []⟩
theorem t_presses_for : trSs (G := semAlg) T_presses_for 40 c_presses_for 60 (defBody (topS 19)) = some s_presses_for := by kernel_rfl
def m_presses_for : List D → M D := defM s_presses_for 2 10
def N_are_presses_for : List Str := ["web", "lights", "value"]
def c_are_presses_for : Tc := ⟨N_are_presses_for, defScope (topS 20), fun _ => true, [], [], [], false, []⟩
def s_are_presses_for : DS :=
(sRet (eAnd (eCall m_is_state_set (aCons (eVar 2) (aCons (eUn (fldM "many") (eBor 0)) aNil))) (eBin (cmpM .Eq) (eCall m_turned_lights (aCons (eVar 0) (aCons (eVar 2) aNil))) (eBor 1))))
def T_are_presses_for : Tb := ⟨[("is_state_set", ⟨2, m_is_state_set⟩), ("turned_lights", ⟨2, m_turned_lights⟩)], [], [], ["many"], false, [], []⟩
theorem t_are_presses_for : trSs (G := semAlg) T_are_presses_for 40 c_are_presses_for 60 (defBody (topS 20)) = some s_are_presses_for := by kernel_rfl
def m_are_presses_for : List D → M D := defM s_are_presses_for 3 3
def N_keeps_lights : List Str := ["web", "lights", "value", "number"]
def c_keeps_lights : Tc := ⟨N_keeps_lights, defScope (topS 21), fun _ => true, [], [], [], false, []⟩
def s_keeps_lights : DS :=
(sSeq (sIf (tOrM (tNotM (tTru (eCall m_is_state_set (aCons (eVar 2) (aCons (eUn (fldM "many") (eBor 0)) aNil))))) (tBool (eBin (cmpM .Eq) (eBin (binM .BitAnd) (eCall lenM (aCons (eCall m_common_set (aCons (eVar 2) (aCons (eVar 1) aNil))) aNil)) (eC (.int 1))) (eC (.int 0))))) (sRet (eC (.bool false))) sSkip)
  (sRet (eCall allM (aCons (eFl (eComp [3] (.nm 3) tYesM (eBin (cmpM .Eq) (eBin (binM .BitAnd) (eBor 3) (eC (.int 1))) (eC (.int 0))) (iSeq (eCall m_kept_times (aCons (eVar 0) (aCons (eVar 2) aNil)))))) aNil))))
def T_keeps_lights : Tb := ⟨[("is_state_set", ⟨2, m_is_state_set⟩), ("kept_times", ⟨2, m_kept_times⟩), ("common_set", ⟨2, m_common_set⟩)], [], [], ["many"], false, [], []⟩
theorem t_keeps_lights : trSs (G := semAlg) T_keeps_lights 40 c_keeps_lights 60 (defBody (topS 21)) = some s_keeps_lights := by kernel_rfl
def m_keeps_lights : List D → M D := defM s_keeps_lights 3 4
def N_odd_keeper : List Str := ["web"]
def c_odd_keeper : Tc := ⟨N_odd_keeper, defScope (topS 22), fun _ => true, [], [], [], false, []⟩
def s_odd_keeper : DS :=
(sRet (eBin ixM (eCall m_presses_for (aCons (eVar 0) (aCons (eTup (eRange1 (eUn (fldM "many") (eBor 0)))) aNil))) (eC (.int 1))))
def T_odd_keeper : Tb := ⟨[("presses_for", ⟨2, m_presses_for⟩)], [], [], ["many"], false, [], []⟩
theorem t_odd_keeper : trSs (G := semAlg) T_odd_keeper 40 c_odd_keeper 60 (defBody (topS 22)) = some s_odd_keeper := by kernel_rfl
def m_odd_keeper : List D → M D := defM s_odd_keeper 1 1
def N_is_odd_keeper : List Str := ["web", "value", "number"]
def c_is_odd_keeper : Tc := ⟨N_is_odd_keeper, defScope (topS 23), fun _ => true, [], [], [], false, []⟩
def s_is_odd_keeper : DS :=
(sRet (eAnd (eCall m_is_state_set (aCons (eVar 1) (aCons (eUn (fldM "many") (eBor 0)) aNil))) (eCall allM (aCons (eFl (eComp [2] (.nm 2) tYesM (eBin (binM .BitAnd) (eBor 2) (eC (.int 1))) (iSeq (eCall m_kept_times (aCons (eVar 0) (aCons (eVar 1) aNil)))))) aNil))))
def T_is_odd_keeper : Tb := ⟨[("is_state_set", ⟨2, m_is_state_set⟩), ("kept_times", ⟨2, m_kept_times⟩)], [], [], ["many"], false, [], []⟩
theorem t_is_odd_keeper : trSs (G := semAlg) T_is_odd_keeper 40 c_is_odd_keeper 60 (defBody (topS 23)) = some s_is_odd_keeper := by kernel_rfl
def m_is_odd_keeper : List D → M D := defM s_is_odd_keeper 2 3
def N_odd_keeper_count : List Str := ["web"]
def c_odd_keeper_count : Tc := ⟨N_odd_keeper_count, defScope (topS 24), fun _ => true, [], [], [], false, []⟩
def s_odd_keeper_count : DS :=
(sRet (eBin (binM .LShift) (eC (.int 1)) (eCall lenM (aCons (eBin ixM (eCall m_press_rows (aCons (eVar 0) aNil)) (eC (.int 1))) aNil))))
def T_odd_keeper_count : Tb := ⟨[("press_rows", ⟨1, m_press_rows⟩)], [], [], [], false, [], []⟩
theorem t_odd_keeper_count : trSs (G := semAlg) T_odd_keeper_count 40 c_odd_keeper_count 60 (defBody (topS 24)) = some s_odd_keeper_count := by kernel_rfl
def m_odd_keeper_count : List D → M D := defM s_odd_keeper_count 1 1
def N_least_presses : List Str := ["web", "lights", "word", "presses", "best", "quiet", "some", "here", "k"]
def c_least_presses : Tc := ⟨N_least_presses, defScope (topS 25), fun _ => true, [], [], [], false, []⟩
def s_least_presses : DS :=
(sSeq (sUnp (.tup [2, 3]) (eCall m_presses_for (aCons (eVar 0) (aCons (eVar 1) aNil))))
  (sSeq (sIf (tBool (eBin (cmpM .Eq) (eBor 2) (eC (.str "no")))) (sRet (eC .none)) sSkip)
  (sSeq (sSet 4 (slV (eVar 3)))
  (sSeq (sSet 5 (slV (eBin ixM (eCall m_press_rows (aCons (eVar 0) aNil)) (eC (.int 1)))))
  (sSeq (sFor (.nm 6) (iSeq (eCall m_all_sets (aCons (eTup (eRange1 (eCall lenM (aCons (eBor 5) aNil)))) aNil))) (sSeq (sSet 7 (slV (eVar 3)))
  (sSeq (sFor (.nm 8) (iSeq (eVar 6)) (sSet 7 (slV (eCall m_odd_sum (aCons (eVar 7) (aCons (eBin ixM (eBor 5) (eBor 8)) aNil))))))
  (sIf (tBool (eBin (cmpM .Lt) (eTup (aCons (eCall lenM (aCons (eBor 7) aNil)) (aCons (eVar 7) aNil))) (eTup (aCons (eCall lenM (aCons (eBor 4) aNil)) (aCons (eVar 4) aNil))))) (sSet 4 (slV (eVar 7))) sSkip))))
  (sRet (eVar 4)))))))
def T_least_presses : Tb := ⟨[("presses_for", ⟨2, m_presses_for⟩), ("all_sets", ⟨1, m_all_sets⟩), ("press_rows", ⟨1, m_press_rows⟩), ("odd_sum", ⟨2, m_odd_sum⟩)], [], [], [], false, [], []⟩
theorem t_least_presses : trSs (G := semAlg) T_least_presses 40 c_least_presses 60 (defBody (topS 25)) = some s_least_presses := by kernel_rfl
def m_least_presses : List D → M D := defM s_least_presses 2 9
def N_lights_reached : List Str := ["web"]
def c_lights_reached : Tc := ⟨N_lights_reached, defScope (topS 26), fun _ => true, [], [], [], false, []⟩
def s_lights_reached : DS :=
(sRet (eBin (binM .LShift) (eC (.int 1)) (eCall lenM (aCons (eBin ixM (eCall m_press_rows (aCons (eVar 0) aNil)) (eC (.int 0))) aNil))))
def T_lights_reached : Tb := ⟨[("press_rows", ⟨1, m_press_rows⟩)], [], [], [], false, [], []⟩
theorem t_lights_reached : trSs (G := semAlg) T_lights_reached 40 c_lights_reached 60 (defBody (topS 26)) = some s_lights_reached := by kernel_rfl
def m_lights_reached : List D → M D := defM s_lights_reached 1 1
def N_press_sum : List Str := ["web", "first", "second"]
def c_press_sum : Tc := ⟨N_press_sum, defScope (topS 27), fun _ => true, [], [], [], false, []⟩
def s_press_sum : DS :=
(sSeq (sIf (tOrM (tNotM (tTru (eCall m_is_state_set (aCons (eVar 1) (aCons (eUn (fldM "many") (eBor 0)) aNil))))) (tNotM (tTru (eCall m_is_state_set (aCons (eVar 2) (aCons (eUn (fldM "many") (eBor 0)) aNil)))))) (sRaise "InvalidSet" (eC .none)) sSkip)
  (sRet (eCall m_odd_sum (aCons (eVar 1) (aCons (eVar 2) aNil)))))
def T_press_sum : Tb := ⟨[("odd_sum", ⟨2, m_odd_sum⟩), ("is_state_set", ⟨2, m_is_state_set⟩)], [], [], ["many"], false, ["InvalidSet"], []⟩
theorem t_press_sum : trSs (G := semAlg) T_press_sum 40 c_press_sum 60 (defBody (topS 27)) = some s_press_sum := by kernel_rfl
def m_press_sum : List D → M D := defM s_press_sum 3 3
def N__law_draw : List Str := ["state", "script", "size", "cell", "mixed", "digit"]
def c__law_draw : Tc := ⟨N__law_draw, defScope (topS 29), fun _ => true, [], [], [], false, []⟩
def s__law_draw : DS :=
(sSeq (sIf (tBool (eBin (cmpM .Eq) (eBin ixM (eBor 0) (eC (.int 1))) (eC (.int 0)))) (sSeq (sSet 3 (slV (eC (.int 0))))
  (sSeq (sIf (tBool (eBin (cmpM .Gt) (eCall lenM (aCons (eBor 1) aNil)) (eC (.int 0)))) (sSet 3 (slV (eBin ixM (eBor 1) (eBin (binM .Mod) (eBin ixM (eBor 0) (eC (.int 0))) (eCall lenM (aCons (eBor 1) aNil)))))) sSkip)
  (sSeq (sIf (tBool (eBin (cmpM .Lt) (eBor 3) (eC (.int 0)))) (sSet 3 (slV (eBin (binM .Sub) (eC (.int 1)) (eBin (binM .Mult) (eC (.int 2)) (eBor 3))))) sSkip)
  (sSeq (sSet 4 (slV (eBin (binM .Mod) (eCall intM (aCons (eBin (binM .Mult) (eBin (binM .Add) (eBin (binM .Add) (eBor 3) (eBin (binM .Mult) (eBin ixM (eBor 0) (eC (.int 0))) (eC (.int 7919)))) (eC (.int 1))) (eC (.int 48271))) aNil)) (eC (.int 2147483647)))))
  (sSeq (sPut 0 (eBin (binM .Mod) (eCall intM (aCons (eBin (binM .Add) (eBin (binM .Mult) (eBor 4) (eC (.int 69621))) (eBin (binM .Mult) (eBin ixM (eBor 0) (eC (.int 0))) (eC (.int 104729)))) aNil)) (eC (.int 4294967291))) (eC (.int 1)))
  (sSeq (sIf (tAndM (tBool (eBin (cmpM .GtE) (eBor 3) (eBin (binM .Pow) (eC (.int 10)) (eC (.int 18))))) (tBool (eBin (cmpM .Lt) (eBin ixM (eBor 0) (eC (.int 0))) (eCall lenM (aCons (eBor 1) aNil))))) (sPut 0 (eVar 3) (eC (.int 1))) sSkip)
  (sPut 0 (eBin (binM .Add) (eBin ixM (eBor 0) (eC (.int 0))) (eC (.int 1))) (eC (.int 0))))))))) sSkip)
  (sSeq (sSet 5 (slV (eBin (binM .Mod) (eCall intM (aCons (eBin ixM (eBor 0) (eC (.int 1))) aNil)) (eBor 2))))
  (sSeq (sPut 0 (eBin (binM .FloorDiv) (eBin ixM (eBor 0) (eC (.int 1))) (eBor 2)) (eC (.int 1)))
  (sRet (eVar 5)))))
def T__law_draw : Tb := ⟨[], [], [], [], false, [], []⟩
theorem t__law_draw : trSs (G := semAlg) T__law_draw 40 c__law_draw 60 (defBody (topS 29)) = some s__law_draw := by kernel_rfl
def m__law_draw : List D → M D := defM s__law_draw 3 6
def N__law_pairs : List Str := ["state", "script", "many", "dense", "found", "a", "b"]
def c__law_pairs : Tc := ⟨N__law_pairs, defScope (topS 30), fun _ => true, [], [], [], false, []⟩
def s__law_pairs : DS :=
(sSeq (sSet 4 (slV (eFl aNil)))
  (sSeq (sFor (.nm 5) (eRange1 (eBor 2)) (sSet 4 (slV (eBin (binM .Add) (eBor 4) (eFl (eComp [6] (.nm 6) (tBool (eBin (cmpM .Lt) (eCall m__law_draw (aCons (eVar 0) (aCons (eVar 1) (aCons (eC (.int 4)) aNil)))) (eBor 3))) (eTup (aCons (eVar 5) (aCons (eVar 6) aNil))) (eRange2 (eBin (binM .Add) (eBor 5) (eC (.int 1))) (eBor 2))))))))
  (sRet (eVar 4))))
def T__law_pairs : Tb := ⟨[("_law_draw", ⟨3, m__law_draw⟩)], [], [], [], false, [], []⟩
theorem t__law_pairs : trSs (G := semAlg) T__law_pairs 40 c__law_pairs 60 (defBody (topS 30)) = some s__law_pairs := by kernel_rfl
def m__law_pairs : List D → M D := defM s__law_pairs 4 7
def N__law_near : List Str := ["pairs", "state", "a", "b"]
def c__law_near : Tc := ⟨N__law_near, defScope (topS 31), fun _ => true, [], [], [], false, []⟩
def s__law_near : DS :=
(sRet (eCall tupleM (aCons (eFl (aCall sortedM (aCons (eBin (binM .Add) (eFl (eComp [2, 3] (.tup [2, 3]) (tBool (eBin (cmpM .Eq) (eBor 2) (eBor 1))) (eVar 3) (iSeq (eBor 0)))) (eFl (eComp [2, 3] (.tup [2, 3]) (tBool (eBin (cmpM .Eq) (eBor 3) (eBor 1))) (eVar 2) (iSeq (eBor 0))))) aNil))) aNil)))
def T__law_near : Tb := ⟨[], [], [], [], false, [], []⟩
theorem t__law_near : trSs (G := semAlg) T__law_near 40 c__law_near 60 (defBody (topS 31)) = some s__law_near := by kernel_rfl
def m__law_near : List D → M D := defM s__law_near 2 4
def N__law_ball : List Str := ["pairs", "state"]
def c__law_ball : Tc := ⟨N__law_ball, defScope (topS 32), fun _ => true, [], [], [], false, []⟩
def s__law_ball : DS :=
(sRet (eCall tupleM (aCons (eFl (aCall sortedM (aCons (eBin (binM .Add) (eCall m__law_near (aCons (eVar 0) (aCons (eVar 1) aNil))) (eTup (aCons (eVar 1) aNil))) aNil))) aNil)))
def T__law_ball : Tb := ⟨[("_law_near", ⟨2, m__law_near⟩)], [], [], [], false, [], []⟩
theorem t__law_ball : trSs (G := semAlg) T__law_ball 40 c__law_ball 60 (defBody (topS 32)) = some s__law_ball := by kernel_rfl
def m__law_ball : List D → M D := defM s__law_ball 2 2
def N__law_sets : List Str := ["many", "found", "k", "some", "size"]
def c__law_sets : Tc := ⟨N__law_sets, defScope (topS 33), fun _ => true, [], [], [], false, []⟩
def s__law_sets : DS :=
(sSeq (sSet 1 (slV (eFl (aCons (eTup aNil) aNil))))
  (sSeq (sFor (.nm 2) (eRange1 (eBor 0)) (sSet 1 (slV (eBin (binM .Add) (eBor 1) (eFl (eComp [3] (.nm 3) tYesM (eBin (binM .Add) (eBor 3) (eTup (aCons (eVar 2) aNil))) (iSeq (eBor 1))))))))
  (sRet (eFl (eComp [4, 3] (.tup [4, 3]) tYesM (eVar 3) (iSeq (eFl (aCall sortedM (aCons (eFl (eComp [3] (.nm 3) tYesM (eTup (aCons (eCall lenM (aCons (eBor 3) aNil)) (aCons (eVar 3) aNil))) (iSeq (eBor 1)))) aNil)))))))))
def T__law_sets : Tb := ⟨[], [], [], [], false, [], []⟩
theorem t__law_sets : trSs (G := semAlg) T__law_sets 40 c__law_sets 60 (defBody (topS 33)) = some s__law_sets := by kernel_rfl
def m__law_sets : List D → M D := defM s__law_sets 1 5
def N__law_counts : List Str := ["value", "many", "one"]
def c__law_counts : Tc := ⟨N__law_counts, defScope (topS 37), fun _ => true, [], [], [], false, []⟩
def s__law_counts : DS :=
(sRet (eAnd (eUn (isiM "tuple") (eBor 0)) (eAnd (eBin (cmpM .Eq) (eCall lenM (aCons (eBor 0) aNil)) (eBor 1)) (eBin (cmpM .NotIn) (eC (.bool false)) (eFl (eComp [2] (.nm 2) tYesM (eAnd (eUn (isiM "int") (eBor 2)) (eAnd (eNot (eUn (isiM "bool") (eBor 2))) (eBin (cmpM .GtE) (eBor 2) (eC (.int 0))))) (iSeq (eBor 0))))))))
def T__law_counts : Tb := ⟨[], [], [], [], false, [], []⟩
theorem t__law_counts : trSs (G := semAlg) T__law_counts 40 c__law_counts 60 (defBody (topS 37)) = some s__law_counts := by kernel_rfl
def m__law_counts : List D → M D := defM s__law_counts 2 3
def N__law_set : List Str := ["value", "many", "one"]
def c__law_set : Tc := ⟨N__law_set, defScope (topS 38), fun _ => true, [], [], [], false, []⟩
def s__law_set : DS :=
(sRet (eAnd (eUn (isiM "tuple") (eBor 0)) (eAnd (eCall m__law_counts (aCons (eVar 0) (aCons (eCall lenM (aCons (eBor 0) aNil)) aNil))) (eAnd (eBin (cmpM .Eq) (eFl (aCall listM (aCons (eBor 0) aNil))) (eFl (aOf sortSetM (eBor 0)))) (eBin (cmpM .Eq) (eCall lenM (aCons (eFl (eComp [2] (.nm 2) (tBool (eBin (cmpM .GtE) (eBor 2) (eBor 1))) (eVar 2) (iSeq (eBor 0)))) aNil)) (eC (.int 0)))))))
def T__law_set : Tb := ⟨[("_law_counts", ⟨2, m__law_counts⟩)], [], [], [], false, [], []⟩
theorem t__law_set : trSs (G := semAlg) T__law_set 40 c__law_set 60 (defBody (topS 38)) = some s__law_set := by kernel_rfl
def m__law_set : List D → M D := defM s__law_set 2 3
def N__law_times : List Str := ["many", "pairs", "some", "one", "k"]
def c__law_times : Tc := ⟨N__law_times, defScope (topS 39), fun _ => true, [], [], [], false, []⟩
def s__law_times : DS :=
(sRet (eFl (eComp [4] (.nm 4) tYesM (eCall lenM (aCons (eFl (eComp [3] (.nm 3) (tBool (eBin (cmpM .In) (eBor 3) (eBor 2))) (eVar 3) (iSeq (eCall m__law_ball (aCons (eVar 1) (aCons (eVar 4) aNil)))))) aNil)) (eRange1 (eBor 0)))))
def T__law_times : Tb := ⟨[("_law_ball", ⟨2, m__law_ball⟩)], [], [], [], false, [], []⟩
theorem t__law_times : trSs (G := semAlg) T__law_times 40 c__law_times 60 (defBody (topS 39)) = some s__law_times := by kernel_rfl
def m__law_times : List D → M D := defM s__law_times 3 5
def N__law_turned : List Str := ["many", "pairs", "some", "times", "k"]
def c__law_turned : Tc := ⟨N__law_turned, defScope (topS 40), fun _ => true, [], [], [], false, []⟩
def s__law_turned : DS :=
(sSeq (sSet 3 (slV (eCall m__law_times (aCons (eVar 0) (aCons (eVar 1) (aCons (eVar 2) aNil))))))
  (sRet (eCall tupleM (aCons (eFl (eComp [4] (.nm 4) (tBool (eBin (cmpM .Eq) (eBin (binM .Mod) (eCall intM (aCons (eBin ixM (eBor 3) (eBor 4)) aNil)) (eC (.int 2))) (eC (.int 1)))) (eVar 4) (eRange1 (eBor 0)))) aNil))))
def T__law_turned : Tb := ⟨[("_law_times", ⟨3, m__law_times⟩)], [], [], [], false, [], []⟩
theorem t__law_turned : trSs (G := semAlg) T__law_turned 40 c__law_turned 60 (defBody (topS 40)) = some s__law_turned := by kernel_rfl
def m__law_turned : List D → M D := defM s__law_turned 3 5
def N__law_refused : List Str := ["kind", "web", "value", "error"]
def c__law_refused : Tc := ⟨N__law_refused, defScope (topS 41), fun _ => true, [], [], [], false, []⟩
def s__law_refused : DS :=
(sTry "InvalidSet" (sSeq (sIf (tBool (eBin (cmpM .Eq) (eBor 0) (eC (.int 0)))) (sExpr (eCall m_turned_lights (aCons (eVar 1) (aCons (eVar 2) aNil)))) (sIf (tBool (eBin (cmpM .Eq) (eBor 0) (eC (.int 1)))) (sExpr (eCall m_presses_for (aCons (eVar 1) (aCons (eVar 2) aNil)))) (sIf (tBool (eBin (cmpM .Eq) (eBor 0) (eC (.int 2)))) (sExpr (eCall m_least_presses (aCons (eVar 1) (aCons (eVar 2) aNil)))) (sIf (tBool (eBin (cmpM .Eq) (eBor 0) (eC (.int 3)))) (sExpr (eCall m_press_sum (aCons (eVar 1) (aCons (eVar 2) (aCons (eTup aNil) aNil))))) (sExpr (eCall m_press_sum (aCons (eVar 1) (aCons (eTup aNil) (aCons (eVar 2) aNil)))))))))
  (sRet (eC (.str "none")))))
def T__law_refused : Tb := ⟨[("turned_lights", ⟨2, m_turned_lights⟩), ("presses_for", ⟨2, m_presses_for⟩), ("least_presses", ⟨2, m_least_presses⟩), ("press_sum", ⟨3, m_press_sum⟩)], [], [], ["place"], false, ["InvalidSet"], []⟩
theorem t__law_refused : trSs (G := semAlg) T__law_refused 40 c__law_refused 60 (defBody (topS 41)) = some s__law_refused := by kernel_rfl
def m__law_refused : List D → M D := defM s__law_refused 3 4
def N_law : List Str := ["script", "state", "many", "pairs", "web", "sets", "some", "other", "both", "k", "told", "one", "quiet", "lights", "good", "against", "word", "thing", "value", "fine", "odd", "rows", "free", "leads", "row", "presses", "spans", "kind"]
def c_law : Tc := ⟨N_law, defScope (topS 42), fun _ => true, [], [], [1], false, []⟩
def s_law : DS :=
(sSeq (sSet 1 (slV (eTape (aCons (eC (.int 0)) (aCons (eC (.int 0)) aNil)))))
  (sSeq (sSet 2 (slV (eCall m__law_draw (aCons (eVar 1) (aCons (eVar 0) (aCons (eC (.int 7)) aNil))))))
  (sSeq (sSet 3 (slV (eCall m__law_pairs (aCons (eVar 1) (aCons (eVar 0) (aCons (eVar 2) (aCons (eBin (binM .Add) (eC (.int 1)) (eCall m__law_draw (aCons (eVar 1) (aCons (eVar 0) (aCons (eC (.int 3)) aNil))))) aNil)))))))
  (sSeq (sSet 4 (slV (eCall m_Web___init__ (aCons (eVar 2) (aCons (eVar 3) aNil)))))
  (sSeq (sSet 5 (slV (eCall m__law_sets (aCons (eVar 2) aNil))))
  (sSeq (sPar [6, 7] (aScons (slV (eBin ixM (eBor 5) (eCall m__law_draw (aCons (eVar 1) (aCons (eVar 0) (aCons (eCall lenM (aCons (eBor 5) aNil)) aNil)))))) (aScons (slV (eBin ixM (eBor 5) (eCall m__law_draw (aCons (eVar 1) (aCons (eVar 0) (aCons (eCall lenM (aCons (eBor 5) aNil)) aNil)))))) aSnil)))
  (sSeq (sSet 8 (slV (eCall tupleM (aCons (eFl (eComp [9] (.nm 9) (tBool (eBin (cmpM .NotEq) (eBin (cmpM .In) (eBor 9) (eBor 6)) (eBin (cmpM .In) (eBor 9) (eBor 7)))) (eVar 9) (eRange1 (eBor 2)))) aNil))))
  (sSeq (sIf (tOrM (tBool (eBin (cmpM .NotEq) (eCall m_turned_lights (aCons (eVar 4) (aCons (eVar 6) aNil))) (eCall m__law_turned (aCons (eVar 2) (aCons (eVar 3) (aCons (eVar 6) aNil)))))) (tOrM (tBool (eBin (cmpM .NotEq) (eCall m_odd_sum (aCons (eVar 6) (aCons (eVar 7) aNil))) (eBor 8))) (tBool (eBin (cmpM .NotEq) (eCall m_press_sum (aCons (eVar 4) (aCons (eVar 6) (aCons (eVar 7) aNil)))) (eBor 8))))) (sRet (eC (.bool false))) sSkip)
  (sSeq (sSet 10 (slV (eFl (eComp [11] (.nm 11) tYesM (eCall m__law_turned (aCons (eVar 2) (aCons (eVar 3) (aCons (eVar 11) aNil)))) (iSeq (eBor 5))))))
  (sSeq (sSet 12 (slV (eFl (eComp [9] (.nm 9) (tBool (eBin (cmpM .Eq) (eBin ixM (eBor 10) (eBor 9)) (eTup aNil))) (eBin ixM (eBor 5) (eBor 9)) (eRange1 (eCall lenM (aCons (eBor 5) aNil)))))))
  (sSeq (sSet 13 (slV (eVar 7)))
  (sSeq (sIf (tBool (eBin (cmpM .Eq) (eCall m__law_draw (aCons (eVar 1) (aCons (eVar 0) (aCons (eC (.int 2)) aNil)))) (eC (.int 0)))) (sSet 13 (slV (eCall m__law_turned (aCons (eVar 2) (aCons (eVar 3) (aCons (eVar 6) aNil)))))) sSkip)
  (sSeq (sSet 14 (slV (eFl (eComp [9] (.nm 9) (tBool (eBin (cmpM .Eq) (eBin ixM (eBor 10) (eBor 9)) (eBor 13))) (eBin ixM (eBor 5) (eBor 9)) (eRange1 (eCall lenM (aCons (eBor 5) aNil)))))))
  (sSeq (sSet 15 (slV (eFl (eComp [11] (.nm 11) (tBool (eBin (cmpM .Eq) (eBin (binM .Mod) (eCall intM (aCons (eCall lenM (aCons (eFl (eComp [9] (.nm 9) (tBool (eBin (cmpM .In) (eBor 9) (eBor 13))) (eVar 9) (iSeq (eBor 11)))) aNil)) aNil)) (eC (.int 2))) (eC (.int 1)))) (eVar 11) (iSeq (eBor 12))))))
  (sSeq (sUnp (.tup [16, 17]) (eCall m_presses_for (aCons (eVar 4) (aCons (eVar 13) aNil))))
  (sSeq (sIf (tOrM (tBool (eBin (cmpM .NotEq) (eBin (cmpM .Eq) (eBor 14) (eFl aNil)) (eBin (cmpM .NotEq) (eBor 15) (eFl aNil)))) (tOrM (tBool (eBin (cmpM .NotEq) (eBin (cmpM .Eq) (eBor 16) (eC (.str "yes"))) (eBin (cmpM .NotEq) (eBor 14) (eFl aNil)))) (tOrM (tAndM (tBool (eBin (cmpM .Eq) (eBor 16) (eC (.str "yes")))) (tBool (eBin (cmpM .NotIn) (eBor 17) (eBor 14)))) (tAndM (tBool (eBin (cmpM .Eq) (eBor 16) (eC (.str "no")))) (tBool (eBin (cmpM .NotIn) (eBor 17) (eBor 15))))))) (sRet (eC (.bool false))) sSkip)
  (sSeq (sIf (tOrM (tBool (eBin (cmpM .NotEq) (eCall m_least_presses (aCons (eVar 4) (aCons (eVar 13) aNil))) (eBin ixM (eBin (binM .Add) (eBor 14) (eFl (aCons (eC .none) aNil))) (eC (.int 0))))) (tBool (eBin (cmpM .NotEq) (eCall m_lights_reached (aCons (eVar 4) aNil)) (eUn lenSetM (eBor 10))))) (sRet (eC (.bool false))) sSkip)
  (sSeq (sFor (.nm 18) (iSeq (eBin (binM .Add) (eBin (binM .Add) (eSlice (eBor 14) oNone (oSome (eC (.int 1)))) (eSlice (eBor 15) oNone (oSome (eC (.int 1))))) (eFl (aCons (eVar 6) (aCons (eVar 7) (aCons (eVar 17) (aCons (eC .none) (aCons (eFl (aCall listM (aCons (eBor 6) aNil))) (aCons (eUn revM (eBor 6)) (aCons (eTup (aCons (eVar 2) aNil)) (aCons (eTup (aCons (eC (.bool true)) aNil)) (aCons (eTup (aCons (eC (.int 0)) (aCons (eC (.int 0)) aNil))) aNil)))))))))))) (sSeq (sSet 19 (slV (eCall m__law_set (aCons (eVar 18) (aCons (eVar 2) aNil)))))
  (sSeq (sIf (tOrM (tBool (eBin (cmpM .NotEq) (eCall m_are_presses_for (aCons (eVar 4) (aCons (eVar 13) (aCons (eVar 18) aNil)))) (eAnd (eVar 19) (eBin (cmpM .In) (eBor 18) (eBor 14))))) (tBool (eBin (cmpM .NotEq) (eCall m_keeps_lights (aCons (eVar 4) (aCons (eVar 13) (aCons (eVar 18) aNil)))) (eAnd (eVar 19) (eBin (cmpM .In) (eBor 18) (eBor 15)))))) (sRet (eC (.bool false))) sSkip)
  (sIf (tBool (eBin (cmpM .NotEq) (eCall m_is_odd_keeper (aCons (eVar 4) (aCons (eVar 18) aNil))) (eAnd (eVar 19) (eBin (cmpM .Eq) (eCall m__law_turned (aCons (eVar 2) (aCons (eVar 3) (aCons (eVar 18) aNil)))) (eTup (eRange1 (eBor 2))))))) (sRet (eC (.bool false))) sSkip))))
  (sSeq (sSet 20 (slV (eFl (eComp [11] (.nm 11) (tBool (eBin (cmpM .Eq) (eCall m__law_turned (aCons (eVar 2) (aCons (eVar 3) (aCons (eVar 11) aNil)))) (eTup (eRange1 (eBor 2))))) (eVar 11) (iSeq (eBor 5))))))
  (sSeq (sIf (tOrM (tBool (eBin (cmpM .NotIn) (eCall m_odd_keeper (aCons (eVar 4) aNil)) (eBor 20))) (tOrM (tBool (eBin (cmpM .NotEq) (eCall m_odd_keeper_count (aCons (eVar 4) aNil)) (eCall lenM (aCons (eBor 20) aNil)))) (tBool (eBin (cmpM .NotEq) (eCall lenM (aCons (eBor 20) aNil)) (eCall lenM (aCons (eBor 12) aNil)))))) (sRet (eC (.bool false))) sSkip)
  (sSeq (sUnp (.tup [21, 22]) (eCall m_press_rows (aCons (eVar 4) aNil)))
  (sSeq (sSet 23 (slV (eFl (eComp [24] (.nm 24) tYesM (eBin ixM (eBin ixM (eBor 24) (eC (.int 0))) (eC (.int 0))) (iSeq (eBor 21))))))
  (sSeq (sIf (tOrM (tBool (eBin (cmpM .NotEq) (eBor 23) (eFl (aOf sortSetM (eBor 23))))) (tOrM (tBool (eBin (cmpM .In) (eC (.bool false)) (eFl (eComp [24, 25] (.tup [24, 25]) tYesM (eBin (cmpM .Eq) (eCall m__law_turned (aCons (eVar 2) (aCons (eVar 3) (aCons (eVar 25) aNil)))) (eBor 24)) (iSeq (eBor 21)))))) (tBool (eBin (cmpM .NotEq) (eBin (binM .LShift) (eC (.int 1)) (eCall lenM (aCons (eBor 21) aNil))) (eUn lenSetM (eBor 10)))))) (sRet (eC (.bool false))) sSkip)
  (sSeq (sSet 26 (slV (eFl (aCons (eTup aNil) aNil))))
  (sSeq (sFor (.nm 11) (iSeq (eVar 22)) (sSet 26 (slV (eBin (binM .Add) (eBor 26) (eFl (eComp [24] (.nm 24) tYesM (eCall tupleM (aCons (eFl (eComp [9] (.nm 9) (tBool (eBin (cmpM .NotEq) (eBin (cmpM .In) (eBor 9) (eBor 11)) (eBin (cmpM .In) (eBor 9) (eBor 24)))) (eVar 9) (eRange1 (eBor 2)))) aNil)) (iSeq (eBor 26))))))))
  (sSeq (sIf (tBool (eBin (cmpM .NotEq) (eFl (aCall sortedM (aCons (eBor 26) aNil))) (eFl (aCall sortedM (aCons (eBor 12) aNil))))) (sRet (eC (.bool false))) sSkip)
  (sSeq (sFor (.nm 18) (iSeq (eFl (aCons (eC .none) (aCons (eTup (aCons (eVar 2) aNil)) (aCons (eTup (aCons (eC (.int 0)) (aCons (eC (.int 0)) aNil))) (aCons (eFl (aCons (eC (.int 0)) aNil)) (aCons (eTup (aCons (eBin (binM .Sub) (eC (.int 0)) (eC (.int 1))) aNil)) (aCons (eTup (aCons (eC (.bool true)) aNil)) aNil)))))))) (sIf (tBool (eBin (cmpM .NotEq) (eFl (eComp [27] (.nm 27) tYesM (eCall m__law_refused (aCons (eVar 27) (aCons (eVar 4) (aCons (eVar 18) aNil)))) (eRange1 (eC (.int 5))))) (eFl (aRep (eFl (aCons (eC .none) aNil)) (eC (.int 5)))))) (sRet (eC (.bool false))) sSkip))
  (sRet (eC (.bool true))))))))))))))))))))))))))))))
def T_law : Tb := ⟨[("_law_draw", ⟨3, m__law_draw⟩), ("_law_pairs", ⟨4, m__law_pairs⟩), ("_law_sets", ⟨1, m__law_sets⟩), ("presses_for", ⟨2, m_presses_for⟩), ("press_rows", ⟨1, m_press_rows⟩), ("_law_turned", ⟨3, m__law_turned⟩), ("_law_set", ⟨2, m__law_set⟩), ("turned_lights", ⟨2, m_turned_lights⟩), ("odd_sum", ⟨2, m_odd_sum⟩), ("press_sum", ⟨3, m_press_sum⟩), ("least_presses", ⟨2, m_least_presses⟩), ("lights_reached", ⟨1, m_lights_reached⟩), ("is_odd_keeper", ⟨2, m_is_odd_keeper⟩), ("odd_keeper", ⟨1, m_odd_keeper⟩), ("odd_keeper_count", ⟨1, m_odd_keeper_count⟩), ("are_presses_for", ⟨3, m_are_presses_for⟩), ("keeps_lights", ⟨3, m_keeps_lights⟩), ("_law_refused", ⟨3, m__law_refused⟩)], [], [("Web", ⟨2, m_Web___init__⟩)], [], false, [], []⟩
theorem t_law : trSs (G := semAlg) T_law 40 c_law 60 (defBody (topS 42)) = some s_law := by kernel_rfl
def m_law : List D → M D := defM s_law 1 28
end Kw
set_option maxHeartbeats 0
namespace Kw
open PySem PySem.Spec PyProof.Rows L2

def D_is_count : He.DefD := ⟨("is_count", none), "is_count", "is_count", defArgs (topS 6), defBody (topS 6), defScope (topS 6), [], []⟩
def D_Web___init__ : He.DefD := ⟨("Web", some "__init__"), "__init__", "Web.__init__", defArgs (inClass (topS 7) 0), defBody (inClass (topS 7) 0), defScope (inClass (topS 7) 0), [], []⟩
def D_Web_ball : He.DefD := ⟨("Web", some "ball"), "ball", "Web.ball", defArgs (inClass (topS 7) 3), defBody (inClass (topS 7) 3), defScope (inClass (topS 7) 3), [], []⟩
def D_is_state_set : He.DefD := ⟨("is_state_set", none), "is_state_set", "is_state_set", defArgs (topS 8), defBody (topS 8), defScope (topS 8), [], []⟩
def D_check_set : He.DefD := ⟨("check_set", none), "check_set", "check_set", defArgs (topS 9), defBody (topS 9), defScope (topS 9), [], []⟩
def D_as_set : He.DefD := ⟨("as_set", none), "as_set", "as_set", defArgs (topS 10), defBody (topS 10), defScope (topS 10), [], []⟩
def D_common_set : He.DefD := ⟨("common_set", none), "common_set", "common_set", defArgs (topS 11), defBody (topS 11), defScope (topS 11), [], []⟩
def D_all_sets : He.DefD := ⟨("all_sets", none), "all_sets", "all_sets", defArgs (topS 12), defBody (topS 12), defScope (topS 12), [], []⟩
def D_kept_times : He.DefD := ⟨("kept_times", none), "kept_times", "kept_times", defArgs (topS 14), defBody (topS 14), defScope (topS 14), [], []⟩
def D_turned_lights : He.DefD := ⟨("turned_lights", none), "turned_lights", "turned_lights", defArgs (topS 16), defBody (topS 16), defScope (topS 16), [], []⟩
def D_odd_sum : He.DefD := ⟨("odd_sum", none), "odd_sum", "odd_sum", defArgs (topS 17), defBody (topS 17), defScope (topS 17), [], []⟩
def D_press_rows : He.DefD := ⟨("press_rows", none), "press_rows", "press_rows", defArgs (topS 18), defBody (topS 18), defScope (topS 18), [], []⟩
def D_presses_for : He.DefD := ⟨("presses_for", none), "presses_for", "presses_for", defArgs (topS 19), defBody (topS 19), defScope (topS 19), [], []⟩
def D_are_presses_for : He.DefD := ⟨("are_presses_for", none), "are_presses_for", "are_presses_for", defArgs (topS 20), defBody (topS 20), defScope (topS 20), [], []⟩
def D_keeps_lights : He.DefD := ⟨("keeps_lights", none), "keeps_lights", "keeps_lights", defArgs (topS 21), defBody (topS 21), defScope (topS 21), [], []⟩
def D_odd_keeper : He.DefD := ⟨("odd_keeper", none), "odd_keeper", "odd_keeper", defArgs (topS 22), defBody (topS 22), defScope (topS 22), [], []⟩
def D_is_odd_keeper : He.DefD := ⟨("is_odd_keeper", none), "is_odd_keeper", "is_odd_keeper", defArgs (topS 23), defBody (topS 23), defScope (topS 23), [], []⟩
def D_odd_keeper_count : He.DefD := ⟨("odd_keeper_count", none), "odd_keeper_count", "odd_keeper_count", defArgs (topS 24), defBody (topS 24), defScope (topS 24), [], []⟩
def D_least_presses : He.DefD := ⟨("least_presses", none), "least_presses", "least_presses", defArgs (topS 25), defBody (topS 25), defScope (topS 25), [], []⟩
def D_lights_reached : He.DefD := ⟨("lights_reached", none), "lights_reached", "lights_reached", defArgs (topS 26), defBody (topS 26), defScope (topS 26), [], []⟩
def D_press_sum : He.DefD := ⟨("press_sum", none), "press_sum", "press_sum", defArgs (topS 27), defBody (topS 27), defScope (topS 27), [], []⟩
def D__law_draw : He.DefD := ⟨("_law_draw", none), "_law_draw", "_law_draw", defArgs (topS 29), defBody (topS 29), defScope (topS 29), [], []⟩
def D__law_pairs : He.DefD := ⟨("_law_pairs", none), "_law_pairs", "_law_pairs", defArgs (topS 30), defBody (topS 30), defScope (topS 30), [], []⟩
def D__law_near : He.DefD := ⟨("_law_near", none), "_law_near", "_law_near", defArgs (topS 31), defBody (topS 31), defScope (topS 31), [], []⟩
def D__law_ball : He.DefD := ⟨("_law_ball", none), "_law_ball", "_law_ball", defArgs (topS 32), defBody (topS 32), defScope (topS 32), [], []⟩
def D__law_sets : He.DefD := ⟨("_law_sets", none), "_law_sets", "_law_sets", defArgs (topS 33), defBody (topS 33), defScope (topS 33), [], []⟩
def D__law_counts : He.DefD := ⟨("_law_counts", none), "_law_counts", "_law_counts", defArgs (topS 37), defBody (topS 37), defScope (topS 37), [], []⟩
def D__law_set : He.DefD := ⟨("_law_set", none), "_law_set", "_law_set", defArgs (topS 38), defBody (topS 38), defScope (topS 38), [], []⟩
def D__law_times : He.DefD := ⟨("_law_times", none), "_law_times", "_law_times", defArgs (topS 39), defBody (topS 39), defScope (topS 39), [], []⟩
def D__law_turned : He.DefD := ⟨("_law_turned", none), "_law_turned", "_law_turned", defArgs (topS 40), defBody (topS 40), defScope (topS 40), [], []⟩
def D__law_refused : He.DefD := ⟨("_law_refused", none), "_law_refused", "_law_refused", defArgs (topS 41), defBody (topS 41), defScope (topS 41), [], []⟩
def D_law : He.DefD := ⟨("law", none), "law", "law", defArgs (topS 42), defBody (topS 42), defScope (topS 42), [], []⟩
def fnL : List He.DefD := [D_is_count, D_Web___init__, D_Web_ball, D_is_state_set, D_check_set, D_as_set, D_common_set, D_all_sets, D_kept_times, D_turned_lights, D_odd_sum, D_press_rows, D_presses_for, D_are_presses_for, D_keeps_lights, D_odd_keeper, D_is_odd_keeper, D_odd_keeper_count, D_least_presses, D_lights_reached, D_press_sum, D__law_draw, D__law_pairs, D__law_near, D__law_ball, D__law_sets, D__law_counts, D__law_set, D__law_times, D__law_turned, D__law_refused, D_law]
def tfL : LTab := [(("all_sets", none), "all_sets")]
def E_KeepwebsError : He.DefD := ⟨("KeepwebsError", some "__init__"), "__init__", "KeepwebsError.__init__", defArgs (inClass (topS 2) 0), defBody (inClass (topS 2) 0), defScope (inClass (topS 2) 0), [], []⟩
def E_InvalidSet : He.DefD := ⟨("InvalidSet", some "__init__"), "__init__", "InvalidSet.__init__", defArgs (inClass (topS 4) 0), defBody (inClass (topS 4) 0), defScope (inClass (topS 4) 0), [], []⟩
def erL : ErL := [("InvalidSet", E_InvalidSet)]
def erN : List Str := ["InvalidSet"]
def eqL : List Str := []
def clL : List Str := ["Web"]
def faL : List He.Fa := btNames.map .free ++ [.glo "is_count", .glo "Web", .mkr "Web", .cls "Web", .meth "Web" "ball", .glo "is_state_set", .glo "check_set", .glo "as_set", .glo "common_set", .glo "all_sets", .glo "kept_times", .glo "turned_lights", .glo "odd_sum", .glo "press_rows", .glo "presses_for", .glo "are_presses_for", .glo "keeps_lights", .glo "odd_keeper", .glo "is_odd_keeper", .glo "odd_keeper_count", .glo "least_presses", .glo "lights_reached", .glo "press_sum", .glo "_law_draw", .glo "_law_pairs", .glo "_law_near", .glo "_law_ball", .glo "_law_sets", .glo "_law_counts", .glo "_law_set", .glo "_law_times", .glo "_law_turned", .glo "_law_refused", .glo "law", .noat "Web" "many", .noat "Web" "pairs", .noat "Web" "rows", .noat "Web" "place"]
theorem btL_in : ∀ x ∈ btNames, (He.Fa.free x) ∈ faL := fun x hx => List.mem_append_left _ (List.mem_map.mpr ⟨x, hx, rfl⟩)
section
variable {P : Program} {w : World} {K : PySem.W.Frag} {mg : Str → Option Value} {base : Heap}
abbrev RR (K : PySem.W.Frag) : Rc := rcOf clL tfL K
abbrev CC (P : Program) (K : PySem.W.Frag) (mg : Str → Option Value) (base : Heap) : Prop := Cx1 P faL fnL tfL clL erN eqL K mg base
theorem fld_many (C : CC P K mg base) : FldOk (RR K) "many" := fld_of (allC ⟨He.cls_ok (C.c.fact 25 rfl), He.noat_ok (C.c.fact 56 rfl)⟩ (allN))
theorem fld_pairs (C : CC P K mg base) : FldOk (RR K) "pairs" := fld_of (allC ⟨He.cls_ok (C.c.fact 25 rfl), He.noat_ok (C.c.fact 57 rfl)⟩ (allN))
theorem fld_rows (C : CC P K mg base) : FldOk (RR K) "rows" := fld_of (allC ⟨He.cls_ok (C.c.fact 25 rfl), He.noat_ok (C.c.fact 58 rfl)⟩ (allN))
theorem fld_place (C : CC P K mg base) : FldOk (RR K) "place" := fld_of (allC ⟨He.cls_ok (C.c.fact 25 rfl), He.noat_ok (C.c.fact 59 rfl)⟩ (allN))
theorem ok_is_count (C : CC P K mg base) : FnT P w K mg base (RR K) 2 "is_count" ⟨1, m_is_count⟩ := by
  obtain ⟨fd, F⟩ := C.c.def_ 0 (d := D_is_count) rfl
  exact mk_fn (j := 0) (T := T_is_count) (c := c_is_count) (ps := ["value"]) C.toCx0.lw ⟨allN, allN, allN, allN, allN, allN, fun h => (h rfl).elim⟩ (fun z => nomatch z) F (C.toCx0.glo 22) ⟨rfl, rfl, rfl, by decide +kernel, rfl, by decide +kernel, by decide +kernel⟩ rfl rfl (fun _ _ _ _ _ _ us hl => match us, hl with | [_], _ => rfl) t_is_count
theorem ok_Web___init__ (C : CC P K mg base) : MkT P w K mg base (RR K) 4 "Web" ⟨2, m_Web___init__⟩ := by
  obtain ⟨fd, F⟩ := C.c.def_ 1 (d := D_Web___init__) rfl
  exact mk_mk (j := 2) (T := T_Web___init__) (c := c_Web___init__) (p0 := "self") (ps := ["many", "pairs"]) C.toCx0.lw ⟨allC ((ok_is_count C).mono (by omega)) (allN), allN, allN, allC (fld_many C) (allC (fld_pairs C) (allC (fld_rows C) (allN))), allN, allN, fun h => (h rfl).elim⟩ (fun z => nomatch z) F rfl (C.toCx0.glo 23) (He.mkr_ok (C.c.fact 24 rfl)) ⟨rfl, rfl, rfl, by decide +kernel, rfl, by decide +kernel, by decide +kernel⟩ rfl rfl (fun _ _ _ _ _ _ us hl => match us, hl with | [_, _, _], _ => rfl) t_Web___init__
theorem ok_Web_ball (C : CC P K mg base) : MtT P w K mg base (RR K) 2 "ball" "Web" ⟨2, m_Web_ball⟩ := by
  obtain ⟨fd, F⟩ := C.c.def_ 2 (d := D_Web_ball) rfl
  exact mk_mt (j := 0) (T := T_Web_ball) (c := c_Web_ball) (ps := ["self", "state"]) C.toCx0.lw ⟨allN, allN, allN, allC (fld_rows C) (allN), allN, allN, fun h => (h rfl).elim⟩ (fun z => nomatch z) F rfl (He.cls_ok (C.c.fact 25 rfl)) (He.meth_ok (C.c.fact 26 rfl)) ⟨rfl, rfl, rfl, by decide +kernel, rfl, by decide +kernel, by decide +kernel⟩ rfl rfl (fun _ _ _ _ _ _ us hl => match us, hl with | [_, _], _ => rfl) t_Web_ball
theorem ok_is_state_set (C : CC P K mg base) : FnT P w K mg base (RR K) 4 "is_state_set" ⟨2, m_is_state_set⟩ := by
  obtain ⟨fd, F⟩ := C.c.def_ 3 (d := D_is_state_set) rfl
  exact mk_fn (j := 2) (T := T_is_state_set) (c := c_is_state_set) (ps := ["value", "many"]) C.toCx0.lw ⟨allC ((ok_is_count C).mono (by omega)) (allN), allN, allN, allN, allN, allN, fun h => (h rfl).elim⟩ (fun z => nomatch z) F (C.toCx0.glo 27) ⟨rfl, rfl, rfl, by decide +kernel, rfl, by decide +kernel, by decide +kernel⟩ rfl rfl (fun _ _ _ _ _ _ us hl => match us, hl with | [_, _], _ => rfl) t_is_state_set
theorem ok_check_set (C : CC P K mg base) : FnT P w K mg base (RR K) 6 "check_set" ⟨2, m_check_set⟩ := by
  obtain ⟨fd, F⟩ := C.c.def_ 4 (d := D_check_set) rfl
  exact mk_fn (j := 4) (T := T_check_set) (c := c_check_set) (ps := ["value", "many"]) C.toCx0.lw ⟨allC ((ok_is_state_set C).mono (by omega)) (allN), allN, allN, allN, allC (C.er _ (List.mem_of_getElem? (i := 0) rfl)) (allN), allN, fun _ => C.mo (by decide)⟩ (fun z => nomatch z) F (C.toCx0.glo 28) ⟨rfl, rfl, rfl, by decide +kernel, rfl, by decide +kernel, by decide +kernel⟩ rfl rfl (fun _ _ _ _ _ _ us hl => match us, hl with | [_, _], _ => rfl) t_check_set
theorem ok_as_set (C : CC P K mg base) : FnT P w K mg base (RR K) 2 "as_set" ⟨1, m_as_set⟩ := by
  obtain ⟨fd, F⟩ := C.c.def_ 5 (d := D_as_set) rfl
  exact mk_fn (j := 0) (T := T_as_set) (c := c_as_set) (ps := ["states"]) C.toCx0.lw ⟨allN, allN, allN, allN, allN, allN, fun h => (h rfl).elim⟩ (fun z => nomatch z) F (C.toCx0.glo 29) ⟨rfl, rfl, rfl, by decide +kernel, rfl, by decide +kernel, by decide +kernel⟩ rfl rfl (fun _ _ _ _ _ _ us hl => match us, hl with | [_], _ => rfl) t_as_set
theorem ok_common_set (C : CC P K mg base) : FnT P w K mg base (RR K) 2 "common_set" ⟨2, m_common_set⟩ := by
  obtain ⟨fd, F⟩ := C.c.def_ 6 (d := D_common_set) rfl
  exact mk_fn (j := 0) (T := T_common_set) (c := c_common_set) (ps := ["first", "second"]) C.toCx0.lw ⟨allN, allN, allN, allN, allN, allN, fun h => (h rfl).elim⟩ (fun z => nomatch z) F (C.toCx0.glo 30) ⟨rfl, rfl, rfl, by decide +kernel, rfl, by decide +kernel, by decide +kernel⟩ rfl rfl (fun _ _ _ _ _ _ us hl => match us, hl with | [_, _], _ => rfl) t_common_set
theorem ok_all_sets (C : CC P K mg base) : FnT P w K mg base (RR K) 4 "all_sets" ⟨1, m_all_sets⟩ := by
  obtain ⟨fd, F⟩ := C.c.def_ 7 (d := D_all_sets) rfl
  exact mk_fn (j := 2) (T := T_all_sets) (c := c_all_sets) (ps := ["states"]) C.toCx0.lw ⟨allC ((ok_as_set C).mono (by omega)) (allN), allN, allN, allN, allN, allN, fun h => (h rfl).elim⟩ (fun _ => lm_of (p := ("all_sets", none)) F C.ex (List.mem_of_getElem? (i := 0) rfl) C.tb) F (C.toCx0.glo 31) ⟨rfl, rfl, rfl, by decide +kernel, rfl, by decide +kernel, by decide +kernel⟩ rfl rfl (fun _ _ _ _ _ _ us hl => match us, hl with | [_], _ => rfl) t_all_sets
theorem ok_kept_times (C : CC P K mg base) : FnT P w K mg base (RR K) 4 "kept_times" ⟨2, m_kept_times⟩ := by
  obtain ⟨fd, F⟩ := C.c.def_ 8 (d := D_kept_times) rfl
  exact mk_fn (j := 2) (T := T_kept_times) (c := c_kept_times) (ps := ["web", "states"]) C.toCx0.lw ⟨allN, allC ((ok_Web_ball C).mono (by omega)) (allN), allN, allC (fld_many C) (allN), allN, allN, fun h => (h rfl).elim⟩ (fun z => nomatch z) F (C.toCx0.glo 32) ⟨rfl, rfl, rfl, by decide +kernel, rfl, by decide +kernel, by decide +kernel⟩ rfl rfl (fun _ _ _ _ _ _ us hl => match us, hl with | [_, _], _ => rfl) t_kept_times
theorem ok_turned_lights (C : CC P K mg base) : FnT P w K mg base (RR K) 8 "turned_lights" ⟨2, m_turned_lights⟩ := by
  obtain ⟨fd, F⟩ := C.c.def_ 9 (d := D_turned_lights) rfl
  exact mk_fn (j := 6) (T := T_turned_lights) (c := c_turned_lights) (ps := ["web", "states"]) C.toCx0.lw ⟨allC ((ok_check_set C).mono (by omega)) (allC ((ok_kept_times C).mono (by omega)) (allN)), allN, allN, allC (fld_many C) (allN), allN, allN, fun h => (h rfl).elim⟩ (fun z => nomatch z) F (C.toCx0.glo 33) ⟨rfl, rfl, rfl, by decide +kernel, rfl, by decide +kernel, by decide +kernel⟩ rfl rfl (fun _ _ _ _ _ _ us hl => match us, hl with | [_, _], _ => rfl) t_turned_lights
theorem ok_odd_sum (C : CC P K mg base) : FnT P w K mg base (RR K) 4 "odd_sum" ⟨2, m_odd_sum⟩ := by
  obtain ⟨fd, F⟩ := C.c.def_ 10 (d := D_odd_sum) rfl
  exact mk_fn (j := 2) (T := T_odd_sum) (c := c_odd_sum) (ps := ["first", "second"]) C.toCx0.lw ⟨allC ((ok_as_set C).mono (by omega)) (allN), allN, allN, allN, allN, allN, fun h => (h rfl).elim⟩ (fun z => nomatch z) F (C.toCx0.glo 34) ⟨rfl, rfl, rfl, by decide +kernel, rfl, by decide +kernel, by decide +kernel⟩ rfl rfl (fun _ _ _ _ _ _ us hl => match us, hl with | [_, _], _ => rfl) t_odd_sum
theorem ok_press_rows (C : CC P K mg base) : FnT P w K mg base (RR K) 6 "press_rows" ⟨1, m_press_rows⟩ := by
  obtain ⟨fd, F⟩ := C.c.def_ 11 (d := D_press_rows) rfl
  exact mk_fn (j := 4) (T := T_press_rows) (c := c_press_rows) (ps := ["web"]) C.toCx0.lw ⟨allC ((ok_odd_sum C).mono (by omega)) (allN), allC ((ok_Web_ball C).mono (by omega)) (allN), allN, allC (fld_many C) (allN), allN, allN, fun h => (h rfl).elim⟩ (fun z => nomatch z) F (C.toCx0.glo 35) ⟨rfl, rfl, rfl, by decide +kernel, rfl, by decide +kernel, by decide +kernel⟩ rfl rfl (fun _ _ _ _ _ _ us hl => match us, hl with | [_], _ => rfl) t_press_rows
theorem ok_presses_for (C : CC P K mg base) : FnT P w K mg base (RR K) 8 "presses_for" ⟨2, m_presses_for⟩ := by
  obtain ⟨fd, F⟩ := C.c.def_ 12 (d := D_presses_for) rfl
  exact mk_fn (j := 6) (T := T_presses_for) (c := c_presses_for) (ps := ["web", "lights"]) C.toCx0.lw ⟨allC ((ok_check_set C).mono (by omega)) (allC ((ok_press_rows C).mono (by omega)) (allC ((ok_odd_sum C).mono (by omega)) (allC ((ok_common_set C).mono (by omega)) (allN)))), allN, allN, allC (fld_many C) (allN), allN, allN, fun h => (h rfl).elim⟩ (fun z => nomatch z) F (C.toCx0.glo 36) ⟨rfl, rfl, rfl, by decide +kernel, rfl, by decide +kernel, by decide +kernel⟩ rfl rfl (fun _ _ _ _ _ _ us hl => match us, hl with | [_, _], _ => rfl) t_presses_for
theorem ok_are_presses_for (C : CC P K mg base) : FnT P w K mg base (RR K) 10 "are_presses_for" ⟨3, m_are_presses_for⟩ := by
  obtain ⟨fd, F⟩ := C.c.def_ 13 (d := D_are_presses_for) rfl
  exact mk_fn (j := 8) (T := T_are_presses_for) (c := c_are_presses_for) (ps := ["web", "lights", "value"]) C.toCx0.lw ⟨allC ((ok_is_state_set C).mono (by omega)) (allC ((ok_turned_lights C).mono (by omega)) (allN)), allN, allN, allC (fld_many C) (allN), allN, allN, fun h => (h rfl).elim⟩ (fun z => nomatch z) F (C.toCx0.glo 37) ⟨rfl, rfl, rfl, by decide +kernel, rfl, by decide +kernel, by decide +kernel⟩ rfl rfl (fun _ _ _ _ _ _ us hl => match us, hl with | [_, _, _], _ => rfl) t_are_presses_for
theorem ok_keeps_lights (C : CC P K mg base) : FnT P w K mg base (RR K) 6 "keeps_lights" ⟨3, m_keeps_lights⟩ := by
  obtain ⟨fd, F⟩ := C.c.def_ 14 (d := D_keeps_lights) rfl
  exact mk_fn (j := 4) (T := T_keeps_lights) (c := c_keeps_lights) (ps := ["web", "lights", "value"]) C.toCx0.lw ⟨allC ((ok_is_state_set C).mono (by omega)) (allC ((ok_kept_times C).mono (by omega)) (allC ((ok_common_set C).mono (by omega)) (allN))), allN, allN, allC (fld_many C) (allN), allN, allN, fun h => (h rfl).elim⟩ (fun z => nomatch z) F (C.toCx0.glo 38) ⟨rfl, rfl, rfl, by decide +kernel, rfl, by decide +kernel, by decide +kernel⟩ rfl rfl (fun _ _ _ _ _ _ us hl => match us, hl with | [_, _, _], _ => rfl) t_keeps_lights
theorem ok_odd_keeper (C : CC P K mg base) : FnT P w K mg base (RR K) 10 "odd_keeper" ⟨1, m_odd_keeper⟩ := by
  obtain ⟨fd, F⟩ := C.c.def_ 15 (d := D_odd_keeper) rfl
  exact mk_fn (j := 8) (T := T_odd_keeper) (c := c_odd_keeper) (ps := ["web"]) C.toCx0.lw ⟨allC ((ok_presses_for C).mono (by omega)) (allN), allN, allN, allC (fld_many C) (allN), allN, allN, fun h => (h rfl).elim⟩ (fun z => nomatch z) F (C.toCx0.glo 39) ⟨rfl, rfl, rfl, by decide +kernel, rfl, by decide +kernel, by decide +kernel⟩ rfl rfl (fun _ _ _ _ _ _ us hl => match us, hl with | [_], _ => rfl) t_odd_keeper
theorem ok_is_odd_keeper (C : CC P K mg base) : FnT P w K mg base (RR K) 6 "is_odd_keeper" ⟨2, m_is_odd_keeper⟩ := by
  obtain ⟨fd, F⟩ := C.c.def_ 16 (d := D_is_odd_keeper) rfl
  exact mk_fn (j := 4) (T := T_is_odd_keeper) (c := c_is_odd_keeper) (ps := ["web", "value"]) C.toCx0.lw ⟨allC ((ok_is_state_set C).mono (by omega)) (allC ((ok_kept_times C).mono (by omega)) (allN)), allN, allN, allC (fld_many C) (allN), allN, allN, fun h => (h rfl).elim⟩ (fun z => nomatch z) F (C.toCx0.glo 40) ⟨rfl, rfl, rfl, by decide +kernel, rfl, by decide +kernel, by decide +kernel⟩ rfl rfl (fun _ _ _ _ _ _ us hl => match us, hl with | [_, _], _ => rfl) t_is_odd_keeper
theorem ok_odd_keeper_count (C : CC P K mg base) : FnT P w K mg base (RR K) 8 "odd_keeper_count" ⟨1, m_odd_keeper_count⟩ := by
  obtain ⟨fd, F⟩ := C.c.def_ 17 (d := D_odd_keeper_count) rfl
  exact mk_fn (j := 6) (T := T_odd_keeper_count) (c := c_odd_keeper_count) (ps := ["web"]) C.toCx0.lw ⟨allC ((ok_press_rows C).mono (by omega)) (allN), allN, allN, allN, allN, allN, fun h => (h rfl).elim⟩ (fun z => nomatch z) F (C.toCx0.glo 41) ⟨rfl, rfl, rfl, by decide +kernel, rfl, by decide +kernel, by decide +kernel⟩ rfl rfl (fun _ _ _ _ _ _ us hl => match us, hl with | [_], _ => rfl) t_odd_keeper_count
theorem ok_least_presses (C : CC P K mg base) : FnT P w K mg base (RR K) 10 "least_presses" ⟨2, m_least_presses⟩ := by
  obtain ⟨fd, F⟩ := C.c.def_ 18 (d := D_least_presses) rfl
  exact mk_fn (j := 8) (T := T_least_presses) (c := c_least_presses) (ps := ["web", "lights"]) C.toCx0.lw ⟨allC ((ok_presses_for C).mono (by omega)) (allC ((ok_all_sets C).mono (by omega)) (allC ((ok_press_rows C).mono (by omega)) (allC ((ok_odd_sum C).mono (by omega)) (allN)))), allN, allN, allN, allN, allN, fun h => (h rfl).elim⟩ (fun z => nomatch z) F (C.toCx0.glo 42) ⟨rfl, rfl, rfl, by decide +kernel, rfl, by decide +kernel, by decide +kernel⟩ rfl rfl (fun _ _ _ _ _ _ us hl => match us, hl with | [_, _], _ => rfl) t_least_presses
theorem ok_lights_reached (C : CC P K mg base) : FnT P w K mg base (RR K) 8 "lights_reached" ⟨1, m_lights_reached⟩ := by
  obtain ⟨fd, F⟩ := C.c.def_ 19 (d := D_lights_reached) rfl
  exact mk_fn (j := 6) (T := T_lights_reached) (c := c_lights_reached) (ps := ["web"]) C.toCx0.lw ⟨allC ((ok_press_rows C).mono (by omega)) (allN), allN, allN, allN, allN, allN, fun h => (h rfl).elim⟩ (fun z => nomatch z) F (C.toCx0.glo 43) ⟨rfl, rfl, rfl, by decide +kernel, rfl, by decide +kernel, by decide +kernel⟩ rfl rfl (fun _ _ _ _ _ _ us hl => match us, hl with | [_], _ => rfl) t_lights_reached
theorem ok_press_sum (C : CC P K mg base) : FnT P w K mg base (RR K) 6 "press_sum" ⟨3, m_press_sum⟩ := by
  obtain ⟨fd, F⟩ := C.c.def_ 20 (d := D_press_sum) rfl
  exact mk_fn (j := 4) (T := T_press_sum) (c := c_press_sum) (ps := ["web", "first", "second"]) C.toCx0.lw ⟨allC ((ok_odd_sum C).mono (by omega)) (allC ((ok_is_state_set C).mono (by omega)) (allN)), allN, allN, allC (fld_many C) (allN), allC (C.er _ (List.mem_of_getElem? (i := 0) rfl)) (allN), allN, fun _ => C.mo (by decide)⟩ (fun z => nomatch z) F (C.toCx0.glo 44) ⟨rfl, rfl, rfl, by decide +kernel, rfl, by decide +kernel, by decide +kernel⟩ rfl rfl (fun _ _ _ _ _ _ us hl => match us, hl with | [_, _, _], _ => rfl) t_press_sum
theorem ok__law_draw (C : CC P K mg base) : FnT P w K mg base (RR K) 2 "_law_draw" ⟨3, m__law_draw⟩ := by
  obtain ⟨fd, F⟩ := C.c.def_ 21 (d := D__law_draw) rfl
  exact mk_fn (j := 0) (T := T__law_draw) (c := c__law_draw) (ps := ["state", "script", "size"]) C.toCx0.lw ⟨allN, allN, allN, allN, allN, allN, fun h => (h rfl).elim⟩ (fun z => nomatch z) F (C.toCx0.glo 45) ⟨rfl, rfl, rfl, by decide +kernel, rfl, by decide +kernel, by decide +kernel⟩ rfl rfl (fun _ _ _ _ _ _ us hl => match us, hl with | [_, _, _], _ => rfl) t__law_draw
theorem ok__law_pairs (C : CC P K mg base) : FnT P w K mg base (RR K) 4 "_law_pairs" ⟨4, m__law_pairs⟩ := by
  obtain ⟨fd, F⟩ := C.c.def_ 22 (d := D__law_pairs) rfl
  exact mk_fn (j := 2) (T := T__law_pairs) (c := c__law_pairs) (ps := ["state", "script", "many", "dense"]) C.toCx0.lw ⟨allC ((ok__law_draw C).mono (by omega)) (allN), allN, allN, allN, allN, allN, fun h => (h rfl).elim⟩ (fun z => nomatch z) F (C.toCx0.glo 46) ⟨rfl, rfl, rfl, by decide +kernel, rfl, by decide +kernel, by decide +kernel⟩ rfl rfl (fun _ _ _ _ _ _ us hl => match us, hl with | [_, _, _, _], _ => rfl) t__law_pairs
theorem ok__law_near (C : CC P K mg base) : FnT P w K mg base (RR K) 2 "_law_near" ⟨2, m__law_near⟩ := by
  obtain ⟨fd, F⟩ := C.c.def_ 23 (d := D__law_near) rfl
  exact mk_fn (j := 0) (T := T__law_near) (c := c__law_near) (ps := ["pairs", "state"]) C.toCx0.lw ⟨allN, allN, allN, allN, allN, allN, fun h => (h rfl).elim⟩ (fun z => nomatch z) F (C.toCx0.glo 47) ⟨rfl, rfl, rfl, by decide +kernel, rfl, by decide +kernel, by decide +kernel⟩ rfl rfl (fun _ _ _ _ _ _ us hl => match us, hl with | [_, _], _ => rfl) t__law_near
theorem ok__law_ball (C : CC P K mg base) : FnT P w K mg base (RR K) 4 "_law_ball" ⟨2, m__law_ball⟩ := by
  obtain ⟨fd, F⟩ := C.c.def_ 24 (d := D__law_ball) rfl
  exact mk_fn (j := 2) (T := T__law_ball) (c := c__law_ball) (ps := ["pairs", "state"]) C.toCx0.lw ⟨allC ((ok__law_near C).mono (by omega)) (allN), allN, allN, allN, allN, allN, fun h => (h rfl).elim⟩ (fun z => nomatch z) F (C.toCx0.glo 48) ⟨rfl, rfl, rfl, by decide +kernel, rfl, by decide +kernel, by decide +kernel⟩ rfl rfl (fun _ _ _ _ _ _ us hl => match us, hl with | [_, _], _ => rfl) t__law_ball
theorem ok__law_sets (C : CC P K mg base) : FnT P w K mg base (RR K) 2 "_law_sets" ⟨1, m__law_sets⟩ := by
  obtain ⟨fd, F⟩ := C.c.def_ 25 (d := D__law_sets) rfl
  exact mk_fn (j := 0) (T := T__law_sets) (c := c__law_sets) (ps := ["many"]) C.toCx0.lw ⟨allN, allN, allN, allN, allN, allN, fun h => (h rfl).elim⟩ (fun z => nomatch z) F (C.toCx0.glo 49) ⟨rfl, rfl, rfl, by decide +kernel, rfl, by decide +kernel, by decide +kernel⟩ rfl rfl (fun _ _ _ _ _ _ us hl => match us, hl with | [_], _ => rfl) t__law_sets
theorem ok__law_counts (C : CC P K mg base) : FnT P w K mg base (RR K) 2 "_law_counts" ⟨2, m__law_counts⟩ := by
  obtain ⟨fd, F⟩ := C.c.def_ 26 (d := D__law_counts) rfl
  exact mk_fn (j := 0) (T := T__law_counts) (c := c__law_counts) (ps := ["value", "many"]) C.toCx0.lw ⟨allN, allN, allN, allN, allN, allN, fun h => (h rfl).elim⟩ (fun z => nomatch z) F (C.toCx0.glo 50) ⟨rfl, rfl, rfl, by decide +kernel, rfl, by decide +kernel, by decide +kernel⟩ rfl rfl (fun _ _ _ _ _ _ us hl => match us, hl with | [_, _], _ => rfl) t__law_counts
theorem ok__law_set (C : CC P K mg base) : FnT P w K mg base (RR K) 4 "_law_set" ⟨2, m__law_set⟩ := by
  obtain ⟨fd, F⟩ := C.c.def_ 27 (d := D__law_set) rfl
  exact mk_fn (j := 2) (T := T__law_set) (c := c__law_set) (ps := ["value", "many"]) C.toCx0.lw ⟨allC ((ok__law_counts C).mono (by omega)) (allN), allN, allN, allN, allN, allN, fun h => (h rfl).elim⟩ (fun z => nomatch z) F (C.toCx0.glo 51) ⟨rfl, rfl, rfl, by decide +kernel, rfl, by decide +kernel, by decide +kernel⟩ rfl rfl (fun _ _ _ _ _ _ us hl => match us, hl with | [_, _], _ => rfl) t__law_set
theorem ok__law_times (C : CC P K mg base) : FnT P w K mg base (RR K) 6 "_law_times" ⟨3, m__law_times⟩ := by
  obtain ⟨fd, F⟩ := C.c.def_ 28 (d := D__law_times) rfl
  exact mk_fn (j := 4) (T := T__law_times) (c := c__law_times) (ps := ["many", "pairs", "some"]) C.toCx0.lw ⟨allC ((ok__law_ball C).mono (by omega)) (allN), allN, allN, allN, allN, allN, fun h => (h rfl).elim⟩ (fun z => nomatch z) F (C.toCx0.glo 52) ⟨rfl, rfl, rfl, by decide +kernel, rfl, by decide +kernel, by decide +kernel⟩ rfl rfl (fun _ _ _ _ _ _ us hl => match us, hl with | [_, _, _], _ => rfl) t__law_times
theorem ok__law_turned (C : CC P K mg base) : FnT P w K mg base (RR K) 8 "_law_turned" ⟨3, m__law_turned⟩ := by
  obtain ⟨fd, F⟩ := C.c.def_ 29 (d := D__law_turned) rfl
  exact mk_fn (j := 6) (T := T__law_turned) (c := c__law_turned) (ps := ["many", "pairs", "some"]) C.toCx0.lw ⟨allC ((ok__law_times C).mono (by omega)) (allN), allN, allN, allN, allN, allN, fun h => (h rfl).elim⟩ (fun z => nomatch z) F (C.toCx0.glo 53) ⟨rfl, rfl, rfl, by decide +kernel, rfl, by decide +kernel, by decide +kernel⟩ rfl rfl (fun _ _ _ _ _ _ us hl => match us, hl with | [_, _, _], _ => rfl) t__law_turned
theorem ok__law_refused (C : CC P K mg base) : FnT P w K mg base (RR K) 12 "_law_refused" ⟨3, m__law_refused⟩ := by
  obtain ⟨fd, F⟩ := C.c.def_ 30 (d := D__law_refused) rfl
  exact mk_fn (j := 10) (T := T__law_refused) (c := c__law_refused) (ps := ["kind", "web", "value"]) C.toCx0.lw ⟨allC ((ok_turned_lights C).mono (by omega)) (allC ((ok_presses_for C).mono (by omega)) (allC ((ok_least_presses C).mono (by omega)) (allC ((ok_press_sum C).mono (by omega)) (allN)))), allN, allN, allC (fld_place C) (allN), allC (C.er _ (List.mem_of_getElem? (i := 0) rfl)) (allN), allN, fun _ => C.mo (by decide)⟩ (fun z => nomatch z) F (C.toCx0.glo 54) ⟨rfl, rfl, rfl, by decide +kernel, rfl, by decide +kernel, by decide +kernel⟩ rfl rfl (fun _ _ _ _ _ _ us hl => match us, hl with | [_, _, _], _ => rfl) t__law_refused
theorem ok_law (C : CC P K mg base) {fd : FuncData} (F : FunD K "law" "law" (defArgs (topS 42)) (defBody (topS 42)) (defScope (topS 42)) [] [] (He.ga K "law") fd) : FnOk P w K mg base (L2.CX P w) 14 (He.ga K "law") fd ["script"] (spM (RR K) 1 m_law) :=
  mk_fok (j := 12) (T := T_law) (c := c_law) (ps := ["script"]) C.toCx0.lw ⟨allC ((ok__law_draw C).mono (by omega)) (allC ((ok__law_pairs C).mono (by omega)) (allC ((ok__law_sets C).mono (by omega)) (allC ((ok_presses_for C).mono (by omega)) (allC ((ok_press_rows C).mono (by omega)) (allC ((ok__law_turned C).mono (by omega)) (allC ((ok__law_set C).mono (by omega)) (allC ((ok_turned_lights C).mono (by omega)) (allC ((ok_odd_sum C).mono (by omega)) (allC ((ok_press_sum C).mono (by omega)) (allC ((ok_least_presses C).mono (by omega)) (allC ((ok_lights_reached C).mono (by omega)) (allC ((ok_is_odd_keeper C).mono (by omega)) (allC ((ok_odd_keeper C).mono (by omega)) (allC ((ok_odd_keeper_count C).mono (by omega)) (allC ((ok_are_presses_for C).mono (by omega)) (allC ((ok_keeps_lights C).mono (by omega)) (allC ((ok__law_refused C).mono (by omega)) (allN)))))))))))))))))), allN, allC ((ok_Web___init__ C).mono (by omega)) (allN), allN, allN, allN, fun h => (h rfl).elim⟩ (fun z => nomatch z) F ⟨rfl, rfl, rfl, by decide +kernel, rfl, by decide +kernel, by decide +kernel⟩ rfl rfl t_law
theorem law_facts (w : World) (K : PySem.W.Frag) (mg : Str → Option Value) (f : Addr) (h : Heap) (X : K.In h) (G : h.Ns mainGlobals mg) (hfa : mg ("law" : Str) = some (.ref f)) (c : He.SaysD faL fnL K) (hx : exOf tfL K = true) (he : ∀ x ∈ erN, ErOk P K mg (RR K) x) (hm : erN ≠ [] → Kx.ModO P mg) (hq : ∀ c ∈ eqL, EqOk K mg (RR K) c) :
    ∃ fd : FuncData, (∀ (s : Shared) (v : Value), BindsTo s fd ⟨[v], []⟩ [("script", v)]) ∧ ∀ base : Heap, K.In base → base.Ns mainGlobals mg → (∀ p ∈ csOf K tfL, LamX.TabB base mg p.1 p.2) →
      FnOk P w K mg base (L2.CX P w) 14 f fd ["script"] (spM (rcOf clL tfL K) 1 m_law) := by
  obtain ⟨fd, F⟩ := c.def_ 31 (d := D_law) rfl
  have e := hfa.symm.trans (He.glo_ok X G (c.fact 55 (f := .glo "law") rfl))
  cases e
  have b := FunD.bindsA (ps := ["script"]) F (fun _ _ _ _ _ _ us hl => match us, hl with | [_], _ => rfl)
  exact ⟨fd, fun s v => b s [v] rfl, fun base _ _ hT => ok_law ⟨⟨⟨h, X, G⟩, c, hx, hT, btL_in⟩, he, hm, hq⟩ F⟩
end
end Kw
section
set_option maxHeartbeats 0
namespace Kw
open PySem PySem.Spec PyProof.Rows L2

def lo0 : List Str := ["_wall", "__name__", "KeepwebsError", "InvalidWeb", "InvalidSet", "is_count", "Web", "is_state_set", "check_set", "as_set", "common_set", "all_sets", "kept_times", "turned_lights", "odd_sum", "press_rows", "presses_for", "are_presses_for", "keeps_lights", "odd_keeper", "is_odd_keeper", "odd_keeper_count", "least_presses", "lights_reached", "press_sum", "_law_draw", "_law_pairs", "_law_near", "_law_ball", "_law_sets"]
def lo1 : List Str := ["_law_kept", "_law_keeps", "_law_fewest", "_law_counts", "_law_set", "_law_times", "_law_turned", "_law_refused"]
def looseL : List Str := lo0 ++ lo1
abbrev RW : PySem.W.OpenRow := PySem.W.OpenLaw.row PySem.Challenge.rw_keepwebs_k34_whole_odd_keeping
abbrev hk : PySem.W.Hook := hookZ 5 faL fnL (tfL.map (·.1)) (exQ tfL eqL) PySem.Challenge.rw_keepwebs_k34_whole_odd_keeping.prog.main.file E_KeepwebsError erL
def ob (s : PySem.W.SharedT) : AlZ := obsZ 5 faL fnL (tfL.map (·.1)) (exQ tfL eqL) PySem.Challenge.rw_keepwebs_k34_whole_odd_keeping.prog.main.file erL (HandSHeadRun.getT s)
theorem ob_eq (s : PySem.W.SharedT) : ob s = hk.obs s.abs := obsZ_eq (HandSHeadRun.getT_eq s)
theorem run (w : World) : HandSHeadRun.RunEq RW (PySem.W.view RW.prog [42]) hk ob 6000 looseL w := by
  intro os
  kernel_rfl
end Kw
open PySem PySem.W PySem.Calls PyProof.Rows
theorem Kw.holds_of (hlaw : ∀ ns : List Int, ns.length ≤ 63 → (∀ z ∈ ns, Builtin.Int.intBits z ≤ 1048576) → ∃ t, Kw.m_law [Kw.scrD ns] none = .ok (.bool true) t) : PySem.Challenge.rw_keepwebs_k34_whole_odd_keeping.Holds := by
  w_on; o_law
  refine HandSHeadRun.head_any (r := OpenLaw.row PySem.Challenge.rw_keepwebs_k34_whole_odd_keeping) (q := view (OpenLaw.row PySem.Challenge.rw_keepwebs_k34_whole_odd_keeping).prog [42]) (H := Kw.hk) (ob := Kw.ob) (M := 6000) (loose := Kw.looseL) (d := HandSHeadRun.topDef (OpenLaw.row PySem.Challenge.rw_keepwebs_k34_whole_odd_keeping).prog 42) (kwd := []) Kw.ob_eq
    (by kernel_rfl) (fun s => by kernel_rfl) Kw.run (by kernel_rfl) (by kernel_rfl) (by kernel_rfl) (by rfl) (by first | assumption | decide +kernel) (by decide +kernel) ⟨rfl, rfl, rfl, rfl, rfl, by decide +kernel⟩ ?hw ?hc
  case hw => w_witness2
  case hc =>
    refine Kw.law_endZ (l := PySem.Challenge.rw_keepwebs_k34_whole_odd_keeping) (n := 63) (k := 14) (m := Kw.m_law) (cls := Kw.clL) (tf := Kw.tfL) (eqs := Kw.eqL) (fa := Kw.faL) (fn := Kw.fnL) rfl (by decide) (by kernel_rfl) ⟨rfl, by decide, by decide⟩ (by decide) (bd := Kw.E_KeepwebsError) (ers := Kw.erL) ⟨rfl, rfl, rfl, _, _, _, _, _, _, _, _, _, _, _, _, _, _, _, _, rfl, rfl, rfl⟩ (Kw.allC ⟨rfl, rfl, _, _, _, _, _, _, _, _, _, _, _, _, rfl, rfl, rfl⟩ (Kw.allN)) hlaw ?F
    intro w K mg f h X G hmg0 c hx hq he
    have hmg : mg ("law" : PySem.Str) = some (.ref f) := by
      have e : (HandSHeadRun.topDef (OpenLaw.row PySem.Challenge.rw_keepwebs_k34_whole_odd_keeping).prog 42).name = ("law" : PySem.Str) := by kernel_rfl
      rw [← e]
      exact hmg0
    exact Kw.law_facts w K mg f h X G hmg c hx he (fun _ => ⟨He.free_ok X G (c.facts (Kw.btL_in _ (by decide))), by decide +kernel⟩) hq
end
namespace Kw
open PySem PySem.Spec PyProof.Rows

/-! ### running the readings -/
section
variable {α β : Type}
@[simp] theorem bnd_ret (a : α) (f : α → M β) : bnd (ret a) f = f a := rfl
@[simp] theorem nox_ret (a : α) : nox (ret a) = ret a := rfl
@[simp] theorem ofO_some (a : α) : ofO (some a) = ret a := rfl
theorem ret_ap (a : α) (t : Tp) : ret a t = .ok a t := rfl
theorem bnd_at {m : M α} {f : α → M β} {t t' : Tp} {a : α} (h : m t = .ok a t') : bnd m f t = f a t' := by unfold bnd; rw [h]
theorem bnd_ite {c : Prop} [Decidable c] {a b : M α} {f : α → M β} : bnd (if c then a else b) f = if c then bnd a f else bnd b f := by split <;> rfl
end
section
variable {ρ : Env} {i j : Nat} {d x y : D} {a b c : DE} {t u : DT} {r : DA} {s f g : DS} {sl : DSl}
@[simp] theorem eVar_r : eVar i ρ = getV ρ i := rfl
@[simp] theorem eBor_r : eBor i ρ = getB ρ i := rfl
theorem getV_val (h : ρ[i]? = some (.val d)) : getV ρ i = ret d := by unfold getV; rw [h]
theorem getB_val (h : ρ[i]? = some (.val d)) : getB ρ i = ret d := by unfold getB; rw [h]
theorem getB_own (h : ρ[i]? = some (.own d)) : getB ρ i = ret d := by unfold getB; rw [h]
@[simp] theorem getV_0 : getV (.val d :: ρ) 0 = ret d := rfl
@[simp] theorem getB_0 : getB (.val d :: ρ) 0 = ret d := rfl
@[simp] theorem getB_0o : getB (.own d :: ρ) 0 = ret d := rfl
@[simp] theorem getV_s {s : Slot} {i : Nat} : getV (s :: ρ) (i + 1) = getV ρ i := rfl
@[simp] theorem getB_s {s : Slot} {i : Nat} : getB (s :: ρ) (i + 1) = getB ρ i := rfl
@[simp] theorem eC_r : eC d ρ = ret d := rfl
@[simp] theorem eBin_r {m : D → D → M D} : eBin m a b ρ = bnd (a ρ) fun x => bnd (b ρ) fun y => m x y := rfl
@[simp] theorem eUn_r {m : D → M D} : eUn m a ρ = bnd (a ρ) m := rfl
@[simp] theorem eChain_r {m m' : D → D → M D} : eChain m m' a b c ρ = bnd (a ρ) fun x => bnd (b ρ) fun y => bnd (m x y) fun z => bnd (eChain.truB z) fun k => if k = true then bnd (c ρ) fun w => m' y w else ret (.bool false) := rfl
@[simp] theorem truB_r {k : Bool} : eChain.truB (.bool k) = ret k := rfl
@[simp] theorem eAnd_r : eAnd a b ρ = bnd (a ρ) fun x => bnd (truM x) fun k => if k = true then b ρ else ret x := rfl
@[simp] theorem eOr_r : eOr a b ρ = bnd (a ρ) fun x => bnd (truM x) fun k => if k = true then ret x else b ρ := rfl
@[simp] theorem eNot_r : eNot a ρ = bnd (a ρ) fun x => bnd (truM x) fun k => ret (.bool (!k)) := rfl
@[simp] theorem eIf_r : eIf t a b ρ = bnd (t ρ) fun k => if k = true then a ρ else b ρ := rfl
@[simp] theorem tTru_r : tTru a ρ = bnd (a ρ) truM := rfl
@[simp] theorem tBool_r : tBool a ρ = bnd (a ρ) eChain.truB := rfl
@[simp] theorem tAnd_r : tAndM t u ρ = bnd (t ρ) fun k => if k = true then u ρ else ret false := rfl
@[simp] theorem tOr_r : tOrM t u ρ = bnd (t ρ) fun k => if k = true then ret true else u ρ := rfl
@[simp] theorem tNot_r : tNotM t ρ = bnd (t ρ) fun k => ret (!k) := rfl
@[simp] theorem tYes_r : tYesM ρ = ret true := rfl
@[simp] theorem aNil_r : aNil ρ = ret [] := rfl
@[simp] theorem aCons_r : aCons a r ρ = bnd (a ρ) fun x => bnd (r ρ) fun xs => ret (x :: xs) := rfl
@[simp] theorem eTup_r : eTup r ρ = bnd (r ρ) fun xs => ret (.tuple xs) := rfl
@[simp] theorem eFl_r : eFl r ρ = bnd (r ρ) fun xs => ret (.list xs) := rfl
@[simp] theorem eFd_r {k : DK} : eFd k ρ = bnd (k ρ) fun kvs => ret (dicD kvs) := rfl
@[simp] theorem eCall_r {m : List D → M D} : eCall m r ρ = bnd (r ρ) m := rfl
@[simp] theorem aCall_r {m : List D → M (List D)} : aCall m r ρ = bnd (r ρ) m := rfl
@[simp] theorem aOf_r {m : D → M (List D)} : aOf m a ρ = bnd (a ρ) m := rfl
@[simp] theorem kOf_r {m : D → M (List (D × D))} : kOf m a ρ = bnd (a ρ) m := rfl
@[simp] theorem eSlice_r {lo hi : Env → M (Option Int)} : eSlice a lo hi ρ = bnd (a ρ) fun x => bnd (lo ρ) fun l => bnd (hi ρ) fun u => sliceM x l u := rfl
@[simp] theorem oNone_r : oNone ρ = ret none := rfl
@[simp] theorem oSome_r : oSome a ρ = bnd (a ρ) fun x => match x with
  | .int i => ret (some i)
  | _ => bad := rfl
@[simp] theorem iSeq_r : iSeq a ρ = bnd (a ρ) seqM := rfl
@[simp] theorem seqM_l {xs : List D} : seqM (.list xs) = ret xs := rfl
@[simp] theorem seqM_t {xs : List D} : seqM (.tuple xs) = ret xs := rfl
@[simp] theorem truM_b {k : Bool} : truM (.bool k) = ret k := rfl
@[simp] theorem bindE_nm : bindE (.nm i) d ρ = some (ρ.set i (.val d)) := rfl
@[simp] theorem wipe_nil : wipeE ρ [] = ρ := rfl
@[simp] theorem wipe_cons {vs : List Nat} : wipeE ρ (i :: vs) = (wipeE ρ vs).set i .un := rfl
@[simp] theorem sSkip_r : sSkip ρ = ret (.nx ρ) := rfl
@[simp] theorem sThen_nx : sThen g (.nx ρ) = g ρ := rfl
@[simp] theorem sThen_rt : sThen g (.rt d) = ret (.rt d) := rfl
@[simp] theorem sSeq_r : sSeq f g ρ = bnd (f ρ) (sThen g) := rfl
@[simp] theorem sExpr_r : sExpr a ρ = bnd (a ρ) fun _ => ret (.nx ρ) := rfl
@[simp] theorem sRet_r : sRet a ρ = bnd (a ρ) fun d => ret (.rt d) := rfl
@[simp] theorem sSet_r : sSet i sl ρ = bnd (sl ρ) fun s => ret (.nx (ρ.set i s)) := rfl
@[simp] theorem slV_r : slV a ρ = bnd (a ρ) fun d => ret (.val d) := rfl
@[simp] theorem slL_r : slL r ρ = bnd (r ρ) fun ds => ret (.own (.list ds)) := rfl
@[simp] theorem slD_r {k : DK} : slD k ρ = bnd (k ρ) fun kvs => ret (.own (dicD kvs)) := rfl
@[simp] theorem slN_r : slN r ρ = bnd (r ρ) fun xs => ret (.nest (List.replicate xs.length [])) := rfl
@[simp] theorem dNil_r : dNil ρ = ret [] := rfl
@[simp] theorem aSnil_r : aSnil ρ = ret [] := rfl
@[simp] theorem aScons_r {q : Env → M (List Slot)} : aScons sl q ρ = bnd (sl ρ) fun x => bnd (q ρ) fun xs => ret (x :: xs) := rfl
@[simp] theorem sPar_r {is : List Nat} {q : Env → M (List Slot)} : sPar is q ρ = bnd (q ρ) fun ss => match setsE is ss ρ with
  | some ρ' => ret (.nx ρ')
  | none => bad := rfl
@[simp] theorem setsE_n : setsE [] [] ρ = some ρ := rfl
@[simp] theorem setsE_c {is : List Nat} {s : Slot} {ss : List Slot} : setsE (i :: is) (s :: ss) ρ = setsE is ss (ρ.set i s) := rfl
@[simp] theorem sIf_r : sIf t f g ρ = bnd (t ρ) fun k => if k = true then f ρ else g ρ := rfl
@[simp] theorem sFor_r {tg : Tg} : sFor tg r s ρ = bnd (r ρ) fun xs => sForL tg s xs ρ := rfl
@[simp] theorem sLoop_nx : sLoop g (.nx ρ) = g ρ := rfl
@[simp] theorem sLoop_rt : sLoop g (.rt d) = ret (.rt d) := rfl
@[simp] theorem sAug_r {op : Operator} : sAug i op a ρ = bnd (getV ρ i) fun x => bnd (a ρ) fun y => bnd (augM op x y) fun z => ret (.nx (ρ.set i (.val z))) := rfl
@[simp] theorem augM_add {p q : Int} : augM .Add (.int p) (.int q) = ret (.int (p + q)) := rfl
@[simp] theorem finM_nx : finM (.nx ρ) = ret .none := rfl
@[simp] theorem finM_rt : finM (.rt d) = ret d := rfl
@[simp] theorem sFz_n : sFz [] s ρ = s ρ := rfl
@[simp] theorem sFz_c {is : List Nat} : sFz (i :: is) s ρ = sFz is s (fz i ρ) := rfl
end
theorem defM_r {f : DS} {n k : Nat} {ds : List D} (h : ds.length = n) : defM f n k ds = bnd (f (ds.map Slot.val ++ List.replicate (k - n) Slot.un)) finM := by unfold defM; rw [if_pos h]

section
variable {f : DS} {k : Nat} {a b c d : D}
theorem def1 : defM f 1 k [a] = bnd (f (.val a :: List.replicate (k - 1) Slot.un)) finM := rfl
theorem def2 : defM f 2 k [a, b] = bnd (f (.val a :: .val b :: List.replicate (k - 2) Slot.un)) finM := rfl
theorem def3 : defM f 3 k [a, b, c] = bnd (f (.val a :: .val b :: .val c :: List.replicate (k - 3) Slot.un)) finM := rfl
theorem def4 : defM f 4 k [a, b, c, d] = bnd (f (.val a :: .val b :: .val c :: .val d :: List.replicate (k - 4) Slot.un)) finM := rfl
@[simp] theorem repl_s {n : Nat} {s : Slot} : List.replicate (n + 1) s = s :: List.replicate n s := rfl
@[simp] theorem repl_0 {s : Slot} : List.replicate 0 s = [] := rfl
end

/-! ### whole numbers, lists of them -/
def nI (n : Nat) : D := .int (n : Int)
def tN (l : List Nat) : D := .tuple (l.map nI)
def tT (l : List (List Nat)) : D := .tuple (l.map tN)
def lN (l : List Nat) : D := .list (l.map nI)
def lT (l : List (List Nat)) : D := .list (l.map tN)
@[simp] theorem add_nI {a b : Nat} : binM .Add (nI a) (nI b) = ret (nI (a + b)) := by simp [binM, addM, nI]
@[simp] theorem add_nI1 {a : Nat} {z : Int} : binM .Add (nI a) (.int z) = ret (.int (a + z)) := rfl
@[simp] theorem sub_nI1 {a : Nat} {z : Int} : binM .Sub (nI a) (.int z) = ret (.int (a - z)) := rfl
@[simp] theorem sub_int {a z : Int} : binM .Sub (.int a) (.int z) = ret (.int (a - z)) := rfl
@[simp] theorem add_int {a z : Int} : binM .Add (.int a) (.int z) = ret (.int (a + z)) := rfl
mutual
theorem eqv_self : ∀ d : D, d.canLay0 = true → PyData.eqv d d = true
  | .none, _ => by simp [PyData.eqv]
  | .bool _, _ => by simp [PyData.eqv]
  | .int _, _ => by simp [PyData.eqv]
  | .str _, _ => by simp [PyData.eqv]
  | .list xs, h => by
    rw [PyData.eqv]
    exact eqvAll_self xs (by simpa [PyData.canLay0] using h)
  | .tuple xs, h => by
    rw [PyData.eqv]
    exact eqvAll_self xs (by simpa [PyData.canLay0] using h)
  | .dict _, h => by simp [PyData.canLay0] at h
theorem eqvAll_self : ∀ ds : List D, PyData.canLayAll0 ds = true → PyData.eqvAll ds ds = true
  | [], _ => by simp [PyData.eqvAll]
  | d :: ds, h => by
    rw [PyData.canLayAll0, Bool.and_eq_true] at h
    rw [PyData.eqvAll, eqv_self d h.1, eqvAll_self ds h.2]
    rfl
end
/-- a datum that can be compared, of depth at most k -/
def Ok (k : Nat) (d : D) : Prop := d.canLay0 = true ∧ d.depth ≤ k
theorem Ok.mono {j k : Nat} {d : D} (h : Ok j d) (l : j ≤ k) : Ok k d := ⟨h.1, Nat.le_trans h.2 l⟩
theorem ok_nI (n : Nat) : Ok 0 (nI n) := ⟨by simp [nI, PyData.canLay0], by simp [nI, PyData.depth]⟩
theorem ok_int (n : Int) : Ok 0 (.int n) := ⟨by simp [PyData.canLay0], by simp [PyData.depth]⟩
theorem ok_bool (b : Bool) : Ok 0 (.bool b) := ⟨by simp [PyData.canLay0], by simp [PyData.depth]⟩
theorem ok_none : Ok 0 .none := ⟨by simp [PyData.canLay0], by simp [PyData.depth]⟩
theorem all_ok {k : Nat} : ∀ {ds : List D}, (∀ d ∈ ds, Ok k d) → PyData.canLayAll0 ds = true ∧ PyData.depthAll ds ≤ k
  | [], _ => ⟨by simp [PyData.canLayAll0], by simp [PyData.depthAll]⟩
  | d :: ds, h => by
    obtain ⟨a, b⟩ := all_ok fun x hx => h x (List.mem_cons_of_mem _ hx)
    obtain ⟨c, e⟩ := h d List.mem_cons_self
    exact ⟨by rw [PyData.canLayAll0, c, a]; rfl, by rw [PyData.depthAll]; omega⟩
theorem ok_tup {k : Nat} {ds : List D} (h : ∀ d ∈ ds, Ok k d) : Ok (k + 1) (.tuple ds) := by
  obtain ⟨a, b⟩ := all_ok h
  exact ⟨by rw [PyData.canLay0]; exact a, by rw [PyData.depth]; omega⟩
theorem ok_lst {k : Nat} {ds : List D} (h : ∀ d ∈ ds, Ok k d) : Ok (k + 1) (.list ds) := by
  obtain ⟨a, b⟩ := all_ok h
  exact ⟨by rw [PyData.canLay0]; exact a, by rw [PyData.depth]; omega⟩
theorem ok_tN (l : List Nat) : Ok 1 (tN l) := ok_tup fun d hd => by
  obtain ⟨n, _, rfl⟩ := List.mem_map.mp hd
  exact ok_nI n
theorem ok_lN (l : List Nat) : Ok 1 (lN l) := ok_lst fun d hd => by
  obtain ⟨n, _, rfl⟩ := List.mem_map.mp hd
  exact ok_nI n
theorem ok_tT (l : List (List Nat)) : Ok 2 (tT l) := ok_tup fun d hd => by
  obtain ⟨n, _, rfl⟩ := List.mem_map.mp hd
  exact ok_tN n
theorem ok_lT (l : List (List Nat)) : Ok 2 (lT l) := ok_lst fun d hd => by
  obtain ⟨n, _, rfl⟩ := List.mem_map.mp hd
  exact ok_tN n
theorem Ok.shaped {k : Nat} {d : D} (h : Ok k d) (hk : k ≤ 60) : SeqAt.shaped d = true := by
  obtain ⟨a, b⟩ := h
  unfold SeqAt.shaped
  rw [a, Bool.true_and]
  exact decide_eq_true (by omega)
theorem eq_ok {j k : Nat} {a b : D} (ha : Ok j a) (hb : Ok k b) (hj : j ≤ 60 := by decide) (hk : k ≤ 60 := by decide) : cmpM .Eq a b = ret (.bool (PyData.eqv a b)) := by
  show eqM a b = _
  unfold eqM
  rw [if_pos ⟨ha.shaped hj, hb.shaped hk⟩]
theorem ne_ok {j k : Nat} {a b : D} (ha : Ok j a) (hb : Ok k b) (hj : j ≤ 60 := by decide) (hk : k ≤ 60 := by decide) : cmpM .NotEq a b = ret (.bool (!PyData.eqv a b)) := by
  show neM a b = _
  unfold neM
  rw [if_pos ⟨ha.shaped hj, hb.shaped hk⟩]
theorem ne_self {k : Nat} {a : D} (ha : Ok k a) (hk : k ≤ 60 := by decide) : cmpM .NotEq a a = ret (.bool false) := by
  rw [ne_ok ha ha hk hk, eqv_self a ha.1]
  rfl
theorem eq_self {k : Nat} {a : D} (ha : Ok k a) (hk : k ≤ 60 := by decide) : cmpM .Eq a a = ret (.bool true) := by
  rw [eq_ok ha ha hk hk, eqv_self a ha.1]
@[simp] theorem eqv_nI {a b : Nat} : PyData.eqv (nI a) (nI b) = decide (a = b) := by
  simp only [nI, PyData.eqv]
  by_cases h : a = b
  · subst h; simp
  · simp [h]
    omega
theorem eqvAll_map {α : Type} [DecidableEq α] {enc : α → D} (h : ∀ a b, PyData.eqv (enc a) (enc b) = decide (a = b)) : ∀ {l m : List α}, PyData.eqvAll (l.map enc) (m.map enc) = decide (l = m)
  | [], [] => by simp [PyData.eqvAll]
  | [], _ :: _ => by simp [PyData.eqvAll]
  | _ :: _, [] => by simp [PyData.eqvAll]
  | a :: l, b :: m => by
    simp only [List.map_cons, PyData.eqvAll, h, eqvAll_map h, List.cons.injEq]
    by_cases e : a = b <;> by_cases f : l = m <;> simp [e, f]
@[simp] theorem eqv_tN {l m : List Nat} : PyData.eqv (tN l) (tN m) = decide (l = m) := by
  unfold tN
  rw [PyData.eqv]
  exact eqvAll_map fun a b => eqv_nI
@[simp] theorem eqv_tT {l m : List (List Nat)} : PyData.eqv (tT l) (tT m) = decide (l = m) := by
  unfold tT
  rw [PyData.eqv]
  exact eqvAll_map fun a b => eqv_tN
@[simp] theorem eqv_lN {l m : List Nat} : PyData.eqv (lN l) (lN m) = decide (l = m) := by
  unfold lN
  rw [PyData.eqv]
  exact eqvAll_map fun a b => eqv_nI
@[simp] theorem eqv_lT {l m : List (List Nat)} : PyData.eqv (lT l) (lT m) = decide (l = m) := by
  unfold lT
  rw [PyData.eqv]
  exact eqvAll_map fun a b => eqv_tN
theorem eq_nI {a b : Nat} : cmpM .Eq (nI a) (nI b) = ret (.bool (decide (a = b))) := by rw [eq_ok (ok_nI a) (ok_nI b), eqv_nI]
theorem beq_int {a b : Int} : (a == b) = decide (a = b) := by
  by_cases h : a = b
  · subst h; simp
  · rw [decide_eq_false h]; exact beq_eq_false_iff_ne.mpr h
theorem eq_int {a b : Int} : cmpM .Eq (.int a) (.int b) = ret (.bool (decide (a = b))) := by
  rw [eq_ok (ok_int a) (ok_int b), PyData.eqv, beq_int]
theorem ne_int {a b : Int} : cmpM .NotEq (.int a) (.int b) = ret (.bool (decide (a ≠ b))) := by
  rw [ne_ok (ok_int a) (ok_int b), PyData.eqv, beq_int]
  by_cases h : a = b <;> simp [h]
theorem ne_bool {a b : Bool} : cmpM .NotEq (.bool a) (.bool b) = ret (.bool (a != b)) := by
  rw [ne_ok (ok_bool a) (ok_bool b), PyData.eqv]
  cases a <;> cases b <;> rfl
theorem eq_tN {a b : List Nat} : cmpM .Eq (tN a) (tN b) = ret (.bool (decide (a = b))) := by rw [eq_ok (ok_tN a) (ok_tN b), eqv_tN]
theorem ne_tN {a b : List Nat} : cmpM .NotEq (tN a) (tN b) = ret (.bool (decide (a ≠ b))) := by rw [ne_ok (ok_tN a) (ok_tN b), eqv_tN]; simp
/-- in, over encoded rows -/
theorem any_eqv {α : Type} [DecidableEq α] {enc : α → D} (h : ∀ a b, PyData.eqv (enc a) (enc b) = decide (a = b)) (x : α) : ∀ l : List α, ((l.map enc).any fun z => PyData.eqv z (enc x)) = decide (x ∈ l)
  | [] => by simp
  | a :: l => by
    rw [List.map_cons, List.any_cons, h, any_eqv h x l]
    by_cases e : a = x
    · subst e; simp
    · have : ¬ x = a := fun z => e z.symm
      by_cases f : x ∈ l <;> simp [e, f, this]
theorem has_map {α : Type} [DecidableEq α] {enc : α → D} {k : Nat} (h : ∀ a b, PyData.eqv (enc a) (enc b) = decide (a = b)) (ho : ∀ a, Ok k (enc a)) (hk : k ≤ 60) (neg : Bool) (x : α) (l : List α) : hasD neg (enc x) (l.map enc) = ret (.bool (neg != decide (x ∈ l))) := by
  unfold hasD
  rw [if_pos ⟨(ho x).1, (all_ok fun d hd => (by obtain ⟨n, _, rfl⟩ := List.mem_map.mp hd; exact ho n)).1, Nat.le_trans (ho x).2 hk⟩, any_eqv h]
@[simp] theorem in_tN {x : Nat} {l : List Nat} : cmpM .In (nI x) (tN l) = ret (.bool (decide (x ∈ l))) := (has_map (fun _ _ => eqv_nI) ok_nI (by decide) false x l).trans (by simp)
@[simp] theorem nin_tN {x : Nat} {l : List Nat} : cmpM .NotIn (nI x) (tN l) = ret (.bool (!decide (x ∈ l))) := (has_map (fun _ _ => eqv_nI) ok_nI (by decide) true x l).trans (by simp)
@[simp] theorem in_tT {x : List Nat} {l : List (List Nat)} : cmpM .In (tN x) (tT l) = ret (.bool (decide (x ∈ l))) := (has_map (fun _ _ => eqv_tN) ok_tN (by decide) false x l).trans (by rw [Bool.false_bne]; congr 2; exact decide_eq_decide.mpr Iff.rfl)
@[simp] theorem in_lT {x : List Nat} {l : List (List Nat)} : cmpM .In (tN x) (lT l) = ret (.bool (decide (x ∈ l))) := (has_map (fun _ _ => eqv_tN) ok_tN (by decide) false x l).trans (by rw [Bool.false_bne]; congr 2; exact decide_eq_decide.mpr Iff.rfl)
@[simp] theorem nin_lT {x : List Nat} {l : List (List Nat)} : cmpM .NotIn (tN x) (lT l) = ret (.bool (!decide (x ∈ l))) := (has_map (fun _ _ => eqv_tN) ok_tN (by decide) true x l).trans (by rw [Bool.true_bne]; congr 3; exact decide_eq_decide.mpr Iff.rfl)

/-! ### order, length, index -/
theorem dlt_int (a b : Int) : PySem.W.dataLt (.int a) (.int b) = decide (a < b) := by
  first
    | exact PySem.W.dataLt_int a b
    | exact PySem.W.dataLt_int
theorem lt_int {a b : Int} : cmpM .Lt (.int a) (.int b) = ret (.bool (decide (a < b))) := by
  show ltM _ _ = _
  unfold ltM
  rw [if_pos ⟨(ok_int a).shaped (by decide), (ok_int b).shaped (by decide), by simp [PySem.W.alike], rfl⟩, dlt_int]
theorem gt_int {a b : Int} : cmpM .Gt (.int a) (.int b) = ret (.bool (decide (b < a))) := rfl
theorem le_int {a b : Int} : cmpM .LtE (.int a) (.int b) = ret (.bool (decide (a ≤ b))) := rfl
theorem ge_int {a b : Int} : cmpM .GtE (.int a) (.int b) = ret (.bool (decide (b ≤ a))) := rfl
@[simp] theorem lt_nI {a b : Nat} : cmpM .Lt (nI a) (nI b) = ret (.bool (decide (a < b))) := by
  unfold nI
  rw [lt_int]
  simp
@[simp] theorem gt_nI {a b : Nat} : cmpM .Gt (nI a) (nI b) = ret (.bool (decide (b < a))) := by
  unfold nI
  rw [gt_int]
  simp
@[simp] theorem len_l {xs : List D} : lenM [.list xs] = ret (nI xs.length) := rfl
@[simp] theorem len_t {xs : List D} : lenM [.tuple xs] = ret (nI xs.length) := rfl
@[simp] theorem len_tN {l : List Nat} : lenM [tN l] = ret (nI l.length) := by simp [tN]
@[simp] theorem len_tT {l : List (List Nat)} : lenM [tT l] = ret (nI l.length) := by simp [tT]
@[simp] theorem len_lN {l : List Nat} : lenM [lN l] = ret (nI l.length) := by simp [lN]
@[simp] theorem len_lT {l : List (List Nat)} : lenM [lT l] = ret (nI l.length) := by simp [lT]
@[simp] theorem tup_l {xs : List D} : tupleM [.list xs] = ret (.tuple xs) := rfl
@[simp] theorem tup_t {xs : List D} : tupleM [.tuple xs] = ret (.tuple xs) := rfl
@[simp] theorem seqM_tN {l : List Nat} : seqM (tN l) = ret (l.map nI) := rfl
@[simp] theorem seqM_lN {l : List Nat} : seqM (lN l) = ret (l.map nI) := rfl
@[simp] theorem seqM_tT {l : List (List Nat)} : seqM (tT l) = ret (l.map tN) := rfl
@[simp] theorem seqM_lT {l : List (List Nat)} : seqM (lT l) = ret (l.map tN) := rfl
theorem range1_r {ρ : Env} {a : DE} {n : Nat} (h : a ρ = ret (nI n)) (hn : n ≤ 16777216) : eRange1 a ρ = ret ((List.range n).map nI) := by
  unfold eRange1
  rw [h]
  show (if -1000000000 ≤ (n : Int) ∧ (n : Int) ≤ 16777216 then ret ((List.range (n : Int).toNat).map fun i => PyData.int (i : Nat)) else bad) = _
  rw [if_pos ⟨by omega, by omega⟩, Int.toNat_natCast]
  rfl
end Kw
namespace Kw
open PySem PySem.Spec PyProof.Rows

/-! ### comprehensions -/
@[simp] theorem bodyC_nm {i : Nat} {t : DT} {e : DE} {ρ : Env} {x : D} : bodyC (.nm i) t e ρ x = bnd (t (ρ.set i (.val x))) fun b => if b = true then bnd (e (ρ.set i (.val x))) fun y => ret [y] else ret [] := rfl
theorem compL_map {α : Type} {enc : α → D} {f : D → M (List D)} {p : α → Bool} {g : α → D} : ∀ {xs : List α}, (∀ x ∈ xs, f (enc x) = if p x = true then ret [g x] else ret []) → compL f (xs.map enc) = ret ((xs.filter p).map g)
  | [], _ => rfl
  | x :: xs, h => by
    have r := compL_map (xs := xs) fun y hy => h y (List.mem_cons_of_mem _ hy)
    show bnd (f (enc x)) _ = _
    rw [h x List.mem_cons_self]
    cases e : p x with
    | true => simp [e, r]
    | false => simp [e, r]
theorem compL_flat {α : Type} {enc : α → D} {f : D → M (List D)} {G : α → List D} : ∀ {xs : List α}, (∀ x ∈ xs, f (enc x) = ret (G x)) → compL f (xs.map enc) = ret (xs.flatMap G)
  | [], _ => rfl
  | x :: xs, h => by
    have r := compL_flat (xs := xs) fun y hy => h y (List.mem_cons_of_mem _ hy)
    show bnd (f (enc x)) _ = _
    rw [h x List.mem_cons_self]
    simp [r]
theorem comp_f {α : Type} {enc : α → D} {p : α → Bool} {g : α → D} {xs : List α} {vs : List Nat} {tg : Tg} {t : DT} {e : DE} {it : DA} {ρ : Env} (hi : it ρ = ret (xs.map enc)) (h : ∀ x ∈ xs, bodyC tg t e (wipeE ρ vs) (enc x) = if p x = true then ret [g x] else ret []) : eComp vs tg t e it ρ = ret ((xs.filter p).map g) := by
  unfold eComp
  rw [hi, bnd_ret, compL_map h, nox_ret]
theorem comp_a {α : Type} {enc : α → D} {g : α → D} {xs : List α} {vs : List Nat} {tg : Tg} {t : DT} {e : DE} {it : DA} {ρ : Env} (hi : it ρ = ret (xs.map enc)) (h : ∀ x ∈ xs, bodyC tg t e (wipeE ρ vs) (enc x) = ret [g x]) : eComp vs tg t e it ρ = ret (xs.map g) := by
  rw [comp_f (p := fun _ => true) hi fun x hx => (h x hx).trans (if_pos rfl).symm, List.filter_eq_self.mpr fun _ _ => rfl]
theorem anyM_map {α : Type} {p : α → Bool} {xs : List α} : anyM [.list (xs.map fun x => .bool (p x))] = ret (.bool (xs.any p)) := by
  have h : ∀ l : List α, blsD (l.map fun x => .bool (p x)) = some (l.map p) := fun l => by
    induction l with
    | nil => rfl
    | cons a l ih => simp [blsD, ih]
  simp only [anyM, h, List.any_map, Function.comp_def, id]
theorem allM_map {α : Type} {p : α → Bool} {xs : List α} : allM [.list (xs.map fun x => .bool (p x))] = ret (.bool (xs.all p)) := by
  have h : ∀ l : List α, blsD (l.map fun x => .bool (p x)) = some (l.map p) := fun l => by
    induction l with
    | nil => rfl
    | cons a l ih => simp [blsD, ih]
  simp only [allM, h, List.all_map, Function.comp_def, id]

/-! ### order -/
theorem sort_ext {l m : List Int} (hl : l.Pairwise (· < ·)) (hm : m.Pairwise (· < ·)) (h : ∀ x, x ∈ l ↔ x ∈ m) : l = m := by
  refine List.Perm.eq_of_pairwise (le := (· < ·)) (fun a b _ _ h1 h2 => absurd (Int.lt_trans h1 h2) (Int.lt_irrefl a)) hl hm ?_
  exact (List.perm_ext_iff_of_nodup (hl.imp fun h e => absurd (e ▸ h) (Int.lt_irrefl _)) (hm.imp fun h e => absurd (e ▸ h) (Int.lt_irrefl _))).mpr h
theorem nat_ext {l m : List Nat} (hl : l.Pairwise (· < ·)) (hm : m.Pairwise (· < ·)) (h : ∀ x, x ∈ l ↔ x ∈ m) : l = m := by
  refine List.Perm.eq_of_pairwise (le := (· < ·)) (fun a b _ _ h1 h2 => absurd (Nat.lt_trans h1 h2) (Nat.lt_irrefl a)) hl hm ?_
  exact (List.perm_ext_iff_of_nodup (hl.imp fun h e => absurd (e ▸ h) (Nat.lt_irrefl _)) (hm.imp fun h e => absurd (e ▸ h) (Nat.lt_irrefl _))).mpr h
def msI (ns : List Int) : List Int := ns.mergeSort fun a b => decide (a ≤ b)
theorem msI_mem {ns : List Int} {x : Int} : x ∈ msI ns ↔ x ∈ ns := (List.mergeSort_perm ns _).mem_iff
theorem msI_lt {ns : List Int} (nd : ns.Nodup) : (msI ns).Pairwise (· < ·) := by
  have h1 : (msI ns).Pairwise (fun a b => decide (a ≤ b) = true) := List.pairwise_mergeSort (fun a b c h1 h2 => by simp at *; omega) (fun a b => by simp; omega) ns
  have h2 : (msI ns).Pairwise (· ≠ ·) := (List.mergeSort_perm ns _).nodup_iff.mpr nd
  refine (h1.and h2).imp fun h => ?_
  have := of_decide_eq_true h.1
  have := h.2
  omega
theorem sort_int (ns : List Int) : sortL (ns.map PyData.int) = (msI ns).map PyData.int := by
  unfold sortL msI
  rw [List.map_mergeSort (s := leD)]
  intro a _ b _
  show _ = (!PySem.W.dataLt (.int b) (.int a))
  rw [dlt_int]
  by_cases h : a ≤ b
  · have : ¬ b < a := by omega
    simp [h, this]
  · have : b < a := by omega
    simp [h, this]
def castL (l : List Nat) : List Int := l.map fun (n : Nat) => (n : Int)
theorem nI_cast (l : List Nat) : l.map nI = (castL l).map PyData.int := by simp [castL, nI, Function.comp_def]
theorem cast_mem {x : Int} {l : List Nat} : x ∈ castL l ↔ ∃ n ∈ l, x = (n : Int) := by
  simp only [castL, List.mem_map]
  exact ⟨fun ⟨n, h, e⟩ => ⟨n, h, e.symm⟩, fun ⟨n, h, e⟩ => ⟨n, h, e.symm⟩⟩
theorem cast_lt {l : List Nat} (h : l.Pairwise (· < ·)) : (castL l).Pairwise (· < ·) := List.pairwise_map.mpr (h.imp fun h => by omega)
theorem cast_nd {l : List Nat} (h : l.Nodup) : (castL l).Nodup := List.pairwise_map.mpr (h.imp fun h e => h (by omega))
/-- the states of the range that are told -/
def canon (n : Nat) (P : Nat → Bool) : List Nat := (List.range n).filter P
theorem canon_mem {n : Nat} {P : Nat → Bool} {x : Nat} : x ∈ canon n P ↔ x < n ∧ P x = true := by simp [canon]
theorem canon_lt {n : Nat} {P : Nat → Bool} : (canon n P).Pairwise (· < ·) := List.pairwise_lt_range.filter _
theorem canon_ext {n : Nat} {P Q : Nat → Bool} (h : ∀ x, x < n → P x = Q x) : canon n P = canon n Q := List.filter_congr fun x hx => h x (List.mem_range.mp hx)
/-- an increasing row is the canonical one -/
theorem inc_canon {l : List Nat} {n : Nat} {P : Nat → Bool} (h : l.Pairwise (· < ·)) (m : ∀ x, x ∈ l ↔ x < n ∧ P x = true) : l = canon n P := nat_ext h canon_lt fun x => (m x).trans canon_mem.symm
theorem msI_canon {l : List Nat} {n : Nat} {P : Nat → Bool} (nd : l.Nodup) (h : ∀ x, x ∈ l ↔ x < n ∧ P x = true) : msI (castL l) = castL (canon n P) := by
  refine sort_ext (msI_lt (cast_nd nd)) (cast_lt canon_lt) fun x => ?_
  rw [msI_mem, cast_mem, cast_mem]
  exact ⟨fun ⟨k, hk, e⟩ => ⟨k, canon_mem.mpr ((h k).mp hk), e⟩, fun ⟨k, hk, e⟩ => ⟨k, (h k).mpr (canon_mem.mp hk), e⟩⟩
theorem canLay_ints (ns : List Int) : ∀ d ∈ ns.map PyData.int, Ok 0 d := fun d hd => by
  obtain ⟨i, _, rfl⟩ := List.mem_map.mp hd
  exact ok_int i
theorem sortE_of {ds : List D} (h : sortB ds = true) : sortE ds = true := by
  unfold sortB at h
  unfold sortE
  rw [Bool.and_eq_true, Bool.or_eq_true] at h
  rw [Bool.and_eq_true, Bool.or_eq_true]
  refine ⟨h.1, h.2.imp (fun q => List.all_eq_true.mpr fun d hd => ?_) id⟩
  have := List.all_eq_true.mp q d hd
  unfold tupConsB at this
  split at this
  · rfl
  · cases this
theorem sortB_int (ns : List Int) : sortB (ns.map PyData.int) = true := by
  unfold sortB alikeB
  rw [Bool.and_eq_true]
  refine ⟨List.all_eq_true.mpr fun d hd => ?_, ?_⟩
  · obtain ⟨o1, o2⟩ := canLay_ints ns d hd
    rw [o1, Bool.true_and, Bool.and_eq_true]
    refine ⟨decide_eq_true (by omega), List.all_eq_true.mpr fun e he => ?_⟩
    obtain ⟨i, _, rfl⟩ := List.mem_map.mp hd
    obtain ⟨j, _, rfl⟩ := List.mem_map.mp he
    simp [PySem.W.alike]
  · rw [Bool.or_eq_true]
    refine .inr (List.all_eq_true.mpr fun d hd => ?_)
    obtain ⟨i, _, rfl⟩ := List.mem_map.mp hd
    rfl
theorem sorted_int {d : D} {ns : List Int} (h : itemsD d = some (ns.map PyData.int)) : sortedM [d] = ret ((msI ns).map PyData.int) := by
  unfold sortedM
  simp only [h]
  rw [if_pos (sortE_of (sortB_int ns)), sort_int]
/-- sorted of different states is canonical -/
theorem sorted_canon {d : D} {l : List Nat} {n : Nat} {P : Nat → Bool} (hd : itemsD d = some (l.map nI)) (nd : l.Nodup) (h : ∀ x, x ∈ l ↔ x < n ∧ P x = true) : sortedM [d] = ret ((canon n P).map nI) := by
  rw [nI_cast] at hd
  rw [sorted_int hd, msI_canon nd h, nI_cast]
theorem items_t {xs : List D} : itemsD (.tuple xs) = some xs := rfl
theorem items_l {xs : List D} : itemsD (.list xs) = some xs := rfl
theorem intsD_ints : ∀ ns : List Int, intsD (ns.map PyData.int) = some ns
  | [] => rfl
  | n :: ns => by simp [intsD, intsD_ints ns]
theorem intsD_nI (l : List Nat) : intsD (l.map nI) = some (castL l) := by rw [nI_cast]; exact intsD_ints _
section
variable {α : Type} [DecidableEq α]
theorem dd_mem {x : α} : ∀ {l : List α}, x ∈ dd l ↔ x ∈ l
  | [] => Iff.rfl
  | a :: l => by
    unfold dd
    by_cases h : a ∈ l
    · rw [if_pos h, dd_mem, List.mem_cons]
      exact ⟨.inr, fun q => q.elim (fun e => e ▸ h) id⟩
    · rw [if_neg h, List.mem_cons, List.mem_cons, dd_mem]
theorem dd_nodup : ∀ l : List α, (dd l).Nodup
  | [] => List.nodup_nil
  | a :: l => by
    unfold dd
    by_cases h : a ∈ l
    · rw [if_pos h]; exact dd_nodup l
    · rw [if_neg h]; exact List.nodup_cons.mpr ⟨fun q => h (dd_mem.mp q), dd_nodup l⟩
theorem dd_le : ∀ l : List α, (dd l).length ≤ l.length
  | [] => Nat.le_refl _
  | a :: l => by
    unfold dd
    have := dd_le l
    split <;> simp <;> omega
theorem dd_len : ∀ {l : List α}, (dd l).length = l.length ↔ l.Nodup
  | [] => by simp [dd]
  | a :: l => by
    unfold dd
    have := dd_le l
    by_cases h : a ∈ l
    · rw [if_pos h, List.nodup_cons]
      constructor
      · intro q; simp at q; omega
      · intro q; exact absurd h q.1
    · rw [if_neg h, List.nodup_cons, List.length_cons, List.length_cons, Nat.add_right_cancel_iff, dd_len]
      exact ⟨fun q => ⟨h, q⟩, fun q => q.2⟩
end
theorem usort_canon {l : List Nat} {n : Nat} {P : Nat → Bool} (h : ∀ x, x ∈ l ↔ x < n ∧ P x = true) : usort (castL l) = castL (canon n P) := by
  refine sort_ext (msI_lt (dd_nodup _)) (cast_lt canon_lt) fun x => ?_
  have : x ∈ msI (dd (castL l)) ↔ x ∈ castL (canon n P) := by
    rw [msI_mem, dd_mem, cast_mem, cast_mem]
    exact ⟨fun ⟨k, hk, e⟩ => ⟨k, canon_mem.mpr ((h k).mp hk), e⟩, fun ⟨k, hk, e⟩ => ⟨k, (h k).mpr (canon_mem.mp hk), e⟩⟩
  exact this
/-- sorted(set(t)) -/
theorem sortSet_tN {l : List Nat} (hl : l.length < 60) : sortSetM (tN l) = ret ((usort (castL l)).map PyData.int) := by
  have : (castL l).length < 60 := by simpa [castL] using hl
  simp only [sortSetM, tN, intsD_nI, this, if_true]
theorem sortSet_canon {l : List Nat} {n : Nat} {P : Nat → Bool} (hl : l.length < 60) (h : ∀ x, x ∈ l ↔ x < n ∧ P x = true) : sortSetM (tN l) = ret ((canon n P).map nI) := by
  rw [sortSet_tN hl, usort_canon h, nI_cast]
theorem tupsD_map : ∀ L : List (List Nat), tupsD (L.map tN) = some (L.map castL)
  | [] => rfl
  | l :: L => by simp [tupsD, tN, intsD_nI, tupsD_map L]
theorem cast_inj {a b : List Nat} (h : castL a = castL b) : a = b := by
  unfold castL at h
  exact List.map_inj_right (fun x y e => by omega) |>.mp h
theorem dd_map {α β : Type} [DecidableEq α] [DecidableEq β] {f : α → β} (hf : ∀ a b, f a = f b → a = b) : ∀ l : List α, dd (l.map f) = (dd l).map f
  | [] => rfl
  | a :: l => by
    simp only [List.map_cons, dd]
    have e : f a ∈ l.map f ↔ a ∈ l := ⟨fun h => by obtain ⟨b, hb, e⟩ := List.mem_map.mp h; exact hf _ _ e ▸ hb, fun h => List.mem_map.mpr ⟨a, h, rfl⟩⟩
    by_cases h : a ∈ l
    · rw [if_pos h, if_pos (e.mpr h), dd_map hf]
    · rw [if_neg h, if_neg fun q => h (e.mp q), dd_map hf, List.map_cons]
theorem lenSet_lT {L : List (List Nat)} (h : L.length ≤ 64) : lenSetM (lT L) = ret (nI (dd L).length) := by
  have e : lenSetM (lT L) = if (L.map castL).length ≤ 64 ∨ ((dd (L.map castL)).length ≤ 62 ∧ (L.map castL).length ≤ 4000) then ret (.int (dd (L.map castL)).length) else bad := by
    simp only [lenSetM, lT, tupsD_map]
  rw [e, if_pos (.inl (by rw [List.length_map]; exact h)), dd_map (fun a b => cast_inj), List.length_map]
  rfl

/-! ### places -/
theorem at_nat {xs : List D} {i : Nat} {d : D} (h : xs[i]? = some d) : atM xs (i : Int) = ret d := by
  have hl : i < xs.length := (List.getElem?_eq_some_iff.mp h).1
  unfold atM L2.atI L2.ixN
  rw [if_pos (by omega), if_pos (by omega), Option.bind_some, Int.toNat_natCast, h]
  rfl
theorem ix_t {xs : List D} {i : Nat} {d : D} (h : xs[i]? = some d) : ixM (.tuple xs) (nI i) = ret d := at_nat h
theorem ix_l {xs : List D} {i : Nat} {d : D} (h : xs[i]? = some d) : ixM (.list xs) (nI i) = ret d := at_nat h
theorem ix_tN {l : List Nat} {i x : Nat} (h : l[i]? = some x) : ixM (tN l) (nI i) = ret (nI x) := ix_t (by rw [List.getElem?_map, h]; rfl)
theorem ix_tT {l : List (List Nat)} {i : Nat} {x : List Nat} (h : l[i]? = some x) : ixM (tT l) (nI i) = ret (tN x) := ix_t (by rw [List.getElem?_map, h]; rfl)
theorem ix_lT {l : List (List Nat)} {i : Nat} {x : List Nat} (h : l[i]? = some x) : ixM (lT l) (nI i) = ret (tN x) := ix_l (by rw [List.getElem?_map, h]; rfl)
theorem ix_lN {l : List Nat} {i x : Nat} (h : l[i]? = some x) : ixM (lN l) (nI i) = ret (nI x) := ix_l (by rw [List.getElem?_map, h]; rfl)
theorem ix_last {l : List Nat} {x : Nat} : ixM (tN (l ++ [x])) (.int (-1)) = ret (nI x) := by
  show atM ((l ++ [x]).map nI) (-1) = _
  unfold atM L2.atI L2.ixN
  rw [if_neg (by decide), if_pos (by simp; omega), Option.bind_some]
  have : (-1 + (((l ++ [x]).map nI).length : Int)).toNat = l.length := by simp; omega
  rw [this]
  simp

/-! ### a dict of states -/
def encK (l : List Nat) : List (D × D) := l.map fun x => (nI x, .bool true)
def addS (l : List Nat) (x : Nat) : List Nat := if x ∈ l then l else l ++ [x]
theorem encK_any (l : List Nat) (x : Nat) : ((encK l).any fun p => PyData.eqv p.1 (nI x)) = decide (x ∈ l) := by
  have := any_eqv (fun _ _ => eqv_nI) x l
  rw [← this]
  simp [encK, List.any_map, Function.comp_def]
theorem put_encK (l : List Nat) (x : Nat) : putD (encK l) (nI x) (.bool true) = encK (addS l x) := by
  unfold putD addS
  rw [encK_any]
  by_cases h : x ∈ l
  · rw [if_pos (decide_eq_true h), if_pos h]
    unfold encK
    rw [List.map_map]
    refine List.map_congr_left fun y _ => ?_
    simp only [Function.comp_def]
    split <;> rfl
  · rw [if_neg (by simp [h]), if_neg h]
    simp [encK]
def addSs (l m : List Nat) : List Nat := m.foldl addS l
theorem puts_encK : ∀ (m l : List Nat), putsD (encK l) (encK m) = encK (addSs l m)
  | [], _ => rfl
  | x :: m, l => by
    show putsD (putD (encK l) (nI x) (.bool true)) (encK m) = _
    rw [put_encK, puts_encK m]
    rfl
theorem addS_mem {l : List Nat} {x y : Nat} : y ∈ addS l x ↔ y ∈ l ∨ y = x := by
  unfold addS
  by_cases h : x ∈ l
  · rw [if_pos h]; exact ⟨.inl, fun q => q.elim id fun e => e ▸ h⟩
  · rw [if_neg h]; simp
theorem addS_nd {l : List Nat} {x : Nat} (h : l.Nodup) : (addS l x).Nodup := by
  unfold addS
  by_cases e : x ∈ l
  · rw [if_pos e]; exact h
  · rw [if_neg e]
    exact List.nodup_append.mpr ⟨h, by simp, fun a ha b hb q => e (by simp at hb; subst hb; exact q ▸ ha)⟩
theorem addSs_mem {y : Nat} : ∀ {m l : List Nat}, y ∈ addSs l m ↔ y ∈ l ∨ y ∈ m
  | [], l => by simp [addSs]
  | x :: m, l => by
    show y ∈ addSs (addS l x) m ↔ _
    rw [addSs_mem, addS_mem, List.mem_cons, or_assoc]
theorem addSs_nd : ∀ {m l : List Nat}, l.Nodup → (addSs l m).Nodup
  | [], _, h => h
  | x :: m, l, h => addSs_nd (m := m) (addS_nd h)
theorem encK_keys (l : List Nat) : keysD (encK l) = l.map nI := by simp [keysD, encK, Function.comp_def]
theorem encK_all (l : List Nat) : allK (encK l) = true := by
  unfold allK
  refine List.all_eq_true.mpr fun p hp => ?_
  obtain ⟨x, _, rfl⟩ := List.mem_map.mp hp
  rfl
theorem find_any {α : Type} {p : α → Bool} : ∀ l : List α, (l.find? p).isSome = l.any p
  | [] => rfl
  | a :: l => by
    rw [List.find?_cons, List.any_cons]
    cases e : p a with
    | true => rfl
    | false => simpa using find_any l
@[simp] theorem in_dict {x : Nat} {l : List Nat} : cmpM .In (nI x) (dicD (encK l)) = ret (.bool (decide (x ∈ l))) := by
  show (if ((keyK (nI x)).isSome = true ∧ allK (encK l) = true) ∨ ((keyT (nI x)).isSome = true ∧ allT (encK l) = true) then ret (PyData.bool (false != (lookD (encK l) (nI x)).isSome)) else bad) = _
  rw [if_pos (.inl ⟨rfl, encK_all l⟩)]
  have : (lookD (encK l) (nI x)).isSome = decide (x ∈ l) := by
    unfold lookD
    rw [Option.isSome_map, find_any, encK_any]
  rw [this, Bool.false_bne]
theorem pairs_encK : ∀ l : List Nat, pairsD (l.map fun x => PyData.tuple [nI x, PyData.bool true]) = some (encK l)
  | [] => rfl
  | x :: l => by
    have h := pairs_encK l
    simp only [List.map_cons, pairsD, h]
    rfl
/-- {x: True for x in xs} -/
theorem compD_set {f : D → List (D × D) → M (List (D × D))} : ∀ {xs acc : List Nat}, (∀ x ∈ xs, ∀ a, f (nI x) (encK a) = ret (encK (addS a x))) → compD f (xs.map nI) (encK acc) = ret (encK (addSs acc xs))
  | [], _, _ => rfl
  | x :: xs, acc, h => by
    show bnd (f (nI x) (encK acc)) _ = _
    rw [h x List.mem_cons_self, bnd_ret, compD_set fun y hy => h y (List.mem_cons_of_mem _ hy)]
    rfl
/-! ### loops -/
theorem for_inv {tg : Tg} {body : DS} (I : Env → Prop) : ∀ {xs : List D} {ρ : Env}, (∀ ρ, I ρ → ∀ x ∈ xs, ∃ ρ1, bindE tg x ρ = some ρ1 ∧ ∃ ρ', body ρ1 = ret (.nx ρ') ∧ I ρ') → I ρ → ∃ ρ', sForL tg body xs ρ = ret (.nx ρ') ∧ I ρ'
  | [], ρ, _, h => ⟨ρ, rfl, h⟩
  | x :: xs, ρ, hb, h => by
    obtain ⟨ρ1, e1, ρ', e2, h'⟩ := hb ρ h x List.mem_cons_self
    obtain ⟨ρ2, e3, h2⟩ := for_inv I (xs := xs) (fun ρ hρ y hy => hb ρ hρ y (List.mem_cons_of_mem _ hy)) h'
    refine ⟨ρ2, ?_, h2⟩
    unfold sForL
    rw [e1]
    simp only [e2, bnd_ret, sLoop_nx, e3]
/-- a loop over encoded items that steps a state -/
theorem for_st {α σ : Type} {enc : α → D} {tg : Tg} {body : DS} (I : σ → Env → Prop) (step : σ → α → σ) : ∀ {xs : List α} {s : σ} {ρ : Env}, (∀ s ρ, I s ρ → ∀ x ∈ xs, ∃ ρ1, bindE tg (enc x) ρ = some ρ1 ∧ ∃ ρ', body ρ1 = ret (.nx ρ') ∧ I (step s x) ρ') → I s ρ → ∃ ρ', sForL tg body (xs.map enc) ρ = ret (.nx ρ') ∧ I (xs.foldl step s) ρ'
  | [], s, ρ, _, h => ⟨ρ, rfl, h⟩
  | x :: xs, s, ρ, hb, h => by
    obtain ⟨ρ1, e1, ρ', e2, h'⟩ := hb s ρ h x List.mem_cons_self
    obtain ⟨ρ2, e3, h2⟩ := for_st I step (xs := xs) (fun s ρ hρ y hy => hb s ρ hρ y (List.mem_cons_of_mem _ hy)) h'
    refine ⟨ρ2, ?_, h2⟩
    rw [List.map_cons]
    unfold sForL
    rw [e1]
    simp only [e2, bnd_ret, sLoop_nx, e3]
/-- a loop that ends at the first item that answers -/
theorem for_find {α : Type} {enc : α → D} {tg : Tg} {body : DS} (I : Env → Prop) (ans : α → Option D) : ∀ {xs : List α} {ρ : Env}, (∀ ρ, I ρ → ∀ x ∈ xs, ∃ ρ1, bindE tg (enc x) ρ = some ρ1 ∧ match ans x with
    | some d => body ρ1 = ret (.rt d)
    | none => ∃ ρ', body ρ1 = ret (.nx ρ') ∧ I ρ') → I ρ → match xs.findSome? ans with
    | some d => sForL tg body (xs.map enc) ρ = ret (.rt d)
    | none => ∃ ρ', sForL tg body (xs.map enc) ρ = ret (.nx ρ') ∧ I ρ'
  | [], ρ, _, h => ⟨ρ, rfl, h⟩
  | x :: xs, ρ, hb, h => by
    obtain ⟨ρ1, e1, q⟩ := hb ρ h x List.mem_cons_self
    rw [List.findSome?_cons]
    cases ea : ans x with
    | some d =>
      simp only [ea] at q ⊢
      rw [List.map_cons]
      unfold sForL
      rw [e1]
      simp only [q, bnd_ret, sLoop_rt]
    | none =>
      simp only [ea] at q ⊢
      obtain ⟨ρ', e2, h'⟩ := q
      have r := for_find I ans (xs := xs) (fun ρ hρ y hy => hb ρ hρ y (List.mem_cons_of_mem _ hy)) h'
      have e3 : sForL tg body ((x :: xs).map enc) ρ = sForL tg body (xs.map enc) ρ' := by
        rw [List.map_cons]
        conv => lhs; unfold sForL
        rw [e1]
        simp only [e2, bnd_ret, sLoop_nx]
      cases ef : xs.findSome? ans with
      | some d => simp only [ef] at r ⊢; rw [e3, r]
      | none => simp only [ef] at r ⊢; rw [e3]; exact r
end Kw
set_option maxHeartbeats 1000000
namespace Kw
open PySem PySem.Spec PyProof.Rows

/-! ### webs -/
def pN (p : Nat × Nat) : D := tN [p.1, p.2]
def PR (p q : Nat × Nat) : Prop := p.1 < q.1 ∨ (p.1 = q.1 ∧ p.2 < q.2)
structure PairsOk (n : Nat) (ps : List (Nat × Nat)) : Prop where
  lt : ∀ p ∈ ps, p.1 < p.2 ∧ p.2 < n
  srt : ps.Pairwise PR
  len : ps.length ≤ 1000
def adj (ps : List (Nat × Nat)) (a b : Nat) : Bool := decide ((a, b) ∈ ps) || decide ((b, a) ∈ ps)
def near (n : Nat) (ps : List (Nat × Nat)) (i : Nat) : List Nat := canon n (adj ps i)
def ball (n : Nat) (ps : List (Nat × Nat)) (i : Nat) : List Nat := canon n fun j => adj ps i j || decide (j = i)
def W (n : Nat) (ps : List (Nat × Nat)) : D := objD "Web" [(.str "many", nI n), (.str "pairs", .tuple (ps.map pN)), (.str "rows", .tuple ((List.range n).map fun i => tN (near n ps i)))]
theorem W_many {n : Nat} {ps : List (Nat × Nat)} : fldM "many" (W n ps) = ret (nI n) := by kernel_rfl
theorem W_rows {n : Nat} {ps : List (Nat × Nat)} : fldM "rows" (W n ps) = ret (.tuple ((List.range n).map fun i => tN (near n ps i))) := by kernel_rfl
theorem adj_comm {ps : List (Nat × Nat)} {a b : Nat} : adj ps a b = adj ps b a := Bool.or_comm _ _
theorem isi_int {i : Int} : isiM "int" (.int i) = ret (.bool true) := by rfl
theorem isi_bool_int {i : Int} : isiM "bool" (.int i) = ret (.bool false) := by rfl
theorem isi_int_bool {i : Bool} : isiM "int" (.bool i) = ret (.bool true) := by rfl
theorem isi_bool_bool {i : Bool} : isiM "bool" (.bool i) = ret (.bool true) := by rfl
theorem isi_tuple {l : List D} : isiM "tuple" (.tuple l) = ret (.bool true) := by rfl
theorem isi_tuple_l {l : List D} : isiM "tuple" (.list l) = ret (.bool false) := by rfl
theorem isi_tuple_n : isiM "tuple" .none = ret (.bool false) := by rfl
theorem is_count_nI (n : Nat) : m_is_count [nI n] = ret (.bool true) := by
  unfold m_is_count
  rw [def1]
  have : decide ((0 : Int) ≤ n) = true := decide_eq_true (by omega)
  simp [s_is_count, nI, isi_int, isi_bool_int, ge_int, this]
theorem is_count_bool (b : Bool) : m_is_count [.bool b] = ret (.bool false) := by
  unfold m_is_count
  rw [def1]
  simp [s_is_count, isi_int_bool, isi_bool_bool]
theorem row_at {n i : Nat} {f : Nat → D} (h : i < n) : ((List.range n).map f)[i]? = some (f i) := by
  rw [List.getElem?_map, List.getElem?_range h]; rfl
theorem adj_irr {n i : Nat} {ps : List (Nat × Nat)} (h : PairsOk n ps) : adj ps i i = false := by
  unfold adj
  rw [Bool.or_self]
  exact decide_eq_false fun q => by have := (h.lt _ q).1; simp at this
theorem app_tN {l m : List Nat} (h : l.length + m.length ≤ 16777216) : binM .Add (tN l) (tN m) = ret (tN (l ++ m)) := by
  show addM (.tuple _) (.tuple _) = _
  have h2 : okLen ((l.map nI).length + (m.map nI).length) = true := decide_eq_true (by simpa using h)
  simp only [addM]
  rw [if_pos h2, tN, List.map_append]
theorem canon_len {n : Nat} {P : Nat → Bool} : (canon n P).length ≤ n := by
  have := List.length_filter_le P (List.range n)
  simpa [canon] using this
theorem ball_mem {n i : Nat} {ps : List (Nat × Nat)} : ∀ x, x ∈ near n ps i ++ [i] → x < n → x ∈ ball n ps i := fun x hx hn => by
  simp [near, ball, canon_mem] at hx ⊢
  exact ⟨hn, hx.imp (fun h => h.2) id⟩
theorem near_i_nd {n i : Nat} {ps : List (Nat × Nat)} (hp : PairsOk n ps) : (near n ps i ++ [i]).Nodup := by
  refine List.nodup_append.mpr ⟨canon_lt.imp fun h e => absurd (e ▸ h) (Nat.lt_irrefl _), by simp, fun a ha b hb e => ?_⟩
  simp at hb
  subst hb; subst e
  have := (canon_mem.mp ha).2
  rw [adj_irr hp] at this
  cases this
theorem near_i_mem {n i : Nat} {ps : List (Nat × Nat)} (h : i < n) : ∀ x, x ∈ near n ps i ++ [i] ↔ x < n ∧ (adj ps i x || decide (x = i)) = true := fun x => by
  simp [near, canon_mem]
  constructor
  · rintro (⟨a, b⟩ | rfl)
    · exact ⟨a, .inl b⟩
    · exact ⟨h, .inr rfl⟩
  · rintro ⟨a, b | b⟩
    · exact .inl ⟨a, b⟩
    · exact .inr b
theorem ball_r {n i : Nat} {ps : List (Nat × Nat)} (h : i < n) (hn : n ≤ 100) (hp : PairsOk n ps) : m_Web_ball [W n ps, nI i] = ret (tN (ball n ps i)) := by
  unfold m_Web_ball
  rw [def2]
  have e1 : PyData.tuple [nI i] = tN [i] := rfl
  have e2 := app_tN (l := near n ps i) (m := [i]) (by have := canon_len (n := n) (P := adj ps i); simp [near]; omega)
  have e3 := sorted_canon (d := tN (near n ps i ++ [i])) rfl (near_i_nd hp) (near_i_mem h)
  simp [s_Web_ball, W_rows, ix_t (row_at h), e1, e2, e3]
  rfl

/-! ### sets -/
theorem common_r (a b : List Nat) : m_common_set [tN a, tN b] = ret (tN (a.filter fun x => decide (x ∈ b))) := by
  unfold m_common_set
  rw [def2]
  have e := comp_f (vs := [2]) (tg := .nm 2) (t := tBool (eBin (cmpM .In) (eBor 2) (eBor 1))) (e := eVar 2) (it := iSeq (eBor 0)) (ρ := [.val (tN a), .val (tN b), .un]) (enc := nI) (p := fun x => decide (x ∈ b)) (g := nI) (xs := a) (by simp) (fun x hx => by simp)
  simp [s_common_set, e]
  rfl
end Kw
set_option maxHeartbeats 1000000
namespace Kw
open PySem PySem.Spec PyProof.Rows

/-! ### loops, with what lies behind -/
theorem for_pre {α : Type} {enc : α → D} {tg : Tg} {body : DS} (I : List α → Env → Prop) {xs : List α} {ρ : Env} (hb : ∀ pre x suf ρ, xs = pre ++ x :: suf → I pre ρ → ∃ ρ1, bindE tg (enc x) ρ = some ρ1 ∧ ∃ ρ', body ρ1 = ret (.nx ρ') ∧ I (pre ++ [x]) ρ') (h : I [] ρ) : ∃ ρ', sForL tg body (xs.map enc) ρ = ret (.nx ρ') ∧ I xs ρ' := by
  have go : ∀ (suf pre : List α) (ρ : Env), xs = pre ++ suf → I pre ρ → ∃ ρ', sForL tg body (suf.map enc) ρ = ret (.nx ρ') ∧ I xs ρ' := fun suf => by
    induction suf with
    | nil => intro pre ρ e h; exact ⟨ρ, rfl, by rw [e, List.append_nil]; exact h⟩
    | cons x suf ih =>
      intro pre ρ e h
      obtain ⟨ρ1, e1, ρ', e2, h'⟩ := hb pre x suf ρ e h
      obtain ⟨ρ2, e3, h2⟩ := ih (pre ++ [x]) ρ' (by rw [e]; simp) h'
      refine ⟨ρ2, ?_, h2⟩
      rw [List.map_cons]
      unfold sForL
      rw [e1]
      simp only [e2, bnd_ret, sLoop_nx, e3]
  exact go xs [] ρ rfl h
theorem for_search {α : Type} {enc : α → D} {tg : Tg} {body : DS} (I : List α → Env → Prop) (Pd : α → D → Prop) (Rn : α → Prop) {xs : List α} {ρ : Env} (hb : ∀ pre x suf ρ, xs = pre ++ x :: suf → I pre ρ → ∃ ρ1, bindE tg (enc x) ρ = some ρ1 ∧ ((∃ d, body ρ1 = ret (.rt d) ∧ Pd x d) ∨ ∃ ρ', body ρ1 = ret (.nx ρ') ∧ I (pre ++ [x]) ρ' ∧ Rn x)) (h : I [] ρ) :
    (∃ pre x suf d, xs = pre ++ x :: suf ∧ (∀ y ∈ pre, Rn y) ∧ sForL tg body (xs.map enc) ρ = ret (.rt d) ∧ Pd x d) ∨ ∃ ρ', sForL tg body (xs.map enc) ρ = ret (.nx ρ') ∧ I xs ρ' ∧ ∀ x ∈ xs, Rn x := by
  have go : ∀ (suf pre : List α) (ρ : Env), xs = pre ++ suf → I pre ρ → (∀ y ∈ pre, Rn y) → (∃ pre x suf' d, xs = pre ++ x :: suf' ∧ (∀ y ∈ pre, Rn y) ∧ sForL tg body (suf.map enc) ρ = ret (.rt d) ∧ Pd x d) ∨ ∃ ρ', sForL tg body (suf.map enc) ρ = ret (.nx ρ') ∧ I xs ρ' ∧ ∀ x ∈ xs, Rn x := fun suf => by
    induction suf with
    | nil => intro pre ρ e h hR; exact .inr ⟨ρ, rfl, by rw [e, List.append_nil]; exact h, by rw [e, List.append_nil]; exact hR⟩
    | cons x suf ih =>
      intro pre ρ e h hR
      obtain ⟨ρ1, e1, q⟩ := hb pre x suf ρ e h
      rcases q with ⟨d, e2, p⟩ | ⟨ρ', e2, h', r⟩
      · refine .inl ⟨pre, x, suf, d, e, hR, ?_, p⟩
        rw [List.map_cons]
        unfold sForL
        rw [e1]
        simp only [e2, bnd_ret, sLoop_rt]
      · have e3 : sForL tg body ((x :: suf).map enc) ρ = sForL tg body (suf.map enc) ρ' := by
          rw [List.map_cons]
          conv => lhs; unfold sForL
          rw [e1]
          simp only [e2, bnd_ret, sLoop_nx]
        rw [e3]
        refine ih (pre ++ [x]) ρ' (by rw [e]; simp) h' fun y hy => ?_
        rcases List.mem_append.mp hy with hy | hy
        · exact hR y hy
        · simp at hy; subst hy; exact r
  exact go xs [] ρ rfl h fun _ z => by cases z

/-! ### rows without repeats -/
theorem nodup_len {α : Type} [DecidableEq α] : ∀ {l m : List α}, l.Nodup → (∀ x ∈ l, x ∈ m) → l.length ≤ m.length
  | [], _, _, _ => Nat.zero_le _
  | a :: l, m, nd, h => by
    obtain ⟨na, nd'⟩ := List.nodup_cons.mp nd
    have ha := h a List.mem_cons_self
    have := nodup_len (l := l) (m := m.erase a) nd' fun x hx => (List.mem_erase_of_ne fun (e : x = a) => na (by rw [← e]; exact hx)).mpr (h x (List.mem_cons_of_mem _ hx))
    rw [List.length_erase_of_mem ha] at this
    have := List.length_pos_of_mem ha
    simp
    omega
theorem nodup_lt {l : List Nat} {n : Nat} (nd : l.Nodup) (h : ∀ x ∈ l, x < n) : l.length ≤ n := by
  have := nodup_len (m := List.range n) nd fun x hx => List.mem_range.mpr (h x hx)
  simpa using this
theorem canon_nd {n : Nat} {P : Nat → Bool} : (canon n P).Nodup := canon_lt.imp fun h e => absurd (e ▸ h) (Nat.lt_irrefl _)

/-! ### the set of states -/
@[simp] theorem bodyD_nm {i : Nat} {t : DT} {ek ev : DE} {ρ : Env} {x : D} {acc : List (D × D)} : bodyD (.nm i) t ek ev ρ x acc = bnd (t (ρ.set i (.val x))) fun b => if b = true then bnd (ek (ρ.set i (.val x))) fun k => bnd (ev (ρ.set i (.val x))) fun v => (if (keyK k).isSome = true then ret (putD acc k v) else bad) else ret acc := rfl
@[simp] theorem key_nI {n : Nat} : (keyK (nI n)).isSome = true := rfl
theorem dc_r {xs : List Nat} {vs : List Nat} {tg : Tg} {t : DT} {ek ev : DE} {it : DA} {ρ : Env} (hi : it ρ = ret (xs.map nI)) (h : ∀ x ∈ xs, ∀ a, bodyD tg t ek ev (wipeE ρ vs) (nI x) (encK a) = ret (encK (addS a x))) : eDc vs tg t ek ev it ρ = ret (encK (addSs [] xs)) := by
  unfold eDc
  rw [hi, bnd_ret, show ([] : List (D × D)) = encK [] from rfl, compD_set h, nox_ret]
theorem items_dic {l : List Nat} : itemsD (dicD (encK l)) = some (l.map nI) := by
  show some (keysD (encK l)) = _
  rw [encK_keys]
theorem dictM_r {l : List Nat} : dictM (.list (l.map fun x => PyData.tuple [nI x, PyData.bool true])) = ret (encK (addSs [] l)) := by
  simp only [dictM, pairs_encK]
  rw [show ([] : List (D × D)) = encK [] from rfl, puts_encK]
theorem as_set_d {d : D} {l : List Nat} {n : Nat} (hd : seqM d = ret (l.map nI)) (hl : ∀ x ∈ l, x < n) : m_as_set [d] = ret (tN (canon n fun x => decide (x ∈ l))) := by
  unfold m_as_set
  rw [def1]
  have e := sorted_canon (d := dicD (encK (addSs [] l))) (n := n) (P := fun x => decide (x ∈ l)) items_dic (addSs_nd List.nodup_nil) (fun x => by simp [addSs_mem]; exact fun h => hl x h)
  simp [s_as_set]
  rw [comp_a (enc := nI) (xs := l) (g := fun x => PyData.tuple [nI x, PyData.bool true])]
  · simp [dictM_r, e]
    rfl
  · simp [hd]
  · intro x hx
    simp
theorem as_set_r {l : List Nat} {n : Nat} (hl : ∀ x ∈ l, x < n) : m_as_set [tN l] = ret (tN (canon n fun x => decide (x ∈ l))) := as_set_d (by simp) hl

/-! ### families -/
def part (F : List (List Nat)) (k : Nat) : List Nat := (F[k]?).getD []
theorem part_at {F : List (List Nat)} {k : Nat} (h : k < F.length) : F[k]? = some (part F k) := by
  unfold part
  rw [List.getElem?_eq_getElem h]
  rfl
structure FamOk (n : Nat) (F : List (List Nat)) : Prop where
  lt : ∀ p ∈ F, ∀ x ∈ p, x < n
  nd : ∀ p ∈ F, p.Nodup
  len : F.length ≤ 1000
  n : n ≤ 100
theorem FamOk.plt {n : Nat} {F : List (List Nat)} (h : FamOk n F) {k x : Nat} (hk : k < F.length) (hx : x ∈ part F k) : x < n := h.lt _ (List.mem_of_getElem? (part_at hk)) x hx
theorem FamOk.pnd {n : Nat} {F : List (List Nat)} (h : FamOk n F) {k : Nat} (hk : k < F.length) : (part F k).Nodup := h.nd _ (List.mem_of_getElem? (part_at hk))
def hitB (s : List Nat) (p : List Nat) : Bool := p.any fun x => decide (x ∈ s)
theorem hitB_iff {s p : List Nat} : hitB s p = true ↔ ∃ x ∈ p, x ∈ s := by simp [hitB]
/-! #### greedy parts -/
theorem app_r {ρ : Env} {i : Nat} {ds : List D} {e : DE} {v : D} (h : ρ[i]? = some (.own (.list ds))) (he : e ρ = ret v) (hl : ds.length < 16777216) : sApp i e ρ = ret (.nx (ρ.set i (.own (.list (ds ++ [v]))))) := by
  unfold sApp
  rw [h]
  simp only [he, bnd_ret]
  rw [if_pos hl]
theorem upd_r {ρ : Env} {i : Nat} {l m : List Nat} {e : DK} (h : ρ[i]? = some (.own (dicD (encK l)))) (he : e ρ = ret (encK m)) (hl : l.length + m.length ≤ 16777216) : sUpd i e ρ = ret (.nx (ρ.set i (.own (dicD (encK (addSs l m)))))) := by
  unfold sUpd
  rw [h]
  show (if allK (encK l) = true then bnd (e ρ) _ else bad) = _
  rw [if_pos (encK_all l), he, bnd_ret, if_pos (by simpa [encK] using hl), puts_encK]
def keyF (F : List (List Nat)) (k : Nat) : D := .tuple [.int (part F k).length, .int k]
theorem lenKey_r {F : List (List Nat)} {ρ : Env} {k : Nat} (h : ρ[0]? = some (.val (tT F))) (hk : k < F.length) : lenKey 0 ρ (nI k) = some (keyF F k) := by
  have e : (F.map tN)[(k : Int).toNat]? = some (tN (part F k)) := by rw [Int.toNat_natCast, List.getElem?_map, part_at hk]; rfl
  have e2 : (0 : Int) ≤ k := by omega
  simp [lenKey, nI, h, tT, seqD, e2]
  rw [part_at hk]
  simp [tN, keyF]
theorem keysB {F : List (List Nat)} {l : List Nat} {y : D} (h : y ∈ l.map (keyF F)) : Ok 1 y ∧ tupConsB y = true ∧ ∀ z ∈ l.map (keyF F), PySem.W.alike y z = true := by
  obtain ⟨k, _, rfl⟩ := List.mem_map.mp h
  refine ⟨ok_tup fun d hd => ?_, rfl, fun z hz => ?_⟩
  · simp at hd
    rcases hd with rfl | rfl <;> exact ok_int _
  · obtain ⟨j, _, rfl⟩ := List.mem_map.mp hz
    simp [keyF, PySem.W.alike, PySem.W.alikeAll]
theorem alikeB_keys {F : List (List Nat)} {l : List Nat} : alikeB (l.map (keyF F)) = true := by
  unfold alikeB
  refine List.all_eq_true.mpr fun y hy => ?_
  obtain ⟨⟨o1, o2⟩, _, a⟩ := keysB hy
  rw [o1, Bool.true_and, Bool.and_eq_true]
  exact ⟨decide_eq_true (by omega), List.all_eq_true.mpr a⟩
def decN : D → Nat
  | .int i => i.toNat
  | _ => 0
theorem dec_nI (n : Nat) : decN (nI n) = n := by simp [decN, nI]
theorem perm_dec {ds : List D} {l : List Nat} (h : ds.Perm (l.map nI)) : ∃ l' : List Nat, l'.Perm l ∧ ds = l'.map nI := by
  refine ⟨ds.map decN, ?_, ?_⟩
  · have := h.map decN
    rw [List.map_map] at this
    have e : l.map (decN ∘ nI) = l := (List.map_congr_left (f := decN ∘ nI) (g := id) fun a _ => dec_nI a).trans (List.map_id l)
    rwa [e] at this
  · rw [List.map_map]
    refine ((List.map_congr_left (f := nI ∘ decN) (g := id) fun a ha => ?_).trans (List.map_id ds)).symm
    obtain ⟨k, _, rfl⟩ := List.mem_map.mp (h.mem_iff.mp ha)
    simp [dec_nI]
theorem keyAts {F : List (List Nat)} {ρ : Env} {l : List Nat} (h : ρ[0]? = some (.val (tT F))) (hl : ∀ k ∈ l, k < F.length) : (l.map nI).map (keyAt (lenKey 0) ρ) = l.map (keyF F) := by
  rw [List.map_map]
  refine List.map_congr_left fun k hk => ?_
  show (lenKey 0 ρ (nI k)).getD .none = _
  rw [lenKey_r h (hl k hk)]
  rfl
theorem keySome {F : List (List Nat)} {ρ : Env} {l : List Nat} (h : ρ[0]? = some (.val (tT F))) (hl : ∀ k ∈ l, k < F.length) : ((l.map nI).all fun y => (lenKey 0 ρ y).isSome) = true := by
  refine List.all_eq_true.mpr fun y hy => ?_
  obtain ⟨k, hk, rfl⟩ := List.mem_map.mp hy
  rw [lenKey_r h (hl k hk)]
  rfl
theorem sortLen_r {F : List (List Nat)} {ρ : Env} {l : List Nat} (h : ρ[0]? = some (.val (tT F))) (hl : ∀ k ∈ l, k < F.length) : ∃ l' : List Nat, l'.Perm l ∧ sortKM (lenKey 0) ρ (tN l) = ret (l'.map nI) := by
  obtain ⟨l', p, e⟩ := perm_dec (l := l) (ds := sortKey (keyAt (lenKey 0) ρ) (l.map nI)) (List.mergeSort_perm _ _)
  refine ⟨l', p, ?_⟩
  rw [← e]
  show (if _ then _ else _) = _
  rw [if_pos]
  refine ⟨keySome h hl, ?_⟩
  rw [keyAts h hl]
  unfold sortB
  rw [alikeB_keys, Bool.true_and, Bool.or_eq_true]
  exact .inl (List.all_eq_true.mpr fun y hy => (keysB hy).2.1)
theorem minKey_in {kf : D → D} : ∀ {ys : List D} {y : D}, minKey kf y ys = y ∨ minKey kf y ys ∈ ys
  | [], y => .inl rfl
  | z :: ys, y => by
    unfold minKey
    rw [List.foldl_cons]
    have := minKey_in (kf := kf) (ys := ys) (y := if PySem.W.dataLt (kf z) (kf y) = true then z else y)
    unfold minKey at this
    rcases this with e | e
    · rw [e]
      split
      · exact .inr List.mem_cons_self
      · exact .inl rfl
    · exact .inr (List.mem_cons_of_mem _ e)
theorem minLen_r {F : List (List Nat)} {ρ : Env} {l : List Nat} (h : ρ[0]? = some (.val (tT F))) (hl : ∀ k ∈ l, k < F.length) (hn : l ≠ []) : ∃ k ∈ l, minKM (lenKey 0) ρ (tN l) = ret (nI k) := by
  cases l with
  | nil => exact (hn rfl).elim
  | cons a r =>
    have e : minKM (lenKey 0) ρ (tN (a :: r)) = ret (minKey (keyAt (lenKey 0) ρ) (nI a) (r.map nI)) := by
      show (if _ then _ else _) = _
      rw [if_pos]
      refine ⟨keySome h hl, ?_, ?_⟩
      · rw [show (nI a :: r.map nI) = (a :: r).map nI from rfl, keyAts h hl]
        exact alikeB_keys
      · show isNon ((lenKey 0 ρ (nI a)).getD .none) = false
        rw [lenKey_r h (hl a List.mem_cons_self)]
        rfl
    have m : minKey (keyAt (lenKey 0) ρ) (nI a) (r.map nI) ∈ (a :: r).map nI := by
      rcases minKey_in (kf := keyAt (lenKey 0) ρ) (ys := r.map nI) (y := nI a) with q | q
      · rw [q]; exact List.mem_cons_self
      · exact List.mem_cons_of_mem _ q
    obtain ⟨k, hk, q⟩ := List.mem_map.mp m
    exact ⟨k, hk, by rw [e, q]⟩
def gstep (F : List (List Nat)) (s : List Nat × List Nat) (k : Nat) : List Nat × List Nat := if (hitB s.2 (part F k)) = true then s else (s.1 ++ [k], addSs s.2 (part F k))
def greedy (F : List (List Nat)) (l : List Nat) : List Nat × List Nat := l.foldl (gstep F) ([], [])
structure GrOk (n : Nat) (F : List (List Nat)) (pre : List Nat) (s : List Nat × List Nat) : Prop where
  len : s.1.length ≤ pre.length
  sub : ∀ k ∈ s.1, k ∈ pre
  tk : ∀ x, x ∈ s.2 ↔ ∃ k ∈ s.1, x ∈ part F k
  nd : s.2.Nodup
  ap : s.1.Pairwise fun a b => ∀ x ∈ part F a, x ∉ part F b
  ne : pre ≠ [] → s.1 ≠ []
theorem gr_step {n : Nat} {F : List (List Nat)} {pre : List Nat} {s : List Nat × List Nat} {k : Nat} (h : GrOk n F pre s) : GrOk n F (pre ++ [k]) (gstep F s k) := by
  unfold gstep
  by_cases c : hitB s.2 (part F k) = true
  · rw [if_pos c]
    refine ⟨?_, fun j hj => List.mem_append_left _ (h.sub j hj), h.tk, h.nd, h.ap, fun _ => ?_⟩
    · have := h.len; simp; omega
    · obtain ⟨x, hx, hs⟩ := hitB_iff.mp c
      obtain ⟨j, hj, _⟩ := (h.tk x).mp hs
      intro e; rw [e] at hj; cases hj
  · rw [if_neg c]
    have c' : ∀ x ∈ part F k, x ∉ s.2 := fun x hx hs => c (hitB_iff.mpr ⟨x, hx, hs⟩)
    refine ⟨by have := h.len; simp; omega, fun j hj => ?_, fun x => ?_, addSs_nd h.nd, ?_, fun _ => by simp⟩
    · simp at hj ⊢
      exact hj.imp (h.sub j) id
    · rw [addSs_mem, h.tk]
      constructor
      · rintro (⟨j, hj, q⟩ | q)
        · exact ⟨j, by simp [hj], q⟩
        · exact ⟨k, by simp, q⟩
      · rintro ⟨j, hj, q⟩
        simp at hj
        rcases hj with hj | rfl
        · exact .inl ⟨j, hj, q⟩
        · exact .inr q
    · refine List.pairwise_append.mpr ⟨h.ap, by simp, fun a ha b hb x hx => ?_⟩
      simp at hb
      subst hb
      exact fun q => c' x q ((h.tk x).mpr ⟨a, ha, hx⟩)
theorem greedy_app {F : List (List Nat)} {l : List Nat} {k : Nat} : greedy F (l ++ [k]) = gstep F (greedy F l) k := by simp [greedy]
theorem greedy_ok {n : Nat} {F : List (List Nat)} (l : List Nat) : GrOk n F l (greedy F l) := by
  have go : ∀ (suf pre : List Nat) (s : List Nat × List Nat), GrOk n F pre s → GrOk n F (pre ++ suf) (suf.foldl (gstep F) s) := fun suf => by
    induction suf with
    | nil => intro pre s h; rw [List.append_nil]; exact h
    | cons k suf ih =>
      intro pre s h
      have := ih (pre ++ [k]) _ (gr_step (k := k) h)
      rwa [List.append_assoc] at this
  exact go l [] ([], []) ⟨Nat.le_refl _, (fun _ h => by cases h), (fun x => by simp), List.nodup_nil, List.Pairwise.nil, fun h => (h rfl).elim⟩
end Kw
set_option maxHeartbeats 1000000
namespace Kw
open PySem PySem.Spec PyProof.Rows

section
variable {f g : DS} {ρ ρ' : Env} {d : D}
theorem seq_nx (ρ' : Env) (h : f ρ = ret (.nx ρ')) : sSeq f g ρ = g ρ' := by rw [sSeq_r, h]; rfl
theorem seq_rt (d : D) (h : f ρ = ret (.rt d)) : sSeq f g ρ = ret (.rt d) := by rw [sSeq_r, h]; rfl
theorem if_t {t : DT} {a b : DS} (h : t ρ = ret true) : sIf t a b ρ = a ρ := by rw [sIf_r, h]; rfl
theorem if_f {t : DT} {a b : DS} (h : t ρ = ret false) : sIf t a b ρ = b ρ := by rw [sIf_r, h]; rfl
end
@[simp] theorem t0 : PyData.tuple [] = tN [] := rfl
theorem l0 : PyData.list [] = lN [] := rfl
theorem ne_lN {a b : List Nat} : cmpM .NotEq (lN a) (lN b) = ret (.bool (!decide (a = b))) := by rw [ne_ok (ok_lN a) (ok_lN b), eqv_lN]
theorem ne_lT {a b : List (List Nat)} : cmpM .NotEq (lT a) (lT b) = ret (.bool (!decide (a = b))) := by rw [ne_ok (ok_lT a) (ok_lT b), eqv_lT]
theorem yes_yes : cmpM .Eq (.str "yes") (.str "yes") = ret (.bool true) := by kernel_rfl
theorem no_yes : cmpM .Eq (.str "no") (.str "yes") = ret (.bool false) := by kernel_rfl
theorem yes_no : cmpM .Eq (.str "yes") (.str "no") = ret (.bool false) := by kernel_rfl
theorem no_no : cmpM .Eq (.str "no") (.str "no") = ret (.bool true) := by kernel_rfl
@[simp] theorem eSortK_r {kf : Env → D → Option D} {e : DE} {ρ : Env} : eSortK kf e ρ = bnd (e ρ) (sortKM kf ρ) := rfl
@[simp] theorem eMinK_r {kf : Env → D → Option D} {e : DE} {ρ : Env} : eMinK kf e ρ = bnd (e ρ) (minKM kf ρ) := rfl
theorem map_lN (l : List Nat) : PyData.list (l.map nI) = lN l := rfl
theorem map_tN (l : List Nat) : PyData.tuple (l.map nI) = tN l := rfl
theorem map_tT (l : List (List Nat)) : PyData.tuple (l.map tN) = tT l := rfl
theorem map_lT (l : List (List Nat)) : PyData.list (l.map tN) = lT l := rfl

/-! ### hits -/
def Hits (F : List (List Nat)) (left S : List Nat) : Prop := ∀ k ∈ left, hitB S (part F k) = true
def Apart (F : List (List Nat)) (left : List Nat) (m : Nat) : Prop := ∃ G : List Nat, G.length = m ∧ (∀ k ∈ G, k ∈ left) ∧ (G.Pairwise fun a b => ∀ x ∈ part F a, x ∉ part F b) ∧ (left ≠ [] → G ≠ [])
theorem apart_le {F : List (List Nat)} : ∀ {G S : List Nat}, (G.Pairwise fun a b => ∀ x ∈ part F a, x ∉ part F b) → Hits F G S → G.length ≤ S.length
  | [], _, _, _ => Nat.zero_le _
  | k :: G, S, hp, h => by
    obtain ⟨h1, h2⟩ := List.pairwise_cons.mp hp
    obtain ⟨x, hx, hs⟩ := hitB_iff.mp (h k List.mem_cons_self)
    have r := apart_le (G := G) (S := S.filter fun y => !decide (y = x)) h2 fun j hj => by
      obtain ⟨y, hy, hys⟩ := hitB_iff.mp (h j (List.mem_cons_of_mem _ hj))
      refine hitB_iff.mpr ⟨y, hy, List.mem_filter.mpr ⟨hys, ?_⟩⟩
      have : y ≠ x := fun e => h1 j hj x hx (e ▸ hy)
      simp [this]
    have l : (S.filter fun y => !decide (y = x)).length < S.length := List.length_filter_lt_length_iff_exists.mpr ⟨x, hs, by simp⟩
    simp
    omega
theorem Apart.le {F : List (List Nat)} {left S : List Nat} {m : Nat} (h : Apart F left m) (hS : Hits F left S) : m ≤ S.length := by
  obtain ⟨G, rfl, h1, h2, _⟩ := h
  exact apart_le h2 fun k hk => hS k (h1 k hk)
theorem hitB_tk {F : List (List Nat)} {l : List Nat} {k : Nat} : ((part F k).any fun x => decide (x ∈ (greedy F l).2)) = hitB (greedy F l).2 (part F k) := rfl
end Kw
set_option maxHeartbeats 1000000
namespace Kw
open PySem PySem.Spec PyProof.Rows

theorem nI_sub {s : Nat} (h : 1 ≤ s) : PyData.int ((s : Int) - 1) = nI (s - 1) := by
  unfold nI
  congr 1
  omega
theorem ix0 {a : D} {l : List D} : ixM (.tuple (a :: l)) (.int 0) = ret a := ix_t (i := 0) rfl
theorem ix1 {a b : D} {l : List D} : ixM (.tuple (a :: b :: l)) (.int 1) = ret b := ix_t (i := 1) rfl
theorem ixN0 {a : Nat} {l : List Nat} : ixM (lN (a :: l)) (.int 0) = ret (nI a) := ix_l (i := 0) rfl
@[simp] theorem any_isEmpty {l : List Nat} : ((l.map nI).isEmpty) = l.isEmpty := by cases l <;> rfl
theorem len_canon_le {n : Nat} {l : List Nat} : (canon n fun x => decide (x ∈ l)).length ≤ l.length := nodup_len canon_nd fun x hx => of_decide_eq_true (canon_mem.mp hx).2
end Kw
set_option maxHeartbeats 1000000
namespace Kw
open PySem PySem.Spec PyProof.Rows

def HitsAll (F : List (List Nat)) (S : List Nat) : Prop := ∀ p ∈ F, hitB S p = true
theorem hitsAll_iff {F : List (List Nat)} {S : List Nat} : HitsAll F S ↔ Hits F (List.range F.length) S := by
  constructor
  · intro h k hk
    exact h _ (List.mem_of_getElem? (part_at (List.mem_range.mp hk)))
  · intro h p hp
    obtain ⟨k, hk, e⟩ := List.mem_iff_getElem.mp hp
    have := h k (List.mem_range.mpr hk)
    unfold part at this
    rw [List.getElem?_eq_getElem hk, e] at this
    exact this
theorem hitB_mono {S S' p : List Nat} (h : ∀ x ∈ p, x ∈ S → x ∈ S') (e : hitB S p = true) : hitB S' p = true := by
  obtain ⟨x, hx, hs⟩ := hitB_iff.mp e
  exact hitB_iff.mpr ⟨x, hx, h x hx hs⟩
theorem range_lt {m : Nat} : ∀ k ∈ List.range m, k < m := fun k hk => List.mem_range.mp hk
structure IsTau (n : Nat) (F : List (List Nat)) (τ : Nat) : Prop where
  ex : ∃ S : List Nat, HitsAll F S ∧ S.length ≤ τ ∧ ∀ x ∈ S, x < n
  le : ∀ S, HitsAll F S → τ ≤ S.length
theorem full_hits {n : Nat} {F : List (List Nat)} (hF : FamOk n F) (hne : ∀ p ∈ F, p ≠ []) : HitsAll F (List.range n) := fun p hp => by
  cases p with
  | nil => exact (hne _ hp rfl).elim
  | cons x r => exact hitB_iff.mpr ⟨x, List.mem_cons_self, List.mem_range.mpr (hF.lt _ hp x List.mem_cons_self)⟩
/-- the order of rows of one length -/
def lexle : List Nat → List Nat → Prop
  | [], _ => True
  | _ :: _, [] => False
  | x :: xs, y :: ys => x < y ∨ (x = y ∧ lexle xs ys)
structure Good (F : List (List Nat)) (st chosen : List Nat) (s : Nat) (ext : List Nat) : Prop where
  inc : (chosen ++ ext).Pairwise (· < ·)
  sub : ∀ x ∈ ext, x ∈ st
  len : ext.length = s
  hit : HitsAll F (chosen ++ ext)
theorem isnot_t {l : List Nat} : cmpM .IsNot (tN l) .none = ret (.bool true) := rfl
theorem isnot_n : cmpM .IsNot .none .none = ret (.bool false) := rfl
theorem is_nI {l : Nat} : cmpM .Is (nI l) .none = ret (.bool false) := rfl
theorem neg1 : negM (.int 1) = ret (.int (-1)) := rfl
end Kw
set_option maxHeartbeats 1000000
namespace Kw
open PySem PySem.Spec PyProof.Rows

structure Least (n : Nat) (F : List (List Nat)) (E : List Nat) : Prop where
  inc : E.Pairwise (· < ·)
  lt : ∀ x ∈ E, x < n
  hit : HitsAll F E
  min : ∀ S, HitsAll F S → E.length ≤ S.length
  lex : ∀ E' : List Nat, E'.Pairwise (· < ·) → (∀ x ∈ E', x < n) → HitsAll F E' → E'.length = E.length → lexle E E'
@[simp] theorem bodyC2_nm {i : Nat} {t t1 : DT} {items1 : DA} {vs1 : List Nat} {tg1 : Tg} {e : DE} {ρ : Env} {x : D} : bodyC2 (.nm i) t items1 vs1 tg1 t1 e ρ x = bnd (t (ρ.set i (.val x))) fun b => if b = true then bnd (items1 (ρ.set i (.val x))) fun xs => compL (bodyC tg1 t1 e (wipeE (ρ.set i (.val x)) vs1)) xs else ret [] := rfl
theorem flat_len {n : Nat} : ∀ {F : List (List Nat)}, (∀ p ∈ F, p.length ≤ n) → F.flatten.length ≤ F.length * n
  | [], _ => by simp
  | p :: F, h => by
    have h1 := h p List.mem_cons_self
    have h2 := flat_len (F := F) fun q hq => h q (List.mem_cons_of_mem _ hq)
    simp [Nat.add_mul] at *
    omega
end Kw
set_option maxHeartbeats 1000000
namespace Kw
open PySem PySem.Spec PyProof.Rows

/-! ### the tape -/
def obnd {α β : Type} (o : Out α) (f : α → M β) : Out β := match o with
  | .ok a t' => f a t'
  | .exc c d t' => .exc c d t'
  | .bad => .bad
theorem bnd_t {α β : Type} {m : M α} {f : α → M β} {t : Tp} : bnd m f t = obnd (m t) f := by unfold bnd obnd; cases m t <;> rfl
@[simp] theorem obnd_ok {α β : Type} {a : α} {t : Tp} {f : α → M β} : obnd (.ok a t) f = f a t := rfl
@[simp] theorem ret_t {α : Type} {a : α} {t : Tp} : ret a t = .ok a t := rfl
theorem seq_t {f g : DS} {ρ ρ' : Env} {t t' : Tp} (h : f ρ t = .ok (.nx ρ') t') : sSeq f g ρ t = g ρ' t' := by
  rw [sSeq_r, bnd_t, h]; rfl
theorem ift_t {c : DT} {a b : DS} {ρ : Env} {t t' : Tp} (h : c ρ t = .ok true t') : sIf c a b ρ t = a ρ t' := by
  rw [sIf_r, bnd_t, h]; rfl
theorem iff_t {c : DT} {a b : DS} {ρ : Env} {t t' : Tp} (h : c ρ t = .ok false t') : sIf c a b ρ t = b ρ t' := by
  rw [sIf_r, bnd_t, h]; rfl
@[simp] theorem tape0 {a b : D} : ixM tapeD (.int 0) (some [a, b]) = .ok a (some [a, b]) := rfl
@[simp] theorem tape1 {a b : D} : ixM tapeD (.int 1) (some [a, b]) = .ok b (some [a, b]) := rfl
theorem put1 {a b v : D} {ev : DE} {ρ : Env} (he : ev (.val tapeD :: ρ) (some [a, b]) = .ok v (some [a, b])) : sPut 0 ev (eC (.int 1)) (.val tapeD :: ρ) (some [a, b]) = .ok (.nx (.val tapeD :: ρ)) (some [a, v]) := by
  unfold sPut
  rw [bnd_t, he]
  rfl
theorem put0 {a b v : D} {ev : DE} {ρ : Env} (he : ev (.val tapeD :: ρ) (some [a, b]) = .ok v (some [a, b])) : sPut 0 ev (eC (.int 0)) (.val tapeD :: ρ) (some [a, b]) = .ok (.nx (.val tapeD :: ρ)) (some [v, b]) := by
  unfold sPut
  rw [bnd_t, he]
  rfl
theorem log_le {m k : Nat} (h : m < 2 ^ k) : m.log2 ≤ k := by
  by_cases e : m = 0
  · subst e; simp
  · exact Nat.le_of_lt ((Nat.log2_lt e).mpr h)
theorem mul_ok {i j : Int} {a b : Nat} (hi : i.natAbs < 2 ^ a) (hj : j.natAbs < 2 ^ b) (h : a + b < 100000000) : binM .Mult (.int i) (.int j) = ret (.int (i * j)) := by
  rw [show binM .Mult = mulM from rfl]
  unfold mulM
  have := log_le hi
  have := log_le hj
  exact if_pos (by omega)
theorem mod_ok {i j : Int} (h : 0 < j) : binM .Mod (.int i) (.int j) = ret (.int (i % j)) := if_pos h
theorem fdiv_ok {i j : Int} {b : Nat} (h : 0 < j) (hj : j.natAbs < 2 ^ b) (hb : b < 9000) : binM .FloorDiv (.int i) (.int j) = ret (.int (i / j)) := by
  rw [show binM .FloorDiv = fdivM from rfl]
  unfold fdivM
  have := log_le hj
  exact if_pos ⟨h, by omega⟩
theorem len_scr {ns : List Int} : lenM [scrD ns] = ret (nI ns.length) := by
  show ret (PyData.int (ns.map PyData.int).length) = _
  rw [List.length_map]
  rfl
theorem ix_scr {ns : List Int} {k : Nat} (h : k < ns.length) : ixM (scrD ns) (nI k) = ret (.int ns[k]) := by
  show atM (ns.map PyData.int) (k : Int) = _
  exact at_nat (by rw [List.getElem?_map, List.getElem?_eq_getElem h]; rfl)
@[simp] theorem int_int {i : Int} : intM [.int i] = ret (.int i) := rfl
def TapeOk (b : Nat) (t : Tp) : Prop := ∃ (i : Nat) (s : Int), t = some [nI i, .int s] ∧ i ≤ b
def Bits (ns : List Int) : Prop := ∃ K : Nat, K ≤ 2000000 ∧ ∀ z ∈ ns, z.natAbs < 2 ^ K
theorem bits_of {ns : List Int} (h : ∀ z ∈ ns, Builtin.Int.intBits z ≤ 1048576) : Bits ns := by
  refine ⟨1048576, by decide, fun z hz => ?_⟩
  have := h z hz
  generalize (1048576 : Nat) = K at this
  unfold Builtin.Int.intBits at this
  by_cases e : z = 0
  · subst e
    exact Nat.pos_of_ne_zero (by simp)
  · have ne : (z == 0) = false := beq_eq_false_iff_ne.mpr e
    rw [ne] at this
    have h2 : z.natAbs.log2 < K := by simp at this; omega
    exact (Nat.log2_lt (by omega)).mp h2
def lo (P : Int) (c : Int) : Prop := -P < c ∧ c < P
theorem abs_of {c : Int} {K : Nat} (h1 : -(((2 ^ K : Nat)) : Int) < c) (h2 : c < ((2 ^ K : Nat) : Int)) : c.natAbs < 2 ^ K := by
  generalize 2 ^ K = P at *
  omega
theorem draw_in {ns : List Int} (hb : Bits ns) {i b size : Nat} (hi : i ≤ b) (hb2 : b ≤ 100000) (hlen : ns.length ≤ 1000) :
    ∃ (x y : Slot) (s' : Int), (sSeq (sSet 3 (slV (eC (.int 0))))
  (sSeq (sIf (tBool (eBin (cmpM .Gt) (eCall lenM (aCons (eBor 1) aNil)) (eC (.int 0)))) (sSet 3 (slV (eBin ixM (eBor 1) (eBin (binM .Mod) (eBin ixM (eBor 0) (eC (.int 0))) (eCall lenM (aCons (eBor 1) aNil)))))) sSkip)
  (sSeq (sIf (tBool (eBin (cmpM .Lt) (eBor 3) (eC (.int 0)))) (sSet 3 (slV (eBin (binM .Sub) (eC (.int 1)) (eBin (binM .Mult) (eC (.int 2)) (eBor 3))))) sSkip)
  (sSeq (sSet 4 (slV (eBin (binM .Mod) (eCall intM (aCons (eBin (binM .Mult) (eBin (binM .Add) (eBin (binM .Add) (eBor 3) (eBin (binM .Mult) (eBin ixM (eBor 0) (eC (.int 0))) (eC (.int 7919)))) (eC (.int 1))) (eC (.int 48271))) aNil)) (eC (.int 2147483647)))))
  (sSeq (sPut 0 (eBin (binM .Mod) (eCall intM (aCons (eBin (binM .Add) (eBin (binM .Mult) (eBor 4) (eC (.int 69621))) (eBin (binM .Mult) (eBin ixM (eBor 0) (eC (.int 0))) (eC (.int 104729)))) aNil)) (eC (.int 4294967291))) (eC (.int 1)))
  (sSeq (sIf (tAndM (tBool (eBin (cmpM .GtE) (eBor 3) (eBin (binM .Pow) (eC (.int 10)) (eC (.int 18))))) (tBool (eBin (cmpM .Lt) (eBin ixM (eBor 0) (eC (.int 0))) (eCall lenM (aCons (eBor 1) aNil))))) (sPut 0 (eVar 3) (eC (.int 1))) sSkip)
  (sPut 0 (eBin (binM .Add) (eBin ixM (eBor 0) (eC (.int 0))) (eC (.int 1))) (eC (.int 0)))))))))
    [.val tapeD, .val (scrD ns), .val (nI size), .un, .un, .un] (some [nI i, .int 0]) = .ok (.nx [.val tapeD, .val (scrD ns), .val (nI size), x, y, .un]) (some [nI (i + 1), .int s']) := by
  obtain ⟨K, hK, hns⟩ := hb
  rw [seq_t (ρ' := [.val tapeD, .val (scrD ns), .val (nI size), .val (.int 0), .un, .un]) (t' := some [nI i, .int 0]) rfl]
  -- the cell
  have h1 : ∃ c : Int, c.natAbs < 2 ^ K ∧ (sIf (tBool (eBin (cmpM .Gt) (eCall lenM (aCons (eBor 1) aNil)) (eC (.int 0)))) (sSet 3 (slV (eBin ixM (eBor 1) (eBin (binM .Mod) (eBin ixM (eBor 0) (eC (.int 0))) (eCall lenM (aCons (eBor 1) aNil)))))) sSkip) [.val tapeD, .val (scrD ns), .val (nI size), .val (.int 0), .un, .un] (some [nI i, .int 0]) = .ok (.nx [.val tapeD, .val (scrD ns), .val (nI size), .val (.int c), .un, .un]) (some [nI i, .int 0]) := by
    by_cases h : 0 < ns.length
    · have hm : i % ns.length < ns.length := Nat.mod_lt _ h
      refine ⟨ns[i % ns.length], hns _ (List.getElem_mem hm), ?_⟩
      have e1 : cmpM .Gt (nI ns.length) (.int 0) = ret (.bool true) := by
        rw [show cmpM .Gt (nI ns.length) (.int 0) = ret (.bool (decide ((0 : Int) < ns.length))) from rfl, decide_eq_true (by omega)]
      have e2 : binM .Mod (nI i) (nI ns.length) = ret (nI (i % ns.length)) := mod_ok (i := (i : Int)) (j := (ns.length : Int)) (by omega)
      rw [ift_t (t' := some [nI i, .int 0]) (by simp [len_scr, e1])]
      simp [len_scr, bnd_t, e2, ix_scr hm]
    · refine ⟨0, Nat.pos_of_ne_zero (by simp), ?_⟩
      have e1 : cmpM .Gt (nI ns.length) (.int 0) = ret (.bool false) := by
        rw [show cmpM .Gt (nI ns.length) (.int 0) = ret (.bool (decide ((0 : Int) < ns.length))) from rfl, decide_eq_false (by omega)]
      rw [iff_t (t' := some [nI i, .int 0]) (by simp [len_scr, e1])]
      rfl
  obtain ⟨c, hc, e1⟩ := h1
  rw [seq_t e1]
  clear e1
  have h2 : ∃ c' : Int, c'.natAbs < 2 ^ (K + 3) ∧ (sIf (tBool (eBin (cmpM .Lt) (eBor 3) (eC (.int 0)))) (sSet 3 (slV (eBin (binM .Sub) (eC (.int 1)) (eBin (binM .Mult) (eC (.int 2)) (eBor 3))))) sSkip) [.val tapeD, .val (scrD ns), .val (nI size), .val (.int c), .un, .un] (some [nI i, .int 0]) = .ok (.nx [.val tapeD, .val (scrD ns), .val (nI size), .val (.int c'), .un, .un]) (some [nI i, .int 0]) := by
    have hp : 0 < 2 ^ K := Nat.pos_of_ne_zero (by simp)
    have e8 : 2 ^ (K + 3) = 8 * 2 ^ K := by rw [Nat.pow_add]; omega
    by_cases h : c < 0
    · refine ⟨1 - 2 * c, ?_, ?_⟩
      · rw [e8]
        generalize 2 ^ K = P at *
        omega
      · rw [ift_t (t' := some [nI i, .int 0]) (by simp [lt_int, h])]
        simp [mul_ok (i := 2) (a := 2) (by decide) hc (by omega)]
    · refine ⟨c, ?_, ?_⟩
      · rw [e8]
        generalize 2 ^ K = P at *
        omega
      · rw [iff_t (t' := some [nI i, .int 0]) (by simp [lt_int, h])]
        rfl
  obtain ⟨c', hc', e2⟩ := h2
  rw [seq_t e2]
  clear e2
  have hi' : (i : Int).natAbs < 2 ^ 20 := by
    have : (2 : Nat) ^ 20 = 1048576 := by decide
    omega
  have m1 : binM .Mult (nI i) (.int 7919) = ret (.int (i * 7919)) := mul_ok (b := 20) hi' (by decide) (by decide)
  have m2 : binM .Mult (.int (c' + i * 7919 + 1)) (.int 48271) = ret (.int ((c' + i * 7919 + 1) * 48271)) := by
    refine mul_ok (a := K + 40) (b := 20) ?_ (by decide) (by omega)
    have e8 : 2 ^ (K + 40) = 137438953472 * 2 ^ (K + 3) := by
      rw [show K + 40 = 37 + (K + 3) by omega, Nat.pow_add]
    rw [e8]
    have hp : 0 < 2 ^ (K + 3) := Nat.pos_of_ne_zero (by simp)
    generalize 2 ^ (K + 3) = P at *
    omega
  have m3 : binM .Mod (.int ((c' + i * 7919 + 1) * 48271)) (.int 2147483647) = ret (.int ((c' + i * 7919 + 1) * 48271 % 2147483647)) := mod_ok (by decide)
  have r0 : 0 ≤ (c' + i * 7919 + 1) * 48271 % 2147483647 := Int.emod_nonneg _ (by decide)
  have r1 : (c' + i * 7919 + 1) * 48271 % 2147483647 < 2147483647 := Int.emod_lt_of_pos _ (by decide)
  generalize ((c' + i * 7919 + 1) * 48271 % 2147483647 : Int) = m at *
  rw [seq_t (ρ' := [.val tapeD, .val (scrD ns), .val (nI size), .val (.int c'), .val (.int m), .un]) (t' := some [nI i, .int 0]) (by simp [bnd_t, m1, m2, m3])]
  have p32 : (2 : Nat) ^ 32 = 4294967296 := by decide
  have m4 : binM .Mult (.int m) (.int 69621) = ret (.int (m * 69621)) := mul_ok (a := 32) (b := 20) (by omega) (by decide) (by decide)
  have m5 : binM .Mult (nI i) (.int 104729) = ret (.int (i * 104729)) := mul_ok (b := 20) hi' (by decide) (by decide)
  have m6 : binM .Mod (.int (m * 69621 + i * 104729)) (.int 4294967291) = ret (.int ((m * 69621 + i * 104729) % 4294967291)) := mod_ok (by decide)
  rw [seq_t (ρ' := [.val tapeD, .val (scrD ns), .val (nI size), .val (.int c'), .val (.int m), .un]) (t' := some [nI i, .int ((m * 69621 + i * 104729) % 4294967291)]) (put1 (by simp [bnd_t, m4, m5, m6]))]
  generalize ((m * 69621 + i * 104729) % 4294967291 : Int) = s1
  have h3 : ∃ s2 : Int, (sIf (tAndM (tBool (eBin (cmpM .GtE) (eBor 3) (eBin (binM .Pow) (eC (.int 10)) (eC (.int 18))))) (tBool (eBin (cmpM .Lt) (eBin ixM (eBor 0) (eC (.int 0))) (eCall lenM (aCons (eBor 1) aNil))))) (sPut 0 (eVar 3) (eC (.int 1))) sSkip) [.val tapeD, .val (scrD ns), .val (nI size), .val (.int c'), .val (.int m), .un] (some [nI i, .int s1]) = .ok (.nx [.val tapeD, .val (scrD ns), .val (nI size), .val (.int c'), .val (.int m), .un]) (some [nI i, .int s2]) := by
    have pw : binM .Pow (.int 10) (.int 18) = ret (.int 1000000000000000000) := by rfl
    have tst : ∃ b : Bool, (tAndM (tBool (eBin (cmpM .GtE) (eBor 3) (eBin (binM .Pow) (eC (.int 10)) (eC (.int 18))))) (tBool (eBin (cmpM .Lt) (eBin ixM (eBor 0) (eC (.int 0))) (eCall lenM (aCons (eBor 1) aNil))))) [.val tapeD, .val (scrD ns), .val (nI size), .val (.int c'), .val (.int m), .un] (some [nI i, .int s1]) = .ok b (some [nI i, .int s1]) := by
      by_cases h : (1000000000000000000 : Int) ≤ c'
      · refine ⟨decide (i < ns.length), ?_⟩
        simp [pw, ge_int, h, bnd_t, len_scr]
      · refine ⟨false, ?_⟩
        simp [pw, ge_int, h]
    obtain ⟨b, eb⟩ := tst
    cases b with
    | true =>
      refine ⟨c', ?_⟩
      rw [ift_t eb]
      exact put1 (by simp)
    | false =>
      refine ⟨s1, ?_⟩
      rw [iff_t eb]
      rfl
  obtain ⟨s2, e3⟩ := h3
  rw [seq_t e3]
  refine ⟨.val (.int c'), .val (.int m), s2, ?_⟩
  exact put0 (by simp [bnd_t, nI])
theorem draw_r {ns : List Int} (hb : Bits ns) (hlen : ns.length ≤ 1000) {b size : Nat} {t : Tp} (ht : TapeOk b t) (hb2 : b ≤ 100000) (h1 : 1 ≤ size) (h2 : size ≤ 1000000) : ∃ (d : Nat) (t' : Tp), d < size ∧ TapeOk (b + 1) t' ∧ m__law_draw [tapeD, scrD ns, nI size] t = .ok (nI d) t' := by
  obtain ⟨i, s, rfl, hi⟩ := ht
  have main : ∃ (x y : Slot) (i' : Nat) (s' : Int), i' ≤ b + 1 ∧ (sIf (tBool (eBin (cmpM .Eq) (eBin ixM (eBor 0) (eC (.int 1))) (eC (.int 0)))) (sSeq (sSet 3 (slV (eC (.int 0))))
  (sSeq (sIf (tBool (eBin (cmpM .Gt) (eCall lenM (aCons (eBor 1) aNil)) (eC (.int 0)))) (sSet 3 (slV (eBin ixM (eBor 1) (eBin (binM .Mod) (eBin ixM (eBor 0) (eC (.int 0))) (eCall lenM (aCons (eBor 1) aNil)))))) sSkip)
  (sSeq (sIf (tBool (eBin (cmpM .Lt) (eBor 3) (eC (.int 0)))) (sSet 3 (slV (eBin (binM .Sub) (eC (.int 1)) (eBin (binM .Mult) (eC (.int 2)) (eBor 3))))) sSkip)
  (sSeq (sSet 4 (slV (eBin (binM .Mod) (eCall intM (aCons (eBin (binM .Mult) (eBin (binM .Add) (eBin (binM .Add) (eBor 3) (eBin (binM .Mult) (eBin ixM (eBor 0) (eC (.int 0))) (eC (.int 7919)))) (eC (.int 1))) (eC (.int 48271))) aNil)) (eC (.int 2147483647)))))
  (sSeq (sPut 0 (eBin (binM .Mod) (eCall intM (aCons (eBin (binM .Add) (eBin (binM .Mult) (eBor 4) (eC (.int 69621))) (eBin (binM .Mult) (eBin ixM (eBor 0) (eC (.int 0))) (eC (.int 104729)))) aNil)) (eC (.int 4294967291))) (eC (.int 1)))
  (sSeq (sIf (tAndM (tBool (eBin (cmpM .GtE) (eBor 3) (eBin (binM .Pow) (eC (.int 10)) (eC (.int 18))))) (tBool (eBin (cmpM .Lt) (eBin ixM (eBor 0) (eC (.int 0))) (eCall lenM (aCons (eBor 1) aNil))))) (sPut 0 (eVar 3) (eC (.int 1))) sSkip)
  (sPut 0 (eBin (binM .Add) (eBin ixM (eBor 0) (eC (.int 0))) (eC (.int 1))) (eC (.int 0))))))))) sSkip) [.val tapeD, .val (scrD ns), .val (nI size), .un, .un, .un] (some [nI i, .int s]) = .ok (.nx [.val tapeD, .val (scrD ns), .val (nI size), x, y, .un]) (some [nI i', .int s']) := by
    by_cases h : s = 0
    · subst h
      obtain ⟨x, y, s', e⟩ := draw_in hb (size := size) hi hb2 hlen
      exact ⟨x, y, i + 1, s', by omega, by rw [ift_t (t' := some [nI i, .int 0]) (by simp [bnd_t, eq_int])]; exact e⟩
    · exact ⟨.un, .un, i, s, by omega, by rw [iff_t (t' := some [nI i, .int s]) (by simp [bnd_t, eq_int, h])]; rfl⟩
  obtain ⟨x, y, i', s', hi', e⟩ := main
  have r0 : 0 ≤ s' % (size : Int) := Int.emod_nonneg _ (by omega)
  have r1 : s' % (size : Int) < size := Int.emod_lt_of_pos _ (by omega)
  refine ⟨(s' % (size : Int)).toNat, some [nI i', .int (s' / (size : Int))], by omega, ⟨i', _, rfl, hi'⟩, ?_⟩
  show bnd (s__law_draw [.val tapeD, .val (scrD ns), .val (nI size), .un, .un, .un]) finM _ = _
  unfold s__law_draw
  have e' := seq_t (g := sSeq (sSet 5 (slV (eBin (binM .Mod) (eCall intM (aCons (eBin ixM (eBor 0) (eC (.int 1))) aNil)) (eBor 2))))
    (sSeq (sPut 0 (eBin (binM .FloorDiv) (eBin ixM (eBor 0) (eC (.int 1))) (eBor 2)) (eC (.int 1))) (sRet (eVar 5)))) e
  rw [bnd_t, e']
  have eN : nI (s' % (size : Int)).toNat = .int (s' % (size : Int)) := by unfold nI; rw [Int.toNat_of_nonneg r0]
  have q1 : binM .Mod (.int s') (nI size) = ret (.int (s' % (size : Int))) := mod_ok (by omega)
  have p20 : (2 : Nat) ^ 20 = 1048576 := by decide
  have q2 : binM .FloorDiv (.int s') (nI size) = ret (.int (s' / (size : Int))) := fdiv_ok (b := 20) (by omega) (by omega) (by decide)
  rw [seq_t (ρ' := [.val tapeD, .val (scrD ns), .val (nI size), x, y, .val (.int (s' % (size : Int)))]) (t' := some [nI i', .int s']) (by simp [bnd_t, q1])]
  rw [seq_t (put1 (v := .int (s' / (size : Int))) (by simp [bnd_t, q2]))]
  simp [eN]
end Kw
set_option maxHeartbeats 1000000
namespace Kw
open PySem PySem.Spec PyProof.Rows

/-! ### ranges -/
def ups (i j : Nat) : List Nat := (List.range (j - i)).map fun k => i + k
theorem ups_mem {i j x : Nat} : x ∈ ups i j ↔ i ≤ x ∧ x < j := by
  unfold ups
  rw [List.mem_map]
  constructor
  · rintro ⟨k, hk, rfl⟩
    have := List.mem_range.mp hk
    omega
  · intro h
    exact ⟨x - i, List.mem_range.mpr (by omega), by omega⟩
theorem ups_lt {i j : Nat} : (ups i j).Pairwise (· < ·) := List.pairwise_map.mpr (List.pairwise_lt_range.imp fun h => by omega)
theorem ups_len {i j : Nat} : (ups i j).length = j - i := by simp [ups]
theorem add_one {a : Nat} : binM .Add (nI a) (.int 1) = ret (nI (a + 1)) := rfl
theorem range2_r {ρ : Env} {a b : DE} {i j : Nat} (ha : a ρ = ret (nI i)) (hb : b ρ = ret (nI j)) (hi : i ≤ 1000000) (hj : j ≤ 1000000) : eRange2 a b ρ = ret ((ups i j).map nI) := by
  unfold eRange2
  rw [ha, hb]
  show (if -1000000000 ≤ (i : Int) ∧ (j : Int) ≤ 1000000000 ∧ (i : Int) ≤ 1000000000 ∧ -1000000000 ≤ (j : Int) ∧ (j : Int) - (i : Int) ≤ 16777216 then ret ((List.range ((j : Int) - (i : Int)).toNat).map fun k => PyData.int ((i : Int) + (k : Nat))) else bad) = _
  rw [if_pos ⟨by omega, by omega, by omega, by omega, by omega⟩]
  have : ((j : Int) - (i : Int)).toNat = j - i := by omega
  rw [this, ups, List.map_map]
  congr 1

/-! ### loops with the tape -/
theorem for_pre_t {α : Type} {enc : α → D} {tg : Tg} {body : DS} (I : List α → Env → Tp → Prop) {xs : List α} {ρ : Env} {t : Tp} (hb : ∀ pre x suf ρ t, xs = pre ++ x :: suf → I pre ρ t → ∃ ρ1, bindE tg (enc x) ρ = some ρ1 ∧ ∃ ρ' t', body ρ1 t = .ok (.nx ρ') t' ∧ I (pre ++ [x]) ρ' t') (h : I [] ρ t) : ∃ ρ' t', sForL tg body (xs.map enc) ρ t = .ok (.nx ρ') t' ∧ I xs ρ' t' := by
  have go : ∀ (suf pre : List α) (ρ : Env) (t : Tp), xs = pre ++ suf → I pre ρ t → ∃ ρ' t', sForL tg body (suf.map enc) ρ t = .ok (.nx ρ') t' ∧ I xs ρ' t' := fun suf => by
    induction suf with
    | nil => intro pre ρ t e h; exact ⟨ρ, t, rfl, by rw [e, List.append_nil]; exact h⟩
    | cons x suf ih =>
      intro pre ρ t e h
      obtain ⟨ρ1, e1, ρ', t', e2, h'⟩ := hb pre x suf ρ t e h
      obtain ⟨ρ2, t2, e3, h2⟩ := ih (pre ++ [x]) ρ' t' (by rw [e]; simp) h'
      refine ⟨ρ2, t2, ?_, h2⟩
      rw [List.map_cons]
      unfold sForL
      rw [e1]
      simp only [bnd_t, e2, obnd_ok, sLoop_nx, e3]
  exact go xs [] ρ t rfl h
/-- a comprehension that draws -/
theorem compL_draw {f : D → M (List D)} {g : Nat → D} : ∀ {xs : List Nat} {b : Nat} {t : Tp}, (∀ x ∈ xs, ∀ b' t, b' < b + xs.length → TapeOk b' t → ∃ (k : Bool) (t' : Tp), f (nI x) t = .ok (if k = true then [g x] else []) t' ∧ TapeOk (b' + 1) t') → TapeOk b t → ∃ (l : List Nat) (t' : Tp), l.Sublist xs ∧ compL f (xs.map nI) t = .ok (l.map g) t' ∧ TapeOk (b + xs.length) t'
  | [], b, t, _, h => ⟨[], t, List.Sublist.refl _, rfl, h⟩
  | x :: xs, b, t, hf, h => by
    obtain ⟨k, t1, e1, h1⟩ := hf x List.mem_cons_self b t (by simp) h
    obtain ⟨l, t2, s, e2, h2⟩ := compL_draw (xs := xs) (b := b + 1) (f := f) (g := g) (fun y hy b' t hb' ht => hf y (List.mem_cons_of_mem _ hy) b' t (by simp at *; omega) ht) h1
    refine ⟨if k = true then x :: l else l, t2, ?_, ?_, by rw [List.length_cons]; rw [show b + (xs.length + 1) = b + 1 + xs.length by omega]; exact h2⟩
    · cases k with
      | true => exact s.cons_cons x
      | false => exact s.cons x
    · rw [List.map_cons]
      show bnd (f (nI x)) _ t = _
      rw [bnd_t, e1, obnd_ok, bnd_t, e2, obnd_ok]
      cases k <;> rfl

/-! ### the pairs -/
theorem app_l {xs ys : List D} (h : xs.length + ys.length ≤ 16777216) : binM .Add (.list xs) (.list ys) = ret (.list (xs ++ ys)) := by
  have h2 : okLen (xs.length + ys.length) = true := decide_eq_true h
  rw [show binM .Add = addM from rfl]
  simp only [addM]
  rw [if_pos h2]
theorem app_t {xs ys : List D} (h : xs.length + ys.length ≤ 16777216) : binM .Add (.tuple xs) (.tuple ys) = ret (.tuple (xs ++ ys)) := by
  have h2 : okLen (xs.length + ys.length) = true := decide_eq_true h
  rw [show binM .Add = addM from rfl]
  simp only [addM]
  rw [if_pos h2]
theorem pairs_r {ns : List Int} (hb : Bits ns) (hlen : ns.length ≤ 1000) {b n d : Nat} {t : Tp} (ht : TapeOk b t) (hb2 : b ≤ 1000) (hn : n ≤ 20) : ∃ (ps : List (Nat × Nat)) (t' : Tp), PairsOk n ps ∧ TapeOk (b + n * n) t' ∧ m__law_pairs [tapeD, scrD ns, nI n, nI d] t = .ok (.list (ps.map pN)) t' := by
  have lp := for_pre_t (enc := nI) (tg := .nm 5) (xs := List.range n) (ρ := [.val tapeD, .val (scrD ns), .val (nI n), .val (nI d), .val (.list []), .un, .un]) (t := t)
    (body := sSet 4 (slV (eBin (binM .Add) (eBor 4) (eFl (eComp [6] (.nm 6) (tBool (eBin (cmpM .Lt) (eCall m__law_draw (aCons (eVar 0) (aCons (eVar 1) (aCons (eC (.int 4)) aNil)))) (eBor 3))) (eTup (aCons (eVar 5) (aCons (eVar 6) aNil))) (eRange2 (eBin (binM .Add) (eBor 5) (eC (.int 1))) (eBor 2)))))))
    (fun pre ρ t => ∃ (ps : List (Nat × Nat)) (x y : Slot), ρ = [.val tapeD, .val (scrD ns), .val (nI n), .val (nI d), .val (.list (ps.map pN)), x, y] ∧ TapeOk (b + pre.length * n) t ∧ ps.length ≤ pre.length * n ∧ ps.Pairwise PR ∧ (∀ p ∈ ps, p.1 < p.2 ∧ p.2 < n ∧ p.1 ∈ pre)) ?_
    ⟨[], .un, .un, rfl, by simpa using ht, by simp, List.Pairwise.nil, fun _ z => by cases z⟩
  · obtain ⟨ρ', t', e, ps, x, y, rfl, h1, h2, h3, h4⟩ := lp
    have bnn : n * n ≤ 20 * 20 := Nat.mul_le_mul hn hn
    refine ⟨ps, t', ⟨fun p hp => ⟨(h4 p hp).1, (h4 p hp).2.1⟩, h3, by simp at h2; omega⟩, by simpa using h1, ?_⟩
    show bnd (s__law_pairs [.val tapeD, .val (scrD ns), .val (nI n), .val (nI d), .un, .un, .un]) finM t = _
    unfold s__law_pairs
    rw [bnd_t, seq_t (ρ' := [.val tapeD, .val (scrD ns), .val (nI n), .val (nI d), .val (.list []), .un, .un]) (t' := t) rfl]
    rw [seq_t (ρ' := [.val tapeD, .val (scrD ns), .val (nI n), .val (nI d), .val (.list (ps.map pN)), x, y]) (t' := t') (by
      rw [sFor_r, range1_r (n := n) rfl (by omega), bnd_ret]
      exact e)]
    rfl
  · rintro pre a suf ρ t epre ⟨ps, x, y, rfl, h1, h2, h3, h4⟩
    have ha : a < n := List.mem_range.mp (by rw [epre]; simp)
    have hpl : pre.length < n := by
      have : (List.range n).length = (pre ++ a :: suf).length := by rw [epre]
      simp at this
      omega
    have hpre : ∀ z ∈ pre, z < a := fun z hz => by
      have := List.pairwise_lt_range (n := n)
      rw [epre] at this
      exact (List.pairwise_append.mp this).2.2 z hz a List.mem_cons_self
    have bnn : pre.length * n ≤ 20 * 20 := Nat.mul_le_mul (by omega) hn
    have ul : (ups (a + 1) n).length ≤ n := by rw [ups_len]; omega
    refine ⟨_, rfl, ?_⟩
    simp only [List.set_cons_succ, List.set_cons_zero]
    obtain ⟨l, t', sub, e, ht'⟩ := compL_draw (xs := ups (a + 1) n) (b := b + pre.length * n) (t := t) (g := fun z => pN (a, z))
      (f := bodyC (.nm 6) (tBool (eBin (cmpM .Lt) (eCall m__law_draw (aCons (eVar 0) (aCons (eVar 1) (aCons (eC (.int 4)) aNil)))) (eBor 3))) (eTup (aCons (eVar 5) (aCons (eVar 6) aNil))) [.val tapeD, .val (scrD ns), .val (nI n), .val (nI d), .val (.list (ps.map pN)), .val (nI a), .un]) (fun z hz b' t hb' ht => by
        obtain ⟨dd, t', hd, ht', ed⟩ := draw_r hb hlen ht (by omega) (size := 4) (by decide) (by decide)
        refine ⟨decide (dd < d), t', ?_, ht'⟩
        have e4 : PyData.int 4 = nI 4 := rfl
        rw [e4]
        simp [bnd_t, ed]
        by_cases q : dd < d <;> simp [q, pN, tN]) h1
    refine ⟨[.val tapeD, .val (scrD ns), .val (nI n), .val (nI d), .val (.list ((ps ++ l.map fun z => (a, z)).map pN)), .val (nI a), y], t', ?_, ps ++ l.map fun z => (a, z), .val (nI a), y, rfl, ?_, ?_, ?_, ?_⟩
    · rw [sSet_r, slV_r, eBin_r, eFl_r]
      unfold eComp
      rw [range2_r (i := a + 1) (j := n) (by simp; rfl) (by simp) (by omega) (by omega)]
      simp only [eBor_r, getB_s, getB_0, bnd_ret, wipe_cons, wipe_nil, List.set_cons_succ, List.set_cons_zero]
      have en : nox (compL (bodyC (.nm 6) (tBool (eBin (cmpM .Lt) (eCall m__law_draw (aCons (eVar 0) (aCons (eVar 1) (aCons (eC (.int 4)) aNil)))) (eBor 3))) (eTup (aCons (eVar 5) (aCons (eVar 6) aNil))) [.val tapeD, .val (scrD ns), .val (nI n), .val (nI d), .val (.list (ps.map pN)), .val (nI a), .un]) ((ups (a + 1) n).map nI)) t = .ok (l.map fun z => pN (a, z)) t' := by
        unfold nox
        rw [e]
      simp only [bnd_t, en, obnd_ok, ret_t]
      rw [app_l (by
        have := sub.length_le
        simp
        omega)]
      simp [Function.comp_def]
    · have : b + (pre ++ [a]).length * n = b + pre.length * n + n := by simp [Nat.add_mul]; omega
      rw [this]
      obtain ⟨i, s, q1, q2⟩ := ht'
      exact ⟨i, s, q1, by omega⟩
    · have := sub.length_le
      simp [Nat.add_mul]
      omega
    · refine List.pairwise_append.mpr ⟨h3, ?_, fun p hp q hq => ?_⟩
      · refine List.pairwise_map.mpr ((List.Pairwise.sublist sub ups_lt).imp fun h => .inr ⟨rfl, h⟩)
      · obtain ⟨z, hz, rfl⟩ := List.mem_map.mp hq
        exact .inl (hpre _ (h4 p hp).2.2)
    · intro p hp
      rcases List.mem_append.mp hp with hp | hp
      · obtain ⟨q1, q2, q3⟩ := h4 p hp
        exact ⟨q1, q2, List.mem_append_left _ q3⟩
      · obtain ⟨z, hz, rfl⟩ := List.mem_map.mp hp
        have := ups_mem.mp (sub.subset hz)
        exact ⟨by show a < z; omega, by show z < n; omega, by simp⟩
end Kw
set_option maxHeartbeats 1000000
namespace Kw
open PySem PySem.Spec PyProof.Rows

/-! ### making a web -/
def oth (i : Nat) (p : Nat × Nat) : Option Nat := if p.1 = i then some p.2 else if p.2 = i then some p.1 else none
def rowOf (ps : List (Nat × Nat)) (i : Nat) : List Nat := ps.filterMap (oth i)
theorem PR_ne {p q : Nat × Nat} (h : PR p q) : p ≠ q := fun e => by subst e; unfold PR at h; omega
theorem rowOf_nd {n i : Nat} {ps : List (Nat × Nat)} (h : PairsOk n ps) : (rowOf ps i).Nodup := by
  unfold rowOf
  refine List.pairwise_filterMap.mpr (List.Pairwise.imp_of_mem (fun {p q} hp hq hpq => ?_) h.srt)
  intro b hb c hc e
  subst e
  have l1 := h.lt p hp
  have l2 := h.lt q hq
  unfold oth at hb hc
  unfold PR at hpq
  split at hb <;> split at hc <;> (try split at hb) <;> (try split at hc) <;> simp at hb hc <;> omega
theorem adj_iff {ps : List (Nat × Nat)} {a b : Nat} : adj ps a b = true ↔ (a, b) ∈ ps ∨ (b, a) ∈ ps := by simp [adj]
theorem rowOf_mem {n i : Nat} {ps : List (Nat × Nat)} (h : PairsOk n ps) : ∀ x, x ∈ rowOf ps i ↔ x < n ∧ adj ps i x = true := fun x => by
  rw [adj_iff]
  unfold rowOf
  rw [List.mem_filterMap]
  constructor
  · rintro ⟨⟨a, b⟩, hp, e⟩
    have l1 := h.lt _ hp
    unfold oth at e
    simp only at e l1
    split at e
    · rename_i q
      simp at e
      subst e; subst q
      exact ⟨l1.2, .inl hp⟩
    · split at e
      · rename_i q
        simp at e
        subst e; subst q
        exact ⟨by omega, .inr hp⟩
      · cases e
  · rintro ⟨hx, hp | hp⟩
    · exact ⟨_, hp, by simp [oth]⟩
    · have l1 := h.lt _ hp
      simp only at l1
      refine ⟨_, hp, ?_⟩
      have : x ≠ i := by omega
      simp [oth, this]
theorem map_set {n j : Nat} {f : Nat → List D} {v : List D} : ((List.range n).map f).set j v = (List.range n).map fun i => if i = j then v else f i := by
  refine List.ext_getElem (by simp) fun i h1 h2 => ?_
  simp [List.getElem_set]
  by_cases e : j = i
  · subst e; simp
  · have : i ≠ j := fun q => e q.symm
    simp [e, this]
theorem nap_r {ρ : Env} {i k : Nat} {dss : List (List D)} {ds : List D} {ei ev : DE} {v : D} (h : ρ[i]? = some (.nest dss)) (hk : ei ρ = ret (nI k)) (hd : dss[k]? = some ds) (hv : ev ρ = ret v) (hl : ds.length < 16777216) : sNap i ei ev ρ = ret (.nx (ρ.set i (.nest (dss.set k (ds ++ [v]))))) := by
  have hkl : k < dss.length := (List.getElem?_eq_some_iff.mp hd).1
  have hix : L2.ixN dss.length (k : Int) = some k := by
    unfold L2.ixN
    rw [if_pos (by omega), if_pos (by omega), Int.toNat_natCast]
  simp only [sNap, h, hk, bnd_ret, nI, hix, hd, hv]
  rw [if_pos hl]
theorem fldp_r {c f : Str} {fs : List (D × D)} {e : DE} {v : D} {ρ : Env} (he : e (.own (objD c fs) :: ρ) = ret v) (h : fs.length < 1000) : sFldP 0 f e (.own (objD c fs) :: ρ) = ret (.nx (.own (objD c (putFD f v fs)) :: ρ)) := by
  have q : sFldP 0 f e (.own (objD c fs) :: ρ) = if fs.length < 1000 then bnd (e (.own (objD c fs) :: ρ)) (fun v => (ret (Fl.nx (Slot.own (objD c (putFD f v fs)) :: ρ)) : M Fl)) else bad := rfl
  rw [q, if_pos h, he]
  rfl
theorem putFD1 {v : D} : putFD "many" v [] = [(.str "many", v)] := rfl
theorem putFD2 {a v : D} : putFD "pairs" v [(.str "many", a)] = [(.str "many", a), (.str "pairs", v)] := by kernel_rfl
theorem putFD3 {a b v : D} : putFD "rows" v [(.str "many", a), (.str "pairs", b)] = [(.str "many", a), (.str "pairs", b), (.str "rows", v)] := by kernel_rfl
theorem pN_0 {p : Nat × Nat} : ixM (pN p) (.int 0) = ret (nI p.1) := ix_tN (i := 0) rfl
theorem pN_1 {p : Nat × Nat} : ixM (pN p) (.int 1) = ret (nI p.2) := ix_tN (i := 1) rfl
theorem isi_pN {p : Nat × Nat} : isiM "tuple" (pN p) = ret (.bool true) := rfl
theorem len_pN {p : Nat × Nat} : lenM [pN p] = ret (nI 2) := rfl
theorem ne_22 : cmpM .NotEq (nI 2) (.int 2) = ret (.bool false) := ne_int (a := 2) (b := 2)
theorem ge_pN {p q : Nat × Nat} (h : PR p q) : cmpM .GtE (pN p) (pN q) = ret (.bool false) := by
  show ret (PyData.bool (geI [(p.1 : Int), (p.2 : Int)] [(q.1 : Int), (q.2 : Int)])) = _
  congr 2
  unfold PR at h
  simp only [geI]
  split
  · split <;> simp <;> omega
  · simp; omega
theorem ix_pairs {ps : List (Nat × Nat)} {k : Nat} {p : Nat × Nat} (h : ps[k]? = some p) : ixM (.tuple (ps.map pN)) (nI k) = ret (pN p) := ix_t (by rw [List.getElem?_map, h]; rfl)
theorem bind_pair {i j : Nat} {p : Nat × Nat} {ρ : Env} : bindE (.tup [i, j]) (pN p) ρ = some ((ρ.set i (.val (nI p.1))).set j (.val (nI p.2))) := rfl
theorem init_r {n : Nat} {ps : List (Nat × Nat)} (h : PairsOk n ps) (hn : n ≤ 1000) : m_Web___init__ [nI n, .list (ps.map pN)] = ret (W n ps) := by
  have hl := h.len
  show bnd (s_Web___init__ [.own (objD "Web" []), .val (nI n), .val (.list (ps.map pN)), .un, .un, .un, .un, .un, .un, .un]) finI = _
  unfold s_Web___init__
  rw [seq_nx [.own (objD "Web" []), .val (nI n), .val (.tuple (ps.map pN)), .un, .un, .un, .un, .un, .un, .un] (by simp)]
  rw [seq_nx [.own (objD "Web" []), .val (nI n), .val (.tuple (ps.map pN)), .un, .un, .un, .un, .un, .un, .un] (by rw [if_f (by simp [is_count_nI])]; rfl)]
  have lp := for_pre (enc := nI) (tg := .nm 3) (xs := List.range ps.length) (ρ := [.own (objD "Web" []), .val (nI n), .val (.tuple (ps.map pN)), .un, .un, .un, .un, .un, .un, .un])
    (body := (sSeq (sSet 4 (slV (eBin ixM (eBor 2) (eBor 3))))
  (sSeq (sIf (tOrM (tNotM (tTru (eUn (isiM "tuple") (eBor 4)))) (tOrM (tBool (eBin (cmpM .NotEq) (eCall lenM (aCons (eBor 4) aNil)) (eC (.int 2)))) (tOrM (tNotM (tTru (eCall m_is_count (aCons (eBin ixM (eBor 4) (eC (.int 0))) aNil)))) (tNotM (tTru (eCall m_is_count (aCons (eBin ixM (eBor 4) (eC (.int 1))) aNil))))))) sBad sSkip)
  (sIf (tOrM (tNotM (tBool (eChain (cmpM .Lt) (cmpM .Lt) (eBin ixM (eBor 4) (eC (.int 0))) (eBin ixM (eBor 4) (eC (.int 1))) (eBor 1)))) (tAndM (tBool (eBin (cmpM .Gt) (eBor 3) (eC (.int 0)))) (tBool (eBin (cmpM .GtE) (eBin ixM (eBor 2) (eBin (binM .Sub) (eBor 3) (eC (.int 1)))) (eBor 4))))) sBad sSkip))))
    (fun _ ρ => ∃ x y : Slot, ρ = [.own (objD "Web" []), .val (nI n), .val (.tuple (ps.map pN)), x, y, .un, .un, .un, .un, .un]) ?_ ⟨.un, .un, rfl⟩
  · obtain ⟨ρ', e, x, y, rfl⟩ := lp
    rw [seq_nx [.own (objD "Web" []), .val (nI n), .val (.tuple (ps.map pN)), x, y, .un, .un, .un, .un, .un] (by
      rw [sFor_r, range1_r (n := ps.length) (by simp) (by omega), bnd_ret]
      exact e)]
    rw [seq_nx [.own (objD "Web" [(.str "many", nI n)]), .val (nI n), .val (.tuple (ps.map pN)), x, y, .un, .un, .un, .un, .un] (fldp_r (v := nI n) (by simp) (by simp))]
    rw [seq_nx [.own (objD "Web" [(.str "many", nI n), (.str "pairs", .tuple (ps.map pN))]), .val (nI n), .val (.tuple (ps.map pN)), x, y, .un, .un, .un, .un, .un] (by
      rw [fldp_r (v := .tuple (ps.map pN)) (by simp) (by simp), putFD2])]
    rw [seq_nx [.own (objD "Web" [(.str "many", nI n), (.str "pairs", .tuple (ps.map pN))]), .val (nI n), .val (.tuple (ps.map pN)), x, y, .nest ((List.range n).map fun i => (rowOf [] i).map nI), .un, .un, .un, .un] (by
      rw [sSet_r, slN_r, range1_r (n := n) (by simp) (by omega)]
      have : List.replicate ((List.range n).map nI).length ([] : List D) = (List.range n).map fun i => (rowOf [] i).map nI := by
        refine List.ext_getElem (by simp) fun i h1 h2 => ?_
        simp [rowOf]
      simp only [bnd_ret, this]
      rfl)]
    have lq := for_pre (enc := pN) (tg := .tup [7, 8]) (xs := ps) (ρ := [.own (objD "Web" [(.str "many", nI n), (.str "pairs", .tuple (ps.map pN))]), .val (nI n), .val (.tuple (ps.map pN)), x, y, .nest ((List.range n).map fun i => (rowOf [] i).map nI), .un, .un, .un, .un])
      (body := sSeq (sNap 5 (eBor 7) (eVar 8)) (sNap 5 (eBor 8) (eVar 7)))
      (fun pre ρ => ∃ u v : Slot, ρ = [.own (objD "Web" [(.str "many", nI n), (.str "pairs", .tuple (ps.map pN))]), .val (nI n), .val (.tuple (ps.map pN)), x, y, .nest ((List.range n).map fun i => (rowOf pre i).map nI), .un, u, v, .un]) ?_ ⟨.un, .un, rfl⟩
    · obtain ⟨ρ', e2, u, v, rfl⟩ := lq
      rw [seq_nx [.own (objD "Web" [(.str "many", nI n), (.str "pairs", .tuple (ps.map pN))]), .val (nI n), .val (.tuple (ps.map pN)), x, y, .nest ((List.range n).map fun i => (rowOf ps i).map nI), .un, u, v, .un] (by simp [e2])]
      have ec : eComp [9] (.nm 9) tYesM (eCall tupleM (aCons (eFl (aCall sortedM (aCons (eBor 9) aNil))) aNil)) (iSeq (eBor 5)) [.own (objD "Web" [(.str "many", nI n), (.str "pairs", .tuple (ps.map pN))]), .val (nI n), .val (.tuple (ps.map pN)), x, y, .val (.list ((List.range n).map fun i => lN (rowOf ps i))), .un, u, v, .un] = ret ((List.range n).map fun i => tN (near n ps i)) := by
        rw [comp_a (enc := fun i => lN (rowOf ps i)) (xs := List.range n) (g := fun i => tN (near n ps i))]
        · simp
        · intro i hi
          have := sorted_canon (d := lN (rowOf ps i)) rfl (rowOf_nd h) (rowOf_mem h)
          simp [this]
          rfl
      have efz : fz 5 [.own (objD "Web" [(.str "many", nI n), (.str "pairs", .tuple (ps.map pN))]), .val (nI n), .val (.tuple (ps.map pN)), x, y, .nest ((List.range n).map fun i => (rowOf ps i).map nI), .un, u, v, .un] = [.own (objD "Web" [(.str "many", nI n), (.str "pairs", .tuple (ps.map pN))]), .val (nI n), .val (.tuple (ps.map pN)), x, y, .val (.list ((List.range n).map fun i => lN (rowOf ps i))), .un, u, v, .un] := by
        simp [fz, frzS, Function.comp_def, lN]
      rw [sFz_c, sFz_n, efz, fldp_r (v := .tuple ((List.range n).map fun i => tN (near n ps i))) (by
        simp only [eCall_r, aCons_r, eFl_r, ec, bnd_ret, aNil_r, tup_l]) (by simp), putFD3]
      rfl
    · rintro pre p suf ρ eps ⟨u, v, rfl⟩
      have hp : p ∈ ps := by rw [eps]; simp
      obtain ⟨l1, l2⟩ := h.lt p hp
      have lpre : pre.length ≤ 1000 := by rw [eps] at hl; simp at hl; omega
      have lrow : ∀ i, (rowOf pre i).length ≤ 1000 := fun i => Nat.le_trans (List.length_filterMap_le _ _) lpre
      refine ⟨_, bind_pair, ?_⟩
      simp only [List.set_cons_succ, List.set_cons_zero]
      refine ⟨_, ?_, .val (nI p.1), .val (nI p.2), rfl⟩
      rw [seq_nx [.own (objD "Web" [(.str "many", nI n), (.str "pairs", .tuple (ps.map pN))]), .val (nI n), .val (.tuple (ps.map pN)), x, y, .nest ((List.range n).map fun i => if i = p.1 then (rowOf pre p.1).map nI ++ [nI p.2] else (rowOf pre i).map nI), .un, .val (nI p.1), .val (nI p.2), .un] (by
        rw [nap_r (k := p.1) (ds := (rowOf pre p.1).map nI) (v := nI p.2) rfl (by simp) (by rw [List.getElem?_map, List.getElem?_range (by omega)]; rfl) (by simp) (by simp; have := lrow p.1; omega), map_set]
        rfl)]
      rw [nap_r (k := p.2) (ds := (rowOf pre p.2).map nI) (v := nI p.1) rfl (by simp) (by
        rw [List.getElem?_map, List.getElem?_range (by omega)]
        have : p.2 ≠ p.1 := by omega
        simp [this]) (by simp) (by simp; have := lrow p.2; omega), map_set]
      have : ((List.range n).map fun i => if i = p.2 then (rowOf pre p.2).map nI ++ [nI p.1] else if i = p.1 then (rowOf pre p.1).map nI ++ [nI p.2] else (rowOf pre i).map nI) = (List.range n).map fun i => (rowOf (pre ++ [p]) i).map nI := by
        refine List.map_congr_left fun i hi => ?_
        unfold rowOf
        rw [List.filterMap_append]
        by_cases q2 : i = p.2
        · have : p.1 ≠ i := by omega
          subst q2
          simp [oth, this]
        · by_cases q1 : i = p.1
          · subst q1
            simp [oth, q2]
          · have a1 : p.1 ≠ i := fun z => q1 z.symm
            have a2 : p.2 ≠ i := fun z => q2 z.symm
            simp [oth, q1, q2, a1, a2]
      rw [← this]
      rfl
  · rintro pre k suf ρ epre ⟨x, y, rfl⟩
    have hk : k < ps.length := List.mem_range.mp (by rw [epre]; simp)
    have hp : ps[k]? = some ps[k] := List.getElem?_eq_getElem hk
    obtain ⟨l1, l2⟩ := h.lt _ (List.getElem_mem hk)
    generalize ps[k] = p at hp l1 l2
    refine ⟨_, rfl, ?_⟩
    simp only [List.set_cons_succ, List.set_cons_zero]
    refine ⟨_, ?_, .val (nI k), .val (pN p), rfl⟩
    rw [seq_nx [.own (objD "Web" []), .val (nI n), .val (.tuple (ps.map pN)), .val (nI k), .val (pN p), .un, .un, .un, .un, .un] (by simp [ix_pairs hp])]
    rw [seq_nx [.own (objD "Web" []), .val (nI n), .val (.tuple (ps.map pN)), .val (nI k), .val (pN p), .un, .un, .un, .un, .un] (by
      rw [if_f (by simp [isi_pN, len_pN, ne_22, pN_0, pN_1, is_count_nI])]
      rfl)]
    rw [if_f]
    · rfl
    · have gt0 : cmpM .Gt (nI k) (.int 0) = ret (.bool (decide (0 < k))) := by
        rw [show cmpM .Gt (nI k) (.int 0) = ret (.bool (decide ((0 : Int) < k))) from rfl]
        congr 2
        exact decide_eq_decide.mpr (by omega)
      by_cases k0 : 0 < k
      · have hp' : ps[k - 1]? = some ps[k - 1] := List.getElem?_eq_getElem (by omega)
        have hr : PR ps[k - 1] p := by
          have := List.pairwise_iff_getElem.mp h.srt (k - 1) k (by omega) hk (by omega)
          rw [List.getElem?_eq_getElem hk] at hp
          cases hp
          exact this
        simp [pN_0, pN_1, l1, l2, gt0, k0, nI_sub k0, ix_pairs hp', ge_pN hr]
      · simp [pN_0, pN_1, l1, l2, gt0, k0]
end Kw
set_option maxHeartbeats 1000000
namespace Kw
open PySem PySem.Spec PyProof.Rows

/-! ### the law's own webs -/
abbrev pL (ps : List (Nat × Nat)) : D := .list (ps.map pN)
@[simp] theorem bodyC_tp {i j : Nat} {t : DT} {e : DE} {ρ : Env} {p : Nat × Nat} : bodyC (.tup [i, j]) t e ρ (pN p) = bnd (t ((ρ.set i (.val (nI p.1))).set j (.val (nI p.2)))) fun b => if b = true then bnd (e ((ρ.set i (.val (nI p.1))).set j (.val (nI p.2)))) fun y => ret [y] else ret [] := rfl
def nl1 (ps : List (Nat × Nat)) (i : Nat) : List Nat := (ps.filter fun p => decide (p.1 = i)).map (·.2)
def nl2 (ps : List (Nat × Nat)) (i : Nat) : List Nat := (ps.filter fun p => decide (p.2 = i)).map (·.1)
theorem nl1_mem {ps : List (Nat × Nat)} {i x : Nat} : x ∈ nl1 ps i ↔ (i, x) ∈ ps := by
  unfold nl1
  rw [List.mem_map]
  constructor
  · rintro ⟨⟨a, b⟩, h, rfl⟩
    obtain ⟨h1, h2⟩ := List.mem_filter.mp h
    simp at h2
    subst h2
    exact h1
  · intro h
    exact ⟨_, List.mem_filter.mpr ⟨h, by simp⟩, rfl⟩
theorem nl2_mem {ps : List (Nat × Nat)} {i x : Nat} : x ∈ nl2 ps i ↔ (x, i) ∈ ps := by
  unfold nl2
  rw [List.mem_map]
  constructor
  · rintro ⟨⟨a, b⟩, h, rfl⟩
    obtain ⟨h1, h2⟩ := List.mem_filter.mp h
    simp at h2
    subst h2
    exact h1
  · intro h
    exact ⟨_, List.mem_filter.mpr ⟨h, by simp⟩, rfl⟩
theorem nl_nd {n i : Nat} {ps : List (Nat × Nat)} (h : PairsOk n ps) : (nl1 ps i ++ nl2 ps i).Nodup := by
  refine List.nodup_append.mpr ⟨?_, ?_, fun a ha b hb e => ?_⟩
  · refine List.pairwise_map.mpr (List.Pairwise.imp_of_mem (fun {p q} hp hq hpq => ?_) (h.srt.filter _))
    have e1 := (List.mem_filter.mp hp).2
    have e2 := (List.mem_filter.mp hq).2
    simp at e1 e2
    unfold PR at hpq
    omega
  · refine List.pairwise_map.mpr (List.Pairwise.imp_of_mem (fun {p q} hp hq hpq => ?_) (h.srt.filter _))
    have e1 := (List.mem_filter.mp hp).2
    have e2 := (List.mem_filter.mp hq).2
    simp at e1 e2
    unfold PR at hpq
    omega
  · subst e
    have := (h.lt _ (nl1_mem.mp ha)).1
    have := (h.lt _ (nl2_mem.mp hb)).1
    simp at *
    omega
theorem nl_mem {n i : Nat} {ps : List (Nat × Nat)} (h : PairsOk n ps) : ∀ x, x ∈ nl1 ps i ++ nl2 ps i ↔ x < n ∧ adj ps i x = true := fun x => by
  rw [List.mem_append, nl1_mem, nl2_mem, adj_iff]
  constructor
  · rintro (q | q)
    · exact ⟨(h.lt _ q).2, .inl q⟩
    · have := h.lt _ q
      simp at this
      exact ⟨by omega, .inr q⟩
  · exact fun q => q.2
theorem lnear_r {n i : Nat} {ps : List (Nat × Nat)} (h : PairsOk n ps) : m__law_near [pL ps, nI i] = ret (tN (near n ps i)) := by
  unfold m__law_near
  rw [def2]
  have hl := h.len
  have e1 : eComp [2, 3] (.tup [2, 3]) (tBool (eBin (cmpM .Eq) (eBor 2) (eBor 1))) (eVar 3) (iSeq (eBor 0)) [.val (pL ps), .val (nI i), .un, .un] = ret ((nl1 ps i).map nI) := by
    rw [comp_f (enc := pN) (xs := ps) (p := fun p => decide (p.1 = i)) (g := fun p => nI p.2)]
    · simp [nl1, Function.comp_def]
    · simp
    · intro p hp
      simp [eq_nI]
  have e2 : eComp [2, 3] (.tup [2, 3]) (tBool (eBin (cmpM .Eq) (eBor 3) (eBor 1))) (eVar 2) (iSeq (eBor 0)) [.val (pL ps), .val (nI i), .un, .un] = ret ((nl2 ps i).map nI) := by
    rw [comp_f (enc := pN) (xs := ps) (p := fun p => decide (p.2 = i)) (g := fun p => nI p.1)]
    · simp [nl2, Function.comp_def]
    · simp
    · intro p hp
      simp [eq_nI]
  have l1 : (nl1 ps i).length ≤ 1000 := by unfold nl1; rw [List.length_map]; exact Nat.le_trans (List.length_filter_le _ _) hl
  have l2 : (nl2 ps i).length ≤ 1000 := by unfold nl2; rw [List.length_map]; exact Nat.le_trans (List.length_filter_le _ _) hl
  have e3 := app_l (xs := (nl1 ps i).map nI) (ys := (nl2 ps i).map nI) (by simp; omega)
  have e4 := sorted_canon (d := .list ((nl1 ps i).map nI ++ (nl2 ps i).map nI)) (l := nl1 ps i ++ nl2 ps i) (by rw [items_l, List.map_append]) (nl_nd h) (nl_mem h)
  simp [s__law_near, e1, e2, e3, e4]
  rfl
theorem lball_r {n i : Nat} {ps : List (Nat × Nat)} (hi : i < n) (h : PairsOk n ps) (hn : n ≤ 100) : m__law_ball [pL ps, nI i] = ret (tN (ball n ps i)) := by
  unfold m__law_ball
  rw [def2]
  have e1 : PyData.tuple [nI i] = tN [i] := rfl
  have e2 := app_tN (l := near n ps i) (m := [i]) (by have := canon_len (n := n) (P := adj ps i); simp [near]; omega)
  have e3 := sorted_canon (d := tN (near n ps i ++ [i])) rfl (near_i_nd h) (near_i_mem hi)
  simp [s__law_ball, lnear_r h, e1, e2, e3]
  rfl
def marks (n : Nat) (ps : List (Nat × Nat)) (s : List Nat) (k : Nat) : List Nat := (ball n ps k).filter fun x => decide (x ∈ s)
theorem W_meth {m : Str} {F : List D → M D} {o : DE} {a : DA} {ρ : Env} {n : Nat} {ps : List (Nat × Nat)} (h : o ρ = ret (W n ps)) (hm : lookD [(.str "many", nI n), (.str "pairs", .tuple (ps.map pN)), (.str "rows", .tuple ((List.range n).map fun i => tN (near n ps i)))] (.str m) = none) : eMeth m "Web" F o a ρ = bnd (a ρ) fun ds => F (W n ps :: ds) := by
  unfold eMeth
  rw [h]
  have q : ∀ x : D, x = W n ps → (match x with
    | .dict l => match tagD l with
      | .obj c' fs => if c' = "Web" ∧ lookD fs (.str m) = none then bnd (a ρ) fun ds => F (x :: ds) else bad
      | _ => bad
    | _ => bad) = bnd (a ρ) fun ds => F (W n ps :: ds) := fun x e => by
    subst e
    exact if_pos ⟨rfl, hm⟩
  exact q _ rfl
theorem look_ball {a b c : D} : lookD [(.str "many", a), (.str "pairs", b), (.str "rows", c)] (.str "ball") = none := by kernel_rfl
theorem look_near {a b c : D} : lookD [(.str "many", a), (.str "pairs", b), (.str "rows", c)] (.str "near") = none := by kernel_rfl
theorem eball_r {n i : Nat} {ps : List (Nat × Nat)} {o e : DE} {ρ : Env} (ho : o ρ = ret (W n ps)) (he : e ρ = ret (nI i)) (hi : i < n) (h : PairsOk n ps) (hn : n ≤ 100) : eMeth "ball" "Web" m_Web_ball o (aCons e aNil) ρ = ret (tN (ball n ps i)) := by
  rw [W_meth ho look_ball]
  simp [he, ball_r hi hn h]
/-! ### all sets -/
def gen : Nat → List (List Nat)
  | 0 => [[]]
  | k + 1 => gen k ++ (gen k).map (· ++ [k])
theorem gen_len : ∀ k, (gen k).length = 2 ^ k
  | 0 => rfl
  | k + 1 => by rw [gen, List.length_append, List.length_map, gen_len k, Nat.pow_succ]; omega
theorem gen_mem : ∀ {k : Nat} {s : List Nat}, s ∈ gen k ↔ s.Pairwise (· < ·) ∧ ∀ x ∈ s, x < k
  | 0, s => by
    rw [gen, List.mem_singleton]
    constructor
    · rintro rfl; exact ⟨List.Pairwise.nil, fun _ z => by cases z⟩
    · rintro ⟨_, h⟩
      cases s with
      | nil => rfl
      | cons x r => exact absurd (h x List.mem_cons_self) (Nat.not_lt_zero _)
  | k + 1, s => by
    rw [gen, List.mem_append, List.mem_map]
    constructor
    · rintro (h | ⟨r, h, rfl⟩)
      · obtain ⟨h1, h2⟩ := gen_mem.mp h
        exact ⟨h1, fun x hx => Nat.lt_succ_of_lt (h2 x hx)⟩
      · obtain ⟨h1, h2⟩ := gen_mem.mp h
        refine ⟨List.pairwise_append.mpr ⟨h1, by simp, fun a ha b hb => by simp at hb; subst hb; exact h2 a ha⟩, fun x hx => ?_⟩
        rcases List.mem_append.mp hx with hx | hx
        · exact Nat.lt_succ_of_lt (h2 x hx)
        · simp at hx; omega
    · rintro ⟨h1, h2⟩
      rcases List.eq_nil_or_concat s with h | ⟨r, z, h⟩
      · subst h
        exact .inl (gen_mem.mpr ⟨List.Pairwise.nil, fun _ z => by cases z⟩)
      · have hs : s = r ++ [z] := by simpa using h
        subst hs
        obtain ⟨p1, _, p3⟩ := List.pairwise_append.mp h1
        have hz := h2 z (by simp)
        by_cases e : z = k
        · subst e
          exact .inr ⟨r, gen_mem.mpr ⟨p1, fun x hx => p3 x hx z (by simp)⟩, rfl⟩
        · refine .inl (gen_mem.mpr ⟨h1, fun x hx => ?_⟩)
          rcases List.mem_append.mp hx with hx | hx
          · have := p3 x hx z (by simp); omega
          · simp at hx; omega
def enc2 (s : List Nat) : D := .tuple [nI s.length, tN s]
def le2 (a b : List Nat) : Bool := leD (enc2 a) (enc2 b)
def setsT (n : Nat) : List (List Nat) := (gen n).mergeSort le2
theorem sets_mem {n : Nat} {s : List Nat} : s ∈ setsT n ↔ s.Pairwise (· < ·) ∧ ∀ x ∈ s, x < n := (List.mergeSort_perm _ _).mem_iff.trans gen_mem
theorem sets_len {n : Nat} : (setsT n).length = 2 ^ n := (List.mergeSort_perm _ _).length_eq.trans (gen_len n)
theorem alikeAll_nI : ∀ a b : List Nat, PySem.W.alikeAll (a.map nI) (b.map nI) = true
  | [], _ => by simp [PySem.W.alikeAll]
  | _ :: _, [] => by simp [PySem.W.alikeAll]
  | x :: a, y :: b => by
    have := alikeAll_nI a b
    simp [PySem.W.alikeAll, nI, PySem.W.alike, this] at *
theorem alike_tN (a b : List Nat) : PySem.W.alike (tN a) (tN b) = true := by
  unfold tN
  rw [PySem.W.alike]
  exact alikeAll_nI a b
theorem dlt_tN (a b : List Nat) : PySem.W.dataLt (tN a) (tN b) = decide (castL a < castL b) := by
  have := PySem.W.dataLt_ints (castL a) (castL b)
  rw [← this]
  unfold tN PySem.W.rowLt
  rw [PySem.W.dataLt_tuple, nI_cast, nI_cast]
theorem le2_iff {a b : List Nat} : le2 a b = true ↔ a.length < b.length ∨ (a.length = b.length ∧ ¬ castL b < castL a) := by
  have e : le2 a b = !PySem.W.dataLt (enc2 b) (enc2 a) := rfl
  rw [e]
  unfold enc2
  rw [PySem.W.dataLt_pair (by simp [nI, PySem.W.alike]) (alike_tN b a), eqv_nI, eqv_tN, dlt_tN]
  unfold nI
  rw [dlt_int]
  by_cases h : b.length = a.length
  · simp only [h, decide_true, if_true]
    by_cases q : b = a
    · subst q
      simp
    · simp [q]
  · simp [h]
    omega
theorem le2_trans (a b c : List Nat) (h1 : le2 a b = true) (h2 : le2 b c = true) : le2 a c = true := by
  rw [le2_iff] at *
  rcases h1 with h1 | ⟨h1, g1⟩ <;> rcases h2 with h2 | ⟨h2, g2⟩
  · exact .inl (by omega)
  · exact .inl (by omega)
  · exact .inl (by omega)
  · exact .inr ⟨by omega, List.not_lt.mpr (List.le_trans (List.not_lt.mp g1) (List.not_lt.mp g2))⟩
theorem le2_total (a b : List Nat) : (le2 a b || le2 b a) = true := by
  rw [Bool.or_eq_true, le2_iff, le2_iff]
  rcases Nat.lt_trichotomy a.length b.length with h | h | h
  · exact .inl (.inl h)
  · by_cases q : castL b < castL a
    · exact .inr (.inr ⟨h.symm, List.not_lt.mpr (List.le_of_lt q)⟩)
    · exact .inl (.inr ⟨h, q⟩)
  · exact .inr (.inl h)
theorem sets_srt {n : Nat} : (setsT n).Pairwise fun a b => le2 a b = true := List.pairwise_mergeSort le2_trans le2_total _
theorem sets_r {n : Nat} (hn : n ≤ 10) : m__law_sets [nI n] = ret (lT (setsT n)) := by
  unfold m__law_sets
  rw [def1]
  unfold s__law_sets
  rw [seq_nx [.val (nI n), .val (lT (gen 0)), .un, .un, .un] (by simp; rfl)]
  have lp := for_pre (enc := nI) (tg := .nm 2) (xs := List.range n) (ρ := [.val (nI n), .val (lT (gen 0)), .un, .un, .un])
    (body := sSet 1 (slV (eBin (binM .Add) (eBor 1) (eFl (eComp [3] (.nm 3) tYesM (eBin (binM .Add) (eBor 3) (eTup (aCons (eVar 2) aNil))) (iSeq (eBor 1)))))))
    (fun pre ρ => ∃ x : Slot, ρ = [.val (nI n), .val (lT (gen pre.length)), x, .un, .un]) ?_ ⟨.un, rfl⟩
  · obtain ⟨ρ', e, x, rfl⟩ := lp
    rw [List.length_range] at e
    rw [seq_nx [.val (nI n), .val (lT (gen n)), x, .un, .un] (by
      rw [sFor_r, range1_r (n := n) (by simp) (by omega), bnd_ret]
      exact e)]
    have e1 : eComp [3] (.nm 3) tYesM (eTup (aCons (eCall lenM (aCons (eBor 3) aNil)) (aCons (eVar 3) aNil))) (iSeq (eBor 1)) [.val (nI n), .val (lT (gen n)), x, .un, .un] = ret ((gen n).map enc2) := by
      rw [comp_a (enc := tN) (xs := gen n) (g := enc2)]
      · simp
      · intro s hs
        simp [enc2]
    have e2 : sortedM [.list ((gen n).map enc2)] = ret ((setsT n).map enc2) := by
      have okd : ∀ d ∈ (gen n).map enc2, Ok 2 d ∧ tupConsB d = true ∧ ∀ e ∈ (gen n).map enc2, PySem.W.alike d e = true := fun d hd => by
        obtain ⟨s, _, rfl⟩ := List.mem_map.mp hd
        refine ⟨ok_tup fun y hy => ?_, rfl, fun e he => ?_⟩
        · simp at hy
          rcases hy with rfl | rfl
          · exact (ok_nI _).mono (by decide)
          · exact ok_tN _
        · obtain ⟨r, _, rfl⟩ := List.mem_map.mp he
          have := alike_tN s r
          unfold enc2
          rw [PySem.W.alike]
          simp [PySem.W.alikeAll, this]
          simp [nI, PySem.W.alike]
      have hB : sortB ((gen n).map enc2) = true := by
        unfold sortB alikeB
        rw [Bool.and_eq_true]
        refine ⟨List.all_eq_true.mpr fun d hd => ?_, ?_⟩
        · obtain ⟨⟨o1, o2⟩, _, a⟩ := okd d hd
          rw [o1, Bool.true_and, Bool.and_eq_true]
          exact ⟨decide_eq_true (by omega), List.all_eq_true.mpr a⟩
        · rw [Bool.or_eq_true]
          exact .inl (List.all_eq_true.mpr fun d hd => (okd d hd).2.1)
      simp only [sortedM, items_l]
      rw [if_pos (sortE_of hB)]
      unfold sortL setsT
      rw [List.map_mergeSort (s := leD)]
      intro a _ b _
      rfl
    have e3 : eComp [4, 3] (.tup [4, 3]) tYesM (eVar 3) (iSeq (eFl (aCall sortedM (aCons (eFl (eComp [3] (.nm 3) tYesM (eTup (aCons (eCall lenM (aCons (eBor 3) aNil)) (aCons (eVar 3) aNil))) (iSeq (eBor 1)))) aNil)))) [.val (nI n), .val (lT (gen n)), x, .un, .un] = ret ((setsT n).map tN) := by
      rw [comp_a (enc := enc2) (xs := setsT n) (g := tN)]
      · simp only [iSeq_r, eFl_r, aCall_r, aCons_r, e1, bnd_ret, aNil_r, e2, seqM_l]
      · intro s hs
        rfl
    simp only [sRet_r, eFl_r, e3, bnd_ret, finM_rt, map_lT]
  · rintro pre k suf ρ epre ⟨x, rfl⟩
    have hk : k = pre.length ∧ k < n := by
      have h1 : (List.range n)[pre.length]? = some k := by rw [epre]; simp
      have h2 := (List.getElem?_eq_some_iff.mp h1)
      obtain ⟨h2, h3⟩ := h2
      simp at h2 h3
      omega
    obtain ⟨hk, hkn⟩ := hk
    refine ⟨_, rfl, [.val (nI n), .val (lT (gen (k + 1))), .val (nI k), .un, .un], ?_, .val (nI k), by rw [List.length_append, hk]; rfl⟩
    simp only [List.set_cons_succ, List.set_cons_zero]
    rw [← hk]
    have e1 : eComp [3] (.nm 3) tYesM (eBin (binM .Add) (eBor 3) (eTup (aCons (eVar 2) aNil))) (iSeq (eBor 1)) [.val (nI n), .val (lT (gen k)), .val (nI k), .un, .un] = ret (((gen k).map (· ++ [k])).map tN) := by
      rw [comp_a (enc := tN) (xs := gen k) (g := fun s => tN (s ++ [k]))]
      · simp [Function.comp_def]
      · simp
      · intro s hs
        obtain ⟨h1, h2⟩ := gen_mem.mp hs
        have ls : s.length ≤ k := nodup_lt (h1.imp fun h e => absurd (e ▸ h) (Nat.lt_irrefl _)) h2
        have e0 : PyData.tuple [nI k] = tN [k] := rfl
        simp [e0, app_tN (l := s) (m := [k]) (by simp; omega)]
    have gl := gen_len k
    have gb : 2 ^ k ≤ 2 ^ 10 := Nat.pow_le_pow_right (by decide) (by omega)
    have g10 : (2 : Nat) ^ 10 = 1024 := by decide
    have e2 := app_l (xs := (gen k).map tN) (ys := ((gen k).map (· ++ [k])).map tN) (by simp; omega)
    rw [sSet_r, slV_r, eBin_r, eFl_r, e1]
    simp only [eBor_r, getB_s, getB_0, bnd_ret, lT, e2, List.set_cons_succ, List.set_cons_zero]
    rw [gen, List.map_append]
end Kw
set_option maxHeartbeats 1000000
namespace Kw
open PySem PySem.Spec PyProof.Rows

/-! ### is it a set of states -/
theorem inc_iff {s : List Nat} : (∀ k, k + 1 < s.length → s.getD k 0 < s.getD (k + 1) 0) ↔ s.Pairwise (· < ·) := by
  constructor
  · intro h
    refine List.pairwise_iff_getElem.mpr fun i j hi hj hij => ?_
    have go : ∀ d i, i + d + 1 < s.length → s.getD i 0 < s.getD (i + d + 1) 0 := fun d => by
      induction d with
      | zero => intro i hi; exact h i hi
      | succ d ih =>
        intro i hi
        have h1 := ih i (by omega)
        have h2 := h (i + d + 1) (by omega)
        rw [show i + (d + 1) + 1 = i + d + 1 + 1 by omega]
        omega
    have := go (j - i - 1) i (by omega)
    rw [show i + (j - i - 1) + 1 = j by omega] at this
    rw [List.getD_eq_getElem?_getD, List.getD_eq_getElem?_getD, List.getElem?_eq_getElem hi, List.getElem?_eq_getElem hj] at this
    exact this
  · intro h k hk
    have := List.pairwise_iff_getElem.mp h k (k + 1) (by omega) hk (by omega)
    rw [List.getD_eq_getElem?_getD, List.getD_eq_getElem?_getD, List.getElem?_eq_getElem (by omega), List.getElem?_eq_getElem hk]
    exact this
theorem range1_z {ρ : Env} {a : DE} {z : Int} (h : a ρ = ret (.int z)) (h1 : -1000000000 ≤ z) (h2 : z ≤ 16777216) : eRange1 a ρ = ret ((List.range z.toNat).map nI) := by
  unfold eRange1
  rw [h]
  show (if -1000000000 ≤ z ∧ z ≤ 16777216 then ret ((List.range z.toNat).map fun i => PyData.int (i : Nat)) else bad) = _
  rw [if_pos ⟨h1, h2⟩]
  rfl
theorem getD_at {s : List Nat} {k : Nat} (h : k < s.length) : s[k]? = some (s.getD k 0) := by
  rw [List.getD_eq_getElem?_getD, List.getElem?_eq_getElem h]
  rfl
theorem isi_tN {s : List Nat} : isiM "tuple" (tN s) = ret (.bool true) := rfl
theorem state_set_r {n : Nat} {s : List Nat} (hs : s.length ≤ 1000) : m_is_state_set [tN s, nI n] = ret (.bool (decide (s ∈ setsT n))) := by
  show bnd (s_is_state_set [.val (tN s), .val (nI n), .un, .un]) finM = _
  unfold s_is_state_set
  have e1 : eComp [2] (.nm 2) tYesM (eAnd (eCall m_is_count (aCons (eVar 2) aNil)) (eBin (cmpM .Lt) (eBor 2) (eBor 1))) (iSeq (eBor 0)) [.val (tN s), .val (nI n), .un, .un] = ret (s.map fun x => .bool (decide (x < n))) := by
    rw [comp_a (enc := nI) (xs := s) (g := fun x => .bool (decide (x < n)))]
    · simp
    · intro x hx
      simp [is_count_nI]
  by_cases ha : s.all (fun x => decide (x < n)) = true
  · rw [seq_nx [.val (tN s), .val (nI n), .un, .un] (by
      rw [if_f (by simp [isi_tN, e1, allM_map, ha])]
      rfl)]
    have e2 : eComp [3] (.nm 3) tYesM (eBin (cmpM .Lt) (eBin ixM (eBor 0) (eBor 3)) (eBin ixM (eBor 0) (eBin (binM .Add) (eBor 3) (eC (.int 1))))) (eRange1 (eBin (binM .Sub) (eCall lenM (aCons (eBor 0) aNil)) (eC (.int 1)))) [.val (tN s), .val (nI n), .un, .un] = ret ((List.range (s.length - 1)).map fun k => .bool (decide (s.getD k 0 < s.getD (k + 1) 0))) := by
      have ez : ((s.length : Int) - 1).toNat = s.length - 1 := by omega
      rw [comp_a (enc := nI) (xs := List.range (s.length - 1)) (g := fun k => .bool (decide (s.getD k 0 < s.getD (k + 1) 0)))]
      · rw [range1_z (z := (s.length : Int) - 1) (by simp) (by omega) (by omega), ez]
      · intro k hk
        have hk' := List.mem_range.mp hk
        have a1 : binM .Add (nI k) (.int 1) = ret (nI (k + 1)) := rfl
        simp only [bodyC_nm, wipe_cons, wipe_nil, List.set_cons_succ, List.set_cons_zero, tYes_r, bnd_ret, if_true, eBin_r, eBor_r, getB_s, getB_0, eC_r, a1, ix_tN (getD_at (s := s) (k := k) (by omega)), ix_tN (getD_at (s := s) (k := k + 1) (by omega)), lt_nI]
    simp only [sRet_r, eCall_r, aCons_r, eFl_r, e2, bnd_ret, aNil_r, allM_map, finM_rt]
    congr 2
    have ha' : ∀ x ∈ s, x < n := fun x hx => of_decide_eq_true (List.all_eq_true.mp ha x hx)
    rw [Bool.eq_iff_iff, decide_eq_true_iff, sets_mem, ← inc_iff, List.all_eq_true]
    constructor
    · intro h
      exact ⟨fun k hk => of_decide_eq_true (h k (List.mem_range.mpr (by omega))), ha'⟩
    · intro h k hk
      have := List.mem_range.mp hk
      exact decide_eq_true (h.1 k (by omega))
  · rw [seq_rt (.bool false) (by
      rw [if_t (by simp [isi_tN, e1, allM_map, Bool.eq_false_iff.mpr ha])]
      simp)]
    simp only [bnd_ret, finM_rt]
    congr 2
    symm
    refine decide_eq_false fun h => ha (List.all_eq_true.mpr fun x hx => decide_eq_true ((sets_mem.mp h).2 x hx))
theorem state_set_none {n : Nat} : m_is_state_set [.none, nI n] = ret (.bool false) := by
  unfold m_is_state_set
  rw [def2]
  unfold s_is_state_set
  rw [seq_rt (.bool false) (by
    rw [if_t (by simp [isi_tuple_n])]
    simp)]
  simp
theorem state_set_list {n : Nat} {l : List D} : m_is_state_set [.list l, nI n] = ret (.bool false) := by
  unfold m_is_state_set
  rw [def2]
  unfold s_is_state_set
  rw [seq_rt (.bool false) (by
    rw [if_t (by simp [isi_tuple_l])]
    simp)]
  simp
theorem state_set_true {n : Nat} : m_is_state_set [.tuple [.bool true], nI n] = ret (.bool false) := by
  show bnd (s_is_state_set [.val (.tuple [.bool true]), .val (nI n), .un, .un]) finM = _
  unfold s_is_state_set
  rw [seq_rt (.bool false) (by
    have e1 : eComp [2] (.nm 2) tYesM (eAnd (eCall m_is_count (aCons (eVar 2) aNil)) (eBin (cmpM .Lt) (eBor 2) (eBor 1))) (iSeq (eBor 0)) [.val (.tuple [.bool true]), .val (nI n), .un, .un] = ret [.bool false] := by
      rw [comp_a (enc := PyData.bool) (xs := [true]) (g := fun _ => .bool false)]
      · rfl
      · rfl
      · intro x hx
        simp [is_count_bool]
    rw [if_t (by simp [isi_tuple, e1]; rfl)]
    simp)]
  simp
theorem state_set_0t {n : Nat} : m_is_state_set [.tuple [.int 0, .bool true], nI n] = ret (.bool false) := by
  show bnd (s_is_state_set [.val (.tuple [.int 0, .bool true]), .val (nI n), .un, .un]) finM = _
  unfold s_is_state_set
  have c0 : m_is_count [PyData.int 0] = ret (.bool true) := is_count_nI 0
  have l0 : cmpM .Lt (PyData.int 0) (nI n) = ret (.bool (decide (0 < n))) := lt_nI (a := 0)
  rw [seq_rt (.bool false) (by
    have e1 : eComp [2] (.nm 2) tYesM (eAnd (eCall m_is_count (aCons (eVar 2) aNil)) (eBin (cmpM .Lt) (eBor 2) (eBor 1))) (iSeq (eBor 0)) [.val (.tuple [.int 0, .bool true]), .val (nI n), .un, .un] = ret [.bool (decide (0 < n)), .bool false] := by
      rw [comp_a (enc := fun b : Bool => if b = true then PyData.bool true else PyData.int 0) (xs := [false, true]) (g := fun b => if b = true then .bool false else .bool (decide (0 < n)))]
      · rfl
      · rfl
      · intro x hx
        cases x
        · simp [c0, l0]
        · simp [is_count_bool]
    have a1 : allM [PyData.list [.bool (decide (0 < n)), .bool false]] = ret (.bool false) := by
      have := allM_map (p := fun b : Bool => if b = true then false else decide (0 < n)) (xs := [false, true])
      simpa using this
    rw [if_t (by simp [isi_tuple, e1, a1])]
    simp)]
  simp

/-! ### the law's own reading -/
theorem counts_tN {s : List Nat} : m__law_counts [tN s, nI s.length] = ret (.bool true) := by
  show bnd (s__law_counts [.val (tN s), .val (nI s.length), .un]) finM = _
  unfold s__law_counts
  have e1 : eComp [2] (.nm 2) tYesM (eAnd (eUn (isiM "int") (eBor 2)) (eAnd (eNot (eUn (isiM "bool") (eBor 2))) (eBin (cmpM .GtE) (eBor 2) (eC (.int 0))))) (iSeq (eBor 0)) [.val (tN s), .val (nI s.length), .un] = ret (s.map fun _ => .bool true) := by
    rw [comp_a (enc := nI) (xs := s) (g := fun _ => .bool true)]
    · simp
    · intro x hx
      have q : isiM "int" (nI x) = ret (.bool true) := isi_int
      have q2 : isiM "bool" (nI x) = ret (.bool false) := isi_bool_int
      have q3 : cmpM .GtE (nI x) (.int 0) = ret (.bool true) := by
        rw [show cmpM .GtE (nI x) (.int 0) = ret (.bool (decide ((0 : Int) ≤ x))) from rfl, decide_eq_true (by omega)]
      simp [q, q2, q3]
  have e2 : cmpM .NotIn (.bool false) (.list (s.map fun _ => .bool true)) = ret (.bool true) := by
    show hasD true (.bool false) (s.map fun _ => .bool true) = _
    unfold hasD
    rw [if_pos ⟨rfl, (all_ok (k := 0) fun d hd => by obtain ⟨_, _, rfl⟩ := List.mem_map.mp hd; exact ok_bool _).1, by simp [PyData.depth]⟩]
    congr 2
    have : ((s.map fun _ => PyData.bool true).any fun z => PyData.eqv z (.bool false)) = false := by
      rw [List.any_eq_false]
      intro d hd
      obtain ⟨_, _, rfl⟩ := List.mem_map.mp hd
      simp [PyData.eqv]
    rw [this]
    rfl
  simp [isi_tN, eq_nI, e1, e2]
theorem listM_tN {s : List Nat} : listM [tN s] = ret (s.map nI) := rfl
theorem eq_ints {a b : List Int} : cmpM .Eq (.list (a.map PyData.int)) (.list (b.map PyData.int)) = ret (.bool (decide (a = b))) := by
  have o : ∀ l : List Int, Ok 1 (.list (l.map PyData.int)) := fun l => ok_lst (canLay_ints l)
  rw [eq_ok (o a) (o b), PyData.eqv]
  congr 2
  exact eqvAll_map fun x y => by rw [PyData.eqv, beq_int]
theorem law_set_r {n : Nat} {s : List Nat} (hs : s.length < 60) : m__law_set [tN s, nI n] = ret (.bool (decide (s ∈ setsT n))) := by
  show bnd (s__law_set [.val (tN s), .val (nI n), .un]) finM = _
  unfold s__law_set
  have e1 : eComp [2] (.nm 2) (tBool (eBin (cmpM .GtE) (eBor 2) (eBor 1))) (eVar 2) (iSeq (eBor 0)) [.val (tN s), .val (nI n), .un] = ret ((s.filter fun x => decide (n ≤ x)).map nI) := by
    rw [comp_f (enc := nI) (xs := s) (p := fun x => decide (n ≤ x)) (g := nI)]
    · simp
    · intro x hx
      have q3 : cmpM .GtE (nI x) (nI n) = ret (.bool (decide (n ≤ x))) := by
        rw [show cmpM .GtE (nI x) (nI n) = ret (.bool (decide ((n : Int) ≤ x))) from rfl]
        congr 2
        exact decide_eq_decide.mpr (by omega)
      simp [q3]
  have e2 : cmpM .Eq (.list (s.map nI)) (.list ((usort (castL s)).map PyData.int)) = ret (.bool (decide (s.Pairwise (· < ·)))) := by
    rw [nI_cast, eq_ints]
    congr 2
    refine decide_eq_decide.mpr ⟨fun h => ?_, fun h => ?_⟩
    · have := msI_lt (dd_nodup (castL s))
      have h2 : (castL s).Pairwise (· < ·) := by rw [h]; exact this
      unfold castL at h2
      exact (List.pairwise_map.mp h2).imp fun q => by omega
    · refine sort_ext (cast_lt h) (msI_lt (dd_nodup _)) fun x => ?_
      show x ∈ castL s ↔ x ∈ msI (dd (castL s))
      rw [msI_mem, dd_mem]
  have e3 : cmpM .Eq (nI (s.filter fun x => decide (n ≤ x)).length) (.int 0) = ret (.bool (decide ((s.filter fun x => decide (n ≤ x)).length = 0))) := eq_nI (b := 0)
  have key : (decide (s.Pairwise (· < ·)) && decide ((s.filter fun x => decide (n ≤ x)).length = 0)) = decide (s ∈ setsT n) := by
    rw [Bool.eq_iff_iff, Bool.and_eq_true, decide_eq_true_iff, decide_eq_true_iff, decide_eq_true_iff, sets_mem, List.length_eq_zero_iff, List.filter_eq_nil_iff]
    simp
  simp only [sRet_r, eAnd_r, eUn_r, eBor_r, getB_0, getB_s, getV_0, getV_s, eVar_r, bnd_ret, isi_tN, truM_b, if_true, eCall_r, aCons_r, aNil_r, len_tN, counts_tN, eBin_r, eFl_r, aCall_r, listM_tN, aOf_r, sortSet_tN hs, e2, e1, len_l, List.length_map, eC_r, e3]
  rw [← key]
  cases decide (s.Pairwise (· < ·)) <;> simp
theorem law_set_none {n : Nat} : m__law_set [.none, nI n] = ret (.bool false) := by
  unfold m__law_set
  rw [def2]
  simp [s__law_set, isi_tuple_n]
theorem law_set_list {n : Nat} {l : List D} : m__law_set [.list l, nI n] = ret (.bool false) := by
  unfold m__law_set
  rw [def2]
  simp [s__law_set, isi_tuple_l]
theorem nin_ff {l : List D} (hl : ∀ d ∈ l, Ok 0 d) (h : PyData.bool false ∈ l) : cmpM .NotIn (.bool false) (.list l) = ret (.bool false) := by
  show hasD true (.bool false) l = _
  unfold hasD
  rw [if_pos ⟨rfl, (all_ok hl).1, by simp [PyData.depth]⟩]
  congr 2
  have : (l.any fun z => PyData.eqv z (.bool false)) = true := List.any_eq_true.mpr ⟨_, h, by simp [PyData.eqv]⟩
  rw [this]
  rfl
theorem law_set_true {n : Nat} : m__law_set [.tuple [.bool true], nI n] = ret (.bool false) := by
  have c : m__law_counts [.tuple [.bool true], nI 1] = ret (.bool false) := by
    show bnd (s__law_counts [.val (.tuple [.bool true]), .val (nI 1), .un]) finM = _
    unfold s__law_counts
    have e1 : eComp [2] (.nm 2) tYesM (eAnd (eUn (isiM "int") (eBor 2)) (eAnd (eNot (eUn (isiM "bool") (eBor 2))) (eBin (cmpM .GtE) (eBor 2) (eC (.int 0))))) (iSeq (eBor 0)) [.val (.tuple [.bool true]), .val (nI 1), .un] = ret [.bool false] := by
      rw [comp_a (enc := PyData.bool) (xs := [true]) (g := fun _ => .bool false)]
      · rfl
      · rfl
      · intro x hx
        simp [isi_int_bool, isi_bool_bool]
    simp [isi_tuple, eq_nI, e1, nin_ff (l := [.bool false]) (by simp [ok_bool]) (by simp)]
  unfold m__law_set
  rw [def2]
  simp [s__law_set, isi_tuple, c]
theorem law_set_0t {n : Nat} : m__law_set [.tuple [.int 0, .bool true], nI n] = ret (.bool false) := by
  have c : m__law_counts [.tuple [.int 0, .bool true], nI 2] = ret (.bool false) := by
    show bnd (s__law_counts [.val (.tuple [.int 0, .bool true]), .val (nI 2), .un]) finM = _
    unfold s__law_counts
    have e1 : eComp [2] (.nm 2) tYesM (eAnd (eUn (isiM "int") (eBor 2)) (eAnd (eNot (eUn (isiM "bool") (eBor 2))) (eBin (cmpM .GtE) (eBor 2) (eC (.int 0))))) (iSeq (eBor 0)) [.val (.tuple [.int 0, .bool true]), .val (nI 2), .un] = ret [.bool true, .bool false] := by
      rw [comp_a (enc := fun b : Bool => if b = true then PyData.bool true else PyData.int 0) (xs := [false, true]) (g := fun b => if b = true then .bool false else .bool true)]
      · rfl
      · rfl
      · intro x hx
        cases x
        · simp [isi_int, isi_bool_int, ge_int]
        · simp [isi_int_bool, isi_bool_bool]
    simp [isi_tuple, eq_nI, e1, nin_ff (l := [.bool true, .bool false]) (by simp [ok_bool]) (by simp)]
  unfold m__law_set
  rw [def2]
  simp [s__law_set, isi_tuple, c]
end Kw
set_option maxHeartbeats 1000000
namespace Kw
open PySem PySem.Spec PyProof.Rows

/-! ### sets as rows of 0 and 1, added without carry -/
abbrev V2 := Nat → Bool
def ad (f g : V2) : V2 := fun x => f x != g x
def z2 : V2 := fun _ => false
theorem ad_comm {f g : V2} : ad f g = ad g f := by funext x; unfold ad; cases f x <;> cases g x <;> rfl
theorem ad_assoc {f g h : V2} : ad (ad f g) h = ad f (ad g h) := by funext x; unfold ad; cases f x <;> cases g x <;> cases h x <;> rfl
theorem ad_self {f : V2} : ad f f = z2 := by funext x; unfold ad z2; cases f x <;> rfl
@[simp] theorem ad_z {f : V2} : ad f z2 = f := by funext x; unfold ad z2; cases f x <;> rfl
@[simp] theorem z_ad {f : V2} : ad z2 f = f := by rw [ad_comm, ad_z]
theorem ad_ad {f g : V2} : ad f (ad f g) = g := by rw [← ad_assoc, ad_self, z_ad]
theorem ad_left {f g h : V2} : ad f (ad g h) = ad g (ad f h) := by rw [← ad_assoc, ad_comm (f := f), ad_assoc]
theorem ad_eq_z {f g : V2} (h : ad f g = z2) : f = g := by
  have : ad f (ad f g) = ad f z2 := by rw [h]
  rw [ad_ad, ad_z] at this
  exact this.symm
def dot : Nat → V2 → V2 → Bool
  | 0, _, _ => false
  | n + 1, f, g => dot n f g != (f n && g n)
theorem dot_ad {f g h : V2} : ∀ n, dot n (ad f g) h = (dot n f h != dot n g h)
  | 0 => rfl
  | n + 1 => by
    rw [dot, dot, dot, dot_ad n]
    show ((dot n f h != dot n g h) != ((f n != g n) && h n)) = _
    cases dot n f h <;> cases dot n g h <;> cases f n <;> cases g n <;> cases h n <;> rfl
theorem dot_comm {f g : V2} : ∀ n, dot n f g = dot n g f
  | 0 => rfl
  | n + 1 => by rw [dot, dot, dot_comm n, Bool.and_comm]
theorem dot_ad2 {f g h : V2} {n : Nat} : dot n h (ad f g) = (dot n h f != dot n h g) := by rw [dot_comm, dot_ad, dot_comm (f := f), dot_comm (f := g)]
theorem dot_z {f : V2} : ∀ n, dot n z2 f = false
  | 0 => rfl
  | n + 1 => by rw [dot, dot_z n]; rfl
theorem dot_z2 {f : V2} {n : Nat} : dot n f z2 = false := by rw [dot_comm, dot_z]
theorem dot_congr {f g f' g' : V2} : ∀ n, (∀ x, x < n → f x = f' x ∧ g x = g' x) → dot n f g = dot n f' g'
  | 0, _ => rfl
  | n + 1, h => by
    rw [dot, dot, dot_congr n fun x hx => h x (Nat.lt_succ_of_lt hx), (h n (Nat.lt_succ_self n)).1, (h n (Nat.lt_succ_self n)).2]
/-- how many, odd or even -/
theorem dot_par {f g : V2} : ∀ n, dot n f g = decide (((List.range n).filter fun x => f x && g x).length % 2 = 1)
  | 0 => rfl
  | n + 1 => by
    rw [dot, dot_par n, List.range_succ, List.filter_append, List.length_append]
    generalize ((List.range n).filter fun x => f x && g x).length = m
    cases h : (f n && g n) with
    | true =>
      have e : ([n].filter fun x => f x && g x).length = 1 := by simp [List.filter, h]
      rw [e]
      by_cases q : m % 2 = 1
      · have : ¬ (m + 1) % 2 = 1 := by omega
        simp [q, this]
      · have : (m + 1) % 2 = 1 := by omega
        simp [q, this]
    | false =>
      have e : ([n].filter fun x => f x && g x).length = 0 := by simp [List.filter, h]
      rw [e]
      simp
section
variable {n : Nat} {M : Nat → V2}
/-- the lights that are turned -/
def Tn (n : Nat) (M : Nat → V2) (f : V2) : V2 := fun k => decide (k < n) && dot n f (M k)
theorem Tn_ad {f g : V2} : Tn n M (ad f g) = ad (Tn n M f) (Tn n M g) := by
  funext k
  show (decide (k < n) && dot n (ad f g) (M k)) = ((decide (k < n) && dot n f (M k)) != (decide (k < n) && dot n g (M k)))
  rw [dot_ad]
  cases decide (k < n) <;> rfl
theorem Tn_z : Tn n M z2 = z2 := by
  funext k
  show (decide (k < n) && dot n z2 (M k)) = false
  rw [dot_z, Bool.and_false]
theorem dot_exch {f g : V2} : ∀ (p q : Nat), dot p (fun k => dot q f (M k)) g = dot q f (fun x => dot p g (fun k => M k x))
  | 0, q => by
    show false = _
    have : (fun x => dot 0 g (fun k => M k x)) = z2 := rfl
    rw [this, dot_z2]
  | p + 1, q => by
    rw [dot, dot_exch p q]
    have e : (fun x => dot (p + 1) g (fun k => M k x)) = ad (fun x => dot p g (fun k => M k x)) (fun x => g p && M p x) := rfl
    rw [e, dot_ad2]
    congr 1
    cases hg : g p with
    | false =>
      have : (fun x => false && M p x) = z2 := rfl
      rw [this, dot_z2, Bool.and_false]
    | true =>
      have : (fun x => true && M p x) = M p := rfl
      rw [this, Bool.and_true]
/-- what is turned meets as it is met -/
theorem T_sym (hs : ∀ i j, M i j = M j i) {f g : V2} : dot n (Tn n M f) g = dot n f (Tn n M g) := by
  have h1 : dot n (Tn n M f) g = dot n (fun k => dot n f (M k)) g := dot_congr n fun x hx => ⟨by unfold Tn; rw [decide_eq_true hx, Bool.true_and], rfl⟩
  have h2 : dot n f (Tn n M g) = dot n f (fun x => dot n g (fun k => M k x)) := dot_congr n fun x hx => ⟨rfl, by
    unfold Tn
    rw [decide_eq_true hx, Bool.true_and]
    exact dot_congr n fun k _ => ⟨rfl, hs x k⟩⟩
  rw [h1, h2, dot_exch]
def ones : V2 := fun _ => true
/-- a row meets what it turns as often as it has states -/
theorem T_diag (hs : ∀ i j, M i j = M j i) (hd : ∀ i, M i i = true) {q : V2} : ∀ m, dot m (fun k => dot m q (M k)) q = dot m q ones
  | 0 => rfl
  | m + 1 => by
    have ih := T_diag hs hd (q := q) m
    have e1 : (fun k => dot (m + 1) q (M k)) = ad (fun k => dot m q (M k)) (fun k => q m && M k m) := rfl
    rw [e1, dot_ad]
    have e2 : dot (m + 1) (fun k => dot m q (M k)) q = (dot m q ones != (dot m q (M m) && q m)) := by rw [dot, ih]
    have e3 : dot (m + 1) (fun k => q m && M k m) q = ((q m && dot m q (M m)) != q m) := by
      rw [dot]
      congr 1
      · cases hq : q m with
        | false =>
          have : (fun k => false && M k m) = z2 := rfl
          rw [this, dot_z]
          rfl
        | true =>
          rw [dot_comm]
          exact dot_congr m fun x hx => ⟨rfl, by show (true && M x m) = M m x; rw [Bool.true_and, hs]⟩
      · rw [hd m]
        cases q m <;> rfl
    rw [e2, e3]
    show _ = (dot m q ones != (q m && true))
    cases dot m q ones <;> cases dot m q (M m) <;> cases q m <;> rfl
theorem T_even (hs : ∀ i j, M i j = M j i) (hd : ∀ i, M i i = true) {q : V2} (h : Tn n M q = z2) : dot n q ones = false := by
  rw [← T_diag hs hd n]
  have : dot n (fun k => dot n q (M k)) q = dot n (Tn n M q) q := dot_congr n fun x hx => ⟨by unfold Tn; rw [decide_eq_true hx, Bool.true_and], rfl⟩
  rw [this, h, dot_z]
/-! ### what rows tell together -/
/-- a row: its first light, its lights, its presses -/
structure Rw where
  lead : Nat
  l : V2
  p : V2
def cb (B : List Rw) (c : Nat → Bool) : V2 := B.foldr (fun r f => if c r.lead = true then ad r.l f else f) z2
def cp (B : List Rw) (c : Nat → Bool) : V2 := B.foldr (fun r f => if c r.lead = true then ad r.p f else f) z2
def tog (c : Nat → Bool) (i : Nat) : Nat → Bool := fun j => if j = i then !c j else c j
theorem cb_other {B : List Rw} {c : Nat → Bool} {i : Nat} (h : ∀ r ∈ B, r.lead ≠ i) : cb B (tog c i) = cb B c ∧ cp B (tog c i) = cp B c := by
  induction B with
  | nil => exact ⟨rfl, rfl⟩
  | cons r B ih =>
    obtain ⟨i1, i2⟩ := ih fun x hx => h x (List.mem_cons_of_mem _ hx)
    have hr : tog c i r.lead = c r.lead := by unfold tog; rw [if_neg (h r List.mem_cons_self)]
    refine ⟨?_, ?_⟩
    · show (if tog c i r.lead = true then ad r.l (cb B (tog c i)) else cb B (tog c i)) = (if c r.lead = true then ad r.l (cb B c) else cb B c)
      rw [hr, i1]
    · show (if tog c i r.lead = true then ad r.p (cp B (tog c i)) else cp B (tog c i)) = (if c r.lead = true then ad r.p (cp B c) else cp B c)
      rw [hr, i2]
/-- a row more or less -/
theorem cb_tog {B : List Rw} {c : Nat → Bool} {r : Rw} (nd : (B.map (·.lead)).Nodup) (h : r ∈ B) : cb B (tog c r.lead) = ad r.l (cb B c) ∧ cp B (tog c r.lead) = ad r.p (cp B c) := by
  induction B with
  | nil => cases h
  | cons b B ih =>
    obtain ⟨nb, nd2⟩ := List.nodup_cons.mp nd
    rcases List.mem_cons.mp h with rfl | h
    · obtain ⟨o1, o2⟩ := cb_other (B := B) (c := c) (i := r.lead) fun x hx e => nb (List.mem_map.mpr ⟨x, hx, e⟩)
      have ht : tog c r.lead r.lead = !c r.lead := by unfold tog; rw [if_pos rfl]
      refine ⟨?_, ?_⟩
      · show (if tog c r.lead r.lead = true then ad r.l (cb B (tog c r.lead)) else cb B (tog c r.lead)) = ad r.l (if c r.lead = true then ad r.l (cb B c) else cb B c)
        rw [ht, o1]
        cases c r.lead with
        | true => simp [ad_ad]
        | false => simp
      · show (if tog c r.lead r.lead = true then ad r.p (cp B (tog c r.lead)) else cp B (tog c r.lead)) = ad r.p (if c r.lead = true then ad r.p (cp B c) else cp B c)
        rw [ht, o2]
        cases c r.lead with
        | true => simp [ad_ad]
        | false => simp
    · obtain ⟨i1, i2⟩ := ih nd2 h
      have ne : b.lead ≠ r.lead := fun e => nb (List.mem_map.mpr ⟨r, h, e.symm⟩)
      have ht : tog c r.lead b.lead = c b.lead := by unfold tog; rw [if_neg ne]
      refine ⟨?_, ?_⟩
      · show (if tog c r.lead b.lead = true then ad b.l (cb B (tog c r.lead)) else cb B (tog c r.lead)) = ad r.l (if c b.lead = true then ad b.l (cb B c) else cb B c)
        rw [ht, i1]
        cases c b.lead with
        | true => simp [ad_left]
        | false => simp
      · show (if tog c r.lead b.lead = true then ad b.p (cp B (tog c r.lead)) else cp B (tog c r.lead)) = ad r.p (if c b.lead = true then ad b.p (cp B c) else cp B c)
        rw [ht, i2]
        cases c b.lead with
        | true => simp [ad_left]
        | false => simp
/-- rows in order of their first lights -/
structure Ech (B : List Rw) : Prop where
  srt : B.Pairwise fun r s => r.lead < s.lead
  low : ∀ r ∈ B, ∀ x, x < r.lead → r.l x = false
  one : ∀ r ∈ B, r.l r.lead = true
theorem Ech.tail {r : Rw} {B : List Rw} (h : Ech (r :: B)) : Ech B := ⟨(List.pairwise_cons.mp h.srt).2, fun s hs => h.low s (List.mem_cons_of_mem _ hs), fun s hs => h.one s (List.mem_cons_of_mem _ hs)⟩
theorem Ech.nd {B : List Rw} (h : Ech B) : (B.map (·.lead)).Nodup := List.pairwise_map.mpr (h.srt.imp fun q e => absurd (e ▸ q) (Nat.lt_irrefl _))
theorem cb_low {B : List Rw} {c : Nat → Bool} {x : Nat} (h : Ech B) (hx : ∀ r ∈ B, x < r.lead) : cb B c x = false := by
  induction B with
  | nil => rfl
  | cons r B ih =>
    have i1 := ih h.tail fun s hs => hx s (List.mem_cons_of_mem _ hs)
    show (if c r.lead = true then ad r.l (cb B c) else cb B c) x = false
    split
    · show (r.l x != cb B c x) = false
      rw [i1, h.low r List.mem_cons_self x (hx r List.mem_cons_self)]
      rfl
    · exact i1
/-- no light: no row -/
theorem cb_ind {B : List Rw} {c : Nat → Bool} (h : Ech B) (e : cb B c = z2) : (∀ r ∈ B, c r.lead = false) ∧ cp B c = z2 := by
  induction B with
  | nil => exact ⟨(fun _ q => by cases q), rfl⟩
  | cons r B ih =>
    have lowB : cb B c r.lead = false := cb_low h.tail fun s hs => (List.pairwise_cons.mp h.srt).1 s hs
    have e : (if c r.lead = true then ad r.l (cb B c) else cb B c) = z2 := e
    cases hc : c r.lead with
    | true =>
      rw [hc, if_pos rfl] at e
      have := congrFun e r.lead
      have h2 : (r.l r.lead != cb B c r.lead) = false := this
      rw [lowB, h.one r List.mem_cons_self] at h2
      cases h2
    | false =>
      rw [hc, if_neg (by simp)] at e
      obtain ⟨a1, a2⟩ := ih h.tail e
      refine ⟨fun s hs => ?_, ?_⟩
      · rcases List.mem_cons.mp hs with rfl | hs
        · exact hc
        · exact a1 s hs
      · show (if c r.lead = true then ad r.p (cp B c) else cp B c) = z2
        rw [hc]
        simpa using a2
/-- a row of 0 and 1 that meets no row, and has what is wanted where no row begins -/
theorem dual_ex {B : List Rw} (h : Ech B) (hl : ∀ r ∈ B, r.lead < n) (w : V2) : ∃ y : V2, (∀ r ∈ B, dot n y r.l = false) ∧ ∀ x, (∀ r ∈ B, r.lead ≠ x) → y x = w x := by
  induction B with
  | nil => exact ⟨w, (fun _ q => by cases q), fun _ _ => rfl⟩
  | cons r B ih =>
    obtain ⟨y, h1, h2⟩ := ih h.tail fun s hs => hl s (List.mem_cons_of_mem _ hs)
    let e : V2 := fun x => decide (x = r.lead)
    have de : ∀ g : V2, ∀ m, r.lead < m → dot m e g = g r.lead := fun g m => by
      induction m with
      | zero => intro q; exact absurd q (Nat.not_lt_zero _)
      | succ m ihm =>
        intro q
        rw [dot]
        by_cases c : r.lead = m
        · have z : dot m e g = false := by
            have : dot m e g = dot m z2 g := dot_congr m fun x hx => ⟨by show decide (x = r.lead) = false; exact decide_eq_false (by omega), rfl⟩
            rw [this, dot_z]
          rw [z]
          show (false != (decide (m = r.lead) && g m)) = _
          rw [decide_eq_true c.symm, c]
          cases g m <;> rfl
        · rw [ihm (by omega)]
          show (g r.lead != (decide (m = r.lead) && g m)) = _
          rw [decide_eq_false (fun z => c z.symm)]
          cases g r.lead <;> rfl
    have lr := hl r List.mem_cons_self
    cases c : dot n y r.l with
    | false =>
      refine ⟨y, fun s hs => ?_, fun x hx => h2 x fun s hs => hx s (List.mem_cons_of_mem _ hs)⟩
      rcases List.mem_cons.mp hs with rfl | hs
      · exact c
      · exact h1 s hs
    | true =>
      refine ⟨ad y e, fun s hs => ?_, fun x hx => ?_⟩
      · rw [dot_ad, de s.l n lr]
        rcases List.mem_cons.mp hs with rfl | hs
        · rw [c, h.one s List.mem_cons_self]; rfl
        · rw [h1 s hs, h.low s (List.mem_cons_of_mem _ hs) r.lead ((List.pairwise_cons.mp h.srt).1 s hs)]; rfl
      · have q : x ≠ r.lead := fun z => hx r List.mem_cons_self z.symm
        show (y x != decide (x = r.lead)) = w x
        rw [decide_eq_false q, h2 x fun s hs => hx s (List.mem_cons_of_mem _ hs)]
        cases w x <;> rfl
theorem dot_cb {B : List Rw} {c : Nat → Bool} {y : V2} (h : ∀ r ∈ B, dot n y r.l = false) : dot n y (cb B c) = false := by
  induction B with
  | nil => exact dot_z2
  | cons r B ih =>
    have i1 := ih fun s hs => h s (List.mem_cons_of_mem _ hs)
    show dot n y (if c r.lead = true then ad r.l (cb B c) else cb B c) = false
    split
    · rw [dot_ad2, h r List.mem_cons_self, i1]; rfl
    · exact i1
end
end Kw
set_option maxHeartbeats 1000000
namespace Kw
open PySem PySem.Spec PyProof.Rows

section
variable {n : Nat} {M : Nat → V2}
theorem dot_prod {f g f' g' : V2} : ∀ n, (∀ x, x < n → (f x && g x) = (f' x && g' x)) → dot n f g = dot n f' g'
  | 0, _ => rfl
  | n + 1, h => by rw [dot, dot, dot_prod n fun x hx => h x (Nat.lt_succ_of_lt hx), h n (Nat.lt_succ_self n)]
def e2 (j : Nat) : V2 := fun x => decide (x = j)
theorem dot_e {j : Nat} {g : V2} : ∀ m, dot m (e2 j) g = (decide (j < m) && g j)
  | 0 => by simp [dot]
  | m + 1 => by
    rw [dot, dot_e m]
    show ((decide (j < m) && g j) != (decide (m = j) && g m)) = _
    by_cases c : m = j
    · subst c
      have h1 : ¬ m < m := Nat.lt_irrefl m
      simp
    · have h1 : (decide (j < m + 1)) = decide (j < m) := decide_eq_decide.mpr (by omega)
      rw [h1, decide_eq_false c]
      cases decide (j < m) <;> cases g j <;> rfl
theorem cp_perm {B B' : List Rw} {c : Nat → Bool} (p : B.Perm B') : cb B c = cb B' c ∧ cp B c = cp B' c := by
  induction p with
  | nil => exact ⟨rfl, rfl⟩
  | cons r _ ih =>
    refine ⟨?_, ?_⟩
    · show (if c r.lead = true then ad r.l _ else _) = (if c r.lead = true then ad r.l _ else _)
      rw [show (List.foldr (fun r f => if c r.lead = true then ad r.l f else f) z2) = fun B => cb B c from rfl]
      simp only [ih.1]
    · show (if c r.lead = true then ad r.p _ else _) = (if c r.lead = true then ad r.p _ else _)
      rw [show (List.foldr (fun r f => if c r.lead = true then ad r.p f else f) z2) = fun B => cp B c from rfl]
      simp only [ih.2]
  | swap r s B =>
    have e1 : ∀ (r : Rw) (B : List Rw), cb (r :: B) c = if c r.lead = true then ad r.l (cb B c) else cb B c := fun _ _ => rfl
    have e2 : ∀ (r : Rw) (B : List Rw), cp (r :: B) c = if c r.lead = true then ad r.p (cp B c) else cp B c := fun _ _ => rfl
    refine ⟨?_, ?_⟩
    · rw [e1, e1, e1, e1]
      split <;> split <;> first | rfl | exact ad_left
    · rw [e2, e2, e2, e2]
      split <;> split <;> first | rfl | exact ad_left
  | trans _ _ i1 i2 => exact ⟨i1.1.trans i2.1, i1.2.trans i2.2⟩
theorem cp_xor {B : List Rw} {c d : Nat → Bool} : cb B (fun i => c i != d i) = ad (cb B c) (cb B d) ∧ cp B (fun i => c i != d i) = ad (cp B c) (cp B d) := by
  have e1 : ∀ (c : Nat → Bool) (r : Rw) (B : List Rw), cb (r :: B) c = if c r.lead = true then ad r.l (cb B c) else cb B c := fun _ _ _ => rfl
  have e2 : ∀ (c : Nat → Bool) (r : Rw) (B : List Rw), cp (r :: B) c = if c r.lead = true then ad r.p (cp B c) else cp B c := fun _ _ _ => rfl
  induction B with
  | nil => exact ⟨by show z2 = ad z2 z2; rw [ad_z], by show z2 = ad z2 z2; rw [ad_z]⟩
  | cons r B ih =>
    refine ⟨?_, ?_⟩
    · rw [e1, e1, e1, ih.1]
      cases c r.lead <;> cases d r.lead <;> simp [ad_assoc, ad_left, ad_ad]
    · rw [e2, e2, e2, ih.2]
      cases c r.lead <;> cases d r.lead <;> simp [ad_assoc, ad_left, ad_ad]
theorem cp_app {B : List Rw} {r : Rw} {c : Nat → Bool} : cb (B ++ [r]) c = (if c r.lead = true then ad r.l (cb B c) else cb B c) ∧ cp (B ++ [r]) c = (if c r.lead = true then ad r.p (cp B c) else cp B c) := by
  have := cp_perm (c := c) (List.perm_append_comm (l₁ := B) (l₂ := [r]))
  exact this
theorem cp_congr {B : List Rw} {c d : Nat → Bool} (h : ∀ r ∈ B, c r.lead = d r.lead) : cb B c = cb B d ∧ cp B c = cp B d := by
  induction B with
  | nil => exact ⟨rfl, rfl⟩
  | cons r B ih =>
    obtain ⟨i1, i2⟩ := ih fun s hs => h s (List.mem_cons_of_mem _ hs)
    refine ⟨?_, ?_⟩
    · show (if c r.lead = true then ad r.l (cb B c) else cb B c) = (if d r.lead = true then ad r.l (cb B d) else cb B d)
      rw [h r List.mem_cons_self, i1]
    · show (if c r.lead = true then ad r.p (cp B c) else cp B c) = (if d r.lead = true then ad r.p (cp B d) else cp B d)
      rw [h r List.mem_cons_self, i2]
/-! ### all sums of some -/
def sp2 (Q : List V2) : List V2 := Q.foldl (fun S q => S ++ S.map (ad q)) [z2]
theorem sp_app {Q : List V2} {q : V2} : sp2 (Q ++ [q]) = sp2 Q ++ (sp2 Q).map (ad q) := by simp [sp2]
theorem sp_len : ∀ {Q : List V2}, (sp2 Q).length = 2 ^ Q.length := fun {Q} => by
  have go : ∀ (Q : List V2) (S : List V2), (Q.foldl (fun S q => S ++ S.map (ad q)) S).length = S.length * 2 ^ Q.length := fun Q => by
    induction Q with
    | nil => intro S; simp
    | cons q Q ih =>
      intro S
      rw [List.foldl_cons, ih, List.length_append, List.length_map, List.length_cons, Nat.pow_succ]
      rw [← Nat.two_mul, Nat.mul_comm 2, Nat.mul_assoc, Nat.mul_comm 2]
  have := go Q [z2]
  simpa [sp2] using this
theorem rev_ind {α : Type} {P : List α → Prop} (h0 : P []) (hs : ∀ l a, P l → P (l ++ [a])) : ∀ l, P l := fun l => by
  have : ∀ l : List α, P l.reverse := fun l => by
    induction l with
    | nil => exact h0
    | cons a l ih => rw [List.reverse_cons]; exact hs _ _ ih
  have h := this l.reverse
  rwa [List.reverse_reverse] at h
theorem sp_zero (Q : List V2) : z2 ∈ sp2 Q := rev_ind (P := fun Q => z2 ∈ sp2 Q) (by simp [sp2]) (fun Q q ih => by rw [sp_app]; exact List.mem_append_left _ ih) Q
theorem sp_add : ∀ (Q : List V2) (q v : V2), q ∈ Q → v ∈ sp2 Q → ad q v ∈ sp2 Q := rev_ind (P := fun Q => ∀ q v, q ∈ Q → v ∈ sp2 Q → ad q v ∈ sp2 Q) (fun q v h => by cases h) fun Q b ih q v hq hv => by
  rw [sp_app] at hv ⊢
  rcases List.mem_append.mp hq with hq | hq
  · rcases List.mem_append.mp hv with hv | hv
    · exact List.mem_append_left _ (ih q v hq hv)
    · obtain ⟨u, hu, rfl⟩ := List.mem_map.mp hv
      exact List.mem_append_right _ (List.mem_map.mpr ⟨ad q u, ih q u hq hu, ad_left⟩)
  · simp at hq
    subst hq
    rcases List.mem_append.mp hv with hv | hv
    · exact List.mem_append_right _ (List.mem_map.mpr ⟨v, hv, rfl⟩)
    · obtain ⟨u, hu, rfl⟩ := List.mem_map.mp hv
      rw [ad_ad]
      exact List.mem_append_left _ hu
theorem sp_all {P : V2 → Prop} (h0 : P z2) (ha : ∀ q v, P q → P v → P (ad q v)) : ∀ Q : List V2, (∀ q ∈ Q, P q) → ∀ v ∈ sp2 Q, P v := rev_ind (fun _ v hv => by
  simp [sp2] at hv
  subst hv
  exact h0) fun Q q ih hQ v hv => by
  rw [sp_app] at hv
  have i := ih fun x hx => hQ x (List.mem_append_left _ hx)
  rcases List.mem_append.mp hv with hv | hv
  · exact i v hv
  · obtain ⟨u, hu, rfl⟩ := List.mem_map.mp hv
    exact ha q u (hQ q (by simp)) (i u hu)
/-- f ends at t -/
def Top (f : V2) (t : Nat) : Prop := f t = true ∧ ∀ x, t < x → f x = false
inductive Tops : List V2 → Nat → Prop
  | nil (j : Nat) : Tops [] j
  | add {Q : List V2} {q : V2} {i t j : Nat} (h : Tops Q i) (hi : i ≤ t) (ht : Top q t) (hj : t < j) : Tops (Q ++ [q]) j
theorem Tops.mono {Q : List V2} {i j : Nat} (h : Tops Q i) (l : i ≤ j) : Tops Q j := by
  cases h with
  | nil => exact .nil j
  | add h hi ht hj => exact .add h hi ht (by omega)
theorem Tops.low {Q : List V2} {j : Nat} (h : Tops Q j) : ∀ v ∈ sp2 Q, ∀ x, j ≤ x → v x = false := by
  induction h with
  | nil j =>
    intro v hv x _
    simp [sp2] at hv
    subst hv
    rfl
  | @add Q q i t j h hi ht hj ih =>
    intro v hv x hx
    rw [sp_app] at hv
    rcases List.mem_append.mp hv with hv | hv
    · exact ih v hv x (by omega)
    · obtain ⟨u, hu, rfl⟩ := List.mem_map.mp hv
      show (q x != u x) = false
      rw [ih u hu x (by omega), ht.2 x (by omega)]
      rfl
theorem Tops.nd {Q : List V2} {j : Nat} (h : Tops Q j) : (sp2 Q).Nodup := by
  induction h with
  | nil j => simp [sp2]
  | @add Q q i t j h hi ht hj ih =>
    rw [sp_app]
    refine List.nodup_append.mpr ⟨ih, List.pairwise_map.mpr (ih.imp fun {a b} ne e => ne (by have h2 : ad q (ad q a) = ad q (ad q b) := congrArg (ad q) e; rwa [ad_ad, ad_ad] at h2)), fun a ha b hb e => ?_⟩
    · obtain ⟨u, hu, rfl⟩ := List.mem_map.mp hb
      have h1 := h.low a ha t hi
      have h2 := h.low u hu t hi
      have h3 := congrFun e t
      have h4 : (q t != u t) = a t := h3.symm
      rw [ht.1, h2, h1] at h4
      cases h4
/-! ### the state by state work -/
structure ElOk (n : Nat) (M : Nat → V2) (j : Nat) (B : List Rw) (Q : List V2) : Prop where
  t : ∀ r ∈ B, Tn n M r.p = r.l
  one : ∀ r ∈ B, r.l r.lead = true
  low : ∀ r ∈ B, ∀ x, x < r.lead → r.l x = false
  lt : ∀ r ∈ B, r.lead < n
  sup : ∀ r ∈ B, ∀ x, j ≤ x → r.p x = false
  nd : (B.map (·.lead)).Nodup
  q : ∀ q ∈ Q, Tn n M q = z2
  tops : Tops Q j
  all : ∀ f : V2, (∀ x, j ≤ x → f x = false) → ∃ c, ∃ v ∈ sp2 Q, f = ad (cp B c) v
  num : B.length + Q.length = j
theorem el_0 : ElOk n M 0 [] [] := ⟨(fun _ h => by cases h), (fun _ h => by cases h), (fun _ h => by cases h), (fun _ h => by cases h), (fun _ h => by cases h), List.nodup_nil, (fun _ h => by cases h), Tops.nil 0, fun f hf => ⟨fun _ => false, z2, sp_zero [], by
  funext x
  rw [hf x (Nat.zero_le _)]
  rfl⟩, rfl⟩
theorem cp_sup {j : Nat} {B : List Rw} {c : Nat → Bool} (h : ∀ r ∈ B, ∀ x, j ≤ x → r.p x = false) : ∀ x, j ≤ x → cp B c x = false := fun x hx => by
  induction B with
  | nil => rfl
  | cons r B ih =>
    have i1 := ih fun s hs => h s (List.mem_cons_of_mem _ hs)
    show (if c r.lead = true then ad r.p (cp B c) else cp B c) x = false
    split
    · show (r.p x != cp B c x) = false
      rw [i1, h r List.mem_cons_self x hx]
      rfl
    · exact i1
theorem T_cp {B : List Rw} {c : Nat → Bool} (h : ∀ r ∈ B, Tn n M r.p = r.l) : Tn n M (cp B c) = cb B c := by
  induction B with
  | nil => exact Tn_z
  | cons r B ih =>
    have i1 := ih fun s hs => h s (List.mem_cons_of_mem _ hs)
    show Tn n M (if c r.lead = true then ad r.p (cp B c) else cp B c) = (if c r.lead = true then ad r.l (cb B c) else cb B c)
    split
    · rw [Tn_ad, i1, h r List.mem_cons_self]
    · exact i1
/-- what stands once a state is taken up -/
theorem el_new {j : Nat} {B : List Rw} {Q : List V2} (h : ElOk n M j B Q) {p : V2} {c0 : Nat → Bool} (hp : p = ad (e2 j) (cp B c0)) :
    Top p j ∧ (∀ f : V2, (∀ x, j + 1 ≤ x → f x = false) → ∃ c, ∃ v ∈ sp2 Q, f = ad (cp B c) v ∨ f = ad p (ad (cp B c) v)) := by
  have sup := cp_sup (c := c0) h.sup
  refine ⟨⟨?_, fun x hx => ?_⟩, fun f hf => ?_⟩
  · rw [hp]
    show (decide (j = j) != cp B c0 j) = true
    rw [sup j (Nat.le_refl _)]
    simp
  · rw [hp]
    show (decide (x = j) != cp B c0 x) = false
    rw [sup x (by omega), decide_eq_false (by omega)]
    rfl
  · cases c : f j with
    | false =>
      obtain ⟨c1, v, hv, e⟩ := h.all f fun x hx => by
        by_cases q : x = j
        · rw [q, c]
        · exact hf x (by omega)
      exact ⟨c1, v, hv, .inl e⟩
    | true =>
      obtain ⟨c1, v, hv, e⟩ := h.all (ad f (e2 j)) fun x hx => by
        show (f x != decide (x = j)) = false
        by_cases q : x = j
        · rw [q, c]; simp
        · rw [hf x (by omega), decide_eq_false q]; rfl
      refine ⟨fun i => c0 i != c1 i, v, hv, .inr ?_⟩
      rw [(cp_xor (B := B) (c := c0) (d := c1)).2, hp, ad_assoc, ← ad_assoc (f := cp B c0), ← ad_assoc (f := cp B c0), ad_self, z_ad, ← e, ad_comm (f := f), ad_ad]
theorem el_quiet {j : Nat} {B : List Rw} {Q : List V2} (h : ElOk n M j B Q) {p : V2} {c0 : Nat → Bool} (hp : p = ad (e2 j) (cp B c0)) (hz : Tn n M p = z2) : ElOk n M (j + 1) B (Q ++ [p]) := by
  obtain ⟨top, all⟩ := el_new h hp
  refine ⟨h.t, h.one, h.low, h.lt, fun r hr x hx => h.sup r hr x (by omega), h.nd, fun q hq => ?_, .add h.tops (Nat.le_refl _) top (Nat.lt_succ_self _), fun f hf => ?_, by have := h.num; simp; omega⟩
  · rcases List.mem_append.mp hq with hq | hq
    · exact h.q q hq
    · simp at hq; subst hq; exact hz
  · obtain ⟨c, v, hv, e | e⟩ := all f hf
    · exact ⟨c, v, by rw [sp_app]; exact List.mem_append_left _ hv, e⟩
    · refine ⟨c, ad p v, by rw [sp_app]; exact List.mem_append_right _ (List.mem_map.mpr ⟨v, hv, rfl⟩), ?_⟩
      rw [e, ad_left]
theorem el_row {j : Nat} {B : List Rw} {Q : List V2} (h : ElOk n M j B Q) {r : Rw} {c0 : Nat → Bool} (hp : r.p = ad (e2 j) (cp B c0)) (ht : Tn n M r.p = r.l) (h1 : r.l r.lead = true) (hlow : ∀ x, x < r.lead → r.l x = false) (hn : ∀ s ∈ B, s.lead ≠ r.lead) : ElOk n M (j + 1) (B ++ [r]) Q := by
  obtain ⟨top, all⟩ := el_new h hp
  have rl : r.lead < n := by
    rw [← ht] at h1
    unfold Tn at h1
    rw [Bool.and_eq_true, decide_eq_true_iff] at h1
    exact h1.1
  have m2 : ∀ {P : Rw → Prop}, (∀ s ∈ B, P s) → P r → ∀ s ∈ B ++ [r], P s := fun a b s hs => by
    rcases List.mem_append.mp hs with hs | hs
    · exact a s hs
    · simp at hs; subst hs; exact b
  refine ⟨m2 h.t ht, m2 h.one h1, m2 h.low hlow, m2 h.lt rl, m2 (fun s hs x hx => h.sup s hs x (by omega)) fun x hx => top.2 x (by omega), ?_, h.q, h.tops.mono (by omega), fun f hf => ?_, by have := h.num; simp; omega⟩
  · rw [List.map_append]
    refine List.nodup_append.mpr ⟨h.nd, by simp, fun a ha b hb e => ?_⟩
    obtain ⟨s, hs, rfl⟩ := List.mem_map.mp ha
    simp at hb
    exact hn s hs (e.trans hb)
  · obtain ⟨c, v, hv, e⟩ := all f hf
    have off : ∀ b : Bool, cp B (fun i => if i = r.lead then b else c i) = cp B c := fun b => (cp_congr fun s hs => if_neg (hn s hs)).2
    rcases e with e | e
    · refine ⟨fun i => if i = r.lead then false else c i, v, hv, ?_⟩
      rw [(cp_app (B := B) (r := r)).2, if_neg (by simp), off, e]
    · refine ⟨fun i => if i = r.lead then true else c i, v, hv, ?_⟩
      rw [(cp_app (B := B) (r := r)).2, if_pos (by simp), off, e, ad_assoc]
end
end Kw
set_option maxHeartbeats 1000000
namespace Kw
open PySem PySem.Spec PyProof.Rows

/-! ### what is turned, what turns nothing -/
def Sup (n : Nat) (f : V2) : Prop := ∀ x, n ≤ x → f x = false
theorem Sup.ad {n : Nat} {f g : V2} (hf : Sup n f) (hg : Sup n g) : Sup n (ad f g) := fun x hx => by
  show (f x != g x) = false
  rw [hf x hx, hg x hx]; rfl
theorem sup_z {n : Nat} : Sup n z2 := fun _ _ => rfl
theorem sup_T {n : Nat} {M : Nat → V2} {f : V2} : Sup n (Tn n M f) := fun x hx => by
  unfold Tn
  rw [decide_eq_false (by omega)]; rfl
theorem sup_sp {n : Nat} {Q : List V2} (h : ∀ q ∈ Q, Sup n q) : ∀ v ∈ sp2 Q, Sup n v := sp_all sup_z (fun _ _ => Sup.ad) Q h
theorem tops_sup {Q : List V2} {j : Nat} (h : Tops Q j) : ∀ q ∈ Q, Sup j q := fun q hq x hx => by
  have := h.low (ad q z2) (sp_add Q q z2 hq (sp_zero Q)) x hx
  rwa [ad_z] at this
section
variable {n : Nat} {M : Nat → V2} {B : List Rw} {Q : List V2}
theorem T_sp (h : ElOk n M n B Q) {v : V2} (hv : v ∈ sp2 Q) : Tn n M v = z2 :=
  sp_all (P := fun v => Tn n M v = z2) Tn_z (fun q v hq hv => by rw [Tn_ad, hq, hv, ad_z]) Q h.q v hv
theorem ker_iff (h : ElOk n M n B Q) (he : Ech B) {f : V2} (hf : Sup n f) : Tn n M f = z2 ↔ f ∈ sp2 Q := by
  refine ⟨fun e => ?_, T_sp h⟩
  obtain ⟨c, v, hv, rfl⟩ := h.all f hf
  rw [Tn_ad, T_sp h hv, ad_z, T_cp h.t] at e
  rw [(cb_ind he e).2, z_ad]
  exact hv
theorem img_ex (h : ElOk n M n B Q) {f : V2} (hf : Sup n f) : ∃ c, Tn n M f = cb B c := by
  obtain ⟨c, v, hv, rfl⟩ := h.all f hf
  exact ⟨c, by rw [Tn_ad, T_sp h hv, ad_z, T_cp h.t]⟩
theorem sup_cb (h : ElOk n M n B Q) {c : Nat → Bool} : Sup n (cb B c) := by rw [← T_cp h.t]; exact sup_T
theorem cb_cons {r : Rw} {B : List Rw} {c : Nat → Bool} : cb (r :: B) c = if c r.lead = true then ad r.l (cb B c) else cb B c := rfl
theorem cp_cons {r : Rw} {B : List Rw} {c : Nat → Bool} : cp (r :: B) c = if c r.lead = true then ad r.p (cp B c) else cp B c := rfl
theorem cb_z {B : List Rw} : cb B (fun _ => false) = z2 ∧ cp B (fun _ => false) = z2 := by
  induction B with
  | nil => exact ⟨rfl, rfl⟩
  | cons r B ih => exact ⟨by rw [cb_cons, if_neg (by simp), ih.1], by rw [cp_cons, if_neg (by simp), ih.2]⟩
/-- rows taken away one by one -/
def red : List Rw → V2 × V2 → V2 × V2
  | [], a => a
  | r :: B, a => red B (if a.1 r.lead = true then (ad a.1 r.l, ad a.2 r.p) else a)
theorem red_ok : ∀ {B : List Rw} {l f : V2}, Ech B → ∃ c, red B (l, f) = (ad l (cb B c), ad f (cp B c)) ∧ ∀ r ∈ B, ad l (cb B c) r.lead = false
  | [], l, f, _ => ⟨fun _ => false, by show (l, f) = (ad l z2, ad f z2); rw [ad_z, ad_z], fun _ h => by cases h⟩
  | r :: B, l, f, he => by
    have hlt := (List.pairwise_cons.mp he.srt).1
    obtain ⟨c, e, hc⟩ := red_ok (l := if l r.lead = true then ad l r.l else l) (f := if l r.lead = true then ad f r.p else f) he.tail
    have off : cb B (fun i => if i = r.lead then l r.lead else c i) = cb B c ∧ cp B (fun i => if i = r.lead then l r.lead else c i) = cp B c :=
      cp_congr fun s hs => if_neg (Nat.ne_of_gt (hlt s hs))
    have e1 : cb (r :: B) (fun i => if i = r.lead then l r.lead else c i) = if l r.lead = true then ad r.l (cb B c) else cb B c := by
      rw [cb_cons, off.1]
      simp only [if_true]
    have e2 : cp (r :: B) (fun i => if i = r.lead then l r.lead else c i) = if l r.lead = true then ad r.p (cp B c) else cp B c := by
      rw [cp_cons, off.2]
      simp only [if_true]
    have lowB : cb B c r.lead = false := cb_low he.tail hlt
    refine ⟨fun i => if i = r.lead then l r.lead else c i, ?_, ?_⟩
    · show red B (if l r.lead = true then (ad l r.l, ad f r.p) else (l, f)) = _
      rw [e1, e2]
      cases q : l r.lead with
      | true =>
        simp only [q, if_true] at e ⊢
        rw [e, ad_assoc, ad_assoc]
      | false =>
        simp only [q, Bool.false_eq_true, if_false] at e ⊢
        exact e
    · rw [e1]
      intro s hs
      rcases List.mem_cons.mp hs with e' | hs
      · rw [e']
        cases q : l r.lead with
        | true =>
          rw [if_pos rfl]
          show (l r.lead != (r.l r.lead != cb B c r.lead)) = false
          rw [q, lowB, he.one r List.mem_cons_self]; rfl
        | false =>
          rw [if_neg (by simp)]
          show (l r.lead != cb B c r.lead) = false
          rw [q, lowB]; rfl
      · have := hc s hs
        cases q : l r.lead with
        | true =>
          simp only [q, if_true] at this ⊢
          rwa [← ad_assoc]
        | false =>
          simp only [q, Bool.false_eq_true, if_false] at this ⊢
          exact this
/-- nothing turned by what is met evenly -/
theorem sol_dot (hs : ∀ i j, M i j = M j i) {f q : V2} (hq : Tn n M q = z2) : dot n q (Tn n M f) = false := by
  rw [dot_comm, T_sym hs, hq, dot_z2]
/-- no presses: a quiet row meets the lights oddly -/
theorem no_sol (hs : ∀ i j, M i j = M j i) (h : ElOk n M n B Q) (he : Ech B) {l g : V2} {c : Nat → Bool} (hl : Sup n l) (e : g = ad l (cb B c)) (h0 : ∀ r ∈ B, g r.lead = false) (hg : g ≠ z2) : ∃ q ∈ Q, dot n q l = true := by
  have sg : Sup n g := by rw [e]; exact hl.ad (sup_cb h)
  obtain ⟨x0, hx0⟩ : ∃ x, g x = true := by
    refine Classical.byContradiction fun q => hg (funext fun x => ?_)
    cases hx : g x with
    | false => rfl
    | true => exact absurd ⟨x, hx⟩ q
  have hn0 : x0 < n := Nat.lt_of_not_le fun q => by rw [sg x0 q] at hx0; cases hx0
  obtain ⟨y, y1, y2⟩ := dual_ex (n := n) he h.lt (e2 x0)
  have dg : dot n y g = true := by
    have : dot n y g = dot n (e2 x0) g := dot_prod n fun x _ => by
      by_cases q : ∃ r ∈ B, r.lead = x
      · obtain ⟨r, hr, rfl⟩ := q
        rw [h0 r hr, Bool.and_false, Bool.and_false]
      · rw [y2 x fun r hr e => q ⟨r, hr, e⟩]
    rw [this, dot_e, decide_eq_true hn0, hx0]; rfl
  have dl : dot n y l = true := by
    have : l = ad g (cb B c) := by rw [e, ad_assoc, ad_self, ad_z]
    rw [this, dot_ad2, dg, dot_cb y1]; rfl
  let y' : V2 := fun x => decide (x < n) && y x
  have sy : Sup n y' := fun x hx => by
    show (decide (x < n) && y x) = false
    rw [decide_eq_false (by omega)]; rfl
  have ey : ∀ g : V2, dot n y' g = dot n y g := fun g => dot_congr n fun x hx => ⟨by show (decide (x < n) && y x) = y x; rw [decide_eq_true hx]; rfl, rfl⟩
  have ty : Tn n M y' = z2 := by
    funext j
    by_cases hj : j < n
    · have sj : Sup n (e2 j) := fun x hx => decide_eq_false (by omega)
      obtain ⟨c', ec⟩ := img_ex h sj
      have d1 : dot n (Tn n M y') (e2 j) = dot n y' (Tn n M (e2 j)) := T_sym hs
      rw [ec, ey, dot_cb y1, dot_comm, dot_e, decide_eq_true hj, Bool.true_and] at d1
      exact d1
    · exact sup_T j (by omega)
  have my := (ker_iff h he sy).mp ty
  refine Classical.byContradiction fun q => ?_
  have all0 : ∀ v ∈ sp2 Q, dot n v l = false := sp_all (P := fun v => dot n v l = false) (dot_z n) (fun q v a b => by rw [dot_ad, a, b]; rfl) Q fun x hx => by
    cases hd : dot n x l with
    | false => rfl
    | true => exact absurd ⟨x, hx, hd⟩ q
  have := all0 y' my
  rw [ey, dl] at this
  cases this
/-- sums of rows are as many as there can be -/
theorem sp_cb {B : List Rw} {v : V2} (nd : (B.map (·.lead)).Nodup) (hv : v ∈ sp2 (B.map (·.l))) : ∃ c, v = cb B c := by
  refine sp_all (P := fun v => ∃ c, v = cb B c) ⟨_, (cb_z (B := B)).1.symm⟩ (fun q v ⟨c, hc⟩ ⟨d, hd⟩ => ⟨fun i => c i != d i, by rw [hc, hd, (cp_xor (B := B) (c := c) (d := d)).1]⟩) _ (fun q hq => ?_) v hv
  obtain ⟨r, hr, rfl⟩ := List.mem_map.mp hq
  exact ⟨tog (fun _ => false) r.lead, by rw [(cb_tog nd hr).1, cb_z.1, ad_z]⟩
theorem cb_sp {L : List V2} {c : Nat → Bool} : ∀ {B : List Rw}, (∀ r ∈ B, r.l ∈ L) → cb B c ∈ sp2 L
  | [], _ => sp_zero L
  | r :: B, h => by
    have i1 := cb_sp (c := c) fun s hs => h s (List.mem_cons_of_mem r hs)
    rw [cb_cons]
    split
    · exact sp_add L _ _ (h r List.mem_cons_self) i1
    · exact i1
theorem Ech.pre {B : List Rw} {r : Rw} (h : Ech (B ++ [r])) : Ech B := ⟨(List.pairwise_append.mp h.srt).1, fun s hs => h.low s (List.mem_append_left _ hs), fun s hs => h.one s (List.mem_append_left _ hs)⟩
theorem sp_nd : ∀ {B : List Rw}, Ech B → (sp2 (B.map (·.l))).Nodup := fun {B} => by
  refine rev_ind (P := fun B : List Rw => Ech B → (sp2 (B.map fun r => r.l)).Nodup) (fun _ => by simp [sp2]) (fun B r ih h => ?_) B
  have ih := ih h.pre
  rw [List.map_append, List.map_singleton, sp_app]
  refine List.nodup_append.mpr ⟨ih, List.pairwise_map.mpr (ih.imp fun {a b} ne e => ne (by have h2 : ad r.l (ad r.l a) = ad r.l (ad r.l b) := congrArg (ad r.l) e; rwa [ad_ad, ad_ad] at h2)), fun a ha b hb e => ?_⟩
  obtain ⟨u, hu, rfl⟩ := List.mem_map.mp hb
  obtain ⟨c, rfl⟩ := sp_cb h.pre.nd ha
  obtain ⟨d, rfl⟩ := sp_cb h.pre.nd hu
  have ne : ∀ s ∈ B, s.lead ≠ r.lead := fun s hs => Nat.ne_of_lt ((List.pairwise_append.mp h.srt).2.2 s hs r (by simp))
  let k : Nat → Bool := fun i => if i = r.lead then true else (c i != d i)
  have ek : cb (B ++ [r]) k = z2 := by
    rw [(cp_app (B := B) (r := r) (c := k)).1, if_pos (if_pos rfl), (cp_congr (B := B) (c := k) (d := fun i => c i != d i) fun s hs => if_neg (ne s hs)).1, (cp_xor (B := B) (c := c) (d := d)).1, e, ad_assoc, ad_self, ad_z, ad_self]
  have := (cb_ind h ek).1 r (by simp)
  have q : k r.lead = true := if_pos rfl
  rw [q] at this
  cases this
theorem sp_bl (he : Ech B) {v : V2} : v ∈ sp2 (B.map (·.l)) ↔ ∃ c, v = cb B c := ⟨sp_cb he.nd, fun ⟨c, e⟩ => e ▸ cb_sp fun r hr => List.mem_map.mpr ⟨r, hr, rfl⟩⟩
/-- each sum of some: by places -/
theorem sp_sub : ∀ (Q : List V2) (v : V2), v ∈ sp2 Q → ∃ s : List Nat, s.Pairwise (· < ·) ∧ (∀ k ∈ s, k < Q.length) ∧ ∀ f, s.foldl (fun h k => ad h (Q.getD k z2)) f = ad f v := rev_ind (fun v hv => by
  simp [sp2] at hv
  subst hv
  exact ⟨[], .nil, (fun _ h => by cases h), fun f => by simp⟩) fun Q q ih v hv => by
  rw [sp_app] at hv
  have old : ∀ (s : List Nat) (f : V2), (∀ k ∈ s, k < Q.length) → s.foldl (fun h k => ad h ((Q ++ [q]).getD k z2)) f = s.foldl (fun h k => ad h (Q.getD k z2)) f := fun s => by
    induction s with
    | nil => intro f _; rfl
    | cons k s ihs =>
      intro f hk
      rw [List.foldl_cons, List.foldl_cons, ihs _ fun j hj => hk j (List.mem_cons_of_mem _ hj)]
      rw [List.getD_eq_getElem?_getD, List.getElem?_append_left (hk k List.mem_cons_self), ← List.getD_eq_getElem?_getD]
  rcases List.mem_append.mp hv with hv | hv
  · obtain ⟨s, h1, h2, h3⟩ := ih v hv
    exact ⟨s, h1, fun k hk => by have := h2 k hk; simp; omega, fun f => by rw [old s f h2, h3]⟩
  · obtain ⟨u, hu, rfl⟩ := List.mem_map.mp hv
    obtain ⟨s, h1, h2, h3⟩ := ih u hu
    refine ⟨s ++ [Q.length], List.pairwise_append.mpr ⟨h1, by simp, fun a ha b hb => ?_⟩, fun k hk => ?_, fun f => ?_⟩
    · simp at hb; subst hb; exact h2 a ha
    · rcases List.mem_append.mp hk with hk | hk
      · have := h2 k hk; simp; omega
      · simp at hk; subst hk; simp
    · rw [List.foldl_append, old s f h2, h3]
      have e : (Q ++ [q]).getD Q.length z2 = q := by simp
      show ad (ad f u) ((Q ++ [q]).getD Q.length z2) = _
      rw [e, ad_assoc, ad_comm (f := u)]
theorem fold_T (h : ∀ q ∈ Q, Tn n M q = z2) (hq : ∀ q ∈ Q, Sup n q) : ∀ (s : List Nat) (f : V2), Sup n f → Sup n (s.foldl (fun h k => ad h (Q.getD k z2)) f) ∧ Tn n M (s.foldl (fun h k => ad h (Q.getD k z2)) f) = Tn n M f
  | [], f, hf => ⟨hf, rfl⟩
  | k :: s, f, hf => by
    have m : Q.getD k z2 = z2 ∨ Q.getD k z2 ∈ Q := by
      rw [List.getD_eq_getElem?_getD]
      cases e : Q[k]? with
      | none => exact .inl rfl
      | some q => exact .inr (List.mem_of_getElem? e)
    have m1 : Sup n (Q.getD k z2) := by
      rcases m with m | m
      · rw [m]; exact sup_z
      · exact hq _ m
    have m2 : Tn n M (Q.getD k z2) = z2 := by
      rcases m with m | m
      · rw [m]; exact Tn_z
      · exact h _ m
    obtain ⟨a1, a2⟩ := fold_T h hq s (ad f (Q.getD k z2)) (hf.ad m1)
    exact ⟨a1, by rw [List.foldl_cons, a2, Tn_ad, m2, ad_z]⟩
end
end Kw
set_option maxHeartbeats 1000000
namespace Kw
open PySem PySem.Spec PyProof.Rows

/-! ### sets and rows of 0 and 1 -/
def vec (s : List Nat) : V2 := fun x => decide (x ∈ s)
theorem vec_canon {n : Nat} {f : V2} (h : Sup n f) : vec (canon n f) = f := by
  funext x
  show decide (x ∈ canon n f) = f x
  by_cases hx : x < n
  · cases c : f x with
    | true => exact decide_eq_true (canon_mem.mpr ⟨hx, c⟩)
    | false => exact decide_eq_false fun q => by rw [(canon_mem.mp q).2] at c; cases c
  · rw [h x (by omega)]
    exact decide_eq_false fun q => hx (canon_mem.mp q).1
theorem canon_vec {n : Nat} {s : List Nat} (h : s ∈ setsT n) : canon n (vec s) = s := by
  obtain ⟨h1, h2⟩ := sets_mem.mp h
  exact (inc_canon h1 fun x => ⟨fun q => ⟨h2 x q, decide_eq_true q⟩, fun q => of_decide_eq_true q.2⟩).symm
theorem sup_vec {n : Nat} {s : List Nat} (h : s ∈ setsT n) : Sup n (vec s) := fun x hx => decide_eq_false fun q => by
  have := (sets_mem.mp h).2 x q
  omega
theorem canon_sets {n : Nat} {f : Nat → Bool} : canon n f ∈ setsT n := sets_mem.mpr ⟨canon_lt, fun x hx => (canon_mem.mp hx).1⟩
theorem canon_inj {n : Nat} {f g : V2} (hf : Sup n f) (hg : Sup n g) (h : canon n f = canon n g) : f = g := by rw [← vec_canon hf, ← vec_canon hg, h]
theorem canon_z {n : Nat} : canon n z2 = [] := by
  refine List.eq_nil_iff_forall_not_mem.mpr fun x hx => ?_
  have := (canon_mem.mp hx).2
  cases this
theorem vec_nil : vec [] = z2 := by funext x; simp [vec, z2]
theorem gen_nd : ∀ k, (gen k).Nodup
  | 0 => by simp [gen]
  | k + 1 => by
    have ih := gen_nd k
    show (gen k ++ (gen k).map (· ++ [k])).Nodup
    refine List.nodup_append.mpr ⟨ih, List.pairwise_map.mpr (ih.imp fun {a b} ne e => ne (List.append_cancel_right e)), fun a ha b hb e => ?_⟩
    obtain ⟨u, hu, rfl⟩ := List.mem_map.mp hb
    have := (gen_mem.mp ha).2 k (by rw [e]; simp)
    omega
theorem sets_nd {n : Nat} : (setsT n).Nodup := (List.mergeSort_perm _ _).nodup_iff.mpr (gen_nd n)
/-- the balls -/
def Mp (ps : List (Nat × Nat)) : Nat → V2 := fun k x => adj ps k x || decide (x = k)
theorem Mp_sym {ps : List (Nat × Nat)} (i j : Nat) : Mp ps i j = Mp ps j i := by
  unfold Mp
  rw [adj_comm]
  congr 1
  exact decide_eq_decide.mpr ⟨Eq.symm, Eq.symm⟩
theorem Mp_diag {ps : List (Nat × Nat)} (i : Nat) : Mp ps i i = true := by simp [Mp]
theorem ball_Mp {n i : Nat} {ps : List (Nat × Nat)} : ball n ps i = canon n (Mp ps i) := rfl
def tn (n : Nat) (ps : List (Nat × Nat)) (s : List Nat) : List Nat := canon n (Tn n (Mp ps) (vec s))
def xs2 (n : Nat) (s t : List Nat) : List Nat := canon n (ad (vec s) (vec t))
def allL (n : Nat) : List Nat := List.range n
theorem allL_c {n : Nat} : allL n = canon n ones := (List.filter_eq_self.mpr fun _ _ => rfl).symm
theorem perm_of {α : Type} [DecidableEq α] {l m : List α} (hl : l.Nodup) (hm : m.Nodup) (h : ∀ x, x ∈ l ↔ x ∈ m) : l.Perm m := by
  rw [List.perm_iff_count]
  intro a
  by_cases q : a ∈ l
  · rw [hl.count, hm.count, if_pos q, if_pos ((h a).mp q)]
  · rw [hl.count, hm.count, if_neg q, if_neg fun z => q ((h a).mpr z)]
section
variable {n : Nat} {ps : List (Nat × Nat)} {B : List Rw} {Q : List V2}
def quietL (n : Nat) (ps : List (Nat × Nat)) : List (List Nat) := (setsT n).filter fun s => decide (tn n ps s = [])
def goodL (n : Nat) (ps : List (Nat × Nat)) (L : List Nat) : List (List Nat) := (setsT n).filter fun s => decide (tn n ps s = L)
def agL (n : Nat) (ps : List (Nat × Nat)) (L : List Nat) : List (List Nat) := (quietL n ps).filter fun s => dot n (vec s) (vec L)
theorem tn_sets {s : List Nat} : tn n ps s ∈ setsT n := canon_sets
theorem vec_tn {s : List Nat} : vec (tn n ps s) = Tn n (Mp ps) (vec s) := vec_canon sup_T
theorem tn_nil {s : List Nat} : tn n ps s = [] ↔ Tn n (Mp ps) (vec s) = z2 := by
  refine ⟨fun h => ?_, fun h => by unfold tn; rw [h, canon_z]⟩
  rw [← vec_tn, h, vec_nil]
theorem quiet_mem (h : ElOk n (Mp ps) n B Q) (he : Ech B) {s : List Nat} : s ∈ quietL n ps ↔ ∃ v ∈ sp2 Q, s = canon n v := by
  unfold quietL
  rw [List.mem_filter, decide_eq_true_iff, tn_nil]
  refine ⟨fun ⟨h1, h2⟩ => ⟨vec s, (ker_iff h he (sup_vec h1)).mp h2, (canon_vec h1).symm⟩, ?_⟩
  rintro ⟨v, hv, rfl⟩
  refine ⟨canon_sets, ?_⟩
  rw [vec_canon (sup_sp (tops_sup h.tops) v hv)]
  exact T_sp h hv
theorem map_canon_nd {L : List V2} (h : L.Nodup) (hs : ∀ v ∈ L, Sup n v) : (L.map (canon n)).Nodup := by
  refine List.pairwise_map.mpr (List.Pairwise.imp_of_mem ?_ h)
  intro a b ha hb ne e
  exact ne (canon_inj (hs a ha) (hs b hb) e)
theorem quiet_perm (h : ElOk n (Mp ps) n B Q) (he : Ech B) : ((sp2 Q).map (canon n)).Perm (quietL n ps) := by
  refine perm_of (map_canon_nd h.tops.nd (sup_sp (tops_sup h.tops))) (sets_nd.filter _) fun s => ?_
  rw [quiet_mem h he, List.mem_map]
  exact ⟨fun ⟨v, a, b⟩ => ⟨v, a, b.symm⟩, fun ⟨v, a, b⟩ => ⟨v, a, b.symm⟩⟩
theorem quiet_len (h : ElOk n (Mp ps) n B Q) (he : Ech B) : (quietL n ps).length = 2 ^ Q.length := by
  rw [← (quiet_perm h he).length_eq, List.length_map, sp_len]
theorem told_len (h : ElOk n (Mp ps) n B Q) (he : Ech B) : (dd ((setsT n).map (tn n ps))).length = 2 ^ B.length := by
  have sup : ∀ v ∈ sp2 (B.map (·.l)), Sup n v := fun v hv => by
    obtain ⟨c, rfl⟩ := (sp_bl he).mp hv
    exact sup_cb h
  have p : (dd ((setsT n).map (tn n ps))).Perm ((sp2 (B.map (·.l))).map (canon n)) := by
    refine perm_of (dd_nodup _) (map_canon_nd (sp_nd he) sup) fun s => ?_
    rw [dd_mem, List.mem_map, List.mem_map]
    constructor
    · rintro ⟨t, ht, rfl⟩
      obtain ⟨c, hc⟩ := img_ex h (sup_vec ht)
      exact ⟨cb B c, (sp_bl he).mpr ⟨c, rfl⟩, by unfold tn; rw [hc]⟩
    · rintro ⟨v, hv, rfl⟩
      obtain ⟨c, rfl⟩ := (sp_bl he).mp hv
      refine ⟨canon n (cp B c), canon_sets, ?_⟩
      unfold tn
      rw [vec_canon (cp_sup h.sup), T_cp h.t]
  rw [p.length_eq, List.length_map, sp_len, List.length_map]
theorem good_mem {L s : List Nat} (hL : L ∈ setsT n) : s ∈ goodL n ps L ↔ s ∈ setsT n ∧ Tn n (Mp ps) (vec s) = vec L := by
  unfold goodL
  rw [List.mem_filter, decide_eq_true_iff]
  refine and_congr_right fun _ => ⟨fun e => by rw [← vec_tn, e], fun e => ?_⟩
  unfold tn
  rw [e, canon_vec hL]
theorem ag_mem {L s : List Nat} : s ∈ agL n ps L ↔ s ∈ setsT n ∧ Tn n (Mp ps) (vec s) = z2 ∧ dot n (vec s) (vec L) = true := by
  unfold agL quietL
  rw [List.mem_filter, List.mem_filter, decide_eq_true_iff, tn_nil, and_assoc]
/-- yes or no, never both -/
theorem not_both {L s q : List Nat} (hL : L ∈ setsT n) (h1 : s ∈ goodL n ps L) (h2 : q ∈ agL n ps L) : False := by
  obtain ⟨_, e⟩ := (good_mem hL).mp h1
  obtain ⟨_, a, b⟩ := ag_mem.mp h2
  have := sol_dot (n := n) (M := Mp ps) (f := vec s) Mp_sym a
  rw [e, b] at this
  cases this
/-- what the rows tell of lights -/
theorem red_yes (h : ElOk n (Mp ps) n B Q) (he : Ech B) {L : List Nat} (hL : L ∈ setsT n) (e : (red B (vec L, z2)).1 = z2) : canon n (red B (vec L, z2)).2 ∈ goodL n ps L ∧ Sup n (red B (vec L, z2)).2 := by
  obtain ⟨c, e1, _⟩ := red_ok (l := vec L) (f := z2) he
  rw [e1] at e ⊢
  have q := ad_eq_z e
  show canon n (ad z2 (cp B c)) ∈ _ ∧ Sup n (ad z2 (cp B c))
  rw [z_ad]
  refine ⟨(good_mem hL).mpr ⟨canon_sets, ?_⟩, cp_sup h.sup⟩
  rw [vec_canon (cp_sup h.sup), T_cp h.t, q]
theorem red_no (h : ElOk n (Mp ps) n B Q) (he : Ech B) {L : List Nat} (hL : L ∈ setsT n) (e : (red B (vec L, z2)).1 ≠ z2) : ∃ q ∈ Q, dot n q (vec L) = true := by
  obtain ⟨c, e1, h0⟩ := red_ok (l := vec L) (f := z2) he
  rw [e1] at e
  exact no_sol Mp_sym h he (sup_vec hL) rfl h0 e
theorem q_quiet (h : ElOk n (Mp ps) n B Q) {q : V2} (hq : q ∈ Q) : Sup n q ∧ canon n q ∈ quietL n ps := by
  have s := tops_sup h.tops q hq
  refine ⟨s, List.mem_filter.mpr ⟨canon_sets, decide_eq_true (tn_nil.mpr ?_)⟩⟩
  rw [vec_canon s]
  exact h.q q hq
theorem q_ag (h : ElOk n (Mp ps) n B Q) {q : V2} {L : List Nat} (hq : q ∈ Q) (hd : dot n q (vec L) = true) : canon n q ∈ agL n ps L := by
  obtain ⟨s, m⟩ := q_quiet h hq
  exact List.mem_filter.mpr ⟨m, by show dot n (vec (canon n q)) (vec L) = true; rw [vec_canon s]; exact hd⟩
theorem red_sup (h : ElOk n (Mp ps) n B Q) (he : Ech B) {l : V2} (hl : Sup n l) : Sup n (red B (l, z2)).1 ∧ Sup n (red B (l, z2)).2 := by
  obtain ⟨c, e1, _⟩ := red_ok (l := l) (f := z2) he
  rw [e1]
  exact ⟨hl.ad (sup_cb h), by show Sup n (ad z2 (cp B c)); rw [z_ad]; exact cp_sup h.sup⟩
theorem all_yes (h : ElOk n (Mp ps) n B Q) (he : Ech B) : (red B (vec (allL n), z2)).1 = z2 := by
  refine Classical.byContradiction fun q => ?_
  obtain ⟨v, hv, hd⟩ := red_no h he (by rw [allL_c]; exact canon_sets) q
  have := T_even Mp_sym Mp_diag (h.q v hv)
  have e : dot n v (vec (allL n)) = dot n v ones := dot_congr n fun x hx => ⟨rfl, by show decide (x ∈ allL n) = true; exact decide_eq_true (List.mem_range.mpr hx)⟩
  rw [e, this] at hd
  cases hd
/-- as many as turn nothing -/
theorem good_len (h : ElOk n (Mp ps) n B Q) (he : Ech B) {L s0 : List Nat} (hL : L ∈ setsT n) (h0 : s0 ∈ goodL n ps L) : (goodL n ps L).length = 2 ^ Q.length := by
  obtain ⟨m0, t0⟩ := (good_mem hL).mp h0
  have sup : ∀ v ∈ (sp2 Q).map (ad (vec s0)), Sup n v := fun v hv => by
    obtain ⟨u, hu, rfl⟩ := List.mem_map.mp hv
    exact (sup_vec m0).ad (sup_sp (tops_sup h.tops) u hu)
  have nd : ((sp2 Q).map (ad (vec s0))).Nodup := List.pairwise_map.mpr (h.tops.nd.imp fun {a b} ne e => ne (by have h2 : ad (vec s0) (ad (vec s0) a) = ad (vec s0) (ad (vec s0) b) := congrArg (ad (vec s0)) e; rwa [ad_ad, ad_ad] at h2))
  have p : (goodL n ps L).Perm (((sp2 Q).map (ad (vec s0))).map (canon n)) := by
    refine perm_of (sets_nd.filter _) (map_canon_nd nd sup) fun s => ?_
    rw [good_mem hL, List.mem_map]
    constructor
    · rintro ⟨a, b⟩
      refine ⟨vec s, List.mem_map.mpr ⟨ad (vec s0) (vec s), (ker_iff h he ((sup_vec m0).ad (sup_vec a))).mp ?_, ad_ad⟩, canon_vec a⟩
      rw [Tn_ad, t0, b, ad_self]
    · rintro ⟨v, hv, rfl⟩
      obtain ⟨u, hu, rfl⟩ := List.mem_map.mp hv
      refine ⟨canon_sets, ?_⟩
      rw [vec_canon (sup _ hv), Tn_ad, t0, T_sp h hu, ad_z]
  rw [p.length_eq, List.length_map, List.length_map, sp_len]
end
end Kw
set_option maxHeartbeats 1000000
namespace Kw
open PySem PySem.Spec PyProof.Rows
section
variable {n : Nat} {ps : List (Nat × Nat)}
theorem seq_p {f g : DS} {ρ : Env} {t : Tp} (ρ' : Env) (h : f ρ = ret (.nx ρ')) : sSeq f g ρ t = g ρ' t := by rw [seq_nx ρ' h]
theorem add_1n {k : Nat} : binM .Add (.int 1) (nI k) = ret (nI (1 + k)) := by
  rw [show binM .Add (.int 1) (nI k) = ret (.int (1 + (k : Int))) from rfl]
  unfold nI
  congr 2
theorem eq_lT0 {L : List (List Nat)} : cmpM .Eq (lT L) (.list []) = ret (.bool (decide (L = []))) := by
  rw [show (PyData.list [] : D) = lT [] from rfl, eq_ok (ok_lT _) (ok_lT _), eqv_lT]
theorem ne_nI' {a b : Nat} : cmpM .NotEq (nI a) (nI b) = ret (.bool (!decide (a = b))) := by rw [ne_ok (ok_nI a) (ok_nI b), eqv_nI]
theorem le_key {α β : Type} {f : α → D} {g : β → D} {x y : α} {x' y' : β} (h1 : f x = g x') (h2 : f y = g y') : PySem.W.dataLe false f x y = PySem.W.dataLe false g x' y' := by
  unfold PySem.W.dataLe PySem.W.sortLe
  simp only [h1, h2]
theorem keyAt_row {s : List Nat} {ρ : Env} : rowKey ρ (tN s) = some (enc2 s) := by
  have : (s.map nI).all isI = true := List.all_eq_true.mpr fun d hd => by
    obtain ⟨x, _, rfl⟩ := List.mem_map.mp hd
    rfl
  show (if (s.map nI).all isI = true then _ else _) = _
  rw [if_pos this]
  simp [enc2, nI, tN]
theorem sort_row {L : List (List Nat)} {ρ : Env} : sortKM rowKey ρ (lT L) = ret ((L.mergeSort le2).map tN) := by
  have k1 : ((L.map tN).map (keyAt rowKey ρ)) = L.map enc2 := by
    rw [List.map_map]
    refine List.map_congr_left fun s hs => ?_
    show keyAt rowKey ρ (tN s) = _
    unfold keyAt
    rw [keyAt_row]; rfl
  have okd : ∀ d ∈ L.map enc2, Ok 2 d ∧ tupConsB d = true ∧ ∀ e ∈ L.map enc2, PySem.W.alike d e = true := fun d hd => by
    obtain ⟨s, _, rfl⟩ := List.mem_map.mp hd
    refine ⟨ok_tup fun y hy => ?_, rfl, fun e he => ?_⟩
    · simp at hy
      rcases hy with rfl | rfl
      · exact (ok_nI _).mono (by decide)
      · exact ok_tN _
    · obtain ⟨r, _, rfl⟩ := List.mem_map.mp he
      have := alike_tN s r
      unfold enc2
      rw [PySem.W.alike]
      simp [PySem.W.alikeAll, this]
      simp [nI, PySem.W.alike]
  have hB : sortB (L.map enc2) = true := by
    unfold sortB alikeB
    rw [Bool.and_eq_true]
    refine ⟨List.all_eq_true.mpr fun d hd => ?_, ?_⟩
    · obtain ⟨⟨o1, o2⟩, _, a⟩ := okd d hd
      rw [o1, Bool.true_and, Bool.and_eq_true]
      exact ⟨decide_eq_true (by omega), List.all_eq_true.mpr a⟩
    · rw [Bool.or_eq_true]
      exact .inl (List.all_eq_true.mpr fun d hd => (okd d hd).2.1)
  show (if ((L.map tN).all fun y => (rowKey ρ y).isSome) = true ∧ sortB ((L.map tN).map (keyAt rowKey ρ)) = true then ret (sortKey (keyAt rowKey ρ) (L.map tN)) else bad) = _
  rw [if_pos]
  · refine congrArg ret ?_
    unfold sortKey
    rw [List.map_mergeSort (s := PySem.W.dataLe false (keyAt rowKey ρ))]
    intro a _ b _
    have e : ∀ s, keyAt rowKey ρ (tN s) = enc2 s := fun s => by unfold keyAt; rw [keyAt_row]; rfl
    exact le_key (f := id) (x := enc2 a) (y := enc2 b) (e a).symm (e b).symm
  · rw [k1]
    refine ⟨List.all_eq_true.mpr fun d hd => ?_, hB⟩
    obtain ⟨s, _, rfl⟩ := List.mem_map.mp hd
    rw [keyAt_row]; rfl
theorem all_sets_r (hn : n ≤ 10) : m_all_sets [tN (List.range n)] = ret (lT (setsT n)) := by
  unfold m_all_sets
  rw [def1]
  unfold s_all_sets
  rw [seq_nx [.val (tN (List.range n)), .val (lT (gen 0)), .un, .un] (by simp; rfl)]
  have lp := for_pre (enc := nI) (tg := .nm 2) (xs := List.range n) (ρ := [.val (tN (List.range n)), .val (lT (gen 0)), .un, .un])
    (body := sSet 1 (slV (eBin (binM .Add) (eBor 1) (eFl (eComp [3] (.nm 3) tYesM (eBin (binM .Add) (eBor 3) (eTup (aCons (eVar 2) aNil))) (iSeq (eBor 1)))))))
    (fun pre ρ => ∃ x : Slot, ρ = [.val (tN (List.range n)), .val (lT (gen pre.length)), x, .un]) ?_ ⟨.un, rfl⟩
  · obtain ⟨ρ', e, x, rfl⟩ := lp
    rw [List.length_range] at e
    rw [seq_nx [.val (tN (List.range n)), .val (lT (gen n)), x, .un] (by
      rw [sFor_r]
      simp only [iSeq_r, eVar_r, getV_0, bnd_ret, seqM_tN]
      exact e)]
    have e1 : eComp [3] (.nm 3) tYesM (eCall m_as_set (aCons (eVar 3) aNil)) (iSeq (eBor 1)) [.val (tN (List.range n)), .val (lT (gen n)), x, .un] = ret ((gen n).map tN) := by
      rw [comp_a (enc := tN) (xs := gen n) (g := tN)]
      · simp
      · intro s hs
        obtain ⟨h1, h2⟩ := gen_mem.mp hs
        simp [as_set_r h2]
        rw [← inc_canon (l := s) h1]
        intro y
        simp
        exact h2 y
    simp only [sRet_r, eFl_r, eSortK, e1, bnd_ret]
    rw [show PyData.list ((gen n).map tN) = lT (gen n) from rfl, sort_row]
    rfl
  · rintro pre k suf ρ epre ⟨x, rfl⟩
    have hk : k = pre.length ∧ k < n := by
      have h1 : (List.range n)[pre.length]? = some k := by rw [epre]; simp
      have h2 := (List.getElem?_eq_some_iff.mp h1)
      obtain ⟨h2, h3⟩ := h2
      simp at h2 h3
      omega
    obtain ⟨hk, hkn⟩ := hk
    refine ⟨_, rfl, [.val (tN (List.range n)), .val (lT (gen (k + 1))), .val (nI k), .un], ?_, .val (nI k), by rw [List.length_append, hk]; rfl⟩
    simp only [List.set_cons_succ, List.set_cons_zero]
    rw [← hk]
    have e1 : eComp [3] (.nm 3) tYesM (eBin (binM .Add) (eBor 3) (eTup (aCons (eVar 2) aNil))) (iSeq (eBor 1)) [.val (tN (List.range n)), .val (lT (gen k)), .val (nI k), .un] = ret (((gen k).map (· ++ [k])).map tN) := by
      rw [comp_a (enc := tN) (xs := gen k) (g := fun s => tN (s ++ [k]))]
      · simp [Function.comp_def]
      · simp
      · intro s hs
        obtain ⟨h1, h2⟩ := gen_mem.mp hs
        have ls : s.length ≤ k := nodup_lt (h1.imp fun h e => absurd (e ▸ h) (Nat.lt_irrefl _)) h2
        have e0 : PyData.tuple [nI k] = tN [k] := rfl
        simp [e0, app_tN (l := s) (m := [k]) (by simp; omega)]
    have gl := gen_len k
    have gb : 2 ^ k ≤ 2 ^ 10 := Nat.pow_le_pow_right (by decide) (by omega)
    have g10 : (2 : Nat) ^ 10 = 1024 := by decide
    rw [sSet_r, slV_r, eBin_r, eFl_r, e1]
    simp only [eBor_r, getB_s, getB_0, bnd_ret, List.set_cons_succ, List.set_cons_zero]
    unfold lT
    rw [app_l (by simp only [List.length_map]; omega)]
    simp [gen]
structure PD (n : Nat) (ps : List (Nat × Nat)) : Prop where
  lt : ∀ p ∈ ps, p.1 < p.2 ∧ p.2 < n
  nd : ps.Nodup
  len : ps.length ≤ 1000
theorem PairsOk.pd (h : PairsOk n ps) : PD n ps := ⟨h.lt, h.srt.imp fun q => PR_ne q, h.len⟩
theorem nl_nd' {i : Nat} (h : PD n ps) : (nl1 ps i ++ nl2 ps i).Nodup := by
  refine List.nodup_append.mpr ⟨?_, ?_, fun a ha b hb e => ?_⟩
  · refine List.pairwise_map.mpr (List.Pairwise.imp_of_mem (fun {p q} hp hq hpq => ?_) (h.nd.filter _))
    have e1 := (List.mem_filter.mp hp).2
    have e2 := (List.mem_filter.mp hq).2
    simp at e1 e2
    exact fun e => hpq (Prod.ext (by omega) e)
  · refine List.pairwise_map.mpr (List.Pairwise.imp_of_mem (fun {p q} hp hq hpq => ?_) (h.nd.filter _))
    have e1 := (List.mem_filter.mp hp).2
    have e2 := (List.mem_filter.mp hq).2
    simp at e1 e2
    exact fun e => hpq (Prod.ext e (by omega))
  · subst e
    have := (h.lt _ (nl1_mem.mp ha)).1
    have := (h.lt _ (nl2_mem.mp hb)).1
    simp at *
    omega
theorem nl_mem' {i : Nat} (h : PD n ps) : ∀ x, x ∈ nl1 ps i ++ nl2 ps i ↔ x < n ∧ adj ps i x = true := fun x => by
  rw [List.mem_append, nl1_mem, nl2_mem, adj_iff]
  constructor
  · rintro (q | q)
    · exact ⟨(h.lt _ q).2, .inl q⟩
    · have := h.lt _ q
      simp at this
      exact ⟨by omega, .inr q⟩
  · exact fun q => q.2
theorem lnear_d {i : Nat} (h : PD n ps) : m__law_near [pL ps, nI i] = ret (tN (near n ps i)) := by
  unfold m__law_near
  rw [def2]
  have hl := h.len
  have e1 : eComp [2, 3] (.tup [2, 3]) (tBool (eBin (cmpM .Eq) (eBor 2) (eBor 1))) (eVar 3) (iSeq (eBor 0)) [.val (pL ps), .val (nI i), .un, .un] = ret ((nl1 ps i).map nI) := by
    rw [comp_f (enc := pN) (xs := ps) (p := fun p => decide (p.1 = i)) (g := fun p => nI p.2)]
    · simp [nl1, Function.comp_def]
    · simp
    · intro p hp
      simp [eq_nI]
  have e2 : eComp [2, 3] (.tup [2, 3]) (tBool (eBin (cmpM .Eq) (eBor 3) (eBor 1))) (eVar 2) (iSeq (eBor 0)) [.val (pL ps), .val (nI i), .un, .un] = ret ((nl2 ps i).map nI) := by
    rw [comp_f (enc := pN) (xs := ps) (p := fun p => decide (p.2 = i)) (g := fun p => nI p.1)]
    · simp [nl2, Function.comp_def]
    · simp
    · intro p hp
      simp [eq_nI]
  have l1 : (nl1 ps i).length ≤ 1000 := by unfold nl1; rw [List.length_map]; exact Nat.le_trans (List.length_filter_le _ _) hl
  have l2 : (nl2 ps i).length ≤ 1000 := by unfold nl2; rw [List.length_map]; exact Nat.le_trans (List.length_filter_le _ _) hl
  have e3 := app_l (xs := (nl1 ps i).map nI) (ys := (nl2 ps i).map nI) (by simp; omega)
  have e4 := sorted_canon (d := .list ((nl1 ps i).map nI ++ (nl2 ps i).map nI)) (l := nl1 ps i ++ nl2 ps i) (by rw [items_l, List.map_append]) (nl_nd' h) (nl_mem' h)
  simp [s__law_near, e1, e2, e3, e4]
  rfl
theorem adj_irr' {i : Nat} (h : PD n ps) : adj ps i i = false := by
  cases e : adj ps i i with
  | false => rfl
  | true =>
    rcases adj_iff.mp e with q | q
    · have := (h.lt _ q).1; simp at this
    · have := (h.lt _ q).1; simp at this
theorem near_i_nd' {i : Nat} (hp : PD n ps) : (near n ps i ++ [i]).Nodup := by
  refine List.nodup_append.mpr ⟨canon_lt.imp fun h e => absurd (e ▸ h) (Nat.lt_irrefl _), by simp, fun a ha b hb e => ?_⟩
  simp at hb
  subst hb; subst e
  have := (canon_mem.mp ha).2
  rw [adj_irr' hp] at this
  cases this
theorem lball_d {i : Nat} (hi : i < n) (h : PD n ps) (hn : n ≤ 100) : m__law_ball [pL ps, nI i] = ret (tN (ball n ps i)) := by
  unfold m__law_ball
  rw [def2]
  have e1 : PyData.tuple [nI i] = tN [i] := rfl
  have e2 := app_tN (l := near n ps i) (m := [i]) (by have := canon_len (n := n) (P := adj ps i); simp [near]; omega)
  have e3 := sorted_canon (d := tN (near n ps i ++ [i])) rfl (near_i_nd' h) (near_i_mem hi)
  simp [s__law_ball, lnear_d h, e1, e2, e3]
  rfl
theorem head_len {P : List Nat → Bool} {E : List Nat} (hE : E ∈ (setsT n).filter P) (hm : ∀ s, P s = true → E.length ≤ s.length) : ((((setsT n).filter P).headD []).length = E.length) ∧ ∃ h r, (setsT n).filter P = h :: r := by
  cases e : (setsT n).filter P with
  | nil => rw [e] at hE; cases hE
  | cons h r =>
    refine ⟨?_, h, r, rfl⟩
    have srt : ((setsT n).filter P).Pairwise fun a b => le2 a b = true := sets_srt.filter _
    have hh : h ∈ (setsT n).filter P := by rw [e]; exact List.mem_cons_self
    have l1 := hm h (List.mem_filter.mp hh).2
    rw [e] at srt hE
    rcases List.mem_cons.mp hE with q | q
    · rw [q]; rfl
    · have l2 := (List.pairwise_cons.mp srt).1 E q
      rcases le2_iff.mp l2 with l | ⟨l, _⟩
      · omega
      · exact l
theorem ixl0 {a : D} {l : List D} : ixM (.list (a :: l)) (.int 0) = ret a := ix_l (i := 0) rfl
theorem ixl1 {a b : D} {l : List D} : ixM (.list (a :: b :: l)) (.int 1) = ret b := ix_l (i := 1) rfl
theorem nin_tt {α : Type} {l : List α} {f : α → Bool} : cmpM .NotIn (.bool true) (.list (l.map fun x => .bool (f x))) = ret (.bool (l.all fun x => !f x)) := by
  have hb : ∀ a b : Bool, PyData.eqv (.bool a) (.bool b) = decide (a = b) := fun a b => by cases a <;> cases b <;> rfl
  have := has_map (enc := PyData.bool) (k := 0) hb ok_bool (by decide) true true (l.map f)
  rw [List.map_map] at this
  refine (show cmpM .NotIn (.bool true) (.list (l.map fun x => .bool (f x))) = hasD true (.bool true) (l.map (PyData.bool ∘ f)) from rfl).trans (this.trans ?_)
  congr 2
  rw [Bool.eq_iff_iff]
  simp
theorem nin_f {α : Type} {l : List α} {f : α → Bool} : cmpM .NotIn (.bool false) (.list (l.map fun x => .bool (f x))) = ret (.bool (l.all f)) := by
  have hb : ∀ a b : Bool, PyData.eqv (.bool a) (.bool b) = decide (a = b) := fun a b => by cases a <;> cases b <;> rfl
  have := has_map (enc := PyData.bool) (k := 0) hb ok_bool (by decide) true false (l.map f)
  rw [List.map_map] at this
  refine (show cmpM .NotIn (.bool false) (.list (l.map fun x => .bool (f x))) = hasD true (.bool false) (l.map (PyData.bool ∘ f)) from rfl).trans (this.trans ?_)
  congr 2
  rw [Bool.eq_iff_iff]
  simp
def hdL (L : List (List Nat)) : List Nat := L.headD []
theorem ix_h {L : List (List Nat)} (h : L ≠ []) : ixM (lT L) (.int 0) = ret (tN (hdL L)) := by
  cases L with
  | nil => exact (h rfl).elim
  | cons a r => exact ixl0
theorem head_in {L : List (List Nat)} (h : L ≠ []) : hdL L ∈ L := by
  cases L with
  | nil => exact (h rfl).elim
  | cons a r => exact List.mem_cons_self
theorem set_len {s : List Nat} (h : s ∈ setsT n) : s.length ≤ n := by
  obtain ⟨h1, h2⟩ := sets_mem.mp h
  exact nodup_lt (h1.imp fun h e => absurd (e ▸ h) (Nat.lt_irrefl _)) h2
theorem in_not {d : D} {k : Nat} {L : List (List Nat)} (h : Ok k d) (hk : k ≤ 60) (he : ∀ s, PyData.eqv (tN s) d = false) : cmpM .In d (lT L) = ret (.bool false) := by
  show hasD false d (L.map tN) = _
  unfold hasD
  rw [if_pos ⟨h.1, (all_ok (k := 1) fun d hd => by
    obtain ⟨s, _, rfl⟩ := List.mem_map.mp hd
    exact ok_tN _).1, by have := h.2; omega⟩]
  congr 2
  rw [Bool.false_bne, List.any_eq_false]
  intro z hz
  obtain ⟨s, _, rfl⟩ := List.mem_map.mp hz
  rw [he s]
  simp
theorem in_none {L : List (List Nat)} : cmpM .In .none (lT L) = ret (.bool false) := in_not ok_none (by decide) fun s => by simp [tN, PyData.eqv]
theorem in_list {L : List (List Nat)} {l : List Nat} : cmpM .In (lN l) (lT L) = ret (.bool false) := in_not (ok_lN l) (by decide) fun s => by simp [tN, lN, PyData.eqv]
def thr {α : Type} (c : Str) (d : D) : M α := fun t => .exc c d t
@[simp] theorem bnd_thr {α β : Type} {c : Str} {d : D} {f : α → M β} : bnd (thr c d) f = thr c d := rfl
theorem raise_r {x : Str} {e : DE} {ρ : Env} {d : D} (h : e ρ = ret d) : sRaise x e ρ = thr x d := by
  show bnd (e ρ) (fun d => thr x d) = _
  rw [h]; rfl
theorem try_thr {x : Str} {f : DS} {ρ : Env} {d : D} (h : f ρ = thr x d) : sTry x f ρ = ret (.rt d) := by
  funext t
  unfold sTry
  rw [h]
  simp [thr, ret]
theorem cut_k {xs : List D} {k : Nat} : cutD xs none (some (k : Int)) = xs.take k := by
  unfold cutD
  rw [HT.sIx_none, HT.sIx_nat, List.drop_zero, Nat.sub_zero]
  rcases Nat.le_total k xs.length with h | h
  · rw [Nat.min_eq_left h]
  · rw [Nat.min_eq_right h, List.take_of_length_le h, List.take_of_length_le (Nat.le_refl _)]
theorem slice_l {xs : List D} {k : Nat} : sliceM (.list xs) none (some (k : Int)) = ret (.list (xs.take k)) := by
  show ret (PyData.list (cutD xs none (some (k : Int)))) = _
  rw [cut_k]
theorem rev_tN {s : List Nat} : revM (tN s) = ret (tN s.reverse) := by
  show ret (PyData.tuple (s.map nI).reverse) = _
  rw [← List.map_reverse]
  rfl
end
end Kw
set_option maxHeartbeats 1000000
namespace Kw
open PySem PySem.Spec PyProof.Rows

section
variable {n : Nat} {ps : List (Nat × Nat)}
/-! ### how often, evenly or oddly -/
def tm (n : Nat) (ps : List (Nat × Nat)) (s : List Nat) (k : Nat) : Nat := ((ball n ps k).filter fun x => decide (x ∈ s)).length
theorem tm_par {s : List Nat} {k : Nat} : decide (tm n ps s k % 2 = 1) = dot n (vec s) (Mp ps k) := by
  rw [dot_par]
  unfold tm
  rw [ball_Mp]
  unfold canon
  rw [List.filter_filter]
  rfl
theorem and_1 {k : Nat} : binM .BitAnd (nI k) (.int 1) = ret (nI (k % 2)) := by
  show (ret (PyData.int (Builtin.bitAnd (k : Int) 1)) : M D) = _
  rw [bitAnd_m1]
  rfl
theorem mod_2 {k : Nat} : binM .Mod (nI k) (.int 2) = ret (nI (k % 2)) := by
  show (if (0 : Int) < 2 then ret (PyData.int ((k : Int) % 2)) else (bad : M D)) = _
  rw [if_pos (by decide)]
  rfl
theorem tru_nI {k : Nat} : truM (nI k) = ret (decide (k ≠ 0)) := by
  show ofO (some ((k : Int) != 0)) = _
  rw [ofO_some]
  congr 1
  rw [Bool.eq_iff_iff]
  simp
theorem eq_n1 {k : Nat} : cmpM .Eq (nI k) (.int 1) = ret (.bool (decide (k = 1))) := eq_nI (b := 1)
theorem eq_n0 {k : Nat} : cmpM .Eq (nI k) (.int 0) = ret (.bool (decide (k = 0))) := eq_nI (b := 0)
theorem int_nI {k : Nat} : intM [nI k] = ret (nI k) := rfl
theorem odd_b {k : Nat} : decide (k % 2 ≠ 0) = decide (k % 2 = 1) := decide_eq_decide.mpr (by omega)
theorem even_b {k : Nat} : decide (k % 2 = 0) = !decide (k % 2 = 1) := by
  rw [Bool.eq_iff_iff]
  simp
theorem kept_times_r {s : List Nat} (h : PairsOk n ps) (hn : n ≤ 100) : m_kept_times [W n ps, tN s] = ret (.list (((List.range n).map (tm n ps s)).map nI)) := by
  unfold m_kept_times
  rw [def2]
  unfold s_kept_times
  rw [sRet_r, eFl_r, List.map_map, comp_a (enc := nI) (xs := List.range n) (g := nI ∘ tm n ps s)]
  · rfl
  · exact range1_r (by simp [W_many]) (by omega)
  · intro k hk
    have hk := List.mem_range.mp hk
    simp only [bodyC_nm, wipe_cons, wipe_nil, List.set_cons_succ, List.set_cons_zero, tYes_r, bnd_ret, if_true, eCall_r, aCons_r, eFl_r, repl_s, repl_0]
    rw [comp_f (enc := nI) (xs := ball n ps k) (p := fun x => decide (x ∈ s)) (g := nI)]
    · simp only [bnd_ret, aNil_r, len_l, List.length_map]
      rfl
    · rw [iSeq_r, eball_r (i := k) (by simp) (by simp) hk h hn]
      simp
    · intro x hx
      simp
theorem law_times_r {s : List Nat} (h : PairsOk n ps) (hn : n ≤ 100) : m__law_times [nI n, pL ps, tN s] = ret (.list (((List.range n).map (tm n ps s)).map nI)) := by
  unfold m__law_times
  rw [def3]
  unfold s__law_times
  rw [sRet_r, eFl_r, List.map_map, comp_a (enc := nI) (xs := List.range n) (g := nI ∘ tm n ps s)]
  · rfl
  · exact range1_r (by simp) (by omega)
  · intro k hk
    have hk := List.mem_range.mp hk
    simp only [bodyC_nm, wipe_cons, wipe_nil, List.set_cons_succ, List.set_cons_zero, tYes_r, bnd_ret, if_true, eCall_r, aCons_r, eFl_r, repl_s, repl_0]
    rw [comp_f (enc := nI) (xs := ball n ps k) (p := fun x => decide (x ∈ s)) (g := nI)]
    · simp only [bnd_ret, aNil_r, len_l, List.length_map]
      rfl
    · simp only [iSeq_r, eCall_r, aCons_r, eVar_r, getV_s, getV_0, bnd_ret, aNil_r, lball_r hk h hn, seqM_tN]
    · intro x hx
      simp
theorem tn_at {s : List Nat} {k : Nat} (hk : k < n) : decide (tm n ps s k % 2 = 1) = Tn n (Mp ps) (vec s) k := by
  unfold Tn
  rw [tm_par, decide_eq_true hk, Bool.true_and]
theorem tm_ix {s : List Nat} {k : Nat} (hk : k < n) : ixM (.list (((List.range n).map (tm n ps s)).map nI)) (nI k) = ret (nI (tm n ps s k)) := ix_l (by rw [List.map_map, row_at hk]; rfl)
theorem law_turned_r {s : List Nat} (h : PairsOk n ps) (hn : n ≤ 100) : m__law_turned [nI n, pL ps, tN s] = ret (tN (tn n ps s)) := by
  unfold m__law_turned
  rw [def3]
  unfold s__law_turned
  simp only [repl_s, repl_0]
  rw [seq_nx [.val (nI n), .val (pL ps), .val (tN s), .val (.list (((List.range n).map (tm n ps s)).map nI)), .un] (by simp [law_times_r h hn])]
  rw [sRet_r, eCall_r, aCons_r, eFl_r, comp_f (enc := nI) (xs := List.range n) (p := Tn n (Mp ps) (vec s)) (g := nI)]
  · rfl
  · exact range1_r (by simp) (by omega)
  · intro k hk
    have hk := List.mem_range.mp hk
    simp only [bodyC_nm, wipe_cons, wipe_nil, List.set_cons_succ, List.set_cons_zero, tBool_r, eBin_r, eCall_r, aCons_r, eBor_r, getB_s, getB_0, bnd_ret, aNil_r, eC_r, tm_ix hk, int_nI, mod_2, eq_n1, truB_r, tn_at hk, eVar_r, getV_s, getV_0]
theorem check_r {s : List Nat} (hs : s ∈ setsT n) (hn : n ≤ 100) : m_check_set [tN s, nI n] = ret .none := by
  have := set_len hs
  unfold m_check_set
  rw [def2]
  unfold s_check_set
  rw [if_f]
  · rfl
  · simp [state_set_r (n := n) (s := s) (by omega), hs]
theorem check_no {v : D} (h : m_is_state_set [v, nI n] = ret (.bool false)) : m_check_set [v, nI n] = thr "InvalidSet" .none := by
  unfold m_check_set
  rw [def2]
  unfold s_check_set
  rw [if_t (by simp [h]), raise_r (d := .none) (by simp)]
  rfl
theorem turned_r {s : List Nat} (h : PairsOk n ps) (hn : n ≤ 100) (hs : s ∈ setsT n) : m_turned_lights [W n ps, tN s] = ret (tN (tn n ps s)) := by
  unfold m_turned_lights
  rw [def2]
  unfold s_turned_lights
  simp only [repl_s, repl_0]
  rw [seq_nx [.val (W n ps), .val (tN s), .un] (by simp [W_many, check_r hs hn])]
  rw [sRet_r, eCall_r, aCons_r, eFl_r, comp_f (enc := nI) (xs := List.range n) (p := Tn n (Mp ps) (vec s)) (g := nI)]
  · rfl
  · exact range1_r (by simp [W_many]) (by omega)
  · intro k hk
    have hk := List.mem_range.mp hk
    simp only [bodyC_nm, wipe_cons, wipe_nil, List.set_cons_succ, List.set_cons_zero, tTru_r, eBin_r, eCall_r, aCons_r, eBor_r, getB_s, getB_0, bnd_ret, aNil_r, eC_r, eVar_r, getV_s, getV_0, kept_times_r h hn, tm_ix hk, and_1, tru_nI, odd_b, tn_at hk]
theorem turned_no {v : D} (h : m_is_state_set [v, nI n] = ret (.bool false)) : m_turned_lights [W n ps, v] = thr "InvalidSet" .none := by
  unfold m_turned_lights
  rw [def2]
  unfold s_turned_lights
  rw [sSeq_r, sExpr_r]
  simp [W_many, check_no h]
/-! ### sums -/
theorem odd_sum_r {s t : List Nat} (hs : s ∈ setsT n) (ht : t ∈ setsT n) (hn : n ≤ 100) : m_odd_sum [tN s, tN t] = ret (tN (xs2 n s t)) := by
  have l1 := set_len hs
  have l2 := set_len ht
  have e : ∀ (a b : List Nat) (i j : Nat) (ρ : Env), getB ρ i = ret (tN a) → (∀ x, getB ((ρ.set 2 .un).set 2 (.val (nI x))) j = ret (tN b)) → (∀ x, getB ((ρ.set 2 .un).set 2 (.val (nI x))) 2 = ret (nI x)) → (∀ x, getV ((ρ.set 2 .un).set 2 (.val (nI x))) 2 = ret (nI x)) → eComp [2] (.nm 2) (tBool (eBin (cmpM .NotIn) (eBor 2) (eBor j))) (eVar 2) (iSeq (eBor i)) ρ = ret ((a.filter fun x => !decide (x ∈ b)).map nI) := by
    intro a b i j ρ h1 h2 h3 h4
    rw [comp_f (enc := nI) (xs := a) (p := fun x => !decide (x ∈ b)) (g := nI)]
    · simp only [iSeq_r, eBor_r, h1, bnd_ret, seqM_tN]
    · intro x hx
      simp only [bodyC_nm, wipe_cons, wipe_nil, tBool_r, eBin_r, eBor_r, eVar_r, h2, h3, h4, bnd_ret, nin_tN, truB_r]
  unfold m_odd_sum
  rw [def2]
  unfold s_odd_sum
  simp only [repl_s, repl_0]
  rw [sRet_r, eCall_r, aCons_r, eBin_r, eFl_r, eFl_r, e s t 0 1 _ rfl (fun _ => rfl) (fun _ => rfl) fun _ => rfl, e t s 1 0 _ rfl (fun _ => rfl) (fun _ => rfl) fun _ => rfl]
  have f1 := List.length_filter_le (fun x => !decide (x ∈ t)) s
  have f2 := List.length_filter_le (fun x => !decide (x ∈ s)) t
  simp only [bnd_ret]
  rw [app_l (by simp only [List.length_map]; omega), ← List.map_append]
  simp only [bnd_ret, aNil_r]
  rw [as_set_d (l := s.filter (fun x => !decide (x ∈ t)) ++ t.filter fun x => !decide (x ∈ s)) (n := n) rfl fun x hx => ?_]
  · show ret (tN _) = _
    congr 2
    refine canon_ext fun x hx => ?_
    show _ = (decide (x ∈ s) != decide (x ∈ t))
    rw [Bool.eq_iff_iff]
    by_cases a : x ∈ s <;> by_cases b : x ∈ t <;> simp [a, b]
  · rcases List.mem_append.mp hx with hx | hx
    · exact (sets_mem.mp hs).2 x (List.mem_filter.mp hx).1
    · exact (sets_mem.mp ht).2 x (List.mem_filter.mp hx).1
theorem odd_sum_c {f g : V2} (hf : Sup n f) (hg : Sup n g) (hn : n ≤ 100) : m_odd_sum [tN (canon n f), tN (canon n g)] = ret (tN (canon n (ad f g))) := by
  rw [odd_sum_r canon_sets canon_sets hn]
  unfold xs2
  rw [vec_canon hf, vec_canon hg]
theorem press_sum_r {s t : List Nat} (hs : s ∈ setsT n) (ht : t ∈ setsT n) (hn : n ≤ 100) : m_press_sum [W n ps, tN s, tN t] = ret (tN (xs2 n s t)) := by
  have l1 := set_len hs
  have l2 := set_len ht
  unfold m_press_sum
  rw [def3]
  unfold s_press_sum
  rw [seq_nx [.val (W n ps), .val (tN s), .val (tN t)] (by
    rw [if_f]
    · rfl
    · simp [W_many, state_set_r (n := n) (s := s) (by omega), state_set_r (n := n) (s := t) (by omega), hs, ht])]
  simp [odd_sum_r hs ht hn]
theorem nil_in : ([] : List Nat) ∈ setsT n := sets_mem.mpr ⟨.nil, fun _ z => by cases z⟩
theorem press_no1 {v w : D} (h : m_is_state_set [v, nI n] = ret (.bool false)) : m_press_sum [W n ps, v, w] = thr "InvalidSet" .none := by
  unfold m_press_sum
  rw [def3]
  unfold s_press_sum
  rw [sSeq_r, if_t (by simp [W_many, h]), raise_r (d := .none) (by simp)]
  rfl
theorem press_no2 {v : D} (h : m_is_state_set [v, nI n] = ret (.bool false)) : m_press_sum [W n ps, tN [], v] = thr "InvalidSet" .none := by
  unfold m_press_sum
  rw [def3]
  unfold s_press_sum
  rw [sSeq_r, if_t (by simp [W_many, h, state_set_r (n := n) (s := []) (by simp), nil_in]), raise_r (d := .none) (by simp)]
  rfl
theorem dot_common {s t : List Nat} (hs : s ∈ setsT n) : decide ((s.filter fun x => decide (x ∈ t)).length % 2 = 1) = dot n (vec s) (vec t) := by
  rw [dot_par]
  have e : s.filter (fun x => decide (x ∈ t)) = (List.range n).filter fun x => vec s x && vec t x := by
    conv => lhs; rw [← canon_vec hs]
    unfold canon
    rw [List.filter_filter]
    refine List.filter_congr fun x _ => ?_
    show (decide (x ∈ t) && decide (x ∈ s)) = (decide (x ∈ s) && decide (x ∈ t))
    exact Bool.and_comm _ _
  rw [e]
/-! ### judges -/
theorem are_r {s L : List Nat} (h : PairsOk n ps) (hn : n ≤ 100) (hl : s.length ≤ 50) : m_are_presses_for [W n ps, tN L, tN s] = ret (.bool (decide (s ∈ goodL n ps L))) := by
  unfold m_are_presses_for
  rw [def3]
  unfold s_are_presses_for
  simp only [repl_s, repl_0, sRet_r, eAnd_r, eCall_r, aCons_r, eVar_r, getV_s, getV_0, eUn_r, eBor_r, getB_s, getB_0, W_many, bnd_ret, aNil_r, state_set_r (n := n) (s := s) (by omega), truM_b]
  by_cases q : s ∈ setsT n
  · rw [if_pos (decide_eq_true q)]
    simp only [eBin_r, eCall_r, aCons_r, eVar_r, getV_s, getV_0, eBor_r, getB_s, getB_0, bnd_ret, aNil_r, turned_r h hn q, eq_tN, finM_rt]
    congr 2
    exact decide_eq_decide.mpr ⟨fun e => List.mem_filter.mpr ⟨q, decide_eq_true e⟩, fun e => of_decide_eq_true (List.mem_filter.mp e).2⟩
  · have nq : s ∉ goodL n ps L := fun e => q (List.mem_filter.mp e).1
    rw [if_neg (by simp [q]), decide_eq_false q, decide_eq_false nq]
    rfl
theorem are_no {v : D} {L : List Nat} (h : m_is_state_set [v, nI n] = ret (.bool false)) : m_are_presses_for [W n ps, tN L, v] = ret (.bool false) := by
  unfold m_are_presses_for
  rw [def3]
  unfold s_are_presses_for
  simp [W_many, h]
theorem all_even {s : List Nat} : ((List.range n).all fun k => decide (tm n ps s k % 2 = 0)) = decide (tn n ps s = []) := by
  rw [Bool.eq_iff_iff, List.all_eq_true, decide_eq_true_iff, List.eq_nil_iff_forall_not_mem]
  constructor
  · intro h x hx
    obtain ⟨a, b⟩ := canon_mem.mp hx
    have := h x (List.mem_range.mpr a)
    rw [even_b, tn_at a, b] at this
    cases this
  · intro h x hx
    have hx := List.mem_range.mp hx
    rw [even_b, tn_at hx]
    cases q : Tn n (Mp ps) (vec s) x with
    | false => rfl
    | true => exact (h x (canon_mem.mpr ⟨hx, q⟩)).elim
theorem all_odd {s : List Nat} : ((List.range n).all fun k => decide (tm n ps s k % 2 = 1)) = decide (tn n ps s = allL n) := by
  rw [Bool.eq_iff_iff, List.all_eq_true, decide_eq_true_iff]
  constructor
  · intro h
    exact List.filter_eq_self.mpr fun x hx => by rw [← tn_at (List.mem_range.mp hx)]; exact h x hx
  · intro h x hx
    have q : x ∈ tn n ps s := by rw [h]; exact hx
    rw [tn_at (List.mem_range.mp hx)]
    exact (canon_mem.mp q).2
theorem keeps_r {s L : List Nat} (h : PairsOk n ps) (hn : n ≤ 100) (hl : s.length ≤ 50) : m_keeps_lights [W n ps, tN L, tN s] = ret (.bool (decide (s ∈ agL n ps L))) := by
  unfold m_keeps_lights
  rw [def3]
  unfold s_keeps_lights
  simp only [repl_s, repl_0]
  have e1 : eComp [3] (.nm 3) tYesM (eBin (cmpM .Eq) (eBin (binM .BitAnd) (eBor 3) (eC (.int 1))) (eC (.int 0))) (iSeq (eCall m_kept_times (aCons (eVar 0) (aCons (eVar 2) aNil)))) [.val (W n ps), .val (tN L), .val (tN s), .un] = ret ((List.range n).map fun k => .bool (decide (tm n ps s k % 2 = 0))) := by
    rw [comp_a (enc := nI ∘ tm n ps s) (xs := List.range n) (g := fun k => .bool (decide (tm n ps s k % 2 = 0)))]
    · simp only [iSeq_r, eCall_r, aCons_r, eVar_r, getV_s, getV_0, bnd_ret, aNil_r, kept_times_r h hn, seqM_l, List.map_map]
    · intro k hk
      simp only [bodyC_nm, wipe_cons, wipe_nil, List.set_cons_succ, List.set_cons_zero, tYes_r, bnd_ret, if_true, eBin_r, eBor_r, getB_s, getB_0, eC_r, Function.comp, and_1, eq_n0]
  by_cases q : s ∈ setsT n
  · cases c : dot n (vec s) (vec L) with
    | false =>
      have hc := dot_common (t := L) q
      rw [c] at hc
      have hc : (s.filter fun x => decide (x ∈ L)).length % 2 = 0 := by
        have := of_decide_eq_false hc
        omega
      have : s ∉ agL n ps L := fun z => by rw [(ag_mem.mp z).2.2] at c; cases c
      rw [decide_eq_false this, seq_rt (.bool false) (by
        rw [if_t]
        · rfl
        · simp [W_many, state_set_r (n := n) (s := s) (by omega), q, common_r, and_1, eq_n0, hc])]
      rfl
    | true =>
      have hc := dot_common (t := L) q
      rw [c] at hc
      have hc := of_decide_eq_true hc
      rw [seq_nx [.val (W n ps), .val (tN L), .val (tN s), .un] (by
        rw [if_f]
        · rfl
        · simp [W_many, state_set_r (n := n) (s := s) (by omega), q, common_r, and_1, eq_n0, hc])]
      rw [sRet_r, eCall_r, aCons_r, eFl_r, e1]
      simp only [bnd_ret, aNil_r, allM_map, finM_rt, all_even]
      congr 2
      rw [Bool.eq_iff_iff, decide_eq_true_iff, decide_eq_true_iff, ag_mem, ← tn_nil]
      exact ⟨fun e => ⟨q, e, c⟩, fun e => e.2.1⟩
  · have : s ∉ agL n ps L := fun z => q (ag_mem.mp z).1
    rw [decide_eq_false this, seq_rt (.bool false) (by
      rw [if_t]
      · rfl
      · simp [W_many, state_set_r (n := n) (s := s) (by omega), q])]
    rfl
theorem keeps_no {v : D} {L : List Nat} (h : m_is_state_set [v, nI n] = ret (.bool false)) : m_keeps_lights [W n ps, tN L, v] = ret (.bool false) := by
  unfold m_keeps_lights
  rw [def3]
  unfold s_keeps_lights
  simp only [repl_s, repl_0]
  rw [seq_rt (.bool false) (by
    rw [if_t]
    · rfl
    · simp [W_many, h])]
  rfl
theorem is_odd_r {s : List Nat} (h : PairsOk n ps) (hn : n ≤ 100) (hl : s.length ≤ 50) : m_is_odd_keeper [W n ps, tN s] = ret (.bool (decide (s ∈ setsT n) && decide (tn n ps s = allL n))) := by
  unfold m_is_odd_keeper
  rw [def2]
  unfold s_is_odd_keeper
  simp only [repl_s, repl_0, sRet_r, eAnd_r, eCall_r, aCons_r, eVar_r, getV_s, getV_0, eUn_r, eBor_r, getB_s, getB_0, W_many, bnd_ret, aNil_r, state_set_r (n := n) (s := s) (by omega), truM_b]
  by_cases q : s ∈ setsT n
  · rw [if_pos (decide_eq_true q)]
    have e1 : eComp [2] (.nm 2) tYesM (eBin (binM .BitAnd) (eBor 2) (eC (.int 1))) (iSeq (eCall m_kept_times (aCons (eVar 0) (aCons (eVar 1) aNil)))) [.val (W n ps), .val (tN s), .un] = ret ((List.range n).map fun k => nI (tm n ps s k % 2)) := by
      rw [comp_a (enc := nI ∘ tm n ps s) (xs := List.range n) (g := fun k => nI (tm n ps s k % 2))]
      · simp only [iSeq_r, eCall_r, aCons_r, eVar_r, getV_s, getV_0, bnd_ret, aNil_r, kept_times_r h hn, seqM_l, List.map_map]
      · intro k hk
        simp only [bodyC_nm, wipe_cons, wipe_nil, List.set_cons_succ, List.set_cons_zero, tYes_r, bnd_ret, if_true, eBin_r, eBor_r, getB_s, getB_0, eC_r, Function.comp, and_1]
    have ea : allM [.list ((List.range n).map fun k => nI (tm n ps s k % 2))] = ret (.bool ((List.range n).all fun k => decide (tm n ps s k % 2 = 1))) := by
      have hb : ∀ l : List Nat, blsD (l.map fun k => nI (tm n ps s k % 2)) = some (l.map fun k => decide (tm n ps s k % 2 = 1)) := fun l => by
        induction l with
        | nil => rfl
        | cons a l ih =>
          show (blsD (l.map fun k => nI (tm n ps s k % 2))).map ((((tm n ps s a % 2 : Nat) : Int) != 0) :: ·) = _
          rw [ih]
          have : (((tm n ps s a % 2 : Nat) : Int) != 0) = decide (tm n ps s a % 2 = 1) := by
            rw [Bool.eq_iff_iff]
            simp
            omega
          rw [this]
          rfl
      simp only [allM, hb, List.all_map, Function.comp_def, id]
    rw [decide_eq_true q, Bool.true_and, eFl_r, e1]
    simp only [bnd_ret, aNil_r, ea, finM_rt, all_odd]
  · rw [if_neg (by simp [q]), decide_eq_false q]
    rfl
theorem is_odd_no {v : D} (h : m_is_state_set [v, nI n] = ret (.bool false)) : m_is_odd_keeper [W n ps, v] = ret (.bool false) := by
  unfold m_is_odd_keeper
  rw [def2]
  unfold s_is_odd_keeper
  simp [W_many, h]
end
end Kw
set_option maxHeartbeats 2000000
namespace Kw
open PySem PySem.Spec PyProof.Rows

section
variable {n : Nat} {ps : List (Nat × Nat)} {B : List Rw} {Q : List V2}
/-! ### rows as a dict -/
def encR (n : Nat) (r : Rw) : D := .tuple [tN (canon n r.l), tN (canon n r.p)]
def RK (n : Nat) (B : List Rw) : List (D × D) := B.map fun r => (nI r.lead, encR n r)
def QL (n : Nat) (Q : List V2) : List D := Q.map fun q => tN (canon n q)
theorem RK_all : allK (RK n B) = true := by
  unfold allK
  refine List.all_eq_true.mpr fun p hp => ?_
  obtain ⟨x, _, rfl⟩ := List.mem_map.mp hp
  rfl
theorem RK_any {x : Nat} : ((RK n B).any fun p => PyData.eqv p.1 (nI x)) = decide (x ∈ B.map (·.lead)) := by
  have := any_eqv (fun _ _ => eqv_nI) x (B.map (·.lead))
  rw [← this]
  simp [RK, List.any_map, Function.comp_def]
theorem in_RK {x : Nat} : cmpM .In (nI x) (dicD (RK n B)) = ret (.bool (decide (x ∈ B.map (·.lead)))) := by
  show (if ((keyK (nI x)).isSome = true ∧ allK (RK n B) = true) ∨ ((keyT (nI x)).isSome = true ∧ allT (RK n B) = true) then ret (PyData.bool (false != (lookD (RK n B) (nI x)).isSome)) else bad) = _
  rw [if_pos (.inl ⟨rfl, RK_all⟩)]
  have : (lookD (RK n B) (nI x)).isSome = decide (x ∈ B.map (·.lead)) := by
    unfold lookD
    rw [Option.isSome_map, find_any, RK_any]
  rw [this, Bool.false_bne]
theorem look_RK : ∀ {B : List Rw} {r : Rw}, (B.map (·.lead)).Nodup → r ∈ B → lookD (RK n B) (nI r.lead) = some (encR n r)
  | b :: B, r, nd, h => by
    obtain ⟨nb, nd⟩ := List.nodup_cons.mp nd
    unfold lookD RK
    rw [List.map_cons, List.find?_cons]
    rcases List.mem_cons.mp h with rfl | h
    · have : PyData.eqv (nI r.lead) (nI r.lead) = true := by simp
      simp only [this]
      rfl
    · have ne : b.lead ≠ r.lead := fun e => nb (List.mem_map.mpr ⟨r, h, e.symm⟩)
      have : PyData.eqv (nI b.lead) (nI r.lead) = false := by simp [ne]
      simp only [this]
      exact look_RK nd h
theorem ix_RK {r : Rw} (nd : (B.map (·.lead)).Nodup) (h : r ∈ B) : ixM (dicD (RK n B)) (nI r.lead) = ret (encR n r) := by
  show (if ((keyK (nI r.lead)).isSome = true ∧ allK (RK n B) = true) ∨ ((keyT (nI r.lead)).isSome = true ∧ allT (RK n B) = true) then ofO (lookD (RK n B) (nI r.lead)) else bad) = _
  rw [if_pos (.inl ⟨rfl, RK_all⟩), look_RK nd h]
  rfl
theorem put_RK {ρ : Env} {r : Rw} (h : ρ[1]? = some (.own (dicD (RK n B)))) (hn : r.lead ∉ B.map (·.lead)) (hl : B.length ≤ 1000) : putM ρ 1 (nI r.lead) (encR n r) = ret (.nx (ρ.set 1 (.own (dicD (RK n (B ++ [r])))))) := by
  have e : putD (RK n B) (nI r.lead) (encR n r) = RK n (B ++ [r]) := by
    unfold putD
    rw [RK_any, if_neg (by simp [hn])]
    simp [RK]
  unfold putM
  rw [h]
  show (if ((keyK (nI r.lead)).isSome = true ∧ allK (RK n B) = true) ∨ ((keyT (nI r.lead)).isSome = true ∧ allT (RK n B) = true) then (if (RK n B).length < 16777216 then ret (Fl.nx (ρ.set 1 (.own (dicD (putD (RK n B) (nI r.lead) (encR n r)))))) else bad) else bad) = _
  rw [if_pos (.inl ⟨rfl, RK_all⟩), if_pos (by unfold RK; rw [List.length_map]; omega), e]
theorem canon_head {f : V2} {h : Nat} {r : List Nat} (e : canon n f = h :: r) : h < n ∧ f h = true ∧ ∀ x, x < h → f x = false := by
  obtain ⟨a, b⟩ := canon_mem.mp (show h ∈ canon n f by rw [e]; exact List.mem_cons_self)
  refine ⟨a, b, fun x hx => ?_⟩
  cases c : f x with
  | false => rfl
  | true =>
    have m : x ∈ canon n f := canon_mem.mpr ⟨by omega, c⟩
    have srt := canon_lt (n := n) (P := f)
    rw [e] at m srt
    rcases List.mem_cons.mp m with rfl | m
    · omega
    · have := (List.pairwise_cons.mp srt).1 x m
      omega
theorem canon_e {j : Nat} (hj : j < n) : canon n (e2 j) = [j] := by
  refine (inc_canon (l := [j]) (by simp) fun x => ?_).symm
  simp only [List.mem_singleton]
  exact ⟨fun e => ⟨by omega, decide_eq_true e⟩, fun e => of_decide_eq_true e.2⟩
theorem ball_T {j : Nat} (hj : j < n) : ball n ps j = canon n (Tn n (Mp ps) (e2 j)) := by
  rw [ball_Mp]
  refine canon_ext fun x hx => ?_
  unfold Tn
  rw [dot_e, decide_eq_true hx, decide_eq_true hj, Bool.true_and, Bool.true_and]
  exact Mp_sym _ _
theorem sup_e {j : Nat} (hj : j < n) : Sup n (e2 j) := fun x hx => decide_eq_false (by omega)
def eW (n : Nat) (ps : List (Nat × Nat)) (B : List Rw) (Q : List V2) (j : Nat) (p : V2) (x6 x7 : Slot) : Env := [.val (W n ps), .own (dicD (RK n B)), .own (.list (QL n Q)), .val (nI j), .val (tN (canon n (Tn n (Mp ps) p))), .val (tN (canon n p)), x6, x7, .un]
def cW : DT := tAndM (tBool (eBin (cmpM .NotEq) (eBor 4) (eTup aNil))) (tBool (eBin (cmpM .In) (eBin ixM (eBor 4) (eC (.int 0))) (eBor 1)))
def bW : DS := (sSeq (sUnp (.tup [6, 7]) (eBin ixM (eBor 1) (eBin ixM (eBor 4) (eC (.int 0)))))
  (sPar [4, 5] (aScons (slV (eCall m_odd_sum (aCons (eVar 4) (aCons (eVar 6) aNil)))) (aScons (slV (eCall m_odd_sum (aCons (eVar 5) (aCons (eVar 7) aNil)))) aSnil))))
theorem ne_nil {s : List Nat} : cmpM .NotEq (tN s) (tN []) = ret (.bool (decide (s ≠ []))) := ne_tN (b := [])
theorem eq_nil {s : List Nat} : cmpM .Eq (tN s) (tN []) = ret (.bool (decide (s = []))) := eq_tN (b := [])
theorem ix_head {h : Nat} {r : List Nat} : ixM (tN (h :: r)) (.int 0) = ret (nI h) := ix_tN (i := 0) rfl
theorem cW_r {j : Nat} {p : V2} {x6 x7 : Slot} : cW (eW n ps B Q j p x6 x7) = ret (match canon n (Tn n (Mp ps) p) with | [] => false | h :: _ => decide (h ∈ B.map (·.lead))) := by
  unfold cW eW
  cases e : canon n (Tn n (Mp ps) p) with
  | nil => simp [ne_nil]
  | cons h r => simp [ne_nil, ix_head, in_RK]
theorem while_s {c : DT} {b : DS} {fuel : Nat} {ρ : Env} : sWhile [] c b (fuel + 1) ρ = bnd (c ρ) fun k => if k = true then bnd (b ρ) (sLoop (sWhile [] c b fuel)) else ret (.nx ρ) := rfl
theorem cp_sup' {j : Nat} {c : Nat → Bool} (h : ElOk n (Mp ps) j B Q) (hj : j < n) : Sup n (ad (e2 j) (cp B c)) := (sup_e hj).ad fun x hx => cp_sup h.sup x (by omega)
theorem bW_r {j : Nat} {c0 : Nat → Bool} {x6 x7 : Slot} {r : Rw} {t : List Nat} (h : ElOk n (Mp ps) j B Q) (hj : j < n) (hn : n ≤ 100) (hr : r ∈ B) (e : canon n (Tn n (Mp ps) (ad (e2 j) (cp B c0))) = r.lead :: t) :
    bW (eW n ps B Q j (ad (e2 j) (cp B c0)) x6 x7) = ret (.nx (eW n ps B Q j (ad (e2 j) (cp B (tog c0 r.lead))) (.val (tN (canon n r.l))) (.val (tN (canon n r.p))))) := by
  have s1 := cp_sup' (c := c0) h hj
  have sl : Sup n r.l := by rw [← h.t r hr]; exact sup_T
  have sp : Sup n r.p := fun x hx => h.sup r hr x (by omega)
  have ep : ad (ad (e2 j) (cp B c0)) r.p = ad (e2 j) (cp B (tog c0 r.lead)) := by rw [(cb_tog h.nd hr).2, ad_assoc, ad_comm (f := cp B c0)]
  have el : ad (Tn n (Mp ps) (ad (e2 j) (cp B c0))) r.l = Tn n (Mp ps) (ad (e2 j) (cp B (tog c0 r.lead))) := by rw [← ep, Tn_ad (g := r.p), h.t r hr]
  have o1 := odd_sum_c (n := n) (sup_T (M := Mp ps) (f := ad (e2 j) (cp B c0))) sl hn
  have o2 := odd_sum_c s1 sp hn
  rw [el] at o1
  rw [ep] at o2
  unfold bW
  rw [seq_nx (eW n ps B Q j (ad (e2 j) (cp B c0)) (.val (tN (canon n r.l))) (.val (tN (canon n r.p)))) (by
    unfold sUnp eW
    simp only [eBin_r, eBor_r, getB_s, getB_0, getB_0o, bnd_ret, eC_r]
    rw [e, ix_head, bnd_ret, ix_RK h.nd hr]
    rfl)]
  unfold eW
  simp only [sPar_r, aScons_r, slV_r, eCall_r, aCons_r, eVar_r, getV_s, getV_0, bnd_ret, aNil_r, o1, o2, aSnil_r, setsE_c, setsE_n, List.set_cons_succ, List.set_cons_zero]
theorem while_r {j : Nat} (h : ElOk n (Mp ps) j B Q) (hj : j < n) (hn : n ≤ 100) : ∀ (fuel : Nat) (c0 : Nat → Bool) (x6 x7 : Slot), (∀ k r, canon n (Tn n (Mp ps) (ad (e2 j) (cp B c0))) = k :: r → n - k < fuel) → 0 < fuel →
    ∃ (c1 : Nat → Bool) (y6 y7 : Slot), sWhile [] cW bW fuel (eW n ps B Q j (ad (e2 j) (cp B c0)) x6 x7) = ret (.nx (eW n ps B Q j (ad (e2 j) (cp B c1)) y6 y7)) ∧ ∀ k r, canon n (Tn n (Mp ps) (ad (e2 j) (cp B c1))) = k :: r → k ∉ B.map (·.lead)
  | 0, _, _, _, _, h0 => absurd h0 (Nat.lt_irrefl 0)
  | fuel + 1, c0, x6, x7, hf, _ => by
    rw [while_s, cW_r, bnd_ret]
    cases e : canon n (Tn n (Mp ps) (ad (e2 j) (cp B c0))) with
    | nil => exact ⟨c0, x6, x7, by simp, fun k r q => by rw [e] at q; cases q⟩
    | cons k t =>
      obtain ⟨a1, a2, a3⟩ := canon_head e
      by_cases hk : k ∈ B.map (·.lead)
      · obtain ⟨r, hr, rfl⟩ := List.mem_map.mp hk
        simp only [decide_eq_true hk, if_true]
        rw [bW_r h hj hn hr e, bnd_ret, sLoop_nx]
        have el : Tn n (Mp ps) (ad (e2 j) (cp B (tog c0 r.lead))) = ad r.l (Tn n (Mp ps) (ad (e2 j) (cp B c0))) := by
          rw [(cb_tog h.nd hr).2, ad_left, Tn_ad (f := r.p), h.t r hr]
        have hf0 := hf _ _ e
        refine while_r h hj hn fuel _ _ _ (fun k' t' e' => ?_) (by omega)
        obtain ⟨b1, b2, b3⟩ := canon_head e'
        have : r.lead < k' := by
          rcases Nat.lt_trichotomy r.lead k' with q | q | q
          · exact q
          · rw [el, ← q] at b2
            have b2 : (r.l r.lead != Tn n (Mp ps) (ad (e2 j) (cp B c0)) r.lead) = true := b2
            rw [a2, h.one r hr] at b2
            cases b2
          · rw [el] at b2
            have b2 : (r.l k' != Tn n (Mp ps) (ad (e2 j) (cp B c0)) k') = true := b2
            rw [a3 k' q, h.low r hr k' q] at b2
            cases b2
        omega
      · exact ⟨c0, x6, x7, by simp only [decide_eq_false hk, Bool.false_eq_true, if_false], fun k' r q => by
          rw [e] at q
          obtain ⟨rfl, _⟩ := List.cons.inj q
          exact hk⟩
def bF : DS := (sSeq (sPar [4, 5] (aScons (slV (eMeth "ball" "Web" m_Web_ball (eVar 0) (aCons (eVar 3) aNil))) (aScons (slV (eTup (aCons (eVar 3) aNil))) aSnil)))
  (sSeq (sWhile [] cW bW whFuel)
  (sIf (tBool (eBin (cmpM .Eq) (eBor 4) (eTup aNil))) (sApp 2 (eVar 5)) (sPut 1 (eTup (aCons (eVar 4) (aCons (eVar 5) aNil))) (eBin ixM (eBor 4) (eC (.int 0)))))))
def eF (n : Nat) (ps : List (Nat × Nat)) (B : List Rw) (Q : List V2) (x3 x4 x5 x6 x7 : Slot) : Env := [.val (W n ps), .own (dicD (RK n B)), .own (.list (QL n Q)), x3, x4, x5, x6, x7, .un]
theorem bF_r {j : Nat} {x4 x5 x6 x7 : Slot} (h : ElOk n (Mp ps) j B Q) (hj : j < n) (hn : n ≤ 100) (hp : PairsOk n ps) : ∃ (B' : List Rw) (Q' : List V2) (y3 y4 y5 y6 y7 : Slot), bF (eF n ps B Q (.val (nI j)) x4 x5 x6 x7) = ret (.nx (eF n ps B' Q' y3 y4 y5 y6 y7)) ∧ ElOk n (Mp ps) (j + 1) B' Q' := by
  have e0 : e2 j = ad (e2 j) (cp B fun _ => false) := by rw [cb_z.2, ad_z]
  obtain ⟨c1, y6, y7, e1, h1⟩ := while_r h hj hn whFuel (fun _ => false) x6 x7 (fun k r _ => by show n - k < 1000000; omega) (by show 0 < 1000000; omega)
  unfold bF
  rw [seq_nx (eW n ps B Q j (ad (e2 j) (cp B fun _ => false)) x6 x7) (by
    have eb := eball_r (n := n) (i := j) (ps := ps) (o := eVar 0) (e := eVar 3) (ρ := eF n ps B Q (.val (nI j)) x4 x5 x6 x7) rfl rfl hj hp hn
    rw [sPar_r, aScons_r, aScons_r, slV_r, eb]
    simp only [slV_r, eTup_r, aCons_r, eVar_r, getV_s, getV_0, bnd_ret, aNil_r, aSnil_r, setsE_c, setsE_n, ← e0, eF, eW]
    rw [← ball_T hj, canon_e hj]
    rfl)]
  rw [seq_nx _ e1]
  generalize hpp : ad (e2 j) (cp B c1) = p at h1 e1 ⊢
  have hl1 := h.num
  cases e : canon n (Tn n (Mp ps) p) with
  | nil =>
    have z : Tn n (Mp ps) p = z2 := canon_inj sup_T sup_z (by rw [e, canon_z])
    refine ⟨B, Q ++ [p], .val (nI j), .val (tN []), .val (tN (canon n p)), y6, y7, ?_, el_quiet h hpp.symm z⟩
    rw [if_t (by unfold eW; simp [e, eq_nil])]
    rw [app_r (ds := QL n Q) (v := tN (canon n p)) rfl (by unfold eW; simp) (by unfold QL; rw [List.length_map]; omega)]
    unfold eW eF QL
    rw [e]
    simp
  | cons k t =>
    obtain ⟨a1, a2, a3⟩ := canon_head e
    have hk := h1 k t e
    refine ⟨B ++ [⟨k, Tn n (Mp ps) p, p⟩], Q, .val (nI j), .val (tN (k :: t)), .val (tN (canon n p)), y6, y7, ?_, el_row h (r := ⟨k, Tn n (Mp ps) p, p⟩) hpp.symm rfl a2 a3 fun s hs z => hk (List.mem_map.mpr ⟨s, hs, z⟩)⟩
    rw [if_f (by unfold eW; simp [e, eq_nil])]
    have pr := put_RK (n := n) (B := B) (ρ := eW n ps B Q j p y6 y7) (r := ⟨k, Tn n (Mp ps) p, p⟩) rfl hk (by omega)
    have ev : eTup (aCons (eVar 4) (aCons (eVar 5) aNil)) (eW n ps B Q j p y6 y7) = ret (encR n ⟨k, Tn n (Mp ps) p, p⟩) := rfl
    have ei : eBin ixM (eBor 4) (eC (.int 0)) (eW n ps B Q j p y6 y7) = ret (nI k) := by
      unfold eW
      simp only [eBin_r, eBor_r, getB_s, getB_0, bnd_ret, eC_r, e, ix_head]
    have hh : hereM (eW n ps B Q j p y6 y7) 1 = ret () := rfl
    unfold sPut
    rw [ev, bnd_ret, hh, bnd_ret, ei, bnd_ret, pr]
    unfold eW eF
    rw [e]
    rfl
theorem ElOk.perm {M : Nat → V2} {j : Nat} {B' : List Rw} (h : ElOk n M j B Q) (p : B.Perm B') : ElOk n M j B' Q :=
  ⟨fun r hr => h.t r (p.mem_iff.mpr hr), fun r hr => h.one r (p.mem_iff.mpr hr), fun r hr => h.low r (p.mem_iff.mpr hr), fun r hr => h.lt r (p.mem_iff.mpr hr), fun r hr => h.sup r (p.mem_iff.mpr hr), (p.map (·.lead)).nodup_iff.mp h.nd, h.q, h.tops,
    fun f hf => by
      obtain ⟨c, v, hv, e⟩ := h.all f hf
      exact ⟨c, v, hv, by rw [← (cp_perm (c := c) p).2]; exact e⟩, by rw [← p.length_eq]; exact h.num⟩
/-- what press_rows gives -/
structure PR2 (n : Nat) (ps : List (Nat × Nat)) (B : List Rw) (Q : List V2) : Prop where
  el : ElOk n (Mp ps) n B Q
  ech : Ech B
  r : m_press_rows [W n ps] = ret (.tuple [.list (B.map (encR n)), .list (QL n Q)])
theorem press_rows_r (hp : PairsOk n ps) (hn : n ≤ 100) : ∃ B Q, PR2 n ps B Q := by
  have lp := for_pre (enc := nI) (tg := .nm 3) (xs := List.range n) (ρ := eF n ps [] [] .un .un .un .un .un) (body := bF)
    (fun pre ρ => ∃ (B : List Rw) (Q : List V2) (y3 y4 y5 y6 y7 : Slot), ρ = eF n ps B Q y3 y4 y5 y6 y7 ∧ ElOk n (Mp ps) pre.length B Q) ?_ ⟨[], [], _, _, _, _, _, rfl, el_0⟩
  · obtain ⟨ρ', e, B, Q, y3, y4, y5, y6, y7, rfl, h⟩ := lp
    rw [List.length_range] at h
    let le : Rw → Rw → Bool := fun r s => decide (r.lead ≤ s.lead)
    have pm := List.mergeSort_perm B le
    have h' := h.perm pm.symm
    have srt : (B.mergeSort le).Pairwise fun r s => le r s = true := List.pairwise_mergeSort (le := le) (fun a b c h1 h2 => decide_eq_true (Nat.le_trans (of_decide_eq_true h1) (of_decide_eq_true h2))) (fun a b => by
      show (decide (a.lead ≤ b.lead) || decide (b.lead ≤ a.lead)) = true
      rw [Bool.or_eq_true, decide_eq_true_iff, decide_eq_true_iff]
      omega) B
    have srt2 : (B.mergeSort le).Pairwise fun r s => r.lead < s.lead := by
      have := List.pairwise_map.mp h'.nd
      exact (srt.and this).imp fun {a b} q => Nat.lt_of_le_of_ne (of_decide_eq_true q.1) q.2
    have ech : Ech (B.mergeSort le) := ⟨srt2, h'.low, h'.one⟩
    refine ⟨B.mergeSort le, Q, h', ech, ?_⟩
    have hl1 := h.num
    unfold m_press_rows
    rw [def1]
    unfold s_press_rows
    simp only [repl_s, repl_0, Nat.reduceSub]
    rw [seq_nx (eF n ps [] [] .un .un .un .un .un) (by
      simp only [sPar_r, aScons_r, slD_r, slL_r, dNil_r, aNil_r, bnd_ret, aSnil_r, setsE_c, setsE_n, List.set_cons_succ, List.set_cons_zero]
      rfl)]
    rw [seq_nx (eF n ps B Q y3 y4 y5 y6 y7) (by
      have ei : eRange1 (eUn (fldM "many") (eBor 0)) (eF n ps [] [] .un .un .un .un .un) = ret ((List.range n).map nI) := range1_r (by unfold eF; simp [W_many]) (by omega)
      rw [sFor_r, ei, bnd_ret]
      exact e)]
    show bnd (sRet _ (fz 2 (eF n ps B Q y3 y4 y5 y6 y7))) finM = _
    have ef : fz 2 (eF n ps B Q y3 y4 y5 y6 y7) = [.val (W n ps), .own (dicD (RK n B)), .val (.list (QL n Q)), y3, y4, y5, y6, y7, .un] := rfl
    rw [ef]
    have kl : keysD (RK n B) = (B.map (·.lead)).map nI := by simp [keysD, RK, Function.comp_def]
    have ec : canon n (fun x => decide (x ∈ B.map (·.lead))) = (B.mergeSort le).map (·.lead) := by
      refine (inc_canon (List.pairwise_map.mpr srt2) fun x => ?_).symm
      rw [decide_eq_true_iff, (pm.map (·.lead)).mem_iff]
      refine ⟨fun q => ⟨?_, q⟩, fun q => q.2⟩
      obtain ⟨r, hr, rfl⟩ := List.mem_map.mp q
      exact h.lt r hr
    have es : sortedM [.list ((B.map (·.lead)).map nI)] = ret (((B.mergeSort le).map (·.lead)).map nI) := by
      rw [sorted_canon (l := B.map (·.lead)) (n := n) (P := fun x => decide (x ∈ B.map (·.lead))) rfl h.nd fun x => ?_, ec]
      rw [decide_eq_true_iff]
      refine ⟨fun q => ⟨?_, q⟩, fun q => q.2⟩
      obtain ⟨r, hr, rfl⟩ := List.mem_map.mp q
      exact h.lt r hr
    rw [sRet_r, eTup_r, aCons_r, eFl_r, comp_a (enc := fun r : Rw => nI r.lead) (xs := B.mergeSort le) (g := encR n)]
    · simp only [bnd_ret, aCons_r, eVar_r, getV_s, getV_0, aNil_r, finM_rt]
    · have el : listM [dicD (RK n B)] = ret ((B.map (·.lead)).map nI) := by rw [← kl]; rfl
      simp only [iSeq_r, eFl_r, aCall_r, aCons_r, eBor_r, getB_s, getB_0, getB_0o, bnd_ret, aNil_r, el, es, seqM_l]
      rw [List.map_map]
      rfl
    · intro r hr
      have hr' := pm.mem_iff.mp hr
      simp only [bodyC_nm, wipe_cons, wipe_nil, List.set_cons_succ, List.set_cons_zero, tYes_r, bnd_ret, if_true, eBin_r, eBor_r, getB_s, getB_0, getB_0o, ix_RK h.nd hr']
  · rintro pre j suf ρ epre ⟨B, Q, y3, y4, y5, y6, y7, rfl, h⟩
    have hj : j < n := List.mem_range.mp (by rw [epre]; simp)
    have ej : pre.length = j := by
      have : (List.range n)[pre.length]? = some j := by rw [epre]; simp
      rw [List.getElem?_range (by
        have : (List.range n).length = (pre ++ j :: suf).length := by rw [epre]
        simp at this
        omega)] at this
      exact Option.some.inj this
    rw [ej] at h
    obtain ⟨B', Q', z3, z4, z5, z6, z7, e, h'⟩ := bF_r (x4 := y4) (x5 := y5) (x6 := y6) (x7 := y7) h hj hn hp
    refine ⟨_, rfl, _, e, B', Q', z3, z4, z5, z6, z7, rfl, ?_⟩
    rw [List.length_append, ej]
    exact h'
end
end Kw
set_option maxHeartbeats 2000000
namespace Kw
open PySem PySem.Spec PyProof.Rows

theorem red_fold : ∀ (B : List Rw) (a : V2 × V2), red B a = B.foldl (fun a r => if a.1 r.lead = true then (ad a.1 r.l, ad a.2 r.p) else a) a
  | [], _ => rfl
  | r :: B, a => by
    show red B _ = _
    rw [red_fold B]
    rfl
section
variable {n : Nat} {ps : List (Nat × Nat)} {B : List Rw} {Q : List V2}
theorem canon_lead (h : ElOk n (Mp ps) n B Q) {r : Rw} (hr : r ∈ B) : ∃ t, canon n r.l = r.lead :: t := by
  cases e : canon n r.l with
  | nil =>
    have : r.lead ∈ canon n r.l := canon_mem.mpr ⟨h.lt r hr, h.one r hr⟩
    rw [e] at this
    cases this
  | cons k t =>
    obtain ⟨a1, a2, a3⟩ := canon_head e
    refine ⟨t, ?_⟩
    congr 1
    rcases Nat.lt_trichotomy k r.lead with q | q | q
    · rw [h.low r hr k q] at a2; cases a2
    · exact q
    · have := a3 r.lead q
      rw [h.one r hr] at this
      cases this
theorem canon_nil {f : V2} (hf : Sup n f) : canon n f = [] ↔ f = z2 := ⟨fun e => canon_inj hf sup_z (by rw [e, canon_z]), fun e => by rw [e, canon_z]⟩
theorem in_canon {f : V2} {x : Nat} (hx : x < n) : decide (x ∈ canon n f) = f x := by
  cases c : f x with
  | true => exact decide_eq_true (canon_mem.mpr ⟨hx, c⟩)
  | false => exact decide_eq_false fun z => by rw [(canon_mem.mp z).2] at c; cases c
def eP (n : Nat) (ps : List (Nat × Nat)) (L : List Nat) (B : List Rw) (Q : List V2) (a : V2 × V2) (x6 x7 x8 : Slot) : Env := [.val (W n ps), .val (tN L), .val (.list (B.map (encR n))), .val (.list (QL n Q)), .val (tN (canon n a.1)), .val (tN (canon n a.2)), x6, x7, x8, .un]
def bP : DS := (sIf (tBool (eBin (cmpM .In) (eBin ixM (eBor 6) (eC (.int 0))) (eBor 4))) (sPar [4, 5] (aScons (slV (eCall m_odd_sum (aCons (eVar 4) (aCons (eVar 6) aNil)))) (aScons (slV (eCall m_odd_sum (aCons (eVar 5) (aCons (eVar 7) aNil)))) aSnil))) sSkip)
theorem presses_loop (P : PR2 n ps B Q) (hn : n ≤ 100) {L : List Nat} (hL : L ∈ setsT n) : ∃ y6 y7, sFor (.tup [6, 7]) (iSeq (eVar 2)) bP (eP n ps L B Q (vec L, z2) .un .un .un) = ret (.nx (eP n ps L B Q (red B (vec L, z2)) y6 y7 .un)) := by
  have h := P.el
  have lp := for_st (enc := encR n) (tg := .tup [6, 7]) (xs := B) (ρ := eP n ps L B Q (vec L, z2) .un .un .un) (body := bP)
    (fun a ρ => ∃ y6 y7, ρ = eP n ps L B Q a y6 y7 .un ∧ Sup n a.1 ∧ Sup n a.2) (fun a r => if a.1 r.lead = true then (ad a.1 r.l, ad a.2 r.p) else a) (s := (vec L, z2)) ?_ ⟨_, _, rfl, sup_vec hL, sup_z⟩
  · obtain ⟨ρ', e, y6, y7, rfl, _⟩ := lp
    refine ⟨y6, y7, ?_⟩
    rw [red_fold, ← e]
    rfl
  · rintro a ρ ⟨y6, y7, rfl, s1, s2⟩ r hr
    obtain ⟨t, et⟩ := canon_lead h hr
    have sl : Sup n r.l := by rw [← h.t r hr]; exact sup_T
    have sp : Sup n r.p := h.sup r hr
    have o1 := odd_sum_c s1 sl hn
    have o2 := odd_sum_c s2 sp hn
    refine ⟨eP n ps L B Q a (.val (tN (canon n r.l))) (.val (tN (canon n r.p))) .un, rfl, ?_⟩
    have cnd : (tBool (eBin (cmpM .In) (eBin ixM (eBor 6) (eC (.int 0))) (eBor 4))) (eP n ps L B Q a (.val (tN (canon n r.l))) (.val (tN (canon n r.p))) .un) = ret (a.1 r.lead) := by
      unfold eP
      simp only [tBool_r, eBin_r, eBor_r, getB_s, getB_0, bnd_ret, eC_r]
      rw [et, ix_head, bnd_ret, in_tN, bnd_ret, truB_r, in_canon (h.lt r hr)]
    unfold bP
    cases c : a.1 r.lead with
    | true =>
      refine ⟨eP n ps L B Q (ad a.1 r.l, ad a.2 r.p) (.val (tN (canon n r.l))) (.val (tN (canon n r.p))) .un, ?_, _, _, by rw [if_pos rfl], s1.ad sl, s2.ad sp⟩
      rw [if_t (by rw [cnd, c])]
      unfold eP
      simp only [sPar_r, aScons_r, slV_r, eCall_r, aCons_r, eVar_r, getV_s, getV_0, bnd_ret, aNil_r, o1, o2, aSnil_r, setsE_c, setsE_n, List.set_cons_succ, List.set_cons_zero]
    | false =>
      refine ⟨eP n ps L B Q a (.val (tN (canon n r.l))) (.val (tN (canon n r.p))) .un, ?_, .val (tN (canon n r.l)), .val (tN (canon n r.p)), by rw [if_neg (by simp)], ?_⟩
      · rw [if_f (by rw [cnd, c])]
        rfl
      · rw [if_neg (by simp)]
        exact ⟨s1, s2⟩
theorem presses_r (P : PR2 n ps B Q) (hn : n ≤ 100) {L : List Nat} (hL : L ∈ setsT n) :
    ((red B (vec L, z2)).1 = z2 → m_presses_for [W n ps, tN L] = ret (.tuple [.str "yes", tN (canon n (red B (vec L, z2)).2)])) ∧
    ((red B (vec L, z2)).1 ≠ z2 → ∃ q ∈ Q, dot n q (vec L) = true ∧ m_presses_for [W n ps, tN L] = ret (.tuple [.str "no", tN (canon n q)])) := by
  have h := P.el
  obtain ⟨y6, y7, el⟩ := presses_loop P hn hL
  obtain ⟨s1, s2⟩ := red_sup h P.ech (sup_vec hL)
  have start : m_presses_for [W n ps, tN L] = bnd ((sSeq (sIf (tBool (eBin (cmpM .Eq) (eBor 4) (eTup aNil))) (sRet (eTup (aCons (eC (.str "yes")) (aCons (eVar 5) aNil)))) sSkip)
  (sSeq (sSet 8 (slV (eFl (eComp [9] (.nm 9) (tTru (eBin (binM .BitAnd) (eCall lenM (aCons (eCall m_common_set (aCons (eVar 9) (aCons (eVar 1) aNil))) aNil)) (eC (.int 1)))) (eVar 9) (iSeq (eBor 3))))))
  (sRet (eTup (aCons (eC (.str "no")) (aCons (eBin ixM (eBor 8) (eC (.int 0))) aNil)))))) (eP n ps L B Q (red B (vec L, z2)) y6 y7 .un)) finM := by
    unfold m_presses_for
    rw [def2]
    unfold s_presses_for
    simp only [repl_s, repl_0]
    rw [seq_nx [.val (W n ps), .val (tN L), .un, .un, .un, .un, .un, .un, .un, .un] (by simp [W_many, check_r hL hn])]
    rw [seq_nx [.val (W n ps), .val (tN L), .val (.list (B.map (encR n))), .val (.list (QL n Q)), .un, .un, .un, .un, .un, .un] (by
      unfold sUnp
      simp only [eCall_r, aCons_r, eVar_r, getV_0, bnd_ret, aNil_r, P.r]
      rfl)]
    rw [seq_nx (eP n ps L B Q (vec L, z2) .un .un .un) (by
      unfold eP
      simp only [sPar_r, aScons_r, slV_r, eVar_r, getV_s, getV_0, eTup_r, aNil_r, bnd_ret, aSnil_r, setsE_c, setsE_n, List.set_cons_succ, List.set_cons_zero, canon_vec hL, canon_z]
      rfl)]
    unfold bP at el
    rw [seq_nx _ el]
  refine ⟨fun e => ?_, fun e => ?_⟩
  · rw [start, seq_rt (.tuple [.str "yes", tN (canon n (red B (vec L, z2)).2)]) (by
      unfold eP
      rw [if_t (by simp only [tBool_r, eBin_r, eBor_r, getB_s, getB_0, bnd_ret, eTup_r, aNil_r, t0, eq_nil, truB_r, decide_eq_true ((canon_nil s1).mpr e)])]
      rfl)]
    rfl
  · have ne : canon n (red B (vec L, z2)).1 ≠ [] := fun z => e ((canon_nil s1).mp z)
    obtain ⟨q0, hq0, hd0⟩ := red_no h P.ech hL e
    have hm0 : q0 ∈ Q.filter fun q => dot n q (vec L) := List.mem_filter.mpr ⟨hq0, hd0⟩
    obtain ⟨q, t, eq⟩ : ∃ q t, (Q.filter fun q => dot n q (vec L)) = q :: t := by
      cases z : Q.filter fun q => dot n q (vec L) with
      | nil => rw [z] at hm0; cases hm0
      | cons q t => exact ⟨q, t, rfl⟩
    have hm : q ∈ Q.filter fun q => dot n q (vec L) := by rw [eq]; exact List.mem_cons_self
    obtain ⟨m1, m2⟩ := List.mem_filter.mp hm
    refine ⟨q, m1, m2, ?_⟩
    rw [start, seq_nx (eP n ps L B Q (red B (vec L, z2)) y6 y7 .un) (by
      unfold eP
      rw [if_f (by simp only [tBool_r, eBin_r, eBor_r, getB_s, getB_0, bnd_ret, eTup_r, aNil_r, t0, eq_nil, truB_r, decide_eq_false ne])]
      rfl)]
    rw [seq_nx (eP n ps L B Q (red B (vec L, z2)) y6 y7 (.val (.list (QL n (q :: t))))) (by
      rw [sSet_r, slV_r, eFl_r, comp_f (enc := fun q => tN (canon n q)) (xs := Q) (p := fun q => dot n q (vec L)) (g := fun q => tN (canon n q))]
      · rw [eq]
        rfl
      · rfl
      · intro x hx
        have sx := tops_sup h.tops x hx
        have dc := dot_common (t := L) (canon_sets (n := n) (f := x))
        rw [vec_canon sx] at dc
        unfold eP
        simp only [bodyC_nm, wipe_cons, wipe_nil, List.set_cons_succ, List.set_cons_zero, tTru_r, eBin_r, eCall_r, aCons_r, eVar_r, getV_s, getV_0, bnd_ret, aNil_r, common_r, len_tN, eC_r, and_1, tru_nI, odd_b, dc])]
    unfold eP
    have ix : ixM (.list (QL n (q :: t))) (.int 0) = ret (tN (canon n q)) := ixl0
    simp only [sRet_r, eTup_r, aCons_r, eC_r, eBin_r, eBor_r, getB_s, getB_0, bnd_ret, ix, aNil_r, finM_rt]
theorem presses_no {v : D} (h : m_is_state_set [v, nI n] = ret (.bool false)) : m_presses_for [W n ps, v] = thr "InvalidSet" .none := by
  unfold m_presses_for
  rw [def2]
  unfold s_presses_for
  rw [sSeq_r, sExpr_r]
  simp [W_many, check_no h]
theorem least_no {v : D} (h : m_is_state_set [v, nI n] = ret (.bool false)) : m_least_presses [W n ps, v] = thr "InvalidSet" .none := by
  unfold m_least_presses
  rw [def2]
  unfold s_least_presses
  rw [sSeq_r]
  unfold sUnp
  simp [presses_no h]
theorem shl_1 {k : Nat} (hk : k ≤ 1000) : binM .LShift (.int 1) (nI k) = ret (nI (2 ^ k)) := by
  show (if 0 ≤ (k : Int) ∧ (k : Int) ≤ 1000000 ∧ (1 : Int).natAbs < 2 ^ 64 then ret (PyData.int (1 * 2 ^ (k : Int).toNat)) else bad) = _
  rw [if_pos ⟨by omega, by omega, by decide⟩, Int.toNat_natCast, Int.one_mul]
  unfold nI
  rw [Int.natCast_pow]
  rfl
theorem reached_r (P : PR2 n ps B Q) (hn : n ≤ 100) : m_lights_reached [W n ps] = ret (nI (2 ^ B.length)) := by
  have := P.el.num
  unfold m_lights_reached
  rw [def1]
  unfold s_lights_reached
  simp only [repl_s, repl_0, Nat.reduceSub, sRet_r, eBin_r, eC_r, eCall_r, aCons_r, eVar_r, getV_0, bnd_ret, aNil_r, P.r, ix0, len_l, List.length_map, shl_1 (show B.length ≤ 1000 by omega), finM_rt]
theorem count_r (P : PR2 n ps B Q) (hn : n ≤ 100) : m_odd_keeper_count [W n ps] = ret (nI (2 ^ Q.length)) := by
  have := P.el.num
  have lq : (QL n Q).length = Q.length := by unfold QL; rw [List.length_map]
  unfold m_odd_keeper_count
  rw [def1]
  unfold s_odd_keeper_count
  simp only [repl_s, repl_0, Nat.reduceSub, sRet_r, eBin_r, eC_r, eCall_r, aCons_r, eVar_r, getV_0, bnd_ret, aNil_r, P.r, ix1, len_l, lq, shl_1 (show Q.length ≤ 1000 by omega), finM_rt]
theorem allL_in : allL n ∈ setsT n := by rw [allL_c]; exact canon_sets
theorem odd_keeper_r (P : PR2 n ps B Q) (hn : n ≤ 100) : ∃ s ∈ goodL n ps (allL n), m_odd_keeper [W n ps] = ret (tN s) := by
  have y := all_yes P.el P.ech
  have e := (presses_r P hn allL_in).1 y
  refine ⟨_, (red_yes P.el P.ech allL_in y).1, ?_⟩
  unfold m_odd_keeper
  rw [def1]
  unfold s_odd_keeper
  have er : eRange1 (eUn (fldM "many") (eBor 0)) [.val (W n ps)] = ret ((List.range n).map nI) := range1_r (by simp [W_many]) (by omega)
  have et : PyData.tuple ((List.range n).map nI) = tN (allL n) := rfl
  simp only [repl_0, Nat.reduceSub, sRet_r, eBin_r, eC_r, eCall_r, aCons_r, eVar_r, getV_0, bnd_ret, aNil_r, eTup_r, er, et, e, ix1, finM_rt]
/-! ### the least ones -/
theorem le2_anti {a b : List Nat} (h1 : le2 a b = true) (h2 : le2 b a = true) : a = b := by
  rcases le2_iff.mp h1 with h1 | ⟨e1, h1⟩
  · rcases le2_iff.mp h2 with h2 | ⟨e2, _⟩ <;> omega
  · rcases le2_iff.mp h2 with h2 | ⟨_, h2⟩
    · omega
    · exact cast_inj (List.le_antisymm (List.not_lt.mp h1) (List.not_lt.mp h2))
theorem lt_enc {a b : List Nat} : cmpM .Lt (enc2 a) (enc2 b) = ret (.bool (!le2 b a)) := by
  have ok : ∀ s : List Nat, Ok 2 (enc2 s) := fun s => ok_tup fun d hd => by
    simp only [List.mem_cons, List.not_mem_nil, or_false] at hd
    rcases hd with rfl | rfl
    · exact (ok_nI _).mono (by decide)
    · exact ok_tN _
  have al : PySem.W.alike (enc2 a) (enc2 b) = true := by
    unfold enc2
    simp [PySem.W.alike, PySem.W.alikeAll, nI, alike_tN]
  show ltM _ _ = _
  unfold ltM
  rw [if_pos ⟨(ok a).shaped (by decide), (ok b).shaped (by decide), al, rfl⟩]
  congr 2
  show _ = !(!PySem.W.dataLt (enc2 a) (enc2 b))
  rw [Bool.not_not]
def hereF (Q : List V2) (p0 : V2) (s : List Nat) : V2 := s.foldl (fun h k => ad h (Q.getD k z2)) p0
def eQ (n : Nat) (ps : List (Nat × Nat)) (L : List Nat) (Q : List V2) (p0 b : V2) (x6 x7 x8 : Slot) : Env := [.val (W n ps), .val (tN L), .val (.str "yes"), .val (tN (canon n p0)), .val (tN (canon n b)), .val (.list (QL n Q)), x6, x7, x8]
def bQ : DS := (sSeq (sSet 7 (slV (eVar 3)))
  (sSeq (sFor (.nm 8) (iSeq (eVar 6)) (sSet 7 (slV (eCall m_odd_sum (aCons (eVar 7) (aCons (eBin ixM (eBor 5) (eBor 8)) aNil))))))
  (sIf (tBool (eBin (cmpM .Lt) (eTup (aCons (eCall lenM (aCons (eBor 7) aNil)) (aCons (eVar 7) aNil))) (eTup (aCons (eCall lenM (aCons (eBor 4) aNil)) (aCons (eVar 4) aNil))))) (sSet 4 (slV (eVar 7))) sSkip)))
theorem q_at {k : Nat} (hk : k < Q.length) : Q[k]? = some (Q.getD k z2) ∧ Q.getD k z2 ∈ Q := by
  have e : Q.getD k z2 = Q[k] := by rw [List.getD_eq_getElem?_getD, List.getElem?_eq_getElem hk]; rfl
  rw [e]
  exact ⟨List.getElem?_eq_getElem hk, List.getElem_mem hk⟩
theorem bQ_r (h : ElOk n (Mp ps) n B Q) (hn : n ≤ 100) {L s : List Nat} {p0 b : V2} {x7 x8 : Slot} (hp : Sup n p0) (hs : ∀ k ∈ s, k < Q.length) :
    ∃ y8, bQ (eQ n ps L Q p0 b (.val (tN s)) x7 x8) = ret (.nx (eQ n ps L Q p0 (if le2 (canon n b) (canon n (hereF Q p0 s)) = true then b else hereF Q p0 s) (.val (tN s)) (.val (tN (canon n (hereF Q p0 s)))) y8)) := by
  have lp := for_st (enc := nI) (tg := .nm 8) (xs := s) (ρ := eQ n ps L Q p0 b (.val (tN s)) (.val (tN (canon n p0))) x8) (body := sSet 7 (slV (eCall m_odd_sum (aCons (eVar 7) (aCons (eBin ixM (eBor 5) (eBor 8)) aNil)))))
    (fun f ρ => ∃ y8, ρ = eQ n ps L Q p0 b (.val (tN s)) (.val (tN (canon n f))) y8 ∧ Sup n f) (fun f k => ad f (Q.getD k z2)) (s := p0) ?_ ⟨_, rfl, hp⟩
  · obtain ⟨ρ', e, y8, rfl, sf⟩ := lp
    refine ⟨y8, ?_⟩
    unfold bQ
    rw [seq_nx (eQ n ps L Q p0 b (.val (tN s)) (.val (tN (canon n p0))) x8) (by unfold eQ; simp)]
    rw [seq_nx (eQ n ps L Q p0 b (.val (tN s)) (.val (tN (canon n (hereF Q p0 s)))) y8) (by
      rw [sFor_r]
      have ei : iSeq (eVar 6) (eQ n ps L Q p0 b (.val (tN s)) (.val (tN (canon n p0))) x8) = ret (s.map nI) := rfl
      rw [ei, bnd_ret]
      exact e)]
    have cnd : (tBool (eBin (cmpM .Lt) (eTup (aCons (eCall lenM (aCons (eBor 7) aNil)) (aCons (eVar 7) aNil))) (eTup (aCons (eCall lenM (aCons (eBor 4) aNil)) (aCons (eVar 4) aNil))))) (eQ n ps L Q p0 b (.val (tN s)) (.val (tN (canon n (hereF Q p0 s)))) y8) = ret (!le2 (canon n b) (canon n (hereF Q p0 s))) := by
      unfold eQ
      simp only [tBool_r, eBin_r, eTup_r, eCall_r, aCons_r, eBor_r, getB_s, getB_0, eVar_r, getV_s, getV_0, bnd_ret, aNil_r, len_tN]
      have := lt_enc (a := canon n (hereF Q p0 s)) (b := canon n b)
      unfold enc2 at this
      rw [this]
      rfl
    cases c : le2 (canon n b) (canon n (hereF Q p0 s)) with
    | true =>
      rw [if_f (by rw [cnd, c]; rfl)]
      rfl
    | false =>
      rw [if_t (by rw [cnd, c]; rfl)]
      rfl
  · rintro f ρ ⟨y8, rfl, sf⟩ k hk
    obtain ⟨m1, m2⟩ := q_at (hs k hk)
    have sq := tops_sup h.tops _ m2
    refine ⟨eQ n ps L Q p0 b (.val (tN s)) (.val (tN (canon n f))) (.val (nI k)), rfl, eQ n ps L Q p0 b (.val (tN s)) (.val (tN (canon n (ad f (Q.getD k z2))))) (.val (nI k)), ?_, _, rfl, sf.ad sq⟩
    have ix : ixM (.list (QL n Q)) (nI k) = ret (tN (canon n (Q.getD k z2))) := ix_l (by unfold QL; rw [List.getElem?_map, m1]; rfl)
    unfold eQ
    simp only [sSet_r, slV_r, eCall_r, aCons_r, eVar_r, getV_s, getV_0, eBin_r, eBor_r, getB_s, getB_0, bnd_ret, ix, aNil_r, odd_sum_c sf sq hn, List.set_cons_succ, List.set_cons_zero]
theorem head_least {L : List Nat} {b : List Nat} (hb : b ∈ goodL n ps L) (hm : ∀ s ∈ goodL n ps L, le2 b s = true) : hdL (goodL n ps L) = b := by
  have srt : (goodL n ps L).Pairwise fun a b => le2 a b = true := sets_srt.filter _
  unfold hdL
  cases e : goodL n ps L with
  | nil => rw [e] at hb; cases hb
  | cons a r =>
    rw [e] at srt hb
    have q := hm a (by rw [e]; exact List.mem_cons_self)
    rcases List.mem_cons.mp hb with rfl | hb
    · rfl
    · exact le2_anti ((List.pairwise_cons.mp srt).1 b hb) q
theorem least_r (P : PR2 n ps B Q) (hn : n ≤ 10) {L : List Nat} (hL : L ∈ setsT n) :
    (goodL n ps L ≠ [] → m_least_presses [W n ps, tN L] = ret (tN (hdL (goodL n ps L)))) ∧ (goodL n ps L = [] → m_least_presses [W n ps, tN L] = ret .none) := by
  have h := P.el
  have ln := h.num
  obtain ⟨r1, r2⟩ := presses_r P (by omega) hL
  by_cases y : (red B (vec L, z2)).1 = z2
  · obtain ⟨g0, sp⟩ := red_yes h P.ech hL y
    have e := r1 y
    generalize (red B (vec L, z2)).2 = p0 at g0 sp e
    have t0' := ((good_mem hL).mp g0).2
    rw [vec_canon sp] at t0'
    refine ⟨fun _ => ?_, fun z => by rw [z] at g0; cases g0⟩
    have quiet : ∀ q ∈ Q, Tn n (Mp ps) q = z2 := h.q
    have inG : ∀ s : List Nat, Sup n (hereF Q p0 s) ∧ canon n (hereF Q p0 s) ∈ goodL n ps L := fun s => by
      obtain ⟨a, b⟩ : Sup n (hereF Q p0 s) ∧ Tn n (Mp ps) (hereF Q p0 s) = Tn n (Mp ps) p0 := fold_T (M := Mp ps) quiet (tops_sup h.tops) s p0 sp
      refine ⟨a, (good_mem hL).mpr ⟨canon_sets, ?_⟩⟩
      rw [vec_canon a]
      exact b.trans t0'
    have lp := for_pre (enc := tN) (tg := .nm 6) (xs := setsT Q.length) (ρ := eQ n ps L Q p0 p0 .un .un .un) (body := bQ)
      (fun pre ρ => ∃ (b : V2) (y6 y7 y8 : Slot), ρ = eQ n ps L Q p0 b y6 y7 y8 ∧ canon n b ∈ goodL n ps L ∧ ∀ s ∈ pre, le2 (canon n b) (canon n (hereF Q p0 s)) = true) ?_ ⟨p0, _, _, _, rfl, g0, fun _ z => by cases z⟩
    · obtain ⟨ρ', e2, b, y6, y7, y8, rfl, bg, bl⟩ := lp
      have hd : hdL (goodL n ps L) = canon n b := head_least bg fun s hs => by
        obtain ⟨m1, m2⟩ := (good_mem hL).mp hs
        have k : ad p0 (vec s) ∈ sp2 Q := (ker_iff h P.ech (sp.ad (sup_vec m1))).mp (by rw [Tn_ad, t0', m2, ad_self])
        obtain ⟨u, u1, u2, u3⟩ := sp_sub Q _ k
        have := bl u (sets_mem.mpr ⟨u1, u2⟩)
        unfold hereF at this
        rw [u3, ad_ad, canon_vec m1] at this
        exact this
      unfold m_least_presses
      rw [def2]
      unfold s_least_presses
      simp only [repl_s, repl_0]
      rw [seq_nx [.val (W n ps), .val (tN L), .val (.str "yes"), .val (tN (canon n p0)), .un, .un, .un, .un, .un] (by
        unfold sUnp
        simp only [eCall_r, aCons_r, eVar_r, getV_s, getV_0, bnd_ret, aNil_r, e]
        rfl)]
      rw [seq_nx [.val (W n ps), .val (tN L), .val (.str "yes"), .val (tN (canon n p0)), .un, .un, .un, .un, .un] (by
        rw [if_f (by simp [yes_no])]
        rfl)]
      rw [seq_nx [.val (W n ps), .val (tN L), .val (.str "yes"), .val (tN (canon n p0)), .val (tN (canon n p0)), .un, .un, .un, .un] (by simp)]
      rw [seq_nx (eQ n ps L Q p0 p0 .un .un .un) (by
        simp only [sSet_r, slV_r, eBin_r, eCall_r, aCons_r, eVar_r, getV_0, bnd_ret, aNil_r, P.r, eC_r, ix1]
        rfl)]
      rw [seq_nx (eQ n ps L Q p0 b y6 y7 y8) (by
        have lq : (QL n Q).length = Q.length := by unfold QL; rw [List.length_map]
        have er : eRange1 (eCall lenM (aCons (eBor 5) aNil)) (eQ n ps L Q p0 p0 .un .un .un) = ret ((List.range Q.length).map nI) := range1_r (by unfold eQ; simp [lq]) (by omega)
        have ei : iSeq (eCall m_all_sets (aCons (eTup (eRange1 (eCall lenM (aCons (eBor 5) aNil)))) aNil)) (eQ n ps L Q p0 p0 .un .un .un) = ret ((setsT Q.length).map tN) := by
          have := all_sets_r (n := Q.length) (by omega)
          have et : PyData.tuple ((List.range Q.length).map nI) = tN (List.range Q.length) := rfl
          simp only [iSeq_r, eCall_r, aCons_r, eTup_r, er, bnd_ret, aNil_r, et, this, seqM_lT]
        rw [sFor_r, ei, bnd_ret]
        exact e2)]
      rw [hd]
      rfl
    · rintro pre s suf ρ epre ⟨b, y6, y7, y8, rfl, bg, bl⟩
      have hs : s ∈ setsT Q.length := by rw [epre]; simp
      obtain ⟨z8, e3⟩ := bQ_r (L := L) (s := s) (p0 := p0) (b := b) (x7 := y7) (x8 := y8) h (by omega) sp (sets_mem.mp hs).2
      refine ⟨_, rfl, _, e3, _, _, _, _, rfl, ?_, fun u hu => ?_⟩
      · split
        · exact bg
        · exact (inG s).2
      · split
        · rename_i c
          rcases List.mem_append.mp hu with hu | hu
          · exact bl u hu
          · simp at hu
            subst hu
            exact c
        · rename_i c
          have tot := le2_total (canon n b) (canon n (hereF Q p0 s))
          rw [Bool.eq_false_iff.mpr c, Bool.false_or] at tot
          rcases List.mem_append.mp hu with hu | hu
          · exact le2_trans _ _ _ tot (bl u hu)
          · simp at hu
            subst hu
            have := le2_total (canon n (hereF Q p0 u)) (canon n (hereF Q p0 u))
            rwa [Bool.or_self] at this
  · obtain ⟨q, hq, hd, e⟩ := r2 y
    refine ⟨fun ne => ?_, fun _ => ?_⟩
    · obtain ⟨s, hs⟩ := List.exists_mem_of_ne_nil _ ne
      exact (not_both hL hs (q_ag h hq hd)).elim
    · unfold m_least_presses
      rw [def2]
      unfold s_least_presses
      simp only [repl_s, repl_0]
      rw [seq_nx [.val (W n ps), .val (tN L), .val (.str "no"), .val (tN (canon n q)), .un, .un, .un, .un, .un] (by
        unfold sUnp
        simp only [eCall_r, aCons_r, eVar_r, getV_s, getV_0, bnd_ret, aNil_r, e]
        rfl)]
      rw [seq_rt .none (by
        rw [if_t (by simp [no_no])]
        rfl)]
      rfl
end
end Kw
namespace Kw
open PySem PySem.Spec PyProof.Rows
/-! ### the law, statement by statement -/
def st1 : DS := (sSet 1 (slV (eTape (aCons (eC (.int 0)) (aCons (eC (.int 0)) aNil)))))
def st2 : DS := (sSet 2 (slV (eCall m__law_draw (aCons (eVar 1) (aCons (eVar 0) (aCons (eC (.int 7)) aNil))))))
def st3 : DS := (sSet 3 (slV (eCall m__law_pairs (aCons (eVar 1) (aCons (eVar 0) (aCons (eVar 2) (aCons (eBin (binM .Add) (eC (.int 1)) (eCall m__law_draw (aCons (eVar 1) (aCons (eVar 0) (aCons (eC (.int 3)) aNil))))) aNil)))))))
def st4 : DS := (sSet 4 (slV (eCall m_Web___init__ (aCons (eVar 2) (aCons (eVar 3) aNil)))))
def st5 : DS := (sSet 5 (slV (eCall m__law_sets (aCons (eVar 2) aNil))))
def st6 : DS := (sPar [6, 7] (aScons (slV (eBin ixM (eBor 5) (eCall m__law_draw (aCons (eVar 1) (aCons (eVar 0) (aCons (eCall lenM (aCons (eBor 5) aNil)) aNil)))))) (aScons (slV (eBin ixM (eBor 5) (eCall m__law_draw (aCons (eVar 1) (aCons (eVar 0) (aCons (eCall lenM (aCons (eBor 5) aNil)) aNil)))))) aSnil)))
def st7 : DS := (sSet 8 (slV (eCall tupleM (aCons (eFl (eComp [9] (.nm 9) (tBool (eBin (cmpM .NotEq) (eBin (cmpM .In) (eBor 9) (eBor 6)) (eBin (cmpM .In) (eBor 9) (eBor 7)))) (eVar 9) (eRange1 (eBor 2)))) aNil))))
def co8 : DT := (tOrM (tBool (eBin (cmpM .NotEq) (eCall m_turned_lights (aCons (eVar 4) (aCons (eVar 6) aNil))) (eCall m__law_turned (aCons (eVar 2) (aCons (eVar 3) (aCons (eVar 6) aNil)))))) (tOrM (tBool (eBin (cmpM .NotEq) (eCall m_odd_sum (aCons (eVar 6) (aCons (eVar 7) aNil))) (eBor 8))) (tBool (eBin (cmpM .NotEq) (eCall m_press_sum (aCons (eVar 4) (aCons (eVar 6) (aCons (eVar 7) aNil)))) (eBor 8)))))
def st8 : DS := sIf co8 (sRet (eC (.bool false))) sSkip
def st9 : DS := (sSet 10 (slV (eFl (eComp [11] (.nm 11) tYesM (eCall m__law_turned (aCons (eVar 2) (aCons (eVar 3) (aCons (eVar 11) aNil)))) (iSeq (eBor 5))))))
def st10 : DS := (sSet 12 (slV (eFl (eComp [9] (.nm 9) (tBool (eBin (cmpM .Eq) (eBin ixM (eBor 10) (eBor 9)) (eTup aNil))) (eBin ixM (eBor 5) (eBor 9)) (eRange1 (eCall lenM (aCons (eBor 5) aNil)))))))
def st11 : DS := (sSet 13 (slV (eVar 7)))
def co12 : DT := (tBool (eBin (cmpM .Eq) (eCall m__law_draw (aCons (eVar 1) (aCons (eVar 0) (aCons (eC (.int 2)) aNil)))) (eC (.int 0))))
def st12 : DS := sIf co12 (sSet 13 (slV (eCall m__law_turned (aCons (eVar 2) (aCons (eVar 3) (aCons (eVar 6) aNil)))))) sSkip
def st13 : DS := (sSet 14 (slV (eFl (eComp [9] (.nm 9) (tBool (eBin (cmpM .Eq) (eBin ixM (eBor 10) (eBor 9)) (eBor 13))) (eBin ixM (eBor 5) (eBor 9)) (eRange1 (eCall lenM (aCons (eBor 5) aNil)))))))
def st14 : DS := (sSet 15 (slV (eFl (eComp [11] (.nm 11) (tBool (eBin (cmpM .Eq) (eBin (binM .Mod) (eCall intM (aCons (eCall lenM (aCons (eFl (eComp [9] (.nm 9) (tBool (eBin (cmpM .In) (eBor 9) (eBor 13))) (eVar 9) (iSeq (eBor 11)))) aNil)) aNil)) (eC (.int 2))) (eC (.int 1)))) (eVar 11) (iSeq (eBor 12))))))
def st15 : DS := (sUnp (.tup [16, 17]) (eCall m_presses_for (aCons (eVar 4) (aCons (eVar 13) aNil))))
def co16 : DT := (tOrM (tBool (eBin (cmpM .NotEq) (eBin (cmpM .Eq) (eBor 14) (eFl aNil)) (eBin (cmpM .NotEq) (eBor 15) (eFl aNil)))) (tOrM (tBool (eBin (cmpM .NotEq) (eBin (cmpM .Eq) (eBor 16) (eC (.str "yes"))) (eBin (cmpM .NotEq) (eBor 14) (eFl aNil)))) (tOrM (tAndM (tBool (eBin (cmpM .Eq) (eBor 16) (eC (.str "yes")))) (tBool (eBin (cmpM .NotIn) (eBor 17) (eBor 14)))) (tAndM (tBool (eBin (cmpM .Eq) (eBor 16) (eC (.str "no")))) (tBool (eBin (cmpM .NotIn) (eBor 17) (eBor 15)))))))
def st16 : DS := sIf co16 (sRet (eC (.bool false))) sSkip
def co17 : DT := (tOrM (tBool (eBin (cmpM .NotEq) (eCall m_least_presses (aCons (eVar 4) (aCons (eVar 13) aNil))) (eBin ixM (eBin (binM .Add) (eBor 14) (eFl (aCons (eC .none) aNil))) (eC (.int 0))))) (tBool (eBin (cmpM .NotEq) (eCall m_lights_reached (aCons (eVar 4) aNil)) (eUn lenSetM (eBor 10)))))
def st17 : DS := sIf co17 (sRet (eC (.bool false))) sSkip
def it18 : DA := (iSeq (eBin (binM .Add) (eBin (binM .Add) (eSlice (eBor 14) oNone (oSome (eC (.int 1)))) (eSlice (eBor 15) oNone (oSome (eC (.int 1))))) (eFl (aCons (eVar 6) (aCons (eVar 7) (aCons (eVar 17) (aCons (eC .none) (aCons (eFl (aCall listM (aCons (eBor 6) aNil))) (aCons (eUn revM (eBor 6)) (aCons (eTup (aCons (eVar 2) aNil)) (aCons (eTup (aCons (eC (.bool true)) aNil)) (aCons (eTup (aCons (eC (.int 0)) (aCons (eC (.int 0)) aNil))) aNil))))))))))))
def bo18 : DS := (sSeq (sSet 19 (slV (eCall m__law_set (aCons (eVar 18) (aCons (eVar 2) aNil)))))
  (sSeq (sIf (tOrM (tBool (eBin (cmpM .NotEq) (eCall m_are_presses_for (aCons (eVar 4) (aCons (eVar 13) (aCons (eVar 18) aNil)))) (eAnd (eVar 19) (eBin (cmpM .In) (eBor 18) (eBor 14))))) (tBool (eBin (cmpM .NotEq) (eCall m_keeps_lights (aCons (eVar 4) (aCons (eVar 13) (aCons (eVar 18) aNil)))) (eAnd (eVar 19) (eBin (cmpM .In) (eBor 18) (eBor 15)))))) (sRet (eC (.bool false))) sSkip)
  (sIf (tBool (eBin (cmpM .NotEq) (eCall m_is_odd_keeper (aCons (eVar 4) (aCons (eVar 18) aNil))) (eAnd (eVar 19) (eBin (cmpM .Eq) (eCall m__law_turned (aCons (eVar 2) (aCons (eVar 3) (aCons (eVar 18) aNil)))) (eTup (eRange1 (eBor 2))))))) (sRet (eC (.bool false))) sSkip)))
def st18 : DS := sFor (.nm 18) it18 bo18
def st19 : DS := (sSet 20 (slV (eFl (eComp [11] (.nm 11) (tBool (eBin (cmpM .Eq) (eCall m__law_turned (aCons (eVar 2) (aCons (eVar 3) (aCons (eVar 11) aNil)))) (eTup (eRange1 (eBor 2))))) (eVar 11) (iSeq (eBor 5))))))
def co20 : DT := (tOrM (tBool (eBin (cmpM .NotIn) (eCall m_odd_keeper (aCons (eVar 4) aNil)) (eBor 20))) (tOrM (tBool (eBin (cmpM .NotEq) (eCall m_odd_keeper_count (aCons (eVar 4) aNil)) (eCall lenM (aCons (eBor 20) aNil)))) (tBool (eBin (cmpM .NotEq) (eCall lenM (aCons (eBor 20) aNil)) (eCall lenM (aCons (eBor 12) aNil))))))
def st20 : DS := sIf co20 (sRet (eC (.bool false))) sSkip
def st21 : DS := (sUnp (.tup [21, 22]) (eCall m_press_rows (aCons (eVar 4) aNil)))
def st22 : DS := (sSet 23 (slV (eFl (eComp [24] (.nm 24) tYesM (eBin ixM (eBin ixM (eBor 24) (eC (.int 0))) (eC (.int 0))) (iSeq (eBor 21))))))
def co23 : DT := (tOrM (tBool (eBin (cmpM .NotEq) (eBor 23) (eFl (aOf sortSetM (eBor 23))))) (tOrM (tBool (eBin (cmpM .In) (eC (.bool false)) (eFl (eComp [24, 25] (.tup [24, 25]) tYesM (eBin (cmpM .Eq) (eCall m__law_turned (aCons (eVar 2) (aCons (eVar 3) (aCons (eVar 25) aNil)))) (eBor 24)) (iSeq (eBor 21)))))) (tBool (eBin (cmpM .NotEq) (eBin (binM .LShift) (eC (.int 1)) (eCall lenM (aCons (eBor 21) aNil))) (eUn lenSetM (eBor 10))))))
def st23 : DS := sIf co23 (sRet (eC (.bool false))) sSkip
def st24 : DS := (sSet 26 (slV (eFl (aCons (eTup aNil) aNil))))
def it25 : DA := (iSeq (eVar 22))
def bo25 : DS := (sSet 26 (slV (eBin (binM .Add) (eBor 26) (eFl (eComp [24] (.nm 24) tYesM (eCall tupleM (aCons (eFl (eComp [9] (.nm 9) (tBool (eBin (cmpM .NotEq) (eBin (cmpM .In) (eBor 9) (eBor 11)) (eBin (cmpM .In) (eBor 9) (eBor 24)))) (eVar 9) (eRange1 (eBor 2)))) aNil)) (iSeq (eBor 26)))))))
def st25 : DS := sFor (.nm 11) it25 bo25
def co26 : DT := (tBool (eBin (cmpM .NotEq) (eFl (aCall sortedM (aCons (eBor 26) aNil))) (eFl (aCall sortedM (aCons (eBor 12) aNil)))))
def st26 : DS := sIf co26 (sRet (eC (.bool false))) sSkip
def it27 : DA := (iSeq (eFl (aCons (eC .none) (aCons (eTup (aCons (eVar 2) aNil)) (aCons (eTup (aCons (eC (.int 0)) (aCons (eC (.int 0)) aNil))) (aCons (eFl (aCons (eC (.int 0)) aNil)) (aCons (eTup (aCons (eBin (binM .Sub) (eC (.int 0)) (eC (.int 1))) aNil)) (aCons (eTup (aCons (eC (.bool true)) aNil)) aNil))))))))
def bo27 : DS := (sIf (tBool (eBin (cmpM .NotEq) (eFl (eComp [27] (.nm 27) tYesM (eCall m__law_refused (aCons (eVar 27) (aCons (eVar 4) (aCons (eVar 18) aNil)))) (eRange1 (eC (.int 5))))) (eFl (aRep (eFl (aCons (eC .none) aNil)) (eC (.int 5)))))) (sRet (eC (.bool false))) sSkip)
def st27 : DS := sFor (.nm 18) it27 bo27
def st28 : DS := (sRet (eC (.bool true)))
theorem law_chain : s_law = sSeq st1 (sSeq st2 (sSeq st3 (sSeq st4 (sSeq st5 (sSeq st6 (sSeq st7 (sSeq st8 (sSeq st9 (sSeq st10 (sSeq st11 (sSeq st12 (sSeq st13 (sSeq st14 (sSeq st15 (sSeq st16 (sSeq st17 (sSeq st18 (sSeq st19 (sSeq st20 (sSeq st21 (sSeq st22 (sSeq st23 (sSeq st24 (sSeq st25 (sSeq st26 (sSeq st27 (st28))))))))))))))))))))))))))) := rfl
end Kw
set_option maxHeartbeats 4000000
namespace Kw
open PySem PySem.Spec PyProof.Rows

theorem idx_filter {α : Type} (l : List α) (d : α) (P : α → Bool) : ((List.range l.length).filter fun k => P (l.getD k d)).map (fun k => l.getD k d) = l.filter P := by
  have e : (List.range l.length).map (fun k => l.getD k d) = l := by
    apply List.ext_getElem?
    intro i
    rw [List.getElem?_map]
    by_cases h : i < l.length
    · rw [List.getElem?_range h, List.getElem?_eq_getElem h, Option.map_some, List.getD_eq_getElem?_getD, List.getElem?_eq_getElem h]
      rfl
    · rw [List.getElem?_eq_none (by simpa using h), List.getElem?_eq_none (by omega)]
      rfl
  conv => rhs; rw [← e]
  rw [List.filter_map]
  rfl
section
variable {n : Nat} {ps : List (Nat × Nat)} {ns : List Int} {s1 s2 L th : List Nat} {wd : Str} {B : List Rw} {Q : List V2}
theorem st7_r (hn : n ≤ 10) : st7 [.val (scrD ns), .val tapeD, .val (nI n), .val (pL ps), .val (W n ps), .val (lT (setsT n)), .val (tN s1), .val (tN s2), .un, .un, .un, .un, .un, .un, .un, .un, .un, .un, .un, .un, .un, .un, .un, .un, .un, .un, .un, .un] = ret (.nx [.val (scrD ns), .val tapeD, .val (nI n), .val (pL ps), .val (W n ps), .val (lT (setsT n)), .val (tN s1), .val (tN s2), .val (tN (xs2 n s1 s2)), .un, .un, .un, .un, .un, .un, .un, .un, .un, .un, .un, .un, .un, .un, .un, .un, .un, .un, .un]) := by
  unfold st7
  rw [sSet_r, slV_r, eCall_r, aCons_r, eFl_r, comp_f (enc := nI) (xs := List.range n) (p := ad (vec s1) (vec s2)) (g := nI)]
  · rfl
  · exact range1_r (by simp) (by omega)
  · intro k hk
    simp only [bodyC_nm, wipe_cons, wipe_nil, List.set_cons_succ, List.set_cons_zero, tBool_r, eBin_r, eBor_r, getB_s, getB_0, bnd_ret, in_tN, ne_bool, truB_r, eVar_r, getV_s, getV_0]
    rfl
theorem st8_r (h : PairsOk n ps) (hn : n ≤ 10) (h1 : s1 ∈ setsT n) (h2 : s2 ∈ setsT n) : st8 [.val (scrD ns), .val tapeD, .val (nI n), .val (pL ps), .val (W n ps), .val (lT (setsT n)), .val (tN s1), .val (tN s2), .val (tN (xs2 n s1 s2)), .un, .un, .un, .un, .un, .un, .un, .un, .un, .un, .un, .un, .un, .un, .un, .un, .un, .un, .un] = ret (.nx [.val (scrD ns), .val tapeD, .val (nI n), .val (pL ps), .val (W n ps), .val (lT (setsT n)), .val (tN s1), .val (tN s2), .val (tN (xs2 n s1 s2)), .un, .un, .un, .un, .un, .un, .un, .un, .un, .un, .un, .un, .un, .un, .un, .un, .un, .un, .un]) := by
  unfold st8 co8
  rw [if_f]
  · rfl
  · simp only [tOr_r, tBool_r, eBin_r, eCall_r, aCons_r, eVar_r, getV_s, getV_0, eBor_r, getB_s, getB_0, bnd_ret, aNil_r, turned_r h (by omega : n ≤ 100) h1, law_turned_r h (by omega : n ≤ 100), odd_sum_r h1 h2 (by omega : n ≤ 100), press_sum_r (ps := ps) h1 h2 (by omega : n ≤ 100), ne_self (ok_tN _), truB_r, Bool.false_eq_true, if_false]
theorem st9_r (h : PairsOk n ps) (hn : n ≤ 10) : st9 [.val (scrD ns), .val tapeD, .val (nI n), .val (pL ps), .val (W n ps), .val (lT (setsT n)), .val (tN s1), .val (tN s2), .val (tN (xs2 n s1 s2)), .un, .un, .un, .un, .un, .un, .un, .un, .un, .un, .un, .un, .un, .un, .un, .un, .un, .un, .un] = ret (.nx [.val (scrD ns), .val tapeD, .val (nI n), .val (pL ps), .val (W n ps), .val (lT (setsT n)), .val (tN s1), .val (tN s2), .val (tN (xs2 n s1 s2)), .un, .val (lT ((setsT n).map (tn n ps))), .un, .un, .un, .un, .un, .un, .un, .un, .un, .un, .un, .un, .un, .un, .un, .un, .un]) := by
  unfold st9
  rw [sSet_r, slV_r, eFl_r, comp_a (enc := tN) (xs := setsT n) (g := fun s => tN (tn n ps s))]
  · unfold lT
    rw [List.map_map]
    rfl
  · simp
  · intro s hs
    simp only [bodyC_nm, wipe_cons, wipe_nil, List.set_cons_succ, List.set_cons_zero, tYes_r, bnd_ret, if_true, eCall_r, aCons_r, eVar_r, getV_s, getV_0, aNil_r, law_turned_r h (by omega : n ≤ 100)]
theorem ix_told {k : Nat} (hk : k < (setsT n).length) : ixM (lT ((setsT n).map (tn n ps))) (nI k) = ret (tN (tn n ps ((setsT n).getD k []))) := by
  refine ix_lT ?_
  rw [List.getElem?_map, List.getD_eq_getElem?_getD, List.getElem?_eq_getElem hk]
  rfl
theorem ix_sets {k : Nat} (hk : k < (setsT n).length) : ixM (lT (setsT n)) (nI k) = ret (tN ((setsT n).getD k [])) := by
  refine ix_lT ?_
  rw [List.getD_eq_getElem?_getD, List.getElem?_eq_getElem hk]
  rfl
theorem sets_many (hn : n ≤ 10) : (setsT n).length ≤ 1024 := by
  rw [sets_len]
  exact Nat.pow_le_pow_right (by decide) hn
theorem st10_r (hn : n ≤ 10) : st10 [.val (scrD ns), .val tapeD, .val (nI n), .val (pL ps), .val (W n ps), .val (lT (setsT n)), .val (tN s1), .val (tN s2), .val (tN (xs2 n s1 s2)), .un, .val (lT ((setsT n).map (tn n ps))), .un, .un, .un, .un, .un, .un, .un, .un, .un, .un, .un, .un, .un, .un, .un, .un, .un] = ret (.nx [.val (scrD ns), .val tapeD, .val (nI n), .val (pL ps), .val (W n ps), .val (lT (setsT n)), .val (tN s1), .val (tN s2), .val (tN (xs2 n s1 s2)), .un, .val (lT ((setsT n).map (tn n ps))), .un, .val (lT (quietL n ps)), .un, .un, .un, .un, .un, .un, .un, .un, .un, .un, .un, .un, .un, .un, .un]) := by
  have hl := sets_many hn
  unfold st10
  rw [sSet_r, slV_r, eFl_r, comp_f (enc := nI) (xs := List.range (setsT n).length) (p := fun k => (fun s => decide (tn n ps s = [])) ((setsT n).getD k [])) (g := fun k => tN ((setsT n).getD k []))]
  · have e : ((List.range (setsT n).length).filter fun k => (fun s => decide (tn n ps s = [])) ((setsT n).getD k [])).map (fun k => tN ((setsT n).getD k [])) = (quietL n ps).map tN := by
      have := idx_filter (setsT n) [] fun s => decide (tn n ps s = [])
      unfold quietL
      rw [← this, List.map_map]
      rfl
    rw [e]
    rfl
  · exact range1_r (by simp) (by omega)
  · intro k hk
    have hk := List.mem_range.mp hk
    simp only [bodyC_nm, wipe_cons, wipe_nil, List.set_cons_succ, List.set_cons_zero, tBool_r, eBin_r, eTup_r, eBor_r, getB_s, getB_0, bnd_ret, aNil_r, ix_told hk, ix_sets hk, t0, eq_nil, truB_r]
theorem st13_r (hn : n ≤ 10) : st13 [.val (scrD ns), .val tapeD, .val (nI n), .val (pL ps), .val (W n ps), .val (lT (setsT n)), .val (tN s1), .val (tN s2), .val (tN (xs2 n s1 s2)), .un, .val (lT ((setsT n).map (tn n ps))), .un, .val (lT (quietL n ps)), .val (tN L), .un, .un, .un, .un, .un, .un, .un, .un, .un, .un, .un, .un, .un, .un] = ret (.nx [.val (scrD ns), .val tapeD, .val (nI n), .val (pL ps), .val (W n ps), .val (lT (setsT n)), .val (tN s1), .val (tN s2), .val (tN (xs2 n s1 s2)), .un, .val (lT ((setsT n).map (tn n ps))), .un, .val (lT (quietL n ps)), .val (tN L), .val (lT (goodL n ps L)), .un, .un, .un, .un, .un, .un, .un, .un, .un, .un, .un, .un, .un]) := by
  have hl := sets_many hn
  unfold st13
  rw [sSet_r, slV_r, eFl_r, comp_f (enc := nI) (xs := List.range (setsT n).length) (p := fun k => (fun s => decide (tn n ps s = L)) ((setsT n).getD k [])) (g := fun k => tN ((setsT n).getD k []))]
  · have e : ((List.range (setsT n).length).filter fun k => (fun s => decide (tn n ps s = L)) ((setsT n).getD k [])).map (fun k => tN ((setsT n).getD k [])) = (goodL n ps L).map tN := by
      have := idx_filter (setsT n) [] fun s => decide (tn n ps s = L)
      unfold goodL
      rw [← this, List.map_map]
      rfl
    rw [e]
    rfl
  · exact range1_r (by simp) (by omega)
  · intro k hk
    have hk := List.mem_range.mp hk
    simp only [bodyC_nm, wipe_cons, wipe_nil, List.set_cons_succ, List.set_cons_zero, tBool_r, eBin_r, eBor_r, getB_s, getB_0, bnd_ret, ix_told hk, ix_sets hk, eq_tN, truB_r]
theorem st14_r : st14 [.val (scrD ns), .val tapeD, .val (nI n), .val (pL ps), .val (W n ps), .val (lT (setsT n)), .val (tN s1), .val (tN s2), .val (tN (xs2 n s1 s2)), .un, .val (lT ((setsT n).map (tn n ps))), .un, .val (lT (quietL n ps)), .val (tN L), .val (lT (goodL n ps L)), .un, .un, .un, .un, .un, .un, .un, .un, .un, .un, .un, .un, .un] = ret (.nx [.val (scrD ns), .val tapeD, .val (nI n), .val (pL ps), .val (W n ps), .val (lT (setsT n)), .val (tN s1), .val (tN s2), .val (tN (xs2 n s1 s2)), .un, .val (lT ((setsT n).map (tn n ps))), .un, .val (lT (quietL n ps)), .val (tN L), .val (lT (goodL n ps L)), .val (lT (agL n ps L)), .un, .un, .un, .un, .un, .un, .un, .un, .un, .un, .un, .un]) := by
  unfold st14
  rw [sSet_r, slV_r, eFl_r, comp_f (enc := tN) (xs := quietL n ps) (p := fun s => dot n (vec s) (vec L)) (g := tN)]
  · rfl
  · simp
  · intro s hs
    have hs' : s ∈ setsT n := (List.mem_filter.mp hs).1
    simp only [bodyC_nm, wipe_cons, wipe_nil, List.set_cons_succ, List.set_cons_zero, tBool_r, eBin_r, eCall_r, aCons_r, eFl_r]
    rw [comp_f (enc := nI) (xs := s) (p := fun x => decide (x ∈ L)) (g := nI)]
    · simp only [bnd_ret, aNil_r, len_l, List.length_map, int_nI, eC_r, mod_2, eq_n1, truB_r, dot_common hs', eVar_r, getV_s, getV_0]
    · simp
    · intro x hx
      simp
/-- what presses_for gives, and what it tells -/
def Ans (n : Nat) (ps : List (Nat × Nat)) (L : List Nat) (wd : Str) (th : List Nat) : Prop := (wd = "yes" ∧ th ∈ goodL n ps L ∧ agL n ps L = []) ∨ (wd = "no" ∧ th ∈ agL n ps L ∧ goodL n ps L = [])
theorem ans_ex (P : PR2 n ps B Q) (hn : n ≤ 10) (hL : L ∈ setsT n) : ∃ wd th, Ans n ps L wd th ∧ m_presses_for [W n ps, tN L] = ret (.tuple [.str wd, tN th]) := by
  obtain ⟨r1, r2⟩ := presses_r P (by omega) hL
  by_cases y : (red B (vec L, z2)).1 = z2
  · have g := (red_yes P.el P.ech hL y).1
    refine ⟨"yes", _, .inl ⟨rfl, g, ?_⟩, r1 y⟩
    refine List.eq_nil_iff_forall_not_mem.mpr fun q hq => not_both hL g hq
  · obtain ⟨q, hq, hd, e⟩ := r2 y
    have g := q_ag P.el hq hd
    refine ⟨"no", _, .inr ⟨rfl, g, ?_⟩, e⟩
    refine List.eq_nil_iff_forall_not_mem.mpr fun s hs => not_both hL hs g
theorem st15_r (e : m_presses_for [W n ps, tN L] = ret (.tuple [.str wd, tN th])) : st15 [.val (scrD ns), .val tapeD, .val (nI n), .val (pL ps), .val (W n ps), .val (lT (setsT n)), .val (tN s1), .val (tN s2), .val (tN (xs2 n s1 s2)), .un, .val (lT ((setsT n).map (tn n ps))), .un, .val (lT (quietL n ps)), .val (tN L), .val (lT (goodL n ps L)), .val (lT (agL n ps L)), .un, .un, .un, .un, .un, .un, .un, .un, .un, .un, .un, .un] = ret (.nx [.val (scrD ns), .val tapeD, .val (nI n), .val (pL ps), .val (W n ps), .val (lT (setsT n)), .val (tN s1), .val (tN s2), .val (tN (xs2 n s1 s2)), .un, .val (lT ((setsT n).map (tn n ps))), .un, .val (lT (quietL n ps)), .val (tN L), .val (lT (goodL n ps L)), .val (lT (agL n ps L)), .val (.str wd), .val (tN th), .un, .un, .un, .un, .un, .un, .un, .un, .un, .un]) := by
  unfold st15 sUnp
  simp only [eCall_r, aCons_r, eVar_r, getV_s, getV_0, bnd_ret, aNil_r, e]
  rfl
theorem eq_l0 {M : List (List Nat)} : cmpM .Eq (lT M) (.list []) = ret (.bool (decide (M = []))) := eq_lT0
theorem ne_l0 {M : List (List Nat)} : cmpM .NotEq (lT M) (.list []) = ret (.bool (!decide (M = []))) := ne_lT (b := [])
theorem st16_r (a : Ans n ps L wd th) : st16 [.val (scrD ns), .val tapeD, .val (nI n), .val (pL ps), .val (W n ps), .val (lT (setsT n)), .val (tN s1), .val (tN s2), .val (tN (xs2 n s1 s2)), .un, .val (lT ((setsT n).map (tn n ps))), .un, .val (lT (quietL n ps)), .val (tN L), .val (lT (goodL n ps L)), .val (lT (agL n ps L)), .val (.str wd), .val (tN th), .un, .un, .un, .un, .un, .un, .un, .un, .un, .un] = ret (.nx [.val (scrD ns), .val tapeD, .val (nI n), .val (pL ps), .val (W n ps), .val (lT (setsT n)), .val (tN s1), .val (tN s2), .val (tN (xs2 n s1 s2)), .un, .val (lT ((setsT n).map (tn n ps))), .un, .val (lT (quietL n ps)), .val (tN L), .val (lT (goodL n ps L)), .val (lT (agL n ps L)), .val (.str wd), .val (tN th), .un, .un, .un, .un, .un, .un, .un, .un, .un, .un]) := by
  unfold st16 co16
  rw [if_f]
  · rfl
  · rcases a with ⟨rfl, a1, a2⟩ | ⟨rfl, a1, a2⟩
    · have ne : goodL n ps L ≠ [] := fun z => by rw [z] at a1; cases a1
      simp only [tOr_r, tAnd_r, tBool_r, eBin_r, eBor_r, getB_s, getB_0, bnd_ret, eFl_r, aNil_r, eC_r, eq_l0, ne_l0, decide_eq_false ne, decide_eq_true a2, yes_yes, yes_no, nin_lT, decide_eq_true a1, ne_bool, Bool.not_true, Bool.not_false, bne_self_eq_false, truB_r, Bool.false_eq_true, if_false, if_true]
    · have ne : agL n ps L ≠ [] := fun z => by rw [z] at a1; cases a1
      simp only [tOr_r, tAnd_r, tBool_r, eBin_r, eBor_r, getB_s, getB_0, bnd_ret, eFl_r, aNil_r, eC_r, eq_l0, ne_l0, decide_eq_false ne, decide_eq_true a2, no_yes, no_no, nin_lT, decide_eq_true a1, ne_bool, Bool.not_true, Bool.not_false, bne_self_eq_false, truB_r, Bool.false_eq_true, if_false, if_true]
theorem st17_r (P : PR2 n ps B Q) (hn : n ≤ 6) (hL : L ∈ setsT n) : st17 [.val (scrD ns), .val tapeD, .val (nI n), .val (pL ps), .val (W n ps), .val (lT (setsT n)), .val (tN s1), .val (tN s2), .val (tN (xs2 n s1 s2)), .un, .val (lT ((setsT n).map (tn n ps))), .un, .val (lT (quietL n ps)), .val (tN L), .val (lT (goodL n ps L)), .val (lT (agL n ps L)), .val (.str wd), .val (tN th), .un, .un, .un, .un, .un, .un, .un, .un, .un, .un] = ret (.nx [.val (scrD ns), .val tapeD, .val (nI n), .val (pL ps), .val (W n ps), .val (lT (setsT n)), .val (tN s1), .val (tN s2), .val (tN (xs2 n s1 s2)), .un, .val (lT ((setsT n).map (tn n ps))), .un, .val (lT (quietL n ps)), .val (tN L), .val (lT (goodL n ps L)), .val (lT (agL n ps L)), .val (.str wd), .val (tN th), .un, .un, .un, .un, .un, .un, .un, .un, .un, .un]) := by
  obtain ⟨l1, l2⟩ := least_r P (by omega) hL
  have rc := reached_r P (by omega)
  have tl := told_len P.el P.ech
  have hs6 : (setsT n).length ≤ 64 := by
    rw [sets_len]
    exact Nat.le_trans (Nat.pow_le_pow_right (by decide) hn) (by decide)
  have ls : lenSetM (lT ((setsT n).map (tn n ps))) = ret (nI (2 ^ B.length)) := by
    rw [lenSet_lT (by rw [List.length_map]; exact hs6), tl]
  have gl : (goodL n ps L).length ≤ 64 := Nat.le_trans (List.length_filter_le _ _) hs6
  have ap : binM .Add (lT (goodL n ps L)) (.list [.none]) = ret (.list ((goodL n ps L).map tN ++ [.none])) := app_l (by simp; omega)
  unfold st17 co17
  rw [if_f]
  · rfl
  · by_cases g : goodL n ps L = []
    · have ix : ixM (.list ((goodL n ps L).map tN ++ [.none])) (.int 0) = ret .none := by rw [g]; exact ixl0
      simp only [tOr_r, tBool_r, eBin_r, eCall_r, aCons_r, eVar_r, getV_s, getV_0, bnd_ret, aNil_r, l2 g, eBor_r, getB_s, getB_0, eFl_r, eC_r, ap, ix, ne_self ok_none, truB_r, Bool.false_eq_true, if_false, rc, eUn_r, ls, ne_self (ok_nI _)]
    · have ix : ixM (.list ((goodL n ps L).map tN ++ [.none])) (.int 0) = ret (tN (hdL (goodL n ps L))) := by
        unfold hdL
        cases c : goodL n ps L with
        | nil => exact (g c).elim
        | cons a r => exact ixl0
      simp only [tOr_r, tBool_r, eBin_r, eCall_r, aCons_r, eVar_r, getV_s, getV_0, bnd_ret, aNil_r, l1 g, eBor_r, getB_s, getB_0, eFl_r, eC_r, ap, ix, ne_self (ok_tN _), truB_r, Bool.false_eq_true, if_false, rc, eUn_r, ls, ne_self (ok_nI _)]
end
end Kw
set_option maxHeartbeats 4000000
namespace Kw
open PySem PySem.Spec PyProof.Rows

section
variable {n : Nat} {ps : List (Nat × Nat)} {ns : List Int} {s1 s2 L th : List Nat} {wd : Str} {B : List Rw} {Q : List V2} {v1 g1 o1 : Slot}
/-- a value: no set, or some states -/
def WV (n : Nat) (v : D) : Prop := (∃ s, v = tN s ∧ s.length ≤ 50) ∨ (m_is_state_set [v, nI n] = ret (.bool false) ∧ m__law_set [v, nI n] = ret (.bool false))
theorem and_in {M : List (List Nat)} {s : List Nat} (hM : ∀ s ∈ M, s ∈ setsT n) {ρ : Env} {i j : Nat} (hi : getV ρ i = ret (.bool (decide (s ∈ setsT n)))) (hj : getB ρ j = ret (lT M)) {a : DE} (ha : a ρ = ret (tN s)) : eAnd (eVar i) (eBin (cmpM .In) a (eBor j)) ρ = ret (.bool (decide (s ∈ M))) := by
  simp only [eAnd_r, eVar_r, hi, bnd_ret, truM_b]
  by_cases q : s ∈ setsT n
  · rw [if_pos (decide_eq_true q)]
    simp [ha, hj]
  · have : s ∉ M := fun z => q (hM s z)
    rw [if_neg (by simp [q]), decide_eq_false q, decide_eq_false this]
theorem good_in {s : List Nat} (h : s ∈ goodL n ps L) : s ∈ setsT n := (List.mem_filter.mp h).1
theorem ag_in {s : List Nat} (h : s ∈ agL n ps L) : s ∈ setsT n := (ag_mem.mp h).1
theorem ans_set (a : Ans n ps L wd th) : th ∈ setsT n := by
  rcases a with ⟨_, a, _⟩ | ⟨_, a, _⟩
  · exact good_in a
  · exact ag_in a
theorem st18_r (h : PairsOk n ps) (hn : n ≤ 6) (h1 : s1 ∈ setsT n) (h2 : s2 ∈ setsT n) (h3 : th ∈ setsT n) : ∃ v1 g1 : Slot, st18 [.val (scrD ns), .val tapeD, .val (nI n), .val (pL ps), .val (W n ps), .val (lT (setsT n)), .val (tN s1), .val (tN s2), .val (tN (xs2 n s1 s2)), .un, .val (lT ((setsT n).map (tn n ps))), .un, .val (lT (quietL n ps)), .val (tN L), .val (lT (goodL n ps L)), .val (lT (agL n ps L)), .val (.str wd), .val (tN th), .un, .un, .un, .un, .un, .un, .un, .un, .un, .un] = ret (.nx [.val (scrD ns), .val tapeD, .val (nI n), .val (pL ps), .val (W n ps), .val (lT (setsT n)), .val (tN s1), .val (tN s2), .val (tN (xs2 n s1 s2)), .un, .val (lT ((setsT n).map (tn n ps))), .un, .val (lT (quietL n ps)), .val (tN L), .val (lT (goodL n ps L)), .val (lT (agL n ps L)), .val (.str wd), .val (tN th), v1, g1, .un, .un, .un, .un, .un, .un, .un, .un]) := by
  have l1 := set_len h1
  have l2 := set_len h2
  have l3 := set_len h3
  let vs : List D := ((((goodL n ps L).map tN).take 1 ++ ((agL n ps L).map tN).take 1)) ++ [tN s1, tN s2, tN th, .none, .list (s1.map nI), tN s1.reverse, .tuple [nI n], .tuple [.bool true], .tuple [.int 0, .int 0]]
  have ok : ∀ v ∈ vs, WV n v := fun v hv => by
    rcases List.mem_append.mp hv with hv | hv
    · rcases List.mem_append.mp hv with hv | hv
      · obtain ⟨s, hs, rfl⟩ := List.mem_map.mp (List.mem_of_mem_take hv)
        have := set_len (good_in hs)
        exact .inl ⟨s, rfl, by omega⟩
      · obtain ⟨s, hs, rfl⟩ := List.mem_map.mp (List.mem_of_mem_take hv)
        have := set_len (ag_in hs)
        exact .inl ⟨s, rfl, by omega⟩
    · simp only [List.mem_cons, List.not_mem_nil, or_false] at hv
      rcases hv with rfl | rfl | rfl | rfl | rfl | rfl | rfl | rfl | rfl
      · exact .inl ⟨s1, rfl, by omega⟩
      · exact .inl ⟨s2, rfl, by omega⟩
      · exact .inl ⟨th, rfl, by omega⟩
      · exact .inr ⟨state_set_none, law_set_none⟩
      · exact .inr ⟨state_set_list, law_set_list⟩
      · exact .inl ⟨s1.reverse, rfl, by simp; omega⟩
      · exact .inl ⟨[n], rfl, by simp⟩
      · exact .inr ⟨state_set_true, law_set_true⟩
      · exact .inl ⟨[0, 0], rfl, by simp⟩
  have lp := for_inv (tg := .nm 18) (xs := vs) (ρ := [.val (scrD ns), .val tapeD, .val (nI n), .val (pL ps), .val (W n ps), .val (lT (setsT n)), .val (tN s1), .val (tN s2), .val (tN (xs2 n s1 s2)), .un, .val (lT ((setsT n).map (tn n ps))), .un, .val (lT (quietL n ps)), .val (tN L), .val (lT (goodL n ps L)), .val (lT (agL n ps L)), .val (.str wd), .val (tN th), .un, .un, .un, .un, .un, .un, .un, .un, .un, .un]) (body := bo18) (fun ρ => ∃ v1 g1 : Slot, ρ = [.val (scrD ns), .val tapeD, .val (nI n), .val (pL ps), .val (W n ps), .val (lT (setsT n)), .val (tN s1), .val (tN s2), .val (tN (xs2 n s1 s2)), .un, .val (lT ((setsT n).map (tn n ps))), .un, .val (lT (quietL n ps)), .val (tN L), .val (lT (goodL n ps L)), .val (lT (agL n ps L)), .val (.str wd), .val (tN th), v1, g1, .un, .un, .un, .un, .un, .un, .un, .un]) ?_ ⟨.un, .un, rfl⟩
  · obtain ⟨ρ', e, v1, g1, rfl⟩ := lp
    refine ⟨v1, g1, ?_⟩
    have a1 : ∀ M : List (List Nat), sliceM (lT M) none (some 1) = ret (.list ((M.map tN).take 1)) := fun M => slice_l (k := 1)
    have t1 : ∀ M : List D, (M.take 1).length ≤ 1 := fun M => by simp; omega
    have t2 := t1 ((goodL n ps L).map tN)
    have t3 := t1 ((agL n ps L).map tN)
    have ei : it18 [.val (scrD ns), .val tapeD, .val (nI n), .val (pL ps), .val (W n ps), .val (lT (setsT n)), .val (tN s1), .val (tN s2), .val (tN (xs2 n s1 s2)), .un, .val (lT ((setsT n).map (tn n ps))), .un, .val (lT (quietL n ps)), .val (tN L), .val (lT (goodL n ps L)), .val (lT (agL n ps L)), .val (.str wd), .val (tN th), .un, .un, .un, .un, .un, .un, .un, .un, .un, .un] = ret vs := by
      unfold it18
      simp only [iSeq_r, eBin_r, eSlice_r, eFl_r, aCons_r, eTup_r, eVar_r, getV_s, getV_0, bnd_ret, aNil_r, eBor_r, getB_s, getB_0, eC_r, eUn_r, rev_tN, aCall_r, listM_tN, oNone_r, oSome_r, a1]
      rw [app_l (by omega), bnd_ret, app_l (by simp only [List.length_append, List.length_cons, List.length_nil]; omega), bnd_ret]
      rfl
    unfold st18
    rw [sFor_r, ei, bnd_ret, e]
  · rintro ρ ⟨v1, g1, rfl⟩ v hv
    refine ⟨_, rfl, ?_⟩
    simp only [List.set_cons_succ, List.set_cons_zero]
    have er : ∀ ρ : Env, getB ρ 2 = ret (nI n) → eTup (eRange1 (eBor 2)) ρ = ret (tN (allL n)) := fun ρ hρ => by
      rw [eTup_r, range1_r (n := n) (by rw [eBor_r, hρ]) (by omega)]
      rfl
    unfold bo18
    rcases ok v hv with ⟨s, rfl, ls⟩ | ⟨e1, e2⟩
    · have b := law_set_r (n := n) (s := s) (by omega)
      refine ⟨[.val (scrD ns), .val tapeD, .val (nI n), .val (pL ps), .val (W n ps), .val (lT (setsT n)), .val (tN s1), .val (tN s2), .val (tN (xs2 n s1 s2)), .un, .val (lT ((setsT n).map (tn n ps))), .un, .val (lT (quietL n ps)), .val (tN L), .val (lT (goodL n ps L)), .val (lT (agL n ps L)), .val (.str wd), .val (tN th), .val (tN s), .val (.bool (decide (s ∈ setsT n))), .un, .un, .un, .un, .un, .un, .un, .un], ?_, _, _, rfl⟩
      rw [seq_nx [.val (scrD ns), .val tapeD, .val (nI n), .val (pL ps), .val (W n ps), .val (lT (setsT n)), .val (tN s1), .val (tN s2), .val (tN (xs2 n s1 s2)), .un, .val (lT ((setsT n).map (tn n ps))), .un, .val (lT (quietL n ps)), .val (tN L), .val (lT (goodL n ps L)), .val (lT (agL n ps L)), .val (.str wd), .val (tN th), .val (tN s), .val (.bool (decide (s ∈ setsT n))), .un, .un, .un, .un, .un, .un, .un, .un] (by simp [b])]
      have c1 := and_in (n := n) (M := goodL n ps L) (s := s) (fun s hs => good_in hs) (ρ := [.val (scrD ns), .val tapeD, .val (nI n), .val (pL ps), .val (W n ps), .val (lT (setsT n)), .val (tN s1), .val (tN s2), .val (tN (xs2 n s1 s2)), .un, .val (lT ((setsT n).map (tn n ps))), .un, .val (lT (quietL n ps)), .val (tN L), .val (lT (goodL n ps L)), .val (lT (agL n ps L)), .val (.str wd), .val (tN th), .val (tN s), .val (.bool (decide (s ∈ setsT n))), .un, .un, .un, .un, .un, .un, .un, .un]) (i := 19) (j := 14) rfl rfl (a := eBor 18) rfl
      have c2 := and_in (n := n) (M := agL n ps L) (s := s) (fun s hs => ag_in hs) (ρ := [.val (scrD ns), .val tapeD, .val (nI n), .val (pL ps), .val (W n ps), .val (lT (setsT n)), .val (tN s1), .val (tN s2), .val (tN (xs2 n s1 s2)), .un, .val (lT ((setsT n).map (tn n ps))), .un, .val (lT (quietL n ps)), .val (tN L), .val (lT (goodL n ps L)), .val (lT (agL n ps L)), .val (.str wd), .val (tN th), .val (tN s), .val (.bool (decide (s ∈ setsT n))), .un, .un, .un, .un, .un, .un, .un, .un]) (i := 19) (j := 15) rfl rfl (a := eBor 18) rfl
      have c3 : eAnd (eVar 19) (eBin (cmpM .Eq) (eCall m__law_turned (aCons (eVar 2) (aCons (eVar 3) (aCons (eVar 18) aNil)))) (eTup (eRange1 (eBor 2)))) [.val (scrD ns), .val tapeD, .val (nI n), .val (pL ps), .val (W n ps), .val (lT (setsT n)), .val (tN s1), .val (tN s2), .val (tN (xs2 n s1 s2)), .un, .val (lT ((setsT n).map (tn n ps))), .un, .val (lT (quietL n ps)), .val (tN L), .val (lT (goodL n ps L)), .val (lT (agL n ps L)), .val (.str wd), .val (tN th), .val (tN s), .val (.bool (decide (s ∈ setsT n))), .un, .un, .un, .un, .un, .un, .un, .un] = ret (.bool (decide (s ∈ setsT n) && decide (tn n ps s = allL n))) := by
        by_cases q : s ∈ setsT n
        · simp only [eAnd_r, eVar_r, getV_s, getV_0, bnd_ret, truM_b, decide_eq_true q, if_true, Bool.true_and, eBin_r, eCall_r, aCons_r, aNil_r, law_turned_r h (by omega : n ≤ 100)]
          rw [er _ rfl, bnd_ret, eq_tN]
        · simp only [eAnd_r, eVar_r, getV_s, getV_0, bnd_ret, truM_b, decide_eq_false q, Bool.false_eq_true, if_false, Bool.false_and]
      rw [seq_nx [.val (scrD ns), .val tapeD, .val (nI n), .val (pL ps), .val (W n ps), .val (lT (setsT n)), .val (tN s1), .val (tN s2), .val (tN (xs2 n s1 s2)), .un, .val (lT ((setsT n).map (tn n ps))), .un, .val (lT (quietL n ps)), .val (tN L), .val (lT (goodL n ps L)), .val (lT (agL n ps L)), .val (.str wd), .val (tN th), .val (tN s), .val (.bool (decide (s ∈ setsT n))), .un, .un, .un, .un, .un, .un, .un, .un] (by
        rw [if_f]
        · rfl
        · rw [tOr_r, tBool_r, eBin_r, c1, tBool_r, eBin_r, c2]
          simp only [eCall_r, aCons_r, eVar_r, getV_s, getV_0, bnd_ret, aNil_r, are_r (s := s) (L := L) h (by omega : n ≤ 100) ls, keeps_r (s := s) (L := L) h (by omega : n ≤ 100) ls, ne_bool, bne_self_eq_false, truB_r, Bool.false_eq_true, if_false])]
      rw [if_f]
      · rfl
      · rw [tBool_r, eBin_r, c3]
        simp only [eCall_r, aCons_r, eVar_r, getV_s, getV_0, bnd_ret, aNil_r, is_odd_r (s := s) h (by omega : n ≤ 100) ls, ne_bool, bne_self_eq_false, truB_r]
    · refine ⟨[.val (scrD ns), .val tapeD, .val (nI n), .val (pL ps), .val (W n ps), .val (lT (setsT n)), .val (tN s1), .val (tN s2), .val (tN (xs2 n s1 s2)), .un, .val (lT ((setsT n).map (tn n ps))), .un, .val (lT (quietL n ps)), .val (tN L), .val (lT (goodL n ps L)), .val (lT (agL n ps L)), .val (.str wd), .val (tN th), .val v, .val (.bool false), .un, .un, .un, .un, .un, .un, .un, .un], ?_, _, _, rfl⟩
      rw [seq_nx [.val (scrD ns), .val tapeD, .val (nI n), .val (pL ps), .val (W n ps), .val (lT (setsT n)), .val (tN s1), .val (tN s2), .val (tN (xs2 n s1 s2)), .un, .val (lT ((setsT n).map (tn n ps))), .un, .val (lT (quietL n ps)), .val (tN L), .val (lT (goodL n ps L)), .val (lT (agL n ps L)), .val (.str wd), .val (tN th), .val v, .val (.bool false), .un, .un, .un, .un, .un, .un, .un, .un] (by simp [e2])]
      rw [seq_nx [.val (scrD ns), .val tapeD, .val (nI n), .val (pL ps), .val (W n ps), .val (lT (setsT n)), .val (tN s1), .val (tN s2), .val (tN (xs2 n s1 s2)), .un, .val (lT ((setsT n).map (tn n ps))), .un, .val (lT (quietL n ps)), .val (tN L), .val (lT (goodL n ps L)), .val (lT (agL n ps L)), .val (.str wd), .val (tN th), .val v, .val (.bool false), .un, .un, .un, .un, .un, .un, .un, .un] (by
        rw [if_f]
        · rfl
        · simp [are_no (ps := ps) (L := L) e1, keeps_no (ps := ps) (L := L) e1, ne_bool])]
      rw [if_f]
      · rfl
      · simp [is_odd_no (ps := ps) e1, ne_bool]
theorem st19_r (h : PairsOk n ps) (hn : n ≤ 6) : st19 [.val (scrD ns), .val tapeD, .val (nI n), .val (pL ps), .val (W n ps), .val (lT (setsT n)), .val (tN s1), .val (tN s2), .val (tN (xs2 n s1 s2)), .un, .val (lT ((setsT n).map (tn n ps))), .un, .val (lT (quietL n ps)), .val (tN L), .val (lT (goodL n ps L)), .val (lT (agL n ps L)), .val (.str wd), .val (tN th), v1, g1, .un, .un, .un, .un, .un, .un, .un, .un] = ret (.nx [.val (scrD ns), .val tapeD, .val (nI n), .val (pL ps), .val (W n ps), .val (lT (setsT n)), .val (tN s1), .val (tN s2), .val (tN (xs2 n s1 s2)), .un, .val (lT ((setsT n).map (tn n ps))), .un, .val (lT (quietL n ps)), .val (tN L), .val (lT (goodL n ps L)), .val (lT (agL n ps L)), .val (.str wd), .val (tN th), v1, g1, .val (lT (goodL n ps (allL n))), .un, .un, .un, .un, .un, .un, .un]) := by
  unfold st19
  rw [sSet_r, slV_r, eFl_r, comp_f (enc := tN) (xs := setsT n) (p := fun s => decide (tn n ps s = allL n)) (g := tN)]
  · rfl
  · simp
  · intro s hs
    have er : ∀ ρ : Env, getB ρ 2 = ret (nI n) → eTup (eRange1 (eBor 2)) ρ = ret (tN (allL n)) := fun ρ hρ => by
      rw [eTup_r, range1_r (n := n) (by rw [eBor_r, hρ]) (by omega)]
      rfl
    simp only [bodyC_nm, wipe_cons, wipe_nil, List.set_cons_succ, List.set_cons_zero, tBool_r, eBin_r, eCall_r, aCons_r, eVar_r, getV_s, getV_0, bnd_ret, aNil_r, law_turned_r h (by omega : n ≤ 100)]
    rw [er _ rfl]
    simp only [bnd_ret, eq_tN, truB_r]
theorem st20_r (P : PR2 n ps B Q) (hn : n ≤ 6) : st20 [.val (scrD ns), .val tapeD, .val (nI n), .val (pL ps), .val (W n ps), .val (lT (setsT n)), .val (tN s1), .val (tN s2), .val (tN (xs2 n s1 s2)), .un, .val (lT ((setsT n).map (tn n ps))), .un, .val (lT (quietL n ps)), .val (tN L), .val (lT (goodL n ps L)), .val (lT (agL n ps L)), .val (.str wd), .val (tN th), v1, g1, .val (lT (goodL n ps (allL n))), .un, .un, .un, .un, .un, .un, .un] = ret (.nx [.val (scrD ns), .val tapeD, .val (nI n), .val (pL ps), .val (W n ps), .val (lT (setsT n)), .val (tN s1), .val (tN s2), .val (tN (xs2 n s1 s2)), .un, .val (lT ((setsT n).map (tn n ps))), .un, .val (lT (quietL n ps)), .val (tN L), .val (lT (goodL n ps L)), .val (lT (agL n ps L)), .val (.str wd), .val (tN th), v1, g1, .val (lT (goodL n ps (allL n))), .un, .un, .un, .un, .un, .un, .un]) := by
  obtain ⟨s, hs, e⟩ := odd_keeper_r P (by omega)
  have c := count_r P (by omega)
  have l1 := good_len P.el P.ech allL_in hs
  have l2 := quiet_len P.el P.ech
  unfold st20 co20
  rw [if_f]
  · rfl
  · simp only [tOr_r, tBool_r, eBin_r, eCall_r, aCons_r, eVar_r, getV_s, getV_0, eBor_r, getB_s, getB_0, bnd_ret, aNil_r, e, nin_lT, decide_eq_true hs, Bool.not_true, truB_r, Bool.false_eq_true, if_false, c, len_lT, l1, l2, ne_self (ok_nI _)]
theorem st21_r (P : PR2 n ps B Q) : st21 [.val (scrD ns), .val tapeD, .val (nI n), .val (pL ps), .val (W n ps), .val (lT (setsT n)), .val (tN s1), .val (tN s2), .val (tN (xs2 n s1 s2)), .un, .val (lT ((setsT n).map (tn n ps))), .un, .val (lT (quietL n ps)), .val (tN L), .val (lT (goodL n ps L)), .val (lT (agL n ps L)), .val (.str wd), .val (tN th), v1, g1, .val (lT (goodL n ps (allL n))), .un, .un, .un, .un, .un, .un, .un] = ret (.nx [.val (scrD ns), .val tapeD, .val (nI n), .val (pL ps), .val (W n ps), .val (lT (setsT n)), .val (tN s1), .val (tN s2), .val (tN (xs2 n s1 s2)), .un, .val (lT ((setsT n).map (tn n ps))), .un, .val (lT (quietL n ps)), .val (tN L), .val (lT (goodL n ps L)), .val (lT (agL n ps L)), .val (.str wd), .val (tN th), v1, g1, .val (lT (goodL n ps (allL n))), .val (.list (B.map (encR n))), .val (.list (QL n Q)), .un, .un, .un, .un, .un]) := by
  unfold st21 sUnp
  simp only [eCall_r, aCons_r, eVar_r, getV_s, getV_0, bnd_ret, aNil_r, P.r]
  rfl
theorem st22_r (P : PR2 n ps B Q) : st22 [.val (scrD ns), .val tapeD, .val (nI n), .val (pL ps), .val (W n ps), .val (lT (setsT n)), .val (tN s1), .val (tN s2), .val (tN (xs2 n s1 s2)), .un, .val (lT ((setsT n).map (tn n ps))), .un, .val (lT (quietL n ps)), .val (tN L), .val (lT (goodL n ps L)), .val (lT (agL n ps L)), .val (.str wd), .val (tN th), v1, g1, .val (lT (goodL n ps (allL n))), .val (.list (B.map (encR n))), .val (.list (QL n Q)), .un, .un, .un, .un, .un] = ret (.nx [.val (scrD ns), .val tapeD, .val (nI n), .val (pL ps), .val (W n ps), .val (lT (setsT n)), .val (tN s1), .val (tN s2), .val (tN (xs2 n s1 s2)), .un, .val (lT ((setsT n).map (tn n ps))), .un, .val (lT (quietL n ps)), .val (tN L), .val (lT (goodL n ps L)), .val (lT (agL n ps L)), .val (.str wd), .val (tN th), v1, g1, .val (lT (goodL n ps (allL n))), .val (.list (B.map (encR n))), .val (.list (QL n Q)), .val (lN (B.map (·.lead))), .un, .un, .un, .un]) := by
  unfold st22
  rw [sSet_r, slV_r, eFl_r, comp_a (enc := encR n) (xs := B) (g := fun r => nI r.lead)]
  · have : PyData.list (B.map fun r => nI r.lead) = lN (B.map (·.lead)) := by
      unfold lN
      rw [List.map_map]
      rfl
    rw [bnd_ret, this]
    rfl
  · simp
  · intro r hr
    obtain ⟨t, et⟩ := canon_lead P.el hr
    have i0 : ixM (encR n r) (.int 0) = ret (tN (canon n r.l)) := ix0
    simp only [bodyC_nm, wipe_cons, wipe_nil, List.set_cons_succ, List.set_cons_zero, tYes_r, bnd_ret, if_true, eBin_r, eBor_r, getB_s, getB_0, eC_r, i0]
    rw [et, ix_head]
    rfl
theorem in_ff {α : Type} {l : List α} {f : α → Bool} : cmpM .In (.bool false) (.list (l.map fun x => .bool (f x))) = ret (.bool (!l.all f)) := by
  have hb : ∀ a b : Bool, PyData.eqv (.bool a) (.bool b) = decide (a = b) := fun a b => by cases a <;> cases b <;> rfl
  have := has_map (enc := PyData.bool) (k := 0) hb ok_bool (by decide) false false (l.map f)
  rw [List.map_map] at this
  refine (show cmpM .In (.bool false) (.list (l.map fun x => .bool (f x))) = hasD false (.bool false) (l.map (PyData.bool ∘ f)) from rfl).trans (this.trans ?_)
  congr 2
  rw [Bool.eq_iff_iff]
  simp
theorem bodyC_two {i j : Nat} {t : DT} {e : DE} {ρ : Env} {a b : D} : bodyC (.tup [i, j]) t e ρ (.tuple [a, b]) = bnd (t ((ρ.set i (.val a)).set j (.val b))) fun k => if k = true then bnd (e ((ρ.set i (.val a)).set j (.val b))) fun y => ret [y] else ret [] := rfl
theorem st23_r (h : PairsOk n ps) (P : PR2 n ps B Q) (hn : n ≤ 6) : st23 [.val (scrD ns), .val tapeD, .val (nI n), .val (pL ps), .val (W n ps), .val (lT (setsT n)), .val (tN s1), .val (tN s2), .val (tN (xs2 n s1 s2)), .un, .val (lT ((setsT n).map (tn n ps))), .un, .val (lT (quietL n ps)), .val (tN L), .val (lT (goodL n ps L)), .val (lT (agL n ps L)), .val (.str wd), .val (tN th), v1, g1, .val (lT (goodL n ps (allL n))), .val (.list (B.map (encR n))), .val (.list (QL n Q)), .val (lN (B.map (·.lead))), .un, .un, .un, .un] = ret (.nx [.val (scrD ns), .val tapeD, .val (nI n), .val (pL ps), .val (W n ps), .val (lT (setsT n)), .val (tN s1), .val (tN s2), .val (tN (xs2 n s1 s2)), .un, .val (lT ((setsT n).map (tn n ps))), .un, .val (lT (quietL n ps)), .val (tN L), .val (lT (goodL n ps L)), .val (lT (agL n ps L)), .val (.str wd), .val (tN th), v1, g1, .val (lT (goodL n ps (allL n))), .val (.list (B.map (encR n))), .val (.list (QL n Q)), .val (lN (B.map (·.lead))), .un, .un, .un, .un]) := by
  have hE := P.el
  have num := hE.num
  have inc : (B.map (·.lead)).Pairwise (· < ·) := List.pairwise_map.mpr P.ech.srt
  have lc : B.map (·.lead) = canon n fun x => decide (x ∈ B.map (·.lead)) := inc_canon inc fun x => by
    rw [decide_eq_true_iff]
    refine ⟨fun q => ⟨?_, q⟩, fun q => q.2⟩
    obtain ⟨r, hr, rfl⟩ := List.mem_map.mp q
    exact hE.lt r hr
  have es : sortSetM (lN (B.map (·.lead))) = ret ((B.map (·.lead)).map nI) := by
    have h60 : (castL (B.map (·.lead))).length < 60 := by simp [castL]; omega
    have e1 : sortSetM (lN (B.map (·.lead))) = ret ((usort (castL (B.map (·.lead)))).map PyData.int) := by
      simp only [sortSetM, lN, intsD_nI, h60, if_true]
    rw [e1, usort_canon (n := n) (P := fun x => decide (x ∈ B.map (·.lead))) fun x => ?_, ← lc, ← nI_cast]
    rw [decide_eq_true_iff]
    refine ⟨fun q => ⟨?_, q⟩, fun q => q.2⟩
    obtain ⟨r, hr, rfl⟩ := List.mem_map.mp q
    exact hE.lt r hr
  have hs6 : (setsT n).length ≤ 64 := by
    rw [sets_len]
    exact Nat.le_trans (Nat.pow_le_pow_right (by decide) hn) (by decide)
  have ls : lenSetM (lT ((setsT n).map (tn n ps))) = ret (nI (2 ^ B.length)) := by
    rw [lenSet_lT (by rw [List.length_map]; exact hs6), told_len hE P.ech]
  have el : eFl (eComp [24, 25] (.tup [24, 25]) tYesM (eBin (cmpM .Eq) (eCall m__law_turned (aCons (eVar 2) (aCons (eVar 3) (aCons (eVar 25) aNil)))) (eBor 24)) (iSeq (eBor 21))) [.val (scrD ns), .val tapeD, .val (nI n), .val (pL ps), .val (W n ps), .val (lT (setsT n)), .val (tN s1), .val (tN s2), .val (tN (xs2 n s1 s2)), .un, .val (lT ((setsT n).map (tn n ps))), .un, .val (lT (quietL n ps)), .val (tN L), .val (lT (goodL n ps L)), .val (lT (agL n ps L)), .val (.str wd), .val (tN th), v1, g1, .val (lT (goodL n ps (allL n))), .val (.list (B.map (encR n))), .val (.list (QL n Q)), .val (lN (B.map (·.lead))), .un, .un, .un, .un] = ret (.list (B.map fun _ => .bool true)) := by
    rw [eFl_r, comp_a (enc := encR n) (xs := B) (g := fun _ => .bool true)]
    · rfl
    · simp
    · intro r hr
      have et : tn n ps (canon n r.p) = canon n r.l := by
        unfold tn
        rw [vec_canon (hE.sup r hr), hE.t r hr]
      unfold encR
      rw [bodyC_two]
      simp only [wipe_cons, wipe_nil, List.set_cons_succ, List.set_cons_zero, tYes_r, bnd_ret, if_true, eBin_r, eCall_r, aCons_r, eVar_r, getV_s, getV_0, aNil_r, law_turned_r h (by omega : n ≤ 100), eBor_r, getB_s, getB_0, eq_tN, et, decide_true]
  have inf : cmpM .In (.bool false) (.list (B.map fun _ => .bool true)) = ret (.bool false) := by
    have := in_ff (l := B) (f := fun _ => true)
    rw [this]
    congr 2
    simp
  unfold st23 co23
  rw [if_f]
  · rfl
  · have len : lenM [.list (B.map (encR n))] = ret (nI B.length) := by simp
    have e1 : PyData.list ((B.map (·.lead)).map nI) = lN (B.map (·.lead)) := rfl
    rw [tOr_r, tBool_r, eBin_r, tOr_r, tBool_r, eBin_r, el]
    simp only [eFl_r, aOf_r, eBor_r, getB_s, getB_0, bnd_ret, es, e1, ne_self (ok_lN _), truB_r, Bool.false_eq_true, if_false, eC_r, inf, tBool_r, eBin_r, eCall_r, aCons_r, aNil_r, len, shl_1 (show B.length ≤ 1000 by omega), eUn_r, ls, ne_self (ok_nI _)]
theorem st25_r (P : PR2 n ps B Q) (hn : n ≤ 6) : ∃ o1 : Slot, st25 [.val (scrD ns), .val tapeD, .val (nI n), .val (pL ps), .val (W n ps), .val (lT (setsT n)), .val (tN s1), .val (tN s2), .val (tN (xs2 n s1 s2)), .un, .val (lT ((setsT n).map (tn n ps))), .un, .val (lT (quietL n ps)), .val (tN L), .val (lT (goodL n ps L)), .val (lT (agL n ps L)), .val (.str wd), .val (tN th), v1, g1, .val (lT (goodL n ps (allL n))), .val (.list (B.map (encR n))), .val (.list (QL n Q)), .val (lN (B.map (·.lead))), .un, .un, .val (lT [[]]), .un] = ret (.nx [.val (scrD ns), .val tapeD, .val (nI n), .val (pL ps), .val (W n ps), .val (lT (setsT n)), .val (tN s1), .val (tN s2), .val (tN (xs2 n s1 s2)), .un, .val (lT ((setsT n).map (tn n ps))), o1, .val (lT (quietL n ps)), .val (tN L), .val (lT (goodL n ps L)), .val (lT (agL n ps L)), .val (.str wd), .val (tN th), v1, g1, .val (lT (goodL n ps (allL n))), .val (.list (B.map (encR n))), .val (.list (QL n Q)), .val (lN (B.map (·.lead))), .un, .un, .val (lT ((sp2 Q).map (canon n))), .un]) := by
  have num := P.el.num
  have lp := for_pre (enc := fun q => tN (canon n q)) (tg := .nm 11) (xs := Q) (ρ := [.val (scrD ns), .val tapeD, .val (nI n), .val (pL ps), .val (W n ps), .val (lT (setsT n)), .val (tN s1), .val (tN s2), .val (tN (xs2 n s1 s2)), .un, .val (lT ((setsT n).map (tn n ps))), .un, .val (lT (quietL n ps)), .val (tN L), .val (lT (goodL n ps L)), .val (lT (agL n ps L)), .val (.str wd), .val (tN th), v1, g1, .val (lT (goodL n ps (allL n))), .val (.list (B.map (encR n))), .val (.list (QL n Q)), .val (lN (B.map (·.lead))), .un, .un, .val (lT [[]]), .un]) (body := bo25)
    (fun pre ρ => ∃ o1 : Slot, ρ = [.val (scrD ns), .val tapeD, .val (nI n), .val (pL ps), .val (W n ps), .val (lT (setsT n)), .val (tN s1), .val (tN s2), .val (tN (xs2 n s1 s2)), .un, .val (lT ((setsT n).map (tn n ps))), o1, .val (lT (quietL n ps)), .val (tN L), .val (lT (goodL n ps L)), .val (lT (agL n ps L)), .val (.str wd), .val (tN th), v1, g1, .val (lT (goodL n ps (allL n))), .val (.list (B.map (encR n))), .val (.list (QL n Q)), .val (lN (B.map (·.lead))), .un, .un, .val (lT ((sp2 pre).map (canon n))), .un]) ?_ ⟨.un, by
      have : (sp2 []).map (canon n) = [[]] := by simp [sp2, canon_z]
      rw [this]⟩
  · obtain ⟨ρ', e, o1, rfl⟩ := lp
    refine ⟨o1, ?_⟩
    have ei : it25 [.val (scrD ns), .val tapeD, .val (nI n), .val (pL ps), .val (W n ps), .val (lT (setsT n)), .val (tN s1), .val (tN s2), .val (tN (xs2 n s1 s2)), .un, .val (lT ((setsT n).map (tn n ps))), .un, .val (lT (quietL n ps)), .val (tN L), .val (lT (goodL n ps L)), .val (lT (agL n ps L)), .val (.str wd), .val (tN th), v1, g1, .val (lT (goodL n ps (allL n))), .val (.list (B.map (encR n))), .val (.list (QL n Q)), .val (lN (B.map (·.lead))), .un, .un, .val (lT [[]]), .un] = ret (Q.map fun q => tN (canon n q)) := rfl
    unfold st25
    rw [sFor_r, ei, bnd_ret, e]
  · rintro pre q suf ρ epre ⟨o1, rfl⟩
    have hl : (Q).length = pre.length + (suf.length + 1) := by rw [epre]; simp
    have hq : q ∈ Q := by rw [epre]; simp
    have sq := tops_sup P.el.tops q hq
    have spre : ∀ x ∈ pre, Sup n x := fun x hx => tops_sup P.el.tops x (by rw [epre]; simp [hx])
    refine ⟨_, rfl, [.val (scrD ns), .val tapeD, .val (nI n), .val (pL ps), .val (W n ps), .val (lT (setsT n)), .val (tN s1), .val (tN s2), .val (tN (xs2 n s1 s2)), .un, .val (lT ((setsT n).map (tn n ps))), .val (tN (canon n q)), .val (lT (quietL n ps)), .val (tN L), .val (lT (goodL n ps L)), .val (lT (agL n ps L)), .val (.str wd), .val (tN th), v1, g1, .val (lT (goodL n ps (allL n))), .val (.list (B.map (encR n))), .val (.list (QL n Q)), .val (lN (B.map (·.lead))), .un, .un, .val (lT ((sp2 (pre ++ [q])).map (canon n))), .un], ?_, _, rfl⟩
    simp only [List.set_cons_succ, List.set_cons_zero]
    unfold bo25
    rw [sSet_r, slV_r, eBin_r, eFl_r, comp_a (enc := fun v => tN (canon n v)) (xs := sp2 pre) (g := fun v => tN (canon n (ad q v)))]
    · have p6 : 2 ^ pre.length ≤ 2 ^ 6 := Nat.pow_le_pow_right (by decide) (by omega)
      simp only [eBor_r, getB_s, getB_0, bnd_ret]
      unfold lT
      rw [app_l (by simp only [List.length_map, sp_len]; omega), bnd_ret, bnd_ret]
      have : ((sp2 (pre ++ [q])).map (canon n)).map tN = ((sp2 pre).map (canon n)).map tN ++ (sp2 pre).map fun v => tN (canon n (ad q v)) := by
        rw [sp_app, List.map_append, List.map_append]
        congr 1
        rw [List.map_map, List.map_map]
        rfl
      rw [this]
      rfl
    · simp only [iSeq_r, eBor_r, getB_s, getB_0, bnd_ret, seqM_lT, List.map_map]
      rfl
    · intro v hv
      have sv := sup_sp spre v hv
      simp only [bodyC_nm, wipe_cons, wipe_nil, List.set_cons_succ, List.set_cons_zero, tYes_r, bnd_ret, if_true, eCall_r, aCons_r, eFl_r]
      rw [comp_f (enc := nI) (xs := List.range n) (p := ad q v) (g := nI)]
      · rfl
      · exact range1_r (by simp) (by omega)
      · intro k hk
        have hk := List.mem_range.mp hk
        simp only [bodyC_nm, wipe_cons, wipe_nil, List.set_cons_succ, List.set_cons_zero, tBool_r, eBin_r, eBor_r, getB_s, getB_0, bnd_ret, in_tN, in_canon hk, ne_bool, truB_r, eVar_r, getV_s, getV_0]
        rfl
theorem sorted_eq {α : Type} {r : α → α → Prop} (anti : ∀ a b, r a b → r b a → a = b) : ∀ {l m : List α}, l.Pairwise r → m.Pairwise r → l.Perm m → l = m
  | [], m, _, _, p => (List.Perm.nil_eq p)
  | a :: l, m, hl, hm, p => by
    cases m with
    | nil => exact absurd p.length_eq (by simp)
    | cons b m =>
      have e : a = b := by
        have ha : a ∈ b :: m := p.mem_iff.mp List.mem_cons_self
        have hb : b ∈ a :: l := p.mem_iff.mpr List.mem_cons_self
        rcases List.mem_cons.mp ha with e | ha
        · exact e
        · rcases List.mem_cons.mp hb with e | hb
          · exact e.symm
          · exact anti a b ((List.pairwise_cons.mp hl).1 b hb) ((List.pairwise_cons.mp hm).1 a ha)
      subst e
      rw [sorted_eq anti (List.pairwise_cons.mp hl).2 (List.pairwise_cons.mp hm).2 (List.perm_cons a |>.mp p)]
def leN (a b : List Nat) : Bool := leD (tN a) (tN b)
theorem leN_iff {a b : List Nat} : leN a b = true ↔ ¬ castL b < castL a := by
  have e : leN a b = !PySem.W.dataLt (tN b) (tN a) := rfl
  rw [e, dlt_tN]
  simp
theorem sortedL {M : List (List Nat)} : sortedM [lT M] = ret ((M.mergeSort leN).map tN) := by
  have hE : sortE (M.map tN) = true := by
    unfold sortE alikeB
    rw [Bool.and_eq_true, Bool.or_eq_true]
    refine ⟨List.all_eq_true.mpr fun d hd => ?_, .inl (List.all_eq_true.mpr fun d hd => ?_)⟩
    · obtain ⟨s, _, rfl⟩ := List.mem_map.mp hd
      obtain ⟨c1, c2⟩ := ok_tN s
      rw [Bool.and_eq_true, Bool.and_eq_true]
      refine ⟨⟨c1, decide_eq_true (by omega)⟩, List.all_eq_true.mpr fun d hd => ?_⟩
      obtain ⟨t, _, rfl⟩ := List.mem_map.mp hd
      exact alike_tN s t
    · obtain ⟨s, _, rfl⟩ := List.mem_map.mp hd
      rfl
  have e : sortedM [lT M] = if sortE (M.map tN) = true then ret (sortL (M.map tN)) else bad := rfl
  rw [e, if_pos hE]
  unfold sortL
  rw [List.map_mergeSort (r := leN) (s := leD) (f := tN) fun a _ b _ => rfl]
theorem sort_perm {X Y : List (List Nat)} (p : X.Perm Y) : X.mergeSort leN = Y.mergeSort leN := by
  have tr : ∀ a b c, leN a b = true → leN b c = true → leN a c = true := fun a b c h1 h2 => by
    rw [leN_iff] at h1 h2 ⊢
    exact List.not_lt.mpr (List.le_trans (List.not_lt.mp h1) (List.not_lt.mp h2))
  have tot : ∀ a b, (leN a b || leN b a) = true := fun a b => by
    rw [Bool.or_eq_true, leN_iff, leN_iff]
    rcases List.le_total (castL a) (castL b) with q | q
    · exact .inl (List.not_lt.mpr q)
    · exact .inr (List.not_lt.mpr q)
  refine sorted_eq (r := fun a b => leN a b = true) (fun a b h1 h2 => ?_) (List.pairwise_mergeSort (le := leN) tr tot X) (List.pairwise_mergeSort (le := leN) tr tot Y) ((List.mergeSort_perm X leN).trans (p.trans (List.mergeSort_perm Y leN).symm))
  rw [leN_iff] at h1 h2
  exact cast_inj (List.le_antisymm (List.not_lt.mp h1) (List.not_lt.mp h2))
theorem st26_r (P : PR2 n ps B Q) : st26 [.val (scrD ns), .val tapeD, .val (nI n), .val (pL ps), .val (W n ps), .val (lT (setsT n)), .val (tN s1), .val (tN s2), .val (tN (xs2 n s1 s2)), .un, .val (lT ((setsT n).map (tn n ps))), o1, .val (lT (quietL n ps)), .val (tN L), .val (lT (goodL n ps L)), .val (lT (agL n ps L)), .val (.str wd), .val (tN th), v1, g1, .val (lT (goodL n ps (allL n))), .val (.list (B.map (encR n))), .val (.list (QL n Q)), .val (lN (B.map (·.lead))), .un, .un, .val (lT ((sp2 Q).map (canon n))), .un] = ret (.nx [.val (scrD ns), .val tapeD, .val (nI n), .val (pL ps), .val (W n ps), .val (lT (setsT n)), .val (tN s1), .val (tN s2), .val (tN (xs2 n s1 s2)), .un, .val (lT ((setsT n).map (tn n ps))), o1, .val (lT (quietL n ps)), .val (tN L), .val (lT (goodL n ps L)), .val (lT (agL n ps L)), .val (.str wd), .val (tN th), v1, g1, .val (lT (goodL n ps (allL n))), .val (.list (B.map (encR n))), .val (.list (QL n Q)), .val (lN (B.map (·.lead))), .un, .un, .val (lT ((sp2 Q).map (canon n))), .un]) := by
  have p := sort_perm (quiet_perm P.el P.ech)
  have e1 : ∀ M : List (List Nat), PyData.list ((M.mergeSort leN).map tN) = lT (M.mergeSort leN) := fun _ => rfl
  unfold st26 co26
  rw [if_f]
  · rfl
  · simp only [tBool_r, eBin_r, eFl_r, aCall_r, aCons_r, eBor_r, getB_s, getB_0, bnd_ret, aNil_r, sortedL, p, e1, ne_self (ok_lT _), truB_r]
/-! ### what is refused -/
theorem is_count_neg : m_is_count [.int (-1)] = ret (.bool false) := by kernel_rfl
theorem state_set_neg : m_is_state_set [.tuple [.int (-1)], nI n] = ret (.bool false) := by
  show bnd (s_is_state_set [.val (.tuple [.int (-1)]), .val (nI n), .un, .un]) finM = _
  unfold s_is_state_set
  rw [seq_rt (.bool false) (by
    have e1 : eComp [2] (.nm 2) tYesM (eAnd (eCall m_is_count (aCons (eVar 2) aNil)) (eBin (cmpM .Lt) (eBor 2) (eBor 1))) (iSeq (eBor 0)) [.val (.tuple [.int (-1)]), .val (nI n), .un, .un] = ret [.bool false] := by
      rw [comp_a (enc := PyData.int) (xs := [-1]) (g := fun _ => .bool false)]
      · rfl
      · rfl
      · intro x hx
        simp at hx
        subst hx
        simp only [bodyC_nm, wipe_cons, wipe_nil, List.set_cons_succ, List.set_cons_zero, tYes_r, bnd_ret, if_true, eAnd_r, eCall_r, aCons_r, eVar_r, getV_s, getV_0, aNil_r, is_count_neg, truM_b, Bool.false_eq_true, if_false]
    rw [if_t (by simp [isi_tuple, e1]; rfl)]
    simp)]
  simp
theorem refused_k {v : D} (h : m_is_state_set [v, nI n] = ret (.bool false)) {k : Nat} (hk : k < 5) : m__law_refused [nI k, W n ps, v] = ret .none := by
  have q0 : cmpM .Eq (nI k) (.int 0) = ret (.bool (decide (k = 0))) := eq_nI (b := 0)
  have q1 : cmpM .Eq (nI k) (.int 1) = ret (.bool (decide (k = 1))) := eq_nI (b := 1)
  have q2 : cmpM .Eq (nI k) (.int 2) = ret (.bool (decide (k = 2))) := eq_nI (b := 2)
  have q3 : cmpM .Eq (nI k) (.int 3) = ret (.bool (decide (k = 3))) := eq_nI (b := 3)
  unfold m__law_refused
  rw [def3]
  unfold s__law_refused
  rw [try_thr (d := .none)]
  · rfl
  · rw [sSeq_r]
    have : k = 0 ∨ k = 1 ∨ k = 2 ∨ k = 3 ∨ k = 4 := by omega
    rcases this with rfl | rfl | rfl | rfl | rfl
    · rw [if_t (by simp [q0])]
      simp [turned_no h]
    · rw [if_f (by simp [q0]), if_t (by simp [q1])]
      simp [presses_no h]
    · rw [if_f (by simp [q0]), if_f (by simp [q1]), if_t (by simp [q2])]
      simp [least_no h]
    · rw [if_f (by simp [q0]), if_f (by simp [q1]), if_f (by simp [q2]), if_t (by simp [q3])]
      simp [press_no1 h]
    · rw [if_f (by simp [q0]), if_f (by simp [q1]), if_f (by simp [q2]), if_f (by simp [q3])]
      simp [press_no2 h]
theorem rep5n : repLM (.list [.none]) (.int 5) = ret [.none, .none, .none, .none, .none] := by rfl
theorem st27_r : ∃ v2 : Slot, st27 [.val (scrD ns), .val tapeD, .val (nI n), .val (pL ps), .val (W n ps), .val (lT (setsT n)), .val (tN s1), .val (tN s2), .val (tN (xs2 n s1 s2)), .un, .val (lT ((setsT n).map (tn n ps))), o1, .val (lT (quietL n ps)), .val (tN L), .val (lT (goodL n ps L)), .val (lT (agL n ps L)), .val (.str wd), .val (tN th), v1, g1, .val (lT (goodL n ps (allL n))), .val (.list (B.map (encR n))), .val (.list (QL n Q)), .val (lN (B.map (·.lead))), .un, .un, .val (lT ((sp2 Q).map (canon n))), .un] = ret (.nx [.val (scrD ns), .val tapeD, .val (nI n), .val (pL ps), .val (W n ps), .val (lT (setsT n)), .val (tN s1), .val (tN s2), .val (tN (xs2 n s1 s2)), .un, .val (lT ((setsT n).map (tn n ps))), o1, .val (lT (quietL n ps)), .val (tN L), .val (lT (goodL n ps L)), .val (lT (agL n ps L)), .val (.str wd), .val (tN th), v2, g1, .val (lT (goodL n ps (allL n))), .val (.list (B.map (encR n))), .val (.list (QL n Q)), .val (lN (B.map (·.lead))), .un, .un, .val (lT ((sp2 Q).map (canon n))), .un]) := by
  let vs : List D := [.none, .tuple [nI n], .tuple [.int 0, .int 0], .list [.int 0], .tuple [.int (0 - 1)], .tuple [.bool true]]
  have ok : ∀ v ∈ vs, m_is_state_set [v, nI n] = ret (.bool false) := fun v hv => by
    simp only [vs, List.mem_cons, List.not_mem_nil, or_false] at hv
    rcases hv with rfl | rfl | rfl | rfl | rfl | rfl
    · exact state_set_none
    · have := state_set_r (n := n) (s := [n]) (by simp)
      refine this.trans ?_
      rw [decide_eq_false]
      intro z
      have := (sets_mem.mp z).2 n (by simp)
      omega
    · have := state_set_r (n := n) (s := [0, 0]) (by simp)
      refine this.trans ?_
      rw [decide_eq_false]
      intro z
      have := (sets_mem.mp z).1
      simp at this
    · exact state_set_list
    · exact state_set_neg
    · exact state_set_true
  have lp := for_inv (tg := .nm 18) (xs := vs) (ρ := [.val (scrD ns), .val tapeD, .val (nI n), .val (pL ps), .val (W n ps), .val (lT (setsT n)), .val (tN s1), .val (tN s2), .val (tN (xs2 n s1 s2)), .un, .val (lT ((setsT n).map (tn n ps))), o1, .val (lT (quietL n ps)), .val (tN L), .val (lT (goodL n ps L)), .val (lT (agL n ps L)), .val (.str wd), .val (tN th), v1, g1, .val (lT (goodL n ps (allL n))), .val (.list (B.map (encR n))), .val (.list (QL n Q)), .val (lN (B.map (·.lead))), .un, .un, .val (lT ((sp2 Q).map (canon n))), .un]) (body := bo27) (fun ρ => ∃ v2 : Slot, ρ = [.val (scrD ns), .val tapeD, .val (nI n), .val (pL ps), .val (W n ps), .val (lT (setsT n)), .val (tN s1), .val (tN s2), .val (tN (xs2 n s1 s2)), .un, .val (lT ((setsT n).map (tn n ps))), o1, .val (lT (quietL n ps)), .val (tN L), .val (lT (goodL n ps L)), .val (lT (agL n ps L)), .val (.str wd), .val (tN th), v2, g1, .val (lT (goodL n ps (allL n))), .val (.list (B.map (encR n))), .val (.list (QL n Q)), .val (lN (B.map (·.lead))), .un, .un, .val (lT ((sp2 Q).map (canon n))), .un]) ?_ ⟨v1, rfl⟩
  · obtain ⟨ρ', e, v2, rfl⟩ := lp
    refine ⟨v2, ?_⟩
    have ei : it27 [.val (scrD ns), .val tapeD, .val (nI n), .val (pL ps), .val (W n ps), .val (lT (setsT n)), .val (tN s1), .val (tN s2), .val (tN (xs2 n s1 s2)), .un, .val (lT ((setsT n).map (tn n ps))), o1, .val (lT (quietL n ps)), .val (tN L), .val (lT (goodL n ps L)), .val (lT (agL n ps L)), .val (.str wd), .val (tN th), v1, g1, .val (lT (goodL n ps (allL n))), .val (.list (B.map (encR n))), .val (.list (QL n Q)), .val (lN (B.map (·.lead))), .un, .un, .val (lT ((sp2 Q).map (canon n))), .un] = ret vs := by rfl
    unfold st27
    rw [sFor_r, ei, bnd_ret, e]
  · rintro ρ ⟨v2, rfl⟩ v hv
    refine ⟨_, rfl, [.val (scrD ns), .val tapeD, .val (nI n), .val (pL ps), .val (W n ps), .val (lT (setsT n)), .val (tN s1), .val (tN s2), .val (tN (xs2 n s1 s2)), .un, .val (lT ((setsT n).map (tn n ps))), o1, .val (lT (quietL n ps)), .val (tN L), .val (lT (goodL n ps L)), .val (lT (agL n ps L)), .val (.str wd), .val (tN th), .val v, g1, .val (lT (goodL n ps (allL n))), .val (.list (B.map (encR n))), .val (.list (QL n Q)), .val (lN (B.map (·.lead))), .un, .un, .val (lT ((sp2 Q).map (canon n))), .un], ?_, _, rfl⟩
    simp only [List.set_cons_succ, List.set_cons_zero]
    have e3 : eComp [27] (.nm 27) tYesM (eCall m__law_refused (aCons (eVar 27) (aCons (eVar 4) (aCons (eVar 18) aNil)))) (eRange1 (eC (.int 5))) [.val (scrD ns), .val tapeD, .val (nI n), .val (pL ps), .val (W n ps), .val (lT (setsT n)), .val (tN s1), .val (tN s2), .val (tN (xs2 n s1 s2)), .un, .val (lT ((setsT n).map (tn n ps))), o1, .val (lT (quietL n ps)), .val (tN L), .val (lT (goodL n ps L)), .val (lT (agL n ps L)), .val (.str wd), .val (tN th), .val v, g1, .val (lT (goodL n ps (allL n))), .val (.list (B.map (encR n))), .val (.list (QL n Q)), .val (lN (B.map (·.lead))), .un, .un, .val (lT ((sp2 Q).map (canon n))), .un] = ret ((List.range 5).map fun _ => .none) := by
      rw [comp_a (enc := nI) (xs := List.range 5) (g := fun _ => .none)]
      · exact range1_r rfl (by omega)
      · intro k hk
        have q := refused_k (ps := ps) (ok v hv) (List.mem_range.mp hk)
        simp only [bodyC_nm, wipe_cons, wipe_nil, List.set_cons_succ, List.set_cons_zero, tYes_r, bnd_ret, if_true, eCall_r, aCons_r, eVar_r, getV_s, getV_0, aNil_r, q]
    have ok5 : Ok 1 (.list [PyData.none, .none, .none, .none, .none]) := ok_lst fun d hd => by
      simp only [List.mem_cons, List.not_mem_nil, or_false, or_self] at hd
      subst hd
      exact ok_none
    have e4 : aRep (eFl (aCons (eC .none) aNil)) (eC (.int 5)) [.val (scrD ns), .val tapeD, .val (nI n), .val (pL ps), .val (W n ps), .val (lT (setsT n)), .val (tN s1), .val (tN s2), .val (tN (xs2 n s1 s2)), .un, .val (lT ((setsT n).map (tn n ps))), o1, .val (lT (quietL n ps)), .val (tN L), .val (lT (goodL n ps L)), .val (lT (agL n ps L)), .val (.str wd), .val (tN th), .val v, g1, .val (lT (goodL n ps (allL n))), .val (.list (B.map (encR n))), .val (.list (QL n Q)), .val (lN (B.map (·.lead))), .un, .un, .val (lT ((sp2 Q).map (canon n))), .un] = ret [.none, .none, .none, .none, .none] := rep5n
    unfold bo27
    rw [if_f]
    · rfl
    · rw [tBool_r, eBin_r, eFl_r, eFl_r, e3, e4]
      simp only [bnd_ret]
      rw [show PyData.list ((List.range 5).map fun _ => PyData.none) = .list [PyData.none, .none, .none, .none, .none] from rfl, ne_self ok5]
      rfl
end
theorem law_true (ns : List Int) (hlen : ns.length ≤ 63) (hb : Bits ns) : ∃ t, m_law [scrD ns] none = .ok (.bool true) t := by
  have hl : ns.length ≤ 1000 := by omega
  obtain ⟨n, t1, hn, ht1, ed1⟩ := draw_r hb hl (b := 0) (size := 7) (t := some [nI 0, .int 0]) ⟨0, 0, rfl, Nat.le_refl _⟩ (by decide) (by decide) (by decide)
  obtain ⟨d3, t2, hd3, ht2, ed3⟩ := draw_r hb hl (size := 3) ht1 (by decide) (by decide) (by decide)
  obtain ⟨ps, t3, h, ht3, eps⟩ := pairs_r hb hl (n := n) (d := 1 + d3) ht2 (by decide) (by omega)
  have hn10 : n ≤ 10 := by omega
  have hn6 : n ≤ 6 := by omega
  have nn : n * n ≤ 6 * 6 := Nat.mul_le_mul hn6 hn6
  have hsl : (setsT n).length = 2 ^ n := sets_len
  have p1 : 1 ≤ 2 ^ n := Nat.one_le_two_pow
  have p2 : 2 ^ n ≤ 2 ^ 10 := Nat.pow_le_pow_right (by decide) hn10
  have p3 : (2 : Nat) ^ 10 = 1024 := by decide
  obtain ⟨i1, t4, hi1, ht4, ei1⟩ := draw_r hb hl (size := (setsT n).length) ht3 (by omega) (by omega) (by omega)
  obtain ⟨i2, t5, hi2, ht5, ei2⟩ := draw_r hb hl (size := (setsT n).length) ht4 (by omega) (by omega) (by omega)
  obtain ⟨d6, t6, hd6, ht6, ed6⟩ := draw_r hb hl (size := 2) ht5 (by omega) (by decide) (by decide)
  let s1 := (setsT n)[i1]
  let s2 := (setsT n)[i2]
  have h1 : s1 ∈ setsT n := List.getElem_mem hi1
  have h2 : s2 ∈ setsT n := List.getElem_mem hi2
  have e1 : (setsT n)[i1]? = some s1 := List.getElem?_eq_getElem hi1
  have e2 : (setsT n)[i2]? = some s2 := List.getElem?_eq_getElem hi2
  have ed1' : m__law_draw [tapeD, scrD ns, .int 7] (some [nI 0, .int 0]) = .ok (nI n) t1 := ed1
  have ed3' : m__law_draw [tapeD, scrD ns, .int 3] t1 = .ok (nI d3) t2 := ed3
  have ed6' : m__law_draw [tapeD, scrD ns, .int 2] t5 = .ok (nI d6) t6 := ed6
  obtain ⟨B, Q, P⟩ := press_rows_r h (by omega : n ≤ 100)
  obtain ⟨L, hL, e12⟩ : ∃ L, L ∈ setsT n ∧ st12 [.val (scrD ns), .val tapeD, .val (nI n), .val (pL ps), .val (W n ps), .val (lT (setsT n)), .val (tN s1), .val (tN s2), .val (tN (xs2 n s1 s2)), .un, .val (lT ((setsT n).map (tn n ps))), .un, .val (lT (quietL n ps)), .val (tN s2), .un, .un, .un, .un, .un, .un, .un, .un, .un, .un, .un, .un, .un, .un] t5 = .ok (.nx [.val (scrD ns), .val tapeD, .val (nI n), .val (pL ps), .val (W n ps), .val (lT (setsT n)), .val (tN s1), .val (tN s2), .val (tN (xs2 n s1 s2)), .un, .val (lT ((setsT n).map (tn n ps))), .un, .val (lT (quietL n ps)), .val (tN L), .un, .un, .un, .un, .un, .un, .un, .un, .un, .un, .un, .un, .un, .un]) t6 := by
    by_cases q : d6 = 0
    · refine ⟨tn n ps s1, tn_sets, ?_⟩
      unfold st12 co12
      rw [ift_t (t' := t6) (by
        simp only [tBool_r, eBin_r, eCall_r, aCons_r, eVar_r, getV_s, getV_0, bnd_ret, eC_r, aNil_r, bnd_t, ed6', obnd_ok, eq_n0, ret_t, decide_eq_true q]
        rfl)]
      simp only [sSet_r, slV_r, eCall_r, aCons_r, eVar_r, getV_s, getV_0, bnd_ret, aNil_r, law_turned_r h (by omega : n ≤ 100), ret_t]
      rfl
    · refine ⟨s2, h2, ?_⟩
      unfold st12 co12
      rw [iff_t (t' := t6) (by
        simp only [tBool_r, eBin_r, eCall_r, aCons_r, eVar_r, getV_s, getV_0, bnd_ret, eC_r, aNil_r, bnd_t, ed6', obnd_ok, eq_n0, ret_t, decide_eq_false q]
        rfl)]
      rfl
  obtain ⟨wd, th, a, e15⟩ := ans_ex P hn10 hL
  obtain ⟨v1, g1, e18⟩ := st18_r (ns := ns) (s1 := s1) (s2 := s2) (L := L) (th := th) (wd := wd) h hn6 h1 h2 (ans_set a)
  obtain ⟨o1, e25⟩ := st25_r (ns := ns) (s1 := s1) (s2 := s2) (L := L) (th := th) (wd := wd) (v1 := v1) (g1 := g1) P hn6
  obtain ⟨v2, e27⟩ := st27_r (n := n) (ps := ps) (B := B) (Q := Q) (ns := ns) (s1 := s1) (s2 := s2) (L := L) (th := th) (wd := wd) (v1 := v1) (g1 := g1) (o1 := o1)
  refine ⟨t6, ?_⟩
  show bnd (s_law [.val (scrD ns), .un, .un, .un, .un, .un, .un, .un, .un, .un, .un, .un, .un, .un, .un, .un, .un, .un, .un, .un, .un, .un, .un, .un, .un, .un, .un, .un]) finM none = _
  rw [bnd_t, law_chain]
  rw [seq_t (ρ' := [.val (scrD ns), .val tapeD, .un, .un, .un, .un, .un, .un, .un, .un, .un, .un, .un, .un, .un, .un, .un, .un, .un, .un, .un, .un, .un, .un, .un, .un, .un, .un]) (t' := some [nI 0, .int 0]) rfl]
  rw [seq_t (ρ' := [.val (scrD ns), .val tapeD, .val (nI n), .un, .un, .un, .un, .un, .un, .un, .un, .un, .un, .un, .un, .un, .un, .un, .un, .un, .un, .un, .un, .un, .un, .un, .un, .un]) (t' := t1) (by
    unfold st2
    simp only [sSet_r, slV_r, eCall_r, aCons_r, eVar_r, getV_s, getV_0, bnd_ret, eC_r, aNil_r, bnd_t, ed1', obnd_ok, ret_t]
    rfl)]
  rw [seq_t (ρ' := [.val (scrD ns), .val tapeD, .val (nI n), .val (pL ps), .un, .un, .un, .un, .un, .un, .un, .un, .un, .un, .un, .un, .un, .un, .un, .un, .un, .un, .un, .un, .un, .un, .un, .un]) (t' := t3) (by
    unfold st3
    simp only [sSet_r, slV_r, eCall_r, aCons_r, eBin_r, eVar_r, getV_s, getV_0, eBor_r, getB_s, getB_0, bnd_ret, eC_r, aNil_r, bnd_t, ed3', obnd_ok, add_1n, ret_t, eps]
    rfl)]
  rw [seq_p [.val (scrD ns), .val tapeD, .val (nI n), .val (pL ps), .val (W n ps), .un, .un, .un, .un, .un, .un, .un, .un, .un, .un, .un, .un, .un, .un, .un, .un, .un, .un, .un, .un, .un, .un, .un] (by unfold st4; simp [init_r h (by omega)])]
  rw [seq_p [.val (scrD ns), .val tapeD, .val (nI n), .val (pL ps), .val (W n ps), .val (lT (setsT n)), .un, .un, .un, .un, .un, .un, .un, .un, .un, .un, .un, .un, .un, .un, .un, .un, .un, .un, .un, .un, .un, .un] (by unfold st5; simp [sets_r hn10])]
  rw [seq_t (ρ' := [.val (scrD ns), .val tapeD, .val (nI n), .val (pL ps), .val (W n ps), .val (lT (setsT n)), .val (tN s1), .val (tN s2), .un, .un, .un, .un, .un, .un, .un, .un, .un, .un, .un, .un, .un, .un, .un, .un, .un, .un, .un, .un]) (t' := t5) (by
    unfold st6
    simp only [sPar_r, aScons_r, slV_r, eBin_r, eCall_r, aCons_r, eVar_r, getV_s, getV_0, eBor_r, getB_s, getB_0, bnd_ret, aNil_r, len_lT, bnd_t, ei1, ei2, obnd_ok, ix_lT e1, ix_lT e2, ret_t, aSnil_r, setsE_c, setsE_n]
    rfl)]
  rw [seq_p [.val (scrD ns), .val tapeD, .val (nI n), .val (pL ps), .val (W n ps), .val (lT (setsT n)), .val (tN s1), .val (tN s2), .val (tN (xs2 n s1 s2)), .un, .un, .un, .un, .un, .un, .un, .un, .un, .un, .un, .un, .un, .un, .un, .un, .un, .un, .un] (st7_r hn10)]
  rw [seq_p [.val (scrD ns), .val tapeD, .val (nI n), .val (pL ps), .val (W n ps), .val (lT (setsT n)), .val (tN s1), .val (tN s2), .val (tN (xs2 n s1 s2)), .un, .un, .un, .un, .un, .un, .un, .un, .un, .un, .un, .un, .un, .un, .un, .un, .un, .un, .un] (st8_r h hn10 h1 h2)]
  rw [seq_p [.val (scrD ns), .val tapeD, .val (nI n), .val (pL ps), .val (W n ps), .val (lT (setsT n)), .val (tN s1), .val (tN s2), .val (tN (xs2 n s1 s2)), .un, .val (lT ((setsT n).map (tn n ps))), .un, .un, .un, .un, .un, .un, .un, .un, .un, .un, .un, .un, .un, .un, .un, .un, .un] (st9_r h hn10)]
  rw [seq_p [.val (scrD ns), .val tapeD, .val (nI n), .val (pL ps), .val (W n ps), .val (lT (setsT n)), .val (tN s1), .val (tN s2), .val (tN (xs2 n s1 s2)), .un, .val (lT ((setsT n).map (tn n ps))), .un, .val (lT (quietL n ps)), .un, .un, .un, .un, .un, .un, .un, .un, .un, .un, .un, .un, .un, .un, .un] (st10_r hn10)]
  rw [seq_p [.val (scrD ns), .val tapeD, .val (nI n), .val (pL ps), .val (W n ps), .val (lT (setsT n)), .val (tN s1), .val (tN s2), .val (tN (xs2 n s1 s2)), .un, .val (lT ((setsT n).map (tn n ps))), .un, .val (lT (quietL n ps)), .val (tN s2), .un, .un, .un, .un, .un, .un, .un, .un, .un, .un, .un, .un, .un, .un] (by unfold st11; simp)]
  rw [seq_t (ρ' := [.val (scrD ns), .val tapeD, .val (nI n), .val (pL ps), .val (W n ps), .val (lT (setsT n)), .val (tN s1), .val (tN s2), .val (tN (xs2 n s1 s2)), .un, .val (lT ((setsT n).map (tn n ps))), .un, .val (lT (quietL n ps)), .val (tN L), .un, .un, .un, .un, .un, .un, .un, .un, .un, .un, .un, .un, .un, .un]) (t' := t6) e12]
  rw [seq_p [.val (scrD ns), .val tapeD, .val (nI n), .val (pL ps), .val (W n ps), .val (lT (setsT n)), .val (tN s1), .val (tN s2), .val (tN (xs2 n s1 s2)), .un, .val (lT ((setsT n).map (tn n ps))), .un, .val (lT (quietL n ps)), .val (tN L), .val (lT (goodL n ps L)), .un, .un, .un, .un, .un, .un, .un, .un, .un, .un, .un, .un, .un] (st13_r hn10)]
  rw [seq_p [.val (scrD ns), .val tapeD, .val (nI n), .val (pL ps), .val (W n ps), .val (lT (setsT n)), .val (tN s1), .val (tN s2), .val (tN (xs2 n s1 s2)), .un, .val (lT ((setsT n).map (tn n ps))), .un, .val (lT (quietL n ps)), .val (tN L), .val (lT (goodL n ps L)), .val (lT (agL n ps L)), .un, .un, .un, .un, .un, .un, .un, .un, .un, .un, .un, .un] st14_r]
  rw [seq_p [.val (scrD ns), .val tapeD, .val (nI n), .val (pL ps), .val (W n ps), .val (lT (setsT n)), .val (tN s1), .val (tN s2), .val (tN (xs2 n s1 s2)), .un, .val (lT ((setsT n).map (tn n ps))), .un, .val (lT (quietL n ps)), .val (tN L), .val (lT (goodL n ps L)), .val (lT (agL n ps L)), .val (.str wd), .val (tN th), .un, .un, .un, .un, .un, .un, .un, .un, .un, .un] (st15_r e15)]
  rw [seq_p [.val (scrD ns), .val tapeD, .val (nI n), .val (pL ps), .val (W n ps), .val (lT (setsT n)), .val (tN s1), .val (tN s2), .val (tN (xs2 n s1 s2)), .un, .val (lT ((setsT n).map (tn n ps))), .un, .val (lT (quietL n ps)), .val (tN L), .val (lT (goodL n ps L)), .val (lT (agL n ps L)), .val (.str wd), .val (tN th), .un, .un, .un, .un, .un, .un, .un, .un, .un, .un] (st16_r a)]
  rw [seq_p [.val (scrD ns), .val tapeD, .val (nI n), .val (pL ps), .val (W n ps), .val (lT (setsT n)), .val (tN s1), .val (tN s2), .val (tN (xs2 n s1 s2)), .un, .val (lT ((setsT n).map (tn n ps))), .un, .val (lT (quietL n ps)), .val (tN L), .val (lT (goodL n ps L)), .val (lT (agL n ps L)), .val (.str wd), .val (tN th), .un, .un, .un, .un, .un, .un, .un, .un, .un, .un] (st17_r P hn6 hL)]
  rw [seq_p [.val (scrD ns), .val tapeD, .val (nI n), .val (pL ps), .val (W n ps), .val (lT (setsT n)), .val (tN s1), .val (tN s2), .val (tN (xs2 n s1 s2)), .un, .val (lT ((setsT n).map (tn n ps))), .un, .val (lT (quietL n ps)), .val (tN L), .val (lT (goodL n ps L)), .val (lT (agL n ps L)), .val (.str wd), .val (tN th), v1, g1, .un, .un, .un, .un, .un, .un, .un, .un] e18]
  rw [seq_p [.val (scrD ns), .val tapeD, .val (nI n), .val (pL ps), .val (W n ps), .val (lT (setsT n)), .val (tN s1), .val (tN s2), .val (tN (xs2 n s1 s2)), .un, .val (lT ((setsT n).map (tn n ps))), .un, .val (lT (quietL n ps)), .val (tN L), .val (lT (goodL n ps L)), .val (lT (agL n ps L)), .val (.str wd), .val (tN th), v1, g1, .val (lT (goodL n ps (allL n))), .un, .un, .un, .un, .un, .un, .un] (st19_r h hn6)]
  rw [seq_p [.val (scrD ns), .val tapeD, .val (nI n), .val (pL ps), .val (W n ps), .val (lT (setsT n)), .val (tN s1), .val (tN s2), .val (tN (xs2 n s1 s2)), .un, .val (lT ((setsT n).map (tn n ps))), .un, .val (lT (quietL n ps)), .val (tN L), .val (lT (goodL n ps L)), .val (lT (agL n ps L)), .val (.str wd), .val (tN th), v1, g1, .val (lT (goodL n ps (allL n))), .un, .un, .un, .un, .un, .un, .un] (st20_r P hn6)]
  rw [seq_p [.val (scrD ns), .val tapeD, .val (nI n), .val (pL ps), .val (W n ps), .val (lT (setsT n)), .val (tN s1), .val (tN s2), .val (tN (xs2 n s1 s2)), .un, .val (lT ((setsT n).map (tn n ps))), .un, .val (lT (quietL n ps)), .val (tN L), .val (lT (goodL n ps L)), .val (lT (agL n ps L)), .val (.str wd), .val (tN th), v1, g1, .val (lT (goodL n ps (allL n))), .val (.list (B.map (encR n))), .val (.list (QL n Q)), .un, .un, .un, .un, .un] (st21_r P)]
  rw [seq_p [.val (scrD ns), .val tapeD, .val (nI n), .val (pL ps), .val (W n ps), .val (lT (setsT n)), .val (tN s1), .val (tN s2), .val (tN (xs2 n s1 s2)), .un, .val (lT ((setsT n).map (tn n ps))), .un, .val (lT (quietL n ps)), .val (tN L), .val (lT (goodL n ps L)), .val (lT (agL n ps L)), .val (.str wd), .val (tN th), v1, g1, .val (lT (goodL n ps (allL n))), .val (.list (B.map (encR n))), .val (.list (QL n Q)), .val (lN (B.map (·.lead))), .un, .un, .un, .un] (st22_r P)]
  rw [seq_p [.val (scrD ns), .val tapeD, .val (nI n), .val (pL ps), .val (W n ps), .val (lT (setsT n)), .val (tN s1), .val (tN s2), .val (tN (xs2 n s1 s2)), .un, .val (lT ((setsT n).map (tn n ps))), .un, .val (lT (quietL n ps)), .val (tN L), .val (lT (goodL n ps L)), .val (lT (agL n ps L)), .val (.str wd), .val (tN th), v1, g1, .val (lT (goodL n ps (allL n))), .val (.list (B.map (encR n))), .val (.list (QL n Q)), .val (lN (B.map (·.lead))), .un, .un, .un, .un] (st23_r h P hn6)]
  rw [seq_p [.val (scrD ns), .val tapeD, .val (nI n), .val (pL ps), .val (W n ps), .val (lT (setsT n)), .val (tN s1), .val (tN s2), .val (tN (xs2 n s1 s2)), .un, .val (lT ((setsT n).map (tn n ps))), .un, .val (lT (quietL n ps)), .val (tN L), .val (lT (goodL n ps L)), .val (lT (agL n ps L)), .val (.str wd), .val (tN th), v1, g1, .val (lT (goodL n ps (allL n))), .val (.list (B.map (encR n))), .val (.list (QL n Q)), .val (lN (B.map (·.lead))), .un, .un, .val (lT [[]]), .un] (by unfold st24; simp [lT])]
  rw [seq_p [.val (scrD ns), .val tapeD, .val (nI n), .val (pL ps), .val (W n ps), .val (lT (setsT n)), .val (tN s1), .val (tN s2), .val (tN (xs2 n s1 s2)), .un, .val (lT ((setsT n).map (tn n ps))), o1, .val (lT (quietL n ps)), .val (tN L), .val (lT (goodL n ps L)), .val (lT (agL n ps L)), .val (.str wd), .val (tN th), v1, g1, .val (lT (goodL n ps (allL n))), .val (.list (B.map (encR n))), .val (.list (QL n Q)), .val (lN (B.map (·.lead))), .un, .un, .val (lT ((sp2 Q).map (canon n))), .un] e25]
  rw [seq_p [.val (scrD ns), .val tapeD, .val (nI n), .val (pL ps), .val (W n ps), .val (lT (setsT n)), .val (tN s1), .val (tN s2), .val (tN (xs2 n s1 s2)), .un, .val (lT ((setsT n).map (tn n ps))), o1, .val (lT (quietL n ps)), .val (tN L), .val (lT (goodL n ps L)), .val (lT (agL n ps L)), .val (.str wd), .val (tN th), v1, g1, .val (lT (goodL n ps (allL n))), .val (.list (B.map (encR n))), .val (.list (QL n Q)), .val (lN (B.map (·.lead))), .un, .un, .val (lT ((sp2 Q).map (canon n))), .un] (st26_r P)]
  rw [seq_p [.val (scrD ns), .val tapeD, .val (nI n), .val (pL ps), .val (W n ps), .val (lT (setsT n)), .val (tN s1), .val (tN s2), .val (tN (xs2 n s1 s2)), .un, .val (lT ((setsT n).map (tn n ps))), o1, .val (lT (quietL n ps)), .val (tN L), .val (lT (goodL n ps L)), .val (lT (agL n ps L)), .val (.str wd), .val (tN th), v2, g1, .val (lT (goodL n ps (allL n))), .val (.list (B.map (encR n))), .val (.list (QL n Q)), .val (lN (B.map (·.lead))), .un, .un, .val (lT ((sp2 Q).map (canon n))), .un] e27]
  rfl
end Kw
theorem PySem.Challenge.cw_keepwebs_k34_whole_odd_keeping_holds : PySem.Challenge.rw_keepwebs_k34_whole_odd_keeping.Holds := by
  exact Kw.holds_of fun ns hl hb => Kw.law_true ns hl (Kw.bits_of hb)
