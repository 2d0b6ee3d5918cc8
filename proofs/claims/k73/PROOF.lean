import PyProof.Rows.All
import Wide.All
import OpenK.AllK
import Wide.FinOn
import HandS.ForMost
import HandS.ForExc
import HandS.Lambda
import HandS.Iter
import HandS.Defaults
import HandS.TupAny
import HandS.TupMul
import HandS.Wide
import HandS.IsInst
import HandS.SortInts
import KE.DataCmp
import HandS.TryOnly
import HandS.Style
import HandS.Strs
import HandS.Deep
import HandS.ExcIs
import PyProof.ReprRoads
import PyProof.ReprBulk
import PyProof.SumAny
import PyProof.ListOps
import HandS.SetFor
import HandS.EndTab
import HandS.HeadWalk
import HandS.DictComp
import HandS.Small
import HandS.Zip
import HandS.TupLen
import HandS.Head0
import HandS.Head1
import HandS.Head2
import HandS.HeadEnd
import HandS.HeadHook1
import HandS.HeadHook2
import HandS.HeadHook3
import HandS.HeadHook4
import PySem.Challenge.RW_inkforall_k73_whole_growth_of_lines
-- DLcore
set_option Elab.async false
set_option linter.all false
set_option maxRecDepth 100000
set_option maxHeartbeats 2000000
set_option autoImplicit false
namespace DL
open PySem PySem.Spec L2

/-- a lambda: its text, the cells that it holds -/
structure Clo where
  qual : Str
  params : Arguments
  body : Expr
  scope : Scope
  cells : List (Str × Addr)
/-- what a value is, as a tree: no heap in sight -/
inductive D where
  | non | bl (b : Bool) | int (i : Int) | str (x : Str)
  | lst (xs : List D) | tup (xs : List D) | wt (xs : List D) | scr (ns : List Int)
  | dk (kvs : List (Key × D)) | dt (kvs : List (List Key × D))
  | obj (C : Addr) (fs : List (Str × D))
  | drw | ty (n : String) | cls (C : Addr) | fn (k : Clo) | exc (C : Addr)

/-- the world around: the law's draws (their dict, its two lists), tables of code objects -/
structure Wd (K : PySem.W.Frag) where
  dp : Addr
  lp : Addr
  cp : Addr
  cs : List Int
  T : List (Addr × Str)
  n1 : dp ≠ lp
  n2 : dp ≠ cp
  n3 : lp ≠ cp
section
variable {K : PySem.W.Frag} (W : Wd K)
def drawKv (lp cp : Addr) (r t : Int) : List (Key × V) := [(Sum.inr "large", V.ref lp), (Sum.inr "rest", V.int r), (Sum.inr "cells", V.ref cp), (Sum.inr "turn", V.int t)]
/-- the draws as they stand -/
def DrawOk (H : Hp) : Prop := ∃ (r t : Int) (ls : List Int), H W.dp = some (.dK (drawKv W.lp W.cp r t)) ∧ H W.lp = some (.lst (ls.map V.int)) ∧ H W.cp = some (.lst (W.cs.map V.int))
def Wd.ok (H : Hp) : Prop := DrawOk W H ∧ LamX.Tabs W.T H
def Wd.fv (a : Addr) : Prop := a = W.dp ∨ a = W.lp ∨ a = W.cp
theorem Wd.th {H : Hp} {a : Addr} (h : W.ok H) (v : W.fv a) : ∃ o, H a = some o := by
  obtain ⟨r, t, ls, h1, h2, h3⟩ := h.1
  rcases v with rfl | rfl | rfl
  · exact ⟨_, h1⟩
  · exact ⟨_, h2⟩
  · exact ⟨_, h3⟩
theorem Wd.fvx {H : Hp} {a : Addr} {φ : Heap → Prop} (h : W.ok H) (e : H a = some (.ext φ)) : ¬ W.fv a := by
  obtain ⟨r, t, ls, h1, h2, h3⟩ := h.1
  rintro (rfl | rfl | rfl)
  · rw [h1] at e; cases e
  · rw [h2] at e; cases e
  · rw [h3] at e; cases e
theorem Wd.st {H H' : Hp} (h : W.ok H) (k : ∀ a o, H a = some o → (W.fv a ∨ (∃ ps, o = .tbl ps) ∨ ∃ φ, o = .ext φ) → H' a = some o) : W.ok H' := by
  obtain ⟨⟨r, t, ls, h1, h2, h3⟩, hT⟩ := h
  refine ⟨⟨r, t, ls, k _ _ h1 (.inl (.inl rfl)), k _ _ h2 (.inl (.inr (.inl rfl))), k _ _ h3 (.inl (.inr (.inr rfl)))⟩, fun p hp => ?_⟩
  obtain ⟨ps, a1, a2, a3⟩ := hT p hp
  refine ⟨ps, k _ _ a1 (.inr (.inl ⟨_, rfl⟩)), a2, fun pos cv e => ?_⟩
  obtain ⟨c, e1, e2⟩ := a3 pos cv e
  exact ⟨c, e1, k _ _ e2 (.inr (.inr ⟨_, rfl⟩))⟩
theorem Wd.tabs {H : Hp} (h : W.ok H) : LamX.Tabs W.T H := h.2
theorem Wd.lam {H H' : Hp} (h : W.ok H) (e : LamX.ExtN H H') (t : LamX.Tabs W.T H') : W.ok H' := by
  obtain ⟨⟨r, t', ls, h1, h2, h3⟩, _⟩ := h
  exact ⟨⟨r, t', ls, e _ _ h1 (fun ps z => by cases z), e _ _ h2 (fun ps z => by cases z), e _ _ h3 (fun ps z => by cases z)⟩, t⟩
end
/-- the object of an exception that was caught -/
def ExcO (C : Addr) (a : Addr) : HO := .ext fun h => ∃ o, h.get? a = some o ∧ L2.Zc (.ref C) none o ∧ ∃ vs, o.data = .fields vs

/-- the function object of a lambda; its code object stands at c -/
def FnO (k : Clo) (c a : Addr) : HO := .ext fun h => ∃ pm ctv, h.get? a = some (PySem.W.kla_obj "<lambda>" k.qual k.params k.body k.scope k.cells pm c ctv)
mutual
inductive Rp {K : PySem.W.Frag} (W : Wd K) (B : Hp) : V → D → Prop
  | non : Rp W B .non .non
  | bl (b : Bool) : Rp W B (.bl b) (.bl b)
  | int (i : Int) : Rp W B (.int i) (.int i)
  | str (x : Str) : Rp W B (.str x) (.str x)
  | ty (n : String) : Rp W B (.ty n) (.ty n)
  | drw : Rp W B (.ref W.dp) .drw
  | cls (C : Addr) : Rp W B (.ref C) (.cls C)
  | fn (a c : Addr) (k : Clo) : B a = some (FnO k c a) → B c = some (LamX.CodeO c k.qual) → Rp W B (.ref a) (.fn k)
  | exc (a C : Addr) : B a = some (ExcO C a) → Rp W B (.ref a) (.exc C)
  | lst (a : Addr) (vs : List V) (ds : List D) : B a = some (.lst vs) → Rps W B vs ds → Rp W B (.ref a) (.lst ds)
  | scr (a : Addr) (vs : List V) (ns : List Int) : SqL K B a vs → vs = ns.map V.int → Rp W B (.ref a) (.scr ns)
  | tup (a : Addr) (vs : List V) (ds : List D) : B a = some (.tup vs) → Rps W B vs ds → Rp W B (.ref a) (.tup ds)
  | wt (a : Addr) (vs : List V) (ds : List D) : SqT K B a vs → Rps W B vs ds → Rp W B (.ref a) (.wt ds)
  | dk (a : Addr) (od : Obj) (kvs : List (Key × V)) (ds : List (Key × D)) : B a = some (.frz od (.dK kvs)) → kvs.map (·.1) = ds.map (·.1) → Rps W B (kvs.map (·.2)) (ds.map (·.2)) → Rp W B (.ref a) (.dk ds)
  | dt (a : Addr) (od : Obj) (kvs : List (List Key × V)) (ds : List (List Key × D)) : B a = some (.frz od (.dT kvs)) → kvs.map (·.1) = ds.map (·.1) → Rps W B (kvs.map (·.2)) (ds.map (·.2)) → Rp W B (.ref a) (.dt ds)
  | obj (a C dx : Addr) (fs : List (Str × V)) (ds : List (Str × D)) : B a = some (.ins C dx fs) → fs.map (·.1) = ds.map (·.1) → Rps W B (fs.map (·.2)) (ds.map (·.2)) → Rp W B (.ref a) (.obj C ds)
inductive Rps {K : PySem.W.Frag} (W : Wd K) (B : Hp) : List V → List D → Prop
  | nil : Rps W B [] []
  | cons (v : V) (d : D) (vs : List V) (ds : List D) : Rp W B v d → Rps W B vs ds → Rps W B (v :: vs) (d :: ds)
end

/-- what stands in the one stands in the other -/
def Sub (B B' : Hp) : Prop := ∀ a o, B a = some o → B' a = some o
theorem Sub.refl (B : Hp) : Sub B B := fun _ _ h => h
theorem Sub.trans {A B C : Hp} (h : Sub A B) (g : Sub B C) : Sub A C := fun a o e => g a o (h a o e)
theorem Sub.new {B : Hp} {p : Addr} {o : HO} (h : B p = none) : Sub B (upd B p o) := fun a u e => by
  rw [upd_ne (ne_of_none e h)]; exact e
theorem Sub.rd {B B' : Hp} {a : Addr} {u : HO} (e : Sub B B') (h : Rd B a u) : Rd B' a u := by
  rcases h with h | ⟨o, h⟩
  · exact .inl (e a _ h)
  · exact .inr ⟨o, e a _ h⟩
theorem Sub.sqL {K : PySem.W.Frag} {B B' : Hp} {a : Addr} {xs : List V} (e : Sub B B') (h : SqL K B a xs) : SqL K B' a xs := by
  rcases h with h | h
  · exact .inl (e.rd h)
  · exact .inr h
theorem Sub.sqT {K : PySem.W.Frag} {B B' : Hp} {a : Addr} {xs : List V} (e : Sub B B') (h : SqT K B a xs) : SqT K B' a xs := by
  rcases h with h | h
  · exact .inl (e.rd h)
  · exact .inr h
theorem Rp.mono {K : PySem.W.Frag} {W : Wd K} {B B' : Hp} {v : V} {d : D} (h : Rp W B v d) (e : Sub B B') : Rp W B' v d :=
  Rp.rec (motive_1 := fun v d _ => Rp W B' v d) (motive_2 := fun vs ds _ => Rps W B' vs ds) .non .bl .int .str .ty .drw .cls (fun a c k h g => .fn a c k (e _ _ h) (e _ _ g)) (fun a C h => .exc a C (e _ _ h))
    (fun a vs ds s _ ih => .lst a vs ds (e _ _ s) ih) (fun a vs ns s h => .scr a vs ns (e.sqL s) h) (fun a vs ds s _ ih => .tup a vs ds (e _ _ s) ih) (fun a vs ds s _ ih => .wt a vs ds (e.sqT s) ih) (fun a od kvs ds s k _ ih => .dk a od kvs ds (e _ _ s) k ih) (fun a od kvs ds s k _ ih => .dt a od kvs ds (e _ _ s) k ih)
    (fun a C dx fs ds s k _ ih => .obj a C dx fs ds (e _ _ s) k ih) .nil (fun v d vs ds _ _ i1 i2 => .cons v d vs ds i1 i2) h
theorem Rps.mono {K : PySem.W.Frag} {W : Wd K} {B B' : Hp} {vs : List V} {ds : List D} (h : Rps W B vs ds) (e : Sub B B') : Rps W B' vs ds := by
  induction vs generalizing ds with
  | nil => cases h; exact .nil
  | cons v vs ih => cases h with | cons _ _ _ _ a b => exact .cons _ _ _ _ (a.mono e) (ih b)
theorem Rps.length {K : PySem.W.Frag} {W : Wd K} {B : Hp} {vs : List V} {ds : List D} (h : Rps W B vs ds) : vs.length = ds.length := by
  induction vs generalizing ds with
  | nil => cases h; rfl
  | cons v vs ih => cases h with | cons _ _ _ _ a b => simp [ih b]
theorem Rps.append {K : PySem.W.Frag} {W : Wd K} {B : Hp} {vs ws : List V} {ds es : List D} (h : Rps W B vs ds) (g : Rps W B ws es) : Rps W B (vs ++ ws) (ds ++ es) := by
  induction vs generalizing ds with
  | nil => cases h; exact g
  | cons v vs ih => cases h with | cons _ _ _ _ a b => exact .cons _ _ _ _ a (ih b)
theorem Rps.one {K : PySem.W.Frag} {W : Wd K} {B : Hp} {v : V} {d : D} (h : Rp W B v d) : Rps W B [v] [d] := .cons _ _ _ _ h .nil
theorem Rps.get {K : PySem.W.Frag} {W : Wd K} {B : Hp} {vs : List V} {ds : List D} (h : Rps W B vs ds) {i : Nat} {d : D} (e : ds[i]? = some d) : ∃ v, vs[i]? = some v ∧ Rp W B v d := by
  induction vs generalizing ds i with
  | nil => cases h; simp at e
  | cons v vs ih =>
    cases h with
    | cons _ _ _ _ a b =>
      cases i with
      | zero => simp at e; subst e; exact ⟨_, rfl, a⟩
      | succ i => simp at e; simpa using ih b e
theorem Rps.get' {K : PySem.W.Frag} {W : Wd K} {B : Hp} {vs : List V} {ds : List D} (h : Rps W B vs ds) {i : Nat} {v : V} (e : vs[i]? = some v) : ∃ d, ds[i]? = some d ∧ Rp W B v d := by
  induction vs generalizing ds i with
  | nil => simp at e
  | cons w vs ih =>
    cases h with
    | cons _ _ _ _ a b =>
      cases i with
      | zero => simp at e; subst e; exact ⟨_, rfl, a⟩
      | succ i => simp at e; simpa using ih b e
theorem Rps.set {K : PySem.W.Frag} {W : Wd K} {B : Hp} {vs : List V} {ds : List D} (h : Rps W B vs ds) {v : V} {d : D} (e : Rp W B v d) (i : Nat) : Rps W B (vs.set i v) (ds.set i d) := by
  induction vs generalizing ds i with
  | nil => cases h; exact .nil
  | cons w vs ih =>
    cases h with
    | cons _ _ _ _ a b =>
      cases i with
      | zero => exact .cons _ _ _ _ e b
      | succ i => exact .cons _ _ _ _ a (ih b i)
theorem Rps.take {K : PySem.W.Frag} {W : Wd K} {B : Hp} {vs : List V} {ds : List D} (h : Rps W B vs ds) (n : Nat) : Rps W B (vs.take n) (ds.take n) := by
  induction vs generalizing ds n with
  | nil => cases h; simp; exact .nil
  | cons w vs ih =>
    cases h with
    | cons _ _ _ _ a b =>
      cases n with
      | zero => exact .nil
      | succ n => exact .cons _ _ _ _ a (ih b n)
theorem Rps.drop {K : PySem.W.Frag} {W : Wd K} {B : Hp} {vs : List V} {ds : List D} (h : Rps W B vs ds) (n : Nat) : Rps W B (vs.drop n) (ds.drop n) := by
  induction vs generalizing ds n with
  | nil => cases h; simp; exact .nil
  | cons w vs ih =>
    cases h with
    | cons _ _ _ _ a b =>
      cases n with
      | zero => exact .cons _ _ _ _ a b
      | succ n => exact ih b n

/-! ### growing: all that stood stands, but tables and what the draws change -/
def Solid {K : PySem.W.Frag} (W : Wd K) (a : Addr) (o : HO) : Prop := (∀ ps, o ≠ .tbl ps) ∧ ¬ W.fv a
def plainO : HO → Prop
  | .tbl _ => False
  | .ext _ => False
  | _ => True
structure Grow {K : PySem.W.Frag} (W : Wd K) (H B H' B' : Hp) : Prop where
  ext : ∀ a o, H a = some o → Solid W a o → H' a = some o
  dom : ∀ a, H a ≠ none → H' a ≠ none
  bas : Sub B B'
  new : ∀ a, B' a ≠ none → B a ≠ none ∨ H a = none ∨ ∃ o, H a = some o ∧ ¬ plainO o
  sub : ∀ a o, B' a = some o → H' a = some o ∧ Solid W a o
  wok : W.ok H'
theorem Grow.trans {K : PySem.W.Frag} {W : Wd K} {H B H1 B1 H2 B2 : Hp} (a : Grow W H B H1 B1) (b : Grow W H1 B1 H2 B2) : Grow W H B H2 B2 where
  ext := fun x o h s => b.ext x o (a.ext x o h s) s
  dom := fun x h => b.dom x (a.dom x h)
  bas := a.bas.trans b.bas
  new := fun x h => by
    rcases b.new x h with h1 | h1 | ⟨o1, h1, n1⟩
    · exact a.new x h1
    · right; left
      cases e : H x with
      | none => rfl
      | some o => exact absurd h1 (a.dom x (by rw [e]; simp))
    · right
      cases e : H x with
      | none => exact .inl rfl
      | some o =>
        right
        refine ⟨o, rfl, fun po => ?_⟩
        cases e2 : B2 x with
        | none => exact h e2
        | some u =>
          have := a.ext x o e ⟨fun ps z => (by subst z; exact po), (b.sub x u e2).2.2⟩
          rw [this] at h1; cases h1; exact n1 po
  sub := b.sub
  wok := b.wok
theorem Grow.self {K : PySem.W.Frag} {W : Wd K} {H0 B0 H B : Hp} (g : Grow W H0 B0 H B) : Grow W H B H B :=
  ⟨fun _ _ h _ => h, fun _ h => h, Sub.refl B, fun _ h => .inl h, g.sub, g.wok⟩
theorem wok_upd {K : PySem.W.Frag} {W : Wd K} {H : Hp} {p : Addr} {o : HO} (k : W.ok H) (hp : H p = none ∨ (¬ W.fv p ∧ ∃ u, H p = some u ∧ plainO u)) : W.ok (upd H p o) := by
  refine W.st k fun a u h c => ?_
  have : a ≠ p := by
    rintro rfl
    rcases hp with hp | ⟨nf, u', hu, pl⟩
    · rw [hp] at h; cases h
    · rw [hu] at h; cases h
      rcases c with c | ⟨ps, rfl⟩ | ⟨φ, rfl⟩
      · exact nf c
      · exact pl
      · exact pl
  rw [upd_ne this]; exact h
theorem solid_new {K : PySem.W.Frag} {W : Wd K} {H : Hp} {p : Addr} {o : HO} (k : W.ok H) (hp : H p = none) (ho : ∀ ps, o ≠ .tbl ps) : Solid W p o :=
  ⟨ho, fun z => by obtain ⟨o, e⟩ := W.th k z; rw [hp] at e; cases e⟩
/-- a new object, clean -/
theorem Grow.alloc {K : PySem.W.Frag} {W : Wd K} {H0 B0 H B : Hp} (g : Grow W H0 B0 H B) {p : Addr} {o : HO} (hp : H p = none) (ho : ∀ ps, o ≠ .tbl ps) : Grow W H B (upd H p o) (upd B p o) where
  ext := fun a u h _ => by rw [upd_ne (ne_of_none h hp)]; exact h
  dom := fun a h => by unfold upd; split <;> simp_all
  bas := Sub.new (by
    cases e : B p with
    | none => rfl
    | some u => rw [(g.sub _ _ e).1] at hp; cases hp)
  new := fun a h => by
    by_cases e : a = p
    · subst e; exact .inr (.inl hp)
    · rw [upd_ne e] at h; exact .inl h
  sub := fun a u h => by
    by_cases e : a = p
    · subst e; rw [upd_same] at h; cases h; exact ⟨upd_same, solid_new g.wok hp ho⟩
    · rw [upd_ne e] at h ⊢; exact g.sub a u h
  wok := wok_upd g.wok (.inl hp)
/-- a new object, ours -/
theorem Grow.allocO {K : PySem.W.Frag} {W : Wd K} {H0 B0 H B : Hp} (g : Grow W H0 B0 H B) {p : Addr} {o : HO} (hp : H p = none) : Grow W H B (upd H p o) B where
  ext := fun a u h _ => by rw [upd_ne (ne_of_none h hp)]; exact h
  dom := fun a h => by unfold upd; split <;> simp_all
  bas := Sub.refl B
  new := fun a h => .inl h
  sub := fun a u h => ⟨by rw [upd_ne (ne_of_none (g.sub a u h).1 hp)]; exact (g.sub a u h).1, (g.sub a u h).2⟩
  wok := wok_upd g.wok (.inl hp)

/-! ### the frame's names -/
inductive Sl where
  | un | im (d : D) | ol (ds : List D) | ok (kvs : List (Key × D)) | ot (kvs : List (List Key × D)) | oi (C p : Addr) (fs : List (Str × D))
def Sl.er : Sl → Option D
  | .un => none
  | .im d => some d
  | .ol ds => some (.lst ds)
  | .ok kvs => some (.dk kvs)
  | .ot kvs => some (.dt kvs)
  | .oi C _ fs => some (.obj C fs)
/-- a name's value, and the addresses that are its own -/
inductive SlR {K : PySem.W.Frag} (W : Wd K) (B H : Hp) : Sl → Option V → List Addr → Prop
  | un (v : Option V) : SlR W B H .un v []
  | im (d : D) (v : V) : Rp W B v d → SlR W B H (.im d) (some v) []
  | ol (ds : List D) (p : Addr) (vs : List V) : H p = some (.lst vs) → Rps W B vs ds → SlR W B H (.ol ds) (some (.ref p)) [p]
  | ok (ds : List (Key × D)) (p : Addr) (kvs : List (Key × V)) : H p = some (.dK kvs) → kvs.map (·.1) = ds.map (·.1) → Rps W B (kvs.map (·.2)) (ds.map (·.2)) → SlR W B H (.ok ds) (some (.ref p)) [p]
  | ot (ds : List (List Key × D)) (p : Addr) (kvs : List (List Key × V)) : H p = some (.dT kvs) → kvs.map (·.1) = ds.map (·.1) → Rps W B (kvs.map (·.2)) (ds.map (·.2)) → SlR W B H (.ot ds) (some (.ref p)) [p]
  | oi (C : Addr) (ds : List (Str × D)) (p dx : Addr) (fs : List (Str × V)) : H p = some (.ins C dx fs) → fs.map (·.1) = ds.map (·.1) → Rps W B (fs.map (·.2)) (ds.map (·.2)) → SlR W B H (.oi C p ds) (some (.ref p)) [p]
theorem SlR.there {K : PySem.W.Frag} {W : Wd K} {B H : Hp} {s : Sl} {v : Option V} {f : List Addr} (h : SlR W B H s v f) : ∀ a ∈ f, ∃ o, H a = some o ∧ plainO o := by
  cases h with
  | un => intro a ha; simp at ha
  | im d v r => intro a ha; simp at ha
  | ol ds p vs h r => intro a ha; simp at ha; subst ha; exact ⟨_, h, True.intro⟩
  | ok ds p kvs h q r => intro a ha; simp at ha; subst ha; exact ⟨_, h, True.intro⟩
  | ot ds p kvs h q r => intro a ha; simp at ha; subst ha; exact ⟨_, h, True.intro⟩
  | oi C ds p dx fs h q r => intro a ha; simp at ha; subst ha; exact ⟨_, h, True.intro⟩
theorem SlR.mono {K : PySem.W.Frag} {W : Wd K} {B H B' H' : Hp} {s : Sl} {v : Option V} {f : List Addr} (h : SlR W B H s v f) (e : Sub B B') (k : ∀ a ∈ f, H' a = H a) : SlR W B' H' s v f := by
  cases h with
  | un => exact .un _
  | im d v r => exact .im _ _ (r.mono e)
  | ol ds p vs h r => exact .ol _ _ _ ((k p (by simp)).trans h) (r.mono e)
  | ok ds p kvs h q r => exact .ok _ _ _ ((k p (by simp)).trans h) q (r.mono e)
  | ot ds p kvs h q r => exact .ot _ _ _ ((k p (by simp)).trans h) q (r.mono e)
  | oi C ds p dx fs h q r => exact .oi _ _ _ _ _ ((k p (by simp)).trans h) q (r.mono e)

/-- behind a value a thing may be locked -/
theorem PE_lock {X : Cx} {e : Expr} {t : TE} (h : PE X e t) : PE X e (fun σ H Q => t σ H fun v H' => Q v H' ∨ ∃ d u, H' d = some u ∧ Mut (some u) ∧ ∀ od, Q v (upd H' d (.frz od u))) :=
  ⟨fun pins s σ H Q I q => wpAny_mono (h.run pins s σ H _ I q) (fun _ _ ⟨v, H', I', r, q'⟩ => by
    rcases q' with q' | ⟨d, u, e, mu, q'⟩
    · exact ⟨v, H', I', r, q'⟩
    · obtain ⟨od, I2⟩ := I'.lock e mu
      exact ⟨v, _, I2, r, q' od⟩) fun _ _ x => x⟩
abbrev EX := Addr → Prop
def noE : EX := fun _ => False
/-- where a body runs: what is kept, what is known, what is wanted of an exception (of its class, and truly) -/
structure Gx (K : PySem.W.Frag) where
  W : Wd K
  H0 : Hp
  B0 : Hp
  E : XK
  Ed : EX
  hE : ∀ C H' B', Ed C → Grow W H0 B0 H' B' → E (.ref C) none H'
structure Sls {K : PySem.W.Frag} (G : Gx K) (Δ : List Sl) (σ : L2.St) (H B : Hp) (fp : Nat → List Addr) : Prop where
  len : Δ.length = σ.length
  at_ : ∀ i s, Δ[i]? = some s → ∃ v, σ[i]? = some v ∧ SlR G.W B H s v (fp i)
  dj : ∀ i j a, a ∈ fp i → a ∈ fp j → i = j
  ou : ∀ i a, a ∈ fp i → B a = none ∧ G.H0 a = none ∧ ¬ G.W.fv a ∧ ∃ o, H a = some o ∧ plainO o
structure DR {K : PySem.W.Frag} (G : Gx K) (Δ : List Sl) (σ : L2.St) (H B : Hp) : Prop where
  gr : Grow G.W G.H0 G.B0 H B
  sl : ∃ fp, Sls G Δ σ H B fp
section
variable {K : PySem.W.Frag} {G : Gx K} {Δ : List Sl} {σ : L2.St} {H B H' B' : Hp}
theorem DR.wok (r : DR G Δ σ H B) : G.W.ok H := r.gr.wok
theorem DR.sub (r : DR G Δ σ H B) : Sub B H := fun a o h => (r.gr.sub a o h).1
theorem DR.free (r : DR G Δ σ H B) {p : Addr} (h : H p = none) : B p = none := by
  cases e : B p with
  | none => rfl
  | some u => rw [(r.gr.sub _ _ e).1] at h; cases h
theorem Sls.grow {fp : Nat → List Addr} (s : Sls G Δ σ H B fp) (g : Grow G.W H B H' B') : Sls G Δ σ H' B' fp := by
  refine ⟨s.len, fun i x e => ?_, s.dj, fun i a ha => ?_⟩
  · obtain ⟨v, e1, e2⟩ := s.at_ i x e
    refine ⟨v, e1, e2.mono g.bas fun a ha => ?_⟩
    obtain ⟨o, ho, pl⟩ := e2.there a ha
    rw [ho]
    exact g.ext a o ho ⟨fun ps z => by subst z; exact pl, (s.ou i a ha).2.2.1⟩
  · obtain ⟨h1, h2, h3, h4⟩ := s.ou i a ha
    obtain ⟨o4, h4, p4⟩ := h4
    refine ⟨?_, h2, h3, o4, g.ext a o4 h4 ⟨fun ps z => (by subst z; exact p4), h3⟩, p4⟩
    cases e : B' a with
    | none => rfl
    | some o =>
      rcases g.new a (by rw [e]; simp) with z | z | ⟨u, z, n⟩
      · exact absurd h1 z
      · rw [h4] at z; cases z
      · rw [h4] at z; cases z; exact absurd p4 n
theorem DR.grow (r : DR G Δ σ H B) (g : Grow G.W H B H' B') : DR G Δ σ H' B' := by
  obtain ⟨fp, s⟩ := r.sl
  exact ⟨r.gr.trans g, fp, s.grow g⟩
theorem DR.get (r : DR G Δ σ H B) {i : Nat} {d : D} (e : Δ[i]? = some (.im d)) : ∃ v, σ[i]? = some (some v) ∧ Rp G.W B v d := by
  obtain ⟨fp, s⟩ := r.sl
  obtain ⟨v, e1, e2⟩ := s.at_ i _ e
  generalize fp i = f at e2
  cases e2 with | im _ v q => exact ⟨v, e1, q⟩
/-- a clean value is stored -/
theorem DR.put (r : DR G Δ σ H B) (i : Nat) {v : V} {d : D} (q : Rp G.W B v d) : DR G (Δ.set i (.im d)) (σ.set i (some v)) H B := by
  obtain ⟨fp, s⟩ := r.sl
  refine ⟨r.gr, fun j => if j = i then [] else fp j, by simp [s.len], fun j x e => ?_, fun j k a h1 h2 => ?_, fun j a h => ?_⟩
  · by_cases hj : j = i
    · subst hj
      have hl : j < Δ.length := by
        have := (List.getElem?_eq_some_iff.mp e).1; simpa using this
      rw [List.getElem?_set_self hl] at e; cases e
      refine ⟨some v, by rw [List.getElem?_set_self (by rw [← s.len]; exact hl)], ?_⟩
      simp only [if_true]
      exact .im _ _ q
    · rw [List.getElem?_set_ne (Ne.symm hj)] at e
      obtain ⟨w, e1, e2⟩ := s.at_ j x e
      refine ⟨w, by rw [List.getElem?_set_ne (Ne.symm hj)]; exact e1, ?_⟩
      simp only [if_neg hj]; exact e2
  · try dsimp only at h1 h2
    split at h1
    · cases h1
    · split at h2
      · cases h2
      · exact s.dj j k a h1 h2
  · try dsimp only at h
    split at h
    · cases h
    · exact s.ou j a h
/-- a name is forgotten -/
theorem DR.wipe1 (r : DR G Δ σ H B) (i : Nat) : DR G (Δ.set i .un) (σ.set i none) H B := by
  obtain ⟨fp, s⟩ := r.sl
  refine ⟨r.gr, fun j => if j = i then [] else fp j, by simp [s.len], fun j x e => ?_, fun j k a h1 h2 => ?_, fun j a h => ?_⟩
  · by_cases hj : j = i
    · subst hj
      have hl : j < Δ.length := by
        have := (List.getElem?_eq_some_iff.mp e).1; simpa using this
      rw [List.getElem?_set_self hl] at e; cases e
      refine ⟨none, by rw [List.getElem?_set_self (by rw [← s.len]; exact hl)], ?_⟩
      simp only [if_true]
      exact .un _
    · rw [List.getElem?_set_ne (Ne.symm hj)] at e
      obtain ⟨w, e1, e2⟩ := s.at_ j x e
      refine ⟨w, by rw [List.getElem?_set_ne (Ne.symm hj)]; exact e1, ?_⟩
      simp only [if_neg hj]; exact e2
  · try dsimp only at h1 h2
    split at h1
    · cases h1
    · split at h2
      · cases h2
      · exact s.dj j k a h1 h2
  · try dsimp only at h
    split at h
    · cases h
    · exact s.ou j a h
/-- an own object of the i-th name is written: all else stays; what it is then -/
theorem DR.write (r : DR G Δ σ H B) {i : Nat} {s s' : Sl} {p : Addr} {o o' : HO} (e : Δ[i]? = some s) (hv : σ[i]? = some (some (.ref p))) (hs : ∀ B H f, SlR G.W B H s (some (.ref p)) f → f = [p])
    (hp : H p = some o) (po : plainO o) (hs' : SlR G.W B (upd H p o') s' (some (.ref p)) [p]) : DR G (Δ.set i s') σ (upd H p o') B := by
  obtain ⟨fp, S⟩ := r.sl
  obtain ⟨v, e1, e2⟩ := S.at_ i s e
  rw [hv] at e1; cases e1
  have hf := hs _ _ _ e2
  have hpi : p ∈ fp i := by rw [hf]; simp
  obtain ⟨b1, b2, b3, b4⟩ := S.ou i p hpi
  refine ⟨⟨fun a u h q => ?_, fun a h => ?_, r.gr.bas, r.gr.new, fun a u h => ?_, wok_upd r.gr.wok (.inr ⟨b3, o, hp, po⟩)⟩, fp, by simp [S.len], fun j x ej => ?_, S.dj, fun j a ha => ?_⟩
  · rw [upd_ne (ne_of_none h b2)]; exact r.gr.ext a u h q
  · unfold upd; split
    · simp
    · exact r.gr.dom a h
  · rw [upd_ne (ne_of_none h b1)]; exact r.gr.sub a u h
  · by_cases hj : j = i
    · subst hj
      have hl : j < Δ.length := (List.getElem?_eq_some_iff.mp e).1
      rw [List.getElem?_set_self hl] at ej; cases ej
      exact ⟨_, hv, by rw [hf]; exact hs'⟩
    · rw [List.getElem?_set_ne (Ne.symm hj)] at ej
      obtain ⟨w, q1, q2⟩ := S.at_ j x ej
      refine ⟨w, q1, q2.mono (Sub.refl _) fun a ha => ?_⟩
      exact upd_ne (fun z => hj (S.dj j i p (z ▸ ha) hpi))
  · obtain ⟨c1, c2, c3, c4⟩ := S.ou j a ha
    refine ⟨c1, c2, c3, ?_⟩
    by_cases z : a = p
    · subst z; exact hs'.there a (by simp)
    · rw [upd_ne z]; exact c4
/-- the i-th name's own object is ours no more; a dict is locked then -/
theorem DR.freeze (r : DR G Δ σ H B) {i : Nat} {s : Sl} {d : D} (e : Δ[i]? = some s) (er : s.er = some d) : ∃ v, σ[i]? = some (some v) ∧ ((∃ B', Sub B B' ∧ Rp G.W B' v d ∧ DR G (Δ.set i (.im d)) σ H B') ∨
    ∃ p u, H p = some u ∧ Mut (some u) ∧ ∀ od, ∃ B', Sub B B' ∧ Rp G.W B' v d ∧ DR G (Δ.set i (.im d)) σ (upd H p (.frz od u)) B') := by
  obtain ⟨fp, S⟩ := r.sl
  obtain ⟨v, e1, e2⟩ := S.at_ i s e
  have hl : i < Δ.length := (List.getElem?_eq_some_iff.mp e).1
  -- the case of an own object at p, of the content o, which is to be o' from now on
  have main : ∀ (p : Addr) (o o' : HO), v = some (.ref p) → fp i = [p] → H p = some o → plainO o → plainO o' → (∀ B', Sub B B' → B' p = some o' → Rp G.W B' (.ref p) d) →
      ∃ B', σ[i]? = some (some (.ref p)) ∧ Sub B B' ∧ Rp G.W B' (.ref p) d ∧ DR G (Δ.set i (.im d)) σ (upd H p o') B' := by
    intro p o o' ev hf hp po po' hr
    subst ev
    have hpi : p ∈ fp i := by rw [hf]; simp
    obtain ⟨b1, b2, b3, b4⟩ := S.ou i p hpi
    have hsub : Sub B (upd B p o') := Sub.new b1
    refine ⟨upd B p o', e1, hsub, hr _ hsub upd_same, ⟨fun a u h q => ?_, fun a h => ?_, r.gr.bas.trans hsub, fun a h => ?_, fun a u h => ?_, wok_upd r.gr.wok (.inr ⟨b3, o, hp, po⟩)⟩, fun j => if j = i then [] else fp j, by simp [S.len], fun j x ej => ?_, fun j k a h1 h2 => ?_, fun j a h => ?_⟩
    · rw [upd_ne (ne_of_none h b2)]; exact r.gr.ext a u h q
    · unfold upd; split
      · simp
      · exact r.gr.dom a h
    · by_cases z : a = p
      · subst z; exact .inr (.inl b2)
      · rw [upd_ne z] at h; exact r.gr.new a h
    · by_cases z : a = p
      · subst z; rw [upd_same] at h; cases h
        exact ⟨upd_same, fun ps q => by subst q; exact po', b3⟩
      · rw [upd_ne z] at h ⊢; exact r.gr.sub a u h
    · by_cases hj : j = i
      · subst hj
        rw [List.getElem?_set_self hl] at ej; cases ej
        refine ⟨_, e1, ?_⟩
        simp only [if_true]
        exact .im _ _ (hr _ hsub upd_same)
      · rw [List.getElem?_set_ne (Ne.symm hj)] at ej
        obtain ⟨w, q1, q2⟩ := S.at_ j x ej
        refine ⟨w, q1, ?_⟩
        simp only [if_neg hj]
        exact q2.mono hsub fun a ha => upd_ne (fun z => hj (S.dj j i p (z ▸ ha) hpi))
    · try dsimp only at h1 h2
      split at h1
      · cases h1
      · split at h2
        · cases h2
        · exact S.dj j k a h1 h2
    · try dsimp only at h
      split at h
      · cases h
      · rename_i hj
        have hne : a ≠ p := fun z => hj (S.dj j i a h (by rw [z]; exact hpi))
        obtain ⟨c1, c2, c3, c4⟩ := S.ou j a h
        refine ⟨?_, c2, c3, ?_⟩
        · rw [upd_ne hne]; exact c1
        · rw [upd_ne hne]; exact c4
  have same : ∀ (p : Addr) (o : HO), H p = some o → upd H p o = H := fun p o h => by
    funext b
    by_cases z : b = p
    · subst z; rw [upd_same, h]
    · rw [upd_ne z]
  generalize hf : fp i = f at e2 main
  cases e2 with
  | un => cases er
  | im d' v q =>
    cases er
    refine ⟨v, e1, .inl ⟨B, Sub.refl _, q, ?_⟩⟩
    have : Δ.set i (.im d) = Δ := by
      apply List.ext_getElem?
      intro j
      by_cases hj : j = i
      · subst hj; rw [List.getElem?_set_self hl, e]
      · rw [List.getElem?_set_ne (Ne.symm hj)]
    rw [this]; exact r
  | ol ds p vs h q =>
    cases er
    obtain ⟨B', x1, x2, x3, x4⟩ := main p _ (.lst vs) rfl rfl h trivial trivial fun B' s b => .lst _ _ _ b (q.mono s)
    exact ⟨_, x1, .inl ⟨B', x2, x3, by rw [same p _ h] at x4; exact x4⟩⟩
  | ok ds p kvs h k q =>
    cases er
    refine ⟨.ref p, e1, .inr ⟨p, _, h, trivial, fun od => ?_⟩⟩
    obtain ⟨B', x1, x2, x3, x4⟩ := main p _ (.frz od (.dK kvs)) rfl rfl h trivial trivial fun B' s b => .dk _ _ _ _ b k (q.mono s)
    exact ⟨B', x2, x3, x4⟩
  | ot ds p kvs h k q =>
    cases er
    refine ⟨.ref p, e1, .inr ⟨p, _, h, trivial, fun od => ?_⟩⟩
    obtain ⟨B', x1, x2, x3, x4⟩ := main p _ (.frz od (.dT kvs)) rfl rfl h trivial trivial fun B' s b => .dt _ _ _ _ b k (q.mono s)
    exact ⟨B', x2, x3, x4⟩
  | oi C ds p dx fs h k q =>
    cases er
    obtain ⟨B', x1, x2, x3, x4⟩ := main p _ (.ins C dx fs) rfl rfl h trivial trivial fun B' s b => .obj _ _ _ _ _ b k (q.mono s)
    exact ⟨_, x1, .inl ⟨B', x2, x3, by rw [same p _ h] at x4; exact x4⟩⟩
/-- a value that hangs behind the names (the last of longer lists) is stored at the i-th -/
theorem DR.move {s : Sl} {v : V} (r : DR G (Δ ++ [s]) (σ ++ [some v]) H B) {i : Nat} (hi : i < Δ.length) : DR G (Δ.set i s) (σ.set i (some v)) H B := by
  obtain ⟨fp, S⟩ := r.sl
  have hl : Δ.length = σ.length := by have := S.len; simpa using this
  refine ⟨r.gr, fun j => if j = i then fp Δ.length else if j < Δ.length then fp j else [], by simp [hl], fun j x e => ?_, fun j k a h1 h2 => ?_, fun j a h => ?_⟩
  · by_cases hj : j = i
    · subst hj
      rw [List.getElem?_set_self hi] at e; cases e
      obtain ⟨w, q1, q2⟩ := S.at_ Δ.length s (by rw [List.getElem?_append_right (Nat.le_refl _)]; simp)
      rw [hl, List.getElem?_append_right (Nat.le_refl _)] at q1
      simp at q1; subst q1
      refine ⟨_, by rw [List.getElem?_set_self (by omega)], ?_⟩
      simp only [if_true]; exact q2
    · rw [List.getElem?_set_ne (Ne.symm hj)] at e
      have hj2 : j < Δ.length := (List.getElem?_eq_some_iff.mp e).1
      obtain ⟨w, q1, q2⟩ := S.at_ j x (by rw [List.getElem?_append_left hj2]; exact e)
      rw [List.getElem?_append_left (by omega)] at q1
      refine ⟨w, by rw [List.getElem?_set_ne (Ne.symm hj)]; exact q1, ?_⟩
      simp only [if_neg hj, if_pos hj2]; exact q2
  · try dsimp only at h1 h2
    split at h1
    · rename_i z; subst z
      split at h2
      · rename_i z; exact z.symm
      · split at h2
        · rename_i z; have := S.dj _ _ a h1 h2; omega
        · cases h2
    · split at h1
      · split at h2
        · rename_i z; have := S.dj _ _ a h1 h2; omega
        · split at h2
          · exact S.dj _ _ a h1 h2
          · cases h2
      · cases h1
  · try dsimp only at h
    split at h
    · exact S.ou _ a h
    · split at h
      · exact S.ou _ a h
      · cases h
/-- what hangs behind is let go -/
theorem DR.drop {s : Sl} {w : Option V} (r : DR G (Δ ++ [s]) (σ ++ [w]) H B) : DR G Δ σ H B := by
  obtain ⟨fp, S⟩ := r.sl
  have hl : Δ.length = σ.length := by have := S.len; simpa using this
  refine ⟨r.gr, fun j => if j < Δ.length then fp j else [], hl, fun j x e => ?_, fun j k a h1 h2 => ?_, fun j a h => ?_⟩
  · have hj2 : j < Δ.length := (List.getElem?_eq_some_iff.mp e).1
    obtain ⟨w, q1, q2⟩ := S.at_ j x (by rw [List.getElem?_append_left hj2]; exact e)
    rw [List.getElem?_append_left (by omega)] at q1
    exact ⟨w, q1, by simp only [if_pos hj2]; exact q2⟩
  · try dsimp only at h1 h2
    split at h1
    · split at h2
      · exact S.dj _ _ a h1 h2
      · cases h2
    · cases h1
  · try dsimp only at h
    split at h
    · exact S.ou _ a h
    · cases h
/-- a clean value hangs behind -/
theorem DR.hang (r : DR G Δ σ H B) {v : V} {d : D} (q : Rp G.W B v d) : DR G (Δ ++ [.im d]) (σ ++ [some v]) H B := by
  obtain ⟨fp, S⟩ := r.sl
  refine ⟨r.gr, fun j => if j < Δ.length then fp j else [], by simp [S.len], fun j x e => ?_, fun j k a h1 h2 => ?_, fun j a h => ?_⟩
  · by_cases hj : j < Δ.length
    · rw [List.getElem?_append_left hj] at e
      obtain ⟨w, q1, q2⟩ := S.at_ j x e
      refine ⟨w, by rw [List.getElem?_append_left (by rw [← S.len]; exact hj)]; exact q1, ?_⟩
      simp only [if_pos hj]; exact q2
    · rw [List.getElem?_append_right (by omega)] at e
      have : j - Δ.length = 0 := by
        cases h : j - Δ.length with
        | zero => rfl
        | succ n => rw [h] at e; simp at e
      rw [this] at e; simp at e; subst e
      refine ⟨_, by rw [List.getElem?_append_right (by rw [← S.len]; omega), ← S.len, this]; rfl, ?_⟩
      simp only [if_neg hj]; exact .im _ _ q
  · try dsimp only at h1 h2
    split at h1
    · split at h2
      · exact S.dj _ _ a h1 h2
      · cases h2
    · cases h1
  · try dsimp only at h
    split at h
    · exact S.ou _ a h
    · cases h
/-- a new object of ours hangs behind -/
theorem DR.hangO (r : DR G Δ σ H B) {p : Addr} {o : HO} {s : Sl} (hp : H p = none) (hs : SlR G.W B (upd H p o) s (some (.ref p)) [p]) : DR G (Δ ++ [s]) (σ ++ [some (.ref p)]) (upd H p o) B := by
  have r2 := r.grow (r.gr.allocO (o := o) hp)
  obtain ⟨fp, S⟩ := r2.sl
  obtain ⟨fp0, S0⟩ := r.sl
  have nf : ¬ G.W.fv p := (solid_new (o := HO.own p) r.wok hp (fun _ => by simp)).2
  have n0 : G.H0 p = none := by
    cases e : G.H0 p with
    | none => rfl
    | some u => exact absurd hp (r.gr.dom p (by rw [e]; simp))
  have np : ∀ j a, a ∈ fp0 j → a ≠ p := fun j a ha z => by
    obtain ⟨o, h, _⟩ := (S0.ou j a ha).2.2.2
    rw [z, hp] at h; cases h
  refine ⟨r2.gr, fun j => if j < Δ.length then fp0 j else if j = Δ.length then [p] else [], by simp [S.len], fun j x e => ?_, fun j k a h1 h2 => ?_, fun j a h => ?_⟩
  · by_cases hj : j < Δ.length
    · rw [List.getElem?_append_left hj] at e
      obtain ⟨w, q1, q2⟩ := S0.at_ j x e
      refine ⟨w, by rw [List.getElem?_append_left (by rw [← S.len]; exact hj)]; exact q1, ?_⟩
      simp only [if_pos hj]; exact q2.mono (Sub.refl _) fun a ha => upd_ne (np j a ha)
    · rw [List.getElem?_append_right (by omega)] at e
      have z : j - Δ.length = 0 := by
        cases h : j - Δ.length with
        | zero => rfl
        | succ n => rw [h] at e; simp at e
      rw [z] at e; simp at e; subst e
      refine ⟨_, by rw [List.getElem?_append_right (by rw [← S.len]; omega), ← S.len, z]; rfl, ?_⟩
      simp only [if_neg hj, if_pos (show j = Δ.length by omega)]; exact hs
  · try dsimp only at h1 h2
    split at h1
    · split at h2
      · exact S0.dj _ _ a h1 h2
      · split at h2
        · simp at h2; exact absurd h2 (np _ a h1)
        · cases h2
    · split at h1
      · simp at h1
        split at h2
        · exact absurd h1 (np _ a h2)
        · split at h2
          · omega
          · cases h2
      · cases h1
  · try dsimp only at h
    split at h
    · obtain ⟨c1, c2, c3, c4⟩ := S0.ou j a h
      exact ⟨c1, c2, c3, by rw [upd_ne (np j a h)]; exact c4⟩
    · split at h
      · simp at h; subst h
        exact ⟨r.free hp, n0, nf, hs.there a (by simp)⟩
      · cases h
end
end DL
-- DLG
set_option Elab.async false
set_option linter.all false
set_option maxRecDepth 100000
set_option maxHeartbeats 2000000
set_option autoImplicit false
namespace DL
open PySem PySem.Spec L2
open PyProof.Rows hiding St
/-! ### the room of a call, with the knowledge that no repr is under way -/
structure Room (k : Nat) (A : Around) : Prop where
  r : L2.Room k A
  gd : A.guards = some []
namespace Room
variable {k : Nat} {A : Around}
theorem mono {j : Nat} (h : DL.Room j A) (l : k ≤ j) : DL.Room k A := ⟨h.r.mono l, h.gd⟩
theorem deeper (h : DL.Room (k + 1) A) (env : Env) : DL.Room k (A.deeper env) := ⟨h.r.deeper env, h.gd⟩
theorem hd (h : DL.Room k A) : A.handled = none := h.r.hd
theorem dp (h : DL.Room k A) : A.depth + 3 * k + 5 < recursionLimit := h.r.dp
theorem un (h : DL.Room k A) : A.units + 16 * k + 200 < cLine := h.r.un
theorem depth (h : DL.Room k A) : A.depth < recursionLimit := h.r.depth
theorem units (h : DL.Room k A) : A.units + 64 < cLine := h.r.units
theorem make (h : DL.Room (k + 1) A) (C : Addr) (us : List Value) (kw : List (Str × Value)) : DL.Room k (A.under (.builtin "type.__call__" ⟨.ref C :: us, kw⟩)) := ⟨h.r.make C us kw, by
  show pushGuards (Code.guards (.builtin "type.__call__" ⟨.ref C :: us, kw⟩)) A.guards = some []
  have e : Code.guards (.builtin "type.__call__" ⟨.ref C :: us, kw⟩) = [] := if_neg (by show ¬ guardIds.contains "type.__call__" = true; decide)
  rw [e]
  exact h.gd⟩
end Room
theorem hu_of {A : Around} {k : Nat} (hr : DL.Room k A) : A.units + 1 < cLine := L2.hu_of hr.r
/-- a def keeps its promise wherever no repr is under way -/
structure FnOk (P : Program) (w : World) (K : PySem.W.Frag) (mg : Str → Option Value) (base : Heap) (CX : CXT) (k : Nat) (f : Addr) (fd : FuncData) (ps : List Str) (sp : Sp) : Prop where
  len : ∀ vs H Q E, sp vs H Q E → vs.length = ps.length
  run : ∀ (A : Around) (outer : List Env) (s : Shared) (H : Hp) (args : Args) (us : List Value) (vs : List V) (Q : VK) (E : XK), DL.Room k A → Env0 P w K mg base A outer s H → BindsTo s fd args (ps.zip us) → Vals vs us → sp vs H Q E → codeAny (model P w) A (.call (.ref f) args) (CR CX outer P w H s Q E) s
theorem FnOk.mono {P : Program} {w : World} {K : PySem.W.Frag} {mg : Str → Option Value} {base : Heap} {CX : CXT} {j k : Nat} {f : Addr} {fd : FuncData} {ps : List Str} {sp : Sp} (F : DL.FnOk P w K mg base CX j f fd ps sp) (h : j ≤ k) : DL.FnOk P w K mg base CX k f fd ps sp :=
  ⟨F.len, fun A outer s H args us vs Q E hr => F.run A outer s H args us vs Q E (hr.mono h)⟩
theorem fund_ok {P : Program} {w : World} {K : PySem.W.Frag} {mg : Str → Option Value} {base : Heap} {x qual : Str} {params : Arguments} {body : List Stmt} {scope : Scope} {dvs : List V} {kws : List (Str × V)} {f : Addr} {fd : FuncData} {CX : CXT} {N ps : List Str} {k : Nat} {sp : Sp}
    (F : FunD K x qual params body scope dvs kws f fd) (S : FnScope N ps scope) (len : ∀ vs H Q E, sp vs H Q E → vs.length = ps.length)
    (hbody : ∀ (cdv : Value) (A : Around) (outer : List Env) (s : Shared) (H : Hp) (vs : List V) (Q : VK) (E : XK), DL.Room k (A.deeper (envOfC qual scope s.heap.objs.size f cdv)) → sp vs H Q E → ∃ t, PSs (cxOf CX P w K mg base N qual scope f cdv A outer s H E) body t ∧ t { nx := fun _ H' => Q .non H', rt := Q } (start N vs) H) :
    DL.FnOk P w K mg base CX (k + 1) f fd ps sp := by
  obtain ⟨oc, od, dV, kV, doc, pm, an, cdv, ct, osl, rfl, lk, hcd, _, _⟩ := F.ex
  exact ⟨len, fun A outer s H args us vs Q E hr e0 hb r h => LamX.run_ofS lk hcd S hr.r e0 hb r (len _ _ _ _ h) fun hr' => hbody cdv A outer s H vs Q E ⟨hr', hr.gd⟩ h⟩
section
variable {X : Cx} {CX : CXT} {k : Nat} {f C : Addr} {fd : FuncData} {ps ks : List Str} {sp : Sp} {dvs : List V} {ds : List Value} {E : XK} {x : Str} {p pos : Pos} {e : Expr} {es : List Expr} {kws : List Keyword} {t tk : TA}
theorem run_fn {pins : List (Addr × Obj)} {σ : L2.St} {H : Hp} {s : Shared} {Q : VK} {us : List Value} {vs : List V} (F : DL.FnOk X.prog X.w X.K X.mg X.base CX k f fd ps sp) (hr : DL.Room k X.A) (hb : Binds X.K fd ps ds) (hd : Vals dvs ds) (hx : Passes CX X E) (I : Inv X pins σ H s) (r : Vals vs us) (h : sp (vs ++ dvs) H Q E) : wpAny (model X.prog X.w) X.A (call (.ref f) us) (EP X pins σ Q) X.xe s := by
  have r2 := r.append hd
  refine wpAny_call (codeAny_mono (F.run X.A X.stack s H ⟨us, []⟩ (us ++ ds) (vs ++ dvs) Q E hr I.env0 (hb s us I.kIn (by rw [← r2.length]; exact F.len _ _ _ _ h)) r2 h) fun r s' hq => ?_)
  match r, hq with
  | .error e, hq => exact hx pins σ H s e s' I hq
  | .ok (.ret u), hq => exact I.after hq
theorem run_fnk {pins : List (Addr × Obj)} {σ : L2.St} {H : Hp} {s : Shared} {Q : VK} {us ws : List Value} {vs zs : List V} {g : List Value → List Value → List Value} {gV : List V → List V → List V} (F : DL.FnOk X.prog X.w X.K X.mg X.base CX k f fd ps sp) (hr : DL.Room k X.A) (hb : KBinds X.K fd ps ks g gV) (hx : Passes CX X E) (I : Inv X pins σ H s) (r : Vals vs us) (rz : Vals zs ws)
    (h : sp (gV vs zs) H Q E) : wpAny (model X.prog X.w) X.A (call (.ref f) us (ks.zip ws)) (EP X pins σ Q) X.xe s := by
  have r2 := hb.rel r rz
  refine wpAny_call (codeAny_mono (F.run X.A X.stack s H ⟨us, ks.zip ws⟩ (g us ws) (gV vs zs) Q E hr I.env0 (hb.to s us ws I.kIn (by rw [← r2.length]; exact F.len _ _ _ _ h)) r2 h) fun r s' hq => ?_)
  match r, hq with
  | .error e, hq => exact hx pins σ H s e s' I hq
  | .ok (.ret u), hq => exact I.after hq
theorem pe_call (F : DL.FnOk X.prog X.w X.K X.mg X.base CX k f fd ps sp) (hr : DL.Room k X.A) (hg : Gl X x) (hm : X.mg x = some (.ref f)) (hk : PySem.W.keepIn X.K (.ref f) = true) (hb : Binds X.K fd ps ds) (hd : Vals dvs ds) (hx : Passes CX X E) (ha : PA X (e :: es) t)
    (hdb : (x == ("__debug__" : Str)) = false := by decide) (he : starEach (e :: es) X.env = (false, eval e X.env) :: starEach es X.env := by rfl) (hpl : (backTo pos (starEach es X.env)).any (·.1) = false := by rfl) : PE X (.Call (.Name x p) (e :: es) [] pos) (tCall sp dvs E t) :=
  ⟨fun pins s σ H Q I h => wpAny_Call_Name_kw (ld_glob I hg hm (PySem.W.callWith_K (h₀ := X.base) I.ok.mod.kin hk (thn (ha.run pos pins s σ H _ I h) fun us s1 ⟨vs, H1, I1, r, q⟩ => ⟨I1.kIn, DL.run_fn F hr hb hd hx I1 r q⟩) he hpl) hdb)⟩
theorem pe_call0 (F : DL.FnOk X.prog X.w X.K X.mg X.base CX k f fd ps sp) (hr : DL.Room k X.A) (hg : Gl X x) (hm : X.mg x = some (.ref f)) (hk : PySem.W.keepIn X.K (.ref f) = true) (hb : Binds X.K fd ps ds) (hd : Vals dvs ds) (hx : Passes CX X E) (hdb : (x == ("__debug__" : Str)) = false := by decide) :
    PE X (.Call (.Name x p) [] [] pos) (tCall sp dvs E tNil) := ⟨fun pins s σ H Q I h => wpAny_Call_Name_kw (ld_glob I hg hm (PySem.W.callWith_K0 I.kIn hk (DL.run_fn (us := []) F hr hb hd hx I .nil h)) hdb)⟩
/-- with keywords; places may be none -/
theorem pe_callKs {g : List Value → List Value → List Value} {gV : List V → List V → List V} (F : DL.FnOk X.prog X.w X.K X.mg X.base CX k f fd ps sp) (hr : DL.Room k X.A) (hg : Gl X x) (hm : X.mg x = some (.ref f)) (hk : PySem.W.keepIn X.K (.ref f) = true) (hb : KBinds X.K fd ps ks g gV) (hx : Passes CX X E) (ha : PA X (e :: es) t) (hkw : PK X kws tk)
    (hall : (backToKw pos (keywordEach kws X.env)).all (·.1.isSome) = true := by rfl) (hks : (backToKw pos (keywordEach kws X.env)).filterMap (·.1) = ks := by rfl) (hdb : (x == ("__debug__" : Str)) = false := by decide) (he : starEach (e :: es) X.env = (false, eval e X.env) :: starEach es X.env := by rfl)
    (hpl : ((backTo pos (starEach (e :: es) X.env)).any (·.1) || (backToKw pos (keywordEach kws X.env)).any (·.1.isNone)) = false := by rfl) : PE X (.Call (.Name x p) (e :: es) kws pos) (tCallK sp gV E t tk) := by
  refine ⟨fun pins s σ H Q I h => wpAny_Call_Name_kw (ld_glob I hg hm ?_ hdb)⟩
  refine PySem.W.callWith_KW (h₀ := X.base) I.ok.mod.kin hk hall (thn (ha.run pos pins s σ H _ I h) fun us s1 ⟨vs, H1, I1, r, q⟩ => thn (hkw.run pos pins s1 σ H1 _ I1 q) fun ws s2 ⟨zs, H2, I2, rz, q2⟩ => ⟨I2.kIn, ?_⟩) hpl he
  rw [hks]
  exact DL.run_fnk F hr hb hx I2 r rz q2
theorem run_make {pins : List (Addr × Obj)} {σ : L2.St} {H : Hp} {s : Shared} {Q : VK} {us : List Value} {vs : List V} (M : Mk X.K C f) (F : DL.FnOk X.prog X.w X.K X.mg X.base CX k f fd ps sp) (hr : DL.Room (k + 1) X.A) (hb : Binds X.K fd ps ds) (hd : Vals dvs ds) (hx : Passes CX X E) (I : Inv X pins σ H s) (r : Vals vs us)
    (h : ∀ x dx, H x = none → H dx = none → dx ≠ x → sp (.ref x :: (vs ++ dvs)) (upd (upd H dx (.own x)) x (.ins C dx [])) (fun v H2 => v = .non ∧ Q (.ref x) H2) E) : wpAny (model X.prog X.w) X.A (call (.ref C) us) (EP X pins σ Q) X.xe s := by
  have hq := h (s.heap.objs.size + 1) s.heap.objs.size (I.hok.fresh (Nat.le_succ _)) (I.hok.fresh (Nat.le_refl _)) (Nat.ne_of_lt (Nat.lt_succ_self _))
  have I2 := Inv.made (C := C) I
  have r2 : Vals (V.ref (s.heap.objs.size + 1) :: (vs ++ dvs)) (Value.ref (s.heap.objs.size + 1) :: (us ++ ds)) := .cons rfl (r.append hd)
  have hl : (Value.ref (s.heap.objs.size + 1) :: us ++ ds).length = ps.length := r2.length.symm.trans (F.len _ _ _ _ hq)
  refine wpAny_call (make_map (f := f) I.kIn M.makes M.init (beq_iff_eq.mp M.fn) (codeAny_mono (F.run _ X.stack _ _ ⟨Value.ref (s.heap.objs.size + 1) :: us, []⟩ (Value.ref (s.heap.objs.size + 1) :: (us ++ ds)) _ _ E (hr.make C us []) (I2.env0.make C us []) (hb _ (Value.ref (s.heap.objs.size + 1) :: us) I2.kIn hl) r2 hq) fun r s' hq' => ?_))
  match r, hq' with
  | .error e, hq' => exact hx pins σ _ _ e s' I2 hq'
  | .ok (.ret u), hq' =>
    obtain ⟨v, H', I3, rv, ev, q3⟩ := I2.after hq'
    subst ev
    exact ⟨rv, ⟨V.ref (s.heap.objs.size + 1), H', I3, rfl, q3⟩⟩
theorem pe_make (M : Mk X.K C f) (F : DL.FnOk X.prog X.w X.K X.mg X.base CX k f fd ps sp) (hr : DL.Room (k + 1) X.A) (hg : Gl X x) (hm : X.mg x = some (.ref C)) (hb : Binds X.K fd ps ds) (hd : Vals dvs ds) (hx : Passes CX X E) (ha : PA X (e :: es) t) (hdb : (x == ("__debug__" : Str)) = false := by decide)
    (he : starEach (e :: es) X.env = (false, eval e X.env) :: starEach es X.env := by rfl) (hpl : (backTo pos (starEach es X.env)).any (·.1) = false := by rfl) : PE X (.Call (.Name x p) (e :: es) [] pos) (tMake C sp dvs E t) :=
  ⟨fun pins s σ H Q I h => wpAny_Call_Name_kw (ld_glob I hg hm (PySem.W.callWith_K (h₀ := X.base) I.ok.mod.kin M.kp (thn (ha.run pos pins s σ H _ I h) fun us s1 ⟨vs, H1, I1, r, q⟩ => ⟨I1.kIn, DL.run_make M F hr hb hd hx I1 r q⟩) he hpl) hdb)⟩
end
end DL
-- DLjudge
set_option Elab.async false
set_option linter.all false
set_option maxRecDepth 100000
set_option maxHeartbeats 2000000
set_option autoImplicit false
namespace DL
open PySem PySem.Spec L2

/-! ### readings over trees -/
abbrev DTE := List Sl → (D → List Sl → Prop) → EX → Prop
/-- an operand: a value, or a name whose value is read when the operation comes -/
abbrev Od := Sum D Nat
abbrev DTO := List Sl → (Od → List Sl → Prop) → EX → Prop
abbrev DTM := List Sl → (Sl → List Sl → Prop) → EX → Prop
abbrev DTT := List Sl → (Bool → List Sl → Prop) → EX → Prop
abbrev DTA := List Sl → (List D → List Sl → Prop) → EX → Prop
structure DEnds where
  nx : List Sl → Prop
  rt : D → Prop
  bk : List Sl → Prop := fun _ => False
  ct : List Sl → Prop := fun _ => False
abbrev DTS := DEnds → List Sl → EX → Prop
section
variable {K : PySem.W.Frag}
def upE (G : Gx K) (t : DTE) : TE := fun σ H Q => ∃ Δ B Qd, DR G Δ σ H B ∧ t Δ Qd G.Ed ∧ ∀ d Δ' v H' B', Qd d Δ' → DR G Δ' σ H' B' → Sub B B' → Rp G.W B' v d → Q v H'
def upM (G : Gx K) (t : DTM) : TE := fun σ H Q => ∃ Δ B Qd, DR G Δ σ H B ∧ t Δ Qd G.Ed ∧ ∀ s Δ' v H' B', Qd s Δ' → DR G (Δ' ++ [s]) (σ ++ [some v]) H' B' → Sub B B' → Q v H'
def OdV (W : Wd K) (B : Hp) (σ : L2.St) : Od → V → Prop
  | .inl d, v => Rp W B v d
  | .inr i, v => σ[i]? = some (some v)
def upO (G : Gx K) (t : DTO) : TE := fun σ H Q => ∃ Δ B Qd, DR G Δ σ H B ∧ t Δ Qd G.Ed ∧ ∀ o Δ' v H' B', Qd o Δ' → DR G Δ' σ H' B' → Sub B B' → OdV G.W B' σ o v → Q v H'
def upAO (G : Gx K) (t : List Sl → (List Od → List Sl → Prop) → EX → Prop) : TA := fun σ H Q => ∃ Δ B Qd, DR G Δ σ H B ∧ t Δ Qd G.Ed ∧ ∀ os Δ' vs H' B', Qd os Δ' → DR G Δ' σ H' B' → Sub B B' → Paired (OdV G.W B' σ) os vs → Q vs H'
def upT (G : Gx K) (t : DTT) : TT := fun σ H Q => ∃ Δ B Qd, DR G Δ σ H B ∧ t Δ Qd G.Ed ∧ ∀ b Δ' H' B', Qd b Δ' → DR G Δ' σ H' B' → Sub B B' → Q b H'
def upA (G : Gx K) (t : DTA) : TA := fun σ H Q => ∃ Δ B Qd, DR G Δ σ H B ∧ t Δ Qd G.Ed ∧ ∀ ds Δ' vs H' B', Qd ds Δ' → DR G Δ' σ H' B' → Sub B B' → Rps G.W B' vs ds → Q vs H'
def upS (G : Gx K) (t : DTS) : TS := fun D σ H => ∃ Δ B N, DR G Δ σ H B ∧ t N Δ G.Ed ∧
  (∀ Δ' σ' H' B', N.nx Δ' → DR G Δ' σ' H' B' → Sub B B' → D.nx σ' H') ∧ (∀ Δ' σ' H' B', N.bk Δ' → DR G Δ' σ' H' B' → Sub B B' → D.bk σ' H') ∧ (∀ Δ' σ' H' B', N.ct Δ' → DR G Δ' σ' H' B' → Sub B B' → D.ct σ' H') ∧
  (∀ d v H' B', N.rt d → Grow G.W G.H0 G.B0 H' B' → Sub B B' → Rp G.W B' v d → D.rt v H')
end

/-! ### names and constants -/
def dVar (i : Nat) : DTE := fun Δ Q _ => ∃ s d, Δ[i]? = some s ∧ s.er = some d ∧ Q d (Δ.set i (.im d))
def dC (d : D) : DTE := fun Δ Q _ => Q d Δ
def dTst (t : DTE) : DTT := fun Δ Q E => t Δ (fun d Δ1 => ∃ b, d = .bl b ∧ Q b Δ1) E
def dAnd (t u : DTT) : DTT := fun Δ Q E => t Δ (fun b Δ1 => if b = true then u Δ1 Q E else Q false Δ1) E
def dOr (t u : DTT) : DTT := fun Δ Q E => t Δ (fun b Δ1 => if b = true then Q true Δ1 else u Δ1 Q E) E
def dNot (t : DTT) : DTT := fun Δ Q E => t Δ (fun b Δ1 => Q (!b) Δ1) E
def dAndV (ta tb : DTE) : DTE := fun Δ Q E => ta Δ (fun x Δ1 => ∃ c, x = .bl c ∧ if c = true then tb Δ1 Q E else Q (.bl false) Δ1) E
def dOrV (ta tb : DTE) : DTE := fun Δ Q E => ta Δ (fun x Δ1 => ∃ c, x = .bl c ∧ if c = true then Q (.bl true) Δ1 else tb Δ1 Q E) E
def dNotV (ta : DTE) : DTE := fun Δ Q E => ta Δ (fun x Δ1 => ∃ c, x = .bl c ∧ Q (.bl (!c)) Δ1) E
def dIf (t : DTT) (ta tb : DTE) : DTE := fun Δ Q E => t Δ (fun c Δ1 => if c = true then ta Δ1 Q E else tb Δ1 Q E) E
def dNil : DTA := fun Δ Q _ => Q [] Δ
def dCons (ta : DTE) (tr : DTA) : DTA := fun Δ Q E => ta Δ (fun x Δ1 => tr Δ1 (fun xs Δ2 => Q (x :: xs) Δ2) E) E

section
variable {X : Cx} {G : Gx X.K} {a b c : Expr} {rest : List Expr} {pos : Pos}
theorem PE.imp {e : Expr} {t u : TE} (h : PE X e t) (i : ∀ σ H Q, u σ H Q → t σ H Q) : PE X e u := ⟨fun p s σ H Q I q => h.run p s σ H Q I (i σ H Q q)⟩
theorem PT.imp {e : Expr} {t u : TT} (h : PT X e t) (i : ∀ σ H Q, u σ H Q → t σ H Q) : PT X e u := ⟨fun p s σ H Q I q => h.run p s σ H Q I (i σ H Q q)⟩
theorem PW.imp {e : Expr} {t u : TT} (h : PW X e t) (i : ∀ σ H Q, u σ H Q → t σ H Q) : PW X e u := ⟨fun w p s σ H Q I q => h.run w p s σ H Q I (i σ H Q q)⟩
theorem PA.imp {e : List Expr} {t u : TA} (h : PA X e t) (i : ∀ σ H Q, u σ H Q → t σ H Q) : PA X e u := ⟨fun w p s σ H Q I q => h.run w p s σ H Q I (i σ H Q q)⟩
theorem PS.imp {e : Stmt} {t u : TS} (h : PS X e t) (i : ∀ D σ H, u D σ H → t D σ H) : PS X e u := ⟨fun p s σ H D I q => h.run p s σ H D I (i D σ H q)⟩
theorem PSs.imp {e : List Stmt} {t u : TS} (h : PSs X e t) (i : ∀ D σ H, u D σ H → t D σ H) : PSs X e u := ⟨fun p s σ H D I q => h.run p s σ H D I (i D σ H q)⟩

theorem de_var (i : Nat) {x : Str} (hN : X.N[i]? = some x := by rfl) (hv : Vis X.env.scope x := by first | exact Or.inl rfl | exact Or.inr (Or.inl rfl) | exact Or.inr (Or.inr rfl)) (hd : (x == ("__debug__" : Str)) = false := by decide)
    (hcd : (x == ("__classdict__" : Str)) = false := by decide) : PE X (.Name x pos) (upE G (dVar i)) := PE.imp (PE_lock (pe_var hN hv hd hcd)) fun σ H Q ⟨Δ, B, Qd, r, ⟨s, d, e1, e2, q⟩, k⟩ => by
  obtain ⟨v, e, h⟩ := r.freeze e1 e2
  refine ⟨v, e, ?_⟩
  rcases h with ⟨B', sb, rp, r'⟩ | ⟨p, u, hp, mu, h⟩
  · exact .inl (k _ _ _ _ _ q r' sb rp)
  · refine .inr ⟨p, u, hp, mu, fun od => ?_⟩
    obtain ⟨B', sb, rp, r'⟩ := h od
    exact k _ _ _ _ _ q r' sb rp
theorem de_c {e : Expr} {v : V} {d : D} (h : PE X e (tC v)) (hd : ∀ B, Rp G.W B v d) : PE X e (upE G (dC d)) := PE.imp h fun σ H Q ⟨Δ, B, Qd, r, q, k⟩ => k _ _ _ _ _ q r (Sub.refl _) (hd _)
theorem de_int {i j} : PE X (.Constant (.int i) j pos) (upE G (dC (.int i))) := de_c pe_int fun _ => .int _
theorem de_bl {i j} : PE X (.Constant (.bool i) j pos) (upE G (dC (.bl i))) := de_c pe_bl fun _ => .bl _
theorem de_non {j} : PE X (.Constant .none j pos) (upE G (dC .non)) := de_c pe_non fun _ => .non
theorem de_str {x j} : PE X (.Constant (.str x) j pos) (upE G (dC (.str x))) := de_c pe_str fun _ => .str _


theorem Rp.bl_inv {K : PySem.W.Frag} {W : Wd K} {B : Hp} {v : V} {k : Bool} (h : Rp W B v (.bl k)) : v = .bl k := by cases h; rfl
/-- a value that is a truth, as a test -/
theorem dt_val {ta : DTE} (h : PE X a (upE G ta)) (he : ∀ whole, isTrue a X.env whole = (do let v ← whole; standAt a.pos; holding [v] (truthy v)) := by intro _; rfl) : PT X a (upT G (dTst ta)) :=
  PT.imp (pt_val h he) fun σ H Q ⟨Δ, B, Qd, r1, q, k⟩ => ⟨Δ, B, _, r1, q, fun d Δ1 v H1 B1 ⟨bb, e, qd⟩ r1 s1 rp => by subst e; cases rp; exact ⟨bb, rfl, k _ _ _ _ qd r1 s1⟩⟩
theorem dw_and1 {ta : DTT} (ha : PT X a (upT G ta)) : PW X (.BoolOp .And [a] pos) (upT G ta) := pw_and1 ha
theorem dw_or1 {ta : DTT} (ha : PT X a (upT G ta)) : PW X (.BoolOp .Or [a] pos) (upT G ta) := pw_or1 ha
theorem dw_and {ta tb : DTT} (ha : PT X a (upT G ta)) (hb : PW X (.BoolOp .And (b :: rest) pos) (upT G tb)) : PW X (.BoolOp .And (a :: b :: rest) pos) (upT G (dAnd ta tb)) :=
  PW.imp (pw_and ha hb) fun σ H Q ⟨Δ, B, Qd, r1, q, k⟩ => ⟨Δ, B, _, r1, q, fun bb Δ1 H1 B1 q1 r1 s1 => by
    cases bb with
    | true => exact ⟨Δ1, B1, _, r1, q1, fun b2 Δ2 H2 B2 q2 r2 s2 => k _ _ _ _ q2 r2 (s1.trans s2)⟩
    | false => exact k _ _ _ _ q1 r1 s1⟩
theorem dw_or {ta tb : DTT} (ha : PT X a (upT G ta)) (hb : PW X (.BoolOp .Or (b :: rest) pos) (upT G tb)) : PW X (.BoolOp .Or (a :: b :: rest) pos) (upT G (dOr ta tb)) :=
  PW.imp (pw_or ha hb) fun σ H Q ⟨Δ, B, Qd, r1, q, k⟩ => ⟨Δ, B, _, r1, q, fun bb Δ1 H1 B1 q1 r1 s1 => by
    cases bb with
    | true => exact k _ _ _ _ q1 r1 s1
    | false => exact ⟨Δ1, B1, _, r1, q1, fun b2 Δ2 H2 B2 q2 r2 s2 => k _ _ _ _ q2 r2 (s1.trans s2)⟩⟩
theorem dt_not {ta : DTT} (ha : PT X a (upT G ta)) : PT X (.UnaryOp .Not a pos) (upT G (dNot ta)) :=
  PT.imp (pt_not ha) fun σ H Q ⟨Δ, B, Qd, r1, q, k⟩ => ⟨Δ, B, _, r1, q, fun bb Δ1 H1 B1 q1 r1 s1 => k _ _ _ _ q1 r1 s1⟩
theorem de_one {op} {ta : DTE} (h : PE X a (upE G ta)) : PE X (.BoolOp op [a] pos) (upE G ta) := pe_one h
theorem de_and {ta tb : DTE} (ha : PE X a (upE G ta)) (hb : PE X (.BoolOp .And (b :: rest) pos) (upE G tb)) : PE X (.BoolOp .And (a :: b :: rest) pos) (upE G (dAndV ta tb)) :=
  PE.imp (pe_and ha hb) fun σ H Q ⟨Δ, B, Qd, r1, q, k⟩ => ⟨Δ, B, _, r1, q, fun d Δ1 v H1 B1 ⟨bb, e, q1⟩ r1 s1 rp => by
    subst e; cases rp
    refine ⟨bb, rfl, ?_⟩
    cases bb with
    | true => exact ⟨Δ1, B1, _, r1, q1, fun d2 Δ2 v2 H2 B2 q2 r2 s2 p2 => k _ _ _ _ _ q2 r2 (s1.trans s2) p2⟩
    | false => exact k _ _ _ _ _ q1 r1 s1 (.bl _)⟩
theorem de_or {ta tb : DTE} (ha : PE X a (upE G ta)) (hb : PE X (.BoolOp .Or (b :: rest) pos) (upE G tb)) : PE X (.BoolOp .Or (a :: b :: rest) pos) (upE G (dOrV ta tb)) :=
  PE.imp (pe_or ha hb) fun σ H Q ⟨Δ, B, Qd, r1, q, k⟩ => ⟨Δ, B, _, r1, q, fun d Δ1 v H1 B1 ⟨bb, e, q1⟩ r1 s1 rp => by
    subst e; cases rp
    refine ⟨bb, rfl, ?_⟩
    cases bb with
    | true => exact k _ _ _ _ _ q1 r1 s1 (.bl _)
    | false => exact ⟨Δ1, B1, _, r1, q1, fun d2 Δ2 v2 H2 B2 q2 r2 s2 p2 => k _ _ _ _ _ q2 r2 (s1.trans s2) p2⟩⟩
theorem de_not {ta : DTE} (ha : PE X a (upE G ta)) : PE X (.UnaryOp .Not a pos) (upE G (dNotV ta)) :=
  PE.imp (pe_not ha) fun σ H Q ⟨Δ, B, Qd, r1, q, k⟩ => ⟨Δ, B, _, r1, q, fun d Δ1 v H1 B1 ⟨bb, e, q1⟩ r1 s1 rp => by
    subst e; cases rp
    exact ⟨bb, rfl, k _ _ _ _ _ q1 r1 s1 (.bl _)⟩⟩
theorem de_if {tc : DTT} {ta tb : DTE} (hc : PT X c (upT G tc)) (ha : PE X a (upE G ta)) (hb : PE X b (upE G tb)) : PE X (.IfExp c a b pos) (upE G (dIf tc ta tb)) :=
  PE.imp (pe_ifExp hc ha hb) fun σ H Q ⟨Δ, B, Qd, r1, q, k⟩ => ⟨Δ, B, _, r1, q, fun bb Δ1 H1 B1 q1 r1 s1 => by
    cases bb with
    | true => exact ⟨Δ1, B1, _, r1, q1, fun d2 Δ2 v2 H2 B2 q2 r2 s2 p2 => k _ _ _ _ _ q2 r2 (s1.trans s2) p2⟩
    | false => exact ⟨Δ1, B1, _, r1, q1, fun d2 Δ2 v2 H2 B2 q2 r2 s2 p2 => k _ _ _ _ _ q2 r2 (s1.trans s2) p2⟩⟩
theorem da_nil : PA X [] (upA G dNil) := PA.imp pa_nil fun σ H Q ⟨Δ, B, Qd, r1, q, k⟩ => k _ _ _ _ _ q r1 (Sub.refl _) .nil
theorem da_cons {e : Expr} {es : List Expr} {ta : DTE} {tr : DTA} (ha : PE X e (upE G ta)) (hr : PA X es (upA G tr)) (hs : starEach (e :: es) X.env = (false, eval e X.env) :: starEach es X.env := by rfl) : PA X (e :: es) (upA G (dCons ta tr)) :=
  PA.imp (pa_cons ha hr hs) fun σ H Q ⟨Δ, B, Qd, r1, q, k⟩ => ⟨Δ, B, _, r1, q, fun d Δ1 v H1 B1 q1 r1 s1 rp => ⟨Δ1, B1, _, r1, q1, fun ds Δ2 vs H2 B2 q2 r2 s2 rps => k _ _ _ _ _ q2 r2 (s1.trans s2) (.cons _ _ _ _ (rp.mono s2) rps)⟩⟩

end

/-! ### the promise of a def, over trees -/
abbrev SpD := List D → (D → Prop) → EX → Prop
def upSp {K : PySem.W.Frag} (W : Wd K) (sp : SpD) : Sp := fun vs H Q E => ∃ B ds Qd Ed, Grow W H B H B ∧ Rps W B vs ds ∧ sp ds Qd Ed ∧ (∀ d v H' B', Qd d → Grow W H B H' B' → Rp W B' v d → Q v H') ∧
  ∀ C H' B', Ed C → Grow W H B H' B' → E (.ref C) none H'
def dFnD (sp : SpD) (dvs : List D) (ta : DTA) : DTE := fun Δ Q E => ta Δ (fun ds Δ1 => sp (ds ++ dvs) (fun d => Q d Δ1) E) E
section
variable {X : Cx} {G : Gx X.K} {pos : Pos}
theorem up_sp {sp : SpD} {Δ : List Sl} {σ : L2.St} {H B : Hp} {vs : List V} {ds : List D} {Qd : D → Prop} {Q : VK} (r : DR G Δ σ H B) (rps : Rps G.W B vs ds) (h : sp ds Qd G.Ed)
    (k : ∀ d v H' B', Qd d → DR G Δ σ H' B' → Sub B B' → Rp G.W B' v d → Q v H') : upSp G.W sp vs H Q G.E :=
  ⟨B, ds, Qd, G.Ed, r.gr.self, rps, h, fun d v H' B' q g rp => k d v H' B' q (r.grow g) g.bas rp, fun C H' B' hC g => G.hE C H' B' hC (r.gr.trans g)⟩
theorem de_callD {CX : CXT} {k : Nat} {f : Addr} {fd : FuncData} {ps : List Str} {sp : SpD} {dvs : List V} {dds : List D} {dus : List Value} {x : Str} {p : Pos} {e : Expr} {es : List Expr} {ta : DTA} (F : FnOk X.prog X.w X.K X.mg X.base CX k f fd ps (upSp G.W sp)) (hr : Room k X.A) (hg : Gl X x) (hm : X.mg x = some (.ref f))
    (hk : PySem.W.keepIn X.K (.ref f) = true) (hb : Binds X.K fd ps dus) (hd : Vals dvs dus) (hdd : ∀ B, Rps G.W B dvs dds) (hx : Passes CX X G.E) (ha : PA X (e :: es) (upA G ta)) (hdb : (x == ("__debug__" : Str)) = false := by decide)
    (he : starEach (e :: es) X.env = (false, eval e X.env) :: starEach es X.env := by rfl) (hpl : (backTo pos (starEach es X.env)).any (·.1) = false := by rfl) : PE X (.Call (.Name x p) (e :: es) [] pos) (upE G (dFnD sp dds ta)) :=
  PE.imp (pe_call F hr hg hm hk hb hd hx ha hdb he hpl) fun σ H Q ⟨Δ, B, Qd, r1, q, k⟩ => ⟨Δ, B, _, r1, q, fun ds Δ1 vs H1 B1 q1 r1 s1 rps =>
    up_sp r1 (rps.append (hdd _)) q1 fun d v H' B' q r' s rp => k _ _ _ _ _ q r' (s1.trans s) rp⟩
theorem de_callD0 {CX : CXT} {k : Nat} {f : Addr} {fd : FuncData} {ps : List Str} {sp : SpD} {dvs : List V} {dds : List D} {dus : List Value} {x : Str} {p : Pos} (F : FnOk X.prog X.w X.K X.mg X.base CX k f fd ps (upSp G.W sp)) (hr : Room k X.A) (hg : Gl X x) (hm : X.mg x = some (.ref f))
    (hk : PySem.W.keepIn X.K (.ref f) = true) (hb : Binds X.K fd ps dus) (hd : Vals dvs dus) (hdd : ∀ B, Rps G.W B dvs dds) (hx : Passes CX X G.E) (hdb : (x == ("__debug__" : Str)) = false := by decide) : PE X (.Call (.Name x p) [] [] pos) (upE G (dFnD sp dds dNil)) :=
  PE.imp (pe_call0 F hr hg hm hk hb hd hx hdb) fun σ H Q ⟨Δ, B, Qd, r1, q, k⟩ => up_sp r1 (hdd _) q fun d v H' B' q r' s rp => k _ _ _ _ _ q r' s rp
end

/-! ### statements -/
def dSeq (t u : DTS) : DTS := fun N Δ E => t { N with nx := fun Δ' => u N Δ' E } Δ E
def dNext : DTS := fun N Δ _ => N.nx Δ
def dBrk : DTS := fun N Δ _ => N.bk Δ
def dCnt : DTS := fun N Δ _ => N.ct Δ
def dDrop (t : DTE) : DTS := fun N Δ E => t Δ (fun _ Δ1 => N.nx Δ1) E
def dRet (t : DTE) : DTS := fun N Δ E => t Δ (fun d _ => N.rt d) E
def dRetN : DTS := fun N _ _ => N.rt .non
def dIfS (c : DTT) (t u : DTS) : DTS := fun N Δ E => c Δ (fun b Δ1 => if b = true then t N Δ1 E else u N Δ1 E) E
def dNever : DTS := fun _ _ _ => False
/-- name = value -/
def dSet (i : Nat) (t : DTE) : DTS := fun N Δ E => t Δ (fun d Δ1 => N.nx (Δ1.set i (.im d))) E
/-- name = value that may be the name's own -/
def dSetM (i : Nat) (t : DTM) : DTS := fun N Δ E => t Δ (fun s Δ1 => i < Δ1.length ∧ N.nx (Δ1.set i s)) E
def dRaise (C : Addr) : DTS := fun _ _ E => E C
section
variable {X : Cx} {G : Gx X.K} {st : Stmt} {rest : List Stmt} {pos : Pos} {e : Expr}
theorem dss_nil : PSs X [] (upS G dNext) := PSs.imp pss_nil fun N σ H ⟨Δ, B, M, r, q, k, _⟩ => k _ _ _ _ q r (Sub.refl _)
theorem dss_cons {t u : DTS} (h1 : PS X st (upS G t)) (h2 : PSs X rest (upS G u)) : PSs X (st :: rest) (upS G (dSeq t u)) :=
  PSs.imp (pss_cons h1 h2) fun N σ H ⟨Δ, B, M, r, q, k1, k2, k3, k4⟩ => ⟨Δ, B, _, r, q, fun Δ1 σ1 H1 B1 q1 r1 s1 => ⟨Δ1, B1, M, r1, q1, fun a b c d x y z => k1 a b c d x y (s1.trans z), fun a b c d x y z => k2 a b c d x y (s1.trans z), fun a b c d x y z => k3 a b c d x y (s1.trans z), fun a b c d x y z => k4 a b c d x y (s1.trans z)⟩, k2, k3, k4⟩
theorem dss_one {t : DTS} (h1 : PS X st (upS G t)) : PSs X [st] (upS G t) := pss_one h1
theorem ds_pass : PS X (.Pass pos) (upS G dNext) := PS.imp ps_pass fun N σ H ⟨Δ, B, M, r, q, k, _⟩ => k _ _ _ _ q r (Sub.refl _)
theorem ds_break : PS X (.Break pos) (upS G dBrk) := PS.imp ps_break fun N σ H ⟨Δ, B, M, r, q, _, k, _⟩ => k _ _ _ _ q r (Sub.refl _)
theorem ds_continue : PS X (.Continue pos) (upS G dCnt) := PS.imp ps_continue fun N σ H ⟨Δ, B, M, r, q, _, _, k, _⟩ => k _ _ _ _ q r (Sub.refl _)
theorem ds_expr {t : DTE} (he : PE X e (upE G t)) (hs : swapsWith e none pos.line X.env = pure false := by rfl) : PS X (.Expr e pos) (upS G (dDrop t)) :=
  PS.imp (ps_expr he hs) fun N σ H ⟨Δ, B, M, r, q, k, _⟩ => ⟨Δ, B, _, r, q, fun d Δ1 v H1 B1 q1 r1 s1 _ => k _ _ _ _ q1 r1 s1⟩
theorem ds_ret {t : DTE} (he : PE X e (upE G t)) : PS X (.Return (some e) pos) (upS G (dRet t)) :=
  PS.imp (ps_ret he) fun N σ H ⟨Δ, B, M, r, q, _, _, _, k⟩ => ⟨Δ, B, _, r, q, fun d Δ1 v H1 B1 q1 r1 s1 rp => k _ _ _ _ q1 r1.gr s1 rp⟩
theorem ds_retN : PS X (.Return none pos) (upS G dRetN) := PS.imp ps_retN fun N σ H ⟨Δ, B, M, r, q, _, _, _, k⟩ => k _ _ _ _ q r.gr (Sub.refl _) .non
theorem ds_if {c : Expr} {a b : List Stmt} {tc : DTT} {t u : DTS} (hc : PT X c (upT G tc)) (ha : PSs X a (upS G t)) (hb : PSs X b (upS G u)) : PS X (.If c a b pos) (upS G (dIfS tc t u)) :=
  PS.imp (ps_if hc ha hb) fun N σ H ⟨Δ, B, M, r, q, k1, k2, k3, k4⟩ => ⟨Δ, B, _, r, q, fun bb Δ1 H1 B1 q1 r1 s1 => by
    cases bb with
    | true => exact ⟨Δ1, B1, M, r1, q1, fun a b c d x y z => k1 a b c d x y (s1.trans z), fun a b c d x y z => k2 a b c d x y (s1.trans z), fun a b c d x y z => k3 a b c d x y (s1.trans z), fun a b c d x y z => k4 a b c d x y (s1.trans z)⟩
    | false => exact ⟨Δ1, B1, M, r1, q1, fun a b c d x y z => k1 a b c d x y (s1.trans z), fun a b c d x y z => k2 a b c d x y (s1.trans z), fun a b c d x y z => k3 a b c d x y (s1.trans z), fun a b c d x y z => k4 a b c d x y (s1.trans z)⟩⟩
theorem ds_never : PS X st (upS G dNever) := PS.imp ps_never fun N σ H ⟨Δ, B, M, r, q, _⟩ => q
theorem dss_never {sts : List Stmt} : PSs X sts (upS G dNever) := PSs.imp pss_never fun N σ H ⟨Δ, B, M, r, q, _⟩ => q
theorem ds_set {i : Nat} {x : Str} {t : DTE} {pos' : Pos} (hN : X.N.Nodup) (he : PE X e (upE G t)) (hi : X.N[i]? = some x := by rfl) (hx : Loc X.env.scope x := by first | exact Or.inl rfl | exact Or.inr rfl) (hs : swapsWith e (some (.Name x pos')) pos.line X.env = pure false := by rfl)
    (hf : X.fn x = true ∨ X.env.scope.names.lookup x = some .local := by first | exact .inl rfl | exact .inr rfl | assumption) : PS X (.Assign [.Name x pos'] e pos) (upS G (dSet i t)) :=
  PS.imp (ps_set hN hi hx he hs hf) fun N σ H ⟨Δ, B, M, r, q, k, _⟩ => ⟨Δ, B, _, r, q, fun d Δ1 v H1 B1 q1 r1 s1 rp => k _ _ _ _ q1 (r1.put i rp) s1⟩
theorem ds_setM {i : Nat} {x : Str} {t : DTM} {pos' : Pos} (hN : X.N.Nodup) (he : PE X e (upM G t)) (hi : X.N[i]? = some x := by rfl) (hx : Loc X.env.scope x := by first | exact Or.inl rfl | exact Or.inr rfl) (hs : swapsWith e (some (.Name x pos')) pos.line X.env = pure false := by rfl)
    (hf : X.fn x = true ∨ X.env.scope.names.lookup x = some .local := by first | exact .inl rfl | exact .inr rfl | assumption) : PS X (.Assign [.Name x pos'] e pos) (upS G (dSetM i t)) :=
  PS.imp (ps_set hN hi hx he hs hf) fun N σ H ⟨Δ, B, M, r, q, k, _⟩ => ⟨Δ, B, _, r, q, fun s Δ1 v H1 B1 ⟨hl, q1⟩ r1 s1 => k _ _ _ _ q1 (r1.move hl) s1⟩
end
end DL
-- DLops
set_option Elab.async false
set_option linter.all false
set_option maxRecDepth 100000
set_option maxHeartbeats 2000000
set_option autoImplicit false
namespace DL
open PySem PySem.Spec L2
open PyProof.Rows (b2i)

/-! ### values that an operation reads, values that it makes -/
section
variable {K : PySem.W.Frag}
def RpH (W : Wd K) (B H : Hp) (v : V) (d : D) : Prop := ∃ s f, SlR W B H s (some v) f ∧ s.er = some d
structure NewV (W : Wd K) (H B H' B' : Hp) (s : Sl) (v : V) : Prop where
  gr : Grow W H B H' B'
  sl : ∃ f, SlR W B' H' s (some v) f ∧ ∀ a ∈ f, H a = none ∧ B' a = none
variable {W : Wd K} {B H : Hp} {v : V}
theorem RpH.of {d : D} (h : Rp W B v d) : RpH W B H v d := ⟨_, _, .im _ _ h, rfl⟩
theorem RpH.lst {ds : List D} (h : RpH W B H v (.lst ds)) (sb : Sub B H) : ∃ a vs, v = .ref a ∧ H a = some (.lst vs) ∧ Rps W B vs ds := by
  obtain ⟨s, f, h, e⟩ := h
  cases h with
  | un => cases e
  | im d v q => cases e; cases q with | lst a vs _ e q => exact ⟨a, vs, rfl, sb _ _ e, q⟩
  | ol _ p vs h q => cases e; exact ⟨p, vs, rfl, h, q⟩
  | ok _ p kvs h _ q => cases e
  | ot _ p kvs h _ q => cases e
  | oi _ _ p dx fs h _ q => cases e
theorem RpH.dk {ds : List (Key × D)} (h : RpH W B H v (.dk ds)) (sb : Sub B H) : ∃ a kvs, v = .ref a ∧ Rd H a (.dK kvs) ∧ kvs.map (·.1) = ds.map (·.1) ∧ Rps W B (kvs.map (·.2)) (ds.map (·.2)) := by
  obtain ⟨s, f, h, e⟩ := h
  cases h with
  | un => cases e
  | im d v q => cases e; cases q with | dk a od kvs _ e k q => exact ⟨a, kvs, rfl, .inr ⟨od, sb _ _ e⟩, k, q⟩
  | ol _ p vs h q => cases e
  | ok _ p kvs h k q => cases e; exact ⟨p, kvs, rfl, .inl h, k, q⟩
  | ot _ p kvs h _ q => cases e
  | oi _ _ p dx fs h _ q => cases e
theorem RpH.dt {ds : List (List Key × D)} (h : RpH W B H v (.dt ds)) (sb : Sub B H) : ∃ a kvs, v = .ref a ∧ Rd H a (.dT kvs) ∧ kvs.map (·.1) = ds.map (·.1) ∧ Rps W B (kvs.map (·.2)) (ds.map (·.2)) := by
  obtain ⟨s, f, h, e⟩ := h
  cases h with
  | un => cases e
  | im d v q => cases e; cases q with | dt a od kvs _ e k q => exact ⟨a, kvs, rfl, .inr ⟨od, sb _ _ e⟩, k, q⟩
  | ol _ p vs h q => cases e
  | ok _ p kvs h k q => cases e
  | ot _ p kvs h k q => cases e; exact ⟨p, kvs, rfl, .inl h, k, q⟩
  | oi _ _ p dx fs h _ q => cases e
theorem RpH.obj {C : Addr} {ds : List (Str × D)} (h : RpH W B H v (.obj C ds)) (sb : Sub B H) : ∃ a dx fs, v = .ref a ∧ H a = some (.ins C dx fs) ∧ fs.map (·.1) = ds.map (·.1) ∧ Rps W B (fs.map (·.2)) (ds.map (·.2)) := by
  obtain ⟨s, f, h, e⟩ := h
  cases h with
  | un => cases e
  | im d v q => cases e; cases q with | obj a C dx fs _ e k q => exact ⟨a, dx, fs, rfl, sb _ _ e, k, q⟩
  | ol _ p vs h q => cases e
  | ok _ p kvs h k q => cases e
  | ot _ p kvs h k q => cases e
  | oi _ _ p dx fs h k q => cases e; exact ⟨_, dx, fs, rfl, h, k, q⟩
/-- what is neither a list, a dict nor an object is clean -/
def D.flat : D → Bool
  | .lst _ => false
  | .dk _ => false
  | .dt _ => false
  | .obj _ _ => false
  | _ => true
theorem RpH.rp {d : D} (h : RpH W B H v d) (hd : d.flat = true) : Rp W B v d := by
  obtain ⟨s, f, h, e⟩ := h
  cases h with
  | un => cases e
  | im d v q => cases e; exact q
  | ol _ p vs h q => cases e; cases hd
  | ok _ p kvs h k q => cases e; cases hd
  | ot _ p kvs h k q => cases e; cases hd
  | oi _ _ p dx fs h k q => cases e; cases hd
theorem RpH.int {i : Int} (h : RpH W B H v (.int i)) : v = .int i := by cases h.rp rfl; rfl
theorem RpH.bl {i : Bool} (h : RpH W B H v (.bl i)) : v = .bl i := by cases h.rp rfl; rfl
theorem RpH.str {i : Str} (h : RpH W B H v (.str i)) : v = .str i := by cases h.rp rfl; rfl
theorem RpH.non (h : RpH W B H v .non) : v = .non := by cases h.rp rfl; rfl
theorem RpH.tup {ds : List D} (h : RpH W B H v (.tup ds)) (sb : Sub B H) : ∃ a vs, v = .ref a ∧ H a = some (.tup vs) ∧ Rps W B vs ds := by
  cases h.rp rfl with | tup a vs _ e q => exact ⟨a, vs, rfl, sb _ _ e, q⟩
theorem RpH.wt {ds : List D} (h : RpH W B H v (.wt ds)) (sb : Sub B H) : ∃ a vs, v = .ref a ∧ SqT K H a vs ∧ Rps W B vs ds := by
  cases h.rp rfl with | wt a vs _ e q => exact ⟨a, vs, rfl, sb.sqT e, q⟩
theorem RpH.scr {ns : List Int} (h : RpH W B H v (.scr ns)) (sb : Sub B H) : ∃ a vs, v = .ref a ∧ SqL K H a vs ∧ vs = ns.map V.int := by
  cases h.rp rfl with | scr a vs _ e q => exact ⟨a, vs, rfl, sb.sqL e, q⟩
theorem Grow.sb {H0 B0 : Hp} (g : Grow W H0 B0 H B) : Sub B H := fun a o e => (g.sub a o e).1
theorem NewV.clean {H0 B0 : Hp} (g : Grow W H0 B0 H B) {d : D} (h : Rp W B v d) : NewV W H B H B (.im d) v := ⟨g.self, [], .im _ _ h, fun _ z => by cases z⟩
theorem NewV.lst {H0 B0 : Hp} (g : Grow W H0 B0 H B) {p : Addr} {vs : List V} {ds : List D} (hp : H p = none) (r : Rps W B vs ds) : NewV W H B (upd H p (.lst vs)) B (.ol ds) (.ref p) :=
  ⟨g.allocO hp, [p], .ol _ _ _ upd_same r, fun a ha => by
    simp at ha; subst ha
    refine ⟨hp, ?_⟩
    cases e : B a with
    | none => rfl
    | some u => rw [g.sb _ _ e] at hp; cases hp⟩
theorem NewV.dk {H0 B0 : Hp} (g : Grow W H0 B0 H B) {p : Addr} {vs : List (Key × V)} {ds : List (Key × D)} (hp : H p = none) (k : vs.map (·.1) = ds.map (·.1)) (r : Rps W B (vs.map (·.2)) (ds.map (·.2))) : NewV W H B (upd H p (.dK vs)) B (.ok ds) (.ref p) :=
  ⟨g.allocO hp, [p], .ok _ _ _ upd_same k r, fun a ha => by
    simp at ha; subst ha
    refine ⟨hp, ?_⟩
    cases e : B a with
    | none => rfl
    | some u => rw [g.sb _ _ e] at hp; cases hp⟩
theorem NewV.dt {H0 B0 : Hp} (g : Grow W H0 B0 H B) {p : Addr} {vs : List (List Key × V)} {ds : List (List Key × D)} (hp : H p = none) (k : vs.map (·.1) = ds.map (·.1)) (r : Rps W B (vs.map (·.2)) (ds.map (·.2))) : NewV W H B (upd H p (.dT vs)) B (.ot ds) (.ref p) :=
  ⟨g.allocO hp, [p], .ot _ _ _ upd_same k r, fun a ha => by
    simp at ha; subst ha
    refine ⟨hp, ?_⟩
    cases e : B a with
    | none => rfl
    | some u => rw [g.sb _ _ e] at hp; cases hp⟩
theorem NewV.tup {H0 B0 : Hp} (g : Grow W H0 B0 H B) {p : Addr} {vs : List V} {ds : List D} (hp : H p = none) (r : Rps W B vs ds) : NewV W H B (upd H p (.tup vs)) (upd B p (.tup vs)) (.im (.tup ds)) (.ref p) := by
  have g1 := g.alloc (o := .tup vs) hp (fun _ z => by cases z)
  exact ⟨g1, [], .im _ _ (.tup _ _ _ upd_same (r.mono g1.bas)), fun _ z => by cases z⟩
end
section
variable {K : PySem.W.Frag} {G : Gx K} {Δ : List Sl} {σ : L2.St} {H B H' B' : Hp}
theorem DR.hangS (r : DR G Δ σ H B) {s : Sl} {v : V} (n : NewV G.W H B H' B' s v) : DR G (Δ ++ [s]) (σ ++ [some v]) H' B' := by
  obtain ⟨f, hs, hf⟩ := n.sl
  obtain ⟨fp, S0⟩ := r.sl
  have S := S0.grow n.gr
  have nw : ∀ a ∈ f, G.H0 a = none ∧ ¬ G.W.fv a := fun a ha => ⟨by
    cases e : G.H0 a with
    | none => rfl
    | some u => exact absurd (hf a ha).1 (r.gr.dom a (by rw [e]; simp)), (solid_new (o := HO.own a) r.wok (hf a ha).1 (fun _ => by simp)).2⟩
  have np : ∀ j a, a ∈ fp j → a ∉ f := fun j a ha z => by
    obtain ⟨o, h, _⟩ := (S0.ou j a ha).2.2.2
    rw [(hf a z).1] at h; cases h
  refine ⟨r.gr.trans n.gr, fun j => if j < Δ.length then fp j else if j = Δ.length then f else [], by simp [S.len], fun j x e => ?_, fun j k a h1 h2 => ?_, fun j a h => ?_⟩
  · by_cases hj : j < Δ.length
    · rw [List.getElem?_append_left hj] at e
      obtain ⟨w, q1, q2⟩ := S.at_ j x e
      refine ⟨w, by rw [List.getElem?_append_left (by rw [← S.len]; exact hj)]; exact q1, ?_⟩
      simp only [if_pos hj]; exact q2
    · rw [List.getElem?_append_right (by omega)] at e
      have z : j - Δ.length = 0 := by
        cases h : j - Δ.length with
        | zero => rfl
        | succ n => rw [h] at e; simp at e
      rw [z] at e; simp at e; subst e
      refine ⟨_, by rw [List.getElem?_append_right (by rw [← S.len]; omega), ← S.len, z]; rfl, ?_⟩
      simp only [if_neg hj, if_pos (show j = Δ.length by omega)]; exact hs
  · try dsimp only at h1 h2
    split at h1
    · split at h2
      · exact S.dj _ _ a h1 h2
      · split at h2
        · exact absurd h2 (np _ a h1)
        · cases h2
    · split at h1
      · split at h2
        · exact absurd h1 (np _ a h2)
        · split at h2
          · omega
          · cases h2
      · cases h1
  · try dsimp only at h
    split at h
    · exact S.ou j a h
    · split at h
      · exact ⟨(hf a h).2, (nw a h).1, (nw a h).2, hs.there a h⟩
      · cases h
/-- what hangs behind becomes clean -/
theorem DR.unhang {s : Sl} {v : V} {d : D} (r : DR G (Δ ++ [s]) (σ ++ [some v]) H B) (e : s.er = some d) : (∃ B', Sub B B' ∧ Rp G.W B' v d ∧ DR G Δ σ H B') ∨ ∃ p u, H p = some u ∧ Mut (some u) ∧ ∀ od, ∃ B', Sub B B' ∧ Rp G.W B' v d ∧ DR G Δ σ (upd H p (.frz od u)) B' := by
  have hl : Δ.length = σ.length := by obtain ⟨fp, S⟩ := r.sl; have := S.len; simpa using this
  obtain ⟨w, e1, h⟩ := r.freeze (i := Δ.length) (s := s) (by rw [List.getElem?_append_right (Nat.le_refl _)]; simp) e
  rw [hl, List.getElem?_append_right (Nat.le_refl _)] at e1
  simp at e1; subst e1
  have e2 : (Δ ++ [s]).set Δ.length (Sl.im d) = Δ ++ [Sl.im d] := by simp
  rw [e2] at h
  rcases h with ⟨B', sb, rp, r'⟩ | ⟨p, u, hp, mu, h⟩
  · exact .inl ⟨B', sb, rp, r'.drop⟩
  · exact .inr ⟨p, u, hp, mu, fun od => let ⟨B', sb, rp, r'⟩ := h od; ⟨B', sb, rp, r'.drop⟩⟩
end

/-! ### from one kind of reading to another -/
def res (Δ : List Sl) : Od → Option D
  | .inl d => some d
  | .inr i => (Δ[i]?).bind Sl.er
def dClean (t : DTM) : DTE := fun Δ Q E => t Δ (fun s Δ' => ∃ d, s.er = some d ∧ Q d Δ') E
def dIm (t : DTE) : DTM := fun Δ Q E => t Δ (fun d Δ' => Q (.im d) Δ') E
def dO (t : DTE) : DTO := fun Δ Q E => t Δ (fun d Δ' => Q (.inl d) Δ') E
def dB (i : Nat) : DTO := fun Δ Q _ => (∃ s d, Δ[i]? = some s ∧ s.er = some d) ∧ Q (.inr i) Δ
abbrev DTAO := List Sl → (List Od → List Sl → Prop) → EX → Prop
def dNilO : DTAO := fun Δ Q _ => Q [] Δ
def dConsO (ta : DTO) (tr : DTAO) : DTAO := fun Δ Q E => ta Δ (fun x Δ1 => tr Δ1 (fun xs Δ2 => Q (x :: xs) Δ2) E) E
section
variable {X : Cx} {G : Gx X.K} {a b c : Expr} {rest : List Expr} {pos : Pos}
theorem de_of_m {e : Expr} {t : DTM} (h : PE X e (upM G t)) : PE X e (upE G (dClean t)) := PE.imp (PE_lock h) fun σ H Q ⟨Δ, B, Qd, r, q, k⟩ => ⟨Δ, B, _, r, q, fun s Δ' v H' B' ⟨d, e, qd⟩ r' sb => by
  rcases r'.unhang e with ⟨B2, s2, rp, r2⟩ | ⟨p, u, hp, mu, h2⟩
  · exact .inl (k _ _ _ _ _ qd r2 (sb.trans s2) rp)
  · refine .inr ⟨p, u, hp, mu, fun od => ?_⟩
    obtain ⟨B2, s2, rp, r2⟩ := h2 od
    exact k _ _ _ _ _ qd r2 (sb.trans s2) rp⟩
theorem dm_of_e {e : Expr} {t : DTE} (h : PE X e (upE G t)) : PE X e (upM G (dIm t)) := PE.imp h fun σ H Q ⟨Δ, B, Qd, r, q, k⟩ => ⟨Δ, B, _, r, q, fun d Δ' v H' B' qd r' sb rp => k _ _ _ _ _ qd (r'.hang rp) sb⟩
theorem do_of_e {e : Expr} {t : DTE} (h : PE X e (upE G t)) : PE X e (upO G (dO t)) := PE.imp h fun σ H Q ⟨Δ, B, Qd, r, q, k⟩ => ⟨Δ, B, _, r, q, fun d Δ' v H' B' qd r' sb rp => k _ _ _ _ _ qd r' sb rp⟩
theorem do_name (i : Nat) {x : Str} (hN : X.N[i]? = some x := by rfl) (hv : Vis X.env.scope x := by first | exact Or.inl rfl | exact Or.inr (Or.inl rfl) | exact Or.inr (Or.inr rfl)) (hd : (x == ("__debug__" : Str)) = false := by decide)
    (hcd : (x == ("__classdict__" : Str)) = false := by decide) : PE X (.Name x pos) (upO G (dB i)) := PE.imp (pe_var hN hv hd hcd) fun σ H Q ⟨Δ, B, Qd, r, ⟨⟨s, d, e1, e2⟩, q⟩, k⟩ => by
  obtain ⟨fp, S⟩ := r.sl
  obtain ⟨v, h1, h2⟩ := S.at_ i s e1
  generalize fp i = f at h2
  have : ∃ w, v = some w := by
    cases h2 with
    | un => cases e2
    | im d v q => exact ⟨_, rfl⟩
    | ol _ p vs h q => exact ⟨_, rfl⟩
    | ok _ p kvs h k q => exact ⟨_, rfl⟩
    | ot _ p kvs h k q => exact ⟨_, rfl⟩
    | oi _ _ p dx fs h k q => exact ⟨_, rfl⟩
  obtain ⟨w, rfl⟩ := this
  exact ⟨w, h1, k (.inr i) _ _ _ _ q r (Sub.refl _) h1⟩
theorem dao_nil : PA X [] (upAO G dNilO) := PA.imp pa_nil fun σ H Q ⟨Δ, B, Qd, r1, q, k⟩ => k _ _ _ _ _ q r1 (Sub.refl _) .nil
theorem OdV.mono {K : PySem.W.Frag} {W : Wd K} {B B' : Hp} {σ : L2.St} {o : Od} {v : V} (h : OdV W B σ o v) (s : Sub B B') : OdV W B' σ o v := by
  cases o with
  | inl d => exact Rp.mono h s
  | inr i => exact h
theorem dao_cons {e : Expr} {es : List Expr} {ta : DTO} {tr : DTAO} (ha : PE X e (upO G ta)) (hr : PA X es (upAO G tr)) (hs : starEach (e :: es) X.env = (false, eval e X.env) :: starEach es X.env := by rfl) : PA X (e :: es) (upAO G (dConsO ta tr)) :=
  PA.imp (pa_cons ha hr hs) fun σ H Q ⟨Δ, B, Qd, r1, q, k⟩ => ⟨Δ, B, _, r1, q, fun o Δ1 v H1 B1 q1 r1 s1 rp => ⟨Δ1, B1, _, r1, q1, fun os Δ2 vs H2 B2 q2 r2 s2 rps => k _ _ _ _ _ q2 r2 (s1.trans s2) (.cons (rp.mono s2) rps)⟩⟩
theorem OdV.res {Δ : List Sl} {σ : L2.St} {H B : Hp} (r : DR G Δ σ H B) {o : Od} {v : V} {d : D} (h : OdV G.W B σ o v) (e : res Δ o = some d) : RpH G.W B H v d := by
  cases o with
  | inl x => simp only [DL.res, Option.some.injEq] at e; subst e; exact .of h
  | inr i =>
    have e : (Δ[i]?).bind Sl.er = some d := e
    cases hs : Δ[i]? with
    | none => rw [hs] at e; cases e
    | some s =>
      rw [hs] at e
      obtain ⟨fp, S⟩ := r.sl
      obtain ⟨w, h1, h2⟩ := S.at_ i s hs
      have h : σ[i]? = some (some v) := h
      rw [h] at h1; cases h1
      exact ⟨s, _, h2, e⟩

/-! ### operators -/
def R2M (W : Wd X.K) (r : R2) (rd : D → D → (Sl → Prop) → Prop) : Prop := ∀ (H0 B0 H B : Hp) (x y : V) (dx dy : D) (Qd : Sl → Prop) (Q : VK), Grow W H0 B0 H B → RpH W B H x dx → RpH W B H y dy → rd dx dy Qd →
  (∀ s v H' B', Qd s → NewV W H B H' B' s v → Q v H') → r x y H Q
def R2B (W : Wd X.K) (r : R2) (rd : D → D → (Bool → Prop) → Prop) : Prop := ∀ (H0 B0 H B : Hp) (x y : V) (dx dy : D) (Qd : Bool → Prop) (Q : VK), Grow W H0 B0 H B → RpH W B H x dx → RpH W B H y dy → rd dx dy Qd →
  (∀ b, Qd b → Q (.bl b) H) → r x y H Q
end
def two (Δ : List Sl) (x y : Od) (P : D → D → Prop) : Prop := ∃ d e, res Δ x = some d ∧ res Δ y = some e ∧ P d e
def dOpM (rd : D → D → (Sl → Prop) → Prop) (ta tb : DTO) : DTM := fun Δ Q E => ta Δ (fun x Δ1 => tb Δ1 (fun y Δ2 => two Δ2 x y fun d e => rd d e fun s => Q s Δ2) E) E
def dCmpE (rd : D → D → (Bool → Prop) → Prop) (ta tb : DTO) : DTE := fun Δ Q E => ta Δ (fun x Δ1 => tb Δ1 (fun y Δ2 => two Δ2 x y fun d e => rd d e fun b => Q (.bl b) Δ2) E) E
def dCmpT (rd : D → D → (Bool → Prop) → Prop) (ta tb : DTO) : DTT := fun Δ Q E => ta Δ (fun x Δ1 => tb Δ1 (fun y Δ2 => two Δ2 x y fun d e => rd d e fun b => Q b Δ2) E) E
/-- a < b < c -/
def dChainE (rd rd' : D → D → (Bool → Prop) → Prop) (ta tb tc : DTO) : DTE := fun Δ Q E => ta Δ (fun x Δ1 => tb Δ1 (fun y Δ2 => two Δ2 x y fun d e => rd d e fun b => if b = true then tc Δ2 (fun z Δ3 => two Δ3 y z fun e f => rd' e f fun b' => Q (.bl b') Δ3) E else Q (.bl false) Δ2) E) E
section
variable {X : Cx} {G : Gx X.K} {a b c : Expr} {rest : List Expr} {pos : Pos}
theorem dm_op {op : Operator} {r : R2} {rd : D → D → (Sl → Prop) → Prop} {ta tb : DTO} (ho : OpR X (binaryOp op) r) (hr : R2M G.W r rd) (ha : PE X a (upO G ta)) (hb : PE X b (upO G tb)) : PE X (.BinOp a op b pos) (upM G (dOpM rd ta tb)) :=
  PE.imp (pe_op ho ha hb) fun σ H Q ⟨Δ, B, Qd, r1, q, k⟩ => ⟨Δ, B, _, r1, q, fun d1 Δ1 v1 H1 B1 q1 r1 s1 p1 => ⟨Δ1, B1, _, r1, q1, fun d2 Δ2 v2 H2 B2 ⟨d, e, e1, e2, q2⟩ r2 s2 p2 =>
    hr _ _ _ _ _ _ _ _ _ _ r2.gr ((p1.mono s2).res r2 e1) (p2.res r2 e2) q2 fun s v H' B' qd n => k _ _ _ _ _ qd (r2.hangS n) ((s1.trans s2).trans n.gr.bas)⟩⟩
theorem de_cmp {op : CmpOp} {r : R2} {rd : D → D → (Bool → Prop) → Prop} {ta tb : DTO} (ho : OpR X (compareOp op) r) (hr : R2B G.W r rd) (ha : PE X a (upO G ta)) (hb : PE X b (upO G tb)) (hm : behindInMarks op b = false := by first | exact nomark _ | rfl) : PE X (.Compare a [op] [b] pos) (upE G (dCmpE rd ta tb)) :=
  PE.imp (pe_cmpR ho ha hb hm) fun σ H Q ⟨Δ, B, Qd, r1, q, k⟩ => ⟨Δ, B, _, r1, q, fun d1 Δ1 v1 H1 B1 q1 r1 s1 p1 => ⟨Δ1, B1, _, r1, q1, fun d2 Δ2 v2 H2 B2 ⟨d, e, e1, e2, q2⟩ r2 s2 p2 =>
    hr _ _ _ _ _ _ _ _ _ _ r2.gr ((p1.mono s2).res r2 e1) (p2.res r2 e2) q2 fun bb qd => k _ _ _ _ _ qd r2 (s1.trans s2) (.bl _)⟩⟩
theorem dt_cmp {op : CmpOp} {r : R2} {rd : D → D → (Bool → Prop) → Prop} {ta tb : DTO} (ho : OpR X (compareOp op) r) (hr : R2B G.W r rd) (ha : PE X a (upO G ta)) (hb : PE X b (upO G tb)) (hm : behindInMarks op b = false := by first | exact nomark _ | rfl) : PT X (.Compare a [op] [b] pos) (upT G (dCmpT rd ta tb)) :=
  PT.imp (pt_cmpR ho ha hb hm) fun σ H Q ⟨Δ, B, Qd, r1, q, k⟩ => ⟨Δ, B, _, r1, q, fun d1 Δ1 v1 H1 B1 q1 r1 s1 p1 => ⟨Δ1, B1, _, r1, q1, fun d2 Δ2 v2 H2 B2 ⟨d, e, e1, e2, q2⟩ r2 s2 p2 =>
    hr _ _ _ _ _ _ _ _ _ _ r2.gr ((p1.mono s2).res r2 e1) (p2.res r2 e2) q2 fun bb qd => ⟨bb, rfl, k _ _ _ _ qd r2 (s1.trans s2)⟩⟩⟩
theorem de_chain {op op' : CmpOp} {r r' : R2} {rd rd' : D → D → (Bool → Prop) → Prop} {ta tb tc : DTO} (ho : OpR X (compareOp op) r) (ho' : OpR X (compareOp op') r') (hr : R2B G.W r rd) (hr' : R2B G.W r' rd') (ha : PE X a (upO G ta)) (hb : PE X b (upO G tb)) (hc : PE X c (upO G tc)) (hm : lastMarks [op, op'] [b, c] = false := by with_unfolding_all rfl) : PE X (.Compare a [op, op'] [b, c] pos) (upE G (dChainE rd rd' ta tb tc)) :=
  PE.imp (pe_chain ho ho' ha hb hc hm) fun σ H Q ⟨Δ, B, Qd, r1, q, k⟩ => ⟨Δ, B, _, r1, q, fun d1 Δ1 v1 H1 B1 q1 r1 s1 p1 => ⟨Δ1, B1, _, r1, q1, fun d2 Δ2 v2 H2 B2 ⟨d, e, e1, e2, q2⟩ r2 s2 p2 =>
    hr _ _ _ _ _ _ _ _ _ _ r2.gr ((p1.mono s2).res r2 e1) (p2.res r2 e2) q2 fun bb qd => ⟨bb, rfl, by
      cases bb with
      | true => exact ⟨Δ2, B2, _, r2, qd, fun d3 Δ3 v3 H3 B3 ⟨d, e, e1, e2, q3⟩ r3 s3 p3 => hr' _ _ _ _ _ _ _ _ _ _ r3.gr ((p2.mono s3).res r3 e1) (p3.res r3 e2) q3 fun b3 qd => k _ _ _ _ _ qd r3 ((s1.trans s2).trans s3) (.bl _)⟩
      | false => exact k _ _ _ _ _ qd r2 (s1.trans s2) (.bl _)⟩⟩⟩
end
end DL
-- DLrules
set_option Elab.async false
set_option linter.all false
set_option maxRecDepth 100000
set_option maxHeartbeats 2000000
set_option autoImplicit false
namespace DL
open PySem PySem.Spec L2
open PyProof.Rows hiding St

section
variable {X : Cx} {W : Wd X.K}
/-! ### + and * -/
def rdAdd : D → D → (Sl → Prop) → Prop
  | .int i, .int j, Q => Q (.im (.int (i + j)))
  | .int i, .bl k, Q => Q (.im (.int (i + b2i k)))
  | .str x, .str y, Q => x.length + y.length ≤ sizeLine ∧ Q (.im (.str (x ++ y)))
  | .lst xs, .lst ys, Q => xs.length + ys.length ≤ sizeLine ∧ Q (.ol (xs ++ ys))
  | .tup xs, .tup ys, Q => xs.length + ys.length ≤ sizeLine ∧ Q (.im (.tup (xs ++ ys)))
  | _, _, _ => False
abbrev orR (r r' : R2) : R2 := fun x y H Q => r x y H Q ∨ r' x y H Q
def rAdd5 (K : PySem.W.Frag) : R2 := orR (rI0 fun i j => .int (i + j)) (orR (fun x y H Q => ∃ i k, x = .int i ∧ y = .bl k ∧ Q (.int (i + b2i k)) H) (orR (fun x y H Q => ∃ i j, x = .str i ∧ y = .str j ∧ i.length + j.length ≤ sizeLine ∧ Q (.str (i ++ j)) H) (orR rCat (rCatA K))))
theorem op_add5 : OpR X (binaryOp .Add) (rAdd5 X.K) := op_add.or (op_add_ib.or (op_add_str.or (op_cat.or op_catA)))
theorem Rps.nil_iff {K : PySem.W.Frag} {W : Wd K} {B : Hp} {vs : List V} {ds : List D} (h : Rps W B vs ds) : vs = [] ↔ ds = [] := by
  have := h.length
  rw [← List.length_eq_zero_iff, ← List.length_eq_zero_iff, this]
theorem r2_add : R2M W (rAdd5 X.K) rdAdd := by
  intro H0 B0 H B x y dx dy Qd Q g rx ry h k
  unfold rdAdd at h
  split at h
  · obtain rfl := rx.int; obtain rfl := ry.int; exact .inl ⟨_, _, rfl, rfl, k _ _ _ _ h (.clean g (.int _))⟩
  · obtain rfl := rx.int; obtain rfl := ry.bl; exact .inr (.inl ⟨_, _, rfl, rfl, k _ _ _ _ h (.clean g (.int _))⟩)
  · obtain rfl := rx.str; obtain rfl := ry.str; exact .inr (.inr (.inl ⟨_, _, rfl, rfl, h.1, k _ _ _ _ h.2 (.clean g (.str _))⟩))
  · obtain ⟨hz, h⟩ := h
    obtain ⟨a, vs, rfl, e1, q1⟩ := rx.lst g.sb
    obtain ⟨b, ws, rfl, e2, q2⟩ := ry.lst g.sb
    exact .inr (.inr (.inr (.inl ⟨a, b, vs, ws, rfl, rfl, e1, e2, by rw [q1.length, q2.length]; exact hz, fun p hp => k _ _ _ _ h (.lst g hp (q1.append q2))⟩)))
  · obtain ⟨hz, h⟩ := h
    obtain ⟨a, vs, rfl, e1, q1⟩ := rx.tup g.sb
    obtain ⟨b, ws, rfl, e2, q2⟩ := ry.tup g.sb
    refine .inr (.inr (.inr (.inr ⟨a, b, vs, ws, rfl, rfl, .of e1, .of e2, by rw [q1.length, q2.length]; exact hz, fun z => ?_, fun _ z => ?_, fun _ _ p hp => k _ _ _ _ h (.tup g hp (q1.append q2))⟩)))
    · have := q1.nil_iff.mp z
      subst this
      exact k _ _ _ _ h (.clean g (ry.rp rfl))
    · have := q2.nil_iff.mp z
      subst this
      rw [List.append_nil] at h
      exact k _ _ _ _ h (.clean g (rx.rp rfl))
  · exact h.elim
def rdMul : D → D → (Sl → Prop) → Prop
  | .int i, .int j, Q => CMul i j ∧ Q (.im (.int (i * j)))
  | .lst xs, .int k, Q => -(2 ^ 63) ≤ k ∧ k < 2 ^ 63 ∧ xs.length * k.toNat ≤ sizeLine ∧ Q (.ol (List.replicate k.toNat xs).flatten)
  | .tup xs, .int k, Q => xs ≠ [] ∧ 2 ≤ k ∧ k ≤ 1000 ∧ xs.length ≤ 1000 ∧ Q (.im (.tup (List.replicate k.toNat xs).flatten))
  | _, _, _ => False
def rMul3 (K : PySem.W.Frag) : R2 := orR (rI CMul fun i j => .int (i * j)) (orR rRep (rRepT K))
theorem op_mul3 : OpR X (binaryOp .Mult) (rMul3 X.K) := op_mul.or (op_rep.or op_repT)
theorem Rps.rep {K : PySem.W.Frag} {W : Wd K} {B : Hp} {vs : List V} {ds : List D} (h : Rps W B vs ds) (n : Nat) : Rps W B (List.replicate n vs).flatten (List.replicate n ds).flatten := by
  induction n with
  | zero => exact .nil
  | succ n ih => simp only [List.replicate_succ, List.flatten_cons]; exact h.append ih
theorem r2_mul : R2M W (rMul3 X.K) rdMul := by
  intro H0 B0 H B x y dx dy Qd Q g rx ry h k
  unfold rdMul at h
  split at h
  · obtain rfl := rx.int; obtain rfl := ry.int; exact .inl ⟨_, _, rfl, rfl, h.1, k _ _ _ _ h.2 (.clean g (.int _))⟩
  · obtain ⟨h1, h2, h3, h⟩ := h
    obtain ⟨a, vs, rfl, e1, q1⟩ := rx.lst g.sb
    obtain rfl := ry.int
    exact .inr (.inl ⟨a, _, vs, rfl, rfl, e1, h1, h2, by rw [q1.length]; exact h3, fun p hp => k _ _ _ _ h (.lst g hp (q1.rep _))⟩)
  · obtain ⟨h0, h1, h2, h3, h⟩ := h
    obtain ⟨a, vs, rfl, e1, q1⟩ := rx.tup g.sb
    obtain rfl := ry.int
    exact .inr (.inr ⟨a, _, vs, rfl, rfl, .of e1, fun z => h0 (q1.nil_iff.mp z), h1, h2, by rw [q1.length]; exact h3, fun p hp => k _ _ _ _ h (.tup g hp (q1.rep _))⟩)
  · exact h.elim
/-! ### ints -/
def rdI (C : Int → Int → Prop) (f : Int → Int → Int) : D → D → (Sl → Prop) → Prop
  | .int i, .int j, Q => C i j ∧ Q (.im (.int (f i j)))
  | _, _, _ => False
theorem r2_int {C : Int → Int → Prop} {f : Int → Int → Int} : R2M W (rI C fun i j => .int (f i j)) (rdI C f) := by
  intro H0 B0 H B x y dx dy Qd Q g rx ry h k
  unfold rdI at h
  split at h
  · obtain rfl := rx.int; obtain rfl := ry.int; exact ⟨_, _, rfl, rfl, h.1, k _ _ _ _ h.2 (.clean g (.int _))⟩
  · exact h.elim
def rdI0 (f : Int → Int → Int) : D → D → (Sl → Prop) → Prop
  | .int i, .int j, Q => Q (.im (.int (f i j)))
  | _, _, _ => False
theorem r2_int0 {f : Int → Int → Int} : R2M W (rI0 fun i j => .int (f i j)) (rdI0 f) := by
  intro H0 B0 H B x y dx dy Qd Q g rx ry h k
  unfold rdI0 at h
  split at h
  · obtain rfl := rx.int; obtain rfl := ry.int; exact ⟨_, _, rfl, rfl, k _ _ _ _ h (.clean g (.int _))⟩
  · exact h.elim
def rdC (f : Int → Int → Bool) : D → D → (Bool → Prop) → Prop
  | .int i, .int j, Q => Q (f i j)
  | _, _, _ => False
theorem r2_cmp0 {f : Int → Int → Bool} : R2B W (rI0 fun i j => .bl (f i j)) (rdC f) := by
  intro H0 B0 H B x y dx dy Qd Q g rx ry h k
  unfold rdC at h
  split at h
  · obtain rfl := rx.int; obtain rfl := ry.int; exact ⟨_, _, rfl, rfl, k _ h⟩
  · exact h.elim
abbrev rdSub := rdI0 fun i j => i - j
abbrev rdMod := rdI (fun _ j => 0 < j) fun i j => i % j
abbrev rdDiv := rdI CDiv fun i j => i / j
abbrev rdDivW := rdI CDivW fun i j => i / j
abbrev rdPow := rdI CPow fun i j => i ^ j.toNat
abbrev rdShl := rdI CPow fun i j => i * 2 ^ j.toNat
abbrev rdShr := rdI (fun _ j => 0 ≤ j) fun i j => i / 2 ^ j.toNat
abbrev rdBand := rdI0 fun i j => Builtin.bitAnd i j
abbrev rdBor := rdI0 fun i j => Builtin.bitOr i j
abbrev rdLt := rdC fun i j => decide (i < j)
abbrev rdLe := rdC fun i j => decide (i ≤ j)
abbrev rdGt := rdC fun i j => decide (j < i)
abbrev rdGe := rdC fun i j => decide (j ≤ i)
/-! ### is None -/
def isNon : D → Bool
  | .non => true
  | _ => false
def rdIsN : D → D → (Bool → Prop) → Prop
  | x, .non, Q => Q (DL.isNon x)
  | _, _, _ => False
def rdNotN : D → D → (Bool → Prop) → Prop
  | x, .non, Q => Q (!DL.isNon x)
  | _, _, _ => False
theorem RpH.non_iff {K : PySem.W.Frag} {W : Wd K} {B H : Hp} {v : V} {d : D} (h : RpH W B H v d) : decide (v = .non) = DL.isNon d := by
  obtain ⟨s, f, h, e⟩ := h
  cases h with
  | un => cases e
  | im d v q => cases e; cases q <;> simp [DL.isNon]
  | ol _ p vs h q => cases e; simp [DL.isNon]
  | ok _ p kvs h k q => cases e; simp [DL.isNon]
  | ot _ p kvs h k q => cases e; simp [DL.isNon]
  | oi _ _ p dx fs h k q => cases e; simp [DL.isNon]
theorem r2_isN : R2B W (fun x y H Q => y = .non ∧ Q (.bl (decide (x = .non))) H) rdIsN := by
  intro H0 B0 H B x y dx dy Qd Q g rx ry h k
  unfold rdIsN at h
  split at h
  · obtain rfl := ry.non
    refine ⟨rfl, ?_⟩
    rw [rx.non_iff]; exact k _ h
  · exact h.elim
theorem r2_notN : R2B W (fun x y H Q => y = .non ∧ Q (.bl (!decide (x = .non))) H) rdNotN := by
  intro H0 B0 H B x y dx dy Qd Q g rx ry h k
  unfold rdNotN at h
  split at h
  · obtain rfl := ry.non
    refine ⟨rfl, ?_⟩
    rw [rx.non_iff]; exact k _ h
  · exact h.elim
end

/-! ### == of data -/
mutual
def toPy : D → PyData
  | .bl b => .bool b
  | .int i => .int i
  | .str x => .str x
  | .lst xs => .list (toPys xs)
  | .tup xs => .tuple (toPys xs)
  | .wt xs => .tuple (toPys xs)
  | _ => .none
def toPys : List D → List PyData
  | [] => []
  | x :: xs => toPy x :: toPys xs
end
mutual
def isPy : D → Bool
  | .non => true
  | .bl _ => true
  | .int _ => true
  | .str _ => true
  | .lst xs => isPys xs
  | .tup xs => isPys xs
  | .wt xs => isPys xs
  | _ => false
def isPys : List D → Bool
  | [] => true
  | x :: xs => isPy x && isPys xs
end
section
variable {K : PySem.W.Frag} {W : Wd K} {B : Hp}
mutual
theorem Rp.dp {H : Hp} (sb : Sub B H) : ∀ (d : D) (v : V), isPy d = true → Rp W B v d → Dp K H v (toPy d)
  | .non, v, _, h => by cases h; exact .non
  | .bl b, v, _, h => by cases h; exact .bl b
  | .int i, v, _, h => by cases h; exact .int i
  | .str x, v, _, h => by cases h; exact .str x
  | .lst ds, v, p, h => by
    cases h with
    | lst a vs _ e q => exact .lst (.of (sb _ _ e)) (Rps.dp sb ds vs (by simpa [isPy] using p) q)
  | .tup ds, v, p, h => by
    cases h with
    | tup a vs _ e q => exact .tup (.of (sb _ _ e)) (Rps.dp sb ds vs (by simpa [isPy] using p) q)
  | .wt ds, v, p, h => by
    cases h with
    | wt a vs _ e q => exact .tup (sb.sqT e) (Rps.dp sb ds vs (by simpa [isPy] using p) q)
  | .scr _, _, p, _ => by simp [isPy] at p
  | .dk _, _, p, _ => by simp [isPy] at p
  | .dt _, _, p, _ => by simp [isPy] at p
  | .obj _ _, _, p, _ => by simp [isPy] at p
  | .drw, _, p, _ => by simp [isPy] at p
  | .ty _, _, p, _ => by simp [isPy] at p
  | .cls _, _, p, _ => by simp [isPy] at p
  | .fn _, _, p, _ => by simp [isPy] at p
  | .exc _, _, p, _ => by simp [isPy] at p
theorem Rps.dp {H : Hp} (sb : Sub B H) : ∀ (ds : List D) (vs : List V), isPys ds = true → Rps W B vs ds → DpAll K H vs (toPys ds)
  | [], vs, _, h => by cases h; exact .nil
  | d :: ds, vs, p, h => by
    cases h with
    | cons v _ vs _ a b =>
      have p' : isPy d = true ∧ isPys ds = true := by simpa [isPys] using p
      exact .cons (Rp.dp sb d v p'.1 a) (Rps.dp sb ds vs p'.2 b)
end
theorem RpH.dp {H : Hp} (sb : Sub B H) {d : D} {v : V} (p : isPy d = true) (h : RpH W B H v d) : Dp K H v (toPy d) := by
  cases d with
  | lst ds =>
    obtain ⟨a, vs, rfl, e, q⟩ := h.lst sb
    exact .lst (.of e) (Rps.dp sb ds vs (by simpa [isPy] using p) q)
  | dk _ => simp [isPy] at p
  | dt _ => simp [isPy] at p
  | obj _ _ => simp [isPy] at p
  | _ => exact Rp.dp sb _ _ p (h.rp rfl)
end
def eqD (x y : D) : Bool := PyData.eqv (toPy x) (toPy y)
structure OkEq (x : D) : Prop where
  py : isPy x = true
  sh : SeqAt.shaped (toPy x) = true
def rdEq : D → D → (Bool → Prop) → Prop := fun x y Q => OkEq x ∧ OkEq y ∧ Q (eqD x y)
def rdNe : D → D → (Bool → Prop) → Prop := fun x y Q => OkEq x ∧ OkEq y ∧ Q (!eqD x y)
section
variable {X : Cx} {W : Wd X.K}
theorem r2_eq : R2B W (rEqD X.K) rdEq := by
  intro H0 B0 H B x y dx dy Qd Q g rx ry ⟨⟨p1, s1⟩, ⟨p2, s2⟩, h⟩ k
  exact ⟨_, _, rx.dp g.sb p1, ry.dp g.sb p2, s1, s2, k _ h⟩
theorem r2_ne : R2B W (rNeD X.K) rdNe := by
  intro H0 B0 H B x y dx dy Qd Q g rx ry ⟨⟨p1, s1⟩, ⟨p2, s2⟩, h⟩ k
  exact ⟨_, _, rx.dp g.sb p1, ry.dp g.sb p2, s1, s2, k _ h⟩

/-! ### x[i] -/
theorem ix_dict (hu : X.A.units + 1 < cLine) : IxR X (fun x y H Q => ∃ a v, x = .ref a ∧ DGet H a y (some v) ∧ Q v H) := by
  intro value slice pins s σ H x y v u Q I rx ry ⟨a, z, ex, g, q⟩ hs
  subst ex
  obtain rfl : v = Value.ref a := rx
  have hT := dict_typeIs I g
  have fin : wpAny (model X.prog X.w) X.A (subscripted slice false (.ref a) u) (fun r s₃ => wpAny (model X.prog X.w) X.A (letTemporaryGo value (.ref a) r >>= fun _ => pure r) (EP X pins σ Q) X.xe s₃) X.xe s := by
    rw [hs]
    exact wpAny_operating (d_getItem hu I g ry fun w' s3 I3 rw' => wpAny_bind (wpAny_letTemporaryGo (wpAny_pure ⟨z, H, I3, rw', q⟩)))
  unfold subscriptTail
  refine wpAny_bind ?_
  rw [getitemInPython_of_ne hT.not_modules]
  refine wpAny_bind (wpAny_specialOf hT PySem.F.slot_dict_getitem.lookup ?_)
  first
    | exact wpAny_pure (wpAny_bind fin)
    | exact wpAny_bind (wpAny_pure (wpAny_bind fin))
    | exact wpAny_bind fin
def rIx4 (K : PySem.W.Frag) : R2 := orR (rIx K) (fun x y H Q => ∃ a v, x = .ref a ∧ DGet H a y (some v) ∧ Q v H)
theorem ix_all (hu : X.A.units + 1 < cLine) : IxR X (rIx4 X.K) := ix_seq.or (ix_dict hu)
end
/-- a dict's key -/
def D.key : D → Option Key
  | .int i => some (.inl i)
  | .str x => some (.inr x)
  | _ => none
def D.keys : List D → Option (List Key)
  | [] => some []
  | d :: ds => match d.key, D.keys ds with
    | some k, some ks => some (k :: ks)
    | _, _ => none
def D.keyT : D → Option (List Key)
  | .tup ds => D.keys ds
  | _ => none
theorem D.key_flat {d : D} {y : Key} (e : d.key = some y) : d.flat = true := by
  cases d <;> simp_all [D.key, D.flat]
theorem D.keyT_flat {d : D} {y : List Key} (e : d.keyT = some y) : d.flat = true := by
  cases d <;> simp_all [D.keyT, D.flat]
def val {κ : Type} [DecidableEq κ] (kvs : List (κ × D)) (k : κ) : Option D := (kvs.find? fun kv => decide (kv.1 = k)).map (·.2)
def put {κ : Type} [DecidableEq κ] (kvs : List (κ × D)) (k : κ) (v : D) : List (κ × D) :=
  if (kvs.any fun kv => decide (kv.1 = k)) = true then kvs.map (fun kv => if kv.1 = k then (kv.1, v) else kv) else kvs ++ [(k, v)]
def at_ {α : Type} (xs : List α) (i : Int) : Option α := atI xs i
def rdIx : D → D → (D → Prop) → Prop
  | .lst xs, .int i, Q => ∃ d, atI xs i = some d ∧ Q d
  | .tup xs, .int i, Q => ∃ d, atI xs i = some d ∧ Q d
  | .wt xs, .int i, Q => ∃ d, atI xs i = some d ∧ Q d
  | .str x, .int i, Q => x.length ≤ sizeLine ∧ ∃ c, atI x.cps.toList i = some c ∧ Q (.str ⟨#[c]⟩)
  | .dk kvs, k, Q => ∃ y d, k.key = some y ∧ val kvs y = some d ∧ Q d
  | .dt kvs, k, Q => ∃ y d, k.keyT = some y ∧ val kvs y = some d ∧ Q d
  | _, _, _ => False
section
variable {K : PySem.W.Frag} {W : Wd K} {B : Hp}
theorem Rps.atI {vs : List V} {ds : List D} (h : Rps W B vs ds) {i : Int} {d : D} (e : L2.atI ds i = some d) : ∃ v, L2.atI vs i = some v ∧ Rp W B v d := by
  unfold L2.atI at e ⊢
  rw [h.length]
  cases hx : ixN ds.length i with
  | none => rw [hx] at e; cases e
  | some j => rw [hx] at e; exact h.get e
theorem find_pair {κ : Type} [DecidableEq κ] : ∀ {kvs : List (κ × V)} {ds : List (κ × D)}, kvs.map (·.1) = ds.map (·.1) → Rps W B (kvs.map (·.2)) (ds.map (·.2)) → ∀ (k : κ), (∀ d, val ds k = some d → ∃ v, valV kvs k = some v ∧ Rp W B v d) ∧ (val ds k = none → valV kvs k = none)
  | [], [], _, _, k => ⟨fun d e => (by cases e), fun _ => rfl⟩
  | [], _ :: _, h, _, _ => by simp at h
  | _ :: _, [], h, _, _ => by simp at h
  | (k1, v) :: kvs, (k2, d) :: ds, h, r, k => by
    have hk : k1 = k2 ∧ kvs.map (·.1) = ds.map (·.1) := by simpa using h
    obtain ⟨rfl, hk⟩ := hk
    cases r with
    | cons _ _ _ _ a b =>
      have ih := find_pair hk b k
      unfold val valV at ih ⊢
      by_cases e : k1 = k
      · simp only [List.find?_cons, e, decide_true, Option.map_some]
        exact ⟨fun d' q => (by cases q; exact ⟨v, rfl, a⟩), fun q => (by cases q)⟩
      · simp only [List.find?_cons, e, decide_false]
        exact ih
theorem key_inv {d : D} {v : V} {y : Key} (h : Rp W B v d) (e : d.key = some y) : v = kV y := by
  cases d <;> simp only [D.key, Option.some.injEq, reduceCtorEq] at e
  · subst e; cases h; rfl
  · subst e; cases h; rfl
theorem keys_inv : ∀ {ds : List D} {vs : List V} {ks : List Key}, Rps W B vs ds → D.keys ds = some ks → vs = ks.map kV
  | [], vs, ks, h, e => by cases h; cases e; rfl
  | d :: ds, vs, ks, h, e => by
    cases h with
    | cons v _ vs _ a b =>
      unfold D.keys at e
      split at e
      · rename_i k ks' e1 e2
        cases e
        rw [key_inv a e1, keys_inv b e2]; rfl
      · cases e
theorem keyT_inv {d : D} {v : V} {ks : List Key} (h : Rp W B v d) (e : d.keyT = some ks) : ∃ b, v = .ref b ∧ B b = some (.tup (ks.map kV)) := by
  cases d <;> simp only [D.keyT, reduceCtorEq] at e
  cases h with
  | tup a vs _ e1 q => exact ⟨a, rfl, by rw [e1, keys_inv q e]⟩
end
section
variable {X : Cx} {G : Gx X.K} {a b : Expr} {pos : Pos}
def R2V (W : Wd X.K) (r : R2) (rd : D → D → (D → Prop) → Prop) : Prop := ∀ (H0 B0 H B : Hp) (x y : V) (dx dy : D) (Qd : D → Prop) (Q : VK), Grow W H0 B0 H B → RpH W B H x dx → RpH W B H y dy → rd dx dy Qd →
  (∀ d v, Qd d → Rp W B v d → Q v H) → r x y H Q
theorem r2_ix {W : Wd X.K} : R2V W (rIx4 X.K) rdIx := by
  intro H0 B0 H B x y dx dy Qd Q g rx ry h k
  unfold rdIx at h
  split at h
  · obtain ⟨d, e, h⟩ := h
    obtain ⟨a, vs, rfl, e1, q1⟩ := rx.lst g.sb
    obtain rfl := ry.int
    obtain ⟨v, e2, rv⟩ := q1.atI e
    exact .inl (.inl ⟨a, vs, _, v, rfl, rfl, .of e1, e2, k _ _ h rv⟩)
  · obtain ⟨d, e, h⟩ := h
    obtain ⟨a, vs, rfl, e1, q1⟩ := rx.tup g.sb
    obtain rfl := ry.int
    obtain ⟨v, e2, rv⟩ := q1.atI e
    exact .inl (.inr (.inl ⟨a, vs, _, v, rfl, rfl, .of e1, e2, k _ _ h rv⟩))
  · obtain ⟨d, e, h⟩ := h
    obtain ⟨a, vs, rfl, e1, q1⟩ := rx.wt g.sb
    obtain rfl := ry.int
    obtain ⟨v, e2, rv⟩ := q1.atI e
    exact .inl (.inr (.inl ⟨a, vs, _, v, rfl, rfl, e1, e2, k _ _ h rv⟩))
  · obtain ⟨hz, c, e, h⟩ := h
    obtain rfl := rx.str
    obtain rfl := ry.int
    exact .inl (.inr (.inr ⟨_, _, c, rfl, rfl, hz, e, k _ _ h (.str _)⟩))
  · obtain ⟨y, d, e1, e2, h⟩ := h
    obtain ⟨a, kvs, rfl, e3, ek, q⟩ := rx.dk g.sb
    obtain ⟨v, e4, rv⟩ := (find_pair ek q y).1 d e2
    have hy := key_inv (ry.rp (D.key_flat e1)) e1
    exact .inr ⟨a, v, rfl, .inl ⟨kvs, y, e3, hy, e4.symm⟩, k _ _ h rv⟩
  · obtain ⟨y, d, e1, e2, h⟩ := h
    obtain ⟨a, kvs, rfl, e3, ek, q⟩ := rx.dt g.sb
    obtain ⟨v, e4, rv⟩ := (find_pair ek q y).1 d e2
    obtain ⟨b, rfl, hb⟩ := keyT_inv (ry.rp (D.keyT_flat e1)) e1
    exact .inr ⟨a, v, rfl, .inr ⟨kvs, y, b, e3, rfl, g.sb _ _ hb, e4.symm⟩, k _ _ h rv⟩
  · exact h.elim
def dIx (ta tb : DTO) : DTE := fun Δ Q E => ta Δ (fun x Δ1 => tb Δ1 (fun y Δ2 => two Δ2 x y fun d e => rdIx d e fun z => Q z Δ2) E) E
theorem de_ix {ta tb : DTO} (hu : X.A.units + 1 < cLine) (ha : PE X a (upO G ta)) (hb : PE X b (upO G tb)) (hs : PlainIx b := by exact fun _ _ => rfl) : PE X (.Subscript a b pos) (upE G (dIx ta tb)) :=
  PE.imp (pe_ix (ix_all hu) ha hb hs) fun σ H Q ⟨Δ, B, Qd, r1, q, k⟩ => ⟨Δ, B, _, r1, q, fun d1 Δ1 v1 H1 B1 q1 r1 s1 p1 => ⟨Δ1, B1, _, r1, q1, fun d2 Δ2 v2 H2 B2 ⟨d, e, e1, e2, q2⟩ r2 s2 p2 =>
    r2_ix _ _ _ _ _ _ _ _ _ _ r2.gr ((p1.mono s2).res r2 e1) (p2.res r2 e2) q2 fun z v qd rv => k _ _ _ _ _ qd r2 (s1.trans s2) rv⟩⟩
/-! ### x[i:j] -/
def dNoPart : List Sl → (Option Int → List Sl → Prop) → EX → Prop := fun Δ Q _ => Q none Δ
def dPart (t : DTO) : List Sl → (Option Int → List Sl → Prop) → EX → Prop := fun Δ Q E => t Δ (fun x Δ1 => ∃ i, res Δ1 x = some (.int i) ∧ Q (some i) Δ1) E
abbrev DTP := List Sl → (Option Int → List Sl → Prop) → EX → Prop
def upP {K : PySem.W.Frag} (G : Gx K) (t : DTP) : TO := fun σ H Q => ∃ Δ B Qd, DR G Δ σ H B ∧ t Δ Qd G.Ed ∧ ∀ o Δ' H' B', Qd o Δ' → DR G Δ' σ H' B' → Sub B B' → Q o H'
theorem PO.imp {e : Option Expr} {t u : TO} (h : PO X e t) (i : ∀ σ H Q, u σ H Q → t σ H Q) : PO X e u := ⟨fun p s σ H Q I q => h.run p s σ H Q I (i σ H Q q)⟩
theorem dp_none : PO X none (upP G dNoPart) := PO.imp po_none fun σ H Q ⟨Δ, B, Qd, r, q, k⟩ => k _ _ _ _ q r (Sub.refl _)
theorem dp_some {e : Expr} {t : DTO} (h : PE X e (upO G t)) : PO X (some e) (upP G (dPart t)) := PO.imp (po_some h) fun σ H Q ⟨Δ, B, Qd, r, q, k⟩ => ⟨Δ, B, _, r, q, fun o Δ1 v H1 B1 ⟨i, e, q1⟩ r1 s1 p1 => ⟨i, (p1.res r1 e).int, k _ _ _ _ q1 r1 s1⟩⟩
def cut {α : Type} (xs : List α) (lo hi : Option Int) : List α := (xs.drop (HT.sIx xs.length 0 lo)).take (HT.sIx xs.length xs.length hi - HT.sIx xs.length 0 lo)
def rdSl : D → Option Int → Option Int → (Sl → Prop) → Prop
  | .lst xs, lo, hi, Q => Q (.ol (cut xs lo hi))
  | .tup xs, lo, hi, Q => Q (.im (.tup (cut xs lo hi)))
  | .str x, lo, hi, Q => x.length ≤ sizeLine ∧ Q (.im (.str (cutS x lo hi)))
  | _, _, _, _ => False
def rSl3 (K : PySem.W.Frag) : V → Option Int → Option Int → Hp → VK → Prop := fun x lo hi H Q => rSlL K x lo hi H Q ∨ (rSlA K x lo hi H Q ∨ rSlS x lo hi H Q)
theorem sl_all : L2.SlR X (rSl3 X.K) := sl_list.or (sl_tupA.or sl_str)
def dSl (t : DTO) (tl th : DTP) : DTM := fun Δ Q E => t Δ (fun x Δ1 => tl Δ1 (fun l Δ2 => th Δ2 (fun u Δ3 => ∃ d, res Δ3 x = some d ∧ rdSl d l u fun s => Q s Δ3) E) E) E
theorem cut_all {xs : List V} {ds : List D} {K : PySem.W.Frag} {W : Wd K} {B : Hp} (h : Rps W B xs ds) (lo hi : Option Int) : Rps W B (cutV xs lo hi) (cut ds lo hi) := by
  unfold cutV cut
  rw [h.length]
  exact (h.drop _).take _
theorem r_sl {W : Wd X.K} {H0 B0 H B : Hp} {x : V} {d : D} {lo hi : Option Int} {Qd : Sl → Prop} {Q : VK} (g : Grow W H0 B0 H B) (rx : RpH W B H x d) (h : rdSl d lo hi Qd) (k : ∀ s v H' B', Qd s → NewV W H B H' B' s v → Q v H') : rSl3 X.K x lo hi H Q := by
  unfold rdSl at h
  split at h
  · obtain ⟨a, vs, rfl, e1, q1⟩ := rx.lst g.sb
    exact .inl ⟨a, vs, rfl, .of e1, fun p hp => k _ _ _ _ h (.lst g hp (cut_all q1 _ _))⟩
  · obtain ⟨a, vs, rfl, e1, q1⟩ := rx.tup g.sb
    refine .inr (.inl ⟨a, vs, rfl, .of e1, fun ⟨z1, z2⟩ => ?_, fun _ p hp => k _ _ _ _ h (.tup g hp (cut_all q1 _ _))⟩)
    have : ∀ xs : List D, vs.length = xs.length → cut xs lo hi = xs := fun xs hl => by
      unfold cut
      rw [← hl, z1, z2]
      simp [hl]
    rw [this _ q1.length] at h
    exact k _ _ _ _ h (.clean g (rx.rp rfl))
  · obtain rfl := rx.str
    exact .inr (.inr ⟨_, rfl, h.1, k _ _ _ _ h.2 (.clean g (.str _))⟩)
  · exact h.elim
theorem dm_slice {e : Expr} {lo hi : Option Expr} {t : DTO} {tl th : DTP} {p2 : Pos} (he : PE X e (upO G t)) (hl : PO X lo (upP G tl)) (hh : PO X hi (upP G th)) : PE X (.Subscript e (.Slice lo hi none p2) pos) (upM G (dSl t tl th)) :=
  PE.imp (pe_slice sl_all he hl hh) fun σ H Q ⟨Δ, B, Qd, r1, q, k⟩ => ⟨Δ, B, _, r1, q, fun o1 Δ1 v1 H1 B1 q1 r1 s1 p1 => ⟨Δ1, B1, _, r1, q1, fun l Δ2 H2 B2 q2 r2 s2 => ⟨Δ2, B2, _, r2, q2, fun u Δ3 H3 B3 ⟨d, e, q3⟩ r3 s3 =>
    r_sl r3.gr ((p1.mono (s2.trans s3)).res r3 e) q3 fun s v H' B' qd n => k _ _ _ _ _ qd (r3.hangS n) (((s1.trans s2).trans s3).trans n.gr.bas)⟩⟩⟩
/-! ### displays -/
def dTup (t : DTA) : DTE := fun Δ Q E => t Δ (fun ds Δ1 => ds.length ≤ sizeLine ∧ Q (.tup ds) Δ1) E
def dLst (t : DTA) : DTM := fun Δ Q E => t Δ (fun ds Δ1 => ds.length ≤ sizeLine ∧ Q (.ol ds) Δ1) E
theorem de_tup {es : List Expr} {t : DTA} {x1} (h : PA X es (upA G t)) : PE X (.Tuple es x1 pos) (upE G (dTup t)) :=
  PE.imp (pe_tup h) fun σ H Q ⟨Δ, B, Qd, r, q, k⟩ => ⟨Δ, B, _, r, q, fun ds Δ1 vs H1 B1 ⟨hz, q1⟩ r1 s1 rps => ⟨by rw [rps.length]; exact hz, fun p hp => by
    have g1 := r1.gr.alloc (o := .tup vs) hp (fun _ z => by cases z)
    exact k _ _ _ _ _ q1 (r1.grow g1) (s1.trans g1.bas) (.tup _ _ _ upd_same (rps.mono g1.bas))⟩⟩
theorem dm_lst {es : List Expr} {t : DTA} (h : PA X es (upA G t)) : PE X (.List es pos) (upM G (dLst t)) :=
  PE.imp (pe_lst h) fun σ H Q ⟨Δ, B, Qd, r, q, k⟩ => ⟨Δ, B, _, r, q, fun ds Δ1 vs H1 B1 ⟨hz, q1⟩ r1 s1 rps => ⟨by rw [rps.length]; exact hz, fun p hp => by
    have n := NewV.lst r1.gr hp rps
    exact k _ _ _ _ _ q1 (r1.hangS n) (s1.trans n.gr.bas)⟩⟩
theorem PE.or {e : Expr} {t u : TE} (h : PE X e t) (g : PE X e u) : PE X e (fun σ H Q => t σ H Q ∨ u σ H Q) := ⟨fun p s σ H Q I q => q.elim (h.run p s σ H Q I) (g.run p s σ H Q I)⟩
/-- {}: for keys that are ints and texts, or tuples of such -/
def dDict0 : DTM := fun Δ Q _ => Q (.ok []) Δ ∨ Q (.ot []) Δ
theorem dm_dict0 : PE X (.Dict [] [] pos) (upM G dDict0) :=
  PE.imp (PE.or pe_dnewK pe_dnewT) fun σ H Q ⟨Δ, B, Qd, r, q, k⟩ => by
    rcases q with q | q
    · exact .inl fun p hp => by
        have n := NewV.dk (ds := []) (vs := []) r.gr hp rfl .nil
        exact k _ _ _ _ _ q (r.hangS n) n.gr.bas
    · exact .inr fun p hp => by
        have n := NewV.dt (ds := []) (vs := []) r.gr hp rfl .nil
        exact k _ _ _ _ _ q (r.hangS n) n.gr.bas
end
end DL
-- DLloop
set_option Elab.async false
set_option linter.all false
set_option maxRecDepth 100000
set_option maxHeartbeats 2000000
set_option autoImplicit false
namespace DL
open PySem PySem.Spec L2
open PyProof.Rows hiding St

/-! ### targets -/
abbrev DTG := D → List Sl → (List Sl → Prop) → Prop
abbrev DTGs := List D → List Sl → (List Sl → Prop) → Prop
section
variable {K : PySem.W.Frag}
/-- but for the slots S the frame's names stand as they stood -/
def Keeps (S : List Nat) (σ σ' : L2.St) : Prop := ∀ vs : List Nat, (∀ i ∈ S, i ∈ vs) → wipe σ' vs = wipe σ vs
def upG (G : Gx K) (S : List Nat) (t : DTG) : TG := fun v σ H Q => ∃ Δ B d Qd, DR G Δ σ H B ∧ Rp G.W B v d ∧ t d Δ Qd ∧ ∀ Δ' σ' H' B', Qd Δ' → DR G Δ' σ' H' B' → Sub B B' → Keeps S σ σ' → Q σ' H'
def upGs (G : Gx K) (S : List Nat) (t : DTGs) : TGs := fun vs σ H Q => ∃ Δ B ds Qd, DR G Δ σ H B ∧ Rps G.W B vs ds ∧ t ds Δ Qd ∧ ∀ Δ' σ' H' B', Qd Δ' → DR G Δ' σ' H' B' → Sub B B' → Keeps S σ σ' → Q σ' H'
theorem wipe_set {σ : L2.St} {i : Nat} {x : Option V} : ∀ {vs : List Nat}, i ∈ vs → wipe (σ.set i x) vs = wipe σ vs
  | [], h => by cases h
  | v :: vs, h => by
    unfold wipe
    by_cases hv : i ∈ vs
    · rw [wipe_set hv]
    · have e : i = v := by
        rcases List.mem_cons.mp h with e | e
        · exact e
        · exact absurd e hv
      subst e
      have : wipe (σ.set i x) vs = (wipe σ vs).set i x := by
        clear h
        induction vs with
        | nil => rfl
        | cons w ws ih =>
          have h1 : i ≠ w := fun z => hv (by simp [z])
          have h2 : i ∉ ws := fun z => hv (by simp [z])
          unfold wipe
          rw [ih h2, List.set_comm _ _ h1]
      rw [this, List.set_set]
end
def dgName (i : Nat) : DTG := fun d Δ Q => Q (Δ.set i (.im d))
def dgNil : DTGs := fun ds Δ Q => ds = [] ∧ Q Δ
def dgCons (t : DTG) (u : DTGs) : DTGs := fun ds Δ Q => ∃ d r, ds = d :: r ∧ t d Δ fun Δ' => u r Δ' Q
def dgTup (n : Nat) (t : DTGs) : DTG := fun d Δ Q => ∃ ds, (d = .tup ds ∨ d = .lst ds) ∧ ds.length = n ∧ t ds Δ Q
theorem PG.imp {X : Cx} {e : Expr} {t u : TG} (h : PG X e t) (i : ∀ v σ H Q, u v σ H Q → t v σ H Q) : PG X e u := ⟨fun p s σ H v w Q I r q => h.run p s σ H v w Q I r (i v σ H Q q)⟩
theorem PGs.imp {X : Cx} {e : List Expr} {t u : TGs} (h : PGs X e t) (i : ∀ v σ H Q, u v σ H Q → t v σ H Q) : PGs X e u := ⟨fun p s σ H v w Q I r q => h.run p s σ H v w Q I r (i v σ H Q q)⟩
theorem PG.or {X : Cx} {e : Expr} {t u : TG} (h : PG X e t) (g : PG X e u) : PG X e (fun v σ H Q => t v σ H Q ∨ u v σ H Q) := ⟨fun p s σ H v w Q I r q => q.elim (h.run p s σ H v w Q I r) (g.run p s σ H v w Q I r)⟩
section
variable {X : Cx} {G : Gx X.K} {pos : Pos}
theorem dg_name {i : Nat} {x : Str} (hN : X.N.Nodup) (hi : X.N[i]? = some x := by rfl) (hx : Loc X.env.scope x := by first | exact Or.inl rfl | exact Or.inr rfl) (hf : X.fn x = true ∨ X.env.scope.names.lookup x = some .local := by first | exact .inl rfl | exact .inr rfl | assumption) : PG X (.Name x pos) (upG G [i] (dgName i)) :=
  PG.imp (pg_name hN hi hx hf) fun v σ H Q ⟨Δ, B, d, Qd, r, rp, q, k⟩ => k _ _ _ _ q (r.put i rp) (Sub.refl _) fun vs h => wipe_set (h i (by simp))
theorem dgs_nil : PGs X [] (upGs G [] dgNil) := PGs.imp pgs_nil fun v σ H Q ⟨Δ, B, ds, Qd, r, rp, ⟨e, q⟩, k⟩ => by subst e; cases rp; exact ⟨rfl, k _ _ _ _ q r (Sub.refl _) fun _ _ => rfl⟩
theorem dgs_cons {e : Expr} {es : List Expr} {t : DTG} {u : DTGs} {S S' : List Nat} (h1 : PG X e (upG G S t)) (h2 : PGs X es (upGs G S' u)) (hs : (assignEach (e :: es) X.env).map (·.2) = assign e X.env :: (assignEach es X.env).map (·.2) := by rfl) : PGs X (e :: es) (upGs G (S ++ S') (dgCons t u)) :=
  PGs.imp (pgs_cons h1 h2 hs) fun v σ H Q ⟨Δ, B, ds, Qd, r, rp, ⟨d, rr, e, q⟩, k⟩ => by
    subst e
    cases rp with
    | cons v _ vs _ a b =>
      refine ⟨v, vs, rfl, Δ, B, d, _, r, a, q, fun Δ1 σ1 H1 B1 q1 r1 s1 w1 => ⟨Δ1, B1, rr, Qd, r1, b.mono s1, q1, fun a b c d x y z w => k a b c d x y (s1.trans z) fun vs hv => ?_⟩⟩
      rw [w vs (fun i hi => hv i (by simp [hi])), w1 vs (fun i hi => hv i (by simp [hi]))]
theorem dg_tup {es : List Expr} {kk : Nat} {t : DTGs} {n : Nat} {S : List Nat} (hc : X.calm = true) (h : PGs X es (upGs G S t)) (hn : (assignEach es X.env).length = n := by rfl) (hst : (assignEach es X.env).findIdx? (·.1) = none := by rfl) : PG X (.Tuple es kk pos) (upG G S (dgTup n t)) :=
  PG.imp (PG.or (pg_tup hc h hn hst) (pg_lst hc h hn hst)) fun v σ H Q ⟨Δ, B, d, Qd, r, rp, ⟨ds, e, hl, q⟩, k⟩ => by
    rcases e with e | e
    · subst e
      cases rp with
      | tup a vs _ e1 q1 => exact .inl ⟨a, vs, rfl, .of (r.sub _ _ e1), by rw [q1.length]; exact hl, Δ, B, ds, Qd, r, q1, q, k⟩
    · subst e
      cases rp with
      | lst a vs _ e1 q1 => exact .inr ⟨a, vs, rfl, .of (r.sub _ _ e1), by rw [q1.length]; exact hl, Δ, B, ds, Qd, r, q1, q, k⟩
end
/-- target = value -/
def dAsg (t : DTE) (g : DTG) : DTS := fun N Δ E => t Δ (fun d Δ1 => g d Δ1 N.nx) E
theorem ds_asg {X : Cx} {G : Gx X.K} {pos : Pos} {tg e : Expr} {t : DTE} {g : DTG} {S : List Nat} (he : PE X e (upE G t)) (hg : PG X tg (upG G S g)) (hs : swapsWithSole [tg] e pos.line X.env = pure false := by rfl) (hw : swappedStores [tg] e X.env = pure none := by rfl)
    (h1 : (assignEach [tg] X.env).map (·.2) = [assign tg X.env] := by rfl) : PS X (.Assign [tg] e pos) (upS G (dAsg t g)) :=
  PS.imp (ps_asg he hg hs hw h1) fun N σ H ⟨Δ, B, M, r, q, k, _⟩ => ⟨Δ, B, _, r, q, fun d Δ1 v H1 B1 q1 r1 s1 rp => ⟨Δ1, B1, d, _, r1, rp, q1, fun a b c d x y z _ => k a b c d x y (s1.trans z)⟩⟩

/-! ### what is walked -/
structure ItD {K : PySem.W.Frag} (W : Wd K) (B : Hp) (ds : List D) (J : It) : Prop where
  stop : ∀ {i H0 B0 H1 B1}, Grow W H0 B0 H1 B1 → Sub B B1 → ds.length ≤ i → J.stop i H1
  go : ∀ {i H0 B0 H1 B1}, Grow W H0 B0 H1 B1 → Sub B B1 → i < ds.length → J.go i H1
  yld : ∀ {i H0 B0 H1 B1 x H2}, Grow W H0 B0 H1 B1 → Sub B B1 → i < ds.length → J.yld i H1 x H2 → ∃ B2 d, ds[i]? = some d ∧ Grow W H1 B1 H2 B2 ∧ Rp W B2 x d
abbrev DTI := List Sl → (List D → List Sl → Prop) → EX → Prop
def upI {K : PySem.W.Frag} (G : Gx K) (t : DTI) : TI := fun σ H R => ∃ Δ B Qd, DR G Δ σ H B ∧ t Δ Qd G.Ed ∧ ∀ ds Δ' J H' B', Qd ds Δ' → DR G Δ' σ H' B' → Sub B B' → ItD G.W B' ds J → R J H'
section
variable {K : PySem.W.Frag} {W : Wd K} {B : Hp}
theorem ItD.list {a : Addr} {vs : List V} {ds : List D} (e : B a = some (.lst vs)) (q : Rps W B vs ds) : ItD W B ds (Itl K a) where
  stop := fun g s hi => ⟨vs, .of (g.sb _ _ (s _ _ e)), by rw [q.length]; exact hi⟩
  go := fun g s hi => by
    obtain ⟨v, hv, _⟩ := q.get (List.getElem?_eq_getElem hi)
    exact ⟨vs, v, .of (g.sb _ _ (s _ _ e)), hv⟩
  yld := fun g s hi ⟨h1, h2⟩ => by
    subst h1
    obtain ⟨d, hd, rp⟩ := q.get' (h2 vs (.of (g.sb _ _ (s _ _ e))))
    exact ⟨_, d, hd, g.self, rp.mono s⟩
theorem ItD.tuple {a : Addr} {vs : List V} {ds : List D} (e : SqT K B a vs) (q : Rps W B vs ds) : ItD W B ds (Itt K a) where
  stop := fun g s hi => ⟨vs, (s.trans g.sb).sqT e, by rw [q.length]; exact hi⟩
  go := fun g s hi => by
    obtain ⟨v, hv, _⟩ := q.get (List.getElem?_eq_getElem hi)
    exact ⟨vs, v, (s.trans g.sb).sqT e, hv⟩
  yld := fun g s hi ⟨h1, h2⟩ => by
    subst h1
    obtain ⟨d, hd, rp⟩ := q.get' (h2 vs ((s.trans g.sb).sqT e))
    exact ⟨_, d, hd, g.self, rp.mono s⟩
def rngD (lo : Int) (n : Nat) : List D := (List.range n).map fun (i : Nat) => D.int (lo + i)
theorem rngD_length (lo : Int) (n : Nat) : (rngD lo n).length = n := by simp [rngD]
theorem rngD_get {lo : Int} {n i : Nat} (h : i < n) : (rngD lo n)[i]? = some (.int (lo + i)) := by simp [rngD, h]
theorem ItD.range {lo : Int} {n : Nat} : ItD W B (rngD lo n) (Itr lo n) where
  stop := fun g s hi => by rw [rngD_length] at hi; exact hi
  go := fun g s hi => by rw [rngD_length] at hi; exact hi
  yld := fun g s hi ⟨h1, h2⟩ => by
    subst h1; subst h2
    rw [rngD_length] at hi
    exact ⟨_, _, rngD_get hi, g.self, .int _⟩
end
theorem PI.imp {X : Cx} {tg e : Expr} {t u : TI} (h : PI X tg e t) (i : ∀ σ H Q, u σ H Q → t σ H Q) : PI X tg e u := ⟨fun p s σ H R I q => h.run p s σ H R I (i σ H R q)⟩
/-- a list or a tuple -/
theorem pi_seq {X : Cx} {tg l : Expr} {tl : TE} (hl : PE X l tl) : PI X tg l (fun σ H R => tl σ H fun x H1 => (∃ a, x = .ref a ∧ (∃ xs, SqL X.K H1 a xs) ∧ R (Itl X.K a) H1) ∨ (∃ a, x = .ref a ∧ (∃ xs, SqT X.K H1 a xs) ∧ R (Itt X.K a) H1) ∨ ∃ a o kvs, x = .ref a ∧ H1 a = some (.frz o (.dK kvs)) ∧ R (Itk a o kvs) H1) := by
  constructor
  intro pins s σ H R I h
  refine thn (hl.run pins s σ H _ I h) ?_
  rintro v s1 ⟨x, H1, I1, r1, q1⟩
  have new : ∀ (o : Obj) (b : Addr), b ∈ [s1.heap.objs.size] → FpOk X pins H1 b := fun o b hb => by
    obtain rfl : b = s1.heap.objs.size := by simpa using hb
    exact I1.fpOk (Nat.le_refl _) (I1.hok.fresh (Nat.le_refl _))
  have grown : ∀ o : Obj, Inv X pins σ H1 { s1 with heap := s1.heap.push o } := fun o => I1.kept (t' := s1.toks) fun b ob e => Heap.get?_push_of_some _ e
  rcases q1 with ⟨a, e, ⟨xs, hq⟩, q⟩ | ⟨a, e, ⟨xs, hq⟩, q⟩ | ⟨a, o, kvs, e, hd, q⟩
  · subst e
    cases r1
    obtain ⟨its, rv, p, hz⟩ := I1.list hq
    exact wpAny_pyIter_list p.isList ⟨_, _, _, _, H1, rfl, grown _, turn_list a _, ⟨_, Heap.get?_push_size _ rfl, rfl, rfl⟩, new default, q⟩
  · subst e
    cases r1
    obtain ⟨its, rv, p, hz⟩ := I1.tuple hq
    exact wpAny_pyIter_tuple (show s1.heap.IsTuple a its.toArray from p) ⟨_, _, _, _, H1, rfl, grown _, turn_tuple a _, ⟨_, Heap.get?_push_size _ rfl, rfl, rfl⟩, new default, q⟩
  · subst e
    obtain rfl : v = Value.ref a := r1
    obtain ⟨hs, hgd, hx, es, ep, vs, hdt, hsz, kv, hm⟩ := I1.frzK hd
    refine iter_keys hs hgd hx hdt (pi_one (tk := s1.toks) I1 _ (turn_keys _ hdt) ⟨_, Heap.get?_push_size _ rfl, rfl, ?_⟩ q)
    rw [hsz] <;> rfl
def keyD : Key → D
  | .inl i => .int i
  | .inr x => .str x
theorem ItD.keys {K : PySem.W.Frag} {W : Wd K} {B : Hp} {a : Addr} {o : Obj} {kvs : List (Key × V)} {ds : List (Key × D)} (e : B a = some (.frz o (.dK kvs))) (hk : kvs.map (·.1) = ds.map (·.1)) : ItD W B (ds.map fun p => keyD p.1) (Itk a o kvs) where
  stop := fun g s hi => ⟨g.sb _ _ (s _ _ e), by have := congrArg List.length hk; simp at this hi; omega⟩
  go := fun g s hi => ⟨g.sb _ _ (s _ _ e), by have := congrArg List.length hk; simp at this hi; omega⟩
  yld := fun {i _ _ _ _ x _} g s hi ⟨h1, k, v, h2, h3⟩ => by
    subst h1
    subst h3
    have e1 : (kvs.map (·.1))[i]? = some k := by rw [List.getElem?_map, h2]; rfl
    rw [hk, List.getElem?_map] at e1
    cases e2 : ds[i]? with
    | none => rw [e2] at e1; cases e1
    | some p =>
      rw [e2] at e1
      have e3 : p.1 = k := Option.some.inj e1
      refine ⟨_, keyD k, by rw [List.getElem?_map, e2]; simp [e3], g.self, ?_⟩
      cases k with
      | inl i => exact .int i
      | inr x => exact .str x
def itemsD : D → Option (List D)
  | .lst ds => some ds
  | .tup ds => some ds
  | .wt ds => some ds
  | .dk kvs => some (kvs.map fun p => keyD p.1)
  | _ => none
def dSeqI (t : DTE) : DTI := fun Δ Q E => t Δ (fun d Δ1 => ∃ ds, itemsD d = some ds ∧ Q ds Δ1) E
def dRng1 (t : DTA) : DTI := fun Δ Q E => t Δ (fun ds Δ1 => ∃ j, ds = [.int j] ∧ -(2 ^ 62) ≤ j ∧ j < 2 ^ 62 ∧ Q (rngD 0 j.toNat) Δ1) E
def dRng2 (t : DTA) : DTI := fun Δ Q E => t Δ (fun ds Δ1 => ∃ i j, ds = [.int i, .int j] ∧ (-(2 ^ 62) ≤ i ∧ i < 2 ^ 62 ∧ -(2 ^ 62) ≤ j ∧ j < 2 ^ 62) ∧ Q (rngD i (j - i).toNat) Δ1) E
section
variable {X : Cx} {G : Gx X.K} {pos : Pos} {tg : Expr}
theorem di_seq {e : Expr} {t : DTE} (h : PE X e (upE G t)) : PI X tg e (upI G (dSeqI t)) := PI.imp (pi_seq h) fun σ H R ⟨Δ, B, Qd, r, q, k⟩ => ⟨Δ, B, _, r, q, fun d Δ1 v H1 B1 ⟨ds, e, q1⟩ r1 s1 rp => by
  cases d <;> simp only [itemsD, Option.some.injEq, reduceCtorEq] at e
  case lst =>
    subst e
    cases rp with | lst a vs _ e1 rs => exact .inl ⟨a, rfl, ⟨vs, .of (r1.sub _ _ e1)⟩, k _ _ _ _ _ q1 r1 s1 (.list e1 rs)⟩
  case tup =>
    subst e
    cases rp with | tup a vs _ e1 rs => exact .inr (.inl ⟨a, rfl, ⟨vs, .of (r1.sub _ _ e1)⟩, k _ _ _ _ _ q1 r1 s1 (.tuple (.of e1) rs)⟩)
  case wt =>
    subst e
    cases rp with | wt a vs _ e1 rs => exact .inr (.inl ⟨a, rfl, ⟨vs, r1.sub.sqT e1⟩, k _ _ _ _ _ q1 r1 s1 (.tuple e1 rs)⟩)
  case dk =>
    subst e
    cases rp with | dk a od kvs _ e1 hk rs => exact .inr (.inr ⟨a, od, kvs, rfl, r1.sub _ _ e1, k _ _ _ _ _ q1 r1 s1 (.keys e1 hk)⟩)⟩
theorem Rps.int1 {K : PySem.W.Frag} {W : Wd K} {B : Hp} {vs : List V} {i : Int} (h : Rps W B vs [.int i]) : vs = [.int i] := by
  cases h with | cons _ _ _ _ a b => cases a; cases b; rfl
theorem Rps.int2 {K : PySem.W.Frag} {W : Wd K} {B : Hp} {vs : List V} {i j : Int} (h : Rps W B vs [.int i, .int j]) : vs = [.int i, .int j] := by
  cases h with | cons _ _ _ _ a b => cases a; rw [b.int1]
theorem di_range1 {a : Expr} {t : DTA} {p : Pos} (hg : Gl X "range") (hm : X.mg "range" = none) (ha : PA X [a] (upA G t)) (hs : starEach [a] X.env = [(false, eval a X.env)] := by rfl) : PI X tg (.Call (.Name "range" p) [a] [] pos) (upI G (dRng1 t)) :=
  PI.imp (pi_range1 hg hm ha hs) fun σ H R ⟨Δ, B, Qd, r, q, k⟩ => ⟨Δ, B, _, r, q, fun ds Δ1 vs H1 B1 ⟨j, e, h1, h2, q1⟩ r1 s1 rps => by subst e; exact ⟨j, rps.int1, h1, h2, k _ _ _ _ _ q1 r1 s1 .range⟩⟩
theorem di_range2 {a b : Expr} {t : DTA} {p : Pos} (hg : Gl X "range") (hm : X.mg "range" = none) (ha : PA X [a, b] (upA G t)) (hs : starEach [a, b] X.env = [(false, eval a X.env), (false, eval b X.env)] := by rfl) (hs2 : starEach [b] X.env = [(false, eval b X.env)] := by rfl) : PI X tg (.Call (.Name "range" p) [a, b] [] pos) (upI G (dRng2 t)) :=
  PI.imp (pi_range2 hg hm ha hs hs2) fun σ H R ⟨Δ, B, Qd, r, q, k⟩ => ⟨Δ, B, _, r, q, fun ds Δ1 vs H1 B1 ⟨i, j, e, hh, q1⟩ r1 s1 rps => by subst e; exact ⟨i, j, rps.int2, hh, k _ _ _ _ _ q1 r1 s1 .range⟩⟩
end

/-! ### for -/
def dFor (ti : DTI) (g : DTG) (tb : DTS) : DTS := fun N Δ E => ti Δ (fun ds Δ1 => ∃ Iv : Nat → List Sl → Prop, Iv 0 Δ1 ∧
  (∀ i d Δ2, ds[i]? = some d → Iv i Δ2 → g d Δ2 fun Δ3 => tb { nx := Iv (i + 1), ct := Iv (i + 1), bk := N.nx, rt := N.rt } Δ3 E) ∧ ∀ Δ2, Iv ds.length Δ2 → N.nx Δ2) E
theorem ds_for {X : Cx} {G : Gx X.K} {pos : Pos} {tg iter : Expr} {body : List Stmt} {ti : DTI} {g : DTG} {tb : DTS} {S : List Nat} (hp : PassesOwn (model X.prog X.w) X.A X.env X.xe) (hc : X.calm = true) (hi : PI X tg iter (upI G ti)) (hg : PG X tg (upG G S g)) (hb : PSs X body (upS G tb))
    (hs : ∀ x, foldedSetIterable iter X.env x = pure x := by intro _; rfl) : PS X (.For tg iter body [] pos) (upS G (dFor ti g tb)) :=
  PS.imp (ps_for hp hc hi hg hb hs) fun N σ H ⟨Δ, B, M, r, q, k1, k2, k3, k4⟩ => ⟨Δ, B, _, r, q, fun ds Δ1 J H1 B1 ⟨Iv, i0, turn, fin⟩ r1 s1 it => by
    refine ⟨fun i m σ' H' => ∃ Δ' B', m = ds.length - i ∧ i ≤ ds.length ∧ DR G Δ' σ' H' B' ∧ Sub B1 B' ∧ Iv i Δ', ⟨_, Δ1, B1, rfl, Nat.zero_le _, r1, Sub.refl _, i0⟩, ?_⟩
    rintro i m σ2 H2 ⟨Δ2, B2, rfl, hi, r2, s2, q2⟩
    by_cases hl : i < ds.length
    · refine .inr ⟨it.go r2.gr s2 hl, fun σ' H' => ∃ Δ' B', DR G Δ' σ' H' B' ∧ Sub B1 B' ∧ Iv (i + 1) Δ', fun σ' H' ⟨Δ', B', a, b, c⟩ => ⟨_, by omega, Δ', B', rfl, hl, a, b, c⟩, fun x H3 y => ?_⟩
      obtain ⟨B3, d, hd, g3, rp⟩ := it.yld r2.gr s2 hl y
      have r3 := r2.grow g3
      refine ⟨Δ2, B3, d, _, r3, rp, turn i d Δ2 hd q2, fun Δ4 σ4 H4 B4 q4 r4 s4 _ => ?_⟩
      have s5 := (s2.trans g3.bas).trans s4
      exact ⟨Δ4, B4, _, r4, q4, fun a b c d x y z => ⟨a, d, y, s5.trans z, x⟩, fun a b c d x y z => k1 a b c d x y (s1.trans (s5.trans z)), fun a b c d x y z => ⟨a, d, y, s5.trans z, x⟩, fun a b c d x y z w => k4 a b c d x y (s1.trans (s5.trans z)) w⟩
    · have e : i = ds.length := by omega
      subst e
      exact .inl ⟨it.stop r2.gr s2 (Nat.le_refl _), k1 _ _ _ _ (fin _ q2) r2 (s1.trans s2)⟩⟩
/-! ### while -/
def dWhile (c : DTT) (tb : DTS) : DTS := fun N Δ E => ∃ Iv : Nat → List Sl → Prop, (∃ m, Iv m Δ) ∧ ∀ m Δ1, Iv m Δ1 → c Δ1 (fun b Δ2 => if b = true then tb { nx := fun Δ' => ∃ m', m' < m ∧ Iv m' Δ', ct := fun Δ' => ∃ m', m' < m ∧ Iv m' Δ', bk := N.nx, rt := N.rt } Δ2 E else N.nx Δ2) E
theorem ds_while {X : Cx} {G : Gx X.K} {pos : Pos} {c : Expr} {body : List Stmt} {tc : DTT} {tb : DTS} (hp : PassesOwn (model X.prog X.w) X.A X.env X.xe) (hc : PT X c (upT G tc)) (hb : PSs X body (upS G tb)) : PS X (.While c body [] pos) (upS G (dWhile tc tb)) :=
  PS.imp (ps_while hp hc hb) fun N σ H ⟨Δ, B, M, r, ⟨Iv, ⟨m0, i0⟩, turn⟩, k1, k2, k3, k4⟩ => by
    refine ⟨fun m σ' H' => ∃ Δ' B', DR G Δ' σ' H' B' ∧ Sub B B' ∧ Iv m Δ', ⟨m0, Δ, B, r, Sub.refl _, i0⟩, ?_⟩
    rintro m σ1 H1 ⟨Δ1, B1, r1, s1, q1⟩
    refine ⟨Δ1, B1, _, r1, turn m Δ1 q1, fun b Δ2 H2 B2 q2 r2 s2 => ?_⟩
    cases b with
    | true =>
      refine ⟨fun σ' H' => ∃ m', m' < m ∧ ∃ Δ' B', DR G Δ' σ' H' B' ∧ Sub B B' ∧ Iv m' Δ', fun σ' H' h => h, Δ2, B2, _, r2, q2, ?_, ?_, ?_, ?_⟩
      · exact fun a b c d ⟨m', hm, x⟩ y z => ⟨m', hm, a, d, y, (s1.trans s2).trans z, x⟩
      · exact fun a b c d x y z => k1 a b c d x y ((s1.trans s2).trans z)
      · exact fun a b c d ⟨m', hm, x⟩ y z => ⟨m', hm, a, d, y, (s1.trans s2).trans z, x⟩
      · exact fun a b c d x y z w => k4 a b c d x y ((s1.trans s2).trans z) w
    | false => exact k1 _ _ _ _ q2 r2 (s1.trans s2)

/-! ### comprehensions -/
def wipeD (Δ : List Sl) : List Nat → List Sl
  | [] => Δ
  | v :: vs => (wipeD Δ vs).set v .un
section
variable {K : PySem.W.Frag} {G : Gx K} {Δ : List Sl} {σ σ' : L2.St} {H B : Hp}
theorem DR.wipeA (r : DR G Δ σ H B) : ∀ vs : List Nat, DR G (wipeD Δ vs) (wipe σ vs) H B
  | [] => r
  | v :: vs => (DR.wipeA r vs).wipe1 v
/-- the frame as it was: the block's own names are forgotten -/
theorem DR.unwipe (r : DR G Δ σ' H B) {vs : List Nat} (e : wipe σ' vs = wipe σ vs) : DR G (wipeD Δ vs) σ H B := by
  have r1 := r.wipeA vs
  obtain ⟨fp, S⟩ := r1.sl
  have hl : σ'.length = σ.length := by have := congrArg List.length e; rwa [wipe_length, wipe_length] at this
  refine ⟨r1.gr, fp, by rw [S.len, wipe_length, hl], fun i s hs => ?_, S.dj, S.ou⟩
  obtain ⟨v, h1, h2⟩ := S.at_ i s hs
  have hi : i < σ.length := by
    have := (List.getElem?_eq_some_iff.mp h1).1
    rw [wipe_length] at this; omega
  by_cases hv : i ∈ vs
  · have un : ∀ (vs : List Nat), i ∈ vs → (wipeD Δ vs)[i]? = some s → s = .un := by
      intro vs
      induction vs with
      | nil => intro h; cases h
      | cons w ws ih =>
        intro h hs
        unfold wipeD at hs
        by_cases hw : w = i
        · subst hw
          by_cases hq : w < (wipeD Δ ws).length
          · rw [List.getElem?_set_self hq] at hs; cases hs; rfl
          · rw [List.getElem?_eq_none (by simpa using hq)] at hs; cases hs
        · rw [List.getElem?_set_ne hw] at hs
          exact ih ((List.mem_cons.mp h).resolve_left (fun z => hw z.symm)) hs
    have := un vs hv hs
    subst this
    refine ⟨σ[i], by simp [hi], ?_⟩
    generalize fp i = f at h2
    cases h2; exact .un _
  · refine ⟨v, ?_, h2⟩
    rw [e] at h1
    have out : ∀ {vs : List Nat}, i ∉ vs → (wipe σ vs)[i]? = σ[i]? := by
      intro vs
      induction vs with
      | nil => intro _; rfl
      | cons w ws ih =>
        intro h
        unfold wipe
        rw [List.getElem?_set_ne (fun z => h (by simp [z])), ih (fun z => h (by simp [z]))]
    rw [out hv] at h1
    exact h1
/-- nothing leaves by an exception -/
abbrev nox {K : PySem.W.Frag} (W : Wd K) (H0 B0 : Hp) : Gx K := ⟨W, H0, B0, fun _ _ _ => False, noE, fun _ _ _ h => h.elim⟩
abbrev gd {K : PySem.W.Frag} (G : Gx K) (L : Addr) (vs : List V) : Gx K := nox G.W (upd G.H0 L (.lst vs)) G.B0
/-- a list of ours that hangs behind, held while something else runs -/
theorem DR.hold {p : Addr} {ds : List D} (r : DR G (Δ ++ [.ol ds]) (σ ++ [some (.ref p)]) H B)   : ∃ vs, H p = some (.lst vs) ∧ Rps G.W B vs ds ∧ G.H0 p = none ∧ G.B0 p = none ∧ ¬ G.W.fv p ∧ DR (gd G p vs) Δ σ H B := by
  obtain ⟨fp, S⟩ := r.sl
  have hl : Δ.length = σ.length := by have := S.len; simpa using this
  obtain ⟨v, h1, h2⟩ := S.at_ Δ.length (.ol ds) (by rw [List.getElem?_append_right (Nat.le_refl _)]; simp)
  rw [hl, List.getElem?_append_right (Nat.le_refl _)] at h1
  simp at h1; subst h1
  have hp : p ∈ fp Δ.length ∧ ∃ vs, H p = some (.lst vs) ∧ Rps G.W B vs ds := by
    generalize hf : fp Δ.length = f
    rw [hf] at h2
    cases h2 with | ol _ _ vs e q => exact ⟨by simp, vs, e, q⟩
  obtain ⟨hp, vs, e, q⟩ := hp
  obtain ⟨c1, c2, c3, c4⟩ := S.ou _ _ hp
  have r0 := r.drop
  have b0 : G.B0 p = none := by
    cases x : G.B0 p with
    | none => rfl
    | some u => rw [r.gr.bas _ _ x] at c1; cases c1
  refine ⟨vs, e, q, c2, b0, c3, ⟨fun a u h s => ?_, fun a h => ?_, r.gr.bas, fun a h => ?_, r.gr.sub, r.gr.wok⟩, fun j => if j < Δ.length then fp j else [], hl, fun j x ej => ?_, fun j k a h1 h2 => ?_, fun j a h => ?_⟩
  · by_cases z : a = p
    · subst z
      have h : upd G.H0 a (.lst vs) a = some u := h
      rw [upd_same] at h; cases h; exact e
    · have h : upd G.H0 p (.lst vs) a = some u := h
      rw [upd_ne z] at h; exact r.gr.ext a u h s
  · by_cases z : a = p
    · subst z; rw [e]; simp
    · have h : upd G.H0 p (.lst vs) a ≠ none := h
      rw [upd_ne z] at h; exact r.gr.dom a h
  · by_cases z : a = p
    · subst z; exact absurd c1 h
    · refine (r.gr.new a h).imp id (Or.imp (fun h => ?_) fun ⟨u, h, n⟩ => ⟨u, ?_, n⟩)
      · show upd G.H0 p (.lst vs) a = none
        rw [upd_ne z]; exact h
      · show upd G.H0 p (.lst vs) a = some u
        rw [upd_ne z]; exact h
  · have hj : j < Δ.length := (List.getElem?_eq_some_iff.mp ej).1
    obtain ⟨w, q1, q2⟩ := S.at_ j x (by rw [List.getElem?_append_left hj]; exact ej)
    rw [List.getElem?_append_left (by omega)] at q1
    exact ⟨w, q1, by simp only [if_pos hj]; exact q2⟩
  · try dsimp only at h1 h2
    split at h1
    · split at h2
      · exact S.dj _ _ a h1 h2
      · cases h2
    · cases h1
  · try dsimp only at h
    split at h
    · rename_i hj
      obtain ⟨d1, d2, d3, d4⟩ := S.ou j a h
      refine ⟨d1, ?_, d3, d4⟩
      show upd G.H0 p (.lst vs) a = none
      rw [upd_ne (fun z => by have := S.dj j _ a h (z ▸ hp); omega)]; exact d2
    · cases h
theorem DR.unhold {p : Addr} {vs : List V} {ds : List D} (r : DR (gd G p vs) Δ σ H B) (h0 : G.H0 p = none) (b0 : G.B0 p = none) (nf : ¬ G.W.fv p) (q : Rps G.W B vs ds) : H p = some (.lst vs) ∧ DR G (Δ ++ [.ol ds]) (σ ++ [some (.ref p)]) H B := by
  obtain ⟨fp, S⟩ := r.sl
  have e : H p = some (.lst vs) := r.gr.ext p _ (show upd G.H0 p (.lst vs) p = _ from upd_same) ⟨fun _ z => (by cases z), nf⟩
  have bp : B p = none := by
    cases x : B p with
    | none => rfl
    | some u =>
      rcases r.gr.new p (by rw [x]; simp) with h | h | ⟨u, h, n⟩
      · exact absurd b0 h
      · have h : upd G.H0 p (.lst vs) p = none := h
        rw [upd_same] at h; cases h
      · have h : upd G.H0 p (.lst vs) p = some u := h
        rw [upd_same] at h; cases h; exact absurd True.intro n
  have up : ∀ a u, G.H0 a = some u → upd G.H0 p (.lst vs) a = some u := fun a u z => by rw [upd_ne (ne_of_none z h0)]; exact z
  have dn : ∀ a, upd G.H0 p (.lst vs) a = none → a ≠ p ∧ G.H0 a = none := fun a z => by
    have z1 : a ≠ p := fun w => by subst w; rw [upd_same] at z; cases z
    rw [upd_ne z1] at z
    exact ⟨z1, z⟩
  have hl := S.len
  refine ⟨e, ⟨fun a u h s => r.gr.ext a u (up a u h) s, fun a h => ?_, r.gr.bas, fun a h => ?_, r.gr.sub, r.gr.wok⟩, fun j => if j < Δ.length then fp j else if j = Δ.length then [p] else [], by simp [hl], fun j x ej => ?_, fun j k a h1 h2 => ?_, fun j a h => ?_⟩
  · cases w : G.H0 a with
    | none => exact absurd w h
    | some u => exact r.gr.dom a (by show upd G.H0 p (.lst vs) a ≠ none; rw [up a u w]; simp)
  · rcases r.gr.new a h with h | h | ⟨u, h, n⟩
    · exact .inl h
    · exact .inr (.inl (dn a h).2)
    · by_cases z : a = p
      · subst z; exact .inr (.inl h0)
      · have h : upd G.H0 p (.lst vs) a = some u := h
        rw [upd_ne z] at h; exact .inr (.inr ⟨u, h, n⟩)
  · by_cases hj : j < Δ.length
    · rw [List.getElem?_append_left hj] at ej
      obtain ⟨w, q1, q2⟩ := S.at_ j x ej
      refine ⟨w, by rw [List.getElem?_append_left (by rw [← hl]; exact hj)]; exact q1, ?_⟩
      simp only [if_pos hj]; exact q2
    · rw [List.getElem?_append_right (by omega)] at ej
      have z : j - Δ.length = 0 := by
        cases h : j - Δ.length with
        | zero => rfl
        | succ n => rw [h] at ej; simp at ej
      rw [z] at ej; simp at ej; subst ej
      refine ⟨_, by rw [List.getElem?_append_right (by rw [← hl]; omega), ← hl, z]; rfl, ?_⟩
      simp only [if_neg hj, if_pos (show j = Δ.length by omega)]
      exact .ol _ _ _ e q
  · have np : ∀ j a, a ∈ fp j → a ≠ p := fun j a ha => (dn a (S.ou j a ha).2.1).1
    try dsimp only at h1 h2
    split at h1
    · split at h2
      · exact S.dj _ _ a h1 h2
      · split at h2
        · simp at h2; exact absurd h2 (np _ a h1)
        · cases h2
    · split at h1
      · simp at h1
        split at h2
        · exact absurd h1 (np _ a h2)
        · split at h2
          · omega
          · cases h2
      · cases h1
  · try dsimp only at h
    split at h
    · obtain ⟨d1, d2, d3, d4⟩ := S.ou j a h
      exact ⟨d1, (dn a d2).2, d3, d4⟩
    · split at h
      · simp at h; subst h
        exact ⟨bp, h0, nf, _, e, True.intro⟩
      · cases h
end
def dLC (own : List Nat) (ti : DTI) (g : DTG) (tt : DTT) (te : DTE) : DTM := fun Δ Q E => ti Δ (fun ds Δ1 => ∃ Iv : Nat → List D → List Sl → Prop, Iv 0 [] (wipeD Δ1 own) ∧
  (∀ i d acc Δ2, ds[i]? = some d → Iv i acc Δ2 → g d Δ2 fun Δ3 => tt Δ3 (fun b Δ4 => if b = true then te Δ4 (fun e Δ5 => acc.length < sizeLine ∧ Iv (i + 1) (acc ++ [e]) (wipeD Δ5 own)) noE else Iv (i + 1) acc (wipeD Δ4 own)) noE) ∧
  ∀ acc Δ2, Iv ds.length acc Δ2 → Q (.ol acc) Δ2) E

def PTs.imp {X : Cx} {e : List Expr} {t u : TT} (h : PTs X e t) (i : ∀ σ H Q, u σ H Q → t σ H Q) : PTs X e u := ⟨fun p s σ H Q I q => h.run p s σ H Q I (i σ H Q q)⟩
def dYes : DTT := fun Δ Q _ => Q true Δ
theorem dts_nil {X : Cx} {G : Gx X.K} : PTs X [] (upT G dYes) := PTs.imp pts_nil fun σ H Q ⟨Δ, B, Qd, r, q, k⟩ => k _ _ _ _ q r (Sub.refl _)
theorem dts_one {X : Cx} {G : Gx X.K} {c : Expr} {t : DTT} (h : PT X c (upT G t)) : PTs X [c] (upT G t) := pts_one h
theorem Keeps.own {S vs : List Nat} {σ σ' : L2.St} (h : Keeps S σ σ') (hs : ∀ i ∈ S, i ∈ vs) : wipe σ' vs = wipe σ vs := h vs hs
theorem wipe_wipe {σ : L2.St} : ∀ vs : List Nat, wipe (wipe σ vs) vs = wipe σ vs
  | [] => rfl
  | v :: vs => by
    have h : ∀ (ws : List Nat) (τ : L2.St) (i : Nat), wipe (τ.set i none) ws = (wipe τ ws).set i none := by
      intro ws
      induction ws with
      | nil => intro τ i; rfl
      | cons w ws ih =>
        intro τ i
        unfold wipe
        rw [ih]
        by_cases e : i = w
        · subst e; rfl
        · rw [List.set_comm _ _ e]
    show (wipe ((wipe σ vs).set v none) vs).set v none = (wipe σ vs).set v none
    rw [h, List.set_set, wipe_wipe vs]
theorem wipeD_idem {Δ : List Sl} : ∀ vs : List Nat, wipeD (wipeD Δ vs) vs = wipeD Δ vs
  | [] => rfl
  | v :: vs => by
    have h : ∀ (ws : List Nat) (τ : List Sl) (i : Nat), wipeD (τ.set i .un) ws = (wipeD τ ws).set i .un := by
      intro ws
      induction ws with
      | nil => intro τ i; rfl
      | cons w ws ih =>
        intro τ i
        unfold wipeD
        rw [ih]
        by_cases e : i = w
        · subst e; rfl
        · rw [List.set_comm _ _ e]
    show (wipeD ((wipeD Δ vs).set v .un) vs).set v .un = (wipeD Δ vs).set v .un
    rw [h, List.set_set, wipeD_idem vs]
theorem DR.more {K : PySem.W.Frag} {G : Gx K} {Δ : List Sl} {σ : L2.St} {H B : Hp} {L : Addr} {vs : List V} {ds : List D} {y : V} {d : D} (r : DR (gd G L vs) Δ σ H B) (h0 : G.H0 L = none) (b0 : G.B0 L = none) (nf : ¬ G.W.fv L) (q : Rps G.W B vs ds) (ry : Rp G.W B y d) :
    H L = some (.lst vs) ∧ DR (gd G L (vs ++ [y])) Δ σ (upd H L (.lst (vs ++ [y]))) B := by
  obtain ⟨e, r1⟩ := r.unhold h0 b0 nf q
  have hl : Δ.length = σ.length := by obtain ⟨fp, S⟩ := r.sl; exact S.len
  have q2 := q.append (Rps.one ry)
  have r2 := r1.write (i := Δ.length) (s := .ol ds) (s' := .ol (ds ++ [d])) (p := L) (o' := .lst (vs ++ [y])) (by rw [List.getElem?_append_right (Nat.le_refl _)]; simp)
    (by rw [hl, List.getElem?_append_right (Nat.le_refl _)]; simp) (fun B H f h => by cases h; rfl) e True.intro (.ol _ _ _ upd_same q2)
  have e2 : (Δ ++ [Sl.ol ds]).set Δ.length (.ol (ds ++ [d])) = Δ ++ [.ol (ds ++ [d])] := by simp
  rw [e2] at r2
  obtain ⟨ws, e3, q3, _, _, _, r3⟩ := r2.hold
  rw [upd_same] at e3
  cases e3
  exact ⟨e, r3⟩
section
variable {X : Cx} {G : Gx X.K} {pos : Pos}
theorem lc_up {own : List Nat} {S : List Nat} {ti : DTI} {g : DTG} {tt : DTT} {te : DTE} (hS : ∀ i ∈ S, i ∈ own) {σ : L2.St} {H : Hp} {Q : VK} (h : upM G (dLC own ti g tt te) σ H Q)
    {gH : TG} {ttH : TT} {teH : TE}
    (hg : ∀ (H0 B0 : Hp) v σ H Q, upG (nox G.W H0 B0) S g v σ H Q → gH v σ H Q)
    (ht : ∀ (H0 B0 : Hp) σ H Q, upT (nox G.W H0 B0) tt σ H Q → ttH σ H Q)
    (he : ∀ (H0 B0 : Hp) σ H Q, upE (nox G.W H0 B0) te σ H Q → teH σ H Q) : tLc (upI G ti) gH ttH teH own σ H Q := by
  obtain ⟨Δ, B, Qd, r, q, k⟩ := h
  refine ⟨Δ, B, _, r, q, fun ds Δ1 J H1 B1 ⟨Iv, i0, turn, fin⟩ r1 s1 it L hL => ?_⟩
  have n1 := NewV.lst (ds := []) r1.gr hL .nil
  obtain ⟨vs0, e0, q0, h0, b0, nf, rg⟩ := ((r1.wipeA own).hangS n1).hold
  have ev : vs0 = [] := by rw [upd_same] at e0; cases e0; rfl
  subst ev
  refine ⟨fun i m H' => ∃ Δ' B' acc vs, m = ds.length - i ∧ i ≤ ds.length ∧ DR (gd G L vs) Δ' (wipe σ own) H' B' ∧ Rps G.W B' vs acc ∧ Sub B1 B' ∧ Iv i acc Δ' ∧ wipeD Δ' own = Δ',
    ⟨_, wipeD Δ1 own, B1, [], [], rfl, Nat.zero_le _, rg, .nil, Sub.refl _, i0, wipeD_idem own⟩, ?_⟩
  rintro i m H2 ⟨Δ2, B2, acc, vs, rfl, hi, r2, q2, s2, v2, w2⟩
  by_cases hl : i < ds.length
  · refine .inr ⟨it.go r2.gr s2 hl, fun H' => ∃ Δ' B' acc vs, DR (gd G L vs) Δ' (wipe σ own) H' B' ∧ Rps G.W B' vs acc ∧ Sub B1 B' ∧ Iv (i + 1) acc Δ' ∧ wipeD Δ' own = Δ', fun H' ⟨Δ', B', acc, vs, h⟩ => ⟨_, by omega, Δ', B', acc, vs, rfl, hl, h⟩, fun x H3 y => ?_⟩
    obtain ⟨B3, d, hd, g3, rp⟩ := it.yld r2.gr s2 hl y
    have r3 := r2.grow g3
    have q3 := q2.mono g3.bas
    refine hg _ _ _ _ _ _ ⟨Δ2, B3, d, _, r3, rp, turn i d acc Δ2 hd v2, fun Δ4 σ4 H4 B4 q4 r4 s4 kp => ?_⟩
    have we2 : wipe σ4 own = wipe σ own := (kp own hS).trans (wipe_wipe own)
    refine ⟨we2, ht _ _ _ _ _ ⟨Δ4, B4, _, r4, q4, fun b Δ5 H5 B5 q5 r5 s5 => ?_⟩⟩
    have we3 : wipe σ4 own = wipe (wipe σ own) own := kp own hS
    cases b with
    | true =>
      refine he _ _ _ _ _ ⟨Δ5, B5, _, r5, q5, fun e Δ6 z H6 B6 ⟨hz, q6⟩ r6 s6 rz => ?_⟩
      have q7 := ((q3.mono s4).mono s5).mono s6
      obtain ⟨e7, r7⟩ := r6.more h0 b0 nf q7 rz
      refine ⟨vs, e7, by rw [q7.length]; exact hz, wipeD Δ6 own, B6, acc ++ [e], vs ++ [z], r7.unwipe we3, q7.append (Rps.one rz), (((s2.trans g3.bas).trans s4).trans s5).trans s6, q6, wipeD_idem own⟩
    | false => exact ⟨wipeD Δ5 own, B5, acc, vs, r5.unwipe we3, (q3.mono s4).mono s5, ((s2.trans g3.bas).trans s4).trans s5, q5, wipeD_idem own⟩
  · have e : i = ds.length := by omega
    subst e
    refine .inl ⟨it.stop r2.gr s2 (Nat.le_refl _), ?_⟩
    have r5 := r2.unwipe (σ := σ) (vs := own) (wipe_wipe own)
    rw [w2] at r5
    obtain ⟨e5, r6⟩ := r5.unhold h0 b0 nf q2
    exact k _ _ _ _ _ (fin _ _ v2) r6 (s1.trans s2)
end
end DL
-- DLfun
set_option Elab.async false
set_option linter.all false
set_option maxRecDepth 100000
set_option maxHeartbeats 2000000
set_option autoImplicit false
namespace DL
open PySem PySem.Spec L2
open PyProof.Rows hiding St

section
variable {X : Cx} {G : Gx X.K} {pos : Pos}
/-! ### comprehensions, as rules -/
theorem dm_lc {elt tg iter : Expr} {ifs : List Expr} {scope : Scope} {own : List (Str × Nat)} {S : List Nat} {ti : DTI} {g : DTG} {tt : DTT} {te : DTE} (hc : X.calm = true) (hN : X.N.Nodup) (hi : PI X tg iter (upI G ti)) (ok : BlkOk X.N X.env.scope scope own)
    (hg : ∀ (s : Shared) (H : Hp) (C : Addr) (cl : List (Str × Addr)) (fp : List Addr) (H0 B0 : Hp), PG (X.blk s H scope (compEnvC scope cl C X.env) fp) tg (upG (nox G.W H0 B0) S g))
    (ht : ∀ (s : Shared) (H : Hp) (C : Addr) (cl : List (Str × Addr)) (fp : List Addr) (H0 B0 : Hp), PTs (X.blk s H scope (compEnvC scope cl C X.env) fp) ifs (upT (nox G.W H0 B0) tt))
    (he : ∀ (s : Shared) (H : Hp) (C : Addr) (cl : List (Str × Addr)) (fp : List Addr) (H0 B0 : Hp), PE (X.blk s H scope (compEnvC scope cl C X.env) fp) elt (upE (nox G.W H0 B0) te))
    (hS : ∀ i ∈ S, i ∈ own.map (·.2) := by decide) (hs : ∀ x, foldedSetIterable iter X.env x = pure x := by intro _; rfl) : PE X (.ListComp elt [⟨tg, iter, ifs, 0⟩] scope pos) (upM G (dLC (own.map (·.2)) ti g tt te)) :=
  PE.imp (pe_lc (g := fun v σ H Q => ∃ H0 B0, upG (nox G.W H0 B0) S g v σ H Q) (tt := fun σ H Q => ∃ H0 B0, upT (nox G.W H0 B0) tt σ H Q) (te := fun σ H Q => ∃ H0 B0, upE (nox G.W H0 B0) te σ H Q) hc hN hi ok
    (fun s H C cl fp => ⟨fun p s' σ H' v u Q I r ⟨H0, B0, q⟩ => (hg s H C cl fp H0 B0).run p s' σ H' v u Q I r q⟩)
    (fun s H C cl fp => ⟨fun p s' σ H' Q I ⟨H0, B0, q⟩ => (ht s H C cl fp H0 B0).run p s' σ H' Q I q⟩)
    (fun s H C cl fp => ⟨fun p s' σ H' Q I ⟨H0, B0, q⟩ => (he s H C cl fp H0 B0).run p s' σ H' Q I q⟩) hs)
    fun σ H Q h => lc_up hS h (fun H0 B0 _ _ _ _ q => ⟨H0, B0, q⟩) (fun H0 B0 _ _ _ q => ⟨H0, B0, q⟩) (fun H0 B0 _ _ _ q => ⟨H0, B0, q⟩)
theorem ds_setLC {i : Nat} {y : Str} {py : Pos} {elt tg iter : Expr} {ifs : List Expr} {scope : Scope} {own : List (Str × Nat)} {S : List Nat} {spos : Pos} {ti : DTI} {g : DTG} {tt : DTT} {te : DTE} (hc : X.calm = true) (hN : X.N.Nodup) (hi : PI X tg iter (upI G ti)) (ok : BlkOk X.N X.env.scope scope own)
    (hg : ∀ (s : Shared) (H : Hp) (C : Addr) (cl : List (Str × Addr)) (fp : List Addr) (H0 B0 : Hp), PG (X.blk s H scope (compEnvC scope cl C X.env) fp) tg (upG (nox G.W H0 B0) S g))
    (ht : ∀ (s : Shared) (H : Hp) (C : Addr) (cl : List (Str × Addr)) (fp : List Addr) (H0 B0 : Hp), PTs (X.blk s H scope (compEnvC scope cl C X.env) fp) ifs (upT (nox G.W H0 B0) tt))
    (he : ∀ (s : Shared) (H : Hp) (C : Addr) (cl : List (Str × Addr)) (fp : List Addr) (H0 B0 : Hp), PE (X.blk s H scope (compEnvC scope cl C X.env) fp) elt (upE (nox G.W H0 B0) te))
    (hsw : swapsWith (.ListComp elt [⟨tg, iter, ifs, 0⟩] scope pos) (some (.Name y py)) spos.line X.env = pure true) (hyl : X.env.scope.names.lookup y = some .local := by rfl) (hy : X.N[i]? = some y := by rfl)
    (hS : ∀ i ∈ S, i ∈ own.map (·.2) := by decide) (hs : ∀ x, foldedSetIterable iter X.env x = pure x := by intro _; rfl) : PS X (.Assign [.Name y py] (.ListComp elt [⟨tg, iter, ifs, 0⟩] scope pos) spos) (upS G (dSetM i (dLC (own.map (·.2)) ti g tt te))) :=
  PS.imp (ps_setLc (g := fun v σ H Q => ∃ H0 B0, upG (nox G.W H0 B0) S g v σ H Q) (tt := fun σ H Q => ∃ H0 B0, upT (nox G.W H0 B0) tt σ H Q) (te := fun σ H Q => ∃ H0 B0, upE (nox G.W H0 B0) te σ H Q) hc hN hy hyl hsw hi ok
    (fun s H C cl fp => ⟨fun p s' σ H' v u Q I r ⟨H0, B0, q⟩ => (hg s H C cl fp H0 B0).run p s' σ H' v u Q I r q⟩)
    (fun s H C cl fp => ⟨fun p s' σ H' Q I ⟨H0, B0, q⟩ => (ht s H C cl fp H0 B0).run p s' σ H' Q I q⟩)
    (fun s H C cl fp => ⟨fun p s' σ H' Q I ⟨H0, B0, q⟩ => (he s H C cl fp H0 B0).run p s' σ H' Q I q⟩) hs)
    fun N σ H ⟨Δ, B, M, r, q, k, _⟩ => lc_up hS (Q := fun x H1 => gName i x σ H1 N.nx) ⟨Δ, B, _, r, q, fun s Δ1 v H1 B1 ⟨hl, q1⟩ r1 s1 => k _ _ _ _ q1 (r1.move hl) s1⟩ (fun H0 B0 _ _ _ _ q => ⟨H0, B0, q⟩) (fun H0 B0 _ _ _ q => ⟨H0, B0, q⟩) (fun H0 B0 _ _ _ q => ⟨H0, B0, q⟩)

/-! ### what changes a name's own list -/
def ownL (Δ : List Sl) (i : Nat) (ds : List D) : Prop := Δ[i]? = some (.ol ds)
theorem DR.ol {K : PySem.W.Frag} {G : Gx K} {Δ : List Sl} {σ : L2.St} {H B : Hp} {i : Nat} {ds : List D} (r : DR G Δ σ H B) (e : Δ[i]? = some (.ol ds)) : ∃ p vs, σ[i]? = some (some (.ref p)) ∧ H p = some (.lst vs) ∧ Rps G.W B vs ds := by
  obtain ⟨fp, S⟩ := r.sl
  obtain ⟨v, h1, h2⟩ := S.at_ i _ e
  generalize fp i = f at h2
  cases h2 with | ol _ p vs e q => exact ⟨p, vs, h1, e, q⟩
theorem DR.setL {K : PySem.W.Frag} {G : Gx K} {Δ : List Sl} {σ : L2.St} {H B : Hp} {i : Nat} {ds ds' : List D} {p : Addr} {vs vs' : List V} (r : DR G Δ σ H B) (e : Δ[i]? = some (.ol ds)) (hv : σ[i]? = some (some (.ref p))) (hp : H p = some (.lst vs)) (q : Rps G.W B vs' ds') :
    DR G (Δ.set i (.ol ds')) σ (upd H p (.lst vs')) B :=
  r.write e hv (fun B H f h => by cases h; rfl) hp True.intro (.ol _ _ _ upd_same q)
/-- x.append(e) -/
def dAppend (i : Nat) (t : DTA) : DTS := fun N Δ E => (∃ ds0, Δ[i]? = some (.ol ds0)) ∧ t Δ (fun es Δ1 => ∃ e ds, es = [e] ∧ Δ1[i]? = some (.ol ds) ∧ ds.length < sizeLine ∧ N.nx (Δ1.set i (.ol (ds ++ [e])))) E
theorem ds_append (i : Nat) {x : Str} {a : Expr} {p apos cpos : Pos} {t : DTA} (ha : PA X [a] (upA G t)) (hN : X.N[i]? = some x := by rfl) (hv : Vis X.env.scope x := by first | exact Or.inl rfl | exact Or.inr (Or.inl rfl) | exact Or.inr (Or.inr rfl))
    (hd : (x == ("__debug__" : Str)) = false := by decide) (hcd : (x == ("__classdict__" : Str)) = false := by decide)
    (hbase : attributeBase (.Name x p) "append" X.env (eval (.Name x p) X.env) = eval (.Name x p) X.env := by rfl)
    (hfew : ((backTo cpos (starEach [a] X.env)).all (fun x => !x.1) && (backToKw cpos (keywordEach [] X.env)).all (fun x => x.1.isSome)
      && decide ([a].length + ([] : List Keyword).length + (if ([] : List Keyword).isEmpty then 0 else 1) < 30)) = true := by rfl)
    (hline : (apos.endLine == cpos.line) = true := by rfl) (hst : starEach [a] X.env = (false, eval a X.env) :: starEach [] X.env := by rfl) (hplain : (backTo cpos (starEach [] X.env)).any (·.1) = false := by rfl)
    (hs : swapsWith (.Call (.Attribute (.Name x p) "append" apos) [a] [] cpos) none pos.line X.env = pure false := by rfl) :
    PS X (.Expr (.Call (.Attribute (.Name x p) "append" apos) [a] [] cpos) pos) (upS G (dAppend i t)) :=
  PS.imp (ps_expr (pe_bm PySem.F.plainAttrs_list PySem.F.slot_list_append PySem.F.type_list_append mt_append (pe_var hN hv hd hcd) ha hbase hfew hline hst hplain) hs) fun N σ H ⟨Δ, B, M, r, ⟨⟨ds0, e0⟩, q⟩, k, _⟩ => by
    obtain ⟨p0, vs0, h1, h2, _⟩ := r.ol e0
    refine ⟨.ref p0, h1, .inl ⟨rfl, vs0, .of h2⟩, Δ, B, _, r, q, ?_⟩
    rintro es Δ1 vs H1 B1 ⟨e, ds, rfl, e1, hz, q1⟩ r1 s1 rps
    obtain ⟨p1, ws, g1, g2, g3⟩ := r1.ol e1
    rw [h1] at g1; cases g1
    cases rps with
    | cons v _ _ _ ra rb =>
      cases rb
      exact ⟨p0, ws, v, rfl, rfl, g2, by rw [g3.length]; exact hz, k _ _ _ _ q1 (r1.setL e1 h1 g2 (g3.append (Rps.one ra))) s1⟩
/-- x.pop() -/
def dPop (i : Nat) : DTE := fun Δ Q _ => ∃ ds d, Δ[i]? = some (.ol ds) ∧ ds.getLast? = some d ∧ Q d (Δ.set i (.ol ds.dropLast))
theorem de_pop (i : Nat) {x : Str} {p apos cpos : Pos} (hN : X.N[i]? = some x := by rfl) (hv : Vis X.env.scope x := by first | exact Or.inl rfl | exact Or.inr (Or.inl rfl) | exact Or.inr (Or.inr rfl))
    (hd : (x == ("__debug__" : Str)) = false := by decide) (hcd : (x == ("__classdict__" : Str)) = false := by decide)
    (hbase : attributeBase (.Name x p) "pop" X.env (eval (.Name x p) X.env) = eval (.Name x p) X.env := by rfl) (hline : (apos.endLine == cpos.line) = true := by rfl) :
    PE X (.Call (.Attribute (.Name x p) "pop" apos) [] [] cpos) (upE G (dPop i)) :=
  PE.imp (pe_bm0 PySem.F.plainAttrs_list PySem.F.slot_list_pop PySem.F.type_list_pop mt_pop (pe_var hN hv hd hcd) hbase hline) fun σ H Q ⟨Δ, B, Qd, r, ⟨ds, d, e0, el, q⟩, k⟩ => by
    obtain ⟨p0, vs0, h1, h2, h3⟩ := r.ol e0
    rw [List.getLast?_eq_getElem?] at el
    obtain ⟨v, hv2, rv⟩ := h3.get el
    refine ⟨.ref p0, h1, .inl ⟨rfl, vs0, .of h2⟩, p0, vs0, v, rfl, rfl, h2, by rw [h3.length]; exact hv2, k _ _ _ _ _ q (r.setL e0 h1 h2 ?_) (Sub.refl _) rv⟩
    rw [List.dropLast_eq_take, List.dropLast_eq_take, h3.length]
    exact h3.take _

/-! ### x[k] = e -/
theorem PS.or {st : Stmt} {t u : TS} (h : PS X st t) (g : PS X st u) : PS X st (fun D σ H => t D σ H ∨ u D σ H) := ⟨fun p s σ H D I q => q.elim (h.run p s σ H D I) (g.run p s σ H D I)⟩
end
theorem put_pair {K : PySem.W.Frag} {W : Wd K} {B : Hp} {κ : Type} [DecidableEq κ] {kvs : List (κ × V)} {ds : List (κ × D)} (h : kvs.map (·.1) = ds.map (·.1)) (r : Rps W B (kvs.map (·.2)) (ds.map (·.2))) (k : κ) {v : V} {d : D} (rv : Rp W B v d) :
    (putK kvs k v).map (·.1) = (put ds k d).map (·.1) ∧ Rps W B ((putK kvs k v).map (·.2)) ((put ds k d).map (·.2)) := by
  have ha : (kvs.any fun kv => decide (kv.1 = k)) = ds.any fun kv => decide (kv.1 = k) := by
    have e1 : (kvs.any fun kv => decide (kv.1 = k)) = (kvs.map (·.1)).any fun x => decide (x = k) := by rw [List.any_map]; rfl
    have e2 : (ds.any fun kv => decide (kv.1 = k)) = (ds.map (·.1)).any fun x => decide (x = k) := by rw [List.any_map]; rfl
    rw [e1, e2, h]
  unfold putK put
  rw [ha]
  split
  · rename_i hq
    clear hq ha
    induction kvs generalizing ds with
    | nil =>
      cases ds with
      | nil => exact ⟨rfl, .nil⟩
      | cons _ _ => simp at h
    | cons p kvs ih =>
      cases ds with
      | nil => simp at h
      | cons q ds =>
        have hk : p.1 = q.1 ∧ kvs.map (·.1) = ds.map (·.1) := by simpa using h
        cases r with
        | cons _ _ _ _ a b =>
          obtain ⟨i1, i2⟩ := ih hk.2 b
          simp only [List.map_cons]
          refine ⟨?_, ?_⟩
          · rw [i1]
            congr 1
            rw [← hk.1]
            split <;> simp [hk.1]
          · rw [← hk.1]
            split
            · exact .cons _ _ _ _ rv i2
            · exact .cons _ _ _ _ a i2
  · simp only [List.map_append, List.map_cons, List.map_nil]
    exact ⟨by rw [h], r.append (Rps.one rv)⟩
/-- the value first, then the key -/
def dSetIx (i : Nat) (tv tk : DTE) : DTS := fun N Δ E =>
  ((∃ ds0, Δ[i]? = some (.ol ds0)) ∧ tv Δ (fun d Δ1 => tk Δ1 (fun k Δ2 => ∃ ds j n, Δ2[i]? = some (.ol ds) ∧ k = .int j ∧ ixN ds.length j = some n ∧ N.nx (Δ2.set i (.ol (ds.set n d)))) E) E) ∨
  (((∃ ds0, Δ[i]? = some (.ok ds0)) ∧ tv Δ (fun d Δ1 => tk Δ1 (fun k Δ2 => ∃ ds y, Δ2[i]? = some (.ok ds) ∧ k.key = some y ∧ ds.length < sizeLine ∧ N.nx (Δ2.set i (.ok (put ds y d)))) E) E) ∨
  ((∃ ds0, Δ[i]? = some (.ot ds0)) ∧ tv Δ (fun d Δ1 => tk Δ1 (fun k Δ2 => ∃ ds y, Δ2[i]? = some (.ot ds) ∧ k.keyT = some y ∧ ds.length < sizeLine ∧ N.nx (Δ2.set i (.ot (put ds y d)))) E) E))
section
variable {X : Cx} {G : Gx X.K} {pos : Pos}
theorem DR.okd {K : PySem.W.Frag} {G : Gx K} {Δ : List Sl} {σ : L2.St} {H B : Hp} {i : Nat} {ds : List (Key × D)} (r : DR G Δ σ H B) (e : Δ[i]? = some (.ok ds)) : ∃ p kvs, σ[i]? = some (some (.ref p)) ∧ H p = some (.dK kvs) ∧ kvs.map (·.1) = ds.map (·.1) ∧ Rps G.W B (kvs.map (·.2)) (ds.map (·.2)) := by
  obtain ⟨fp, S⟩ := r.sl
  obtain ⟨v, h1, h2⟩ := S.at_ i _ e
  generalize fp i = f at h2
  cases h2 with | ok _ p vs e k q => exact ⟨p, vs, h1, e, k, q⟩
theorem DR.otd {K : PySem.W.Frag} {G : Gx K} {Δ : List Sl} {σ : L2.St} {H B : Hp} {i : Nat} {ds : List (List Key × D)} (r : DR G Δ σ H B) (e : Δ[i]? = some (.ot ds)) : ∃ p kvs, σ[i]? = some (some (.ref p)) ∧ H p = some (.dT kvs) ∧ kvs.map (·.1) = ds.map (·.1) ∧ Rps G.W B (kvs.map (·.2)) (ds.map (·.2)) := by
  obtain ⟨fp, S⟩ := r.sl
  obtain ⟨v, h1, h2⟩ := S.at_ i _ e
  generalize fp i = f at h2
  cases h2 with | ot _ p vs e k q => exact ⟨p, vs, h1, e, k, q⟩
theorem ds_setIx (i : Nat) {x : Str} {k e : Expr} {p sp : Pos} {tv tk : DTE} (hu : X.A.units + 1 < cLine) (he : PE X e (upE G tv)) (hk : PE X k (upE G tk)) (hN : X.N[i]? = some x := by rfl) (hv : Vis X.env.scope x := by first | exact Or.inl rfl | exact Or.inr (Or.inl rfl) | exact Or.inr (Or.inr rfl))
    (hd : (x == ("__debug__" : Str)) = false := by decide) (hcd : (x == ("__classdict__" : Str)) = false := by decide)
    (hs : swapsWith e (some (.Subscript (.Name x p) k sp)) pos.line X.env = pure false := by rfl) (hs2 : swapsWithSole [.Subscript (.Name x p) k sp] e pos.line X.env = pure false := by rfl) (hw : swappedStores [.Subscript (.Name x p) k sp] e X.env = pure none := by rfl)
    (h1 : (assignEach [.Subscript (.Name x p) k sp] X.env).map (·.2) = [assign (.Subscript (.Name x p) k sp) X.env] := by rfl)
    (ha : ∀ v, assign (.Subscript (.Name x p) k sp) X.env v = (do
      let ov ← holding [v] (eval (.Name x p) X.env)
      let iv ← holding [v, ov] (eval k X.env)
      standAt sp
      holding [v, ov, iv] (setItem ov iv v)
      release [v, ov, iv] []) := by intro _; rfl) : PS X (.Assign [.Subscript (.Name x p) k sp] e pos) (upS G (dSetIx i tv tk)) :=
  PS.imp (PS.or (ps_asg he (pg_sub (pe_var hN hv hd hcd) hk set_list ha) hs2 hw h1) (ps_dput hu (pe_var hN hv hd hcd) hk he hs)) fun N σ H ⟨Δ, B, M, r, q, k, _⟩ => by
    rcases q with ⟨⟨ds0, e0⟩, q⟩ | ⟨⟨ds0, e0⟩, q⟩ | ⟨⟨ds0, e0⟩, q⟩
    · refine .inl ⟨Δ, B, _, r, q, fun d Δ1 v H1 B1 q1 r1 s1 rv => ?_⟩
      obtain ⟨p0, vs0, g1, g2, _⟩ := r.ol e0
      refine ⟨.ref p0, g1, Δ1, B1, _, r1, q1, ?_⟩
      rintro kd Δ2 kv H2 B2 ⟨ds, j, n, e2, rfl, hj, q2⟩ r2 s2 rk
      cases rk
      obtain ⟨p1, ws, f1, f2, f3⟩ := r2.ol e2
      rw [g1] at f1; cases f1
      exact ⟨p0, ws, j, n, rfl, rfl, f2, by rw [f3.length]; exact hj, k _ _ _ _ q2 (r2.setL e2 g1 f2 (f3.set (rv.mono s2) n)) (s1.trans s2)⟩
    · refine .inr ⟨Δ, B, _, r, q, fun d Δ1 v H1 B1 q1 r1 s1 rv => ?_⟩
      obtain ⟨p0, vs0, g1, g2, _⟩ := r.okd e0
      refine ⟨.ref p0, g1, Δ1, B1, _, r1, q1, ?_⟩
      rintro kd Δ2 kv H2 B2 ⟨ds, y, e2, ek, hz, q2⟩ r2 s2 rk
      obtain ⟨p1, ws, f1, f2, f3, f4⟩ := r2.okd e2
      rw [g1] at f1; cases f1
      have hl : ws.length = ds.length := by have := congrArg List.length f3; simpa using this
      obtain ⟨a1, a2⟩ := put_pair f3 f4 y (rv.mono s2)
      exact ⟨p0, _, rfl, .inl ⟨ws, y, f2, key_inv rk ek, by rw [hl]; exact hz, rfl⟩, k _ _ _ _ q2 (r2.write e2 g1 (fun B H f h => by cases h; rfl) f2 True.intro (.ok _ _ _ upd_same a1 a2)) (s1.trans s2)⟩
    · refine .inr ⟨Δ, B, _, r, q, fun d Δ1 v H1 B1 q1 r1 s1 rv => ?_⟩
      obtain ⟨p0, vs0, g1, g2, _⟩ := r.otd e0
      refine ⟨.ref p0, g1, Δ1, B1, _, r1, q1, ?_⟩
      rintro kd Δ2 kv H2 B2 ⟨ds, y, e2, ek, hz, q2⟩ r2 s2 rk
      obtain ⟨p1, ws, f1, f2, f3, f4⟩ := r2.otd e2
      rw [g1] at f1; cases f1
      have hl : ws.length = ds.length := by have := congrArg List.length f3; simpa using this
      obtain ⟨a1, a2⟩ := put_pair f3 f4 y (rv.mono s2)
      obtain ⟨b, rfl, hb⟩ := keyT_inv rk ek
      exact ⟨p0, _, rfl, .inr ⟨ws, y, b, f2, rfl, r2.sub _ _ hb, by rw [hl]; exact hz, rfl⟩, k _ _ _ _ q2 (r2.write e2 g1 (fun B H f h => by cases h; rfl) f2 True.intro (.ot _ _ _ upd_same a1 a2)) (s1.trans s2)⟩
end

/-! ### raise, calls, defs -/
section
variable {X : Cx} {G : Gx X.K} {pos : Pos}
theorem ds_raise {e : Expr} {C : Addr} (hc : X.calm = true) (tk : Takes X (fun c d _ H => G.E c d H)) (he : PMk X e (fun _ H Q => Q (.ref C) none H)) : PS X (.Raise (some e) none pos) (upS G (dRaise C)) :=
  PS.imp (ps_raise hc tk he) fun N σ H ⟨Δ, B, M, r, q, _⟩ => G.hE C H B q r.gr
/-- what a callee lets out goes out of this body -/
theorem pass_up (tk : Takes X (fun c d _ H => G.E c d H)) : Passes (L2.CX X.prog X.w) X G.E := passes_call tk fun _ _ _ _ h => h
theorem pass_no {W : Wd X.K} {H0 B0 : Hp} : Passes (L2.CX X.prog X.w) X (nox W H0 B0).E := passL
end
/-- the promise of a def, over trees: only for lists of the right length -/
def SpD.ar (n : Nat) (sp : SpD) : SpD := fun ds Q E => ds.length = n ∧ sp ds Q E
def startD (n : Nat) (ds : List D) : List Sl := ds.map .im ++ List.replicate (n - ds.length) .un
theorem Sls.start {K : PySem.W.Frag} {G : Gx K} {H B : Hp} {vs : List V} {ds : List D} {N : List Str} (h : Rps G.W B vs ds) : Sls G (startD N.length ds) (L2.start N vs) H B (fun _ => []) where
  len := by unfold startD L2.start; rw [List.length_append, List.length_append, List.length_map, List.length_map, List.length_replicate, List.length_replicate, h.length]
  at_ := fun i s e => by
    unfold startD at e
    unfold L2.start
    by_cases hi : i < ds.length
    · rw [List.getElem?_append_left (by simpa using hi), List.getElem?_map] at e
      rw [List.getElem?_append_left (by simpa [h.length] using hi), List.getElem?_map]
      obtain ⟨v, h1, h2⟩ := h.get (List.getElem?_eq_getElem hi)
      rw [List.getElem?_eq_getElem hi] at e
      simp at e; subst e
      rw [h1]
      exact ⟨some v, rfl, .im _ _ h2⟩
    · rw [List.getElem?_append_right (by simpa using hi), List.getElem?_replicate] at e
      split at e
      · cases e
        rename_i hj
        have hj : i - ds.length < N.length - ds.length := by simpa using hj
        refine ⟨none, ?_, .un _⟩
        rw [List.getElem?_append_right (by rw [List.length_map, h.length]; omega), List.getElem?_replicate, if_pos (by rw [List.length_map, h.length]; exact hj)]
      · cases e
  dj := fun i j a h => by cases h
  ou := fun i a h => by cases h
section
variable {P : Program} {w : World} {K : PySem.W.Frag} {mg : Str → Option Value} {base : Heap}
abbrev cxB (P : Program) (w : World) (K : PySem.W.Frag) (mg : Str → Option Value) (base : Heap) (N : List Str) (qual : Str) (st : Stmt) (f : Addr) (cdv : Value) (A : Around) (outer : List Env) (s : Shared) (H : Hp) (E : XK) : Cx :=
  cxOf (L2.CX P w) P w K mg base N qual (defScope st) f cdv A outer s H E
/-- THE RULE for a def -/
theorem fn_ok {x qual : Str} {st : Stmt} {f : Addr} {fd : FuncData} {N ps : List Str} {k : Nat} {sp : SpD} {t : DTS} {dvs : List V} {kws : List (Str × V)} (F : FunD K x qual (defArgs st) (defBody st) (defScope st) dvs kws f fd) (S : FnScope N ps (defScope st))
    (hbody : ∀ (W : Wd K) (cdv : Value) (A : Around) (outer : List Env) (s : Shared) (H B : Hp) (E : XK) (Ed : EX) (hE : ∀ C H' B', Ed C → Grow W H B H' B' → E (.ref C) none H'), Room k (A.deeper (envOfC qual (defScope st) s.heap.objs.size f cdv)) →
      PSs (cxB P w K mg base N qual st f cdv A outer s H E) (defBody st) (upS (⟨W, H, B, E, Ed, hE⟩ : Gx K) t))
    (hsp : ∀ ds Q E, sp ds Q E → ds.length = ps.length ∧ t { nx := fun _ => Q .non, rt := Q } (startD N.length ds) E) (W : Wd K) : FnOk P w K mg base (L2.CX P w) (k + 1) f fd ps (upSp W sp) := by
  refine fund_ok F (CX := L2.CX P w) S (fun vs H Q E ⟨B, ds, Qd, Ed, g, r, h, _⟩ => r.length.trans (hsp _ _ _ h).1) fun cdv A outer s H vs Q E hr ⟨B, ds, Qd, Ed, g, r, h, k1, k2⟩ => ?_
  refine ⟨_, hbody W cdv A outer s H B E Ed k2 hr, startD N.length ds, B, _, ⟨g, _, Sls.start r⟩, (hsp _ _ _ h).2, fun Δ' σ' H' B' q r' sb => k1 .non .non H' B' q r'.gr .non, fun _ _ _ _ q => q.elim, fun _ _ _ _ q => q.elim, fun d v H' B' q g' sb rp => k1 d v H' B' q g' rp⟩
end

/-! ### objects -/
section
variable {X : Cx} {G : Gx X.K} {pos : Pos}
/-- a field read; T: of which classes -/
def dFld (T : Addr → Prop) (f : Str) (ta : DTO) : DTE := fun Δ Q E => ta Δ (fun x Δ1 => ∃ C fs d, res Δ1 x = some (.obj C fs) ∧ T C ∧ fs.lookup f = some d ∧ Q d Δ1) E
theorem lookup_pair {K : PySem.W.Frag} {W : Wd K} {B : Hp} : ∀ {fs : List (Str × V)} {ds : List (Str × D)}, fs.map (·.1) = ds.map (·.1) → Rps W B (fs.map (·.2)) (ds.map (·.2)) → ∀ (f : Str), (∀ d, ds.lookup f = some d → ∃ v, fs.lookup f = some v ∧ Rp W B v d) ∧ (ds.lookup f = none → fs.lookup f = none)
  | [], [], _, _, f => ⟨fun d e => (by cases e), fun _ => rfl⟩
  | [], _ :: _, h, _, _ => by simp at h
  | _ :: _, [], h, _, _ => by simp at h
  | (k1, v) :: kvs, (k2, d) :: ds, h, r, f => by
    have hk : k1 = k2 ∧ kvs.map (·.1) = ds.map (·.1) := by simpa using h
    obtain ⟨rfl, hk⟩ := hk
    cases r with
    | cons _ _ _ _ a b =>
      have ih := lookup_pair hk b f
      simp only [List.lookup_cons]
      cases e : f == k1 with
      | true => exact ⟨fun d' q => (by cases q; exact ⟨v, rfl, a⟩), fun q => (by cases q)⟩
      | false => exact ih
theorem de_fld {e : Expr} {f : Str} {T : Addr → Prop} {ta : DTO} (hT : ∀ C, T C → Cls X.K C ∧ NoAttr X.K C f) (he : PE X e (upO G ta)) (hb : attributeBase e f X.env (eval e X.env) = eval e X.env := by rfl) : PE X (.Attribute e f pos) (upE G (dFld T f ta)) :=
  PE.imp (pe_fld he hb) fun σ H Q ⟨Δ, B, Qd, r, q, k⟩ => ⟨Δ, B, _, r, q, fun o Δ1 v H1 B1 ⟨C, ds, d, e1, t, l, q1⟩ r1 s1 p1 => by
    obtain ⟨a, dx, fs, ev, h1, h2, h3⟩ := (p1.res r1 e1).obj r1.sub
    subst ev
    obtain ⟨z, hz, rz⟩ := (lookup_pair h2 h3 f).1 d l
    exact ⟨a, C, dx, fs, z, rfl, h1, (hT C t).1, (hT C t).2, hz, k _ _ _ _ _ q1 r1 s1 rz⟩⟩
def putD (f : Str) (v : D) : List (Str × D) → List (Str × D)
  | [] => [(f, v)]
  | (g, w) :: r => if g = f then (f, v) :: r else (g, w) :: putD f v r
theorem putF_pair {K : PySem.W.Frag} {W : Wd K} {B : Hp} {f : Str} {v : V} {d : D} (rv : Rp W B v d) : ∀ {fs : List (Str × V)} {ds : List (Str × D)}, fs.map (·.1) = ds.map (·.1) → Rps W B (fs.map (·.2)) (ds.map (·.2)) → (putF f v fs).map (·.1) = (putD f d ds).map (·.1) ∧ Rps W B ((putF f v fs).map (·.2)) ((putD f d ds).map (·.2))
  | [], [], _, _ => ⟨rfl, Rps.one rv⟩
  | [], _ :: _, h, _ => by simp at h
  | _ :: _, [], h, _ => by simp at h
  | (k1, w) :: kvs, (k2, e) :: ds, h, r => by
    have hk : k1 = k2 ∧ kvs.map (·.1) = ds.map (·.1) := by simpa using h
    obtain ⟨rfl, hk⟩ := hk
    cases r with
    | cons _ _ _ _ a b =>
      obtain ⟨i1, i2⟩ := putF_pair rv hk b
      unfold putF putD
      split
      · rename_i z
        exact ⟨by simp [hk, z], .cons _ _ _ _ rv b⟩
      · exact ⟨by simp [i1], .cons _ _ _ _ a i2⟩
/-- self.f = e, self our own (in __init__) -/
def dFldSet (i : Nat) (T : Addr → Prop) (f : Str) (t : DTE) : DTS := fun N Δ E => t Δ (fun d Δ1 => ∃ C p fs, Δ1[i]? = some (.oi C p fs) ∧ T C ∧ fs.length < 1000 ∧ N.nx (Δ1.set i (.oi C p (putD f d fs)))) E
theorem DR.oid {K : PySem.W.Frag} {G : Gx K} {Δ : List Sl} {σ : L2.St} {H B : Hp} {i : Nat} {C p : Addr} {ds : List (Str × D)} (r : DR G Δ σ H B) (e : Δ[i]? = some (.oi C p ds)) : ∃ dx fs, σ[i]? = some (some (.ref p)) ∧ H p = some (.ins C dx fs) ∧ fs.map (·.1) = ds.map (·.1) ∧ Rps G.W B (fs.map (·.2)) (ds.map (·.2)) := by
  obtain ⟨fp, S⟩ := r.sl
  obtain ⟨v, h1, h2⟩ := S.at_ i _ e
  generalize fp i = f at h2
  cases h2 with | oi _ _ _ dx fs e k q => exact ⟨dx, fs, h1, e, k, q⟩
theorem ds_fld (i : Nat) {x f : Str} {T : Addr → Prop} {e : Expr} {p p' : Pos} {t : DTE} (hT : ∀ C, T C → Cls X.K C ∧ NoAttr X.K C f) (he : PE X e (upE G t)) (hN : X.N[i]? = some x := by rfl) (hv : Vis X.env.scope x := by first | exact Or.inl rfl | exact Or.inr (Or.inl rfl) | exact Or.inr (Or.inr rfl))
    (hd : (x == ("__debug__" : Str)) = false := by decide) (hcd : (x == ("__classdict__" : Str)) = false := by decide) (hs : swapsWith e (some (.Attribute (.Name x p) f p')) pos.line X.env = pure false := by rfl) :
    PS X (.Assign [.Attribute (.Name x p) f p'] e pos) (upS G (dFldSet i T f t)) :=
  PS.imp (ps_fld (pe_var hN hv hd hcd) he hs) fun N σ H ⟨Δ, B, M, r, q, k, _⟩ => ⟨Δ, B, _, r, q, fun d Δ1 v H1 B1 ⟨C, p0, ds, e1, t, hz, q1⟩ r1 s1 rv => by
    obtain ⟨dx, fs, h1, h2, h3, h4⟩ := r1.oid e1
    have hl : fs.length = ds.length := by have := congrArg List.length h3; simpa using this
    obtain ⟨a1, a2⟩ := putF_pair rv h3 h4 (f := f)
    exact ⟨.ref p0, h1, p0, C, dx, fs, rfl, h2, (hT C t).1, (hT C t).2, by rw [hl]; exact hz, k _ _ _ _ q1 (r1.write e1 h1 (fun B H f h => by cases h; rfl) h2 True.intro (.oi _ _ _ _ _ upd_same a1 a2)) s1⟩⟩
end
end DL
-- DLcall
set_option Elab.async false
set_option linter.all false
set_option maxRecDepth 100000
set_option maxHeartbeats 2000000
set_option autoImplicit false
namespace DL
open PySem PySem.Spec L2
open PyProof.Rows hiding St

/-! ### values of ours in a row: a, b = x, y -/
section
variable {K : PySem.W.Frag}
theorem Grow.less {W : Wd K} {H0 H0' B0 H B : Hp} (g : Grow W H0' B0 H B) (s : Sub H0 H0') : Grow W H0 B0 H B where
  ext := fun a o h q => g.ext a o (s a o h) q
  dom := fun a h => g.dom a (by
    cases e : H0 a with
    | none => exact absurd e h
    | some o => rw [s a o e]; simp)
  bas := g.bas
  new := fun a h => by
    rcases g.new a h with z | z | ⟨o, z, n⟩
    · exact .inl z
    · right; left
      cases e : H0 a with
      | none => rfl
      | some o => rw [s a o e] at z; cases z
    · right
      cases e : H0 a with
      | none => exact .inl rfl
      | some u => rw [s a u e] at z; cases z; exact .inr ⟨_, rfl, n⟩
  sub := g.sub
  wok := g.wok
def Gx.more (G : Gx K) (H0' : Hp) (s : Sub G.H0 H0') : Gx K := ⟨G.W, H0', G.B0, G.E, G.Ed, fun C H' B' h g => G.hE C H' B' h (g.less s)⟩
theorem DR.holdS {G : Gx K} {Δ : List Sl} {σ : L2.St} {H B : Hp} {s : Sl} {v : V} (r : DR G (Δ ++ [s]) (σ ++ [some v]) H B) :
    ∃ H0' hs, DR (G.more H0' hs) Δ σ H B ∧ ∀ Δ2 σ2 H2 B2, Sub B B2 → DR (G.more H0' hs) Δ2 σ2 H2 B2 → DR G (Δ2 ++ [s]) (σ2 ++ [some v]) H2 B2 := by
  obtain ⟨fp, S⟩ := r.sl
  have hl : Δ.length = σ.length := by have := S.len; simpa using this
  obtain ⟨v', h1, h2⟩ := S.at_ Δ.length s (by rw [List.getElem?_append_right (Nat.le_refl _)]; simp)
  rw [hl, List.getElem?_append_right (Nat.le_refl _)] at h1
  simp at h1; subst h1
  generalize hf : fp Δ.length = f at h2
  -- an object p of ours of the content o
  have main : ∀ (p : Addr) (o : HO), f = [p] → v = .ref p → H p = some o → plainO o → (∀ B2 H2, Sub B B2 → H2 p = some o → SlR G.W B2 H2 s (some (.ref p)) [p]) →
      ∃ H0' hs, DR (G.more H0' hs) Δ σ H B ∧ ∀ Δ2 σ2 H2 B2, Sub B B2 → DR (G.more H0' hs) Δ2 σ2 H2 B2 → DR G (Δ2 ++ [s]) (σ2 ++ [some v]) H2 B2 := by
    intro p o ef ev e po again
    subst ev
    have hp : p ∈ fp Δ.length := by rw [hf, ef]; simp
    obtain ⟨c1, c2, c3, c4⟩ := S.ou _ _ hp
    refine ⟨upd G.H0 p o, Sub.new c2, ?_, ?_⟩
    · refine ⟨⟨fun a u h q => ?_, fun a h => ?_, r.gr.bas, fun a h => ?_, r.gr.sub, r.gr.wok⟩, fun j => if j < Δ.length then fp j else [], hl, fun j x ej => ?_, fun j k a h1 h2 => ?_, fun j a h => ?_⟩
      · by_cases z : a = p
        · subst z
          have h : upd G.H0 a o a = some u := h
          rw [upd_same] at h; cases h; exact e
        · have h : upd G.H0 p o a = some u := h
          rw [upd_ne z] at h; exact r.gr.ext a u h q
      · by_cases z : a = p
        · subst z; rw [e]; simp
        · have h : upd G.H0 p o a ≠ none := h
          rw [upd_ne z] at h; exact r.gr.dom a h
      · by_cases z : a = p
        · subst z; exact absurd c1 h
        · refine (r.gr.new a h).imp id (Or.imp (fun h => ?_) fun ⟨u, h, n⟩ => ⟨u, ?_, n⟩)
          · show upd G.H0 p o a = none
            rw [upd_ne z]; exact h
          · show upd G.H0 p o a = some u
            rw [upd_ne z]; exact h
      · have hj : j < Δ.length := (List.getElem?_eq_some_iff.mp ej).1
        obtain ⟨w, q1, q2⟩ := S.at_ j x (by rw [List.getElem?_append_left hj]; exact ej)
        rw [List.getElem?_append_left (by omega)] at q1
        exact ⟨w, q1, by simp only [if_pos hj]; exact q2⟩
      · try dsimp only at h1 h2
        split at h1
        · split at h2
          · exact S.dj _ _ a h1 h2
          · cases h2
        · cases h1
      · try dsimp only at h
        split at h
        · rename_i hj
          obtain ⟨d1, d2, d3, d4⟩ := S.ou j a h
          refine ⟨d1, ?_, d3, d4⟩
          show upd G.H0 p o a = none
          rw [upd_ne (fun z => by have := S.dj j _ a h (z ▸ hp); omega)]; exact d2
        · cases h
    · intro Δ2 σ2 H2 B2 sb r2
      obtain ⟨fp2, S2⟩ := r2.sl
      have e2 : H2 p = some o := r2.gr.ext p _ (show upd G.H0 p o p = _ from upd_same) ⟨fun ps z => (by subst z; exact po), c3⟩
      have b0 : G.B0 p = none := by
        cases x : G.B0 p with
        | none => rfl
        | some u => rw [r.gr.bas _ _ x] at c1; cases c1
      have bp : B2 p = none := by
        cases x : B2 p with
        | none => rfl
        | some u =>
          rcases r2.gr.new p (by rw [x]; simp) with h | h | ⟨u, h, n⟩
          · exact absurd b0 h
          · have h : upd G.H0 p o p = none := h
            rw [upd_same] at h; cases h
          · have h : upd G.H0 p o p = some u := h
            rw [upd_same] at h; cases h; exact absurd po n
      have dn : ∀ a, upd G.H0 p o a = none → a ≠ p ∧ G.H0 a = none := fun a z => by
        have z1 : a ≠ p := fun w => by subst w; rw [upd_same] at z; cases z
        rw [upd_ne z1] at z
        exact ⟨z1, z⟩
      have hl2 := S2.len
      refine ⟨Grow.less r2.gr (Sub.new c2), fun j => if j < Δ2.length then fp2 j else if j = Δ2.length then [p] else [], by simp [hl2], fun j x ej => ?_, fun j k a h1 h2 => ?_, fun j a h => ?_⟩
      · by_cases hj : j < Δ2.length
        · rw [List.getElem?_append_left hj] at ej
          obtain ⟨w, q1, q2⟩ := S2.at_ j x ej
          refine ⟨w, by rw [List.getElem?_append_left (by rw [← hl2]; exact hj)]; exact q1, ?_⟩
          simp only [if_pos hj]; exact q2
        · rw [List.getElem?_append_right (by omega)] at ej
          have z : j - Δ2.length = 0 := by
            cases h : j - Δ2.length with
            | zero => rfl
            | succ n => rw [h] at ej; simp at ej
          rw [z] at ej; simp at ej; subst ej
          refine ⟨_, by rw [List.getElem?_append_right (by rw [← hl2]; omega), ← hl2, z]; rfl, ?_⟩
          simp only [if_neg hj, if_pos (show j = Δ2.length by omega)]
          exact again _ _ sb e2
      · have np : ∀ j a, a ∈ fp2 j → a ≠ p := fun j a ha => (dn a (S2.ou j a ha).2.1).1
        try dsimp only at h1 h2
        split at h1
        · split at h2
          · exact S2.dj _ _ a h1 h2
          · split at h2
            · simp at h2; exact absurd h2 (np _ a h1)
            · cases h2
        · split at h1
          · simp at h1
            split at h2
            · exact absurd h1 (np _ a h2)
            · split at h2
              · omega
              · cases h2
          · cases h1
      · try dsimp only at h
        split at h
        · obtain ⟨d1, d2, d3, d4⟩ := S2.ou j a h
          exact ⟨d1, (dn a d2).2, d3, d4⟩
        · split at h
          · simp at h; subst h
            exact ⟨bp, c2, c3, _, e2, po⟩
          · cases h
  cases h2 with
  | un =>
    refine ⟨G.H0, Sub.refl _, r.drop, fun Δ2 σ2 H2 B2 sb r2 => ?_⟩
    have h3 := DR.hang (G := G) r2 (v := .non) (d := .non) .non
    have h4 := h3.wipe1 Δ2.length
    have hl2 : Δ2.length = σ2.length := by obtain ⟨fp2, S2⟩ := r2.sl; exact S2.len
    have e1 : (Δ2 ++ [Sl.im D.non]).set Δ2.length .un = Δ2 ++ [.un] := by simp
    have e2 : (σ2 ++ [some V.non]).set Δ2.length none = σ2 ++ [none] := by rw [hl2]; simp
    rw [e1, e2] at h4
    obtain ⟨fp4, S4⟩ := h4.sl
    refine ⟨h4.gr, fun j => if j < Δ2.length then fp4 j else [], by simp [hl2], fun j x ej => ?_, fun j k a h1 h2 => ?_, fun j a h => ?_⟩
    · by_cases hj : j < Δ2.length
      · rw [List.getElem?_append_left hj] at ej
        obtain ⟨w, q1, q2⟩ := S4.at_ j x (by rw [List.getElem?_append_left hj]; exact ej)
        rw [List.getElem?_append_left (by rw [← hl2]; exact hj)] at q1
        exact ⟨w, by rw [List.getElem?_append_left (by rw [← hl2]; exact hj)]; exact q1, by simp only [if_pos hj]; exact q2⟩
      · rw [List.getElem?_append_right (by omega)] at ej
        have z : j - Δ2.length = 0 := by
          cases h : j - Δ2.length with
          | zero => rfl
          | succ n => rw [h] at ej; simp at ej
        rw [z] at ej; simp at ej; subst ej
        exact ⟨_, by rw [List.getElem?_append_right (by rw [← hl2]; omega), ← hl2, z]; rfl, by simp only [if_neg hj]; exact .un _⟩
    · try dsimp only at h1 h2
      split at h1
      · split at h2
        · exact S4.dj _ _ a h1 h2
        · cases h2
      · cases h1
    · try dsimp only at h
      split at h
      · exact S4.ou _ a h
      · cases h
  | im d _ q => exact ⟨G.H0, Sub.refl _, r.drop, fun Δ2 σ2 H2 B2 sb r2 => DR.hang (G := G) r2 (q.mono sb)⟩
  | ol ds p vs e q => exact main p _ rfl rfl e True.intro fun B2 H2 sb e2 => .ol _ _ _ e2 (q.mono sb)
  | ok ds p vs e k q => exact main p _ rfl rfl e True.intro fun B2 H2 sb e2 => .ok _ _ _ e2 k (q.mono sb)
  | ot ds p vs e k q => exact main p _ rfl rfl e True.intro fun B2 H2 sb e2 => .ot _ _ _ e2 k (q.mono sb)
  | oi C ds p dx fs e k q => exact main p _ rfl rfl e True.intro fun B2 H2 sb e2 => .oi _ _ _ _ _ e2 k (q.mono sb)
abbrev DTMA := List Sl → (List Sl → List Sl → Prop) → EX → Prop
def upMA (G : Gx K) (t : DTMA) : TA := fun σ H Q => ∃ Δ B Qd, DR G Δ σ H B ∧ t Δ Qd G.Ed ∧ ∀ ss Δ' vs H' B', Qd ss Δ' → DR G (Δ' ++ ss.reverse) (σ ++ (vs.map some).reverse) H' B' → ss.length = vs.length → Sub B B' → Q vs H'
end
def dNilM : DTMA := fun Δ Q _ => Q [] Δ
def dConsM (t : DTM) (tr : DTMA) : DTMA := fun Δ Q E => t Δ (fun s Δ1 => tr Δ1 (fun ss Δ2 => Q (s :: ss) Δ2) E) E
section
variable {X : Cx} {G : Gx X.K} {pos : Pos}
theorem dma_nil : PA X [] (upMA G dNilM) := PA.imp pa_nil fun σ H Q ⟨Δ, B, Qd, r, q, k⟩ => k [] Δ [] H B q (by simpa using r) rfl (Sub.refl _)
theorem dma_cons {e : Expr} {es : List Expr} {t : DTM} {tr : DTMA} (ha : PE X e (upM G t)) (hr : ∀ (H0' : Hp) (hs : Sub G.H0 H0'), PA X es (upMA (G.more H0' hs) tr)) (hs : starEach (e :: es) X.env = (false, eval e X.env) :: starEach es X.env := by rfl) : PA X (e :: es) (upMA G (dConsM t tr)) :=
  PA.imp (pa_cons (t := fun σ H Q => ∃ H0' hs, upMA (G.more H0' hs) tr σ H Q) ha ⟨fun pos p s σ H Q I ⟨H0', hs, q⟩ => (hr H0' hs).run pos p s σ H Q I q⟩ hs) fun σ H Q ⟨Δ, B, Qd, r, q, k⟩ => ⟨Δ, B, _, r, q, fun s Δ1 v H1 B1 q1 r1 s1 => by
    obtain ⟨H0', hh, r2, back⟩ := r1.holdS
    refine ⟨H0', hh, Δ1, B1, _, r2, q1, fun ss Δ2 vs H2 B2 q2 r3 hl s2 => k (s :: ss) Δ2 (v :: vs) H2 B2 q2 ?_ (by simp [hl]) (s1.trans s2)⟩
    have r4 := back _ _ _ _ s2 r3
    simpa [List.append_assoc] using r4⟩
theorem set_app {α : Type} {xs ys : List α} {i : Nat} {x : α} (h : i < xs.length) : (xs ++ ys).set i x = xs.set i x ++ ys := by
  rw [List.set_append_left _ _ h]
def dPar2 (i j : Nat) (t : DTMA) : DTS := fun N Δ E => t Δ (fun ss Δ1 => ∃ s1 s2, ss = [s1, s2] ∧ i < Δ1.length ∧ j < Δ1.length ∧ N.nx ((Δ1.set i s1).set j s2)) E
def dPar3 (i j l : Nat) (t : DTMA) : DTS := fun N Δ E => t Δ (fun ss Δ1 => ∃ s1 s2 s3, ss = [s1, s2, s3] ∧ i < Δ1.length ∧ j < Δ1.length ∧ l < Δ1.length ∧ N.nx (((Δ1.set i s1).set j s2).set l s3)) E
theorem ds_par2 {i j : Nat} {x y : Str} {a b : Expr} {t : DTMA} {px py pt : Pos} {kt k2 pt2} (hc : X.calm = true) (hN : X.N.Nodup) (ha : PA X [a, b] (upMA G t)) (hi : X.N[i]? = some x := by rfl) (hj : X.N[j]? = some y := by rfl) (hij : i ≠ j := by decide)
    (hx : X.env.scope.names.lookup x = some .local := by rfl) (hy : X.env.scope.names.lookup y = some .local := by rfl)
    (hw : swappedStores [.Tuple [.Name x px, .Name y py] kt pt] (.Tuple [a, b] k2 pt2) X.env = pure (some [x, y]) := by rfl)
    (hs : swapsWithSole [.Tuple [.Name x px, .Name y py] kt pt] (.Tuple [a, b] k2 pt2) pos.line X.env = pure false := by rfl) :
    PS X (.Assign [.Tuple [.Name x px, .Name y py] kt pt] (.Tuple [a, b] k2 pt2) pos) (upS G (dPar2 i j t)) :=
  PS.imp (ps_par hc hN hi hj hij hx hy ha hw hs) fun N σ H ⟨Δ, B, M, r, q, k, _⟩ => ⟨Δ, B, _, r, q, fun ss Δ1 vs H1 B1 ⟨s1, s2, e, hi1, hj1, q1⟩ r1 hl s => by
    subst e
    match vs, hl with
    | [v1, v2], _ =>
      have hl1 : Δ1.length = σ.length := by obtain ⟨fp, S⟩ := r1.sl; have := S.len; simpa using this
      have r2 : DR G ((Δ1 ++ [s2]) ++ [s1]) ((σ ++ [some v2]) ++ [some v1]) H1 B1 := by simpa using r1
      have r3 := r2.move (i := i) (by simp; omega)
      rw [set_app hi1, set_app (by omega)] at r3
      exact ⟨v1, v2, rfl, k _ _ _ _ q1 (r3.move (i := j) (by simpa using hj1)) s⟩⟩
theorem ds_par3 {i j l : Nat} {x y z : Str} {a b c : Expr} {t : DTMA} {px py pz pt : Pos} {kt k2 pt2} (hc : X.calm = true) (hN : X.N.Nodup) (ha : PA X [a, b, c] (upMA G t)) (hi : X.N[i]? = some x := by rfl) (hj : X.N[j]? = some y := by rfl) (hl : X.N[l]? = some z := by rfl) (hij : i ≠ j := by decide) (hil : i ≠ l := by decide) (hjl : j ≠ l := by decide)
    (hx : X.env.scope.names.lookup x = some .local := by rfl) (hy : X.env.scope.names.lookup y = some .local := by rfl) (hz : X.env.scope.names.lookup z = some .local := by rfl)
    (hw : swappedStores [.Tuple [.Name x px, .Name y py, .Name z pz] kt pt] (.Tuple [a, b, c] k2 pt2) X.env = pure (some [x, y, z]) := by rfl)
    (hs : swapsWithSole [.Tuple [.Name x px, .Name y py, .Name z pz] kt pt] (.Tuple [a, b, c] k2 pt2) pos.line X.env = pure false := by rfl) :
    PS X (.Assign [.Tuple [.Name x px, .Name y py, .Name z pz] kt pt] (.Tuple [a, b, c] k2 pt2) pos) (upS G (dPar3 i j l t)) :=
  PS.imp (ps_par3 hc hN hi hj hl hij hil hjl hx hy hz ha hw hs) fun N σ H ⟨Δ, B, M, r, q, k, _⟩ => ⟨Δ, B, _, r, q, fun ss Δ1 vs H1 B1 ⟨s1, s2, s3, e, hi1, hj1, hl1, q1⟩ r1 hl s => by
    subst e
    match vs, hl with
    | [v1, v2, v3], _ =>
      have hl2 : Δ1.length = σ.length := by obtain ⟨fp, S⟩ := r1.sl; have := S.len; simpa using this
      have r2 : DR G ((Δ1 ++ [s3] ++ [s2]) ++ [s1]) ((σ ++ [some v3] ++ [some v2]) ++ [some v1]) H1 B1 := by simpa using r1
      have r3 := r2.move (i := i) (by simp; omega)
      rw [set_app (by simp; omega), set_app hi1, set_app (by simp; omega), set_app (by omega)] at r3
      have r4 := r3.move (i := j) (by simp; omega)
      rw [set_app (by simpa using hj1), set_app (by simp; omega)] at r4
      exact ⟨v1, v2, v3, rfl, k _ _ _ _ q1 (r4.move (i := l) (by simpa using hl1)) s⟩⟩
end
end DL
-- DLblt
set_option Elab.async false
set_option linter.all false
set_option maxRecDepth 100000
set_option maxHeartbeats 2000000
set_option autoImplicit false
namespace DL
open PySem PySem.Spec L2
open PyProof.Rows hiding St

/-! ### built-ins by name, over trees -/
def dBlt (rd : List D → (Sl → Prop) → Prop) (t : DTAO) : DTM := fun Δ Q E => t Δ (fun os Δ1 => ∃ ds, os.map (res Δ1) = ds.map some ∧ rd ds fun s => Q s Δ1) E
inductive RpHs {K : PySem.W.Frag} (W : Wd K) (B H : Hp) : List V → List D → Prop
  | nil : RpHs W B H [] []
  | cons (v : V) (d : D) (vs : List V) (ds : List D) : RpH W B H v d → RpHs W B H vs ds → RpHs W B H (v :: vs) (d :: ds)
def RcM {K : PySem.W.Frag} (W : Wd K) (r : List V → Hp → VK → Prop) (rd : List D → (Sl → Prop) → Prop) : Prop := ∀ (H0 B0 H B : Hp) (vs : List V) (ds : List D) (Qd : Sl → Prop) (Q : VK), Grow W H0 B0 H B → RpHs W B H vs ds → rd ds Qd →
  (∀ s v H' B', Qd s → NewV W H B H' B' s v → Q v H') → r vs H Q
section
variable {X : Cx} {G : Gx X.K} {pos : Pos}
theorem rps_of {Δ : List Sl} {σ : L2.St} {H B : Hp} (r : DR G Δ σ H B) : ∀ {os : List Od} {vs : List V} {ds : List D}, Paired (OdV G.W B σ) os vs → os.map (res Δ) = ds.map some → RpHs G.W B H vs ds
  | [], _, [], .nil, _ => .nil
  | [], _, _ :: _, .nil, e => by simp at e
  | _ :: _, _, [], .cons _ _, e => by simp at e
  | o :: os, _, d :: ds, .cons a b, e => by
    have e2 : res Δ o = some d ∧ os.map (res Δ) = ds.map some := by simpa using e
    exact .cons _ _ _ _ (OdV.res r a e2.1) (rps_of r b e2.2)
theorem dm_callB {x : Str} {p : Pos} {e : Expr} {es : List Expr} {id : String} {r : List V → Hp → VK → Prop} {rd : List D → (Sl → Prop) → Prop} {ta : DTAO} (hc : CallR X (.builtin id) r) (hr : RcM G.W r rd) (hg : Gl X x) (hm : X.mg x = none) (hv : bootBuiltins x = some (.builtin id)) (ha : PA X (e :: es) (upAO G ta))
    (hn : x ≠ "__name__" := by decide) (hdb : (x == ("__debug__" : Str)) = false := by decide)
    (he : starEach (e :: es) X.env = (false, eval e X.env) :: starEach es X.env := by rfl) (hpl : (backTo pos (starEach es X.env)).any (·.1) = false := by rfl) : PE X (.Call (.Name x p) (e :: es) [] pos) (upM G (dBlt rd ta)) :=
  PE.imp (pe_callB hc hg hm hv ha hn hdb he hpl) fun σ H Q ⟨Δ, B, Qd, r1, q, k⟩ => ⟨Δ, B, _, r1, q, fun os Δ1 vs H1 B1 ⟨ds, e, q1⟩ r1 s1 rps =>
    hr _ _ _ _ _ _ _ _ r1.gr (rps_of r1 rps e) q1 fun s v H' B' qd n => k _ _ _ _ _ qd (r1.hangS n) (s1.trans n.gr.bas)⟩
theorem dm_callTy {x : Str} {p : Pos} {e : Expr} {es : List Expr} {T : String} {r : List V → Hp → VK → Prop} {rd : List D → (Sl → Prop) → Prop} {ta : DTAO} (hc : CallR X (.type T) r) (hr : RcM G.W r rd) (hg : Gl X x) (hm : X.mg x = none) (hv : bootBuiltins x = some (.type T)) (ha : PA X (e :: es) (upAO G ta))
    (hn : x ≠ "__name__" := by decide) (hdb : (x == ("__debug__" : Str)) = false := by decide)
    (he : starEach (e :: es) X.env = (false, eval e X.env) :: starEach es X.env := by rfl) (hpl : (backTo pos (starEach es X.env)).any (·.1) = false := by rfl) : PE X (.Call (.Name x p) (e :: es) [] pos) (upM G (dBlt rd ta)) :=
  PE.imp (pe_callTy hc hg hm hv ha hn hdb he hpl) fun σ H Q ⟨Δ, B, Qd, r1, q, k⟩ => ⟨Δ, B, _, r1, q, fun os Δ1 vs H1 B1 ⟨ds, e, q1⟩ r1 s1 rps =>
    hr _ _ _ _ _ _ _ _ r1.gr (rps_of r1 rps e) q1 fun s v H' B' qd n => k _ _ _ _ _ qd (r1.hangS n) (s1.trans n.gr.bas)⟩
abbrev orC (r r' : List V → Hp → VK → Prop) : List V → Hp → VK → Prop := fun vs H Q => r vs H Q ∨ r' vs H Q
theorem CallR.or {f : Value} {r r' : List V → Hp → VK → Prop} (h : CallR X f r) (g : CallR X f r') : CallR X f (orC r r') := fun p s σ H vs us Q I rv q => q.elim (h p s σ H vs us Q I rv) (g p s σ H vs us Q I rv)
end
section
variable {K : PySem.W.Frag} {W : Wd K} {B H : Hp} {v : V} {vs : List V}
theorem RpHs.one {d : D} (h : RpHs W B H vs [d]) : ∃ v, vs = [v] ∧ RpH W B H v d := by
  cases h with | cons v _ _ _ a b => cases b; exact ⟨v, rfl, a⟩
theorem RpHs.two {d e : D} (h : RpHs W B H vs [d, e]) : ∃ v w, vs = [v, w] ∧ RpH W B H v d ∧ RpH W B H w e := by
  cases h with | cons v _ _ _ a b => obtain ⟨w, rfl, c⟩ := b.one; exact ⟨v, w, rfl, a, c⟩
end
/-! ### len -/
def rdLen : List D → (Sl → Prop) → Prop
  | [.lst xs], Q => Q (.im (.int xs.length))
  | [.tup xs], Q => Q (.im (.int xs.length))
  | [.wt xs], Q => Q (.im (.int xs.length))
  | [.scr xs], Q => Q (.im (.int xs.length))
  | [.dk kvs], Q => Q (.im (.int kvs.length))
  | [.str x], Q => x.length ≤ sizeLine ∧ Q (.im (.int x.length))
  | _, _ => False
section
variable {X : Cx}
def rLen2 (K : PySem.W.Frag) : List V → Hp → VK → Prop := orC (fun xs H Q => ∃ x n, xs = [x] ∧ LenV K x H n ∧ Q (.int n) H) (fun xs H Q => ∃ (a : Addr) (kvs : List (Key × V)), xs = [.ref a] ∧ Rd H a (.dK kvs) ∧ Q (.int kvs.length) H)
theorem call_lenR : CallR X (.builtin "len") (fun xs H Q => ∃ (a : Addr) (kvs : List (Key × V)), xs = [.ref a] ∧ Rd H a (.dK kvs) ∧ Q (.int kvs.length) H) := by
  rintro pins s σ H xs us Q I r ⟨a, kvs, rfl, e, q⟩
  cases r with
  | cons rx rr =>
    cases rr
    cases rx
    exact d_len I e fun t s' I' => ⟨.int kvs.length, H, I', ⟨t, rfl⟩, q⟩
theorem call_len2 : CallR X (.builtin "len") (rLen2 X.K) := CallR.or call_len call_lenR
variable {W : Wd X.K}
theorem rc_len : RcM W (rLen2 X.K) rdLen := by
  intro H0 B0 H B vs ds Qd Q g r h k
  unfold rdLen at h
  split at h
  · obtain ⟨v, rfl, a⟩ := r.one
    obtain ⟨p, ws, rfl, e, q⟩ := a.lst g.sb
    exact .inl ⟨_, _, rfl, .inl ⟨ws, .of e, q.length.symm⟩, k _ _ _ _ h (.clean g (.int _))⟩
  · obtain ⟨v, rfl, a⟩ := r.one
    obtain ⟨p, ws, rfl, e, q⟩ := a.tup g.sb
    exact .inl ⟨_, _, rfl, .inr ⟨ws, .of e, q.length.symm⟩, k _ _ _ _ h (.clean g (.int _))⟩
  · obtain ⟨v, rfl, a⟩ := r.one
    obtain ⟨p, ws, rfl, e, q⟩ := a.wt g.sb
    exact .inl ⟨_, _, rfl, .inr ⟨ws, e, q.length.symm⟩, k _ _ _ _ h (.clean g (.int _))⟩
  · obtain ⟨v, rfl, a⟩ := r.one
    obtain ⟨p, ws, rfl, e, q⟩ := a.scr g.sb
    exact .inl ⟨_, _, rfl, .inl ⟨ws, e, by rw [q, List.length_map]⟩, k _ _ _ _ h (.clean g (.int _))⟩
  · obtain ⟨v, rfl, a⟩ := r.one
    obtain ⟨p, ws, rfl, e, q1, q2⟩ := a.dk g.sb
    have hl := congrArg List.length q1
    rw [List.length_map, List.length_map] at hl
    refine .inr ⟨_, ws, rfl, e, ?_⟩
    rw [hl]; exact k _ _ _ _ h (.clean g (.int _))
  · obtain ⟨v, rfl, a⟩ := r.one
    obtain rfl := a.str
    exact .inl ⟨_, _, rfl, ⟨h.1, rfl⟩, k _ _ _ _ h.2 (.clean g (.int _))⟩
  · exact h.elim
/-! ### min, max, abs, int -/
def rdMin2 : List D → (Sl → Prop) → Prop
  | [.int i, .int j], Q => Q (.im (.int (if j < i then j else i)))
  | _, _ => False
def rdMax2 : List D → (Sl → Prop) → Prop
  | [.int i, .int j], Q => Q (.im (.int (if j > i then j else i)))
  | _, _ => False
theorem rc_min2 : RcM W (fun xs H Q => ∃ i j, xs = [.int i, .int j] ∧ Q (.int (if j < i then j else i)) H) rdMin2 := by
  intro H0 B0 H B vs ds Qd Q g r h k
  unfold rdMin2 at h
  split at h
  · obtain ⟨v, w, rfl, a, b⟩ := r.two
    obtain rfl := a.int; obtain rfl := b.int
    exact ⟨_, _, rfl, k _ _ _ _ h (.clean g (.int _))⟩
  · exact h.elim
theorem rc_max2 : RcM W (fun xs H Q => ∃ i j, xs = [.int i, .int j] ∧ Q (.int (if j > i then j else i)) H) rdMax2 := by
  intro H0 B0 H B vs ds Qd Q g r h k
  unfold rdMax2 at h
  split at h
  · obtain ⟨v, w, rfl, a, b⟩ := r.two
    obtain rfl := a.int; obtain rfl := b.int
    exact ⟨_, _, rfl, k _ _ _ _ h (.clean g (.int _))⟩
  · exact h.elim
def rdAbs : List D → (Sl → Prop) → Prop
  | [.int i], Q => Q (.im (.int (if i < 0 then -i else i)))
  | _, _ => False
theorem rc_abs : RcM W (fun xs H Q => ∃ i, xs = [.int i] ∧ Q (.int (if i < 0 then -i else i)) H) rdAbs := by
  intro H0 B0 H B vs ds Qd Q g r h k
  unfold rdAbs at h
  split at h
  · obtain ⟨v, rfl, a⟩ := r.one
    obtain rfl := a.int
    exact ⟨_, rfl, k _ _ _ _ h (.clean g (.int _))⟩
  · exact h.elim
def rdInt : List D → (Sl → Prop) → Prop
  | [.int i], Q => Q (.im (.int i))
  | [.bl b], Q => Q (.im (.int (if b then 1 else 0)))
  | _, _ => False
theorem rc_int : RcM W (fun xs H Q => (∃ i, xs = [.int i] ∧ Q (.int i) H) ∨ ∃ k, xs = [.bl k] ∧ Q (.int (if k then 1 else 0)) H) rdInt := by
  intro H0 B0 H B vs ds Qd Q g r h k
  unfold rdInt at h
  split at h
  · obtain ⟨v, rfl, a⟩ := r.one
    obtain rfl := a.int
    exact .inl ⟨_, rfl, k _ _ _ _ h (.clean g (.int _))⟩
  · obtain ⟨v, rfl, a⟩ := r.one
    obtain rfl := a.bl
    exact .inr ⟨_, rfl, k _ _ _ _ h (.clean g (.int _))⟩
  · exact h.elim
/-! ### tuple, list -/
def rdTuple : List D → (Sl → Prop) → Prop
  | [.lst xs], Q => Q (.im (.tup xs))
  | [.tup xs], Q => Q (.im (.tup xs))
  | _, _ => False
theorem rc_tuple : RcM W (fun xs H Q => ∃ p ys, xs = [.ref p] ∧ ((SqL X.K H p ys ∧ ∀ l, H l = none → Q (.ref l) (upd H l (.tup ys))) ∨ (SqT X.K H p ys ∧ Q (.ref p) H))) rdTuple := by
  intro H0 B0 H B vs ds Qd Q g r h k
  unfold rdTuple at h
  split at h
  · obtain ⟨v, rfl, a⟩ := r.one
    obtain ⟨p, ws, rfl, e, q⟩ := a.lst g.sb
    exact ⟨p, ws, rfl, .inl ⟨.of e, fun l hl => k _ _ _ _ h (.tup g hl q)⟩⟩
  · obtain ⟨v, rfl, a⟩ := r.one
    obtain ⟨p, ws, rfl, e, q⟩ := a.tup g.sb
    exact ⟨p, ws, rfl, .inr ⟨.of e, k _ _ _ _ h (.clean g (a.rp rfl))⟩⟩
  · exact h.elim
def rdList : List D → (Sl → Prop) → Prop
  | [.lst xs], Q => Q (.ol xs)
  | [.tup xs], Q => Q (.ol xs)
  | [.wt xs], Q => Q (.ol xs)
  | _, _ => False
theorem rc_list : RcM W (fun xs H Q => ∃ p ys, xs = [.ref p] ∧ (SqL X.K H p ys ∨ SqT X.K H p ys) ∧ ∀ l, H l = none → Q (.ref l) (upd H l (.lst ys))) rdList := by
  intro H0 B0 H B vs ds Qd Q g r h k
  unfold rdList at h
  split at h
  · obtain ⟨v, rfl, a⟩ := r.one
    obtain ⟨p, ws, rfl, e, q⟩ := a.lst g.sb
    exact ⟨p, ws, rfl, .inl (.of e), fun l hl => k _ _ _ _ h (.lst g hl q)⟩
  · obtain ⟨v, rfl, a⟩ := r.one
    obtain ⟨p, ws, rfl, e, q⟩ := a.tup g.sb
    exact ⟨p, ws, rfl, .inr (.of e), fun l hl => k _ _ _ _ h (.lst g hl q)⟩
  · obtain ⟨v, rfl, a⟩ := r.one
    obtain ⟨p, ws, rfl, e, q⟩ := a.wt g.sb
    exact ⟨p, ws, rfl, .inr e, fun l hl => k _ _ _ _ h (.lst g hl q)⟩
  · exact h.elim
/-! ### lists of ints, of truths -/
theorem Rps.ints_inv {K : PySem.W.Frag} {W : Wd K} {B : Hp} : ∀ {ns : List Int} {vs : List V}, Rps W B vs (ns.map D.int) → vs = ns.map V.int
  | [], _, h => by cases h; rfl
  | n :: ns, _, h => by cases h with | cons _ _ _ _ a b => cases a; rw [Rps.ints_inv b]; rfl
theorem Rps.bls_inv {K : PySem.W.Frag} {W : Wd K} {B : Hp} : ∀ {ns : List Bool} {vs : List V}, Rps W B vs (ns.map D.bl) → vs = ns.map V.bl
  | [], _, h => by cases h; rfl
  | n :: ns, _, h => by cases h with | cons _ _ _ _ a b => cases a; rw [Rps.bls_inv b]; rfl
theorem Rps.intsOf {K : PySem.W.Frag} {W : Wd K} {B : Hp} : ∀ ns : List Int, Rps W B (ns.map V.int) (ns.map D.int)
  | [] => .nil
  | n :: ns => .cons _ _ _ _ (.int n) (Rps.intsOf ns)
def rdSum : List D → (Sl → Prop) → Prop
  | [.lst xs], Q => ∃ ns : List Int, xs = ns.map D.int ∧ Q (.im (.int ns.sum))
  | _, _ => False
theorem rc_sum : RcM W (rSum X.K) rdSum := by
  intro H0 B0 H B vs ds Qd Q g r h k
  unfold rdSum at h
  split at h
  · obtain ⟨ns, rfl, h⟩ := h
    obtain ⟨v, rfl, a⟩ := r.one
    obtain ⟨p, ws, rfl, e, q⟩ := a.lst g.sb
    exact ⟨p, ns, rfl, .of (by rw [e, q.ints_inv]), k _ _ _ _ h (.clean g (.int _))⟩
  · exact h.elim
def rdAll : List D → (Sl → Prop) → Prop
  | [.lst xs], Q => ∃ ns : List Bool, xs = ns.map D.bl ∧ Q (.im (.bl (ns.all id)))
  | _, _ => False
theorem rc_all : RcM W (rAll X.K) rdAll := by
  intro H0 B0 H B vs ds Qd Q g r h k
  unfold rdAll at h
  split at h
  · obtain ⟨ns, rfl, h⟩ := h
    obtain ⟨v, rfl, a⟩ := r.one
    obtain ⟨p, ws, rfl, e, q⟩ := a.lst g.sb
    exact ⟨p, ns, rfl, .of (by rw [e, q.bls_inv]), k _ _ _ _ h (.clean g (.bl _))⟩
  · exact h.elim
def rdAny : List D → (Sl → Prop) → Prop
  | [.lst xs], Q => ∃ ns : List Bool, xs = ns.map D.bl ∧ Q (.im (.bl (ns.any id)))
  | _, _ => False
theorem rc_any : RcM W (rAny X.K) rdAny := by
  intro H0 B0 H B vs ds Qd Q g r h k
  unfold rdAny at h
  split at h
  · obtain ⟨ns, rfl, h⟩ := h
    obtain ⟨v, rfl, a⟩ := r.one
    obtain ⟨p, ws, rfl, e, q⟩ := a.lst g.sb
    exact ⟨p, ns, rfl, .of (by rw [e, q.bls_inv]), k _ _ _ _ h (.clean g (.bl _))⟩
  · exact h.elim
def rdSortI : List D → (Sl → Prop) → Prop
  | [.lst xs], Q => ∃ ns : List Int, xs = ns.map D.int ∧ ∀ ns' : List Int, ns'.Perm ns → ns'.Pairwise (· ≤ ·) → Q (.ol (ns'.map D.int))
  | _, _ => False
theorem rc_sortI : RcM W (rSortedI X.K) rdSortI := by
  intro H0 B0 H B vs ds Qd Q g r h k
  unfold rdSortI at h
  split at h
  · obtain ⟨ns, rfl, h⟩ := h
    obtain ⟨v, rfl, a⟩ := r.one
    obtain ⟨p, ws, rfl, e, q⟩ := a.lst g.sb
    exact ⟨p, ns, rfl, .of (by rw [e, q.ints_inv]), fun ns' l h1 h2 hl => k _ _ _ _ (h ns' h1 h2) (.lst g hl (Rps.intsOf ns'))⟩
  · exact h.elim
/-! ### isinstance: of a type, of a class -/
def tyN : D → Option String
  | .non => some "NoneType"
  | .bl _ => some "bool"
  | .int _ => some "int"
  | .str _ => some "str"
  | .lst _ => some "list"
  | .tup _ => some "tuple"
  | .dk _ => some "dict"
  | .dt _ => none
  | _ => none
theorem RpH.tyX {K : PySem.W.Frag} {W : Wd K} {B H : Hp} {v : V} {d : D} {n : String} (h : RpH W B H v d) (sb : Sub B H) (e : tyN d = some n) : TyX K H v (.type n) := by
  cases d <;> simp only [tyN, Option.some.injEq, reduceCtorEq] at e
  case non => subst e; obtain rfl := h.non; exact .base .non
  case bl => subst e; obtain rfl := h.bl; exact .base (.bl _)
  case int => subst e; obtain rfl := h.int; exact .base (.int _)
  case str => subst e; obtain rfl := h.str; exact .base (.str _)
  case lst => subst e; obtain ⟨a, vs, rfl, e, _⟩ := h.lst sb; exact .base (.lst e)
  case tup => subst e; obtain ⟨a, vs, rfl, e, _⟩ := h.tup sb; exact .base (.tup e)
  case dk =>
    subst e; obtain ⟨a, vs, rfl, e, _⟩ := h.dk sb; rcases e with e | ⟨o, e⟩; exact .base (.dK e); exact .fDict e
def rdIsi : List D → (Sl → Prop) → Prop
  | [d, .ty T], Q => ∃ n b, tyN d = some n ∧ kitB n T = some b ∧ Q (.im (.bl b))
  | _, _ => False
theorem RpH.ty {K : PySem.W.Frag} {W : Wd K} {B H : Hp} {v : V} {n : String} (h : RpH W B H v (.ty n)) : v = .ty n := by cases h.rp rfl; rfl
theorem rc_isi : RcM W (rIsi X.K) rdIsi := by
  intro H0 B0 H B vs ds Qd Q g r h k
  unfold rdIsi at h
  split at h
  · obtain ⟨n, b, e1, e2, h⟩ := h
    obtain ⟨v, w, rfl, a, c⟩ := r.two
    obtain rfl := c.ty
    exact ⟨v, _, _, _, b, rfl, .ty _, a.tyX g.sb e1, kit_ty e2, k _ _ _ _ h (.clean g (.bl _))⟩
  · exact h.elim
end
end DL
-- DLmore
set_option Elab.async false
set_option linter.all false
set_option maxRecDepth 100000
set_option maxHeartbeats 2000000
set_option autoImplicit false
namespace DL
open PySem PySem.Spec L2
open PyProof.Rows hiding St

section
variable {X : Cx} {G : Gx X.K} {pos : Pos}
/-! ### -n -/
def dNeg (t : DTO) : DTE := fun Δ Q E => t Δ (fun x Δ1 => ∃ i, res Δ1 x = some (.int i) ∧ Q (.int (-i)) Δ1) E
theorem de_neg {a : Expr} {t : DTO} (ha : PE X a (upO G t)) : PE X (.UnaryOp .USub a pos) (upE G (dNeg t)) :=
  PE.imp (pe_un un_neg ha) fun σ H Q ⟨Δ, B, Qd, r, q, k⟩ => ⟨Δ, B, _, r, q, fun o Δ1 v H1 B1 ⟨i, e, q1⟩ r1 s1 p1 => ⟨i, (p1.res r1 e).int, k _ _ _ _ _ q1 r1 s1 (.int _)⟩⟩
/-! ### a if t else b, of ours -/
def dIfM (t : DTT) (ta tb : DTM) : DTM := fun Δ Q E => t Δ (fun c Δ1 => if c = true then ta Δ1 Q E else tb Δ1 Q E) E
theorem dm_if {c a b : Expr} {tc : DTT} {ta tb : DTM} (hc : PT X c (upT G tc)) (ha : PE X a (upM G ta)) (hb : PE X b (upM G tb)) : PE X (.IfExp c a b pos) (upM G (dIfM tc ta tb)) :=
  PE.imp (pe_ifExp hc ha hb) fun σ H Q ⟨Δ, B, Qd, r1, q, k⟩ => ⟨Δ, B, _, r1, q, fun bb Δ1 H1 B1 q1 r1 s1 => by
    cases bb with
    | true => exact ⟨Δ1, B1, _, r1, q1, fun s Δ2 v2 H2 B2 q2 r2 s2 => k _ _ _ _ _ q2 r2 (s1.trans s2)⟩
    | false => exact ⟨Δ1, B1, _, r1, q1, fun s Δ2 v2 H2 B2 q2 r2 s2 => k _ _ _ _ _ q2 r2 (s1.trans s2)⟩⟩
/-! ### in -/
def rInDct : R2 := fun x y H Q => ∃ a o, y = .ref a ∧ DGet H a x o ∧ Q (.bl o.isSome) H
def rNotInDct : R2 := fun x y H Q => ∃ a o, y = .ref a ∧ DGet H a x o ∧ Q (.bl (!o.isSome)) H
theorem op_inDct (hu : X.A.units + 1 < cLine) : OpR X (compareOp .In) rInDct := by
  intro pins s σ H x y v u Q I rx ry ⟨a, o, ey, g, q⟩
  subst ey
  obtain rfl : u = Value.ref a := ry
  exact d_in hu I g rx fun s3 I3 => ⟨.bl o.isSome, H, I3, rfl, q⟩
theorem op_notInDct (hu : X.A.units + 1 < cLine) : OpR X (compareOp .NotIn) rNotInDct := by
  intro pins s σ H x y v u Q I rx ry ⟨a, o, ey, g, q⟩
  subst ey
  obtain rfl : u = Value.ref a := ry
  exact d_notIn hu I g rx fun s3 I3 => ⟨.bl (!o.isSome), H, I3, rfl, q⟩
/-- in a list: by ==; in a tuple: flat things alone -/
def rdIn : D → D → (Bool → Prop) → Prop
  | x, .dk kvs, Q => ∃ y, x.key = some y ∧ Q (val kvs y).isSome
  | x, .dt kvs, Q => ∃ y, x.keyT = some y ∧ Q (val kvs y).isSome
  | x, .lst ys, Q => OkEq x ∧ OkEq (.lst ys) ∧ Q (ys.any fun z => eqD z x)
  | _, _, _ => False
def rIn3 (K : PySem.W.Frag) : R2 := orR rInDct (rInD K)
def rNotIn3 (K : PySem.W.Frag) : R2 := orR rNotInDct (rNotInD K)
theorem op_in3 (hu : X.A.units + 65 < cLine) : OpR X (compareOp .In) (rIn3 X.K) := (op_inDct (by omega)).or (op_inD hu)
theorem op_notIn3 (hu : X.A.units + 65 < cLine) : OpR X (compareOp .NotIn) (rNotIn3 X.K) := (op_notInDct (by omega)).or (op_notInD hu)
theorem find_isSome {K : PySem.W.Frag} {W : Wd K} {B : Hp} {κ : Type} [DecidableEq κ] {kvs : List (κ × V)} {ds : List (κ × D)} (h : kvs.map (·.1) = ds.map (·.1)) (r : Rps W B (kvs.map (·.2)) (ds.map (·.2))) (y : κ) : (valV kvs y).isSome = (val ds y).isSome := by
  have t := find_pair h r y
  cases hv : val ds y with
  | none => rw [t.2 hv]; rfl
  | some d =>
    obtain ⟨v, hv2, _⟩ := t.1 d hv
    rw [hv2]; rfl
theorem toPys_map : ∀ ys : List D, toPys ys = ys.map toPy
  | [] => rfl
  | y :: ys => by unfold toPys; rw [toPys_map ys]; rfl
theorem r2_in {W : Wd X.K} : R2B W (rIn3 X.K) rdIn := by
  intro H0 B0 H B x y dx dy Qd Q g rx ry h k
  unfold rdIn at h
  split at h
  · obtain ⟨y, e, h⟩ := h
    obtain ⟨a, kvs, rfl, e1, e2, q⟩ := ry.dk g.sb
    have hy := key_inv (rx.rp (D.key_flat e)) e
    refine .inl ⟨a, valV kvs y, rfl, .inl ⟨kvs, y, e1, hy, rfl⟩, ?_⟩
    rw [find_isSome e2 q y]; exact k _ h
  · obtain ⟨y, e, h⟩ := h
    obtain ⟨a, kvs, rfl, e1, e2, q⟩ := ry.dt g.sb
    obtain ⟨b, rfl, hb⟩ := keyT_inv (rx.rp (D.keyT_flat e)) e
    refine .inl ⟨a, valV kvs y, rfl, .inr ⟨kvs, y, b, e1, rfl, g.sb _ _ hb, rfl⟩, ?_⟩
    rw [find_isSome e2 q y]; exact k _ h
  · obtain ⟨⟨p1, s1⟩, ⟨p2, s2⟩, h⟩ := h
    have hd := ry.dp g.sb p2
    simp only [toPy] at hd s2
    refine .inr ⟨_, _, rx.dp g.sb p1, hd, s1, s2, ?_⟩
    rw [toPys_map, List.any_map]
    exact k _ h
  · exact h.elim
def rdNotIn : D → D → (Bool → Prop) → Prop := fun x y Q => rdIn x y fun b => Q (!b)
theorem r2_notIn {W : Wd X.K} : R2B W (rNotIn3 X.K) rdNotIn := by
  intro H0 B0 H B x y dx dy Qd Q g rx ry h k
  unfold rdNotIn rdIn at h
  split at h
  · obtain ⟨y, e, h⟩ := h
    obtain ⟨a, kvs, rfl, e1, e2, q⟩ := ry.dk g.sb
    have hy := key_inv (rx.rp (D.key_flat e)) e
    refine .inl ⟨a, valV kvs y, rfl, .inl ⟨kvs, y, e1, hy, rfl⟩, ?_⟩
    rw [find_isSome e2 q y]; exact k _ h
  · obtain ⟨y, e, h⟩ := h
    obtain ⟨a, kvs, rfl, e1, e2, q⟩ := ry.dt g.sb
    obtain ⟨b, rfl, hb⟩ := keyT_inv (rx.rp (D.keyT_flat e)) e
    refine .inl ⟨a, valV kvs y, rfl, .inr ⟨kvs, y, b, e1, rfl, g.sb _ _ hb, rfl⟩, ?_⟩
    rw [find_isSome e2 q y]; exact k _ h
  · obtain ⟨⟨p1, s1⟩, ⟨p2, s2⟩, h⟩ := h
    have hd := ry.dp g.sb p2
    simp only [toPy] at hd s2
    refine .inr ⟨_, _, rx.dp g.sb p1, hd, s1, s2, ?_⟩
    rw [toPys_map, List.any_map]
    exact k _ h
  · exact h.elim
/-! ### f(k = v, ..) -/
def dFnK (sp : SpD) (gD : List D → List D → List D) (t tk : DTA) : DTE := fun Δ Q E => t Δ (fun ds Δ1 => tk Δ1 (fun es Δ2 => sp (gD ds es) (fun d => Q d Δ2) E) E) E
def dFn (sp : SpD) (t : DTA) : DTE := fun Δ Q E => t Δ (fun ds Δ1 => sp ds (fun d => Q d Δ1) E) E
theorem de_fn {CX : CXT} {k : Nat} {f : Addr} {fd : FuncData} {ps : List Str} {sp : SpD} {x : Str} {p : Pos} {e : Expr} {es : List Expr} {ta : DTA} (F : FnOk X.prog X.w X.K X.mg X.base CX k f fd ps (upSp G.W sp)) (hr : Room k X.A) (hm : X.mg x = some (.ref f))
    (hk : PySem.W.keepIn X.K (.ref f) = true) (hb : Binds X.K fd ps []) (hx : Passes CX X G.E) (ha : PA X (e :: es) (upA G ta)) (hg : Gl X x := by rfl) (hdb : (x == ("__debug__" : Str)) = false := by decide)
    (he : starEach (e :: es) X.env = (false, eval e X.env) :: starEach es X.env := by rfl) (hpl : (backTo pos (starEach es X.env)).any (·.1) = false := by rfl) : PE X (.Call (.Name x p) (e :: es) [] pos) (upE G (DL.dFn sp ta)) :=
  PE.imp (pe_call F hr hg hm hk hb .nil hx ha hdb he hpl) fun σ H Q ⟨Δ, B, Qd, r1, q, k⟩ => ⟨Δ, B, _, r1, q, fun ds Δ1 vs H1 B1 q1 r1 s1 rps => by
    show upSp G.W sp (vs ++ []) H1 Q G.E
    rw [List.append_nil]
    exact up_sp r1 rps q1 fun d v H' B' q r' s rp => k _ _ _ _ _ q r' (s1.trans s) rp⟩
theorem de_fn0 {CX : CXT} {k : Nat} {f : Addr} {fd : FuncData} {ps : List Str} {sp : SpD} {x : Str} {p : Pos} (F : FnOk X.prog X.w X.K X.mg X.base CX k f fd ps (upSp G.W sp)) (hr : Room k X.A) (hm : X.mg x = some (.ref f))
    (hk : PySem.W.keepIn X.K (.ref f) = true) (hb : Binds X.K fd ps []) (hx : Passes CX X G.E) (hg : Gl X x := by rfl) (hdb : (x == ("__debug__" : Str)) = false := by decide) : PE X (.Call (.Name x p) [] [] pos) (upE G (DL.dFn sp dNil)) :=
  PE.imp (pe_call0 F hr hg hm hk hb .nil hx hdb) fun σ H Q ⟨Δ, B, Qd, r1, q, k⟩ => up_sp r1 .nil q fun d v H' B' q r' s rp => k _ _ _ _ _ q r' s rp
/-- f(k = v, ..), all by keywords or the first ones by place -/
theorem de_fnK {CX : CXT} {k : Nat} {f : Addr} {fd : FuncData} {ps ks : List Str} {sp : SpD} {x : Str} {p : Pos} {e : Expr} {es : List Expr} {kws : List Keyword} {t tk : DTA} {g : List Value → List Value → List Value} {gV : List V → List V → List V} {gD : List D → List D → List D}
    (F : FnOk X.prog X.w X.K X.mg X.base CX k f fd ps (upSp G.W sp)) (hr : Room k X.A) (hm : X.mg x = some (.ref f)) (hk : PySem.W.keepIn X.K (.ref f) = true) (hb : KBinds X.K fd ps ks g gV) (hgD : ∀ B vs ds ws es, Rps G.W B vs ds → Rps G.W B ws es → Rps G.W B (gV vs ws) (gD ds es)) (hx : Passes CX X G.E)
    (ha : PA X (e :: es) (upA G t)) (hkw : PK X kws (upA G tk)) (hg : Gl X x := by rfl) (hall : (backToKw pos (keywordEach kws X.env)).all (·.1.isSome) = true := by rfl) (hks : (backToKw pos (keywordEach kws X.env)).filterMap (·.1) = ks := by rfl)
    (hdb : (x == ("__debug__" : Str)) = false := by decide) (he : starEach (e :: es) X.env = (false, eval e X.env) :: starEach es X.env := by rfl)
    (hpl : ((backTo pos (starEach (e :: es) X.env)).any (·.1) || (backToKw pos (keywordEach kws X.env)).any (·.1.isNone)) = false := by rfl) : PE X (.Call (.Name x p) (e :: es) kws pos) (upE G (dFnK sp gD t tk)) :=
  PE.imp (pe_callKs F hr hg hm hk hb hx ha hkw hall hks hdb he hpl) fun σ H Q ⟨Δ, B, Qd, r1, q, k⟩ => ⟨Δ, B, _, r1, q, fun ds Δ1 vs H1 B1 q1 r1 s1 rps => ⟨Δ1, B1, _, r1, q1, fun es Δ2 ws H2 B2 q2 r2 s2 rqs =>
    up_sp r2 (hgD _ _ _ _ _ (rps.mono s2) rqs) q2 fun d v H' B' q r' s rp => k _ _ _ _ _ q r' ((s1.trans s2).trans s) rp⟩⟩
theorem PK.imp {e : List Keyword} {t u : TA} (h : PK X e t) (i : ∀ σ H Q, u σ H Q → t σ H Q) : PK X e u := ⟨fun w p s σ H Q I q => h.run w p s σ H Q I (i σ H Q q)⟩
theorem dk_nil : PK X [] (upA G dNil) := PK.imp pk_nil fun σ H Q ⟨Δ, B, Qd, r1, q, k⟩ => k _ _ _ _ _ q r1 (Sub.refl _) .nil
theorem dk_cons {nm : Option Str} {e : Expr} {kpos : Pos} {kws : List Keyword} {ta : DTE} {tr : DTA} (ha : PE X e (upE G ta)) (hr : PK X kws (upA G tr)) : PK X (⟨nm, e, kpos⟩ :: kws) (upA G (dCons ta tr)) :=
  PK.imp (pk_cons ha hr) fun σ H Q ⟨Δ, B, Qd, r1, q, k⟩ => ⟨Δ, B, _, r1, q, fun d Δ1 v H1 B1 q1 r1 s1 rp => ⟨Δ1, B1, _, r1, q1, fun ds Δ2 vs H2 B2 q2 r2 s2 rps => k _ _ _ _ _ q2 r2 (s1.trans s2) (.cons _ _ _ _ (rp.mono s2) rps)⟩⟩

/-! ### C(..): a new object by its __init__ -/
/-- what an __init__ makes of its arguments: the object's fields -/
abbrev SpI := List D → (List (Str × D) → Prop) → EX → Prop
def without (H : Hp) (a : Addr) : Hp := fun b => if b = a then none else H b
def upSpI {K : PySem.W.Frag} (W : Wd K) (C : Addr) (sp : SpI) : Sp := fun vs H Q E => ∃ a dx vs' B ds Qd Ed, vs = .ref a :: vs' ∧ H a = some (.ins C dx []) ∧ ¬ W.fv a ∧ Grow W (without H a) B H B ∧ B a = none ∧ Rps W B vs' ds ∧ sp ds Qd Ed ∧
  (∀ dx' fs fsD H' B', Qd fsD → H' a = some (.ins C dx' fs) → fs.map (·.1) = fsD.map (·.1) → Rps W B' (fs.map (·.2)) (fsD.map (·.2)) → Grow W (without H a) B H' B' → Q .non H') ∧ ∀ Cx H' B', Ed Cx → Grow W (without H a) B H' B' → E (.ref Cx) none H'
def dMake (C : Addr) (sp : SpI) (t : DTA) : DTE := fun Δ Q E => t Δ (fun ds Δ1 => sp ds (fun fs => Q (.obj C fs) Δ1) E) E
theorem de_make {CX : CXT} {k : Nat} {f C : Addr} {fd : FuncData} {ps : List Str} {sp : SpI} {x : Str} {p : Pos} {e : Expr} {es : List Expr} {ta : DTA} (M : Mk X.K C f) (F : FnOk X.prog X.w X.K X.mg X.base CX k f fd ps (upSpI G.W C sp)) (hr : Room (k + 1) X.A) (hm : X.mg x = some (.ref C))
    (hb : Binds X.K fd ps []) (hx : Passes CX X G.E) (ha : PA X (e :: es) (upA G ta)) (hg : Gl X x := by rfl) (hdb : (x == ("__debug__" : Str)) = false := by decide)
    (he : starEach (e :: es) X.env = (false, eval e X.env) :: starEach es X.env := by rfl) (hpl : (backTo pos (starEach es X.env)).any (·.1) = false := by rfl) : PE X (.Call (.Name x p) (e :: es) [] pos) (upE G (dMake C sp ta)) :=
  PE.imp (pe_make M F hr hg hm hb .nil hx ha hdb he hpl) fun σ H Q ⟨Δ, B, Qd, r1, q, k⟩ => ⟨Δ, B, _, r1, q, fun ds Δ1 vs H1 B1 q1 r1 s1 rps => by
    intro y dx hy hdx hne
    show upSpI G.W C sp (.ref y :: (vs ++ [])) _ _ _
    rw [List.append_nil]
    have b1 : B1 y = none := r1.free hy
    have g1 := r1.gr.allocO (o := .own y) hdx
    have hy2 : upd H1 dx (.own y) y = none := by rw [upd_ne (Ne.symm hne)]; exact hy
    have g2 := (r1.gr.trans g1).allocO (o := .ins C dx []) hy2
    have nf : ¬ G.W.fv y := (solid_new (o := .own y) r1.wok hy (fun _ => by simp)).2
    have wo : ∀ H2 : Hp, H2 = upd (upd H1 dx (.own y)) y (.ins C dx []) → Sub H1 (without H2 y) := fun H2 e a o h => by
      subst e
      unfold without
      have n1 : a ≠ y := ne_of_none h hy
      rw [if_neg n1, upd_ne n1, upd_ne (ne_of_none h hdx)]; exact h
    refine ⟨y, dx, vs, B1, ds, _, G.Ed, rfl, upd_same, nf, ?_, b1, rps, q1, ?_, ?_⟩
    · refine ⟨fun a o h s => ?_, fun a h => ?_, Sub.refl _, fun a h => .inl h, g2.sub, g2.wok⟩
      · unfold without at h
        split at h
        · cases h
        · exact h
      · unfold without at h
        split at h
        · exact absurd rfl h
        · exact h
    · intro dx' fs fsD H' B' qd h1 h2 h3 g3
      have g4 : Grow G.W H1 B1 H' B' := g3.less (wo _ rfl)
      have by' : B' y = none ∨ B' y ≠ none := by cases B' y <;> simp
      refine ⟨rfl, ?_⟩
      rcases by' with hB | hB
      · have hn : G.H0 y = none := by
          cases e : G.H0 y with
          | none => rfl
          | some o => exact absurd hy (r1.gr.dom y (by rw [e]; simp))
        have sb : Sub B' (upd B' y (.ins C dx' fs)) := Sub.new hB
        have g5 : Grow G.W H1 B1 H' (upd B' y (.ins C dx' fs)) := ⟨g4.ext, g4.dom, g4.bas.trans sb, fun a h => by
          by_cases z : a = y
          · subst z; exact .inr (.inl hy)
          · rw [upd_ne z] at h; exact g4.new a h, fun a o h => by
          by_cases z : a = y
          · subst z; rw [upd_same] at h; cases h; exact ⟨h1, fun ps z => (by cases z), nf⟩
          · rw [upd_ne z] at h; exact g4.sub a o h, g4.wok⟩
        exact k _ _ _ _ _ qd (r1.grow g5) (s1.trans g5.bas) (.obj _ _ _ _ _ upd_same h2 (h3.mono sb))
      · have e : B' y = some (.ins C dx' fs) := by
          cases z : B' y with
          | none => exact absurd z hB
          | some o => rw [← h1, (g4.sub _ _ z).1]
        exact k _ _ _ _ _ qd (r1.grow g4) (s1.trans g4.bas) (.obj _ _ _ _ _ e h2 h3)
    · intro Cx H' B' hC g3
      exact G.hE Cx H' B' hC (r1.gr.trans (g3.less (wo _ rfl)))⟩
end
section
variable {P : Program} {w : World} {K : PySem.W.Frag} {mg : Str → Option Value} {base : Heap}
def startI (a C : Addr) (n : Nat) (ds : List D) : List Sl := .oi C a [] :: (ds.map .im ++ List.replicate (n - ds.length - 1) .un)
/-- THE RULE for an __init__ -/
theorem init_ok {x qual : Str} {st : Stmt} {f C : Addr} {fd : FuncData} {N ps : List Str} {k : Nat} {sp : SpI} {t : DTS} {dvs : List V} {kws : List (Str × V)} (F : FunD K x qual (defArgs st) (defBody st) (defScope st) dvs kws f fd) (S : FnScope N ps (defScope st))
    (hbody : ∀ (W : Wd K) (cdv : Value) (A : Around) (outer : List Env) (s : Shared) (H H0 B : Hp) (E : XK) (Ed : EX) (hE : ∀ C H' B', Ed C → Grow W H0 B H' B' → E (.ref C) none H'), Room k (A.deeper (envOfC qual (defScope st) s.heap.objs.size f cdv)) →
      PSs (cxB P w K mg base N qual st f cdv A outer s H E) (defBody st) (upS (⟨W, H0, B, E, Ed, hE⟩ : Gx K) t))
    (hsp : ∀ a ds Q E, sp ds Q E → ds.length + 1 = ps.length ∧ t { nx := fun Δ => ∃ fs, Δ[0]? = some (.oi C a fs) ∧ Q fs, rt := fun _ => False } (startI a C N.length ds) E) (hN : ps.length ≤ N.length) (W : Wd K) : FnOk P w K mg base (L2.CX P w) (k + 1) f fd ps (upSpI W C sp) := by
  refine fund_ok F (CX := L2.CX P w) S (fun vs H Q E ⟨a, dx, vs', B, ds, Qd, Ed, ev, h1, nf, g, ba, r, h, _⟩ => by rw [ev, List.length_cons, r.length]; exact (hsp a _ _ _ h).1) fun cdv A outer s H vs Q E hr ⟨a, dx, vs', B, ds, Qd, Ed, ev, h1, nf, g, ba, r, h, k1, k2⟩ => ?_
  subst ev
  obtain ⟨hl, ht⟩ := hsp a _ _ _ h
  have wa : without H a a = none := by unfold without; rw [if_pos rfl]
  refine ⟨_, hbody W cdv A outer s H (without H a) B E Ed k2 hr, startI a C N.length ds, B, _, ⟨g, fun j => if j = 0 then [a] else [], ?_, ?_, ?_, ?_⟩, ht, ?_, fun _ _ _ _ q => q.elim, fun _ _ _ _ q => q.elim, fun _ _ _ _ q => q.elim⟩
  · unfold startI L2.start
    have := r.length
    simp only [List.length_cons, List.length_append, List.length_map, List.length_replicate]
    omega
  · intro i s0 e
    unfold startI at e
    cases i with
    | zero =>
      simp at e; subst e
      exact ⟨_, rfl, .oi _ _ _ dx [] h1 rfl .nil⟩
    | succ i =>
      have e : (ds.map Sl.im ++ List.replicate (N.length - ds.length - 1) Sl.un)[i]? = some s0 := by simpa using e
      have e2 : (L2.start N (.ref a :: vs'))[i + 1]? = (vs'.map some ++ List.replicate (N.length - (vs'.length + 1)) none)[i]? := by unfold L2.start; simp
      rw [e2]
      simp only [Nat.succ_ne_zero, if_false]
      by_cases hi : i < ds.length
      · rw [List.getElem?_append_left (by simpa using hi), List.getElem?_map] at e
        rw [List.getElem?_append_left (by simpa [r.length] using hi), List.getElem?_map]
        obtain ⟨v, h1, h2⟩ := r.get (List.getElem?_eq_getElem hi)
        rw [List.getElem?_eq_getElem hi] at e
        simp at e; subst e
        rw [h1]
        exact ⟨some v, rfl, .im _ _ h2⟩
      · rw [List.getElem?_append_right (by simpa using hi), List.getElem?_replicate] at e
        split at e
        · cases e
          rename_i hj
          have hj : i - ds.length < N.length - ds.length - 1 := by simpa using hj
          refine ⟨none, ?_, .un _⟩
          rw [List.getElem?_append_right (by rw [List.length_map, r.length]; omega), List.getElem?_replicate, if_pos (by rw [List.length_map, r.length]; omega)]
        · cases e
  · intro i j b h1 h2
    try dsimp only at h1 h2
    split at h1
    · split at h2
      · omega
      · cases h2
    · cases h1
  · intro i b hb
    try dsimp only at hb
    split at hb
    · simp at hb; subst hb
      exact ⟨ba, wa, nf, _, h1, True.intro⟩
    · cases hb
  · intro Δ' σ' H' B' ⟨fs, e, q⟩ r' sb
    obtain ⟨dx', fsV, e1, e2, e3, e4⟩ := r'.oid e
    exact k1 dx' fsV fs H' B' q e2 e3 e4 r'.gr
end
end DL
-- DLlc2
set_option Elab.async false
set_option linter.all false
set_option maxRecDepth 100000
set_option maxHeartbeats 2000000
set_option autoImplicit false
namespace DL
open PySem PySem.Spec L2
open PyProof.Rows hiding St

def dLC2 (own own1 : List Nat) (ti : DTI) (g : DTG) (tt : DTT) (ti1 : DTI) (g1 : DTG) (tt1 : DTT) (te : DTE) : DTM := fun Δ Q E => ti Δ (fun ds Δ1 => ∃ Iv : Nat → List D → List Sl → Prop, Iv 0 [] (wipeD Δ1 own) ∧
  (∀ i d acc Δ2, ds[i]? = some d → Iv i acc Δ2 → g d Δ2 fun Δ3 => tt Δ3 (fun b Δ4 => if b = true then
    ti1 Δ4 (fun es Δ5 => ∃ Iw : Nat → List D → List Sl → Prop, Iw 0 acc (wipeD Δ5 own1) ∧
      (∀ j e acc1 Δ6, es[j]? = some e → Iw j acc1 Δ6 → g1 e Δ6 fun Δ7 => tt1 Δ7 (fun b Δ8 => if b = true then te Δ8 (fun z Δ9 => acc1.length < sizeLine ∧ Iw (j + 1) (acc1 ++ [z]) (wipeD Δ9 own1)) noE else Iw (j + 1) acc1 (wipeD Δ8 own1)) noE) ∧
      ∀ acc1 Δ6, Iw es.length acc1 Δ6 → Iv (i + 1) acc1 (wipeD Δ6 own)) noE
    else Iv (i + 1) acc (wipeD Δ4 own)) noE) ∧
  ∀ acc Δ2, Iv ds.length acc Δ2 → Q (.ol acc) Δ2) E
theorem wipe_sub {σ : L2.St} {vs : List Nat} : ∀ {ws : List Nat}, (∀ i ∈ ws, i ∈ vs) → wipe (wipe σ ws) vs = wipe σ vs
  | [], _ => rfl
  | w :: ws, h => by
    show wipe ((wipe σ ws).set w none) vs = _
    rw [wipe_set (h w (by simp)), wipe_sub fun i hi => h i (by simp [hi])]
section
variable {X : Cx} {G : Gx X.K} {pos : Pos}
theorem lc2_up {own own1 : List Nat} {S S1 : List Nat} {ti ti1 : DTI} {g g1 : DTG} {tt tt1 : DTT} {te : DTE} (hS : ∀ i ∈ S, i ∈ own) (hS1 : ∀ i ∈ S1, i ∈ own1) (hoo : ∀ i ∈ own1, i ∈ own) {σ : L2.St} {H : Hp} {Q : VK} (h : upM G (dLC2 own own1 ti g tt ti1 g1 tt1 te) σ H Q)
    {gH gH1 : TG} {ttH ttH1 : TT} {teH : TE} {tiH1 : TI}
    (hg : ∀ (H0 B0 : Hp) v σ H Q, upG (nox G.W H0 B0) S g v σ H Q → gH v σ H Q)
    (ht : ∀ (H0 B0 : Hp) σ H Q, upT (nox G.W H0 B0) tt σ H Q → ttH σ H Q)
    (hi1 : ∀ (H0 B0 : Hp) σ H R, upI (nox G.W H0 B0) ti1 σ H R → tiH1 σ H R)
    (hg1 : ∀ (H0 B0 : Hp) v σ H Q, upG (nox G.W H0 B0) S1 g1 v σ H Q → gH1 v σ H Q)
    (ht1 : ∀ (H0 B0 : Hp) σ H Q, upT (nox G.W H0 B0) tt1 σ H Q → ttH1 σ H Q)
    (he : ∀ (H0 B0 : Hp) σ H Q, upE (nox G.W H0 B0) te σ H Q → teH σ H Q) : tLc2 (upI G ti) gH ttH tiH1 gH1 ttH1 teH own own1 σ H Q := by
  obtain ⟨Δ, B, Qd, r, q, k⟩ := h
  refine ⟨Δ, B, _, r, q, fun ds Δ1 J H1 B1 ⟨Iv, i0, turn, fin⟩ r1 s1 it L hL => ?_⟩
  have n1 := NewV.lst (ds := []) r1.gr hL .nil
  obtain ⟨vs0, e0, q0, h0, b0, nf, rg⟩ := ((r1.wipeA own).hangS n1).hold
  have ev : vs0 = [] := by rw [upd_same] at e0; cases e0; rfl
  subst ev
  refine ⟨fun i m H' => ∃ Δ' B' acc vs, m = ds.length - i ∧ i ≤ ds.length ∧ DR (gd G L vs) Δ' (wipe σ own) H' B' ∧ Rps G.W B' vs acc ∧ Sub B1 B' ∧ Iv i acc Δ' ∧ wipeD Δ' own = Δ',
    ⟨_, wipeD Δ1 own, B1, [], [], rfl, Nat.zero_le _, rg, .nil, Sub.refl _, i0, wipeD_idem own⟩, ?_⟩
  rintro i m H2 ⟨Δ2, B2, acc, vs, rfl, hi, r2, q2, s2, v2, w2⟩
  by_cases hl : i < ds.length
  · refine .inr ⟨it.go r2.gr s2 hl, fun H' => ∃ Δ' B' acc vs, DR (gd G L vs) Δ' (wipe σ own) H' B' ∧ Rps G.W B' vs acc ∧ Sub B1 B' ∧ Iv (i + 1) acc Δ' ∧ wipeD Δ' own = Δ', fun H' ⟨Δ', B', acc, vs, h⟩ => ⟨_, by omega, Δ', B', acc, vs, rfl, hl, h⟩, fun x H3 y => ?_⟩
    obtain ⟨B3, d, hd, g3, rp⟩ := it.yld r2.gr s2 hl y
    have r3 := r2.grow g3
    have q3 := q2.mono g3.bas
    refine hg _ _ _ _ _ _ ⟨Δ2, B3, d, _, r3, rp, turn i d acc Δ2 hd v2, fun Δ4 σ4 H4 B4 q4 r4 s4 kp => ?_⟩
    have we2 : wipe σ4 own = wipe σ own := (kp own hS).trans (wipe_wipe own)
    refine ⟨we2, ht _ _ _ _ _ ⟨Δ4, B4, _, r4, q4, fun b Δ5 H5 B5 q5 r5 s5 => ?_⟩⟩
    have we3 : wipe σ4 own = wipe (wipe σ own) own := kp own hS
    have sb5 : Sub B1 B5 := ((s2.trans g3.bas).trans s4).trans s5
    cases b with
    | true =>
      refine hi1 _ _ _ _ _ ⟨Δ5, B5, _, r5, q5, fun es Δ6 J1 H6 B6 ⟨Iw, j0, turn1, fin1⟩ r6 s6 it1 => ?_⟩
      have q6 := ((q3.mono s4).mono s5).mono s6
      refine ⟨fun j m' H' => ∃ Δ' B' acc1 vs1, m' = es.length - j ∧ j ≤ es.length ∧ DR (gd G L vs1) Δ' (wipe σ4 own1) H' B' ∧ Rps G.W B' vs1 acc1 ∧ Sub B6 B' ∧ Iw j acc1 Δ' ∧ wipeD Δ' own1 = Δ',
        ⟨_, wipeD Δ6 own1, B6, acc, vs, rfl, Nat.zero_le _, r6.wipeA own1, q6, Sub.refl _, j0, wipeD_idem own1⟩, ?_⟩
      rintro j m' H7 ⟨Δ7, B7, acc1, vs1, rfl, hj, r7, q7, s7, v7, w7⟩
      by_cases hl1 : j < es.length
      · refine .inr ⟨it1.go r7.gr s7 hl1, fun H' => ∃ Δ' B' acc1 vs1, DR (gd G L vs1) Δ' (wipe σ4 own1) H' B' ∧ Rps G.W B' vs1 acc1 ∧ Sub B6 B' ∧ Iw (j + 1) acc1 Δ' ∧ wipeD Δ' own1 = Δ', fun H' ⟨Δ', B', acc, vs, h⟩ => ⟨_, by omega, Δ', B', acc, vs, rfl, hl1, h⟩, fun x1 H8 y1 => ?_⟩
        obtain ⟨B8, d1, hd1, g8, rp1⟩ := it1.yld r7.gr s7 hl1 y1
        have r8 := r7.grow g8
        have q8 := q7.mono g8.bas
        refine hg1 _ _ _ _ _ _ ⟨Δ7, B8, d1, _, r8, rp1, turn1 j d1 acc1 Δ7 hd1 v7, fun Δ9 σ9 H9 B9 q9 r9 s9 kp1 => ?_⟩
        have wf2 : wipe σ9 own1 = wipe σ4 own1 := (kp1 own1 hS1).trans (wipe_wipe own1)
        have wf3 : wipe σ9 own1 = wipe (wipe σ4 own1) own1 := kp1 own1 hS1
        refine ⟨wf2, ht1 _ _ _ _ _ ⟨Δ9, B9, _, r9, q9, fun b Δ10 H10 B10 q10 r10 s10 => ?_⟩⟩
        cases b with
        | true =>
          refine he _ _ _ _ _ ⟨Δ10, B10, _, r10, q10, fun e Δ11 z H11 B11 ⟨hz, q11⟩ r11 s11 rz => ?_⟩
          have q12 := ((q8.mono s9).mono s10).mono s11
          obtain ⟨e12, r12⟩ := r11.more h0 b0 nf q12 rz
          exact ⟨vs1, e12, by rw [q12.length]; exact hz, wipeD Δ11 own1, B11, acc1 ++ [e], vs1 ++ [z], r12.unwipe wf3, q12.append (Rps.one rz), (((s7.trans g8.bas).trans s9).trans s10).trans s11, q11, wipeD_idem own1⟩
        | false => exact ⟨wipeD Δ10 own1, B10, acc1, vs1, r10.unwipe wf3, (q8.mono s9).mono s10, ((s7.trans g8.bas).trans s9).trans s10, q10, wipeD_idem own1⟩
      · have ej : j = es.length := by omega
        subst ej
        refine .inl ⟨it1.stop r7.gr s7 (Nat.le_refl _), ?_⟩
        have we4 : wipe (wipe σ4 own1) own = wipe (wipe σ own) own := by rw [wipe_sub hoo, we3]
        exact ⟨wipeD Δ7 own, B7, acc1, vs1, r7.unwipe we4, q7, (sb5.trans s6).trans s7, fin1 _ _ v7, wipeD_idem own⟩
    | false => exact ⟨wipeD Δ5 own, B5, acc, vs, r5.unwipe we3, (q3.mono s4).mono s5, sb5, q5, wipeD_idem own⟩
  · have e : i = ds.length := by omega
    subst e
    refine .inl ⟨it.stop r2.gr s2 (Nat.le_refl _), ?_⟩
    have r5 := r2.unwipe (σ := σ) (vs := own) (wipe_wipe own)
    rw [w2] at r5
    obtain ⟨e5, r6⟩ := r5.unhold h0 b0 nf q2
    exact k _ _ _ _ _ (fin _ _ v2) r6 (s1.trans s2)
theorem dm_lc2 {elt tg iter tg1 iter1 : Expr} {ifs ifs1 : List Expr} {scope : Scope} {own : List (Str × Nat)} {own1 S S1 : List Nat} {ti ti1 : DTI} {g g1 : DTG} {tt tt1 : DTT} {te : DTE} (hc : X.calm = true) (hN : X.N.Nodup) (hi : PI X tg iter (upI G ti)) (ok : BlkOk X.N X.env.scope scope own)
    (hg : ∀ (s : Shared) (H : Hp) (C : Addr) (cl : List (Str × Addr)) (fp : List Addr) (H0 B0 : Hp), PG (X.blk s H scope (compEnvC scope cl C X.env) fp) tg (upG (nox G.W H0 B0) S g))
    (ht : ∀ (s : Shared) (H : Hp) (C : Addr) (cl : List (Str × Addr)) (fp : List Addr) (H0 B0 : Hp), PTs (X.blk s H scope (compEnvC scope cl C X.env) fp) ifs (upT (nox G.W H0 B0) tt))
    (hi1 : ∀ (s : Shared) (H : Hp) (C : Addr) (cl : List (Str × Addr)) (fp : List Addr) (H0 B0 : Hp), PI (X.blk s H scope (compEnvC scope cl C X.env) fp) tg1 iter1 (upI (nox G.W H0 B0) ti1))
    (hg1 : ∀ (s : Shared) (H : Hp) (C : Addr) (cl : List (Str × Addr)) (fp : List Addr) (H0 B0 : Hp), PG (X.blk s H scope (compEnvC scope cl C X.env) fp) tg1 (upG (nox G.W H0 B0) S1 g1))
    (ht1 : ∀ (s : Shared) (H : Hp) (C : Addr) (cl : List (Str × Addr)) (fp : List Addr) (H0 B0 : Hp), PTs (X.blk s H scope (compEnvC scope cl C X.env) fp) ifs1 (upT (nox G.W H0 B0) tt1))
    (he : ∀ (s : Shared) (H : Hp) (C : Addr) (cl : List (Str × Addr)) (fp : List Addr) (H0 B0 : Hp), PE (X.blk s H scope (compEnvC scope cl C X.env) fp) elt (upE (nox G.W H0 B0) te))
    (hS : ∀ i ∈ S, i ∈ own.map (·.2) := by decide) (hS1 : ∀ i ∈ S1, i ∈ own1 := by decide) (hoo : ∀ i ∈ own1, i ∈ own.map (·.2) := by decide) (hs : ∀ x, foldedSetIterable iter X.env x = pure x := by intro _; rfl) (hs1 : ∀ env x, foldedSetIterable iter1 env x = pure x := by intro _ _; rfl) :
    PE X (.ListComp elt [⟨tg, iter, ifs, 0⟩, ⟨tg1, iter1, ifs1, 0⟩] scope pos) (upM G (dLC2 (own.map (·.2)) own1 ti g tt ti1 g1 tt1 te)) :=
  PE.imp (pe_lc2 (vs1 := own1) (g := fun v σ H Q => ∃ H0 B0, upG (nox G.W H0 B0) S g v σ H Q) (tt := fun σ H Q => ∃ H0 B0, upT (nox G.W H0 B0) tt σ H Q) (wi1 := fun σ H Q => ∃ H0 B0, upI (nox G.W H0 B0) ti1 σ H Q)
    (g1 := fun v σ H Q => ∃ H0 B0, upG (nox G.W H0 B0) S1 g1 v σ H Q) (tt1 := fun σ H Q => ∃ H0 B0, upT (nox G.W H0 B0) tt1 σ H Q) (te := fun σ H Q => ∃ H0 B0, upE (nox G.W H0 B0) te σ H Q) hc hN hi ok hoo
    (fun s H C cl fp => ⟨fun p s' σ H' v u Q I r ⟨H0, B0, q⟩ => (hg s H C cl fp H0 B0).run p s' σ H' v u Q I r q⟩)
    (fun s H C cl fp => ⟨fun p s' σ H' Q I ⟨H0, B0, q⟩ => (ht s H C cl fp H0 B0).run p s' σ H' Q I q⟩)
    (fun s H C cl fp => ⟨fun p s' σ H' Q I ⟨H0, B0, q⟩ => (hi1 s H C cl fp H0 B0).run p s' σ H' Q I q⟩)
    (fun s H C cl fp => ⟨fun p s' σ H' v u Q I r ⟨H0, B0, q⟩ => (hg1 s H C cl fp H0 B0).run p s' σ H' v u Q I r q⟩)
    (fun s H C cl fp => ⟨fun p s' σ H' Q I ⟨H0, B0, q⟩ => (ht1 s H C cl fp H0 B0).run p s' σ H' Q I q⟩)
    (fun s H C cl fp => ⟨fun p s' σ H' Q I ⟨H0, B0, q⟩ => (he s H C cl fp H0 B0).run p s' σ H' Q I q⟩) hs hs1)
    fun σ H Q h => lc2_up hS hS1 hoo h (fun H0 B0 _ _ _ _ q => ⟨H0, B0, q⟩) (fun H0 B0 _ _ _ q => ⟨H0, B0, q⟩) (fun H0 B0 _ _ _ q => ⟨H0, B0, q⟩) (fun H0 B0 _ _ _ _ q => ⟨H0, B0, q⟩) (fun H0 B0 _ _ _ q => ⟨H0, B0, q⟩) (fun H0 B0 _ _ _ q => ⟨H0, B0, q⟩)
/-! ### name op= value -/
def dAug (i : Nat) (rd : D → D → (Sl → Prop) → Prop) (t : DTE) : DTS := fun N Δ E => (∃ a, Δ[i]? = some (.im (.int a)) ∧ t Δ (fun d Δ1 => rd (.int a) d fun s => i < Δ1.length ∧ N.nx (Δ1.set i s)) E)
theorem ds_augI {i : Nat} {x : Str} {e : Expr} {t : DTE} {op : Operator} {f : Int → Int → Int} {pos' : Pos} (ho : PIp X op (ipI f)) (hN : X.N.Nodup) (he : PE X e (upE G t)) (hi : X.N[i]? = some x := by rfl) (hx : Loc X.env.scope x := by first | exact Or.inl rfl | exact Or.inr rfl)
    (hf : X.fn x = true ∨ X.env.scope.names.lookup x = some .local := by first | exact .inl rfl | exact .inr rfl | assumption) : PS X (.AugAssign (.Name x pos') op e pos) (upS G (dAug i (rdI0 f) t)) :=
  PS.imp (ps_aug hN hi hx he ho hf) fun N σ H ⟨Δ, B, M, r, ⟨a, e1, q⟩, k, _⟩ => by
    obtain ⟨v, h1, h2⟩ := r.get e1
    cases h2
    refine ⟨_, h1, Δ, B, _, r, q, fun d Δ1 w H1 B1 q1 r1 s1 rw' => ?_⟩
    unfold rdI0 at q1
    split at q1
    · rename_i a' b e2
      cases e2
      cases rw'
      exact ⟨_, _, rfl, rfl, k _ _ _ _ q1.2 (r1.put i (.int _)) s1⟩
    · exact q1.elim
end
end DL
-- DLcal
set_option Elab.async false
set_option linter.all false
set_option maxRecDepth 100000
set_option maxHeartbeats 2000000
set_option autoImplicit false
namespace DL
open PySem PySem.Spec L2
open PyProof.Rows hiding St

theorem hu65 {A : Around} {k : Nat} (hr : Room k A) : A.units + 65 < cLine := by have := hr.un; omega
/-- a def of the module that may be called -/
structure Cal (P : Program) (w : World) (K : PySem.W.Frag) (mg : Str → Option Value) (base : Heap) (k : Nat) (x : Str) (ps : List Str) (sp : SpD) : Prop where
  ex : ∃ f fd, mg x = some (.ref f) ∧ PySem.W.keepIn K (.ref f) = true ∧ Binds K fd ps [] ∧ ∀ W : Wd K, FnOk P w K mg base (L2.CX P w) k f fd ps (upSp W sp)
theorem Cal.mono {P : Program} {w : World} {K : PySem.W.Frag} {mg : Str → Option Value} {base : Heap} {j k : Nat} {x : Str} {ps : List Str} {sp : SpD} (c : Cal P w K mg base j x ps sp) (h : j ≤ k) : Cal P w K mg base k x ps sp := by
  obtain ⟨f, fd, h1, h2, h3, h4⟩ := c.ex
  exact ⟨f, fd, h1, h2, h3, fun W => (h4 W).mono h⟩
/-- a class of the module whose objects may be made -/
structure CalI (P : Program) (w : World) (K : PySem.W.Frag) (mg : Str → Option Value) (base : Heap) (k : Nat) (x : Str) (C : Addr) (ps : List Str) (sp : SpI) : Prop where
  ex : ∃ f fd, mg x = some (.ref C) ∧ Mk K C f ∧ Binds K fd ps [] ∧ ∀ W : Wd K, FnOk P w K mg base (L2.CX P w) k f fd ps (upSpI W C sp)
theorem CalI.mono {P : Program} {w : World} {K : PySem.W.Frag} {mg : Str → Option Value} {base : Heap} {j k : Nat} {x : Str} {C : Addr} {ps : List Str} {sp : SpI} (c : CalI P w K mg base j x C ps sp) (h : j ≤ k) : CalI P w K mg base k x C ps sp := by
  obtain ⟨f, fd, h1, h2, h3, h4⟩ := c.ex
  exact ⟨f, fd, h1, h2, h3, fun W => (h4 W).mono h⟩
section
variable {X : Cx} {G : Gx X.K} {pos : Pos}
theorem de_cal {k : Nat} {ps : List Str} {sp : SpD} {x : Str} {p : Pos} {e : Expr} {es : List Expr} {ta : DTA} (c : Cal X.prog X.w X.K X.mg X.base k x ps sp) (hr : Room k X.A) (hx : Passes (L2.CX X.prog X.w) X G.E) (ha : PA X (e :: es) (upA G ta)) (hg : Gl X x := by rfl) (hdb : (x == ("__debug__" : Str)) = false := by decide)
    (he : starEach (e :: es) X.env = (false, eval e X.env) :: starEach es X.env := by rfl) (hpl : (backTo pos (starEach es X.env)).any (·.1) = false := by rfl) : PE X (.Call (.Name x p) (e :: es) [] pos) (upE G (DL.dFn sp ta)) := by
  obtain ⟨f, fd, h1, h2, h3, h4⟩ := c.ex
  exact de_fn (h4 G.W) hr h1 h2 h3 hx ha hg hdb he hpl
theorem de_cal0 {k : Nat} {ps : List Str} {sp : SpD} {x : Str} {p : Pos} (c : Cal X.prog X.w X.K X.mg X.base k x ps sp) (hr : Room k X.A) (hx : Passes (L2.CX X.prog X.w) X G.E) (hg : Gl X x := by rfl) (hdb : (x == ("__debug__" : Str)) = false := by decide) : PE X (.Call (.Name x p) [] [] pos) (upE G (DL.dFn sp dNil)) := by
  obtain ⟨f, fd, h1, h2, h3, h4⟩ := c.ex
  exact de_fn0 (h4 G.W) hr h1 h2 h3 hx hg hdb
theorem de_mk {k : Nat} {C : Addr} {ps : List Str} {sp : SpI} {x : Str} {p : Pos} {e : Expr} {es : List Expr} {ta : DTA} (c : CalI X.prog X.w X.K X.mg X.base k x C ps sp) (hr : Room (k + 1) X.A) (hx : Passes (L2.CX X.prog X.w) X G.E) (ha : PA X (e :: es) (upA G ta)) (hg : Gl X x := by rfl) (hdb : (x == ("__debug__" : Str)) = false := by decide)
    (he : starEach (e :: es) X.env = (false, eval e X.env) :: starEach es X.env := by rfl) (hpl : (backTo pos (starEach es X.env)).any (·.1) = false := by rfl) : PE X (.Call (.Name x p) (e :: es) [] pos) (upE G (dMake C sp ta)) := by
  obtain ⟨f, fd, h1, h2, h3, h4⟩ := c.ex
  exact de_make h2 (h4 G.W) hr h1 h3 hx ha hg hdb he hpl
theorem de_gi {x : Str} {i : Int} (hm : ∃ u, X.mg x = some u ∧ RelV (.int i) u) (hg : Gl X x := by rfl) (hdb : (x == ("__debug__" : Str)) = false := by decide) : PE X (.Name x pos) (upE G (dC (.int i))) := by
  obtain ⟨u, h1, h2⟩ := hm
  exact de_c (pe_glob (v := .int i) hg h1 h2 hdb) fun _ => .int _
/-- a < b < c, asked as a test -/
theorem dt_chain {a b c : Expr} {op op' : CmpOp} {r r' : R2} {rd rd' : D → D → (Bool → Prop) → Prop} {ta tb tc : DTO} (ho : OpR X (compareOp op) r) (ho' : OpR X (compareOp op') r') (hr : R2B G.W r rd) (hr' : R2B G.W r' rd') (ha : PE X a (upO G ta)) (hb : PE X b (upO G tb)) (hc : PE X c (upO G tc)) (hm : lastMarks [op, op'] [b, c] = false := by with_unfolding_all rfl) : PT X (.Compare a [op, op'] [b, c] pos) (upT G (dTst (dChainE rd rd' ta tb tc))) :=
  PT.imp (pt_chain ho ho' ha hb hc hm) fun σ H Q ⟨Δ, B, Qd, r1, q, k⟩ => ⟨Δ, B, _, r1, q, fun d1 Δ1 v1 H1 B1 q1 r1 s1 p1 => ⟨Δ1, B1, _, r1, q1, fun d2 Δ2 v2 H2 B2 ⟨d, e, e1, e2, q2⟩ r2 s2 p2 =>
    hr _ _ _ _ _ _ _ _ _ _ r2.gr ((p1.mono s2).res r2 e1) (p2.res r2 e2) q2 fun bb qd => ⟨bb, rfl, by
      cases bb with
      | true => exact ⟨Δ2, B2, _, r2, qd, fun d3 Δ3 v3 H3 B3 ⟨d, e, e1, e2, q3⟩ r3 s3 p3 => hr' _ _ _ _ _ _ _ _ _ _ r3.gr ((p2.mono s3).res r3 e1) (p3.res r3 e2) q3 fun b3 ⟨b4, e4, qd⟩ => by cases e4; exact ⟨_, rfl, k _ _ _ _ qd r3 ((s1.trans s2).trans s3)⟩⟩
      | false =>
        obtain ⟨b4, e4, qd⟩ := qd
        cases e4
        exact ⟨_, rfl, k _ _ _ _ qd r2 (s1.trans s2)⟩⟩⟩⟩
end
/-! ### what simp reads off a body's meaning -/
theorem two_simp {Δ : List Sl} {x y : Od} {P : D → D → Prop} {d e : D} (h1 : res Δ x = some d) (h2 : res Δ y = some e) (h : P d e) : two Δ x y P := ⟨d, e, h1, h2, h⟩
end DL
-- DLlam
set_option Elab.async false
set_option linter.all false
set_option maxRecDepth 100000
set_option maxHeartbeats 2000000
set_option autoImplicit false
namespace DL
open PySem PySem.Spec L2
open PyProof.Rows hiding St
/-! ### a part of a heap: the rest reads as if it were freed -/
def hideO (o : Obj) : Obj := { o with data := .freed }
open Classical in
noncomputable def part (h : Heap) (p : Addr → Prop) : Heap := ⟨h.objs.mapIdx fun i o => if p i then o else hideO o, h.life⟩
theorem part_size {h : Heap} {p : Addr → Prop} : (part h p).objs.size = h.objs.size := by simp [part]
theorem part_in {h : Heap} {p : Addr → Prop} {a : Addr} {o : Obj} (e : h.get? a = some o) (ha : p a) : (part h p).get? a = some o := by
  unfold Heap.get? at e ⊢
  unfold part
  simp only [Array.getElem?_mapIdx]
  cases q : h.objs[a]? with
  | none => rw [q] at e; cases e
  | some u => rw [q] at e; simp only [Option.map_some, if_pos ha]; exact e
theorem part_of {h : Heap} {p : Addr → Prop} {a : Addr} {o : Obj} (e : (part h p).get? a = some o) : h.get? a = some o ∧ p a := by
  unfold Heap.get? at e ⊢
  unfold part at e
  simp only [Array.getElem?_mapIdx] at e
  cases q : h.objs[a]? with
  | none => rw [q] at e; cases e
  | some u =>
    rw [q] at e
    by_cases ha : p a
    · simp only [Option.map_some, if_pos ha] at e; exact ⟨e, ha⟩
    · simp only [Option.map_some, if_neg ha, hideO] at e; cases e
theorem part_no {h : Heap} {p : Addr → Prop} {a : Addr} (ha : ¬ p a) : (part h p).get? a = none := by
  cases e : (part h p).get? a with
  | none => rfl
  | some o => exact absurd (part_of e).2 ha
/-! ### a call's state over a larger base: all that is not told of the heap, and is no frame -/
section
variable {P : Program} {w : World} {K : PySem.W.Frag} {mg : Str → Option Value} {base : Heap} {A : Around} {outer : List Env} {s : Shared} {H : Hp}
def restP (outer : List Env) (H : Hp) (b : Addr) : Prop := H b = none ∧ b ∉ frs outer
theorem FunFrames_none {h base : Heap} : ∀ {l : List Env}, h.FunFrames base l → ∀ b ∈ frs l, base.get? b = none
  | [], _, b, hb => by simp [frs] at hb
  | env :: rest, ⟨_, ⟨L, o, hf, hn, _⟩, hr⟩, b, hb => by
    simp only [frs, List.filterMap_cons, hf, List.mem_cons] at hb
    rcases hb with rfl | hb
    · exact hn
    · exact FunFrames_none hr b hb
theorem FunFrames_base {h base base' : Heap} : ∀ {l : List Env}, h.FunFrames base l → (∀ b ∈ frs l, base'.get? b = none) → h.FunFrames base' l
  | [], _, _ => True.intro
  | env :: rest, ⟨hk, ⟨L, o, hf, hn, ho⟩, hr⟩, k => by
    have e : frs (env :: rest) = L :: frs rest := by simp only [frs, List.filterMap_cons, hf]
    exact ⟨hk, ⟨L, o, hf, k L (by rw [e]; exact List.mem_cons_self), ho⟩, FunFrames_base hr fun b hb => k b (by rw [e]; exact List.mem_cons_of_mem _ hb)⟩
theorem sub_base (e : Env0 P w K mg base A outer s H) : ∀ b o, base.get? b = some o → (part s.heap (restP outer H)).get? b = some o := fun b o h =>
  part_in (e.bs b o h).1 ⟨(e.bs b o h).2, fun hb => by rw [FunFrames_none e.funs b hb] at h; cases h⟩
theorem mod_more {base' : Heap} (m : Mod K mg base) (k : ∀ b o, base.get? b = some o → base'.get? b = some o) : Mod K mg base' :=
  ⟨m.kin.keeps k, m.glob.keeps k, (by obtain ⟨mb, q1, q2⟩ := m.blt; exact ⟨mb, q1.keeps k, q2⟩), m.nolimit.keeps k⟩
theorem env0_part (e : Env0 P w K mg base A outer s H) : Env0 P w K mg (part s.heap (restP outer H)) A outer s H :=
  ⟨e.frames, mod_more e.mod (sub_base e), fun b o h => ⟨(part_of h).1, (part_of h).2.1⟩, Nat.le_of_eq part_size, FunFrames_base e.funs fun b hb => part_no fun z => z.2 hb, e.frf, e.hok, e.bare⟩
/-- back to a smaller base -/
theorem env0_less {base' : Heap} (e : Env0 P w K mg base' A outer s H) (m : Mod K mg base) (k : ∀ b o, base.get? b = some o → base'.get? b = some o) (hz : base.objs.size ≤ base'.objs.size) : Env0 P w K mg base A outer s H :=
  ⟨e.frames, m, fun b o h => e.bs b o (k b o h), Nat.le_trans hz e.bsz, FunFrames_base e.funs (fun b hb => by
    cases q : base.get? b with
    | none => rfl
    | some o => have := FunFrames_none e.funs b hb; rw [k b o q] at this; cases this), e.frf, e.hok, e.bare⟩
end
/-! ### a lambda that may be called -/
def upSpB {K : PySem.W.Frag} (W : Wd K) (Bm : Hp) (sp : SpD) : Sp := fun vs H Q E => ∃ B ds Qd Ed, Sub Bm B ∧ Grow W H B H B ∧ Rps W B vs ds ∧ sp ds Qd Ed ∧ (∀ d v H' B', Qd d → Grow W H B H' B' → Rp W B' v d → Q v H') ∧ ∀ C H' B', Ed C → Grow W H B H' B' → E (.ref C) none H'
def CallOk (P : Program) (w : World) (K : PySem.W.Frag) (mg : Str → Option Value) (base : Heap) (W : Wd K) (Bm : Hp) (lv : Nat) (clo : Clo) (beh : SpD) : Prop :=
  ∀ (A : Around) (outer : List Env) (s : Shared) (H : Hp) (a c : Addr) (us : List Value) (vs : List V) (Q : VK) (E : XK), Room lv A → Env0 P w K mg base A outer s H → H a = some (FnO clo c a) → H c = some (LamX.CodeO c clo.qual) → Vals vs us →
    upSpB W Bm beh vs H Q E → codeAny (model P w) A (.call (.ref a) ⟨us, []⟩) (CR (L2.CX P w) outer P w H s Q E) s
abbrev lamE (k : Clo) (L f c : Addr) : Env := PySem.W.envX k.qual k.scope L f (.ref c) k.cells
/-- the context of a lambda's body -/
abbrev lamC (P : Program) (w : World) (K : PySem.W.Frag) (mg : Str → Option Value) (base : Heap) (N : List Str) (k : Clo) (f c : Addr) (A : Around) (outer : List Env) (s : Shared) (H : Hp) (E : XK) : Cx where
  prog := P
  w := w
  K := K
  mg := mg
  base := base
  A := A.deeper (lamE k s.heap.objs.size f c)
  N := N
  s_0 := s
  H_0 := H
  env := lamE k s.heap.objs.size f c
  outer := outer
  stack := lamE k s.heap.objs.size f c :: outer
  ex := []
  fn := fun _ => false
  calm := true
  pn := []
  xe := fun e s' => wpAny (model P w) (A.deeper (lamE k s.heap.objs.size f c)) (leaving (lamE k s.heap.objs.size f c) e) (fun _ s'' => L2.CX P w outer H s E e s'') (fun e' s'' => L2.CX P w outer H s E e' s'') s'
/-- a lambda's names: captured ones (or globals), parameters; no cell of its own -/
structure LamP (caps ps : List Str) (scope : Scope) : Prop where
  kind : scope.kind = .function
  co : scope.isCoroutine = false
  gen : scope.isGenerator = false
  cell : ∀ y ∈ scope.names, y.2 ≠ .cell
  loc : ∀ y, scope.names.lookup y = some .local → y ∈ ps
  free : ∀ y, scope.names.lookup y = some .free → y ∈ caps
  par : ∀ y ∈ ps, scope.names.lookup y = some .local
  nd : (caps ++ ps).Nodup
def lamPB (caps ps : List Str) (scope : Scope) : Bool :=
  decide (scope.kind = .function) && !scope.isCoroutine && !scope.isGenerator && (scope.names.all fun y => !decide (y.2 = .cell) && (!decide (y.2 = .local) || decide (y.1 ∈ ps)) && (!decide (y.2 = .free) || decide (y.1 ∈ caps))) &&
    (ps.all fun y => decide (scope.names.lookup y = some .local)) && decide (caps ++ ps).Nodup
theorem lamP_by {caps ps : List Str} {scope : Scope} (h : lamPB caps ps scope = true) : LamP caps ps scope := by
  unfold lamPB at h
  simp only [Bool.and_eq_true, Bool.or_eq_true, Bool.not_eq_true', decide_eq_true_eq, decide_eq_false_iff_not, List.all_eq_true] at h
  obtain ⟨⟨⟨⟨⟨h1, h2⟩, h3⟩, h4⟩, h5⟩, h6⟩ := h
  exact ⟨h1, h2, h3, fun y hy => (h4 y hy).1.1, fun y e => ((h4 _ (PySem.mem_of_lookup e)).1.2).resolve_left (fun z => z rfl), fun y e => ((h4 _ (PySem.mem_of_lookup e)).2).resolve_left (fun z => z rfl), h5, h6⟩
/-- what the cells that a lambda holds are -/
structure CellsOk (k : Clo) (caps : List Str) (vc : List V) (H : Hp) (h : Heap) : Prop where
  len : caps.length = vc.length
  inj : ∀ x y c, k.cells.lookup x = some c → k.cells.lookup y = some c → x = y
  has : ∀ y ∈ caps, ∃ c, k.cells.lookup y = some c
  ok : ∀ y c, k.cells.lookup y = some c → H c = none ∧ ∃ v, h.IsCell c v
  val : ∀ (i : Nat) (y : Str) (v : V) (c : Addr), caps[i]? = some y → vc[i]? = some v → k.cells.lookup y = some c → ∃ u, RelV v u ∧ h.IsCell c (some u)
section
variable {P : Program} {w : World} {K : PySem.W.Frag} {mg : Str → Option Value} {base : Heap} {A : Around} {outer : List Env} {s : Shared} {H : Hp}
theorem lookup_zip_rev {ps : List Str} {us : List Value} (nd : ps.Nodup) (hl : us.length = ps.length) {i : Nat} {y : Str} {u : Value} (h1 : ps[i]? = some y) (h2 : us[i]? = some u) : (ps.zip us).reverse.lookup y = some u := by
  have hm : (y, u) ∈ (ps.zip us).reverse := by
    rw [List.mem_reverse]
    exact List.mem_of_getElem? (i := i) (by rw [List.getElem?_zip_eq_some]; exact ⟨h1, h2⟩)
  have hn : ((ps.zip us).reverse.map (·.1)).Nodup := by
    rw [List.map_reverse]
    refine (List.reverse_perm _).nodup_iff.mpr ?_
    rw [List.map_fst_zip (by omega)]
    exact nd
  generalize (ps.zip us).reverse = l at hm hn
  induction l with
  | nil => cases hm
  | cons p l ih =>
    obtain ⟨z, t⟩ := p
    simp only [List.map_cons, List.nodup_cons] at hn
    rw [List.lookup_cons]
    rcases List.mem_cons.mp hm with e | e
    · cases e; simp
    · have : (y == z) = false := by
        cases q : y == z with
        | false => rfl
        | true =>
          have q : y = z := by simpa using q
          exact absurd (List.mem_map.mpr ⟨(y, u), e, q⟩) hn.1
      rw [this]
      exact ih e hn.2
theorem lam_inv {caps ps : List Str} {k : Clo} {vc vs : List V} {us : List Value} {E : XK} {f c : Addr} {h₁ : Heap} {tk : Nat} (L : LamP caps ps k.scope) (e0 : Env0 P w K mg base A outer s H) (hd : A.handled = none) (C : CellsOk k caps vc H s.heap)
    (r : Vals vs us) (hl : us.length = ps.length) (hns : h₁.Ns s.heap.objs.size fun y => (ps.zip us).reverse.lookup y) (kp : ∀ b o, s.heap.get? b = some o → h₁.get? b = some o) :
    Inv (lamC P w K mg base (caps ++ ps) k f c A outer s H E) [] (L2.start (caps ++ ps) (vc ++ vs)) H { s with heap := h₁, toks := tk } := by
  have cellK : ∀ {c : Addr} {v : Option Value}, s.heap.IsCell c v → h₁.IsCell c v := fun {c v} ⟨o, ho, hd⟩ => ⟨o, kp _ _ ho, hd⟩
  have noA : ∀ b : Addr, b ∉ (lamC P w K mg base (caps ++ ps) k f c A outer s H E).ex := fun b z => absurd (show b ∈ ([] : List Addr) from z) (by simp)
  have hlv : vs.length = ps.length := by rw [r.length, hl]
  refine ⟨⟨e0.mod, L.kind, rfl, rfl, Nat.le_refl _, C.inj, fun y hy => ?_, fun y c z _ => (by cases (show false = true from z)), fun _ => hd, Around.frames_deeper e0.frames, .inr ⟨rfl, rfl⟩, fun b z => absurd z (noA b), e0.bs, e0.bsz, fun b _ _ => noA b,
      fun b z => absurd z (noA b), e0.funs, e0.frf⟩,
    rfl, e0.bare, Un.kept kp, ⟨_, hns, fun i y v e1 e2 e3 => ?_⟩, fun y c e => ?_, e0.hok.fresh (Nat.le_refl _), fun y c e => (C.ok y c e).1, fun q hq => absurd (show q ∈ ([] : List (Addr × Obj)) ++ [] from hq) (by simp), e0.hok.kept kp, ?_⟩
  · have hy : k.scope.names.lookup y = some .cell ∨ k.scope.names.lookup y = some .free := hy
    rcases hy with hy | hy
    · exact absurd rfl (L.cell _ (PySem.mem_of_lookup hy))
    · exact C.has y (L.free y hy)
  · have e1 : (caps ++ ps)[i]? = some y := e1
    have e3 : Vis k.scope y := e3
    have e2 : ((vc ++ vs).map some ++ List.replicate ((caps ++ ps).length - (vc ++ vs).length) none)[i]? = some (some v) := e2
    have hi : i < (caps ++ ps).length := (List.getElem?_eq_some_iff.mp e1).1
    have hv : (vc ++ vs)[i]? = some v := by
      have hlen : (vc ++ vs).length = (caps ++ ps).length := by rw [List.length_append, List.length_append, C.len, hlv]
      rw [List.getElem?_append_left (by rw [List.length_map, hlen]; exact hi), List.getElem?_map] at e2
      cases q : (vc ++ vs)[i]? with
      | none => rw [q] at e2; cases e2
      | some z => rw [q] at e2; cases e2; rfl
    by_cases hc : i < caps.length
    · rw [List.getElem?_append_left hc] at e1
      rw [List.getElem?_append_left (by rw [← C.len]; exact hc)] at hv
      have hy : y ∈ caps := List.mem_of_getElem? e1
      obtain ⟨c', hc'⟩ := C.has y hy
      obtain ⟨u, ru, hu⟩ := C.val i y v c' e1 hv hc'
      have nl : k.scope.names.lookup y ≠ some .local := fun z => by
        have := L.loc y z
        have nd := L.nd
        rw [List.nodup_append] at nd
        exact nd.2.2 y hy y this rfl
      refine ⟨u, ru, .inr ⟨?_, c', hc', cellK hu⟩⟩
      rcases e3 with z | z | z
      · exact absurd z nl
      · exact absurd rfl (L.cell _ (PySem.mem_of_lookup z))
      · exact .inr z
    · rw [List.getElem?_append_right (by omega)] at e1
      rw [List.getElem?_append_right (by rw [← C.len]; omega), ← C.len] at hv
      obtain ⟨u, hu, ru⟩ : ∃ u, us[i - caps.length]? = some u ∧ RelV v u := by
        have hlt : i - caps.length < us.length := by
          have := (List.getElem?_eq_some_iff.mp hv).1
          rw [hl, ← hlv]; exact this
        exact ⟨us[i - caps.length], List.getElem?_eq_getElem hlt, (by obtain ⟨u', h1, h2⟩ := r.get hv; rw [List.getElem?_eq_getElem hlt] at h1; cases h1; exact h2)⟩
      exact ⟨u, ru, .inl ⟨L.par y (List.mem_of_getElem? e1), lookup_zip_rev (List.nodup_append.mp L.nd).2.1 hl e1 hu⟩⟩
  · obtain ⟨_, v, hv⟩ := C.ok y c e
    exact ⟨v, cellK hv⟩
  · show ((vc ++ vs).map some ++ List.replicate ((caps ++ ps).length - (vc ++ vs).length) none).length = (caps ++ ps).length
    simp only [List.length_append, List.length_map, List.length_replicate, C.len, hlv]
    omega
end
/-- a lambda's text, judged: te reads its body over the captured names and the parameters -/
structure LamB (P : Program) (w : World) (K : PySem.W.Frag) (mg : Str → Option Value) (base : Heap) (caps ps : List Str) (k : Clo) (lv : Nat) (te : DTE) : Prop where
  L : LamP caps ps k.scope
  bind : ∀ (pm cv ctv : Value) (us : List Value), us.length = ps.length → bindArgs (PySem.W.kla_fn "<lambda>" k.qual k.params k.body k.scope k.cells pm cv ctv) ⟨us, []⟩ = pure (ps.zip us)
  body : ∀ (W : Wd K) (f c : Addr) (A : Around) (outer : List Env) (s : Shared) (H B : Hp) (E : XK) (Ed : EX) (hE : ∀ C H' B', Ed C → Grow W H B H' B' → E (.ref C) none H'), Room lv (A.deeper (lamE k s.heap.objs.size f c)) →
    PE (lamC P w K mg base (caps ++ ps) k f c A outer s H E) k.body (upE (⟨W, H, B, E, Ed, hE⟩ : Gx K) te)
def lamBeh (n : Nat) (dc : List D) (te : DTE) : SpD := fun ds Q E => ds.length = n ∧ te ((dc ++ ds).map .im) (fun d _ => Q d) E
/-- the captured names' places in the maker's frame -/
structure CapAt (X : Cx) (k : Clo) (caps : List Str) (ix : List Nat) : Prop where
  len : caps.length = ix.length
  cells : k.cells = cloFrom X.env.cells k.scope.names []
  free : ∀ y ∈ caps, (y, NameKind.free) ∈ k.scope.names
  all : ∀ y, (y, NameKind.free) ∈ k.scope.names → y ∈ caps
  at_ : ∀ (i : Nat) (y : Str) (j : Nat), caps[i]? = some y → ix[i]? = some j → X.N[j]? = some y
  cell : ∀ y ∈ caps, X.env.kindOf y = some .cell ∧ X.fn y = true
def ims (Δ : List Sl) : List Nat → Option (List D)
  | [] => some []
  | i :: is => match Δ[i]?, ims Δ is with
    | some (.im d), some ds => some (d :: ds)
    | _, _ => none
theorem rps_append {K : PySem.W.Frag} {W : Wd K} {B : Hp} : ∀ {vs ws : List V} {ds es : List D}, Rps W B vs ds → Rps W B ws es → Rps W B (vs ++ ws) (ds ++ es)
  | _, _, _, _, .nil, h => h
  | _, _, _, _, .cons _ _ _ _ a b, h => .cons _ _ _ _ a (rps_append b h)
theorem DR.ims {K : PySem.W.Frag} {G : Gx K} {Δ : List Sl} {σ : L2.St} {H B : Hp} (r : DR G Δ σ H B) : ∀ {is : List Nat} {dc : List D}, DL.ims Δ is = some dc → ∃ vc, vc.length = is.length ∧ (∀ (i j : Nat) (v : V), is[i]? = some j → vc[i]? = some v → σ[j]? = some (some v)) ∧ Rps G.W B vc dc
  | [], dc, h => by
    cases h
    exact ⟨[], rfl, fun i j v e _ => (by simp at e), .nil⟩
  | i :: is, dc, h => by
    simp only [DL.ims] at h
    split at h
    · rename_i d ds e1 e2
      cases h
      obtain ⟨vc, h1, h2, h3⟩ := DR.ims r e2
      obtain ⟨v, h4, h5⟩ := r.get e1
      refine ⟨v :: vc, by simp [h1], fun n j u a b => ?_, .cons _ _ _ _ h5 h3⟩
      cases n with
      | zero => simp at a b; subst a; subst b; exact h4
      | succ n => exact h2 n j u (by simpa using a) (by simpa using b)
    · cases h
section
variable {X : Cx} {pins : List (Addr × Obj)} {σ : L2.St} {H B : Hp} {s : Shared}
theorem cap_cells {k : Clo} {caps : List Str} {ix : List Nat} {vc : List V} (I : Inv X pins σ H s) (C : CapAt X k caps ix) (hl : vc.length = ix.length) (hv : ∀ (i j : Nat) (v : V), ix[i]? = some j → vc[i]? = some v → σ[j]? = some (some v)) :
    CellsOk k caps vc H s.heap ∧ ∀ y c, k.cells.lookup y = some c → restP X.stack H c := by
  have cm : ∀ {y c}, k.cells.lookup y = some c → y ∈ caps ∧ X.env.cells.lookup y = some c := fun {y c} e => by
    rw [C.cells] at e
    rcases cloFrom_mem (PySem.mem_of_lookup e) with hm | ⟨h1, h2⟩
    · cases hm
    · have hy := C.all y h1
      obtain ⟨c1, hc⟩ := I.ok.has y (.inl (C.cell y hy).1)
      refine ⟨hy, ?_⟩
      rw [h2, hc] <;> rfl
  have fr : ∀ y c, y ∈ caps → X.env.cells.lookup y = some c → c ∉ frs X.stack := fun y c hy e hb => by
    have ge : X.s_0.heap.objs.size ≤ c := I.ok.cab y c (C.cell y hy).2 e
    have out : c ∉ X.fs := fun hb => by
      obtain ⟨_, o, ho, _⟩ := I.ok.funs.mem hb
      exact absurd (Nat.lt_of_lt_of_le (Heap.lt_size ho) ge) (Nat.lt_irrefl _)
    rcases I.ok.stk with z | ⟨z, z2⟩
    · rw [z] at hb; exact out hb
    · rw [z] at hb
      simp only [frs, List.filterMap_cons, z2, List.mem_cons] at hb
      rcases hb with hb | hb
      · exact I.cne y c e hb
      · exact out hb
  refine ⟨⟨by rw [C.len, hl], fun x y c e1 e2 => I.ok.inj x y c (cm e1).2 (cm e2).2, fun y hy => ?_, fun y c e => ⟨I.freeC y c (cm e).2, I.cell y c (cm e).2⟩, fun i y v c e1 e2 e3 => ?_⟩, fun y c e => ⟨I.freeC y c (cm e).2, fr y c (cm e).1 (cm e).2⟩⟩
  · rw [C.cells]
    exact mem_lookup (cloFrom_has (cells := X.env.cells) (acc := []) (C.free y hy))
  · have hi : i < ix.length := by rw [← hl]; exact (List.getElem?_eq_some_iff.mp e2).1
    have hj := List.getElem?_eq_getElem hi
    have hN := C.at_ i y _ e1 hj
    have hσ := hv i _ v hj e2
    obtain ⟨m, hn, look⟩ := I.loc
    have hk := (C.cell y (List.mem_of_getElem? e1)).1
    obtain ⟨u, ru, q⟩ := look _ y v hN hσ (.inr (.inl hk))
    refine ⟨u, ru, ?_⟩
    rcases q with ⟨k', _⟩ | ⟨_, c3, e', z⟩
    · rw [hk] at k'; cases k'
    · rw [(cm e3).2] at e'; cases e'; exact z
theorem callOk_of {W : Wd X.K} {k : Clo} {caps ps : List Str} {ix : List Nat} {vc : List V} {dc : List D} {lv : Nat} {te : DTE} (I : Inv X pins σ H s) (LB : LamB X.prog X.w X.K X.mg X.base caps ps k lv te) (C : CapAt X k caps ix) (hl : vc.length = ix.length)
    (hv : ∀ (i j : Nat) (v : V), ix[i]? = some j → vc[i]? = some v → σ[j]? = some (some v)) (rc : Rps W B vc dc) : CallOk X.prog X.w X.K X.mg (part s.heap (restP X.stack H)) W B (lv + 1) k (lamBeh ps.length dc te) := by
  obtain ⟨CO, CR0⟩ := cap_cells I C hl hv
  intro A outer s1 H1 a c us vs Q E hr e0 ha hc rv ⟨B1, ds, Qd, Ed, sb, g, rps, ⟨hn, ht⟩, k1, k2⟩
  have m0 := I.env0
  have e1 := env0_less e0 m0.mod (sub_base m0) (by rw [part_size]; exact m0.bsz)
  obtain ⟨pm, ctv, of1⟩ := (e0.hok a _ ha).1
  obtain ⟨oc, vs', t, hoc, hdc, hvc⟩ := (e0.hok c _ hc).1
  have L := LB.L
  have hus : us.length = ps.length := by rw [← rv.length, rps.length, hn]
  have CO1 : CellsOk k caps vc H1 s1.heap := by
    have kc : ∀ y c, k.cells.lookup y = some c → ∀ o, s.heap.get? c = some o → s1.heap.get? c = some o ∧ H1 c = none := fun y c e o ho => e0.bs c o (part_in ho (CR0 y c e))
    refine ⟨CO.len, CO.inj, CO.has, fun y c e => ?_, fun i y v c a b d => ?_⟩
    · obtain ⟨_, v, o, ho, hd⟩ := CO.ok y c e
      obtain ⟨z1, z2⟩ := kc y c e o ho
      exact ⟨z2, v, o, z1, hd⟩
    · obtain ⟨u, ru, o, ho, hd⟩ := CO.val i y v c a b d
      exact ⟨u, ru, o, (kc y c d o ho).1, hd⟩
  refine PySem.W.kla_callFunE hr.depth of1 rfl L.co L.gen rfl ⟨c, oc, vs', t, rfl, hoc, hdc, hvc⟩ ?_
  rw [LB.bind _ _ _ us hus]
  refine wpAny_pure (wpAny_newFunctionEnv (fun y hy => L.cell y hy) (fun y hy => ?_) (fun h₁ hns hsb => ⟨(e1.mod.nolimit.keeps fun b o e => (e1.bs b o e).1).fresh _ hsb, ?_⟩) L.kind)
  · obtain ⟨y1, y2⟩ := y
    exact L.par y1 (List.of_mem_zip hy).1
  show codeAny _ _ (.expr k.body (lamE k s1.heap.objs.size a c)) _ _
  have kp : ∀ b o, s1.heap.get? b = some o → h₁.get? b = some o := fun b o e => hsb.extBut b o (Nat.ne_of_lt (Heap.lt_size e)) (Heap.get?_push_of_some _ e)
  have J := lam_inv (E := E) (f := a) (c := c) (tk := s1.toks + (ps.zip us).length) L e1 hr.hd CO1 rv hus hns kp
  have hrp : Rps W B1 (vc ++ vs) (dc ++ ds) := rps_append (rc.mono sb) rps
  have hlen : (caps ++ ps).length = (dc ++ ds).length := by rw [← hrp.length, List.length_append, List.length_append, CO.len, rps.length, hn]
  have est : startD (caps ++ ps).length (dc ++ ds) = (dc ++ ds).map .im := by
    unfold startD
    rw [hlen, Nat.sub_self, List.replicate_zero, List.append_nil]
  have dr : DR (⟨W, H1, B1, E, Ed, k2⟩ : Gx X.K) ((dc ++ ds).map .im) (L2.start (caps ++ ps) (vc ++ vs)) H1 B1 := by
    rw [← est]
    exact ⟨g, _, Sls.start hrp⟩
  refine PySem.W.kla_codeExpr (wpAny_mono ((LB.body W a c A outer s1 H1 B1 E Ed k2 (hr.deeper _)).run [] _ _ H1 Q J ⟨_, B1, _, dr, ht, fun d Δ' v H' B' q r' _ rp => k1 d v H' B' q r'.gr rp⟩) (fun v s' hq => ?_) fun e s' hq => hq)
  obtain ⟨w', H', J', rv', q⟩ := hq
  exact ⟨w', H', J'.os, J'.bare, J'.base, J'.hok, rv', q⟩
end
/-! ### defs that are handed lambdas -/
section
variable {P : Program} {w : World} {K : PySem.W.Frag} {mg : Str → Option Value} {base : Heap} {W : Wd K} {Bm : Hp} {lv : Nat} {k : Clo} {beh : SpD}
theorem callOk_more {base' : Heap} {Bm' : Hp} {lv' : Nat} (c : CallOk P w K mg base W Bm lv k beh) (m : Mod K mg base) (kb : ∀ b o, base.get? b = some o → base'.get? b = some o) (hz : base.objs.size ≤ base'.objs.size) (sb : Sub Bm Bm') (hl : lv ≤ lv') : CallOk P w K mg base' W Bm' lv' k beh :=
  fun A outer s H a c0 us vs Q E hr e0 ha hc rv ⟨B, ds, Qd, Ed, sb1, q⟩ => c A outer s H a c0 us vs Q E (hr.mono hl) (env0_less e0 m kb hz) ha hc rv ⟨B, ds, Qd, Ed, sb.trans sb1, q⟩
theorem callOk_or {beh' : SpD} (c : CallOk P w K mg base W Bm lv k beh) (d : CallOk P w K mg base W Bm lv k beh') : CallOk P w K mg base W Bm lv k (fun ds Q E => beh ds Q E ∨ beh' ds Q E) :=
  fun A outer s H a c0 us vs Q E hr e0 ha hc rv ⟨B, ds, Qd, Ed, sb1, g, r, h, k1, k2⟩ => h.elim (fun h => c A outer s H a c0 us vs Q E hr e0 ha hc rv ⟨B, ds, Qd, Ed, sb1, g, r, h, k1, k2⟩) fun h => d A outer s H a c0 us vs Q E hr e0 ha hc rv ⟨B, ds, Qd, Ed, sb1, g, r, h, k1, k2⟩
theorem callOk_no : CallOk P w K mg base W Bm lv k (fun _ _ _ => False) := fun _ _ _ _ _ _ _ _ _ _ _ _ _ _ _ ⟨_, _, _, _, _, _, _, h, _⟩ => h.elim
end
abbrev SpF := (Clo → SpD) → SpD
structure CalF (P : Program) (w : World) (K : PySem.W.Frag) (mg : Str → Option Value) (k lv : Nat) (x : Str) (ps : List Str) (sp : SpF) : Prop where
  ex : ∃ f fd, mg x = some (.ref f) ∧ PySem.W.keepIn K (.ref f) = true ∧ Binds K fd ps [] ∧ ∀ (base : Heap) (W : Wd K) (Bm : Hp) (beh : Clo → SpD), Mod K mg base → (∀ clo, CallOk P w K mg base W Bm lv clo (beh clo)) → FnOk P w K mg base (L2.CX P w) k f fd ps (upSpB W Bm (sp beh))
/-- a lambda of the maker's: its text, where what it captures stands -/
structure LamD where
  k : Clo
  caps : List Str
  ps : List Str
  ix : List Nat
  te : DTE
/-- what calling does: of what was handed in, of the maker's own -/
def behs (b0 : Clo → SpD) : List LamD → List (List D) → Clo → SpD
  | l :: ls, dc :: dcs, clo => fun ds Q E => (clo = l.k ∧ lamBeh l.ps.length dc l.te ds Q E) ∨ behs b0 ls dcs clo ds Q E
  | _, _, clo => b0 clo
def noBeh : Clo → SpD := fun _ _ _ _ => False
def imss (Δ : List Sl) : List LamD → Option (List (List D))
  | [] => some []
  | l :: ls => match DL.ims Δ l.ix, imss Δ ls with
    | some d, some ds => some (d :: ds)
    | _, _ => none
def dFnF (sp : SpF) (b0 : Clo → SpD) (ls : List LamD) (ta : DTA) : DTE := fun Δ Q E => ta Δ (fun ds Δ1 => ∃ dcs, imss Δ1 ls = some dcs ∧ sp (behs b0 ls dcs) ds (fun d => Q d Δ1) E) E
section
variable {X : Cx} {G : Gx X.K} {pins : List (Addr × Obj)} {σ : L2.St} {H B : Hp} {s : Shared} {pos : Pos}
theorem behs_ok {Bm0 : Hp} {b0 : Clo → SpD} {lv : Nat} (I : Inv X pins σ H s) {Δ : List Sl} (r : DR G Δ σ H B) (EV : ∀ clo, CallOk X.prog X.w X.K X.mg X.base G.W Bm0 lv clo (b0 clo)) (sb : Sub Bm0 G.B0) :
    ∀ {ls : List LamD} {dcs : List (List D)}, (∀ l ∈ ls, ∃ lv', lv' + 1 ≤ lv ∧ LamB X.prog X.w X.K X.mg X.base l.caps l.ps l.k lv' l.te ∧ CapAt X l.k l.caps l.ix) → imss Δ ls = some dcs →
      ∀ clo, CallOk X.prog X.w X.K X.mg (part s.heap (restP X.stack H)) G.W B lv clo (behs b0 ls dcs clo)
  | [], _, _, h, clo => by
    cases h
    exact callOk_more (EV clo) I.ok.mod (sub_base I.env0) (by rw [part_size]; exact I.env0.bsz) (sb.trans r.gr.bas) (Nat.le_refl _)
  | l :: ls, _, hl, h, clo => by
    simp only [imss] at h
    split at h
    · rename_i d ds e1 e2
      cases h
      obtain ⟨lv', h1, LB, C⟩ := hl l List.mem_cons_self
      obtain ⟨vc, h2, h3, h4⟩ := DR.ims r e1
      have own := callOk_more (lv' := lv) (callOk_of (W := G.W) (B := B) I LB C h2 h3 h4) (mod_more I.env0.mod (sub_base I.env0)) (fun _ _ e => e) (Nat.le_refl _) (Sub.refl B) h1
      refine callOk_or ?_ (behs_ok I r EV sb (fun l' hl' => hl l' (List.mem_cons_of_mem _ hl')) e2 clo)
      intro A outer s2 H2 a c us vs Q E hr e0 ha hc rv ⟨B2, ds2, Qd, Ed, sb2, g, rps, ⟨ek, hb⟩, k1, k2⟩
      subst ek
      exact own A outer s2 H2 a c us vs Q E hr e0 ha hc rv ⟨B2, ds2, Qd, Ed, sb2, g, rps, hb, k1, k2⟩
    · cases h
theorem ev_no {base : Heap} {W : Wd X.K} {Bm : Hp} {lv : Nat} : ∀ clo, CallOk X.prog X.w X.K X.mg base W Bm lv clo (noBeh clo) := fun _ => callOk_no
/-- f(e, ..), lambdas among the arguments -/
theorem de_calF {k lv : Nat} {ps : List Str} {sp : SpF} {x : Str} {p : Pos} {e : Expr} {es : List Expr} {ta : DTA} {b0 : Clo → SpD} {Bm0 : Hp} {ls : List LamD} (c : CalF X.prog X.w X.K X.mg k lv x ps sp) (hr : Room k X.A) (hx : Passes (L2.CX X.prog X.w) X G.E)
    (EV : ∀ clo, CallOk X.prog X.w X.K X.mg X.base G.W Bm0 lv clo (b0 clo)) (sb : Sub Bm0 G.B0) (hls : ∀ l ∈ ls, ∃ lv', lv' + 1 ≤ lv ∧ LamB X.prog X.w X.K X.mg X.base l.caps l.ps l.k lv' l.te ∧ CapAt X l.k l.caps l.ix) (ha : PA X (e :: es) (upA G ta)) (hg : Gl X x := by rfl) (hdb : (x == ("__debug__" : Str)) = false := by decide)
    (he : starEach (e :: es) X.env = (false, eval e X.env) :: starEach es X.env := by rfl) (hpl : (backTo pos (starEach es X.env)).any (·.1) = false := by rfl) : PE X (.Call (.Name x p) (e :: es) [] pos) (upE G (dFnF sp b0 ls ta)) := by
  refine ⟨fun pins s σ H Q I ⟨Δ, B, Qd, r0, q0, kk⟩ => ?_⟩
  obtain ⟨f, fd, hm, hk, hb, F⟩ := c.ex
  refine wpAny_Call_Name_kw (ld_glob I hg hm ?_ hdb)
  refine PySem.W.callWith_K (h₀ := X.base) I.ok.mod.kin hk (thn (ha.run pos pins s σ H (fun vs H1 => ∃ Δ1 B1 ds, DR G Δ1 σ H1 B1 ∧ Sub B B1 ∧ Rps G.W B1 vs ds ∧ ∃ dcs, imss Δ1 ls = some dcs ∧ sp (behs b0 ls dcs) ds (fun d => Qd d Δ1) G.Ed) I
    ⟨Δ, B, _, r0, q0, fun ds Δ1 vs H1 B1 qd r1 s1 rp => ⟨Δ1, B1, ds, r1, s1, rp, qd⟩⟩) fun us s1 ⟨vs, H1, I1, r, Δ1, B1, ds, r1, sb1, rp, dcs, e1, hsp⟩ => ⟨I1.kIn, ?_⟩) he hpl
  have FF := F (part s1.heap (restP X.stack H1)) G.W B1 (behs b0 ls dcs) (mod_more I1.env0.mod (sub_base I1.env0)) (behs_ok I1 r1 EV sb hls e1)
  have pre : upSpB G.W B1 (sp (behs b0 ls dcs)) vs H1 Q G.E := ⟨B1, ds, _, _, Sub.refl B1, r1.gr.self, rp, hsp, fun d v H' B' qd g rp => kk d Δ1 v H' B' qd (r1.grow g) (sb1.trans g.bas) rp, fun C H' B' e g => G.hE C H' B' e (r1.gr.trans g)⟩
  have hl : (us ++ []).length = ps.length := by rw [List.append_nil, ← r.length]; exact FF.len _ _ _ _ pre
  have hb1 := hb s1 us I1.kIn hl
  rw [List.append_nil] at hb1
  show wpAny _ _ (call (.ref f) us) _ _ _
  refine wpAny_call (codeAny_mono (FF.run X.A X.stack s1 H1 ⟨us, []⟩ us vs Q G.E hr (env0_part I1.env0) hb1 r pre) fun r s' hq => ?_)
  cases r with
  | error e => exact hx pins σ H1 s1 e s' I1 hq
  | ok fl =>
    cases fl with
    | ret u => exact I1.after hq
    | next => exact False.elim hq
    | brk => exact False.elim hq
    | cont => exact False.elim hq
/-! ### a parameter that is a lambda, called -/
def dCallF (i : Nat) (b : Clo → SpD) (ta : DTA) : DTE := fun Δ Q E => ∃ clo, Δ[i]? = some (.im (.fn clo)) ∧ ta Δ (fun ds Δ1 => b clo ds (fun d => Q d Δ1) E) E
theorem fn_at (I : Inv X pins σ H s) {k : Clo} {a c : Addr} (h : H a = some (FnO k c a)) : PySem.W.FnAt a s.heap := by
  obtain ⟨pm, ctv, e⟩ := (I.hok a _ h).1
  exact ⟨_, _, _, _, e⟩
theorem de_callfn (i : Nat) {a : Str} {p : Pos} {e : Expr} {es : List Expr} {ta : DTA} {b : Clo → SpD} {Bm : Hp} {lv : Nat} (EV : ∀ clo, CallOk X.prog X.w X.K X.mg X.base G.W Bm lv clo (b clo)) (sb : Sub Bm G.B0) (hr : Room lv X.A) (hx : Passes (L2.CX X.prog X.w) X G.E) (ha : PA X (e :: es) (upA G ta))
    (hN : X.N[i]? = some a := by rfl) (hv : Vis X.env.scope a := by first | exact Or.inl rfl | exact Or.inr (Or.inl rfl) | exact Or.inr (Or.inr rfl)) (hd : (a == ("__debug__" : Str)) = false := by decide) (hcd : (a == ("__classdict__" : Str)) = false := by decide)
    (he : starEach (e :: es) X.env = (false, eval e X.env) :: starEach es X.env := by rfl) (hpl : (backTo pos (starEach es X.env)).any (·.1) = false := by rfl) : PE X (.Call (.Name a p) (e :: es) [] pos) (upE G (dCallF i b ta)) := by
  refine ⟨fun pins s σ H Q I ⟨Δ, B, Qd, r0, ⟨clo, e0, q0⟩, kk⟩ => ?_⟩
  obtain ⟨v, hσ, rv⟩ := r0.get e0
  cases rv with
  | fn f c _ hf hc =>
    refine wpAny_Call_Name_kw (thn ((pe_var (pos := p) (i := i) hN hv hd hcd).run pins s σ H (fun v H1 => v = .ref f ∧ H1 = H) I ⟨.ref f, hσ, rfl, rfl⟩) fun u s0 ⟨v, H0', I0, rr, ev, eH⟩ => ?_)
    subst ev
    subst eH
    obtain rfl : u = Value.ref f := rr
    refine PySem.W.callWith_F (fn_at I0 (r0.gr.sub _ _ hf).1) (thn (ha.run pos pins s0 σ _ (fun vs H1 => ∃ Δ1 B1 ds, DR G Δ1 σ H1 B1 ∧ Sub B B1 ∧ Rps G.W B1 vs ds ∧ b clo ds (fun d => Qd d Δ1) G.Ed) I0
      ⟨Δ, B, _, r0, q0, fun ds Δ1 vs H1 B1 qd r1 s1 rp => ⟨Δ1, B1, ds, r1, s1, rp, qd⟩⟩) fun us s1 ⟨vs, H1, I1, r, Δ1, B1, ds, r1, sb1, rp, hb⟩ => ⟨fn_at I1 (r1.gr.sub _ _ (sb1 _ _ hf)).1, ?_⟩) he hpl
    show wpAny _ _ (call (.ref f) us) _ _ _
    refine wpAny_call (codeAny_mono (EV clo X.A X.stack s1 H1 f c us vs Q G.E hr I1.env0 (r1.gr.sub _ _ (sb1 _ _ hf)).1 (r1.gr.sub _ _ (sb1 _ _ hc)).1 r
      ⟨B1, ds, _, _, sb.trans r1.gr.bas, r1.gr.self, rp, hb, fun d v H' B' qd g rp => kk d Δ1 v H' B' qd (r1.grow g) (sb1.trans g.bas) rp, fun C H' B' e g => G.hE C H' B' e (r1.gr.trans g)⟩) fun r s' hq => ?_)
    cases r with
    | error e => exact hx pins σ H1 s1 e s' I1 hq
    | ok fl =>
      cases fl with
      | ret u => exact I1.after hq
      | next => exact False.elim hq
      | brk => exact False.elim hq
      | cont => exact False.elim hq
def dCallF0 (i : Nat) (b : Clo → SpD) : DTE := fun Δ Q E => ∃ clo, Δ[i]? = some (.im (.fn clo)) ∧ b clo [] (fun d => Q d Δ) E
theorem de_callfn0 (i : Nat) {a : Str} {p : Pos} {b : Clo → SpD} {Bm : Hp} {lv : Nat} (EV : ∀ clo, CallOk X.prog X.w X.K X.mg X.base G.W Bm lv clo (b clo)) (sb : Sub Bm G.B0) (hr : Room lv X.A) (hx : Passes (L2.CX X.prog X.w) X G.E)
    (hN : X.N[i]? = some a := by rfl) (hv : Vis X.env.scope a := by first | exact Or.inl rfl | exact Or.inr (Or.inl rfl) | exact Or.inr (Or.inr rfl)) (hd : (a == ("__debug__" : Str)) = false := by decide) (hcd : (a == ("__classdict__" : Str)) = false := by decide) :
    PE X (.Call (.Name a p) [] [] pos) (upE G (dCallF0 i b)) := by
  refine ⟨fun pins s σ H Q I ⟨Δ, B, Qd, r0, ⟨clo, e0, q0⟩, kk⟩ => ?_⟩
  obtain ⟨v, hσ, rv⟩ := r0.get e0
  cases rv with
  | fn f c _ hf hc =>
    refine wpAny_Call_Name_kw (thn ((pe_var (pos := p) (i := i) hN hv hd hcd).run pins s σ H (fun v H1 => v = .ref f ∧ H1 = H) I ⟨.ref f, hσ, rfl, rfl⟩) fun u s0 ⟨v, H0', I0, rr, ev, eH⟩ => ?_)
    subst ev
    subst eH
    obtain rfl : u = Value.ref f := rr
    refine PySem.W.callWith_F0 (fn_at I0 (r0.gr.sub _ _ hf).1) ?_
    show wpAny _ _ (call (.ref f) []) _ _ _
    refine wpAny_call (codeAny_mono (EV clo X.A X.stack s0 _ f c [] [] Q G.E hr I0.env0 (r0.gr.sub _ _ hf).1 (r0.gr.sub _ _ hc).1 .nil
      ⟨B, [], _, _, sb.trans r0.gr.bas, r0.gr.self, .nil, q0, fun d v H' B' qd g rp => kk d Δ v H' B' qd (r0.grow g) g.bas rp, fun C H' B' e g => G.hE C H' B' e (r0.gr.trans g)⟩) fun r s' hq => ?_)
    cases r with
    | error e => exact hx pins σ _ s0 e s' I0 hq
    | ok fl =>
      cases fl with
      | ret u => exact I0.after hq
      | next => exact False.elim hq
      | brk => exact False.elim hq
      | cont => exact False.elim hq
end
section
variable {P : Program} {w : World} {K : PySem.W.Frag} {mg : Str → Option Value}
/-- THE RULE for a def that is handed lambdas -/
theorem fn_okF {x qual : Str} {st : Stmt} {f : Addr} {fd : FuncData} {N ps : List Str} {k lv : Nat} {sp : SpF} {t : (Clo → SpD) → DTS} {dvs : List V} {kws : List (Str × V)} (F : FunD K x qual (defArgs st) (defBody st) (defScope st) dvs kws f fd) (S : FnScope N ps (defScope st))
    (hbody : ∀ (base : Heap), Mod K mg base → ∀ (W : Wd K) (Bm : Hp) (beh : Clo → SpD), (∀ clo, CallOk P w K mg base W Bm lv clo (beh clo)) → ∀ (cdv : Value) (A : Around) (outer : List Env) (s : Shared) (H B : Hp) (E : XK) (Ed : EX) (hE : ∀ C H' B', Ed C → Grow W H B H' B' → E (.ref C) none H'), Sub Bm B →
      Room k (A.deeper (envOfC qual (defScope st) s.heap.objs.size f cdv)) → PSs (cxB P w K mg base N qual st f cdv A outer s H E) (defBody st) (upS (⟨W, H, B, E, Ed, hE⟩ : Gx K) (t beh)))
    (hsp : ∀ beh ds Q E, sp beh ds Q E → ds.length = ps.length ∧ t beh { nx := fun _ => Q .non, rt := Q } (startD N.length ds) E) :
    ∀ (base : Heap) (W : Wd K) (Bm : Hp) (beh : Clo → SpD), Mod K mg base → (∀ clo, CallOk P w K mg base W Bm lv clo (beh clo)) → FnOk P w K mg base (L2.CX P w) (k + 1) f fd ps (upSpB W Bm (sp beh)) := by
  intro base W Bm beh M EV
  refine fund_ok F (CX := L2.CX P w) S (fun vs H Q E ⟨B, ds, Qd, Ed, sb, g, r, h, _⟩ => r.length.trans (hsp _ _ _ _ h).1) fun cdv A outer s H vs Q E hr ⟨B, ds, Qd, Ed, sb, g, r, h, k1, k2⟩ => ?_
  refine ⟨_, hbody base M W Bm beh EV cdv A outer s H B E Ed k2 sb hr, startD N.length ds, B, _, ⟨g, _, Sls.start r⟩, (hsp _ _ _ _ h).2, fun Δ' σ' H' B' q r' sb => k1 .non .non H' B' q r'.gr .non, fun _ _ _ _ q => q.elim, fun _ _ _ _ q => q.elim, fun d v H' B' q g' sb rp => k1 d v H' B' q g' rp⟩
end
end DL
-- DLmk
set_option Elab.async false
set_option linter.all false
set_option maxRecDepth 100000
set_option maxHeartbeats 2000000
set_option autoImplicit false
namespace DL
open PySem PySem.Spec L2
open PyProof.Rows hiding St
/-! ### a lambda made: its function object is told of the heap from then on -/
section
variable {X : Cx} {pins : List (Addr × Obj)} {σ : L2.St} {H0 H : Hp} {s0 s : Shared}
theorem inv_reg {f : Addr} {φ : Heap → Prop} (I0 : Inv X pins σ H0 s0) (I : Inv X pins σ H s) (hge : s0.heap.objs.size ≤ f) (hn : H f = none) (ok : ObjOk X.prog X.w H s.heap f (.ext φ)) : Inv X pins σ (upd H f (.ext φ)) s := by
  have ne : ∀ {b : Addr} {u : HO}, H b = some u → b ≠ f := fun e => ne_of_none e hn
  have lt : ∀ {b : Addr}, b < s0.heap.objs.size → b ≠ f := fun h z => by subst z; exact Nat.lt_irrefl _ (Nat.lt_of_lt_of_le h hge)
  have b := I.base
  refine ⟨I.ok, I.os, I.bare, ⟨b.keep, b.slot, fun c o e n x => ?_, b.there, fun c xs e => ?_, fun c o u e => ?_, fun c ps e => ?_⟩, I.loc, I.cell, ?_, fun x c e => ?_, fun p hp => ?_, fun c u e => ?_, I.len⟩
  · rw [upd_ne (lt (Nat.lt_of_lt_of_le (Heap.lt_size e) I0.sz))]; exact b.free c o e n x
  · have z := b.tups c xs e
    rw [upd_ne (ne z)]; exact z
  · have z := b.frzs c o u e
    rw [upd_ne (ne z)]; exact z
  · obtain ⟨more, z⟩ := b.tbls c ps e
    exact ⟨more, by rw [upd_ne (ne z)]; exact z⟩
  · rw [upd_ne (lt I0.lt)]; exact I.free
  · obtain ⟨v, o, ho, _⟩ := I0.cell x c e
    rw [upd_ne (lt (Heap.lt_size ho))]; exact I.freeC x c e
  · obtain ⟨h1, h2, h3⟩ := I.pin p hp
    exact ⟨h1, by rw [upd_ne (lt (Heap.lt_size (I0.pin p hp).1))]; exact h2, h3⟩
  · by_cases z : c = f
    · subst z; rw [upd_same] at e; cases e; exact ok
    · rw [upd_ne z] at e
      exact (I.hok c u e).stay (fun d v _ q => q) (fun d q => by rw [upd_ne (ne q)]; exact q) fun d xs q => by rw [upd_ne (ne q)]; exact q
abbrev cloOf (X : Cx) (params : Arguments) (body : Expr) (scope : Scope) : Clo := ⟨X.env.qual ++ "<lambda>", params, body, scope, cloFrom X.env.cells scope.names []⟩
theorem lam_make3 {T : List (Addr × Str)} {c P : Addr} {params : Arguments} {body : Expr} {scope : Scope} {pos : Pos} {E : Value → Shared → Prop} {Q : Value → Shared → Prop} (I : Inv X pins σ H s) (TB : LamX.TabB X.base X.mg c P) (hcode : X.env.code = .ref c)
    (hm : (P, X.env.qual ++ "<lambda>") ∈ T) (hu : ∀ p ∈ T, p.1 = P → p.2 = X.env.qual ++ "<lambda>") (hT : LamX.Tabs T H) (hdef : defaultsOf params X.env = ([], [])) (hfree : ∀ y ∈ scope.names, y.2 = .free → ∃ c, X.env.cells.lookup y.1 = some c)
    (h : ∀ (f c' : Addr) (H1 : Hp) (s' : Shared), Inv X pins σ H1 s' → LamX.ExtN H H1 → LamX.Tabs T H1 → (∀ b o, H b = some o → H1 b ≠ none) → s.heap.objs.size ≤ f → (∃ pm ctv, s'.heap.get? f = some (PySem.W.kla_obj "<lambda>" (cloOf X params body scope).qual params body scope (cloOf X params body scope).cells pm c' ctv)) →
      H1 f = none → H1 c' = some (LamX.CodeO c' (X.env.qual ++ "<lambda>")) → (H c' = none ∨ H c' = some (LamX.CodeO c' (X.env.qual ++ "<lambda>"))) → Q (.ref f) s') :
    wpAny (model X.prog X.w) X.A (eval (.Lambda params body scope pos) X.env) Q E s := by
  obtain ⟨ps, hP, ht, ha⟩ := hT _ hm
  refine PySem.W.kla_eval hdef ?_
  have bP := TB.bm.keeps I.bk
  have hP' : s.heap.get? P = some { cls := .none, data := .fields ps } := I.hok P _ hP
  cases hc : codeAmong pos ps.toList with
  | some cv =>
    obtain ⟨c', e, hco⟩ := ha pos cv hc
    subst e
    refine PySem.W.kla_makeFunctionHit (mg := X.mg) (c := c) (P := P) (ps := ps) (closure_ok hfree) I.ok.glob (I.mod.glob.keeps I.bk) hcode (TB.code.keeps I.bk) hP' ht hc bP fun ctv h' tk hx hsz => ?_
    exact h h'.objs.size c' H _ (I.kept (t' := tk) fun b o e => Heap.get?_push_of_some _ (hx b o e)) (LamX.ExtN.refl H) hT (fun b o e => by rw [e]; simp) hsz ⟨_, ctv, Heap.get?_push_size _ rfl⟩ (I.hok.fresh hsz) hco (.inr hco)
  | none =>
    refine PySem.W.kla_makeFunction (mg := X.mg) (c := c) (P := P) (ps := ps) (closure_ok hfree) I.ok.glob (I.mod.glob.keeps I.bk) hcode (TB.code.keeps I.bk) hP' ht hc TB.gP bP fun c' ctv h' tk hx hge hlt hrec htb => ?_
    obtain ⟨c2, oc, vs, t, e2, hoc, hd, hv⟩ := hrec
    cases e2
    have hsz : s.heap.objs.size ≤ h'.objs.size := Nat.le_trans hge (Nat.le_of_lt hlt)
    have nC : H c' = none := I.hok.fresh hge
    have cP : P ≠ c' := ne_of_none hP nC
    have push : ∀ {b : Addr} {o : Obj}, h'.get? b = some o → (h'.push (PySem.W.kla_obj "<lambda>" (X.env.qual ++ "<lambda>") params body scope (cloFrom X.env.cells scope.names []) ((X.mg "__name__").getD .none) c' ctv)).get? b = some o := fun e => Heap.get?_push_of_some _ e
    have I1 := LamX.inv_table (t' := tk) (more := #[rawInt pos.line, rawInt pos.col, .ref c']) I hP (fun b o hb e => push (hx b o hb e)) (push htb) hge ⟨oc, vs, t, push hoc, hd, hv⟩
    have hE : LamX.ExtN H (upd (upd H P (.tbl (ps ++ #[rawInt pos.line, rawInt pos.col, .ref c']))) c' (LamX.CodeO c' (X.env.qual ++ "<lambda>"))) := fun b o e n => by
      rw [upd_ne (ne_of_none e nC)]
      exact (upd_ne (fun z => n ps (by rw [z, hP] at e; exact (Option.some.inj e).symm))).trans e
    have eL : (ps ++ #[rawInt pos.line, rawInt pos.col, .ref c']).toList = ps.toList ++ [rawInt pos.line, rawInt pos.col, .ref c'] := by simp
    refine h h'.objs.size c' _ _ I1 hE (fun p hp => ?_) (fun b o e => ?_) hsz ⟨_, ctv, Heap.get?_push_size _ rfl⟩ ?_ upd_same (.inl nC)
    · by_cases hb : p.1 = P
      · rw [hu p hp hb, hb]
        refine ⟨_, (upd_ne cP).trans upd_same, by rw [eL]; exact PySem.TriplesOk_snoc _ _ _ _ ht, fun p' cv hcv => ?_⟩
        rw [eL] at hcv
        rcases LamX.among_app _ ht hcv with z | z
        · obtain ⟨c0, e1, e2⟩ := ha p' cv z
          exact ⟨c0, e1, hE _ _ e2 LamX.codeO_ne⟩
        · exact ⟨c', z, upd_same⟩
      · obtain ⟨ps', a1, a2, a3⟩ := hT p hp
        refine ⟨ps', ((upd_ne (ne_of_none a1 nC)).trans (upd_ne hb)).trans a1, a2, fun p' cv hcv => ?_⟩
        obtain ⟨c0, e1, e2⟩ := a3 p' cv hcv
        exact ⟨c0, e1, hE _ _ e2 LamX.codeO_ne⟩
    · rw [upd_ne (ne_of_none e nC)]
      by_cases hb : b = P
      · subst hb; rw [upd_same]; simp
      · rw [upd_ne hb, e]; simp
    · have n1 : h'.objs.size ≠ c' := Nat.ne_of_gt hlt
      have n2 : h'.objs.size ≠ P := Nat.ne_of_gt (Nat.lt_of_lt_of_le (Heap.lt_size hP') hsz)
      exact ((upd_ne n1).trans (upd_ne n2)).trans (I.hok.fresh hsz)
end
/-- what making lambdas asks of the place: the code object, its table -/
structure LamMk (X : Cx) (T : List (Addr × Str)) : Prop where
  ex : ∃ c P, LamX.TabB X.base X.mg c P ∧ X.env.code = .ref c ∧ (P, X.env.qual ++ "<lambda>") ∈ T ∧ ∀ p ∈ T, p.1 = P → p.2 = X.env.qual ++ "<lambda>"
section
variable {X : Cx} {G : Gx X.K} {pos : Pos}
theorem de_lam {params : Arguments} {body : Expr} {scope : Scope} (M : LamMk X G.W.T) (hdef : defaultsOf params X.env = ([], []) := by rfl) (hf : ∀ y ∈ scope.names, y.2 = .free → X.env.kindOf y.1 = some .cell ∨ X.env.kindOf y.1 = some .free := by decide) :
    PE X (.Lambda params body scope pos) (upE G (dC (.fn (cloOf X params body scope)))) := by
  refine ⟨fun pins s σ H Q I ⟨Δ, B, Qd, r, q, kk⟩ => ?_⟩
  obtain ⟨c, P, TB, hcode, hm, hu⟩ := M.ex
  refine lam_make3 I TB hcode hm hu (G.W.tabs r.wok) hdef (fun y hy e => I.ok.has _ (hf y hy e)) fun f c' H1 s' I1 hE hT dm hge ⟨pm, ctv, hobj⟩ hfn hc' hcn => ?_
  have okf : ObjOk X.prog X.w H1 s'.heap f (FnO (cloOf X params body scope) c' f) := ⟨⟨pm, ctv, hobj⟩, ⟨_, hobj⟩, fun h1 h2 ⟨pm, ctv, e⟩ k => ⟨pm, ctv, k _ e⟩⟩
  have I2 := inv_reg I I1 hge hfn okf
  have wok1 : G.W.ok H1 := G.W.lam r.wok hE hT
  have nfc : ∀ o, Solid G.W f o ∨ True := fun _ => .inr True.intro
  have fH : H f = none := I.hok.fresh hge
  have cf : c' ≠ f := ne_of_none hc' hfn
  -- what is told of the heap: the old, the code object, the function
  have codeS : Solid G.W c' (LamX.CodeO c' (X.env.qual ++ "<lambda>")) → True := fun _ => True.intro
  have sol : ∀ a o, H1 a = some o → (∀ ps, o ≠ .tbl ps) → ¬ G.W.fv a → Solid G.W a o := fun a o _ h1 h2 => ⟨h1, h2⟩
  have nfv : ¬ G.W.fv c' := by
    intro z
    rcases hcn with e | e
    · obtain ⟨o, e2⟩ := G.W.th r.wok z
      rw [e] at e2; cases e2
    · exact absurd z (G.W.fvx r.wok e)
  have nff : ¬ G.W.fv f := fun z => by
    obtain ⟨o, e2⟩ := G.W.th r.wok z
    rw [fH] at e2; cases e2
  have hb : ∀ a o, B a = some o → H1 a = some o := fun a o e => by
    obtain ⟨h1, h2⟩ := r.gr.sub a o e
    exact hE a o h1 h2.1
  have g1 : Grow G.W H B H1 (upd B c' (LamX.CodeO c' (X.env.qual ++ "<lambda>"))) := by
    refine ⟨fun a o e S => hE a o e S.1, fun a e => ?_, fun a o e => ?_, fun a e => ?_, fun a o e => ?_, wok1⟩
    · cases z : H a with
      | none => exact absurd z e
      | some o => exact dm a o z
    · by_cases z : a = c'
      · subst z; rw [upd_same]; rw [← hc']; exact (hb a o e).symm ▸ rfl
      · rw [upd_ne z]; exact e
    · by_cases z : a = c'
      · subst z
        rcases hcn with e | e
        · exact .inr (.inl e)
        · exact .inr (.inr ⟨_, e, fun z => z⟩)
      · rw [upd_ne z] at e; exact .inl e
    · by_cases z : a = c'
      · subst z; rw [upd_same] at e; cases e; exact ⟨hc', fun ps => LamX.codeO_ne ps, nfv⟩
      · rw [upd_ne z] at e; exact ⟨hb a o e, (r.gr.sub a o e).2⟩
  have g2 := g1.trans (g1.alloc (o := FnO (cloOf X params body scope) c' f) hfn (fun ps z => by cases z))
  refine ⟨.ref f, _, I2, rfl, kk _ Δ _ _ _ q (r.grow g2) g2.bas (.fn f c' _ upd_same ?_)⟩
  rw [upd_ne cf, upd_same]
end
end DL
-- DLtry
set_option Elab.async false
set_option linter.all false
set_option maxRecDepth 100000
set_option maxHeartbeats 2000000
set_option autoImplicit false
namespace DL
open PySem PySem.Spec L2
open PyProof.Rows hiding St
/-! ### try: .. except X as n: .., the error told of the heap from then on -/
/-- the object of an exception, by its class and its dict -/
def ExX (cls : Value) (d : Option Addr) (a : Addr) : HO := .ext fun h => ∃ o, h.get? a = some o ∧ L2.Zc cls d o ∧ ∃ vs, o.data = .fields vs
/-- what the clause wishes: it is caught, and the suite goes on to the end -/
def wReg (K : PySem.W.Frag) (c : Value) (i : Nat) (ts : Addr → Value → Option Addr → TS) (D : Ends) : WX := fun cls d σ H => PySem.W.exmOne K cls c = some true ∧
  ∀ a, H a = none → ts a cls d { nx := fun σ' H' => H' a = none → D.nx (σ'.set i none) (upd H' a (ExX cls d a)), rt := fun _ _ => False, bk := fun _ _ => False, ct := fun _ _ => False } (σ.set i (some (.ref a))) H
section
variable {X : Cx} {x n : Str} {c : Value} {i : Nat} {body suite : List Stmt} {b₀ : Stmt} {np pos pos' : Pos} {tb : WX → TS} {ts : Addr → Value → Option Addr → TS}
theorem inv_regN {pins : List (Addr × Obj)} {σ : L2.St} {H : Hp} {s : Shared} {f : Addr} {φ : Heap → Prop} (I : Inv X pins σ H s) (h0 : X.s_0.heap.get? f = none) (hn : H f = none) (hl : f ≠ X.env.locals) (hc : ∀ v, ¬ s.heap.IsCell f v) (hp : ∀ p ∈ X.pn ++ pins, p.1 ≠ f) (ok : ObjOk X.prog X.w H s.heap f (.ext φ)) : Inv X pins σ (upd H f (.ext φ)) s := by
  have ne : ∀ {b : Addr} {u : HO}, H b = some u → b ≠ f := fun e => ne_of_none e hn
  have b := I.base
  refine ⟨I.ok, I.os, I.bare, ⟨b.keep, b.slot, fun c o e n x => ?_, b.there, fun c xs e => ?_, fun c o u e => ?_, fun c ps e => ?_⟩, I.loc, I.cell, ?_, fun x c e => ?_, fun p hp' => ?_, fun c u e => ?_, I.len⟩
  · rw [upd_ne (fun z => by rw [z, h0] at e; cases e)]; exact b.free c o e n x
  · rw [upd_ne (ne (b.tups c xs e))]; exact b.tups c xs e
  · rw [upd_ne (ne (b.frzs c o u e))]; exact b.frzs c o u e
  · obtain ⟨more, z⟩ := b.tbls c ps e
    exact ⟨more, by rw [upd_ne (ne z)]; exact z⟩
  · rw [upd_ne (fun z => hl z.symm)]; exact I.free
  · rw [upd_ne (fun z => by obtain ⟨v, q⟩ := I.cell x c e; rw [z] at q; exact hc v q)]; exact I.freeC x c e
  · obtain ⟨h1, h2, h3⟩ := I.pin p hp'
    exact ⟨h1, by rw [upd_ne (hp p hp')]; exact h2, h3⟩
  · by_cases z : c = f
    · subst z; rw [upd_same] at e; cases e; exact ok
    · rw [upd_ne z] at e
      exact (I.hok c u e).stay (fun d v _ q => q) (fun d q => by rw [upd_ne (ne q)]; exact q) fun d xs q => by rw [upd_ne (ne q)]; exact q
theorem ps_try_reg (hs : X.stack = X.env :: X.outer) (hf : X.env.frame = some X.env.locals) (hex : X.ex = []) (hN : X.N.Nodup) (hi : X.N[i]? = some n) (hln : X.env.kindOf n = some .local) (hc : Names X x c) (hb : ∀ (W : WX) (pn : List (Addr × Obj)) (xe : Value → Shared → Prop), Takes (X.tr pn xe) W → PassesOwn (model X.prog X.w) X.A X.env xe → PSs (X.tr pn xe) body (tb W))
    (hsu : ∀ (a : Addr) (oe : Obj) (cls : Value) (d : Option Addr) (pn : List (Addr × Obj)), Zc cls d oe → (∃ vs, oe.data = .fields vs) → PSs (X.suite a ((a, oe) :: pn)) (b₀ :: suite) (ts a cls d)) :
    PS X (.Try body [.ExceptHandler (some (.Name x np)) (some n) (b₀ :: suite) pos'] [] [] pos) (fun D σ H => tb (wReg X.K c i ts D) D σ H) := by
  refine ⟨fun pins s σ H D I h => ?_⟩
  have ok := I.ok
  have hfr : X.A.frames = some (X.env :: X.outer) := ok.frames.trans (congrArg some hs)
  refine wpAny_Try_except ?_
  refine wpAny_mono ((hb (wReg X.K c i ts D) (X.pn ++ pins) (fun e s₁ => wpAny (model X.prog X.w) X.A (noteFrame e X.env) (fun _ s₂ => wpAny (model X.prog X.w) X.A (setFlight e none) (fun _ s₃ => wpAny (model X.prog X.w) X.A (handleBy e X.env [.ExceptHandler (some (.Name x np)) (some n) (b₀ :: suite) pos']) (SP X pins D) X.xe s₃) X.xe s₂) X.xe s₁)
    (fun u s' xx => ?_) PassesOwn.looking).run [] s σ H D (I.toTry _) h) (fun f s1 hsp => ?_) (fun e s1 he => he)
  · obtain ⟨a, B, sI, pins', σ', H', cls, d, rfl, J', nb, up, sky, na, os, ag, hb1, hyes⟩ := xx
    have J := J'.ofTry ok
    rw [show (X.tr (X.pn ++ pins) _).stack = X.env :: X.outer from hs] at sky
    show wpAny (model X.prog X.w) X.A (noteFrame (.ref a) X.env) _ _ _
    refine Sky.land Zc.steady hfr hf sky fun h3 fl3 up3 => ?_
    have J3 : Inv X pins σ' H' { s' with heap := h3 } := J.landed nb fl3.1 (up.trans up3) os ag
    obtain ⟨oe3, vs3, he3, hz3, hd3⟩ := fl3.there
    have nfr : a ∉ frs (X.env :: X.outer) := fun hm => by
      obtain ⟨_, o', e', hnf⟩ := fl3.2.2.1.mem hm
      rw [he3] at e'; cases e'; exact hnf _ hd3
    have nL : a ≠ X.env.locals := fun z => nfr (List.mem_filterMap.mpr ⟨X.env, List.mem_cons_self, hf.trans (congrArg some z.symm)⟩)
    have nF : a ∉ X.fs := fun hm => by
      obtain ⟨e, he, q⟩ := List.mem_filterMap.mp hm
      exact nfr (List.mem_filterMap.mpr ⟨e, List.mem_cons_of_mem _ he, q⟩)
    -- it did not stand at the entry
    have n0 : X.s_0.heap.get? a = none := by
      cases q : X.s_0.heap.get? a with
      | none => rfl
      | some o =>
        obtain ⟨o', e1⟩ := J.base.there a o q (by rw [hex]; exact List.not_mem_nil)
        have := nb a o' e1 (show a ∉ frs X.stack by rw [hs]; exact nfr)
        rw [fl3.2.1] at this; cases this
    have S3 := J3.suite he3 hd3 na nL nF
    refine wpAny_handleBy_cons (codeAny_handlers_test ?_) (by intro q; cases q)
    have LT : PySem.W.Looks (model X.prog X.w) h3 (typeOf (.ref a)) cls := fun A Q E s k q => wpAny_typeOf_ref (k _ _ he3) (by rw [hz3.1]; exact q)
    have LM := PySem.W.exm_one (M := model X.prog X.w) (J3.kIn) LT hb1
    have test : ∀ {Q E : Value → Shared → Prop}, Q c { s' with heap := h3 } → wpAny (model X.prog X.w) (X.A.mark (some (.ref a))) (eval (.Name x np) X.env) Q E { s' with heap := h3 } := fun {Q E} q => by
      obtain ⟨hg, hdbg, hm | ⟨hm, hv, hnn⟩⟩ := hc
      · exact ld_glob S3 hg hm q hdbg
      · exact ld_blt S3 hg hm hv q hnn hdbg
    refine test (LM.here (codeAny_handlers_suite_as (HandSPX.lands_againZ fl3 fun h4 fl4 up4 => ?_)))
    have J4 : Inv X pins σ' H' { s' with heap := h4 } := J.landed nb fl4.1 ((up.trans up3).trans up4) os ag
    obtain ⟨oe4, vs4, he4, hz4, hd4⟩ := fl4.there
    have S4 := J4.suite he4 hd4 na nL nF
    refine store_ok (X := X.suite a (List.cons (a, oe4) (X.pn ++ pins))) (v := .ref a) S4 hN hi (.inl hln) rfl (fun s5 S5 => ?_) (.inr hln)
    refine wpAny_mono ((hsu a oe4 cls d (X.pn ++ pins) hz4 ⟨_, hd4⟩).run [] s5 _ H' _ S5 (hyes a na)) (fun f s6 hsp => ?_) (fun _ _ z => False.elim z)
    cases f with
    | next =>
      obtain ⟨σ6, H6, S6, q6⟩ := hsp
      have J6 : Inv X ((a, oe4) :: pins) σ6 H6 s6 := ⟨ok, S6.os, S6.bare, S6.base, S6.loc, S6.cell, S6.free, S6.freeC, fun p hp => S6.pin p (by
        rcases List.mem_append.mp hp with z | z
        · exact List.mem_append_left _ (List.mem_cons_of_mem _ (List.mem_append_left _ z))
        · rcases List.mem_cons.mp z with z | z
          · rw [z]; exact List.mem_append_left _ List.mem_cons_self
          · exact List.mem_append_left _ (List.mem_cons_of_mem _ (List.mem_append_right _ z))), S6.hok, S6.len⟩
      refine gone_ok J6 hN hi hln fun s7 J7 => ?_
      obtain ⟨g1, g2, _⟩ := J7.pin (a, oe4) (List.mem_append_right _ List.mem_cons_self)
      have J8 : Inv X pins (σ6.set i none) H6 s7 := ⟨ok, J7.os, J7.bare, J7.base, J7.loc, J7.cell, J7.free, J7.freeC, fun p hp => J7.pin p ((List.mem_append.mp hp).elim (fun z => List.mem_append_left _ z) fun z => List.mem_append_right _ (List.mem_cons_of_mem _ z)), J7.hok, J7.len⟩
      -- no pin is it: at the landing it was in no ground
      have np : ∀ p ∈ X.pn ++ pins, p.1 ≠ a := fun p hp z => by
        obtain ⟨e1, _⟩ := J.pin p hp
        rw [z] at e1
        have := nb a _ e1 (show a ∉ frs X.stack by rw [hs]; exact nfr)
        rw [fl3.2.1] at this; cases this
      have reg := inv_regN (φ := fun h => ∃ o, h.get? a = some o ∧ L2.Zc cls d o ∧ ∃ vs, o.data = .fields vs) J8 n0 g2 nL (fun v ⟨o, ho, hd⟩ => by
        rw [g1] at ho; cases ho; rw [hd4] at hd; cases hd) np ⟨⟨oe4, g1, hz4, _, hd4⟩, ⟨_, g1⟩, fun h1 h2 ⟨o, e, z⟩ k => ⟨o, k o e, z⟩⟩
      exact ⟨_, _, reg, q6 g2⟩
    | brk => obtain ⟨_, _, _, q⟩ := hsp; exact q.elim
    | cont => obtain ⟨_, _, _, q⟩ := hsp; exact q.elim
    | ret u => obtain ⟨_, _, _, _, _, q⟩ := hsp; exact q.elim
  · cases f with
    | ret u =>
      obtain ⟨v, σ', H', J', r, q⟩ := hsp
      exact ⟨v, σ', H', J'.ofTry ok, r, q⟩
    | next =>
      obtain ⟨σ', H', J', q⟩ := hsp
      exact wpAny_execs_nil ⟨σ', H', J'.ofTry ok, q⟩
    | brk =>
      obtain ⟨σ', H', J', q⟩ := hsp
      exact ⟨σ', H', J'.ofTry ok, q⟩
    | cont =>
      obtain ⟨σ', H', J', q⟩ := hsp
      exact ⟨σ', H', J'.ofTry ok, q⟩
end
/-! ### the same, over trees: try: body / except X as n: m = n -/
def dTryAs (ok : Addr → Prop) (m : Nat) (tb : DTS) : DTS := fun N Δ E => m < Δ.length ∧ tb N Δ fun C => ok C ∧ N.nx ((List.replicate Δ.length Sl.un).set m (.im (.exc C)))
theorem un_dr {K : PySem.W.Frag} {G : Gx K} {H B : Hp} (g : Grow G.W G.H0 G.B0 H B) {m : Nat} {v : V} {d : D} {σ : L2.St} (r : Rp G.W B v d) (hm : m < σ.length) (hv : σ[m]? = some (some v)) : DR G ((List.replicate σ.length Sl.un).set m (.im d)) σ H B := by
  refine ⟨g, fun _ => [], by simp, fun j s e => ?_, fun _ _ _ z => (by cases z), fun _ _ z => (by cases z)⟩
  by_cases hj : j = m
  · subst hj
    rw [List.getElem?_set_self (by simpa using hm)] at e
    cases e
    exact ⟨_, hv, .im _ _ r⟩
  · rw [List.getElem?_set_ne (Ne.symm hj), List.getElem?_replicate] at e
    split at e
    · cases e
      rename_i hl
      exact ⟨σ[j], List.getElem?_eq_getElem hl, .un _⟩
    · cases e
section
variable {X : Cx} {G : Gx X.K} {pos : Pos}
theorem ds_try {x n y : Str} {c : Value} {i m : Nat} {body : List Stmt} {np pos' p1 p2 spos : Pos} {ok : Addr → Prop} {tb : DTS} (hs : X.stack = X.env :: X.outer) (hf : X.env.frame = some X.env.locals) (hex : X.ex = []) (hN : X.N.Nodup) (hi : X.N[i]? = some n) (hln : X.env.kindOf n = some .local) (hc : Names X x c) (him : i ≠ m) (hm : X.N[m]? = some y) (hy : Loc X.env.scope y) (hv : Vis X.env.scope n)
    (hd : (n == ("__debug__" : Str)) = false) (hcd : (n == ("__classdict__" : Str)) = false) (hfy : X.fn y = true ∨ X.env.scope.names.lookup y = some .local) (hok : ∀ C, ok C → PySem.W.exmOne X.K (.ref C) c = some true)
    (hb : ∀ (pn : List (Addr × Obj)) (xe : Value → Shared → Prop) (B0 : Hp) (E' : XK) (Ed' : EX) (hE' : ∀ C H' B', Ed' C → Grow G.W G.H0 B0 H' B' → E' (.ref C) none H'), Sub G.B0 B0 → Passes (L2.CX X.prog X.w) (X.tr pn xe) E' → PSs (X.tr pn xe) body (upS (⟨G.W, G.H0, B0, E', Ed', hE'⟩ : Gx X.K) tb)) :
    PS X (.Try body [.ExceptHandler (some (.Name x np)) (some n) [.Assign [.Name y p1] (.Name n p2) spos] pos'] [] [] pos) (upS G (dTryAs ok m tb)) := by
  refine ⟨fun pins s σ H D I ⟨Δ, B, N, r, ⟨hml, ht⟩, k1, k2, k3, k4⟩ => ?_⟩
  have hP := ps_try_reg (b₀ := .Assign [.Name y p1] (.Name n p2) spos) (suite := []) (pos := pos) (pos' := pos') (np := np) (tb := fun W D σ H => ∃ (B0 : Hp) (Ed' : EX) (hE' : ∀ C H' B', Ed' C → Grow G.W G.H0 B0 H' B' → (fun cls d H' => ∀ σ : L2.St, σ.length = X.N.length → W cls d σ H') (.ref C) none H'), Sub G.B0 B0 ∧ upS (⟨G.W, G.H0, B0, fun cls d H' => ∀ σ : L2.St, σ.length = X.N.length → W cls d σ H', Ed', hE'⟩ : Gx X.K) tb D σ H)
    (ts := fun a cls d => tAsg (tVar i) (gName m)) hs hf hex hN hi hln hc (fun W pn xe tk _ => ⟨fun pins s σ H D I ⟨B0, Ed', hE', sb, q⟩ => (hb pn xe B0 _ Ed' hE' sb (fun pins σ H s e s' I c => tk e s' (XE.of_call I (fun cls d H' h => h σ I.len) c))).run pins s σ H D I q⟩)
    (fun a oe cls d pn _ _ => pss_one (ps_set (pos := spos) hN hm hy (pe_var hi hv hd hcd) rfl hfy))
  have gB : Grow G.W G.H0 B H B := ⟨r.gr.ext, r.gr.dom, Sub.refl B, fun _ h => .inl h, r.gr.sub, r.gr.wok⟩
  have re : ∀ {H' B' : Hp}, Grow G.W G.H0 B H' B' → Grow G.W G.H0 G.B0 H' B' := fun {H' B'} g => ⟨g.ext, g.dom, r.gr.bas.trans g.bas, fun a h => (g.new a h).elim (fun z => r.gr.new a z) .inr, g.sub, g.wok⟩
  have hil : i < X.N.length := (List.getElem?_eq_some_iff.mp hi).1
  have hmN : m < X.N.length := (List.getElem?_eq_some_iff.mp hm).1
  obtain ⟨fp, S⟩ := r.sl
  have hΔ : Δ.length = X.N.length := S.len.trans I.len
  refine hP.run pins s σ H D I ⟨B, fun C => ok C ∧ N.nx ((List.replicate Δ.length Sl.un).set m (.im (.exc C))), fun C H' B' ⟨oC, q⟩ g σ' hl => ⟨hok C oC, fun a na => ?_⟩, r.gr.bas, Δ, B, N, ⟨gB, fp, ⟨S.len, S.at_, S.dj, S.ou⟩⟩, ht, ?_, ?_, ?_, ?_⟩
  · refine ⟨.ref a, by rw [List.getElem?_set_self (by omega)], fun nH => ?_⟩
    have g2 := g.trans (g.alloc (o := ExcO C a) na (fun ps z => by cases z))
    have r2 : DR G ((List.replicate (((σ'.set i (some (.ref a))).set m (some (.ref a))).set i none).length Sl.un).set m (.im (.exc C))) (((σ'.set i (some (.ref a))).set m (some (.ref a))).set i none) (upd H' a (ExcO C a)) (upd B' a (ExcO C a)) :=
      un_dr (v := .ref a) (re g2) (.exc a C upd_same) (by simp; omega) (by rw [List.getElem?_set_ne him, List.getElem?_set_self (by simp; omega)])
    have e : (((σ'.set i (some (.ref a))).set m (some (.ref a))).set i none).length = Δ.length := by simp [hl, hΔ]
    rw [e] at r2
    exact k1 _ _ _ _ q r2 g2.bas
  · exact fun Δ' σ' H' B' q r' sb => k1 Δ' σ' H' B' q ⟨re r'.gr, r'.sl.imp fun fp S => ⟨S.len, S.at_, S.dj, S.ou⟩⟩ sb
  · exact fun Δ' σ' H' B' q r' sb => k2 Δ' σ' H' B' q ⟨re r'.gr, r'.sl.imp fun fp S => ⟨S.len, S.at_, S.dj, S.ou⟩⟩ sb
  · exact fun Δ' σ' H' B' q r' sb => k3 Δ' σ' H' B' q ⟨re r'.gr, r'.sl.imp fun fp S => ⟨S.len, S.at_, S.dj, S.ou⟩⟩ sb
  · exact fun d v H' B' q g sb rp => k4 d v H' B' q (re g) sb rp
end
/-! ### isinstance of a caught error -/
section
variable {X : Cx}
def rIsEx (K : PySem.W.Frag) : List V → Hp → VK → Prop := fun xs H Q => ∃ (a C C' : Addr) (b : Bool), xs = [.ref a, .ref C'] ∧ H a = some (ExcO C a) ∧ ExcC K C ∧ PySem.W.kitOne K (.ref C) (.ref C') = some b ∧ Q (.bl b) H
theorem call_isEx : CallR X (.builtin "isinstance") (rIsEx X.K) := by
  intro pins s σ H xs us Q I r h
  obtain ⟨a, D, D', b, rfl, ha, C, e, q⟩ := h
  cases r with
  | cons rx rr =>
    cases rr with
    | cons rt rr =>
      cases rr; cases rx; cases rt
      obtain ⟨oe, hget, hz, vs, hv⟩ := (I.hok a _ ha).1
      have J : PySem.W.InstAt s.heap a oe D none := by
        obtain ⟨oc, od, oda, osl⟩ := oe
        obtain ⟨h1, h2⟩ := hz
        dsimp only at h1 h2 hv
        subst h1 h2 hv
        exact ⟨hget, rfl, rfl, trivial⟩
      exact PySem.W.kia_one (PySem.W.handS_kitx_exc C.hg C.hk C.hs C.hd C.ha C.hn C.ht C.hm) I.kIn J e (fun z => nomatch z) fun tk => ⟨.bl b, H, I.kept (t' := tk) fun _ _ z => z, rfl, q⟩
/-- isinstance of errors by what isa tells of the classes -/
def rdIsE (isa : Addr → Addr → Option Bool) : List D → (Sl → Prop) → Prop
  | [.exc C, .cls C'], Q => ∃ b, isa C C' = some b ∧ Q (.im (.bl b))
  | _, _ => False
theorem rc_isE {W : Wd X.K} {isa : Addr → Addr → Option Bool} (h : ∀ C C' b, isa C C' = some b → ExcC X.K C ∧ PySem.W.kitOne X.K (.ref C) (.ref C') = some b) : RcM W (rIsEx X.K) (rdIsE isa) := by
  intro H0 B0 H B vs ds Qd Q g r hh k
  unfold rdIsE at hh
  split at hh
  · obtain ⟨b, e, q⟩ := hh
    obtain ⟨v, w, rfl, a, c⟩ := r.two
    have c2 := c.rp rfl
    have a2 := a.rp rfl
    cases c2
    cases a2 with
    | exc p C hp => exact ⟨p, _, _, b, rfl, g.sb _ _ hp, (h _ _ _ e).1, (h _ _ _ e).2, k _ _ _ _ q (.clean g (.bl _))⟩
  · exact hh.elim
@[simp] theorem sIsE {isa : Addr → Addr → Option Bool} {C C' : Addr} {Q : Sl → Prop} : rdIsE isa [.exc C, .cls C'] Q = ∃ b, isa C C' = some b ∧ Q (.im (.bl b)) := rfl
end
end DL
-- DLrepr
set_option Elab.async false
set_option linter.all false
set_option maxRecDepth 100000
set_option maxHeartbeats 2000000
set_option autoImplicit false
namespace DL
open PySem PySem.Spec L2
open PyProof.Rows hiding St
/-! ### repr of data -/
section
variable {X : Cx} {W : Wd X.K}
def rRepr (K : PySem.W.Frag) : List V → Hp → VK → Prop := fun xs H Q => ∃ (a : Addr) (d : PyData), xs = [.ref a] ∧ Dp K H (.ref a) d ∧ d.canLay0 = true ∧ d.depth ≤ 60 ∧ d.showable = true ∧ d.shown.length ≤ sizeLine ∧ Q (.str d.shown) H
theorem call_repr {k : Nat} (hr : DL.Room k X.A) : CallR X (.builtin "repr") (rRepr X.K) := by
  intro pins s σ H xs us Q I r h
  obtain ⟨a, d, rfl, hd, hl, hp, hs, hz, q⟩ := h
  rw [Vals.ref1 r]
  obtain ⟨as, rd⟩ := Dp.reads I d (.ref a) (.ref a) hd rfl
  have hu := hr.un
  exact repr_of_reads' (h₀ := s.heap) rd hs (PyData.noDict_hsm (PyData.hasDict_of_canLay d hl)) hr.gd (by omega) (fun _ _ e => e) (fun h' u tk k => ⟨.str d.shown, H, I.kept (t' := tk) k, ⟨u, rfl⟩, q⟩) hz
/-- what repr can tell -/
structure OkR (d : D) : Prop where
  py : isPy d = true
  lay : (toPy d).canLay0 = true
  dep : (toPy d).depth ≤ 60
  sh : (toPy d).showable = true
  len : (toPy d).shown.length ≤ sizeLine
def txt (d : D) : Str := (toPy d).shown
def rdRepr : List D → (Sl → Prop) → Prop
  | [.lst xs], Q => OkR (.lst xs) ∧ Q (.im (.str (txt (.lst xs))))
  | [.tup xs], Q => OkR (.tup xs) ∧ Q (.im (.str (txt (.tup xs))))
  | _, _ => False
theorem rc_repr : RcM W (rRepr X.K) rdRepr := by
  intro H0 B0 H B vs ds Qd Q g r hh k
  unfold rdRepr at hh
  split at hh
  · obtain ⟨o, q⟩ := hh
    obtain ⟨v, rfl, a⟩ := r.one
    obtain ⟨p, ws, e, _⟩ := a.lst g.sb
    subst e
    exact ⟨p, _, rfl, a.dp g.sb o.py, o.lay, o.dep, o.sh, o.len, k _ _ _ _ q (.clean g (.str _))⟩
  · obtain ⟨o, q⟩ := hh
    obtain ⟨v, rfl, a⟩ := r.one
    obtain ⟨p, ws, e, _⟩ := a.tup g.sb
    subst e
    exact ⟨p, _, rfl, a.dp g.sb o.py, o.lay, o.dep, o.sh, o.len, k _ _ _ _ q (.clean g (.str _))⟩
  · exact hh.elim
@[simp] theorem sReprL {xs : List D} {Q : Sl → Prop} : rdRepr [.lst xs] Q = (OkR (.lst xs) ∧ Q (.im (.str (txt (.lst xs))))) := rfl
@[simp] theorem sReprT {xs : List D} {Q : Sl → Prop} : rdRepr [.tup xs] Q = (OkR (.tup xs) ∧ Q (.im (.str (txt (.tup xs))))) := rfl
/-- texts compared -/
def rdNeS : D → D → (Bool → Prop) → Prop
  | .str x, .str y, Q => Q (!decide (x = y))
  | _, _, _ => False
def rdEqS : D → D → (Bool → Prop) → Prop
  | .str x, .str y, Q => Q (decide (x = y))
  | _, _, _ => False
theorem dec_v {x y : Str} : decide (V.str x = V.str y) = decide (x = y) := by by_cases h : x = y <;> simp [h]
theorem r2_neS : R2B W rNe rdNeS := by
  intro H0 B0 H B x y dx dy Qd Q g rx ry h k
  unfold rdNeS at h
  split at h
  · obtain rfl := rx.str; obtain rfl := ry.str; exact ⟨rfl, by rw [dec_v]; exact k _ h⟩
  · exact h.elim
theorem r2_eqS : R2B W rEq rdEqS := by
  intro H0 B0 H B x y dx dy Qd Q g rx ry h k
  unfold rdEqS at h
  split at h
  · obtain rfl := rx.str; obtain rfl := ry.str; exact ⟨rfl, by rw [dec_v]; exact k _ h⟩
  · exact h.elim
@[simp] theorem sNeS {x y : Str} {Q : Bool → Prop} : rdNeS (.str x) (.str y) Q = Q (!decide (x = y)) := rfl
@[simp] theorem sEqS {x y : Str} {Q : Bool → Prop} : rdEqS (.str x) (.str y) Q = Q (decide (x = y)) := rfl
end
/-! ### how long a text may be -/
structure OkS (b n : Nat) (d : D) : Prop where
  py : isPy d = true
  lay : (toPy d).canLay0 = true
  dep : (toPy d).depth ≤ n
  sh : (toPy d).showable = true
  sm : (toPy d).leavesShort 13 = true
  bk : (toPy d).bulk ≤ b
theorem OkS.okR {b n : Nat} {d : D} (h : OkS b n d) (hb : b ≤ 2 ^ 20 := by decide) (hn : n ≤ 60 := by decide) : OkR d := ⟨h.py, h.lay, Nat.le_trans h.dep hn, h.sh, PyData.shown_fits_bulk (by decide) (Nat.le_refl 13) h.sm (Nat.le_trans h.bk hb)⟩
theorem OkS.more {b n b' n' : Nat} {d : D} (h : OkS b n d) (hb : b ≤ b') (hn : n ≤ n') : OkS b' n' d := ⟨h.py, h.lay, Nat.le_trans h.dep hn, h.sh, h.sm, Nat.le_trans h.bk hb⟩
theorem okS_bl (i : Bool) : OkS 0 0 (.bl i) := ⟨rfl, rfl, Nat.zero_le _, rfl, rfl, Nat.zero_le _⟩
theorem okS_all {b n : Nat} : ∀ {xs : List D}, (∀ x ∈ xs, OkS b n x) → isPys xs = true ∧ PyData.canLayAll0 (toPys xs) = true ∧ PyData.depthAll (toPys xs) ≤ n ∧ PyData.showableAll (toPys xs) = true ∧ PyData.leavesShortAll 13 (toPys xs) = true ∧ PyData.bulkAll (toPys xs) ≤ (b + 1) * xs.length
  | [], _ => ⟨rfl, rfl, Nat.zero_le _, rfl, rfl, Nat.zero_le _⟩
  | x :: xs, h => by
    obtain ⟨a1, a2, a3, a4, a5, a6⟩ := okS_all fun y hy => h y (List.mem_cons_of_mem _ hy)
    have q := h x List.mem_cons_self
    refine ⟨by simp [isPys, q.py, a1], by simp [toPys, PyData.canLayAll0, q.lay, a2], Nat.max_le.mpr ⟨q.dep, a3⟩, by simp [toPys, PyData.showableAll, q.sh, a4], by simp [toPys, PyData.leavesShortAll, q.sm, a5], ?_⟩
    show (toPy x).bulk + 1 + PyData.bulkAll (toPys xs) ≤ (b + 1) * (xs.length + 1)
    have := q.bk
    rw [Nat.mul_add]
    omega
theorem okS_lst {b n m : Nat} {xs : List D} (h : ∀ x ∈ xs, OkS b n x) (hm : xs.length ≤ m) : OkS ((b + 1) * m) (n + 1) (.lst xs) := by
  obtain ⟨a1, a2, a3, a4, a5, a6⟩ := okS_all h
  exact ⟨a1, a2, Nat.succ_le_succ a3, a4, a5, Nat.le_trans a6 (Nat.mul_le_mul_left _ hm)⟩
theorem okS_tup {b n m : Nat} {xs : List D} (h : ∀ x ∈ xs, OkS b n x) (hm : xs.length ≤ m) : OkS ((b + 1) * m) (n + 1) (.tup xs) := by
  obtain ⟨a1, a2, a3, a4, a5, a6⟩ := okS_all h
  exact ⟨a1, a2, Nat.succ_le_succ a3, a4, a5, Nat.le_trans a6 (Nat.mul_le_mul_left _ hm)⟩
end DL
-- DLsum
set_option Elab.async false
set_option linter.all false
set_option maxRecDepth 100000
set_option maxHeartbeats 2000000
set_option autoImplicit false
namespace DL
open PySem PySem.Spec L2
open PyProof.Rows hiding St
/-! ### sum(xs, []) of a list of lists -/
abbrev Ls (h : Heap) (a : Addr) (vs : List Value) : Prop := ∃ n, PySem.IsL h a vs.toArray n
section
variable {prog : Program} {w : World} {A : Around} {R : Result → Shared → Prop} {I : Addr} {fp wr : List Addr} {n : Nat} {Pv : Nat → Value → Prop} {St : Nat → Shared → Prop}
/-- what the first i lists hold together -/
def cat (vals : Nat → List Value) : Nat → List Value
  | 0 => []
  | i + 1 => cat vals i ++ vals i
theorem sum_lists_loop (W : WalksS prog w A.in1 I fp wr (fun a b => b = a) n Pv St) (adr : Nat → Addr) (vals : Nat → List Value) (hval : ∀ i v, Pv i v → v = .ref (adr i)) (hwo : ∀ i s, St i s → ∀ b ∈ fp, ∃ o, s.heap.get? b = some o) (S : Addr) (hSf : S ∉ fp) (st0 : List Value) (hsz : ∀ i, i ≤ n → (st0 ++ cat vals i).length ≤ sizeLine) :
    ∀ (k i : Nat) (s : Shared) (T : Addr) (c : Nat), n - i = k → i ≤ n → St i s → s.heap.get? S = some { cls := .type "list", dict := none, data := .seq #[.ref T] c, slots := #[] } → T ≠ S → T ∉ wr → Ls s.heap T (st0 ++ cat vals i) → (∀ j, j < n → Ls s.heap (adr j) (vals j) ∧ adr j ≠ S ∧ adr j ∉ wr) → 
    (∀ s' T', Moved (S :: wr) (fun a b => b = a) s s' → Ls s'.heap T' (st0 ++ cat vals n) → (i = n ∧ T' = T ∨ S < T') → R (.ok (.ret (.ref T'))) s') → codeAny (model prog w) A (.builtin "sum.loop" ⟨[.ref I, .ref S, rawInt 2, rawInt 0], []⟩) R s := by
  have hSw : S ∉ wr := fun h => hSf (W.sub _ h)
  have hsub : ∀ b ∈ wr, b ∈ S :: wr := fun b hb => List.mem_cons_of_mem _ hb
  intro k
  induction k with
  | zero =>
    intro i s T c hk hi hst hS hTS hTw hT hA hR
    have hin : i = n := by omega
    subst hin
    refine codeAny_builtin F.entry_sum_loop ?_; rw [Around.under_plainId F.plain_sum_loop _]
    show wpAny _ A.in1 (seqItems? (.ref S) >>= _) _ _ s
    refine wpAny_bind (wpAny_seqItems hS rfl ?_); show wpAny _ A.in1 (tryCatch (pyNext (.ref I)) _ >>= _) _ _ s
    refine wpAny_bind (wpAny_tryCatch (W.done s _ _ hst fun s' hm => ?_))
    obtain ⟨m, hT⟩ := hT
    exact wpAny_pure (hR s' T (hm.mono hsub) ⟨m, hm.heap T _ hTw hT⟩ (.inl ⟨rfl, rfl⟩))
  | succ k ih =>
    intro i s T c hk hi hst hS hTS hTw hT hA hR
    have hlt : i < n := by omega
    refine codeAny_builtin F.entry_sum_loop ?_; rw [Around.under_plainId F.plain_sum_loop _]
    show wpAny _ A.in1 (seqItems? (.ref S) >>= _) _ _ s
    refine wpAny_bind (wpAny_seqItems hS rfl ?_); show wpAny _ A.in1 (tryCatch (pyNext (.ref I)) _ >>= _) _ _ s
    refine wpAny_bind (wpAny_tryCatch (W.item i s _ _ hlt hst fun v s' hP hst' hm => ?_))
    obtain rfl := hval i v hP
    have hS' := hm.heap S _ hSw hS
    obtain ⟨m, hT⟩ := hT
    have hT' := hm.heap T _ hTw hT
    obtain ⟨⟨ma, ha⟩, haS, haw⟩ := hA i hlt
    have ha' := hm.heap (adr i) _ haw ha
    show wpAny _ A.in1 ((holding [Value.ref (adr i)] (binaryOp .Add (.ref T) (.ref (adr i)))).attempt >>= _) _ _ _
    have hz : (st0 ++ cat vals i).toArray.size + (vals i).toArray.size ≤ sizeLine := by
      have := hsz (i + 1) hlt
      rw [show cat vals (i + 1) = cat vals i ++ vals i from rfl, ← List.append_assoc, List.length_append] at this
      simpa using this
    refine wpAny_bind (wpAny_attempt (wpAny_holding (P.add_list hT' ha' ?_ hz)))
    -- the new total
    have ltS : S < s'.heap.objs.size := Heap.lt_size hS'
    have hS1 : (s'.heap.push { cls := .type "list", data := .seq ((st0 ++ cat vals i).toArray ++ (vals i).toArray) }).get? S = some { cls := .type "list", dict := none, data := .seq #[.ref T] c, slots := #[] } := Heap.get?_push_of_some _ hS'
    show wpAny _ A.in1 (updateSeq S (fun _ => #[.ref s'.heap.objs.size]) >>= _) _ _ _
    refine wpAny_bind (wpAny_updateSeq hS1 rfl ?_)
    have hS2 := Heap.get?_update_self (Obj.mapSeq fun _ => #[Value.ref s'.heap.objs.size]) hS1 rfl
    refine wpAny_bind (wpAny_letGo ?_)
    have oth : ∀ (b : Addr) (o : Obj), b ≠ S → s'.heap.get? b = some o → (((s'.heap.push { cls := .type "list", data := .seq ((st0 ++ cat vals i).toArray ++ (vals i).toArray) }).update S (Obj.mapSeq fun _ => #[Value.ref s'.heap.objs.size])).update S (Obj.mapSeq fun _ => #[Value.ref s'.heap.objs.size])).get? b = some o := fun b o hb e =>
      (Heap.get?_update_other _ _ (fun h : S = b => hb h.symm)).trans ((Heap.get?_update_other _ _ (fun h : S = b => hb h.symm)).trans (Heap.get?_push_of_some _ e))
    have nT : s'.heap.objs.size ≠ S := Nat.ne_of_gt ltS
    have newT : Ls (((s'.heap.push { cls := .type "list", data := .seq ((st0 ++ cat vals i).toArray ++ (vals i).toArray) }).update S (Obj.mapSeq fun _ => #[Value.ref s'.heap.objs.size])).update S (Obj.mapSeq fun _ => #[Value.ref s'.heap.objs.size])) s'.heap.objs.size (st0 ++ cat vals (i + 1)) := by
      refine ⟨0, (Heap.get?_update_other _ _ nT.symm).trans ((Heap.get?_update_other _ _ nT.symm).trans ?_)⟩
      have e : (st0 ++ cat vals i).toArray ++ (vals i).toArray = (st0 ++ cat vals (i + 1)).toArray := by simp [cat, List.append_assoc]
      rw [e]
      exact Heap.get?_push_size _ rfl
    refine wpAny_bind (wpAny_updateSeq hS2 rfl (wpAny_pure ⟨plainId_quiet F.plain_sum_loop _, ih (i + 1) _ s'.heap.objs.size _ (by omega) hlt (W.frame _ s' _ _ hst' (by first | exact Nat.le_refl _ | exact Nat.le_succ _ | omega) fun b hb o e => oth b o (fun h => hSf (h ▸ hb)) e)
      (Heap.get?_update_self _ hS2 rfl) nT (fun h => ?_) newT (fun j hj => ?_) fun s'' T'' hm'' hT'' hor => ?_⟩))
    · obtain ⟨o, e⟩ := hwo _ _ hst' _ (W.sub _ h)
      exact absurd (Heap.lt_size e) (Nat.lt_irrefl _)
    · obtain ⟨⟨mj, hj1⟩, hj2, hj3⟩ := hA j hj
      exact ⟨⟨mj, oth _ _ hj2 (hm.heap _ _ hj3 hj1)⟩, hj2, hj3⟩
    · refine hR s'' T'' (Moved.trans W.gtrans ((hm.mono hsub).then_heap (by first | exact Nat.le_refl _ | exact Nat.le_succ _ | omega) fun b o hb e => oth b o (fun h => hb (by rw [h]; exact List.mem_cons_self)) e) hm'') hT'' (.inr ?_)
      rcases hor with ⟨_, e⟩ | e
      · rw [e]; exact ltS
      · exact e
end
section
variable {P : Program} {w : World} {A : Around} {E : Value → Shared → Prop} {s : Shared}
theorem cat_eq (vals : Nat → List Value) : ∀ n, cat vals n = ((List.range n).map vals).flatten
  | 0 => rfl
  | n + 1 => by rw [List.range_succ, List.map_append, List.flatten_append, ← cat_eq vals n]; simp [cat]
theorem sum_lists {x st : Addr} {items : Array Value} {adr : Nat → Addr} {vals : Nat → List Value} {st0 : List Value} {Q : Value → Shared → Prop} (hh : A.handled = none) (hx : s.heap.IsList x items) (hi : ∀ (i : Nat) (v : Value), items[i]? = some v → v = .ref (adr i)) (hs : Ls s.heap st st0) (hv : ∀ i, i < items.size → Ls s.heap (adr i) (vals i))
    (hsz : ∀ i, i ≤ items.size → (st0 ++ cat vals i).length ≤ sizeLine)
    (h : ∀ (h' : Heap) (tk : Tok) (T : Addr), (∀ b o, s.heap.get? b = some o → h'.get? b = some o) → Ls h' T (st0 ++ cat vals items.size) → (items.size = 0 ∧ T = st ∨ s.heap.objs.size ≤ T) → Q (.ref T) { s with heap := h', toks := tk }) : wpAny (model P w) A (call (.builtin "sum") [.ref x, .ref st]) Q E s := by
  refine PySem.call_function_tree F.kind_sum F.plain_sum F.entry_sum (by unfold argsOk; kernel_rfl) ?_
  unfold Builtin.«sum»
  simp only [List.length_cons, List.length_nil]
  rw [if_neg (by decide)]
  refine wpAny_bind (wpAny_of_eq (show Builtin.Builtins.bindParams "sum" ["start"] 0 { pos := [Value.ref st] } = pure [some (Value.ref st)] from rfl) ?_)
  refine wpAny_bind (wpAny_pyIter_list hx ?_)
  refine wpAny_bind (wpAny_pure ?_)
  obtain ⟨ns, hs⟩ := hs
  have push : ∀ {h : Heap} {b : Addr} {o u : Obj}, h.get? b = some o → (h.push u).get? b = some o := fun e => Heap.get?_push_of_some _ e
  have tl : ∀ {s' : Shared}, s'.heap.get? st = some { cls := .type "list", dict := none, data := .seq st0.toArray ns, slots := #[] } → s'.TypeIs (.ref st) "list" := fun e => ⟨_, e, rfl⟩
  simp only [List.forIn_cons, List.forIn_nil]
  refine wpAny_bind (wpAny_bind (wpAny_bind (wpAny_isInstance (T := "list") (b := false) (tl (push hs)) F.sub_list_str ?_)))
  simp only [Bool.false_eq_true, if_false]
  refine wpAny_pure (wpAny_bind (wpAny_bind (wpAny_isInstance (T := "list") (b := false) (tl (push hs)) F.sub_list_bytes ?_)))
  simp only [Bool.false_eq_true, if_false]
  refine wpAny_pure (wpAny_bind (wpAny_bind (wpAny_isInstance (T := "list") (b := false) (tl (push hs)) F.sub_list_bytearray ?_)))
  simp only [Bool.false_eq_true, if_false]
  refine wpAny_pure (wpAny_pure ?_)
  refine wpAny_bind (wpAny_newObj_type ?_)
  obtain ⟨ol, hol, hcl, nl, hdl⟩ := hx
  have hx : s.heap.IsList x items := ⟨ol, hol, hcl, nl, hdl⟩
  have xlt : x < s.heap.objs.size := Heap.lt_size hol
  have stlt : st < s.heap.objs.size := Heap.lt_size hs
  have hz1 : ∀ (u : Obj), (s.heap.push u).objs.size = s.heap.objs.size + 1 := fun u => Heap.size_push ..
  have nI : ∀ {b : Addr}, b < s.heap.objs.size → b ≠ s.heap.objs.size ∧ b ≠ s.heap.objs.size + 1 := fun h => ⟨Nat.ne_of_lt h, Nat.ne_of_lt (Nat.lt_succ_of_lt h)⟩
  refine wpAny_pure ⟨plainId_quiet F.plain_sum_loop _, ?_⟩
  have S1 : (s.heap.push { cls := .type "list_iterator", data := .fields #[.ref x, .int 0 0] }).objs.size = s.heap.objs.size + 1 := hz1 _
  refine sum_lists_loop ((Walks.list (A := A.in1) (by simp [hh]) s.heap.objs.size x (nI xlt).1 items).toS) adr vals hi (fun i s' ⟨⟨o, e, _⟩, ⟨o2, e2, _⟩⟩ b hb => ?_) _ ?_ st0 hsz items.size 0 _ st 0 (by omega) (Nat.zero_le _) ?_ ?_ ?_ ?_ ?_ ?_ ?_
  · simp only [List.mem_cons, List.not_mem_nil, or_false] at hb
    rcases hb with rfl | rfl
    · exact ⟨_, e⟩
    · exact ⟨_, e2⟩
  · simp only [List.mem_cons, List.not_mem_nil, or_false, not_or]
    show ¬ (s.heap.push _).objs.size = _ ∧ ¬ (s.heap.push _).objs.size = _
    rw [S1]
    exact ⟨Nat.succ_ne_self _, (nI xlt).2.symm⟩
  · refine ⟨⟨_, push (Heap.get?_push_size _ rfl), rfl, rfl⟩, ⟨ol, push (push hol), hcl, nl, hdl⟩⟩
  · have e := Heap.get?_push_size (s.heap.push { cls := .type "list_iterator", data := .fields #[.ref x, .int 0 0] }) (o := { cls := .type "list", data := .seq [Value.ref st].toArray }) rfl
    exact e
  · show _ ≠ (s.heap.push _).objs.size
    rw [S1]; exact (nI stlt).2
  · simp only [List.mem_cons, List.not_mem_nil, or_false]; exact (nI stlt).1
  · exact ⟨ns, by simpa [cat] using push (push hs)⟩
  · intro j hj
    obtain ⟨m, e⟩ := hv j hj
    have lt := Heap.lt_size e
    exact ⟨⟨m, push (push e)⟩, (by show _ ≠ (s.heap.push _).objs.size; rw [S1]; exact (nI lt).2), by simp only [List.mem_cons, List.not_mem_nil, or_false]; exact (nI lt).1⟩
  · intro s' T' hm hT hor
    obtain ⟨h', g2, d', tk', os'⟩ := s'
    have eg : g2 = s.gens := hm.gens
    have ed : d' = s.drawn := hm.drawn
    have eo : os' = s.os := hm.os
    subst eg; subst ed; subst eo
    refine h h' tk' T' (fun b o e => ?_) hT (hor.imp (fun z => ⟨z.1.symm, z.2⟩) fun z => (by have z : (s.heap.push _).objs.size < T' := z; rw [S1] at z; exact Nat.le_of_lt (Nat.lt_trans (Nat.lt_succ_self _) z)))
    have lt := Heap.lt_size e
    exact hm.heap b o (by simp only [List.mem_cons, List.not_mem_nil, or_false, not_or]; exact ⟨(by show ¬ b = (s.heap.push _).objs.size; rw [S1]; exact (nI lt).2), (nI lt).1⟩) (push (push e))
end
section
variable {X : Cx} {W : Wd X.K}
def rSumL : List V → Hp → VK → Prop := fun vs H Q => ∃ (x st : Addr) (as : List Addr) (xss : List (List V)), vs = [.ref x, .ref st] ∧ H x = some (.lst (as.map V.ref)) ∧ as.length = xss.length ∧ (∀ (i : Nat) (a : Addr) (xs : List V), as[i]? = some a → xss[i]? = some xs → H a = some (.lst xs)) ∧ H st = some (.lst []) ∧ xss.flatten.length ≤ sizeLine ∧
  (xss = [] → Q (.ref st) H) ∧ (∀ p, H p = none → Q (.ref p) (upd H p (.lst xss.flatten)))
theorem vals_append {xs ys : List V} {us ws : List Value} (h : Vals xs us) (g : Vals ys ws) : Vals (xs ++ ys) (us ++ ws) := h.append g
theorem cat_vals {xss : List (List V)} {vals : Nat → List Value} (h : ∀ i xs, xss[i]? = some xs → Vals xs (vals i)) : ∀ n, n ≤ xss.length → Vals (xss.take n).flatten (cat vals n)
  | 0, _ => .nil
  | n + 1, hn => by
    have hl : n < xss.length := hn
    rw [List.take_add_one, List.getElem?_eq_getElem hl]
    simp only [Option.toList_some, List.flatten_append, List.flatten_cons, List.flatten_nil, List.append_nil]
    exact vals_append (cat_vals h n (Nat.le_of_lt hl)) (h n _ (List.getElem?_eq_getElem hl))
theorem refs_vals : ∀ {as : List Addr} {us : List Value}, Vals (as.map V.ref) us → us = as.map Value.ref
  | [], _, .nil => rfl
  | a :: as, _, .cons r t => by cases r; rw [refs_vals t]; rfl
theorem flat_take {α : Type} (xss : List (List α)) (n : Nat) : (xss.take n).flatten.length ≤ xss.flatten.length := by
  have e : xss.flatten = (xss.take n).flatten ++ (xss.drop n).flatten := by rw [← List.flatten_append, List.take_append_drop]
  rw [e, List.length_append]; omega
theorem cr_sumL (hc : X.calm = true) : CallR X (.builtin "sum") rSumL := by
  intro pins s σ H vs us Q I r h
  obtain ⟨x, st, as, xss, rfl, hx, hl, ha, hst, hz, q0, q1⟩ := h
  cases r with
  | cons r1 rr =>
    cases rr with
    | cons r2 rr =>
      cases rr; cases r1; cases r2
      obtain ⟨_, its, n, rv, ob⟩ := I.hok x _ hx
      obtain rfl := refs_vals rv
      obtain ⟨_, its2, n2, rv2, ob2⟩ := I.hok st _ hst
      cases rv2
      have ex : ∀ i, i < as.length → ∃ l, Ls s.heap (as.getD i 0) l ∧ ∀ xs, xss[i]? = some xs → Vals xs l := fun i hi => by
        have e1 := List.getElem?_eq_getElem hi
        have e2 := List.getElem?_eq_getElem (show i < xss.length by omega)
        obtain ⟨_, l, m, v, o⟩ := I.hok _ _ (ha i _ _ e1 e2)
        refine ⟨l, ⟨m, ?_⟩, fun xs e => by rw [e2] at e; cases e; exact v⟩
        rw [List.getD_eq_getElem?_getD, e1]; exact o
      obtain ⟨vals, hvals⟩ : ∃ vals : Nat → List Value, ∀ i, i < as.length → Ls s.heap (as.getD i 0) (vals i) ∧ ∀ xs, xss[i]? = some xs → Vals xs (vals i) :=
        ⟨fun i => if h : i < as.length then (ex i h).choose else [], fun i hi => by simp only [dif_pos hi]; exact (ex i hi).choose_spec⟩
      have hv : ∀ i xs, xss[i]? = some xs → Vals xs (vals i) := fun i xs e => (hvals i (by rw [hl]; exact (List.getElem?_eq_some_iff.mp e).1)).2 xs e
      have asz : (as.map Value.ref).toArray.size = as.length := by simp
      refine sum_lists (P := X.prog) (w := X.w) (adr := fun i => as.getD i 0) (vals := vals) (st0 := []) (I.ok.hd hc) ⟨_, ob, rfl, n, rfl⟩ (fun i v e => ?_) ⟨n2, ob2⟩ (fun i hi => (hvals i (by rwa [asz] at hi)).1) (fun i hi => ?_) fun h' tk T k hT hor => ?_
      · rw [List.getElem?_toArray, List.getElem?_map] at e
        cases e2 : as[i]? with
        | none => rw [e2] at e; cases e
        | some a => rw [e2] at e; cases e; rw [List.getD_eq_getElem?_getD, e2]; rfl
      · rw [List.nil_append, ← (cat_vals hv i (by rw [asz] at hi; omega)).length]
        exact Nat.le_trans (flat_take _ _) hz
      · rw [asz, List.nil_append] at hT
        have hva := cat_vals hv as.length (by omega)
        rw [List.take_of_length_le (by omega)] at hva
        by_cases h0 : as.length = 0
        · rcases hor with ⟨_, rfl⟩ | hge
          · exact ⟨.ref T, H, I.kept (t' := tk) k, rfl, q0 (List.length_eq_zero_iff.mp (by omega))⟩
          · obtain ⟨m, hT⟩ := hT
            exact ⟨.ref T, upd H T (.lst xss.flatten), I.laid (t' := tk) k hge ⟨hz, _, m, hva, hT⟩, rfl, q1 T (I.hok.fresh hge)⟩
        · rcases hor with ⟨z, _⟩ | hge
          · rw [asz] at z; exact absurd z h0
          · obtain ⟨m, hT⟩ := hT
            exact ⟨.ref T, upd H T (.lst xss.flatten), I.laid (t' := tk) k hge ⟨hz, _, m, hva, hT⟩, rfl, q1 T (I.hok.fresh hge)⟩
/-- over trees -/
def rdSumL : List D → (Sl → Prop) → Prop
  | [.lst xs, .lst []], Q => ∃ xss : List (List D), xs = xss.map D.lst ∧ xss.flatten.length ≤ sizeLine ∧ xss ≠ [] ∧ Q (.ol xss.flatten)
  | _, _ => False
theorem lsts_inv {W : Wd X.K} {B H : Hp} (sb : Sub B H) : ∀ {xss : List (List D)} {vs : List V}, Rps W B vs (xss.map D.lst) → ∃ (as : List Addr) (yss : List (List V)), vs = as.map V.ref ∧ as.length = yss.length ∧ yss.length = xss.length ∧ (∀ (i : Nat) (a : Addr) (ys : List V), as[i]? = some a → yss[i]? = some ys → H a = some (.lst ys)) ∧ Rps W B yss.flatten xss.flatten
  | [], _, h => by cases h; exact ⟨[], [], rfl, rfl, rfl, fun i a ys e => by simp at e, .nil⟩
  | xs :: xss, _, h => by
    cases h with
    | cons v _ vs _ a b =>
      cases a with
      | lst p ws _ e q =>
        obtain ⟨as, yss, rfl, h1, h2, h3, h4⟩ := lsts_inv sb b
        refine ⟨p :: as, ws :: yss, rfl, by simp [h1], by simp [h2], fun i a ys e1 e2 => ?_, rps_append q h4⟩
        cases i with
        | zero => simp at e1 e2; subst e1; subst e2; exact sb _ _ e
        | succ i => exact h3 i a ys (by simpa using e1) (by simpa using e2)
@[simp] theorem sSumL {xs : List D} {Q : Sl → Prop} : rdSumL [.lst xs, .lst []] Q = ∃ xss : List (List D), xs = xss.map D.lst ∧ xss.flatten.length ≤ sizeLine ∧ xss ≠ [] ∧ Q (.ol xss.flatten) := rfl
theorem rc_sumL : RcM W rSumL rdSumL := by
  intro H0 B0 H B vs ds Qd Q g r hh k
  unfold rdSumL at hh
  split at hh
  · obtain ⟨xss, rfl, hz, q0, q1⟩ := hh
    obtain ⟨v, w, rfl, a, c⟩ := r.two
    obtain ⟨p, ws, rfl, e, z⟩ := a.lst g.sb
    obtain ⟨p2, ws2, e3, e2, z2⟩ := c.lst g.sb
    subst e3
    cases z2
    obtain ⟨as, yss, rfl, h1, h2, h3, h4⟩ := lsts_inv g.sb z
    refine ⟨p, p2, as, yss, rfl, e, h1, h3, e2, by rw [h4.length]; exact hz, fun h0 => absurd (List.length_eq_zero_iff.mp (by rw [← h2, h0]; rfl)) q0, fun l hn => k _ _ _ _ q1 (.lst g hn h4)⟩
  · exact hh.elim
end
end DL
-- DLset
set_option Elab.async false
set_option linter.all false
set_option maxRecDepth 100000
set_option maxHeartbeats 3200000
set_option autoImplicit false
namespace DL
open PySem PySem.Spec L2
open PyProof.Rows hiding St
/-! ### set(xs) of a list of ints -/
section
variable {P : Program} {w : World} {A : Around} {E : Value → Shared → Prop} {s : Shared}
/-- an empty set's object -/
abbrev noSet (w : World) : Obj := { cls := .type "set", dict := none, data := .set #[] 0 (.fresh 0 0 (!w.params.followText "set-order")) }
theorem call_set_listI {l : Addr} {items : Array Value} (ns : List Int) {Q : Value → Shared → Prop} (hh : A.handled = none) (hl : s.heap.IsList l items) (hit : IntsAre items.toList ns) (hb : ns.length + 1 < scanBound)
    (h : ∀ (h' : Heap) (tk c : Nat), SetR w h' s.heap.objs.size (fun j => decide (j ∈ ns)) c → c ≤ ns.length → (∀ b o, s.heap.get? b = some o → h'.get? b = some o) →
      Q (.ref s.heap.objs.size) { s with heap := h', toks := tk }) : wpAny (model P w) A (call (.type "set") [.ref l]) Q E s := by
  have hisz : items.size = ns.length := by have q := IntsAre.length hit; rwa [Array.length_toList] at q
  obtain ⟨c, tl, hmro⟩ := F.called_set.mro
  have hmade := F.called_set.made; have hsub := F.called_set.sub
  refine wpAny_call (codeAny_of_tree ?_); show wpAny _ _ (callAny (.type "set") _) _ _ _
  refine wpAny_pure ⟨Code.quiet_builtin _ (by decide +kernel), codeAny_builtin F.entry_type_call ?_⟩; rw [Around.under_plain (weight_type_call_type "set" [.ref l] []) rfl]
  have h1 := F.called_set.notType; have h2 := F.called_set.canCreate; have hct := F.typeCall_set_1 (.ref l)
  repeat (any_goals (first | assumption | wp_step))
  refine codeAny_mono (code_set_led1 (.ref l) (E := E) (Q₁ := fun obj s₁ => obj = .ref s.heap.objs.size ∧ s₁ = { s with heap := s.heap.push (noSet w) }) ⟨rfl, rfl⟩) fun r s₁ hr => ?_
  cases r with
  | error e => exact hr
  | ok fl =>
    cases fl with
    | ret obj =>
      obtain ⟨rfl, rfl⟩ := hr
      have hS : (s.heap.push (noSet w)).get? s.heap.objs.size = some (noSet w) := Heap.get?_push_size _ rfl
      have hT : Shared.TypeIs { s with heap := s.heap.push (noSet w) } (.ref s.heap.objs.size) "set" := ⟨_, hS, rfl⟩
      have hli := F.called_set.init.lookup; have hbi := F.called_set.init.bind (.ref s.heap.objs.size)
      repeat (any_goals (first | assumption | wp_step))
      refine codeAny_mono (codeAny_call_builtin (R := wants (fun r s₂ => r = .none ∧ ∃ h' tk c, s₂ = { s with heap := h', toks := tk } ∧ SetR w h' s.heap.objs.size (fun j => decide (j ∈ ns)) c ∧ c ≤ ns.length ∧ (∀ b o, s.heap.get? b = some o → h'.get? b = some o)) E) F.called_set.init.plain F.entry_set_init (check_set_init_1 hT ?_)) fun r₂ s₂ hr₂ => ?_
      · obtain ⟨ol, hol, hcl, nl, hdl⟩ := hl
        obtain ⟨ocls, odict, odata, oslots⟩ := ol
        simp only at hcl hdl; subst hcl; subst hdl
        have hol' : (s.heap.push (noSet w)).get? l = some { cls := .type "list", dict := odict, data := .seq items nl, slots := oslots } := Heap.get?_push_of_some _ hol
        have hsls := F.sub_list_set; have hslf := F.sub_list_frozenset; have hne : (Value.type "list" == Value.type "dict") = false := by decide
        have hl1 : (s.heap.push (noSet w)).IsList l items := ⟨_, hol', rfl, nl, rfl⟩
        unfold Builtin.«set.__init__» noKeywords Builtin.Frozenset.updateFrom
        generalize hPI : pyIter = PI
        wp_walk
        subst hPI; refine wpAny_pyIter_list hl1 ?_; refine wpAny_bind (wpAny_runValue ?_)
        have hlS : l < s.heap.objs.size := Heap.lt_size hol; have hh3 : A.in1.in1.in1.handled = none := by simp [hh]
        have hz1 : (s.heap.push (noSet w)).objs.size = s.heap.objs.size + 1 := Heap.size_push ..
        have hneI : l ≠ (s.heap.push (noSet w)).objs.size := by rw [hz1]; exact Nat.ne_of_lt (Nat.lt_succ_of_lt hlS)
        have hSf : s.heap.objs.size ∉ [(s.heap.push (noSet w)).objs.size, l] := by
          rw [hz1]; simp only [List.mem_cons, List.not_mem_nil, or_false, not_or]; exact ⟨Nat.ne_of_lt (Nat.lt_succ_self _), Nat.ne_of_gt hlS⟩
        have hval : ∀ (i : Nat) (v : Value), items[i]? = some v → ∃ k t, ns[i]? = some k ∧ v = .int k t := fun i v hv => by
          have hi : i < ns.length := by rw [← hisz]; exact (Array.getElem?_eq_some_iff.mp hv).1
          obtain ⟨t, e⟩ := PyProof.Rows.IntsAre.int_at hit i v (by rw [Array.getElem?_toList]; exact hv)
          refine ⟨ns[i], t, List.getElem?_eq_getElem hi, ?_⟩; rw [e, List.getD_eq_getElem?_getD, List.getElem?_eq_getElem hi] <;> rfl
        refine set_update_ints ((Walks.list hh3 _ l hneI items).toS) s.heap.objs.size hSf ns hisz hb hval (items.size - 0) 0 _ (by omega) (Nat.zero_le _) ⟨⟨_, Heap.get?_push_size _ rfl, rfl, rfl⟩, (hl1.push _)⟩ ?hS0 ?hR
        case hS0 =>
          have hget : ((s.heap.push (noSet w)).push { cls := .type "list_iterator", data := .fields #[.ref l, .int 0 0] }).get? s.heap.objs.size = some (noSet w) := Heap.get?_push_of_some _ hS
          exact ⟨0, Nat.le_refl 0, setR_new_at hget⟩
        case hR =>
          intro s' c' hm hc' hS'
          obtain ⟨h', g2, d', tk', os'⟩ := s'
          have eg : g2 = s.gens := hm.gens; have ed : d' = s.drawn := hm.drawn; have eo : os' = s.os := hm.os; subst eg; subst ed; subst eo
          show wpAny _ _ _ _ _ _
          refine wpAny_pure ?_
          show wpAny _ _ (ret Value.none) _ _ _
          rw [hisz] at hc'; refine wpAny_pure ⟨rfl, h', tk', c', rfl, hS', hc', fun b o e => ?_⟩
          have hb0 : b < s.heap.objs.size := Heap.lt_size e
          have hb2 : b ≠ (s.heap.push (noSet w)).objs.size := by rw [hz1]; exact Nat.ne_of_lt (Nat.lt_succ_of_lt hb0)
          exact hm.heap b o (by simp only [List.mem_cons, List.not_mem_nil, or_false, not_or]; exact ⟨Nat.ne_of_lt hb0, hb2⟩) (Heap.get?_push_of_some _ (Heap.get?_push_of_some _ e))
      · cases r₂ with
        | error e => exact hr₂
        | ok fl₂ =>
          cases fl₂ with
          | ret r =>
            obtain ⟨rfl, h', tk, c', rfl, hS', hc', hk'⟩ := hr₂; repeat (any_goals (first | assumption | wp_step))
            exact h _ _ _ hS' hc' hk'
          | _ => exact hr₂.elim
    | _ => exact hr.elim
/-- how many a set holds: fewer than 64 if no 64 of the numbers differ -/
def Few (ns : List Int) : Prop := ∀ l : List Int, l.Nodup → (∀ k ∈ l, k ∈ ns) → l.length < 64
theorem SetR.few {h : Heap} {a : Addr} {ns : List Int} {c : Nat} (R : SetR w h a (fun j => decide (j ∈ ns)) c) (f : Few ns) : c < 64 := by
  obtain ⟨o, es, ep, t, _, _, _, _, nd, hm, _, _, hn, _⟩ := R
  have := f _ nd fun k hk => by simpa using (hm k).mpr hk
  rw [List.length_map, Array.length_toList] at this
  omega
end
section
variable {X : Cx} {G : Gx X.K} {pos : Pos}
def rSetL (K : PySem.W.Frag) (w : World) : List V → Hp → VK → Prop := fun xs H Q => ∃ (l : Addr) (ns : List Int), xs = [V.ref l] ∧ SqL K H l (ns.map V.int) ∧ ns.length + 1 < scanBound ∧ Few ns ∧
  ∀ a c, H a = none → c < 64 → Q (.ref a) (upd H a (SetO w a (fun j => decide (j ∈ ns)) c))
theorem cr_setL (hc : X.calm = true) : CallR X (.type "set") (rSetL X.K X.w) := by
  intro pins s σ H xs us Q I r h
  obtain ⟨l, ns, rfl, hl, hb, hf, q⟩ := h
  rw [Vals.ref1 r]
  obtain ⟨its, rv, pl, hz⟩ := I.list hl
  have hi : IntsAre its.toArray.toList ns := ints_of_vals rv
  refine call_set_listI (P := X.prog) (w := X.w) ns (I.ok.hd hc) pl.isList hi hb fun h' tk c R hcn k => ?_
  exact ⟨.ref s.heap.objs.size, upd H s.heap.objs.size (SetO X.w s.heap.objs.size (fun j => decide (j ∈ ns)) c), I.laid (t' := tk) k (Nat.le_refl _) (setO_new R), rfl, q _ c (I.hok.fresh (Nat.le_refl _)) (SetR.few R hf)⟩
/-- sorted(set(xs)) -/
def rdSortSet : List D → (Sl → Prop) → Prop
  | [.lst xs], Q => ∃ ns : List Int, xs = ns.map D.int ∧ ns.length + 1 < scanBound ∧ Few ns ∧ ∀ ns' : List Int, ns'.Pairwise (· < ·) → (∀ k, k ∈ ns' ↔ k ∈ ns) → Q (.ol (ns'.map D.int))
  | _, _ => False
theorem dm_sortset {p p2 pos2 : Pos} {e : Expr} {ta : DTAO} (hc : X.calm = true) (hm : X.mg "sorted" = none) (hm2 : X.mg "set" = none) (ha : PA X [e] (upAO G ta)) (hg : Gl X "sorted" := by rfl) (hg2 : Gl X "set" := by rfl)
    (he : starEach [e] X.env = (false, eval e X.env) :: starEach [] X.env := by rfl) : PE X (.Call (.Name "sorted" p) [.Call (.Name "set" p2) [e] [] pos2] [] pos) (upM G (dBlt rdSortSet ta)) :=
  PE.imp (pe_callB (cr_sortedSet hc) hg hm boot_sorted (pa_cons (pe_callTy (cr_setL hc) hg2 hm2 boot_set ha (he := he)) pa_nil)) fun σ H Q ⟨Δ, B, Qd, r1, q, k⟩ => ⟨Δ, B, _, r1, q, fun os Δ1 vs H1 B1 ⟨ds, e, q1⟩ r1 s1 rps => by
    have rr := rps_of r1 rps e
    unfold rdSortSet at q1
    split at q1
    · obtain ⟨ns, rfl, hb, hf, q1⟩ := q1
      obtain ⟨v, rfl, a⟩ := rr.one
      obtain ⟨l, ws, rfl, e, z⟩ := a.lst r1.gr.sb
      refine ⟨l, ns, rfl, .of (by rw [e, z.ints_inv]), hb, hf, fun b c hn h64 => ⟨b, _, c, rfl, upd_same, h64, fun ns' p' h1 h2 h3 hn' => ?_⟩⟩
      have g1 : Grow G.W H1 B1 (upd H1 b (SetO X.w b (fun j => decide (j ∈ ns)) c)) B1 := r1.gr.allocO hn
      have g2 := g1.trans (g1.allocO (o := .lst (ns'.map V.int)) hn')
      exact k _ _ _ _ _ (q1 ns' h1 fun k => by rw [h2]; simp) (r1.hangS ⟨g2, [p'], .ol _ _ _ upd_same (Rps.intsOf ns'), fun a ha => by
        simp at ha; rw [ha]
        have hp1 : H1 p' = none := by
          by_cases hb : p' = b
          · rw [hb, upd_same] at hn'; cases hn'
          · rwa [upd_ne hb] at hn'
        refine ⟨hp1, ?_⟩
        cases e2 : B1 p' with
        | none => rfl
        | some u => rw [r1.gr.sb _ _ e2] at hp1; cases hp1⟩) s1
    · exact q1.elim⟩
end
end DL
-- DLsimp
set_option Elab.async false
set_option linter.all false
set_option maxRecDepth 100000
set_option maxHeartbeats 2000000
set_option autoImplicit false
namespace DL
open PySem PySem.Spec L2
open PyProof.Rows hiding St
/-! ### what simp does with meanings -/
section
variable {Δ : List Sl} {N : DEnds} {E : EX} {t u : DTE} {tt tu : DTT} {ta : DTA} {to ta' tb' : DTO} {tm : DTM} {Q : D → List Sl → Prop} {QT : Bool → List Sl → Prop} {QA : List D → List Sl → Prop} {QM : Sl → List Sl → Prop} {QO : Od → List Sl → Prop} {i : Nat} {d : D}
@[simp] theorem sDVar : dVar i Δ Q E = ∃ s d, Δ[i]? = some s ∧ s.er = some d ∧ Q d (Δ.set i (.im d)) := rfl
@[simp] theorem sDC : dC d Δ Q E = Q d Δ := rfl
@[simp] theorem sDTst : dTst t Δ QT E = t Δ (fun d Δ1 => ∃ b, d = .bl b ∧ QT b Δ1) E := rfl
@[simp] theorem sDAnd : dAnd tt tu Δ QT E = tt Δ (fun b Δ1 => if b = true then tu Δ1 QT E else QT false Δ1) E := rfl
@[simp] theorem sDOr : dOr tt tu Δ QT E = tt Δ (fun b Δ1 => if b = true then QT true Δ1 else tu Δ1 QT E) E := rfl
@[simp] theorem sDNot : dNot tt Δ QT E = tt Δ (fun b Δ1 => QT (!b) Δ1) E := rfl
@[simp] theorem sDAndV : dAndV t u Δ Q E = t Δ (fun x Δ1 => ∃ c, x = .bl c ∧ if c = true then u Δ1 Q E else Q (.bl false) Δ1) E := rfl
@[simp] theorem sDOrV : dOrV t u Δ Q E = t Δ (fun x Δ1 => ∃ c, x = .bl c ∧ if c = true then Q (.bl true) Δ1 else u Δ1 Q E) E := rfl
@[simp] theorem sDNotV : dNotV t Δ Q E = t Δ (fun x Δ1 => ∃ c, x = .bl c ∧ Q (.bl (!c)) Δ1) E := rfl
@[simp] theorem sDIf : dIf tt t u Δ Q E = tt Δ (fun c Δ1 => if c = true then t Δ1 Q E else u Δ1 Q E) E := rfl
@[simp] theorem sDNil : dNil Δ QA E = QA [] Δ := rfl
@[simp] theorem sDCons : dCons t ta Δ QA E = t Δ (fun x Δ1 => ta Δ1 (fun xs Δ2 => QA (x :: xs) Δ2) E) E := rfl
@[simp] theorem sDSeq {a b : DTS} : dSeq a b N Δ E = a { N with nx := fun Δ' => b N Δ' E } Δ E := rfl
@[simp] theorem sDNext : dNext N Δ E = N.nx Δ := rfl
@[simp] theorem sDBrk : dBrk N Δ E = N.bk Δ := rfl
@[simp] theorem sDCnt : dCnt N Δ E = N.ct Δ := rfl
@[simp] theorem sDDrop : dDrop t N Δ E = t Δ (fun _ Δ1 => N.nx Δ1) E := rfl
@[simp] theorem sDRet : dRet t N Δ E = t Δ (fun d _ => N.rt d) E := rfl
@[simp] theorem sDRetN : dRetN N Δ E = N.rt .non := rfl
@[simp] theorem sDIfS {a b : DTS} : dIfS tt a b N Δ E = tt Δ (fun c Δ1 => if c = true then a N Δ1 E else b N Δ1 E) E := rfl
@[simp] theorem sDSet : dSet i t N Δ E = t Δ (fun d Δ1 => N.nx (Δ1.set i (.im d))) E := rfl
@[simp] theorem sDSetM : dSetM i tm N Δ E = tm Δ (fun s Δ1 => i < Δ1.length ∧ N.nx (Δ1.set i s)) E := rfl
@[simp] theorem sDRaise {C : Addr} : dRaise C N Δ E = E C := rfl
@[simp] theorem sDClean : dClean tm Δ Q E = tm Δ (fun s Δ' => ∃ d, s.er = some d ∧ Q d Δ') E := rfl
@[simp] theorem sDIm : dIm t Δ QM E = t Δ (fun d Δ' => QM (.im d) Δ') E := rfl
@[simp] theorem sDO : dO t Δ QO E = t Δ (fun d Δ' => QO (.inl d) Δ') E := rfl
@[simp] theorem sDB : dB i Δ QO E = ((∃ s d, Δ[i]? = some s ∧ s.er = some d) ∧ QO (.inr i) Δ) := rfl
@[simp] theorem sDNilO {Q : List Od → List Sl → Prop} : dNilO Δ Q E = Q [] Δ := rfl
@[simp] theorem sDConsO {Q : List Od → List Sl → Prop} {tr : DTAO} : dConsO to tr Δ Q E = to Δ (fun x Δ1 => tr Δ1 (fun xs Δ2 => Q (x :: xs) Δ2) E) E := rfl
@[simp] theorem sDOpM {rd : D → D → (Sl → Prop) → Prop} : dOpM rd ta' tb' Δ QM E = ta' Δ (fun x Δ1 => tb' Δ1 (fun y Δ2 => ∃ d e, res Δ2 x = some d ∧ res Δ2 y = some e ∧ rd d e fun s => QM s Δ2) E) E := rfl
@[simp] theorem sDCmpE {rd : D → D → (Bool → Prop) → Prop} : dCmpE rd ta' tb' Δ Q E = ta' Δ (fun x Δ1 => tb' Δ1 (fun y Δ2 => ∃ d e, res Δ2 x = some d ∧ res Δ2 y = some e ∧ rd d e fun b => Q (.bl b) Δ2) E) E := rfl
@[simp] theorem sDCmpT {rd : D → D → (Bool → Prop) → Prop} : dCmpT rd ta' tb' Δ QT E = ta' Δ (fun x Δ1 => tb' Δ1 (fun y Δ2 => ∃ d e, res Δ2 x = some d ∧ res Δ2 y = some e ∧ rd d e fun b => QT b Δ2) E) E := rfl
@[simp] theorem sDChainE {rd rd' : D → D → (Bool → Prop) → Prop} : dChainE rd rd' ta' tb' to Δ Q E = ta' Δ (fun x Δ1 => tb' Δ1 (fun y Δ2 => ∃ d e, res Δ2 x = some d ∧ res Δ2 y = some e ∧ rd d e fun b => if b = true then to Δ2 (fun z Δ3 => ∃ d e, res Δ3 y = some d ∧ res Δ3 z = some e ∧ rd' d e fun b' => Q (.bl b') Δ3) E else Q (.bl false) Δ2) E) E := rfl
@[simp] theorem sResL : res Δ (.inl d) = some d := rfl
@[simp] theorem sResR : res Δ (.inr i) = (Δ[i]?).bind Sl.er := rfl
@[simp] theorem sErUn : Sl.un.er = none := rfl
@[simp] theorem sErIm : (Sl.im d).er = some d := rfl
@[simp] theorem sErOl {ds : List D} : (Sl.ol ds).er = some (.lst ds) := rfl
@[simp] theorem sErOk {ds : List (Key × D)} : (Sl.ok ds).er = some (.dk ds) := rfl
@[simp] theorem sErOt {ds : List (List Key × D)} : (Sl.ot ds).er = some (.dt ds) := rfl
@[simp] theorem sErOi {C p : Addr} {fs : List (Str × D)} : (Sl.oi C p fs).er = some (.obj C fs) := rfl
@[simp] theorem sDBlt {rd : List D → (Sl → Prop) → Prop} {tr : DTAO} : dBlt rd tr Δ QM E = tr Δ (fun os Δ1 => ∃ ds, ds.map some = os.map (res Δ1) ∧ rd ds fun s => QM s Δ1) E := by
  unfold dBlt
  congr 1
  funext os Δ1
  exact propext ⟨fun ⟨ds, a, b⟩ => ⟨ds, a.symm, b⟩, fun ⟨ds, a, b⟩ => ⟨ds, a.symm, b⟩⟩
@[simp] theorem sMapSome {os : List D} {x : Option D} {xs : List (Option D)} : os.map some = x :: xs ↔ ∃ d ds, os = d :: ds ∧ x = some d ∧ ds.map some = xs := by
  cases os with
  | nil => simp
  | cons d ds =>
    simp only [List.map_cons, List.cons.injEq]
    constructor
    · rintro ⟨rfl, h⟩; exact ⟨d, ds, ⟨rfl, rfl⟩, rfl, h⟩
    · rintro ⟨d', ds', ⟨rfl, rfl⟩, rfl, h⟩; exact ⟨rfl, h⟩
@[simp] theorem sRdC {f : Int → Int → Bool} {i j : Int} {Q : Bool → Prop} : rdC f (.int i) (.int j) Q = Q (f i j) := rfl
@[simp] theorem sRdI {C : Int → Int → Prop} {f : Int → Int → Int} {i j : Int} {Q : Sl → Prop} : rdI C f (.int i) (.int j) Q = (C i j ∧ Q (.im (.int (f i j)))) := rfl
@[simp] theorem sRdI0 {f : Int → Int → Int} {i j : Int} {Q : Sl → Prop} : rdI0 f (.int i) (.int j) Q = Q (.im (.int (f i j))) := rfl
@[simp] theorem sAddI {i j : Int} {Q : Sl → Prop} : rdAdd (.int i) (.int j) Q = Q (.im (.int (i + j))) := rfl
@[simp] theorem sAddL {xs ys : List D} {Q : Sl → Prop} : rdAdd (.lst xs) (.lst ys) Q = (xs.length + ys.length ≤ sizeLine ∧ Q (.ol (xs ++ ys))) := rfl
@[simp] theorem sAddT {xs ys : List D} {Q : Sl → Prop} : rdAdd (.tup xs) (.tup ys) Q = (xs.length + ys.length ≤ sizeLine ∧ Q (.im (.tup (xs ++ ys)))) := rfl
@[simp] theorem sMulI {i j : Int} {Q : Sl → Prop} : rdMul (.int i) (.int j) Q = (CMul i j ∧ Q (.im (.int (i * j)))) := rfl
@[simp] theorem sMulL {xs : List D} {k : Int} {Q : Sl → Prop} : rdMul (.lst xs) (.int k) Q = (-(2 ^ 63) ≤ k ∧ k < 2 ^ 63 ∧ xs.length * k.toNat ≤ sizeLine ∧ Q (.ol (List.replicate k.toNat xs).flatten)) := rfl
@[simp] theorem sMulT {xs : List D} {k : Int} {Q : Sl → Prop} : rdMul (.tup xs) (.int k) Q = (xs ≠ [] ∧ 2 ≤ k ∧ k ≤ 1000 ∧ xs.length ≤ 1000 ∧ Q (.im (.tup (List.replicate k.toNat xs).flatten))) := rfl
@[simp] theorem sIsN {x : D} {Q : Bool → Prop} : rdIsN x .non Q = Q (DL.isNon x) := rfl
@[simp] theorem sNotN {x : D} {Q : Bool → Prop} : rdNotN x .non Q = Q (!DL.isNon x) := rfl
@[simp] theorem sIxL {xs : List D} {i : Int} {Q : D → Prop} : rdIx (.lst xs) (.int i) Q = ∃ d, atI xs i = some d ∧ Q d := rfl
@[simp] theorem sIxT {xs : List D} {i : Int} {Q : D → Prop} : rdIx (.tup xs) (.int i) Q = ∃ d, atI xs i = some d ∧ Q d := rfl
@[simp] theorem sIxK {kvs : List (Key × D)} {k : D} {Q : D → Prop} : rdIx (.dk kvs) k Q = ∃ y d, k.key = some y ∧ val kvs y = some d ∧ Q d := rfl
@[simp] theorem sIxU {kvs : List (List Key × D)} {k : D} {Q : D → Prop} : rdIx (.dt kvs) k Q = ∃ y d, k.keyT = some y ∧ val kvs y = some d ∧ Q d := rfl
@[simp] theorem sDIx : dIx ta' tb' Δ Q E = ta' Δ (fun x Δ1 => tb' Δ1 (fun y Δ2 => ∃ d e, res Δ2 x = some d ∧ res Δ2 y = some e ∧ rdIx d e fun z => Q z Δ2) E) E := rfl
@[simp] theorem sSlL {xs : List D} {lo hi : Option Int} {Q : Sl → Prop} : rdSl (.lst xs) lo hi Q = Q (.ol (cut xs lo hi)) := rfl
@[simp] theorem sSlT {xs : List D} {lo hi : Option Int} {Q : Sl → Prop} : rdSl (.tup xs) lo hi Q = Q (.im (.tup (cut xs lo hi))) := rfl
@[simp] theorem sNoPart {Q : Option Int → List Sl → Prop} : dNoPart Δ Q E = Q none Δ := rfl
@[simp] theorem sPart {Q : Option Int → List Sl → Prop} : dPart to Δ Q E = to Δ (fun x Δ1 => ∃ i, res Δ1 x = some (.int i) ∧ Q (some i) Δ1) E := rfl
@[simp] theorem sDSl {tl th : DTP} : dSl to tl th Δ QM E = to Δ (fun x Δ1 => tl Δ1 (fun l Δ2 => th Δ2 (fun u Δ3 => ∃ d, res Δ3 x = some d ∧ rdSl d l u fun s => QM s Δ3) E) E) E := rfl
@[simp] theorem sDTup : dTup ta Δ Q E = ta Δ (fun ds Δ1 => ds.length ≤ sizeLine ∧ Q (.tup ds) Δ1) E := rfl
@[simp] theorem sDLst : dLst ta Δ QM E = ta Δ (fun ds Δ1 => ds.length ≤ sizeLine ∧ QM (.ol ds) Δ1) E := rfl
@[simp] theorem sDDict0 : dDict0 Δ QM E = (QM (.ok []) Δ ∨ QM (.ot []) Δ) := rfl
@[simp] theorem sDgName {d : D} {Q : List Sl → Prop} : dgName i d Δ Q = Q (Δ.set i (.im d)) := rfl
@[simp] theorem sDgNil {ds : List D} {Q : List Sl → Prop} : dgNil ds Δ Q = (ds = [] ∧ Q Δ) := rfl
@[simp] theorem sDgCons {t : DTG} {u : DTGs} {ds : List D} {Q : List Sl → Prop} : dgCons t u ds Δ Q = ∃ d r, ds = d :: r ∧ t d Δ fun Δ' => u r Δ' Q := rfl
@[simp] theorem sDgTup {n : Nat} {t : DTGs} {d : D} {Q : List Sl → Prop} : dgTup n t d Δ Q = ∃ ds, (d = .tup ds ∨ d = .lst ds) ∧ ds.length = n ∧ t ds Δ Q := rfl
@[simp] theorem sDAsg {g : DTG} : dAsg t g N Δ E = t Δ (fun d Δ1 => g d Δ1 N.nx) E := rfl
@[simp] theorem sSeqI {Q : List D → List Sl → Prop} : dSeqI t Δ Q E = t Δ (fun d Δ1 => ∃ ds, itemsD d = some ds ∧ Q ds Δ1) E := rfl
@[simp] theorem sItT {xs : List D} : itemsD (.tup xs) = some xs := rfl
@[simp] theorem sItL {xs : List D} : itemsD (.lst xs) = some xs := rfl
@[simp] theorem sRng1 {Q : List D → List Sl → Prop} : dRng1 ta Δ Q E = ta Δ (fun ds Δ1 => ∃ j, ds = [.int j] ∧ -(2 ^ 62) ≤ j ∧ j < 2 ^ 62 ∧ Q (rngD 0 j.toNat) Δ1) E := rfl
@[simp] theorem sRng2 {Q : List D → List Sl → Prop} : dRng2 ta Δ Q E = ta Δ (fun ds Δ1 => ∃ i j, ds = [.int i, .int j] ∧ (-(2 ^ 62) ≤ i ∧ i < 2 ^ 62 ∧ -(2 ^ 62) ≤ j ∧ j < 2 ^ 62) ∧ Q (rngD i (j - i).toNat) Δ1) E := rfl
@[simp] theorem sAppend : dAppend i ta N Δ E = ((∃ ds0, Δ[i]? = some (.ol ds0)) ∧ ta Δ (fun es Δ1 => ∃ e ds, es = [e] ∧ Δ1[i]? = some (.ol ds) ∧ ds.length < sizeLine ∧ N.nx (Δ1.set i (.ol (ds ++ [e])))) E) := rfl
@[simp] theorem sPop : dPop i Δ Q E = ∃ ds d, Δ[i]? = some (.ol ds) ∧ ds.getLast? = some d ∧ Q d (Δ.set i (.ol ds.dropLast)) := rfl
@[simp] theorem sFld {T : Addr → Prop} {f : Str} : dFld T f to Δ Q E = to Δ (fun x Δ1 => ∃ C fs d, res Δ1 x = some (.obj C fs) ∧ T C ∧ fs.lookup f = some d ∧ Q d Δ1) E := rfl
@[simp] theorem sFldSet {T : Addr → Prop} {f : Str} : dFldSet i T f t N Δ E = t Δ (fun d Δ1 => ∃ C p fs, Δ1[i]? = some (.oi C p fs) ∧ T C ∧ fs.length < 1000 ∧ N.nx (Δ1.set i (.oi C p (putD f d fs)))) E := rfl
@[simp] theorem sNilM {Q : List Sl → List Sl → Prop} : dNilM Δ Q E = Q [] Δ := rfl
@[simp] theorem sConsM {Q : List Sl → List Sl → Prop} {tr : DTMA} : dConsM tm tr Δ Q E = tm Δ (fun s Δ1 => tr Δ1 (fun ss Δ2 => Q (s :: ss) Δ2) E) E := rfl
@[simp] theorem sPar2 {j : Nat} {tr : DTMA} : dPar2 i j tr N Δ E = tr Δ (fun ss Δ1 => ∃ s1 s2, ss = [s1, s2] ∧ i < Δ1.length ∧ j < Δ1.length ∧ N.nx ((Δ1.set i s1).set j s2)) E := rfl
@[simp] theorem sPar3 {j l : Nat} {tr : DTMA} : dPar3 i j l tr N Δ E = tr Δ (fun ss Δ1 => ∃ s1 s2 s3, ss = [s1, s2, s3] ∧ i < Δ1.length ∧ j < Δ1.length ∧ l < Δ1.length ∧ N.nx (((Δ1.set i s1).set j s2).set l s3)) E := rfl
@[simp] theorem sNeg : dNeg to Δ Q E = to Δ (fun x Δ1 => ∃ i, res Δ1 x = some (.int i) ∧ Q (.int (-i)) Δ1) E := rfl
@[simp] theorem sIfM {a b : DTM} : dIfM tt a b Δ QM E = tt Δ (fun c Δ1 => if c = true then a Δ1 QM E else b Δ1 QM E) E := rfl
@[simp] theorem sFn {sp : SpD} : DL.dFn sp ta Δ Q E = ta Δ (fun ds Δ1 => sp ds (fun d => Q d Δ1) E) E := rfl
@[simp] theorem sFnK {sp : SpD} {g : List D → List D → List D} {tk : DTA} : dFnK sp g ta tk Δ Q E = ta Δ (fun ds Δ1 => tk Δ1 (fun es Δ2 => sp (g ds es) (fun d => Q d Δ2) E) E) E := rfl
@[simp] theorem sMake {C : Addr} {sp : SpI} : dMake C sp ta Δ Q E = ta Δ (fun ds Δ1 => sp ds (fun fs => Q (.obj C fs) Δ1) E) E := rfl
@[simp] theorem sYes : dYes Δ QT E = QT true Δ := rfl
@[simp] theorem sAug {rd : D → D → (Sl → Prop) → Prop} : dAug i rd t N Δ E = (∃ a, Δ[i]? = some (.im (.int a)) ∧ t Δ (fun d Δ1 => rd (.int a) d fun s => i < Δ1.length ∧ N.nx (Δ1.set i s)) E) := rfl
@[simp] theorem sLenL {xs : List D} {Q : Sl → Prop} : rdLen [.lst xs] Q = Q (.im (.int xs.length)) := rfl
@[simp] theorem sLenT {xs : List D} {Q : Sl → Prop} : rdLen [.tup xs] Q = Q (.im (.int xs.length)) := rfl
@[simp] theorem sLenS {xs : List Int} {Q : Sl → Prop} : rdLen [.scr xs] Q = Q (.im (.int xs.length)) := rfl
@[simp] theorem sLenK {xs : List (Key × D)} {Q : Sl → Prop} : rdLen [.dk xs] Q = Q (.im (.int xs.length)) := rfl
@[simp] theorem sMin2 {i j : Int} {Q : Sl → Prop} : rdMin2 [.int i, .int j] Q = Q (.im (.int (if j < i then j else i))) := rfl
@[simp] theorem sMax2 {i j : Int} {Q : Sl → Prop} : rdMax2 [.int i, .int j] Q = Q (.im (.int (if j > i then j else i))) := rfl
@[simp] theorem sAbs {i : Int} {Q : Sl → Prop} : rdAbs [.int i] Q = Q (.im (.int (if i < 0 then -i else i))) := rfl
@[simp] theorem sInt {i : Int} {Q : Sl → Prop} : rdInt [.int i] Q = Q (.im (.int i)) := rfl
@[simp] theorem sTupL {xs : List D} {Q : Sl → Prop} : rdTuple [.lst xs] Q = Q (.im (.tup xs)) := rfl
@[simp] theorem sTupT {xs : List D} {Q : Sl → Prop} : rdTuple [.tup xs] Q = Q (.im (.tup xs)) := rfl
@[simp] theorem sListL {xs : List D} {Q : Sl → Prop} : rdList [.lst xs] Q = Q (.ol xs) := rfl
@[simp] theorem sListT {xs : List D} {Q : Sl → Prop} : rdList [.tup xs] Q = Q (.ol xs) := rfl
@[simp] theorem sAll {xs : List D} {Q : Sl → Prop} : rdAll [.lst xs] Q = ∃ ns : List Bool, xs = ns.map D.bl ∧ Q (.im (.bl (ns.all id))) := rfl
@[simp] theorem sAny {xs : List D} {Q : Sl → Prop} : rdAny [.lst xs] Q = ∃ ns : List Bool, xs = ns.map D.bl ∧ Q (.im (.bl (ns.any id))) := rfl
@[simp] theorem sIsi {d : D} {T : String} {Q : Sl → Prop} : rdIsi [d, .ty T] Q = ∃ n b, tyN d = some n ∧ kitB n T = some b ∧ Q (.im (.bl b)) := rfl
@[simp] theorem sStart {n : Nat} {ds : List D} : startD n ds = ds.map .im ++ List.replicate (n - ds.length) .un := rfl
@[simp] theorem sStartI {a C : Addr} {n : Nat} {ds : List D} : startI a C n ds = .oi C a [] :: (ds.map .im ++ List.replicate (n - ds.length - 1) .un) := rfl
end
/-! ### comprehensions that leave the frame as it was -/
def dLCk (own : List Nat) (g : DTG) (tt : DTT) (te : DTE) (ds : List D) (Δ1 : List Sl) (Q : Sl → List Sl → Prop) : Prop := ∃ Iv : Nat → List D → List Sl → Prop, Iv 0 [] (wipeD Δ1 own) ∧
  (∀ i d acc Δ2, ds[i]? = some d → Iv i acc Δ2 → g d Δ2 fun Δ3 => tt Δ3 (fun b Δ4 => if b = true then te Δ4 (fun e Δ5 => acc.length < sizeLine ∧ Iv (i + 1) (acc ++ [e]) (wipeD Δ5 own)) noE else Iv (i + 1) acc (wipeD Δ4 own)) noE) ∧
  ∀ acc Δ2, Iv ds.length acc Δ2 → Q (.ol acc) Δ2
@[simp] theorem sLC {own : List Nat} {ti : DTI} {g : DTG} {tt : DTT} {te : DTE} {Δ : List Sl} {Q : Sl → List Sl → Prop} {E : EX} : dLC own ti g tt te Δ Q E = ti Δ (fun ds Δ1 => dLCk own g tt te ds Δ1 Q) E := rfl
theorem take_filterMap {α β : Type} (f : α → Option β) : ∀ (ds : List α) (i : Nat) (d : α), ds[i]? = some d → (ds.take (i + 1)).filterMap f = (ds.take i).filterMap f ++ (f d).toList
  | [], i, d, h => by simp at h
  | x :: xs, 0, d, h => by simp at h; subst h; cases e : f x <;> simp [List.filterMap, e]
  | x :: xs, i + 1, d, h => by
    have ih := take_filterMap f xs i d (by simpa using h)
    simp only [List.take_succ_cons, List.filterMap_cons]
    cases e : f x <;> simp [ih]
theorem lc_pure {own : List Nat} {g : DTG} {tt : DTT} {te : DTE} {ds : List D} {Δ1 : List Sl} {Q : Sl → List Sl → Prop} (f : D → Option D) (Γ : List Sl) (hΓ : wipeD Δ1 own = Γ) (hl : ds.length ≤ sizeLine)
    (h : ∀ d ∈ ds, ∀ R : Option D → List Sl → Prop, R (f d) Γ → g d Γ fun Δ3 => tt Δ3 (fun b Δ4 => if b = true then te Δ4 (fun e Δ5 => R (some e) (wipeD Δ5 own)) noE else R none (wipeD Δ4 own)) noE)
    (hq : Q (.ol (ds.filterMap f)) Γ) : dLCk own g tt te ds Δ1 Q := by
  refine ⟨fun i acc Δ => Δ = Γ ∧ acc = (ds.take i).filterMap f, ⟨hΓ, by simp⟩, ?_, ?_⟩
  · rintro i d acc Δ2 hi ⟨rfl, rfl⟩
    have hlt : i < ds.length := (List.getElem?_eq_some_iff.mp hi).1
    have hacc : ((ds.take i).filterMap f).length < sizeLine := by
      have a1 := List.length_filterMap_le f (ds.take i)
      rw [List.length_take] at a1
      omega
    have key := take_filterMap f ds i d hi
    refine h d (List.mem_of_getElem? hi) (fun o Δ => match o with | some e => ((ds.take i).filterMap f).length < sizeLine ∧ (Δ = Δ2 ∧ (ds.take i).filterMap f ++ [e] = (ds.take (i + 1)).filterMap f) | none => Δ = Δ2 ∧ (ds.take i).filterMap f = (ds.take (i + 1)).filterMap f) ?_
    cases e : f d with
    | none => rw [e] at key; exact ⟨rfl, by rw [key]; simp⟩
    | some z => rw [e] at key; exact ⟨hacc, rfl, by rw [key]; simp⟩
  · rintro acc Δ2 ⟨rfl, rfl⟩
    rw [List.take_of_length_le (Nat.le_refl _)]
    exact hq
theorem filterMap_some_map {α β : Type} (f : α → β) : ∀ l : List α, l.filterMap (fun x => some (f x)) = l.map f
  | [] => rfl
  | x :: xs => by simp [filterMap_some_map f xs]
def dLCi (own1 : List Nat) (g1 : DTG) (tt1 : DTT) (te : DTE) (es : List D) (Δ5 : List Sl) (acc : List D) (R : List D → List Sl → Prop) : Prop := ∃ Iw : Nat → List D → List Sl → Prop, Iw 0 acc (wipeD Δ5 own1) ∧
  (∀ j e acc1 Δ6, es[j]? = some e → Iw j acc1 Δ6 → g1 e Δ6 fun Δ7 => tt1 Δ7 (fun b Δ8 => if b = true then te Δ8 (fun z Δ9 => acc1.length < sizeLine ∧ Iw (j + 1) (acc1 ++ [z]) (wipeD Δ9 own1)) noE else Iw (j + 1) acc1 (wipeD Δ8 own1)) noE) ∧
  ∀ acc1 Δ6, Iw es.length acc1 Δ6 → R acc1 Δ6
def dLC2k (own own1 : List Nat) (g : DTG) (tt : DTT) (ti1 : DTI) (g1 : DTG) (tt1 : DTT) (te : DTE) (ds : List D) (Δ1 : List Sl) (Q : Sl → List Sl → Prop) : Prop := ∃ Iv : Nat → List D → List Sl → Prop, Iv 0 [] (wipeD Δ1 own) ∧
  (∀ i d acc Δ2, ds[i]? = some d → Iv i acc Δ2 → g d Δ2 fun Δ3 => tt Δ3 (fun b Δ4 => if b = true then ti1 Δ4 (fun es Δ5 => dLCi own1 g1 tt1 te es Δ5 acc fun acc1 Δ6 => Iv (i + 1) acc1 (wipeD Δ6 own)) noE else Iv (i + 1) acc (wipeD Δ4 own)) noE) ∧
  ∀ acc Δ2, Iv ds.length acc Δ2 → Q (.ol acc) Δ2
@[simp] theorem sLC2 {own own1 : List Nat} {ti ti1 : DTI} {g g1 : DTG} {tt tt1 : DTT} {te : DTE} {Δ : List Sl} {Q : Sl → List Sl → Prop} {E : EX} : dLC2 own own1 ti g tt ti1 g1 tt1 te Δ Q E = ti Δ (fun ds Δ1 => dLC2k own own1 g tt ti1 g1 tt1 te ds Δ1 Q) E := rfl
theorem lci_pure {own1 : List Nat} {g1 : DTG} {tt1 : DTT} {te : DTE} {es : List D} {Δ5 : List Sl} {acc : List D} {R : List D → List Sl → Prop} (f : D → Option D) (Γ : List Sl) (hΓ : wipeD Δ5 own1 = Γ) (hl : acc.length + es.length ≤ sizeLine)
    (h : ∀ d ∈ es, ∀ R : Option D → List Sl → Prop, R (f d) Γ → g1 d Γ fun Δ3 => tt1 Δ3 (fun b Δ4 => if b = true then te Δ4 (fun e Δ5 => R (some e) (wipeD Δ5 own1)) noE else R none (wipeD Δ4 own1)) noE)
    (hq : R (acc ++ es.filterMap f) Γ) : dLCi own1 g1 tt1 te es Δ5 acc R := by
  refine ⟨fun i a Δ => Δ = Γ ∧ a = acc ++ (es.take i).filterMap f, ⟨hΓ, by simp⟩, ?_, ?_⟩
  · rintro i d a Δ2 hi ⟨rfl, rfl⟩
    have hlt : i < es.length := (List.getElem?_eq_some_iff.mp hi).1
    have hacc : (acc ++ (es.take i).filterMap f).length < sizeLine := by
      have a1 := List.length_filterMap_le f (es.take i)
      rw [List.length_take] at a1
      rw [List.length_append]
      omega
    have key := take_filterMap f es i d hi
    refine h d (List.mem_of_getElem? hi) (fun o Δ => match o with | some e => (acc ++ (es.take i).filterMap f).length < sizeLine ∧ (Δ = Δ2 ∧ (acc ++ (es.take i).filterMap f) ++ [e] = acc ++ (es.take (i + 1)).filterMap f) | none => Δ = Δ2 ∧ acc ++ (es.take i).filterMap f = acc ++ (es.take (i + 1)).filterMap f) ?_
    cases e : f d with
    | none => rw [e] at key; exact ⟨rfl, by rw [key]; simp⟩
    | some z => rw [e] at key; exact ⟨hacc, rfl, by rw [key]; simp⟩
  · rintro a Δ2 ⟨rfl, rfl⟩
    rw [List.take_of_length_le (Nat.le_refl _)]
    exact hq
theorem take_flatMap {α β : Type} (f : α → List β) : ∀ (ds : List α) (i : Nat) (d : α), ds[i]? = some d → (ds.take (i + 1)).flatMap f = (ds.take i).flatMap f ++ f d
  | [], i, d, h => by simp at h
  | x :: xs, 0, d, h => by simp at h; subst h; simp
  | x :: xs, i + 1, d, h => by
    have ih := take_flatMap f xs i d (by simpa using h)
    simp only [List.take_succ_cons, List.flatMap_cons, ih, List.append_assoc]
theorem lc2_pure {own own1 : List Nat} {g g1 : DTG} {tt tt1 : DTT} {ti1 : DTI} {te : DTE} {ds : List D} {Δ1 : List Sl} {Q : Sl → List Sl → Prop} (F : D → List D) (Γ : List Sl) (hΓ : wipeD Δ1 own = Γ) (hl : (ds.flatMap F).length ≤ sizeLine)
    (h : ∀ d ∈ ds, ∀ (acc : List D) (R : List D → List Sl → Prop), acc.length + (F d).length ≤ sizeLine → R (acc ++ F d) Γ → g d Γ fun Δ3 => tt Δ3 (fun b Δ4 => if b = true then ti1 Δ4 (fun es Δ5 => dLCi own1 g1 tt1 te es Δ5 acc fun acc1 Δ6 => R acc1 (wipeD Δ6 own)) noE else R acc (wipeD Δ4 own)) noE)
    (hq : Q (.ol (ds.flatMap F)) Γ) : dLC2k own own1 g tt ti1 g1 tt1 te ds Δ1 Q := by
  refine ⟨fun i a Δ => Δ = Γ ∧ a = (ds.take i).flatMap F, ⟨hΓ, by simp⟩, ?_, ?_⟩
  · rintro i d a Δ2 hi ⟨rfl, rfl⟩
    have key := take_flatMap F ds i d hi
    refine h d (List.mem_of_getElem? hi) _ (fun a' Δ => Δ = Δ2 ∧ a' = (ds.take (i + 1)).flatMap F) ?_ ⟨rfl, key.symm⟩
    have e : ds.flatMap F = (ds.take (i + 1)).flatMap F ++ (ds.drop (i + 1)).flatMap F := by rw [← List.flatMap_append, List.take_append_drop]
    rw [e, key] at hl
    simp only [List.length_append] at hl
    omega
  · rintro a Δ2 ⟨rfl, rfl⟩
    rw [List.take_of_length_le (Nat.le_refl _)]
    exact hq
/-! ### == over trees -/
structure OkN (n : Nat) (d : D) : Prop where
  py : isPy d = true
  lay : (toPy d).canLay0 = true
  dep : (toPy d).depth ≤ n
theorem OkN.eq {n : Nat} {d : D} (h : OkN n d) (hn : n ≤ 64 := by decide) : OkEq d := ⟨h.py, by unfold SeqAt.shaped; rw [h.lay]; exact decide_eq_true (Nat.le_trans h.dep hn)⟩
theorem okN_int (n : Nat) (i : Int) : OkN n (.int i) := ⟨rfl, rfl, Nat.zero_le _⟩
theorem okN_bl (n : Nat) (i : Bool) : OkN n (.bl i) := ⟨rfl, rfl, Nat.zero_le _⟩
theorem okN_non (n : Nat) : OkN n .non := ⟨rfl, rfl, Nat.zero_le _⟩
theorem okN_all {n : Nat} : ∀ {xs : List D}, (∀ x ∈ xs, OkN n x) → isPys xs = true ∧ PyData.canLayAll0 (toPys xs) = true ∧ PyData.depthAll (toPys xs) ≤ n
  | [], _ => ⟨rfl, rfl, Nat.zero_le _⟩
  | x :: xs, h => by
    obtain ⟨a, b, c⟩ := okN_all fun y hy => h y (List.mem_cons_of_mem _ hy)
    have q := h x List.mem_cons_self
    refine ⟨by simp [isPys, q.py, a], by simp [toPys, PyData.canLayAll0, q.lay, b], ?_⟩
    show max (toPy x).depth (PyData.depthAll (toPys xs)) ≤ n
    exact Nat.max_le.mpr ⟨q.dep, c⟩
theorem okN_lst {n : Nat} {xs : List D} (h : ∀ x ∈ xs, OkN n x) : OkN (n + 1) (.lst xs) := ⟨(okN_all h).1, (okN_all h).2.1, Nat.succ_le_succ (okN_all h).2.2⟩
theorem okN_tup {n : Nat} {xs : List D} (h : ∀ x ∈ xs, OkN n x) : OkN (n + 1) (.tup xs) := ⟨(okN_all h).1, (okN_all h).2.1, Nat.succ_le_succ (okN_all h).2.2⟩
theorem okN_map {α : Type} {n : Nat} {f : α → D} {xs : List α} (h : ∀ x, OkN n (f x)) : ∀ x ∈ xs.map f, OkN n x := fun x hx => by
  obtain ⟨y, _, rfl⟩ := List.mem_map.mp hx
  exact h y
@[simp] theorem okEq_int (i : Int) : OkEq (.int i) := (okN_int 0 i).eq
@[simp] theorem okEq_bl (i : Bool) : OkEq (.bl i) := (okN_bl 0 i).eq
@[simp] theorem okEq_non : OkEq .non := (okN_non 0).eq
@[simp] theorem eqD_int (i j : Int) : eqD (.int i) (.int j) = decide (i = j) := by
  show (i == j) = _
  by_cases h : i = j <;> simp [h]
@[simp] theorem eqD_bl (i j : Bool) : eqD (.bl i) (.bl j) = decide (i = j) := by cases i <;> cases j <;> rfl
theorem eqvAll_map {α : Type} [DecidableEq α] {f : α → D} (h : ∀ x y, eqD (f x) (f y) = decide (x = y)) : ∀ xs ys : List α, PyData.eqvAll (toPys (xs.map f)) (toPys (ys.map f)) = decide (xs = ys)
  | [], [] => rfl
  | [], _ :: _ => rfl
  | _ :: _, [] => rfl
  | x :: xs, y :: ys => by
    show (eqD (f x) (f y) && PyData.eqvAll (toPys (xs.map f)) (toPys (ys.map f))) = _
    rw [eqvAll_map h xs ys, h x y]
    by_cases a : x = y <;> by_cases b : xs = ys <;> simp [a, b]
theorem eqD_lst {α : Type} [DecidableEq α] {f : α → D} (h : ∀ x y, eqD (f x) (f y) = decide (x = y)) (xs ys : List α) : eqD (.lst (xs.map f)) (.lst (ys.map f)) = decide (xs = ys) := eqvAll_map h xs ys
theorem eqD_tup {α : Type} [DecidableEq α] {f : α → D} (h : ∀ x y, eqD (f x) (f y) = decide (x = y)) (xs ys : List α) : eqD (.tup (xs.map f)) (.tup (ys.map f)) = decide (xs = ys) := eqvAll_map h xs ys
@[simp] theorem sEq {x y : D} {Q : Bool → Prop} : rdEq x y Q = (OkEq x ∧ OkEq y ∧ Q (eqD x y)) := rfl
@[simp] theorem sNe {x y : D} {Q : Bool → Prop} : rdNe x y Q = (OkEq x ∧ OkEq y ∧ Q (!eqD x y)) := rfl
/-! ### places, cuts -/
theorem atI_nat {α : Type} (xs : List α) (i : Nat) : atI xs (i : Int) = xs[i]? := by
  unfold atI ixN
  rw [if_pos (Int.natCast_nonneg _)]
  by_cases h : i < xs.length
  · rw [if_pos (by omega)]; simp
  · rw [if_neg (by omega)]; simp; omega
theorem atI_last {α : Type} (xs : List α) : atI xs (-1) = xs.getLast? := by
  unfold atI ixN
  rw [if_neg (by decide)]
  cases xs with
  | nil => rfl
  | cons x xs =>
    rw [if_pos (by simp; omega), List.getLast?_eq_getElem?]
    simp only [Option.bind_some, List.length_cons]
    congr 1
    omega
theorem cut_to {α : Type} (xs : List α) (n : Nat) : cut xs none (some (n : Int)) = xs.take n := by
  unfold cut
  rw [HT.sIx_none, HT.sIx_nat, List.drop_zero, Nat.sub_zero]
  by_cases h : n ≤ xs.length
  · rw [Nat.min_eq_left h]
  · rw [Nat.min_eq_right (by omega), List.take_of_length_le (by omega), List.take_of_length_le (by omega)]
theorem cut_from {α : Type} (xs : List α) (n : Nat) : cut xs (some (n : Int)) none = xs.drop n := by
  unfold cut
  rw [HT.sIx_none, HT.sIx_nat]
  by_cases h : n ≤ xs.length
  · rw [Nat.min_eq_left h, List.take_of_length_le (by rw [List.length_drop]; omega)]
  · rw [Nat.min_eq_right (by omega), List.drop_of_length_le (by omega), List.drop_of_length_le (by omega)]; simp
theorem cut_but {α : Type} (xs : List α) : cut xs none (some (-1)) = xs.dropLast := by
  unfold cut
  rw [HT.sIx_none, List.drop_zero, Nat.sub_zero]
  have e : HT.sIx xs.length xs.length (some (-1)) = xs.length - 1 := by
    show (if (-1 : Int) < 0 then ((-1 : Int) + (xs.length : Int)).toNat else min (-1 : Int).toNat xs.length) = _
    rw [if_pos (by decide)]
    omega
  rw [e, List.dropLast_eq_take]
theorem cut_last {α : Type} (xs : List α) : cut xs (some (-1)) none = xs.drop (xs.length - 1) := by
  unfold cut
  rw [HT.sIx_none]
  have e : HT.sIx xs.length 0 (some (-1)) = xs.length - 1 := by
    show (if (-1 : Int) < 0 then ((-1 : Int) + (xs.length : Int)).toNat else min (-1 : Int).toNat xs.length) = _
    rw [if_pos (by decide)]
    omega
  rw [e, List.take_of_length_le (by rw [List.length_drop]; omega)]
/-! ### isinstance of plain things -/
@[simp] theorem kit_NoneType_bool : kitB "NoneType" "bool" = some false := by decide +kernel
@[simp] theorem kit_NoneType_int : kitB "NoneType" "int" = some false := by decide +kernel
@[simp] theorem kit_NoneType_str : kitB "NoneType" "str" = some false := by decide +kernel
@[simp] theorem kit_NoneType_list : kitB "NoneType" "list" = some false := by decide +kernel
@[simp] theorem kit_NoneType_tuple : kitB "NoneType" "tuple" = some false := by decide +kernel
@[simp] theorem kit_NoneType_dict : kitB "NoneType" "dict" = some false := by decide +kernel
@[simp] theorem kit_bool_bool : kitB "bool" "bool" = some true := by decide +kernel
@[simp] theorem kit_bool_int : kitB "bool" "int" = some true := by decide +kernel
@[simp] theorem kit_bool_str : kitB "bool" "str" = some false := by decide +kernel
@[simp] theorem kit_bool_list : kitB "bool" "list" = some false := by decide +kernel
@[simp] theorem kit_bool_tuple : kitB "bool" "tuple" = some false := by decide +kernel
@[simp] theorem kit_bool_dict : kitB "bool" "dict" = some false := by decide +kernel
@[simp] theorem kit_int_bool : kitB "int" "bool" = some false := by decide +kernel
@[simp] theorem kit_int_int : kitB "int" "int" = some true := by decide +kernel
@[simp] theorem kit_int_str : kitB "int" "str" = some false := by decide +kernel
@[simp] theorem kit_int_list : kitB "int" "list" = some false := by decide +kernel
@[simp] theorem kit_int_tuple : kitB "int" "tuple" = some false := by decide +kernel
@[simp] theorem kit_int_dict : kitB "int" "dict" = some false := by decide +kernel
@[simp] theorem kit_str_bool : kitB "str" "bool" = some false := by decide +kernel
@[simp] theorem kit_str_int : kitB "str" "int" = some false := by decide +kernel
@[simp] theorem kit_str_str : kitB "str" "str" = some true := by decide +kernel
@[simp] theorem kit_str_list : kitB "str" "list" = some false := by decide +kernel
@[simp] theorem kit_str_tuple : kitB "str" "tuple" = some false := by decide +kernel
@[simp] theorem kit_str_dict : kitB "str" "dict" = some false := by decide +kernel
@[simp] theorem kit_list_bool : kitB "list" "bool" = some false := by decide +kernel
@[simp] theorem kit_list_int : kitB "list" "int" = some false := by decide +kernel
@[simp] theorem kit_list_str : kitB "list" "str" = some false := by decide +kernel
@[simp] theorem kit_list_list : kitB "list" "list" = some true := by decide +kernel
@[simp] theorem kit_list_tuple : kitB "list" "tuple" = some false := by decide +kernel
@[simp] theorem kit_list_dict : kitB "list" "dict" = some false := by decide +kernel
@[simp] theorem kit_tuple_bool : kitB "tuple" "bool" = some false := by decide +kernel
@[simp] theorem kit_tuple_int : kitB "tuple" "int" = some false := by decide +kernel
@[simp] theorem kit_tuple_str : kitB "tuple" "str" = some false := by decide +kernel
@[simp] theorem kit_tuple_list : kitB "tuple" "list" = some false := by decide +kernel
@[simp] theorem kit_tuple_tuple : kitB "tuple" "tuple" = some true := by decide +kernel
@[simp] theorem kit_tuple_dict : kitB "tuple" "dict" = some false := by decide +kernel
@[simp] theorem kit_dict_bool : kitB "dict" "bool" = some false := by decide +kernel
@[simp] theorem kit_dict_int : kitB "dict" "int" = some false := by decide +kernel
@[simp] theorem kit_dict_str : kitB "dict" "str" = some false := by decide +kernel
@[simp] theorem kit_dict_list : kitB "dict" "list" = some false := by decide +kernel
@[simp] theorem kit_dict_tuple : kitB "dict" "tuple" = some false := by decide +kernel
@[simp] theorem kit_dict_dict : kitB "dict" "dict" = some true := by decide +kernel
/-! ### loops -/
def dForK (g : DTG) (tb : DTS) (N : DEnds) (ds : List D) (Δ1 : List Sl) (E : EX) : Prop := ∃ Iv : Nat → List Sl → Prop, Iv 0 Δ1 ∧
  (∀ i d Δ2, ds[i]? = some d → Iv i Δ2 → g d Δ2 fun Δ3 => tb { nx := Iv (i + 1), ct := Iv (i + 1), bk := N.nx, rt := N.rt } Δ3 E) ∧ ∀ Δ2, Iv ds.length Δ2 → N.nx Δ2
@[simp] theorem sFor {ti : DTI} {g : DTG} {tb : DTS} {N : DEnds} {Δ : List Sl} {E : EX} : dFor ti g tb N Δ E = ti Δ (fun ds Δ1 => dForK g tb N ds Δ1 E) E := rfl
/-- a walk over what a map has made -/
theorem for_map {α : Type} {f : α → D} {g : DTG} {tb : DTS} {N : DEnds} {xs : List α} {Δ1 : List Sl} {E : EX} (Iv : Nat → List Sl → Prop) (h0 : Iv 0 Δ1)
    (hs : ∀ i x Δ2, xs[i]? = some x → Iv i Δ2 → g (f x) Δ2 fun Δ3 => tb { nx := Iv (i + 1), ct := Iv (i + 1), bk := N.nx, rt := N.rt } Δ3 E) (hd : ∀ Δ2, Iv xs.length Δ2 → N.nx Δ2) : dForK g tb N (xs.map f) Δ1 E := by
  refine ⟨Iv, h0, fun i d Δ2 hi q => ?_, fun Δ2 q => hd Δ2 (by rwa [List.length_map] at q)⟩
  rw [List.getElem?_map] at hi
  cases e : xs[i]? with
  | none => rw [e] at hi; cases hi
  | some x => rw [e] at hi; cases hi; exact hs i x Δ2 e q
theorem for_range {g : DTG} {tb : DTS} {N : DEnds} {lo : Int} {n : Nat} {Δ1 : List Sl} {E : EX} (Iv : Nat → List Sl → Prop) (h0 : Iv 0 Δ1)
    (hs : ∀ i Δ2, i < n → Iv i Δ2 → g (.int (lo + (i : Int))) Δ2 fun Δ3 => tb { nx := Iv (i + 1), ct := Iv (i + 1), bk := N.nx, rt := N.rt } Δ3 E) (hd : ∀ Δ2, Iv n Δ2 → N.nx Δ2) : dForK g tb N (rngD lo n) Δ1 E := by
  unfold rngD
  refine for_map (f := fun (i : Nat) => D.int (lo + i)) Iv h0 (fun i x Δ2 hi q => ?_) fun Δ2 q => hd Δ2 (by rwa [List.length_range] at q)
  obtain ⟨h1, h2⟩ := List.getElem?_eq_some_iff.mp hi
  rw [List.length_range] at h1
  rw [List.getElem_range] at h2
  subst h2
  exact hs _ Δ2 h1 q
/-- comprehensions over what a map has made -/
theorem lc_map {α : Type} {f : α → D} {own : List Nat} {g : DTG} {tt : DTT} {te : DTE} {xs : List α} {Δ1 : List Sl} {Q : Sl → List Sl → Prop} (F : α → Option D) (Γ : List Sl) (hΓ : wipeD Δ1 own = Γ) (hl : xs.length ≤ sizeLine)
    (h : ∀ x ∈ xs, ∀ R : Option D → List Sl → Prop, R (F x) Γ → g (f x) Γ fun Δ3 => tt Δ3 (fun b Δ4 => if b = true then te Δ4 (fun e Δ5 => R (some e) (wipeD Δ5 own)) noE else R none (wipeD Δ4 own)) noE)
    (hq : Q (.ol (xs.filterMap F)) Γ) : dLCk own g tt te (xs.map f) Δ1 Q := by
  refine ⟨fun i acc Δ => Δ = Γ ∧ acc = (xs.take i).filterMap F, ⟨hΓ, by simp⟩, ?_, ?_⟩
  · rintro i d acc Δ2 hi ⟨rfl, rfl⟩
    rw [List.getElem?_map] at hi
    cases ex : xs[i]? with
    | none => rw [ex] at hi; cases hi
    | some x =>
      rw [ex] at hi
      cases hi
      have hlt : i < xs.length := (List.getElem?_eq_some_iff.mp ex).1
      have hacc : ((xs.take i).filterMap F).length < sizeLine := by
        have a1 := List.length_filterMap_le F (xs.take i)
        rw [List.length_take] at a1
        omega
      have key := take_filterMap F xs i x ex
      refine h x (List.mem_of_getElem? ex) (fun o Δ => match o with | some e => ((xs.take i).filterMap F).length < sizeLine ∧ (Δ = Δ2 ∧ (xs.take i).filterMap F ++ [e] = (xs.take (i + 1)).filterMap F) | none => Δ = Δ2 ∧ (xs.take i).filterMap F = (xs.take (i + 1)).filterMap F) ?_
      cases e : F x with
      | none => rw [e] at key; exact ⟨rfl, by rw [key]; simp⟩
      | some z => rw [e] at key; exact ⟨hacc, rfl, by rw [key]; simp⟩
  · rintro acc Δ2 ⟨rfl, rfl⟩
    rw [List.length_map, List.take_of_length_le (Nat.le_refl _)]
    exact hq
theorem lc_range {own : List Nat} {g : DTG} {tt : DTT} {te : DTE} {lo : Int} {n : Nat} {Δ1 : List Sl} {Q : Sl → List Sl → Prop} (F : Nat → Option D) (Γ : List Sl) (hΓ : wipeD Δ1 own = Γ) (hl : n ≤ sizeLine)
    (h : ∀ i, i < n → ∀ R : Option D → List Sl → Prop, R (F i) Γ → g (.int (lo + (i : Int))) Γ fun Δ3 => tt Δ3 (fun b Δ4 => if b = true then te Δ4 (fun e Δ5 => R (some e) (wipeD Δ5 own)) noE else R none (wipeD Δ4 own)) noE)
    (hq : Q (.ol ((List.range n).filterMap F)) Γ) : dLCk own g tt te (rngD lo n) Δ1 Q := by
  unfold rngD
  exact lc_map (f := fun (i : Nat) => D.int (lo + i)) F Γ hΓ (by rwa [List.length_range]) (fun x hx => h x (List.mem_range.mp hx)) hq
@[simp] theorem sWipe0 {Δ : List Sl} : wipeD Δ [] = Δ := rfl
@[simp] theorem sWipe1 {Δ : List Sl} {v : Nat} {vs : List Nat} : wipeD Δ (v :: vs) = (wipeD Δ vs).set v .un := rfl
@[simp] theorem key_int {i : Int} : (D.int i).key = some (.inl i) := rfl
@[simp] theorem key_str {x : Str} : (D.str x).key = some (.inr x) := rfl
@[simp] theorem keyT_tup {ds : List D} : (D.tup ds).keyT = D.keys ds := rfl
@[simp] theorem keys_nil : D.keys [] = some [] := rfl
theorem keys_ints : ∀ ns : List Int, D.keys (ns.map D.int) = some (ns.map Sum.inl)
  | [] => rfl
  | n :: ns => by show (match (D.int n).key, D.keys (ns.map D.int) with | some k, some ks => some (k :: ks) | _, _ => none) = _; rw [keys_ints ns]; rfl
@[simp] theorem sInK {x : D} {kvs : List (Key × D)} {Q : Bool → Prop} : rdIn x (.dk kvs) Q = ∃ y, x.key = some y ∧ Q (val kvs y).isSome := by cases x <;> rfl
@[simp] theorem sInU {x : D} {kvs : List (List Key × D)} {Q : Bool → Prop} : rdIn x (.dt kvs) Q = ∃ y, x.keyT = some y ∧ Q (val kvs y).isSome := by cases x <;> rfl
@[simp] theorem sInL {x : D} {ys : List D} {Q : Bool → Prop} : rdIn x (.lst ys) Q = (OkEq x ∧ OkEq (.lst ys) ∧ Q (ys.any fun z => eqD z x)) := by cases x <;> rfl
@[simp] theorem sNotIn {x y : D} {Q : Bool → Prop} : rdNotIn x y Q = rdIn x y fun b => Q (!b) := rfl
/-! ### the kinds of plain things -/
@[simp] theorem tyN_NoneType  : tyN (D.non) = some "NoneType" := rfl
@[simp] theorem tyN_bool {b : Bool} : tyN (D.bl b) = some "bool" := rfl
@[simp] theorem tyN_int {i : Int} : tyN (D.int i) = some "int" := rfl
@[simp] theorem tyN_str {x : Str} : tyN (D.str x) = some "str" := rfl
@[simp] theorem tyN_list {xs : List D} : tyN (D.lst xs) = some "list" := rfl
@[simp] theorem tyN_tuple {xs : List D} : tyN (D.tup xs) = some "tuple" := rfl
@[simp] theorem tyN_dict {xs : List (Key × D)} : tyN (D.dk xs) = some "dict" := rfl
theorem all_true {α : Type} (l : List α) : (l.map fun _ => true).all id = true := by simp [List.all_eq_true]
end DL
-- DLdraw
set_option Elab.async false
set_option linter.all false
set_option maxRecDepth 100000
set_option maxHeartbeats 2000000
set_option autoImplicit false
namespace DL
open PySem PySem.Spec L2
open PyProof.Rows hiding St
/-! ### the law's draws: what is read of their dict, what is stored there -/
theorem ks {x y : Str} (h : ¬ x = y) : ¬ ((Sum.inr x : Key) = Sum.inr y) := fun e => h (Sum.inr.inj e)
theorem kLR : ¬ (("large" : Str) = "rest") := by decide +kernel
theorem kLT : ¬ (("large" : Str) = "turn") := by decide +kernel
theorem kLC : ¬ (("large" : Str) = "cells") := by decide +kernel
theorem kRT : ¬ (("rest" : Str) = "turn") := by decide +kernel
theorem kRC : ¬ (("rest" : Str) = "cells") := by decide +kernel
theorem kCT : ¬ (("cells" : Str) = "turn") := by decide +kernel
theorem draw_rest {lp cp : Addr} {r t : Int} : valV (drawKv lp cp r t) (Sum.inr ("rest" : Str) : Key) = some (.int r) := by
  unfold drawKv
  rw [valV_neg (ks kLR), valV_pos rfl]
theorem draw_turn {lp cp : Addr} {r t : Int} : valV (drawKv lp cp r t) (Sum.inr ("turn" : Str) : Key) = some (.int t) := by
  unfold drawKv
  rw [valV_neg (ks kLT), valV_neg (ks kRT), valV_neg (ks kCT), valV_pos rfl]
theorem draw_large {lp cp : Addr} {r t : Int} : valV (drawKv lp cp r t) (Sum.inr ("large" : Str) : Key) = some (.ref lp) := by
  unfold drawKv
  rw [valV_pos rfl]
theorem draw_cells {lp cp : Addr} {r t : Int} : valV (drawKv lp cp r t) (Sum.inr ("cells" : Str) : Key) = some (.ref cp) := by
  unfold drawKv
  rw [valV_neg (ks kLC), valV_neg (ks kRC), valV_pos rfl]
theorem put_rest {lp cp : Addr} {r t n : Int} : putK (drawKv lp cp r t) (Sum.inr ("rest" : Str) : Key) (.int n) = drawKv lp cp n t := by
  unfold putK drawKv
  simp only [List.any_cons, List.map_cons, List.map_nil, List.any_nil, if_neg (ks kLR), if_neg (ks fun e => kRC e.symm), if_neg (ks fun e => kRT e.symm), if_true, decide_true, Bool.true_or, Bool.or_true]
theorem put_turn {lp cp : Addr} {r t n : Int} : putK (drawKv lp cp r t) (Sum.inr ("turn" : Str) : Key) (.int n) = drawKv lp cp r n := by
  unfold putK drawKv
  simp only [List.any_cons, List.map_cons, List.map_nil, List.any_nil, if_neg (ks kLT), if_neg (ks kRT), if_neg (ks kCT), if_true, decide_true, Bool.true_or, Bool.or_true]
section
variable {K : PySem.W.Frag} {W : Wd K} {H0 B0 H B : Hp}
/-- the draws move on: all else stands -/
theorem grow_draw (g : Grow W H0 B0 H B) {p : Addr} {o : HO} (hp : W.fv p) (d : DrawOk W (upd H p o)) (ho : ∀ ps, H p ≠ some (.tbl ps)) : Grow W H B (upd H p o) B where
  ext := fun a u h s => by rw [upd_ne (fun z : a = p => s.2 (by rw [z]; exact hp))]; exact h
  dom := fun a h => by unfold upd; split <;> simp_all
  bas := Sub.refl B
  new := fun a h => .inl h
  sub := fun a u h => by
    obtain ⟨h1, h2⟩ := g.sub a u h
    exact ⟨by rw [upd_ne (fun z : a = p => h2.2 (by rw [z]; exact hp))]; exact h1, h2⟩
  wok := by
    refine ⟨d, fun q hq => ?_⟩
    obtain ⟨ps, a1, a2, a3⟩ := g.wok.2 q hq
    refine ⟨ps, by rw [upd_ne (fun z => ho ps (by rw [← z]; exact a1))]; exact a1, a2, fun pos cv e => ?_⟩
    obtain ⟨c, e1, e2⟩ := a3 pos cv e
    exact ⟨c, e1, by rw [upd_ne (fun z : c = p => W.fvx g.wok e2 (by rw [z]; exact hp))]; exact e2⟩
end
/-- some number, we don't say which -/
def dAnyI (i : Nat) : DTE := fun Δ Q _ => Δ[i]? = some (.im .drw) ∧ ∀ n : Int, Q (.int n) Δ
def dPutI (i : Nat) (t : DTE) : DTS := fun N Δ E => t Δ (fun d Δ1 => Δ1[i]? = some (.im .drw) ∧ ∃ n, d = .int n ∧ N.nx Δ1) E
@[simp] theorem sAnyI {i : Nat} {Δ : List Sl} {Q : D → List Sl → Prop} {E : EX} : dAnyI i Δ Q E = (Δ[i]? = some (.im .drw) ∧ ∀ n : Int, Q (.int n) Δ) := rfl
@[simp] theorem sPutI {i : Nat} {t : DTE} {N : DEnds} {Δ : List Sl} {E : EX} : dPutI i t N Δ E = t Δ (fun d Δ1 => Δ1[i]? = some (.im .drw) ∧ ∃ n, d = .int n ∧ N.nx Δ1) E := rfl
section
variable {X : Cx} {G : Gx X.K} {pos : Pos}
theorem DR.drw {Δ : List Sl} {σ : L2.St} {H B : Hp} (r : DR G Δ σ H B) {i : Nat} (e : Δ[i]? = some (.im .drw)) : σ[i]? = some (some (.ref G.W.dp)) := by
  obtain ⟨v, h, q⟩ := r.get e
  cases q
  exact h
theorem de_rest (i : Nat) {x : Str} {p p2 : Pos} {j : Nat} (hu : X.A.units + 1 < cLine) (hN : X.N[i]? = some x := by rfl) (hv : Vis X.env.scope x := by first | exact Or.inl rfl | exact Or.inr (Or.inl rfl) | exact Or.inr (Or.inr rfl)) (hd : (x == ("__debug__" : Str)) = false := by decide) (hcd : (x == ("__classdict__" : Str)) = false := by decide) :
    PE X (.Subscript (.Name x p) (.Constant (.str "rest") j p2) pos) (upE G (dAnyI i)) :=
  PE.imp (pe_dget hu (pe_var hN hv hd hcd) pe_str (fun _ _ => rfl)) fun σ H Q ⟨Δ, B, Qd, r, ⟨e, q⟩, k⟩ => by
    obtain ⟨rr, t, ls, h1, h2, h3⟩ := r.wok.1
    refine ⟨_, r.drw e, _, .int rr, rfl, ?_, k _ Δ _ H B (q rr) r (Sub.refl B) (.int _)⟩
    have := DGet.k (k := (Sum.inr ("rest" : Str) : Key)) h1
    rw [draw_rest] at this
    exact this
theorem de_turn (i : Nat) {x : Str} {p p2 : Pos} {j : Nat} (hu : X.A.units + 1 < cLine) (hN : X.N[i]? = some x := by rfl) (hv : Vis X.env.scope x := by first | exact Or.inl rfl | exact Or.inr (Or.inl rfl) | exact Or.inr (Or.inr rfl)) (hd : (x == ("__debug__" : Str)) = false := by decide) (hcd : (x == ("__classdict__" : Str)) = false := by decide) :
    PE X (.Subscript (.Name x p) (.Constant (.str "turn") j p2) pos) (upE G (dAnyI i)) :=
  PE.imp (pe_dget hu (pe_var hN hv hd hcd) pe_str (fun _ _ => rfl)) fun σ H Q ⟨Δ, B, Qd, r, ⟨e, q⟩, k⟩ => by
    obtain ⟨rr, t, ls, h1, h2, h3⟩ := r.wok.1
    refine ⟨_, r.drw e, _, .int t, rfl, ?_, k _ Δ _ H B (q t) r (Sub.refl B) (.int _)⟩
    have := DGet.k (k := (Sum.inr ("turn" : Str) : Key)) h1
    rw [draw_turn] at this
    exact this
theorem draw_put {H : Hp} {W : Wd X.K} {kvs : List (Key × V)} {r' t' : Int} (d : DrawOk W H) (e : kvs = drawKv W.lp W.cp r' t') : DrawOk W (upd H W.dp (.dK kvs)) := by
  obtain ⟨rr, t, ls, h1, h2, h3⟩ := d
  exact ⟨r', t', ls, by rw [upd_same, e], by rw [upd_ne W.n1.symm]; exact h2, by rw [upd_ne W.n2.symm]; exact h3⟩
theorem ds_putRest (i : Nat) {x : Str} {p p2 sp : Pos} {j : Nat} {e : Expr} {t : DTE} (hu : X.A.units + 1 < cLine) (he : PE X e (upE G t)) (hN : X.N[i]? = some x := by rfl) (hv : Vis X.env.scope x := by first | exact Or.inl rfl | exact Or.inr (Or.inl rfl) | exact Or.inr (Or.inr rfl)) (hd : (x == ("__debug__" : Str)) = false := by decide) (hcd : (x == ("__classdict__" : Str)) = false := by decide)
    (hs : swapsWith e (some (.Subscript (.Name x p) (.Constant (.str "rest") j p2) sp)) pos.line X.env = pure false := by rfl) : PS X (.Assign [.Subscript (.Name x p) (.Constant (.str "rest") j p2) sp] e pos) (upS G (dPutI i t)) :=
  PS.imp (ps_dput hu (pe_var hN hv hd hcd) pe_str he hs) fun N σ H ⟨Δ, B, M, r, q, k, _⟩ => ⟨Δ, B, _, r, q, fun d Δ1 v H1 B1 ⟨e1, n, ed, qn⟩ r1 s1 rp => by
    subst ed
    cases rp
    obtain ⟨rr, t, ls, h1, h2, h3⟩ := r1.wok.1
    have g := grow_draw r1.gr (p := G.W.dp) (.inl rfl) (draw_put ⟨rr, t, ls, h1, h2, h3⟩ (put_rest (r := rr) (t := t) (n := n))) (fun ps z => by rw [h1] at z; cases z)
    exact ⟨_, r1.drw e1, _, _, rfl, DPut.k (k := (Sum.inr ("rest" : Str) : Key)) h1 (by show 4 < sizeLine; decide), k Δ1 _ _ _ qn (r1.grow g) (s1.trans g.bas)⟩⟩
theorem ds_putTurn (i : Nat) {x : Str} {p p2 sp : Pos} {j : Nat} {e : Expr} {t : DTE} (hu : X.A.units + 1 < cLine) (he : PE X e (upE G t)) (hN : X.N[i]? = some x := by rfl) (hv : Vis X.env.scope x := by first | exact Or.inl rfl | exact Or.inr (Or.inl rfl) | exact Or.inr (Or.inr rfl)) (hd : (x == ("__debug__" : Str)) = false := by decide) (hcd : (x == ("__classdict__" : Str)) = false := by decide)
    (hs : swapsWith e (some (.Subscript (.Name x p) (.Constant (.str "turn") j p2) sp)) pos.line X.env = pure false := by rfl) : PS X (.Assign [.Subscript (.Name x p) (.Constant (.str "turn") j p2) sp] e pos) (upS G (dPutI i t)) :=
  PS.imp (ps_dput hu (pe_var hN hv hd hcd) pe_str he hs) fun N σ H ⟨Δ, B, M, r, q, k, _⟩ => ⟨Δ, B, _, r, q, fun d Δ1 v H1 B1 ⟨e1, n, ed, qn⟩ r1 s1 rp => by
    subst ed
    cases rp
    obtain ⟨rr, t, ls, h1, h2, h3⟩ := r1.wok.1
    have g := grow_draw r1.gr (p := G.W.dp) (.inl rfl) (draw_put ⟨rr, t, ls, h1, h2, h3⟩ (put_turn (r := rr) (t := t) (n := n))) (fun ps z => by rw [h1] at z; cases z)
    exact ⟨_, r1.drw e1, _, _, rfl, DPut.k (k := (Sum.inr ("turn" : Str) : Key)) h1 (by show 4 < sizeLine; decide), k Δ1 _ _ _ qn (r1.grow g) (s1.trans g.bas)⟩⟩
/-- for cell in draw['cells'] -/
def dCells (i : Nat) : DTI := fun Δ Q _ => Δ[i]? = some (.im .drw) ∧ ∀ cs : List Int, Q (cs.map D.int) Δ
@[simp] theorem sCells {i : Nat} {Δ : List Sl} {Q : List D → List Sl → Prop} {E : EX} : dCells i Δ Q E = (Δ[i]? = some (.im .drw) ∧ ∀ cs : List Int, Q (cs.map D.int) Δ) := rfl
theorem ItD.cells {W : Wd X.K} {B : Hp} : ItD W B (W.cs.map D.int) (Itl X.K W.cp) where
  stop := fun g s hi => ⟨_, .of g.wok.1.choose_spec.choose_spec.choose_spec.2.2, by simpa using hi⟩
  go := fun {i _ _ _ _} g s hi => by
    have hi : i < W.cs.length := by simpa using hi
    exact ⟨_, .int W.cs[i], .of g.wok.1.choose_spec.choose_spec.choose_spec.2.2, by simp [hi]⟩
  yld := fun {i _ _ _ _ x _} g s hi ⟨h1, h2⟩ => by
    subst h1
    have hi : i < W.cs.length := by simpa using hi
    have e := h2 _ (.of g.wok.1.choose_spec.choose_spec.choose_spec.2.2)
    simp only [List.getElem?_map, List.getElem?_eq_getElem hi, Option.map_some, Option.some.injEq] at e
    subst e
    exact ⟨_, .int W.cs[i], by simp [hi], g.self, .int _⟩
theorem di_cells (i : Nat) {tg : Expr} {x : Str} {p p2 : Pos} {j : Nat} (hu : X.A.units + 1 < cLine) (hN : X.N[i]? = some x := by rfl) (hv : Vis X.env.scope x := by first | exact Or.inl rfl | exact Or.inr (Or.inl rfl) | exact Or.inr (Or.inr rfl)) (hd : (x == ("__debug__" : Str)) = false := by decide) (hcd : (x == ("__classdict__" : Str)) = false := by decide) :
    PI X tg (.Subscript (.Name x p) (.Constant (.str "cells") j p2) pos) (upI G (dCells i)) :=
  PI.imp (pi_list (pe_dget hu (pe_var hN hv hd hcd) pe_str (fun _ _ => rfl))) fun σ H R ⟨Δ, B, Qd, r, ⟨e, q⟩, k⟩ => by
    obtain ⟨rr, t, ls, h1, h2, h3⟩ := r.wok.1
    refine ⟨_, r.drw e, _, .ref G.W.cp, rfl, ?_, G.W.cp, rfl, ⟨_, .of h3⟩, k _ Δ _ H B (q G.W.cs) r (Sub.refl B) .cells⟩
    have := DGet.k (k := (Sum.inr ("cells" : Str) : Key)) h1
    rw [draw_cells] at this
    exact this
/-- draw['large'].pop(0) if draw['large'] != [] else f(draw) -/
def dLarge (i : Nat) : DTE := fun Δ Q _ => Δ[i]? = some (.im .drw) ∧ ∀ n : Int, Q (.int n) Δ
@[simp] theorem sLarge {i : Nat} {Δ : List Sl} {Q : D → List Sl → Prop} {E : EX} : dLarge i Δ Q E = (Δ[i]? = some (.im .drw) ∧ ∀ n : Int, Q (.int n) Δ) := rfl
theorem eqv_ints : ∀ ls : List Int, PyData.eqv (.list (ls.map .int)) (.list []) = decide (ls = [])
  | [] => rfl
  | _ :: _ => rfl
theorem dp_ints {K : PySem.W.Frag} {H : Hp} : ∀ ls : List Int, DpAll K H (ls.map V.int) (ls.map PyData.int)
  | [] => .nil
  | n :: ls => .cons (.int n) (dp_ints ls)
theorem shaped_ints (ls : List Int) : SeqAt.shaped (.list (ls.map PyData.int)) = true := by
  have h : ∀ ls : List Int, PyData.canLayAll0 (ls.map PyData.int) = true ∧ PyData.depthAll (ls.map PyData.int) = 0 := fun ls => by
    induction ls with
    | nil => exact ⟨rfl, rfl⟩
    | cons n ls ih => exact ⟨by simp [PyData.canLayAll0, PyData.canLay0, ih.1], by show max 0 _ = 0; rw [ih.2]; rfl⟩
  unfold SeqAt.shaped
  show (PyData.canLayAll0 _ && decide (PyData.depthAll _ + 1 ≤ 64)) = true
  rw [(h ls).1, (h ls).2]
  rfl
theorem de_large (i : Nat) {k : Nat} {x y : Str} {p p1 p2 p3 p4 p5 p6 p7 p8 p9 pa pb pc pd : Pos} {j j1 j2 : Nat} {t : DTE} (hr : DL.Room k X.A) (hm : PE X (.Call (.Name y p6) [.Name x p7] [] p8) (upE G t)) (ht : ∀ Δ Q, Δ[i]? = some (.im .drw) → (∀ n : Int, Q (.int n) Δ) → t Δ Q G.Ed) (hN : X.N[i]? = some x := by rfl) (hv : Vis X.env.scope x := by first | exact Or.inl rfl | exact Or.inr (Or.inl rfl) | exact Or.inr (Or.inr rfl))
    (hd : (x == ("__debug__" : Str)) = false := by decide) (hcd : (x == ("__classdict__" : Str)) = false := by decide)
    (hbase : attributeBase (.Subscript (.Name x p) (.Constant (.str "large") j p1) p2) "pop" X.env (eval (.Subscript (.Name x p) (.Constant (.str "large") j p1) p2) X.env) = eval (.Subscript (.Name x p) (.Constant (.str "large") j p1) p2) X.env := by rfl)
    (hline : (p3.endLine == p4.line) = true := by rfl)
    (hfew : ((backTo p4 (starEach [(.Constant (.int 0) j1 p5 : Expr)] X.env)).all (fun x => !x.1) && (backToKw p4 (keywordEach [] X.env)).all (fun x => x.1.isSome) && decide ([(.Constant (.int 0) j1 p5 : Expr)].length + ([] : List Keyword).length + (if ([] : List Keyword).isEmpty then 0 else 1) < 30)) = true := by rfl)
    (hst : starEach [(.Constant (.int 0) j1 p5 : Expr)] X.env = (false, eval (.Constant (.int 0) j1 p5) X.env) :: starEach [] X.env := by rfl) :
    PE X (.IfExp (.Compare (.Subscript (.Name x p9) (.Constant (.str "large") j2 pa) pb) [.NotEq] [.List [] pc] pd) (.Call (.Attribute (.Subscript (.Name x p) (.Constant (.str "large") j p1) p2) "pop" p3) [.Constant (.int 0) j1 p5] [] p4) (.Call (.Name y p6) [.Name x p7] [] p8) pos) (upE G (dLarge i)) := by
  have hu := hu_of hr
  have gt : ∀ {p9 pa pb : Pos} {j2 : Nat}, PE X (.Subscript (.Name x p9) (.Constant (.str "large") j2 pa) pb) (tDGet (tVar i) (tC (.str "large"))) := fun {_ _ _ _} => pe_dget hu (pe_var hN hv hd hcd) pe_str (fun _ _ => rfl)
  refine PE.imp (pe_ifExp (pt_cmpR (op_neD hr.units) gt (pe_lst pa_nil) (nomark _)) (pe_bm PySem.F.plainAttrs_list PySem.F.slot_list_pop PySem.F.type_list_pop mt_popAt gt (pa_cons pe_int pa_nil) hbase hfew hline hst rfl) hm) fun σ H Q ⟨Δ, B, Qd, r, ⟨e, q⟩, kk⟩ => ?_
  obtain ⟨rr, tt, ls, h1, h2, h3⟩ := r.wok.1
  have gl : ∀ {H' : Hp}, H' G.W.dp = some (.dK (drawKv G.W.lp G.W.cp rr tt)) → DGet H' G.W.dp (.str "large") (some (.ref G.W.lp)) := fun h => by
    have := DGet.k (k := (Sum.inr ("large" : Str) : Key)) h
    rw [draw_large] at this
    exact this
  refine ⟨_, r.drw e, _, .ref G.W.lp, rfl, gl h1, by decide, fun l hl => ?_⟩
  have g0 := r.gr.allocO (o := .lst []) hl
  have r1 : DR G Δ σ (upd H l (.lst [])) B := r.grow g0
  have dl : G.W.dp ≠ l := ne_of_none h1 hl
  have ll : G.W.lp ≠ l := ne_of_none h2 hl
  have h1' : upd H l (.lst []) G.W.dp = some (.dK (drawKv G.W.lp G.W.cp rr tt)) := by rw [upd_ne dl]; exact h1
  have h2' : upd H l (.lst []) G.W.lp = some (.lst (ls.map V.int)) := by rw [upd_ne ll]; exact h2
  have h3' : upd H l (.lst []) G.W.cp = some (.lst (G.W.cs.map V.int)) := by rw [upd_ne (ne_of_none h3 hl)]; exact h3
  refine ⟨_, _, .lst (.of h2') (dp_ints ls), .lst (.of upd_same) .nil, shaped_ints ls, rfl, _, rfl, ?_⟩
  rw [eqv_ints]
  cases ls with
  | nil => exact ⟨Δ, B, _, r1, ht Δ (fun d Δ' => Qd d Δ') e q, fun d Δ' v H' B' qd r' s' rp => kk d Δ' v H' B' qd r' s' rp⟩
  | cons z zs =>
    refine ⟨_, r.drw e, _, .ref G.W.lp, rfl, gl h1', .inl ⟨rfl, _, .of h2'⟩, G.W.lp, _, 0, 0, .int z, rfl, rfl, h2', by decide, by decide, ?_, rfl, ?_⟩
    · unfold seqIndex?; simp
    · have d2 : DrawOk G.W (upd (upd H l (.lst [])) G.W.lp (.lst (zs.map V.int))) := ⟨rr, tt, zs, by rw [upd_ne G.W.n1]; exact h1', upd_same, by rw [upd_ne G.W.n3.symm]; exact h3'⟩
      have g := grow_draw r1.gr (p := G.W.lp) (.inr (.inl rfl)) d2 (fun ps z => by rw [h2'] at z; cases z)
      exact kk _ Δ _ _ _ (q z) (r1.grow g) (Sub.refl B) (.int z)
end
/-! ### more of == -/
@[simp] theorem eqD_nil (xs : List D) : eqD (.lst xs) (.lst []) = decide (xs = []) := by cases xs <;> rfl
@[simp] theorem okEq_bls (xs : List Bool) : OkEq (.lst (xs.map D.bl)) := (okN_lst (n := 0) (okN_map fun x => okN_bl 0 x)).eq
@[simp] theorem okEq_nil : OkEq (.lst []) := okEq_bls []
@[simp] theorem eqD_bls (xs ys : List Bool) : eqD (.lst (xs.map D.bl)) (.lst (ys.map D.bl)) = decide (xs = ys) := eqD_lst (fun x y => eqD_bl x y) xs ys
theorem atI_m1 {α : Type} (xs : List α) : atI xs (-1) = xs.getLast? := atI_last xs
theorem set_id {α : Type} : ∀ {l : List α} {i : Nat} {x : α}, l[i]? = some x → l.set i x = l
  | [], _, _, h => by simp at h
  | _ :: _, 0, _, h => by simp at h; subst h; rfl
  | y :: l, i + 1, x, h => by rw [List.set_cons_succ, set_id (by simpa using h)]
theorem ht_mixed {sp : SpD} {i : Nat} {E : EX} (h : ∀ (Q : D → Prop) (E : EX), (∀ n : Int, Q (.int n)) → sp [.drw] Q E) : ∀ (Δ : List Sl) (Q : D → List Sl → Prop), Δ[i]? = some (.im .drw) → (∀ n : Int, Q (.int n) Δ) → DL.dFn sp (dCons (dVar i) dNil) Δ Q E := fun Δ Q e q => by
  simp [e]
  rw [set_id e]
  exact h _ E q
end DL
-- DLend
set_option Elab.async false
set_option linter.all false
set_option maxRecDepth 100000
set_option maxHeartbeats 2000000
set_option autoImplicit false
namespace DL
open PySem PySem.Spec L2
open PyProof.Rows hiding St
/-! ### the law's call, from the top's heap, at the caller alone (no repr is under way there) -/
section
variable {P : Program} {w : World} {K : PySem.W.Frag} {mg mb : Str → Option Value} {k : Nat} {fa a : Addr} {cs : List (Addr × Addr)} {fd : FuncData} {x : Str} {sp : Sp} {t0 : Shared} {us : List Value} {zs : List Int}
/-- what of the heap is told at the law's entry: the tables, the script unless the top has left it -/
structure Told (K : PySem.W.Frag) (t0 : Shared) (a : Addr) (cs : List (Addr × Addr)) (zs : List Int) (P : Program) (w : World) (H : Hp) : Prop where
  tab : ∀ q ∈ cs, H q.2 = some (.tbl #[])
  only : ∀ b u, H b = some u → (∃ q ∈ cs, q.2 = b) ∨ (b = a ∧ K.lookup a = none ∧ ∃ o ys, u = .frz o (.lst ys))
  sq : SqL K H a (zs.map V.int)
  ok : HOk P w H t0.heap
theorem told_run (KX : K.In t0.heap) (hns : t0.heap.Ns mainGlobals mg) (hb : t0.heap.Ns builtinsNs mb) (hbb : ∀ y : Str, y ≠ "__name__" → mb y = bootBuiltins y) (hlim : t0.heap.NoLimit) (hg : t0.gens = #[])
    (hT : ∀ q ∈ cs, t0.heap.get? q.2 = some (PySem.W.tabObj #[])) (nT : ∀ q ∈ cs, K.lookup q.2 = none) (C : ∀ q ∈ cs, PySem.W.CodeHd t0.heap q.1 q.2)
    (hbm : ∃ (bm : Addr) (ob : Obj), mg "__builtins__" = some (.ref bm) ∧ bm ≠ builtinsNs ∧ t0.heap.get? bm = some ob ∧ ob.cls = .type "module" ∧ ob.dict = some builtinsNs ∧ ob.data = .plain)
    (ha : t0.heap.get? a = some { cls := .type "list", data := .seq us.toArray }) (hr : DL.Room k callerA)
    (F : ∀ base : Heap, K.In base → base.Ns mainGlobals mg → (∀ q ∈ cs, LamX.TabB base mg q.1 q.2) → DL.FnOk P w K mg base (L2.CX P w) k fa fd [x] sp) (hbind : ∀ (s : Shared) (u : Value), BindsTo s fd ⟨[u], []⟩ [(x, u)])
    (hsp : ∀ H : Hp, (∀ q ∈ cs, H q.2 = some (.tbl #[])) → SqL K H a (zs.map V.int) → sp [.ref a] H (fun v _ => v = .bl true) fun _ _ _ => False) {H : Hp} (Z : Told K t0 a cs zs P w H) :
    codeAny (model P w) callerA (.call (.ref fa) ⟨[.ref a], []⟩) (fun r s' => r = .ok (.ret (.bool true)) ∧ OldK t0.heap s'.heap ∧ s'.os = t0.os ∧ AllBare s'.gens) t0 := by
  have clear : ∀ {b : Addr} {o : Obj}, t0.heap.get? b = some o → (∀ vs n, o.data ≠ .seq vs n) → o.data ≠ .fields #[] → H b = none := fun {b o} e d1 d2 => by
    cases q : H b with
    | none => rfl
    | some u =>
      exfalso
      rcases Z.only b u q with ⟨z, hz, rfl⟩ | ⟨rfl, _⟩
      · rw [hT z hz] at e; cases e; exact d2 rfl
      · rw [ha] at e; cases e; exact d1 _ _ rfl
  have up : ∀ {b : Addr} {o : Obj}, t0.heap.get? b = some o → H b = none → (hidT t0.heap H).get? b = some o := fun e n => hidT_get e n
  have ns : ∀ {b : Addr} {m : Str → Option Value}, t0.heap.Ns b m → (hidT t0.heap H).Ns b m := fun {b m} h => by
    obtain ⟨o, es, ep, e, d, r⟩ := h
    exact ⟨o, es, ep, up e (clear e (fun _ _ z => by rw [d] at z; cases z) fun z => by rw [d] at z; cases z), d, r⟩
  have kin : K.In (hidT t0.heap H) := fun b o e => up (KX b o e) (by
    cases q : H b with
    | none => rfl
    | some u =>
      exfalso
      rcases Z.only b u q with ⟨z, hz, rfl⟩ | ⟨rfl, hk, _⟩
      · rw [nT z hz] at e; cases e
      · rw [hk] at e; cases e)
  have md : L2.Mod K mg (hidT t0.heap H) := ⟨kin, ns hns, ⟨mb, ns hb, hbb⟩, by
    obtain ⟨mc, l1, l2⟩ := hlim
    exact ⟨mc, ns l1, l2⟩⟩
  have tb : ∀ q ∈ cs, LamX.TabB (hidT t0.heap H) mg q.1 q.2 := fun q hq => by
    have hq2 := hT q hq
    refine ⟨?_, ?_, fun z => ?_⟩
    · obtain ⟨o, vs, f1, f2, f3, f4, f5, f6, f7, e, rest⟩ := C q hq
      refine ⟨o, vs, f1, f2, f3, f4, f5, f6, f7, up e (clear e (fun _ _ z => ?_) fun z => ?_), rest⟩
      · rw [rest.2.1] at z; cases z
      · have r3 := rest.2.2.1
        rw [rest.2.1] at z; cases z; simp at r3
    · obtain ⟨m0, ob, g1, g2, g3, g4, g5, g6⟩ := hbm
      have n1 : m0 ≠ mainGlobals := by
        rintro rfl
        obtain ⟨o, es, ep, e, d, _⟩ := hns
        rw [e] at g3; cases g3; rw [d] at g6; cases g6
      have n2 : m0 ≠ q.2 := by
        rintro rfl
        rw [hq2] at g3; cases g3; cases g6
      exact ⟨m0, ob, g1, g2, n1, n2, up g3 (clear g3 (fun _ _ z => by rw [g6] at z; cases z) fun z => by rw [g6] at z; cases z), g4, g5, g6⟩
    · obtain ⟨o, es, ep, e, d, _⟩ := hns
      rw [z, hq2] at e; cases e; cases d
  have en : Env0 P w K mg (hidT t0.heap H) callerA [] t0 H := by
    refine ⟨rfl, md, fun b o e => of_hidT e, Nat.le_of_eq (hidT_size _ _), trivial, fun b hb => ?_, Z.ok, .of_eq hg⟩
    cases hb
  refine codeAny_mono ((F _ kin (ns hns) tb).run callerA [] t0 H ⟨[.ref a], []⟩ [.ref a] [.ref a] (fun v _ => v = .bl true) (fun _ _ _ => False) hr en (hbind t0 (.ref a)) (.cons rfl .nil) (hsp H Z.tab Z.sq)) fun r s' h => ?_
  match r, h with
  | .error e, h => obtain ⟨_, _, _, _, _, _, _, _, _, _, _, _, q⟩ := h; exact False.elim q
  | .ok .next, h => exact False.elim h
  | .ok .brk, h => exact False.elim h
  | .ok .cont, h => exact False.elim h
  | .ok (.ret u), h =>
    obtain ⟨v, H', os, bare, un, hok', rv, q⟩ := h
    have q : v = .bl true := q
    subst q
    obtain rfl : u = Value.bool true := rv
    have kept : ∀ b o, (¬ ∃ z ∈ cs, z.2 = b) → t0.heap.get? b = some o → s'.heap.get? b = some o := fun b o nb e => by
      cases q : H b with
      | none => exact un.keep b o e q (fun z => by cases z) (by simp)
      | some u =>
        rcases Z.only b u q with z | ⟨rfl, _, ob, ys, rfl⟩
        · exact absurd z nb
        · have e1 := (Z.ok b _ q).1
          have e2 := (hok' b _ (un.frzs b ob _ q)).1
          rw [e] at e1; cases e1; exact e2
    have grown : ∀ z ∈ cs, ∃ more : Array Value, s'.heap.get? z.2 = some { cls := .none, data := .fields more } := fun z hz => by
      obtain ⟨more, h1⟩ := un.tbls z.2 #[] (Z.tab z hz)
      exact ⟨_, hok' z.2 _ h1⟩
    refine ⟨rfl, ⟨fun b o e => ?_, fun b o e => ?_⟩, os, bare⟩
    · by_cases hz : ∃ z ∈ cs, z.2 = b
      · obtain ⟨z, hz, rfl⟩ := hz
        obtain ⟨more, hm⟩ := grown z hz
        rw [hT z hz] at e; cases e
        exact .inr (.inl ⟨((C z hz).tab (hT z hz)).isCodeTable, rfl, #[], more, rfl, by rw [Array.empty_append]; exact hm⟩)
      · exact .inl (kept b o hz e)
    · by_cases hz : ∃ z ∈ cs, z.2 = b
      · obtain ⟨z, hz, rfl⟩ := hz
        obtain ⟨more, hm⟩ := grown z hz
        exact ⟨_, hm⟩
      · exact ⟨o, kept b o hz e⟩
/-- the two ways in which the script stands -/
theorem told_ex (KX : K.In t0.heap) (hT : ∀ q ∈ cs, t0.heap.get? q.2 = some (PySem.W.tabObj #[])) (ha : t0.heap.get? a = some { cls := .type "list", data := .seq us.toArray }) (hi : IntsAre us zs) (hl : zs.length ≤ sizeLine) : ∃ H, Told K t0 a cs zs P w H := by
  have rv := vals_ints hi
  have lv := hi.length
  have na : ∀ q ∈ cs, q.2 ≠ a := fun q hq z => by
    have e := hT q hq
    rw [z, ha] at e; cases e
  open Classical in
  let H0 : Hp := fun b => if ∃ q ∈ cs, q.2 = b then some (.tbl #[]) else none
  have h0 : ∀ {b u}, H0 b = some u → (∃ q ∈ cs, q.2 = b) ∧ u = .tbl #[] := fun {b u} h => by
    by_cases z : ∃ q ∈ cs, q.2 = b
    · simp only [H0, if_pos z] at h; cases h; exact ⟨z, rfl⟩
    · simp only [H0, if_neg z] at h; cases h
  have h1 : ∀ q ∈ cs, H0 q.2 = some (.tbl #[]) := fun q hq => by simp only [H0]; rw [if_pos ⟨q, hq, rfl⟩]
  have ok0 : ∀ b, (∃ q ∈ cs, q.2 = b) → t0.heap.get? b = some (PySem.W.tabObj #[]) := fun b ⟨q, hq, e⟩ => by rw [← e]; exact hT q hq
  cases hk : K.lookup a with
  | some o =>
    have e := KX a o hk
    rw [ha] at e; cases e
    exact ⟨H0, h1, fun b u h => .inl (h0 h).1, .inr ⟨_, us.toArray, _, hk, rfl, rfl, rfl, by rw [List.size_toArray, lv]; exact hl, by simpa using rv⟩, fun b u h => by obtain ⟨z, rfl⟩ := h0 h; exact ok0 b z⟩
  | none =>
    refine ⟨upd H0 a (.frz { cls := .type "list", data := .seq us.toArray } (.lst (zs.map V.int))), fun q hq => by rw [upd_ne (na q hq)]; exact h1 q hq, fun b u h => ?_, .inl (.inr ⟨_, upd_same⟩), fun b u h => ?_⟩
    · by_cases z : b = a
      · subst z; rw [upd_same] at h; cases h; exact .inr ⟨rfl, hk, _, _, rfl⟩
      · rw [upd_ne z] at h; exact .inl (h0 h).1
    · by_cases z : b = a
      · subst z; rw [upd_same] at h; cases h
        exact ⟨ha, by rw [List.length_map]; exact hl, us, _, rv, ha⟩
      · rw [upd_ne z] at h
        obtain ⟨z, rfl⟩ := h0 h
        exact ok0 b z
end
/-- what is known of the law's promise at the head's heap -/
def LawAtD (l : PySem.W.OpenLaw) (w : World) (K : PySem.W.Frag) (k n : Nat) (x : Str) (mg : Str → Option Value) (fa : Addr) (h : Heap) : Prop :=
  ∃ (fd : FuncData) (cs : List (Addr × Addr)) (sp : Sp), (∀ q ∈ cs, h.get? q.2 = some (PySem.W.tabObj #[])) ∧ (∀ q ∈ cs, K.lookup q.2 = none) ∧ (∀ q ∈ cs, PySem.W.CodeHd h q.1 q.2) ∧ (∀ (s : Shared) (u : Value), BindsTo s fd ⟨[u], []⟩ [(x, u)]) ∧
    (∀ (H : Hp) (a : Addr) (ns : List Int), ns.length ≤ n → (∀ q ∈ cs, H q.2 = some (.tbl #[])) → SqL K H a (ns.map V.int) → sp [.ref a] H (fun v _ => v = .bl true) fun _ _ _ => False) ∧
    ∀ base : Heap, K.In base → base.Ns mainGlobals mg → (∀ q ∈ cs, LamX.TabB base mg q.1 q.2) → DL.FnOk l.prog w K mg base (L2.CX l.prog w) k fa fd [x] sp
theorem walk_D {l : PySem.W.OpenLaw} {n k : Nat} {q : Program} {loose : List Str} {XP : (Str → Option Value) → Heap → Prop} {YP : World → Heap → Prop} {d : DefRec} {x : Str}
    (hn : l.most = some n) (hn2 : n ≤ sizeLine) (hdf : d.params.defaults = []) (hr : DL.Room k callerA)
    (F : ∀ (w : World) (mg : Str → Option Value) (fa : Addr) (h : Heap), YP w h → h.Ns mainGlobals mg → mg d.name = some (.ref fa) → ∃ K : PySem.W.Frag, K.In h ∧ LawAtD l w K k n x mg fa h) :
    PySem.W.WalkO q loose XP YP l.row.toRowW d [] (fun f vs => PySem.call f vs) := by
  refine Att.attach_callB hn hdf fun w s₀ s₁ mg mb fa o pm cd doc a vs ns G Y ho hd hcd hmg hobj hints hlen hbits hg => ?_
  obtain ⟨K, KX, fd, cs, sp, hT, nT, C, hb, hsp, hF⟩ := F w mg fa _ Y G.T.g hmg
  obtain ⟨H, Z⟩ := told_ex (P := l.prog) (w := w) KX hT hobj hints (Nat.le_trans hlen hn2)
  exact told_run KX G.T.g G.T.b G.T.builtins G.T.nolimit hg hT nT C G.T.bmain hobj hr hF hb (fun H hH hS => hsp H a ns hlen hH hS) Z
end DL
-- DLlck
set_option Elab.async false
set_option linter.all false
set_option maxRecDepth 100000
set_option maxHeartbeats 2000000
set_option autoImplicit false
namespace DL
open PySem PySem.Spec L2
open PyProof.Rows hiding St
/-! ### a comprehension in which lambdas of the maker's are called: its block stands over a larger base -/
/-- another base below the same context -/
abbrev reb (Y : Cx) (b : Heap) : Cx := { Y with base := b }
theorem reb_ok {Y : Cx} (ok : Y.Ok) {b : Heap} (m : Mod Y.K Y.mg b) (bs : ∀ a o, b.get? a = some o → Y.s_0.heap.get? a = some o ∧ Y.H_0 a = none) (bz : b.objs.size ≤ Y.s_0.heap.objs.size) (ne : ∀ a o, b.get? a = some o → a ∉ Y.ex) (nf : ∀ a ∈ frs Y.outer, b.get? a = none) : (reb Y b).Ok :=
  ⟨m, ok.kind, ok.glob, ok.blt, ok.above, ok.inj, ok.has, ok.cab, ok.hd, ok.frames, ok.stk, ok.exf, bs, bz, ne, ok.exfs, FunFrames_base ok.funs nf, ok.frf⟩
theorem reb_to {Y : Cx} {b : Heap} {pins : List (Addr × Obj)} {σ : L2.St} {H : Hp} {s : Shared} (k : (reb Y b).Ok) (I : Inv Y pins σ H s) : Inv (reb Y b) pins σ H s := ⟨k, I.os, I.bare, I.base, I.loc, I.cell, I.free, I.freeC, I.pin, I.hok, I.len⟩
theorem reb_of {Y : Cx} {b : Heap} {pins : List (Addr × Obj)} {σ : L2.St} {H : Hp} {s : Shared} (k : Y.Ok) (I : Inv (reb Y b) pins σ H s) : Inv Y pins σ H s := ⟨k, I.os, I.bare, I.base, I.loc, I.cell, I.free, I.freeC, I.pin, I.hok, I.len⟩
theorem reb_tests {Y : Cx} {b : Heap} {ifs : List Expr} {t : TT} (k : Y.Ok → (reb Y b).Ok) (h : PTs (reb Y b) ifs t) : PTs Y ifs t :=
  ⟨fun pins s σ H Q I q => wpAny_mono (h.run pins s σ H Q (reb_to (k I.ok) I) q) (fun _ _ ⟨H', I', q'⟩ => ⟨H', reb_of I.ok I', q'⟩) fun _ _ x => x⟩
theorem reb_elt {Y : Cx} {b : Heap} {e : Expr} {t : TE} (k : Y.Ok → (reb Y b).Ok) (h : PE (reb Y b) e t) : PE Y e t :=
  ⟨fun pins s σ H Q I q => wpAny_mono (h.run pins s σ H Q (reb_to (k I.ok) I) q) (fun _ _ ⟨v, H', I', r, q'⟩ => ⟨v, H', reb_of I.ok I', r, q'⟩) fun _ _ x => x⟩
/-- what a block's base may hold: not what is told of, no frame, no object of the iterator -/
def restB (outer : List Env) (H : Hp) (fp : List Addr) (b : Addr) : Prop := restP outer H b ∧ b ∉ fp
section
variable {X : Cx} {pins : List (Addr × Obj)} {σ : L2.St} {H B : Hp} {s : Shared}
theorem sub_baseB {fp : List Addr} (I : Inv X pins σ H s) (hf : ∀ b ∈ fp, FpOk X pins H b) : ∀ b o, X.base.get? b = some o → (part s.heap (restB X.stack H fp)).get? b = some o := fun b o e => by
  have e1 := sub_base I.env0 b o e
  refine part_in (part_of e1).1 ⟨(part_of e1).2, fun hb => ?_⟩
  have e2 := (I.ok.bs b o e).1
  rcases (hf b hb).2.2.2.1 with z | z
  · exact I.ok.noex b o e z
  · exact absurd (Heap.lt_size e2) (Nat.not_lt.mpr z)
theorem callOk_ofB {W : Wd X.K} {k : Clo} {caps ps : List Str} {ix : List Nat} {vc : List V} {dc : List D} {lv : Nat} {te : DTE} {fp : List Addr} (I : Inv X pins σ H s) (hf : ∀ b ∈ fp, FpOk X pins H b) (LB : LamB X.prog X.w X.K X.mg X.base caps ps k lv te) (C : CapAt X k caps ix) (hl : vc.length = ix.length)
    (hv : ∀ (i j : Nat) (v : V), ix[i]? = some j → vc[i]? = some v → σ[j]? = some (some v)) (rc : Rps W B vc dc) : CallOk X.prog X.w X.K X.mg (part s.heap (restB X.stack H fp)) W B (lv + 1) k (lamBeh ps.length dc te) := by
  obtain ⟨CO, CR0⟩ := cap_cells I C hl hv
  have cl : ∀ y c, k.cells.lookup y = some c → restB X.stack H fp c := fun y c e => ⟨CR0 y c e, fun hb => by
    rw [C.cells] at e
    rcases cloFrom_mem (PySem.mem_of_lookup e) with hm | ⟨h1, h2⟩
    · cases hm
    · obtain ⟨c1, hc⟩ := I.ok.has y (.inl (C.cell y (C.all y h1)).1)
      refine (hf c hb).2.2.2.2.1 y c1 hc ?_
      rw [h2, hc]; rfl⟩
  intro A outer s1 H1 a c us vs Q E hr e0 ha hc rv ⟨B1, ds, Qd, Ed, sb, g, rps, ⟨hn, ht⟩, k1, k2⟩
  have e1 := env0_less e0 I.ok.mod (sub_baseB I hf) (by rw [part_size]; exact I.env0.bsz)
  obtain ⟨pm, ctv, of1⟩ := (e0.hok a _ ha).1
  obtain ⟨oc, vs', t, hoc, hdc, hvc⟩ := (e0.hok c _ hc).1
  have hus : us.length = ps.length := by rw [← rv.length, rps.length, hn]
  have CO1 : CellsOk k caps vc H1 s1.heap := by
    have kc : ∀ y c, k.cells.lookup y = some c → ∀ o, s.heap.get? c = some o → s1.heap.get? c = some o ∧ H1 c = none := fun y c e o ho => e0.bs c o (part_in ho (cl y c e))
    refine ⟨CO.len, CO.inj, CO.has, fun y c e => ?_, fun i y v c x1 x2 x3 => ?_⟩
    · obtain ⟨_, v, o, ho, hd⟩ := CO.ok y c e
      exact ⟨(kc y c e o ho).2, v, o, (kc y c e o ho).1, hd⟩
    · obtain ⟨u, ru, o, ho, hd⟩ := CO.val i y v c x1 x2 x3
      exact ⟨u, ru, o, (kc y c x3 o ho).1, hd⟩
  refine PySem.W.kla_callFunE hr.depth of1 rfl LB.L.co LB.L.gen rfl ⟨c, oc, vs', t, rfl, hoc, hdc, hvc⟩ ?_
  rw [LB.bind _ _ _ us hus]
  refine wpAny_pure (wpAny_newFunctionEnv (fun y hy => LB.L.cell y hy) (fun y hy => ?_) (fun h₁ hns hsb => ⟨(e1.mod.nolimit.keeps fun b o e => (e1.bs b o e).1).fresh _ hsb, ?_⟩) LB.L.kind)
  · obtain ⟨y1, y2⟩ := y
    exact LB.L.par y1 (List.of_mem_zip hy).1
  show codeAny _ _ (.expr k.body (lamE k s1.heap.objs.size a c)) _ _
  have kp : ∀ b o, s1.heap.get? b = some o → h₁.get? b = some o := fun b o e => hsb.extBut b o (Nat.ne_of_lt (Heap.lt_size e)) (Heap.get?_push_of_some _ e)
  have J := lam_inv (E := E) (f := a) (c := c) (tk := s1.toks + (ps.zip us).length) LB.L e1 hr.hd CO1 rv hus hns kp
  have hrp : Rps W B1 (vc ++ vs) (dc ++ ds) := rps_append (rc.mono sb) rps
  have hlen : (caps ++ ps).length = (dc ++ ds).length := by rw [← hrp.length, List.length_append, List.length_append, CO.len, rps.length, hn]
  have est : startD (caps ++ ps).length (dc ++ ds) = (dc ++ ds).map .im := by
    unfold startD
    rw [hlen, Nat.sub_self, List.replicate_zero, List.append_nil]
  have dr : DR (⟨W, H1, B1, E, Ed, k2⟩ : Gx X.K) ((dc ++ ds).map .im) (L2.start (caps ++ ps) (vc ++ vs)) H1 B1 := by
    rw [← est]
    exact ⟨g, _, Sls.start hrp⟩
  refine PySem.W.kla_codeExpr (wpAny_mono ((LB.body W a c A outer s1 H1 B1 E Ed k2 (hr.deeper _)).run [] _ _ H1 Q J ⟨_, B1, _, dr, ht, fun d Δ' v H' B' q r' _ rp => k1 d v H' B' q r'.gr rp⟩) (fun v s' hq => ?_) fun e s' hq => hq)
  obtain ⟨w', H', J', rv', q⟩ := hq
  exact ⟨w', H', J'.os, J'.bare, J'.base, J'.hok, rv', q⟩
theorem behs_okB {lv : Nat} {fp : List Addr} (I : Inv X pins σ H s) (hf : ∀ b ∈ fp, FpOk X pins H b) {G : Gx X.K} {Δ : List Sl} {H' : Hp} (r : DR G Δ σ H' B) :
    ∀ {ls : List LamD} {dcs : List (List D)}, (∀ l ∈ ls, ∃ lv', lv' + 1 ≤ lv ∧ LamB X.prog X.w X.K X.mg X.base l.caps l.ps l.k lv' l.te ∧ CapAt X l.k l.caps l.ix) → imss Δ ls = some dcs →
      ∀ clo, CallOk X.prog X.w X.K X.mg (part s.heap (restB X.stack H fp)) G.W B lv clo (behs noBeh ls dcs clo)
  | [], _, _, h, clo => by
    cases h
    exact callOk_no
  | l :: ls, _, hl, h, clo => by
    simp only [imss] at h
    split at h
    · rename_i d ds e1 e2
      cases h
      obtain ⟨lv', h1, LB, C⟩ := hl l List.mem_cons_self
      obtain ⟨vc, h2, h3, h4⟩ := DR.ims r e1
      have own := callOk_more (lv' := lv) (callOk_ofB (W := G.W) (B := B) I hf LB C h2 h3 h4) (mod_more I.ok.mod (sub_baseB I hf)) (fun _ _ e => e) (Nat.le_refl _) (Sub.refl B) h1
      refine callOk_or ?_ (behs_okB I hf r (fun l' hl' => hl l' (List.mem_cons_of_mem _ hl')) e2 clo)
      intro A outer s2 H2 a c us vs Q E hr e0 ha hc rv ⟨B2, ds2, Qd, Ed, sb2, g, rps, ⟨ek, hb⟩, k1, k2⟩
      subst ek
      exact own A outer s2 H2 a c us vs Q E hr e0 ha hc rv ⟨B2, ds2, Qd, Ed, sb2, g, rps, hb, k1, k2⟩
    · cases h
end
/-- a comprehension whose parts may be judged by what is known where its block begins -/
theorem lc_know {X : Cx} {pins : List (Addr × Obj)} {σ : L2.St} {H : Hp} {s : Shared} {Q : VK} {elt tg iter : Expr} {ifs : List Expr} {scope : Scope} {own : List (Str × Nat)} {pos : Pos} {wi : TI} {g : TG} {tt : TT} {te : TE} {Kn : Shared → Hp → List Addr → Prop}
    (hc : X.calm = true) (hN : X.N.Nodup) (I : Inv X pins σ H s) (hi : PI X tg iter wi) (ok : BlkOk X.N X.env.scope scope own) (hKn : ∀ s3 H3 fp, Inv X pins σ H3 s3 → (∀ b ∈ fp, FpOk X pins H3 b) → Kn s3 H3 fp)
    (hg : ∀ s3 H3 C cl fp, Kn s3 H3 fp → PG (X.blk s3 H3 scope (compEnvC scope cl C X.env) fp) tg g) (ht : ∀ s3 H3 C cl fp, Kn s3 H3 fp → (∃ pins σ, Inv X pins σ H3 s3 ∧ ∀ b ∈ fp, FpOk X pins H3 b) → PTs (X.blk s3 H3 scope (compEnvC scope cl C X.env) fp) ifs tt)
    (he : ∀ s3 H3 C cl fp, Kn s3 H3 fp → PE (X.blk s3 H3 scope (compEnvC scope cl C X.env) fp) elt te) (hs : ∀ x, foldedSetIterable iter X.env x = pure x) (h : tLc wi g tt te (own.map (·.2)) σ H Q) :
    wpAny (model X.prog X.w) X.A (eval (.ListComp elt [⟨tg, iter, ifs, 0⟩] scope pos) X.env) (EP X pins σ Q) X.xe s := by
  have cap : ∀ y ∈ scope.names, y.2 = .free → ∃ c, X.env.cells.lookup y.1 = some c := fun y hy e => (ok.free y hy e).elim (fun k => I.ok.has _ (.inl k)) fun k => I.ok.has _ (.inr k)
  rw [eval_ListComp]
  refine wpAny_comprehension_free rfl hs (closure_ok cap) ok.kind (fun y hy e => by rw [ok.uniq y hy, e]) (thn (hi.run pins s σ H _ I h) fun _ _ a => thn a fun _ s2 b => ?_)
  obtain ⟨it, fp, tn, J, H2, rfl, I2, T, st2, f2, q⟩ := b
  refine wpAny_newObj_type (newEnv_comp ?_) (Nat.zero_le _)
  -- D: the list; s3: with it; C: the block's frame
  obtain ⟨D, hD⟩ : ∃ D, D = s2.heap.objs.size := ⟨_, rfl⟩
  obtain ⟨s3, hs3⟩ : ∃ s3 : Shared, s3 = { s2 with heap := s2.heap.push { cls := .type "list", data := .seq ([] : List Value).toArray } } := ⟨_, rfl⟩
  obtain ⟨H3, hH3⟩ : ∃ H3, H3 = upd H2 D (.lst []) := ⟨_, rfl⟩
  rw [← hD, ← hs3]
  obtain ⟨W, ⟨m0, w0⟩, turn⟩ := q D (I2.hok.fresh (Nat.le_of_eq hD.symm))
  rw [← hH3] at w0
  have he3 : s3.heap = s2.heap.push { cls := .type "list", data := .seq ([] : List Value).toArray } := by rw [hs3]
  have old3 : ∀ b o, s2.heap.get? b = some o → s3.heap.get? b = some o := fun b o e => by rw [he3]; exact Heap.get?_push_of_some _ e
  have I3 : Inv X pins σ H3 s3 := by
    rw [hs3, hH3]
    exact I2.laid (t' := s2.toks) (fun b o e => Heap.get?_push_of_some _ e) (Nat.le_of_eq hD.symm) ⟨Nat.zero_le _, [], 0, .nil, by rw [hD]; exact Heap.get?_push_size _ rfl⟩
  have lt2 : ∀ b ∈ fp, b < s2.heap.objs.size := fun b hb => (T.obj _ _ st2 b hb).elim fun o e => Heap.lt_size e.1
  have f3 : ∀ b ∈ fp, FpOk X pins H3 b := fun b hb => ⟨by rw [hH3, upd_ne (by rw [hD]; exact Nat.ne_of_lt (lt2 b hb))]; exact (f2 b hb).1, (f2 b hb).2⟩
  have l3 : ∀ b ∈ fp, b < s3.heap.objs.size := fun b hb => by rw [he3, Heap.size_push]; exact Nat.lt_succ_of_lt (lt2 b hb)
  have kn := hKn s3 H3 fp I3 f3
  have I4 := block_start I3 ok hN fun b hb => ⟨f3 b hb, l3 b hb⟩
  have jg := hg s3 H3 s3.heap.objs.size (cellsFrom (s3.heap.objs.size + 1) scope.names (cloFrom X.env.cells scope.names [])) fp kn
  have jt := ht s3 H3 s3.heap.objs.size (cellsFrom (s3.heap.objs.size + 1) scope.names (cloFrom X.env.cells scope.names [])) fp kn ⟨pins, σ, I3, f3⟩
  have je := he s3 H3 s3.heap.objs.size (cellsFrom (s3.heap.objs.size + 1) scope.names (cloFrom X.env.cells scope.names [])) fp kn
  show codeAny _ _ (.compStart _ 0 (.ref it) (.ref D) (compEnvC scope (cellsFrom (s3.heap.objs.size + 1) scope.names (cloFrom X.env.cells scope.names [])) s3.heap.objs.size X.env)) (compPost (model X.prog X.w) X.A X.xe none _ (.ref D) s3.heap.objs.size) _
  obtain ⟨ce, hce⟩ : ∃ ce, ce = compEnvC scope (cellsFrom (s3.heap.objs.size + 1) scope.names (cloFrom X.env.cells scope.names [])) s3.heap.objs.size X.env := ⟨_, rfl⟩
  rw [← hce] at I4 jg jt je ⊢
  have lc : ce.locals = s3.heap.objs.size := by rw [hce]; rfl
  clear hce
  obtain ⟨s4, hs4⟩ : ∃ s4 : Shared, s4 = { s3 with heap := pushCells (s3.heap.push { cls := .type "dict", data := .dict #[] }) scope.names } := ⟨_, rfl⟩
  rw [← hs4] at I4 ⊢
  have st4 : tn 0 s4.heap := T.keep _ _ _ (T.keep _ _ _ st2 fun b _ o e => old3 b o e) fun b _ o e => by rw [hs4]; exact pushCells_keeps _ _ _ _ (Heap.get?_push_of_some _ e)
  have still : ∀ {σ' : L2.St} {H' : Hp} {s' : Shared}, Inv (X.blk s3 H3 scope ce fp) [] σ' H' s' → (∀ b ∈ fp, H' b = none) → ∀ b ∈ fp, FpOk (X.blk s3 H3 scope ce fp) [] H' b := fun {σ' H' s'} I' hn b hb =>
    ⟨hn b hb, (I'.ok.exf b hb).1, I'.ok.exfs b hb, .inl hb, fun y c e => (I'.ok.exf b hb).2 y c e, fun p hp => by cases hp⟩
  have run : codeAny (model X.prog X.w) X.A (.compLoop (.ListComp elt [⟨tg, iter, ifs, 0⟩] scope pos) 0 (.ref it) (.ref D) ce) (compPost (model X.prog X.w) X.A X.xe none (EP X pins σ Q) (.ref D) s3.heap.objs.size) s4 := by
    refine compLoop_any (fun n s' => ∃ i H', W i n H' ∧ (∀ b ∈ fp, H' b = none) ∧ tn i s'.heap ∧ Inv (X.blk s3 H3 scope ce fp) [] (wipe σ (own.map (·.2))) H' s') ?_ m0 ⟨0, H3, w0, fun b hb => (f3 b hb).1, st4, I4⟩
    rintro n s5 ⟨i, H5, w5, n5, st5, I5⟩
    rcases turn i n H5 w5 with ⟨stop, fin⟩ | ⟨go, Nx, hNx, step⟩
    · refine thnF (T.done (X.blk s3 H3 scope ce fp) rfl rfl rfl hc i [] s5 _ H5 (fun _ _ => False) I5 (still I5 n5) st5 stop) fun r s6 ⟨hr, I6⟩ => ?_
      subst hr
      have I7 : Inv X pins σ H5 s6 := I3.call' (ch := fp) I6.os I6.base I6.hok I6.bare fun b hb => by
        obtain ⟨_, x2, _, x4, x5, x6⟩ := f3 b hb
        exact ⟨x4, x2, x5, x6⟩
      have nC : H5 s3.heap.objs.size = none := by rw [← lc]; exact I6.free
      obtain ⟨m, hn, _⟩ := I6.loc
      have hn : s6.heap.Ns ce.locals m := hn
      rw [lc] at hn
      obtain ⟨y0, y1, y2, y3, y4, y5⟩ := I3.fpOk (Nat.le_refl _) nC
      exact ⟨m, hn, fun h'' sb => ⟨.ref D, H5, I7.turned (t' := s6.toks) (fun b o hb e => (sb.2 b hb).trans e) y0 y1 y3 y4 y5, rfl, fin⟩⟩
    · refine thnF (T.item (X.blk s3 H3 scope ce fp) rfl rfl rfl hc i [] s5 _ H5 (fun _ _ => False) I5 (still I5 n5) st5 go) fun r s6 ⟨u, hr, h6⟩ => ?_
      subst hr
      refine thnF h6 fun _ s7 ⟨x, H7, I7, r7, y7, st7, n7⟩ => ?_
      refine thnF (jg.run _ s7 _ H7 x u _ (I7.pinned (still I7 n7) (T.obj _ _ st7)) r7 (step x H7 y7)) fun _ s8 ⟨σ8, H8, I8, hw, q8⟩ => ?_
      refine thnF (jt.run _ s8 σ8 H8 _ I8 q8) fun b s9 ⟨H9, I9, q9⟩ => ?_
      have next : ∀ {s' : Shared} {H' : Hp}, Inv (X.blk s3 H3 scope ce fp) ([] ++ pinsAt fp s7.heap) σ8 H' s' → Nx H' → ∃ m, m < n ∧ ∃ i H', W i m H' ∧ (∀ b ∈ fp, H' b = none) ∧ tn i s'.heap ∧ Inv (X.blk s3 H3 scope ce fp) [] (wipe σ (own.map (·.2))) H' s' := fun {s' H'} I' nx => by
        obtain ⟨m', hm, w'⟩ := hNx H' nx
        have pin : ∀ b ∈ fp, ∀ o, s7.heap.get? b = some o → s'.heap.get? b = some o ∧ H' b = none := fun b hb o e => by
          have z := I'.pin (b, o) (List.mem_append_right _ (List.mem_append_right _ (mem_pinsAt hb e)))
          exact ⟨z.1, z.2.1⟩
        refine ⟨m', hm, i + 1, H', w', fun b hb => ?_, T.keep _ _ _ st7 fun b hb o e => (pin b hb o e).1, (I'.unpinned (pins := [])).weak (by rw [← hw, wipe_length]) fun j v e => (wipe_some (by rw [hw]; exact e)).1⟩
        obtain ⟨o, e, _⟩ := T.obj _ _ st7 b hb
        exact (pin b hb o e).2
      cases b with
      | false => exact next I9 q9
      | true => exact thnF (je.run _ s9 σ8 H9 _ I9 q9) fun z s10 ⟨yv, H10, I10, r10, acc, a1, a2, nx⟩ => app_ok (X := X.blk s3 H3 scope ce fp) I10 a1 a2 r10 fun s11 I11 => next I11 nx
  exact codeAny_compStart_list run (T.self X.A 0 _ _ _ st4 run)
section
variable {X : Cx} {G : Gx X.K} {pos : Pos}
theorem lc_upB {own : List Nat} {S : List Nat} {ti : DTI} {g : DTG} {tt : DTT} {te : DTE} (hS : ∀ i ∈ S, i ∈ own) {σ : L2.St} {H : Hp} {Q : VK} (h : upM G (dLC own ti g tt te) σ H Q)
    {gH : TG} {ttH : TT} {teH : TE}
    (hg : ∀ (H0 : Hp) v σ H Q, upG (nox G.W H0 G.B0) S g v σ H Q → gH v σ H Q)
    (ht : ∀ (H0 : Hp) σ H Q, upT (nox G.W H0 G.B0) tt σ H Q → ttH σ H Q)
    (he : ∀ (H0 : Hp) σ H Q, upE (nox G.W H0 G.B0) te σ H Q → teH σ H Q) : tLc (upI G ti) gH ttH teH own σ H Q := by
  obtain ⟨Δ, B, Qd, r, q, k⟩ := h
  refine ⟨Δ, B, _, r, q, fun ds Δ1 J H1 B1 ⟨Iv, i0, turn, fin⟩ r1 s1 it L hL => ?_⟩
  have n1 := NewV.lst (ds := []) r1.gr hL .nil
  obtain ⟨vs0, e0, q0, h0, b0, nf, rg⟩ := ((r1.wipeA own).hangS n1).hold
  have ev : vs0 = [] := by rw [upd_same] at e0; cases e0; rfl
  subst ev
  refine ⟨fun i m H' => ∃ Δ' B' acc vs, m = ds.length - i ∧ i ≤ ds.length ∧ DR (gd G L vs) Δ' (wipe σ own) H' B' ∧ Rps G.W B' vs acc ∧ Sub B1 B' ∧ Iv i acc Δ' ∧ wipeD Δ' own = Δ',
    ⟨_, wipeD Δ1 own, B1, [], [], rfl, Nat.zero_le _, rg, .nil, Sub.refl _, i0, wipeD_idem own⟩, ?_⟩
  rintro i m H2 ⟨Δ2, B2, acc, vs, rfl, hi, r2, q2, s2, v2, w2⟩
  by_cases hl : i < ds.length
  · refine .inr ⟨it.go r2.gr s2 hl, fun H' => ∃ Δ' B' acc vs, DR (gd G L vs) Δ' (wipe σ own) H' B' ∧ Rps G.W B' vs acc ∧ Sub B1 B' ∧ Iv (i + 1) acc Δ' ∧ wipeD Δ' own = Δ', fun H' ⟨Δ', B', acc, vs, h⟩ => ⟨_, by omega, Δ', B', acc, vs, rfl, hl, h⟩, fun x H3 y => ?_⟩
    obtain ⟨B3, d, hd, g3, rp⟩ := it.yld r2.gr s2 hl y
    have r3 := r2.grow g3
    have q3 := q2.mono g3.bas
    refine hg _ _ _ _ _ ⟨Δ2, B3, d, _, r3, rp, turn i d acc Δ2 hd v2, fun Δ4 σ4 H4 B4 q4 r4 s4 kp => ?_⟩
    have we2 : wipe σ4 own = wipe σ own := (kp own hS).trans (wipe_wipe own)
    refine ⟨we2, ht _ _ _ _ ⟨Δ4, B4, _, r4, q4, fun b Δ5 H5 B5 q5 r5 s5 => ?_⟩⟩
    have we3 : wipe σ4 own = wipe (wipe σ own) own := kp own hS
    cases b with
    | true =>
      refine he _ _ _ _ ⟨Δ5, B5, _, r5, q5, fun e Δ6 z H6 B6 ⟨hz, q6⟩ r6 s6 rz => ?_⟩
      have q7 := ((q3.mono s4).mono s5).mono s6
      obtain ⟨e7, r7⟩ := r6.more h0 b0 nf q7 rz
      refine ⟨vs, e7, by rw [q7.length]; exact hz, wipeD Δ6 own, B6, acc ++ [e], vs ++ [z], r7.unwipe we3, q7.append (Rps.one rz), (((s2.trans g3.bas).trans s4).trans s5).trans s6, q6, wipeD_idem own⟩
    | false => exact ⟨wipeD Δ5 own, B5, acc, vs, r5.unwipe we3, (q3.mono s4).mono s5, ((s2.trans g3.bas).trans s4).trans s5, q5, wipeD_idem own⟩
  · have e : i = ds.length := by omega
    subst e
    refine .inl ⟨it.stop r2.gr s2 (Nat.le_refl _), ?_⟩
    have r5 := r2.unwipe (σ := σ) (vs := own) (wipe_wipe own)
    rw [w2] at r5
    obtain ⟨e5, r6⟩ := r5.unhold h0 b0 nf q2
    exact k _ _ _ _ _ (fin _ _ v2) r6 (s1.trans s2)

theorem grow_from {K : PySem.W.Frag} {W : Wd K} {H0 B0 H B H' B' : Hp} (r : Grow W H0 B0 H B) (g : Grow W H0 B H' B') : Grow W H0 B0 H' B' := ⟨g.ext, g.dom, r.bas.trans g.bas, fun a h => (g.new a h).elim (fun z => r.new a z) .inr, g.sub, g.wok⟩
theorem grow_now {K : PySem.W.Frag} {W : Wd K} {H0 B0 H B H' B' : Hp} (r : Grow W H0 B0 H B) (sb : Sub B B') (g : Grow W H0 B0 H' B') : Grow W H0 B H' B' := ⟨g.ext, g.dom, sb, fun a h => (g.new a h).elim (fun z => .inl fun n => by
  cases e : B0 a with
  | none => exact z e
  | some o => rw [r.bas a o e] at n; cases n) .inr, g.sub, g.wok⟩
/-- the same, seen from now -/
abbrev Gx.now (G : Gx X.K) {H B : Hp} (r : Grow G.W G.H0 G.B0 H B) : Gx X.K := ⟨G.W, G.H0, B, G.E, G.Ed, fun C H' B' e g => G.hE C H' B' e (grow_from r g)⟩
theorem DR.now {Δ : List Sl} {σ : L2.St} {H B H1 B1 : Hp} (r0 : Grow G.W G.H0 G.B0 H B) (sb : Sub B B1) (r : DR G Δ σ H1 B1) : DR (G.now r0) Δ σ H1 B1 := by
  obtain ⟨fp, S⟩ := r.sl
  exact ⟨grow_now r0 sb r.gr, fp, S.len, S.at_, S.dj, S.ou⟩
theorem DR.past {Δ : List Sl} {σ : L2.St} {H B H1 B1 : Hp} (r0 : Grow G.W G.H0 G.B0 H B) (r : DR (G.now r0) Δ σ H1 B1) : DR G Δ σ H1 B1 := by
  obtain ⟨fp, S⟩ := r.sl
  exact ⟨grow_from r0 r.gr, fp, S.len, S.at_, S.dj, S.ou⟩
/-- [elt for .. in .. if ..], where the test may call the maker's lambdas ls -/
def dLCF (ls : List LamD) (own : List Nat) (ti : DTI) (g : DTG) (tt : (Clo → SpD) → DTT) (te : DTE) : DTM := fun Δ Q E => ∃ dcs, imss Δ ls = some dcs ∧ dLC own ti g (tt (behs noBeh ls dcs)) te Δ Q E
theorem dm_lcF {elt tg iter : Expr} {ifs : List Expr} {scope : Scope} {own : List (Str × Nat)} {S : List Nat} {ti : DTI} {g : DTG} {tt : (Clo → SpD) → DTT} {te : DTE} {ls : List LamD} {lv : Nat} (hc : X.calm = true) (hN : X.N.Nodup) (hi : PI X tg iter (upI G ti)) (ok : BlkOk X.N X.env.scope scope own)
    (hls : ∀ l ∈ ls, ∃ lv', lv' + 1 ≤ lv ∧ LamB X.prog X.w X.K X.mg X.base l.caps l.ps l.k lv' l.te ∧ CapAt X l.k l.caps l.ix)
    (hg : ∀ (s : Shared) (H : Hp) (C : Addr) (cl : List (Str × Addr)) (fp : List Addr) (H0 B0 : Hp), PG (X.blk s H scope (compEnvC scope cl C X.env) fp) tg (upG (nox G.W H0 B0) S g))
    (ht : ∀ (s : Shared) (H : Hp) (C : Addr) (cl : List (Str × Addr)) (fp : List Addr) (H0 B0 : Hp) (b : Heap) (beh : Clo → SpD), (∀ clo, CallOk X.prog X.w X.K X.mg b G.W B0 lv clo (beh clo)) → PTs (reb (X.blk s H scope (compEnvC scope cl C X.env) fp) b) ifs (upT (nox G.W H0 B0) (tt beh)))
    (he : ∀ (s : Shared) (H : Hp) (C : Addr) (cl : List (Str × Addr)) (fp : List Addr) (H0 B0 : Hp), PE (X.blk s H scope (compEnvC scope cl C X.env) fp) elt (upE (nox G.W H0 B0) te))
    (hS : ∀ i ∈ S, i ∈ own.map (·.2) := by decide) (hs : ∀ x, foldedSetIterable iter X.env x = pure x := by intro _; rfl) : PE X (.ListComp elt [⟨tg, iter, ifs, 0⟩] scope pos) (upM G (dLCF ls (own.map (·.2)) ti g tt te)) := by
  refine ⟨fun pins s σ H Q I ⟨Δ, B, Qd, r, ⟨dcs, hd, q⟩, k⟩ => ?_⟩
  refine lc_know (wi := upI (G.now r.gr) ti) (g := fun v σ H Q => ∃ H0, upG (nox G.W H0 B) S g v σ H Q) (tt := fun σ H Q => ∃ H0, upT (nox G.W H0 B) (tt (behs noBeh ls dcs)) σ H Q) (te := fun σ H Q => ∃ H0, upE (nox G.W H0 B) te σ H Q)
    (Kn := fun s3 H3 fp => ∀ clo, CallOk X.prog X.w X.K X.mg (part s3.heap (restB X.stack H3 fp)) G.W B lv clo (behs noBeh ls dcs clo)) hc hN I ⟨fun p s σ H R I' h => hi.run p s σ H R I' ?_⟩ ok (fun s3 H3 fp I3 f3 => behs_okB I3 f3 r hls hd)
    (fun s3 H3 C cl fp _ => ⟨fun p s' σ H' v u Q I r ⟨H0, q⟩ => (hg s3 H3 C cl fp H0 B).run p s' σ H' v u Q I r q⟩)
    (fun s3 H3 C cl fp kn hI => ⟨fun p s' σ H' Q I ⟨H0, q⟩ => (reb_tests (fun okY => ?_) (ht s3 H3 C cl fp H0 B _ _ kn)).run p s' σ H' Q I q⟩)
    (fun s3 H3 C cl fp _ => ⟨fun p s' σ H' Q I ⟨H0, q⟩ => (he s3 H3 C cl fp H0 B).run p s' σ H' Q I q⟩) hs
    (lc_upB (G := G.now r.gr) hS ⟨Δ, B, Qd, r.now r.gr (Sub.refl B), q, fun s Δ' v H' B' qd r' sb => k s Δ' v H' B' qd (DR.past r.gr r') sb⟩ (fun H0 _ _ _ _ q => ⟨H0, q⟩) (fun H0 _ _ _ q => ⟨H0, q⟩) (fun H0 _ _ _ q => ⟨H0, q⟩))
  · obtain ⟨Δ1, B1, Qd1, r1, t1, k1⟩ := h
    exact ⟨Δ1, B1, Qd1, DR.past r.gr r1, t1, fun ds Δ' J H' B' qd r' sb it => k1 ds Δ' J H' B' qd (r'.now r.gr (r1.gr.bas.trans sb)) sb it⟩
  · obtain ⟨p3, σ3, I3, f3⟩ := hI
    refine reb_ok okY (mod_more I3.ok.mod (sub_baseB I3 f3)) (fun a o e => ⟨(part_of e).1, (part_of e).2.1.1⟩) (Nat.le_of_eq part_size) (fun a o e => (part_of e).2.2) fun a ha => part_no fun z => z.1.2 ha
end
end DL
-- DLkw
set_option Elab.async false
set_option linter.all false
set_option maxRecDepth 100000
set_option maxHeartbeats 2000000
set_option autoImplicit false
namespace DL
open PySem PySem.Spec L2
open PyProof.Rows hiding St
/-! ### calls with keywords: f(a, .., k = v, ..), every parameter given -/
/-- the parameters' values: of those by place, then of those by name, by their places -/
def pick (idx : List Nat) {α : Type} (us ws : List α) : List α := idx.filterMap fun i => (us ++ ws)[i]?
theorem pick_cons {α : Type} (i : Nat) (idx : List Nat) (us ws : List α) : pick (i :: idx) us ws = (match (us ++ ws)[i]? with | some x => x :: pick idx us ws | none => pick idx us ws) := by
  unfold pick
  rw [List.filterMap_cons]
  cases (us ++ ws)[i]? <;> rfl
theorem pick_vals {vs : List V} {us : List Value} {zs : List V} {ws : List Value} (h : Vals vs us) (g : Vals zs ws) : ∀ idx : List Nat, Vals (pick idx vs zs) (pick idx us ws)
  | [] => .nil
  | i :: idx => by
    have r := h.append g
    rw [pick_cons, pick_cons]
    by_cases hi : i < (vs ++ zs).length
    · obtain ⟨u, h1, h2⟩ := r.get (List.getElem?_eq_getElem hi)
      rw [List.getElem?_eq_getElem hi, h1]
      exact .cons h2 (pick_vals h g idx)
    · rw [List.getElem?_eq_none (by omega), List.getElem?_eq_none (by rw [← r.length]; omega)]
      exact pick_vals h g idx
theorem pick_rps {K : PySem.W.Frag} {W : Wd K} {B : Hp} {vs zs : List V} {ds es : List D} (h : Rps W B vs ds) (g : Rps W B zs es) : ∀ idx : List Nat, Rps W B (pick idx vs zs) (pick idx ds es)
  | [] => .nil
  | i :: idx => by
    have r := h.append g
    rw [pick_cons, pick_cons]
    by_cases hi : i < (ds ++ es).length
    · obtain ⟨u, h1, h2⟩ := r.get (List.getElem?_eq_getElem hi)
      rw [List.getElem?_eq_getElem hi, h1]
      exact .cons _ _ _ _ h2 (pick_rps h g idx)
    · have hl := r.length
      rw [List.getElem?_eq_none (l := vs ++ zs) (by omega), List.getElem?_eq_none (l := ds ++ es) (by omega)]
      exact pick_rps h g idx
/-- how a def binds keywords -/
def KwB (K : PySem.W.Frag) (fd : FuncData) (ps : List Str) (n : Nat) (ks : List Str) (idx : List Nat) : Prop :=
  ∀ (s : Shared) (us ws : List Value), K.In s.heap → us.length = n → ws.length = ks.length → BindsTo s fd ⟨us, ks.zip ws⟩ (ps.zip (pick idx us ws))
theorem kwB_of {K : PySem.W.Frag} {x qual : Str} {params : Arguments} {body : List Stmt} {scope : Scope} {kws : List (Str × V)} {f : Addr} {fd : FuncData} {ps ks : List Str} {n : Nat} {idx : List Nat} (F : FunD K x qual params body scope [] kws f fd)
    (h : ∀ (kV doc pm : Value) (an : Option Addr) (cdv ct : Value) (us ws : List Value), us.length = n → ws.length = ks.length → bindArgs (PySem.W.fnOf x qual params body scope .none kV doc pm an cdv ct) ⟨us, ks.zip ws⟩ = pure (ps.zip (pick idx us ws))) : KwB K fd ps n ks idx := by
  intro s us ws _ h1 h2
  obtain ⟨oc, od, dV, kV, doc, pm, an, cdv, ct, osl, rfl, lk, hcd, hD, hK⟩ := F.ex
  rcases hD with ⟨_, rfl⟩ | ⟨e, _⟩
  · exact .of_eq (h kV doc pm an cdv ct us ws h1 h2)
  · exact absurd rfl e
/-- a def that may be called with such keywords -/
structure CalW (P : Program) (w : World) (K : PySem.W.Frag) (mg : Str → Option Value) (base : Heap) (k : Nat) (x : Str) (ps : List Str) (sp : SpD) (n : Nat) (ks : List Str) (idx : List Nat) : Prop where
  ex : ∃ f fd, mg x = some (.ref f) ∧ PySem.W.keepIn K (.ref f) = true ∧ KwB K fd ps n ks idx ∧ ∀ W : Wd K, FnOk P w K mg base (L2.CX P w) k f fd ps (upSp W sp)
theorem CalW.mono {P : Program} {w : World} {K : PySem.W.Frag} {mg : Str → Option Value} {base : Heap} {j k : Nat} {x : Str} {ps : List Str} {sp : SpD} {n : Nat} {ks : List Str} {idx : List Nat} (c : CalW P w K mg base j x ps sp n ks idx) (h : j ≤ k) : CalW P w K mg base k x ps sp n ks idx := by
  obtain ⟨f, fd, h1, h2, h3, h4⟩ := c.ex
  exact ⟨f, fd, h1, h2, h3, fun W => (h4 W).mono h⟩
def dFnW (sp : SpD) (n m : Nat) (idx : List Nat) (t tk : DTA) : DTE := fun Δ Q E => t Δ (fun ds Δ1 => tk Δ1 (fun es Δ2 => ds.length = n ∧ es.length = m ∧ sp (pick idx ds es) (fun d => Q d Δ2) E) E) E
@[simp] theorem sFnW {sp : SpD} {n m : Nat} {idx : List Nat} {t tk : DTA} {Δ : List Sl} {Q : D → List Sl → Prop} {E : EX} : dFnW sp n m idx t tk Δ Q E = t Δ (fun ds Δ1 => tk Δ1 (fun es Δ2 => ds.length = n ∧ es.length = m ∧ sp (pick idx ds es) (fun d => Q d Δ2) E) E) E := rfl
section
variable {X : Cx} {G : Gx X.K} {pos : Pos}
theorem run_kw {CX : CXT} {k n : Nat} {f : Addr} {fd : FuncData} {ps ks : List Str} {idx : List Nat} {sp : Sp} {E : XK} {pins : List (Addr × Obj)} {σ : L2.St} {H : Hp} {s : Shared} {Q : VK} {us ws : List Value} {vs zs : List V} (F : FnOk X.prog X.w X.K X.mg X.base CX k f fd ps sp) (hr : Room k X.A) (hb : KwB X.K fd ps n ks idx) (hx : Passes CX X E)
    (I : Inv X pins σ H s) (r : Vals vs us) (rz : Vals zs ws) (l1 : vs.length = n) (l2 : zs.length = ks.length) (h : sp (pick idx vs zs) H Q E) : wpAny (model X.prog X.w) X.A (call (.ref f) us (ks.zip ws)) (EP X pins σ Q) X.xe s := by
  refine wpAny_call (codeAny_mono (F.run X.A X.stack s H ⟨us, ks.zip ws⟩ (pick idx us ws) (pick idx vs zs) Q E hr I.env0 (hb s us ws I.kIn (by rw [← r.length, l1]) (by rw [← rz.length, l2])) (pick_vals r rz idx) h) fun r s' hq => ?_)
  match r, hq with
  | .error e, hq => exact hx pins σ H s e s' I hq
  | .ok (.ret u), hq => exact I.after hq
theorem de_kw0 {k m : Nat} {ps ks : List Str} {idx : List Nat} {sp : SpD} {x : Str} {p : Pos} {kws : List Keyword} {tk : DTA} (c : CalW X.prog X.w X.K X.mg X.base k x ps sp 0 ks idx) (hr : Room k X.A) (hx : Passes (L2.CX X.prog X.w) X G.E) (hkw : PK X kws (upA G tk)) (hg : Gl X x := by rfl)
    (hall : (backToKw pos (keywordEach kws X.env)).all (·.1.isSome) = true := by rfl) (hks : (backToKw pos (keywordEach kws X.env)).filterMap (·.1) = ks := by rfl) (hdb : (x == ("__debug__" : Str)) = false := by decide)
    (hpl : ((backTo pos (starEach [] X.env)).any (·.1) || (backToKw pos (keywordEach kws X.env)).any (·.1.isNone)) = false := by rfl)  (hm : ks.length = m := by rfl) : PE X (.Call (.Name x p) [] kws pos) (upE G (dFnW sp 0 m idx dNil tk)) := by
  subst hm
  obtain ⟨f, fd, h1, h2, h3, h4⟩ := c.ex
  refine ⟨fun pins s σ H Q I ⟨Δ, B, Qd, r1, q, kk⟩ => wpAny_Call_Name_kw (ld_glob I hg h1 ?_ hdb)⟩
  refine PySem.W.callWith_KW0 (h₀ := X.base) I.ok.mod.kin h2 hall (thn (hkw.run pos pins s σ H (fun zs H1 => ∃ Δ1 B1 es, DR G Δ1 σ H1 B1 ∧ Sub B B1 ∧ Rps G.W B1 zs es ∧ es.length = ks.length ∧ sp (pick idx [] es) (fun d => Qd d Δ1) G.Ed) I
    ⟨Δ, B, _, r1, q, fun es Δ1 zs H1 B1 ⟨_, l2, q1⟩ r1 s1 rps => ⟨Δ1, B1, es, r1, s1, rps, l2, q1⟩⟩) fun ws s2 ⟨zs, H2, I2, rz, Δ1, B1, es, r2, s2', rps, l2, q2⟩ => ⟨I2.kIn, ?_⟩) hpl
  rw [hks]
  exact run_kw (h4 G.W) hr h3 hx I2 .nil rz rfl (by rw [rps.length, l2]) (up_sp r2 (pick_rps .nil rps idx) q2 fun d v H' B' q r' s rp => kk _ _ _ _ _ q r' (s2'.trans s) rp)
theorem de_kwN {k n m : Nat} {ps ks : List Str} {idx : List Nat} {sp : SpD} {x : Str} {p : Pos} {e : Expr} {es : List Expr} {kws : List Keyword} {t tk : DTA} (c : CalW X.prog X.w X.K X.mg X.base k x ps sp n ks idx) (hr : Room k X.A) (hx : Passes (L2.CX X.prog X.w) X G.E) (ha : PA X (e :: es) (upA G t)) (hkw : PK X kws (upA G tk)) (hg : Gl X x := by rfl)
    (hall : (backToKw pos (keywordEach kws X.env)).all (·.1.isSome) = true := by rfl) (hks : (backToKw pos (keywordEach kws X.env)).filterMap (·.1) = ks := by rfl) (hdb : (x == ("__debug__" : Str)) = false := by decide) (he : starEach (e :: es) X.env = (false, eval e X.env) :: starEach es X.env := by rfl)
    (hpl : ((backTo pos (starEach (e :: es) X.env)).any (·.1) || (backToKw pos (keywordEach kws X.env)).any (·.1.isNone)) = false := by rfl)  (hm : ks.length = m := by rfl) : PE X (.Call (.Name x p) (e :: es) kws pos) (upE G (dFnW sp n m idx t tk)) := by
  subst hm
  obtain ⟨f, fd, h1, h2, h3, h4⟩ := c.ex
  refine ⟨fun pins s σ H Q I ⟨Δ, B, Qd, r1, q, kk⟩ => wpAny_Call_Name_kw (ld_glob I hg h1 ?_ hdb)⟩
  refine PySem.W.callWith_KW (h₀ := X.base) I.ok.mod.kin h2 hall (thn (ha.run pos pins s σ H (fun vs H1 => ∃ Δ1 B1 ds, DR G Δ1 σ H1 B1 ∧ Sub B B1 ∧ Rps G.W B1 vs ds ∧ tk Δ1 (fun es Δ2 => ds.length = n ∧ es.length = ks.length ∧ sp (pick idx ds es) (fun d => Qd d Δ2) G.Ed) G.Ed) I
    ⟨Δ, B, _, r1, q, fun ds Δ1 vs H1 B1 q1 r1 s1 rps => ⟨Δ1, B1, ds, r1, s1, rps, q1⟩⟩) fun us s1 ⟨vs, H1, I1, rv, Δ1, B1, ds, r1', s1', rps1, q1⟩ =>
    thn (hkw.run pos pins s1 σ H1 (fun zs H2 => ∃ Δ2 B2 es, DR G Δ2 σ H2 B2 ∧ Sub B1 B2 ∧ Rps G.W B2 zs es ∧ ds.length = n ∧ es.length = ks.length ∧ sp (pick idx ds es) (fun d => Qd d Δ2) G.Ed) I1
      ⟨Δ1, B1, _, r1', q1, fun es Δ2 zs H2 B2 q2 r2 s2 rps => ⟨Δ2, B2, es, r2, s2, rps, q2⟩⟩) fun ws s2 ⟨zs, H2, I2, rz, Δ2, B2, es, r2, s2', rps, l1, l2, q2⟩ => ⟨I2.kIn, ?_⟩) hpl he
  rw [hks]
  exact run_kw (h4 G.W) hr h3 hx I2 rv rz (by rw [rps1.length, l1]) (by rw [rps.length, l2]) (up_sp r2 (pick_rps (rps1.mono s2') rps idx) q2 fun d v H' B' q r' s rp => kk _ _ _ _ _ q r' ((s1'.trans s2').trans s) rp)
end
end DL
-- DLbeg
set_option Elab.async false
set_option linter.all false
set_option maxRecDepth 100000
set_option maxHeartbeats 2000000
set_option autoImplicit false
namespace DL
open PySem PySem.Spec L2
open PyProof.Rows hiding St
/-! ### the making of the draws: told over values and heaps -/
/-- a comprehension over the script: a fresh list of ints -/
theorem lcv_list {K : PySem.W.Frag} {σ : L2.St} {H : Hp} {Q : VK} {a : Addr} {ns : List Int} {tt : TT} {te : TE} (hv : σ[0]? = some (some (.ref a))) (h3 : 2 < σ.length) (hS : SqL K H a (ns.map V.int)) (hl : ns.length ≤ 63) (F : Int → Option Int)
    (step : ∀ (n : Int) (σ2 : L2.St) (H2 : Hp) (P : V → Hp → Prop) (N : Hp → Prop), σ2[2]? = some (some (.int n)) → (∀ m, F n = some m → P (.int m) H2) → (F n = none → N H2) → tt σ2 H2 fun b H3 => if b = true then te σ2 H3 P else N H3)
    (hQ : ∀ D, H D = none → Q (.ref D) (upd H D (.lst ((ns.filterMap F).map V.int)))) : tLc (iList K (tVar 0)) (gName 2) tt te [2] σ H Q := by
  refine ⟨.ref a, hv, a, rfl, ⟨_, hS⟩, fun D hD => ?_⟩
  have keep : ∀ o, SqL K (upd H D o) a (ns.map V.int) := fun o => (Sub.new (o := o) hD).sqL hS
  refine ⟨fun i m H' => i ≤ ns.length ∧ m = ns.length - i ∧ H' = upd H D (.lst (((ns.take i).filterMap F).map V.int)), ⟨_, Nat.zero_le _, rfl, rfl⟩, ?_⟩
  rintro i m H' ⟨hi, rfl, rfl⟩
  by_cases hlt : i < ns.length
  · refine .inr ⟨⟨_, .int ns[i], keep _, by simp [hlt]⟩, fun H' => H' = upd H D (.lst (((ns.take (i + 1)).filterMap F).map V.int)), fun H' e => ⟨_, by omega, by omega, rfl, e⟩, ?_⟩
    rintro x H' ⟨rfl, hx⟩
    have e := hx _ (keep _)
    have e : x = .int ns[i] := by simpa [hlt] using e.symm
    subst e
    refine ⟨by simp [wipe], ?_⟩
    have h3' : 2 < (wipe σ [2]).length := by rw [wipe_length]; exact h3
    have tk : (ns.take (i + 1)).filterMap F = (ns.take i).filterMap F ++ (F ns[i]).toList := by
      rw [List.take_add_one, List.getElem?_eq_getElem hlt, List.filterMap_append]
      cases h : F ns[i] <;> simp [h]
    have hlen : ((ns.take i).filterMap F).length ≤ 63 := by
      have := List.length_filterMap_le F (ns.take i)
      rw [List.length_take] at this
      omega
    refine step ns[i] _ _ _ _ (List.getElem?_set_self h3') (fun m e => ?_) fun e => ?_
    · rw [e] at tk
      refine ⟨_, upd_same, by rw [List.length_map, sizeLine_eq]; omega, ?_⟩
      rw [upd_upd, tk]
      simp
    · rw [e] at tk
      rw [tk]
      simp
  · have e : i = ns.length := by omega
    subst e
    refine .inl ⟨⟨_, keep _, by simp⟩, ?_⟩
    rw [List.take_of_length_le (Nat.le_refl _)]
    exact hQ D hD
/-- what the making of the draws promises -/
def spBegun (K : PySem.W.Frag) : Sp := fun vs H Q _ => ∃ (a : Addr) (ns : List Int), vs = [.ref a] ∧ SqL K H a (ns.map V.int) ∧ ns.length ≤ 63 ∧
  ∀ (p lp cp : Addr) (ls cs : List Int), H p = none → H lp = none → H cp = none → p ≠ lp → p ≠ cp → lp ≠ cp → Q (.ref p) (upd (upd (upd (upd H lp (.lst (ls.map V.int))) p (.dK [])) cp (.lst (cs.map V.int))) p (.dK (drawKv lp cp 0 0)))
abbrev rGe : R2 := rI0 fun i j => .bl (decide (j ≤ i))
abbrev rAbs : List V → Hp → VK → Prop := fun xs H Q => ∃ i : Int, xs = [.int i] ∧ Q (.int (if i < 0 then -i else i)) H
abbrev rPow : R2 := rI CPow fun i j => .int (i ^ j.toNat)
abbrev rSubI : R2 := rI0 fun i j => .int (i - j)
abbrev t10 : TE := tOp rPow (tC (.int 10)) (tC (.int 18))
abbrev tAbs : TE := tCB rAbs (tCons (tVar 2) tNil)
abbrev tLarge (K : PySem.W.Frag) : TE := tLc (iList K (tVar 0)) (gName 2) (tTest (tOp rGe tAbs t10)) (tOp rSubI tAbs t10) [2]
abbrev tCellsB (K : PySem.W.Frag) : TE := tLc (iList K (tVar 0)) (gName 2) tYes tAbs [2]
def t_begun (K : PySem.W.Frag) : TS := tSeq (tAsg (tLarge K) (gName 1)) (tRet (tDisp [(tC (.str "large"), tVar 1), (tC (.str "rest"), tC (.int 0)), (tC (.str "cells"), tCellsB K), (tC (.str "turn"), tC (.int 0))]))
theorem pure_begun {K : PySem.W.Frag} (vs : List V) (H : Hp) (Q : VK) (E : XK) (h : spBegun K vs H Q E) : t_begun K { nx := fun _ H' => Q .non H', rt := Q } (L2.start ["script", "large", "cell"] vs) H := by
  obtain ⟨a, ns, rfl, hS, hl, hQ⟩ := h
  have pw : CPow 10 18 := ⟨by decide, by decide, by decide⟩
  let σ0 : L2.St := L2.start ["script", "large", "cell"] [.ref a]
  show tLarge K σ0 H (fun x H1 => tRet (tDisp [(tC (.str "large"), tVar 1), (tC (.str "rest"), tC (.int 0)), (tC (.str "cells"), tCellsB K), (tC (.str "turn"), tC (.int 0))]) { nx := fun _ H' => Q .non H', rt := Q } (σ0.set 1 (some x)) H1)
  refine lcv_list (σ := σ0) (ns := ns) rfl (by show 2 < 3; decide) hS hl (fun n => if (10 : Int) ^ 18 ≤ (if n < 0 then -n else n) then some ((if n < 0 then -n else n) - 10 ^ 18) else none) (fun n σ2 H2 P N e h1 h2 => ?_) fun lp hlp => ?_
  · refine ⟨_, e, n, rfl, 10, 18, rfl, rfl, pw, _, _, rfl, rfl, _, rfl, ?_⟩
    by_cases hc : (10 : Int) ^ 18 ≤ (if n < 0 then -n else n)
    · show if decide ((10 : Int) ^ 18 ≤ _) = true then _ else _
      rw [decide_eq_true hc, if_pos rfl]
      refine ⟨_, e, n, rfl, 10, 18, rfl, rfl, pw, _, _, rfl, rfl, h1 _ (by rw [if_pos hc]; rfl)⟩
    · show if decide ((10 : Int) ^ 18 ≤ _) = true then _ else _
      rw [decide_eq_false hc, if_neg (by decide)]
      exact h2 (by rw [if_neg hc])
  · intro p hp
    have hp0 : H p = none ∧ p ≠ lp := by
      by_cases z : p = lp
      · subst z; rw [upd_same] at hp; cases hp
      · rw [upd_ne z] at hp; exact ⟨hp, z⟩
    refine ⟨.ref lp, rfl, ?_⟩
    simp only [tPairs, tC]
    refine lcv_list (σ := σ0.set 1 (some (.ref lp))) (a := a) (ns := ns) rfl (by show 2 < 3; decide) ((Sub.new hp).sqL ((Sub.new hlp).sqL hS)) hl (fun n => some (if n < 0 then -n else n)) (fun n σ2 H2 P N e h1 h2 => ?_) fun cp hcp => ?_
    · exact ⟨_, e, n, rfl, h1 _ rfl⟩
    · have hc0 : H cp = none ∧ cp ≠ p ∧ cp ≠ lp := by
        by_cases z : cp = p
        · subst z; rw [upd_same] at hcp; cases hcp
        · rw [upd_ne z] at hcp
          by_cases z2 : cp = lp
          · subst z2; rw [upd_same] at hcp; cases hcp
          · rw [upd_ne z2] at hcp; exact ⟨hcp, z, z2⟩
      refine ⟨by rw [upd_ne hc0.2.1.symm]; exact upd_same, [(Sum.inr "large", .ref lp), (Sum.inr "rest", .int 0), (Sum.inr "cells", .ref cp), (Sum.inr "turn", .int 0)], rfl, by show 4 ≤ 15; decide, ?_⟩
      have e : mergeK [] [((Sum.inr ("large" : Str) : Key), V.ref lp), (Sum.inr ("rest" : Str), .int 0), (Sum.inr ("cells" : Str), .ref cp), (Sum.inr ("turn" : Str), .int 0)] = drawKv lp cp 0 0 := by
        show putK (putK (putK (putK ([] : List (Key × V)) (Sum.inr ("large" : Str)) (V.ref lp)) (Sum.inr ("rest" : Str)) (.int 0)) (Sum.inr ("cells" : Str)) (.ref cp)) (Sum.inr ("turn" : Str)) (.int 0) = _
        have v1 : valV ([] : List (Key × V)) (Sum.inr ("large" : Str)) = none := rfl
        have v2 : valV [((Sum.inr ("large" : Str) : Key), V.ref lp)] (Sum.inr ("rest" : Str)) = none := by rw [valV_neg (ks kLR)]; rfl
        have v3 : valV [((Sum.inr ("large" : Str) : Key), V.ref lp), (Sum.inr ("rest" : Str), .int 0)] (Sum.inr ("cells" : Str)) = none := by rw [valV_neg (ks kLC), valV_neg (ks kRC)]; rfl
        have v4 : valV [((Sum.inr ("large" : Str) : Key), V.ref lp), (Sum.inr ("rest" : Str), .int 0), (Sum.inr ("cells" : Str), .ref cp)] (Sum.inr ("turn" : Str)) = none := by rw [valV_neg (ks kLT), valV_neg (ks kRT), valV_neg (ks kCT)]; rfl
        rw [putK_new _ v1, List.nil_append, putK_new _ v2]
        simp only [List.cons_append, List.nil_append]
        rw [putK_new _ v3]
        simp only [List.cons_append, List.nil_append]
        rw [putK_new _ v4]
        rfl
      rw [e]
      exact hQ p lp cp _ _ hp0.1 hlp hc0.1 hp0.2 (Ne.symm hc0.2.1) (Ne.symm hc0.2.2)
end DL
-- DLlaw
set_option Elab.async false
set_option linter.all false
set_option maxRecDepth 100000
set_option maxHeartbeats 2000000
set_option autoImplicit false
namespace DL
open PySem PySem.Spec L2
open PyProof.Rows hiding St
/-! ### lambdas in a body: what gen.py writes -/
@[simp] theorem sFnF {sp : SpF} {b0 : Clo → SpD} {ls : List LamD} {ta : DTA} {Δ : List Sl} {Q : D → List Sl → Prop} {E : EX} : dFnF sp b0 ls ta Δ Q E = ta Δ (fun ds Δ1 => ∃ dcs, imss Δ1 ls = some dcs ∧ sp (behs b0 ls dcs) ds (fun d => Q d Δ1) E) E := rfl
@[simp] theorem sLCF {ls : List LamD} {own : List Nat} {ti : DTI} {g : DTG} {tt : (Clo → SpD) → DTT} {te : DTE} {Δ : List Sl} {Q : Sl → List Sl → Prop} {E : EX} : dLCF ls own ti g tt te Δ Q E = ∃ dcs, imss Δ ls = some dcs ∧ ti Δ (fun ds Δ1 => dLCk own g (tt (behs noBeh ls dcs)) te ds Δ1 Q) E := rfl
abbrev LamOk (X : Cx) (lv : Nat) (l : LamD) : Prop := ∃ lv', lv' + 1 ≤ lv ∧ LamB X.prog X.w X.K X.mg X.base l.caps l.ps l.k lv' l.te ∧ CapAt X l.k l.caps l.ix
theorem hls_nil {X : Cx} {lv : Nat} : ∀ l ∈ ([] : List LamD), LamOk X lv l := fun l h => by cases h
theorem hls_cons {X : Cx} {lv : Nat} {l : LamD} {ls : List LamD} (h : LamOk X lv l) (t : ∀ l ∈ ls, LamOk X lv l) : ∀ x ∈ l :: ls, LamOk X lv x := fun x hx => by
  rcases List.mem_cons.mp hx with rfl | hx
  · exact h
  · exact t x hx
def capC (N : List Str) (sc scope : Scope) (caps : List Str) (ix : List Nat) : Bool :=
  decide (caps.length = ix.length) && (caps.all fun y => decide ((y, NameKind.free) ∈ scope.names) && decide (sc.names.lookup y = some .cell)) && (scope.names.all fun p => !decide (p.2 = .free) || decide (p.1 ∈ caps)) && ((caps.zip ix).all fun p => decide (N[p.2]? = some p.1))
theorem capAt_by {X : Cx} {params : Arguments} {body : Expr} {scope : Scope} {caps : List Str} {ix : List Nat} (h : capC X.N X.env.scope scope caps ix = true) (hf : ∀ y, X.fn y = true) : CapAt X (cloOf X params body scope) caps ix := by
  unfold capC at h
  simp only [Bool.and_eq_true, Bool.or_eq_true, Bool.not_eq_true', decide_eq_true_eq, decide_eq_false_iff_not, List.all_eq_true] at h
  obtain ⟨⟨⟨h1, h2⟩, h3⟩, h4⟩ := h
  refine ⟨h1, rfl, fun y hy => (h2 y hy).1, fun y hy => (h3 _ hy).resolve_left (fun z => z rfl), fun i y j e1 e2 => ?_, fun y hy => ⟨(h2 y hy).2, hf y⟩⟩
  exact h4 (y, j) (List.mem_of_getElem? (i := i) (by rw [List.getElem?_zip_eq_some]; exact ⟨e1, e2⟩))
/-- no knowledge of lambdas from outside -/
def bmNo : Hp := fun _ => none
theorem sub_no {B : Hp} : Sub bmNo B := fun a o h => by cases h
def freeB (sc scope : Scope) : Bool := scope.names.all fun p => !decide (p.2 = .free) || (decide (sc.names.lookup p.1 = some .cell) || decide (sc.names.lookup p.1 = some .free))
theorem hf_by {env : Env} {scope : Scope} (h : freeB env.scope scope = true) : ∀ y ∈ scope.names, y.2 = .free → env.kindOf y.1 = some .cell ∨ env.kindOf y.1 = some .free := fun y hy e => by
  have q := List.all_eq_true.mp h y hy
  simp only [Bool.or_eq_true, Bool.not_eq_true', decide_eq_true_eq, decide_eq_false_iff_not] at q
  exact q.resolve_left (fun z => z e)
end DL
-- DLhead
set_option Elab.async false
set_option linter.all false
set_option maxRecDepth 100000
set_option maxHeartbeats 2000000
set_option autoImplicit false
namespace DL
open PySem PySem.Spec L2
open PyProof.Rows hiding St
/-! ### the law's def: the draws are made, then all goes by trees -/
theorem fund_okC {P : Program} {w : World} {K : PySem.W.Frag} {mg : Str → Option Value} {base : Heap} {x qual : Str} {params : Arguments} {body : List Stmt} {scope : Scope} {dvs : List V} {kws : List (Str × V)} {f : Addr} {fd : FuncData} {CX : CXT} {N ps : List Str} {k : Nat} {sp : Sp}
    (F : FunD K x qual params body scope dvs kws f fd) (S : FnScope N ps scope) (len : ∀ vs H Q E, sp vs H Q E → vs.length = ps.length)
    (hbody : ∀ (cdv : Value) (A : Around) (outer : List Env) (s : Shared) (H : Hp) (vs : List V) (Q : VK) (E : XK), fd.code = cdv → DL.Room k (A.deeper (envOfC qual scope s.heap.objs.size f cdv)) → sp vs H Q E → ∃ t, PSs (cxOf CX P w K mg base N qual scope f cdv A outer s H E) body t ∧ t { nx := fun _ H' => Q .non H', rt := Q } (L2.start N vs) H) :
    DL.FnOk P w K mg base CX (k + 1) f fd ps sp := by
  obtain ⟨oc, od, dV, kV, doc, pm, an, cdv, ct, osl, rfl, lk, hcd, _, _⟩ := F.ex
  exact ⟨len, fun A outer s H args us vs Q E hr e0 hb r h => LamX.run_ofS lk hcd S hr.r e0 hb r (len _ _ _ _ h) fun hr' => hbody cdv A outer s H vs Q E rfl ⟨hr', hr.gd⟩ h⟩
/-- what the law promises; T: the tables of code objects, with the names of what is made there -/
def spLaw (K : PySem.W.Frag) (T : List (Addr × Str)) : Sp := fun vs H Q _ => ∃ (a : Addr) (ns : List Int), vs = [.ref a] ∧ SqL K H a (ns.map V.int) ∧ ns.length ≤ 63 ∧ (∀ q ∈ T, H q.1 = some (.tbl #[])) ∧ ∀ H', Q (.bl true) H'
theorem rest_any {X : Cx} {rest : List Stmt} : PSs X rest (fun D σ H => ∃ t : TS, PSs X rest t ∧ t D σ H) := ⟨fun pins s σ H D I ⟨_, ht, q⟩ => ht.run pins s σ H D I q⟩
def lawStart (n : Nat) (ns : List Int) : List Sl := ((List.replicate n Sl.un).set 0 (.im (.scr ns))).set 1 (.im .drw)
/-- no table -/
def notb : Option HO → Option HO
  | some (.tbl _) => none
  | x => x
theorem notb_some {x : Option HO} {o : HO} (h : notb x = some o) : x = some o ∧ ∀ ps, o ≠ .tbl ps := by
  unfold notb at h
  split at h
  · cases h
  · rename_i n
    exact ⟨h, fun ps z => n ps (by rw [h, z])⟩
theorem notb_of {x : Option HO} {o : HO} (h : x = some o) (n : ∀ ps, o ≠ .tbl ps) : notb x = some o := by
  subst h
  unfold notb
  split
  · rename_i z; cases z; exact absurd rfl (n _)
  · rfl
theorem tabs_new {T : List (Addr × Str)} {H : Hp} (h : ∀ q ∈ T, H q.1 = some (.tbl #[])) : LamX.Tabs T H := fun q hq => ⟨#[], h q hq, by trivial, fun pos cv e => by cases e⟩
theorem law_ok {P : Program} {w : World} {K : PySem.W.Frag} {mg : Str → Option Value} {base : Heap} {x qual : Str} {st s0 : Stmt} {rest : List Stmt} {f : Addr} {fd : FuncData} {N : List Str} {k : Nat} {T : List (Addr × Str)}
    (F : FunD K x qual (defArgs st) (defBody st) (defScope st) [] [] f fd) (S : FnScope N ["script"] (defScope st)) (h2 : 2 ≤ N.length) (hb : defBody st = s0 :: rest)
    (h0 : ∀ (cdv : Value) (A : Around) (outer : List Env) (s : Shared) (H : Hp) (E : XK), Room k (A.deeper (envOfC qual (defScope st) s.heap.objs.size f cdv)) → PS (cxB P w K mg base N qual st f cdv A outer s H E) s0 (tAsg (tCall (spBegun K) [] (fun _ _ _ => False) (tCons (tVar 0) tNil)) (gName 1)))
    (h1 : ∀ (W : Wd K) (cdv : Value) (A : Around) (outer : List Env) (s : Shared) (H H0 B : Hp) (E : XK), W.T = T → fd.code = cdv → Room k (A.deeper (envOfC qual (defScope st) s.heap.objs.size f cdv)) → ∃ t : DTS, PSs (cxB P w K mg base N qual st f cdv A outer s H E) rest (upS (⟨W, H0, B, E, noE, fun _ _ _ h => h.elim⟩ : Gx K) t) ∧
      ∀ (ns : List Int) (Q : D → Prop), Q (.bl true) → t { nx := fun _ => Q .non, rt := Q } (lawStart N.length ns) noE) : FnOk P w K mg base (L2.CX P w) (k + 1) f fd ["script"] (spLaw K T) := by
  refine fund_okC F (CX := L2.CX P w) S (fun vs H Q E ⟨a, ns, e, _⟩ => by rw [e]; rfl) fun cdv A outer s H vs Q E hcd hr ⟨a, ns, e, hS, hl, hT, hq⟩ => ?_
  subst e
  rw [hb]
  refine ⟨_, pss_cons (h0 cdv A outer s H E hr) rest_any, ?_⟩
  have hN : N.length = (N.length - 2) + 2 := by omega
  have es : L2.start N [V.ref a] = some (.ref a) :: List.replicate (N.length - 1) none := by
    unfold L2.start
    rfl
  refine ⟨.ref a, by rw [es]; rfl, a, ns, rfl, hS, hl, fun p lp cp ls cs n1 n2 n3 e1 e2 e3 => ?_⟩
  let H3 : Hp := upd (upd (upd (upd H lp (.lst (ls.map V.int))) p (.dK [])) cp (.lst (cs.map V.int))) p (.dK (drawKv lp cp 0 0))
  let W : Wd K := ⟨p, lp, cp, cs, T, e1, e2, e3⟩
  obtain ⟨t, ht, hrun⟩ := h1 W cdv A outer s H H3 (fun b => if b = a then notb (H b) else none) E rfl hcd hr
  have keep : ∀ b o, H b = some o → H3 b = some o := fun b o e => by
    show upd _ p _ b = _
    rw [upd_ne (ne_of_none e n1), upd_ne (ne_of_none e n3), upd_ne (ne_of_none e n1), upd_ne (ne_of_none e n2)]
    exact e
  have hp3 : H3 p = some (.dK (drawKv lp cp 0 0)) := upd_same
  have hl3 : H3 lp = some (.lst (ls.map V.int)) := by
    show upd _ p _ lp = _
    rw [upd_ne (Ne.symm e1), upd_ne e3, upd_ne (Ne.symm e1)]
    exact upd_same
  have hc3 : H3 cp = some (.lst (cs.map V.int)) := by
    show upd _ p _ cp = _
    rw [upd_ne (Ne.symm e2)]
    exact upd_same
  have wok : W.ok H3 := ⟨⟨0, 0, ls, hp3, hl3, hc3⟩, tabs_new fun q hq => keep _ _ (hT q hq)⟩
  have fresh : ∀ b, W.fv b → H b = none := fun b h => by
    rcases h with rfl | rfl | rfl
    · exact n1
    · exact n2
    · exact n3
  have hB : ∀ {b o}, (if b = a then notb (H b) else none) = some o → H b = some o ∧ ∀ ps, o ≠ .tbl ps := fun {b o} e => by
    split at e
    · exact notb_some e
    · cases e
  have gr : Grow W H3 (fun b => if b = a then notb (H b) else none) H3 (fun b => if b = a then notb (H b) else none) := by
    refine ⟨fun _ _ e _ => e, fun _ e => e, Sub.refl _, fun _ e => .inl e, fun b o e => ?_, wok⟩
    obtain ⟨e1, e2⟩ := hB e
    exact ⟨keep b o e1, e2, fun z => by rw [fresh b z] at e1; cases e1⟩
  have sq : SqL K (fun b => if b = a then notb (H b) else none) a (ns.map V.int) := by
    rcases hS with (e | ⟨o, e⟩) | e
    · exact .inl (.inl (by show (if a = a then notb (H a) else none) = _; rw [if_pos rfl]; exact notb_of e (fun ps z => by cases z)))
    · exact .inl (.inr ⟨o, by show (if a = a then notb (H a) else none) = _; rw [if_pos rfl]; exact notb_of e (fun ps z => by cases z)⟩)
    · exact .inr e
  have r0 : DR (⟨W, H3, (fun b => if b = a then notb (H b) else none), E, noE, fun _ _ _ h => h.elim⟩ : Gx K) (List.replicate N.length .un) (List.replicate N.length none) H3 (fun b => if b = a then notb (H b) else none) := by
    refine ⟨gr, fun _ => [], by simp, fun j s e => ?_, fun _ _ _ z => (by cases z), fun _ _ z => (by cases z)⟩
    rw [List.getElem?_replicate] at e
    split at e
    · cases e
      exact ⟨none, by rw [List.getElem?_replicate, if_pos (by assumption)], .un _⟩
    · cases e
  have r2 := (r0.put 0 (v := .ref a) (d := .scr ns) (.scr a _ ns sq rfl)).put 1 (v := .ref W.dp) (d := .drw) .drw
  refine ⟨_, ht, ?_⟩
  have e4 : (L2.start N [V.ref a]).set 1 (some (V.ref p)) = ((List.replicate N.length none).set 0 (some (.ref a))).set 1 (some (.ref p)) := by
    rw [es, show N.length = (N.length - 1) + 1 by omega, List.replicate_succ]
    rfl
  show upS _ t _ ((L2.start N [V.ref a]).set 1 (some (V.ref p))) H3
  rw [e4]
  exact ⟨_, _, { nx := fun _ => D.non = .bl true, rt := fun d => d = .bl true }, r2, hrun ns (fun d => d = .bl true) rfl, fun _ _ _ _ z => (by cases z), fun _ _ _ _ z => z.elim, fun _ _ _ _ z => z.elim, fun d v H' B' e _ _ rp => by subst e; cases rp; exact hq H'⟩
/-- what the top must have left of an error class, as one look -/
def excB (K : PySem.W.Frag) (D : Addr) : Bool :=
  decide (PySem.W.findIn K (.ref D) "__getattribute__" = some (some (.builtin "BaseException.__getattribute__"))) && decide (PySem.W.findIn K (.ref D) "__getattr__" = some none) && decide (PySem.W.subIn K (.ref D) (.type "BaseException") = some true) && PySem.W.hasDictIn K D &&
  decide (PySem.W.findIn K (.ref D) "__class__" = some (some (.builtin "object.__class__"))) && decide (PySem.W.specialIn K (.builtin "object.__class__") "__get__" = some (some (.builtin "getset_descriptor.__get__"))) && decide (PySem.W.takesIn K (.builtin "object.__class__") = some true) &&
  decide (PySem.W.mroIn K D (.type "object") = some true) && decide (PySem.W.kitOne K (.ref D) (.ref D) = some true)
theorem excB_ok {K : PySem.W.Frag} {D : Addr} (h : excB K D = true) : ExcC K D ∧ PySem.W.kitOne K (.ref D) (.ref D) = some true := by
  unfold excB at h
  simp only [Bool.and_eq_true, decide_eq_true_eq] at h
  obtain ⟨⟨⟨⟨⟨⟨⟨⟨h1, h2⟩, h3⟩, h4⟩, h5⟩, h6⟩, h7⟩, h8⟩, h9⟩ := h
  exact ⟨⟨h1, h2, h3, h4, h5, h6, h7, h8⟩, h9⟩
end DL
-- DLdk
set_option Elab.async false
set_option linter.all false
set_option maxRecDepth 100000
set_option maxHeartbeats 2000000
set_option autoImplicit false
namespace DL
open PySem PySem.Spec L2
open PyProof.Rows hiding St
/-! ### a thing of ours that no name holds: it is kept in the heap at the entry -/
abbrev gdo {K : PySem.W.Frag} (G : Gx K) (p : Addr) (o : HO) : Gx K := nox G.W (upd G.H0 p o) G.B0
structure Hold {K : PySem.W.Frag} (G : Gx K) (p : Addr) : Prop where
  h0 : G.H0 p = none
  b0 : G.B0 p = none
  nf : ¬ G.W.fv p
section
variable {K : PySem.W.Frag} {G : Gx K} {Δ : List Sl} {σ : L2.St} {H B : Hp} {p : Addr} {o : HO}
theorem hold_new (r : DR G Δ σ H B) (hp : H p = none) (ho : ∀ ps, o ≠ .tbl ps) : Hold G p ∧ DR (gdo G p o) Δ σ (upd H p o) B := by
  have h0 : G.H0 p = none := by
    cases e : G.H0 p with
    | none => rfl
    | some u => exact absurd hp (r.gr.dom p (by rw [e]; simp))
  have bp : B p = none := r.free hp
  have b0 : G.B0 p = none := by
    cases e : G.B0 p with
    | none => rfl
    | some u => rw [r.gr.bas _ _ e] at bp; cases bp
  have nf := (solid_new (o := o) r.wok hp ho).2
  refine ⟨⟨h0, b0, nf⟩, ?_⟩
  obtain ⟨fp, S⟩ := r.sl
  have np : ∀ j a, a ∈ fp j → a ≠ p := fun j a ha z => by
    obtain ⟨u, e, _⟩ := (S.ou j a ha).2.2.2
    rw [z, hp] at e; cases e
  refine ⟨⟨fun a u e s => ?_, fun a e => ?_, r.gr.bas, fun a e => ?_, fun a u e => ?_, wok_upd r.gr.wok (.inl hp)⟩, fp, S.len, fun j s e => ?_, S.dj, fun j a ha => ?_⟩
  · have e : upd G.H0 p o a = some u := e
    by_cases z : a = p
    · subst z; rw [upd_same] at e ⊢; exact e
    · rw [upd_ne z] at e ⊢; exact r.gr.ext a u e s
  · have e : upd G.H0 p o a ≠ none := e
    by_cases z : a = p
    · subst z; rw [upd_same]; simp
    · rw [upd_ne z] at e ⊢; exact r.gr.dom a e
  · by_cases z : a = p
    · subst z; exact absurd bp e
    · refine (r.gr.new a e).imp id (Or.imp (fun h => ?_) fun ⟨u, h, n⟩ => ⟨u, ?_, n⟩)
      · show upd G.H0 p o a = none
        rw [upd_ne z]; exact h
      · show upd G.H0 p o a = some u
        rw [upd_ne z]; exact h
  · by_cases z : a = p
    · subst z; rw [bp] at e; cases e
    · rw [upd_ne z]; exact r.gr.sub a u e
  · obtain ⟨v, e1, e2⟩ := S.at_ j s e
    exact ⟨v, e1, e2.mono (Sub.refl _) fun a ha => upd_ne (np j a ha)⟩
  · obtain ⟨c1, c2, c3, c4⟩ := S.ou j a ha
    refine ⟨c1, ?_, c3, ?_⟩
    · show upd G.H0 p o a = none
      rw [upd_ne (np j a ha)]; exact c2
    · rw [upd_ne (np j a ha)]; exact c4
theorem held_get (h : Hold G p) (r : DR (gdo G p o) Δ σ H B) (ho : ∀ ps, o ≠ .tbl ps) : H p = some o := r.gr.ext p _ (show upd G.H0 p o p = _ from upd_same) ⟨ho, h.nf⟩
theorem held_free (h : Hold G p) (r : DR (gdo G p o) Δ σ H B) (po : plainO o) : B p = none := by
  cases x : B p with
  | none => rfl
  | some u =>
    rcases r.gr.new p (by rw [x]; simp) with z | z | ⟨u, z, n⟩
    · exact absurd h.b0 z
    · have z : upd G.H0 p o p = none := z
      rw [upd_same] at z; cases z
    · have z : upd G.H0 p o p = some u := z
      rw [upd_same] at z; cases z; exact absurd po n
theorem held_own (h : Hold G p) (r : DR (gdo G p o) Δ σ H B) : ∀ fp, Sls (gdo G p o) Δ σ H B fp → ∀ j a, a ∈ fp j → a ≠ p := fun fp S j a ha z => by
  have e : upd G.H0 p o a = none := (S.ou j a ha).2.1
  rw [z, upd_same] at e; cases e
theorem held_upd (h : Hold G p) (r : DR (gdo G p o) Δ σ H B) (po : plainO o) {o' : HO} (po' : plainO o') : DR (gdo G p o') Δ σ (upd H p o') B := by
  have hp := held_get h r (fun ps z => by subst z; exact po)
  have bp := held_free h r po
  obtain ⟨fp, S⟩ := r.sl
  have np := held_own h r fp S
  refine ⟨⟨fun a u e s => ?_, fun a e => ?_, r.gr.bas, fun a e => ?_, fun a u e => ?_, wok_upd r.gr.wok (.inr ⟨h.nf, o, hp, po⟩)⟩, fp, S.len, fun j s e => ?_, S.dj, fun j a ha => ?_⟩
  · have e : upd G.H0 p o' a = some u := e
    by_cases z : a = p
    · subst z; rw [upd_same] at e ⊢; exact e
    · rw [upd_ne z] at e ⊢
      exact r.gr.ext a u (show upd G.H0 p o a = some u by rw [upd_ne z]; exact e) s
  · have e : upd G.H0 p o' a ≠ none := e
    by_cases z : a = p
    · subst z; rw [upd_same]; simp
    · rw [upd_ne z] at e ⊢
      exact r.gr.dom a (show upd G.H0 p o a ≠ none by rw [upd_ne z]; exact e)
  · by_cases z : a = p
    · subst z; exact absurd bp e
    · refine (r.gr.new a e).imp id (Or.imp (fun h => ?_) fun ⟨u, h, n⟩ => ⟨u, ?_, n⟩)
      · have h : upd G.H0 p o a = none := h
        show upd G.H0 p o' a = none
        rw [upd_ne z] at h ⊢; exact h
      · have h : upd G.H0 p o a = some u := h
        show upd G.H0 p o' a = some u
        rw [upd_ne z] at h ⊢; exact h
  · by_cases z : a = p
    · subst z; rw [bp] at e; cases e
    · rw [upd_ne z]; exact r.gr.sub a u e
  · obtain ⟨v, e1, e2⟩ := S.at_ j s e
    exact ⟨v, e1, e2.mono (Sub.refl _) fun a ha => upd_ne (np j a ha)⟩
  · obtain ⟨c1, c2, c3, c4⟩ := S.ou j a ha
    refine ⟨c1, ?_, c3, ?_⟩
    · have c2 : upd G.H0 p o a = none := c2
      show upd G.H0 p o' a = none
      rw [upd_ne (np j a ha)] at c2 ⊢; exact c2
    · rw [upd_ne (np j a ha)]; exact c4
theorem held_out (h : Hold G p) (r : DR (gdo G p o) Δ σ H B) (po : plainO o) {s : Sl} (hs : SlR G.W B H s (some (.ref p)) [p]) : DR G (Δ ++ [s]) (σ ++ [some (.ref p)]) H B := by
  have bp := held_free h r po
  obtain ⟨fp, S⟩ := r.sl
  have np := held_own h r fp S
  have hl := S.len
  have dn : ∀ a, a ≠ p → upd G.H0 p o a = G.H0 a := fun a z => upd_ne z
  refine ⟨⟨fun a u e s => r.gr.ext a u (show upd G.H0 p o a = some u by rw [dn a (ne_of_none e h.h0)]; exact e) s, fun a e => ?_, r.gr.bas, fun a e => ?_, r.gr.sub, r.gr.wok⟩, fun j => if j < Δ.length then fp j else if j = Δ.length then [p] else [], by simp [hl], fun j x ej => ?_, fun j k a h1 h2 => ?_, fun j a ha => ?_⟩
  · have z : a ≠ p := fun z => e (by rw [z]; exact h.h0)
    exact r.gr.dom a (show upd G.H0 p o a ≠ none by rw [dn a z]; exact e)
  · rcases r.gr.new a e with z | z | ⟨u, z, n⟩
    · exact .inl z
    · have z : upd G.H0 p o a = none := z
      have q : a ≠ p := fun w => by subst w; rw [upd_same] at z; cases z
      rw [dn a q] at z; exact .inr (.inl z)
    · have z : upd G.H0 p o a = some u := z
      by_cases q : a = p
      · subst q; exact .inr (.inl h.h0)
      · rw [dn a q] at z; exact .inr (.inr ⟨u, z, n⟩)
  · by_cases hj : j < Δ.length
    · rw [List.getElem?_append_left hj] at ej
      obtain ⟨w, q1, q2⟩ := S.at_ j x ej
      refine ⟨w, by rw [List.getElem?_append_left (by rw [← hl]; exact hj)]; exact q1, ?_⟩
      simp only [if_pos hj]; exact q2
    · rw [List.getElem?_append_right (by omega)] at ej
      have z : j - Δ.length = 0 := by
        cases h : j - Δ.length with
        | zero => rfl
        | succ n => rw [h] at ej; simp at ej
      rw [z] at ej; simp at ej; subst ej
      refine ⟨_, by rw [List.getElem?_append_right (by rw [← hl]; omega), ← hl, z]; rfl, ?_⟩
      simp only [if_neg hj, if_pos (show j = Δ.length by omega)]; exact hs
  · try dsimp only at h1 h2
    split at h1
    · split at h2
      · exact S.dj _ _ a h1 h2
      · split at h2
        · simp at h2; exact absurd h2 (np _ a h1)
        · cases h2
    · split at h1
      · simp at h1
        split at h2
        · exact absurd h1 (np _ a h2)
        · split at h2
          · omega
          · cases h2
      · cases h1
  · try dsimp only at ha
    split at ha
    · obtain ⟨d1, d2, d3, d4⟩ := S.ou j a ha
      have d2 : upd G.H0 p o a = none := d2
      rw [dn a (np j a ha)] at d2
      exact ⟨d1, d2, d3, d4⟩
    · split at ha
      · simp at ha; subst ha
        exact ⟨bp, h.h0, h.nf, hs.there a (by simp)⟩
      · cases ha
end
/-! ### {k: v for .. in ..} -/
def dDCk (own : List Nat) (g : DTG) (tt : DTT) (tk tv : DTE) (ds : List D) (Δ1 : List Sl) (Q : Sl → List Sl → Prop) : Prop := ∃ Iv : Nat → List (Key × D) → List Sl → Prop, Iv 0 [] (wipeD Δ1 own) ∧
  (∀ i d acc Δ2, ds[i]? = some d → Iv i acc Δ2 → g d Δ2 fun Δ3 => tt Δ3 (fun b Δ4 => if b = true then tk Δ4 (fun kd Δ5 => tv Δ5 (fun v Δ6 => ∃ y, kd.key = some y ∧ acc.length < sizeLine ∧ Iv (i + 1) (put acc y v) (wipeD Δ6 own)) noE) noE else Iv (i + 1) acc (wipeD Δ4 own)) noE) ∧
  ∀ acc Δ2, Iv ds.length acc Δ2 → Q (.ok acc) Δ2
def dDC (own : List Nat) (ti : DTI) (g : DTG) (tt : DTT) (tk tv : DTE) : DTM := fun Δ Q E => ti Δ (fun ds Δ1 => dDCk own g tt tk tv ds Δ1 Q) E
@[simp] theorem sDC2 {own : List Nat} {ti : DTI} {g : DTG} {tt : DTT} {tk tv : DTE} {Δ : List Sl} {Q : Sl → List Sl → Prop} {E : EX} : dDC own ti g tt tk tv Δ Q E = ti Δ (fun ds Δ1 => dDCk own g tt tk tv ds Δ1 Q) E := rfl
section
variable {X : Cx} {G : Gx X.K} {pos : Pos}
theorem dc_up {own : List Nat} {S : List Nat} {ti : DTI} {g : DTG} {tt : DTT} {tk tv : DTE} (hS : ∀ i ∈ S, i ∈ own) {σ : L2.St} {H : Hp} {Q : VK} (h : upM G (dDC own ti g tt tk tv) σ H Q)
    {gH : TG} {ttH : TT} {tkH tvH : TE}
    (hg : ∀ (H0 B0 : Hp) v σ H Q, upG (nox G.W H0 B0) S g v σ H Q → gH v σ H Q)
    (ht : ∀ (H0 B0 : Hp) σ H Q, upT (nox G.W H0 B0) tt σ H Q → ttH σ H Q)
    (hk : ∀ (H0 B0 : Hp) σ H Q, upE (nox G.W H0 B0) tk σ H Q → tkH σ H Q)
    (he : ∀ (H0 B0 : Hp) σ H Q, upE (nox G.W H0 B0) tv σ H Q → tvH σ H Q) : tDc (upI G ti) gH ttH tkH tvH own σ H Q := by
  obtain ⟨Δ, B, Qd, r, q, k⟩ := h
  refine ⟨Δ, B, _, r, q, fun ds Δ1 J H1 B1 ⟨Iv, i0, turn, fin⟩ r1 s1 it L hL => ?_⟩
  obtain ⟨hh, rg⟩ := hold_new (o := .dK []) (r1.wipeA own) hL (fun ps z => by cases z)
  refine ⟨fun i m H' => ∃ Δ' B' acc kvs, m = ds.length - i ∧ i ≤ ds.length ∧ DR (gdo G L (.dK kvs)) Δ' (wipe σ own) H' B' ∧ (kvs.map (·.1) = acc.map (·.1) ∧ Rps G.W B' (kvs.map (·.2)) (acc.map (·.2))) ∧ Sub B1 B' ∧ Iv i acc Δ' ∧ wipeD Δ' own = Δ',
    ⟨_, wipeD Δ1 own, B1, [], [], rfl, Nat.zero_le _, rg, ⟨rfl, .nil⟩, Sub.refl _, i0, wipeD_idem own⟩, ?_⟩
  rintro i m H2 ⟨Δ2, B2, acc, kvs, rfl, hi, r2, ⟨q2k, q2⟩, s2, v2, w2⟩
  by_cases hl : i < ds.length
  · refine .inr ⟨it.go r2.gr s2 hl, fun H' => ∃ Δ' B' acc kvs, DR (gdo G L (.dK kvs)) Δ' (wipe σ own) H' B' ∧ (kvs.map (·.1) = acc.map (·.1) ∧ Rps G.W B' (kvs.map (·.2)) (acc.map (·.2))) ∧ Sub B1 B' ∧ Iv (i + 1) acc Δ' ∧ wipeD Δ' own = Δ', fun H' ⟨Δ', B', acc, vs, h⟩ => ⟨_, by omega, Δ', B', acc, vs, rfl, hl, h⟩, fun x H3 y => ?_⟩
    obtain ⟨B3, d, hd, g3, rp⟩ := it.yld r2.gr s2 hl y
    have r3 := r2.grow g3
    have q3 := q2.mono g3.bas
    refine hg _ _ _ _ _ _ ⟨Δ2, B3, d, _, r3, rp, turn i d acc Δ2 hd v2, fun Δ4 σ4 H4 B4 q4 r4 s4 kp => ?_⟩
    have we2 : wipe σ4 own = wipe σ own := (kp own hS).trans (wipe_wipe own)
    refine ⟨we2, ht _ _ _ _ _ ⟨Δ4, B4, _, r4, q4, fun b Δ5 H5 B5 q5 r5 s5 => ?_⟩⟩
    have we3 : wipe σ4 own = wipe (wipe σ own) own := kp own hS
    cases b with
    | true =>
      refine hk _ _ _ _ _ ⟨Δ5, B5, _, r5, q5, fun kd Δ6 z H6 B6 q6 r6 s6 rz => ?_⟩
      refine he _ _ _ _ _ ⟨Δ6, B6, _, r6, q6, fun vd Δ7 z7 H7 B7 ⟨y7, ey, hz, q7⟩ r7 s7 rz7 => ?_⟩
      have q8 := (((q3.mono s4).mono s5).mono s6).mono s7
      obtain ⟨a1, a2⟩ := put_pair q2k q8 y7 rz7
      have hl2 : kvs.length = acc.length := by have := congrArg List.length q2k; simpa using this
      refine ⟨kvs, y7, key_inv rz ey, held_get hh r7 (fun ps z => by cases z), by rw [hl2]; exact hz, wipeD Δ7 own, B7, put acc y7 vd, putK kvs y7 z7, (held_upd hh r7 (o' := .dK (putK kvs y7 z7)) trivial trivial).unwipe we3, ⟨a1, a2⟩, ((((s2.trans g3.bas).trans s4).trans s5).trans s6).trans s7, q7, wipeD_idem own⟩
    | false => exact ⟨wipeD Δ5 own, B5, acc, kvs, r5.unwipe we3, ⟨q2k, (q3.mono s4).mono s5⟩, ((s2.trans g3.bas).trans s4).trans s5, q5, wipeD_idem own⟩
  · have e : i = ds.length := by omega
    subst e
    refine .inl ⟨it.stop r2.gr s2 (Nat.le_refl _), ?_⟩
    have r5 := r2.unwipe (σ := σ) (vs := own) (wipe_wipe own)
    rw [w2] at r5
    have hp := held_get hh r5 (fun ps z => by cases z)
    exact k _ _ _ _ _ (fin _ _ v2) (held_out hh r5 trivial (.ok _ _ _ hp q2k q2)) (s1.trans s2)
theorem dm_dc {kx vx tg iter : Expr} {ifs : List Expr} {scope : Scope} {own : List (Str × Nat)} {S : List Nat} {ti : DTI} {g : DTG} {tt : DTT} {tk tv : DTE} (hc : X.calm = true) (hN : X.N.Nodup) (hi : PI X tg iter (upI G ti)) (ok : BlkOk X.N X.env.scope scope own)
    (hg : ∀ (s : Shared) (H : Hp) (C : Addr) (cl : List (Str × Addr)) (fp : List Addr) (H0 B0 : Hp), PG (X.blk s H scope (compEnvC scope cl C X.env) fp) tg (upG (nox G.W H0 B0) S g))
    (ht : ∀ (s : Shared) (H : Hp) (C : Addr) (cl : List (Str × Addr)) (fp : List Addr) (H0 B0 : Hp), PTs (X.blk s H scope (compEnvC scope cl C X.env) fp) ifs (upT (nox G.W H0 B0) tt))
    (hk : ∀ (s : Shared) (H : Hp) (C : Addr) (cl : List (Str × Addr)) (fp : List Addr) (H0 B0 : Hp), PE (X.blk s H scope (compEnvC scope cl C X.env) fp) kx (upE (nox G.W H0 B0) tk))
    (he : ∀ (s : Shared) (H : Hp) (C : Addr) (cl : List (Str × Addr)) (fp : List Addr) (H0 B0 : Hp), PE (X.blk s H scope (compEnvC scope cl C X.env) fp) vx (upE (nox G.W H0 B0) tv))
    (hS : ∀ i ∈ S, i ∈ own.map (·.2) := by decide) (hs : ∀ x, foldedSetIterable iter X.env x = pure x := by intro _; rfl) : PE X (.DictComp kx vx [⟨tg, iter, ifs, 0⟩] scope pos) (upM G (dDC (own.map (·.2)) ti g tt tk tv)) :=
  PE.imp (pe_dc (g := fun v σ H Q => ∃ H0 B0, upG (nox G.W H0 B0) S g v σ H Q) (tt := fun σ H Q => ∃ H0 B0, upT (nox G.W H0 B0) tt σ H Q) (tk := fun σ H Q => ∃ H0 B0, upE (nox G.W H0 B0) tk σ H Q) (tv := fun σ H Q => ∃ H0 B0, upE (nox G.W H0 B0) tv σ H Q) hc hN hi ok
    (fun s H C cl fp => ⟨fun p s' σ H' v u Q I r ⟨H0, B0, q⟩ => (hg s H C cl fp H0 B0).run p s' σ H' v u Q I r q⟩)
    (fun s H C cl fp => ⟨fun p s' σ H' Q I ⟨H0, B0, q⟩ => (ht s H C cl fp H0 B0).run p s' σ H' Q I q⟩)
    (fun s H C cl fp => ⟨fun p s' σ H' Q I ⟨H0, B0, q⟩ => (hk s H C cl fp H0 B0).run p s' σ H' Q I q⟩)
    (fun s H C cl fp => ⟨fun p s' σ H' Q I ⟨H0, B0, q⟩ => (he s H C cl fp H0 B0).run p s' σ H' Q I q⟩) hs)
    fun σ H Q h => dc_up hS h (fun H0 B0 _ _ _ _ q => ⟨H0, B0, q⟩) (fun H0 B0 _ _ _ q => ⟨H0, B0, q⟩) (fun H0 B0 _ _ _ q => ⟨H0, B0, q⟩) (fun H0 B0 _ _ _ q => ⟨H0, B0, q⟩)
end
/-! ### {k: v, ..} -/
def dPairs : List (DTE × DTE) → List Sl → (List (D × D) → List Sl → Prop) → EX → Prop
  | [], Δ, Q, _ => Q [] Δ
  | (tk, tv) :: r, Δ, Q, E => tk Δ (fun k Δ1 => tv Δ1 (fun v Δ2 => dPairs r Δ2 (fun ps Δ3 => Q ((k, v) :: ps) Δ3) E) E) E
def putAll : List (Key × D) → List (Key × D) → List (Key × D)
  | acc, [] => acc
  | acc, (k, v) :: r => putAll (put acc k v) r
def dDisp (trs : List (DTE × DTE)) : DTM := fun Δ Q _ => dPairs trs Δ (fun ps Δ1 => ∃ ks : List (Key × D), ks.length ≤ 15 ∧ ps.map (fun p => (p.1.key, p.2)) = ks.map (fun p => (some p.1, p.2)) ∧ Q (.ok (putAll [] ks)) Δ1) noE
@[simp] theorem sDisp {trs : List (DTE × DTE)} {Δ : List Sl} {Q : Sl → List Sl → Prop} {E : EX} : dDisp trs Δ Q E = dPairs trs Δ (fun ps Δ1 => ∃ ks : List (Key × D), ks.length ≤ 15 ∧ ps.map (fun p => (p.1.key, p.2)) = ks.map (fun p => (some p.1, p.2)) ∧ Q (.ok (putAll [] ks)) Δ1) noE := rfl
@[simp] theorem sPairs0 {Δ : List Sl} {Q : List (D × D) → List Sl → Prop} {E : EX} : dPairs [] Δ Q E = Q [] Δ := rfl
@[simp] theorem sPairs1 {tk tv : DTE} {r : List (DTE × DTE)} {Δ : List Sl} {Q : List (D × D) → List Sl → Prop} {E : EX} : dPairs ((tk, tv) :: r) Δ Q E = tk Δ (fun k Δ1 => tv Δ1 (fun v Δ2 => dPairs r Δ2 (fun ps Δ3 => Q ((k, v) :: ps) Δ3) E) E) E := rfl
theorem mergeK_cons (acc : List (Key × V)) (p : Key × V) (r : List (Key × V)) : mergeK acc (p :: r) = mergeK (putK acc p.1 p.2) r := rfl
theorem merge_pair {K : PySem.W.Frag} {W : Wd K} {B : Hp} : ∀ (kvs : List (Key × V)) (ks : List (Key × D)) {acc : List (Key × V)} {ad : List (Key × D)}, kvs.map (·.1) = ks.map (·.1) → Rps W B (kvs.map (·.2)) (ks.map (·.2)) → acc.map (·.1) = ad.map (·.1) → Rps W B (acc.map (·.2)) (ad.map (·.2)) →
    (mergeK acc kvs).map (·.1) = (putAll ad ks).map (·.1) ∧ Rps W B ((mergeK acc kvs).map (·.2)) ((putAll ad ks).map (·.2))
  | [], [], _, _, _, _, h, r => ⟨h, r⟩
  | [], _ :: _, _, _, h, _, _, _ => by simp at h
  | _ :: _, [], _, _, h, _, _, _ => by simp at h
  | p :: kvs, q :: ks, acc, ad, h, r, h2, r2 => by
    have hk : p.1 = q.1 ∧ kvs.map (·.1) = ks.map (·.1) := by simpa using h
    cases r with
    | cons _ _ _ _ a b =>
      obtain ⟨c1, c2⟩ := put_pair h2 r2 q.1 a
      rw [mergeK_cons, hk.1]
      exact merge_pair kvs ks hk.2 b c1 c2
section
variable {X : Cx} {G : Gx X.K} {pos : Pos}
def upPs (W : Wd X.K) (trs : List (DTE × DTE)) : List (TE × TE) := trs.map fun p => (fun σ H Q => ∃ H0 B0, upE (nox W H0 B0) p.1 σ H Q, fun σ H Q => ∃ H0 B0, upE (nox W H0 B0) p.2 σ H Q)
theorem dps_nil {W : Wd X.K} : PPs X pos [] [] (upPs W []) := pps_nil
theorem dps_cons {W : Wd X.K} {k v : Expr} {ks : List (Option Expr)} {vs : List Expr} {tk tv : DTE} {trs : List (DTE × DTE)} (hk : ∀ H0 B0, PE X k (upE (nox W H0 B0) tk)) (hv : ∀ H0 B0, PE X v (upE (nox W H0 B0) tv)) (hr : PPs X pos ks vs (upPs W trs)) : PPs X pos (some k :: ks) (v :: vs) (upPs W ((tk, tv) :: trs)) :=
  pps_cons ⟨fun p s σ H Q I ⟨H0, B0, q⟩ => (hk H0 B0).run p s σ H Q I q⟩ ⟨fun p s σ H Q I ⟨H0, B0, q⟩ => (hv H0 B0).run p s σ H Q I q⟩ hr
theorem pairs_up {W : Wd X.K} {H0 B0 : Hp} {σ : L2.St} : ∀ (trs : List (DTE × DTE)) {Δ : List Sl} {H B : Hp} {Qd : List (D × D) → List Sl → Prop} {R : List (V × V) → Hp → Prop}, DR (nox W H0 B0) Δ σ H B → dPairs trs Δ Qd noE →
    (∀ pds Δ' ps H' B', Qd pds Δ' → DR (nox W H0 B0) Δ' σ H' B' → Sub B B' → Rps W B' (ps.map (·.1)) (pds.map (·.1)) → Rps W B' (ps.map (·.2)) (pds.map (·.2)) → R ps H') → tPairs (upPs W trs) σ H R
  | [], Δ, H, B, Qd, R, r, q, k => k [] Δ [] H B q r (Sub.refl B) .nil .nil
  | (tk, tv) :: trs, Δ, H, B, Qd, R, r, q, k => by
    refine ⟨H0, B0, Δ, B, _, r, q, fun kd Δ1 kv H1 B1 q1 r1 s1 rk => ?_⟩
    refine ⟨H0, B0, Δ1, B1, _, r1, q1, fun vd Δ2 vv H2 B2 q2 r2 s2 rv => ?_⟩
    refine pairs_up trs r2 q2 fun pds Δ3 ps H3 B3 q3 r3 s3 e1 e2 => ?_
    exact k _ _ _ _ _ q3 r3 ((s1.trans s2).trans s3) (.cons _ _ _ _ ((rk.mono s2).mono s3) e1) (.cons _ _ _ _ (rv.mono s3) e2)
theorem keys_rps {W : Wd X.K} {B : Hp} : ∀ {ps : List (V × V)} {pds : List (D × D)} {ks : List (Key × D)}, Rps W B (ps.map (·.1)) (pds.map (·.1)) → pds.map (fun p => (p.1.key, p.2)) = ks.map (fun p => (some p.1, p.2)) → ∃ kvs : List (Key × V), ps = kvs.map (fun kv => (kV kv.1, kv.2)) ∧ kvs.map (·.1) = ks.map (·.1) ∧ kvs.map (·.2) = ps.map (·.2) ∧ pds.map (·.2) = ks.map (·.2)
  | [], [], [], _, _ => ⟨[], rfl, rfl, rfl, rfl⟩
  | [], [], _ :: _, _, h => by simp at h
  | [], _ :: _, _, h, _ => by cases h
  | _ :: _, [], _, h, _ => by cases h
  | _ :: _, _ :: _, [], _, h => by simp at h
  | (kv, vv) :: ps, (kd, vd) :: pds, (y, d) :: ks, r, h => by
    cases r with
    | cons _ _ _ _ a b =>
      simp only [List.map_cons, List.cons.injEq, Prod.mk.injEq] at h
      obtain ⟨⟨h1, h2⟩, h3⟩ := h
      obtain ⟨kvs, e1, e2, e3, e4⟩ := keys_rps (ps := ps) (pds := pds) (ks := ks) b h3
      have hk := key_inv a h1
      refine ⟨(y, vv) :: kvs, ?_, ?_, ?_, ?_⟩
      · have hk : kv = kV y := hk
        simp [hk, e1]
      · simp [e2]
      · simp [e3]
      · simp [h2, e4]
theorem dm_disp {keys : List (Option Expr)} {values : List Expr} {trs : List (DTE × DTE)} (h : PPs X pos keys values (upPs G.W trs)) (hall : keys.all (·.isSome) = true := by rfl) (hl : keys.length = values.length := by rfl) (h0 : keys ≠ [] := by simp) (h15 : keys.length ≤ 15 := by decide) : PE X (.Dict keys values pos) (upM G (dDisp trs)) :=
  PE.imp (pe_disp h hall hl h0 h15) fun σ H Q ⟨Δ, B, Qd, r, q, k⟩ p hp => by
    obtain ⟨hh, rg⟩ := hold_new (o := .dK []) r hp (fun ps z => by cases z)
    refine pairs_up trs rg q fun pds Δ' ps H' B' ⟨ks, h15', e, q1⟩ r1 s1 rk rv => ?_
    have hp' := held_get hh r1 (fun ps z => by cases z)
    obtain ⟨kvs, e1, e2, e3, e4⟩ := keys_rps rk e
    have hlen : kvs.length = ks.length := by have := congrArg List.length e2; simpa using this
    refine ⟨hp', kvs, e1, by omega, ?_⟩
    obtain ⟨c1, c2⟩ := merge_pair (W := G.W) (B := B') kvs ks (acc := []) (ad := []) e2 (by rw [e3, ← e4]; exact rv) rfl .nil
    exact k _ _ _ _ _ q1 (held_out hh (held_upd hh r1 (o' := .dK (mergeK [] kvs)) trivial trivial) trivial (.ok _ _ _ upd_same c1 c2)) s1
/-! ### x[k] as a target among others -/
def dgSub (i : Nat) (tk : DTE) : DTG := fun d Δ Q =>
  ((∃ ds0, Δ[i]? = some (.ol ds0)) ∧ tk Δ (fun k Δ2 => ∃ ds j n, Δ2[i]? = some (.ol ds) ∧ k = .int j ∧ ixN ds.length j = some n ∧ Q (Δ2.set i (.ol (ds.set n d)))) noE) ∨
  ((∃ ds0, Δ[i]? = some (.ok ds0)) ∧ tk Δ (fun k Δ2 => ∃ ds y, Δ2[i]? = some (.ok ds) ∧ k.key = some y ∧ ds.length < sizeLine ∧ Q (Δ2.set i (.ok (put ds y d)))) noE)
@[simp] theorem sGSub {i : Nat} {tk : DTE} {d : D} {Δ : List Sl} {Q : List Sl → Prop} : dgSub i tk d Δ Q = (((∃ ds0, Δ[i]? = some (.ol ds0)) ∧ tk Δ (fun k Δ2 => ∃ ds j n, Δ2[i]? = some (.ol ds) ∧ k = .int j ∧ ixN ds.length j = some n ∧ Q (Δ2.set i (.ol (ds.set n d)))) noE) ∨
  ((∃ ds0, Δ[i]? = some (.ok ds0)) ∧ tk Δ (fun k Δ2 => ∃ ds y, Δ2[i]? = some (.ok ds) ∧ k.key = some y ∧ ds.length < sizeLine ∧ Q (Δ2.set i (.ok (put ds y d)))) noE)) := rfl
theorem dg_sub (i : Nat) {x : Str} {k : Expr} {p : Pos} {tk : DTE} (hu : X.A.units + 1 < cLine) (hk : PE X k (upE G tk)) (hE : ∀ Δ Q E, tk Δ Q noE → tk Δ Q E) (hN : X.N[i]? = some x := by rfl) (hv : Vis X.env.scope x := by first | exact Or.inl rfl | exact Or.inr (Or.inl rfl) | exact Or.inr (Or.inr rfl))
    (hd : (x == ("__debug__" : Str)) = false := by decide) (hcd : (x == ("__classdict__" : Str)) = false := by decide)
    (ha : ∀ v, assign (.Subscript (.Name x p) k pos) X.env v = (do
      let ov ← holding [v] (eval (.Name x p) X.env)
      let iv ← holding [v, ov] (eval k X.env)
      standAt pos
      holding [v, ov, iv] (setItem ov iv v)
      release [v, ov, iv] []) := by intro _; rfl) : PG X (.Subscript (.Name x p) k pos) (upG G [] (dgSub i tk)) :=
  PG.imp (PG.or (pg_sub (pe_var hN hv hd hcd) hk set_list ha) (pg_sub (pe_var hN hv hd hcd) hk (set_dict hu) ha)) fun v σ H Q ⟨Δ, B, d, Qd, r, rv, q, kk⟩ => by
    rcases q with ⟨⟨ds0, e0⟩, q⟩ | ⟨⟨ds0, e0⟩, q⟩
    · refine .inl ?_
      obtain ⟨p0, vs0, g1, g2, _⟩ := r.ol e0
      refine ⟨.ref p0, g1, Δ, B, _, r, hE _ _ _ q, ?_⟩
      rintro kd Δ2 kv H2 B2 ⟨ds, j, n, e2, rfl, hj, q2⟩ r2 s2 rk
      cases rk
      obtain ⟨p1, ws, f1, f2, f3⟩ := r2.ol e2
      rw [g1] at f1; cases f1
      exact ⟨p0, ws, j, n, rfl, rfl, f2, by rw [f3.length]; exact hj, kk _ _ _ _ q2 (r2.setL e2 g1 f2 (f3.set (rv.mono s2) n)) s2 fun _ _ => rfl⟩
    · refine .inr ?_
      obtain ⟨p0, vs0, g1, g2, _⟩ := r.okd e0
      refine ⟨.ref p0, g1, Δ, B, _, r, hE _ _ _ q, ?_⟩
      rintro kd Δ2 kv H2 B2 ⟨ds, y, e2, ek, hz, q2⟩ r2 s2 rk
      obtain ⟨p1, ws, f1, f2, f3, f4⟩ := r2.okd e2
      rw [g1] at f1; cases f1
      have hl : ws.length = ds.length := by have := congrArg List.length f3; simpa using this
      obtain ⟨a1, a2⟩ := put_pair f3 f4 y (rv.mono s2)
      exact ⟨p0, _, rfl, .inl ⟨ws, y, f2, key_inv rk ek, by rw [hl]; exact hz, rfl⟩, kk _ _ _ _ q2 (r2.write e2 g1 (fun B H f h => by cases h; rfl) f2 True.intro (.ok _ _ _ upd_same a1 a2)) s2 fun _ _ => rfl⟩
/-! ### len(set(xs)) of ints -/
def rdLenSet : List D → (Sl → Prop) → Prop
  | [.lst xs], Q => ∃ ns : List Int, xs = ns.map D.int ∧ ns.length + 1 < scanBound ∧ ∀ c : Nat, (∀ l : List Int, l.Nodup → (∀ k, k ∈ l ↔ k ∈ ns) → l.length = c) → Q (.im (.int (c : Nat)))
  | _, _ => False
theorem pe_lenSetA {a : Expr} {ta : TE} {p p2 q pos : Pos} (hg : Gl X "len") (hm : X.mg "len" = none) (hg2 : Gl X "set") (hm2 : X.mg "set" = none) (ha : PE X a ta) (hc : X.calm = true)
    (na : starEach [a] X.env = (false, eval a X.env) :: starEach [] X.env := by rfl) : PE X (.Call (.Name "len" p) [.Call (.Name "set" p2) [a] [] q] [] pos)
      (fun σ H Q => ta σ H fun x H1 => ∃ (l : Addr) (ns : List Int), x = .ref l ∧ SqL X.K H1 l (ns.map V.int) ∧ ns.length + 1 < scanBound ∧ ∀ c : Nat, (∀ l : List Int, l.Nodup → (∀ k, k ∈ l ↔ k ∈ ns) → l.length = c) → Q (.int (c : Nat)) H1) := by
  refine ⟨fun pins s σ H Q I h => ?_⟩
  refine Call_ (ld_blt I hg hm boot_len ?_)
  refine PyProof.Rows.callWith_builtin1 (PyProof.Rows.args_cons ?_ rfl) rfl rfl
  refine Call_ (ld_blt I hg2 hm2 boot_set ?_)
  refine PyProof.Rows.callWith_type1 (PyProof.Rows.args_cons (thn (ha.run pins s σ H _ I h) fun v s1 ⟨x, H1, I1, r1, l, ns, ex, hq, hb, q1⟩ => PyProof.Rows.args_nil ?_) na) na rfl
  subst ex
  cases r1
  obtain ⟨its, rv, pl, hz⟩ := I1.list hq
  refine call_set_listI (P := X.prog) (w := X.w) ns (I1.ok.hd hc) pl.isList (ints_of_vals rv) hb fun h' tk c R hcn k => ?_
  refine PyProof.Rows.args_nil ?_
  obtain ⟨o, es, ep, t, ho, hx, hd, g, nd, hmem, hsz, hf, hn, _⟩ := R
  have I2 : Inv X pins σ H1 { s1 with heap := h', toks := tk } := I1.kept (t' := tk) k
  refine call_len_set ho hx hd hf (by rw [hn]; unfold scanBound at *; omega) ?_
  refine ⟨.int (c : Nat), H1, I2.tok _, ⟨_, by rw [hn]⟩, q1 c fun l hl he => ?_⟩
  have hperm : l.length = (es.toList.map keyOf).length := List.Perm.length_eq ((List.perm_ext_iff_of_nodup hl nd).mpr fun k => by rw [he k, ← hmem k]; simp)
  rw [hperm, List.length_map, Array.length_toList, hn]
end
end DL
-- DLdk3
set_option Elab.async false
set_option linter.all false
set_option maxRecDepth 100000
set_option maxHeartbeats 2000000
set_option autoImplicit false
namespace DL
open PySem PySem.Spec L2
open PyProof.Rows hiding St
section
variable {X : Cx} {G : Gx X.K} {pos : Pos}
/-! ### len, also of dicts with tuple keys -/
def rdLenT : List D → (Sl → Prop) → Prop
  | [.dt kvs], Q => Q (.im (.int kvs.length))
  | _, _ => False
@[simp] theorem sLenTt {kvs : List (List Key × D)} {Q : Sl → Prop} : rdLenT [.dt kvs] Q = Q (.im (.int kvs.length)) := rfl
theorem call_lenTR : CallR X (.builtin "len") (fun xs H Q => ∃ (a : Addr) (kvs : List (List Key × V)), xs = [.ref a] ∧ Rd H a (.dT kvs) ∧ Q (.int (kvs.length : Nat)) H) := by
  rintro pins s σ H xs us Q I r ⟨a, kvs, rfl, e, q⟩
  cases r with
  | cons rx rr =>
    cases rr
    cases rx
    obtain ⟨z, hd, ys, rel, dd⟩ := dt_rd I.hok e
    have hl : kvs.length = ys.length := Paired.length rel
    refine call_len_dictH hd dd (by rw [← hl]; rw [sizeLine_eq] at z; omega) ?_
    rw [← hl]
    exact ⟨.int (kvs.length : Nat), H, I.tok _, ⟨_, rfl⟩, q⟩
theorem rc_lenT {W : Wd X.K} : RcM W (fun xs H Q => ∃ (a : Addr) (kvs : List (List Key × V)), xs = [.ref a] ∧ Rd H a (.dT kvs) ∧ Q (.int (kvs.length : Nat)) H) rdLenT := by
  intro H0 B0 H B vs ds Qd Q g r h k
  unfold rdLenT at h
  split at h
  · obtain ⟨v, rfl, a⟩ := r.one
    obtain ⟨p, ws, rfl, e, q1, q2⟩ := a.dt g.sb
    have hl := congrArg List.length q1
    rw [List.length_map, List.length_map] at hl
    refine ⟨_, ws, rfl, e, ?_⟩
    rw [hl]; exact k _ _ _ _ h (.clean g (.int _))
  · exact h.elim
def rdLenX : List D → (Sl → Prop) → Prop := fun ds Q => rdLen ds Q ∨ rdLenT ds Q
theorem call_lenX : CallR X (.builtin "len") (orC (rLen2 X.K) (fun xs H Q => ∃ (a : Addr) (kvs : List (List Key × V)), xs = [.ref a] ∧ Rd H a (.dT kvs) ∧ Q (.int (kvs.length : Nat)) H)) := CallR.or call_len2 call_lenTR
/-! ### len(set(xs)) -/
def dLenSet (t : DTE) : DTE := fun Δ Q E => t Δ (fun d Δ1 => ∃ ns : List Int, d = .lst (ns.map D.int) ∧ ns.length + 1 < scanBound ∧ ∀ c : Nat, (∀ l : List Int, l.Nodup → (∀ k, k ∈ l ↔ k ∈ ns) → l.length = c) → Q (.int (c : Nat)) Δ1) E
@[simp] theorem sLenSet {t : DTE} {Δ : List Sl} {Q : D → List Sl → Prop} {E : EX} : dLenSet t Δ Q E = t Δ (fun d Δ1 => ∃ ns : List Int, d = .lst (ns.map D.int) ∧ ns.length + 1 < scanBound ∧ ∀ c : Nat, (∀ l : List Int, l.Nodup → (∀ k, k ∈ l ↔ k ∈ ns) → l.length = c) → Q (.int (c : Nat)) Δ1) E := rfl
theorem de_lenset {a : Expr} {t : DTE} {p p2 q : Pos} (hc : X.calm = true) (hm : X.mg "len" = none) (hm2 : X.mg "set" = none) (ha : PE X a (upE G t)) (hg : Gl X "len" := by rfl) (hg2 : Gl X "set" := by rfl)
    (na : starEach [a] X.env = (false, eval a X.env) :: starEach [] X.env := by rfl) : PE X (.Call (.Name "len" p) [.Call (.Name "set" p2) [a] [] q] [] pos) (upE G (dLenSet t)) :=
  PE.imp (pe_lenSetA hg hm hg2 hm2 ha hc na) fun σ H Q ⟨Δ, B, Qd, r, q, k⟩ => ⟨Δ, B, _, r, q, fun d Δ1 v H1 B1 ⟨ns, e, hb, q1⟩ r1 s1 rp => by
    subst e
    cases rp with
    | lst l vs _ e1 rs => exact ⟨l, ns, rfl, .of (by rw [r1.sub _ _ e1, rs.ints_inv]), hb, fun c hc' => k _ _ _ _ _ (q1 c hc') r1 s1 (.int _)⟩⟩
/-! ### d.get(k, e) -/
def dGet2 (to : DTO) (tk tx : DTE) : DTE := fun Δ Q E => to Δ (fun x Δ1 => (∃ kvs0, res Δ1 x = some (.dk kvs0)) ∧ tk Δ1 (fun kd Δ2 => tx Δ2 (fun z Δ3 => ∃ kvs y, res Δ3 x = some (.dk kvs) ∧ kd.key = some y ∧ Q ((val kvs y).getD z) Δ3) E) E) E
@[simp] theorem sGet2 {to : DTO} {tk tx : DTE} {Δ : List Sl} {Q : D → List Sl → Prop} {E : EX} : dGet2 to tk tx Δ Q E = to Δ (fun x Δ1 => (∃ kvs0, res Δ1 x = some (.dk kvs0)) ∧ tk Δ1 (fun kd Δ2 => tx Δ2 (fun z Δ3 => ∃ kvs y, res Δ3 x = some (.dk kvs) ∧ kd.key = some y ∧ Q ((val kvs y).getD z) Δ3) E) E) E := rfl
theorem de_get2 {o e f : Expr} {apos cpos : Pos} {to : DTO} {tk tx : DTE} (hu : X.A.units + 1 < cLine) (ho : PE X o (upO G to)) (he : PE X e (upE G tk)) (hf : PE X f (upE G tx)) (m : M2 X o "get" apos e f cpos := by exact ⟨rfl, rfl, rfl, rfl⟩) : PE X (.Call (.Attribute o "get" apos) [e, f] [] cpos) (upE G (dGet2 to tk tx)) :=
  PE.imp (pe_dget2 hu ho he hf m) fun σ H Q ⟨Δ, B, Qd, r, q, k⟩ => ⟨Δ, B, _, r, q, fun x Δ1 v H1 B1 ⟨⟨kvs0, e0⟩, q1⟩ r1 s1 p1 => by
    obtain ⟨a, ws, ev, e1, _, _⟩ := (p1.res r1 e0).dk r1.sub
    subst ev
    refine ⟨a, rfl, ?_, Δ1, B1, _, r1, q1, fun kd Δ2 kv H2 B2 q2 r2 s2 rk => ⟨Δ2, B2, _, r2, q2, fun z Δ3 zv H3 B3 ⟨kvs, y, e3, ek, q3⟩ r3 s3 rz => ?_⟩⟩
    · rcases e1 with e1 | ⟨o, e1⟩
      · exact .inl ⟨ws, .inl e1⟩
      · exact .inl ⟨ws, .inr ⟨o, e1⟩⟩
    · obtain ⟨a2, ws2, ev2, f1, f2, f3⟩ := ((p1.mono s2).mono s3 |>.res r3 e3).dk r3.sub
      cases ev2
      have hy := key_inv (rk.mono s3) ek
      refine ⟨valV ws2 y, .inl ⟨ws2, y, f1, hy, rfl⟩, ?_⟩
      cases e4 : val kvs y with
      | none =>
        have e5 : valV ws2 y = none := by
          have := find_isSome f2 f3 y
          rw [e4] at this
          cases h : valV ws2 y with
          | none => rfl
          | some w => rw [h] at this; cases this
        rw [e4] at q3
        rw [e5]
        exact k _ _ _ _ _ q3 r3 ((s1.trans s2).trans s3) rz
      | some d =>
        obtain ⟨w, e5, rw'⟩ := (find_pair f2 f3 y).1 d e4
        rw [e4] at q3
        rw [e5]
        exact k _ _ _ _ _ q3 r3 ((s1.trans s2).trans s3) rw'⟩
/-! ### dict([(k, v), ..]), max(ints) -/
def rdDictP : List D → (Sl → Prop) → Prop
  | [.lst xs], Q => ∃ kvs : List (Key × D), xs = kvs.map (fun p => .tup [keyD p.1, p.2]) ∧ Q (.ok (putAll [] kvs))
  | _, _ => False
@[simp] theorem sDictP {xs : List D} {Q : Sl → Prop} : rdDictP [.lst xs] Q = ∃ kvs : List (Key × D), xs = kvs.map (fun p => .tup [keyD p.1, p.2]) ∧ Q (.ok (putAll [] kvs)) := rfl
theorem keyD_inv {K : PySem.W.Frag} {W : Wd K} {B : Hp} {v : V} {y : Key} (h : Rp W B v (keyD y)) : v = kV y := by
  cases y with
  | inl i => cases h; rfl
  | inr x => cases h; rfl
theorem pairs_inv {K : PySem.W.Frag} {W : Wd K} {B H : Hp} (sb : Sub B H) : ∀ {kvs : List (Key × D)} {vs : List V}, Rps W B vs (kvs.map fun p => .tup [keyD p.1, p.2]) → ∃ (ps : List Addr) (kws : List (Key × V)), vs = ps.map V.ref ∧ Paired (fun p kv => SqT K H p [kV kv.1, kv.2]) ps kws ∧ kws.map (·.1) = kvs.map (·.1) ∧ Rps W B (kws.map (·.2)) (kvs.map (·.2))
  | [], _, h => by cases h; exact ⟨[], [], rfl, .nil, rfl, .nil⟩
  | (y, d) :: kvs, _, h => by
    cases h with
    | cons v _ vs _ a b =>
      obtain ⟨ps, kws, e1, e2, e3, e4⟩ := pairs_inv sb b
      cases a with
      | tup p ws _ hp rs =>
        cases rs with
        | cons k1 _ r1 _ c1 c2 =>
          cases c2 with
          | cons v2 _ r2 _ c3 c4 =>
            cases c4
            have := keyD_inv c1
            subst this
            exact ⟨p :: ps, (y, v2) :: kws, by simp [e1], .cons (.of (sb _ _ hp)) e2, by simp [e3], .cons _ _ _ _ c3 e4⟩
theorem rc_dictP {W : Wd X.K} : RcM W (fun xs H Q => ∃ (a : Addr) (ps : List Addr) (kvs : List (Key × V)), xs = [.ref a] ∧ SqL X.K H a (ps.map V.ref) ∧ Paired (fun p kv => SqT X.K H p [kV kv.1, kv.2]) ps kvs ∧ ∀ p, H p = none → Q (.ref p) (upd H p (.dK (mergeK [] kvs)))) rdDictP := by
  intro H0 B0 H B vs ds Qd Q g r h k
  unfold rdDictP at h
  split at h
  · obtain ⟨kvs, rfl, h⟩ := h
    obtain ⟨v, rfl, a⟩ := r.one
    obtain ⟨l, ws, rfl, e, rs⟩ := a.lst g.sb
    obtain ⟨ps, kws, e1, e2, e3, e4⟩ := pairs_inv g.sb rs
    refine ⟨l, ps, kws, rfl, .of (by rw [e, e1]), e2, fun p hp => ?_⟩
    obtain ⟨c1, c2⟩ := merge_pair kws kvs (acc := []) (ad := []) e3 e4 rfl (Rps.nil (W := W) (B := B))
    exact k _ _ _ _ h (.dk g hp c1 c2)
  · exact h.elim
def rdMaxL : List D → (Sl → Prop) → Prop
  | [.lst xs], Q => ∃ ns : List Int, xs = ns.map D.int ∧ 0 < ns.length ∧ ∀ m, m ∈ ns → (∀ y, y ∈ ns → y ≤ m) → Q (.im (.int m))
  | _, _ => False
@[simp] theorem sMaxL {xs : List D} {Q : Sl → Prop} : rdMaxL [.lst xs] Q = ∃ ns : List Int, xs = ns.map D.int ∧ 0 < ns.length ∧ ∀ m, m ∈ ns → (∀ y, y ∈ ns → y ≤ m) → Q (.im (.int m)) := rfl
theorem rc_maxL {W : Wd X.K} : RcM W (rMax X.K) rdMaxL := by
  intro H0 B0 H B vs ds Qd Q g r h k
  unfold rdMaxL at h
  split at h
  · obtain ⟨ns, rfl, h0, h⟩ := h
    obtain ⟨v, rfl, a⟩ := r.one
    obtain ⟨l, ws, rfl, e, rs⟩ := a.lst g.sb
    exact ⟨l, ns, rfl, .of (by rw [e, rs.ints_inv]), h0, fun m hm hy => k _ _ _ _ (h m hm hy) (.clean g (.int _))⟩
  · exact h.elim
end
end DL
-- DLdk4
set_option Elab.async false
set_option linter.all false
set_option maxRecDepth 100000
set_option maxHeartbeats 2000000
set_option autoImplicit false
namespace DL
open PySem PySem.Spec L2
open PyProof.Rows hiding St
/-! ### enumerate(list) -/
def enumD (ds : List D) : List D := ds.mapIdx fun (i : Nat) d => D.tup [.int i, d]
theorem enumD_length (ds : List D) : (enumD ds).length = ds.length := by simp [enumD]
theorem enumD_get (ds : List D) (i : Nat) : (enumD ds)[i]? = ds[i]?.map fun d => D.tup [.int i, d] := by simp [enumD]
theorem ItD.enum {K : PySem.W.Frag} {W : Wd K} {B : Hp} {a : Addr} {vs : List V} {ds : List D} (e : B a = some (.lst vs)) (q : Rps W B vs ds) : ItD W B (enumD ds) (Ite K a) where
  stop := fun g s hi => ⟨vs, .of (g.sb _ _ (s _ _ e)), by rw [q.length]; rw [enumD_length] at hi; exact hi⟩
  go := fun g s hi => by
    rw [enumD_length] at hi
    obtain ⟨v, hv, _⟩ := q.get (List.getElem?_eq_getElem hi)
    exact ⟨vs, v, .of (g.sb _ _ (s _ _ e)), hv⟩
  yld := fun {i _ _ _ _ _ _} g s hi ⟨T, x, h1, h2, h3, h4⟩ => by
    subst h1
    subst h3
    obtain ⟨d, hd, rp⟩ := q.get' (h4 vs (.of (g.sb _ _ (s _ _ e))))
    have g2 := g.alloc (o := .tup [.int (i : Nat), x]) h2 (fun ps z => by cases z)
    exact ⟨_, _, by rw [enumD_get, hd]; rfl, g2, .tup _ _ _ upd_same (.cons _ _ _ _ (.int _) (.cons _ _ _ _ ((rp.mono s).mono g2.bas) .nil))⟩
def dEnum (t : DTA) : DTI := fun Δ Q E => t Δ (fun ds Δ1 => ∃ xs, ds = [.lst xs] ∧ Q (enumD xs) Δ1) E
@[simp] theorem sEnum {t : DTA} {Δ : List Sl} {Q : List D → List Sl → Prop} {E : EX} : dEnum t Δ Q E = t Δ (fun ds Δ1 => ∃ xs, ds = [.lst xs] ∧ Q (enumD xs) Δ1) E := rfl
section
variable {X : Cx} {G : Gx X.K} {pos : Pos}
theorem di_enum {e : Expr} {t : DTA} {p tpos : Pos} {elts : List Expr} {kk : Nat} (hm : X.mg "enumerate" = none) (ha : PA X [e] (upA G t)) (hg : Gl X "enumerate" := by rfl) (hs : starEach [e] X.env = [(false, eval e X.env)] := by rfl) :
    PI X (.Tuple elts kk tpos) (.Call (.Name "enumerate" p) [e] [] pos) (upI G (dEnum t)) :=
  PI.imp (pi_enum hg hm ha hs) fun σ H R ⟨Δ, B, Qd, r, q, k⟩ => ⟨Δ, B, _, r, q, fun ds Δ1 vs H1 B1 ⟨xs, e, q1⟩ r1 s1 rps => by
    subst e
    obtain ⟨v, rfl, rv⟩ : ∃ v, vs = [v] ∧ Rp G.W B1 v (.lst xs) := by
      cases rps with | cons v _ _ _ a b => cases b; exact ⟨v, rfl, a⟩
    cases rv with
    | lst a ws _ e1 rs => exact ⟨a, ws, rfl, .of (r1.sub _ _ e1), k _ _ _ _ _ q1 r1 s1 (.enum e1 rs)⟩⟩
/-! ### a name's own thing is locked ahead of what holds it by a cell -/
def dFrz (i : Nat) (t : DTE) : DTE := fun Δ Q E => ∃ s d, Δ[i]? = some s ∧ s.er = some d ∧ t (Δ.set i (.im d)) Q E
@[simp] theorem sFrz {i : Nat} {t : DTE} {Δ : List Sl} {Q : D → List Sl → Prop} {E : EX} : dFrz i t Δ Q E = ∃ s d, Δ[i]? = some s ∧ s.er = some d ∧ t (Δ.set i (.im d)) Q E := rfl
theorem de_frz (i : Nat) {e : Expr} {t : DTE} (h : PE X e (upE G t)) : PE X e (upE G (dFrz i t)) :=
  ⟨fun pins s σ H Q I ⟨Δ, B, Qd, r, ⟨sl, d, e1, e2, q⟩, k⟩ => by
    obtain ⟨v, e, h2⟩ := r.freeze e1 e2
    rcases h2 with ⟨B', sb, rp, r'⟩ | ⟨p, u, hp, mu, h2⟩
    · exact h.run pins s σ H Q I ⟨_, B', Qd, r', q, fun d Δ' v H' B'' q' r'' s'' rp' => k d Δ' v H' B'' q' r'' (sb.trans s'') rp'⟩
    · obtain ⟨od, I2⟩ := I.lock hp mu
      obtain ⟨B', sb, rp, r'⟩ := h2 od
      exact h.run pins s σ _ Q I2 ⟨_, B', Qd, r', q, fun d Δ' v H' B'' q' r'' s'' rp' => k d Δ' v H' B'' q' r'' (sb.trans s'') rp'⟩⟩
/-! ### a comprehension whose element calls what was handed in -/
theorem dm_lcB {elt tg iter : Expr} {ifs : List Expr} {scope : Scope} {own : List (Str × Nat)} {S : List Nat} {ti : DTI} {g : DTG} {tt : DTT} {te : DTE} (hc : X.calm = true) (hN : X.N.Nodup) (hi : PI X tg iter (upI G ti)) (ok : BlkOk X.N X.env.scope scope own)
    (hg : ∀ (s : Shared) (H : Hp) (C : Addr) (cl : List (Str × Addr)) (fp : List Addr) (H0 : Hp), PG (X.blk s H scope (compEnvC scope cl C X.env) fp) tg (upG (nox G.W H0 G.B0) S g))
    (ht : ∀ (s : Shared) (H : Hp) (C : Addr) (cl : List (Str × Addr)) (fp : List Addr) (H0 : Hp), PTs (X.blk s H scope (compEnvC scope cl C X.env) fp) ifs (upT (nox G.W H0 G.B0) tt))
    (he : ∀ (s : Shared) (H : Hp) (C : Addr) (cl : List (Str × Addr)) (fp : List Addr) (H0 : Hp), PE (X.blk s H scope (compEnvC scope cl C X.env) fp) elt (upE (nox G.W H0 G.B0) te))
    (hS : ∀ i ∈ S, i ∈ own.map (·.2) := by decide) (hs : ∀ x, foldedSetIterable iter X.env x = pure x := by intro _; rfl) : PE X (.ListComp elt [⟨tg, iter, ifs, 0⟩] scope pos) (upM G (dLC (own.map (·.2)) ti g tt te)) :=
  PE.imp (pe_lc (g := fun v σ H Q => ∃ H0, upG (nox G.W H0 G.B0) S g v σ H Q) (tt := fun σ H Q => ∃ H0, upT (nox G.W H0 G.B0) tt σ H Q) (te := fun σ H Q => ∃ H0, upE (nox G.W H0 G.B0) te σ H Q) hc hN hi ok
    (fun s H C cl fp => ⟨fun p s' σ H' v u Q I r ⟨H0, q⟩ => (hg s H C cl fp H0).run p s' σ H' v u Q I r q⟩)
    (fun s H C cl fp => ⟨fun p s' σ H' Q I ⟨H0, q⟩ => (ht s H C cl fp H0).run p s' σ H' Q I q⟩)
    (fun s H C cl fp => ⟨fun p s' σ H' Q I ⟨H0, q⟩ => (he s H C cl fp H0).run p s' σ H' Q I q⟩) hs)
    fun σ H Q h => lc_upB hS h (fun H0 _ _ _ _ q => ⟨H0, q⟩) (fun H0 _ _ _ q => ⟨H0, q⟩) (fun H0 _ _ _ q => ⟨H0, q⟩)
end
/-! ### a def of the module that makes lambdas, or calls such a def: its world's tables are known -/
structure CalT (P : Program) (w : World) (K : PySem.W.Frag) (mg : Str → Option Value) (base : Heap) (T : List (Addr × Str)) (k : Nat) (x : Str) (ps : List Str) (sp : SpD) : Prop where
  ex : ∃ f fd, mg x = some (.ref f) ∧ PySem.W.keepIn K (.ref f) = true ∧ Binds K fd ps [] ∧ ∀ W : Wd K, W.T = T → FnOk P w K mg base (L2.CX P w) k f fd ps (upSp W sp)
theorem CalT.mono {P : Program} {w : World} {K : PySem.W.Frag} {mg : Str → Option Value} {base : Heap} {T : List (Addr × Str)} {j k : Nat} {x : Str} {ps : List Str} {sp : SpD} (c : CalT P w K mg base T j x ps sp) (h : j ≤ k) : CalT P w K mg base T k x ps sp := by
  obtain ⟨f, fd, h1, h2, h3, h4⟩ := c.ex
  exact ⟨f, fd, h1, h2, h3, fun W e => (h4 W e).mono h⟩
section
variable {X : Cx} {G : Gx X.K} {pos : Pos}
theorem de_calT {k : Nat} {T : List (Addr × Str)} {ps : List Str} {sp : SpD} {x : Str} {p : Pos} {e : Expr} {es : List Expr} {ta : DTA} (hT : G.W.T = T) (c : CalT X.prog X.w X.K X.mg X.base T k x ps sp) (hr : Room k X.A) (hx : Passes (L2.CX X.prog X.w) X G.E) (ha : PA X (e :: es) (upA G ta)) (hg : Gl X x := by rfl) (hdb : (x == ("__debug__" : Str)) = false := by decide)
    (he : starEach (e :: es) X.env = (false, eval e X.env) :: starEach es X.env := by rfl) (hpl : (backTo pos (starEach es X.env)).any (·.1) = false := by rfl) : PE X (.Call (.Name x p) (e :: es) [] pos) (upE G (DL.dFn sp ta)) := by
  obtain ⟨f, fd, h1, h2, h3, h4⟩ := c.ex
  exact de_fn (h4 G.W hT) hr h1 h2 h3 hx ha hg hdb he hpl
end
/-! ### a if c else b, as a test -/
def dIfT (tc ta tb : DTT) : DTT := fun Δ Q E => tc Δ (fun c Δ1 => if c = true then ta Δ1 Q E else tb Δ1 Q E) E
@[simp] theorem sIfT {tc ta tb : DTT} {Δ : List Sl} {Q : Bool → List Sl → Prop} {E : EX} : dIfT tc ta tb Δ Q E = tc Δ (fun c Δ1 => if c = true then ta Δ1 Q E else tb Δ1 Q E) E := rfl
@[simp] theorem sItK {kvs : List (Key × D)} : itemsD (.dk kvs) = some (kvs.map fun p => keyD p.1) := rfl
section
variable {X : Cx} {G : Gx X.K} {pos : Pos} {a b c : Expr}
theorem dt_if {tc ta tb : DTT} (hc : PT X c (upT G tc)) (ha : PT X a (upT G ta)) (hb : PT X b (upT G tb)) : PT X (.IfExp c a b pos) (upT G (dIfT tc ta tb)) :=
  ⟨fun pins s σ H Q I ⟨Δ, B, Qd, r1, q, k⟩ => isTrue_IfExp (wpAny_mono (hc.run pins s σ H (fun b H1 => ∃ Δ1 B1, DR G Δ1 σ H1 B1 ∧ Sub B B1 ∧ if b = true then ta Δ1 Qd G.Ed else tb Δ1 Qd G.Ed) I ⟨Δ, B, _, r1, q, fun bb Δ1 H1 B1 q1 r1 s1 => ⟨Δ1, B1, r1, s1, q1⟩⟩)
    (fun b s1 ⟨H1, I1, Δ1, B1, r1, s1', q1⟩ => by
      cases b with
      | true => exact ha.run pins s1 σ H1 Q I1 ⟨Δ1, B1, Qd, r1, q1, fun b2 Δ2 H2 B2 q2 r2 s2 => k b2 Δ2 H2 B2 q2 r2 (s1'.trans s2)⟩
      | false => exact hb.run pins s1 σ H1 Q I1 ⟨Δ1, B1, Qd, r1, q1, fun b2 Δ2 H2 B2 q2 r2 s2 => k b2 Δ2 H2 B2 q2 r2 (s1'.trans s2)⟩) fun _ _ x => x)⟩
end
/-! ### x, y = a, b through a tuple; what is ours stays ours -/
def dUnp2 (i j : Nat) (t : DTMA) : DTS := dPar2 i j t
@[simp] theorem sUnp2 {i j : Nat} {tr : DTMA} {N : DEnds} {Δ : List Sl} {E : EX} : dUnp2 i j tr N Δ E = tr Δ (fun ss Δ1 => ∃ s1 s2, ss = [s1, s2] ∧ i < Δ1.length ∧ j < Δ1.length ∧ N.nx ((Δ1.set i s1).set j s2)) E := rfl
section
variable {X : Cx} {G : Gx X.K} {pos : Pos} {a b : Expr}
theorem ds_unp2 {i j : Nat} {x y : Str} {t : DTMA} {px py pt : Pos} {kt k2 pt2} (hc : X.calm = true) (hN : X.N.Nodup) (ha : PA X [a, b] (upMA G t)) (hi : X.N[i]? = some x := by rfl) (hj : X.N[j]? = some y := by rfl) (hij : i ≠ j := by decide)
    (hx : Loc X.env.scope x := by first | exact Or.inl rfl | exact Or.inr rfl) (hfx : X.fn x = true ∨ X.env.scope.names.lookup x = some .local := by first | exact .inl rfl | exact .inr rfl | assumption)
    (hy : Loc X.env.scope y := by first | exact Or.inl rfl | exact Or.inr rfl) (hfy : X.fn y = true ∨ X.env.scope.names.lookup y = some .local := by first | exact .inl rfl | exact .inr rfl | assumption)
    (hs : swapsWithSole [.Tuple [.Name x px, .Name y py] kt pt] (.Tuple [a, b] k2 pt2) pos.line X.env = pure false := by rfl) (hw : swappedStores [.Tuple [.Name x px, .Name y py] kt pt] (.Tuple [a, b] k2 pt2) X.env = pure none := by rfl)
    (h1 : (assignEach [.Tuple [.Name x px, .Name y py] kt pt] X.env).map (·.2) = [assign (.Tuple [.Name x px, .Name y py] kt pt) X.env] := by rfl)
    (hn : (assignEach [.Name x px, .Name y py] X.env).length = 2 := by rfl) (hst : (assignEach [.Name x px, .Name y py] X.env).findIdx? (·.1) = none := by rfl)
    (e1 : (assignEach [.Name x px, .Name y py] X.env).map (·.2) = assign (.Name x px) X.env :: (assignEach [.Name y py] X.env).map (·.2) := by rfl) (e2 : (assignEach [.Name y py] X.env).map (·.2) = assign (.Name y py) X.env :: (assignEach [] X.env).map (·.2) := by rfl) :
    PS X (.Assign [.Tuple [.Name x px, .Name y py] kt pt] (.Tuple [a, b] k2 pt2) pos) (upS G (dUnp2 i j t)) :=
  PS.imp (ps_asg (pe_tup ha) (pg_tup hc (pgs_cons (pg_name hN hi hx hfx) (pgs_cons (pg_name hN hj hy hfy) pgs_nil e2) e1) hn hst) hs hw h1) fun N σ H ⟨Δ, B, M, r, q, k, _⟩ => ⟨Δ, B, _, r, q, fun ss Δ1 vs H1 B1 ⟨s1, s2, e, hi1, hj1, q1⟩ r1 hl s => by
    subst e
    match vs, hl with
    | [v1, v2], _ =>
      have z2 : 2 ≤ sizeLine := by rw [sizeLine_eq]; omega
      refine ⟨z2, fun T hT => ?_⟩
      have g1 := r1.gr.alloc (o := .tup [v1, v2]) hT (fun _ z => by cases z)
      have hl1 : Δ1.length = σ.length := by obtain ⟨fp, S⟩ := r1.sl; have := S.len; simpa using this
      have r2 : DR G ((Δ1 ++ [s2]) ++ [s1]) ((σ ++ [some v2]) ++ [some v1]) (upd H1 T (.tup [v1, v2])) (upd B1 T (.tup [v1, v2])) := by simpa using r1.grow g1
      have r3 := r2.move (i := i) (by simp; omega)
      rw [set_app hi1, set_app (by omega)] at r3
      refine ⟨T, [v1, v2], rfl, .of upd_same, rfl, v1, [v2], rfl, v2, [], rfl, rfl, k _ _ _ _ q1 (r3.move (i := j) (by simpa using hj1)) (s.trans g1.bas)⟩⟩
end
end DL
-- P73a
set_option Elab.async false
set_option linter.all false
set_option maxRecDepth 100000
set_option maxHeartbeats 2000000
set_option autoImplicit false
namespace DL
open PySem PySem.Spec L2
open PyProof.Rows hiding St
/-! ### machines, plain: a step function, inks up to c, good rooms -/
def run (f : Nat → Nat → Nat) (r : Nat) (w : List Nat) : Nat := w.foldl f r
def Inks (c : Nat) (w : List Nat) : Prop := ∀ i ∈ w, i ≤ c
theorem Inks.nil {c : Nat} : Inks c [] := fun i h => by cases h
theorem Inks.cons {c i : Nat} {w : List Nat} (h : i ≤ c) (t : Inks c w) : Inks c (i :: w) := fun j hj => by
  rcases List.mem_cons.mp hj with rfl | hj
  · exact h
  · exact t j hj
theorem Inks.append {c : Nat} {v w : List Nat} (h : Inks c v) (t : Inks c w) : Inks c (v ++ w) := fun j hj => (List.mem_append.mp hj).elim (h j) (t j)
theorem Inks.head {c i : Nat} {w : List Nat} (h : Inks c (i :: w)) : i ≤ c := h i List.mem_cons_self
theorem Inks.tail {c i : Nat} {w : List Nat} (h : Inks c (i :: w)) : Inks c w := fun j hj => h j (List.mem_cons_of_mem _ hj)
theorem Inks.left {c : Nat} {v w : List Nat} (h : Inks c (v ++ w)) : Inks c v := fun j hj => h j (List.mem_append_left _ hj)
theorem Inks.right {c : Nat} {v w : List Nat} (h : Inks c (v ++ w)) : Inks c w := fun j hj => h j (List.mem_append_right _ hj)
@[simp] theorem run_nil {f : Nat → Nat → Nat} {r : Nat} : run f r [] = r := rfl
@[simp] theorem run_cons {f : Nat → Nat → Nat} {r i : Nat} {w : List Nat} : run f r (i :: w) = run f (f r i) w := rfl
theorem run_append {f : Nat → Nat → Nat} {r : Nat} {v w : List Nat} : run f r (v ++ w) = run f (run f r v) w := by unfold run; rw [List.foldl_append]
/-- b is come to from a -/
def Rc (f : Nat → Nat → Nat) (c a b : Nat) : Prop := ∃ w, Inks c w ∧ run f a w = b
/-- by a cell or more -/
def Pt (f : Nat → Nat → Nat) (c a b : Nat) : Prop := ∃ i, i ≤ c ∧ Rc f c (f a i) b
section
variable {f : Nat → Nat → Nat} {c : Nat} {g : Nat → Bool} {a b d : Nat}
theorem Rc.refl : Rc f c a a := ⟨[], .nil, rfl⟩
theorem Rc.trans (h : Rc f c a b) (k : Rc f c b d) : Rc f c a d := by
  obtain ⟨v, h1, h2⟩ := h
  obtain ⟨w, h3, h4⟩ := k
  exact ⟨v ++ w, h1.append h3, by rw [run_append, h2, h4]⟩
theorem Rc.one {i : Nat} (h : i ≤ c) : Rc f c a (f a i) := ⟨[i], .cons h .nil, rfl⟩
theorem Rc.step {i : Nat} (h : i ≤ c) (k : Rc f c (f a i) b) : Rc f c a b := (Rc.one h).trans k
theorem Rc.snoc {i : Nat} (h : i ≤ c) (k : Rc f c a b) : Rc f c a (f b i) := k.trans (Rc.one h)
theorem Pt.rc (h : Pt f c a b) : Rc f c a b := by obtain ⟨i, h1, h2⟩ := h; exact .step h1 h2
theorem Pt.right (h : Pt f c a b) (k : Rc f c b d) : Pt f c a d := by obtain ⟨i, h1, h2⟩ := h; exact ⟨i, h1, h2.trans k⟩
theorem Pt.left (h : Rc f c a b) (k : Pt f c b d) : Pt f c a d := by
  obtain ⟨w, h1, h2⟩ := h
  cases w with
  | nil => subst h2; exact k
  | cons i w => exact ⟨i, h1.head, .trans ⟨w, h1.tail, h2⟩ k.rc⟩
theorem Rc.cases (h : Rc f c a b) : a = b ∨ Pt f c a b := by
  obtain ⟨w, h1, h2⟩ := h
  cases w with
  | nil => exact .inl h2
  | cons i w => exact .inr ⟨i, h1.head, w, h1.tail, h2⟩
theorem Pt.one {i : Nat} (h : i ≤ c) : Pt f c a (f a i) := ⟨i, h, .refl⟩
end
/-- come to, and something good is come to from it -/
def Lv (f : Nat → Nat → Nat) (c : Nat) (g : Nat → Bool) (r : Nat) : Prop := Rc f c 0 r ∧ ∃ q, Rc f c r q ∧ g q = true
/-- a line of that size is let by -/
def Acc (f : Nat → Nat → Nat) (c : Nat) (g : Nat → Bool) (k : Nat) : Prop := ∃ w, Inks c w ∧ w.length = k ∧ g (run f 0 w) = true
/-- two inks lead back -/
def Dbl (f : Nat → Nat → Nat) (c r : Nat) : Prop := ∃ i j, i < j ∧ j ≤ c ∧ Rc f c (f r i) r ∧ Rc f c (f r j) r
/-- rings one behind another -/
def ChL (f : Nat → Nat → Nat) (c : Nat) (g : Nat → Bool) : List Nat → Prop
  | [] => True
  | [x] => Lv f c g x ∧ Pt f c x x
  | x :: y :: r => Lv f c g x ∧ Pt f c x x ∧ Rc f c x y ∧ ¬ Rc f c y x ∧ ChL f c g (y :: r)
def ChF (f : Nat → Nat → Nat) (c : Nat) (g : Nat → Bool) (r k : Nat) : Prop := ∃ cs, cs.length = k ∧ ChL f c g cs ∧ ∀ x, cs.head? = some x → Rc f c r x
inductive Gr | non | dbl | ends (m : Nat) | pow (d : Nat)
def Gr.val : Gr → Nat
  | .ends m => m
  | .pow d => d
  | _ => 0
def GrowP (f : Nat → Nat → Nat) (c : Nat) (g : Nat → Bool) : Gr → Prop
  | .non => ¬ Lv f c g 0
  | .dbl => Lv f c g 0 ∧ ∃ r, Lv f c g r ∧ Dbl f c r
  | .ends m => Lv f c g 0 ∧ (∀ r, Lv f c g r → ¬ Pt f c r r) ∧ Acc f c g m ∧ ∀ k, Acc f c g k → k ≤ m
  | .pow d => Lv f c g 0 ∧ (∀ r, Lv f c g r → ¬ Dbl f c r) ∧ ChF f c g 0 (d + 1) ∧ ¬ ChF f c g 0 (d + 2)
/-- the same lines, by fewer rooms -/
def Hom (c : Nat) (f : Nat → Nat → Nat) (g : Nat → Bool) (f' : Nat → Nat → Nat) (g' : Nat → Bool) : Prop := ∃ h : Nat → Nat, h 0 = 0 ∧ ∀ r, Rc f c 0 r → g' (h r) = g r ∧ ∀ i, i ≤ c → h (f r i) = f' (h r) i
/-- no room too many -/
def Trim (c n : Nat) (f : Nat → Nat → Nat) (g : Nat → Bool) : Prop := (∀ r, r < n → Rc f c 0 r) ∧ ∀ r s, r < n → s < n → r ≠ s → ∃ w, Inks c w ∧ g (run f r w) ≠ g (run f s w)
end DL
-- K73s
set_option Elab.async false
set_option linter.all false
set_option maxRecDepth 100000
set_option maxHeartbeats 2000000
set_option autoImplicit false
namespace DL
open PySem PySem.Spec L2
open PyProof.Rows hiding St
def top (i : Nat) : Stmt := PySem.Challenge.pw_inkforall_k73_whole_growth_of_lines.main.body.getD i (.Pass ⟨0, 0, 0, 0⟩)
/-- where the classes stand -/
structure Ad where
  NoMachine : Addr
  TooMany : Addr
  Machine : Addr
/-- an error class of the program's own, as the top has left it -/
structure ExOk (K : PySem.W.Frag) (mg : Str → Option Value) (x : Str) (C : Addr) : Prop where
  ex : PySem.W.excIn K C [.type "ValueError", .type "Exception", .type "BaseException", .type "object"] "ValueError.__new__" = true
  g : mg x = some (.ref C)
  k : PySem.W.keepIn K (.ref C) = true
  b : PySem.W.subIn K (.ref C) (.type "BaseException") = some true
  t : PySem.W.typeIn K (.ref C) = some (.type "type")
/-- what the top has left, as the bodies want it -/
structure Txt (K : PySem.W.Frag) (mg : Str → Option Value) (a : Ad) : Prop where
  z_isinstance : mg "isinstance" = none
  z_int : mg "int" = none
  z_bool : mg "bool" = none
  z_tuple : mg "tuple" = none
  z_dict : mg "dict" = none
  z_len : mg "len" = none
  z_all : mg "all" = none
  z_any : mg "any" = none
  z_range : mg "range" = none
  z_sorted : mg "sorted" = none
  z_set : mg "set" = none
  z_abs : mg "abs" = none
  z_min : mg "min" = none
  z_max : mg "max" = none
  z_sum : mg "sum" = none
  z_repr : mg "repr" = none
  z_enumerate : mg "enumerate" = none
  g_MOST_ROOMS : ∃ u, mg "MOST_ROOMS" = some u ∧ RelV (.int 60) u
  g_MOST_PAINTS : ∃ u, mg "MOST_PAINTS" = some u ∧ RelV (.int 4) u
  g_Machine : mg "Machine" = some (.ref a.Machine)
  f_Machine_colours : ∀ C, C = a.Machine → Cls K C ∧ NoAttr K C "colours"
  f_Machine_table : ∀ C, C = a.Machine → Cls K C ∧ NoAttr K C "table"
  f_Machine_good : ∀ C, C = a.Machine → Cls K C ∧ NoAttr K C "good"
  e_NoMachine : ExOk K mg "NoMachine" a.NoMachine
  e_TooMany : ExOk K mg "TooMany" a.TooMany
def isBt (d : D) (l m : Int) : Bool := match d with
  | .int i => decide (l ≤ i) && decide (i ≤ m)
  | _ => false
def sp_is_between (a : Ad) : SpD := fun ds Q _ => match ds with
  | [d, .int l, .int m] => ∃ n, tyN d = some n ∧ Q (.bl (isBt d l m))
  | _ => False
@[simp] theorem isBt_int {i l m : Int} : isBt (.int i) l m = (decide (l ≤ i) && decide (i ≤ m)) := rfl
def intD (n : Nat) : D := .int (n : Int)
def rowD (r : List Nat) : D := .tup (r.map intD)
def tblD (T : List (List Nat)) : D := .tup (T.map rowD)
def blsD (g : List Bool) : List D := g.map D.bl
/-- tables of a machine -/
structure OkT (T : List (List Nat)) (c : Nat) : Prop where
  l1 : 1 ≤ T.length
  l2 : T.length ≤ 60
  row : ∀ r ∈ T, r.length = c + 1 ∧ ∀ n ∈ r, n < T.length
def sp_is_table (a : Ad) : SpD := fun ds Q _ => ∃ T c, ds = [tblD T, .int (c : Nat)] ∧ OkT T c ∧ c ≤ 4 ∧ Q (.bl true)
def sp_are_truths (a : Ad) : SpD := fun ds Q _ => ∃ g n, ds = [.tup (blsD g), .int (n : Nat)] ∧ g.length = n ∧ n ≤ 60 ∧ Q (.bl true)
def mchF (c : Nat) (T : List (List Nat)) (g : List Bool) : List (Str × D) := [("colours", .int c), ("table", tblD T), ("good", .tup (blsD g))]
def mchD (a : Ad) (c : Nat) (T : List (List Nat)) (g : List Bool) : D := .obj a.Machine (mchF c T g)
structure OkM (c : Nat) (T : List (List Nat)) (g : List Bool) : Prop where
  c1 : 1 ≤ c
  c2 : c ≤ 4
  t : OkT T c
  g : g.length = T.length
def sp_Machine___init__ (a : Ad) : SpI := fun ds Q _ => ∃ c T g, ds = [.int (c : Nat), tblD T, .tup (blsD g)] ∧ OkM c T g ∧ Q (mchF c T g)
/-! ### dicts of rooms -/
abbrev ky (n : Nat) : Key := Sum.inl (n : Int)
def dkN (f : Nat → D) (L : List Nat) : List (Key × D) := L.map fun r => (ky r, f r)
def setD (L : List Nat) : D := .dk (dkN (fun _ => .bl true) L)
def rowAt (T : List (List Nat)) (r : Nat) : List Nat := T.getD r []
def nx (T : List (List Nat)) (r i : Nat) : Nat := (rowAt T r).getD i 0
def gdb (g : List Bool) (r : Nat) : Bool := g.getD r false
abbrev LvM (c : Nat) (T : List (List Nat)) (g : List Bool) (r : Nat) : Prop := Lv (nx T) c (gdb g) r
abbrev PtM (c : Nat) (T : List (List Nat)) (r s : Nat) : Prop := Pt (nx T) c r s
def sp_live_rooms (a : Ad) : SpD := fun ds Q _ => ∃ c T g, ds = [mchD a c T g] ∧ OkM c T g ∧ ∀ L : List Nat, L.Nodup → (∀ r, r ∈ L ↔ LvM c T g r) → Q (setD L)
def sp_goals_from (a : Ad) : SpD := fun ds Q _ => ∃ c T g L r, ds = [mchD a c T g, setD L, intD r] ∧ OkM c T g ∧ (∀ r, r ∈ L ↔ LvM c T g r) ∧ r ∈ L ∧ ∀ W : List Nat, W.Nodup → (∀ s, s ∈ W ↔ s ∈ L ∧ PtM c T r s) → Q (setD W)
def waysD (L : List Nat) (Ws : Nat → List Nat) : D := .dk (dkN (fun r => setD (Ws r)) L)
structure Ways (c : Nat) (T : List (List Nat)) (g : List Bool) (L : List Nat) (Ws : Nat → List Nat) : Prop where
  ok : OkM c T g
  lv : ∀ r, r ∈ L ↔ LvM c T g r
  nd : L.Nodup
  ws : ∀ r ∈ L, ∀ s, s ∈ Ws r ↔ s ∈ L ∧ PtM c T r s
def backs (T : List (List Nat)) (L : List Nat) (Ws : Nat → List Nat) (r : Nat) : List Nat := (rowAt T r).filter fun x => decide (x ∈ L) && decide (r ∈ Ws x)
def sp_back_goals (a : Ad) : SpD := fun ds Q _ => ∃ c T g L Ws r, ds = [mchD a c T g, waysD L Ws, intD r] ∧ Ways c T g L Ws ∧ r ∈ L ∧ Q (.lst ((backs T L Ws r).map intD))
def sp_rings_from (a : Ad) : SpD := fun ds Q _ => ∃ c T g L Ws, ds = [mchD a c T g, waysD L Ws] ∧ Ways c T g L Ws ∧ ∀ F : Nat → Nat, (∀ r ∈ L, ChF (nx T) c (gdb g) r (F r) ∧ ¬ ChF (nx T) c (gdb g) r (F r + 1)) → Q (.dk (dkN (fun r => intD (F r)) L))
def sp_longest (a : Ad) : SpD := fun ds Q _ => ∃ c T g L, ds = [mchD a c T g, setD L] ∧ OkM c T g ∧ (∀ r, r ∈ L ↔ LvM c T g r) ∧ 0 ∈ L ∧ (∀ r, LvM c T g r → ¬ PtM c T r r) ∧ ∀ m, Acc (nx T) c (gdb g) m → (∀ k, Acc (nx T) c (gdb g) k → k ≤ m) → m ≤ 60 → Q (intD m)
def grD : Gr → D
  | .non => .tup [.str "none"]
  | .dbl => .tup [.str "doubles"]
  | .ends m => .tup [.str "ends", intD m]
  | .pow d => .tup [.str "power", intD d]
abbrev GrowM (c : Nat) (T : List (List Nat)) (g : List Bool) (v : Gr) : Prop := GrowP (nx T) c (gdb g) v
def sp_growth (a : Ad) : SpD := fun ds Q _ => ∃ c T g, ds = [mchD a c T g] ∧ OkM c T g ∧ ∀ v, GrowM c T g v → v.val ≤ 60 → Q (grD v)
/-! ### the least machine -/
def sp_explored (a : Ad) : SpF := fun beh ds Q _ => ∃ (c first : Nat) (f : Nat → Nat → Nat) (gd : Nat → Bool) (k1 k2 : Clo) (S : List Nat), ds = [intD c, intD first, .fn k1, .fn k2] ∧ c ≤ 4 ∧ S.length ≤ 4000 ∧ first ∈ S ∧ (∀ s ∈ S, ∀ i, i ≤ c → f s i ∈ S) ∧
  (∀ s ∈ S, ∀ i, i ≤ c → ∀ Q E, Q (intD (f s i)) → beh k1 [intD s, intD i] Q E) ∧ (∀ s ∈ S, ∀ Q E, Q (.bl (gd s)) → beh k2 [intD s] Q E) ∧
  ∀ ss : List Nat, ss.Nodup → ss.length ≤ S.length → ss.head? = some first → (∀ s ∈ ss, s ∈ S ∧ Rc f c first s ∧ ∀ i, i ≤ c → f s i ∈ ss) → Q (.tup [.lst (ss.map fun s => .lst ((List.range (c + 1)).map fun i => intD (ss.idxOf (f s i)))), .lst (ss.map fun s => .bl (gd s))])
/-- rows that lead into themselves -/
structure OkW (R : List (List Nat)) (c : Nat) : Prop where
  l1 : 1 ≤ R.length
  l2 : R.length ≤ 4000
  row : ∀ r ∈ R, r.length = c + 1 ∧ ∀ n ∈ r, n < R.length
def rowsD (R : List (List Nat)) : D := .lst (R.map fun r => .lst (r.map intD))
/-- numbers that tell just what cannot be told apart -/
structure Kinds (c : Nat) (R : List (List Nat)) (g : List Bool) (ks : List Nat) : Prop where
  len : ks.length = R.length
  good : ∀ i j, i < R.length → j < R.length → ks.getD i 0 = ks.getD j 0 → gdb g i = gdb g j
  next : ∀ i j, i < R.length → j < R.length → ks.getD i 0 = ks.getD j 0 → ∀ k, k ≤ c → ks.getD (nx R i k) 0 = ks.getD (nx R j k) 0
  apart : ∀ i j, i < R.length → j < R.length → ks.getD i 0 ≠ ks.getD j 0 → ∃ w, Inks c w ∧ gdb g (run (nx R) i w) ≠ gdb g (run (nx R) j w)
def sp_kinds_of (a : Ad) : SpD := fun ds Q _ => ∃ c R g, ds = [rowsD R, .lst (blsD g)] ∧ OkW R c ∧ c ≤ 4 ∧ g.length = R.length ∧ ∀ ks : List Nat, Kinds c R g ks → Q (.lst (ks.map intD))
def sp_shrunk (a : Ad) : SpD := fun ds Q E => ∃ c R g, ds = [intD c, rowsD R, .lst (blsD g)] ∧ OkW R c ∧ 1 ≤ c ∧ c ≤ 4 ∧ g.length = R.length ∧
  ∀ T' g', OkW T' c → g'.length = T'.length → T'.length ≤ R.length → Hom c (nx R) (gdb g) (nx T') (gdb g') → Trim c T'.length (nx T') (gdb g') → if T'.length ≤ 60 then Q (mchD a c T' g') else E a.TooMany
def sp_least (a : Ad) : SpD := fun ds Q _ => ∃ c T g, ds = [mchD a c T g] ∧ OkM c T g ∧ ∀ T' g', OkM c T' g' → T'.length ≤ T.length → Hom c (nx T) (gdb g) (nx T') (gdb g') → Trim c T'.length (nx T') (gdb g') → Q (mchD a c T' g')
/-! ### the law's own -/
def sp__law_mixed (a : Ad) : SpD := fun ds Q _ => ds = [.drw] ∧ ∀ n : Int, Q (.int n)
theorem sp_mixed_any {a : Ad} {Q : D → Prop} {E : EX} (h : ∀ n : Int, Q (.int n)) : sp__law_mixed a [.drw] Q E := ⟨rfl, h⟩
def sp__law_take (a : Ad) : SpD := fun ds Q _ => ∃ n : Int, ds = [.drw, .int n] ∧ 0 < n ∧ n < 2 ^ 30 ∧ ∀ r : Int, 0 ≤ r → r < n → Q (.int r)
def sp__law_pick (a : Ad) : SpD := fun ds Q _ => ∃ xs, ds = [.drw, .lst xs] ∧ 0 < xs.length ∧ xs.length < 2 ^ 30 ∧ ∀ x ∈ xs, Q x
/-- a table of n rooms and c colours -/
structure TabN (T : List (List Nat)) (n c : Nat) : Prop where
  len : T.length = n
  row : ∀ r ∈ T, r.length = c + 1 ∧ ∀ k ∈ r, k < n
def sp__law_table (a : Ad) : SpD := fun ds Q _ => ∃ n c : Nat, ds = [.drw, .int n, .int c] ∧ 1 ≤ n ∧ n ≤ 60 ∧ c ≤ 4 ∧ ∀ T g, TabN T n c → g.length = n → Q (.tup [tblD T, .tup (blsD g)])
def planD (c : Nat) (T : List (List Nat)) (g : List Bool) : D := .tup [.int c, tblD T, .tup (blsD g)]
def sp__law_plan (a : Ad) : SpD := fun ds Q _ => ∃ m : Nat, ds = [.drw, .int m] ∧ 1 ≤ m ∧ m ≤ 60 ∧ ∀ c T g, OkM c T g → T.length ≤ max 5 m → Q (planD c T g)
def sp__law_counts (a : Ad) : SpD := fun ds Q _ => ∃ (c : Nat) (T : List (List Nat)) (g : List Bool) (n : Nat), ds = [planD c T g, intD n] ∧ OkM c T g ∧ n ≤ 62 ∧ ∀ ns : List Nat, ns.length = n → (∀ k, k < n → (0 < ns.getD k 0 ↔ Acc (nx T) c (gdb g) k)) → Q (.lst (ns.map intD))
def sp__law_after (a : Ad) : SpD := fun ds Q _ => ∃ c T g r, ds = [planD c T g, intD r] ∧ OkM c T g ∧ r < T.length ∧ ∀ W : List Nat, W.Nodup → (∀ s, s ∈ W ↔ PtM c T r s) → Q (setD W)
def sp__law_growth (a : Ad) : SpD := fun ds Q _ => ∃ c T g, ds = [planD c T g] ∧ OkM c T g ∧ ∀ v, GrowM c T g v → v.val ≤ 60 → Q (grD v)
def sp__law_chain (a : Ad) : SpD := fun ds Q _ => ds = [.drw] ∧ ∀ c T g, OkM c T g → Q (planD c T g)
end DL
-- K73b
set_option Elab.async false
set_option linter.all false
set_option maxRecDepth 100000
set_option maxHeartbeats 2000000
set_option autoImplicit false
namespace DL
open PySem PySem.Spec L2
open PyProof.Rows hiding St
/-! ### live_rooms -/
abbrev st_live_rooms : Stmt := top 1
abbrev N_live_rooms : List Str := ["machine", "come", "line", "goal", "found", "grows", "room"]
theorem sc_live_rooms : FnScope N_live_rooms ["machine"] (defScope st_live_rooms) := ⟨rfl, rfl, rfl, by decide +kernel, rfl, by decide +kernel, by decide +kernel⟩
def sem_live_rooms (a : Ad) : DTS :=
  (dSeq (dPar2 1 2 (dConsM (dDisp [((dC (.int 0)), (dC (.bl true)))]) (dConsM (dLst (dCons (dC (.int 0)) dNil)) dNilM)))
  (dSeq (dWhile (dCmpT rdNe (dB 2) (dO (dClean (dLst dNil))))
  (dFor (dSeqI (dIx (dO (dFld (fun C => C = a.Machine) "table" (dB 0))) (dO (dPop 2)))) (dgName 3)
  (dIfS (dCmpT rdNotIn (dB 3) (dB 1))
  (dSeq (dSetIx 1 (dC (.bl true)) (dVar 3))
  (dAppend 2 (dCons (dVar 3) dNil)))
  dNext)))
  (dSeq (dUnp2 4 5 (dConsM dDict0 (dConsM (dIm (dC (.bl true))) dNilM)))
  (dSeq (dWhile (dTst (dVar 5))
  (dSeq (dSet 5 (dC (.bl false)))
  (dFor (dSeqI (dVar 1)) (dgName 6)
  (dIfS (dAnd (dCmpT rdNotIn (dB 6) (dB 4)) (dOr (dTst (dIx (dO (dFld (fun C => C = a.Machine) "good" (dB 0))) (dB 6))) (dTst (dClean (dBlt rdAny (dConsO (dO (dClean (dLC [3] (dSeqI (dIx (dO (dFld (fun C => C = a.Machine) "table" (dB 0))) (dB 6))) (dgName 3) dYes (dCmpE rdIn (dB 3) (dB 4))))) dNilO))))))
  (dAsg (dTup (dCons (dC (.bl true)) (dCons (dC (.bl true)) dNil))) (dgTup 2 (dgCons (dgSub 4 (dVar 6)) (dgCons (dgName 5) dgNil))))
  dNext))))
  (dRet (dVar 4))))))
theorem body_live_rooms {P : Program} {w : World} {K : PySem.W.Frag} {mg : Str → Option Value} {base : Heap} {a : Ad} {f : Addr} (T : Txt K mg a) {cdv : Value} {A : Around} {outer : List Env} {s : Shared} {H : Hp} {E : XK} {W : Wd K} {H0 B : Hp} {Ed : EX} {hE : ∀ C H' B', Ed C → Grow W H0 B H' B' → E (.ref C) none H'}
    (hr : Room 0 (A.deeper (envOfC "live_rooms" (defScope st_live_rooms) s.heap.objs.size f cdv))) : PSs (cxB P w K mg base N_live_rooms "live_rooms" st_live_rooms f cdv A outer s H E) (defBody st_live_rooms) (upS (⟨W, H0, B, E, Ed, hE⟩ : Gx K) (sem_live_rooms a)) :=
  have sc := sc_live_rooms
  (dss_cons (ds_par2 (i := 1) (j := 2) rfl sc.nd (dma_cons (dm_disp (dps_cons (fun _ _ => de_int) (fun _ _ => de_bl) dps_nil)) fun _ _ => (dma_cons (dm_lst (da_cons de_int da_nil)) fun _ _ => dma_nil)))
  (dss_cons (ds_while (passes_of rfl) (dt_cmp (op_neD hr.units) r2_ne (do_name 2) (do_of_e (de_of_m (dm_lst da_nil))))
  (dss_one (ds_for (passes_of rfl) rfl (di_seq (de_ix (DL.hu_of hr) (do_of_e (de_fld T.f_Machine_table (do_name 0))) (do_of_e (de_pop 2)))) (dg_name (i := 3) sc.nd)
  (dss_one (ds_if (dt_cmp (op_notIn3 (hu65 hr)) r2_notIn (do_name 3) (do_name 1))
  (dss_cons (ds_setIx 1 (DL.hu_of hr) de_bl (de_var 3))
  (dss_one (ds_append 2 (da_cons (de_var 3) da_nil))))
  dss_nil)))))
  (dss_cons (ds_unp2 (i := 4) (j := 5) rfl sc.nd (dma_cons dm_dict0 fun _ _ => (dma_cons (dm_of_e de_bl) fun _ _ => dma_nil)))
  (dss_cons (ds_while (passes_of rfl) (dt_val (de_var 5))
  (dss_cons (ds_set (i := 5) sc.nd de_bl)
  (dss_one (ds_for (passes_of rfl) rfl (di_seq (de_var 1)) (dg_name (i := 6) sc.nd)
  (dss_one (ds_if (PW.pt (dw_and (dt_cmp (op_notIn3 (hu65 hr)) r2_notIn (do_name 6) (do_name 4)) (dw_and1 (PW.pt (dw_or (dt_val (de_ix (DL.hu_of hr) (do_of_e (de_fld T.f_Machine_good (do_name 0))) (do_name 6))) (dw_or1 (dt_val (de_of_m (dm_callB (cr_any rfl) rc_any (by rfl) T.z_any (by decide +kernel) (dao_cons (do_of_e (de_of_m (dm_lc (own := [("goal", 3)]) rfl sc.nd (di_seq (de_ix (DL.hu_of hr) (do_of_e (de_fld T.f_Machine_table (do_name 0))) (do_name 6))) (blkOk_by (by rfl)) (fun _ _ _ _ _ _ _ => (dg_name (i := 3) sc.nd)) (fun _ _ _ _ _ _ _ => dts_nil) (fun _ _ _ _ _ _ _ => (de_cmp (op_in3 (hu65 hr)) r2_in (do_name 3) (do_name 4)))))) dao_nil))))))))))
  (dss_one (ds_asg (de_tup (da_cons de_bl (da_cons de_bl da_nil))) (dg_tup rfl (dgs_cons (dg_sub 4 (DL.hu_of hr) (de_var 6) (fun _ _ _ h => h)) (dgs_cons (dg_name (i := 5) sc.nd) dgs_nil)))))
  dss_nil))))))
  (dss_one (ds_ret (de_var 4)))))))

/-! ### goals_from -/
abbrev st_goals_from : Stmt := top 2
abbrev N_goals_from : List Str := ["machine", "live", "room", "found", "line", "goal"]
theorem sc_goals_from : FnScope N_goals_from ["machine", "live", "room"] (defScope st_goals_from) := ⟨rfl, rfl, rfl, by decide +kernel, rfl, by decide +kernel, by decide +kernel⟩
def sem_goals_from (a : Ad) : DTS :=
  (dSeq (dPar2 3 4 (dConsM dDict0 (dConsM (dLst (dCons (dVar 2) dNil)) dNilM)))
  (dSeq (dWhile (dCmpT rdNe (dB 4) (dO (dClean (dLst dNil))))
  (dFor (dSeqI (dIx (dO (dFld (fun C => C = a.Machine) "table" (dB 0))) (dO (dPop 4)))) (dgName 5)
  (dIfS (dAnd (dCmpT rdIn (dB 5) (dB 1)) (dCmpT rdNotIn (dB 5) (dB 3)))
  (dSeq (dSetIx 3 (dC (.bl true)) (dVar 5))
  (dAppend 4 (dCons (dVar 5) dNil)))
  dNext)))
  (dRet (dVar 3))))
theorem body_goals_from {P : Program} {w : World} {K : PySem.W.Frag} {mg : Str → Option Value} {base : Heap} {a : Ad} {f : Addr} (T : Txt K mg a) {cdv : Value} {A : Around} {outer : List Env} {s : Shared} {H : Hp} {E : XK} {W : Wd K} {H0 B : Hp} {Ed : EX} {hE : ∀ C H' B', Ed C → Grow W H0 B H' B' → E (.ref C) none H'}
    (hr : Room 0 (A.deeper (envOfC "goals_from" (defScope st_goals_from) s.heap.objs.size f cdv))) : PSs (cxB P w K mg base N_goals_from "goals_from" st_goals_from f cdv A outer s H E) (defBody st_goals_from) (upS (⟨W, H0, B, E, Ed, hE⟩ : Gx K) (sem_goals_from a)) :=
  have sc := sc_goals_from
  (dss_cons (ds_par2 (i := 3) (j := 4) rfl sc.nd (dma_cons dm_dict0 fun _ _ => (dma_cons (dm_lst (da_cons (de_var 2) da_nil)) fun _ _ => dma_nil)))
  (dss_cons (ds_while (passes_of rfl) (dt_cmp (op_neD hr.units) r2_ne (do_name 4) (do_of_e (de_of_m (dm_lst da_nil))))
  (dss_one (ds_for (passes_of rfl) rfl (di_seq (de_ix (DL.hu_of hr) (do_of_e (de_fld T.f_Machine_table (do_name 0))) (do_of_e (de_pop 4)))) (dg_name (i := 5) sc.nd)
  (dss_one (ds_if (PW.pt (dw_and (dt_cmp (op_in3 (hu65 hr)) r2_in (do_name 5) (do_name 1)) (dw_and1 (dt_cmp (op_notIn3 (hu65 hr)) r2_notIn (do_name 5) (do_name 3)))))
  (dss_cons (ds_setIx 3 (DL.hu_of hr) de_bl (de_var 5))
  (dss_one (ds_append 4 (da_cons (de_var 5) da_nil))))
  dss_nil)))))
  (dss_one (ds_ret (de_var 3)))))

/-! ### back_goals -/
abbrev st_back_goals : Stmt := top 3
abbrev N_back_goals : List Str := ["machine", "ways", "room", "goal"]
theorem sc_back_goals : FnScope N_back_goals ["machine", "ways", "room"] (defScope st_back_goals) := ⟨rfl, rfl, rfl, by decide +kernel, rfl, by decide +kernel, by decide +kernel⟩
def sem_back_goals (a : Ad) : DTS :=
  (dRet (dClean (dLC [3] (dSeqI (dIx (dO (dFld (fun C => C = a.Machine) "table" (dB 0))) (dB 2))) (dgName 3) (dAnd (dCmpT rdIn (dB 3) (dB 1)) (dCmpT rdIn (dB 2) (dO (dIx (dB 1) (dB 3))))) (dVar 3))))
theorem body_back_goals {P : Program} {w : World} {K : PySem.W.Frag} {mg : Str → Option Value} {base : Heap} {a : Ad} {f : Addr} (T : Txt K mg a) {cdv : Value} {A : Around} {outer : List Env} {s : Shared} {H : Hp} {E : XK} {W : Wd K} {H0 B : Hp} {Ed : EX} {hE : ∀ C H' B', Ed C → Grow W H0 B H' B' → E (.ref C) none H'}
    (hr : Room 0 (A.deeper (envOfC "back_goals" (defScope st_back_goals) s.heap.objs.size f cdv))) : PSs (cxB P w K mg base N_back_goals "back_goals" st_back_goals f cdv A outer s H E) (defBody st_back_goals) (upS (⟨W, H0, B, E, Ed, hE⟩ : Gx K) (sem_back_goals a)) :=
  have sc := sc_back_goals
  (dss_one (ds_ret (de_of_m (dm_lc (own := [("goal", 3)]) rfl sc.nd (di_seq (de_ix (DL.hu_of hr) (do_of_e (de_fld T.f_Machine_table (do_name 0))) (do_name 2))) (blkOk_by (by rfl)) (fun _ _ _ _ _ _ _ => (dg_name (i := 3) sc.nd)) (fun _ _ _ _ _ _ _ => (dts_one (PW.pt (dw_and (dt_cmp (op_in3 (hu65 hr)) r2_in (do_name 3) (do_name 1)) (dw_and1 (dt_cmp (op_in3 (hu65 hr)) r2_in (do_name 2) (do_of_e (de_ix (DL.hu_of hr) (do_name 1) (do_name 3))))))))) (fun _ _ _ _ _ _ _ => (de_var 3))))))

/-! ### rings_from -/
abbrev st_rings_from : Stmt := top 4
abbrev N_rings_from : List Str := ["machine", "ways", "found", "grows", "room", "goal", "more"]
theorem sc_rings_from : FnScope N_rings_from ["machine", "ways"] (defScope st_rings_from) := ⟨rfl, rfl, rfl, by decide +kernel, rfl, by decide +kernel, by decide +kernel⟩
def sem_rings_from (a : Ad) : DTS :=
  (dSeq (dPar2 2 3 (dConsM (dDC [4] (dSeqI (dVar 1)) (dgName 4) dYes (dVar 4) (dClean (dBlt rdInt (dConsO (dO (dCmpE rdIn (dB 4) (dO (dIx (dB 1) (dB 4))))) dNilO)))) (dConsM (dIm (dC (.bl true))) dNilM)))
  (dSeq (dWhile (dTst (dVar 3))
  (dSeq (dSet 3 (dC (.bl false)))
  (dFor (dSeqI (dVar 1)) (dgName 4)
  (dFor (dSeqI (dIx (dO (dFld (fun C => C = a.Machine) "table" (dB 0))) (dB 4))) (dgName 5)
  (dIfS (dCmpT rdIn (dB 5) (dB 1))
  (dSeq (dSet 6 (dClean (dBlt rdInt (dConsO (dO (dAndV (dCmpE rdIn (dB 4) (dO (dIx (dB 1) (dB 4)))) (dCmpE rdNotIn (dB 4) (dO (dIx (dB 1) (dB 5)))))) dNilO))))
  (dIfS (dCmpT rdGt (dO (dClean (dOpM rdAdd (dO (dIx (dB 2) (dB 5))) (dB 6)))) (dO (dIx (dB 2) (dB 4))))
  (dAsg (dTup (dCons (dClean (dOpM rdAdd (dO (dIx (dB 2) (dB 5))) (dB 6))) (dCons (dC (.bl true)) dNil))) (dgTup 2 (dgCons (dgSub 2 (dVar 4)) (dgCons (dgName 3) dgNil))))
  dNext))
  dNext)))))
  (dRet (dVar 2))))
theorem body_rings_from {P : Program} {w : World} {K : PySem.W.Frag} {mg : Str → Option Value} {base : Heap} {a : Ad} {f : Addr} (T : Txt K mg a) {cdv : Value} {A : Around} {outer : List Env} {s : Shared} {H : Hp} {E : XK} {W : Wd K} {H0 B : Hp} {Ed : EX} {hE : ∀ C H' B', Ed C → Grow W H0 B H' B' → E (.ref C) none H'}
    (hr : Room 0 (A.deeper (envOfC "rings_from" (defScope st_rings_from) s.heap.objs.size f cdv))) : PSs (cxB P w K mg base N_rings_from "rings_from" st_rings_from f cdv A outer s H E) (defBody st_rings_from) (upS (⟨W, H0, B, E, Ed, hE⟩ : Gx K) (sem_rings_from a)) :=
  have sc := sc_rings_from
  (dss_cons (ds_par2 (i := 2) (j := 3) rfl sc.nd (dma_cons (dm_dc (own := [("room", 4)]) rfl sc.nd (di_seq (de_var 1)) (blkOk_by (by rfl)) (fun _ _ _ _ _ _ _ => (dg_name (i := 4) sc.nd)) (fun _ _ _ _ _ _ _ => dts_nil) (fun _ _ _ _ _ _ _ => (de_var 4)) (fun _ _ _ _ _ _ _ => (de_of_m (dm_callTy call_int1 rc_int (by rfl) T.z_int (by decide +kernel) (dao_cons (do_of_e (de_cmp (op_in3 (hu65 hr)) r2_in (do_name 4) (do_of_e (de_ix (DL.hu_of hr) (do_name 1) (do_name 4))))) dao_nil))))) fun _ _ => (dma_cons (dm_of_e de_bl) fun _ _ => dma_nil)))
  (dss_cons (ds_while (passes_of rfl) (dt_val (de_var 3))
  (dss_cons (ds_set (i := 3) sc.nd de_bl)
  (dss_one (ds_for (passes_of rfl) rfl (di_seq (de_var 1)) (dg_name (i := 4) sc.nd)
  (dss_one (ds_for (passes_of rfl) rfl (di_seq (de_ix (DL.hu_of hr) (do_of_e (de_fld T.f_Machine_table (do_name 0))) (do_name 4))) (dg_name (i := 5) sc.nd)
  (dss_one (ds_if (dt_cmp (op_in3 (hu65 hr)) r2_in (do_name 5) (do_name 1))
  (dss_cons (ds_set (i := 6) sc.nd (de_of_m (dm_callTy call_int1 rc_int (by rfl) T.z_int (by decide +kernel) (dao_cons (do_of_e (de_and (de_cmp (op_in3 (hu65 hr)) r2_in (do_name 4) (do_of_e (de_ix (DL.hu_of hr) (do_name 1) (do_name 4)))) (de_one (de_cmp (op_notIn3 (hu65 hr)) r2_notIn (do_name 4) (do_of_e (de_ix (DL.hu_of hr) (do_name 1) (do_name 5))))))) dao_nil))))
  (dss_one (ds_if (dt_cmp op_gt r2_cmp0 (do_of_e (de_of_m (dm_op op_add5 r2_add (do_of_e (de_ix (DL.hu_of hr) (do_name 2) (do_name 5))) (do_name 6)))) (do_of_e (de_ix (DL.hu_of hr) (do_name 2) (do_name 4))))
  (dss_one (ds_asg (de_tup (da_cons (de_of_m (dm_op op_add5 r2_add (do_of_e (de_ix (DL.hu_of hr) (do_name 2) (do_name 5))) (do_name 6))) (da_cons de_bl da_nil))) (dg_tup rfl (dgs_cons (dg_sub 2 (DL.hu_of hr) (de_var 4) (fun _ _ _ h => h)) (dgs_cons (dg_name (i := 3) sc.nd) dgs_nil)))))
  dss_nil)))
  dss_nil))))))))
  (dss_one (ds_ret (de_var 2)))))

/-! ### longest -/
abbrev st_longest : Stmt := top 5
abbrev N_longest : List Str := ["machine", "live", "line", "size", "room", "goal"]
theorem sc_longest : FnScope N_longest ["machine", "live"] (defScope st_longest) := ⟨rfl, rfl, rfl, by decide +kernel, rfl, by decide +kernel, by decide +kernel⟩
def sem_longest (a : Ad) : DTS :=
  (dSeq (dPar2 2 3 (dConsM (dLst (dCons (dC (.int 0)) dNil)) (dConsM (dIm (dC (.int 0))) dNilM)))
  (dSeq (dWhile (dCmpT rdNe (dB 2) (dO (dClean (dLst dNil))))
  (dSeq (dSetM 2 (dBlt rdSortSet (dConsO (dO (dClean (dLC2 [4, 5] [5] (dSeqI (dVar 2)) (dgName 4) dYes (dSeqI (dIx (dO (dFld (fun C => C = a.Machine) "table" (dB 0))) (dB 4))) (dgName 5) (dCmpT rdIn (dB 5) (dB 1)) (dVar 5)))) dNilO)))
  (dAug 3 (rdI0 (fun i j => i + j)) (dClean (dBlt rdInt (dConsO (dO (dCmpE rdNe (dB 2) (dO (dClean (dLst dNil))))) dNilO))))))
  (dRet (dVar 3))))
theorem body_longest {P : Program} {w : World} {K : PySem.W.Frag} {mg : Str → Option Value} {base : Heap} {a : Ad} {f : Addr} (T : Txt K mg a) {cdv : Value} {A : Around} {outer : List Env} {s : Shared} {H : Hp} {E : XK} {W : Wd K} {H0 B : Hp} {Ed : EX} {hE : ∀ C H' B', Ed C → Grow W H0 B H' B' → E (.ref C) none H'}
    (hr : Room 0 (A.deeper (envOfC "longest" (defScope st_longest) s.heap.objs.size f cdv))) : PSs (cxB P w K mg base N_longest "longest" st_longest f cdv A outer s H E) (defBody st_longest) (upS (⟨W, H0, B, E, Ed, hE⟩ : Gx K) (sem_longest a)) :=
  have sc := sc_longest
  (dss_cons (ds_par2 (i := 2) (j := 3) rfl sc.nd (dma_cons (dm_lst (da_cons de_int da_nil)) fun _ _ => (dma_cons (dm_of_e de_int) fun _ _ => dma_nil)))
  (dss_cons (ds_while (passes_of rfl) (dt_cmp (op_neD hr.units) r2_ne (do_name 2) (do_of_e (de_of_m (dm_lst da_nil))))
  (dss_cons (ds_setM (i := 2) sc.nd (dm_sortset rfl T.z_sorted T.z_set (dao_cons (do_of_e (de_of_m (dm_lc2 (own := [("room", 4), ("goal", 5)]) (own1 := [5]) rfl sc.nd (di_seq (de_var 2)) (blkOk_by (by rfl)) (fun _ _ _ _ _ _ _ => (dg_name (i := 4) sc.nd)) (fun _ _ _ _ _ _ _ => dts_nil) (fun _ _ _ _ _ _ _ => (di_seq (de_ix (DL.hu_of hr) (do_of_e (de_fld T.f_Machine_table (do_name 0))) (do_name 4)))) (fun _ _ _ _ _ _ _ => (dg_name (i := 5) sc.nd)) (fun _ _ _ _ _ _ _ => (dts_one (dt_cmp (op_in3 (hu65 hr)) r2_in (do_name 5) (do_name 1)))) (fun _ _ _ _ _ _ _ => (de_var 5))))) dao_nil)))
  (dss_one (ds_augI (i := 3) ip_add sc.nd (de_of_m (dm_callTy call_int1 rc_int (by rfl) T.z_int (by decide +kernel) (dao_cons (do_of_e (de_cmp (op_neD hr.units) r2_ne (do_name 2) (do_of_e (de_of_m (dm_lst da_nil))))) dao_nil)))))))
  (dss_one (ds_ret (de_var 3)))))

/-! ### growth -/
abbrev st_growth : Stmt := top 6
abbrev N_growth : List Str := ["machine", "live", "ways", "rings", "room"]
theorem sc_growth : FnScope N_growth ["machine"] (defScope st_growth) := ⟨rfl, rfl, rfl, by decide +kernel, rfl, by decide +kernel, by decide +kernel⟩
def sem_growth (a : Ad) : DTS :=
  (dSeq (dSet 1 (dFn (sp_live_rooms a) (dCons (dVar 0) dNil)))
  (dSeq (dIfS (dCmpT rdNotIn (dO (dC (.int 0))) (dB 1))
  (dRet (dTup (dCons (dC (.str "none")) dNil)))
  dNext)
  (dSeq (dSetM 2 (dDC [4] (dSeqI (dVar 1)) (dgName 4) dYes (dVar 4) (dFn (sp_goals_from a) (dCons (dVar 0) (dCons (dVar 1) (dCons (dVar 4) dNil))))))
  (dSeq (dIfS (dTst (dClean (dBlt rdAny (dConsO (dO (dClean (dLC [4] (dSeqI (dVar 1)) (dgName 4) dYes (dCmpE rdGt (dO (dClean (dBlt rdLen (dConsO (dO (dFn (sp_back_goals a) (dCons (dVar 0) (dCons (dVar 2) (dCons (dVar 4) dNil))))) dNilO)))) (dO (dC (.int 1))))))) dNilO))))
  (dRet (dTup (dCons (dC (.str "doubles")) dNil)))
  dNext)
  (dSeq (dSet 3 (dIx (dO (dFn (sp_rings_from a) (dCons (dVar 0) (dCons (dVar 2) dNil)))) (dO (dC (.int 0)))))
  (dRet (dIf (dCmpT rdEq (dB 3) (dO (dC (.int 0)))) (dTup (dCons (dC (.str "ends")) (dCons (dFn (sp_longest a) (dCons (dVar 0) (dCons (dVar 1) dNil))) dNil))) (dTup (dCons (dC (.str "power")) (dCons (dClean (dOpM rdSub (dB 3) (dO (dC (.int 1))))) dNil))))))))))
theorem body_growth {P : Program} {w : World} {K : PySem.W.Frag} {mg : Str → Option Value} {base : Heap} {a : Ad} {f : Addr} (T : Txt K mg a) (c_live_rooms : Cal P w K mg base 1 "live_rooms" ["machine"] (sp_live_rooms a)) (c_goals_from : Cal P w K mg base 1 "goals_from" ["machine", "live", "room"] (sp_goals_from a)) (c_back_goals : Cal P w K mg base 1 "back_goals" ["machine", "ways", "room"] (sp_back_goals a)) (c_rings_from : Cal P w K mg base 1 "rings_from" ["machine", "ways"] (sp_rings_from a)) (c_longest : Cal P w K mg base 1 "longest" ["machine", "live"] (sp_longest a)) {cdv : Value} {A : Around} {outer : List Env} {s : Shared} {H : Hp} {E : XK} {W : Wd K} {H0 B : Hp} {Ed : EX} {hE : ∀ C H' B', Ed C → Grow W H0 B H' B' → E (.ref C) none H'}
    (hr : Room 1 (A.deeper (envOfC "growth" (defScope st_growth) s.heap.objs.size f cdv))) : PSs (cxB P w K mg base N_growth "growth" st_growth f cdv A outer s H E) (defBody st_growth) (upS (⟨W, H0, B, E, Ed, hE⟩ : Gx K) (sem_growth a)) :=
  have sc := sc_growth
  (dss_cons (ds_set (i := 1) sc.nd (de_cal (c_live_rooms.mono (by decide)) hr (pass_up (takes_of rfl rfl rfl rfl)) (da_cons (de_var 0) da_nil)))
  (dss_cons (ds_if (dt_cmp (op_notIn3 (hu65 hr)) r2_notIn (do_of_e de_int) (do_name 1))
  (dss_one (ds_ret (de_tup (da_cons de_str da_nil))))
  dss_nil)
  (dss_cons (ds_setM (i := 2) sc.nd (dm_dc (own := [("room", 4)]) rfl sc.nd (di_seq (de_var 1)) (blkOk_by (by rfl)) (fun _ _ _ _ _ _ _ => (dg_name (i := 4) sc.nd)) (fun _ _ _ _ _ _ _ => dts_nil) (fun _ _ _ _ _ _ _ => (de_var 4)) (fun _ _ _ _ _ _ _ => (de_cal (c_goals_from.mono (by decide)) hr pass_no (da_cons (de_var 0) (da_cons (de_var 1) (da_cons (de_var 4) da_nil)))))))
  (dss_cons (ds_if (dt_val (de_of_m (dm_callB (cr_any rfl) rc_any (by rfl) T.z_any (by decide +kernel) (dao_cons (do_of_e (de_of_m (dm_lc (own := [("room", 4)]) rfl sc.nd (di_seq (de_var 1)) (blkOk_by (by rfl)) (fun _ _ _ _ _ _ _ => (dg_name (i := 4) sc.nd)) (fun _ _ _ _ _ _ _ => dts_nil) (fun _ _ _ _ _ _ _ => (de_cmp op_gt r2_cmp0 (do_of_e (de_of_m (dm_callB call_len2 rc_len (by rfl) T.z_len (by decide +kernel) (dao_cons (do_of_e (de_cal (c_back_goals.mono (by decide)) hr pass_no (da_cons (de_var 0) (da_cons (de_var 2) (da_cons (de_var 4) da_nil))))) dao_nil)))) (do_of_e de_int)))))) dao_nil))))
  (dss_one (ds_ret (de_tup (da_cons de_str da_nil))))
  dss_nil)
  (dss_cons (ds_set (i := 3) sc.nd (de_ix (DL.hu_of hr) (do_of_e (de_cal (c_rings_from.mono (by decide)) hr (pass_up (takes_of rfl rfl rfl rfl)) (da_cons (de_var 0) (da_cons (de_var 2) da_nil)))) (do_of_e de_int)))
  (dss_one (ds_ret (de_if (dt_cmp (op_eqD hr.units) r2_eq (do_name 3) (do_of_e de_int)) (de_tup (da_cons de_str (da_cons (de_cal (c_longest.mono (by decide)) hr (pass_up (takes_of rfl rfl rfl rfl)) (da_cons (de_var 0) (da_cons (de_var 1) da_nil))) da_nil))) (de_tup (da_cons de_str (da_cons (de_of_m (dm_op op_sub r2_int0 (do_name 3) (do_of_e de_int))) da_nil)))))))))))

/-! ### is_between -/
abbrev st_is_between : Stmt := top 14
abbrev N_is_between : List Str := ["thing", "least", "most"]
theorem sc_is_between : FnScope N_is_between ["thing", "least", "most"] (defScope st_is_between) := ⟨rfl, rfl, rfl, by decide +kernel, rfl, by decide +kernel, by decide +kernel⟩
def sem_is_between (a : Ad) : DTS :=
  (dRet (dAndV (dClean (dBlt rdIsi (dConsO (dB 0) (dConsO (dO (dC (.ty "int"))) dNilO)))) (dAndV (dNotV (dClean (dBlt rdIsi (dConsO (dB 0) (dConsO (dO (dC (.ty "bool"))) dNilO))))) (dChainE rdLe rdLe (dB 1) (dB 0) (dB 2)))))
theorem body_is_between {P : Program} {w : World} {K : PySem.W.Frag} {mg : Str → Option Value} {base : Heap} {a : Ad} {f : Addr} (T : Txt K mg a) {cdv : Value} {A : Around} {outer : List Env} {s : Shared} {H : Hp} {E : XK} {W : Wd K} {H0 B : Hp} {Ed : EX} {hE : ∀ C H' B', Ed C → Grow W H0 B H' B' → E (.ref C) none H'}
    (hr : Room 0 (A.deeper (envOfC "is_between" (defScope st_is_between) s.heap.objs.size f cdv))) : PSs (cxB P w K mg base N_is_between "is_between" st_is_between f cdv A outer s H E) (defBody st_is_between) (upS (⟨W, H0, B, E, Ed, hE⟩ : Gx K) (sem_is_between a)) :=
  have sc := sc_is_between
  (dss_one (ds_ret (de_and (de_of_m (dm_callB call_isi rc_isi (by rfl) T.z_isinstance (by decide +kernel) (dao_cons (do_name 0) (dao_cons (do_of_e (de_c (pe_bltn (v := .ty "int") (by rfl) T.z_int (by decide +kernel) rfl) fun _ => .ty _)) dao_nil)))) (de_and (de_not (de_of_m (dm_callB call_isi rc_isi (by rfl) T.z_isinstance (by decide +kernel) (dao_cons (do_name 0) (dao_cons (do_of_e (de_c (pe_bltn (v := .ty "bool") (by rfl) T.z_bool (by decide +kernel) rfl) fun _ => .ty _)) dao_nil))))) (de_one (de_chain op_le op_le r2_cmp0 r2_cmp0 (do_name 1) (do_name 0) (do_name 2)))))))

/-! ### is_table -/
abbrev st_is_table : Stmt := top 19
abbrev N_is_table : List Str := ["thing", "colours", "row", "room"]
theorem sc_is_table : FnScope N_is_table ["thing", "colours"] (defScope st_is_table) := ⟨rfl, rfl, rfl, by decide +kernel, rfl, by decide +kernel, by decide +kernel⟩
def sem_is_table (a : Ad) : DTS :=
  (dSeq (dIfS (dOr (dNot (dTst (dClean (dBlt rdIsi (dConsO (dB 0) (dConsO (dO (dC (.ty "tuple"))) dNilO)))))) (dNot (dTst (dChainE rdLe rdLe (dO (dC (.int 1))) (dO (dClean (dBlt rdLen (dConsO (dB 0) dNilO)))) (dO (dC (.int 60)))))))
  (dRet (dC (.bl false)))
  dNext)
  (dSeq (dFor (dSeqI (dVar 0)) (dgName 2)
  (dSeq (dIfS (dOr (dNot (dTst (dClean (dBlt rdIsi (dConsO (dB 2) (dConsO (dO (dC (.ty "tuple"))) dNilO)))))) (dCmpT rdNe (dO (dClean (dBlt rdLen (dConsO (dB 2) dNilO)))) (dO (dClean (dOpM rdAdd (dB 1) (dO (dC (.int 1))))))))
  (dRet (dC (.bl false)))
  dNext)
  (dIfS (dNot (dTst (dClean (dBlt rdAll (dConsO (dO (dClean (dLC [3] (dSeqI (dVar 2)) (dgName 3) dYes (dFn (sp_is_between a) (dCons (dVar 3) (dCons (dC (.int 0)) (dCons (dClean (dOpM rdSub (dO (dClean (dBlt rdLen (dConsO (dB 0) dNilO)))) (dO (dC (.int 1))))) dNil))))))) dNilO)))))
  (dRet (dC (.bl false)))
  dNext)))
  (dRet (dC (.bl true)))))
theorem body_is_table {P : Program} {w : World} {K : PySem.W.Frag} {mg : Str → Option Value} {base : Heap} {a : Ad} {f : Addr} (T : Txt K mg a) (c_is_between : Cal P w K mg base 1 "is_between" ["thing", "least", "most"] (sp_is_between a)) {cdv : Value} {A : Around} {outer : List Env} {s : Shared} {H : Hp} {E : XK} {W : Wd K} {H0 B : Hp} {Ed : EX} {hE : ∀ C H' B', Ed C → Grow W H0 B H' B' → E (.ref C) none H'}
    (hr : Room 1 (A.deeper (envOfC "is_table" (defScope st_is_table) s.heap.objs.size f cdv))) : PSs (cxB P w K mg base N_is_table "is_table" st_is_table f cdv A outer s H E) (defBody st_is_table) (upS (⟨W, H0, B, E, Ed, hE⟩ : Gx K) (sem_is_table a)) :=
  have sc := sc_is_table
  (dss_cons (ds_if (PW.pt (dw_or (dt_not (dt_val (de_of_m (dm_callB call_isi rc_isi (by rfl) T.z_isinstance (by decide +kernel) (dao_cons (do_name 0) (dao_cons (do_of_e (de_c (pe_bltn (v := .ty "tuple") (by rfl) T.z_tuple (by decide +kernel) rfl) fun _ => .ty _)) dao_nil)))))) (dw_or1 (dt_not (dt_chain op_le op_le r2_cmp0 r2_cmp0 (do_of_e de_int) (do_of_e (de_of_m (dm_callB call_len2 rc_len (by rfl) T.z_len (by decide +kernel) (dao_cons (do_name 0) dao_nil)))) (do_of_e (de_gi T.g_MOST_ROOMS)))))))
  (dss_one (ds_ret de_bl))
  dss_nil)
  (dss_cons (ds_for (passes_of rfl) rfl (di_seq (de_var 0)) (dg_name (i := 2) sc.nd)
  (dss_cons (ds_if (PW.pt (dw_or (dt_not (dt_val (de_of_m (dm_callB call_isi rc_isi (by rfl) T.z_isinstance (by decide +kernel) (dao_cons (do_name 2) (dao_cons (do_of_e (de_c (pe_bltn (v := .ty "tuple") (by rfl) T.z_tuple (by decide +kernel) rfl) fun _ => .ty _)) dao_nil)))))) (dw_or1 (dt_cmp (op_neD hr.units) r2_ne (do_of_e (de_of_m (dm_callB call_len2 rc_len (by rfl) T.z_len (by decide +kernel) (dao_cons (do_name 2) dao_nil)))) (do_of_e (de_of_m (dm_op op_add5 r2_add (do_name 1) (do_of_e de_int))))))))
  (dss_one (ds_ret de_bl))
  dss_nil)
  (dss_one (ds_if (dt_not (dt_val (de_of_m (dm_callB (cr_all rfl) rc_all (by rfl) T.z_all (by decide +kernel) (dao_cons (do_of_e (de_of_m (dm_lc (own := [("room", 3)]) rfl sc.nd (di_seq (de_var 2)) (blkOk_by (by rfl)) (fun _ _ _ _ _ _ _ => (dg_name (i := 3) sc.nd)) (fun _ _ _ _ _ _ _ => dts_nil) (fun _ _ _ _ _ _ _ => (de_cal (c_is_between.mono (by decide)) hr pass_no (da_cons (de_var 3) (da_cons de_int (da_cons (de_of_m (dm_op op_sub r2_int0 (do_of_e (de_of_m (dm_callB call_len2 rc_len (by rfl) T.z_len (by decide +kernel) (dao_cons (do_name 0) dao_nil)))) (do_of_e de_int))) da_nil)))))))) dao_nil)))))
  (dss_one (ds_ret de_bl))
  dss_nil))))
  (dss_one (ds_ret de_bl))))

/-! ### are_truths -/
abbrev st_are_truths : Stmt := top 20
abbrev N_are_truths : List Str := ["thing", "size", "one"]
theorem sc_are_truths : FnScope N_are_truths ["thing", "size"] (defScope st_are_truths) := ⟨rfl, rfl, rfl, by decide +kernel, rfl, by decide +kernel, by decide +kernel⟩
def sem_are_truths (a : Ad) : DTS :=
  (dRet (dAndV (dClean (dBlt rdIsi (dConsO (dB 0) (dConsO (dO (dC (.ty "tuple"))) dNilO)))) (dAndV (dCmpE rdEq (dO (dClean (dBlt rdLen (dConsO (dB 0) dNilO)))) (dB 1)) (dClean (dBlt rdAll (dConsO (dO (dClean (dLC [2] (dSeqI (dVar 0)) (dgName 2) dYes (dClean (dBlt rdIsi (dConsO (dB 2) (dConsO (dO (dC (.ty "bool"))) dNilO))))))) dNilO))))))
theorem body_are_truths {P : Program} {w : World} {K : PySem.W.Frag} {mg : Str → Option Value} {base : Heap} {a : Ad} {f : Addr} (T : Txt K mg a) {cdv : Value} {A : Around} {outer : List Env} {s : Shared} {H : Hp} {E : XK} {W : Wd K} {H0 B : Hp} {Ed : EX} {hE : ∀ C H' B', Ed C → Grow W H0 B H' B' → E (.ref C) none H'}
    (hr : Room 0 (A.deeper (envOfC "are_truths" (defScope st_are_truths) s.heap.objs.size f cdv))) : PSs (cxB P w K mg base N_are_truths "are_truths" st_are_truths f cdv A outer s H E) (defBody st_are_truths) (upS (⟨W, H0, B, E, Ed, hE⟩ : Gx K) (sem_are_truths a)) :=
  have sc := sc_are_truths
  (dss_one (ds_ret (de_and (de_of_m (dm_callB call_isi rc_isi (by rfl) T.z_isinstance (by decide +kernel) (dao_cons (do_name 0) (dao_cons (do_of_e (de_c (pe_bltn (v := .ty "tuple") (by rfl) T.z_tuple (by decide +kernel) rfl) fun _ => .ty _)) dao_nil)))) (de_and (de_cmp (op_eqD hr.units) r2_eq (do_of_e (de_of_m (dm_callB call_len2 rc_len (by rfl) T.z_len (by decide +kernel) (dao_cons (do_name 0) dao_nil)))) (do_name 1)) (de_one (de_of_m (dm_callB (cr_all rfl) rc_all (by rfl) T.z_all (by decide +kernel) (dao_cons (do_of_e (de_of_m (dm_lc (own := [("one", 2)]) rfl sc.nd (di_seq (de_var 0)) (blkOk_by (by rfl)) (fun _ _ _ _ _ _ _ => (dg_name (i := 2) sc.nd)) (fun _ _ _ _ _ _ _ => dts_nil) (fun _ _ _ _ _ _ _ => (de_of_m (dm_callB call_isi rc_isi (by rfl) T.z_isinstance (by decide +kernel) (dao_cons (do_name 2) (dao_cons (do_of_e (de_c (pe_bltn (v := .ty "bool") (by rfl) T.z_bool (by decide +kernel) rfl) fun _ => .ty _)) dao_nil)))))))) dao_nil))))))))

/-! ### Machine.__init__ -/
abbrev st_Machine___init__ : Stmt := inClass (top 21) 0
abbrev N_Machine___init__ : List Str := ["self", "colours", "table", "good"]
theorem sc_Machine___init__ : FnScope N_Machine___init__ ["self", "colours", "table", "good"] (defScope st_Machine___init__) := ⟨rfl, rfl, rfl, by decide +kernel, rfl, by decide +kernel, by decide +kernel⟩
def sem_Machine___init__ (a : Ad) : DTS :=
  (dSeq (dIfS (dOr (dNot (dTst (dFn (sp_is_between a) (dCons (dVar 1) (dCons (dC (.int 1)) (dCons (dC (.int 4)) dNil)))))) (dOr (dNot (dTst (dFn (sp_is_table a) (dCons (dVar 2) (dCons (dVar 1) dNil))))) (dNot (dTst (dFn (sp_are_truths a) (dCons (dVar 3) (dCons (dClean (dBlt rdLen (dConsO (dB 2) dNilO))) dNil)))))))
  (dRaise a.NoMachine)
  dNext)
  (dSeq (dFldSet 0 (fun C => C = a.Machine) "colours" (dVar 1))
  (dSeq (dFldSet 0 (fun C => C = a.Machine) "table" (dVar 2))
  (dFldSet 0 (fun C => C = a.Machine) "good" (dVar 3)))))
theorem body_Machine___init__ {P : Program} {w : World} {K : PySem.W.Frag} {mg : Str → Option Value} {base : Heap} {a : Ad} {f : Addr} (T : Txt K mg a) (c_is_between : Cal P w K mg base 1 "is_between" ["thing", "least", "most"] (sp_is_between a)) (c_is_table : Cal P w K mg base 2 "is_table" ["thing", "colours"] (sp_is_table a)) (c_are_truths : Cal P w K mg base 1 "are_truths" ["thing", "size"] (sp_are_truths a)) {cdv : Value} {A : Around} {outer : List Env} {s : Shared} {H : Hp} {E : XK} {W : Wd K} {H0 B : Hp} {Ed : EX} {hE : ∀ C H' B', Ed C → Grow W H0 B H' B' → E (.ref C) none H'}
    (hr : Room 2 (A.deeper (envOfC "Machine.__init__" (defScope st_Machine___init__) s.heap.objs.size f cdv))) : PSs (cxB P w K mg base N_Machine___init__ "Machine.__init__" st_Machine___init__ f cdv A outer s H E) (defBody st_Machine___init__) (upS (⟨W, H0, B, E, Ed, hE⟩ : Gx K) (sem_Machine___init__ a)) :=
  have sc := sc_Machine___init__
  (dss_cons (ds_if (PW.pt (dw_or (dt_not (dt_val (de_cal (c_is_between.mono (by decide)) hr (pass_up (takes_of rfl rfl rfl rfl)) (da_cons (de_var 1) (da_cons de_int (da_cons (de_gi T.g_MOST_PAINTS) da_nil)))))) (dw_or (dt_not (dt_val (de_cal (c_is_table.mono (by decide)) hr (pass_up (takes_of rfl rfl rfl rfl)) (da_cons (de_var 2) (da_cons (de_var 1) da_nil))))) (dw_or1 (dt_not (dt_val (de_cal (c_are_truths.mono (by decide)) hr (pass_up (takes_of rfl rfl rfl rfl)) (da_cons (de_var 3) (da_cons (de_of_m (dm_callB call_len2 rc_len (by rfl) T.z_len (by decide +kernel) (dao_cons (do_name 2) dao_nil))) da_nil)))))))))
  (dss_one (ds_raise rfl (takes_of rfl rfl rfl rfl) (pmk_own PySem.F.excBase_ValueError T.e_NoMachine.ex T.e_NoMachine.g T.e_NoMachine.k (raises_own T.e_NoMachine.b T.e_NoMachine.t) rfl)))
  dss_nil)
  (dss_cons (ds_fld 0 T.f_Machine_colours (de_var 1))
  (dss_cons (ds_fld 0 T.f_Machine_table (de_var 2))
  (dss_one (ds_fld 0 T.f_Machine_good (de_var 3))))))

/-! ### explored -/
abbrev st_explored : Stmt := top 23
abbrev N_explored : List Str := ["colours", "first", "step", "is_good", "numbers", "states", "rows", "state", "row", "ink", "later"]
theorem sc_explored : FnScope N_explored ["colours", "first", "step", "is_good"] (defScope st_explored) := ⟨rfl, rfl, rfl, by decide +kernel, rfl, by decide +kernel, by decide +kernel⟩
def sem_explored (a : Ad) (beh : Clo → SpD) : DTS :=
  (dSeq (dSetM 4 (dDisp [((dVar 1), (dC (.int 0)))]))
  (dSeq (dSetM 5 (dLst (dCons (dVar 1) dNil)))
  (dSeq (dSetM 6 (dLst dNil))
  (dSeq (dWhile (dCmpT rdLt (dO (dClean (dBlt rdLen (dConsO (dB 6) dNilO)))) (dO (dClean (dBlt rdLen (dConsO (dB 5) dNilO)))))
  (dSeq (dSet 7 (dIx (dB 5) (dO (dClean (dBlt rdLen (dConsO (dB 6) dNilO))))))
  (dSeq (dSetM 8 (dLst dNil))
  (dSeq (dFor (dRng1 (dCons (dClean (dOpM rdAdd (dB 0) (dO (dC (.int 1))))) dNil)) (dgName 9)
  (dSeq (dSet 10 (dCallF 2 beh (dCons (dVar 7) (dCons (dVar 9) dNil))))
  (dSeq (dIfS (dCmpT rdNotIn (dB 10) (dB 4))
  (dSeq (dSetIx 4 (dClean (dBlt rdLen (dConsO (dB 5) dNilO))) (dVar 10))
  (dAppend 5 (dCons (dVar 10) dNil)))
  dNext)
  (dAppend 8 (dCons (dIx (dB 4) (dB 10)) dNil)))))
  (dAppend 6 (dCons (dVar 8) dNil))))))
  (dRet (dTup (dCons (dVar 6) (dCons (dClean (dLC [7] (dSeqI (dVar 5)) (dgName 7) dYes (dCallF 3 beh (dCons (dVar 7) dNil)))) dNil))))))))
theorem body_explored {P : Program} {w : World} {K : PySem.W.Frag} {mg : Str → Option Value} {base : Heap} {a : Ad} {f : Addr} (T : Txt K mg a) {W : Wd K} {Bm : Hp} {beh : Clo → SpD} (EV : ∀ clo, CallOk P w K mg base W Bm 1 clo (beh clo)) {cdv : Value} {A : Around} {outer : List Env} {s : Shared} {H : Hp} {E : XK} {B : Hp} {Ed : EX} {hE : ∀ C H' B', Ed C → Grow W H B H' B' → E (.ref C) none H'} (sb : Sub Bm B)
    (hr : Room 1 (A.deeper (envOfC "explored" (defScope st_explored) s.heap.objs.size f cdv))) : PSs (cxB P w K mg base N_explored "explored" st_explored f cdv A outer s H E) (defBody st_explored) (upS (⟨W, H, B, E, Ed, hE⟩ : Gx K) (sem_explored a beh)) :=
  have sc := sc_explored
  (dss_cons (ds_setM (i := 4) sc.nd (dm_disp (dps_cons (fun _ _ => (de_var 1)) (fun _ _ => de_int) dps_nil)))
  (dss_cons (ds_setM (i := 5) sc.nd (dm_lst (da_cons (de_var 1) da_nil)))
  (dss_cons (ds_setM (i := 6) sc.nd (dm_lst da_nil))
  (dss_cons (ds_while (passes_of rfl) (dt_cmp op_lt r2_cmp0 (do_of_e (de_of_m (dm_callB call_len2 rc_len (by rfl) T.z_len (by decide +kernel) (dao_cons (do_name 6) dao_nil)))) (do_of_e (de_of_m (dm_callB call_len2 rc_len (by rfl) T.z_len (by decide +kernel) (dao_cons (do_name 5) dao_nil)))))
  (dss_cons (ds_set (i := 7) sc.nd (de_ix (DL.hu_of hr) (do_name 5) (do_of_e (de_of_m (dm_callB call_len2 rc_len (by rfl) T.z_len (by decide +kernel) (dao_cons (do_name 6) dao_nil))))))
  (dss_cons (ds_setM (i := 8) sc.nd (dm_lst da_nil))
  (dss_cons (ds_for (passes_of rfl) rfl (di_range1 (by rfl) T.z_range (da_cons (de_of_m (dm_op op_add5 r2_add (do_name 0) (do_of_e de_int))) da_nil)) (dg_name (i := 9) sc.nd)
  (dss_cons (ds_set (i := 10) sc.nd (de_callfn 2 EV sb (hr.mono (by decide)) (pass_up (takes_of rfl rfl rfl rfl)) (da_cons (de_var 7) (da_cons (de_var 9) da_nil))))
  (dss_cons (ds_if (dt_cmp (op_notIn3 (hu65 hr)) r2_notIn (do_name 10) (do_name 4))
  (dss_cons (ds_setIx 4 (DL.hu_of hr) (de_of_m (dm_callB call_len2 rc_len (by rfl) T.z_len (by decide +kernel) (dao_cons (do_name 5) dao_nil))) (de_var 10))
  (dss_one (ds_append 5 (da_cons (de_var 10) da_nil))))
  dss_nil)
  (dss_one (ds_append 8 (da_cons (de_ix (DL.hu_of hr) (do_name 4) (do_name 10)) da_nil))))))
  (dss_one (ds_append 6 (da_cons (de_var 8) da_nil)))))))
  (dss_one (ds_ret (de_tup (da_cons (de_var 6) (da_cons (de_of_m (dm_lcB (own := [("state", 7)]) rfl sc.nd (di_seq (de_var 5)) (blkOk_by (by rfl)) (fun _ _ _ _ _ _ => (dg_name (i := 7) sc.nd)) (fun _ _ _ _ _ _ => dts_nil) (fun _ _ _ _ _ _ => (de_callfn 3 EV sb (hr.mono (by decide)) pass_no (da_cons (de_var 7) da_nil))))) da_nil)))))))))

/-! ### kinds_of -/
abbrev st_kinds_of : Stmt := top 24
abbrev N_kinds_of : List Str := ["rows", "good", "kinds", "grows", "marks", "later", "one", "state", "row", "mark"]
theorem sc_kinds_of : FnScope N_kinds_of ["rows", "good"] (defScope st_kinds_of) := ⟨rfl, rfl, rfl, by decide +kernel, rfl, by decide +kernel, by decide +kernel⟩
def sem_kinds_of (a : Ad) : DTS :=
  (dSeq (dSetM 2 (dLC [6] (dSeqI (dVar 1)) (dgName 6) dYes (dClean (dBlt rdInt (dConsO (dB 6) dNilO)))))
  (dSeq (dSet 3 (dC (.bl true)))
  (dSeq (dWhile (dTst (dVar 3))
  (dSeq (dSetM 4 dDict0)
  (dSeq (dSetM 5 (dLst dNil))
  (dSeq (dFor (dEnum (dCons (dVar 0) dNil)) (dgTup 2 (dgCons (dgName 7) (dgCons (dgName 8) dgNil)))
  (dSeq (dSetM 9 (dOpM rdAdd (dO (dTup (dCons (dIx (dB 2) (dB 7)) dNil))) (dO (dClean (dBlt rdTuple (dConsO (dO (dClean (dLC [6] (dSeqI (dVar 8)) (dgName 6) dYes (dIx (dB 2) (dB 6))))) dNilO))))))
  (dSeq (dIfS (dCmpT rdNotIn (dB 9) (dB 4))
  (dSetIx 4 (dClean (dBlt rdLenT (dConsO (dB 4) dNilO))) (dVar 9))
  dNext)
  (dAppend 5 (dCons (dIx (dB 4) (dB 9)) dNil)))))
  (dSeq (dSet 3 (dCmpE rdGt (dO (dClean (dBlt rdLenT (dConsO (dB 4) dNilO)))) (dO (dLenSet (dVar 2)))))
  (dSet 2 (dVar 5)))))))
  (dRet (dVar 2)))))
theorem body_kinds_of {P : Program} {w : World} {K : PySem.W.Frag} {mg : Str → Option Value} {base : Heap} {a : Ad} {f : Addr} (T : Txt K mg a) {cdv : Value} {A : Around} {outer : List Env} {s : Shared} {H : Hp} {E : XK} {W : Wd K} {H0 B : Hp} {Ed : EX} {hE : ∀ C H' B', Ed C → Grow W H0 B H' B' → E (.ref C) none H'}
    (hr : Room 0 (A.deeper (envOfC "kinds_of" (defScope st_kinds_of) s.heap.objs.size f cdv))) : PSs (cxB P w K mg base N_kinds_of "kinds_of" st_kinds_of f cdv A outer s H E) (defBody st_kinds_of) (upS (⟨W, H0, B, E, Ed, hE⟩ : Gx K) (sem_kinds_of a)) :=
  have sc := sc_kinds_of
  (dss_cons (ds_setM (i := 2) sc.nd (dm_lc (own := [("one", 6)]) rfl sc.nd (di_seq (de_var 1)) (blkOk_by (by rfl)) (fun _ _ _ _ _ _ _ => (dg_name (i := 6) sc.nd)) (fun _ _ _ _ _ _ _ => dts_nil) (fun _ _ _ _ _ _ _ => (de_of_m (dm_callTy call_int1 rc_int (by rfl) T.z_int (by decide +kernel) (dao_cons (do_name 6) dao_nil))))))
  (dss_cons (ds_set (i := 3) sc.nd de_bl)
  (dss_cons (ds_while (passes_of rfl) (dt_val (de_var 3))
  (dss_cons (ds_setM (i := 4) sc.nd dm_dict0)
  (dss_cons (ds_setM (i := 5) sc.nd (dm_lst da_nil))
  (dss_cons (ds_for (passes_of rfl) rfl (di_enum T.z_enumerate (da_cons (de_var 0) da_nil)) (dg_tup rfl (dgs_cons (dg_name (i := 7) sc.nd) (dgs_cons (dg_name (i := 8) sc.nd) dgs_nil)))
  (dss_cons (ds_setM (i := 9) sc.nd (dm_op op_add5 r2_add (do_of_e (de_tup (da_cons (de_ix (DL.hu_of hr) (do_name 2) (do_name 7)) da_nil))) (do_of_e (de_of_m (dm_callTy call_tuple_of rc_tuple (by rfl) T.z_tuple (by decide +kernel) (dao_cons (do_of_e (de_of_m (dm_lc (own := [("one", 6)]) rfl sc.nd (di_seq (de_var 8)) (blkOk_by (by rfl)) (fun _ _ _ _ _ _ _ => (dg_name (i := 6) sc.nd)) (fun _ _ _ _ _ _ _ => dts_nil) (fun _ _ _ _ _ _ _ => (de_ix (DL.hu_of hr) (do_name 2) (do_name 6)))))) dao_nil))))))
  (dss_cons (ds_if (dt_cmp (op_notIn3 (hu65 hr)) r2_notIn (do_name 9) (do_name 4))
  (dss_one (ds_setIx 4 (DL.hu_of hr) (de_of_m (dm_callB call_lenTR rc_lenT (by rfl) T.z_len (by decide +kernel) (dao_cons (do_name 4) dao_nil))) (de_var 9)))
  dss_nil)
  (dss_one (ds_append 5 (da_cons (de_ix (DL.hu_of hr) (do_name 4) (do_name 9)) da_nil))))))
  (dss_cons (ds_set (i := 3) sc.nd (de_cmp op_gt r2_cmp0 (do_of_e (de_of_m (dm_callB call_lenTR rc_lenT (by rfl) T.z_len (by decide +kernel) (dao_cons (do_name 4) dao_nil)))) (do_of_e (de_lenset rfl T.z_len T.z_set (de_var 2)))))
  (dss_one (ds_set (i := 2) sc.nd (de_var 5))))))))
  (dss_one (ds_ret (de_var 2))))))

/-! ### shrunk -/
abbrev st_shrunk : Stmt := top 25
abbrev N_shrunk : List Str := ["colours", "rows", "good", "kinds", "heads", "state", "kind", "table", "truths", "row"]
theorem sc_shrunk : FnScope N_shrunk ["colours", "rows", "good"] (defScope st_shrunk) := ⟨rfl, rfl, rfl, by decide +kernel, rfl, by decide +kernel, by decide +kernel⟩
def sem_shrunk (a : Ad) (k0 : Clo) (k1 : Clo) : DTS :=
  (dSeq (dSet 3 (dFn (sp_kinds_of a) (dCons (dVar 1) (dCons (dVar 2) dNil))))
  (dSeq (dSetM 4 dDict0)
  (dSeq (dFor (dEnum (dCons (dVar 3) dNil)) (dgTup 2 (dgCons (dgName 5) (dgCons (dgName 6) dgNil)))
  (dIfS (dCmpT rdNotIn (dB 6) (dB 4))
  (dSetIx 4 (dVar 5) (dVar 6))
  dNext))
  (dSeq (dAsg (dFrz 4 (dFnF (sp_explored a) noBeh [(⟨k1, ["kinds", "rows", "heads"], ["kind", "ink"], [3, 1, 4], (dIx (dB 0) (dO (dIx (dO (dIx (dB 1) (dO (dIx (dB 2) (dB 3))))) (dB 4))))⟩ : LamD), (⟨k0, ["good", "heads"], ["kind"], [2, 4], (dIx (dB 0) (dO (dIx (dB 1) (dB 2))))⟩ : LamD)] (dCons (dVar 0) (dCons (dIx (dB 3) (dO (dC (.int 0)))) (dCons (dC (.fn k1)) (dCons (dC (.fn k0)) dNil)))))) (dgTup 2 (dgCons (dgName 7) (dgCons (dgName 8) dgNil))))
  (dSeq (dIfS (dCmpT rdGt (dO (dClean (dBlt rdLen (dConsO (dB 7) dNilO)))) (dO (dC (.int 60))))
  (dRaise a.TooMany)
  dNext)
  (dRet (dMake a.Machine (sp_Machine___init__ a) (dCons (dVar 0) (dCons (dClean (dBlt rdTuple (dConsO (dO (dClean (dLC [9] (dSeqI (dVar 7)) (dgName 9) dYes (dClean (dBlt rdTuple (dConsO (dB 9) dNilO)))))) dNilO))) (dCons (dClean (dBlt rdTuple (dConsO (dB 8) dNilO))) dNil))))))))))
theorem body_shrunk {P : Program} {w : World} {K : PySem.W.Frag} {mg : Str → Option Value} {base : Heap} {a : Ad} {f : Addr} (T : Txt K mg a) (c_kinds_of : Cal P w K mg base 1 "kinds_of" ["rows", "good"] (sp_kinds_of a)) (c_Machine : CalI P w K mg base 3 "Machine" a.Machine ["self", "colours", "table", "good"] (sp_Machine___init__ a)) (c_explored : CalF P w K mg 2 1 "explored" ["colours", "first", "step", "is_good"] (sp_explored a)) {cdv : Value} {A : Around} {outer : List Env} {s : Shared} {H : Hp} {E : XK} {W : Wd K} {H0 B : Hp} {Ed : EX} {hE : ∀ C H' B', Ed C → Grow W H0 B H' B' → E (.ref C) none H'} (M : LamMk (cxB P w K mg base N_shrunk "shrunk" st_shrunk f cdv A outer s H E) W.T)
    (hr : Room 4 (A.deeper (envOfC "shrunk" (defScope st_shrunk) s.heap.objs.size f cdv))) : ∃ k0 k1, PSs (cxB P w K mg base N_shrunk "shrunk" st_shrunk f cdv A outer s H E) (defBody st_shrunk) (upS (⟨W, H0, B, E, Ed, hE⟩ : Gx K) (sem_shrunk a k0 k1)) :=
  have sc := sc_shrunk
  ⟨_, _, (dss_cons (ds_set (i := 3) sc.nd (de_cal (c_kinds_of.mono (by decide)) hr (pass_up (takes_of rfl rfl rfl rfl)) (da_cons (de_var 1) (da_cons (de_var 2) da_nil))))
  (dss_cons (ds_setM (i := 4) sc.nd dm_dict0)
  (dss_cons (ds_for (passes_of rfl) rfl (di_enum T.z_enumerate (da_cons (de_var 3) da_nil)) (dg_tup rfl (dgs_cons (dg_name (i := 5) sc.nd) (dgs_cons (dg_name (i := 6) sc.nd) dgs_nil)))
  (dss_one (ds_if (dt_cmp (op_notIn3 (hu65 hr)) r2_notIn (do_name 6) (do_name 4))
  (dss_one (ds_setIx 4 (DL.hu_of hr) (de_var 5) (de_var 6)))
  dss_nil)))
  (dss_cons (ds_asg (de_frz 4 (de_calF c_explored (hr.mono (by decide)) (pass_up (takes_of rfl rfl rfl rfl)) ev_no sub_no (by exact hls_cons ⟨0, by decide, ⟨lamP_by (by rfl), fun _ _ _ us hl => match us, hl with | [_, _], _ => rfl, fun W f c A outer s H B E Ed hE hr => (de_ix (DL.hu_of hr) (do_name 0) (do_of_e (de_ix (DL.hu_of hr) (do_of_e (de_ix (DL.hu_of hr) (do_name 1) (do_of_e (de_ix (DL.hu_of hr) (do_name 2) (do_name 3))))) (do_name 4))))⟩, capAt_by (by rfl) (fun _ => rfl)⟩ (by exact hls_cons ⟨0, by decide, ⟨lamP_by (by rfl), fun _ _ _ us hl => match us, hl with | [_], _ => rfl, fun W f c A outer s H B E Ed hE hr => (de_ix (DL.hu_of hr) (do_name 0) (do_of_e (de_ix (DL.hu_of hr) (do_name 1) (do_name 2))))⟩, capAt_by (by rfl) (fun _ => rfl)⟩ hls_nil)) (da_cons (de_var 0) (da_cons (de_ix (DL.hu_of hr) (do_name 3) (do_of_e de_int)) (da_cons (de_lam M rfl (hf_by (by rfl))) (da_cons (de_lam M rfl (hf_by (by rfl))) da_nil)))))) (dg_tup rfl (dgs_cons (dg_name (i := 7) sc.nd) (dgs_cons (dg_name (i := 8) sc.nd) dgs_nil))))
  (dss_cons (ds_if (dt_cmp op_gt r2_cmp0 (do_of_e (de_of_m (dm_callB call_len2 rc_len (by rfl) T.z_len (by decide +kernel) (dao_cons (do_name 7) dao_nil)))) (do_of_e (de_gi T.g_MOST_ROOMS)))
  (dss_one (ds_raise rfl (takes_of rfl rfl rfl rfl) (pmk_own PySem.F.excBase_ValueError T.e_TooMany.ex T.e_TooMany.g T.e_TooMany.k (raises_own T.e_TooMany.b T.e_TooMany.t) rfl)))
  dss_nil)
  (dss_one (ds_ret (de_mk (c_Machine.mono (by decide)) hr (pass_up (takes_of rfl rfl rfl rfl)) (da_cons (de_var 0) (da_cons (de_of_m (dm_callTy call_tuple_of rc_tuple (by rfl) T.z_tuple (by decide +kernel) (dao_cons (do_of_e (de_of_m (dm_lc (own := [("row", 9)]) rfl sc.nd (di_seq (de_var 7)) (blkOk_by (by rfl)) (fun _ _ _ _ _ _ _ => (dg_name (i := 9) sc.nd)) (fun _ _ _ _ _ _ _ => dts_nil) (fun _ _ _ _ _ _ _ => (de_of_m (dm_callTy call_tuple_of rc_tuple (by rfl) T.z_tuple (by decide +kernel) (dao_cons (do_name 9) dao_nil))))))) dao_nil))) (da_cons (de_of_m (dm_callTy call_tuple_of rc_tuple (by rfl) T.z_tuple (by decide +kernel) (dao_cons (do_name 8) dao_nil))) da_nil)))))))))))⟩

/-! ### least -/
abbrev st_least : Stmt := top 26
abbrev N_least : List Str := ["machine", "rows", "good"]
theorem sc_least : FnScope N_least ["machine"] (defScope st_least) := ⟨rfl, rfl, rfl, by decide +kernel, rfl, by decide +kernel, by decide +kernel⟩
def sem_least (a : Ad) (k0 : Clo) (k1 : Clo) : DTS :=
  (dSeq (dAsg (dFnF (sp_explored a) noBeh [(⟨k1, ["machine"], ["room", "ink"], [0], (dIx (dO (dIx (dO (dFld (fun C => C = a.Machine) "table" (dB 0))) (dB 1))) (dB 2))⟩ : LamD), (⟨k0, ["machine"], ["room"], [0], (dIx (dO (dFld (fun C => C = a.Machine) "good" (dB 0))) (dB 1))⟩ : LamD)] (dCons (dFld (fun C => C = a.Machine) "colours" (dB 0)) (dCons (dC (.int 0)) (dCons (dC (.fn k1)) (dCons (dC (.fn k0)) dNil))))) (dgTup 2 (dgCons (dgName 1) (dgCons (dgName 2) dgNil))))
  (dRet (dFn (sp_shrunk a) (dCons (dFld (fun C => C = a.Machine) "colours" (dB 0)) (dCons (dVar 1) (dCons (dVar 2) dNil))))))
theorem body_least {P : Program} {w : World} {K : PySem.W.Frag} {mg : Str → Option Value} {base : Heap} {a : Ad} {f : Addr} (T : Txt K mg a) {T0 : List (Addr × Str)} (c_explored : CalF P w K mg 2 1 "explored" ["colours", "first", "step", "is_good"] (sp_explored a)) (c_shrunk : CalT P w K mg base T0 5 "shrunk" ["colours", "rows", "good"] (sp_shrunk a)) {cdv : Value} {A : Around} {outer : List Env} {s : Shared} {H : Hp} {E : XK} {W : Wd K} (hT : W.T = T0) {H0 B : Hp} {Ed : EX} {hE : ∀ C H' B', Ed C → Grow W H0 B H' B' → E (.ref C) none H'} (M : LamMk (cxB P w K mg base N_least "least" st_least f cdv A outer s H E) W.T)
    (hr : Room 5 (A.deeper (envOfC "least" (defScope st_least) s.heap.objs.size f cdv))) : ∃ k0 k1, PSs (cxB P w K mg base N_least "least" st_least f cdv A outer s H E) (defBody st_least) (upS (⟨W, H0, B, E, Ed, hE⟩ : Gx K) (sem_least a k0 k1)) :=
  have sc := sc_least
  ⟨_, _, (dss_cons (ds_asg (de_calF c_explored (hr.mono (by decide)) (pass_up (takes_of rfl rfl rfl rfl)) ev_no sub_no (by exact hls_cons ⟨0, by decide, ⟨lamP_by (by rfl), fun _ _ _ us hl => match us, hl with | [_, _], _ => rfl, fun W f c A outer s H B E Ed hE hr => (de_ix (DL.hu_of hr) (do_of_e (de_ix (DL.hu_of hr) (do_of_e (de_fld T.f_Machine_table (do_name 0))) (do_name 1))) (do_name 2))⟩, capAt_by (by rfl) (fun _ => rfl)⟩ (by exact hls_cons ⟨0, by decide, ⟨lamP_by (by rfl), fun _ _ _ us hl => match us, hl with | [_], _ => rfl, fun W f c A outer s H B E Ed hE hr => (de_ix (DL.hu_of hr) (do_of_e (de_fld T.f_Machine_good (do_name 0))) (do_name 1))⟩, capAt_by (by rfl) (fun _ => rfl)⟩ hls_nil)) (da_cons (de_fld T.f_Machine_colours (do_name 0)) (da_cons de_int (da_cons (de_lam M rfl (hf_by (by rfl))) (da_cons (de_lam M rfl (hf_by (by rfl))) da_nil))))) (dg_tup rfl (dgs_cons (dg_name (i := 1) sc.nd) (dgs_cons (dg_name (i := 2) sc.nd) dgs_nil))))
  (dss_one (ds_ret (de_calT hT (c_shrunk.mono (by decide)) hr (pass_up (takes_of rfl rfl rfl rfl)) (da_cons (de_fld T.f_Machine_colours (do_name 0)) (da_cons (de_var 1) (da_cons (de_var 2) da_nil)))))))⟩

/- used: ['MOST_PAINTS', 'MOST_ROOMS', 'Machine.colours', 'Machine.good', 'Machine.table', 'NoMachine', 'TooMany', 'all', 'any', 'bool', 'enumerate', 'int', 'isinstance', 'len', 'range', 'set', 'sorted', 'tuple'] {"live_rooms": 1, "goals_from": 1, "back_goals": 1, "rings_from": 1, "longest": 1, "growth": 2, "is_between": 1, "is_table": 2, "are_truths": 1, "Machine.__init__": 3, "explored": 2, "kinds_of": 1, "shrunk": 5, "least": 6} -/
end DL
-- K73a
set_option Elab.async false
set_option linter.all false
set_option maxRecDepth 100000
set_option maxHeartbeats 2000000
set_option autoImplicit false
namespace DL
open PySem PySem.Spec L2
open PyProof.Rows hiding St
/-! ### dicts of rooms, read -/
theorem ky_inj {m n : Nat} : (ky m = ky n) ↔ m = n := ⟨fun h => by have := Sum.inl.inj h; omega, fun h => by rw [h]⟩
theorem val_dkN (f : Nat → D) (x : Nat) : ∀ L : List Nat, val (dkN f L) (ky x) = if x ∈ L then some (f x) else none
  | [] => rfl
  | y :: L => by
    have ih := val_dkN f x L
    unfold val dkN at ih ⊢
    rw [List.map_cons, List.find?_cons]
    by_cases h : y = x
    · subst h; simp
    · have e : decide (ky y = ky x) = false := decide_eq_false fun z => h (ky_inj.mp z)
      simp only [e]
      rw [ih]
      by_cases hx : x ∈ L
      · rw [if_pos hx, if_pos (List.mem_cons_of_mem _ hx)]
      · rw [if_neg hx, if_neg (fun z => by rcases List.mem_cons.mp z with z | z; exact h z.symm; exact hx z)]
@[simp] theorem isSome_dkN {f : Nat → D} {x : Nat} {L : List Nat} : (val (dkN f L) (Sum.inl (x : Int))).isSome = decide (x ∈ L) := by
  have e := val_dkN f x L
  rw [show (Sum.inl (x : Int) : Key) = ky x from rfl, e]
  by_cases h : x ∈ L <;> simp [h]
theorem val_in {f : Nat → D} {x : Nat} {L : List Nat} (h : x ∈ L) : val (dkN f L) (Sum.inl (x : Int)) = some (f x) := by rw [show (Sum.inl (x : Int) : Key) = ky x from rfl, val_dkN, if_pos h]
theorem any_dkN {f : Nat → D} {x : Nat} {L : List Nat} : ((dkN f L).any fun kv => decide (kv.1 = ky x)) = decide (x ∈ L) := by
  induction L with
  | nil => rfl
  | cons y L ih =>
    show (decide (ky y = ky x) || ((dkN f L).any fun kv => decide (kv.1 = ky x))) = _
    rw [ih]
    by_cases h : y = x
    · subst h; simp
    · rw [decide_eq_false fun z => h (ky_inj.mp z)]
      simp [Ne.symm h]
theorem put_new {f : Nat → D} {x : Nat} {L : List Nat} (h : x ∉ L) : put (dkN f L) (Sum.inl (x : Int)) (f x) = dkN f (L ++ [x]) := by
  unfold put
  rw [show (Sum.inl (x : Int) : Key) = ky x from rfl, any_dkN, decide_eq_false h, if_neg (by simp)]
  simp [dkN]
theorem put_old {f : Nat → D} {x : Nat} {L : List Nat} {d : D} (h : x ∈ L) : put (dkN f L) (Sum.inl (x : Int)) d = dkN (fun r => if r = x then d else f r) L := by
  unfold put
  rw [show (Sum.inl (x : Int) : Key) = ky x from rfl, any_dkN, decide_eq_true h, if_pos rfl]
  simp only [dkN, List.map_map]
  refine List.map_congr_left fun y _ => ?_
  show (if ky y = ky x then (ky y, d) else (ky y, f y)) = _
  by_cases e : y = x
  · subst e; simp
  · rw [if_neg fun z => e (ky_inj.mp z), if_neg e]
theorem dkN_congr {f g : Nat → D} {L : List Nat} (h : ∀ r ∈ L, f r = g r) : dkN f L = dkN g L := List.map_congr_left fun r hr => by rw [h r hr]
/-- the value at x is put, whether there was one or not -/
theorem put_dkN {f : Nat → D} {x : Nat} {L : List Nat} {d : D} : put (dkN f L) (Sum.inl (x : Int)) d = dkN (fun r => if r = x then d else f r) (if x ∈ L then L else L ++ [x]) := by
  by_cases h : x ∈ L
  · rw [if_pos h, put_old h]
  · rw [if_neg h]
    have e : dkN f L = dkN (fun r => if r = x then d else f r) L := dkN_congr fun r hr => by rw [if_neg (fun z : r = x => h (z ▸ hr))]
    rw [e]
    have := put_new (f := fun r => if r = x then d else f r) h
    simpa using this
theorem keys_dkN (f : Nat → D) (L : List Nat) : (dkN f L).map (fun p => keyD p.1) = L.map intD := by
  unfold dkN
  rw [List.map_map]
  rfl
@[simp] theorem items_dkN {f : Nat → D} {L : List Nat} : itemsD (.dk (dkN f L)) = some (L.map intD) := by rw [← keys_dkN f L]; rfl
@[simp] theorem items_setD {L : List Nat} : itemsD (setD L) = some (L.map intD) := items_dkN
theorem dkN_nil (f : Nat → D) : dkN f [] = [] := rfl
theorem dkN_length {f : Nat → D} {L : List Nat} : (dkN f L).length = L.length := by simp [dkN]
theorem at_row {T : List (List Nat)} {r : Nat} (h : r < T.length) : atI (T.map rowD) (r : Int) = some (rowD (rowAt T r)) := by
  unfold rowAt
  rw [atI_nat, List.getElem?_map, List.getElem?_eq_getElem h, List.getD_eq_getElem?_getD, List.getElem?_eq_getElem h]
  rfl
theorem at_good {g : List Bool} {r : Nat} (h : r < g.length) : atI (blsD g) (r : Int) = some (.bl (gdb g r)) := by
  unfold blsD gdb
  rw [atI_nat, List.getElem?_map, List.getElem?_eq_getElem h, List.getD_eq_getElem?_getD, List.getElem?_eq_getElem h]
  rfl
theorem mch_table {c : Nat} {T : List (List Nat)} {g : List Bool} : (mchF c T g).lookup ("table" : Str) = some (tblD T) := by rfl
theorem mch_good {c : Nat} {T : List (List Nat)} {g : List Bool} : (mchF c T g).lookup ("good" : Str) = some (D.tup (blsD g)) := by rfl
theorem mch_colours {c : Nat} {T : List (List Nat)} {g : List Bool} : (mchF c T g).lookup ("colours" : Str) = some (D.int (c : Int)) := by rfl
theorem row_of {c : Nat} {T : List (List Nat)} (ok : OkT T c) {r : Nat} (h : r < T.length) : (rowAt T r).length = c + 1 ∧ ∀ n ∈ rowAt T r, n < T.length := by
  unfold rowAt
  rw [List.getD_eq_getElem?_getD, List.getElem?_eq_getElem h]
  exact ok.row _ (List.getElem_mem h)
theorem nx_mem {c : Nat} {T : List (List Nat)} (ok : OkT T c) {r i : Nat} (h : r < T.length) (hi : i ≤ c) : nx T r i ∈ rowAt T r := by
  have hl := (row_of ok h).1
  unfold nx
  generalize rowAt T r = row at hl ⊢
  rw [List.getD_eq_getElem?_getD, List.getElem?_eq_getElem (show i < row.length by omega)]
  exact List.getElem_mem _
theorem nx_lt {c : Nat} {T : List (List Nat)} (ok : OkT T c) {r i : Nat} (h : r < T.length) (hi : i ≤ c) : nx T r i < T.length := (row_of ok h).2 _ (nx_mem ok h hi)
theorem mem_nx {c : Nat} {T : List (List Nat)} (ok : OkT T c) {r x : Nat} (h : r < T.length) (hx : x ∈ rowAt T r) : ∃ i, i ≤ c ∧ nx T r i = x := by
  obtain ⟨i, hi, e⟩ := List.getElem_of_mem hx
  have hl := (row_of ok h).1
  refine ⟨i, by omega, ?_⟩
  unfold nx
  generalize rowAt T r = row at hl hi e ⊢
  rw [List.getD_eq_getElem?_getD, List.getElem?_eq_getElem hi]
  exact e
/-! ### the walk that goes on from rooms to rooms -/
def bst (ok : Nat → Bool) (p : List Nat × List Nat) (x : Nat) : List Nat × List Nat := if ok x && !(decide (x ∈ p.1)) then (p.1 ++ [x], p.2 ++ [x]) else p
def bfo (ok : Nat → Bool) (row : List Nat) (p : List Nat × List Nat) : List Nat × List Nat := row.foldl (bst ok) p
theorem bfo_facts (ok : Nat → Bool) : ∀ (row F S : List Nat), ∃ A : List Nat, bfo ok row (F, S) = (F ++ A, S ++ A) ∧ A.Nodup ∧ (∀ x ∈ A, x ∉ F ∧ x ∈ row ∧ ok x = true) ∧ ∀ x ∈ row, ok x = true → x ∈ F ++ A
  | [], F, S => ⟨[], by simp [bfo], by simp, by simp, by simp⟩
  | y :: row, F, S => by
    by_cases h : (ok y && !(decide (y ∈ F))) = true
    · obtain ⟨A, h1, h2, h3, h4⟩ := bfo_facts ok row (F ++ [y]) (S ++ [y])
      simp only [Bool.and_eq_true, Bool.not_eq_true', decide_eq_false_iff_not] at h
      refine ⟨y :: A, ?_, ?_, ?_, ?_⟩
      · show bfo ok row (bst ok (F, S) y) = _
        unfold bst
        rw [if_pos (by simp [h]), h1]
        simp
      · refine List.nodup_cons.mpr ⟨fun z => ?_, h2⟩
        exact (h3 y z).1 (by simp)
      · intro x hx
        rcases List.mem_cons.mp hx with rfl | hx
        · exact ⟨h.2, List.mem_cons_self, h.1⟩
        · obtain ⟨a, b, c⟩ := h3 x hx
          exact ⟨fun z => a (List.mem_append_left _ z), List.mem_cons_of_mem _ b, c⟩
      · intro x hx ox
        rcases List.mem_cons.mp hx with rfl | hx
        · simp
        · have := h4 x hx ox
          simpa using this
    · obtain ⟨A, h1, h2, h3, h4⟩ := bfo_facts ok row F S
      refine ⟨A, ?_, h2, fun x hx => ⟨(h3 x hx).1, List.mem_cons_of_mem _ (h3 x hx).2.1, (h3 x hx).2.2⟩, fun x hx ox => ?_⟩
      · show bfo ok row (bst ok (F, S) y) = _
        unfold bst
        rw [if_neg (by simpa using h), h1]
      · rcases List.mem_cons.mp hx with rfl | hx
        · simp only [Bool.and_eq_true, Bool.not_eq_true', decide_eq_false_iff_not, not_and, Decidable.not_not] at h
          exact List.mem_append_left _ (h ox)
        · exact h4 x hx ox
structure BInv (T : List (List Nat)) (c : Nat) (ok : Nat → Bool) (start : Nat) (P : Nat → Prop) (F S : List Nat) : Prop where
  nd : F.Nodup
  lt : ∀ x ∈ F, x < T.length
  st : ∀ s ∈ S, s = start ∨ s ∈ F
  pr : ∀ x ∈ F, P x
  cl : ∀ x, x = start ∨ x ∈ F → x ∉ S → ∀ i, i ≤ c → ok (nx T x i) = true → nx T x i ∈ F
theorem BInv.len {T : List (List Nat)} {c : Nat} {ok : Nat → Bool} {start : Nat} {P : Nat → Prop} {F S : List Nat} (B : BInv T c ok start P F S) : F.length ≤ T.length := by
  have := List.Nodup.length_le_of_subset (l₂ := List.range T.length) B.nd fun x hx => List.mem_range.mpr (B.lt x hx)
  simpa using this
theorem BInv.turn {T : List (List Nat)} {c : Nat} {ok : Nat → Bool} {start : Nat} {P : Nat → Prop} {F S : List Nat} {r : Nat} (okT : OkT T c) (hs : start < T.length) (B : BInv T c ok start P F (S ++ [r]))
    (hP : ∀ x, x = start ∨ P x → ∀ i, i ≤ c → ok (nx T x i) = true → P (nx T x i)) : r < T.length ∧ BInv T c ok start P (bfo ok (rowAt T r) (F, S)).1 (bfo ok (rowAt T r) (F, S)).2 ∧
      (T.length - (bfo ok (rowAt T r) (F, S)).1.length) + (bfo ok (rowAt T r) (F, S)).2.length < (T.length - F.length) + (S ++ [r]).length := by
  have hr : r = start ∨ r ∈ F := B.st r (by simp)
  have hrl : r < T.length := by rcases hr with rfl | h; exact hs; exact B.lt r h
  obtain ⟨A, h1, h2, h3, h4⟩ := bfo_facts ok (rowAt T r) F S
  rw [h1]
  have B' : BInv T c ok start P (F ++ A) (S ++ A) := by
    refine ⟨?_, ?_, ?_, ?_, ?_⟩
    · exact List.nodup_append.mpr ⟨B.nd, h2, fun a ha b hb e => (h3 b hb).1 (e ▸ ha)⟩
    · intro x hx
      rcases List.mem_append.mp hx with hx | hx
      · exact B.lt x hx
      · exact (row_of okT hrl).2 x (h3 x hx).2.1
    · intro s hs
      rcases List.mem_append.mp hs with hs | hs
      · rcases B.st s (List.mem_append_left _ hs) with e | e
        · exact .inl e
        · exact .inr (List.mem_append_left _ e)
      · exact .inr (List.mem_append_right _ hs)
    · intro x hx
      rcases List.mem_append.mp hx with hx | hx
      · exact B.pr x hx
      · obtain ⟨a1, a2, a3⟩ := h3 x hx
        obtain ⟨i, hi, e⟩ := mem_nx okT hrl a2
        have := hP r (hr.imp id fun h => B.pr r h) i hi (by rw [e]; exact a3)
        rwa [e] at this
    · intro x hx hn i hi hok
      have hxF : x = start ∨ x ∈ F := by
        rcases hx with e | e
        · exact .inl e
        · rcases List.mem_append.mp e with e | e
          · exact .inr e
          · exact absurd (List.mem_append_right _ e) hn
      by_cases e : x = r
      · subst e
        exact h4 _ (nx_mem okT hrl hi) hok
      · exact List.mem_append_left _ (B.cl x hxF (fun z => by
          rcases List.mem_append.mp z with z | z
          · exact hn (List.mem_append_left _ z)
          · simp at z; exact e z) i hi hok)
  refine ⟨hrl, B', ?_⟩
  have l1 := B'.len
  simp only [List.length_append, List.length_cons, List.length_nil] at l1 ⊢
  omega
theorem bfo_take {ok : Nat → Bool} {row : List Nat} {i x : Nat} {p : List Nat × List Nat} (h : row[i]? = some x) : bfo ok (row.take (i + 1)) p = bst ok (bfo ok (row.take i) p) x := by
  unfold bfo
  rw [List.take_add_one, h, List.foldl_append]
  rfl
theorem bfo_len {ok : Nat → Bool} : ∀ {row : List Nat} {p : List Nat × List Nat}, (bfo ok row p).1.length ≤ p.1.length + row.length ∧ (bfo ok row p).2.length ≤ p.2.length + row.length
  | [], p => ⟨Nat.le_refl _, Nat.le_refl _⟩
  | y :: row, p => by
    obtain ⟨h1, h2⟩ := bfo_len (ok := ok) (row := row) (p := bst ok p y)
    have h3 : (bst ok p y).1.length ≤ p.1.length + 1 ∧ (bst ok p y).2.length ≤ p.2.length + 1 := by
      unfold bst
      split <;> simp
    show (bfo ok row (bst ok p y)).1.length ≤ _ ∧ (bfo ok row (bst ok p y)).2.length ≤ _
    simp only [List.length_cons]
    omega
theorem bfo_for {g : DTG} {tb : DTS} {N : DEnds} {row : List Nat} {fr : List Nat → List Nat → Sl → List Sl} {E : EX} (ok : Nat → Bool) (F S : List Nat) (s : Sl)
    (step : ∀ x ∈ row, ∀ (F' S' : List Nat) (s' : Sl) (M : DEnds), F'.length ≤ F.length + row.length → S'.length ≤ S.length + row.length → (∀ s'', M.nx (fr (bst ok (F', S') x).1 (bst ok (F', S') x).2 s'')) → g (intD x) (fr F' S' s') fun Δ3 => tb M Δ3 E)
    (hd : ∀ s', N.nx (fr (bfo ok row (F, S)).1 (bfo ok row (F, S)).2 s')) : dForK g tb N (row.map intD) (fr F S s) E := by
  refine for_map (fun i Δ => ∃ s', Δ = fr (bfo ok (row.take i) (F, S)).1 (bfo ok (row.take i) (F, S)).2 s') ⟨s, rfl⟩ ?_ ?_
  · rintro i x Δ hi ⟨s', rfl⟩
    obtain ⟨l1, l2⟩ := bfo_len (ok := ok) (row := row.take i) (p := (F, S))
    have l3 : (row.take i).length ≤ row.length := by rw [List.length_take]; omega
    dsimp only at l1 l2
    refine step x (List.mem_of_getElem? hi) _ _ s' _ (by omega) (by omega) fun s'' => ⟨s'', ?_⟩
    rw [bfo_take hi]
  · rintro Δ ⟨s', rfl⟩
    rw [List.take_of_length_le (Nat.le_refl _)]
    exact hd s'
theorem intD_inj {m n : Nat} : intD m = intD n ↔ m = n := ⟨fun h => by have := D.int.inj h; omega, fun h => by rw [h]⟩
theorem okN_nat (n k : Nat) : OkN n (intD k) := okN_int n k
@[simp] theorem okEq_nats (ns : List Nat) : OkEq (.lst (ns.map intD)) := (okN_lst (n := 0) (okN_map fun x => okN_nat 0 x)).eq
@[simp] theorem okEq_emp : OkEq (.lst []) := okEq_nats []
@[simp] theorem okEq_nat (n : Nat) : OkEq (intD n) := okEq_int _
@[simp] theorem key_nat {n : Nat} : (intD n).key = some (.inl (n : Int)) := rfl
theorem snoc_cases {α : Type} (S : List α) : S = [] ∨ ∃ S' r, S = S' ++ [r] := by
  rcases List.eq_nil_or_concat S with h | ⟨S', r, h⟩
  · exact .inl h
  · exact .inr ⟨S', r, by rw [h, List.concat_eq_append]⟩
theorem setIxK {i : Nat} {tv tk : DTE} {N : DEnds} {Δ : List Sl} {E : EX} {ds0 : List (Key × D)} (h0 : Δ[i]? = some (.ok ds0)) (h : tv Δ (fun d Δ1 => tk Δ1 (fun k Δ2 => ∃ ds y, Δ2[i]? = some (.ok ds) ∧ k.key = some y ∧ ds.length < sizeLine ∧ N.nx (Δ2.set i (.ok (put ds y d)))) E) E) : dSetIx i tv tk N Δ E := .inr (.inl ⟨⟨_, h0⟩, h⟩)
theorem setIxT {i : Nat} {tv tk : DTE} {N : DEnds} {Δ : List Sl} {E : EX} {ds0 : List (List Key × D)} (h0 : Δ[i]? = some (.ot ds0)) (h : tv Δ (fun d Δ1 => tk Δ1 (fun k Δ2 => ∃ ds y, Δ2[i]? = some (.ot ds) ∧ k.keyT = some y ∧ ds.length < sizeLine ∧ N.nx (Δ2.set i (.ot (put ds y d)))) E) E) : dSetIx i tv tk N Δ E := .inr (.inr ⟨⟨_, h0⟩, h⟩)
abbrev trD : Nat → D := fun _ => .bl true
@[simp] theorem put_tr {x : Nat} {L : List Nat} (h : x ∉ L) : put (dkN trD L) (Sum.inl (x : Int)) (.bl true) = dkN trD (L ++ [x]) := put_new (f := trD) h
theorem whileN {c : DTT} {tb : DTS} {N : DEnds} {Δ : List Sl} {E : EX} (Iv : Nat → List Sl → Prop) {m0 : Nat} (h0 : Iv m0 Δ)
    (turn : ∀ m Δ1, Iv m Δ1 → ∀ M : DEnds, (∀ m' Δ', m' < m → Iv m' Δ' → M.nx Δ') → (∀ m' Δ', m' < m → Iv m' Δ' → M.ct Δ') → M.bk = N.nx → M.rt = N.rt → c Δ1 (fun b Δ2 => if b = true then tb M Δ2 E else N.nx Δ2) E) : dWhile c tb N Δ E :=
  ⟨Iv, ⟨m0, h0⟩, fun m Δ1 q => turn m Δ1 q { nx := fun Δ' => ∃ m', m' < m ∧ Iv m' Δ', ct := fun Δ' => ∃ m', m' < m ∧ Iv m' Δ', bk := N.nx, rt := N.rt } (fun m' _ h1 h2 => ⟨m', h1, h2⟩) (fun m' _ h1 h2 => ⟨m', h1, h2⟩) rfl rfl⟩
theorem forN {α : Type} {f : α → D} {g : DTG} {tb : DTS} {N : DEnds} {xs : List α} {Δ1 : List Sl} {E : EX} (Iv : Nat → List Sl → Prop) (h0 : Iv 0 Δ1)
    (hs : ∀ i x Δ2, xs[i]? = some x → Iv i Δ2 → ∀ M : DEnds, (∀ Δ', Iv (i + 1) Δ' → M.nx Δ') → (∀ Δ', Iv (i + 1) Δ' → M.ct Δ') → M.bk = N.nx → M.rt = N.rt → g (f x) Δ2 fun Δ3 => tb M Δ3 E) (hd : ∀ Δ2, Iv xs.length Δ2 → N.nx Δ2) : dForK g tb N (xs.map f) Δ1 E :=
  for_map Iv h0 (fun i x Δ2 hi q => hs i x Δ2 hi q { nx := Iv (i + 1), ct := Iv (i + 1), bk := N.nx, rt := N.rt } (fun _ h => h) (fun _ h => h) rfl rfl) hd
theorem forRN {g : DTG} {tb : DTS} {N : DEnds} {lo : Int} {n : Nat} {Δ1 : List Sl} {E : EX} (Iv : Nat → List Sl → Prop) (h0 : Iv 0 Δ1)
    (hs : ∀ i Δ2, i < n → Iv i Δ2 → ∀ M : DEnds, (∀ Δ', Iv (i + 1) Δ' → M.nx Δ') → (∀ Δ', Iv (i + 1) Δ' → M.ct Δ') → M.bk = N.nx → M.rt = N.rt → g (.int (lo + (i : Int))) Δ2 fun Δ3 => tb M Δ3 E) (hd : ∀ Δ2, Iv n Δ2 → N.nx Δ2) : dForK g tb N (rngD lo n) Δ1 E :=
  for_range Iv h0 (fun i Δ2 hi q => hs i Δ2 hi q { nx := Iv (i + 1), ct := Iv (i + 1), bk := N.nx, rt := N.rt } (fun _ h => h) (fun _ h => h) rfl rfl) hd
end DL
-- K73c
set_option Elab.async false
set_option linter.all false
set_option maxRecDepth 100000
set_option maxHeartbeats 2000000
set_option autoImplicit false
namespace DL
open PySem PySem.Spec L2
open PyProof.Rows hiding St
theorem run_is_between (a : Ad) (ds : List D) (Q : D → Prop) (E : EX) (h : sp_is_between a ds Q E) : ds.length = 3 ∧ sem_is_between a { nx := fun _ => Q .non, rt := Q } (startD 3 ds) E := by
  unfold sp_is_between at h
  split at h
  · rename_i d l m
    obtain ⟨n, hn, hq⟩ := h
    refine ⟨rfl, ?_⟩
    unfold sem_is_between
    simp [hn]
    cases d <;> simp only [tyN, Option.some.injEq, reduceCtorEq] at hn <;> subst hn <;> simp [isBt] at hq ⊢ <;> try exact hq
    rename_i i
    by_cases h1 : l ≤ i
    · simpa [h1] using hq
    · simpa [h1] using hq
  · exact h.elim
theorem run_is_table (a : Ad) (ds : List D) (Q : D → Prop) (E : EX) (h : sp_is_table a ds Q E) : ds.length = 2 ∧ sem_is_table a { nx := fun _ => Q .non, rt := Q } (startD 4 ds) E := by
  obtain ⟨T, c, rfl, ok, hc, hq⟩ := h
  refine ⟨rfl, ?_⟩
  have h1 := ok.l1
  have h2 := ok.l2
  unfold sem_is_table tblD
  simp
  rw [if_pos (by omega)]
  refine .inr ⟨by omega, for_map (fun i Δ => ∃ s, Δ = [.im (.tup (T.map rowD)), .im (.int c), s, .un]) ⟨_, rfl⟩ ?_ fun Δ2 _ => hq⟩
  rintro i r Δ2 hi ⟨s, rfl⟩
  obtain ⟨hr1, hr2⟩ := ok.row r (List.mem_of_getElem? hi)
  simp [rowD, hr1]
  refine lc_map (fun _ => some (.bl true)) [.im (.tup (T.map rowD)), .im (.int c), .im (rowD r), .un] rfl (by rw [sizeLine_eq]; omega) (fun n hn R hR => ?_) ?_
  · have := hr2 n hn
    have e : decide ((n : Int) ≤ (T.length : Int) - 1) = true := decide_eq_true (by omega)
    simp [sp_is_between, intD, rowD, e]
    exact hR
  · simp
    exact ⟨r.map fun _ => true, by simp, .inr (by simp)⟩
theorem run_are_truths (a : Ad) (ds : List D) (Q : D → Prop) (E : EX) (h : sp_are_truths a ds Q E) : ds.length = 2 ∧ sem_are_truths a { nx := fun _ => Q .non, rt := Q } (startD 3 ds) E := by
  obtain ⟨g, n, rfl, hg, hn, hq⟩ := h
  refine ⟨rfl, ?_⟩
  unfold sem_are_truths blsD
  simp [hg]
  refine lc_map (fun _ => some (.bl true)) [.im (.tup (g.map D.bl)), .im (.int n), .un] rfl (by rw [sizeLine_eq]; omega) (fun b hb R hR => ?_) ?_
  · simp
    exact hR
  · simp
    exact ⟨g.map fun _ => true, by simp, by rw [all_true]; exact hq⟩
theorem run_Machine___init__ (a : Ad) (p : Addr) (ds : List D) (Q : List (Str × D) → Prop) (E : EX) (h : sp_Machine___init__ a ds Q E) : ds.length + 1 = 4 ∧
    sem_Machine___init__ a { nx := fun Δ => ∃ fs, Δ[0]? = some (.oi a.Machine p fs) ∧ Q fs, rt := fun _ => False } (startI p a.Machine 4 ds) E := by
  obtain ⟨c, T, g, rfl, ok, hq⟩ := h
  refine ⟨rfl, ?_⟩
  have h1 := ok.c1
  have h2 := ok.c2
  have e : ((1 : Int) ≤ c) ∧ ((c : Int) ≤ 4) := by omega
  unfold sem_Machine___init__
  simp [sp_is_between, e, and_assoc]
  refine ⟨T, c, rfl, ok.t, ok.c2, .inr ⟨rfl, ?_⟩⟩
  simp [sp_are_truths, tblD, and_assoc]
  refine ⟨g, rfl, T.length, rfl, ok.g, ok.t.l2, ?_⟩
  exact ⟨by show 1 < 1000; decide, by show 2 < 1000; decide, hq⟩
end DL
-- K73d
set_option Elab.async false
set_option linter.all false
set_option maxRecDepth 100000
set_option maxHeartbeats 2000000
set_option autoImplicit false
namespace DL
open PySem PySem.Spec L2
open PyProof.Rows hiding St
theorem seqN {a b : DTS} {N : DEnds} {Δ : List Sl} {E : EX} (h : ∀ M : DEnds, (∀ Δ', b N Δ' E → M.nx Δ') → M.rt = N.rt → M.bk = N.bk → M.ct = N.ct → a M Δ E) : dSeq a b N Δ E := h { N with nx := fun Δ' => b N Δ' E } (fun _ h => h) rfl rfl rfl
theorem ifN {c : DTT} {t : DTS} {N : DEnds} {Δ : List Sl} {E : EX} {b : Bool} (hc : ∀ Q : Bool → List Sl → Prop, Q b Δ → c Δ Q E) (ht : b = true → t N Δ E) (hn : b = false → N.nx Δ) : dIfS c t dNext N Δ E := hc _ (by
  cases b with
  | true => exact ht rfl
  | false => exact hn rfl)
abbrev comeC : DTT := (dCmpT rdNe (dB 2) (dO (dClean (dLst dNil))))
abbrev comeB (a : Ad) : DTS := (dFor (dSeqI (dIx (dO (dFld (fun C => C = a.Machine) "table" (dB 0))) (dO (dPop 2)))) (dgName 3)
  (dIfS (dCmpT rdNotIn (dB 3) (dB 1))
  (dSeq (dSetIx 1 (dC (.bl true)) (dVar 3))
  (dAppend 2 (dCons (dVar 3) dNil)))
  dNext))
theorem come_loop {a : Ad} {c : Nat} {T : List (List Nat)} {g : List Bool} {N : DEnds} {E : EX} {s3 s4 s5 s6 : Sl} (ok : OkM c T g)
    (h : ∀ (F : List Nat) (s3 : Sl), F.Nodup → (∀ x, x ∈ F ↔ Rc (nx T) c 0 x) → (∀ x ∈ F, x < T.length) → N.nx [.im (mchD a c T g), .ok (dkN trD F), .ol [], s3, s4, s5, s6]) :
    dWhile comeC (comeB a) N [.im (mchD a c T g), .ok (dkN trD [0]), .ol [intD 0], s3, s4, s5, s6] E := by
  have hl := ok.t.l1
  have h2 := ok.t.l2
  refine ⟨fun m Δ => ∃ F S s3, Δ = [.im (mchD a c T g), .ok (dkN trD F), .ol (S.map intD), s3, s4, s5, s6] ∧ BInv T c (fun _ => true) 0 (Rc (nx T) c 0) F S ∧ 0 ∈ F ∧ m = (T.length - F.length) + S.length ∧ m ≤ 61, ⟨_, [0], [0], s3, rfl, ⟨by simp, fun x hx => by simp at hx; omega, fun s hs => by simp at hs; exact .inl hs, fun x hx => by simp at hx; subst hx; exact .refl, fun x hx hn => by simp at hx hn; exact absurd hx hn⟩, by simp, rfl, by simp; omega⟩, ?_⟩
  rintro m Δ ⟨F, S, s3, rfl, B, h0, rfl, hm⟩
  rcases snoc_cases S with rfl | ⟨S, r, rfl⟩
  · simp
    refine h F s3 B.nd (fun x => ⟨B.pr x, fun ⟨w, hw, e⟩ => ?_⟩) B.lt
    subst e
    have go : ∀ (w : List Nat) (x : Nat), x ∈ F → Inks c w → run (nx T) x w ∈ F := fun w => by
      induction w with
      | nil => exact fun x hx _ => hx
      | cons i w ih => exact fun x hx hw => ih _ (B.cl x (.inr hx) (by simp) i hw.head rfl) hw.tail
    exact go w 0 h0 hw
  · obtain ⟨hr, B', hlt⟩ := B.turn ok.t (by omega) fun x hx i hi _ => Rc.snoc hi (hx.elim (fun e => by subst e; exact Rc.refl) id)
    have hrl := (row_of ok.t hr).1
    have hc := ok.c2
    have lF := B.len
    simp only [List.length_append, List.length_cons, List.length_nil] at hm
    have oe := okEq_nats (S ++ [r])
    simp only [List.map_append, List.map_cons, List.map_nil] at oe
    simp [oe]
    refine ⟨a.Machine, _, rfl, rfl, _, mch_table, ?_⟩
    unfold tblD
    rw [show intD r = D.int (r : Int) from rfl]
    simp [at_row hr]
    refine ⟨_, rfl, bfo_for (fr := fun F S s => [.im (mchD a c T g), .ok (dkN trD F), .ol (S.map intD), s, s4, s5, s6]) (fun _ => true) F S s3 (fun x hx F' S' s' M l1 l2 hM => ?_) fun s' => ?_⟩
    · simp
      unfold bst at hM
      by_cases e : x ∈ F'
      · simp [e] at hM ⊢
        exact hM _
      · simp [e] at hM ⊢
        refine setIxK rfl ?_
        simp [dkN_length, e]
        exact ⟨by rw [sizeLine_eq]; omega, by rw [sizeLine_eq]; omega, hM _⟩
    · simp at hlt ⊢
      obtain ⟨A, e1, _⟩ := bfo_facts (fun _ => true) (rowAt T r) F S
      exact ⟨_, hlt, _, _, ⟨rfl, rfl⟩, B', by rw [e1]; exact List.mem_append_left _ h0, rfl, by omega⟩
abbrev liveB (a : Ad) : DTS := (dSeq (dSet 5 (dC (.bl false)))
  (dFor (dSeqI (dVar 1)) (dgName 6)
  (dIfS (dAnd (dCmpT rdNotIn (dB 6) (dB 4)) (dOr (dTst (dIx (dO (dFld (fun C => C = a.Machine) "good" (dB 0))) (dB 6))) (dTst (dClean (dBlt rdAny (dConsO (dO (dClean (dLC [3] (dSeqI (dIx (dO (dFld (fun C => C = a.Machine) "table" (dB 0))) (dB 6))) (dgName 3) dYes (dCmpE rdIn (dB 3) (dB 4))))) dNilO))))))
  (dAsg (dTup (dCons (dC (.bl true)) (dCons (dC (.bl true)) dNil))) (dgTup 2 (dgCons (dgSub 4 (dVar 6)) (dgCons (dgName 5) dgNil))))
  dNext)))
def lvT (T : List (List Nat)) (g : List Bool) (L : List Nat) (x : Nat) : Bool := !(decide (x ∈ L)) && (gdb g x || (rowAt T x).any fun y => decide (y ∈ L))
theorem live_test {a : Ad} {c : Nat} {T : List (List Nat)} {g : List Bool} {E : EX} {s1 s2 s3 s5 : Sl} {L : List Nat} {x : Nat} (ok : OkM c T g) (hx : x < T.length) {Q : Bool → List Sl → Prop}
    (h : ∀ s3, Q (lvT T g L x) [.im (mchD a c T g), s1, s2, s3, .ok (dkN trD L), s5, .im (intD x)]) :
    dAnd (dCmpT rdNotIn (dB 6) (dB 4)) (dOr (dTst (dIx (dO (dFld (fun C => C = a.Machine) "good" (dB 0))) (dB 6))) (dTst (dClean (dBlt rdAny (dConsO (dO (dClean (dLC [3] (dSeqI (dIx (dO (dFld (fun C => C = a.Machine) "table" (dB 0))) (dB 6))) (dgName 3) dYes (dCmpE rdIn (dB 3) (dB 4))))) dNilO)))))
      [.im (mchD a c T g), s1, s2, s3, .ok (dkN trD L), s5, .im (intD x)] Q E := by
  have hl := (row_of ok.t hx).1
  have hc := ok.c2
  unfold lvT at h
  simp
  by_cases e : x ∈ L
  · simp [e] at h ⊢
    exact h _
  · simp [e] at h ⊢
    refine ⟨a.Machine, _, rfl, rfl, _, mch_good, ?_⟩
    rw [show intD x = D.int (x : Int) from rfl]
    simp [at_good (show x < g.length by rw [ok.g]; exact hx)]
    cases hg : gdb g x with
    | true => simp [hg] at h ⊢; exact h _
    | false =>
      simp [hg] at h ⊢
      refine ⟨a.Machine, _, rfl, rfl, _, mch_table, ?_⟩
      unfold tblD
      simp [at_row hx]
      refine ⟨_, rfl, lc_map (fun y => some (.bl (decide (y ∈ L)))) [.im (mchD a c T g), s1, s2, .un, .ok (dkN trD L), s5, .im (intD x)] rfl (by rw [sizeLine_eq]; omega) (fun y hy R hR => ?_) ?_⟩
      · simp
        exact hR
      · simp
        refine ⟨(rowAt T x).map fun y => decide (y ∈ L), by simp, ?_⟩
        by_cases hm : true ∈ (rowAt T x).map fun y => decide (y ∈ L)
        · have e2 : ((rowAt T x).any fun y => decide (y ∈ L)) = true := by
            obtain ⟨y, hy, e3⟩ := List.mem_map.mp hm
            exact List.any_eq_true.mpr ⟨y, hy, e3⟩
          rw [e2] at h
          exact .inr ⟨hm, h _⟩
        · have e2 : ((rowAt T x).any fun y => decide (y ∈ L)) = false := by
            rw [List.any_eq_false]
            exact fun y hy z => hm (List.mem_map.mpr ⟨y, hy, z⟩)
          rw [e2] at h
          exact .inl ⟨hm, h _⟩
theorem live_add {N : DEnds} {E : EX} {s0 s1 s2 s3 s5 : Sl} {L : List Nat} {x : Nat} (hn : x ∉ L) (hl : L.length ≤ 60) (h : N.nx [s0, s1, s2, s3, .ok (dkN trD (L ++ [x])), .im (.bl true), .im (intD x)]) :
    dAsg (dTup (dCons (dC (.bl true)) (dCons (dC (.bl true)) dNil))) (dgTup 2 (dgCons (dgSub 4 (dVar 6)) (dgCons (dgName 5) dgNil))) N [s0, s1, s2, s3, .ok (dkN trD L), s5, .im (intD x)] E := by
  have z2 : 2 ≤ sizeLine := by rw [sizeLine_eq]; omega
  simp [z2]
  refine ⟨_, _, ⟨rfl, rfl⟩, ?_⟩
  simp [dkN_length, hn]
  exact ⟨by rw [sizeLine_eq]; omega, _, _, ⟨rfl, rfl⟩, rfl, h⟩
structure LInv (T : List (List Nat)) (c : Nat) (g : List Bool) (F L : List Nat) : Prop where
  nd : L.Nodup
  mem : ∀ x ∈ L, x ∈ F
  good : ∀ x ∈ L, ∃ q, Rc (nx T) c x q ∧ gdb g q = true
theorem LInv.len {T : List (List Nat)} {c : Nat} {g : List Bool} {F L : List Nat} (I : LInv T c g F L) : L.length ≤ F.length := List.Nodup.length_le_of_subset I.nd I.mem
theorem LInv.snoc {T : List (List Nat)} {c : Nat} {g : List Bool} {F L : List Nat} {x : Nat} (ok : OkT T c) (I : LInv T c g F L) (hx : x ∈ F) (hl : x < T.length) (h : lvT T g L x = true) : LInv T c g F (L ++ [x]) := by
  unfold lvT at h
  simp only [Bool.and_eq_true, Bool.not_eq_true', decide_eq_false_iff_not, Bool.or_eq_true, List.any_eq_true, decide_eq_true_eq] at h
  obtain ⟨h1, h2⟩ := h
  refine ⟨List.nodup_append.mpr ⟨I.nd, by simp, fun a ha b hb e => by simp at hb; subst hb; subst e; exact h1 ha⟩, fun y hy => ?_, fun y hy => ?_⟩
  · rcases List.mem_append.mp hy with hy | hy
    · exact I.mem y hy
    · simp at hy; subst hy; exact hx
  · rcases List.mem_append.mp hy with hy | hy
    · exact I.good y hy
    · simp at hy; subst hy
      rcases h2 with h2 | ⟨z, hz, hzL⟩
      · exact ⟨y, .refl, h2⟩
      · obtain ⟨i, hi, e⟩ := mem_nx ok hl hz
        obtain ⟨q, hq, hg⟩ := I.good z hzL
        exact ⟨q, .step hi (by rw [e]; exact hq), hg⟩
theorem live_loop {a : Ad} {c : Nat} {T : List (List Nat)} {g : List Bool} {N : DEnds} {E : EX} {s1 s2 s3 s6 : Sl} {F : List Nat} (ok : OkM c T g) (hF : F.Nodup) (hR : ∀ x, x ∈ F ↔ Rc (nx T) c 0 x) (hlt : ∀ x ∈ F, x < T.length) (hs1 : s1.er = some (setD F))
    (h : ∀ (L : List Nat) (s1 s3 s5 s6 : Sl), L.Nodup → (∀ x, x ∈ L ↔ LvM c T g x) → N.nx [.im (mchD a c T g), s1, s2, s3, .ok (dkN trD L), s5, s6]) :
    dWhile (dTst (dVar 5)) (liveB a) N [.im (mchD a c T g), s1, s2, s3, .ok (dkN trD []), .im (.bl true), s6] E := by
  refine whileN (fun m Δ => ∃ L b s1 s3 s6, Δ = [.im (mchD a c T g), s1, s2, s3, .ok (dkN trD L), .im (.bl b), s6] ∧ s1.er = some (setD F) ∧ LInv T c g F L ∧ (b = false → ∀ x ∈ F, lvT T g L x = false) ∧ m = (F.length - L.length) + (if b then 1 else 0)) ⟨[], true, s1, s3, s6, rfl, hs1, ⟨by simp, fun x hx => by simp at hx, fun x hx => by simp at hx⟩, fun z => (by cases z), rfl⟩ ?_
  rintro m Δ ⟨L, b, s1, s3, s6, rfl, hs1, I, hb, rfl⟩ M mn _ _ _
  cases b with
  | false =>
    simp
    refine h L s1 s3 _ s6 I.nd fun x => ⟨fun hx => ⟨(hR x).mp (I.mem x hx), I.good x hx⟩, fun ⟨r1, q, ⟨w, hw, e⟩, hg⟩ => ?_⟩
    have cl : ∀ y, y ∈ F → y ∉ L → gdb g y = false ∧ ∀ z ∈ rowAt T y, z ∉ L := fun y hy hn => by
      have := hb rfl y hy
      unfold lvT at this
      simp [hn] at this
      exact ⟨this.1, this.2⟩
    have go : ∀ (w : List Nat) (x : Nat), x ∈ F → Inks c w → gdb g (run (nx T) x w) = true → x ∈ L := fun w => by
      induction w with
      | nil =>
        intro x hx _ hg
        by_cases hL : x ∈ L
        · exact hL
        · have := (cl x hx hL).1
          rw [run_nil] at hg
          rw [hg] at this; cases this
      | cons i w ih =>
        intro x hx hw hg
        by_cases hL : x ∈ L
        · exact hL
        · have hF2 : nx T x i ∈ F := (hR _).mpr (.snoc hw.head ((hR x).mp hx))
          exact absurd (ih _ hF2 hw.tail hg) ((cl x hx hL).2 _ (nx_mem ok.t (hlt x hx) hw.head))
    subst e
    exact go w x ((hR x).mpr r1) hw hg
  | true =>
    simp
    refine ⟨_, hs1, _, items_setD, ?_⟩
    refine forN (fun i Δ => ∃ L' b s3 s6, Δ = [.im (mchD a c T g), .im (setD F), s2, s3, .ok (dkN trD L'), .im (.bl b), s6] ∧ LInv T c g F L' ∧ (b = true → L.length < L'.length) ∧ (b = false → L' = L ∧ ∀ j, j < i → ∀ x, F[j]? = some x → lvT T g L x = false)) ⟨L, false, s3, s6, rfl, I, fun z => (by cases z), fun _ => ⟨rfl, fun j hj => by omega⟩⟩ ?_ ?_
    · rintro i x Δ hi ⟨L', b, s3, s6, rfl, I', hb1, hb2⟩ M' mn' _ _ _
      have hxF := List.mem_of_getElem? hi
      have hxl := hlt x hxF
      show dIfS _ _ _ _ [.im (mchD a c T g), .im (setD F), s2, s3, .ok (dkN trD L'), .im (.bl b), .im (intD x)] E
      refine live_test ok hxl fun s3 => ?_
      cases ht : lvT T g L' x with
      | true =>
        have hn : x ∉ L' := fun z => by unfold lvT at ht; simp [z] at ht
        have h2 := ok.t.l2
        have hFl : F.length ≤ T.length := by
          have := List.Nodup.length_le_of_subset (l₂ := List.range T.length) hF fun x hx => List.mem_range.mpr (hlt x hx)
          simpa using this
        have hll := I'.len
        refine live_add hn (by omega) (mn' _ ⟨_, true, _, _, rfl, I'.snoc ok.t hxF hxl ht, fun _ => ?_, fun z => (by cases z)⟩)
        have : L.length ≤ L'.length := by
          cases b with
          | true => exact Nat.le_of_lt (hb1 rfl)
          | false => rw [(hb2 rfl).1]; exact Nat.le_refl _
        simp; omega
      | false =>
        refine mn' _ ⟨L', b, _, _, rfl, I', hb1, fun z => ⟨(hb2 z).1, fun j hj y hy => ?_⟩⟩
        by_cases hji : j < i
        · exact (hb2 z).2 j hji y hy
        · obtain rfl : j = i := by omega
          rw [hi] at hy; cases hy
          rw [← (hb2 z).1]; exact ht
    · rintro Δ ⟨L', b, s3, s6, rfl, I', hb1, hb2⟩
      have hll := I'.len
      refine mn _ _ ?_ ⟨L', b, _, _, _, rfl, rfl, I', fun z x hx => ?_, rfl⟩
      · cases b with
        | true => have := hb1 rfl; simp; omega
        | false => rw [(hb2 rfl).1]; simp
      · obtain ⟨e, h3⟩ := hb2 z
        obtain ⟨j, hj, e2⟩ := List.getElem_of_mem hx
        rw [e]
        exact h3 j hj x (by rw [List.getElem?_eq_getElem hj, e2])
theorem run_live_rooms (a : Ad) (ds : List D) (Q : D → Prop) (E : EX) (h : sp_live_rooms a ds Q E) : ds.length = 1 ∧ sem_live_rooms a { nx := fun _ => Q .non, rt := Q } (startD N_live_rooms.length ds) E := by
  obtain ⟨c, T, g, rfl, ok, hq⟩ := h
  refine ⟨rfl, ?_⟩
  have z1 : 1 ≤ sizeLine := by rw [sizeLine_eq]; omega
  unfold sem_live_rooms
  refine seqN fun M m hrt _ _ => ?_
  simp [z1]
  refine ⟨[(Sum.inl 0, .bl true)], by simp, by simp, _, _, ⟨rfl, rfl⟩, m _ ?_⟩
  refine seqN fun M1 m1 _ _ _ => ?_
  refine come_loop ok fun F s3 hF hR hlt => m1 _ ?_
  refine seqN fun M2 m2 _ _ _ => ?_
  simp
  refine .inl ⟨_, _, ⟨rfl, rfl⟩, m2 _ ?_⟩
  refine seqN fun M3 m3 _ _ _ => ?_
  refine live_loop ok hF hR hlt rfl fun L s1 s3 s5 s6 hL hLv => m3 _ ?_
  simp
  exact hq L hL hLv
end DL
-- K73e
set_option Elab.async false
set_option linter.all false
set_option maxRecDepth 100000
set_option maxHeartbeats 2000000
set_option autoImplicit false
namespace DL
open PySem PySem.Spec L2
open PyProof.Rows hiding St
abbrev gfB (a : Ad) : DTS := (dFor (dSeqI (dIx (dO (dFld (fun C => C = a.Machine) "table" (dB 0))) (dO (dPop 4)))) (dgName 5)
  (dIfS (dAnd (dCmpT rdIn (dB 5) (dB 1)) (dCmpT rdNotIn (dB 5) (dB 3)))
  (dSeq (dSetIx 3 (dC (.bl true)) (dVar 5))
  (dAppend 4 (dCons (dVar 5) dNil)))
  dNext))
theorem goals_loop {a : Ad} {c : Nat} {T : List (List Nat)} {g : List Bool} {N : DEnds} {E : EX} {L : List Nat} {r : Nat} {s5 : Sl} (ok : OkM c T g) (hL : ∀ x, x ∈ L ↔ LvM c T g x) (hr : r ∈ L) (hrl : r < T.length)
    (h : ∀ (F : List Nat) (s5 : Sl), F.Nodup → (∀ x, x ∈ F ↔ x ∈ L ∧ PtM c T r x) → N.nx [.im (mchD a c T g), .im (setD L), .im (intD r), .ok (dkN trD F), .ol [], s5]) :
    dWhile (dCmpT rdNe (dB 4) (dO (dClean (dLst dNil)))) (gfB a) N [.im (mchD a c T g), .im (setD L), .im (intD r), .ok (dkN trD []), .ol [intD r], s5] E := by
  have hl := ok.t.l1
  have h2 := ok.t.l2
  refine whileN (fun m Δ => ∃ F S s5, Δ = [.im (mchD a c T g), .im (setD L), .im (intD r), .ok (dkN trD F), .ol (S.map intD), s5] ∧ BInv T c (fun x => decide (x ∈ L)) r (fun x => x ∈ L ∧ PtM c T r x) F S ∧ m = (T.length - F.length) + S.length ∧ m ≤ 61) ⟨[], [r], s5, rfl, ⟨by simp, fun x hx => by simp at hx, fun s hs => by simp at hs; exact .inl hs, fun x hx => by simp at hx, fun x hx hn => by simp at hx hn; exact absurd hx hn⟩, rfl, by simp; omega⟩ ?_
  rintro m Δ ⟨F, S, s5, rfl, B, rfl, hm⟩ M mn _ _ _
  rcases snoc_cases S with rfl | ⟨S, q, rfl⟩
  · simp
    refine h F s5 B.nd fun x => ⟨B.pr x, fun ⟨hx, i, hi, w, hw, e⟩ => ?_⟩
    subst e
    have go : ∀ (w : List Nat) (y i : Nat), (y = r ∨ y ∈ F) → Rc (nx T) c 0 y → i ≤ c → Inks c w → run (nx T) (nx T y i) w ∈ L → run (nx T) (nx T y i) w ∈ F := fun w => by
      induction w with
      | nil => exact fun y i hy _ hi _ hx => B.cl y hy (by simp) i hi (decide_eq_true hx)
      | cons j w ih =>
        intro y i hy ry hi hw hx
        have ry2 : Rc (nx T) c 0 (nx T y i) := .snoc hi ry
        have hin : nx T y i ∈ L := (hL _).mpr ⟨ry2, by
          obtain ⟨_, q, hq, hg⟩ := (hL _).mp hx
          exact ⟨q, Rc.trans ⟨j :: w, hw, rfl⟩ hq, hg⟩⟩
        exact ih _ j (.inr (B.cl y hy (by simp) i hi (decide_eq_true hin))) ry2 hw.head hw.tail hx
    exact go w r i (.inl rfl) ((hL r).mp hr).1 hi hw hx
  · obtain ⟨hq, B', hlt⟩ := B.turn ok.t hrl fun x hx i hi ho => ⟨of_decide_eq_true ho, by
      rcases hx with rfl | hx
      · exact .one hi
      · exact hx.2.right (.one hi)⟩
    have hrl := (row_of ok.t hq).1
    have hc := ok.c2
    have lF := B.len
    simp only [List.length_append, List.length_cons, List.length_nil] at hm
    have oe := okEq_nats (S ++ [q])
    simp only [List.map_append, List.map_cons, List.map_nil] at oe
    simp [oe]
    refine ⟨a.Machine, _, rfl, rfl, _, mch_table, ?_⟩
    unfold tblD
    rw [show intD q = D.int (q : Int) from rfl]
    simp [at_row hq]
    refine ⟨_, rfl, bfo_for (fr := fun F S s => [.im (mchD a c T g), .im (setD L), .im (intD r), .ok (dkN trD F), .ol (S.map intD), s]) (fun x => decide (x ∈ L)) F S s5 (fun x hx F' S' s' M l1 l2 hM => ?_) fun s' => ?_⟩
    · unfold bst at hM
      simp [setD]
      by_cases eL : x ∈ L
      · by_cases e : x ∈ F'
        · simp [e, eL] at hM ⊢
          exact hM _
        · simp [e, eL] at hM ⊢
          refine setIxK rfl ?_
          simp [dkN_length, e]
          exact ⟨by rw [sizeLine_eq]; omega, by rw [sizeLine_eq]; omega, hM _⟩
      · simp [eL] at hM ⊢
        exact hM _
    · simp at hlt ⊢
      refine mn _ _ ?_ ⟨_, _, _, rfl, B', rfl, by omega⟩
      simp; exact hlt
theorem lv_lt {c : Nat} {T : List (List Nat)} (ok : OkT T c) {x : Nat} (h : Rc (nx T) c 0 x) : x < T.length := by
  obtain ⟨w, hw, e⟩ := h
  subst e
  have go : ∀ (w : List Nat) (y : Nat), y < T.length → Inks c w → run (nx T) y w < T.length := fun w => by
    induction w with
    | nil => exact fun y hy _ => hy
    | cons i w ih => exact fun y hy hw => ih _ (nx_lt ok hy hw.head) hw.tail
  exact go w 0 ok.l1 hw
theorem run_goals_from (a : Ad) (ds : List D) (Q : D → Prop) (E : EX) (h : sp_goals_from a ds Q E) : ds.length = 3 ∧ sem_goals_from a { nx := fun _ => Q .non, rt := Q } (startD N_goals_from.length ds) E := by
  obtain ⟨c, T, g, L, r, rfl, ok, hL, hr, hq⟩ := h
  refine ⟨rfl, ?_⟩
  have z1 : 1 ≤ sizeLine := by rw [sizeLine_eq]; omega
  unfold sem_goals_from
  refine seqN fun M m hrt _ _ => ?_
  simp [z1]
  refine .inl ⟨_, _, ⟨rfl, rfl⟩, m _ ?_⟩
  refine seqN fun M1 m1 _ _ _ => ?_
  refine goals_loop ok hL hr (lv_lt ok.t ((hL r).mp hr).1) fun F s5 hF hR => m1 _ ?_
  simp
  exact hq F hF hR
theorem run_back_goals (a : Ad) (ds : List D) (Q : D → Prop) (E : EX) (h : sp_back_goals a ds Q E) : ds.length = 3 ∧ sem_back_goals a { nx := fun _ => Q .non, rt := Q } (startD N_back_goals.length ds) E := by
  obtain ⟨c, T, g, L, Ws, r, rfl, W, hr, hq⟩ := h
  refine ⟨rfl, ?_⟩
  have hrl := lv_lt W.ok.t ((W.lv r).mp hr).1
  have hl := (row_of W.ok.t hrl).1
  have hc := W.ok.c2
  unfold sem_back_goals
  simp
  refine ⟨a.Machine, _, rfl, rfl, _, mch_table, ?_⟩
  unfold tblD
  rw [show intD r = D.int (r : Int) from rfl]
  simp [at_row hrl]
  refine ⟨_, rfl, lc_map (fun x => if x ∈ L ∧ r ∈ Ws x then some (intD x) else none) [.im (mchD a c T g), .im (waysD L Ws), .im (intD r), .un] rfl (by rw [sizeLine_eq]; omega) (fun x hx R hR => ?_) ?_⟩
  · simp [waysD]
    by_cases e : x ∈ L
    · simp [e, val_in, setD] at hR ⊢
      by_cases e2 : r ∈ Ws x
      · simp [e2] at hR ⊢; exact hR
      · simp [e2] at hR ⊢; exact hR
    · simp [e] at hR ⊢
      exact hR
  · simp
    have e : ∀ l : List Nat, l.filterMap (fun x => if x ∈ L ∧ r ∈ Ws x then some (intD x) else none) = (l.filter fun x => decide (x ∈ L) && decide (r ∈ Ws x)).map intD := fun l => by
      induction l with
      | nil => rfl
      | cons y l ih =>
        by_cases e1 : y ∈ L ∧ r ∈ Ws y
        · simp [List.filterMap_cons, List.filter_cons, e1, ih]
        · rw [List.filterMap_cons, if_neg e1, List.filter_cons, if_neg (by simpa using e1), ih]
    rw [e]
    exact hq
end DL
-- P73b
set_option Elab.async false
set_option linter.all false
set_option maxRecDepth 100000
set_option maxHeartbeats 2000000
set_option autoImplicit false
namespace DL
open PySem PySem.Spec L2
open PyProof.Rows hiding St
/-! ### rings one behind another, plain -/
section
variable {f : Nat → Nat → Nat} {c : Nat} {g : Nat → Bool}
theorem Lv.fwd {r s : Nat} (h : Lv f c g r) (k : Rc f c r s) (q : ∃ q, Rc f c s q ∧ g q = true) : Lv f c g s := ⟨h.1.trans k, q⟩
theorem Lv.mid {r s : Nat} (h : Rc f c 0 r) (k : Rc f c r s) (q : Lv f c g s) : Lv f c g r := ⟨h, by obtain ⟨_, q, h1, h2⟩ := q; exact ⟨q, k.trans h1, h2⟩⟩
theorem chl_tail : ∀ {x : Nat} {cs : List Nat}, ChL f c g (x :: cs) → ChL f c g cs
  | _, [], _ => trivial
  | _, _ :: _, h => h.2.2.2.2
theorem chl_head : ∀ {x : Nat} {cs : List Nat}, ChL f c g (x :: cs) → Lv f c g x ∧ Pt f c x x
  | _, [], h => h
  | _, _ :: _, h => ⟨h.1, h.2.1⟩
theorem chf_zero {r : Nat} : ChF f c g r 0 := ⟨[], rfl, trivial, fun x h => by cases h⟩
theorem chf_from {a b k : Nat} (h : Rc f c a b) (q : ChF f c g b k) : ChF f c g a k := by
  obtain ⟨cs, h1, h2, h3⟩ := q
  exact ⟨cs, h1, h2, fun x hx => h.trans (h3 x hx)⟩
theorem chf_one {r : Nat} (h : Lv f c g r) (k : Pt f c r r) : ChF f c g r 1 := ⟨[r], rfl, ⟨h, k⟩, fun x hx => by cases hx; exact .refl⟩
theorem chf_more {r i k : Nat} (h : Lv f c g r) (hr : Pt f c r r) (hi : i ≤ c) (hn : ¬ Rc f c (f r i) r) (q : ChF f c g (f r i) k) : ChF f c g r (k + 1) := by
  obtain ⟨cs, h1, h2, h3⟩ := q
  refine ⟨r :: cs, by simp [h1], ?_, fun x hx => by cases hx; exact .refl⟩
  cases cs with
  | nil => exact ⟨h, hr⟩
  | cons y cs =>
    have := h3 y rfl
    exact ⟨h, hr, .step hi this, fun z => hn (this.trans z), h2⟩
theorem chf_down {r k : Nat} (q : ChF f c g r (k + 1)) : ChF f c g r k := by
  obtain ⟨cs, h1, h2, h3⟩ := q
  cases cs with
  | nil => cases h1
  | cons x cs =>
    refine ⟨cs, by simpa using h1, chl_tail h2, fun y hy => ?_⟩
    cases cs with
    | nil => cases hy
    | cons z cs =>
      cases hy
      exact (h3 x rfl).trans h2.2.2.1
theorem chf_le {r k j : Nat} (q : ChF f c g r k) (h : j ≤ k) : ChF f c g r j := by
  induction k with
  | zero => obtain rfl : j = 0 := by omega
            exact q
  | succ k ih =>
    by_cases e : j = k + 1
    · subst e; exact q
    · exact ih (chf_down q) (by omega)
theorem chl_back : ∀ {x : Nat} {cs : List Nat}, ChL f c g (x :: cs) → ∀ y ∈ cs, Rc f c x y ∧ ¬ Rc f c y x
  | _, [], _, y, hy => by cases hy
  | x, z :: cs, h, y, hy => by
    obtain ⟨_, _, h1, h2, h3⟩ := h
    rcases List.mem_cons.mp hy with rfl | hy
    · exact ⟨h1, h2⟩
    · obtain ⟨a, b⟩ := chl_back h3 y hy
      exact ⟨h1.trans a, fun w => b (w.trans h1)⟩
theorem chl_nodup : ∀ {cs : List Nat}, ChL f c g cs → cs.Nodup
  | [], _ => List.nodup_nil
  | x :: cs, h => List.nodup_cons.mpr ⟨fun hx => (chl_back h x hx).2 .refl, chl_nodup (chl_tail h)⟩
theorem chl_lv : ∀ {cs : List Nat}, ChL f c g cs → ∀ x ∈ cs, Lv f c g x
  | _ :: _, h, y, hy => by
    rcases List.mem_cons.mp hy with rfl | hy
    · exact (chl_head h).1
    · exact chl_lv (chl_tail h) y hy
theorem chf_bound {r k n : Nat} (hn : ∀ x, Lv f c g x → x < n) (q : ChF f c g r k) : k ≤ n := by
  obtain ⟨cs, rfl, h2, _⟩ := q
  have := List.Nodup.length_le_of_subset (l₂ := List.range n) (chl_nodup h2) fun x hx => List.mem_range.mpr (hn x (chl_lv h2 x hx))
  simpa using this
/-- numbers that no step raises are as great as the rings are many -/
theorem rank_top {F : Nat → Nat} (h1 : ∀ r, Lv f c g r → Pt f c r r → 1 ≤ F r) (h2 : ∀ r i, Lv f c g r → i ≤ c → Lv f c g (f r i) → F (f r i) ≤ F r) (h3 : ∀ r i, Lv f c g r → i ≤ c → Lv f c g (f r i) → Pt f c r r → ¬ Pt f c (f r i) r → F (f r i) + 1 ≤ F r) :
    ∀ r k, Lv f c g r → ChF f c g r k → k ≤ F r := by
  have mono : ∀ (w : List Nat) (r : Nat), Inks c w → Rc f c 0 r → Lv f c g (run f r w) → F (run f r w) ≤ F r := fun w => by
    induction w with
    | nil => exact fun r _ _ _ => Nat.le_refl _
    | cons i w ih =>
      intro r hw hr hl
      have l1 : Lv f c g (f r i) := Lv.mid (.snoc hw.head hr) ⟨w, hw.tail, rfl⟩ hl
      exact Nat.le_trans (ih (f r i) hw.tail l1.1 hl) (h2 r i (Lv.mid hr (.one hw.head) l1) hw.head l1)
  have mono2 : ∀ r s, Rc f c 0 r → Rc f c r s → Lv f c g s → F s ≤ F r := fun r s hr ⟨w, hw, e⟩ hl => by subst e; exact mono w r hw hr hl
  have jump : ∀ (w : List Nat) (x z : Nat), Inks c w → Lv f c g x → Pt f c x x → Rc f c x z → Rc f c z x → Lv f c g (run f z w) → ¬ Rc f c (run f z w) x → F (run f z w) + 1 ≤ F x := fun w => by
    induction w with
    | nil => exact fun x z _ _ _ _ h _ hn => absurd h hn
    | cons i w ih =>
      intro x z hw hx hp hxz hzx hl hn
      have lz : Lv f c g z := Lv.mid (hx.1.trans hxz) hzx hx
      have l1 : Lv f c g (f z i) := Lv.mid (.snoc hw.head lz.1) ⟨w, hw.tail, rfl⟩ hl
      by_cases e : Rc f c (f z i) x
      · exact ih x (f z i) hw.tail hx hp (.snoc hw.head hxz) e hl hn
      · have pz : Pt f c z z := Pt.left hzx (hp.right hxz)
        have a := h3 z i lz hw.head l1 pz (fun q => e (q.rc.trans hzx))
        have b := mono w (f z i) hw.tail l1.1 hl
        have d := mono2 x z hx.1 hxz lz
        rw [run_cons]
        omega
  have up : ∀ (cs : List Nat) (x : Nat), ChL f c g (x :: cs) → cs.length + 1 ≤ F x := fun cs => by
    induction cs with
    | nil => exact fun x h => h1 x h.1 h.2
    | cons y cs ih =>
      intro x h
      obtain ⟨a, b, ⟨w, hw, e⟩, d, h⟩ := h
      subst e
      have := jump w x x hw a b .refl .refl (chl_head h).1 d
      have := ih _ h
      simp only [List.length_cons]
      omega
  intro r k hr ⟨cs, e, h, hh⟩
  cases cs with
  | nil => simp at e; omega
  | cons x cs =>
    have := up cs x h
    have := mono2 r x hr.1 (hh x rfl) (chl_head h).1
    simp at e
    omega
/-! ### how they grow is one thing -/
theorem grow_one {u v : Gr} (h : GrowP f c g u) (k : GrowP f c g v) : u = v := by
  have ring : ∀ {d}, ChF f c g 0 (d + 1) → ∃ r, Lv f c g r ∧ Pt f c r r := fun {d} q => by
    obtain ⟨cs, e, h, _⟩ := q
    cases cs with
    | nil => cases e
    | cons x cs => exact ⟨x, chl_head h⟩
  have dring : ∀ {r}, Dbl f c r → Pt f c r r := fun {r} ⟨i, j, h1, h2, h3, _⟩ => ⟨i, by omega, h3⟩
  cases u with
  | non =>
    cases v with
    | non => rfl
    | dbl => exact absurd k.1 h
    | ends m => exact absurd k.1 h
    | pow d => exact absurd k.1 h
  | dbl =>
    obtain ⟨h0, r, h1, h2⟩ := h
    cases v with
    | non => exact absurd h0 k
    | dbl => rfl
    | ends m => exact absurd (dring h2) (k.2.1 r h1)
    | pow d => exact absurd h2 (k.2.1 r h1)
  | ends m =>
    obtain ⟨h0, h1, h2, h3⟩ := h
    cases v with
    | non => exact absurd h0 k
    | dbl => obtain ⟨_, r, k1, k2⟩ := k; exact absurd (dring k2) (h1 r k1)
    | ends n => rw [Nat.le_antisymm (k.2.2.2 _ h2) (h3 _ k.2.2.1)]
    | pow d => obtain ⟨r, k1, k2⟩ := ring k.2.2.1; exact absurd k2 (h1 r k1)
  | pow d =>
    obtain ⟨h0, h1, h2, h3⟩ := h
    cases v with
    | non => exact absurd h0 k
    | dbl => obtain ⟨_, r, k1, k2⟩ := k; exact absurd k2 (h1 r k1)
    | ends n => obtain ⟨r, k1, k2⟩ := ring h2; exact absurd k2 (k.2.1 r k1)
    | pow e =>
      have a : ¬ e + 2 ≤ d + 1 := fun z => k.2.2.2 (chf_le h2 z)
      have b : ¬ d + 2 ≤ e + 1 := fun z => h3 (chf_le k.2.2.1 z)
      rw [show d = e by omega]
end
end DL
-- K73f
set_option Elab.async false
set_option linter.all false
set_option maxRecDepth 100000
set_option maxHeartbeats 2000000
set_option autoImplicit false
namespace DL
open PySem PySem.Spec L2
open PyProof.Rows hiding St
theorem val_dkS {f : Nat → D} {x : Nat} {L : List Nat} : val (dkN f L) (Sum.inl (x : Int)) = if x ∈ L then some (f x) else none := val_dkN f x L
@[simp] theorem sIntB {b : Bool} {Q : Sl → Prop} : rdInt [.bl b] Q = Q (.im (.int (if b then 1 else 0))) := rfl
theorem dc_map {own : List Nat} {g : DTG} {tk tv : DTE} {xs : List Nat} {Δ1 : List Sl} {Q : Sl → List Sl → Prop} (P : Nat → D → Prop) (Γ : List Sl) (hΓ : wipeD Δ1 own = Γ) (hl : xs.length ≤ sizeLine) (nd : xs.Nodup)
    (h : ∀ x ∈ xs, ∀ R : Key → D → List Sl → Prop, (∀ d, P x d → R (ky x) d Γ) → g (intD x) Γ fun Δ3 => dYes Δ3 (fun b Δ4 => if b = true then tk Δ4 (fun kd Δ5 => tv Δ5 (fun v Δ6 => ∃ y, kd.key = some y ∧ R y v (wipeD Δ6 own)) noE) noE else False) noE)
    (hq : ∀ v : Nat → D, (∀ x ∈ xs, P x (v x)) → Q (.ok (dkN v xs)) Γ) : dDCk own g dYes tk tv (xs.map intD) Δ1 Q := by
  refine ⟨fun i acc Δ => Δ = Γ ∧ ∃ v : Nat → D, acc = dkN v (xs.take i) ∧ ∀ x ∈ xs.take i, P x (v x), ⟨hΓ, fun _ => .non, by simp [dkN], fun x hx => by simp at hx⟩, ?_, ?_⟩
  · rintro i d acc Δ2 hi ⟨rfl, v, rfl, hv⟩
    rw [List.getElem?_map] at hi
    cases ex : xs[i]? with
    | none => rw [ex] at hi; cases hi
    | some x =>
      rw [ex] at hi
      cases hi
      have hlt : i < xs.length := (List.getElem?_eq_some_iff.mp ex).1
      have hx : x ∉ xs.take i := fun hm => by
        obtain ⟨j, hj, e⟩ := List.getElem_of_mem hm
        rw [List.length_take] at hj
        rw [List.getElem_take] at e
        have e2 : xs[i] = x := (List.getElem?_eq_some_iff.mp ex).2
        have := (List.getElem_inj nd).mp (e.trans e2.symm)
        omega
      refine h x (List.mem_of_getElem? ex) (fun y d Δ => (dkN v (xs.take i)).length < sizeLine ∧ Δ = Δ2 ∧ ∃ v', put (dkN v (xs.take i)) y d = dkN v' (xs.take (i + 1)) ∧ ∀ x ∈ xs.take (i + 1), P x (v' x)) fun d hd => ⟨by rw [dkN_length, List.length_take]; omega, rfl, fun r => if r = x then d else v r, ?_, fun z hz => ?_⟩
      · rw [put_dkN, if_neg hx, List.take_add_one, ex]; rfl
      · rw [List.take_add_one, ex] at hz
        rcases List.mem_append.mp hz with hz | hz
        · show P z (if z = x then d else v z)
          rw [if_neg (fun w : z = x => hx (w ▸ hz))]; exact hv z hz
        · simp at hz; subst hz
          show P z (if z = z then d else v z)
          rw [if_pos rfl]; exact hd
  · rintro acc Δ2 ⟨rfl, v, rfl, hv⟩
    rw [List.length_map, List.take_of_length_le (Nat.le_refl _)] at *
    exact hq v hv
/-- one more ring, where a cell leads out of one -/
def moR (Ws : Nat → List Nat) (r x : Nat) : Nat := if r ∈ Ws r ∧ r ∉ Ws x then 1 else 0
def numD (F : Nat → Nat) : Nat → D := fun r => intD (F r)
def upF (F : Nat → Nat) (r v : Nat) : Nat → Nat := fun z => if z = r then v else F z
theorem numD_up {F : Nat → Nat} {r v : Nat} {L : List Nat} (h : r ∈ L) : put (dkN (numD F) L) (Sum.inl (r : Int)) (intD v) = dkN (numD (upF F r v)) L := by
  rw [put_old h]
  refine dkN_congr fun z _ => ?_
  unfold numD upF
  split <;> rfl
def lack (L : List Nat) (F : Nat → Nat) : Nat := (L.map fun r => 61 - F r).sum
theorem lack_up {F : Nat → Nat} {r v : Nat} : ∀ {L : List Nat}, r ∈ L → F r < v → v ≤ 61 → lack L (upF F r v) < lack L F
  | y :: L, h, h1, h2 => by
    have le : ∀ L : List Nat, lack L (upF F r v) ≤ lack L F := fun L => by
      induction L with
      | nil => exact Nat.le_refl _
      | cons z L ih =>
        unfold lack upF at ih ⊢
        simp only [List.map_cons, List.sum_cons]
        split
        · rename_i e; subst e; omega
        · omega
    have l1 := le L
    by_cases e : y = r
    · subst e
      unfold lack at l1 ⊢
      simp only [List.map_cons, List.sum_cons]
      have : upF F y v y = v := if_pos rfl
      rw [this]; omega
    · have hm : r ∈ L := (List.mem_cons.mp h).resolve_left fun z => e z.symm
      have := lack_up hm h1 h2
      unfold lack at this ⊢
      simp only [List.map_cons, List.sum_cons]
      have e2 : upF F r v y = F y := if_neg e
      rw [e2]; omega
section
variable {a : Ad} {c : Nat} {T : List (List Nat)} {g : List Bool} {L : List Nat} {Ws : Nat → List Nat}
theorem Ways.lt (W : Ways c T g L Ws) {r : Nat} (h : r ∈ L) : r < T.length := lv_lt W.ok.t ((W.lv r).mp h).1
theorem Ways.pt (W : Ways c T g L Ws) {r s : Nat} (hr : r ∈ L) (hs : s ∈ L) : s ∈ Ws r ↔ PtM c T r s := (W.ws r hr s).trans ⟨fun h => h.2, fun h => ⟨hs, h⟩⟩
theorem Ways.len (W : Ways c T g L Ws) : L.length ≤ 60 := by
  have := List.Nodup.length_le_of_subset (l₂ := List.range T.length) W.nd fun x hx => List.mem_range.mpr (W.lt hx)
  have h2 := W.ok.t.l2
  simp at this; omega
structure RInv (c : Nat) (T : List (List Nat)) (g : List Bool) (L : List Nat) (F : Nat → Nat) : Prop where
  ch : ∀ r ∈ L, ChF (nx T) c (gdb g) r (F r)
  one : ∀ r ∈ L, PtM c T r r → 1 ≤ F r
theorem RInv.le (W : Ways c T g L Ws) {F : Nat → Nat} (I : RInv c T g L F) {r : Nat} (h : r ∈ L) : F r ≤ 60 := by
  have := chf_bound (n := T.length) (fun x hx => W.lt ((W.lv x).mpr hx)) (I.ch r h)
  have := W.ok.t.l2
  omega
theorem RInv.up (W : Ways c T g L Ws) {F : Nat → Nat} (I : RInv c T g L F) {r x : Nat} (hr : r ∈ L) (hx : x ∈ L) (hm : x ∈ rowAt T r) (hlt : F r < F x + moR Ws r x) : RInv c T g L (upF F r (F x + moR Ws r x)) := by
  obtain ⟨i, hi, e⟩ := mem_nx W.ok.t (W.lt hr) hm
  refine ⟨fun z hz => ?_, fun z hz hp => ?_⟩
  · unfold upF
    split
    · rename_i ez
      subst ez
      unfold moR
      split
      · rename_i hc
        refine chf_more ((W.lv z).mp hr) ((W.pt hr hr).mp hc.1) hi (fun q => ?_) (by rw [e]; exact I.ch x hx)
        rw [e] at q
        refine hc.2 ((W.pt hx hr).mpr ?_)
        rcases q.cases with q | q
        · subst q; exact (W.pt hr hr).mp hc.1
        · exact q
      · exact chf_from (.step hi (by rw [e]; exact .refl)) (I.ch x hx)
    · exact I.ch z hz
  · unfold upF
    split
    · omega
    · exact I.one z hz hp
def Sat (T : List (List Nat)) (L : List Nat) (Ws : Nat → List Nat) (F : Nat → Nat) (r x : Nat) : Prop := x ∈ L → F x + moR Ws r x ≤ F r
theorem rank_done (W : Ways c T g L Ws) {F : Nat → Nat} (I : RInv c T g L F) (h : ∀ r ∈ L, ∀ x ∈ rowAt T r, Sat T L Ws F r x) : ∀ r ∈ L, ChF (nx T) c (gdb g) r (F r) ∧ ¬ ChF (nx T) c (gdb g) r (F r + 1) := fun r hr => ⟨I.ch r hr, fun q => by
  have := rank_top (f := nx T) (c := c) (g := gdb g) (F := F) (fun r hl hp => I.one r ((W.lv r).mpr hl) hp) (fun r i hl hi hl2 => by
    have hr := (W.lv r).mpr hl
    have := h r hr _ (nx_mem W.ok.t (W.lt hr) hi) ((W.lv _).mpr hl2)
    omega) (fun r i hl hi hl2 hp hn => by
    have hr := (W.lv r).mpr hl
    have hx := (W.lv _).mpr hl2
    have := h r hr _ (nx_mem W.ok.t (W.lt hr) hi) hx
    unfold moR at this
    rw [if_pos ⟨(W.pt hr hr).mpr hp, fun z => hn ((W.pt hx hr).mp z)⟩] at this
    exact this) r _ ((W.lv r).mp hr) q
  omega⟩
end
abbrev ringS : DTS := (dIfS (dCmpT rdIn (dB 5) (dB 1))
  (dSeq (dSet 6 (dClean (dBlt rdInt (dConsO (dO (dAndV (dCmpE rdIn (dB 4) (dO (dIx (dB 1) (dB 4)))) (dCmpE rdNotIn (dB 4) (dO (dIx (dB 1) (dB 5)))))) dNilO))))
  (dIfS (dCmpT rdGt (dO (dClean (dOpM rdAdd (dO (dIx (dB 2) (dB 5))) (dB 6)))) (dO (dIx (dB 2) (dB 4))))
  (dAsg (dTup (dCons (dClean (dOpM rdAdd (dO (dIx (dB 2) (dB 5))) (dB 6))) (dCons (dC (.bl true)) dNil))) (dgTup 2 (dgCons (dgSub 2 (dVar 4)) (dgCons (dgName 3) dgNil))))
  dNext))
  dNext)
abbrev ringB (a : Ad) : DTS := (dSeq (dSet 3 (dC (.bl false)))
  (dFor (dSeqI (dVar 1)) (dgName 4)
  (dFor (dSeqI (dIx (dO (dFld (fun C => C = a.Machine) "table" (dB 0))) (dB 4))) (dgName 5)
  ringS)))
theorem ring_step {N : DEnds} {E : EX} {s0 s6 : Sl} {L : List Nat} {Ws : Nat → List Nat} {F : Nat → Nat} {b : Bool} {r x : Nat} (hr : r ∈ L) (hl : L.length ≤ 60)
    (h : ∀ s6 F' b', ((x ∈ L ∧ F r < F x + moR Ws r x ∧ F' = upF F r (F x + moR Ws r x) ∧ b' = true) ∨ ((x ∈ L → F x + moR Ws r x ≤ F r) ∧ F' = F ∧ b' = b)) → N.nx [s0, .im (waysD L Ws), .ok (dkN (numD F') L), .im (.bl b'), .im (intD r), .im (intD x), s6]) :
    ringS N [s0, .im (waysD L Ws), .ok (dkN (numD F) L), .im (.bl b), .im (intD r), .im (intD x), s6] E := by
  have z2 : 2 ≤ sizeLine := by rw [sizeLine_eq]; omega
  refine ifN (b := decide (x ∈ L)) (fun Q q => ?_) (fun hx => ?_) fun hx => h s6 F b (.inr ⟨fun z => absurd z (of_decide_eq_false hx), rfl, rfl⟩)
  · simp [waysD]; exact q
  · have hx := of_decide_eq_true hx
    refine seqN fun M m _ _ _ => ?_
    have hm : ∀ s6, s6 = Sl.im (intD (moR Ws r x)) → M.nx [s0, .im (waysD L Ws), .ok (dkN (numD F) L), .im (.bl b), .im (intD r), .im (intD x), s6] := fun s6 e => by
      subst e
      refine m _ (ifN (b := decide (F r < F x + moR Ws r x)) (fun Q q => ?_) (fun hlt => ?_) fun hlt => h _ F b (.inr ⟨fun _ => Nat.le_of_not_lt (of_decide_eq_false hlt), rfl, rfl⟩))
      · simp [val_in hr, val_in hx, numD, intD]
        have e : decide ((F r : Int) < (F x : Int) + (moR Ws r x : Int)) = decide (F r < F x + moR Ws r x) := decide_eq_decide.mpr (by omega)
        rw [e]; exact q
      · simp [val_in hx, numD, intD, z2]
        refine ⟨_, _, ⟨rfl, rfl⟩, ?_⟩
        have hp := numD_up (F := F) (v := F x + moR Ws r x) hr
        have e : (intD (F x + moR Ws r x)) = D.int ((F x : Int) + (moR Ws r x : Int)) := by unfold intD; rw [Int.natCast_add]
        rw [e] at hp
        refine ⟨by rw [dkN_length, sizeLine_eq]; omega, _, _, rfl, rfl, ?_⟩
        rw [hp]
        exact h _ _ _ (.inl ⟨hx, of_decide_eq_true hlt, rfl, rfl⟩)
    simp [waysD, val_in hr, val_in hx, setD, val_dkS]
    by_cases h1 : r ∈ Ws r
    · by_cases h2 : r ∈ Ws x
      · simp [h1, h2]
        refine hm _ ?_
        simp [moR, h1, h2, intD]
      · simp [h1, h2]
        refine hm _ ?_
        simp [moR, h1, h2, intD]
    · simp [h1]
      refine hm _ ?_
      simp [moR, h1, intD]
theorem ring_loop {a : Ad} {c : Nat} {T : List (List Nat)} {g : List Bool} {L : List Nat} {Ws : Nat → List Nat} {N : DEnds} {E : EX} {s4 s5 s6 : Sl} {F : Nat → Nat} (W : Ways c T g L Ws) (I : RInv c T g L F)
    (h : ∀ (F : Nat → Nat) (s3 s4 s5 s6 : Sl), (∀ r ∈ L, ChF (nx T) c (gdb g) r (F r) ∧ ¬ ChF (nx T) c (gdb g) r (F r + 1)) → N.nx [.im (mchD a c T g), .im (waysD L Ws), .ok (dkN (numD F) L), s3, s4, s5, s6]) :
    dWhile (dTst (dVar 3)) (ringB a) N [.im (mchD a c T g), .im (waysD L Ws), .ok (dkN (numD F) L), .im (.bl true), s4, s5, s6] E := by
  have hl := W.len
  refine whileN (fun m Δ => ∃ F b s4 s5 s6, Δ = [.im (mchD a c T g), .im (waysD L Ws), .ok (dkN (numD F) L), .im (.bl b), s4, s5, s6] ∧ RInv c T g L F ∧ (b = false → ∀ r ∈ L, ∀ x ∈ rowAt T r, Sat T L Ws F r x) ∧ m = lack L F + (if b then 1 else 0)) ⟨F, true, s4, s5, s6, rfl, I, fun z => (by cases z), rfl⟩ ?_
  rintro m Δ ⟨F, b, s4, s5, s6, rfl, I, hb, rfl⟩ M mn _ _ _
  cases b with
  | false =>
    simp
    exact h F _ _ _ _ (rank_done W I (hb rfl))
  | true =>
    simp
    refine ⟨L.map intD, items_dkN, ?_⟩
    refine forN (fun i Δ => ∃ F' b s4 s5 s6, Δ = [.im (mchD a c T g), .im (waysD L Ws), .ok (dkN (numD F') L), .im (.bl b), s4, s5, s6] ∧ RInv c T g L F' ∧ (b = true → lack L F' < lack L F) ∧ (b = false → F' = F ∧ ∀ j, j < i → ∀ r, L[j]? = some r → ∀ x ∈ rowAt T r, Sat T L Ws F r x)) ⟨F, false, s4, s5, s6, rfl, I, fun z => (by cases z), fun _ => ⟨rfl, fun j hj => by omega⟩⟩ ?_ ?_
    · rintro i r Δ hi ⟨F', b, s4, s5, s6, rfl, I', hb1, hb2⟩ M' mn' _ _ _
      have hr := List.mem_of_getElem? hi
      simp
      refine ⟨a.Machine, _, rfl, rfl, _, mch_table, ?_⟩
      unfold tblD
      rw [show intD r = D.int (r : Int) from rfl]
      simp [at_row (W.lt hr)]
      refine ⟨_, rfl, forN (fun k Δ => ∃ F' b s5 s6, Δ = [.im (mchD a c T g), .im (waysD L Ws), .ok (dkN (numD F') L), .im (.bl b), .im (intD r), s5, s6] ∧ RInv c T g L F' ∧ (b = true → lack L F' < lack L F) ∧ (b = false → F' = F ∧ (∀ j, j < i → ∀ r, L[j]? = some r → ∀ x ∈ rowAt T r, Sat T L Ws F r x) ∧ ∀ j, j < k → ∀ x, (rowAt T r)[j]? = some x → Sat T L Ws F r x)) ⟨F', b, s5, s6, rfl, I', hb1, fun z => ⟨(hb2 z).1, (hb2 z).2, fun j hj => by omega⟩⟩ ?_ ?_⟩
      · rintro k x Δ hk ⟨F', b, s5, s6, rfl, I', hb1, hb2⟩ M2 mn2 _ _ _
        have hxm := List.mem_of_getElem? hk
        show ringS _ [.im (mchD a c T g), .im (waysD L Ws), .ok (dkN (numD F') L), .im (.bl b), .im (intD r), .im (intD x), s6] E
        refine ring_step hr hl fun s6' F2 b2 hh => mn2 _ ?_
        rcases hh with ⟨hx, hlt, rfl, rfl⟩ | ⟨hs, rfl, rfl⟩
        · have up := I'.up W hr hx hxm hlt
          have le : lack L F' ≤ lack L F := by
            cases b with
            | true => exact Nat.le_of_lt (hb1 rfl)
            | false => rw [(hb2 rfl).1]; exact Nat.le_refl _
          have le60 := up.le W hr
          rw [show upF F' r (F' x + moR Ws r x) r = F' x + moR Ws r x from if_pos rfl] at le60
          exact ⟨_, true, _, _, rfl, up, fun _ => Nat.lt_of_lt_of_le (lack_up hr hlt (by omega)) le, fun z => by cases z⟩
        · refine ⟨_, b2, _, _, rfl, I', hb1, fun z => ⟨(hb2 z).1, (hb2 z).2.1, fun j hj y hy => ?_⟩⟩
          by_cases hji : j < k
          · exact (hb2 z).2.2 j hji y hy
          · obtain rfl : j = k := by omega
            rw [hk] at hy; cases hy
            rw [← (hb2 z).1]; exact hs
      · rintro Δ ⟨F', b, s5, s6, rfl, I', hb1, hb2⟩
        refine mn' _ ⟨F', b, _, _, _, rfl, I', hb1, fun z => ⟨(hb2 z).1, fun j hj y hy x hx => ?_⟩⟩
        by_cases hji : j < i
        · exact (hb2 z).2.1 j hji y hy x hx
        · obtain rfl : j = i := by omega
          rw [hi] at hy; cases hy
          obtain ⟨k, hk, e⟩ := List.getElem_of_mem hx
          exact (hb2 z).2.2 k hk x (by rw [List.getElem?_eq_getElem hk, e])
    · rintro Δ ⟨F', b, s4, s5, s6, rfl, I', hb1, hb2⟩
      refine mn _ _ ?_ ⟨F', b, _, _, _, rfl, I', fun z r hr x hx => ?_, rfl⟩
      · cases b with
        | true => have := hb1 rfl; simp; omega
        | false => rw [(hb2 rfl).1]; simp
      · obtain ⟨e, h3⟩ := hb2 z
        obtain ⟨j, hj, e2⟩ := List.getElem_of_mem hr
        rw [e]
        exact h3 j hj r (by rw [List.getElem?_eq_getElem hj, e2]) x hx
theorem run_rings_from (a : Ad) (ds : List D) (Q : D → Prop) (E : EX) (h : sp_rings_from a ds Q E) : ds.length = 2 ∧ sem_rings_from a { nx := fun _ => Q .non, rt := Q } (startD N_rings_from.length ds) E := by
  obtain ⟨c, T, g, L, Ws, rfl, W, hq⟩ := h
  refine ⟨rfl, ?_⟩
  have hl := W.len
  unfold sem_rings_from
  refine seqN fun M m hrt _ _ => ?_
  simp
  refine ⟨L.map intD, items_dkN, ?_⟩
  refine dc_map (fun r d => d = intD (if r ∈ Ws r then 1 else 0)) [.im (mchD a c T g), .im (waysD L Ws), .un, .un, .un, .un, .un] rfl (by rw [sizeLine_eq]; omega) W.nd (fun r hr R hR => ?_) fun v hv => ?_
  · simp [waysD, val_in hr, setD, val_dkS]
    by_cases e : r ∈ Ws r
    · simp [e]; exact hR _ (by simp [e, intD])
    · simp [e]; exact hR _ (by simp [e, intD])
  · refine ⟨_, _, ⟨rfl, rfl⟩, by simp, by simp, m _ ?_⟩
    refine seqN fun M1 m1 _ _ _ => ?_
    have e : dkN v L = dkN (numD fun r => if r ∈ Ws r then 1 else 0) L := dkN_congr hv
    simp
    rw [e]
    refine ring_loop W ⟨fun r hr => ?_, fun r hr hp => ?_⟩ fun F s3 s4 s5 s6 hF => m1 _ ?_
    · split
      · rename_i z; exact chf_one ((W.lv r).mp hr) ((W.pt hr hr).mp z)
      · exact chf_zero
    · rw [if_pos ((W.pt hr hr).mpr hp)]; exact Nat.le_refl _
    · simp
      exact hq F hF
end DL
-- P73c
set_option Elab.async false
set_option linter.all false
set_option maxRecDepth 100000
set_option maxHeartbeats 2000000
set_option autoImplicit false
namespace DL
open PySem PySem.Spec L2
open PyProof.Rows hiding St
/-! ### where no room leads back to itself -/
def Lay (f : Nat → Nat → Nat) (c : Nat) (g : Nat → Bool) (k x : Nat) : Prop := ∃ w, Inks c w ∧ w.length = k ∧ run f 0 w = x ∧ Lv f c g x
section
variable {f : Nat → Nat → Nat} {c : Nat} {g : Nat → Bool}
def trail (f : Nat → Nat → Nat) : Nat → List Nat → List Nat
  | r, [] => [r]
  | r, i :: w => r :: trail f (f r i) w
theorem trail_len : ∀ (w : List Nat) (r : Nat), (trail f r w).length = w.length + 1
  | [], _ => rfl
  | _ :: w, r => by show (trail f _ w).length + 1 = _; rw [trail_len w]; rfl
theorem trail_mem : ∀ {w : List Nat} {r x : Nat}, Inks c w → x ∈ trail f r w → Rc f c r x ∧ Rc f c x (run f r w)
  | [], r, x, _, h => by
    have : x = r := by simpa [trail] using h
    subst this; exact ⟨.refl, .refl⟩
  | i :: w, r, x, hw, h => by
    rcases List.mem_cons.mp h with rfl | h
    · exact ⟨.refl, ⟨i :: w, hw, rfl⟩⟩
    · obtain ⟨a, b⟩ := trail_mem hw.tail h
      exact ⟨.step hw.head a, b⟩
theorem trail_nodup (hn : ∀ r, Lv f c g r → ¬ Pt f c r r) : ∀ {w : List Nat} {r : Nat}, Inks c w → Rc f c 0 r → Lv f c g (run f r w) → (trail f r w).Nodup
  | [], r, _, _, _ => by simp [trail]
  | i :: w, r, hw, hr, hl => by
    refine List.nodup_cons.mpr ⟨fun hm => ?_, trail_nodup hn hw.tail (.snoc hw.head hr) hl⟩
    obtain ⟨a, b⟩ := trail_mem hw.tail hm
    exact hn r (Lv.mid hr b hl) ⟨i, hw.head, a⟩
theorem lay_lt {n k x : Nat} (hl : ∀ x, Lv f c g x → x < n) (hn : ∀ r, Lv f c g r → ¬ Pt f c r r) (h : Lay f c g k x) : k < n := by
  obtain ⟨w, hw, rfl, rfl, hx⟩ := h
  have := List.Nodup.length_le_of_subset (l₂ := List.range n) (trail_nodup hn hw .refl hx) fun y hy => by
    obtain ⟨a, b⟩ := trail_mem hw hy
    exact List.mem_range.mpr (hl y (Lv.mid a b hx))
  rw [trail_len, List.length_range] at this
  omega
theorem lay_pre {v w : List Nat} (hw : Inks c (v ++ w)) (hg : g (run f 0 (v ++ w)) = true) : Lay f c g v.length (run f 0 v) := ⟨v, hw.left, rfl, rfl, ⟨v, hw.left, rfl⟩, run f 0 (v ++ w), ⟨w, hw.right, run_append.symm⟩, hg⟩
theorem lay_end {k : Nat} (h1 : ∃ x, Lay f c g k x) (h2 : ∀ x, ¬ Lay f c g (k + 1) x) : Acc f c g k ∧ ∀ j, Acc f c g j → j ≤ k := by
  have up : ∀ j, Acc f c g j → j ≤ k := fun j ⟨w, hw, hl, hg⟩ => by
    by_cases h : j ≤ k
    · exact h
    · have e : w = w.take (k + 1) ++ w.drop (k + 1) := (List.take_append_drop _ _).symm
      rw [e] at hw hg
      have := lay_pre hw hg
      rw [List.length_take, Nat.min_eq_left (by omega)] at this
      exact absurd this (h2 _)
  refine ⟨?_, up⟩
  obtain ⟨x, w, hw, hl, hx, _, q, ⟨u, hu, e⟩, hg⟩ := h1
  have hwu : Inks c (w ++ u) := hw.append hu
  have e2 : run f 0 (w ++ u) = q := by rw [run_append, hx, e]
  have := up _ ⟨w ++ u, hwu, rfl, by rw [e2]; exact hg⟩
  rw [List.length_append] at this
  have hu0 : u = [] := List.length_eq_zero_iff.mp (by omega)
  subst hu0
  exact ⟨w, hw, hl, by rw [hx, show x = q from e]; exact hg⟩
theorem lay_next {k y : Nat} : Lay f c g (k + 1) y ↔ Lv f c g y ∧ ∃ x i, Lay f c g k x ∧ i ≤ c ∧ f x i = y := by
  constructor
  · rintro ⟨w, hw, hl, e, hy⟩
    refine ⟨hy, ?_⟩
    rcases List.eq_nil_or_concat w with rfl | ⟨v, i, rfl⟩
    · simp at hl
    · rw [List.concat_eq_append] at hw hl e
      have hi : i ≤ c := hw i (by simp)
      rw [run_append] at e
      refine ⟨run f 0 v, i, ⟨v, hw.left, by simpa using hl, rfl, ?_⟩, hi, e⟩
      exact Lv.mid ⟨v, hw.left, rfl⟩ ⟨[i], .cons hi .nil, e⟩ hy
  · rintro ⟨hy, x, i, ⟨w, hw, hl, e, hx⟩, hi, rfl⟩
    exact ⟨w ++ [i], hw.append (.cons hi .nil), by simp [hl], by rw [run_append, e]; rfl, hy⟩
end
end DL
-- K73g
set_option Elab.async false
set_option linter.all false
set_option maxRecDepth 100000
set_option maxHeartbeats 2000000
set_option autoImplicit false
namespace DL
open PySem PySem.Spec L2
open PyProof.Rows hiding St
theorem ints_nats : ∀ (ns : List Int), (∀ n ∈ ns, 0 ≤ n) → ns = (ns.map Int.toNat).map Int.ofNat
  | [], _ => rfl
  | n :: ns, h => by
    rw [List.map_cons, List.map_cons, ← ints_nats ns fun k hk => h k (List.mem_cons_of_mem _ hk)]
    rw [show Int.ofNat n.toNat = n from Int.toNat_of_nonneg (h n List.mem_cons_self)]
theorem few_below {n : Nat} (hn : n < 64) {ns : List Int} (h : ∀ k ∈ ns, 0 ≤ k ∧ k < n) : Few ns := fun l nd hl => by
  have e : ∀ k ∈ l, k ∈ (List.range n).map Int.ofNat := fun k hk => by
    obtain ⟨a, b⟩ := h k (hl k hk)
    exact List.mem_map.mpr ⟨k.toNat, List.mem_range.mpr (by omega), Int.toNat_of_nonneg a⟩
  have := List.Nodup.length_le_of_subset nd e
  rw [List.length_map, List.length_range] at this
  omega
/-- a sorted lot of rooms: nothing twice -/
theorem sorted_nats {ns' : List Int} {gs : List Nat} (h1 : ns'.Pairwise (· < ·)) (h2 : ∀ k, k ∈ ns' ↔ k ∈ gs.map Int.ofNat) : ∃ l : List Nat, ns'.map D.int = l.map intD ∧ l.Nodup ∧ ∀ k, k ∈ l ↔ k ∈ gs := by
  have nn : ∀ k ∈ ns', 0 ≤ k := fun k hk => by
    obtain ⟨m, _, rfl⟩ := List.mem_map.mp ((h2 k).mp hk)
    exact Int.natCast_nonneg _
  have e1 := ints_nats ns' nn
  refine ⟨ns'.map Int.toNat, ?_, ?_, fun k => ?_⟩
  · conv => lhs; rw [e1]
    rw [List.map_map]; rfl
  · refine List.pairwise_map.mpr (h1.imp_of_mem fun {a b} ha hb hab => ?_)
    have := nn a ha; have := nn b hb; omega
  · rw [List.mem_map]
    constructor
    · rintro ⟨z, hz, rfl⟩
      obtain ⟨m, hm, rfl⟩ := List.mem_map.mp ((h2 z).mp hz)
      exact hm
    · intro hk
      exact ⟨(k : Int), (h2 _).mpr (List.mem_map.mpr ⟨k, hk, rfl⟩), Int.toNat_natCast k⟩
theorem sum_take {α : Type} (B : α → Nat) : ∀ (ds : List α) (i : Nat) (d : α), ds[i]? = some d → ((ds.take i).map B).sum + B d ≤ (ds.map B).sum
  | [], i, d, h => by simp at h
  | x :: xs, 0, d, h => by simp at h; subst h; simp
  | x :: xs, i + 1, d, h => by
    have ih := sum_take B xs i d (by simpa using h)
    simp only [List.take_succ_cons, List.map_cons, List.sum_cons]
    omega
theorem flatMap_le {α β : Type} (F : α → List β) (B : α → Nat) : ∀ (ds : List α), (∀ d ∈ ds, (F d).length ≤ B d) → (ds.flatMap F).length ≤ (ds.map B).sum
  | [], _ => by simp
  | x :: xs, h => by
    have ih := flatMap_le F B xs fun d hd => h d (List.mem_cons_of_mem _ hd)
    have := h x List.mem_cons_self
    simp only [List.flatMap_cons, List.length_append, List.map_cons, List.sum_cons]
    omega
theorem lc2_pureB {own own1 : List Nat} {g g1 : DTG} {tt tt1 : DTT} {ti1 : DTI} {te : DTE} {ds : List D} {Δ1 : List Sl} {Q : Sl → List Sl → Prop} (F : D → List D) (B : D → Nat) (Γ : List Sl) (hΓ : wipeD Δ1 own = Γ) (hB : ∀ d ∈ ds, (F d).length ≤ B d) (hl : (ds.map B).sum ≤ sizeLine)
    (h : ∀ d ∈ ds, ∀ (acc : List D) (R : List D → List Sl → Prop), acc.length + B d ≤ sizeLine → R (acc ++ F d) Γ → g d Γ fun Δ3 => tt Δ3 (fun b Δ4 => if b = true then ti1 Δ4 (fun es Δ5 => dLCi own1 g1 tt1 te es Δ5 acc fun acc1 Δ6 => R acc1 (wipeD Δ6 own)) noE else R acc (wipeD Δ4 own)) noE)
    (hq : Q (.ol (ds.flatMap F)) Γ) : dLC2k own own1 g tt ti1 g1 tt1 te ds Δ1 Q := by
  refine ⟨fun i a Δ => Δ = Γ ∧ a = (ds.take i).flatMap F, ⟨hΓ, by simp⟩, ?_, ?_⟩
  · rintro i d a Δ2 hi ⟨rfl, rfl⟩
    have key := take_flatMap F ds i d hi
    refine h d (List.mem_of_getElem? hi) _ (fun a' Δ => Δ = Δ2 ∧ a' = (ds.take (i + 1)).flatMap F) ?_ ⟨rfl, key.symm⟩
    have a1 := flatMap_le F B (ds.take i) fun d hd => hB d (List.mem_of_mem_take hd)
    have a2 := sum_take B ds i d hi
    omega
  · rintro a Δ2 ⟨rfl, rfl⟩
    rw [List.take_of_length_le (Nat.le_refl _)]
    exact hq
def nextL (T : List (List Nat)) (L C : List Nat) : List Nat := C.flatMap fun r => (rowAt T r).filter fun x => decide (x ∈ L)
theorem layer_lc {a : Ad} {c : Nat} {T : List (List Nat)} {g : List Bool} {L C : List Nat} {s3 s4 s5 : Sl} {Q : Sl → List Sl → Prop} (ok : OkM c T g) (hC : ∀ r ∈ C, r < T.length) (hC6 : C.length ≤ 60)
    (h : Q (.ol ((nextL T L C).map intD)) [.im (mchD a c T g), .im (setD L), .im (.lst (C.map intD)), s3, .un, .un]) :
    dLC2k [4, 5] [5] (dgName 4) dYes (dSeqI (dIx (dO (dFld (fun C => C = a.Machine) "table" (dB 0))) (dB 4))) (dgName 5) (dCmpT rdIn (dB 5) (dB 1)) (dVar 5) (C.map intD) [.im (mchD a c T g), .im (setD L), .im (.lst (C.map intD)), s3, s4, s5] Q := by
  have h2 := ok.t.l2
  have hc4 := ok.c2
  have hF : ∀ C' : List Nat, (C'.map intD).flatMap (fun d => match d with | .int n => ((rowAt T n.toNat).filter fun x => decide (x ∈ L)).map intD | _ => []) = (nextL T L C').map intD := fun C' => by
    induction C' with
    | nil => rfl
    | cons r C' ih => unfold nextL at ih ⊢; rw [List.map_cons, List.flatMap_cons, ih, List.flatMap_cons, List.map_append]; rfl
  have hs : ∀ C' : List Nat, ((C'.map intD).map fun _ => 5).sum = C'.length * 5 := fun C' => by
    induction C' with
    | nil => rfl
    | cons r C' ih => simp only [List.map_cons, List.sum_cons, List.length_cons] at ih ⊢; rw [ih]; omega
  refine lc2_pureB (fun d => match d with | .int n => ((rowAt T n.toNat).filter fun x => decide (x ∈ L)).map intD | _ => []) (fun _ => 5) [Sl.im (mchD a c T g), .im (setD L), .im (.lst (C.map intD)), s3, .un, .un] rfl (fun d hd => by
    obtain ⟨r, hr, rfl⟩ := List.mem_map.mp hd
    have l1 := (row_of ok.t (hC r hr)).1
    have l2 := List.length_filter_le (fun x => decide (x ∈ L)) (rowAt T r)
    show (((rowAt T (Int.toNat (r : Int))).filter fun x => decide (x ∈ L)).map intD).length ≤ 5
    rw [Int.toNat_natCast, List.length_map]
    omega) (by rw [hs, sizeLine_eq]; omega) (fun d hd acc R hacc hR => ?_) ?_
  · obtain ⟨r, hr, rfl⟩ := List.mem_map.mp hd
    have hrl := hC r hr
    have l1 := (row_of ok.t hrl).1
    have hF1 : (match intD r with | .int n => ((rowAt T n.toNat).filter fun x => decide (x ∈ L)).map intD | _ => []) = ((rowAt T r).filter fun x => decide (x ∈ L)).map intD := by
      show ((rowAt T (Int.toNat (r : Int))).filter fun x => decide (x ∈ L)).map intD = _
      rw [Int.toNat_natCast]
    rw [hF1] at hR
    have key : ∀ l : List Nat, (l.map intD).filterMap (fun d => match d with | .int n => if n.toNat ∈ L then some d else none | _ => none) = (l.filter fun x => decide (x ∈ L)).map intD := fun l => by
      induction l with
      | nil => rfl
      | cons y l ih =>
        rw [List.map_cons, List.filterMap_cons, List.filter_cons]
        have e : (match intD y with | .int n => if n.toNat ∈ L then some (intD y) else none | _ => none) = if y ∈ L then some (intD y) else none := by
          show (if Int.toNat (y : Int) ∈ L then some (intD y) else none) = _
          rw [Int.toNat_natCast]
        rw [e, ih]
        by_cases hy : y ∈ L
        · simp [hy]
        · simp [hy]
    show dSeqI (dIx (dO (dFld (fun C => C = a.Machine) "table" (dB 0))) (dB 4)) [Sl.im (mchD a c T g), .im (setD L), .im (.lst (C.map intD)), s3, Sl.im (intD r), Sl.un] (fun es Δ5 => dLCi [5] (dgName 5) (dCmpT rdIn (dB 5) (dB 1)) (dVar 5) es Δ5 acc fun acc1 Δ6 => R acc1 (wipeD Δ6 [4, 5])) noE
    simp
    refine ⟨a.Machine, _, rfl, rfl, _, mch_table, ?_⟩
    unfold tblD
    rw [show intD r = D.int (r : Int) from rfl]
    simp [at_row hrl]
    refine ⟨_, rfl, lci_pure (fun d => match d with | .int n => if n.toNat ∈ L then some d else none | _ => none) _ rfl (by rw [List.length_map]; omega) (fun d hd R hR => ?_) ?_⟩
    · obtain ⟨x, hx, rfl⟩ := List.mem_map.mp hd
      simp [setD]
      have e : (match intD x with | .int n => if n.toNat ∈ L then some (intD x) else none | _ => none) = if x ∈ L then some (intD x) else none := by
        show (if Int.toNat (x : Int) ∈ L then some (intD x) else none) = _
        rw [Int.toNat_natCast]
      rw [e] at hR
      by_cases hx2 : x ∈ L
      · rw [if_pos hx2] at hR ⊢; exact hR
      · rw [if_neg hx2] at hR ⊢; exact hR
    · rw [key]
      simpa using hR
  · rw [hF]
    exact h
theorem mem_next {c : Nat} {T : List (List Nat)} {L C : List Nat} {x : Nat} (ok : OkT T c) (hC : ∀ r ∈ C, r < T.length) : x ∈ nextL T L C ↔ x ∈ L ∧ ∃ r i, r ∈ C ∧ i ≤ c ∧ nx T r i = x := by
  unfold nextL
  rw [List.mem_flatMap]
  constructor
  · rintro ⟨r, hr, hx⟩
    rw [List.mem_filter, decide_eq_true_eq] at hx
    obtain ⟨i, hi, e⟩ := mem_nx ok (hC r hr) hx.1
    exact ⟨hx.2, r, i, hr, hi, e⟩
  · rintro ⟨hx, r, i, hr, hi, rfl⟩
    exact ⟨r, hr, by rw [List.mem_filter, decide_eq_true_eq]; exact ⟨nx_mem ok (hC r hr) hi, hx⟩⟩
theorem run_longest (a : Ad) (ds : List D) (Q : D → Prop) (E : EX) (h : sp_longest a ds Q E) : ds.length = 2 ∧ sem_longest a { nx := fun _ => Q .non, rt := Q } (startD N_longest.length ds) E := by
  obtain ⟨c, T, g, L, rfl, ok, hL, h0, hn, hq⟩ := h
  refine ⟨rfl, ?_⟩
  have z1 : 1 ≤ sizeLine := by rw [sizeLine_eq]; omega
  have h2 := ok.t.l2
  have hlt : ∀ x, LvM c T g x → x < T.length := fun x hx => lv_lt ok.t hx.1
  unfold sem_longest
  refine seqN fun M m hrt _ _ => ?_
  simp [z1]
  refine ⟨_, _, ⟨rfl, rfl⟩, m _ ?_⟩
  refine seqN fun M1 m1 _ _ _ => ?_
  refine whileN (fun m Δ => ∃ (k size : Nat) (C : List Nat) (s2 s4 s5 : Sl), Δ = [.im (mchD a c T g), .im (setD L), s2, .im (intD size), s4, s5] ∧ s2.er = some (.lst (C.map intD)) ∧ C.Nodup ∧ (∀ x, x ∈ C ↔ Lay (nx T) c (gdb g) k x) ∧
    ((C ≠ [] ∧ size = k ∧ m = 61 - k) ∨ (C = [] ∧ k = size + 1 ∧ (∃ x, Lay (nx T) c (gdb g) size x)))) (m0 := 61) ⟨0, 0, [0], _, _, _, rfl, rfl, by simp, fun x => ?_, .inl ⟨by simp, rfl, rfl⟩⟩ ?_
  · constructor
    · intro hx
      obtain rfl : x = 0 := by simpa using hx
      exact ⟨[], .nil, rfl, rfl, (hL 0).mp h0⟩
    · rintro ⟨w, _, hw, e, _⟩
      obtain rfl : w = [] := List.length_eq_zero_iff.mp hw
      have : x = 0 := e.symm
      simp [this]
  · rintro m Δ ⟨k, size, C, s2, s4, s5, rfl, hs2, hC, hlay, hh⟩ M mn _ _ _
    rcases hh with ⟨hne, rfl, rfl⟩ | ⟨rfl, rfl, hx⟩
    · have hCl : ∀ r ∈ C, r < T.length := fun r hr => by
        obtain ⟨_, _, _, _, hl⟩ := (hlay r).mp hr
        exact hlt r hl
      have hC6 : C.length ≤ 60 := by
        have := List.Nodup.length_le_of_subset (l₂ := List.range T.length) hC fun x hx => List.mem_range.mpr (hCl x hx)
        simp at this; omega
      have hk : size < T.length := by
        obtain ⟨x, hx⟩ := List.exists_mem_of_ne_nil C hne
        exact lay_lt hlt hn ((hlay x).mp hx)
      simp [hs2, hne]
      refine layer_lc ok hCl hC6 ?_
      have hnl : (nextL T L C).length ≤ 300 := by
        have hc4 := ok.c2
        have : ∀ C' : List Nat, (∀ r ∈ C', r < T.length) → (nextL T L C').length ≤ C'.length * 5 := fun C' => by
          induction C' with
          | nil => intro _; simp [nextL]
          | cons r C' ih =>
            intro hc
            have l1 := (row_of ok.t (hc r List.mem_cons_self)).1
            have l2 := List.length_filter_le (fun x => decide (x ∈ L)) (rowAt T r)
            have l3 := ih fun k hk => hc k (List.mem_cons_of_mem _ hk)
            unfold nextL at l3 ⊢
            rw [List.flatMap_cons, List.length_append, List.length_cons, Nat.add_mul]
            omega
        have := this C hCl
        omega
      simp
      refine ⟨(nextL T L C).map Int.ofNat, by rw [List.map_map]; rfl, by rw [List.length_map]; unfold scanBound; omega, ?_, fun ns' e1 e2 => ?_⟩
      · refine few_below (n := T.length) (by omega) fun k hk => ?_
        obtain ⟨x, hx, rfl⟩ := List.mem_map.mp hk
        have hxl := hlt x ((hL x).mp ((mem_next ok.t hCl).mp hx).1)
        exact ⟨Int.natCast_nonneg _, Int.ofNat_lt.mpr hxl⟩
      · obtain ⟨C', e3, nd', mem'⟩ := sorted_nats e1 e2
        have lay' : ∀ x, x ∈ C' ↔ Lay (nx T) c (gdb g) (size + 1) x := fun x => by
          rw [mem', mem_next ok.t hCl, lay_next, hL x]
          exact ⟨fun ⟨p, r, i, q1, q2, q3⟩ => ⟨p, r, i, (hlay r).mp q1, q2, q3⟩, fun ⟨p, r, i, q1, q2, q3⟩ => ⟨p, r, i, (hlay r).mpr q1, q2, q3⟩⟩
        rw [e3]
        simp
        by_cases hc' : C' = []
        · subst hc'
          simp [intD]
          refine mn 0 _ (by omega) ⟨size + 1, size, [], _, _, _, rfl, rfl, nd', lay', .inr ⟨rfl, rfl, ?_⟩⟩
          obtain ⟨x, hx⟩ := List.exists_mem_of_ne_nil C hne
          exact ⟨x, (hlay x).mp hx⟩
        · simp [intD, hc']
          exact mn (61 - (size + 1)) _ (by omega) ⟨size + 1, size + 1, C', _, _, _, rfl, rfl, nd', lay', .inl ⟨hc', rfl, rfl⟩⟩
    · simp [hs2]
      refine m1 _ ?_
      simp
      have nl : ∀ x, ¬ Lay (nx T) c (gdb g) (size + 1) x := fun x hx => by
        have := (hlay x).mpr hx
        simp at this
      obtain ⟨e1, e2⟩ := lay_end hx nl
      obtain ⟨x, hx⟩ := hx
      have := lay_lt hlt hn hx
      exact hq size e1 e2 (by omega)
end DL
-- K73h
set_option Elab.async false
set_option linter.all false
set_option maxRecDepth 100000
set_option maxHeartbeats 2000000
set_option autoImplicit false
namespace DL
open PySem PySem.Spec L2
open PyProof.Rows hiding St
theorem filter_two {p : Nat → Bool} : ∀ {l : List Nat}, 1 < (l.filter p).length ↔ ∃ i j, i < j ∧ j < l.length ∧ p (l.getD i 0) = true ∧ p (l.getD j 0) = true
  | [] => by simp
  | x :: l => by
    have ih := filter_two (p := p) (l := l)
    have one : 0 < (l.filter p).length ↔ ∃ j, j < l.length ∧ p (l.getD j 0) = true := by
      rw [List.length_pos_iff_exists_mem]
      constructor
      · rintro ⟨y, hy⟩
        rw [List.mem_filter] at hy
        obtain ⟨j, hj, e⟩ := List.getElem_of_mem hy.1
        exact ⟨j, hj, by rw [List.getD_eq_getElem?_getD, List.getElem?_eq_getElem hj]; simp [e, hy.2]⟩
      · rintro ⟨j, hj, h⟩
        rw [List.getD_eq_getElem?_getD, List.getElem?_eq_getElem hj] at h
        exact ⟨l[j], List.mem_filter.mpr ⟨List.getElem_mem hj, h⟩⟩
    rw [List.filter_cons]
    by_cases hx : p x = true
    · rw [if_pos hx, List.length_cons]
      constructor
      · intro h
        obtain ⟨j, hj, hp⟩ := one.mp (by omega)
        exact ⟨0, j + 1, by omega, by simpa using hj, by simpa using hx, by simpa using hp⟩
      · rintro ⟨i, j, h1, h2, h3, h4⟩
        have : 0 < (l.filter p).length := one.mpr ⟨j - 1, by simp at h2; omega, by
          cases j with
          | zero => omega
          | succ j => simpa using h4⟩
        omega
    · rw [if_neg hx, ih]
      constructor
      · rintro ⟨i, j, h1, h2, h3, h4⟩
        exact ⟨i + 1, j + 1, by omega, by simpa using h2, by simpa using h3, by simpa using h4⟩
      · rintro ⟨i, j, h1, h2, h3, h4⟩
        cases i with
        | zero => exact absurd (by simpa using h3) hx
        | succ i =>
          cases j with
          | zero => omega
          | succ j => exact ⟨i, j, by omega, by simpa using h2, by simpa using h3, by simpa using h4⟩
theorem backs_two {c : Nat} {T : List (List Nat)} {g : List Bool} {L : List Nat} {Ws : Nat → List Nat} (W : Ways c T g L Ws) {r : Nat} (hr : r ∈ L) : 1 < (backs T L Ws r).length ↔ Dbl (nx T) c r := by
  unfold backs
  rw [filter_two, (row_of W.ok.t (W.lt hr)).1]
  have key : ∀ i, i ≤ c → ((decide ((rowAt T r).getD i 0 ∈ L) && decide (r ∈ Ws ((rowAt T r).getD i 0))) = true ↔ Rc (nx T) c (nx T r i) r) := fun i hi => by
    rw [Bool.and_eq_true, decide_eq_true_eq, decide_eq_true_eq]
    show (nx T r i ∈ L ∧ r ∈ Ws (nx T r i)) ↔ _
    constructor
    · rintro ⟨h1, h2⟩
      exact ((W.pt h1 hr).mp h2).rc
    · intro h
      have hx : nx T r i ∈ L := (W.lv _).mpr (Lv.mid (.snoc hi ((W.lv r).mp hr).1) h ((W.lv r).mp hr))
      refine ⟨hx, (W.pt hx hr).mpr ?_⟩
      rcases h.cases with e | e
      · have : Pt (nx T) c r r := ⟨i, hi, by rw [e]; exact .refl⟩
        rw [e]; exact this
      · exact e
  constructor
  · rintro ⟨i, j, h1, h2, h3, h4⟩
    exact ⟨i, j, h1, by omega, (key i (by omega)).mp h3, (key j (by omega)).mp h4⟩
  · rintro ⟨i, j, h1, h2, h3, h4⟩
    exact ⟨i, j, h1, by omega, (key i (by omega)).mpr h3, (key j h2).mpr h4⟩
/-- a comprehension that may lock names on its way -/
theorem lc_mapP {α : Type} {f : α → D} {own : List Nat} {g : DTG} {tt : DTT} {te : DTE} {xs : List α} {Δ1 : List Sl} {Q : Sl → List Sl → Prop} (F : α → Option D) (P : List Sl → Prop) (hΓ : P (wipeD Δ1 own)) (hl : xs.length ≤ sizeLine)
    (h : ∀ x ∈ xs, ∀ Γ, P Γ → ∀ R : Option D → List Sl → Prop, (∀ Γ', P Γ' → R (F x) Γ') → g (f x) Γ fun Δ3 => tt Δ3 (fun b Δ4 => if b = true then te Δ4 (fun e Δ5 => R (some e) (wipeD Δ5 own)) noE else R none (wipeD Δ4 own)) noE)
    (hq : ∀ Γ, P Γ → Q (.ol (xs.filterMap F)) Γ) : dLCk own g tt te (xs.map f) Δ1 Q := by
  refine ⟨fun i acc Δ => P Δ ∧ acc = (xs.take i).filterMap F, ⟨hΓ, by simp⟩, ?_, ?_⟩
  · rintro i d acc Δ2 hi ⟨hP, rfl⟩
    rw [List.getElem?_map] at hi
    cases ex : xs[i]? with
    | none => rw [ex] at hi; cases hi
    | some x =>
      rw [ex] at hi
      cases hi
      have hlt : i < xs.length := (List.getElem?_eq_some_iff.mp ex).1
      have hacc : ((xs.take i).filterMap F).length < sizeLine := by
        have a1 := List.length_filterMap_le F (xs.take i)
        rw [List.length_take] at a1
        omega
      have key := take_filterMap F xs i x ex
      refine h x (List.mem_of_getElem? ex) Δ2 hP (fun o Δ => match o with | some e => ((xs.take i).filterMap F).length < sizeLine ∧ (P Δ ∧ (xs.take i).filterMap F ++ [e] = (xs.take (i + 1)).filterMap F) | none => P Δ ∧ (xs.take i).filterMap F = (xs.take (i + 1)).filterMap F) fun Γ' hP' => ?_
      cases e : F x with
      | none => rw [e] at key; exact ⟨hP', by rw [key]; simp⟩
      | some z => rw [e] at key; exact ⟨hacc, hP', by rw [key]; simp⟩
  · rintro acc Δ2 ⟨hP, rfl⟩
    rw [List.length_map, List.take_of_length_le (Nat.le_refl _)]
    exact hq _ hP
theorem run_growth (a : Ad) (ds : List D) (Q : D → Prop) (E : EX) (h : sp_growth a ds Q E) : ds.length = 1 ∧ sem_growth a { nx := fun _ => Q .non, rt := Q } (startD N_growth.length ds) E := by
  obtain ⟨c, T, g, rfl, ok, hq⟩ := h
  refine ⟨rfl, ?_⟩
  have z1 : 1 ≤ sizeLine := by rw [sizeLine_eq]; omega
  have z2 : 2 ≤ sizeLine := by rw [sizeLine_eq]; omega
  have h2 := ok.t.l2
  unfold sem_growth
  refine seqN fun M m hrt _ _ => ?_
  simp
  refine ⟨c, T, g, rfl, ok, fun L nd hL => m _ ?_⟩
  have hlt : ∀ x ∈ L, x < T.length := fun x hx => lv_lt ok.t ((hL x).mp hx).1
  have hl : L.length ≤ 60 := by
    have := List.Nodup.length_le_of_subset (l₂ := List.range T.length) nd fun x hx => List.mem_range.mpr (hlt x hx)
    simp at this; omega
  refine seqN fun M1 m1 hrt1 _ _ => ?_
  refine ifN (b := !decide (0 ∈ L)) (fun QQ q => ?_) (fun h0 => ?_) fun h0 => m1 _ ?_
  · have e := isSome_dkN (f := trD) (x := 0) (L := L)
    simp [setD]
    have e2 : (val (dkN trD L) (Sum.inl (0 : Int))).isNone = !decide (0 ∈ L) := by
      have : (val (dkN trD L) (Sum.inl (0 : Int))).isSome = decide (0 ∈ L) := e
      rw [← this, Option.not_isSome]
    first | exact e2 ▸ q | (rw [show (val (dkN (fun _ => D.bl true) L) (Sum.inl (0 : Int))).isNone = !decide (0 ∈ L) from e2]; exact q)
  · simp [z1, hrt1]
    have h0' : 0 ∉ L := by simpa using h0
    exact hq .non (fun z => h0' ((hL 0).mpr z)) (Nat.zero_le _)
  · have h0' : 0 ∈ L := by simpa using h0
    refine seqN fun M2 m2 hrt2 _ _ => ?_
    simp
    refine dc_map (fun r d => ∃ W : List Nat, d = setD W ∧ W.Nodup ∧ ∀ s, s ∈ W ↔ s ∈ L ∧ PtM c T r s) [.im (mchD a c T g), .im (setD L), .un, .un, .un] rfl (by rw [sizeLine_eq]; omega) nd (fun r hr R hR => ?_) fun v hv => ?_
    · simp
      exact ⟨c, T, g, L, r, rfl, ok, hL, hr, fun W hW hWs => hR _ ⟨W, rfl, hW, hWs⟩⟩
    · have hch : ∀ r, ∃ W : List Nat, r ∈ L → v r = setD W ∧ W.Nodup ∧ ∀ s, s ∈ W ↔ s ∈ L ∧ PtM c T r s := fun r => by
        by_cases hr : r ∈ L
        · obtain ⟨W, h1, h2, h3⟩ := hv r hr
          exact ⟨W, fun _ => ⟨h1, h2, h3⟩⟩
        · exact ⟨[], fun z => absurd z hr⟩
      have ⟨Ws, hWs⟩ := Classical.axiomOfChoice hch
      have W : Ways c T g L Ws := ⟨ok, hL, nd, fun r hr => (hWs r hr).2.2⟩
      have ev : D.dk (dkN v L) = waysD L Ws := by
        unfold waysD
        rw [dkN_congr fun r hr => (hWs r hr).1]
      have ev2 : dkN v L = dkN (fun r => setD (Ws r)) L := dkN_congr fun r hr => (hWs r hr).1
      refine ⟨by simp, m2 _ ?_⟩
      refine seqN fun M3 m3 hrt3 _ _ => ?_
      have gr : ∀ v, GrowM c T g v → v.val ≤ 60 → Q (grD v) := hq
      have anyF : ∀ (l : List Nat) (p : Nat → Bool), (l.map p).any id = l.any p := fun l p => by simp [List.any_map]
      show dIfS _ _ _ _ [.im (mchD a c T g), .im (setD L), .ok (dkN v L), .un, .un] E
      simp only [sDIfS]
      simp
      refine lc_mapP (fun r => some (.bl (decide (1 < (backs T L Ws r).length)))) (fun Γ => ∃ s2, Γ = [.im (mchD a c T g), .im (setD L), s2, .un, .un] ∧ s2.er = some (waysD L Ws)) ⟨_, rfl, by rw [← ev]; rfl⟩ (by rw [sizeLine_eq]; omega) (fun r hr Γ hΓ R hR => ?_) fun Γ hΓ => ?_
      · obtain ⟨s2, rfl, hs2⟩ := hΓ
        simp [hs2]
        refine ⟨c, T, g, L, Ws, r, rfl, W, hr, ?_⟩
        simp
        have e : decide ((1 : Int) < ((backs T L Ws r).length : Int)) = decide (1 < (backs T L Ws r).length) := decide_eq_decide.mpr (by omega)
        try rw [e]
        exact hR _ ⟨_, rfl, rfl⟩
      · obtain ⟨s2, rfl, hs2⟩ := hΓ
        rw [filterMap_some_map]
        simp
        refine ⟨L.map fun r => decide (1 < (backs T L Ws r).length), by simp, ?_⟩
        by_cases hd : ∃ r ∈ L, Dbl (nx T) c r
        · obtain ⟨r, hr, hd⟩ := hd
          have e : (true ∈ L.map fun r => decide (1 < (backs T L Ws r).length)) := List.mem_map.mpr ⟨r, hr, decide_eq_true ((backs_two W hr).mpr hd)⟩
          simp [e, z1, hrt3]
          exact hq .dbl ⟨(hL 0).mp h0', r, (hL r).mp hr, hd⟩ (Nat.zero_le _)
        · have e : ¬ (true ∈ L.map fun r => decide (1 < (backs T L Ws r).length)) := fun z => by
            obtain ⟨r, hr, h1⟩ := List.mem_map.mp z
            exact hd ⟨r, hr, (backs_two W hr).mp (of_decide_eq_true h1)⟩
          have hnd : ∀ r, LvM c T g r → ¬ Dbl (nx T) c r := fun r hr z => hd ⟨r, (hL r).mpr hr, z⟩
          simp [e]
          refine m3 _ ?_
          refine seqN fun M4 m4 hrt4 _ _ => ?_
          simp [hs2]
          refine ⟨c, T, g, L, Ws, rfl, W, fun F hF => ?_⟩
          have hv0 : val (dkN (fun r => intD (F r)) L) (Sum.inl (0 : Int)) = some (intD (F 0)) := val_in (x := 0) h0'
          simp [hv0]
          refine m4 _ ?_
          have hF0 := hF 0 h0'
          have hle : F 0 ≤ T.length := chf_bound (n := T.length) (fun x hx => hlt x ((hL x).mpr hx)) hF0.1
          simp [intD, z2]
          cases ek : F 0 with
          | zero =>
            rw [ek] at hF0
            simp
            have nr : ∀ r, LvM c T g r → ¬ PtM c T r r := fun r hr hp => hF0.2 (chf_from hr.1 (chf_one hr hp))
            exact ⟨c, T, g, L, rfl, ok, hL, h0', nr, fun k e1 e2 e3 => hq (.ends k) ⟨(hL 0).mp h0', nr, e1, e2⟩ e3⟩
          | succ d =>
            rw [ek] at hF0
            have e3 : ¬ ((d : Int) + 1 = 0) := by omega
            simp [e3]
            have e4 : ((d : Int) + 1 - 1) = (d : Int) := by omega
            try rw [e4]
            exact hq (.pow d) ⟨(hL 0).mp h0', hnd, hF0.1, hF0.2⟩ (show d ≤ 60 by omega)
end DL
-- K73j
set_option Elab.async false
set_option linter.all false
set_option maxRecDepth 100000
set_option maxHeartbeats 2000000
set_option autoImplicit false
namespace DL
open PySem PySem.Spec L2
open PyProof.Rows hiding St
@[simp] theorem sCallF {i : Nat} {b : Clo → SpD} {ta : DTA} {Δ : List Sl} {Q : D → List Sl → Prop} {E : EX} : dCallF i b ta Δ Q E = ∃ clo, Δ[i]? = some (.im (.fn clo)) ∧ ta Δ (fun ds Δ1 => b clo ds (fun d => Q d Δ1) E) E := rfl
theorem idx_app {ss A : List Nat} {x : Nat} (h : x ∈ ss) : (ss ++ A).idxOf x = ss.idxOf x := by
  rw [List.idxOf_append, if_pos h]
theorem idx_new {ss : List Nat} {x : Nat} (h : x ∉ ss) : (ss ++ [x]).idxOf x = ss.length := by
  rw [List.idxOf_append, if_neg h]
  simp
def idD (ss : List Nat) : Nat → D := fun s => intD (ss.idxOf s)
theorem idD_put {ss : List Nat} {x : Nat} (h : x ∉ ss) : put (dkN (idD ss) ss) (Sum.inl (x : Int)) (intD ss.length) = dkN (idD (ss ++ [x])) (ss ++ [x]) := by
  rw [put_dkN, if_neg h]
  refine dkN_congr fun r hr => ?_
  unfold idD
  rcases List.mem_append.mp hr with hr | hr
  · rw [if_neg (fun z : r = x => h (z ▸ hr)), idx_app hr]
  · simp at hr
    subst hr
    rw [if_pos rfl, idx_new h]
def exRow (f : Nat → Nat → Nat) (ss : List Nat) (n s : Nat) : List Nat := (List.range n).map fun i => ss.idxOf (f s i)
def exRows (f : Nat → Nat → Nat) (c : Nat) (ss : List Nat) (n : Nat) : List (List Nat) := (ss.take n).map fun s => exRow f ss (c + 1) s
structure EInv (S : List Nat) (f : Nat → Nat → Nat) (c first : Nat) (ss : List Nat) (n : Nat) : Prop where
  nd : ss.Nodup
  hd : ss.head? = some first
  mem : ∀ s ∈ ss, s ∈ S ∧ Rc f c first s
  nle : n ≤ ss.length
  cl : ∀ s ∈ ss.take n, ∀ i, i ≤ c → f s i ∈ ss
theorem EInv.len {S : List Nat} {f : Nat → Nat → Nat} {c first : Nat} {ss : List Nat} {n : Nat} (I : EInv S f c first ss n) : ss.length ≤ S.length := List.Nodup.length_le_of_subset I.nd fun s hs => (I.mem s hs).1
theorem EInv.rows {S : List Nat} {f : Nat → Nat → Nat} {c first : Nat} {ss A : List Nat} {n : Nat} (I : EInv S f c first ss n) : exRows f c (ss ++ A) n = exRows f c ss n := by
  unfold exRows
  rw [List.take_append_of_le_length I.nle]
  refine List.map_congr_left fun s hs => ?_
  unfold exRow
  refine List.map_congr_left fun i hi => ?_
  rw [List.mem_range] at hi
  exact idx_app (I.cl s hs i (by omega))
theorem EInv.add {S : List Nat} {f : Nat → Nat → Nat} {c first : Nat} {ss : List Nat} {n x : Nat} (I : EInv S f c first ss n) (h : x ∉ ss) (hx : x ∈ S ∧ Rc f c first x) : EInv S f c first (ss ++ [x]) n := by
  refine ⟨List.nodup_append.mpr ⟨I.nd, by simp, fun a ha b hb e => by simp at hb; subst hb; subst e; exact h ha⟩, ?_, fun s hs => ?_, by have := I.nle; simp; omega, fun s hs i hi => ?_⟩
  · have := I.hd
    cases ss with
    | nil => cases this
    | cons y ss => exact this
  · rcases List.mem_append.mp hs with hs | hs
    · exact I.mem s hs
    · simp at hs; subst hs; exact hx
  · rw [List.take_append_of_le_length I.nle] at hs
    exact List.mem_append_left _ (I.cl s hs i hi)
def rowL (rs : List (List Nat)) : List D := rs.map fun r => .lst (r.map intD)
abbrev exB (beh : Clo → SpD) : DTS := (dSeq (dSet 10 (dCallF 2 beh (dCons (dVar 7) (dCons (dVar 9) dNil))))
  (dSeq (dIfS (dCmpT rdNotIn (dB 10) (dB 4))
  (dSeq (dSetIx 4 (dClean (dBlt rdLen (dConsO (dB 5) dNilO))) (dVar 10))
  (dAppend 5 (dCons (dVar 10) dNil)))
  dNext)
  (dAppend 8 (dCons (dIx (dB 4) (dB 10)) dNil))))
theorem ex_turn {beh : Clo → SpD} {N : DEnds} {E : EX} {S : List Nat} {f : Nat → Nat → Nat} {c first n s i : Nat} {k1 : Clo} {ss : List Nat} {s0 s1 s3 s6 s10 : Sl} {row : List Nat} (I : EInv S f c first ss n) (hS : S.length ≤ 4000) (hs : s ∈ ss) (hr : row.length ≤ 5) (hi : i ≤ c) (hfS : f s i ∈ S)
    (hb : ∀ Q E, Q (intD (f s i)) → beh k1 [intD s, intD i] Q E)
    (h : ∀ A s10, EInv S f c first (ss ++ A) n → f s i ∈ ss ++ A → N.nx [s0, s1, .im (.fn k1), s3, .ok (dkN (idD (ss ++ A)) (ss ++ A)), .ol ((ss ++ A).map intD), s6, .im (intD s), .ol ((row ++ [(ss ++ A).idxOf (f s i)]).map intD), .im (intD i), s10]) :
    exB beh N [s0, s1, .im (.fn k1), s3, .ok (dkN (idD ss) ss), .ol (ss.map intD), s6, .im (intD s), .ol (row.map intD), .im (intD i), s10] E := by
  have hl := I.len
  refine seqN fun M m _ _ _ => ?_
  simp
  refine hb _ _ (m _ ?_)
  refine seqN fun M1 m1 _ _ _ => ?_
  have last : ∀ A, EInv S f c first (ss ++ A) n → f s i ∈ ss ++ A → M1.nx [s0, s1, .im (.fn k1), s3, .ok (dkN (idD (ss ++ A)) (ss ++ A)), .ol ((ss ++ A).map intD), s6, .im (intD s), .ol (row.map intD), .im (intD i), .im (intD (f s i))] := fun A I' hm => by
    refine m1 _ ?_
    have hv : val (dkN (idD (ss ++ A)) (ss ++ A)) (Sum.inl ((f s i : Nat) : Int)) = some (idD (ss ++ A) (f s i)) := val_in hm
    have := h A (.im (intD (f s i))) I' hm
    simp only [List.map_append, List.map_cons, List.map_nil] at this
    simp [hv, intD]
    refine ⟨by rw [sizeLine_eq]; omega, ?_⟩
    simpa [intD, idD] using this
  refine ifN (b := !decide (f s i ∈ ss)) (fun Q q => ?_) (fun hn => ?_) fun hn => ?_
  · have e := isSome_dkN (f := idD ss) (x := f s i) (L := ss)
    simp
    rw [← Option.not_isSome, e]
    exact q
  · have hn : f s i ∉ ss := by simpa using hn
    refine seqN fun M2 m2 _ _ _ => ?_
    refine setIxK rfl ?_
    simp [dkN_length]
    refine ⟨by rw [sizeLine_eq]; omega, ?_⟩
    have hp := idD_put hn
    rw [show intD ss.length = D.int (ss.length : Int) from rfl] at hp
    rw [hp]
    refine m2 _ ?_
    simp
    refine ⟨by rw [sizeLine_eq]; omega, ?_⟩
    have := last [f s i] (I.add hn ⟨hfS, .snoc hi (I.mem s hs).2⟩) (by simp)
    simpa using this
  · have hn : f s i ∈ ss := by simpa using hn
    have := last [] (by simpa using I) (by simpa using hn)
    simpa using this
theorem run_explored (a : Ad) (beh : Clo → SpD) (ds : List D) (Q : D → Prop) (E : EX) (h : sp_explored a beh ds Q E) : ds.length = 4 ∧ sem_explored a beh { nx := fun _ => Q .non, rt := Q } (startD N_explored.length ds) E := by
  obtain ⟨c, first, f, gd, k1, k2, S, rfl, hc, hS, hfS, hcl, hb1, hb2, hq⟩ := h
  refine ⟨rfl, ?_⟩
  have z1 : 1 ≤ sizeLine := by rw [sizeLine_eq]; omega
  have z2 : 2 ≤ sizeLine := by rw [sizeLine_eq]; omega
  unfold sem_explored
  refine seqN fun M m hrt _ _ => ?_
  simp
  refine ⟨[(ky first, .int 0)], by simp, by simp, m _ ?_⟩
  refine seqN fun M1 m1 hrt1 _ _ => ?_
  simp [z1]
  refine m1 _ ?_
  refine seqN fun M2 m2 hrt2 _ _ => ?_
  simp
  refine m2 _ ?_
  refine seqN fun M3 m3 hrt3 _ _ => ?_
  have I0 : EInv S f c first [first] 0 := ⟨by simp, rfl, fun s hs => by simp at hs; subst hs; exact ⟨hfS, .refl⟩, by simp, fun s hs => by simp at hs⟩
  have e0 : putAll [] [(ky first, D.int 0)] = dkN (idD [first]) [first] := by
    show [(ky first, D.int 0)] = _
    simp [dkN, idD, intD]
  rw [e0]
  refine whileN (fun mm Δ => ∃ (ss : List Nat) (n : Nat) (s7 s8 s9 s10 : Sl), Δ = [.im (intD c), .im (intD first), .im (.fn k1), .im (.fn k2), .ok (dkN (idD ss) ss), .ol (ss.map intD), .ol (rowL (exRows f c ss n)), s7, s8, s9, s10] ∧ EInv S f c first ss n ∧ mm = S.length - n) (m0 := S.length) ⟨[first], 0, _, _, _, _, rfl, I0, rfl⟩ ?_
  rintro mm Δ ⟨ss, n, s7, s8, s9, s10, rfl, I, rfl⟩ M mn _ _ _
  have hl := I.len
  have hrl : (rowL (exRows f c ss n)).length = n := by
    have := I.nle
    unfold rowL exRows
    rw [List.length_map, List.length_map, List.length_take]; omega
  have cond : ∀ QQ : Bool → List Sl → Prop, QQ (decide (n < ss.length)) [.im (intD c), .im (intD first), .im (.fn k1), .im (.fn k2), .ok (dkN (idD ss) ss), .ol (ss.map intD), .ol (rowL (exRows f c ss n)), s7, s8, s9, s10] →
      dCmpT rdLt (dO (dClean (dBlt rdLen (dConsO (dB 6) dNilO)))) (dO (dClean (dBlt rdLen (dConsO (dB 5) dNilO)))) [.im (intD c), .im (intD first), .im (.fn k1), .im (.fn k2), .ok (dkN (idD ss) ss), .ol (ss.map intD), .ol (rowL (exRows f c ss n)), s7, s8, s9, s10] QQ E := fun QQ q => by
    simp [hrl]; exact q
  refine cond _ ?_
  by_cases hn : n < ss.length
  · rw [if_pos (decide_eq_true hn)]
    obtain ⟨s, hs⟩ : ∃ s, ss[n]? = some s := ⟨_, List.getElem?_eq_getElem hn⟩
    have hsm := List.mem_of_getElem? hs
    refine seqN fun M4 m4 _ _ _ => ?_
    simp [hrl, atI_nat, hs]
    refine m4 _ ?_
    refine seqN fun M5 m5 _ _ _ => ?_
    simp
    refine m5 _ ?_
    refine seqN fun M6 m6 _ _ _ => ?_
    simp [intD]
    refine ⟨by omega, by omega, ?_⟩
    try rw [show ((c : Int) + 1).toNat = c + 1 by omega]
    refine forRN (fun i Δ => ∃ (A : List Nat) (s9 s10 : Sl), Δ = [.im (intD c), .im (intD first), .im (.fn k1), .im (.fn k2), .ok (dkN (idD (ss ++ A)) (ss ++ A)), .ol ((ss ++ A).map intD), .ol (rowL (exRows f c ss n)), .im (intD s), .ol ((exRow f (ss ++ A) i s).map intD), s9, s10] ∧ EInv S f c first (ss ++ A) n ∧ ∀ j, j < i → f s j ∈ ss ++ A) ⟨[], s9, s10, by simp [intD, exRow], by simpa using I, fun j hj => by omega⟩ ?_ ?_
    · rintro i Δ hi ⟨A, s9, s10, rfl, I', hA⟩ M7 m7 _ _ _
      show exB beh _ [.im (intD c), .im (intD first), .im (.fn k1), .im (.fn k2), .ok (dkN (idD (ss ++ A)) (ss ++ A)), .ol ((ss ++ A).map intD), .ol (rowL (exRows f c ss n)), .im (intD s), .ol ((exRow f (ss ++ A) i s).map intD), .im (.int (0 + (i : Int))), s10] E
      rw [show D.int (0 + (i : Int)) = intD i by unfold intD; rw [Int.zero_add]]
      have hsA : s ∈ ss ++ A := List.mem_append_left _ hsm
      refine ex_turn I' hS hsA (by unfold exRow; rw [List.length_map, List.length_range]; omega) (by omega) (hcl s (I.mem s hsm).1 i (by omega)) (hb1 s (I.mem s hsm).1 i (by omega)) fun A2 s10' I2 hm => m7 _ ⟨A ++ A2, .im (intD i), s10', ?_, by rw [← List.append_assoc]; exact I2, fun j hj => ?_⟩
      · rw [← List.append_assoc]
        have er : exRow f (ss ++ A) i s ++ [(ss ++ A ++ A2).idxOf (f s i)] = exRow f (ss ++ A ++ A2) (i + 1) s := by
          unfold exRow
          rw [List.range_succ, List.map_append]
          congr 1
          refine List.map_congr_left fun j hj => ?_
          rw [List.mem_range] at hj
          exact (idx_app (hA j hj)).symm
        rw [er]
      · rw [← List.append_assoc]
        by_cases e : j = i
        · subst e; exact hm
        · exact List.mem_append_left _ (hA j (by omega))
    · rintro Δ ⟨A, s9, s10, rfl, I', hA⟩
      refine m6 _ ?_
      have hl' := I'.len
      have I2 : EInv S f c first (ss ++ A) (n + 1) := ⟨I'.nd, I'.hd, I'.mem, by simp; omega, fun z hz i hi => by
        rw [List.take_add_one, List.getElem?_append_left hn, hs] at hz
        rcases List.mem_append.mp hz with hz | hz
        · exact I'.cl z hz i hi
        · simp at hz; subst hz; exact hA i (by omega)⟩
      have er : rowL (exRows f c ss n) ++ [.lst ((exRow f (ss ++ A) (c + 1) s).map intD)] = rowL (exRows f c (ss ++ A) (n + 1)) := by
        have e1 := I.rows (A := A)
        unfold rowL
        rw [← e1]
        unfold exRows
        rw [List.take_add_one, List.getElem?_append_left hn, hs]
        simp
      simp [hrl]
      refine ⟨by rw [sizeLine_eq]; omega, ?_⟩
      rw [er]
      refine mn _ _ ?_ ⟨ss ++ A, n + 1, .im (intD s), .im (.lst ((exRow f (ss ++ A) (c + 1) s).map intD)), s9, s10, by simp, I2, rfl⟩
      omega
  · rw [if_neg (by simpa using hn)]
    obtain rfl : n = ss.length := by have := I.nle; omega
    refine m3 _ ?_
    simp
    refine lc_map (fun s => some (.bl (gd s))) [.im (intD c), .im (intD first), .im (.fn k1), .im (.fn k2), .ok (dkN (idD ss) ss), .im (.lst (ss.map intD)), .im (.lst (rowL (exRows f c ss ss.length))), .un, s8, s9, s10] rfl (by rw [sizeLine_eq]; omega) (fun s hs R hR => ?_) ?_
    · simp
      exact hb2 s (I.mem s hs).1 _ _ hR
    · rw [filterMap_some_map]
      simp [z2]
      have e1 : rowL (exRows f c ss ss.length) = ss.map fun s => .lst ((List.range (c + 1)).map fun i => intD (ss.idxOf (f s i))) := by
        unfold rowL exRows exRow
        rw [List.take_of_length_le (Nat.le_refl _), List.map_map]
        refine List.map_congr_left fun s _ => ?_
        simp [List.map_map]
      rw [e1]
      refine hq ss I.nd hl I.hd fun s hs => ⟨(I.mem s hs).1, (I.mem s hs).2, fun i hi => I.cl s (by rw [List.take_of_length_le (Nat.le_refl _)]; exact hs) i hi⟩
end DL
-- K73k
set_option Elab.async false
set_option linter.all false
set_option maxRecDepth 100000
set_option maxHeartbeats 2000000
set_option autoImplicit false
namespace DL
open PySem PySem.Spec L2
open PyProof.Rows hiding St
/-! ### dicts of marks -/
def kyT (m : List Nat) : List Key := m.map ky
theorem kyT_inj {m n : List Nat} : kyT m = kyT n ↔ m = n := ⟨fun h => by
  induction m generalizing n with
  | nil => cases n with
    | nil => rfl
    | cons y n => simp [kyT] at h
  | cons x m ih => cases n with
    | nil => simp [kyT] at h
    | cons y n =>
      have h : ky x :: kyT m = ky y :: kyT n := h
      rw [ky_inj.mp (List.cons.inj h).1, ih (List.cons.inj h).2], fun h => by rw [h]⟩
def dtN (f : List Nat → D) (ms : List (List Nat)) : List (List Key × D) := ms.map fun m => (kyT m, f m)
theorem val_dtN (f : List Nat → D) (x : List Nat) : ∀ L : List (List Nat), val (dtN f L) (kyT x) = if x ∈ L then some (f x) else none
  | [] => rfl
  | y :: L => by
    have ih := val_dtN f x L
    unfold val dtN at ih ⊢
    rw [List.map_cons, List.find?_cons]
    by_cases h : y = x
    · subst h; simp
    · have e : decide (kyT y = kyT x) = false := decide_eq_false fun z => h (kyT_inj.mp z)
      simp only [e]
      rw [ih]
      by_cases hx : x ∈ L
      · rw [if_pos hx, if_pos (List.mem_cons_of_mem _ hx)]
      · rw [if_neg hx, if_neg (fun z => by rcases List.mem_cons.mp z with z | z; exact h z.symm; exact hx z)]
theorem any_dtN {f : List Nat → D} {x : List Nat} {L : List (List Nat)} : ((dtN f L).any fun kv => decide (kv.1 = kyT x)) = decide (x ∈ L) := by
  induction L with
  | nil => rfl
  | cons y L ih =>
    show (decide (kyT y = kyT x) || ((dtN f L).any fun kv => decide (kv.1 = kyT x))) = _
    rw [ih]
    by_cases h : y = x
    · subst h; simp
    · rw [decide_eq_false fun z => h (kyT_inj.mp z)]
      simp [Ne.symm h]
theorem putT_new {f : List Nat → D} {x : List Nat} {L : List (List Nat)} (h : x ∉ L) : put (dtN f L) (kyT x) (f x) = dtN f (L ++ [x]) := by
  unfold put
  rw [any_dtN, decide_eq_false h, if_neg (by simp)]
  simp [dtN]
theorem dtN_congr {f g : List Nat → D} {L : List (List Nat)} (h : ∀ r ∈ L, f r = g r) : dtN f L = dtN g L := List.map_congr_left fun r hr => by rw [h r hr]
theorem dtN_length {f : List Nat → D} {L : List (List Nat)} : (dtN f L).length = L.length := by simp [dtN]
def iT (ms : List (List Nat)) : List Nat → D := fun m => intD (ms.idxOf m)
theorem idxT_app {ss A : List (List Nat)} {x : List Nat} (h : x ∈ ss) : (ss ++ A).idxOf x = ss.idxOf x := by rw [List.idxOf_append, if_pos h]
theorem idxT_new {ss : List (List Nat)} {x : List Nat} (h : x ∉ ss) : (ss ++ [x]).idxOf x = ss.length := by
  rw [List.idxOf_append, if_neg h]
  simp
theorem iT_put {ms : List (List Nat)} {m : List Nat} (h : m ∉ ms) : put (dtN (iT ms) ms) (kyT m) (intD ms.length) = dtN (iT (ms ++ [m])) (ms ++ [m]) := by
  have e : dtN (iT ms) ms = dtN (iT (ms ++ [m])) ms := dtN_congr fun r hr => by unfold iT; rw [idxT_app hr]
  rw [e, ← putT_new h]
  congr 1
  unfold iT
  rw [idxT_new h]
theorem keys_nats (m : List Nat) : D.keys (m.map intD) = some (kyT m) := by
  have e := keys_ints (m.map Int.ofNat)
  rw [List.map_map] at e
  show D.keys (m.map intD) = _
  have e2 : m.map intD = List.map (D.int ∘ Int.ofNat) m := rfl
  rw [e2, e, List.map_map]
  rfl
theorem forEN {α : Type} {f : α → D} {g : DTG} {tb : DTS} {N : DEnds} {xs : List α} {Δ1 : List Sl} {E : EX} (Iv : Nat → List Sl → Prop) (h0 : Iv 0 Δ1)
    (hs : ∀ i x Δ2, xs[i]? = some x → Iv i Δ2 → ∀ M : DEnds, (∀ Δ', Iv (i + 1) Δ' → M.nx Δ') → (∀ Δ', Iv (i + 1) Δ' → M.ct Δ') → M.bk = N.nx → M.rt = N.rt → g (.tup [intD i, f x]) Δ2 fun Δ3 => tb M Δ3 E) (hd : ∀ Δ2, Iv xs.length Δ2 → N.nx Δ2) : dForK g tb N (enumD (xs.map f)) Δ1 E := by
  refine ⟨Iv, h0, fun i d Δ2 hi q => ?_, fun Δ2 q => hd Δ2 (by rw [enumD_length, List.length_map] at q; exact q)⟩
  rw [enumD_get, List.getElem?_map] at hi
  cases e : xs[i]? with
  | none => rw [e] at hi; cases hi
  | some x => rw [e] at hi; cases hi; exact hs i x Δ2 e q { nx := Iv (i + 1), ct := Iv (i + 1), bk := N.nx, rt := N.rt } (fun _ h => h) (fun _ h => h) rfl rfl
/-! ### kinds, plain -/
def dd : List Nat → List Nat
  | [] => []
  | x :: xs => if x ∈ xs then dd xs else x :: dd xs
theorem dd_mem : ∀ {l : List Nat} {x : Nat}, x ∈ dd l ↔ x ∈ l
  | [], _ => Iff.rfl
  | y :: l, x => by
    unfold dd
    by_cases h : y ∈ l
    · rw [if_pos h, dd_mem, List.mem_cons]
      exact ⟨.inr, fun z => z.elim (fun e => e ▸ h) id⟩
    · rw [if_neg h, List.mem_cons, List.mem_cons, dd_mem]
theorem dd_nodup : ∀ l : List Nat, (dd l).Nodup
  | [] => List.nodup_nil
  | y :: l => by
    unfold dd
    by_cases h : y ∈ l
    · rw [if_pos h]; exact dd_nodup l
    · rw [if_neg h]; exact List.nodup_cons.mpr ⟨fun z => h (dd_mem.mp z), dd_nodup l⟩
theorem nodup_len {α : Type} {l m : List α} (h : l.Nodup) (k : m.Nodup) (e : ∀ x, x ∈ l ↔ x ∈ m) : l.length = m.length := Nat.le_antisymm (List.Nodup.length_le_of_subset h fun x hx => (e x).mp hx) (List.Nodup.length_le_of_subset k fun x hx => (e x).mpr hx)
def markK (R : List (List Nat)) (ks : List Nat) (s : Nat) : List Nat := ks.getD s 0 :: (rowAt R s).map fun x => ks.getD x 0
theorem rowW {c : Nat} {R : List (List Nat)} (ok : OkW R c) {r : Nat} (h : r < R.length) : (rowAt R r).length = c + 1 ∧ ∀ n ∈ rowAt R r, n < R.length := by
  unfold rowAt
  rw [List.getD_eq_getElem?_getD, List.getElem?_eq_getElem h]
  exact ok.row _ (List.getElem_mem h)
theorem nxW_mem {c : Nat} {R : List (List Nat)} (ok : OkW R c) {r i : Nat} (h : r < R.length) (hi : i ≤ c) : nx R r i ∈ rowAt R r := by
  have hl := (rowW ok h).1
  unfold nx
  generalize rowAt R r = row at hl ⊢
  rw [List.getD_eq_getElem?_getD, List.getElem?_eq_getElem (show i < row.length by omega)]
  exact List.getElem_mem _
theorem nxW_lt {c : Nat} {R : List (List Nat)} (ok : OkW R c) {r i : Nat} (h : r < R.length) (hi : i ≤ c) : nx R r i < R.length := (rowW ok h).2 _ (nxW_mem ok h hi)
theorem mark_eq {c : Nat} {R : List (List Nat)} {ks : List Nat} (ok : OkW R c) {s t : Nat} (hs : s < R.length) (ht : t < R.length) : markK R ks s = markK R ks t ↔ ks.getD s 0 = ks.getD t 0 ∧ ∀ k, k ≤ c → ks.getD (nx R s k) 0 = ks.getD (nx R t k) 0 := by
  have l1 := (rowW ok hs).1
  have l2 := (rowW ok ht).1
  unfold markK nx
  rw [List.cons.injEq]
  refine and_congr Iff.rfl ?_
  generalize rowAt R s = r1 at l1 ⊢
  generalize rowAt R t = r2 at l2 ⊢
  constructor
  · intro h k hk
    have e := congrArg (fun l => l[k]?) h
    simp only [List.getElem?_map] at e
    rw [List.getElem?_eq_getElem (show k < r1.length by omega), List.getElem?_eq_getElem (show k < r2.length by omega)] at e
    simp only [Option.map_some, Option.some.injEq] at e
    rw [List.getD_eq_getElem?_getD (l := r1), List.getElem?_eq_getElem (show k < r1.length by omega), List.getD_eq_getElem?_getD (l := r2), List.getElem?_eq_getElem (show k < r2.length by omega)]
    exact e
  · intro h
    refine List.ext_getElem (by simp; omega) fun k h1 h2 => ?_
    rw [List.length_map] at h1 h2
    have := h k (by omega)
    rw [List.getD_eq_getElem?_getD (l := r1), List.getElem?_eq_getElem h1, List.getD_eq_getElem?_getD (l := r2), List.getElem?_eq_getElem h2] at this
    simpa using this
structure KInv (c : Nat) (R : List (List Nat)) (g : List Bool) (ks : List Nat) : Prop where
  len : ks.length = R.length
  good : ∀ i j, i < R.length → j < R.length → ks.getD i 0 = ks.getD j 0 → gdb g i = gdb g j
  apart : ∀ i j, i < R.length → j < R.length → ks.getD i 0 ≠ ks.getD j 0 → ∃ w, Inks c w ∧ gdb g (run (nx R) i w) ≠ gdb g (run (nx R) j w)
def nextK (R : List (List Nat)) (ks : List Nat) (ms : List (List Nat)) : List Nat := (List.range R.length).map fun s => ms.idxOf (markK R ks s)
structure MInv (R : List (List Nat)) (ks : List Nat) (ms : List (List Nat)) (n : Nat) : Prop where
  nd : ms.Nodup
  all : ∀ s, s < n → markK R ks s ∈ ms
  from_ : ∀ m ∈ ms, ∃ s, s < n ∧ m = markK R ks s
theorem nextK_at {R : List (List Nat)} {ks : List Nat} {ms : List (List Nat)} {s : Nat} (h : s < R.length) : (nextK R ks ms).getD s 0 = ms.idxOf (markK R ks s) := by
  unfold nextK
  rw [List.getD_eq_getElem?_getD, List.getElem?_map, List.getElem?_range h]
  rfl
theorem nextK_eq {R : List (List Nat)} {ks : List Nat} {ms : List (List Nat)} (M : MInv R ks ms R.length) {s t : Nat} (hs : s < R.length) (ht : t < R.length) : (nextK R ks ms).getD s 0 = (nextK R ks ms).getD t 0 ↔ markK R ks s = markK R ks t := by
  rw [nextK_at hs, nextK_at ht]
  refine ⟨fun h => ?_, fun h => by rw [h]⟩
  have h1 := List.idxOf_lt_length_of_mem (M.all s hs)
  have h2 := List.idxOf_lt_length_of_mem (M.all t ht)
  have e1 := List.getElem_idxOf h1
  have e2 := List.getElem_idxOf h2
  rw [← e1, ← e2]
  congr 1
theorem KInv.next {c : Nat} {R : List (List Nat)} {g : List Bool} {ks : List Nat} {ms : List (List Nat)} (ok : OkW R c) (I : KInv c R g ks) (M : MInv R ks ms R.length) : KInv c R g (nextK R ks ms) := by
  refine ⟨by simp [nextK], fun i j hi hj h => ?_, fun i j hi hj h => ?_⟩
  · exact I.good i j hi hj ((mark_eq ok hi hj).mp ((nextK_eq M hi hj).mp h)).1
  · have h2 : markK R ks i ≠ markK R ks j := fun z => h ((nextK_eq M hi hj).mpr z)
    rw [ne_eq, mark_eq ok hi hj] at h2
    by_cases h3 : ks.getD i 0 = ks.getD j 0
    · have : ∃ k, k ≤ c ∧ ks.getD (nx R i k) 0 ≠ ks.getD (nx R j k) 0 := by
        refine Classical.byContradiction fun z => h2 ⟨h3, fun k hk => ?_⟩
        exact Classical.byContradiction fun q => z ⟨k, hk, q⟩
      obtain ⟨k, hk, hne⟩ := this
      obtain ⟨w, hw, hg⟩ := I.apart _ _ (nxW_lt ok hi hk) (nxW_lt ok hj hk) hne
      exact ⟨k :: w, .cons hk hw, hg⟩
    · exact I.apart i j hi hj h3
theorem cnt_next {R : List (List Nat)} {ks : List Nat} {ms : List (List Nat)} (M : MInv R ks ms R.length) : (dd (nextK R ks ms)).length = ms.length := by
  have := nodup_len (dd_nodup (nextK R ks ms)) (List.nodup_range (n := ms.length)) fun x => by
    rw [dd_mem, List.mem_range]
    unfold nextK
    rw [List.mem_map]
    constructor
    · rintro ⟨s, hs, rfl⟩
      exact List.idxOf_lt_length_of_mem (M.all s (List.mem_range.mp hs))
    · intro hx
      obtain ⟨s, hs, e⟩ := M.from_ _ (List.getElem_mem hx)
      exact ⟨s, List.mem_range.mpr hs, by rw [← e]; exact List.Nodup.idxOf_getElem M.nd x hx⟩
  rwa [List.length_range] at this
theorem kinds_mem {R : List (List Nat)} {ks : List Nat} (hl : ks.length = R.length) {x : Nat} : x ∈ ks ↔ ∃ s, s < R.length ∧ ks.getD s 0 = x := by
  constructor
  · intro h
    obtain ⟨s, hs, e⟩ := List.getElem_of_mem h
    exact ⟨s, by omega, by rw [List.getD_eq_getElem?_getD, List.getElem?_eq_getElem hs]; exact e⟩
  · rintro ⟨s, hs, rfl⟩
    rw [List.getD_eq_getElem?_getD, List.getElem?_eq_getElem (show s < ks.length by omega)]
    exact List.getElem_mem _
theorem cnt_le {R : List (List Nat)} {ks : List Nat} {ms : List (List Nat)} (hl : ks.length = R.length) (M : MInv R ks ms R.length) : (dd ks).length ≤ ms.length := by
  have : (dd ks).length ≤ (ms.map fun m => m.headD 0).length := List.Nodup.length_le_of_subset (dd_nodup ks) fun x hx => by
    obtain ⟨s, hs, e⟩ := (kinds_mem hl).mp (dd_mem.mp hx)
    exact List.mem_map.mpr ⟨_, M.all s hs, e⟩
  rwa [List.length_map] at this
theorem cnt_top {R : List (List Nat)} {ks : List Nat} (hl : ks.length = R.length) : (dd ks).length ≤ R.length := by
  rw [← hl]
  exact List.Nodup.length_le_of_subset (dd_nodup ks) fun x hx => dd_mem.mp hx
/-- no more marks than kinds: the kinds stay -/
theorem kinds_done {c : Nat} {R : List (List Nat)} {g : List Bool} {ks : List Nat} {ms : List (List Nat)} (ok : OkW R c) (I : KInv c R g ks) (M : MInv R ks ms R.length) (h : ms.length ≤ (dd ks).length) : Kinds c R g (nextK R ks ms) := by
  have I2 := I.next ok M
  have inj : ∀ s t, s < R.length → t < R.length → ks.getD s 0 = ks.getD t 0 → markK R ks s = markK R ks t := fun s t hs ht e => by
    refine Classical.byContradiction fun hne => ?_
    have : (dd ks).length ≤ ((ms.erase (markK R ks t)).map fun m => m.headD 0).length := List.Nodup.length_le_of_subset (dd_nodup ks) fun x hx => by
      obtain ⟨u, hu, e2⟩ := (kinds_mem I.len).mp (dd_mem.mp hx)
      by_cases hut : markK R ks u = markK R ks t
      · have e3 : ks.getD u 0 = ks.getD t 0 := (List.cons.inj hut).1
        exact List.mem_map.mpr ⟨markK R ks s, (List.mem_erase_of_ne hne).mpr (M.all s hs), by rw [← e2, e3, ← e]; rfl⟩
      · exact List.mem_map.mpr ⟨markK R ks u, (List.mem_erase_of_ne hut).mpr (M.all u hu), e2⟩
    have hm := M.all t ht
    rw [List.length_map, List.length_erase_of_mem hm] at this
    have := List.length_pos_of_mem hm
    omega
  refine ⟨I2.len, I2.good, fun i j hi hj e k hk => ?_, I2.apart⟩
  have e2 := ((mark_eq ok hi hj).mp ((nextK_eq M hi hj).mp e)).2 k hk
  exact (nextK_eq M (nxW_lt ok hi hk) (nxW_lt ok hj hk)).mpr (inj _ _ (nxW_lt ok hi hk) (nxW_lt ok hj hk) e2)
end DL
-- K73l
set_option Elab.async false
set_option linter.all false
set_option maxRecDepth 100000
set_option maxHeartbeats 2000000
set_option autoImplicit false
namespace DL
open PySem PySem.Spec L2
open PyProof.Rows hiding St
abbrev kiS : DTS := (dSeq (dSetM 9 (dOpM rdAdd (dO (dTup (dCons (dIx (dB 2) (dB 7)) dNil))) (dO (dClean (dBlt rdTuple (dConsO (dO (dClean (dLC [6] (dSeqI (dVar 8)) (dgName 6) dYes (dIx (dB 2) (dB 6))))) dNilO))))))
  (dSeq (dIfS (dCmpT rdNotIn (dB 9) (dB 4))
  (dSetIx 4 (dClean (dBlt rdLenT (dConsO (dB 4) dNilO))) (dVar 9))
  dNext)
  (dAppend 5 (dCons (dIx (dB 4) (dB 9)) dNil))))
theorem at_nats {ks : List Nat} {s : Nat} (h : s < ks.length) : atI (ks.map intD) (s : Int) = some (intD (ks.getD s 0)) := by
  rw [atI_nat, List.getElem?_map, List.getElem?_eq_getElem h, List.getD_eq_getElem?_getD, List.getElem?_eq_getElem h]
  rfl
theorem ki_turn {N : DEnds} {E : EX} {c : Nat} {R : List (List Nat)} {ks : List Nat} {ms : List (List Nat)} {later : List Nat} {s : Nat} {s0 s1 s2 s3 s6 s9 : Sl} (ok : OkW R c) (hc : c ≤ 4) (hk : ks.length = R.length) (hs : s < R.length) (hs2 : s2.er = some (.lst (ks.map intD))) (hm : ms.length ≤ 4000) (hl : later.length ≤ 4000)
    (h : ∀ A s6 s8 s9, (A = [] ∧ markK R ks s ∈ ms ∨ A = [markK R ks s] ∧ markK R ks s ∉ ms) → N.nx [s0, s1, s2, s3, .ot (dtN (iT (ms ++ A)) (ms ++ A)), .ol ((later ++ [(ms ++ A).idxOf (markK R ks s)]).map intD), s6, .im (intD s), s8, s9]) :
    kiS N [s0, s1, s2, s3, .ot (dtN (iT ms) ms), .ol (later.map intD), s6, .im (intD s), .im (.lst ((rowAt R s).map intD)), s9] E := by
  have z1 : 1 ≤ sizeLine := by rw [sizeLine_eq]; omega
  have hrow := rowW ok hs
  refine seqN fun M m _ _ _ => ?_
  have e1 := at_nats (ks := ks) (s := s) (by omega)
  simp [hs2, z1]
  rw [show intD s = D.int (s : Int) from rfl]
  simp [e1]
  refine lc_map (fun x => some (intD (ks.getD x 0))) [s0, s1, s2, s3, .ot (dtN (iT ms) ms), .ol (later.map intD), .un, .im (intD s), .im (.lst ((rowAt R s).map intD)), s9] rfl (by rw [sizeLine_eq]; omega) (fun x hx Rr hR => ?_) ?_
  · have e2 := at_nats (ks := ks) (s := x) (by have := hrow.2 x hx; omega)
    simp [hs2]
    rw [show intD x = D.int (x : Int) from rfl]
    simp [e2]
    simpa using hR
  · rw [filterMap_some_map]
    have em : intD (ks.getD s 0) :: ((rowAt R s).map fun x => intD (ks.getD x 0)) = (markK R ks s).map intD := by
      unfold markK
      rw [List.map_cons, List.map_map]; rfl
    have fin : ∀ s9, s9 = Sl.im (.tup ((markK R ks s).map intD)) → M.nx [s0, s1, s2, s3, .ot (dtN (iT ms) ms), .ol (later.map intD), .un, .im (intD s), .im (.lst ((rowAt R s).map intD)), s9] := fun s9 e => by
      subst e
      refine m _ ?_
      refine seqN fun M1 m1 _ _ _ => ?_
      have hkey : (D.tup ((markK R ks s).map intD)).keyT = some (kyT (markK R ks s)) := keys_nats _
      have last : ∀ A, (A = [] ∧ markK R ks s ∈ ms ∨ A = [markK R ks s] ∧ markK R ks s ∉ ms) → M1.nx [s0, s1, s2, s3, .ot (dtN (iT (ms ++ A)) (ms ++ A)), .ol (later.map intD), .un, .im (intD s), .im (.lst ((rowAt R s).map intD)), .im (.tup ((markK R ks s).map intD))] := fun A hA => by
        have hmem : markK R ks s ∈ ms ++ A := by
          rcases hA with ⟨rfl, h⟩ | ⟨rfl, _⟩
          · simpa using h
          · simp
        refine m1 _ ?_
        simp only [sAppend, sDCons, sDIx, sDNil, sDB]
        refine ⟨⟨_, rfl⟩, ⟨⟨_, _, rfl, rfl⟩, ⟨_, _, rfl, rfl⟩, _, _, rfl, rfl, ?_⟩⟩
        rw [sIxU]
        refine ⟨_, _, hkey, (val_dtN _ _ _).trans (if_pos hmem), _, _, rfl, rfl, by rw [List.length_map, sizeLine_eq]; omega, ?_⟩
        have := h A .un (.im (.lst ((rowAt R s).map intD))) (.im (.tup ((markK R ks s).map intD))) hA
        simpa [iT] using this
      refine ifN (b := !decide (markK R ks s ∈ ms)) (fun Q q => ?_) (fun hn => ?_) fun hn => ?_
      · simp only [sDCmpT, sDB, sResR, sNotIn]
        refine ⟨⟨_, _, rfl, rfl⟩, ⟨_, _, rfl, rfl⟩, _, _, rfl, rfl, ?_⟩
        rw [sInU]
        refine ⟨_, hkey, ?_⟩
        rw [val_dtN]
        by_cases hx : markK R ks s ∈ ms
        · rw [if_pos hx]; simpa [hx] using q
        · rw [if_neg hx]; simpa [hx] using q
      · have hn : markK R ks s ∉ ms := by simpa using hn
        refine setIxT rfl ?_
        simp only [sDClean, sDBlt, sDConsO, sDB, sDNilO]
        refine ⟨⟨_, _, rfl, rfl⟩, [.dt (dtN (iT ms) ms)], rfl, ?_⟩
        rw [sLenTt]
        refine ⟨_, rfl, ?_⟩
        simp only [sDVar]
        refine ⟨_, _, rfl, rfl, _, _, rfl, hkey, by rw [dtN_length, sizeLine_eq]; omega, ?_⟩
        have hp := iT_put hn
        rw [dtN_length, show D.int (ms.length : Nat) = intD ms.length from rfl, hp]
        exact last [markK R ks s] (.inr ⟨rfl, hn⟩)
      · have hn : markK R ks s ∈ ms := by simpa using hn
        have := last [] (.inl ⟨rfl, hn⟩)
        simpa using this
    simp
    refine ⟨by rw [sizeLine_eq]; omega, ?_⟩
    exact fin _ (by rw [← em]; rfl)
abbrev kiB : DTS := (dSeq (dSetM 4 dDict0)
  (dSeq (dSetM 5 (dLst dNil))
  (dSeq (dFor (dEnum (dCons (dVar 0) dNil)) (dgTup 2 (dgCons (dgName 7) (dgCons (dgName 8) dgNil)))
  kiS)
  (dSeq (dSet 3 (dCmpE rdGt (dO (dClean (dBlt rdLenT (dConsO (dB 4) dNilO)))) (dO (dLenSet (dVar 2)))))
  (dSet 2 (dVar 5))))))
theorem ki_loop {N : DEnds} {E : EX} {c : Nat} {R : List (List Nat)} {g : List Bool} {ks : List Nat} {s1 s2 s4 s5 s6 s7 s8 s9 : Sl} (ok : OkW R c) (hc : c ≤ 4) (I : KInv c R g ks) (hs2 : s2.er = some (.lst (ks.map intD)))
    (h : ∀ (ks : List Nat) (s2 s3 s4 s5 s6 s7 s8 s9 : Sl), Kinds c R g ks → s2.er = some (.lst (ks.map intD)) → N.nx [.im (rowsD R), s1, s2, s3, s4, s5, s6, s7, s8, s9]) :
    dWhile (dTst (dVar 3)) kiB N [.im (rowsD R), s1, s2, .im (.bl true), s4, s5, s6, s7, s8, s9] E := by
  have hR := ok.l2
  refine whileN (fun m Δ => ∃ ks b s2 s4 s5 s6 s7 s8 s9, Δ = [.im (rowsD R), s1, s2, .im (.bl b), s4, s5, s6, s7, s8, s9] ∧ s2.er = some (.lst (ks.map intD)) ∧ KInv c R g ks ∧ (b = false → Kinds c R g ks) ∧ m = (R.length - (dd ks).length) + (if b then 1 else 0)) ⟨ks, true, s2, s4, s5, s6, s7, s8, s9, rfl, hs2, I, fun z => (by cases z), rfl⟩ ?_
  rintro m Δ ⟨ks, b, s2, s4, s5, s6, s7, s8, s9, rfl, hs2, I, hb, rfl⟩ M mn _ _ _
  cases b with
  | false =>
    simp
    exact h ks s2 _ _ _ _ _ _ _ (hb rfl) hs2
  | true =>
    simp only [sDTst, sDVar]
    refine ⟨_, _, rfl, rfl, true, rfl, ?_⟩
    rw [if_pos rfl]
    refine seqN fun M1 m1 _ _ _ => ?_
    simp only [sDSetM, sDDict0]
    refine .inr ⟨by simp, m1 _ ?_⟩
    refine seqN fun M2 m2 _ _ _ => ?_
    simp
    refine m2 _ ?_
    refine seqN fun M3 m3 _ _ _ => ?_
    show dFor _ _ _ _ [.im (rowsD R), s1, s2, .im (.bl true), .ot (dtN (iT []) []), .ol (([] : List Nat).map intD), s6, s7, s8, s9] E
    simp only [sFor, sEnum, sDCons, sDNil, sDVar]
    refine ⟨_, _, rfl, rfl, _, rfl, ?_⟩
    refine forEN (fun n Δ => ∃ ms later s6 s7 s8 s9, Δ = [.im (rowsD R), s1, s2, .im (.bl true), .ot (dtN (iT ms) ms), .ol (later.map intD), s6, s7, s8, s9] ∧ MInv R ks ms n ∧ ms.length ≤ n ∧ later = (List.range n).map fun s => ms.idxOf (markK R ks s)) ⟨[], [], _, _, _, _, rfl, ⟨by simp, fun s hs => by omega, fun m hm => by simp at hm⟩, Nat.zero_le _, by simp⟩ ?_ ?_
    · rintro n row Δ hn ⟨ms, later, s6, s7, s8, s9, rfl, MI, hml, rfl⟩ M4 m4 _ _ _
      have hnl : n < R.length := (List.getElem?_eq_some_iff.mp hn).1
      have hrow : row = rowAt R n := by unfold rowAt; rw [List.getD_eq_getElem?_getD, hn]; rfl
      subst hrow
      simp only [sDgTup, sDgCons, sDgNil, sDgName]
      refine ⟨_, .inl rfl, rfl, _, _, rfl, _, _, rfl, rfl, ?_⟩
      show kiS _ [.im (rowsD R), s1, s2, .im (.bl true), .ot (dtN (iT ms) ms), .ol (((List.range n).map fun s => ms.idxOf (markK R ks s)).map intD), s6, .im (intD n), .im (.lst ((rowAt R n).map intD)), s9] E
      refine ki_turn ok hc I.len hnl hs2 (by omega) (by rw [List.length_map, List.length_range]; omega) fun A s6 s8 s9 hA => m4 _ ⟨ms ++ A, _, _, _, _, _, rfl, ⟨?_, fun s hs => ?_, fun m hm => ?_⟩, ?_, ?_⟩
      · rcases hA with ⟨rfl, _⟩ | ⟨rfl, h⟩
        · simpa using MI.nd
        · exact List.nodup_append.mpr ⟨MI.nd, by simp, fun a ha b hb e => by simp at hb; subst hb; subst e; exact h ha⟩
      · by_cases e : s = n
        · subst e
          rcases hA with ⟨rfl, h⟩ | ⟨rfl, h⟩
          · simpa using h
          · simp
        · exact List.mem_append_left _ (MI.all s (by omega))
      · rcases List.mem_append.mp hm with hm | hm
        · obtain ⟨s, h1, h2⟩ := MI.from_ m hm
          exact ⟨s, by omega, h2⟩
        · rcases hA with ⟨rfl, h⟩ | ⟨rfl, h⟩
          · cases hm
          · simp at hm; exact ⟨n, by omega, hm⟩
      · rcases hA with ⟨rfl, h⟩ | ⟨rfl, h⟩ <;> simp <;> omega
      · rw [List.range_succ, List.map_append]
        congr 1
        refine List.map_congr_left fun s hs => ?_
        rw [List.mem_range] at hs
        exact (idxT_app (MI.all s hs)).symm
    · rintro Δ ⟨ms, later, s6, s7, s8, s9, rfl, MI, hml, rfl⟩
      have hlen := I.len
      have h1 := cnt_le hlen MI
      have h2 := cnt_next MI
      have h3 := cnt_top hlen
      refine m3 _ ?_
      refine seqN fun M5 m5 _ _ _ => ?_
      simp only [sDSet, sDCmpE, sDO, sDClean, sDBlt, sDConsO, sDB, sDNilO, sLenSet, sDVar]
      refine ⟨⟨_, _, rfl, rfl⟩, [.dt (dtN (iT ms) ms)], rfl, ?_⟩
      rw [sLenTt]
      refine ⟨_, rfl, _, _, rfl, hs2, ks.map Int.ofNat, by rw [List.map_map]; rfl, by rw [List.length_map]; unfold scanBound; omega, fun cn hcn => ?_⟩
      have ecn : cn = (dd ks).length := by
        have := hcn ((dd ks).map Int.ofNat) (List.pairwise_map.mpr ((dd_nodup ks).imp fun {a b} hab e => hab (Int.ofNat.inj e))) fun k => by simp [dd_mem]
        rw [← this, List.length_map]
      subst ecn
      refine ⟨_, _, rfl, rfl, ?_⟩
      simp only [rdGt, sRdC]
      refine m5 _ ?_
      simp only [sDSet, sDVar]
      refine ⟨_, _, rfl, rfl, ?_⟩
      rw [dtN_length]
      refine mn ((R.length - (dd (nextK R ks ms)).length) + (if decide ((dd ks).length < ms.length) = true then 1 else 0)) _ ?_ ⟨nextK R ks ms, decide ((dd ks).length < ms.length), .im (.lst ((nextK R ks ms).map intD)), .ot (dtN (iT ms) ms), .im (.lst ((nextK R ks ms).map intD)), s6, s7, s8, s9, ?_, rfl, I.next ok MI, fun z => ?_, rfl⟩
      · rw [h2]
        by_cases e : (dd ks).length < ms.length
        · rw [decide_eq_true e]; simp; omega
        · rw [decide_eq_false e]; simp; omega
      · have e : decide (((dd ks).length : Int) < (ms.length : Int)) = decide ((dd ks).length < ms.length) := decide_eq_decide.mpr (by omega)
        have e5 : D.bl (decide (((dd ks).length : Int) < (ms.length : Int))) = D.bl (decide ((dd ks).length < ms.length)) := by rw [e]
        rw [← e5]
        rfl
      · exact kinds_done ok I MI (Nat.le_of_not_lt (of_decide_eq_false z))
theorem run_kinds_of (a : Ad) (ds : List D) (Q : D → Prop) (E : EX) (h : sp_kinds_of a ds Q E) : ds.length = 2 ∧ sem_kinds_of a { nx := fun _ => Q .non, rt := Q } (startD N_kinds_of.length ds) E := by
  obtain ⟨c, R, g, rfl, ok, hc, hg, hq⟩ := h
  refine ⟨rfl, ?_⟩
  have hR := ok.l2
  have ht : ∀ s, s < R.length → (g.map fun b => if b then 1 else 0).getD s 0 = if gdb g s then 1 else 0 := fun s hs => by
    unfold gdb
    rw [List.getD_eq_getElem?_getD, List.getElem?_map, List.getD_eq_getElem?_getD, List.getElem?_eq_getElem (show s < g.length by omega)]
    rfl
  have I : KInv c R g (g.map fun b => if b then 1 else 0) := by
    refine ⟨by simp [hg], fun i j hi hj h => ?_, fun i j hi hj h => ?_⟩
    · rw [ht i hi, ht j hj] at h
      cases h1 : gdb g i <;> cases h2 : gdb g j <;> simp [h1, h2] at h ⊢
    · rw [ht i hi, ht j hj] at h
      exact ⟨[], .nil, fun z => h (by rw [show gdb g i = gdb g j from z])⟩
  unfold sem_kinds_of
  refine seqN fun M m hrt _ _ => ?_
  simp
  refine lc_map (f := D.bl) (fun b => some (.int (if b then 1 else 0))) [.im (rowsD R), .im (.lst (blsD g)), .un, .un, .un, .un, .un, .un, .un, .un] rfl (by rw [sizeLine_eq]; omega) (fun b hb Rr hR => ?_) ?_
  · simp
    exact hR
  · refine ⟨by simp, m _ ?_⟩
    rw [filterMap_some_map]
    refine seqN fun M1 m1 hrt1 _ _ => ?_
    simp
    refine m1 _ ?_
    refine seqN fun M2 m2 hrt2 _ _ => ?_
    refine ki_loop ok hc I ?_ fun ks s2 s3 s4 s5 s6 s7 s8 s9 hK hs2 => m2 _ ?_
    · show some (D.lst _) = _
      congr 2
      rw [List.map_map]
      refine List.map_congr_left fun b _ => ?_
      cases b <;> rfl
    · simp [hs2]
      exact hq ks hK
end DL
-- K73m
set_option Elab.async false
set_option linter.all false
set_option maxRecDepth 100000
set_option maxHeartbeats 2000000
set_option autoImplicit false
namespace DL
open PySem PySem.Spec L2
open PyProof.Rows hiding St
/-! ### the machine of what was explored -/
structure Expl (c first : Nat) (f : Nat → Nat → Nat) (ss : List Nat) : Prop where
  nd : ss.Nodup
  hd : ss.head? = some first
  mem : ∀ s ∈ ss, Rc f c first s ∧ ∀ i, i ≤ c → f s i ∈ ss
def exT (f : Nat → Nat → Nat) (c : Nat) (ss : List Nat) : List (List Nat) := ss.map fun s => (List.range (c + 1)).map fun i => ss.idxOf (f s i)
section
variable {c first : Nat} {f : Nat → Nat → Nat} {ss : List Nat} {gd : Nat → Bool}
theorem Expl.frst (X : Expl c first f ss) : first ∈ ss ∧ ss.idxOf first = 0 := by
  have := X.hd
  cases ss with
  | nil => cases this
  | cons y ss => cases this; simp
theorem Expl.row (X : Expl c first f ss) {s : Nat} (h : s ∈ ss) : rowAt (exT f c ss) (ss.idxOf s) = (List.range (c + 1)).map fun i => ss.idxOf (f s i) := by
  have hl := List.idxOf_lt_length_of_mem h
  unfold rowAt exT
  rw [List.getD_eq_getElem?_getD, List.getElem?_map, List.getElem?_eq_getElem hl, List.getElem_idxOf hl]
  rfl
theorem Expl.nx (X : Expl c first f ss) {s i : Nat} (h : s ∈ ss) (hi : i ≤ c) : DL.nx (exT f c ss) (ss.idxOf s) i = ss.idxOf (f s i) := by
  unfold DL.nx
  rw [X.row h, List.getD_eq_getElem?_getD, List.getElem?_map, List.getElem?_range (by omega)]
  rfl
theorem Expl.run (X : Expl c first f ss) : ∀ (w : List Nat) {s : Nat}, s ∈ ss → Inks c w → DL.run (DL.nx (exT f c ss)) (ss.idxOf s) w = ss.idxOf (DL.run f s w) ∧ DL.run f s w ∈ ss
  | [], _, h, _ => ⟨rfl, h⟩
  | i :: w, s, h, hw => by
    rw [run_cons, run_cons, X.nx h hw.head]
    exact X.run w ((X.mem s h).2 i hw.head) hw.tail
theorem Expl.ok (X : Expl c first f ss) (h : ss.length ≤ 4000) : OkW (exT f c ss) c := by
  have h0 := List.length_pos_of_mem X.frst.1
  refine ⟨by unfold exT; rw [List.length_map]; exact h0, by unfold exT; rw [List.length_map]; exact h, fun r hr => ?_⟩
  obtain ⟨s, hs, rfl⟩ := List.mem_map.mp hr
  refine ⟨by simp, fun n hn => ?_⟩
  obtain ⟨i, hi, rfl⟩ := List.mem_map.mp hn
  unfold exT
  rw [List.length_map]
  exact List.idxOf_lt_length_of_mem ((X.mem s hs).2 i (by rw [List.mem_range] at hi; omega))
theorem Expl.good (X : Expl c first f ss) {s : Nat} (h : s ∈ ss) : gdb (ss.map gd) (ss.idxOf s) = gd s := by
  have hl := List.idxOf_lt_length_of_mem h
  unfold gdb
  rw [List.getD_eq_getElem?_getD, List.getElem?_map, List.getElem?_eq_getElem hl, List.getElem_idxOf hl]
  rfl
theorem Expl.reach (X : Expl c first f ss) : ∀ r, r < (exT f c ss).length → Rc (DL.nx (exT f c ss)) c 0 r := fun r hr => by
  unfold exT at hr
  rw [List.length_map] at hr
  obtain ⟨w, hw, e⟩ := (X.mem _ (List.getElem_mem hr)).1
  have := (X.run w X.frst.1 hw).1
  rw [X.frst.2, e, List.Nodup.idxOf_getElem X.nd r hr] at this
  exact ⟨w, hw, this⟩
end
section
variable {c : Nat} {R : List (List Nat)} {g : List Bool} {ks ss : List Nat}
def kf (R : List (List Nat)) (ks : List Nat) : Nat → Nat → Nat := fun k i => ks.getD (nx R (ks.idxOf k) i) 0
theorem ks_at {s : Nat} (h : s < ks.length) : ks.getD s 0 ∈ ks := by
  rw [List.getD_eq_getElem?_getD, List.getElem?_eq_getElem h]; exact List.getElem_mem _
theorem ks_idx {k : Nat} (h : k ∈ ks) : ks.getD (ks.idxOf k) 0 = k := by
  have hl := List.idxOf_lt_length_of_mem h
  rw [List.getD_eq_getElem?_getD, List.getElem?_eq_getElem hl]
  exact List.getElem_idxOf hl
theorem kf_nx (ok : OkW R c) (K : Kinds c R g ks) {r i : Nat} (hr : r < R.length) (hi : i ≤ c) : kf R ks (ks.getD r 0) i = ks.getD (nx R r i) 0 := by
  have hm : ks.getD r 0 ∈ ks := ks_at (by rw [K.len]; exact hr)
  have hl := List.idxOf_lt_length_of_mem hm
  rw [K.len] at hl
  exact K.next _ _ hl hr (ks_idx hm) i hi
theorem kf_run (ok : OkW R c) (K : Kinds c R g ks) : ∀ (w : List Nat) {r : Nat}, r < R.length → Inks c w → run (kf R ks) (ks.getD r 0) w = ks.getD (run (nx R) r w) 0 ∧ run (nx R) r w < R.length
  | [], _, h, _ => ⟨rfl, h⟩
  | i :: w, r, h, hw => by
    rw [run_cons, run_cons, kf_nx ok K h hw.head]
    exact kf_run ok K w (nxW_lt ok h hw.head) hw.tail
theorem least_hom (ok : OkW R c) (K : Kinds c R g ks) (X : Expl c (ks.getD 0 0) (kf R ks) ss) : Hom c (nx R) (gdb g) (nx (exT (kf R ks) c ss)) (gdb (ss.map fun k => gdb g (ks.idxOf k))) := by
  have h0 := ok.l1
  refine ⟨fun r => ss.idxOf (ks.getD r 0), X.frst.2, fun r ⟨w, hw, e⟩ => ?_⟩
  subst e
  obtain ⟨e1, e2⟩ := kf_run ok K w (r := 0) (by omega) hw
  obtain ⟨e3, e4⟩ := X.run w X.frst.1 hw
  rw [e1] at e4
  have hm : ks.getD (run (nx R) 0 w) 0 ∈ ks := ks_at (by rw [K.len]; exact e2)
  have hl := List.idxOf_lt_length_of_mem hm
  rw [K.len] at hl
  refine ⟨?_, fun i hi => ?_⟩
  · rw [X.good e4]
    exact K.good _ _ hl e2 (ks_idx hm)
  · rw [X.nx e4 hi, kf_nx ok K e2 hi]
theorem least_trim (ok : OkW R c) (K : Kinds c R g ks) (X : Expl c (ks.getD 0 0) (kf R ks) ss) (hss : ∀ s ∈ ss, s ∈ ks) : Trim c (exT (kf R ks) c ss).length (nx (exT (kf R ks) c ss)) (gdb (ss.map fun k => gdb g (ks.idxOf k))) := by
  refine ⟨X.reach, fun r s hr hs hne => ?_⟩
  unfold exT at hr hs
  rw [List.length_map] at hr hs
  have hr2 := hss _ (List.getElem_mem hr)
  have hs2 := hss _ (List.getElem_mem hs)
  have l1 := List.idxOf_lt_length_of_mem hr2
  have l2 := List.idxOf_lt_length_of_mem hs2
  rw [K.len] at l1 l2
  obtain ⟨w, hw, hg⟩ := K.apart _ _ l1 l2 (by
    rw [ks_idx hr2, ks_idx hs2]
    exact fun z => hne ((List.getElem_inj X.nd).mp z))
  refine ⟨w, hw, ?_⟩
  have go : ∀ (r : Nat) (hr : r < ss.length), gdb (ss.map fun k => gdb g (ks.idxOf k)) (run (nx (exT (kf R ks) c ss)) r w) = gdb g (run (nx R) (ks.idxOf ss[r]) w) := fun r hr => by
    have hm := hss _ (List.getElem_mem hr)
    have l := List.idxOf_lt_length_of_mem hm
    rw [K.len] at l
    obtain ⟨e3, e4⟩ := X.run w (List.getElem_mem hr) hw
    obtain ⟨e1, e2⟩ := kf_run ok K w l hw
    rw [ks_idx hm] at e1
    have e5 := List.Nodup.idxOf_getElem X.nd r hr
    rw [e5] at e3
    rw [e3, X.good e4]
    rw [e1] at e4 ⊢
    have hm2 : ks.getD (run (nx R) (ks.idxOf ss[r]) w) 0 ∈ ks := hss _ e4
    have l2 := List.idxOf_lt_length_of_mem hm2
    rw [K.len] at l2
    exact K.good _ _ l2 e2 (ks_idx hm2)
  rw [go r hr, go s hs]
  exact hg
end
end DL
-- K73n
set_option Elab.async false
set_option linter.all false
set_option maxRecDepth 100000
set_option maxHeartbeats 2000000
set_option autoImplicit false
namespace DL
open PySem PySem.Spec L2
open PyProof.Rows hiding St
abbrev hdS : DTS := (dIfS (dCmpT rdNotIn (dB 6) (dB 4))
  (dSetIx 4 (dVar 5) (dVar 6))
  dNext)
def hdD (ks : List Nat) : Nat → D := fun k => intD (ks.idxOf k)
theorem heads_loop {N : DEnds} {E : EX} {ks : List Nat} {s0 s1 s2 s3 s5 s6 s7 s8 s9 : Sl} (hk : ks.length ≤ 4000) (hs3 : s3.er = some (.lst (ks.map intD)))
    (h : ∀ (hl : List Nat) (s5 s6 : Sl), (∀ k, k ∈ hl ↔ k ∈ ks) → N.nx [s0, s1, s2, .im (.lst (ks.map intD)), .ok (dkN (hdD ks) hl), s5, s6, s7, s8, s9]) :
    dFor (dEnum (dCons (dVar 3) dNil)) (dgTup 2 (dgCons (dgName 5) (dgCons (dgName 6) dgNil))) hdS N [s0, s1, s2, s3, .ok [], s5, s6, s7, s8, s9] E := by
  simp only [sFor, sEnum, sDCons, sDNil, sDVar]
  refine ⟨_, _, rfl, hs3, _, rfl, ?_⟩
  refine forEN (fun i Δ => ∃ hl s5 s6, Δ = [s0, s1, s2, .im (.lst (ks.map intD)), .ok (dkN (hdD ks) hl), s5, s6, s7, s8, s9] ∧ hl.length ≤ i ∧ ∀ k, k ∈ hl ↔ k ∈ ks.take i) ⟨[], s5, s6, rfl, Nat.le_refl _, fun k => by simp⟩ ?_ ?_
  · rintro i k Δ hi ⟨hl, s5, s6, rfl, hlen, hm⟩ M m _ _ _
    have hil := (List.getElem?_eq_some_iff.mp hi).1
    simp only [sDgTup, sDgCons, sDgNil, sDgName]
    refine ⟨_, .inl rfl, rfl, _, _, rfl, _, _, rfl, rfl, ?_⟩
    have et : ∀ z, z ∈ ks.take (i + 1) ↔ z ∈ ks.take i ∨ z = k := fun z => by rw [List.take_add_one, hi]; simp
    show hdS _ [s0, s1, s2, .im (.lst (ks.map intD)), .ok (dkN (hdD ks) hl), .im (intD i), .im (intD k), s7, s8, s9] E
    refine ifN (b := !decide (k ∈ hl)) (fun Q q => ?_) (fun hn => ?_) fun hn => ?_
    · have e := isSome_dkN (f := hdD ks) (x := k) (L := hl)
      simp
      rw [← Option.not_isSome, e]
      exact q
    · have hn : k ∉ hl := by simpa using hn
      have hid : ks.idxOf k = i := by
        have hnt : k ∉ ks.take i := fun z => hn ((hm k).mpr z)
        have e : ks = ks.take i ++ k :: ks.drop (i + 1) := by
          have h1 := (List.take_append_drop i ks).symm
          rw [List.drop_eq_getElem_cons hil] at h1
          rw [(List.getElem?_eq_some_iff.mp hi).2] at h1
          exact h1
        rw [e, List.idxOf_append, if_neg hnt, List.length_take]
        simp
        omega
      refine setIxK rfl ?_
      simp [dkN_length]
      refine ⟨by rw [sizeLine_eq]; omega, ?_⟩
      have hp : put (dkN (hdD ks) hl) (Sum.inl (k : Int)) (intD i) = dkN (hdD ks) (hl ++ [k]) := by
        rw [← put_new (f := hdD ks) hn]
        congr 1
        unfold hdD; rw [hid]
      rw [hp]
      exact m _ ⟨hl ++ [k], _, _, rfl, by simp; omega, fun z => by rw [List.mem_append, et, hm]; simp⟩
    · have hn : k ∈ hl := by simpa using hn
      exact m _ ⟨hl, _, _, rfl, by omega, fun z => by rw [et, hm]; exact ⟨.inl, fun y => y.elim id fun e => e ▸ (hm k).mp hn⟩⟩
  · rintro Δ ⟨hl, s5, s6, rfl, hlen, hm⟩
    exact h hl _ _ fun k => by rw [hm, List.take_of_length_le (Nat.le_refl _)]
theorem run_shrunk (a : Ad) (k0 k1 : Clo) (ds : List D) (Q : D → Prop) (E : EX) (h : sp_shrunk a ds Q E) : ds.length = 3 ∧ sem_shrunk a k0 k1 { nx := fun _ => Q .non, rt := Q } (startD N_shrunk.length ds) E := by
  obtain ⟨c, R, g, rfl, ok, hc1, hc, hg, hq⟩ := h
  refine ⟨rfl, ?_⟩
  have hR := ok.l2
  have hR1 := ok.l1
  unfold sem_shrunk
  refine seqN fun M m hrt _ _ => ?_
  simp
  refine ⟨c, R, g, rfl, ok, hc, hg, fun ks K => m _ ?_⟩
  refine seqN fun M1 m1 _ _ _ => ?_
  simp only [sDSetM, sDDict0]
  refine .inl ⟨by simp, m1 _ ?_⟩
  refine seqN fun M2 m2 _ _ _ => ?_
  refine heads_loop (by rw [K.len]; exact hR) rfl fun hl s5 s6 hhl => m2 _ ?_
  refine seqN fun M3 m3 _ _ _ => ?_
  have hk0 : ks.getD 0 0 ∈ ks := ks_at (by rw [K.len]; omega)
  have e0 : atI (ks.map intD) 0 = some (intD (ks.getD 0 0)) := at_nats (s := 0) (by rw [K.len]; omega)
  simp only [sDAsg, sFrz, sFnF, sDCons, sDVar, sDIx, sDB, sDO, sDC, sDNil]
  refine ⟨_, _, rfl, rfl, _, _, rfl, rfl, ⟨_, _, rfl, rfl⟩, _, _, rfl, rfl, ?_⟩
  rw [sIxL]
  refine ⟨_, e0, _, rfl, ?_⟩
  refine ⟨c, ks.getD 0 0, kf R ks, fun k => gdb g (ks.idxOf k), k1, k0, ks, rfl, hc, by rw [K.len]; exact hR, hk0, fun s hs i hi => ?_, fun s hs i hi Q' E' hQ => ?_, fun s hs Q' E' hQ => ?_, fun ss nd hss hd hmem => ?_⟩
  · have l := List.idxOf_lt_length_of_mem hs
    rw [K.len] at l
    exact ks_at (by rw [K.len]; exact nxW_lt ok l hi)
  · have l := List.idxOf_lt_length_of_mem hs
    rw [K.len] at l
    have hv : val (dkN (hdD ks) hl) (Sum.inl (s : Int)) = some (hdD ks s) := val_in ((hhl s).mpr hs)
    refine .inl ⟨rfl, rfl, ?_⟩
    have er : (R.map fun r => D.lst (r.map intD))[ks.idxOf s]? = some (.lst ((rowAt R (ks.idxOf s)).map intD)) := by
      unfold rowAt
      rw [List.getElem?_map, List.getElem?_eq_getElem l, List.getD_eq_getElem?_getD, List.getElem?_eq_getElem l]
      rfl
    have hrow := rowW ok l
    have ei : ((rowAt R (ks.idxOf s)).map intD)[i]? = some (intD (nx R (ks.idxOf s) i)) := by
      unfold nx
      generalize rowAt R (ks.idxOf s) = row at hrow ⊢
      have hrow := hrow.1
      rw [List.getElem?_map, List.getElem?_eq_getElem (show i < row.length by omega), List.getD_eq_getElem?_getD, List.getElem?_eq_getElem (show i < row.length by omega)]
      rfl
    have ek := at_nats (ks := ks) (s := nx R (ks.idxOf s) i) (by rw [K.len]; exact nxW_lt ok l hi)
    simp [intD, rowsD, hv, hdD, atI_nat, er, ei]
    have lx := nxW_lt ok l hi
    rw [← K.len] at lx
    exact ⟨_, ⟨_, List.getElem?_eq_getElem lx, rfl⟩, by
      have e : (D.int ((ks[nx R (ks.idxOf s) i] : Nat) : Int)) = intD (kf R ks s i) := by
        unfold kf intD
        rw [List.getD_eq_getElem?_getD, List.getElem?_eq_getElem lx]
        rfl
      rw [e]; exact hQ⟩
  · have l := List.idxOf_lt_length_of_mem hs
    rw [K.len] at l
    have hv : val (dkN (hdD ks) hl) (Sum.inl (s : Int)) = some (hdD ks s) := val_in ((hhl s).mpr hs)
    refine .inr (.inl ⟨rfl, rfl, ?_⟩)
    have eg := at_good (g := g) (r := ks.idxOf s) (by omega)
    rw [atI_nat] at eg
    simp [intD, hv, hdD, atI_nat, eg]
    exact hQ
  · have X : Expl c (ks.getD 0 0) (kf R ks) ss := ⟨nd, hd, fun s hs => ⟨(hmem s hs).2.1, (hmem s hs).2.2⟩⟩
    have okT := X.ok (by rw [K.len] at hss; omega)
    have hlenT : (exT (kf R ks) c ss).length = ss.length := by unfold exT; rw [List.length_map]
    have hfin := hq (exT (kf R ks) c ss) (ss.map fun k => gdb g (ks.idxOf k)) okT (by rw [List.length_map, hlenT]) (by rw [hlenT, ← K.len]; exact hss) (least_hom ok K X) (least_trim ok K X fun s hs => (hmem s hs).1)
    rw [hlenT] at hfin
    have eT : (ss.map fun s => D.lst ((List.range (c + 1)).map fun i => intD (ss.idxOf (kf R ks s i)))) = (exT (kf R ks) c ss).map fun r => .lst (r.map intD) := by
      unfold exT
      rw [List.map_map]
      refine List.map_congr_left fun s _ => ?_
      simp [List.map_map]
    have eG : (ss.map fun s => D.bl ((fun k => gdb g (ks.idxOf k)) s)) = blsD (ss.map fun k => gdb g (ks.idxOf k)) := by
      unfold blsD; rw [List.map_map]; rfl
    rw [eT, eG]
    have okTl := okT.l2
    generalize hT' : exT (kf R ks) c ss = T' at hfin okT hlenT okTl
    generalize hg' : (ss.map fun k => gdb g (ks.idxOf k)) = g' at hfin
    have hgl : g'.length = T'.length := by rw [← hg', List.length_map, hlenT]
    simp only [sDgTup, sDgCons, sDgNil, sDgName]
    refine ⟨_, .inl rfl, rfl, _, _, rfl, _, _, rfl, rfl, m3 _ ?_⟩
    refine seqN fun M4 m4 hrt4 _ _ => ?_
    refine ifN (b := decide (60 < T'.length)) (fun QQ q => ?_) (fun hn => ?_) fun hn => m4 _ ?_
    · simp
      have e : decide ((60 : Int) < (T'.length : Int)) = decide (60 < T'.length) := decide_eq_decide.mpr (by omega)
      rw [e]; exact q
    · have hn := of_decide_eq_true hn
      rw [if_neg (by omega)] at hfin
      simp
      exact hfin
    · have hn := of_decide_eq_false hn
      rw [if_pos (by omega)] at hfin
      simp
      refine lc_map (fun r => some (rowD r)) [.im (intD c), .im (rowsD R), .im (.lst (blsD g)), .im (.lst (ks.map intD)), .im (.dk (dkN (hdD ks) hl)), s5, s6, .im (.lst (T'.map fun r => .lst (r.map intD))), .im (.lst (blsD g')), .un] rfl (by rw [sizeLine_eq]; omega) (fun r hr Rr hR => ?_) ?_
      · simp
        exact hR
      · rw [filterMap_some_map]
        simp
        have ok' : OkM c T' g' := ⟨hc1, hc, ⟨okT.l1, by omega, okT.row⟩, hgl⟩
        exact ⟨c, T', g', rfl, ok', hfin⟩
theorem hom_run {c : Nat} {f f' : Nat → Nat → Nat} {h : Nat → Nat} {g g' : Nat → Bool} (h0 : h 0 = 0) (hh : ∀ r, Rc f c 0 r → g' (h r) = g r ∧ ∀ i, i ≤ c → h (f r i) = f' (h r) i) : ∀ (w : List Nat) {r : Nat}, Rc f c 0 r → Inks c w → h (run f r w) = run f' (h r) w
  | [], _, _, _ => rfl
  | i :: w, r, hr, hw => by
    rw [run_cons, run_cons, ← (hh r hr).2 i hw.head]
    exact hom_run h0 hh w (.snoc hw.head hr) hw.tail
theorem Hom.trans {c : Nat} {f f' f'' : Nat → Nat → Nat} {g g' g'' : Nat → Bool} (a : Hom c f g f' g') (b : Hom c f' g' f'' g'') : Hom c f g f'' g'' := by
  obtain ⟨h, h0, hh⟩ := a
  obtain ⟨k, k0, kk⟩ := b
  refine ⟨fun r => k (h r), show k (h 0) = 0 by rw [h0, k0], fun r hr => ?_⟩
  have hr' : Rc f' c 0 (h r) := by
    obtain ⟨w, hw, e⟩ := hr
    have := hom_run h0 hh w .refl hw
    rw [h0, e] at this
    exact ⟨w, hw, this.symm⟩
  obtain ⟨p1, p2⟩ := hh r hr
  obtain ⟨q1, q2⟩ := kk _ hr'
  exact ⟨q1.trans p1, fun i hi => show k (h (f r i)) = f'' (k (h r)) i by rw [p2 i hi, q2 i hi]⟩
theorem expl_hom {c : Nat} {f : Nat → Nat → Nat} {gd : Nat → Bool} {ss : List Nat} (X : Expl c 0 f ss) : Hom c f gd (nx (exT f c ss)) (gdb (ss.map gd)) := by
  refine ⟨fun r => ss.idxOf r, X.frst.2, fun r ⟨w, hw, e⟩ => ?_⟩
  have hr := (X.run w X.frst.1 hw).2
  rw [e] at hr
  exact ⟨X.good hr, fun i hi => (X.nx hr hi).symm⟩
theorem run_least (a : Ad) (k0 k1 : Clo) (ds : List D) (Q : D → Prop) (E : EX) (h : sp_least a ds Q E) : ds.length = 1 ∧ sem_least a k0 k1 { nx := fun _ => Q .non, rt := Q } (startD N_least.length ds) E := by
  obtain ⟨c, T, g, rfl, ok, hq⟩ := h
  refine ⟨rfl, ?_⟩
  have h2 := ok.t.l2
  have h1 := ok.t.l1
  have hc := ok.c2
  unfold sem_least
  refine seqN fun M m hrt _ _ => ?_
  simp
  refine ⟨a.Machine, _, rfl, rfl, _, mch_colours, _, rfl, ?_⟩
  refine ⟨c, 0, nx T, gdb g, k1, k0, List.range T.length, rfl, hc, by rw [List.length_range]; omega, List.mem_range.mpr (by omega), fun s hs i hi => ?_, fun s hs i hi Q' E' hQ => ?_, fun s hs Q' E' hQ => ?_, fun ss nd hss hd hmem => ?_⟩
  · rw [List.mem_range] at hs ⊢
    exact nx_lt ok.t hs hi
  · rw [List.mem_range] at hs
    refine .inl ⟨rfl, rfl, ?_⟩
    have hrow := row_of ok.t hs
    have er := at_row hs
    simp
    refine ⟨a.Machine, _, rfl, rfl, _, mch_table, ?_⟩
    unfold tblD
    rw [show intD s = D.int (s : Int) from rfl, show intD i = D.int (i : Int) from rfl]
    simp [er]
    unfold rowD
    have ei : atI ((rowAt T s).map intD) (i : Int) = some (intD (nx T s i)) := by
      unfold nx
      generalize rowAt T s = row at hrow ⊢
      have hrow := hrow.1
      rw [atI_nat, List.getElem?_map, List.getElem?_eq_getElem (show i < row.length by omega), List.getD_eq_getElem?_getD, List.getElem?_eq_getElem (show i < row.length by omega)]
      rfl
    simp only [sIxT]
    exact ⟨_, ei, hQ⟩
  · rw [List.mem_range] at hs
    refine .inr (.inl ⟨rfl, rfl, ?_⟩)
    simp
    refine ⟨a.Machine, _, rfl, rfl, _, mch_good, ?_⟩
    rw [show intD s = D.int (s : Int) from rfl]
    simp only [sIxT]
    exact ⟨_, at_good (by rw [ok.g]; exact hs), hQ⟩
  · rw [List.length_range] at hss
    have X : Expl c 0 (nx T) ss := ⟨nd, hd, fun s hs => ⟨(hmem s hs).2.1, (hmem s hs).2.2⟩⟩
    have okT := X.ok (by omega)
    have hlenT : (exT (nx T) c ss).length = ss.length := by unfold exT; rw [List.length_map]
    have eT : (ss.map fun s => D.lst ((List.range (c + 1)).map fun i => intD (ss.idxOf (nx T s i)))) = (exT (nx T) c ss).map fun r => .lst (r.map intD) := by
      unfold exT
      rw [List.map_map]
      refine List.map_congr_left fun s _ => ?_
      simp [List.map_map]
    have eG : (ss.map fun s => D.bl (gdb g s)) = blsD (ss.map (gdb g)) := by
      unfold blsD; rw [List.map_map]; rfl
    rw [eT, eG]
    refine ⟨_, .inl rfl, rfl, _, _, rfl, _, _, rfl, rfl, m _ ?_⟩
    simp
    refine ⟨a.Machine, _, rfl, rfl, _, mch_colours, ?_⟩
    refine ⟨c, exT (nx T) c ss, ss.map (gdb g), rfl, okT, ok.c1, hc, by rw [List.length_map, hlenT], fun T' g' ok' hg' hlen hhom htrim => ?_⟩
    rw [if_pos (by omega)]
    exact hq T' g' ⟨ok.c1, hc, ⟨ok'.l1, by omega, ok'.row⟩, hg'⟩ (by omega) ((expl_hom X).trans hhom) htrim
end DL
-- K73i
set_option Elab.async false
set_option linter.all false
set_option maxRecDepth 100000
set_option maxHeartbeats 2000000
set_option autoImplicit false
namespace DL
open PySem PySem.Spec L2
open PyProof.Rows hiding St
/-! ### _law_mixed -/
abbrev st__law_mixed : Stmt := top 29
abbrev N__law_mixed : List Str := ["draw", "great", "turn", "found", "blend", "cell"]
theorem sc__law_mixed : FnScope N__law_mixed ["draw"] (defScope st__law_mixed) := ⟨rfl, rfl, rfl, by decide +kernel, rfl, by decide +kernel, by decide +kernel⟩
def sem__law_mixed (a : Ad) : DTS :=
  (dSeq (dPutI 0 (dClean (dOpM rdAdd (dO (dAnyI 0)) (dO (dC (.int 1))))))
  (dSeq (dPar2 2 3 (dConsM (dBlt rdInt (dConsO (dO (dAnyI 0)) dNilO)) (dConsM (dIm (dC (.int 0))) dNilM)))
  (dSeq (dFor (dSeqI (dClean (dLst (dCons (dC (.int 2147483647)) (dCons (dC (.int 2147483629)) (dCons (dC (.int 2147483587)) dNil)))))) (dgName 1)
  (dSeq (dSet 4 (dClean (dOpM rdMod (dO (dClean (dOpM rdAdd (dO (dClean (dOpM rdMul (dB 2) (dO (dC (.int 48271)))))) (dO (dClean (dOpM rdDiv (dB 1) (dO (dC (.int 11))))))))) (dB 1))))
  (dSeq (dFor (dCells 0) (dgName 5)
  (dSet 4 (dClean (dOpM rdMod (dO (dClean (dOpM rdAdd (dO (dClean (dOpM rdAdd (dO (dClean (dOpM rdMul (dB 4) (dO (dC (.int 69621)))))) (dO (dClean (dBlt rdInt (dConsO (dB 5) dNilO))))))) (dB 2)))) (dB 1)))))
  (dSetM 3 (dOpM rdAdd (dO (dClean (dOpM rdMul (dB 3) (dO (dC (.int 2147483659)))))) (dO (dClean (dOpM rdMod (dO (dClean (dOpM rdPow (dB 4) (dO (dC (.int 5)))))) (dB 1)))))))))
  (dRet (dVar 3)))))
theorem body__law_mixed {P : Program} {w : World} {K : PySem.W.Frag} {mg : Str → Option Value} {base : Heap} {a : Ad} {f : Addr} (T : Txt K mg a) {cdv : Value} {A : Around} {outer : List Env} {s : Shared} {H : Hp} {E : XK} {W : Wd K} {H0 B : Hp} {Ed : EX} {hE : ∀ C H' B', Ed C → Grow W H0 B H' B' → E (.ref C) none H'}
    (hr : Room 0 (A.deeper (envOfC "_law_mixed" (defScope st__law_mixed) s.heap.objs.size f cdv))) : PSs (cxB P w K mg base N__law_mixed "_law_mixed" st__law_mixed f cdv A outer s H E) (defBody st__law_mixed) (upS (⟨W, H0, B, E, Ed, hE⟩ : Gx K) (sem__law_mixed a)) :=
  have sc := sc__law_mixed
  (dss_cons (ds_putTurn 0 (DL.hu_of hr) (de_of_m (dm_op op_add5 r2_add (do_of_e (de_turn 0 (DL.hu_of hr))) (do_of_e de_int))))
  (dss_cons (ds_par2 (i := 2) (j := 3) rfl sc.nd (dma_cons (dm_callTy call_int1 rc_int (by rfl) T.z_int (by decide +kernel) (dao_cons (do_of_e (de_turn 0 (DL.hu_of hr))) dao_nil)) fun _ _ => (dma_cons (dm_of_e de_int) fun _ _ => dma_nil)))
  (dss_cons (ds_for (passes_of rfl) rfl (di_seq (de_of_m (dm_lst (da_cons de_int (da_cons de_int (da_cons de_int da_nil)))))) (dg_name (i := 1) sc.nd)
  (dss_cons (ds_set (i := 4) sc.nd (de_of_m (dm_op op_mod r2_int (do_of_e (de_of_m (dm_op op_add5 r2_add (do_of_e (de_of_m (dm_op op_mul3 r2_mul (do_name 2) (do_of_e de_int)))) (do_of_e (de_of_m (dm_op op_fdiv r2_int (do_name 1) (do_of_e de_int))))))) (do_name 1))))
  (dss_cons (ds_for (passes_of rfl) rfl (di_cells 0 (DL.hu_of hr)) (dg_name (i := 5) sc.nd)
  (dss_one (ds_set (i := 4) sc.nd (de_of_m (dm_op op_mod r2_int (do_of_e (de_of_m (dm_op op_add5 r2_add (do_of_e (de_of_m (dm_op op_add5 r2_add (do_of_e (de_of_m (dm_op op_mul3 r2_mul (do_name 4) (do_of_e de_int)))) (do_of_e (de_of_m (dm_callTy call_int1 rc_int (by rfl) T.z_int (by decide +kernel) (dao_cons (do_name 5) dao_nil))))))) (do_name 2)))) (do_name 1))))))
  (dss_one (ds_setM (i := 3) sc.nd (dm_op op_add5 r2_add (do_of_e (de_of_m (dm_op op_mul3 r2_mul (do_name 3) (do_of_e de_int)))) (do_of_e (de_of_m (dm_op op_mod r2_int (do_of_e (de_of_m (dm_op op_pow r2_int (do_name 4) (do_of_e de_int)))) (do_name 1))))))))))
  (dss_one (ds_ret (de_var 3))))))

/-! ### _law_take -/
abbrev st__law_take : Stmt := top 30
abbrev N__law_take : List Str := ["draw", "amount", "found"]
theorem sc__law_take : FnScope N__law_take ["draw", "amount"] (defScope st__law_take) := ⟨rfl, rfl, rfl, by decide +kernel, rfl, by decide +kernel, by decide +kernel⟩
def sem__law_take (a : Ad) : DTS :=
  (dSeq (dIfS (dCmpT rdEq (dO (dAnyI 0)) (dO (dC (.int 0))))
  (dPutI 0 (dLarge 0))
  dNext)
  (dSeq (dSet 2 (dClean (dOpM rdMod (dO (dClean (dBlt rdInt (dConsO (dO (dAnyI 0)) dNilO)))) (dB 1))))
  (dSeq (dPutI 0 (dClean (dOpM rdDiv (dO (dClean (dBlt rdInt (dConsO (dO (dAnyI 0)) dNilO)))) (dB 1))))
  (dRet (dVar 2)))))
theorem body__law_take {P : Program} {w : World} {K : PySem.W.Frag} {mg : Str → Option Value} {base : Heap} {a : Ad} {f : Addr} (T : Txt K mg a) (c__law_mixed : Cal P w K mg base 1 "_law_mixed" ["draw"] (sp__law_mixed a)) {cdv : Value} {A : Around} {outer : List Env} {s : Shared} {H : Hp} {E : XK} {W : Wd K} {H0 B : Hp} {Ed : EX} {hE : ∀ C H' B', Ed C → Grow W H0 B H' B' → E (.ref C) none H'}
    (hr : Room 1 (A.deeper (envOfC "_law_take" (defScope st__law_take) s.heap.objs.size f cdv))) : PSs (cxB P w K mg base N__law_take "_law_take" st__law_take f cdv A outer s H E) (defBody st__law_take) (upS (⟨W, H0, B, E, Ed, hE⟩ : Gx K) (sem__law_take a)) :=
  have sc := sc__law_take
  (dss_cons (ds_if (dt_cmp (op_eqD hr.units) r2_eq (do_of_e (de_rest 0 (DL.hu_of hr))) (do_of_e de_int))
  (dss_one (ds_putRest 0 (DL.hu_of hr) (de_large 0 hr (de_cal (c__law_mixed.mono (by decide)) hr (pass_up (takes_of rfl rfl rfl rfl)) (da_cons (de_var 0) da_nil)) (ht_mixed fun Q E h => sp_mixed_any h))))
  dss_nil)
  (dss_cons (ds_set (i := 2) sc.nd (de_of_m (dm_op op_mod r2_int (do_of_e (de_of_m (dm_callTy call_int1 rc_int (by rfl) T.z_int (by decide +kernel) (dao_cons (do_of_e (de_rest 0 (DL.hu_of hr))) dao_nil)))) (do_name 1))))
  (dss_cons (ds_putRest 0 (DL.hu_of hr) (de_of_m (dm_op op_fdiv r2_int (do_of_e (de_of_m (dm_callTy call_int1 rc_int (by rfl) T.z_int (by decide +kernel) (dao_cons (do_of_e (de_rest 0 (DL.hu_of hr))) dao_nil)))) (do_name 1))))
  (dss_one (ds_ret (de_var 2))))))

/-! ### _law_pick -/
abbrev st__law_pick : Stmt := top 31
abbrev N__law_pick : List Str := ["draw", "some"]
theorem sc__law_pick : FnScope N__law_pick ["draw", "some"] (defScope st__law_pick) := ⟨rfl, rfl, rfl, by decide +kernel, rfl, by decide +kernel, by decide +kernel⟩
def sem__law_pick (a : Ad) : DTS :=
  (dRet (dIx (dB 1) (dO (dFn (sp__law_take a) (dCons (dVar 0) (dCons (dClean (dBlt rdLen (dConsO (dB 1) dNilO))) dNil))))))
theorem body__law_pick {P : Program} {w : World} {K : PySem.W.Frag} {mg : Str → Option Value} {base : Heap} {a : Ad} {f : Addr} (T : Txt K mg a) (c__law_take : Cal P w K mg base 2 "_law_take" ["draw", "amount"] (sp__law_take a)) {cdv : Value} {A : Around} {outer : List Env} {s : Shared} {H : Hp} {E : XK} {W : Wd K} {H0 B : Hp} {Ed : EX} {hE : ∀ C H' B', Ed C → Grow W H0 B H' B' → E (.ref C) none H'}
    (hr : Room 2 (A.deeper (envOfC "_law_pick" (defScope st__law_pick) s.heap.objs.size f cdv))) : PSs (cxB P w K mg base N__law_pick "_law_pick" st__law_pick f cdv A outer s H E) (defBody st__law_pick) (upS (⟨W, H0, B, E, Ed, hE⟩ : Gx K) (sem__law_pick a)) :=
  have sc := sc__law_pick
  (dss_one (ds_ret (de_ix (DL.hu_of hr) (do_name 1) (do_of_e (de_cal (c__law_take.mono (by decide)) hr (pass_up (takes_of rfl rfl rfl rfl)) (da_cons (de_var 0) (da_cons (de_of_m (dm_callB call_len2 rc_len (by rfl) T.z_len (by decide +kernel) (dao_cons (do_name 1) dao_nil))) da_nil)))))))

/-! ### _law_table -/
abbrev st__law_table : Stmt := top 32
abbrev N__law_table : List Str := ["draw", "rooms", "colours", "room", "dense", "good", "way", "table", "row", "ink", "goals"]
theorem sc__law_table : FnScope N__law_table ["draw", "rooms", "colours"] (defScope st__law_table) := ⟨rfl, rfl, rfl, by decide +kernel, rfl, by decide +kernel, by decide +kernel⟩
def sem__law_table (a : Ad) : DTS :=
  (dSeq (dPar2 6 7 (dConsM (dIm (dFn (sp__law_take a) (dCons (dVar 0) (dCons (dC (.int 6)) dNil)))) (dConsM (dLst dNil) dNilM)))
  (dSeq (dFor (dRng1 (dCons (dVar 1) dNil)) (dgName 3)
  (dSeq (dSetM 8 (dLst dNil))
  (dSeq (dFor (dRng1 (dCons (dClean (dOpM rdAdd (dB 2) (dO (dC (.int 1))))) dNil)) (dgName 9)
  (dSeq (dSetM 10 (dLst (dCons (dFn (sp__law_take a) (dCons (dVar 0) (dCons (dVar 1) dNil))) dNil)))
  (dSeq (dIfS (dCmpT rdEq (dB 6) (dO (dC (.int 0))))
  (dSetM 10 (dLst (dCons (dClean (dOpM rdMod (dO (dClean (dOpM rdAdd (dB 3) (dO (dC (.int 1)))))) (dB 1))) (dCons (dClean (dOpM rdMod (dO (dClean (dOpM rdAdd (dB 3) (dO (dC (.int 1)))))) (dB 1))) (dCons (dC (.int 0)) dNil)))))
  dNext)
  (dSeq (dIfS (dCmpT rdEq (dB 6) (dO (dC (.int 1))))
  (dSetM 10 (dLst (dCons (dVar 3) (dCons (dClean (dBlt rdMin2 (dConsO (dO (dClean (dOpM rdAdd (dB 3) (dO (dC (.int 1)))))) (dConsO (dO (dClean (dOpM rdSub (dB 1) (dO (dC (.int 1)))))) dNilO)))) dNil))))
  dNext)
  (dSeq (dIfS (dCmpT rdEq (dB 6) (dO (dC (.int 2))))
  (dSetM 10 (dLst (dCons (dClean (dBlt rdMin2 (dConsO (dO (dClean (dOpM rdAdd (dO (dClean (dOpM rdAdd (dB 3) (dO (dC (.int 1)))))) (dO (dFn (sp__law_take a) (dCons (dVar 0) (dCons (dC (.int 2)) dNil))))))) (dConsO (dO (dClean (dOpM rdSub (dB 1) (dO (dC (.int 1)))))) dNilO)))) dNil)))
  dNext)
  (dSeq (dIfS (dCmpT rdEq (dB 6) (dO (dC (.int 3))))
  (dSetM 10 (dLst (dCons (dClean (dOpM rdMod (dO (dClean (dOpM rdAdd (dB 3) (dB 9)))) (dB 1))) (dCons (dFn (sp__law_take a) (dCons (dVar 0) (dCons (dVar 1) dNil))) (dCons (dClean (dOpM rdSub (dB 1) (dO (dC (.int 1))))) dNil)))))
  dNext)
  (dSeq (dIfS (dAnd (dCmpT rdEq (dB 6) (dO (dC (.int 4)))) (dCmpT rdEq (dB 3) (dO (dClean (dOpM rdSub (dB 1) (dO (dC (.int 1))))))))
  (dSetM 10 (dLst (dCons (dVar 3) dNil)))
  dNext)
  (dAppend 8 (dCons (dFn (sp__law_pick a) (dCons (dVar 0) (dCons (dVar 10) dNil))) dNil)))))))))
  (dAppend 7 (dCons (dClean (dBlt rdTuple (dConsO (dB 8) dNilO))) dNil)))))
  (dSeq (dSet 4 (dFn (sp__law_pick a) (dCons (dVar 0) (dCons (dClean (dLst (dCons (dC (.int 1)) (dCons (dC (.int 1)) (dCons (dC (.int 2)) (dCons (dC (.int 3)) dNil)))))) dNil))))
  (dSeq (dSet 5 (dClean (dBlt rdTuple (dConsO (dO (dClean (dLC [3] (dRng1 (dCons (dVar 1) dNil)) (dgName 3) dYes (dCmpE rdLt (dO (dFn (sp__law_take a) (dCons (dVar 0) (dCons (dC (.int 4)) dNil)))) (dB 4))))) dNilO))))
  (dRet (dTup (dCons (dClean (dBlt rdTuple (dConsO (dB 7) dNilO))) (dCons (dVar 5) dNil))))))))
theorem body__law_table {P : Program} {w : World} {K : PySem.W.Frag} {mg : Str → Option Value} {base : Heap} {a : Ad} {f : Addr} (T : Txt K mg a) (c__law_take : Cal P w K mg base 2 "_law_take" ["draw", "amount"] (sp__law_take a)) (c__law_pick : Cal P w K mg base 3 "_law_pick" ["draw", "some"] (sp__law_pick a)) {cdv : Value} {A : Around} {outer : List Env} {s : Shared} {H : Hp} {E : XK} {W : Wd K} {H0 B : Hp} {Ed : EX} {hE : ∀ C H' B', Ed C → Grow W H0 B H' B' → E (.ref C) none H'}
    (hr : Room 3 (A.deeper (envOfC "_law_table" (defScope st__law_table) s.heap.objs.size f cdv))) : PSs (cxB P w K mg base N__law_table "_law_table" st__law_table f cdv A outer s H E) (defBody st__law_table) (upS (⟨W, H0, B, E, Ed, hE⟩ : Gx K) (sem__law_table a)) :=
  have sc := sc__law_table
  (dss_cons (ds_par2 (i := 6) (j := 7) rfl sc.nd (dma_cons (dm_of_e (de_cal (c__law_take.mono (by decide)) hr (pass_up (takes_of rfl rfl rfl rfl)) (da_cons (de_var 0) (da_cons de_int da_nil)))) fun _ _ => (dma_cons (dm_lst da_nil) fun _ _ => dma_nil)))
  (dss_cons (ds_for (passes_of rfl) rfl (di_range1 (by rfl) T.z_range (da_cons (de_var 1) da_nil)) (dg_name (i := 3) sc.nd)
  (dss_cons (ds_setM (i := 8) sc.nd (dm_lst da_nil))
  (dss_cons (ds_for (passes_of rfl) rfl (di_range1 (by rfl) T.z_range (da_cons (de_of_m (dm_op op_add5 r2_add (do_name 2) (do_of_e de_int))) da_nil)) (dg_name (i := 9) sc.nd)
  (dss_cons (ds_setM (i := 10) sc.nd (dm_lst (da_cons (de_cal (c__law_take.mono (by decide)) hr (pass_up (takes_of rfl rfl rfl rfl)) (da_cons (de_var 0) (da_cons (de_var 1) da_nil))) da_nil)))
  (dss_cons (ds_if (dt_cmp (op_eqD hr.units) r2_eq (do_name 6) (do_of_e de_int))
  (dss_one (ds_setM (i := 10) sc.nd (dm_lst (da_cons (de_of_m (dm_op op_mod r2_int (do_of_e (de_of_m (dm_op op_add5 r2_add (do_name 3) (do_of_e de_int)))) (do_name 1))) (da_cons (de_of_m (dm_op op_mod r2_int (do_of_e (de_of_m (dm_op op_add5 r2_add (do_name 3) (do_of_e de_int)))) (do_name 1))) (da_cons de_int da_nil))))))
  dss_nil)
  (dss_cons (ds_if (dt_cmp (op_eqD hr.units) r2_eq (do_name 6) (do_of_e de_int))
  (dss_one (ds_setM (i := 10) sc.nd (dm_lst (da_cons (de_var 3) (da_cons (de_of_m (dm_callB (call_min2 rfl) rc_min2 (by rfl) T.z_min (by decide +kernel) (dao_cons (do_of_e (de_of_m (dm_op op_add5 r2_add (do_name 3) (do_of_e de_int)))) (dao_cons (do_of_e (de_of_m (dm_op op_sub r2_int0 (do_name 1) (do_of_e de_int)))) dao_nil)))) da_nil)))))
  dss_nil)
  (dss_cons (ds_if (dt_cmp (op_eqD hr.units) r2_eq (do_name 6) (do_of_e de_int))
  (dss_one (ds_setM (i := 10) sc.nd (dm_lst (da_cons (de_of_m (dm_callB (call_min2 rfl) rc_min2 (by rfl) T.z_min (by decide +kernel) (dao_cons (do_of_e (de_of_m (dm_op op_add5 r2_add (do_of_e (de_of_m (dm_op op_add5 r2_add (do_name 3) (do_of_e de_int)))) (do_of_e (de_cal (c__law_take.mono (by decide)) hr (pass_up (takes_of rfl rfl rfl rfl)) (da_cons (de_var 0) (da_cons de_int da_nil))))))) (dao_cons (do_of_e (de_of_m (dm_op op_sub r2_int0 (do_name 1) (do_of_e de_int)))) dao_nil)))) da_nil))))
  dss_nil)
  (dss_cons (ds_if (dt_cmp (op_eqD hr.units) r2_eq (do_name 6) (do_of_e de_int))
  (dss_one (ds_setM (i := 10) sc.nd (dm_lst (da_cons (de_of_m (dm_op op_mod r2_int (do_of_e (de_of_m (dm_op op_add5 r2_add (do_name 3) (do_name 9)))) (do_name 1))) (da_cons (de_cal (c__law_take.mono (by decide)) hr (pass_up (takes_of rfl rfl rfl rfl)) (da_cons (de_var 0) (da_cons (de_var 1) da_nil))) (da_cons (de_of_m (dm_op op_sub r2_int0 (do_name 1) (do_of_e de_int))) da_nil))))))
  dss_nil)
  (dss_cons (ds_if (PW.pt (dw_and (dt_cmp (op_eqD hr.units) r2_eq (do_name 6) (do_of_e de_int)) (dw_and1 (dt_cmp (op_eqD hr.units) r2_eq (do_name 3) (do_of_e (de_of_m (dm_op op_sub r2_int0 (do_name 1) (do_of_e de_int))))))))
  (dss_one (ds_setM (i := 10) sc.nd (dm_lst (da_cons (de_var 3) da_nil))))
  dss_nil)
  (dss_one (ds_append 8 (da_cons (de_cal (c__law_pick.mono (by decide)) hr (pass_up (takes_of rfl rfl rfl rfl)) (da_cons (de_var 0) (da_cons (de_var 10) da_nil))) da_nil))))))))))
  (dss_one (ds_append 7 (da_cons (de_of_m (dm_callTy call_tuple_of rc_tuple (by rfl) T.z_tuple (by decide +kernel) (dao_cons (do_name 8) dao_nil))) da_nil))))))
  (dss_cons (ds_set (i := 4) sc.nd (de_cal (c__law_pick.mono (by decide)) hr (pass_up (takes_of rfl rfl rfl rfl)) (da_cons (de_var 0) (da_cons (de_of_m (dm_lst (da_cons de_int (da_cons de_int (da_cons de_int (da_cons de_int da_nil)))))) da_nil))))
  (dss_cons (ds_set (i := 5) sc.nd (de_of_m (dm_callTy call_tuple_of rc_tuple (by rfl) T.z_tuple (by decide +kernel) (dao_cons (do_of_e (de_of_m (dm_lc (own := [("room", 3)]) rfl sc.nd (di_range1 (by rfl) T.z_range (da_cons (de_var 1) da_nil)) (blkOk_by (by rfl)) (fun _ _ _ _ _ _ _ => (dg_name (i := 3) sc.nd)) (fun _ _ _ _ _ _ _ => dts_nil) (fun _ _ _ _ _ _ _ => (de_cmp op_lt r2_cmp0 (do_of_e (de_cal (c__law_take.mono (by decide)) hr pass_no (da_cons (de_var 0) (da_cons de_int da_nil)))) (do_name 4)))))) dao_nil))))
  (dss_one (ds_ret (de_tup (da_cons (de_of_m (dm_callTy call_tuple_of rc_tuple (by rfl) T.z_tuple (by decide +kernel) (dao_cons (do_name 7) dao_nil))) (da_cons (de_var 5) da_nil)))))))))

/-! ### _law_plan -/
abbrev st__law_plan : Stmt := top 33
abbrev N__law_plan : List Str := ["draw", "most", "colours", "rooms"]
theorem sc__law_plan : FnScope N__law_plan ["draw", "most"] (defScope st__law_plan) := ⟨rfl, rfl, rfl, by decide +kernel, rfl, by decide +kernel, by decide +kernel⟩
def sem__law_plan (a : Ad) : DTS :=
  (dSeq (dSetM 2 (dOpM rdAdd (dO (dC (.int 1))) (dO (dFn (sp__law_take a) (dCons (dVar 0) (dCons (dC (.int 4)) dNil))))))
  (dSeq (dSet 3 (dFn (sp__law_pick a) (dCons (dVar 0) (dCons (dClean (dLst (dCons (dC (.int 1)) (dCons (dC (.int 2)) (dCons (dC (.int 3)) (dCons (dC (.int 4)) (dCons (dC (.int 5)) (dCons (dClean (dOpM rdAdd (dO (dC (.int 1))) (dO (dFn (sp__law_take a) (dCons (dVar 0) (dCons (dVar 1) dNil)))))) (dCons (dVar 1) dNil))))))))) dNil))))
  (dRet (dClean (dOpM rdAdd (dO (dTup (dCons (dVar 2) dNil))) (dO (dFn (sp__law_table a) (dCons (dVar 0) (dCons (dVar 3) (dCons (dVar 2) dNil))))))))))
theorem body__law_plan {P : Program} {w : World} {K : PySem.W.Frag} {mg : Str → Option Value} {base : Heap} {a : Ad} {f : Addr} (T : Txt K mg a) (c__law_take : Cal P w K mg base 2 "_law_take" ["draw", "amount"] (sp__law_take a)) (c__law_pick : Cal P w K mg base 3 "_law_pick" ["draw", "some"] (sp__law_pick a)) (c__law_table : Cal P w K mg base 4 "_law_table" ["draw", "rooms", "colours"] (sp__law_table a)) {cdv : Value} {A : Around} {outer : List Env} {s : Shared} {H : Hp} {E : XK} {W : Wd K} {H0 B : Hp} {Ed : EX} {hE : ∀ C H' B', Ed C → Grow W H0 B H' B' → E (.ref C) none H'}
    (hr : Room 4 (A.deeper (envOfC "_law_plan" (defScope st__law_plan) s.heap.objs.size f cdv))) : PSs (cxB P w K mg base N__law_plan "_law_plan" st__law_plan f cdv A outer s H E) (defBody st__law_plan) (upS (⟨W, H0, B, E, Ed, hE⟩ : Gx K) (sem__law_plan a)) :=
  have sc := sc__law_plan
  (dss_cons (ds_setM (i := 2) sc.nd (dm_op op_add5 r2_add (do_of_e de_int) (do_of_e (de_cal (c__law_take.mono (by decide)) hr (pass_up (takes_of rfl rfl rfl rfl)) (da_cons (de_var 0) (da_cons de_int da_nil))))))
  (dss_cons (ds_set (i := 3) sc.nd (de_cal (c__law_pick.mono (by decide)) hr (pass_up (takes_of rfl rfl rfl rfl)) (da_cons (de_var 0) (da_cons (de_of_m (dm_lst (da_cons de_int (da_cons de_int (da_cons de_int (da_cons de_int (da_cons de_int (da_cons (de_of_m (dm_op op_add5 r2_add (do_of_e de_int) (do_of_e (de_cal (c__law_take.mono (by decide)) hr (pass_up (takes_of rfl rfl rfl rfl)) (da_cons (de_var 0) (da_cons (de_var 1) da_nil)))))) (da_cons (de_var 1) da_nil))))))))) da_nil))))
  (dss_one (ds_ret (de_of_m (dm_op op_add5 r2_add (do_of_e (de_tup (da_cons (de_var 2) da_nil))) (do_of_e (de_cal (c__law_table.mono (by decide)) hr (pass_up (takes_of rfl rfl rfl rfl)) (da_cons (de_var 0) (da_cons (de_var 3) (da_cons (de_var 2) da_nil)))))))))))

/-! ### _law_counts -/
abbrev st__law_counts : Stmt := top 34
abbrev N__law_counts : List Str := ["plan", "amount", "lap", "colours", "table", "good", "numbers", "found", "later", "room", "goal"]
theorem sc__law_counts : FnScope N__law_counts ["plan", "amount"] (defScope st__law_counts) := ⟨rfl, rfl, rfl, by decide +kernel, rfl, by decide +kernel, by decide +kernel⟩
def sem__law_counts (a : Ad) : DTS :=
  (dSeq (dAsg (dVar 0) (dgTup 3 (dgCons (dgName 3) (dgCons (dgName 4) (dgCons (dgName 5) dgNil)))))
  (dSeq (dUnp2 6 7 (dConsM (dBlt rdDictP (dConsO (dO (dClean (dLst (dCons (dTup (dCons (dC (.int 0)) (dCons (dC (.int 1)) dNil))) dNil)))) dNilO)) (dConsM (dLst dNil) dNilM)))
  (dSeq (dFor (dRng1 (dCons (dVar 1) dNil)) (dgName 2)
  (dSeq (dAppend 7 (dCons (dClean (dBlt rdSum (dConsO (dO (dClean (dLC [9] (dSeqI (dVar 6)) (dgName 9) (dTst (dIx (dB 5) (dB 9))) (dIx (dB 6) (dB 9))))) dNilO))) dNil))
  (dSeq (dSetM 8 dDict0)
  (dSeq (dFor (dSeqI (dVar 6)) (dgName 9)
  (dFor (dSeqI (dIx (dB 4) (dB 9))) (dgName 10)
  (dSetIx 8 (dClean (dOpM rdAdd (dO (dGet2 (dB 8) (dVar 10) (dC (.int 0)))) (dO (dIx (dB 6) (dB 9))))) (dVar 10))))
  (dSet 6 (dVar 8))))))
  (dRet (dVar 7)))))
theorem body__law_counts {P : Program} {w : World} {K : PySem.W.Frag} {mg : Str → Option Value} {base : Heap} {a : Ad} {f : Addr} (T : Txt K mg a) {cdv : Value} {A : Around} {outer : List Env} {s : Shared} {H : Hp} {E : XK} {W : Wd K} {H0 B : Hp} {Ed : EX} {hE : ∀ C H' B', Ed C → Grow W H0 B H' B' → E (.ref C) none H'}
    (hr : Room 0 (A.deeper (envOfC "_law_counts" (defScope st__law_counts) s.heap.objs.size f cdv))) : PSs (cxB P w K mg base N__law_counts "_law_counts" st__law_counts f cdv A outer s H E) (defBody st__law_counts) (upS (⟨W, H0, B, E, Ed, hE⟩ : Gx K) (sem__law_counts a)) :=
  have sc := sc__law_counts
  (dss_cons (ds_asg (de_var 0) (dg_tup rfl (dgs_cons (dg_name (i := 3) sc.nd) (dgs_cons (dg_name (i := 4) sc.nd) (dgs_cons (dg_name (i := 5) sc.nd) dgs_nil)))))
  (dss_cons (ds_unp2 (i := 6) (j := 7) rfl sc.nd (dma_cons (dm_callTy (call_dictP rfl) rc_dictP (by rfl) T.z_dict (by decide +kernel) (dao_cons (do_of_e (de_of_m (dm_lst (da_cons (de_tup (da_cons de_int (da_cons de_int da_nil))) da_nil)))) dao_nil)) fun _ _ => (dma_cons (dm_lst da_nil) fun _ _ => dma_nil)))
  (dss_cons (ds_for (passes_of rfl) rfl (di_range1 (by rfl) T.z_range (da_cons (de_var 1) da_nil)) (dg_name (i := 2) sc.nd)
  (dss_cons (ds_append 7 (da_cons (de_of_m (dm_callB (cr_sum rfl) rc_sum (by rfl) T.z_sum (by decide +kernel) (dao_cons (do_of_e (de_of_m (dm_lc (own := [("room", 9)]) rfl sc.nd (di_seq (de_var 6)) (blkOk_by (by rfl)) (fun _ _ _ _ _ _ _ => (dg_name (i := 9) sc.nd)) (fun _ _ _ _ _ _ _ => (dts_one (dt_val (de_ix (DL.hu_of hr) (do_name 5) (do_name 9))))) (fun _ _ _ _ _ _ _ => (de_ix (DL.hu_of hr) (do_name 6) (do_name 9)))))) dao_nil))) da_nil))
  (dss_cons (ds_setM (i := 8) sc.nd dm_dict0)
  (dss_cons (ds_for (passes_of rfl) rfl (di_seq (de_var 6)) (dg_name (i := 9) sc.nd)
  (dss_one (ds_for (passes_of rfl) rfl (di_seq (de_ix (DL.hu_of hr) (do_name 4) (do_name 9))) (dg_name (i := 10) sc.nd)
  (dss_one (ds_setIx 8 (DL.hu_of hr) (de_of_m (dm_op op_add5 r2_add (do_of_e (de_get2 (DL.hu_of hr) (do_name 8) (de_var 10) de_int)) (do_of_e (de_ix (DL.hu_of hr) (do_name 6) (do_name 9))))) (de_var 10))))))
  (dss_one (ds_set (i := 6) sc.nd (de_var 8)))))))
  (dss_one (ds_ret (de_var 7))))))

/-! ### _law_after -/
abbrev st__law_after : Stmt := top 35
abbrev N__law_after : List Str := ["plan", "room", "found", "line", "goal"]
theorem sc__law_after : FnScope N__law_after ["plan", "room"] (defScope st__law_after) := ⟨rfl, rfl, rfl, by decide +kernel, rfl, by decide +kernel, by decide +kernel⟩
def sem__law_after (a : Ad) : DTS :=
  (dSeq (dPar2 2 3 (dConsM dDict0 (dConsM (dLst (dCons (dVar 1) dNil)) dNilM)))
  (dSeq (dWhile (dCmpT rdNe (dB 3) (dO (dClean (dLst dNil))))
  (dFor (dSeqI (dIx (dO (dIx (dB 0) (dO (dC (.int 1))))) (dO (dPop 3)))) (dgName 4)
  (dIfS (dCmpT rdNotIn (dB 4) (dB 2))
  (dSeq (dSetIx 2 (dC (.bl true)) (dVar 4))
  (dAppend 3 (dCons (dVar 4) dNil)))
  dNext)))
  (dRet (dVar 2))))
theorem body__law_after {P : Program} {w : World} {K : PySem.W.Frag} {mg : Str → Option Value} {base : Heap} {a : Ad} {f : Addr} (T : Txt K mg a) {cdv : Value} {A : Around} {outer : List Env} {s : Shared} {H : Hp} {E : XK} {W : Wd K} {H0 B : Hp} {Ed : EX} {hE : ∀ C H' B', Ed C → Grow W H0 B H' B' → E (.ref C) none H'}
    (hr : Room 0 (A.deeper (envOfC "_law_after" (defScope st__law_after) s.heap.objs.size f cdv))) : PSs (cxB P w K mg base N__law_after "_law_after" st__law_after f cdv A outer s H E) (defBody st__law_after) (upS (⟨W, H0, B, E, Ed, hE⟩ : Gx K) (sem__law_after a)) :=
  have sc := sc__law_after
  (dss_cons (ds_par2 (i := 2) (j := 3) rfl sc.nd (dma_cons dm_dict0 fun _ _ => (dma_cons (dm_lst (da_cons (de_var 1) da_nil)) fun _ _ => dma_nil)))
  (dss_cons (ds_while (passes_of rfl) (dt_cmp (op_neD hr.units) r2_ne (do_name 3) (do_of_e (de_of_m (dm_lst da_nil))))
  (dss_one (ds_for (passes_of rfl) rfl (di_seq (de_ix (DL.hu_of hr) (do_of_e (de_ix (DL.hu_of hr) (do_name 0) (do_of_e de_int))) (do_of_e (de_pop 3)))) (dg_name (i := 4) sc.nd)
  (dss_one (ds_if (dt_cmp (op_notIn3 (hu65 hr)) r2_notIn (do_name 4) (do_name 2))
  (dss_cons (ds_setIx 2 (DL.hu_of hr) de_bl (de_var 4))
  (dss_one (ds_append 3 (da_cons (de_var 4) da_nil))))
  dss_nil)))))
  (dss_one (ds_ret (de_var 2)))))

/-! ### _law_growth -/
abbrev st__law_growth : Stmt := top 36
abbrev N__law_growth : List Str := ["plan", "after", "come", "live", "room", "heads", "chains", "lap", "counts", "head", "goal", "size", "number", "other"]
theorem sc__law_growth : FnScope N__law_growth ["plan"] (defScope st__law_growth) := ⟨rfl, rfl, rfl, by decide +kernel, rfl, by decide +kernel, by decide +kernel⟩
def sem__law_growth (a : Ad) : DTS :=
  (dSeq (dSetM 1 (dBlt rdDictP (dConsO (dO (dClean (dLC [4] (dRng1 (dCons (dClean (dBlt rdLen (dConsO (dO (dIx (dB 0) (dO (dC (.int 1))))) dNilO))) dNil)) (dgName 4) dYes (dTup (dCons (dVar 4) (dCons (dFn (sp__law_after a) (dCons (dVar 0) (dCons (dVar 4) dNil))) dNil)))))) dNilO)))
  (dSeq (dSetM 2 (dOpM rdAdd (dO (dClean (dLst (dCons (dC (.int 0)) dNil)))) (dO (dClean (dLC [4] (dSeqI (dVar 1)) (dgName 4) (dAnd (dCmpT rdNe (dB 4) (dO (dC (.int 0)))) (dCmpT rdIn (dB 4) (dO (dIx (dB 1) (dO (dC (.int 0))))))) (dVar 4))))))
  (dSeq (dSetM 3 (dLC [4] (dSeqI (dVar 2)) (dgName 4) (dOr (dTst (dIx (dO (dIx (dB 0) (dO (dC (.int 2))))) (dB 4))) (dCmpT rdNe (dO (dClean (dLC [10] (dSeqI (dIx (dB 1) (dB 4))) (dgName 10) (dTst (dIx (dO (dIx (dB 0) (dO (dC (.int 2))))) (dB 10))) (dVar 10)))) (dO (dClean (dLst dNil))))) (dVar 4)))
  (dSeq (dIfS (dCmpT rdNotIn (dO (dC (.int 0))) (dB 3))
  (dRet (dTup (dCons (dC (.str "none")) dNil)))
  dNext)
  (dSeq (dFor (dSeqI (dVar 3)) (dgName 4)
  (dIfS (dCmpT rdGt (dO (dClean (dBlt rdLen (dConsO (dO (dClean (dLC [10] (dSeqI (dIx (dO (dIx (dB 0) (dO (dC (.int 1))))) (dB 4))) (dgName 10) (dAnd (dCmpT rdIn (dB 10) (dB 3)) (dCmpT rdIn (dB 4) (dO (dIx (dB 1) (dB 10))))) (dVar 10)))) dNilO)))) (dO (dC (.int 1))))
  (dRet (dTup (dCons (dC (.str "doubles")) dNil)))
  dNext))
  (dSeq (dSetM 5 (dLst dNil))
  (dSeq (dFor (dSeqI (dClean (dLC [4] (dSeqI (dVar 3)) (dgName 4) (dCmpT rdIn (dB 4) (dO (dIx (dB 1) (dB 4)))) (dVar 4)))) (dgName 4)
  (dSetM 5 (dIfM (dCmpT rdNe (dO (dClean (dLC [9] (dSeqI (dVar 5)) (dgName 9) (dAnd (dCmpT rdIn (dB 4) (dO (dIx (dB 1) (dB 9)))) (dCmpT rdIn (dB 9) (dO (dIx (dB 1) (dB 4))))) (dVar 9)))) (dO (dClean (dLst dNil)))) (dIm (dVar 5)) (dOpM rdAdd (dB 5) (dO (dClean (dLst (dCons (dVar 4) dNil))))))))
  (dSeq (dSetM 6 (dBlt rdDictP (dConsO (dO (dClean (dLC [9] (dSeqI (dVar 5)) (dgName 9) dYes (dTup (dCons (dVar 9) (dCons (dC (.int 1)) dNil)))))) dNilO)))
  (dSeq (dFor (dSeqI (dVar 5)) (dgName 7)
  (dFor (dSeqI (dVar 5)) (dgName 9)
  (dSetIx 6 (dClean (dBlt rdMaxL (dConsO (dO (dClean (dOpM rdAdd (dO (dClean (dLst (dCons (dC (.int 1)) dNil)))) (dO (dClean (dLC [13] (dSeqI (dVar 5)) (dgName 13) (dAnd (dCmpT rdNe (dB 13) (dB 9)) (dCmpT rdIn (dB 13) (dO (dIx (dB 1) (dB 9))))) (dClean (dOpM rdAdd (dO (dC (.int 1))) (dO (dIx (dB 6) (dB 13))))))))))) dNilO))) (dVar 9))))
  (dSeq (dIfS (dCmpT rdNe (dB 5) (dO (dClean (dLst dNil))))
  (dRet (dTup (dCons (dC (.str "power")) (dCons (dClean (dOpM rdSub (dO (dClean (dBlt rdMaxL (dConsO (dO (dClean (dLC [9] (dSeqI (dVar 5)) (dgName 9) dYes (dIx (dB 6) (dB 9))))) dNilO)))) (dO (dC (.int 1))))) dNil))))
  dNext)
  (dSeq (dSet 8 (dFn (sp__law_counts a) (dCons (dVar 0) (dCons (dClean (dOpM rdAdd (dO (dClean (dBlt rdLen (dConsO (dO (dIx (dB 0) (dO (dC (.int 1))))) dNilO)))) (dO (dC (.int 1))))) dNil))))
  (dRet (dTup (dCons (dC (.str "ends")) (dCons (dClean (dBlt rdMaxL (dConsO (dO (dClean (dLC [11, 12] (dEnum (dCons (dVar 8) dNil)) (dgTup 2 (dgCons (dgName 11) (dgCons (dgName 12) dgNil))) (dCmpT rdGt (dB 12) (dO (dC (.int 0)))) (dVar 11)))) dNilO))) dNil)))))))))))))))
theorem body__law_growth {P : Program} {w : World} {K : PySem.W.Frag} {mg : Str → Option Value} {base : Heap} {a : Ad} {f : Addr} (T : Txt K mg a) (c__law_after : Cal P w K mg base 1 "_law_after" ["plan", "room"] (sp__law_after a)) (c__law_counts : Cal P w K mg base 1 "_law_counts" ["plan", "amount"] (sp__law_counts a)) {cdv : Value} {A : Around} {outer : List Env} {s : Shared} {H : Hp} {E : XK} {W : Wd K} {H0 B : Hp} {Ed : EX} {hE : ∀ C H' B', Ed C → Grow W H0 B H' B' → E (.ref C) none H'}
    (hr : Room 1 (A.deeper (envOfC "_law_growth" (defScope st__law_growth) s.heap.objs.size f cdv))) : PSs (cxB P w K mg base N__law_growth "_law_growth" st__law_growth f cdv A outer s H E) (defBody st__law_growth) (upS (⟨W, H0, B, E, Ed, hE⟩ : Gx K) (sem__law_growth a)) :=
  have sc := sc__law_growth
  (dss_cons (ds_setM (i := 1) sc.nd (dm_callTy (call_dictP rfl) rc_dictP (by rfl) T.z_dict (by decide +kernel) (dao_cons (do_of_e (de_of_m (dm_lc (own := [("room", 4)]) rfl sc.nd (di_range1 (by rfl) T.z_range (da_cons (de_of_m (dm_callB call_len2 rc_len (by rfl) T.z_len (by decide +kernel) (dao_cons (do_of_e (de_ix (DL.hu_of hr) (do_name 0) (do_of_e de_int))) dao_nil))) da_nil)) (blkOk_by (by rfl)) (fun _ _ _ _ _ _ _ => (dg_name (i := 4) sc.nd)) (fun _ _ _ _ _ _ _ => dts_nil) (fun _ _ _ _ _ _ _ => (de_tup (da_cons (de_var 4) (da_cons (de_cal (c__law_after.mono (by decide)) hr pass_no (da_cons (de_var 0) (da_cons (de_var 4) da_nil))) da_nil))))))) dao_nil)))
  (dss_cons (ds_setM (i := 2) sc.nd (dm_op op_add5 r2_add (do_of_e (de_of_m (dm_lst (da_cons de_int da_nil)))) (do_of_e (de_of_m (dm_lc (own := [("room", 4)]) rfl sc.nd (di_seq (de_var 1)) (blkOk_by (by rfl)) (fun _ _ _ _ _ _ _ => (dg_name (i := 4) sc.nd)) (fun _ _ _ _ _ _ _ => (dts_one (PW.pt (dw_and (dt_cmp (op_neD hr.units) r2_ne (do_name 4) (do_of_e de_int)) (dw_and1 (dt_cmp (op_in3 (hu65 hr)) r2_in (do_name 4) (do_of_e (de_ix (DL.hu_of hr) (do_name 1) (do_of_e de_int))))))))) (fun _ _ _ _ _ _ _ => (de_var 4)))))))
  (dss_cons (ds_setM (i := 3) sc.nd (dm_lc (own := [("room", 4)]) rfl sc.nd (di_seq (de_var 2)) (blkOk_by (by rfl)) (fun _ _ _ _ _ _ _ => (dg_name (i := 4) sc.nd)) (fun _ _ _ _ _ _ _ => (dts_one (PW.pt (dw_or (dt_val (de_ix (DL.hu_of hr) (do_of_e (de_ix (DL.hu_of hr) (do_name 0) (do_of_e de_int))) (do_name 4))) (dw_or1 (dt_cmp (op_neD hr.units) r2_ne (do_of_e (de_of_m (dm_lc (own := [("goal", 10)]) rfl sc.nd (di_seq (de_ix (DL.hu_of hr) (do_name 1) (do_name 4))) (blkOk_by (by rfl)) (fun _ _ _ _ _ _ _ => (dg_name (i := 10) sc.nd)) (fun _ _ _ _ _ _ _ => (dts_one (dt_val (de_ix (DL.hu_of hr) (do_of_e (de_ix (DL.hu_of hr) (do_name 0) (do_of_e de_int))) (do_name 10))))) (fun _ _ _ _ _ _ _ => (de_var 10))))) (do_of_e (de_of_m (dm_lst da_nil))))))))) (fun _ _ _ _ _ _ _ => (de_var 4))))
  (dss_cons (ds_if (dt_cmp (op_notIn3 (hu65 hr)) r2_notIn (do_of_e de_int) (do_name 3))
  (dss_one (ds_ret (de_tup (da_cons de_str da_nil))))
  dss_nil)
  (dss_cons (ds_for (passes_of rfl) rfl (di_seq (de_var 3)) (dg_name (i := 4) sc.nd)
  (dss_one (ds_if (dt_cmp op_gt r2_cmp0 (do_of_e (de_of_m (dm_callB call_len2 rc_len (by rfl) T.z_len (by decide +kernel) (dao_cons (do_of_e (de_of_m (dm_lc (own := [("goal", 10)]) rfl sc.nd (di_seq (de_ix (DL.hu_of hr) (do_of_e (de_ix (DL.hu_of hr) (do_name 0) (do_of_e de_int))) (do_name 4))) (blkOk_by (by rfl)) (fun _ _ _ _ _ _ _ => (dg_name (i := 10) sc.nd)) (fun _ _ _ _ _ _ _ => (dts_one (PW.pt (dw_and (dt_cmp (op_in3 (hu65 hr)) r2_in (do_name 10) (do_name 3)) (dw_and1 (dt_cmp (op_in3 (hu65 hr)) r2_in (do_name 4) (do_of_e (de_ix (DL.hu_of hr) (do_name 1) (do_name 10))))))))) (fun _ _ _ _ _ _ _ => (de_var 10))))) dao_nil)))) (do_of_e de_int))
  (dss_one (ds_ret (de_tup (da_cons de_str da_nil))))
  dss_nil)))
  (dss_cons (ds_setM (i := 5) sc.nd (dm_lst da_nil))
  (dss_cons (ds_for (passes_of rfl) rfl (di_seq (de_of_m (dm_lc (own := [("room", 4)]) rfl sc.nd (di_seq (de_var 3)) (blkOk_by (by rfl)) (fun _ _ _ _ _ _ _ => (dg_name (i := 4) sc.nd)) (fun _ _ _ _ _ _ _ => (dts_one (dt_cmp (op_in3 (hu65 hr)) r2_in (do_name 4) (do_of_e (de_ix (DL.hu_of hr) (do_name 1) (do_name 4)))))) (fun _ _ _ _ _ _ _ => (de_var 4))))) (dg_name (i := 4) sc.nd)
  (dss_one (ds_setM (i := 5) sc.nd (dm_if (dt_cmp (op_neD hr.units) r2_ne (do_of_e (de_of_m (dm_lc (own := [("head", 9)]) rfl sc.nd (di_seq (de_var 5)) (blkOk_by (by rfl)) (fun _ _ _ _ _ _ _ => (dg_name (i := 9) sc.nd)) (fun _ _ _ _ _ _ _ => (dts_one (PW.pt (dw_and (dt_cmp (op_in3 (hu65 hr)) r2_in (do_name 4) (do_of_e (de_ix (DL.hu_of hr) (do_name 1) (do_name 9)))) (dw_and1 (dt_cmp (op_in3 (hu65 hr)) r2_in (do_name 9) (do_of_e (de_ix (DL.hu_of hr) (do_name 1) (do_name 4))))))))) (fun _ _ _ _ _ _ _ => (de_var 9))))) (do_of_e (de_of_m (dm_lst da_nil)))) (dm_of_e (de_var 5)) (dm_op op_add5 r2_add (do_name 5) (do_of_e (de_of_m (dm_lst (da_cons (de_var 4) da_nil)))))))))
  (dss_cons (ds_setM (i := 6) sc.nd (dm_callTy (call_dictP rfl) rc_dictP (by rfl) T.z_dict (by decide +kernel) (dao_cons (do_of_e (de_of_m (dm_lc (own := [("head", 9)]) rfl sc.nd (di_seq (de_var 5)) (blkOk_by (by rfl)) (fun _ _ _ _ _ _ _ => (dg_name (i := 9) sc.nd)) (fun _ _ _ _ _ _ _ => dts_nil) (fun _ _ _ _ _ _ _ => (de_tup (da_cons (de_var 9) (da_cons de_int da_nil))))))) dao_nil)))
  (dss_cons (ds_for (passes_of rfl) rfl (di_seq (de_var 5)) (dg_name (i := 7) sc.nd)
  (dss_one (ds_for (passes_of rfl) rfl (di_seq (de_var 5)) (dg_name (i := 9) sc.nd)
  (dss_one (ds_setIx 6 (DL.hu_of hr) (de_of_m (dm_callB (cr_max rfl) rc_maxL (by rfl) T.z_max (by decide +kernel) (dao_cons (do_of_e (de_of_m (dm_op op_add5 r2_add (do_of_e (de_of_m (dm_lst (da_cons de_int da_nil)))) (do_of_e (de_of_m (dm_lc (own := [("other", 13)]) rfl sc.nd (di_seq (de_var 5)) (blkOk_by (by rfl)) (fun _ _ _ _ _ _ _ => (dg_name (i := 13) sc.nd)) (fun _ _ _ _ _ _ _ => (dts_one (PW.pt (dw_and (dt_cmp (op_neD hr.units) r2_ne (do_name 13) (do_name 9)) (dw_and1 (dt_cmp (op_in3 (hu65 hr)) r2_in (do_name 13) (do_of_e (de_ix (DL.hu_of hr) (do_name 1) (do_name 9))))))))) (fun _ _ _ _ _ _ _ => (de_of_m (dm_op op_add5 r2_add (do_of_e de_int) (do_of_e (de_ix (DL.hu_of hr) (do_name 6) (do_name 13)))))))))))) dao_nil))) (de_var 9))))))
  (dss_cons (ds_if (dt_cmp (op_neD hr.units) r2_ne (do_name 5) (do_of_e (de_of_m (dm_lst da_nil))))
  (dss_one (ds_ret (de_tup (da_cons de_str (da_cons (de_of_m (dm_op op_sub r2_int0 (do_of_e (de_of_m (dm_callB (cr_max rfl) rc_maxL (by rfl) T.z_max (by decide +kernel) (dao_cons (do_of_e (de_of_m (dm_lc (own := [("head", 9)]) rfl sc.nd (di_seq (de_var 5)) (blkOk_by (by rfl)) (fun _ _ _ _ _ _ _ => (dg_name (i := 9) sc.nd)) (fun _ _ _ _ _ _ _ => dts_nil) (fun _ _ _ _ _ _ _ => (de_ix (DL.hu_of hr) (do_name 6) (do_name 9)))))) dao_nil)))) (do_of_e de_int))) da_nil)))))
  dss_nil)
  (dss_cons (ds_set (i := 8) sc.nd (de_cal (c__law_counts.mono (by decide)) hr (pass_up (takes_of rfl rfl rfl rfl)) (da_cons (de_var 0) (da_cons (de_of_m (dm_op op_add5 r2_add (do_of_e (de_of_m (dm_callB call_len2 rc_len (by rfl) T.z_len (by decide +kernel) (dao_cons (do_of_e (de_ix (DL.hu_of hr) (do_name 0) (do_of_e de_int))) dao_nil)))) (do_of_e de_int))) da_nil))))
  (dss_one (ds_ret (de_tup (da_cons de_str (da_cons (de_of_m (dm_callB (cr_max rfl) rc_maxL (by rfl) T.z_max (by decide +kernel) (dao_cons (do_of_e (de_of_m (dm_lc (own := [("size", 11), ("number", 12)]) rfl sc.nd (di_enum T.z_enumerate (da_cons (de_var 8) da_nil)) (blkOk_by (by rfl)) (fun _ _ _ _ _ _ _ => (dg_tup rfl (dgs_cons (dg_name (i := 11) sc.nd) (dgs_cons (dg_name (i := 12) sc.nd) dgs_nil)))) (fun _ _ _ _ _ _ _ => (dts_one (dt_cmp op_gt r2_cmp0 (do_name 12) (do_of_e de_int)))) (fun _ _ _ _ _ _ _ => (de_var 11))))) dao_nil))) da_nil))))))))))))))))

/-! ### _law_chain -/
abbrev st__law_chain : Stmt := top 37
abbrev N__law_chain : List Str := ["draw", "lengths", "length", "dead", "table", "firsts", "place", "at", "lap", "on", "out"]
theorem sc__law_chain : FnScope N__law_chain ["draw"] (defScope st__law_chain) := ⟨rfl, rfl, rfl, by decide +kernel, rfl, by decide +kernel, by decide +kernel⟩
def sem__law_chain (a : Ad) : DTS :=
  (dSeq (dSetM 1 (dLC [8] (dRng1 (dCons (dClean (dOpM rdAdd (dO (dC (.int 1))) (dO (dFn (sp__law_take a) (dCons (dVar 0) (dCons (dC (.int 4)) dNil)))))) dNil)) (dgName 8) dYes (dClean (dOpM rdAdd (dO (dC (.int 1))) (dO (dFn (sp__law_take a) (dCons (dVar 0) (dCons (dC (.int 4)) dNil))))))))
  (dSeq (dPar2 4 5 (dConsM (dLst dNil) (dConsM (dLst dNil) dNilM)))
  (dSeq (dFor (dSeqI (dVar 1)) (dgName 2)
  (dAppend 5 (dCons (dClean (dBlt rdSum (dConsO (dO (dClean (dSl (dB 1) dNoPart (dPart (dO (dClean (dBlt rdLen (dConsO (dB 5) dNilO)))))))) dNilO))) dNil)))
  (dSeq (dSet 3 (dClean (dBlt rdSum (dConsO (dB 1) dNilO))))
  (dSeq (dFor (dEnum (dCons (dVar 1) dNil)) (dgTup 2 (dgCons (dgName 6) (dgCons (dgName 2) dgNil)))
  (dFor (dRng1 (dCons (dVar 2) dNil)) (dgName 7)
  (dSeq (dSetM 9 (dOpM rdAdd (dO (dIx (dB 5) (dB 6))) (dO (dClean (dIfM (dCmpT rdLt (dO (dClean (dOpM rdAdd (dB 7) (dO (dC (.int 1)))))) (dB 2)) (dOpM rdAdd (dB 7) (dO (dC (.int 1)))) (dIm (dC (.int 0))))))))
  (dSeq (dSet 10 (dIf (dAnd (dCmpT rdEq (dB 7) (dO (dC (.int 0)))) (dCmpT rdLt (dO (dClean (dOpM rdAdd (dB 6) (dO (dC (.int 1)))))) (dO (dClean (dBlt rdLen (dConsO (dB 1) dNilO)))))) (dIx (dB 5) (dO (dClean (dOpM rdAdd (dB 6) (dO (dC (.int 1))))))) (dVar 3)))
  (dAppend 4 (dCons (dTup (dCons (dVar 9) (dCons (dVar 10) dNil))) dNil))))))
  (dRet (dTup (dCons (dC (.int 1)) (dCons (dClean (dBlt rdTuple (dConsO (dO (dClean (dOpM rdAdd (dB 4) (dO (dClean (dLst (dCons (dTup (dCons (dVar 3) (dCons (dVar 3) dNil))) dNil))))))) dNilO))) (dCons (dClean (dBlt rdTuple (dConsO (dO (dClean (dOpM rdAdd (dO (dClean (dOpM rdMul (dO (dClean (dLst (dCons (dC (.bl true)) dNil)))) (dB 3)))) (dO (dClean (dLst (dCons (dC (.bl false)) dNil))))))) dNilO))) dNil))))))))))
theorem body__law_chain {P : Program} {w : World} {K : PySem.W.Frag} {mg : Str → Option Value} {base : Heap} {a : Ad} {f : Addr} (T : Txt K mg a) (c__law_take : Cal P w K mg base 2 "_law_take" ["draw", "amount"] (sp__law_take a)) {cdv : Value} {A : Around} {outer : List Env} {s : Shared} {H : Hp} {E : XK} {W : Wd K} {H0 B : Hp} {Ed : EX} {hE : ∀ C H' B', Ed C → Grow W H0 B H' B' → E (.ref C) none H'}
    (hr : Room 2 (A.deeper (envOfC "_law_chain" (defScope st__law_chain) s.heap.objs.size f cdv))) : PSs (cxB P w K mg base N__law_chain "_law_chain" st__law_chain f cdv A outer s H E) (defBody st__law_chain) (upS (⟨W, H0, B, E, Ed, hE⟩ : Gx K) (sem__law_chain a)) :=
  have sc := sc__law_chain
  (dss_cons (ds_setLC (i := 1) (own := [("lap", 8)]) rfl sc.nd (di_range1 (by rfl) T.z_range (da_cons (de_of_m (dm_op op_add5 r2_add (do_of_e de_int) (do_of_e (de_cal (c__law_take.mono (by decide)) hr (pass_up (takes_of rfl rfl rfl rfl)) (da_cons (de_var 0) (da_cons de_int da_nil)))))) da_nil)) (blkOk_by (by rfl)) (fun _ _ _ _ _ _ _ => (dg_name (i := 8) sc.nd)) (fun _ _ _ _ _ _ _ => dts_nil) (fun _ _ _ _ _ _ _ => (de_of_m (dm_op op_add5 r2_add (do_of_e de_int) (do_of_e (de_cal (c__law_take.mono (by decide)) hr pass_no (da_cons (de_var 0) (da_cons de_int da_nil))))))) (sw_true rfl rfl rfl (by decide +kernel)))
  (dss_cons (ds_par2 (i := 4) (j := 5) rfl sc.nd (dma_cons (dm_lst da_nil) fun _ _ => (dma_cons (dm_lst da_nil) fun _ _ => dma_nil)))
  (dss_cons (ds_for (passes_of rfl) rfl (di_seq (de_var 1)) (dg_name (i := 2) sc.nd)
  (dss_one (ds_append 5 (da_cons (de_of_m (dm_callB (cr_sum rfl) rc_sum (by rfl) T.z_sum (by decide +kernel) (dao_cons (do_of_e (de_of_m (dm_slice (do_name 1) dp_none (dp_some (do_of_e (de_of_m (dm_callB call_len2 rc_len (by rfl) T.z_len (by decide +kernel) (dao_cons (do_name 5) dao_nil)))))))) dao_nil))) da_nil))))
  (dss_cons (ds_set (i := 3) sc.nd (de_of_m (dm_callB (cr_sum rfl) rc_sum (by rfl) T.z_sum (by decide +kernel) (dao_cons (do_name 1) dao_nil))))
  (dss_cons (ds_for (passes_of rfl) rfl (di_enum T.z_enumerate (da_cons (de_var 1) da_nil)) (dg_tup rfl (dgs_cons (dg_name (i := 6) sc.nd) (dgs_cons (dg_name (i := 2) sc.nd) dgs_nil)))
  (dss_one (ds_for (passes_of rfl) rfl (di_range1 (by rfl) T.z_range (da_cons (de_var 2) da_nil)) (dg_name (i := 7) sc.nd)
  (dss_cons (ds_setM (i := 9) sc.nd (dm_op op_add5 r2_add (do_of_e (de_ix (DL.hu_of hr) (do_name 5) (do_name 6))) (do_of_e (de_of_m (dm_if (dt_cmp op_lt r2_cmp0 (do_of_e (de_of_m (dm_op op_add5 r2_add (do_name 7) (do_of_e de_int)))) (do_name 2)) (dm_op op_add5 r2_add (do_name 7) (do_of_e de_int)) (dm_of_e de_int))))))
  (dss_cons (ds_set (i := 10) sc.nd (de_if (PW.pt (dw_and (dt_cmp (op_eqD hr.units) r2_eq (do_name 7) (do_of_e de_int)) (dw_and1 (dt_cmp op_lt r2_cmp0 (do_of_e (de_of_m (dm_op op_add5 r2_add (do_name 6) (do_of_e de_int)))) (do_of_e (de_of_m (dm_callB call_len2 rc_len (by rfl) T.z_len (by decide +kernel) (dao_cons (do_name 1) dao_nil)))))))) (de_ix (DL.hu_of hr) (do_name 5) (do_of_e (de_of_m (dm_op op_add5 r2_add (do_name 6) (do_of_e de_int))))) (de_var 3)))
  (dss_one (ds_append 4 (da_cons (de_tup (da_cons (de_var 9) (da_cons (de_var 10) da_nil))) da_nil))))))))
  (dss_one (ds_ret (de_tup (da_cons de_int (da_cons (de_of_m (dm_callTy call_tuple_of rc_tuple (by rfl) T.z_tuple (by decide +kernel) (dao_cons (do_of_e (de_of_m (dm_op op_add5 r2_add (do_name 4) (do_of_e (de_of_m (dm_lst (da_cons (de_tup (da_cons (de_var 3) (da_cons (de_var 3) da_nil))) da_nil))))))) dao_nil))) (da_cons (de_of_m (dm_callTy call_tuple_of rc_tuple (by rfl) T.z_tuple (by decide +kernel) (dao_cons (do_of_e (de_of_m (dm_op op_add5 r2_add (do_of_e (de_of_m (dm_op op_mul3 r2_mul (do_of_e (de_of_m (dm_lst (da_cons de_bl da_nil)))) (do_name 3)))) (do_of_e (de_of_m (dm_lst (da_cons de_bl da_nil))))))) dao_nil))) da_nil)))))))))))

/-! ### law -/
abbrev st_law : Stmt := top 38
abbrev N_law : List Str := ["script", "draw", "lap", "chains", "plan", "counts", "machine", "due"]
theorem sc_law : FnScope N_law ["script"] (defScope st_law) := ⟨rfl, rfl, rfl, by decide +kernel, rfl, by decide +kernel, by decide +kernel⟩
def sem_law (a : Ad) : DTS :=
  (dSeq (dFor (dRng1 (dCons (dClean (dOpM rdAdd (dO (dC (.int 4))) (dO (dClean (dBlt rdMin2 (dConsO (dO (dClean (dBlt rdLen (dConsO (dB 0) dNilO)))) (dConsO (dO (dC (.int 8))) dNilO))))))) dNil)) (dgName 2)
  (dSeq (dSet 4 (dFn (sp__law_pick a) (dCons (dVar 1) (dCons (dClean (dLst (dCons (dFn (sp__law_plan a) (dCons (dVar 1) (dCons (dFn (sp__law_pick a) (dCons (dVar 1) (dCons (dClean (dLst (dCons (dC (.int 6)) (dCons (dC (.int 12)) (dCons (dC (.int 60)) dNil))))) dNil))) dNil))) (dCons (dFn (sp__law_plan a) (dCons (dVar 1) (dCons (dC (.int 6)) dNil))) (dCons (dFn (sp__law_chain a) (dCons (dVar 1) dNil)) dNil))))) dNil))))
  (dSeq (dPar2 6 7 (dConsM (dIm (dMake a.Machine (sp_Machine___init__ a) (dCons (dIx (dB 4) (dO (dC (.int 0)))) (dCons (dIx (dB 4) (dO (dC (.int 1)))) (dCons (dIx (dB 4) (dO (dC (.int 2)))) dNil))))) (dConsM (dIm (dFn (sp__law_growth a) (dCons (dVar 4) dNil))) dNilM)))
  (dSeq (dIfS (dOr (dCmpT rdNeS (dO (dClean (dBlt rdRepr (dConsO (dO (dClean (dLst (dCons (dFn (sp_growth a) (dCons (dVar 6) dNil)) (dCons (dFnW (sp_growth a) 0 1 [0] dNil (dCons (dVar 6) dNil)) dNil))))) dNilO)))) (dO (dClean (dBlt rdRepr (dConsO (dO (dClean (dLst (dCons (dVar 7) (dCons (dVar 7) dNil))))) dNilO))))) (dCmpT rdNe (dO (dFn (sp_growth a) (dCons (dFn (sp_least a) (dCons (dVar 6) dNil)) dNil))) (dB 7)))
  (dRet (dC (.bl false)))
  dNext)
  (dSeq (dSet 5 (dFn (sp__law_counts a) (dCons (dVar 4) (dCons (dC (.int 61)) dNil))))
  (dSeq (dIfS (dOr (dAnd (dCmpT rdEq (dO (dIx (dB 7) (dO (dC (.int 0))))) (dO (dC (.str "none")))) (dCmpT rdGt (dO (dClean (dBlt rdSum (dConsO (dB 5) dNilO)))) (dO (dC (.int 0))))) (dAnd (dCmpT rdEq (dO (dIx (dB 7) (dO (dC (.int 0))))) (dO (dC (.str "ends")))) (dIfT (dCmpT rdLt (dO (dIx (dB 7) (dO (dC (.int 1))))) (dO (dC (.int 61)))) (dCmpT rdEq (dO (dIx (dB 5) (dO (dIx (dB 7) (dO (dC (.int 1))))))) (dO (dC (.int 0)))) (dTst (dC (.bl false))))))
  (dRet (dC (.bl false)))
  dNext)
  (dIfS (dAnd (dCmpT rdEq (dO (dIx (dB 7) (dO (dC (.int 0))))) (dO (dC (.str "ends")))) (dCmpT rdGt (dO (dClean (dBlt rdSum (dConsO (dO (dClean (dSl (dB 5) (dPart (dO (dClean (dOpM rdAdd (dO (dIx (dB 7) (dO (dC (.int 1))))) (dO (dC (.int 1))))))) dNoPart))) dNilO)))) (dO (dC (.int 0)))))
  (dRet (dC (.bl false)))
  dNext)))))))
  (dSeq (dSetM 3 (dLst (dCons (dFn (sp_growth a) (dCons (dMake a.Machine (sp_Machine___init__ a) (dCons (dC (.int 1)) (dCons (dTup (dCons (dTup (dCons (dC (.int 0)) (dCons (dC (.int 1)) dNil))) (dCons (dTup (dCons (dC (.int 1)) (dCons (dC (.int 2)) dNil))) (dCons (dTup (dCons (dC (.int 2)) (dCons (dC (.int 2)) dNil))) dNil)))) (dCons (dTup (dCons (dC (.bl true)) (dCons (dC (.bl true)) (dCons (dC (.bl true)) dNil)))) dNil)))) dNil)) (dCons (dFn (sp_growth a) (dCons (dMake a.Machine (sp_Machine___init__ a) (dCons (dC (.int 1)) (dCons (dTup (dCons (dTup (dCons (dC (.int 0)) (dCons (dC (.int 0)) dNil))) dNil)) (dCons (dTup (dCons (dC (.bl true)) dNil)) dNil)))) dNil)) dNil))))
  (dRet (dCmpE rdEqS (dO (dClean (dBlt rdRepr (dConsO (dO (dClean (dOpM rdAdd (dB 3) (dO (dClean (dLst (dCons (dFn (sp_growth a) (dCons (dMake a.Machine (sp_Machine___init__ a) (dCons (dC (.int 1)) (dCons (dTup (dCons (dTup (dCons (dC (.int 1)) (dCons (dC (.int 1)) dNil))) (dCons (dTup (dCons (dC (.int 1)) (dCons (dC (.int 1)) dNil))) dNil))) (dCons (dTup (dCons (dC (.bl true)) (dCons (dC (.bl false)) dNil))) dNil)))) dNil)) dNil))))))) dNilO)))) (dO (dClean (dBlt rdRepr (dConsO (dO (dClean (dLst (dCons (dTup (dCons (dC (.str "doubles")) dNil)) (dCons (dTup (dCons (dC (.str "doubles")) dNil)) (dCons (dTup (dCons (dC (.str "ends")) (dCons (dC (.int 0)) dNil))) dNil)))))) dNilO))))))))
theorem body_law {P : Program} {w : World} {K : PySem.W.Frag} {mg : Str → Option Value} {base : Heap} {a : Ad} {f : Addr} (T : Txt K mg a) {T0 : List (Addr × Str)} (c__law_pick : Cal P w K mg base 3 "_law_pick" ["draw", "some"] (sp__law_pick a)) (c__law_chain : Cal P w K mg base 3 "_law_chain" ["draw"] (sp__law_chain a)) (c__law_plan : Cal P w K mg base 5 "_law_plan" ["draw", "most"] (sp__law_plan a)) (c__law_growth : Cal P w K mg base 2 "_law_growth" ["plan"] (sp__law_growth a)) (c_Machine : CalI P w K mg base 3 "Machine" a.Machine ["self", "colours", "table", "good"] (sp_Machine___init__ a)) (c_growth : Cal P w K mg base 2 "growth" ["machine"] (sp_growth a)) (c__law_counts : Cal P w K mg base 1 "_law_counts" ["plan", "amount"] (sp__law_counts a)) (cw_growth_machine : CalW P w K mg base 2 "growth" ["machine"] (sp_growth a) 0 ["machine"] [0]) (c_least : CalT P w K mg base T0 6 "least" ["machine"] (sp_least a)) {cdv : Value} {A : Around} {outer : List Env} {s : Shared} {H : Hp} {E : XK} {W : Wd K} (hT : W.T = T0) {H0 B : Hp} {Ed : EX} {hE : ∀ C H' B', Ed C → Grow W H0 B H' B' → E (.ref C) none H'}
    (hr : Room 6 (A.deeper (envOfC "law" (defScope st_law) s.heap.objs.size f cdv))) : PSs (cxB P w K mg base N_law "law" st_law f cdv A outer s H E) ((defBody st_law).drop 1) (upS (⟨W, H0, B, E, Ed, hE⟩ : Gx K) (sem_law a)) :=
  have sc := sc_law
  (dss_cons (ds_for (passes_of rfl) rfl (di_range1 (by rfl) T.z_range (da_cons (de_of_m (dm_op op_add5 r2_add (do_of_e de_int) (do_of_e (de_of_m (dm_callB (call_min2 rfl) rc_min2 (by rfl) T.z_min (by decide +kernel) (dao_cons (do_of_e (de_of_m (dm_callB call_len2 rc_len (by rfl) T.z_len (by decide +kernel) (dao_cons (do_name 0) dao_nil)))) (dao_cons (do_of_e de_int) dao_nil))))))) da_nil)) (dg_name (i := 2) sc.nd)
  (dss_cons (ds_set (i := 4) sc.nd (de_cal (c__law_pick.mono (by decide)) hr (pass_up (takes_of rfl rfl rfl rfl)) (da_cons (de_var 1) (da_cons (de_of_m (dm_lst (da_cons (de_cal (c__law_plan.mono (by decide)) hr (pass_up (takes_of rfl rfl rfl rfl)) (da_cons (de_var 1) (da_cons (de_cal (c__law_pick.mono (by decide)) hr (pass_up (takes_of rfl rfl rfl rfl)) (da_cons (de_var 1) (da_cons (de_of_m (dm_lst (da_cons de_int (da_cons de_int (da_cons de_int da_nil))))) da_nil))) da_nil))) (da_cons (de_cal (c__law_plan.mono (by decide)) hr (pass_up (takes_of rfl rfl rfl rfl)) (da_cons (de_var 1) (da_cons de_int da_nil))) (da_cons (de_cal (c__law_chain.mono (by decide)) hr (pass_up (takes_of rfl rfl rfl rfl)) (da_cons (de_var 1) da_nil)) da_nil))))) da_nil))))
  (dss_cons (ds_par2 (i := 6) (j := 7) rfl sc.nd (dma_cons (dm_of_e (de_mk (c_Machine.mono (by decide)) hr (pass_up (takes_of rfl rfl rfl rfl)) (da_cons (de_ix (DL.hu_of hr) (do_name 4) (do_of_e de_int)) (da_cons (de_ix (DL.hu_of hr) (do_name 4) (do_of_e de_int)) (da_cons (de_ix (DL.hu_of hr) (do_name 4) (do_of_e de_int)) da_nil))))) fun _ _ => (dma_cons (dm_of_e (de_cal (c__law_growth.mono (by decide)) hr (pass_up (takes_of rfl rfl rfl rfl)) (da_cons (de_var 4) da_nil))) fun _ _ => dma_nil)))
  (dss_cons (ds_if (PW.pt (dw_or (dt_cmp op_ne r2_neS (do_of_e (de_of_m (dm_callB (call_repr hr) rc_repr (by rfl) T.z_repr (by decide +kernel) (dao_cons (do_of_e (de_of_m (dm_lst (da_cons (de_cal (c_growth.mono (by decide)) hr (pass_up (takes_of rfl rfl rfl rfl)) (da_cons (de_var 6) da_nil)) (da_cons (de_kw0 (cw_growth_machine.mono (by decide)) hr (pass_up (takes_of rfl rfl rfl rfl)) (dk_cons (de_var 6) dk_nil)) da_nil))))) dao_nil)))) (do_of_e (de_of_m (dm_callB (call_repr hr) rc_repr (by rfl) T.z_repr (by decide +kernel) (dao_cons (do_of_e (de_of_m (dm_lst (da_cons (de_var 7) (da_cons (de_var 7) da_nil))))) dao_nil))))) (dw_or1 (dt_cmp (op_neD hr.units) r2_ne (do_of_e (de_cal (c_growth.mono (by decide)) hr (pass_up (takes_of rfl rfl rfl rfl)) (da_cons (de_calT hT (c_least.mono (by decide)) hr (pass_up (takes_of rfl rfl rfl rfl)) (da_cons (de_var 6) da_nil)) da_nil))) (do_name 7)))))
  (dss_one (ds_ret de_bl))
  dss_nil)
  (dss_cons (ds_set (i := 5) sc.nd (de_cal (c__law_counts.mono (by decide)) hr (pass_up (takes_of rfl rfl rfl rfl)) (da_cons (de_var 4) (da_cons de_int da_nil))))
  (dss_cons (ds_if (PW.pt (dw_or (PW.pt (dw_and (dt_cmp (op_eqD hr.units) r2_eq (do_of_e (de_ix (DL.hu_of hr) (do_name 7) (do_of_e de_int))) (do_of_e de_str)) (dw_and1 (dt_cmp op_gt r2_cmp0 (do_of_e (de_of_m (dm_callB (cr_sum rfl) rc_sum (by rfl) T.z_sum (by decide +kernel) (dao_cons (do_name 5) dao_nil)))) (do_of_e de_int))))) (dw_or1 (PW.pt (dw_and (dt_cmp (op_eqD hr.units) r2_eq (do_of_e (de_ix (DL.hu_of hr) (do_name 7) (do_of_e de_int))) (do_of_e de_str)) (dw_and1 (dt_if (dt_cmp op_lt r2_cmp0 (do_of_e (de_ix (DL.hu_of hr) (do_name 7) (do_of_e de_int))) (do_of_e de_int)) (dt_cmp (op_eqD hr.units) r2_eq (do_of_e (de_ix (DL.hu_of hr) (do_name 5) (do_of_e (de_ix (DL.hu_of hr) (do_name 7) (do_of_e de_int))))) (do_of_e de_int)) (dt_val de_bl))))))))
  (dss_one (ds_ret de_bl))
  dss_nil)
  (dss_one (ds_if (PW.pt (dw_and (dt_cmp (op_eqD hr.units) r2_eq (do_of_e (de_ix (DL.hu_of hr) (do_name 7) (do_of_e de_int))) (do_of_e de_str)) (dw_and1 (dt_cmp op_gt r2_cmp0 (do_of_e (de_of_m (dm_callB (cr_sum rfl) rc_sum (by rfl) T.z_sum (by decide +kernel) (dao_cons (do_of_e (de_of_m (dm_slice (do_name 5) (dp_some (do_of_e (de_of_m (dm_op op_add5 r2_add (do_of_e (de_ix (DL.hu_of hr) (do_name 7) (do_of_e de_int))) (do_of_e de_int))))) dp_none))) dao_nil)))) (do_of_e de_int)))))
  (dss_one (ds_ret de_bl))
  dss_nil))))))))
  (dss_cons (ds_setM (i := 3) sc.nd (dm_lst (da_cons (de_cal (c_growth.mono (by decide)) hr (pass_up (takes_of rfl rfl rfl rfl)) (da_cons (de_mk (c_Machine.mono (by decide)) hr (pass_up (takes_of rfl rfl rfl rfl)) (da_cons de_int (da_cons (de_tup (da_cons (de_tup (da_cons de_int (da_cons de_int da_nil))) (da_cons (de_tup (da_cons de_int (da_cons de_int da_nil))) (da_cons (de_tup (da_cons de_int (da_cons de_int da_nil))) da_nil)))) (da_cons (de_tup (da_cons de_bl (da_cons de_bl (da_cons de_bl da_nil)))) da_nil)))) da_nil)) (da_cons (de_cal (c_growth.mono (by decide)) hr (pass_up (takes_of rfl rfl rfl rfl)) (da_cons (de_mk (c_Machine.mono (by decide)) hr (pass_up (takes_of rfl rfl rfl rfl)) (da_cons de_int (da_cons (de_tup (da_cons (de_tup (da_cons de_int (da_cons de_int da_nil))) da_nil)) (da_cons (de_tup (da_cons de_bl da_nil)) da_nil)))) da_nil)) da_nil))))
  (dss_one (ds_ret (de_cmp op_eq r2_eqS (do_of_e (de_of_m (dm_callB (call_repr hr) rc_repr (by rfl) T.z_repr (by decide +kernel) (dao_cons (do_of_e (de_of_m (dm_op op_add5 r2_add (do_name 3) (do_of_e (de_of_m (dm_lst (da_cons (de_cal (c_growth.mono (by decide)) hr (pass_up (takes_of rfl rfl rfl rfl)) (da_cons (de_mk (c_Machine.mono (by decide)) hr (pass_up (takes_of rfl rfl rfl rfl)) (da_cons de_int (da_cons (de_tup (da_cons (de_tup (da_cons de_int (da_cons de_int da_nil))) (da_cons (de_tup (da_cons de_int (da_cons de_int da_nil))) da_nil))) (da_cons (de_tup (da_cons de_bl (da_cons de_bl da_nil))) da_nil)))) da_nil)) da_nil))))))) dao_nil)))) (do_of_e (de_of_m (dm_callB (call_repr hr) rc_repr (by rfl) T.z_repr (by decide +kernel) (dao_cons (do_of_e (de_of_m (dm_lst (da_cons (de_tup (da_cons de_str da_nil)) (da_cons (de_tup (da_cons de_str da_nil)) (da_cons (de_tup (da_cons de_str (da_cons de_int da_nil))) da_nil)))))) dao_nil)))))))))

/- used: ['dict', 'enumerate', 'int', 'len', 'max', 'min', 'range', 'repr', 'sum', 'tuple'] {"live_rooms": 1, "goals_from": 1, "back_goals": 1, "rings_from": 1, "longest": 1, "growth": 2, "is_between": 1, "is_table": 2, "are_truths": 1, "Machine.__init__": 3, "explored": 2, "kinds_of": 1, "shrunk": 5, "least": 6, "_law_mixed": 1, "_law_take": 2, "_law_pick": 3, "_law_table": 4, "_law_plan": 5, "_law_counts": 1, "_law_after": 1, "_law_growth": 2, "_law_chain": 3, "law": 7} -/
end DL
-- K73o
set_option Elab.async false
set_option linter.all false
set_option maxRecDepth 100000
set_option maxHeartbeats 2000000
set_option autoImplicit false
namespace DL
open PySem PySem.Spec L2
open PyProof.Rows hiding St
theorem run__law_take (a : Ad) (ds : List D) (Q : D → Prop) (E : EX) (h : sp__law_take a ds Q E) : ds.length = 2 ∧ sem__law_take a { nx := fun _ => Q .non, rt := Q } (startD 3 ds) E := by
  obtain ⟨n, rfl, h1, h2, hq⟩ := h
  refine ⟨rfl, ?_⟩
  unfold sem__law_take
  simp
  have go : ∀ m : Int, Q (.int (m % n)) := fun m => hq _ (Int.emod_nonneg _ (by omega)) (Int.emod_lt_of_pos _ h1)
  exact fun r => ⟨h1, fun r2 => ⟨⟨h1, by omega⟩, go r⟩⟩
theorem run__law_pick (a : Ad) (ds : List D) (Q : D → Prop) (E : EX) (h : sp__law_pick a ds Q E) : ds.length = 2 ∧ sem__law_pick a { nx := fun _ => Q .non, rt := Q } (startD 2 ds) E := by
  obtain ⟨xs, rfl, h1, h2, hq⟩ := h
  refine ⟨rfl, ?_⟩
  unfold sem__law_pick
  simp
  refine ⟨xs.length, rfl, by omega, by omega, fun r r1 r2 => ?_⟩
  obtain ⟨k, rfl⟩ := Int.eq_ofNat_of_zero_le r1
  have hk : k < xs.length := by omega
  simp [atI_nat]
  exact ⟨_, List.getElem?_eq_getElem hk, hq _ (List.getElem_mem hk)⟩
theorem run__law_mixed (a : Ad) (ds : List D) (Q : D → Prop) (E : EX) (h : sp__law_mixed a ds Q E) : ds.length = 1 ∧ sem__law_mixed a { nx := fun _ => Q .non, rt := Q } (startD 6 ds) E := by
  obtain ⟨rfl, hq⟩ := h
  refine ⟨rfl, ?_⟩
  unfold sem__law_mixed
  simp
  refine fun t => ⟨_, _, ⟨rfl, rfl⟩, by rw [sizeLine_eq]; omega, ?_⟩
  refine for_map (f := D.int) (xs := [2147483647, 2147483629, 2147483587]) (fun _ Δ => ∃ s1 f s4 s5, Δ = [.im .drw, s1, .im (.int t), .im (.int f), s4, s5]) ⟨_, _, _, _, rfl⟩ ?_ ?_
  · rintro i x Δ hi ⟨s1, f, s4, s5, rfl⟩
    have hx : 0 < x ∧ x < 2147483648 := by
      have := List.mem_of_getElem? hi
      simp at this
      rcases this with rfl | rfl | rfl <;> omega
    simp
    refine ⟨.inr ⟨by omega, by omega⟩, ⟨by omega, by omega⟩, hx.1, fun cs => ?_⟩
    refine for_map (fun _ Δ => ∃ b s5, 0 ≤ b ∧ b < x ∧ Δ = [.im .drw, .im (.int x), .im (.int t), .im (.int f), .im (.int b), s5]) ⟨_, _, Int.emod_nonneg _ (by omega), Int.emod_lt_of_pos _ hx.1, rfl⟩ ?_ ?_
    · rintro j c Δ hj ⟨b, s5, hb1, hb2, rfl⟩
      simp
      exact ⟨.inr ⟨by omega, by omega⟩, hx.1, Int.emod_nonneg _ (by omega), Int.emod_lt_of_pos _ hx.1⟩
    · rintro Δ ⟨b, s5, hb1, hb2, rfl⟩
      simp
      exact ⟨.inr ⟨by omega, by omega⟩, ⟨by omega, by omega, by omega⟩, hx.1⟩
  · rintro Δ ⟨s1, f, s4, s5, rfl⟩
    simp
    exact hq f

theorem run__law_table (a : Ad) (ds : List D) (Q : D → Prop) (E : EX) (h : sp__law_table a ds Q E) : ds.length = 3 ∧ sem__law_table a { nx := fun _ => Q .non, rt := Q } (startD N__law_table.length ds) E := by
  obtain ⟨n, c, rfl, h1, h2, h3, hq⟩ := h
  refine ⟨rfl, ?_⟩
  have z1 : 1 ≤ sizeLine := by rw [sizeLine_eq]; omega
  have z2 : 2 ≤ sizeLine := by rw [sizeLine_eq]; omega
  have z3 : 3 ≤ sizeLine := by rw [sizeLine_eq]; omega
  have z4 : 4 ≤ sizeLine := by rw [sizeLine_eq]; omega
  unfold sem__law_table sp__law_take
  simp
  intro w w1 w2
  refine ⟨_, _, ⟨rfl, rfl⟩, by omega, ?_⟩
  refine for_range (fun i Δ => ∃ s3 s4 s5 s8 s9 s10 T', Δ = [.im .drw, .im (.int n), .im (.int c), s3, s4, s5, .im (.int w), .ol (T'.map rowD), s8, s9, s10] ∧ T'.length = i ∧ ∀ r ∈ T', r.length = c + 1 ∧ ∀ k ∈ r, k < n) ⟨_, _, _, _, _, _, [], rfl, rfl, fun r hr => by simp at hr⟩ ?_ ?_
  · rintro i Δ hi ⟨s3, s4, s5, s8, s9, s10, T', rfl, hT1, hT2⟩
    simp
    refine ⟨by omega, by omega, ?_⟩
    refine for_range (fun j Δ => ∃ s9 s10 row, Δ = [.im .drw, .im (.int n), .im (.int c), .im (.int i), s4, s5, .im (.int w), .ol (T'.map rowD), .ol (row.map intD), s9, s10] ∧ row.length = j ∧ ∀ k ∈ row, k < n) ⟨_, _, [], rfl, rfl, fun k hk => by simp at hk⟩ ?_ ?_
    · rintro j Δ hj ⟨s9, s10, row, rfl, hr1, hr2⟩
      have fin : ∀ (z : Int) (s9 s10 : Sl), 0 ≤ z → z < n → ∃ (s9' s10' : Sl) (row' : List Nat), [Sl.im .drw, .im (.int n), .im (.int c), .im (.int i), s4, s5, .im (.int w), .ol (T'.map rowD), .ol (row.map intD ++ [.int z]), s9, s10] = [.im .drw, .im (.int n), .im (.int c), .im (.int i), s4, s5, .im (.int w), .ol (T'.map rowD), .ol (row'.map intD), s9', s10'] ∧ row'.length = j + 1 ∧ ∀ k ∈ row', k < n := fun z s9 s10 a1 a2 => by
        obtain ⟨k, rfl⟩ := Int.eq_ofNat_of_zero_le a1
        refine ⟨s9, s10, row ++ [k], by simp [intD], by simp [hr1], fun m hm => ?_⟩
        rcases List.mem_append.mp hm with hm | hm
        · exact hr2 m hm
        · simp at hm; omega
      have rsz : row.length < sizeLine := by rw [sizeLine_eq]; omega
      have em : ∀ x : Int, 0 ≤ x % (n : Int) ∧ x % (n : Int) < n := fun x => ⟨Int.emod_nonneg _ (by omega), Int.emod_lt_of_pos _ (by omega)⟩
      have tk : ∀ (Q : D → Prop) (E : EX) (m : Int), 0 < m → m < 1073741824 → (∀ r : Int, 0 ≤ r → r < m → Q (.int r)) → sp__law_take a [.drw, .int m] Q E := fun Q E m a1 a2 a3 => ⟨m, rfl, a1, by omega, a3⟩
      -- goals: some of the rooms
      let St : List Int → List Sl := fun gs => [.im .drw, .im (.int n), .im (.int c), .im (.int i), s4, s5, .im (.int w), .ol (T'.map rowD), .ol (row.map intD), .im (.int j), .ol (gs.map D.int)]
      have wq : ∀ (m : Int) (Q : Bool → List Sl → Prop) (gs : List Int), Q (decide (w = m)) (St gs) → dCmpT rdEq (dB 6) (dO (dC (.int m))) (St gs) Q E := fun m Q gs q => by simp [St]; exact q
      show dSeq _ _ _ [.im .drw, .im (.int n), .im (.int c), .im (.int i), s4, s5, .im (.int w), .ol (T'.map rowD), .ol (row.map intD), .im (.int (0 + j)), s10] E
      rw [show (0 : Int) + (j : Int) = j by omega]
      refine seqN fun M1 m1 _ _ _ => ?_
      simp [z1]
      refine ⟨by omega, by omega, fun r0 a1 a2 => m1 _ ?_⟩
      have g0 : ∀ z ∈ [r0], 0 ≤ z ∧ z < (n : Int) := by simpa using ⟨a1, a2⟩
      show dSeq _ _ _ (St [r0]) E
      -- one after the other
      have step : ∀ (m : Int) (t : DTM) (M : DEnds) (gs : List Int), (∀ z ∈ gs, 0 ≤ z ∧ z < (n : Int)) → gs ≠ [] → gs.length ≤ 3 → (∀ Q : Sl → List Sl → Prop, (∀ gs' : List Int, (∀ z ∈ gs', 0 ≤ z ∧ z < (n : Int)) → gs' ≠ [] → gs'.length ≤ 3 → Q (.ol (gs'.map D.int)) (St gs)) → t (St gs) Q E) →
          (∀ gs' : List Int, (∀ z ∈ gs', 0 ≤ z ∧ z < (n : Int)) → gs' ≠ [] → gs'.length ≤ 3 → M.nx (St gs')) → dIfS (dCmpT rdEq (dB 6) (dO (dC (.int m)))) (dSetM 10 t) dNext M (St gs) E := fun m t M gs h1 h2 h3 ht hM => by
        refine ifN (fun Q q => wq m Q gs q) (fun _ => ?_) fun _ => hM gs h1 h2 h3
        rw [sDSetM]
        exact ht _ fun gs' b1 b2 b3 => ⟨by simp [St], by simpa [St] using hM gs' b1 b2 b3⟩
      refine seqN fun M2 m2 _ _ _ => step 0 _ M2 [r0] g0 (by simp) (by simp) (fun Q q => ?_) fun gs2 b1 b2 b3 => m2 _ ?_
      · simp [z3, St]
        exact ⟨by omega, q [((i : Int) + 1) % n, ((i : Int) + 1) % n, 0] (by intro z hz; simp at hz; rcases hz with rfl | rfl; exact em _; omega) (by simp) (by simp)⟩
      refine seqN fun M3 m3 _ _ _ => step 1 _ M3 gs2 b1 b2 b3 (fun Q q => ?_) fun gs3 c1 c2 c3 => m3 _ ?_
      · simp [z2, St]
        exact q [(i : Int), if (n : Int) - 1 < i + 1 then (n : Int) - 1 else i + 1] (by intro z hz; simp at hz; rcases hz with rfl | rfl; omega; split <;> omega) (by simp) (by simp)
      refine seqN fun M4 m4 _ _ _ => step 2 _ M4 gs3 c1 c2 c3 (fun Q q => ?_) fun gs4 d1 d2 d3 => m4 _ ?_
      · simp [z1, St]
        exact fun r r1 r2 => q [if (n : Int) - 1 < i + 1 + r then (n : Int) - 1 else i + 1 + r] (by intro z hz; simp at hz; subst hz; split <;> omega) (by simp) (by simp)
      refine seqN fun M5 m5 _ _ _ => step 3 _ M5 gs4 d1 d2 d3 (fun Q q => ?_) fun gs5 e1 e2 e3 => m5 _ ?_
      · simp [z3, St]
        refine ⟨by omega, by omega, fun r r1 r2 => ?_⟩
        exact q [((i : Int) + j) % n, r, (n : Int) - 1] (by intro z hz; simp at hz; rcases hz with rfl | rfl | rfl; exact em _; omega; omega) (by simp) (by simp)
      have last : ∀ (M : DEnds) (gs : List Int), (∀ z ∈ gs, 0 ≤ z ∧ z < (n : Int)) → gs ≠ [] → gs.length ≤ 3 → (∀ (z : Int) (s10 : Sl), 0 ≤ z → z < n → M.nx [.im .drw, .im (.int n), .im (.int c), .im (.int i), s4, s5, .im (.int w), .ol (T'.map rowD), .ol (row.map intD ++ [.int z]), .im (.int j), s10]) → dAppend 8 (dCons (DL.dFn (sp__law_pick a) (dCons (dVar 0) (dCons (dVar 10) dNil))) dNil) M (St gs) E := fun M gs h1 h2 h3 hM => by
        simp [St, sp__law_pick, rsz]
        refine ⟨List.length_pos_iff.mpr h2, by omega, fun z hz => hM z _ (h1 z hz).1 (h1 z hz).2⟩
      refine seqN fun M6 m6 _ _ _ => ifN (b := decide (w = 4) && decide (i = n - 1)) (fun Q q => ?_) (fun _ => ?_) fun _ => m6 _ ?_
      · simp [St]
        by_cases h4 : w = 4
        · simp [h4] at q ⊢
          have e : decide ((i : Int) = (n : Int) - 1) = decide (i = n - 1) := decide_eq_decide.mpr (by omega)
          rw [e]
          simpa [St, h4] using q
        · simp [h4] at q ⊢
          simpa [St] using q
      · rw [sDSetM]
        simp [St, z1]
        refine m6 _ (last _ [(i : Int)] (by intro z hz; simp at hz; omega) (by simp) (by simp) fun z s10 y1 y2 => fin z _ _ y1 y2)
      · exact last _ gs5 e1 e2 e3 fun z s10 y1 y2 => fin z _ _ y1 y2
    · rintro Δ ⟨s9, s10, row, rfl, hr1, hr2⟩
      simp
      refine ⟨by rw [sizeLine_eq]; omega, _, _, _, _, _, _, T' ++ [row], ⟨rfl, rfl, rfl, by simp [rowD], rfl, rfl, rfl⟩, by simp [hT1], fun r hr => ?_⟩
      rcases List.mem_append.mp hr with hr | hr
      · exact hT2 r hr
      · simp at hr; subst hr; exact ⟨hr1, hr2⟩
  · rintro Δ ⟨s3, s4, s5, s8, s9, s10, T', rfl, hT1, hT2⟩
    simp [z4]
    refine ⟨_, rfl, by simp, by simp, fun d hd => ?_⟩
    obtain ⟨k, rfl⟩ : ∃ k : Int, d = .int k := by simp at hd; rcases hd with rfl | rfl | rfl <;> exact ⟨_, rfl⟩
    refine ⟨by omega, ?_⟩
    refine ⟨fun i acc Δ => Δ = [.im .drw, .im (.int n), .im (.int c), .un, .im (.int k), s5, .im (.int w), .ol (T'.map rowD), s8, s9, s10] ∧ ∃ bs : List Bool, acc = bs.map D.bl ∧ bs.length = i, ⟨rfl, [], rfl, rfl⟩, ?_, ?_⟩
    · rintro i d acc Δ hi ⟨rfl, bs, rfl, hb⟩
      have hil := (List.getElem?_eq_some_iff.mp hi).1
      rw [rngD_length] at hil
      simp
      intro r r1 r2
      exact ⟨by rw [hb, sizeLine_eq]; omega, bs ++ [decide (r < k)], by simp, by simp [hb]⟩
    · rintro acc Δ ⟨rfl, bs, rfl, hb⟩
      rw [rngD_length] at hb
      simp
      exact ⟨z2, hq T' bs ⟨hT1, hT2⟩ hb⟩

theorem run__law_plan (a : Ad) (ds : List D) (Q : D → Prop) (E : EX) (h : sp__law_plan a ds Q E) : ds.length = 2 ∧ sem__law_plan a { nx := fun _ => Q .non, rt := Q } (startD N__law_plan.length ds) E := by
  obtain ⟨m, rfl, h1, h2, hq⟩ := h
  refine ⟨rfl, ?_⟩
  have z1 : 1 ≤ sizeLine := by rw [sizeLine_eq]; omega
  have z3 : 3 ≤ sizeLine := by rw [sizeLine_eq]; omega
  have z7 : 7 ≤ sizeLine := by rw [sizeLine_eq]; omega
  unfold sem__law_plan sp__law_take sp__law_pick sp__law_table
  simp [z1, z7]
  intro r r1 r2
  refine ⟨by omega, by omega, fun r' r3 r4 => ?_⟩
  have fin : ∀ (x : Int), 1 ≤ x → x ≤ (max 5 m : Nat) → ∃ n c : Nat, (x = (n : Int) ∧ 1 + r = (c : Int)) ∧ 1 ≤ n ∧ n ≤ 60 ∧ c ≤ 4 ∧ ∀ (T : List (List Nat)) (g : List Bool), TabN T n c → g.length = n → 3 ≤ sizeLine ∧ Q (D.tup [D.int (1 + r), tblD T, D.tup (blsD g)]) := fun x x1 x2 => by
    obtain ⟨n, rfl⟩ := Int.eq_ofNat_of_zero_le (by omega : 0 ≤ x)
    obtain ⟨c, hc⟩ := Int.eq_ofNat_of_zero_le (by omega : 0 ≤ 1 + r)
    refine ⟨n, c, ⟨rfl, hc⟩, by omega, by omega, by omega, fun T g hT hg => ⟨z3, ?_⟩⟩
    rw [hc]
    have hn := hT.len
    exact hq c T g ⟨by omega, by omega, ⟨by omega, by omega, fun rr hr => by
      obtain ⟨a1, a2⟩ := hT.row rr hr
      exact ⟨a1, fun k hk => by have := a2 k hk; omega⟩⟩, by omega⟩ (by omega)
  exact ⟨fin 1 (by omega) (by omega), fin 2 (by omega) (by omega), fin 3 (by omega) (by omega), fin 4 (by omega) (by omega), fin 5 (by omega) (by omega), fin (1 + r') (by omega) (by omega), fin m (by omega) (by omega)⟩
end DL
-- K73p
set_option Elab.async false
set_option linter.all false
set_option maxRecDepth 100000
set_option maxHeartbeats 2000000
set_option autoImplicit false
namespace DL
open PySem PySem.Spec L2
open PyProof.Rows hiding St
abbrev afB : DTS := (dFor (dSeqI (dIx (dO (dIx (dB 0) (dO (dC (.int 1))))) (dO (dPop 3)))) (dgName 4)
  (dIfS (dCmpT rdNotIn (dB 4) (dB 2))
  (dSeq (dSetIx 2 (dC (.bl true)) (dVar 4))
  (dAppend 3 (dCons (dVar 4) dNil)))
  dNext))
theorem plan_1 {c : Nat} {T : List (List Nat)} {g : List Bool} {Q : D → Prop} (h : Q (tblD T)) : rdIx (planD c T g) (.int 1) Q := ⟨tblD T, rfl, h⟩
theorem plan_0 {c : Nat} {T : List (List Nat)} {g : List Bool} {Q : D → Prop} (h : Q (.int c)) : rdIx (planD c T g) (.int 0) Q := ⟨.int c, rfl, h⟩
theorem plan_2 {c : Nat} {T : List (List Nat)} {g : List Bool} {Q : D → Prop} (h : Q (.tup (blsD g))) : rdIx (planD c T g) (.int 2) Q := ⟨.tup (blsD g), rfl, h⟩
theorem tbl_at {T : List (List Nat)} {r : Nat} {Q : D → Prop} (hr : r < T.length) (h : Q (rowD (rowAt T r))) : rdIx (tblD T) (intD r) Q := ⟨_, at_row hr, h⟩
theorem after_loop {c : Nat} {T : List (List Nat)} {g : List Bool} {N : DEnds} {E : EX} {r : Nat} {s4 : Sl} (ok : OkM c T g) (hrl : r < T.length)
    (h : ∀ (F : List Nat) (s4 : Sl), F.Nodup → (∀ x, x ∈ F ↔ PtM c T r x) → N.nx [.im (planD c T g), .im (intD r), .ok (dkN trD F), .ol [], s4]) :
    dWhile (dCmpT rdNe (dB 3) (dO (dClean (dLst dNil)))) afB N [.im (planD c T g), .im (intD r), .ok (dkN trD []), .ol [intD r], s4] E := by
  have hl := ok.t.l1
  have h2 := ok.t.l2
  refine whileN (fun m Δ => ∃ F S s4, Δ = [.im (planD c T g), .im (intD r), .ok (dkN trD F), .ol (S.map intD), s4] ∧ BInv T c (fun _ => true) r (fun x => PtM c T r x) F S ∧ m = (T.length - F.length) + S.length ∧ m ≤ 61) ⟨[], [r], s4, rfl, ⟨by simp, fun x hx => by simp at hx, fun s hs => by simp at hs; exact .inl hs, fun x hx => by simp at hx, fun x hx hn => by simp at hx hn; exact absurd hx hn⟩, rfl, by simp; omega⟩ ?_
  rintro m Δ ⟨F, S, s4, rfl, B, rfl, hm⟩ M mn _ _ _
  rcases snoc_cases S with rfl | ⟨S, q, rfl⟩
  · simp
    refine h F s4 B.nd fun x => ⟨B.pr x, fun ⟨i, hi, w, hw, e⟩ => ?_⟩
    subst e
    have go : ∀ (w : List Nat) (y i : Nat), (y = r ∨ y ∈ F) → i ≤ c → Inks c w → run (nx T) (nx T y i) w ∈ F := fun w => by
      induction w with
      | nil => exact fun y i hy hi _ => B.cl y hy (by simp) i hi rfl
      | cons j w ih => exact fun y i hy hi hw => ih _ j (.inr (B.cl y hy (by simp) i hi rfl)) hw.head hw.tail
    exact go w r i (.inl rfl) hi hw
  · obtain ⟨hq, B', hlt⟩ := B.turn ok.t hrl fun x hx i hi _ => by
      rcases hx with rfl | hx
      · exact .one hi
      · exact hx.right (.one hi)
    have hrow := (row_of ok.t hq).1
    have hc := ok.c2
    have lF := B.len
    simp only [List.length_append, List.length_cons, List.length_nil] at hm
    have oe := okEq_nats (S ++ [q])
    simp only [List.map_append, List.map_cons, List.map_nil] at oe
    simp [oe]
    refine plan_1 (tbl_at hq ⟨_, rfl, bfo_for (fr := fun F S s => [.im (planD c T g), .im (intD r), .ok (dkN trD F), .ol (S.map intD), s]) (fun _ => true) F S s4 (fun x hx F' S' s' M l1 l2 hM => ?_) fun s' => ?_⟩)
    · unfold bst at hM
      simp
      by_cases e : x ∈ F'
      · simp [e] at hM ⊢
        exact hM _
      · simp [e] at hM ⊢
        refine setIxK rfl ?_
        simp [dkN_length, e]
        exact ⟨by rw [sizeLine_eq]; omega, by rw [sizeLine_eq]; omega, hM _⟩
    · simp at hlt ⊢
      refine mn _ _ ?_ ⟨_, _, _, rfl, B', rfl, by omega⟩
      simp; exact hlt
theorem run__law_after (a : Ad) (ds : List D) (Q : D → Prop) (E : EX) (h : sp__law_after a ds Q E) : ds.length = 2 ∧ sem__law_after a { nx := fun _ => Q .non, rt := Q } (startD N__law_after.length ds) E := by
  obtain ⟨c, T, g, r, rfl, ok, hr, hq⟩ := h
  refine ⟨rfl, ?_⟩
  have z1 : 1 ≤ sizeLine := by rw [sizeLine_eq]; omega
  unfold sem__law_after
  refine seqN fun M m hrt _ _ => ?_
  simp [z1]
  refine .inl ⟨_, _, ⟨rfl, rfl⟩, m _ ?_⟩
  refine seqN fun M1 m1 _ _ _ => ?_
  refine after_loop ok hr fun F s5 hF hR => m1 _ ?_
  simp
  exact hq F hF hR
end DL
-- K73q
set_option Elab.async false
set_option linter.all false
set_option maxRecDepth 100000
set_option maxHeartbeats 2000000
set_option autoImplicit false
namespace DL
open PySem PySem.Spec L2
open PyProof.Rows hiding St
@[simp] theorem sSum1 {xs : List D} {Q : Sl → Prop} : rdSum [.lst xs] Q = ∃ ns : List Int, xs = ns.map D.int ∧ Q (.im (.int ns.sum)) := rfl
theorem sum_nat : ∀ (ns : List Nat), (ns.map Int.ofNat).sum = ((ns.sum : Nat) : Int)
  | [] => rfl
  | n :: ns => by
    rw [List.map_cons, List.sum_cons, List.sum_cons, sum_nat ns, Int.natCast_add]
    rfl
theorem sum_pos {ns : List Nat} : 0 < ns.sum ↔ ∃ n ∈ ns, 0 < n := by
  induction ns with
  | nil => simp
  | cons x ns ih =>
    rw [List.sum_cons]
    constructor
    · intro h
      by_cases hx : 0 < x
      · exact ⟨x, List.mem_cons_self, hx⟩
      · obtain ⟨n, hn, h0⟩ := ih.mp (by omega)
        exact ⟨n, List.mem_cons_of_mem _ hn, h0⟩
    · rintro ⟨n, hn, h0⟩
      rcases List.mem_cons.mp hn with rfl | hn
      · omega
      · have := ih.mpr ⟨n, hn, h0⟩; omega
/-- a room is come to by k cells -/
def At (f : Nat → Nat → Nat) (c k r : Nat) : Prop := ∃ w, Inks c w ∧ w.length = k ∧ run f 0 w = r
theorem at_next {f : Nat → Nat → Nat} {c k y : Nat} : At f c (k + 1) y ↔ ∃ x i, At f c k x ∧ i ≤ c ∧ f x i = y := by
  constructor
  · rintro ⟨w, hw, hl, e⟩
    rcases snoc_cases w with rfl | ⟨v, i, rfl⟩
    · simp at hl
    · have hi : i ≤ c := hw i (by simp)
      rw [run_append] at e
      exact ⟨run f 0 v, i, ⟨v, hw.left, by simpa using hl, rfl⟩, hi, e⟩
  · rintro ⟨x, i, ⟨w, hw, hl, e⟩, hi, rfl⟩
    exact ⟨w ++ [i], hw.append (.cons hi .nil), by simp [hl], by rw [run_append, e]; rfl⟩
theorem at_acc {f : Nat → Nat → Nat} {c k : Nat} {g : Nat → Bool} : Acc f c g k ↔ ∃ r, At f c k r ∧ g r = true := by
  constructor
  · rintro ⟨w, hw, hl, hg⟩
    exact ⟨_, ⟨w, hw, hl, rfl⟩, hg⟩
  · rintro ⟨r, ⟨w, hw, hl, e⟩, hg⟩
    exact ⟨w, hw, hl, by rw [e]; exact hg⟩
structure NInv (T : List (List Nat)) (c k : Nat) (nf : Nat → Nat) (nl : List Nat) : Prop where
  nd : nl.Nodup
  mem : ∀ r, r ∈ nl ↔ At (nx T) c k r
  pos : ∀ r ∈ nl, 0 < nf r
theorem NInv.lt {T : List (List Nat)} {c k : Nat} {nf : Nat → Nat} {nl : List Nat} (ok : OkT T c) (I : NInv T c k nf nl) {r : Nat} (h : r ∈ nl) : r < T.length := by
  obtain ⟨w, hw, _, e⟩ := (I.mem r).mp h
  exact lv_lt ok ⟨w, hw, e⟩
theorem NInv.len {T : List (List Nat)} {c k : Nat} {nf : Nat → Nat} {nl : List Nat} (ok : OkT T c) (I : NInv T c k nf nl) : nl.length ≤ 60 := by
  have := List.Nodup.length_le_of_subset (l₂ := List.range T.length) I.nd fun x hx => List.mem_range.mpr (I.lt ok hx)
  have h2 := ok.l2
  simp at this; omega
abbrev cnS : DTS := (dSetIx 8 (dClean (dOpM rdAdd (dO (dGet2 (dB 8) (dVar 10) (dC (.int 0)))) (dO (dIx (dB 6) (dB 9))))) (dVar 10))
theorem cn_step {N : DEnds} {E : EX} {lf nf : Nat → Nat} {ll nl : List Nat} {r x : Nat} {s0 s1 s2 s3 s4 s5 s6 s7 : Sl} (hs6 : s6.er = some (.dk (dkN (numD nf) nl))) (hr : r ∈ nl) (hll : ll.length ≤ 60)
    (h : N.nx [s0, s1, s2, s3, s4, s5, s6, s7, .ok (dkN (numD (upF lf x ((if x ∈ ll then lf x else 0) + nf r))) (if x ∈ ll then ll else ll ++ [x])), .im (intD r), .im (intD x)]) :
    cnS N [s0, s1, s2, s3, s4, s5, s6, s7, .ok (dkN (numD lf) ll), .im (intD r), .im (intD x)] E := by
  refine setIxK rfl ?_
  have hv : val (dkN (numD nf) nl) (Sum.inl (r : Int)) = some (numD nf r) := val_in hr
  have key : (val (dkN (numD lf) ll) (Sum.inl (x : Int))).getD (.int 0) = intD (if x ∈ ll then lf x else 0) := by
    rw [val_dkS]
    split <;> rfl
  simp only [sDClean, sDOpM, sDO, sGet2, sDB, sDVar, sDC, sDIx, sResR, sResL]
  refine ⟨⟨_, _, rfl, rfl⟩, ⟨_, rfl⟩, _, _, rfl, rfl, _, _, rfl, rfl, ⟨_, _, rfl, hs6⟩, ⟨_, _, rfl, rfl⟩, _, _, hs6, rfl, ?_⟩
  rw [sIxK]
  refine ⟨_, _, rfl, hv, _, _, rfl, rfl, ?_⟩
  rw [key]
  unfold numD intD
  rw [sAddI]
  refine ⟨_, rfl, _, _, rfl, rfl, _, _, rfl, rfl, by rw [dkN_length, sizeLine_eq]; omega, ?_⟩
  have hp : put (dkN (fun r => D.int ((lf r : Nat) : Int)) ll) (Sum.inl (x : Int)) (D.int (((if x ∈ ll then lf x else 0 : Nat) : Int) + (nf r : Int))) = dkN (numD (upF lf x ((if x ∈ ll then lf x else 0) + nf r))) (if x ∈ ll then ll else ll ++ [x]) := by
    rw [put_dkN]
    refine dkN_congr fun z _ => ?_
    unfold numD upF intD
    split
    · rw [Int.natCast_add]
    · rfl
  rw [hp]
  exact h
theorem later_loop {N : DEnds} {E : EX} {c : Nat} {T : List (List Nat)} {nf : Nat → Nat} {nl : List Nat} {s0 s1 s2 s3 s5 s6 s7 s9 s10 : Sl} (ok : OkT T c) (hc : c ≤ 4) (hnl : ∀ r ∈ nl, r < T.length) (hpos : ∀ r ∈ nl, 0 < nf r) (hs6 : s6.er = some (.dk (dkN (numD nf) nl)))
    (h : ∀ (lf : Nat → Nat) (ll : List Nat) (s9 s10 : Sl), ll.Nodup → (∀ x ∈ ll, 0 < lf x) → (∀ x, x ∈ ll ↔ ∃ r ∈ nl, x ∈ rowAt T r) → N.nx [s0, s1, s2, s3, .im (tblD T), s5, .im (.dk (dkN (numD nf) nl)), s7, .ok (dkN (numD lf) ll), s9, s10]) :
    dFor (dSeqI (dVar 6)) (dgName 9) (dFor (dSeqI (dIx (dB 4) (dB 9))) (dgName 10) cnS) N [s0, s1, s2, s3, .im (tblD T), s5, s6, s7, .ok [], s9, s10] E := by
  have h2 := ok.l2
  have llen : ∀ {ll : List Nat}, ll.Nodup → (∀ x ∈ ll, x < T.length) → ll.length ≤ 60 := fun {ll} nd hlt => by
    have := List.Nodup.length_le_of_subset (l₂ := List.range T.length) nd fun x hx => List.mem_range.mpr (hlt x hx)
    simp at this; omega
  simp only [sFor, sSeqI, sDVar]
  refine ⟨_, _, rfl, hs6, _, items_dkN, ?_⟩
  refine forN (fun i Δ => ∃ lf ll s9 s10, Δ = [s0, s1, s2, s3, .im (tblD T), s5, .im (.dk (dkN (numD nf) nl)), s7, .ok (dkN (numD lf) ll), s9, s10] ∧ ll.Nodup ∧ (∀ x ∈ ll, 0 < lf x) ∧ ∀ x, x ∈ ll ↔ ∃ r ∈ nl.take i, x ∈ rowAt T r) ⟨fun _ => 0, [], s9, s10, rfl, by simp, by simp, by simp⟩ ?_ ?_
  · rintro i r Δ hi ⟨lf, ll, s9, s10, rfl, nd, pos, mem⟩ M m _ _ _
    have hr := List.mem_of_getElem? hi
    have hrl := hnl r hr
    simp only [sDgName, sDIx, sDB, sResR]
    refine ⟨⟨_, _, rfl, rfl⟩, ⟨_, _, rfl, rfl⟩, _, _, rfl, rfl, tbl_at hrl ⟨_, rfl, ?_⟩⟩
    refine forN (fun k Δ => ∃ lf ll s10, Δ = [s0, s1, s2, s3, .im (tblD T), s5, .im (.dk (dkN (numD nf) nl)), s7, .ok (dkN (numD lf) ll), .im (intD r), s10] ∧ ll.Nodup ∧ (∀ x ∈ ll, 0 < lf x) ∧ ∀ x, x ∈ ll ↔ (∃ r ∈ nl.take i, x ∈ rowAt T r) ∨ x ∈ (rowAt T r).take k) ⟨lf, ll, s10, rfl, nd, pos, fun x => by rw [mem]; simp⟩ ?_ ?_
    · rintro k x Δ hk ⟨lf, ll, s10, rfl, nd, pos, mem⟩ M2 m2 _ _ _
      have hx := List.mem_of_getElem? hk
      have hlt : ∀ y ∈ ll, y < T.length := fun y hy => by
        rcases (mem y).mp hy with ⟨r', h1, h2⟩ | h1
        · exact (row_of ok (hnl r' (List.mem_of_mem_take h1))).2 y h2
        · exact (row_of ok hrl).2 y (List.mem_of_mem_take h1)
      have et : ∀ z, z ∈ (rowAt T r).take (k + 1) ↔ z ∈ (rowAt T r).take k ∨ z = x := fun z => by rw [List.take_add_one, hk]; simp
      show cnS _ [s0, s1, s2, s3, .im (tblD T), s5, .im (.dk (dkN (numD nf) nl)), s7, .ok (dkN (numD lf) ll), .im (intD r), .im (intD x)] E
      refine cn_step rfl hr (llen nd hlt) (m2 _ ⟨_, _, _, rfl, ?_, fun y hy => ?_, fun y => ?_⟩)
      · split
        · exact nd
        · rename_i hn
          exact List.nodup_append.mpr ⟨nd, by simp, fun a ha b hb e => by simp at hb; subst hb; subst e; exact hn ha⟩
      · have := hpos r hr
        unfold upF
        split
        · omega
        · rename_i hyx
          split at hy
          · exact pos y hy
          · rcases List.mem_append.mp hy with hy | hy
            · exact pos y hy
            · simp at hy; exact absurd hy hyx
      · rw [et]
        split
        · rename_i hxl
          rw [mem]
          constructor
          · rintro (h | h)
            · exact .inl h
            · exact .inr (.inl h)
          · rintro (h | h | h)
            · exact .inl h
            · exact .inr h
            · subst h; exact (mem y).mp hxl
        · rw [List.mem_append, mem]
          simp [or_assoc]
    · rintro Δ ⟨lf, ll, s10, rfl, nd, pos, mem⟩
      refine m _ ⟨lf, ll, _, _, rfl, nd, pos, fun x => ?_⟩
      rw [mem, List.take_of_length_le (Nat.le_refl _)]
      have et : ∀ z, z ∈ nl.take (i + 1) ↔ z ∈ nl.take i ∨ z = r := fun z => by rw [List.take_add_one, hi]; simp
      constructor
      · rintro (⟨r', h1, h2⟩ | h)
        · exact ⟨r', (et r').mpr (.inl h1), h2⟩
        · exact ⟨r, (et r).mpr (.inr rfl), h⟩
      · rintro ⟨r', h1, h2⟩
        rcases (et r').mp h1 with h1 | rfl
        · exact .inl ⟨r', h1, h2⟩
        · exact .inr h2
  · rintro Δ ⟨lf, ll, s9, s10, rfl, nd, pos, mem⟩
    exact h lf ll _ _ nd pos fun x => by rw [mem, List.take_of_length_le (Nat.le_refl _)]
theorem run__law_counts (a : Ad) (ds : List D) (Q : D → Prop) (E : EX) (h : sp__law_counts a ds Q E) : ds.length = 2 ∧ sem__law_counts a { nx := fun _ => Q .non, rt := Q } (startD N__law_counts.length ds) E := by
  obtain ⟨c, T, g, n, rfl, ok, hn, hq⟩ := h
  refine ⟨rfl, ?_⟩
  have z1 : 1 ≤ sizeLine := by rw [sizeLine_eq]; omega
  have z2 : 2 ≤ sizeLine := by rw [sizeLine_eq]; omega
  have h1 := ok.t.l1
  have hc := ok.c2
  unfold sem__law_counts
  refine seqN fun M m hrt _ _ => ?_
  simp only [sDAsg, sDVar, sDgTup, sDgCons, sDgNil, sDgName]
  refine ⟨_, _, rfl, rfl, _, .inl rfl, rfl, _, _, rfl, _, _, rfl, _, _, rfl, rfl, m _ ?_⟩
  refine seqN fun M1 m1 _ _ _ => ?_
  simp [z1, z2]
  refine ⟨[(ky 0, .int 1)], rfl, _, _, ⟨rfl, rfl⟩, m1 _ ?_⟩
  have e0 : putAll [] [(ky 0, D.int 1)] = dkN (numD fun _ => 1) [0] := rfl
  rw [e0]
  refine seqN fun M2 m2 _ _ _ => ?_
  have start : NInv T c 0 (fun _ => 1) [0] := ⟨by simp, fun r => by
    constructor
    · intro hr
      obtain rfl : r = 0 := by simpa using hr
      exact ⟨[], .nil, rfl, rfl⟩
    · rintro ⟨w, _, hl, e⟩
      obtain rfl : w = [] := List.length_eq_zero_iff.mp hl
      have : r = 0 := e.symm
      simp [this], fun _ _ => Nat.one_pos⟩
  simp only [sFor, sRng1, sDCons, sDVar, sDNil]
  refine ⟨_, _, rfl, rfl, (n : Int), rfl, by omega, by omega, ?_⟩
  rw [Int.toNat_natCast]
  refine forRN (fun k Δ => ∃ (nf : Nat → Nat) (nl found : List Nat) (s2 s6 s8 s9 s10 : Sl), Δ = [.im (planD c T g), .im (intD n), s2, .im (.int c), .im (tblD T), .im (.tup (blsD g)), s6, .ol (found.map intD), s8, s9, s10] ∧ s6.er = some (.dk (dkN (numD nf) nl)) ∧ NInv T c k nf nl ∧ found.length = k ∧ ∀ j, j < k → (0 < found.getD j 0 ↔ Acc (nx T) c (gdb g) j)) ⟨fun _ => 1, [0], [], .un, .ok (dkN (numD fun _ => 1) [0]), .un, .un, .un, rfl, rfl, start, rfl, fun j hj => by omega⟩ ?_ ?_
  · rintro k Δ hk ⟨nf, nl, found, s2, s6, s8, s9, s10, rfl, hs6, I, hf, hacc⟩ M3 m3 _ _ _
    have hnl := I.len ok.t
    simp only [sDgName]
    refine seqN fun M4 m4 _ _ _ => ?_
    have eF : nl.filterMap (fun r => if gdb g r then some (intD (nf r)) else none) = ((nl.filter fun r => gdb g r).map nf).map intD := by
      clear hnl I hs6
      induction nl with
      | nil => rfl
      | cons y nl ih =>
        cases hy : gdb g y with
        | true => simp [List.filterMap_cons, List.filter_cons, hy, ih]
        | false => simp [List.filterMap_cons, List.filter_cons, hy, ih]
    simp [hs6, keys_dkN]
    refine lc_map (fun r => if gdb g r then some (intD (nf r)) else none) [.im (planD c T g), .im (intD n), .im (.int k), .im (.int c), .im (tblD T), .im (.tup (blsD g)), .im (.dk (dkN (numD nf) nl)), .ol (found.map intD), s8, .un, s10] (by simp) (by rw [sizeLine_eq]; omega) (fun r hr Rr hR => ?_) ?_
    · have eg := at_good (g := g) (r := r) (by rw [ok.g]; exact I.lt ok.t hr)
      have hv : val (dkN (numD nf) nl) (Sum.inl (r : Int)) = some (numD nf r) := val_in hr
      simp only [sDgName, sDTst, sDIx, sDB, sResR]
      refine ⟨⟨_, _, rfl, rfl⟩, ⟨_, _, rfl, rfl⟩, _, _, rfl, rfl, _, eg, _, rfl, ?_⟩
      cases hg : gdb g r with
      | true =>
        simp only [hg] at hR
        rw [if_pos rfl]
        refine ⟨⟨_, _, rfl, rfl⟩, ⟨_, _, rfl, rfl⟩, _, _, rfl, rfl, ?_⟩
        rw [sIxK]
        exact ⟨_, _, rfl, hv, by simpa [numD] using hR⟩
      | false =>
        simp [hg] at hR ⊢
        exact hR
    · rw [eF]
      simp
      refine ⟨((nl.filter fun r => gdb g r).map nf).map Int.ofNat, by simp [List.map_map]; intro x _ _; rfl, by rw [sizeLine_eq]; omega, m4 _ ?_⟩
      rw [sum_nat]
      refine seqN fun M5 m5 _ _ _ => ?_
      simp only [sDSetM, sDDict0]
      refine .inl ⟨by simp, m5 _ ?_⟩
      refine seqN fun M6 m6 _ _ _ => ?_
      refine later_loop ok.t hc (fun r hr => I.lt ok.t hr) I.pos rfl fun lf ll s9 s10 nd pos mem => m6 _ ?_
      simp only [sDSet, sDVar]
      refine ⟨_, _, rfl, rfl, m3 _ ⟨lf, ll, found ++ [((nl.filter fun r => gdb g r).map nf).sum], .im (.int k), .im (.dk (dkN (numD lf) ll)), .im (.dk (dkN (numD lf) ll)), s9, s10, by simp [intD], rfl, ⟨nd, fun x => ?_, pos⟩, by simp [hf], fun j hj => ?_⟩⟩
      · rw [mem, at_next]
        constructor
        · rintro ⟨r, hr, hx⟩
          obtain ⟨i, hi, e⟩ := mem_nx ok.t (I.lt ok.t hr) hx
          exact ⟨r, i, (I.mem r).mp hr, hi, e⟩
        · rintro ⟨r, i, hr, hi, rfl⟩
          have hr := (I.mem r).mpr hr
          exact ⟨r, hr, nx_mem ok.t (I.lt ok.t hr) hi⟩
      · by_cases e : j < k
        · rw [List.getD_eq_getElem?_getD, List.getElem?_append_left (by omega), ← List.getD_eq_getElem?_getD]
          exact hacc j e
        · obtain rfl : j = k := by omega
          rw [List.getD_eq_getElem?_getD, List.getElem?_append_right (by omega), hf, Nat.sub_self]
          simp only [List.getElem?_cons_zero, Option.getD_some]
          rw [sum_pos, at_acc]
          constructor
          · rintro ⟨v, hv, h0⟩
            obtain ⟨r, hr, rfl⟩ := List.mem_map.mp hv
            rw [List.mem_filter] at hr
            exact ⟨r, (I.mem r).mp hr.1, hr.2⟩
          · rintro ⟨r, hr, hg⟩
            have hr := (I.mem r).mpr hr
            exact ⟨nf r, List.mem_map.mpr ⟨r, List.mem_filter.mpr ⟨hr, hg⟩, rfl⟩, I.pos r hr⟩
  · rintro Δ ⟨nf, nl, found, s2, s6, s8, s9, s10, rfl, hs6, I, hf, hacc⟩
    refine m2 _ ?_
    simp
    exact hq found hf hacc
end DL
-- P73e
set_option Elab.async false
set_option linter.all false
set_option maxRecDepth 100000
set_option maxHeartbeats 2000000
set_option autoImplicit false
namespace DL
open PySem PySem.Spec L2
open PyProof.Rows hiding St
/-! ### one room of each ring stands for it -/
section
variable {f : Nat → Nat → Nat} {c : Nat} {g : Nat → Bool}
/-- rooms of rings, of each ring at most one -/
structure Hds (f : Nat → Nat → Nat) (c : Nat) (g : Nat → Bool) (Hs : List Nat) : Prop where
  ring : ∀ h ∈ Hs, Lv f c g h ∧ Pt f c h h
  nd : Hs.Nodup
  apart : ∀ h ∈ Hs, ∀ k ∈ Hs, h ≠ k → ¬ (Rc f c h k ∧ Rc f c k h)
theorem Hds.more {Hs : List Nat} {r : Nat} (H : Hds f c g Hs) (hr : Lv f c g r ∧ Pt f c r r) (hn : ∀ h ∈ Hs, ¬ (Rc f c h r ∧ Rc f c r h)) : Hds f c g (Hs ++ [r]) := by
  refine ⟨fun h hh => ?_, List.nodup_append.mpr ⟨H.nd, by simp, fun a ha b hb e => ?_⟩, fun h hh k hk hne => ?_⟩
  · rcases List.mem_append.mp hh with hh | hh
    · exact H.ring h hh
    · simp at hh; subst hh; exact hr
  · simp at hb; subst hb; subst e; exact hn a ha ⟨.refl, .refl⟩
  · rcases List.mem_append.mp hh with h1 | h1
    · rcases List.mem_append.mp hk with k1 | k1
      · exact H.apart h h1 k k1 hne
      · have e : k = r := by simpa using k1
        rw [e]; exact hn h h1
    · have e : h = r := by simpa using h1
      rw [e] at hne ⊢
      rcases List.mem_append.mp hk with k1 | k1
      · exact fun z => hn k k1 ⟨z.2, z.1⟩
      · exact absurd (by simpa using k1 : k = r).symm hne
def Up (f : Nat → Nat → Nat) (c : Nat) (g : Nat → Bool) (Hs : List Nat) (cf : Nat → Nat) : Prop := ∀ h ∈ Hs, ∃ cs, ChL f c g (h :: cs) ∧ cs.length + 1 = cf h
def Low (f : Nat → Nat → Nat) (c : Nat) (g : Nat → Bool) (Hs : List Nat) (cf : Nat → Nat) (h l : Nat) : Prop := ∀ cs, ChL f c g (h :: cs) → (∀ x ∈ cs, x ∈ Hs) → cs.length ≤ l → cs.length + 1 ≤ cf h
theorem Low.le {Hs : List Nat} {cf : Nat → Nat} {h l k : Nat} (L : Low f c g Hs cf h l) (e : k ≤ l) : Low f c g Hs cf h k := fun cs h1 h2 h3 => L cs h1 h2 (Nat.le_trans h3 e)
theorem up_step {Hs : List Nat} {cf : Nat → Nat} (H : Hds f c g Hs) (U : Up f c g Hs cf) {h m : Nat} (hh : h ∈ Hs) (hm : m = 1 ∨ ∃ o ∈ Hs, o ≠ h ∧ Pt f c h o ∧ m = 1 + cf o) : Up f c g Hs (fun z => if z = h then m else cf z) := fun k hk => by
  show ∃ cs, ChL f c g (k :: cs) ∧ cs.length + 1 = if k = h then m else cf k
  by_cases e : k = h
  · subst e
    rw [if_pos rfl]
    rcases hm with rfl | ⟨o, ho, hne, hp, rfl⟩
    · exact ⟨[], H.ring k hk, rfl⟩
    · obtain ⟨cs, h1, h2⟩ := U o ho
      exact ⟨o :: cs, ⟨(H.ring k hk).1, (H.ring k hk).2, hp.rc, fun z => H.apart k hk o ho (Ne.symm hne) ⟨hp.rc, z⟩, h1⟩, by rw [List.length_cons, h2]; omega⟩
  · rw [if_neg e]; exact U k hk
theorem low_step {Hs : List Nat} {cf : Nat → Nat} {l : Nat} (L : ∀ y ∈ Hs, Low f c g Hs cf y l) {h m : Nat} (h1 : 1 ≤ m) (hm : ∀ o ∈ Hs, o ≠ h → Pt f c h o → 1 + cf o ≤ m) : Low f c g Hs (fun z => if z = h then m else cf z) h (l + 1) := fun cs hc hs hl => by
  show cs.length + 1 ≤ if h = h then m else cf h
  rw [if_pos rfl]
  cases cs with
  | nil => exact h1
  | cons y cs =>
    have hy := hs y List.mem_cons_self
    have hne : y ≠ h := fun z => hc.2.2.2.1 (by rw [z]; exact .refl)
    have hp : Pt f c h y := by
      rcases hc.2.2.1.cases with z | z
      · exact absurd z.symm hne
      · exact z
    have := L y hy cs hc.2.2.2.2 (fun x hx => hs x (List.mem_cons_of_mem _ hx)) (by simp at hl; omega)
    have := hm y hy hne hp
    simp only [List.length_cons]
    omega
theorem low_other {Hs : List Nat} {cf : Nat → Nat} {l h m y : Nat} (L : Low f c g Hs cf y l) (hne : y ≠ h) : Low f c g Hs (fun z => if z = h then m else cf z) y l := fun cs h1 h2 h3 => by
  show cs.length + 1 ≤ if y = h then m else cf y
  rw [if_neg hne]; exact L cs h1 h2 h3
/-- chains of rings are chains of the rooms that stand for them -/
theorem chl_heads {Hs : List Nat} (H : Hds f c g Hs) (cov : ∀ r, Lv f c g r → Pt f c r r → ∃ h ∈ Hs, Rc f c r h ∧ Rc f c h r) : ∀ (cs : List Nat) (x : Nat), ChL f c g (x :: cs) → ∃ h cs', h ∈ Hs ∧ Rc f c x h ∧ Rc f c h x ∧ ChL f c g (h :: cs') ∧ cs'.length = cs.length ∧ ∀ z ∈ cs', z ∈ Hs
  | [], x, hc => by
    obtain ⟨h, hh, h1, h2⟩ := cov x hc.1 hc.2
    exact ⟨h, [], hh, h1, h2, H.ring h hh, rfl, fun z hz => by cases hz⟩
  | y :: cs, x, hc => by
    obtain ⟨h, hh, h1, h2⟩ := cov x hc.1 hc.2.1
    obtain ⟨k, cs', hk, k1, k2, kc, kl, km⟩ := chl_heads H cov cs y hc.2.2.2.2
    refine ⟨h, k :: cs', hh, h1, h2, ⟨(H.ring h hh).1, (H.ring h hh).2, (h2.trans hc.2.2.1).trans k1, fun z => hc.2.2.2.1 ((k1.trans z).trans h2), kc⟩, by simp [kl], fun z hz => ?_⟩
    rcases List.mem_cons.mp hz with rfl | hz
    · exact hk
    · exact km z hz
theorem pow_of {Hs : List Nat} {cf : Nat → Nat} {m : Nat} (H : Hds f c g Hs) (cov : ∀ r, Lv f c g r → Pt f c r r → ∃ h ∈ Hs, Rc f c r h ∧ Rc f c h r) (U : Up f c g Hs cf) (L : ∀ y ∈ Hs, Low f c g Hs cf y Hs.length)
    (hm : ∃ h ∈ Hs, cf h = m) (hmax : ∀ h ∈ Hs, cf h ≤ m) : 1 ≤ m ∧ ChF f c g 0 m ∧ ¬ ChF f c g 0 (m + 1) := by
  obtain ⟨h, hh, e⟩ := hm
  obtain ⟨cs, h1, h2⟩ := U h hh
  refine ⟨by omega, ⟨h :: cs, by rw [List.length_cons]; omega, h1, fun x hx => by cases hx; exact (H.ring h hh).1.1⟩, fun ⟨ds, d1, d2, _⟩ => ?_⟩
  cases ds with
  | nil => cases d1
  | cons x ds =>
    obtain ⟨k, cs', hk, _, _, kc, kl, km⟩ := chl_heads H cov ds x d2
    have hlen : cs'.length ≤ Hs.length := List.Nodup.length_le_of_subset (List.nodup_cons.mp (chl_nodup kc)).2 km
    have := L k hk cs' kc km hlen
    have := hmax k hk
    simp at d1
    omega
end
end DL
-- K73r
set_option Elab.async false
set_option linter.all false
set_option maxRecDepth 100000
set_option maxHeartbeats 2000000
set_option autoImplicit false
namespace DL
open PySem PySem.Spec L2
open PyProof.Rows hiding St
theorem lc_rangeP {own : List Nat} {g : DTG} {te : DTE} {n : Nat} {Δ1 : List Sl} {Q : Sl → List Sl → Prop} (P : Nat → D → Prop) (Γ : List Sl) (hΓ : wipeD Δ1 own = Γ) (hl : n ≤ sizeLine)
    (h : ∀ i, i < n → ∀ R : D → List Sl → Prop, (∀ d, P i d → R d Γ) → g (.int (0 + (i : Int))) Γ fun Δ3 => dYes Δ3 (fun b Δ4 => if b = true then te Δ4 (fun e Δ5 => R e (wipeD Δ5 own)) noE else False) noE)
    (hq : ∀ v : Nat → D, (∀ i, i < n → P i (v i)) → Q (.ol ((List.range n).map v)) Γ) : dLCk own g dYes te (rngD 0 n) Δ1 Q := by
  refine ⟨fun i acc Δ => Δ = Γ ∧ ∃ v : Nat → D, acc = (List.range i).map v ∧ ∀ j, j < i → P j (v j), ⟨hΓ, fun _ => .non, rfl, fun j hj => by omega⟩, ?_, ?_⟩
  · rintro i d acc Δ2 hi ⟨rfl, v, rfl, hv⟩
    have hil := (List.getElem?_eq_some_iff.mp hi).1
    rw [rngD_length] at hil
    rw [rngD_get hil] at hi
    cases hi
    refine h i hil (fun d Δ => ((List.range i).map v).length < sizeLine ∧ Δ = Δ2 ∧ ∃ v' : Nat → D, (List.range i).map v ++ [d] = (List.range (i + 1)).map v' ∧ ∀ j, j < i + 1 → P j (v' j)) fun d hd => ⟨by rw [List.length_map, List.length_range]; omega, rfl, fun j => if j = i then d else v j, ?_, fun j hj => ?_⟩
    · rw [List.range_succ, List.map_append]
      congr 1
      · refine List.map_congr_left fun j hj => ?_
        rw [List.mem_range] at hj
        rw [if_neg (by omega)]
      · simp
    · by_cases e : j = i
      · subst e
        show P j (if j = j then d else v j)
        rw [if_pos rfl]; exact hd
      · show P j (if j = i then d else v j)
        rw [if_neg e]; exact hv j (by omega)
  · rintro acc Δ2 ⟨rfl, v, rfl, hv⟩
    rw [rngD_length] at hv ⊢
    exact hq v hv
theorem putAll_dkN {f : Nat → D} : ∀ (L A : List Nat), (A ++ L).Nodup → putAll (dkN f A) (dkN f L) = dkN f (A ++ L)
  | [], A, _ => by rw [List.append_nil]; rfl
  | x :: L, A, h => by
    have hx : x ∉ A := fun hm => by
      have := (List.nodup_append.mp h).2.2 x hm x List.mem_cons_self
      exact this rfl
    show putAll (put (dkN f A) (ky x) (f x)) (dkN f L) = _
    rw [show put (dkN f A) (ky x) (f x) = dkN f (A ++ [x]) from put_new hx, putAll_dkN L (A ++ [x]) (by simpa using h)]
    simp
theorem any_eqD (L : List Nat) (x : Nat) : ((L.map intD).any fun z => eqD z (intD x)) = decide (x ∈ L) := by
  induction L with
  | nil => rfl
  | cons y L ih =>
    rw [List.map_cons, List.any_cons, ih]
    show (eqD (.int (y : Int)) (.int (x : Int)) || _) = _
    rw [eqD_int]
    by_cases h : y = x
    · subst h; simp
    · have : ¬ ((y : Int) = (x : Int)) := by omega
      simp [this, Ne.symm h]
/-- what comes behind each room -/
structure Aft (c : Nat) (T : List (List Nat)) (Ws : Nat → List Nat) : Prop where
  nd : ∀ r, r < T.length → (Ws r).Nodup
  mem : ∀ r, r < T.length → ∀ s, s ∈ Ws r ↔ PtM c T r s
def aftD (T : List (List Nat)) (Ws : Nat → List Nat) : D := .dk (dkN (fun r => setD (Ws r)) (List.range T.length))
theorem aft_at {T : List (List Nat)} {Ws : Nat → List Nat} {r : Nat} {Q : D → Prop} (hr : r < T.length) (h : Q (setD (Ws r))) : rdIx (aftD T Ws) (intD r) Q := by
  unfold aftD
  rw [sIxK]
  exact ⟨_, _, rfl, val_in (List.mem_range.mpr hr), h⟩
theorem set_in {x : Nat} {L : List Nat} {Q : Bool → Prop} (h : Q (decide (x ∈ L))) : rdIn (intD x) (setD L) Q := by
  unfold setD
  rw [sInK]
  exact ⟨_, rfl, by rw [isSome_dkN]; exact h⟩
theorem lst_in {x : Nat} {L : List Nat} {Q : Bool → Prop} (h : Q (decide (x ∈ L))) : rdIn (intD x) (.lst (L.map intD)) Q := by
  rw [sInL]
  exact ⟨okEq_nat _, okEq_nats _, by rw [any_eqD]; exact h⟩
def comeL (T : List (List Nat)) (Ws : Nat → List Nat) : List Nat := 0 :: (List.range T.length).filter fun r => decide (r ≠ 0) && decide (r ∈ Ws 0)
def liveL (T : List (List Nat)) (g : List Bool) (Ws : Nat → List Nat) : List Nat := (comeL T Ws).filter fun r => gdb g r || ((Ws r).any fun x => gdb g x)
section
variable {c : Nat} {T : List (List Nat)} {g : List Bool} {Ws : Nat → List Nat}
theorem come_mem (ok : OkM c T g) (A : Aft c T Ws) {r : Nat} : r ∈ comeL T Ws ↔ Rc (nx T) c 0 r := by
  have h0 := ok.t.l1
  unfold comeL
  rw [List.mem_cons, List.mem_filter, List.mem_range, Bool.and_eq_true, decide_eq_true_eq, decide_eq_true_eq, A.mem 0 (by omega)]
  constructor
  · rintro (rfl | ⟨_, _, h⟩)
    · exact .refl
    · exact h.rc
  · intro h
    by_cases e : r = 0
    · exact .inl e
    · refine .inr ⟨lv_lt ok.t h, e, ?_⟩
      rcases h.cases with z | z
      · exact absurd z.symm e
      · exact z
theorem come_nd : (comeL T Ws).Nodup := by
  unfold comeL
  refine List.nodup_cons.mpr ⟨fun h => ?_, List.Pairwise.filter _ List.nodup_range⟩
  rw [List.mem_filter] at h
  simp at h
theorem live_mem (ok : OkM c T g) (A : Aft c T Ws) {r : Nat} : r ∈ liveL T g Ws ↔ LvM c T g r := by
  unfold liveL
  rw [List.mem_filter, come_mem ok A, Bool.or_eq_true, List.any_eq_true]
  refine and_congr_right fun h => ?_
  have hl := lv_lt ok.t h
  constructor
  · rintro (h1 | ⟨x, hx, h1⟩)
    · exact ⟨r, .refl, h1⟩
    · exact ⟨x, ((A.mem r hl x).mp hx).rc, h1⟩
  · rintro ⟨q, hq, hg⟩
    rcases hq.cases with z | z
    · subst z; exact .inl hg
    · exact .inr ⟨q, (A.mem r hl q).mpr z, hg⟩
theorem live_nd : (liveL T g Ws).Nodup := List.Pairwise.filter _ come_nd
theorem live_len (ok : OkM c T g) (A : Aft c T Ws) : (comeL T Ws).length ≤ 60 ∧ (liveL T g Ws).length ≤ 60 := by
  have h1 := List.Nodup.length_le_of_subset (l₂ := List.range T.length) (come_nd (T := T) (Ws := Ws)) fun x hx => List.mem_range.mpr (lv_lt ok.t ((come_mem ok A).mp hx))
  have h2 := ok.t.l2
  have h3 := List.length_filter_le (fun r => gdb g r || ((Ws r).any fun x => gdb g x)) (comeL T Ws)
  rw [List.length_range] at h1
  unfold liveL
  omega
theorem aft_ways (ok : OkM c T g) (A : Aft c T Ws) : Ways c T g (liveL T g Ws) fun r => (Ws r).filter fun s => decide (s ∈ liveL T g Ws) :=
  ⟨ok, fun r => live_mem ok A, live_nd, fun r hr s => by
    have hl := lv_lt ok.t ((live_mem ok A).mp hr).1
    rw [List.mem_filter, decide_eq_true_eq, A.mem r hl]
    exact and_comm⟩
def backL (T : List (List Nat)) (L : List Nat) (Ws : Nat → List Nat) (r : Nat) : List Nat := (rowAt T r).filter fun x => decide (x ∈ L) && decide (r ∈ Ws x)
theorem back_two (ok : OkM c T g) (A : Aft c T Ws) {r : Nat} (hr : r ∈ liveL T g Ws) : 1 < (backL T (liveL T g Ws) Ws r).length ↔ Dbl (nx T) c r := by
  rw [← backs_two (aft_ways ok A) hr]
  have e : backL T (liveL T g Ws) Ws r = backs T (liveL T g Ws) (fun r => (Ws r).filter fun s => decide (s ∈ liveL T g Ws)) r := by
    unfold backL backs
    refine List.filter_congr fun x _ => ?_
    congr 1
    rw [decide_eq_decide, List.mem_filter, decide_eq_true_eq]
    exact ⟨fun h => ⟨h, hr⟩, fun h => h.1⟩
  rw [e]
end
end DL
-- K73t
set_option Elab.async false
set_option linter.all false
set_option maxRecDepth 100000
set_option maxHeartbeats 2000000
set_option autoImplicit false
namespace DL
open PySem PySem.Spec L2
open PyProof.Rows hiding St
theorem fm_filter (p : Nat → Bool) : ∀ l : List Nat, l.filterMap (fun x => if p x = true then some (intD x) else none) = (l.filter p).map intD
  | [] => rfl
  | y :: l => by
    by_cases h : p y = true
    · rw [List.filterMap_cons, if_pos h, List.filter_cons, if_pos h, fm_filter p l]; rfl
    · rw [List.filterMap_cons, if_neg h, List.filter_cons, if_neg h, fm_filter p l]
theorem good_at {g : List Bool} {r : Nat} {Q : D → Prop} (hr : r < g.length) (h : Q (.bl (gdb g r))) : rdIx (.tup (blsD g)) (intD r) Q := ⟨_, at_good hr, h⟩
section
variable {a : Ad} {c : Nat} {T : List (List Nat)} {g : List Bool} {Ws : Nat → List Nat} {N : DEnds} {E : EX}
theorem gr_after (ok : OkM c T g) {s1 s4 : Sl} {rest : List Sl} {s2 s3 : Sl} (h : ∀ (Ws : Nat → List Nat), Aft c T Ws → N.nx (.im (planD c T g) :: .ok (dkN (fun r => setD (Ws r)) (List.range T.length)) :: s2 :: s3 :: .un :: rest)) :
    dSetM 1 (dBlt rdDictP (dConsO (dO (dClean (dLC [4] (dRng1 (dCons (dClean (dBlt rdLen (dConsO (dO (dIx (dB 0) (dO (dC (.int 1))))) dNilO))) dNil)) (dgName 4) dYes (dTup (dCons (dVar 4) (dCons (dFn (sp__law_after a) (dCons (dVar 0) (dCons (dVar 4) dNil))) dNil)))))) dNilO)) N (.im (planD c T g) :: s1 :: s2 :: s3 :: s4 :: rest) E := by
  have h2 := ok.t.l2
  have z2 : 2 ≤ sizeLine := by rw [sizeLine_eq]; omega
  simp
  refine plan_1 ?_
  unfold tblD
  simp
  refine ⟨by omega, ?_⟩
  refine lc_rangeP (fun r d => ∃ W : List Nat, d = .tup [intD r, setD W] ∧ W.Nodup ∧ ∀ s, s ∈ W ↔ PtM c T r s) (.im (planD c T g) :: s1 :: s2 :: s3 :: .un :: rest) rfl (by rw [sizeLine_eq]; omega) (fun r hr R hR => ?_) fun v hv => ?_
  · simp
    refine ⟨c, T, g, r, rfl, ok, hr, fun W nd mem => ⟨z2, hR _ ⟨W, rfl, nd, mem⟩⟩⟩
  · have hch : ∀ r, ∃ W : List Nat, r < T.length → v r = .tup [intD r, setD W] ∧ W.Nodup ∧ ∀ s, s ∈ W ↔ PtM c T r s := fun r => by
      by_cases hr : r < T.length
      · obtain ⟨W, h1⟩ := hv r hr
        exact ⟨W, fun _ => h1⟩
      · exact ⟨[], fun z => absurd z hr⟩
    have ⟨Ws, hWs⟩ := Classical.axiomOfChoice hch
    simp
    refine ⟨dkN (fun r => setD (Ws r)) (List.range T.length), ?_, ?_⟩
    · unfold dkN
      rw [List.map_map]
      refine List.map_congr_left fun r hr => ?_
      rw [(hWs r (List.mem_range.mp hr)).1]
      rfl
    · have e := putAll_dkN (f := fun r => setD (Ws r)) (List.range T.length) [] (by simpa using List.nodup_range)
      rw [List.nil_append] at e
      rw [show putAll [] (dkN (fun r => setD (Ws r)) (List.range T.length)) = dkN (fun r => setD (Ws r)) (List.range T.length) from e]
      exact h Ws ⟨fun r hr => (hWs r hr).2.1, fun r hr => (hWs r hr).2.2⟩
theorem gr_come (ok : OkM c T g) (A : Aft c T Ws) {s1 s2 s3 s4 : Sl} {rest : List Sl} (hs1 : s1.er = some (aftD T Ws)) (h : N.nx (.im (planD c T g) :: .im (aftD T Ws) :: .ol ((comeL T Ws).map intD) :: s3 :: .un :: rest)) :
    dSetM 2 (dOpM rdAdd (dO (dClean (dLst (dCons (dC (.int 0)) dNil)))) (dO (dClean (dLC [4] (dSeqI (dVar 1)) (dgName 4) (dAnd (dCmpT rdNe (dB 4) (dO (dC (.int 0)))) (dCmpT rdIn (dB 4) (dO (dIx (dB 1) (dO (dC (.int 0))))))) (dVar 4))))) N (.im (planD c T g) :: s1 :: s2 :: s3 :: s4 :: rest) E := by
  have h2 := ok.t.l2
  have h1 := ok.t.l1
  have z1 : 1 ≤ sizeLine := by rw [sizeLine_eq]; omega
  simp [hs1, z1]
  refine ⟨(List.range T.length).map intD, items_dkN, ?_⟩
  refine lc_map (fun r => if r ≠ 0 ∧ r ∈ Ws 0 then some (intD r) else none) (.im (planD c T g) :: .im (aftD T Ws) :: s2 :: s3 :: .un :: rest) rfl (by rw [List.length_range, sizeLine_eq]; omega) (fun r hr R hR => ?_) ?_
  · simp
    by_cases e : r = 0
    · subst e
      simp [intD] at hR ⊢
      exact hR
    · have e2 : ¬ ((r : Int) = 0) := by omega
      simp [e, intD, e2] at hR ⊢
      refine aft_at (r := 0) (by omega) (set_in (x := r) ?_)
      by_cases e3 : r ∈ Ws 0
      · simp [e3] at hR ⊢; exact hR
      · simp [e3] at hR ⊢; exact hR
  · have eF : ∀ l : List Nat, l.filterMap (fun r => if r ≠ 0 ∧ r ∈ Ws 0 then some (intD r) else none) = (l.filter fun r => decide (r ≠ 0) && decide (r ∈ Ws 0)).map intD := fun l => by
      induction l with
      | nil => rfl
      | cons y l ih =>
        by_cases e1 : y ≠ 0 ∧ y ∈ Ws 0
        · rw [List.filterMap_cons, if_pos e1, List.filter_cons, if_pos (by simpa using e1), ih]; rfl
        · rw [List.filterMap_cons, if_neg e1, List.filter_cons, if_neg (by simpa using e1), ih]
    rw [eF]
    have hl := List.length_filter_le (fun r => decide (r ≠ 0) && decide (r ∈ Ws 0)) (List.range T.length)
    rw [List.length_range] at hl
    refine ⟨_, rfl, ?_⟩
    rw [sAddL]
    refine ⟨?_, by simp, h⟩
    rw [List.length_map, sizeLine_eq]
    simp only [List.length_cons, List.length_nil]
    omega
theorem gr_live (ok : OkM c T g) (A : Aft c T Ws) {s2 s3 s4 s5 s6 s7 s8 s9 s10 s11 s12 s13 : Sl} (hs2 : s2.er = some (.lst ((comeL T Ws).map intD))) (h : ∀ s10, N.nx [.im (planD c T g), .im (aftD T Ws), .im (.lst ((comeL T Ws).map intD)), .ol ((liveL T g Ws).map intD), .un, s5, s6, s7, s8, s9, s10, s11, s12, s13]) :
    dSetM 3 (dLC [4] (dSeqI (dVar 2)) (dgName 4) (dOr (dTst (dIx (dO (dIx (dB 0) (dO (dC (.int 2))))) (dB 4))) (dCmpT rdNe (dO (dClean (dLC [10] (dSeqI (dIx (dB 1) (dB 4))) (dgName 10) (dTst (dIx (dO (dIx (dB 0) (dO (dC (.int 2))))) (dB 10))) (dVar 10)))) (dO (dClean (dLst dNil))))) (dVar 4)) N [.im (planD c T g), .im (aftD T Ws), s2, s3, s4, s5, s6, s7, s8, s9, s10, s11, s12, s13] E := by
  have hl := (live_len ok A).1
  simp [hs2]
  refine lc_mapP (fun r => if (gdb g r || ((Ws r).any fun x => gdb g x)) = true then some (intD r) else none) (fun Γ => ∃ s10, Γ = [.im (planD c T g), .im (aftD T Ws), .im (.lst ((comeL T Ws).map intD)), s3, .un, s5, s6, s7, s8, s9, s10, s11, s12, s13]) ⟨s10, rfl⟩ (by rw [sizeLine_eq]; omega) (fun r hr Γ hΓ R hR => ?_) fun Γ hΓ => ?_
  · obtain ⟨s10, rfl⟩ := hΓ
    have hrl := lv_lt ok.t ((come_mem ok A).mp hr)
    have hWl : (Ws r).length ≤ 60 := by
      have := List.Nodup.length_le_of_subset (l₂ := List.range T.length) (A.nd r hrl) fun x hx => List.mem_range.mpr (by
        obtain ⟨i, hi, w, hw, e⟩ := (A.mem r hrl x).mp hx
        exact lv_lt ok.t (((come_mem ok A).mp hr).trans (.step hi ⟨w, hw, e⟩)))
      have h2 := ok.t.l2
      simp at this; omega
    have hWlt : ∀ x ∈ Ws r, x < T.length := fun x hx => lv_lt ok.t (((come_mem ok A).mp hr).trans ((A.mem r hrl x).mp hx).rc)
    simp
    refine plan_2 ?_
    refine good_at (by rw [ok.g]; exact hrl) ?_
    cases hg : gdb g r with
    | true =>
      refine .inr ⟨rfl, ?_⟩
      have := hR _ ⟨s10, rfl⟩
      simp [hg] at this
      exact this
    | false =>
      refine .inl ⟨rfl, aft_at hrl ?_⟩
      refine ⟨_, items_setD, lc_map (fun x => if gdb g x = true then some (intD x) else none) [.im (planD c T g), .im (aftD T Ws), .im (.lst ((comeL T Ws).map intD)), s3, .im (intD r), s5, s6, s7, s8, s9, .un, s11, s12, s13] rfl (by rw [sizeLine_eq]; omega) (fun x hx Rr hRr => ?_) ?_⟩
      · simp
        refine plan_2 ?_
        refine good_at (by rw [ok.g]; exact hWlt x hx) ?_
        simp
        cases hgx : gdb g x with
        | true => simp [hgx] at hRr ⊢; exact hRr
        | false => simp [hgx] at hRr ⊢; exact hRr
      · rw [fm_filter fun x => gdb g x]
        refine ⟨_, rfl, okEq_nats _, ?_⟩
        rw [eqD_nil]
        by_cases e : (Ws r).filter (fun x => gdb g x) = []
        · have ea : (gdb g r || ((Ws r).any fun x => gdb g x)) = false := by
            rw [hg, Bool.false_or, List.any_eq_false]
            intro x hx hgx
            have : x ∈ (Ws r).filter fun x => gdb g x := List.mem_filter.mpr ⟨hx, hgx⟩
            rw [e] at this; cases this
          rw [e]
          simp only [ea] at hR
          exact hR _ ⟨.un, rfl⟩
        · have ea : (gdb g r || ((Ws r).any fun x => gdb g x)) = true := by
            rw [hg, Bool.false_or, List.any_eq_true]
            obtain ⟨x, hx⟩ := List.exists_mem_of_ne_nil _ e
            rw [List.mem_filter] at hx
            exact ⟨x, hx.1, hx.2⟩
          rw [decide_eq_false (by simpa using e), if_neg (by simp)]
          simp only [ea] at hR
          exact ⟨_, rfl, _, rfl, hR _ ⟨.un, rfl⟩⟩
  · obtain ⟨s10, rfl⟩ := hΓ
    have eF : ∀ l : List Nat, l.filterMap (fun r => if (gdb g r || ((Ws r).any fun x => gdb g x)) = true then some (intD r) else none) = (l.filter fun r => gdb g r || ((Ws r).any fun x => gdb g x)).map intD := fun l => by
      induction l with
      | nil => rfl
      | cons y l ih =>
        by_cases e1 : (gdb g y || ((Ws y).any fun x => gdb g x)) = true
        · rw [List.filterMap_cons, if_pos e1, List.filter_cons, if_pos e1, ih]; rfl
        · rw [List.filterMap_cons, if_neg e1, List.filter_cons, if_neg e1, ih]
    rw [eF]
    exact ⟨by simp, h _⟩
theorem gr_dbl (ok : OkM c T g) (A : Aft c T Ws) {s2 s3 s4 s5 s6 s7 s8 s9 s10 s11 s12 s13 : Sl} (hs3 : s3.er = some (.lst ((liveL T g Ws).map intD))) (hd : (∃ r, LvM c T g r ∧ Dbl (nx T) c r) → N.rt (.tup [.str "doubles"])) (h : ∀ s4 s10, (∀ r, LvM c T g r → ¬ Dbl (nx T) c r) → N.nx [.im (planD c T g), .im (aftD T Ws), s2, .im (.lst ((liveL T g Ws).map intD)), s4, s5, s6, s7, s8, s9, s10, s11, s12, s13]) :
    dFor (dSeqI (dVar 3)) (dgName 4)
  (dIfS (dCmpT rdGt (dO (dClean (dBlt rdLen (dConsO (dO (dClean (dLC [10] (dSeqI (dIx (dO (dIx (dB 0) (dO (dC (.int 1))))) (dB 4))) (dgName 10) (dAnd (dCmpT rdIn (dB 10) (dB 3)) (dCmpT rdIn (dB 4) (dO (dIx (dB 1) (dB 10))))) (dVar 10)))) dNilO)))) (dO (dC (.int 1))))
  (dRet (dTup (dCons (dC (.str "doubles")) dNil)))
  dNext) N [.im (planD c T g), .im (aftD T Ws), s2, s3, s4, s5, s6, s7, s8, s9, s10, s11, s12, s13] E := by
  have z1 : 1 ≤ sizeLine := by rw [sizeLine_eq]; omega
  have hc := ok.c2
  simp only [sFor, sSeqI, sDVar]
  refine ⟨_, _, rfl, hs3, _, rfl, ?_⟩
  refine forN (fun i Δ => ∃ s4 s10, Δ = [.im (planD c T g), .im (aftD T Ws), s2, .im (.lst ((liveL T g Ws).map intD)), s4, s5, s6, s7, s8, s9, s10, s11, s12, s13] ∧ ∀ r ∈ (liveL T g Ws).take i, ¬ Dbl (nx T) c r) ⟨s4, s10, rfl, fun r hr => by simp at hr⟩ ?_ ?_
  · rintro i r Δ hi ⟨s4, s10, rfl, hn⟩ M m _ _ hrt
    have hr := List.mem_of_getElem? hi
    have hrl := lv_lt ok.t ((live_mem ok A).mp hr).1
    have hrow := row_of ok.t hrl
    simp only [sDgName]
    have cond : ∀ QQ : Bool → List Sl → Prop, (QQ (decide (1 < (backL T (liveL T g Ws) Ws r).length)) [.im (planD c T g), .im (aftD T Ws), s2, .im (.lst ((liveL T g Ws).map intD)), .im (intD r), s5, s6, s7, s8, s9, .un, s11, s12, s13]) → (dCmpT rdGt (dO (dClean (dBlt rdLen (dConsO (dO (dClean (dLC [10] (dSeqI (dIx (dO (dIx (dB 0) (dO (dC (.int 1))))) (dB 4))) (dgName 10) (dAnd (dCmpT rdIn (dB 10) (dB 3)) (dCmpT rdIn (dB 4) (dO (dIx (dB 1) (dB 10))))) (dVar 10)))) dNilO)))) (dO (dC (.int 1)))) [.im (planD c T g), .im (aftD T Ws), s2, .im (.lst ((liveL T g Ws).map intD)), .im (intD r), s5, s6, s7, s8, s9, s10, s11, s12, s13] QQ E := fun QQ q => by
      simp
      refine plan_1 (tbl_at hrl ⟨_, rfl, ?_⟩)
      refine lc_map (fun x => if (decide (x ∈ liveL T g Ws) && decide (r ∈ Ws x)) = true then some (intD x) else none) [.im (planD c T g), .im (aftD T Ws), s2, .im (.lst ((liveL T g Ws).map intD)), .im (intD r), s5, s6, s7, s8, s9, .un, s11, s12, s13] rfl (by rw [sizeLine_eq]; omega) (fun x hx R hR => ?_) ?_
      · have hxl := hrow.2 x hx
        simp only [sDgName, sDAnd, sDCmpT, sDB, sResR]
        refine ⟨⟨_, _, rfl, rfl⟩, ⟨_, _, rfl, rfl⟩, _, _, rfl, rfl, lst_in ?_⟩
        by_cases e : x ∈ liveL T g Ws
        · rw [if_pos (decide_eq_true e)]
          simp only [sDO, sDIx, sDB, sResR, sResL]
          refine ⟨⟨_, _, rfl, rfl⟩, ⟨_, _, rfl, rfl⟩, ⟨_, _, rfl, rfl⟩, _, _, rfl, rfl, aft_at hxl ?_⟩
          refine ⟨_, _, rfl, rfl, set_in ?_⟩
          by_cases e2 : r ∈ Ws x
          · simp [e, e2] at hR ⊢; exact hR
          · simp [e, e2] at hR ⊢; exact hR
        · simp [e] at hR ⊢; exact hR
      · rw [fm_filter fun x => decide (x ∈ liveL T g Ws) && decide (r ∈ Ws x)]
        simp
        have e : decide ((1 : Int) < ((backL T (liveL T g Ws) Ws r).length : Int)) = decide (1 < (backL T (liveL T g Ws) Ws r).length) := decide_eq_decide.mpr (by omega)
        rw [← e] at q
        exact q
    rw [sDIfS]
    refine cond _ ?_
    by_cases h1 : 1 < (backL T (liveL T g Ws) Ws r).length
    · rw [if_pos (decide_eq_true h1)]
      simp [z1, hrt]
      exact hd ⟨r, (live_mem ok A).mp hr, (back_two ok A hr).mp h1⟩
    · rw [if_neg (by simpa using h1)]
      refine m _ ⟨_, _, rfl, fun x hx => ?_⟩
      rw [List.take_add_one, hi] at hx
      rcases List.mem_append.mp hx with hx | hx
      · exact hn x hx
      · simp at hx; subst hx
        exact fun z => h1 ((back_two ok A hr).mpr z)
  · rintro Δ ⟨s4, s10, rfl, hn⟩
    refine h _ _ fun r hr => ?_
    rw [List.take_of_length_le (Nat.le_refl _)] at hn
    exact hn r ((live_mem ok A).mpr hr)
end
end DL
-- K73u
set_option Elab.async false
set_option linter.all false
set_option maxRecDepth 100000
set_option maxHeartbeats 2000000
set_option autoImplicit false
namespace DL
open PySem PySem.Spec L2
open PyProof.Rows hiding St
theorem hds_nil {f : Nat → Nat → Nat} {c : Nat} {g : Nat → Bool} : Hds f c g [] := ⟨fun h hh => absurd hh (by simp), List.nodup_nil, fun h hh => absurd hh (by simp)⟩
section
variable {a : Ad} {c : Nat} {T : List (List Nat)} {g : List Bool} {Ws : Nat → List Nat} {N : DEnds} {E : EX}
abbrev hdC : DTT := (dCmpT rdNe (dO (dClean (dLC [9] (dSeqI (dVar 5)) (dgName 9) (dAnd (dCmpT rdIn (dB 4) (dO (dIx (dB 1) (dB 9)))) (dCmpT rdIn (dB 9) (dO (dIx (dB 1) (dB 4))))) (dVar 9)))) (dO (dClean (dLst dNil))))
theorem hd_cond {s0 s2 s3 s5 s6 s7 s8 s9 s10 s11 s12 s13 : Sl} {Hs : List Nat} {r : Nat} (hr : r < T.length) (hH : ∀ h ∈ Hs, h < T.length) (hl : Hs.length ≤ 60) (hs5 : s5.er = some (.lst (Hs.map intD))) {QQ : Bool → List Sl → Prop}
    (h : QQ (!decide ((Hs.filter fun h => decide (r ∈ Ws h) && decide (h ∈ Ws r)) = [])) [s0, .im (aftD T Ws), s2, s3, .im (intD r), .im (.lst (Hs.map intD)), s6, s7, s8, .un, s10, s11, s12, s13]) : hdC [s0, .im (aftD T Ws), s2, s3, .im (intD r), s5, s6, s7, s8, s9, s10, s11, s12, s13] QQ E := by
  simp [hs5]
  refine lc_map (fun x => if (decide (r ∈ Ws x) && decide (x ∈ Ws r)) = true then some (intD x) else none) [s0, .im (aftD T Ws), s2, s3, .im (intD r), .im (.lst (Hs.map intD)), s6, s7, s8, .un, s10, s11, s12, s13] rfl (by rw [sizeLine_eq]; omega) (fun x hx R hR => ?_) ?_
  · simp only [sDgName, sDAnd, sDCmpT, sDB, sDO, sDIx, sResR, sResL]
    refine ⟨⟨_, _, rfl, rfl⟩, ⟨_, _, rfl, rfl⟩, ⟨_, _, rfl, rfl⟩, _, _, rfl, rfl, aft_at (hH x hx) ⟨_, _, rfl, rfl, set_in ?_⟩⟩
    by_cases e : r ∈ Ws x
    · rw [if_pos (decide_eq_true e)]
      refine ⟨⟨_, _, rfl, rfl⟩, ⟨_, _, rfl, rfl⟩, ⟨_, _, rfl, rfl⟩, _, _, rfl, rfl, aft_at hr ⟨_, _, rfl, rfl, set_in ?_⟩⟩
      by_cases e2 : x ∈ Ws r
      · simp [e, e2] at hR ⊢; exact hR
      · simp [e, e2] at hR ⊢; exact hR
    · simp [e] at hR ⊢; exact hR
  · rw [fm_filter fun x => decide (r ∈ Ws x) && decide (x ∈ Ws r)]
    refine ⟨_, rfl, okEq_nats _, ?_⟩
    rw [eqD_nil]
    have e : decide ((Hs.filter fun h => decide (r ∈ Ws h) && decide (h ∈ Ws r)).map intD = []) = decide ((Hs.filter fun h => decide (r ∈ Ws h) && decide (h ∈ Ws r)) = []) := decide_eq_decide.mpr (by simp)
    rw [e]
    exact h
theorem gr_heads (ok : OkM c T g) (A : Aft c T Ws) {s2 s3 s4 s5 s6 s7 s8 s9 s10 s11 s12 s13 : Sl} (hs3 : s3.er = some (.lst ((liveL T g Ws).map intD))) (hs5 : s5.er = some (.lst []))
    (h : ∀ (Hs : List Nat) (s3 s4 s5 s9 : Sl), Hds (nx T) c (gdb g) Hs → (∀ r, LvM c T g r → PtM c T r r → ∃ h ∈ Hs, Rc (nx T) c r h ∧ Rc (nx T) c h r) → s5.er = some (.lst (Hs.map intD)) → N.nx [.im (planD c T g), .im (aftD T Ws), s2, s3, s4, s5, s6, s7, s8, s9, s10, s11, s12, s13]) :
    dFor (dSeqI (dClean (dLC [4] (dSeqI (dVar 3)) (dgName 4) (dCmpT rdIn (dB 4) (dO (dIx (dB 1) (dB 4)))) (dVar 4)))) (dgName 4)
  (dSetM 5 (dIfM hdC (dIm (dVar 5)) (dOpM rdAdd (dB 5) (dO (dClean (dLst (dCons (dVar 4) dNil)))))))
    N [.im (planD c T g), .im (aftD T Ws), s2, s3, s4, s5, s6, s7, s8, s9, s10, s11, s12, s13] E := by
  have z1 : 1 ≤ sizeLine := by rw [sizeLine_eq]; omega
  have hl := (live_len ok A).2
  have hlt : ∀ r ∈ liveL T g Ws, r < T.length := fun r hr => lv_lt ok.t ((live_mem ok A).mp hr).1
  have h2 := ok.t.l2
  simp only [sFor, sSeqI, sDClean, sLC, sDVar]
  refine ⟨_, _, rfl, hs3, _, rfl, ?_⟩
  refine lc_map (fun r => if decide (r ∈ Ws r) = true then some (intD r) else none) [.im (planD c T g), .im (aftD T Ws), s2, .im (.lst ((liveL T g Ws).map intD)), .un, s5, s6, s7, s8, s9, s10, s11, s12, s13] rfl (by rw [sizeLine_eq]; omega) (fun r hr R hR => ?_) ?_
  · have hrl := hlt r hr
    simp only [sDgName, sDCmpT, sDB, sDO, sDIx, sResR, sResL]
    refine ⟨⟨_, _, rfl, rfl⟩, ⟨_, _, rfl, rfl⟩, ⟨_, _, rfl, rfl⟩, _, _, rfl, rfl, aft_at hrl ⟨_, _, rfl, rfl, set_in ?_⟩⟩
    by_cases e : r ∈ Ws r
    · simp [e] at hR ⊢; exact hR
    · simp [e] at hR ⊢; exact hR
  · rw [fm_filter fun r => decide (r ∈ Ws r)]
    refine ⟨_, rfl, _, rfl, ?_⟩
    have hring : ∀ r ∈ (liveL T g Ws).filter fun r => decide (r ∈ Ws r), LvM c T g r ∧ PtM c T r r := fun r hr => by
      rw [List.mem_filter, decide_eq_true_eq] at hr
      exact ⟨(live_mem ok A).mp hr.1, (A.mem r (hlt r hr.1) r).mp hr.2⟩
    refine forN (fun i Δ => ∃ (Hs : List Nat) (s4 s5 s9 : Sl), Δ = [.im (planD c T g), .im (aftD T Ws), s2, .im (.lst ((liveL T g Ws).map intD)), s4, s5, s6, s7, s8, s9, s10, s11, s12, s13] ∧ s5.er = some (.lst (Hs.map intD)) ∧ Hds (nx T) c (gdb g) Hs ∧ ∀ r ∈ ((liveL T g Ws).filter fun r => decide (r ∈ Ws r)).take i, ∃ h ∈ Hs, Rc (nx T) c r h ∧ Rc (nx T) c h r) ⟨[], .un, s5, s9, rfl, hs5, hds_nil, fun r hr => by simp at hr⟩ ?_ ?_
    · rintro i r Δ hi ⟨Hs, s4, s5, s9, rfl, hs5, H, cov⟩ M m _ _ _
      have hr := List.mem_of_getElem? hi
      obtain ⟨hlv, hpt⟩ := hring r hr
      have hrl := lv_lt ok.t hlv.1
      have hHlt : ∀ h ∈ Hs, h < T.length := fun h hh => lv_lt ok.t (H.ring h hh).1.1
      have hHl : Hs.length ≤ 60 := by
        have := List.Nodup.length_le_of_subset (l₂ := List.range T.length) H.nd fun x hx => List.mem_range.mpr (hHlt x hx)
        simp at this; omega
      have et : ∀ z, z ∈ ((liveL T g Ws).filter fun r => decide (r ∈ Ws r)).take (i + 1) ↔ z ∈ ((liveL T g Ws).filter fun r => decide (r ∈ Ws r)).take i ∨ z = r := fun z => by rw [List.take_add_one, hi]; simp
      simp only [sDgName, sDSetM, sIfM]
      refine hd_cond hrl hHlt hHl hs5 ?_
      by_cases e : (Hs.filter fun h => decide (r ∈ Ws h) && decide (h ∈ Ws r)) = []
      · rw [decide_eq_true e]
        simp [z1]
        refine ⟨by rw [sizeLine_eq]; omega, m _ ⟨Hs ++ [r], .im (intD r), .ol ((Hs ++ [r]).map intD), .un, by simp, rfl, H.more ⟨hlv, hpt⟩ fun h hh z => ?_, fun x hx => ?_⟩⟩
        · have hx : h ∈ Hs.filter fun h => decide (r ∈ Ws h) && decide (h ∈ Ws r) := by
            rw [List.mem_filter, Bool.and_eq_true, decide_eq_true_eq, decide_eq_true_eq, A.mem h (hHlt h hh), A.mem r hrl]
            refine ⟨hh, ?_, ?_⟩
            · rcases z.1.cases with q | q
              · subst q; exact hpt
              · exact q
            · rcases z.2.cases with q | q
              · subst q; exact hpt
              · exact q
          rw [e] at hx; cases hx
        · rcases (et x).mp hx with hx | rfl
          · obtain ⟨h, h1, h2⟩ := cov x hx
            exact ⟨h, List.mem_append_left _ h1, h2⟩
          · exact ⟨x, by simp, .refl, .refl⟩
      · rw [decide_eq_false e]
        simp
        refine m _ ⟨Hs, _, .im (.lst (Hs.map intD)), _, rfl, rfl, H, fun x hx => ?_⟩
        rcases (et x).mp hx with hx | rfl
        · exact cov x hx
        · obtain ⟨h, hh⟩ := List.exists_mem_of_ne_nil _ e
          rw [List.mem_filter, Bool.and_eq_true, decide_eq_true_eq, decide_eq_true_eq] at hh
          exact ⟨h, hh.1, ((A.mem x hrl h).mp hh.2.2).rc, ((A.mem h (hHlt h hh.1) x).mp hh.2.1).rc⟩
    · rintro Δ ⟨Hs, s4, s5, s9, rfl, hs5, H, cov⟩
      refine h Hs _ _ _ _ H (fun r hlv hpt => cov r ?_) hs5
      rw [List.take_of_length_le (Nat.le_refl _), List.mem_filter, decide_eq_true_eq, A.mem r (lv_lt ok.t hlv.1)]
      exact ⟨(live_mem ok A).mpr hlv, hpt⟩
theorem gr_chain0 {s0 s1 s2 s3 s4 s5 s6 s7 s8 s9 s10 s11 s12 s13 : Sl} {Hs : List Nat} (nd : Hs.Nodup) (hl : Hs.length ≤ 60) (hs5 : s5.er = some (.lst (Hs.map intD)))
    (h : ∀ s9, N.nx [s0, s1, s2, s3, s4, .im (.lst (Hs.map intD)), .ok (dkN (numD fun _ => 1) Hs), s7, s8, s9, s10, s11, s12, s13]) :
    dSetM 6 (dBlt rdDictP (dConsO (dO (dClean (dLC [9] (dSeqI (dVar 5)) (dgName 9) dYes (dTup (dCons (dVar 9) (dCons (dC (.int 1)) dNil)))))) dNilO)) N [s0, s1, s2, s3, s4, s5, s6, s7, s8, s9, s10, s11, s12, s13] E := by
  have z2 : 2 ≤ sizeLine := by rw [sizeLine_eq]; omega
  simp [hs5]
  refine lc_map (fun x => some (.tup [intD x, .int 1])) [s0, s1, s2, s3, s4, .im (.lst (Hs.map intD)), s6, s7, s8, .un, s10, s11, s12, s13] rfl (by rw [sizeLine_eq]; omega) (fun x hx R hR => ?_) ?_
  · simp [z2]; exact hR
  · rw [filterMap_some_map]
    simp
    refine ⟨dkN (numD fun _ => 1) Hs, by unfold dkN; rw [List.map_map]; rfl, ?_⟩
    have e := putAll_dkN (f := numD fun _ => 1) Hs [] (by simpa using nd)
    rw [List.nil_append] at e
    rw [show putAll [] (dkN (numD fun _ => 1) Hs) = dkN (numD fun _ => 1) Hs from e]
    exact h _
end
end DL
-- K73v
set_option Elab.async false
set_option linter.all false
set_option maxRecDepth 100000
set_option maxHeartbeats 2000000
set_option autoImplicit false
namespace DL
open PySem PySem.Spec L2
open PyProof.Rows hiding St
def lapV (Ws : Nat → List Nat) (Hs : List Nat) (cf : Nat → Nat) (h : Nat) : List Nat := 1 :: (Hs.filter fun o => decide (o ≠ h) && decide (o ∈ Ws h)).map fun o => 1 + cf o
section
variable {a : Ad} {c : Nat} {T : List (List Nat)} {g : List Bool} {Ws : Nat → List Nat} {N : DEnds} {E : EX}
abbrev lapS : DTS := (dSetIx 6 (dClean (dBlt rdMaxL (dConsO (dO (dClean (dOpM rdAdd (dO (dClean (dLst (dCons (dC (.int 1)) dNil)))) (dO (dClean (dLC [13] (dSeqI (dVar 5)) (dgName 13) (dAnd (dCmpT rdNe (dB 13) (dB 9)) (dCmpT rdIn (dB 13) (dO (dIx (dB 1) (dB 9))))) (dClean (dOpM rdAdd (dO (dC (.int 1))) (dO (dIx (dB 6) (dB 13))))))))))) dNilO))) (dVar 9))
theorem fm_filter2 (p : Nat → Bool) (f : Nat → D) : ∀ l : List Nat, l.filterMap (fun x => if p x = true then some (f x) else none) = (l.filter p).map f
  | [] => rfl
  | y :: l => by
    by_cases h : p y = true
    · rw [List.filterMap_cons, if_pos h, List.filter_cons, if_pos h, fm_filter2 p f l]; rfl
    · rw [List.filterMap_cons, if_neg h, List.filter_cons, if_neg h, fm_filter2 p f l]
theorem lap_step {s0 s2 s3 s4 s7 s8 s10 s11 s12 s13 : Sl} {Hs : List Nat} {cf : Nat → Nat} {h : Nat} (hh : h ∈ Hs) (hlt : h < T.length) (hl : Hs.length ≤ 60)
    (hN : ∀ (m : Nat) (s13 : Sl), m ∈ lapV Ws Hs cf h → (∀ v ∈ lapV Ws Hs cf h, v ≤ m) → N.nx [s0, .im (aftD T Ws), s2, s3, s4, .im (.lst (Hs.map intD)), .ok (dkN (numD (upF cf h m)) Hs), s7, s8, .im (intD h), s10, s11, s12, s13]) :
    lapS N [s0, .im (aftD T Ws), s2, s3, s4, .im (.lst (Hs.map intD)), .ok (dkN (numD cf) Hs), s7, s8, .im (intD h), s10, s11, s12, s13] E := by
  have z1 : 1 ≤ sizeLine := by rw [sizeLine_eq]; omega
  refine setIxK rfl ?_
  simp [z1]
  refine lc_map (fun o => if (decide (o ≠ h) && decide (o ∈ Ws h)) = true then some (intD (1 + cf o)) else none) [s0, .im (aftD T Ws), s2, s3, s4, .im (.lst (Hs.map intD)), .ok (dkN (numD cf) Hs), s7, s8, .im (intD h), s10, s11, s12, .un] rfl (by rw [sizeLine_eq]; omega) (fun o ho R hR => ?_) ?_
  · have hv : val (dkN (numD cf) Hs) (Sum.inl (o : Int)) = some (numD cf o) := val_in ho
    have en : eqD (intD o) (intD h) = decide (o = h) := by
      show eqD (.int (o : Int)) (.int (h : Int)) = _
      rw [eqD_int]
      exact decide_eq_decide.mpr (by omega)
    simp only [sDgName, sDAnd, sDCmpT, sDB, sResR, sNe]
    refine ⟨⟨_, _, rfl, rfl⟩, ⟨_, _, rfl, rfl⟩, _, _, rfl, rfl, okEq_nat _, okEq_nat _, ?_⟩
    rw [en]
    by_cases e : o = h
    · rw [decide_eq_true e]
      simp [e] at hR ⊢; exact hR
    · rw [decide_eq_false e]
      rw [if_pos (show (!false) = true from rfl)]
      simp only [sDO, sDIx, sDB, sResR, sResL]
      refine ⟨⟨_, _, rfl, rfl⟩, ⟨_, _, rfl, rfl⟩, ⟨_, _, rfl, rfl⟩, _, _, rfl, rfl, aft_at hlt ⟨_, _, rfl, rfl, set_in ?_⟩⟩
      by_cases e2 : o ∈ Ws h
      · simp [e, e2] at hR
        rw [decide_eq_true e2, if_pos rfl]
        simp only [sDClean, sDOpM, sDO, sDC, sDIx, sDB, sResR, sResL]
        refine ⟨⟨_, _, rfl, rfl⟩, ⟨_, _, rfl, rfl⟩, _, _, rfl, rfl, ?_⟩
        rw [sIxK]
        refine ⟨_, _, rfl, hv, _, _, rfl, rfl, ?_⟩
        unfold numD intD
        rw [sAddI]
        refine ⟨_, rfl, ?_⟩
        have ei : D.int ((1 : Int) + ((cf o : Nat) : Int)) = intD (1 + cf o) := by unfold intD; rw [Int.natCast_add]; rfl
        rw [ei]
        exact hR
      · simp [e, e2] at hR ⊢; exact hR
  · rw [fm_filter2 (fun o => decide (o ≠ h) && decide (o ∈ Ws h)) (fun o => intD (1 + cf o))]
    have hfl := List.length_filter_le (fun o => decide (o ≠ h) && decide (o ∈ Ws h)) Hs
    have eV : [D.int 1] ++ ((Hs.filter fun o => decide (o ≠ h) && decide (o ∈ Ws h)).map fun o => intD (1 + cf o)) = (lapV Ws Hs cf h).map intD := by
      unfold lapV
      rw [List.map_cons, List.map_map]
      rfl
    refine ⟨_, rfl, ?_⟩
    rw [sAddL]
    refine ⟨by rw [List.length_map, sizeLine_eq]; simp only [List.length_cons, List.length_nil]; omega, _, rfl, ?_⟩
    rw [eV, sMaxL]
    refine ⟨(lapV Ws Hs cf h).map Int.ofNat, by rw [List.map_map]; rfl, by unfold lapV; simp, fun m hm hmax => ?_⟩
    obtain ⟨k, hk, rfl⟩ := List.mem_map.mp hm
    refine ⟨_, rfl, _, rfl, _, rfl, _, rfl, _, rfl, by rw [dkN_length, sizeLine_eq]; omega, ?_⟩
    have hp := numD_up (F := cf) (v := k) hh
    rw [show D.int (Int.ofNat k) = intD k from rfl, hp]
    exact hN k .un hk fun v hv => by
      have := hmax (Int.ofNat v) (List.mem_map.mpr ⟨v, hv, rfl⟩)
      exact Int.ofNat_le.mp this
theorem gr_laps (ok : OkM c T g) (A : Aft c T Ws) {s0 s2 s3 s4 s7 s8 s9 s10 s11 s12 s13 : Sl} {Hs : List Nat} (H : Hds (nx T) c (gdb g) Hs)
    (h : ∀ (cf : Nat → Nat) (s7 s9 s13 : Sl), Up (nx T) c (gdb g) Hs cf → (∀ y ∈ Hs, Low (nx T) c (gdb g) Hs cf y Hs.length) → N.nx [s0, .im (aftD T Ws), s2, s3, s4, .im (.lst (Hs.map intD)), .ok (dkN (numD cf) Hs), s7, s8, s9, s10, s11, s12, s13]) :
    dFor (dSeqI (dVar 5)) (dgName 7) (dFor (dSeqI (dVar 5)) (dgName 9) lapS) N [s0, .im (aftD T Ws), s2, s3, s4, .im (.lst (Hs.map intD)), .ok (dkN (numD fun _ => 1) Hs), s7, s8, s9, s10, s11, s12, s13] E := by
  have hHlt : ∀ h ∈ Hs, h < T.length := fun h hh => lv_lt ok.t (H.ring h hh).1.1
  have h2 := ok.t.l2
  have hHl : Hs.length ≤ 60 := by
    have := List.Nodup.length_le_of_subset (l₂ := List.range T.length) H.nd fun x hx => List.mem_range.mpr (hHlt x hx)
    simp at this; omega
  simp only [sFor, sSeqI, sDVar]
  refine ⟨_, _, rfl, rfl, _, rfl, ?_⟩
  refine forN (fun l Δ => ∃ (cf : Nat → Nat) (s7 s9 s13 : Sl), Δ = [s0, .im (aftD T Ws), s2, s3, s4, .im (.lst (Hs.map intD)), .ok (dkN (numD cf) Hs), s7, s8, s9, s10, s11, s12, s13] ∧ Up (nx T) c (gdb g) Hs cf ∧ ∀ y ∈ Hs, Low (nx T) c (gdb g) Hs cf y l) ⟨fun _ => 1, s7, s9, s13, rfl, fun k hk => ⟨[], H.ring k hk, rfl⟩, fun y hy cs hc hs hl => by show cs.length + 1 ≤ 1; omega⟩ ?_ ?_
  · rintro l z Δ _ ⟨cf, s7, s9, s13, rfl, U, L⟩ M m _ _ _
    simp only [sDgName]
    refine ⟨_, _, rfl, rfl, _, rfl, ?_⟩
    refine forN (fun j Δ => ∃ (cf : Nat → Nat) (s9 s13 : Sl), Δ = [s0, .im (aftD T Ws), s2, s3, s4, .im (.lst (Hs.map intD)), .ok (dkN (numD cf) Hs), .im (intD z), s8, s9, s10, s11, s12, s13] ∧ Up (nx T) c (gdb g) Hs cf ∧ (∀ y ∈ Hs, Low (nx T) c (gdb g) Hs cf y l) ∧ ∀ y ∈ Hs.take j, Low (nx T) c (gdb g) Hs cf y (l + 1)) ⟨cf, s9, s13, rfl, U, L, fun y hy => by simp at hy⟩ ?_ ?_
    · rintro j h0 Δ hj ⟨cf, s9, s13, rfl, U, L, L2⟩ M2 m2 _ _ _
      have hh := List.mem_of_getElem? hj
      show lapS _ [s0, .im (aftD T Ws), s2, s3, s4, .im (.lst (Hs.map intD)), .ok (dkN (numD cf) Hs), .im (intD z), s8, .im (intD h0), s10, s11, s12, s13] E
      refine lap_step hh (hHlt h0 hh) hHl fun v s13 hv hmax => m2 _ ⟨upF cf h0 v, _, _, rfl, ?_, ?_, ?_⟩
      · refine up_step H U hh ?_
        unfold lapV at hv
        rcases List.mem_cons.mp hv with hv | hv
        · exact .inl hv
        · obtain ⟨o, ho, rfl⟩ := List.mem_map.mp hv
          rw [List.mem_filter, Bool.and_eq_true, decide_eq_true_eq, decide_eq_true_eq, A.mem h0 (hHlt h0 hh)] at ho
          exact .inr ⟨o, ho.1, ho.2.1, ho.2.2, rfl⟩
      all_goals
        have low0 : Low (nx T) c (gdb g) Hs (upF cf h0 v) h0 (l + 1) := low_step L (hmax 1 (by unfold lapV; simp)) fun o ho hne hp => hmax _ (by
          unfold lapV
          exact List.mem_cons_of_mem _ (List.mem_map.mpr ⟨o, by rw [List.mem_filter, Bool.and_eq_true, decide_eq_true_eq, decide_eq_true_eq, A.mem h0 (hHlt h0 hh)]; exact ⟨ho, hne, hp⟩, rfl⟩))
      · intro y hy
        by_cases e : y = h0
        · subst e; exact low0.le (by omega)
        · exact low_other (L y hy) e
      · intro y hy
        by_cases e : y = h0
        · subst e; exact low0
        · rw [List.take_add_one, hj] at hy
          rcases List.mem_append.mp hy with hy | hy
          · exact low_other (L2 y hy) e
          · simp at hy; exact absurd hy e
    · rintro Δ ⟨cf, s9, s13, rfl, U, L, L2⟩
      refine m _ ⟨cf, _, _, _, rfl, U, fun y hy => L2 y (by rw [List.take_of_length_le (Nat.le_refl _)]; exact hy)⟩
  · rintro Δ ⟨cf, s7, s9, s13, rfl, U, L⟩
    exact h cf _ _ _ U L
end
end DL
-- K73w
set_option Elab.async false
set_option linter.all false
set_option maxRecDepth 100000
set_option maxHeartbeats 2000000
set_option autoImplicit false
namespace DL
open PySem PySem.Spec L2
open PyProof.Rows hiding St
theorem enum_range (ns : List Nat) : enumD (ns.map intD) = (List.range ns.length).map fun i => D.tup [intD i, intD (ns.getD i 0)] := by
  refine List.ext_getElem? fun i => ?_
  rw [enumD_get, List.getElem?_map, List.getElem?_map]
  by_cases h : i < ns.length
  · have e : ns.getD i 0 = ns[i] := by rw [List.getD_eq_getElem?_getD, List.getElem?_eq_getElem h]; rfl
    rw [List.getElem?_eq_getElem h, List.getElem?_range h]
    show some (D.tup [D.int (i : Int), intD ns[i]]) = some (D.tup [intD i, intD (ns.getD i 0)])
    rw [e]; rfl
  · rw [List.getElem?_eq_none (by omega), List.getElem?_eq_none (by rw [List.length_range]; omega)]; rfl
theorem max_nat {ns : List Nat} {m : Int} (h : m ∈ ns.map Int.ofNat) (hm : ∀ y, y ∈ ns.map Int.ofNat → y ≤ m) : ∃ k : Nat, m = (k : Int) ∧ k ∈ ns ∧ ∀ v ∈ ns, v ≤ k := by
  obtain ⟨k, hk, rfl⟩ := List.mem_map.mp h
  exact ⟨k, rfl, hk, fun v hv => Int.ofNat_le.mp (hm (Int.ofNat v) (List.mem_map.mpr ⟨v, hv, rfl⟩))⟩
theorem run__law_growth (a : Ad) (ds : List D) (Q : D → Prop) (E : EX) (h : sp__law_growth a ds Q E) : ds.length = 1 ∧ sem__law_growth a { nx := fun _ => Q .non, rt := Q } (startD N__law_growth.length ds) E := by
  obtain ⟨c, T, g, rfl, ok, hq⟩ := h
  refine ⟨rfl, ?_⟩
  have z1 : 1 ≤ sizeLine := by rw [sizeLine_eq]; omega
  have z2 : 2 ≤ sizeLine := by rw [sizeLine_eq]; omega
  have h2 := ok.t.l2
  have h1 := ok.t.l1
  unfold sem__law_growth
  refine seqN fun M0 m0 _ _ _ => ?_
  refine gr_after ok fun Ws A => m0 _ ?_
  refine seqN fun M1 m1 _ _ _ => ?_
  refine gr_come ok A rfl (m1 _ ?_)
  refine seqN fun M2 m2 _ _ _ => ?_
  refine gr_live ok A rfl fun s10 => m2 _ ?_
  refine seqN fun M3 m3 hrt3 _ _ => ?_
  refine ifN (b := !decide (0 ∈ liveL T g Ws)) (fun QQ q => ?_) (fun h0 => ?_) fun h0 => m3 _ ?_
  · simp only [sDCmpT, sDO, sDC, sDB, sResR, sResL, sNotIn]
    exact ⟨⟨_, _, rfl, rfl⟩, _, _, rfl, rfl, lst_in (x := 0) q⟩
  · have h0' : 0 ∉ liveL T g Ws := by simpa using h0
    simp [z1, hrt3]
    exact hq .non (fun z => h0' ((live_mem ok A).mpr z)) (Nat.zero_le _)
  · have h0' : 0 ∈ liveL T g Ws := by simpa using h0
    have hlv := (live_mem ok A).mp h0'
    refine seqN fun M4 m4 hrt4 _ _ => ?_
    refine gr_dbl ok A rfl (fun hd => by rw [hrt4]; exact hq .dbl ⟨hlv, hd⟩ (Nat.zero_le _)) fun s4 s10 hnd => m4 _ ?_
    refine seqN fun M5 m5 _ _ _ => ?_
    simp
    refine m5 _ ?_
    refine seqN fun M6 m6 _ _ _ => ?_
    refine gr_heads ok A rfl rfl fun Hs s3 s4 s5 s9 H cov hs5 => m6 _ ?_
    have hHlt : ∀ h ∈ Hs, h < T.length := fun h hh => lv_lt ok.t (H.ring h hh).1.1
    have hHl : Hs.length ≤ 60 := by
      have := List.Nodup.length_le_of_subset (l₂ := List.range T.length) H.nd fun x hx => List.mem_range.mpr (hHlt x hx)
      simp at this; omega
    refine seqN fun M7 m7 _ _ _ => ?_
    refine gr_chain0 H.nd hHl hs5 fun s9 => m7 _ ?_
    refine seqN fun M8 m8 _ _ _ => ?_
    refine gr_laps ok A H fun cf s7 s9 s13 U L => m8 _ ?_
    refine seqN fun M9 m9 hrt9 _ _ => ?_
    refine ifN (b := !decide (Hs = [])) (fun QQ q => ?_) (fun hne => ?_) fun he => m9 _ ?_
    · simp
      by_cases e : Hs = []
      · simp [e] at q ⊢; exact q
      · simp [e] at q ⊢; exact q
    · have hne : Hs ≠ [] := by simpa using hne
      simp
      refine lc_map (fun x => some (intD (cf x))) _ rfl (by rw [sizeLine_eq]; omega) (fun x hx R hR => ?_) ?_
      · have hv : val (dkN (numD cf) Hs) (Sum.inl (x : Int)) = some (numD cf x) := val_in hx
        simp [hv]
        exact hR
      · rw [filterMap_some_map]
        refine ⟨_, rfl, ?_⟩
        rw [sMaxL]
        refine ⟨(Hs.map cf).map Int.ofNat, by rw [List.map_map, List.map_map]; rfl, by simpa [List.length_pos_iff] using hne, fun m hm hmax => ?_⟩
        obtain ⟨k, rfl, hk, hkm⟩ := max_nat hm hmax
        obtain ⟨x, hx, e⟩ := List.mem_map.mp hk
        obtain ⟨p1, p2, p3⟩ := pow_of H cov U L ⟨x, hx, e⟩ fun y hy => hkm _ (List.mem_map.mpr ⟨y, hy, rfl⟩)
        have hk60 : k ≤ 60 := by
          have := chf_bound (n := T.length) (fun x hx => lv_lt ok.t hx.1) p2
          omega
        simp [z2, hrt9]
        have e1 : ((k : Int) - 1) = ((k - 1 : Nat) : Int) := by omega
        rw [e1]
        refine hq (.pow (k - 1)) ⟨hlv, hnd, ?_, ?_⟩ (show k - 1 ≤ 60 by omega)
        · rw [Nat.sub_add_cancel p1]; exact p2
        · rw [show k - 1 + 2 = k + 1 by omega]; exact p3
    · have he : Hs = [] := by simpa using he
      subst he
      have nr : ∀ r, LvM c T g r → ¬ PtM c T r r := fun r hr hp => by
        obtain ⟨h, hh, _⟩ := cov r hr hp
        cases hh
      refine seqN fun M10 m10 _ _ _ => ?_
      simp
      refine plan_1 ?_
      unfold tblD
      simp
      refine ⟨c, T, g, T.length + 1, by simp [intD], ok, by omega, fun ns hns hacc => m10 _ ?_⟩
      have hbd : ∀ k, Acc (nx T) c (gdb g) k → k < T.length := fun k ⟨w, hw, hl, hg⟩ => by
        have := lay_pre (f := nx T) (g := gdb g) (v := w) (w := []) (by simpa using hw) (by simpa using hg)
        rw [hl] at this
        exact lay_lt (fun x hx => lv_lt ok.t hx.1) nr this
      simp
      rw [enum_range]
      refine lc_map (fun i => if decide (0 < ns.getD i 0) = true then some (intD i) else none) _ rfl (by rw [List.length_range, sizeLine_eq]; omega) (fun i hi R hR => ?_) ?_
      · simp
        refine ⟨_, _, ⟨rfl, rfl⟩, _, _, rfl, rfl, ?_⟩
        have e : decide ((0 : Int) < ((ns[i]?.getD 0 : Nat) : Int)) = decide (0 < ns.getD i 0) := by
          rw [List.getD_eq_getElem?_getD]; exact decide_eq_decide.mpr (by omega)
        show (fun b => if b = true then R (some (intD i)) _ else R none _) (decide ((0 : Int) < ((ns[i]?.getD 0 : Nat) : Int)))
        rw [e]
        by_cases e2 : 0 < ns.getD i 0
        · simp only [decide_eq_true e2] at hR ⊢
          exact hR
        · simp only [decide_eq_false e2] at hR ⊢
          exact hR
      · rw [fm_filter fun i => decide (0 < ns.getD i 0)]
        refine ⟨_, rfl, ?_⟩
        rw [sMaxL]
        have mem : ∀ k, k ∈ (List.range ns.length).filter (fun i => decide (0 < ns.getD i 0)) ↔ Acc (nx T) c (gdb g) k := fun k => by
          rw [List.mem_filter, List.mem_range, decide_eq_true_eq, hns]
          constructor
          · rintro ⟨h1, h2⟩
            exact (hacc k h1).mp h2
          · intro hk
            have := hbd k hk
            exact ⟨by omega, (hacc k (by omega)).mpr hk⟩
        refine ⟨((List.range ns.length).filter fun i => decide (0 < ns.getD i 0)).map Int.ofNat, by rw [List.map_map]; rfl, ?_, fun m hm hmax => ?_⟩
        · rw [List.length_map]
          obtain ⟨_, q, ⟨w, hw, e⟩, hg⟩ := hlv
          exact List.length_pos_of_mem ((mem w.length).mpr ⟨w, hw, rfl, by rw [e]; exact hg⟩)
        · obtain ⟨k, rfl, hk, hkm⟩ := max_nat hm hmax
          have hk' := (mem k).mp hk
          simp [z2]
          refine hq (.ends k) ⟨hlv, nr, hk', fun j hj => hkm j ((mem j).mpr hj)⟩ (show k ≤ 60 by have := hbd k hk'; omega)
end DL
-- K73x
set_option Elab.async false
set_option linter.all false
set_option maxRecDepth 100000
set_option maxHeartbeats 2000000
set_option autoImplicit false
namespace DL
open PySem PySem.Spec L2
open PyProof.Rows hiding St
theorem run__law_chain (a : Ad) (ds : List D) (Q : D → Prop) (E : EX) (h : sp__law_chain a ds Q E) : ds.length = 1 ∧ sem__law_chain a { nx := fun _ => Q .non, rt := Q } (startD N__law_chain.length ds) E := by
  obtain ⟨rfl, hq⟩ := h
  refine ⟨rfl, ?_⟩
  have z1 : 1 ≤ sizeLine := by rw [sizeLine_eq]; omega
  have z2 : 2 ≤ sizeLine := by rw [sizeLine_eq]; omega
  have z3 : 3 ≤ sizeLine := by rw [sizeLine_eq]; omega
  unfold sem__law_chain
  refine seqN fun M0 m0 _ _ _ => ?_
  simp [sp__law_take]
  intro r0 r1 r2
  refine ⟨by omega, by omega, ?_⟩
  refine lc_rangeP (fun _ d => ∃ k : Nat, d = intD k ∧ 1 ≤ k ∧ k ≤ 4) [.im .drw, .un, .un, .un, .un, .un, .un, .un, .un, .un, .un] rfl (by rw [sizeLine_eq]; omega) (fun i hi R hR => ?_) fun v hv => ?_
  · simp [sp__law_take]
    intro k k1 k2
    exact hR _ ⟨(1 + k).toNat, by unfold intD; congr 1; omega, by omega, by omega⟩
  · have hch : ∀ i, ∃ k : Nat, i < (1 + r0).toNat → v i = intD k ∧ 1 ≤ k ∧ k ≤ 4 := fun i => by
      by_cases hi : i < (1 + r0).toNat
      · obtain ⟨k, hk⟩ := hv i hi
        exact ⟨k, fun _ => hk⟩
      · exact ⟨0, fun z => absurd z hi⟩
    have ⟨kf, hk⟩ := Classical.axiomOfChoice hch
    obtain ⟨ls, hls⟩ : ∃ ls, ls = (List.range (1 + r0).toNat).map kf := ⟨_, rfl⟩
    have el : (List.range (1 + r0).toNat).map v = ls.map intD := by
      rw [hls, List.map_map]
      exact List.map_congr_left fun i hi => (hk i (List.mem_range.mp hi)).1
    have ll1 : 1 ≤ ls.length := by rw [hls, List.length_map, List.length_range]; omega
    have ll2 : ls.length ≤ 4 := by rw [hls, List.length_map, List.length_range]; omega
    have lm : ∀ k ∈ ls, 1 ≤ k ∧ k ≤ 4 := fun k hm => by
      rw [hls] at hm
      obtain ⟨i, hi, rfl⟩ := List.mem_map.mp hm
      exact (hk i (List.mem_range.mp hi)).2
    have sumle : ∀ l : List Nat, (∀ k ∈ l, k ≤ 4) → l.sum ≤ l.length * 4 := fun l => by
      induction l with
      | nil => intro _; simp
      | cons x l ih =>
        intro hx
        have a1 := hx x List.mem_cons_self
        have a2 := ih fun k hk => hx k (List.mem_cons_of_mem _ hk)
        rw [List.sum_cons, List.length_cons]; omega
    have hdead := sumle ls fun k hk => (lm k hk).2
    have tk : ∀ i, (ls.take i).sum + (ls.drop i).sum = ls.sum := fun i => by rw [← List.sum_append, List.take_append_drop]
    have tk1 : ∀ i k, ls[i]? = some k → (ls.take (i + 1)).sum = (ls.take i).sum + k := fun i k hi => by rw [List.take_add_one, hi, List.sum_append]; simp
    rw [el]
    refine ⟨by simp, m0 _ ?_⟩
    clear hls el hk hch hv
    refine seqN fun M1 m1 _ _ _ => ?_
    simp
    refine ⟨_, _, ⟨rfl, rfl⟩, m1 _ ?_⟩
    refine seqN fun M2 m2 _ _ _ => ?_
    simp
    show dForK _ _ _ _ [.im .drw, .im (.lst (ls.map intD)), .un, .un, .ol [], .ol [], .un, .un, .un, .un, .un] E
    refine forN (fun i Δ => ∃ s2, Δ = [.im .drw, .im (.lst (ls.map intD)), s2, .un, .ol [], .ol (((List.range i).map fun j => (ls.take j).sum).map intD), .un, .un, .un, .un, .un]) ⟨.un, rfl⟩ ?_ ?_
    · rintro i k Δ hi ⟨s2, rfl⟩ M m _ _ _
      have hil := (List.getElem?_eq_some_iff.mp hi).1
      simp [cut_to]
      refine ⟨(ls.take i).map Int.ofNat, by rw [← List.map_take, List.map_map]; rfl, by rw [sizeLine_eq]; omega, ?_⟩
      rw [sum_nat]
      refine m _ ⟨.im (intD k), ?_⟩
      rw [List.range_succ]
      simp [intD]
    · rintro Δ ⟨s2, rfl⟩
      refine m2 _ ?_
      refine seqN fun M3 m3 _ _ _ => ?_
      simp
      refine ⟨ls.map Int.ofNat, by rw [List.map_map]; rfl, m3 _ ?_⟩
      rw [sum_nat]
      refine seqN fun M4 m4 _ _ _ => ?_
      simp only [sFor, sEnum, sDCons, sDNil, sDVar]
      refine ⟨_, _, rfl, rfl, _, rfl, ?_⟩
      refine forEN (fun i Δ => ∃ (tb : List (List Nat)) (s2 s6 s7 s9 s10 : Sl), Δ = [.im .drw, .im (.lst (ls.map intD)), s2, .im (intD ls.sum), .ol (tb.map rowD), .ol (((List.range ls.length).map fun j => (ls.take j).sum).map intD), s6, s7, .un, s9, s10] ∧ tb.length = (ls.take i).sum ∧ ∀ r ∈ tb, r.length = 2 ∧ ∀ n ∈ r, n < ls.sum + 1) ⟨[], s2, .un, .un, .un, .un, by simp [intD], by simp, by simp⟩ ?_ ?_
      · rintro i k Δ hi ⟨tb, s2, s6, s7, s9, s10, rfl, htl, htr⟩ M m _ _ _
        have hil := (List.getElem?_eq_some_iff.mp hi).1
        have hkm := lm k (List.mem_of_getElem? hi)
        have ht1 := tk1 i k hi
        have ht2 := tk (i + 1)
        simp only [sDgTup, sDgCons, sDgNil, sDgName]
        refine ⟨_, .inl rfl, rfl, _, _, rfl, _, _, rfl, rfl, ?_⟩
        simp only [sFor, sRng1, sDCons, sDNil, sDVar]
        refine ⟨_, _, rfl, rfl, (k : Int), rfl, by omega, by omega, ?_⟩
        rw [Int.toNat_natCast]
        refine forRN (fun j Δ => ∃ (tb : List (List Nat)) (s7 s9 s10 : Sl), Δ = [.im .drw, .im (.lst (ls.map intD)), .im (intD k), .im (intD ls.sum), .ol (tb.map rowD), .ol (((List.range ls.length).map fun j => (ls.take j).sum).map intD), .im (intD i), s7, .un, s9, s10] ∧ tb.length = (ls.take i).sum + j ∧ ∀ r ∈ tb, r.length = 2 ∧ ∀ n ∈ r, n < ls.sum + 1) ⟨tb, s7, s9, s10, rfl, by omega, htr⟩ ?_ ?_
        · rintro j Δ hj ⟨tb, s7, s9, s10, rfl, htl, htr⟩ M5 m5 _ _ _
          have e5 : ∀ x : Nat, x < ls.length → atI (((List.range ls.length).map fun j => (ls.take j).sum).map intD) (x : Int) = some (intD (ls.take x).sum) := fun x hx => by
            rw [atI_nat, List.getElem?_map, List.getElem?_map, List.getElem?_range hx]; rfl
          simp only [sDgName]
          refine seqN fun M6 m6 _ _ _ => ?_
          have fin : ∀ (on out : Nat), on < ls.sum + 1 → out < ls.sum + 1 → ∀ s10, dAppend 4 (dCons (dTup (dCons (dVar 9) (dCons (dVar 10) dNil))) dNil) M5 [.im .drw, .im (.lst (ls.map intD)), .im (intD k), .im (intD ls.sum), .ol (tb.map rowD), .ol (((List.range ls.length).map fun j => (ls.take j).sum).map intD), .im (intD i), .im (.int (0 + (j : Int))), .un, .im (intD on), .im s10] E ∨ s10 ≠ intD out := fun on out h1 h2 s10 => by
            by_cases es : s10 = intD out
            · subst es
              refine .inl ?_
              simp [z2]
              refine ⟨by rw [sizeLine_eq]; omega, m5 _ ⟨tb ++ [[on, out]], .im (.int (0 + (j : Int))), .im (intD on), .im (intD out), by simp [rowD], by simp; omega, fun r hr => ?_⟩⟩
              rcases List.mem_append.mp hr with hr | hr
              · exact htr r hr
              · simp at hr; subst hr
                refine ⟨rfl, fun n hn => ?_⟩
                simp at hn
                rcases hn with rfl | rfl
                · exact h1
                · exact h2
            · exact .inr es
          have two : ∀ (on : Nat) (s9 : Sl), on < ls.sum + 1 → s9 = .im (intD on) → M6.nx [.im .drw, .im (.lst (ls.map intD)), .im (intD k), .im (intD ls.sum), .ol (tb.map rowD), .ol (((List.range ls.length).map fun j => (ls.take j).sum).map intD), .im (intD i), .im (.int (0 + (j : Int))), .un, s9, s10] := fun on s9 h1 e9 => by
            subst e9
            refine m6 _ ?_
            refine seqN fun M7 m7 _ _ _ => ?_
            have done : ∀ (out : Nat), out < ls.sum + 1 → M7.nx [.im .drw, .im (.lst (ls.map intD)), .im (intD k), .im (intD ls.sum), .ol (tb.map rowD), .ol (((List.range ls.length).map fun j => (ls.take j).sum).map intD), .im (intD i), .im (.int (0 + (j : Int))), .un, .im (intD on), .im (intD out)] := fun out h2 =>
              m7 _ ((fin on out h1 h2 (intD out)).resolve_right fun z => z rfl)
            simp only [sDSet, sDIf, sDAnd, sDCmpT, sDB, sDO, sDC, sResR, sResL, sEq]
            refine ⟨⟨_, _, rfl, rfl⟩, _, _, rfl, rfl, okEq_int _, okEq_int _, ?_⟩
            rw [eqD_int]
            by_cases e0 : (0 + (j : Int)) = 0
            · rw [decide_eq_true e0, if_pos rfl]
              simp only [sDClean, sDOpM, sDO, sDB, sDC, sResR, sResL]
              refine ⟨⟨_, _, rfl, rfl⟩, _, _, rfl, rfl, ?_⟩
              show rdAdd (.int (i : Int)) (.int 1) _
              rw [sAddI]
              refine ⟨_, rfl, ?_⟩
              simp only [sDBlt, sDConsO, sDB, sDNilO]
              refine ⟨⟨_, _, rfl, rfl⟩, [.lst (ls.map intD)], rfl, ?_⟩
              rw [sLenL]
              refine ⟨_, rfl, _, _, rfl, rfl, ?_⟩
              simp only [rdLt, sRdC]
              rw [List.length_map]
              by_cases e1 : i + 1 < ls.length
              · rw [decide_eq_true (show (i : Int) + 1 < (ls.length : Int) by omega), if_pos rfl]
                simp only [sDIx, sDB, sDO, sDClean, sDOpM, sDC, sResR, sResL]
                refine ⟨⟨_, _, rfl, rfl⟩, ⟨_, _, rfl, rfl⟩, _, _, rfl, rfl, ?_⟩
                show rdAdd (.int (i : Int)) (.int 1) _
                rw [sAddI]
                refine ⟨_, rfl, _, _, rfl, rfl, ?_⟩
                rw [sIxL]
                have e6 := e5 (i + 1) e1
                rw [show ((i + 1 : Nat) : Int) = (i : Int) + 1 by omega] at e6
                refine ⟨_, e6, ?_⟩
                exact done _ (by omega)
              · rw [decide_eq_false (show ¬ (i : Int) + 1 < (ls.length : Int) by omega), if_neg (by simp)]
                simp only [sDVar]
                exact ⟨_, _, rfl, rfl, done ls.sum (by omega)⟩
            · rw [decide_eq_false e0, if_neg (by simp), if_neg (by simp)]
              simp only [sDVar]
              exact ⟨_, _, rfl, rfl, done ls.sum (by omega)⟩
          simp only [sDSetM, sDOpM, sDO, sDIx, sDB, sResR, sResL]
          refine ⟨⟨_, _, rfl, rfl⟩, ⟨_, _, rfl, rfl⟩, _, _, rfl, rfl, ?_⟩
          show rdIx (.lst _) (.int (i : Int)) _
          rw [sIxL]
          refine ⟨_, e5 i hil, ?_⟩
          simp only [sDClean, sIfM, sDCmpT, sDO, sDOpM, sDB, sDC, sResR, sResL]
          refine ⟨⟨_, _, rfl, rfl⟩, _, _, rfl, rfl, ?_⟩
          rw [sAddI]
          refine ⟨_, rfl, ⟨_, _, rfl, rfl⟩, _, _, rfl, rfl, ?_⟩
          show rdLt (.int _) (.int (k : Int)) _
          simp only [rdLt, sRdC]
          by_cases e2 : j + 1 < k
          · rw [decide_eq_true (show 0 + (j : Int) + 1 < (k : Int) by omega), if_pos rfl]
            refine ⟨⟨_, _, rfl, rfl⟩, _, _, rfl, rfl, ?_⟩
            rw [sAddI]
            refine ⟨_, rfl, _, _, rfl, rfl, ?_⟩
            show rdAdd (.int ((ls.take i).sum : Int)) (.int _) _
            rw [sAddI]
            refine ⟨by simp, two ((ls.take i).sum + (j + 1)) _ (by omega) ?_⟩
            unfold intD
            congr 2
            omega
          · rw [decide_eq_false (show ¬ 0 + (j : Int) + 1 < (k : Int) by omega), if_neg (by simp)]
            simp only [sDIm, sDC]
            refine ⟨_, rfl, _, _, rfl, rfl, ?_⟩
            show rdAdd (.int ((ls.take i).sum : Int)) (.int 0) _
            rw [sAddI]
            refine ⟨by simp, two (ls.take i).sum _ (by omega) ?_⟩
            unfold intD
            congr 2
        · rintro Δ ⟨tb, s7, s9, s10, rfl, htl, htr⟩
          refine m _ ⟨tb, _, _, _, _, _, rfl, by omega, htr⟩
      · rintro Δ ⟨tb, s2, s6, s7, s9, s10, rfl, htl, htr⟩
        rw [List.take_of_length_le (Nat.le_refl _)] at htl
        refine m4 _ ?_
        simp [z1, z2, z3]
        refine ⟨by rw [sizeLine_eq]; omega, ?_⟩
        show rdMul (.lst [.bl true]) (.int (ls.sum : Int)) _
        rw [sMulL]
        refine ⟨by omega, by omega, by rw [Int.toNat_natCast, sizeLine_eq]; simp only [List.length_cons, List.length_nil]; omega, ?_⟩
        rw [Int.toNat_natCast]
        refine ⟨_, rfl, ?_⟩
        rw [sAddL]
        have ef : (List.replicate ls.sum [D.bl true]).flatten = (List.replicate ls.sum true).map D.bl := by
          generalize ls.sum = n
          induction n with
          | zero => rfl
          | succ n ih => rw [List.replicate_succ, List.flatten_cons, ih, List.replicate_succ]; rfl
        rw [ef]
        refine ⟨by rw [List.length_map, List.length_replicate, sizeLine_eq]; simp only [List.length_cons, List.length_nil]; omega, _, rfl, ?_⟩
        rw [sTupL]
        refine ⟨_, rfl, ?_⟩
        have := hq 1 (tb ++ [[ls.sum, ls.sum]]) (List.replicate ls.sum true ++ [false]) ⟨by omega, by omega, ⟨by simp, by simp; omega, fun r hr => ?_⟩, by simp [htl]⟩
        · unfold planD tblD blsD at this
          simp at this
          simpa [rowD, intD] using this
        · rcases List.mem_append.mp hr with hr | hr
          · obtain ⟨q1, q2⟩ := htr r hr
            exact ⟨q1, fun n hn => by have := q2 n hn; simp [htl]; omega⟩
          · simp at hr; subst hr
            exact ⟨rfl, fun n hn => by simp at hn; subst hn; simp [htl]⟩
end DL
-- P73d
set_option Elab.async false
set_option linter.all false
set_option maxRecDepth 100000
set_option maxHeartbeats 2000000
set_option autoImplicit false
namespace DL
open PySem PySem.Spec L2
open PyProof.Rows hiding St
/-! ### fewer rooms, the same growth -/
theorem bottom {n : Nat} {R : Nat → Nat → Prop} {P : Nat → Prop} (tr : ∀ a b d, R a b → R b d → R a d) (hn : ∀ s, P s → s < n) {s0 : Nat} (h0 : P s0) : ∃ s, P s ∧ ∀ t, P t → R s t → R t s := by
  refine Classical.byContradiction fun hno => ?_
  have nxt : ∀ s : { s // P s }, ∃ t : { t // P t }, R s.1 t.1 ∧ ¬ R t.1 s.1 := fun s => by
    refine Classical.byContradiction fun h => hno ⟨s.1, s.2, fun t ht hr => ?_⟩
    exact Classical.byContradiction fun hb => h ⟨⟨t, ht⟩, hr, hb⟩
  have ⟨F, hF⟩ := Classical.axiomOfChoice nxt
  let G : Nat → { s // P s } := fun k => Nat.rec ⟨s0, h0⟩ (fun _ s => F s) k
  have step : ∀ k, R (G k).1 (G (k + 1)).1 ∧ ¬ R (G (k + 1)).1 (G k).1 := fun k => hF (G k)
  have go : ∀ d k, R (G k).1 (G (k + d + 1)).1 := fun d => by
    induction d with
    | zero => exact fun k => (step k).1
    | succ d ih => exact fun k => tr _ _ _ (ih k) (step (k + d + 1)).1
  have inj : ∀ i j, i < j → (G i).1 ≠ (G j).1 := fun i j hij e => by
    obtain ⟨d, rfl⟩ : ∃ d, j = i + d + 1 := ⟨j - i - 1, by omega⟩
    cases d with
    | zero =>
      have s1 := step i
      rw [← e] at s1
      exact s1.2 s1.1
    | succ d =>
      have h1 := go d (i + 1)
      rw [show i + 1 + d + 1 = i + (d + 1) + 1 by omega, ← e] at h1
      exact (step i).2 h1
  have nd : ((List.range (n + 1)).map fun k => (G k).1).Nodup := by
    refine List.pairwise_map.mpr ?_
    exact List.Pairwise.imp (fun {a b} hab => inj a b hab) List.pairwise_lt_range
  have := List.Nodup.length_le_of_subset (l₂ := List.range n) nd fun x hx => by
    obtain ⟨k, _, rfl⟩ := List.mem_map.mp hx
    exact List.mem_range.mpr (hn _ (G k).2)
  simp at this
  omega
section
variable {c n : Nat} {f f' : Nat → Nat → Nat} {g g' : Nat → Bool} {h : Nat → Nat}
structure Hm (c : Nat) (f f' : Nat → Nat → Nat) (g g' : Nat → Bool) (h : Nat → Nat) : Prop where
  zero : h 0 = 0
  good : ∀ r, Rc f c 0 r → g' (h r) = g r
  step : ∀ r, Rc f c 0 r → ∀ i, i ≤ c → h (f r i) = f' (h r) i
theorem Hm.run (H : Hm c f f' g g' h) : ∀ (w : List Nat) {r : Nat}, Rc f c 0 r → Inks c w → h (DL.run f r w) = DL.run f' (h r) w
  | [], _, _, _ => rfl
  | i :: w, r, hr, hw => by
    rw [run_cons, run_cons, ← H.step r hr i hw.head]
    exact H.run w (.snoc hw.head hr) hw.tail
theorem Hm.rc (H : Hm c f f' g g' h) {r s : Nat} (hr : Rc f c 0 r) (k : Rc f c r s) : Rc f' c (h r) (h s) := by
  obtain ⟨w, hw, e⟩ := k
  exact ⟨w, hw, by rw [← H.run w hr hw, e]⟩
theorem Hm.lift (H : Hm c f f' g g' h) {r' : Nat} (k : Rc f' c 0 r') : ∃ r, Rc f c 0 r ∧ h r = r' := by
  obtain ⟨w, hw, e⟩ := k
  exact ⟨DL.run f 0 w, ⟨w, hw, rfl⟩, by rw [H.run w .refl hw, H.zero, e]⟩
theorem Hm.pt (H : Hm c f f' g g' h) {r s : Nat} (hr : Rc f c 0 r) (k : Pt f c r s) : Pt f' c (h r) (h s) := by
  obtain ⟨i, hi, k⟩ := k
  exact ⟨i, hi, by rw [← H.step r hr i hi]; exact H.rc (.snoc hi hr) k⟩
theorem Hm.lv (H : Hm c f f' g g' h) {r : Nat} (hr : Rc f c 0 r) : Lv f c g r ↔ Lv f' c g' (h r) := by
  constructor
  · rintro ⟨_, q, hq, hg⟩
    exact ⟨by rw [← H.zero]; exact H.rc .refl hr, h q, H.rc hr hq, by rw [H.good q (hr.trans hq)]; exact hg⟩
  · rintro ⟨_, q', ⟨w, hw, e⟩, hg⟩
    refine ⟨hr, DL.run f r w, ⟨w, hw, rfl⟩, ?_⟩
    rw [← H.good _ (hr.trans ⟨w, hw, rfl⟩), H.run w hr hw, e]
    exact hg
theorem Hm.acc (H : Hm c f f' g g' h) {k : Nat} : Acc f c g k ↔ Acc f' c g' k := by
  refine exists_congr fun w => and_congr_right fun hw => and_congr_right fun _ => ?_
  have e := H.run w .refl hw
  rw [H.zero] at e
  rw [← e, H.good _ ⟨w, hw, rfl⟩]
theorem Hm.dbl (H : Hm c f f' g g' h) {r : Nat} (hr : Rc f c 0 r) (k : Dbl f c r) : Dbl f' c (h r) := by
  obtain ⟨i, j, h1, h2, h3, h4⟩ := k
  refine ⟨i, j, h1, h2, ?_, ?_⟩
  · rw [← H.step r hr i (by omega)]; exact H.rc (.snoc (by omega) hr) h3
  · rw [← H.step r hr j h2]; exact H.rc (.snoc h2 hr) h4
theorem Hm.ring (H : Hm c f f' g g' h) (hn : ∀ s, Rc f c 0 s → s < n) {s : Nat} (hs : Rc f c 0 s) (k : Pt f' c (h s) (h s)) : ∃ t, Rc f c s t ∧ h t = h s ∧ Pt f c t t := by
  obtain ⟨i, hi, w, hw, e⟩ := k
  obtain ⟨t, ⟨h1, h2⟩, h3⟩ := bottom (R := Rc f c) (P := fun t => Rc f c s t ∧ h t = h s) (n := n) (fun _ _ _ a b => a.trans b) (fun t ht => hn t (hs.trans ht.1)) (s0 := s) ⟨.refl, rfl⟩
  have hx : Inks c (i :: w) := .cons hi hw
  have ht := hs.trans h1
  have h4 : h (DL.run f t (i :: w)) = h s := by rw [H.run _ ht hx, h2, run_cons]; exact e
  have h5 : Rc f c t (DL.run f t (i :: w)) := ⟨_, hx, rfl⟩
  exact ⟨t, h1, h2, i, hi, Rc.trans ⟨w, hw, rfl⟩ (h3 _ ⟨h1.trans h5, h4⟩ h5)⟩
theorem Hm.dbl_up (H : Hm c f f' g g' h) (hn : ∀ s, Rc f c 0 s → s < n) {r' : Nat} (hr : Lv f' c g' r') (k : Dbl f' c r') : ∃ s, Lv f c g s ∧ Dbl f c s := by
  obtain ⟨i, j, h1, h2, ⟨u, hu, eu⟩, ⟨v, hv, ev⟩⟩ := k
  obtain ⟨r, hr0, e⟩ := H.lift hr.1
  obtain ⟨s, ⟨p1, p2⟩, p3⟩ := bottom (R := Rc f c) (P := fun t => Rc f c 0 t ∧ h t = r') (n := n) (fun _ _ _ a b => a.trans b) (fun t ht => hn t ht.1) (s0 := r) ⟨hr0, e⟩
  have back : ∀ i u, i ≤ c → Inks c u → DL.run f' (f' r' i) u = r' → Rc f c (f s i) s := fun i u hi hu eu => by
    have hx : Inks c (i :: u) := .cons hi hu
    have h4 : h (DL.run f s (i :: u)) = r' := by rw [H.run _ p1 hx, p2, run_cons]; exact eu
    have h5 : Rc f c s (DL.run f s (i :: u)) := ⟨_, hx, rfl⟩
    exact Rc.trans ⟨u, hu, rfl⟩ (p3 _ ⟨p1.trans h5, h4⟩ h5)
  exact ⟨s, (H.lv p1).mpr (by rw [p2]; exact hr), i, j, h1, h2, back i u (by omega) hu eu, back j v h2 hv ev⟩
theorem Hm.chain_up (H : Hm c f f' g g' h) (hn : ∀ s, Rc f c 0 s → s < n) : ∀ (cs' : List Nat) (x' s : Nat), ChL f' c g' (x' :: cs') → Rc f c 0 s → h s = x' → ∃ t cs, Rc f c s t ∧ h t = x' ∧ ChL f c g (t :: cs) ∧ cs.length = cs'.length
  | [], x', s, hc, hs, e => by
    subst e
    obtain ⟨t, h1, h2, h3⟩ := H.ring hn hs hc.2
    exact ⟨t, [], h1, h2, ⟨(H.lv (hs.trans h1)).mpr (by rw [h2]; exact hc.1), h3⟩, rfl⟩
  | y' :: cs', x', s, hc, hs, e => by
    subst e
    obtain ⟨t, h1, h2, h3⟩ := H.ring hn hs hc.2.1
    have ht := hs.trans h1
    obtain ⟨w, hw, e2⟩ := hc.2.2.1
    have e3 : h (DL.run f t w) = y' := by rw [H.run w ht hw, h2, e2]
    have h4 : Rc f c t (DL.run f t w) := ⟨w, hw, rfl⟩
    obtain ⟨t2, cs, k1, k2, k3, k4⟩ := H.chain_up hn cs' y' _ hc.2.2.2.2 (ht.trans h4) e3
    refine ⟨t, t2 :: cs, h1, h2, ⟨(H.lv ht).mpr (by rw [h2]; exact hc.1), h3, h4.trans k1, fun z => hc.2.2.2.1 ?_, k3⟩, by simp [k4]⟩
    have := H.rc ((ht.trans h4).trans k1) z
    rw [k2, h2] at this
    exact this
theorem Hm.chain_down (H : Hm c f f' g g' h) (nd : ∀ r, Lv f' c g' r → ¬ Dbl f' c r) : ∀ (cs : List Nat) (x : Nat), ChL f c g (x :: cs) → ChL f' c g' (h x :: cs.map h)
  | [], x, hc => ⟨(H.lv hc.1.1).mp hc.1, H.pt hc.1.1 hc.2⟩
  | y :: cs, x, hc => by
    obtain ⟨h1, h2, ⟨w, hw, e⟩, h4, h5⟩ := hc
    have hx0 := h1.1
    refine ⟨(H.lv hx0).mp h1, H.pt hx0 h2, H.rc hx0 ⟨w, hw, e⟩, fun hb => h4 ?_, H.chain_down nd cs y h5⟩
    have go : ∀ (p : List Nat) (z : Nat), Inks c p → Rc f c x z → Rc f c z x → DL.run f z p = y → Rc f c y x := fun p => by
      induction p with
      | nil => intro z _ _ hz e; rw [show y = z from e.symm]; exact hz
      | cons i p ih =>
        intro z hp hxz hzx e
        have hz0 := hx0.trans hxz
        refine ih (f z i) hp.tail (.snoc hp.head hxz) ?_ e
        obtain ⟨j, hj, hjz⟩ : Pt f c z z := Pt.left hzx (h2.right hxz)
        by_cases eij : j = i
        · subst eij; exact hjz.trans hzx
        · have r1 : Rc f' c (f' (h z) j) (h z) := by
            rw [← H.step z hz0 j hj]; exact H.rc (.snoc hj hz0) hjz
          have r2 : Rc f' c (f' (h z) i) (h z) := by
            rw [← H.step z hz0 i hp.head]
            have q1 : Rc f' c (h (f z i)) (h y) := H.rc (.snoc hp.head hz0) ⟨p, hp.tail, e⟩
            exact (q1.trans hb).trans (H.rc hx0 hxz)
          have lz : Lv f' c g' (h z) := (H.lv hz0).mp (Lv.mid hz0 hzx h1)
          exfalso
          by_cases lt : i < j
          · exact nd _ lz ⟨i, j, lt, hj, r2, r1⟩
          · exact nd _ lz ⟨j, i, by omega, hp.head, r1, r2⟩
    exact go w x hw .refl .refl e
end
theorem grow_hom {c n : Nat} {f f' : Nat → Nat → Nat} {g g' : Nat → Bool} {v : Gr} (H : Hom c f g f' g') (hn : ∀ s, Rc f c 0 s → s < n) (G : GrowP f' c g' v) : GrowP f c g v := by
  obtain ⟨h, h0, hh⟩ := H
  have H : Hm c f f' g g' h := ⟨h0, fun r hr => (hh r hr).1, fun r hr => (hh r hr).2⟩
  have l0 : Lv f c g 0 ↔ Lv f' c g' 0 := by have := H.lv (r := 0) .refl; rwa [h0] at this
  cases v with
  | non => exact fun z => G (l0.mp z)
  | dbl =>
    obtain ⟨g1, r', g2, g3⟩ := G
    exact ⟨l0.mpr g1, H.dbl_up hn g2 g3⟩
  | ends m =>
    obtain ⟨g1, g2, g3, g4⟩ := G
    exact ⟨l0.mpr g1, fun r hr hp => g2 (h r) ((H.lv hr.1).mp hr) (H.pt hr.1 hp), H.acc.mpr g3, fun k hk => g4 k (H.acc.mp hk)⟩
  | pow d =>
    obtain ⟨g1, g2, g3, g4⟩ := G
    refine ⟨l0.mpr g1, fun r hr hd => g2 (h r) ((H.lv hr.1).mp hr) (H.dbl hr.1 hd), ?_, fun ⟨cs, e, hc, _⟩ => g4 ?_⟩
    · obtain ⟨cs, e, hc, _⟩ := g3
      cases cs with
      | nil => cases e
      | cons x cs =>
        obtain ⟨s, hs, es⟩ := H.lift (chl_head hc).1.1
        obtain ⟨t, cs2, k1, k2, k3, k4⟩ := H.chain_up hn cs x s hc hs es
        exact ⟨t :: cs2, by simp at e ⊢; omega, k3, fun z hz => by cases hz; exact hs.trans k1⟩
    · cases cs with
      | nil => cases e
      | cons x cs =>
        have := H.chain_down g2 cs x hc
        exact ⟨h x :: cs.map h, by simpa using e, this, fun z hz => by cases hz; exact ((H.lv (chl_head hc).1.1).mp (chl_head hc).1).1⟩
end DL
-- K73y
set_option Elab.async false
set_option linter.all false
set_option maxRecDepth 100000
set_option maxHeartbeats 2000000
set_option autoImplicit false
namespace DL
open PySem PySem.Spec L2
open PyProof.Rows hiding St
def okSb (b n : Nat) (d : D) : Bool := isPy d && (toPy d).canLay0 && decide ((toPy d).depth ≤ n) && (toPy d).showable && (toPy d).leavesShort 13 && decide ((toPy d).bulk ≤ b)
theorem okS_of {b n : Nat} {d : D} (h : okSb b n d = true) : OkS b n d := by
  unfold okSb at h
  simp only [Bool.and_eq_true, decide_eq_true_eq] at h
  obtain ⟨⟨⟨⟨⟨h1, h2⟩, h3⟩, h4⟩, h5⟩, h6⟩ := h
  exact ⟨h1, h2, h3, h4, h5, h6⟩
theorem gr_all {P : Gr → Bool} (h1 : P .non = true) (h2 : P .dbl = true) (h3 : ∀ m : Fin 61, P (.ends m) = true) (h4 : ∀ m : Fin 61, P (.pow m) = true) : ∀ v : Gr, v.val ≤ 60 → P v = true
  | .non, _ => h1
  | .dbl, _ => h2
  | .ends m, h => h3 ⟨m, Nat.lt_succ_of_le h⟩
  | .pow m, h => h4 ⟨m, Nat.lt_succ_of_le h⟩
theorem grD_okS : ∀ v : Gr, v.val ≤ 60 → OkS 40 1 (grD v) := fun v h => okS_of (gr_all (P := fun v => okSb 40 1 (grD v)) (by decide +kernel) (by decide +kernel) (by decide +kernel) (by decide +kernel) v h)
theorem grD_eq : ∀ v : Gr, v.val ≤ 60 → eqD (grD v) (grD v) = true := gr_all (P := fun v => eqD (grD v) (grD v)) (by decide +kernel) (by decide +kernel) (by decide +kernel) (by decide +kernel)
theorem OkS.okN {b n : Nat} {d : D} (h : OkS b n d) : OkN n d := ⟨h.py, h.lay, h.dep⟩
def gnm : Gr → Str
  | .non => "none"
  | .dbl => "doubles"
  | .ends _ => "ends"
  | .pow _ => "power"
theorem due0 {v : Gr} {Q : D → Prop} (h : Q (.str (gnm v))) : rdIx (grD v) (.int 0) Q := by
  cases v with
  | non => exact ⟨_, (atI_nat [D.str "none"] 0).trans rfl, h⟩
  | dbl => exact ⟨_, (atI_nat [D.str "doubles"] 0).trans rfl, h⟩
  | ends m => exact ⟨_, (atI_nat [D.str "ends", intD m] 0).trans rfl, h⟩
  | pow m => exact ⟨_, (atI_nat [D.str "power", intD m] 0).trans rfl, h⟩
theorem due1 {m : Nat} {Q : D → Prop} (h : Q (intD m)) : rdIx (grD (.ends m)) (.int 1) Q := ⟨_, (atI_nat [D.str "ends", intD m] 1).trans rfl, h⟩
theorem okEq_str (x : Str) (h : okSb 40 1 (.str x) = true := by decide +kernel) : OkEq (.str x) := ((okS_of h).okN).eq
theorem gnm_ok (v : Gr) : OkEq (.str (gnm v)) := by
  cases v with
  | non => exact okEq_str "none"
  | dbl => exact okEq_str "doubles"
  | ends m => exact okEq_str "ends"
  | pow m => exact okEq_str "power"
def isNonG : Gr → Bool
  | .non => true
  | _ => false
def isEnds : Gr → Bool
  | .ends _ => true
  | _ => false
theorem gnm_non (v : Gr) : eqD (.str (gnm v)) (.str "none") = isNonG v := by
  cases v with
  | non => show eqD (.str "none") (.str "none") = true; decide +kernel
  | dbl => show eqD (.str "doubles") (.str "none") = false; decide +kernel
  | ends m => show eqD (.str "ends") (.str "none") = false; decide +kernel
  | pow m => show eqD (.str "power") (.str "none") = false; decide +kernel
theorem gnm_ends (v : Gr) : eqD (.str (gnm v)) (.str "ends") = isEnds v := by
  cases v with
  | non => show eqD (.str "none") (.str "ends") = false; decide +kernel
  | dbl => show eqD (.str "doubles") (.str "ends") = false; decide +kernel
  | ends m => show eqD (.str "ends") (.str "ends") = true; decide +kernel
  | pow m => show eqD (.str "power") (.str "ends") = false; decide +kernel
theorem okR_two {b n : Nat} {x y : D} (hx : OkS b n x) (hy : OkS b n y) (hb : (b + 1) * 2 ≤ 2 ^ 20) (hn : n + 1 ≤ 60) : OkR (.lst [x, y]) :=
  (okS_lst (m := 2) (fun z hz => by
    simp only [List.mem_cons, List.not_mem_nil, or_false] at hz
    rcases hz with rfl | rfl
    · exact hx
    · exact hy) (by simp)).okR hb hn
theorem growth_of {a : Ad} {c : Nat} {T : List (List Nat)} {g : List Bool} {v : Gr} (ok : OkM c T g) (hv : GrowM c T g v) {Q : D → Prop} {E : EX} (h : Q (grD v)) : sp_growth a [mchD a c T g] Q E :=
  ⟨c, T, g, rfl, ok, fun u hu _ => by rw [grow_one hu hv]; exact h⟩
theorem zero_sum {ns : List Nat} (h : ∀ n ∈ ns, n = 0) : ns.sum = 0 := by
  induction ns with
  | nil => rfl
  | cons x ns ih => rw [List.sum_cons, h x List.mem_cons_self, ih fun n hn => h n (List.mem_cons_of_mem _ hn)]
theorem due_cmp {v : Gr} {Δ : List Sl} {E : EX} {x : Str} (h7 : Δ[7]? = some (.im (grD v))) (hx : OkEq (.str x)) {QQ : Bool → List Sl → Prop} (h : QQ (eqD (.str (gnm v)) (.str x)) Δ) : dCmpT rdEq (dO (dIx (dB 7) (dO (dC (.int 0))))) (dO (dC (.str x))) Δ QQ E := by
  simp only [sDCmpT, sDO, sDIx, sDB, sDC, sResR, sResL, h7]
  refine ⟨⟨_, _, rfl, rfl⟩, _, _, rfl, rfl, due0 ⟨_, _, rfl, rfl, ?_⟩⟩
  rw [sEq]
  exact ⟨gnm_ok v, hx, h⟩
abbrev lwB (a : Ad) : DTS := (dSeq (dPar2 6 7 (dConsM (dIm (dMake a.Machine (sp_Machine___init__ a) (dCons (dIx (dB 4) (dO (dC (.int 0)))) (dCons (dIx (dB 4) (dO (dC (.int 1)))) (dCons (dIx (dB 4) (dO (dC (.int 2)))) dNil))))) (dConsM (dIm (dFn (sp__law_growth a) (dCons (dVar 4) dNil))) dNilM)))
  (dSeq (dIfS (dOr (dCmpT rdNeS (dO (dClean (dBlt rdRepr (dConsO (dO (dClean (dLst (dCons (dFn (sp_growth a) (dCons (dVar 6) dNil)) (dCons (dFnW (sp_growth a) 0 1 [0] dNil (dCons (dVar 6) dNil)) dNil))))) dNilO)))) (dO (dClean (dBlt rdRepr (dConsO (dO (dClean (dLst (dCons (dVar 7) (dCons (dVar 7) dNil))))) dNilO))))) (dCmpT rdNe (dO (dFn (sp_growth a) (dCons (dFn (sp_least a) (dCons (dVar 6) dNil)) dNil))) (dB 7)))
  (dRet (dC (.bl false)))
  dNext)
  (dSeq (dSet 5 (dFn (sp__law_counts a) (dCons (dVar 4) (dCons (dC (.int 61)) dNil))))
  (dSeq (dIfS (dOr (dAnd (dCmpT rdEq (dO (dIx (dB 7) (dO (dC (.int 0))))) (dO (dC (.str "none")))) (dCmpT rdGt (dO (dClean (dBlt rdSum (dConsO (dB 5) dNilO)))) (dO (dC (.int 0))))) (dAnd (dCmpT rdEq (dO (dIx (dB 7) (dO (dC (.int 0))))) (dO (dC (.str "ends")))) (dIfT (dCmpT rdLt (dO (dIx (dB 7) (dO (dC (.int 1))))) (dO (dC (.int 61)))) (dCmpT rdEq (dO (dIx (dB 5) (dO (dIx (dB 7) (dO (dC (.int 1))))))) (dO (dC (.int 0)))) (dTst (dC (.bl false))))))
  (dRet (dC (.bl false)))
  dNext)
  (dIfS (dAnd (dCmpT rdEq (dO (dIx (dB 7) (dO (dC (.int 0))))) (dO (dC (.str "ends")))) (dCmpT rdGt (dO (dClean (dBlt rdSum (dConsO (dO (dClean (dSl (dB 5) (dPart (dO (dClean (dOpM rdAdd (dO (dIx (dB 7) (dO (dC (.int 1))))) (dO (dC (.int 1))))))) dNoPart))) dNilO)))) (dO (dC (.int 0)))))
  (dRet (dC (.bl false)))
  dNext)))))
theorem law_turn {a : Ad} {N : DEnds} {E : EX} {c : Nat} {T : List (List Nat)} {g : List Bool} {s0 s1 s2 s3 s5 s6 s7 : Sl} (ok : OkM c T g)
    (h : ∀ s5 s6 s7, N.nx [s0, s1, s2, s3, .im (planD c T g), s5, s6, s7]) : lwB a N [s0, s1, s2, s3, .im (planD c T g), s5, s6, s7] E := by
  have z2 : 2 ≤ sizeLine := by rw [sizeLine_eq]; omega
  refine seqN fun M1 m1 _ _ _ => ?_
  simp
  refine plan_0 (plan_1 (plan_2 ?_))
  refine ⟨c, T, g, rfl, ok, c, T, g, rfl, ok, fun v hv hv60 => ⟨_, _, ⟨rfl, rfl⟩, m1 _ ?_⟩⟩
  have okS := grD_okS v hv60
  have okr := okR_two okS okS (by decide) (by decide)
  have okeq : OkEq (grD v) := okS.okN.eq
  refine seqN fun M2 m2 _ _ _ => ifN (b := false) (fun QT q => ?_) (fun z => by cases z) fun _ => m2 _ ?_
  · show dOr _ _ [s0, s1, s2, s3, .im (planD c T g), s5, .im (mchD a c T g), .im (grD v)] QT E
    simp
    refine growth_of ok hv ?_
    simp [pick]
    refine growth_of ok hv ?_
    simp [z2, okr]
    refine ⟨c, T, g, rfl, ok, fun T' g' ok' hl hom _ => ?_⟩
    refine ⟨c, T', g', rfl, ok', fun u hu _ => ?_⟩
    have hu2 : GrowM c T g u := grow_hom hom (fun s hs => lv_lt ok.t hs) hu
    obtain rfl := grow_one hu2 hv
    simp [okeq, grD_eq _ hv60]
    exact q
  · refine seqN fun M3 m3 _ _ _ => ?_
    show dSet _ _ _ [s0, s1, s2, s3, .im (planD c T g), s5, .im (mchD a c T g), .im (grD v)] E
    simp only [sDSet, sFn, sDCons, sDNil, sDVar, sDC]
    refine ⟨_, _, rfl, rfl, c, T, g, 61, rfl, ok, by omega, fun ns hns hacc => m3 _ ?_⟩
    have zer : ∀ k, k < 61 → ¬ Acc (nx T) c (gdb g) k → ns.getD k 0 = 0 := fun k hk hn => by
      have := (hacc k hk)
      by_cases e : 0 < ns.getD k 0
      · exact absurd (this.mp e) hn
      · omega
    refine seqN fun M4 m4 _ _ _ => ifN (b := false) (fun QT q => ?_) (fun z => by cases z) fun _ => m4 _ ?_
    · show dOr _ _ [s0, s1, s2, s3, .im (planD c T g), .im (.lst (ns.map intD)), .im (mchD a c T g), .im (grD v)] QT E
      rw [sDOr, sDAnd]
      refine due_cmp rfl (okEq_str "none") ?_
      rw [gnm_non]
      have tail : isEnds v = false → dAnd (dCmpT rdEq (dO (dIx (dB 7) (dO (dC (.int 0))))) (dO (dC (.str "ends")))) (dIfT (dCmpT rdLt (dO (dIx (dB 7) (dO (dC (.int 1))))) (dO (dC (.int 61)))) (dCmpT rdEq (dO (dIx (dB 5) (dO (dIx (dB 7) (dO (dC (.int 1))))))) (dO (dC (.int 0)))) (dTst (dC (.bl false)))) [s0, s1, s2, s3, .im (planD c T g), .im (.lst (ns.map intD)), .im (mchD a c T g), .im (grD v)] QT E := fun he => by
        rw [sDAnd]
        refine due_cmp rfl (okEq_str "ends") ?_
        rw [gnm_ends, he, if_neg (by simp)]
        exact q
      cases v with
      | non =>
        rw [show isNonG .non = true from rfl, if_pos rfl]
        have hz : ns.sum = 0 := zero_sum fun n hn => by
          obtain ⟨k, hk, e⟩ := List.getElem_of_mem hn
          have := zer k (by omega) fun ⟨w, hw, _, hg⟩ => hv ⟨.refl, _, ⟨w, hw, rfl⟩, hg⟩
          rw [List.getD_eq_getElem?_getD, List.getElem?_eq_getElem hk] at this
          rw [← e]; exact this
        simp only [sDCmpT, sDO, sDClean, sDBlt, sDConsO, sDB, sDNilO, sDC, sResR, sResL]
        refine ⟨⟨_, _, rfl, rfl⟩, [.lst (ns.map intD)], rfl, ?_⟩
        rw [sSum1]
        refine ⟨ns.map Int.ofNat, by rw [List.map_map]; rfl, _, rfl, _, _, rfl, rfl, ?_⟩
        rw [sum_nat, hz]
        exact tail rfl
      | dbl => rw [show isNonG .dbl = false from rfl, if_neg (by simp), if_neg (by simp)]; exact tail rfl
      | pow d => rw [show isNonG (.pow d) = false from rfl, if_neg (by simp), if_neg (by simp)]; exact tail rfl
      | ends d =>
        have hd60 : d ≤ 60 := hv60
        rw [show isNonG (.ends d) = false from rfl, if_neg (by simp), if_neg (by simp), sDAnd]
        refine due_cmp rfl (okEq_str "ends") ?_
        rw [gnm_ends, show isEnds (.ends d) = true from rfl, if_pos rfl]
        have hpos := (hacc d (by omega)).mpr hv.2.2.1
        simp only [sIfT, sDCmpT, sDO, sDIx, sDB, sDC, sResR, sResL]
        refine ⟨⟨_, _, rfl, rfl⟩, _, _, rfl, rfl, due1 ⟨_, _, rfl, rfl, ?_⟩⟩
        show (fun b => if b = true then _ else _) (decide ((d : Int) < 61))
        rw [decide_eq_true (show (d : Int) < 61 by omega)]
        show (if true = true then _ else _)
        rw [if_pos rfl]
        refine ⟨⟨_, _, rfl, rfl⟩, ⟨_, _, rfl, rfl⟩, _, _, rfl, rfl, due1 ⟨_, _, rfl, rfl, ?_⟩⟩
        show rdIx (.lst (ns.map intD)) (.int (d : Int)) _
        rw [sIxL]
        refine ⟨_, at_nats (by omega), _, _, rfl, rfl, okEq_nat _, okEq_int _, ?_⟩
        have e0 : eqD (intD (ns.getD d 0)) (.int 0) = false := by
          show eqD (.int ((ns.getD d 0 : Nat) : Int)) (.int 0) = false
          rw [eqD_int]
          exact decide_eq_false (by omega)
        rw [e0]
        exact q
    · show dIfS _ _ _ _ [s0, s1, s2, s3, .im (planD c T g), .im (.lst (ns.map intD)), .im (mchD a c T g), .im (grD v)] E
      refine ifN (b := false) (fun QT q => ?_) (fun z => by cases z) fun _ => h _ _ _
      rw [sDAnd]
      refine due_cmp rfl (okEq_str "ends") ?_
      rw [gnm_ends]
      cases v with
      | non => exact q
      | dbl => exact q
      | pow d => exact q
      | ends d =>
        have hd60 : d ≤ 60 := hv60
        rw [show isEnds (.ends d) = true from rfl, if_pos rfl]
        have hz : (ns.drop (d + 1)).sum = 0 := zero_sum fun n hn => by
          obtain ⟨k, hk, e⟩ := List.getElem_of_mem hn
          rw [List.getElem_drop] at e
          rw [List.length_drop] at hk
          have := zer (d + 1 + k) (by omega) fun hA => by have := hv.2.2.2 _ hA; omega
          rw [List.getD_eq_getElem?_getD, List.getElem?_eq_getElem (by omega)] at this
          rw [← e]; exact this
        simp only [sDCmpT, sDO, sDClean, sDBlt, sDConsO, sDSl, sPart, sNoPart, sDOpM, sDIx, sDB, sDNilO, sDC, sResR, sResL]
        refine ⟨⟨_, _, rfl, rfl⟩, ⟨_, _, rfl, rfl⟩, _, _, rfl, rfl, due1 ⟨_, _, rfl, rfl, ?_⟩⟩
        show rdAdd (.int (d : Int)) (.int 1) _
        rw [sAddI]
        refine ⟨_, rfl, _, rfl, _, rfl, ?_⟩
        rw [sSlL, show ((d : Int) + 1) = ((d + 1 : Nat) : Int) by omega, cut_from, ← List.map_drop]
        refine ⟨_, rfl, [.lst ((ns.drop (d + 1)).map intD)], rfl, ?_⟩
        rw [sSum1]
        refine ⟨(ns.drop (d + 1)).map Int.ofNat, by rw [List.map_map]; rfl, _, rfl, _, _, rfl, rfl, ?_⟩
        rw [sum_nat, hz]
        exact q
theorem lv0 {c : Nat} {f : Nat → Nat → Nat} {g : Nat → Bool} (h : g 0 = true) : Lv f c g 0 := ⟨.refl, 0, .refl, h⟩
theorem grow_1 : GrowM 1 [[0, 1], [1, 2], [2, 2]] [true, true, true] .dbl := ⟨lv0 rfl, 2, ⟨⟨[1, 1], by intro i hi; simp at hi; omega, rfl⟩, 2, .refl, rfl⟩, 0, 1, by omega, by omega, ⟨[], .nil, rfl⟩, ⟨[], .nil, rfl⟩⟩
theorem grow_2 : GrowM 1 [[0, 0]] [true] .dbl := ⟨lv0 rfl, 0, lv0 rfl, 0, 1, by omega, by omega, ⟨[], .nil, rfl⟩, ⟨[], .nil, rfl⟩⟩
theorem two_run : ∀ (w : List Nat), Inks 1 w → run (nx [[1, 1], [1, 1]]) 1 w = 1
  | [], _ => rfl
  | i :: w, hw => by
    have hi := hw.head
    have e : nx [[1, 1], [1, 1]] 1 i = 1 := by
      rcases (by omega : i = 0 ∨ i = 1) with rfl | rfl <;> rfl
    rw [run_cons, e]
    exact two_run w hw.tail
theorem grow_3 : GrowM 1 [[1, 1], [1, 1]] [true, false] (.ends 0) := by
  have step0 : ∀ i, i ≤ 1 → nx [[1, 1], [1, 1]] 0 i = 1 := fun i hi => by
    rcases (by omega : i = 0 ∨ i = 1) with rfl | rfl <;> rfl
  have one : ∀ q, Rc (nx [[1, 1], [1, 1]]) 1 1 q → q = 1 := fun q ⟨w, hw, e⟩ => by rw [← e]; exact two_run w hw
  refine ⟨lv0 rfl, fun r hr hp => ?_, ⟨[], .nil, rfl, rfl⟩, fun k ⟨w, hw, hl, hg⟩ => ?_⟩
  · obtain ⟨h0, q, hq, hg⟩ := hr
    rcases h0.cases with e | ⟨i, hi, h1⟩
    · subst e
      obtain ⟨i, hi, h1⟩ := hp
      rw [step0 i hi] at h1
      have := one _ h1
      omega
    · rw [step0 i hi] at h1
      have e1 := one _ h1
      subst e1
      have e2 := one _ hq
      subst e2
      cases hg
  · cases w with
    | nil => simp at hl; omega
    | cons i w =>
      rw [run_cons, step0 i hw.head, two_run w hw.tail] at hg
      cases hg
theorem run_law (a : Ad) (ns : List Int) (Q : D → Prop) (E : EX) (hq : Q (.bl true)) : sem_law a { nx := fun _ => Q .non, rt := Q } [.im (.scr ns), .im .drw, .un, .un, .un, .un, .un, .un] E := by
  unfold sem_law
  have z1 : 1 ≤ sizeLine := by rw [sizeLine_eq]; omega
  have z2 : 2 ≤ sizeLine := by rw [sizeLine_eq]; omega
  have z3 : 3 ≤ sizeLine := by rw [sizeLine_eq]; omega
  refine seqN fun M1 m1 r1 _ _ => ?_
  simp
  refine ⟨by split <;> omega, by split <;> omega, ?_⟩
  refine forRN (fun i Δ => ∃ s2 s4 s5 s6 s7, Δ = [.im (.scr ns), .im .drw, s2, .un, s4, s5, s6, s7]) ⟨_, _, _, _, _, rfl⟩ ?_ ?_
  · rintro i Δ2 hi ⟨s2, s4, s5, s6, s7, rfl⟩ M2 m2 _ _ _
    simp only [sDgName]
    refine seqN fun M3 m3 _ _ _ => ?_
    have fin : ∀ c T g, OkM c T g → M3.nx [.im (.scr ns), .im .drw, .im (.int (0 + (i : Int))), .un, .im (planD c T g), s5, s6, s7] := fun c T g ok => m3 _ (law_turn ok fun s5 s6 s7 => m2 _ ⟨_, _, _, _, _, rfl⟩)
    have fin' : ∀ c T g, OkM c T g → M3.nx [.im (.scr ns), .im .drw, .im (.int (i : Int)), .un, .im (planD c T g), s5, s6, s7] := fun c T g ok => by
      have := fin c T g ok
      rwa [Int.zero_add] at this
    simp [sp__law_pick, sp__law_plan, sp__law_chain, z3]
    have each : ∀ m : Nat, 1 ≤ m → m ≤ 60 → ∀ (x : Int), x = (m : Int) → ∃ m : Nat, x = (m : Int) ∧ 1 ≤ m ∧ m ≤ 60 ∧ ∀ (c : Nat) (T : List (List Nat)) (g : List Bool), OkM c T g → T.length ≤ max 5 m → ∃ m : Nat, (6 : Int) = (m : Int) ∧ 1 ≤ m ∧ m ≤ 60 ∧ ∀ (c_1 : Nat) (T_1 : List (List Nat)) (g_1 : List Bool), OkM c_1 T_1 g_1 → T_1.length ≤ max 5 m → ∀ (c_2 : Nat) (T_2 : List (List Nat)) (g_2 : List Bool), OkM c_2 T_2 g_2 →
        M3.nx [Sl.im (D.scr ns), Sl.im D.drw, Sl.im (D.int (i : Int)), Sl.un, Sl.im (planD c T g), s5, s6, s7] ∧ M3.nx [Sl.im (D.scr ns), Sl.im D.drw, Sl.im (D.int (i : Int)), Sl.un, Sl.im (planD c_1 T_1 g_1), s5, s6, s7] ∧ M3.nx [Sl.im (D.scr ns), Sl.im D.drw, Sl.im (D.int (i : Int)), Sl.un, Sl.im (planD c_2 T_2 g_2), s5, s6, s7] := fun m h1 h2 x e => by
      refine ⟨m, e, h1, h2, fun c T g ok _ => ⟨6, rfl, by omega, by omega, fun c1 T1 g1 ok1 _ c2 T2 g2 ok2 => ⟨fin' c T g ok, fin' c1 T1 g1 ok1, fin' c2 T2 g2 ok2⟩⟩⟩
    exact ⟨each 6 (by omega) (by omega) _ rfl, each 12 (by omega) (by omega) _ rfl, each 60 (by omega) (by omega) _ rfl⟩
  · rintro Δ ⟨s2, s4, s5, s6, s7, rfl⟩
    refine m1 _ ?_
    refine seqN fun M4 m4 r4 _ _ => ?_
    have ok1 : OkM 1 [[0, 1], [1, 2], [2, 2]] [true, true, true] := ⟨by decide, by decide, ⟨by decide, by decide, by decide⟩, by decide⟩
    have ok2 : OkM 1 [[0, 0]] [true] := ⟨by decide, by decide, ⟨by decide, by decide, by decide⟩, by decide⟩
    have ok3 : OkM 1 [[1, 1], [1, 1]] [true, false] := ⟨by decide, by decide, ⟨by decide, by decide, by decide⟩, by decide⟩
    simp [z1, z2, z3]
    refine ⟨1, _, _, rfl, ok1, ?_⟩
    refine growth_of ok1 grow_1 ?_
    refine ⟨1, _, _, rfl, ok2, ?_⟩
    refine growth_of ok2 grow_2 (m4 _ ?_)
    simp [z1, z2, z3]
    refine ⟨1, _, _, rfl, ok3, ?_⟩
    refine growth_of ok3 grow_3 ?_
    have okr : OkR (.lst [grD .dbl, grD .dbl, grD (.ends 0)]) := (okS_of (b := 200) (n := 2) (by decide +kernel)).okR (by decide) (by decide)
    refine ⟨okr, okr, ?_⟩
    have e : txt (.lst [grD .dbl, grD .dbl, grD (.ends 0)]) = txt (.lst [.tup [.str "doubles"], .tup [.str "doubles"], .tup [.str "ends", .int 0]]) := rfl
    rw [e, decide_eq_true rfl]
    exact hq
end DL
-- K73z
set_option Elab.async false
set_option linter.all false
set_option maxRecDepth 100000
set_option maxHeartbeats 2000000
set_option autoImplicit false
namespace DL
open PySem PySem.Spec L2
open PyProof.Rows hiding St
/-! ### _law_begun -/
abbrev st__law_begun : Stmt := top 28
abbrev N__law_begun : List Str := ["script", "large", "cell"]
theorem sc__law_begun : FnScope N__law_begun ["script"] (defScope st__law_begun) := ⟨rfl, rfl, rfl, by decide +kernel, rfl, by decide +kernel, by decide +kernel⟩
theorem body__law_begun {P : Program} {w : World} {K : PySem.W.Frag} {mg : Str → Option Value} {base : Heap} {f : Addr} (hm : mg "abs" = none) {cdv : Value} {A : Around} {outer : List Env} {s : Shared} {H : Hp} {E : XK} :
    PSs (cxB P w K mg base N__law_begun "_law_begun" st__law_begun f cdv A outer s H E) (defBody st__law_begun) (t_begun K) :=
  have sc := sc__law_begun
  have ab : ∀ {Y : Cx} {p1 p2 p3 : Pos}, Y.mg = mg → Y.N = N__law_begun → Gl Y "abs" → Vis Y.env.scope "cell" → starEach [(.Name "cell" p1 : Expr)] Y.env = (false, eval (.Name "cell" p1) Y.env) :: starEach [] Y.env → PE Y (.Call (.Name "abs" p2) [.Name "cell" p1] [] p3) tAbs := fun e1 e2 e3 e4 e5 =>
    pe_callB call_abs e3 (by rw [e1]; exact hm) (by decide +kernel) (pa_cons (pe_var (i := 2) (by rw [e2]; rfl) e4 (by decide) (by decide)) pa_nil e5)
  pss_cons (ps_setLc (i := 1) (own := [("cell", 2)]) rfl sc.nd rfl rfl (sw_true rfl rfl rfl (by decide +kernel)) (pi_list (pe_var (i := 0) rfl (.inl rfl) (by decide) (by decide))) (blkOk_by (by rfl))
    (fun _ _ _ _ _ => pg_name (i := 2) sc.nd rfl (.inl rfl))
    (fun _ _ _ _ _ => pts_one (pt_cmpR op_ge (ab rfl rfl rfl (.inl rfl) rfl) (pe_op op_pow pe_int pe_int) (nomark _)))
    (fun _ _ _ _ _ => pe_op op_sub (ab rfl rfl rfl (.inl rfl) rfl) (pe_op op_pow pe_int pe_int)))
  (pss_one (ps_ret (pe_disp (pps_cons pe_str (pe_var (i := 1) rfl (.inl rfl) (by decide) (by decide)) (pps_cons pe_str pe_int (pps_cons pe_str (pe_lc (own := [("cell", 2)]) rfl sc.nd (pi_list (pe_var (i := 0) rfl (.inl rfl) (by decide) (by decide))) (blkOk_by (by rfl))
    (fun _ _ _ _ _ => pg_name (i := 2) sc.nd rfl (.inl rfl)) (fun _ _ _ _ _ => pts_nil) (fun _ _ _ _ _ => ab rfl rfl rfl (.inl rfl) rfl)) (pps_cons pe_str pe_int pps_nil)))) rfl rfl (by simp) (by decide))))

theorem fn_okC {P : Program} {w : World} {K : PySem.W.Frag} {mg : Str → Option Value} {base : Heap} {x qual : Str} {st : Stmt} {f : Addr} {fd : FuncData} {N ps : List Str} {k : Nat} {sp : SpD} {dvs : List V} {kws : List (Str × V)} (W : Wd K) (F : FunD K x qual (defArgs st) (defBody st) (defScope st) dvs kws f fd) (S : FnScope N ps (defScope st))
    (hlen : ∀ ds Q E, sp ds Q E → ds.length = ps.length)
    (hbody : ∀ (cdv : Value) (A : Around) (outer : List Env) (s : Shared) (H B : Hp) (E : XK) (Ed : EX) (hE : ∀ C H' B', Ed C → Grow W H B H' B' → E (.ref C) none H'), fd.code = cdv → Room k (A.deeper (envOfC qual (defScope st) s.heap.objs.size f cdv)) →
      ∃ t : DTS, PSs (cxB P w K mg base N qual st f cdv A outer s H E) (defBody st) (upS (⟨W, H, B, E, Ed, hE⟩ : Gx K) t) ∧ ∀ ds Q E, sp ds Q E → t { nx := fun _ => Q .non, rt := Q } (startD N.length ds) E) : FnOk P w K mg base (L2.CX P w) (k + 1) f fd ps (upSp W sp) := by
  refine fund_okC F (CX := L2.CX P w) S (fun vs H Q E ⟨B, ds, Qd, Ed, g, r, h, _⟩ => r.length.trans (hlen _ _ _ h)) fun cdv A outer s H vs Q E hcd hr ⟨B, ds, Qd, Ed, g, r, h, k1, k2⟩ => ?_
  obtain ⟨t, h1, h2⟩ := hbody cdv A outer s H B E Ed k2 hcd hr
  exact ⟨_, h1, startD N.length ds, B, _, ⟨g, _, Sls.start r⟩, h2 _ _ _ h, fun Δ' σ' H' B' q r' sb => k1 .non .non H' B' q r'.gr .non, fun _ _ _ _ q => q.elim, fun _ _ _ _ q => q.elim, fun d v H' B' q g' sb rp => k1 d v H' B' q g' rp⟩
end DL
-- K73ya
set_option Elab.async false
set_option linter.all false
set_option maxRecDepth 100000
set_option maxHeartbeats 2000000
set_option autoImplicit false
namespace DL
open PySem PySem.Spec L2
open PyProof.Rows hiding St
/-! ### the head: facts by names, the run -/
def dD_live_rooms : He.DefD := ⟨("live_rooms", none), "live_rooms", "live_rooms", defArgs st_live_rooms, defBody st_live_rooms, defScope st_live_rooms, [], []⟩
def dD_goals_from : He.DefD := ⟨("goals_from", none), "goals_from", "goals_from", defArgs st_goals_from, defBody st_goals_from, defScope st_goals_from, [], []⟩
def dD_back_goals : He.DefD := ⟨("back_goals", none), "back_goals", "back_goals", defArgs st_back_goals, defBody st_back_goals, defScope st_back_goals, [], []⟩
def dD_rings_from : He.DefD := ⟨("rings_from", none), "rings_from", "rings_from", defArgs st_rings_from, defBody st_rings_from, defScope st_rings_from, [], []⟩
def dD_longest : He.DefD := ⟨("longest", none), "longest", "longest", defArgs st_longest, defBody st_longest, defScope st_longest, [], []⟩
def dD_growth : He.DefD := ⟨("growth", none), "growth", "growth", defArgs st_growth, defBody st_growth, defScope st_growth, [], []⟩
def dD_is_between : He.DefD := ⟨("is_between", none), "is_between", "is_between", defArgs st_is_between, defBody st_is_between, defScope st_is_between, [], []⟩
def dD_is_table : He.DefD := ⟨("is_table", none), "is_table", "is_table", defArgs st_is_table, defBody st_is_table, defScope st_is_table, [], []⟩
def dD_are_truths : He.DefD := ⟨("are_truths", none), "are_truths", "are_truths", defArgs st_are_truths, defBody st_are_truths, defScope st_are_truths, [], []⟩
def dD_Machine___init__ : He.DefD := ⟨("Machine", some "__init__"), "__init__", "Machine.__init__", defArgs st_Machine___init__, defBody st_Machine___init__, defScope st_Machine___init__, [], []⟩
def dD_explored : He.DefD := ⟨("explored", none), "explored", "explored", defArgs st_explored, defBody st_explored, defScope st_explored, [], []⟩
def dD_kinds_of : He.DefD := ⟨("kinds_of", none), "kinds_of", "kinds_of", defArgs st_kinds_of, defBody st_kinds_of, defScope st_kinds_of, [], []⟩
def dD_shrunk : He.DefD := ⟨("shrunk", none), "shrunk", "shrunk", defArgs st_shrunk, defBody st_shrunk, defScope st_shrunk, [], []⟩
def dD_least : He.DefD := ⟨("least", none), "least", "least", defArgs st_least, defBody st_least, defScope st_least, [], []⟩
def dD__law_mixed : He.DefD := ⟨("_law_mixed", none), "_law_mixed", "_law_mixed", defArgs st__law_mixed, defBody st__law_mixed, defScope st__law_mixed, [], []⟩
def dD__law_take : He.DefD := ⟨("_law_take", none), "_law_take", "_law_take", defArgs st__law_take, defBody st__law_take, defScope st__law_take, [], []⟩
def dD__law_pick : He.DefD := ⟨("_law_pick", none), "_law_pick", "_law_pick", defArgs st__law_pick, defBody st__law_pick, defScope st__law_pick, [], []⟩
def dD__law_table : He.DefD := ⟨("_law_table", none), "_law_table", "_law_table", defArgs st__law_table, defBody st__law_table, defScope st__law_table, [], []⟩
def dD__law_plan : He.DefD := ⟨("_law_plan", none), "_law_plan", "_law_plan", defArgs st__law_plan, defBody st__law_plan, defScope st__law_plan, [], []⟩
def dD__law_counts : He.DefD := ⟨("_law_counts", none), "_law_counts", "_law_counts", defArgs st__law_counts, defBody st__law_counts, defScope st__law_counts, [], []⟩
def dD__law_after : He.DefD := ⟨("_law_after", none), "_law_after", "_law_after", defArgs st__law_after, defBody st__law_after, defScope st__law_after, [], []⟩
def dD__law_growth : He.DefD := ⟨("_law_growth", none), "_law_growth", "_law_growth", defArgs st__law_growth, defBody st__law_growth, defScope st__law_growth, [], []⟩
def dD__law_chain : He.DefD := ⟨("_law_chain", none), "_law_chain", "_law_chain", defArgs st__law_chain, defBody st__law_chain, defScope st__law_chain, [], []⟩
def dD__law_begun : He.DefD := ⟨("_law_begun", none), "_law_begun", "_law_begun", defArgs st__law_begun, defBody st__law_begun, defScope st__law_begun, [], []⟩
def dD_law : He.DefD := ⟨("law", none), "law", "law", defArgs st_law, defBody st_law, defScope st_law, [], []⟩
def fnK : List He.DefD := [dD_live_rooms, dD_goals_from, dD_back_goals, dD_rings_from, dD_longest, dD_growth, dD_is_between, dD_is_table, dD_are_truths, dD_Machine___init__, dD_explored, dD_kinds_of, dD_shrunk, dD_least, dD__law_mixed, dD__law_take, dD__law_pick, dD__law_table, dD__law_plan, dD__law_counts, dD__law_after, dD__law_growth, dD__law_chain, dD__law_begun, dD_law]
def faK : List He.Fa := [.glo "live_rooms", .glo "goals_from", .glo "back_goals", .glo "rings_from", .glo "longest", .glo "growth", .glo "is_between", .glo "is_table", .glo "are_truths", .glo "explored", .glo "kinds_of", .glo "shrunk", .glo "least", .glo "_law_mixed", .glo "_law_take", .glo "_law_pick", .glo "_law_table", .glo "_law_plan", .glo "_law_counts", .glo "_law_after", .glo "_law_growth", .glo "_law_chain", .glo "_law_begun", .glo "law", .glo "NoMachine", .glo "TooMany", .glo "Machine", .free "isinstance", .free "int", .free "bool", .free "tuple", .free "dict", .free "len", .free "all", .free "any", .free "range", .free "sorted", .free "set", .free "abs", .free "min", .free "max", .free "sum", .free "repr", .free "enumerate", .int "MOST_ROOMS" 60, .int "MOST_PAINTS" 4, .cls "Machine", .mkr "Machine", .noat "Machine" "colours", .noat "Machine" "table", .noat "Machine" "good", .exc "NoMachine", .exc "TooMany"]
def exK (K : PySem.W.Frag) : Bool := decide ((He.cT K ("shrunk", none)).2 ≠ (He.cT K ("least", none)).2)
def tfK : List He.Defn := [("shrunk", none), ("least", none)]
def tqK (p : He.Defn) : Str := if p = (("shrunk", none) : He.Defn) then (envOfC "shrunk" (defScope st_shrunk) 0 0 .none).qual ++ "<lambda>" else if p = (("least", none) : He.Defn) then (envOfC "least" (defScope st_least) 0 0 .none).qual ++ "<lambda>" else ""
theorem tqK_shrunk : tqK ("shrunk", none) = (envOfC "shrunk" (defScope st_shrunk) 0 0 .none).qual ++ "<lambda>" := by
  unfold tqK
  rw [if_pos rfl]
theorem tqK_least : tqK ("least", none) = (envOfC "least" (defScope st_least) 0 0 .none).qual ++ "<lambda>" := by
  unfold tqK
  rw [if_neg (by decide), if_pos rfl]
def adK (K : PySem.W.Frag) : Ad := { NoMachine := He.ga K "NoMachine", TooMany := He.ga K "TooMany", Machine := He.ga K "Machine" }
theorem facts {w : World} {K : PySem.W.Frag} {h : Heap} {mg : Str → Option Value} (X : K.In h) (G : h.Ns mainGlobals mg) (c : He.SaysX faK fnK [] tfK exK w h K) : Txt K mg (adK K) := by
  have d := c.t.d
  exact {
    z_isinstance := He.free_ok X G (d.fact 27 (f := .free "isinstance") rfl)
    z_int := He.free_ok X G (d.fact 28 (f := .free "int") rfl)
    z_bool := He.free_ok X G (d.fact 29 (f := .free "bool") rfl)
    z_tuple := He.free_ok X G (d.fact 30 (f := .free "tuple") rfl)
    z_dict := He.free_ok X G (d.fact 31 (f := .free "dict") rfl)
    z_len := He.free_ok X G (d.fact 32 (f := .free "len") rfl)
    z_all := He.free_ok X G (d.fact 33 (f := .free "all") rfl)
    z_any := He.free_ok X G (d.fact 34 (f := .free "any") rfl)
    z_range := He.free_ok X G (d.fact 35 (f := .free "range") rfl)
    z_sorted := He.free_ok X G (d.fact 36 (f := .free "sorted") rfl)
    z_set := He.free_ok X G (d.fact 37 (f := .free "set") rfl)
    z_abs := He.free_ok X G (d.fact 38 (f := .free "abs") rfl)
    z_min := He.free_ok X G (d.fact 39 (f := .free "min") rfl)
    z_max := He.free_ok X G (d.fact 40 (f := .free "max") rfl)
    z_sum := He.free_ok X G (d.fact 41 (f := .free "sum") rfl)
    z_repr := He.free_ok X G (d.fact 42 (f := .free "repr") rfl)
    z_enumerate := He.free_ok X G (d.fact 43 (f := .free "enumerate") rfl)
    g_MOST_ROOMS := (He.int_ok X G (d.fact 44 (f := .int "MOST_ROOMS" 60) rfl)).elim fun t e => ⟨_, e, ⟨t, rfl⟩⟩
    g_MOST_PAINTS := (He.int_ok X G (d.fact 45 (f := .int "MOST_PAINTS" 4) rfl)).elim fun t e => ⟨_, e, ⟨t, rfl⟩⟩
    g_Machine := He.glo_ok X G (d.fact 26 (f := .glo "Machine") rfl)
    f_Machine_colours := fun C e => by subst e; exact ⟨He.cls_ok (d.fact 46 (f := .cls "Machine") rfl), He.noat_ok (d.fact 48 (f := .noat "Machine" "colours") rfl)⟩
    f_Machine_table := fun C e => by subst e; exact ⟨He.cls_ok (d.fact 46 (f := .cls "Machine") rfl), He.noat_ok (d.fact 49 (f := .noat "Machine" "table") rfl)⟩
    f_Machine_good := fun C e => by subst e; exact ⟨He.cls_ok (d.fact 46 (f := .cls "Machine") rfl), He.noat_ok (d.fact 50 (f := .noat "Machine" "good") rfl)⟩
    e_NoMachine := ⟨(He.exc_ok (d.fact 51 (f := .exc "NoMachine") rfl)).1, He.glo_ok X G (d.fact 24 (f := .glo "NoMachine") rfl), (He.exc_ok (d.fact 51 (f := .exc "NoMachine") rfl)).2.1, (He.exc_ok (d.fact 51 (f := .exc "NoMachine") rfl)).2.2.1, (He.exc_ok (d.fact 51 (f := .exc "NoMachine") rfl)).2.2.2⟩
    e_TooMany := ⟨(He.exc_ok (d.fact 52 (f := .exc "TooMany") rfl)).1, He.glo_ok X G (d.fact 25 (f := .glo "TooMany") rfl), (He.exc_ok (d.fact 52 (f := .exc "TooMany") rfl)).2.1, (He.exc_ok (d.fact 52 (f := .exc "TooMany") rfl)).2.2.1, (He.exc_ok (d.fact 52 (f := .exc "TooMany") rfl)).2.2.2⟩ }
theorem law_at {w : World} {K : PySem.W.Frag} {h : Heap} {mg : Str → Option Value} {f : Addr} (X : K.In h) (G : h.Ns mainGlobals mg) (hfa : mg ("law" : Str) = some (.ref f)) (c : He.SaysX faK fnK [] tfK exK w h K) : LawAtD PySem.Challenge.rw_inkforall_k73_whole_growth_of_lines w K 7 63 "script" mg f h := by
  have d := c.t.d
  have T := facts X G c
  let a := adK K
  obtain ⟨fd_live_rooms, F_live_rooms⟩ := d.def_ 0 (d := dD_live_rooms) rfl
  obtain ⟨fd_goals_from, F_goals_from⟩ := d.def_ 1 (d := dD_goals_from) rfl
  obtain ⟨fd_back_goals, F_back_goals⟩ := d.def_ 2 (d := dD_back_goals) rfl
  obtain ⟨fd_rings_from, F_rings_from⟩ := d.def_ 3 (d := dD_rings_from) rfl
  obtain ⟨fd_longest, F_longest⟩ := d.def_ 4 (d := dD_longest) rfl
  obtain ⟨fd_growth, F_growth⟩ := d.def_ 5 (d := dD_growth) rfl
  obtain ⟨fd_is_between, F_is_between⟩ := d.def_ 6 (d := dD_is_between) rfl
  obtain ⟨fd_is_table, F_is_table⟩ := d.def_ 7 (d := dD_is_table) rfl
  obtain ⟨fd_are_truths, F_are_truths⟩ := d.def_ 8 (d := dD_are_truths) rfl
  obtain ⟨fd_Machine___init__, F_Machine___init__⟩ := d.def_ 9 (d := dD_Machine___init__) rfl
  obtain ⟨fd_explored, F_explored⟩ := d.def_ 10 (d := dD_explored) rfl
  obtain ⟨fd_kinds_of, F_kinds_of⟩ := d.def_ 11 (d := dD_kinds_of) rfl
  obtain ⟨fd_shrunk, F_shrunk⟩ := d.def_ 12 (d := dD_shrunk) rfl
  obtain ⟨fd_least, F_least⟩ := d.def_ 13 (d := dD_least) rfl
  obtain ⟨fd__law_mixed, F__law_mixed⟩ := d.def_ 14 (d := dD__law_mixed) rfl
  obtain ⟨fd__law_take, F__law_take⟩ := d.def_ 15 (d := dD__law_take) rfl
  obtain ⟨fd__law_pick, F__law_pick⟩ := d.def_ 16 (d := dD__law_pick) rfl
  obtain ⟨fd__law_table, F__law_table⟩ := d.def_ 17 (d := dD__law_table) rfl
  obtain ⟨fd__law_plan, F__law_plan⟩ := d.def_ 18 (d := dD__law_plan) rfl
  obtain ⟨fd__law_counts, F__law_counts⟩ := d.def_ 19 (d := dD__law_counts) rfl
  obtain ⟨fd__law_after, F__law_after⟩ := d.def_ 20 (d := dD__law_after) rfl
  obtain ⟨fd__law_growth, F__law_growth⟩ := d.def_ 21 (d := dD__law_growth) rfl
  obtain ⟨fd__law_chain, F__law_chain⟩ := d.def_ 22 (d := dD__law_chain) rfl
  obtain ⟨fd__law_begun, F__law_begun⟩ := d.def_ 23 (d := dD__law_begun) rfl
  obtain ⟨fd_law, F_law⟩ := d.def_ 24 (d := dD_law) rfl
  have ef := hfa.symm.trans (He.glo_ok X G (d.fact 23 (f := .glo "law") rfl))
  cases ef
  refine ⟨fd_law, tfK.map (He.cT K), spLaw K (tfK.map fun p => ((He.cT K p).2, tqK p)), fun q hq => ?_, fun q hq => ?_, fun q hq => ?_, fun s u => FunD.bindsA (ps := ["script"]) F_law (fun _ _ _ _ _ _ us hl => match us, hl with | [_], _ => rfl) s [u] rfl, fun H a0 ns hl hT hS => ⟨a0, ns, rfl, hS, hl, fun q hq => ?_, fun _ => rfl⟩, fun base kin nsb tb => ?_⟩
  · obtain ⟨p, hp, rfl⟩ := List.mem_map.mp hq; exact c.empty p hp
  · obtain ⟨p, hp, rfl⟩ := List.mem_map.mp hq; exact c.out p hp
  · obtain ⟨p, hp, rfl⟩ := List.mem_map.mp hq; exact PySem.W.codeHd_of_K X (c.hd p hp)
  · obtain ⟨p, hp, rfl⟩ := List.mem_map.mp hq; exact hT _ (List.mem_map.mpr ⟨p, hp, rfl⟩)
  have tq_one : ∀ {q t : He.Defn}, q ∈ tfK → t ∈ tfK → (He.cT K q).2 = (He.cT K t).2 → tqK q = tqK t := fun {q t} hq ht e => by
    have ex := c.more
    simp only [exK, decide_eq_true_eq] at ex
    simp only [tfK, List.mem_cons, List.not_mem_nil, or_false] at hq ht
    rcases hq with rfl | rfl <;> rcases ht with rfl | rfl
    · rfl
    · exact absurd e ex
    · exact absurd e.symm ex
    · rfl
  have c_live_rooms : Cal PySem.Challenge.rw_inkforall_k73_whole_growth_of_lines.prog w K mg base 1 "live_rooms" ["machine"] (sp_live_rooms a) := ⟨_, fd_live_rooms, (He.glo_ok X G (d.fact 0 (f := .glo "live_rooms") rfl)), F_live_rooms.kp, (F_live_rooms.bindsN (ps := ["machine"]) fun _ _ _ _ _ _ us hl => match us, hl with | [_], _ => rfl), fun W => fn_ok F_live_rooms sc_live_rooms (fun W cdv A outer s H B E Ed hE hr => body_live_rooms (T) hr) (run_live_rooms a) W⟩
  have c_goals_from : Cal PySem.Challenge.rw_inkforall_k73_whole_growth_of_lines.prog w K mg base 1 "goals_from" ["machine", "live", "room"] (sp_goals_from a) := ⟨_, fd_goals_from, (He.glo_ok X G (d.fact 1 (f := .glo "goals_from") rfl)), F_goals_from.kp, (F_goals_from.bindsN (ps := ["machine", "live", "room"]) fun _ _ _ _ _ _ us hl => match us, hl with | [_, _, _], _ => rfl), fun W => fn_ok F_goals_from sc_goals_from (fun W cdv A outer s H B E Ed hE hr => body_goals_from (T) hr) (run_goals_from a) W⟩
  have c_back_goals : Cal PySem.Challenge.rw_inkforall_k73_whole_growth_of_lines.prog w K mg base 1 "back_goals" ["machine", "ways", "room"] (sp_back_goals a) := ⟨_, fd_back_goals, (He.glo_ok X G (d.fact 2 (f := .glo "back_goals") rfl)), F_back_goals.kp, (F_back_goals.bindsN (ps := ["machine", "ways", "room"]) fun _ _ _ _ _ _ us hl => match us, hl with | [_, _, _], _ => rfl), fun W => fn_ok F_back_goals sc_back_goals (fun W cdv A outer s H B E Ed hE hr => body_back_goals (T) hr) (run_back_goals a) W⟩
  have c_rings_from : Cal PySem.Challenge.rw_inkforall_k73_whole_growth_of_lines.prog w K mg base 1 "rings_from" ["machine", "ways"] (sp_rings_from a) := ⟨_, fd_rings_from, (He.glo_ok X G (d.fact 3 (f := .glo "rings_from") rfl)), F_rings_from.kp, (F_rings_from.bindsN (ps := ["machine", "ways"]) fun _ _ _ _ _ _ us hl => match us, hl with | [_, _], _ => rfl), fun W => fn_ok F_rings_from sc_rings_from (fun W cdv A outer s H B E Ed hE hr => body_rings_from (T) hr) (run_rings_from a) W⟩
  have c_longest : Cal PySem.Challenge.rw_inkforall_k73_whole_growth_of_lines.prog w K mg base 1 "longest" ["machine", "live"] (sp_longest a) := ⟨_, fd_longest, (He.glo_ok X G (d.fact 4 (f := .glo "longest") rfl)), F_longest.kp, (F_longest.bindsN (ps := ["machine", "live"]) fun _ _ _ _ _ _ us hl => match us, hl with | [_, _], _ => rfl), fun W => fn_ok F_longest sc_longest (fun W cdv A outer s H B E Ed hE hr => body_longest (T) hr) (run_longest a) W⟩
  have c_growth : Cal PySem.Challenge.rw_inkforall_k73_whole_growth_of_lines.prog w K mg base 2 "growth" ["machine"] (sp_growth a) := ⟨_, fd_growth, (He.glo_ok X G (d.fact 5 (f := .glo "growth") rfl)), F_growth.kp, (F_growth.bindsN (ps := ["machine"]) fun _ _ _ _ _ _ us hl => match us, hl with | [_], _ => rfl), fun W => fn_ok F_growth sc_growth (fun W cdv A outer s H B E Ed hE hr => body_growth (T) c_live_rooms c_goals_from c_back_goals c_rings_from c_longest hr) (run_growth a) W⟩
  have c_is_between : Cal PySem.Challenge.rw_inkforall_k73_whole_growth_of_lines.prog w K mg base 1 "is_between" ["thing", "least", "most"] (sp_is_between a) := ⟨_, fd_is_between, (He.glo_ok X G (d.fact 6 (f := .glo "is_between") rfl)), F_is_between.kp, (F_is_between.bindsN (ps := ["thing", "least", "most"]) fun _ _ _ _ _ _ us hl => match us, hl with | [_, _, _], _ => rfl), fun W => fn_ok F_is_between sc_is_between (fun W cdv A outer s H B E Ed hE hr => body_is_between (T) hr) (run_is_between a) W⟩
  have c_is_table : Cal PySem.Challenge.rw_inkforall_k73_whole_growth_of_lines.prog w K mg base 2 "is_table" ["thing", "colours"] (sp_is_table a) := ⟨_, fd_is_table, (He.glo_ok X G (d.fact 7 (f := .glo "is_table") rfl)), F_is_table.kp, (F_is_table.bindsN (ps := ["thing", "colours"]) fun _ _ _ _ _ _ us hl => match us, hl with | [_, _], _ => rfl), fun W => fn_ok F_is_table sc_is_table (fun W cdv A outer s H B E Ed hE hr => body_is_table (T) c_is_between hr) (run_is_table a) W⟩
  have c_are_truths : Cal PySem.Challenge.rw_inkforall_k73_whole_growth_of_lines.prog w K mg base 1 "are_truths" ["thing", "size"] (sp_are_truths a) := ⟨_, fd_are_truths, (He.glo_ok X G (d.fact 8 (f := .glo "are_truths") rfl)), F_are_truths.kp, (F_are_truths.bindsN (ps := ["thing", "size"]) fun _ _ _ _ _ _ us hl => match us, hl with | [_, _], _ => rfl), fun W => fn_ok F_are_truths sc_are_truths (fun W cdv A outer s H B E Ed hE hr => body_are_truths (T) hr) (run_are_truths a) W⟩
  have c_Machine : CalI PySem.Challenge.rw_inkforall_k73_whole_growth_of_lines.prog w K mg base 3 "Machine" a.Machine ["self", "colours", "table", "good"] (sp_Machine___init__ a) := ⟨_, fd_Machine___init__, (He.glo_ok X G (d.fact 26 (f := .glo "Machine") rfl)), He.mkr_ok (d.fact 47 (f := .mkr "Machine") rfl), (F_Machine___init__.bindsN (ps := ["self", "colours", "table", "good"]) fun _ _ _ _ _ _ us hl => match us, hl with | [_, _, _, _], _ => rfl), fun W => init_ok F_Machine___init__ sc_Machine___init__ (fun W cdv A outer s H H0 B E Ed hE hr => body_Machine___init__ (T) c_is_between c_is_table c_are_truths hr) (run_Machine___init__ a) (by decide) W⟩
  have c_explored : CalF PySem.Challenge.rw_inkforall_k73_whole_growth_of_lines.prog w K mg 2 1 "explored" ["colours", "first", "step", "is_good"] (sp_explored a) := ⟨_, fd_explored, (He.glo_ok X G (d.fact 9 (f := .glo "explored") rfl)), F_explored.kp, (F_explored.bindsN (ps := ["colours", "first", "step", "is_good"]) fun _ _ _ _ _ _ us hl => match us, hl with | [_, _, _, _], _ => rfl), fn_okF F_explored sc_explored (fun base M W Bm beh EV cdv A outer s H B E Ed hE sb hr => body_explored T EV sb hr) (run_explored a)⟩
  have c_kinds_of : Cal PySem.Challenge.rw_inkforall_k73_whole_growth_of_lines.prog w K mg base 1 "kinds_of" ["rows", "good"] (sp_kinds_of a) := ⟨_, fd_kinds_of, (He.glo_ok X G (d.fact 10 (f := .glo "kinds_of") rfl)), F_kinds_of.kp, (F_kinds_of.bindsN (ps := ["rows", "good"]) fun _ _ _ _ _ _ us hl => match us, hl with | [_, _], _ => rfl), fun W => fn_ok F_kinds_of sc_kinds_of (fun W cdv A outer s H B E Ed hE hr => body_kinds_of (T) hr) (run_kinds_of a) W⟩
  have c_shrunk : CalT PySem.Challenge.rw_inkforall_k73_whole_growth_of_lines.prog w K mg base (tfK.map fun p => ((He.cT K p).2, tqK p)) 5 "shrunk" ["colours", "rows", "good"] (sp_shrunk a) := ⟨_, fd_shrunk, (He.glo_ok X G (d.fact 11 (f := .glo "shrunk") rfl)), F_shrunk.kp, (F_shrunk.bindsN (ps := ["colours", "rows", "good"]) fun _ _ _ _ _ _ us hl => match us, hl with | [_, _, _], _ => rfl), fun W eT => fn_okC (k := 4) W F_shrunk sc_shrunk (fun ds Q E h => (run_shrunk a ⟨"", ⟨[], [], none, [], [], none, []⟩, .Constant .none 0 ⟨0, 0, 0, 0⟩, defScope st_shrunk, []⟩ ⟨"", ⟨[], [], none, [], [], none, []⟩, .Constant .none 0 ⟨0, 0, 0, 0⟩, defScope st_shrunk, []⟩ ds Q E h).1) (fun cdv A outer s H B E Ed hE hcd hr => by
      have M : LamMk (cxB PySem.Challenge.rw_inkforall_k73_whole_growth_of_lines.prog w K mg base N_shrunk "shrunk" st_shrunk (He.fAd K ("shrunk", none)) cdv A outer s H E) W.T := by
        obtain ⟨oc, od, dV, kV, doc, pm, an, cdv', ct, osl, e1, lk, hcd', _, _⟩ := F_shrunk.ex
        obtain ⟨c0, ec⟩ := He.codeIn_ref hcd'
        have e2 : fd_shrunk.code = .ref c0 := by rw [e1, ← ec] <;> rfl
        have e3 := He.codeOf_eq (p := ("shrunk", none)) lk e2
        have hmem : (("shrunk", none) : He.Defn) ∈ tfK := by decide
        have tq := tb (He.cT K ("shrunk", none)) (List.mem_map.mpr ⟨_, hmem, rfl⟩)
        refine ⟨_, _, tq, ?_, ?_, fun p hp hpP => ?_⟩
        · show cdv = .ref (He.codeOf K ("shrunk", none))
          rw [e3, ← hcd, e2]
        · rw [eT]; exact List.mem_map.mpr ⟨("shrunk", none), hmem, by rw [tqK_shrunk] <;> rfl⟩
        · rw [eT] at hp
          obtain ⟨q, hq, rfl⟩ := List.mem_map.mp hp
          exact (tq_one hq hmem hpP).trans tqK_shrunk
      obtain ⟨k0, k1, hps⟩ := body_shrunk T c_kinds_of c_Machine c_explored (E := E) (Ed := Ed) (W := W) (H0 := H) (B := B) (hE := hE) M hr
      exact ⟨_, hps, fun ds Q E h => (run_shrunk a k0 k1 ds Q E h).2⟩)⟩
  have c_least : CalT PySem.Challenge.rw_inkforall_k73_whole_growth_of_lines.prog w K mg base (tfK.map fun p => ((He.cT K p).2, tqK p)) 6 "least" ["machine"] (sp_least a) := ⟨_, fd_least, (He.glo_ok X G (d.fact 12 (f := .glo "least") rfl)), F_least.kp, (F_least.bindsN (ps := ["machine"]) fun _ _ _ _ _ _ us hl => match us, hl with | [_], _ => rfl), fun W eT => fn_okC (k := 5) W F_least sc_least (fun ds Q E h => (run_least a ⟨"", ⟨[], [], none, [], [], none, []⟩, .Constant .none 0 ⟨0, 0, 0, 0⟩, defScope st_least, []⟩ ⟨"", ⟨[], [], none, [], [], none, []⟩, .Constant .none 0 ⟨0, 0, 0, 0⟩, defScope st_least, []⟩ ds Q E h).1) (fun cdv A outer s H B E Ed hE hcd hr => by
      have M : LamMk (cxB PySem.Challenge.rw_inkforall_k73_whole_growth_of_lines.prog w K mg base N_least "least" st_least (He.fAd K ("least", none)) cdv A outer s H E) W.T := by
        obtain ⟨oc, od, dV, kV, doc, pm, an, cdv', ct, osl, e1, lk, hcd', _, _⟩ := F_least.ex
        obtain ⟨c0, ec⟩ := He.codeIn_ref hcd'
        have e2 : fd_least.code = .ref c0 := by rw [e1, ← ec] <;> rfl
        have e3 := He.codeOf_eq (p := ("least", none)) lk e2
        have hmem : (("least", none) : He.Defn) ∈ tfK := by decide
        have tq := tb (He.cT K ("least", none)) (List.mem_map.mpr ⟨_, hmem, rfl⟩)
        refine ⟨_, _, tq, ?_, ?_, fun p hp hpP => ?_⟩
        · show cdv = .ref (He.codeOf K ("least", none))
          rw [e3, ← hcd, e2]
        · rw [eT]; exact List.mem_map.mpr ⟨("least", none), hmem, by rw [tqK_least] <;> rfl⟩
        · rw [eT] at hp
          obtain ⟨q, hq, rfl⟩ := List.mem_map.mp hp
          exact (tq_one hq hmem hpP).trans tqK_least
      obtain ⟨k0, k1, hps⟩ := body_least T c_explored c_shrunk (E := E) (Ed := Ed) (W := W) (H0 := H) (B := B) (hE := hE) eT M hr
      exact ⟨_, hps, fun ds Q E h => (run_least a k0 k1 ds Q E h).2⟩)⟩
  have c__law_mixed : Cal PySem.Challenge.rw_inkforall_k73_whole_growth_of_lines.prog w K mg base 1 "_law_mixed" ["draw"] (sp__law_mixed a) := ⟨_, fd__law_mixed, (He.glo_ok X G (d.fact 13 (f := .glo "_law_mixed") rfl)), F__law_mixed.kp, (F__law_mixed.bindsN (ps := ["draw"]) fun _ _ _ _ _ _ us hl => match us, hl with | [_], _ => rfl), fun W => fn_ok F__law_mixed sc__law_mixed (fun W cdv A outer s H B E Ed hE hr => body__law_mixed (T) hr) (run__law_mixed a) W⟩
  have c__law_take : Cal PySem.Challenge.rw_inkforall_k73_whole_growth_of_lines.prog w K mg base 2 "_law_take" ["draw", "amount"] (sp__law_take a) := ⟨_, fd__law_take, (He.glo_ok X G (d.fact 14 (f := .glo "_law_take") rfl)), F__law_take.kp, (F__law_take.bindsN (ps := ["draw", "amount"]) fun _ _ _ _ _ _ us hl => match us, hl with | [_, _], _ => rfl), fun W => fn_ok F__law_take sc__law_take (fun W cdv A outer s H B E Ed hE hr => body__law_take (T) c__law_mixed hr) (run__law_take a) W⟩
  have c__law_pick : Cal PySem.Challenge.rw_inkforall_k73_whole_growth_of_lines.prog w K mg base 3 "_law_pick" ["draw", "some"] (sp__law_pick a) := ⟨_, fd__law_pick, (He.glo_ok X G (d.fact 15 (f := .glo "_law_pick") rfl)), F__law_pick.kp, (F__law_pick.bindsN (ps := ["draw", "some"]) fun _ _ _ _ _ _ us hl => match us, hl with | [_, _], _ => rfl), fun W => fn_ok F__law_pick sc__law_pick (fun W cdv A outer s H B E Ed hE hr => body__law_pick (T) c__law_take hr) (run__law_pick a) W⟩
  have c__law_table : Cal PySem.Challenge.rw_inkforall_k73_whole_growth_of_lines.prog w K mg base 4 "_law_table" ["draw", "rooms", "colours"] (sp__law_table a) := ⟨_, fd__law_table, (He.glo_ok X G (d.fact 16 (f := .glo "_law_table") rfl)), F__law_table.kp, (F__law_table.bindsN (ps := ["draw", "rooms", "colours"]) fun _ _ _ _ _ _ us hl => match us, hl with | [_, _, _], _ => rfl), fun W => fn_ok F__law_table sc__law_table (fun W cdv A outer s H B E Ed hE hr => body__law_table (T) c__law_take c__law_pick hr) (run__law_table a) W⟩
  have c__law_plan : Cal PySem.Challenge.rw_inkforall_k73_whole_growth_of_lines.prog w K mg base 5 "_law_plan" ["draw", "most"] (sp__law_plan a) := ⟨_, fd__law_plan, (He.glo_ok X G (d.fact 17 (f := .glo "_law_plan") rfl)), F__law_plan.kp, (F__law_plan.bindsN (ps := ["draw", "most"]) fun _ _ _ _ _ _ us hl => match us, hl with | [_, _], _ => rfl), fun W => fn_ok F__law_plan sc__law_plan (fun W cdv A outer s H B E Ed hE hr => body__law_plan (T) c__law_take c__law_pick c__law_table hr) (run__law_plan a) W⟩
  have c__law_counts : Cal PySem.Challenge.rw_inkforall_k73_whole_growth_of_lines.prog w K mg base 1 "_law_counts" ["plan", "amount"] (sp__law_counts a) := ⟨_, fd__law_counts, (He.glo_ok X G (d.fact 18 (f := .glo "_law_counts") rfl)), F__law_counts.kp, (F__law_counts.bindsN (ps := ["plan", "amount"]) fun _ _ _ _ _ _ us hl => match us, hl with | [_, _], _ => rfl), fun W => fn_ok F__law_counts sc__law_counts (fun W cdv A outer s H B E Ed hE hr => body__law_counts (T) hr) (run__law_counts a) W⟩
  have c__law_after : Cal PySem.Challenge.rw_inkforall_k73_whole_growth_of_lines.prog w K mg base 1 "_law_after" ["plan", "room"] (sp__law_after a) := ⟨_, fd__law_after, (He.glo_ok X G (d.fact 19 (f := .glo "_law_after") rfl)), F__law_after.kp, (F__law_after.bindsN (ps := ["plan", "room"]) fun _ _ _ _ _ _ us hl => match us, hl with | [_, _], _ => rfl), fun W => fn_ok F__law_after sc__law_after (fun W cdv A outer s H B E Ed hE hr => body__law_after (T) hr) (run__law_after a) W⟩
  have c__law_growth : Cal PySem.Challenge.rw_inkforall_k73_whole_growth_of_lines.prog w K mg base 2 "_law_growth" ["plan"] (sp__law_growth a) := ⟨_, fd__law_growth, (He.glo_ok X G (d.fact 20 (f := .glo "_law_growth") rfl)), F__law_growth.kp, (F__law_growth.bindsN (ps := ["plan"]) fun _ _ _ _ _ _ us hl => match us, hl with | [_], _ => rfl), fun W => fn_ok F__law_growth sc__law_growth (fun W cdv A outer s H B E Ed hE hr => body__law_growth (T) c__law_after c__law_counts hr) (run__law_growth a) W⟩
  have c__law_chain : Cal PySem.Challenge.rw_inkforall_k73_whole_growth_of_lines.prog w K mg base 3 "_law_chain" ["draw"] (sp__law_chain a) := ⟨_, fd__law_chain, (He.glo_ok X G (d.fact 21 (f := .glo "_law_chain") rfl)), F__law_chain.kp, (F__law_chain.bindsN (ps := ["draw"]) fun _ _ _ _ _ _ us hl => match us, hl with | [_], _ => rfl), fun W => fn_ok F__law_chain sc__law_chain (fun W cdv A outer s H B E Ed hE hr => body__law_chain (T) c__law_take hr) (run__law_chain a) W⟩
  have cw_growth_machine : CalW PySem.Challenge.rw_inkforall_k73_whole_growth_of_lines.prog w K mg base 2 "growth" ["machine"] (sp_growth a) 0 ["machine"] [0] := by
    obtain ⟨f0, fd0, h1, h2, h3, h4⟩ := c_growth.ex
    exact ⟨_, fd_growth, (He.glo_ok X G (d.fact 5 (f := .glo "growth") rfl)), F_growth.kp, kwB_of F_growth (fun _ _ _ _ _ _ us ws l1 l2 => match us, ws, l1, l2 with | [], [_], _, _ => rfl), fun W => fn_ok F_growth sc_growth (fun W cdv A outer s H B E Ed hE hr => body_growth (T) c_live_rooms c_goals_from c_back_goals c_rings_from c_longest hr) (run_growth a) W⟩
  have Fb : DL.FnOk PySem.Challenge.rw_inkforall_k73_whole_growth_of_lines.prog w K mg base (L2.CX PySem.Challenge.rw_inkforall_k73_whole_growth_of_lines.prog w) 1 (He.fAd K ("_law_begun", none)) fd__law_begun ["script"] (spBegun K) := fund_ok F__law_begun sc__law_begun (fun vs H Q E ⟨a0, ns, e, _⟩ => by rw [e]; rfl) (fun cdv A outer s H vs Q E hr h0 => ⟨_, body__law_begun T.z_abs, pure_begun vs H Q E h0⟩)
  refine law_ok (s0 := (defBody st_law).getD 0 (.Pass ⟨0, 0, 0, 0⟩)) (rest := (defBody st_law).drop 1) F_law sc_law (by decide) (by rfl) (fun cdv A outer s H E hr => ?_) fun W cdv A outer s H H0 B E eT hcd hr => ?_
  · exact ps_set (i := 1) sc_law.nd rfl (.inl rfl) (DL.pe_call Fb (hr.mono (by decide)) rfl (He.glo_ok X G (d.fact 22 (f := .glo "_law_begun") rfl)) F__law_begun.kp (F__law_begun.bindsN (ps := ["script"]) fun _ _ _ _ _ _ us hl => match us, hl with | [_], _ => rfl) .nil passL (pa_cons (pe_var (i := 0) rfl (.inl rfl) (by decide) (by decide)) pa_nil))
  · exact ⟨_, body_law T c__law_pick c__law_chain c__law_plan c__law_growth c_Machine c_growth c__law_counts cw_growth_machine c_least (E := E) (Ed := noE) (W := W) (H0 := H0) (B := B) (hE := fun _ _ _ h => h.elim) eT hr, fun ns Q hq => run_law a ns Q noE hq⟩
end DL
-- K73yb
set_option Elab.async false
set_option linter.all false
set_option maxRecDepth 100000
set_option maxHeartbeats 2000000
set_option autoImplicit false
namespace DL
open PySem PySem.Spec L2
open PyProof.Rows hiding St
abbrev RR : PySem.W.OpenRow := PySem.W.OpenLaw.row PySem.Challenge.rw_inkforall_k73_whole_growth_of_lines
abbrev hkK : PySem.W.Hook := He.hookX 6 faK fnK [] tfK exK
def obK (s : PySem.W.SharedT) : He.AlX := He.obsX 6 faK fnK [] tfK exK (HandSHeadRun.getT s)
theorem obK_eq (s : PySem.W.SharedT) : obK s = hkK.obs s.abs := He.obsX_eq (HandSHeadRun.getT_eq s)
def nm0 : List PySem.Str := ["live_rooms", "goals_from", "back_goals", "rings_from", "longest", "growth", "InkError", "NoLine", "NoMachine", "TooMany", "MOST_CELLS", "is_between", "need_line", "MOST_PAINTS", "MOST_ROOMS", "is_table", "are_truths", "Machine", "explored", "kinds_of", "shrunk", "least", "_law_begun", "_law_mixed", "_law_take", "_law_pick", "_law_table", "_law_plan", "_law_counts", "_law_after", "_law_growth", "_law_chain"]
def nmK : List PySem.Str := nm0
set_option maxHeartbeats 0 in
theorem runK (w : World) : HandSHeadRun.RunEq RR (PySem.W.view RR.prog [38]) hkK obK 4000 nmK w := by
  intro os
  kernel_rfl
end DL
-- K73yc
set_option Elab.async false
set_option linter.all false
set_option maxRecDepth 100000
set_option maxHeartbeats 2000000
set_option autoImplicit false
namespace DL
open PySem PySem.Spec L2
open PyProof.Rows hiding St
end DL
open PySem PySem.W PySem.Calls PyProof.Rows
set_option maxHeartbeats 0 in
theorem PySem.Challenge.cw_inkforall_k73_whole_growth_of_lines_holds : PySem.Challenge.rw_inkforall_k73_whole_growth_of_lines.Holds := by
  w_on; o_law
  refine HandSHeadRun.head_any (r := OpenLaw.row PySem.Challenge.rw_inkforall_k73_whole_growth_of_lines) (q := view (OpenLaw.row PySem.Challenge.rw_inkforall_k73_whole_growth_of_lines).prog [38]) (H := DL.hkK) (ob := DL.obK) (M := 4000) (loose := DL.nmK) (d := HandSHeadRun.topDef (OpenLaw.row PySem.Challenge.rw_inkforall_k73_whole_growth_of_lines).prog 38) (kwd := []) DL.obK_eq
    (by kernel_rfl) (fun s => by kernel_rfl) DL.runK (by kernel_rfl) (by kernel_rfl) (by kernel_rfl) (by rfl) (by first | assumption | decide +kernel) (by decide +kernel) ⟨rfl, rfl, rfl, rfl, rfl, by decide +kernel⟩ ?hw ?hc
  case hw => w_witness2
  case hc =>
    refine DL.walk_D (l := PySem.Challenge.rw_inkforall_k73_whole_growth_of_lines) (n := 63) (k := 7) (x := "script") rfl (by decide) (by kernel_rfl) ⟨⟨rfl, by decide, by decide⟩, rfl⟩ ?F
    intro w mg fa h Y G hmg0
    obtain ⟨K, KX, c⟩ := Y
    have hmg : mg ("law" : PySem.Str) = some (.ref fa) := by
      have e : (HandSHeadRun.topDef (OpenLaw.row PySem.Challenge.rw_inkforall_k73_whole_growth_of_lines).prog 38).name = ("law" : PySem.Str) := by kernel_rfl
      rw [← e]
      exact hmg0
    exact ⟨K, KX, DL.law_at KX G hmg c⟩
namespace DL
end DL
